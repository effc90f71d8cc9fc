import PyProof.Rows.All
import Wide.All
import OpenK.AllK
import Wide.FinOn
import HandS.ForMost
import HandS.Walk
import HandS.Evl
import HandS.TupAny
import KE.KDictPairs
import HandS.TupMul
import HandS.TupLe
import HandS.Deep
import HandS.IsInst
import KE.GoesMore
import HandS.Conv
import HandS.More
import KE.SortData
import HandS.RaiseMore
import HandS.SetFor
import HandS.SetKeys
import HandS.Style
import HandS.TupSets
import PySem.Challenge.RW_sieverules_k10_outcomes
set_option Elab.async false
set_option linter.all false
set_option maxRecDepth 100000
set_option maxHeartbeats 4000000
/-! Tuples whose object is known: no dict of their own. -/
namespace Sv
open PySem L2 Evl PyProof.Rows

def ptup (its : List Value) : Obj := { cls := .type "tuple", data := .seq its.toArray }
/-- a new tuple -/
abbrev NewT (H : Hp) (xs : List V) (Q : VK) : Prop := ∀ p o, Obj.dict o = none → H p = none → Q (.ref p) (upd H p (.frz o (.tup xs)))
section
variable {X : Cx}
theorem lay_tup {pins : List (Addr × Obj)} {σ : L2.St} {H : Hp} {s : Shared} {xs : List V} {its : List Value} {Q : VK} {h' : Heap} {tk : Nat} (I : L2.Inv X pins σ H s) (k : ∀ b u, s.heap.get? b = some u → h'.get? b = some u) (hz : xs.length ≤ sizeLine) (r : Vals xs its) (hg : h'.get? s.heap.objs.size = some (ptup its)) (q : NewT H xs Q) :
    EP X pins σ Q (.ref s.heap.objs.size) { s with heap := h', toks := tk } :=
  ⟨.ref s.heap.objs.size, _, I.laid (t' := tk) (o := .frz (ptup its) (.tup xs)) k (Nat.le_refl _) ⟨hg, hz, its, r, ⟨_, hg, rfl, _, rfl⟩⟩, rfl, q _ (ptup its) rfl (I.hok.fresh (Nat.le_refl _))⟩
/-- a tuple of written items -/
def tTupF (t : TA) : TE := fun σ H Q => t σ H fun xs H1 => xs.length ≤ sizeLine ∧ NewT H1 xs Q
theorem pe_tupF {es : List Expr} {t : TA} {pos : Pos} {x1} (h : PA X es t) : PE X (.Tuple es x1 pos) (tTupF t) := by
  refine ⟨fun pins s σ H Q I hq => ?_⟩
  refine wpAny_Tuple_spliced (thn (h.run pos pins s σ H _ I hq) fun us s1 ⟨xs, H1, I1, r, z, q⟩ => ⟨by rw [← r.length]; exact z, ?_⟩)
  exact lay_tup (its := us) I1 (fun b u e => Heap.get?_push_of_some _ e) z r (Heap.get?_push_size _ rfl) q
/-- t + u -/
def rCatF (K : PySem.W.Frag) : R2 := fun x y H Q => ∃ a b xs ys, x = .ref a ∧ y = .ref b ∧ SqT K H a xs ∧ SqT K H b ys ∧ xs.length + ys.length ≤ sizeLine ∧
  (xs = [] → Q (.ref b) H) ∧ (xs ≠ [] → ys = [] → Q (.ref a) H) ∧ (xs ≠ [] → ys ≠ [] → NewT H (xs ++ ys) Q)
theorem op_catF : OpR X (binaryOp .Add) (rCatF X.K) := by
  intro pins s σ H x y v u Q I rx ry h
  obtain ⟨a, b, xs, ys, rfl, rfl, ha, hb, hz, q0, q1, q2⟩ := h
  cases rx
  cases ry
  obtain ⟨its, r1, p1, _⟩ := I.tuple ha
  obtain ⟨its2, r2, p2, _⟩ := I.tuple hb
  by_cases hx : xs = []
  · subst hx
    cases r1
    exact cat_tup0 p1 p2 ⟨.ref b, H, I, rfl, q0 rfl⟩
  · refine HT.cat_tup p1 p2 (fun z => hx (r1.nil_iff.mp z)) (fun z => ⟨.ref a, H, I, rfl, q1 hx (r2.nil_iff.mp z)⟩) (fun z => ?_) (by rw [← r1.length, ← r2.length]; exact hz)
    exact lay_tup (its := its ++ its2) (tk := s.toks) I (fun b ob q => Heap.get?_push_of_some _ q) (by rw [List.length_append]; exact hz) (r1.append r2) (Heap.get?_push_size _ rfl) (q2 hx fun w => z (r2.nil_iff.mpr w))
/-- t[lo:hi]: the whole of it is t itself -/
def rSlF (K : PySem.W.Frag) : V → Option Int → Option Int → Hp → VK → Prop := fun x lo hi H Q => ∃ a xs, x = .ref a ∧ SqT K H a xs ∧
  (HT.sIx xs.length 0 lo = 0 ∧ HT.sIx xs.length xs.length hi = xs.length → Q (.ref a) H) ∧ (¬ (HT.sIx xs.length 0 lo = 0 ∧ HT.sIx xs.length xs.length hi = xs.length) → NewT H (cutV xs lo hi) Q)
theorem sl_tupF : SlR X (rSlF X.K) := by
  intro pins s σ H x v vl vu lo hi sl Q I rx hs pl pu h
  obtain ⟨a, xs, rfl, hx, q1, q2⟩ := h
  cases rx
  obtain ⟨its, r, ht, hz⟩ := I.tuple hx
  have hlen : its.toArray.size = xs.length := by rw [List.size_toArray]; exact r.length.symm
  refine ⟨"tuple", _, PyProof.Rows.slot_tuple_getitem.lookup, ht.typeIs, ?_⟩
  by_cases hw : HT.sIx xs.length 0 lo = 0 ∧ HT.sIx xs.length xs.length hi = xs.length
  · exact getItem_tuple_whole ht hs pl pu (by rw [hlen]; exact hw) ⟨.ref a, H, I, rfl, q1 hw⟩
  · refine HT.getItem_tuple_cut ht hs pl pu (by rw [hlen]; exact hw) ?_ (by rw [hlen]; exact hz)
    rw [hlen]
    exact lay_tup (tk := s.toks) I (fun b ob q => Heap.get?_push_of_some _ q) (Nat.le_trans (cutV_length xs lo hi) hz) ((r.drop (HT.sIx xs.length 0 lo)).take (HT.sIx xs.length xs.length hi - HT.sIx xs.length 0 lo)) (Heap.get?_push_size _ rfl) (q2 hw)
/-- tuple(x), a list or tuple -/
def rTupleF (K : PySem.W.Frag) : List V → Hp → VK → Prop := fun xs H Q => ∃ p ys, xs = [.ref p] ∧ ((SqL K H p ys ∧ NewT H ys Q) ∨ (SqT K H p ys ∧ Q (.ref p) H))
theorem call_tupleF : CallR X (.type "tuple") (rTupleF X.K) := by
  intro pins s σ H xs us Q I r h
  obtain ⟨p, ys, rfl, h⟩ := h
  obtain ⟨u, rfl, rx⟩ := vals1 r
  cases rx
  rcases h with ⟨hq, q⟩ | ⟨hq, q⟩
  · obtain ⟨its, r', pl, hz⟩ := I.list hq
    have hlen := r'.length
    refine call_tuple_list pl.isList (fun h' kp => ?_) (by simp only [List.size_toArray] <;> omega)
    have I1 : L2.Inv X pins σ H { s with heap := h' } := I.kept (t' := s.toks) kp
    exact lay_tup (its := its) (tk := s.toks) I1 (fun b ob q => Heap.get?_push_of_some _ q) hz r' (Heap.get?_push_size _ rfl) q
  · obtain ⟨its, r', pl, hz⟩ := I.tuple hq
    exact call_tuple_same pl ⟨.ref p, H, I, rfl, q⟩
/-! dict(t), t a tuple of pairs -/
def Plain (K : PySem.W.Frag) (H : Hp) (a : Addr) : Prop := (∃ o xs, H a = some (.frz o (.tup xs)) ∧ Obj.dict o = none) ∨ ∃ o, K.lookup a = some o ∧ o.dict = none
theorem plain_seq {pins : List (Addr × Obj)} {σ : L2.St} {H : Hp} {s : Shared} {a : Addr} {its : Array Value} (I : L2.Inv X pins σ H s) (hp : Plain X.K H a) (ht : IsTup s.heap a its) : PlainSeq "tuple" s.heap a its := by
  obtain ⟨o, ho, hc, n, hd⟩ := ht
  refine ⟨o, n, ho, hc, ?_, hd⟩
  rcases hp with ⟨o', xs, h1, h2⟩ | ⟨o', h1, h2⟩
  · obtain ⟨h3, _⟩ := (show ObjOk X.prog X.w H s.heap a (.frz o' (.tup xs)) from I.hok a _ h1)
    rw [ho] at h3
    cases h3
    exact h2
  · have h3 := I.kIn a o' h1
    rw [ho] at h3
    cases h3
    exact h2
theorem pairsT {pins : List (Addr × Obj)} {σ : L2.St} {H : Hp} {s : Shared} (I : L2.Inv X pins σ H s) : ∀ {ps : List Addr} {kvs : List (Key × V)}, Paired (fun p kv => SqT X.K H p [kV kv.1, kv.2]) ps kvs →
    ∃ (prs : List (Key × Value)) (vps : List (Value × Value)), KV kvs prs ∧ prs.length = ps.length ∧ vps.length = ps.length ∧ ∀ (j : Nat) (b : Addr), ps[j]? = some b → ∃ k u v, prs[j]? = some (k, v) ∧ vps[j]? = some (u, v) ∧ IsTup s.heap b #[u, v] ∧ keyIs k u = true
  | _, _, .nil => ⟨[], [], .nil, rfl, rfl, fun j q e => by simp at e⟩
  | _, _, .cons (a := p) (b := kv) h t => by
    obtain ⟨prs, vps, r, hl, hl2, hp⟩ := pairsT I t
    obtain ⟨its, rv, ht, _⟩ := I.tuple h
    obtain ⟨u, y, ei, ru, ry⟩ := vals2 rv
    subst ei
    refine ⟨(kv.1, y) :: prs, (u, y) :: vps, .cons ⟨rfl, ry⟩ r, by rw [List.length_cons, List.length_cons, hl], by rw [List.length_cons, List.length_cons, hl2], fun j b e => ?_⟩
    cases j with
    | zero =>
      cases e
      exact ⟨kv.1, u, y, rfl, rfl, ht, kV_is (P := X.prog) (w := X.w) ru⟩
    | succ j =>
      obtain ⟨k, u', v', e1, e2, e3⟩ := hp j b (by simpa using e)
      exact ⟨k, u', v', by simpa using e1, by simpa using e2, e3⟩
def rDictF (K : PySem.W.Frag) : List V → Hp → VK → Prop := fun xs H Q => ∃ (a : Addr) (ps : List Addr) (kvs : List (Key × V)), xs = [.ref a] ∧ SqT K H a (ps.map V.ref) ∧ Plain K H a ∧ Paired (fun p kv => SqT K H p [kV kv.1, kv.2]) ps kvs ∧
    ∀ p, H p = none → Q (.ref p) (upd H p (.dK (mergeK [] kvs)))
theorem call_dictF (hcalm : X.calm = true) : CallR X (.type "dict") (rDictF X.K) := by
  intro pins s σ H xs us Q I r q
  obtain ⟨a, ps, kvs, ex, hq, hpl, hp, q⟩ := q
  subst ex
  obtain ⟨u, eu, rx⟩ := vals1 r
  subst eu
  cases rx
  obtain ⟨its, rv, pl, hz⟩ := I.tuple hq
  have ei := refs_at rv
  subst ei
  rw [List.length_map] at hz
  obtain ⟨prs, vps, rel, hl, hl2, hpr⟩ := pairsT I hp
  have hseq := plain_seq I hpl pl
  refine PySem.call_dict_pairs (knd := mixKind X.prog X.w) (kvs := prs) (PairArg.tuple a (ps.map Value.ref).toArray (fun j => ps.getD j 0) vps) (I.ok.hd hcalm) ⟨hseq, by simp [hl2], fun j k v hj => ?_⟩ ⟨by rw [hl, hl2], fun i key v hi => ?_⟩ (by rw [hl2]; exact hz) fun h' tk hd' k => ?_
  · have hjl : j < ps.length := by rw [← hl2]; exact (List.getElem?_eq_some_iff.mp hj).1
    have hb : ps[j]? = some ps[j] := List.getElem?_eq_getElem hjl
    obtain ⟨k', u', v', e1, e2, e3, e4⟩ := hpr j _ hb
    rw [hj] at e2
    cases e2
    have eg : ps.getD j 0 = ps[j] := by rw [List.getD_eq_getElem?_getD, hb]; rfl
    show _ = some (Value.ref (ps.getD j 0)) ∧ PairAt s.heap (ps.getD j 0) k v
    rw [eg]
    exact ⟨by simp [hb], .inl e3⟩
  · have hjl : i < ps.length := by rw [← hl2]; exact (List.getElem?_eq_some_iff.mp hi).1
    have hb : ps[i]? = some ps[i] := List.getElem?_eq_getElem hjl
    obtain ⟨k', u', v', e1, e2, e3, e4⟩ := hpr i _ hb
    rw [show vps[i]? = some (key, v) from hi] at e2
    cases e2
    exact ⟨k', e1, e4⟩
  · have hm : (s.heap.objs.size == sysModules) = false := beq_eq_false_iff_ne.mpr (Nat.ne_of_gt I.big)
    have hlen : (mergeK [] kvs).length ≤ sizeLine := by
      refine Nat.le_trans (length_mergeK kvs []) ?_
      rw [List.length_nil, Nat.zero_add, rel.length, hl]
      exact hz
    exact ⟨.ref s.heap.objs.size, upd H s.heap.objs.size (.dK (mergeK [] kvs)), I.laid (t' := tk) (fun b o e => k b o (fun z => nomatch z) e) (Nat.le_refl _) (show ObjOk X.prog X.w _ _ _ (.dK (mergeK [] kvs)) from ⟨hlen, hm, merged [] prs, KV.merge rel .nil, hd'⟩), rfl, q _ (I.hok.fresh (Nat.le_refl _))⟩
end
end Sv

/-! Data in the heap, and what readings evaluate to as functions of data. -/
namespace Sv
open PySem L2 Evl

abbrev Fg := PySem.W.Frag
abbrev Av := Addr → Prop

def kD : Key → PyData
  | .inl i => .int i
  | .inr x => .str x

/-! ### nodes: lists, tuples, dicts, objects -/
inductive Shp where
  | lst
  | tup
  | dk (ks : List Key)
  | dt (ks : List (List Key))
  | ob (c : Str) (ns : List Str)
/-- the class by its name -/
def clsAt (K : Fg) (c : Str) (C : Addr) : Prop := PySem.W.nsIn K mainGlobals c = some (some (.ref C))
def Node (K : Fg) (H : Hp) (a : Addr) (vs : List V) : Shp → Prop
  | .lst => H a = some (.lst vs)
  | .tup => ∃ o, H a = some (.frz o (.tup vs)) ∧ Obj.dict o = none
  | .dk ks => ks.length = vs.length ∧ H a = some (.dK (ks.zip vs))
  | .dt ks => ks.length = vs.length ∧ H a = some (.dT (ks.zip vs))
  | .ob c ns => ns.length = vs.length ∧ ∃ C dx, clsAt K c C ∧ H a = some (.ins C dx (ns.zip vs))
/-- the keys, with a mark ahead where they are tuples, or names of an object's fields -/
def keysOf : Shp → Option (List PyData)
  | .dk ks => some (ks.map kD)
  | .dt ks => some (.list [] :: ks.map fun k => .tuple (k.map kD))
  | .ob c ns => some (.list [.str c] :: ns.map .str)
  | _ => none
def isMk : PyData → Bool
  | .list _ => true
  | _ => false
def foot (a : Addr) : Shp → List Addr
  | .tup => []
  | _ => [a]

def keyB : PyData → Bool
  | .int _ => true
  | .str _ => true
  | _ => false
/-! ### what stands for a datum -/
mutual
def Rep (K : Fg) (H : Hp) (A : Av) : PyData → V → Prop
  | .none, v => v = .non
  | .bool b, v => v = .bl b
  | .int i, v => v = .int i
  | .str s, v => v = .str s
  | .tuple ds, v => ∃ a xs, v = .ref a ∧ (SqT K H a xs ∧ (ds.all keyB = true ∨ Plain K H a)) ∧ RepL K H A ds xs
  | .list ds, v => ∃ a xs, v = .ref a ∧ ¬ A a ∧ H a = some (.lst xs) ∧ RepL K H A ds xs
  | .dict kvs, v => ∃ a s vs, v = .ref a ∧ ¬ A a ∧ keysOf s = some (kvs.map (·.1)) ∧ Node K H a vs s ∧ RepP K H A kvs vs
def RepL (K : Fg) (H : Hp) (A : Av) : List PyData → List V → Prop
  | [], xs => xs = []
  | d :: ds, xs => ∃ y ys, xs = y :: ys ∧ Rep K H A d y ∧ RepL K H A ds ys
def RepP (K : Fg) (H : Hp) (A : Av) : List (PyData × PyData) → List V → Prop
  | [], xs => xs = []
  | kd :: r, xs => (isMk kd.1 = true ∧ RepP K H A r xs) ∨ (isMk kd.1 = false ∧ ∃ y ys, xs = y :: ys ∧ Rep K H A kd.2 y ∧ RepP K H A r ys)
end

/-- all that is not avoided is kept -/
def Kp (A : Av) (H H' : Hp) : Prop := ∀ b o, H b = some o → ¬ A b → H' b = some o
/-- what is avoided may be written -/
def AvOk (A : Av) (H : Hp) : Prop := ∀ a, A a → Mut (H a)

section
variable {K : Fg} {H H' H1 H2 : Hp} {A B : Av}
theorem Kp.ofEx (e : Ex H H') : Kp A H H' := fun b o h _ => e b o h
theorem Kp.refl : Kp A H H := fun _ _ h _ => h
theorem Kp.trans (a : Kp A H H1) (b : Kp A H1 H2) : Kp A H H2 := fun c o h n => b c o (a c o h n) n
theorem AvOk.mono (e : Ex H H') (h : AvOk A H) : AvOk A H' := fun a ha => by
  have := h a ha
  cases q : H a with
  | none => rw [q] at this; exact this.elim
  | some o => rw [e a o q]; rw [q] at this; exact this
theorem AvOk.fresh (h : AvOk A H) {p : Addr} (hp : H p = none) : ¬ A p := fun ha => by
  have := h p ha
  rw [hp] at this; exact this
theorem AvOk.anti (s : ∀ a, B a → A a) (h : AvOk A H) : AvOk B H := fun a ha => h a (s a ha)
theorem Rd.keep (ok : AvOk A H) (k : Kp A H H') {a : Addr} {u : HO} (hu : ¬ Mut (some u)) (h : Rd H a u) : Rd H' a u := by
  rcases h with h | ⟨o, h⟩
  · refine .inl (k a _ h fun ha => hu ?_)
    have := ok a ha
    rw [h] at this; exact this
  · refine .inr ⟨o, k a _ h fun ha => ?_⟩
    have := ok a ha
    rw [h] at this; exact this
theorem SqT.keep (ok : AvOk A H) (k : Kp A H H') {a : Addr} {xs : List V} (h : SqT K H a xs) : SqT K H' a xs := by
  rcases h with h | h
  · exact .inl (Rd.keep ok k (fun z => z) h)
  · exact .inr h
theorem Plain.keep (ok : AvOk A H) (k : Kp A H H') {a : Addr} (h : Plain K H a) : Plain K H' a := by
  rcases h with ⟨o, xs, h, hd⟩ | h
  · refine .inl ⟨o, xs, k a _ h fun ha => ?_, hd⟩
    have := ok a ha
    rw [h] at this; exact this
  · exact .inr h
theorem Rd.keepN (k : Kp A H H') {a : Addr} {u : HO} (na : ¬ A a) (h : Rd H a u) : Rd H' a u := by
  rcases h with h | ⟨o, h⟩
  · exact .inl (k a _ h na)
  · exact .inr ⟨o, k a _ h na⟩
theorem Rd.there {a : Addr} {u : HO} (h : Rd H a u) : H a ≠ none := by
  rcases h with h | ⟨o, h⟩ <;> rw [h] <;> intro z <;> cases z
theorem Node.at {a : Addr} {vs : List V} (e : ∀ u, H a = some u → H' a = some u) : ∀ {s : Shp}, Node K H a vs s → Node K H' a vs s
  | .lst, h => e _ h
  | .tup, ⟨o, h, hd⟩ => ⟨o, e _ h, hd⟩
  | .dk ks, ⟨h1, h2⟩ => ⟨h1, e _ h2⟩
  | .dt ks, ⟨h1, h2⟩ => ⟨h1, e _ h2⟩
  | .ob c ns, ⟨h1, C, dx, h2, h3⟩ => ⟨h1, C, dx, h2, e _ h3⟩
theorem Node.some {a : Addr} {vs : List V} : ∀ {s : Shp}, Node K H a vs s → ∃ u, H a = some u
  | .lst, h => ⟨_, h⟩
  | .tup, ⟨_, h, _⟩ => ⟨_, h⟩
  | .dk ks, ⟨h1, h2⟩ => ⟨_, h2⟩
  | .dt ks, ⟨h1, h2⟩ => ⟨_, h2⟩
  | .ob c ns, ⟨h1, C, dx, h2, h3⟩ => ⟨_, h3⟩
theorem Node.mut {a : Addr} {vs : List V} : ∀ {s : Shp}, Node K H a vs s → ∀ b ∈ foot a s, Mut (H b)
  | .lst, h, b, hb => by cases List.mem_singleton.mp hb; rw [show H a = _ from h]; trivial
  | .tup, h, b, hb => by cases hb
  | .dk ks, ⟨h1, h2⟩, b, hb => by cases List.mem_singleton.mp hb; rw [h2]; trivial
  | .dt ks, ⟨h1, h2⟩, b, hb => by cases List.mem_singleton.mp hb; rw [h2]; trivial
  | .ob c ns, ⟨h1, C, dx, h2, h3⟩, b, hb => by cases List.mem_singleton.mp hb; rw [h3]; trivial
theorem foot_mem {a b : Addr} : ∀ {s : Shp}, b ∈ foot a s → b = a
  | .lst, h => List.mem_singleton.mp h
  | .tup, h => nomatch h
  | .dk _, h => List.mem_singleton.mp h
  | .dt _, h => List.mem_singleton.mp h
  | .ob _ _, h => List.mem_singleton.mp h
theorem foot_nodup {a : Addr} : ∀ {s : Shp}, (foot a s).Nodup
  | .lst => by simp [foot]
  | .tup => List.nodup_nil
  | .dk _ => by simp [foot]
  | .dt _ => by simp [foot]
  | .ob _ _ => by simp [foot]
theorem zip_inj {α β : Type} : ∀ {ks : List α} {vs ws : List β}, ks.length = vs.length → ks.length = ws.length → ks.zip vs = ks.zip ws → vs = ws
  | [], [], [], _, _, _ => rfl
  | k :: ks, v :: vs, w :: ws, h1, h2, e => by
    simp only [List.zip_cons_cons, List.cons.injEq, Prod.mk.injEq, true_and] at e
    rw [e.1, zip_inj (by simpa using h1) (by simpa using h2) e.2]
  | [], _ :: _, _, h, _, _ => by simp at h
  | [], [], _ :: _, _, h, _ => by simp at h
  | _ :: _, [], _, h, _, _ => by simp at h
  | _ :: _, _ :: _, [], _, h, _ => by simp at h
theorem Node.inj {a : Addr} {vs ws : List V} : ∀ {s : Shp}, Node K H a vs s → Node K H a ws s → vs = ws
  | .lst, h, h' => by have := (show H a = _ from h).symm.trans h'; cases this; rfl
  | .tup, ⟨_, h, _⟩, ⟨_, h', _⟩ => by have := h.symm.trans h'; cases this; rfl
  | .dk ks, ⟨h1, h2⟩, ⟨k1, k2⟩ => by
    have e := h2.symm.trans k2
    simp only [Option.some.injEq, HO.dK.injEq] at e
    exact zip_inj h1 k1 e
  | .dt ks, ⟨h1, h2⟩, ⟨k1, k2⟩ => by
    have e := h2.symm.trans k2
    simp only [Option.some.injEq, HO.dT.injEq] at e
    exact zip_inj h1 k1 e
  | .ob c ns, ⟨h1, C, dx, h2, h3⟩, ⟨k1, C', dx', k2, k3⟩ => by
    have e := h3.symm.trans k3
    simp only [Option.some.injEq, HO.ins.injEq] at e
    exact zip_inj h1 k1 e.2.2
mutual
theorem Rep.keep2 (ok : AvOk A H) (k : Kp A H H') (hb : ∀ a, B a → A a ∨ H a = none) : ∀ (d : PyData) (v : V), Rep K H A d v → Rep K H' B d v
  | .none, _, h => by simpa only [Rep] using h
  | .bool b, _, h => by simpa only [Rep] using h
  | .int i, _, h => by simpa only [Rep] using h
  | .str s, _, h => by simpa only [Rep] using h
  | .tuple ds, v, h => by
    simp only [Rep] at h ⊢
    obtain ⟨a, xs, e, h1, h2⟩ := h
    exact ⟨a, xs, e, ⟨SqT.keep ok k h1.1, h1.2.imp id (Plain.keep ok k)⟩, RepL.keep2 ok k hb ds xs h2⟩
  | .list ds, v, h => by
    simp only [Rep] at h ⊢
    obtain ⟨a, xs, e, na, h1, h2⟩ := h
    exact ⟨a, xs, e, fun z => (hb a z).elim na (fun q => by rw [q] at h1; cases h1), k a _ h1 na, RepL.keep2 ok k hb ds xs h2⟩
  | .dict kvs, v, h => by
    simp only [Rep] at h ⊢
    obtain ⟨a, s, vs, e, na, hk, h1, h2⟩ := h
    exact ⟨a, s, vs, e, fun z => (hb a z).elim na fun q => (by obtain ⟨u, hu⟩ := h1.some; rw [q] at hu; cases hu), hk, h1.at fun u hu => k a u hu na, RepP.keep2 ok k hb kvs vs h2⟩
theorem RepL.keep2 (ok : AvOk A H) (k : Kp A H H') (hb : ∀ a, B a → A a ∨ H a = none) : ∀ (ds : List PyData) (xs : List V), RepL K H A ds xs → RepL K H' B ds xs
  | [], _, h => by simpa only [RepL] using h
  | d :: ds, xs, h => by
    simp only [RepL] at h ⊢
    obtain ⟨y, ys, e, h1, h2⟩ := h
    exact ⟨y, ys, e, Rep.keep2 ok k hb d y h1, RepL.keep2 ok k hb ds ys h2⟩
theorem RepP.keep2 (ok : AvOk A H) (k : Kp A H H') (hb : ∀ a, B a → A a ∨ H a = none) : ∀ (kvs : List (PyData × PyData)) (ps : List V), RepP K H A kvs ps → RepP K H' B kvs ps
  | [], _, h => by simpa only [RepP] using h
  | (kd, d) :: r, ps, h => by
    simp only [RepP] at h ⊢
    rcases h with ⟨m, h⟩ | ⟨m, y, ys, e, h1, h2⟩
    · exact .inl ⟨m, RepP.keep2 ok k hb r ps h⟩
    · exact .inr ⟨m, y, ys, e, Rep.keep2 ok k hb d y h1, RepP.keep2 ok k hb r ys h2⟩
end
mutual
theorem Rep.anti (s : ∀ a, B a → A a) : ∀ (d : PyData) (v : V), Rep K H A d v → Rep K H B d v
  | .none, _, h => by simpa only [Rep] using h
  | .bool b, _, h => by simpa only [Rep] using h
  | .int i, _, h => by simpa only [Rep] using h
  | .str s, _, h => by simpa only [Rep] using h
  | .tuple ds, v, h => by
    simp only [Rep] at h ⊢
    obtain ⟨a, xs, e, h1, h2⟩ := h
    exact ⟨a, xs, e, h1, RepL.anti s ds xs h2⟩
  | .list ds, v, h => by
    simp only [Rep] at h ⊢
    obtain ⟨a, xs, e, na, h1, h2⟩ := h
    exact ⟨a, xs, e, fun z => na (s a z), h1, RepL.anti s ds xs h2⟩
  | .dict kvs, v, h => by
    simp only [Rep] at h ⊢
    obtain ⟨a, sh, vs, e, na, hk, h1, h2⟩ := h
    exact ⟨a, sh, vs, e, fun z => na (s a z), hk, h1, RepP.anti s kvs vs h2⟩
theorem RepL.anti (s : ∀ a, B a → A a) : ∀ (ds : List PyData) (xs : List V), RepL K H A ds xs → RepL K H B ds xs
  | [], _, h => by simpa only [RepL] using h
  | d :: ds, xs, h => by
    simp only [RepL] at h ⊢
    obtain ⟨y, ys, e, h1, h2⟩ := h
    exact ⟨y, ys, e, Rep.anti s d y h1, RepL.anti s ds ys h2⟩
theorem RepP.anti (s : ∀ a, B a → A a) : ∀ (kvs : List (PyData × PyData)) (ps : List V), RepP K H A kvs ps → RepP K H B kvs ps
  | [], _, h => by simpa only [RepP] using h
  | (kd, d) :: r, ps, h => by
    simp only [RepP] at h ⊢
    rcases h with ⟨m, h⟩ | ⟨m, y, ys, e, h1, h2⟩
    · exact .inl ⟨m, RepP.anti s r ps h⟩
    · exact .inr ⟨m, y, ys, e, Rep.anti s d y h1, RepP.anti s r ys h2⟩
end
theorem Rep.keep (ok : AvOk A H) (k : Kp A H H') (d : PyData) (v : V) (h : Rep K H A d v) : Rep K H' A d v := Rep.keep2 ok k (fun _ z => .inl z) d v h
theorem RepL.keep (ok : AvOk A H) (k : Kp A H H') (ds : List PyData) (vs : List V) (h : RepL K H A ds vs) : RepL K H' A ds vs := RepL.keep2 ok k (fun _ z => .inl z) ds vs h
theorem RepP.keep (ok : AvOk A H) (k : Kp A H H') (ds : List (PyData × PyData)) (vs : List V) (h : RepP K H A ds vs) : RepP K H' A ds vs := RepP.keep2 ok k (fun _ z => .inl z) ds vs h
theorem Rep.mono (ok : AvOk A H) (e : Ex H H') {d : PyData} {v : V} (h : Rep K H A d v) : Rep K H' A d v := Rep.keep ok (Kp.ofEx e) d v h
theorem RepL.mono (ok : AvOk A H) (e : Ex H H') {ds : List PyData} {xs : List V} (h : RepL K H A ds xs) : RepL K H' A ds xs := RepL.keep ok (Kp.ofEx e) ds xs h
theorem RepP.mono (ok : AvOk A H) (e : Ex H H') {ds : List (PyData × PyData)} {xs : List V} (h : RepP K H A ds xs) : RepP K H' A ds xs := RepP.keep ok (Kp.ofEx e) ds xs h
theorem RepL.length : ∀ {ds : List PyData} {xs : List V}, RepL K H A ds xs → xs.length = ds.length
  | [], _, h => by simp only [RepL] at h; subst h; rfl
  | d :: ds, xs, h => by
    simp only [RepL] at h
    obtain ⟨y, ys, rfl, _, h2⟩ := h
    simp [RepL.length h2]
theorem RepL.get : ∀ {ds : List PyData} {xs : List V} {i : Nat} {d : PyData}, RepL K H A ds xs → ds[i]? = some d → ∃ v, xs[i]? = some v ∧ Rep K H A d v
  | [], _, i, d, _, e => by simp at e
  | d0 :: ds, xs, i, d, h, e => by
    simp only [RepL] at h
    obtain ⟨y, ys, rfl, h1, h2⟩ := h
    cases i with
    | zero => simp at e; subst e; exact ⟨y, rfl, h1⟩
    | succ i =>
      obtain ⟨v, e1, e2⟩ := RepL.get h2 (i := i) (d := d) (by simpa using e)
      exact ⟨v, by simpa using e1, e2⟩
theorem RepL.back {ds : List PyData} {xs : List V} {i : Nat} {v : V} (h : RepL K H A ds xs) (e : xs[i]? = some v) : ∃ d, ds[i]? = some d ∧ Rep K H A d v := by
  have hl := h.length
  have hi : i < xs.length := (List.getElem?_eq_some_iff.mp e).1
  have hd : ds[i]? = some (ds[i]'(by omega)) := List.getElem?_eq_getElem (by omega)
  obtain ⟨v', e1, r⟩ := h.get hd
  rw [e] at e1; cases e1
  exact ⟨_, hd, r⟩
theorem RepL.append : ∀ {ds es : List PyData} {xs ys : List V}, RepL K H A ds xs → RepL K H A es ys → RepL K H A (ds ++ es) (xs ++ ys)
  | [], es, xs, ys, h, h' => by simp only [RepL] at h; subst h; simpa using h'
  | d :: ds, es, xs, ys, h, h' => by
    simp only [RepL] at h
    obtain ⟨y, zs, rfl, h1, h2⟩ := h
    simp only [List.cons_append, RepL]
    exact ⟨y, _, rfl, h1, RepL.append h2 h'⟩
theorem RepL.one {d : PyData} {v : V} (h : Rep K H A d v) : RepL K H A [d] [v] := by
  simp only [RepL]; exact ⟨v, [], rfl, h, rfl⟩
theorem RepL.nil : RepL K H A [] [] := by simp only [RepL]
theorem RepL.cons {d : PyData} {v : V} {ds : List PyData} {xs : List V} (h : Rep K H A d v) (h' : RepL K H A ds xs) : RepL K H A (d :: ds) (v :: xs) := by
  simp only [RepL]; exact ⟨v, xs, rfl, h, h'⟩
theorem RepL.drop : ∀ {ds : List PyData} {xs : List V} (n : Nat), RepL K H A ds xs → RepL K H A (ds.drop n) (xs.drop n)
  | ds, xs, 0, h => h
  | [], xs, n + 1, h => by simp only [RepL] at h; subst h; exact RepL.nil
  | d :: ds, xs, n + 1, h => by
    simp only [RepL] at h
    obtain ⟨y, ys, rfl, _, h2⟩ := h
    exact RepL.drop n h2
theorem RepL.take : ∀ {ds : List PyData} {xs : List V} (n : Nat), RepL K H A ds xs → RepL K H A (ds.take n) (xs.take n)
  | ds, xs, 0, h => RepL.nil
  | [], xs, n + 1, h => by simp only [RepL] at h; subst h; exact RepL.nil
  | d :: ds, xs, n + 1, h => by
    simp only [RepL] at h
    obtain ⟨y, ys, rfl, h1, h2⟩ := h
    exact RepL.cons h1 (RepL.take n h2)
theorem RepL.set : ∀ {ds : List PyData} {xs : List V} (i : Nat) {d : PyData} {v : V}, RepL K H A ds xs → Rep K H A d v → RepL K H A (ds.set i d) (xs.set i v)
  | [], xs, i, d, v, h, _ => by simp only [RepL] at h; subst h; exact RepL.nil
  | d0 :: ds, xs, i, d, v, h, hd => by
    simp only [RepL] at h
    obtain ⟨y, ys, rfl, h1, h2⟩ := h
    cases i with
    | zero => exact RepL.cons hd h2
    | succ i => exact RepL.cons h1 (RepL.set i h2 hd)
/-- by the places -/
theorem RepL.mk : ∀ {ds : List PyData} {xs : List V}, xs.length = ds.length → (∀ (i : Nat) (d : PyData) (v : V), ds[i]? = some d → xs[i]? = some v → Rep K H A d v) → RepL K H A ds xs
  | [], xs, hl, _ => by
    cases xs with
    | nil => exact RepL.nil
    | cons => simp at hl
  | d :: ds, xs, hl, h => by
    cases xs with
    | nil => simp at hl
    | cons y ys => exact RepL.cons (h 0 d y rfl rfl) (RepL.mk (by simpa using hl) fun i e v h1 h2 => h (i + 1) e v (by simpa using h1) (by simpa using h2))
end


/-! ### what is a name's own: a tree of nodes and data -/
inductive OD where
  | dat (d : PyData)
  | nd (s : Shp) (xs : List OD)
mutual
def Tree (K : Fg) (H : Hp) (A : Av) : OD → V → List Addr → Prop
  | .dat d, v, F => F = [] ∧ Rep K H A d v
  | .nd s xs, v, F => ∃ a vs G, v = .ref a ∧ F = foot a s ++ G ∧ Node K H a vs s ∧ TreeL K H A xs vs G
def TreeL (K : Fg) (H : Hp) (A : Av) : List OD → List V → List Addr → Prop
  | [], vs, F => vs = [] ∧ F = []
  | o :: os, vs, F => ∃ y ys F1 F2, vs = y :: ys ∧ F = F1 ++ F2 ∧ Tree K H A o y F1 ∧ TreeL K H A os ys F2
end
section
variable {K : Fg} {H H' : Hp} {A B : Av}
mutual
theorem Tree.keep2 (ok : AvOk A H) (k : Kp A H H') (hb : ∀ a, B a → A a ∨ H a = none) : ∀ (o : OD) (v : V) (F : List Addr), (∀ a ∈ F, ∀ u, H a = some u → H' a = some u) → Tree K H A o v F → Tree K H' B o v F
  | .dat d, v, F, hF, h => by
    simp only [Tree] at h ⊢
    exact ⟨h.1, Rep.keep2 ok k hb d v h.2⟩
  | .nd s xs, v, F, hF, h => by
    simp only [Tree] at h ⊢
    obtain ⟨a, vs, G, e1, e2, h1, h2⟩ := h
    subst e2
    refine ⟨a, vs, G, e1, rfl, h1.at fun u hu => ?_, TreeL.keep2 ok k hb xs vs G (fun b hb => hF b (List.mem_append_right _ hb)) h2⟩
    by_cases hA : A a
    · have : a ∈ foot a s := by
        cases s with
        | tup =>
          have m := ok a hA
          obtain ⟨_, h1, _⟩ := h1
          rw [h1] at m
          exact m.elim
        | lst => exact List.mem_singleton_self a
        | dk _ => exact List.mem_singleton_self a
        | dt _ => exact List.mem_singleton_self a
        | ob _ _ => exact List.mem_singleton_self a
      exact hF a (List.mem_append_left _ this) u hu
    · exact k a u hu hA
theorem TreeL.keep2 (ok : AvOk A H) (k : Kp A H H') (hb : ∀ a, B a → A a ∨ H a = none) : ∀ (os : List OD) (vs : List V) (F : List Addr), (∀ a ∈ F, ∀ u, H a = some u → H' a = some u) → TreeL K H A os vs F → TreeL K H' B os vs F
  | [], vs, F, hF, h => by simpa only [TreeL] using h
  | o :: os, vs, F, hF, h => by
    simp only [TreeL] at h ⊢
    obtain ⟨y, ys, F1, F2, e1, e2, h1, h2⟩ := h
    subst e2
    exact ⟨y, ys, F1, F2, e1, rfl, Tree.keep2 ok k hb o y F1 (fun b hb => hF b (List.mem_append_left _ hb)) h1, TreeL.keep2 ok k hb os ys F2 (fun b hb => hF b (List.mem_append_right _ hb)) h2⟩
end
mutual
theorem Tree.anti (s : ∀ a, B a → A a) : ∀ (o : OD) (v : V) (F : List Addr), Tree K H A o v F → Tree K H B o v F
  | .dat d, v, F, h => by
    simp only [Tree] at h ⊢
    exact ⟨h.1, Rep.anti s d v h.2⟩
  | .nd sh xs, v, F, h => by
    simp only [Tree] at h ⊢
    obtain ⟨a, vs, G, e1, e2, h1, h2⟩ := h
    exact ⟨a, vs, G, e1, e2, h1, TreeL.anti s xs vs G h2⟩
theorem TreeL.anti (s : ∀ a, B a → A a) : ∀ (os : List OD) (vs : List V) (F : List Addr), TreeL K H A os vs F → TreeL K H B os vs F
  | [], vs, F, h => by simpa only [TreeL] using h
  | o :: os, vs, F, h => by
    simp only [TreeL] at h ⊢
    obtain ⟨y, ys, F1, F2, e1, e2, h1, h2⟩ := h
    exact ⟨y, ys, F1, F2, e1, e2, Tree.anti s o y F1 h1, TreeL.anti s os ys F2 h2⟩
end
mutual
theorem Tree.mut : ∀ (o : OD) (v : V) (F : List Addr), Tree K H A o v F → ∀ a ∈ F, Mut (H a)
  | .dat d, v, F, h => by
    simp only [Tree] at h
    intro a ha
    rw [h.1] at ha
    cases ha
  | .nd s xs, v, F, h => by
    simp only [Tree] at h
    obtain ⟨a, vs, G, e1, e2, h1, h2⟩ := h
    subst e2
    intro b hb
    rcases List.mem_append.mp hb with hb | hb
    · exact h1.mut b hb
    · exact TreeL.mut xs vs G h2 b hb
theorem TreeL.mut : ∀ (os : List OD) (vs : List V) (F : List Addr), TreeL K H A os vs F → ∀ a ∈ F, Mut (H a)
  | [], vs, F, h => by
    simp only [TreeL] at h
    intro a ha
    rw [h.2] at ha
    cases ha
  | o :: os, vs, F, h => by
    simp only [TreeL] at h
    obtain ⟨y, ys, F1, F2, e1, e2, h1, h2⟩ := h
    subst e2
    intro b hb
    rcases List.mem_append.mp hb with hb | hb
    · exact Tree.mut o y F1 h1 b hb
    · exact TreeL.mut os ys F2 h2 b hb
end
theorem Tree.mono (ok : AvOk A H) (e : Ex H H') {o : OD} {v : V} {F : List Addr} (h : Tree K H A o v F) : Tree K H' A o v F := Tree.keep2 ok (Kp.ofEx e) (fun _ z => .inl z) o v F (fun _ _ u hu => e _ u hu) h
theorem TreeL.mono (ok : AvOk A H) (e : Ex H H') {o : List OD} {v : List V} {F : List Addr} (h : TreeL K H A o v F) : TreeL K H' A o v F := TreeL.keep2 ok (Kp.ofEx e) (fun _ z => .inl z) o v F (fun _ _ u hu => e _ u hu) h
theorem TreeL.length : ∀ {os : List OD} {vs : List V} {F : List Addr}, TreeL K H A os vs F → vs.length = os.length
  | [], vs, F, h => by simp only [TreeL] at h; rw [h.1]; rfl
  | o :: os, vs, F, h => by
    simp only [TreeL] at h
    obtain ⟨y, ys, F1, F2, rfl, e2, h1, h2⟩ := h
    simp [TreeL.length h2]
theorem TreeL.dats : ∀ {ds : List PyData} {vs : List V}, RepL K H A ds vs → TreeL K H A (ds.map .dat) vs []
  | [], vs, h => by simp only [RepL] at h; simp only [List.map_nil, TreeL]; exact ⟨h, trivial⟩
  | d :: ds, vs, h => by
    simp only [RepL] at h
    obtain ⟨y, ys, rfl, h1, h2⟩ := h
    simp only [List.map_cons, TreeL]
    exact ⟨y, ys, [], [], rfl, rfl, by simp only [Tree]; exact ⟨trivial, h1⟩, TreeL.dats h2⟩
/-- at a place -/
theorem TreeL.zip : ∀ {os : List OD} {vs : List V} {G : List Addr} {j : Nat} {x : OD} {w : V}, TreeL K H A os vs G → os[j]? = some x → vs[j]? = some w →
    ∃ G1 Gj G2, G = G1 ++ Gj ++ G2 ∧ Tree K H A x w Gj ∧ ∀ (H' : Hp) (B : Av) (x' : OD) (Gj' : List Addr), AvOk A H → Kp A H H' → (∀ a, B a → A a ∨ H a = none) → (∀ a ∈ G1 ++ G2, ∀ u, H a = some u → H' a = some u) → Tree K H' B x' w Gj' → TreeL K H' B (os.set j x') vs (G1 ++ Gj' ++ G2)
  | [], vs, G, j, x, w, h, e1, e2 => by simp at e1
  | o :: os, vs, G, j, x, w, h, e1, e2 => by
    simp only [TreeL] at h
    obtain ⟨y, ys, F1, F2, rfl, rfl, h1, h2⟩ := h
    cases j with
    | zero =>
      simp at e1 e2
      subst e1 e2
      refine ⟨[], F1, F2, by simp, h1, fun H' B x' Gj' ok k hb hk t => ?_⟩
      simp only [List.set_cons_zero, TreeL, List.nil_append]
      exact ⟨_, _, _, _, rfl, rfl, t, TreeL.keep2 ok k hb _ _ _ (fun a ha => hk a (by simpa using ha)) h2⟩
    | succ j =>
      obtain ⟨G1, Gj, G2, e, t, cl⟩ := TreeL.zip h2 (j := j) (x := x) (w := w) (by simpa using e1) (by simpa using e2)
      refine ⟨F1 ++ G1, Gj, G2, by rw [e]; simp, t, fun H' B x' Gj' ok k hb hk t' => ?_⟩
      simp only [List.set_cons_succ, TreeL]
      refine ⟨_, _, F1, G1 ++ Gj' ++ G2, rfl, by simp, Tree.keep2 ok k hb _ _ _ (fun a ha => hk a (by simp [ha])) h1, cl H' B x' Gj' ok k hb (fun a ha => hk a ?_) t'⟩
      rcases List.mem_append.mp ha with ha | ha
      · simp [ha]
      · simp [ha]
end
def kid : OD → Nat → Option OD
  | .nd _ xs, j => xs[j]?
  | .dat _, _ => none
def getP : OD → List Nat → Option OD
  | o, [] => some o
  | o, j :: p => (kid o j).bind fun x => getP x p
def setP : OD → List Nat → OD → OD
  | _, [], o2 => o2
  | .nd s xs, j :: p, o2 => (match xs[j]? with
    | some x => .nd s (xs.set j (setP x p o2))
    | none => .nd s xs)
  | .dat d, _ :: _, _ => .dat d
/-- the value at a path -/
def At (K : Fg) (H : Hp) : V → OD → List Nat → V → Prop
  | v, _, [], v1 => v1 = v
  | v, o, j :: p, v1 => ∃ a s xs vs w x, o = .nd s xs ∧ v = .ref a ∧ Node K H a vs s ∧ vs[j]? = some w ∧ xs[j]? = some x ∧ At K H w x p v1
section
variable {K : Fg} {H H' : Hp} {A B : Av}
theorem getP_app : ∀ (p : List Nat) (o : OD) (q : List Nat), getP o (p ++ q) = (getP o p).bind fun x => getP x q
  | [], o, q => rfl
  | j :: p, o, q => by
    simp only [List.cons_append, getP]
    cases kid o j with
    | none => rfl
    | some x => exact getP_app p x q
theorem At.app : ∀ {p : List Nat} {v : V} {o : OD} {v1 v2 : V} {o1 : OD} {q : List Nat}, At K H v o p v1 → getP o p = some o1 → At K H v1 o1 q v2 → At K H v o (p ++ q) v2
  | [], v, o, v1, v2, o1, q, h, e, h2 => by
    simp only [At] at h
    simp only [getP, Option.some.injEq] at e
    subst h e
    exact h2
  | j :: p, v, o, v1, v2, o1, q, h, e, h2 => by
    simp only [At] at h
    obtain ⟨a, s, xs, vs, w, x, rfl, rfl, h3, h4, h5, h6⟩ := h
    simp only [getP, kid, h5, Option.bind_some] at e
    simp only [List.cons_append, At]
    exact ⟨a, s, xs, vs, w, x, rfl, rfl, h3, h4, h5, At.app h6 e h2⟩
theorem At.mono (e : Ex H H') : ∀ {p : List Nat} {v : V} {o : OD} {v1 : V}, At K H v o p v1 → At K H' v o p v1
  | [], v, o, v1, h => h
  | j :: p, v, o, v1, h => by
    simp only [At] at h ⊢
    obtain ⟨a, s, xs, vs, w, x, rfl, rfl, h3, h4, h5, h6⟩ := h
    exact ⟨a, s, xs, vs, w, x, rfl, rfl, h3.at fun u hu => e _ u hu, h4, h5, At.mono e h6⟩
theorem Tree.zip : ∀ {p : List Nat} {o : OD} {v : V} {F : List Addr} {v1 : V} {o1 : OD}, Tree K H A o v F → At K H v o p v1 → getP o p = some o1 →
    ∃ F1 pre post, F = pre ++ F1 ++ post ∧ Tree K H A o1 v1 F1 ∧ ∀ (H' : Hp) (B : Av) (o2 : OD) (F2 : List Addr), AvOk A H → Kp A H H' → (∀ a, B a → A a ∨ H a = none) → (∀ a ∈ pre ++ post, ∀ u, H a = some u → H' a = some u) → Tree K H' B o2 v1 F2 →
      Tree K H' B (setP o p o2) v (pre ++ F2 ++ post)
  | [], o, v, F, v1, o1, h, ha, e => by
    simp only [At] at ha
    simp only [getP, Option.some.injEq] at e
    subst ha e
    exact ⟨F, [], [], by simp, h, fun H' B o2 F2 ok k hb hk t => by simpa [setP] using t⟩
  | j :: p, o, v, F, v1, o1, h, ha, e => by
    simp only [At] at ha
    obtain ⟨a, s, xs, vs, w, x, rfl, rfl, h3, h4, h5, h6⟩ := ha
    simp only [getP, kid, h5, Option.bind_some] at e
    simp only [Tree] at h
    obtain ⟨a', vs', G, e1, e2, n, tl⟩ := h
    cases e1
    cases n.inj h3
    obtain ⟨G1, Gj, G2, eG, tj, cl⟩ := tl.zip h5 h4
    obtain ⟨F1, pre, post, eF, t1, cl1⟩ := Tree.zip tj h6 e
    refine ⟨F1, foot a s ++ G1 ++ pre, post ++ G2, by rw [e2, eG, eF]; simp, t1, fun H' B o2 F2 ok k hb hk t => ?_⟩
    simp only [setP, h5, Tree]
    refine ⟨a, vs, G1 ++ (pre ++ F2 ++ post) ++ G2, rfl, by simp, n.at fun u hu => ?_, cl H' B _ _ ok k hb (fun b hb => hk b ?_) (cl1 H' B o2 F2 ok k hb (fun b hb => hk b ?_) t)⟩
    · by_cases hA : A a
      · have : a ∈ foot a s := by
          cases s with
          | tup =>
            have m := ok a hA
            obtain ⟨_, n, _⟩ := n
            rw [n] at m
            exact m.elim
          | lst => exact List.mem_singleton_self a
          | dk _ => exact List.mem_singleton_self a
          | dt _ => exact List.mem_singleton_self a
          | ob _ _ => exact List.mem_singleton_self a
        exact hk a (by simp [this]) u hu
      · exact k a u hu hA
    · rcases List.mem_append.mp hb with hb | hb <;> simp [hb]
    · rcases List.mem_append.mp hb with hb | hb <;> simp [hb]
end
/-- as one datum -/
def pack : Shp → List PyData → Option PyData
  | .lst, ds => some (.list ds)
  | .tup, ds => some (.tuple ds)
  | .dk ks, ds => some (.dict ((ks.map kD).zip ds))
  | .dt ks, ds => some (.dict ((.list [], .none) :: (ks.map fun k => PyData.tuple (k.map kD)).zip ds))
  | .ob c ns, ds => some (.dict ((.list [.str c], .none) :: (ns.map PyData.str).zip ds))
mutual
def flat : OD → Option PyData
  | .dat d => some d
  | .nd s xs => (flatL xs).bind (pack s)
def flatL : List OD → Option (List PyData)
  | [] => some []
  | o :: os => match flat o with
    | none => none
    | some d => match flatL os with
      | none => none
      | some ds => some (d :: ds)
end
section
variable {K : Fg} {H : Hp} {A B : Av}
theorem repP_zip {α : Type} {f : α → PyData} (hf : ∀ k, isMk (f k) = false) : ∀ {ks : List α} {ds : List PyData} {vs : List V}, ks.length = vs.length → RepL K H A ds vs → RepP K H A ((ks.map f).zip ds) vs
  | [], ds, vs, hl, r => by
    have : vs = [] := List.length_eq_zero_iff.mp hl.symm
    subst this
    simp only [List.map_nil, List.zip_nil_left, RepP]
  | k :: ks, [], vs, hl, r => by
    simp only [RepL] at r
    subst r
    simp at hl
  | k :: ks, d :: ds, vs, hl, r => by
    simp only [RepL] at r
    obtain ⟨y, ys, rfl, h1, h2⟩ := r
    simp only [List.map_cons, List.zip_cons_cons, RepP]
    exact .inr ⟨hf k, y, ys, rfl, h1, repP_zip hf (by simpa using hl) h2⟩
theorem isMk_kD (k : Key) : isMk (kD k) = false := by cases k <;> rfl
theorem zip_fst {α β : Type} : ∀ {ks : List α} {ds : List β}, ks.length = ds.length → (ks.zip ds).map (·.1) = ks
  | [], _, _ => by simp
  | k :: ks, [], h => by simp at h
  | k :: ks, d :: ds, h => by
    simp only [List.zip_cons_cons, List.map_cons]
    rw [zip_fst (by simpa using h)]
/-- one node over data, as a datum -/
theorem node_rep {a : Addr} {s : Shp} {vs : List V} {ds : List PyData} {d : PyData} (na : ∀ b ∈ foot a s, ¬ A b) (n : Node K H a vs s) (r : RepL K H A ds vs) (e : pack s ds = some d) : Rep K H A d (.ref a) := by
  have hl := r.length
  cases s with
  | lst => cases e; simp only [Rep]; exact ⟨a, vs, rfl, na a (List.mem_singleton_self a), n, r⟩
  | tup => cases e; simp only [Rep]; obtain ⟨o, n, hd⟩ := n; exact ⟨a, vs, rfl, ⟨.inl (.inr ⟨o, n⟩), .inr (.inl ⟨o, vs, n, hd⟩)⟩, r⟩
  | dk ks =>
    cases e
    simp only [Rep]
    refine ⟨a, .dk ks, vs, rfl, na a (List.mem_singleton_self a), ?_, n, repP_zip isMk_kD n.1 r⟩
    rw [zip_fst (by rw [List.length_map, n.1, hl])]
    rfl
  | dt ks =>
    cases e
    simp only [Rep]
    refine ⟨a, .dt ks, vs, rfl, na a (List.mem_singleton_self a), ?_, n, ?_⟩
    · rw [List.map_cons, zip_fst (by rw [List.length_map, n.1, hl])]
      rfl
    · simp only [RepP]
      exact .inl ⟨rfl, repP_zip (fun _ => rfl) n.1 r⟩
  | ob c ns =>
    cases e
    simp only [Rep]
    refine ⟨a, .ob c ns, vs, rfl, na a (List.mem_singleton_self a), ?_, n, ?_⟩
    · rw [List.map_cons, zip_fst (by rw [List.length_map, n.1, hl])]
      rfl
    · simp only [RepP]
      exact .inl ⟨rfl, repP_zip (fun _ => rfl) n.1 r⟩
mutual
theorem Tree.rep : ∀ (o : OD) (v : V) (F : List Addr) (d : PyData), (∀ a ∈ F, ¬ A a) → Tree K H A o v F → flat o = some d → Rep K H A d v
  | .dat d', v, F, d, na, h, e => by
    simp only [flat] at e
    cases e
    simp only [Tree] at h
    exact h.2
  | .nd s xs, v, F, d, na, h, e => by
    simp only [flat] at e
    simp only [Tree] at h
    obtain ⟨a, vs, G, rfl, rfl, h1, h2⟩ := h
    cases hx : flatL xs with
    | none => rw [hx] at e; cases e
    | some ds =>
      rw [hx] at e
      exact node_rep (fun b hb => na b (List.mem_append_left _ hb)) h1 (TreeL.rep xs vs G ds (fun b hb => na b (List.mem_append_right _ hb)) h2 hx) e
theorem TreeL.rep : ∀ (os : List OD) (vs : List V) (F : List Addr) (ds : List PyData), (∀ a ∈ F, ¬ A a) → TreeL K H A os vs F → flatL os = some ds → RepL K H A ds vs
  | [], vs, F, ds, na, h, e => by
    simp only [flatL] at e
    cases e
    simp only [TreeL] at h
    simp only [RepL]
    exact h.1
  | o :: os, vs, F, ds, na, h, e => by
    simp only [flatL] at e
    simp only [TreeL] at h
    obtain ⟨y, ys, F1, F2, rfl, rfl, h1, h2⟩ := h
    cases h3 : flat o with
    | none => rw [h3] at e; cases e
    | some d0 =>
      rw [h3] at e
      dsimp only at e
      cases h4 : flatL os with
      | none => rw [h4] at e; cases e
      | some ds0 =>
        rw [h4] at e
        cases e
        exact RepL.cons (Tree.rep o y F1 d0 (fun b hb => na b (List.mem_append_left _ hb)) h1 h3) (TreeL.rep os ys F2 ds0 (fun b hb => na b (List.mem_append_right _ hb)) h2 h4)
end
end
/-- the children are all data -/
def dats : List OD → Option (List PyData)
  | [] => some []
  | .dat d :: os => (dats os).map (d :: ·)
  | .nd _ _ :: _ => none
def topD : OD → Option PyData
  | .dat d => some d
  | .nd s xs => (dats xs).bind (pack s)
theorem dats_rep {K : Fg} {H : Hp} {A : Av} : ∀ {os : List OD} {vs : List V} {F : List Addr} {ds : List PyData}, TreeL K H A os vs F → dats os = some ds → RepL K H A ds vs
  | [], vs, F, ds, h, e => by
    cases e
    simp only [TreeL] at h
    simp only [RepL]
    exact h.1
  | .dat d :: os, vs, F, ds, h, e => by
    simp only [TreeL, Tree] at h
    obtain ⟨y, ys, F1, F2, rfl, rfl, h1, h2⟩ := h
    cases hd : dats os with
    | none => simp only [dats, hd] at e; cases e
    | some ds0 =>
      simp only [dats, hd] at e
      cases e
      exact RepL.cons h1.2 (dats_rep h2 hd)
  | .nd _ _ :: _, vs, F, ds, h, e => by cases e
theorem dats_map : ∀ (ds : List PyData), dats (ds.map .dat) = some ds
  | [] => rfl
  | d :: ds => by simp only [List.map_cons, dats, dats_map ds]; rfl
def lO (ds : List PyData) : OD := .nd .lst (ds.map .dat)

/-! ### the names' data -/
structure OW where
  od : OD
  par : Bool
inductive Sl where
  | no
  | val (d : PyData)
  | own (o : OW)
  | scr (ns : List Int)
abbrev Rho := List Sl
/-- the script: known, or written -/
def Scr (K : Fg) (H : Hp) (a : Addr) (ns : List Int) : Prop := (∃ o, H a = some (.frz o (.lst (ns.map V.int)))) ∨ ∃ (o : Obj) (its : Array Value) (n : Nat), K.lookup a = some o ∧ o.cls = .type "list" ∧ o.dict = none ∧ o.data = .seq its n ∧ its.size ≤ sizeLine ∧ Vals (ns.map V.int) its.toList
theorem Scr.sq {K : Fg} {H : Hp} {a : Addr} {ns : List Int} (h : Scr K H a ns) : SqL K H a (ns.map V.int) := h.elim (fun h => .inl (.inr h)) .inr
theorem Scr.keep {K : Fg} {H H' : Hp} {A : Av} {a : Addr} {ns : List Int} (ok : AvOk A H) (k : Kp A H H') (h : Scr K H a ns) : Scr K H' a ns := by
  rcases h with ⟨o, h⟩ | h
  · refine .inl ⟨o, k a _ h fun ha => ?_⟩
    have := ok a ha
    rw [h] at this; exact this
  · exact .inr h
def SlOk (K : Fg) (H : Hp) (A : Av) : Sl → Option (Option V) → Prop
  | .scr ns, x => ∃ a, x = some (some (.ref a)) ∧ Scr K H a ns
  | .no, _ => True
  | .val d, x => ∃ v, x = some (some v) ∧ Rep K H A d v
  | .own o, x => ∃ v F, x = some (some v) ∧ Tree K H A o.od v F
structure RS (K : Fg) (A : Av) (ρ : Rho) (σ : St) (H : Hp) : Prop where
  len : ρ.length = σ.length
  av : AvOk A H
  at' : ∀ (i : Nat) (s : Sl), ρ[i]? = some s → SlOk K H A s σ[i]?
section
variable {K : Fg} {H H' H1 H2 : Hp} {A B : Av} {ρ : Rho} {σ : St}
theorem SlOk.mono (ok : AvOk A H) (e : Ex H H') {x : Option (Option V)} : ∀ {s : Sl}, SlOk K H A s x → SlOk K H' A s x
  | .scr ns, ⟨a, h1, h2⟩ => ⟨a, h1, h2.keep ok (Kp.ofEx e)⟩
  | .no, _ => trivial
  | .val d, ⟨v, h1, h2⟩ => ⟨v, h1, h2.mono ok e⟩
  | .own d, ⟨v, F, h1, h2⟩ => ⟨v, F, h1, h2.mono ok e⟩
theorem SlOk.anti (s : ∀ a, B a → A a) {x : Option (Option V)} : ∀ {l : Sl}, SlOk K H A l x → SlOk K H B l x
  | .scr ns, h => h
  | .no, _ => trivial
  | .val d, ⟨v, h1, h2⟩ => ⟨v, h1, Rep.anti s _ _ h2⟩
  | .own d, ⟨v, F, h1, h2⟩ => ⟨v, F, h1, Tree.anti s _ _ _ h2⟩
/-- all kept but, perhaps, what is avoided; the name's own kept -/
theorem SlOk.keep2 (ok : AvOk A H) (e : Ex H H') (hb : ∀ a, B a → A a ∨ H a = none) {x : Option (Option V)} : ∀ {s : Sl}, SlOk K H A s x → SlOk K H' B s x
  | .scr ns, ⟨a, h1, h2⟩ => ⟨a, h1, h2.keep ok (Kp.ofEx e)⟩
  | .no, _ => trivial
  | .val d, ⟨v, h1, h2⟩ => ⟨v, h1, Rep.keep2 ok (Kp.ofEx e) hb _ _ h2⟩
  | .own d, ⟨v, F, h1, h2⟩ => ⟨v, F, h1, Tree.keep2 ok (Kp.ofEx e) hb _ _ _ (fun _ _ u hu => e _ u hu) h2⟩
theorem RS.mono (e : Ex H H') (h : RS K A ρ σ H) : RS K A ρ σ H' := ⟨h.len, h.av.mono e, fun i s q => (h.at' i s q).mono h.av e⟩
theorem RS.set (h : RS K A ρ σ H) {i : Nat} {d : PyData} {v : V} (r : Rep K H A d v) : RS K A (ρ.set i (.val d)) (σ.set i (some v)) H := by
  refine ⟨by simp [h.len], h.av, fun j s q => ?_⟩
  by_cases hj : i = j
  · subst hj
    by_cases hi : i < ρ.length
    · rw [List.getElem?_set_self hi] at q
      cases q
      exact ⟨v, by rw [List.getElem?_set_self (by rw [← h.len]; exact hi)], r⟩
    · rw [List.getElem?_eq_none (by simpa using hi)] at q
      cases q
  · rw [List.getElem?_set_ne hj] at q ⊢
    exact h.at' j s q
end

/-! ### readings as functions of data -/
def EvD (K : Fg) (A : Av) (t : TE) (σ : St) (H : Hp) (d : PyData) : Prop := ∀ H1, Ex H H1 → ∀ Q : VK, (∀ v H2, Ex H1 H2 → Rep K H2 A d v → Q v H2) → t σ H1 Q
/-- what may be a name's own node over data, read -/
def RepB (K : Fg) (H : Hp) (A : Av) (d : PyData) (v : V) : Prop := Rep K H A d v ∨ ∃ a s vs ds, v = .ref a ∧ Node K H a vs s ∧ pack s ds = some d ∧ RepL K H A ds vs
theorem Tree.repB {K : Fg} {H : Hp} {A : Av} {o : OD} {v : V} {F : List Addr} {d : PyData} (h : Tree K H A o v F) (e : topD o = some d) : RepB K H A d v := by
  cases o with
  | dat d' =>
    cases e
    simp only [Tree] at h
    exact .inl h.2
  | nd s xs =>
    simp only [Tree] at h
    obtain ⟨a, vs, G, rfl, rfl, h1, h2⟩ := h
    simp only [topD] at e
    cases hd : dats xs with
    | none => rw [hd] at e; cases e
    | some ds =>
      rw [hd] at e
      exact .inr ⟨a, s, vs, ds, rfl, h1, e, dats_rep h2 hd⟩
def EvB (K : Fg) (A : Av) (t : TE) (σ : St) (H : Hp) (d : PyData) : Prop := ∀ H1, Ex H H1 → ∀ Q : VK, (∀ v H2, Ex H1 H2 → RepB K H2 A d v → Q v H2) → t σ H1 Q
def EF (K : Fg) (t : TE) (f : Rho → Option PyData) : Prop := ∀ A ρ σ H d, RS K A ρ σ H → f ρ = some d → EvD K A t σ H d
def EB (K : Fg) (t : TE) (f : Rho → Option PyData) : Prop := ∀ A ρ σ H d, RS K A ρ σ H → f ρ = some d → EvB K A t σ H d
def ET (K : Fg) (t : TT) (f : Rho → Option Bool) : Prop := ∀ A ρ σ H b, RS K A ρ σ H → f ρ = some b → ∀ H1, Ex H H1 → ∀ Q : Bool → Hp → Prop, (∀ H2, Ex H1 H2 → Q b H2) → t σ H1 Q
def EA (K : Fg) (t : TA) (f : Rho → Option (List PyData)) : Prop := ∀ A ρ σ H ds, RS K A ρ σ H → f ρ = some ds → ∀ H1, Ex H H1 → ∀ Q : List V → Hp → Prop, (∀ vs H2, Ex H1 H2 → RepL K H2 A ds vs → Q vs H2) → t σ H1 Q
/-- an operation on values -/
def E2 (K : Fg) (r : R2) (f : PyData → PyData → Option PyData) : Prop := ∀ A H d e x y z, AvOk A H → RepB K H A d x → RepB K H A e y → f d e = some z → ∀ Q : VK, (∀ v H2, Ex H H2 → Rep K H2 A z v → Q v H2) → r x y H Q
def E1 (K : Fg) (r : V → Hp → VK → Prop) (f : PyData → Option PyData) : Prop := ∀ A H d x z, AvOk A H → RepB K H A d x → f d = some z → ∀ Q : VK, (∀ v H2, Ex H H2 → Rep K H2 A z v → Q v H2) → r x H Q
/-- a call on values -/
def EC (K : Fg) (r : List V → Hp → VK → Prop) (f : List PyData → Option PyData) : Prop := ∀ A H ds xs z, AvOk A H → RepL K H A ds xs → f ds = some z → ∀ Q : VK, (∀ v H2, Ex H H2 → Rep K H2 A z v → Q v H2) → r xs H Q

section
variable {K : Fg} {t ta tb te : TE} {f fa fb : Rho → Option PyData}
theorem EF.b (h : EF K t f) : EB K t f := fun A ρ σ H d rs e H1 e1 Q q => h A ρ σ H d rs e H1 e1 Q fun v H2 e2 r => q v H2 e2 (.inl r)

/-! names and constants -/
def gv (i : Nat) (ρ : Rho) : Option PyData := match ρ[i]? with
  | some (.val d) => some d
  | _ => none
def gb (i : Nat) (ρ : Rho) : Option PyData := match ρ[i]? with
  | some (.val d) => some d
  | some (.own o) => topD o.od
  | _ => none
theorem ef_var (i : Nat) : EF K (tVar i) (gv i) := fun A ρ σ H d rs e H1 e1 Q q => by
  unfold gv at e
  split at e
  · rename_i d' h
    cases e
    obtain ⟨v, hv, r⟩ := rs.at' i _ h
    exact ⟨v, hv, q v H1 (Ex.refl _) (r.mono rs.av e1)⟩
  · cases e
theorem eb_var (i : Nat) : EB K (tVar i) (gb i) := fun A ρ σ H d rs e H1 e1 Q q => by
  unfold gb at e
  split at e
  · rename_i d' h
    cases e
    obtain ⟨v, hv, r⟩ := rs.at' i _ h
    exact ⟨v, hv, q v H1 (Ex.refl _) (.inl (r.mono rs.av e1))⟩
  · rename_i o h
    obtain ⟨v, F, hv, r⟩ := rs.at' i _ h
    exact ⟨v, hv, q _ H1 (Ex.refl _) ((r.mono rs.av e1).repB e)⟩
  · cases e
theorem ef_c {v : V} {d : PyData} (h : ∀ H A, Rep K H A d v) : EF K (tC v) (fun _ => some d) := fun A ρ σ H d' rs e H1 e1 Q q => by
  cases e
  exact q v H1 (Ex.refl _) (h H1 A)
theorem ef_int {i : Int} : EF K (tC (.int i)) (fun _ => some (.int i)) := ef_c fun _ _ => by simp only [Rep]
theorem ef_str {i : Str} : EF K (tC (.str i)) (fun _ => some (.str i)) := ef_c fun _ _ => by simp only [Rep]
theorem ef_bl {i : Bool} : EF K (tC (.bl i)) (fun _ => some (.bool i)) := ef_c fun _ _ => by simp only [Rep]
theorem ef_non : EF K (tC .non) (fun _ => some .none) := ef_c fun _ _ => by simp only [Rep]

/-! operations -/
def bnd2 {α β γ : Type} (a : Option α) (b : Option β) (g : α → β → Option γ) : Option γ := match a with
  | none => none
  | some x => match b with
    | none => none
    | some y => g x y
theorem bnd2_some {α β γ : Type} {a : Option α} {b : Option β} {g : α → β → Option γ} {z : γ} (h : bnd2 a b g = some z) : ∃ x y, a = some x ∧ b = some y ∧ g x y = some z := by
  unfold bnd2 at h
  split at h
  · cases h
  · split at h
    · cases h
    · exact ⟨_, _, rfl, rfl, h⟩
theorem bind_some' {α β : Type} {a : Option α} {g : α → Option β} {z : β} (h : a.bind g = some z) : ∃ x, a = some x ∧ g x = some z := by
  cases a with
  | none => cases h
  | some x => exact ⟨x, rfl, h⟩
theorem RepB.mono {H H' : Hp} {A : Av} {d : PyData} {v : V} (ok : AvOk A H) (e : Ex H H') (h : RepB K H A d v) : RepB K H' A d v := by
  rcases h with h | ⟨a, s, vs, ds, e1, n, p, h⟩
  · exact .inl (h.mono ok e)
  · exact .inr ⟨a, s, vs, ds, e1, n.at fun u hu => e _ u hu, p, h.mono ok e⟩
theorem ef_op {r : R2} {g : PyData → PyData → Option PyData} (h : E2 K r g) (ha : EB K ta fa) (hb : EB K tb fb) : EF K (tOp r ta tb) (fun ρ => bnd2 (fa ρ) (fb ρ) g) := fun A ρ σ H d rs e H1 e1 Q q => by
  obtain ⟨x, y, ex, ey, eg⟩ := bnd2_some e
  refine ha A ρ σ H x rs ex H1 e1 _ fun v H2 e2 r2 => ?_
  have av2 := (rs.av.mono e1).mono e2
  refine hb A ρ σ H y rs ey H2 (e1.trans e2) _ fun w H3 e3 r3 => ?_
  exact h A H3 x y v w d (av2.mono e3) (r2.mono av2 e3) r3 eg Q fun v H4 e4 r4 => q v H4 ((e2.trans e3).trans e4) r4
theorem ef_un {r : V → Hp → VK → Prop} {g : PyData → Option PyData} (h : E1 K r g) (ha : EB K ta fa) : EF K (tUn r ta) (fun ρ => (fa ρ).bind g) := fun A ρ σ H d rs e H1 e1 Q q => by
  obtain ⟨x, ex, eg⟩ := bind_some' e
  refine ha A ρ σ H x rs ex H1 e1 _ fun v H2 e2 r2 => ?_
  exact h A H2 x v d ((rs.av.mono e1).mono e2) r2 eg Q fun v H4 e4 r4 => q v H4 (e2.trans e4) r4
theorem ea_nil : EA K tNil (fun _ => some []) := fun A ρ σ H ds rs e H1 e1 Q q => by
  cases e
  exact q [] H1 (Ex.refl _) RepL.nil
def consD (d : PyData) (ds : List PyData) : Option (List PyData) := some (d :: ds)
theorem ea_cons {tr : TA} {fr : Rho → Option (List PyData)} (ha : EF K ta fa) (hr : EA K tr fr) : EA K (tCons ta tr) (fun ρ => bnd2 (fa ρ) (fr ρ) consD) := fun A ρ σ H d rs e H1 e1 Q q => by
  obtain ⟨x, y, ex, ey, eg⟩ := bnd2_some e
  cases eg
  refine ha A ρ σ H x rs ex H1 e1 _ fun v H2 e2 r2 => ?_
  have av2 := (rs.av.mono e1).mono e2
  refine hr A ρ σ H y rs ey H2 (e1.trans e2) _ fun vs H3 e3 r3 => ?_
  exact q _ H3 (e2.trans e3) (RepL.cons (r2.mono av2 e3) r3)
theorem ef_cb {r : List V → Hp → VK → Prop} {g : List PyData → Option PyData} {tr : TA} {fr : Rho → Option (List PyData)} (h : EC K r g) (ha : EA K tr fr) : EF K (tCB r tr) (fun ρ => (fr ρ).bind g) := fun A ρ σ H d rs e H1 e1 Q q => by
  obtain ⟨x, ex, eg⟩ := bind_some' e
  refine ha A ρ σ H x rs ex H1 e1 _ fun vs H2 e2 r2 => ?_
  exact h A H2 x vs d ((rs.av.mono e1).mono e2) r2 eg Q fun v H4 e4 r4 => q v H4 (e2.trans e4) r4
def lenOk (n : Nat) : Bool := decide (n ≤ sizeLine)
def tupD (ds : List PyData) : Option PyData := if lenOk ds.length then some (.tuple ds) else none
def lstD (ds : List PyData) : Option PyData := if lenOk ds.length then some (.list ds) else none
theorem ef_tup {tr : TA} {fr : Rho → Option (List PyData)} (ha : EA K tr fr) : EF K (tTupF tr) (fun ρ => (fr ρ).bind tupD) := fun A ρ σ H d rs e H1 e1 Q q => by
  obtain ⟨x, ex, eg⟩ := bind_some' e
  unfold tupD at eg
  split at eg
  · rename_i hl
    cases eg
    refine ha A ρ σ H x rs ex H1 e1 _ fun vs H2 e2 r2 => ⟨by rw [r2.length]; exact of_decide_eq_true hl, fun p o ho hp => ?_⟩
    have av2 := (rs.av.mono e1).mono e2
    refine q _ _ (e2.trans (Ex.new hp)) ?_
    simp only [Rep]
    exact ⟨p, vs, rfl, ⟨.inl (.inr ⟨o, upd_same⟩), .inr (.inl ⟨o, vs, upd_same, ho⟩)⟩, r2.mono av2 (Ex.new hp)⟩
  · cases eg
/-! tests -/
def asB : PyData → Option Bool
  | .bool b => some b
  | _ => none
theorem asB_some {d : PyData} {b : Bool} (h : asB d = some b) : d = .bool b := by
  cases d <;> simp [asB] at h
  subst h; rfl
theorem et_test (h : EF K te f) : ET K (tTest te) (fun ρ => (f ρ).bind asB) := fun A ρ σ H b rs e H1 e1 Q q => by
  obtain ⟨x, ex, eg⟩ := bind_some' e
  cases asB_some eg
  refine h A ρ σ H _ rs ex H1 e1 _ fun v H2 e2 r => ⟨b, by simpa only [Rep] using r, q H2 e2⟩
theorem et_B (h : EF K te f) : ET K (tB te) (fun ρ => (f ρ).bind asB) := fun A ρ σ H b rs e H1 e1 Q q => by
  obtain ⟨x, ex, eg⟩ := bind_some' e
  cases asB_some eg
  refine h A ρ σ H _ rs ex H1 e1 _ fun v H2 e2 r => ⟨b, by simpa only [Rep] using r, q H2 e2⟩
def andB (a : Option Bool) (b : Option Bool) : Option Bool := match a with
  | some true => b
  | some false => some false
  | none => none
def orB (a : Option Bool) (b : Option Bool) : Option Bool := match a with
  | some true => some true
  | some false => b
  | none => none
theorem et_and {t u : TT} {f g : Rho → Option Bool} (h1 : ET K t f) (h2 : ET K u g) : ET K (tAnd t u) (fun ρ => andB (f ρ) (g ρ)) := fun A ρ σ H b rs e H1 e1 Q q => by
  dsimp only [andB] at e
  split at e
  · rename_i h
    refine h1 A ρ σ H true rs h H1 e1 _ fun H2 e2 => ?_
    exact h2 A ρ σ H b rs e H2 (e1.trans e2) Q fun H3 e3 => q H3 (e2.trans e3)
  · rename_i h
    cases e
    refine h1 A ρ σ H false rs h H1 e1 _ fun H2 e2 => ?_
    exact q H2 e2
  · cases e
theorem et_or {t u : TT} {f g : Rho → Option Bool} (h1 : ET K t f) (h2 : ET K u g) : ET K (tOr t u) (fun ρ => orB (f ρ) (g ρ)) := fun A ρ σ H b rs e H1 e1 Q q => by
  dsimp only [orB] at e
  split at e
  · rename_i h
    cases e
    refine h1 A ρ σ H true rs h H1 e1 _ fun H2 e2 => ?_
    exact q H2 e2
  · rename_i h
    refine h1 A ρ σ H false rs h H1 e1 _ fun H2 e2 => ?_
    exact h2 A ρ σ H b rs e H2 (e1.trans e2) Q fun H3 e3 => q H3 (e2.trans e3)
  · cases e
theorem et_not {t : TT} {f : Rho → Option Bool} (h1 : ET K t f) : ET K (tNot t) (fun ρ => (f ρ).map not) := fun A ρ σ H b rs e H1 e1 Q q => by
  cases hf : f ρ with
  | none => simp only [hf] at e; cases e
  | some c =>
    simp only [hf] at e
    cases e
    exact h1 A ρ σ H c rs hf H1 e1 _ fun H2 e2 => q H2 e2
theorem et_yes : ET K tYes (fun _ => some true) := fun A ρ σ H b rs e H1 e1 Q q => by
  cases e
  exact q H1 (Ex.refl _)
def andV (a b : Option PyData) : Option PyData := match a with
  | some (.bool true) => b
  | some (.bool false) => some (.bool false)
  | _ => none
def orV (a b : Option PyData) : Option PyData := match a with
  | some (.bool true) => some (.bool true)
  | some (.bool false) => b
  | _ => none
theorem ef_andV (h1 : EF K ta fa) (h2 : EF K tb fb) : EF K (tAndV ta tb) (fun ρ => andV (fa ρ) (fb ρ)) := fun A ρ σ H d rs e H1 e1 Q q => by
  dsimp only [andV] at e
  split at e
  · rename_i h
    refine h1 A ρ σ H _ rs h H1 e1 _ fun v H2 e2 r => ⟨true, by simpa only [Rep] using r, ?_⟩
    exact h2 A ρ σ H d rs e H2 (e1.trans e2) Q fun v H3 e3 r => q v H3 (e2.trans e3) r
  · rename_i h
    cases e
    refine h1 A ρ σ H _ rs h H1 e1 _ fun v H2 e2 r => ⟨false, by simpa only [Rep] using r, ?_⟩
    exact q _ H2 e2 (by simp only [Rep])
  · cases e
theorem ef_orV (h1 : EF K ta fa) (h2 : EF K tb fb) : EF K (tOrV ta tb) (fun ρ => orV (fa ρ) (fb ρ)) := fun A ρ σ H d rs e H1 e1 Q q => by
  dsimp only [orV] at e
  split at e
  · rename_i h
    cases e
    refine h1 A ρ σ H _ rs h H1 e1 _ fun v H2 e2 r => ⟨true, by simpa only [Rep] using r, ?_⟩
    exact q _ H2 e2 (by simp only [Rep])
  · rename_i h
    refine h1 A ρ σ H _ rs h H1 e1 _ fun v H2 e2 r => ⟨false, by simpa only [Rep] using r, ?_⟩
    exact h2 A ρ σ H d rs e H2 (e1.trans e2) Q fun v H3 e3 r => q v H3 (e2.trans e3) r
  · cases e
theorem ef_notV (h1 : EF K ta fa) : EF K (tNotV ta) (fun ρ => ((fa ρ).bind asB).map fun b => .bool (!b)) := fun A ρ σ H d rs e H1 e1 Q q => by
  cases h : (fa ρ).bind asB with
  | none => simp only [h] at e; cases e
  | some b =>
    simp only [h] at e
    cases e
    obtain ⟨x, ex, eg⟩ := bind_some' h
    cases asB_some eg
    refine h1 A ρ σ H _ rs ex H1 e1 _ fun v H2 e2 r => ⟨b, by simpa only [Rep] using r, q _ H2 e2 (by simp only [Rep])⟩
end
end Sv

/-! Statements, loops, comprehensions, calls, as functions of data. -/
namespace Sv
open PySem L2 Evl

/-! ### targets -/
def setsS (σ : St) : List Nat → List V → St
  | i :: is, v :: vs => setsS (σ.set i (some v)) is vs
  | _, _ => σ
def setsR (ρ : Rho) : List Nat → List PyData → Rho
  | i :: is, d :: ds => setsR (ρ.set i (.val d)) is ds
  | _, _ => ρ
structure EG (K : Fg) (g : TG) (is : List Nat) (h : PyData → Option (List PyData)) : Prop where
  len : ∀ d es, h d = some es → es.length = is.length
  run : ∀ A σ H d v es, AvOk A H → Rep K H A d v → h d = some es → ∀ Q : St → Hp → Prop, (∀ vs, RepL K H A es vs → Q (setsS σ is vs) H) → g v σ H Q
structure EGs (K : Fg) (g : TGs) (is : List Nat) (h : List PyData → Option (List PyData)) : Prop where
  len : ∀ d es, h d = some es → es.length = is.length
  run : ∀ A σ H d v es, AvOk A H → RepL K H A d v → h d = some es → ∀ Q : St → Hp → Prop, (∀ vs, RepL K H A es vs → Q (setsS σ is vs) H) → g v σ H Q
theorem setsS_append : ∀ (is js : List Nat) (vs ws : List V) (σ : St), is.length = vs.length → setsS (setsS σ is vs) js ws = setsS σ (is ++ js) (vs ++ ws)
  | [], js, [], ws, σ, _ => rfl
  | [], js, _ :: _, ws, σ, h => by simp at h
  | _ :: _, js, [], ws, σ, h => by simp at h
  | i :: is, js, v :: vs, ws, σ, h => by
    show setsS (setsS (σ.set i (some v)) is vs) js ws = setsS (σ.set i (some v)) (is ++ js) (vs ++ ws)
    exact setsS_append is js vs ws _ (by simpa using h)
section
variable {K : Fg}
def tg1 (d : PyData) : Option (List PyData) := some [d]
def tgN : List PyData → Option (List PyData)
  | [] => some []
  | _ => none
def tgC (f : PyData → Option (List PyData)) (fs : List PyData → Option (List PyData)) : List PyData → Option (List PyData)
  | [] => none
  | d :: r => bnd2 (f d) (fs r) fun p q => some (p ++ q)
def tgT (n : Nat) (fs : List PyData → Option (List PyData)) : PyData → Option (List PyData)
  | .tuple ds => if ds.length = n then fs ds else none
  | _ => none
theorem eg_name (i : Nat) : EG K (gName i) [i] tg1 :=
  ⟨fun d es e => by cases e; rfl, fun A σ H d v es ok r e Q q => by
    cases e
    exact q [v] (RepL.one r)⟩
theorem egs_nil : EGs K gNil [] tgN := by
  refine ⟨fun d es e => ?_, fun A σ H d v es ok r e Q q => ?_⟩ <;> unfold tgN at e
  · split at e
    · cases e; rfl
    · cases e
  · split at e
    · cases e
      simp only [RepL] at r
      subst r
      exact ⟨rfl, q [] RepL.nil⟩
    · cases e
theorem egs_cons {g : TG} {u : TGs} {is js : List Nat} {f : PyData → Option (List PyData)} {fs : List PyData → Option (List PyData)} (h1 : EG K g is f) (h2 : EGs K u js fs) :
    EGs K (gCons g u) (is ++ js) (tgC f fs) := by
  refine ⟨fun d es e => ?_, fun A σ H d v es ok r e Q q => ?_⟩ <;> unfold tgC at e
  · split at e
    · cases e
    · obtain ⟨x, y, e1, e2, e3⟩ := bnd2_some e
      cases e3
      simp [h1.len _ _ e1, h2.len _ _ e2]
  · split at e
    · cases e
    · obtain ⟨x, y, e1, e2, e3⟩ := bnd2_some e
      cases e3
      simp only [RepL] at r
      obtain ⟨w, ws, rfl, r1, r2⟩ := r
      refine ⟨w, ws, rfl, h1.run A σ H _ w x ok r1 e1 _ fun vs hv => ?_⟩
      refine h2.run A _ H _ ws y ok r2 e2 _ fun us hu => ?_
      rw [setsS_append _ _ _ _ _ (by rw [hv.length, h1.len _ _ e1])]
      exact q _ (hv.append hu)
theorem eg_tup {n : Nat} {u : TGs} {is : List Nat} {fs : List PyData → Option (List PyData)} (h : EGs K u is fs) : EG K (gTup K n u) is (tgT n fs) := by
  refine ⟨fun d es e => ?_, fun A σ H d v es ok r e Q q => ?_⟩ <;> unfold tgT at e
  · split at e
    · split at e
      · exact h.len _ _ e
      · cases e
    · cases e
  · split at e
    · split at e
      · rename_i hl
        simp only [Rep] at r
        obtain ⟨a, xs, rfl, ⟨h1, _⟩, h2⟩ := r
        exact ⟨a, xs, rfl, h1, by rw [h2.length, hl], h.run A σ H _ xs es ok h2 e Q q⟩
      · cases e
    · cases e
end

/-! ### the state -/
def Avd (O : Av) (ρ : Rho) (ow : Nat → List Addr) : Av := fun x => O x ∨ ∃ i o, ρ[i]? = some (.own o) ∧ x ∈ ow i
structure SR (K : Fg) (Hb : Hp) (O : Av) (pn : Nat → V) (ow : Nat → List Addr) (ρ : Rho) (σ : St) (H : Hp) : Prop where
  rs : RS K (Avd O ρ ow) ρ σ H
  ex : Ex Hb H
  ob : AvOk O Hb
  own : ∀ i o, ρ[i]? = some (.own o) → ∃ v, σ[i]? = some (some v) ∧ Tree K H (Avd O ρ ow) o.od v (ow i)
  pin : ∀ i o, ρ[i]? = some (.own o) → o.par = true → σ[i]? = some (some (pn i))
  nd : ∀ i o, ρ[i]? = some (.own o) → (ow i).Nodup
  fr : ∀ i o, ρ[i]? = some (.own o) → ∀ a ∈ ow i, Hb a = none
  inj : ∀ i j o o', ρ[i]? = some (.own o) → ρ[j]? = some (.own o') → i ≠ j → ∀ a ∈ ow i, a ∉ ow j
inductive Res where
  | nx (ρ : Rho)
  | ret (d : PyData)
  | rex (d : PyData) (ρ : Rho)
  | brk (ρ : Rho)
  | ct (ρ : Rho)
def Fin (K : Fg) (Hb : Hp) (O : Av) (pn : Nat → V) (D : Ends) : Res → Prop
  | .nx ρ => ∀ ow σ H, SR K Hb O pn ow ρ σ H → D.nx σ H
  | .ret d => ∀ v H, Ex Hb H → Rep K H O d v → D.rt v H
  | .rex d ρ => ∀ ow σ v H, SR K Hb O pn ow ρ σ H → Rep K H (Avd O ρ ow) d v → D.rt v H
  | .brk ρ => ∀ ow σ H, SR K Hb O pn ow ρ σ H → D.bk σ H
  | .ct ρ => ∀ ow σ H, SR K Hb O pn ow ρ σ H → D.ct σ H
def ES (K : Fg) (t : TS) (f : Rho → Option Res) : Prop := ∀ Hb O pn ow ρ σ H r D, SR K Hb O pn ow ρ σ H → f ρ = some r → Fin K Hb O pn D r → t D σ H
section
variable {K : Fg} {Hb H H' H1 H2 : Hp} {O A B : Av} {pn : Nat → V} {ow : Nat → List Addr} {ρ : Rho} {σ : St} {D : Ends} {r : Res}
theorem SR.build (len : ρ.length = σ.length) (av : AvOk (Avd O ρ ow) H) (ex : Ex Hb H) (ob : AvOk O Hb) (at' : ∀ (i : Nat) (s : Sl), ρ[i]? = some s → (∀ o, s ≠ .own o) → SlOk K H (Avd O ρ ow) s σ[i]?)
    (own : ∀ i o, ρ[i]? = some (.own o) → ∃ v, σ[i]? = some (some v) ∧ Tree K H (Avd O ρ ow) o.od v (ow i)) (pin : ∀ i o, ρ[i]? = some (.own o) → o.par = true → σ[i]? = some (some (pn i))) (nd : ∀ i o, ρ[i]? = some (.own o) → (ow i).Nodup) (fr : ∀ i o, ρ[i]? = some (.own o) → ∀ a ∈ ow i, Hb a = none)
    (inj : ∀ i j o o', ρ[i]? = some (.own o) → ρ[j]? = some (.own o') → i ≠ j → ∀ a ∈ ow i, a ∉ ow j) : SR K Hb O pn ow ρ σ H := by
  refine ⟨⟨len, av, fun i s q => ?_⟩, ex, ob, own, pin, nd, fr, inj⟩
  cases s with
  | own o =>
    obtain ⟨v, h1, h2⟩ := own i o q
    exact ⟨v, _, h1, h2⟩
  | no => trivial
  | val d => exact at' i _ q fun o z => nomatch z
  | scr d => exact at' i _ q fun o z => nomatch z
theorem SR.mono (e : Ex H H') (h : SR K Hb O pn ow ρ σ H) : SR K Hb O pn ow ρ σ H' := ⟨h.rs.mono e, h.ex.trans e, h.ob, fun i o q => let ⟨v, h1, h2⟩ := h.own i o q; ⟨v, h1, h2.mono h.rs.av e⟩, h.pin, h.nd, h.fr, h.inj⟩
theorem own_set {i j : Nat} {s : Sl} {e : OW} (hs : ∀ o, s ≠ .own o) (h : (ρ.set i s)[j]? = some (.own e)) : j ≠ i ∧ ρ[j]? = some (.own e) := by
  by_cases hj : i = j
  · subst hj
    by_cases hi : i < ρ.length
    · rw [List.getElem?_set_self hi] at h; cases h; exact (hs e rfl).elim
    · rw [List.getElem?_eq_none (by simpa using hi)] at h; cases h
  · rw [List.getElem?_set_ne hj] at h
    exact ⟨fun z => hj z.symm, h⟩
theorem own_setO {i j : Nat} {d e : OW} (h : (ρ.set i (.own d))[j]? = some (.own e)) : (j = i ∧ e = d ∧ i < ρ.length) ∨ (j ≠ i ∧ ρ[j]? = some (.own e)) := by
  by_cases hj : i = j
  · subst hj
    by_cases hi : i < ρ.length
    · rw [List.getElem?_set_self hi] at h; cases h; exact .inl ⟨rfl, rfl, hi⟩
    · rw [List.getElem?_eq_none (by simpa using hi)] at h; cases h
  · rw [List.getElem?_set_ne hj] at h
    exact .inr ⟨fun z => hj z.symm, h⟩
theorem nov {d : PyData} : ∀ o, Sl.val d ≠ .own o := fun _ z => nomatch z
theorem non_ : ∀ o, Sl.no ≠ .own o := fun _ z => nomatch z
theorem RS.anti (s : ∀ a, B a → A a) (h : RS K A ρ σ H) : RS K B ρ σ H := ⟨h.len, fun a ha => h.av a (s a ha), fun i l q => (h.at' i l q).anti s⟩
theorem Avd.set {i : Nat} {s : Sl} (hs : ∀ o, s ≠ .own o) : ∀ a, Avd O (ρ.set i s) ow a → Avd O ρ ow a := fun a h => by
  rcases h with h | ⟨j, e, h1, h2⟩
  · exact .inl h
  · exact .inr ⟨j, e, (own_set hs h1).2, h2⟩
theorem SR.setS {i : Nat} {s : Sl} {x : Option V} (hs : ∀ o, s ≠ .own o) (h : SR K Hb O pn ow ρ σ H) (r : i < σ.length → SlOk K H (Avd O (ρ.set i s) ow) s (some x)) : SR K Hb O pn ow (ρ.set i s) (σ.set i x) H := by
  have rs0 : RS K (Avd O (ρ.set i s) ow) ρ σ H := h.rs.anti (Avd.set hs)
  refine ⟨⟨by simp [h.rs.len], rs0.av, fun j l q => ?_⟩, h.ex, h.ob, fun j e q => ?_, fun j e q => ?_, fun j e q => h.nd j e (own_set hs q).2, fun j e q => h.fr j e (own_set hs q).2, fun j k e e' q q' => h.inj j k e e' (own_set hs q).2 (own_set hs q').2⟩
  · by_cases hj : i = j
    · subst hj
      by_cases hi : i < ρ.length
      · rw [List.getElem?_set_self hi] at q
        cases q
        have hi' : i < σ.length := by rw [← h.rs.len]; exact hi
        rw [List.getElem?_set_self hi']
        exact r hi'
      · rw [List.getElem?_eq_none (by simpa using hi)] at q
        cases q
    · rw [List.getElem?_set_ne hj] at q ⊢
      exact rs0.at' j l q
  · obtain ⟨hj, q⟩ := own_set hs q
    rw [List.getElem?_set_ne (Ne.symm hj)]
    obtain ⟨v, h1, h2⟩ := h.own j e q
    exact ⟨v, h1, Tree.anti (Avd.set hs) _ _ _ h2⟩
  · obtain ⟨hj, q⟩ := own_set hs q
    rw [List.getElem?_set_ne (Ne.symm hj)]
    exact h.pin j e q
theorem SR.setV {i : Nat} {d : PyData} {v : V} (h : SR K Hb O pn ow ρ σ H) (r : Rep K H (Avd O ρ ow) d v) : SR K Hb O pn ow (ρ.set i (.val d)) (σ.set i (some v)) H :=
  h.setS nov fun _ => ⟨v, rfl, Rep.anti (Avd.set nov) _ _ r⟩
theorem SR.sets : ∀ {is : List Nat} {ds : List PyData} {vs : List V} {ρ : Rho} {σ : St}, SR K Hb O pn ow ρ σ H → RepL K H (Avd O ρ ow) ds vs → SR K Hb O pn ow (setsR ρ is ds) (setsS σ is vs) H
  | [], ds, vs, ρ, σ, h, r => h
  | i :: is, [], vs, ρ, σ, h, r => by
    simp only [RepL] at r
    subst r
    exact h
  | i :: is, d :: ds, vs, ρ, σ, h, r => by
    simp only [RepL] at r
    obtain ⟨v, ws, rfl, r1, r2⟩ := r
    exact SR.sets (is := is) (ds := ds) (vs := ws) (ρ := ρ.set i (.val d)) (σ := σ.set i (some v)) (h.setV r1) (RepL.anti (Avd.set nov) _ _ r2)
theorem RS.sets : ∀ {is : List Nat} {ds : List PyData} {vs : List V} {ρ : Rho} {σ : St}, RS K A ρ σ H → RepL K H A ds vs → RS K A (setsR ρ is ds) (setsS σ is vs) H
  | [], ds, vs, ρ, σ, h, r => h
  | i :: is, [], vs, ρ, σ, h, r => by
    simp only [RepL] at r
    subst r
    exact h
  | i :: is, d :: ds, vs, ρ, σ, h, r => by
    simp only [RepL] at r
    obtain ⟨v, ws, rfl, r1, r2⟩ := r
    exact RS.sets (is := is) (ds := ds) (vs := ws) (ρ := ρ.set i (.val d)) (σ := σ.set i (some v)) (h.set r1) r2
/-- the base may be less -/
theorem SR.base {Hc : Hp} (e : Ex Hb Hc) (ob : AvOk O Hb) (h : SR K Hc O pn ow ρ σ H) : SR K Hb O pn ow ρ σ H :=
  ⟨h.rs, e.trans h.ex, ob, h.own, h.pin, h.nd, fun i d q a ha => fresh_back e (h.fr i d q a ha), h.inj⟩
theorem Fin.base {Hc : Hp} (e : Ex Hb Hc) (ob : AvOk O Hb) (h : Fin K Hb O pn D r) : Fin K Hc O pn D r := by
  cases r with
  | nx ρ => exact fun ow σ H s => h ow σ H (s.base e ob)
  | ret d => exact fun v H x q => h v H (e.trans x) q
  | rex d ρ => exact fun ow σ v H s q => h ow σ v H (s.base e ob) q
  | brk ρ => exact fun ow σ H s => h ow σ H (s.base e ob)
  | ct ρ => exact fun ow σ H s => h ow σ H (s.base e ob)
open Classical in
/-- the heap without the names' own -/
noncomputable def less (ρ : Rho) (ow : Nat → List Addr) (H : Hp) : Hp := fun b => if ∃ i o, ρ[i]? = some (.own o) ∧ b ∈ ow i then none else H b
theorem less_own {i : Nat} {d : OW} (q : ρ[i]? = some (.own d)) {a : Addr} (ha : a ∈ ow i) : less ρ ow H a = none := by
  unfold less; rw [if_pos ⟨i, d, q, ha⟩]
theorem less_not {b : Addr} (n : ¬ ∃ i d, ρ[i]? = some (.own d) ∧ b ∈ ow i) : less ρ ow H b = H b := by
  unfold less; rw [if_neg n]
theorem less_ex : Ex (less ρ ow H) H := fun b o e => by
  unfold less at e
  split at e
  · cases e
  · exact e
theorem SR.rebase (h : SR K Hb O pn ow ρ σ H) : SR K (less ρ ow H) O pn ow ρ σ H ∧ Ex Hb (less ρ ow H) := by
  have notown : ∀ b o, Hb b = some o → ¬ ∃ i d, ρ[i]? = some (.own d) ∧ b ∈ ow i := fun b o e ⟨i, d, q, z⟩ => by
    rw [h.fr i d q b z] at e; cases e
  have e : Ex Hb (less ρ ow H) := fun b o q => by rw [less_not (notown b o q)]; exact h.ex b o q
  exact ⟨⟨h.rs, less_ex, h.ob.mono e, h.own, h.pin, h.nd, fun i d q a ha => less_own q ha, h.inj⟩, e⟩
/-- O is none of the names' own -/
theorem SR.notO (h : SR K Hb O pn ow ρ σ H) {i : Nat} {o : OW} (q : ρ[i]? = some (.own o)) {a : Addr} (ha : a ∈ ow i) : ¬ O a := fun z => by
  have := h.ob a z
  rw [h.fr i o q a ha] at this
  exact this
def owU (ow : Nat → List Addr) (i : Nat) (F : List Addr) : Nat → List Addr := fun j => if j = i then F else ow j
theorem owU_same {i : Nat} {F : List Addr} : owU ow i F i = F := if_pos rfl
theorem owU_ne {i j : Nat} {F : List Addr} (h : j ≠ i) : owU ow i F j = ow j := if_neg h
/-- a slot's own is another one -/
theorem SR.put {i : Nat} {o2 : OW} {v : V} {F2 : List Addr} {G : Addr → Prop} (sr : SR K Hb O pn ow ρ σ H) (hil : i < ρ.length) (hG : ∀ a, G a → ∃ o, ρ[i]? = some (.own o) ∧ a ∈ ow i) (k : ∀ b u, H b = some u → ¬ G b → H' b = some u)
    (hF : ∀ a ∈ F2, H a = none ∨ ∃ o, ρ[i]? = some (.own o) ∧ a ∈ ow i) (nd : F2.Nodup) (t : Tree K H' (fun x => Avd O (ρ.set i .no) ow x ∨ x ∈ F2) o2.od v F2) (hpn : o2.par = true → v = pn i) :
    SR K Hb O pn (owU ow i F2) (ρ.set i (.own o2)) (σ.set i (some v)) H' := by
  have notG : ∀ a, Avd O (ρ.set i .no) ow a → ¬ G a := fun a ha hg => by
    obtain ⟨o, q, hm⟩ := hG a hg
    rcases ha with ha | ⟨j, e, q', hm'⟩
    · exact sr.notO q hm ha
    · obtain ⟨hj, q'⟩ := own_set non_ q'
      exact sr.inj i j o e q q' (Ne.symm hj) a hm hm'
  have kp : Kp (Avd O ρ ow) H H' := fun b u e n => k b u e fun g => by
    obtain ⟨o, q, hm⟩ := hG b g
    exact n (.inr ⟨i, o, q, hm⟩)
  have hb : ∀ a, (Avd O (ρ.set i .no) ow a ∨ a ∈ F2) → Avd O ρ ow a ∨ H a = none := fun a ha => by
    rcases ha with ha | ha
    · exact .inl (Avd.set non_ a ha)
    · rcases hF a ha with h | ⟨o, q, hm⟩
      · exact .inr h
      · exact .inl (.inr ⟨i, o, q, hm⟩)
  have keepA : ∀ a, Avd O (ρ.set i .no) ow a → ∀ u, H a = some u → H' a = some u := fun a ha u hu => k a u hu (notG a ha)
  have avC : AvOk (fun x => Avd O (ρ.set i .no) ow x ∨ x ∈ F2) H' := fun a ha => by
    rcases ha with ha | ha
    · have m := sr.rs.av a (Avd.set non_ a ha)
      cases q : H a with
      | none => rw [q] at m; exact m.elim
      | some u => rw [keepA a ha u q]; rw [q] at m; exact m
    · exact Tree.mut _ _ _ t a ha
  have sub : ∀ x, Avd O (ρ.set i (.own o2)) (owU ow i F2) x → Avd O (ρ.set i .no) ow x ∨ x ∈ F2 := fun x hx => by
    rcases hx with hx | ⟨j, e, q, z⟩
    · exact .inl (.inl hx)
    · rcases own_setO q with ⟨rfl, _, _⟩ | ⟨hj, q⟩
      · rw [owU_same] at z; exact .inr z
      · rw [owU_ne hj] at z
        exact .inl (.inr ⟨j, e, by rw [List.getElem?_set_ne (Ne.symm hj)]; exact q, z⟩)
  have oth : ∀ j o, j ≠ i → ρ[j]? = some (.own o) → ∀ a ∈ ow j, Avd O (ρ.set i .no) ow a := fun j o hj q a ha => .inr ⟨j, o, by rw [List.getElem?_set_ne (Ne.symm hj)]; exact q, ha⟩
  have hil' : i < σ.length := by rw [← sr.rs.len]; exact hil
  refine SR.build (by simpa using sr.rs.len) (avC.anti sub) (fun b u e => k b u (sr.ex b u e) fun g => ?_) sr.ob (fun j s q ns => ?_) (fun j e q => ?_) (fun j e q hpar => ?_) (fun j e q => ?_) (fun j e q => ?_) (fun j l e e' q q' hne a ha ha' => ?_)
  · obtain ⟨o, q, hm⟩ := hG b g
    rw [sr.fr i o q b hm] at e; cases e
  · by_cases hj : i = j
    · subst hj
      rw [List.getElem?_set_self hil] at q
      cases q
      exact (ns o2 rfl).elim
    · rw [List.getElem?_set_ne hj] at q ⊢
      have s0 := sr.rs.at' j s q
      cases s with
      | no => trivial
      | scr ns' => obtain ⟨b, h1, h2⟩ := s0; exact ⟨b, h1, h2.keep sr.rs.av kp⟩
      | val d' => obtain ⟨w, h1, h2⟩ := s0; exact ⟨w, h1, Rep.anti sub _ _ (Rep.keep2 sr.rs.av kp hb _ _ h2)⟩
      | own o => exact (ns o rfl).elim
  · rcases own_setO q with ⟨rfl, rfl, _⟩ | ⟨hj, q⟩
    · refine ⟨v, by rw [List.getElem?_set_self hil'], ?_⟩
      rw [owU_same]
      exact Tree.anti sub _ _ _ t
    · rw [List.getElem?_set_ne (Ne.symm hj), owU_ne hj]
      obtain ⟨w, h1, h2⟩ := sr.own j e q
      exact ⟨w, h1, Tree.anti sub _ _ _ (Tree.keep2 sr.rs.av kp hb _ _ _ (fun a ha u hu => keepA a (oth j e hj q a ha) u hu) h2)⟩
  · rcases own_setO q with ⟨rfl, rfl, _⟩ | ⟨hj, q⟩
    · rw [List.getElem?_set_self hil', hpn hpar]
    · rw [List.getElem?_set_ne (Ne.symm hj)]
      exact sr.pin j e q hpar
  · rcases own_setO q with ⟨rfl, rfl, _⟩ | ⟨hj, q⟩
    · rw [owU_same]; exact nd
    · rw [owU_ne hj]; exact sr.nd j e q
  · rcases own_setO q with ⟨rfl, rfl, _⟩ | ⟨hj, q⟩
    · rw [owU_same]
      intro a ha
      rcases hF a ha with h | ⟨o, q, hm⟩
      · exact fresh_back sr.ex h
      · exact sr.fr _ o q a hm
    · rw [owU_ne hj]; exact sr.fr j e q
  · have key : ∀ (j : Nat) (e : OW), j ≠ i → ρ[j]? = some (.own e) → ∀ a ∈ ow j, a ∉ F2 := fun j e hj q a ha hf => by
      rcases hF a hf with h | ⟨o, q', hm⟩
      · have m := sr.rs.av a (.inr ⟨j, e, q, ha⟩)
        rw [h] at m; exact m
      · exact sr.inj j i e o q q' hj a ha hm
    rcases own_setO q with ⟨rfl, rfl, _⟩ | ⟨hj, q⟩
    · rcases own_setO q' with ⟨rfl, rfl, _⟩ | ⟨hk, q'⟩
      · exact hne rfl
      · rw [owU_same] at ha
        rw [owU_ne hk] at ha'
        exact key l e' hk q' a ha' ha
    · rename_i q1
      rw [owU_ne hj] at ha
      rcases own_setO q' with ⟨rfl, rfl, _⟩ | ⟨hk, q'⟩
      · rw [owU_same] at ha'
        exact key j e hj (by assumption) a ha ha'
      · rw [owU_ne hk] at ha'
        exact sr.inj j l e e' (by assumption) q' hne a ha ha'
theorem set_same {α : Type} : ∀ {l : List α} {i : Nat} {x : α}, l[i]? = some x → l.set i x = l
  | [], i, x, h => by simp at h
  | y :: l, 0, x, h => by simp at h; subst h; rfl
  | y :: l, i + 1, x, h => by
    rw [List.set_cons_succ, set_same (by simpa using h)]
/-- a part of a slot's own is another one -/
theorem SR.part {i : Nat} {o : OW} {o1 : OD} {p : List Nat} {v v1 : V} (sr : SR K Hb O pn ow ρ σ H) (hi : ρ[i]? = some (.own o)) (hv : σ[i]? = some (some v)) (ha : At K H v o.od p v1) (hp : getP o.od p = some o1) :
    ∃ F1, Tree K H (Avd O ρ ow) o1 v1 F1 ∧ (∀ a ∈ F1, a ∈ ow i) ∧ F1.Nodup ∧ ∀ (H' : Hp) (o2 : OD) (F2 : List Addr), (∀ b u, H b = some u → b ∉ F1 → H' b = some u) → (∀ a ∈ F2, H a = none ∨ a ∈ F1) → F2.Nodup →
      Tree K H' (fun x => (Avd O ρ ow x ∧ x ∉ F1) ∨ x ∈ F2) o2 v1 F2 → ∃ ow', SR K Hb O pn ow' (ρ.set i (.own ⟨setP o.od p o2, o.par⟩)) σ H' ∧ ∀ a, Avd O (ρ.set i (.own ⟨setP o.od p o2, o.par⟩)) ow' a → (Avd O ρ ow a ∧ a ∉ F1) ∨ a ∈ F2 := by
  obtain ⟨v', hv', t⟩ := sr.own i o hi
  rw [hv] at hv'
  cases hv'
  have hil : i < ρ.length := (List.getElem?_eq_some_iff.mp hi).1
  obtain ⟨F1, pre, post, eF, t1, cl⟩ := t.zip ha hp
  have nd0 : (pre ++ F1 ++ post).Nodup := eF ▸ sr.nd i o hi
  have ndl := List.nodup_append.mp nd0
  have nda := List.nodup_append.mp ndl.1
  have sub1 : ∀ a ∈ F1, a ∈ ow i := fun a h => by rw [eF]; simp [h]
  have dis : ∀ a ∈ pre ++ post, a ∉ F1 := fun a h h1 => by
    rcases List.mem_append.mp h with h | h
    · exact nda.2.2 a h a h1 rfl
    · exact ndl.2.2 a (List.mem_append_right _ h1) a h rfl
  refine ⟨F1, t1, sub1, nda.2.1, fun H' o2 F2 k hF nd2 t2 => ?_⟩
  have inA : ∀ a ∈ ow i, Avd O ρ ow a := fun a h => .inr ⟨i, o, hi, h⟩
  have kp : Kp (Avd O ρ ow) H H' := fun b u e n => k b u e fun h => n (inA b (sub1 b h))
  have kpre : ∀ a ∈ pre ++ post, ∀ u, H a = some u → H' a = some u := fun a h u hu => k a u hu (dis a h)
  have hb : ∀ a, ((Avd O ρ ow a ∧ a ∉ F1) ∨ a ∈ F2) → Avd O ρ ow a ∨ H a = none := fun a h => by
    rcases h with h | h
    · exact .inl h.1
    · rcases hF a h with h | h
      · exact .inr h
      · exact .inl (inA a (sub1 a h))
  have tt := cl H' _ o2 F2 sr.rs.av kp hb kpre t2
  have preA : ∀ a ∈ pre ++ post, a ∈ ow i := fun a h => by
    rw [eF]
    rcases List.mem_append.mp h with h | h <;> simp [h]
  have some_of : ∀ a ∈ ow i, H a ≠ none := fun a h z => by
    have m := sr.rs.av a (inA a h)
    rw [z] at m; exact m
  have nd3 : (pre ++ F2 ++ post).Nodup := by
    have d2 : ∀ a ∈ pre ++ post, a ∉ F2 := fun a h h2 => by
      rcases hF a h2 with z | z
      · exact some_of a (preA a h) z
      · exact dis a h z
    refine List.nodup_append.mpr ⟨List.nodup_append.mpr ⟨nda.1, nd2, fun a h b h' z => ?_⟩, ndl.2.1, fun a h b h' z => ?_⟩
    · subst z; exact d2 a (List.mem_append_left _ h) h'
    · subst z
      rcases List.mem_append.mp h with h | h
      · exact ndl.2.2 a (List.mem_append_left _ h) a h' rfl
      · exact d2 a (List.mem_append_right _ h') h
  have sr' := sr.put (i := i) (o2 := ⟨setP o.od p o2, o.par⟩) (v := v) (F2 := pre ++ F2 ++ post) (G := fun a => a ∈ F1) (H' := H') hil (fun a h => ⟨o, hi, sub1 a h⟩) k (fun a h => by
      rcases List.mem_append.mp h with h | h
      · rcases List.mem_append.mp h with h | h
        · exact .inr ⟨o, hi, preA a (List.mem_append_left _ h)⟩
        · rcases hF a h with h | h
          · exact .inl h
          · exact .inr ⟨o, hi, sub1 a h⟩
      · exact .inr ⟨o, hi, preA a (List.mem_append_right _ h)⟩) nd3 (Tree.anti (fun a h => by
      rcases h with h | h
      · refine .inl ⟨Avd.set non_ a h, fun h1 => ?_⟩
        rcases h with h | ⟨j, e, q, z⟩
        · exact sr.notO hi (sub1 a h1) h
        · obtain ⟨hj, q⟩ := own_set non_ q
          exact sr.inj i j o e hi q (Ne.symm hj) a (sub1 a h1) z
      · rcases List.mem_append.mp h with h | h
        · rcases List.mem_append.mp h with h | h
          · exact .inl ⟨inA a (preA a (List.mem_append_left _ h)), dis a (List.mem_append_left _ h)⟩
          · exact .inr h
        · exact .inl ⟨inA a (preA a (List.mem_append_right _ h)), dis a (List.mem_append_right _ h)⟩) _ _ _ tt) (fun hpar => by
      have := sr.pin i o hi hpar
      rw [hv] at this
      cases this; rfl)
  rw [set_same hv] at sr'
  refine ⟨_, sr', fun a h => ?_⟩
  rcases h with h | ⟨j, e, q, z⟩
  · exact .inl ⟨.inl h, fun h1 => sr.notO hi (sub1 a h1) h⟩
  · rcases own_setO q with ⟨rfl, _, _⟩ | ⟨hj, q⟩
    · rw [owU_same] at z
      rcases List.mem_append.mp z with z | z
      · rcases List.mem_append.mp z with z | z
        · exact .inl ⟨inA a (preA a (List.mem_append_left _ z)), dis a (List.mem_append_left _ z)⟩
        · exact .inr z
      · exact .inl ⟨inA a (preA a (List.mem_append_right _ z)), dis a (List.mem_append_right _ z)⟩
    · rw [owU_ne hj] at z
      exact .inl ⟨.inr ⟨j, e, q, z⟩, fun h1 => sr.inj i j o e hi q (Ne.symm hj) a (sub1 a h1) z⟩
end

/-! ### statements -/
section
variable {K : Fg} {t u : TS} {f g : Rho → Option Res} {te ta : TE} {fe fa : Rho → Option PyData}
theorem es_next : ES K tNext (fun ρ => some (.nx ρ)) := fun Hb O pn ow ρ σ H r D sr e fin => by
  cases e
  exact fin ow σ H sr
def seqR (a : Option Res) (g : Rho → Option Res) : Option Res := match a with
  | some (.nx ρ) => g ρ
  | x => x
theorem es_seq (h1 : ES K t f) (h2 : ES K u g) : ES K (tSeq t u) (fun ρ => seqR (f ρ) g) := fun Hb O pn ow ρ σ H r D sr e fin => by
  dsimp only at e
  cases hf : f ρ with
  | none => rw [hf] at e; cases e
  | some r1 =>
    rw [hf] at e
    cases r1 with
    | nx ρ' => exact h1 Hb O pn ow ρ σ H _ _ sr hf fun ow' σ' H' sr' => h2 Hb O pn ow' ρ' σ' H' r D sr' e fin
    | ret d => cases e; exact h1 Hb O pn ow ρ σ H _ _ sr hf fin
    | rex d ρ' => cases e; exact h1 Hb O pn ow ρ σ H _ _ sr hf fin
    | brk ρ' => cases e; exact h1 Hb O pn ow ρ σ H _ _ sr hf fin
    | ct ρ' => cases e; exact h1 Hb O pn ow ρ σ H _ _ sr hf fin
theorem es_break : ES K tBreak (fun ρ => some (.brk ρ)) := fun Hb O pn ow ρ σ H r D sr e fin => by
  cases e
  exact fin ow σ H sr
theorem es_cont : ES K tCont (fun ρ => some (.ct ρ)) := fun Hb O pn ow ρ σ H r D sr e fin => by
  cases e
  exact fin ow σ H sr
def asgR (i : Nat) (ρ : Rho) (o : Option PyData) : Option Res := o.map fun d => .nx (ρ.set i (.val d))
def asgO (i : Nat) (ρ : Rho) (o : Option OD) : Option Res := o.map fun d => .nx (ρ.set i (.own ⟨d, false⟩))
def asgG (is : List Nat) (h : PyData → Option (List PyData)) (ρ : Rho) (o : Option PyData) : Option Res := o.bind fun d => (h d).map fun es => .nx (setsR ρ is es)
def retR (o : Option PyData) : Option Res := o.map .ret
def ifR (c : Option Bool) (a b : Option Res) : Option Res := c.bind fun k => if k then a else b
def dropR (ρ : Rho) (o : Option PyData) : Option Res := o.map fun _ => .nx ρ
theorem es_asg {i : Nat} (h : EF K te fe) : ES K (tAsg te (gName i)) (fun ρ => asgR i ρ (fe ρ)) := fun Hb O pn ow ρ σ H r D sr e fin => by
  unfold asgR at e
  cases he : fe ρ with
  | none => simp only [he] at e; cases e
  | some d =>
    simp only [he] at e
    cases e
    exact h _ ρ σ H d sr.rs he H (Ex.refl _) _ fun v H2 e2 rv => fin ow _ H2 ((sr.mono e2).setV rv)
theorem es_asgG {gg : TG} {is : List Nat} {hh : PyData → Option (List PyData)} (h : EF K te fe) (hg : EG K gg is hh) : ES K (tAsg te gg) (fun ρ => asgG is hh ρ (fe ρ)) := fun Hb O pn ow ρ σ H r D sr e fin => by
  unfold asgG at e
  obtain ⟨d, he, e⟩ := bind_some' e
  cases hd : hh d with
  | none => simp only [hd] at e; cases e
  | some es =>
    simp only [hd] at e
    cases e
    refine h _ ρ σ H d sr.rs he H (Ex.refl _) _ fun v H2 e2 rv => ?_
    exact hg.run _ σ H2 d v es (sr.rs.av.mono e2) rv hd _ fun vs rl => fin ow _ H2 ((sr.mono e2).sets rl)
theorem es_ret (h : EF K te fe) : ES K (tRet te) (fun ρ => retR (fe ρ)) := fun Hb O pn ow ρ σ H r D sr e fin => by
  unfold retR at e
  cases he : fe ρ with
  | none => simp only [he] at e; cases e
  | some d =>
    simp only [he] at e
    cases e
    exact h _ ρ σ H d sr.rs he H (Ex.refl _) _ fun v H2 e2 rv => fin v H2 (sr.ex.trans e2) (Rep.anti (fun a z => .inl z) _ _ rv)
def rexR (ρ : Rho) (o : Option PyData) : Option Res := o.map fun d => .rex d ρ
/-- a return out of a def that writes -/
theorem es_rex (h : EF K te fe) : ES K (tRet te) (fun ρ => rexR ρ (fe ρ)) := fun Hb O pn ow ρ σ H r D sr e fin => by
  unfold rexR at e
  cases he : fe ρ with
  | none => simp only [he] at e; cases e
  | some d =>
    simp only [he] at e
    cases e
    exact h _ ρ σ H d sr.rs he H (Ex.refl _) _ fun v H2 e2 rv => fin ow σ v H2 (sr.mono e2) rv
theorem es_rexN : ES K tRetN (fun ρ => some (.rex .none ρ)) := fun Hb O pn ow ρ σ H r D sr e fin => by
  cases e
  exact fin ow σ .non H sr (by simp only [Rep])
theorem es_retN : ES K tRetN (fun ρ => some (.ret .none)) := fun Hb O pn ow ρ σ H r D sr e fin => by
  cases e
  exact fin .non H sr.ex (by simp only [Rep])
theorem es_if {c : TT} {fc : Rho → Option Bool} (hc : ET K c fc) (h1 : ES K t f) (h2 : ES K u g) : ES K (tIfS c t u) (fun ρ => ifR (fc ρ) (f ρ) (g ρ)) := fun Hb O pn ow ρ σ H r D sr e fin => by
  unfold ifR at e
  obtain ⟨b, hb, e⟩ := bind_some' e
  refine hc _ ρ σ H b sr.rs hb H (Ex.refl _) _ fun H2 e2 => ?_
  cases b with
  | true => exact h1 Hb O pn ow ρ σ H2 r D (sr.mono e2) e fin
  | false => exact h2 Hb O pn ow ρ σ H2 r D (sr.mono e2) e fin
theorem es_drop (h : EF K te fe) : ES K (tDrop te) (fun ρ => dropR ρ (fe ρ)) := fun Hb O pn ow ρ σ H r D sr e fin => by
  unfold dropR at e
  cases he : fe ρ with
  | none => simp only [he] at e; cases e
  | some d =>
    simp only [he] at e
    cases e
    exact h _ ρ σ H d sr.rs he H (Ex.refl _) _ fun v H2 e2 rv => fin ow σ H2 (sr.mono e2)
/-! new things, the name's own -/
def EN (K : Fg) (t : TE) (f : Rho → Option OD) : Prop := ∀ A ρ σ H o, RS K A ρ σ H → f ρ = some o → ∀ H1, Ex H H1 → ∀ Q : VK, (∀ v F H2, Ex H1 H2 → (∀ a ∈ F, H1 a = none) → F.Nodup → Tree K H2 (fun x => A x ∨ x ∈ F) o v F → Q v H2) → t σ H1 Q
def ENs (K : Fg) (t : TA) (f : Rho → Option (List OD)) : Prop := ∀ A ρ σ H os, RS K A ρ σ H → f ρ = some os → ∀ H1, Ex H H1 → ∀ Q : List V → Hp → Prop, (∀ vs F H2, Ex H1 H2 → (∀ a ∈ F, H1 a = none) → F.Nodup → TreeL K H2 (fun x => A x ∨ x ∈ F) os vs F → Q vs H2) → t σ H1 Q
theorem en_dat (h : EF K te fe) : EN K te (fun ρ => (fe ρ).map .dat) := fun A ρ σ H o rs e H1 e1 Q q => by
  cases he : fe ρ with
  | none => simp only [he] at e; cases e
  | some d =>
    simp only [he] at e
    cases e
    refine h A ρ σ H d rs he H1 e1 Q fun v H2 e2 r => q v [] H2 e2 (fun a h => nomatch h) List.nodup_nil ?_
    simp only [Tree]
    exact ⟨trivial, Rep.anti (fun a z => z.elim (fun z => z) fun z => nomatch z) _ _ r⟩
theorem EN.ef {f : Rho → Option OD} (h : EN K te f) : EF K te (fun ρ => (f ρ).bind flat) := fun A ρ σ H d rs e H1 e1 Q q => by
  obtain ⟨o, ho, e⟩ := bind_some' e
  refine h A ρ σ H o rs ho H1 e1 Q fun v F H2 e2 hF nd t => q _ H2 e2 ?_
  exact Tree.rep o v F d (fun a ha z => by
    have := rs.av.mono e1 a z
    rw [hF a ha] at this; exact this) (Tree.anti (fun _ z => .inl z) _ _ _ t) e
theorem ens_nil : ENs K tNil (fun _ => some []) := fun A ρ σ H o rs e H1 e1 Q q => by
  cases e
  refine q [] [] H1 (Ex.refl _) (fun a h => nomatch h) List.nodup_nil ?_
  simp only [TreeL]
  exact ⟨trivial, trivial⟩
def consO (d : OD) (ds : List OD) : Option (List OD) := some (d :: ds)
theorem ens_cons {tr : TA} {f : Rho → Option OD} {fr : Rho → Option (List OD)} (ha : EN K ta f) (hr : ENs K tr fr) : ENs K (tCons ta tr) (fun ρ => bnd2 (f ρ) (fr ρ) consO) := fun A ρ σ H d rs e H1 e1 Q q => by
  obtain ⟨x, y, ex, ey, eg⟩ := bnd2_some e
  cases eg
  refine ha A ρ σ H x rs ex H1 e1 _ fun v F H2 e2 hF nd t => ?_
  have av2 := (rs.av.mono e1).mono e2
  have hb : ∀ a, (A a ∨ a ∈ F) → A a ∨ H a = none := fun a ha => ha.elim .inl fun z => .inr (fresh_back e1 (hF a z))
  have avF : AvOk (fun x => A x ∨ x ∈ F) H2 := fun a ha => ha.elim (av2 a) (Tree.mut _ _ _ t a)
  have rs2 : RS K (fun x => A x ∨ x ∈ F) ρ σ H2 := ⟨rs.len, avF, fun j s q => (rs.at' j s q).keep2 rs.av (e1.trans e2) hb⟩
  refine hr _ ρ σ H2 y rs2 ey H2 (Ex.refl _) _ fun vs G H3 e3 hG ng tl => ?_
  have someF : ∀ a ∈ F, ∃ u, H2 a = some u := fun a ha => by
    have m := Tree.mut _ _ _ t a ha
    cases q : H2 a with
    | none => rw [q] at m; exact m.elim
    | some u => exact ⟨u, rfl⟩
  have dis : ∀ a ∈ F, a ∉ G := fun a ha hg => by
    obtain ⟨u, hu⟩ := someF a ha
    rw [hG a hg] at hu; cases hu
  refine q _ (F ++ G) H3 (e2.trans e3) (fun a ha => ?_) (List.nodup_append.mpr ⟨nd, ng, fun a h b h' z => dis a h (z ▸ h')⟩) ?_
  · rcases List.mem_append.mp ha with ha | ha
    · exact hF a ha
    · exact fresh_back e2 (hG a ha)
  · simp only [TreeL]
    refine ⟨v, vs, F, G, rfl, rfl, ?_, TreeL.anti (fun a ha => ?_) _ _ _ tl⟩
    · refine Tree.keep2 avF (Kp.ofEx e3) (fun a ha => ?_) _ _ _ (fun a _ u hu => e3 a u hu) t
      rcases ha with ha | ha
      · exact .inl (.inl ha)
      · rcases List.mem_append.mp ha with ha | ha
        · exact .inl (.inr ha)
        · exact .inr (hG a ha)
    · rcases ha with ha | ha
      · exact .inl (.inl ha)
      · rcases List.mem_append.mp ha with ha | ha
        · exact .inl (.inr ha)
        · exact .inr ha
/-- a node is laid over its children -/
theorem tree_new {H2 : Hp} {A : Av} {p : Addr} {s : Shp} {os : List OD} {vs : List V} {F : List Addr} {u : HO} (av : AvOk (fun x => A x ∨ x ∈ F) H2) (hp : H2 p = none) (hn : Node K (upd H2 p u) p vs s) (tl : TreeL K H2 (fun x => A x ∨ x ∈ F) os vs F) :
    Tree K (upd H2 p u) (fun x => A x ∨ x ∈ foot p s ++ F) (.nd s os) (.ref p) (foot p s ++ F) := by
  simp only [Tree]
  refine ⟨p, vs, F, rfl, rfl, hn, TreeL.keep2 av (Kp.ofEx (Ex.new hp)) (fun a ha => ?_) _ _ _ (fun a _ u hu => (Ex.new hp) a u hu) tl⟩
  rcases ha with ha | ha
  · exact .inl (.inl ha)
  · rcases List.mem_append.mp ha with ha | ha
    · exact .inr (foot_mem ha ▸ hp)
    · exact .inl (.inr ha)
theorem new_nodup {H2 : Hp} {A : Av} {p : Addr} {s : Shp} {os : List OD} {vs : List V} {F : List Addr} (hp : H2 p = none) (nd : F.Nodup) (tl : TreeL K H2 A os vs F) : (foot p s ++ F).Nodup := by
  refine List.nodup_append.mpr ⟨foot_nodup, nd, fun a h b h' z => ?_⟩
  subst z
  have m := TreeL.mut _ _ _ tl a h'
  rw [foot_mem h, hp] at m; exact m
def ndO (s : Shp) (os : List OD) : Option OD := if lenOk os.length then some (.nd s os) else none
theorem av_new {H1 H2 : Hp} {A : Av} {F : List Addr} {os : List OD} {vs : List V} (av : AvOk A H1) (e : Ex H1 H2) (tl : TreeL K H2 (fun x => A x ∨ x ∈ F) os vs F) : AvOk (fun x => A x ∨ x ∈ F) H2 := fun a ha => ha.elim (av.mono e a) (TreeL.mut _ _ _ tl a)
theorem en_lst {tr : TA} {fr : Rho → Option (List OD)} (ha : ENs K tr fr) : EN K (tLst tr) (fun ρ => (fr ρ).bind (ndO .lst)) := fun A ρ σ H d rs e H1 e1 Q q => by
  obtain ⟨x, ex, eg⟩ := bind_some' e
  unfold ndO at eg
  split at eg
  · rename_i hl
    cases eg
    refine ha A ρ σ H x rs ex H1 e1 _ fun vs F H2 e2 hF nd tl => ⟨by rw [tl.length]; exact of_decide_eq_true hl, fun p hp => ?_⟩
    refine q _ (foot p .lst ++ F) _ (e2.trans (Ex.new hp)) (fun a ha => ?_) (new_nodup hp nd tl) (tree_new (av_new (rs.av.mono e1) e2 tl) hp upd_same tl)
    rcases List.mem_append.mp ha with ha | ha
    · rw [foot_mem ha]; exact fresh_back e2 hp
    · exact hF a ha
  · cases eg
theorem en_tup {tr : TA} {fr : Rho → Option (List OD)} (ha : ENs K tr fr) : EN K (tTupF tr) (fun ρ => (fr ρ).bind (ndO .tup)) := fun A ρ σ H d rs e H1 e1 Q q => by
  obtain ⟨x, ex, eg⟩ := bind_some' e
  unfold ndO at eg
  split at eg
  · rename_i hl
    cases eg
    refine ha A ρ σ H x rs ex H1 e1 _ fun vs F H2 e2 hF nd tl => ⟨by rw [tl.length]; exact of_decide_eq_true hl, fun p o ho hp => ?_⟩
    refine q _ (foot p .tup ++ F) _ (e2.trans (Ex.new hp)) (fun a ha => ?_) (new_nodup hp nd tl) (tree_new (av_new (rs.av.mono e1) e2 tl) hp ⟨o, upd_same, ho⟩ tl)
    rcases List.mem_append.mp ha with ha | ha
    · rw [foot_mem ha]; exact fresh_back e2 hp
    · exact hF a ha
  · cases eg
theorem en_dk : EN K tDNewK (fun _ => some (.nd (.dk []) [])) := fun A ρ σ H d rs e H1 e1 Q q => by
  cases e
  intro p hp
  refine q _ (foot p (.dk [])) _ (Ex.new hp) (fun a ha => by rw [foot_mem ha]; exact hp) foot_nodup ?_
  simp only [Tree, TreeL]
  exact ⟨p, [], [], rfl, by simp, ⟨rfl, upd_same⟩, by simp⟩
theorem en_dt : EN K tDNewT (fun _ => some (.nd (.dt []) [])) := fun A ρ σ H d rs e H1 e1 Q q => by
  cases e
  intro p hp
  refine q _ (foot p (.dt [])) _ (Ex.new hp) (fun a ha => by rw [foot_mem ha]; exact hp) foot_nodup ?_
  simp only [Tree, TreeL]
  exact ⟨p, [], [], rfl, by simp, ⟨rfl, upd_same⟩, by simp⟩
theorem es_asgO {i : Nat} {f : Rho → Option OD} (h : EN K te f) :
    ES K (tAsg te (gName i)) (fun ρ => asgO i ρ (f ρ)) := fun Hb O pn ow ρ σ H r D sr e fin => by
  unfold asgO at e
  cases he : f ρ with
  | none => simp only [he] at e; cases e
  | some o =>
    simp only [he] at e
    cases e
    refine h _ ρ σ H o sr.rs he H (Ex.refl _) _ fun v F H2 e2 hF nd t => ?_
    by_cases hil : i < ρ.length
    · refine fin (owU ow i F) _ H2 (sr.put (G := fun _ => False) hil (fun a z => z.elim) (fun b u hu _ => e2 b u hu) (fun a ha => .inl (hF a ha)) nd (Tree.anti (fun a ha => ?_) _ _ _ t) (fun z => nomatch z))
      exact ha.elim (fun z => .inl (Avd.set non_ a z)) .inr
    · have e1 : ρ.set i (.own ⟨o, false⟩) = ρ := List.set_eq_of_length_le (by omega)
      have e3 : σ.set i (some v) = σ := List.set_eq_of_length_le (by rw [← sr.rs.len]; omega)
      replace fin : Fin K Hb O pn D (.nx (ρ.set i (.own ⟨o, false⟩))) := fin
      rw [e1] at fin
      show D.nx (σ.set i (some v)) H2
      rw [e3]
      exact fin ow _ H2 (sr.mono e2)
end

/-! ### paths into a name's own -/
def ownO (i : Nat) (ρ : Rho) : Option OW := match ρ[i]? with
  | some (.own o) => some o
  | _ => none
theorem ownO_some {i : Nat} {ρ : Rho} {o : OW} (h : ownO i ρ = some o) : ρ[i]? = some (.own o) := by
  unfold ownO at h
  split at h
  · cases h; assumption
  · cases h
def EPt (K : Fg) (t : TE) (i : Nat) (g : Rho → Option (List Nat)) : Prop := ∀ A ρ σ H o p v, RS K A ρ σ H → ρ[i]? = some (.own o) → σ[i]? = some (some v) → g ρ = some p → ∀ H1, Ex H H1 → ∀ Q : VK, (∀ v1 H2, Ex H1 H2 → At K H2 v o.od p v1 → Q v1 H2) → t σ H1 Q
/-- the part -/
def partO (i : Nat) (g : Rho → Option (List Nat)) (ρ : Rho) : Option OD := bnd2 (ownO i ρ) (g ρ) fun o p => getP o.od p
def mutR (i : Nat) (g : Rho → Option (List Nat)) (ρ : Rho) (f : OD → Option OD) : Option Res := bnd2 (ownO i ρ) (g ρ) fun o p => (getP o.od p).bind fun o1 => (f o1).map fun o2 => .nx (ρ.set i (.own ⟨setP o.od p o2, o.par⟩))
section
variable {K : Fg} {t ta te : TE} {i : Nat} {g : Rho → Option (List Nat)} {f : Rho → Option OD} {fe : Rho → Option PyData}
theorem RS.tree {A : Av} {ρ : Rho} {σ : St} {H : Hp} {o : OW} {v : V} (rs : RS K A ρ σ H) (hi : ρ[i]? = some (.own o)) (hv : σ[i]? = some (some v)) : ∃ F, Tree K H A o.od v F := by
  obtain ⟨v', F, h1, h2⟩ := rs.at' i _ hi
  rw [hv] at h1
  cases h1
  exact ⟨F, h2⟩
theorem RS.ownV {A : Av} {ρ : Rho} {σ : St} {H : Hp} {o : OW} (rs : RS K A ρ σ H) (hi : ρ[i]? = some (.own o)) : ∃ v, σ[i]? = some (some v) := by
  obtain ⟨v', F, h1, h2⟩ := rs.at' i _ hi
  exact ⟨v', h1⟩
theorem ep_var : EPt K (tVar i) i (fun _ => some []) := fun A ρ σ H o p v rs hi hv hp H1 e1 Q q => by
  cases hp
  exact ⟨v, hv, q v H1 (Ex.refl _) (by simp only [At])⟩
/-- a part that is a datum, or a node over data -/
theorem ef_part (h : EPt K t i g) : EF K t (fun ρ => (partO i g ρ).bind fun o => match o with | .dat d => some d | _ => none) := fun A ρ σ H d rs e H1 e1 Q q => by
  obtain ⟨o1, ho, e⟩ := bind_some' e
  unfold partO at ho
  obtain ⟨o, p, h1, h2, h3⟩ := bnd2_some ho
  have hi := ownO_some h1
  obtain ⟨v, hv⟩ := rs.ownV hi
  obtain ⟨F, tr⟩ := rs.tree hi hv
  refine h A ρ σ H o p v rs hi hv h2 H1 e1 Q fun v1 H2 e2 at1 => ?_
  obtain ⟨F1, pre, post, _, t1, _⟩ := (tr.mono rs.av (e1.trans e2)).zip at1 h3
  split at e
  · cases e
    simp only [Tree] at t1
    exact q v1 H2 e2 t1.2
  · cases e
theorem eb_part (h : EPt K t i g) : EB K t (fun ρ => (partO i g ρ).bind topD) := fun A ρ σ H d rs e H1 e1 Q q => by
  obtain ⟨o1, ho, e⟩ := bind_some' e
  unfold partO at ho
  obtain ⟨o, p, h1, h2, h3⟩ := bnd2_some ho
  have hi := ownO_some h1
  obtain ⟨v, hv⟩ := rs.ownV hi
  obtain ⟨F, tr⟩ := rs.tree hi hv
  refine h A ρ σ H o p v rs hi hv h2 H1 e1 Q fun v1 H2 e2 at1 => ?_
  obtain ⟨F1, pre, post, _, t1, _⟩ := (tr.mono rs.av (e1.trans e2)).zip at1 h3
  exact q v1 H2 e2 (t1.repB e)
/-! one step on -/
def stepF (f : Str) : OD → Option Nat
  | .nd (.ob _ ns) _ => ns.findIdx? (· == f)
  | _ => none
def fldP (i : Nat) (g : Rho → Option (List Nat)) (f : Str) (ρ : Rho) : Option (List Nat) := (partO i g ρ).bind fun o1 => (stepF f o1).bind fun j => (g ρ).map (· ++ [j])
def FldOk (K : Fg) (c f : Str) : Prop := ∀ C, clsAt K c C → Cls K C ∧ NoAttr K C f
theorem lookup_zip {β : Type} (f : Str) : ∀ {ns : List Str} {vs : List β} {j : Nat} {w : β}, ns.findIdx? (· == f) = some j → vs[j]? = some w → (ns.zip vs).lookup f = some w
  | [], vs, j, w, h, h2 => by simp at h
  | n :: ns, [], j, w, h, h2 => by simp at h2
  | n :: ns, v :: vs, j, w, h, h2 => by
    rw [List.findIdx?_cons] at h
    by_cases hn : n = f
    · subst hn
      simp at h
      subst h
      simp at h2
      subst h2
      simp
    · have hb : (n == f) = false := by simpa using hn
      rw [hb] at h
      simp only [Bool.false_eq_true, if_false] at h
      obtain ⟨j', hj', rfl⟩ := Option.map_eq_some_iff.mp h
      rw [List.zip_cons_cons, List.lookup_cons]
      have hb' : (f == n) = false := by simpa using fun z => hn z.symm
      rw [hb']
      exact lookup_zip f hj' (by simpa using h2)
theorem findIdx_lt {α : Type} {p : α → Bool} : ∀ {l : List α} {j : Nat}, l.findIdx? p = some j → j < l.length
  | [], j, h => by simp at h
  | x :: l, j, h => by
    rw [List.findIdx?_cons] at h
    split at h
    · cases h; simp
    · obtain ⟨j', hj', rfl⟩ := Option.map_eq_some_iff.mp h
      have := findIdx_lt hj'
      simp; omega
/-- the next step of a path, from what its node is -/
theorem ep_step {A : Av} {ρ : Rho} {σ : St} {H H2 : Hp} {o : OW} {o1 x : OD} {p : List Nat} {v v1 : V} {j : Nat} (rs : RS K A ρ σ H) (hi : ρ[i]? = some (.own o)) (hv : σ[i]? = some (some v)) (e : Ex H H2) (at1 : At K H2 v o.od p v1) (h3 : getP o.od p = some o1) (hk : kid o1 j = some x) :
    ∃ a s xs vs w, o1 = .nd s xs ∧ v1 = .ref a ∧ Node K H2 a vs s ∧ vs[j]? = some w ∧ At K H2 v o.od (p ++ [j]) w := by
  obtain ⟨F, tr⟩ := rs.tree hi hv
  obtain ⟨F1, pre, post, _, t1, _⟩ := (tr.mono rs.av e).zip at1 h3
  cases o1 with
  | dat d => cases hk
  | nd s xs =>
    simp only [Tree] at t1
    obtain ⟨a, vs, G, rfl, rfl, n, tl⟩ := t1
    have hx : xs[j]? = some x := hk
    have hjl : j < xs.length := (List.getElem?_eq_some_iff.mp hx).1
    have hw : vs[j]? = some (vs[j]'(by rw [tl.length]; exact hjl)) := List.getElem?_eq_getElem _
    refine ⟨a, s, xs, vs, _, rfl, rfl, n, hw, at1.app h3 ?_⟩
    simp only [At]
    exact ⟨a, s, xs, vs, _, x, rfl, rfl, n, hw, hx, rfl⟩
def fldS (c fl : Str) : OD → Option Nat
  | .nd (.ob c' ns) xs => if c' = c then (ns.findIdx? (· == fl)).bind fun j => if j < xs.length then some j else none else none
  | _ => none
theorem fldS_some {c fl : Str} {o : OD} {j : Nat} (h : fldS c fl o = some j) : ∃ ns xs, o = .nd (.ob c ns) xs ∧ ns.findIdx? (· == fl) = some j ∧ j < xs.length := by
  unfold fldS at h
  split at h
  · split at h
    · rename_i hc
      subst hc
      obtain ⟨k, hk, h⟩ := bind_some' h
      split at h
      · cases h
        exact ⟨_, _, rfl, hk, by assumption⟩
      · cases h
    · cases h
  · cases h
/-- the path goes on -/
def stepP (i : Nat) (g : Rho → Option (List Nat)) (s : OD → Option Nat) (ρ : Rho) : Option (List Nat) := bnd2 (ownO i ρ) (g ρ) fun o p => (getP o.od p).bind fun o1 => (s o1).map fun j => p ++ [j]
theorem stepP_some {ρ : Rho} {s : OD → Option Nat} {p' : List Nat} (h : stepP i g s ρ = some p') : ∃ o p o1 j, ρ[i]? = some (.own o) ∧ g ρ = some p ∧ getP o.od p = some o1 ∧ s o1 = some j ∧ p' = p ++ [j] := by
  unfold stepP at h
  obtain ⟨o, p, h1, h2, h3⟩ := bnd2_some h
  obtain ⟨o1, h4, h5⟩ := bind_some' h3
  obtain ⟨j, hj, e⟩ := Option.map_eq_some_iff.mp h5
  exact ⟨o, p, o1, j, ownO_some h1, h2, h4, hj, e.symm⟩
theorem ep_fld {fl c : Str} (h : EPt K t i g) (hc : FldOk K c fl) : EPt K (tFld K t fl) i (stepP i g (fldS c fl)) := fun A ρ σ H o p' v rs hi hv hp H1 e1 Q q => by
  obtain ⟨o', p, o1, j, hi', h2, h3, hj, rfl⟩ := stepP_some hp
  rw [hi] at hi'
  cases hi'
  obtain ⟨ns, xs, rfl, hn, hl⟩ := fldS_some hj
  refine h A ρ σ H o p v rs hi hv h2 H1 e1 _ fun v1 H2 e2 at1 => ?_
  obtain ⟨a, s, xs', vs, w, e, rfl, n, hw, at2⟩ := ep_step rs hi hv (e1.trans e2) at1 h3 (j := j) (x := xs[j]) (by simp [kid, hl])
  cases e
  obtain ⟨hln, C, dx, hcl, hH⟩ := n
  exact ⟨a, C, dx, _, w, rfl, hH, (hc C hcl).1, (hc C hcl).2, lookup_zip fl hn hw, q w H2 e2 at2⟩
/-- d[k], a dict of the tree, k a text or int -/
def keyI (q : Key) : OD → Option Nat
  | .nd (.dk ks) xs => (ks.findIdx? (fun k => decide (k = q))).bind fun j => if j < xs.length then some j else none
  | _ => none
def toK : PyData → Option Key
  | .int i => some (.inl i)
  | .str s => some (.inr s)
  | _ => none
theorem toK_some {d : PyData} {q : Key} (h : toK d = some q) : d = kD q := by
  cases d <;> simp [toK] at h <;> subst h <;> rfl
theorem rep_key {H : Hp} {A : Av} {q : Key} {v : V} (h : Rep K H A (kD q) v) : v = kV q := by
  cases q with
  | inl n => simp only [kD, Rep] at h; exact h
  | inr n => simp only [kD, Rep] at h; exact h
theorem valV_zip {κ : Type} [DecidableEq κ] (q : κ) : ∀ {ks : List κ} {vs : List V} {j : Nat} {w : V}, ks.findIdx? (fun k => decide (k = q)) = some j → vs[j]? = some w → valV (ks.zip vs) q = some w
  | [], vs, j, w, h, h2 => by simp at h
  | n :: ns, [], j, w, h, h2 => by simp at h2
  | n :: ns, v :: vs, j, w, h, h2 => by
    rw [List.findIdx?_cons] at h
    by_cases hn : n = q
    · subst hn
      simp at h
      subst h
      simp at h2
      subst h2
      exact valV_pos rfl
    · rw [decide_eq_false hn] at h
      simp only [Bool.false_eq_true, if_false] at h
      obtain ⟨j', hj', rfl⟩ := Option.map_eq_some_iff.mp h
      rw [List.zip_cons_cons, valV_neg hn]
      exact valV_zip q hj' (by simpa using h2)
theorem ep_key (h : EPt K t i g) (he : EF K te fe) : EPt K (tDGet t te) i (fun ρ => (fe ρ).bind fun d => (toK d).bind fun q => stepP i g (keyI q) ρ) := fun A ρ σ H o p' v rs hi hv hp H1 e1 Q q => by
  obtain ⟨d, hd, hp1⟩ := bind_some' hp
  obtain ⟨k, hk, hp2⟩ := bind_some' hp1
  have hdk := toK_some hk
  subst hdk
  replace hp := hp2
  obtain ⟨o', p, o1, j, hi', h2, h3, hj, rfl⟩ := stepP_some hp
  rw [hi] at hi'
  cases hi'
  unfold keyI at hj
  split at hj
  · rename_i ks xs
    obtain ⟨j', hj', hj⟩ := bind_some' hj
    split at hj
    · rename_i hl
      cases hj
      refine h A ρ σ H o p v rs hi hv h2 H1 e1 _ fun v1 H2 e2 at1 => ?_
      refine he A ρ σ H _ rs hd H2 (e1.trans e2) _ fun w2 H3 e3 rk => ?_
      obtain ⟨a, s, xs', vs, w, e, rfl, n, hw, at2⟩ := ep_step rs hi hv ((e1.trans e2).trans e3) (at1.mono e3) h3 (j := j) (x := xs[j]) (by simp [kid, hl])
      cases e
      cases rep_key rk
      refine ⟨a, w, rfl, ?_, q w H3 (e2.trans e3) at2⟩
      rw [← valV_zip k hj' hw]
      exact DGet.k n.2
    · cases hj
  · cases hj
/-- xs[n], a list or tuple of the tree -/
def ixI (n : Int) : OD → Option Nat
  | .nd .lst xs => ixN xs.length n
  | .nd .tup xs => ixN xs.length n
  | _ => none
theorem ep_ix (h : EPt K t i g) (he : EF K te fe) : EPt K (tOp (fun x y H Q => rIxT K x y H Q ∨ rIxL K x y H Q ∨ rIxS x y H Q) t te) i (fun ρ => (fe ρ).bind fun d => (match d with | .int n => some n | _ => none).bind fun n => stepP i g (ixI n) ρ) := fun A ρ σ H o p' v rs hi hv hp H1 e1 Q q => by
  obtain ⟨d, hd, hp⟩ := bind_some' hp
  obtain ⟨n, hn, hp⟩ := bind_some' hp
  have hdn : d = .int n := by cases d <;> simp at hn; subst hn; rfl
  subst hdn
  obtain ⟨o', p, o1, j, hi', h2, h3, hj, rfl⟩ := stepP_some hp
  rw [hi] at hi'
  cases hi'
  refine h A ρ σ H o p v rs hi hv h2 H1 e1 _ fun v1 H2 e2 at1 => ?_
  refine he A ρ σ H _ rs hd H2 (e1.trans e2) _ fun w2 H3 e3 rk => ?_
  simp only [Rep] at rk
  subst rk
  unfold ixI at hj
  split at hj
  · rename_i xs
    have hjl : j < xs.length := (ixN_seq hj).2.1
    obtain ⟨a, s, xs', vs, w, e, rfl, nn, hw, at2⟩ := ep_step rs hi hv ((e1.trans e2).trans e3) (at1.mono e3) h3 (j := j) (x := xs[j]) (by simp [kid, hjl])
    cases e
    obtain ⟨F, tr⟩ := rs.tree hi hv
    obtain ⟨F1, pre, post, _, t1, _⟩ := (tr.mono rs.av ((e1.trans e2).trans e3)).zip (at1.mono e3) h3
    simp only [Tree] at t1
    obtain ⟨a', vs', G, e', _, n', tl⟩ := t1
    cases e'
    cases n'.inj nn
    refine .inr (.inl ⟨a, vs, n, w, rfl, rfl, SqL.of nn, ?_, q w H3 (e2.trans e3) at2⟩)
    unfold atI
    rw [tl.length, hj]
    exact hw
  · rename_i xs
    have hjl : j < xs.length := (ixN_seq hj).2.1
    obtain ⟨a, s, xs', vs, w, e, rfl, nn, hw, at2⟩ := ep_step rs hi hv ((e1.trans e2).trans e3) (at1.mono e3) h3 (j := j) (x := xs[j]) (by simp [kid, hjl])
    cases e
    obtain ⟨F, tr⟩ := rs.tree hi hv
    obtain ⟨F1, pre, post, _, t1, _⟩ := (tr.mono rs.av ((e1.trans e2).trans e3)).zip (at1.mono e3) h3
    simp only [Tree] at t1
    obtain ⟨a', vs', G, e', _, n', tl⟩ := t1
    cases e'
    cases n'.inj nn
    obtain ⟨oo, nn, _⟩ := nn
    refine .inl ⟨a, vs, n, w, rfl, rfl, .inl (.inr ⟨oo, nn⟩), ?_, q w H3 (e2.trans e3) at2⟩
    unfold atI
    rw [tl.length, hj]
    exact hw
  · cases hj
end
theorem At.inj {K : Fg} {H : Hp} : ∀ {p : List Nat} {v : V} {o : OD} {v1 v2 : V}, At K H v o p v1 → At K H v o p v2 → v1 = v2
  | [], v, o, v1, v2, h, h' => h.trans h'.symm
  | j :: p, v, o, v1, v2, h, h' => by
    simp only [At] at h h'
    obtain ⟨a, s, xs, vs, w, x, e1, rfl, h3, h4, h5, h6⟩ := h
    obtain ⟨a', s', xs', vs', w', x', e1', e2', h3', h4', h5', h6'⟩ := h'
    cases e2'
    rw [e1] at e1'
    cases e1'
    cases h3.inj h3'
    rw [h4] at h4'
    cases h4'
    rw [h5] at h5'
    cases h5'
    exact At.inj h6 h6'
theorem TreeL.get {K : Fg} {H : Hp} {A : Av} : ∀ {os : List OD} {vs : List V} {G : List Addr} {j : Nat} {x : OD}, TreeL K H A os vs G → os[j]? = some x → ∃ w F, vs[j]? = some w ∧ Tree K H A x w F
  | [], vs, G, j, x, h, e => by simp at e
  | o :: os, vs, G, j, x, h, e => by
    simp only [TreeL] at h
    obtain ⟨y, ys, F1, F2, rfl, rfl, h1, h2⟩ := h
    cases j with
    | zero => simp at e; subst e; exact ⟨y, F1, rfl, h1⟩
    | succ j =>
      obtain ⟨w, F, e1, t⟩ := TreeL.get h2 (j := j) (x := x) (by simpa using e)
      exact ⟨w, F, by simpa using e1, t⟩
theorem Tree.at {K : Fg} {H : Hp} {A : Av} : ∀ {p : List Nat} {o : OD} {v : V} {F : List Addr} {o1 : OD}, Tree K H A o v F → getP o p = some o1 → ∃ v1, At K H v o p v1
  | [], o, v, F, o1, t, h => ⟨v, rfl⟩
  | j :: p, o, v, F, o1, t, h => by
    simp only [getP] at h
    obtain ⟨x, hx, h9⟩ := bind_some' h
    cases o with
    | dat d => cases hx
    | nd s xs =>
      simp only [Tree] at t
      obtain ⟨a, vs, G, rfl, rfl, n, tl⟩ := t
      obtain ⟨w, F', hw, t'⟩ := tl.get hx
      obtain ⟨v1, h1⟩ := Tree.at t' h9
      refine ⟨v1, ?_⟩
      simp only [At]
      exact ⟨a, s, xs, vs, w, x, rfl, rfl, n, hw, hx, h1⟩
theorem TreeL.append {K : Fg} {H : Hp} {A : Av} : ∀ {os ps : List OD} {vs ws : List V} {G G' : List Addr}, TreeL K H A os vs G → TreeL K H A ps ws G' → TreeL K H A (os ++ ps) (vs ++ ws) (G ++ G')
  | [], ps, vs, ws, G, G', h, h' => by
    simp only [TreeL] at h
    obtain ⟨rfl, rfl⟩ := h
    simpa using h'
  | o :: os, ps, vs, ws, G, G', h, h' => by
    simp only [TreeL] at h
    obtain ⟨y, ys, F1, F2, rfl, rfl, h1, h2⟩ := h
    simp only [List.cons_append, TreeL]
    exact ⟨y, ys ++ ws, F1, F2 ++ G', rfl, by simp, h1, TreeL.append h2 h'⟩
theorem TreeL.one {K : Fg} {H : Hp} {A : Av} {o : OD} {v : V} {F : List Addr} (h : Tree K H A o v F) : TreeL K H A [o] [v] F := by
  simp only [TreeL]
  exact ⟨v, [], F, [], rfl, by simp, h, by simp⟩
section
variable {K : Fg} {Hb H : Hp} {O : Av} {pn : Nat → V} {ow : Nat → List Addr} {ρ : Rho} {σ : St} {i : Nat} {o : OW} {p : List Nat} {v v1 : V} {s : Shp} {xs : List OD}
def lstLike : Shp → Bool
  | .tup => false
  | _ => true
theorem foot_like {a : Addr} : ∀ {s : Shp}, lstLike s = true → foot a s = [a]
  | .lst, _ => rfl
  | .tup, h => nomatch h
  | .dk _, _ => rfl
  | .dt _, _ => rfl
  | .ob _ _, _ => rfl
/-- the avoided behind a node's change -/
def AvN (A : Av) (a : Addr) (G F' : List Addr) : Av := fun x => (A x ∧ x ∉ a :: G) ∨ x ∈ a :: F'
theorem SR.node (sr : SR K Hb O pn ow ρ σ H) (hi : ρ[i]? = some (.own o)) (hv : σ[i]? = some (some v)) (hp : getP o.od p = some (.nd s xs)) (hs : lstLike s = true) :
    ∃ a vs G, At K H v o.od p (.ref a) ∧ Node K H a vs s ∧ TreeL K H (Avd O ρ ow) xs vs G ∧ (a :: G).Nodup ∧ (∀ b ∈ a :: G, Avd O ρ ow b) ∧ ∀ (H3 : Hp) (u : HO) (s' : Shp) (xs' : List OD) (vs' : List V) (F' : List Addr), Ex H H3 → Node K (upd H3 a u) a vs' s' → lstLike s' = true →
      (∀ b ∈ F', b ∈ G ∨ H b = none) → F'.Nodup → TreeL K (upd H3 a u) (AvN (Avd O ρ ow) a G F') xs' vs' F' → ∃ ow', SR K Hb O pn ow' (ρ.set i (.own ⟨setP o.od p (.nd s' xs'), o.par⟩)) σ (upd H3 a u) := by
  obtain ⟨v', hv', t⟩ := sr.own i o hi
  rw [hv] at hv'
  cases hv'
  obtain ⟨v1, at1⟩ := t.at hp
  obtain ⟨F1, t1, sub, nd1, cl⟩ := sr.part hi hv at1 hp
  simp only [Tree] at t1
  obtain ⟨a, vs, G, rfl, rfl, n, tl⟩ := t1
  rw [foot_like hs] at nd1 cl sub
  have inA : ∀ b ∈ a :: G, Avd O ρ ow b := fun b hb => .inr ⟨i, o, hi, sub b hb⟩
  refine ⟨a, vs, G, at1, n, tl, nd1, inA, fun H3 u s' xs' vs' F' e n' hs' hF nd tl' => ?_⟩
  have na : H a ≠ none := by
    obtain ⟨u, hu⟩ := n.some
    rw [hu]; intro z; cases z
  suffices hh : _ ∧ _ ∧ _ ∧ _ from let ⟨ow', sr', _⟩ := cl (upd H3 a u) (.nd s' xs') (a :: F') hh.1 hh.2.1 hh.2.2.1 hh.2.2.2; ⟨ow', sr'⟩
  refine ⟨fun b u hu hb => ?_, fun b hb => ?_, ?_, ?_⟩
  · rw [upd_ne fun z => hb (by rw [z]; exact List.mem_cons_self)]
    exact e b u hu
  · rcases List.mem_cons.mp hb with rfl | hb
    · exact .inr List.mem_cons_self
    · rcases hF b hb with h | h
      · exact .inr (List.mem_cons_of_mem _ h)
      · exact .inl h
  · refine List.nodup_cons.mpr ⟨fun hm => ?_, nd⟩
    rcases hF a hm with h | h
    · exact (List.nodup_cons.mp nd1).1 h
    · exact na h
  · simp only [Tree]
    refine ⟨a, vs', F', rfl, by rw [foot_like hs']; rfl, n', tl'⟩
/-- the children that stay -/
theorem kids_keep {A : Av} {a : Addr} {G F' : List Addr} {H3 : Hp} {u : HO} (ok : AvOk A H) (hA : ∀ b ∈ a :: G, A b) (nd : (a :: G).Nodup) (e : Ex H H3) (hF : ∀ b ∈ F', b ∈ G ∨ H b = none) {ys : List OD} {ws : List V} {G' : List Addr} (hG : ∀ b ∈ G', b ∈ G)
    (tl : TreeL K H A ys ws G') : TreeL K (upd H3 a u) (AvN A a G F') ys ws G' := by
  refine TreeL.keep2 ok (fun b w hw hn => ?_) (fun b hb => ?_) _ _ _ (fun b hb w hw => ?_) tl
  · rw [upd_ne (show b ≠ a from fun z => hn (z ▸ hA a List.mem_cons_self))]
    exact e b w hw
  · rcases hb with hb | hb
    · exact .inl hb.1
    · rcases List.mem_cons.mp hb with rfl | hb
      · exact .inl (hA b List.mem_cons_self)
      · rcases hF b hb with h | h
        · exact .inl (hA b (List.mem_cons_of_mem _ h))
        · exact .inr h
  · rw [upd_ne (show b ≠ a from fun z => (List.nodup_cons.mp nd).1 (z ▸ hG b hb))]
    exact e b w hw
/-- a new child -/
theorem kid_new {A : Av} {a : Addr} {G F F' : List Addr} {H3 : Hp} {u : HO} {x : OD} {w : V} (ok : AvOk A H3) (hA : ∀ b ∈ a :: G, A b) (na : H a ≠ none) (e : Ex H H3) (hF : ∀ b ∈ F', b ∈ G ∨ b ∈ F) (hn : ∀ b ∈ F, H b = none) (t : Tree K H3 (fun x => A x ∨ x ∈ F) x w F) :
    Tree K (upd H3 a u) (AvN A a G F') x w F := by
  have ok' : AvOk (fun x => A x ∨ x ∈ F) H3 := fun b hb => hb.elim (ok b) (Tree.mut _ _ _ t b)
  refine Tree.keep2 ok' (fun b w hw hn => ?_) (fun b hb => ?_) _ _ _ (fun b hb w hw => ?_) t
  · rw [upd_ne (show b ≠ a from fun z => hn (.inl (z ▸ hA a List.mem_cons_self)))]
    exact hw
  · rcases hb with hb | hb
    · exact .inl (.inl hb.1)
    · rcases List.mem_cons.mp hb with rfl | hb
      · exact .inl (.inl (hA b List.mem_cons_self))
      · rcases hF b hb with h | h
        · exact .inl (.inl (hA b (List.mem_cons_of_mem _ h)))
        · exact .inl (.inr h)
  · rw [upd_ne (show b ≠ a from fun z => na (z ▸ hn b hb))]
    exact hw
theorem mutR_some {g : Rho → Option (List Nat)} {f : OD → Option OD} {r : Res} (h : mutR i g ρ f = some r) : ∃ o p o1 o2, ρ[i]? = some (.own o) ∧ g ρ = some p ∧ getP o.od p = some o1 ∧ f o1 = some o2 ∧ r = .nx (ρ.set i (.own ⟨setP o.od p o2, o.par⟩)) := by
  unfold mutR at h
  obtain ⟨o, p, h1, h2, h3⟩ := bnd2_some h
  obtain ⟨o1, h4, h5⟩ := bind_some' h3
  obtain ⟨o2, h6, h7⟩ := Option.map_eq_some_iff.mp h5
  exact ⟨o, p, o1, o2, ownO_some h1, h2, h4, h6, h7.symm⟩
end
section
variable {K : Fg} {t te tk : TE} {i : Nat} {g : Rho → Option (List Nat)} {f : Rho → Option OD} {fe fk : Rho → Option PyData}
def lenLt (n : Nat) : Bool := decide (n < sizeLine)
def appO (x : OD) : OD → Option OD
  | .nd .lst xs => if lenLt xs.length then some (.nd .lst (xs ++ [x])) else none
  | _ => none
theorem appO_some {x o o2 : OD} (h : appO x o = some o2) : ∃ xs, o = .nd .lst xs ∧ o2 = .nd .lst (xs ++ [x]) ∧ xs.length < sizeLine := by
  unfold appO at h
  split at h
  · split at h
    · cases h
      exact ⟨_, rfl, rfl, of_decide_eq_true (by assumption)⟩
    · cases h
  · cases h
def appP (i : Nat) (g : Rho → Option (List Nat)) (ρ : Rho) (x : Option OD) : Option Res := x.bind fun x => mutR i g ρ (appO x)
/-- P.append(e) -/
theorem es_app (h : EPt K t i g) (he : EN K te f) : ES K (tDrop (tBM K "list" rAppend t (tCons te tNil))) (fun ρ => appP i g ρ (f ρ)) := fun Hb O pn ow ρ σ H r D sr e fin => by
  unfold appP at e
  obtain ⟨x, hx, e⟩ := bind_some' e
  obtain ⟨o, p, o1, o2, hi, hg, hp, h2, rfl⟩ := mutR_some e
  obtain ⟨xs, rfl, rfl, hl⟩ := appO_some h2
  obtain ⟨v, hv⟩ := sr.rs.ownV hi
  obtain ⟨a, vs, G, at0, n, tl, nd, hA, cl⟩ := sr.node hi hv hp rfl
  have na : H a ≠ none := by rw [show H a = _ from n]; intro z; cases z
  refine h _ ρ σ H o p v sr.rs hi hv hg H (Ex.refl _) _ fun v1 H1 e1 at1 => ?_
  cases At.inj at1 (at0.mono e1)
  refine ⟨.inl ⟨rfl, vs, SqL.of (e1 _ _ n)⟩, ?_⟩
  refine he _ ρ σ H x sr.rs hx H1 e1 _ fun w F H2 e2 hF nF t2 => ?_
  have hF0 : ∀ b ∈ F, H b = none := fun b hb => fresh_back e1 (hF b hb)
  refine ⟨a, vs, w, rfl, rfl, e2 _ _ (e1 _ _ n), by rw [tl.length]; exact hl, ?_⟩
  have hF' : ∀ b ∈ G ++ F, b ∈ G ∨ b ∈ F := fun b hb => List.mem_append.mp hb
  obtain ⟨ow', sr'⟩ := cl H2 (.lst (vs ++ [w])) .lst (xs ++ [x]) (vs ++ [w]) (G ++ F) (e1.trans e2) upd_same rfl (fun b hb => (hF' b hb).imp id (hF0 b)) (List.nodup_append.mpr ⟨(List.nodup_cons.mp nd).2, nF, fun b hb c hc z => by
    subst z
    have m := TreeL.mut _ _ _ tl b hb
    rw [hF0 b hc] at m; exact m⟩) (TreeL.append (kids_keep sr.rs.av hA nd (e1.trans e2) (fun b hb => (hF' b hb).imp id (hF0 b)) (fun b hb => hb) tl) (TreeL.one (kid_new ((sr.rs.av.mono e1).mono e2) hA na (e1.trans e2) hF' hF0 t2)))
  exact fin ow' σ _ sr'
def extO (ds : List PyData) : OD → Option OD
  | .nd .lst xs => if lenOk (xs.length + ds.length) then some (.nd .lst (xs ++ ds.map .dat)) else none
  | _ => none
theorem extO_some {ds : List PyData} {o o2 : OD} (h : extO ds o = some o2) : ∃ xs, o = .nd .lst xs ∧ o2 = .nd .lst (xs ++ ds.map .dat) ∧ xs.length + ds.length ≤ sizeLine := by
  unfold extO at h
  split at h
  · split at h
    · cases h
      exact ⟨_, rfl, rfl, of_decide_eq_true (by assumption)⟩
    · cases h
  · cases h
def isL : PyData → Option (List PyData)
  | .list ds => some ds
  | _ => none
theorem isL_some {d : PyData} {ds : List PyData} (h : isL d = some ds) : d = .list ds := by
  cases d <;> simp [isL] at h
  subst h; rfl
theorem RepB.lst {H : Hp} {A : Av} {v : V} {ds : List PyData} (h : RepB K H A (.list ds) v) : ∃ a xs, v = .ref a ∧ H a = some (.lst xs) ∧ RepL K H A ds xs := by
  rcases h with h | ⟨a, s, vs, es, rfl, n, e, r⟩
  · simp only [Rep] at h
    obtain ⟨a, xs, e, _, h1, h2⟩ := h
    exact ⟨a, xs, e, h1, h2⟩
  · cases s <;> cases e
    exact ⟨a, vs, rfl, n, r⟩
theorem TreeL.datsN {H : Hp} {A : Av} {ds : List PyData} {vs : List V} (r : RepL K H A ds vs) : TreeL K H A (ds.map .dat) vs [] := TreeL.dats r
def extP (i : Nat) (g : Rho → Option (List Nat)) (ρ : Rho) (x : Option PyData) : Option Res := (x.bind isL).bind fun ds => mutR i g ρ (extO ds)
/-- P.extend(e), e a list -/
theorem es_ext (h : EPt K t i g) (he : EB K te fe) : ES K (tDrop (tBM K "list" rExtend t (tCons te tNil))) (fun ρ => extP i g ρ (fe ρ)) := fun Hb O pn ow ρ σ H r D sr e fin => by
  unfold extP at e
  obtain ⟨ds, hd, e⟩ := bind_some' e
  obtain ⟨d, hd, hl⟩ := bind_some' hd
  cases isL_some hl
  obtain ⟨o, p, o1, o2, hi, hg, hp, h2, rfl⟩ := mutR_some e
  obtain ⟨xs, rfl, rfl, hl⟩ := extO_some h2
  obtain ⟨v, hv⟩ := sr.rs.ownV hi
  obtain ⟨a, vs, G, at0, n, tl, nd, hA, cl⟩ := sr.node hi hv hp rfl
  have na : H a ≠ none := by rw [show H a = _ from n]; intro z; cases z
  refine h _ ρ σ H o p v sr.rs hi hv hg H (Ex.refl _) _ fun v1 H1 e1 at1 => ?_
  cases At.inj at1 (at0.mono e1)
  refine ⟨.inl ⟨rfl, vs, SqL.of (e1 _ _ n)⟩, ?_⟩
  refine he _ ρ σ H _ sr.rs hd H1 e1 _ fun w H2 e2 rb => ?_
  obtain ⟨b, ys, rfl, hb, rl⟩ := rb.lst
  refine ⟨a, b, vs, ys, rfl, rfl, e2 _ _ (e1 _ _ n), hb, by rw [tl.length, rl.length]; exact hl, ?_⟩
  have hF' : ∀ b ∈ G, b ∈ G ∨ H b = none := fun b hb => .inl hb
  have av2 := (sr.rs.av.mono e1).mono e2
  have new : TreeL K (upd H2 a (.lst (vs ++ ys))) (AvN (Avd O ρ ow) a G G) (ds.map .dat) ys [] := by
    refine TreeL.keep2 av2 (fun b w hw hn => ?_) (fun b hb => ?_) _ _ _ (fun b hb => nomatch hb) (TreeL.dats rl)
    · rw [upd_ne (show b ≠ a from fun z => hn (z ▸ hA a List.mem_cons_self))]
      exact hw
    · rcases hb with hb | hb
      · exact .inl hb.1
      · exact .inl (hA b hb)
  obtain ⟨ow', sr'⟩ := cl H2 (.lst (vs ++ ys)) .lst (xs ++ ds.map .dat) (vs ++ ys) G (e1.trans e2) upd_same rfl hF' (List.nodup_cons.mp nd).2 (by
    have := TreeL.append (kids_keep sr.rs.av hA nd (e1.trans e2) hF' (fun b hb => hb) tl) new
    simpa using this)
  exact fin ow' σ _ sr'
theorem TreeL.init {H : Hp} {A : Av} : ∀ {os : List OD} {vs : List V} {G : List Addr}, TreeL K H A os vs G → ∃ G', G'.Sublist G ∧ TreeL K H A os.dropLast vs.dropLast G'
  | [], vs, G, h => by
    simp only [TreeL] at h
    obtain ⟨rfl, rfl⟩ := h
    exact ⟨[], List.Sublist.refl _, by simp [TreeL]⟩
  | [o], vs, G, h => by
    simp only [TreeL] at h
    obtain ⟨y, ys, F1, F2, rfl, rfl, h1, rfl, rfl⟩ := h
    exact ⟨[], List.nil_sublist _, by simp [TreeL]⟩
  | o :: o' :: os, vs, G, h => by
    rw [TreeL] at h
    obtain ⟨y, ys, F1, F2, rfl, rfl, h1, h2⟩ := h
    obtain ⟨G', hs, t⟩ := TreeL.init h2
    have hne : ys ≠ [] := by
      intro z
      subst z
      simp only [TreeL] at h2
      obtain ⟨_, _, _, _, e, _⟩ := h2
      cases e
    refine ⟨F1 ++ G', List.Sublist.append (List.Sublist.refl _) hs, ?_⟩
    rw [List.dropLast_cons_of_ne_nil (by simp), List.dropLast_cons_of_ne_nil hne]
    simp only [TreeL]
    exact ⟨y, _, F1, G', rfl, rfl, h1, t⟩
def popO : OD → Option OD
  | .nd .lst xs => if xs.isEmpty then none else some (.nd .lst xs.dropLast)
  | _ => none
theorem popO_some {o o2 : OD} (h : popO o = some o2) : ∃ xs, o = .nd .lst xs ∧ o2 = .nd .lst xs.dropLast ∧ xs ≠ [] := by
  unfold popO at h
  split at h
  · split at h
    · cases h
    · rename_i hn
      cases h
      refine ⟨_, rfl, rfl, fun z => ?_⟩
      subst z
      exact hn rfl
  · cases h
/-- P.pop() -/
theorem es_pop (h : EPt K t i g) : ES K (tDrop (tBM0 K "list" rPop t)) (fun ρ => mutR i g ρ popO) := fun Hb O pn ow ρ σ H r D sr e fin => by
  obtain ⟨o, p, o1, o2, hi, hg, hp, h2, rfl⟩ := mutR_some e
  obtain ⟨xs, rfl, rfl, hne⟩ := popO_some h2
  obtain ⟨v, hv⟩ := sr.rs.ownV hi
  obtain ⟨a, vs, G, at0, n, tl, nd, hA, cl⟩ := sr.node hi hv hp rfl
  refine h _ ρ σ H o p v sr.rs hi hv hg H (Ex.refl _) _ fun v1 H1 e1 at1 => ?_
  cases At.inj at1 (at0.mono e1)
  refine ⟨.inl ⟨rfl, vs, SqL.of (e1 _ _ n)⟩, ?_⟩
  have hvl : vs.length - 1 < vs.length := by
    rw [tl.length]
    have := List.length_pos_iff.mpr hne
    omega
  refine ⟨a, vs, vs[vs.length - 1], rfl, rfl, e1 _ _ n, List.getElem?_eq_getElem hvl, ?_⟩
  obtain ⟨G', hs, tl'⟩ := tl.init
  have hF' : ∀ b ∈ G', b ∈ G ∨ H b = none := fun b hb => .inl (hs.subset hb)
  obtain ⟨ow', sr'⟩ := cl H1 (.lst vs.dropLast) .lst xs.dropLast vs.dropLast G' e1 upd_same rfl hF' ((List.nodup_cons.mp nd).2.sublist hs) (kids_keep sr.rs.av hA nd e1 hF' (fun b hb => hs.subset hb) tl')
  exact fin ow' σ _ sr'
end
end Sv

/-! Writes into a name's own: dicts, fields, items; the name's own becomes a datum. -/
namespace Sv
open PySem L2 Evl

section
variable {K : Fg} {κ : Type} [DecidableEq κ]
def putZ {α : Type} (ks : List κ) (q : κ) (x : α) (xs : List α) : List α := List.zipWith (fun k y => if k = q then x else y) ks xs
theorem putZ_length {α : Type} {ks : List κ} {q : κ} {x : α} {xs : List α} (h : ks.length = xs.length) : (putZ ks q x xs).length = ks.length := by
  unfold putZ
  rw [List.length_zipWith, ← h, Nat.min_self]
theorem any_zip {β : Type} (q : κ) : ∀ {ks : List κ} {vs : List β}, ks.length = vs.length → ((ks.zip vs).any fun kv => decide (kv.1 = q)) = ks.any fun k => decide (k = q)
  | [], vs, _ => by simp
  | k :: ks, [], h => by simp at h
  | k :: ks, v :: vs, h => by
    simp only [List.zip_cons_cons, List.any_cons]
    rw [any_zip q (by simpa using h)]
theorem map_zip (q : κ) (v : V) : ∀ {ks : List κ} {vs : List V}, (ks.zip vs).map (fun kv => if kv.1 = q then (kv.1, v) else kv) = ks.zip (putZ ks q v vs)
  | [], vs => by simp [putZ]
  | k :: ks, [] => by simp [putZ]
  | k :: ks, w :: vs => by
    have ih := map_zip q v (ks := ks) (vs := vs)
    simp only [putZ] at ih
    simp only [List.zip_cons_cons, List.map_cons, putZ, List.zipWith_cons_cons]
    rw [ih]
    by_cases h : k = q
    · rw [if_pos h, if_pos h]
    · rw [if_neg h, if_neg h]
theorem putK_zip (q : κ) (v : V) {ks : List κ} {vs : List V} (h : ks.length = vs.length) : putK (ks.zip vs) q v = if (ks.any fun k => decide (k = q)) = true then ks.zip (putZ ks q v vs) else (ks ++ [q]).zip (vs ++ [v]) := by
  unfold putK
  rw [any_zip q h]
  split
  · exact map_zip q v
  · rw [List.zip_append h]; rfl
theorem TreeL.putZ {H : Hp} {A : Av} {q : κ} {d : PyData} {w : V} (r : Rep K H A d w) : ∀ {ks : List κ} {os : List OD} {vs : List V} {G : List Addr}, TreeL K H A os vs G → ∃ G', G'.Sublist G ∧ TreeL K H A (putZ ks q (.dat d) os) (putZ ks q w vs) G'
  | [], os, vs, G, h => ⟨[], List.nil_sublist _, by simp [Sv.putZ, TreeL]⟩
  | k :: ks, [], vs, G, h => by
    simp only [TreeL] at h
    obtain ⟨rfl, rfl⟩ := h
    exact ⟨[], List.nil_sublist _, by simp [Sv.putZ, TreeL]⟩
  | k :: ks, o :: os, vs, G, h => by
    simp only [TreeL] at h
    obtain ⟨y, ys, F1, F2, rfl, rfl, h1, h2⟩ := h
    obtain ⟨G', hs, t⟩ := TreeL.putZ r (ks := ks) h2
    by_cases hk : k = q
    · refine ⟨G', hs.trans (List.sublist_append_right _ _), ?_⟩
      simp only [Sv.putZ, List.zipWith_cons_cons, if_pos hk, TreeL]
      exact ⟨w, _, [], G', rfl, rfl, by simp only [Tree]; exact ⟨trivial, r⟩, t⟩
    · refine ⟨F1 ++ G', List.Sublist.append (List.Sublist.refl _) hs, ?_⟩
      simp only [Sv.putZ, List.zipWith_cons_cons, if_neg hk, TreeL]
      exact ⟨y, _, F1, G', rfl, rfl, h1, t⟩
end
def putO (q : Key) (d : PyData) : OD → Option OD
  | .nd (.dk ks) xs => if lenLt ks.length then (if (ks.any fun k => decide (k = q)) = true then some (.nd (.dk ks) (putZ ks q (.dat d) xs)) else some (.nd (.dk (ks ++ [q])) (xs ++ [.dat d]))) else none
  | _ => none
def putOT (q : List Key) (d : PyData) : OD → Option OD
  | .nd (.dt ks) xs => if lenLt ks.length then (if (ks.any fun k => decide (k = q)) = true then some (.nd (.dt ks) (putZ ks q (.dat d) xs)) else some (.nd (.dt (ks ++ [q])) (xs ++ [.dat d]))) else none
  | _ => none
def putP (i : Nat) (g : Rho → Option (List Nat)) (ρ : Rho) (k d : Option PyData) : Option Res := bnd2 (k.bind toK) d fun q d => mutR i g ρ (putO q d)
def putPT (i : Nat) (g : Rho → Option (List Nat)) (ρ : Rho) (k : Option (List Key)) (d : Option PyData) : Option Res := bnd2 k d fun q d => mutR i g ρ (putOT q d)
/-- a new tuple of ints and texts -/
def EKt (K : Fg) (t : TE) (f : Rho → Option (List Key)) : Prop := ∀ A ρ σ H k, RS K A ρ σ H → f ρ = some k → ∀ H1, Ex H H1 → ∀ Q : VK, (∀ b H2, Ex H1 H2 → H2 b = some (.tup (k.map kV)) → Q (.ref b) H2) → t σ H1 Q
def keysD : List PyData → Option (List Key)
  | [] => some []
  | d :: ds => match toK d with
    | none => none
    | some k => match keysD ds with
      | none => none
      | some ks => some (k :: ks)
theorem keysD_some : ∀ {ds : List PyData} {ks : List Key}, keysD ds = some ks → ds = ks.map kD
  | [], ks, h => by cases h; rfl
  | d :: ds, ks, h => by
    simp only [keysD] at h
    cases h1 : toK d with
    | none => rw [h1] at h; cases h
    | some k =>
      rw [h1] at h
      dsimp only at h
      cases h2 : keysD ds with
      | none => rw [h2] at h; cases h
      | some ks' =>
        rw [h2] at h
        cases h
        rw [List.map_cons, ← keysD_some h2, ← toK_some h1]
theorem keysD_map : ∀ ks : List Key, keysD (ks.map kD) = some ks
  | [] => rfl
  | k :: ks => by
    have h1 : toK (kD k) = some k := by cases k <;> rfl
    simp only [List.map_cons, keysD, h1, keysD_map ks]
theorem repL_keys {K : Fg} {H : Hp} {A : Av} : ∀ {ks : List Key} {vs : List V}, RepL K H A (ks.map kD) vs → vs = ks.map kV
  | [], vs, h => by simpa only [List.map_nil, RepL] using h
  | k :: ks, vs, h => by
    simp only [List.map_cons, RepL] at h
    obtain ⟨y, ys, rfl, h1, h2⟩ := h
    rw [rep_key h1, repL_keys h2]; rfl
section
variable {K : Fg} {t te tk : TE} {i : Nat} {g : Rho → Option (List Nat)} {f : Rho → Option OD} {fe fk : Rho → Option PyData}
theorem ekt_tup {tr : TA} {fr : Rho → Option (List PyData)} (ha : EA K tr fr) : EKt K (tTup tr) (fun ρ => (fr ρ).bind fun ds => if lenOk ds.length then keysD ds else none) := fun A ρ σ H k rs e H1 e1 Q q => by
  obtain ⟨ds, hd, e⟩ := bind_some' e
  split at e
  · rename_i hl
    cases keysD_some e
    refine ha A ρ σ H _ rs hd H1 e1 _ fun vs H2 e2 r => ⟨by rw [r.length]; exact of_decide_eq_true hl, fun p hp => ?_⟩
    cases repL_keys r
    exact q p _ (e2.trans (Ex.new hp)) upd_same
  · cases e
theorem putO_some {q : Key} {d : PyData} {o o2 : OD} (h : putO q d o = some o2) : ∃ ks xs, o = .nd (.dk ks) xs ∧ ks.length < sizeLine ∧ o2 = (if (ks.any fun k => decide (k = q)) = true then .nd (.dk ks) (putZ ks q (.dat d) xs) else .nd (.dk (ks ++ [q])) (xs ++ [.dat d])) := by
  unfold putO at h
  split at h
  · split at h
    · rename_i hl
      refine ⟨_, _, rfl, of_decide_eq_true hl, ?_⟩
      split at h <;> cases h <;> rename_i hc
      · rw [if_pos hc]
      · rw [if_neg hc]
    · cases h
  · cases h
theorem putOT_some {q : List Key} {d : PyData} {o o2 : OD} (h : putOT q d o = some o2) : ∃ ks xs, o = .nd (.dt ks) xs ∧ ks.length < sizeLine ∧ o2 = (if (ks.any fun k => decide (k = q)) = true then .nd (.dt ks) (putZ ks q (.dat d) xs) else .nd (.dt (ks ++ [q])) (xs ++ [.dat d])) := by
  unfold putOT at h
  split at h
  · split at h
    · rename_i hl
      refine ⟨_, _, rfl, of_decide_eq_true hl, ?_⟩
      split at h <;> cases h <;> rename_i hc
      · rw [if_pos hc]
      · rw [if_neg hc]
    · cases h
  · cases h
theorem new_dat {H H3 : Hp} {A : Av} {a : Addr} {G F' : List Addr} {d : PyData} {w : V} {u : HO} (ok : AvOk A H3) (hA : ∀ b ∈ a :: G, A b) (e : Ex H H3) (hF : ∀ b ∈ F', b ∈ G) (r : Rep K H3 A d w) : Rep K (upd H3 a u) (AvN A a G F') d w := by
  refine Rep.keep2 ok (fun b w hw hn => ?_) (fun b hb => ?_) _ _ r
  · rw [upd_ne (show b ≠ a from fun z => hn (z ▸ hA a List.mem_cons_self))]
    exact hw
  · rcases hb with hb | hb
    · exact .inl hb.1
    · rcases List.mem_cons.mp hb with rfl | hb
      · exact .inl (hA b List.mem_cons_self)
      · exact .inl (hA b (List.mem_cons_of_mem _ (hF b hb)))
/-- P[k] = e, k an int or text, e a datum -/
theorem es_put (h : EPt K t i g) (hk : EF K tk fk) (he : EF K te fe) : ES K (sDPut t tk te) (fun ρ => putP i g ρ (fk ρ) (fe ρ)) := fun Hb O pn ow ρ σ H r D sr e fin => by
  unfold putP at e
  obtain ⟨q, d, hq, hd, e⟩ := bnd2_some e
  obtain ⟨kd, hkd, hq⟩ := bind_some' hq
  have := toK_some hq
  subst this
  obtain ⟨o, p, o1, o2, hi, hg, hp, h2, rfl⟩ := mutR_some e
  obtain ⟨ks, xs, rfl, hl, rfl⟩ := putO_some h2
  obtain ⟨v, hv⟩ := sr.rs.ownV hi
  obtain ⟨a, vs, G, at0, n, tl, nd, hA, cl⟩ := sr.node hi hv hp rfl
  refine he _ ρ σ H d sr.rs hd H (Ex.refl _) _ fun w H1 e1 rw1 => ?_
  have av1 := sr.rs.av.mono e1
  refine h _ ρ σ H o p v sr.rs hi hv hg H1 e1 _ fun v1 H2 e2 at1 => ?_
  cases At.inj at1 (at0.mono (e1.trans e2))
  refine hk _ ρ σ H _ sr.rs hkd H2 (e1.trans e2) _ fun y H3 e3 ry => ?_
  cases rep_key ry
  have eA := (e1.trans e2).trans e3
  have r3 := (rw1.mono av1 e2).mono (av1.mono e2) e3
  have av3 := (av1.mono e2).mono e3
  refine ⟨a, _, rfl, DPut.k (eA _ _ n.2) (by rw [List.length_zip, ← n.1, Nat.min_self]; exact hl), ?_⟩
  rw [putK_zip q w n.1]
  have hF0 : ∀ b ∈ G, b ∈ G ∨ H b = none := fun b hb => .inl hb
  split
  · rename_i hc
    rw [if_pos hc] at fin
    have tlk := kids_keep (u := .dK (ks.zip (putZ ks q w vs))) sr.rs.av hA nd eA hF0 (fun b hb => hb) tl
    obtain ⟨G', hs, tz⟩ := TreeL.putZ (q := q) (ks := ks) (new_dat (u := .dK (ks.zip (putZ ks q w vs))) av3 hA eA (F' := G) (fun b hb => hb) r3) tlk
    obtain ⟨ow', sr'⟩ := cl H3 (.dK (ks.zip (putZ ks q w vs))) (.dk ks) (putZ ks q (.dat d) xs) (putZ ks q w vs) G' eA ⟨(putZ_length n.1).symm, upd_same⟩ rfl (fun b hb => .inl (hs.subset hb)) ((List.nodup_cons.mp nd).2.sublist hs) (TreeL.anti (fun b hb => by
      rcases hb with hb | hb
      · exact .inl hb
      · rcases List.mem_cons.mp hb with rfl | hb
        · exact .inr List.mem_cons_self
        · exact .inr (List.mem_cons_of_mem _ (hs.subset hb))) _ _ _ tz)
    exact fin ow' σ _ sr'
  · rename_i hc
    rw [if_neg hc] at fin
    obtain ⟨ow', sr'⟩ := cl H3 (.dK ((ks ++ [q]).zip (vs ++ [w]))) (.dk (ks ++ [q])) (xs ++ [.dat d]) (vs ++ [w]) G eA ⟨by simp [n.1], upd_same⟩ rfl hF0 (List.nodup_cons.mp nd).2 (by
      have := TreeL.append (kids_keep (u := .dK ((ks ++ [q]).zip (vs ++ [w]))) sr.rs.av hA nd eA hF0 (fun b hb => hb) tl) (TreeL.one (o := .dat d) (v := w) (F := []) (by
        simp only [Tree]
        exact ⟨trivial, new_dat av3 hA eA (fun b hb => hb) r3⟩))
      simpa using this)
    exact fin ow' σ _ sr'
/-- P[(a, b)] = e -/
theorem es_putT {ft : Rho → Option (List Key)} (h : EPt K t i g) (hk : EKt K tk ft) (he : EF K te fe) : ES K (sDPut t tk te) (fun ρ => putPT i g ρ (ft ρ) (fe ρ)) := fun Hb O pn ow ρ σ H r D sr e fin => by
  unfold putPT at e
  obtain ⟨q, d, hq, hd, e⟩ := bnd2_some e
  obtain ⟨o, p, o1, o2, hi, hg, hp, h2, rfl⟩ := mutR_some e
  obtain ⟨ks, xs, rfl, hl, rfl⟩ := putOT_some h2
  obtain ⟨v, hv⟩ := sr.rs.ownV hi
  obtain ⟨a, vs, G, at0, n, tl, nd, hA, cl⟩ := sr.node hi hv hp rfl
  refine he _ ρ σ H d sr.rs hd H (Ex.refl _) _ fun w H1 e1 rw1 => ?_
  have av1 := sr.rs.av.mono e1
  refine h _ ρ σ H o p v sr.rs hi hv hg H1 e1 _ fun v1 H2 e2 at1 => ?_
  cases At.inj at1 (at0.mono (e1.trans e2))
  refine hk _ ρ σ H _ sr.rs hq H2 (e1.trans e2) _ fun y H3 e3 ry => ?_
  have eA := (e1.trans e2).trans e3
  have r3 := (rw1.mono av1 e2).mono (av1.mono e2) e3
  have av3 := (av1.mono e2).mono e3
  refine ⟨a, _, rfl, DPut.t (eA _ _ n.2) ry (by rw [List.length_zip, ← n.1, Nat.min_self]; exact hl), ?_⟩
  rw [putK_zip q w n.1]
  have hF0 : ∀ b ∈ G, b ∈ G ∨ H b = none := fun b hb => .inl hb
  split
  · rename_i hc
    rw [if_pos hc] at fin
    have tlk := kids_keep (u := .dT (ks.zip (putZ ks q w vs))) sr.rs.av hA nd eA hF0 (fun b hb => hb) tl
    obtain ⟨G', hs, tz⟩ := TreeL.putZ (q := q) (ks := ks) (new_dat (u := .dT (ks.zip (putZ ks q w vs))) av3 hA eA (F' := G) (fun b hb => hb) r3) tlk
    obtain ⟨ow', sr'⟩ := cl H3 (.dT (ks.zip (putZ ks q w vs))) (.dt ks) (putZ ks q (.dat d) xs) (putZ ks q w vs) G' eA ⟨(putZ_length n.1).symm, upd_same⟩ rfl (fun b hb => .inl (hs.subset hb)) ((List.nodup_cons.mp nd).2.sublist hs) (TreeL.anti (fun b hb => by
      rcases hb with hb | hb
      · exact .inl hb
      · rcases List.mem_cons.mp hb with rfl | hb
        · exact .inr List.mem_cons_self
        · exact .inr (List.mem_cons_of_mem _ (hs.subset hb))) _ _ _ tz)
    exact fin ow' σ _ sr'
  · rename_i hc
    rw [if_neg hc] at fin
    obtain ⟨ow', sr'⟩ := cl H3 (.dT ((ks ++ [q]).zip (vs ++ [w]))) (.dt (ks ++ [q])) (xs ++ [.dat d]) (vs ++ [w]) G eA ⟨by simp [n.1], upd_same⟩ rfl hF0 (List.nodup_cons.mp nd).2 (by
      have := TreeL.append (kids_keep (u := .dT ((ks ++ [q]).zip (vs ++ [w]))) sr.rs.av hA nd eA hF0 (fun b hb => hb) tl) (TreeL.one (o := .dat d) (v := w) (F := []) (by
        simp only [Tree]
        exact ⟨trivial, new_dat av3 hA eA (fun b hb => hb) r3⟩))
      simpa using this)
    exact fin ow' σ _ sr'
/-! fields -/
def fldO (c fl : Str) (x : OD) : OD → Option OD
  | .nd (.ob c' ns) xs => if c' = c ∧ ns.length < 1000 then some (match ns.findIdx? (· == fl) with
    | some j => .nd (.ob c ns) (xs.set j x)
    | none => .nd (.ob c (ns ++ [fl])) (xs ++ [x])) else none
  | _ => none
theorem fldO_some {c fl : Str} {x o o2 : OD} (h : fldO c fl x o = some o2) : ∃ ns xs, o = .nd (.ob c ns) xs ∧ ns.length < 1000 ∧ o2 = (match ns.findIdx? (· == fl) with
    | some j => .nd (.ob c ns) (xs.set j x)
    | none => .nd (.ob c (ns ++ [fl])) (xs ++ [x])) := by
  unfold fldO at h
  split at h
  · split at h
    · rename_i hc
      obtain ⟨rfl, hl⟩ := hc
      cases h
      exact ⟨_, _, rfl, hl, rfl⟩
    · cases h
  · cases h
theorem putF_zip {fl : Str} {y : V} : ∀ {ns : List Str} {vs : List V}, ns.length = vs.length → putF fl y (ns.zip vs) = (match ns.findIdx? (· == fl) with
    | some j => ns.zip (vs.set j y)
    | none => (ns ++ [fl]).zip (vs ++ [y]))
  | [], vs, h => by
    have : vs = [] := List.length_eq_zero_iff.mp h.symm
    subst this
    rfl
  | n :: ns, [], h => by simp at h
  | n :: ns, v :: vs, h => by
    have ih := putF_zip (fl := fl) (y := y) (ns := ns) (vs := vs) (by simpa using h)
    rw [List.zip_cons_cons, List.findIdx?_cons]
    unfold putF
    by_cases hn : n = fl
    · have hb : (n == fl) = true := by simpa using hn
      rw [if_pos hn, hb]
      rfl
    · have hb : (n == fl) = false := by simpa using hn
      rw [if_neg hn, hb, ih]
      cases h2 : ns.findIdx? (· == fl) with
      | none => rfl
      | some j => rfl
theorem TreeL.cut {H : Hp} {A : Av} : ∀ {os : List OD} {vs : List V} {G : List Addr} (j : Nat), TreeL K H A os vs G → ∃ G1 Gj G2, G = G1 ++ Gj ++ G2 ∧ TreeL K H A (os.take j) (vs.take j) G1 ∧ TreeL K H A (os.drop (j + 1)) (vs.drop (j + 1)) G2
  | [], vs, G, j, h => by
    simp only [TreeL] at h
    obtain ⟨rfl, rfl⟩ := h
    exact ⟨[], [], [], rfl, by simp [TreeL], by simp [TreeL]⟩
  | o :: os, vs, G, 0, h => by
    simp only [TreeL] at h
    obtain ⟨y, ys, F1, F2, rfl, rfl, h1, h2⟩ := h
    exact ⟨[], F1, F2, by simp, by simp [TreeL], by simpa using h2⟩
  | o :: os, vs, G, j + 1, h => by
    simp only [TreeL] at h
    obtain ⟨y, ys, F1, F2, rfl, rfl, h1, h2⟩ := h
    obtain ⟨G1, Gj, G2, e, t1, t2⟩ := TreeL.cut j h2
    refine ⟨F1 ++ G1, Gj, G2, by rw [e]; simp, ?_, by simpa using t2⟩
    simp only [List.take_succ_cons, TreeL]
    exact ⟨y, _, F1, G1, rfl, rfl, h1, t1⟩
def fldW (i : Nat) (g : Rho → Option (List Nat)) (c fl : Str) (ρ : Rho) (x : Option OD) : Option Res := x.bind fun x => mutR i g ρ (fldO c fl x)
/-- a child is another one -/
theorem kids_set {H H3 : Hp} {A : Av} {a : Addr} {G F : List Addr} {u : HO} {os : List OD} {vs : List V} {x : OD} {w : V} {j : Nat} (ok : AvOk A H) (hA : ∀ b ∈ a :: G, A b) (nd : (a :: G).Nodup) (na : H a ≠ none) (e : Ex H H3) (hF : ∀ b ∈ F, H b = none) (nF : F.Nodup) (hj : j < os.length)
    (tl : TreeL K H A os vs G) (t : Tree K H3 (fun x => A x ∨ x ∈ F) x w F) : ∃ F', (∀ b ∈ F', b ∈ G ∨ b ∈ F) ∧ F'.Nodup ∧ TreeL K (upd H3 a u) (AvN A a G F') (os.set j x) (vs.set j w) F' := by
  obtain ⟨G1, Gj, G2, rfl, t1, t2⟩ := tl.cut j
  have nG := (List.nodup_cons.mp nd).2
  have hF' : ∀ b ∈ G1 ++ F ++ G2, b ∈ G1 ++ Gj ++ G2 ∨ b ∈ F := fun b hb => by
    rcases List.mem_append.mp hb with hb | hb
    · rcases List.mem_append.mp hb with hb | hb
      · exact .inl (by simp [hb])
      · exact .inr hb
    · exact .inl (by simp [hb])
  have hF0 : ∀ b ∈ G1 ++ F ++ G2, b ∈ G1 ++ Gj ++ G2 ∨ H b = none := fun b hb => (hF' b hb).imp id (hF b)
  have dis : ∀ b ∈ G1 ++ Gj ++ G2, b ∉ F := fun b hb hf => by
    have m := TreeL.mut _ _ _ tl b hb
    rw [hF b hf] at m; exact m
  have n1 := List.nodup_append.mp nG
  have n2 := List.nodup_append.mp n1.1
  refine ⟨G1 ++ F ++ G2, hF', ?_, ?_⟩
  · refine List.nodup_append.mpr ⟨List.nodup_append.mpr ⟨n2.1, nF, fun b hb c hc z => ?_⟩, n1.2.1, fun b hb c hc z => ?_⟩
    · subst z; exact dis b (by simp [hb]) hc
    · subst z
      rcases List.mem_append.mp hb with hb | hb
      · exact n1.2.2 b (List.mem_append_left _ hb) b hc rfl
      · exact dis b (by simp [hc]) hb
  · rw [List.set_eq_take_append_cons_drop, if_pos hj, List.set_eq_take_append_cons_drop, if_pos (by rw [tl.length]; exact hj)]
    have k1 := kids_keep (K := K) (u := u) ok hA nd e hF0 (fun b hb => by simp [hb]) t1
    have k2 := kids_keep (K := K) (u := u) ok hA nd e hF0 (fun b hb => by simp [hb]) t2
    have k3 := kid_new (K := K) (u := u) (ok.mono e) hA na e hF' hF t
    have := k1.append ((TreeL.one k3).append k2)
    simpa using this
/-- P.f = e -/
theorem es_fld {fl c : Str} (h : EPt K t i g) (he : EN K te f) (hc : FldOk K c fl) : ES K (sFld K t te fl) (fun ρ => fldW i g c fl ρ (f ρ)) := fun Hb O pn ow ρ σ H r D sr e fin => by
  unfold fldW at e
  obtain ⟨x, hx, e⟩ := bind_some' e
  obtain ⟨o, p, o1, o2, hi, hg, hp, h2, rfl⟩ := mutR_some e
  obtain ⟨ns, xs, rfl, hl, rfl⟩ := fldO_some h2
  obtain ⟨v, hv⟩ := sr.rs.ownV hi
  obtain ⟨a, vs, G, at0, n, tl, nd, hA, cl⟩ := sr.node hi hv hp rfl
  have na : H a ≠ none := by
    obtain ⟨u, hu⟩ := n.some
    rw [hu]; intro z; cases z
  refine he _ ρ σ H x sr.rs hx H (Ex.refl _) _ fun w F H1 e1 hF nF t1 => ?_
  have av1 := sr.rs.av.mono e1
  refine h _ ρ σ H o p v sr.rs hi hv hg H1 e1 _ fun v1 H2 e2 at1 => ?_
  cases At.inj at1 (at0.mono (e1.trans e2))
  have eA := e1.trans e2
  have ok1 : AvOk (fun x => Avd O ρ ow x ∨ x ∈ F) H1 := fun b hb => hb.elim (av1 b) (Tree.mut _ _ _ t1 b)
  have t2 := t1.mono ok1 e2
  obtain ⟨hln, C, dx, hcl, hH⟩ := n
  obtain ⟨k1, k2⟩ := hc C hcl
  refine ⟨a, C, dx, _, rfl, eA _ _ hH, k1, k2, by rw [List.length_zip, ← hln, Nat.min_self]; exact hl, ?_⟩
  rw [putF_zip hln]
  cases hf : ns.findIdx? (· == fl) with
  | some j =>
    simp only [hf] at fin
    have hj : j < xs.length := by rw [← tl.length, ← hln]; exact findIdx_lt hf
    obtain ⟨F', hF', nF', tk⟩ := kids_set (u := .ins C dx (ns.zip (vs.set j w))) sr.rs.av hA nd na eA hF nF hj tl t2
    obtain ⟨ow', sr'⟩ := cl H2 (.ins C dx (ns.zip (vs.set j w))) (.ob c ns) (xs.set j x) (vs.set j w) F' eA ⟨by rw [List.length_set]; exact hln, C, dx, hcl, upd_same⟩ rfl (fun b hb => (hF' b hb).imp id (hF b)) nF' tk
    exact fin ow' σ _ sr'
  | none =>
    simp only [hf] at fin
    have hF' : ∀ b ∈ G ++ F, b ∈ G ∨ b ∈ F := fun b hb => List.mem_append.mp hb
    obtain ⟨ow', sr'⟩ := cl H2 (.ins C dx ((ns ++ [fl]).zip (vs ++ [w]))) (.ob c (ns ++ [fl])) (xs ++ [x]) (vs ++ [w]) (G ++ F) eA ⟨by simp [hln], C, dx, hcl, upd_same⟩ rfl (fun b hb => (hF' b hb).imp id (hF b)) (List.nodup_append.mpr ⟨(List.nodup_cons.mp nd).2, nF, fun b hb b' hc z => by
      subst z
      have m := TreeL.mut _ _ _ tl b hb
      rw [hF b hc] at m; exact m⟩) (TreeL.append (kids_keep sr.rs.av hA nd eA (fun b hb => (hF' b hb).imp id (hF b)) (fun b hb => hb) tl) (TreeL.one (kid_new (sr.rs.av.mono eA) hA na eA hF' hF t2)))
    exact fin ow' σ _ sr'
/-! the name's own becomes a datum -/
def sealR (i : Nat) (ρ : Rho) : Rho := match ownO i ρ with
  | some o => match flat o.od with
    | some d => ρ.set i (.val d)
    | none => ρ
  | none => ρ
theorem SR.seal {Hb H : Hp} {O : Av} {pn : Nat → V} {ow : Nat → List Addr} {ρ : Rho} {σ : St} (i : Nat) (sr : SR K Hb O pn ow ρ σ H) : SR K Hb O pn ow (sealR i ρ) σ H := by
  unfold sealR
  split
  · rename_i o ho
    have hi := ownO_some ho
    split
    · rename_i d hd
      obtain ⟨v, hv, tr⟩ := sr.own i o hi
      have := sr.setS (i := i) (s := .val d) (x := some v) nov fun _ => ⟨v, rfl, Tree.rep _ _ (ow i) d (fun a ha hz => ?_) (Tree.anti (Avd.set nov) _ _ _ tr) hd⟩
      · rwa [set_same hv] at this
      · rcases hz with hz | ⟨j, e, q, z⟩
        · exact sr.notO hi ha hz
        · obtain ⟨hj, q⟩ := own_set nov q
          exact sr.inj i j o e hi q (Ne.symm hj) a ha z
    · exact sr
  · exact sr
theorem es_seal {t : TS} {f : Rho → Option Res} (i : Nat) (h : ES K t f) : ES K t (fun ρ => f (sealR i ρ)) := fun Hb O pn ow ρ σ H r D sr e fin => h Hb O pn ow (sealR i ρ) σ H r D (sr.seal i) e fin
end
end Sv

/-! Loops, comprehensions, calls. -/
namespace Sv
open PySem L2 Evl

/-! ### what is walked -/
structure Iter (K : Fg) (A : Av) (J : It) (H : Hp) (ds : List PyData) (P : Hp → Prop) : Prop where
  goes : ∀ i Ha, i < ds.length → P Ha → J.go i Ha
  stops : ∀ Ha, P Ha → J.stop ds.length Ha
  yields : ∀ B i x Ha Hc d, (∀ a, B a → A a ∨ H a = none) → ds[i]? = some d → P Ha → J.yld i Ha x Hc → Ex Ha Hc ∧ Rep K Hc B d x
def EI (K : Fg) (wi : TI) (f : Rho → Option (List PyData)) : Prop := ∀ A ρ σ H ds, RS K A ρ σ H → f ρ = some ds → ∀ H1, Ex H H1 → ∀ R : It → Hp → Prop, (∀ J H2, Ex H1 H2 → Iter K A J H2 ds (Kp A H2) → R J H2) → wi σ H1 R
def EIb (K : Fg) (wi : TI) (f : Rho → Option (List PyData)) : Prop := ∀ A ρ σ H ds, RS K A ρ σ H → f ρ = some ds → ∀ H1, Ex H H1 → ∀ R : It → Hp → Prop, (∀ J H2, Ex H1 H2 → Iter K A J H2 ds (Ex H2) → R J H2) → wi σ H1 R
theorem Iter.imp {K : Fg} {A : Av} {J : It} {H : Hp} {ds : List PyData} {P P' : Hp → Prop} (h : Iter K A J H ds P) (i : ∀ H, P' H → P H) : Iter K A J H ds P' :=
  ⟨fun k Ha hk p => h.goes k Ha hk (i _ p), fun Ha p => h.stops Ha (i _ p), fun B k x Ha Hc d hb hd p y => h.yields B k x Ha Hc d hb hd (i _ p) y⟩
theorem EI.b {K : Fg} {wi : TI} {f : Rho → Option (List PyData)} (h : EI K wi f) : EIb K wi f := fun A ρ σ H ds rs e H1 e1 R k => h A ρ σ H ds rs e H1 e1 R fun J H2 e2 it => k J H2 e2 (it.imp fun _ x => Kp.ofEx x)
def forD (h : PyData → Option (List PyData)) (is : List Nat) (body : Rho → Option Res) : List PyData → Rho → Option Res
  | [], ρ => some (.nx ρ)
  | d :: ds, ρ => match h d with
    | none => none
    | some es => match body (setsR ρ is es) with
      | some (.nx ρ') => forD h is body ds ρ'
      | some (.ct ρ') => forD h is body ds ρ'
      | some (.brk ρ') => some (.nx ρ')
      | some (.ret d) => some (.ret d)
      | some (.rex d ρ') => some (.rex d ρ')
      | none => none
def forR (o : Option (List PyData)) (h : PyData → Option (List PyData)) (is : List Nat) (body : Rho → Option Res) (ρ : Rho) : Option Res := o.bind fun ds => forD h is body ds ρ
section
variable {K : Fg}
theorem es_for {wi : TI} {fi : Rho → Option (List PyData)} {g : TG} {is : List Nat} {h : PyData → Option (List PyData)} {tb : TS} {fb : Rho → Option Res} (hi : EI K wi fi) (hg : EG K g is h) (hb : ES K tb fb) :
    ES K (tFor wi g tb) (fun ρ => forR (fi ρ) h is fb ρ) := fun Hb O pn ow ρ σ H r D sr e fin => by
  unfold forR at e
  obtain ⟨ds, e1, e2⟩ := bind_some' e
  refine hi _ ρ σ H ds sr.rs e1 H (Ex.refl _) _ fun J H2 ex2 it => ?_
  have sr2 := sr.mono ex2
  obtain ⟨sr3, exb⟩ := sr2.rebase
  have fin3 : Fin K (less ρ ow H2) O pn D r := fin.base exb sr.ob
  have kp : ∀ H', Ex (less ρ ow H2) H' → Kp (Avd O ρ ow) H2 H' := fun H' x b o q n => x b o (by rw [less_not fun z => n (.inr z)]; exact q)
  refine ⟨fun i m σ H => m = ds.length - i ∧ i ≤ ds.length ∧ ∃ ow' ρ', SR K (less ρ ow H2) O pn ow' ρ' σ H ∧ forD h is fb (ds.drop i) ρ' = some r, ⟨_, rfl, Nat.zero_le _, ow, ρ, sr3, e2⟩, ?_⟩
  rintro i m σ' H' ⟨rfl, hil, ow', ρ', sr', ef⟩
  by_cases hlt : i < ds.length
  · right
    have hd : ds.drop i = ds[i] :: ds.drop (i + 1) := List.drop_eq_getElem_cons hlt
    rw [hd] at ef
    unfold forD at ef
    cases hh : h ds[i] with
    | none => rw [hh] at ef; cases ef
    | some es =>
      rw [hh] at ef
      dsimp only at ef
      refine ⟨it.goes i H' hlt (kp H' sr'.ex), fun σ'' H'' => ∃ ow'' ρ'', SR K (less ρ ow H2) O pn ow'' ρ'' σ'' H'' ∧ forD h is fb (ds.drop (i + 1)) ρ'' = some r, fun σ'' H'' ⟨ow'', ρ'', s, q⟩ => ⟨_, by omega, rfl, by omega, ow'', ρ'', s, q⟩, fun x H'' y => ?_⟩
      have hB : ∀ a, Avd O ρ' ow' a → Avd O ρ ow a ∨ H2 a = none := fun a ha => by
        rcases ha with ha | ⟨j, e, q, z⟩
        · exact .inl (.inl ha)
        · have n := sr'.fr j e q a z
          by_cases ho : ∃ i d, ρ[i]? = some (.own d) ∧ a ∈ ow i
          · exact .inl (.inr ho)
          · rw [less_not ho] at n; exact .inr n
      obtain ⟨exy, ry⟩ := it.yields _ i x H' H'' ds[i] hB (List.getElem?_eq_getElem hlt) (kp H' sr'.ex) y
      have sr4 := sr'.mono exy
      refine hg.run _ σ' H'' _ x es sr4.rs.av ry hh _ fun vs rl => ?_
      have sr5 := sr4.sets (is := is) rl
      cases hbd : fb (setsR ρ' is es) with
      | none => rw [hbd] at ef; cases ef
      | some r1 =>
        rw [hbd] at ef
        refine hb _ O pn ow' _ _ H'' r1 _ sr5 hbd ?_
        cases r1 with
        | nx ρ2 => exact fun ow2 σ2 H2' s2 => ⟨ow2, ρ2, s2, ef⟩
        | ct ρ2 => exact fun ow2 σ2 H2' s2 => ⟨ow2, ρ2, s2, ef⟩
        | brk ρ2 => cases ef; exact fun ow2 σ2 H2' s2 => fin3 ow2 σ2 H2' s2
        | ret d => cases ef; exact fin3
        | rex d ρ2 => cases ef; exact fun ow2 σ2 v2 H2' s2 q2 => fin3 ow2 σ2 v2 H2' s2 q2
  · left
    have hi0 : i = ds.length := by omega
    subst hi0
    rw [List.drop_length] at ef
    cases ef
    exact ⟨it.stops H' (kp H' sr'.ex), fin3 ow' σ' H' sr'⟩

/-! ### comprehensions -/
def wipeR (ρ : Rho) : List Nat → Rho
  | [] => ρ
  | v :: vs => (wipeR ρ vs).set v .no
theorem RS.setNo {A : Av} {ρ : Rho} {σ : St} {H : Hp} {i : Nat} {x : Option V} (h : RS K A ρ σ H) : RS K A (ρ.set i .no) (σ.set i x) H := by
  refine ⟨by simp [h.len], h.av, fun j s q => ?_⟩
  by_cases hj : i = j
  · subst hj
    by_cases hi : i < ρ.length
    · rw [List.getElem?_set_self hi] at q; cases q; trivial
    · rw [List.getElem?_eq_none (by simpa using hi)] at q; cases q
  · rw [List.getElem?_set_ne hj] at q ⊢
    exact h.at' j s q
theorem RS.wipe {A : Av} {ρ : Rho} {σ : St} {H : Hp} (h : RS K A ρ σ H) : ∀ vs : List Nat, RS K A (wipeR ρ vs) (L2.wipe σ vs) H
  | [] => h
  | v :: vs => (RS.wipe h vs).setNo
theorem wipe_in {σ : St} {i : Nat} : ∀ {vs : List Nat}, i ∈ vs → i < σ.length → (L2.wipe σ vs)[i]? = some none
  | [], h, _ => by simp at h
  | v :: vs, h, hl => by
    unfold L2.wipe
    by_cases hv : v = i
    · subst hv
      rw [List.getElem?_set_self (by rw [wipe_length]; exact hl)]
    · rw [List.getElem?_set_ne hv]
      exact wipe_in (by rcases List.mem_cons.mp h with h | h; exact absurd h.symm hv; exact h) hl
theorem setsS_length : ∀ (is : List Nat) (xs : List V) (σ : St), (setsS σ is xs).length = σ.length
  | [], _, _ => rfl
  | _ :: _, [], _ => rfl
  | i :: is, x :: xs, σ => by
    show (setsS (σ.set i (some x)) is xs).length = _
    rw [setsS_length is xs, List.length_set]
theorem setsS_out : ∀ (is : List Nat) (xs : List V) (σ : St) (i : Nat), i ∉ is → (setsS σ is xs)[i]? = σ[i]?
  | [], _, _, _, _ => rfl
  | _ :: _, [], _, _, _ => rfl
  | j :: is, x :: xs, σ, i, h => by
    show (setsS (σ.set j (some x)) is xs)[i]? = _
    rw [setsS_out is xs _ i fun z => h (List.mem_cons_of_mem _ z), List.getElem?_set_ne fun z => h (by rw [z]; exact List.mem_cons_self)]
theorem wipe_sets {σ : St} {vs is : List Nat} {xs : List V} (hs : ∀ i ∈ is, i ∈ vs) : L2.wipe (setsS (L2.wipe σ vs) is xs) vs = L2.wipe σ vs := by
  apply List.ext_getElem?
  intro i
  by_cases hv : i ∈ vs
  · by_cases hl : i < σ.length
    · rw [wipe_in hv (by rw [setsS_length, wipe_length]; exact hl), wipe_in hv hl]
    · rw [List.getElem?_eq_none (by rw [wipe_length, setsS_length, wipe_length]; omega), List.getElem?_eq_none (by rw [wipe_length]; omega)]
  · rw [wipe_out hv, setsS_out _ _ _ _ fun z => hv (hs i z)]
def compD (h : PyData → Option (List PyData)) (is : List Nat) (ft : Rho → Option Bool) (fe : Rho → Option PyData) (ρ : Rho) : List PyData → Option (List PyData)
  | [] => some []
  | d :: ds => match h d with
    | none => none
    | some es => match ft (setsR ρ is es) with
      | none => none
      | some false => compD h is ft fe ρ ds
      | some true => match fe (setsR ρ is es) with
        | none => none
        | some y => match compD h is ft fe ρ ds with
          | none => none
          | some ys => some (y :: ys)
def compR (o : Option (List PyData)) (h : PyData → Option (List PyData)) (is : List Nat) (ft : Rho → Option Bool) (fe : Rho → Option PyData) (vs : List Nat) (ρ : Rho) : Option OD := o.bind fun ds => if lenOk ds.length then (compD h is ft fe (wipeR ρ vs) ds).map lO else none
theorem ef_lc {wi : TI} {fi : Rho → Option (List PyData)} {g : TG} {is vs : List Nat} {h : PyData → Option (List PyData)} {tt : TT} {ft : Rho → Option Bool} {te : TE} {fe : Rho → Option PyData} (hi : EIb K wi fi) (hg : EG K g is h) (ht : ET K tt ft) (he : EF K te fe)
    (hv : ∀ i ∈ is, i ∈ vs := by decide) :
    EN K (tLc wi g tt te vs) (fun ρ => compR (fi ρ) h is ft fe vs ρ) := fun A ρ σ H d rs e H1 e1 Q q => by
  unfold compR at e
  obtain ⟨ds, ei, e2⟩ := bind_some' e
  split at e2
  · rename_i hl
    have hl := of_decide_eq_true hl
    cases hcd : compD h is ft fe (wipeR ρ vs) ds with
    | none => rw [hcd] at e2; cases e2
    | some out =>
      rw [hcd] at e2
      cases e2
      refine hi A ρ σ H ds rs ei H1 e1 _ fun J H2 ex2 it Dl hD => ?_
      have rs2 := (rs.mono e1).mono ex2
      have rsw : RS K A (wipeR ρ vs) (L2.wipe σ vs) H2 := rs2.wipe vs
      have hA' : ∀ a, (A a ∨ a = Dl) → A a ∨ H2 a = none := fun a ha => ha.elim .inl fun z => .inr (z ▸ hD)
      refine ⟨fun i m H' => m = ds.length - i ∧ i ≤ ds.length ∧ Ex H2 H' ∧ ∃ acc xs rest, H' Dl = some (.lst xs) ∧ RepL K H' (fun a => A a ∨ a = Dl) acc xs ∧ acc.length ≤ i ∧ compD h is ft fe (wipeR ρ vs) (ds.drop i) = some rest ∧ acc ++ rest = out,
        ⟨_, rfl, Nat.zero_le _, Ex.new hD, [], [], out, upd_same, RepL.nil, Nat.le_refl _, hcd, rfl⟩, ?_⟩
      rintro i m H' ⟨rfl, hil, ex', acc, xs, rest, hDl, racc, hacc, ec, eo⟩
      have av' : AvOk (fun a => A a ∨ a = Dl) H' := fun a ha => by
        rcases ha with ha | ha
        · exact rs2.av.mono ex' a ha
        · subst ha; rw [hDl]; trivial
      have rs' : RS K (fun a => A a ∨ a = Dl) (wipeR ρ vs) (L2.wipe σ vs) H' := by
        refine ⟨rsw.len, av', fun j s qj => ?_⟩
        exact (rsw.at' j s qj).keep2 rs2.av ex' hA'
      by_cases hlt : i < ds.length
      · right
        have hd : ds.drop i = ds[i] :: ds.drop (i + 1) := List.drop_eq_getElem_cons hlt
        rw [hd] at ec
        unfold compD at ec
        cases hh : h ds[i] with
        | none => rw [hh] at ec; cases ec
        | some es =>
          rw [hh] at ec
          dsimp only at ec
          refine ⟨it.goes i H' hlt ex', fun H'' => Ex H2 H'' ∧ ∃ acc xs rest, H'' Dl = some (.lst xs) ∧ RepL K H'' (fun a => A a ∨ a = Dl) acc xs ∧ acc.length ≤ i + 1 ∧ compD h is ft fe (wipeR ρ vs) (ds.drop (i + 1)) = some rest ∧ acc ++ rest = out,
            fun H'' ⟨x1, x2⟩ => ⟨_, by omega, rfl, by omega, x1, x2⟩, fun x H'' y => ?_⟩
          obtain ⟨exy, ry⟩ := it.yields _ i x H' H'' ds[i] hA' (List.getElem?_eq_getElem hlt) ex' y
          have rs'' := rs'.mono exy
          refine hg.run _ _ H'' _ x es rs''.av ry hh _ fun us rl => ⟨wipe_sets hv, ?_⟩
          have rs3 := rs''.sets (is := is) rl
          cases hb : ft (setsR (wipeR ρ vs) is es) with
          | none => rw [hb] at ec; cases ec
          | some b =>
            rw [hb] at ec
            refine ht _ _ _ H'' b rs3 hb H'' (Ex.refl _) _ fun H3 ex3 => ?_
            cases b with
            | false =>
              show Ex H2 H3 ∧ _
              refine ⟨(ex'.trans exy).trans ex3, acc, xs, rest, ex3 _ _ (exy _ _ hDl), (racc.mono av' exy).mono rs''.av ex3, by omega, ec, eo⟩
            | true =>
              show te _ H3 _
              dsimp only at ec
              cases hf : fe (setsR (wipeR ρ vs) is es) with
              | none => rw [hf] at ec; cases ec
              | some z =>
                rw [hf] at ec
                dsimp only at ec
                cases hr : compD h is ft fe (wipeR ρ vs) (ds.drop (i + 1)) with
                | none => rw [hr] at ec; cases ec
                | some rest' =>
                  rw [hr] at ec
                  cases ec
                  refine he _ _ _ H'' z rs3 hf H3 ex3 _ fun w H4 ex4 rw4 => ?_
                  have hD4 := ex4 _ _ (ex3 _ _ (exy _ _ hDl))
                  have racc4 : RepL K H4 (fun a => A a ∨ a = Dl) acc xs := ((racc.mono av' exy).mono rs''.av ex3).mono (rs''.av.mono ex3) ex4
                  have av4 := (rs''.av.mono ex3).mono ex4
                  have kp : Kp (fun a => A a ∨ a = Dl) H4 (upd H4 Dl (.lst (xs ++ [w]))) := fun b u e n => by
                    rw [upd_ne fun z => n (.inr z)]; exact e
                  refine ⟨xs, hD4, by rw [racc4.length]; omega, fun b u e => ?_, acc ++ [z], xs ++ [w], rest', upd_same, RepL.keep av4 kp _ _ (racc4.append (RepL.one rw4)), by simp; omega, rfl, by simpa using eo⟩
                  rw [upd_ne (ne_of_none e hD)]
                  exact ex4 _ _ (ex3 _ _ (exy _ _ (ex' _ _ e)))
      · left
        have hi0 : i = ds.length := by omega
        subst hi0
        rw [List.drop_length] at ec
        cases ec
        have racc' : RepL K H' (fun x => A x ∨ x ∈ [Dl]) acc xs := RepL.anti (fun b hb => hb.imp id List.mem_singleton.mp) _ _ racc
        refine ⟨it.stops H' ex', q (.ref Dl) [Dl] H' (ex2.trans ex') (fun b hb => ?_) (by simp) ?_⟩
        · rw [List.mem_singleton.mp hb]; exact fresh_back ex2 hD
        · rw [← eo, List.append_nil]
          simp only [lO, Tree]
          exact ⟨Dl, xs, [], rfl, rfl, hDl, TreeL.dats racc'⟩
  · cases e2
end

/-! ### calls of defs -/
def spD (K : Fg) (f : List PyData → Option PyData) : Sp := fun vs H Q _ => ∃ O ds d, AvOk O H ∧ RepL K H O ds vs ∧ f ds = some d ∧ ∀ v H', Ex H H' → Rep K H' O d v → Q v H'
section
variable {K : Fg}
theorem ef_call {f : List PyData → Option PyData} {E : XK} {tr : TA} {fr : Rho → Option (List PyData)} (ha : EA K tr fr) : EF K (tCall (spD K f) [] E tr) (fun ρ => (fr ρ).bind f) := fun A ρ σ H d rs e H1 e1 Q q => by
  obtain ⟨x, ex, eg⟩ := bind_some' e
  refine ha A ρ σ H x rs ex H1 e1 _ fun vs H2 e2 r2 => ?_
  exact ⟨A, x, d, (rs.av.mono e1).mono e2, by simpa using r2, eg, fun v H' e' r' => q v H' (e2.trans e') r'⟩
def startR (n : Nat) (ds : List PyData) : Rho := ds.map .val ++ List.replicate (n - ds.length) .no
theorem start_ok {N : List Str} {O : Av} {pn : Nat → V} {H : Hp} {ss : List Sl} {vs : List V} (ob : AvOk O H) (hl : ss.length = vs.length) (hn : ∀ s ∈ ss, ∀ d, s ≠ .own d) (r : ∀ (i : Nat) (s : Sl) (v : V), ss[i]? = some s → vs[i]? = some v → SlOk K H O s (some (some v))) :
    SR K H O pn (fun _ => []) (ss ++ List.replicate (N.length - ss.length) .no) (start N vs) H := by
  have noown : ∀ (i : Nat) (d : OW), (ss ++ List.replicate (N.length - ss.length) Sl.no)[i]? ≠ some (Sl.own d) := fun i d q => by
    rw [List.getElem?_append] at q
    split at q
    · exact hn _ (List.mem_of_getElem? q) d rfl
    · rw [List.getElem?_replicate] at q
      split at q <;> cases q
  have av : ∀ a, Avd O (ss ++ List.replicate (N.length - ss.length) Sl.no) (fun _ => []) a → O a := fun a h => by
    rcases h with h | ⟨i, d, q, _⟩
    · exact h
    · exact (noown i d q).elim
  refine ⟨RS.anti av ⟨?_, ob, fun i s q => ?_⟩, Ex.refl _, ob, fun i d q => (noown i d q).elim, fun i d q => (noown i d q).elim, fun i d q => (noown i d q).elim, fun i d q => (noown i d q).elim, fun i j d e q => (noown i d q).elim⟩
  · unfold L2.start
    simp [hl]
  · unfold L2.start
    rw [List.getElem?_append] at q
    split at q
    · rename_i hlt
      have hv : vs[i]? = some (vs[i]'(by omega)) := List.getElem?_eq_getElem (by omega)
      rw [List.getElem?_append_left (by rw [List.length_map]; omega), List.getElem?_map, hv]
      exact r i s _ q hv
    · rw [List.getElem?_replicate] at q
      split at q
      · cases q; trivial
      · cases q
theorem start_ds {N : List Str} {O : Av} {pn : Nat → V} {H : Hp} {ds : List PyData} {vs : List V} (ob : AvOk O H) (r : RepL K H O ds vs) : SR K H O pn (fun _ => []) (startR N.length ds) (start N vs) H := by
  have e : startR N.length ds = ds.map Sl.val ++ List.replicate (N.length - (ds.map Sl.val).length) .no := by unfold startR; simp
  rw [e]
  refine start_ok ob (by simp [r.length]) (fun s hs d e => ?_) fun i s v hs hv => ?_
  · obtain ⟨x, _, rfl⟩ := List.mem_map.mp hs
    cases e
  · rw [List.getElem?_map] at hs
    cases h : ds[i]? with
    | none => rw [h] at hs; cases hs
    | some x =>
      rw [h] at hs
      cases hs
      obtain ⟨v', hv', rv⟩ := r.get h
      rw [hv] at hv'; cases hv'
      exact ⟨v, rfl, rv⟩
/-- what a body's run gives back -/
def retD : Option Res → Option PyData
  | some (.ret d) => some d
  | some (.rex d _) => some d
  | some (.nx _) => some .none
  | _ => none
theorem body_ok {N : List Str} {t : TS} {fb : Rho → Option Res} {f : List PyData → Option PyData} {vs : List V} {H : Hp} {Q : VK} {E : XK} (h : ES K t fb) (hf : ∀ ds d, f ds = some d → retD (fb (startR N.length ds)) = some d) (sp : spD K f vs H Q E) :
    t { nx := fun _ H' => Q .non H', rt := Q } (start N vs) H := by
  obtain ⟨O, ds, d, ob, r, e, q⟩ := sp
  have e' := hf ds d e
  cases hr : fb (startR N.length ds) with
  | none => rw [hr] at e'; cases e'
  | some r1 =>
    rw [hr] at e'
    refine h H O (fun _ => .non) _ _ _ H r1 _ (start_ds ob r) hr ?_
    cases r1 with
    | ret d' => cases e'; exact fun v H' x rv => q v H' x rv
    | rex d' ρ => cases e'; exact fun ow σ v H' s rv => q v H' s.ex (Rep.anti (fun a z => .inl z) _ _ rv)
    | nx ρ => cases e'; exact fun ow σ H' s => q .non H' s.ex (by simp only [Rep])
    | brk ρ => cases e'
    | ct ρ => cases e'
end
end Sv

/-! Operators, subscripts, built-in calls: what each gives on data. -/
namespace Sv
open PySem L2 Evl

section
variable {K : Fg} {H : Hp} {A : Av} {v : V}
theorem RepB.tupP {ds : List PyData} (h : RepB K H A (.tuple ds) v) : ∃ a xs, v = .ref a ∧ (SqT K H a xs ∧ (ds.all keyB = true ∨ Plain K H a)) ∧ RepL K H A ds xs := by
  rcases h with h | ⟨a, s, vs, es, rfl, n, e, r⟩
  · simpa only [Rep] using h
  · cases s <;> cases e
    obtain ⟨o, n, hd⟩ := n
    exact ⟨a, vs, rfl, ⟨.inl (.inr ⟨o, n⟩), .inr (.inl ⟨o, vs, n, hd⟩)⟩, r⟩
theorem RepB.tup {ds : List PyData} (h : RepB K H A (.tuple ds) v) : ∃ a xs, v = .ref a ∧ SqT K H a xs ∧ RepL K H A ds xs := by
  obtain ⟨a, xs, e, h1, r⟩ := h.tupP
  exact ⟨a, xs, e, h1.1, r⟩
theorem RepB.int {i : Int} (h : RepB K H A (.int i) v) : v = .int i := by
  rcases h with h | ⟨a, s, vs, es, rfl, n, e, r⟩
  · simpa only [Rep] using h
  · cases s <;> cases e
theorem RepB.str {i : Str} (h : RepB K H A (.str i) v) : v = .str i := by
  rcases h with h | ⟨a, s, vs, es, rfl, n, e, r⟩
  · simpa only [Rep] using h
  · cases s <;> cases e
theorem RepB.bl {i : Bool} (h : RepB K H A (.bool i) v) : v = .bl i := by
  rcases h with h | ⟨a, s, vs, es, rfl, n, e, r⟩
  · simpa only [Rep] using h
  · cases s <;> cases e
theorem RepB.non (h : RepB K H A .none v) : v = .non := by
  rcases h with h | ⟨a, s, vs, es, rfl, n, e, r⟩
  · simpa only [Rep] using h
  · cases s <;> cases e
theorem RepB.dct {kvs : List (PyData × PyData)} (h : RepB K H A (.dict kvs) v) : ∃ a s vs, v = .ref a ∧ keysOf s = some (kvs.map (·.1)) ∧ Node K H a vs s ∧ RepP K H A kvs vs := by
  rcases h with h | ⟨a, s, vs, es, rfl, n, e, r⟩
  · simp only [Rep] at h
    obtain ⟨a, s, vs, e, _, h⟩ := h
    exact ⟨a, s, vs, e, h⟩
  · have hl := r.length
    cases s with
    | lst => cases e
    | tup => cases e
    | dk ks =>
      cases e
      refine ⟨a, .dk ks, vs, rfl, ?_, n, repP_zip isMk_kD n.1 r⟩
      rw [zip_fst (by rw [List.length_map, n.1, hl])]
      rfl
    | dt ks =>
      cases e
      refine ⟨a, .dt ks, vs, rfl, ?_, n, ?_⟩
      · rw [List.map_cons, zip_fst (by rw [List.length_map, n.1, hl])]
        rfl
      · simp only [RepP]
        exact .inl ⟨rfl, repP_zip (fun _ => rfl) n.1 r⟩
    | ob c ns =>
      cases e
      refine ⟨a, .ob c ns, vs, rfl, ?_, n, ?_⟩
      · rw [List.map_cons, zip_fst (by rw [List.length_map, n.1, hl])]
        rfl
      · simp only [RepP]
        exact .inl ⟨rfl, repP_zip (fun _ => rfl) n.1 r⟩
theorem rep_int {i : Int} : Rep K H A (.int i) (.int i) := by simp only [Rep]
theorem rep_str {i : Str} : Rep K H A (.str i) (.str i) := by simp only [Rep]
theorem rep_bl {i : Bool} : Rep K H A (.bool i) (.bl i) := by simp only [Rep]
theorem rep_non : Rep K H A .none .non := by simp only [Rep]
theorem rep_newT {p : Addr} {o : Obj} {ds : List PyData} {xs : List V} (ok : AvOk A H) (ho : o.dict = none) (hp : H p = none) (r : RepL K H A ds xs) : Rep K (upd H p (.frz o (.tup xs))) A (.tuple ds) (.ref p) := by
  simp only [Rep]
  exact ⟨p, xs, rfl, ⟨.inl (.inr ⟨o, upd_same⟩), .inr (.inl ⟨o, xs, upd_same, ho⟩)⟩, r.mono ok (Ex.new hp)⟩
theorem rep_newL {p : Addr} {ds : List PyData} {xs : List V} (ok : AvOk A H) (hp : H p = none) (r : RepL K H A ds xs) : Rep K (upd H p (.lst xs)) A (.list ds) (.ref p) := by
  simp only [Rep]
  exact ⟨p, xs, rfl, ok.fresh hp, upd_same, r.mono ok (Ex.new hp)⟩
theorem rep_tup {a : Addr} {ds : List PyData} {xs : List V} (h : SqT K H a xs ∧ (ds.all keyB = true ∨ Plain K H a)) (r : RepL K H A ds xs) : Rep K H A (.tuple ds) (.ref a) := by
  simp only [Rep]
  exact ⟨a, xs, rfl, h, r⟩
end

/-! ### + - * // % -/
section
variable {X : Cx}
def rCatR : R2 := fun x y H Q => ∃ l b xs zs, x = .ref l ∧ y = .ref b ∧ Rd H l (.lst xs) ∧ Rd H b (.lst zs) ∧ xs.length + zs.length ≤ sizeLine ∧ ∀ p, H p = none → Q (.ref p) (upd H p (.lst (xs ++ zs)))
theorem op_catR : OpR X (binaryOp .Add) rCatR := by
  intro pins s σ H x y v u Q I rx ry h
  obtain ⟨l, b, xs, zs, rfl, rfl, hH, hB, hz, q⟩ := h
  cases rx
  cases ry
  obtain ⟨z, its, n, r, e⟩ := hH.ok I.hok
  obtain ⟨z2, its2, n2, r2, e2⟩ := hB.ok I.hok
  have hl := r.length
  have hl2 := r2.length
  refine PySem.P.add_list e e2 ?_ (by rw [List.size_toArray, List.size_toArray]; omega)
  have ea : its.toArray ++ its2.toArray = (its ++ its2).toArray := by simp
  rw [ea]
  exact ⟨.ref _, _, I.lnew (t' := s.toks) (r.append r2) (by rw [List.length_append]; omega), rfl, q _ I.fresh⟩
theorem op_addD : OpR X (binaryOp .Add) (fun x y H Q => rI0 (fun i j => .int (i + j)) x y H Q ∨ (∃ i j, x = .str i ∧ y = .str j ∧ i.length + j.length ≤ sizeLine ∧ Q (.str (i ++ j)) H) ∨ rCatF X.K x y H Q ∨ rCatR x y H Q) := op_add.or (op_add_str.or (op_catF.or op_catR))
end
def rAddD (K : Fg) : R2 := fun x y H Q => rI0 (fun i j => .int (i + j)) x y H Q ∨ (∃ i j, x = .str i ∧ y = .str j ∧ i.length + j.length ≤ sizeLine ∧ Q (.str (i ++ j)) H) ∨ rCatF K x y H Q ∨ rCatR x y H Q
theorem op_addd {X : Cx} : OpR X (binaryOp .Add) (rAddD X.K) := op_addD
def addD : PyData → PyData → Option PyData
  | .int a, .int b => some (.int (a + b))
  | .str a, .str b => if lenOk (a.length + b.length) then some (.str (a ++ b)) else none
  | .tuple a, .tuple b => if lenOk (a.length + b.length) then some (.tuple (a ++ b)) else none
  | .list a, .list b => if lenOk (a.length + b.length) then some (.list (a ++ b)) else none
  | _, _ => none
section
variable {K : Fg}
theorem e2_add : E2 K (rAddD K) addD := fun A H d e x y z ok rx ry h Q q => by
  unfold addD at h
  split at h
  · cases h
    cases rx.int; cases ry.int
    exact .inl ⟨_, _, rfl, rfl, q _ H (Ex.refl _) rep_int⟩
  · split at h
    · rename_i hl
      cases h
      cases rx.str; cases ry.str
      exact .inr (.inl ⟨_, _, rfl, rfl, of_decide_eq_true hl, q _ H (Ex.refl _) rep_str⟩)
    · cases h
  · split at h
    · rename_i hl
      cases h
      obtain ⟨a, xs, rfl, h1, r1⟩ := rx.tupP
      obtain ⟨b, ys, rfl, h2, r2⟩ := ry.tupP
      refine .inr (.inr (.inl ⟨a, b, xs, ys, rfl, rfl, h1.1, h2.1, by rw [r1.length, r2.length]; exact of_decide_eq_true hl, fun e => ?_, fun _ e => ?_, fun _ _ p o ho hp => ?_⟩))
      · subst e
        have : (_ : List PyData) = [] := List.length_eq_zero_iff.mp r1.length.symm
        subst this
        exact q _ H (Ex.refl _) (rep_tup h2 r2)
      · subst e
        have : (_ : List PyData) = [] := List.length_eq_zero_iff.mp r2.length.symm
        subst this
        exact q _ H (Ex.refl _) (rep_tup (by simpa using h1) (by simpa using r1))
      · exact q _ _ (Ex.new hp) (rep_newT ok ho hp (r1.append r2))
    · cases h
  · split at h
    · rename_i hl
      cases h
      obtain ⟨a, xs, rfl, h1, r1⟩ := rx.lst
      obtain ⟨b, ys, rfl, h2, r2⟩ := ry.lst
      exact .inr (.inr (.inr ⟨a, b, xs, ys, rfl, rfl, .inl h1, .inl h2, by rw [r1.length, r2.length]; exact of_decide_eq_true hl, fun p hp => q _ _ (Ex.new hp) (rep_newL ok hp (r1.append r2))⟩))
    · cases h
  · cases h
/-- two ints -/
theorem e2_I0 {g : Int → Int → V} {f : Int → Int → PyData} (hg : ∀ H A i j, Rep K H A (f i j) (g i j)) : E2 K (rI0 g) (fun d e => match d, e with | .int i, .int j => some (f i j) | _, _ => none) := fun A H d e x y z ok rx ry h Q q => by
  dsimp only at h
  split at h
  · cases h
    cases rx.int; cases ry.int
    exact ⟨_, _, rfl, rfl, q _ H (Ex.refl _) (hg _ _ _ _)⟩
  · cases h
theorem e2_I {C : Int → Int → Prop} [∀ i j, Decidable (C i j)] {g : Int → Int → V} {f : Int → Int → PyData} (hg : ∀ H A i j, Rep K H A (f i j) (g i j)) : E2 K (rI C g) (fun d e => match d, e with | .int i, .int j => if C i j then some (f i j) else none | _, _ => none) := fun A H d e x y z ok rx ry h Q q => by
  dsimp only at h
  split at h
  · split at h
    · cases h
      cases rx.int; cases ry.int
      exact ⟨_, _, rfl, rfl, by assumption, q _ H (Ex.refl _) (hg _ _ _ _)⟩
    · cases h
  · cases h
instance (i j : Int) : Decidable (CDiv i j) := by unfold CDiv; infer_instance
instance (i j : Int) : Decidable (CMul i j) := by unfold CMul; infer_instance
def subD : PyData → PyData → Option PyData := fun d e => match d, e with | .int i, .int j => some (.int (i - j)) | _, _ => none
def mulD : PyData → PyData → Option PyData := fun d e => match d, e with | .int i, .int j => if CMul i j then some (.int (i * j)) else none | _, _ => none
def fdivD : PyData → PyData → Option PyData := fun d e => match d, e with | .int i, .int j => if CDiv i j then some (.int (i / j)) else none | _, _ => none
def modD : PyData → PyData → Option PyData := fun d e => match d, e with | .int i, .int j => if 0 < j then some (.int (i % j)) else none | _, _ => none
theorem e2_sub : E2 K (rI0 fun i j => .int (i - j)) subD := e2_I0 (f := fun i j => .int (i - j)) fun _ _ _ _ => rep_int
theorem e2_mul : E2 K (rI CMul fun i j => .int (i * j)) mulD := e2_I (f := fun i j => .int (i * j)) fun _ _ _ _ => rep_int
theorem e2_fdiv : E2 K (rI CDiv fun i j => .int (i / j)) fdivD := e2_I (f := fun i j => .int (i / j)) fun _ _ _ _ => rep_int
theorem e2_mod : E2 K (rI (fun _ j => 0 < j) fun i j => .int (i % j)) modD := e2_I (f := fun i j => .int (i % j)) fun _ _ _ _ => rep_int

/-! ### comparisons -/
mutual
theorem Rep.dp {H : Hp} {A : Av} : ∀ (d : PyData) (v : V), d.canLay0 = true → Rep K H A d v → Dp K H v d
  | .none, _, _, h => by simp only [Rep] at h; subst h; exact .non
  | .bool b, _, _, h => by simp only [Rep] at h; subst h; exact .bl b
  | .int i, _, _, h => by simp only [Rep] at h; subst h; exact .int i
  | .str s, _, _, h => by simp only [Rep] at h; subst h; exact .str s
  | .tuple ds, v, c, h => by
    simp only [Rep] at h
    obtain ⟨a, xs, rfl, ⟨h1, _⟩, h2⟩ := h
    simp only [PyData.canLay0] at c
    exact .tup h1 (RepL.dp ds xs c h2)
  | .list ds, v, c, h => by
    simp only [Rep] at h
    obtain ⟨a, xs, rfl, _, h1, h2⟩ := h
    simp only [PyData.canLay0] at c
    exact .lst (SqL.of h1) (RepL.dp ds xs c h2)
  | .dict _, v, c, h => by simp [PyData.canLay0] at c
theorem RepL.dp {H : Hp} {A : Av} : ∀ (ds : List PyData) (xs : List V), PyData.canLayAll0 ds = true → RepL K H A ds xs → DpAll K H xs ds
  | [], xs, _, h => by simp only [RepL] at h; subst h; exact .nil
  | d :: ds, xs, c, h => by
    simp only [RepL] at h
    obtain ⟨y, ys, rfl, h1, h2⟩ := h
    simp only [PyData.canLayAll0, Bool.and_eq_true] at c
    exact .cons (Rep.dp d y c.1 h1) (RepL.dp ds ys c.2 h2)
end
theorem RepB.dp {H : Hp} {A : Av} {d : PyData} {v : V} (c : d.canLay0 = true) (h : RepB K H A d v) : Dp K H v d := by
  cases d with
  | list ds =>
    obtain ⟨a, xs, rfl, h1, h2⟩ := h.lst
    simp only [PyData.canLay0] at c
    exact .lst (SqL.of h1) (RepL.dp ds xs c h2)
  | dict _ => simp [PyData.canLay0] at c
  | none => cases h.non; exact .non
  | bool _ => cases h.bl; exact .bl _
  | int _ => cases h.int; exact .int _
  | str _ => cases h.str; exact .str _
  | tuple ds =>
    obtain ⟨a, xs, rfl, h1, h2⟩ := h.tup
    simp only [PyData.canLay0] at c
    exact .tup h1 (RepL.dp ds xs c h2)
def shp (d : PyData) : Bool := SeqAt.shaped d
theorem shp_lay {d : PyData} (h : shp d = true) : d.canLay0 = true := SeqAt.canLay_of_shaped h
def rEqA (K : Fg) : R2 := fun x y H Q => rEq x y H Q ∨ rEqD K x y H Q
def rNeA (K : Fg) : R2 := fun x y H Q => rNe x y H Q ∨ rNeD K x y H Q
theorem op_eqA {X : Cx} (hu : X.A.units + 64 < cLine) : OpR X (compareOp .Eq) (rEqA X.K) := op_eq.or (op_eqD hu)
theorem op_neA {X : Cx} (hu : X.A.units + 64 < cLine) : OpR X (compareOp .NotEq) (rNeA X.K) := op_ne.or (op_neD hu)
def eqB : PyData → PyData → Option Bool
  | .int a, .int b => some (decide (a = b))
  | .str a, .str b => some (decide (a = b))
  | .bool a, .bool b => some (decide (a = b))
  | d, e => if shp d && shp e then some (PyData.eqv d e) else none
def eqD (d e : PyData) : Option PyData := (eqB d e).map .bool
def neD (d e : PyData) : Option PyData := (eqB d e).map fun b => .bool (!b)
theorem map_some' {α β : Type} {a : Option α} {g : α → β} {z : β} (h : a.map g = some z) : ∃ x, a = some x ∧ z = g x := by
  cases a with
  | none => cases h
  | some x => cases h; exact ⟨x, rfl, rfl⟩
theorem dec_inj {α β : Type} [DecidableEq α] [DecidableEq β] {f : α → β} (hf : ∀ a b, f a = f b → a = b) (a b : α) : decide (f a = f b) = decide (a = b) := by
  by_cases h : a = b
  · subst h; simp
  · rw [decide_eq_false h, decide_eq_false fun z => h (hf a b z)]
theorem e2_eq : E2 K (rEqA K) eqD := fun A H d e x y z ok rx ry h Q q => by
  obtain ⟨b, hb, rfl⟩ := map_some' h
  unfold eqB at hb
  split at hb
  · cases hb
    cases rx.int; cases ry.int
    refine .inl ⟨rfl, ?_⟩
    rw [dec_inj (f := V.int) fun _ _ e => by cases e; rfl]
    exact q _ H (Ex.refl _) rep_bl
  · cases hb
    cases rx.str; cases ry.str
    refine .inl ⟨rfl, ?_⟩
    rw [dec_inj (f := V.str) fun _ _ e => by cases e; rfl]
    exact q _ H (Ex.refl _) rep_bl
  · cases hb
    cases rx.bl; cases ry.bl
    refine .inl ⟨rfl, ?_⟩
    rw [dec_inj (f := V.bl) fun _ _ e => by cases e; rfl]
    exact q _ H (Ex.refl _) rep_bl
  · split at hb
    · rename_i hs
      cases hb
      obtain ⟨h1, h2⟩ := Bool.and_eq_true_iff.mp hs
      exact .inr ⟨d, e, rx.dp (shp_lay h1), ry.dp (shp_lay h2), h1, h2, q _ H (Ex.refl _) rep_bl⟩
    · cases hb
theorem e2_ne : E2 K (rNeA K) neD := fun A H d e x y z ok rx ry h Q q => by
  obtain ⟨b, hb, rfl⟩ := map_some' h
  unfold eqB at hb
  split at hb
  · cases hb
    cases rx.int; cases ry.int
    refine .inl ⟨rfl, ?_⟩
    rw [dec_inj (f := V.int) fun _ _ e => by cases e; rfl]
    exact q _ H (Ex.refl _) rep_bl
  · cases hb
    cases rx.str; cases ry.str
    refine .inl ⟨rfl, ?_⟩
    rw [dec_inj (f := V.str) fun _ _ e => by cases e; rfl]
    exact q _ H (Ex.refl _) rep_bl
  · cases hb
    cases rx.bl; cases ry.bl
    refine .inl ⟨rfl, ?_⟩
    rw [dec_inj (f := V.bl) fun _ _ e => by cases e; rfl]
    exact q _ H (Ex.refl _) rep_bl
  · split at hb
    · rename_i hs
      cases hb
      obtain ⟨h1, h2⟩ := Bool.and_eq_true_iff.mp hs
      exact .inr ⟨d, e, rx.dp (shp_lay h1), ry.dp (shp_lay h2), h1, h2, q _ H (Ex.refl _) rep_bl⟩
    · cases hb
/-! order of ints and of texts -/
def rOrd (fi : Int → Int → Bool) (fs : Str → Str → Bool) : R2 := fun x y H Q => rI0 (fun i j => .bl (fi i j)) x y H Q ∨ ∃ i j, x = .str i ∧ y = .str j ∧ Q (.bl (fs i j)) H
def ordD (fi : Int → Int → Bool) (fs : Str → Str → Bool) : PyData → PyData → Option PyData
  | .int a, .int b => some (.bool (fi a b))
  | .str a, .str b => some (.bool (fs a b))
  | _, _ => none
theorem e2_ord {fi : Int → Int → Bool} {fs : Str → Str → Bool} : E2 K (rOrd fi fs) (ordD fi fs) := fun A H d e x y z ok rx ry h Q q => by
  unfold ordD at h
  split at h
  · cases h
    cases rx.int; cases ry.int
    exact .inl ⟨_, _, rfl, rfl, q _ H (Ex.refl _) rep_bl⟩
  · cases h
    cases rx.str; cases ry.str
    exact .inr ⟨_, _, rfl, rfl, q _ H (Ex.refl _) rep_bl⟩
  · cases h
def sLt (i j : Str) : Bool := decide (i.cps.toList < j.cps.toList)
def rLtA : R2 := rOrd (fun i j => decide (i < j)) sLt
def ltD := ordD (fun i j => decide (i < j)) sLt
theorem op_ltA {X : Cx} : OpR X (compareOp .Lt) rLtA := op_lt.or op_lt_str
theorem e2_lt : E2 K rLtA ltD := e2_ord
def rLe0 : R2 := rI0 fun i j => .bl (decide (i ≤ j))
def rGt0 : R2 := rI0 fun i j => .bl (decide (j < i))
def rGe0 : R2 := rI0 fun i j => .bl (decide (j ≤ i))
theorem op_le0 {X : Cx} : OpR X (compareOp .LtE) rLe0 := op_le
theorem op_gt0 {X : Cx} : OpR X (compareOp .Gt) rGt0 := op_gt
theorem op_ge0 {X : Cx} : OpR X (compareOp .GtE) rGe0 := op_ge
def leD : PyData → PyData → Option PyData := fun d e => match d, e with | .int i, .int j => some (.bool (decide (i ≤ j))) | _, _ => none
def gtD : PyData → PyData → Option PyData := fun d e => match d, e with | .int i, .int j => some (.bool (decide (j < i))) | _, _ => none
def geD : PyData → PyData → Option PyData := fun d e => match d, e with | .int i, .int j => some (.bool (decide (j ≤ i))) | _, _ => none
theorem e2_le : E2 K rLe0 leD := e2_I0 (f := fun i j => .bool (decide (i ≤ j))) fun _ _ _ _ => rep_bl
theorem e2_gt : E2 K rGt0 gtD := e2_I0 (f := fun i j => .bool (decide (j < i))) fun _ _ _ _ => rep_bl
theorem e2_ge : E2 K rGe0 geD := e2_I0 (f := fun i j => .bool (decide (j ≤ i))) fun _ _ _ _ => rep_bl
/-! is, is not: None, True, False -/
def rIsA : R2 := fun x y H Q => (y = .non ∧ Q (.bl (decide (x = .non))) H) ∨ ∃ a b, x = .bl a ∧ y = .bl b ∧ Q (.bl (decide (a = b))) H
def rIsNotA : R2 := fun x y H Q => (y = .non ∧ Q (.bl (!decide (x = .non))) H) ∨ ∃ a b, x = .bl a ∧ y = .bl b ∧ Q (.bl (!decide (a = b))) H
theorem op_isA {X : Cx} : OpR X (compareOp .Is) rIsA := op_isN.or op_is_bl
theorem op_isNotA {X : Cx} : OpR X (compareOp .IsNot) rIsNotA := op_notN.or op_isnot_bl
def isNone : PyData → Bool
  | .none => true
  | _ => false
def isB : PyData → PyData → Option Bool
  | d, .none => some (isNone d)
  | .bool a, .bool b => some (decide (a = b))
  | _, _ => none
def isD (d e : PyData) : Option PyData := (isB d e).map .bool
def isNotD (d e : PyData) : Option PyData := (isB d e).map fun b => .bool (!b)
theorem isNone_dec {H : Hp} {A : Av} {d : PyData} {v : V} (h : RepB K H A d v) : decide (v = .non) = isNone d := by
  cases d with
  | none => cases h.non; rfl
  | bool b => cases h.bl; rfl
  | int b => cases h.int; rfl
  | str b => cases h.str; rfl
  | list b => obtain ⟨a, xs, rfl, _⟩ := h.lst; rfl
  | tuple b => obtain ⟨a, xs, rfl, _⟩ := h.tup; rfl
  | dict b => obtain ⟨a, s, vs, rfl, _⟩ := h.dct; rfl
theorem e2_is : E2 K rIsA isD := fun A H d e x y z ok rx ry h Q q => by
  obtain ⟨b, hb, rfl⟩ := map_some' h
  unfold isB at hb
  split at hb
  · cases hb
    cases ry.non
    refine .inl ⟨rfl, ?_⟩
    rw [isNone_dec rx]
    exact q _ H (Ex.refl _) rep_bl
  · cases hb
    cases rx.bl; cases ry.bl
    exact .inr ⟨_, _, rfl, rfl, q _ H (Ex.refl _) rep_bl⟩
  · cases hb
theorem e2_isNot : E2 K rIsNotA isNotD := fun A H d e x y z ok rx ry h Q q => by
  obtain ⟨b, hb, rfl⟩ := map_some' h
  unfold isB at hb
  split at hb
  · cases hb
    cases ry.non
    refine .inl ⟨rfl, ?_⟩
    rw [isNone_dec rx]
    exact q _ H (Ex.refl _) rep_bl
  · cases hb
    cases rx.bl; cases ry.bl
    exact .inr ⟨_, _, rfl, rfl, q _ H (Ex.refl _) rep_bl⟩
  · cases hb
/-! in, not in: lists, tuples, texts -/
def rInAny (K : Fg) (n : Bool) : R2 := fun x y H Q => ∃ d e ds, Dp K H x d ∧ (e = .list ds ∨ e = .tuple ds) ∧ Dp K H y e ∧ SeqAt.shaped d = true ∧ SeqAt.shaped e = true ∧ Q (.bl (if n then !(ds.any fun z => PyData.eqv z d) else ds.any fun z => PyData.eqv z d)) H
theorem op_inAny {X : Cx} (hu : X.A.units + 65 < cLine) : OpR X (compareOp .In) (rInAny X.K false) := by
  intro pins s σ H x y v u Q I rx ry h
  obtain ⟨d, e, ds, hd, he, hy, sd, se, q⟩ := h
  obtain ⟨as, r1⟩ := Dp.reads I d x v hd rx
  obtain ⟨bs, r2⟩ := Dp.reads I e y u hy ry
  rcases he with rfl | rfl
  · exact SeqAt.in_list_reads r2 r1 (SeqAt.canLay_of_shaped se) (SeqAt.canLay_of_shaped sd) (PyProof.Rows.room_in_shaped sd hu) ⟨.bl _, H, I, rfl, q⟩
  · exact SeqAt.in_tuple_reads r2 r1 (SeqAt.canLay_of_shaped se) (SeqAt.canLay_of_shaped sd) (PyProof.Rows.room_in_shaped sd hu) ⟨.bl _, H, I, rfl, q⟩
theorem op_notInAny {X : Cx} (hu : X.A.units + 65 < cLine) : OpR X (compareOp .NotIn) (rInAny X.K true) := by
  intro pins s σ H x y v u Q I rx ry h
  obtain ⟨d, e, ds, hd, he, hy, sd, se, q⟩ := h
  obtain ⟨as, r1⟩ := Dp.reads I d x v hd rx
  obtain ⟨bs, r2⟩ := Dp.reads I e y u hy ry
  rcases he with rfl | rfl
  · exact SeqAt.notIn_list_reads r2 r1 (SeqAt.canLay_of_shaped se) (SeqAt.canLay_of_shaped sd) (PyProof.Rows.room_in_shaped sd hu) ⟨.bl _, H, I, rfl, q⟩
  · exact SeqAt.notIn_tuple_reads r2 r1 (SeqAt.canLay_of_shaped se) (SeqAt.canLay_of_shaped sd) (PyProof.Rows.room_in_shaped sd hu) ⟨.bl _, H, I, rfl, q⟩
def itemsOf : PyData → Option (List PyData)
  | .list ds => some ds
  | .tuple ds => some ds
  | _ => none
def inB (d e : PyData) : Option Bool := match itemsOf e with
  | some ds => if shp d && shp e then some (ds.any fun z => PyData.eqv z d) else none
  | none => none
def inD (d e : PyData) : Option PyData := (inB d e).map .bool
def notInD (d e : PyData) : Option PyData := (inB d e).map fun b => .bool (!b)
theorem items_or {e : PyData} {ds : List PyData} (h : itemsOf e = some ds) : e = .list ds ∨ e = .tuple ds := by
  cases e <;> simp [itemsOf] at h
  · subst h; exact .inl rfl
  · subst h; exact .inr rfl
theorem inB_some {d e : PyData} {b : Bool} (h : inB d e = some b) : ∃ ds, itemsOf e = some ds ∧ shp d = true ∧ shp e = true ∧ b = ds.any fun z => PyData.eqv z d := by
  unfold inB at h
  split at h
  · split at h
    · rename_i hs
      cases h
      obtain ⟨h1, h2⟩ := Bool.and_eq_true_iff.mp hs
      exact ⟨_, by assumption, h1, h2, rfl⟩
    · cases h
  · cases h
theorem e2_in : E2 K (rInAny K false) inD := fun A H d e x y z ok rx ry h Q q => by
  obtain ⟨b, hb, rfl⟩ := map_some' h
  obtain ⟨ds, hi, h1, h2, rfl⟩ := inB_some hb
  exact ⟨d, e, ds, rx.dp (shp_lay h1), items_or hi, ry.dp (shp_lay h2), h1, h2, q _ H (Ex.refl _) rep_bl⟩
theorem e2_notIn : E2 K (rInAny K true) notInD := fun A H d e x y z ok rx ry h Q q => by
  obtain ⟨b, hb, rfl⟩ := map_some' h
  obtain ⟨ds, hi, h1, h2, rfl⟩ := inB_some hb
  exact ⟨d, e, ds, rx.dp (shp_lay h1), items_or hi, ry.dp (shp_lay h2), h1, h2, q _ H (Ex.refl _) rep_bl⟩

/-! a op b op c -/
def chainD (f g : PyData → PyData → Option PyData) (a b c : Option PyData) : Option PyData := match a with
  | none => none
  | some x => match b with
    | none => none
    | some y => match f x y with
      | some (.bool true) => (match c with
        | none => none
        | some z => g y z)
      | some (.bool false) => some (.bool false)
      | _ => none
theorem ef_chain {r r' : R2} {f g : PyData → PyData → Option PyData} {ta tb tc : TE} {fa fb fc : Rho → Option PyData} (h : E2 K r f) (h' : E2 K r' g) (ha : EF K ta fa) (hb : EF K tb fb) (hc : EF K tc fc) : EF K (tChain r r' ta tb tc) (fun ρ => chainD f g (fa ρ) (fb ρ) (fc ρ)) := fun A ρ σ H d rs e H1 e1 Q q => by
  dsimp only [chainD] at e
  split at e
  · cases e
  · rename_i x ex
    split at e
    · cases e
    · rename_i y ey
      refine ha A ρ σ H x rs ex H1 e1 _ fun v H2 e2 r2 => ?_
      have av2 := (rs.av.mono e1).mono e2
      refine hb A ρ σ H y rs ey H2 (e1.trans e2) _ fun w H3 e3 r3 => ?_
      have av3 := av2.mono e3
      split at e
      · rename_i h1
        refine h A H3 x y v w _ av3 (.inl (r2.mono av2 e3)) (.inl r3) h1 _ fun z H4 e4 r4 => ?_
        simp only [Rep] at r4
        subst r4
        refine ⟨true, rfl, ?_⟩
        split at e
        · cases e
        · rename_i z ez
          show tc σ H4 _
          refine hc A ρ σ H z rs ez H4 (((e1.trans e2).trans e3).trans e4) _ fun u H5 e5 r5 => ?_
          exact h' A H5 y z w u d ((av3.mono e4).mono e5) (.inl ((r3.mono av3 e4).mono (av3.mono e4) e5)) (.inl r5) e Q fun v H6 e6 r6 => q v H6 ((((e2.trans e3).trans e4).trans e5).trans e6) r6
      · rename_i h1
        cases e
        refine h A H3 x y v w _ av3 (.inl (r2.mono av2 e3)) (.inl r3) h1 _ fun z H4 e4 r4 => ?_
        simp only [Rep] at r4
        subst r4
        exact ⟨false, rfl, q _ H4 ((e2.trans e3).trans e4) rep_bl⟩
      · cases e

/-! ### subscripts -/
def rIxA (K : Fg) : R2 := fun x y H Q => rIxT K x y H Q ∨ rIxL K x y H Q ∨ rIxS x y H Q
theorem ix_all {X : Cx} : IxR X (rIxA X.K) := ix_tup.or (ix_list.or ix_str)
def ixD : PyData → PyData → Option PyData
  | .tuple ds, .int i => atI ds i
  | .list ds, .int i => atI ds i
  | .str z, .int i => if lenOk z.length then (atI z.cps.toList i).map fun c => .str ⟨#[c]⟩ else none
  | _, _ => none
theorem RepL.atI {H : Hp} {A : Av} {ds : List PyData} {xs : List V} {i : Int} {d : PyData} (r : RepL K H A ds xs) (h : L2.atI ds i = some d) : ∃ v, L2.atI xs i = some v ∧ Rep K H A d v := by
  unfold L2.atI at h ⊢
  rw [r.length]
  obtain ⟨j, h1, h2⟩ := bind_some' h
  rw [h1]
  exact r.get h2
theorem e2_ix : E2 K (rIxA K) ixD := fun A H d e x y z ok rx ry h Q q => by
  unfold ixD at h
  split at h
  · obtain ⟨a, xs, rfl, h1, r1⟩ := rx.tup
    cases ry.int
    obtain ⟨v, hv, rv⟩ := r1.atI h
    exact .inl ⟨a, xs, _, v, rfl, rfl, h1, hv, q v H (Ex.refl _) rv⟩
  · obtain ⟨a, xs, rfl, h1, r1⟩ := rx.lst
    cases ry.int
    obtain ⟨v, hv, rv⟩ := r1.atI h
    exact .inr (.inl ⟨a, xs, _, v, rfl, rfl, SqL.of h1, hv, q v H (Ex.refl _) rv⟩)
  · split at h
    · rename_i hl
      obtain ⟨c, hc, rfl⟩ := map_some' h
      cases rx.str; cases ry.int
      exact .inr (.inr ⟨_, _, c, rfl, rfl, of_decide_eq_true hl, hc, q _ H (Ex.refl _) rep_str⟩)
    · cases h
  · cases h
/-! slices -/
def EO (K : Fg) (t : TO) (f : Rho → Option (Option Int)) : Prop := ∀ A ρ σ H o, RS K A ρ σ H → f ρ = some o → ∀ H1, Ex H H1 → ∀ Q : Option Int → Hp → Prop, (∀ H2, Ex H1 H2 → Q o H2) → t σ H1 Q
theorem eo_none : EO K tNoPart (fun _ => some none) := fun A ρ σ H o rs e H1 e1 Q q => by
  cases e
  exact q H1 (Ex.refl _)
def asI : PyData → Option Int
  | .int i => some i
  | _ => none
theorem asI_some {d : PyData} {b : Int} (h : asI d = some b) : d = .int b := by
  cases d <;> simp [asI] at h
  subst h; rfl
theorem eo_some {te : TE} {fe : Rho → Option PyData} (h : EF K te fe) : EO K (tPart te) (fun ρ => ((fe ρ).bind asI).map some) := fun A ρ σ H o rs e H1 e1 Q q => by
  obtain ⟨i, hi, rfl⟩ := map_some' e
  obtain ⟨d, hd, h2⟩ := bind_some' hi
  cases asI_some h2
  refine h A ρ σ H _ rs hd H1 e1 _ fun v H2 e2 r => ⟨i, by simpa only [Rep] using r, q H2 e2⟩
def cutL {α : Type} (xs : List α) (lo hi : Option Int) : List α := (xs.drop (HT.sIx xs.length 0 lo)).take (HT.sIx xs.length xs.length hi - HT.sIx xs.length 0 lo)
def rSlAll (K : Fg) : V → Option Int → Option Int → Hp → VK → Prop := fun x lo hi H Q => rSlF K x lo hi H Q ∨ rSlL K x lo hi H Q
theorem sl_all {X : Cx} : SlR X (rSlAll X.K) := sl_tupF.or sl_list
def slD (d : PyData) (lo hi : Option Int) : Option PyData := match d with
  | .tuple ds => some (.tuple (cutL ds lo hi))
  | .list ds => some (.list (cutL ds lo hi))
  | _ => none
theorem RepL.cut {H : Hp} {A : Av} {ds : List PyData} {xs : List V} (r : RepL K H A ds xs) (lo hi : Option Int) : RepL K H A (cutL ds lo hi) (cutV xs lo hi) := by
  unfold cutL cutV
  rw [r.length]
  exact (r.drop _).take _
theorem cut_whole {α β : Type} {ds : List α} {xs : List β} {lo hi : Option Int} (hl : xs.length = ds.length) (hw : HT.sIx xs.length 0 lo = 0 ∧ HT.sIx xs.length xs.length hi = xs.length) : cutL ds lo hi = ds := by
  unfold cutL
  rw [← hl, hw.1, hw.2]
  simp only [List.drop_zero, Nat.sub_zero]
  exact List.take_of_length_le (Nat.le_of_eq hl.symm)
theorem ef_sl {te : TE} {tl th : TO} {fe : Rho → Option PyData} {fl fh : Rho → Option (Option Int)} (h : EB K te fe) (hl : EO K tl fl) (hh : EO K th fh) : EF K (tSl (rSlAll K) te tl th) (fun ρ => (fe ρ).bind fun d => bnd2 (fl ρ) (fh ρ) (slD d)) := fun A ρ σ H z rs e H1 e1 Q q => by
  obtain ⟨d, hd, e⟩ := bind_some' e
  obtain ⟨lo, hi, el, eh, e⟩ := bnd2_some e
  refine h A ρ σ H d rs hd H1 e1 _ fun v H2 e2 rv => ?_
  refine hl A ρ σ H lo rs el H2 (e1.trans e2) _ fun H3 e3 => ?_
  refine hh A ρ σ H hi rs eh H3 ((e1.trans e2).trans e3) _ fun H4 e4 => ?_
  have ok2 := (rs.av.mono e1).mono e2
  have ok4 := (ok2.mono e3).mono e4
  have rv := rv.mono ok2 (e3.trans e4)
  unfold slD at e
  split at e
  · cases e
    obtain ⟨a, xs, rfl, h1, r1⟩ := rv.tupP
    refine .inl ⟨a, xs, rfl, h1.1, fun hw => ?_, fun _ p o ho hp => ?_⟩
    · rw [cut_whole r1.length hw] at q
      exact q _ H4 ((e2.trans e3).trans e4) (rep_tup h1 r1)
    · exact q _ _ (((e2.trans e3).trans e4).trans (Ex.new hp)) (rep_newT ok4 ho hp (r1.cut lo hi))
  · cases e
    obtain ⟨a, xs, rfl, h1, r1⟩ := rv.lst
    exact .inr ⟨a, xs, rfl, SqL.of h1, fun p hp => q _ _ (((e2.trans e3).trans e4).trans (Ex.new hp)) (rep_newL ok4 hp (r1.cut lo hi))⟩
  · cases e

/-! ### built-in calls -/
def rLenA (K : Fg) : List V → Hp → VK → Prop := fun xs H Q => ∃ x n, xs = [x] ∧ LenV K x H n ∧ Q (.int n) H
theorem call_lenA {X : Cx} : CallR X (.builtin "len") (rLenA X.K) := call_len
def lenD : PyData → Option PyData
  | .str z => if lenOk z.length then some (.int z.length) else none
  | .list ds => some (.int ds.length)
  | .tuple ds => some (.int ds.length)
  | _ => none
/-- one argument that may be a name's own -/
theorem ef_cb1 {r : List V → Hp → VK → Prop} {g : PyData → Option PyData} {ta : TE} {fa : Rho → Option PyData} (h : E1 K (fun x => r [x]) g) (ha : EB K ta fa) : EF K (tCB r (tCons ta tNil)) (fun ρ => (fa ρ).bind g) := fun A ρ σ H d rs e H1 e1 Q q => by
  obtain ⟨x, ex, eg⟩ := bind_some' e
  refine ha A ρ σ H x rs ex H1 e1 _ fun v H2 e2 r2 => ?_
  exact h A H2 x v d ((rs.av.mono e1).mono e2) r2 eg Q fun v H4 e4 r4 => q v H4 (e2.trans e4) r4
theorem e1_len : E1 K (fun x => rLenA K [x]) lenD := fun A H d x z ok rx h Q q => by
  unfold lenD at h
  split at h
  · split at h
    · rename_i hl
      cases h
      cases rx.str
      exact ⟨_, _, rfl, ⟨of_decide_eq_true hl, rfl⟩, q _ H (Ex.refl _) rep_int⟩
    · cases h
  · cases h
    obtain ⟨a, xs, rfl, h1, r1⟩ := rx.lst
    refine ⟨_, _, rfl, .inl ⟨xs, SqL.of h1, rfl⟩, ?_⟩
    rw [r1.length]
    exact q _ H (Ex.refl _) rep_int
  · cases h
    obtain ⟨a, xs, rfl, h1, r1⟩ := rx.tup
    refine ⟨_, _, rfl, .inr ⟨xs, h1, rfl⟩, ?_⟩
    rw [r1.length]
    exact q _ H (Ex.refl _) rep_int
  · cases h
/-- tuple(x), list(x) -/
def rTupleA (K : Fg) : List V → Hp → VK → Prop := rTupleF K
theorem call_tupleA {X : Cx} : CallR X (.type "tuple") (rTupleA X.K) := call_tupleF
def tupleD : PyData → Option PyData
  | .list ds => some (.tuple ds)
  | .tuple ds => some (.tuple ds)
  | _ => none
theorem e1_tuple : E1 K (fun x => rTupleA K [x]) tupleD := fun A H d x z ok rx h Q q => by
  unfold tupleD at h
  split at h
  · cases h
    obtain ⟨a, xs, rfl, h1, r1⟩ := rx.lst
    exact ⟨a, xs, rfl, .inl ⟨SqL.of h1, fun l o ho hl => q _ _ (Ex.new hl) (rep_newT ok ho hl r1)⟩⟩
  · cases h
    obtain ⟨a, xs, rfl, h1, r1⟩ := rx.tupP
    exact ⟨a, xs, rfl, .inr ⟨h1.1, q _ H (Ex.refl _) (rep_tup h1 r1)⟩⟩
  · cases h
theorem call_listA {X : Cx} : CallR X (.type "list") (rListS X.K) := call_list_of
def listD : PyData → Option PyData
  | .list ds => some (.list ds)
  | .tuple ds => some (.list ds)
  | _ => none
theorem e1_list : E1 K (fun x => rListS K [x]) listD := fun A H d x z ok rx h Q q => by
  unfold listD at h
  split at h
  · cases h
    obtain ⟨a, xs, rfl, h1, r1⟩ := rx.lst
    exact ⟨a, xs, rfl, .inl (SqL.of h1), fun l hl => q _ _ (Ex.new hl) (rep_newL ok hl r1)⟩
  · cases h
    obtain ⟨a, xs, rfl, h1, r1⟩ := rx.tup
    exact ⟨a, xs, rfl, .inr h1, fun l hl => q _ _ (Ex.new hl) (rep_newL ok hl r1)⟩
  · cases h
/-- isinstance(x, T), T a built-in class -/
def tyName : PyData → String
  | .dict ((.list (_ :: _), _) :: _) => "?"
  | .none => "NoneType"
  | .bool _ => "bool"
  | .int _ => "int"
  | .str _ => "str"
  | .list _ => "list"
  | .tuple _ => "tuple"
  | .dict _ => "dict"
theorem tyX_of {H : Hp} {A : Av} {d : PyData} {v : V} (hd : ∀ kvs, d ≠ .dict kvs) (h : RepB K H A d v) : TyX K H v (.type (tyName d)) := by
  cases d with
  | none => cases h.non; exact .base .non
  | bool b => cases h.bl; exact .base (.bl b)
  | int b => cases h.int; exact .base (.int b)
  | str b => cases h.str; exact .base (.str b)
  | list b =>
    obtain ⟨a, xs, rfl, h1, _⟩ := h.lst
    exact .base (.lst h1)
  | tuple b =>
    obtain ⟨a, xs, rfl, h1, _⟩ := h.tup
    rcases h1 with (h1 | ⟨o, h1⟩) | ⟨o, its, n, h1, h2, _⟩
    · exact .base (.tup h1)
    · exact .fTuple h1
    · exact .kTuple h1 h2
  | dict b => exact (hd b rfl).elim
def isiD (T : String) : PyData → Option PyData
  | .dict _ => none
  | d => (kitB (tyName d) T).map .bool
theorem ef_isi {T : String} {ta : TE} {fa : Rho → Option PyData} (ha : EB K ta fa) : EF K (tCB (rIsi K) (tCons ta (tCons (tC (.ty T)) tNil))) (fun ρ => (fa ρ).bind (isiD T)) := fun A ρ σ H z rs e H1 e1 Q q => by
  obtain ⟨d, hd, e⟩ := bind_some' e
  have nd : ∀ kvs, d ≠ .dict kvs := fun kvs z => by subst z; cases e
  have e' : (kitB (tyName d) T).map .bool = some z := by
    cases d <;> first | exact e | cases e
  obtain ⟨b, hb, rfl⟩ := map_some' e'
  refine ha A ρ σ H d rs hd H1 e1 _ fun v H2 e2 rv => ?_
  exact ⟨v, .ty T, _, _, b, rfl, .ty T, tyX_of nd rv, kit_ty hb, q _ H2 e2 rep_bl⟩
end

/-! ### what is walked -/
section
variable {X : Cx} {tg : Expr}
/-- a list, a tuple or a text -/
def iSeq (K : Fg) (tl : TE) : TI := fun σ H R => tl σ H fun x H1 => (∃ a, x = .ref a ∧ (∃ xs, SqL K H1 a xs) ∧ R (Itl K a) H1) ∨ (∃ a, x = .ref a ∧ (∃ xs, SqT K H1 a xs) ∧ R (Itt K a) H1) ∨ ∃ z, x = .str z ∧ R (Its z) H1
theorem pi_seq {l : Expr} {tl : TE} (hl : PE X l tl) : PI X tg l (iSeq X.K tl) := by
  refine ⟨fun pins s σ H R I h => ?_⟩
  refine thn (hl.run pins s σ H _ I h) fun v s1 ⟨x, H1, I1, r1, q1⟩ => ?_
  rcases q1 with ⟨a, e, ⟨xs, hq⟩, q⟩ | ⟨a, e, ⟨xs, hq⟩, q⟩ | ⟨z, e, q⟩
  · subst e
    cases r1
    obtain ⟨its, rv, p, hz⟩ := I1.list hq
    refine wpAny_pyIter_list p.isList ?_
    refine ⟨s1.heap.objs.size, [s1.heap.objs.size], _, _, H1, rfl, I1.kept (t' := s1.toks) fun b o e => Heap.get?_push_of_some _ e, turn_list a _, ⟨_, Heap.get?_push_size _ rfl, rfl, rfl⟩, fun b hb => ?_, q⟩
    have e : b = s1.heap.objs.size := by simpa using hb
    subst e
    exact I1.fpOk (Nat.le_refl _) (I1.hok.fresh (Nat.le_refl _))
  · subst e
    cases r1
    obtain ⟨its, rv, p, hz⟩ := I1.tuple hq
    refine wpAny_pyIter_tuple (show s1.heap.IsTuple a its.toArray from p) ?_
    refine ⟨s1.heap.objs.size, [s1.heap.objs.size], _, _, H1, rfl, I1.kept (t' := s1.toks) fun b o e => Heap.get?_push_of_some _ e, turn_tuple a _, ⟨_, Heap.get?_push_size _ rfl, rfl, rfl⟩, fun b hb => ?_, q⟩
    have e : b = s1.heap.objs.size := by simpa using hb
    subst e
    exact I1.fpOk (Nat.le_refl _) (I1.hok.fresh (Nat.le_refl _))
  · subst e
    obtain ⟨t, rfl⟩ := r1
    cases ha : z.cps.all (· < 128)
    · exact wpAny_pyIter_wide ha (pi_one (tk := s1.toks) I1 _ (turn_str _ z t "str_iterator" (.inr rfl)) ⟨_, Heap.get?_push_size _ rfl, rfl, rfl⟩ q)
    · exact wpAny_pyIter_ascii ha (pi_one (tk := s1.toks) I1 _ (turn_str _ z t "str_ascii_iterator" (.inl rfl)) ⟨_, Heap.get?_push_size _ rfl, rfl, rfl⟩ q)
end
section
variable {K : Fg}
/-- what is walked, of what stands -/
def walkD : PyData → Option (List PyData)
  | .list ds => some ds
  | .tuple ds => some ds
  | .str z => some (z.cps.toList.map fun c => .str ⟨#[c]⟩)
  | _ => none
theorem iter_tup {A : Av} {H : Hp} {a : Addr} {xs : List V} {ds : List PyData} (ok : AvOk A H) (h1 : SqT K H a xs) (r : RepL K H A ds xs) : Iter K A (Itt K a) H ds (Kp A H) := by
  refine ⟨fun i Ha hi k => ?_, fun Ha k => ?_, fun B i x Ha Hc d hb hd k y => ?_⟩
  · exact (walk_tup (xs := xs)).goes i Ha (by rw [r.length]; exact hi) (SqT.keep ok k h1)
  · have := (walk_tup (xs := xs)).stops Ha (SqT.keep ok k h1)
    rw [r.length] at this
    exact this
  · have hi : i < ds.length := (List.getElem?_eq_some_iff.mp hd).1
    obtain ⟨e, hx⟩ := (walk_tup (xs := xs)).yields i Ha x Hc (by rw [r.length]; exact hi) (SqT.keep ok k h1) y
    subst e
    obtain ⟨v, hv, rv⟩ := r.get hd
    rw [hx] at hv; cases hv
    exact ⟨Ex.refl _, Rep.keep2 ok k hb _ _ rv⟩
theorem iter_lst {A : Av} {H : Hp} {a : Addr} {xs : List V} {ds : List PyData} {P : Hp → Prop} (ok : AvOk A H) (hP : ∀ Ha, P Ha → SqL K Ha a xs ∧ Kp A H Ha) (r : RepL K H A ds xs) : Iter K A (Itl K a) H ds P := by
  refine ⟨fun i Ha hi k => ?_, fun Ha k => ?_, fun B i x Ha Hc d hb hd k y => ?_⟩
  · exact (walk_list (xs := xs)).goes i Ha (by rw [r.length]; exact hi) (hP Ha k).1
  · have := (walk_list (xs := xs)).stops Ha (hP Ha k).1
    rw [r.length] at this
    exact this
  · have hi : i < ds.length := (List.getElem?_eq_some_iff.mp hd).1
    obtain ⟨e, hx⟩ := (walk_list (xs := xs)).yields i Ha x Hc (by rw [r.length]; exact hi) (hP Ha k).1 y
    subst e
    obtain ⟨v, hv, rv⟩ := r.get hd
    rw [hx] at hv; cases hv
    exact ⟨Ex.refl _, Rep.keep2 ok (hP _ k).2 hb _ _ rv⟩
theorem iter_str {A : Av} {H : Hp} {z : Str} {P : Hp → Prop} : Iter K A (Its z) H (z.cps.toList.map fun c => .str ⟨#[c]⟩) P := by
  refine ⟨fun i Ha hi k => ?_, fun Ha k => ?_, fun B i x Ha Hc d hb hd k y => ?_⟩
  · exact walk_str.goes i Ha (by simpa using hi) trivial
  · have := (walk_str (z := z)).stops Ha trivial
    simpa using this
  · have hi : i < z.cps.size := by
      have := (List.getElem?_eq_some_iff.mp hd).1
      simpa using this
    obtain ⟨e, c, hc, hx⟩ := (walk_str (z := z)).yields i Ha x Hc hi trivial y
    subst e
    subst hx
    refine ⟨Ex.refl _, ?_⟩
    rw [List.getElem?_map] at hd
    have : z.cps.toList[i]? = some c := by simpa using hc
    rw [this] at hd
    cases hd
    exact rep_str
theorem ei_seq {tl : TE} {f : Rho → Option PyData} (h : EF K tl f) : EI K (iSeq K tl) (fun ρ => (f ρ).bind walkD) := fun A ρ σ H ds rs e H1 e1 R k => by
  obtain ⟨d, hd, e⟩ := bind_some' e
  refine h A ρ σ H d rs hd H1 e1 _ fun v H2 e2 rv => ?_
  have ok := (rs.av.mono e1).mono e2
  unfold walkD at e
  split at e
  · cases e
    simp only [Rep] at rv
    obtain ⟨a, xs, rfl, na, h1, r1⟩ := rv
    exact .inl ⟨a, rfl, ⟨xs, SqL.of h1⟩, k _ H2 e2 (iter_lst ok (fun Ha kp => ⟨SqL.of (kp a _ h1 na), kp⟩) r1)⟩
  · cases e
    simp only [Rep] at rv
    obtain ⟨a, xs, rfl, ⟨h1, _⟩, r1⟩ := rv
    exact .inr (.inl ⟨a, rfl, ⟨xs, h1⟩, k _ H2 e2 (iter_tup ok h1 r1)⟩)
  · cases e
    simp only [Rep] at rv
    subst rv
    exact .inr (.inr ⟨_, rfl, k _ H2 e2 iter_str⟩)
  · cases e
theorem eib_seq {tl : TE} {f : Rho → Option PyData} (h : EB K tl f) : EIb K (iSeq K tl) (fun ρ => (f ρ).bind walkD) := fun A ρ σ H ds rs e H1 e1 R k => by
  obtain ⟨d, hd, e⟩ := bind_some' e
  refine h A ρ σ H d rs hd H1 e1 _ fun v H2 e2 rv => ?_
  have ok := (rs.av.mono e1).mono e2
  unfold walkD at e
  split at e
  · cases e
    obtain ⟨a, xs, rfl, h1, r1⟩ := rv.lst
    exact .inl ⟨a, rfl, ⟨xs, SqL.of h1⟩, k _ H2 e2 (iter_lst ok (fun Ha x => ⟨SqL.of (x _ _ h1), Kp.ofEx x⟩) r1)⟩
  · cases e
    obtain ⟨a, xs, rfl, h1, r1⟩ := rv.tup
    exact .inr (.inl ⟨a, rfl, ⟨xs, h1⟩, k _ H2 e2 ((iter_tup ok h1 r1).imp fun _ x => Kp.ofEx x)⟩)
  · cases e
    cases rv.str
    exact .inr (.inr ⟨_, rfl, k _ H2 e2 iter_str⟩)
  · cases e
/-- range -/
def rngD (lo hi : Int) : List PyData := (List.range (hi - lo).toNat).map fun (i : Nat) => .int (lo + (i : Int))
def rngOk (i : Int) : Bool := decide (-(2 ^ 62) ≤ i ∧ i < 2 ^ 62)
theorem iter_range {A : Av} {H : Hp} {lo hi : Int} {P : Hp → Prop} : Iter K A (Itr lo (hi - lo).toNat) H (rngD lo hi) P := by
  have hl : (rngD lo hi).length = (hi - lo).toNat := by unfold rngD; simp
  refine ⟨fun i Ha hi' k => ?_, fun Ha k => ?_, fun B i x Ha Hc d hb hd k y => ?_⟩
  · exact walk_range.goes i Ha (by rw [← hl]; exact hi') trivial
  · rw [hl]
    exact (walk_range (lo := lo)).stops Ha trivial
  · have hi' : i < (hi - lo).toNat := by rw [← hl]; exact (List.getElem?_eq_some_iff.mp hd).1
    obtain ⟨e, hx⟩ := (walk_range (lo := lo)).yields i Ha x Hc hi' trivial y
    subst e
    subst hx
    refine ⟨Ex.refl _, ?_⟩
    unfold rngD at hd
    rw [List.getElem?_map, List.getElem?_range hi'] at hd
    cases hd
    exact rep_int
def rng1D : List PyData → Option (List PyData)
  | [.int n] => if rngOk n then some (rngD 0 n) else none
  | _ => none
def rng2D : List PyData → Option (List PyData)
  | [.int m, .int n] => if rngOk m && rngOk n then some (rngD m n) else none
  | _ => none
theorem ei_rng1 {ta : TA} {f : Rho → Option (List PyData)} (h : EA K ta f) : EI K (iRng1 ta) (fun ρ => (f ρ).bind rng1D) := fun A ρ σ H ds rs e H1 e1 R k => by
  obtain ⟨d, hd, e⟩ := bind_some' e
  unfold rng1D at e
  refine h A ρ σ H d rs hd H1 e1 _ fun vs H2 e2 rv => ?_
  split at e
  · split at e
    · rename_i hr
      cases e
      obtain ⟨b1, b2⟩ := of_decide_eq_true hr
      simp only [RepL, Rep] at rv
      obtain ⟨y, ys, rfl, rfl, rfl⟩ := rv
      refine ⟨_, rfl, b1, b2, k _ H2 e2 ?_⟩
      have := iter_range (K := K) (A := A) (H := H2) (lo := 0) (hi := ‹Int›) (P := Kp A H2)
      simpa using this
    · cases e
  · cases e
theorem ei_rng2 {ta : TA} {f : Rho → Option (List PyData)} (h : EA K ta f) : EI K (iRng2 ta) (fun ρ => (f ρ).bind rng2D) := fun A ρ σ H ds rs e H1 e1 R k => by
  obtain ⟨d, hd, e⟩ := bind_some' e
  unfold rng2D at e
  refine h A ρ σ H d rs hd H1 e1 _ fun vs H2 e2 rv => ?_
  split at e
  · split at e
    · rename_i hr
      cases e
      obtain ⟨hr1, hr2⟩ := Bool.and_eq_true_iff.mp hr
      obtain ⟨b1, b2⟩ := of_decide_eq_true hr1
      obtain ⟨b3, b4⟩ := of_decide_eq_true hr2
      simp only [RepL, Rep] at rv
      obtain ⟨y, ys, rfl, rfl, y', ys', rfl, rfl, rfl⟩ := rv
      exact ⟨_, _, rfl, ⟨b1, b2, b3, b4⟩, k _ H2 e2 iter_range⟩
    · cases e
  · cases e
end
end Sv

/-! enumerate of a tuple, walked. -/
namespace Sv
open PySem L2 Evl
open Sem (wp)
open AutoSeq1 (wpAny_loadPart')

theorem meets_enum_newT (l : Addr) (items : Array Value) (n : Nat) (dct : Option Addr) (sl : Array (Option Value)) :
    Meets (Builtin.«enumerate.__new__» ⟨[.type "enumerate", .ref l], []⟩) (fun _ R s => s.heap.get? l = some { cls := .type "tuple", dict := dct, data := .seq items n, slots := sl } ∧
      R (.ok (.ret (.ref (s.heap.push { cls := .type "tuple_iterator", data := .fields #[.ref l, .int 0 0] }).objs.size)))
        { s with heap := (s.heap.push { cls := .type "tuple_iterator", data := .fields #[.ref l, .int 0 0] }).push { cls := .type "enumerate", data := .fields #[.none, .bool false, .ref s.heap.objs.size, rawInt 0, .none, .none] } }) :=
  .of_wp fun prog w A R s h => by
    obtain ⟨hp, g, d, tk, os⟩ := s; obtain ⟨hl, h⟩ := h
    have hsub := sub_enumerate
    have hL : Heap.IsTuple (Shared.heap ⟨hp, g, d, tk, os⟩) l items := ⟨_, hl, rfl, n, rfl⟩
    wp_walk using wpAny_loadPart' hl
    refine wpAny_stack_any fun st => wpAny_pure ?_
    split
    · rename_i c _ _ _ _ _
      cases (c == Value.type "enumerate")
      · wp_walk using wpAny_loadPart' hl, wpAny_pyIter_tuple hL
        exact ⟨_, rfl, h⟩
      · wp_walk using wpAny_loadPart' hl, wpAny_pyIter_tuple hL
        exact ⟨_, rfl, h⟩
    · wp_walk using wpAny_loadPart' hl, wpAny_pyIter_tuple hL
      exact ⟨_, rfl, h⟩
section
variable {prog : Program} {w : World} {A : Around} {E : Value → Shared → Prop} {s : Shared}
theorem call_enum_tuple {l : Addr} {items : Array Value} {Q : Value → Shared → Prop} (hL : s.heap.IsTuple l items)
    (h : ∀ h', IsEnum h' (s.heap.objs.size + 1) s.heap.objs.size 0 .none → h'.IsTupleIter s.heap.objs.size l 0 → h'.objs.size = s.heap.objs.size + 2 →
      (∀ b o, s.heap.get? b = some o → h'.get? b = some o) → Q (.ref (s.heap.objs.size + 1)) { s with heap := h' }) :
    wpAny (model prog w) A (call (.type "enumerate") [.ref l]) Q E s := by
  obtain ⟨⟨c, dct, dt, sl⟩, hl, hc, n, hd⟩ := hL
  replace hc : c = .type "tuple" := hc
  replace hd : dt = .seq items n := hd
  subst hc hd
  refine callType_new F.called_enumerate (by decide) (F.typeCall_enumerate_1 _) (F.newCall_enumerate_1 _) (fun obj => F.args_object_init_2 obj _) F.entry_enumerate_new
    (meets_enum_newT l items n dct sl) ⟨hl, ?_⟩
  have hz : (s.heap.push { cls := .type "tuple_iterator", data := .fields #[.ref l, .int 0 0] }).objs.size = s.heap.objs.size + 1 := Heap.size_push ..
  show _ ∧ _
  rw [hz]
  have he : IsEnum ((s.heap.push { cls := .type "tuple_iterator", data := .fields #[.ref l, .int 0 0] }).push
      { cls := .type "enumerate", data := .fields #[.none, .bool false, .ref s.heap.objs.size, rawInt 0, .none, .none] }) (s.heap.objs.size + 1) s.heap.objs.size 0 .none := by
    have := Heap.get?_push_size (s.heap.push { cls := .type "tuple_iterator", data := .fields #[.ref l, .int 0 0] })
      (o := { cls := .type "enumerate", data := .fields #[.none, .bool false, .ref s.heap.objs.size, rawInt 0, .none, .none] }) rfl
    rw [hz] at this; exact this
  refine ⟨⟨_, he, rfl⟩, h _ he ⟨_, Heap.get?_push_of_some _ (Heap.get?_push_size _ rfl), rfl, rfl⟩ (by rw [Heap.size_push, hz]) fun b o x => Heap.get?_push_of_some _ (Heap.get?_push_of_some _ x)⟩
end
/-- the tuple at a, each item in a new pair -/
def Iet (K : Fg) (a : Addr) : It :=
  ⟨fun i H => ∃ (xs : List V) (x : V), SqT K H a xs ∧ xs[i]? = some x, fun i H v H' => ∃ T x o, v = .ref T ∧ H T = none ∧ Obj.dict o = none ∧ H' = upd H T (.frz o (.tup [.int (i : Nat), x])) ∧ ∀ xs, SqT K H a xs → xs[i]? = some x, fun i H => ∃ xs : List V, SqT K H a xs ∧ xs.length = i⟩
theorem turn_enumT {P : Program} {w : World} {K : Fg} {elts : List Expr} {kk : Nat} {tpos : Pos} (a e it : Addr) (hai : a ≠ it) (hae : a ≠ e) :
    Turn P w K (.Tuple elts kk tpos) (Iet K a) [e, it] e (fun i h => (∃ old, IsEnum h e it ((i : Nat) : Int) old) ∧ h.IsTupleIter it a i ∧ e ≠ it) where
  mem := by simp
  obj := fun i h st b hb => by
    obtain ⟨⟨old, he⟩, ⟨o, ho, hc, hd⟩, _⟩ := st
    have e' : b = e ∨ b = it := by simpa using hb
    rcases e' with z | z
    · rw [z]; exact ⟨_, he, fun v q => nomatch q⟩
    · rw [z]; exact ⟨o, ho, fun v q => by rw [hd] at q; cases q⟩
  keep := fun i h h' st k => let ⟨⟨old, he⟩, hi, hne⟩ := st; ⟨⟨old, k e (by simp) _ he⟩, hi.at fun o q => k it (by simp) o q, hne⟩
  item := by
    intro X hP hw hK hc i pins s σ H E I hf st hg
    subst hP hw hK
    obtain ⟨⟨old, he⟩, hit, hne⟩ := st
    obtain ⟨xs, x, hq, hx⟩ := hg
    obtain ⟨its, rv, p, hz⟩ := I.tuple hq
    obtain ⟨u, hu, ru⟩ := rv.get hx
    have hel : e < s.heap.objs.size := Heap.lt_size he
    have hil : it < s.heap.objs.size := by obtain ⟨_, q, _⟩ := hit; exact Heap.lt_size q
    have hil' : i < its.toArray.size := by
      have := (List.getElem?_eq_some_iff.mp hu).1
      simpa using this
    refine wpAny_pyNext_enum_itemD (Draws.tuple (A := X.A.in1) (I.ok.hd hc) it a hai its.toArray) he ⟨hit, p⟩ hil' hne (by simp [hne, Ne.symm hae]) fun x' h' tk hx' ho hst' hT hsz hk => ?_
    have exu : x' = u := by
      have : its.toArray[i]? = some u := by simpa using hu
      rw [this] at hx'
      exact (Option.some.inj hx').symm
    subst exu
    refine ⟨_, rfl, wpAny_letOwnedTupleGo_enum (s := { s with heap := h', toks := tk + 1 }) ho fun h'' he' sb => ?_⟩
    have hT2 : h''.get? s.heap.objs.size = some { cls := .type "tuple", data := .seq #[.int i tk, x'] } := (sb.2 _ (Nat.ne_of_gt hel)).trans hT
    have new : ObjOk X.prog X.w (upd H s.heap.objs.size (.frz { cls := .type "tuple", data := .seq #[.int i tk, x'] } (.tup [.int (i : Nat), x]))) h'' s.heap.objs.size (.frz { cls := .type "tuple", data := .seq #[.int i tk, x'] } (.tup [.int (i : Nat), x])) :=
      ⟨hT2, by show 2 ≤ sizeLine; decide, [.int i tk, x'], .cons ⟨_, rfl⟩ (.cons ru .nil), ⟨_, hT2, rfl, _, rfl⟩⟩
    have I1 : Inv X pins σ (upd H s.heap.objs.size (.frz { cls := .type "tuple", data := .seq #[.int i tk, x'] } (.tup [.int (i : Nat), x]))) { s with heap := h'', toks := tk + 1 } :=
      I.turnedNew (ch := [e, it]) (fun b ob hb q => (sb.2 b (fun z => hb (by simp [z]))).trans (hk b ob (fun z => hb (by simp [z])) (fun z => hb (by simp [z])) q)) hf (Nat.le_refl _) new
    refine ⟨.ref s.heap.objs.size, _, I1, rfl, ⟨_, x, _, rfl, I.hok.fresh (Nat.le_refl _), rfl, rfl, fun ys hy => by rw [I.tuple_inj hy hq]; exact hx⟩, ⟨⟨x', ?_⟩, hst'.1.at fun o q => (sb.2 it (Ne.symm hne)).trans q, hne⟩, fun b hb => ?_⟩
    · have e1 : ((i + 1 : Nat) : Int) = (i : Int) + 1 := by omega
      rw [e1]; exact he'
    · have hb' : b < s.heap.objs.size := by
        have e' : b = e ∨ b = it := by simpa using hb
        rcases e' with z | z
        · rw [z]; exact hel
        · rw [z]; exact hil
      rw [upd_ne (Nat.ne_of_lt hb')]
      exact (hf b hb).1
  done := by
    intro X hP hw hK hc i pins s σ H E I hf st hg
    subst hP hw hK
    obtain ⟨⟨old, he⟩, hit, hne⟩ := st
    obtain ⟨xs, hq, hx⟩ := hg
    obtain ⟨its, rv, p, hz⟩ := I.tuple hq
    obtain ⟨f0, f1, f2, f3, f4, f5⟩ := hf it (by simp)
    have hl := rv.length
    have hs : its.toArray.size = i := by rw [List.size_toArray, ← hl, hx]
    exact wpAny_pyNext_enum_endD (Draws.tuple (A := X.A.in1) (I.ok.hd hc) it a hai its.toArray) he (by rw [hs]; exact ⟨hit, p⟩) fun h' eb => ⟨rfl, I.turned (t' := s.toks) (fun b o hb q => eb b o hb q) f0 f1 f3 f4 f5⟩
  self := fun A i s Q E st h => let ⟨⟨_, he⟩, _⟩ := st; wpAny_pyIter_enum he h
/-- enumerate of a list or tuple -/
def iEnumA (K : Fg) (ta : TA) : TI := fun σ H R => ta σ H fun vs H1 => ∃ a xs, vs = [.ref a] ∧ ((SqL K H1 a xs ∧ R (Ite K a) H1) ∨ (SqT K H1 a xs ∧ R (Iet K a) H1))
theorem pi_enumA {X : Cx} {e : Expr} {ta : TA} {p pos tpos : Pos} {elts : List Expr} {kk : Nat} (hg : Gl X "enumerate") (hm : X.mg "enumerate" = none) (ha : PA X [e] ta) (hs : starEach [e] X.env = [(false, eval e X.env)] := by rfl) :
    PI X (.Tuple elts kk tpos) (.Call (.Name "enumerate" p) [e] [] pos) (iEnumA X.K ta) := by
  refine ⟨fun pins s σ H R I h => ?_⟩
  refine PyProof.Rows.Call_ (ld_blt I hg hm PyProof.Rows.boot_enumerate (PyProof.Rows.callWith_type1 (thn (ha.run pos pins s σ H _ I h) fun us s1 ⟨vs, H1, I1, r1, q1⟩ => ?_) hs rfl))
  obtain ⟨a, xs, ex, q⟩ := q1
  subst ex
  cases r1 with
  | cons r rr =>
    cases rr
    cases r
    rcases q with ⟨hq, q⟩ | ⟨hq, q⟩
    · obtain ⟨its, rv, p', hz⟩ := I1.list hq
      refine call_enumerate_list p'.isList fun h' he hit hsz hk => wpAny_pyIter_enum he ?_
      have I2 : Inv X pins σ H1 { s1 with heap := h' } := I1.kept (t' := s1.toks) hk
      refine ⟨s1.heap.objs.size + 1, [s1.heap.objs.size + 1, s1.heap.objs.size], _, _, H1, rfl, I2, turn_enum a (s1.heap.objs.size + 1) s1.heap.objs.size, ⟨⟨.none, he⟩, hit, Nat.succ_ne_self _⟩, fun b hb => ?_, q⟩
      have e' : b = s1.heap.objs.size + 1 ∨ b = s1.heap.objs.size := by simpa using hb
      have hle : s1.heap.objs.size ≤ b := by
        rcases e' with z | z
        · rw [z]; exact Nat.le_add_right _ _
        · rw [z]; exact Nat.le_refl _
      exact I1.fpOk hle (I1.hok.fresh hle)
    · obtain ⟨its, rv, p', hz⟩ := I1.tuple hq
      have hal : a < s1.heap.objs.size := p'.lt
      refine call_enum_tuple (show s1.heap.IsTuple a its.toArray from p') fun h' he hit hsz hk => wpAny_pyIter_enum he ?_
      have I2 : Inv X pins σ H1 { s1 with heap := h' } := I1.kept (t' := s1.toks) hk
      refine ⟨s1.heap.objs.size + 1, [s1.heap.objs.size + 1, s1.heap.objs.size], _, _, H1, rfl, I2, turn_enumT a (s1.heap.objs.size + 1) s1.heap.objs.size (Nat.ne_of_lt hal) (Nat.ne_of_lt (Nat.lt_succ_of_lt hal)), ⟨⟨.none, he⟩, hit, Nat.succ_ne_self _⟩, fun b hb => ?_, q⟩
      have e' : b = s1.heap.objs.size + 1 ∨ b = s1.heap.objs.size := by simpa using hb
      have hle : s1.heap.objs.size ≤ b := by
        rcases e' with z | z
        · rw [z]; exact Nat.le_add_right _ _
        · rw [z]; exact Nat.le_refl _
      exact I1.fpOk hle (I1.hok.fresh hle)
section
variable {K : Fg}
def enumFrom (n : Nat) : List PyData → List PyData
  | [] => []
  | d :: ds => .tuple [.int (n : Int), d] :: enumFrom (n + 1) ds
theorem enumFrom_length : ∀ (ds : List PyData) (n : Nat), (enumFrom n ds).length = ds.length
  | [], _ => rfl
  | _ :: ds, n => by simp [enumFrom, enumFrom_length ds]
theorem enumFrom_get : ∀ (ds : List PyData) (n i : Nat) (e : PyData), (enumFrom n ds)[i]? = some e → ∃ d, ds[i]? = some d ∧ e = .tuple [.int ((n + i : Nat) : Int), d]
  | [], _, i, e, h => by simp [enumFrom] at h
  | d :: ds, n, 0, e, h => by
    simp [enumFrom] at h
    exact ⟨d, rfl, h.symm⟩
  | d :: ds, n, i + 1, e, h => by
    obtain ⟨d', h1, h2⟩ := enumFrom_get ds (n + 1) i e (by simpa [enumFrom] using h)
    refine ⟨d', by simpa using h1, ?_⟩
    rw [h2]
    congr 3
    omega
theorem yield_pair {A B : Av} {H Ha Hc : Hp} {ds : List PyData} {xs : List V} {i T : Nat} {x : V} {d e : PyData} {u : HO} (ok : AvOk A H) (k : Kp A H Ha) (r : RepL K H A ds xs) (hb : ∀ a, B a → A a ∨ H a = none) (hn : Ha T = none) (hx : xs[i]? = some x) (hd : ds[i]? = some d)
    (hc : Hc = upd Ha T u) (hu : SqT K (upd Ha T u) T [.int (i : Nat), x] ∧ (keyB d = true ∨ Plain K (upd Ha T u) T)) (he : e = .tuple [.int ((i : Nat) : Int), d]) : Ex Ha Hc ∧ Rep K Hc B e (.ref T) := by
  subst hc he
  refine ⟨Ex.new hn, ?_⟩
  obtain ⟨v, hv, rv⟩ := r.get hd
  rw [hx] at hv; cases hv
  simp only [Rep]
  refine ⟨T, _, rfl, ⟨hu.1, hu.2.imp (fun h => by simp only [List.all_cons, List.all_nil, h]; rfl) id⟩, RepL.cons rep_int (RepL.one (Rep.keep2 ok ?_ hb _ _ rv))⟩
  intro b o q n
  have := k b o q n
  rw [upd_ne (ne_of_none this hn)]
  exact this
def enumD : PyData → Option (List PyData)
  | .tuple ds => some (enumFrom 0 ds)
  | .list ds => if ds.all keyB then some (enumFrom 0 ds) else none
  | _ => none
theorem ei_enum {ta : TE} {f : Rho → Option PyData} (h : EF K ta f) : EI K (iEnumA K (tCons ta tNil)) (fun ρ => (f ρ).bind enumD) := fun A ρ σ H es rs e H1 e1 R k => by
  obtain ⟨d, hd, e⟩ := bind_some' e
  refine h A ρ σ H d rs hd H1 e1 _ fun v H2 e2 rv => ?_
  have ok := (rs.av.mono e1).mono e2
  unfold enumD at e
  split at e
  · cases e
    simp only [Rep] at rv
    obtain ⟨a, xs, rfl, ⟨h1, _⟩, r1⟩ := rv
    refine ⟨a, xs, rfl, .inr ⟨h1, k _ H2 e2 ⟨fun i Ha hl kp => ?_, fun Ha kp => ?_, fun B i x Ha Hc e hb he kp y => ?_⟩⟩⟩
    · rw [enumFrom_length, ← r1.length] at hl
      exact ⟨xs, xs[i], SqT.keep ok kp h1, by simp [hl]⟩
    · rw [enumFrom_length, ← r1.length]
      exact ⟨xs, SqT.keep ok kp h1, rfl⟩
    · obtain ⟨d', hd', ee⟩ := enumFrom_get _ _ _ _ he
      rw [Nat.zero_add] at ee
      obtain ⟨T, x1, o, rfl, hT, ho, hc, hx1⟩ := y
      exact yield_pair ok kp r1 hb hT (hx1 xs (SqT.keep ok kp h1)) hd' hc ⟨.inl (.inr ⟨o, upd_same⟩), .inr (.inl ⟨o, _, upd_same, ho⟩)⟩ ee
  · split at e
    · rename_i hkb
      cases e
      simp only [Rep] at rv
      obtain ⟨a, xs, rfl, na, h1, r1⟩ := rv
      refine ⟨a, xs, rfl, .inl ⟨SqL.of h1, k _ H2 e2 ⟨fun i Ha hl kp => ?_, fun Ha kp => ?_, fun B i x Ha Hc e hb he kp y => ?_⟩⟩⟩
      · rw [enumFrom_length, ← r1.length] at hl
        exact walk_enum.goes i Ha hl (SqL.of (kp a _ h1 na))
      · rw [enumFrom_length, ← r1.length]
        exact walk_enum.stops Ha (SqL.of (kp a _ h1 na))
      · obtain ⟨d', hd', ee⟩ := enumFrom_get _ _ _ _ he
        rw [Nat.zero_add] at ee
        have hl : i < xs.length := by rw [r1.length]; exact (List.getElem?_eq_some_iff.mp hd').1
        obtain ⟨T, x1, y1, rfl, hT, hc, hx1, hy1⟩ := (walk_enum (K := K) (xs := xs)).yields i Ha x Hc hl (SqL.of (kp a _ h1 na)) y
        cases hx1
        exact yield_pair ok kp r1 hb hT hy1 hd' hc ⟨SqT.of upd_same, .inl (List.all_eq_true.mp hkb d' (List.mem_of_getElem? hd'))⟩ ee
    · cases e
  · cases e
end
end Sv

/-! Defs called by their promises; built-in names. -/
namespace Sv
open PySem L2 Evl

/-- the built-in names that no module's name hides -/
structure BI (mg : Str → Option Value) : Prop where
  all : mg "all" = none
  any : mg "any" = none
  bool : mg "bool" = none
  dict : mg "dict" = none
  enumerate : mg "enumerate" = none
  int : mg "int" = none
  isinstance : mg "isinstance" = none
  len : mg "len" = none
  list : mg "list" = none
  max : mg "max" = none
  min : mg "min" = none
  range : mg "range" = none
  repr : mg "repr" = none
  set : mg "set" = none
  sorted : mg "sorted" = none
  str : mg "str" = none
  sum : mg "sum" = none
  tuple : mg "tuple" = none
  zip : mg "zip" = none

structure CalS (P : Program) (w : World) (K : Fg) (mg : Str → Option Value) (base : Heap) (k : Nat) (x : Str) (ps : List Str) (sp : Sp) : Prop where
  ex : ∃ (f : Addr) (fd : FuncData), FnOk P w K mg base CX0 k f fd ps sp ∧ mg x = some (.ref f) ∧ PySem.W.keepIn K (.ref f) = true ∧ Binds K fd ps []
abbrev Cal (P : Program) (w : World) (K : Fg) (mg : Str → Option Value) (base : Heap) (k : Nat) (x : Str) (ps : List Str) (m : List PyData → Option PyData) : Prop := CalS P w K mg base k x ps (spD K m)
theorem CalS.mono {P : Program} {w : World} {K : Fg} {mg : Str → Option Value} {base : Heap} {j k : Nat} {x : Str} {ps : List Str} {sp : Sp} (c : CalS P w K mg base j x ps sp) (h : j ≤ k) : CalS P w K mg base k x ps sp := by
  obtain ⟨f, fd, F, r⟩ := c.ex
  exact ⟨f, fd, F.mono h, r⟩
theorem pe_cal {X : Cx} {k : Nat} {x : Str} {ps : List Str} {sp : Sp} {p pos : Pos} {e : Expr} {es : List Expr} {t : TA} (c : CalS X.prog X.w X.K X.mg X.base k x ps sp) (hr : Room k X.A) (hg : Gl X x) (ha : PA X (e :: es) t)
    (hd : (x == ("__debug__" : Str)) = false := by decide)
    (hs : starEach (e :: es) X.env = (false, eval e X.env) :: starEach es X.env := by rfl) (hpl : ((backTo pos (starEach es X.env)).any fun x => x.1) = false := by rfl) :
    PE X (.Call (.Name x p) (e :: es) [] pos) (tCall sp [] E0 t) := by
  obtain ⟨f, fd, F, hm, hk, hb⟩ := c.ex
  exact pe_call F hr hg hm hk hb .nil pass0 ha hd hs hpl
/-- a def of the text -/
theorem cal_of {P : Program} {w : World} {K : Fg} {mg : Str → Option Value} {base : Heap} {k : Nat} {x : Str} {st : Stmt} {f : Addr} {fd : FuncData} {ps : List Str} {sp : Sp} (F : Fun K x x st f fd) (hm : mg x = some (.ref f)) (b : Binds K fd ps []) (G : FnOk P w K mg base CX0 k f fd ps sp) :
    CalS P w K mg base k x ps sp := ⟨f, fd, G, hm, F.kp, b⟩
theorem spD_len {K : Fg} {m : List PyData → Option PyData} {n : Nat} (h : ∀ ds d, m ds = some d → ds.length = n) : ∀ vs H Q E, spD K m vs H Q E → vs.length = n := fun vs H Q E ⟨O, ds, d, _, r, e, _⟩ => by rw [r.length]; exact h ds d e
/-- a body's residue, where the number of arguments is right -/
def runD (n k : Nat) (fb : Rho → Option Res) (ds : List PyData) : Option PyData := if ds.length = k then retD (fb (startR n ds)) else none
theorem runD_len {n k : Nat} {fb : Rho → Option Res} : ∀ ds d, runD n k fb ds = some d → ds.length = k := fun ds d h => by
  unfold runD at h
  split at h
  · assumption
  · cases h
theorem runD_ret {n k : Nat} {fb : Rho → Option Res} : ∀ ds d, runD n k fb ds = some d → retD (fb (startR n ds)) = some d := fun ds d h => by
  unfold runD at h
  split at h
  · exact h
  · cases h

/-! ### the script's cells -/
def cellN (ns : List Int) (k : Int) : Int := ns.getD k.toNat 0
def spCell (K : Fg) : Sp := fun vs H Q _ => ∃ a ns k, vs = [.ref a, .int k] ∧ SqL K H a (ns.map V.int) ∧ 0 ≤ k ∧ ∀ H', Ex H H' → Q (.int (cellN ns k)) H'
def mixD (ns : List Int) (k : Int) : Int := (cellN ns k + 7919 * k + 1) * 48271 % 2147483647
def mixN (ns : List Int) (k : Int) : Int := (mixD ns k * mixD ns k + 7 * mixD ns k + k) % 2147483629
def spMix (K : Fg) : Sp := fun vs H Q _ => ∃ a ns k, vs = [.ref a, .int k] ∧ SqL K H a (ns.map V.int) ∧ 0 ≤ k ∧ ∀ H', Ex H H' → Q (.int (mixN ns k)) H'
theorem mixN_lo (ns : List Int) (k : Int) : 0 ≤ mixN ns k := Int.emod_nonneg _ (by decide)
theorem mixN_hi (ns : List Int) (k : Int) : mixN ns k < 2147483629 := Int.emod_lt_of_pos _ (by decide)
def intsD : List PyData → Option (List Int)
  | [] => some []
  | .int i :: r => (intsD r).map (i :: ·)
  | _ :: _ => none
def scrOf (i : Nat) (ρ : Rho) : Option (List Int) := match ρ[i]? with
  | some (.scr ns) => some ns
  | some (.val (.list ds)) => intsD ds
  | _ => none
theorem intsD_rep {K : Fg} {H : Hp} {A : Av} : ∀ {ds : List PyData} {ns : List Int} {xs : List V}, intsD ds = some ns → RepL K H A ds xs → xs = ns.map V.int
  | [], ns, xs, e, r => by
    cases e
    simp only [RepL] at r
    exact r
  | .int i :: ds, ns, xs, e, r => by
    obtain ⟨ms, e1, rfl⟩ := map_some' (show (intsD ds).map (i :: ·) = some ns from e)
    simp only [RepL, Rep] at r
    obtain ⟨y, ys, rfl, rfl, r⟩ := r
    rw [intsD_rep e1 r]; rfl
  | .none :: ds, ns, xs, e, r => by cases e
  | .bool _ :: ds, ns, xs, e, r => by cases e
  | .str _ :: ds, ns, xs, e, r => by cases e
  | .list _ :: ds, ns, xs, e, r => by cases e
  | .tuple _ :: ds, ns, xs, e, r => by cases e
  | .dict _ :: ds, ns, xs, e, r => by cases e
theorem scr_at {K : Fg} {A : Av} {ρ : Rho} {σ : St} {H : Hp} {i : Nat} {ns : List Int} (rs : RS K A ρ σ H) (h : scrOf i ρ = some ns) : ∃ a, σ[i]? = some (some (.ref a)) ∧ SqL K H a (ns.map V.int) := by
  unfold scrOf at h
  split at h
  · rename_i q
    cases h
    obtain ⟨a, h1, h2⟩ := rs.at' i _ q
    exact ⟨a, h1, h2.sq⟩
  · rename_i ds q
    obtain ⟨v, h1, h2⟩ := rs.at' i _ q
    simp only [Rep] at h2
    obtain ⟨a, xs, rfl, _, h3, h4⟩ := h2
    exact ⟨a, h1, by rw [← intsD_rep h h4]; exact SqL.of h3⟩
  · cases h
def mixR (ns : List Int) (k : Int) : Option PyData := if 0 ≤ k then some (.int (mixN ns k)) else none
theorem ef_mix {K : Fg} {E : XK} {i : Nat} {te : TE} {fe : Rho → Option PyData} (h : EF K te fe) : EF K (tCall (spMix K) [] E (tCons (tVar i) (tCons te tNil))) (fun ρ => bnd2 (scrOf i ρ) ((fe ρ).bind asI) mixR) := fun A ρ σ H d rs e H1 e1 Q q => by
  obtain ⟨ns, k, hs, hk, e⟩ := bnd2_some e
  obtain ⟨x, hx, hk⟩ := bind_some' hk
  cases asI_some hk
  unfold mixR at e
  split at e
  · rename_i h0
    cases e
    obtain ⟨a, ha, hq⟩ := scr_at rs hs
    refine ⟨_, ha, h A ρ σ H _ rs hx H1 e1 _ fun v H2 e2 rv => ?_⟩
    simp only [Rep] at rv
    subst rv
    exact ⟨a, ns, k, rfl, ex_l (e1.trans e2) hq, h0, fun H' e' => q _ H' (e2.trans e') rep_int⟩
  · cases e
end Sv
namespace Sv
open PySem L2 Evl
theorem bt_len : bootBuiltins "len" = some (.builtin "len") := by decide +kernel
theorem bt_isinstance : bootBuiltins "isinstance" = some (.builtin "isinstance") := by decide +kernel
theorem bt_tuple : bootBuiltins "tuple" = some (.type "tuple") := by decide +kernel
theorem bt_list : bootBuiltins "list" = some (.type "list") := by decide +kernel
theorem bt_str : bootBuiltins "str" = some (.type "str") := by decide +kernel
theorem bt_int : bootBuiltins "int" = some (.type "int") := by decide +kernel
theorem bt_bool : bootBuiltins "bool" = some (.type "bool") := by decide +kernel
theorem bt_dict : bootBuiltins "dict" = some (.type "dict") := by decide +kernel
theorem bt_all : bootBuiltins "all" = some (.builtin "all") := by decide +kernel
theorem bt_any : bootBuiltins "any" = some (.builtin "any") := by decide +kernel
theorem bt_sorted : bootBuiltins "sorted" = some (.builtin "sorted") := by decide +kernel
theorem bt_sum : bootBuiltins "sum" = some (.builtin "sum") := by decide +kernel
theorem bt_max : bootBuiltins "max" = some (.builtin "max") := by decide +kernel
theorem bt_min : bootBuiltins "min" = some (.builtin "min") := by decide +kernel
theorem bt_repr : bootBuiltins "repr" = some (.builtin "repr") := by decide +kernel
theorem bt_set : bootBuiltins "set" = some (.type "set") := by decide +kernel
theorem un65 {A : Around} {k : Nat} (hr : Room k A) : A.units + 65 < cLine := by have := hr.un; omega
def notV (o : Option PyData) : Option PyData := (o.bind asB).map fun b => .bool (!b)
def partI (o : Option PyData) : Option (Option Int) := (o.bind asI).map some
def negD : PyData → Option PyData
  | .int i => some (.int (-i))
  | _ => none
theorem e1_neg {K : Fg} : E1 K (rU fun i => .int (-i)) negD := fun A H d x z ok rx h Q q => by
  unfold negD at h
  split at h
  · cases h
    cases rx.int
    exact ⟨_, rfl, q _ H (Ex.refl _) rep_int⟩
  · cases h
/-- a, b = x, y -/
def parR (i j : Nat) (ρ : Rho) (o : Option (List PyData)) : Option Res := o.bind fun ds => match ds with
  | [a, b] => some (.nx ((ρ.set i (.val a)).set j (.val b)))
  | _ => none
theorem es_par {K : Fg} {i j : Nat} {ta : TA} {fa : Rho → Option (List PyData)} (h : EA K ta fa) : ES K (tPar i j ta) (fun ρ => parR i j ρ (fa ρ)) := fun Hb O pn ow ρ σ H r D sr e fin => by
  obtain ⟨ds, hd, e⟩ := bind_some' e
  split at e
  · cases e
    refine h _ ρ σ H _ sr.rs hd H (Ex.refl _) _ fun vs H2 e2 rv => ?_
    simp only [RepL] at rv
    obtain ⟨x, xs, rfl, r1, y, ys, rfl, r2, rfl⟩ := rv
    refine ⟨x, y, rfl, fin ow _ H2 ?_⟩
    exact ((sr.mono e2).setV r1).setV (Rep.anti (Avd.set nov) _ _ r2)
  · cases e
/-- order of texts, too -/
def sLe (i j : Str) : Bool := decide (i.cps.toList ≤ j.cps.toList)
def op_mulA {X : Cx} : OpR X (binaryOp .Mult) (rI CMul fun i j => .int (i * j)) := op_mul
theorem e2_mulA {K : Fg} : E2 K (rI CMul fun i j => .int (i * j)) mulD := e2_mul
abbrev mulA := mulD
theorem op_leA {X : Cx} : OpR X (compareOp .LtE) rLe0 := op_le0
end Sv
namespace Sv
open PySem L2 Evl
/-! the rules by the written part's own name -/
section
variable {X : Cx} (K : Fg) (h : X.K = K)
include h
theorem op_addK : OpR X (binaryOp .Add) (rAddD K) := h ▸ op_addd
theorem op_eqK (hu : X.A.units + 64 < cLine) : OpR X (compareOp .Eq) (rEqA K) := h ▸ op_eqA hu
theorem op_neK (hu : X.A.units + 64 < cLine) : OpR X (compareOp .NotEq) (rNeA K) := h ▸ op_neA hu
theorem op_inK (hu : X.A.units + 65 < cLine) : OpR X (compareOp .In) (rInAny K false) := h ▸ op_inAny hu
theorem op_notInK (hu : X.A.units + 65 < cLine) : OpR X (compareOp .NotIn) (rInAny K true) := h ▸ op_notInAny hu
theorem ix_K : IxR X (rIxA K) := h ▸ ix_all
theorem sl_K : SlR X (rSlAll K) := h ▸ sl_all
theorem call_lenK : CallR X (.builtin "len") (rLenA K) := h ▸ call_lenA
theorem call_tupleK : CallR X (.type "tuple") (rTupleA K) := h ▸ call_tupleA
theorem call_listK : CallR X (.type "list") (rListS K) := h ▸ call_listA
theorem call_isK : CallR X (.builtin "isinstance") (rIsi K) := h ▸ call_isi
theorem call_allK (hc : X.calm = true) : CallR X (.builtin "all") (rAll K) := h ▸ cr_all hc
theorem call_anyK (hc : X.calm = true) : CallR X (.builtin "any") (rAny K) := h ▸ cr_any hc
theorem pi_seqK {tg l : Expr} {tl : TE} (hl : PE X l tl) : PI X tg l (iSeq K tl) := h ▸ pi_seq hl
theorem pi_enumK {e : Expr} {ta : TA} {p pos tpos : Pos} {elts : List Expr} {kk : Nat} (hg : Gl X "enumerate") (hm : X.mg "enumerate" = none) (ha : PA X [e] ta) (hs : starEach [e] X.env = [(false, eval e X.env)] := by rfl) :
    PI X (.Tuple elts kk tpos) (.Call (.Name "enumerate" p) [e] [] pos) (iEnumA K ta) := h ▸ pi_enumA hg hm ha hs
end
end Sv
namespace Sv
open PySem L2 Evl
/-- a law's promise -/
def spLaw (K : Fg) : Sp := fun vs H Q _ => ∃ a ns, vs = [.ref a] ∧ Scr K H a ns ∧ ns.length ≤ 63 ∧ ∀ H', Q (.bl true) H'
def scrR (n : Nat) (ns : List Int) : Rho := .scr ns :: List.replicate (n - 1) .no
theorem law_ok {K : Fg} {N : List Str} {t : TS} {fb : Rho → Option Res} {vs : List V} {H : Hp} {Q : VK} {E : XK} (h : ES K t fb) (hf : ∀ ns : List Int, ns.length ≤ 63 → retD (fb (scrR N.length ns)) = some (.bool true)) (sp : spLaw K vs H Q E) :
    t { nx := fun _ H' => Q .non H', rt := Q } (L2.start N vs) H := by
  obtain ⟨a, ns, rfl, hs, hl, q⟩ := sp
  have e' := hf ns hl
  have ob : AvOk (fun _ => False) H := fun _ z => z.elim
  have st : SR K H (fun _ => False) (fun _ => .non) (fun _ => []) (scrR N.length ns) (L2.start N [.ref a]) H := by
    refine start_ok (ss := [.scr ns]) (vs := [V.ref a]) ob rfl (fun s hs d e => ?_) fun i s v h1 h2 => ?_
    · rw [List.mem_singleton.mp hs] at e; cases e
    · cases i with
      | zero => cases h1; cases h2; exact ⟨a, rfl, hs⟩
      | succ i => simp at h1
  cases hr : fb (scrR N.length ns) with
  | none => rw [hr] at e'; cases e'
  | some r1 =>
    rw [hr] at e'
    refine h H _ _ _ _ _ H r1 _ st hr ?_
    cases r1 with
    | ret d' =>
      cases e'
      intro v H' x rv
      simp only [Rep] at rv
      subst rv
      exact q H'
    | rex d' ρ =>
      cases e'
      intro ow σ v H' x rv
      simp only [Rep] at rv
      subst rv
      exact q H'
    | nx ρ => cases e'
    | brk ρ => cases e'
    | ct ρ => cases e'
theorem only_scr {K : Fg} {H : Hp} {a : Addr} {ns : List Int} (ho : Only H) (hs : SqL K H a (ns.map V.int)) : Scr K H a ns := by
  rcases hs with (h | h) | h
  · rcases ho a with z | ⟨o, xs, z⟩
    · rw [z] at h; cases h
    · rw [z] at h; cases h
  · exact .inl h
  · exact .inr h
/-- nothing promised -/
theorem fn_no {P : Program} {w : World} {K : Fg} {mg : Str → Option Value} {base : Heap} {k : Nat} {f : Addr} {fd : FuncData} {ps : List Str} : FnOk P w K mg base CX0 k f fd ps (spD K fun _ => none) :=
  ⟨fun _ _ _ _ ⟨_, _, _, _, _, e, _⟩ => (nomatch e), fun _ _ _ _ _ _ _ _ _ _ _ _ _ ⟨_, _, _, _, _, e, _⟩ => (nomatch e)⟩
/-- a def that calls itself, so deep -/
def itm (F : (List PyData → Option PyData) → List PyData → Option PyData) : Nat → List PyData → Option PyData
  | 0 => fun _ => none
  | n + 1 => F (itm F n)
theorem rec_ok {P : Program} {w : World} {K : Fg} {mg : Str → Option Value} {base : Heap} {k₀ : Nat} {x : Str} {st : Stmt} {f : Addr} {fd : FuncData} {ps : List Str} {Fm : (List PyData → Option PyData) → List PyData → Option PyData} (F : Fun K x x st f fd) (hm : mg x = some (.ref f)) (b : Binds K fd ps [])
    (step : ∀ j m, k₀ ≤ j → Cal P w K mg base j x ps m → FnOk P w K mg base CX0 (j + 1) f fd ps (spD K (Fm m))) : ∀ n, Cal P w K mg base (k₀ + n) x ps (itm Fm n)
  | 0 => cal_of F hm b fn_no
  | n + 1 => cal_of F hm b (step (k₀ + n) _ (Nat.le_add_right _ _) (rec_ok F hm b step n))
end Sv
namespace Sv
open PySem L2 Evl
/-- a def as the top has left it -/
structure Dn (K : Fg) (x : Str) (st : Stmt) : Prop where
  ex : ∃ f fd, Fun K x x st f fd ∧ PySem.W.nsIn K mainGlobals x = some (some (.ref f))
theorem dn_mk {K : Fg} {x : Str} {st : Stmt} {f : Addr} {oc : Value} {od an : Option Addr} {osl : Array (Option Value)} {kV doc pm cdv ct : Value} (a : PySem.W.nsIn K mainGlobals x = some (some (.ref f)))
    (l : K.lookup f = some ⟨oc, od, .func (PySem.W.fnOf x x (defArgs st) (defBody st) (defScope st) .none kV doc pm an cdv ct), osl⟩) (c : PySem.W.codeIn K cdv x = true) (k : PySem.W.keepIn K (.ref f) = true) : Dn K x st :=
  ⟨f, _, fun_mk l c k, a⟩
/-- from a def's own walk to its calls -/
theorem Dn.cal {P : Program} {w : World} {K : Fg} {mg : Str → Option Value} {base h : Heap} {k : Nat} {x : Str} {st : Stmt} {ps : List Str} {sp : Sp} (d : Dn K x st) (X : K.In h) (G : h.Ns mainGlobals mg)
    (hb : ∀ (kV doc pm : Value) (an : Option Addr) (cdv ct : Value) (us : List Value), us.length = ps.length → bindArgs (PySem.W.fnOf x x (defArgs st) (defBody st) (defScope st) .none kV doc pm an cdv ct) ⟨us, []⟩ = pure (ps.zip us))
    (G' : ∀ f fd, Fun K x x st f fd → FnOk P w K mg base CX0 k f fd ps sp) : CalS P w K mg base k x ps sp := by
  obtain ⟨f, fd, F, a⟩ := d.ex
  exact cal_of F (PySem.W.mg_of X G a) (F.binds hb) (G' f fd F)
theorem Dn.recs {P : Program} {w : World} {K : Fg} {mg : Str → Option Value} {base h : Heap} {k₀ : Nat} {x : Str} {st : Stmt} {ps : List Str} {Fm : (List PyData → Option PyData) → List PyData → Option PyData} (d : Dn K x st) (X : K.In h) (G : h.Ns mainGlobals mg)
    (hb : ∀ (kV doc pm : Value) (an : Option Addr) (cdv ct : Value) (us : List Value), us.length = ps.length → bindArgs (PySem.W.fnOf x x (defArgs st) (defBody st) (defScope st) .none kV doc pm an cdv ct) ⟨us, []⟩ = pure (ps.zip us))
    (step : ∀ f fd j m, Fun K x x st f fd → k₀ ≤ j → Cal P w K mg base j x ps m → FnOk P w K mg base CX0 (j + 1) f fd ps (spD K (Fm m))) (n : Nat) : Cal P w K mg base (k₀ + n) x ps (itm Fm n) := by
  obtain ⟨f, fd, F, a⟩ := d.ex
  exact rec_ok F (PySem.W.mg_of X G a) (F.binds hb) (fun j m hj c => step f fd j m F hj c) n
structure BIk (K : Fg) : Prop where
  all : PySem.W.nsIn K mainGlobals "all" = some none
  any : PySem.W.nsIn K mainGlobals "any" = some none
  bool : PySem.W.nsIn K mainGlobals "bool" = some none
  dict : PySem.W.nsIn K mainGlobals "dict" = some none
  enumerate : PySem.W.nsIn K mainGlobals "enumerate" = some none
  int : PySem.W.nsIn K mainGlobals "int" = some none
  isinstance : PySem.W.nsIn K mainGlobals "isinstance" = some none
  len : PySem.W.nsIn K mainGlobals "len" = some none
  list : PySem.W.nsIn K mainGlobals "list" = some none
  max : PySem.W.nsIn K mainGlobals "max" = some none
  min : PySem.W.nsIn K mainGlobals "min" = some none
  range : PySem.W.nsIn K mainGlobals "range" = some none
  repr : PySem.W.nsIn K mainGlobals "repr" = some none
  set : PySem.W.nsIn K mainGlobals "set" = some none
  sorted : PySem.W.nsIn K mainGlobals "sorted" = some none
  str : PySem.W.nsIn K mainGlobals "str" = some none
  sum : PySem.W.nsIn K mainGlobals "sum" = some none
  tuple : PySem.W.nsIn K mainGlobals "tuple" = some none
  zip : PySem.W.nsIn K mainGlobals "zip" = some none
theorem BIk.of {K : Fg} {h : Heap} {mg : Str → Option Value} (b : BIk K) (X : K.In h) (G : h.Ns mainGlobals mg) : BI mg :=
  ⟨PySem.W.mg_none_of X G b.all, PySem.W.mg_none_of X G b.any, PySem.W.mg_none_of X G b.bool, PySem.W.mg_none_of X G b.dict, PySem.W.mg_none_of X G b.enumerate, PySem.W.mg_none_of X G b.int, PySem.W.mg_none_of X G b.isinstance, PySem.W.mg_none_of X G b.len, PySem.W.mg_none_of X G b.list, PySem.W.mg_none_of X G b.max, PySem.W.mg_none_of X G b.min,
    PySem.W.mg_none_of X G b.range, PySem.W.mg_none_of X G b.repr, PySem.W.mg_none_of X G b.set, PySem.W.mg_none_of X G b.sorted, PySem.W.mg_none_of X G b.str, PySem.W.mg_none_of X G b.sum, PySem.W.mg_none_of X G b.tuple, PySem.W.mg_none_of X G b.zip⟩
/-- the law's end -/
theorem walk_law {l : PySem.W.OpenLaw} {q : Program} {loose : List Str} {XP : (Str → Option Value) → Heap → Prop} {YP : World → Heap → Prop} {d : DefRec} {K : Params → Fg} {k : Nat} {st : Stmt} (hn : l.most = some 63) (hdf : d.params.defaults = []) (hr : Room k callerA)
    (hY : ∀ (w : World) (h : Heap), YP w h → (K w.params).In h) (hd : d.name = "law")
    (hb : ∀ (kV doc pm : Value) (an : Option Addr) (cdv ct : Value) (s : Shared) (v : Value), BindsTo s (PySem.W.fnOf "law" "law" (defArgs st) (defBody st) (defScope st) .none kV doc pm an cdv ct) ⟨[v], []⟩ [("script", v)])
    (F : ∀ (w : World) (mg : Str → Option Value) (h : Heap), (K w.params).In h → h.Ns mainGlobals mg → Dn (K w.params) "law" st ∧ ∀ (fa : Addr) (fd : FuncData), Fun (K w.params) "law" "law" st fa fd → ∀ base : Heap, FnOk l.prog w (K w.params) mg base CX0 k fa fd ["script"] (spLaw (K w.params))) :
    PySem.W.WalkO q loose XP YP l.row.toRowW d [] (fun f vs => PySem.call f vs) :=
  L2.walk_of (n := 63) (k := k) (x := "script") (CX := fun _ => CX0) (sp := fun w => spLaw (K w.params)) hn (by decide) hdf hr hY (fun w mg fa h KX G hmg => by
      obtain ⟨dl, F⟩ := F w mg h KX G
      obtain ⟨f, fd, Fn, a⟩ := dl.ex
      rw [hd] at hmg
      have e := hmg.symm.trans (PySem.W.mg_of KX G a)
      cases e
      obtain ⟨oc, od, kV, doc, pm, an, cdv, ct, osl, rfl, lk, hcd⟩ := id Fn.ex
      exact ⟨_, fun s v => hb kV doc pm an cdv ct s v, fun base _ _ => F _ _ Fn base⟩)
    (fun _ _ a ns hl ho hS => ⟨a, ns, rfl, only_scr ho hS, hl, fun _ => rfl⟩) fun _ _ _ _ _ z => z
end Sv

/-! Defs that write into an argument; classes. -/
namespace Sv
open PySem L2 Evl

def insV {α : Type} (j : Nat) (v : α) (ws : List α) : List α := ws.take j ++ v :: ws.drop j
theorem insV_length {α : Type} {j : Nat} {v : α} {ws : List α} : (insV j v ws).length = ws.length + 1 := by
  unfold insV
  simp
  omega
theorem insV_get {α : Type} {j : Nat} {v : α} {ws : List α} (h : j ≤ ws.length) (i : Nat) : (insV j v ws)[i]? = if i < j then ws[i]? else if i = j then some v else ws[i - 1]? := by
  unfold insV
  have hl : (ws.take j).length = j := by rw [List.length_take]; omega
  by_cases h1 : i < j
  · rw [if_pos h1, List.getElem?_append_left (by omega), List.getElem?_take, if_pos h1]
  · rw [if_neg h1, List.getElem?_append_right (by omega), hl]
    by_cases h2 : i = j
    · subst h2
      rw [if_pos rfl, Nat.sub_self]; rfl
    · rw [if_neg h2]
      obtain ⟨k, hk⟩ : ∃ k, i - j = k + 1 := ⟨i - j - 1, by omega⟩
      rw [hk, List.getElem?_cons_succ, List.getElem?_drop]
      congr 1
      omega
/-- a promise of a def that writes into its j-th argument -/
def spX (K : Fg) (j : Nat) (m : OD → List PyData → Option (PyData × OD)) : Sp := fun vs H Q _ => ∃ (A : Av) (F : List Addr) (o : OD) (v : V) (ds : List PyData) (ws : List V) (d : PyData) (o' : OD),
  AvOk A H ∧ vs = insV j v ws ∧ j ≤ ws.length ∧ Tree K H A o v F ∧ F.Nodup ∧ (∀ a ∈ F, A a) ∧ RepL K H A ds ws ∧ m o ds = some (d, o') ∧
  ∀ u H' F', (∀ b x, H b = some x → b ∉ F → H' b = some x) → (∀ a ∈ F', H a = none ∨ a ∈ F) → F'.Nodup → Tree K H' (fun x => (A x ∧ x ∉ F) ∨ x ∈ F') o' v F' → Rep K H' (fun x => (A x ∧ x ∉ F) ∨ x ∈ F') d u → Q u H'
def startX (n j : Nat) (o : OD) (ds : List PyData) : Rho := insV j (.own ⟨o, true⟩) (ds.map .val) ++ List.replicate (n - (ds.length + 1)) .no
def endX (j : Nat) (d : PyData) (ρ : Rho) : Option (PyData × OD) := (ownO j ρ).bind fun o => if o.par then some (d, o.od) else none
def retX (j : Nat) : Option Res → Option (PyData × OD)
  | some (.rex d ρ) => endX j d ρ
  | some (.nx ρ) => endX j .none ρ
  | _ => none
def runX (n k j : Nat) (fb : Rho → Option Res) (o : OD) (ds : List PyData) : Option (PyData × OD) := if ds.length + 1 = k then retX j (fb (startX n j o ds)) else none
section
variable {K : Fg}
open Classical in
noncomputable def lessF (F : List Addr) (H : Hp) : Hp := fun b => if b ∈ F then none else H b
theorem start_x {N : List Str} {A : Av} {H : Hp} {F : List Addr} {o : OD} {v : V} {j : Nat} {ds : List PyData} {ws : List V} (av : AvOk A H) (hj : j ≤ ws.length) (t : Tree K H A o v F) (nd : F.Nodup) (hF : ∀ a ∈ F, A a) (r : RepL K H A ds ws) :
    SR K (lessF F H) (fun x => A x ∧ x ∉ F) (fun _ => v) (fun _ => F) (startX N.length j o ds) (start N (insV j v ws)) H := by
  have hl := r.length
  have hjd : j ≤ (ds.map Sl.val).length := by rw [List.length_map]; omega
  have ix : ∀ (i : Nat) (s : Sl), (startX N.length j o ds)[i]? = some s → (i = j ∧ s = .own ⟨o, true⟩) ∨ s = .no ∨ ∃ k d, s = .val d ∧ ds[k]? = some d ∧ (insV j v ws)[i]? = ws[k]? := fun i s q => by
    unfold startX at q
    rw [List.getElem?_append] at q
    split at q
    · rw [insV_get hjd] at q
      rw [insV_get hj]
      split at q
      · rename_i h1
        rw [if_pos h1]
        rw [List.getElem?_map] at q
        obtain ⟨d, hd, rfl⟩ := Option.map_eq_some_iff.mp q
        exact .inr (.inr ⟨i, d, rfl, hd, rfl⟩)
      · split at q
        · rename_i h2
          cases q
          exact .inl ⟨h2, rfl⟩
        · rename_i h1 h2
          rw [if_neg h1, if_neg h2]
          rw [List.getElem?_map] at q
          obtain ⟨d, hd, rfl⟩ := Option.map_eq_some_iff.mp q
          exact .inr (.inr ⟨i - 1, d, rfl, hd, rfl⟩)
    · rw [List.getElem?_replicate] at q
      split at q
      · cases q; exact .inr (.inl rfl)
      · cases q
  have st : ∀ (i : Nat) (w : V), (insV j v ws)[i]? = some w → (start N (insV j v ws))[i]? = some (some w) := fun i w h => by
    unfold L2.start
    have hi := (List.getElem?_eq_some_iff.mp h).1
    rw [List.getElem?_append_left (by rw [List.length_map]; exact hi), List.getElem?_map, h]
    rfl
  have stj : (start N (insV j v ws))[j]? = some (some v) := st j v (by rw [insV_get hj, if_neg (Nat.lt_irrefl _), if_pos rfl])
  have sub : ∀ a, Avd (fun x => A x ∧ x ∉ F) (startX N.length j o ds) (fun _ => F) a → A a := fun a h => by
    rcases h with h | ⟨i, e, q, z⟩
    · exact h.1
    · exact hF a z
  have own : ∀ (i : Nat) (e : OW), (startX N.length j o ds)[i]? = some (.own e) → i = j ∧ e = ⟨o, true⟩ := fun i e q => by
    rcases ix i _ q with ⟨h1, h2⟩ | h | ⟨k, d, h, _⟩
    · cases h2; exact ⟨h1, rfl⟩
    · cases h
    · cases h
  refine SR.build ?_ (av.anti sub) (fun b u e => ?_) (fun a ha => ?_) (fun i s q ns => ?_) (fun i e q => ?_) (fun i e q _ => ?_) (fun _ _ _ => nd) (fun i e q a ha => ?_) (fun i k e e' q q' hne => ?_)
  · unfold startX L2.start
    rw [List.length_append, List.length_append, List.length_map, insV_length, insV_length, List.length_map, List.length_replicate, List.length_replicate, hl]
  · unfold lessF at e
    split at e
    · cases e
    · exact e
  · show Mut (lessF F H a)
    unfold lessF
    rw [if_neg ha.2]
    exact av a ha.1
  · rcases ix i s q with ⟨_, h⟩ | h | ⟨k, d, h, hd, hw⟩
    · exact (ns _ h).elim
    · rw [h]; trivial
    · subst h
      obtain ⟨w, e1, rw1⟩ := r.get hd
      exact ⟨w, st i w (hw.trans e1), Rep.anti sub _ _ rw1⟩
  · obtain ⟨rfl, rfl⟩ := own i e q
    exact ⟨v, stj, Tree.anti sub _ _ _ t⟩
  · obtain ⟨rfl, rfl⟩ := own i e q
    exact stj
  · unfold lessF
    rw [if_pos ha]
  · obtain ⟨rfl, _⟩ := own i e q
    obtain ⟨rfl, _⟩ := own k e' q'
    exact (hne rfl).elim
theorem end_x {A : Av} {H H' : Hp} {F : List Addr} {v : V} {j : Nat} {d : PyData} {o' : OD} {ρ : Rho} {σ : St} {ow : Nat → List Addr} {w : V} {Q : VK} (e : endX j d ρ = some (d, o'))
    (sr : SR K (lessF F H) (fun x => A x ∧ x ∉ F) (fun _ => v) ow ρ σ H') (rv : Rep K H' (Avd (fun x => A x ∧ x ∉ F) ρ ow) d w)
    (q : ∀ u H' F', (∀ b x, H b = some x → b ∉ F → H' b = some x) → (∀ a ∈ F', H a = none ∨ a ∈ F) → F'.Nodup → Tree K H' (fun x => (A x ∧ x ∉ F) ∨ x ∈ F') o' v F' → Rep K H' (fun x => (A x ∧ x ∉ F) ∨ x ∈ F') d u → Q u H') : Q w H' := by
  unfold endX at e
  obtain ⟨o, ho, e⟩ := bind_some' e
  split at e
  · rename_i hp
    have e := (Prod.mk.inj (Option.some.inj e)).2
    subst e
    have hi := ownO_some ho
    obtain ⟨v', hv, t⟩ := sr.own j o hi
    have := sr.pin j o hi hp
    rw [hv] at this
    cases this
    have sub : ∀ a, ((A a ∧ a ∉ F) ∨ a ∈ ow j) → Avd (fun x => A x ∧ x ∉ F) ρ ow a := fun a h => h.elim .inl fun z => .inr ⟨j, o, hi, z⟩
    refine q w H' (ow j) (fun b x hx hb => sr.ex b x ?_) (fun a ha => ?_) (sr.nd j o hi) (Tree.anti sub _ _ _ t) (Rep.anti sub _ _ rv)
    · unfold lessF
      rw [if_neg hb]; exact hx
    · have := sr.fr j o hi a ha
      unfold lessF at this
      split at this
      · exact .inr (by assumption)
      · exact .inl this
  · cases e
theorem endX_fst {j : Nat} {d d' : PyData} {o' : OD} {ρ : Rho} (e : endX j d ρ = some (d', o')) : d' = d := by
  unfold endX at e
  obtain ⟨o, _, e⟩ := bind_some' e
  split at e
  · cases e; rfl
  · cases e
theorem body_x {N : List Str} {k j : Nat} {t : TS} {fb : Rho → Option Res} {vs : List V} {H : Hp} {Q : VK} {E : XK} (h : ES K t fb) (sp : spX K j (runX N.length k j fb) vs H Q E) :
    t { nx := fun _ H' => Q .non H', rt := Q } (start N vs) H := by
  obtain ⟨A, F, o, v, ds, ws, d, o', av, rfl, hj, tr, nd, hF, r, e, q⟩ := sp
  unfold runX at e
  split at e
  · have sr := start_x (N := N) av hj tr nd hF r
    cases hr : fb (startX N.length j o ds) with
    | none => rw [hr] at e; cases e
    | some r1 =>
      rw [hr] at e
      refine h _ _ _ _ _ _ H r1 _ sr hr ?_
      cases r1 with
      | ret d' => cases e
      | rex d' ρ =>
        have e : endX j d' ρ = some (d, o') := e
        cases endX_fst e
        exact fun ow σ w H' s rv => end_x e s rv q
      | nx ρ =>
        have e : endX j .none ρ = some (d, o') := e
        cases endX_fst e
        exact fun ow σ H' s => end_x e s (by simp only [Rep]) q
      | brk ρ => cases e
      | ct ρ => cases e
  · cases e
theorem spX_len {n k j : Nat} {fb : Rho → Option Res} {vs : List V} {H : Hp} {Q : VK} {E : XK} (sp : spX K j (runX n k j fb) vs H Q E) : vs.length = k := by
  obtain ⟨A, F, o, v, ds, ws, d, o', av, rfl, hj, tr, nd, hF, r, e, q⟩ := sp
  unfold runX at e
  split at e
  · rename_i hk
    rw [insV_length, r.length, hk]
  · cases e
end
/-! ### a call that writes -/
def EX (K : Fg) (t : TE) (f : Rho → Option (PyData × Rho)) : Prop := ∀ Hb O pn ow ρ σ H d ρ', SR K Hb O pn ow ρ σ H → f ρ = some (d, ρ') → ∀ Q : VK,
  (∀ v ow' H', SR K Hb O pn ow' ρ' σ H' → Rep K H' (Avd O ρ' ow') d v → (∀ d0 v0, Rep K H (Avd O ρ ow) d0 v0 → Rep K H' (Avd O ρ' ow') d0 v0) → Q v H') → t σ H Q
def EAX (K : Fg) (t : TA) (i : Nat) (g : Rho → Option (List Nat)) (j : Nat) (fr : Rho → Option (List PyData)) : Prop := ∀ A ρ σ H o p v ds, RS K A ρ σ H → ρ[i]? = some (.own o) → σ[i]? = some (some v) → g ρ = some p → fr ρ = some ds → ∀ H1, Ex H H1 → ∀ Q : List V → Hp → Prop,
  (∀ v1 ws H2, Ex H1 H2 → j ≤ ws.length → At K H2 v o.od p v1 → RepL K H2 A ds ws → Q (insV j v1 ws) H2) → t σ H1 Q
def callX (i : Nat) (g : Rho → Option (List Nat)) (m : OD → List PyData → Option (PyData × OD)) (ρ : Rho) (a : Option (List PyData)) : Option (PyData × Rho) :=
  bnd2 (ownO i ρ) (g ρ) fun o p => (getP o.od p).bind fun o1 => a.bind fun ds => (m o1 ds).map fun r => (r.1, ρ.set i (.own ⟨setP o.od p r.2, o.par⟩))
theorem callX_some {i : Nat} {g : Rho → Option (List Nat)} {m : OD → List PyData → Option (PyData × OD)} {ρ ρ' : Rho} {a : Option (List PyData)} {d : PyData} (h : callX i g m ρ a = some (d, ρ')) :
    ∃ o p o1 ds o2, ρ[i]? = some (.own o) ∧ g ρ = some p ∧ getP o.od p = some o1 ∧ a = some ds ∧ m o1 ds = some (d, o2) ∧ ρ' = ρ.set i (.own ⟨setP o.od p o2, o.par⟩) := by
  unfold callX at h
  obtain ⟨o, p, h1, h2, h3⟩ := bnd2_some h
  obtain ⟨o1, h4, h5⟩ := bind_some' h3
  obtain ⟨ds, h6, h7⟩ := bind_some' h5
  obtain ⟨r, h8, h9⟩ := Option.map_eq_some_iff.mp h7
  cases h9
  exact ⟨o, p, o1, ds, r.2, ownO_some h1, h2, h4, h6, h8, rfl⟩
section
variable {K : Fg} {t te ta : TE} {tr : TA} {i j : Nat} {g : Rho → Option (List Nat)} {fe fa : Rho → Option PyData} {fr : Rho → Option (List PyData)} {m : OD → List PyData → Option (PyData × OD)} {E : XK}
theorem eax_here (h : EPt K t i g) (ha : EA K tr fr) : EAX K (tCons t tr) i g 0 fr := fun A ρ σ H o p v ds rs hi hv hg hd H1 e1 Q q => by
  refine h A ρ σ H o p v rs hi hv hg H1 e1 _ fun v1 H2 e2 at1 => ?_
  refine ha A ρ σ H ds rs hd H2 (e1.trans e2) _ fun ws H3 e3 r => ?_
  exact q v1 ws H3 (e2.trans e3) (Nat.zero_le _) (at1.mono e3) r
theorem eax_cons (ha : EF K ta fa) (h : EAX K tr i g j fr) : EAX K (tCons ta tr) i g (j + 1) (fun ρ => bnd2 (fa ρ) (fr ρ) consD) := fun A ρ σ H o p v ds rs hi hv hg hd H1 e1 Q q => by
  obtain ⟨x, y, ex, ey, eg⟩ := bnd2_some hd
  cases eg
  refine ha A ρ σ H x rs ex H1 e1 _ fun w H2 e2 rw2 => ?_
  have av2 := (rs.av.mono e1).mono e2
  refine h A ρ σ H o p v y rs hi hv hg ey H2 (e1.trans e2) _ fun v1 ws H3 e3 hj at1 r => ?_
  have := q v1 (w :: ws) H3 (e2.trans e3) (by simpa using hj) at1 (RepL.cons (rw2.mono av2 e3) r)
  exact this
/-- the promise is asked at a part of a name's own -/
theorem ex_at {Hb : Hp} {O : Av} {pn : Nat → V} {ow : Nat → List Addr} {ρ : Rho} {σ : St} {H : Hp} {o : OW} {p : List Nat} {v v1 : V} {o1 o2 : OD} {ds : List PyData} {ws : List V} {d : PyData} {Q : VK} (sr : SR K Hb O pn ow ρ σ H) (hi : ρ[i]? = some (.own o)) (hv : σ[i]? = some (some v))
    (at1 : At K H v o.od p v1) (hp : getP o.od p = some o1) (hj : j ≤ ws.length) (r : RepL K H (Avd O ρ ow) ds ws) (hm : m o1 ds = some (d, o2))
    (q : ∀ v ow' H', SR K Hb O pn ow' (ρ.set i (.own ⟨setP o.od p o2, o.par⟩)) σ H' → Rep K H' (Avd O (ρ.set i (.own ⟨setP o.od p o2, o.par⟩)) ow') d v → (∀ d0 v0, Rep K H (Avd O ρ ow) d0 v0 → Rep K H' (Avd O (ρ.set i (.own ⟨setP o.od p o2, o.par⟩)) ow') d0 v0) → Q v H') :
    spX K j m (insV j v1 ws) H Q E := by
  obtain ⟨F1, t1, sub, nd1, cl⟩ := sr.part hi hv at1 hp
  refine ⟨Avd O ρ ow, F1, o1, v1, ds, ws, d, o2, sr.rs.av, rfl, hj, t1, nd1, fun a ha => .inr ⟨i, o, hi, sub a ha⟩, r, hm, fun u H' F' k hF nd t2 rd => ?_⟩
  obtain ⟨ow', sr', av'⟩ := cl H' o2 F' k hF nd t2
  refine q u ow' H' sr' (Rep.anti av' _ _ rd) fun d0 v0 r0 => Rep.keep2 sr.rs.av (fun b x hx hn => k b x hx fun hb => hn (.inr ⟨i, o, hi, sub b hb⟩)) (fun a ha => ?_) _ _ r0
  rcases av' a ha with h | h
  · exact .inl h.1
  · rcases hF a h with h | h
    · exact .inr h
    · exact .inl (.inr ⟨i, o, hi, sub a h⟩)
theorem ex_call (ha : EAX K tr i g j fr) : EX K (tCall (spX K j m) [] E tr) (fun ρ => callX i g m ρ (fr ρ)) := fun Hb O pn ow ρ σ H d ρ' sr e Q q => by
  obtain ⟨o, p, o1, ds, o2, hi, hg, hp, hd, hm, rfl⟩ := callX_some e
  obtain ⟨v, hv⟩ := sr.rs.ownV hi
  refine ha _ ρ σ H o p v ds sr.rs hi hv hg hd H (Ex.refl _) _ fun v1 ws H2 e2 hj at1 r => ?_
  show spX K j m (insV j v1 ws ++ []) H2 Q E
  rw [List.append_nil]
  have sr2 := sr.mono e2
  exact ex_at sr2 hi hv at1 hp hj r hm fun v ow' H' s' r' k' => q v ow' H' s' r' fun d0 v0 r0 => k' d0 v0 (r0.mono sr.rs.av e2)
def obIs (c mt : Str) : OD → Bool
  | .nd (.ob c' ns) _ => decide (c' = c) && (ns.all fun n => decide (n ≠ mt))
  | _ => false
theorem lookup_no {mt : Str} : ∀ {ns : List Str} {vs : List V}, (ns.all fun n => decide (n ≠ mt)) = true → (ns.zip vs).lookup mt = none
  | [], vs, _ => by simp
  | n :: ns, [], _ => by simp
  | n :: ns, v :: vs, h => by
    simp only [List.all_cons, Bool.and_eq_true, decide_eq_true_eq] at h
    rw [List.zip_cons_cons, List.lookup_cons]
    have : (mt == n) = false := by simpa using fun z => h.1 z.symm
    rw [this]
    exact lookup_no (by simpa using h.2)
def methX (i : Nat) (g : Rho → Option (List Nat)) (c mt : Str) (m : OD → List PyData → Option (PyData × OD)) (ρ : Rho) (a : Option (List PyData)) : Option (PyData × Rho) := callX i g (fun o ds => if obIs c mt o then m o ds else none) ρ a
theorem ex_meth {C : Addr} {c mt : Str} (hC : clsAt K c C) (h : EPt K t i g) (ha : EA K tr fr) : EX K (tMeth C mt (spX K 0 m) [] E t tr) (fun ρ => methX i g c mt m ρ (fr ρ)) := fun Hb O pn ow ρ σ H d ρ' sr e Q q => by
  obtain ⟨o, p, o1, ds, o2, hi, hg, hp, hd, hm, rfl⟩ := callX_some e
  split at hm
  · rename_i ho
    obtain ⟨v, hv⟩ := sr.rs.ownV hi
    refine h _ ρ σ H o p v sr.rs hi hv hg H (Ex.refl _) _ fun v1 H1 e1 at1 => ?_
    have sr1 := sr.mono e1
    obtain ⟨F1, t1, _⟩ := sr1.part hi hv at1 hp
    unfold obIs at ho
    split at ho
    · rename_i c' ns xs
      simp only [Bool.and_eq_true] at ho
      have hc := of_decide_eq_true ho.1
      subst hc
      simp only [Tree] at t1
      obtain ⟨a, vs, G, rfl, _, n, tl⟩ := t1
      obtain ⟨hln, C', dx, hcl, hH⟩ := n
      have : C' = C := by
        unfold clsAt at hC hcl
        rw [hC] at hcl
        cases hcl; rfl
      subst this
      refine ⟨a, dx, _, rfl, hH, lookup_no ho.2, ?_⟩
      refine ha _ ρ σ H ds sr.rs hd H1 e1 _ fun ws H2 e2 r => ?_
      rw [List.append_nil]
      have sr2 := sr1.mono e2
      exact ex_at (j := 0) (ws := ws) sr2 hi hv (at1.mono e2) hp (Nat.zero_le _) r hm fun v ow' H' s' r' k' => q v ow' H' s' r' fun d0 v0 r0 => k' d0 v0 ((r0.mono sr.rs.av e1).mono sr1.rs.av e2)
    · cases ho
  · cases hm
theorem ex_of (h : EF K te fe) : EX K te (fun ρ => (fe ρ).map fun d => (d, ρ)) := fun Hb O pn ow ρ σ H d ρ' sr e Q q => by
  obtain ⟨d', hd, e⟩ := Option.map_eq_some_iff.mp e
  cases e
  exact h _ ρ σ H d sr.rs hd H (Ex.refl _) Q fun v H2 e2 r => q v ow H2 (sr.mono e2) r fun d0 v0 r0 => r0.mono sr.rs.av e2
/-! statements -/
def dropX (o : Option (PyData × Rho)) : Option Res := o.map fun r => .nx r.2
def asgX (i : Nat) (o : Option (PyData × Rho)) : Option Res := o.map fun r => .nx (r.2.set i (.val r.1))
theorem es_dropX {f : Rho → Option (PyData × Rho)} (h : EX K te f) : ES K (tDrop te) (fun ρ => dropX (f ρ)) := fun Hb O pn ow ρ σ H r D sr e fin => by
  obtain ⟨⟨d, ρ'⟩, hd, rfl⟩ := Option.map_eq_some_iff.mp e
  exact h Hb O pn ow ρ σ H d ρ' sr hd _ fun v ow' H' s' _ _ => fin ow' σ H' s'
theorem es_asgX {f : Rho → Option (PyData × Rho)} {k : Nat} (h : EX K te f) : ES K (tAsg te (gName k)) (fun ρ => asgX k (f ρ)) := fun Hb O pn ow ρ σ H r D sr e fin => by
  obtain ⟨⟨d, ρ'⟩, hd, rfl⟩ := Option.map_eq_some_iff.mp e
  exact h Hb O pn ow ρ σ H d ρ' sr hd _ fun v ow' H' s' r' _ => fin ow' _ H' (s'.setV r')
/-! C(..) -/
def makeO (c : Str) (m : OD → List PyData → Option (PyData × OD)) (ds : List PyData) : Option OD := (m (.nd (.ob c []) []) ds).bind fun r => match r.1 with
  | .none => some r.2
  | _ => none
theorem en_make {C : Addr} {c : Str} (hC : clsAt K c C) (ha : EA K tr fr) : EN K (tMake C (spX K 0 m) [] E tr) (fun ρ => (fr ρ).bind (makeO c m)) := fun A ρ σ H o rs e H1 e1 Q q => by
  obtain ⟨ds, hd, e⟩ := bind_some' e
  unfold makeO at e
  obtain ⟨⟨d, o'⟩, hm, e⟩ := bind_some' e
  dsimp only at e
  split at e
  · cases e
    refine ha A ρ σ H ds rs hd H1 e1 _ fun ws H2 e2 r x dx hx hdx hne => ?_
    have av2 := (rs.av.mono e1).mono e2
    have ex3 : Ex H2 (upd (upd H2 dx (.own x)) x (.ins C dx [])) := fun b u hu => by
      rw [upd_ne (ne_of_none hu hx), upd_ne (ne_of_none hu hdx)]; exact hu
    have hxx : (upd (upd H2 dx (.own x)) x (.ins C dx [])) x = some (.ins C dx []) := upd_same
    have hb : ∀ a, (A a ∨ a = x) → A a ∨ H2 a = none := fun a ha => ha.imp id fun z => by rw [z]; exact hx
    have av3 : AvOk (fun a => A a ∨ a = x) (upd (upd H2 dx (.own x)) x (.ins C dx [])) := fun a ha => by
      rcases ha with ha | rfl
      · exact av2.mono ex3 a ha
      · rw [hxx]; trivial
    rw [List.append_nil]
    refine ⟨fun a => A a ∨ a = x, [x], .nd (.ob c []) [], .ref x, ds, ws, .none, _, av3, rfl, Nat.zero_le _, ?_, by simp, fun a ha => .inr (List.mem_singleton.mp ha), RepL.keep2 av2 (Kp.ofEx ex3) hb _ _ r, hm, fun u H' F' k hF nd t rd => ?_⟩
    · simp only [Tree, TreeL]
      exact ⟨x, [], [], rfl, rfl, ⟨rfl, C, dx, hC, hxx⟩, by simp⟩
    · simp only [Rep] at rd
      subst rd
      refine ⟨rfl, q (.ref x) F' H' (fun b u hu => ?_) (fun a ha => ?_) nd (Tree.anti (fun a ha => ?_) _ _ _ t)⟩
      · refine k b u (ex3 b u (e2 b u hu)) fun hb => ?_
        rw [List.mem_singleton.mp hb] at hu
        rw [fresh_back e2 hx] at hu
        cases hu
      · rcases hF a ha with h | h
        · by_cases hax : a = x
          · rw [hax]; exact fresh_back e2 hx
          · by_cases hadx : a = dx
            · rw [hadx]; exact fresh_back e2 hdx
            · rw [upd_ne hax, upd_ne hadx] at h
              exact fresh_back e2 h
        · rw [List.mem_singleton.mp h]; exact fresh_back e2 hx
      · rcases ha with ha | ha
        · refine .inl ⟨.inl ha, fun hz => ?_⟩
          have := av2 a ha
          rw [List.mem_singleton.mp hz, hx] at this
          exact this
        · exact .inr ha
  · cases e
end
end Sv

/-! sorted of what reads as data. -/
namespace Sv
open PySem L2 Evl
open PySem.W (AllAlike Sortable dataLe list_sort_data sorted_data)
open PyProof.Rows (sortedHeap)
open PySem.W (EachIs alike alikeAll)

/-- the sorted values are the values, in the data's order -/
def SortedAs (ys : List V) (ds : List PyData) (zs : List V) (es : List PyData) : Prop := zs.length = es.length ∧ ∀ (j : Nat) (d : PyData), es[j]? = some d → ∃ (i : Nat) (x : V), zs[j]? = some x ∧ ys[i]? = some x ∧ ds[i]? = some d
mutual
theorem reads_in {h : Heap} : ∀ (d : PyData) (v : Value) (as : List Addr), alike d d = true → Reads h v d as → ∀ a ∈ as, ∃ o, h.get? a = some o
  | .none, _, _, _, r => by cases r; simp
  | .bool _, _, _, _, r => by cases r; simp
  | .int _, _, _, _, r => by cases r; simp
  | .str _, _, _, _, r => by cases r; simp
  | .list xs, _, _, hal, r => by
    cases r with
    | list h1 h2 h3 h4 =>
      intro a ha
      rcases List.mem_cons.mp ha with rfl | ha
      · exact ⟨_, h1⟩
      · exact readsAll_in xs _ _ (by simpa [alike] using hal) h4 a ha
  | .tuple xs, _, _, hal, r => by
    cases r with
    | @tuple b o vs n _ _ h1 h2 h3 h4 => exact readsAll_in xs _ _ (by simpa [alike] using hal) h4
  | .dict _, _, _, hal, _ => absurd hal (by simp [alike])
theorem readsAll_in {h : Heap} : ∀ (ds : List PyData) (vs : List Value) (as : List Addr), alikeAll ds ds = true → ReadsAll h vs ds as → ∀ a ∈ as, ∃ o, h.get? a = some o
  | [], _, _, _, r => by cases r; simp
  | d :: ds, _, _, hal, r => by
    cases r with
    | cons h1 h2 =>
      intro a ha
      rcases List.mem_append.mp ha with ha | ha
      · exact reads_in d _ _ (PySem.W.alike_all_cons hal).1 h1 a ha
      · exact readsAll_in ds _ _ (PySem.W.alike_all_cons hal).2 h2 a ha
end
section
variable {X : Cx} {pins : List (Addr × Obj)} {σ : St} {H : Hp} {s : Shared}
theorem each_mem' {R : Value → PyData → Prop} : ∀ {us : List Value} {ds : List PyData}, EachIs R us ds → EachIs (fun v d => R v d ∧ d ∈ ds) us ds
  | _, _, .nil => .nil
  | _, _, .cons h t => .cons ⟨h, List.mem_cons_self⟩ ((each_mem' t).mono fun _ _ z => ⟨z.1, List.mem_cons_of_mem _ z.2⟩)
theorem each_of : ∀ {ys : List V} {us : List Value} {ds : List PyData} (k : Nat) (ys0 : List V) (ds0 : List PyData), Vals ys us → ys.length = ds.length → (∀ j, ys0[k + j]? = ys[j]?) → (∀ j, ds0[k + j]? = ds[j]?) →
    EachIs (fun v d => ∃ (i : Nat) (x : V), RelV x v ∧ ys0[i]? = some x ∧ ds0[i]? = some d) us ds
  | [], us, ds, k, ys0, ds0, r, hl, h1, h2 => by
    cases r
    cases ds with
    | nil => exact .nil
    | cons _ _ => simp at hl
  | y :: ys, us, [], k, ys0, ds0, r, hl, h1, h2 => by simp at hl
  | y :: ys, us, d :: ds, k, ys0, ds0, r, hl, h1, h2 => by
    cases r with
    | cons r rr =>
      refine .cons ⟨k, y, r, by simpa using h1 0, by simpa using h2 0⟩ (each_of (k + 1) ys0 ds0 rr (by simpa using hl) (fun j => ?_) fun j => ?_)
      · have := h1 (j + 1)
        rw [← Nat.add_assoc, Nat.add_right_comm] at this
        simpa using this
      · have := h2 (j + 1)
        rw [← Nat.add_assoc, Nat.add_right_comm] at this
        simpa using this
theorem each_back {ys : List V} {ds : List PyData} : ∀ {us : List Value} {es : List PyData}, EachIs (fun v d => ∃ (i : Nat) (x : V), RelV x v ∧ ys[i]? = some x ∧ ds[i]? = some d) us es → ∃ zs, Vals zs us ∧ SortedAs ys ds zs es
  | [], [], _ => ⟨[], .nil, rfl, fun j d e => by simp at e⟩
  | u :: us, e :: es, h => by
    cases h with
    | cons h1 h2 =>
      obtain ⟨i, x, rx, hx, hd⟩ := h1
      obtain ⟨zs, rz, hl, hz⟩ := each_back h2
      refine ⟨x :: zs, .cons rx rz, by simp [hl], fun j d he => ?_⟩
      cases j with
      | zero => simp at he; subst he; exact ⟨i, x, rfl, hx, hd⟩
      | succ j =>
        obtain ⟨i', x', e1, e2, e3⟩ := hz j d (by simpa using he)
        exact ⟨i', x', by simpa using e1, e2, e3⟩
  | [], _ :: _, h => nomatch h
  | _ :: _, [], h => nomatch h
theorem reads_each (I : Inv X pins σ H s) : ∀ {ys : List V} {us : List Value} {ds : List PyData}, DpAll X.K H ys ds → Vals ys us → EachIs (fun v d => ∃ as, Reads s.heap v (id d) as) us ds
  | [], us, ds, h, r => by
    cases h; cases r; exact .nil
  | y :: ys, us, ds, h, r => by
    cases h with
    | cons h1 h2 =>
      cases r with
      | cons r1 r2 =>
        obtain ⟨as, q⟩ := Dp.reads I _ _ _ h1 r1
        exact .cons ⟨as, q⟩ (reads_each I h2 r2)
theorem dpall_length {K : Fg} {H : Hp} : ∀ {ys : List V} {ds : List PyData}, DpAll K H ys ds → ys.length = ds.length
  | [], ds, h => by cases h; rfl
  | y :: ys, ds, h => by
    cases h with
    | cons h1 h2 => simp [dpall_length h2]
def SortOk (ds : List PyData) : Prop := AllAlike ds ∧ Sortable ds ∧ ds.length ≤ sizeLine ∧ ∀ d ∈ ds, d.depth ≤ 50
/-- sorted(xs), a list -/
theorem cr_sortL (hu : X.A.units + 64 < cLine) : CallR X (.builtin "sorted") (fun xs H Q => ∃ a ys ds, xs = [.ref a] ∧ H a = some (.lst ys) ∧ DpAll X.K H ys ds ∧ SortOk ds ∧ ∀ p zs, H p = none → SortedAs ys ds zs (ds.mergeSort (dataLe false id)) → Q (.ref p) (upd H p (.lst zs))) := by
  intro pins s σ H xs us Q I r h
  obtain ⟨a, ys, ds, rfl, hs, hd, ⟨hal, hso, hlen, hdp⟩, q⟩ := h
  obtain ⟨u, rfl, rx⟩ := vals1 r
  cases rx
  obtain ⟨its, rv, pl, hz⟩ := I.list (SqL.of (K := X.K) hs)
  have hl := dpall_length hd
  refine sorted_data (vs := its) (bs := ds) (enc := id) pl.isList (each_of 0 ys ds rv hl (fun j => by simp) fun j => by simp) (reads_each I hd rv) (by simpa using hal) (by simpa using hso) hlen (fun d hm => by have := hdp d hm; simp only [id]; omega) fun out ho eo => ?_
  obtain ⟨zs, rz, sa⟩ := each_back eo
  obtain ⟨c, hc⟩ := PyProof.Rows.sortedAll_at s.heap its out.toArray
  have hz' : zs.length ≤ sizeLine := by rw [rz.length, ho]; exact hlen
  exact ⟨.ref (s.heap.objs.size + 1), upd H (s.heap.objs.size + 1) (.lst zs), I.laid (t' := s.toks) (fun b u e => PyProof.Rows.sortedAll_old e) (Nat.le_succ _) (show ObjOk X.prog X.w _ _ _ (.lst zs) from ⟨hz', out, c, rz, hc⟩), rfl, q _ zs (I.hok.fresh (Nat.le_succ _)) sa⟩
/-- the end of sorted: the items are collected -/
theorem sort_tail {ys : List V} {ds : List PyData} {acc : List Value} {Q : VK} (hu : X.A.units + 64 < cLine) (I : Inv X pins σ H s) (rv : Vals ys acc) (hd : DpAll X.K H ys ds) (ok : SortOk ds) (q : ∀ p zs, H p = none → SortedAs ys ds zs (ds.mergeSort (dataLe false id)) → Q (.ref p) (upd H p (.lst zs))) {E : Value → Shared → Prop} {A : Around} (hA : A.units ≤ X.A.units + 2)
    : wpAny (model X.prog X.w) A (newList acc >>= fun l => (holding [l] (call (.builtin "list.sort") [l] []) >>= fun _ => ret l)) (fun fin s' => ∃ v, fin = PySem.Fin.done (Flow.ret v) ∧ EP X pins σ Q v s') E s := by
  obtain ⟨hal, hso, hlen, hdp⟩ := ok
  have hl := dpall_length hd
  have hal' : acc.length = ds.length := by rw [← rv.length, hl]
  refine wpAny_bind (wpAny_newList ?_ (by rw [hal']; exact hlen))
  have hoL : (s.heap.push (PyProof.Rows.seqObj "list" acc.toArray 0)).get? s.heap.objs.size = some (PyProof.Rows.seqObj "list" acc.toArray 0) := Heap.get?_push_size _ rfl
  show wpAny _ _ _ _ _ { s with heap := s.heap.push (PyProof.Rows.seqObj "list" acc.toArray 0) }
  have er := reads_each I hd rv
  refine wpAny_bind (wpAny_holding (list_sort_data (s := { s with heap := s.heap.push (PyProof.Rows.seqObj "list" acc.toArray 0) }) (vs := acc) (bs := ds) (enc := id) hoL (each_of 0 ys ds rv hl (fun j => by simp) fun j => by simp) ?_ (by simpa using hal) (by simpa using hso) hlen (fun d hm => by have := hdp d hm; simp only [id]; omega) fun out ho eo => ?_))
  · refine (each_mem' er).mono fun v d ⟨⟨as, r⟩, hm⟩ => ⟨as, PyProof.Rows.Reads.keeps (fun _ _ z => Heap.get?_push_of_some _ z) r, fun hz => ?_⟩
    obtain ⟨o, ho⟩ := reads_in d v as (hal d hm d hm) r _ hz
    exact Nat.lt_irrefl _ (Heap.lt_size ho)
  · obtain ⟨zs, rz, sa⟩ := each_back eo
    obtain ⟨e', he'⟩ := PyProof.Rows.sortedHeap_at (vs := acc) (out := out.toArray) hoL
    have hz' : zs.length ≤ sizeLine := by rw [rz.length, ho]; exact hlen
    refine wpAny_pure ⟨_, rfl, ⟨.ref s.heap.objs.size, upd H s.heap.objs.size (.lst zs), I.laid (t' := s.toks) (fun b u e => ?_) (Nat.le_refl _) (show ObjOk X.prog X.w _ _ _ (.lst zs) from ⟨hz', out, e', rz, he'⟩), rfl, q _ zs (I.hok.fresh (Nat.le_refl _)) sa⟩⟩
    have hb : b < s.heap.objs.size := Heap.lt_size e
    rw [PyProof.Rows.sortedHeap_old (Nat.ne_of_lt hb) (by rw [Heap.size_push]; exact Nat.lt_succ_of_lt hb)]
    exact Heap.get?_push_of_some _ e
theorem keys_dp {K : Fg} : ∀ ks : List Key, DpAll K H (ks.map kV) (ks.map kD)
  | [] => .nil
  | .inl i :: ks => .cons (.int i) (keys_dp ks)
  | .inr i :: ks => .cons (.str i) (keys_dp ks)
/-- sorted(d), a dict whose keys are ints or texts -/
theorem cr_sortK (hc : X.calm = true) (hu : X.A.units + 64 < cLine) : CallR X (.builtin "sorted") (fun xs H Q => ∃ a kvs ys ds, xs = [.ref a] ∧ H a = some (.dK kvs) ∧ ys = kvs.map (fun kv => kV kv.1) ∧ ds = kvs.map (fun kv => kD kv.1) ∧ SortOk ds ∧ ∀ p zs, H p = none → SortedAs ys ds zs (ds.mergeSort (dataLe false id)) → Q (.ref p) (upd H p (.lst zs))) := by
  intro pins s σ H xs us Q I r h
  obtain ⟨a, kvs, ys, ds, rfl, hd, hy, hds, ok, q⟩ := h
  obtain ⟨u, rfl, rx⟩ := vals1 r
  cases rx
  obtain ⟨z, lo, vs, rel, dd⟩ := dk_rd I.hok (.inl hd)
  obtain ⟨ep, hat⟩ := dd.dictAt
  have ek : (kvs.map fun kv => kV kv.1) = vs.map fun p => kV p.1 := by
    have e := congrArg (List.map kV) rel.keys
    rw [List.map_map, List.map_map] at e
    exact e
  refine Calls.call_function_entry PyProof.Rows.kind_sorted PyProof.Rows.plain_sorted PyProof.Rows.entry_sorted (PyProof.Rows.args_sorted1 _) ?_
  unfold Builtin.«sorted»
  refine wpAny_bind (m := checkCount "sorted" 1 1 _) (wpAny_pure ?_)
  refine wpAny_bind (PySem.W.kdu_collect (A := X.A.in1) (PySem.W.kdl_dict (knd := mixKind X.prog X.w) (kvs := vs) (ep := ep) lo) (I.ok.hd hc) hat (by rw [← rel.length]; exact z) fun h' tk acc hk hacc => ?_)
  have hv : Vals (vs.map fun p => kV p.1) acc.toList := keys_at (by rw [Array.length_toList]; exact hacc.1) fun j v e => hacc.2 j v (by rw [← Array.getElem?_toList]; exact e)
  have I1 : L2.Inv X pins σ H { s with heap := h', toks := tk } := I.kept hk
  have hdp : DpAll X.K H ys ds := by
    have := keys_dp (H := H) (K := X.K) (kvs.map (·.1))
    rw [List.map_map, List.map_map] at this
    rw [hy, hds]
    exact this
  exact sort_tail (A := X.A.in1) hu I1 (by rw [hy, ek]; exact hv) hdp ok q (by show X.A.units + 1 ≤ _; omega)
/-- sorted(d), a dict whose keys are tuples -/
theorem cr_sortT' (hc : X.calm = true) (hu : X.A.units + 64 < cLine) : CallR X (.builtin "sorted") (fun xs H Q => ∃ a kvs ds, xs = [.ref a] ∧ H a = some (.dT kvs) ∧ ds = kvs.map (fun kv => PyData.tuple (kv.1.map kD)) ∧ SortOk ds ∧ ∀ bs p zs, IsKeys H kvs bs → H p = none → SortedAs (bs.map V.ref) ds zs (ds.mergeSort (dataLe false id)) → Q (.ref p) (upd H p (.lst zs))) := by
  intro pins s σ H xs us Q I r h
  obtain ⟨d, kvs, ds, rfl, hd, hds, ok, q⟩ := h
  obtain ⟨u, rfl, rx⟩ := r.one
  cases rx
  obtain ⟨z, hs, ks, pr, o, es, ep, ho, hx, hdt, he, hn⟩ := (show ObjOk X.prog X.w H s.heap d (.dT kvs) from I.hok d _ hd)
  have l1 : es.size = ks.length := size_of_entries he
  have l2 : kvs.length = ks.length := Paired.length pr
  refine Calls.call_function_entry PyProof.Rows.kind_sorted PyProof.Rows.plain_sorted PyProof.Rows.entry_sorted (PyProof.Rows.args_sorted1 _) ?_
  unfold Builtin.«sorted»
  refine wpAny_bind (m := checkCount "sorted" 1 1 _) (wpAny_pure ?_)
  refine wpAny_bind (PySem.W.kdu_collect (A := X.A.in1) (kdl_raw hs hx hdt) (I.ok.hd hc) ho (by omega) fun h' tk acc' hk it => ?_)
  have ea : acc'.toList = ks.map fun x => Value.ref x.2.1 := by
    have hl : acc'.toList.length = ks.length := by rw [Array.length_toList, it.1]; exact l1
    apply List.ext_getElem?
    intro j
    rw [List.getElem?_map]
    cases hj : acc'.toList[j]? with
    | none =>
      have h1 := List.getElem?_eq_none_iff.mp hj
      rw [List.getElem?_eq_none (by omega)]
      all_goals rfl
    | some v =>
      obtain ⟨en, hen, hv⟩ := it.2 j v (by rw [← Array.getElem?_toList]; exact hj)
      have qe := entry_at he j
      rw [hen] at qe
      cases hb : ks[j]? with
      | none =>
        rw [hb] at qe
        exact nomatch (show some en = none from qe)
      | some b =>
        rw [hb] at qe
        have e2 : en = entryOfKey (tupleKind (mixKind X.prog X.w)) b := Option.some.inj qe
        rw [hv, e2]
        all_goals rfl
  have eb : acc'.toList = (ks.map fun x => x.2.1).map Value.ref := by rw [ea, List.map_map]; all_goals rfl
  have rv : Vals ((ks.map fun x => x.2.1).map V.ref) acc'.toList := by rw [eb]; exact vals_refs _
  have I1 : L2.Inv X pins σ H { s with heap := h', toks := tk } := I.kept hk
  have ik := isKeys_of pr
  have hdp : ∀ {kvs : List (List Key × V)} {bs : List Addr}, IsKeys H kvs bs → DpAll X.K H (bs.map V.ref) (kvs.map (fun kv => PyData.tuple (kv.1.map kD))) := fun {kvs bs} ik => by
    unfold IsKeys at ik
    induction ik with
    | nil => exact .nil
    | cons h t ih => exact .cons (.tup (SqT.of h) (keys_dp _)) ih
  exact sort_tail (A := X.A.in1) hu I1 rv (by rw [hds]; exact hdp ik) ok (fun p zs => q _ p zs ik) (by show X.A.units + 1 ≤ _; omega)
end
/-! the rule over data -/
def sortOkB (ds : List PyData) : Bool := (ds.all fun d => ds.all fun e => alike d e) && ((ds.all fun d => match d with | .tuple (_ :: _) => true | _ => false) || (ds.all fun d => match d with | .none => false | .tuple _ => false | _ => true)) && lenOk ds.length && ds.all fun d => decide (d.depth ≤ 50)
theorem sortOk_of {ds : List PyData} (h : sortOkB ds = true) : SortOk ds := by
  unfold sortOkB at h
  simp only [Bool.and_eq_true] at h
  obtain ⟨⟨⟨h1, h2⟩, h3⟩, h4⟩ := h
  refine ⟨fun d hd e he => ?_, ?_, of_decide_eq_true h3, fun d hd => ?_⟩
  · exact List.all_eq_true.mp (List.all_eq_true.mp h1 d hd) e he
  · rcases Bool.or_eq_true_iff.mp h2 with h2 | h2
    · left
      intro d hd
      have := List.all_eq_true.mp h2 d hd
      split at this
      · exact ⟨_, _, rfl⟩
      · cases this
    · right
      intro d hd
      have := List.all_eq_true.mp h2 d hd
      split at this
      · cases this
      · cases this
      · rename_i n1 n2
        exact ⟨n1, fun xs z => n2 xs z⟩
  · exact of_decide_eq_true (List.all_eq_true.mp h4 d hd)
/-- the keys of a dict of data -/
def keyData : List (PyData × PyData) → Option (List PyData)
  | (.list [], _) :: r => some (r.map (·.1))
  | (.list _, _) :: _ => none
  | r => some (r.map (·.1))
def iterD : PyData → Option (List PyData)
  | .list ds => some ds
  | .dict kvs => keyData kvs
  | _ => none
def srt (ds : List PyData) : List PyData := ds.mergeSort (dataLe false id)
def sortD (d : PyData) : Option PyData := (iterD d).bind fun ds => if sortOkB ds then some (.list (srt ds)) else none
def rSortA (K : Fg) : List V → Hp → VK → Prop := fun xs H Q => (∃ a ys ds, xs = [.ref a] ∧ H a = some (.lst ys) ∧ DpAll K H ys ds ∧ SortOk ds ∧ ∀ p zs, H p = none → SortedAs ys ds zs (ds.mergeSort (dataLe false id)) → Q (.ref p) (upd H p (.lst zs))) ∨
  (∃ a kvs ys ds, xs = [.ref a] ∧ H a = some (.dK kvs) ∧ ys = kvs.map (fun kv => kV kv.1) ∧ ds = kvs.map (fun kv => kD kv.1) ∧ SortOk ds ∧ ∀ p zs, H p = none → SortedAs ys ds zs (ds.mergeSort (dataLe false id)) → Q (.ref p) (upd H p (.lst zs))) ∨
  (∃ a kvs ds, xs = [.ref a] ∧ H a = some (.dT kvs) ∧ ds = kvs.map (fun kv => PyData.tuple (kv.1.map kD)) ∧ SortOk ds ∧ ∀ bs p zs, IsKeys H kvs bs → H p = none → SortedAs (bs.map V.ref) ds zs (ds.mergeSort (dataLe false id)) → Q (.ref p) (upd H p (.lst zs)))
theorem cr_sortA {X : Cx} (hc : X.calm = true) (hu : X.A.units + 64 < cLine) : CallR X (.builtin "sorted") (rSortA X.K) := by
  intro pins s σ H xs us Q I r h
  rcases h with h | h | h
  · exact cr_sortL hu pins s σ H xs us Q I r h
  · exact cr_sortK hc hu pins s σ H xs us Q I r h
  · exact cr_sortT' hc hu pins s σ H xs us Q I r h
theorem cr_sortD {X : Cx} (K : Fg) (h : X.K = K) (hc : X.calm = true) (hu : X.A.units + 64 < cLine) : CallR X (.builtin "sorted") (rSortA K) := h ▸ cr_sortA hc hu
section
variable {K : Fg} {H : Hp} {A : Av}
theorem sorted_rep {ys zs : List V} {ds es : List PyData} (r : RepL K H A ds ys) (h : SortedAs ys ds zs es) : RepL K H A es zs := by
  refine RepL.mk h.1 fun j d v hd hv => ?_
  obtain ⟨i, x, h1, h2, h3⟩ := h.2 j d hd
  rw [hv] at h1
  cases h1
  obtain ⟨w, hw, rw1⟩ := r.get h3
  rw [h2] at hw
  cases hw
  exact rw1
mutual
theorem Rep.dpa : ∀ (d : PyData) (v : V), alike d d = true → Rep K H A d v → Dp K H v d
  | .none, _, _, h => by simp only [Rep] at h; subst h; exact .non
  | .bool b, _, _, h => by simp only [Rep] at h; subst h; exact .bl b
  | .int i, _, _, h => by simp only [Rep] at h; subst h; exact .int i
  | .str s, _, _, h => by simp only [Rep] at h; subst h; exact .str s
  | .tuple ds, v, c, h => by
    simp only [Rep] at h
    obtain ⟨a, xs, rfl, ⟨h1, _⟩, h2⟩ := h
    exact .tup h1 (RepL.dpa ds xs (by simpa [alike] using c) h2)
  | .list ds, v, c, h => by
    simp only [Rep] at h
    obtain ⟨a, xs, rfl, _, h1, h2⟩ := h
    exact .lst (SqL.of h1) (RepL.dpa ds xs (by simpa [alike] using c) h2)
  | .dict _, v, c, h => by simp [alike] at c
theorem RepL.dpa : ∀ (ds : List PyData) (xs : List V), alikeAll ds ds = true → RepL K H A ds xs → DpAll K H xs ds
  | [], xs, _, h => by simp only [RepL] at h; subst h; exact .nil
  | d :: ds, xs, c, h => by
    simp only [RepL] at h
    obtain ⟨y, ys, rfl, h1, h2⟩ := h
    exact .cons (Rep.dpa d y (PySem.W.alike_all_cons c).1 h1) (RepL.dpa ds ys (PySem.W.alike_all_cons c).2 h2)
end
theorem repL_dp : ∀ {ds : List PyData} {xs : List V}, (∀ d ∈ ds, alike d d = true) → RepL K H A ds xs → DpAll K H xs ds
  | [], xs, _, h => by simp only [RepL] at h; subst h; exact .nil
  | d :: ds, xs, c, h => by
    simp only [RepL] at h
    obtain ⟨y, ys, rfl, h1, h2⟩ := h
    exact .cons (Rep.dpa d y (c d List.mem_cons_self) h1) (repL_dp (fun e he => c e (List.mem_cons_of_mem _ he)) h2)
theorem rep_kV {q : Key} : Rep K H A (kD q) (kV q) := by
  cases q with
  | inl n => simp only [kD, Rep]; rfl
  | inr n => simp only [kD, Rep]; rfl
theorem repL_kV : ∀ ks : List Key, RepL K H A (ks.map kD) (ks.map kV)
  | [] => RepL.nil
  | k :: ks => RepL.cons rep_kV (repL_kV ks)
theorem keyB_all : ∀ ks : List Key, (ks.map kD).all keyB = true
  | [] => rfl
  | .inl _ :: ks => by simp only [List.map_cons, List.all_cons, keyB_all ks]; rfl
  | .inr _ :: ks => by simp only [List.map_cons, List.all_cons, keyB_all ks]; rfl
theorem repL_isKeys : ∀ {kvs : List (List Key × V)} {bs : List Addr}, IsKeys H kvs bs → RepL K H A (kvs.map fun kv => PyData.tuple (kv.1.map kD)) (bs.map V.ref)
  | [], bs, h => by
    unfold IsKeys at h
    cases h
    exact RepL.nil
  | kv :: kvs, bs, h => by
    unfold IsKeys at h
    cases h with
    | cons h1 h2 =>
      refine RepL.cons ?_ (repL_isKeys h2)
      simp only [Rep]
      exact ⟨_, _, rfl, ⟨SqT.of h1, .inl (keyB_all _)⟩, repL_kV _⟩
/-- what a dict's shape says of its keys -/
theorem keyData_of {kvs : List (PyData × PyData)} {s : Shp} {ds : List PyData} (hk : keysOf s = some (kvs.map (·.1))) (h : keyData kvs = some ds) : (∃ ks, s = .dk ks ∧ ds = ks.map kD) ∨ ∃ ks, s = .dt ks ∧ ds = ks.map fun k => PyData.tuple (k.map kD) := by
  cases s with
  | lst => cases hk
  | tup => cases hk
  | dk ks =>
    left
    refine ⟨ks, rfl, ?_⟩
    have hk := Option.some.inj hk
    unfold keyData at h
    split at h
    · cases ks with
      | nil => simp at hk
      | cons k ks => cases k <;> simp [kD] at hk
    · cases h
    · cases h; exact hk.symm
  | dt ks =>
    right
    refine ⟨ks, rfl, ?_⟩
    have hk := Option.some.inj hk
    unfold keyData at h
    split at h
    · cases h
      simp only [List.map_cons, List.cons.injEq] at hk
      exact hk.2.symm
    · cases h
    · rename_i n1 n2
      cases kvs with
      | nil => simp at hk
      | cons kv r =>
        simp only [List.map_cons, List.cons.injEq] at hk
        exact (n1 kv.2 r (by rw [hk.1])).elim
  | ob c ns =>
    exfalso
    have hk := Option.some.inj hk
    cases kvs with
    | nil => simp at hk
    | cons kv r =>
      obtain ⟨k, d⟩ := kv
      simp only [List.map_cons, List.cons.injEq] at hk
      obtain ⟨rfl, _⟩ := hk
      cases h
theorem zip_fst_kV {ks : List Key} {vs : List V} (h : ks.length = vs.length) : (ks.zip vs).map (fun kv => kV kv.1) = ks.map kV := by
  have := congrArg (List.map kV) (zip_fst h)
  rwa [List.map_map] at this
theorem zip_fst_kD {ks : List Key} {vs : List V} (h : ks.length = vs.length) : (ks.zip vs).map (fun kv => kD kv.1) = ks.map kD := by
  have := congrArg (List.map kD) (zip_fst h)
  rwa [List.map_map] at this
theorem zip_fst_tD {ks : List (List Key)} {vs : List V} (h : ks.length = vs.length) : (ks.zip vs).map (fun kv => PyData.tuple (kv.1.map kD)) = ks.map fun k => PyData.tuple (k.map kD) := by
  have := congrArg (List.map fun k : List Key => PyData.tuple (k.map kD)) (zip_fst h)
  rwa [List.map_map] at this
theorem e1_sort : E1 K (fun x => rSortA K [x]) sortD := fun A H d x z ok rx h Q q => by
  unfold sortD at h
  obtain ⟨ds, hi, h⟩ := bind_some' h
  split at h
  · rename_i hb
    cases h
    have so := sortOk_of hb
    unfold iterD at hi
    split at hi
    · cases hi
      obtain ⟨a, xs, rfl, h1, r1⟩ := rx.lst
      exact .inl ⟨a, xs, ds, rfl, h1, repL_dp (fun d hd => so.1 d hd d hd) r1, so, fun p zs hp sa => q _ _ (Ex.new hp) (rep_newL ok hp (sorted_rep r1 sa))⟩
    · rename_i kvs
      obtain ⟨a, s, vs, rfl, hk, n, r⟩ := rx.dct
      rcases keyData_of hk hi with ⟨ks, rfl, rfl⟩ | ⟨ks, rfl, rfl⟩
      · refine .inr (.inl ⟨a, _, ks.map kV, ks.map kD, rfl, n.2, (zip_fst_kV n.1).symm, (zip_fst_kD n.1).symm, so, fun p zs hp sa => q _ _ (Ex.new hp) (rep_newL ok hp (sorted_rep (repL_kV ks) sa))⟩)
      · refine .inr (.inr ⟨a, _, ks.map fun k => PyData.tuple (k.map kD), rfl, n.2, (zip_fst_tD n.1).symm, so, fun bs p zs ik hp sa => q _ _ (Ex.new hp) (rep_newL ok hp (sorted_rep (ys := bs.map V.ref) ?_ sa))⟩)
        rw [← zip_fst_tD n.1]
        exact repL_isKeys ik
    · cases hi
  · cases h
end
end Sv

/-! Dicts and objects read as data. -/
namespace Sv
open PySem L2 Evl

/-! ### d[k], k in d -/
def rIxD : R2 := fun x y H Q => ∃ a v, x = .ref a ∧ DGet H a y (some v) ∧ Q v H
theorem ix_dict {X : Cx} (hu : X.A.units + 64 < cLine) : IxR X rIxD := by
  intro value slice pins s σ H x y v u Q I rx ry h hs
  obtain ⟨a, w, rfl, g, q⟩ := h
  obtain rfl : v = Value.ref a := rx
  have hT := dict_typeIs I g
  have h₂ : wpAny (model X.prog X.w) X.A (getItem (.ref a) u) (EP X pins σ Q) X.xe s := d_getItem (by omega) I g ry fun w' s3 I3 rw' => ⟨w, H, I3, rw', q⟩
  unfold PyProof.Rows.subscriptTail
  refine wpAny_bind ?_
  rw [getitemInPython_of_ne hT.not_modules]
  refine wpAny_bind (wpAny_specialOf hT PySem.F.slot_dict_getitem.lookup ?_)
  have fin : wpAny (model X.prog X.w) X.A (subscripted slice false (.ref a) u) (fun r s₃ => wpAny (model X.prog X.w) X.A (letTemporaryGo value (.ref a) r >>= fun _ => pure r) (EP X pins σ Q) X.xe s₃) X.xe s := by
    rw [hs]
    exact wpAny_operating (wpAny_mono h₂ (fun r s₃ h₃ => wpAny_bind (wpAny_letTemporaryGo (wpAny_pure h₃))) fun _ _ x => x)
  first
    | exact wpAny_pure (wpAny_bind fin)
    | exact wpAny_bind (wpAny_pure (wpAny_bind fin))
    | exact wpAny_bind fin
def rIxE (K : Fg) : R2 := fun x y H Q => rIxA K x y H Q ∨ rIxD x y H Q
theorem ix_KD {X : Cx} (K : Fg) (h : X.K = K) (hu : X.A.units + 64 < cLine) : IxR X (rIxE K) := h ▸ ix_all.or (ix_dict hu)
def rInD (n : Bool) : R2 := fun x y H Q => ∃ a o, y = .ref a ∧ DGet H a x o ∧ Q (.bl (if n then !o.isSome else o.isSome)) H
theorem op_inD {X : Cx} (hu : X.A.units + 64 < cLine) : OpR X (compareOp .In) (rInD false) := by
  intro pins s σ H x y v u Q I rx ry h
  obtain ⟨a, o, rfl, g, q⟩ := h
  obtain rfl : u = Value.ref a := ry
  exact d_in (by omega) I g rx fun s3 I3 => ⟨.bl o.isSome, H, I3, rfl, q⟩
theorem op_notInD {X : Cx} (hu : X.A.units + 64 < cLine) : OpR X (compareOp .NotIn) (rInD true) := by
  intro pins s σ H x y v u Q I rx ry h
  obtain ⟨a, o, rfl, g, q⟩ := h
  obtain rfl : u = Value.ref a := ry
  exact d_notIn (by omega) I g rx fun s3 I3 => ⟨.bl (!o.isSome), H, I3, rfl, q⟩
def isOb : List (PyData × PyData) → Bool
  | (.list _, _) :: _ => true
  | _ => false
def dgetK (kvs : List (PyData × PyData)) (q : Key) : Option PyData := (kvs.find? fun kv => decide (toK kv.1 = some q)).map (·.2)
def ixE : PyData → PyData → Option PyData
  | .dict kvs, k => if isOb kvs then none else (toK k).bind (dgetK kvs)
  | d, k => ixD d k
section
variable {K : Fg} {H : Hp} {A : Av}
theorem toK_kD (k : Key) : toK (kD k) = some k := by cases k <;> rfl
theorem dget_rep {q : Key} : ∀ {ks : List Key} {kvs : List (PyData × PyData)} {vs : List V}, ks.map kD = kvs.map (·.1) → RepP K H A kvs vs → match dgetK kvs q with
    | some d => ∃ w, valV (ks.zip vs) q = some w ∧ Rep K H A d w
    | none => valV (ks.zip vs) q = none
  | [], [], vs, _, h => rfl
  | [], _ :: _, vs, e, h => by simp at e
  | _ :: _, [], vs, e, h => by simp at e
  | k :: ks, (kd, d) :: kvs, vs, e, h => by
    simp only [List.map_cons, List.cons.injEq] at e
    obtain ⟨rfl, e⟩ := e
    simp only [RepP] at h
    rcases h with ⟨m, _⟩ | ⟨_, y, ys, rfl, h1, h2⟩
    · rw [isMk_kD] at m; cases m
    · rw [List.zip_cons_cons]
      unfold dgetK
      rw [List.find?_cons]
      by_cases hk : k = q
      · subst hk
        rw [decide_eq_true (toK_kD k)]
        exact ⟨y, valV_pos rfl, h1⟩
      · rw [decide_eq_false (by rw [toK_kD]; exact fun z => hk (Option.some.inj z))]
        have ih := dget_rep (q := q) e h2
        unfold dgetK at ih
        rw [valV_neg hk]
        exact ih
theorem dk_of_not {kvs : List (PyData × PyData)} {s : Shp} (h : isOb kvs = false) (hk : keysOf s = some (kvs.map (·.1))) : ∃ ks, s = .dk ks ∧ ks.map kD = kvs.map (·.1) := by
  cases s with
  | lst => cases hk
  | tup => cases hk
  | dk ks => exact ⟨ks, rfl, Option.some.inj hk⟩
  | dt ks =>
    have hk := Option.some.inj hk
    cases kvs with
    | nil => simp at hk
    | cons kv r =>
      obtain ⟨k, d⟩ := kv
      simp only [List.map_cons, List.cons.injEq] at hk
      obtain ⟨rfl, _⟩ := hk
      cases h
  | ob c ns =>
    have hk := Option.some.inj hk
    cases kvs with
    | nil => simp at hk
    | cons kv r =>
      obtain ⟨k, d⟩ := kv
      simp only [List.map_cons, List.cons.injEq] at hk
      obtain ⟨rfl, _⟩ := hk
      cases h
theorem e2_ixE : E2 K (rIxE K) ixE := fun A H d e x y z ok rx ry h Q q => by
  unfold ixE at h
  split at h
  · rename_i kvs
    split at h
    · cases h
    · rename_i ho
      obtain ⟨k, hk, h9⟩ := bind_some' h
      have := toK_some hk
      subst this
      obtain ⟨a, s, vs, rfl, hks, n, r⟩ := rx.dct
      obtain ⟨ks, rfl, hks2⟩ := dk_of_not (by simpa using ho) hks
      have g := dget_rep (q := k) hks2 r
      rw [h9] at g
      obtain ⟨w, hw, rw1⟩ := g
      have hy : y = kV k := by
        cases k with
        | inl i => exact ry.int
        | inr i => exact ry.str
      subst hy
      exact .inr ⟨a, w, rfl, by rw [← hw]; exact DGet.k n.2, q w H (Ex.refl _) rw1⟩
  · exact .inl (e2_ix A H _ _ _ _ _ ok rx ry h Q q)
def inE (d e : PyData) : Option Bool := match e with
  | .dict kvs => if isOb kvs then none else (toK d).map fun k => (dgetK kvs k).isSome
  | _ => inB d e
def inDE (d e : PyData) : Option PyData := (inE d e).map .bool
def notInDE (d e : PyData) : Option PyData := (inE d e).map fun b => .bool (!b)
def rInE (K : Fg) (n : Bool) : R2 := fun x y H Q => rInAny K n x y H Q ∨ rInD n x y H Q
theorem op_inKD {X : Cx} (K : Fg) (h : X.K = K) (hu : X.A.units + 65 < cLine) : OpR X (compareOp .In) (rInE K false) := h ▸ (op_inAny hu).or (op_inD (by omega))
theorem op_notInKD {X : Cx} (K : Fg) (h : X.K = K) (hu : X.A.units + 65 < cLine) : OpR X (compareOp .NotIn) (rInE K true) := h ▸ (op_notInAny hu).or (op_notInD (by omega))
theorem inE_key {A : Av} {H : Hp} {d : PyData} {x y : V} {kvs : List (PyData × PyData)} {b : Bool} (rx : RepB K H A d x) (ry : RepB K H A (.dict kvs) y) (h : (if isOb kvs then none else (toK d).map fun k => (dgetK kvs k).isSome) = some b) : ∃ a o, y = .ref a ∧ DGet H a x o ∧ b = o.isSome := by
  split at h
  · cases h
  · rename_i ho
    obtain ⟨k, hk, rfl⟩ := Option.map_eq_some_iff.mp h
    have := toK_some hk
    subst this
    obtain ⟨a, s, vs, rfl, hks, n, r⟩ := ry.dct
    obtain ⟨ks, rfl, hks2⟩ := dk_of_not (by simpa using ho) hks
    have g := dget_rep (q := k) hks2 r
    have hx : x = kV k := by
      cases k with
      | inl i => exact rx.int
      | inr i => exact rx.str
    subst hx
    refine ⟨a, _, rfl, DGet.k n.2, ?_⟩
    cases hd : dgetK kvs k with
    | none => rw [hd] at g; rw [g]; rfl
    | some d =>
      rw [hd] at g
      obtain ⟨w, hw, _⟩ := g
      rw [hw]; rfl
theorem e2_inE : E2 K (rInE K false) inDE := fun A H d e x y z ok rx ry h Q q => by
  obtain ⟨b, hb, rfl⟩ := map_some' h
  unfold inE at hb
  split at hb
  · obtain ⟨a, o, rfl, g, rfl⟩ := inE_key rx ry hb
    exact .inr ⟨a, o, rfl, g, q _ H (Ex.refl _) rep_bl⟩
  · refine .inl (e2_in A H d e x y _ ok rx ry ?_ Q q)
    unfold inD
    rw [hb]; rfl
theorem e2_notInE : E2 K (rInE K true) notInDE := fun A H d e x y z ok rx ry h Q q => by
  obtain ⟨b, hb, rfl⟩ := map_some' h
  unfold inE at hb
  split at hb
  · obtain ⟨a, o, rfl, g, rfl⟩ := inE_key rx ry hb
    exact .inr ⟨a, o, rfl, g, q _ H (Ex.refl _) rep_bl⟩
  · refine .inl (e2_notIn A H d e x y _ ok rx ry ?_ Q q)
    unfold notInD
    rw [hb]; rfl
/-- k in P, P a dict of a name's own, whatever it holds -/
theorem ef_inP {te tp : TE} {fe : Rho → Option PyData} {i : Nat} {g : Rho → Option (List Nat)} {n : Bool} (he : EF K te fe) (hp : EPt K tp i g) : EF K (tOp (rInE K n) te tp) (fun ρ => bnd2 (fe ρ) (partO i g ρ) fun d o => match o with
    | .nd (.dk ks) xs => if ks.length = xs.length then (toK d).map fun k => .bool (if n then !(ks.any fun k' => decide (k' = k)) else ks.any fun k' => decide (k' = k)) else none
    | _ => none) := fun A ρ σ H z rs e H1 e1 Q q => by
  obtain ⟨d, o1, hd, ho, e⟩ := bnd2_some e
  unfold partO at ho
  obtain ⟨o, p, h1, h2, h3⟩ := bnd2_some ho
  have hi := ownO_some h1
  obtain ⟨v, hv⟩ := rs.ownV hi
  obtain ⟨F, tr⟩ := rs.tree hi hv
  split at e
  · rename_i ks xs
    split at e
    · rename_i hl
      obtain ⟨k, hk, rfl⟩ := Option.map_eq_some_iff.mp e
      have := toK_some hk
      subst this
      refine he A ρ σ H _ rs hd H1 e1 _ fun w H2 e2 rw1 => ?_
      cases rep_key rw1
      refine hp A ρ σ H o p v rs hi hv h2 H2 (e1.trans e2) _ fun v1 H3 e3 at1 => ?_
      obtain ⟨F1, pre, post, _, t1, _⟩ := (tr.mono rs.av ((e1.trans e2).trans e3)).zip at1 h3
      simp only [Tree] at t1
      obtain ⟨a, vs, G, rfl, _, nn, tl⟩ := t1
      refine .inr ⟨a, _, rfl, DGet.k nn.2, ?_⟩
      rw [← valV_any, any_zip k nn.1]
      exact q _ H3 (e2.trans e3) rep_bl
    · cases e
  · cases e
/-- (a, b) in d, d a dict whose keys are tuples -/
def inT (n : Bool) (k : List Key) (d : PyData) : Option PyData := match d with
  | .dict ((.list [], _) :: r) => some (.bool (if n then !((r.map (·.1)).any fun d => match d with | .tuple ds => decide (keysD ds = some k) | _ => false) else (r.map (·.1)).any fun d => match d with | .tuple ds => decide (keysD ds = some k) | _ => false))
  | _ => none
theorem any_tup (k : List Key) : ∀ ks : List (List Key), ((ks.map fun k => PyData.tuple (k.map kD)).any fun d => match d with | .tuple ds => decide (keysD ds = some k) | _ => false) = ks.any fun k' => decide (k' = k)
  | [] => rfl
  | k' :: ks => by
    simp only [List.map_cons, List.any_cons, keysD_map, any_tup k ks, Option.some.injEq]
theorem ef_inT {tk te : TE} {ft : Rho → Option (List Key)} {fe : Rho → Option PyData} {n : Bool} (hk : EKt K tk ft) (he : EB K te fe) : EF K (tOp (rInE K n) tk te) (fun ρ => bnd2 (ft ρ) (fe ρ) (inT n)) := fun A ρ σ H z rs e H1 e1 Q q => by
  obtain ⟨k, d, h1, h2, e⟩ := bnd2_some e
  refine hk A ρ σ H k rs h1 H1 e1 _ fun b H2 e2 hb => ?_
  refine he A ρ σ H d rs h2 H2 (e1.trans e2) _ fun w H3 e3 rb => ?_
  unfold inT at e
  split at e
  · rename_i x r
    cases e
    obtain ⟨a, s, vs, rfl, hks, nn, rp⟩ := rb.dct
    cases s with
    | lst => cases hks
    | tup => cases hks
    | dk ks =>
      have hks := Option.some.inj hks
      cases ks with
      | nil => simp at hks
      | cons k0 ks => cases k0 <;> simp [kD] at hks
    | ob c ns => simp [keysOf] at hks
    | dt ks =>
      have hks := Option.some.inj hks
      simp only [List.map_cons, List.cons.injEq, true_and] at hks
      refine .inr ⟨a, _, rfl, DGet.t nn.2 (e3 _ _ hb), ?_⟩
      rw [← valV_any, any_zip k nn.1]
      rw [← hks, any_tup k ks] at q
      exact q _ H3 (e2.trans e3) rep_bl
  · cases e
/-! ### dict(x), x a tuple of pairs -/
def pairD : PyData → Option (Key × PyData)
  | .tuple [k, d] => (toK k).map fun q => (q, d)
  | _ => none
def pairsD : List PyData → Option (List (Key × PyData))
  | [] => some []
  | d :: ds => match pairD d with
    | none => none
    | some p => match pairsD ds with
      | none => none
      | some ps => some (p :: ps)
def nodupK : List Key → Bool
  | [] => true
  | k :: ks => !(ks.any fun k' => decide (k' = k)) && nodupK ks
def dictD (d : PyData) : Option PyData := match d with
  | .tuple (x :: ds) => (pairsD (x :: ds)).bind fun ps => if nodupK (ps.map (·.1)) then some (.dict (ps.map fun p => (kD p.1, p.2))) else none
  | _ => none
theorem pairD_rep {d : PyData} {p : Key × PyData} {v : V} (h : pairD d = some p) (r : Rep K H A d v) : ∃ b y, v = .ref b ∧ SqT K H b [kV p.1, y] ∧ Rep K H A p.2 y := by
  unfold pairD at h
  split at h
  · rename_i k e
    obtain ⟨q, hq, rfl⟩ := Option.map_eq_some_iff.mp h
    have := toK_some hq
    subst this
    simp only [Rep, RepL] at r
    obtain ⟨a, xs, rfl, ⟨h1, _⟩, y, ys, rfl, r1, z, zs, rfl, r2, rfl⟩ := r
    have := rep_key r1
    subst this
    exact ⟨a, z, rfl, h1, r2⟩
  · cases h
theorem pairsD_rep : ∀ {ds : List PyData} {ps : List (Key × PyData)} {vs : List V}, pairsD ds = some ps → RepL K H A ds vs → ∃ (bs : List Addr) (ys : List V), vs = bs.map V.ref ∧ ys.length = ps.length ∧ Paired (fun p kv => SqT K H p [kV kv.1, kv.2]) bs ((ps.map (·.1)).zip ys) ∧ RepL K H A (ps.map (·.2)) ys
  | [], ps, vs, h, r => by
    cases h
    simp only [RepL] at r
    subst r
    exact ⟨[], [], rfl, rfl, .nil, RepL.nil⟩
  | d :: ds, ps, vs, h, r => by
    simp only [pairsD] at h
    cases h1 : pairD d with
    | none => rw [h1] at h; cases h
    | some p =>
      rw [h1] at h
      dsimp only at h
      cases h2 : pairsD ds with
      | none => rw [h2] at h; cases h
      | some ps' =>
        rw [h2] at h
        cases h
        simp only [RepL] at r
        obtain ⟨y, ys, rfl, r1, r2⟩ := r
        obtain ⟨b, z, rfl, h3, r3⟩ := pairD_rep h1 r1
        obtain ⟨bs, zs, rfl, hl, pp, rl⟩ := pairsD_rep h2 r2
        exact ⟨b :: bs, z :: zs, rfl, by simp [hl], .cons h3 pp, RepL.cons r3 rl⟩
theorem putK_new {kvs : List (Key × V)} {k : Key} {v : V} (h : (kvs.any fun kv => decide (kv.1 = k)) = false) : putK kvs k v = kvs ++ [(k, v)] := by
  unfold putK
  rw [if_neg (by rw [h]; exact Bool.false_ne_true)]
theorem mergeK_new : ∀ (more kvs : List (Key × V)), nodupK (more.map (·.1)) = true → (∀ p ∈ more, (kvs.any fun kv => decide (kv.1 = p.1)) = false) → mergeK kvs more = kvs ++ more
  | [], kvs, _, _ => by simp [mergeK]
  | p :: more, kvs, hn, hd => by
    simp only [List.map_cons, nodupK, Bool.and_eq_true, Bool.not_eq_true'] at hn
    show mergeK (putK kvs p.1 p.2) more = _
    rw [putK_new (hd p List.mem_cons_self), mergeK_new more _ hn.2 fun q hq => ?_]
    · simp
    · rw [List.any_append, hd q (List.mem_cons_of_mem _ hq)]
      have h1 := hn.1
      rw [List.any_map] at h1
      have h2 : decide (q.1 = p.1) = false := by
        have := List.any_eq_false.mp h1 q hq
        simpa using this
      simp only [List.any_cons, List.any_nil, Bool.false_or, Bool.or_false]
      exact decide_eq_false fun z => (of_decide_eq_false h2) z.symm
theorem zip_kD : ∀ ps : List (Key × PyData), ps.map (fun p => (kD p.1, p.2)) = ((ps.map (·.1)).map kD).zip (ps.map (·.2))
  | [] => rfl
  | p :: ps => by simp only [List.map_cons, List.zip_cons_cons, zip_kD ps]
theorem call_dictK {X : Cx} (K : Fg) (h : X.K = K) (hc : X.calm = true) : CallR X (.type "dict") (rDictF K) := h ▸ call_dictF hc
theorem e1_dict : E1 K (fun x => rDictF K [x]) dictD := fun A H d x z ok rx h Q q => by
  unfold dictD at h
  split at h
  · rename_i x0 ds
    obtain ⟨ps, hp, h⟩ := bind_some' h
    split at h
    · rename_i hn
      cases h
      obtain ⟨a, xs, rfl, ⟨h1, h2⟩, r⟩ := rx.tupP
      obtain ⟨bs, ys, rfl, hl, pp, rl⟩ := pairsD_rep hp r
      have pl : Plain K H a := by
        rcases h2 with h2 | h2
        · exfalso
          simp only [List.all_cons, Bool.and_eq_true] at h2
          simp only [pairsD] at hp
          cases h3 : pairD x0 with
          | none => rw [h3] at hp; cases hp
          | some p0 =>
            unfold pairD at h3
            split at h3
            · exact Bool.false_ne_true h2.1
            · cases h3
        · exact h2
      refine ⟨a, bs, _, rfl, h1, pl, pp, fun p hpn => ?_⟩
      have hz : (ps.map (·.1)).length = ys.length := by rw [List.length_map, hl]
      rw [mergeK_new _ [] (by rw [zip_fst hz]; exact hn) (fun _ _ => rfl), List.nil_append]
      have e0 := zip_kD ps
      refine q _ _ (Ex.new hpn) (node_rep (s := .dk (ps.map (·.1))) (vs := ys) (ds := ps.map (·.2)) (fun b hb => ?_) ⟨hz, upd_same⟩ (rl.mono ok (Ex.new hpn)) (by rw [e0]; rfl))
      rw [foot_mem hb]
      exact ok.fresh hpn
    · cases h
  · cases h
/-! ### objects as data -/
def fldD (c fl : Str) (d : PyData) : Option PyData := match d with
  | .dict ((.list [.str c'], _) :: r) => if c' = c then (r.find? fun kv => match kv.1 with | .str n => n == fl | _ => false).map (·.2) else none
  | _ => none
theorem fld_rep {fl : Str} {d : PyData} : ∀ {ns : List Str} {kvs : List (PyData × PyData)} {vs : List V}, ns.map PyData.str = kvs.map (·.1) → RepP K H A kvs vs → (kvs.find? fun kv => match kv.1 with | .str n => n == fl | _ => false).map (·.2) = some d → ∃ w, (ns.zip vs).lookup fl = some w ∧ Rep K H A d w
  | [], [], vs, _, h, e => by simp at e
  | [], _ :: _, vs, e, h, _ => by simp at e
  | _ :: _, [], vs, e, h, _ => by simp at e
  | n :: ns, (kd, d0) :: kvs, vs, e, h, hf => by
    simp only [List.map_cons, List.cons.injEq] at e
    obtain ⟨rfl, e⟩ := e
    simp only [RepP] at h
    rcases h with ⟨m, _⟩ | ⟨_, y, ys, rfl, h1, h2⟩
    · cases m
    · rw [List.zip_cons_cons, List.lookup_cons]
      rw [List.find?_cons] at hf
      by_cases hn : n = fl
      · subst hn
        simp only [beq_self_eq_true] at hf ⊢
        cases hf
        exact ⟨y, rfl, h1⟩
      · have b1 : (n == fl) = false := by simpa using hn
        have b2 : (fl == n) = false := by simpa using fun z => hn z.symm
        simp only [b1] at hf
        rw [b2]
        exact fld_rep e h2 hf
theorem ob_of {kvs : List (PyData × PyData)} {s : Shp} {c : Str} {x : PyData} (hk : keysOf s = some (((.list [.str c], x) :: kvs).map (·.1))) : ∃ ns, s = .ob c ns ∧ ns.map PyData.str = kvs.map (·.1) := by
  cases s with
  | lst => cases hk
  | tup => cases hk
  | dk ks =>
    have hk := Option.some.inj hk
    cases ks with
    | nil => simp at hk
    | cons k ks => cases k <;> simp [kD] at hk
  | dt ks => simp [keysOf] at hk
  | ob c' ns =>
    have hk1 := Option.some.inj hk
    simp only [List.map_cons, List.cons.injEq, PyData.list.injEq, PyData.str.injEq, and_true] at hk1
    obtain ⟨rfl, hk2⟩ := hk1
    exact ⟨ns, rfl, hk2⟩
theorem ef_fld {te : TE} {fe : Rho → Option PyData} {c fl : Str} (h : EF K te fe) (hc : FldOk K c fl) : EF K (tFld K te fl) (fun ρ => (fe ρ).bind (fldD c fl)) := fun A ρ σ H z rs e H1 e1 Q q => by
  obtain ⟨d, hd, e9⟩ := bind_some' e
  clear e
  refine h A ρ σ H d rs hd H1 e1 _ fun v H2 e2 rv => ?_
  unfold fldD at e9
  split at e9
  · rename_i c' x r
    split at e9
    · rename_i hcc
      subst hcc
      simp only [Rep] at rv
      obtain ⟨a, s, vs, rfl, _, hk, n, rp⟩ := rv
      obtain ⟨ns, rfl, hns⟩ := ob_of hk
      simp only [RepP] at rp
      rcases rp with ⟨_, rp⟩ | ⟨m, _⟩
      · obtain ⟨w, hw, rw1⟩ := fld_rep hns rp e9
        obtain ⟨hl, C, dx, hcl, hH⟩ := n
        exact ⟨a, C, dx, _, w, rfl, hH, (hc C hcl).1, (hc C hcl).2, hw, q w H2 e2 rw1⟩
      · cases m
    · cases e9
  · cases e9
/-- x.m(..), x an object as a datum -/
def methD (c mt : Str) (m : List PyData → Option PyData) (d : PyData) (ds : List PyData) : Option PyData := match d with
  | .dict ((.list [.str c'], _) :: r) => if c' = c ∧ (r.all fun kv => match kv.1 with | .str n => decide (n ≠ mt) | _ => false) = true then m (d :: ds) else none
  | _ => none
theorem all_ns {mt : Str} : ∀ {ns : List Str} {kvs : List (PyData × PyData)}, ns.map PyData.str = kvs.map (·.1) → (kvs.all fun kv => match kv.1 with | .str n => decide (n ≠ mt) | _ => false) = true → (ns.all fun n => decide (n ≠ mt)) = true
  | [], [], _, _ => rfl
  | [], _ :: _, e, _ => by simp at e
  | _ :: _, [], e, _ => by simp at e
  | n :: ns, (k, d) :: kvs, e, h => by
    simp only [List.map_cons, List.cons.injEq] at e
    obtain ⟨rfl, e⟩ := e
    simp only [List.all_cons, Bool.and_eq_true] at h ⊢
    exact ⟨h.1, all_ns e h.2⟩
theorem ef_meth {C : Addr} {c mt : Str} {m : List PyData → Option PyData} {E : XK} {te : TE} {tr : TA} {fe : Rho → Option PyData} {fr : Rho → Option (List PyData)} (hC : clsAt K c C) (h : EF K te fe) (ha : EA K tr fr) : EF K (tMeth C mt (spD K m) [] E te tr) (fun ρ => bnd2 (fe ρ) (fr ρ) (methD c mt m)) := fun A ρ σ H z rs e H1 e1 Q q => by
  obtain ⟨d, ds, hd, hds, e9⟩ := bnd2_some e
  clear e
  refine h A ρ σ H d rs hd H1 e1 _ fun v H2 e2 rv => ?_
  have av2 := (rs.av.mono e1).mono e2
  have rv0 := rv
  unfold methD at e9
  split at e9
  · rename_i c' x r
    split at e9
    · rename_i hcc
      obtain ⟨rfl, hall⟩ := hcc
      simp only [Rep] at rv
      obtain ⟨a, s, vs, rfl, _, hk, n, rp⟩ := rv
      obtain ⟨ns, rfl, hns⟩ := ob_of hk
      obtain ⟨hl, C', dx, hcl, hH⟩ := n
      have : C' = C := by
        unfold clsAt at hC hcl
        rw [hC] at hcl
        cases hcl; rfl
      subst this
      refine ⟨a, dx, _, rfl, hH, lookup_no (all_ns hns hall), ?_⟩
      refine ha A ρ σ H ds rs hds H2 (e1.trans e2) _ fun ws H3 e3 rl => ?_
      rw [List.append_nil]
      exact ⟨A, _, z, av2.mono e3, RepL.cons (rv0.mono av2 e3) rl, e9, fun v H' e' r' => q v H' ((e2.trans e3).trans e') r'⟩
    · cases e9
  · cases e9
end
end Sv

/-! Displays of dicts, more built-ins, methods. -/
namespace Sv
open PySem L2 Evl

/-! ### int, str, all, any, sum -/
def rInt1 : List V → Hp → VK → Prop := fun xs H Q => (∃ i, xs = [.int i] ∧ Q (.int i) H) ∨ ∃ k, xs = [.bl k] ∧ Q (.int (if k then 1 else 0)) H
theorem call_intA {X : Cx} : CallR X (.type "int") rInt1 := call_int1
def intD : PyData → Option PyData
  | .int i => some (.int i)
  | .bool b => some (.int (if b then 1 else 0))
  | _ => none
def rStrA : List V → Hp → VK → Prop := fun xs H Q => (∃ i, xs = [.int i] ∧ i.natAbs.log2 < 1920 ∧ Q (.str (toString i)) H) ∨ ∃ a, xs = [.str a] ∧ Q (.str a) H
theorem call_strA {X : Cx} : CallR X (.type "str") rStrA := by
  intro pins s σ H xs us Q I r h
  rcases h with h | h
  · exact call_str_int pins s σ H xs us Q I r h
  · obtain ⟨a, rfl, q⟩ := h
    obtain ⟨u, rfl, t, rfl⟩ := vals1 r
    exact PySem.P.str_of_str ⟨.str a, H, I, ⟨t, rfl⟩, q⟩
def strD : PyData → Option PyData
  | .int i => if i.natAbs.log2 < 1920 then some (.str (toString i)) else none
  | .str s => some (.str s)
  | _ => none
def boolsD : List PyData → Option (List Bool)
  | [] => some []
  | .bool b :: ds => (boolsD ds).map (b :: ·)
  | _ => none
def allD (d : PyData) : Option PyData := match d with
  | .list ds => (boolsD ds).map fun bs => .bool (bs.all id)
  | _ => none
def anyD (d : PyData) : Option PyData := match d with
  | .list ds => (boolsD ds).map fun bs => .bool (bs.any id)
  | _ => none
def intsD' : List PyData → Option (List Int)
  | [] => some []
  | .int b :: ds => (intsD' ds).map (b :: ·)
  | _ => none
def sumD (d : PyData) : Option PyData := match d with
  | .list ds => (intsD' ds).map fun bs => .int bs.sum
  | _ => none
section
variable {K : Fg}
theorem e1_int : E1 K (fun x => rInt1 [x]) intD := fun A H d x z ok rx h Q q => by
  unfold intD at h
  split at h
  · cases h
    cases rx.int
    exact .inl ⟨_, rfl, q _ H (Ex.refl _) rep_int⟩
  · cases h
    cases rx.bl
    exact .inr ⟨_, rfl, q _ H (Ex.refl _) rep_int⟩
  · cases h
theorem e1_str : E1 K (fun x => rStrA [x]) strD := fun A H d x z ok rx h Q q => by
  unfold strD at h
  split at h
  · split at h
    · cases h
      cases rx.int
      exact .inl ⟨_, rfl, by assumption, q _ H (Ex.refl _) rep_str⟩
    · cases h
  · cases h
    cases rx.str
    exact .inr ⟨_, rfl, q _ H (Ex.refl _) rep_str⟩
  · cases h
theorem boolsD_rep {H : Hp} {A : Av} : ∀ {ds : List PyData} {bs : List Bool} {vs : List V}, boolsD ds = some bs → RepL K H A ds vs → vs = bs.map V.bl
  | [], bs, vs, h, r => by
    cases h
    simp only [RepL] at r
    exact r
  | .bool b :: ds, bs, vs, h, r => by
    obtain ⟨cs, hc, rfl⟩ := Option.map_eq_some_iff.mp (show (boolsD ds).map (b :: ·) = some bs from h)
    simp only [RepL, Rep] at r
    obtain ⟨y, ys, rfl, rfl, r⟩ := r
    rw [boolsD_rep hc r]; rfl
  | .none :: _, _, _, h, _ => by cases h
  | .int _ :: _, _, _, h, _ => by cases h
  | .str _ :: _, _, _, h, _ => by cases h
  | .list _ :: _, _, _, h, _ => by cases h
  | .tuple _ :: _, _, _, h, _ => by cases h
  | .dict _ :: _, _, _, h, _ => by cases h
theorem intsD'_rep {H : Hp} {A : Av} : ∀ {ds : List PyData} {bs : List Int} {vs : List V}, intsD' ds = some bs → RepL K H A ds vs → vs = bs.map V.int
  | [], bs, vs, h, r => by
    cases h
    simp only [RepL] at r
    exact r
  | .int b :: ds, bs, vs, h, r => by
    obtain ⟨cs, hc, rfl⟩ := Option.map_eq_some_iff.mp (show (intsD' ds).map (b :: ·) = some bs from h)
    simp only [RepL, Rep] at r
    obtain ⟨y, ys, rfl, rfl, r⟩ := r
    rw [intsD'_rep hc r]; rfl
  | .none :: _, _, _, h, _ => by cases h
  | .bool _ :: _, _, _, h, _ => by cases h
  | .str _ :: _, _, _, h, _ => by cases h
  | .list _ :: _, _, _, h, _ => by cases h
  | .tuple _ :: _, _, _, h, _ => by cases h
  | .dict _ :: _, _, _, h, _ => by cases h
theorem e1_all : E1 K (fun x => rAll K [x]) allD := fun A H d x z ok rx h Q q => by
  unfold allD at h
  split at h
  · obtain ⟨bs, hb, rfl⟩ := Option.map_eq_some_iff.mp h
    obtain ⟨a, xs, rfl, h1, r⟩ := rx.lst
    exact ⟨a, bs, rfl, by rw [← boolsD_rep hb r]; exact SqL.of h1, q _ H (Ex.refl _) rep_bl⟩
  · cases h
theorem e1_any : E1 K (fun x => rAny K [x]) anyD := fun A H d x z ok rx h Q q => by
  unfold anyD at h
  split at h
  · obtain ⟨bs, hb, rfl⟩ := Option.map_eq_some_iff.mp h
    obtain ⟨a, xs, rfl, h1, r⟩ := rx.lst
    exact ⟨a, bs, rfl, by rw [← boolsD_rep hb r]; exact SqL.of h1, q _ H (Ex.refl _) rep_bl⟩
  · cases h
theorem e1_sum : E1 K (fun x => rSum K [x]) sumD := fun A H d x z ok rx h Q q => by
  unfold sumD at h
  split at h
  · obtain ⟨bs, hb, rfl⟩ := Option.map_eq_some_iff.mp h
    obtain ⟨a, xs, rfl, h1, r⟩ := rx.lst
    exact ⟨a, bs, rfl, by rw [← intsD'_rep hb r]; exact SqL.of h1, q _ H (Ex.refl _) rep_int⟩
  · cases h
theorem call_sumK {X : Cx} (h : X.K = K) (hc : X.calm = true) : CallR X (.builtin "sum") (rSum K) := h ▸ cr_sum hc
/-! ### a list times an int -/
def rMulE : R2 := fun x y H Q => rI CMul (fun i j => .int (i * j)) x y H Q ∨ rRep x y H Q
theorem op_mulE {X : Cx} : OpR X (binaryOp .Mult) rMulE := op_mul.or op_rep
def repD (ds : List PyData) (k : Int) : Option PyData := if -(2 ^ 63) ≤ k ∧ k < 2 ^ 63 ∧ ds.length * k.toNat ≤ sizeLine then some (.list (List.replicate k.toNat ds).flatten) else none
def mulE (d e : PyData) : Option PyData := match d, e with
  | .list ds, .int k => repD ds k
  | _, _ => mulD d e
theorem repL_flat {H : Hp} {A : Av} {ds : List PyData} {vs : List V} (r : RepL K H A ds vs) : ∀ n, RepL K H A (List.replicate n ds).flatten (List.replicate n vs).flatten
  | 0 => RepL.nil
  | n + 1 => by
    rw [List.replicate_succ, List.replicate_succ, List.flatten_cons, List.flatten_cons]
    exact r.append (repL_flat r n)
theorem e2_mulE : E2 K rMulE mulE := fun A H d e x y z ok rx ry h Q q => by
  unfold mulE at h
  split at h
  · unfold repD at h
    split at h
    · rename_i hc
      cases h
      obtain ⟨a, xs, rfl, h1, r⟩ := rx.lst
      cases ry.int
      exact .inr ⟨a, _, xs, rfl, rfl, h1, hc.1, hc.2.1, by rw [r.length]; exact hc.2.2, fun p hp => q _ _ (Ex.new hp) (rep_newL ok hp (repL_flat r _))⟩
    · cases h
  · exact .inl (e2_mul A H d e x y z ok rx ry h Q q)
/-! ### displays of dicts -/
def ENp (K : Fg) (trs : List (TE × TE)) (f : Rho → Option (List (Key × OD))) : Prop := ∀ A ρ σ H ps, RS K A ρ σ H → f ρ = some ps → ∀ H1, Ex H H1 → ∀ Q : List (V × V) → Hp → Prop,
  (∀ vs F H2, Ex H1 H2 → (∀ a ∈ F, H1 a = none) → F.Nodup → TreeL K H2 (fun x => A x ∨ x ∈ F) (ps.map (·.2)) vs F → vs.length = ps.length → Q ((ps.map fun p => kV p.1).zip vs) H2) → tPairs trs σ H1 Q
theorem enp_nil : ENp K [] (fun _ => some []) := fun A ρ σ H ps rs e H1 e1 Q q => by
  cases e
  refine q [] [] H1 (Ex.refl _) (fun a h => nomatch h) List.nodup_nil ?_ rfl
  simp only [List.map_nil, TreeL]
  exact ⟨trivial, trivial⟩
def consP (k : Key) (o : OD) (ps : List (Key × OD)) : List (Key × OD) := (k, o) :: ps
theorem enp_cons {tk tv : TE} {fk : Rho → Option PyData} {fv : Rho → Option OD} {trs : List (TE × TE)} {fr : Rho → Option (List (Key × OD))} (hk : EF K tk fk) (hv : EN K tv fv) (hr : ENp K trs fr) :
    ENp K ((tk, tv) :: trs) (fun ρ => ((fk ρ).bind toK).bind fun k => bnd2 (fv ρ) (fr ρ) fun o ps => some (consP k o ps)) := fun A ρ σ H ps rs e H1 e1 Q q => by
  obtain ⟨k, hk0, e⟩ := bind_some' e
  obtain ⟨kd, hkd, hk1⟩ := bind_some' hk0
  have := toK_some hk1
  subst this
  obtain ⟨o, ps', ho, hp, e⟩ := bnd2_some e
  cases e
  refine hk A ρ σ H _ rs hkd H1 e1 _ fun y H0 e0 ry => ?_
  cases rep_key ry
  have eA := e1.trans e0
  refine hv A ρ σ H o rs ho H0 eA _ fun v F H2 e2 hF nd t => ?_
  have av2 := (rs.av.mono eA).mono e2
  have hb : ∀ a, (A a ∨ a ∈ F) → A a ∨ H a = none := fun a ha => ha.elim .inl fun z => .inr (fresh_back eA (hF a z))
  have avF : AvOk (fun x => A x ∨ x ∈ F) H2 := fun a ha => ha.elim (av2 a) (Tree.mut _ _ _ t a)
  have rs2 : RS K (fun x => A x ∨ x ∈ F) ρ σ H2 := ⟨rs.len, avF, fun j s q => (rs.at' j s q).keep2 rs.av (eA.trans e2) hb⟩
  refine hr _ ρ σ H2 ps' rs2 hp H2 (Ex.refl _) _ fun vs G H3 e3 hG ng tl hl => ?_
  have dis : ∀ a ∈ F, a ∉ G := fun a ha hg => by
    have m := Tree.mut _ _ _ t a ha
    rw [hG a hg] at m; exact m
  refine q (v :: vs) (F ++ G) H3 ((e0.trans e2).trans e3) (fun a ha => ?_) (List.nodup_append.mpr ⟨nd, ng, fun a h b h' z => dis a h (z ▸ h')⟩) ?_ (by simp [consP, hl])
  · rcases List.mem_append.mp ha with ha | ha
    · exact fresh_back e0 (hF a ha)
    · exact fresh_back (e0.trans e2) (hG a ha)
  · simp only [consP, List.map_cons, TreeL]
    refine ⟨v, vs, F, G, rfl, rfl, ?_, TreeL.anti (fun a ha => ?_) _ _ _ tl⟩
    · refine Tree.keep2 avF (Kp.ofEx e3) (fun a ha => ?_) _ _ _ (fun a _ u hu => e3 a u hu) t
      rcases ha with ha | ha
      · exact .inl (.inl ha)
      · rcases List.mem_append.mp ha with ha | ha
        · exact .inl (.inr ha)
        · exact .inr (hG a ha)
    · rcases ha with ha | ha
      · exact .inl (.inl ha)
      · rcases List.mem_append.mp ha with ha | ha
        · exact .inl (.inr ha)
        · exact .inr ha
def dispO (ps : List (Key × OD)) : Option OD := if nodupK (ps.map (·.1)) && decide (ps.length ≤ 15) then some (.nd (.dk (ps.map (·.1))) (ps.map (·.2))) else none
theorem zip_kV : ∀ (ps : List (Key × OD)) (vs : List V), (ps.map fun p => kV p.1).zip vs = ((ps.map (·.1)).zip vs).map fun kv => (kV kv.1, kv.2)
  | [], vs => by simp
  | p :: ps, [] => by simp
  | p :: ps, v :: vs => by
    simp only [List.map_cons, List.zip_cons_cons, zip_kV ps vs]
theorem en_disp {trs : List (TE × TE)} {fr : Rho → Option (List (Key × OD))} (hr : ENp K trs fr) : EN K (tDisp trs) (fun ρ => (fr ρ).bind dispO) := fun A ρ σ H o rs e H1 e1 Q q => by
  obtain ⟨ps, hp, e⟩ := bind_some' e
  unfold dispO at e
  split at e
  · rename_i hc
    cases e
    obtain ⟨hn, hl15⟩ := Bool.and_eq_true_iff.mp hc
    intro p hpn
    have ex0 : Ex H1 (upd H1 p (.dK [])) := Ex.new hpn
    have hb : ∀ a, (A a ∨ a = p) → A a ∨ H a = none := fun a ha => ha.imp id fun z => by rw [z]; exact fresh_back e1 hpn
    have av1 : AvOk (fun a => A a ∨ a = p) (upd H1 p (.dK [])) := fun a ha => by
      rcases ha with ha | rfl
      · exact (rs.av.mono e1).mono ex0 a ha
      · rw [upd_same]; trivial
    have rs1 : RS K (fun a => A a ∨ a = p) ρ σ (upd H1 p (.dK [])) := ⟨rs.len, av1, fun j s q => (rs.at' j s q).keep2 rs.av (e1.trans ex0) hb⟩
    refine hr _ ρ σ _ ps rs1 hp _ (Ex.refl _) _ fun vs F H2 e2 hF nd tl hl => ?_
    have hzl : (ps.map (·.1)).length = vs.length := by rw [List.length_map, hl]
    have h2p := e2 p _ upd_same
    have npF : p ∉ F := fun h => by
      have := hF p h
      rw [upd_same] at this; cases this
    refine ⟨h2p, (ps.map (·.1)).zip vs, zip_kV ps vs, by rw [List.length_zip, ← hzl, Nat.min_self, List.length_map]; exact of_decide_eq_true hl15, ?_⟩
    rw [mergeK_new _ [] (by rw [zip_fst hzl]; exact hn) (fun _ _ => rfl), List.nil_append]
    refine q _ (p :: F) _ (fun b u hu => ?_) (fun a ha => ?_) (List.nodup_cons.mpr ⟨npF, nd⟩) ?_
    · rw [upd_ne (ne_of_none hu hpn)]
      exact e2 b u (ex0 b u hu)
    · rcases List.mem_cons.mp ha with rfl | ha
      · exact hpn
      · exact fresh_back ex0 (hF a ha)
    · simp only [Tree]
      refine ⟨p, vs, F, rfl, rfl, ⟨hzl, upd_same⟩, ?_⟩
      have avF : AvOk (fun x => (A x ∨ x = p) ∨ x ∈ F) H2 := fun a ha => ha.elim (av1.mono e2 a) (TreeL.mut _ _ _ tl a)
      refine TreeL.keep2 avF (fun b u hu hb => ?_) (fun a ha => ?_) _ _ _ (fun b hb u hu => ?_) tl
      · rw [upd_ne (show b ≠ p from fun z => hb (.inl (.inr z)))]; exact hu
      · rcases ha with ha | ha
        · exact .inl (.inl (.inl ha))
        · rcases List.mem_cons.mp ha with ha | ha
          · exact .inl (.inl (.inr ha))
          · exact .inl (.inr ha)
      · rw [upd_ne (show b ≠ p from fun z => npF (z ▸ hb))]; exact hu
  · cases e
end
/-! ### classes -/
structure CalM (P : Program) (w : World) (K : Fg) (mg : Str → Option Value) (base : Heap) (k : Nat) (C : Addr) (x : Str) (ps : List Str) (sp : Sp) : Prop where
  ex : ∃ (f : Addr) (fd : FuncData), FnOk P w K mg base CX0 k f fd ps sp ∧ Meth K C x f ∧ Binds K fd ps []
structure CalC (P : Program) (w : World) (K : Fg) (mg : Str → Option Value) (base : Heap) (k : Nat) (C : Addr) (x : Str) (ps : List Str) (sp : Sp) : Prop where
  ex : ∃ (f : Addr) (fd : FuncData), FnOk P w K mg base CX0 k f fd ps sp ∧ Mk K C f ∧ Binds K fd ps [] ∧ mg x = some (.ref C)
theorem CalM.mono {P : Program} {w : World} {K : Fg} {mg : Str → Option Value} {base : Heap} {j k : Nat} {C : Addr} {x : Str} {ps : List Str} {sp : Sp} (c : CalM P w K mg base j C x ps sp) (h : j ≤ k) : CalM P w K mg base k C x ps sp := by
  obtain ⟨f, fd, F, r⟩ := c.ex
  exact ⟨f, fd, F.mono h, r⟩
theorem CalC.mono {P : Program} {w : World} {K : Fg} {mg : Str → Option Value} {base : Heap} {j k : Nat} {C : Addr} {x : Str} {ps : List Str} {sp : Sp} (c : CalC P w K mg base j C x ps sp) (h : j ≤ k) : CalC P w K mg base k C x ps sp := by
  obtain ⟨f, fd, F, r⟩ := c.ex
  exact ⟨f, fd, F.mono h, r⟩
section
variable {X : Cx} {k : Nat} {C : Addr} {x m : Str} {ps : List Str} {sp : Sp} {p pos apos : Pos} {e o : Expr} {es : List Expr} {ta : TE} {t : TA}
theorem pe_calM {pl : Sem Bool} (he : PE X o ta) (cl : Cls X.K C) (c : CalM X.prog X.w X.K X.mg X.base k C m ps sp) (hr : Room k X.A) (ha : PA X (e :: es) t)
    (hst : starEach (e :: es) X.env = (false, eval e X.env) :: starEach es X.env := by rfl) (hpl : (backTo pos (starEach es X.env)).any (·.1) = false := by rfl)
    (ht : eval (.Call (.Attribute o m apos) (e :: es) [] pos) X.env = (do
      let ov ← eval o X.env
      standAt apos.atName
      let (f, first) ← holding [ov] (getMethod ov m pl)
      callWith pos f first (backTo pos (starEach (e :: es) X.env)) (backToKw pos (keywordEach [] X.env))) := by rfl) :
    PE X (.Call (.Attribute o m apos) (e :: es) [] pos) (tMeth C m sp [] (fun _ _ _ => False) ta t) := by
  obtain ⟨f, fd, F, M, b⟩ := c.ex
  exact pe_meth he cl M F hr b .nil pass0 ha hst hpl ht
theorem pe_calM0 {pl : Sem Bool} (he : PE X o ta) (cl : Cls X.K C) (c : CalM X.prog X.w X.K X.mg X.base k C m ps sp) (hr : Room k X.A)
    (ht : eval (.Call (.Attribute o m apos) [] [] pos) X.env = (do
      let ov ← eval o X.env
      standAt apos.atName
      let (f, first) ← holding [ov] (getMethod ov m pl)
      callWith pos f first (backTo pos (starEach [] X.env)) (backToKw pos (keywordEach [] X.env))) := by rfl) :
    PE X (.Call (.Attribute o m apos) [] [] pos) (tMeth C m sp [] (fun _ _ _ => False) ta tNil) := by
  obtain ⟨f, fd, F, M, b⟩ := c.ex
  exact pe_meth0 he cl M F hr b .nil pass0 ht
theorem pe_calC (c : CalC X.prog X.w X.K X.mg X.base k C x ps sp) (hr : Room (k + 1) X.A) (hg : Gl X x) (ha : PA X (e :: es) t) (hdb : (x == ("__debug__" : Str)) = false := by decide)
    (he : starEach (e :: es) X.env = (false, eval e X.env) :: starEach es X.env := by rfl) (hpl : (backTo pos (starEach es X.env)).any (·.1) = false := by rfl) :
    PE X (.Call (.Name x p) (e :: es) [] pos) (tMake C sp [] (fun _ _ _ => False) t) := by
  obtain ⟨f, fd, F, M, b, hm⟩ := c.ex
  exact pe_make M F hr hg hm b .nil pass0 ha hdb he hpl
end
end Sv
namespace Sv
open PySem L2 Evl
def datO : OD → Option PyData
  | .dat d => some d
  | _ => none
def partD (i : Nat) (g : Rho → Option (List Nat)) (ρ : Rho) : Option PyData := (partO i g ρ).bind datO
def partB (i : Nat) (g : Rho → Option (List Nat)) (ρ : Rho) : Option PyData := (partO i g ρ).bind topD
section
variable {K : Fg}
theorem ef_partD {t : TE} {i : Nat} {g : Rho → Option (List Nat)} (h : EPt K t i g) : EF K t (partD i g) := fun A ρ σ H d rs e H1 e1 Q q => by
  refine ef_part h A ρ σ H d rs ?_ H1 e1 Q q
  obtain ⟨o, ho, e⟩ := bind_some' e
  dsimp only
  rw [ho]
  cases o with
  | dat d' => exact e
  | nd s xs => cases e
theorem eb_partB {t : TE} {i : Nat} {g : Rho → Option (List Nat)} (h : EPt K t i g) : EB K t (partB i g) := eb_part h
def lstO (ds : List PyData) : Option OD := if lenOk ds.length then some (lO ds) else none
theorem en_lstD {tr : TA} {fr : Rho → Option (List PyData)} (ha : EA K tr fr) : EN K (tLst tr) (fun ρ => (fr ρ).bind lstO) := fun A ρ σ H d rs e H1 e1 Q q => by
  obtain ⟨x, ex, eg⟩ := bind_some' e
  unfold lstO at eg
  split at eg
  · rename_i hl
    cases eg
    refine ha A ρ σ H x rs ex H1 e1 _ fun vs H2 e2 r2 => ⟨by rw [r2.length]; exact of_decide_eq_true hl, fun p hp => ?_⟩
    have av2 := (rs.av.mono e1).mono e2
    refine q _ [p] _ (e2.trans (Ex.new hp)) (fun a ha => ?_) (by simp) ?_
    · rw [List.mem_singleton.mp ha]; exact fresh_back e2 hp
    · simp only [lO, Tree]
      exact ⟨p, vs, [], rfl, rfl, upd_same, TreeL.dats (RepL.keep2 av2 (Kp.ofEx (Ex.new hp)) (fun x hx => hx.imp id fun z => by rw [List.mem_singleton.mp z]; exact hp) _ _ r2)⟩
  · cases eg
theorem flatL_dat : ∀ ds : List PyData, flatL (ds.map .dat) = some ds
  | [] => rfl
  | d :: ds => by simp only [List.map_cons, flatL, flat, flatL_dat ds]
theorem flat_lO (ds : List PyData) : flat (lO ds) = some (.list ds) := by
  simp only [lO, flat, flatL_dat]
  rfl
theorem topD_lO (ds : List PyData) : topD (lO ds) = some (.list ds) := by
  simp only [lO, topD, dats_map]
  rfl
theorem ef_lst {tr : TA} {fr : Rho → Option (List PyData)} (ha : EA K tr fr) : EF K (tLst tr) (fun ρ => (fr ρ).bind lstD) := fun A ρ σ H d rs e H1 e1 Q q => by
  refine (en_lstD ha).ef A ρ σ H d rs ?_ H1 e1 Q q
  obtain ⟨x, ex, eg⟩ := bind_some' e
  dsimp only
  rw [ex]
  unfold lstD at eg
  split at eg
  · rename_i hl
    cases eg
    show (lstO x).bind flat = _
    unfold lstO
    rw [if_pos hl]
    exact flat_lO x
  · cases eg
/-- a comprehension, as a datum -/
def compL (o : Option (List PyData)) (h : PyData → Option (List PyData)) (is : List Nat) (ft : Rho → Option Bool) (fe : Rho → Option PyData) (vs : List Nat) (ρ : Rho) : Option PyData := o.bind fun ds => if lenOk ds.length then (compD h is ft fe (wipeR ρ vs) ds).map .list else none
theorem compL_R {o : Option (List PyData)} {h : PyData → Option (List PyData)} {is : List Nat} {ft : Rho → Option Bool} {fe : Rho → Option PyData} {vs : List Nat} {ρ : Rho} : (compR o h is ft fe vs ρ).bind flat = compL o h is ft fe vs ρ := by
  unfold compR compL
  cases o with
  | none => rfl
  | some ds =>
    dsimp only [Option.bind_some]
    split
    · cases compD h is ft fe (wipeR ρ vs) ds with
      | none => rfl
      | some es => exact flat_lO es
    · rfl
theorem ef_lcD {wi : TI} {fi : Rho → Option (List PyData)} {g : TG} {is vs : List Nat} {h : PyData → Option (List PyData)} {tt : TT} {ft : Rho → Option Bool} {te : TE} {fe : Rho → Option PyData} (hi : EIb K wi fi) (hg : EG K g is h) (ht : ET K tt ft) (he : EF K te fe)
    (hv : ∀ i ∈ is, i ∈ vs := by decide) : EF K (tLc wi g tt te vs) (fun ρ => compL (fi ρ) h is ft fe vs ρ) := fun A ρ σ H d rs e H1 e1 Q q => by
  refine (ef_lc hi hg ht he hv).ef A ρ σ H d rs ?_ H1 e1 Q q
  exact compL_R.trans e
def makeD (c : Str) (m : OD → List PyData → Option (PyData × OD)) (ds : List PyData) : Option PyData := (makeO c m ds).bind flat
theorem ef_make {C : Addr} {c : Str} {m : OD → List PyData → Option (PyData × OD)} {E : XK} {tr : TA} {fr : Rho → Option (List PyData)} (hC : clsAt K c C) (ha : EA K tr fr) : EF K (tMake C (spX K 0 m) [] E tr) (fun ρ => (fr ρ).bind (makeD c m)) := fun A ρ σ H d rs e H1 e1 Q q => by
  refine (en_make hC ha).ef A ρ σ H d rs ?_ H1 e1 Q q
  obtain ⟨ds, hd, e⟩ := bind_some' e
  dsimp only
  rw [hd]
  exact e
end
/-! the class's own -/
structure Cla (K : Fg) (c : Str) (C : Addr) (fs : List Str) : Prop where
  at_ : clsAt K c C
  cl : Cls K C
  no : ∀ f ∈ fs, NoAttr K C f
theorem Cla.fld {K : Fg} {c : Str} {C : Addr} {fs : List Str} (h : Cla K c C fs) {f : Str} (hf : f ∈ fs) : FldOk K c f := fun C' hC' => by
  have : C' = C := by
    have h1 := h.at_
    unfold clsAt at h1 hC'
    rw [h1] at hC'
    cases hC'; rfl
  subst this
  exact ⟨h.cl, h.no f hf⟩
end Sv
namespace Sv
open PySem L2 Evl
def keyP (i : Nat) (g : Rho → Option (List Nat)) (ρ : Rho) (k : Option PyData) : Option (List Nat) := k.bind fun d => (toK d).bind fun q => stepP i g (keyI q) ρ
def asI' : PyData → Option Int := fun d => match d with | .int n => some n | _ => none
def ixP (i : Nat) (g : Rho → Option (List Nat)) (ρ : Rho) (k : Option PyData) : Option (List Nat) := k.bind fun d => (match d with | .int n => some n | _ => none).bind fun n => stepP i g (ixI n) ρ
def inP (n : Bool) (a : Option PyData) (o : Option OD) : Option PyData := bnd2 a o fun d o => match o with
    | .nd (.dk ks) xs => if ks.length = xs.length then (toK d).map fun k => .bool (if n then !(ks.any fun k' => decide (k' = k)) else ks.any fun k' => decide (k' = k)) else none
    | _ => none
def keyT (ds : List PyData) : Option (List Key) := if lenOk ds.length then keysD ds else none
def dispP (k : Option PyData) (o : Option OD) (r : Option (List (Key × OD))) : Option (List (Key × OD)) := (k.bind toK).bind fun k => bnd2 o r fun o ps => some (consP k o ps)
end Sv
namespace Sv
open PySem L2 Evl
theorem pe_fldK {X : Cx} (K : Fg) (h : X.K = K) {e : Expr} {f : Str} {pos : Pos} {ta : TE} (he : PE X e ta) (hb : attributeBase e f X.env (eval e X.env) = eval e X.env) : PE X (.Attribute e f pos) (tFld K ta f) := h ▸ pe_fld he hb
end Sv
namespace Sv
open PySem L2 Evl
/-- a method as the top has left it -/
structure MDn (K : Fg) (C : Addr) (m q : Str) (st : Stmt) : Prop where
  ex : ∃ f fd, Fun K m q st f fd ∧ Meth K C m f
theorem mdn_mk {K : Fg} {C : Addr} {m q : Str} {st : Stmt} {f : Addr} {oc : Value} {od an : Option Addr} {osl : Array (Option Value)} {kV doc pm cdv ct : Value} (a : PySem.W.findIn K (.ref C) m = some (some (.ref f))) (i : PySem.W.isFn K (.ref f) = true)
    (l : K.lookup f = some ⟨oc, od, .func (PySem.W.fnOf m q (defArgs st) (defBody st) (defScope st) .none kV doc pm an cdv ct), osl⟩) (c : PySem.W.codeIn K cdv q = true) (k : PySem.W.keepIn K (.ref f) = true) : MDn K C m q st :=
  ⟨f, _, fun_mk l c k, ⟨a, i, k⟩⟩
theorem MDn.cal {P : Program} {w : World} {K : Fg} {mg : Str → Option Value} {base : Heap} {k : Nat} {C : Addr} {m q : Str} {st : Stmt} {ps : List Str} {sp : Sp} (d : MDn K C m q st)
    (hb : ∀ (kV doc pm : Value) (an : Option Addr) (cdv ct : Value) (us : List Value), us.length = ps.length → bindArgs (PySem.W.fnOf m q (defArgs st) (defBody st) (defScope st) .none kV doc pm an cdv ct) ⟨us, []⟩ = pure (ps.zip us))
    (G' : ∀ f fd, Fun K m q st f fd → FnOk P w K mg base CX0 k f fd ps sp) : CalM P w K mg base k C m ps sp := by
  obtain ⟨f, fd, F, M⟩ := d.ex
  exact ⟨f, fd, G' f fd F, M, F.binds hb⟩
theorem MDn.calC {P : Program} {w : World} {K : Fg} {mg : Str → Option Value} {base h : Heap} {k : Nat} {C : Addr} {c q : Str} {st : Stmt} {ps : List Str} {sp : Sp} (d : MDn K C "__init__" q st) (X : K.In h) (G : h.Ns mainGlobals mg) (at_ : clsAt K c C) (mk : PySem.W.makesIn K C = true) (kc : PySem.W.keepIn K (.ref C) = true)
    (hb : ∀ (kV doc pm : Value) (an : Option Addr) (cdv ct : Value) (us : List Value), us.length = ps.length → bindArgs (PySem.W.fnOf "__init__" q (defArgs st) (defBody st) (defScope st) .none kV doc pm an cdv ct) ⟨us, []⟩ = pure (ps.zip us))
    (G' : ∀ f fd, Fun K "__init__" q st f fd → FnOk P w K mg base CX0 k f fd ps sp) : CalC P w K mg base k C c ps sp := by
  obtain ⟨f, fd, F, M⟩ := d.ex
  exact ⟨f, fd, G' f fd F, ⟨mk, M.at_, M.fn, kc⟩, F.binds hb, PySem.W.mg_of X G at_⟩
theorem fn_noX {P : Program} {w : World} {K : Fg} {mg : Str → Option Value} {base : Heap} {k j : Nat} {f : Addr} {fd : FuncData} {ps : List Str} : FnOk P w K mg base CX0 k f fd ps (spX K j fun _ _ => none) :=
  ⟨fun _ _ _ _ ⟨_, _, _, _, _, _, _, _, _, _, _, _, _, _, _, e, _⟩ => (nomatch e), fun _ _ _ _ _ _ _ _ _ _ _ _ _ ⟨_, _, _, _, _, _, _, _, _, _, _, _, _, _, _, e, _⟩ => (nomatch e)⟩
end Sv
namespace Sv
open PySem L2 Evl
theorem no_cons {K : Fg} {C : Addr} {f : Str} {fs : List Str} (h : PySem.W.findIn K (.ref C) f = some none) (r : ∀ g ∈ fs, NoAttr K C g) : ∀ g ∈ f :: fs, NoAttr K C g := fun g hg => by
  rcases List.mem_cons.mp hg with rfl | hg
  · exact h
  · exact r g hg
end Sv

/-! set(xs), sorted(set(xs)), len(set(xs)): by what a kind of members brings. -/
namespace Sv
open PySem L2 Evl PyProof.Rows PySem.Spec
abbrev young (w : World) : Obj := { cls := .type "set", dict := none, data := .set #[] 0 (.fresh 0 0 (!w.params.followText "set-order")) }
/-- what a kind of members brings: is, when a value is a key; R, the set at a with these members, in the table's order -/
structure Way (P : Program) (w : World) (κ : Type) where
  is : Heap → κ → Value → Prop
  room : Around → Prop
  most : Nat
  R : Heap → Addr → List (Value × κ) → Prop
  born : ∀ {h : Heap} {a : Addr}, h.get? a = some (young w) → R h a []
  move : ∀ {h h' : Heap} {a : Addr} {L : List (Value × κ)}, R h a L → (∀ o, h.get? a = some o → h'.get? a = some o) → R h' a L
  carry : ∀ {h h' : Heap} {k : κ} {v : Value}, is h k v → (∀ b o, h.get? b = some o → o.cls = .type "tuple" → h'.get? b = some o) → is h' k v
  put : ∀ {A : Around} {E : Value → Shared → Prop} {s : Shared} {a : Addr} {L : List (Value × κ)} {k : κ} {v : Value} {Q : Bool → Shared → Prop}, room A → R s.heap a L → (∀ x ∈ L, is s.heap x.2 x.1) → is s.heap k v → L.length + 1 < most →
    (∀ b h' tk L', Heap.SameBut a s.heap h' → s.toks ≤ tk → R h' a L' → ((k ∈ L.map (·.2) ∧ L' = L) ∨ (k ∉ L.map (·.2) ∧ L'.Perm ((v, k) :: L))) → Q b { s with heap := h', toks := tk }) → wpAny (model P w) A (setAdd a v) Q E s
  view : ∀ {h : Heap} {a : Addr} {L : List (Value × κ)}, R h a L → ∃ o es ep t, h.get? a = some o ∧ o.ExactSet ∧ o.data = .set es ep t ∧ t.fits es.size = true ∧ es.size < scanBound ∧ Ris t.place.toList ∧ (w.params.followText "set-order" = true ∨ t.led = true) ∧ es.toList.map (·.2) = L.map (·.1)
/-- what came of the first items -/
structure Ded {α κ : Type} (its L : List (α × κ)) : Prop where
  mem : ∀ x ∈ L, x ∈ its
  nd : (L.map (·.2)).Nodup
  all : ∀ x ∈ its, x.2 ∈ L.map (·.2)
theorem Ded.nil {α κ : Type} : Ded ([] : List (α × κ)) [] := ⟨fun x h => h, List.nodup_nil, fun x h => nomatch h⟩
theorem Ded.step {α κ : Type} {its L L' : List (α × κ)} {v : α} {k : κ} (d : Ded its L) (h : (k ∈ L.map (·.2) ∧ L' = L) ∨ (k ∉ L.map (·.2) ∧ L'.Perm ((v, k) :: L))) : Ded (its ++ [(v, k)]) L' := by
  rcases h with ⟨hk, rfl⟩ | ⟨hk, p⟩
  · refine ⟨fun x hx => List.mem_append_left _ (d.mem x hx), d.nd, fun x hx => ?_⟩
    rcases List.mem_append.mp hx with hx | hx
    · exact d.all x hx
    · rw [List.mem_singleton.mp hx]; exact hk
  · have pk := p.map (·.2)
    refine ⟨fun x hx => ?_, pk.nodup_iff.mpr (List.nodup_cons.mpr ⟨hk, d.nd⟩), fun x hx => pk.mem_iff.mpr ?_⟩
    · rcases List.mem_cons.mp (p.mem_iff.mp hx) with rfl | hx
      · exact List.mem_append_right _ (List.mem_singleton.mpr rfl)
      · exact List.mem_append_left _ (d.mem x hx)
    · rcases List.mem_append.mp hx with hx | hx
      · exact List.mem_cons_of_mem _ (d.all x hx)
      · rw [List.mem_singleton.mp hx]; exact List.mem_cons_self
theorem lenS {κ : Type} [DecidableEq κ] : ∀ (xs ys : List κ), xs.Nodup → (∀ x ∈ xs, x ∈ ys) → xs.length ≤ ys.length
  | [], _, _, _ => Nat.zero_le _
  | x :: r, ys, hn, hs => by
    have hx := hs x List.mem_cons_self
    have hn' := List.nodup_cons.mp hn
    have ih := lenS r (ys.erase x) hn'.2 fun y hy => (List.mem_erase_of_ne (show y ≠ x from fun z => hn'.1 (z ▸ hy))).mpr (hs y (List.mem_cons_of_mem _ hy))
    rw [List.length_erase_of_mem hx] at ih
    have h0 : 0 < ys.length := List.length_pos_of_mem hx
    simp only [List.length_cons]; omega
theorem Ded.lenU {α κ : Type} [DecidableEq κ] {its L : List (α × κ)} {U : List κ} (d : Ded its L) (h : ∀ x ∈ its, x.2 ∈ U) : L.length ≤ U.length := by
  have h := lenS (L.map Prod.snd) U d.nd fun k hk => by
    obtain ⟨x, hx, e⟩ := List.mem_map.mp hk
    rw [← e]; exact h x (d.mem x hx)
  rwa [List.length_map] at h
theorem Ded.len {α κ : Type} [DecidableEq κ] {its L : List (α × κ)} (d : Ded its L) : L.length ≤ its.length := by
  have h := lenS (L.map Prod.snd) (its.map Prod.snd) d.nd fun k hk => by
    obtain ⟨x, hx, e⟩ := List.mem_map.mp hk
    exact List.mem_map.mpr ⟨x, d.mem x hx, e⟩
  rwa [List.length_map, List.length_map] at h
section
variable {P : Program} {w : World} {κ : Type} [DecidableEq κ] {A : Around} {E : Value → Shared → Prop}
theorem Way.isSet (W : Way P w κ) {h : Heap} {a : Addr} {L : List (Value × κ)} (r : W.R h a L) : ∃ o, h.get? a = some o ∧ o.cls = .type "set" := by
  obtain ⟨o, es, ep, t, ho, hx, _⟩ := W.view r
  exact ⟨o, ho, hx.1⟩
theorem tup_not_set : (Value.type "tuple") ≠ .type "set" := by decide
/-- set.update's own loop, over whatever is walked -/
theorem way_loop (W : Way P w κ) {I : Addr} {fp wr : List Addr} {G : Array GenState → Array GenState → Prop} {n : Nat} {Pv : Nat → Value → Prop} {St : Nat → Shared → Prop} {R : Result → Shared → Prop}
    (Wk : WalksS P w A.in1 I fp wr G n Pv St) (S : Addr) (nofp : S ∉ fp) (its : List (Value × κ)) (hn : n = its.length) (U : List κ) (inU : ∀ x ∈ its, x.2 ∈ U) (few : U.length + 1 < W.most) (rm : W.room A.in1)
    (hval : ∀ i v, Pv i v → ∃ k, its[i]? = some (v, k)) (notup : ∀ i s, St i s → ∀ b ∈ wr, ∀ o, s.heap.get? b = some o → o.cls ≠ .type "tuple") :
    ∀ (k i : Nat) (s : Shared), n - i = k → i ≤ n → St i s → (∀ x ∈ its, W.is s.heap x.2 x.1) → (∃ L, Ded (its.take i) L ∧ W.R s.heap S L) →
      (∀ s' L, Moved (S :: wr) G s s' → Ded its L → W.R s'.heap S L → R (.ok (.ret .none)) s') → codeAny (model P w) A (.builtin "set.update.loop" ⟨[.ref S, .ref I], []⟩) R s := by
  have nowr : S ∉ wr := fun z => nofp (Wk.sub _ z)
  have more : ∀ b ∈ wr, b ∈ S :: wr := fun b z => .tail _ z
  intro k
  induction k with
  | zero =>
    intro i s hk hi st els ⟨L, dd, rL⟩ fin
    obtain rfl : i = n := by omega
    apply codeAny_builtin PyProof.Rows.F.entry_set_update_loop
    rw [Around.under_plainId PyProof.Rows.F.plain_set_update_loop _]
    apply wpAny_bind
    refine Wk.done s _ _ st fun s1 mv => wpAny_pure (fin s1 L (mv.mono more) ?_ (W.move rL fun o e => mv.heap S o nowr e))
    rwa [List.take_of_length_le (by omega)] at dd
  | succ k ih =>
    intro i s hk hi st els ⟨L, dd, rL⟩ fin
    have lt : i < n := by omega
    apply codeAny_builtin PyProof.Rows.F.entry_set_update_loop
    rw [Around.under_plainId PyProof.Rows.F.plain_set_update_loop _]
    apply wpAny_bind
    refine Wk.item i s _ _ lt st fun v s1 pv st1 mv => ?_
    obtain ⟨q, hq⟩ := hval i v pv
    have els1 : ∀ x ∈ its, W.is s1.heap x.2 x.1 := fun x hx => W.carry (els x hx) fun b o e c => mv.heap b o (fun z => notup i s st b z o e c) e
    have r1 : W.R s1.heap S L := W.move rL fun o e => mv.heap S o nowr e
    have lenL : L.length + 1 < W.most := by
      have h1 := dd.lenU (U := U) fun x hx => inU x (List.mem_of_mem_take hx)
      omega
    refine wpAny_bind (wpAny_holding (W.put rm r1 (fun x hx => els1 x (List.mem_of_mem_take (dd.mem x hx))) (els1 (v, q) (List.mem_of_getElem? hq)) lenL fun b h2 tk L2 sb le r2 cs => ?_))
    have keep2 : ∀ b' o, s1.heap.get? b' = some o → b' ≠ S → h2.get? b' = some o := fun b' o e ne => by rw [sb.2 b' ne]; exact e
    have tk2 : its.take (i + 1) = its.take i ++ [(v, q)] := by rw [List.take_add_one, hq]; rfl
    refine wpAny_pure ⟨plainId_quiet PyProof.Rows.F.plain_set_update_loop _, ih (i + 1) _ (by omega) lt (Wk.frame _ s1 _ _ st1 le fun b' hb o e => keep2 b' o e fun z => nofp (z ▸ hb)) (fun x hx => W.carry (els1 x hx) fun b' o e c => keep2 b' o e ?_) ⟨L2, by rw [tk2]; exact dd.step cs, r2⟩ fun s3 L3 mv3 dd3 r3 => ?_⟩
    · intro z
      obtain ⟨o', ho', hc'⟩ := W.isSet r1
      rw [z, ho'] at e
      cases e
      exact tup_not_set (c.symm.trans hc')
    · exact fin s3 L3 (Moved.trans Wk.gtrans ((mv.mono more).then_heap le fun b' o hb e => keep2 b' o e fun z => hb (z ▸ .head _)) mv3) dd3 r3
end
end Sv

namespace Sv
open PySem L2 Evl PyProof.Rows PySem.Spec
section
variable {P : Program} {w : World} {κ : Type} [DecidableEq κ] {A : Around} {E : Value → Shared → Prop} {s : Shared}
/-- set(l), l a list -/
theorem way_call_list (W : Way P w κ) {l : Addr} {arr : Array Value} (its : List (Value × κ)) {Q : Value → Shared → Prop} (quiet : A.handled = none) (rm : W.room A.in1.in1.in1) (isl : s.heap.IsList l arr) (vals : arr.toList = its.map Prod.fst) (U : List κ) (inU : ∀ x ∈ its, x.2 ∈ U) (few : U.length + 1 < W.most)
    (els : ∀ x ∈ its, W.is s.heap x.2 x.1)
    (fin : ∀ (h2 : Heap) (tk : Nat) (L : List (Value × κ)), Ded its L → W.R h2 s.heap.objs.size L → (∀ b o, s.heap.get? b = some o → h2.get? b = some o) → Q (.ref s.heap.objs.size) { s with heap := h2, toks := tk }) :
    wpAny (model P w) A (call (.type "set") [.ref l]) Q E s := by
  have size : arr.size = its.length := by rw [← Array.length_toList, vals, List.length_map]
  obtain ⟨_, _, order⟩ := PySem.F.called_set.mro
  have made := PySem.F.called_set.made
  have below := PySem.F.called_set.sub
  apply wpAny_call
  apply codeAny_of_tree
  show wpAny _ _ (callAny (.type "set") _) _ _ _
  refine wpAny_pure ⟨Code.quiet_builtin _ (by decide +kernel), codeAny_builtin PySem.F.entry_type_call ?_⟩
  rw [Around.under_plain (weight_type_call_type "set" [.ref l] []) rfl]
  have n1 := PySem.F.called_set.notType
  have n2 := PySem.F.called_set.canCreate
  have n3 := PySem.F.typeCall_set_1 (.ref l)
  repeat (any_goals (first | assumption | wp_step))
  refine codeAny_mono (code_set_led1 (.ref l) (E := E) (Q₁ := fun v s1 => v = .ref s.heap.objs.size ∧ s1 = { s with heap := s.heap.push (young w) }) ⟨rfl, rfl⟩) ?_
  rintro (e | fl) s1 got
  · exact got
  cases fl with
  | ret v =>
    obtain ⟨rfl, rfl⟩ := got
    have here : (s.heap.push (young w)).get? s.heap.objs.size = some (young w) := Heap.get?_push_size _ rfl
    have typ : Shared.TypeIs { s with heap := s.heap.push (young w) } (.ref s.heap.objs.size) "set" := ⟨_, here, rfl⟩
    have i1 := PySem.F.called_set.init.lookup
    have i2 := PySem.F.called_set.init.bind (.ref s.heap.objs.size)
    repeat (any_goals (first | assumption | wp_step))
    refine codeAny_mono (codeAny_call_builtin (R := wants (fun r s2 => r = .none ∧ ∃ h2 tk L, s2 = { s with heap := h2, toks := tk } ∧ Ded its L ∧ W.R h2 s.heap.objs.size L ∧ ∀ b o, s.heap.get? b = some o → h2.get? b = some o) E)
      PySem.F.called_set.init.plain PySem.F.entry_set_init (check_set_init_1 typ ?_)) ?_
    · have isl1 : (s.heap.push (young w)).IsList l arr := isl.push _
      obtain ⟨⟨oc, od, ob, os⟩, holds, hc, nn, hd⟩ := isl
      dsimp only at hc hd
      subst hc; subst hd
      have holds1 : (s.heap.push (young w)).get? l = some ⟨.type "list", od, .seq arr nn, os⟩ := Heap.get?_push_of_some _ holds
      have s1 := PySem.F.sub_list_set
      have s2 := PySem.F.sub_list_frozenset
      have s3 : (Value.type "list" == Value.type "dict") = false := by decide
      unfold Builtin.«set.__init__» noKeywords Builtin.Frozenset.updateFrom
      generalize pi : pyIter = pI
      wp_walk
      subst pi
      apply wpAny_pyIter_list isl1
      apply wpAny_bind
      apply wpAny_runValue
      have lt : l < s.heap.objs.size := Heap.lt_size holds
      have sz : (s.heap.push (young w)).objs.size = s.heap.objs.size + 1 := Heap.size_push ..
      have ne1 : l ≠ (s.heap.push (young w)).objs.size := by rw [sz]; exact Nat.ne_of_lt (Nat.lt_succ_of_lt lt)
      have out : s.heap.objs.size ∉ [(s.heap.push (young w)).objs.size, l] := by
        rw [sz]
        exact fun z => (List.mem_cons.mp z).elim (fun e => Nat.ne_of_lt (Nat.lt_succ_self _) e) fun e => Nat.ne_of_gt lt (List.mem_singleton.mp e)
      refine way_loop W ((Walks.list (by simp [quiet]) _ l ne1 arr).toS) s.heap.objs.size out its size U inU few rm (fun i v hv => ?_) (fun i s' st b hb o e c => ?_) (arr.size - 0) 0 _ (by omega) (Nat.zero_le _)
        ?st ?els ?born ?_
      case st => exact ⟨⟨_, Heap.get?_push_size _ rfl, rfl, rfl⟩, isl1.push _⟩
      case els => exact fun x hx => W.carry (els x hx) fun b o e _ => Heap.get?_push_of_some _ (Heap.get?_push_of_some _ e)
      case born => exact ⟨[], by rw [List.take_zero]; exact Ded.nil, W.born (Heap.get?_push_of_some _ here)⟩
      · have e : (its.map Prod.fst)[i]? = some v := by rw [← vals, Array.getElem?_toList]; exact hv
        rw [List.getElem?_map] at e
        obtain ⟨⟨v', k⟩, e1, e2⟩ := Option.map_eq_some_iff.mp e
        cases e2
        exact ⟨k, e1⟩
      · obtain ⟨⟨oI, hoI, cI, _⟩, _⟩ := st
        rw [List.mem_singleton.mp hb, hoI] at e
        cases e
        rw [cI] at c
        exact absurd c (by decide)
      · rintro ⟨h2, g2, d2, tk2, os2⟩ L mv dd rL
        obtain rfl : g2 = s.gens := mv.gens
        obtain rfl : d2 = s.drawn := mv.drawn
        obtain rfl : os2 = s.os := mv.os
        refine wpAny_pure (wpAny_pure ⟨rfl, h2, tk2, L, rfl, dd, rL, fun b o e => mv.heap b o ?_ (Heap.get?_push_of_some _ (Heap.get?_push_of_some _ e))⟩)
        have lb := Heap.lt_size e
        rw [sz]
        exact fun z => (List.mem_cons.mp z).elim (fun e => Nat.ne_of_lt lb e) fun e => Nat.ne_of_lt (Nat.lt_succ_of_lt lb) (List.mem_singleton.mp e)
    · rintro (e | f2) s2 got2
      · exact got2
      cases f2 with
      | ret r =>
        obtain ⟨rfl, h2, tk, L, rfl, dd, rL, kp⟩ := got2
        repeat (any_goals (first | assumption | wp_step))
        exact fin h2 tk L dd rL kp
      | _ => exact got2.elim
  | _ => exact got.elim
/-- set(l), l a tuple -/
theorem way_call_tuple (W : Way P w κ) {l : Addr} {arr : Array Value} (its : List (Value × κ)) {Q : Value → Shared → Prop} (quiet : A.handled = none) (rm : W.room A.in1.in1.in1) (isl : s.heap.IsTuple l arr) (vals : arr.toList = its.map Prod.fst) (U : List κ) (inU : ∀ x ∈ its, x.2 ∈ U) (few : U.length + 1 < W.most)
    (els : ∀ x ∈ its, W.is s.heap x.2 x.1)
    (fin : ∀ (h2 : Heap) (tk : Nat) (L : List (Value × κ)), Ded its L → W.R h2 s.heap.objs.size L → (∀ b o, s.heap.get? b = some o → h2.get? b = some o) → Q (.ref s.heap.objs.size) { s with heap := h2, toks := tk }) :
    wpAny (model P w) A (call (.type "set") [.ref l]) Q E s := by
  have size : arr.size = its.length := by rw [← Array.length_toList, vals, List.length_map]
  obtain ⟨_, _, order⟩ := PySem.F.called_set.mro
  have made := PySem.F.called_set.made
  have below := PySem.F.called_set.sub
  apply wpAny_call
  apply codeAny_of_tree
  show wpAny _ _ (callAny (.type "set") _) _ _ _
  refine wpAny_pure ⟨Code.quiet_builtin _ (by decide +kernel), codeAny_builtin PySem.F.entry_type_call ?_⟩
  rw [Around.under_plain (weight_type_call_type "set" [.ref l] []) rfl]
  have n1 := PySem.F.called_set.notType
  have n2 := PySem.F.called_set.canCreate
  have n3 := PySem.F.typeCall_set_1 (.ref l)
  repeat (any_goals (first | assumption | wp_step))
  refine codeAny_mono (code_set_led1 (.ref l) (E := E) (Q₁ := fun v s1 => v = .ref s.heap.objs.size ∧ s1 = { s with heap := s.heap.push (young w) }) ⟨rfl, rfl⟩) ?_
  rintro (e | fl) s1 got
  · exact got
  cases fl with
  | ret v =>
    obtain ⟨rfl, rfl⟩ := got
    have here : (s.heap.push (young w)).get? s.heap.objs.size = some (young w) := Heap.get?_push_size _ rfl
    have typ : Shared.TypeIs { s with heap := s.heap.push (young w) } (.ref s.heap.objs.size) "set" := ⟨_, here, rfl⟩
    have i1 := PySem.F.called_set.init.lookup
    have i2 := PySem.F.called_set.init.bind (.ref s.heap.objs.size)
    repeat (any_goals (first | assumption | wp_step))
    refine codeAny_mono (codeAny_call_builtin (R := wants (fun r s2 => r = .none ∧ ∃ h2 tk L, s2 = { s with heap := h2, toks := tk } ∧ Ded its L ∧ W.R h2 s.heap.objs.size L ∧ ∀ b o, s.heap.get? b = some o → h2.get? b = some o) E)
      PySem.F.called_set.init.plain PySem.F.entry_set_init (check_set_init_1 typ ?_)) ?_
    · have isl1 : (s.heap.push (young w)).IsTuple l arr := isl.push _
      obtain ⟨⟨oc, od, ob, os⟩, holds, hc, nn, hd⟩ := isl
      dsimp only at hc hd
      subst hc; subst hd
      have holds1 : (s.heap.push (young w)).get? l = some ⟨.type "tuple", od, .seq arr nn, os⟩ := Heap.get?_push_of_some _ holds
      have s1 := PySem.F.sub_tuple_set
      have s2 := PySem.F.sub_tuple_frozenset
      have s3 : (Value.type "tuple" == Value.type "dict") = false := by decide
      unfold Builtin.«set.__init__» noKeywords Builtin.Frozenset.updateFrom
      generalize pi : pyIter = pI
      wp_walk
      subst pi
      apply wpAny_pyIter_tuple isl1
      apply wpAny_bind
      apply wpAny_runValue
      have lt : l < s.heap.objs.size := Heap.lt_size holds
      have sz : (s.heap.push (young w)).objs.size = s.heap.objs.size + 1 := Heap.size_push ..
      have ne1 : l ≠ (s.heap.push (young w)).objs.size := by rw [sz]; exact Nat.ne_of_lt (Nat.lt_succ_of_lt lt)
      have out : s.heap.objs.size ∉ [(s.heap.push (young w)).objs.size, l] := by
        rw [sz]
        exact fun z => (List.mem_cons.mp z).elim (fun e => Nat.ne_of_lt (Nat.lt_succ_self _) e) fun e => Nat.ne_of_gt lt (List.mem_singleton.mp e)
      refine way_loop W ((Walks.tuple (by simp [quiet]) _ l ne1 arr).toS) s.heap.objs.size out its size U inU few rm (fun i v hv => ?_) (fun i s' st b hb o e c => ?_) (arr.size - 0) 0 _ (by omega) (Nat.zero_le _)
        ?st ?els ?born ?_
      case st => exact ⟨⟨_, Heap.get?_push_size _ rfl, rfl, rfl⟩, isl1.push _⟩
      case els => exact fun x hx => W.carry (els x hx) fun b o e _ => Heap.get?_push_of_some _ (Heap.get?_push_of_some _ e)
      case born => exact ⟨[], by rw [List.take_zero]; exact Ded.nil, W.born (Heap.get?_push_of_some _ here)⟩
      · have e : (its.map Prod.fst)[i]? = some v := by rw [← vals, Array.getElem?_toList]; exact hv
        rw [List.getElem?_map] at e
        obtain ⟨⟨v', k⟩, e1, e2⟩ := Option.map_eq_some_iff.mp e
        cases e2
        exact ⟨k, e1⟩
      · obtain ⟨⟨oI, hoI, cI, _⟩, _⟩ := st
        rw [List.mem_singleton.mp hb, hoI] at e
        cases e
        rw [cI] at c
        exact absurd c (by decide)
      · rintro ⟨h2, g2, d2, tk2, os2⟩ L mv dd rL
        obtain rfl : g2 = s.gens := mv.gens
        obtain rfl : d2 = s.drawn := mv.drawn
        obtain rfl : os2 = s.os := mv.os
        refine wpAny_pure (wpAny_pure ⟨rfl, h2, tk2, L, rfl, dd, rL, fun b o e => mv.heap b o ?_ (Heap.get?_push_of_some _ (Heap.get?_push_of_some _ e))⟩)
        have lb := Heap.lt_size e
        rw [sz]
        exact fun z => (List.mem_cons.mp z).elim (fun e => Nat.ne_of_lt lb e) fun e => Nat.ne_of_lt (Nat.lt_succ_of_lt lb) (List.mem_singleton.mp e)
    · rintro (e | f2) s2 got2
      · exact got2
      cases f2 with
      | ret r =>
        obtain ⟨rfl, h2, tk, L, rfl, dd, rL, kp⟩ := got2
        repeat (any_goals (first | assumption | wp_step))
        exact fin h2 tk L dd rL kp
      | _ => exact got2.elim
  | _ => exact got.elim
end
end Sv

/-! The kind of ints and texts. -/
namespace Sv
open PySem L2 Evl PyProof.Rows PySem.Spec
section
variable {P : Program} {w : World}
abbrev rowK (w : World) (x : Value × Key) : Int × Value := (keyH w x.2, x.1)
structure KOk (P : Program) (w : World) (L : List (Value × Key)) : Prop where
  is : ∀ x ∈ L, (mixKind P w).is x.2 x.1 = true ∧ x.1.scannable = true
  nd : (L.map (·.2)).Nodup
def KR (P : Program) (w : World) (h : Heap) (a : Addr) (L : List (Value × Key)) : Prop :=
  ∃ o es ep t, h.get? a = some o ∧ o.ExactSet ∧ o.data = .set es ep t ∧ es.toList = L.map (rowK w) ∧ KOk P w L ∧ es.size < scanBound ∧ t.fits es.size = true ∧ Ris t.place.toList ∧ (w.params.followText "set-order" = true ∨ t.led = true)
theorem kok_elems {L : List (Value × Key)} (k : KOk P w L) : ElemsOf (mixKind P w) (L.map (rowK w)) := fun e he => by
  obtain ⟨x, hx, rfl⟩ := List.mem_map.mp he
  exact ⟨⟨x.2, (k.is x hx).1, rfl⟩, (k.is x hx).2⟩
theorem perm_back {α β : Type} {f : α → β} {m k : List β} (h : m.Perm k) : ∀ l : List α, k = l.map f → ∃ l' : List α, m = l'.map f ∧ l'.Perm l := by
  induction h with
  | nil => exact fun l e => ⟨[], rfl, by rw [List.map_eq_nil_iff.mp e.symm]⟩
  | cons x _ ih =>
    intro l e
    cases l with
    | nil => cases e
    | cons y l =>
      simp only [List.map_cons, List.cons.injEq] at e
      obtain ⟨l', e1, p⟩ := ih l e.2
      exact ⟨y :: l', by rw [List.map_cons, e1, e.1], p.cons y⟩
  | swap x y r =>
    intro l e
    match l, e with
    | a :: b :: l, e =>
      simp only [List.map_cons, List.cons.injEq] at e
      exact ⟨b :: a :: l, by rw [List.map_cons, List.map_cons, e.1, e.2.1, e.2.2], List.Perm.swap ..⟩
  | trans _ _ ih1 ih2 =>
    intro l e
    obtain ⟨l1, e1, p1⟩ := ih2 l e
    obtain ⟨l2, e2, p2⟩ := ih1 l1 e1
    exact ⟨l2, e2, p2.trans p1⟩
variable {A : Around} {E : Value → Shared → Prop} {s : Shared} {a : Addr}
/-- behind the laying of a new row: stored, and laid anew where the table is too full -/
theorem k_tail {g : Bool → Sem Unit} (hg : ∀ (b : Bool) (s1 : Shared) (Q1 : Unit → Shared → Prop), Q1 () s1 → wpAny (model P w) A (g b) Q1 E s1) {o : Obj} {es0 : Array (Int × Value)} {ep : Nat} {t0 : SetTable} (ho : s.heap.get? a = some o) (hx : o.ExactSet) (hd : o.data = .set es0 ep t0)
    {es : Array (Int × Value)} {t : SetTable} {L : List (Value × Key)} (rows : es.toList = L.map (rowK w)) (ok : KOk P w L) (few : es.size < scanBound) (fit : t.fits es.size = true) (ris : Ris t.place.toList) (led : w.params.followText "set-order" = true ∨ t.led = true) {dm : Bool} {R : Option Bool → Shared → Prop}
    (fin : ∀ h' L', Heap.SameBut a s.heap h' → L'.Perm L → KR P w h' a L' → R (some true) { s with heap := h' }) :
    wpAny (model P w) A (do
      storeSet a es t
      if (!dm && t.tooFull) = true then do
          g (relayAll t es (SetTable.grown es.size)).2.2
          storeSet a (relayAll t es (SetTable.grown es.size)).1 (relayAll t es (SetTable.grown es.size)).2.1
          pure (some true)
        else pure (some true)) R E s := by
  apply wpAny_bind
  refine wpAny_storeSet_of ho hd ?_ (fits_of_scanBound few)
  have at1 := store_at (es' := es) (t' := t) ho hd
  have sb := Heap.SameBut.update s.heap a (Obj.putSet es t)
  split
  · have pm := relayAll_perm t es (SetTable.grown es.size)
    have f2 := relayAll_fits t es (SetTable.grown es.size)
    have r2 := relayAll_ris t es (SetTable.grown es.size)
    have l2 := relayAll_led t es (SetTable.grown es.size)
    revert pm f2 r2 l2
    generalize relayAll t es (SetTable.grown es.size) = Z
    obtain ⟨es2, t2, gave⟩ := Z
    intro pm f2 r2 l2
    dsimp only at pm f2 r2 l2 ⊢
    obtain ⟨L2, e2, p2⟩ := perm_back pm L rows
    have sz : es2.size = es.size := by rw [← Array.length_toList, pm.length_eq, Array.length_toList]
    apply wpAny_bind
    apply hg
    apply wpAny_bind
    refine wpAny_storeSet_of at1 rfl ?_ (fits_of_scanBound (by rw [sz]; exact few))
    have at2 := store_at (es' := es2) (t' := t2) at1 rfl
    exact wpAny_pure (fin _ L2 (sb.trans (Heap.SameBut.update _ a _)) p2 ⟨_, es2, _, t2, at2, hx, rfl, e2, ⟨fun x hx => ok.is x (p2.mem_iff.mp hx), (p2.map _).nodup_iff.mpr ok.nd⟩, by rw [sz]; exact few, f2, r2, led.imp id fun z => by rw [l2]; exact z⟩)
  · exact wpAny_pure (fin _ L sb (.refl _) ⟨_, es, _, t, at1, hx, rfl, rows, ok, few, fit, ris, led⟩)
theorem k_hashed {L : List (Value × Key)} {k : Key} {v : Value} {Q : Bool → Shared → Prop} (R : KR P w s.heap a L) (hk : (mixKind P w).is k v = true) (sc : v.scannable = true) (few : L.length + 1 < scanBound)
    (fin : ∀ b h' L', Heap.SameBut a s.heap h' → KR P w h' a L' → ((k ∈ L.map (·.2) ∧ L' = L) ∨ (k ∉ L.map (·.2) ∧ L'.Perm ((v, k) :: L))) → Q b { s with heap := h' }) :
    wpAny (model P w) A (setAddHashed a v ((mixKind P w).hash k)) Q E s := by
  obtain ⟨o, es, ep, t, ho, hx, hd, rows, ok, few0, fit, ris, led⟩ := id R
  have el : ElemsOf (mixKind P w) es.toList := by rw [rows]; exact kok_elems ok
  unfold setAddHashed setAddHashedIn
  apply wpAny_holding
  apply wpAny_bind
  refine wpAny_setState_of ho hd fit ?_
  dsimp only
  rw [byScan_of sc few0 el]
  simp only [↓reduceIte]
  unfold setAddByScan
  apply wpAny_bind
  apply wpAny_bind
  apply wpAny_rule
  apply wpAny_bind
  refine wpAny_setScan_of hk ho hd fit el ?_
  cases found : List.findIdx? (fun e => (mixKind P w).is k e.2) es.toList with
  | some j =>
    dsimp only
    obtain ⟨hj, pj, _⟩ := List.findIdx?_eq_some_iff_getElem.mp found
    have hm : es.toList[j] ∈ L.map (rowK w) := by rw [← rows]; exact List.getElem_mem hj
    obtain ⟨x, hx1, ex⟩ := List.mem_map.mp hm
    have same : x.2 = k := (mixKind P w).inj x.1 x.2 k (ok.is x hx1).1 (by rw [← ex] at pj; exact pj)
    exact wpAny_pure (wpAny_pure (fin _ s.heap L (Heap.SameBut.refl a s.heap) R (.inl ⟨List.mem_map.mpr ⟨x, hx1, same⟩, rfl⟩)))
  | none =>
    dsimp only
    have new : k ∉ L.map (·.2) := fun z => by
      obtain ⟨x, hx1, ex⟩ := List.mem_map.mp z
      have c := List.findIdx?_eq_none_iff.mp found (rowK w x) (by rw [rows]; exact List.mem_map.mpr ⟨x, hx1, rfl⟩)
      have d := (ok.is x hx1).1
      rw [ex] at d
      rw [show ((rowK w x).2) = x.1 from rfl, d] at c
      cases c
    have gw : ∀ (b : Bool) {s1 : Shared} {Q1 : Unit → Shared → Prop}, Q1 () s1 → wpAny (model P w) A (match b with | true => rule "set.scan.the-table-gave-way" | false => pure ()) Q1 E s1 :=
      fun b s1 Q1 q => by cases b <;> first | exact wpAny_pure q | exact wpAny_rule q
    have pm := layNew_perm t es ((mixKind P w).hash k) v
    have f1 := layNew_fits t es ((mixKind P w).hash k) v
    have r1 := layNew_ris t es ((mixKind P w).hash k) v ris
    have l1 := layNew_led t es ((mixKind P w).hash k) v
    revert pm f1 r1 l1
    generalize layNew t es ((mixKind P w).hash k) v = Z
    obtain ⟨es1, t1, dm, gave⟩ := Z
    intro pm f1 r1 l1
    dsimp only at pm f1 r1 l1 ⊢
    rw [Array.toList_push, rows] at pm
    have pm2 : es1.toList.Perm (((v, k) :: L).map (rowK w)) := pm.trans (List.perm_append_singleton _ _)
    obtain ⟨L1, e1, p1⟩ := perm_back pm2 ((v, k) :: L) rfl
    have ok1 : KOk P w L1 := ⟨fun x hx => by
      rcases List.mem_cons.mp (p1.mem_iff.mp hx) with rfl | hx
      · exact ⟨hk, sc⟩
      · exact ok.is x hx, (p1.map _).nodup_iff.mpr (List.nodup_cons.mpr ⟨new, ok.nd⟩)⟩
    have sz : es1.size = L.length + 1 := by rw [← Array.length_toList, pm2.length_eq, List.length_map, List.length_cons]
    have led1 : w.params.followText "set-order" = true ∨ t1.led = true := led.imp id fun z => by rw [l1]; exact z
    have done : ∀ h' L', Heap.SameBut a s.heap h' → L'.Perm L1 → KR P w h' a L' → wpAny (model P w) A (pure true) Q E { s with heap := h' } := fun h' L' sb p r => wpAny_pure (fin _ h' L' sb r (.inr ⟨new, p.trans p1⟩))
    apply wpAny_bind
    apply gw
    split
    · apply wpAny_bind
      rw [hashByValue_scannable 8 sc]
      apply wpAny_pure
      refine k_tail ?_ ho hx hd e1 ok1 (by omega) ?_ ?_ ?_ ?_
      · intro b s1 Q1 q; cases b <;> first | exact wpAny_pure q | exact wpAny_rule q
      · first | (split <;> first | exact f1 | exact SetTable.fits_plain_off f1) | exact f1
      · first | (split <;> exact r1) | exact r1
      · first | (split <;> exact led1) | exact led1
      · intro h' L' sb p r; exact done h' L' sb p r
    · apply wpAny_bind
      apply wpAny_pure
      simp only [↓reduceIte]
      refine k_tail ?_ ho hx hd e1 ok1 (by omega) f1 r1 led1 ?_
      · intro b s1 Q1 q; cases b <;> first | exact wpAny_pure q | exact wpAny_rule q
      · intro h' L' sb p r; exact done h' L' sb p r
def wayK (P : Program) (w : World) : Way P w Key where
  is := fun _ k v => (mixKind P w).is k v = true ∧ v.scannable = true
  room := fun _ => True
  most := scanBound
  R := KR P w
  born := fun {h a} ho => ⟨_, #[], 0, _, ho, ⟨rfl, rfl, rfl⟩, rfl, rfl, ⟨fun x h => (List.not_mem_nil h).elim, List.nodup_nil⟩, by decide, by rfl, List.Pairwise.nil, by
    show _ ∨ (!w.params.followText "set-order") = true
    cases w.params.followText "set-order"
    · exact .inr rfl
    · exact .inl rfl⟩
  move := fun ⟨o, es, ep, t, ho, r⟩ k => ⟨o, es, ep, t, k o ho, r⟩
  carry := fun h _ => h
  put := fun {A E s a L k v Q} _ r _ is few fin => by
    unfold setAdd
    apply wpAny_holding
    apply wpAny_bind
    refine (mixKind P w).pyHash is.1 ?_
    exact k_hashed (s := { s with toks := s.toks + 1 }) r is.1 is.2 few fun b h' L' sb r' cs => fin b h' _ L' sb (Nat.le_succ _) r' cs
  view := fun ⟨o, es, ep, t, ho, hx, hd, rows, ok, few, fit, ris, led⟩ => ⟨o, es, ep, t, ho, hx, hd, fit, few, ris, led, by rw [rows, List.map_map]; rfl⟩
end
end Sv

/-! sorted(set(xs)), len(set(xs)) as rules over data. -/
namespace Sv
open PySem L2 Evl PyProof.Rows PySem.Spec
open PySem.W (dataLe dataLt alike alikeAll keyToks)
/-! ### the order of data -/
theorem not_f {b : Bool} (h : (!b) = true) : b = false := by cases b <;> first | rfl | cases h
theorem le_total' (a b : PyData) : (dataLe false id a b || dataLe false id b a) = true := by
  show (!dataLt b a || !dataLt a b) = true
  cases h1 : dataLt b a with
  | false => rfl
  | true =>
    cases h2 : dataLt a b with
    | false => rfl
    | true =>
      have := lex_trans (O := itemOrd) _ _ _ h1 h2
      rw [lex_irrefl (O := itemOrd)] at this
      cases this
theorem le_trans' (a b c : PyData) (h1 : dataLe false id a b = true) (h2 : dataLe false id b c = true) : dataLe false id a c = true := by
  have e1 : dataLt b a = false := not_f (show (!dataLt b a) = true from h1)
  have e2 : dataLt c b = false := not_f (show (!dataLt c b) = true from h2)
  show (!dataLt c a) = true
  cases h : dataLt c a with
  | false => rfl
  | true =>
    rcases lex_negTrans (O := itemOrd) _ (keyToks b) _ h with z | z
    · rw [show PyProof.Rows.lexLt itemOrd (keyToks c) (keyToks b) = dataLt c b from rfl, e2] at z; cases z
    · rw [show PyProof.Rows.lexLt itemOrd (keyToks b) (keyToks a) = dataLt b a from rfl, e1] at z; cases z
theorem le_same {a b : PyData} (hal : alike a b = true) (h1 : dataLe false id a b = true) (h2 : dataLe false id b a = true) : PyData.eqv a b = true := by
  have e1 : dataLt b a = false := not_f (show (!dataLt b a) = true from h1)
  have e2 : dataLt a b = false := not_f (show (!dataLt a b) = true from h2)
  have e : keyToks a = keyToks b := lex_total (O := itemOrd) _ _ e2 e1
  cases h : PyData.eqv a b with
  | true => rfl
  | false =>
    have z := (PySem.W.toks_eqv a b hal).2 h [] [Sum.inl 0]
    rw [e, List.append_nil, lex_irrefl (O := itemOrd)] at z
    have y := PySem.W.lex_pre (keyToks b) [] [Sum.inl 0]
    rw [List.append_nil, z] at y
    exact absurd y (by decide)
/-- one order for all rearrangements -/
theorem srt_perm {ds es : List PyData} (p : ds.Perm es) (hs : ∀ a ∈ ds, ∀ b ∈ ds, alike a b = true) (he : ∀ a ∈ ds, ∀ b ∈ ds, PyData.eqv a b = true → a = b) : srt ds = srt es := by
  have p1 : (srt ds).Perm ds := List.mergeSort_perm ..
  have p2 : (srt es).Perm es := List.mergeSort_perm ..
  refine List.Perm.eq_of_pairwise (le := fun a b => dataLe false id a b = true) (fun a b ha hb h1 h2 => ?_) (List.pairwise_mergeSort le_trans' le_total' ds) (List.pairwise_mergeSort le_trans' le_total' es) (p1.trans (p.trans p2.symm))
  have ha := p1.mem_iff.mp ha
  have hb := p.mem_iff.mpr (p2.mem_iff.mp hb)
  exact he a ha b hb (le_same (hs a ha b hb) h1 h2)
/-! ### the set in the abstract heap -/
section
variable {κ : Type} [DecidableEq κ] {X : Cx}
def SetHO {P : Program} {w : World} (W : Way P w κ) (a : Addr) (L : List (V × κ)) : HO := .ext fun h => ∃ L', Vals (L.map Prod.fst) (L'.map Prod.fst) ∧ L'.map Prod.snd = L.map Prod.snd ∧ W.R h a L'
theorem setHO_new {P : Program} {w : World} {W : Way P w κ} {H : Hp} {h : Heap} {a : Addr} {L : List (V × κ)} (R : ∃ L', Vals (L.map Prod.fst) (L'.map Prod.fst) ∧ L'.map Prod.snd = L.map Prod.snd ∧ W.R h a L') : ObjOk P w H h a (SetHO W a L) := by
  obtain ⟨L', h1, h2, h3⟩ := id R
  obtain ⟨o, ho, _⟩ := W.isSet h3
  exact ⟨R, ⟨o, ho⟩, fun g1 g2 ⟨M, m1, m2, m3⟩ k => ⟨M, m1, m2, W.move m3 k⟩⟩
theorem vals_of : ∀ {ps : List (V × κ)} {us : List Value}, Vals (ps.map Prod.fst) us → ∃ its : List (Value × κ), its.map Prod.fst = us ∧ its.map Prod.snd = ps.map Prod.snd ∧ ∀ x ∈ its, ∃ p ∈ ps, RelV p.1 x.1 ∧ p.2 = x.2
  | [], us, r => by cases r; exact ⟨[], rfl, rfl, fun x h => nomatch h⟩
  | p :: ps, us, r => by
    cases r with
    | cons r rr =>
      obtain ⟨its, h1, h2, h3⟩ := vals_of rr
      refine ⟨(_, p.2) :: its, by rw [List.map_cons, h1], by rw [List.map_cons, List.map_cons, h2], fun x hx => ?_⟩
      rcases List.mem_cons.mp hx with rfl | hx
      · exact ⟨p, List.mem_cons_self, r, rfl⟩
      · obtain ⟨q, hq, z⟩ := h3 x hx
        exact ⟨q, List.mem_cons_of_mem _ hq, z⟩
theorem vals_back {ps : List (V × κ)} : ∀ {M : List (Value × κ)}, (∀ x ∈ M, ∃ p ∈ ps, RelV p.1 x.1 ∧ p.2 = x.2) → ∃ L : List (V × κ), Vals (L.map Prod.fst) (M.map Prod.fst) ∧ M.map Prod.snd = L.map Prod.snd ∧ ∀ y ∈ L, y ∈ ps
  | [], _ => ⟨[], .nil, rfl, fun y h => nomatch h⟩
  | x :: M, h => by
    obtain ⟨p, hp, r, e⟩ := h x List.mem_cons_self
    obtain ⟨L, h1, h2, h3⟩ := vals_back (M := M) fun y hy => h y (List.mem_cons_of_mem _ hy)
    refine ⟨p :: L, .cons r h1, by rw [List.map_cons, List.map_cons, h2, e], fun y hy => ?_⟩
    rcases List.mem_cons.mp hy with rfl | hy
    · exact hp
    · exact h3 y hy
/-- set(l): the values' keys are known -/
def rSetW (K : Fg) {P : Program} {w : World} (W : Way P w κ) (kv : Hp → κ → V → Prop) : List V → Hp → VK → Prop := fun xs H Q => ∃ (l : Addr) (ps : List (V × κ)), xs = [.ref l] ∧ (SqL K H l (ps.map Prod.fst) ∨ SqT K H l (ps.map Prod.fst)) ∧ (∀ p ∈ ps, kv H p.2 p.1) ∧ (∃ U : List κ, (∀ p ∈ ps, p.2 ∈ U) ∧ U.length + 1 < W.most) ∧
  ∀ p L, H p = none → Ded ps L → Q (.ref p) (upd H p (SetHO W p L))
theorem cr_setW (W : Way X.prog X.w κ) {kv : Hp → κ → V → Prop} (sound : ∀ {pins : List (Addr × Obj)} {σ : L2.St} {H : Hp} {s : Shared} {k : κ} {x : V} {u : Value}, Inv X pins σ H s → kv H k x → RelV x u → W.is s.heap k u) (hc : X.calm = true) (rm : W.room X.A.in1.in1.in1) : CallR X (.type "set") (rSetW X.K W kv) := by
  intro pins s σ H xs us Q I r h
  obtain ⟨l, ps, rfl, hs, hk, ⟨U, inU, few⟩, q⟩ := h
  obtain ⟨u, rfl, rx⟩ := vals1 r
  cases rx
  have go : ∀ {arr : List Value}, Vals (ps.map Prod.fst) arr → ∃ its : List (Value × κ), arr.toArray.toList = its.map Prod.fst ∧ (∀ x ∈ its, x.2 ∈ U) ∧ (∀ x ∈ its, W.is s.heap x.2 x.1) ∧
      (∀ (h2 : Heap) (tk : Nat) (M : List (Value × κ)), Ded its M → W.R h2 s.heap.objs.size M → (∀ b o, s.heap.get? b = some o → h2.get? b = some o) → EP X pins σ Q (.ref s.heap.objs.size) { s with heap := h2, toks := tk }) := fun {arr} rv => by
    obtain ⟨its, e1, e2, e3⟩ := vals_of rv
    refine ⟨its, e1.symm, fun x hx => by
      obtain ⟨p, hp, _, ek⟩ := e3 x hx
      rw [← ek]; exact inU p hp, fun x hx => ?_, fun h2 tk M dd rM kp => ?_⟩
    · obtain ⟨p, hp, rp, ek⟩ := e3 x hx
      rw [← ek]
      exact sound I (hk p hp) rp
    · obtain ⟨L, l1, l2, l3⟩ := vals_back (ps := ps) fun x hx => e3 x (dd.mem x hx)
      refine ⟨.ref s.heap.objs.size, upd H s.heap.objs.size (SetHO W s.heap.objs.size L), I.laid (t' := tk) kp (Nat.le_refl _) (setHO_new ⟨M, l1, l2, rM⟩), rfl, q _ L (I.hok.fresh (Nat.le_refl _)) ⟨l3, by
        show (L.map Prod.snd).Nodup
        rw [← l2]; exact dd.nd, fun p hp => ?_⟩⟩
      show p.2 ∈ L.map Prod.snd
      rw [← l2]
      have : p.2 ∈ its.map Prod.snd := by rw [e2]; exact List.mem_map.mpr ⟨p, hp, rfl⟩
      obtain ⟨x, hx, ex⟩ := List.mem_map.mp this
      rw [← ex]
      exact dd.all x hx
  rcases hs with hs | hs
  · obtain ⟨arr, rv, pl, hz⟩ := I.list hs
    obtain ⟨its, g1, g2, g3, g4⟩ := go rv
    exact way_call_list W its (I.ok.hd hc) rm pl.isList g1 U g2 few g3 g4
  · obtain ⟨arr, rv, pl, hz⟩ := I.tuple hs
    obtain ⟨its, g1, g2, g3, g4⟩ := go rv
    exact way_call_tuple W its (I.ok.hd hc) rm pl g1 U g2 few g3 g4
/-- len(set) -/
def rLenW {P : Program} {w : World} (W : Way P w κ) : List V → Hp → VK → Prop := fun xs H Q => ∃ (a : Addr) (L : List (V × κ)), xs = [.ref a] ∧ H a = some (SetHO W a L) ∧ Q (.int L.length) H
theorem cr_lenW (W : Way X.prog X.w κ) : CallR X (.builtin "len") (rLenW W) := by
  intro pins s σ H xs us Q I r h
  obtain ⟨a, L, rfl, ha, q⟩ := h
  obtain ⟨u, rfl, rx⟩ := vals1 r
  cases rx
  obtain ⟨L', h1, h2, h3⟩ := (I.hok a _ ha).1
  obtain ⟨o, es, ep, t, ho, hx, hd, hf, hsz, _, _, he⟩ := W.view h3
  have n1 : es.size = L.length := by
    have e1 := congrArg List.length he
    have e2 := congrArg List.length h2
    simp only [List.length_map, Array.length_toList] at e1 e2
    omega
  refine call_len_set ho hx hd hf (by have : scanBound = 4096 := rfl; omega) ⟨.int L.length, H, I.tok _, ⟨_, by rw [n1]⟩, q⟩
/-- sorted(set) -/
def rSortW (K : Fg) {P : Program} {w : World} (W : Way P w κ) : List V → Hp → VK → Prop := fun xs H Q => ∃ (a : Addr) (L : List (V × κ)) (dk : κ → PyData), xs = [.ref a] ∧ H a = some (SetHO W a L) ∧ (∀ ks ys : List _, (ys.zip ks).Perm L → ys.length = ks.length → DpAll K H ys (ks.map dk)) ∧ SortOk (L.map fun x => dk x.2) ∧
  ∀ p zs ys ks, H p = none → (ys.zip ks).Perm L → ys.length = ks.length → SortedAs ys (ks.map dk) zs (srt (ks.map dk)) → Q (.ref p) (upd H p (.lst zs))
theorem SortOk.perm {ds es : List PyData} (p : es.Perm ds) (h : SortOk ds) : SortOk es := by
  obtain ⟨h1, h2, h3, h4⟩ := h
  refine ⟨fun d hd e he => h1 d (p.mem_iff.mp hd) e (p.mem_iff.mp he), ?_, by rw [p.length_eq]; exact h3, fun d hd => h4 d (p.mem_iff.mp hd)⟩
  rcases h2 with h2 | h2
  · exact .inl fun d hd => h2 d (p.mem_iff.mp hd)
  · exact .inr fun d hd => h2 d (p.mem_iff.mp hd)
theorem zip_self {α β : Type} : ∀ (l : List (α × β)), (l.map Prod.fst).zip (l.map Prod.snd) = l
  | [] => rfl
  | x :: l => by simp only [List.map_cons, List.zip_cons_cons, zip_self l]
theorem vals_perm : ∀ {out : List Value} {L : List (V × κ)} {us : List Value}, Vals (L.map Prod.fst) us → out.Perm us → ∃ N : List (V × κ), N.Perm L ∧ Vals (N.map Prod.fst) out := fun {out L us} rv p => by
  induction p generalizing L with
  | nil => cases L with
    | nil => exact ⟨[], .refl _, .nil⟩
    | cons _ _ => cases rv
  | cons x _ ih => cases L with
    | nil => cases rv
    | cons y L =>
      cases rv with
      | cons r rr =>
        obtain ⟨N, n1, n2⟩ := ih rr
        exact ⟨y :: N, n1.cons y, .cons r n2⟩
  | swap x y l => match L, rv with
    | a :: b :: L, .cons r1 (.cons r2 rr) => exact ⟨b :: a :: L, .swap .., .cons r2 (.cons r1 rr)⟩
  | trans _ _ ih1 ih2 =>
    obtain ⟨N, n1, n2⟩ := ih2 rv
    obtain ⟨M, m1, m2⟩ := ih1 n2
    exact ⟨M, m1.trans n1, m2⟩
theorem cr_sortW (W : Way X.prog X.w κ) (hc : X.calm = true) (hu : X.A.units + 64 < cLine) : CallR X (.builtin "sorted") (rSortW X.K W) := by
  intro pins s σ H xs us Q I r h
  obtain ⟨a, L, dk, rfl, ha, dp, ok, q⟩ := h
  obtain ⟨u, rfl, rx⟩ := vals1 r
  cases rx
  obtain ⟨L', h1, h2, h3⟩ := (I.hok a _ ha).1
  obtain ⟨o, es, ep, t, ho, hx, hd, hf, hsz, ris, led, he⟩ := W.view h3
  refine Calls.call_function_entry PyProof.Rows.kind_sorted PyProof.Rows.plain_sorted PyProof.Rows.entry_sorted (PyProof.Rows.args_sorted1 _) ?_
  unfold Builtin.«sorted»
  refine wpAny_bind (m := checkCount "sorted" 1 1 _) (wpAny_pure ?_)
  apply wpAny_bind
  refine collect_set (A := X.A.in1) (I.ok.hd hc) ⟨o, ho, hx.1, hd⟩ hf hsz ris led fun s' out k1 le g1 o1 pm => ?_
  rw [he] at pm
  obtain ⟨N, pN, rN⟩ := vals_perm h1 pm
  obtain ⟨hp', g', d', tk', os'⟩ := s'
  obtain rfl : g' = s.gens := g1
  obtain rfl : os' = s.os := o1
  have I1 : L2.Inv X pins σ H { s with heap := hp', drawn := d', toks := tk' } := I.call (ch := []) (Un.kept k1) (I.hok.kept k1) I.bare (fun _ z => nomatch z)
  have nz : (N.map Prod.fst).zip (N.map Prod.snd) = N := zip_self N
  have nl : (N.map Prod.fst).length = (N.map Prod.snd).length := by simp
  have pd : ((N.map Prod.snd).map dk).Perm (L.map fun x => dk x.2) := by rw [List.map_map]; exact pN.map _
  exact sort_tail (A := X.A.in1) hu I1 rN (dp _ _ (by rw [nz]; exact pN) nl) (ok.perm pd) (fun p zs hp sa => q p zs _ _ hp (by rw [nz]; exact pN) nl sa) (by show X.A.units + 1 ≤ _; omega)
end
end Sv

/-! sorted(set(..)), len(set(..)) over data. -/
namespace Sv
open PySem L2 Evl
open PySem.W (dataLe dataLt alike alikeAll keyToks)
def ddup {α : Type} [DecidableEq α] (xs : List α) : List α := xs.foldl (fun acc x => if x ∈ acc then acc else acc ++ [x]) []
section
variable {α : Type} [DecidableEq α]
theorem ddup_go : ∀ (xs acc : List α), acc.Nodup → (xs.foldl (fun acc x => if x ∈ acc then acc else acc ++ [x]) acc).Nodup ∧ ∀ y, y ∈ xs.foldl (fun acc x => if x ∈ acc then acc else acc ++ [x]) acc ↔ y ∈ acc ∨ y ∈ xs
  | [], acc, h => ⟨h, fun y => by simp⟩
  | x :: xs, acc, h => by
    simp only [List.foldl_cons]
    by_cases hx : x ∈ acc
    · rw [if_pos hx]
      obtain ⟨h1, h2⟩ := ddup_go xs acc h
      refine ⟨h1, fun y => (h2 y).trans ?_⟩
      rw [List.mem_cons]
      exact ⟨fun z => z.imp id .inr, fun z => z.elim .inl fun z => z.elim (fun e => .inl (e ▸ hx)) .inr⟩
    · rw [if_neg hx]
      obtain ⟨h1, h2⟩ := ddup_go xs (acc ++ [x]) (by
        rw [List.nodup_append]
        exact ⟨h, by simp, fun a ha b hb e => hx (by rw [← List.mem_singleton.mp hb, ← e]; exact ha)⟩)
      refine ⟨h1, fun y => (h2 y).trans ?_⟩
      simp only [List.mem_append, List.mem_cons, List.mem_singleton, List.not_mem_nil, or_false]
      exact ⟨fun z => z.elim (fun z => z.imp id .inl) fun z => .inr (.inr z), fun z => z.elim (fun z => .inl (.inl z)) fun z => z.elim (fun z => .inl (.inr z)) .inr⟩
theorem ddup_nd (xs : List α) : (ddup xs).Nodup := (ddup_go xs [] List.nodup_nil).1
theorem ddup_mem (xs : List α) (y : α) : y ∈ ddup xs ↔ y ∈ xs := by
  have := (ddup_go xs [] List.nodup_nil).2 y
  simpa [ddup] using this
theorem ddup_self {xs : List α} (h : xs.Nodup) : ddup xs = xs := by
  have go : ∀ (xs acc : List α), (acc ++ xs).Nodup → xs.foldl (fun acc x => if x ∈ acc then acc else acc ++ [x]) acc = acc ++ xs := fun xs => by
    induction xs with
    | nil => intro acc _; simp
    | cons x xs ih =>
      intro acc h
      have hx : x ∉ acc := fun z => (List.nodup_append.mp h).2.2 x z x List.mem_cons_self rfl
      rw [List.foldl_cons, if_neg hx, ih (acc ++ [x]) (by rwa [List.append_assoc, List.singleton_append]), List.append_assoc, List.singleton_append]
  have := go xs [] (by simpa using h)
  simpa [ddup] using this
theorem ddup_len (xs : List α) : (ddup xs).length ≤ xs.length := lenS _ _ (ddup_nd xs) fun x hx => (ddup_mem xs x).mp hx
end
/-- data that are keys of a kind -/
structure DKind (κ : Type) where
  dk : κ → PyData
  kd : PyData → Option κ
  back : ∀ {d k}, kd d = some k → d = dk k
  inj : ∀ k k', PyData.eqv (dk k) (dk k') = true → k = k'
def kds {κ : Type} (kd : PyData → Option κ) : List PyData → Option (List κ)
  | [] => some []
  | d :: ds => match kd d with
    | none => none
    | some k => match kds kd ds with
      | none => none
      | some ks => some (k :: ks)
theorem kds_some {κ : Type} (D : DKind κ) : ∀ {ds : List PyData} {ks : List κ}, kds D.kd ds = some ks → ds = ks.map D.dk
  | [], ks, h => by cases h; rfl
  | d :: ds, ks, h => by
    unfold kds at h
    split at h
    · cases h
    · rename_i k hk
      split at h
      · cases h
      · rename_i ks' hks
        cases h
        rw [D.back hk, kds_some D hks]; rfl
section
variable {κ : Type} [DecidableEq κ]
def setItems (D : DKind κ) (most : Nat) (d : PyData) : Option (List κ) := (itemsOf d).bind fun ds => (kds D.kd ds).bind fun ks => if (ddup ks).length < most then some ks else none
def sortSetD (D : DKind κ) (most : Nat) (d : PyData) : Option PyData := (setItems D most d).bind fun ks => if sortOkB ((ddup ks).map D.dk) then some (.list (srt ((ddup ks).map D.dk))) else none
def lenSetD (D : DKind κ) (most : Nat) (d : PyData) : Option PyData := (setItems D most d).map fun ks => .int (ddup ks).length
variable {K : Fg} {P : Program} {w : World} {W : Way P w κ} {kv : Hp → κ → V → Prop} {D : DKind κ}
theorem setItems_some {most : Nat} {d : PyData} {ks : List κ} (h : setItems D most d = some ks) : (d = .list (ks.map D.dk) ∨ d = .tuple (ks.map D.dk)) ∧ (ddup ks).length < most := by
  unfold setItems at h
  obtain ⟨ds, h1, h⟩ := bind_some' h
  obtain ⟨ks', h2, h⟩ := bind_some' h
  split at h
  · rename_i hl
    cases h
    have e := kds_some D h2
    refine ⟨?_, hl⟩
    unfold itemsOf at h1
    split at h1
    · cases h1; exact .inl (by rw [e])
    · cases h1; exact .inr (by rw [e])
    · cases h1
  · cases h
theorem pairs_of {H : Hp} {A : Av} : ∀ {ks : List κ} {vs : List V}, RepL K H A (ks.map D.dk) vs → ∃ ps : List (V × κ), ps.map Prod.fst = vs ∧ ps.map Prod.snd = ks ∧ ∀ p ∈ ps, Rep K H A (D.dk p.2) p.1
  | [], vs, r => by
    have : vs = [] := by simpa only [List.map_nil, RepL] using r
    subst this
    exact ⟨[], rfl, rfl, fun p h => nomatch h⟩
  | k :: ks, vs, r => by
    simp only [List.map_cons, RepL] at r
    obtain ⟨y, ys, rfl, h1, h2⟩ := r
    obtain ⟨ps, e1, e2, e3⟩ := pairs_of h2
    refine ⟨(y, k) :: ps, by rw [List.map_cons, e1], by rw [List.map_cons, e2], fun p hp => ?_⟩
    rcases List.mem_cons.mp hp with rfl | hp
    · exact h1
    · exact e3 p hp
theorem repL_pairs {H : Hp} {A : Av} : ∀ {ys : List V} {ks : List κ}, ys.length = ks.length → (∀ p ∈ ys.zip ks, Rep K H A (D.dk p.2) p.1) → RepL K H A (ks.map D.dk) ys
  | [], [], _, _ => RepL.nil
  | y :: ys, k :: ks, hl, h => RepL.cons (h (y, k) List.mem_cons_self) (repL_pairs (by simpa using hl) fun p hp => h p (List.mem_cons_of_mem _ hp))
  | [], _ :: _, hl, _ => by simp at hl
  | _ :: _, [], hl, _ => by simp at hl
/-- the set is made: its members are data of the kind -/
theorem ef_set (hkv : ∀ {H : Hp} {A : Av} {k : κ} {v : V}, AvOk A H → Rep K H A (D.dk k) v → kv H k v) {most : Nat} (hm : most < W.most) {ta : TE} {fa : Rho → Option PyData} (ha : EB K ta fa) {A : Av} {ρ : Rho} {σ : St} {H : Hp} {ks : List κ} (rs : RS K A ρ σ H) (e : (fa ρ).bind (setItems D most) = some ks) {H1 : Hp} (e1 : Ex H H1) {Q : VK}
    (q : ∀ p L H2, Ex H1 H2 → H2 p = none → (L.map Prod.snd).Perm (ddup ks) → (∀ x ∈ L, Rep K H2 A (D.dk x.2) x.1) → AvOk A H2 → Q (.ref p) (upd H2 p (SetHO W p L))) : tCB (rSetW K W kv) (tCons ta tNil) σ H1 Q := by
  obtain ⟨d, ed, ei⟩ := bind_some' e
  obtain ⟨hd, hl⟩ := setItems_some ei
  refine ha A ρ σ H d rs ed H1 e1 _ fun v H2 e2 r2 => ?_
  have ok : AvOk A H2 := (rs.av.mono e1).mono e2
  have main : ∀ {l : Addr} {vs : List V}, v = .ref l → (SqL K H2 l vs ∨ SqT K H2 l vs) → RepL K H2 A (ks.map D.dk) vs → rSetW K W kv [v] H2 Q := fun {l vs} hv hs r => by
    obtain ⟨ps, p1, p2, p3⟩ := pairs_of r
    have pl : ps.length = ks.length := by rw [← p2, List.length_map]
    refine ⟨l, ps, by rw [hv], by rw [p1]; exact hs, fun p hp => hkv ok (p3 p hp), ⟨ddup ks, fun p hp => (ddup_mem ks _).mpr (by rw [← p2]; exact List.mem_map.mpr ⟨p, hp, rfl⟩), by omega⟩, fun p L hp dd => q p L H2 e2 hp ?_ (fun x hx => p3 x (dd.mem x hx)) ok⟩
    refine (List.perm_ext_iff_of_nodup dd.nd (ddup_nd ks)).mpr fun k => ?_
    rw [ddup_mem, ← p2]
    refine ⟨fun hk => ?_, fun hk => ?_⟩
    · obtain ⟨x, hx, ex⟩ := List.mem_map.mp hk
      exact List.mem_map.mpr ⟨x, dd.mem x hx, ex⟩
    · obtain ⟨x, hx, ex⟩ := List.mem_map.mp hk
      rw [← ex]; exact dd.all x hx
  rcases hd with rfl | rfl
  · obtain ⟨a, xs, rfl, h1, r1⟩ := r2.lst
    exact main rfl (.inl (SqL.of h1)) r1
  · obtain ⟨a, xs, rfl, h1, r1⟩ := r2.tup
    exact main rfl (.inr h1) r1
theorem Ex.upd_new {H : Hp} {p : Addr} {o : HO} (h : H p = none) : Ex H (upd H p o) := Ex.new h
theorem ef_lenset (hkv : ∀ {H : Hp} {A : Av} {k : κ} {v : V}, AvOk A H → Rep K H A (D.dk k) v → kv H k v) {most : Nat} (hm : most < W.most) {ta : TE} {fa : Rho → Option PyData} (ha : EB K ta fa) : EF K (tCB (rLenW W) (tCons (tCB (rSetW K W kv) (tCons ta tNil)) tNil)) (fun ρ => (fa ρ).bind (lenSetD D most)) := fun A ρ σ H z rs e H1 e1 Q q => by
  obtain ⟨d, ed, eg⟩ := bind_some' e
  obtain ⟨ks, ek, rfl⟩ := map_some' eg
  refine ef_set (D := D) hkv hm ha rs (ks := ks) (by rw [ed]; exact ek) e1 fun p L H2 ex hp pm rp ok => ?_
  have len : L.length = (ddup ks).length := by rw [← pm.length_eq, List.length_map]
  refine ⟨p, L, rfl, upd_same, ?_⟩
  rw [len]
  exact q _ _ (ex.trans (Ex.new hp)) rep_int
theorem ef_sortset (hkv : ∀ {H : Hp} {A : Av} {k : κ} {v : V}, AvOk A H → Rep K H A (D.dk k) v → kv H k v) {most : Nat} (hm : most < W.most) {ta : TE} {fa : Rho → Option PyData} (ha : EB K ta fa) : EF K (tCB (rSortW K W) (tCons (tCB (rSetW K W kv) (tCons ta tNil)) tNil)) (fun ρ => (fa ρ).bind (sortSetD D most)) := fun A ρ σ H z rs e H1 e1 Q q => by
  obtain ⟨d, ed, eg⟩ := bind_some' e
  obtain ⟨ks, ek, eg⟩ := bind_some' eg
  split at eg
  · rename_i hb
    cases eg
    have so := sortOk_of hb
    refine ef_set (D := D) hkv hm ha rs (ks := ks) (by rw [ed]; exact ek) e1 fun p L H2 ex hp pm rp ok => ?_
    have ok3 : AvOk A (upd H2 p (SetHO W p L)) := ok.mono (Ex.new hp)
    have rp3 : ∀ x ∈ L, Rep K (upd H2 p (SetHO W p L)) A (D.dk x.2) x.1 := fun x hx => (rp x hx).mono ok (Ex.new hp)
    have pd : (L.map fun x => D.dk x.2).Perm ((ddup ks).map D.dk) := by
      have := pm.map D.dk
      rwa [List.map_map] at this
    have good : ∀ (ks' : List κ) (ys : List V), (ys.zip ks').Perm L → ys.length = ks'.length → RepL K (upd H2 p (SetHO W p L)) A (ks'.map D.dk) ys ∧ (ks'.map D.dk).Perm ((ddup ks).map D.dk) := fun ks' ys pz hl => by
      refine ⟨repL_pairs hl fun x hx => rp3 x (pz.mem_iff.mp hx), ?_⟩
      have := (pz.map Prod.snd).trans pm
      rw [List.map_snd_zip (by omega)] at this
      exact this.map D.dk
    refine ⟨p, L, D.dk, rfl, upd_same, fun ks' ys pz hl => ?_, so.perm pd, fun p2 zs ys ks' hp2 pz hl sa => ?_⟩
    · obtain ⟨r, pk⟩ := good ks' ys pz hl
      exact repL_dp (fun d hd => so.1 d (pk.mem_iff.mp hd) d (pk.mem_iff.mp hd)) r
    · obtain ⟨r, pk⟩ := good ks' ys pz hl
      have es : srt (ks'.map D.dk) = srt ((ddup ks).map D.dk) := srt_perm pk (fun a ha b hb => so.1 a (pk.mem_iff.mp ha) b (pk.mem_iff.mp hb)) fun a ha b hb he => by
        obtain ⟨k1, _, rfl⟩ := List.mem_map.mp ha
        obtain ⟨k2, _, rfl⟩ := List.mem_map.mp hb
        rw [D.inj k1 k2 he]
      rw [es] at sa
      have rz := sorted_rep r sa
      exact q _ _ ((ex.trans (Ex.new hp)).trans (Ex.new hp2)) (rep_newL ok3 hp2 rz)
  · cases eg
end
/-! ### ints and texts -/
def keyKind : DKind Key where
  dk := kD
  kd := toK
  back := fun {d k} h => by
    cases d with
    | int i => cases h; rfl
    | str s => cases h; rfl
    | _ => cases h
  inj := fun k k' h => by
    cases k with
    | inl i => cases k' with
      | inl j => simp [kD, PyData.eqv] at h; rw [h]
      | inr j => simp [kD, PyData.eqv] at h
    | inr i => cases k' with
      | inl j => simp [kD, PyData.eqv] at h
      | inr j => simp [kD, PyData.eqv] at h; rw [h]
def kvK : Hp → Key → V → Prop := fun _ k v => v = kV k
theorem cr_setK {X : Cx} (K : Fg) (P : Program) (w : World) (h : X.K = K) (hP : X.prog = P) (hw : X.w = w) (hc : X.calm = true) : CallR X (.type "set") (rSetW K (wayK P w) kvK) := by
  subst h; subst hP; subst hw
  exact cr_setW (wayK X.prog X.w) (fun I e r => by cases e; exact ⟨kV_is r, key_scan r⟩) hc trivial
theorem cr_lenK {X : Cx} (P : Program) (w : World) (hP : X.prog = P) (hw : X.w = w) : CallR X (.builtin "len") (rLenW (wayK P w)) := by
  subst hP; subst hw
  exact cr_lenW _
theorem cr_sortSK {X : Cx} (K : Fg) (P : Program) (w : World) (h : X.K = K) (hP : X.prog = P) (hw : X.w = w) (hc : X.calm = true) (hu : X.A.units + 64 < cLine) : CallR X (.builtin "sorted") (rSortW K (wayK P w)) := by
  subst h; subst hP; subst hw
  exact cr_sortW _ hc hu
theorem ef_sortK {K : Fg} {P : Program} {w : World} {ta : TE} {fa : Rho → Option PyData} (ha : EB K ta fa) : EF K (tCB (rSortW K (wayK P w)) (tCons (tCB (rSetW K (wayK P w) kvK) (tCons ta tNil)) tNil)) (fun ρ => (fa ρ).bind (sortSetD keyKind 1001)) := ef_sortset (fun _ r => rep_key r) (by show 1001 < scanBound; decide) ha
theorem ef_lenK {K : Fg} {P : Program} {w : World} {ta : TE} {fa : Rho → Option PyData} (ha : EB K ta fa) : EF K (tCB (rLenW (wayK P w)) (tCons (tCB (rSetW K (wayK P w) kvK) (tCons ta tNil)) tNil)) (fun ρ => (fa ρ).bind (lenSetD keyKind 1001)) := ef_lenset (fun _ r => rep_key r) (by show 1001 < scanBound; decide) ha
end Sv

/-! Written tables and tuples of the program's top. -/
namespace Sv
open PySem L2 Evl
/-- the written dict at d answers to these words so -/
structure KTab (K : Fg) (w : World) (d : Addr) (tb : List (Str × Option Int)) : Prop where
  kd : ∃ es n, KDict K w d es n
  ok : ∀ p ∈ tb, ∃ r : Option Value, PySem.W.nsIn K d p.1 = some r ∧ match p.2, r with | none, none => True | some i, some u => RelV (.int i) u | _, _ => False
section
variable {X : Cx} {K : Fg} {w : World} {d : Addr} {tb : List (Str × Option Int)}
def rInTab (d : Addr) (tb : List (Str × Option Int)) (neg : Bool) : R2 := fun x y H Q => ∃ z r, x = .str z ∧ y = .ref d ∧ (z, r) ∈ tb ∧ Q (.bl (if neg then !r.isSome else r.isSome)) H
def rIxTab (d : Addr) (tb : List (Str × Option Int)) : R2 := fun x y H Q => ∃ z i, x = .ref d ∧ y = .str z ∧ (z, some i) ∈ tb ∧ Q (.int i) H
theorem tab_some {r : Option Int} {r' : Option Value} (h : match r, r' with | none, none => True | some i, some u => RelV (.int i) u | _, _ => False) : r'.isSome = r.isSome := by
  cases r <;> cases r' <;> first | rfl | exact h.elim
theorem op_inTab (h : X.K = K) (hw : X.w = w) (D : KTab K w d tb) : OpR X (compareOp .In) (rInTab d tb false) := by
  subst h; subst hw
  intro pins s σ H x y v u Q I rx ry hq
  obtain ⟨z, r, rfl, rfl, hm, q⟩ := hq
  obtain ⟨es, n, kd⟩ := D.kd
  obtain ⟨r', hn, hr⟩ := D.ok _ hm
  exact op_in_kd kd pins s σ H (.str z) (.ref d) v u Q I rx ry ⟨z, r', rfl, rfl, hn, by rw [tab_some hr]; exact q⟩
theorem ix_tab (h : X.K = K) (hw : X.w = w) (D : KTab K w d tb) : IxR X (rIxTab d tb) := by
  subst h; subst hw
  intro value slice pins s σ H x y v u Q I rx ry hq hs
  obtain ⟨z, i, rfl, rfl, hm, q⟩ := hq
  obtain ⟨es, n, kd⟩ := D.kd
  obtain ⟨r', hn, hr⟩ := D.ok _ hm
  cases r' with
  | none => exact hr.elim
  | some u0 =>
    obtain rfl : v = Value.ref d := rx
    have hT := kd_type kd I
    have h2 : wpAny (model X.prog X.w) X.A (getItem (.ref d) u) (EP X pins σ Q) X.xe s := op_item_kd kd pins s σ H (.ref d) (.str z) (.ref d) u Q I rfl ry ⟨z, u0, .int i, rfl, rfl, hn, hr, q⟩
    unfold PyProof.Rows.subscriptTail
    refine wpAny_bind ?_
    rw [getitemInPython_of_ne hT.not_modules]
    refine wpAny_bind (wpAny_specialOf hT PySem.F.slot_dict_getitem.lookup ?_)
    have fin : wpAny (model X.prog X.w) X.A (subscripted slice false (.ref d) u) (fun r s3 => wpAny (model X.prog X.w) X.A (letTemporaryGo value (.ref d) r >>= fun _ => pure r) (EP X pins σ Q) X.xe s3) X.xe s := by
      rw [hs]
      exact wpAny_operating (wpAny_mono h2 (fun r s3 z => wpAny_bind (wpAny_letTemporaryGo (wpAny_pure z))) fun _ _ z => z)
    first
      | exact wpAny_pure (wpAny_bind fin)
      | exact wpAny_bind (wpAny_pure (wpAny_bind fin))
      | exact wpAny_bind fin
def tabAt (tb : List (Str × Option Int)) (d : PyData) : Option (Option Int) := match d with
  | .str z => (tb.find? fun p => decide (p.1 = z)).map (·.2)
  | _ => none
def inTabD (tb : List (Str × Option Int)) (d : PyData) : Option PyData := (tabAt tb d).map fun r => .bool r.isSome
def ixTabD (tb : List (Str × Option Int)) (d : PyData) : Option PyData := (tabAt tb d).bind fun r => r.map .int
theorem tabAt_some {e : PyData} {r : Option Int} (h : tabAt tb e = some r) : ∃ z, e = .str z ∧ (z, r) ∈ tb := by
  unfold tabAt at h
  split at h
  · rename_i z
    obtain ⟨p, hp, rfl⟩ := Option.map_eq_some_iff.mp h
    have e : p.1 = z := by simpa using List.find?_some hp
    exact ⟨z, rfl, by rw [← e]; exact List.mem_of_find?_eq_some hp⟩
  · cases h
theorem ef_inTab {ta : TE} {fa : Rho → Option PyData} (ha : EB K ta fa) : EF K (tOp (rInTab d tb false) ta (tC (.ref d))) (fun ρ => (fa ρ).bind (inTabD tb)) := fun A ρ σ H z rs e H1 e1 Q q => by
  obtain ⟨x, ex, eg⟩ := bind_some' e
  obtain ⟨r, er, rfl⟩ := map_some' eg
  obtain ⟨s, rfl, hm⟩ := tabAt_some er
  refine ha A ρ σ H _ rs ex H1 e1 _ fun v H2 e2 r2 => ?_
  cases r2.str
  exact ⟨s, r, rfl, rfl, hm, q _ H2 e2 rep_bl⟩
theorem ef_ixTab {ta : TE} {fa : Rho → Option PyData} (ha : EB K ta fa) : EF K (tOp (rIxTab d tb) (tC (.ref d)) ta) (fun ρ => (fa ρ).bind (ixTabD tb)) := fun A ρ σ H z rs e H1 e1 Q q => by
  obtain ⟨x, ex, eg⟩ := bind_some' e
  obtain ⟨r, er, eg⟩ := bind_some' eg
  obtain ⟨i, rfl, rfl⟩ := map_some' eg
  obtain ⟨s, rfl, hm⟩ := tabAt_some er
  refine ha A ρ σ H _ rs ex H1 e1 _ fun v H2 e2 r2 => ?_
  cases r2.str
  exact ⟨s, i, rfl, rfl, hm, q _ H2 e2 rep_int⟩
end
theorem tb_cons {α : Type} {P : α → Prop} {x : α} {xs : List α} (h : P x) (r : ∀ p ∈ xs, P p) : ∀ p ∈ x :: xs, P p := fun p hp => by
  rcases List.mem_cons.mp hp with rfl | hp
  · exact h
  · exact r p hp
/-- the words of tests in PLACES -/
def tb_PLACES : List (Str × Option Int) := [("from", some 0), ("word", some 1), ("over", some 2), ("marked", some 3), ("yes", none), ("not", none), ("both", none), ("either", none)]
/-- the written tuple at a -/
structure KTup (K : Fg) (a : Addr) (ks : List Key) : Prop where
  at_ : ∃ (o : Obj) (its : Array Value) (n : Nat), K.lookup a = some o ∧ o.cls = .type "tuple" ∧ o.data = .seq its n ∧ its.size ≤ sizeLine ∧ Vals (ks.map kV) its.toList
theorem ef_ktup {K : Fg} {a : Addr} {ks : List Key} (h : KTup K a ks) : EF K (tC (.ref a)) (fun _ => some (.tuple (ks.map kD))) := fun A ρ σ H z rs e H1 e1 Q q => by
  cases e
  refine q _ H1 (Ex.refl _) ?_
  simp only [Rep]
  exact ⟨a, ks.map kV, rfl, ⟨.inr h.at_, .inl (keyB_all ks)⟩, repL_kV ks⟩
end Sv

/-! t[::-1], t a tuple. -/
namespace Sv
open PySem L2 Evl PyProof.Rows PySem.Spec
section
variable {prog : Program} {w : World} {A : Around} {E : Value → Shared → Prop} {s : Shared}
theorem rev_adjust (n : Nat) : Builtin.Slice.sliceAdjust none none (-1) (n : Int) = ((n : Int) - 1, -1) := by
  unfold Builtin.Slice.sliceAdjust
  simp
theorem rev_places (n : Nat) : Builtin.Slice.slicePlaces ((n : Int) - 1) (-1) (-1) = n := by
  unfold Builtin.Slice.slicePlaces
  by_cases h : n = 0
  · subst h; simp
  · simp
    omega
theorem rev_pick (xs : Array Value) : ((List.range xs.size).filterMap fun (m : Nat) => xs[(((xs.size : Int) - 1) + (m : Int) * (-1)).toNat]?).toArray = xs.toList.reverse.toArray := by
  congr 1
  have key : ∀ k, k ≤ xs.size → ((List.range k).filterMap fun (m : Nat) => xs[(((xs.size : Int) - 1) + (m : Int) * (-1)).toNat]?) = xs.toList.reverse.take k := fun k => by
    induction k with
    | zero => intro _; rfl
    | succ k ih =>
      intro hk
      have e1 : (((xs.size : Int) - 1) + (k : Int) * (-1)).toNat = xs.size - 1 - k := by omega
      have lt : xs.size - 1 - k < xs.size := by omega
      rw [List.range_succ, List.filterMap_append, ih (by omega), List.take_add_one]
      congr 1
      rw [List.filterMap_cons_some (b := xs[xs.size - 1 - k]) (by rw [e1]; exact Array.getElem?_eq_getElem lt), List.filterMap_nil, List.getElem?_reverse (by simpa using (show k < xs.size by omega))]
      rw [Array.length_toList, Array.getElem?_toList, Array.getElem?_eq_getElem lt]; rfl
  rw [key xs.size (Nat.le_refl _), List.take_of_length_le (by simp)]
theorem getItem_rev {t sl : Addr} {items : Array Value} {u : Tok} {Q : Value → Shared → Prop} (ht : IsTup s.heap t items) (hs : s.heap.IsSliceOf sl .none .none (.int (-1) u)) (h : Q (.ref s.heap.objs.size) { s with heap := s.heap.push { cls := .type "tuple", data := .seq items.toList.reverse.toArray } }) (hsz : items.size ≤ sizeLine) :
    wpAny (model prog w) A (getItem (.ref t) (.ref sl)) Q E s := by
  have room : sizeOk (.seq items.toList.reverse.toArray) := by
    show items.toList.reverse.toArray.size ≤ sizeLine
    simpa using hsz
  obtain ⟨os, hos, hcs, hds⟩ := id hs
  have ts : s.TypeIs (.ref sl) "slice" := ⟨os, hos, hcs⟩
  unfold getItem
  try with_reducible apply wpAny_holding
  first | refine wpAny_bind (wpAny_pure ?_) | skip
  apply wpAny_bind
  refine wpAny_sequenceKey ht.typeIs (by decide) ?_
  apply wpAny_bind
  refine wpAny_callSpecial?_slot (name := Str.ofString "__getitem__") ht.typeIs PyProof.Rows.slot_tuple_getitem (wpAny_call_entry PyProof.Rows.slot_tuple_getitem ht.typeIs PyProof.Rows.entry_tuple_getitem ?_ (PyProof.Rows.args_tuple_getitem _ _))
  show wpAny _ _ (Builtin.Tuple.tupleItemsOf _ >>= _) _ _ s
  apply wpAny_bind
  refine PyProof.Rows.tupleItemsOf_ ht ?_
  apply wpAny_bind
  refine wpAny_typeOf ts ?_
  rw [if_pos (by decide)]
  apply wpAny_bind
  unfold Builtin.Slice.sliceApplied Builtin.Slice.sliceFields
  refine wpAny_bind (wpAny_bind (wpAny_field hos hds (x := .none) rfl (wpAny_bind (wpAny_field hos hds (x := .none) rfl (wpAny_bind (wpAny_field hos hds (x := .int (-1) u) rfl (wpAny_pure ?_)))))))
  apply wpAny_bind
  refine HT.slicePart_ (o := some (-1)) (by constructor) ?_
  show wpAny _ _ (if ((-1 : Int) == 0) = true then _ else _) _ _ s
  rw [if_neg (by decide)]
  apply wpAny_bind
  refine HT.slicePart_ (o := none) (by constructor) ?_
  apply wpAny_bind
  refine HT.slicePart_ (o := none) (by constructor) ?_
  apply wpAny_bind
  apply wpAny_pure
  show wpAny _ _ (match Builtin.Slice.sliceAdjust none none (-1) (items.size : Int) with | (lo, hi) => pure (lo, (-1 : Int), Builtin.Slice.slicePlaces lo hi (-1))) _ _ s
  rw [rev_adjust]
  show wpAny _ _ (pure ((items.size : Int) - 1, (-1 : Int), Builtin.Slice.slicePlaces ((items.size : Int) - 1) (-1) (-1))) _ _ s
  rw [rev_places]
  apply wpAny_pure
  have no : ¬ ((((items.size : Int) - 1) == 0 && (-1 : Int) == 1 && items.size == items.size) = true) := by
    rw [show ((-1 : Int) == 1) = false from by decide, Bool.and_false, Bool.false_and]
    exact Bool.false_ne_true
  show wpAny _ _ (if ((((items.size : Int) - 1) == 0 && (-1 : Int) == 1 && items.size == items.size) = true) then _ else _) _ _ s
  rw [if_neg no, rev_pick]
  first
    | exact wpAny_bind (m := Builtin.Tuple.tupleExact _) (wpAny_newObj_type (wpAny_pure ⟨_, rfl, wpAny_pure h⟩) room)
    | exact wpAny_bind (m := Builtin.Tuple.tupleExact _) (wpAny_newObj_type (wpAny_bind (wpAny_pure (wpAny_pure ⟨_, rfl, wpAny_pure h⟩))) room)
    | exact wpAny_bind (wpAny_bind (m := Builtin.Tuple.tupleExact _) (wpAny_newObj_type (wpAny_pure (wpAny_pure ⟨_, rfl, wpAny_pure h⟩)) room))
    | exact wpAny_bind (wpAny_bind (m := Builtin.Tuple.tupleExact _) (wpAny_newObj_type (wpAny_pure ⟨_, rfl, wpAny_pure h⟩) room))
end
def tRevT (K : Fg) (te : TE) : TE := fun σ H Q => te σ H fun x H1 => ∃ a xs, x = .ref a ∧ SqT K H1 a xs ∧ NewT H1 xs.reverse Q
theorem pe_revT {X : Cx} (K : Fg) (hK : X.K = K) {e : Expr} {te : TE} {k : Nat} {p1 p2 p3 pos : Pos} (he : PE X e te) : PE X (.Subscript e (.Slice none none (some (.UnaryOp .USub (.Constant (.int 1) k p1) p2)) p3) pos) (tRevT K te) := by
  subst hK
  constructor
  intro pins s σ H Q I h
  apply Subscript_
  refine thn (he.run pins s σ H _ I h) fun v s1 ⟨x, H1, I1, r1, a, xs, ex, hx, q⟩ => ?_
  subst ex
  cases r1
  have step : PO X (some (.UnaryOp .USub (.Constant (.int 1) k p1) p2)) (tPart (tUn (rU fun i => .int (-i)) (tC (.int 1)))) := po_some (pe_un un_neg pe_int)
  apply wpAny_Slice
  refine thn (po_none.run pins s1 σ H1 (fun o H2 => o = none ∧ H2 = H1) I1 ⟨rfl, rfl⟩) fun vl s2 ⟨l, H2, I2, pl, el, e2⟩ => ?_
  subst el e2
  refine thn (po_none.run pins s2 σ H2 (fun o H3 => o = none ∧ H3 = H2) I2 ⟨rfl, rfl⟩) fun vu s3 ⟨u, H3, I3, pu, eu, e3⟩ => ?_
  subst eu e3
  refine thn (step.run pins s3 σ H3 (fun o H4 => o = some (-1) ∧ H4 = H3) I3 ⟨1, rfl, -1, rfl, rfl, rfl⟩) fun vs s4 ⟨o, H4, I4, ps, eo, e4⟩ => ?_
  subst eo e4
  cases pl
  cases pu
  cases ps
  rename_i tk hxx
  have I5 : L2.Inv X pins σ H4 { s4 with heap := s4.heap.push { cls := .type "slice", data := .fields #[.none, .none, .int (-1) tk] } } := I4.kept (t' := s4.toks) fun b ob q => Heap.get?_push_of_some _ q
  obtain ⟨its, r, ht, hz⟩ := I5.tuple hx
  have len := r.length
  refine tail_any (ops := [.ref a, .ref s4.heap.objs.size]) ht.typeIs PyProof.Rows.slot_tuple_getitem.lookup ?_ (by with_unfolding_all rfl)
  refine getItem_rev ht (Heap.IsSliceOf.new _ .none .none (.int (-1) tk)) ?_ (by rw [List.size_toArray]; omega)
  exact lay_tup (its := its.reverse) (tk := s4.toks) I5 (fun b ob q => Heap.get?_push_of_some _ q) (by rw [List.length_reverse]; exact hz) r.reverse (Heap.get?_push_size _ rfl) q
theorem repL_rev {K : Fg} {H : Hp} {A : Av} {ds : List PyData} {vs : List V} (r : RepL K H A ds vs) : RepL K H A ds.reverse vs.reverse := by
  have len := r.length
  refine RepL.mk (by simp [len]) fun j d v hd hv => ?_
  have hj : j < ds.length := by have := (List.getElem?_eq_some_iff.mp hd).1; simpa using this
  rw [List.getElem?_reverse hj] at hd
  rw [List.getElem?_reverse (by omega)] at hv
  obtain ⟨y, hy, ry⟩ := r.get hd
  rw [show vs.length - 1 - j = ds.length - 1 - j by omega] at hv
  rw [hv] at hy
  cases hy
  exact ry
def revD (d : PyData) : Option PyData := match d with
  | .tuple ds => some (.tuple ds.reverse)
  | _ => none
theorem ef_revT {K : Fg} {te : TE} {fe : Rho → Option PyData} (he : EB K te fe) : EF K (tRevT K te) (fun ρ => (fe ρ).bind revD) := fun A ρ σ H z rs e H1 e1 Q q => by
  obtain ⟨x, ex, eg⟩ := bind_some' e
  refine he A ρ σ H x rs ex H1 e1 _ fun v H2 e2 r2 => ?_
  unfold revD at eg
  split at eg
  · cases eg
    obtain ⟨a, xs, rfl, h1, r1⟩ := r2.tup
    refine ⟨a, xs, rfl, h1, fun p o hd hp => ?_⟩
    refine q _ _ (e2.trans (Ex.new hp)) ?_
    simp only [Rep]
    exact ⟨p, xs.reverse, rfl, ⟨.inl (.inr ⟨o, upd_same⟩), .inr (.inl ⟨o, _, upd_same, hd⟩)⟩, (repL_rev r1).mono ((rs.av.mono e1).mono e2) (Ex.new hp)⟩
  · cases eg
end Sv

/-! P[i] = e, P an own list of data. -/
namespace Sv
open PySem L2 Evl
section
variable {K : Fg} {t te tk : TE} {i : Nat} {g : Rho → Option (List Nat)} {fe fk : Rho → Option PyData}
theorem RepL.set' {H : Hp} {A : Av} {ds : List PyData} {vs : List V} {j : Nat} {d : PyData} {x : V} (r : RepL K H A ds vs) (rx : Rep K H A d x) : RepL K H A (ds.set j d) (vs.set j x) := by
  have len := r.length
  refine RepL.mk (by simp [len]) fun k e v he hv => ?_
  by_cases hj : j = k
  · subst hj
    have hlt : j < ds.length := by have := (List.getElem?_eq_some_iff.mp he).1; simpa using this
    rw [List.getElem?_set_self hlt] at he
    rw [List.getElem?_set_self (by omega)] at hv
    cases he; cases hv
    exact rx
  · rw [List.getElem?_set_ne hj] at he hv
    obtain ⟨y, hy, ry⟩ := r.get he
    rw [hv] at hy
    cases hy
    exact ry
def setIO (n : Int) (d : PyData) (o : OD) : Option OD := match o with
  | .nd .lst os => (dats os).bind fun ds => (ixN ds.length n).map fun j => lO (ds.set j d)
  | _ => none
theorem setIO_some {n : Int} {d : PyData} {o o2 : OD} (h : setIO n d o = some o2) : ∃ os ds j, o = .nd .lst os ∧ dats os = some ds ∧ ixN ds.length n = some j ∧ o2 = lO (ds.set j d) := by
  unfold setIO at h
  split at h
  · rename_i os
    obtain ⟨ds, hd, h⟩ := bind_some' h
    obtain ⟨j, hj, rfl⟩ := map_some' h
    exact ⟨os, ds, j, rfl, hd, hj, rfl⟩
  · cases h
def setIP (i : Nat) (g : Rho → Option (List Nat)) (ρ : Rho) (k d : Option PyData) : Option Res := bnd2 (k.bind asI) d fun n d => mutR i g ρ (setIO n d)
theorem es_setI (h : EPt K t i g) (hk : EF K tk fk) (he : EF K te fe) : ES K (tAsg te (gSub t tk rSetL)) (fun ρ => setIP i g ρ (fk ρ) (fe ρ)) := fun Hb O pn ow ρ σ H r D sr e fin => by
  unfold setIP at e
  obtain ⟨n, d, hn, hd, e⟩ := bnd2_some e
  obtain ⟨kd, hkd, hn⟩ := bind_some' hn
  cases asI_some hn
  obtain ⟨o, p, o1, o2, hi, hg, hp, h2, rfl⟩ := mutR_some e
  obtain ⟨os, ds, j, rfl, hds, hj, rfl⟩ := setIO_some h2
  obtain ⟨v, hv⟩ := sr.rs.ownV hi
  obtain ⟨a, vs, G, at0, nd0, tl, nd, hA, cl⟩ := sr.node hi hv hp rfl
  have r0 := dats_rep tl hds
  refine he _ ρ σ H d sr.rs hd H (Ex.refl _) _ fun x H1 e1 rx => ?_
  refine h _ ρ σ H o p v sr.rs hi hv hg H1 e1 _ fun v1 H2 e2 at1 => ?_
  cases At.inj at1 (at0.mono (e1.trans e2))
  refine hk _ ρ σ H _ sr.rs hkd H2 (e1.trans e2) _ fun w H3 e3 rw3 => ?_
  have ew : w = .int n := by simpa only [Rep] using rw3
  subst ew
  have ex := (e1.trans e2).trans e3
  have ok1 := sr.rs.av.mono e1
  have r3 : RepL K H3 (Avd O ρ ow) (ds.set j d) (vs.set j x) := (r0.mono sr.rs.av ex).set' (rx.mono ok1 (e2.trans e3))
  refine ⟨a, vs, n, j, rfl, rfl, ex _ _ nd0, by rw [r0.length]; exact hj, ?_⟩
  have new : TreeL K (upd H3 a (.lst (vs.set j x))) (AvN (Avd O ρ ow) a G []) ((ds.set j d).map .dat) (vs.set j x) [] := by
    refine TreeL.keep2 (sr.rs.av.mono ex) (fun b w hw hn => ?_) (fun b hb => ?_) _ _ _ (fun b hb => nomatch hb) (TreeL.dats r3)
    · rw [upd_ne (show b ≠ a from fun z => hn (z ▸ hA a List.mem_cons_self))]
      exact hw
    · rcases hb with hb | hb
      · exact .inl hb.1
      · exact .inl (hA b (by rw [List.mem_singleton.mp hb]; exact List.mem_cons_self))
  obtain ⟨ow', sr'⟩ := cl H3 (.lst (vs.set j x)) .lst ((ds.set j d).map .dat) (vs.set j x) [] ex upd_same rfl (fun b hb => nomatch hb) List.nodup_nil new
  exact fin ow' σ _ sr'
end
end Sv

/-! P.update(new dict), P an own dict, no key of the new one in it. -/
namespace Sv
open PySem L2 Evl PySem.Spec PyProof.Rows
def rDUpd : V → List V → Hp → VK → Prop := fun x vs H Q => ∃ (a b : Addr) (kvs more : List (Key × V)), x = .ref a ∧ vs = [.ref b] ∧ a ≠ b ∧ H a = some (.dK kvs) ∧ H b = some (.dK more) ∧ kvs.length + more.length ≤ sizeLine ∧ Q .non (upd H a (.dK (mergeK kvs more)))
theorem mt_update {X : Cx} : MtR X "dict.update" rDUpd := by
  intro pins s σ H x vs v us Q I rx rv h
  obtain ⟨a, b, kvs, more, ex, ev, ne, e, e2, hz, q⟩ := h
  subst ex
  subst ev
  obtain rfl : v = Value.ref a := rx
  obtain ⟨u, rfl, ru⟩ := rv.one
  obtain rfl : u = Value.ref b := ru
  obtain ⟨z, hd, ws, rel, dd⟩ := dk_of I.hok e
  obtain ⟨z2, hd2, ws2, rel2, dd2⟩ := dk_of I.hok e2
  refine call_meetsIn PySem.F.slot_dict_update dd.typeIs PySem.F.entry_dict_update (PySem.F.args_dict_update_2 _ _) (meets_dict_update (mixKind X.prog X.w) a b ne hd2)
    ⟨ws, ws2, dd, dd2, by rw [← rel.length, ← rel2.length]; exact hz, fun h' dd' _ hs => ?_⟩
  have he : ∃ q, h'.get? a = some q := let ⟨q, _, _, hq, _⟩ := dd'; ⟨q, hq⟩
  exact ⟨.non, _, d_write (t' := s.toks) I (by rw [e]; exact True.intro) hs he (dk_new (Nat.le_trans (length_mergeK more kvs) hz) hd (KV.merge rel2 rel) dd'), rfl, q⟩
def updO (o : OD) : OD → Option OD
  | .nd (.dk ks) xs => match o with
    | .nd (.dk ks') ys => if nodupK ks' && (ks'.all fun k' => !(ks.any fun k => decide (k = k'))) && lenOk (ks.length + ks'.length) then some (.nd (.dk (ks ++ ks')) (xs ++ ys)) else none
    | _ => none
  | _ => none
theorem updO_some {x o o2 : OD} (h : updO x o = some o2) : ∃ ks xs ks' ys, o = .nd (.dk ks) xs ∧ x = .nd (.dk ks') ys ∧ o2 = .nd (.dk (ks ++ ks')) (xs ++ ys) ∧ nodupK ks' = true ∧ (∀ k' ∈ ks', (ks.any fun k => decide (k = k')) = false) ∧ ks.length + ks'.length ≤ sizeLine := by
  unfold updO at h
  split at h
  · split at h
    · split at h
      · rename_i hc
        cases h
        simp only [Bool.and_eq_true] at hc
        refine ⟨_, _, _, _, rfl, rfl, rfl, hc.1.1, fun k' hk => ?_, of_decide_eq_true hc.2⟩
        have := List.all_eq_true.mp hc.1.2 k' hk
        simpa using this
      · cases h
    · cases h
  · cases h
def updP (i : Nat) (g : Rho → Option (List Nat)) (ρ : Rho) (x : Option OD) : Option Res := x.bind fun x => mutR i g ρ (updO x)
section
variable {K : Fg} {t te : TE} {i : Nat} {g : Rho → Option (List Nat)} {f : Rho → Option OD}
theorem kids_new {H : Hp} {A : Av} {a : Addr} {G F F' F1 : List Addr} {H3 : Hp} {u : HO} {xs : List OD} {ws : List V} (ok : AvOk A H3) (hA : ∀ b ∈ a :: G, A b) (na : H a ≠ none) (hF : ∀ b ∈ F', b ∈ G ∨ b ∈ F) (hn : ∀ b ∈ F, H b = none) (hm : ∀ b ∈ F, Mut (H3 b)) (h1 : ∀ b ∈ F1, b ∈ F) (t : TreeL K H3 (fun x => A x ∨ x ∈ F) xs ws F1) :
    TreeL K (upd H3 a u) (AvN A a G F') xs ws F1 := by
  have ok' : AvOk (fun x => A x ∨ x ∈ F) H3 := fun b hb => hb.elim (ok b) (hm b)
  refine TreeL.keep2 ok' (fun b w hw hn => ?_) (fun b hb => ?_) _ _ _ (fun b hb w hw => ?_) t
  · rw [upd_ne (show b ≠ a from fun z => hn (.inl (z ▸ hA a List.mem_cons_self)))]
    exact hw
  · rcases hb with hb | hb
    · exact .inl (.inl hb.1)
    · rcases List.mem_cons.mp hb with rfl | hb
      · exact .inl (.inl (hA b List.mem_cons_self))
      · rcases hF b hb with h | h
        · exact .inl (.inl (hA b (List.mem_cons_of_mem _ h)))
        · exact .inl (.inr h)
  · rw [upd_ne (show b ≠ a from fun z => na (z ▸ hn b (h1 b hb)))]
    exact hw
/-- P.update(e) -/
theorem es_upd (h : EPt K t i g) (he : EN K te f) : ES K (tDrop (tBM K "dict" rDUpd t (tCons te tNil))) (fun ρ => updP i g ρ (f ρ)) := fun Hb O pn ow ρ σ H r D sr e fin => by
  unfold updP at e
  obtain ⟨x, hx, e⟩ := bind_some' e
  obtain ⟨o, p, o1, o2, hi, hg, hp, h2, rfl⟩ := mutR_some e
  obtain ⟨ks, xs, ks', ys, rfl, rfl, rfl, hn, hd, hl⟩ := updO_some h2
  obtain ⟨v, hv⟩ := sr.rs.ownV hi
  obtain ⟨a, vs, G, at0, n, tl, nd, hA, cl⟩ := sr.node hi hv hp rfl
  have na : H a ≠ none := by rw [show H a = _ from n.2]; intro z; cases z
  refine h _ ρ σ H o p v sr.rs hi hv hg H (Ex.refl _) _ fun v1 H1 e1 at1 => ?_
  cases At.inj at1 (at0.mono e1)
  refine ⟨.inr (.inr (.inl ⟨rfl, .inl ⟨ks.zip vs, e1 _ _ n.2⟩⟩)), ?_⟩
  refine he _ ρ σ H _ sr.rs hx H1 e1 _ fun w F H2 e2 hF nF t2 => ?_
  have hF0 : ∀ b ∈ F, H b = none := fun b hb => fresh_back e1 (hF b hb)
  have mF := Tree.mut _ _ _ t2
  simp only [Tree] at t2
  obtain ⟨b, ws, F1, rfl, hFb, n2, tl2⟩ := t2
  have hFb' : F = b :: F1 := hFb
  subst hFb'
  have nb : b ∉ G := fun hb => by
    have m := TreeL.mut _ _ _ tl b hb
    rw [hF0 b List.mem_cons_self] at m; exact m
  have nab : a ≠ b := fun z => na (z ▸ hF0 b List.mem_cons_self)
  have hlk : (ks.zip vs).length = ks.length := by rw [List.length_zip, ← n.1, Nat.min_self]
  have hlk' : (ks'.zip ws).length = ks'.length := by rw [List.length_zip, ← n2.1, Nat.min_self]
  refine ⟨a, b, ks.zip vs, ks'.zip ws, rfl, rfl, nab, e2 _ _ (e1 _ _ n.2), n2.2, by rw [hlk, hlk']; exact hl, ?_⟩
  have hm : mergeK (ks.zip vs) (ks'.zip ws) = (ks ++ ks').zip (vs ++ ws) := by
    rw [mergeK_new _ _ (by rw [zip_fst n2.1]; exact hn) fun q hq => ?_, List.zip_append n.1]
    rw [any_zip q.1 n.1]
    exact hd _ (List.of_mem_zip hq).1
  rw [hm]
  have hF' : ∀ b ∈ G ++ F1, b ∈ G ∨ b ∈ b :: F1 := fun b hb => (List.mem_append.mp hb).imp id (List.mem_cons_of_mem _)
  have hF'' : ∀ c ∈ G ++ F1, c ∈ G ∨ c ∈ b :: F1 := fun c hc => (List.mem_append.mp hc).imp id (List.mem_cons_of_mem _)
  obtain ⟨ow', sr'⟩ := cl H2 (.dK ((ks ++ ks').zip (vs ++ ws))) (.dk (ks ++ ks')) (xs ++ ys) (vs ++ ws) (G ++ F1) (e1.trans e2) ⟨by rw [List.length_append, List.length_append, n.1, n2.1], upd_same⟩ rfl (fun b hb => (hF'' b hb).imp id (hF0 b)) (List.nodup_append.mpr ⟨(List.nodup_cons.mp nd).2, (List.nodup_cons.mp nF).2, fun c hc d hd' z => by
    subst z
    have m := TreeL.mut _ _ _ tl c hc
    rw [hF0 c (List.mem_cons_of_mem _ hd')] at m; exact m⟩) (TreeL.append (kids_keep sr.rs.av hA nd (e1.trans e2) (fun b hb => (hF'' b hb).imp id (hF0 b)) (fun b hb => hb) tl) (kids_new ((sr.rs.av.mono e1).mono e2) hA na hF'' hF0 mF (fun b hb => List.mem_cons_of_mem _ hb) tl2))
  exact fin ow' σ _ sr'
end
end Sv

namespace Sv
open PySem L2 Evl
/-! _law_holds: by ['_law_holds'], 6 names -/
def fb__law_holds (m__law_holds : List PyData → Option PyData) : Rho → Option Res := fun ρ =>
  seqR (asgR 3 ρ (bnd2 (gb 0 ρ) (some (.int 0)) ixD)) fun ρ =>
  seqR (ifR ((bnd2 (gb 3 ρ) (some (.str "not")) eqD).bind asB) (retR (notV (((bnd2 (bnd2 (gb 0 ρ) (some (.int 1)) ixD) ((bnd2 (gv 1 ρ) ((bnd2 (gv 2 ρ) (some []) consD)) consD)) consD)).bind m__law_holds))) (some (.nx ρ))) fun ρ =>
  seqR (ifR ((bnd2 (gb 3 ρ) (((bnd2 (some (.str "both")) ((bnd2 (some (.str "either")) (some []) consD)) consD)).bind tupD) inD).bind asB) (seqR (asgR 4 ρ (compL (((gb 0 ρ).bind fun d => bnd2 (partI (some (.int 1))) (some none) (slD d)).bind walkD) tg1 [5] (fun ρ => some true) (fun ρ => ((bnd2 (gv 5 ρ) ((bnd2 (gv 1 ρ) ((bnd2 (gv 2 ρ) (some []) consD)) consD)) consD)).bind m__law_holds) [5] ρ)) fun ρ =>
  retR (bnd2 (((bnd2 ((gb 4 ρ).bind allD) ((bnd2 ((gb 4 ρ).bind anyD) (some []) consD)) consD)).bind lstD) ((bnd2 (gb 3 ρ) (some (.str "either")) eqD).bind intD) ixD)) (some (.nx ρ))) fun ρ =>
  seqR (ifR ((bnd2 (gb 3 ρ) (some (.str "over")) eqD).bind asB) (retR (bnd2 (bnd2 (gb 1 ρ) (some (.int 2)) ixD) (bnd2 (bnd2 (gb 0 ρ) (some (.int 1)) ixD) (some (.int 1)) addD) geD)) (some (.nx ρ))) fun ρ =>
  seqR (ifR ((bnd2 (gb 3 ρ) (some (.str "yes")) eqD).bind asB) (retR (some (.bool true))) (some (.nx ρ))) fun ρ =>
  retR (bnd2 (bnd2 (gb 0 ρ) (some (.int 1)) ixD) (bnd2 ((((dispP (some (.str "from")) (((bnd2 (bnd2 (gb 1 ρ) (some (.int 0)) ixD) (some []) consD)).bind lstO) ((dispP (some (.str "word")) (((bnd2 (gb 1 ρ) (some (.int 1)) ixD).bind listD).map .dat) ((dispP (some (.str "marked")) ((gv 2 ρ).map .dat) (some []))))))).bind dispO).bind flat) (gb 3 ρ) ixE) inD)
/-! _law_walk: by ['_law_holds', '*_law_do'], 8 names -/
def fb__law_walk_b1 (m__law_holds : List PyData → Option PyData) (m__law_do : OD → List PyData → Option (PyData × OD)) : Rho → Option Res := fun ρ =>
  ifR (((partD 4 (fun ρ => keyP 4 (fun ρ => some []) ρ (some (.str "stop"))) ρ).bind asB).map not) (dropX (callX 4 (fun ρ => some []) m__law_do ρ ((bnd2 (gv 0 ρ) ((bnd2 (gv 1 ρ) ((bnd2 (gv 7 ρ) ((bnd2 (bnd2 (gb 3 ρ) (((bnd2 (gv 2 ρ) (some []) consD)).bind tupD) addD) (some []) consD)) consD)) consD)) consD)))) (some (.nx ρ))
def fb__law_walk_b2 (m__law_holds : List PyData → Option PyData) (m__law_do : OD → List PyData → Option (PyData × OD)) : Rho → Option Res := fun ρ =>
  seqR (ifR ((partD 4 (fun ρ => keyP 4 (fun ρ => some []) ρ (some (.str "stop"))) ρ).bind asB) (some (.rex .none ρ)) (some (.nx ρ))) fun ρ =>
  ifR ((((bnd2 (bnd2 (gb 6 ρ) (some (.int 0)) ixD) ((bnd2 (gv 1 ρ) ((bnd2 (partD 4 (fun ρ => keyP 4 (fun ρ => some []) ρ (some (.str "marks"))) ρ) (some []) consD)) consD)) consD)).bind m__law_holds).bind asB) (seqR (appP 4 (fun ρ => keyP 4 (fun ρ => some []) ρ (some (.str "done"))) ρ ((((bnd2 (gv 2 ρ) ((bnd2 (gv 5 ρ) (some []) consD)) consD)).bind tupD).map .dat)) fun ρ =>
  forR ((bnd2 (gb 6 ρ) (some (.int 1)) ixD).bind walkD) tg1 [7] (fb__law_walk_b1 m__law_holds m__law_do) ρ) (some (.nx ρ))
def fb__law_walk (m__law_holds : List PyData → Option PyData) (m__law_do : OD → List PyData → Option (PyData × OD)) : Rho → Option Res := fun ρ =>
  seqR (ifR ((bnd2 (gb 2 ρ) (gb 3 ρ) inD).bind asB) (some (.rex .none ρ)) (some (.nx ρ))) fun ρ =>
  seqR (appP 4 (fun ρ => keyP 4 (fun ρ => some []) ρ (some (.str "went"))) ρ ((gv 2 ρ).map .dat)) fun ρ =>
  forR ((bnd2 (gb 0 ρ) (gb 2 ρ) ixE).bind enumD) (tgT 2 (tgC tg1 (tgC tg1 tgN))) [5, 6] (fb__law_walk_b2 m__law_holds m__law_do) ρ
/-! _law_do: by ['*_law_walk'], 7 names -/
def fb__law_do (m__law_walk : OD → List PyData → Option (PyData × OD)) : Rho → Option Res := fun ρ =>
  seqR (asgR 5 ρ (bnd2 (gb 2 ρ) (some (.int 0)) ixD)) fun ρ =>
  ifR ((bnd2 (gb 5 ρ) (((bnd2 (some (.str "drop")) ((bnd2 (some (.str "stop")) (some []) consD)) consD)).bind tupD) inD).bind asB) (putP 4 (fun ρ => some []) ρ (gv 5 ρ) (some (.bool true))) (ifR ((bnd2 (gb 5 ρ) (some (.str "call")) eqD).bind asB) (dropX (callX 4 (fun ρ => some []) m__law_walk ρ ((bnd2 (gv 0 ρ) ((bnd2 (gv 1 ρ) ((bnd2 (bnd2 (gb 2 ρ) (some (.int 1)) ixD) ((bnd2 (gv 3 ρ) (some []) consD)) consD)) consD)) consD)))) (ifR ((bnd2 (gb 5 ρ) (some (.str "mark")) eqD).bind asB) (putP 4 (fun ρ => some []) ρ (some (.str "marks")) (bnd2 (partB 4 (fun ρ => keyP 4 (fun ρ => some []) ρ (some (.str "marks"))) ρ) (((bnd2 (bnd2 (gb 2 ρ) (some (.int 1)) ixD) (some []) consD)).bind lstD) addD)) (ifR ((bnd2 (gb 5 ρ) (some (.str "unmark")) eqD).bind asB) (putP 4 (fun ρ => some []) ρ (some (.str "marks")) (compL ((partB 4 (fun ρ => keyP 4 (fun ρ => some []) ρ (some (.str "marks"))) ρ).bind walkD) tg1 [6] (fun ρ => (bnd2 (gb 6 ρ) (bnd2 (gb 2 ρ) (some (.int 1)) ixD) neD).bind asB) (fun ρ => gv 6 ρ) [6] ρ)) (ifR ((bnd2 (bnd2 (gb 2 ρ) (some (.int 1)) ixD) (partB 4 (fun ρ => keyP 4 (fun ρ => some []) ρ (gv 5 ρ)) ρ) notInD).bind asB) (appP 4 (fun ρ => keyP 4 (fun ρ => some []) ρ (gv 5 ρ)) ρ ((bnd2 (gb 2 ρ) (some (.int 1)) ixD).map .dat)) (some (.nx ρ))))))
/-! _law_run: by ['*_law_walk'], 3 names -/
def fb__law_run (m__law_walk : OD → List PyData → Option (PyData × OD)) : Rho → Option Res := fun ρ =>
  seqR (asgO 2 ρ (((dispP (some (.str "marks")) (((bnd2 (gb 1 ρ) (some (.int 3)) ixD).bind listD).map .dat) ((dispP (some (.str "drop")) ((some (.bool false)).map .dat) ((dispP (some (.str "stop")) ((some (.bool false)).map .dat) ((dispP (some (.str "done")) ((some []).bind lstO) ((dispP (some (.str "went")) ((some []).bind lstO) (some []))))))))))).bind dispO)) fun ρ =>
  seqR (updP 2 (fun ρ => some []) ρ (((dispP (some (.str "lay")) ((some []).bind lstO) ((dispP (some (.str "send")) ((some []).bind lstO) ((dispP (some (.str "answer")) ((some []).bind lstO) (some []))))))).bind dispO)) fun ρ =>
  seqR (dropX (callX 2 (fun ρ => some []) m__law_walk ρ ((bnd2 ((gb 0 ρ).bind dictD) ((bnd2 (gv 1 ρ) ((bnd2 (some (.str "main")) ((bnd2 ((some []).bind tupD) (some []) consD)) consD)) consD)) consD)))) fun ρ =>
  seqR (ifR (andB ((bnd2 (bnd2 (partB 2 (fun ρ => keyP 2 (fun ρ => some []) ρ (some (.str "lay"))) ρ) (partB 2 (fun ρ => keyP 2 (fun ρ => some []) ρ (some (.str "send"))) ρ) addD) ((some []).bind lstD) eqD).bind asB) (((partD 2 (fun ρ => keyP 2 (fun ρ => some []) ρ (some (.str "drop"))) ρ).bind asB).map not)) (appP 2 (fun ρ => keyP 2 (fun ρ => some []) ρ (some (.str "lay"))) ρ ((some (.str "in")).map .dat)) (some (.nx ρ))) fun ρ =>
  (fun ρ => retR (gv 2 ρ)) (sealR 2 ρ)
/-! _law_told_of: by [], 2 names -/
def fb__law_told_of : Rho → Option Res := fun ρ =>
  seqR (asgR 1 ρ (((bnd2 ((bnd2 (gb 0 ρ) (some (.str "lay")) ixE).bind tupleD) ((bnd2 ((bnd2 (gb 0 ρ) (some (.str "send")) ixE).bind tupleD) ((bnd2 ((bnd2 (gb 0 ρ) (some (.str "answer")) ixE).bind tupleD) (some []) consD)) consD)) consD)).bind tupD)) fun ρ =>
  retR (bnd2 (gb 1 ρ) (((bnd2 (((bnd2 (gb 0 ρ) (some (.str "marks")) ixE).bind (sortSetD keyKind 1001)).bind tupleD) (some []) consD)).bind tupD) addD)
end Sv

/-! The kind of tuples of ints and texts. -/
namespace Sv
open PySem L2 Evl PyProof.Rows PySem.Spec
abbrev kh (P : Program) (w : World) (k : List Key) : Int := tupleKeyHash (mixKind P w) k
abbrev isK (P : Program) (w : World) (h : Heap) (k : List Key) (a : Addr) : Prop := IsTupleKey (mixKind P w) h k a
abbrev rowT (P : Program) (w : World) (x : Value × List Key) : Int × Value := (kh P w x.2, x.1)
section
variable {P : Program} {w : World} {A : Around} {E : Value → Shared → Prop} {s : Shared}
theorem items_scan {k : List Key} {vs : List Value} (h : ItemsAre (mixKind P w) k vs) : ∀ v ∈ vs, v.scannable = true := by
  induction h with
  | nil => exact fun v hv => nomatch hv
  | @cons k0 v0 ks vs h1 _ ih =>
    intro v hv
    rcases List.mem_cons.mp hv with rfl | hv
    · rcases keyIs_shape h1 with ⟨i, t, _, rfl⟩ | ⟨i, t, _, rfl⟩ <;> rfl
    · exact ih v hv
theorem class_scan (n : Nat) {v : Value} (h : v.scannable = true) : ofAClassStatement n v = pure false := by
  cases v <;> simp [Value.scannable] at h <;> (cases n <;> rfl)
theorem isK_class {k : List Key} {b : Addr} {Q : Bool → Shared → Prop} (hk : isK P w s.heap k b) (fin : Q false s) : wpAny (model P w) A (ofAClassStatement 8 (.ref b)) Q E s := by
  have ty := hk.typeIs
  obtain ⟨o, arr, n, ho, _, hd, hi⟩ := hk
  unfold ofAClassStatement
  apply wpAny_bind
  refine wpAny_typeOf ty ?_
  dsimp only
  have e : (("tuple" : String) == "tuple") = true := by decide
  simp only [e, if_true, Bool.not_true, Bool.false_eq_true, if_false]
  try refine wpAny_bind (wpAny_pure ?_)
  try simp only [Bool.not_true, Bool.false_eq_true, if_false]
  show wpAny _ _ (seqItems? _ >>= _) _ _ s
  apply wpAny_bind
  refine wpAny_seqItems ho hd ?_
  dsimp only
  apply wpAny_bind
  show wpAny _ _ (forIn arr _ _) _ _ s
  rw [← Array.forIn_toList]
  refine wpAny_forIn_list _ (fun rest r s1 => r.1 = none ∧ s1 = s ∧ ∀ v ∈ rest, v.scannable = true) _ ?_ ?_ _ _ ⟨rfl, rfl, items_scan hi⟩
  · rintro v rest r s1 ⟨hr, rfl, all⟩
    rw [class_scan _ (all v List.mem_cons_self)]
    apply wpAny_bind
    apply wpAny_pure
    simp only [Bool.false_eq_true, if_false]
    exact wpAny_pure ⟨rfl, rfl, fun u hu => all u (List.mem_cons_of_mem _ hu)⟩
  · rintro ⟨r1, r2⟩ s1 ⟨hr, rfl, _⟩
    dsimp only at hr
    subst hr
    exact wpAny_pure fin
/-- whether the hash hangs on values alone: some answer -/
theorem isK_byValue {k : List Key} {b : Addr} {Q : Bool → Shared → Prop} (hk : isK P w s.heap k b) (fin : ∀ c, Q c s) : wpAny (model P w) A (hashByValue 8 (.ref b)) Q E s := by
  have ty := hk.typeIs
  obtain ⟨o, arr, n, ho, _, hd, hi⟩ := hk
  unfold hashByValue
  apply wpAny_bind
  refine wpAny_specialOf ty PySem.F.slot_tuple_hash.lookup ?_
  show wpAny _ _ (seqItems? _ >>= _) _ _ s
  apply wpAny_bind
  refine wpAny_seqItems ho hd ?_
  apply wpAny_bind
  show wpAny _ _ (forIn arr _ _) _ _ s
  rw [← Array.forIn_toList]
  refine wpAny_forIn_list _ (fun rest r s1 => s1 = s ∧ r.1 = none ∧ ∀ v ∈ rest, v.scannable = true) _ ?_ ?_ _ _ ⟨rfl, rfl, items_scan hi⟩
  · rintro v rest r s1 ⟨rfl, hr, all⟩
    rw [hashByValue_scannable _ (all v List.mem_cons_self)]
    apply wpAny_bind
    apply wpAny_pure
    cases plainKind v with
    | true =>
      simp only [Bool.not_true, Bool.false_eq_true, if_false]
      exact wpAny_pure ⟨rfl, rfl, fun u hu => all u (List.mem_cons_of_mem _ hu)⟩
    | false =>
      simp only [Bool.not_false, if_true]
      exact wpAny_pure (wpAny_pure (fin _))
  · rintro ⟨r1, r2⟩ s1 ⟨rfl, hr, _⟩
    dsimp only at hr
    subst hr
    exact wpAny_pure (fin _)
/-- a search among such shows nothing -/
theorem isK_unseen {k : List Key} {b : Addr} {Q : Bool → Shared → Prop} (hk : isK P w s.heap k b) {ys : List Value} (hy : ∀ y ∈ ys, ∃ k' c, y = Value.ref c ∧ isK P w s.heap k' c) (fin : Q false s) : wpAny (model P w) A (searchCouldBeSeen (.ref b) ys) Q E s := by
  unfold searchCouldBeSeen
  apply wpAny_bind
  refine wpAny_forIn_list _ (fun rest r s1 => r.1 = none ∧ s1 = s ∧ ∀ y ∈ rest, ∃ k' c, y = Value.ref c ∧ isK P w s.heap k' c) _ ?_ ?_ _ _ ⟨rfl, rfl, hy⟩
  · rintro v rest r s1 ⟨hr, rfl, all⟩
    obtain ⟨k', c, rfl, hc⟩ := all v List.mem_cons_self
    have more : ∀ y ∈ rest, ∃ k' c, y = Value.ref c ∧ isK P w s1.heap k' c := fun u hu => all u (List.mem_cons_of_mem _ hu)
    dsimp only
    by_cases hv : (b == c || (carriedByValue (.ref b) && carriedByValue (.ref c))) = true
    · exact wp_if_pos hv (wpAny_pure ⟨rfl, rfl, more⟩)
    · refine wp_if_neg hv ?_
      apply wpAny_bind
      refine wpAny_eqIsQuiet_tuple hk ?_
      simp only [Bool.not_true, Bool.false_eq_true, if_false]
      apply wpAny_bind
      refine wpAny_eqIsQuiet_tuple hc ?_
      simp only [Bool.not_true, Bool.false_eq_true, if_false]
      apply wpAny_bind
      refine isK_class hk ?_
      simp only [Bool.false_eq_true, if_false]
      apply wpAny_bind
      refine isK_class hc ?_
      simp only [Bool.false_eq_true, if_false]
      exact wpAny_pure ⟨rfl, rfl, more⟩
  · rintro ⟨r1, r2⟩ s1 ⟨hr, rfl, _⟩
    dsimp only at hr
    subst hr
    exact wpAny_pure fin
/-! ### the set -/
structure TR (P : Program) (w : World) (h : Heap) (a : Addr) (L : List (Value × List Key)) (es : Array (Int × Value)) (ep : Nat) (t : SetTable) : Prop where
  ob : ∃ o, h.get? a = some o ∧ o.ExactSet ∧ o.data = .set es ep t
  rows : es.toList = L.map (rowT P w)
  tab : TabOk t (L.map fun x => kh P w x.2)
  nd : (L.map (·.2)).Nodup
  led : w.params.followText "set-order" = true ∨ t.led = true
  room : L.length * 5 < t.mask * 3
  few : L.length < 64
def Els (P : Program) (w : World) (h : Heap) (L : List (Value × List Key)) : Prop := ∀ x ∈ L, ∃ b, x.1 = Value.ref b ∧ isK P w h x.2 b
section
variable {h : Heap} {a : Addr} {L : List (Value × List Key)} {es : Array (Int × Value)} {ep : Nat} {t : SetTable}
theorem TR.size (R : TR P w h a L es ep t) : es.size = L.length := by
  have z := congrArg List.length R.rows
  rwa [Array.length_toList, List.length_map] at z
theorem fits_of (hd : t.dummies = #[]) (hs : t.place.size = es.size) (hl : es.size ≤ t.mask) : t.fits es.size = true := by
  unfold SetTable.fits SetTable.fill
  rw [hd, Bool.and_eq_true, beq_iff_eq, decide_eq_true_eq]
  show t.place.size = es.size ∧ t.place.size + 0 ≤ t.mask
  omega
theorem TR.fits (R : TR P w h a L es ep t) : t.fits es.size = true := by
  have h1 := R.tab.sz
  rw [List.length_map] at h1
  have h2 := R.size
  have h3 := R.room
  exact fits_of R.tab.dm (by omega) (by omega)
theorem TR.entry (R : TR P w h a L es ep t) {i : Nat} {x : Value × List Key} (hx : L[i]? = some x) : es[i]? = some (rowT P w x) := by
  rw [← Array.getElem?_toList, R.rows, List.getElem?_map, hx]; rfl
theorem TR.noWay (R : TR P w h a L es ep t) : ¬ t.gaveWay = true := by
  unfold SetTable.gaveWay
  rw [mask_odd R.tab.mok]
  decide
theorem no_dummy (m : Nat) : ∀ (n : Nat) (p : SetTable.Probe), p.dummy = none → (nth m p n).dummy = none
  | 0, p, h => h
  | n + 1, p, h => no_dummy m n (adv m p) (by unfold adv; split <;> exact h)
/-- the way of a hash from its c-th step on -/
abbrev wayAt (m : Nat) (hh : Int) (c : Nat) : SetTable.Probe := nth m (runAt m (SetTable.bits hh % (m + 1)) (SetTable.bits hh)) c
theorem seek (R : TR P w s.heap a L es ep t) (els : Els P w s.heap L) {x : Addr} {k : List Key} (hx : isK P w s.heap k x) (hu : A.units < cLine) {Z : Nat} (Zb : Z < 10 * SetTable.turns t.mask) (Zo : way t.mask (kh P w k) Z ∉ t.place.toList) (Zi : ∀ c, c < Z → way t.mask (kh P w k) c ∈ t.place.toList) {Q : SetFound → Shared → Prop}
    (yes : k ∈ L.map (·.2) → Q (.there none) s) (no : k ∉ L.map (·.2) → Q (.free (way t.mask (kh P w k) Z) false) s) :
    ∀ (f c : Nat) (st : Option SetTable.Probe), st.getD (t.probeStart (kh P w k)) = wayAt t.mask (kh P w k) c → c ≤ Z → Z - c < f → (∀ (i : Nat) y, L[i]? = some y → y.2 = k → ∃ c', c ≤ c' ∧ c' < Z ∧ t.place.toList[i]? = some (way t.mask (kh P w k) c')) →
      wpAny (model P w) A (setSearchFrom a (.ref x) (kh P w k) true f st) Q E s
  | 0, c, st, _, _, hf, _ => absurd hf (Nat.not_lt_zero _)
  | f + 1, c, st, hst, hc, hf, ahead => by
    obtain ⟨o, ho, hex, hd⟩ := R.ob
    rw [setSearchFrom_succ]
    apply wpAny_bind
    refine wpAny_setState_of ho hd R.fits ?_
    dsimp only
    refine wp_if_neg R.noWay ?_
    try refine wpAny_bind (wpAny_pure ?_)
    have shift : ∀ q, nth t.mask (wayAt t.mask (kh P w k) c) q = wayAt t.mask (kh P w k) (c + q) := fun q => (nth_add t.mask c _ q).symm
    have shiftJ : ∀ q, (nth t.mask (wayAt t.mask (kh P w k) c) q).j = way t.mask (kh P w k) (c + q) := fun q => congrArg SetTable.Probe.j (shift q)
    have hashOf : ∀ (i : Nat) y, L[i]? = some y → (fun i => (es[i]?.map (·.1)).getD 0) i = kh P w y.2 := fun i y hy => by
      show (es[i]?.map (·.1)).getD 0 = _
      rw [R.entry hy]; rfl
    rcases go_spec t R.tab.ris R.tab.dm (fun i => (es[i]?.map (·.1)).getD 0) (kh P w k) (10 * SetTable.turns t.mask) (Z - c) (wayAt t.mask (kh P w k) c) (no_dummy _ _ _ rfl) (by omega)
      (fun q hq => by rw [shiftJ]; exact Zi (c + q) (by omega)) (by rw [shiftJ, show c + (Z - c) = Z by omega]; exact Zo) with ⟨q, i, hq, hi, hh, before, pr⟩ | ⟨none_, pr⟩
    · have pr2 : t.probe (fun i => (es[i]?.map (·.1)).getD 0) (kh P w k) (st.getD (t.probeStart (kh P w k))) = some (.candidate (way t.mask (kh P w k) (c + q)) i (wayAt t.mask (kh P w k) (c + (q + 1)))) := by
        rw [hst, ← shiftJ, ← shift]; exact pr
      rw [pr2]
      dsimp only
      rw [shiftJ] at hi
      have lt : i < L.length := by
        have h1 : i < t.place.toList.length := (List.getElem?_eq_some_iff.mp hi).1
        have h2 := R.tab.sz
        rw [List.length_map] at h2
        rw [Array.length_toList] at h1
        omega
      obtain ⟨y, hy⟩ : ∃ y, L[i]? = some y := ⟨_, List.getElem?_eq_getElem lt⟩
      have my := List.mem_of_getElem? hy
      obtain ⟨by', ey, ky⟩ := els y my
      have live : t.slot (way t.mask (kh P w k) (c + q)) = .live i := slot_live R.tab.ris hi
      have rest : wpAny (model P w) A (searchRest a (.ref x) (kh P w k) true f es t (way t.mask (kh P w k) (c + q)) i (wayAt t.mask (kh P w k) (c + (q + 1)))) Q E s := by
        unfold searchRest
        rw [R.entry hy, show rowT P w y = (kh P w y.2, Value.ref by') from by rw [← ey]]
        dsimp only
        apply wpAny_bind
        apply wpAny_holding
        refine wpAny_eqBool_tuple hu ky hx ?_
        apply wpAny_bind
        refine wpAny_setState_of ho hd R.fits ?_
        dsimp only
        by_cases same : y.2 = k
        · exact wp_if_pos (by simp [same]) (wpAny_pure (yes (List.mem_map.mpr ⟨y, my, same⟩)))
        · refine wp_if_neg (by simp [same]) ?_
          try refine wpAny_bind (wpAny_pure ?_)
          rw [sameMem]
          dsimp only
          simp only [if_true, live, R.entry hy, show rowT P w y = (kh P w y.2, Value.ref by') from by rw [← ey]]
          apply wpAny_bind
          refine wpAny_isSame_ref_self (wpAny_bind (wpAny_pure ?_))
          simp only [if_true]
          refine wp_if_neg (by simp [same]) ?_
          refine seek R els hx hu Zb Zo Zi yes no f (c + (q + 1)) _ rfl (by omega) (by omega) fun j z hz ez => ?_
          obtain ⟨c', a1, a2, a3⟩ := ahead j z hz ez
          refine ⟨c', ?_, a2, a3⟩
          rcases Nat.lt_trichotomy c' (c + q) with lt' | eq' | gt'
          · exact (before (c' - c) j (by omega) (by rw [shiftJ, show c + (c' - c) = c' by omega]; exact a3) ((hashOf j z hz).trans (congrArg (kh P w) ez))).elim
          · rw [eq'] at a3
            have l2 := slot_live R.tab.ris a3
            rw [live] at l2
            injection l2 with l2
            rw [← l2, hy] at hz
            cases hz
            exact (same ez).elim
          · omega
      by_cases hl : t.led = true
      · refine wp_if_neg (by simp [hl]) ?_
        try refine wpAny_bind (wpAny_pure ?_)
        exact rest
      · refine wp_if_pos (by simp [hl]) ?_
        apply wpAny_bind
        refine isK_unseen hx (fun v hv => ?_) ?_
        · obtain ⟨e, he, rfl⟩ := List.mem_map.mp hv
          have e2 : e ∈ es.toList := by
            have : e ∈ es ∧ e.1 = kh P w k := by simpa using he
            simpa using this.1
          rw [R.rows] at e2
          obtain ⟨z, hz, rfl⟩ := List.mem_map.mp e2
          obtain ⟨bz, ez, kz⟩ := els z hz
          exact ⟨z.2, bz, ez, kz⟩
        · refine wp_if_neg (by decide) ?_
          try refine wpAny_bind (wpAny_pure ?_)
          exact rest
    · have pr2 : t.probe (fun i => (es[i]?.map (·.1)).getD 0) (kh P w k) (st.getD (t.probeStart (kh P w k))) = some (.empty (way t.mask (kh P w k) Z) none) := by
        have e2 : way t.mask (kh P w k) Z = (nth t.mask (wayAt t.mask (kh P w k) c) (Z - c)).j := by rw [shiftJ, show c + (Z - c) = Z by omega]
        rw [hst, e2]; exact pr
      rw [pr2]
      dsimp only
      refine wpAny_pure (no fun hm => ?_)
      obtain ⟨z, hz, ez⟩ := List.mem_map.mp hm
      obtain ⟨j, hj, ej⟩ := List.getElem_of_mem hz
      have hz2 : L[j]? = some z := by rw [List.getElem?_eq_getElem hj, ej]
      obtain ⟨c', a1, a2, a3⟩ := ahead j z hz2 ez
      exact none_ (c' - c) j (by omega) (by rw [shiftJ, show c + (c' - c) = c' by omega]; exact a3) ((hashOf j z hz2).trans (congrArg (kh P w) ez))
end
end
end Sv

/-! The kind of tuples: adding, laying anew. -/
namespace Sv
open PySem L2 Evl PyProof.Rows PySem.Spec
section
variable {P : Program} {w : World} {A : Around} {E : Value → Shared → Prop} {s : Shared} {a : Addr} {L : List (Value × List Key)} {es : Array (Int × Value)} {ep : Nat} {t : SetTable}
theorem seek_all (R : TR P w s.heap a L es ep t) (els : Els P w s.heap L) {x : Addr} {k : List Key} (hx : isK P w s.heap k x) (hu : A.units < cLine) {Q : SetFound → Shared → Prop} (yes : k ∈ L.map (·.2) → Q (.there none) s)
    (no : ∀ Z, k ∉ L.map (·.2) → way t.mask (kh P w k) Z ∉ t.place.toList → (∀ c, c < Z → way t.mask (kh P w k) c ∈ t.place.toList) → Q (.free (way t.mask (kh P w k) Z) false) s) : wpAny (model P w) A (setSearch a (.ref x) (kh P w k) true) Q E s := by
  have rm := R.room
  obtain ⟨Z, Zb, Zo, Zi⟩ := R.tab.first (by rw [List.length_map]; omega) (kh P w k)
  have small : 10 * SetTable.turns t.mask ≤ 1420 := by
    unfold SetTable.turns
    rcases R.tab.mok with e | e | e <;> omega
  unfold setSearch
  refine seek R els hx hu Zb Zo Zi yes (fun hn => no Z hn Zo Zi) 100000 0 none rfl (Nat.zero_le _) (by omega) fun i y hy ey => ?_
  have hi : (L.map fun x => kh P w x.2)[i]? = some (kh P w k) := by rw [List.getElem?_map, hy, ← ey]; rfl
  have lt : i < t.place.toList.length := by
    have h1 : i < L.length := (List.getElem?_eq_some_iff.mp hy).1
    have h2 := R.tab.sz
    rw [List.length_map] at h2
    rw [Array.length_toList]
    omega
  have hj := List.getElem?_eq_getElem lt
  obtain ⟨c, hc, e⟩ := R.tab.before Zo hi hj
  exact ⟨c, Nat.zero_le _, hc, by rw [hj, e]⟩
theorem isK_stay {h h' : Heap} {k : List Key} {a b : Addr} {o : Obj} {es : Array (Int × Value)} {ep : Nat} {t : SetTable} (hb : isK P w h k b) (ho : h.get? a = some o) (hd : o.data = .set es ep t) (hs : Heap.SameBut a h h') : isK P w h' k b := by
  obtain ⟨o2, arr, n, h2, hc, hd2, hi⟩ := hb
  refine ⟨o2, arr, n, (hs.2 b fun z => ?_).trans h2, hc, hd2, hi⟩
  subst z
  cases h2.symm.trans ho
  rw [hd] at hd2
  cases hd2
/-- rows put in another order -/
theorem rows_order (hr : es.toList = L.map (rowT P w)) {order : Array Nat} (hp : order.toList.Perm (List.range L.length)) :
    ∃ M : List (Value × List Key), (order.filterMap (es[·]?)).toList = M.map (rowT P w) ∧ M.Perm L ∧ (M.map fun x => kh P w x.2) = order.toList.map fun i => (es.map (·.1)).getD i 0 := by
  have at_ : ∀ i (h : i < L.length), es[i]? = some (rowT P w L[i]) := fun i h => by
    rw [← Array.getElem?_toList, hr, List.getElem?_map, List.getElem?_eq_getElem h]; rfl
  have len : es.size = L.length := by
    have z := congrArg List.length hr
    rwa [Array.length_toList, List.length_map] at z
  have go : ∀ l : List Nat, (∀ i ∈ l, i < L.length) → ∃ M : List (Value × List Key), l.filterMap (fun i => es[i]?) = M.map (rowT P w) ∧ M = l.filterMap (fun i => L[i]?) ∧ (M.map fun x => kh P w x.2) = l.map fun i => (es.map (·.1)).getD i 0 := fun l => by
    induction l with
    | nil => exact fun _ => ⟨[], rfl, rfl, rfl⟩
    | cons i l ih =>
      intro hl
      have hi := hl i List.mem_cons_self
      obtain ⟨M, m1, m2, m3⟩ := ih fun j hj => hl j (List.mem_cons_of_mem _ hj)
      refine ⟨L[i] :: M, ?_, ?_, ?_⟩
      · rw [List.filterMap_cons_some (at_ i hi), m1, List.map_cons]
      · rw [List.filterMap_cons_some (List.getElem?_eq_getElem hi), m2]
      · have e : (es.map (·.1))[i]? = some (kh P w L[i].2) := by rw [Array.getElem?_map, at_ i hi]; rfl
        rw [List.map_cons, List.map_cons, m3]
        congr 1
        simp [Array.getD_eq_getD_getElem?, e]
  obtain ⟨M, m1, m2, m3⟩ := go order.toList fun i hi => List.mem_range.mp (hp.mem_iff.mp hi)
  refine ⟨M, by first | (rw [Array.toList_filterMap]; exact m1) | simpa using m1, ?_, m3⟩
  have all : ∀ n, n ≤ L.length → (List.range n).filterMap (fun i => L[i]?) = L.take n := fun n => by
    induction n with
    | zero => exact fun _ => rfl
    | succ n ih =>
      intro hn
      have lt : n < L.length := hn
      rw [List.range_succ, List.filterMap_append, ih (Nat.le_of_lt lt), List.take_add_one, List.getElem?_eq_getElem lt, List.filterMap_cons_some (List.getElem?_eq_getElem lt)]
      rfl
  have pm := hp.filterMap fun i => L[i]?
  rw [all L.length (Nat.le_refl _), List.take_length, ← m2] at pm
  exact pm
/-- the table laid anew -/
theorem lay_anew {o : Obj} (ho : s.heap.get? a = some o) (hex : o.ExactSet) (hd : o.data = .set es ep t) (hr : es.toList = L.map (rowT P w)) (hsz : t.place.size = es.size) (hdm : t.dummies = #[]) (hfl : es.size ≤ t.mask) (nd : (L.map (·.2)).Nodup)
    (led : w.params.followText "set-order" = true ∨ t.led = true) (few : L.length < 64) {wanted M : Nat} (hw : SetTable.sizeAbove wanted - 1 = M) (hM : MaskOk M) (hw2 : SetTable.sizeAbove wanted ≤ 128) (hn : L.length * 5 < M * 3) {Q : Unit → Shared → Prop}
    (fin : ∀ h' L' es' ep' t', Heap.SameBut a s.heap h' → TR P w h' a L' es' ep' t' → L'.Perm L → Q () { s with heap := h' }) : wpAny (model P w) A (setRelay a wanted) Q E s := by
  have len : es.size = L.length := by
    have z := congrArg List.length hr
    rwa [Array.length_toList, List.length_map] at z
  obtain ⟨t', order, e, hp, T, em, el, _, _⟩ := relaid_ok t (hs := es.map (·.1)) (wanted := wanted) hw hM (by rw [Array.size_map, len]; omega)
  rw [Array.size_map, len] at hp
  obtain ⟨N, n1, n2, n3⟩ := rows_order hr hp
  rw [← n3] at T
  have sz : (order.filterMap (es[·]?)).size = es.size := by
    have z := congrArg List.length n1
    rw [Array.length_toList, List.length_map, n2.length_eq] at z
    rw [z, len]
  rw [setRelay_eq]
  apply wpAny_bind
  refine wpAny_setState_of ho hd (fits_of hdm hsz hfl) ?_
  dsimp only
  refine wp_if_neg (by rw [sizeLine_eq]; omega) ?_
  try refine wpAny_bind (wpAny_pure ?_)
  rw [e]
  dsimp only
  apply wpAny_bind
  refine wp_if_neg (by rw [sz]; simp) ?_
  try refine wpAny_bind (wpAny_pure ?_)
  apply wpAny_pure
  dsimp only
  refine wpAny_storeSet_of ho hd ?_ (by rw [sz, len, sizeLine_eq]; omega)
  exact fin _ N _ (ep + 1) t' (Heap.SameBut.update ..) ⟨⟨_, store_at ho hd, hex, rfl⟩, n1, T, (n2.map _).nodup_iff.mpr nd, by rw [el]; exact led, by rw [n2.length_eq, em]; exact hn, by rw [n2.length_eq]; exact few⟩ n2
theorem mid_perm {α : Type} (l : List α) (p : Nat) (x : α) : (l.take p ++ x :: l.drop p).Perm (x :: l) := by
  have h : (l.take p ++ x :: l.drop p).Perm (x :: (l.take p ++ l.drop p)) := List.perm_middle
  rwa [List.take_append_drop] at h
theorem tab_off {t : SetTable} {hs : List Int} (T : TabOk t hs) (b : Bool) : TabOk (if b = true then t else { t with plain := false }) hs := by
  split
  · exact T
  · exact ⟨T.ris, T.dm, T.sz, T.mok, T.bd, T.reach⟩
theorem off_eq (t : SetTable) (b : Bool) : (if b = true then t else { t with plain := false }).mask = t.mask ∧ (if b = true then t else { t with plain := false }).led = t.led ∧ (if b = true then t else { t with plain := false }).tooFull = t.tooFull ∧ (if b = true then t else { t with plain := false }).place = t.place ∧ (if b = true then t else { t with plain := false }).dummies = t.dummies := by
  split <;> exact ⟨rfl, rfl, rfl, rfl, rfl⟩
/-- one put in -/
theorem put_one (R : TR P w s.heap a L es ep t) (els : Els P w s.heap L) {x : Addr} {k : List Key} (hx : isK P w s.heap k x) (hu : A.units < cLine) (few : L.length + 1 < 64) {Q : Bool → Shared → Prop}
    (fin : ∀ b h' L' es' ep' t', Heap.SameBut a s.heap h' → TR P w h' a L' es' ep' t' → ((k ∈ L.map (·.2) ∧ L' = L) ∨ (k ∉ L.map (·.2) ∧ L'.Perm ((.ref x, k) :: L))) → Q b { s with heap := h' }) : wpAny (model P w) A (setAddHashed a (.ref x) (kh P w k)) Q E s := by
  obtain ⟨o, ho, hex, hd⟩ := R.ob
  have len := R.size
  have rm := R.room
  unfold setAddHashed
  apply wpAny_holding
  rw [show (100000 : Nat) = 99999 + 1 from rfl, setAddHashedIn_succ]
  apply wpAny_bind
  refine wpAny_setState_of ho hd R.fits ?_
  dsimp only
  refine wp_if_neg (by simp [byScan, Value.scannable]) ?_
  try refine wpAny_bind (wpAny_pure ?_)
  apply wpAny_bind
  refine seek_all R els hx hu (fun hm => ?_) fun Z hm Zo Zi => ?_
  · dsimp only
    exact wpAny_pure (fin false s.heap L es ep t (Heap.SameBut.refl a s.heap) R (.inl ⟨hm, rfl⟩))
  · dsimp only
    apply wpAny_bind
    refine wpAny_setState_of ho hd R.fits ?_
    dsimp only
    obtain ⟨q1, q2, q3, q4, q5, q6, q7, q8, q9⟩ := R.tab.put Zo Zi
    revert q1 q3 q4 q5 q6 q7 q8 q9
    generalize t.put (way t.mask (kh P w k) Z) = pt
    obtain ⟨t1, p1⟩ := pt
    intro q1 q3 q4 q5 q6 q7 q8 q9
    dsimp only at q1 q3 q4 q5 q6 q7 q8 q9 ⊢
    subst q1
    have rows1 : (SetTable.insertAt es (SetTable.below t.place (way t.mask (kh P w k) Z)) (kh P w k, Value.ref x)).toList = (L.take (SetTable.below t.place (way t.mask (kh P w k) Z)) ++ (.ref x, k) :: L.drop (SetTable.below t.place (way t.mask (kh P w k) Z))).map (rowT P w) := by
      rw [SetTable.toList_insertAt, R.rows, List.map_append, List.map_cons, List.map_take, List.map_drop]
    revert q2 q3 rows1
    generalize SetTable.below t.place (way t.mask (kh P w k) Z) = p
    intro q2 q3 rows1
    have pm := mid_perm L p (Value.ref x, k)
    have len1 : (L.take p ++ (Value.ref x, k) :: L.drop p).length = L.length + 1 := pm.length_eq
    have hs1 : (L.take p ++ (Value.ref x, k) :: L.drop p).map (fun x => kh P w x.2) = (L.map fun x => kh P w x.2).take p ++ kh P w k :: (L.map fun x => kh P w x.2).drop p := by rw [List.map_append, List.map_cons, List.map_take, List.map_drop]
    rw [← hs1] at q3
    have nd1 : ((L.take p ++ (Value.ref x, k) :: L.drop p).map (·.2)).Nodup := (pm.map _).nodup_iff.mpr (List.nodup_cons.mpr ⟨hm, R.nd⟩)
    have sz1 : (SetTable.insertAt es p (kh P w k, Value.ref x)).size = L.length + 1 := by
      have z := congrArg List.length rows1
      rwa [Array.length_toList, List.length_map, len1] at z
    generalize SetTable.insertAt es p (kh P w k, Value.ref x) = es1 at rows1 sz1 ⊢
    generalize L.take p ++ (Value.ref x, k) :: L.drop p = L1 at pm len1 q3 nd1 rows1
    have go : ∀ c : Bool, wpAny (model P w) A (do
        storeSet a es1 (if c = true then t1 else { t1 with plain := false })
        if (!false && (if c = true then t1 else { t1 with plain := false }).tooFull) = true then do
            setRelay a (SetTable.grown (es.size + 1))
            pure true
          else pure true) Q E s := fun c => by
      obtain ⟨o1, o2, o3, o4, o5⟩ := off_eq t1 c
      have T1 := tab_off q3 c
      revert o1 o2 o3 o4 o5 T1
      generalize (if c = true then t1 else { t1 with plain := false }) = t2
      intro o1 o2 o3 o4 o5 T1
      apply wpAny_bind
      refine wpAny_storeSet_of ho hd ?_ (by rw [sz1, sizeLine_eq]; omega)
      have sb : Heap.SameBut a s.heap (s.heap.update a (Obj.putSet es1 t2)) := Heap.SameBut.update ..
      have at1 := store_at (es' := es1) (t' := t2) ho hd
      have led1 : w.params.followText "set-order" = true ∨ t2.led = true := by rw [o2, q5]; exact R.led
      revert sb at1
      generalize s.heap.update a (Obj.putSet es1 t2) = h1
      intro sb at1
      by_cases full : t2.tooFull = true
      · refine wp_if_pos (by simp [full]) ?_
        apply wpAny_bind
        have over : (L.length + 1) * 5 ≥ t1.mask * 3 := by
          have z := full
          rw [o3] at z
          unfold SetTable.tooFull at z
          rwa [decide_eq_true_eq, q9, List.length_map] at z
        rw [len]
        have psz : t2.place.size = es1.size := by
          have z := T1.sz
          rw [List.length_map, len1] at z
          rw [z, sz1]
        have two : (t.mask = 7 ∧ L.length = 4) ∨ (t.mask = 31 ∧ L.length = 18) := by
          rcases R.tab.mok with e | e | e
          · left; rw [q4, e] at over; rw [e] at rm; exact ⟨e, by omega⟩
          · right; rw [q4, e] at over; rw [e] at rm; exact ⟨e, by omega⟩
          · exfalso; rw [q4, e] at over; omega
        have anew : ∀ M, SetTable.sizeAbove (SetTable.grown (L.length + 1)) - 1 = M → MaskOk M → SetTable.sizeAbove (SetTable.grown (L.length + 1)) ≤ 128 → (L.length + 1) * 5 < M * 3 →
            wpAny (model P w) A (setRelay a (SetTable.grown (L.length + 1))) (fun _ s1 => wpAny (model P w) A (pure true) Q E s1) E { s with heap := h1 } := fun M m1 m2 m3 m4 =>
          lay_anew (s := { s with heap := h1 }) at1 hex rfl rows1 psz T1.dm (by rw [sz1, o1, q4]; rcases two with ⟨e, e2⟩ | ⟨e, e2⟩ <;> omega) nd1 led1 (by rw [len1]; exact few) m1 m2 m3 (by rw [len1]; exact m4) fun h2 L2 es2 ep2 t2 sb2 R2 pm2 =>
            wpAny_pure (fin true h2 L2 es2 ep2 t2 (sb.trans sb2) R2 (.inr ⟨hm, pm2.trans pm⟩))
        rcases two with ⟨_, e2⟩ | ⟨_, e2⟩
        · exact anew 31 (by rw [e2, size_20]) (.inr (.inl rfl)) (by rw [e2, size_20]; decide) (by omega)
        · exact anew 127 (by rw [e2, size_76]) (.inr (.inr rfl)) (by rw [e2, size_76]; decide) (by omega)
      · refine wp_if_neg (by simp [full]) ?_
        refine wpAny_pure (fin true h1 L1 es1 (ep + 1) t2 sb ⟨⟨_, at1, hex, rfl⟩, rows1, T1, nd1, led1, ?_, by rw [len1]; exact few⟩ (.inr ⟨hm, pm⟩))
        have z := full
        rw [o3] at z
        unfold SetTable.tooFull at z
        rw [decide_eq_true_eq, q9, List.length_map] at z
        rw [len1, o1]
        omega
    by_cases pl : t1.plain = true
    · refine wp_if_pos pl ?_
      apply wpAny_bind
      exact isK_byValue hx go
    · refine wp_if_neg pl ?_
      first
        | exact go true
        | exact wpAny_bind (wpAny_pure (go true))
end
end Sv

/-! sorted(set(xs)), len(set(xs)), xs tuples of ints and texts. -/
namespace Sv
open PySem L2 Evl PyProof.Rows PySem.Spec
theorem fresh_tab (b : Bool) : TabOk (.fresh 0 0 b) [] := ⟨List.Pairwise.nil, rfl, rfl, .inl rfl, fun x hx => (nomatch hx), fun i h j hi => (nomatch hi)⟩
def wayT (P : Program) (w : World) : Way P w (List Key) where
  is := fun h k v => ∃ b, v = Value.ref b ∧ isK P w h k b
  room := fun A => A.units < cLine
  most := 64
  R := fun h a L => ∃ es ep t, TR P w h a L es ep t
  born := fun {h a} ho => ⟨#[], 0, _, ⟨⟨_, ho, ⟨rfl, rfl, rfl⟩, rfl⟩, rfl, fresh_tab _, List.nodup_nil, by
    show _ ∨ (!w.params.followText "set-order") = true
    cases w.params.followText "set-order"
    · exact .inr rfl
    · exact .inl rfl, by show 0 < 7 * 3; decide, by decide⟩⟩
  move := fun ⟨es, ep, t, ⟨o, ho, hx, hd⟩, r2, r3, r4, r5, r6, r7⟩ k => ⟨es, ep, t, ⟨o, k o ho, hx, hd⟩, r2, r3, r4, r5, r6, r7⟩
  carry := fun {h h' k v} ⟨b, e, o, arr, n, ho, hc, hd, hi⟩ kp => ⟨b, e, o, arr, n, kp b o ho hc, hc, hd, hi⟩
  put := fun {A E s a L k v Q} hu ⟨es, ep, t, R⟩ els ⟨x, e, hx⟩ few fin => by
    subst e
    unfold setAdd
    apply wpAny_holding
    apply wpAny_bind
    refine wpAny_pyHash_tuple hu hx ?_
    exact put_one (s := { s with toks := s.toks + (k.length + 1) }) R els hx hu few fun b h' L' es' ep' t' sb R' cs => fin b h' _ L' sb (Nat.le_add_right _ _) ⟨es', ep', t', R'⟩ cs
  view := fun {h a L} ⟨es, ep, t, R⟩ => by
    obtain ⟨o, ho, hx, hd⟩ := R.ob
    exact ⟨o, es, ep, t, ho, hx, hd, R.fits, by rw [R.size]; exact Nat.lt_of_lt_of_le R.few (by decide), R.tab.ris, R.led, by rw [R.rows, List.map_map]; rfl⟩
def kvT (K : Fg) : Hp → List Key → V → Prop := fun H k v => ∃ b, v = V.ref b ∧ SqT K H b (k.map kV)
theorem eqv_keys : ∀ k k' : List Key, PyData.eqvAll (k.map kD) (k'.map kD) = true → k = k'
  | [], [], _ => rfl
  | [], _ :: _, h => by simp [PyData.eqvAll] at h
  | _ :: _, [], h => by simp [PyData.eqvAll] at h
  | a :: k, b :: k', h => by
    simp only [List.map_cons, PyData.eqvAll, Bool.and_eq_true] at h
    rw [keyKind.inj a b h.1, eqv_keys k k' h.2]
def tupKind : DKind (List Key) where
  dk := fun k => .tuple (k.map kD)
  kd := fun d => match d with
    | .tuple ds => keysD ds
    | _ => none
  back := fun {d k} h => by
    cases d with
    | tuple ds => rw [keysD_some (show keysD ds = some k from h)]
    | _ => cases h
  inj := fun k k' h => eqv_keys k k' (by simpa [PyData.eqv] using h)
theorem kvT_of {K : Fg} {H : Hp} {A : Av} {k : List Key} {v : V} (r : Rep K H A (tupKind.dk k) v) : kvT K H k v := by
  have r : Rep K H A (.tuple (k.map kD)) v := r
  simp only [Rep] at r
  obtain ⟨a, xs, rfl, hp, rl⟩ := r
  rw [repL_keys rl] at hp
  exact ⟨a, rfl, hp.1⟩
theorem cr_setT {X : Cx} (K : Fg) (P : Program) (w : World) (h : X.K = K) (hP : X.prog = P) (hw : X.w = w) (hc : X.calm = true) (hu : X.A.units + 64 < cLine) : CallR X (.type "set") (rSetW K (wayT P w) (kvT K)) := by
  subst h; subst hP; subst hw
  refine cr_setW (wayT X.prog X.w) (fun I e r => ?_) hc (show X.A.units + 1 + 1 + 1 < cLine by omega)
  obtain ⟨b, rfl, hs⟩ := e
  obtain rfl := (show _ = Value.ref b from r)
  obtain ⟨its, rv, ⟨o, ho, hc, n, hd⟩, _⟩ := I.tuple hs
  exact ⟨b, rfl, o, its.toArray, n, ho, hc, hd, by simpa using items_are rv⟩
theorem cr_lenT {X : Cx} (P : Program) (w : World) (hP : X.prog = P) (hw : X.w = w) : CallR X (.builtin "len") (rLenW (wayT P w)) := by
  subst hP; subst hw
  exact cr_lenW _
theorem cr_sortST {X : Cx} (K : Fg) (P : Program) (w : World) (h : X.K = K) (hP : X.prog = P) (hw : X.w = w) (hc : X.calm = true) (hu : X.A.units + 64 < cLine) : CallR X (.builtin "sorted") (rSortW K (wayT P w)) := by
  subst h; subst hP; subst hw
  exact cr_sortW _ hc hu
theorem ef_sortT {K : Fg} {P : Program} {w : World} {ta : TE} {fa : Rho → Option PyData} (ha : EB K ta fa) : EF K (tCB (rSortW K (wayT P w)) (tCons (tCB (rSetW K (wayT P w) (kvT K)) (tCons ta tNil)) tNil)) (fun ρ => (fa ρ).bind (sortSetD tupKind 60)) := ef_sortset (fun _ r => kvT_of r) (by show 60 < 64; decide) ha
theorem ef_lenT {K : Fg} {P : Program} {w : World} {ta : TE} {fa : Rho → Option PyData} (ha : EB K ta fa) : EF K (tCB (rLenW (wayT P w)) (tCons (tCB (rSetW K (wayT P w) (kvT K)) (tCons ta tNil)) tNil)) (fun ρ => (fa ρ).bind (lenSetD tupKind 60)) := ef_lenset (fun _ r => kvT_of r) (by show 60 < 64; decide) ha
end Sv

/-! tuple * int, any int. -/
namespace Sv
open PySem L2 Evl PyProof.Rows PySem.Spec
/-- once, or of nothing: itself -/
theorem mul_self (l : Addr) (items : Array Value) (n : Nat) (dd : Option Addr) (sl : Array (Option Value)) (x : Int) (u : Tok) (c0 : (decide (x < -(2 ^ 63)) || decide (x ≥ 2 ^ 63)) = false) (c1 : (items.isEmpty || x == 1) = true) :
    Meets (Builtin.«tuple.__mul__» ⟨[.ref l, .int x u], []⟩) (fun _ R s => s.heap.get? l = some { cls := .type "tuple", dict := dd, data := .seq items n, slots := sl } ∧ R (.ok (.ret (Value.ref l))) s) :=
  .of_wp fun prog w A R s h => by
    obtain ⟨hp, g, d, tk, os⟩ := s
    obtain ⟨hl, h⟩ := h
    have f1 := AutoSeq1.idx_int
    wp_walk using wpAny_loadPart' hl
    repeat (first
      | (refine wpAny_ite_false (decide_eq_false (by rw [c0]; exact Bool.false_ne_true)) ?_; wp_walk using wpAny_loadPart' hl)
      | (refine wpAny_ite_true (decide_eq_true c1) ?_; wp_walk using wpAny_loadPart' hl))
    exact ⟨_, rfl, h⟩
/-- no times: the empty one -/
theorem mul_none (l : Addr) (items : Array Value) (n : Nat) (dd : Option Addr) (sl : Array (Option Value)) (x : Int) (u : Tok) (c0 : (decide (x < -(2 ^ 63)) || decide (x ≥ 2 ^ 63)) = false) (c1 : (items.isEmpty || x == 1) = false) (c2 : (decide (x ≤ 0) || items.isEmpty) = true) :
    Meets (Builtin.«tuple.__mul__» ⟨[.ref l, .int x u], []⟩) (fun _ R s => s.heap.get? l = some { cls := .type "tuple", dict := dd, data := .seq items n, slots := sl } ∧ R (.ok (.ret (Value.ref s.heap.objs.size))) { s with heap := s.heap.push { cls := Value.type "tuple", data := Data.seq #[] }, toks := s.toks }) :=
  .of_wp fun prog w A R s h => by
    obtain ⟨hp, g, d, tk, os⟩ := s
    obtain ⟨hl, h⟩ := h
    have f1 := AutoSeq1.idx_int
    wp_walk using wpAny_loadPart' hl
    repeat (first
      | (refine wpAny_ite_false (decide_eq_false (by rw [c0]; exact Bool.false_ne_true)) ?_; wp_walk using wpAny_loadPart' hl)
      | (refine wpAny_ite_false (decide_eq_false (by rw [c1]; exact Bool.false_ne_true)) ?_; wp_walk using wpAny_loadPart' hl)
      | (refine wpAny_ite_true (decide_eq_true c2) ?_; wp_walk using wpAny_loadPart' hl))
    exact ⟨_, rfl, h⟩
def rMulT (K : Fg) : R2 := fun x y H Q => ∃ l k xs, x = .ref l ∧ y = .int k ∧ SqT K H l xs ∧ -1000 ≤ k ∧ k ≤ 1000 ∧ xs.length ≤ 1000 ∧ ((xs = [] ∨ k = 1) → Q (.ref l) H) ∧ (¬ (xs = [] ∨ k = 1) → NewT H (List.replicate k.toNat xs).flatten Q)
section
variable {X : Cx}
theorem op_mulT0 : OpR X (binaryOp .Mult) (rMulT X.K) := by
  intro pins s σ H x y v u Q I rx ry h
  obtain ⟨l, k, xs, rfl, rfl, hT, h1, h2, hz, q1, q2⟩ := h
  cases rx
  obtain ⟨t, rfl⟩ := ry
  obtain ⟨its, r, ⟨⟨cls, dd, data, sl⟩, ho, hc, n, hd⟩, hs⟩ := I.tuple hT
  dsimp only at hc hd
  subst hc hd
  have len : its.length = xs.length := r.length.symm
  have emp : its.toArray.isEmpty = decide (xs = []) := by
    cases its with
    | nil => rw [decide_eq_true (List.eq_nil_of_length_eq_zero len.symm)]; rfl
    | cons a b => rw [decide_eq_false (fun z => by rw [z] at len; cases len)]; rfl
  have c0 : (decide (k < -(2 ^ 63)) || decide (k ≥ 2 ^ 63)) = false := by
    rw [decide_eq_false (by omega), decide_eq_false (by omega)]; rfl
  have c1 : (its.toArray.isEmpty || k == 1) = decide (xs = [] ∨ k = 1) := by
    rw [emp, Bool.decide_or, show (k == 1) = decide (k = 1) from by by_cases e : k = 1 <;> simp [e]]
  by_cases hself : xs = [] ∨ k = 1
  · rw [decide_eq_true hself] at c1
    refine wpAny_binaryOp_repeat_ref (T := "tuple") (U := "int") (by decide) ⟨_, ho, rfl⟩ (fun s' => typeIs_int s' k t) noFill_tuple_mul PySem.F.fills_int_mul PySem.F.slot_int_rmul repeat_tuple PySem.F.slot_int_index.lookup
      (call_meets PySem.F.slot_int_rmul (typeIs_int s k t) PySem.F.entry_int_rmul (PySem.F.args_int_rmul_2 _ _) (int_rmul_tuple k t l its.toArray n dd sl)
        ⟨ho, rfl, ⟨_, ho, rfl⟩, call_meets PySem.F.slot_tuple_mul ⟨_, ho, rfl⟩ PySem.F.entry_tuple_mul (PySem.F.args_tuple_mul_2 _ _) (mul_self l its.toArray n dd sl k t c0 c1) ⟨ho, ?_⟩⟩)
    exact ⟨.ref l, H, I, rfl, q1 hself⟩
  · rw [decide_eq_false hself] at c1
    by_cases hk : k ≤ 0
    · have c2 : (decide (k ≤ 0) || its.toArray.isEmpty) = true := by rw [decide_eq_true hk]; rfl
      refine wpAny_binaryOp_repeat_ref (T := "tuple") (U := "int") (by decide) ⟨_, ho, rfl⟩ (fun s' => typeIs_int s' k t) noFill_tuple_mul PySem.F.fills_int_mul PySem.F.slot_int_rmul repeat_tuple PySem.F.slot_int_index.lookup
        (call_meets PySem.F.slot_int_rmul (typeIs_int s k t) PySem.F.entry_int_rmul (PySem.F.args_int_rmul_2 _ _) (int_rmul_tuple k t l its.toArray n dd sl)
          ⟨ho, rfl, ⟨_, ho, rfl⟩, call_meets PySem.F.slot_tuple_mul ⟨_, ho, rfl⟩ PySem.F.entry_tuple_mul (PySem.F.args_tuple_mul_2 _ _) (mul_none l its.toArray n dd sl k t c0 c1 c2) ⟨ho, ?_⟩⟩)
      have q := q2 hself
      rw [show k.toNat = 0 by omega] at q
      exact lay_tup (its := []) (tk := s.toks) I (fun b ob q => Heap.get?_push_of_some _ q) (by simp) .nil (Heap.get?_push_size _ rfl) q
    · have c2 : (decide (k ≤ 0) || its.toArray.isEmpty) = false := by
        rw [decide_eq_false hk, emp, decide_eq_false fun z => hself (.inl z)]; rfl
      have hsz0 : its.toArray.size = xs.length := by rw [List.size_toArray, len]
      have hm : ((its.toArray.size : Nat) : Int) * k ≤ 1000000 := by
        rw [hsz0]
        have a1 : ((xs.length : Nat) : Int) * k ≤ 1000 * k := Int.mul_le_mul_of_nonneg_right (by omega) (by omega)
        omega
      have flen : (List.replicate k.toNat its).flatten.length ≤ sizeLine := by
        rw [PyProof.Rows.lm_len_rep_flat, len, sizeLine_eq]
        have a1 : k.toNat * xs.length ≤ 1000 * 1000 := Nat.mul_le_mul (by omega) hz
        omega
      have c4 : Builtin.Tuple.tupleTooMany (((its.toArray.size : Nat) : Int) * k) = false := by
        unfold Builtin.Tuple.tupleTooMany
        rw [sizeLine_eq]
        exact decide_eq_false (by omega)
      refine wpAny_binaryOp_repeat_ref (T := "tuple") (U := "int") (by decide) ⟨_, ho, rfl⟩ (fun s' => typeIs_int s' k t) noFill_tuple_mul PySem.F.fills_int_mul PySem.F.slot_int_rmul repeat_tuple PySem.F.slot_int_index.lookup
        (call_meets PySem.F.slot_int_rmul (typeIs_int s k t) PySem.F.entry_int_rmul (PySem.F.args_int_rmul_2 _ _) (int_rmul_tuple k t l its.toArray n dd sl)
          ⟨ho, rfl, ⟨_, ho, rfl⟩, call_meets PySem.F.slot_tuple_mul ⟨_, ho, rfl⟩ PySem.F.entry_tuple_mul (PySem.F.args_tuple_mul_2 _ _) (tuple_mulW l its.toArray n dd sl k t c0 c1 c2 (by omega) c4 (by rw [size_rep, List.size_toArray]; exact flen)) ⟨ho, ?_⟩⟩)
      rw [size_rep]
      have rr : ∀ m, Vals (List.replicate m xs).flatten (List.replicate m its).flatten := fun m => by
        induction m with
        | zero => exact .nil
        | succ m ih => rw [List.replicate_succ, List.replicate_succ, List.flatten_cons, List.flatten_cons]; exact r.append ih
      exact lay_tup (its := (List.replicate k.toNat its).flatten) (tk := s.toks) I (fun b ob q => Heap.get?_push_of_some _ q) (by rw [(rr _).length]; exact flen) (rr _) (Heap.get?_push_size _ rfl) (q2 hself)
end
theorem op_mulT {X : Cx} (K : Fg) (h : X.K = K) : OpR X (binaryOp .Mult) (rMulT K) := h ▸ op_mulT0
def mulT (d e : PyData) : Option PyData := match d, e with
  | .tuple ds, .int k => if -1000 ≤ k ∧ k ≤ 1000 ∧ ds.length ≤ 1000 then some (.tuple (List.replicate k.toNat ds).flatten) else none
  | _, _ => none
theorem e2_mulT {K : Fg} : E2 K (rMulT K) mulT := fun A H d e x y z ok rx ry h Q q => by
  unfold mulT at h
  split at h
  · split at h
    · rename_i hc
      cases h
      obtain ⟨a, xs, rfl, hp, r⟩ := rx.tupP
      cases ry.int
      have rl := r.length
      refine ⟨a, _, xs, rfl, rfl, hp.1, hc.1, hc.2.1, by omega, fun hs => q _ H (Ex.refl _) ?_, fun _ p o hd hn => q _ _ (Ex.new hn) ?_⟩
      · rename_i ds k
        have e1 : (List.replicate k.toNat ds).flatten = ds := by
          rcases hs with hs | hs
          · subst hs
            have : ds = [] := List.eq_nil_of_length_eq_zero rl.symm
            subst this
            simp
          · subst hs; simp
        rw [e1]
        exact rep_tup hp r
      · simp only [Rep]
        exact ⟨p, _, rfl, ⟨.inl (.inr ⟨o, upd_same⟩), .inr (.inl ⟨o, _, upd_same, hd⟩)⟩, (repL_flat r _).mono ok (Ex.new hn)⟩
    · cases h
  · cases h
end Sv

namespace Sv
open PySem L2 Evl
/-! note: by ['=PLACES', '*note'], 3 names -/
def fb_note (m_note : OD → List PyData → Option (PyData × OD)) : Rho → Option Res := fun ρ =>
  seqR (ifR (((bnd2 (gb 1 ρ) (some (.int 0)) ixD).bind (inTabD tb_PLACES)).bind asB) (appP 0 (fun ρ => ixP 0 (fun ρ => some []) ρ ((bnd2 (gb 1 ρ) (some (.int 0)) ixD).bind (ixTabD tb_PLACES))) ρ ((bnd2 (gb 1 ρ) (some (.int 1)) ixD).map .dat)) (some (.nx ρ))) fun ρ =>
  forR (((gb 1 ρ).bind fun d => bnd2 (partI (some (.int 1))) (some none) (slD d)).bind walkD) tg1 [2] (fun ρ =>
  ifR (((gb 2 ρ).bind (isiD "tuple")).bind asB) (dropX (callX 0 (fun ρ => some []) m_note ρ ((bnd2 (gv 2 ρ) (some []) consD)))) (some (.nx ρ))) ρ
/-! named: by ['*note'], 8 names -/
def fb_named (m_note : OD → List PyData → Option (PyData × OD)) : Rho → Option Res := fun ρ =>
  seqR (asgO 1 ρ (((bnd2 ((some []).bind lstO) ((bnd2 ((some []).bind lstO) ((bnd2 ((some []).bind lstO) ((bnd2 ((some []).bind lstO) (some []) consO)) consO)) consO)) consO)).bind (ndO .lst))) fun ρ =>
  seqR (forR ((gv 0 ρ).bind walkD) (tgT 2 (tgC tg1 (tgC tg1 tgN))) [2, 3] (fun ρ =>
  forR ((gv 3 ρ).bind walkD) (tgT 2 (tgC tg1 (tgC tg1 tgN))) [4, 5] (fun ρ =>
  seqR (dropX (callX 1 (fun ρ => some []) m_note ρ ((bnd2 (gv 4 ρ) (some []) consD)))) fun ρ =>
  extP 1 (fun ρ => ixP 1 (fun ρ => some []) ρ (some (.int 3))) ρ (compL ((gb 5 ρ).bind walkD) tg1 [6] (fun ρ => (bnd2 (bnd2 (gb 6 ρ) (some (.int 0)) ixD) (((bnd2 (some (.str "mark")) ((bnd2 (some (.str "unmark")) (some []) consD)) consD)).bind tupD) inD).bind asB) (fun ρ => bnd2 (gb 6 ρ) (some (.int 1)) ixD) [6] ρ)) ρ) ρ) fun ρ =>
  (fun ρ => retR ((compL ((gb 1 ρ).bind walkD) tg1 [7] (fun ρ => some true) (fun ρ => ((gb 7 ρ).bind (sortSetD keyKind 1001)).bind tupleD) [7] ρ).bind tupleD)) (sealR 1 ρ)
end Sv

namespace Sv
open PySem L2 Evl
/-! _law_drawn: by [], 3 names -/
def fb__law_drawn : Rho → Option Res := fun ρ =>
  seqR (asgR 2 ρ (bnd2 (bnd2 (bnd2 (bnd2 (gb 0 ρ) (bnd2 (some (.int 104729)) (gb 1 ρ) mulA) addD) (some (.int 17)) addD) (some (.int 69621)) mulA) (some (.int 2147483647)) modD)) fun ρ =>
  retR (bnd2 (bnd2 (bnd2 (bnd2 (gb 2 ρ) (gb 2 ρ) mulA) (bnd2 (some (.int 3)) (gb 2 ρ) mulA) addD) (gb 1 ρ) addD) (some (.int 2147483629)) modD)
/-! _law_test: by ['_law_test', '_law_drawn'], 5 names -/
def fb__law_test (m__law_test : List PyData → Option PyData) (m__law_drawn : List PyData → Option PyData) : Rho → Option Res := fun ρ =>
  seqR (asgR 2 ρ (bnd2 (gb 0 ρ) (some (.int 8)) modD)) fun ρ =>
  seqR (ifR (andB ((bnd2 (gb 1 ρ) (some (.int 1)) gtD).bind asB) ((bnd2 (gb 2 ρ) (some (.int 4)) gtD).bind asB)) (seqR (asgR 3 ρ (((bnd2 (bnd2 (((bnd2 (gv 0 ρ) ((bnd2 (some (.int 1)) (some []) consD)) consD)).bind m__law_drawn) (some (.int 4)) fdivD) ((bnd2 (bnd2 (gb 1 ρ) (some (.int 1)) subD) (some []) consD)) consD)).bind m__law_test)) fun ρ =>
  seqR (asgR 4 ρ (((bnd2 (bnd2 (((bnd2 (gv 0 ρ) ((bnd2 (some (.int 2)) (some []) consD)) consD)).bind m__law_drawn) (some (.int 4)) fdivD) ((bnd2 (bnd2 (gb 1 ρ) (some (.int 1)) subD) (some []) consD)) consD)).bind m__law_test)) fun ρ =>
  retR (bnd2 (((bnd2 (((bnd2 (some (.str "not")) ((bnd2 (gv 3 ρ) (some []) consD)) consD)).bind tupD) ((bnd2 (((bnd2 (some (.str "both")) ((bnd2 (gv 3 ρ) ((bnd2 (gv 4 ρ) (some []) consD)) consD)) consD)).bind tupD) ((bnd2 (((bnd2 (some (.str "either")) ((bnd2 (gv 3 ρ) ((bnd2 (gv 4 ρ) (some []) consD)) consD)) consD)).bind tupD) (some []) consD)) consD)) consD)).bind lstD) (bnd2 (gb 2 ρ) (some (.int 5)) subD) ixD)) (some (.nx ρ))) fun ρ =>
  seqR (ifR ((bnd2 (gb 2 ρ) (some (.int 0)) eqD).bind asB) (retR (((bnd2 (some (.str "from")) ((bnd2 (bnd2 (((bnd2 (some (.str "ann")) ((bnd2 (some (.str "bob")) (some []) consD)) consD)).bind tupD) (bnd2 (bnd2 (gb 0 ρ) (some (.int 8)) fdivD) (some (.int 2)) modD) ixD) (some []) consD)) consD)).bind tupD)) (some (.nx ρ))) fun ρ =>
  seqR (ifR ((bnd2 (gb 2 ρ) (some (.int 1)) eqD).bind asB) (retR (((bnd2 (some (.str "over")) ((bnd2 (bnd2 (((bnd2 (some (.int 10)) ((bnd2 (some (.int 500)) ((bnd2 (some (.int 999)) (some []) consD)) consD)) consD)).bind tupD) (bnd2 (bnd2 (gb 0 ρ) (some (.int 8)) fdivD) (some (.int 3)) modD) ixD) (some []) consD)) consD)).bind tupD)) (some (.nx ρ))) fun ρ =>
  seqR (ifR ((bnd2 (gb 2 ρ) (some (.int 2)) eqD).bind asB) (retR (((bnd2 (some (.str "marked")) ((bnd2 (bnd2 (((bnd2 (some (.str "m")) ((bnd2 (some (.str "red")) (some []) consD)) consD)).bind tupD) (bnd2 (bnd2 (gb 0 ρ) (some (.int 8)) fdivD) (some (.int 2)) modD) ixD) (some []) consD)) consD)).bind tupD)) (some (.nx ρ))) fun ρ =>
  seqR (ifR ((bnd2 (gb 2 ρ) (some (.int 3)) eqD).bind asB) (retR (((bnd2 (some (.str "yes")) (some []) consD)).bind tupD)) (some (.nx ρ))) fun ρ =>
  retR (((bnd2 (some (.str "word")) ((bnd2 (bnd2 (((bnd2 (some (.str "hi")) ((bnd2 (some (.str "now")) (some []) consD)) consD)).bind tupD) (bnd2 (bnd2 (gb 0 ρ) (some (.int 8)) fdivD) (some (.int 2)) modD) ixD) (some []) consD)) consD)).bind tupD)
/-! _law_deed: by [], 4 names -/
def fb__law_deed : Rho → Option Res := fun ρ =>
  seqR (asgR 2 ρ (bnd2 (gb 0 ρ) (some (.int 12)) modD)) fun ρ =>
  seqR (asgR 3 ρ (bnd2 (((bnd2 (some (.str "a")) ((bnd2 (some (.str "in")) ((bnd2 (some (.str "old")) ((bnd2 (some (.str "x")) (some []) consD)) consD)) consD)) consD)).bind tupD) (bnd2 (bnd2 (gb 0 ρ) (some (.int 16)) fdivD) (some (.int 4)) modD) ixD)) fun ρ =>
  seqR (ifR ((bnd2 (gb 2 ρ) (some (.int 0)) eqD).bind asB) (retR (((bnd2 (some (.str "stop")) (some []) consD)).bind tupD)) (some (.nx ρ))) fun ρ =>
  seqR (ifR ((bnd2 (gb 2 ρ) (some (.int 1)) eqD).bind asB) (retR (((bnd2 (some (.str "drop")) (some []) consD)).bind tupD)) (some (.nx ρ))) fun ρ =>
  seqR (ifR ((bnd2 (gb 2 ρ) (some (.int 5)) ltD).bind asB) (retR (((bnd2 (some (.str "call")) ((bnd2 (bnd2 (gb 1 ρ) (bnd2 (bnd2 (gb 0 ρ) (some (.int 16)) fdivD) ((gb 1 ρ).bind lenD) modD) ixD) (some []) consD)) consD)).bind tupD)) (some (.nx ρ))) fun ρ =>
  seqR (ifR ((bnd2 (gb 2 ρ) (some (.int 7)) ltD).bind asB) (retR (((bnd2 (bnd2 (((bnd2 (some (.str "mark")) ((bnd2 (some (.str "unmark")) (some []) consD)) consD)).bind tupD) (bnd2 (bnd2 (gb 0 ρ) (some (.int 64)) fdivD) (some (.int 2)) modD) ixD) ((bnd2 (bnd2 (((bnd2 (some (.str "m")) ((bnd2 (some (.str "red")) (some []) consD)) consD)).bind tupD) (bnd2 (bnd2 (gb 0 ρ) (some (.int 16)) fdivD) (some (.int 2)) modD) ixD) (some []) consD)) consD)).bind tupD)) (some (.nx ρ))) fun ρ =>
  retR (((bnd2 (bnd2 (((bnd2 (some (.str "lay")) ((bnd2 (some (.str "send")) ((bnd2 (some (.str "answer")) ((bnd2 (some (.str "lay")) ((bnd2 (some (.str "answer")) (some []) consD)) consD)) consD)) consD)) consD)).bind tupD) (bnd2 (gb 2 ρ) (some (.int 7)) subD) ixD) ((bnd2 (gv 3 ρ) (some []) consD)) consD)).bind tupD)
/-! _law_book: by ['_law_drawn', '_law_deed', '_law_test'], 11 names -/
def fb__law_book (m__law_drawn : List PyData → Option PyData) (m__law_deed : List PyData → Option PyData) (m__law_test : List PyData → Option PyData) : Rho → Option Res := fun ρ =>
  seqR (asgR 1 ρ (bnd2 (((bnd2 (((bnd2 (some (.str "main")) (some []) consD)).bind tupD) ((bnd2 (((bnd2 (some (.str "main")) ((bnd2 (some (.str "sub")) (some []) consD)) consD)).bind tupD) ((bnd2 (((bnd2 (some (.str "a")) ((bnd2 (some (.str "main")) ((bnd2 (some (.str "sub")) (some []) consD)) consD)) consD)).bind tupD) ((bnd2 (((bnd2 (some (.str "a")) ((bnd2 (some (.str "main")) (some []) consD)) consD)).bind tupD) (some []) consD)) consD)) consD)) consD)).bind tupD) (bnd2 (gb 0 ρ) (some (.int 4)) modD) ixD)) fun ρ =>
  seqR (asgR 2 ρ ((some []).bind tupD)) fun ρ =>
  seqR (forR ((gv 1 ρ).bind enumD) (tgT 2 (tgC tg1 (tgC tg1 tgN))) [3, 4] (fun ρ =>
  seqR (asgR 5 ρ (bnd2 (((bnd2 (gv 0 ρ) ((bnd2 (gv 3 ρ) (some []) consD)) consD)).bind m__law_drawn) (some (.int 4)) fdivD)) fun ρ =>
  seqR (asgR 6 ρ ((some []).bind tupD)) fun ρ =>
  seqR (forR (((bnd2 (bnd2 (((bnd2 (some (.int 0)) ((bnd2 (some (.int 1)) ((bnd2 (some (.int 2)) ((bnd2 (some (.int 3)) ((bnd2 (some (.int 4)) ((bnd2 (some (.int 2)) (some []) consD)) consD)) consD)) consD)) consD)) consD)).bind tupD) (bnd2 (gb 5 ρ) (some (.int 6)) modD) ixD) (some []) consD)).bind rng1D) tg1 [7] (fun ρ =>
  seqR (asgR 8 ρ (bnd2 (((bnd2 (gv 5 ρ) ((bnd2 (bnd2 (some (.int 10)) (gb 7 ρ) addD) (some []) consD)) consD)).bind m__law_drawn) (some (.int 4)) fdivD)) fun ρ =>
  seqR (asgR 9 ρ ((compL (((bnd2 (bnd2 (some (.int 1)) (bnd2 (gb 8 ρ) (some (.int 3)) modD) addD) (some []) consD)).bind rng1D) tg1 [10] (fun ρ => some true) (fun ρ => ((bnd2 (bnd2 (((bnd2 (gv 8 ρ) ((bnd2 (bnd2 (some (.int 20)) (gb 10 ρ) addD) (some []) consD)) consD)).bind m__law_drawn) (some (.int 4)) fdivD) ((bnd2 (gv 1 ρ) (some []) consD)) consD)).bind m__law_deed) [10] ρ).bind tupleD)) fun ρ =>
  asgR 6 ρ (bnd2 (gb 6 ρ) (((bnd2 (((bnd2 (((bnd2 (bnd2 (gb 8 ρ) (some (.int 4)) fdivD) ((bnd2 (bnd2 (some (.int 1)) (bnd2 (bnd2 (gb 8 ρ) (some (.int 8)) fdivD) (some (.int 3)) modD) addD) (some []) consD)) consD)).bind m__law_test) ((bnd2 (gv 9 ρ) (some []) consD)) consD)).bind tupD) (some []) consD)).bind tupD) addD)) ρ) fun ρ =>
  asgR 2 ρ (bnd2 (gb 2 ρ) (((bnd2 (((bnd2 (gv 4 ρ) ((bnd2 (gv 6 ρ) (some []) consD)) consD)).bind tupD) (some []) consD)).bind tupD) addD)) ρ) fun ρ =>
  retR (gv 2 ρ)
/-! _law_letter: by [], 7 names -/
def fb__law_letter : Rho → Option Res := fun ρ =>
  seqR (asgR 1 ρ (bnd2 (((bnd2 (some (.str "ann")) ((bnd2 (some (.str "bob")) ((bnd2 (some (.str "cy")) (some []) consD)) consD)) consD)).bind tupD) (bnd2 (gb 0 ρ) (some (.int 3)) modD) ixD)) fun ρ =>
  seqR (asgR 2 ρ ((compL ((((bnd2 (some (.str "hi")) ((bnd2 (some (.str "now")) ((bnd2 (some (.str "x")) (some []) consD)) consD)) consD)).bind tupD).bind enumD) (tgT 2 (tgC tg1 (tgC tg1 tgN))) [4, 5] (fun ρ => (bnd2 (bnd2 (bnd2 (gb 0 ρ) (bnd2 (((bnd2 (some (.int 8)) ((bnd2 (some (.int 16)) ((bnd2 (some (.int 32)) (some []) consD)) consD)) consD)).bind tupD) (gb 4 ρ) ixD) fdivD) (some (.int 2)) modD) (some (.int 1)) eqD).bind asB) (fun ρ => gv 5 ρ) [4, 5] ρ).bind tupleD)) fun ρ =>
  seqR (asgR 3 ρ ((compL ((((bnd2 (some (.str "m")) ((bnd2 (some (.str "red")) ((bnd2 (some (.str "z")) (some []) consD)) consD)) consD)).bind tupD).bind enumD) (tgT 2 (tgC tg1 (tgC tg1 tgN))) [4, 6] (fun ρ => (bnd2 (bnd2 (bnd2 (gb 0 ρ) (bnd2 (((bnd2 (some (.int 64)) ((bnd2 (some (.int 128)) ((bnd2 (some (.int 256)) (some []) consD)) consD)) consD)).bind tupD) (gb 4 ρ) ixD) fdivD) (some (.int 2)) modD) (some (.int 1)) eqD).bind asB) (fun ρ => gv 6 ρ) [4, 6] ρ).bind tupleD)) fun ρ =>
  retR (((bnd2 (gv 1 ρ) ((bnd2 (gv 2 ρ) ((bnd2 (bnd2 (((bnd2 (some (.int 0)) ((bnd2 (some (.int 10)) ((bnd2 (some (.int 11)) ((bnd2 (some (.int 500)) ((bnd2 (some (.int 501)) ((bnd2 (some (.int 999)) (some []) consD)) consD)) consD)) consD)) consD)) consD)).bind tupD) (bnd2 (bnd2 (gb 0 ρ) (some (.int 512)) fdivD) (some (.int 6)) modD) ixD) ((bnd2 (gv 3 ρ) (some []) consD)) consD)) consD)) consD)).bind tupD)
/-! holds_with: by ['holds_with'], 4 names -/
def fb_holds_with (m_holds_with : List PyData → Option PyData) : Rho → Option Res := fun ρ =>
  seqR (asgR 3 ρ (bnd2 (gb 0 ρ) (some (.int 0)) ixD)) fun ρ =>
  seqR (ifR ((bnd2 (gb 3 ρ) (some (.str "yes")) eqD).bind asB) (retR (some (.bool true))) (some (.nx ρ))) fun ρ =>
  seqR (ifR ((bnd2 (gb 3 ρ) (some (.str "not")) eqD).bind asB) (retR (notV (((bnd2 (bnd2 (gb 0 ρ) (some (.int 1)) ixD) ((bnd2 (gv 1 ρ) ((bnd2 (gv 2 ρ) (some []) consD)) consD)) consD)).bind m_holds_with))) (some (.nx ρ))) fun ρ =>
  seqR (ifR ((bnd2 (gb 3 ρ) (some (.str "both")) eqD).bind asB) (retR (andV (((bnd2 (bnd2 (gb 0 ρ) (some (.int 1)) ixD) ((bnd2 (gv 1 ρ) ((bnd2 (gv 2 ρ) (some []) consD)) consD)) consD)).bind m_holds_with) (((bnd2 (bnd2 (gb 0 ρ) (some (.int 2)) ixD) ((bnd2 (gv 1 ρ) ((bnd2 (gv 2 ρ) (some []) consD)) consD)) consD)).bind m_holds_with))) (some (.nx ρ))) fun ρ =>
  seqR (ifR ((bnd2 (gb 3 ρ) (some (.str "either")) eqD).bind asB) (retR (orV (((bnd2 (bnd2 (gb 0 ρ) (some (.int 1)) ixD) ((bnd2 (gv 1 ρ) ((bnd2 (gv 2 ρ) (some []) consD)) consD)) consD)).bind m_holds_with) (((bnd2 (bnd2 (gb 0 ρ) (some (.int 2)) ixD) ((bnd2 (gv 1 ρ) ((bnd2 (gv 2 ρ) (some []) consD)) consD)) consD)).bind m_holds_with))) (some (.nx ρ))) fun ρ =>
  seqR (ifR ((bnd2 (gb 3 ρ) (some (.str "from")) eqD).bind asB) (retR (bnd2 (bnd2 (gb 1 ρ) (some (.int 0)) ixD) (bnd2 (gb 0 ρ) (some (.int 1)) ixD) eqD)) (some (.nx ρ))) fun ρ =>
  seqR (ifR ((bnd2 (gb 3 ρ) (some (.str "word")) eqD).bind asB) (retR (bnd2 (bnd2 (gb 0 ρ) (some (.int 1)) ixD) (bnd2 (gb 1 ρ) (some (.int 1)) ixD) inD)) (some (.nx ρ))) fun ρ =>
  seqR (ifR ((bnd2 (gb 3 ρ) (some (.str "over")) eqD).bind asB) (retR (bnd2 (bnd2 (gb 1 ρ) (some (.int 2)) ixD) (bnd2 (gb 0 ρ) (some (.int 1)) ixD) gtD)) (some (.nx ρ))) fun ρ =>
  retR (bnd2 (bnd2 (gb 0 ρ) (some (.int 1)) ixD) (gb 2 ρ) inD)
/-! holds: by ['holds_with'], 2 names -/
def fb_holds (m_holds_with : List PyData → Option PyData) : Rho → Option Res := fun ρ =>
  retR (((bnd2 (gv 0 ρ) ((bnd2 (gv 1 ρ) ((bnd2 (bnd2 (gb 1 ρ) (some (.int 3)) ixD) (some []) consD)) consD)) consD)).bind m_holds_with)
/-! Run.walk: by ['Run!', 'holds_with', 'Run.do'], 5 names -/
def fb_Run_walk (m_holds_with : List PyData → Option PyData) (m_Run_do : OD → List PyData → Option (PyData × OD)) : Rho → Option Res := fun ρ =>
  seqR (ifR ((bnd2 (gb 1 ρ) (partB 0 (fun ρ => stepP 0 (fun ρ => some []) (fldS "Run" "within") ρ) ρ) inD).bind asB) (some (.rex .none ρ)) (some (.nx ρ))) fun ρ =>
  seqR (putP 0 (fun ρ => stepP 0 (fun ρ => some []) (fldS "Run" "went") ρ) ρ (gv 1 ρ) (some (.bool true))) fun ρ =>
  seqR (appP 0 (fun ρ => stepP 0 (fun ρ => some []) (fldS "Run" "within") ρ) ρ ((gv 1 ρ).map .dat)) fun ρ =>
  seqR (forR ((bnd2 (partB 0 (fun ρ => stepP 0 (fun ρ => some []) (fldS "Run" "book") ρ) ρ) (gb 1 ρ) ixE).bind enumD) (tgT 2 (tgC tg1 (tgC tg1 tgN))) [2, 3] (fun ρ =>
  ifR (andB (((partD 0 (fun ρ => stepP 0 (fun ρ => some []) (fldS "Run" "is_over") ρ) ρ).bind asB).map not) ((((bnd2 (bnd2 (gb 3 ρ) (some (.int 0)) ixD) ((bnd2 (partD 0 (fun ρ => stepP 0 (fun ρ => some []) (fldS "Run" "letter") ρ) ρ) ((bnd2 (partD 0 (fun ρ => stepP 0 (fun ρ => some []) (fldS "Run" "marks") ρ) ρ) (some []) consD)) consD)) consD)).bind m_holds_with).bind asB)) (seqR (putPT 0 (fun ρ => stepP 0 (fun ρ => some []) (fldS "Run" "begun") ρ) ρ (((bnd2 (gv 1 ρ) ((bnd2 (gv 2 ρ) (some []) consD)) consD)).bind keyT) (some (.bool true))) fun ρ =>
  forR ((bnd2 (gb 3 ρ) (some (.int 1)) ixD).bind walkD) tg1 [4] (fun ρ =>
  ifR (((partD 0 (fun ρ => stepP 0 (fun ρ => some []) (fldS "Run" "is_over") ρ) ρ).bind asB).map not) (dropX (methX 0 (fun ρ => some []) "Run" "do" m_Run_do ρ ((bnd2 (gv 4 ρ) (some []) consD)))) (some (.nx ρ))) ρ) (some (.nx ρ))) ρ) fun ρ =>
  mutR 0 (fun ρ => stepP 0 (fun ρ => some []) (fldS "Run" "within") ρ) ρ popO
/-! Run.do: by ['Run.walk', 'Run!'], 4 names -/
def fb_Run_do (m_Run_walk : OD → List PyData → Option (PyData × OD)) : Rho → Option Res := fun ρ =>
  seqR (asgR 2 ρ (bnd2 (gb 1 ρ) (some (.int 0)) ixD)) fun ρ =>
  ifR ((bnd2 (gb 2 ρ) (some (.str "call")) eqD).bind asB) (dropX (methX 0 (fun ρ => some []) "Run" "walk" m_Run_walk ρ ((bnd2 (bnd2 (gb 1 ρ) (some (.int 1)) ixD) (some []) consD)))) (ifR ((bnd2 (gb 2 ρ) (some (.str "drop")) eqD).bind asB) (fldW 0 (fun ρ => some []) "Run" "is_dropped" ρ ((some (.bool true)).map .dat)) (ifR ((bnd2 (gb 2 ρ) (some (.str "stop")) eqD).bind asB) (fldW 0 (fun ρ => some []) "Run" "is_over" ρ ((some (.bool true)).map .dat)) (ifR ((inP false (gv 2 ρ) (partO 0 (fun ρ => stepP 0 (fun ρ => some []) (fldS "Run" "lists") ρ) ρ)).bind asB) (ifR ((bnd2 (bnd2 (gb 1 ρ) (some (.int 1)) ixD) (partB 0 (fun ρ => keyP 0 (fun ρ => stepP 0 (fun ρ => some []) (fldS "Run" "lists") ρ) ρ (gv 2 ρ)) ρ) notInD).bind asB) (appP 0 (fun ρ => keyP 0 (fun ρ => stepP 0 (fun ρ => some []) (fldS "Run" "lists") ρ) ρ (gv 2 ρ)) ρ ((bnd2 (gb 1 ρ) (some (.int 1)) ixD).map .dat)) (some (.nx ρ))) (fldW 0 (fun ρ => some []) "Run" "marks" ρ ((bnd2 (compL ((partB 0 (fun ρ => stepP 0 (fun ρ => some []) (fldS "Run" "marks") ρ) ρ).bind walkD) tg1 [3] (fun ρ => (bnd2 (gb 3 ρ) (bnd2 (gb 1 ρ) (some (.int 1)) ixD) neD).bind asB) (fun ρ => gv 3 ρ) [3] ρ) (bnd2 (((bnd2 (bnd2 (gb 1 ρ) (some (.int 1)) ixD) (some []) consD)).bind lstD) ((bnd2 (gb 2 ρ) (some (.str "mark")) eqD).bind intD) mulE) addD).map .dat)))))
/-! Run.__init__: by ['Run!', 'Run.walk', '=MAIN', '=IN'], 3 names -/
def fb_Run___init__ (m_Run_walk : OD → List PyData → Option (PyData × OD)) : Rho → Option Res := fun ρ =>
  seqR (fldW 0 (fun ρ => some []) "Run" "book" ρ (((gb 1 ρ).bind dictD).map .dat)) fun ρ =>
  seqR (fldW 0 (fun ρ => some []) "Run" "letter" ρ ((gv 2 ρ).map .dat)) fun ρ =>
  seqR (fldW 0 (fun ρ => some []) "Run" "marks" ρ (((bnd2 (gb 2 ρ) (some (.int 3)) ixD).bind listD).map .dat)) fun ρ =>
  seqR (fldW 0 (fun ρ => some []) "Run" "lists" ρ (((dispP (some (.str "lay")) ((some []).bind lstO) ((dispP (some (.str "send")) ((some []).bind lstO) ((dispP (some (.str "answer")) ((some []).bind lstO) (some []))))))).bind dispO)) fun ρ =>
  seqR (fldW 0 (fun ρ => some []) "Run" "is_dropped" ρ ((some (.bool false)).map .dat)) fun ρ =>
  seqR (fldW 0 (fun ρ => some []) "Run" "is_over" ρ ((some (.bool false)).map .dat)) fun ρ =>
  seqR (fldW 0 (fun ρ => some []) "Run" "within" ρ ((some []).bind lstO)) fun ρ =>
  seqR (fldW 0 (fun ρ => some []) "Run" "went" ρ (some (.nd (.dk []) []))) fun ρ =>
  seqR (fldW 0 (fun ρ => some []) "Run" "begun" ρ (some (.nd (.dt []) []))) fun ρ =>
  seqR (dropX (methX 0 (fun ρ => some []) "Run" "walk" m_Run_walk ρ ((bnd2 (some (.str "main")) (some []) consD)))) fun ρ =>
  ifR (andB (((partD 0 (fun ρ => stepP 0 (fun ρ => some []) (fldS "Run" "is_dropped") ρ) ρ).bind asB).map not) ((bnd2 (bnd2 ((partB 0 (fun ρ => keyP 0 (fun ρ => stepP 0 (fun ρ => some []) (fldS "Run" "lists") ρ) ρ (some (.str "lay"))) ρ).bind lenD) ((partB 0 (fun ρ => keyP 0 (fun ρ => stepP 0 (fun ρ => some []) (fldS "Run" "lists") ρ) ρ (some (.str "send"))) ρ).bind lenD) addD) (some (.int 0)) eqD).bind asB)) (appP 0 (fun ρ => keyP 0 (fun ρ => stepP 0 (fun ρ => some []) (fldS "Run" "lists") ρ) ρ (some (.str "lay"))) ρ ((some (.str "in")).map .dat)) (some (.nx ρ))
/-! Run.told: by ['Run!'], 3 names -/
def fb_Run_told : Rho → Option Res := fun ρ =>
  seqR (asgR 1 ρ ((compL ((((bnd2 (some (.str "lay")) ((bnd2 (some (.str "send")) ((bnd2 (some (.str "answer")) (some []) consD)) consD)) consD)).bind tupD).bind walkD) tg1 [2] (fun ρ => some true) (fun ρ => (bnd2 ((gv 0 ρ).bind (fldD "Run" "lists")) (gb 2 ρ) ixE).bind tupleD) [2] ρ).bind tupleD)) fun ρ =>
  retR (bnd2 (gb 1 ρ) (((bnd2 ((((gv 0 ρ).bind (fldD "Run" "marks")).bind sortD).bind tupleD) (some []) consD)).bind tupD) addD)
/-! outcome: by ['Run', 'Run.told'], 2 names -/
def fb_outcome (m_Run : OD → List PyData → Option (PyData × OD)) (m_Run_told : List PyData → Option PyData) : Rho → Option Res := fun ρ =>
  retR (bnd2 (((bnd2 (gv 0 ρ) ((bnd2 (gv 1 ρ) (some []) consD)) consD)).bind (makeD "Run" m_Run)) (some []) (methD "Run" "told" m_Run_told))
/-! done_by: by ['Run', 'Run!'], 2 names -/
def fb_done_by (m_Run : OD → List PyData → Option (PyData × OD)) : Rho → Option Res := fun ρ =>
  retR ((((((bnd2 (gv 0 ρ) ((bnd2 (gv 1 ρ) (some []) consD)) consD)).bind (makeD "Run" m_Run)).bind (fldD "Run" "begun")).bind sortD).bind tupleD)
end Sv

/-! What the laws' own drawing defs give, as plain functions. -/
namespace Sv
open PySem L2 Evl

/-! ### evaluating residues -/
theorem bnd2_ss {α β γ : Type} (a : α) (b : β) (g : α → β → Option γ) : bnd2 (some a) (some b) g = g a b := rfl
theorem seqR_nx (ρ : Rho) (g : Rho → Option Res) : seqR (some (.nx ρ)) g = g ρ := rfl
theorem seqR_ret (d : PyData) (g : Rho → Option Res) : seqR (some (.ret d)) g = some (.ret d) := rfl
theorem ifR_t (a b : Option Res) : ifR (some true) a b = a := rfl
theorem ifR_f (a b : Option Res) : ifR (some false) a b = b := rfl
theorem asgR_s (i : Nat) (ρ : Rho) (d : PyData) : asgR i ρ (some d) = some (.nx (ρ.set i (.val d))) := rfl
theorem retR_s (d : PyData) : retR (some d) = some (.ret d) := rfl
theorem retD_s (d : PyData) : retD (some (.ret d)) = some d := rfl
theorem asB_b (b : Bool) : asB (.bool b) = some b := rfl
theorem asI_i (i : Int) : asI (.int i) = some i := rfl
theorem consD_ (d : PyData) (ds : List PyData) : consD d ds = some (d :: ds) := rfl
theorem addD_ii (a b : Int) : addD (.int a) (.int b) = some (.int (a + b)) := rfl
theorem subD_ii (a b : Int) : subD (.int a) (.int b) = some (.int (a - b)) := rfl
theorem modD_ii (a b : Int) (h : 0 < b) : modD (.int a) (.int b) = some (.int (a % b)) := by simp [modD, h]
theorem fdivD_ii (a b : Int) (h : CDiv a b) : fdivD (.int a) (.int b) = some (.int (a / b)) := by simp [fdivD, h]
theorem mulD_ii (a b : Int) (h : CMul a b) : mulD (.int a) (.int b) = some (.int (a * b)) := by simp [mulD, h]
theorem gtD_ii (a b : Int) : gtD (.int a) (.int b) = some (.bool (decide (b < a))) := rfl
theorem geD_ii (a b : Int) : geD (.int a) (.int b) = some (.bool (decide (b ≤ a))) := rfl
theorem leD_ii (a b : Int) : leD (.int a) (.int b) = some (.bool (decide (a ≤ b))) := rfl
theorem ltD_ii (a b : Int) : ltD (.int a) (.int b) = some (.bool (decide (a < b))) := rfl
theorem eqD_ii (a b : Int) : eqD (.int a) (.int b) = some (.bool (decide (a = b))) := rfl
theorem eqD_ss (a b : Str) : eqD (.str a) (.str b) = some (.bool (decide (a = b))) := rfl
theorem neD_ss (a b : Str) : neD (.str a) (.str b) = some (.bool (!decide (a = b))) := rfl
theorem neD_ii (a b : Int) : neD (.int a) (.int b) = some (.bool (!decide (a = b))) := rfl
theorem neD_bb (a b : Bool) : neD (.bool a) (.bool b) = some (.bool (!decide (a = b))) := rfl
theorem ixD_t (ds : List PyData) (i : Int) : ixD (.tuple ds) (.int i) = atI ds i := rfl
theorem ixD_l (ds : List PyData) (i : Int) : ixD (.list ds) (.int i) = atI ds i := rfl

def drawnD (n k : Int) : Int := (n + 104729 * k + 17) * 69621 % 2147483647
def drawnN (n k : Int) : Int := (drawnD n k * drawnD n k + 3 * drawnD n k + k) % 2147483629
def m_drawn : List PyData → Option PyData := runD 3 2 fb__law_drawn
theorem drawn_eq (n k : Int) : m_drawn [.int n, .int k] = some (.int (drawnN n k)) := by
  have d1 : 0 ≤ drawnD n k := Int.emod_nonneg _ (by decide)
  have d2 : drawnD n k < 2147483647 := Int.emod_lt_of_pos _ (by decide)
  have c1 : CMul 104729 k := .inl (by decide)
  have c2 : CMul (n + 104729 * k + 17) 69621 := .inr (by decide)
  have c3 : CMul (drawnD n k) (drawnD n k) := .inl ⟨by omega, by omega⟩
  have c4 : CMul 3 (drawnD n k) := .inl (by decide)
  have e : (n + 104729 * k + 17) * 69621 % 2147483647 = drawnD n k := rfl
  simp [m_drawn, runD, fb__law_drawn, startR, gb, bnd2_ss, mulD_ii, c1, c2, c3, c4, addD_ii, modD_ii, asgR_s, seqR_nx, retR_s, retD_s, e, drawnN]

/-! ### items by a remainder -/
def pk2 {α : Type} (a b : α) (n : Int) : α := if n % 2 = 0 then a else b
def pk3 {α : Type} (a b c : α) (n : Int) : α := if n % 3 = 0 then a else if n % 3 = 1 then b else c
def pk4 {α : Type} (a b c d : α) (n : Int) : α := if n % 4 = 0 then a else if n % 4 = 1 then b else if n % 4 = 2 then c else d
def pk6 {α : Type} (a b c d e f : α) (n : Int) : α := if n % 6 = 0 then a else if n % 6 = 1 then b else if n % 6 = 2 then c else if n % 6 = 3 then d else if n % 6 = 4 then e else f
theorem atI_0 {α : Type} (a : α) (r : List α) : atI (a :: r) 0 = some a := atI_nat (j := 0) rfl
theorem atI_1 {α : Type} (a b : α) (r : List α) : atI (a :: b :: r) 1 = some b := atI_nat (j := 1) rfl
theorem atI_2 {α : Type} (a b c : α) (r : List α) : atI (a :: b :: c :: r) 2 = some c := atI_nat (j := 2) rfl
theorem atI_3 {α : Type} (a b c d : α) (r : List α) : atI (a :: b :: c :: d :: r) 3 = some d := atI_nat (j := 3) rfl
theorem atI_4 {α : Type} (a b c d e : α) (r : List α) : atI (a :: b :: c :: d :: e :: r) 4 = some e := atI_nat (j := 4) rfl
theorem atI_5 {α : Type} (a b c d e f : α) (r : List α) : atI (a :: b :: c :: d :: e :: f :: r) 5 = some f := atI_nat (j := 5) rfl
theorem atI_pk2 {α : Type} (a b : α) (n : Int) : atI [a, b] (n % 2) = some (pk2 a b n) := by
  have h : n % 2 = 0 ∨ n % 2 = 1 := by omega
  unfold pk2
  rcases h with h | h <;> rw [h]
  · simp [atI_0]
  · simp [atI_1]
theorem atI_pk3 {α : Type} (a b c : α) (n : Int) : atI [a, b, c] (n % 3) = some (pk3 a b c n) := by
  have h : n % 3 = 0 ∨ n % 3 = 1 ∨ n % 3 = 2 := by omega
  unfold pk3
  rcases h with h | h | h <;> rw [h]
  · simp [atI_0]
  · simp [atI_1]
  · simp [atI_2]
theorem atI_pk4 {α : Type} (a b c d : α) (n : Int) : atI [a, b, c, d] (n % 4) = some (pk4 a b c d n) := by
  have h : n % 4 = 0 ∨ n % 4 = 1 ∨ n % 4 = 2 ∨ n % 4 = 3 := by omega
  unfold pk4
  rcases h with h | h | h | h <;> rw [h]
  · simp [atI_0]
  · simp [atI_1]
  · simp [atI_2]
  · simp [atI_3]
theorem atI_pk6 {α : Type} (a b c d e f : α) (n : Int) : atI [a, b, c, d, e, f] (n % 6) = some (pk6 a b c d e f n) := by
  have h : n % 6 = 0 ∨ n % 6 = 1 ∨ n % 6 = 2 ∨ n % 6 = 3 ∨ n % 6 = 4 ∨ n % 6 = 5 := by omega
  unfold pk6
  rcases h with h | h | h | h | h | h <;> rw [h]
  · simp [atI_0]
  · simp [atI_1]
  · simp [atI_2]
  · simp [atI_3]
  · simp [atI_4]
  · simp [atI_5]
theorem pk2_map {α β : Type} (f : α → β) (a b : α) (n : Int) : pk2 (f a) (f b) n = f (pk2 a b n) := by unfold pk2; split <;> rfl
theorem pk3_map {α β : Type} (f : α → β) (a b c : α) (n : Int) : pk3 (f a) (f b) (f c) n = f (pk3 a b c n) := by unfold pk3; split <;> (try split) <;> rfl
theorem pk4_map {α β : Type} (f : α → β) (a b c d : α) (n : Int) : pk4 (f a) (f b) (f c) (f d) n = f (pk4 a b c d n) := by unfold pk4; split <;> (try split) <;> (try split) <;> rfl
theorem pk6_map {α β : Type} (f : α → β) (a b c d e g : α) (n : Int) : pk6 (f a) (f b) (f c) (f d) (f e) (f g) n = f (pk6 a b c d e g n) := by unfold pk6; split <;> (try split) <;> (try split) <;> (try split) <;> (try split) <;> rfl

/-! ### tests -/
inductive Tst where
  | frm (s : Str)
  | word (s : Str)
  | over (n : Int)
  | marked (s : Str)
  | yes
  | not (t : Tst)
  | both (a b : Tst)
  | either (a b : Tst)
  deriving DecidableEq
def Tst.enc : Tst → PyData
  | .frm s => .tuple [.str "from", .str s]
  | .word s => .tuple [.str "word", .str s]
  | .over n => .tuple [.str "over", .int n]
  | .marked s => .tuple [.str "marked", .str s]
  | .yes => .tuple [.str "yes"]
  | .not t => .tuple [.str "not", t.enc]
  | .both a b => .tuple [.str "both", a.enc, b.enc]
  | .either a b => .tuple [.str "either", a.enc, b.enc]
def leafN (n : Int) : Tst :=
  if n % 8 = 0 then .frm (pk2 "ann" "bob" (n / 8)) else if n % 8 = 1 then .over (pk3 10 500 999 (n / 8)) else if n % 8 = 2 then .marked (pk2 "m" "red" (n / 8)) else if n % 8 = 3 then .yes else .word (pk2 "hi" "now" (n / 8))
def testN : Nat → Int → Tst
  | 0, n => leafN n
  | d + 1, n => if 0 < d ∧ 4 < n % 8 then
      (if n % 8 = 5 then .not (testN d (drawnN n 1 / 4)) else if n % 8 = 6 then .both (testN d (drawnN n 1 / 4)) (testN d (drawnN n 2 / 4)) else .either (testN d (drawnN n 1 / 4)) (testN d (drawnN n 2 / 4)))
    else leafN n
def m_test : Nat → List PyData → Option PyData := itm fun m => runD 5 2 (fb__law_test m m_drawn)
theorem tupD_ (ds : List PyData) (h : ds.length ≤ 1000) : tupD ds = some (.tuple ds) := by
  unfold tupD lenOk
  rw [if_pos (decide_eq_true (Nat.le_trans h (by decide)))]
theorem lstD_ (ds : List PyData) (h : ds.length ≤ 1000) : lstD ds = some (.list ds) := by
  unfold lstD lenOk
  rw [if_pos (decide_eq_true (Nat.le_trans h (by decide)))]
theorem cdiv {i j : Int} (h : 0 < j ∧ j < 1073741824) : CDiv i j := h
theorem test_leaf (m : List PyData → Option PyData) (x d : Int) (h : ¬ (1 < d ∧ 4 < x % 8)) : runD 5 2 (fb__law_test m m_drawn) [.int x, .int d] = some (leafN x).enc := by
  have c8 : CDiv x 8 := cdiv (by decide)
  have hk : x % 8 = 0 ∨ x % 8 = 1 ∨ x % 8 = 2 ∨ x % 8 = 3 ∨ 3 < x % 8 := by omega
  have hif : (decide (1 < d) && decide (4 < x % 8)) = false := by
    by_cases h1 : 1 < d
    · have : ¬ 4 < x % 8 := fun h2 => h ⟨h1, h2⟩
      simp [this]
    · simp [h1]
  have hab : andB (some (decide (1 < d))) (some (decide (4 < x % 8))) = some false := by
    cases h1 : decide (1 < d) with
    | false => rfl
    | true => rw [h1] at hif; simpa [andB] using hif
  unfold leafN
  rcases hk with h | h | h | h | h
  all_goals simp [runD, fb__law_test, startR, gb, gv, bnd2_ss, modD_ii, asgR_s, seqR_nx, gtD_ii, asB_b]
  all_goals rw [hab]
  · simp [ifR_f, ifR_t, seqR_nx, eqD_ii, asB_b, h, consD_, bnd2_ss, fdivD_ii, c8, modD_ii, tupD_, ixD_t, atI_pk2, atI_pk3, retR_s, seqR_ret, retD_s, Tst.enc, pk2_map PyData.str, pk3_map PyData.int]
  · simp [ifR_f, ifR_t, seqR_nx, eqD_ii, asB_b, h, consD_, bnd2_ss, fdivD_ii, c8, modD_ii, tupD_, ixD_t, atI_pk2, atI_pk3, retR_s, seqR_ret, retD_s, Tst.enc, pk2_map PyData.str, pk3_map PyData.int]
  · simp [ifR_f, ifR_t, seqR_nx, eqD_ii, asB_b, h, consD_, bnd2_ss, fdivD_ii, c8, modD_ii, tupD_, ixD_t, atI_pk2, atI_pk3, retR_s, seqR_ret, retD_s, Tst.enc, pk2_map PyData.str, pk3_map PyData.int]
  · simp [ifR_f, ifR_t, seqR_nx, eqD_ii, asB_b, h, consD_, bnd2_ss, fdivD_ii, c8, modD_ii, tupD_, ixD_t, atI_pk2, atI_pk3, retR_s, seqR_ret, retD_s, Tst.enc, pk2_map PyData.str, pk3_map PyData.int]
  · have n0 : ¬ x % 8 = 0 := by omega
    have n1 : ¬ x % 8 = 1 := by omega
    have n2 : ¬ x % 8 = 2 := by omega
    have n3 : ¬ x % 8 = 3 := by omega
    simp [ifR_f, ifR_t, seqR_nx, eqD_ii, asB_b, n0, n1, n2, n3, consD_, bnd2_ss, fdivD_ii, c8, modD_ii, tupD_, ixD_t, atI_pk2, atI_pk3, retR_s, seqR_ret, retD_s, Tst.enc, pk2_map PyData.str, pk3_map PyData.int]
theorem test_eq : ∀ (n d : Nat) (x : Int), d ≤ n + 1 → m_test (n + 1) [.int x, .int (d : Int)] = some (testN d x).enc
  | n, 0, x, hd => test_leaf _ x 0 (by omega)
  | n, 1, x, hd => by
    have ht : testN 1 x = leafN x := by simp [testN]
    rw [ht]
    exact test_leaf _ x 1 (by omega)
  | 0, d + 2, x, hd => by omega
  | n + 1, d + 2, x, hd => by
    by_cases h4 : 4 < x % 8
    · have i1 := test_eq n (d + 1) (drawnN x 1 / 4) (by omega)
      have i2 := test_eq n (d + 1) (drawnN x 2 / 4) (by omega)
      have c4 : ∀ y, CDiv y 4 := fun y => cdiv (by decide)
      have hd1 : ((d + 2 : Nat) : Int) - 1 = ((d + 1 : Nat) : Int) := by omega
      have hd2 : (1 : Int) < ((d + 2 : Nat) : Int) := by omega
      have hk : x % 8 = 5 ∨ x % 8 = 6 ∨ x % 8 = 7 := by omega
      show runD 5 2 (fb__law_test (m_test (n + 1)) m_drawn) [.int x, .int ((d + 2 : Nat) : Int)] = _
      unfold testN
      rw [if_pos ⟨by omega, h4⟩]
      have e1 : m_test (n + 1) [.int (drawnN x 1 / 4), .int (((d + 2 : Nat) : Int) - 1)] = some (testN (d + 1) (drawnN x 1 / 4)).enc := by rw [hd1]; exact i1
      have e2 : m_test (n + 1) [.int (drawnN x 2 / 4), .int (((d + 2 : Nat) : Int) - 1)] = some (testN (d + 1) (drawnN x 2 / 4)).enc := by rw [hd1]; exact i2
      generalize ((d + 2 : Nat) : Int) = D at *
      rcases hk with h | h | h
      all_goals simp [runD, fb__law_test, startR, gb, gv, bnd2_ss, modD_ii, asgR_s, seqR_nx, gtD_ii, subD_ii, asB_b, andB, hd2, h, ifR_t, consD_, drawn_eq, fdivD_ii, c4, e1, e2, tupD_, lstD_, ixD_l, atI_0, atI_1, atI_2, retR_s, seqR_ret, retD_s, Tst.enc]
    · have ht : testN (d + 2) x = leafN x := by
        unfold testN
        rw [if_neg fun z => h4 z.2]
      rw [ht]
      exact test_leaf _ x _ (fun z => h4 z.2)

/-! ### written texts -/
theorem ofS_inj (a b : String) : (Str.ofString a = Str.ofString b) = (a = b) := by
  apply propext
  refine ⟨fun h => ?_, fun h => by rw [h]⟩
  rw [Str.ofString_eq_toList, Str.ofString_eq_toList] at h
  have h1 : a.toList.map Char.toNat = b.toList.map Char.toNat := by
    injection h with h
    exact List.toArray_inj h
  have h2 : a.toList = b.toList := List.map_inj_right (fun x y e => Char.toNat_inj.mp e) |>.mp h1
  exact String.toList_inj.mp h2

/-! ### data that == takes -/
def nmOk (s : Str) : Bool := PyData.strOk s
theorem shp_str (s : Str) : shp (.str s) = nmOk s := by simp [shp, SeqAt.shaped, PyData.canLay0, PyData.depth, nmOk]
theorem shp_iff (d : PyData) : shp d = true ↔ d.canLay0 = true ∧ d.depth ≤ 64 := by simp [shp, SeqAt.shaped]
theorem lay_strs : ∀ (ss : List Str), ss.all nmOk = true → PyData.canLayAll0 (ss.map .str) = true
  | [], _ => by simp [PyData.canLayAll0]
  | s :: ss, h => by
    simp only [List.all_cons, Bool.and_eq_true] at h
    simp only [List.map_cons, PyData.canLayAll0, PyData.canLay0, Bool.and_eq_true]
    exact ⟨h.1, lay_strs ss h.2⟩
theorem dep_strs : ∀ (ss : List Str), PyData.depthAll (ss.map .str) = 0
  | [] => by simp [PyData.depthAll]
  | s :: ss => by simp [PyData.depthAll, PyData.depth, dep_strs ss]
theorem shp_tstrs (ss : List Str) (h : ss.all nmOk = true) : shp (.tuple (ss.map .str)) = true := by
  rw [shp_iff]
  exact ⟨by simpa [PyData.canLay0] using lay_strs ss h, by simp [PyData.depth, dep_strs]⟩
theorem shp_lstrs (ss : List Str) (h : ss.all nmOk = true) : shp (.list (ss.map .str)) = true := by
  rw [shp_iff]
  exact ⟨by simpa [PyData.canLay0] using lay_strs ss h, by simp [PyData.depth, dep_strs]⟩
theorem str_beq (a b : Str) : (a == b) = decide (a = b) := by
  by_cases h : a = b
  · subst h; simp
  · rw [decide_eq_false h]; exact beq_eq_false_iff_ne.mpr h
theorem any_str (s : Str) : ∀ ss : List Str, ((ss.map PyData.str).any fun z => PyData.eqv z (.str s)) = decide (s ∈ ss)
  | [] => by simp
  | x :: ss => by
    simp only [List.map_cons, List.any_cons, any_str s ss, PyData.eqv, str_beq, List.mem_cons]
    by_cases h : x = s
    · subst h; simp
    · have h' : ¬ s = x := fun e => h e.symm
      simp [h, h']
theorem inD_t (s : Str) (ss : List Str) (h : ss.all nmOk = true) (hs : nmOk s = true) : inD (.str s) (.tuple (ss.map .str)) = some (.bool (decide (s ∈ ss))) := by
  unfold inD inB
  simp only [itemsOf, shp_str, hs, shp_tstrs ss h, any_str, Bool.and_self, if_true, Option.map_some]
theorem inD_l (s : Str) (ss : List Str) (h : ss.all nmOk = true) (hs : nmOk s = true) : inD (.str s) (.list (ss.map .str)) = some (.bool (decide (s ∈ ss))) := by
  unfold inD inB
  simp only [itemsOf, shp_str, hs, shp_lstrs ss h, any_str, Bool.and_self, if_true, Option.map_some]

/-! ### letters -/
structure Ltr where
  sender : Str
  words : List Str
  size : Int
  marks : List Str
  deriving DecidableEq
def strsD (ss : List Str) : PyData := .tuple (ss.map .str)
def Ltr.enc (l : Ltr) : PyData := .tuple [.str l.sender, strsD l.words, .int l.size, strsD l.marks]
def Ltr.ok (l : Ltr) : Bool := nmOk l.sender && l.words.all nmOk && l.marks.all nmOk
def wordsN (x : Int) : List Str := (if x / 8 % 2 = 1 then [("hi" : Str)] else []) ++ ((if x / 16 % 2 = 1 then [("now" : Str)] else []) ++ (if x / 32 % 2 = 1 then [("x" : Str)] else []))
def marksN (x : Int) : List Str := (if x / 64 % 2 = 1 then [("m" : Str)] else []) ++ ((if x / 128 % 2 = 1 then [("red" : Str)] else []) ++ (if x / 256 % 2 = 1 then [("z" : Str)] else []))
def letterN (x : Int) : Ltr := ⟨pk3 "ann" "bob" "cy" x, wordsN x, pk6 0 10 11 500 501 999 (x / 512), marksN x⟩
def m_letter : List PyData → Option PyData := runD 7 1 fb__law_letter
theorem tgT2 (i j : PyData) : tgT 2 (tgC tg1 (tgC tg1 tgN)) (.tuple [i, j]) = some [i, j] := rfl
theorem lenOk_ {n : Nat} (h : n ≤ 1000) : lenOk n = true := decide_eq_true (Nat.le_trans h (by decide))
theorem seq_step {a : Option Res} {g : Rho → Option Res} {ρ : Rho} {r : Option Res} (h : a = some (.nx ρ)) (h2 : g ρ = r) : seqR a g = r := by rw [h]; exact h2
theorem run_step {n k : Nat} {fb : Rho → Option Res} {ds : List PyData} {d : PyData} (hl : ds.length = k) (h : fb (startR n ds) = some (.ret d)) : runD n k fb ds = some d := by unfold runD; rw [if_pos hl, h]; rfl
theorem letter_eq (x : Int) : m_letter [.int x] = some (letterN x).enc := by
  have c : ∀ k : Int, 0 < k → k < 1073741824 → CDiv x k := fun k h1 h2 => cdiv ⟨h1, h2⟩
  have h8 : x / 8 % 2 = 0 ∨ x / 8 % 2 = 1 := by omega
  have h16 : x / 16 % 2 = 0 ∨ x / 16 % 2 = 1 := by omega
  have h32 : x / 32 % 2 = 0 ∨ x / 32 % 2 = 1 := by omega
  have h64 : x / 64 % 2 = 0 ∨ x / 64 % 2 = 1 := by omega
  have h128 : x / 128 % 2 = 0 ∨ x / 128 % 2 = 1 := by omega
  have h256 : x / 256 % 2 = 0 ∨ x / 256 % 2 = 1 := by omega
  refine run_step rfl ?_
  refine seq_step (ρ := [.val (.int x), .val (.str (pk3 "ann" "bob" "cy" x)), .no, .no, .no, .no, .no]) ?_ ?_
  · simp [startR, bnd2_ss, consD_, tupD_, gb, modD_ii, ixD_t, atI_pk3, asgR_s, pk3_map PyData.str]
  refine seq_step (ρ := [.val (.int x), .val (.str (pk3 "ann" "bob" "cy" x)), .val (strsD (wordsN x)), .no, .no, .no, .no]) ?_ ?_
  · unfold wordsN strsD
    rcases h8 with a | a <;> rcases h16 with b | b <;> rcases h32 with d | d <;>
    simp [compL, compD, bnd2_ss, consD_, tupD_, enumD, itemsOf, enumFrom, lenOk_, tgT2, wipeR, setsR, gb, gv, ixD_t, atI_0, atI_1, atI_2, fdivD_ii, c, modD_ii, eqD_ii, asB_b, a, b, d, tupleD, asgR_s]
  refine seq_step (ρ := [.val (.int x), .val (.str (pk3 "ann" "bob" "cy" x)), .val (strsD (wordsN x)), .val (strsD (marksN x)), .no, .no, .no]) ?_ ?_
  · unfold marksN strsD
    rcases h64 with a | a <;> rcases h128 with b | b <;> rcases h256 with d | d <;>
    simp [compL, compD, bnd2_ss, consD_, tupD_, enumD, itemsOf, enumFrom, lenOk_, tgT2, wipeR, setsR, gb, gv, ixD_t, atI_0, atI_1, atI_2, fdivD_ii, c, modD_ii, eqD_ii, asB_b, a, b, d, tupleD, asgR_s]
  simp [gv, gb, bnd2_ss, consD_, tupD_, fdivD_ii, c, modD_ii, ixD_t, atI_pk6, retR_s, letterN, Ltr.enc, pk6_map PyData.int]

/-! ### whether a test holds -/
def hold : Tst → Ltr → List Str → Bool
  | .frm s, l, _ => decide (l.sender = s)
  | .word s, l, _ => decide (s ∈ l.words)
  | .over n, l, _ => decide (n < l.size)
  | .marked s, _, ms => decide (s ∈ ms)
  | .yes, _, _ => true
  | .not t, l, ms => !hold t l ms
  | .both a b, l, ms => hold a l ms && hold b l ms
  | .either a b, l, ms => hold a l ms || hold b l ms
def Tst.dep : Tst → Nat
  | .not t => t.dep + 1
  | .both a b => max a.dep b.dep + 1
  | .either a b => max a.dep b.dep + 1
  | _ => 0
def Tst.ok : Tst → Bool
  | .frm s => nmOk s
  | .word s => nmOk s
  | .marked s => nmOk s
  | .over _ => true
  | .yes => true
  | .not t => t.ok
  | .both a b => a.ok && b.ok
  | .either a b => a.ok && b.ok
def m_hw : Nat → List PyData → Option PyData := itm fun m => runD 4 3 (fb_holds_with m)
theorem m_hw_succ (n : Nat) (ds : List PyData) : m_hw (n + 1) ds = runD 4 3 (fb_holds_with (m_hw n)) ds := rfl
/-- marks, as a tuple or a list -/
def MarksD (md : PyData) (ms : List Str) : Prop := md = .tuple (ms.map .str) ∨ md = .list (ms.map .str)
theorem inD_m {s : Str} {ms : List Str} {md : PyData} (h : MarksD md ms) (ho : ms.all nmOk = true) (hs : nmOk s = true) : inD (.str s) md = some (.bool (decide (s ∈ ms))) := by
  rcases h with rfl | rfl
  · exact inD_t s ms ho hs
  · exact inD_l s ms ho hs
theorem hold_eq : ∀ (n : Nat) (t : Tst) (l : Ltr) (ms : List Str) (md : PyData), t.dep ≤ n → t.ok = true → l.ok = true → ms.all nmOk = true → MarksD md ms → m_hw (n + 1) [t.enc, l.enc, md] = some (.bool (hold t l ms))
  | n, .frm s, l, ms, md, hn, ht, hl, hm, hd => by
    simp [m_hw_succ, ofS_inj, runD, fb_holds_with, startR, gb, gv, bnd2_ss, Tst.enc, Ltr.enc, ixD_t, atI_0, atI_1, asgR_s, seqR_nx, eqD_ss, asB_b, ifR_f, ifR_t, retR_s, seqR_ret, retD_s, hold]
  | n, .word s, l, ms, md, hn, ht, hl, hm, hd => by
    simp only [Ltr.ok, Bool.and_eq_true] at hl
    have e := inD_t s l.words hl.1.2 ht
    simp [m_hw_succ, ofS_inj, runD, fb_holds_with, startR, gb, gv, bnd2_ss, Tst.enc, Ltr.enc, strsD, ixD_t, atI_0, atI_1, asgR_s, seqR_nx, eqD_ss, asB_b, ifR_f, ifR_t, retR_s, seqR_ret, retD_s, hold, e]
  | n, .over s, l, ms, md, hn, ht, hl, hm, hd => by
    simp [m_hw_succ, ofS_inj, runD, fb_holds_with, startR, gb, gv, bnd2_ss, Tst.enc, Ltr.enc, ixD_t, atI_0, atI_1, atI_2, asgR_s, seqR_nx, eqD_ss, asB_b, ifR_f, ifR_t, retR_s, seqR_ret, retD_s, hold, gtD_ii]
  | n, .marked s, l, ms, md, hn, ht, hl, hm, hd => by
    have e := inD_m hd hm (show nmOk s = true from ht)
    simp [m_hw_succ, ofS_inj, runD, fb_holds_with, startR, gb, gv, bnd2_ss, Tst.enc, Ltr.enc, ixD_t, atI_0, atI_1, asgR_s, seqR_nx, eqD_ss, asB_b, ifR_f, ifR_t, retR_s, seqR_ret, retD_s, hold, e]
  | n, .yes, l, ms, md, hn, ht, hl, hm, hd => by
    simp [m_hw_succ, ofS_inj, runD, fb_holds_with, startR, gb, gv, bnd2_ss, Tst.enc, Ltr.enc, ixD_t, atI_0, atI_1, asgR_s, seqR_nx, eqD_ss, asB_b, ifR_f, ifR_t, retR_s, seqR_ret, retD_s, hold]
  | 0, .not t, l, ms, md, hn, ht, hl, hm, hd => by simp [Tst.dep] at hn
  | 0, .both a b, l, ms, md, hn, ht, hl, hm, hd => by simp [Tst.dep] at hn
  | 0, .either a b, l, ms, md, hn, ht, hl, hm, hd => by simp [Tst.dep] at hn
  | n + 1, .not t, l, ms, md, hn, ht, hl, hm, hd => by
    have e := hold_eq n t l ms md (by simp [Tst.dep] at hn; omega) ht hl hm hd
    rw [m_hw_succ]
    simp [ofS_inj, runD, fb_holds_with, startR, gb, gv, bnd2_ss, Tst.enc, ixD_t, atI_0, atI_1, asgR_s, seqR_nx, eqD_ss, asB_b, ifR_f, ifR_t, retR_s, seqR_ret, retD_s, hold, consD_, e, notV]
  | n + 1, .both a b, l, ms, md, hn, ht, hl, hm, hd => by
    simp only [Tst.ok, Bool.and_eq_true] at ht
    have e1 := hold_eq n a l ms md (by simp [Tst.dep] at hn; omega) ht.1 hl hm hd
    have e2 := hold_eq n b l ms md (by simp [Tst.dep] at hn; omega) ht.2 hl hm hd
    rw [m_hw_succ]
    cases h1 : hold a l ms <;> rw [h1] at e1 <;>
    simp [ofS_inj, runD, fb_holds_with, startR, gb, gv, bnd2_ss, Tst.enc, ixD_t, atI_0, atI_1, atI_2, asgR_s, seqR_nx, eqD_ss, asB_b, ifR_f, ifR_t, retR_s, seqR_ret, retD_s, hold, consD_, e1, e2, andV, h1]
  | n + 1, .either a b, l, ms, md, hn, ht, hl, hm, hd => by
    simp only [Tst.ok, Bool.and_eq_true] at ht
    have e1 := hold_eq n a l ms md (by simp [Tst.dep] at hn; omega) ht.1 hl hm hd
    have e2 := hold_eq n b l ms md (by simp [Tst.dep] at hn; omega) ht.2 hl hm hd
    rw [m_hw_succ]
    cases h1 : hold a l ms <;> rw [h1] at e1 <;>
    simp [ofS_inj, runD, fb_holds_with, startR, gb, gv, bnd2_ss, Tst.enc, ixD_t, atI_0, atI_1, atI_2, asgR_s, seqR_nx, eqD_ss, asB_b, ifR_f, ifR_t, retR_s, seqR_ret, retD_s, hold, consD_, e1, e2, orV, h1]
def m_holds (n : Nat) : List PyData → Option PyData := runD 2 2 (fb_holds (m_hw n))
theorem holds_eq (n : Nat) (t : Tst) (l : Ltr) (hn : t.dep ≤ n) (ht : t.ok = true) (hl : l.ok = true) : m_holds (n + 1) [t.enc, l.enc] = some (.bool (hold t l l.marks)) := by
  have hm : l.marks.all nmOk = true := by simp only [Ltr.ok, Bool.and_eq_true] at hl; exact hl.2
  have e := hold_eq n t l l.marks (strsD l.marks) hn ht hl hm (.inl rfl)
  have e3 : atI [PyData.str l.sender, strsD l.words, .int l.size, strsD l.marks] 3 = some (strsD l.marks) := atI_3 _ _ _ _ _
  have el : l.enc = .tuple [PyData.str l.sender, strsD l.words, .int l.size, strsD l.marks] := rfl
  have e4 : ixD l.enc (.int 3) = some (strsD l.marks) := by rw [el]; exact e3
  simp [m_holds, runD, fb_holds, startR, gb, gv, bnd2_ss, consD_, e4, e, retR_s, retD_s]

/-! ### the drawn ones are as they should be -/
theorem pk2_all {α : Type} {p : α → Bool} {a b : α} (ha : p a = true) (hb : p b = true) (n : Int) : p (pk2 a b n) = true := by unfold pk2; split <;> assumption
theorem pk3_all {α : Type} {p : α → Bool} {a b c : α} (ha : p a = true) (hb : p b = true) (hc : p c = true) (n : Int) : p (pk3 a b c n) = true := by unfold pk3; split <;> (try split) <;> assumption
theorem leaf_ok (x : Int) : (leafN x).ok = true := by
  unfold leafN
  split
  · exact pk2_all (p := nmOk) (by decide +kernel) (by decide +kernel) _
  · split
    · rfl
    · split
      · exact pk2_all (p := nmOk) (by decide +kernel) (by decide +kernel) _
      · split
        · rfl
        · exact pk2_all (p := nmOk) (by decide +kernel) (by decide +kernel) _
theorem leaf_dep (x : Int) : (leafN x).dep = 0 := by
  unfold leafN
  split
  · rfl
  · split
    · rfl
    · split
      · rfl
      · split <;> rfl
theorem test_ok : ∀ (d : Nat) (x : Int), (testN d x).ok = true
  | 0, x => leaf_ok x
  | d + 1, x => by
    unfold testN
    split
    · split
      · exact test_ok d _
      · split
        · simp only [Tst.ok, test_ok d, Bool.and_self]
        · simp only [Tst.ok, test_ok d, Bool.and_self]
    · exact leaf_ok x
theorem test_dep : ∀ (d : Nat) (x : Int), (testN d x).dep ≤ d - 1
  | 0, x => by simp [testN, leaf_dep]
  | d + 1, x => by
    unfold testN
    split
    · rename_i h
      have h1 := test_dep d (drawnN x 1 / 4)
      have h2 := test_dep d (drawnN x 2 / 4)
      split
      · simp only [Tst.dep]; omega
      · split
        · simp only [Tst.dep]; omega
        · simp only [Tst.dep]; omega
    · simp [leaf_dep]
theorem words_ok (x : Int) : (wordsN x).all nmOk = true := by
  unfold wordsN
  split <;> split <;> split <;> decide +kernel
theorem marks_ok (x : Int) : (marksN x).all nmOk = true := by
  unfold marksN
  split <;> split <;> split <;> decide +kernel
theorem letter_ok (x : Int) : (letterN x).ok = true := by
  unfold Ltr.ok letterN
  simp only [words_ok, marks_ok, Bool.and_true]
  exact pk3_all (p := nmOk) (by decide +kernel) (by decide +kernel) (by decide +kernel) _

theorem enc_lay : ∀ t : Tst, t.ok = true → t.enc.canLay0 = true
  | .frm s, h => by simpa [Tst.enc, PyData.canLay0, PyData.canLayAll0, Tst.ok, nmOk] using ⟨by decide +kernel, h⟩
  | .word s, h => by simpa [Tst.enc, PyData.canLay0, PyData.canLayAll0, Tst.ok, nmOk] using ⟨by decide +kernel, h⟩
  | .over s, h => by simpa [Tst.enc, PyData.canLay0, PyData.canLayAll0] using (by decide +kernel : PyData.strOk "over" = true)
  | .marked s, h => by simpa [Tst.enc, PyData.canLay0, PyData.canLayAll0, Tst.ok, nmOk] using ⟨by decide +kernel, h⟩
  | .yes, h => by simpa [Tst.enc, PyData.canLay0, PyData.canLayAll0] using (by decide +kernel : PyData.strOk "yes" = true)
  | .not t, h => by simpa [Tst.enc, PyData.canLay0, PyData.canLayAll0] using ⟨by decide +kernel, enc_lay t h⟩
  | .both a b, h => by
    simp only [Tst.ok, Bool.and_eq_true] at h
    simpa [Tst.enc, PyData.canLay0, PyData.canLayAll0] using ⟨by decide +kernel, enc_lay a h.1, enc_lay b h.2⟩
  | .either a b, h => by
    simp only [Tst.ok, Bool.and_eq_true] at h
    simpa [Tst.enc, PyData.canLay0, PyData.canLayAll0] using ⟨by decide +kernel, enc_lay a h.1, enc_lay b h.2⟩
theorem enc_depth : ∀ t : Tst, t.enc.depth = t.dep + 1
  | .frm s => by simp [Tst.enc, PyData.depth, PyData.depthAll, Tst.dep]
  | .word s => by simp [Tst.enc, PyData.depth, PyData.depthAll, Tst.dep]
  | .over s => by simp [Tst.enc, PyData.depth, PyData.depthAll, Tst.dep]
  | .marked s => by simp [Tst.enc, PyData.depth, PyData.depthAll, Tst.dep]
  | .yes => by simp [Tst.enc, PyData.depth, PyData.depthAll, Tst.dep]
  | .not t => by simp [Tst.enc, PyData.depth, PyData.depthAll, Tst.dep, enc_depth t]
  | .both a b => by simp [Tst.enc, PyData.depth, PyData.depthAll, Tst.dep, enc_depth a, enc_depth b]
  | .either a b => by simp [Tst.enc, PyData.depth, PyData.depthAll, Tst.dep, enc_depth a, enc_depth b]
/-- lists and tuples of such -/
theorem shp_list {ds : List PyData} (h : ∀ d ∈ ds, shp d = true ∧ d.depth ≤ 60) : shp (.list ds) = true ∧ shp (.tuple ds) = true := by
  have h1 : PyData.canLayAll0 ds = true ∧ PyData.depthAll ds ≤ 60 := by
    induction ds with
    | nil => simp [PyData.canLayAll0, PyData.depthAll]
    | cons d ds ih =>
      obtain ⟨i1, i2⟩ := ih fun e he => h e (List.mem_cons_of_mem _ he)
      obtain ⟨j1, j2⟩ := h d List.mem_cons_self
      simp only [PyData.canLayAll0, PyData.depthAll, Bool.and_eq_true]
      exact ⟨⟨shp_lay j1, i1⟩, by omega⟩
  rw [shp_iff, shp_iff]
  simp only [PyData.canLay0, PyData.depth]
  exact ⟨⟨h1.1, by omega⟩, ⟨h1.1, by omega⟩⟩
theorem shp_enc (t : Tst) (h : t.ok = true) (hd : t.dep ≤ 50) : shp t.enc = true ∧ t.enc.depth ≤ 60 := by
  rw [shp_iff, enc_depth]
  exact ⟨⟨enc_lay t h, by omega⟩, by omega⟩
end Sv

/-! What a Run does, as plain functions. -/
namespace Sv
open PySem L2 Evl
def obR (x0 x1 x2 x3 x4 x5 x6 x7 x8 : OD) : OD := .nd (.ob "Run" ["book", "letter", "marks", "lists", "is_dropped", "is_over", "within", "went", "begun"]) [x0, x1, x2, x3, x4, x5, x6, x7, x8]
theorem fs_book (x0 x1 x2 x3 x4 x5 x6 x7 x8 : OD) : fldS "Run" "book" (obR x0 x1 x2 x3 x4 x5 x6 x7 x8) = some 0 := by rfl
theorem sp_book (x0 x1 x2 x3 x4 x5 x6 x7 x8 : OD) (b : Bool) (r : Rho) : stepP 0 (fun ρ => some []) (fldS "Run" "book") (.own ⟨obR x0 x1 x2 x3 x4 x5 x6 x7 x8, b⟩ :: r) = some [0] := by
  show ((fldS "Run" "book" (obR x0 x1 x2 x3 x4 x5 x6 x7 x8)).map fun j => [] ++ [j]) = _
  rw [fs_book]; rfl
theorem po_book (x0 x1 x2 x3 x4 x5 x6 x7 x8 : OD) (b : Bool) (r : Rho) : partO 0 (fun ρ => stepP 0 (fun ρ => some []) (fldS "Run" "book") ρ) (.own ⟨obR x0 x1 x2 x3 x4 x5 x6 x7 x8, b⟩ :: r) = some x0 := by
  unfold partO
  dsimp only
  rw [sp_book]; rfl
theorem fo_book (x0 x1 x2 x3 x4 x5 x6 x7 x8 y : OD) : fldO "Run" "book" y (obR x0 x1 x2 x3 x4 x5 x6 x7 x8) = some (obR y x1 x2 x3 x4 x5 x6 x7 x8) := by rfl
theorem fw_book (x0 x1 x2 x3 x4 x5 x6 x7 x8 y : OD) (b : Bool) (r : Rho) : fldW 0 (fun ρ => some []) "Run" "book" (.own ⟨obR x0 x1 x2 x3 x4 x5 x6 x7 x8, b⟩ :: r) (some y) = some (.nx (.own ⟨obR y x1 x2 x3 x4 x5 x6 x7 x8, b⟩ :: r)) := by
  show ((fldO "Run" "book" y (obR x0 x1 x2 x3 x4 x5 x6 x7 x8)).map fun o2 => Res.nx (.own ⟨o2, b⟩ :: r)) = _
  rw [fo_book]; rfl
theorem mr_book (x0 x1 x2 x3 x4 x5 x6 x7 x8 y : OD) (b : Bool) (r : Rho) (f : OD → Option OD) (h : f x0 = some y) : mutR 0 (fun ρ => stepP 0 (fun ρ => some []) (fldS "Run" "book") ρ) (.own ⟨obR x0 x1 x2 x3 x4 x5 x6 x7 x8, b⟩ :: r) f = some (.nx (.own ⟨obR y x1 x2 x3 x4 x5 x6 x7 x8, b⟩ :: r)) := by
  unfold mutR
  dsimp only
  rw [sp_book]
  show ((f x0).map fun o2 => Res.nx (.own ⟨setP (obR x0 x1 x2 x3 x4 x5 x6 x7 x8) [0] o2, b⟩ :: r)) = _
  rw [h]; rfl
theorem fs_letter (x0 x1 x2 x3 x4 x5 x6 x7 x8 : OD) : fldS "Run" "letter" (obR x0 x1 x2 x3 x4 x5 x6 x7 x8) = some 1 := by rfl
theorem sp_letter (x0 x1 x2 x3 x4 x5 x6 x7 x8 : OD) (b : Bool) (r : Rho) : stepP 0 (fun ρ => some []) (fldS "Run" "letter") (.own ⟨obR x0 x1 x2 x3 x4 x5 x6 x7 x8, b⟩ :: r) = some [1] := by
  show ((fldS "Run" "letter" (obR x0 x1 x2 x3 x4 x5 x6 x7 x8)).map fun j => [] ++ [j]) = _
  rw [fs_letter]; rfl
theorem po_letter (x0 x1 x2 x3 x4 x5 x6 x7 x8 : OD) (b : Bool) (r : Rho) : partO 0 (fun ρ => stepP 0 (fun ρ => some []) (fldS "Run" "letter") ρ) (.own ⟨obR x0 x1 x2 x3 x4 x5 x6 x7 x8, b⟩ :: r) = some x1 := by
  unfold partO
  dsimp only
  rw [sp_letter]; rfl
theorem fo_letter (x0 x1 x2 x3 x4 x5 x6 x7 x8 y : OD) : fldO "Run" "letter" y (obR x0 x1 x2 x3 x4 x5 x6 x7 x8) = some (obR x0 y x2 x3 x4 x5 x6 x7 x8) := by rfl
theorem fw_letter (x0 x1 x2 x3 x4 x5 x6 x7 x8 y : OD) (b : Bool) (r : Rho) : fldW 0 (fun ρ => some []) "Run" "letter" (.own ⟨obR x0 x1 x2 x3 x4 x5 x6 x7 x8, b⟩ :: r) (some y) = some (.nx (.own ⟨obR x0 y x2 x3 x4 x5 x6 x7 x8, b⟩ :: r)) := by
  show ((fldO "Run" "letter" y (obR x0 x1 x2 x3 x4 x5 x6 x7 x8)).map fun o2 => Res.nx (.own ⟨o2, b⟩ :: r)) = _
  rw [fo_letter]; rfl
theorem mr_letter (x0 x1 x2 x3 x4 x5 x6 x7 x8 y : OD) (b : Bool) (r : Rho) (f : OD → Option OD) (h : f x1 = some y) : mutR 0 (fun ρ => stepP 0 (fun ρ => some []) (fldS "Run" "letter") ρ) (.own ⟨obR x0 x1 x2 x3 x4 x5 x6 x7 x8, b⟩ :: r) f = some (.nx (.own ⟨obR x0 y x2 x3 x4 x5 x6 x7 x8, b⟩ :: r)) := by
  unfold mutR
  dsimp only
  rw [sp_letter]
  show ((f x1).map fun o2 => Res.nx (.own ⟨setP (obR x0 x1 x2 x3 x4 x5 x6 x7 x8) [1] o2, b⟩ :: r)) = _
  rw [h]; rfl
theorem fs_marks (x0 x1 x2 x3 x4 x5 x6 x7 x8 : OD) : fldS "Run" "marks" (obR x0 x1 x2 x3 x4 x5 x6 x7 x8) = some 2 := by rfl
theorem sp_marks (x0 x1 x2 x3 x4 x5 x6 x7 x8 : OD) (b : Bool) (r : Rho) : stepP 0 (fun ρ => some []) (fldS "Run" "marks") (.own ⟨obR x0 x1 x2 x3 x4 x5 x6 x7 x8, b⟩ :: r) = some [2] := by
  show ((fldS "Run" "marks" (obR x0 x1 x2 x3 x4 x5 x6 x7 x8)).map fun j => [] ++ [j]) = _
  rw [fs_marks]; rfl
theorem po_marks (x0 x1 x2 x3 x4 x5 x6 x7 x8 : OD) (b : Bool) (r : Rho) : partO 0 (fun ρ => stepP 0 (fun ρ => some []) (fldS "Run" "marks") ρ) (.own ⟨obR x0 x1 x2 x3 x4 x5 x6 x7 x8, b⟩ :: r) = some x2 := by
  unfold partO
  dsimp only
  rw [sp_marks]; rfl
theorem fo_marks (x0 x1 x2 x3 x4 x5 x6 x7 x8 y : OD) : fldO "Run" "marks" y (obR x0 x1 x2 x3 x4 x5 x6 x7 x8) = some (obR x0 x1 y x3 x4 x5 x6 x7 x8) := by rfl
theorem fw_marks (x0 x1 x2 x3 x4 x5 x6 x7 x8 y : OD) (b : Bool) (r : Rho) : fldW 0 (fun ρ => some []) "Run" "marks" (.own ⟨obR x0 x1 x2 x3 x4 x5 x6 x7 x8, b⟩ :: r) (some y) = some (.nx (.own ⟨obR x0 x1 y x3 x4 x5 x6 x7 x8, b⟩ :: r)) := by
  show ((fldO "Run" "marks" y (obR x0 x1 x2 x3 x4 x5 x6 x7 x8)).map fun o2 => Res.nx (.own ⟨o2, b⟩ :: r)) = _
  rw [fo_marks]; rfl
theorem mr_marks (x0 x1 x2 x3 x4 x5 x6 x7 x8 y : OD) (b : Bool) (r : Rho) (f : OD → Option OD) (h : f x2 = some y) : mutR 0 (fun ρ => stepP 0 (fun ρ => some []) (fldS "Run" "marks") ρ) (.own ⟨obR x0 x1 x2 x3 x4 x5 x6 x7 x8, b⟩ :: r) f = some (.nx (.own ⟨obR x0 x1 y x3 x4 x5 x6 x7 x8, b⟩ :: r)) := by
  unfold mutR
  dsimp only
  rw [sp_marks]
  show ((f x2).map fun o2 => Res.nx (.own ⟨setP (obR x0 x1 x2 x3 x4 x5 x6 x7 x8) [2] o2, b⟩ :: r)) = _
  rw [h]; rfl
theorem fs_lists (x0 x1 x2 x3 x4 x5 x6 x7 x8 : OD) : fldS "Run" "lists" (obR x0 x1 x2 x3 x4 x5 x6 x7 x8) = some 3 := by rfl
theorem sp_lists (x0 x1 x2 x3 x4 x5 x6 x7 x8 : OD) (b : Bool) (r : Rho) : stepP 0 (fun ρ => some []) (fldS "Run" "lists") (.own ⟨obR x0 x1 x2 x3 x4 x5 x6 x7 x8, b⟩ :: r) = some [3] := by
  show ((fldS "Run" "lists" (obR x0 x1 x2 x3 x4 x5 x6 x7 x8)).map fun j => [] ++ [j]) = _
  rw [fs_lists]; rfl
theorem po_lists (x0 x1 x2 x3 x4 x5 x6 x7 x8 : OD) (b : Bool) (r : Rho) : partO 0 (fun ρ => stepP 0 (fun ρ => some []) (fldS "Run" "lists") ρ) (.own ⟨obR x0 x1 x2 x3 x4 x5 x6 x7 x8, b⟩ :: r) = some x3 := by
  unfold partO
  dsimp only
  rw [sp_lists]; rfl
theorem fo_lists (x0 x1 x2 x3 x4 x5 x6 x7 x8 y : OD) : fldO "Run" "lists" y (obR x0 x1 x2 x3 x4 x5 x6 x7 x8) = some (obR x0 x1 x2 y x4 x5 x6 x7 x8) := by rfl
theorem fw_lists (x0 x1 x2 x3 x4 x5 x6 x7 x8 y : OD) (b : Bool) (r : Rho) : fldW 0 (fun ρ => some []) "Run" "lists" (.own ⟨obR x0 x1 x2 x3 x4 x5 x6 x7 x8, b⟩ :: r) (some y) = some (.nx (.own ⟨obR x0 x1 x2 y x4 x5 x6 x7 x8, b⟩ :: r)) := by
  show ((fldO "Run" "lists" y (obR x0 x1 x2 x3 x4 x5 x6 x7 x8)).map fun o2 => Res.nx (.own ⟨o2, b⟩ :: r)) = _
  rw [fo_lists]; rfl
theorem mr_lists (x0 x1 x2 x3 x4 x5 x6 x7 x8 y : OD) (b : Bool) (r : Rho) (f : OD → Option OD) (h : f x3 = some y) : mutR 0 (fun ρ => stepP 0 (fun ρ => some []) (fldS "Run" "lists") ρ) (.own ⟨obR x0 x1 x2 x3 x4 x5 x6 x7 x8, b⟩ :: r) f = some (.nx (.own ⟨obR x0 x1 x2 y x4 x5 x6 x7 x8, b⟩ :: r)) := by
  unfold mutR
  dsimp only
  rw [sp_lists]
  show ((f x3).map fun o2 => Res.nx (.own ⟨setP (obR x0 x1 x2 x3 x4 x5 x6 x7 x8) [3] o2, b⟩ :: r)) = _
  rw [h]; rfl
theorem fs_is_dropped (x0 x1 x2 x3 x4 x5 x6 x7 x8 : OD) : fldS "Run" "is_dropped" (obR x0 x1 x2 x3 x4 x5 x6 x7 x8) = some 4 := by rfl
theorem sp_is_dropped (x0 x1 x2 x3 x4 x5 x6 x7 x8 : OD) (b : Bool) (r : Rho) : stepP 0 (fun ρ => some []) (fldS "Run" "is_dropped") (.own ⟨obR x0 x1 x2 x3 x4 x5 x6 x7 x8, b⟩ :: r) = some [4] := by
  show ((fldS "Run" "is_dropped" (obR x0 x1 x2 x3 x4 x5 x6 x7 x8)).map fun j => [] ++ [j]) = _
  rw [fs_is_dropped]; rfl
theorem po_is_dropped (x0 x1 x2 x3 x4 x5 x6 x7 x8 : OD) (b : Bool) (r : Rho) : partO 0 (fun ρ => stepP 0 (fun ρ => some []) (fldS "Run" "is_dropped") ρ) (.own ⟨obR x0 x1 x2 x3 x4 x5 x6 x7 x8, b⟩ :: r) = some x4 := by
  unfold partO
  dsimp only
  rw [sp_is_dropped]; rfl
theorem fo_is_dropped (x0 x1 x2 x3 x4 x5 x6 x7 x8 y : OD) : fldO "Run" "is_dropped" y (obR x0 x1 x2 x3 x4 x5 x6 x7 x8) = some (obR x0 x1 x2 x3 y x5 x6 x7 x8) := by rfl
theorem fw_is_dropped (x0 x1 x2 x3 x4 x5 x6 x7 x8 y : OD) (b : Bool) (r : Rho) : fldW 0 (fun ρ => some []) "Run" "is_dropped" (.own ⟨obR x0 x1 x2 x3 x4 x5 x6 x7 x8, b⟩ :: r) (some y) = some (.nx (.own ⟨obR x0 x1 x2 x3 y x5 x6 x7 x8, b⟩ :: r)) := by
  show ((fldO "Run" "is_dropped" y (obR x0 x1 x2 x3 x4 x5 x6 x7 x8)).map fun o2 => Res.nx (.own ⟨o2, b⟩ :: r)) = _
  rw [fo_is_dropped]; rfl
theorem mr_is_dropped (x0 x1 x2 x3 x4 x5 x6 x7 x8 y : OD) (b : Bool) (r : Rho) (f : OD → Option OD) (h : f x4 = some y) : mutR 0 (fun ρ => stepP 0 (fun ρ => some []) (fldS "Run" "is_dropped") ρ) (.own ⟨obR x0 x1 x2 x3 x4 x5 x6 x7 x8, b⟩ :: r) f = some (.nx (.own ⟨obR x0 x1 x2 x3 y x5 x6 x7 x8, b⟩ :: r)) := by
  unfold mutR
  dsimp only
  rw [sp_is_dropped]
  show ((f x4).map fun o2 => Res.nx (.own ⟨setP (obR x0 x1 x2 x3 x4 x5 x6 x7 x8) [4] o2, b⟩ :: r)) = _
  rw [h]; rfl
theorem fs_is_over (x0 x1 x2 x3 x4 x5 x6 x7 x8 : OD) : fldS "Run" "is_over" (obR x0 x1 x2 x3 x4 x5 x6 x7 x8) = some 5 := by rfl
theorem sp_is_over (x0 x1 x2 x3 x4 x5 x6 x7 x8 : OD) (b : Bool) (r : Rho) : stepP 0 (fun ρ => some []) (fldS "Run" "is_over") (.own ⟨obR x0 x1 x2 x3 x4 x5 x6 x7 x8, b⟩ :: r) = some [5] := by
  show ((fldS "Run" "is_over" (obR x0 x1 x2 x3 x4 x5 x6 x7 x8)).map fun j => [] ++ [j]) = _
  rw [fs_is_over]; rfl
theorem po_is_over (x0 x1 x2 x3 x4 x5 x6 x7 x8 : OD) (b : Bool) (r : Rho) : partO 0 (fun ρ => stepP 0 (fun ρ => some []) (fldS "Run" "is_over") ρ) (.own ⟨obR x0 x1 x2 x3 x4 x5 x6 x7 x8, b⟩ :: r) = some x5 := by
  unfold partO
  dsimp only
  rw [sp_is_over]; rfl
theorem fo_is_over (x0 x1 x2 x3 x4 x5 x6 x7 x8 y : OD) : fldO "Run" "is_over" y (obR x0 x1 x2 x3 x4 x5 x6 x7 x8) = some (obR x0 x1 x2 x3 x4 y x6 x7 x8) := by rfl
theorem fw_is_over (x0 x1 x2 x3 x4 x5 x6 x7 x8 y : OD) (b : Bool) (r : Rho) : fldW 0 (fun ρ => some []) "Run" "is_over" (.own ⟨obR x0 x1 x2 x3 x4 x5 x6 x7 x8, b⟩ :: r) (some y) = some (.nx (.own ⟨obR x0 x1 x2 x3 x4 y x6 x7 x8, b⟩ :: r)) := by
  show ((fldO "Run" "is_over" y (obR x0 x1 x2 x3 x4 x5 x6 x7 x8)).map fun o2 => Res.nx (.own ⟨o2, b⟩ :: r)) = _
  rw [fo_is_over]; rfl
theorem mr_is_over (x0 x1 x2 x3 x4 x5 x6 x7 x8 y : OD) (b : Bool) (r : Rho) (f : OD → Option OD) (h : f x5 = some y) : mutR 0 (fun ρ => stepP 0 (fun ρ => some []) (fldS "Run" "is_over") ρ) (.own ⟨obR x0 x1 x2 x3 x4 x5 x6 x7 x8, b⟩ :: r) f = some (.nx (.own ⟨obR x0 x1 x2 x3 x4 y x6 x7 x8, b⟩ :: r)) := by
  unfold mutR
  dsimp only
  rw [sp_is_over]
  show ((f x5).map fun o2 => Res.nx (.own ⟨setP (obR x0 x1 x2 x3 x4 x5 x6 x7 x8) [5] o2, b⟩ :: r)) = _
  rw [h]; rfl
theorem fs_within (x0 x1 x2 x3 x4 x5 x6 x7 x8 : OD) : fldS "Run" "within" (obR x0 x1 x2 x3 x4 x5 x6 x7 x8) = some 6 := by rfl
theorem sp_within (x0 x1 x2 x3 x4 x5 x6 x7 x8 : OD) (b : Bool) (r : Rho) : stepP 0 (fun ρ => some []) (fldS "Run" "within") (.own ⟨obR x0 x1 x2 x3 x4 x5 x6 x7 x8, b⟩ :: r) = some [6] := by
  show ((fldS "Run" "within" (obR x0 x1 x2 x3 x4 x5 x6 x7 x8)).map fun j => [] ++ [j]) = _
  rw [fs_within]; rfl
theorem po_within (x0 x1 x2 x3 x4 x5 x6 x7 x8 : OD) (b : Bool) (r : Rho) : partO 0 (fun ρ => stepP 0 (fun ρ => some []) (fldS "Run" "within") ρ) (.own ⟨obR x0 x1 x2 x3 x4 x5 x6 x7 x8, b⟩ :: r) = some x6 := by
  unfold partO
  dsimp only
  rw [sp_within]; rfl
theorem fo_within (x0 x1 x2 x3 x4 x5 x6 x7 x8 y : OD) : fldO "Run" "within" y (obR x0 x1 x2 x3 x4 x5 x6 x7 x8) = some (obR x0 x1 x2 x3 x4 x5 y x7 x8) := by rfl
theorem fw_within (x0 x1 x2 x3 x4 x5 x6 x7 x8 y : OD) (b : Bool) (r : Rho) : fldW 0 (fun ρ => some []) "Run" "within" (.own ⟨obR x0 x1 x2 x3 x4 x5 x6 x7 x8, b⟩ :: r) (some y) = some (.nx (.own ⟨obR x0 x1 x2 x3 x4 x5 y x7 x8, b⟩ :: r)) := by
  show ((fldO "Run" "within" y (obR x0 x1 x2 x3 x4 x5 x6 x7 x8)).map fun o2 => Res.nx (.own ⟨o2, b⟩ :: r)) = _
  rw [fo_within]; rfl
theorem mr_within (x0 x1 x2 x3 x4 x5 x6 x7 x8 y : OD) (b : Bool) (r : Rho) (f : OD → Option OD) (h : f x6 = some y) : mutR 0 (fun ρ => stepP 0 (fun ρ => some []) (fldS "Run" "within") ρ) (.own ⟨obR x0 x1 x2 x3 x4 x5 x6 x7 x8, b⟩ :: r) f = some (.nx (.own ⟨obR x0 x1 x2 x3 x4 x5 y x7 x8, b⟩ :: r)) := by
  unfold mutR
  dsimp only
  rw [sp_within]
  show ((f x6).map fun o2 => Res.nx (.own ⟨setP (obR x0 x1 x2 x3 x4 x5 x6 x7 x8) [6] o2, b⟩ :: r)) = _
  rw [h]; rfl
theorem fs_went (x0 x1 x2 x3 x4 x5 x6 x7 x8 : OD) : fldS "Run" "went" (obR x0 x1 x2 x3 x4 x5 x6 x7 x8) = some 7 := by rfl
theorem sp_went (x0 x1 x2 x3 x4 x5 x6 x7 x8 : OD) (b : Bool) (r : Rho) : stepP 0 (fun ρ => some []) (fldS "Run" "went") (.own ⟨obR x0 x1 x2 x3 x4 x5 x6 x7 x8, b⟩ :: r) = some [7] := by
  show ((fldS "Run" "went" (obR x0 x1 x2 x3 x4 x5 x6 x7 x8)).map fun j => [] ++ [j]) = _
  rw [fs_went]; rfl
theorem po_went (x0 x1 x2 x3 x4 x5 x6 x7 x8 : OD) (b : Bool) (r : Rho) : partO 0 (fun ρ => stepP 0 (fun ρ => some []) (fldS "Run" "went") ρ) (.own ⟨obR x0 x1 x2 x3 x4 x5 x6 x7 x8, b⟩ :: r) = some x7 := by
  unfold partO
  dsimp only
  rw [sp_went]; rfl
theorem fo_went (x0 x1 x2 x3 x4 x5 x6 x7 x8 y : OD) : fldO "Run" "went" y (obR x0 x1 x2 x3 x4 x5 x6 x7 x8) = some (obR x0 x1 x2 x3 x4 x5 x6 y x8) := by rfl
theorem fw_went (x0 x1 x2 x3 x4 x5 x6 x7 x8 y : OD) (b : Bool) (r : Rho) : fldW 0 (fun ρ => some []) "Run" "went" (.own ⟨obR x0 x1 x2 x3 x4 x5 x6 x7 x8, b⟩ :: r) (some y) = some (.nx (.own ⟨obR x0 x1 x2 x3 x4 x5 x6 y x8, b⟩ :: r)) := by
  show ((fldO "Run" "went" y (obR x0 x1 x2 x3 x4 x5 x6 x7 x8)).map fun o2 => Res.nx (.own ⟨o2, b⟩ :: r)) = _
  rw [fo_went]; rfl
theorem mr_went (x0 x1 x2 x3 x4 x5 x6 x7 x8 y : OD) (b : Bool) (r : Rho) (f : OD → Option OD) (h : f x7 = some y) : mutR 0 (fun ρ => stepP 0 (fun ρ => some []) (fldS "Run" "went") ρ) (.own ⟨obR x0 x1 x2 x3 x4 x5 x6 x7 x8, b⟩ :: r) f = some (.nx (.own ⟨obR x0 x1 x2 x3 x4 x5 x6 y x8, b⟩ :: r)) := by
  unfold mutR
  dsimp only
  rw [sp_went]
  show ((f x7).map fun o2 => Res.nx (.own ⟨setP (obR x0 x1 x2 x3 x4 x5 x6 x7 x8) [7] o2, b⟩ :: r)) = _
  rw [h]; rfl
theorem fs_begun (x0 x1 x2 x3 x4 x5 x6 x7 x8 : OD) : fldS "Run" "begun" (obR x0 x1 x2 x3 x4 x5 x6 x7 x8) = some 8 := by rfl
theorem sp_begun (x0 x1 x2 x3 x4 x5 x6 x7 x8 : OD) (b : Bool) (r : Rho) : stepP 0 (fun ρ => some []) (fldS "Run" "begun") (.own ⟨obR x0 x1 x2 x3 x4 x5 x6 x7 x8, b⟩ :: r) = some [8] := by
  show ((fldS "Run" "begun" (obR x0 x1 x2 x3 x4 x5 x6 x7 x8)).map fun j => [] ++ [j]) = _
  rw [fs_begun]; rfl
theorem po_begun (x0 x1 x2 x3 x4 x5 x6 x7 x8 : OD) (b : Bool) (r : Rho) : partO 0 (fun ρ => stepP 0 (fun ρ => some []) (fldS "Run" "begun") ρ) (.own ⟨obR x0 x1 x2 x3 x4 x5 x6 x7 x8, b⟩ :: r) = some x8 := by
  unfold partO
  dsimp only
  rw [sp_begun]; rfl
theorem fo_begun (x0 x1 x2 x3 x4 x5 x6 x7 x8 y : OD) : fldO "Run" "begun" y (obR x0 x1 x2 x3 x4 x5 x6 x7 x8) = some (obR x0 x1 x2 x3 x4 x5 x6 x7 y) := by rfl
theorem fw_begun (x0 x1 x2 x3 x4 x5 x6 x7 x8 y : OD) (b : Bool) (r : Rho) : fldW 0 (fun ρ => some []) "Run" "begun" (.own ⟨obR x0 x1 x2 x3 x4 x5 x6 x7 x8, b⟩ :: r) (some y) = some (.nx (.own ⟨obR x0 x1 x2 x3 x4 x5 x6 x7 y, b⟩ :: r)) := by
  show ((fldO "Run" "begun" y (obR x0 x1 x2 x3 x4 x5 x6 x7 x8)).map fun o2 => Res.nx (.own ⟨o2, b⟩ :: r)) = _
  rw [fo_begun]; rfl
theorem mr_begun (x0 x1 x2 x3 x4 x5 x6 x7 x8 y : OD) (b : Bool) (r : Rho) (f : OD → Option OD) (h : f x8 = some y) : mutR 0 (fun ρ => stepP 0 (fun ρ => some []) (fldS "Run" "begun") ρ) (.own ⟨obR x0 x1 x2 x3 x4 x5 x6 x7 x8, b⟩ :: r) f = some (.nx (.own ⟨obR x0 x1 x2 x3 x4 x5 x6 x7 y, b⟩ :: r)) := by
  unfold mutR
  dsimp only
  rw [sp_begun]
  show ((f x8).map fun o2 => Res.nx (.own ⟨setP (obR x0 x1 x2 x3 x4 x5 x6 x7 x8) [8] o2, b⟩ :: r)) = _
  rw [h]; rfl
end Sv

/-! A letter's way through a book, as plain functions; the walked defs give just these. -/
namespace Sv
open PySem L2 Evl

inductive Deed where
  | call (n : Str)
  | drop
  | stop
  | lay (n : Str)
  | send (n : Str)
  | ans (n : Str)
  | mark (n : Str)
  | unmark (n : Str)
  deriving DecidableEq
def Deed.enc : Deed → PyData
  | .call n => .tuple [.str "call", .str n]
  | .drop => .tuple [.str "drop"]
  | .stop => .tuple [.str "stop"]
  | .lay n => .tuple [.str "lay", .str n]
  | .send n => .tuple [.str "send", .str n]
  | .ans n => .tuple [.str "answer", .str n]
  | .mark n => .tuple [.str "mark", .str n]
  | .unmark n => .tuple [.str "unmark", .str n]
def Deed.nm : Deed → List Str
  | .call n => [n]
  | .drop => []
  | .stop => []
  | .lay n => [n]
  | .send n => [n]
  | .ans n => [n]
  | .mark n => [n]
  | .unmark n => [n]
abbrev Rul := Tst × List Deed
def Rul.enc (r : Rul) : PyData := .tuple [r.1.enc, .tuple (r.2.map Deed.enc)]
def rulesD (rs : List Rul) : PyData := .tuple (rs.map Rul.enc)
abbrev Book := List (Str × List Rul)
def Book.enc (b : Book) : PyData := .tuple (b.map fun p => .tuple [.str p.1, rulesD p.2])
def Book.dct (b : Book) : PyData := .dict (b.map fun p => (.str p.1, rulesD p.2))
def Book.names (b : Book) : List Str := b.map (·.1)
def Book.get (b : Book) (n : Str) : List Rul := ((b.find? fun p => decide (p.1 = n)).map (·.2)).getD []
structure RSt where
  marks : List Str
  lay : List Str
  send : List Str
  ans : List Str
  drop : Bool
  over : Bool
  within : List Str
  went : List Str
  begun : List (Str × Nat)
def strL (ss : List Str) : OD := lO (ss.map .str)
def listsO (a b c : List Str) : OD := .nd (.dk [.inr "lay", .inr "send", .inr "answer"]) [strL a, strL b, strL c]
def wentO (ks : List Str) : OD := .nd (.dk (ks.map .inr)) (ks.map fun _ => .dat (.bool true))
def begunO (ks : List (Str × Nat)) : OD := .nd (.dt (ks.map fun p => [.inr p.1, .inl (p.2 : Int)])) (ks.map fun _ => .dat (.bool true))
def RSt.ob (b : Book) (l : Ltr) (s : RSt) : OD := obR (.dat b.dct) (.dat l.enc) (.dat (.list (s.marks.map .str))) (listsO s.lay s.send s.ans) (.dat (.bool s.drop)) (.dat (.bool s.over)) (strL s.within) (wentO s.went) (begunO s.begun)
def putL {α : Type} [DecidableEq α] (x : α) (xs : List α) : List α := if x ∈ xs then xs else xs ++ [x]
def doF (wk : Str → RSt → RSt) (d : Deed) (s : RSt) : RSt := match d with
  | .call n => wk n s
  | .drop => { s with drop := true }
  | .stop => { s with over := true }
  | .lay n => { s with lay := putL n s.lay }
  | .send n => { s with send := putL n s.send }
  | .ans n => { s with ans := putL n s.ans }
  | .mark n => { s with marks := s.marks.filter (fun m => decide (m ≠ n)) ++ [n] }
  | .unmark n => { s with marks := s.marks.filter fun m => decide (m ≠ n) }
def deedsF (wk : Str → RSt → RSt) : List Deed → RSt → RSt
  | [], s => s
  | d :: ds, s => deedsF wk ds (if s.over then s else doF wk d s)
def rulesF (wk : Str → RSt → RSt) (l : Ltr) (name : Str) : Nat → List Rul → RSt → RSt
  | _, [], s => s
  | k, r :: rs, s => rulesF wk l name (k + 1) rs (if !s.over && hold r.1 l s.marks then deedsF wk r.2 { s with begun := putL (name, k) s.begun } else s)
def walkF (b : Book) (l : Ltr) : Nat → Str → RSt → RSt
  | 0, _, s => s
  | n + 1, name, s => if name ∈ s.within then s else
    let s2 := rulesF (walkF b l n) l name 0 (b.get name) { s with went := putL name s.went, within := s.within ++ [name] }
    { s2 with within := s2.within.dropLast }
def start0 (l : Ltr) : RSt := ⟨l.marks, [], [], [], false, false, [], [], []⟩
def finish (s : RSt) : RSt := if !s.drop && decide (s.lay.length + s.send.length = 0) then { s with lay := s.lay ++ [("in" : Str)] } else s
def runF (n : Nat) (b : Book) (l : Ltr) : RSt := finish (walkF b l n "main" (start0 l))

/-! ### what stays true -/
theorem len_sub : ∀ {α : Type} [DecidableEq α] (xs L : List α), xs.Nodup → (∀ x ∈ xs, x ∈ L) → xs.length ≤ L.length
  | _, _, [], L, _, _ => Nat.zero_le _
  | _, _, x :: r, L, hn, hs => by
    have hx := hs x List.mem_cons_self
    have hn' := List.nodup_cons.mp hn
    have ih := len_sub r (L.erase x) hn'.2 fun y hy => (List.mem_erase_of_ne (show y ≠ x from fun z => hn'.1 (z ▸ hy))).mpr (hs y (List.mem_cons_of_mem _ hy))
    rw [List.length_erase_of_mem hx] at ih
    have : 0 < L.length := List.length_pos_of_mem hx
    simp only [List.length_cons]
    omega
/-- some of few -/
def Few {α : Type} (U xs : List α) : Prop := xs.Nodup ∧ ∀ x ∈ xs, x ∈ U
theorem Few.len {α : Type} [DecidableEq α] {U xs : List α} (h : Few U xs) : xs.length ≤ U.length := len_sub xs U h.1 h.2
theorem Few.nil {α : Type} {U : List α} : Few U [] := ⟨List.nodup_nil, fun x h => nomatch h⟩
theorem Few.snoc {α : Type} {U xs : List α} {x : α} (h : Few U xs) (hx : x ∈ U) (hn : x ∉ xs) : Few U (xs ++ [x]) := by
  refine ⟨List.nodup_append.mpr ⟨h.1, by simp, fun a ha b hb z => ?_⟩, fun y hy => ?_⟩
  · rw [List.mem_singleton.mp hb] at z
    exact hn (z ▸ ha)
  · rcases List.mem_append.mp hy with hy | hy
    · exact h.2 y hy
    · rw [List.mem_singleton.mp hy]; exact hx
theorem Few.put {α : Type} [DecidableEq α] {U xs : List α} {x : α} (h : Few U xs) (hx : x ∈ U) : Few U (putL x xs) := by
  unfold putL
  split
  · exact h
  · rename_i hn; exact h.snoc hx hn
theorem Few.filter {α : Type} {U xs : List α} (p : α → Bool) (h : Few U xs) : Few U (xs.filter p) := ⟨h.1.filter p, fun x hx => h.2 x (List.mem_filter.mp hx).1⟩
/-- all that may come up -/
structure Uni where
  us : List Str
  ps : List (Str × Nat)
structure Uni.Ok (U : Uni) : Prop where
  len : U.us.length ≤ 1000
  lenp : U.ps.length ≤ 1000
  nm : U.us.all nmOk = true
structure RSt.Inv (U : Uni) (s : RSt) : Prop where
  marks : Few U.us s.marks
  lay : Few U.us s.lay
  send : Few U.us s.send
  ans : Few U.us s.ans
  within : Few U.us s.within
  went : Few U.us s.went
  begun : Few U.ps s.begun
theorem few_nm {U : Uni} (hU : U.Ok) {xs : List Str} (h : Few U.us xs) : xs.all nmOk = true := List.all_eq_true.mpr fun x hx => List.all_eq_true.mp hU.nm x (h.2 x hx)
theorem few_len {U : Uni} (hU : U.Ok) {xs : List Str} (h : Few U.us xs) : xs.length ≤ 1000 := Nat.le_trans h.len hU.len
theorem few_lenp {U : Uni} (hU : U.Ok) {xs : List (Str × Nat)} (h : Few U.ps xs) : xs.length ≤ 1000 := Nat.le_trans h.len hU.lenp
theorem size_1000 : 1000 < sizeLine := by decide
/-! ### a deed -/
def stepR (o : OD) (r : Rho) : Rho := .own ⟨o, true⟩ :: r
theorem runX2 {n : Nat} {fb : Rho → Option Res} {o : OD} {d : PyData} {r : Option (PyData × OD)} (h : retX 0 (fb (.own ⟨o, true⟩ :: .val d :: List.replicate (n - 2) .no)) = r) : runX n 2 0 fb o [d] = r := by
  unfold runX
  rw [if_pos (by rfl)]
  exact h
theorem nx_end {o : OD} {r : Rho} : retX 0 (some (.nx (.own ⟨o, true⟩ :: r))) = some (.none, o) := rfl
theorem obIs_walk (b : Book) (l : Ltr) (s : RSt) : obIs "Run" "walk" (s.ob b l) = true := by rfl
theorem obIs_do (b : Book) (l : Ltr) (s : RSt) : obIs "Run" "do" (s.ob b l) = true := by rfl
theorem meth_at {c mt : Str} {m : OD → List PyData → Option (PyData × OD)} {o o' : OD} {b : Bool} {r : Rho} {ds : List PyData} {d : PyData} (hi : obIs c mt o = true) (hm : m o ds = some (d, o')) :
    dropX (methX 0 (fun ρ => some []) c mt m (.own ⟨o, b⟩ :: r) (some ds)) = some (.nx (.own ⟨o', b⟩ :: r)) := by
  show dropX (((if obIs c mt o then m o ds else none)).map fun r' => (r'.1, .own ⟨r'.2, b⟩ :: r)) = _
  rw [if_pos hi, hm]
  rfl
theorem lenLt_ {n : Nat} (h : n ≤ 1000) : lenLt n = true := decide_eq_true (Nat.lt_of_le_of_lt h size_1000)
/-! the three lists -/
section
variable (x0 x1 x2 x4 x5 x6 x7 x8 : OD) (a bb c : List Str) (f : Bool) (r : Rho)
theorem kp_lay : keyP 0 (fun ρ => stepP 0 (fun ρ => some []) (fldS "Run" "lists") ρ) (.own ⟨obR x0 x1 x2 (listsO a bb c) x4 x5 x6 x7 x8, f⟩ :: r) (some (.str "lay")) = some [3, 0] := by
  simp only [keyP, Option.bind_some, toK]
  unfold stepP
  dsimp only
  have := sp_lists x0 x1 x2 (listsO a bb c) x4 x5 x6 x7 x8 f r
  unfold stepP at this
  dsimp only at this
  rw [this]
  rfl
theorem pb_lay {g : Rho → Option (List Nat)} (hg : g (.own ⟨obR x0 x1 x2 (listsO a bb c) x4 x5 x6 x7 x8, f⟩ :: r) = some [3, 0]) : partB 0 g (.own ⟨obR x0 x1 x2 (listsO a bb c) x4 x5 x6 x7 x8, f⟩ :: r) = some (.list (a.map .str)) := by
  unfold partB partO
  rw [hg]
  exact topD_lO _
theorem ap_lay {g : Rho → Option (List Nat)} (n : Str) (hl : a.length ≤ 1000) (hg : g (.own ⟨obR x0 x1 x2 (listsO a bb c) x4 x5 x6 x7 x8, f⟩ :: r) = some [3, 0]) : appP 0 g (.own ⟨obR x0 x1 x2 (listsO a bb c) x4 x5 x6 x7 x8, f⟩ :: r) (some (.dat (.str n))) = some (.nx (.own ⟨obR x0 x1 x2 (listsO (a ++ [n]) bb c) x4 x5 x6 x7 x8, f⟩ :: r)) := by
  unfold appP
  show mutR 0 g _ (appO (.dat (.str n))) = _
  unfold mutR
  rw [hg]
  show (((appO (.dat (.str n))) (strL a)).map fun o2 => Res.nx (.own ⟨setP (obR x0 x1 x2 (listsO a bb c) x4 x5 x6 x7 x8) [3, 0] o2, f⟩ :: r)) = _
  have : appO (.dat (.str n)) (strL a) = some (strL (a ++ [n])) := by
    unfold strL lO appO
    dsimp only
    rw [if_pos (lenLt_ (by simpa using hl))]
    simp
  rw [this]
  rfl
theorem kp_send : keyP 0 (fun ρ => stepP 0 (fun ρ => some []) (fldS "Run" "lists") ρ) (.own ⟨obR x0 x1 x2 (listsO a bb c) x4 x5 x6 x7 x8, f⟩ :: r) (some (.str "send")) = some [3, 1] := by
  simp only [keyP, Option.bind_some, toK]
  unfold stepP
  dsimp only
  have := sp_lists x0 x1 x2 (listsO a bb c) x4 x5 x6 x7 x8 f r
  unfold stepP at this
  dsimp only at this
  rw [this]
  rfl
theorem pb_send {g : Rho → Option (List Nat)} (hg : g (.own ⟨obR x0 x1 x2 (listsO a bb c) x4 x5 x6 x7 x8, f⟩ :: r) = some [3, 1]) : partB 0 g (.own ⟨obR x0 x1 x2 (listsO a bb c) x4 x5 x6 x7 x8, f⟩ :: r) = some (.list (bb.map .str)) := by
  unfold partB partO
  rw [hg]
  exact topD_lO _
theorem ap_send {g : Rho → Option (List Nat)} (n : Str) (hl : bb.length ≤ 1000) (hg : g (.own ⟨obR x0 x1 x2 (listsO a bb c) x4 x5 x6 x7 x8, f⟩ :: r) = some [3, 1]) : appP 0 g (.own ⟨obR x0 x1 x2 (listsO a bb c) x4 x5 x6 x7 x8, f⟩ :: r) (some (.dat (.str n))) = some (.nx (.own ⟨obR x0 x1 x2 (listsO a (bb ++ [n]) c) x4 x5 x6 x7 x8, f⟩ :: r)) := by
  unfold appP
  show mutR 0 g _ (appO (.dat (.str n))) = _
  unfold mutR
  rw [hg]
  show (((appO (.dat (.str n))) (strL bb)).map fun o2 => Res.nx (.own ⟨setP (obR x0 x1 x2 (listsO a bb c) x4 x5 x6 x7 x8) [3, 1] o2, f⟩ :: r)) = _
  have : appO (.dat (.str n)) (strL bb) = some (strL (bb ++ [n])) := by
    unfold strL lO appO
    dsimp only
    rw [if_pos (lenLt_ (by simpa using hl))]
    simp
  rw [this]
  rfl
theorem kp_ans : keyP 0 (fun ρ => stepP 0 (fun ρ => some []) (fldS "Run" "lists") ρ) (.own ⟨obR x0 x1 x2 (listsO a bb c) x4 x5 x6 x7 x8, f⟩ :: r) (some (.str "answer")) = some [3, 2] := by
  simp only [keyP, Option.bind_some, toK]
  unfold stepP
  dsimp only
  have := sp_lists x0 x1 x2 (listsO a bb c) x4 x5 x6 x7 x8 f r
  unfold stepP at this
  dsimp only at this
  rw [this]
  rfl
theorem pb_ans {g : Rho → Option (List Nat)} (hg : g (.own ⟨obR x0 x1 x2 (listsO a bb c) x4 x5 x6 x7 x8, f⟩ :: r) = some [3, 2]) : partB 0 g (.own ⟨obR x0 x1 x2 (listsO a bb c) x4 x5 x6 x7 x8, f⟩ :: r) = some (.list (c.map .str)) := by
  unfold partB partO
  rw [hg]
  exact topD_lO _
theorem ap_ans {g : Rho → Option (List Nat)} (n : Str) (hl : c.length ≤ 1000) (hg : g (.own ⟨obR x0 x1 x2 (listsO a bb c) x4 x5 x6 x7 x8, f⟩ :: r) = some [3, 2]) : appP 0 g (.own ⟨obR x0 x1 x2 (listsO a bb c) x4 x5 x6 x7 x8, f⟩ :: r) (some (.dat (.str n))) = some (.nx (.own ⟨obR x0 x1 x2 (listsO a bb (c ++ [n])) x4 x5 x6 x7 x8, f⟩ :: r)) := by
  unfold appP
  show mutR 0 g _ (appO (.dat (.str n))) = _
  unfold mutR
  rw [hg]
  show (((appO (.dat (.str n))) (strL c)).map fun o2 => Res.nx (.own ⟨setP (obR x0 x1 x2 (listsO a bb c) x4 x5 x6 x7 x8) [3, 2] o2, f⟩ :: r)) = _
  have : appO (.dat (.str n)) (strL c) = some (strL (c ++ [n])) := by
    unfold strL lO appO
    dsimp only
    rw [if_pos (lenLt_ (by simpa using hl))]
    simp
  rw [this]
  rfl
end
theorem runXn {n : Nat} {fb : Rho → Option Res} {o o' : OD} {d : PyData} {r : Rho} (h : fb (.own ⟨o, true⟩ :: .val d :: List.replicate (n - 2) .no) = some (.nx (.own ⟨o', true⟩ :: r))) : runX n 2 0 fb o [d] = some (.none, o') := runX2 (by rw [h]; rfl)
theorem if_no {c : Option Bool} {a b r : Option Res} (hc : c = some false) (h : b = r) : ifR c a b = r := by rw [hc]; exact h
theorem if_yes {c : Option Bool} {a b r : Option Res} (hc : c = some true) (h : a = r) : ifR c a b = r := by rw [hc]; exact h
section
variable {b : Book} {l : Ltr} {s s' : RSt} {m : OD → List PyData → Option (PyData × OD)} {n : Str} {U : Uni}
theorem do_call (hm : m (s.ob b l) [.str n] = some (.none, s'.ob b l)) : runX 4 2 0 (fb_Run_do m) (s.ob b l) [(Deed.call n).enc] = some (.none, s'.ob b l) :=
  runXn (seq_step (ρ := [.own ⟨s.ob b l, true⟩, .val (Deed.call n).enc, .val (.str "call"), .no]) rfl (if_yes rfl (meth_at (r := [.val (Deed.call n).enc, .val (.str "call"), .no]) (obIs_walk b l s) hm)))
theorem do_drop : runX 4 2 0 (fb_Run_do m) (s.ob b l) [Deed.drop.enc] = some (.none, RSt.ob b l { s with drop := true }) :=
  runXn (seq_step (ρ := [.own ⟨s.ob b l, true⟩, .val Deed.drop.enc, .val (.str "drop"), .no]) rfl (if_no rfl (if_yes rfl (fw_is_dropped _ _ _ _ _ _ _ _ _ _ _ _))))
theorem do_stop : runX 4 2 0 (fb_Run_do m) (s.ob b l) [Deed.stop.enc] = some (.none, RSt.ob b l { s with over := true }) :=
  runXn (seq_step (ρ := [.own ⟨s.ob b l, true⟩, .val Deed.stop.enc, .val (.str "stop"), .no]) rfl (if_no rfl (if_no rfl (if_yes rfl (fw_is_over _ _ _ _ _ _ _ _ _ _ _ _)))))
def gL : Rho → Option (List Nat) := fun ρ => keyP 0 (fun ρ => stepP 0 (fun ρ => some []) (fldS "Run" "lists") ρ) ρ (gv 2 ρ)
theorem notIn_l (x : Str) (ss : List Str) (h : ss.all nmOk = true) (hs : nmOk x = true) : notInD (.str x) (.list (ss.map .str)) = some (.bool (!decide (x ∈ ss))) := by
  have := inD_l x ss h hs
  unfold inD at this
  obtain ⟨c, hc, e⟩ := Option.map_eq_some_iff.mp this
  cases e
  unfold notInD
  rw [hc]; rfl
theorem in_lists (x0 x1 x2 x4 x5 x6 x7 x8 : OD) (a bb c : List Str) (f : Bool) (r : Rho) (w : Str) (hw : w = "lay" ∨ w = "send" ∨ w = "answer") : (inP false (some (.str w)) (partO 0 (fun ρ => stepP 0 (fun ρ => some []) (fldS "Run" "lists") ρ) (.own ⟨obR x0 x1 x2 (listsO a bb c) x4 x5 x6 x7 x8, f⟩ :: r))).bind asB = some true := by
  rw [po_lists]
  rcases hw with rfl | rfl | rfl <;> rfl
theorem notin_lists (x0 x1 x2 x4 x5 x6 x7 x8 : OD) (a bb c : List Str) (f : Bool) (r : Rho) (w : Str) (hw : w = "mark" ∨ w = "unmark") : (inP false (some (.str w)) (partO 0 (fun ρ => stepP 0 (fun ρ => some []) (fldS "Run" "lists") ρ) (.own ⟨obR x0 x1 x2 (listsO a bb c) x4 x5 x6 x7 x8, f⟩ :: r))).bind asB = some false := by
  rw [po_lists]
  rcases hw with rfl | rfl <;> rfl
theorem do_lay (hU : U.Ok) (hs : s.Inv U) (hn : nmOk n = true) : runX 4 2 0 (fb_Run_do m) (s.ob b l) [(Deed.lay n).enc] = some (.none, RSt.ob b l { s with lay := putL n s.lay }) := by
  have hb := pb_lay (g := gL) (.dat b.dct) (.dat l.enc) (.dat (.list (s.marks.map .str))) (.dat (.bool s.drop)) (.dat (.bool s.over)) (strL s.within) (wentO s.went) (begunO s.begun) s.lay s.send s.ans true [.val (Deed.lay n).enc, .val (.str "lay"), .no] (kp_lay (.dat b.dct) (.dat l.enc) (.dat (.list (s.marks.map .str))) (.dat (.bool s.drop)) (.dat (.bool s.over)) (strL s.within) (wentO s.went) (begunO s.begun) s.lay s.send s.ans true _)
  have ha := ap_lay (g := gL) (.dat b.dct) (.dat l.enc) (.dat (.list (s.marks.map .str))) (.dat (.bool s.drop)) (.dat (.bool s.over)) (strL s.within) (wentO s.went) (begunO s.begun) s.lay s.send s.ans true [.val (Deed.lay n).enc, .val (.str "lay"), .no] n (few_len hU hs.lay) (kp_lay (.dat b.dct) (.dat l.enc) (.dat (.list (s.marks.map .str))) (.dat (.bool s.drop)) (.dat (.bool s.over)) (strL s.within) (wentO s.went) (begunO s.begun) s.lay s.send s.ans true _)
  have hni := notIn_l n s.lay (few_nm hU hs.lay) hn
  unfold putL
  by_cases hm : n ∈ s.lay
  · rw [if_pos hm]
    refine runXn (r := [.val (Deed.lay n).enc, .val (.str "lay"), .no]) (seq_step (ρ := [.own ⟨s.ob b l, true⟩, .val (Deed.lay n).enc, .val (.str "lay"), .no]) rfl (if_no rfl (if_no rfl (if_no rfl (if_yes (in_lists _ _ _ _ _ _ _ _ _ _ _ _ _ "lay" (by simp)) (if_no ?_ rfl))))))
    show ((bnd2 (some (.str n)) (partB 0 gL (.own ⟨s.ob b l, true⟩ :: [.val (Deed.lay n).enc, .val (.str "lay"), .no])) notInD).bind asB) = _
    rw [show s.ob b l = obR _ _ _ (listsO s.lay s.send s.ans) _ _ _ _ _ from rfl, hb, bnd2_ss, hni]
    simp [hm, asB_b]
  · rw [if_neg hm]
    refine runXn (r := [.val (Deed.lay n).enc, .val (.str "lay"), .no]) (seq_step (ρ := [.own ⟨s.ob b l, true⟩, .val (Deed.lay n).enc, .val (.str "lay"), .no]) rfl (if_no rfl (if_no rfl (if_no rfl (if_yes (in_lists _ _ _ _ _ _ _ _ _ _ _ _ _ "lay" (by simp)) (if_yes ?_ ha))))))
    show ((bnd2 (some (.str n)) (partB 0 gL (.own ⟨s.ob b l, true⟩ :: [.val (Deed.lay n).enc, .val (.str "lay"), .no])) notInD).bind asB) = _
    rw [show s.ob b l = obR _ _ _ (listsO s.lay s.send s.ans) _ _ _ _ _ from rfl, hb, bnd2_ss, hni]
    simp [hm, asB_b]
theorem do_send (hU : U.Ok) (hs : s.Inv U) (hn : nmOk n = true) : runX 4 2 0 (fb_Run_do m) (s.ob b l) [(Deed.send n).enc] = some (.none, RSt.ob b l { s with send := putL n s.send }) := by
  have hb := pb_send (g := gL) (.dat b.dct) (.dat l.enc) (.dat (.list (s.marks.map .str))) (.dat (.bool s.drop)) (.dat (.bool s.over)) (strL s.within) (wentO s.went) (begunO s.begun) s.lay s.send s.ans true [.val (Deed.send n).enc, .val (.str "send"), .no] (kp_send (.dat b.dct) (.dat l.enc) (.dat (.list (s.marks.map .str))) (.dat (.bool s.drop)) (.dat (.bool s.over)) (strL s.within) (wentO s.went) (begunO s.begun) s.lay s.send s.ans true _)
  have ha := ap_send (g := gL) (.dat b.dct) (.dat l.enc) (.dat (.list (s.marks.map .str))) (.dat (.bool s.drop)) (.dat (.bool s.over)) (strL s.within) (wentO s.went) (begunO s.begun) s.lay s.send s.ans true [.val (Deed.send n).enc, .val (.str "send"), .no] n (few_len hU hs.send) (kp_send (.dat b.dct) (.dat l.enc) (.dat (.list (s.marks.map .str))) (.dat (.bool s.drop)) (.dat (.bool s.over)) (strL s.within) (wentO s.went) (begunO s.begun) s.lay s.send s.ans true _)
  have hni := notIn_l n s.send (few_nm hU hs.send) hn
  unfold putL
  by_cases hm : n ∈ s.send
  · rw [if_pos hm]
    refine runXn (r := [.val (Deed.send n).enc, .val (.str "send"), .no]) (seq_step (ρ := [.own ⟨s.ob b l, true⟩, .val (Deed.send n).enc, .val (.str "send"), .no]) rfl (if_no rfl (if_no rfl (if_no rfl (if_yes (in_lists _ _ _ _ _ _ _ _ _ _ _ _ _ "send" (by simp)) (if_no ?_ rfl))))))
    show ((bnd2 (some (.str n)) (partB 0 gL (.own ⟨s.ob b l, true⟩ :: [.val (Deed.send n).enc, .val (.str "send"), .no])) notInD).bind asB) = _
    rw [show s.ob b l = obR _ _ _ (listsO s.lay s.send s.ans) _ _ _ _ _ from rfl, hb, bnd2_ss, hni]
    simp [hm, asB_b]
  · rw [if_neg hm]
    refine runXn (r := [.val (Deed.send n).enc, .val (.str "send"), .no]) (seq_step (ρ := [.own ⟨s.ob b l, true⟩, .val (Deed.send n).enc, .val (.str "send"), .no]) rfl (if_no rfl (if_no rfl (if_no rfl (if_yes (in_lists _ _ _ _ _ _ _ _ _ _ _ _ _ "send" (by simp)) (if_yes ?_ ha))))))
    show ((bnd2 (some (.str n)) (partB 0 gL (.own ⟨s.ob b l, true⟩ :: [.val (Deed.send n).enc, .val (.str "send"), .no])) notInD).bind asB) = _
    rw [show s.ob b l = obR _ _ _ (listsO s.lay s.send s.ans) _ _ _ _ _ from rfl, hb, bnd2_ss, hni]
    simp [hm, asB_b]
theorem do_ans (hU : U.Ok) (hs : s.Inv U) (hn : nmOk n = true) : runX 4 2 0 (fb_Run_do m) (s.ob b l) [(Deed.ans n).enc] = some (.none, RSt.ob b l { s with ans := putL n s.ans }) := by
  have hb := pb_ans (g := gL) (.dat b.dct) (.dat l.enc) (.dat (.list (s.marks.map .str))) (.dat (.bool s.drop)) (.dat (.bool s.over)) (strL s.within) (wentO s.went) (begunO s.begun) s.lay s.send s.ans true [.val (Deed.ans n).enc, .val (.str "answer"), .no] (kp_ans (.dat b.dct) (.dat l.enc) (.dat (.list (s.marks.map .str))) (.dat (.bool s.drop)) (.dat (.bool s.over)) (strL s.within) (wentO s.went) (begunO s.begun) s.lay s.send s.ans true _)
  have ha := ap_ans (g := gL) (.dat b.dct) (.dat l.enc) (.dat (.list (s.marks.map .str))) (.dat (.bool s.drop)) (.dat (.bool s.over)) (strL s.within) (wentO s.went) (begunO s.begun) s.lay s.send s.ans true [.val (Deed.ans n).enc, .val (.str "answer"), .no] n (few_len hU hs.ans) (kp_ans (.dat b.dct) (.dat l.enc) (.dat (.list (s.marks.map .str))) (.dat (.bool s.drop)) (.dat (.bool s.over)) (strL s.within) (wentO s.went) (begunO s.begun) s.lay s.send s.ans true _)
  have hni := notIn_l n s.ans (few_nm hU hs.ans) hn
  unfold putL
  by_cases hm : n ∈ s.ans
  · rw [if_pos hm]
    refine runXn (r := [.val (Deed.ans n).enc, .val (.str "answer"), .no]) (seq_step (ρ := [.own ⟨s.ob b l, true⟩, .val (Deed.ans n).enc, .val (.str "answer"), .no]) rfl (if_no rfl (if_no rfl (if_no rfl (if_yes (in_lists _ _ _ _ _ _ _ _ _ _ _ _ _ "answer" (by simp)) (if_no ?_ rfl))))))
    show ((bnd2 (some (.str n)) (partB 0 gL (.own ⟨s.ob b l, true⟩ :: [.val (Deed.ans n).enc, .val (.str "answer"), .no])) notInD).bind asB) = _
    rw [show s.ob b l = obR _ _ _ (listsO s.lay s.send s.ans) _ _ _ _ _ from rfl, hb, bnd2_ss, hni]
    simp [hm, asB_b]
  · rw [if_neg hm]
    refine runXn (r := [.val (Deed.ans n).enc, .val (.str "answer"), .no]) (seq_step (ρ := [.own ⟨s.ob b l, true⟩, .val (Deed.ans n).enc, .val (.str "answer"), .no]) rfl (if_no rfl (if_no rfl (if_no rfl (if_yes (in_lists _ _ _ _ _ _ _ _ _ _ _ _ _ "answer" (by simp)) (if_yes ?_ ha))))))
    show ((bnd2 (some (.str n)) (partB 0 gL (.own ⟨s.ob b l, true⟩ :: [.val (Deed.ans n).enc, .val (.str "answer"), .no])) notInD).bind asB) = _
    rw [show s.ob b l = obR _ _ _ (listsO s.lay s.send s.ans) _ _ _ _ _ from rfl, hb, bnd2_ss, hni]
    simp [hm, asB_b]
def ftM : Rho → Option Bool := fun ρ => (bnd2 (gb 3 ρ) (bnd2 (gb 1 ρ) (some (.int 1)) ixD) neD).bind asB
theorem comp_marks (o : Sl) (w : Str) (d : PyData) (hd : bnd2 (some d) (some (.int 1)) ixD = some (.str n)) : ∀ ms : List Str, compD tg1 [3] ftM (fun ρ => gv 3 ρ) [o, .val d, .val (.str w), .no] (ms.map .str) = some ((ms.filter fun m => decide (m ≠ n)).map .str)
  | [] => rfl
  | x :: ms => by
    have ih := comp_marks o w d hd ms
    have ht : ftM (setsR [o, .val d, .val (.str w), .no] [3] [.str x]) = some (decide (x ≠ n)) := by
      show (bnd2 (some (.str x)) (bnd2 (some d) (some (.int 1)) ixD) neD).bind asB = _
      rw [hd, bnd2_ss, neD_ss]
      by_cases h : x = n <;> simp [h, asB_b]
    simp only [List.map_cons, compD, tg1]
    rw [ht]
    by_cases h : x = n
    · have : decide (x ≠ n) = false := by simpa using h
      rw [this, List.filter_cons, if_neg (by simpa using h)]
      exact ih
    · have : decide (x ≠ n) = true := by simpa using h
      rw [this, List.filter_cons, if_pos (by simpa using h)]
      dsimp only
      rw [show gv 3 (setsR [o, .val d, .val (.str w), .no] [3] [.str x]) = some (.str x) from rfl, ih]
      rfl
theorem mul_1 (x : Str) : mulE (.list [.str x]) (.int 1) = some (.list [.str x]) := by
  show repD [.str x] 1 = _
  unfold repD
  rw [if_pos ⟨by decide, by decide, by show 1 * 1 ≤ sizeLine; decide⟩]
  rfl
theorem mul_0 (x : Str) : mulE (.list [.str x]) (.int 0) = some (.list []) := by
  show repD [.str x] 0 = _
  unfold repD
  rw [if_pos ⟨by decide, by decide, by show 1 * 0 ≤ sizeLine; decide⟩]
  rfl
theorem addL {xs ys : List PyData} (h : xs.length + ys.length ≤ 2000) : addD (.list xs) (.list ys) = some (.list (xs ++ ys)) := by
  unfold addD
  dsimp only
  rw [if_pos (show lenOk _ = true from decide_eq_true (Nat.le_trans h (by decide)))]
theorem do_mk (hU : U.Ok) (hs : s.Inv U) (w : Str) (d : PyData) (ys : List Str) (hy : ys.length ≤ 1) (hd : bnd2 (some d) (some (.int 1)) ixD = some (.str n)) (hm : bnd2 (((bnd2 (bnd2 (some d) (some (.int 1)) ixD) (some []) consD)).bind lstD) ((bnd2 (some (.str w)) (some (.str "mark")) eqD).bind intD) mulE = some (.list (ys.map .str))) :
    fldW 0 (fun ρ => some []) "Run" "marks" [.own ⟨s.ob b l, true⟩, .val d, .val (.str w), .no] ((bnd2 (compL ((partB 0 (fun ρ => stepP 0 (fun ρ => some []) (fldS "Run" "marks") ρ) [.own ⟨s.ob b l, true⟩, .val d, .val (.str w), .no]).bind walkD) tg1 [3] ftM (fun ρ => gv 3 ρ) [3] [.own ⟨s.ob b l, true⟩, .val d, .val (.str w), .no])
      (bnd2 (((bnd2 (bnd2 (some d) (some (.int 1)) ixD) (some []) consD)).bind lstD) ((bnd2 (some (.str w)) (some (.str "mark")) eqD).bind intD) mulE) addD).map .dat) = some (.nx (.own ⟨RSt.ob b l { s with marks := s.marks.filter (fun m => decide (m ≠ n)) ++ ys }, true⟩ :: [.val d, .val (.str w), .no])) := by
  have hc : compL ((partB 0 (fun ρ => stepP 0 (fun ρ => some []) (fldS "Run" "marks") ρ) [.own ⟨s.ob b l, true⟩, .val d, .val (.str w), .no]).bind walkD) tg1 [3] ftM (fun ρ => gv 3 ρ) [3] [.own ⟨s.ob b l, true⟩, .val d, .val (.str w), .no] = some (.list ((s.marks.filter fun m => decide (m ≠ n)).map .str)) := by
    unfold partB
    rw [show s.ob b l = obR _ _ (.dat (.list (s.marks.map .str))) _ _ _ _ _ _ from rfl, po_marks]
    show (if lenOk (s.marks.map PyData.str).length then (compD tg1 [3] ftM (fun ρ => gv 3 ρ) _ (s.marks.map .str)).map PyData.list else none) = _
    rw [if_pos (lenOk_ (by simpa using few_len hU hs.marks))]
    rw [show wipeR [Sl.own ⟨_, true⟩, .val d, .val (.str w), .no] [3] = [.own ⟨_, true⟩, .val d, .val (.str w), .no] from rfl, comp_marks _ w d hd]
    rfl
  rw [hc, hm, bnd2_ss, addL (by
    have := few_len hU (hs.marks.filter fun m => decide (m ≠ n))
    rw [List.length_map, List.length_map]; omega)]
  rw [← List.map_append]
  exact fw_marks _ _ _ _ _ _ _ _ _ _ _ _
theorem do_mark (hU : U.Ok) (hs : s.Inv U) : runX 4 2 0 (fb_Run_do m) (s.ob b l) [(Deed.mark n).enc] = some (.none, RSt.ob b l { s with marks := s.marks.filter (fun m => decide (m ≠ n)) ++ [n] }) := by
  refine runXn (r := [.val (Deed.mark n).enc, .val (.str "mark"), .no]) (seq_step (ρ := [.own ⟨s.ob b l, true⟩, .val (Deed.mark n).enc, .val (.str "mark"), .no]) rfl (if_no rfl (if_no rfl (if_no rfl (if_no (notin_lists _ _ _ _ _ _ _ _ _ _ _ _ _ "mark" (by simp)) (do_mk hU hs "mark" _ [n] (by simp) rfl ?_))))))
  exact mul_1 n
theorem do_unmark (hU : U.Ok) (hs : s.Inv U) : runX 4 2 0 (fb_Run_do m) (s.ob b l) [(Deed.unmark n).enc] = some (.none, RSt.ob b l { s with marks := s.marks.filter (fun m => decide (m ≠ n)) }) := by
  refine runXn (r := [.val (Deed.unmark n).enc, .val (.str "unmark"), .no]) (seq_step (ρ := [.own ⟨s.ob b l, true⟩, .val (Deed.unmark n).enc, .val (.str "unmark"), .no]) rfl (if_no rfl (if_no rfl (if_no rfl (if_no (notin_lists _ _ _ _ _ _ _ _ _ _ _ _ _ "unmark" (by simp)) ?_)))))
  have := do_mk (b := b) (l := l) hU hs "unmark" (Deed.unmark n).enc [] (by simp) rfl (n := n) (mul_0 n)
  rw [List.append_nil] at this
  exact this
/-- a deed, once its call is known -/
theorem do_eq (hU : U.Ok) (hs : s.Inv U) (d : Deed) (hd : d.nm.all nmOk = true) (wk : Str → RSt → RSt) (hm : ∀ n, d = .call n → m (s.ob b l) [.str n] = some (.none, (wk n s).ob b l)) : runX 4 2 0 (fb_Run_do m) (s.ob b l) [d.enc] = some (.none, (doF wk d s).ob b l) := by
  cases d with
  | call n => exact do_call (hm n rfl)
  | drop => exact do_drop
  | stop => exact do_stop
  | lay n => exact do_lay hU hs (by simpa [Deed.nm] using hd)
  | send n => exact do_send hU hs (by simpa [Deed.nm] using hd)
  | ans n => exact do_ans hU hs (by simpa [Deed.nm] using hd)
  | mark n => exact do_mark hU hs
  | unmark n => exact do_unmark hU hs
end
/-! ### deeds, rules, a walk -/
/-- what the called walk gives, within W -/
def WkOk (U : Uni) (b : Book) (l : Ltr) (W : List Str) (m : OD → List PyData → Option (PyData × OD)) (wk : Str → RSt → RSt) : Prop :=
  ∀ n s, n ∈ b.names → s.Inv U → s.within = W → m (s.ob b l) [.str n] = some (.none, (wk n s).ob b l) ∧ (wk n s).Inv U ∧ (wk n s).within = W
/-- a deed is of the book -/
def Deed.Of (U : Uni) (b : Book) (d : Deed) : Prop := (∀ n ∈ d.nm, n ∈ U.us) ∧ ∀ n, d = .call n → n ∈ b.names
theorem Deed.Of.ok {U : Uni} {b : Book} {d : Deed} (hU : U.Ok) (h : d.Of U b) : d.nm.all nmOk = true := List.all_eq_true.mpr fun x hx => List.all_eq_true.mp hU.nm x (h.1 x hx)
section
variable {b : Book} {l : Ltr} {s : RSt} {m : OD → List PyData → Option (PyData × OD)} {U : Uni} {W : List Str} {wk : Str → RSt → RSt}
theorem doF_inv (hw : WkOk U b l W m wk) (hs : s.Inv U) (hW : s.within = W) {d : Deed} (hd : d.Of U b) : (doF wk d s).Inv U ∧ (doF wk d s).within = W := by
  cases d with
  | call n => exact (hw n s (hd.2 n rfl) hs hW).2
  | drop => exact ⟨⟨hs.marks, hs.lay, hs.send, hs.ans, hs.within, hs.went, hs.begun⟩, hW⟩
  | stop => exact ⟨⟨hs.marks, hs.lay, hs.send, hs.ans, hs.within, hs.went, hs.begun⟩, hW⟩
  | lay n => exact ⟨⟨hs.marks, hs.lay.put (hd.1 n (by simp [Deed.nm])), hs.send, hs.ans, hs.within, hs.went, hs.begun⟩, hW⟩
  | send n => exact ⟨⟨hs.marks, hs.lay, hs.send.put (hd.1 n (by simp [Deed.nm])), hs.ans, hs.within, hs.went, hs.begun⟩, hW⟩
  | ans n => exact ⟨⟨hs.marks, hs.lay, hs.send, hs.ans.put (hd.1 n (by simp [Deed.nm])), hs.within, hs.went, hs.begun⟩, hW⟩
  | mark n => exact ⟨⟨(hs.marks.filter _).snoc (hd.1 n (by simp [Deed.nm])) (by simp), hs.lay, hs.send, hs.ans, hs.within, hs.went, hs.begun⟩, hW⟩
  | unmark n => exact ⟨⟨hs.marks.filter _, hs.lay, hs.send, hs.ans, hs.within, hs.went, hs.begun⟩, hW⟩
def bodyD (m : OD → List PyData → Option (PyData × OD)) : Rho → Option Res := fun ρ => ifR (((partD 0 (fun ρ => stepP 0 (fun ρ => some []) (fldS "Run" "is_over") ρ) ρ).bind asB).map not) (dropX (methX 0 (fun ρ => some []) "Run" "do" m ρ ((bnd2 (gv 4 ρ) (some []) consD)))) (some (.nx ρ))
theorem over_at (b : Book) (l : Ltr) (s : RSt) (f : Bool) (r : Rho) : ((partD 0 (fun ρ => stepP 0 (fun ρ => some []) (fldS "Run" "is_over") ρ) (.own ⟨s.ob b l, f⟩ :: r)).bind asB).map not = some (!s.over) := by
  unfold partD
  rw [show s.ob b l = obR _ _ _ _ _ (.dat (.bool s.over)) _ _ _ from rfl, po_is_over]
  rfl
theorem deeds_eq (hU : U.Ok) (hw : WkOk U b l W m wk) (v1 x2 x3 : Sl) : ∀ (ds : List Deed) (s : RSt) (x4 : Sl), (∀ d ∈ ds, d.Of U b) → s.Inv U → s.within = W → ∃ x4', forD tg1 [4] (bodyD (runX 4 2 0 (fb_Run_do m))) (ds.map Deed.enc) [.own ⟨s.ob b l, true⟩, v1, x2, x3, x4] = some (.nx [.own ⟨(deedsF wk ds s).ob b l, true⟩, v1, x2, x3, x4']) ∧ (deedsF wk ds s).Inv U ∧ (deedsF wk ds s).within = W
  | [], s, x4, _, hs, hW => ⟨x4, rfl, hs, hW⟩
  | d :: ds, s, x4, hd, hs, hW => by
    have hbody : bodyD (runX 4 2 0 (fb_Run_do m)) [.own ⟨s.ob b l, true⟩, v1, x2, x3, .val d.enc] = some (.nx [.own ⟨(if s.over then s else doF wk d s).ob b l, true⟩, v1, x2, x3, .val d.enc]) := by
      unfold bodyD
      cases ho : s.over with
      | true => exact if_no (by rw [over_at, ho]; rfl) rfl
      | false =>
        refine if_yes (by rw [over_at, ho]; rfl) ?_
        exact meth_at (r := [v1, x2, x3, .val d.enc]) (obIs_do b l s) (do_eq hU hs d ((hd d List.mem_cons_self).ok hU) wk fun n hn => (hw n s ((hd d List.mem_cons_self).2 n hn) hs hW).1)
    have hi : (if s.over then s else doF wk d s).Inv U ∧ (if s.over then s else doF wk d s).within = W := by
      cases s.over with
      | true => exact ⟨hs, hW⟩
      | false => exact doF_inv hw hs hW (hd d List.mem_cons_self)
    obtain ⟨x4', h1, h2⟩ := deeds_eq hU hw v1 x2 x3 ds _ (.val d.enc) (fun e he => hd e (List.mem_cons_of_mem _ he)) hi.1 hi.2
    refine ⟨x4', ?_, h2⟩
    simp only [List.map_cons, forD, tg1]
    rw [show setsR [Sl.own ⟨s.ob b l, true⟩, v1, x2, x3, x4] [4] [d.enc] = [.own ⟨s.ob b l, true⟩, v1, x2, x3, .val d.enc] from rfl, hbody]
    exact h1
/-- the rules of a name -/
structure Rul.Of (U : Uni) (b : Book) (N : Nat) (r : Rul) : Prop where
  dep : r.1.dep ≤ N
  ok : r.1.ok = true
  deeds : ∀ d ∈ r.2, d.Of U b
  few : r.2.length ≤ 1000
def bodyR (mh : List PyData → Option PyData) (md : OD → List PyData → Option (PyData × OD)) : Rho → Option Res := fun ρ =>
  ifR (andB (((partD 0 (fun ρ => stepP 0 (fun ρ => some []) (fldS "Run" "is_over") ρ) ρ).bind asB).map not) ((((bnd2 (bnd2 (gb 3 ρ) (some (.int 0)) ixD) ((bnd2 (partD 0 (fun ρ => stepP 0 (fun ρ => some []) (fldS "Run" "letter") ρ) ρ) ((bnd2 (partD 0 (fun ρ => stepP 0 (fun ρ => some []) (fldS "Run" "marks") ρ) ρ) (some []) consD)) consD)) consD)).bind mh).bind asB)) (seqR (putPT 0 (fun ρ => stepP 0 (fun ρ => some []) (fldS "Run" "begun") ρ) ρ (((bnd2 (gv 1 ρ) ((bnd2 (gv 2 ρ) (some []) consD)) consD)).bind keyT) (some (.bool true))) fun ρ =>
  forR ((bnd2 (gb 3 ρ) (some (.int 1)) ixD).bind walkD) tg1 [4] (bodyD md) ρ) (some (.nx ρ))
theorem putZ_const {κ α β : Type} [DecidableEq κ] (f : α → κ) (q : κ) (t : β) : ∀ xs : List α, putZ (xs.map f) q t (xs.map fun _ => t) = xs.map fun _ => t
  | [] => rfl
  | x :: xs => by
    have ih := putZ_const f q t xs
    unfold putZ at ih ⊢
    simp only [List.map_cons, List.zipWith_cons_cons, ih, ite_self]
theorem any_mem {κ α : Type} [DecidableEq κ] [DecidableEq α] (f : α → κ) (hf : ∀ a b, f a = f b → a = b) (x : α) : ∀ xs : List α, ((xs.map f).any fun k => decide (k = f x)) = decide (x ∈ xs)
  | [] => rfl
  | y :: xs => by
    simp only [List.map_cons, List.any_cons, any_mem f hf x xs]
    by_cases h : y = x
    · subst h; simp
    · rw [decide_eq_false fun z => h (hf _ _ z)]
      simp [List.mem_cons, Ne.symm h, h, eq_comm]
theorem begun_put {ks : List (Str × Nat)} (h : ks.length ≤ 1000) (nm : Str) (k : Nat) : putOT [.inr nm, .inl (k : Int)] (.bool true) (begunO ks) = some (begunO (putL (nm, k) ks)) := by
  unfold begunO putOT
  dsimp only
  rw [if_pos (lenLt_ (by simpa using h))]
  have ha := any_mem (fun p : Str × Nat => ([.inr p.1, .inl (p.2 : Int)] : List Key)) (fun a b e => by
    simp only [List.cons.injEq, Sum.inr.injEq, Sum.inl.injEq, and_true] at e
    exact Prod.ext e.1 (by omega)) (nm, k) ks
  dsimp only at ha
  rw [ha]
  unfold putL
  by_cases hm : (nm, k) ∈ ks
  · simp only [hm, decide_true, if_true, putZ_const]
  · simp [hm]
theorem went_put {ks : List Str} (h : ks.length ≤ 1000) (nm : Str) : putO (.inr nm) (.bool true) (wentO ks) = some (wentO (putL nm ks)) := by
  unfold wentO putO
  dsimp only
  rw [if_pos (lenLt_ (by simpa using h))]
  have ha := any_mem (fun p : Str => (.inr p : Key)) (fun a b e => by cases e; rfl) nm ks
  rw [ha]
  unfold putL
  by_cases hm : nm ∈ ks
  · simp only [hm, decide_true, if_true, putZ_const]
  · simp [hm]
theorem hold_at {N : Nat} {t : Tst} (hU : U.Ok) (hs : s.Inv U) (hl : l.ok = true) (hd : t.dep ≤ N) (ht : t.ok = true) : m_hw (N + 1) [t.enc, l.enc, .list (s.marks.map .str)] = some (.bool (hold t l s.marks)) := hold_eq N t l s.marks _ hd ht hl (few_nm hU hs.marks) (.inr rfl)
theorem cond_at {N : Nat} {r : Rul} (hU : U.Ok) (hs : s.Inv U) (hl : l.ok = true) (hd : r.1.dep ≤ N) (ht : r.1.ok = true) (v1 x2 x4 : Sl) :
    andB (((partD 0 (fun ρ => stepP 0 (fun ρ => some []) (fldS "Run" "is_over") ρ) [.own ⟨s.ob b l, true⟩, v1, x2, .val r.enc, x4]).bind asB).map not) ((((bnd2 (bnd2 (gb 3 [.own ⟨s.ob b l, true⟩, v1, x2, .val r.enc, x4]) (some (.int 0)) ixD) ((bnd2 (partD 0 (fun ρ => stepP 0 (fun ρ => some []) (fldS "Run" "letter") ρ) [.own ⟨s.ob b l, true⟩, v1, x2, .val r.enc, x4]) ((bnd2 (partD 0 (fun ρ => stepP 0 (fun ρ => some []) (fldS "Run" "marks") ρ) [.own ⟨s.ob b l, true⟩, v1, x2, .val r.enc, x4]) (some []) consD)) consD)) consD)).bind (m_hw (N + 1))).bind asB)
      = some (!s.over && hold r.1 l s.marks) := by
  rw [over_at]
  have e1 : partD 0 (fun ρ => stepP 0 (fun ρ => some []) (fldS "Run" "letter") ρ) [.own ⟨s.ob b l, true⟩, v1, x2, .val r.enc, x4] = some l.enc := by
    unfold partD
    rw [show s.ob b l = obR _ (.dat l.enc) _ _ _ _ _ _ _ from rfl, po_letter]; rfl
  have e2 : partD 0 (fun ρ => stepP 0 (fun ρ => some []) (fldS "Run" "marks") ρ) [.own ⟨s.ob b l, true⟩, v1, x2, .val r.enc, x4] = some (.list (s.marks.map .str)) := by
    unfold partD
    rw [show s.ob b l = obR _ _ (.dat (.list (s.marks.map .str))) _ _ _ _ _ _ from rfl, po_marks]; rfl
  rw [e1, e2]
  cases ho : s.over with
  | true => rfl
  | false =>
    show ((m_hw (N + 1) [r.1.enc, l.enc, .list (s.marks.map .str)]).bind asB) = _
    rw [hold_at hU hs hl hd ht]
    rfl
theorem rules_eq {N : Nat} (hU : U.Ok) (hl : l.ok = true) (hw : WkOk U b l W m wk) (name : Str) : ∀ (rs : List Rul) (k : Nat) (s : RSt) (x2 x3 x4 : Sl), (∀ r ∈ rs, r.Of U b N) → (∀ j, j < k + rs.length → (name, j) ∈ U.ps) → s.Inv U → s.within = W →
    ∃ x2' x3' x4', forD (tgT 2 (tgC tg1 (tgC tg1 tgN))) [2, 3] (bodyR (m_hw (N + 1)) (runX 4 2 0 (fb_Run_do m))) (enumFrom k (rs.map Rul.enc)) [.own ⟨s.ob b l, true⟩, .val (.str name), x2, x3, x4] = some (.nx [.own ⟨(rulesF wk l name k rs s).ob b l, true⟩, .val (.str name), x2', x3', x4']) ∧ (rulesF wk l name k rs s).Inv U ∧ (rulesF wk l name k rs s).within = W
  | [], k, s, x2, x3, x4, _, _, hs, hW => ⟨x2, x3, x4, rfl, hs, hW⟩
  | r :: rs, k, s, x2, x3, x4, hr, hk, hs, hW => by
    have h0 := hr r List.mem_cons_self
    simp only [List.map_cons, enumFrom, forD]
    rw [tgT2]
    dsimp only
    rw [show setsR [Sl.own ⟨s.ob b l, true⟩, .val (.str name), x2, x3, x4] [2, 3] [.int (k : Int), r.enc] = [.own ⟨s.ob b l, true⟩, .val (.str name), .val (.int (k : Int)), .val r.enc, x4] from rfl]
    have hc := cond_at (b := b) hU hs hl h0.dep h0.ok (.val (.str name)) (.val (.int (k : Int))) x4
    have hkp : (name, k) ∈ U.ps := hk k (by simp only [List.length_cons]; omega)
    have hk' : ∀ j, j < (k + 1) + rs.length → (name, j) ∈ U.ps := fun j hj => hk j (by simp only [List.length_cons]; omega)
    have hr' : ∀ r ∈ rs, r.Of U b N := fun e he => hr e (List.mem_cons_of_mem _ he)
    cases hcond : (!s.over && hold r.1 l s.marks) with
    | false =>
      rw [hcond] at hc
      have hb : bodyR (m_hw (N + 1)) (runX 4 2 0 (fb_Run_do m)) [.own ⟨s.ob b l, true⟩, .val (.str name), .val (.int (k : Int)), .val r.enc, x4] = some (.nx [.own ⟨s.ob b l, true⟩, .val (.str name), .val (.int (k : Int)), .val r.enc, x4]) := if_no hc rfl
      rw [hb]
      have := rules_eq hU hl hw name rs (k + 1) s (.val (.int (k : Int))) (.val r.enc) x4 hr' hk' hs hW
      rw [show rulesF wk l name k (r :: rs) s = rulesF wk l name (k + 1) rs s from by simp only [rulesF, hcond]; rfl]
      exact this
    | true =>
      rw [hcond] at hc
      have hs1 : RSt.Inv U { s with begun := putL (name, k) s.begun } := ⟨hs.marks, hs.lay, hs.send, hs.ans, hs.within, hs.went, hs.begun.put hkp⟩
      obtain ⟨x4', d1, d2, d3⟩ := deeds_eq (b := b) (l := l) hU hw (.val (.str name)) (.val (.int (k : Int))) (.val r.enc) r.2 { s with begun := putL (name, k) s.begun } x4 h0.deeds hs1 hW
      have hb : bodyR (m_hw (N + 1)) (runX 4 2 0 (fb_Run_do m)) [.own ⟨s.ob b l, true⟩, .val (.str name), .val (.int (k : Int)), .val r.enc, x4] = some (.nx [.own ⟨(deedsF wk r.2 { s with begun := putL (name, k) s.begun }).ob b l, true⟩, .val (.str name), .val (.int (k : Int)), .val r.enc, x4']) := by
        refine if_yes hc (seq_step (ρ := [.own ⟨RSt.ob b l { s with begun := putL (name, k) s.begun }, true⟩, .val (.str name), .val (.int (k : Int)), .val r.enc, x4]) ?_ d1)
        exact mr_begun _ _ _ _ _ _ _ _ _ _ true [.val (.str name), .val (.int (k : Int)), .val r.enc, x4] (putOT [.inr name, .inl (k : Int)] (.bool true)) (begun_put (few_lenp hU hs.begun) name k)
      rw [hb]
      have := rules_eq hU hl hw name rs (k + 1) (deedsF wk r.2 { s with begun := putL (name, k) s.begun }) (.val (.int (k : Int))) (.val r.enc) x4' hr' hk' d2 d3
      rw [show rulesF wk l name k (r :: rs) s = rulesF wk l name (k + 1) rs (deedsF wk r.2 { s with begun := putL (name, k) s.begun }) from by simp only [rulesF, hcond]; rfl]
      exact this
end
structure Book.Of (U : Uni) (N : Nat) (b : Book) : Prop where
  nd : b.names.Nodup
  us : ∀ n ∈ b.names, n ∈ U.us
  rl : ∀ p ∈ b, ∀ r ∈ p.2, r.Of U b N
  ps : ∀ p ∈ b, ∀ j, j < p.2.length → (p.1, j) ∈ U.ps
  fw : ∀ p ∈ b, p.2.length ≤ 1000
  few : b.length ≤ 1000
def free (b : Book) (W : List Str) : Nat := (b.names.filter fun n => decide (n ∉ W)).length
theorem filter_less (W : List Str) (x : Str) (hx : x ∉ W) : ∀ L : List Str, x ∈ L → (L.filter fun n => decide (n ∉ W ++ [x])).length < (L.filter fun n => decide (n ∉ W)).length
  | [], h => nomatch h
  | y :: L, h => by
    have hle : ∀ L : List Str, (L.filter fun n => decide (n ∉ W ++ [x])).length ≤ (L.filter fun n => decide (n ∉ W)).length := fun L => by
      induction L with
      | nil => exact Nat.le_refl _
      | cons z L ih =>
        simp only [List.filter_cons]
        by_cases h1 : z ∉ W ++ [x]
        · have h2 : z ∉ W := fun h => h1 (List.mem_append_left _ h)
          rw [if_pos (decide_eq_true h1), if_pos (decide_eq_true h2)]
          simpa using ih
        · rw [if_neg (by simpa using h1)]
          split
          · simp only [List.length_cons]; omega
          · exact ih
    simp only [List.filter_cons]
    by_cases hy : y = x
    · subst hy
      rw [if_neg (by simp), if_pos (decide_eq_true hx)]
      have := hle L
      simp only [List.length_cons]
      omega
    · have hm : x ∈ L := by
        rcases List.mem_cons.mp h with h | h
        · exact absurd h.symm hy
        · exact h
      have ih := filter_less W x hx L hm
      by_cases h1 : y ∉ W
      · have h2 : y ∉ W ++ [x] := fun h => (List.mem_append.mp h).elim h1 fun h => hy (List.mem_singleton.mp h)
        rw [if_pos (decide_eq_true h1), if_pos (decide_eq_true h2)]
        simpa using ih
      · have h2 : ¬ (y ∉ W ++ [x]) := fun h => h1 fun h' => h (List.mem_append_left _ h')
        rw [if_neg (by simpa using h2), if_neg (by simpa using h1)]
        exact ih
def m_walk (N : Nat) : Nat → OD → List PyData → Option (PyData × OD)
  | 0 => fun _ _ => none
  | n + 1 => runX 5 2 0 (fb_Run_walk (m_hw (N + 1)) (runX 4 2 0 (fb_Run_do (m_walk N n))))
theorem get_mem {b : Book} {n : Str} (h : n ∈ b.names) : (n, b.get n) ∈ b := by
  unfold Book.names at h
  unfold Book.get
  obtain ⟨p, hp, rfl⟩ := List.mem_map.mp h
  cases hf : b.find? fun q => decide (q.1 = p.1) with
  | none =>
    have := List.find?_eq_none.mp hf p hp
    simp at this
  | some q =>
    have h1 := List.find?_some hf
    have h2 := List.mem_of_find?_eq_some hf
    have h3 := of_decide_eq_true h1
    show (p.1, q.2) ∈ b
    rw [← h3]
    exact h2
theorem dct_get {b : Book} {n : Str} (h : n ∈ b.names) : ixE b.dct (.str n) = some (rulesD (b.get n)) := by
  have hob : isOb (b.map fun p => (PyData.str p.1, rulesD p.2)) = false := by
    cases b with
    | nil => rfl
    | cons p r => rfl
  unfold Book.dct ixE
  dsimp only
  rw [if_neg (by rw [hob]; exact Bool.false_ne_true)]
  show dgetK _ (.inr n) = _
  unfold dgetK
  have key : ∀ b : Book, ((b.map fun p => (PyData.str p.1, rulesD p.2)).find? fun kv => decide (toK kv.1 = some (.inr n))) = (b.find? fun p => decide (p.1 = n)).map fun p => (PyData.str p.1, rulesD p.2) := fun b => by
    induction b with
    | nil => rfl
    | cons p r ih =>
      simp only [List.map_cons, List.find?_cons, toK, Option.some.injEq, Sum.inr.injEq]
      by_cases hp : p.1 = n
      · simp [hp]
      · simp only [hp, decide_false]; exact ih
  rw [key]
  have hm := get_mem h
  unfold Book.get
  cases hf : b.find? fun q => decide (q.1 = n) with
  | none =>
    have := List.find?_eq_none.mp hf _ hm
    simp at this
  | some q => rfl
theorem app_strL {a : List Str} (hl : a.length ≤ 1000) (n : Str) : appO (.dat (.str n)) (strL a) = some (strL (a ++ [n])) := by
  unfold strL lO appO
  dsimp only
  rw [if_pos (lenLt_ (by simpa using hl))]
  simp
theorem pop_strL {a : List Str} (h : a ≠ []) : popO (strL a) = some (strL a.dropLast) := by
  unfold strL lO popO
  dsimp only
  rw [if_neg (by simpa using h)]
  simp [List.map_dropLast]
section
variable {b : Book} {l : Ltr} {U : Uni} {N : Nat}
theorem walk_eq (hU : U.Ok) (hl : l.ok = true) (hb : b.Of U N) : ∀ (n : Nat) (name : Str) (s : RSt), name ∈ b.names → s.Inv U → free b s.within < n → m_walk N n (s.ob b l) [.str name] = some (.none, (walkF b l n name s).ob b l) ∧ (walkF b l n name s).Inv U ∧ (walkF b l n name s).within = s.within
  | 0, name, s, _, _, h => by omega
  | n + 1, name, s, hn, hs, hf => by
    have hin : (bnd2 (gb 1 [.own ⟨s.ob b l, true⟩, .val (.str name), .no, .no, .no]) (partB 0 (fun ρ => stepP 0 (fun ρ => some []) (fldS "Run" "within") ρ) [.own ⟨s.ob b l, true⟩, .val (.str name), .no, .no, .no]) inD).bind asB = some (decide (name ∈ s.within)) := by
      unfold partB
      rw [show s.ob b l = obR _ _ _ _ _ _ (strL s.within) _ _ from rfl, po_within]
      show (bnd2 (some (.str name)) (topD (strL s.within)) inD).bind asB = _
      rw [show topD (strL s.within) = some (.list (s.within.map .str)) from topD_lO _, bnd2_ss, inD_l name s.within (few_nm hU hs.within) (List.all_eq_true.mp hU.nm name (hb.us name hn))]
      rfl
    by_cases hw : name ∈ s.within
    · rw [decide_eq_true hw] at hin
      have e : walkF b l (n + 1) name s = s := by simp only [walkF, if_pos hw]
      rw [e]
      refine ⟨?_, hs, rfl⟩
      show runX 5 2 0 _ _ _ = _
      refine runX2 ?_
      have : fb_Run_walk (m_hw (N + 1)) (runX 4 2 0 (fb_Run_do (m_walk N n))) [.own ⟨s.ob b l, true⟩, .val (.str name), .no, .no, .no] = some (.rex .none [.own ⟨s.ob b l, true⟩, .val (.str name), .no, .no, .no]) := by
        unfold fb_Run_walk
        rw [hin]
        rfl
      rw [show (Sl.own ⟨s.ob b l, true⟩ :: .val (.str name) :: List.replicate (5 - 2) .no) = [.own ⟨s.ob b l, true⟩, .val (.str name), .no, .no, .no] from rfl, this]
      rfl
    · rw [decide_eq_false hw] at hin
      have hs1 : RSt.Inv U { s with went := putL name s.went, within := s.within ++ [name] } := ⟨hs.marks, hs.lay, hs.send, hs.ans, hs.within.snoc (hb.us name hn) hw, hs.went.put (hb.us name hn), hs.begun⟩
      have hfree : free b (s.within ++ [name]) < n := by
        have := filter_less s.within name hw b.names hn
        unfold free at hf ⊢
        omega
      have hwk : WkOk U b l (s.within ++ [name]) (m_walk N n) (walkF b l n) := fun x t hx ht hW => by
        have := walk_eq hU hl hb n x t hx ht (by rw [hW]; exact hfree)
        rw [hW] at this
        exact this
      have hg := get_mem hn
      obtain ⟨x2, x3, x4, r1, r2, r3⟩ := rules_eq (b := b) hU hl hwk name (b.get name) 0 { s with went := putL name s.went, within := s.within ++ [name] } .no .no .no (hb.rl _ hg) (fun j hj => hb.ps _ hg j (by simpa using hj)) hs1 rfl
      have e : walkF b l (n + 1) name s = { rulesF (walkF b l n) l name 0 (b.get name) { s with went := putL name s.went, within := s.within ++ [name] } with within := (rulesF (walkF b l n) l name 0 (b.get name) { s with went := putL name s.went, within := s.within ++ [name] }).within.dropLast } := by simp only [walkF, if_neg hw]
      have hdrop : (rulesF (walkF b l n) l name 0 (b.get name) { s with went := putL name s.went, within := s.within ++ [name] }).within.dropLast = s.within := by rw [r3]; simp
      refine ⟨?_, ?_, by rw [e]; exact hdrop⟩
      · show runX 5 2 0 _ _ _ = _
        refine runXn (r := [.val (.str name), x2, x3, x4]) ?_
        refine seq_step (ρ := [.own ⟨s.ob b l, true⟩, .val (.str name), .no, .no, .no]) (if_no hin rfl) ?_
        refine seq_step (ρ := [.own ⟨RSt.ob b l { s with went := putL name s.went }, true⟩, .val (.str name), .no, .no, .no]) (mr_went _ _ _ _ _ _ _ _ _ _ true [.val (.str name), .no, .no, .no] (putO (.inr name) (.bool true)) (went_put (few_len hU hs.went) name)) ?_
        refine seq_step (ρ := [.own ⟨RSt.ob b l { s with went := putL name s.went, within := s.within ++ [name] }, true⟩, .val (.str name), .no, .no, .no]) (mr_within _ _ _ _ _ _ _ _ _ _ true [.val (.str name), .no, .no, .no] (appO (.dat (.str name))) (app_strL (few_len hU hs.within) name)) ?_
        refine seq_step (ρ := [.own ⟨RSt.ob b l (rulesF (walkF b l n) l name 0 (b.get name) { s with went := putL name s.went, within := s.within ++ [name] }), true⟩, .val (.str name), x2, x3, x4]) ?_ ?_
        · have hbook : (bnd2 (partB 0 (fun ρ => stepP 0 (fun ρ => some []) (fldS "Run" "book") ρ) [.own ⟨RSt.ob b l { s with went := putL name s.went, within := s.within ++ [name] }, true⟩, .val (.str name), .no, .no, .no]) (some (.str name)) ixE).bind enumD = some (enumFrom 0 ((b.get name).map Rul.enc)) := by
            unfold partB
            rw [show RSt.ob b l { s with went := putL name s.went, within := s.within ++ [name] } = obR (.dat b.dct) _ _ _ _ _ _ _ _ from rfl, po_book]
            show (ixE b.dct (.str name)).bind enumD = _
            rw [dct_get hn]
            rfl
          show forR _ _ _ _ _ = _
          unfold forR
          rw [show gb 1 [Sl.own ⟨RSt.ob b l { s with went := putL name s.went, within := s.within ++ [name] }, true⟩, .val (.str name), .no, .no, .no] = some (.str name) from rfl, hbook]
          exact r1
        · rw [e]
          exact mr_within _ _ _ _ _ _ _ _ _ _ true [.val (.str name), x2, x3, x4] popO (pop_strL (by rw [r3]; simp))
      · rw [e]
        exact ⟨r2.marks, r2.lay, r2.send, r2.ans, by show Few U.us (RSt.within _).dropLast; rw [hdrop]; exact hs.within, r2.went, r2.begun⟩
end
end Sv

/-! Run(..), outcome, done_by. -/
namespace Sv
open PySem L2 Evl

theorem pairs_book : ∀ b : Book, pairsD (b.map fun p => PyData.tuple [.str p.1, rulesD p.2]) = some (b.map fun p => (.inr p.1, rulesD p.2))
  | [] => rfl
  | p :: b => by
    simp only [List.map_cons, pairsD, pairs_book b]
    rfl
theorem nodupK_names : ∀ ns : List Str, ns.Nodup → nodupK (ns.map .inr) = true
  | [], _ => rfl
  | n :: ns, h => by
    have h' := List.nodup_cons.mp h
    simp only [List.map_cons, nodupK, nodupK_names ns h'.2, Bool.and_true, Bool.not_eq_true']
    rw [any_mem (fun p : Str => (.inr p : Key)) (fun a b e => by cases e; rfl) n ns]
    simpa using h'.1
theorem dict_book {b : Book} (hne : b ≠ []) (hn : b.names.Nodup) : dictD b.enc = some b.dct := by
  cases b with
  | nil => exact (hne rfl).elim
  | cons p r =>
    show (pairsD ((p :: r : Book).map fun p => PyData.tuple [.str p.1, rulesD p.2])).bind _ = _
    rw [pairs_book]
    show (if nodupK (((p :: r : Book).map fun p => ((.inr p.1 : Key), rulesD p.2)).map (·.1)) = true then _ else none) = _
    have e : ((p :: r : Book).map fun p => ((.inr p.1 : Key), rulesD p.2)).map (·.1) = (Book.names (p :: r)).map .inr := by
      unfold Book.names
      rw [List.map_map, List.map_map]; rfl
    rw [e, if_pos (nodupK_names _ hn)]
    unfold Book.dct
    rw [List.map_map]
    rfl
def ob0 (xs : List OD) : OD := .nd (.ob "Run" (List.take xs.length (["book", "letter", "marks", "lists", "is_dropped", "is_over", "within", "went", "begun"] : List Str))) xs
def m_Run (N n : Nat) : OD → List PyData → Option (PyData × OD) := runX 3 3 0 (fb_Run___init__ (m_walk N n))
section
variable {b : Book} {l : Ltr} {U : Uni} {N : Nat}
theorem start_inv (hm : Few U.us l.marks) : (start0 l).Inv U := ⟨hm, Few.nil, Few.nil, Few.nil, Few.nil, Few.nil, Few.nil⟩
theorem lay_len (b : Book) (l : Ltr) (s : RSt) (r : Rho) : (partB 0 (fun ρ => keyP 0 (fun ρ => stepP 0 (fun ρ => some []) (fldS "Run" "lists") ρ) ρ (some (.str "lay"))) (.own ⟨s.ob b l, true⟩ :: r)).bind lenD = some (.int (s.lay.length : Int)) := by
  have := pb_lay (.dat b.dct) (.dat l.enc) (.dat (.list (s.marks.map .str))) (.dat (.bool s.drop)) (.dat (.bool s.over)) (strL s.within) (wentO s.went) (begunO s.begun) s.lay s.send s.ans true r (g := fun ρ => keyP 0 (fun ρ => stepP 0 (fun ρ => some []) (fldS "Run" "lists") ρ) ρ (some (.str "lay"))) (kp_lay _ _ _ _ _ _ _ _ _ _ _ _ _)
  rw [show s.ob b l = obR _ _ _ (listsO s.lay s.send s.ans) _ _ _ _ _ from rfl, this]
  show some (PyData.int ((s.lay.map PyData.str).length : Int)) = _
  rw [List.length_map]
theorem send_len (b : Book) (l : Ltr) (s : RSt) (r : Rho) : (partB 0 (fun ρ => keyP 0 (fun ρ => stepP 0 (fun ρ => some []) (fldS "Run" "lists") ρ) ρ (some (.str "send"))) (.own ⟨s.ob b l, true⟩ :: r)).bind lenD = some (.int (s.send.length : Int)) := by
  have := pb_send (.dat b.dct) (.dat l.enc) (.dat (.list (s.marks.map .str))) (.dat (.bool s.drop)) (.dat (.bool s.over)) (strL s.within) (wentO s.went) (begunO s.begun) s.lay s.send s.ans true r (g := fun ρ => keyP 0 (fun ρ => stepP 0 (fun ρ => some []) (fldS "Run" "lists") ρ) ρ (some (.str "send"))) (kp_send _ _ _ _ _ _ _ _ _ _ _ _ _)
  rw [show s.ob b l = obR _ _ _ (listsO s.lay s.send s.ans) _ _ _ _ _ from rfl, this]
  show some (PyData.int ((s.send.map PyData.str).length : Int)) = _
  rw [List.length_map]
theorem drop_at (b : Book) (l : Ltr) (s : RSt) (f : Bool) (r : Rho) : ((partD 0 (fun ρ => stepP 0 (fun ρ => some []) (fldS "Run" "is_dropped") ρ) (.own ⟨s.ob b l, f⟩ :: r)).bind asB).map not = some (!s.drop) := by
  unfold partD
  rw [show s.ob b l = obR _ _ _ _ (.dat (.bool s.drop)) _ _ _ _ from rfl, po_is_dropped]
  rfl
theorem init_eq (hU : U.Ok) (hl : l.ok = true) (hb : b.Of U N) (hm : Few U.us l.marks) (hmain : ("main" : Str) ∈ b.names) {n : Nat} (hf : b.length < n) : m_Run N n (.nd (.ob "Run" []) []) [b.enc, l.enc] = some (.none, (runF n b l).ob b l) := by
  have hne : b ≠ [] := fun z => by rw [z] at hmain; cases hmain
  have hfree : free b (start0 l).within < n := by
    unfold free
    have := List.length_filter_le (fun x => decide (x ∉ (start0 l).within)) b.names
    have e : b.names.length = b.length := by unfold Book.names; exact List.length_map ..
    omega
  obtain ⟨w1, w2, w3⟩ := walk_eq (b := b) (l := l) hU hl hb n "main" (start0 l) hmain (start_inv hm) hfree
  have hfin : fb_Run___init__ (m_walk N n) [.own ⟨.nd (.ob "Run" []) [], true⟩, .val b.enc, .val l.enc] = some (.nx [.own ⟨(runF n b l).ob b l, true⟩, .val b.enc, .val l.enc]) := by
    unfold fb_Run___init__
    refine seq_step (ρ := [.own ⟨ob0 [.dat b.dct], true⟩, .val b.enc, .val l.enc]) ?_ ?_
    · show fldW 0 (fun ρ => some []) "Run" "book" _ ((dictD b.enc).map .dat) = _
      rw [dict_book hne hb.nd]; rfl
    refine seq_step (ρ := [.own ⟨ob0 [.dat b.dct, .dat l.enc], true⟩, .val b.enc, .val l.enc]) rfl ?_
    refine seq_step (ρ := [.own ⟨ob0 [.dat b.dct, .dat l.enc, .dat (.list (l.marks.map .str))], true⟩, .val b.enc, .val l.enc]) rfl ?_
    refine seq_step (ρ := [.own ⟨ob0 [.dat b.dct, .dat l.enc, .dat (.list (l.marks.map .str)), listsO [] [] []], true⟩, .val b.enc, .val l.enc]) rfl ?_
    refine seq_step (ρ := [.own ⟨ob0 [.dat b.dct, .dat l.enc, .dat (.list (l.marks.map .str)), listsO [] [] [], .dat (.bool false)], true⟩, .val b.enc, .val l.enc]) rfl ?_
    refine seq_step (ρ := [.own ⟨ob0 [.dat b.dct, .dat l.enc, .dat (.list (l.marks.map .str)), listsO [] [] [], .dat (.bool false), .dat (.bool false)], true⟩, .val b.enc, .val l.enc]) rfl ?_
    refine seq_step (ρ := [.own ⟨ob0 [.dat b.dct, .dat l.enc, .dat (.list (l.marks.map .str)), listsO [] [] [], .dat (.bool false), .dat (.bool false), strL []], true⟩, .val b.enc, .val l.enc]) rfl ?_
    refine seq_step (ρ := [.own ⟨ob0 [.dat b.dct, .dat l.enc, .dat (.list (l.marks.map .str)), listsO [] [] [], .dat (.bool false), .dat (.bool false), strL [], wentO []], true⟩, .val b.enc, .val l.enc]) rfl ?_
    refine seq_step (ρ := [.own ⟨(start0 l).ob b l, true⟩, .val b.enc, .val l.enc]) rfl ?_
    refine seq_step (ρ := [.own ⟨(walkF b l n "main" (start0 l)).ob b l, true⟩, .val b.enc, .val l.enc]) (meth_at (r := [.val b.enc, .val l.enc]) (obIs_walk b l _) w1) ?_
    have hcond : ∀ s : RSt, andB (((partD 0 (fun ρ => stepP 0 (fun ρ => some []) (fldS "Run" "is_dropped") ρ) [.own ⟨s.ob b l, true⟩, .val b.enc, .val l.enc]).bind asB).map not) ((bnd2 (bnd2 ((partB 0 (fun ρ => keyP 0 (fun ρ => stepP 0 (fun ρ => some []) (fldS "Run" "lists") ρ) ρ (some (.str "lay"))) [.own ⟨s.ob b l, true⟩, .val b.enc, .val l.enc]).bind lenD) ((partB 0 (fun ρ => keyP 0 (fun ρ => stepP 0 (fun ρ => some []) (fldS "Run" "lists") ρ) ρ (some (.str "send"))) [.own ⟨s.ob b l, true⟩, .val b.enc, .val l.enc]).bind lenD) addD) (some (.int 0)) eqD).bind asB) = some (!s.drop && decide (s.lay.length + s.send.length = 0)) := fun s => by
      rw [drop_at, lay_len, send_len]
      cases s.drop with
      | true => rfl
      | false =>
        show some (decide (((s.lay.length : Int) + (s.send.length : Int)) = 0)) = _
        congr 1
        by_cases h : s.lay.length + s.send.length = 0
        · rw [decide_eq_true h, decide_eq_true (by omega)]; rfl
        · rw [decide_eq_false h, decide_eq_false (by omega)]; rfl
    unfold runF finish
    cases hc : (!(walkF b l n "main" (start0 l)).drop && decide ((walkF b l n "main" (start0 l)).lay.length + (walkF b l n "main" (start0 l)).send.length = 0)) with
    | false => exact if_no (by rw [hcond, hc]) rfl
    | true => exact if_yes (by rw [hcond, hc]) (ap_lay _ _ _ _ _ _ _ _ _ _ _ true _ "in" (few_len hU w2.lay) (kp_lay _ _ _ _ _ _ _ _ _ _ _ true _))
  unfold m_Run runX
  rw [if_pos (by rfl)]
  show retX 0 (fb_Run___init__ (m_walk N n) [.own ⟨.nd (.ob "Run" []) [], true⟩, .val b.enc, .val l.enc]) = _
  rw [hfin]
  rfl
end
/-! ### as data -/
def strsL (ss : List Str) : PyData := .list (ss.map .str)
def obD (b : Book) (l : Ltr) (s : RSt) : PyData := .dict [(.list [.str "Run"], .none), (.str "book", b.dct), (.str "letter", l.enc), (.str "marks", strsL s.marks), (.str "lists", .dict [(.str "lay", strsL s.lay), (.str "send", strsL s.send), (.str "answer", strsL s.ans)]), (.str "is_dropped", .bool s.drop), (.str "is_over", .bool s.over),
  (.str "within", strsL s.within), (.str "went", .dict ((s.went.map .str).zip (s.went.map fun _ => .bool true))), (.str "begun", .dict ((.list [], .none) :: (s.begun.map fun p => PyData.tuple [.str p.1, .int (p.2 : Int)]).zip (s.begun.map fun _ => .bool true)))]
theorem flat_strL (ss : List Str) : flat (strL ss) = some (strsL ss) := flat_lO _
theorem flatL_true {α : Type} : ∀ xs : List α, flatL (xs.map fun _ => OD.dat (.bool true)) = some (xs.map fun _ => .bool true)
  | [] => rfl
  | x :: xs => by simp only [List.map_cons, flatL, flat, flatL_true xs]
theorem flat_ob (b : Book) (l : Ltr) (s : RSt) : flat (s.ob b l) = some (obD b l s) := by
  unfold RSt.ob obR listsO wentO begunO
  simp only [flat, flatL, flatL_true, flat_strL, Option.bind_some, pack, List.map_map]
  rfl
theorem make_eq {b : Book} {l : Ltr} {U : Uni} {N : Nat} (hU : U.Ok) (hl : l.ok = true) (hb : b.Of U N) (hm : Few U.us l.marks) (hmain : ("main" : Str) ∈ b.names) {n : Nat} (hf : b.length < n) : makeD "Run" (m_Run N n) [b.enc, l.enc] = some (obD b l (runF n b l)) := by
  unfold makeD makeO
  rw [init_eq hU hl hb hm hmain hf]
  exact flat_ob b l _
/-! ### sorted texts, sorted pairs -/
open PySem.W (dataLe alike)
def leS (a b : Str) : Bool := dataLe false id (.str a) (.str b)
def leP (a b : Str × Nat) : Bool := dataLe false id (.tuple [.str a.1, .int (a.2 : Int)]) (.tuple [.str b.1, .int (b.2 : Int)])
def sortS (ss : List Str) : List Str := ss.mergeSort leS
def sortP (ss : List (Str × Nat)) : List (Str × Nat) := ss.mergeSort leP
theorem srt_str (ss : List Str) : srt (ss.map .str) = (sortS ss).map .str := (List.map_mergeSort (r := leS) (s := dataLe false id) (f := PyData.str) fun a _ b _ => rfl).symm
theorem srt_pair (ss : List (Str × Nat)) : srt (ss.map fun p => PyData.tuple [.str p.1, .int (p.2 : Int)]) = (sortP ss).map fun p => PyData.tuple [.str p.1, .int (p.2 : Int)] := (List.map_mergeSort (r := leP) (s := dataLe false id) (f := fun p : Str × Nat => PyData.tuple [.str p.1, .int (p.2 : Int)]) fun a _ b _ => rfl).symm
theorem sok_str {ss : List Str} (h : ss.length ≤ 1000) : sortOkB (ss.map .str) = true := by
  unfold sortOkB
  simp only [Bool.and_eq_true, Bool.or_eq_true, List.all_map, List.length_map]
  refine ⟨⟨⟨List.all_eq_true.mpr fun d _ => List.all_eq_true.mpr fun e _ => by simp [alike], .inr (List.all_eq_true.mpr fun d _ => rfl)⟩, lenOk_ h⟩, List.all_eq_true.mpr fun d _ => by simp [PyData.depth]⟩
theorem sok_pair {ss : List (Str × Nat)} (h : ss.length ≤ 1000) : sortOkB (ss.map fun p => PyData.tuple [.str p.1, .int (p.2 : Int)]) = true := by
  unfold sortOkB
  simp only [Bool.and_eq_true, Bool.or_eq_true, List.all_map, List.length_map]
  refine ⟨⟨⟨List.all_eq_true.mpr fun d _ => List.all_eq_true.mpr fun e _ => by simp [alike, PySem.W.alikeAll], .inl (List.all_eq_true.mpr fun d _ => rfl)⟩, lenOk_ h⟩, List.all_eq_true.mpr fun d _ => by simp [PyData.depth, PyData.depthAll]⟩
theorem sort_strs {ss : List Str} (h : ss.length ≤ 1000) : sortD (strsL ss) = some (strsL (sortS ss)) := by
  unfold sortD strsL
  show (if sortOkB (ss.map .str) then some (PyData.list (srt (ss.map .str))) else none) = _
  rw [if_pos (sok_str h), srt_str]
/-! ### told, outcome, done_by -/
structure Out where
  lay : List Str
  send : List Str
  ans : List Str
  marks : List Str
  deriving DecidableEq
def Out.enc (o : Out) : PyData := .tuple [strsD o.lay, strsD o.send, strsD o.ans, strsD o.marks]
def RSt.out (s : RSt) : Out := ⟨s.lay, s.send, s.ans, sortS s.marks⟩
def m_told : List PyData → Option PyData := runD 3 1 fb_Run_told
theorem told_eq (b : Book) (l : Ltr) (s : RSt) (hm : s.marks.length ≤ 1000) : m_told [obD b l s] = some s.out.enc := by
  refine run_step rfl ?_
  unfold fb_Run_told
  refine seq_step (ρ := [.val (obD b l s), .val (.tuple [strsD s.lay, strsD s.send, strsD s.ans]), .no]) rfl ?_
  show retR (bnd2 (some (.tuple [strsD s.lay, strsD s.send, strsD s.ans])) (((bnd2 (((some (strsL s.marks)).bind sortD).bind tupleD) (some []) consD)).bind tupD) addD) = _
  rw [Option.bind_some, sort_strs hm]
  rfl
def m_out (N n : Nat) : List PyData → Option PyData := runD 2 2 (fb_outcome (m_Run N n) m_told)
def m_done (N n : Nat) : List PyData → Option PyData := runD 2 2 (fb_done_by (m_Run N n))
theorem finish_inv {U : Uni} {s : RSt} (h : s.Inv U) : (finish s).marks = s.marks ∧ (finish s).begun = s.begun := by
  unfold finish
  split <;> exact ⟨rfl, rfl⟩
section
variable {b : Book} {l : Ltr} {U : Uni} {N : Nat}
theorem run_inv (hU : U.Ok) (hl : l.ok = true) (hb : b.Of U N) (hm : Few U.us l.marks) (hmain : ("main" : Str) ∈ b.names) {n : Nat} (hf : b.length < n) : (walkF b l n "main" (start0 l)).Inv U := by
  have hfree : free b (start0 l).within < n := by
    unfold free
    have := List.length_filter_le (fun x => decide (x ∉ (start0 l).within)) b.names
    have e : b.names.length = b.length := by unfold Book.names; exact List.length_map ..
    omega
  exact (walk_eq (b := b) (l := l) hU hl hb n "main" (start0 l) hmain (start_inv hm) hfree).2.1
theorem outcome_eq (hU : U.Ok) (hl : l.ok = true) (hb : b.Of U N) (hm : Few U.us l.marks) (hmain : ("main" : Str) ∈ b.names) {n : Nat} (hf : b.length < n) : m_out N n [b.enc, l.enc] = some (runF n b l).out.enc := by
  have hi := run_inv hU hl hb hm hmain hf
  refine run_step rfl ?_
  show retR (bnd2 (makeD "Run" (m_Run N n) [b.enc, l.enc]) (some []) (methD "Run" "told" m_told)) = _
  rw [make_eq hU hl hb hm hmain hf, bnd2_ss]
  show retR (m_told [obD b l (runF n b l)]) = _
  rw [told_eq b l _ (by unfold runF; rw [(finish_inv hi).1]; exact few_len hU hi.marks)]
  rfl
def prsD (ps : List (Str × Nat)) : PyData := .tuple (ps.map fun p => PyData.tuple [.str p.1, .int (p.2 : Int)])
theorem zip_fst2 {α β γ : Type} (f : α → β) (g : α → γ) : ∀ xs : List α, ((xs.map f).zip (xs.map g)).map (·.1) = xs.map f
  | [] => rfl
  | x :: xs => by simp only [List.map_cons, List.zip_cons_cons, zip_fst2 f g xs]
theorem done_eq (hU : U.Ok) (hl : l.ok = true) (hb : b.Of U N) (hm : Few U.us l.marks) (hmain : ("main" : Str) ∈ b.names) {n : Nat} (hf : b.length < n) : m_done N n [b.enc, l.enc] = some (prsD (sortP (runF n b l).begun)) := by
  have hi := run_inv hU hl hb hm hmain hf
  refine run_step rfl ?_
  show retR ((((makeD "Run" (m_Run N n) [b.enc, l.enc]).bind (fldD "Run" "begun")).bind sortD).bind tupleD) = _
  rw [make_eq hU hl hb hm hmain hf]
  show retR ((sortD (.dict ((.list [], .none) :: ((runF n b l).begun.map fun p => PyData.tuple [.str p.1, .int (p.2 : Int)]).zip ((runF n b l).begun.map fun _ => .bool true)))).bind tupleD) = _
  unfold sortD
  show retR (((if sortOkB ((((runF n b l).begun.map fun p => PyData.tuple [.str p.1, .int (p.2 : Int)]).zip ((runF n b l).begun.map fun _ => PyData.bool true)).map (·.1)) then some (PyData.list (srt ((((runF n b l).begun.map fun p => PyData.tuple [.str p.1, .int (p.2 : Int)]).zip ((runF n b l).begun.map fun _ => PyData.bool true)).map (·.1)))) else none)).bind tupleD) = _
  rw [zip_fst2, if_pos (sok_pair (by unfold runF; rw [(finish_inv hi).2]; exact few_lenp hU hi.begun)), srt_pair]
  rfl
end
end Sv

/-! The laws' drawn books. -/
namespace Sv
open PySem L2 Evl
def nameN (x : Int) : Str := pk4 "a" "in" "old" "x" (x / 16)
def deedN (x : Int) (ns : List Str) : Deed :=
  if x % 12 = 0 then .stop else if x % 12 = 1 then .drop else if x % 12 < 5 then .call (ns.getD (x / 16 % ns.length).toNat "main")
  else if x % 12 < 7 then (if x / 64 % 2 = 0 then .mark (pk2 "m" "red" (x / 16)) else .unmark (pk2 "m" "red" (x / 16)))
  else if x % 12 = 7 then .lay (nameN x) else if x % 12 = 8 then .send (nameN x) else if x % 12 = 9 then .ans (nameN x) else if x % 12 = 10 then .lay (nameN x) else .ans (nameN x)
def m_deed : List PyData → Option PyData := runD 4 2 fb__law_deed
theorem atI_mod {α : Type} (xs : List α) (d : α) (hx : 0 < xs.length) (n : Int) : atI xs (n % (xs.length : Int)) = some (xs.getD (n % (xs.length : Int)).toNat d) := by
  have h1 : 0 ≤ n % (xs.length : Int) := Int.emod_nonneg _ (by omega)
  have h2 : n % (xs.length : Int) < xs.length := Int.emod_lt_of_pos _ (by omega)
  have h3 : (n % (xs.length : Int)).toNat < xs.length := by omega
  have := atI_nat (xs := xs) (j := (n % (xs.length : Int)).toNat) (v := xs.getD (n % (xs.length : Int)).toNat d) (by rw [List.getD_eq_getElem?_getD, List.getElem?_eq_getElem h3]; rfl)
  rwa [Int.toNat_of_nonneg h1] at this
theorem deed_eq (x : Int) (ns : List Str) (h0 : 0 < ns.length) (h1 : ns.length ≤ 1000) : m_deed [.int x, strsD ns] = some (deedN x ns).enc := by
  have f16 := fdivD_ii x 16 (cdiv (by decide))
  have f64 := fdivD_ii x 64 (cdiv (by decide))
  refine run_step rfl ?_
  unfold fb__law_deed
  refine seq_step (ρ := [.val (.int x), .val (strsD ns), .val (.int (x % 12)), .no]) (by simp [startR, gb, bnd2_ss, modD_ii, asgR_s]) ?_
  refine seq_step (ρ := [.val (.int x), .val (strsD ns), .val (.int (x % 12)), .val (.str (nameN x))]) (by simp [gb, bnd2_ss, modD_ii, asgR_s, consD_, tupD_, f16, f64, ixD_t, atI_pk4, pk4_map, nameN]) ?_
  have h12 : 0 ≤ x % 12 := Int.emod_nonneg _ (by decide)
  have h12' : x % 12 < 12 := Int.emod_lt_of_pos _ (by decide)
  unfold deedN
  by_cases c0 : x % 12 = 0
  · simp [gb, bnd2_ss, eqD_ii, asB_b, c0, ifR_t, consD_, tupD_, retR_s, seqR_ret, Deed.enc]
  by_cases c1 : x % 12 = 1
  · simp [gb, bnd2_ss, eqD_ii, asB_b, c1, ifR_t, ifR_f, consD_, tupD_, retR_s, seqR_ret, seqR_nx, Deed.enc]
  by_cases c2 : x % 12 < 5
  · have hl : lenD (strsD ns) = some (.int (ns.length : Int)) := by simp [lenD, strsD]
    have hi : ixD (strsD ns) (.int (x / 16 % (ns.length : Int))) = some (.str (ns.getD (x / 16 % ns.length).toNat "main")) := by
      show atI (ns.map PyData.str) _ = _
      have := atI_mod (ns.map PyData.str) (.str "main") (by simpa using h0) (x / 16)
      simp only [List.length_map] at this
      rw [this]
      congr 1
      simp [List.getD_eq_getElem?_getD, List.getElem?_map]
    simp [gb, bnd2_ss, eqD_ii, ltD_ii, asB_b, c0, c1, c2, ifR_t, ifR_f, hl, modD_ii, h0, f16, f64, hi, consD_, tupD_, retR_s, seqR_ret, seqR_nx, Deed.enc]
  by_cases c3 : x % 12 < 7
  · by_cases c4 : x / 64 % 2 = 0
    · simp [gb, bnd2_ss, eqD_ii, ltD_ii, asB_b, c0, c1, c2, c3, ifR_t, ifR_f, modD_ii, f16, f64, ixD_t, atI_pk2, atI_0, pk2_map, consD_, tupD_, retR_s, seqR_ret, seqR_nx, Deed.enc, c4]
    · simp [gb, bnd2_ss, eqD_ii, ltD_ii, asB_b, c0, c1, c2, c3, ifR_t, ifR_f, modD_ii, f16, f64, ixD_t, atI_pk2, pk2_map, consD_, tupD_, retR_s, seqR_ret, seqR_nx, Deed.enc, c4]
      simp [pk2, c4]
  have hk : x % 12 = 7 ∨ x % 12 = 8 ∨ x % 12 = 9 ∨ x % 12 = 10 ∨ x % 12 = 11 := by omega
  rcases hk with hk | hk | hk | hk | hk <;>
    simp [gb, gv, bnd2_ss, eqD_ii, ltD_ii, subD_ii, asB_b, hk, ifR_t, ifR_f, ixD_t, atI_0, atI_1, atI_2, atI_3, atI_4, consD_, tupD_, retR_s, seqR_ret, seqR_nx, Deed.enc]
def ruleN (ns : List Str) (dr : Int) (j : Nat) : Rul :=
  (testN (1 + drawnN dr (10 + j) / 4 / 8 % 3).toNat (drawnN dr (10 + j) / 4 / 4), (List.range (1 + drawnN dr (10 + j) / 4 % 3).toNat).map fun (i : Nat) => deedN (drawnN (drawnN dr (10 + j) / 4) (20 + (i : Int)) / 4) ns)
def manyN (dr : Int) : Nat := pk6 0 1 2 3 4 2 dr
def rulesN (ns : List Str) (dr : Int) : List Rul := (List.range (manyN dr)).map (ruleN ns dr)
def bookFrom (x : Int) (ns : List Str) : Nat → List Str → Book
  | _, [] => []
  | k, n :: r => (n, rulesN ns (drawnN x k / 4)) :: bookFrom x ns (k + 1) r
def namesN (x : Int) : List Str := pk4 ["main"] ["main", "sub"] ["a", "main", "sub"] ["a", "main"] x
def bookN (x : Int) : Book := bookFrom x (namesN x) 0 (namesN x)
def m_book (n : Nat) : List PyData → Option PyData := runD 11 1 (fb__law_book m_drawn m_deed (m_test n))
theorem cdiv4 (x : Int) : fdivD (.int x) (.int 4) = some (.int (x / 4)) := fdivD_ii x 4 (cdiv (by decide))
theorem cdiv8 (x : Int) : fdivD (.int x) (.int 8) = some (.int (x / 8)) := fdivD_ii x 8 (cdiv (by decide))
/-- the deeds of a rule -/
theorem comp_deeds (ns : List Str) (h0 : 0 < ns.length) (h1 : ns.length ≤ 1000) (one : Int) (r : List Sl) (ρ : Rho) (hρ : ∀ i : Int, gv 8 (setsR ρ [10] [.int i]) = some (.int one) ∧ gb 10 (setsR ρ [10] [.int i]) = some (.int i) ∧ gv 1 (setsR ρ [10] [.int i]) = some (strsD ns)) : ∀ (k n : Nat),
    compD tg1 [10] (fun ρ => some true) (fun ρ => ((bnd2 (bnd2 (((bnd2 (gv 8 ρ) ((bnd2 (bnd2 (some (.int 20)) (gb 10 ρ) addD) (some []) consD)) consD)).bind m_drawn) (some (.int 4)) fdivD) ((bnd2 (gv 1 ρ) (some []) consD)) consD)).bind m_deed) ρ ((List.range' k n).map fun (i : Nat) => PyData.int (i : Int))
      = some ((List.range' k n).map fun (i : Nat) => (deedN (drawnN one (20 + (i : Int)) / 4) ns).enc)
  | k, 0 => rfl
  | k, n + 1 => by
    have ih := comp_deeds ns h0 h1 one r ρ hρ (k + 1) n
    obtain ⟨e1, e2, e3⟩ := hρ (k : Int)
    rw [List.range'_succ, List.map_cons, List.map_cons]
    simp only [compD, tg1]
    rw [e1, e2, e3]
    simp only [bnd2_ss, addD_ii, consD_, Option.bind_some, drawn_eq, cdiv4]
    rw [deed_eq _ ns h0 h1]
    dsimp only
    rw [ih]
theorem rngD_0 (n : Int) : rngD 0 n = (List.range' 0 n.toNat).map fun (i : Nat) => PyData.int (i : Int) := by
  unfold rngD
  rw [List.range_eq_range', Int.sub_zero]
  apply List.map_congr_left
  intro i _
  simp
theorem rng1 (n : Int) (h : 0 ≤ n ∧ n ≤ 1000) : rng1D [.int n] = some ((List.range' 0 n.toNat).map fun (i : Nat) => PyData.int (i : Int)) := by
  show (if rngOk n = true then some (rngD 0 n) else none) = _
  rw [if_pos (show rngOk n = true from decide_eq_true (by omega)), rngD_0]
def bodyB (mt : List PyData → Option PyData) : Rho → Option Res := fun ρ =>
  seqR (asgR 8 ρ (bnd2 (((bnd2 (gv 5 ρ) ((bnd2 (bnd2 (some (.int 10)) (gb 7 ρ) addD) (some []) consD)) consD)).bind m_drawn) (some (.int 4)) fdivD)) fun ρ =>
  seqR (asgR 9 ρ ((compL (((bnd2 (bnd2 (some (.int 1)) (bnd2 (gb 8 ρ) (some (.int 3)) modD) addD) (some []) consD)).bind rng1D) tg1 [10] (fun ρ => some true) (fun ρ => ((bnd2 (bnd2 (((bnd2 (gv 8 ρ) ((bnd2 (bnd2 (some (.int 20)) (gb 10 ρ) addD) (some []) consD)) consD)).bind m_drawn) (some (.int 4)) fdivD) ((bnd2 (gv 1 ρ) (some []) consD)) consD)).bind m_deed) [10] ρ).bind tupleD)) fun ρ =>
  asgR 6 ρ (bnd2 (gb 6 ρ) (((bnd2 (((bnd2 (((bnd2 (bnd2 (gb 8 ρ) (some (.int 4)) fdivD) ((bnd2 (bnd2 (some (.int 1)) (bnd2 (bnd2 (gb 8 ρ) (some (.int 8)) fdivD) (some (.int 3)) modD) addD) (some []) consD)) consD)).bind mt) ((bnd2 (gv 9 ρ) (some []) consD)) consD)).bind tupD) (some []) consD)).bind tupD) addD)
theorem addT {xs ys : List PyData} (h : xs.length + ys.length ≤ 2000) : addD (.tuple xs) (.tuple ys) = some (.tuple (xs ++ ys)) := by
  unfold addD
  dsimp only
  rw [if_pos (show lenOk _ = true from decide_eq_true (Nat.le_trans h (by decide)))]
theorem rule_step (ns : List Str) (h0 : 0 < ns.length) (h1 : ns.length ≤ 1000) (x0 x2 x3 x4 x8 x9 x10 : Sl) (dr : Int) (k : Nat) (rs : List Rul) (hl : rs.length ≤ 1000) :
    bodyB (m_test 3) [x0, .val (strsD ns), x2, x3, x4, .val (.int dr), .val (rulesD rs), .val (.int (k : Int)), x8, x9, x10] =
      some (.nx [x0, .val (strsD ns), x2, x3, x4, .val (.int dr), .val (rulesD (rs ++ [ruleN ns dr k])), .val (.int (k : Int)), .val (.int (drawnN dr (10 + k) / 4)), .val (.tuple ((ruleN ns dr k).2.map Deed.enc)), x10]) := by
  unfold bodyB
  refine seq_step (ρ := [x0, .val (strsD ns), x2, x3, x4, .val (.int dr), .val (rulesD rs), .val (.int (k : Int)), .val (.int (drawnN dr (10 + k) / 4)), x9, x10]) ?_ ?_
  · simp [gv, gb, bnd2_ss, addD_ii, consD_, drawn_eq, cdiv4, asgR_s]
  have hm1 : 0 ≤ drawnN dr (10 + k) / 4 % 3 := Int.emod_nonneg _ (by decide)
  have hm2 : drawnN dr (10 + k) / 4 % 3 < 3 := Int.emod_lt_of_pos _ (by decide)
  refine seq_step (ρ := [x0, .val (strsD ns), x2, x3, x4, .val (.int dr), .val (rulesD rs), .val (.int (k : Int)), .val (.int (drawnN dr (10 + k) / 4)), .val (.tuple ((ruleN ns dr k).2.map Deed.enc)), x10]) ?_ ?_
  · rw [show bnd2 (bnd2 (some (.int 1)) (bnd2 (gb 8 [x0, .val (strsD ns), x2, x3, x4, .val (.int dr), .val (rulesD rs), .val (.int (k : Int)), .val (.int (drawnN dr (10 + k) / 4)), x9, x10]) (some (.int 3)) modD) addD) (some []) consD = some [.int (1 + drawnN dr (10 + k) / 4 % 3)] from by simp [gb, bnd2_ss, modD_ii, addD_ii, consD_]]
    rw [Option.bind_some, rng1 _ (by omega)]
    unfold compL
    rw [Option.bind_some, if_pos (lenOk_ (by simp; omega)), comp_deeds ns h0 h1 (drawnN dr (10 + k) / 4) [] _ (fun i => ⟨rfl, rfl, rfl⟩) 0 _]
    show asgR 9 _ (some (PyData.tuple _)) = _
    rw [asgR_s]
    unfold ruleN
    rw [List.map_map, List.range_eq_range']
    rfl
  · have hd1 : 0 ≤ drawnN dr (10 + k) / 4 / 8 % 3 := Int.emod_nonneg _ (by decide)
    have hd2 : drawnN dr (10 + k) / 4 / 8 % 3 < 3 := Int.emod_lt_of_pos _ (by decide)
    have ht := test_eq 2 (1 + drawnN dr (10 + k) / 4 / 8 % 3).toNat (drawnN dr (10 + k) / 4 / 4) (by omega)
    rw [show (((1 + drawnN dr (10 + k) / 4 / 8 % 3).toNat : Nat) : Int) = 1 + drawnN dr (10 + k) / 4 / 8 % 3 from by omega] at ht
    simp only [gb, gv, bnd2_ss, List.getElem?_cons_succ, List.getElem?_cons_zero, cdiv4, cdiv8, modD_ii _ 3 (by decide), addD_ii, consD_, Option.bind_some]
    rw [ht]
    simp only [bnd2_ss, consD_, Option.bind_some, tupD_ _ (show [_, _].length ≤ 1000 by simp), tupD_ _ (show [_].length ≤ 1000 by simp)]
    unfold rulesD
    rw [addT (by simp; omega), asgR_s]
    simp [ruleN, Rul.enc]
theorem rules_loop (ns : List Str) (h0 : 0 < ns.length) (h1 : ns.length ≤ 1000) (x0 x2 x3 x4 : Sl) (dr : Int) : ∀ (n k : Nat) (rs : List Rul) (x7 x8 x9 x10 : Sl), rs.length + n ≤ 1000 → ∃ x7' x8' x9' x10',
    forD tg1 [7] (bodyB (m_test 3)) ((List.range' k n).map fun (i : Nat) => PyData.int (i : Int)) [x0, .val (strsD ns), x2, x3, x4, .val (.int dr), .val (rulesD rs), x7, x8, x9, x10] =
      some (.nx [x0, .val (strsD ns), x2, x3, x4, .val (.int dr), .val (rulesD (rs ++ (List.range' k n).map (ruleN ns dr))), x7', x8', x9', x10'])
  | 0, k, rs, x7, x8, x9, x10, _ => ⟨x7, x8, x9, x10, by simp [forD]⟩
  | n + 1, k, rs, x7, x8, x9, x10, hl => by
    obtain ⟨a, b, c, d, h⟩ := rules_loop ns h0 h1 x0 x2 x3 x4 dr n (k + 1) (rs ++ [ruleN ns dr k]) (.val (.int (k : Int))) (.val (.int (drawnN dr (10 + k) / 4))) (.val (.tuple ((ruleN ns dr k).2.map Deed.enc))) x10 (by simp; omega)
    refine ⟨a, b, c, d, ?_⟩
    rw [List.range'_succ, List.map_cons, List.map_cons]
    simp only [forD, tg1]
    rw [show setsR [x0, .val (strsD ns), x2, x3, x4, .val (.int dr), .val (rulesD rs), x7, x8, x9, x10] [7] [.int (k : Int)] = [x0, .val (strsD ns), x2, x3, x4, .val (.int dr), .val (rulesD rs), .val (.int (k : Int)), x8, x9, x10] from rfl, rule_step ns h0 h1 x0 x2 x3 x4 x8 x9 x10 dr k rs (by omega)]
    dsimp only
    rw [h]
    simp
theorem many_le (dr : Int) : manyN dr ≤ 4 := by unfold manyN pk6; split <;> (try split) <;> (try split) <;> (try split) <;> (try split) <;> omega
def bodyK (mt : List PyData → Option PyData) : Rho → Option Res := fun ρ =>
  seqR (asgR 5 ρ (bnd2 (((bnd2 (gv 0 ρ) ((bnd2 (gv 3 ρ) (some []) consD)) consD)).bind m_drawn) (some (.int 4)) fdivD)) fun ρ =>
  seqR (asgR 6 ρ ((some []).bind tupD)) fun ρ =>
  seqR (forR (((bnd2 (bnd2 (((bnd2 (some (.int 0)) ((bnd2 (some (.int 1)) ((bnd2 (some (.int 2)) ((bnd2 (some (.int 3)) ((bnd2 (some (.int 4)) ((bnd2 (some (.int 2)) (some []) consD)) consD)) consD)) consD)) consD)) consD)).bind tupD) (bnd2 (gb 5 ρ) (some (.int 6)) modD) ixD) (some []) consD)).bind rng1D) tg1 [7] (bodyB mt) ρ) fun ρ =>
  asgR 2 ρ (bnd2 (gb 2 ρ) (((bnd2 (((bnd2 (gv 4 ρ) ((bnd2 (gv 6 ρ) (some []) consD)) consD)).bind tupD) (some []) consD)).bind tupD) addD)
theorem pk6_int (dr : Int) : pk6 (PyData.int 0) (.int 1) (.int 2) (.int 3) (.int 4) (.int 2) dr = .int (manyN dr : Int) := by
  unfold manyN pk6
  split <;> (try split) <;> (try split) <;> (try split) <;> (try split) <;> rfl
theorem name_step (x : Int) (ns : List Str) (h0 : 0 < ns.length) (h1 : ns.length ≤ 1000) (b : Book) (hb : b.length ≤ 1000) (k : Nat) (n : Str) (x5 x6 x7 x8 x9 x10 : Sl) : ∃ x5' x6' x7' x8' x9' x10',
    bodyK (m_test 3) [.val (.int x), .val (strsD ns), .val b.enc, .val (.int (k : Int)), .val (.str n), x5, x6, x7, x8, x9, x10] = some (.nx [.val (.int x), .val (strsD ns), .val (Book.enc (b ++ [(n, rulesN ns (drawnN x k / 4))])), .val (.int (k : Int)), .val (.str n), x5', x6', x7', x8', x9', x10']) := by
  obtain ⟨a7, a8, a9, a10, h⟩ := rules_loop ns h0 h1 (.val (.int x)) (.val b.enc) (.val (.int (k : Int))) (.val (.str n)) (drawnN x k / 4) (manyN (drawnN x k / 4)) 0 [] x7 x8 x9 x10 (by have := many_le (drawnN x k / 4); simp; omega)
  refine ⟨.val (.int (drawnN x k / 4)), .val (rulesD (rulesN ns (drawnN x k / 4))), a7, a8, a9, a10, ?_⟩
  unfold bodyK
  refine seq_step (ρ := [.val (.int x), .val (strsD ns), .val b.enc, .val (.int (k : Int)), .val (.str n), .val (.int (drawnN x k / 4)), x6, x7, x8, x9, x10]) (by simp [gv, bnd2_ss, consD_, drawn_eq, cdiv4, asgR_s]) ?_
  refine seq_step (ρ := [.val (.int x), .val (strsD ns), .val b.enc, .val (.int (k : Int)), .val (.str n), .val (.int (drawnN x k / 4)), .val (rulesD []), x7, x8, x9, x10]) rfl ?_
  refine seq_step (ρ := [.val (.int x), .val (strsD ns), .val b.enc, .val (.int (k : Int)), .val (.str n), .val (.int (drawnN x k / 4)), .val (rulesD (rulesN ns (drawnN x k / 4))), a7, a8, a9, a10]) ?_ ?_
  · rw [show bnd2 (bnd2 (((bnd2 (some (.int 0)) ((bnd2 (some (.int 1)) ((bnd2 (some (.int 2)) ((bnd2 (some (.int 3)) ((bnd2 (some (.int 4)) ((bnd2 (some (.int 2)) (some []) consD)) consD)) consD)) consD)) consD)) consD)).bind tupD) (bnd2 (gb 5 [.val (.int x), .val (strsD ns), .val b.enc, .val (.int (k : Int)), .val (.str n), .val (.int (drawnN x k / 4)), .val (rulesD []), x7, x8, x9, x10]) (some (.int 6)) modD) ixD) (some []) consD = some [.int (manyN (drawnN x k / 4) : Int)] from by
      simp [gb, bnd2_ss, consD_, tupD_, modD_ii, ixD_t, atI_pk6, pk6_int]]
    rw [Option.bind_some, rng1 _ (by have := many_le (drawnN x k / 4); omega)]
    show forD tg1 [7] (bodyB (m_test 3)) _ _ = _
    rw [show ((manyN (drawnN x k / 4) : Int)).toNat = manyN (drawnN x k / 4) from by omega, h]
    unfold rulesN
    rw [List.range_eq_range']
    rfl
  · simp only [gb, gv, bnd2_ss, List.getElem?_cons_succ, List.getElem?_cons_zero, consD_, Option.bind_some, tupD_ _ (show [_, _].length ≤ 1000 by simp), tupD_ _ (show [_].length ≤ 1000 by simp)]
    unfold Book.enc
    rw [addT (by simp; omega), asgR_s]
    simp
theorem names_loop (x : Int) (ns : List Str) (h0 : 0 < ns.length) (h1 : ns.length ≤ 1000) : ∀ (r : List Str) (k : Nat) (b : Book) (x3 x4 x5 x6 x7 x8 x9 x10 : Sl), b.length + r.length ≤ 1000 → ∃ x3' x4' x5' x6' x7' x8' x9' x10',
    forD (tgT 2 (tgC tg1 (tgC tg1 tgN))) [3, 4] (bodyK (m_test 3)) (enumFrom k (r.map .str)) [.val (.int x), .val (strsD ns), .val b.enc, x3, x4, x5, x6, x7, x8, x9, x10] = some (.nx [.val (.int x), .val (strsD ns), .val (Book.enc (b ++ bookFrom x ns k r)), x3', x4', x5', x6', x7', x8', x9', x10'])
  | [], k, b, x3, x4, x5, x6, x7, x8, x9, x10, _ => ⟨x3, x4, x5, x6, x7, x8, x9, x10, by simp [forD, enumFrom, bookFrom]⟩
  | n :: r, k, b, x3, x4, x5, x6, x7, x8, x9, x10, hl => by
    obtain ⟨a5, a6, a7, a8, a9, a10, h⟩ := name_step x ns h0 h1 b (by simp at hl; omega) k n x5 x6 x7 x8 x9 x10
    obtain ⟨b3, b4, b5, b6, b7, b8, b9, b10, h'⟩ := names_loop x ns h0 h1 r (k + 1) (b ++ [(n, rulesN ns (drawnN x k / 4))]) (.val (.int (k : Int))) (.val (.str n)) a5 a6 a7 a8 a9 a10 (by simp at hl ⊢; omega)
    refine ⟨b3, b4, b5, b6, b7, b8, b9, b10, ?_⟩
    rw [List.map_cons]
    simp only [enumFrom, forD]
    rw [tgT2]
    dsimp only
    rw [show setsR [Sl.val (.int x), .val (strsD ns), .val b.enc, x3, x4, x5, x6, x7, x8, x9, x10] [3, 4] [.int (k : Int), .str n] = [.val (.int x), .val (strsD ns), .val b.enc, .val (.int (k : Int)), .val (.str n), x5, x6, x7, x8, x9, x10] from rfl, h]
    dsimp only
    rw [h']
    simp [bookFrom]
theorem names_enc (x : Int) : pk4 (strsD ["main"]) (strsD ["main", "sub"]) (strsD ["a", "main", "sub"]) (strsD ["a", "main"]) x = strsD (namesN x) := pk4_map strsD _ _ _ _ x
theorem names_pos (x : Int) : 0 < (namesN x).length ∧ (namesN x).length ≤ 3 := by
  unfold namesN pk4
  split <;> (try split) <;> (try split) <;> simp
theorem book_eq (x : Int) : m_book 3 [.int x] = some (bookN x).enc := by
  obtain ⟨h0, h3⟩ := names_pos x
  obtain ⟨b3, b4, b5, b6, b7, b8, b9, b10, h⟩ := names_loop x (namesN x) h0 (by omega) (namesN x) 0 [] .no .no .no .no .no .no .no .no (by simp; omega)
  refine run_step rfl ?_
  unfold fb__law_book
  refine seq_step (ρ := [.val (.int x), .val (strsD (namesN x)), .no, .no, .no, .no, .no, .no, .no, .no, .no]) ?_ ?_
  · rw [← names_enc]
    simp [startR, gb, bnd2_ss, consD_, tupD_, modD_ii, ixD_t, atI_pk4, asgR_s, strsD]
  refine seq_step (ρ := [.val (.int x), .val (strsD (namesN x)), .val (Book.enc []), .no, .no, .no, .no, .no, .no, .no, .no]) rfl ?_
  refine seq_step (ρ := [.val (.int x), .val (strsD (namesN x)), .val (bookN x).enc, b3, b4, b5, b6, b7, b8, b9, b10]) ?_ rfl
  exact h
end Sv

/-! Drawn books are books of a small stock of names. -/
namespace Sv
open PySem L2 Evl
def baseUs : List Str := ["main", "sub", "a", "in", "old", "x", "m", "red", "z"]
structure Uni.Big (U : Uni) : Prop where
  us : ∀ n ∈ baseUs, n ∈ U.us
  ps : ∀ n ∈ (["main", "sub", "a"] : List Str), ∀ j, j < 5 → (n, j) ∈ U.ps
theorem pk4_cases {α : Type} {P : α → Prop} {a b c d : α} (ha : P a) (hb : P b) (hc : P c) (hd : P d) (n : Int) : P (pk4 a b c d n) := by unfold pk4; split <;> (try split) <;> (try split) <;> assumption
theorem pk2_cases {α : Type} {P : α → Prop} {a b : α} (ha : P a) (hb : P b) (n : Int) : P (pk2 a b n) := by unfold pk2; split <;> assumption
theorem nameN_mem (x : Int) : nameN x ∈ baseUs := pk4_cases (P := fun n : Str => n ∈ baseUs) (by simp [baseUs]) (by simp [baseUs]) (by simp [baseUs]) (by simp [baseUs]) _
theorem mkN_mem (x : Int) : pk2 ("m" : Str) "red" x ∈ baseUs := pk2_cases (P := fun n : Str => n ∈ baseUs) (by simp [baseUs]) (by simp [baseUs]) _
theorem names_mem (x : Int) : ∀ n ∈ namesN x, n ∈ (["main", "sub", "a"] : List Str) := pk4_cases (P := fun ns : List Str => ∀ n ∈ ns, n ∈ (["main", "sub", "a"] : List Str)) (by simp) (by simp) (by simp) (by simp) x
theorem three_mem : ∀ n ∈ (["main", "sub", "a"] : List Str), n ∈ baseUs := by simp [baseUs]
theorem names_nodup (x : Int) : (namesN x).Nodup := pk4_cases (P := fun ns : List Str => ns.Nodup) (by decide) (by decide) (by decide) (by decide) x
theorem main_mem (x : Int) : ("main" : Str) ∈ namesN x := pk4_cases (P := fun ns : List Str => ("main" : Str) ∈ ns) (by simp) (by simp) (by simp) (by simp) x
theorem getD_mem {ns : List Str} (h : 0 < ns.length) (n : Int) (d : Str) : ns.getD (n % ns.length).toNat d ∈ ns := by
  have h1 : 0 ≤ n % (ns.length : Int) := Int.emod_nonneg _ (by omega)
  have h2 : n % (ns.length : Int) < ns.length := Int.emod_lt_of_pos _ (by omega)
  have h3 : (n % (ns.length : Int)).toNat < ns.length := by omega
  rw [List.getD_eq_getElem?_getD, List.getElem?_eq_getElem h3]
  exact List.getElem_mem h3
theorem deed_of {U : Uni} (hU : U.Big) {b : Book} {ns : List Str} (h0 : 0 < ns.length) (hb : b.names = ns) (hn : ∀ n ∈ ns, n ∈ baseUs) (x : Int) : (deedN x ns).Of U b := by
  have hg := getD_mem h0 (x / 16) "main"
  unfold deedN
  split
  · exact ⟨by simp [Deed.nm], by simp⟩
  split
  · exact ⟨by simp [Deed.nm], by simp⟩
  split
  · refine ⟨fun n h => ?_, fun n h => ?_⟩
    · rw [List.mem_singleton.mp h]; exact hU.us _ (hn _ hg)
    · cases h; rw [hb]; exact hg
  split
  · split
    · exact ⟨fun n h => by rw [List.mem_singleton.mp h]; exact hU.us _ (mkN_mem _), by simp⟩
    · exact ⟨fun n h => by rw [List.mem_singleton.mp h]; exact hU.us _ (mkN_mem _), by simp⟩
  split
  · exact ⟨fun n h => by rw [List.mem_singleton.mp h]; exact hU.us _ (nameN_mem _), by simp⟩
  split
  · exact ⟨fun n h => by rw [List.mem_singleton.mp h]; exact hU.us _ (nameN_mem _), by simp⟩
  split
  · exact ⟨fun n h => by rw [List.mem_singleton.mp h]; exact hU.us _ (nameN_mem _), by simp⟩
  split
  · exact ⟨fun n h => by rw [List.mem_singleton.mp h]; exact hU.us _ (nameN_mem _), by simp⟩
  · exact ⟨fun n h => by rw [List.mem_singleton.mp h]; exact hU.us _ (nameN_mem _), by simp⟩
theorem rule_of {U : Uni} (hU : U.Big) {b : Book} {ns : List Str} (h0 : 0 < ns.length) (hb : b.names = ns) (hn : ∀ n ∈ ns, n ∈ baseUs) (dr : Int) (j : Nat) : (ruleN ns dr j).Of U b 3 := by
  have hd1 : 0 ≤ drawnN dr (10 + j) / 4 / 8 % 3 := Int.emod_nonneg _ (by decide)
  have hd2 : drawnN dr (10 + j) / 4 / 8 % 3 < 3 := Int.emod_lt_of_pos _ (by decide)
  have hm1 : 0 ≤ drawnN dr (10 + j) / 4 % 3 := Int.emod_nonneg _ (by decide)
  have hm2 : drawnN dr (10 + j) / 4 % 3 < 3 := Int.emod_lt_of_pos _ (by decide)
  refine ⟨?_, test_ok _ _, fun d hd => ?_, ?_⟩
  · have := test_dep (1 + drawnN dr (10 + j) / 4 / 8 % 3).toNat (drawnN dr (10 + j) / 4 / 4)
    show (testN _ _).dep ≤ 3
    omega
  · obtain ⟨i, _, rfl⟩ := List.mem_map.mp hd
    exact deed_of hU h0 hb hn _
  · show ((List.range _).map _).length ≤ 1000
    rw [List.length_map, List.length_range]; omega
theorem from_names (x : Int) (ns : List Str) : ∀ (r : List Str) (k : Nat), (bookFrom x ns k r).names = r
  | [], k => rfl
  | n :: r, k => by
    show n :: (bookFrom x ns (k + 1) r).names = _
    rw [from_names x ns r]
theorem book_names (x : Int) : (bookN x).names = namesN x := from_names x _ _ 0
theorem from_mem (x : Int) (ns : List Str) : ∀ (r : List Str) (k : Nat) (p : Str × List Rul), p ∈ bookFrom x ns k r → p.1 ∈ r ∧ ∃ dr, p.2 = rulesN ns dr
  | [], k, p, h => nomatch h
  | n :: r, k, p, h => by
    rcases List.mem_cons.mp h with rfl | h
    · exact ⟨List.mem_cons_self, _, rfl⟩
    · obtain ⟨h1, h2⟩ := from_mem x ns r (k + 1) p h
      exact ⟨List.mem_cons_of_mem _ h1, h2⟩
theorem book_len (x : Int) : (bookN x).length ≤ 3 := by
  have := congrArg List.length (book_names x)
  unfold Book.names at this
  rw [List.length_map] at this
  have := (names_pos x).2
  omega
theorem book_of {U : Uni} (hU : U.Big) (x : Int) : (bookN x).Of U 3 := by
  have hn : ∀ n ∈ namesN x, n ∈ baseUs := fun n h => three_mem n (names_mem x n h)
  refine ⟨by rw [book_names]; exact names_nodup x, fun n h => ?_, fun p hp r hr => ?_, fun p hp j hj => ?_, fun p hp => ?_, by have := book_len x; omega⟩
  · rw [book_names] at h; exact hU.us n (hn n h)
  · obtain ⟨h1, dr, h2⟩ := from_mem x _ _ _ p hp
    rw [h2] at hr
    obtain ⟨i, _, rfl⟩ := List.mem_map.mp hr
    exact rule_of hU (names_pos x).1 (book_names x) hn dr i
  · obtain ⟨h1, dr, h2⟩ := from_mem x _ _ _ p hp
    have := many_le dr
    rw [h2] at hj
    unfold rulesN at hj
    rw [List.length_map, List.length_range] at hj
    exact hU.ps p.1 (names_mem x _ h1) j (by omega)
  · obtain ⟨h1, dr, h2⟩ := from_mem x _ _ _ p hp
    have := many_le dr
    rw [h2]
    unfold rulesN
    rw [List.length_map, List.length_range]
    omega
theorem marks_few {U : Uni} (hU : U.Big) (x : Int) : Few U.us (letterN x).marks := by
  have hm : ("m" : Str) ∈ U.us := hU.us _ (by simp [baseUs])
  have hr : ("red" : Str) ∈ U.us := hU.us _ (by simp [baseUs])
  have hz : ("z" : Str) ∈ U.us := hU.us _ (by simp [baseUs])
  have e1 : ¬ ("m" : Str) = "red" := by decide
  have e2 : ¬ ("m" : Str) = "z" := by decide
  have e3 : ¬ ("red" : Str) = "z" := by decide
  show Few U.us (marksN x)
  unfold marksN
  constructor
  · split <;> split <;> split <;> simp [e1, e2, e3]
  · intro n
    split <;> split <;> split <;> simp <;> (try intro h) <;> (try (rcases h with h | h)) <;> (try (rcases h with h | h)) <;> simp_all
def uniA : Uni := ⟨baseUs ++ (["zz", "no", "zed", "ann", "q"] : List Str), (["main", "sub", "a", "zz"] : List Str).flatMap fun n => (List.range 8).map fun j => (n, j)⟩
theorem uniA_ok : uniA.Ok := ⟨by decide, by decide, by decide +kernel⟩
theorem uniA_big : uniA.Big := ⟨fun n h => List.mem_append_left _ h, fun n h j hj => List.mem_flatMap.mpr ⟨n, by revert h; simp; intro h; rcases h with h | h | h <;> simp [h], List.mem_map.mpr ⟨j, List.mem_range.mpr (by omega), rfl⟩⟩⟩
end Sv

/-! Plain facts of runs. -/
namespace Sv
open PySem L2 Evl
/-! ### rules that call nothing -/
def noCallD (ds : List Deed) : Prop := ∀ d ∈ ds, ∀ n, d ≠ .call n
def noCall (rs : List Rul) : Prop := ∀ r ∈ rs, noCallD r.2
theorem doF_nc {wk wk' : Str → RSt → RSt} {d : Deed} (h : ∀ n, d ≠ .call n) (s : RSt) : doF wk d s = doF wk' d s := by
  cases d with
  | call n => exact (h n rfl).elim
  | drop => rfl
  | stop => rfl
  | lay n => rfl
  | send n => rfl
  | ans n => rfl
  | mark n => rfl
  | unmark n => rfl
theorem deedsF_nc {wk wk' : Str → RSt → RSt} : ∀ {ds : List Deed}, noCallD ds → ∀ s : RSt, deedsF wk ds s = deedsF wk' ds s
  | [], _, s => rfl
  | d :: ds, h, s => by
    simp only [deedsF]
    rw [doF_nc (wk' := wk') (h d List.mem_cons_self) s]
    exact deedsF_nc (fun e he => h e (List.mem_cons_of_mem _ he)) _
theorem rulesF_nc {wk wk' : Str → RSt → RSt} {l : Ltr} {name : Str} : ∀ {rs : List Rul}, noCall rs → ∀ (k : Nat) (s : RSt), rulesF wk l name k rs s = rulesF wk' l name k rs s
  | [], _, k, s => rfl
  | r :: rs, h, k, s => by
    simp only [rulesF]
    rw [deedsF_nc (wk' := wk') (h r List.mem_cons_self)]
    exact rulesF_nc (fun e he => h e (List.mem_cons_of_mem _ he)) _ _
theorem walk_nc {b b' : Book} {l : Ltr} {n n' : Nat} {name : Str} {s : RSt} (h : noCall (b.get name)) (he : b'.get name = b.get name) : walkF b' l (n' + 1) name s = walkF b l (n + 1) name s := by
  simp only [walkF, he]
  rw [rulesF_nc (wk' := walkF b l n) h]
/-! ### runs that differ in what is begun alone -/
def RSt.nb (s : RSt) : RSt := { s with begun := [] }
def Sim (wk wk' : Str → RSt → RSt) (ns : List Str) : Prop := ∀ n ∈ ns, ∀ s s', s.nb = s'.nb → (wk n s).nb = (wk' n s').nb
theorem nb_eq {s s' : RSt} (h : s.nb = s'.nb) : s.marks = s'.marks ∧ s.lay = s'.lay ∧ s.send = s'.send ∧ s.ans = s'.ans ∧ s.drop = s'.drop ∧ s.over = s'.over ∧ s.within = s'.within ∧ s.went = s'.went := by
  cases s; cases s'
  simp only [RSt.nb, RSt.mk.injEq] at h
  simp [h]
theorem nb_of {s s' : RSt} (h : s.marks = s'.marks ∧ s.lay = s'.lay ∧ s.send = s'.send ∧ s.ans = s'.ans ∧ s.drop = s'.drop ∧ s.over = s'.over ∧ s.within = s'.within ∧ s.went = s'.went) : s.nb = s'.nb := by
  cases s; cases s'
  simp only [RSt.nb, RSt.mk.injEq]
  simpa using h
def callsIn (ns : List Str) (ds : List Deed) : Prop := ∀ n, Deed.call n ∈ ds → n ∈ ns
theorem doF_sim {wk wk' : Str → RSt → RSt} {ns : List Str} (hw : Sim wk wk' ns) {d : Deed} (hd : ∀ n, d = .call n → n ∈ ns) {s s' : RSt} (h : s.nb = s'.nb) : (doF wk d s).nb = (doF wk' d s').nb := by
  obtain ⟨h1, h2, h3, h4, h5, h6, h7, h8⟩ := nb_eq h
  cases d with
  | call n => exact hw n (hd n rfl) s s' h
  | drop => exact nb_of ⟨h1, h2, h3, h4, rfl, h6, h7, h8⟩
  | stop => exact nb_of ⟨h1, h2, h3, h4, h5, rfl, h7, h8⟩
  | lay n => exact nb_of ⟨h1, by simp only [doF, h2], h3, h4, h5, h6, h7, h8⟩
  | send n => exact nb_of ⟨h1, h2, by simp only [doF, h3], h4, h5, h6, h7, h8⟩
  | ans n => exact nb_of ⟨h1, h2, h3, by simp only [doF, h4], h5, h6, h7, h8⟩
  | mark n => exact nb_of ⟨by simp only [doF, h1], h2, h3, h4, h5, h6, h7, h8⟩
  | unmark n => exact nb_of ⟨by simp only [doF, h1], h2, h3, h4, h5, h6, h7, h8⟩
theorem deedsF_sim {wk wk' : Str → RSt → RSt} {ns : List Str} (hw : Sim wk wk' ns) : ∀ {ds : List Deed}, callsIn ns ds → ∀ {s s' : RSt}, s.nb = s'.nb → (deedsF wk ds s).nb = (deedsF wk' ds s').nb
  | [], _, s, s', h => h
  | d :: ds, hc, s, s', h => by
    simp only [deedsF]
    refine deedsF_sim hw (fun n hn => hc n (List.mem_cons_of_mem _ hn)) ?_
    have ho := (nb_eq h).2.2.2.2.2.1
    rw [ho]
    split
    · exact h
    · exact doF_sim hw (fun n hn => hc n (by rw [hn]; exact List.mem_cons_self)) h
theorem rulesF_sim {wk wk' : Str → RSt → RSt} {ns : List Str} (hw : Sim wk wk' ns) {l : Ltr} {nm nm' : Str} : ∀ {rs : List Rul}, (∀ r ∈ rs, callsIn ns r.2) → ∀ (k k' : Nat) {s s' : RSt}, s.nb = s'.nb → (rulesF wk l nm k rs s).nb = (rulesF wk' l nm' k' rs s').nb
  | [], _, k, k', s, s', h => h
  | r :: rs, hc, k, k', s, s', h => by
    simp only [rulesF]
    refine rulesF_sim hw (fun e he => hc e (List.mem_cons_of_mem _ he)) (k + 1) (k' + 1) ?_
    obtain ⟨h1, h2, h3, h4, h5, h6, h7, h8⟩ := nb_eq h
    rw [h6, h1]
    split
    · exact deedsF_sim hw (hc r List.mem_cons_self) (nb_of ⟨rfl, h2, h3, h4, h5, rfl, h7, h8⟩)
    · exact h
/-- rules that never hold, put first -/
theorem walk_idle {b b' : Book} {l : Ltr} {ns : List Str} {idle : Rul} (hi : ∀ ms, hold idle.1 l ms = false) (hg : ∀ n ∈ ns, b'.get n = idle :: b.get n) (hc : ∀ n ∈ ns, ∀ r ∈ b.get n, callsIn ns r.2) : ∀ n, Sim (walkF b l n) (walkF b' l n) ns
  | 0 => fun m _ s s' h => h
  | n + 1 => fun m hm s s' h => by
    obtain ⟨h1, h2, h3, h4, h5, h6, h7, h8⟩ := nb_eq h
    simp only [walkF, hg m hm, h7]
    split
    · exact h
    · have hskip : ∀ (wk : Str → RSt → RSt) (k : Nat) (rs : List Rul) (t : RSt), rulesF wk l m k (idle :: rs) t = rulesF wk l m (k + 1) rs t := fun wk k rs t => by
        simp only [rulesF, hi, Bool.and_false]
        rfl
      rw [hskip]
      have hr := rulesF_sim (walk_idle hi hg hc n) (l := l) (nm := m) (nm' := m) (rs := b.get m) (hc m hm) 0 1 (s := { s with went := putL m s.went, within := s'.within ++ [m] }) (s' := { s' with went := putL m s'.went, within := s'.within ++ [m] }) (nb_of ⟨h1, h2, h3, h4, h5, h6, rfl, by simp only [h8]⟩)
      obtain ⟨g1, g2, g3, g4, g5, g6, g7, g8⟩ := nb_eq hr
      exact nb_of ⟨g1, g2, g3, g4, g5, g6, by simp only [g7], g8⟩
/-! ### a letter that is dropped was dropped by a rule -/
def ruleAt (b : Book) (p : Str × Nat) : Option Rul := (b.get p.1)[p.2]?
/-- the state's begun rules are the book's, and have dropped it if it is dropped -/
structure Drp (b : Book) (s : RSt) : Prop where
  drop : s.drop = true → ∃ p ∈ s.begun, ∃ r, ruleAt b p = some r ∧ Deed.drop ∈ r.2
def Grows (wk : Str → RSt → RSt) : Prop := ∀ n s, ∀ p ∈ s.begun, p ∈ (wk n s).begun
theorem putL_mem {α : Type} [DecidableEq α] {x : α} {xs : List α} : x ∈ putL x xs := by
  unfold putL; split
  · assumption
  · simp
theorem putL_sub {α : Type} [DecidableEq α] {x y : α} {xs : List α} (h : y ∈ xs) : y ∈ putL x xs := by
  unfold putL; split
  · exact h
  · exact List.mem_append_left _ h
theorem doF_grows {wk : Str → RSt → RSt} (hw : Grows wk) (d : Deed) (s : RSt) : ∀ p ∈ s.begun, p ∈ (doF wk d s).begun := fun p hp => by
  cases d with
  | call n => exact hw n s p hp
  | drop => exact hp
  | stop => exact hp
  | lay n => exact hp
  | send n => exact hp
  | ans n => exact hp
  | mark n => exact hp
  | unmark n => exact hp
theorem deedsF_grows {wk : Str → RSt → RSt} (hw : Grows wk) : ∀ (ds : List Deed) (s : RSt), ∀ p ∈ s.begun, p ∈ (deedsF wk ds s).begun
  | [], s, p, hp => hp
  | d :: ds, s, p, hp => by
    simp only [deedsF]
    refine deedsF_grows hw ds _ p ?_
    split
    · exact hp
    · exact doF_grows hw d s p hp
theorem rulesF_grows {wk : Str → RSt → RSt} (hw : Grows wk) {l : Ltr} {nm : Str} : ∀ (rs : List Rul) (k : Nat) (s : RSt), ∀ p ∈ s.begun, p ∈ (rulesF wk l nm k rs s).begun
  | [], k, s, p, hp => hp
  | r :: rs, k, s, p, hp => by
    simp only [rulesF]
    refine rulesF_grows hw rs _ _ p ?_
    split
    · exact deedsF_grows hw r.2 _ p (putL_sub hp)
    · exact hp
theorem walkF_grows (b : Book) (l : Ltr) : ∀ n, Grows (walkF b l n)
  | 0 => fun _ _ p hp => hp
  | n + 1 => fun m s p hp => by
    simp only [walkF]
    split
    · exact hp
    · exact rulesF_grows (walkF_grows b l n) _ _ _ p hp
theorem deedsF_drp {b : Book} {wk : Str → RSt → RSt} (hg : Grows wk) (hw : ∀ n s, Drp b s → Drp b (wk n s)) {p : Str × Nat} {r : Rul} (hr : ruleAt b p = some r) : ∀ (ds : List Deed) (s : RSt), (∀ d ∈ ds, d ∈ r.2) → p ∈ s.begun → Drp b s → Drp b (deedsF wk ds s)
  | [], s, _, _, h => h
  | d :: ds, s, hd, hp, h => by
    simp only [deedsF]
    have h1 : Drp b (if s.over then s else doF wk d s) := by
      split
      · exact h
      · cases d with
        | call n => exact hw n s h
        | drop => exact ⟨fun _ => ⟨p, hp, r, hr, hd _ List.mem_cons_self⟩⟩
        | stop => exact ⟨h.drop⟩
        | lay n => exact ⟨h.drop⟩
        | send n => exact ⟨h.drop⟩
        | ans n => exact ⟨h.drop⟩
        | mark n => exact ⟨h.drop⟩
        | unmark n => exact ⟨h.drop⟩
    have h2 : p ∈ (if s.over then s else doF wk d s).begun := by
      split
      · exact hp
      · exact doF_grows hg d s p hp
    exact deedsF_drp hg hw hr ds _ (fun e he => hd e (List.mem_cons_of_mem _ he)) h2 h1
theorem rulesF_drp {b : Book} {wk : Str → RSt → RSt} (hg : Grows wk) (hw : ∀ n s, Drp b s → Drp b (wk n s)) {l : Ltr} {nm : Str} : ∀ (rs : List Rul) (k : Nat) (s : RSt), (∀ j r, rs[j]? = some r → ruleAt b (nm, k + j) = some r) → Drp b s → Drp b (rulesF wk l nm k rs s)
  | [], k, s, _, h => h
  | r :: rs, k, s, hr, h => by
    simp only [rulesF]
    refine rulesF_drp hg hw rs (k + 1) _ (fun j q hq => ?_) ?_
    · have := hr (j + 1) q (by simpa using hq)
      rw [show k + 1 + j = k + (j + 1) from by omega]
      exact this
    · split
      · exact deedsF_drp hg hw (p := (nm, k)) (hr 0 r rfl) r.2 _ (fun d hd => hd) putL_mem ⟨fun hdr => by
          obtain ⟨p, hp, x⟩ := h.drop hdr
          exact ⟨p, putL_sub hp, x⟩⟩
      · exact h
theorem walkF_drp (b : Book) (l : Ltr) : ∀ n m s, Drp b s → Drp b (walkF b l n m s)
  | 0, m, s, h => h
  | n + 1, m, s, h => by
    simp only [walkF]
    split
    · exact h
    · exact ⟨(rulesF_drp (walkF_grows b l n) (walkF_drp b l n) (b.get m) 0 { s with went := putL m s.went, within := s.within ++ [m] } (fun j r hj => by rw [Nat.zero_add]; exact hj) ⟨h.drop⟩).drop⟩
theorem runF_drop (b : Book) (l : Ltr) (n : Nat) (hl : (runF n b l).lay = []) (hs : (runF n b l).send = []) : ∃ p ∈ (runF n b l).begun, ∃ r, ruleAt b p = some r ∧ Deed.drop ∈ r.2 := by
  have hd := walkF_drp b l n "main" (start0 l) ⟨fun h => by cases h⟩
  unfold runF finish at hl hs ⊢
  split at hl
  · rename_i hc
    rw [if_pos hc] at hs ⊢
    simp at hl
  · rename_i hc
    rw [if_neg hc] at hs ⊢
    refine hd.drop ?_
    rw [hl, hs] at hc
    simpa using hc
end Sv

/-! Evaluating residues by simp. -/
namespace Sv
open PySem L2 Evl
theorem seqR_cg {a a' : Option Res} {g : Rho → Option Res} (h : a = a') : seqR a g = seqR a' g := by rw [h]
theorem ifR_cg {c c' : Option Bool} {a b : Option Res} (h : c = c') : ifR c a b = ifR c' a b := by rw [h]
theorem andB_cg {c c' a : Option Bool} (h : c = c') : andB c a = andB c' a := by rw [h]
theorem orB_cg {c c' a : Option Bool} (h : c = c') : orB c a = orB c' a := by rw [h]
theorem andV_cg {c c' a : Option PyData} (h : c = c') : andV c a = andV c' a := by rw [h]
theorem orV_cg {c c' a : Option PyData} (h : c = c') : orV c a = orV c' a := by rw [h]
theorem forR_cg {o o' : Option (List PyData)} {h : PyData → Option (List PyData)} {is : List Nat} {b : Rho → Option Res} {ρ ρ' : Rho} (e : o = o') (e2 : ρ = ρ') : forR o h is b ρ = forR o' h is b ρ' := by rw [e, e2]
theorem compL_cg {o o' : Option (List PyData)} {h : PyData → Option (List PyData)} {is vs : List Nat} {ft : Rho → Option Bool} {fe : Rho → Option PyData} {ρ ρ' : Rho} (e : o = o') (e2 : ρ = ρ') : compL o h is ft fe vs ρ = compL o' h is ft fe vs ρ' := by rw [e, e2]
theorem compR_cg {o o' : Option (List PyData)} {h : PyData → Option (List PyData)} {is vs : List Nat} {ft : Rho → Option Bool} {fe : Rho → Option PyData} {ρ ρ' : Rho} (e : o = o') (e2 : ρ = ρ') : compR o h is ft fe vs ρ = compR o' h is ft fe vs ρ' := by rw [e, e2]
theorem andB_t (a : Option Bool) : andB (some true) a = a := by cases a with | none => rfl | some b => cases b <;> rfl
theorem andB_f (a : Option Bool) : andB (some false) a = some false := rfl
theorem orB_t (a : Option Bool) : orB (some true) a = some true := rfl
theorem orB_f (a : Option Bool) : orB (some false) a = a := by cases a with | none => rfl | some b => cases b <;> rfl
theorem andB_ss (a b : Bool) : andB (some a) (some b) = some (a && b) := by cases a <;> cases b <;> rfl
theorem orB_ss (a b : Bool) : orB (some a) (some b) = some (a || b) := by cases a <;> cases b <;> rfl
theorem notV_b (b : Bool) : notV (some (.bool b)) = some (.bool (!b)) := rfl
theorem gv_0 (d : PyData) (r : Rho) : gv 0 (.val d :: r) = some d := rfl
theorem gv_s (i : Nat) (s : Sl) (r : Rho) : gv (i + 1) (s :: r) = gv i r := rfl
theorem gb_0 (d : PyData) (r : Rho) : gb 0 (.val d :: r) = some d := rfl
theorem gb_s (i : Nat) (s : Sl) (r : Rho) : gb (i + 1) (s :: r) = gb i r := rfl
theorem scr_0 (ns : List Int) (r : Rho) : scrOf 0 (.scr ns :: r) = some ns := rfl
theorem mixR_ (ns : List Int) (k : Int) (h : 0 ≤ k) : mixR ns k = some (.int (mixN ns k)) := by unfold mixR; rw [if_pos h]
theorem setsR_nil (ρ : Rho) (ds : List PyData) : setsR ρ [] ds = ρ := rfl
theorem setsR_cons (ρ : Rho) (i : Nat) (is : List Nat) (d : PyData) (ds : List PyData) : setsR ρ (i :: is) (d :: ds) = setsR (ρ.set i (.val d)) is ds := rfl
theorem tg1_ (d : PyData) : tg1 d = some [d] := rfl
theorem tgT_1 (a : PyData) : tgT 1 (tgC tg1 tgN) (.tuple [a]) = some [a] := rfl
theorem tgT_2 (a b : PyData) : tgT 2 (tgC tg1 (tgC tg1 tgN)) (.tuple [a, b]) = some [a, b] := rfl
theorem tgT_4 (a b c d : PyData) : tgT 4 (tgC tg1 (tgC tg1 (tgC tg1 (tgC tg1 tgN)))) (.tuple [a, b, c, d]) = some [a, b, c, d] := rfl
theorem asgG_s (is : List Nat) (h : PyData → Option (List PyData)) (ρ : Rho) (d : PyData) (es : List PyData) (e : h d = some es) : asgG is h ρ (some d) = some (.nx (setsR ρ is es)) := by
  show ((h d).map fun es => Res.nx (setsR ρ is es)) = _
  rw [e]; rfl
theorem walkD_t (ds : List PyData) : walkD (.tuple ds) = some ds := rfl
theorem walkD_l (ds : List PyData) : walkD (.list ds) = some ds := rfl
theorem tupleD_l (ds : List PyData) : tupleD (.list ds) = some (.tuple ds) := rfl
theorem tupleD_t (ds : List PyData) : tupleD (.tuple ds) = some (.tuple ds) := rfl
theorem listD_l (ds : List PyData) : listD (.list ds) = some (.list ds) := rfl
theorem listD_t (ds : List PyData) : listD (.tuple ds) = some (.list ds) := rfl
theorem lenD_t (ds : List PyData) : lenD (.tuple ds) = some (.int ds.length) := rfl
theorem lenD_l (ds : List PyData) : lenD (.list ds) = some (.int ds.length) := rfl
theorem wipeR_nil (ρ : Rho) : wipeR ρ [] = ρ := rfl
theorem wipeR_cons (ρ : Rho) (v : Nat) (vs : List Nat) : wipeR ρ (v :: vs) = (wipeR ρ vs).set v .no := rfl
/-- a comprehension over what encodes a list -/
theorem compD_gen {α : Type} (enc : α → PyData) {h : PyData → Option (List PyData)} {is : List Nat} {ft : Rho → Option Bool} {fe : Rho → Option PyData} {ρ : Rho} (es : α → List PyData) (p : α → Bool) (g : α → PyData) :
    ∀ xs : List α, (∀ x ∈ xs, h (enc x) = some (es x)) → (∀ x ∈ xs, ft (setsR ρ is (es x)) = some (p x)) → (∀ x ∈ xs, p x = true → fe (setsR ρ is (es x)) = some (g x)) → compD h is ft fe ρ (xs.map enc) = some ((xs.filter p).map g)
  | [], _, _, _ => rfl
  | x :: xs, h1, h2, h3 => by
    have ih := compD_gen enc es p g xs (fun y hy => h1 y (List.mem_cons_of_mem _ hy)) (fun y hy => h2 y (List.mem_cons_of_mem _ hy)) (fun y hy => h3 y (List.mem_cons_of_mem _ hy))
    have a1 := h1 x List.mem_cons_self
    have a2 := h2 x List.mem_cons_self
    have a3 := h3 x List.mem_cons_self
    simp only [List.map_cons, compD, a1, a2, ih]
    cases hp : p x with
    | false => simp [hp]
    | true => simp only [a3 hp, List.filter_cons, hp, if_true, List.map_cons]
theorem compL_gen {α : Type} (enc : α → PyData) {h : PyData → Option (List PyData)} {is vs : List Nat} {ft : Rho → Option Bool} {fe : Rho → Option PyData} {ρ : Rho} (es : α → List PyData) (p : α → Bool) (g : α → PyData)
    (xs : List α) (hl : xs.length ≤ 1000) (h1 : ∀ x ∈ xs, h (enc x) = some (es x)) (h2 : ∀ x ∈ xs, ft (setsR (wipeR ρ vs) is (es x)) = some (p x)) (h3 : ∀ x ∈ xs, p x = true → fe (setsR (wipeR ρ vs) is (es x)) = some (g x)) : compL (some (xs.map enc)) h is ft fe vs ρ = some (.list ((xs.filter p).map g)) := by
  unfold compL
  simp only [Option.bind_some, List.length_map, lenOk_ hl, if_true, compD_gen enc es p g xs h1 h2 h3, Option.map_some]
/-- the same, without a test -/
theorem compL_map {α : Type} (enc : α → PyData) {h : PyData → Option (List PyData)} {is vs : List Nat} {fe : Rho → Option PyData} {ρ : Rho} (es : α → List PyData) (g : α → PyData)
    (xs : List α) (hl : xs.length ≤ 1000) (h1 : ∀ x ∈ xs, h (enc x) = some (es x)) (h3 : ∀ x ∈ xs, fe (setsR (wipeR ρ vs) is (es x)) = some (g x)) : compL (some (xs.map enc)) h is (fun _ => some true) fe vs ρ = some (.list (xs.map g)) := by
  rw [compL_gen enc es (fun _ => true) g xs hl h1 (fun _ _ => rfl) (fun x hx _ => h3 x hx), List.filter_eq_self.mpr (fun _ _ => rfl)]
/-- a loop that goes through -/
theorem forD_gen {α σ : Type} (enc : α → PyData) {h : PyData → Option (List PyData)} {is : List Nat} {body : Rho → Option Res} (es : α → List PyData) (R : σ → Rho → Prop) (step : σ → α → σ) :
    ∀ (xs : List α) (s : σ) (ρ : Rho), (∀ x ∈ xs, h (enc x) = some (es x)) → (∀ x ∈ xs, ∀ s ρ, R s ρ → ∃ ρ', body (setsR ρ is (es x)) = some (.nx ρ') ∧ R (step s x) ρ') → R s ρ → ∃ ρ', forD h is body (xs.map enc) ρ = some (.nx ρ') ∧ R (xs.foldl step s) ρ'
  | [], s, ρ, _, _, hR => ⟨ρ, rfl, hR⟩
  | x :: xs, s, ρ, h1, h2, hR => by
    obtain ⟨ρ1, e1, r1⟩ := h2 x List.mem_cons_self s ρ hR
    obtain ⟨ρ2, e2, r2⟩ := forD_gen enc es R step xs (step s x) ρ1 (fun y hy => h1 y (List.mem_cons_of_mem _ hy)) (fun y hy => h2 y (List.mem_cons_of_mem _ hy)) r1
    refine ⟨ρ2, ?_, r2⟩
    simp only [List.map_cons, forD, h1 x List.mem_cons_self, e1]
    exact e2
theorem forR_gen {α σ : Type} (enc : α → PyData) {h : PyData → Option (List PyData)} {is : List Nat} {body : Rho → Option Res} (es : α → List PyData) (R : σ → Rho → Prop) (step : σ → α → σ)
    (xs : List α) (s : σ) (ρ : Rho) (h1 : ∀ x ∈ xs, h (enc x) = some (es x)) (h2 : ∀ x ∈ xs, ∀ s ρ, R s ρ → ∃ ρ', body (setsR ρ is (es x)) = some (.nx ρ') ∧ R (step s x) ρ') (hR : R s ρ) : ∃ ρ', forR (some (xs.map enc)) h is body ρ = some (.nx ρ') ∧ R (xs.foldl step s) ρ' :=
  forD_gen enc es R step xs s ρ h1 h2 hR
/-- the same for one that keeps all but scratch -/
theorem forR_keep {α : Type} (enc : α → PyData) {h : PyData → Option (List PyData)} {is : List Nat} {body : Rho → Option Res} (es : α → List PyData) (R : Rho → Prop)
    (xs : List α) (ρ : Rho) (h1 : ∀ x ∈ xs, h (enc x) = some (es x)) (h2 : ∀ x ∈ xs, ∀ ρ, R ρ → ∃ ρ', body (setsR ρ is (es x)) = some (.nx ρ') ∧ R ρ') (hR : R ρ) : ∃ ρ', forR (some (xs.map enc)) h is body ρ = some (.nx ρ') ∧ R ρ' := by
  obtain ⟨ρ', e, r⟩ := forR_gen (σ := Unit) enc es (fun _ => R) (fun s _ => s) xs () ρ h1 (fun x hx _ ρ => h2 x hx ρ) hR
  exact ⟨ρ', e, r⟩
theorem seq_for {a : Option Res} {g : Rho → Option Res} {r : Option PyData} {R : Rho → Prop} (h : ∃ ρ', a = some (.nx ρ') ∧ R ρ') (h2 : ∀ ρ', R ρ' → retD (g ρ') = r) : retD (seqR a g) = r := by
  obtain ⟨ρ', e, hr⟩ := h
  rw [e]; exact h2 ρ' hr
theorem rng1_map (n : Nat) (h : n ≤ 1000) : rng1D [.int (n : Int)] = some ((List.range n).map fun (i : Nat) => PyData.int (i : Int)) := by
  rw [rng1 _ (by omega), Int.toNat_natCast, List.range_eq_range']
theorem rng1_n (n : Int) (h : 0 ≤ n ∧ n ≤ 1000) : rng1D [.int n] = some ((List.range n.toNat).map fun (i : Nat) => PyData.int (i : Int)) := by
  rw [rng1 n h, List.range_eq_range']
/-- of the slots, all from the k-th on are scratch -/
def Scrat (n : Nat) (xs : List Sl) (ρ : Rho) : Prop := ∃ ys : List Sl, ys.length = n ∧ ρ = xs ++ ys
theorem len_cons {α : Type} {n : Nat} {xs : List α} (h : xs.length = n + 1) : ∃ a ys, xs = a :: ys ∧ ys.length = n := by
  cases xs with
  | nil => cases h
  | cons a ys => exact ⟨a, ys, rfl, by simpa using h⟩
/-- goes on to what R says -/
def Nx (R : Rho → Prop) (o : Option Res) : Prop := ∃ ρ', o = some (.nx ρ') ∧ R ρ'
theorem nx_step {R : Rho → Prop} {a : Option Res} {g : Rho → Option Res} {ρ : Rho} (h : a = some (.nx ρ)) (h2 : Nx R (g ρ)) : Nx R (seqR a g) := by rw [h]; exact h2
theorem rt_step {d : Option PyData} {a : Option Res} {g : Rho → Option Res} {ρ : Rho} (h : a = some (.nx ρ)) (h2 : retD (g ρ) = d) : retD (seqR a g) = d := by rw [h]; exact h2
theorem nx_fin {R : Rho → Prop} {a : Option Res} {ρ : Rho} (h : a = some (.nx ρ)) (h2 : R ρ) : Nx R a := ⟨ρ, h, h2⟩
theorem nx_for {R S : Rho → Prop} {a : Option Res} {g : Rho → Option Res} (h : Nx S a) (h2 : ∀ ρ, S ρ → Nx R (g ρ)) : Nx R (seqR a g) := by
  obtain ⟨ρ, e, s⟩ := h
  rw [e]; exact h2 ρ s
theorem rt_for {S : Rho → Prop} {d : Option PyData} {a : Option Res} {g : Rho → Option Res} (h : Nx S a) (h2 : ∀ ρ, S ρ → retD (g ρ) = d) : retD (seqR a g) = d := by
  obtain ⟨ρ, e, s⟩ := h
  rw [e]; exact h2 ρ s
theorem nx_imp {R S : Rho → Prop} {a : Option Res} (h : Nx S a) (h2 : ∀ ρ, S ρ → R ρ) : Nx R a := by
  obtain ⟨ρ, e, s⟩ := h
  exact ⟨ρ, e, h2 ρ s⟩
theorem for_fold {α σ : Type} (enc : α → PyData) {h : PyData → Option (List PyData)} {is : List Nat} {body : Rho → Option Res} (es : α → List PyData) (R : σ → Rho → Prop) (step : σ → α → σ)
    (xs : List α) (s : σ) (ρ : Rho) (h1 : ∀ x ∈ xs, h (enc x) = some (es x)) (h2 : ∀ x ∈ xs, ∀ s ρ, R s ρ → Nx (R (step s x)) (body (setsR ρ is (es x)))) (hR : R s ρ) : Nx (R (xs.foldl step s)) (forR (some (xs.map enc)) h is body ρ) :=
  forD_gen enc es R step xs s ρ h1 h2 hR
theorem for_keep {α : Type} (enc : α → PyData) {h : PyData → Option (List PyData)} {is : List Nat} {body : Rho → Option Res} (es : α → List PyData) (R : Rho → Prop)
    (xs : List α) (ρ : Rho) (h1 : ∀ x ∈ xs, h (enc x) = some (es x)) (h2 : ∀ x ∈ xs, ∀ ρ, R ρ → Nx R (body (setsR ρ is (es x)))) (hR : R ρ) : Nx R (forR (some (xs.map enc)) h is body ρ) :=
  forR_keep enc es R xs ρ h1 h2 hR
theorem asgG_u (is : List Nat) (h : PyData → Option (List PyData)) (ρ : Rho) (d : PyData) : asgG is h ρ (some d) = (h d).map fun es => .nx (setsR ρ is es) := rfl
end Sv

/-! Good books and letters: what becomes of a letter, without a universe at hand. -/
namespace Sv
open PySem L2 Evl
def Deed.good (ns : List Str) (d : Deed) : Bool := d.nm.all nmOk && (match d with | .call n => decide (n ∈ ns) | _ => true)
def Rul.good (ns : List Str) (r : Rul) : Bool := decide (r.1.dep ≤ 3) && r.1.ok && decide (r.2.length ≤ 8) && r.2.all (Deed.good ns)
def Book.goodIn (ns : List Str) (b : Book) : Bool := b.all fun p => nmOk p.1 && decide (p.2.length ≤ 8) && p.2.all (Rul.good ns)
def Book.good (b : Book) : Bool := decide (b.names.Nodup) && decide (("main" : Str) ∈ b.names) && decide (b.length ≤ 5) && b.goodIn b.names
def Ltr.good (l : Ltr) : Bool := l.ok && decide (l.marks.Nodup) && decide (l.marks.length ≤ 100) && decide (l.words.length ≤ 100)
structure GoodB (b : Book) : Prop where
  nd : b.names.Nodup
  main : ("main" : Str) ∈ b.names
  len : b.length ≤ 5
  nm : ∀ p ∈ b, nmOk p.1 = true
  rl : ∀ p ∈ b, p.2.length ≤ 8
  dep : ∀ p ∈ b, ∀ r ∈ p.2, r.1.dep ≤ 3
  ok : ∀ p ∈ b, ∀ r ∈ p.2, r.1.ok = true
  few : ∀ p ∈ b, ∀ r ∈ p.2, r.2.length ≤ 8
  dn : ∀ p ∈ b, ∀ r ∈ p.2, ∀ d ∈ r.2, d.nm.all nmOk = true
  cl : ∀ p ∈ b, ∀ r ∈ p.2, ∀ n, Deed.call n ∈ r.2 → n ∈ b.names
theorem deed_good {ns : List Str} {d : Deed} (h : d.good ns = true) : d.nm.all nmOk = true ∧ ∀ n, d = .call n → n ∈ ns := by
  unfold Deed.good at h
  simp only [Bool.and_eq_true] at h
  refine ⟨h.1, fun n e => ?_⟩
  subst e
  exact of_decide_eq_true h.2
theorem Book.good.of {b : Book} (h : b.good = true) : GoodB b := by
  unfold Book.good Book.goodIn at h
  simp only [Bool.and_eq_true, decide_eq_true_eq, List.all_eq_true, Rul.good] at h
  obtain ⟨⟨⟨h1, h2⟩, h3⟩, h4⟩ := h
  exact ⟨h1, h2, h3, fun p hp => (h4 p hp).1.1, fun p hp => (h4 p hp).1.2, fun p hp r hr => ((h4 p hp).2 r hr).1.1.1, fun p hp r hr => ((h4 p hp).2 r hr).1.1.2, fun p hp r hr => ((h4 p hp).2 r hr).1.2, fun p hp r hr d hd => (deed_good (((h4 p hp).2 r hr).2 d hd)).1, fun p hp r hr n hn => (deed_good (((h4 p hp).2 r hr).2 _ hn)).2 n rfl⟩
theorem len_flatMap {α β : Type} {f : α → List β} {c : Nat} : ∀ {xs : List α}, (∀ x ∈ xs, (f x).length ≤ c) → (xs.flatMap f).length ≤ xs.length * c
  | [], _ => by simp
  | x :: xs, h => by
    have h1 := h x List.mem_cons_self
    have h2 := len_flatMap (f := f) (xs := xs) fun y hy => h y (List.mem_cons_of_mem _ hy)
    simp only [List.flatMap_cons, List.length_append, List.length_cons, Nat.add_mul]
    omega
def uniOf (b : Book) (l : Ltr) : Uni := ⟨b.names ++ ((b.flatMap fun p => p.2.flatMap fun r => r.2.flatMap Deed.nm) ++ (l.marks ++ (["in"] : List Str))), b.flatMap fun p => (List.range p.2.length).map fun j => (p.1, j)⟩
theorem nm_len (d : Deed) : d.nm.length ≤ 1 := by cases d <;> simp [Deed.nm]
structure GoodL (l : Ltr) : Prop where
  ok : l.ok = true
  nd : l.marks.Nodup
  few : l.marks.length ≤ 100
  fw : l.words.length ≤ 100
theorem Ltr.good.of {l : Ltr} (h : l.good = true) : GoodL l := by
  unfold Ltr.good at h
  simp only [Bool.and_eq_true, decide_eq_true_eq] at h
  exact ⟨h.1.1.1, h.1.1.2, h.1.2, h.2⟩
theorem Ltr.ok_marks {l : Ltr} (h : l.ok = true) : l.marks.all nmOk = true := by simp only [Ltr.ok, Bool.and_eq_true] at h; exact h.2
theorem Ltr.ok_words {l : Ltr} (h : l.ok = true) : l.words.all nmOk = true := by simp only [Ltr.ok, Bool.and_eq_true] at h; exact h.1.2
theorem Ltr.ok_sender {l : Ltr} (h : l.ok = true) : nmOk l.sender = true := by simp only [Ltr.ok, Bool.and_eq_true] at h; exact h.1.1
theorem uni_ok {b : Book} {l : Ltr} (hb : GoodB b) (hl : GoodL l) : (uniOf b l).Ok := by
  refine ⟨?_, ?_, ?_⟩
  · have h1 : (b.flatMap fun p => p.2.flatMap fun r => r.2.flatMap Deed.nm).length ≤ b.length * (8 * (8 * 1)) := len_flatMap fun p hp =>
      Nat.le_trans (len_flatMap (c := 8 * 1) fun r hr => Nat.le_trans (len_flatMap (c := 1) fun d _ => nm_len d) (Nat.mul_le_mul_right _ (hb.few p hp r hr))) (Nat.mul_le_mul_right _ (hb.rl p hp))
    have h2 := hb.len
    have h3 := hl.few
    have h4 : b.names.length = b.length := List.length_map ..
    simp only [uniOf, List.length_append, List.length_cons, List.length_nil]
    have : b.length * (8 * (8 * 1)) ≤ 5 * (8 * (8 * 1)) := Nat.mul_le_mul_right _ h2
    omega
  · have h1 : (b.flatMap fun p => (List.range p.2.length).map fun j => (p.1, j)).length ≤ b.length * 8 := len_flatMap fun p hp => by
      simpa using hb.rl p hp
    have := Nat.mul_le_mul_right 8 hb.len
    simp only [uniOf]
    omega
  · simp only [uniOf, List.all_append, Bool.and_eq_true]
    refine ⟨?_, ?_, Ltr.ok_marks hl.ok, by decide +kernel⟩
    · exact List.all_eq_true.mpr fun n hn => by
        obtain ⟨p, hp, rfl⟩ := List.mem_map.mp hn
        exact hb.nm p hp
    · exact List.all_eq_true.mpr fun n hn => by
        obtain ⟨p, hp, hn⟩ := List.mem_flatMap.mp hn
        obtain ⟨r, hr, hn⟩ := List.mem_flatMap.mp hn
        obtain ⟨d, hd, hn⟩ := List.mem_flatMap.mp hn
        exact List.all_eq_true.mp (hb.dn p hp r hr d hd) n hn
theorem uni_of {b : Book} {l : Ltr} (hb : GoodB b) : b.Of (uniOf b l) 3 := by
  refine ⟨hb.nd, fun n hn => List.mem_append_left _ hn, fun p hp r hr => ⟨hb.dep p hp r hr, hb.ok p hp r hr, fun d hd => ⟨fun n hn => ?_, fun n e => hb.cl p hp r hr n (e ▸ hd)⟩, Nat.le_trans (hb.few p hp r hr) (by decide)⟩, fun p hp j hj => ?_, fun p hp => Nat.le_trans (hb.rl p hp) (by decide), Nat.le_trans hb.len (by decide)⟩
  · exact List.mem_append_right _ (List.mem_append_left _ (List.mem_flatMap.mpr ⟨p, hp, List.mem_flatMap.mpr ⟨r, hr, List.mem_flatMap.mpr ⟨d, hd, hn⟩⟩⟩))
  · exact List.mem_flatMap.mpr ⟨p, hp, List.mem_map.mpr ⟨j, List.mem_range.mpr hj, rfl⟩⟩
theorem uni_marks {b : Book} {l : Ltr} (hl : GoodL l) : Few (uniOf b l).us l.marks := ⟨hl.nd, fun n hn => List.mem_append_right _ (List.mem_append_right _ (List.mem_append_left _ hn))⟩
section
variable {b : Book} {l : Ltr}
theorem out_eq (hb : b.good = true) (hl : l.good = true) : m_out 3 6 [b.enc, l.enc] = some (runF 6 b l).out.enc :=
  outcome_eq (uni_ok (Book.good.of hb) (Ltr.good.of hl)) (Ltr.good.of hl).ok (uni_of (Book.good.of hb)) (uni_marks (Ltr.good.of hl)) (Book.good.of hb).main (Nat.lt_of_le_of_lt (Book.good.of hb).len (by decide))
theorem dby_eq (hb : b.good = true) (hl : l.good = true) : m_done 3 6 [b.enc, l.enc] = some (prsD (sortP (runF 6 b l).begun)) :=
  done_eq (uni_ok (Book.good.of hb) (Ltr.good.of hl)) (Ltr.good.of hl).ok (uni_of (Book.good.of hb)) (uni_marks (Ltr.good.of hl)) (Book.good.of hb).main (Nat.lt_of_le_of_lt (Book.good.of hb).len (by decide))
theorem mkR_eq (hb : b.good = true) (hl : l.good = true) : makeD "Run" (m_Run 3 6) [b.enc, l.enc] = some (obD b l (runF 6 b l)) :=
  make_eq (uni_ok (Book.good.of hb) (Ltr.good.of hl)) (Ltr.good.of hl).ok (uni_of (Book.good.of hb)) (uni_marks (Ltr.good.of hl)) (Book.good.of hb).main (Nat.lt_of_le_of_lt (Book.good.of hb).len (by decide))
theorem walk_inv (hb : b.good = true) (hl : l.good = true) : (walkF b l 6 "main" (start0 l)).Inv (uniOf b l) :=
  run_inv (uni_ok (Book.good.of hb) (Ltr.good.of hl)) (Ltr.good.of hl).ok (uni_of (Book.good.of hb)) (uni_marks (Ltr.good.of hl)) (Book.good.of hb).main (Nat.lt_of_le_of_lt (Book.good.of hb).len (by decide))
theorem runF_inv (hb : b.good = true) (hl : l.good = true) : (runF 6 b l).Inv (uniOf b l) := by
  have h := walk_inv hb hl
  unfold runF finish
  split
  · rename_i hc
    simp only [Bool.and_eq_true, decide_eq_true_eq] at hc
    have he : (walkF b l 6 "main" (start0 l)).lay = [] := List.length_eq_zero_iff.mp (by omega)
    refine ⟨h.marks, ?_, h.send, h.ans, h.within, h.went, h.begun⟩
    rw [he]
    exact ⟨by simp, fun n hn => by
      rw [List.mem_singleton.mp hn]
      exact List.mem_append_right _ (List.mem_append_right _ (List.mem_append_right _ (by simp)))⟩
  · exact h
end
/-! ### plain data: == is = -/
def cl : Nat → PyData → Bool
  | _, .none => true
  | _, .int _ => true
  | _, .str s => nmOk s
  | n + 1, .list xs => xs.all (cl n)
  | n + 1, .tuple xs => xs.all (cl n)
  | _, _ => false
theorem all_lay : ∀ {xs : List PyData}, (∀ x ∈ xs, x.canLay0 = true) → PyData.canLayAll0 xs = true
  | [], _ => by simp [PyData.canLayAll0]
  | x :: xs, h => by simp [PyData.canLayAll0, h x List.mem_cons_self, all_lay fun y hy => h y (List.mem_cons_of_mem _ hy)]
theorem all_dep {n : Nat} : ∀ {xs : List PyData}, (∀ x ∈ xs, x.depth ≤ n) → PyData.depthAll xs ≤ n
  | [], _ => by simp [PyData.depthAll]
  | x :: xs, h => by
    have h1 := h x List.mem_cons_self
    have h2 := all_dep fun y hy => h y (List.mem_cons_of_mem _ hy)
    simp only [PyData.depthAll]; omega
theorem cl_lay : ∀ (n : Nat) (d : PyData), cl n d = true → d.canLay0 = true ∧ d.depth ≤ n
  | n, .none, _ => by simp [PyData.canLay0, PyData.depth]
  | n, .int _, _ => by simp [PyData.canLay0, PyData.depth]
  | n, .bool _, h => by cases n <;> simp [cl] at h
  | n, .dict _, h => by cases n <;> simp [cl] at h
  | n, .str s, h => by
    have : nmOk s = true := by cases n <;> simpa [cl] using h
    exact ⟨by simpa [PyData.canLay0] using (show PyData.strOk s = true from this), by simp [PyData.depth]⟩
  | 0, .list _, h => by simp [cl] at h
  | 0, .tuple _, h => by simp [cl] at h
  | n + 1, .list xs, h => by
    simp only [cl, List.all_eq_true] at h
    have := fun x hx => cl_lay n x (h x hx)
    refine ⟨by simpa [PyData.canLay0] using all_lay fun x hx => (this x hx).1, ?_⟩
    have := all_dep fun x hx => (this x hx).2
    simp only [PyData.depth]; omega
  | n + 1, .tuple xs, h => by
    simp only [cl, List.all_eq_true] at h
    have := fun x hx => cl_lay n x (h x hx)
    refine ⟨by simpa [PyData.canLay0] using all_lay fun x hx => (this x hx).1, ?_⟩
    have := all_dep fun x hx => (this x hx).2
    simp only [PyData.depth]; omega
theorem cl_shp {n : Nat} {d : PyData} (h : cl n d = true) (hn : n ≤ 60 := by decide) : shp d = true := (shp_iff d).mpr ⟨(cl_lay n d h).1, Nat.le_trans (cl_lay n d h).2 (by omega)⟩
theorem cl_mono : ∀ {n m : Nat} {d : PyData}, cl n d = true → n ≤ m → cl m d = true
  | n, m, .none, _, _ => by cases m <;> rfl
  | n, m, .int _, _, _ => by cases m <;> rfl
  | n, m, .bool _, h, _ => by cases n <;> simp [cl] at h
  | n, m, .dict _, h, _ => by cases n <;> simp [cl] at h
  | n, m, .str s, h, _ => by
    have : nmOk s = true := by cases n <;> simpa [cl] using h
    cases m <;> simpa [cl] using this
  | 0, _, .list _, h, _ => by simp [cl] at h
  | 0, _, .tuple _, h, _ => by simp [cl] at h
  | n + 1, 0, .list xs, h, hm => by omega
  | n + 1, 0, .tuple xs, h, hm => by omega
  | n + 1, m + 1, .list xs, h, hm => by
    simp only [cl, List.all_eq_true] at h ⊢
    exact fun x hx => cl_mono (h x hx) (by omega)
  | n + 1, m + 1, .tuple xs, h, hm => by
    simp only [cl, List.all_eq_true] at h ⊢
    exact fun x hx => cl_mono (h x hx) (by omega)
theorem cl_eqv : ∀ (n : Nat) (m : Nat) (d e : PyData), cl n d = true → cl m e = true → (PyData.eqv d e = true ↔ d = e)
  | n, m, .none, e, _, he => by cases e <;> (try simp [PyData.eqv]) <;> (cases m <;> simp [cl] at he)
  | n, m, .int i, e, _, he => by cases e <;> (try simp [PyData.eqv]) <;> (cases m <;> simp [cl] at he)
  | n, m, .bool _, _, h, _ => by cases n <;> simp [cl] at h
  | n, m, .dict _, _, h, _ => by cases n <;> simp [cl] at h
  | n, m, .str i, e, _, he => by cases e <;> (try simp [PyData.eqv]) <;> (cases m <;> simp [cl] at he)
  | 0, _, .list _, _, h, _ => by simp [cl] at h
  | 0, _, .tuple _, _, h, _ => by simp [cl] at h
  | n + 1, m, .list xs, e, h, he => by
    cases e with
    | list ys =>
      cases m with
      | zero => simp [cl] at he
      | succ m =>
        simp only [cl, List.all_eq_true] at h he
        have hall : ∀ (xs ys : List PyData), (∀ x ∈ xs, cl n x = true) → (∀ y ∈ ys, cl m y = true) → (PyData.eqvAll xs ys = true ↔ xs = ys) := fun xs => by
          induction xs with
          | nil => intro ys _ _; cases ys <;> simp [PyData.eqvAll]
          | cons x xs ih =>
            intro ys hx hy
            cases ys with
            | nil => simp [PyData.eqvAll]
            | cons y ys =>
              have h1 := cl_eqv n m x y (hx x List.mem_cons_self) (hy y List.mem_cons_self)
              have h2 := ih ys (fun z hz => hx z (List.mem_cons_of_mem _ hz)) fun z hz => hy z (List.mem_cons_of_mem _ hz)
              simp only [PyData.eqvAll, Bool.and_eq_true, h1, h2, List.cons.injEq]
        simp only [PyData.eqv, hall xs ys h he, PyData.list.injEq]
    | _ => simp [PyData.eqv]
  | n + 1, m, .tuple xs, e, h, he => by
    cases e with
    | tuple ys =>
      cases m with
      | zero => simp [cl] at he
      | succ m =>
        simp only [cl, List.all_eq_true] at h he
        have hall : ∀ (xs ys : List PyData), (∀ x ∈ xs, cl n x = true) → (∀ y ∈ ys, cl m y = true) → (PyData.eqvAll xs ys = true ↔ xs = ys) := fun xs => by
          induction xs with
          | nil => intro ys _ _; cases ys <;> simp [PyData.eqvAll]
          | cons x xs ih =>
            intro ys hx hy
            cases ys with
            | nil => simp [PyData.eqvAll]
            | cons y ys =>
              have h1 := cl_eqv n m x y (hx x List.mem_cons_self) (hy y List.mem_cons_self)
              have h2 := ih ys (fun z hz => hx z (List.mem_cons_of_mem _ hz)) fun z hz => hy z (List.mem_cons_of_mem _ hz)
              simp only [PyData.eqvAll, Bool.and_eq_true, h1, h2, List.cons.injEq]
        simp only [PyData.eqv, hall xs ys h he, PyData.tuple.injEq]
    | _ => simp [PyData.eqv]
noncomputable instance : DecidableEq PyData := fun _ _ => Classical.propDecidable _
theorem eqv_cl {d e : PyData} (hd : cl 20 d = true) (he : cl 20 e = true) : PyData.eqv d e = decide (d = e) := by
  by_cases h : d = e
  · rw [decide_eq_true h]; exact (cl_eqv 20 20 d e hd he).mpr h
  · rw [decide_eq_false h]; exact Bool.eq_false_iff.mpr fun z => h ((cl_eqv 20 20 d e hd he).mp z)
theorem eqB_cl {d e : PyData} (hd : cl 20 d = true) (he : cl 20 e = true) : eqB d e = some (decide (d = e)) := by
  have h1 := cl_shp hd
  have h2 := cl_shp he
  have h3 := eqv_cl hd he
  unfold eqB
  split
  · simp
  · simp
  · simp [cl] at hd
  · rw [h1, h2, h3]; rfl
theorem eqD_cl {d e : PyData} (hd : cl 20 d = true) (he : cl 20 e = true) : eqD d e = some (.bool (decide (d = e))) := by unfold eqD; rw [eqB_cl hd he]; rfl
theorem neD_cl {d e : PyData} (hd : cl 20 d = true) (he : cl 20 e = true) : neD d e = some (.bool (!decide (d = e))) := by unfold neD; rw [eqB_cl hd he]; rfl
theorem eqD_self {d : PyData} (hd : cl 20 d = true) : eqD d d = some (.bool true) := by rw [eqD_cl hd hd]; simp
theorem neD_self {d : PyData} (hd : cl 20 d = true) : neD d d = some (.bool false) := by rw [neD_cl hd hd]; simp
theorem any_cl {d : PyData} {n : Nat} (hd : cl 20 d = true) : ∀ {xs : List PyData}, (∀ x ∈ xs, cl 20 x = true) → (xs.any fun z => PyData.eqv z d) = decide (d ∈ xs)
  | [], _ => by simp
  | x :: xs, h => by
    simp only [List.any_cons, any_cl (n := n) hd fun y hy => h y (List.mem_cons_of_mem _ hy), eqv_cl (h x List.mem_cons_self) hd, List.mem_cons]
    by_cases e : x = d
    · subst e; simp
    · have e' : ¬ d = x := fun z => e z.symm
      simp [e, e']
theorem inB_cl {d e : PyData} {xs : List PyData} (hi : itemsOf e = some xs) (hd : cl 20 d = true) (he : cl 20 e = true) (hx : ∀ x ∈ xs, cl 20 x = true) : inB d e = some (decide (d ∈ xs)) := by
  unfold inB
  rw [hi]
  simp only [cl_shp hd, cl_shp he, any_cl (n := 0) hd hx, Bool.and_self, if_true]
theorem cl_items {n : Nat} {xs : List PyData} (h : cl (n + 1) (.tuple xs) = true) : ∀ x ∈ xs, cl n x = true := by simpa [cl] using h
theorem inD_clt {d : PyData} {xs : List PyData} (hd : cl 20 d = true) (he : cl 20 (.tuple xs) = true) : inD d (.tuple xs) = some (.bool (decide (d ∈ xs))) := by
  unfold inD
  rw [inB_cl rfl hd he fun x hx => cl_mono (cl_items he x hx) (by decide)]; rfl
theorem inD_cll {d : PyData} {xs : List PyData} (hd : cl 20 d = true) (he : cl 20 (.list xs) = true) : inD d (.list xs) = some (.bool (decide (d ∈ xs))) := by
  unfold inD
  rw [inB_cl rfl hd he fun x hx => cl_mono (cl_items (xs := xs) he x hx) (by decide)]; rfl
theorem notInD_clt {d : PyData} {xs : List PyData} (hd : cl 20 d = true) (he : cl 20 (.tuple xs) = true) : notInD d (.tuple xs) = some (.bool (!decide (d ∈ xs))) := by
  unfold notInD
  rw [inB_cl rfl hd he fun x hx => cl_mono (cl_items he x hx) (by decide)]; rfl
theorem notInD_cll {d : PyData} {xs : List PyData} (hd : cl 20 d = true) (he : cl 20 (.list xs) = true) : notInD d (.list xs) = some (.bool (!decide (d ∈ xs))) := by
  unfold notInD
  rw [inB_cl rfl hd he fun x hx => cl_mono (cl_items (xs := xs) he x hx) (by decide)]; rfl
/-! ### the things of this program are plain -/
theorem cl_str (n : Nat) {s : Str} (h : nmOk s = true) : cl n (.str s) = true := by cases n <;> simpa [cl] using h
theorem cl_int (n : Nat) (i : Int) : cl n (.int i) = true := by cases n <;> rfl
theorem cl_none (n : Nat) : cl n .none = true := by cases n <;> rfl
theorem cl_strs (n : Nat) {ss : List Str} (h : ss.all nmOk = true) : cl (n + 1) (strsD ss) = true := by
  simp only [strsD, cl, List.all_eq_true] at h ⊢
  intro x hx
  obtain ⟨s, hs, rfl⟩ := List.mem_map.mp hx
  exact cl_str n (h s hs)
theorem cl_strL (n : Nat) {ss : List Str} (h : ss.all nmOk = true) : cl (n + 1) (strsL ss) = true := cl_strs n h
theorem cl_tst : ∀ (n : Nat) (t : Tst), t.ok = true → t.dep < n → cl n t.enc = true
  | 0, _, _, h => by omega
  | n + 1, .frm s, h, _ => by simp only [Tst.enc, cl, List.all_cons, List.all_nil, cl_str n (show nmOk s = true from h), cl_str n (show nmOk "from" = true by decide +kernel), Bool.and_self]
  | n + 1, .word s, h, _ => by simp only [Tst.enc, cl, List.all_cons, List.all_nil, cl_str n (show nmOk s = true from h), cl_str n (show nmOk "word" = true by decide +kernel), Bool.and_self]
  | n + 1, .marked s, h, _ => by simp only [Tst.enc, cl, List.all_cons, List.all_nil, cl_str n (show nmOk s = true from h), cl_str n (show nmOk "marked" = true by decide +kernel), Bool.and_self]
  | n + 1, .over s, h, _ => by simp only [Tst.enc, cl, List.all_cons, List.all_nil, cl_int, cl_str n (show nmOk "over" = true by decide +kernel), Bool.and_self]
  | n + 1, .yes, h, _ => by simp only [Tst.enc, cl, List.all_cons, List.all_nil, cl_str n (show nmOk "yes" = true by decide +kernel), Bool.and_self]
  | n + 1, .not t, h, hd => by
    simp only [Tst.dep] at hd
    simp only [Tst.enc, cl, List.all_cons, List.all_nil, cl_str n (show nmOk "not" = true by decide +kernel), cl_tst n t h (by omega), Bool.and_self]
  | n + 1, .both a b, h, hd => by
    simp only [Tst.dep] at hd
    simp only [Tst.ok, Bool.and_eq_true] at h
    simp only [Tst.enc, cl, List.all_cons, List.all_nil, cl_str n (show nmOk "both" = true by decide +kernel), cl_tst n a h.1 (by omega), cl_tst n b h.2 (by omega), Bool.and_self]
  | n + 1, .either a b, h, hd => by
    simp only [Tst.dep] at hd
    simp only [Tst.ok, Bool.and_eq_true] at h
    simp only [Tst.enc, cl, List.all_cons, List.all_nil, cl_str n (show nmOk "either" = true by decide +kernel), cl_tst n a h.1 (by omega), cl_tst n b h.2 (by omega), Bool.and_self]
theorem cl_tuple {n : Nat} {xs : List PyData} (h : ∀ x ∈ xs, cl n x = true) : cl (n + 1) (.tuple xs) = true := by simpa [cl] using h
theorem cl_list {n : Nat} {xs : List PyData} (h : ∀ x ∈ xs, cl n x = true) : cl (n + 1) (.list xs) = true := by simpa [cl] using h
theorem cl_t1 {n : Nat} {a : PyData} (h : cl n a = true) : cl (n + 1) (.tuple [a]) = true := by simp [cl, h]
theorem cl_t2 {n : Nat} {a b : PyData} (h : cl n a = true) (h2 : cl n b = true) : cl (n + 1) (.tuple [a, b]) = true := by simp [cl, h, h2]
theorem cl_t4 {n : Nat} {a b c d : PyData} (h : cl n a = true) (h2 : cl n b = true) (h3 : cl n c = true) (h4 : cl n d = true) : cl (n + 1) (.tuple [a, b, c, d]) = true := by simp [cl, h, h2, h3, h4]
theorem cl_deed (n : Nat) {d : Deed} (h : d.nm.all nmOk = true) : cl (n + 1) d.enc = true := by
  cases d with
  | call s => exact cl_t2 (cl_str n (by decide +kernel)) (cl_str n (by simpa [Deed.nm] using h))
  | drop => exact cl_t1 (cl_str n (by decide +kernel))
  | stop => exact cl_t1 (cl_str n (by decide +kernel))
  | lay s => exact cl_t2 (cl_str n (by decide +kernel)) (cl_str n (by simpa [Deed.nm] using h))
  | send s => exact cl_t2 (cl_str n (by decide +kernel)) (cl_str n (by simpa [Deed.nm] using h))
  | ans s => exact cl_t2 (cl_str n (by decide +kernel)) (cl_str n (by simpa [Deed.nm] using h))
  | mark s => exact cl_t2 (cl_str n (by decide +kernel)) (cl_str n (by simpa [Deed.nm] using h))
  | unmark s => exact cl_t2 (cl_str n (by decide +kernel)) (cl_str n (by simpa [Deed.nm] using h))
theorem cl_rul {r : Rul} (hd : r.1.dep ≤ 3) (ho : r.1.ok = true) (hn : ∀ d ∈ r.2, d.nm.all nmOk = true) : cl 6 (Rul.enc r) = true :=
  cl_t2 (cl_mono (cl_tst 4 r.1 ho (by omega)) (by decide)) (cl_tuple fun x hx => by
    obtain ⟨d, hd, rfl⟩ := List.mem_map.mp hx
    exact cl_deed 3 (hn d hd))
theorem cl_rules {rs : List Rul} (h : ∀ r ∈ rs, cl 6 (Rul.enc r) = true) : cl 7 (rulesD rs) = true := cl_tuple fun x hx => by
  obtain ⟨r, hr, rfl⟩ := List.mem_map.mp hx
  exact h r hr
theorem cl_book {b : Book} (h : GoodB b) : cl 9 b.enc = true := cl_tuple fun x hx => by
  obtain ⟨p, hp, rfl⟩ := List.mem_map.mp hx
  exact cl_t2 (cl_str 7 (h.nm p hp)) (cl_rules fun r hr => cl_rul (h.dep p hp r hr) (h.ok p hp r hr) (h.dn p hp r hr))
theorem cl_ltr {l : Ltr} (h : l.ok = true) : cl 2 l.enc = true := cl_t4 (cl_str 1 (Ltr.ok_sender h)) (cl_strs 0 (Ltr.ok_words h)) (cl_int 1 _) (cl_strs 0 (Ltr.ok_marks h))
structure GoodO (o : Out) : Prop where
  lay : o.lay.all nmOk = true
  send : o.send.all nmOk = true
  ans : o.ans.all nmOk = true
  marks : o.marks.all nmOk = true
  ll : o.lay.length ≤ 1000
  ls : o.send.length ≤ 1000
  la : o.ans.length ≤ 1000
  lm : o.marks.length ≤ 1000
theorem cl_out {o : Out} (h : GoodO o) : cl 2 o.enc = true := cl_t4 (cl_strs 0 h.lay) (cl_strs 0 h.send) (cl_strs 0 h.ans) (cl_strs 0 h.marks)
theorem sortS_perm (ss : List Str) : (sortS ss).Perm ss := List.mergeSort_perm ss leS
theorem sortP_perm (ss : List (Str × Nat)) : (sortP ss).Perm ss := List.mergeSort_perm ss leP
theorem all_perm {α : Type} {p : α → Bool} {xs ys : List α} (h : xs.Perm ys) (hy : ys.all p = true) : xs.all p = true := List.all_eq_true.mpr fun x hx => List.all_eq_true.mp hy x (h.mem_iff.mp hx)
theorem good_out {b : Book} {l : Ltr} (hb : b.good = true) (hl : l.good = true) : GoodO (runF 6 b l).out := by
  have h := runF_inv hb hl
  have hU := uni_ok (Book.good.of hb) (Ltr.good.of hl)
  exact ⟨few_nm hU h.lay, few_nm hU h.send, few_nm hU h.ans, all_perm (sortS_perm _) (few_nm hU h.marks), few_len hU h.lay, few_len hU h.send, few_len hU h.ans, by
    show (sortS _).length ≤ _
    rw [(sortS_perm _).length_eq]; exact few_len hU h.marks⟩
/-! ### what is drawn -/
theorem uniA_nm {n : Str} (h : n ∈ uniA.us) : nmOk n = true := List.all_eq_true.mp uniA_ok.nm n h
theorem ruleN_len (ns : List Str) (dr : Int) (j : Nat) : (ruleN ns dr j).2.length ≤ 3 := by
  unfold ruleN
  simp only [List.length_map, List.length_range, List.length_range']
  omega
theorem rulesN_len (ns : List Str) (dr : Int) : (rulesN ns dr).length ≤ 4 := by
  unfold rulesN
  simpa using many_le dr
theorem bookN_good (x : Int) : (bookN x).good = true := by
  have h := book_of uniA_big x
  unfold Book.good Book.goodIn
  simp only [Bool.and_eq_true, decide_eq_true_eq, List.all_eq_true, Rul.good]
  refine ⟨⟨⟨h.nd, by rw [book_names]; exact main_mem x⟩, Nat.le_trans (book_len x) (by decide)⟩, fun p hp => ?_⟩
  obtain ⟨h1, dr, h2⟩ := from_mem x _ _ 0 p hp
  refine ⟨⟨uniA_nm (h.us p.1 (List.mem_map.mpr ⟨p, hp, rfl⟩)), ?_⟩, fun r hr => ?_⟩
  · rw [h2]; exact Nat.le_trans (rulesN_len _ dr) (by decide)
  · have hr' := h.rl p hp r hr
    refine ⟨⟨⟨hr'.dep, hr'.ok⟩, ?_⟩, fun d hd => ?_⟩
    · rw [h2] at hr
      obtain ⟨j, _, rfl⟩ := List.mem_map.mp hr
      exact Nat.le_trans (ruleN_len _ dr j) (by decide)
    · unfold Deed.good
      have hd' := hr'.deeds d hd
      simp only [Bool.and_eq_true]
      refine ⟨List.all_eq_true.mpr fun n hn => uniA_nm (hd'.1 n hn), ?_⟩
      split
      · exact decide_eq_true (hd'.2 _ rfl)
      · rfl
theorem marksN_len (x : Int) : (marksN x).length ≤ 3 := by unfold marksN; split <;> split <;> split <;> simp
theorem wordsN_len (x : Int) : (wordsN x).length ≤ 3 := by unfold wordsN; split <;> split <;> split <;> simp
theorem letterN_good (x : Int) : (letterN x).good = true := by
  unfold Ltr.good
  simp only [Bool.and_eq_true, decide_eq_true_eq]
  exact ⟨⟨⟨letter_ok x, (marks_few uniA_big x).1⟩, Nat.le_trans (marksN_len x) (by decide)⟩, Nat.le_trans (wordsN_len x) (by decide)⟩
theorem bookN_few (x : Int) : ∀ p ∈ bookN x, p.2.length ≤ 4 ∧ ∀ r ∈ p.2, r.2.length ≤ 3 ∧ r.1.dep ≤ 2 := fun p hp => by
  obtain ⟨h1, dr, h2⟩ := from_mem x _ _ 0 p hp
  rw [h2]
  refine ⟨rulesN_len _ dr, fun r hr => ?_⟩
  obtain ⟨j, _, rfl⟩ := List.mem_map.mp hr
  refine ⟨ruleN_len _ dr j, ?_⟩
  unfold ruleN
  refine Nat.le_trans (test_dep _ _) ?_
  omega
end Sv

/-! Encodings tell things apart; texts and rules in tuples. -/
namespace Sv
open PySem L2 Evl
@[simp] theorem nm_main : nmOk (Str.ofString "main") = true := by decide +kernel
@[simp] theorem nm_sub : nmOk (Str.ofString "sub") = true := by decide +kernel
@[simp] theorem nm_a : nmOk (Str.ofString "a") = true := by decide +kernel
@[simp] theorem nm_in : nmOk (Str.ofString "in") = true := by decide +kernel
@[simp] theorem nm_old : nmOk (Str.ofString "old") = true := by decide +kernel
@[simp] theorem nm_x : nmOk (Str.ofString "x") = true := by decide +kernel
@[simp] theorem nm_m : nmOk (Str.ofString "m") = true := by decide +kernel
@[simp] theorem nm_red : nmOk (Str.ofString "red") = true := by decide +kernel
@[simp] theorem nm_z : nmOk (Str.ofString "z") = true := by decide +kernel
@[simp] theorem nm_zz : nmOk (Str.ofString "zz") = true := by decide +kernel
@[simp] theorem nm_no : nmOk (Str.ofString "no") = true := by decide +kernel
@[simp] theorem nm_zed : nmOk (Str.ofString "zed") = true := by decide +kernel
@[simp] theorem nm_q : nmOk (Str.ofString "q") = true := by decide +kernel
@[simp] theorem nm_ann : nmOk (Str.ofString "ann") = true := by decide +kernel
@[simp] theorem nm_bob : nmOk (Str.ofString "bob") = true := by decide +kernel
@[simp] theorem nm_cy : nmOk (Str.ofString "cy") = true := by decide +kernel
@[simp] theorem nm_hi : nmOk (Str.ofString "hi") = true := by decide +kernel
@[simp] theorem nm_now : nmOk (Str.ofString "now") = true := by decide +kernel
@[simp] theorem nm_from : nmOk (Str.ofString "from") = true := by decide +kernel
@[simp] theorem nm_word : nmOk (Str.ofString "word") = true := by decide +kernel
@[simp] theorem nm_over : nmOk (Str.ofString "over") = true := by decide +kernel
@[simp] theorem nm_marked : nmOk (Str.ofString "marked") = true := by decide +kernel
@[simp] theorem nm_yes : nmOk (Str.ofString "yes") = true := by decide +kernel
@[simp] theorem nm_not : nmOk (Str.ofString "not") = true := by decide +kernel
@[simp] theorem nm_both : nmOk (Str.ofString "both") = true := by decide +kernel
@[simp] theorem nm_either : nmOk (Str.ofString "either") = true := by decide +kernel
@[simp] theorem nm_lay : nmOk (Str.ofString "lay") = true := by decide +kernel
@[simp] theorem nm_send : nmOk (Str.ofString "send") = true := by decide +kernel
@[simp] theorem nm_answer : nmOk (Str.ofString "answer") = true := by decide +kernel
@[simp] theorem nm_mark : nmOk (Str.ofString "mark") = true := by decide +kernel
@[simp] theorem nm_unmark : nmOk (Str.ofString "unmark") = true := by decide +kernel
@[simp] theorem nm_call : nmOk (Str.ofString "call") = true := by decide +kernel
@[simp] theorem nm_drop : nmOk (Str.ofString "drop") = true := by decide +kernel
@[simp] theorem nm_stop : nmOk (Str.ofString "stop") = true := by decide +kernel
@[simp] theorem nm_bobs : nmOk (Str.ofString "bobs") = true := by decide +kernel
@[simp] theorem nm_none : nmOk (Str.ofString "none") = true := by decide +kernel
theorem step_of {α β : Type} (F : Option α → Option β) {o : Option α} {d : α} {r : Option β} (h : o = some d) (h2 : F (some d) = r) : F o = r := by rw [h]; exact h2
theorem map_inj {α β : Type} {f : α → β} (hf : ∀ a b, f a = f b → a = b) : ∀ {xs ys : List α}, xs.map f = ys.map f → xs = ys := fun {xs ys} h => (List.map_inj_right (fun a b e => hf a b e)).mp h
theorem strs_inj {a b : List Str} (h : strsD a = strsD b) : a = b := map_inj (fun _ _ e => by cases e; rfl) (PyData.tuple.inj h)
theorem str_ne {a b : String} (h : a ≠ b) : (Str.ofString a) ≠ (Str.ofString b) := fun e => h ((ofS_inj a b).mp e)
theorem deed_inj : ∀ a b : Deed, a.enc = b.enc → a = b := fun a b h => by
  cases a <;> cases b <;> simp [Deed.enc, ofS_inj] at h ⊢ <;> exact h
theorem tst_inj : ∀ a b : Tst, a.enc = b.enc → a = b
  | .frm _, b, h => by cases b <;> simp [Tst.enc, ofS_inj] at h ⊢ <;> exact h
  | .word _, b, h => by cases b <;> simp [Tst.enc, ofS_inj] at h ⊢ <;> exact h
  | .over _, b, h => by cases b <;> simp [Tst.enc, ofS_inj] at h ⊢ <;> exact h
  | .marked _, b, h => by cases b <;> simp [Tst.enc, ofS_inj] at h ⊢ <;> exact h
  | .yes, b, h => by cases b <;> simp [Tst.enc, ofS_inj] at h ⊢
  | .not t, b, h => by
    cases b <;> simp [Tst.enc, ofS_inj] at h ⊢
    exact tst_inj _ _ h
  | .both x y, b, h => by
    cases b <;> simp [Tst.enc, ofS_inj] at h ⊢
    exact ⟨tst_inj _ _ h.1, tst_inj _ _ h.2⟩
  | .either x y, b, h => by
    cases b <;> simp [Tst.enc, ofS_inj] at h ⊢
    exact ⟨tst_inj _ _ h.1, tst_inj _ _ h.2⟩
theorem rul_inj (a b : Rul) (h : Rul.enc a = Rul.enc b) : a = b := by
  simp only [Rul.enc, PyData.tuple.injEq, List.cons.injEq, and_true] at h
  exact Prod.ext (tst_inj _ _ h.1) (map_inj deed_inj h.2)
theorem rules_inj {a b : List Rul} (h : rulesD a = rulesD b) : a = b := map_inj rul_inj (PyData.tuple.inj h)
theorem book_inj {a b : Book} (h : a.enc = b.enc) : a = b := map_inj (f := fun p : Str × List Rul => PyData.tuple [.str p.1, rulesD p.2]) (fun x y e => by
  simp only [PyData.tuple.injEq, List.cons.injEq, PyData.str.injEq, and_true] at e
  exact Prod.ext e.1 (rules_inj e.2)) (PyData.tuple.inj h)
theorem out_inj {a b : Out} (h : a.enc = b.enc) : a = b := by
  simp only [Out.enc, PyData.tuple.injEq, List.cons.injEq, and_true] at h
  cases a; cases b
  simp only [Out.mk.injEq]
  exact ⟨strs_inj h.1, strs_inj h.2.1, strs_inj h.2.2.1, strs_inj h.2.2.2⟩
theorem prs_inj {a b : List (Str × Nat)} (h : prsD a = prsD b) : a = b := map_inj (f := fun p : Str × Nat => PyData.tuple [.str p.1, .int (p.2 : Int)]) (fun x y e => by
  simp only [PyData.tuple.injEq, List.cons.injEq, PyData.str.injEq, PyData.int.injEq, and_true] at e
  exact Prod.ext e.1 (by omega)) (PyData.tuple.inj h)
theorem decE_inj {α β : Type} [DecidableEq β] [DecidableEq α] {f : α → β} {a b : α} (hf : f a = f b → a = b) : decide (f a = f b) = decide (a = b) := by
  by_cases h : a = b
  · subst h; simp
  · rw [decide_eq_false h, decide_eq_false fun e => h (hf e)]
theorem dec_mem {α β : Type} [DecidableEq β] [DecidableEq α] {f : α → β} {a : α} {xs : List α} (hf : ∀ a b, f a = f b → a = b) : decide (f a ∈ xs.map f) = decide (a ∈ xs) := by
  by_cases h : a ∈ xs
  · rw [decide_eq_true h, decide_eq_true (List.mem_map.mpr ⟨a, h, rfl⟩)]
  · rw [decide_eq_false h, decide_eq_false fun e => h (by obtain ⟨b, hb, e⟩ := List.mem_map.mp e; rw [← hf _ _ e]; exact hb)]
theorem addD_strs {a b : List Str} (ha : a.length ≤ 1000) (hb : b.length ≤ 1000) : addD (strsD a) (strsD b) = some (strsD (a ++ b)) := by
  unfold strsD
  rw [addT (by simp; omega), List.map_append]
theorem eqD_strs {a b : List Str} (ha : a.all nmOk = true) (hb : b.all nmOk = true) : eqD (strsD a) (strsD b) = some (.bool (decide (a = b))) := by
  rw [eqD_cl (cl_strs 19 ha) (cl_strs 19 hb), decE_inj strs_inj]
theorem neD_strs {a b : List Str} (ha : a.all nmOk = true) (hb : b.all nmOk = true) : neD (strsD a) (strsD b) = some (.bool (!decide (a = b))) := by
  rw [neD_cl (cl_strs 19 ha) (cl_strs 19 hb), decE_inj strs_inj]
def rulAt (b : Book) (p : Str × Nat) : Rul := (ruleAt b p).getD (.yes, [])
theorem get_of {b : Book} {p : Str × List Rul} (hn : b.names.Nodup) (hp : p ∈ b) : b.get p.1 = p.2 := by
  unfold Book.get
  have : b.find? (fun q => decide (q.1 = p.1)) = some p := by
    induction b with
    | nil => cases hp
    | cons q b ih =>
      simp only [Book.names, List.map_cons, List.nodup_cons] at hn
      rcases List.mem_cons.mp hp with rfl | hp
      · simp
      · have : ¬ q.1 = p.1 := fun e => hn.1 (by rw [e]; exact List.mem_map.mpr ⟨p, hp, rfl⟩)
        rw [List.find?_cons_of_neg (by simpa using this)]
        exact ih hn.2 hp
  rw [this]; rfl
theorem names_get {b : Book} {n : Str} (h : n ∈ b.names) : ∃ p ∈ b, p.1 = n ∧ (b.names.Nodup → p.2 = b.get n) := by
  obtain ⟨p, hp, rfl⟩ := List.mem_map.mp h
  exact ⟨p, hp, rfl, fun hn => (get_of hn hp).symm⟩
theorem get_none {b : Book} {n : Str} (h : n ∉ b.names) : b.get n = [] := by
  unfold Book.get
  rw [List.find?_eq_none.mpr fun p hp => by simpa using fun e : p.1 = n => h (List.mem_map.mpr ⟨p, hp, e⟩)]; rfl
/-- the rules begun are the book's -/
theorem begun_in {b : Book} {l : Ltr} (hb : b.good = true) (hl : l.good = true) : ∀ p ∈ (runF 6 b l).begun, p.1 ∈ b.names ∧ p.2 < (b.get p.1).length := fun p hp => by
  have h := (runF_inv hb hl).begun.2 p hp
  obtain ⟨q, hq, h⟩ := List.mem_flatMap.mp h
  obtain ⟨j, hj, rfl⟩ := List.mem_map.mp h
  refine ⟨List.mem_map.mpr ⟨q, hq, rfl⟩, ?_⟩
  show j < (b.get q.1).length
  rw [get_of (Book.good.of hb).nd hq]
  exact List.mem_range.mp hj
theorem begun_len {b : Book} {l : Ltr} (hb : b.good = true) (hl : l.good = true) : (runF 6 b l).begun.length ≤ 1000 := few_lenp (uni_ok (Book.good.of hb) (Ltr.good.of hl)) (runF_inv hb hl).begun
theorem rulAt_at {b : Book} {p : Str × Nat} (h : p.2 < (b.get p.1).length) : (b.get p.1)[p.2]? = some (rulAt b p) := by
  unfold rulAt ruleAt
  rw [List.getElem?_eq_getElem h]; rfl
theorem ix_rule {b : Book} {p : Str × Nat} (h1 : p.1 ∈ b.names) (h2 : p.2 < (b.get p.1).length) : bnd2 (ixE b.dct (.str p.1)) (some (.int (p.2 : Int))) ixD = some (Rul.enc (rulAt b p)) := by
  rw [dct_get h1]
  show atI ((b.get p.1).map Rul.enc) (p.2 : Int) = _
  refine atI_nat ?_
  rw [List.getElem?_map, rulAt_at h2]; rfl
theorem dict_good {b : Book} (hb : b.good = true) : dictD b.enc = some b.dct := dict_book (fun h => by have := (Book.good.of hb).main; rw [h] at this; cases this) (Book.good.of hb).nd
theorem drop_in {ds : List Deed} (h : ∀ d ∈ ds, d.nm.all nmOk = true) : inD (.tuple [.str "drop"]) (.tuple (ds.map Deed.enc)) = some (.bool (decide (Deed.drop ∈ ds))) := by
  show inD Deed.drop.enc _ = _
  rw [inD_clt (cl_mono (cl_deed (d := .drop) 1 (by rfl)) (by decide)) (cl_tuple fun x hx => by
    obtain ⟨d, hd, rfl⟩ := List.mem_map.mp hx
    exact cl_deed 18 (h d hd))]
  exact congrArg (fun b => some (PyData.bool b)) (dec_mem (a := Deed.drop) deed_inj)
theorem rulAt_mem {b : Book} (hb : GoodB b) {p : Str × Nat} (h1 : p.1 ∈ b.names) (h2 : p.2 < (b.get p.1).length) : ∃ q ∈ b, rulAt b p ∈ q.2 := by
  obtain ⟨q, hq, e, f⟩ := names_get h1
  refine ⟨q, hq, ?_⟩
  rw [f hb.nd]
  exact List.mem_of_getElem? (rulAt_at h2)
theorem cl_l0 : cl 20 (.list []) = true := by simp [cl]
theorem cl_t0 : cl 20 (.tuple []) = true := by simp [cl]
theorem eqD_l0 {xs : List PyData} (h : ∀ x ∈ xs, cl 19 x = true) : eqD (.list xs) (.list []) = some (.bool (decide (xs = []))) := by
  rw [eqD_cl (cl_list h) cl_l0]; simp
theorem neD_l0 {xs : List PyData} (h : ∀ x ∈ xs, cl 19 x = true) : neD (.list xs) (.list []) = some (.bool (!decide (xs = []))) := by
  rw [neD_cl (cl_list h) cl_l0]; simp
theorem eqD_t0 {xs : List PyData} (h : ∀ x ∈ xs, cl 19 x = true) : eqD (.tuple xs) (.tuple []) = some (.bool (decide (xs = []))) := by
  rw [eqD_cl (cl_tuple h) cl_t0]; simp
theorem neD_t0 {xs : List PyData} (h : ∀ x ∈ xs, cl 19 x = true) : neD (.tuple xs) (.tuple []) = some (.bool (!decide (xs = []))) := by
  rw [neD_cl (cl_tuple h) cl_t0]; simp
theorem eqD_strs0 {a : List Str} (ha : a.all nmOk = true) : eqD (strsD a) (.tuple []) = some (.bool (decide (a = []))) := eqD_strs (b := []) ha rfl
theorem if_ne_self {o e : Option PyData} {d : PyData} {x y : Option Res} (h1 : o = some d) (h2 : e = some d) (hc : cl 20 d = true) : ifR ((bnd2 o e neD).bind asB) x y = y := by
  rw [h1, h2, bnd2_ss, neD_self hc]; rfl
theorem cl_outL {l : Ltr} (gl : l.good = true) (a b c : List Str) (h : (a ++ (b ++ c)).all nmOk = true) : cl 20 (Out.enc ⟨a, b, c, l.marks⟩) = true := by
  simp only [List.all_append, Bool.and_eq_true] at h
  exact cl_t4 (cl_strs 18 h.1) (cl_strs 18 h.2.1) (cl_strs 18 h.2.2) (cl_strs 18 (Ltr.ok_marks (Ltr.good.of gl).ok))
theorem ltr_0 (l : Ltr) : ixD l.enc (.int 0) = some (.str l.sender) := atI_0 _ _
theorem ltr_1 (l : Ltr) : ixD l.enc (.int 1) = some (strsD l.words) := atI_1 _ _ _
theorem ltr_2 (l : Ltr) : ixD l.enc (.int 2) = some (.int l.size) := atI_2 _ _ _ _
theorem ltr_3 (l : Ltr) : ixD l.enc (.int 3) = some (strsD l.marks) := atI_3 _ _ _ _ _
theorem cutL_to {α : Type} (xs : List α) (k : Nat) : cutL xs none (some (k : Int)) = xs.take k := by
  unfold cutL
  rw [HT.sIx_none, HT.sIx_nat, List.drop_zero, Nat.sub_zero]
  exact List.take_eq_take_iff.mpr (by omega)
theorem cutL_from {α : Type} (xs : List α) (k : Nat) : cutL xs (some (k : Int)) none = xs.drop k := by
  unfold cutL
  rw [HT.sIx_none, HT.sIx_nat]
  rw [List.take_of_length_le (by rw [List.length_drop]; omega)]
  by_cases h : k ≤ xs.length
  · rw [Nat.min_eq_left h]
  · rw [Nat.min_eq_right (by omega), List.drop_of_length_le (Nat.le_refl _), List.drop_of_length_le (by omega)]
theorem map_take {α β : Type} (f : α → β) (xs : List α) (k : Nat) : (xs.map f).take k = (xs.take k).map f := List.map_take.symm
theorem sl_rules_to (rs : List Rul) (k : Nat) : slD (rulesD rs) none (some (k : Int)) = some (rulesD (rs.take k)) := by
  show some (PyData.tuple (cutL (rs.map Rul.enc) none (some (k : Int)))) = _
  rw [cutL_to, map_take]; rfl
theorem sl_rules_from (rs : List Rul) (k : Nat) : slD (rulesD rs) (some (k : Int)) none = some (rulesD (rs.drop k)) := by
  show some (PyData.tuple (cutL (rs.map Rul.enc) (some (k : Int)) none)) = _
  rw [cutL_from, ← List.map_drop]; rfl
theorem sl_rto (rs : List Rul) (k : Int) (h : 0 ≤ k) : slD (rulesD rs) none (some k) = some (rulesD (rs.take k.toNat)) := by
  have := sl_rules_to rs k.toNat
  rwa [Int.toNat_of_nonneg h] at this
theorem sl_rfrom (rs : List Rul) (k : Int) (h : 0 ≤ k) : slD (rulesD rs) (some k) none = some (rulesD (rs.drop k.toNat)) := by
  have := sl_rules_from rs k.toNat
  rwa [Int.toNat_of_nonneg h] at this
theorem add_1r (d : PyData) {rs : List Rul} (h : rs.length ≤ 1000) : addD (.tuple [d]) (rulesD rs) = some (.tuple (d :: rs.map Rul.enc)) := by
  unfold rulesD
  rw [addT (by simp; omega)]; rfl
theorem add_r1 (d : PyData) {rs : List Rul} (h : rs.length ≤ 1000) : addD (rulesD rs) (.tuple [d]) = some (.tuple (rs.map Rul.enc ++ [d])) := by
  unfold rulesD
  rw [addT (by simp; omega)]
theorem len_rules (rs : List Rul) : lenD (rulesD rs) = some (.int rs.length) := by
  show some (PyData.int ((rs.map Rul.enc).length : Nat)) = _
  rw [List.length_map]
theorem len_book (b : Book) : lenD b.enc = some (.int b.length) := by
  show some (PyData.int ((b.map fun p => PyData.tuple [.str p.1, rulesD p.2]).length : Nat)) = _
  rw [List.length_map]
theorem walk_book (b : Book) : walkD b.enc = some (b.map fun p => PyData.tuple [.str p.1, rulesD p.2]) := rfl
theorem walk_rules (rs : List Rul) : walkD (rulesD rs) = some (rs.map Rul.enc) := rfl
theorem add_rules {a b : List Rul} (h : a.length + b.length ≤ 2000) : addD (rulesD a) (rulesD b) = some (rulesD (a ++ b)) := by
  unfold rulesD
  rw [addT (by simpa using h), List.map_append]
end Sv

/-! named, as a plain function. -/
namespace Sv
open PySem L2 Evl
def m_note : Nat → OD → List PyData → Option (PyData × OD)
  | 0 => fun _ _ => none
  | n + 1 => runX 3 2 0 (fb_note (m_note n))
def m_named (n : Nat) : List PyData → Option PyData := runD 8 1 (fb_named (m_note n))
/-! ### rising sets -/
def rset (xs : List Str) : List Str := sortS (ddup xs)
def leI (a b : Int) : Bool := PySem.W.dataLe false id (.int a) (.int b)
def sortI (xs : List Int) : List Int := xs.mergeSort leI
def rsetI (xs : List Int) : List Int := sortI (ddup xs)
def intsT (xs : List Int) : PyData := .tuple (xs.map .int)
theorem ddup_map {α β : Type} [DecidableEq α] [DecidableEq β] {f : α → β} (hf : ∀ a b, f a = f b → a = b) (xs : List α) : ddup (xs.map f) = (ddup xs).map f := by
  have go : ∀ (xs acc : List α), (xs.map f).foldl (fun acc x => if x ∈ acc then acc else acc ++ [x]) (acc.map f) = (xs.foldl (fun acc x => if x ∈ acc then acc else acc ++ [x]) acc).map f := fun xs => by
    induction xs with
    | nil => intro acc; rfl
    | cons x xs ih =>
      intro acc
      simp only [List.map_cons, List.foldl_cons]
      have hm : f x ∈ acc.map f ↔ x ∈ acc := by
        rw [List.mem_map]
        exact ⟨fun ⟨a, ha, e⟩ => hf _ _ e ▸ ha, fun h => ⟨x, h, rfl⟩⟩
      by_cases h : x ∈ acc
      · rw [if_pos (hm.mpr h), if_pos h]; exact ih acc
      · rw [if_neg (fun z => h (hm.mp z)), if_neg h]
        have := ih (acc ++ [x])
        rwa [List.map_append, List.map_singleton] at this
  exact go xs []
theorem kds_str : ∀ ss : List Str, kds keyKind.kd (ss.map .str) = some (ss.map .inr)
  | [] => rfl
  | s :: ss => by
    simp only [List.map_cons, kds, kds_str ss]; rfl
theorem kds_int : ∀ ss : List Int, kds keyKind.kd (ss.map .int) = some (ss.map .inl)
  | [] => rfl
  | s :: ss => by
    simp only [List.map_cons, kds, kds_int ss]; rfl
theorem srt_int (ss : List Int) : srt (ss.map .int) = (sortI ss).map .int := (List.map_mergeSort (r := leI) (s := PySem.W.dataLe false id) (f := PyData.int) fun a _ b _ => rfl).symm
theorem sok_int {ss : List Int} (h : ss.length ≤ 1000) : sortOkB (ss.map .int) = true := by
  unfold sortOkB
  simp only [Bool.and_eq_true, Bool.or_eq_true, List.all_map, List.length_map]
  refine ⟨⟨⟨?_, .inr ?_⟩, lenOk_ h⟩, ?_⟩
  · exact List.all_eq_true.mpr fun a _ => List.all_eq_true.mpr fun b _ => rfl
  · exact List.all_eq_true.mpr fun a _ => rfl
  · exact List.all_eq_true.mpr fun a _ => rfl
theorem sortset_items {e : PyData} {ss : List Str} (he : itemsOf e = some (ss.map .str)) (h : ss.length ≤ 1000) : sortSetD keyKind 1001 e = some (strsL (rset ss)) := by
  have h1 : (ddup ss).length ≤ 1000 := Nat.le_trans (ddup_len ss) h
  have hi : setItems keyKind 1001 e = some (ss.map .inr) := by
    unfold setItems
    rw [he]
    simp only [Option.bind_some, kds_str]
    rw [ddup_map (fun a b e => by cases e; rfl), List.length_map, if_pos (by omega)]
  have e2 : ((ddup ss).map (Sum.inr : Str → Key)).map keyKind.dk = (ddup ss).map .str := by rw [List.map_map]; rfl
  unfold sortSetD
  rw [hi]
  simp only [Option.bind_some]
  rw [ddup_map (fun a b e => by cases e; rfl), e2, if_pos (sok_str h1), srt_str]; rfl
theorem sortset_strs {ss : List Str} (h : ss.length ≤ 1000) : sortSetD keyKind 1001 (.list (ss.map .str)) = some (strsL (rset ss)) := sortset_items rfl h
theorem sortset_ints {ss : List Int} (h : ss.length ≤ 1000) : sortSetD keyKind 1001 (.list (ss.map .int)) = some (.list ((rsetI ss).map .int)) := by
  have h1 : (ddup ss).length ≤ 1000 := Nat.le_trans (ddup_len ss) h
  have hi : setItems keyKind 1001 (.list (ss.map .int)) = some (ss.map .inl) := by
    unfold setItems
    show (some (ss.map PyData.int)).bind _ = _
    simp only [Option.bind_some, kds_int]
    rw [ddup_map (fun a b e => by cases e; rfl), List.length_map, if_pos (by omega)]
  have e2 : ((ddup ss).map (Sum.inl : Int → Key)).map keyKind.dk = (ddup ss).map .int := by rw [List.map_map]; rfl
  unfold sortSetD
  rw [hi]
  simp only [Option.bind_some]
  rw [ddup_map (fun a b e => by cases e; rfl), e2, if_pos (sok_int h1), srt_int]; rfl
theorem rset_mem (xs : List Str) (x : Str) : x ∈ rset xs ↔ x ∈ xs := ((sortS_perm _).mem_iff).trans (ddup_mem xs x)
theorem rset_nd (xs : List Str) : (rset xs).Nodup := (sortS_perm _).nodup_iff.mpr (ddup_nd xs)
theorem sortI_perm (ss : List Int) : (sortI ss).Perm ss := List.mergeSort_perm ss leI
theorem rsetI_mem (xs : List Int) (x : Int) : x ∈ rsetI xs ↔ x ∈ xs := ((sortI_perm _).mem_iff).trans (ddup_mem xs x)
theorem leS_total (a b : Str) : (leS a b || leS b a) = true := le_total' _ _
theorem leS_trans (a b c : Str) (h1 : leS a b = true) (h2 : leS b c = true) : leS a c = true := le_trans' _ _ _ h1 h2
theorem leS_anti (a b : Str) (h1 : leS a b = true) (h2 : leS b a = true) : a = b := by
  have h := le_same (a := .str a) (b := .str b) rfl h1 h2
  simpa [PyData.eqv] using h
theorem leI_total (a b : Int) : (leI a b || leI b a) = true := le_total' _ _
theorem leI_trans (a b c : Int) (h1 : leI a b = true) (h2 : leI b c = true) : leI a c = true := le_trans' _ _ _ h1 h2
theorem leI_anti (a b : Int) (h1 : leI a b = true) (h2 : leI b a = true) : a = b := by
  have h := le_same (a := .int a) (b := .int b) rfl h1 h2
  simpa [PyData.eqv] using h
theorem sortS_ext {xs ys : List Str} (p : xs.Perm ys) : sortS xs = sortS ys :=
  List.Perm.eq_of_pairwise (le := fun a b => leS a b = true) (fun a b _ _ h1 h2 => leS_anti a b h1 h2) (List.pairwise_mergeSort leS_trans leS_total xs) (List.pairwise_mergeSort leS_trans leS_total ys) ((sortS_perm xs).trans (p.trans (sortS_perm ys).symm))
theorem sortI_ext {xs ys : List Int} (p : xs.Perm ys) : sortI xs = sortI ys :=
  List.Perm.eq_of_pairwise (le := fun a b => leI a b = true) (fun a b _ _ h1 h2 => leI_anti a b h1 h2) (List.pairwise_mergeSort leI_trans leI_total xs) (List.pairwise_mergeSort leI_trans leI_total ys) ((sortI_perm xs).trans (p.trans (sortI_perm ys).symm))
theorem rset_ext {xs ys : List Str} (h : ∀ x, x ∈ xs ↔ x ∈ ys) : rset xs = rset ys := sortS_ext ((List.perm_ext_iff_of_nodup (ddup_nd _) (ddup_nd _)).mpr fun x => by rw [ddup_mem, ddup_mem]; exact h x)
theorem rsetI_ext {xs ys : List Int} (h : ∀ x, x ∈ xs ↔ x ∈ ys) : rsetI xs = rsetI ys := sortI_ext ((List.perm_ext_iff_of_nodup (ddup_nd _) (ddup_nd _)).mpr fun x => by rw [ddup_mem, ddup_mem]; exact h x)
theorem rset_len {xs : List Str} : (rset xs).length ≤ xs.length := by
  unfold rset; rw [(sortS_perm _).length_eq]; exact ddup_len xs
theorem rsetI_len {xs : List Int} : (rsetI xs).length ≤ xs.length := by
  unfold rsetI; rw [(sortI_perm _).length_eq]; exact ddup_len xs
/-! ### what a test names -/
structure Nm where
  f : List Str
  w : List Str
  o : List Int
  m : List Str
def Nm.app (a b : Nm) : Nm := ⟨a.f ++ b.f, a.w ++ b.w, a.o ++ b.o, a.m ++ b.m⟩
def Nm.nil : Nm := ⟨[], [], [], []⟩
theorem Nm.app_nil (a : Nm) : a.app .nil = a := by simp [Nm.app, Nm.nil]
theorem Nm.app_assoc (a b c : Nm) : (a.app b).app c = a.app (b.app c) := by simp [Nm.app]
def tn : Tst → Nm
  | .frm s => ⟨[s], [], [], []⟩
  | .word s => ⟨[], [s], [], []⟩
  | .over n => ⟨[], [], [n], []⟩
  | .marked s => ⟨[], [], [], [s]⟩
  | .yes => .nil
  | .not t => tn t
  | .both a b => (tn a).app (tn b)
  | .either a b => (tn a).app (tn b)
def Nm.size (a : Nm) : Nat := a.f.length + a.w.length + a.o.length + a.m.length
theorem size_app (a b : Nm) : (a.app b).size = a.size + b.size := by simp [Nm.app, Nm.size]; omega
theorem tn_size : ∀ t : Tst, (tn t).size ≤ 2 ^ t.dep
  | .frm _ => by simp [tn, Nm.size, Tst.dep]
  | .word _ => by simp [tn, Nm.size, Tst.dep]
  | .over _ => by simp [tn, Nm.size, Tst.dep]
  | .marked _ => by simp [tn, Nm.size, Tst.dep]
  | .yes => by simp [tn, Nm.size, Tst.dep, Nm.nil]
  | .not t => by
    have := tn_size t
    simp only [tn, Tst.dep, Nat.pow_succ]; omega
  | .both a b => by
    have h1 := tn_size a
    have h2 := tn_size b
    have e1 : 2 ^ a.dep ≤ 2 ^ (max a.dep b.dep) := Nat.pow_le_pow_right (by decide) (by omega)
    have e2 : 2 ^ b.dep ≤ 2 ^ (max a.dep b.dep) := Nat.pow_le_pow_right (by decide) (by omega)
    simp only [tn, Tst.dep, Nat.pow_succ, size_app]; omega
  | .either a b => by
    have h1 := tn_size a
    have h2 := tn_size b
    have e1 : 2 ^ a.dep ≤ 2 ^ (max a.dep b.dep) := Nat.pow_le_pow_right (by decide) (by omega)
    have e2 : 2 ^ b.dep ≤ 2 ^ (max a.dep b.dep) := Nat.pow_le_pow_right (by decide) (by omega)
    simp only [tn, Tst.dep, Nat.pow_succ, size_app]; omega
def intL (ss : List Int) : OD := lO (ss.map .int)
def Nm.ob (a : Nm) : OD := .nd .lst [strL a.f, strL a.w, intL a.o, strL a.m]
theorem app_intL {a : List Int} (hl : a.length ≤ 1000) (n : Int) : appO (.dat (.int n)) (intL a) = some (intL (a ++ [n])) := by
  unfold intL lO appO
  dsimp only
  rw [if_pos (lenLt_ (by simpa using hl))]
  simp
theorem ap_f {g : Rho → Option (List Nat)} {b : Bool} {r : Rho} {a : Nm} (x : Str) (hl : a.size ≤ 1000) (hg : g (.own ⟨a.ob, b⟩ :: r) = some [0]) : appP 0 g (.own ⟨a.ob, b⟩ :: r) (some (.dat (.str x))) = some (.nx (.own ⟨(a.app ⟨[x], [], [], []⟩).ob, b⟩ :: r)) := by
  unfold appP
  show mutR 0 g _ (appO (.dat (.str x))) = _
  unfold mutR
  rw [hg]
  show (((appO (.dat (.str x))) (strL a.f)).map fun o2 => Res.nx (.own ⟨setP a.ob [0] o2, b⟩ :: r)) = _
  rw [app_strL (by unfold Nm.size at hl; omega)]
  simp [Nm.ob, Nm.app, setP]
theorem ap_w {g : Rho → Option (List Nat)} {b : Bool} {r : Rho} {a : Nm} (x : Str) (hl : a.size ≤ 1000) (hg : g (.own ⟨a.ob, b⟩ :: r) = some [1]) : appP 0 g (.own ⟨a.ob, b⟩ :: r) (some (.dat (.str x))) = some (.nx (.own ⟨(a.app ⟨[], [x], [], []⟩).ob, b⟩ :: r)) := by
  unfold appP
  show mutR 0 g _ (appO (.dat (.str x))) = _
  unfold mutR
  rw [hg]
  show (((appO (.dat (.str x))) (strL a.w)).map fun o2 => Res.nx (.own ⟨setP a.ob [1] o2, b⟩ :: r)) = _
  rw [app_strL (by unfold Nm.size at hl; omega)]
  simp [Nm.ob, Nm.app, setP]
theorem ap_o {g : Rho → Option (List Nat)} {b : Bool} {r : Rho} {a : Nm} (x : Int) (hl : a.size ≤ 1000) (hg : g (.own ⟨a.ob, b⟩ :: r) = some [2]) : appP 0 g (.own ⟨a.ob, b⟩ :: r) (some (.dat (.int x))) = some (.nx (.own ⟨(a.app ⟨[], [], [x], []⟩).ob, b⟩ :: r)) := by
  unfold appP
  show mutR 0 g _ (appO (.dat (.int x))) = _
  unfold mutR
  rw [hg]
  show (((appO (.dat (.int x))) (intL a.o)).map fun o2 => Res.nx (.own ⟨setP a.ob [2] o2, b⟩ :: r)) = _
  rw [app_intL (by unfold Nm.size at hl; omega)]
  simp [Nm.ob, Nm.app, setP]
theorem ap_m {g : Rho → Option (List Nat)} {b : Bool} {r : Rho} {a : Nm} (x : Str) (hl : a.size ≤ 1000) (hg : g (.own ⟨a.ob, b⟩ :: r) = some [3]) : appP 0 g (.own ⟨a.ob, b⟩ :: r) (some (.dat (.str x))) = some (.nx (.own ⟨(a.app ⟨[], [], [], [x]⟩).ob, b⟩ :: r)) := by
  unfold appP
  show mutR 0 g _ (appO (.dat (.str x))) = _
  unfold mutR
  rw [hg]
  show (((appO (.dat (.str x))) (strL a.m)).map fun o2 => Res.nx (.own ⟨setP a.ob [3] o2, b⟩ :: r)) = _
  rw [app_strL (by unfold Nm.size at hl; omega)]
  simp [Nm.ob, Nm.app, setP]
end Sv

namespace Sv
open PySem L2 Evl
theorem it_from : inTabD tb_PLACES (.str "from") = some (.bool true) := by rfl
theorem it_word : inTabD tb_PLACES (.str "word") = some (.bool true) := by rfl
theorem it_over : inTabD tb_PLACES (.str "over") = some (.bool true) := by rfl
theorem it_marked : inTabD tb_PLACES (.str "marked") = some (.bool true) := by rfl
theorem it_yes : inTabD tb_PLACES (.str "yes") = some (.bool false) := by rfl
theorem it_not : inTabD tb_PLACES (.str "not") = some (.bool false) := by rfl
theorem it_both : inTabD tb_PLACES (.str "both") = some (.bool false) := by rfl
theorem it_either : inTabD tb_PLACES (.str "either") = some (.bool false) := by rfl
theorem xt_from : ixTabD tb_PLACES (.str "from") = some (.int 0) := by rfl
theorem xt_word : ixTabD tb_PLACES (.str "word") = some (.int 1) := by rfl
theorem xt_over : ixTabD tb_PLACES (.str "over") = some (.int 2) := by rfl
theorem xt_marked : ixTabD tb_PLACES (.str "marked") = some (.int 3) := by rfl
theorem sl1_1 (a : PyData) : slD (.tuple [a]) (some 1) none = some (.tuple []) := rfl
theorem sl1_2 (a b : PyData) : slD (.tuple [a, b]) (some 1) none = some (.tuple [b]) := rfl
theorem sl1_3 (a b c : PyData) : slD (.tuple [a, b, c]) (some 1) none = some (.tuple [b, c]) := rfl
theorem isi_str (s : Str) : isiD "tuple" (.str s) = some (.bool false) := by rfl
theorem isi_int (s : Int) : isiD "tuple" (.int s) = some (.bool false) := by rfl
theorem isi_tup (ds : List PyData) : isiD "tuple" (.tuple ds) = some (.bool true) := by rfl
theorem enc_tup (t : Tst) : ∃ ds, t.enc = .tuple ds := by cases t <;> exact ⟨_, rfl⟩
theorem isi_tst (t : Tst) : isiD "tuple" t.enc = some (.bool true) := by
  obtain ⟨ds, h⟩ := enc_tup t
  rw [h]; exact isi_tup ds
theorem seal_own {i : Nat} {ρ : Rho} {o : OD} {b : Bool} {d : PyData} (h : ρ[i]? = some (.own ⟨o, b⟩)) (hf : flat o = some d) : sealR i ρ = ρ.set i (.val d) := by
  unfold sealR ownO
  rw [h]
  dsimp only
  rw [hf]
theorem rset_nil : rset [] = [] := by simp [rset, ddup, sortS]
theorem rset_one (x : Str) : rset [x] = [x] := by simp [rset, ddup, sortS]
theorem rsetI_nil : rsetI [] = [] := by simp [rsetI, ddup, sortI]
theorem rsetI_one (x : Int) : rsetI [x] = [x] := by simp [rsetI, ddup, sortI]
def bodyN (m : OD → List PyData → Option (PyData × OD)) : Rho → Option Res := fun ρ => ifR (((gb 2 ρ).bind (isiD "tuple")).bind asB) (dropX (callX 0 (fun ρ => some []) m ρ ((bnd2 (gv 2 ρ) (some []) consD)))) (some (.nx ρ))
theorem bodyN_t {m : OD → List PyData → Option (PyData × OD)} {o o' : OD} {v1 : Sl} {t : Tst} (h : m o [t.enc] = some (.none, o')) : bodyN m [.own ⟨o, true⟩, v1, .val t.enc] = some (.nx [.own ⟨o', true⟩, v1, .val t.enc]) := by
  unfold bodyN
  refine if_yes (by simp only [gv_0, gv_s, gb_0, gb_s, scr_0, bnd2_ss, consD_, tupD_, lstD_, asgR_s, seqR_nx, seqR_ret, ifR_t, ifR_f, retR_s, retD_s, asB_b, asI_i, addD_ii, subD_ii, modD_ii, gtD_ii, geD_ii, leD_ii, ltD_ii, eqD_ii, eqD_ss, neD_ss, neD_ii, neD_bb, ixD_t, ixD_l, andB_t, andB_f, orB_t, orB_f, notV_b, mixR_, setsR_nil, setsR_cons, tg1_, tgT_1, tgT_2, tgT_4, asgG_u, walkD_t, walkD_l, tupleD_l, tupleD_t, listD_l, listD_t, lenD_t, lenD_l, wipeR_nil, wipeR_cons, Option.bind_some, Option.map_some, List.set_cons_zero, List.set_cons_succ, List.length_cons, List.length_nil, Nat.zero_add, Nat.reduceAdd, Nat.reduceLeDiff, Int.reduceAdd, Int.reduceLE, Int.reduceLT, Int.reduceNeg, Int.reduceSub, Int.reduceMul, Int.reduceEq, Bool.not_true, Bool.not_false, decide_true, decide_false, atI_0, atI_1, atI_2, atI_3, Int.reduceToNat, isi_tst]) ?_
  show dropX ((m o [t.enc]).map fun r => (r.1, [Sl.own ⟨r.2, true⟩, v1, .val t.enc])) = _
  rw [h]; rfl
theorem note_eq : ∀ (n : Nat) (t : Tst) (a : Nm), t.dep < n → a.size + 2 ^ t.dep ≤ 1000 → m_note n a.ob [t.enc] = some (.none, (a.app (tn t)).ob)
  | 0, _, _, h, _ => by omega
  | n + 1, .frm s, a, hn, hs => by
    refine runXn (r := [.val (Tst.enc (.frm s)), .val (.str s)]) ?_
    refine seq_step (if_yes (by simp only [gv_0, gv_s, gb_0, gb_s, scr_0, bnd2_ss, consD_, tupD_, lstD_, asgR_s, seqR_nx, seqR_ret, ifR_t, ifR_f, retR_s, retD_s, asB_b, asI_i, addD_ii, subD_ii, modD_ii, gtD_ii, geD_ii, leD_ii, ltD_ii, eqD_ii, eqD_ss, neD_ss, neD_ii, neD_bb, ixD_t, ixD_l, andB_t, andB_f, orB_t, orB_f, notV_b, mixR_, setsR_nil, setsR_cons, tg1_, tgT_1, tgT_2, tgT_4, asgG_u, walkD_t, walkD_l, tupleD_l, tupleD_t, listD_l, listD_t, lenD_t, lenD_l, wipeR_nil, wipeR_cons, Option.bind_some, Option.map_some, List.set_cons_zero, List.set_cons_succ, List.length_cons, List.length_nil, Nat.zero_add, Nat.reduceAdd, Nat.reduceLeDiff, Int.reduceAdd, Int.reduceLE, Int.reduceLT, Int.reduceNeg, Int.reduceSub, Int.reduceMul, Int.reduceEq, Bool.not_true, Bool.not_false, decide_true, decide_false, atI_0, atI_1, atI_2, atI_3, Int.reduceToNat, Tst.enc, it_from]) (ap_f s (Nat.le_trans (Nat.le_add_right _ _) hs) (by simp only [gv_0, gv_s, gb_0, gb_s, scr_0, bnd2_ss, consD_, tupD_, lstD_, asgR_s, seqR_nx, seqR_ret, ifR_t, ifR_f, retR_s, retD_s, asB_b, asI_i, addD_ii, subD_ii, modD_ii, gtD_ii, geD_ii, leD_ii, ltD_ii, eqD_ii, eqD_ss, neD_ss, neD_ii, neD_bb, ixD_t, ixD_l, andB_t, andB_f, orB_t, orB_f, notV_b, mixR_, setsR_nil, setsR_cons, tg1_, tgT_1, tgT_2, tgT_4, asgG_u, walkD_t, walkD_l, tupleD_l, tupleD_t, listD_l, listD_t, lenD_t, lenD_l, wipeR_nil, wipeR_cons, Option.bind_some, Option.map_some, List.set_cons_zero, List.set_cons_succ, List.length_cons, List.length_nil, Nat.zero_add, Nat.reduceAdd, Nat.reduceLeDiff, Int.reduceAdd, Int.reduceLE, Int.reduceLT, Int.reduceNeg, Int.reduceSub, Int.reduceMul, Int.reduceEq, Bool.not_true, Bool.not_false, decide_true, decide_false, atI_0, atI_1, atI_2, atI_3, Int.reduceToNat, Tst.enc, ixP, xt_from]; rfl))) ?_
    simp only [gv_0, gv_s, gb_0, gb_s, scr_0, bnd2_ss, consD_, tupD_, lstD_, asgR_s, seqR_nx, seqR_ret, ifR_t, ifR_f, retR_s, retD_s, asB_b, asI_i, addD_ii, subD_ii, modD_ii, gtD_ii, geD_ii, leD_ii, ltD_ii, eqD_ii, eqD_ss, neD_ss, neD_ii, neD_bb, ixD_t, ixD_l, andB_t, andB_f, orB_t, orB_f, notV_b, mixR_, setsR_nil, setsR_cons, tg1_, tgT_1, tgT_2, tgT_4, asgG_u, walkD_t, walkD_l, tupleD_l, tupleD_t, listD_l, listD_t, lenD_t, lenD_l, wipeR_nil, wipeR_cons, Option.bind_some, Option.map_some, List.set_cons_zero, List.set_cons_succ, List.length_cons, List.length_nil, Nat.zero_add, Nat.reduceAdd, Nat.reduceLeDiff, Int.reduceAdd, Int.reduceLE, Int.reduceLT, Int.reduceNeg, Int.reduceSub, Int.reduceMul, Int.reduceEq, Bool.not_true, Bool.not_false, decide_true, decide_false, atI_0, atI_1, atI_2, atI_3, Int.reduceToNat, Tst.enc, partI, sl1_2]
    simp only [forR, Option.bind_some, forD, tg1_, setsR_cons, setsR_nil, List.set_cons_succ, List.set_cons_zero, List.replicate]
    simp only [gv_0, gv_s, gb_0, gb_s, scr_0, bnd2_ss, consD_, tupD_, lstD_, asgR_s, seqR_nx, seqR_ret, ifR_t, ifR_f, retR_s, retD_s, asB_b, asI_i, addD_ii, subD_ii, modD_ii, gtD_ii, geD_ii, leD_ii, ltD_ii, eqD_ii, eqD_ss, neD_ss, neD_ii, neD_bb, ixD_t, ixD_l, andB_t, andB_f, orB_t, orB_f, notV_b, mixR_, setsR_nil, setsR_cons, tg1_, tgT_1, tgT_2, tgT_4, asgG_u, walkD_t, walkD_l, tupleD_l, tupleD_t, listD_l, listD_t, lenD_t, lenD_l, wipeR_nil, wipeR_cons, Option.bind_some, Option.map_some, List.set_cons_zero, List.set_cons_succ, List.length_cons, List.length_nil, Nat.zero_add, Nat.reduceAdd, Nat.reduceLeDiff, Int.reduceAdd, Int.reduceLE, Int.reduceLT, Int.reduceNeg, Int.reduceSub, Int.reduceMul, Int.reduceEq, Bool.not_true, Bool.not_false, decide_true, decide_false, atI_0, atI_1, atI_2, atI_3, Int.reduceToNat, isi_str]
    rfl
  | n + 1, .word s, a, hn, hs => by
    refine runXn (r := [.val (Tst.enc (.word s)), .val (.str s)]) ?_
    refine seq_step (if_yes (by simp only [gv_0, gv_s, gb_0, gb_s, scr_0, bnd2_ss, consD_, tupD_, lstD_, asgR_s, seqR_nx, seqR_ret, ifR_t, ifR_f, retR_s, retD_s, asB_b, asI_i, addD_ii, subD_ii, modD_ii, gtD_ii, geD_ii, leD_ii, ltD_ii, eqD_ii, eqD_ss, neD_ss, neD_ii, neD_bb, ixD_t, ixD_l, andB_t, andB_f, orB_t, orB_f, notV_b, mixR_, setsR_nil, setsR_cons, tg1_, tgT_1, tgT_2, tgT_4, asgG_u, walkD_t, walkD_l, tupleD_l, tupleD_t, listD_l, listD_t, lenD_t, lenD_l, wipeR_nil, wipeR_cons, Option.bind_some, Option.map_some, List.set_cons_zero, List.set_cons_succ, List.length_cons, List.length_nil, Nat.zero_add, Nat.reduceAdd, Nat.reduceLeDiff, Int.reduceAdd, Int.reduceLE, Int.reduceLT, Int.reduceNeg, Int.reduceSub, Int.reduceMul, Int.reduceEq, Bool.not_true, Bool.not_false, decide_true, decide_false, atI_0, atI_1, atI_2, atI_3, Int.reduceToNat, Tst.enc, it_word]) (ap_w s (Nat.le_trans (Nat.le_add_right _ _) hs) (by simp only [gv_0, gv_s, gb_0, gb_s, scr_0, bnd2_ss, consD_, tupD_, lstD_, asgR_s, seqR_nx, seqR_ret, ifR_t, ifR_f, retR_s, retD_s, asB_b, asI_i, addD_ii, subD_ii, modD_ii, gtD_ii, geD_ii, leD_ii, ltD_ii, eqD_ii, eqD_ss, neD_ss, neD_ii, neD_bb, ixD_t, ixD_l, andB_t, andB_f, orB_t, orB_f, notV_b, mixR_, setsR_nil, setsR_cons, tg1_, tgT_1, tgT_2, tgT_4, asgG_u, walkD_t, walkD_l, tupleD_l, tupleD_t, listD_l, listD_t, lenD_t, lenD_l, wipeR_nil, wipeR_cons, Option.bind_some, Option.map_some, List.set_cons_zero, List.set_cons_succ, List.length_cons, List.length_nil, Nat.zero_add, Nat.reduceAdd, Nat.reduceLeDiff, Int.reduceAdd, Int.reduceLE, Int.reduceLT, Int.reduceNeg, Int.reduceSub, Int.reduceMul, Int.reduceEq, Bool.not_true, Bool.not_false, decide_true, decide_false, atI_0, atI_1, atI_2, atI_3, Int.reduceToNat, Tst.enc, ixP, xt_word]; rfl))) ?_
    simp only [gv_0, gv_s, gb_0, gb_s, scr_0, bnd2_ss, consD_, tupD_, lstD_, asgR_s, seqR_nx, seqR_ret, ifR_t, ifR_f, retR_s, retD_s, asB_b, asI_i, addD_ii, subD_ii, modD_ii, gtD_ii, geD_ii, leD_ii, ltD_ii, eqD_ii, eqD_ss, neD_ss, neD_ii, neD_bb, ixD_t, ixD_l, andB_t, andB_f, orB_t, orB_f, notV_b, mixR_, setsR_nil, setsR_cons, tg1_, tgT_1, tgT_2, tgT_4, asgG_u, walkD_t, walkD_l, tupleD_l, tupleD_t, listD_l, listD_t, lenD_t, lenD_l, wipeR_nil, wipeR_cons, Option.bind_some, Option.map_some, List.set_cons_zero, List.set_cons_succ, List.length_cons, List.length_nil, Nat.zero_add, Nat.reduceAdd, Nat.reduceLeDiff, Int.reduceAdd, Int.reduceLE, Int.reduceLT, Int.reduceNeg, Int.reduceSub, Int.reduceMul, Int.reduceEq, Bool.not_true, Bool.not_false, decide_true, decide_false, atI_0, atI_1, atI_2, atI_3, Int.reduceToNat, Tst.enc, partI, sl1_2]
    simp only [forR, Option.bind_some, forD, tg1_, setsR_cons, setsR_nil, List.set_cons_succ, List.set_cons_zero, List.replicate]
    simp only [gv_0, gv_s, gb_0, gb_s, scr_0, bnd2_ss, consD_, tupD_, lstD_, asgR_s, seqR_nx, seqR_ret, ifR_t, ifR_f, retR_s, retD_s, asB_b, asI_i, addD_ii, subD_ii, modD_ii, gtD_ii, geD_ii, leD_ii, ltD_ii, eqD_ii, eqD_ss, neD_ss, neD_ii, neD_bb, ixD_t, ixD_l, andB_t, andB_f, orB_t, orB_f, notV_b, mixR_, setsR_nil, setsR_cons, tg1_, tgT_1, tgT_2, tgT_4, asgG_u, walkD_t, walkD_l, tupleD_l, tupleD_t, listD_l, listD_t, lenD_t, lenD_l, wipeR_nil, wipeR_cons, Option.bind_some, Option.map_some, List.set_cons_zero, List.set_cons_succ, List.length_cons, List.length_nil, Nat.zero_add, Nat.reduceAdd, Nat.reduceLeDiff, Int.reduceAdd, Int.reduceLE, Int.reduceLT, Int.reduceNeg, Int.reduceSub, Int.reduceMul, Int.reduceEq, Bool.not_true, Bool.not_false, decide_true, decide_false, atI_0, atI_1, atI_2, atI_3, Int.reduceToNat, isi_str]
    rfl
  | n + 1, .over s, a, hn, hs => by
    refine runXn (r := [.val (Tst.enc (.over s)), .val (.int s)]) ?_
    refine seq_step (if_yes (by simp only [gv_0, gv_s, gb_0, gb_s, scr_0, bnd2_ss, consD_, tupD_, lstD_, asgR_s, seqR_nx, seqR_ret, ifR_t, ifR_f, retR_s, retD_s, asB_b, asI_i, addD_ii, subD_ii, modD_ii, gtD_ii, geD_ii, leD_ii, ltD_ii, eqD_ii, eqD_ss, neD_ss, neD_ii, neD_bb, ixD_t, ixD_l, andB_t, andB_f, orB_t, orB_f, notV_b, mixR_, setsR_nil, setsR_cons, tg1_, tgT_1, tgT_2, tgT_4, asgG_u, walkD_t, walkD_l, tupleD_l, tupleD_t, listD_l, listD_t, lenD_t, lenD_l, wipeR_nil, wipeR_cons, Option.bind_some, Option.map_some, List.set_cons_zero, List.set_cons_succ, List.length_cons, List.length_nil, Nat.zero_add, Nat.reduceAdd, Nat.reduceLeDiff, Int.reduceAdd, Int.reduceLE, Int.reduceLT, Int.reduceNeg, Int.reduceSub, Int.reduceMul, Int.reduceEq, Bool.not_true, Bool.not_false, decide_true, decide_false, atI_0, atI_1, atI_2, atI_3, Int.reduceToNat, Tst.enc, it_over]) (ap_o s (Nat.le_trans (Nat.le_add_right _ _) hs) (by simp only [gv_0, gv_s, gb_0, gb_s, scr_0, bnd2_ss, consD_, tupD_, lstD_, asgR_s, seqR_nx, seqR_ret, ifR_t, ifR_f, retR_s, retD_s, asB_b, asI_i, addD_ii, subD_ii, modD_ii, gtD_ii, geD_ii, leD_ii, ltD_ii, eqD_ii, eqD_ss, neD_ss, neD_ii, neD_bb, ixD_t, ixD_l, andB_t, andB_f, orB_t, orB_f, notV_b, mixR_, setsR_nil, setsR_cons, tg1_, tgT_1, tgT_2, tgT_4, asgG_u, walkD_t, walkD_l, tupleD_l, tupleD_t, listD_l, listD_t, lenD_t, lenD_l, wipeR_nil, wipeR_cons, Option.bind_some, Option.map_some, List.set_cons_zero, List.set_cons_succ, List.length_cons, List.length_nil, Nat.zero_add, Nat.reduceAdd, Nat.reduceLeDiff, Int.reduceAdd, Int.reduceLE, Int.reduceLT, Int.reduceNeg, Int.reduceSub, Int.reduceMul, Int.reduceEq, Bool.not_true, Bool.not_false, decide_true, decide_false, atI_0, atI_1, atI_2, atI_3, Int.reduceToNat, Tst.enc, ixP, xt_over]; rfl))) ?_
    simp only [gv_0, gv_s, gb_0, gb_s, scr_0, bnd2_ss, consD_, tupD_, lstD_, asgR_s, seqR_nx, seqR_ret, ifR_t, ifR_f, retR_s, retD_s, asB_b, asI_i, addD_ii, subD_ii, modD_ii, gtD_ii, geD_ii, leD_ii, ltD_ii, eqD_ii, eqD_ss, neD_ss, neD_ii, neD_bb, ixD_t, ixD_l, andB_t, andB_f, orB_t, orB_f, notV_b, mixR_, setsR_nil, setsR_cons, tg1_, tgT_1, tgT_2, tgT_4, asgG_u, walkD_t, walkD_l, tupleD_l, tupleD_t, listD_l, listD_t, lenD_t, lenD_l, wipeR_nil, wipeR_cons, Option.bind_some, Option.map_some, List.set_cons_zero, List.set_cons_succ, List.length_cons, List.length_nil, Nat.zero_add, Nat.reduceAdd, Nat.reduceLeDiff, Int.reduceAdd, Int.reduceLE, Int.reduceLT, Int.reduceNeg, Int.reduceSub, Int.reduceMul, Int.reduceEq, Bool.not_true, Bool.not_false, decide_true, decide_false, atI_0, atI_1, atI_2, atI_3, Int.reduceToNat, Tst.enc, partI, sl1_2]
    simp only [forR, Option.bind_some, forD, tg1_, setsR_cons, setsR_nil, List.set_cons_succ, List.set_cons_zero, List.replicate]
    simp only [gv_0, gv_s, gb_0, gb_s, scr_0, bnd2_ss, consD_, tupD_, lstD_, asgR_s, seqR_nx, seqR_ret, ifR_t, ifR_f, retR_s, retD_s, asB_b, asI_i, addD_ii, subD_ii, modD_ii, gtD_ii, geD_ii, leD_ii, ltD_ii, eqD_ii, eqD_ss, neD_ss, neD_ii, neD_bb, ixD_t, ixD_l, andB_t, andB_f, orB_t, orB_f, notV_b, mixR_, setsR_nil, setsR_cons, tg1_, tgT_1, tgT_2, tgT_4, asgG_u, walkD_t, walkD_l, tupleD_l, tupleD_t, listD_l, listD_t, lenD_t, lenD_l, wipeR_nil, wipeR_cons, Option.bind_some, Option.map_some, List.set_cons_zero, List.set_cons_succ, List.length_cons, List.length_nil, Nat.zero_add, Nat.reduceAdd, Nat.reduceLeDiff, Int.reduceAdd, Int.reduceLE, Int.reduceLT, Int.reduceNeg, Int.reduceSub, Int.reduceMul, Int.reduceEq, Bool.not_true, Bool.not_false, decide_true, decide_false, atI_0, atI_1, atI_2, atI_3, Int.reduceToNat, isi_int]
    rfl
  | n + 1, .marked s, a, hn, hs => by
    refine runXn (r := [.val (Tst.enc (.marked s)), .val (.str s)]) ?_
    refine seq_step (if_yes (by simp only [gv_0, gv_s, gb_0, gb_s, scr_0, bnd2_ss, consD_, tupD_, lstD_, asgR_s, seqR_nx, seqR_ret, ifR_t, ifR_f, retR_s, retD_s, asB_b, asI_i, addD_ii, subD_ii, modD_ii, gtD_ii, geD_ii, leD_ii, ltD_ii, eqD_ii, eqD_ss, neD_ss, neD_ii, neD_bb, ixD_t, ixD_l, andB_t, andB_f, orB_t, orB_f, notV_b, mixR_, setsR_nil, setsR_cons, tg1_, tgT_1, tgT_2, tgT_4, asgG_u, walkD_t, walkD_l, tupleD_l, tupleD_t, listD_l, listD_t, lenD_t, lenD_l, wipeR_nil, wipeR_cons, Option.bind_some, Option.map_some, List.set_cons_zero, List.set_cons_succ, List.length_cons, List.length_nil, Nat.zero_add, Nat.reduceAdd, Nat.reduceLeDiff, Int.reduceAdd, Int.reduceLE, Int.reduceLT, Int.reduceNeg, Int.reduceSub, Int.reduceMul, Int.reduceEq, Bool.not_true, Bool.not_false, decide_true, decide_false, atI_0, atI_1, atI_2, atI_3, Int.reduceToNat, Tst.enc, it_marked]) (ap_m s (Nat.le_trans (Nat.le_add_right _ _) hs) (by simp only [gv_0, gv_s, gb_0, gb_s, scr_0, bnd2_ss, consD_, tupD_, lstD_, asgR_s, seqR_nx, seqR_ret, ifR_t, ifR_f, retR_s, retD_s, asB_b, asI_i, addD_ii, subD_ii, modD_ii, gtD_ii, geD_ii, leD_ii, ltD_ii, eqD_ii, eqD_ss, neD_ss, neD_ii, neD_bb, ixD_t, ixD_l, andB_t, andB_f, orB_t, orB_f, notV_b, mixR_, setsR_nil, setsR_cons, tg1_, tgT_1, tgT_2, tgT_4, asgG_u, walkD_t, walkD_l, tupleD_l, tupleD_t, listD_l, listD_t, lenD_t, lenD_l, wipeR_nil, wipeR_cons, Option.bind_some, Option.map_some, List.set_cons_zero, List.set_cons_succ, List.length_cons, List.length_nil, Nat.zero_add, Nat.reduceAdd, Nat.reduceLeDiff, Int.reduceAdd, Int.reduceLE, Int.reduceLT, Int.reduceNeg, Int.reduceSub, Int.reduceMul, Int.reduceEq, Bool.not_true, Bool.not_false, decide_true, decide_false, atI_0, atI_1, atI_2, atI_3, Int.reduceToNat, Tst.enc, ixP, xt_marked]; rfl))) ?_
    simp only [gv_0, gv_s, gb_0, gb_s, scr_0, bnd2_ss, consD_, tupD_, lstD_, asgR_s, seqR_nx, seqR_ret, ifR_t, ifR_f, retR_s, retD_s, asB_b, asI_i, addD_ii, subD_ii, modD_ii, gtD_ii, geD_ii, leD_ii, ltD_ii, eqD_ii, eqD_ss, neD_ss, neD_ii, neD_bb, ixD_t, ixD_l, andB_t, andB_f, orB_t, orB_f, notV_b, mixR_, setsR_nil, setsR_cons, tg1_, tgT_1, tgT_2, tgT_4, asgG_u, walkD_t, walkD_l, tupleD_l, tupleD_t, listD_l, listD_t, lenD_t, lenD_l, wipeR_nil, wipeR_cons, Option.bind_some, Option.map_some, List.set_cons_zero, List.set_cons_succ, List.length_cons, List.length_nil, Nat.zero_add, Nat.reduceAdd, Nat.reduceLeDiff, Int.reduceAdd, Int.reduceLE, Int.reduceLT, Int.reduceNeg, Int.reduceSub, Int.reduceMul, Int.reduceEq, Bool.not_true, Bool.not_false, decide_true, decide_false, atI_0, atI_1, atI_2, atI_3, Int.reduceToNat, Tst.enc, partI, sl1_2]
    simp only [forR, Option.bind_some, forD, tg1_, setsR_cons, setsR_nil, List.set_cons_succ, List.set_cons_zero, List.replicate]
    simp only [gv_0, gv_s, gb_0, gb_s, scr_0, bnd2_ss, consD_, tupD_, lstD_, asgR_s, seqR_nx, seqR_ret, ifR_t, ifR_f, retR_s, retD_s, asB_b, asI_i, addD_ii, subD_ii, modD_ii, gtD_ii, geD_ii, leD_ii, ltD_ii, eqD_ii, eqD_ss, neD_ss, neD_ii, neD_bb, ixD_t, ixD_l, andB_t, andB_f, orB_t, orB_f, notV_b, mixR_, setsR_nil, setsR_cons, tg1_, tgT_1, tgT_2, tgT_4, asgG_u, walkD_t, walkD_l, tupleD_l, tupleD_t, listD_l, listD_t, lenD_t, lenD_l, wipeR_nil, wipeR_cons, Option.bind_some, Option.map_some, List.set_cons_zero, List.set_cons_succ, List.length_cons, List.length_nil, Nat.zero_add, Nat.reduceAdd, Nat.reduceLeDiff, Int.reduceAdd, Int.reduceLE, Int.reduceLT, Int.reduceNeg, Int.reduceSub, Int.reduceMul, Int.reduceEq, Bool.not_true, Bool.not_false, decide_true, decide_false, atI_0, atI_1, atI_2, atI_3, Int.reduceToNat, isi_str]
    rfl
  | n + 1, .yes, a, hn, hs => by
    refine runXn (r := [.val (Tst.enc .yes), .no]) ?_
    refine seq_step (if_no (by simp only [gv_0, gv_s, gb_0, gb_s, scr_0, bnd2_ss, consD_, tupD_, lstD_, asgR_s, seqR_nx, seqR_ret, ifR_t, ifR_f, retR_s, retD_s, asB_b, asI_i, addD_ii, subD_ii, modD_ii, gtD_ii, geD_ii, leD_ii, ltD_ii, eqD_ii, eqD_ss, neD_ss, neD_ii, neD_bb, ixD_t, ixD_l, andB_t, andB_f, orB_t, orB_f, notV_b, mixR_, setsR_nil, setsR_cons, tg1_, tgT_1, tgT_2, tgT_4, asgG_u, walkD_t, walkD_l, tupleD_l, tupleD_t, listD_l, listD_t, lenD_t, lenD_l, wipeR_nil, wipeR_cons, Option.bind_some, Option.map_some, List.set_cons_zero, List.set_cons_succ, List.length_cons, List.length_nil, Nat.zero_add, Nat.reduceAdd, Nat.reduceLeDiff, Int.reduceAdd, Int.reduceLE, Int.reduceLT, Int.reduceNeg, Int.reduceSub, Int.reduceMul, Int.reduceEq, Bool.not_true, Bool.not_false, decide_true, decide_false, atI_0, atI_1, atI_2, atI_3, Int.reduceToNat, Tst.enc, it_yes]) rfl) ?_
    simp only [gv_0, gv_s, gb_0, gb_s, scr_0, bnd2_ss, consD_, tupD_, lstD_, asgR_s, seqR_nx, seqR_ret, ifR_t, ifR_f, retR_s, retD_s, asB_b, asI_i, addD_ii, subD_ii, modD_ii, gtD_ii, geD_ii, leD_ii, ltD_ii, eqD_ii, eqD_ss, neD_ss, neD_ii, neD_bb, ixD_t, ixD_l, andB_t, andB_f, orB_t, orB_f, notV_b, mixR_, setsR_nil, setsR_cons, tg1_, tgT_1, tgT_2, tgT_4, asgG_u, walkD_t, walkD_l, tupleD_l, tupleD_t, listD_l, listD_t, lenD_t, lenD_l, wipeR_nil, wipeR_cons, Option.bind_some, Option.map_some, List.set_cons_zero, List.set_cons_succ, List.length_cons, List.length_nil, Nat.zero_add, Nat.reduceAdd, Nat.reduceLeDiff, Int.reduceAdd, Int.reduceLE, Int.reduceLT, Int.reduceNeg, Int.reduceSub, Int.reduceMul, Int.reduceEq, Bool.not_true, Bool.not_false, decide_true, decide_false, atI_0, atI_1, atI_2, atI_3, Int.reduceToNat, Tst.enc, partI, sl1_1]
    rw [show tn .yes = .nil from rfl, Nm.app_nil]
    rfl
  | n + 1, .not t, a, hn, hs => by
    simp only [Tst.dep, Nat.pow_succ] at hn hs
    have h1 := note_eq n t a (by omega) (by omega)
    refine runXn (r := [.val (Tst.enc (.not t)), .val t.enc]) ?_
    refine seq_step (if_no (by simp only [gv_0, gv_s, gb_0, gb_s, scr_0, bnd2_ss, consD_, tupD_, lstD_, asgR_s, seqR_nx, seqR_ret, ifR_t, ifR_f, retR_s, retD_s, asB_b, asI_i, addD_ii, subD_ii, modD_ii, gtD_ii, geD_ii, leD_ii, ltD_ii, eqD_ii, eqD_ss, neD_ss, neD_ii, neD_bb, ixD_t, ixD_l, andB_t, andB_f, orB_t, orB_f, notV_b, mixR_, setsR_nil, setsR_cons, tg1_, tgT_1, tgT_2, tgT_4, asgG_u, walkD_t, walkD_l, tupleD_l, tupleD_t, listD_l, listD_t, lenD_t, lenD_l, wipeR_nil, wipeR_cons, Option.bind_some, Option.map_some, List.set_cons_zero, List.set_cons_succ, List.length_cons, List.length_nil, Nat.zero_add, Nat.reduceAdd, Nat.reduceLeDiff, Int.reduceAdd, Int.reduceLE, Int.reduceLT, Int.reduceNeg, Int.reduceSub, Int.reduceMul, Int.reduceEq, Bool.not_true, Bool.not_false, decide_true, decide_false, atI_0, atI_1, atI_2, atI_3, Int.reduceToNat, Tst.enc, it_not]) rfl) ?_
    simp only [gv_0, gv_s, gb_0, gb_s, scr_0, bnd2_ss, consD_, tupD_, lstD_, asgR_s, seqR_nx, seqR_ret, ifR_t, ifR_f, retR_s, retD_s, asB_b, asI_i, addD_ii, subD_ii, modD_ii, gtD_ii, geD_ii, leD_ii, ltD_ii, eqD_ii, eqD_ss, neD_ss, neD_ii, neD_bb, ixD_t, ixD_l, andB_t, andB_f, orB_t, orB_f, notV_b, mixR_, setsR_nil, setsR_cons, tg1_, tgT_1, tgT_2, tgT_4, asgG_u, walkD_t, walkD_l, tupleD_l, tupleD_t, listD_l, listD_t, lenD_t, lenD_l, wipeR_nil, wipeR_cons, Option.bind_some, Option.map_some, List.set_cons_zero, List.set_cons_succ, List.length_cons, List.length_nil, Nat.zero_add, Nat.reduceAdd, Nat.reduceLeDiff, Int.reduceAdd, Int.reduceLE, Int.reduceLT, Int.reduceNeg, Int.reduceSub, Int.reduceMul, Int.reduceEq, Bool.not_true, Bool.not_false, decide_true, decide_false, atI_0, atI_1, atI_2, atI_3, Int.reduceToNat, Tst.enc, partI, sl1_2]
    show forD tg1 [2] (bodyN (m_note n)) [t.enc] [.own ⟨a.ob, true⟩, .val (.tuple [.str "not", t.enc]), .no] = _
    simp only [forD, tg1_, setsR_cons, setsR_nil, List.set_cons_succ, List.set_cons_zero, bodyN_t h1]
    rfl
  | n + 1, .both t u, a, hn, hs => by
    simp only [Tst.dep, Nat.pow_succ] at hn hs
    have e1 : 2 ^ t.dep ≤ 2 ^ (max t.dep u.dep) := Nat.pow_le_pow_right (by decide) (by omega)
    have e2 : 2 ^ u.dep ≤ 2 ^ (max t.dep u.dep) := Nat.pow_le_pow_right (by decide) (by omega)
    have h1 := note_eq n t a (by omega) (by omega)
    have h2 := note_eq n u (a.app (tn t)) (by omega) (by have := tn_size t; rw [size_app]; omega)
    refine runXn (r := [.val (Tst.enc (.both t u)), .val u.enc]) ?_
    refine seq_step (if_no (by simp only [gv_0, gv_s, gb_0, gb_s, scr_0, bnd2_ss, consD_, tupD_, lstD_, asgR_s, seqR_nx, seqR_ret, ifR_t, ifR_f, retR_s, retD_s, asB_b, asI_i, addD_ii, subD_ii, modD_ii, gtD_ii, geD_ii, leD_ii, ltD_ii, eqD_ii, eqD_ss, neD_ss, neD_ii, neD_bb, ixD_t, ixD_l, andB_t, andB_f, orB_t, orB_f, notV_b, mixR_, setsR_nil, setsR_cons, tg1_, tgT_1, tgT_2, tgT_4, asgG_u, walkD_t, walkD_l, tupleD_l, tupleD_t, listD_l, listD_t, lenD_t, lenD_l, wipeR_nil, wipeR_cons, Option.bind_some, Option.map_some, List.set_cons_zero, List.set_cons_succ, List.length_cons, List.length_nil, Nat.zero_add, Nat.reduceAdd, Nat.reduceLeDiff, Int.reduceAdd, Int.reduceLE, Int.reduceLT, Int.reduceNeg, Int.reduceSub, Int.reduceMul, Int.reduceEq, Bool.not_true, Bool.not_false, decide_true, decide_false, atI_0, atI_1, atI_2, atI_3, Int.reduceToNat, Tst.enc, it_both]) rfl) ?_
    simp only [gv_0, gv_s, gb_0, gb_s, scr_0, bnd2_ss, consD_, tupD_, lstD_, asgR_s, seqR_nx, seqR_ret, ifR_t, ifR_f, retR_s, retD_s, asB_b, asI_i, addD_ii, subD_ii, modD_ii, gtD_ii, geD_ii, leD_ii, ltD_ii, eqD_ii, eqD_ss, neD_ss, neD_ii, neD_bb, ixD_t, ixD_l, andB_t, andB_f, orB_t, orB_f, notV_b, mixR_, setsR_nil, setsR_cons, tg1_, tgT_1, tgT_2, tgT_4, asgG_u, walkD_t, walkD_l, tupleD_l, tupleD_t, listD_l, listD_t, lenD_t, lenD_l, wipeR_nil, wipeR_cons, Option.bind_some, Option.map_some, List.set_cons_zero, List.set_cons_succ, List.length_cons, List.length_nil, Nat.zero_add, Nat.reduceAdd, Nat.reduceLeDiff, Int.reduceAdd, Int.reduceLE, Int.reduceLT, Int.reduceNeg, Int.reduceSub, Int.reduceMul, Int.reduceEq, Bool.not_true, Bool.not_false, decide_true, decide_false, atI_0, atI_1, atI_2, atI_3, Int.reduceToNat, Tst.enc, partI, sl1_3]
    show forD tg1 [2] (bodyN (m_note n)) [t.enc, u.enc] [.own ⟨a.ob, true⟩, .val (.tuple [.str "both", t.enc, u.enc]), .no] = _
    simp only [forD, tg1_, setsR_cons, setsR_nil, List.set_cons_succ, List.set_cons_zero, bodyN_t h1, bodyN_t h2]
    rw [Nm.app_assoc]; rfl
  | n + 1, .either t u, a, hn, hs => by
    simp only [Tst.dep, Nat.pow_succ] at hn hs
    have e1 : 2 ^ t.dep ≤ 2 ^ (max t.dep u.dep) := Nat.pow_le_pow_right (by decide) (by omega)
    have e2 : 2 ^ u.dep ≤ 2 ^ (max t.dep u.dep) := Nat.pow_le_pow_right (by decide) (by omega)
    have h1 := note_eq n t a (by omega) (by omega)
    have h2 := note_eq n u (a.app (tn t)) (by omega) (by have := tn_size t; rw [size_app]; omega)
    refine runXn (r := [.val (Tst.enc (.either t u)), .val u.enc]) ?_
    refine seq_step (if_no (by simp only [gv_0, gv_s, gb_0, gb_s, scr_0, bnd2_ss, consD_, tupD_, lstD_, asgR_s, seqR_nx, seqR_ret, ifR_t, ifR_f, retR_s, retD_s, asB_b, asI_i, addD_ii, subD_ii, modD_ii, gtD_ii, geD_ii, leD_ii, ltD_ii, eqD_ii, eqD_ss, neD_ss, neD_ii, neD_bb, ixD_t, ixD_l, andB_t, andB_f, orB_t, orB_f, notV_b, mixR_, setsR_nil, setsR_cons, tg1_, tgT_1, tgT_2, tgT_4, asgG_u, walkD_t, walkD_l, tupleD_l, tupleD_t, listD_l, listD_t, lenD_t, lenD_l, wipeR_nil, wipeR_cons, Option.bind_some, Option.map_some, List.set_cons_zero, List.set_cons_succ, List.length_cons, List.length_nil, Nat.zero_add, Nat.reduceAdd, Nat.reduceLeDiff, Int.reduceAdd, Int.reduceLE, Int.reduceLT, Int.reduceNeg, Int.reduceSub, Int.reduceMul, Int.reduceEq, Bool.not_true, Bool.not_false, decide_true, decide_false, atI_0, atI_1, atI_2, atI_3, Int.reduceToNat, Tst.enc, it_either]) rfl) ?_
    simp only [gv_0, gv_s, gb_0, gb_s, scr_0, bnd2_ss, consD_, tupD_, lstD_, asgR_s, seqR_nx, seqR_ret, ifR_t, ifR_f, retR_s, retD_s, asB_b, asI_i, addD_ii, subD_ii, modD_ii, gtD_ii, geD_ii, leD_ii, ltD_ii, eqD_ii, eqD_ss, neD_ss, neD_ii, neD_bb, ixD_t, ixD_l, andB_t, andB_f, orB_t, orB_f, notV_b, mixR_, setsR_nil, setsR_cons, tg1_, tgT_1, tgT_2, tgT_4, asgG_u, walkD_t, walkD_l, tupleD_l, tupleD_t, listD_l, listD_t, lenD_t, lenD_l, wipeR_nil, wipeR_cons, Option.bind_some, Option.map_some, List.set_cons_zero, List.set_cons_succ, List.length_cons, List.length_nil, Nat.zero_add, Nat.reduceAdd, Nat.reduceLeDiff, Int.reduceAdd, Int.reduceLE, Int.reduceLT, Int.reduceNeg, Int.reduceSub, Int.reduceMul, Int.reduceEq, Bool.not_true, Bool.not_false, decide_true, decide_false, atI_0, atI_1, atI_2, atI_3, Int.reduceToNat, Tst.enc, partI, sl1_3]
    show forD tg1 [2] (bodyN (m_note n)) [t.enc, u.enc] [.own ⟨a.ob, true⟩, .val (.tuple [.str "either", t.enc, u.enc]), .no] = _
    simp only [forD, tg1_, setsR_cons, setsR_nil, List.set_cons_succ, List.set_cons_zero, bodyN_t h1, bodyN_t h2]
    rw [Nm.app_assoc]; rfl
/-! ### a book -/
theorem for_pre {α : Type} (enc : α → PyData) {h : PyData → Option (List PyData)} {is : List Nat} {body : Rho → Option Res} (es : α → List PyData) (I : List α → Rho → Prop) :
    ∀ (xs pre : List α) (ρ : Rho), (∀ x ∈ xs, h (enc x) = some (es x)) → (∀ pre' x post, pre' ++ x :: post = pre ++ xs → ∀ ρ, I pre' ρ → Nx (I (pre' ++ [x])) (body (setsR ρ is (es x)))) → I pre ρ → Nx (I (pre ++ xs)) (forR (some (xs.map enc)) h is body ρ)
  | [], pre, ρ, _, _, hI => ⟨ρ, rfl, by rw [List.append_nil]; exact hI⟩
  | x :: xs, pre, ρ, h1, h2, hI => by
    obtain ⟨ρ1, e1, r1⟩ := h2 pre x xs rfl ρ hI
    obtain ⟨ρ2, e2, r2⟩ := for_pre enc es I xs (pre ++ [x]) ρ1 (fun y hy => h1 y (List.mem_cons_of_mem _ hy)) (fun p y q e => h2 p y q (by rw [e, List.append_assoc]; rfl)) r1
    refine ⟨ρ2, ?_, by rw [List.append_assoc] at r2; exact r2⟩
    simp only [List.map_cons, forR, Option.bind_some, forD, h1 x List.mem_cons_self, e1]
    exact e2
def Deed.isMk : Deed → Bool
  | .mark _ => true
  | .unmark _ => true
  | _ => false
def Deed.arg : Deed → Str
  | .call n => n
  | .drop => "drop"
  | .stop => "stop"
  | .lay n => n
  | .send n => n
  | .ans n => n
  | .mark n => n
  | .unmark n => n
def mks (ds : List Deed) : List Str := (ds.filter Deed.isMk).map Deed.arg
def Nm.of (ns : List Nm) : Nm := ⟨ns.flatMap (·.f), ns.flatMap (·.w), ns.flatMap (·.o), ns.flatMap (·.m)⟩
theorem of_snoc (ns : List Nm) (x : Nm) : Nm.of (ns ++ [x]) = (Nm.of ns).app x := by simp [Nm.of, Nm.app]
theorem of_nil : Nm.of [] = .nil := rfl
theorem of_size {c : Nat} : ∀ {ns : List Nm}, (∀ x ∈ ns, x.size ≤ c) → (Nm.of ns).size ≤ ns.length * c
  | [], _ => by simp [Nm.of, Nm.size]
  | x :: ns, h => by
    have h1 := h x List.mem_cons_self
    have h2 := of_size (ns := ns) fun y hy => h y (List.mem_cons_of_mem _ hy)
    simp only [Nm.of, Nm.size, List.flatMap_cons, List.length_append, List.length_cons, Nat.add_mul] at h1 h2 ⊢
    omega
def nmRule (r : Rul) : Nm := (tn r.1).app ⟨[], [], [], mks r.2⟩
def nmRules (rs : List Rul) : Nm := Nm.of (rs.map nmRule)
def nameB (b : Book) : Nm := Nm.of (b.map fun p => nmRules p.2)
theorem nmRule_size {r : Rul} (hd : r.1.dep ≤ 3) (hl : r.2.length ≤ 8) : (nmRule r).size ≤ 16 := by
  have h1 := tn_size r.1
  have h2 : 2 ^ r.1.dep ≤ 2 ^ 3 := Nat.pow_le_pow_right (by decide) hd
  have h3 : (mks r.2).length ≤ r.2.length := by unfold mks; rw [List.length_map]; exact List.length_filter_le ..
  unfold nmRule
  rw [size_app]
  simp only [Nm.size, List.length_nil] at h1 ⊢
  omega
theorem ext_m {b : Bool} {x0 : Sl} {r : Rho} {a : Nm} (ms : List Str) (hl : a.size + ms.length ≤ 1000) : extP 1 (fun ρ => ixP 1 (fun ρ => some []) ρ (some (.int 3))) (x0 :: .own ⟨a.ob, b⟩ :: r) (some (.list (ms.map .str))) = some (.nx (x0 :: .own ⟨(a.app ⟨[], [], [], ms⟩).ob, b⟩ :: r)) := by
  unfold extP
  simp only [Option.bind_some, isL]
  unfold mutR
  show ((extO (ms.map .str) (strL a.m)).map fun o2 => Res.nx (x0 :: .own ⟨setP a.ob [3] o2, b⟩ :: r)) = _
  have : extO (ms.map .str) (strL a.m) = some (strL (a.m ++ ms)) := by
    unfold strL lO extO
    dsimp only
    rw [if_pos (lenOk_ (by unfold Nm.size at hl; simp; omega))]
    simp
  rw [this]
  simp [Nm.ob, Nm.app, setP]
theorem deed_0 (d : Deed) : ∃ w : Str, ixD d.enc (.int 0) = some (.str w) ∧ nmOk w = true ∧ (decide (w ∈ (["mark", "unmark"] : List Str)) = d.isMk) := by
  cases d with
  | call n => exact ⟨"call", rfl, by decide +kernel, show decide (("call" : Str) ∈ (["mark", "unmark"] : List Str)) = false by decide +kernel⟩
  | drop => exact ⟨"drop", rfl, by decide +kernel, show decide (("drop" : Str) ∈ (["mark", "unmark"] : List Str)) = false by decide +kernel⟩
  | stop => exact ⟨"stop", rfl, by decide +kernel, show decide (("stop" : Str) ∈ (["mark", "unmark"] : List Str)) = false by decide +kernel⟩
  | lay n => exact ⟨"lay", rfl, by decide +kernel, show decide (("lay" : Str) ∈ (["mark", "unmark"] : List Str)) = false by decide +kernel⟩
  | send n => exact ⟨"send", rfl, by decide +kernel, show decide (("send" : Str) ∈ (["mark", "unmark"] : List Str)) = false by decide +kernel⟩
  | ans n => exact ⟨"answer", rfl, by decide +kernel, show decide (("answer" : Str) ∈ (["mark", "unmark"] : List Str)) = false by decide +kernel⟩
  | mark n => exact ⟨"mark", rfl, by decide +kernel, show decide (("mark" : Str) ∈ (["mark", "unmark"] : List Str)) = true by decide +kernel⟩
  | unmark n => exact ⟨"unmark", rfl, by decide +kernel, show decide (("unmark" : Str) ∈ (["mark", "unmark"] : List Str)) = true by decide +kernel⟩
theorem deed_1 {d : Deed} (h : d.isMk = true) : ixD d.enc (.int 1) = some (.str d.arg) := by
  cases d <;> first | rfl | cases h
theorem comp_mks {ρ : Rho} {ds : List Deed} (hl : ds.length ≤ 1000) (h6 : ∀ v, gb 6 (setsR (wipeR ρ [6]) [6] [v]) = some v) : compL (some (ds.map Deed.enc)) tg1 [6] (fun ρ => (bnd2 (bnd2 (gb 6 ρ) (some (.int 0)) ixD) (((bnd2 (some (.str "mark")) ((bnd2 (some (.str "unmark")) (some []) consD)) consD)).bind tupD) inD).bind asB) (fun ρ => bnd2 (gb 6 ρ) (some (.int 1)) ixD) [6] ρ = some (.list ((mks ds).map .str)) := by
  rw [compL_gen Deed.enc (fun d => [d.enc]) Deed.isMk (fun d => .str d.arg) ds hl (fun _ _ => rfl) (fun d _ => ?_) (fun d _ hd => ?_)]
  · unfold mks; rw [List.map_map]; rfl
  · obtain ⟨w, e1, e2, e3⟩ := deed_0 d
    rw [h6]
    simp only [gv_0, gv_s, gb_0, gb_s, scr_0, bnd2_ss, consD_, tupD_, lstD_, asgR_s, seqR_nx, seqR_ret, ifR_t, ifR_f, retR_s, retD_s, asB_b, asI_i, addD_ii, subD_ii, modD_ii, gtD_ii, geD_ii, leD_ii, ltD_ii, eqD_ii, eqD_ss, neD_ss, neD_ii, neD_bb, ixD_t, ixD_l, andB_t, andB_f, orB_t, orB_f, notV_b, mixR_, setsR_nil, setsR_cons, tg1_, tgT_1, tgT_2, tgT_4, asgG_u, walkD_t, walkD_l, tupleD_l, tupleD_t, listD_l, listD_t, lenD_t, lenD_l, wipeR_nil, wipeR_cons, Option.bind_some, Option.map_some, List.set_cons_zero, List.set_cons_succ, List.length_cons, List.length_nil, Nat.zero_add, Nat.reduceAdd, Nat.reduceLeDiff, Int.reduceAdd, Int.reduceLE, Int.reduceLT, Int.reduceNeg, Int.reduceSub, Int.reduceMul, Int.reduceEq, Bool.not_true, Bool.not_false, decide_true, decide_false, atI_0, atI_1, atI_2, atI_3, Int.reduceToNat, e1]
    rw [show PyData.tuple [.str "mark", .str "unmark"] = .tuple ((["mark", "unmark"] : List Str).map .str) from rfl, inD_t w _ (by decide +kernel) e2, e3]
    rfl
  · rw [h6]
    simp only [gv_0, gv_s, gb_0, gb_s, scr_0, bnd2_ss, consD_, tupD_, lstD_, asgR_s, seqR_nx, seqR_ret, ifR_t, ifR_f, retR_s, retD_s, asB_b, asI_i, addD_ii, subD_ii, modD_ii, gtD_ii, geD_ii, leD_ii, ltD_ii, eqD_ii, eqD_ss, neD_ss, neD_ii, neD_bb, ixD_t, ixD_l, andB_t, andB_f, orB_t, orB_f, notV_b, mixR_, setsR_nil, setsR_cons, tg1_, tgT_1, tgT_2, tgT_4, asgG_u, walkD_t, walkD_l, tupleD_l, tupleD_t, listD_l, listD_t, lenD_t, lenD_l, wipeR_nil, wipeR_cons, Option.bind_some, Option.map_some, List.set_cons_zero, List.set_cons_succ, List.length_cons, List.length_nil, Nat.zero_add, Nat.reduceAdd, Nat.reduceLeDiff, Int.reduceAdd, Int.reduceLE, Int.reduceLT, Int.reduceNeg, Int.reduceSub, Int.reduceMul, Int.reduceEq, Bool.not_true, Bool.not_false, decide_true, decide_false, atI_0, atI_1, atI_2, atI_3, Int.reduceToNat, deed_1 hd]
def nmT (a : Nm) : PyData := .tuple [strsD (rset a.f), strsD (rset a.w), intsT (rsetI a.o), strsD (rset a.m)]
theorem named_eq {b : Book} (hb : b.good = true) : m_named 4 [b.enc] = some (nmT (nameB b)) := by
  have g := Book.good.of hb
  have sz : ∀ p ∈ b, ∀ rs : List Rul, (∀ r ∈ rs, r ∈ p.2) → rs.length ≤ 8 → (nmRules rs).size ≤ 128 := fun p hp rs hr hl => by
    have := of_size (ns := rs.map nmRule) (c := 16) fun x hx => by
      obtain ⟨r, h, rfl⟩ := List.mem_map.mp hx
      exact nmRule_size (g.dep p hp r (hr r h)) (g.few p hp r (hr r h))
    rw [List.length_map] at this
    unfold nmRules
    omega
  have szB : ∀ c : Book, (∀ p ∈ c, p ∈ b) → c.length ≤ 5 → (nameB c).size ≤ 640 := fun c hc hl => by
    have := of_size (ns := c.map fun p => nmRules p.2) (c := 128) fun x hx => by
      obtain ⟨p, h, rfl⟩ := List.mem_map.mp hx
      exact sz p (hc p h) p.2 (fun r h => h) (g.rl p (hc p h))
    rw [List.length_map] at this
    unfold nameB
    omega
  refine run_step rfl ?_
  unfold fb_named
  refine seq_step (ρ := [.val b.enc, .own ⟨Nm.nil.ob, false⟩, .no, .no, .no, .no, .no, .no]) rfl ?_
  obtain ⟨ρ', e, x2, x3, x4, x5, x6, x7, rfl⟩ := for_pre (fun p : Str × List Rul => PyData.tuple [.str p.1, rulesD p.2]) (h := tgT 2 (tgC tg1 (tgC tg1 tgN))) (is := [2, 3])
    (body := fun ρ => forR ((gv 3 ρ).bind walkD) (tgT 2 (tgC tg1 (tgC tg1 tgN))) [4, 5] (fun ρ =>
      seqR (dropX (callX 1 (fun ρ => some []) (m_note 4) ρ ((bnd2 (gv 4 ρ) (some []) consD)))) fun ρ =>
      extP 1 (fun ρ => ixP 1 (fun ρ => some []) ρ (some (.int 3))) ρ (compL ((gb 5 ρ).bind walkD) tg1 [6] (fun ρ => (bnd2 (bnd2 (gb 6 ρ) (some (.int 0)) ixD) (((bnd2 (some (.str "mark")) ((bnd2 (some (.str "unmark")) (some []) consD)) consD)).bind tupD) inD).bind asB) (fun ρ => bnd2 (gb 6 ρ) (some (.int 1)) ixD) [6] ρ)) ρ)
    (fun p => [.str p.1, rulesD p.2]) (fun pre ρ => ∃ x2 x3 x4 x5 x6 x7, ρ = [.val b.enc, .own ⟨(nameB pre).ob, false⟩, x2, x3, x4, x5, x6, x7]) b [] [.val b.enc, .own ⟨Nm.nil.ob, false⟩, .no, .no, .no, .no, .no, .no] (fun _ _ => rfl) (by
    rintro pre p post epp ρ ⟨x2, x3, x4, x5, x6, x7, rfl⟩
    rw [List.nil_append] at epp
    have hp : p ∈ b := by rw [← epp]; simp
    have hpre : ∀ q ∈ pre, q ∈ b := fun q hq => by rw [← epp]; exact List.mem_append_left _ hq
    have lpre : pre.length ≤ 5 := by have := g.len; rw [← epp] at this; simp at this; omega
    simp only [gv_0, gv_s, gb_0, gb_s, scr_0, bnd2_ss, consD_, tupD_, lstD_, asgR_s, seqR_nx, seqR_ret, ifR_t, ifR_f, retR_s, retD_s, asB_b, asI_i, addD_ii, subD_ii, modD_ii, gtD_ii, geD_ii, leD_ii, ltD_ii, eqD_ii, eqD_ss, neD_ss, neD_ii, neD_bb, ixD_t, ixD_l, andB_t, andB_f, orB_t, orB_f, notV_b, mixR_, setsR_nil, setsR_cons, tg1_, tgT_1, tgT_2, tgT_4, asgG_u, walkD_t, walkD_l, tupleD_l, tupleD_t, listD_l, listD_t, lenD_t, lenD_l, wipeR_nil, wipeR_cons, Option.bind_some, Option.map_some, List.set_cons_zero, List.set_cons_succ, List.length_cons, List.length_nil, Nat.zero_add, Nat.reduceAdd, Nat.reduceLeDiff, Int.reduceAdd, Int.reduceLE, Int.reduceLT, Int.reduceNeg, Int.reduceSub, Int.reduceMul, Int.reduceEq, Bool.not_true, Bool.not_false, decide_true, decide_false, atI_0, atI_1, atI_2, atI_3, Int.reduceToNat, walk_rules]
    have := for_pre Rul.enc (h := tgT 2 (tgC tg1 (tgC tg1 tgN))) (is := [4, 5]) (body := fun ρ =>
      seqR (dropX (callX 1 (fun ρ => some []) (m_note 4) ρ ((bnd2 (gv 4 ρ) (some []) consD)))) fun ρ =>
      extP 1 (fun ρ => ixP 1 (fun ρ => some []) ρ (some (.int 3))) ρ (compL ((gb 5 ρ).bind walkD) tg1 [6] (fun ρ => (bnd2 (bnd2 (gb 6 ρ) (some (.int 0)) ixD) (((bnd2 (some (.str "mark")) ((bnd2 (some (.str "unmark")) (some []) consD)) consD)).bind tupD) inD).bind asB) (fun ρ => bnd2 (gb 6 ρ) (some (.int 1)) ixD) [6] ρ))
      (fun r => [r.1.enc, .tuple (r.2.map Deed.enc)]) (fun rs ρ => ∃ x4 x5 x6 x7, ρ = [.val b.enc, .own ⟨((nameB pre).app (nmRules rs)).ob, false⟩, .val (.str p.1), .val (rulesD p.2), x4, x5, x6, x7]) p.2 [] [.val b.enc, .own ⟨(nameB pre).ob, false⟩, .val (.str p.1), .val (rulesD p.2), x4, x5, x6, x7] (fun _ _ => rfl) (by
        rintro rs r post2 err ρ ⟨x4, x5, x6, x7, rfl⟩
        rw [List.nil_append] at err
        have hr : r ∈ p.2 := by rw [← err]; simp
        have hrs : ∀ q ∈ rs, q ∈ p.2 := fun q hq => by rw [← err]; exact List.mem_append_left _ hq
        have lrs : rs.length ≤ 8 := by have := g.rl p hp; rw [← err] at this; simp at this; omega
        have s1 := szB pre hpre lpre
        have s2 := sz p hp rs hrs lrs
        have s3 : 2 ^ r.1.dep ≤ 2 ^ 3 := Nat.pow_le_pow_right (by decide) (g.dep p hp r hr)
        have s4 := tn_size r.1
        have s5 := g.few p hp r hr
        have hn := note_eq 4 r.1 ((nameB pre).app (nmRules rs)) (by have := g.dep p hp r hr; omega) (by rw [size_app]; omega)
        have hm : (mks r.2).length ≤ r.2.length := by unfold mks; rw [List.length_map]; exact List.length_filter_le ..
        refine nx_step (ρ := [.val b.enc, .own ⟨(((nameB pre).app (nmRules rs)).app (tn r.1)).ob, false⟩, .val (.str p.1), .val (rulesD p.2), .val r.1.enc, .val (.tuple (r.2.map Deed.enc)), x6, x7]) (by
          simp only [gv_0, gv_s, gb_0, gb_s, scr_0, bnd2_ss, consD_, tupD_, lstD_, asgR_s, seqR_nx, seqR_ret, ifR_t, ifR_f, retR_s, retD_s, asB_b, asI_i, addD_ii, subD_ii, modD_ii, gtD_ii, geD_ii, leD_ii, ltD_ii, eqD_ii, eqD_ss, neD_ss, neD_ii, neD_bb, ixD_t, ixD_l, andB_t, andB_f, orB_t, orB_f, notV_b, mixR_, setsR_nil, setsR_cons, tg1_, tgT_1, tgT_2, tgT_4, asgG_u, walkD_t, walkD_l, tupleD_l, tupleD_t, listD_l, listD_t, lenD_t, lenD_l, wipeR_nil, wipeR_cons, Option.bind_some, Option.map_some, List.set_cons_zero, List.set_cons_succ, List.length_cons, List.length_nil, Nat.zero_add, Nat.reduceAdd, Nat.reduceLeDiff, Int.reduceAdd, Int.reduceLE, Int.reduceLT, Int.reduceNeg, Int.reduceSub, Int.reduceMul, Int.reduceEq, Bool.not_true, Bool.not_false, decide_true, decide_false, atI_0, atI_1, atI_2, atI_3, Int.reduceToNat]
          show dropX ((m_note 4 ((nameB pre).app (nmRules rs)).ob [r.1.enc]).map _) = _
          rw [hn]; rfl) ?_
        refine nx_fin (step_of (fun o => extP 1 _ _ o) (comp_mks (ds := r.2) (by omega) (fun v => rfl)) (ext_m _ (by rw [size_app, size_app]; omega))) ⟨.val r.1.enc, .val (.tuple (r.2.map Deed.enc)), x6, x7, ?_⟩
        rw [show nmRules (rs ++ [r]) = (nmRules rs).app (nmRule r) by unfold nmRules; rw [List.map_append, List.map_singleton, of_snoc], ← Nm.app_assoc]
        unfold nmRule
        rw [← Nm.app_assoc])
      ⟨_, _, _, _, by rw [show nmRules [] = .nil from rfl, Nm.app_nil]⟩
    refine nx_imp this ?_
    rintro ρ ⟨x4, x5, x6, x7, rfl⟩
    refine ⟨.val (.str p.1), .val (rulesD p.2), x4, x5, x6, x7, ?_⟩
    rw [show nameB (pre ++ [p]) = (nameB pre).app (nmRules p.2) by unfold nameB; rw [List.map_append, List.map_singleton, of_snoc]]
    rfl) ⟨_, _, _, _, _, _, rfl⟩
  rw [List.nil_append] at e
  refine seq_step (by simp only [gv_0, gv_s, gb_0, gb_s, scr_0, bnd2_ss, consD_, tupD_, lstD_, asgR_s, seqR_nx, seqR_ret, ifR_t, ifR_f, retR_s, retD_s, asB_b, asI_i, addD_ii, subD_ii, modD_ii, gtD_ii, geD_ii, leD_ii, ltD_ii, eqD_ii, eqD_ss, neD_ss, neD_ii, neD_bb, ixD_t, ixD_l, andB_t, andB_f, orB_t, orB_f, notV_b, mixR_, setsR_nil, setsR_cons, tg1_, tgT_1, tgT_2, tgT_4, asgG_u, walkD_t, walkD_l, tupleD_l, tupleD_t, listD_l, listD_t, lenD_t, lenD_l, wipeR_nil, wipeR_cons, Option.bind_some, Option.map_some, List.set_cons_zero, List.set_cons_succ, List.length_cons, List.length_nil, Nat.zero_add, Nat.reduceAdd, Nat.reduceLeDiff, Int.reduceAdd, Int.reduceLE, Int.reduceLT, Int.reduceNeg, Int.reduceSub, Int.reduceMul, Int.reduceEq, Bool.not_true, Bool.not_false, decide_true, decide_false, atI_0, atI_1, atI_2, atI_3, Int.reduceToNat, walk_book]; exact e) ?_
  have s0 := szB b (fun p h => h) g.len
  unfold Nm.size at s0
  have hfl : flat (nameB b).ob = some (.list [strsL (nameB b).f, strsL (nameB b).w, .list ((nameB b).o.map .int), strsL (nameB b).m]) := by
    simp only [Nm.ob, flat, flatL, flat_strL, show flat (intL (nameB b).o) = some (.list ((nameB b).o.map .int)) from flat_lO _]
    rfl
  have hs : sealR 1 [.val b.enc, .own ⟨(nameB b).ob, false⟩, x2, x3, x4, x5, x6, x7] = [.val b.enc, .val (.list [strsL (nameB b).f, strsL (nameB b).w, .list ((nameB b).o.map .int), strsL (nameB b).m]), x2, x3, x4, x5, x6, x7] := by
    show (match flat (nameB b).ob with | some d => _ | none => _) = _
    rw [hfl]; rfl
  rw [hs]
  have f1 : sortSetD keyKind 1001 (strsL (nameB b).f) = some (strsL (rset (nameB b).f)) := sortset_strs (by omega)
  have f2 : sortSetD keyKind 1001 (strsL (nameB b).w) = some (strsL (rset (nameB b).w)) := sortset_strs (by omega)
  have f3 := sortset_ints (ss := (nameB b).o) (by omega)
  have f4 : sortSetD keyKind 1001 (strsL (nameB b).m) = some (strsL (rset (nameB b).m)) := sortset_strs (by omega)
  simp only [gv_0, gv_s, gb_0, gb_s, scr_0, bnd2_ss, consD_, tupD_, lstD_, asgR_s, seqR_nx, seqR_ret, ifR_t, ifR_f, retR_s, retD_s, asB_b, asI_i, addD_ii, subD_ii, modD_ii, gtD_ii, geD_ii, leD_ii, ltD_ii, eqD_ii, eqD_ss, neD_ss, neD_ii, neD_bb, ixD_t, ixD_l, andB_t, andB_f, orB_t, orB_f, notV_b, mixR_, setsR_nil, setsR_cons, tg1_, tgT_1, tgT_2, tgT_4, asgG_u, walkD_t, walkD_l, tupleD_l, tupleD_t, listD_l, listD_t, lenD_t, lenD_l, wipeR_nil, wipeR_cons, Option.bind_some, Option.map_some, List.set_cons_zero, List.set_cons_succ, List.length_cons, List.length_nil, Nat.zero_add, Nat.reduceAdd, Nat.reduceLeDiff, Int.reduceAdd, Int.reduceLE, Int.reduceLT, Int.reduceNeg, Int.reduceSub, Int.reduceMul, Int.reduceEq, Bool.not_true, Bool.not_false, decide_true, decide_false, atI_0, atI_1, atI_2, atI_3, Int.reduceToNat, compL, compD, lenOk_, f1, f2, f3, f4, show ∀ ss, tupleD (strsL ss) = some (strsD ss) from fun _ => rfl, if_true]
  rfl
end Sv

/-! Sets of pairs; what a run leaves, by an induction. -/
namespace Sv
open PySem L2 Evl
def prK (p : Str × Nat) : List Key := [.inr p.1, .inl (p.2 : Int)]
def ssK (p : Str × Str) : List Key := [.inr p.1, .inr p.2]
def prE (p : Str × Nat) : PyData := .tuple [.str p.1, .int (p.2 : Int)]
def ssE (p : Str × Str) : PyData := .tuple [.str p.1, .str p.2]
theorem prK_inj (a b : Str × Nat) (h : prK a = prK b) : a = b := by
  simp only [prK, List.cons.injEq, Sum.inr.injEq, Sum.inl.injEq, and_true] at h
  exact Prod.ext h.1 (by omega)
theorem ssK_inj (a b : Str × Str) (h : ssK a = ssK b) : a = b := by
  simp only [ssK, List.cons.injEq, Sum.inr.injEq, and_true] at h
  exact Prod.ext h.1 h.2
theorem kds_tup {α : Type} (f : α → List Key) : ∀ xs : List α, kds tupKind.kd (xs.map fun a => PyData.tuple ((f a).map kD)) = some (xs.map f)
  | [] => rfl
  | x :: xs => by
    simp only [List.map_cons, kds, kds_tup f xs]
    rw [show tupKind.kd (.tuple ((f x).map kD)) = some (f x) from keysD_map (f x)]
theorem setItems_tup {α : Type} [DecidableEq α] (f : α → List Key) (hf : ∀ a b, f a = f b → a = b) {e : PyData} {xs : List α} (he : itemsOf e = some (xs.map fun a => PyData.tuple ((f a).map kD))) (hl : (ddup xs).length < 60) : setItems tupKind 60 e = some (xs.map f) := by
  unfold setItems
  rw [he]
  simp only [Option.bind_some, kds_tup]
  rw [ddup_map hf, List.length_map, if_pos hl]
theorem lenset_tup {α : Type} [DecidableEq α] (f : α → List Key) (hf : ∀ a b, f a = f b → a = b) {e : PyData} {xs : List α} (he : itemsOf e = some (xs.map fun a => PyData.tuple ((f a).map kD))) (hl : (ddup xs).length < 60) : lenSetD tupKind 60 e = some (.int (ddup xs).length) := by
  unfold lenSetD
  rw [setItems_tup f hf he hl]
  simp only [Option.map_some]
  rw [ddup_map hf, List.length_map]
theorem sortset_tup {α : Type} [DecidableEq α] (f : α → List Key) (hf : ∀ a b, f a = f b → a = b) {e : PyData} {xs : List α} (he : itemsOf e = some (xs.map fun a => PyData.tuple ((f a).map kD))) (hl : (ddup xs).length < 60) (hs : sortOkB ((ddup xs).map fun a => PyData.tuple ((f a).map kD)) = true) : sortSetD tupKind 60 e = some (.list (srt ((ddup xs).map fun a => PyData.tuple ((f a).map kD)))) := by
  unfold sortSetD
  rw [setItems_tup f hf he hl]
  simp only [Option.bind_some]
  rw [ddup_map hf, show ((ddup xs).map f).map tupKind.dk = (ddup xs).map fun a => PyData.tuple ((f a).map kD) by rw [List.map_map]; rfl, if_pos hs]
theorem lenset_strs {e : PyData} {ss : List Str} (he : itemsOf e = some (ss.map .str)) (h : ss.length ≤ 1000) : lenSetD keyKind 1001 e = some (.int (ddup ss).length) := by
  have h1 : (ddup ss).length ≤ 1000 := Nat.le_trans (ddup_len ss) h
  have hi : setItems keyKind 1001 e = some (ss.map .inr) := by
    unfold setItems
    rw [he]
    simp only [Option.bind_some, kds_str]
    rw [ddup_map (fun a b e => by cases e; rfl), List.length_map, if_pos (by omega)]
  unfold lenSetD
  rw [hi]
  simp only [Option.map_some]
  rw [ddup_map (fun a b e => by cases e; rfl), List.length_map]
def rsetP (ps : List (Str × Nat)) : List (Str × Nat) := sortP (ddup ps)
theorem leP_total (a b : Str × Nat) : (leP a b || leP b a) = true := le_total' _ _
theorem leP_trans (a b c : Str × Nat) (h1 : leP a b = true) (h2 : leP b c = true) : leP a c = true := le_trans' _ _ _ h1 h2
theorem leP_anti (a b : Str × Nat) (h1 : leP a b = true) (h2 : leP b a = true) : a = b := by
  have h := le_same (a := prE a) (b := prE b) (by rfl) h1 h2
  have h' : PyData.eqv (prE a) (prE b) = true := h
  simp [prE, PyData.eqv, PyData.eqvAll] at h'
  exact Prod.ext h'.1 (by omega)
theorem sortP_ext {xs ys : List (Str × Nat)} (p : xs.Perm ys) : sortP xs = sortP ys :=
  List.Perm.eq_of_pairwise (le := fun a b => leP a b = true) (fun a b _ _ h1 h2 => leP_anti a b h1 h2) (List.pairwise_mergeSort leP_trans leP_total xs) (List.pairwise_mergeSort leP_trans leP_total ys) ((sortP_perm xs).trans (p.trans (sortP_perm ys).symm))
theorem sortset_prs {e : PyData} {ps : List (Str × Nat)} (he : itemsOf e = some (ps.map prE)) (hl : (ddup ps).length < 60) : sortSetD tupKind 60 e = some (.list ((rsetP ps).map prE)) := by
  rw [sortset_tup prK prK_inj (by rw [he]; rfl) hl (sok_pair (ss := ddup ps) (by omega))]
  exact congrArg (fun x => some (PyData.list x)) (srt_pair (ddup ps))
/-! ### induction over runs -/
theorem walkF_ind {b : Book} {l : Ltr} (I : RSt → Prop) (hb : ∀ s p r, I s → ruleAt b p = some r → I { s with begun := putL p s.begun }) (hd : ∀ s p r d, I s → p ∈ s.begun → ruleAt b p = some r → d ∈ r.2 → (∀ n, d ≠ .call n) → I (doF (fun _ s => s) d s)) (hw : ∀ s W V, I s → I { s with within := W, went := V }) :
    ∀ n m s, I s → I (walkF b l n m s)
  | 0, m, s, h => h
  | n + 1, m, s, h => by
    have deeds : ∀ (ds : List Deed) (s : RSt) (p : Str × Nat) (r : Rul), ruleAt b p = some r → (∀ d ∈ ds, d ∈ r.2) → p ∈ s.begun → I s → I (deedsF (walkF b l n) ds s) := fun ds => by
      induction ds with
      | nil => exact fun s p r _ _ _ h => h
      | cons d ds ih =>
        intro s p r hr hds hp hI
        simp only [deedsF]
        have h1 : I (if s.over then s else doF (walkF b l n) d s) := by
          split
          · exact hI
          · by_cases hc : ∃ m, d = .call m
            · obtain ⟨m, rfl⟩ := hc
              exact walkF_ind I hb hd hw n m s hI
            · have := hd s p r d hI hp hr (hds d List.mem_cons_self) fun m e => hc ⟨m, e⟩
              rwa [doF_nc (wk' := walkF b l n) (fun m e => hc ⟨m, e⟩)] at this
        refine ih _ p r hr (fun e he => hds e (List.mem_cons_of_mem _ he)) ?_ h1
        split
        · exact hp
        · exact doF_grows (walkF_grows b l n) d s p hp
    have rules : ∀ (rs : List Rul) (k : Nat) (s : RSt), (∀ j r, rs[j]? = some r → ruleAt b (m, k + j) = some r) → I s → I (rulesF (walkF b l n) l m k rs s) := fun rs => by
      induction rs with
      | nil => exact fun k s _ h => h
      | cons r rs ih =>
        intro k s hr hI
        simp only [rulesF]
        refine ih (k + 1) _ (fun j q hq => ?_) ?_
        · rw [show k + 1 + j = k + (j + 1) from by omega]
          exact hr (j + 1) q (by simpa using hq)
        · split
          · exact deeds r.2 _ (m, k) r (hr 0 r rfl) (fun d hd => hd) putL_mem (hb s (m, k) r hI (hr 0 r rfl))
          · exact hI
    simp only [walkF]
    split
    · exact h
    · have h1 : I (rulesF (walkF b l n) l m 0 (b.get m) { s with went := putL m s.went, within := s.within ++ [m] }) := rules (b.get m) 0 _ (fun j r hj => by rw [Nat.zero_add]; exact hj) (hw s _ _ h)
      exact hw _ _ _ h1
/-! ### all is done by deeds of rules begun -/
def dsOf (b : Book) (ps : List (Str × Nat)) : List Deed := ps.flatMap fun p => (rulAt b p).2
theorem dsOf_mem {b : Book} {ps : List (Str × Nat)} {p : Str × Nat} {r : Rul} {d : Deed} (hp : p ∈ ps) (hr : ruleAt b p = some r) (hd : d ∈ r.2) : d ∈ dsOf b ps := List.mem_flatMap.mpr ⟨p, hp, by unfold rulAt; rw [hr]; exact hd⟩
theorem dsOf_put {b : Book} {ps : List (Str × Nat)} {p : Str × Nat} {d : Deed} (h : d ∈ dsOf b ps) : d ∈ dsOf b (putL p ps) := by
  obtain ⟨q, hq, hd⟩ := List.mem_flatMap.mp h
  exact List.mem_flatMap.mpr ⟨q, putL_sub hq, hd⟩
theorem dsOf_ext {b : Book} {ps qs : List (Str × Nat)} (h : ∀ p, p ∈ ps ↔ p ∈ qs) (d : Deed) : d ∈ dsOf b ps ↔ d ∈ dsOf b qs := by
  unfold dsOf
  rw [List.mem_flatMap, List.mem_flatMap]
  exact ⟨fun ⟨p, hp, hd⟩ => ⟨p, (h p).mp hp, hd⟩, fun ⟨p, hp, hd⟩ => ⟨p, (h p).mpr hp, hd⟩⟩
structure Sup (b : Book) (l : Ltr) (s : RSt) : Prop where
  lay : ∀ n ∈ s.lay, Deed.lay n ∈ dsOf b s.begun
  send : ∀ n ∈ s.send, Deed.send n ∈ dsOf b s.begun
  ans : ∀ n ∈ s.ans, Deed.ans n ∈ dsOf b s.begun
  drop : s.drop = true → Deed.drop ∈ dsOf b s.begun
  marks : ∀ m ∈ s.marks, m ∈ l.marks ∨ Deed.mark m ∈ dsOf b s.begun
  gone : ∀ m ∈ l.marks, m ∈ s.marks ∨ Deed.unmark m ∈ dsOf b s.begun
  quiet : dsOf b s.begun = [] → s.lay = [] ∧ s.send = [] ∧ s.ans = [] ∧ s.marks = l.marks ∧ s.drop = false
theorem putL_iff {α : Type} [DecidableEq α] {x y : α} {xs : List α} : y ∈ putL x xs ↔ y ∈ xs ∨ y = x := by
  unfold putL
  split
  · rename_i h
    exact ⟨.inl, fun z => z.elim id fun e => e ▸ h⟩
  · simp
theorem sup_walk (b : Book) (l : Ltr) (n : Nat) : Sup b l (walkF b l n "main" (start0 l)) := by
  refine walkF_ind (Sup b l) (fun s p r h hr => ?_) (fun s p r d h hp hr hd hc => ?_) (fun s W V h => ⟨h.lay, h.send, h.ans, h.drop, h.marks, h.gone, h.quiet⟩) n "main" (start0 l) ?_
  · refine ⟨fun n hn => dsOf_put (h.lay n hn), fun n hn => dsOf_put (h.send n hn), fun n hn => dsOf_put (h.ans n hn), fun e => dsOf_put (h.drop e), fun m hm => (h.marks m hm).imp id dsOf_put, fun m hm => (h.gone m hm).imp id dsOf_put, fun e => h.quiet ?_⟩
    exact List.eq_nil_iff_forall_not_mem.mpr fun d hd => by
      have := dsOf_put (p := p) hd
      rw [show dsOf b (putL p s.begun) = [] from e] at this
      cases this
  · have hin := dsOf_mem hp hr hd
    have nq : ∀ {A : Prop}, dsOf b s.begun = [] → A := fun e => by rw [e] at hin; cases hin
    cases d with
    | call m => exact (hc m rfl).elim
    | drop => exact ⟨h.lay, h.send, h.ans, fun _ => hin, h.marks, h.gone, fun e => nq e⟩
    | stop => exact ⟨h.lay, h.send, h.ans, h.drop, h.marks, h.gone, fun e => nq e⟩
    | lay m => exact ⟨fun n hn => (putL_iff.mp hn).elim (h.lay n) fun e => e ▸ hin, h.send, h.ans, h.drop, h.marks, h.gone, fun e => nq e⟩
    | send m => exact ⟨h.lay, fun n hn => (putL_iff.mp hn).elim (h.send n) fun e => e ▸ hin, h.ans, h.drop, h.marks, h.gone, fun e => nq e⟩
    | ans m => exact ⟨h.lay, h.send, fun n hn => (putL_iff.mp hn).elim (h.ans n) fun e => e ▸ hin, h.drop, h.marks, h.gone, fun e => nq e⟩
    | mark m =>
      refine ⟨h.lay, h.send, h.ans, h.drop, fun n hn => ?_, fun n hn => ?_, fun e => nq e⟩
      · rcases List.mem_append.mp hn with hn | hn
        · exact h.marks n (List.mem_filter.mp hn).1
        · rw [List.mem_singleton.mp hn]; exact .inr hin
      · rcases h.gone n hn with h1 | h1
        · left
          by_cases e : n = m
          · rw [e]; exact List.mem_append_right _ (List.mem_singleton.mpr rfl)
          · exact List.mem_append_left _ (List.mem_filter.mpr ⟨h1, by simpa using e⟩)
        · exact .inr h1
    | unmark m =>
      refine ⟨h.lay, h.send, h.ans, h.drop, fun n hn => h.marks n (List.mem_filter.mp hn).1, fun n hn => ?_, fun e => nq e⟩
      rcases h.gone n hn with h1 | h1
      · by_cases e : n = m
        · rw [e]; exact .inr hin
        · exact .inl (List.mem_filter.mpr ⟨h1, by simpa using e⟩)
      · exact .inr h1
  · exact ⟨fun n h => (nomatch h), fun n h => (nomatch h), fun n h => (nomatch h), fun h => (nomatch h), fun m h => .inl h, fun m h => .inl h, fun _ => ⟨rfl, rfl, rfl, rfl, rfl⟩⟩
theorem begun_run (b : Book) (l : Ltr) (n : Nat) : (runF n b l).begun = (walkF b l n "main" (start0 l)).begun := by unfold runF finish; split <;> rfl
theorem marks_run (b : Book) (l : Ltr) (n : Nat) : (runF n b l).marks = (walkF b l n "main" (start0 l)).marks := by unfold runF finish; split <;> rfl
theorem send_run (b : Book) (l : Ltr) (n : Nat) : (runF n b l).send = (walkF b l n "main" (start0 l)).send := by unfold runF finish; split <;> rfl
theorem ans_run (b : Book) (l : Ltr) (n : Nat) : (runF n b l).ans = (walkF b l n "main" (start0 l)).ans := by unfold runF finish; split <;> rfl
theorem lay_run (b : Book) (l : Ltr) (n : Nat) : ∀ x ∈ (runF n b l).lay, x ∈ (walkF b l n "main" (start0 l)).lay ∨ x = "in" := fun x hx => by
  unfold runF finish at hx
  split at hx
  · exact (List.mem_append.mp hx).imp id fun h => List.mem_singleton.mp h
  · exact .inl hx
theorem notIn_t (s : Str) (ss : List Str) (h : ss.all nmOk = true) (hs : nmOk s = true) : notInD (.str s) (strsD ss) = some (.bool (!decide (s ∈ ss))) := by
  unfold notInD inB strsD
  simp only [itemsOf, shp_str, hs, shp_tstrs ss h, any_str, Bool.and_self, if_true, Option.map_some]
def Deed.word : Deed → Str
  | .call _ => "call"
  | .drop => "drop"
  | .stop => "stop"
  | .lay _ => "lay"
  | .send _ => "send"
  | .ans _ => "answer"
  | .mark _ => "mark"
  | .unmark _ => "unmark"
theorem deed_w (d : Deed) : ixD d.enc (.int 0) = some (.str d.word) := by cases d <;> rfl
theorem word_ok (d : Deed) : nmOk d.word = true := by cases d <;> (simp only [Deed.word]; decide +kernel)
def Deed.has : Deed → Bool
  | .drop => false
  | .stop => false
  | _ => true
theorem deed_a {d : Deed} (h : d.has = true) : ixD d.enc (.int 1) = some (.str d.arg) := by cases d <;> first | rfl | cases h
theorem begun_few {x : Int} {l : Ltr} (hl : l.good = true) : (runF 6 (bookN x) l).begun.length ≤ 12 := by
  have h := (runF_inv (bookN_good x) hl).begun
  refine Nat.le_trans h.len ?_
  have h1 : ((bookN x).flatMap fun p => (List.range p.2.length).map fun j => (p.1, j)).length ≤ (bookN x).length * 4 := len_flatMap fun p hp => by
    simpa using (bookN_few x p hp).1
  have h2 := book_len x
  show ((bookN x).flatMap fun p => (List.range p.2.length).map fun j => (p.1, j)).length ≤ 12
  omega
end Sv

/-! _law_holds is hold. -/
namespace Sv
open PySem L2 Evl
def m_lh : Nat → List PyData → Option PyData := itm fun m => runD 6 3 (fb__law_holds m)
theorem m_lh_succ (n : Nat) (ds : List PyData) : m_lh (n + 1) ds = runD 6 3 (fb__law_holds (m_lh n)) ds := rfl
theorem in_be (w : Str) (hw : nmOk w = true) : inD (.str w) (.tuple [.str "both", .str "either"]) = some (.bool (decide (w = "both" ∨ w = "either"))) := by
  rw [show PyData.tuple [.str "both", .str "either"] = .tuple ((["both", "either"] : List Str).map .str) from rfl, inD_t w _ (by decide +kernel) hw]
  simp
theorem lh_disp (x y z : PyData) (w : Str) (e : PyData) (h : (w = "from" ∧ e = .list [x]) ∨ (w = "word" ∧ e = y) ∨ (w = "marked" ∧ e = z)) :
    bnd2 ((((dispP (some (.str "from")) ((some [x]).bind lstO) (dispP (some (.str "word")) ((some y).map .dat) (dispP (some (.str "marked")) ((some z).map .dat) (some [])))).bind dispO)).bind flat) (some (.str w)) ixE = some e := by
  have h0 : (((dispP (some (.str "from")) ((some [x]).bind lstO) (dispP (some (.str "word")) ((some y).map .dat) (dispP (some (.str "marked")) ((some z).map .dat) (some [])))).bind dispO)).bind flat = some (.dict [(.str "from", .list [x]), (.str "word", y), (.str "marked", z)]) := by rfl
  rw [h0]
  rcases h with ⟨rfl, rfl⟩ | ⟨rfl, rfl⟩ | ⟨rfl, rfl⟩ <;> rfl
theorem at_s (ds : List PyData) (n : Int) : ixD (.tuple ds) (.int n) = atI ds n := rfl
theorem lh_one (n : Nat) (l : Ltr) (ms : List Str) (w : Str) (x : PyData) (e : PyData) (r : Bool) (hl : l.ok = true)
    (hw : (w = "from" ∧ e = .list [.str l.sender]) ∨ (w = "word" ∧ e = .list (l.words.map .str)) ∨ (w = "marked" ∧ e = .list (ms.map .str))) (hr : inD x e = some (.bool r)) :
    m_lh (n + 1) [.tuple [.str w, x], l.enc, .list (ms.map .str)] = some (.bool r) := by
  have hwo : nmOk w = true := by rcases hw with ⟨rfl, _⟩ | ⟨rfl, _⟩ | ⟨rfl, _⟩ <;> decide +kernel
  have n1 : w ≠ "not" := by rcases hw with ⟨rfl, _⟩ | ⟨rfl, _⟩ | ⟨rfl, _⟩ <;> decide +kernel
  have n2 : ¬ (w = "both" ∨ w = "either") := by rcases hw with ⟨rfl, _⟩ | ⟨rfl, _⟩ | ⟨rfl, _⟩ <;> decide +kernel
  have n3 : w ≠ "over" := by rcases hw with ⟨rfl, _⟩ | ⟨rfl, _⟩ | ⟨rfl, _⟩ <;> decide +kernel
  have n4 : w ≠ "yes" := by rcases hw with ⟨rfl, _⟩ | ⟨rfl, _⟩ | ⟨rfl, _⟩ <;> decide +kernel
  rw [m_lh_succ]
  refine run_step rfl ?_
  rw [show startR 6 [.tuple [.str w, x], l.enc, .list (ms.map .str)] = [.val (.tuple [.str w, x]), .val l.enc, .val (.list (ms.map .str)), .no, .no, .no] from rfl]
  unfold fb__law_holds
  (first | refine nx_step (by simp only [gv_0, gv_s, gb_0, gb_s, scr_0, bnd2_ss, consD_, tupD_, lstD_, asgR_s, seqR_nx, seqR_ret, ifR_t, ifR_f, retR_s, retD_s, asB_b, asI_i, addD_ii, subD_ii, modD_ii, gtD_ii, geD_ii, leD_ii, ltD_ii, eqD_ii, eqD_ss, neD_ss, neD_ii, neD_bb, ixD_t, ixD_l, andB_t, andB_f, orB_t, orB_f, notV_b, mixR_, setsR_nil, setsR_cons, tg1_, tgT_1, tgT_2, tgT_4, asgG_u, walkD_t, walkD_l, tupleD_l, tupleD_t, listD_l, listD_t, lenD_t, lenD_l, wipeR_nil, wipeR_cons, Option.bind_some, Option.map_some, List.set_cons_zero, List.set_cons_succ, List.length_cons, List.length_nil, Nat.zero_add, Nat.reduceAdd, Nat.reduceLeDiff, Int.reduceAdd, Int.reduceLE, Int.reduceLT, Int.reduceNeg, Int.reduceSub, Int.reduceMul, Int.reduceEq, Bool.not_true, Bool.not_false, decide_true, decide_false, atI_0, atI_1, atI_2, atI_3, Int.reduceToNat]; rfl) ?_ | refine rt_step (by simp only [gv_0, gv_s, gb_0, gb_s, scr_0, bnd2_ss, consD_, tupD_, lstD_, asgR_s, seqR_nx, seqR_ret, ifR_t, ifR_f, retR_s, retD_s, asB_b, asI_i, addD_ii, subD_ii, modD_ii, gtD_ii, geD_ii, leD_ii, ltD_ii, eqD_ii, eqD_ss, neD_ss, neD_ii, neD_bb, ixD_t, ixD_l, andB_t, andB_f, orB_t, orB_f, notV_b, mixR_, setsR_nil, setsR_cons, tg1_, tgT_1, tgT_2, tgT_4, asgG_u, walkD_t, walkD_l, tupleD_l, tupleD_t, listD_l, listD_t, lenD_t, lenD_l, wipeR_nil, wipeR_cons, Option.bind_some, Option.map_some, List.set_cons_zero, List.set_cons_succ, List.length_cons, List.length_nil, Nat.zero_add, Nat.reduceAdd, Nat.reduceLeDiff, Int.reduceAdd, Int.reduceLE, Int.reduceLT, Int.reduceNeg, Int.reduceSub, Int.reduceMul, Int.reduceEq, Bool.not_true, Bool.not_false, decide_true, decide_false, atI_0, atI_1, atI_2, atI_3, Int.reduceToNat]; rfl) ?_ | refine seq_step (by simp only [gv_0, gv_s, gb_0, gb_s, scr_0, bnd2_ss, consD_, tupD_, lstD_, asgR_s, seqR_nx, seqR_ret, ifR_t, ifR_f, retR_s, retD_s, asB_b, asI_i, addD_ii, subD_ii, modD_ii, gtD_ii, geD_ii, leD_ii, ltD_ii, eqD_ii, eqD_ss, neD_ss, neD_ii, neD_bb, ixD_t, ixD_l, andB_t, andB_f, orB_t, orB_f, notV_b, mixR_, setsR_nil, setsR_cons, tg1_, tgT_1, tgT_2, tgT_4, asgG_u, walkD_t, walkD_l, tupleD_l, tupleD_t, listD_l, listD_t, lenD_t, lenD_l, wipeR_nil, wipeR_cons, Option.bind_some, Option.map_some, List.set_cons_zero, List.set_cons_succ, List.length_cons, List.length_nil, Nat.zero_add, Nat.reduceAdd, Nat.reduceLeDiff, Int.reduceAdd, Int.reduceLE, Int.reduceLT, Int.reduceNeg, Int.reduceSub, Int.reduceMul, Int.reduceEq, Bool.not_true, Bool.not_false, decide_true, decide_false, atI_0, atI_1, atI_2, atI_3, Int.reduceToNat]; rfl) ?_)
  refine seq_step (ρ := [.val (.tuple [.str w, x]), .val l.enc, .val (.list (ms.map .str)), .val (.str w), .no, .no]) (if_no (by simp only [gv_0, gv_s, gb_0, gb_s, scr_0, bnd2_ss, consD_, tupD_, lstD_, asgR_s, seqR_nx, seqR_ret, ifR_t, ifR_f, retR_s, retD_s, asB_b, asI_i, addD_ii, subD_ii, modD_ii, gtD_ii, geD_ii, leD_ii, ltD_ii, eqD_ii, eqD_ss, neD_ss, neD_ii, neD_bb, ixD_t, ixD_l, andB_t, andB_f, orB_t, orB_f, notV_b, mixR_, setsR_nil, setsR_cons, tg1_, tgT_1, tgT_2, tgT_4, asgG_u, walkD_t, walkD_l, tupleD_l, tupleD_t, listD_l, listD_t, lenD_t, lenD_l, wipeR_nil, wipeR_cons, Option.bind_some, Option.map_some, List.set_cons_zero, List.set_cons_succ, List.length_cons, List.length_nil, Nat.zero_add, Nat.reduceAdd, Nat.reduceLeDiff, Int.reduceAdd, Int.reduceLE, Int.reduceLT, Int.reduceNeg, Int.reduceSub, Int.reduceMul, Int.reduceEq, Bool.not_true, Bool.not_false, decide_true, decide_false, atI_0, atI_1, atI_2, atI_3, Int.reduceToNat, n1]) rfl) ?_
  refine seq_step (ρ := [.val (.tuple [.str w, x]), .val l.enc, .val (.list (ms.map .str)), .val (.str w), .no, .no]) (if_no (by simp only [gv_0, gv_s, gb_0, gb_s, scr_0, bnd2_ss, consD_, tupD_, lstD_, asgR_s, seqR_nx, seqR_ret, ifR_t, ifR_f, retR_s, retD_s, asB_b, asI_i, addD_ii, subD_ii, modD_ii, gtD_ii, geD_ii, leD_ii, ltD_ii, eqD_ii, eqD_ss, neD_ss, neD_ii, neD_bb, ixD_t, ixD_l, andB_t, andB_f, orB_t, orB_f, notV_b, mixR_, setsR_nil, setsR_cons, tg1_, tgT_1, tgT_2, tgT_4, asgG_u, walkD_t, walkD_l, tupleD_l, tupleD_t, listD_l, listD_t, lenD_t, lenD_l, wipeR_nil, wipeR_cons, Option.bind_some, Option.map_some, List.set_cons_zero, List.set_cons_succ, List.length_cons, List.length_nil, Nat.zero_add, Nat.reduceAdd, Nat.reduceLeDiff, Int.reduceAdd, Int.reduceLE, Int.reduceLT, Int.reduceNeg, Int.reduceSub, Int.reduceMul, Int.reduceEq, Bool.not_true, Bool.not_false, decide_true, decide_false, atI_0, atI_1, atI_2, atI_3, Int.reduceToNat, in_be w hwo, n2]) rfl) ?_
  refine seq_step (ρ := [.val (.tuple [.str w, x]), .val l.enc, .val (.list (ms.map .str)), .val (.str w), .no, .no]) (if_no (by simp only [gv_0, gv_s, gb_0, gb_s, scr_0, bnd2_ss, consD_, tupD_, lstD_, asgR_s, seqR_nx, seqR_ret, ifR_t, ifR_f, retR_s, retD_s, asB_b, asI_i, addD_ii, subD_ii, modD_ii, gtD_ii, geD_ii, leD_ii, ltD_ii, eqD_ii, eqD_ss, neD_ss, neD_ii, neD_bb, ixD_t, ixD_l, andB_t, andB_f, orB_t, orB_f, notV_b, mixR_, setsR_nil, setsR_cons, tg1_, tgT_1, tgT_2, tgT_4, asgG_u, walkD_t, walkD_l, tupleD_l, tupleD_t, listD_l, listD_t, lenD_t, lenD_l, wipeR_nil, wipeR_cons, Option.bind_some, Option.map_some, List.set_cons_zero, List.set_cons_succ, List.length_cons, List.length_nil, Nat.zero_add, Nat.reduceAdd, Nat.reduceLeDiff, Int.reduceAdd, Int.reduceLE, Int.reduceLT, Int.reduceNeg, Int.reduceSub, Int.reduceMul, Int.reduceEq, Bool.not_true, Bool.not_false, decide_true, decide_false, atI_0, atI_1, atI_2, atI_3, Int.reduceToNat, n3]) rfl) ?_
  refine seq_step (ρ := [.val (.tuple [.str w, x]), .val l.enc, .val (.list (ms.map .str)), .val (.str w), .no, .no]) (if_no (by simp only [gv_0, gv_s, gb_0, gb_s, scr_0, bnd2_ss, consD_, tupD_, lstD_, asgR_s, seqR_nx, seqR_ret, ifR_t, ifR_f, retR_s, retD_s, asB_b, asI_i, addD_ii, subD_ii, modD_ii, gtD_ii, geD_ii, leD_ii, ltD_ii, eqD_ii, eqD_ss, neD_ss, neD_ii, neD_bb, ixD_t, ixD_l, andB_t, andB_f, orB_t, orB_f, notV_b, mixR_, setsR_nil, setsR_cons, tg1_, tgT_1, tgT_2, tgT_4, asgG_u, walkD_t, walkD_l, tupleD_l, tupleD_t, listD_l, listD_t, lenD_t, lenD_l, wipeR_nil, wipeR_cons, Option.bind_some, Option.map_some, List.set_cons_zero, List.set_cons_succ, List.length_cons, List.length_nil, Nat.zero_add, Nat.reduceAdd, Nat.reduceLeDiff, Int.reduceAdd, Int.reduceLE, Int.reduceLT, Int.reduceNeg, Int.reduceSub, Int.reduceMul, Int.reduceEq, Bool.not_true, Bool.not_false, decide_true, decide_false, atI_0, atI_1, atI_2, atI_3, Int.reduceToNat, n4]) rfl) ?_
  have e0 : bnd2 (some l.enc) (some (.int 0)) ixD = some (.str l.sender) := rfl
  have e1 : (bnd2 (some l.enc) (some (.int 1)) ixD).bind listD = some (.list (l.words.map .str)) := rfl
  have d := lh_disp (.str l.sender) (.list (l.words.map .str)) (.list (ms.map .str)) w e hw
  simp only [gv_0, gv_s, gb_0, gb_s, bnd2_ss, consD_] at e0 e1 d ⊢
  rw [show ixD l.enc (.int 0) = some (.str l.sender) from rfl, show (ixD l.enc (.int 1)).bind listD = some (.list (l.words.map .str)) from rfl]
  simp only [gv_0, gv_s, gb_0, gb_s, bnd2_ss, consD_]
  rw [d, ixD_t, atI_1, bnd2_ss, hr]
  rfl
theorem lh_two (n : Nat) (x y le md : PyData) (w : Str) (p q : Bool) (hw : w = "both" ∨ w = "either") (h1 : m_lh (n + 1) [x, le, md] = some (.bool p)) (h2 : m_lh (n + 1) [y, le, md] = some (.bool q)) :
    m_lh (n + 2) [.tuple [.str w, x, y], le, md] = some (.bool (if w = "either" then p || q else p && q)) := by
  have hwo : nmOk w = true := by rcases hw with rfl | rfl <;> decide +kernel
  have n1 : w ≠ "not" := by rcases hw with rfl | rfl <;> decide +kernel
  rw [m_lh_succ]
  refine run_step rfl ?_
  rw [show startR 6 [.tuple [.str w, x, y], le, md] = [.val (.tuple [.str w, x, y]), .val le, .val md, .no, .no, .no] from rfl]
  unfold fb__law_holds
  (first | refine nx_step (by simp only [gv_0, gv_s, gb_0, gb_s, scr_0, bnd2_ss, consD_, tupD_, lstD_, asgR_s, seqR_nx, seqR_ret, ifR_t, ifR_f, retR_s, retD_s, asB_b, asI_i, addD_ii, subD_ii, modD_ii, gtD_ii, geD_ii, leD_ii, ltD_ii, eqD_ii, eqD_ss, neD_ss, neD_ii, neD_bb, ixD_t, ixD_l, andB_t, andB_f, orB_t, orB_f, notV_b, mixR_, setsR_nil, setsR_cons, tg1_, tgT_1, tgT_2, tgT_4, asgG_u, walkD_t, walkD_l, tupleD_l, tupleD_t, listD_l, listD_t, lenD_t, lenD_l, wipeR_nil, wipeR_cons, Option.bind_some, Option.map_some, List.set_cons_zero, List.set_cons_succ, List.length_cons, List.length_nil, Nat.zero_add, Nat.reduceAdd, Nat.reduceLeDiff, Int.reduceAdd, Int.reduceLE, Int.reduceLT, Int.reduceNeg, Int.reduceSub, Int.reduceMul, Int.reduceEq, Bool.not_true, Bool.not_false, decide_true, decide_false, atI_0, atI_1, atI_2, atI_3, Int.reduceToNat]; rfl) ?_ | refine rt_step (by simp only [gv_0, gv_s, gb_0, gb_s, scr_0, bnd2_ss, consD_, tupD_, lstD_, asgR_s, seqR_nx, seqR_ret, ifR_t, ifR_f, retR_s, retD_s, asB_b, asI_i, addD_ii, subD_ii, modD_ii, gtD_ii, geD_ii, leD_ii, ltD_ii, eqD_ii, eqD_ss, neD_ss, neD_ii, neD_bb, ixD_t, ixD_l, andB_t, andB_f, orB_t, orB_f, notV_b, mixR_, setsR_nil, setsR_cons, tg1_, tgT_1, tgT_2, tgT_4, asgG_u, walkD_t, walkD_l, tupleD_l, tupleD_t, listD_l, listD_t, lenD_t, lenD_l, wipeR_nil, wipeR_cons, Option.bind_some, Option.map_some, List.set_cons_zero, List.set_cons_succ, List.length_cons, List.length_nil, Nat.zero_add, Nat.reduceAdd, Nat.reduceLeDiff, Int.reduceAdd, Int.reduceLE, Int.reduceLT, Int.reduceNeg, Int.reduceSub, Int.reduceMul, Int.reduceEq, Bool.not_true, Bool.not_false, decide_true, decide_false, atI_0, atI_1, atI_2, atI_3, Int.reduceToNat]; rfl) ?_ | refine seq_step (by simp only [gv_0, gv_s, gb_0, gb_s, scr_0, bnd2_ss, consD_, tupD_, lstD_, asgR_s, seqR_nx, seqR_ret, ifR_t, ifR_f, retR_s, retD_s, asB_b, asI_i, addD_ii, subD_ii, modD_ii, gtD_ii, geD_ii, leD_ii, ltD_ii, eqD_ii, eqD_ss, neD_ss, neD_ii, neD_bb, ixD_t, ixD_l, andB_t, andB_f, orB_t, orB_f, notV_b, mixR_, setsR_nil, setsR_cons, tg1_, tgT_1, tgT_2, tgT_4, asgG_u, walkD_t, walkD_l, tupleD_l, tupleD_t, listD_l, listD_t, lenD_t, lenD_l, wipeR_nil, wipeR_cons, Option.bind_some, Option.map_some, List.set_cons_zero, List.set_cons_succ, List.length_cons, List.length_nil, Nat.zero_add, Nat.reduceAdd, Nat.reduceLeDiff, Int.reduceAdd, Int.reduceLE, Int.reduceLT, Int.reduceNeg, Int.reduceSub, Int.reduceMul, Int.reduceEq, Bool.not_true, Bool.not_false, decide_true, decide_false, atI_0, atI_1, atI_2, atI_3, Int.reduceToNat]; rfl) ?_)
  refine seq_step (ρ := [.val (.tuple [.str w, x, y]), .val le, .val md, .val (.str w), .no, .no]) (if_no (by simp only [gv_0, gv_s, gb_0, gb_s, scr_0, bnd2_ss, consD_, tupD_, lstD_, asgR_s, seqR_nx, seqR_ret, ifR_t, ifR_f, retR_s, retD_s, asB_b, asI_i, addD_ii, subD_ii, modD_ii, gtD_ii, geD_ii, leD_ii, ltD_ii, eqD_ii, eqD_ss, neD_ss, neD_ii, neD_bb, ixD_t, ixD_l, andB_t, andB_f, orB_t, orB_f, notV_b, mixR_, setsR_nil, setsR_cons, tg1_, tgT_1, tgT_2, tgT_4, asgG_u, walkD_t, walkD_l, tupleD_l, tupleD_t, listD_l, listD_t, lenD_t, lenD_l, wipeR_nil, wipeR_cons, Option.bind_some, Option.map_some, List.set_cons_zero, List.set_cons_succ, List.length_cons, List.length_nil, Nat.zero_add, Nat.reduceAdd, Nat.reduceLeDiff, Int.reduceAdd, Int.reduceLE, Int.reduceLT, Int.reduceNeg, Int.reduceSub, Int.reduceMul, Int.reduceEq, Bool.not_true, Bool.not_false, decide_true, decide_false, atI_0, atI_1, atI_2, atI_3, Int.reduceToNat, n1]) rfl) ?_
  refine (show ∀ {a : Option Res} {g : Rho → Option Res} {d : PyData}, a = some (.ret d) → seqR a g = some (.ret d) from fun h => by rw [h]; rfl) (if_yes (by simp only [gv_0, gv_s, gb_0, gb_s, scr_0, bnd2_ss, consD_, tupD_, lstD_, asgR_s, seqR_nx, seqR_ret, ifR_t, ifR_f, retR_s, retD_s, asB_b, asI_i, addD_ii, subD_ii, modD_ii, gtD_ii, geD_ii, leD_ii, ltD_ii, eqD_ii, eqD_ss, neD_ss, neD_ii, neD_bb, ixD_t, ixD_l, andB_t, andB_f, orB_t, orB_f, notV_b, mixR_, setsR_nil, setsR_cons, tg1_, tgT_1, tgT_2, tgT_4, asgG_u, walkD_t, walkD_l, tupleD_l, tupleD_t, listD_l, listD_t, lenD_t, lenD_l, wipeR_nil, wipeR_cons, Option.bind_some, Option.map_some, List.set_cons_zero, List.set_cons_succ, List.length_cons, List.length_nil, Nat.zero_add, Nat.reduceAdd, Nat.reduceLeDiff, Int.reduceAdd, Int.reduceLE, Int.reduceLT, Int.reduceNeg, Int.reduceSub, Int.reduceMul, Int.reduceEq, Bool.not_true, Bool.not_false, decide_true, decide_false, atI_0, atI_1, atI_2, atI_3, Int.reduceToNat, in_be w hwo, hw]) ?_)
  have sl : ((some (PyData.tuple [.str w, x, y])).bind fun d => bnd2 (partI (some (.int 1))) (some none) (slD d)).bind walkD = some [x, y] := rfl
  have hc := compL_map (ρ := [.val (.tuple [.str w, x, y]), .val le, .val md, .val (.str w), .no, .no]) (h := tg1) (is := [5]) (vs := [5]) (fe := fun ρ => ((bnd2 (gv 5 ρ) ((bnd2 (gv 1 ρ) ((bnd2 (gv 2 ρ) (some []) consD)) consD)) consD)).bind (m_lh (n + 1))) (fun z : PyData × Bool => z.1) (fun z => [z.1]) (fun z => .bool z.2) [(x, p), (y, q)] (by simp) (fun _ _ => rfl) (fun z hz => by
    simp only [wipeR_cons, wipeR_nil, setsR_cons, setsR_nil, gv_0, gv_s, bnd2_ss, consD_, Option.bind_some, List.set_cons_zero, List.set_cons_succ]
    rcases List.mem_cons.mp hz with rfl | hz
    · exact h1
    · rw [List.mem_singleton.mp hz]; exact h2)
  simp only [gb_0]
  rw [sl]
  refine seq_step (ρ := [.val (.tuple [.str w, x, y]), .val le, .val md, .val (.str w), .val (.list [.bool p, .bool q]), .no]) ?_ ?_
  · exact congrArg (asgR 4 _) hc
  · rcases hw with rfl | rfl <;> cases p <;> cases q <;> rfl
theorem lhold_eq : ∀ (n : Nat) (t : Tst) (l : Ltr) (ms : List Str), t.dep ≤ n → t.ok = true → l.ok = true → ms.all nmOk = true → m_lh (n + 1) [t.enc, l.enc, .list (ms.map .str)] = some (.bool (hold t l ms))
  | n, .frm s, l, ms, hn, ht, hl, hm => by
    simp only [Ltr.ok, Bool.and_eq_true] at hl
    have h := inD_l s [l.sender] (by simpa using hl.1.1) ht
    refine lh_one n l ms "from" (.str s) _ _ (by simpa [Ltr.ok] using hl) (.inl ⟨rfl, rfl⟩) ?_
    rw [show PyData.list [PyData.str l.sender] = .list ([l.sender].map .str) from rfl, h]
    simp [hold, eq_comm]
  | n, .word s, l, ms, hn, ht, hl, hm => by
    have hl' := hl
    simp only [Ltr.ok, Bool.and_eq_true] at hl'
    exact lh_one n l ms "word" (.str s) _ _ hl (.inr (.inl ⟨rfl, rfl⟩)) (inD_l s l.words hl'.1.2 ht)
  | n, .marked s, l, ms, hn, ht, hl, hm => lh_one n l ms "marked" (.str s) _ _ hl (.inr (.inr ⟨rfl, rfl⟩)) (inD_l s ms hm ht)
  | n, .over s, l, ms, hn, ht, hl, hm => by
    rw [m_lh_succ]
    refine run_step rfl ?_
    rw [show startR 6 [(Tst.over s).enc, l.enc, .list (ms.map .str)] = [.val (.tuple [.str "over", .int s]), .val l.enc, .val (.list (ms.map .str)), .no, .no, .no] from rfl]
    unfold fb__law_holds
    (first | refine nx_step (by simp only [gv_0, gv_s, gb_0, gb_s, scr_0, bnd2_ss, consD_, tupD_, lstD_, asgR_s, seqR_nx, seqR_ret, ifR_t, ifR_f, retR_s, retD_s, asB_b, asI_i, addD_ii, subD_ii, modD_ii, gtD_ii, geD_ii, leD_ii, ltD_ii, eqD_ii, eqD_ss, neD_ss, neD_ii, neD_bb, ixD_t, ixD_l, andB_t, andB_f, orB_t, orB_f, notV_b, mixR_, setsR_nil, setsR_cons, tg1_, tgT_1, tgT_2, tgT_4, asgG_u, walkD_t, walkD_l, tupleD_l, tupleD_t, listD_l, listD_t, lenD_t, lenD_l, wipeR_nil, wipeR_cons, Option.bind_some, Option.map_some, List.set_cons_zero, List.set_cons_succ, List.length_cons, List.length_nil, Nat.zero_add, Nat.reduceAdd, Nat.reduceLeDiff, Int.reduceAdd, Int.reduceLE, Int.reduceLT, Int.reduceNeg, Int.reduceSub, Int.reduceMul, Int.reduceEq, Bool.not_true, Bool.not_false, decide_true, decide_false, atI_0, atI_1, atI_2, atI_3, Int.reduceToNat]; rfl) ?_ | refine rt_step (by simp only [gv_0, gv_s, gb_0, gb_s, scr_0, bnd2_ss, consD_, tupD_, lstD_, asgR_s, seqR_nx, seqR_ret, ifR_t, ifR_f, retR_s, retD_s, asB_b, asI_i, addD_ii, subD_ii, modD_ii, gtD_ii, geD_ii, leD_ii, ltD_ii, eqD_ii, eqD_ss, neD_ss, neD_ii, neD_bb, ixD_t, ixD_l, andB_t, andB_f, orB_t, orB_f, notV_b, mixR_, setsR_nil, setsR_cons, tg1_, tgT_1, tgT_2, tgT_4, asgG_u, walkD_t, walkD_l, tupleD_l, tupleD_t, listD_l, listD_t, lenD_t, lenD_l, wipeR_nil, wipeR_cons, Option.bind_some, Option.map_some, List.set_cons_zero, List.set_cons_succ, List.length_cons, List.length_nil, Nat.zero_add, Nat.reduceAdd, Nat.reduceLeDiff, Int.reduceAdd, Int.reduceLE, Int.reduceLT, Int.reduceNeg, Int.reduceSub, Int.reduceMul, Int.reduceEq, Bool.not_true, Bool.not_false, decide_true, decide_false, atI_0, atI_1, atI_2, atI_3, Int.reduceToNat]; rfl) ?_ | refine seq_step (by simp only [gv_0, gv_s, gb_0, gb_s, scr_0, bnd2_ss, consD_, tupD_, lstD_, asgR_s, seqR_nx, seqR_ret, ifR_t, ifR_f, retR_s, retD_s, asB_b, asI_i, addD_ii, subD_ii, modD_ii, gtD_ii, geD_ii, leD_ii, ltD_ii, eqD_ii, eqD_ss, neD_ss, neD_ii, neD_bb, ixD_t, ixD_l, andB_t, andB_f, orB_t, orB_f, notV_b, mixR_, setsR_nil, setsR_cons, tg1_, tgT_1, tgT_2, tgT_4, asgG_u, walkD_t, walkD_l, tupleD_l, tupleD_t, listD_l, listD_t, lenD_t, lenD_l, wipeR_nil, wipeR_cons, Option.bind_some, Option.map_some, List.set_cons_zero, List.set_cons_succ, List.length_cons, List.length_nil, Nat.zero_add, Nat.reduceAdd, Nat.reduceLeDiff, Int.reduceAdd, Int.reduceLE, Int.reduceLT, Int.reduceNeg, Int.reduceSub, Int.reduceMul, Int.reduceEq, Bool.not_true, Bool.not_false, decide_true, decide_false, atI_0, atI_1, atI_2, atI_3, Int.reduceToNat]; rfl) ?_)
    refine seq_step (ρ := [.val (.tuple [.str "over", .int s]), .val l.enc, .val (.list (ms.map .str)), .val (.str "over"), .no, .no]) (if_no (by rfl) rfl) ?_
    refine seq_step (ρ := [.val (.tuple [.str "over", .int s]), .val l.enc, .val (.list (ms.map .str)), .val (.str "over"), .no, .no]) (if_no (by simp only [gv_0, gv_s, gb_0, gb_s, scr_0, bnd2_ss, consD_, tupD_, lstD_, asgR_s, seqR_nx, seqR_ret, ifR_t, ifR_f, retR_s, retD_s, asB_b, asI_i, addD_ii, subD_ii, modD_ii, gtD_ii, geD_ii, leD_ii, ltD_ii, eqD_ii, eqD_ss, neD_ss, neD_ii, neD_bb, ixD_t, ixD_l, andB_t, andB_f, orB_t, orB_f, notV_b, mixR_, setsR_nil, setsR_cons, tg1_, tgT_1, tgT_2, tgT_4, asgG_u, walkD_t, walkD_l, tupleD_l, tupleD_t, listD_l, listD_t, lenD_t, lenD_l, wipeR_nil, wipeR_cons, Option.bind_some, Option.map_some, List.set_cons_zero, List.set_cons_succ, List.length_cons, List.length_nil, Nat.zero_add, Nat.reduceAdd, Nat.reduceLeDiff, Int.reduceAdd, Int.reduceLE, Int.reduceLT, Int.reduceNeg, Int.reduceSub, Int.reduceMul, Int.reduceEq, Bool.not_true, Bool.not_false, decide_true, decide_false, atI_0, atI_1, atI_2, atI_3, Int.reduceToNat, in_be "over" (by decide +kernel)]; rfl) rfl) ?_
    rw [show seqR = seqR from rfl]
    simp only [gv_0, gv_s, gb_0, gb_s, bnd2_ss, eqD_ss, Option.bind_some, asB_b, decide_true, ifR_t, ixD_t, atI_1, addD_ii]
    rw [show ixD l.enc (.int 2) = some (.int l.size) from rfl, bnd2_ss, geD_ii]
    simp only [retR_s, seqR_ret, hold]
    rfl
  | n, .yes, l, ms, hn, ht, hl, hm => by
    rw [m_lh_succ]
    refine run_step rfl ?_
    rw [show startR 6 [Tst.yes.enc, l.enc, .list (ms.map .str)] = [.val (.tuple [.str "yes"]), .val l.enc, .val (.list (ms.map .str)), .no, .no, .no] from rfl]
    unfold fb__law_holds
    (first | refine nx_step (by simp only [gv_0, gv_s, gb_0, gb_s, scr_0, bnd2_ss, consD_, tupD_, lstD_, asgR_s, seqR_nx, seqR_ret, ifR_t, ifR_f, retR_s, retD_s, asB_b, asI_i, addD_ii, subD_ii, modD_ii, gtD_ii, geD_ii, leD_ii, ltD_ii, eqD_ii, eqD_ss, neD_ss, neD_ii, neD_bb, ixD_t, ixD_l, andB_t, andB_f, orB_t, orB_f, notV_b, mixR_, setsR_nil, setsR_cons, tg1_, tgT_1, tgT_2, tgT_4, asgG_u, walkD_t, walkD_l, tupleD_l, tupleD_t, listD_l, listD_t, lenD_t, lenD_l, wipeR_nil, wipeR_cons, Option.bind_some, Option.map_some, List.set_cons_zero, List.set_cons_succ, List.length_cons, List.length_nil, Nat.zero_add, Nat.reduceAdd, Nat.reduceLeDiff, Int.reduceAdd, Int.reduceLE, Int.reduceLT, Int.reduceNeg, Int.reduceSub, Int.reduceMul, Int.reduceEq, Bool.not_true, Bool.not_false, decide_true, decide_false, atI_0, atI_1, atI_2, atI_3, Int.reduceToNat]; rfl) ?_ | refine rt_step (by simp only [gv_0, gv_s, gb_0, gb_s, scr_0, bnd2_ss, consD_, tupD_, lstD_, asgR_s, seqR_nx, seqR_ret, ifR_t, ifR_f, retR_s, retD_s, asB_b, asI_i, addD_ii, subD_ii, modD_ii, gtD_ii, geD_ii, leD_ii, ltD_ii, eqD_ii, eqD_ss, neD_ss, neD_ii, neD_bb, ixD_t, ixD_l, andB_t, andB_f, orB_t, orB_f, notV_b, mixR_, setsR_nil, setsR_cons, tg1_, tgT_1, tgT_2, tgT_4, asgG_u, walkD_t, walkD_l, tupleD_l, tupleD_t, listD_l, listD_t, lenD_t, lenD_l, wipeR_nil, wipeR_cons, Option.bind_some, Option.map_some, List.set_cons_zero, List.set_cons_succ, List.length_cons, List.length_nil, Nat.zero_add, Nat.reduceAdd, Nat.reduceLeDiff, Int.reduceAdd, Int.reduceLE, Int.reduceLT, Int.reduceNeg, Int.reduceSub, Int.reduceMul, Int.reduceEq, Bool.not_true, Bool.not_false, decide_true, decide_false, atI_0, atI_1, atI_2, atI_3, Int.reduceToNat]; rfl) ?_ | refine seq_step (by simp only [gv_0, gv_s, gb_0, gb_s, scr_0, bnd2_ss, consD_, tupD_, lstD_, asgR_s, seqR_nx, seqR_ret, ifR_t, ifR_f, retR_s, retD_s, asB_b, asI_i, addD_ii, subD_ii, modD_ii, gtD_ii, geD_ii, leD_ii, ltD_ii, eqD_ii, eqD_ss, neD_ss, neD_ii, neD_bb, ixD_t, ixD_l, andB_t, andB_f, orB_t, orB_f, notV_b, mixR_, setsR_nil, setsR_cons, tg1_, tgT_1, tgT_2, tgT_4, asgG_u, walkD_t, walkD_l, tupleD_l, tupleD_t, listD_l, listD_t, lenD_t, lenD_l, wipeR_nil, wipeR_cons, Option.bind_some, Option.map_some, List.set_cons_zero, List.set_cons_succ, List.length_cons, List.length_nil, Nat.zero_add, Nat.reduceAdd, Nat.reduceLeDiff, Int.reduceAdd, Int.reduceLE, Int.reduceLT, Int.reduceNeg, Int.reduceSub, Int.reduceMul, Int.reduceEq, Bool.not_true, Bool.not_false, decide_true, decide_false, atI_0, atI_1, atI_2, atI_3, Int.reduceToNat]; rfl) ?_)
    refine seq_step (ρ := [.val (.tuple [.str "yes"]), .val l.enc, .val (.list (ms.map .str)), .val (.str "yes"), .no, .no]) (if_no (by rfl) rfl) ?_
    refine seq_step (ρ := [.val (.tuple [.str "yes"]), .val l.enc, .val (.list (ms.map .str)), .val (.str "yes"), .no, .no]) (if_no (by simp only [gv_0, gv_s, gb_0, gb_s, scr_0, bnd2_ss, consD_, tupD_, lstD_, asgR_s, seqR_nx, seqR_ret, ifR_t, ifR_f, retR_s, retD_s, asB_b, asI_i, addD_ii, subD_ii, modD_ii, gtD_ii, geD_ii, leD_ii, ltD_ii, eqD_ii, eqD_ss, neD_ss, neD_ii, neD_bb, ixD_t, ixD_l, andB_t, andB_f, orB_t, orB_f, notV_b, mixR_, setsR_nil, setsR_cons, tg1_, tgT_1, tgT_2, tgT_4, asgG_u, walkD_t, walkD_l, tupleD_l, tupleD_t, listD_l, listD_t, lenD_t, lenD_l, wipeR_nil, wipeR_cons, Option.bind_some, Option.map_some, List.set_cons_zero, List.set_cons_succ, List.length_cons, List.length_nil, Nat.zero_add, Nat.reduceAdd, Nat.reduceLeDiff, Int.reduceAdd, Int.reduceLE, Int.reduceLT, Int.reduceNeg, Int.reduceSub, Int.reduceMul, Int.reduceEq, Bool.not_true, Bool.not_false, decide_true, decide_false, atI_0, atI_1, atI_2, atI_3, Int.reduceToNat, in_be "yes" (by decide +kernel)]; rfl) rfl) ?_
    refine seq_step (ρ := [.val (.tuple [.str "yes"]), .val l.enc, .val (.list (ms.map .str)), .val (.str "yes"), .no, .no]) (if_no (by rfl) rfl) ?_
    simp only [gv_0, gv_s, gb_0, gb_s, bnd2_ss, eqD_ss, Option.bind_some, asB_b, decide_true, ifR_t, retR_s, seqR_ret, hold]
  | 0, .not t, l, ms, hn, ht, hl, hm => by simp [Tst.dep] at hn
  | 0, .both a b, l, ms, hn, ht, hl, hm => by simp [Tst.dep] at hn
  | 0, .either a b, l, ms, hn, ht, hl, hm => by simp [Tst.dep] at hn
  | n + 1, .not t, l, ms, hn, ht, hl, hm => by
    have e := lhold_eq n t l ms (by simp [Tst.dep] at hn; omega) ht hl hm
    rw [m_lh_succ]
    refine run_step rfl ?_
    rw [show startR 6 [(Tst.not t).enc, l.enc, .list (ms.map .str)] = [.val (.tuple [.str "not", t.enc]), .val l.enc, .val (.list (ms.map .str)), .no, .no, .no] from rfl]
    unfold fb__law_holds
    (first | refine nx_step (by simp only [gv_0, gv_s, gb_0, gb_s, scr_0, bnd2_ss, consD_, tupD_, lstD_, asgR_s, seqR_nx, seqR_ret, ifR_t, ifR_f, retR_s, retD_s, asB_b, asI_i, addD_ii, subD_ii, modD_ii, gtD_ii, geD_ii, leD_ii, ltD_ii, eqD_ii, eqD_ss, neD_ss, neD_ii, neD_bb, ixD_t, ixD_l, andB_t, andB_f, orB_t, orB_f, notV_b, mixR_, setsR_nil, setsR_cons, tg1_, tgT_1, tgT_2, tgT_4, asgG_u, walkD_t, walkD_l, tupleD_l, tupleD_t, listD_l, listD_t, lenD_t, lenD_l, wipeR_nil, wipeR_cons, Option.bind_some, Option.map_some, List.set_cons_zero, List.set_cons_succ, List.length_cons, List.length_nil, Nat.zero_add, Nat.reduceAdd, Nat.reduceLeDiff, Int.reduceAdd, Int.reduceLE, Int.reduceLT, Int.reduceNeg, Int.reduceSub, Int.reduceMul, Int.reduceEq, Bool.not_true, Bool.not_false, decide_true, decide_false, atI_0, atI_1, atI_2, atI_3, Int.reduceToNat]; rfl) ?_ | refine rt_step (by simp only [gv_0, gv_s, gb_0, gb_s, scr_0, bnd2_ss, consD_, tupD_, lstD_, asgR_s, seqR_nx, seqR_ret, ifR_t, ifR_f, retR_s, retD_s, asB_b, asI_i, addD_ii, subD_ii, modD_ii, gtD_ii, geD_ii, leD_ii, ltD_ii, eqD_ii, eqD_ss, neD_ss, neD_ii, neD_bb, ixD_t, ixD_l, andB_t, andB_f, orB_t, orB_f, notV_b, mixR_, setsR_nil, setsR_cons, tg1_, tgT_1, tgT_2, tgT_4, asgG_u, walkD_t, walkD_l, tupleD_l, tupleD_t, listD_l, listD_t, lenD_t, lenD_l, wipeR_nil, wipeR_cons, Option.bind_some, Option.map_some, List.set_cons_zero, List.set_cons_succ, List.length_cons, List.length_nil, Nat.zero_add, Nat.reduceAdd, Nat.reduceLeDiff, Int.reduceAdd, Int.reduceLE, Int.reduceLT, Int.reduceNeg, Int.reduceSub, Int.reduceMul, Int.reduceEq, Bool.not_true, Bool.not_false, decide_true, decide_false, atI_0, atI_1, atI_2, atI_3, Int.reduceToNat]; rfl) ?_ | refine seq_step (by simp only [gv_0, gv_s, gb_0, gb_s, scr_0, bnd2_ss, consD_, tupD_, lstD_, asgR_s, seqR_nx, seqR_ret, ifR_t, ifR_f, retR_s, retD_s, asB_b, asI_i, addD_ii, subD_ii, modD_ii, gtD_ii, geD_ii, leD_ii, ltD_ii, eqD_ii, eqD_ss, neD_ss, neD_ii, neD_bb, ixD_t, ixD_l, andB_t, andB_f, orB_t, orB_f, notV_b, mixR_, setsR_nil, setsR_cons, tg1_, tgT_1, tgT_2, tgT_4, asgG_u, walkD_t, walkD_l, tupleD_l, tupleD_t, listD_l, listD_t, lenD_t, lenD_l, wipeR_nil, wipeR_cons, Option.bind_some, Option.map_some, List.set_cons_zero, List.set_cons_succ, List.length_cons, List.length_nil, Nat.zero_add, Nat.reduceAdd, Nat.reduceLeDiff, Int.reduceAdd, Int.reduceLE, Int.reduceLT, Int.reduceNeg, Int.reduceSub, Int.reduceMul, Int.reduceEq, Bool.not_true, Bool.not_false, decide_true, decide_false, atI_0, atI_1, atI_2, atI_3, Int.reduceToNat]; rfl) ?_)
    simp only [gv_0, gv_s, gb_0, gb_s, bnd2_ss, eqD_ss, Option.bind_some, asB_b, decide_true, ifR_t, ixD_t, atI_1, consD_, e, notV_b, retR_s, seqR_ret, hold]
  | n + 1, .both a b, l, ms, hn, ht, hl, hm => by
    simp only [Tst.ok, Bool.and_eq_true] at ht
    have e1 := lhold_eq n a l ms (by simp [Tst.dep] at hn; omega) ht.1 hl hm
    have e2 := lhold_eq n b l ms (by simp [Tst.dep] at hn; omega) ht.2 hl hm
    exact (lh_two n a.enc b.enc l.enc (.list (ms.map .str)) "both" _ _ (.inl rfl) e1 e2).trans rfl
  | n + 1, .either a b, l, ms, hn, ht, hl, hm => by
    simp only [Tst.ok, Bool.and_eq_true] at ht
    have e1 := lhold_eq n a l ms (by simp [Tst.dep] at hn; omega) ht.1 hl hm
    have e2 := lhold_eq n b l ms (by simp [Tst.dep] at hn; omega) ht.2 hl hm
    exact (lh_two n a.enc b.enc l.enc (.list (ms.map .str)) "either" _ _ (.inr rfl) e1 e2).trans rfl
end Sv

/-! _law_walk goes as walkF does, but for marks and rules that stand more than once. -/
namespace Sv
open PySem L2 Evl
def pairsL (ds : List (Str × Nat)) : OD := lO (ds.map fun p => .tuple [.str p.1, .int (p.2 : Int)])
def st8 (ms : List Str) (dr ov : Bool) (ds : List (Str × Nat)) (ws la se an : List Str) : OD := .nd (.dk [.inr "marks", .inr "drop", .inr "stop", .inr "done", .inr "went", .inr "lay", .inr "send", .inr "answer"])
  [.dat (.list (ms.map .str)), .dat (.bool dr), .dat (.bool ov), pairsL ds, strL ws, strL la, strL se, strL an]
structure LR (M : Nat) (s : RSt) (o : OD) : Prop where
  ex : ∃ ms ds ws, o = st8 ms s.drop s.over ds ws s.lay s.send s.ans ∧ (∀ x, x ∈ ms ↔ x ∈ s.marks) ∧ (∀ p, p ∈ ds ↔ p ∈ s.begun) ∧ ms.length ≤ M ∧ ds.length ≤ M ∧ ws.length ≤ M
theorem LR.mono {M M' : Nat} {s : RSt} {o : OD} (h : LR M s o) (hm : M ≤ M') : LR M' s o := by
  obtain ⟨ms, ds, ws, e, h1, h2, h3, h4, h5⟩ := h.ex
  exact ⟨ms, ds, ws, e, h1, h2, by omega, by omega, by omega⟩
theorem LR.same {M : Nat} {s t : RSt} {o : OD} (h : LR M s o) (h1 : t.marks = s.marks) (h2 : t.drop = s.drop) (h3 : t.over = s.over) (h4 : t.begun = s.begun) (h5 : t.lay = s.lay) (h6 : t.send = s.send) (h7 : t.ans = s.ans) : LR M t o := by
  obtain ⟨ms, ds, ws, e, g1, g2, g3⟩ := h.ex
  refine ⟨ms, ds, ws, ?_, ?_, ?_, g3⟩
  · rw [h2, h3, h5, h6, h7]; exact e
  · rw [h1]; exact g1
  · rw [h4]; exact g2
abbrev most : Nat := 10000000
theorem most_lt : most < sizeLine := by decide
theorem lenLtM {n : Nat} (h : n ≤ most) : lenLt n = true := decide_eq_true (Nat.lt_of_le_of_lt h most_lt)
theorem lenOkM {n : Nat} (h : n ≤ most) : lenOk n = true := decide_eq_true (Nat.le_of_lt (Nat.lt_of_le_of_lt h most_lt))
theorem app_pairs {ds : List (Str × Nat)} (hl : ds.length ≤ most) (p : Str × Nat) : appO (.dat (.tuple [.str p.1, .int (p.2 : Int)])) (pairsL ds) = some (pairsL (ds ++ [p])) := by
  unfold pairsL lO appO
  dsimp only
  rw [if_pos (lenLtM (by simp only [List.length_map]; exact hl))]
  simp
theorem app_strM {a : List Str} (hl : a.length ≤ most) (n : Str) : appO (.dat (.str n)) (strL a) = some (strL (a ++ [n])) := by
  unfold strL lO appO
  dsimp only
  rw [if_pos (lenLtM (by simp only [List.length_map]; exact hl))]
  simp
section
variable {ms : List Str} {dr ov : Bool} {ds : List (Str × Nat)} {ws la se an : List Str} {a0 a1 a2 a3 : Sl} {r : Rho}
abbrev rho4 (a0 a1 a2 a3 : Sl) (o : OD) (r : Rho) : Rho := a0 :: a1 :: a2 :: a3 :: .own ⟨o, true⟩ :: r
theorem p4_stop : partD 4 (fun ρ => keyP 4 (fun ρ => some []) ρ (some (.str "stop"))) (rho4 a0 a1 a2 a3 (st8 ms dr ov ds ws la se an) r) = some (.bool ov) := rfl
theorem p4_marks : partD 4 (fun ρ => keyP 4 (fun ρ => some []) ρ (some (.str "marks"))) (rho4 a0 a1 a2 a3 (st8 ms dr ov ds ws la se an) r) = some (.list (ms.map .str)) := rfl
theorem p4_marksB : partB 4 (fun ρ => keyP 4 (fun ρ => some []) ρ (some (.str "marks"))) (rho4 a0 a1 a2 a3 (st8 ms dr ov ds ws la se an) r) = some (.list (ms.map .str)) := rfl
theorem a4_done (hl : ds.length ≤ most) (p : Str × Nat) : appP 4 (fun ρ => keyP 4 (fun ρ => some []) ρ (some (.str "done"))) (rho4 a0 a1 a2 a3 (st8 ms dr ov ds ws la se an) r) (some (.dat (.tuple [.str p.1, .int (p.2 : Int)]))) = some (.nx (rho4 a0 a1 a2 a3 (st8 ms dr ov (ds ++ [p]) ws la se an) r)) := by
  show ((appO (.dat (.tuple [.str p.1, .int (p.2 : Int)])) (pairsL ds)).map fun o2 => Res.nx ((rho4 a0 a1 a2 a3 (st8 ms dr ov ds ws la se an) r).set 4 (.own ⟨setP (st8 ms dr ov ds ws la se an) [3] o2, true⟩))) = _
  rw [app_pairs hl]; rfl
theorem a4_went (hl : ws.length ≤ most) (n : Str) : appP 4 (fun ρ => keyP 4 (fun ρ => some []) ρ (some (.str "went"))) (rho4 a0 a1 a2 a3 (st8 ms dr ov ds ws la se an) r) (some (.dat (.str n))) = some (.nx (rho4 a0 a1 a2 a3 (st8 ms dr ov ds (ws ++ [n]) la se an) r)) := by
  show ((appO (.dat (.str n)) (strL ws)).map fun o2 => Res.nx ((rho4 a0 a1 a2 a3 (st8 ms dr ov ds ws la se an) r).set 4 (.own ⟨setP (st8 ms dr ov ds ws la se an) [4] o2, true⟩))) = _
  rw [app_strM hl]; rfl
theorem u4_drop : putP 4 (fun ρ => some []) (rho4 a0 a1 a2 a3 (st8 ms dr ov ds ws la se an) r) (some (.str "drop")) (some (.bool true)) = some (.nx (rho4 a0 a1 a2 a3 (st8 ms true ov ds ws la se an) r)) := by
  rfl
theorem u4_stop : putP 4 (fun ρ => some []) (rho4 a0 a1 a2 a3 (st8 ms dr ov ds ws la se an) r) (some (.str "stop")) (some (.bool true)) = some (.nx (rho4 a0 a1 a2 a3 (st8 ms dr true ds ws la se an) r)) := by
  rfl
theorem u4_marks (ms' : List Str) : putP 4 (fun ρ => some []) (rho4 a0 a1 a2 a3 (st8 ms dr ov ds ws la se an) r) (some (.str "marks")) (some (.list (ms'.map .str))) = some (.nx (rho4 a0 a1 a2 a3 (st8 ms' dr ov ds ws la se an) r)) := by
  rfl
end
theorem runX5 {n : Nat} {fb : Rho → Option Res} {o o' : OD} {d0 d1 d2 d3 : PyData} {a0 a1 a2 a3 : Sl} {r : Rho} (h : fb (rho4 (.val d0) (.val d1) (.val d2) (.val d3) o (List.replicate (n - 5) .no)) = some (.nx (rho4 a0 a1 a2 a3 o' r))) : runX n 5 4 fb o [d0, d1, d2, d3] = some (.none, o') := by
  show retX 4 (fb (startX n 4 o [d0, d1, d2, d3])) = _
  rw [show startX n 4 o [d0, d1, d2, d3] = rho4 (.val d0) (.val d1) (.val d2) (.val d3) o (List.replicate (n - 5) .no) from rfl, h]
  rfl
theorem runX5r {n : Nat} {fb : Rho → Option Res} {o o' : OD} {d0 d1 d2 d3 : PyData} {a0 a1 a2 a3 : Sl} {r : Rho} (h : fb (rho4 (.val d0) (.val d1) (.val d2) (.val d3) o (List.replicate (n - 5) .no)) = some (.rex .none (rho4 a0 a1 a2 a3 o' r))) : runX n 5 4 fb o [d0, d1, d2, d3] = some (.none, o') := by
  show retX 4 (fb (startX n 4 o [d0, d1, d2, d3])) = _
  rw [show startX n 4 o [d0, d1, d2, d3] = rho4 (.val d0) (.val d1) (.val d2) (.val d3) o (List.replicate (n - 5) .no) from rfl, h]
  rfl
end Sv

namespace Sv
open PySem L2 Evl
theorem compL_genM {α : Type} (enc : α → PyData) {h : PyData → Option (List PyData)} {is vs : List Nat} {ft : Rho → Option Bool} {fe : Rho → Option PyData} {ρ : Rho} (es : α → List PyData) (p : α → Bool) (g : α → PyData)
    (xs : List α) (hl : xs.length ≤ most) (h1 : ∀ x ∈ xs, h (enc x) = some (es x)) (h2 : ∀ x ∈ xs, ft (setsR (wipeR ρ vs) is (es x)) = some (p x)) (h3 : ∀ x ∈ xs, p x = true → fe (setsR (wipeR ρ vs) is (es x)) = some (g x)) : compL (some (xs.map enc)) h is ft fe vs ρ = some (.list ((xs.filter p).map g)) := by
  unfold compL
  simp only [Option.bind_some, List.length_map, lenOkM hl, if_true, compD_gen enc es p g xs h1 h2 h3, Option.map_some]
theorem in_ds (w : Str) (hw : nmOk w = true) : inD (.str w) (.tuple [.str "drop", .str "stop"]) = some (.bool (decide (w = "drop" ∨ w = "stop"))) := by
  rw [show PyData.tuple [.str "drop", .str "stop"] = .tuple ((["drop", "stop"] : List Str).map .str) from rfl, inD_t w _ (by decide +kernel) hw]
  simp
theorem c_ds {a0 a1 a2 a3 : Sl} {o : OD} {r : Rho} (w : Str) (hw : nmOk w = true) (v : Bool) (hv : decide (w = "drop" ∨ w = "stop") = v) : (bnd2 (gb 5 (rho4 a0 a1 a2 a3 o (.val (.str w) :: r))) ((bnd2 (some (.str "drop")) ((bnd2 (some (.str "stop")) (some []) consD)) consD).bind tupD) inD).bind asB = some v := by
  show (inD (.str w) (.tuple [.str "drop", .str "stop"])).bind asB = _
  rw [in_ds w hw, hv]; rfl
theorem call4 {m : OD → List PyData → Option (PyData × OD)} {o o' : OD} {a0 a1 a2 a3 : Sl} {r : Rho} {ds : List PyData} {d : PyData} (hm : m o ds = some (d, o')) :
    dropX (callX 4 (fun ρ => some []) m (rho4 a0 a1 a2 a3 o r) (some ds)) = some (.nx (rho4 a0 a1 a2 a3 o' r)) := by
  show dropX ((m o ds).map fun r' => (r'.1, (rho4 a0 a1 a2 a3 o r).set 4 (.own ⟨setP o [] r'.2, true⟩))) = _
  rw [hm]
  rfl
section
variable {U : Uni} {s : RSt} {m : OD → List PyData → Option (PyData × OD)} {M M' : Nat} {o : OD} {B L W : PyData}
theorem ldo_call {n : Str} {o' : OD} (hm : m o [B, L, .str n, W] = some (.none, o')) : runX 7 5 4 (fb__law_do m) o [B, L, (Deed.call n).enc, W] = some (.none, o') :=
  runX5 (seq_step (ρ := rho4 (.val B) (.val L) (.val (Deed.call n).enc) (.val W) o [.val (.str "call"), .no]) rfl (if_no (c_ds "call" (by decide +kernel) false (by decide +kernel)) (if_yes rfl (call4 (r := [.val (.str "call"), .no]) hm))))
theorem ldo_drop (h : LR M s o) : ∃ o', runX 7 5 4 (fb__law_do m) o [B, L, Deed.drop.enc, W] = some (.none, o') ∧ LR M { s with drop := true } o' := by
  obtain ⟨ms, ds, ws, rfl, g1, g2, g3⟩ := h.ex
  exact ⟨_, runX5 (seq_step (ρ := rho4 (.val B) (.val L) (.val Deed.drop.enc) (.val W) _ [.val (.str "drop"), .no]) rfl (if_yes (c_ds "drop" (by decide +kernel) true (by decide +kernel)) u4_drop)), ⟨ms, ds, ws, rfl, g1, g2, g3⟩⟩
theorem ldo_stop (h : LR M s o) : ∃ o', runX 7 5 4 (fb__law_do m) o [B, L, Deed.stop.enc, W] = some (.none, o') ∧ LR M { s with over := true } o' := by
  obtain ⟨ms, ds, ws, rfl, g1, g2, g3⟩ := h.ex
  exact ⟨_, runX5 (seq_step (ρ := rho4 (.val B) (.val L) (.val Deed.stop.enc) (.val W) _ [.val (.str "stop"), .no]) rfl (if_yes (c_ds "stop" (by decide +kernel) true (by decide +kernel)) u4_stop)), ⟨ms, ds, ws, rfl, g1, g2, g3⟩⟩
theorem ldo_mark {n : Str} (hM : M < most) (h : LR M s o) : ∃ o', runX 7 5 4 (fb__law_do m) o [B, L, (Deed.mark n).enc, W] = some (.none, o') ∧ LR (M + 1) { s with marks := s.marks.filter (fun m => decide (m ≠ n)) ++ [n] } o' := by
  obtain ⟨ms, ds, ws, rfl, g1, g2, g3, g4, g5⟩ := h.ex
  refine ⟨st8 (ms ++ [n]) s.drop s.over ds ws s.lay s.send s.ans, runX5 (a0 := .val B) (a1 := .val L) (a2 := .val (Deed.mark n).enc) (a3 := .val W) (r := [.val (.str "mark"), .no]) (seq_step (ρ := rho4 (.val B) (.val L) (.val (Deed.mark n).enc) (.val W) _ [.val (.str "mark"), .no]) rfl (if_no (c_ds "mark" (by decide +kernel) false (by decide +kernel)) (if_no rfl (if_yes rfl ?_)))), ⟨ms ++ [n], ds, ws, rfl, fun x => ?_, g2, by simp; omega, by omega, by omega⟩⟩
  · refine Eq.trans ?_ (u4_marks (ms := ms) (ms ++ [n]))
    refine congrArg (putP 4 (fun ρ => some []) _ (some (.str "marks"))) ?_
    show addD (.list (ms.map .str)) (.list [.str n]) = _
    show (if lenOk ((ms.map PyData.str).length + 1) then some (PyData.list (ms.map PyData.str ++ [.str n])) else none) = _
    rw [if_pos (lenOkM (by simp only [List.length_map]; omega))]
    simp
  · have := g1 x
    by_cases hx : x = n <;> simp [hx, this]
theorem ldo_unmark {n : Str} (hM : M < most) (h : LR M s o) : ∃ o', runX 7 5 4 (fb__law_do m) o [B, L, (Deed.unmark n).enc, W] = some (.none, o') ∧ LR M { s with marks := s.marks.filter fun m => decide (m ≠ n) } o' := by
  obtain ⟨ms, ds, ws, rfl, g1, g2, g3, g4, g5⟩ := h.ex
  have hf := List.length_filter_le (fun m => decide (m ≠ n)) ms
  refine ⟨st8 (ms.filter fun m => decide (m ≠ n)) s.drop s.over ds ws s.lay s.send s.ans, runX5 (a0 := .val B) (a1 := .val L) (a2 := .val (Deed.unmark n).enc) (a3 := .val W) (r := [.val (.str "unmark"), .no]) (seq_step (ρ := rho4 (.val B) (.val L) (.val (Deed.unmark n).enc) (.val W) _ [.val (.str "unmark"), .no]) rfl (if_no (c_ds "unmark" (by decide +kernel) false (by decide +kernel)) (if_no rfl (if_no rfl (if_yes rfl ?_))))), ⟨ms.filter fun m => decide (m ≠ n), ds, ws, rfl, fun x => ?_, g2, by omega, g4, g5⟩⟩
  · refine Eq.trans ?_ (u4_marks (ms := ms) (ms.filter fun m => decide (m ≠ n)))
    refine congrArg (putP 4 (fun ρ => some []) _ (some (.str "marks"))) ?_
    refine compL_genM PyData.str (fun s => [.str s]) (fun m => decide (m ≠ n)) PyData.str ms (by omega) (fun _ _ => rfl) (fun x _ => ?_) (fun x _ _ => rfl)
    show (neD (.str x) (.str n)).bind asB = _
    rw [neD_ss]
    by_cases h : x = n <;> simp [h, asB_b]
  · simp [g1 x]
def ftL : Rho → Option Bool := fun ρ => (bnd2 (bnd2 (gb 2 ρ) (some (.int 1)) ixD) (partB 4 (fun ρ => keyP 4 (fun ρ => some []) ρ (gv 5 ρ)) ρ) notInD).bind asB
theorem ldo_put (d : Deed) (n w : Str) (la se an la' se' an' xs : List Str) (k : Nat) (ms : List Str) (dr ov : Bool) (ds : List (Str × Nat)) (ws : List Str) (he : d.enc = .tuple [.str w, .str n]) (hw : w = "lay" ∨ w = "send" ∨ w = "answer")
    (hn : nmOk n = true) (hx : xs.all nmOk = true) (hl : xs.length ≤ 1000) (hp : ∀ r, partB 4 (fun ρ => keyP 4 (fun ρ => some []) ρ (gv 5 ρ)) (rho4 (.val B) (.val L) (.val d.enc) (.val W) (st8 ms dr ov ds ws la se an) (.val (.str w) :: r)) = some (.list (xs.map .str)))
    (ha : ∀ r, n ∉ xs → appP 4 (fun ρ => keyP 4 (fun ρ => some []) ρ (gv 5 ρ)) (rho4 (.val B) (.val L) (.val d.enc) (.val W) (st8 ms dr ov ds ws la se an) (.val (.str w) :: r)) (some (.dat (.str n))) = some (.nx (rho4 (.val B) (.val L) (.val d.enc) (.val W) (st8 ms dr ov ds ws la' se' an') (.val (.str w) :: r))))
    (hno : n ∈ xs → la' = la ∧ se' = se ∧ an' = an) :
    runX 7 5 4 (fb__law_do m) (st8 ms dr ov ds ws la se an) [B, L, d.enc, W] = some (.none, st8 ms dr ov ds ws la' se' an') := by
  have e0 : bnd2 (some d.enc) (some (.int 0)) ixD = some (.str w) := by rw [he]; rfl
  have e1 : bnd2 (some d.enc) (some (.int 1)) ixD = some (.str n) := by rw [he]; rfl
  refine runX5 (a0 := .val B) (a1 := .val L) (a2 := .val d.enc) (a3 := .val W) (r := [.val (.str w), .no]) (seq_step (ρ := rho4 (.val B) (.val L) (.val d.enc) (.val W) _ [.val (.str w), .no]) (congrArg (asgR 5 _) e0) ?_)
  refine if_no (c_ds w (by rcases hw with rfl | rfl | rfl <;> decide +kernel) false (by rcases hw with rfl | rfl | rfl <;> decide +kernel)) (if_no (by rcases hw with rfl | rfl | rfl <;> rfl) (if_no (by rcases hw with rfl | rfl | rfl <;> rfl) (if_no (by rcases hw with rfl | rfl | rfl <;> rfl) ?_)))
  have hni := notIn_l n xs hx hn
  have ht : ftL (rho4 (.val B) (.val L) (.val d.enc) (.val W) (st8 ms dr ov ds ws la se an) [.val (.str w), .no]) = some (!decide (n ∈ xs)) := by
    unfold ftL
    rw [hp [.no]]
    show (bnd2 (bnd2 (some d.enc) (some (.int 1)) ixD) (some (.list (xs.map .str))) notInD).bind asB = _
    rw [e1, bnd2_ss, hni]; rfl
  by_cases hm : n ∈ xs
  · obtain ⟨rfl, rfl, rfl⟩ := hno hm
    exact if_no (by refine Eq.trans ht ?_; simp [hm]) rfl
  · refine if_yes (by refine Eq.trans ht ?_; simp [hm]) ?_
    refine Eq.trans ?_ (ha [.no] hm)
    refine congrArg (appP 4 (fun ρ => keyP 4 (fun ρ => some []) ρ (gv 5 ρ)) _) ?_
    show (bnd2 (some d.enc) (some (.int 1)) ixD).map OD.dat = _
    rw [e1]; rfl
theorem ldo_lay {n : Str} (hU : U.Ok) (hs : s.Inv U) (hn : nmOk n = true) (h : LR M s o) : ∃ o', runX 7 5 4 (fb__law_do m) o [B, L, (Deed.lay n).enc, W] = some (.none, o') ∧ LR M { s with lay := putL n s.lay } o' := by
  obtain ⟨ms, ds, ws, rfl, g1, g2, g3⟩ := h.ex
  refine ⟨st8 ms s.drop s.over ds ws (putL n s.lay) s.send s.ans, ldo_put (.lay n) n "lay" s.lay s.send s.ans (putL n s.lay) s.send s.ans s.lay 5 ms s.drop s.over ds ws rfl (.inl rfl) hn (few_nm hU hs.lay) (few_len hU hs.lay) (fun r => topD_lO _) (fun r hm => ?_) (fun hm => ⟨by unfold putL; rw [if_pos hm], rfl, rfl⟩), ⟨ms, ds, ws, rfl, g1, g2, g3⟩⟩
  show ((appO (.dat (.str n)) (strL s.lay)).map fun o2 => Res.nx _) = _
  rw [app_strL (few_len hU hs.lay)]
  unfold putL; rw [if_neg hm]; rfl
theorem ldo_send {n : Str} (hU : U.Ok) (hs : s.Inv U) (hn : nmOk n = true) (h : LR M s o) : ∃ o', runX 7 5 4 (fb__law_do m) o [B, L, (Deed.send n).enc, W] = some (.none, o') ∧ LR M { s with send := putL n s.send } o' := by
  obtain ⟨ms, ds, ws, rfl, g1, g2, g3⟩ := h.ex
  refine ⟨st8 ms s.drop s.over ds ws s.lay (putL n s.send) s.ans, ldo_put (.send n) n "send" s.lay s.send s.ans s.lay (putL n s.send) s.ans s.send 6 ms s.drop s.over ds ws rfl (.inr (.inl rfl)) hn (few_nm hU hs.send) (few_len hU hs.send) (fun r => topD_lO _) (fun r hm => ?_) (fun hm => ⟨rfl, by unfold putL; rw [if_pos hm], rfl⟩), ⟨ms, ds, ws, rfl, g1, g2, g3⟩⟩
  show ((appO (.dat (.str n)) (strL s.send)).map fun o2 => Res.nx _) = _
  rw [app_strL (few_len hU hs.send)]
  unfold putL; rw [if_neg hm]; rfl
theorem ldo_ans {n : Str} (hU : U.Ok) (hs : s.Inv U) (hn : nmOk n = true) (h : LR M s o) : ∃ o', runX 7 5 4 (fb__law_do m) o [B, L, (Deed.ans n).enc, W] = some (.none, o') ∧ LR M { s with ans := putL n s.ans } o' := by
  obtain ⟨ms, ds, ws, rfl, g1, g2, g3⟩ := h.ex
  refine ⟨st8 ms s.drop s.over ds ws s.lay s.send (putL n s.ans), ldo_put (.ans n) n "answer" s.lay s.send s.ans s.lay s.send (putL n s.ans) s.ans 7 ms s.drop s.over ds ws rfl (.inr (.inr rfl)) hn (few_nm hU hs.ans) (few_len hU hs.ans) (fun r => topD_lO _) (fun r hm => ?_) (fun hm => ⟨rfl, rfl, by unfold putL; rw [if_pos hm]⟩), ⟨ms, ds, ws, rfl, g1, g2, g3⟩⟩
  show ((appO (.dat (.str n)) (strL s.ans)).map fun o2 => Res.nx _) = _
  rw [app_strL (few_len hU hs.ans)]
  unfold putL; rw [if_neg hm]; rfl
theorem ldo_eq (hU : U.Ok) (hs : s.Inv U) (d : Deed) (hd : d.nm.all nmOk = true) (wk : Str → RSt → RSt) (h : LR M s o) (hM : M < most) (hM' : M + 1 ≤ M') (hm : ∀ n, d = .call n → ∃ o', m o [B, L, .str n, W] = some (.none, o') ∧ LR M' (wk n s) o') :
    ∃ o', runX 7 5 4 (fb__law_do m) o [B, L, d.enc, W] = some (.none, o') ∧ LR M' (doF wk d s) o' := by
  have mono : ∀ {t : RSt} {N : Nat}, N ≤ M' → (∃ o', runX 7 5 4 (fb__law_do m) o [B, L, d.enc, W] = some (.none, o') ∧ LR N t o') → ∃ o', runX 7 5 4 (fb__law_do m) o [B, L, d.enc, W] = some (.none, o') ∧ LR M' t o' := fun hN ⟨o', h1, h2⟩ => ⟨o', h1, h2.mono hN⟩
  cases d with
  | call n =>
    obtain ⟨o', h1, h2⟩ := hm n rfl
    exact ⟨o', ldo_call h1, h2⟩
  | drop => exact mono (by omega) (ldo_drop h)
  | stop => exact mono (by omega) (ldo_stop h)
  | lay n => exact mono (by omega) (ldo_lay hU hs (by simpa [Deed.nm] using hd) h)
  | send n => exact mono (by omega) (ldo_send hU hs (by simpa [Deed.nm] using hd) h)
  | ans n => exact mono (by omega) (ldo_ans hU hs (by simpa [Deed.nm] using hd) h)
  | mark n => exact mono hM' (ldo_mark hM h)
  | unmark n => exact mono (by omega) (ldo_unmark hM h)
end
end Sv

namespace Sv
open PySem L2 Evl
def LWk (U : Uni) (b : Book) (l : Ltr) (W : List Str) (m : OD → List PyData → Option (PyData × OD)) (wk : Str → RSt → RSt) (c : Nat) : Prop :=
  ∀ n t o M, n ∈ b.names → t.Inv U → t.within = W → LR M t o → M + c ≤ most → ∃ o', m o [b.dct, l.enc, .str n, strsD W] = some (.none, o') ∧ LR (M + c) (wk n t) o'
section
variable {b : Book} {l : Ltr} {U : Uni} {W : List Str} {name : Str} {m m0 : OD → List PyData → Option (PyData × OD)} {wk : Str → RSt → RSt} {c N : Nat}
theorem w_add (hl : W.length ≤ 1000) : addD (strsD W) (.tuple [.str name]) = some (strsD (W ++ [name])) := by
  show (if lenOk ((W.map PyData.str).length + 1) then some (PyData.tuple (W.map PyData.str ++ [.str name])) else none) = _
  rw [if_pos (lenOk_ (n := (W.map PyData.str).length) (by simpa using hl) |> fun _ => lenOkM (by simp only [List.length_map]; show _ ≤ 10000000; omega))]
  simp [strsD]
theorem lb1 {mh : List PyData → Option PyData} {x5 x6 : Sl} (hU : U.Ok) (hl : W.length ≤ 1000) (hw : WkOk U b l (W ++ [name]) m0 wk) (hlw : LWk U b l (W ++ [name]) m wk c) (d : Deed) (s : RSt) (o : OD) (M : Nat) (hd : d.Of U b) (hs : s.Inv U) (hW : s.within = W ++ [name]) (h : LR M s o) (hM : M + (c + 1) ≤ most) :
    ∃ o', fb__law_walk_b1 mh (runX 7 5 4 (fb__law_do m)) (rho4 (.val b.dct) (.val l.enc) (.val (.str name)) (.val (strsD W)) o [x5, x6, .val d.enc]) = some (.nx (rho4 (.val b.dct) (.val l.enc) (.val (.str name)) (.val (strsD W)) o' [x5, x6, .val d.enc])) ∧ LR (M + (c + 1)) (if s.over then s else doF wk d s) o' := by
  have hst : partD 4 (fun ρ => keyP 4 (fun ρ => some []) ρ (some (.str "stop"))) (rho4 (.val b.dct) (.val l.enc) (.val (.str name)) (.val (strsD W)) o [x5, x6, .val d.enc]) = some (.bool s.over) := by
    obtain ⟨ms, ds, ws, rfl, _⟩ := h.ex
    rfl
  unfold fb__law_walk_b1
  cases ho : s.over with
  | true =>
    refine ⟨o, if_no (by rw [hst, ho]; rfl) rfl, ?_⟩
    rw [if_pos rfl]
    exact h.mono (by omega)
  | false =>
    obtain ⟨o', h1, h2⟩ := ldo_eq (m := m) (B := b.dct) (L := l.enc) (W := strsD (W ++ [name])) (M' := M + (c + 1)) hU hs d (hd.ok hU) wk h (by omega) (by omega) fun n hn => by
      obtain ⟨o', h1, h2⟩ := hlw n s o M (hd.2 n hn) hs hW h (by omega)
      exact ⟨o', h1, h2.mono (by omega)⟩
    refine ⟨o', if_yes (by rw [hst, ho]; rfl) ?_, by rw [if_neg (by simp)]; exact h2⟩
    refine Eq.trans ?_ (call4 (r := [x5, x6, .val d.enc]) h1)
    refine congrArg (fun z => dropX (callX 4 (fun ρ => some []) (runX 7 5 4 (fb__law_do m)) (rho4 (.val b.dct) (.val l.enc) (.val (.str name)) (.val (strsD W)) o [x5, x6, .val d.enc]) z)) ?_
    show bnd2 (some b.dct) (bnd2 (some l.enc) (bnd2 (some d.enc) (bnd2 (addD (strsD W) (.tuple [.str name])) (some []) consD) consD) consD) consD = _
    rw [w_add hl]; rfl
theorem ldeeds {mh : List PyData → Option PyData} {x5 x6 : Sl} (hU : U.Ok) (hl : W.length ≤ 1000) (hw : WkOk U b l (W ++ [name]) m0 wk) (hlw : LWk U b l (W ++ [name]) m wk c) : ∀ (ds : List Deed) (s : RSt) (o : OD) (M : Nat) (x7 : Sl), (∀ d ∈ ds, d.Of U b) → s.Inv U → s.within = W ++ [name] → LR M s o → M + ds.length * (c + 1) ≤ most →
    ∃ o' x7', forD tg1 [7] (fb__law_walk_b1 mh (runX 7 5 4 (fb__law_do m))) (ds.map Deed.enc) (rho4 (.val b.dct) (.val l.enc) (.val (.str name)) (.val (strsD W)) o [x5, x6, x7]) = some (.nx (rho4 (.val b.dct) (.val l.enc) (.val (.str name)) (.val (strsD W)) o' [x5, x6, x7'])) ∧ LR (M + ds.length * (c + 1)) (deedsF wk ds s) o'
  | [], s, o, M, x7, _, _, _, h, _ => ⟨o, x7, rfl, h.mono (by omega)⟩
  | d :: ds, s, o, M, x7, hd, hs, hW, h, hM => by
    have hlen : (d :: ds).length * (c + 1) = (c + 1) + ds.length * (c + 1) := by rw [List.length_cons, Nat.succ_mul, Nat.add_comm]
    rw [hlen] at hM ⊢
    obtain ⟨o1, h1, h2⟩ := lb1 (mh := mh) (x5 := x5) (x6 := x6) hU hl hw hlw d s o M (hd d List.mem_cons_self) hs hW h (by omega)
    have hi : (if s.over then s else doF wk d s).Inv U ∧ (if s.over then s else doF wk d s).within = W ++ [name] := by
      split
      · exact ⟨hs, hW⟩
      · exact doF_inv hw hs hW (hd d List.mem_cons_self)
    obtain ⟨o2, x7', h3, h4⟩ := ldeeds (mh := mh) (x5 := x5) (x6 := x6) hU hl hw hlw ds _ o1 (M + (c + 1)) (.val d.enc) (fun e he => hd e (List.mem_cons_of_mem _ he)) hi.1 hi.2 h2 (by omega)
    refine ⟨o2, x7', ?_, by rw [show M + (c + 1 + ds.length * (c + 1)) = M + (c + 1) + ds.length * (c + 1) by omega]; exact h4⟩
    simp only [List.map_cons, forD, tg1]
    rw [show setsR (rho4 (.val b.dct) (.val l.enc) (.val (.str name)) (.val (strsD W)) o [x5, x6, x7]) [7] [d.enc] = rho4 (.val b.dct) (.val l.enc) (.val (.str name)) (.val (strsD W)) o [x5, x6, .val d.enc] from rfl, h1]
    exact h3
theorem rulesF_over {l : Ltr} {wk : Str → RSt → RSt} {name : Str} : ∀ (rs : List Rul) (k : Nat) (s : RSt), s.over = true → rulesF wk l name k rs s = s
  | [], k, s, h => rfl
  | r :: rs, k, s, h => by
    simp only [rulesF, h, Bool.not_true, Bool.false_and, Bool.false_eq_true, if_false]
    exact rulesF_over rs (k + 1) s h
theorem hold_ext {l : Ltr} {xs ys : List Str} (h : ∀ x, x ∈ xs ↔ x ∈ ys) : ∀ t : Tst, hold t l xs = hold t l ys
  | .frm s => rfl
  | .word s => rfl
  | .over n => rfl
  | .marked s => decide_eq_decide.mpr (h s)
  | .yes => rfl
  | .not t => by simp only [hold, hold_ext h t]
  | .both a b => by simp only [hold, hold_ext h a, hold_ext h b]
  | .either a b => by simp only [hold, hold_ext h a, hold_ext h b]
theorem putL_iff2 {α : Type} [DecidableEq α] {x y : α} {xs : List α} : y ∈ putL x xs ↔ y ∈ xs ∨ y = x := by
  unfold putL
  split
  · rename_i h
    exact ⟨.inl, fun z => z.elim id fun e => e ▸ h⟩
  · simp
/-- a result that leaves the state o -/
def Leaves (B L n W : PyData) (o : OD) (r : Option Res) : Prop := ∃ r', r = some (.nx (rho4 (.val B) (.val L) (.val n) (.val W) o r')) ∨ r = some (.rex .none (rho4 (.val B) (.val L) (.val n) (.val W) o r'))
theorem lrules (hU : U.Ok) (hlo : l.ok = true) (hl : W.length ≤ 1000) (hw : WkOk U b l (W ++ [name]) m0 wk) (hlw : LWk U b l (W ++ [name]) m wk c) : ∀ (rs : List Rul) (k : Nat) (s : RSt) (o : OD) (M : Nat) (x5 x6 x7 : Sl), (∀ r ∈ rs, r.Of U b N) → (∀ r ∈ rs, r.2.length ≤ 3) → (∀ j, j < k + rs.length → (name, j) ∈ U.ps) → s.Inv U → s.within = W ++ [name] → LR M s o → M + rs.length * (1 + 3 * (c + 1)) ≤ most →
    ∃ o', Leaves b.dct l.enc (.str name) (strsD W) o' (forD (tgT 2 (tgC tg1 (tgC tg1 tgN))) [5, 6] (fb__law_walk_b2 (m_lh (N + 1)) (runX 7 5 4 (fb__law_do m))) (enumFrom k (rs.map Rul.enc)) (rho4 (.val b.dct) (.val l.enc) (.val (.str name)) (.val (strsD W)) o [x5, x6, x7])) ∧ LR (M + rs.length * (1 + 3 * (c + 1))) (rulesF wk l name k rs s) o'
  | [], k, s, o, M, x5, x6, x7, _, _, _, _, _, h, _ => ⟨o, ⟨_, .inl rfl⟩, h.mono (by omega)⟩
  | r :: rs, k, s, o, M, x5, x6, x7, hr, h3, hk, hs, hW, h, hM => by
    have h0 := hr r List.mem_cons_self
    have hlen : (r :: rs).length * (1 + 3 * (c + 1)) = (1 + 3 * (c + 1)) + rs.length * (1 + 3 * (c + 1)) := by rw [List.length_cons, Nat.succ_mul, Nat.add_comm]
    rw [hlen] at hM ⊢
    have hkp : (name, k) ∈ U.ps := hk k (by simp only [List.length_cons]; omega)
    have hk' : ∀ j, j < (k + 1) + rs.length → (name, j) ∈ U.ps := fun j hj => hk j (by simp only [List.length_cons]; omega)
    have hr' : ∀ r ∈ rs, r.Of U b N := fun e he => hr e (List.mem_cons_of_mem _ he)
    have h3' : ∀ r ∈ rs, r.2.length ≤ 3 := fun e he => h3 e (List.mem_cons_of_mem _ he)
    obtain ⟨ms, ds, ws, rfl, g1, g2, g3, g4, g5⟩ := h.ex
    simp only [List.map_cons, enumFrom, forD]
    rw [tgT2]
    dsimp only
    rw [show setsR (rho4 (.val b.dct) (.val l.enc) (.val (.str name)) (.val (strsD W)) (st8 ms s.drop s.over ds ws s.lay s.send s.ans) [x5, x6, x7]) [5, 6] [.int (k : Int), r.enc] = rho4 (.val b.dct) (.val l.enc) (.val (.str name)) (.val (strsD W)) (st8 ms s.drop s.over ds ws s.lay s.send s.ans) [.val (.int (k : Int)), .val r.enc, x7] from rfl]
    cases ho : s.over with
    | true =>
      have hb : fb__law_walk_b2 (m_lh (N + 1)) (runX 7 5 4 (fb__law_do m)) (rho4 (.val b.dct) (.val l.enc) (.val (.str name)) (.val (strsD W)) (st8 ms s.drop true ds ws s.lay s.send s.ans) [.val (.int (k : Int)), .val r.enc, x7]) = some (.rex .none (rho4 (.val b.dct) (.val l.enc) (.val (.str name)) (.val (strsD W)) (st8 ms s.drop true ds ws s.lay s.send s.ans) [.val (.int (k : Int)), .val r.enc, x7])) := rfl
      rw [hb]
      refine ⟨_, ⟨_, .inr rfl⟩, ?_⟩
      rw [rulesF_over _ _ _ ho]
      exact LR.mono ⟨ms, ds, ws, by rw [ho], g1, g2, g3, g4, g5⟩ (by omega)
    | false =>
      have hms : ms.all nmOk = true := List.all_eq_true.mpr fun x hx => List.all_eq_true.mp (few_nm hU hs.marks) x ((g1 x).mp hx)
      have hh : m_lh (N + 1) [r.1.enc, l.enc, .list (ms.map .str)] = some (.bool (hold r.1 l s.marks)) := by rw [lhold_eq N r.1 l ms h0.dep h0.ok hlo hms, hold_ext g1]
      have hc : (((bnd2 (bnd2 (gb 6 (rho4 (.val b.dct) (.val l.enc) (.val (.str name)) (.val (strsD W)) (st8 ms s.drop false ds ws s.lay s.send s.ans) [.val (.int (k : Int)), .val r.enc, x7])) (some (.int 0)) ixD) ((bnd2 (gv 1 (rho4 (.val b.dct) (.val l.enc) (.val (.str name)) (.val (strsD W)) (st8 ms s.drop false ds ws s.lay s.send s.ans) [.val (.int (k : Int)), .val r.enc, x7])) ((bnd2 (partD 4 (fun ρ => keyP 4 (fun ρ => some []) ρ (some (.str "marks"))) (rho4 (.val b.dct) (.val l.enc) (.val (.str name)) (.val (strsD W)) (st8 ms s.drop false ds ws s.lay s.send s.ans) [.val (.int (k : Int)), .val r.enc, x7])) (some []) consD)) consD)) consD)).bind (m_lh (N + 1))).bind asB = some (hold r.1 l s.marks) := by
        show (m_lh (N + 1) [r.1.enc, l.enc, .list (ms.map .str)]).bind asB = _
        rw [hh]; rfl
      cases hcond : hold r.1 l s.marks with
      | false =>
        rw [hcond] at hc
        have hb : fb__law_walk_b2 (m_lh (N + 1)) (runX 7 5 4 (fb__law_do m)) (rho4 (.val b.dct) (.val l.enc) (.val (.str name)) (.val (strsD W)) (st8 ms s.drop false ds ws s.lay s.send s.ans) [.val (.int (k : Int)), .val r.enc, x7]) = some (.nx (rho4 (.val b.dct) (.val l.enc) (.val (.str name)) (.val (strsD W)) (st8 ms s.drop false ds ws s.lay s.send s.ans) [.val (.int (k : Int)), .val r.enc, x7])) :=
          seq_step (ρ := rho4 (.val b.dct) (.val l.enc) (.val (.str name)) (.val (strsD W)) (st8 ms s.drop false ds ws s.lay s.send s.ans) [.val (.int (k : Int)), .val r.enc, x7]) (if_no rfl rfl) (if_no hc rfl)
        rw [hb]
        obtain ⟨o', q1, q2⟩ := lrules hU hlo hl hw hlw rs (k + 1) s (st8 ms s.drop false ds ws s.lay s.send s.ans) M (.val (.int (k : Int))) (.val r.enc) x7 hr' h3' hk' hs hW ⟨ms, ds, ws, by rw [ho], g1, g2, g3, g4, g5⟩ (by omega)
        rw [show rulesF wk l name k (r :: rs) s = rulesF wk l name (k + 1) rs s from by simp only [rulesF, hcond, Bool.and_false, Bool.false_eq_true, if_false]]
        exact ⟨o', q1, q2.mono (by omega)⟩
      | true =>
        rw [hcond] at hc
        have hs1 : RSt.Inv U { s with begun := putL (name, k) s.begun } := ⟨hs.marks, hs.lay, hs.send, hs.ans, hs.within, hs.went, hs.begun.put hkp⟩
        have hR1 : LR (M + 1) { s with begun := putL (name, k) s.begun } (st8 ms s.drop false (ds ++ [(name, k)]) ws s.lay s.send s.ans) := ⟨ms, ds ++ [(name, k)], ws, by show _ = st8 ms s.drop s.over _ _ _ _ _; rw [ho], g1, fun p => by
          show _ ↔ p ∈ putL (name, k) s.begun
          rw [putL_iff2, List.mem_append, List.mem_singleton, g2 p], by omega, by simp; omega, by omega⟩
        have hd3 := h3 r List.mem_cons_self
        have hmul : r.2.length * (c + 1) ≤ 3 * (c + 1) := Nat.mul_le_mul_right _ hd3
        obtain ⟨o1, x7', q1, q2⟩ := ldeeds (mh := m_lh (N + 1)) (x5 := .val (.int (k : Int))) (x6 := .val r.enc) hU hl hw hlw r.2 _ _ (M + 1) x7 h0.deeds hs1 hW hR1 (by omega)
        have hi := deeds_eq (b := b) (l := l) hU hw .no .no .no r.2 { s with begun := putL (name, k) s.begun } .no h0.deeds hs1 hW
        obtain ⟨_, _, i1, i2⟩ := hi
        have hb : fb__law_walk_b2 (m_lh (N + 1)) (runX 7 5 4 (fb__law_do m)) (rho4 (.val b.dct) (.val l.enc) (.val (.str name)) (.val (strsD W)) (st8 ms s.drop false ds ws s.lay s.send s.ans) [.val (.int (k : Int)), .val r.enc, x7]) = some (.nx (rho4 (.val b.dct) (.val l.enc) (.val (.str name)) (.val (strsD W)) o1 [.val (.int (k : Int)), .val r.enc, x7'])) :=
          seq_step (ρ := rho4 (.val b.dct) (.val l.enc) (.val (.str name)) (.val (strsD W)) (st8 ms s.drop false ds ws s.lay s.send s.ans) [.val (.int (k : Int)), .val r.enc, x7]) (if_no rfl rfl) (if_yes hc (seq_step (a4_done (p := (name, k)) (by omega)) q1))
        rw [hb]
        obtain ⟨o', p1, p2⟩ := lrules hU hlo hl hw hlw rs (k + 1) _ o1 (M + 1 + r.2.length * (c + 1)) (.val (.int (k : Int))) (.val r.enc) x7' hr' h3' hk' i1 i2 q2 (by omega)
        rw [show rulesF wk l name k (r :: rs) s = rulesF wk l name (k + 1) rs (deedsF wk r.2 { s with begun := putL (name, k) s.begun }) from by simp only [rulesF, hcond, ho, Bool.not_false, Bool.and_self, if_true]]
        exact ⟨o', p1, p2.mono (by omega)⟩
end
end Sv

namespace Sv
open PySem L2 Evl
def m_lwalk (N : Nat) : Nat → OD → List PyData → Option (PyData × OD)
  | 0 => fun _ _ => none
  | n + 1 => runX 8 5 4 (fb__law_walk (m_lh (N + 1)) (runX 7 5 4 (fb__law_do (m_lwalk N n))))
def cst : Nat → Nat
  | 0 => 0
  | n + 1 => 1 + 4 * (1 + 3 * (cst n + 1))
structure Book.Sm (b : Book) : Prop where
  rl : ∀ p ∈ b, p.2.length ≤ 4
  dd : ∀ p ∈ b, ∀ r ∈ p.2, r.2.length ≤ 3
theorem Leaves.end_ {B L n W : PyData} {o o0 : OD} {fb : Rho → Option Res} (h : Leaves B L n W o (fb (rho4 (.val B) (.val L) (.val n) (.val W) o0 [.no, .no, .no]))) : runX 8 5 4 fb o0 [B, L, n, W] = some (.none, o) := by
  obtain ⟨r', h | h⟩ := h
  · exact runX5 h
  · exact runX5r h
section
variable {b : Book} {l : Ltr} {U : Uni} {N : Nat}
theorem lwalk_eq (hU : U.Ok) (hl : l.ok = true) (hb : b.Of U N) (sm : b.Sm) : ∀ (n : Nat) (name : Str) (s : RSt) (o : OD) (M : Nat), name ∈ b.names → s.Inv U → free b s.within < n → LR M s o → M + cst n ≤ most → ∃ o', m_lwalk N n o [b.dct, l.enc, .str name, strsD s.within] = some (.none, o') ∧ LR (M + cst n) (walkF b l n name s) o'
  | 0, name, s, o, M, _, _, h, _, _ => by omega
  | n + 1, name, s, o, M, hn, hs, hf, h, hM => by
    have hin : (bnd2 (gb 2 (rho4 (.val b.dct) (.val l.enc) (.val (.str name)) (.val (strsD s.within)) o [.no, .no, .no])) (gb 3 (rho4 (.val b.dct) (.val l.enc) (.val (.str name)) (.val (strsD s.within)) o [.no, .no, .no])) inD).bind asB = some (decide (name ∈ s.within)) := by
      show (inD (.str name) (strsD s.within)).bind asB = _
      rw [show strsD s.within = .tuple (s.within.map .str) from rfl, inD_t name s.within (few_nm hU hs.within) (List.all_eq_true.mp hU.nm name (hb.us name hn))]
      rfl
    by_cases hw : name ∈ s.within
    · rw [decide_eq_true hw] at hin
      have e : walkF b l (n + 1) name s = s := by simp only [walkF, if_pos hw]
      rw [e]
      refine ⟨o, ?_, h.mono (by omega)⟩
      refine Leaves.end_ ⟨[.no, .no, .no], .inr ?_⟩
      unfold fb__law_walk
      rw [hin]
      rfl
    · rw [decide_eq_false hw] at hin
      have hs1 : RSt.Inv U { s with went := putL name s.went, within := s.within ++ [name] } := ⟨hs.marks, hs.lay, hs.send, hs.ans, hs.within.snoc (hb.us name hn) hw, hs.went.put (hb.us name hn), hs.begun⟩
      have hfree : free b (s.within ++ [name]) < n := by
        have := filter_less s.within name hw b.names hn
        unfold free at hf ⊢
        omega
      have hwk : WkOk U b l (s.within ++ [name]) (m_walk N n) (walkF b l n) := fun x t hx ht hW => by
        have := walk_eq hU hl hb n x t hx ht (by rw [hW]; exact hfree)
        rw [hW] at this
        exact this
      have hlw : LWk U b l (s.within ++ [name]) (m_lwalk N n) (walkF b l n) (cst n) := fun x t o M hx ht hW hR hM => by
        have := lwalk_eq hU hl hb sm n x t o M hx ht (by rw [hW]; exact hfree) hR hM
        rw [hW] at this
        exact this
      have hg := get_mem hn
      obtain ⟨ms, ds, ws, rfl, g1, g2, g3, g4, g5⟩ := h.ex
      have hR1 : LR (M + 1) { s with went := putL name s.went, within := s.within ++ [name] } (st8 ms s.drop s.over ds (ws ++ [name]) s.lay s.send s.ans) := ⟨ms, ds, ws ++ [name], rfl, g1, g2, by omega, by omega, by simp; omega⟩
      have h4 := sm.rl _ hg
      have hmul : (b.get name).length * (1 + 3 * (cst n + 1)) ≤ 4 * (1 + 3 * (cst n + 1)) := Nat.mul_le_mul_right _ h4
      have hcs : cst (n + 1) = 1 + 4 * (1 + 3 * (cst n + 1)) := rfl
      obtain ⟨o', q1, q2⟩ := lrules (b := b) (N := N) (W := s.within) (name := name) hU hl (few_len hU hs.within) hwk hlw (b.get name) 0 { s with went := putL name s.went, within := s.within ++ [name] } _ (M + 1) .no .no .no (hb.rl _ hg) (sm.dd _ hg) (fun j hj => hb.ps _ hg j (by simpa using hj)) hs1 rfl hR1 (by omega)
      have e : walkF b l (n + 1) name s = { rulesF (walkF b l n) l name 0 (b.get name) { s with went := putL name s.went, within := s.within ++ [name] } with within := (rulesF (walkF b l n) l name 0 (b.get name) { s with went := putL name s.went, within := s.within ++ [name] }).within.dropLast } := by simp only [walkF, if_neg hw]
      refine ⟨o', ?_, ?_⟩
      · refine Leaves.end_ ?_
        have hbook : (bnd2 (some b.dct) (some (.str name)) ixE).bind enumD = some (enumFrom 0 ((b.get name).map Rul.enc)) := by
          show (ixE b.dct (.str name)).bind enumD = _
          rw [dct_get hn]
          rfl
        have hgo : fb__law_walk (m_lh (N + 1)) (runX 7 5 4 (fb__law_do (m_lwalk N n))) (rho4 (.val b.dct) (.val l.enc) (.val (.str name)) (.val (strsD s.within)) (st8 ms s.drop s.over ds ws s.lay s.send s.ans) [.no, .no, .no]) = forD (tgT 2 (tgC tg1 (tgC tg1 tgN))) [5, 6] (fb__law_walk_b2 (m_lh (N + 1)) (runX 7 5 4 (fb__law_do (m_lwalk N n)))) (enumFrom 0 ((b.get name).map Rul.enc)) (rho4 (.val b.dct) (.val l.enc) (.val (.str name)) (.val (strsD s.within)) (st8 ms s.drop s.over ds (ws ++ [name]) s.lay s.send s.ans) [.no, .no, .no]) := by
          refine seq_step (ρ := rho4 (.val b.dct) (.val l.enc) (.val (.str name)) (.val (strsD s.within)) (st8 ms s.drop s.over ds ws s.lay s.send s.ans) [.no, .no, .no]) (if_no hin rfl) ?_
          refine seq_step (ρ := rho4 (.val b.dct) (.val l.enc) (.val (.str name)) (.val (strsD s.within)) (st8 ms s.drop s.over ds (ws ++ [name]) s.lay s.send s.ans) [.no, .no, .no]) (a4_went (by omega) name) ?_
          show forR ((bnd2 (some b.dct) (some (.str name)) ixE).bind enumD) _ _ _ _ = _
          rw [hbook]; rfl
        rw [hgo]
        exact q1
      · rw [e]
        have q3 := q2.mono (M' := M + cst (n + 1)) (by omega)
        exact q3.same rfl rfl rfl rfl rfl rfl rfl
end
end Sv

namespace Sv
open PySem L2 Evl
def stD (ms : List Str) (dr ov : Bool) (ds : List (Str × Nat)) (ws la se an : List Str) : PyData := .dict [(.str "marks", .list (ms.map .str)), (.str "drop", .bool dr), (.str "stop", .bool ov), (.str "done", .list (ds.map fun p => .tuple [.str p.1, .int (p.2 : Int)])), (.str "went", .list (ws.map .str)), (.str "lay", .list (la.map .str)), (.str "send", .list (se.map .str)), (.str "answer", .list (an.map .str))]
theorem flat_st8 (ms : List Str) (dr ov : Bool) (ds : List (Str × Nat)) (ws la se an : List Str) : flat (st8 ms dr ov ds ws la se an) = some (stD ms dr ov ds ws la se an) := by
  unfold st8 pairsL strL
  simp only [flat, flatL, flat_lO]
  rfl
def m_lrun (N n : Nat) : List PyData → Option PyData := runD 3 2 (fb__law_run (m_lwalk N n))
theorem cst6 : 100 + cst 6 ≤ most := by decide
theorem call2 {m : OD → List PyData → Option (PyData × OD)} {o o' : OD} {a0 a1 : Sl} {p : Bool} {r : Rho} {ds : List PyData} {d : PyData} (hm : m o ds = some (d, o')) :
    dropX (callX 2 (fun ρ => some []) m (a0 :: a1 :: .own ⟨o, p⟩ :: r) (some ds)) = some (.nx (a0 :: a1 :: .own ⟨o', p⟩ :: r)) := by
  show dropX ((m o ds).map fun r' => (r'.1, (a0 :: a1 :: .own ⟨o, p⟩ :: r).set 2 (.own ⟨setP o [] r'.2, p⟩))) = _
  rw [hm]
  rfl
theorem sortset_few {e : PyData} {ss : List Str} (he : itemsOf e = some (ss.map .str)) (h1 : (ddup ss).length ≤ 1000) : sortSetD keyKind 1001 e = some (strsL (rset ss)) := by
  have hi : setItems keyKind 1001 e = some (ss.map .inr) := by
    unfold setItems
    rw [he]
    simp only [Option.bind_some, kds_str]
    rw [ddup_map (fun a b e => by cases e; rfl), List.length_map, if_pos (by omega)]
  have e2 : ((ddup ss).map (Sum.inr : Str → Key)).map keyKind.dk = (ddup ss).map .str := by rw [List.map_map]; rfl
  unfold sortSetD
  rw [hi]
  simp only [Option.bind_some]
  rw [ddup_map (fun a b e => by cases e; rfl), e2, if_pos (sok_str h1), srt_str]; rfl
section
variable {b : Book} {l : Ltr}
theorem lr_start {M : Nat} (hM : l.marks.length ≤ M) : LR M (start0 l) (st8 l.marks false false [] [] [] [] []) := ⟨l.marks, [], [], rfl, fun _ => Iff.rfl, fun _ => Iff.rfl, hM, by simp, by simp⟩
/-- what _law_run gives -/
theorem lrun_eq (hb : b.good = true) (sm : b.Sm) (hl : l.good = true) : ∃ ms ds ws, m_lrun 3 6 [b.enc, l.enc] = some (stD ms (runF 6 b l).drop (runF 6 b l).over ds ws (runF 6 b l).lay (runF 6 b l).send (runF 6 b l).ans) ∧ (∀ x, x ∈ ms ↔ x ∈ (runF 6 b l).marks) ∧ (∀ p, p ∈ ds ↔ p ∈ (runF 6 b l).begun) := by
  have gB := Book.good.of hb
  have gL := Ltr.good.of hl
  have hU := uni_ok gB gL
  have hf : free b (start0 l).within < 6 := by
    have := gB.len
    unfold free
    refine Nat.lt_of_le_of_lt (List.length_filter_le _ _) ?_
    unfold Book.names
    rw [List.length_map]; omega
  have hi0 : (start0 l).Inv (uniOf b l) := ⟨uni_marks gL, Few.nil, Few.nil, Few.nil, Few.nil, Few.nil, Few.nil⟩
  obtain ⟨o', w1, w2⟩ := lwalk_eq (N := 3) hU gL.ok (uni_of gB) sm 6 "main" (start0 l) _ 100 gB.main hi0 hf (lr_start gL.few) cst6
  obtain ⟨ms, ds, ws, rfl, g1, g2, g3⟩ := w2.ex
  have hinv := walk_inv hb hl
  have hc : (bnd2 (bnd2 (some (.list ((walkF b l 6 "main" (start0 l)).lay.map .str))) (some (.list ((walkF b l 6 "main" (start0 l)).send.map .str))) addD) (some (.list [])) eqD).bind asB = some (decide ((walkF b l 6 "main" (start0 l)).lay.length + (walkF b l 6 "main" (start0 l)).send.length = 0)) := by
    have h1 := few_nm hU hinv.lay
    have h2 := few_nm hU hinv.send
    have n1 := few_len hU hinv.lay
    have n2 := few_len hU hinv.send
    generalize (walkF b l 6 "main" (start0 l)).lay = la at *
    generalize (walkF b l 6 "main" (start0 l)).send = se at *
    rw [bnd2_ss]
    have ha : addD (.list (la.map PyData.str)) (.list (se.map PyData.str)) = some (.list ((la ++ se).map PyData.str)) := by
      show (if lenOk ((la.map PyData.str).length + (se.map PyData.str).length) then some (PyData.list (la.map PyData.str ++ se.map PyData.str)) else none) = _
      rw [if_pos (lenOkM (by simp only [List.length_map]; show _ ≤ 10000000; omega)), List.map_append]
    rw [ha, bnd2_ss, eqD_l0 (fun x hx => by
      obtain ⟨y, hy, rfl⟩ := List.mem_map.mp hx
      rcases List.mem_append.mp hy with h | h
      · exact cl_str 19 (List.all_eq_true.mp h1 y h)
      · exact cl_str 19 (List.all_eq_true.mp h2 y h))]
    show some (decide _) = _
    congr 1
    refine decide_eq_decide.mpr ?_
    cases la <;> cases se <;> simp
  generalize hs : walkF b l 6 "main" (start0 l) = s at *
  have e : runF 6 b l = finish s := by unfold runF; rw [hs]
  rw [e]
  have hrun : ∀ la', (if (decide (s.lay.length + s.send.length = 0) && !s.drop) = true then la' = s.lay ++ [("in" : Str)] else la' = s.lay) → m_lrun 3 6 [b.enc, l.enc] = some (stD ms s.drop s.over ds ws la' s.send s.ans) := fun la' hla => by
    refine run_step rfl ?_
    refine seq_step (ρ := [.val b.enc, .val l.enc, .own ⟨.nd (.dk [.inr "marks", .inr "drop", .inr "stop", .inr "done", .inr "went"]) [.dat (.list (l.marks.map .str)), .dat (.bool false), .dat (.bool false), pairsL [], strL []], false⟩]) rfl ?_
    refine seq_step (ρ := [.val b.enc, .val l.enc, .own ⟨st8 l.marks false false [] [] [] [] [], false⟩]) rfl ?_
    refine seq_step (ρ := [.val b.enc, .val l.enc, .own ⟨st8 ms s.drop s.over ds ws s.lay s.send s.ans, false⟩]) ?_ ?_
    · refine Eq.trans ?_ (call2 (p := false) (r := []) w1)
      refine congrArg (fun z => dropX (callX 2 (fun ρ => some []) (m_lwalk 3 6) _ z)) ?_
      show bnd2 (dictD b.enc) _ consD = _
      rw [dict_good hb]; rfl
    · refine seq_step (ρ := [.val b.enc, .val l.enc, .own ⟨st8 ms s.drop s.over ds ws la' s.send s.ans, false⟩]) ?_ ?_
      · have ht : (andB ((bnd2 (bnd2 (partB 2 (fun ρ => keyP 2 (fun ρ => some []) ρ (some (.str "lay"))) [.val b.enc, .val l.enc, .own ⟨st8 ms s.drop s.over ds ws s.lay s.send s.ans, false⟩]) (partB 2 (fun ρ => keyP 2 (fun ρ => some []) ρ (some (.str "send"))) [.val b.enc, .val l.enc, .own ⟨st8 ms s.drop s.over ds ws s.lay s.send s.ans, false⟩]) addD) ((some []).bind lstD) eqD).bind asB) (((partD 2 (fun ρ => keyP 2 (fun ρ => some []) ρ (some (.str "drop"))) [.val b.enc, .val l.enc, .own ⟨st8 ms s.drop s.over ds ws s.lay s.send s.ans, false⟩]).bind asB).map not)) = some (decide (s.lay.length + s.send.length = 0) && !s.drop) := by
          have e1 : partB 2 (fun ρ => keyP 2 (fun ρ => some []) ρ (some (.str "lay"))) [.val b.enc, .val l.enc, .own ⟨st8 ms s.drop s.over ds ws s.lay s.send s.ans, false⟩] = some (.list (s.lay.map .str)) := topD_lO _
          have e2 : partB 2 (fun ρ => keyP 2 (fun ρ => some []) ρ (some (.str "send"))) [.val b.enc, .val l.enc, .own ⟨st8 ms s.drop s.over ds ws s.lay s.send s.ans, false⟩] = some (.list (s.send.map .str)) := topD_lO _
          rw [e1, e2, show (some ([] : List PyData)).bind lstD = some (.list []) from rfl, hc]
          rw [show (((partD 2 (fun ρ => keyP 2 (fun ρ => some []) ρ (some (.str "drop"))) [.val b.enc, .val l.enc, .own ⟨st8 ms s.drop s.over ds ws s.lay s.send s.ans, false⟩]).bind asB).map not) = some (!s.drop) from rfl]
          cases decide (s.lay.length + s.send.length = 0) <;> rfl
        cases hcd : (decide (s.lay.length + s.send.length = 0) && !s.drop) with
        | false =>
          rw [hcd] at ht hla
          rw [if_neg (by simp)] at hla
          subst hla
          exact if_no ht rfl
        | true =>
          rw [hcd] at ht hla
          rw [if_pos rfl] at hla
          subst hla
          refine if_yes ht ?_
          show ((appO (.dat (.str "in")) (strL s.lay)).map fun o2 => Res.nx _) = _
          rw [app_strL (few_len hU hinv.lay)]; rfl
      · show retR (gv 2 (sealR 2 [.val b.enc, .val l.enc, .own ⟨st8 ms s.drop s.over ds ws la' s.send s.ans, false⟩])) = _
        rw [seal_own (i := 2) rfl (flat_st8 _ _ _ _ _ _ _ _)]
        rfl
  unfold finish
  by_cases hcd : (!s.drop && decide (s.lay.length + s.send.length = 0)) = true
  · rw [if_pos hcd]
    exact ⟨ms, ds, ws, hrun _ (by rw [Bool.and_comm, if_pos hcd]), g1, g2⟩
  · rw [if_neg hcd]
    exact ⟨ms, ds, ws, hrun _ (by rw [Bool.and_comm, if_neg hcd]), g1, g2⟩
end
end Sv

namespace Sv
open PySem L2 Evl
def m_ltold : List PyData → Option PyData := runD 2 1 fb__law_told_of
section
variable {ms : List Str} {dr ov : Bool} {ds : List (Str × Nat)} {ws la se an : List Str}
theorem ltold_eq (h : (ddup ms).length ≤ 1000) : m_ltold [stD ms dr ov ds ws la se an] = some (.tuple [strsD la, strsD se, strsD an, strsD (rset ms)]) := by
  refine run_step rfl ?_
  refine seq_step (ρ := [.val (stD ms dr ov ds ws la se an), .val (.tuple [strsD la, strsD se, strsD an])]) rfl ?_
  have e : (bnd2 (some (stD ms dr ov ds ws la se an)) (some (.str "marks")) ixE).bind (sortSetD keyKind 1001) = some (strsL (rset ms)) := by
    show sortSetD keyKind 1001 (.list (ms.map .str)) = _
    exact sortset_few rfl h
  show retR (bnd2 (some (.tuple [strsD la, strsD se, strsD an])) ((bnd2 (((bnd2 (some (stD ms dr ov ds ws la se an)) (some (.str "marks")) ixE).bind (sortSetD keyKind 1001)).bind tupleD) (some []) consD).bind tupD) addD) = _
  rw [e]
  rfl
theorem ldone_eq (h : (ddup ds).length < 60) : ((bnd2 (some (stD ms dr ov ds ws la se an)) (some (.str "done")) ixE).bind (sortSetD tupKind 60)).bind tupleD = some (prsD (rsetP ds)) := by
  show (sortSetD tupKind 60 (.list (ds.map fun p => .tuple [.str p.1, .int (p.2 : Int)]))).bind tupleD = _
  rw [sortset_prs (ps := ds) rfl h]
  rfl
end
/-- the same members: sorted(set(x)) is sorted of a list that has each once -/
theorem rset_is {xs ys : List Str} (h : ∀ x, x ∈ xs ↔ x ∈ ys) (nd : ys.Nodup) : rset xs = sortS ys := sortS_ext ((List.perm_ext_iff_of_nodup (ddup_nd _) nd).mpr fun x => by rw [ddup_mem]; exact h x)
theorem rsetP_is {xs ys : List (Str × Nat)} (h : ∀ x, x ∈ xs ↔ x ∈ ys) (nd : ys.Nodup) : rsetP xs = sortP ys := sortP_ext ((List.perm_ext_iff_of_nodup (ddup_nd _) nd).mpr fun x => by rw [ddup_mem]; exact h x)
theorem ddup_le {α : Type} [DecidableEq α] {xs ys : List α} (h : ∀ x, x ∈ xs ↔ x ∈ ys) : (ddup xs).length ≤ ys.length := len_sub _ _ (ddup_nd _) fun x hx => (h x).mp ((ddup_mem xs x).mp hx)
section
variable {b : Book} {l : Ltr}
/-- the law's own run tells what outcome and done_by tell -/
theorem lrun_all (hb : b.good = true) (sm : b.Sm) (hl : l.good = true) (hfew : (runF 6 b l).begun.length < 60) : ∃ st, m_lrun 3 6 [b.enc, l.enc] = some st ∧ m_ltold [st] = some (runF 6 b l).out.enc ∧ ((bnd2 (some st) (some (.str "done")) ixE).bind (sortSetD tupKind 60)).bind tupleD = some (prsD (sortP (runF 6 b l).begun)) := by
  obtain ⟨ms, ds, ws, e, g1, g2⟩ := lrun_eq hb sm hl
  have hi := runF_inv hb hl
  have hU := uni_ok (Book.good.of hb) (Ltr.good.of hl)
  refine ⟨_, e, ?_, ?_⟩
  · rw [ltold_eq (Nat.le_trans (ddup_le g1) (few_len hU hi.marks)), rset_is g1 hi.marks.1]
    rfl
  · rw [ldone_eq (Nat.lt_of_le_of_lt (ddup_le g2) hfew), rsetP_is g2 hi.begun.1]
end
end Sv

namespace K10
open PySem L2 Evl Sv
def topS (i : Nat) : Stmt := PySem.Challenge.pw_sieverules_k10_outcomes.main.body.getD i (.Pass ⟨0, 0, 0, 0⟩)

abbrev s_holds_with : Stmt := topS 3
abbrev s_holds : Stmt := topS 4
abbrev s_Run___init__ : Stmt := inClass (topS 5) 0
abbrev s_Run_walk : Stmt := inClass (topS 5) 1
abbrev s_Run_do : Stmt := inClass (topS 5) 2
abbrev s_Run_told : Stmt := inClass (topS 5) 3
abbrev s_outcome : Stmt := topS 6
abbrev s_done_by : Stmt := topS 7
abbrev s__law_cell_at : Stmt := topS 9
abbrev s__law_mixed : Stmt := topS 10
abbrev s__law_drawn : Stmt := topS 11
abbrev s__law_test : Stmt := topS 12
abbrev s__law_deed : Stmt := topS 13
abbrev s__law_book : Stmt := topS 14
abbrev s__law_letter : Stmt := topS 15
abbrev s__law_holds : Stmt := topS 16
abbrev s__law_run : Stmt := topS 17
abbrev s__law_walk : Stmt := topS 18
abbrev s__law_do : Stmt := topS 19
abbrev s__law_told_of : Stmt := topS 20
abbrev s_law : Stmt := topS 21
theorem sc__law_cell_at : FnScope ["script", "k"] ["script", "k"] (defScope s__law_cell_at) := ⟨rfl, rfl, rfl, by decide +kernel, rfl, by decide +kernel, by decide +kernel⟩
theorem ok__law_cell_at {P : Program} {w : World} {K : Fg} {mg : Str → Option Value} {base : Heap} {k : Nat} {f : Addr} {fd : FuncData} (F : Fun K "_law_cell_at" "_law_cell_at" s__law_cell_at f fd) (B : BI mg) :
    FnOk P w K mg base CX0 (k + 1) f fd ["script", "k"] (Sv.spCell K) := by
  have nd := sc__law_cell_at.nd
  refine F.ok sc__law_cell_at (fun vs H Q E h => ?_) fun cdv A outer s H vs Q E hr h => ?_
  · obtain ⟨a, ns, k, rfl, _⟩ := h
    rfl
  · obtain ⟨a, ns, k, rfl, hS, h0, q⟩ := h
    refine ⟨_, pss_cons (ps_if (pt_cmpR op_lt (pv 1) (pe_callB call_lenA (by rfl) B.len bt_len (pa_cons (pv 0) pa_nil)) (nomark _)) (pss_one (ps_ret (pe_ix ix_list (pv 0) (pv 1) (fun _ _ => rfl)))) pss_nil) (pss_one (ps_ret pe_int)), ?_⟩
    refine ⟨_, rfl, _, rfl, _, _, rfl, .inl ⟨_, hS, rfl⟩, _, _, rfl, rfl, _, rfl, ?_⟩
    have hl : (ns.map V.int).length = ns.length := List.length_map ..
    refine ite2 (fun hc => ?_) (fun hc => ?_)
    · have hk : k < (ns.length : Int) := by rw [hl] at hc; exact of_decide_eq_true hc
      have hk' : k.toNat < ns.length := by omega
      have e : (ns.map V.int)[k.toNat]? = some (V.int (cellN ns k)) := by
        unfold cellN
        rw [List.getElem?_map, List.getElem?_eq_getElem hk', List.getD_eq_getElem?_getD, List.getElem?_eq_getElem hk']
        rfl
      refine ⟨_, rfl, _, rfl, a, _, k, _, rfl, rfl, hS, ?_, q H (Ex.refl _)⟩
      have := atI_nat e
      rw [Int.toNat_of_nonneg h0] at this
      exact this
    · have hk : ¬ k < (ns.length : Int) := fun z => hc (by rw [hl]; exact decide_eq_true z)
      have e : cellN ns k = 0 := by
        unfold cellN
        rw [List.getD_eq_getElem?_getD, List.getElem?_eq_none (by omega)]
        rfl
      rw [e] at q
      exact q H (Ex.refl _)
theorem sc__law_mixed : FnScope ["script", "k", "drawn"] ["script", "k"] (defScope s__law_mixed) := ⟨rfl, rfl, rfl, by decide +kernel, rfl, by decide +kernel, by decide +kernel⟩
theorem ok__law_mixed {P : Program} {w : World} {K : Fg} {mg : Str → Option Value} {base : Heap} {k : Nat} {f : Addr} {fd : FuncData} (F : Fun K "_law_mixed" "_law_mixed" s__law_mixed f fd) (c : CalS P w K mg base k "_law_cell_at" ["script", "k"] (Sv.spCell K)) :
    FnOk P w K mg base CX0 (k + 1) f fd ["script", "k"] (spMix K) := by
  have nd := sc__law_mixed.nd
  refine F.ok sc__law_mixed (fun vs H Q E h => ?_) fun cdv A outer s H vs Q E hr h => ?_
  · obtain ⟨a, ns, k, rfl, _⟩ := h
    rfl
  · obtain ⟨a, ns, k, rfl, hS, h0, q⟩ := h
    have d1 : 0 ≤ mixD ns k := Int.emod_nonneg _ (by decide)
    have d2 : mixD ns k < 2147483647 := Int.emod_lt_of_pos _ (by decide)
    refine ⟨_, pss_cons (ps_set (i := 2) nd rfl (Or.inl rfl) (pe_op op_mod (pe_op op_mul (pe_op op_add (pe_op op_add (pe_cal c hr (by rfl) (pa_cons (pv 0) (pa_cons (pv 1) pa_nil))) (pe_op op_mul pe_int (pv 1))) pe_int) pe_int) pe_int))
      (pss_one (ps_ret (pe_op op_mod (pe_op op_add (pe_op op_add (pe_op op_mul (pv 2) (pv 2)) (pe_op op_mul pe_int (pv 2))) (pv 1)) pe_int))), ?_⟩
    refine ⟨_, rfl, _, rfl, a, ns, k, rfl, hS, h0, fun H' e' => ?_⟩
    refine ⟨_, rfl, _, _, rfl, rfl, .inl (by decide), _, _, rfl, rfl, _, _, rfl, rfl, _, _, rfl, rfl, .inr (by decide), _, _, rfl, rfl, (by show (0 : Int) < 2147483647; decide), ?_⟩
    refine ⟨_, rfl, _, rfl, _, _, rfl, rfl, .inl ⟨by show -(2 ^ 64) < mixD ns k; omega, by show mixD ns k < 2 ^ 64; omega⟩, _, rfl, _, _, rfl, rfl, .inl (by decide), _, _, rfl, rfl, _, rfl, _, _, rfl, rfl, _, _, rfl, rfl, (by show (0 : Int) < 2147483629; decide), ?_⟩
    exact q H' e'

abbrev N_holds_with : List Str := ["test", "letter", "marks", "word"]
theorem sc_holds_with : FnScope N_holds_with ["test", "letter", "marks"] (defScope s_holds_with) := ⟨rfl, rfl, rfl, by decide +kernel, rfl, by decide +kernel, by decide +kernel⟩
theorem ok_holds_with {P : Program} {w : World} {K : Fg} {mg : Str → Option Value} {base : Heap} {k : Nat} {f : Addr} {fd : FuncData} {m_holds_with : List PyData → Option PyData} (F : Fun K "holds_with" "holds_with" s_holds_with f fd) (B : BI mg) (c_holds_with : Cal P w K mg base (k) "holds_with" ["test", "letter", "marks"] m_holds_with) :
    FnOk P w K mg base CX0 (k + 1) f fd ["test", "letter", "marks"] (spD K (runD 4 3 (fb_holds_with m_holds_with))) := by
  have nd := sc_holds_with.nd
  refine F.ok sc_holds_with (spD_len runD_len) fun cdv A outer s H vs Q E hr h => ?_
  refine ⟨_, (pss_cons (ps_set (i := 3) nd rfl (Or.inl rfl) (pe_ix (ix_K K rfl) (pv 0) pe_int (fun _ _ => rfl)))
  (pss_cons (ps_if (pt_cmpR (op_eqK K rfl hr.units) (pv 3) pe_str (nomark _)) (pss_one (ps_ret pe_bl)) pss_nil)
  (pss_cons (ps_if (pt_cmpR (op_eqK K rfl hr.units) (pv 3) pe_str (nomark _)) (pss_one (ps_ret (pe_not (pe_cal c_holds_with hr (by rfl) (pa_cons (pe_ix (ix_K K rfl) (pv 0) pe_int (fun _ _ => rfl)) (pa_cons (pv 1) (pa_cons (pv 2) pa_nil))))))) pss_nil)
  (pss_cons (ps_if (pt_cmpR (op_eqK K rfl hr.units) (pv 3) pe_str (nomark _)) (pss_one (ps_ret (pe_and (pe_cal c_holds_with hr (by rfl) (pa_cons (pe_ix (ix_K K rfl) (pv 0) pe_int (fun _ _ => rfl)) (pa_cons (pv 1) (pa_cons (pv 2) pa_nil)))) (pe_one (pe_cal c_holds_with hr (by rfl) (pa_cons (pe_ix (ix_K K rfl) (pv 0) pe_int (fun _ _ => rfl)) (pa_cons (pv 1) (pa_cons (pv 2) pa_nil)))))))) pss_nil)
  (pss_cons (ps_if (pt_cmpR (op_eqK K rfl hr.units) (pv 3) pe_str (nomark _)) (pss_one (ps_ret (pe_or (pe_cal c_holds_with hr (by rfl) (pa_cons (pe_ix (ix_K K rfl) (pv 0) pe_int (fun _ _ => rfl)) (pa_cons (pv 1) (pa_cons (pv 2) pa_nil)))) (pe_one (pe_cal c_holds_with hr (by rfl) (pa_cons (pe_ix (ix_K K rfl) (pv 0) pe_int (fun _ _ => rfl)) (pa_cons (pv 1) (pa_cons (pv 2) pa_nil)))))))) pss_nil)
  (pss_cons (ps_if (pt_cmpR (op_eqK K rfl hr.units) (pv 3) pe_str (nomark _)) (pss_one (ps_ret (pe_cmpR (op_eqK K rfl hr.units) (pe_ix (ix_K K rfl) (pv 1) pe_int (fun _ _ => rfl)) (pe_ix (ix_K K rfl) (pv 0) pe_int (fun _ _ => rfl)) (nomark _)))) pss_nil)
  (pss_cons (ps_if (pt_cmpR (op_eqK K rfl hr.units) (pv 3) pe_str (nomark _)) (pss_one (ps_ret (pe_cmpR (op_inK K rfl (un65 hr)) (pe_ix (ix_K K rfl) (pv 0) pe_int (fun _ _ => rfl)) (pe_ix (ix_K K rfl) (pv 1) pe_int (fun _ _ => rfl)) (by rfl)))) pss_nil)
  (pss_cons (ps_if (pt_cmpR (op_eqK K rfl hr.units) (pv 3) pe_str (nomark _)) (pss_one (ps_ret (pe_cmpR op_gt0 (pe_ix (ix_K K rfl) (pv 1) pe_int (fun _ _ => rfl)) (pe_ix (ix_K K rfl) (pv 0) pe_int (fun _ _ => rfl)) (nomark _)))) pss_nil)
  (pss_one (ps_ret (pe_cmpR (op_inK K rfl (un65 hr)) (pe_ix (ix_K K rfl) (pv 0) pe_int (fun _ _ => rfl)) (pv 2) (by rfl)))))))))))), ?_⟩
  exact body_ok (N := N_holds_with) (fb := fb_holds_with m_holds_with)
    (es_seq (es_asg (i := 3) (ef_op e2_ix (eb_var 0) (ef_int).b))
  (es_seq (es_if (et_test (ef_op e2_eq (eb_var 3) (ef_str).b)) (es_ret ef_bl) es_next)
  (es_seq (es_if (et_test (ef_op e2_eq (eb_var 3) (ef_str).b)) (es_ret (ef_notV (ef_call (ea_cons (ef_op e2_ix (eb_var 0) (ef_int).b) (ea_cons (ef_var 1) (ea_cons (ef_var 2) ea_nil)))))) es_next)
  (es_seq (es_if (et_test (ef_op e2_eq (eb_var 3) (ef_str).b)) (es_ret (ef_andV (ef_call (ea_cons (ef_op e2_ix (eb_var 0) (ef_int).b) (ea_cons (ef_var 1) (ea_cons (ef_var 2) ea_nil)))) (ef_call (ea_cons (ef_op e2_ix (eb_var 0) (ef_int).b) (ea_cons (ef_var 1) (ea_cons (ef_var 2) ea_nil)))))) es_next)
  (es_seq (es_if (et_test (ef_op e2_eq (eb_var 3) (ef_str).b)) (es_ret (ef_orV (ef_call (ea_cons (ef_op e2_ix (eb_var 0) (ef_int).b) (ea_cons (ef_var 1) (ea_cons (ef_var 2) ea_nil)))) (ef_call (ea_cons (ef_op e2_ix (eb_var 0) (ef_int).b) (ea_cons (ef_var 1) (ea_cons (ef_var 2) ea_nil)))))) es_next)
  (es_seq (es_if (et_test (ef_op e2_eq (eb_var 3) (ef_str).b)) (es_ret (ef_op e2_eq (ef_op e2_ix (eb_var 1) (ef_int).b).b (ef_op e2_ix (eb_var 0) (ef_int).b).b)) es_next)
  (es_seq (es_if (et_test (ef_op e2_eq (eb_var 3) (ef_str).b)) (es_ret (ef_op e2_in (ef_op e2_ix (eb_var 0) (ef_int).b).b (ef_op e2_ix (eb_var 1) (ef_int).b).b)) es_next)
  (es_seq (es_if (et_test (ef_op e2_eq (eb_var 3) (ef_str).b)) (es_ret (ef_op e2_gt (ef_op e2_ix (eb_var 1) (ef_int).b).b (ef_op e2_ix (eb_var 0) (ef_int).b).b)) es_next)
  (es_ret (ef_op e2_in (ef_op e2_ix (eb_var 0) (ef_int).b).b (eb_var 2)))))))))))
    runD_ret h
abbrev N_holds : List Str := ["test", "letter"]
theorem sc_holds : FnScope N_holds ["test", "letter"] (defScope s_holds) := ⟨rfl, rfl, rfl, by decide +kernel, rfl, by decide +kernel, by decide +kernel⟩
theorem ok_holds {P : Program} {w : World} {K : Fg} {mg : Str → Option Value} {base : Heap} {k : Nat} {f : Addr} {fd : FuncData} {m_holds_with : List PyData → Option PyData} (F : Fun K "holds" "holds" s_holds f fd) (B : BI mg) (c_holds_with : Cal P w K mg base (k) "holds_with" ["test", "letter", "marks"] m_holds_with) :
    FnOk P w K mg base CX0 (k + 1) f fd ["test", "letter"] (spD K (runD 2 2 (fb_holds m_holds_with))) := by
  have nd := sc_holds.nd
  refine F.ok sc_holds (spD_len runD_len) fun cdv A outer s H vs Q E hr h => ?_
  refine ⟨_, (pss_one (ps_ret (pe_cal c_holds_with hr (by rfl) (pa_cons (pv 0) (pa_cons (pv 1) (pa_cons (pe_ix (ix_K K rfl) (pv 1) pe_int (fun _ _ => rfl)) pa_nil)))))), ?_⟩
  exact body_ok (N := N_holds) (fb := fb_holds m_holds_with)
    (es_ret (ef_call (ea_cons (ef_var 0) (ea_cons (ef_var 1) (ea_cons (ef_op e2_ix (eb_var 1) (ef_int).b) ea_nil)))))
    runD_ret h
abbrev N_Run_walk : List Str := ["self", "name", "number", "rule", "deed"]
theorem sc_Run_walk : FnScope N_Run_walk ["self", "name"] (defScope s_Run_walk) := ⟨rfl, rfl, rfl, by decide +kernel, rfl, by decide +kernel, by decide +kernel⟩
theorem ok_Run_walk {P : Program} {w : World} {K : Fg} {mg : Str → Option Value} {base : Heap} {k : Nat} {f : Addr} {fd : FuncData} {m_holds_with : List PyData → Option PyData} {m_Run_do : OD → List PyData → Option (PyData × OD)} (F : Fun K "walk" "Run.walk" s_Run_walk f fd) (B : BI mg) {C_Run : Addr} (cla_Run : Cla K "Run" C_Run ["book", "letter", "marks", "lists", "is_dropped", "is_over", "within", "went", "begun"]) (c_holds_with : Cal P w K mg base (k) "holds_with" ["test", "letter", "marks"] m_holds_with) (c_Run_do : CalM P w K mg base (k) C_Run "do" ["self", "deed"] (spX K 0 m_Run_do)) :
    FnOk P w K mg base CX0 (k + 1) f fd ["self", "name"] (spX K 0 (runX 5 2 0 (fb_Run_walk m_holds_with m_Run_do))) := by
  have nd := sc_Run_walk.nd
  refine F.ok sc_Run_walk (fun vs H Q E h => spX_len h) fun cdv A outer s H vs Q E hr h => ?_
  refine ⟨_, (pss_cons (ps_if (pt_cmpR (op_inK K rfl (un65 hr)) (pv 1) (pe_fldK K rfl (pv 0) rfl) (by rfl)) (pss_one ps_retN) pss_nil)
  (pss_cons (ps_dput (hu_of hr) (pe_fldK K rfl (pv 0) rfl) (pv 1) pe_bl rfl)
  (pss_cons (ps_expr (pe_bm PySem.F.plainAttrs_list PySem.F.slot_list_append PySem.F.type_list_append mt_append (pe_fldK K rfl (pv 0) rfl) (pa_cons (pv 1) pa_nil)))
  (pss_cons (ps_for PassesOwn.never rfl (pi_enumK K rfl (by rfl) B.enumerate (pa_cons (pe_ix (ix_KD K rfl hr.units) (pe_fldK K rfl (pv 0) rfl) (pv 1) (fun _ _ => rfl)) pa_nil)) (pg_tup rfl (pgs_cons (pg_name (i := 2) nd rfl (Or.inl rfl)) (pgs_cons (pg_name (i := 3) nd rfl (Or.inl rfl)) pgs_nil)))
  (pss_one (ps_if (PW.pt (pw_and (pt_not (pt_val (pe_fldK K rfl (pv 0) rfl))) (pw_and1 (pt_val (pe_cal c_holds_with hr (by rfl) (pa_cons (pe_ix (ix_K K rfl) (pv 3) pe_int (fun _ _ => rfl)) (pa_cons (pe_fldK K rfl (pv 0) rfl) (pa_cons (pe_fldK K rfl (pv 0) rfl) pa_nil)))))))) (pss_cons (ps_dput (hu_of hr) (pe_fldK K rfl (pv 0) rfl) (pe_tup (pa_cons (pv 1) (pa_cons (pv 2) pa_nil))) pe_bl rfl)
  (pss_one (ps_for PassesOwn.never rfl (pi_seqK K rfl (pe_ix (ix_K K rfl) (pv 3) pe_int (fun _ _ => rfl))) (pg_name (i := 4) nd rfl (Or.inl rfl))
  (pss_one (ps_if (pt_not (pt_val (pe_fldK K rfl (pv 0) rfl))) (pss_one (ps_expr (pe_calM (pv 0) cla_Run.cl c_Run_do hr (pa_cons (pv 4) pa_nil)))) pss_nil))))) pss_nil)))
  (pss_one (ps_expr (pe_bm0 PySem.F.plainAttrs_list PySem.F.slot_list_pop PySem.F.type_list_pop mt_pop (pe_fldK K rfl (pv 0) rfl)))))))), ?_⟩
  exact body_x (N := N_Run_walk) (k := 2) (j := 0) (fb := fb_Run_walk m_holds_with m_Run_do)
    (es_seq (es_if (et_test (ef_op e2_in (eb_var 1) (eb_partB (ep_fld (ep_var (i := 0)) (cla_Run.fld (f := "within") (.tail _ (.tail _ (.tail _ (.tail _ (.tail _ (.tail _ (.head _)))))))))))) es_rexN es_next)
  (es_seq (es_put (ep_fld (ep_var (i := 0)) (cla_Run.fld (f := "went") (.tail _ (.tail _ (.tail _ (.tail _ (.tail _ (.tail _ (.tail _ (.head _)))))))))) (ef_var 1) ef_bl)
  (es_seq (es_app (ep_fld (ep_var (i := 0)) (cla_Run.fld (f := "within") (.tail _ (.tail _ (.tail _ (.tail _ (.tail _ (.tail _ (.head _))))))))) (en_dat (ef_var 1)))
  (es_seq (es_for (ei_enum (ef_op e2_ixE (eb_partB (ep_fld (ep_var (i := 0)) (cla_Run.fld (f := "book") (.head _)))) (eb_var 1))) (eg_tup (egs_cons (eg_name 2) (egs_cons (eg_name 3) egs_nil)))
  (es_if (et_and (et_not (et_B (ef_partD (ep_fld (ep_var (i := 0)) (cla_Run.fld (f := "is_over") (.tail _ (.tail _ (.tail _ (.tail _ (.tail _ (.head _))))))))))) (et_B (ef_call (ea_cons (ef_op e2_ix (eb_var 3) (ef_int).b) (ea_cons (ef_partD (ep_fld (ep_var (i := 0)) (cla_Run.fld (f := "letter") (.tail _ (.head _))))) (ea_cons (ef_partD (ep_fld (ep_var (i := 0)) (cla_Run.fld (f := "marks") (.tail _ (.tail _ (.head _)))))) ea_nil)))))) (es_seq (es_putT (ep_fld (ep_var (i := 0)) (cla_Run.fld (f := "begun") (.tail _ (.tail _ (.tail _ (.tail _ (.tail _ (.tail _ (.tail _ (.tail _ (.head _))))))))))) (ekt_tup (ea_cons (ef_var 1) (ea_cons (ef_var 2) ea_nil))) ef_bl)
  (es_for (ei_seq (ef_op e2_ix (eb_var 3) (ef_int).b)) (eg_name 4)
  (es_if (et_not (et_B (ef_partD (ep_fld (ep_var (i := 0)) (cla_Run.fld (f := "is_over") (.tail _ (.tail _ (.tail _ (.tail _ (.tail _ (.head _))))))))))) (es_dropX (ex_meth cla_Run.at_ (ep_var (i := 0)) (ea_cons (ef_var 4) ea_nil))) es_next))) es_next))
  (es_pop (ep_fld (ep_var (i := 0)) (cla_Run.fld (f := "within") (.tail _ (.tail _ (.tail _ (.tail _ (.tail _ (.tail _ (.head _))))))))))))))
    h
abbrev N_Run_do : List Str := ["self", "deed", "word", "mark"]
theorem sc_Run_do : FnScope N_Run_do ["self", "deed"] (defScope s_Run_do) := ⟨rfl, rfl, rfl, by decide +kernel, rfl, by decide +kernel, by decide +kernel⟩
theorem ok_Run_do {P : Program} {w : World} {K : Fg} {mg : Str → Option Value} {base : Heap} {k : Nat} {f : Addr} {fd : FuncData} {m_Run_walk : OD → List PyData → Option (PyData × OD)} (F : Fun K "do" "Run.do" s_Run_do f fd) (B : BI mg) {C_Run : Addr} (cla_Run : Cla K "Run" C_Run ["book", "letter", "marks", "lists", "is_dropped", "is_over", "within", "went", "begun"]) (c_Run_walk : CalM P w K mg base (k) C_Run "walk" ["self", "name"] (spX K 0 m_Run_walk)) :
    FnOk P w K mg base CX0 (k + 1) f fd ["self", "deed"] (spX K 0 (runX 4 2 0 (fb_Run_do m_Run_walk))) := by
  have nd := sc_Run_do.nd
  refine F.ok sc_Run_do (fun vs H Q E h => spX_len h) fun cdv A outer s H vs Q E hr h => ?_
  refine ⟨_, (pss_cons (ps_set (i := 2) nd rfl (Or.inl rfl) (pe_ix (ix_K K rfl) (pv 1) pe_int (fun _ _ => rfl)))
  (pss_one (ps_if (pt_cmpR (op_eqK K rfl hr.units) (pv 2) pe_str (nomark _)) (pss_one (ps_expr (pe_calM (pv 0) cla_Run.cl c_Run_walk hr (pa_cons (pe_ix (ix_K K rfl) (pv 1) pe_int (fun _ _ => rfl)) pa_nil)))) (pss_one (ps_if (pt_cmpR (op_eqK K rfl hr.units) (pv 2) pe_str (nomark _)) (pss_one (ps_fld (pv 0) pe_bl rfl)) (pss_one (ps_if (pt_cmpR (op_eqK K rfl hr.units) (pv 2) pe_str (nomark _)) (pss_one (ps_fld (pv 0) pe_bl rfl)) (pss_one (ps_if (pt_cmpR (op_inKD K rfl (un65 hr)) (pv 2) (pe_fldK K rfl (pv 0) rfl) (by rfl)) (pss_one (ps_if (pt_cmpR (op_notInK K rfl (un65 hr)) (pe_ix (ix_K K rfl) (pv 1) pe_int (fun _ _ => rfl)) (pe_dget (hu_of hr) (pe_fldK K rfl (pv 0) rfl) (pv 2) (fun _ _ => rfl)) (by rfl)) (pss_one (ps_expr (pe_bm PySem.F.plainAttrs_list PySem.F.slot_list_append PySem.F.type_list_append mt_append (pe_dget (hu_of hr) (pe_fldK K rfl (pv 0) rfl) (pv 2) (fun _ _ => rfl)) (pa_cons (pe_ix (ix_K K rfl) (pv 1) pe_int (fun _ _ => rfl)) pa_nil)))) pss_nil)) (pss_one (ps_fld (pv 0) (pe_op (op_addK K rfl) (pe_lc (own := [("mark", 3)]) (g := (gName 3)) rfl nd (pi_seqK K rfl (pe_fldK K rfl (pv 0) rfl)) (blkOk_by (own := [("mark", 3)]) (N := N_Run_do) (sc := (defScope s_Run_do)) (by decide +kernel)) (fun _ _ _ _ _ => (pg_name (i := 3) nd rfl (Or.inl rfl))) (fun _ _ _ _ _ => (pts_one (pt_cmpR (op_neK K rfl hr.units) (pv 3) (pe_ix (ix_K K rfl) (pv 1) pe_int (fun _ _ => rfl)) (nomark _)))) (fun _ _ _ _ _ => (pv 3))) (pe_op op_mulE (pe_lst (pa_cons (pe_ix (ix_K K rfl) (pv 1) pe_int (fun _ _ => rfl)) pa_nil)) (pe_callTy call_intA (by rfl) B.int bt_int (pa_cons (pe_cmpR (op_eqK K rfl hr.units) (pv 2) pe_str (nomark _)) pa_nil)))) rfl))))))))))), ?_⟩
  exact body_x (N := N_Run_do) (k := 2) (j := 0) (fb := fb_Run_do m_Run_walk)
    (es_seq (es_asg (i := 2) (ef_op e2_ix (eb_var 1) (ef_int).b))
  (es_if (et_test (ef_op e2_eq (eb_var 2) (ef_str).b)) (es_dropX (ex_meth cla_Run.at_ (ep_var (i := 0)) (ea_cons (ef_op e2_ix (eb_var 1) (ef_int).b) ea_nil))) (es_if (et_test (ef_op e2_eq (eb_var 2) (ef_str).b)) (es_fld (ep_var (i := 0)) (en_dat ef_bl) (cla_Run.fld (f := "is_dropped") (.tail _ (.tail _ (.tail _ (.tail _ (.head _))))))) (es_if (et_test (ef_op e2_eq (eb_var 2) (ef_str).b)) (es_fld (ep_var (i := 0)) (en_dat ef_bl) (cla_Run.fld (f := "is_over") (.tail _ (.tail _ (.tail _ (.tail _ (.tail _ (.head _)))))))) (es_if (et_test (ef_inP (n := false) (ef_var 2) (ep_fld (ep_var (i := 0)) (cla_Run.fld (f := "lists") (.tail _ (.tail _ (.tail _ (.head _)))))))) (es_if (et_test (ef_op e2_notIn (ef_op e2_ix (eb_var 1) (ef_int).b).b (eb_partB (ep_key (ep_fld (ep_var (i := 0)) (cla_Run.fld (f := "lists") (.tail _ (.tail _ (.tail _ (.head _)))))) (ef_var 2))))) (es_app (ep_key (ep_fld (ep_var (i := 0)) (cla_Run.fld (f := "lists") (.tail _ (.tail _ (.tail _ (.head _)))))) (ef_var 2)) (en_dat (ef_op e2_ix (eb_var 1) (ef_int).b))) es_next) (es_fld (ep_var (i := 0)) (en_dat (ef_op e2_add (ef_lcD (eib_seq (eb_partB (ep_fld (ep_var (i := 0)) (cla_Run.fld (f := "marks") (.tail _ (.tail _ (.head _))))))) (eg_name 3) (et_test (ef_op e2_ne (eb_var 3) (ef_op e2_ix (eb_var 1) (ef_int).b).b)) (ef_var 3)).b (ef_op e2_mulE (ef_lst (ea_cons (ef_op e2_ix (eb_var 1) (ef_int).b) ea_nil)).b (ef_cb1 e1_int (ef_op e2_eq (eb_var 2) (ef_str).b).b).b).b)) (cla_Run.fld (f := "marks") (.tail _ (.tail _ (.head _))))))))))
    h
abbrev N_Run___init__ : List Str := ["self", "book", "letter"]
theorem sc_Run___init__ : FnScope N_Run___init__ ["self", "book", "letter"] (defScope s_Run___init__) := ⟨rfl, rfl, rfl, by decide +kernel, rfl, by decide +kernel, by decide +kernel⟩
theorem ok_Run___init__ {P : Program} {w : World} {K : Fg} {mg : Str → Option Value} {base : Heap} {k : Nat} {f : Addr} {fd : FuncData} {m_Run_walk : OD → List PyData → Option (PyData × OD)} (F : Fun K "__init__" "Run.__init__" s_Run___init__ f fd) (B : BI mg) {C_Run : Addr} (cla_Run : Cla K "Run" C_Run ["book", "letter", "marks", "lists", "is_dropped", "is_over", "within", "went", "begun"]) (c_Run_walk : CalM P w K mg base (k) C_Run "walk" ["self", "name"] (spX K 0 m_Run_walk)) {t_MAIN : Tok} (g_MAIN : mg "MAIN" = some (.str "main" t_MAIN)) {t_IN : Tok} (g_IN : mg "IN" = some (.str "in" t_IN)) :
    FnOk P w K mg base CX0 (k + 1) f fd ["self", "book", "letter"] (spX K 0 (runX 3 3 0 (fb_Run___init__ m_Run_walk))) := by
  have nd := sc_Run___init__.nd
  refine F.ok sc_Run___init__ (fun vs H Q E h => spX_len h) fun cdv A outer s H vs Q E hr h => ?_
  refine ⟨_, (pss_cons (ps_fld (pv 0) (pe_callTy (call_dictK K rfl rfl) (by rfl) B.dict bt_dict (pa_cons (pv 1) pa_nil)) rfl)
  (pss_cons (ps_fld (pv 0) (pv 2) rfl)
  (pss_cons (ps_fld (pv 0) (pe_callTy (call_listK K rfl) (by rfl) B.list bt_list (pa_cons (pe_ix (ix_K K rfl) (pv 2) pe_int (fun _ _ => rfl)) pa_nil)) rfl)
  (pss_cons (ps_fld (pv 0) (pe_disp (pps_cons pe_str (pe_lst pa_nil) (pps_cons pe_str (pe_lst pa_nil) (pps_cons pe_str (pe_lst pa_nil) pps_nil))) (by rfl) (by rfl) (fun z => by cases z) (by decide)) rfl)
  (pss_cons (ps_fld (pv 0) pe_bl rfl)
  (pss_cons (ps_fld (pv 0) pe_bl rfl)
  (pss_cons (ps_fld (pv 0) (pe_lst pa_nil) rfl)
  (pss_cons (ps_fld (pv 0) pe_dnewK rfl)
  (pss_cons (ps_fld (pv 0) pe_dnewT rfl)
  (pss_cons (ps_expr (pe_calM (pv 0) cla_Run.cl c_Run_walk hr (pa_cons (pe_glob (v := .str "main") (by rfl) g_MAIN ⟨_, rfl⟩) pa_nil)))
  (pss_one (ps_if (PW.pt (pw_and (pt_not (pt_val (pe_fldK K rfl (pv 0) rfl))) (pw_and1 (pt_cmpR (op_eqK K rfl hr.units) (pe_op (op_addK K rfl) (pe_callB (call_lenK K rfl) (by rfl) B.len bt_len (pa_cons (pe_dget (hu_of hr) (pe_fldK K rfl (pv 0) rfl) pe_str (fun _ _ => rfl)) pa_nil)) (pe_callB (call_lenK K rfl) (by rfl) B.len bt_len (pa_cons (pe_dget (hu_of hr) (pe_fldK K rfl (pv 0) rfl) pe_str (fun _ _ => rfl)) pa_nil))) pe_int (nomark _))))) (pss_one (ps_expr (pe_bm PySem.F.plainAttrs_list PySem.F.slot_list_append PySem.F.type_list_append mt_append (pe_dget (hu_of hr) (pe_fldK K rfl (pv 0) rfl) pe_str (fun _ _ => rfl)) (pa_cons (pe_glob (v := .str "in") (by rfl) g_IN ⟨_, rfl⟩) pa_nil)))) pss_nil)))))))))))), ?_⟩
  exact body_x (N := N_Run___init__) (k := 3) (j := 0) (fb := fb_Run___init__ m_Run_walk)
    (es_seq (es_fld (ep_var (i := 0)) (en_dat (ef_cb1 e1_dict (eb_var 1))) (cla_Run.fld (f := "book") (.head _)))
  (es_seq (es_fld (ep_var (i := 0)) (en_dat (ef_var 2)) (cla_Run.fld (f := "letter") (.tail _ (.head _))))
  (es_seq (es_fld (ep_var (i := 0)) (en_dat (ef_cb1 e1_list (ef_op e2_ix (eb_var 2) (ef_int).b).b)) (cla_Run.fld (f := "marks") (.tail _ (.tail _ (.head _)))))
  (es_seq (es_fld (ep_var (i := 0)) (en_disp (enp_cons ef_str (en_lstD ea_nil) (enp_cons ef_str (en_lstD ea_nil) (enp_cons ef_str (en_lstD ea_nil) enp_nil)))) (cla_Run.fld (f := "lists") (.tail _ (.tail _ (.tail _ (.head _))))))
  (es_seq (es_fld (ep_var (i := 0)) (en_dat ef_bl) (cla_Run.fld (f := "is_dropped") (.tail _ (.tail _ (.tail _ (.tail _ (.head _)))))))
  (es_seq (es_fld (ep_var (i := 0)) (en_dat ef_bl) (cla_Run.fld (f := "is_over") (.tail _ (.tail _ (.tail _ (.tail _ (.tail _ (.head _))))))))
  (es_seq (es_fld (ep_var (i := 0)) (en_lstD ea_nil) (cla_Run.fld (f := "within") (.tail _ (.tail _ (.tail _ (.tail _ (.tail _ (.tail _ (.head _)))))))))
  (es_seq (es_fld (ep_var (i := 0)) en_dk (cla_Run.fld (f := "went") (.tail _ (.tail _ (.tail _ (.tail _ (.tail _ (.tail _ (.tail _ (.head _))))))))))
  (es_seq (es_fld (ep_var (i := 0)) en_dt (cla_Run.fld (f := "begun") (.tail _ (.tail _ (.tail _ (.tail _ (.tail _ (.tail _ (.tail _ (.tail _ (.head _)))))))))))
  (es_seq (es_dropX (ex_meth cla_Run.at_ (ep_var (i := 0)) (ea_cons ef_str ea_nil)))
  (es_if (et_and (et_not (et_B (ef_partD (ep_fld (ep_var (i := 0)) (cla_Run.fld (f := "is_dropped") (.tail _ (.tail _ (.tail _ (.tail _ (.head _)))))))))) (et_test (ef_op e2_eq (ef_op e2_add (ef_cb1 e1_len (eb_partB (ep_key (ep_fld (ep_var (i := 0)) (cla_Run.fld (f := "lists") (.tail _ (.tail _ (.tail _ (.head _)))))) ef_str))).b (ef_cb1 e1_len (eb_partB (ep_key (ep_fld (ep_var (i := 0)) (cla_Run.fld (f := "lists") (.tail _ (.tail _ (.tail _ (.head _)))))) ef_str))).b).b (ef_int).b))) (es_app (ep_key (ep_fld (ep_var (i := 0)) (cla_Run.fld (f := "lists") (.tail _ (.tail _ (.tail _ (.head _)))))) ef_str) (en_dat ef_str)) es_next)))))))))))
    h
abbrev N_Run_told : List Str := ["self", "some", "word"]
theorem sc_Run_told : FnScope N_Run_told ["self"] (defScope s_Run_told) := ⟨rfl, rfl, rfl, by decide +kernel, rfl, by decide +kernel, by decide +kernel⟩
theorem ok_Run_told {P : Program} {w : World} {K : Fg} {mg : Str → Option Value} {base : Heap} {k : Nat} {f : Addr} {fd : FuncData} (F : Fun K "told" "Run.told" s_Run_told f fd) (B : BI mg) {C_Run : Addr} (cla_Run : Cla K "Run" C_Run ["book", "letter", "marks", "lists", "is_dropped", "is_over", "within", "went", "begun"]) :
    FnOk P w K mg base CX0 (k + 1) f fd ["self"] (spD K (runD 3 1 (fb_Run_told))) := by
  have nd := sc_Run_told.nd
  refine F.ok sc_Run_told (spD_len runD_len) fun cdv A outer s H vs Q E hr h => ?_
  refine ⟨_, (pss_cons (ps_set (i := 1) nd rfl (Or.inl rfl) (pe_callTy (call_tupleK K rfl) (by rfl) B.tuple bt_tuple (pa_cons (pe_lc (own := [("word", 2)]) (g := (gName 2)) rfl nd (pi_seqK K rfl (pe_tupF (pa_cons pe_str (pa_cons pe_str (pa_cons pe_str pa_nil))))) (blkOk_by (own := [("word", 2)]) (N := N_Run_told) (sc := (defScope s_Run_told)) (by decide +kernel)) (fun _ _ _ _ _ => (pg_name (i := 2) nd rfl (Or.inl rfl))) (fun _ _ _ _ _ => pts_nil) (fun _ _ _ _ _ => (pe_callTy (call_tupleK K rfl) (by rfl) B.tuple bt_tuple (pa_cons (pe_ix (ix_KD K rfl hr.units) (pe_fldK K rfl (pv 0) rfl) (pv 2) (fun _ _ => rfl)) pa_nil)))) pa_nil)))
  (pss_one (ps_ret (pe_op (op_addK K rfl) (pv 1) (pe_tupF (pa_cons (pe_callTy (call_tupleK K rfl) (by rfl) B.tuple bt_tuple (pa_cons (pe_callB (cr_sortD K rfl rfl hr.units) (by rfl) B.sorted bt_sorted (pa_cons (pe_fldK K rfl (pv 0) rfl) pa_nil)) pa_nil)) pa_nil)))))), ?_⟩
  exact body_ok (N := N_Run_told) (fb := fb_Run_told)
    (es_seq (es_asg (i := 1) (ef_cb1 e1_tuple (ef_lcD (eib_seq (ef_tup (ea_cons ef_str (ea_cons ef_str (ea_cons ef_str ea_nil)))).b) (eg_name 2) et_yes (ef_cb1 e1_tuple (ef_op e2_ixE (ef_fld (ef_var 0) (cla_Run.fld (f := "lists") (.tail _ (.tail _ (.tail _ (.head _)))))).b (eb_var 2)).b)).b))
  (es_ret (ef_op e2_add (eb_var 1) (ef_tup (ea_cons (ef_cb1 e1_tuple (ef_cb1 e1_sort (ef_fld (ef_var 0) (cla_Run.fld (f := "marks") (.tail _ (.tail _ (.head _))))).b).b) ea_nil)).b)))
    runD_ret h
theorem walk_cal {P : Program} {w : World} {K : Fg} {mg : Str → Option Value} {base : Heap} (B : BI mg) {C : Addr} (cla : Cla K "Run" C ["book", "letter", "marks", "lists", "is_dropped", "is_over", "within", "went", "begun"]) (dw : MDn K C "walk" "Run.walk" s_Run_walk) (dd : MDn K C "do" "Run.do" s_Run_do) {N : Nat} (ch : Cal P w K mg base (N + 1) "holds_with" ["test", "letter", "marks"] (m_hw (N + 1))) : ∀ n, CalM P w K mg base (N + 1 + 2 * n) C "walk" ["self", "name"] (spX K 0 (m_walk N n))
  | 0 => dw.cal (fun _ _ _ _ _ _ us hl => match us, hl with | [_, _], _ => rfl) fun f fd F => fn_noX
  | n + 1 => by
    have cd : CalM P w K mg base (N + 1 + 2 * n + 1) C "do" ["self", "deed"] (spX K 0 (runX 4 2 0 (fb_Run_do (m_walk N n)))) := dd.cal (fun _ _ _ _ _ _ us hl => match us, hl with | [_, _], _ => rfl) fun f fd F => ok_Run_do F B cla (walk_cal B cla dw dd ch n)
    exact dw.cal (fun _ _ _ _ _ _ us hl => match us, hl with | [_, _], _ => rfl) fun f fd F => ok_Run_walk (k := N + 1 + 2 * n + 1) F B cla (ch.mono (by omega)) cd
abbrev N_outcome : List Str := ["book", "letter"]
theorem sc_outcome : FnScope N_outcome ["book", "letter"] (defScope s_outcome) := ⟨rfl, rfl, rfl, by decide +kernel, rfl, by decide +kernel, by decide +kernel⟩
theorem ok_outcome {P : Program} {w : World} {K : Fg} {mg : Str → Option Value} {base : Heap} {k : Nat} {f : Addr} {fd : FuncData} {m_Run : OD → List PyData → Option (PyData × OD)} {m_Run_told : List PyData → Option PyData} (F : Fun K "outcome" "outcome" s_outcome f fd) (B : BI mg) {C_Run : Addr} (cla_Run : Cla K "Run" C_Run ["book", "letter", "marks", "lists", "is_dropped", "is_over", "within", "went", "begun"]) (c_Run : CalC P w K mg base k C_Run "Run" ["self", "book", "letter"] (spX K 0 m_Run)) (c_Run_told : CalM P w K mg base (k + 1) C_Run "told" ["self"] (spD K m_Run_told)) :
    FnOk P w K mg base CX0 (k + 1 + 1) f fd ["book", "letter"] (spD K (runD 2 2 (fb_outcome m_Run m_Run_told))) := by
  have nd := sc_outcome.nd
  refine F.ok sc_outcome (spD_len runD_len) fun cdv A outer s H vs Q E hr h => ?_
  have hr1 := hr
  refine ⟨_, (pss_one (ps_ret (pe_calM0 (pe_calC c_Run hr1 (by rfl) (pa_cons (pv 0) (pa_cons (pv 1) pa_nil))) cla_Run.cl c_Run_told hr))), ?_⟩
  exact body_ok (N := N_outcome) (fb := fb_outcome m_Run m_Run_told)
    (es_ret (ef_meth cla_Run.at_ (ef_make cla_Run.at_ (ea_cons (ef_var 0) (ea_cons (ef_var 1) ea_nil))) ea_nil))
    runD_ret h
abbrev N_done_by : List Str := ["book", "letter"]
theorem sc_done_by : FnScope N_done_by ["book", "letter"] (defScope s_done_by) := ⟨rfl, rfl, rfl, by decide +kernel, rfl, by decide +kernel, by decide +kernel⟩
theorem ok_done_by {P : Program} {w : World} {K : Fg} {mg : Str → Option Value} {base : Heap} {k : Nat} {f : Addr} {fd : FuncData} {m_Run : OD → List PyData → Option (PyData × OD)} (F : Fun K "done_by" "done_by" s_done_by f fd) (B : BI mg) {C_Run : Addr} (cla_Run : Cla K "Run" C_Run ["book", "letter", "marks", "lists", "is_dropped", "is_over", "within", "went", "begun"]) (c_Run : CalC P w K mg base k C_Run "Run" ["self", "book", "letter"] (spX K 0 m_Run)) :
    FnOk P w K mg base CX0 (k + 1 + 1) f fd ["book", "letter"] (spD K (runD 2 2 (fb_done_by m_Run))) := by
  have nd := sc_done_by.nd
  refine F.ok sc_done_by (spD_len runD_len) fun cdv A outer s H vs Q E hr h => ?_
  have hr1 := hr
  refine ⟨_, (pss_one (ps_ret (pe_callTy (call_tupleK K rfl) (by rfl) B.tuple bt_tuple (pa_cons (pe_callB (cr_sortD K rfl rfl hr.units) (by rfl) B.sorted bt_sorted (pa_cons (pe_fldK K rfl (pe_calC c_Run hr1 (by rfl) (pa_cons (pv 0) (pa_cons (pv 1) pa_nil))) rfl) pa_nil)) pa_nil)))), ?_⟩
  exact body_ok (N := N_done_by) (fb := fb_done_by m_Run)
    (es_ret (ef_cb1 e1_tuple (ef_cb1 e1_sort (ef_fld (ef_make cla_Run.at_ (ea_cons (ef_var 0) (ea_cons (ef_var 1) ea_nil))) (cla_Run.fld (f := "begun") (.tail _ (.tail _ (.tail _ (.tail _ (.tail _ (.tail _ (.tail _ (.tail _ (.head _))))))))))).b).b))
    runD_ret h
abbrev N__law_drawn : List Str := ["number", "k", "drawn"]
theorem sc__law_drawn : FnScope N__law_drawn ["number", "k"] (defScope s__law_drawn) := ⟨rfl, rfl, rfl, by decide +kernel, rfl, by decide +kernel, by decide +kernel⟩
theorem ok__law_drawn {P : Program} {w : World} {K : Fg} {mg : Str → Option Value} {base : Heap} {k : Nat} {f : Addr} {fd : FuncData} (F : Fun K "_law_drawn" "_law_drawn" s__law_drawn f fd) (B : BI mg) :
    FnOk P w K mg base CX0 (k + 1) f fd ["number", "k"] (spD K (runD 3 2 (fb__law_drawn))) := by
  have nd := sc__law_drawn.nd
  refine F.ok sc__law_drawn (spD_len runD_len) fun cdv A outer s H vs Q E hr h => ?_
  refine ⟨_, (pss_cons (ps_set (i := 2) nd rfl (Or.inl rfl) (pe_op op_mod (pe_op op_mulA (pe_op (op_addK K rfl) (pe_op (op_addK K rfl) (pv 0) (pe_op op_mulA pe_int (pv 1))) pe_int) pe_int) pe_int))
  (pss_one (ps_ret (pe_op op_mod (pe_op (op_addK K rfl) (pe_op (op_addK K rfl) (pe_op op_mulA (pv 2) (pv 2)) (pe_op op_mulA pe_int (pv 2))) (pv 1)) pe_int)))), ?_⟩
  exact body_ok (N := N__law_drawn) (fb := fb__law_drawn)
    (es_seq (es_asg (i := 2) (ef_op e2_mod (ef_op e2_mulA (ef_op e2_add (ef_op e2_add (eb_var 0) (ef_op e2_mulA (ef_int).b (eb_var 1)).b).b (ef_int).b).b (ef_int).b).b (ef_int).b))
  (es_ret (ef_op e2_mod (ef_op e2_add (ef_op e2_add (ef_op e2_mulA (eb_var 2) (eb_var 2)).b (ef_op e2_mulA (ef_int).b (eb_var 2)).b).b (eb_var 1)).b (ef_int).b)))
    runD_ret h
abbrev N__law_test : List Str := ["number", "deep", "kind", "one", "other"]
theorem sc__law_test : FnScope N__law_test ["number", "deep"] (defScope s__law_test) := ⟨rfl, rfl, rfl, by decide +kernel, rfl, by decide +kernel, by decide +kernel⟩
theorem ok__law_test {P : Program} {w : World} {K : Fg} {mg : Str → Option Value} {base : Heap} {k : Nat} {f : Addr} {fd : FuncData} {m__law_test : List PyData → Option PyData} {m__law_drawn : List PyData → Option PyData} (F : Fun K "_law_test" "_law_test" s__law_test f fd) (B : BI mg) (c__law_test : Cal P w K mg base (k) "_law_test" ["number", "deep"] m__law_test) (c__law_drawn : Cal P w K mg base (k) "_law_drawn" ["number", "k"] m__law_drawn) :
    FnOk P w K mg base CX0 (k + 1) f fd ["number", "deep"] (spD K (runD 5 2 (fb__law_test m__law_test m__law_drawn))) := by
  have nd := sc__law_test.nd
  refine F.ok sc__law_test (spD_len runD_len) fun cdv A outer s H vs Q E hr h => ?_
  refine ⟨_, (pss_cons (ps_set (i := 2) nd rfl (Or.inl rfl) (pe_op op_mod (pv 0) pe_int))
  (pss_cons (ps_if (PW.pt (pw_and (pt_cmpR op_gt0 (pv 1) pe_int (nomark _)) (pw_and1 (pt_cmpR op_gt0 (pv 2) pe_int (nomark _))))) (pss_cons (ps_set (i := 3) nd rfl (Or.inl rfl) (pe_cal c__law_test hr (by rfl) (pa_cons (pe_op op_fdiv (pe_cal c__law_drawn hr (by rfl) (pa_cons (pv 0) (pa_cons pe_int pa_nil))) pe_int) (pa_cons (pe_op op_sub (pv 1) pe_int) pa_nil))))
  (pss_cons (ps_set (i := 4) nd rfl (Or.inl rfl) (pe_cal c__law_test hr (by rfl) (pa_cons (pe_op op_fdiv (pe_cal c__law_drawn hr (by rfl) (pa_cons (pv 0) (pa_cons pe_int pa_nil))) pe_int) (pa_cons (pe_op op_sub (pv 1) pe_int) pa_nil))))
  (pss_one (ps_ret (pe_ix (ix_K K rfl) (pe_lst (pa_cons (pe_tupF (pa_cons pe_str (pa_cons (pv 3) pa_nil))) (pa_cons (pe_tupF (pa_cons pe_str (pa_cons (pv 3) (pa_cons (pv 4) pa_nil)))) (pa_cons (pe_tupF (pa_cons pe_str (pa_cons (pv 3) (pa_cons (pv 4) pa_nil)))) pa_nil)))) (pe_op op_sub (pv 2) pe_int) (fun _ _ => rfl)))))) pss_nil)
  (pss_cons (ps_if (pt_cmpR (op_eqK K rfl hr.units) (pv 2) pe_int (nomark _)) (pss_one (ps_ret (pe_tupF (pa_cons pe_str (pa_cons (pe_ix (ix_K K rfl) (pe_tupF (pa_cons pe_str (pa_cons pe_str pa_nil))) (pe_op op_mod (pe_op op_fdiv (pv 0) pe_int) pe_int) (fun _ _ => rfl)) pa_nil))))) pss_nil)
  (pss_cons (ps_if (pt_cmpR (op_eqK K rfl hr.units) (pv 2) pe_int (nomark _)) (pss_one (ps_ret (pe_tupF (pa_cons pe_str (pa_cons (pe_ix (ix_K K rfl) (pe_tupF (pa_cons pe_int (pa_cons pe_int (pa_cons pe_int pa_nil)))) (pe_op op_mod (pe_op op_fdiv (pv 0) pe_int) pe_int) (fun _ _ => rfl)) pa_nil))))) pss_nil)
  (pss_cons (ps_if (pt_cmpR (op_eqK K rfl hr.units) (pv 2) pe_int (nomark _)) (pss_one (ps_ret (pe_tupF (pa_cons pe_str (pa_cons (pe_ix (ix_K K rfl) (pe_tupF (pa_cons pe_str (pa_cons pe_str pa_nil))) (pe_op op_mod (pe_op op_fdiv (pv 0) pe_int) pe_int) (fun _ _ => rfl)) pa_nil))))) pss_nil)
  (pss_cons (ps_if (pt_cmpR (op_eqK K rfl hr.units) (pv 2) pe_int (nomark _)) (pss_one (ps_ret (pe_tupF (pa_cons pe_str pa_nil)))) pss_nil)
  (pss_one (ps_ret (pe_tupF (pa_cons pe_str (pa_cons (pe_ix (ix_K K rfl) (pe_tupF (pa_cons pe_str (pa_cons pe_str pa_nil))) (pe_op op_mod (pe_op op_fdiv (pv 0) pe_int) pe_int) (fun _ _ => rfl)) pa_nil))))))))))), ?_⟩
  exact body_ok (N := N__law_test) (fb := fb__law_test m__law_test m__law_drawn)
    (es_seq (es_asg (i := 2) (ef_op e2_mod (eb_var 0) (ef_int).b))
  (es_seq (es_if (et_and (et_test (ef_op e2_gt (eb_var 1) (ef_int).b)) (et_test (ef_op e2_gt (eb_var 2) (ef_int).b))) (es_seq (es_asg (i := 3) (ef_call (ea_cons (ef_op e2_fdiv (ef_call (ea_cons (ef_var 0) (ea_cons ef_int ea_nil))).b (ef_int).b) (ea_cons (ef_op e2_sub (eb_var 1) (ef_int).b) ea_nil))))
  (es_seq (es_asg (i := 4) (ef_call (ea_cons (ef_op e2_fdiv (ef_call (ea_cons (ef_var 0) (ea_cons ef_int ea_nil))).b (ef_int).b) (ea_cons (ef_op e2_sub (eb_var 1) (ef_int).b) ea_nil))))
  (es_ret (ef_op e2_ix (ef_lst (ea_cons (ef_tup (ea_cons ef_str (ea_cons (ef_var 3) ea_nil))) (ea_cons (ef_tup (ea_cons ef_str (ea_cons (ef_var 3) (ea_cons (ef_var 4) ea_nil)))) (ea_cons (ef_tup (ea_cons ef_str (ea_cons (ef_var 3) (ea_cons (ef_var 4) ea_nil)))) ea_nil)))).b (ef_op e2_sub (eb_var 2) (ef_int).b).b)))) es_next)
  (es_seq (es_if (et_test (ef_op e2_eq (eb_var 2) (ef_int).b)) (es_ret (ef_tup (ea_cons ef_str (ea_cons (ef_op e2_ix (ef_tup (ea_cons ef_str (ea_cons ef_str ea_nil))).b (ef_op e2_mod (ef_op e2_fdiv (eb_var 0) (ef_int).b).b (ef_int).b).b) ea_nil)))) es_next)
  (es_seq (es_if (et_test (ef_op e2_eq (eb_var 2) (ef_int).b)) (es_ret (ef_tup (ea_cons ef_str (ea_cons (ef_op e2_ix (ef_tup (ea_cons ef_int (ea_cons ef_int (ea_cons ef_int ea_nil)))).b (ef_op e2_mod (ef_op e2_fdiv (eb_var 0) (ef_int).b).b (ef_int).b).b) ea_nil)))) es_next)
  (es_seq (es_if (et_test (ef_op e2_eq (eb_var 2) (ef_int).b)) (es_ret (ef_tup (ea_cons ef_str (ea_cons (ef_op e2_ix (ef_tup (ea_cons ef_str (ea_cons ef_str ea_nil))).b (ef_op e2_mod (ef_op e2_fdiv (eb_var 0) (ef_int).b).b (ef_int).b).b) ea_nil)))) es_next)
  (es_seq (es_if (et_test (ef_op e2_eq (eb_var 2) (ef_int).b)) (es_ret (ef_tup (ea_cons ef_str ea_nil))) es_next)
  (es_ret (ef_tup (ea_cons ef_str (ea_cons (ef_op e2_ix (ef_tup (ea_cons ef_str (ea_cons ef_str ea_nil))).b (ef_op e2_mod (ef_op e2_fdiv (eb_var 0) (ef_int).b).b (ef_int).b).b) ea_nil))))))))))
    runD_ret h
abbrev N__law_deed : List Str := ["number", "names", "kind", "name"]
theorem sc__law_deed : FnScope N__law_deed ["number", "names"] (defScope s__law_deed) := ⟨rfl, rfl, rfl, by decide +kernel, rfl, by decide +kernel, by decide +kernel⟩
theorem ok__law_deed {P : Program} {w : World} {K : Fg} {mg : Str → Option Value} {base : Heap} {k : Nat} {f : Addr} {fd : FuncData} (F : Fun K "_law_deed" "_law_deed" s__law_deed f fd) (B : BI mg) :
    FnOk P w K mg base CX0 (k + 1) f fd ["number", "names"] (spD K (runD 4 2 (fb__law_deed))) := by
  have nd := sc__law_deed.nd
  refine F.ok sc__law_deed (spD_len runD_len) fun cdv A outer s H vs Q E hr h => ?_
  refine ⟨_, (pss_cons (ps_set (i := 2) nd rfl (Or.inl rfl) (pe_op op_mod (pv 0) pe_int))
  (pss_cons (ps_set (i := 3) nd rfl (Or.inl rfl) (pe_ix (ix_K K rfl) (pe_tupF (pa_cons pe_str (pa_cons pe_str (pa_cons pe_str (pa_cons pe_str pa_nil))))) (pe_op op_mod (pe_op op_fdiv (pv 0) pe_int) pe_int) (fun _ _ => rfl)))
  (pss_cons (ps_if (pt_cmpR (op_eqK K rfl hr.units) (pv 2) pe_int (nomark _)) (pss_one (ps_ret (pe_tupF (pa_cons pe_str pa_nil)))) pss_nil)
  (pss_cons (ps_if (pt_cmpR (op_eqK K rfl hr.units) (pv 2) pe_int (nomark _)) (pss_one (ps_ret (pe_tupF (pa_cons pe_str pa_nil)))) pss_nil)
  (pss_cons (ps_if (pt_cmpR op_ltA (pv 2) pe_int (nomark _)) (pss_one (ps_ret (pe_tupF (pa_cons pe_str (pa_cons (pe_ix (ix_K K rfl) (pv 1) (pe_op op_mod (pe_op op_fdiv (pv 0) pe_int) (pe_callB (call_lenK K rfl) (by rfl) B.len bt_len (pa_cons (pv 1) pa_nil))) (fun _ _ => rfl)) pa_nil))))) pss_nil)
  (pss_cons (ps_if (pt_cmpR op_ltA (pv 2) pe_int (nomark _)) (pss_one (ps_ret (pe_tupF (pa_cons (pe_ix (ix_K K rfl) (pe_tupF (pa_cons pe_str (pa_cons pe_str pa_nil))) (pe_op op_mod (pe_op op_fdiv (pv 0) pe_int) pe_int) (fun _ _ => rfl)) (pa_cons (pe_ix (ix_K K rfl) (pe_tupF (pa_cons pe_str (pa_cons pe_str pa_nil))) (pe_op op_mod (pe_op op_fdiv (pv 0) pe_int) pe_int) (fun _ _ => rfl)) pa_nil))))) pss_nil)
  (pss_one (ps_ret (pe_tupF (pa_cons (pe_ix (ix_K K rfl) (pe_tupF (pa_cons pe_str (pa_cons pe_str (pa_cons pe_str (pa_cons pe_str (pa_cons pe_str pa_nil)))))) (pe_op op_sub (pv 2) pe_int) (fun _ _ => rfl)) (pa_cons (pv 3) pa_nil))))))))))), ?_⟩
  exact body_ok (N := N__law_deed) (fb := fb__law_deed)
    (es_seq (es_asg (i := 2) (ef_op e2_mod (eb_var 0) (ef_int).b))
  (es_seq (es_asg (i := 3) (ef_op e2_ix (ef_tup (ea_cons ef_str (ea_cons ef_str (ea_cons ef_str (ea_cons ef_str ea_nil))))).b (ef_op e2_mod (ef_op e2_fdiv (eb_var 0) (ef_int).b).b (ef_int).b).b))
  (es_seq (es_if (et_test (ef_op e2_eq (eb_var 2) (ef_int).b)) (es_ret (ef_tup (ea_cons ef_str ea_nil))) es_next)
  (es_seq (es_if (et_test (ef_op e2_eq (eb_var 2) (ef_int).b)) (es_ret (ef_tup (ea_cons ef_str ea_nil))) es_next)
  (es_seq (es_if (et_test (ef_op e2_lt (eb_var 2) (ef_int).b)) (es_ret (ef_tup (ea_cons ef_str (ea_cons (ef_op e2_ix (eb_var 1) (ef_op e2_mod (ef_op e2_fdiv (eb_var 0) (ef_int).b).b (ef_cb1 e1_len (eb_var 1)).b).b) ea_nil)))) es_next)
  (es_seq (es_if (et_test (ef_op e2_lt (eb_var 2) (ef_int).b)) (es_ret (ef_tup (ea_cons (ef_op e2_ix (ef_tup (ea_cons ef_str (ea_cons ef_str ea_nil))).b (ef_op e2_mod (ef_op e2_fdiv (eb_var 0) (ef_int).b).b (ef_int).b).b) (ea_cons (ef_op e2_ix (ef_tup (ea_cons ef_str (ea_cons ef_str ea_nil))).b (ef_op e2_mod (ef_op e2_fdiv (eb_var 0) (ef_int).b).b (ef_int).b).b) ea_nil)))) es_next)
  (es_ret (ef_tup (ea_cons (ef_op e2_ix (ef_tup (ea_cons ef_str (ea_cons ef_str (ea_cons ef_str (ea_cons ef_str (ea_cons ef_str ea_nil)))))).b (ef_op e2_sub (eb_var 2) (ef_int).b).b) (ea_cons (ef_var 3) ea_nil))))))))))
    runD_ret h
abbrev N__law_book : List Str := ["number", "names", "found", "k", "name", "drawn", "rules", "j", "one", "deeds", "i"]
theorem sc__law_book : FnScope N__law_book ["number"] (defScope s__law_book) := ⟨rfl, rfl, rfl, by decide +kernel, rfl, by decide +kernel, by decide +kernel⟩
theorem ok__law_book {P : Program} {w : World} {K : Fg} {mg : Str → Option Value} {base : Heap} {k : Nat} {f : Addr} {fd : FuncData} {m__law_drawn : List PyData → Option PyData} {m__law_deed : List PyData → Option PyData} {m__law_test : List PyData → Option PyData} (F : Fun K "_law_book" "_law_book" s__law_book f fd) (B : BI mg) (c__law_drawn : Cal P w K mg base (k) "_law_drawn" ["number", "k"] m__law_drawn) (c__law_deed : Cal P w K mg base (k) "_law_deed" ["number", "names"] m__law_deed) (c__law_test : Cal P w K mg base (k) "_law_test" ["number", "deep"] m__law_test) :
    FnOk P w K mg base CX0 (k + 1) f fd ["number"] (spD K (runD 11 1 (fb__law_book m__law_drawn m__law_deed m__law_test))) := by
  have nd := sc__law_book.nd
  refine F.ok sc__law_book (spD_len runD_len) fun cdv A outer s H vs Q E hr h => ?_
  refine ⟨_, (pss_cons (ps_set (i := 1) nd rfl (Or.inr rfl) (pe_ix (ix_K K rfl) (pe_tupF (pa_cons (pe_tupF (pa_cons pe_str pa_nil)) (pa_cons (pe_tupF (pa_cons pe_str (pa_cons pe_str pa_nil))) (pa_cons (pe_tupF (pa_cons pe_str (pa_cons pe_str (pa_cons pe_str pa_nil)))) (pa_cons (pe_tupF (pa_cons pe_str (pa_cons pe_str pa_nil))) pa_nil))))) (pe_op op_mod (pv 0) pe_int) (fun _ _ => rfl)))
  (pss_cons (ps_set (i := 2) nd rfl (Or.inl rfl) (pe_tupF pa_nil))
  (pss_cons (ps_for PassesOwn.never rfl (pi_enumK K rfl (by rfl) B.enumerate (pa_cons (pv 1) pa_nil)) (pg_tup rfl (pgs_cons (pg_name (i := 3) nd rfl (Or.inl rfl)) (pgs_cons (pg_name (i := 4) nd rfl (Or.inl rfl)) pgs_nil)))
  (pss_cons (ps_set (i := 5) nd rfl (Or.inl rfl) (pe_op op_fdiv (pe_cal c__law_drawn hr (by rfl) (pa_cons (pv 0) (pa_cons (pv 3) pa_nil))) pe_int))
  (pss_cons (ps_set (i := 6) nd rfl (Or.inl rfl) (pe_tupF pa_nil))
  (pss_cons (ps_for PassesOwn.never rfl (pi_range1 rfl B.range (pa_cons (pe_ix (ix_K K rfl) (pe_tupF (pa_cons pe_int (pa_cons pe_int (pa_cons pe_int (pa_cons pe_int (pa_cons pe_int (pa_cons pe_int pa_nil))))))) (pe_op op_mod (pv 5) pe_int) (fun _ _ => rfl)) pa_nil)) (pg_name (i := 7) nd rfl (Or.inl rfl))
  (pss_cons (ps_set (i := 8) nd rfl (Or.inr rfl) (pe_op op_fdiv (pe_cal c__law_drawn hr (by rfl) (pa_cons (pv 5) (pa_cons (pe_op (op_addK K rfl) pe_int (pv 7)) pa_nil))) pe_int))
  (pss_cons (ps_set (i := 9) nd rfl (Or.inl rfl) (pe_callTy (call_tupleK K rfl) (by rfl) B.tuple bt_tuple (pa_cons (pe_lc (own := [("i", 10)]) (g := (gName 10)) rfl nd (pi_range1 rfl B.range (pa_cons (pe_op (op_addK K rfl) pe_int (pe_op op_mod (pv 8) pe_int)) pa_nil)) (blkOk_by (own := [("i", 10)]) (N := N__law_book) (sc := (defScope s__law_book)) (by decide +kernel)) (fun _ _ _ _ _ => (pg_name (i := 10) nd rfl (Or.inl rfl))) (fun _ _ _ _ _ => pts_nil) (fun _ _ _ _ _ => (pe_cal c__law_deed hr (by rfl) (pa_cons (pe_op op_fdiv (pe_cal c__law_drawn hr (by rfl) (pa_cons (pv 8) (pa_cons (pe_op (op_addK K rfl) pe_int (pv 10)) pa_nil))) pe_int) (pa_cons (pv 1) pa_nil))))) pa_nil)))
  (pss_one (ps_set (i := 6) nd rfl (Or.inl rfl) (pe_op (op_addK K rfl) (pv 6) (pe_tupF (pa_cons (pe_tupF (pa_cons (pe_cal c__law_test hr (by rfl) (pa_cons (pe_op op_fdiv (pv 8) pe_int) (pa_cons (pe_op (op_addK K rfl) pe_int (pe_op op_mod (pe_op op_fdiv (pv 8) pe_int) pe_int)) pa_nil))) (pa_cons (pv 9) pa_nil))) pa_nil))))))))
  (pss_one (ps_set (i := 2) nd rfl (Or.inl rfl) (pe_op (op_addK K rfl) (pv 2) (pe_tupF (pa_cons (pe_tupF (pa_cons (pv 4) (pa_cons (pv 6) pa_nil))) pa_nil)))))))))
  (pss_one (ps_ret (pv 2)))))), ?_⟩
  exact body_ok (N := N__law_book) (fb := fb__law_book m__law_drawn m__law_deed m__law_test)
    (es_seq (es_asg (i := 1) (ef_op e2_ix (ef_tup (ea_cons (ef_tup (ea_cons ef_str ea_nil)) (ea_cons (ef_tup (ea_cons ef_str (ea_cons ef_str ea_nil))) (ea_cons (ef_tup (ea_cons ef_str (ea_cons ef_str (ea_cons ef_str ea_nil)))) (ea_cons (ef_tup (ea_cons ef_str (ea_cons ef_str ea_nil))) ea_nil))))).b (ef_op e2_mod (eb_var 0) (ef_int).b).b))
  (es_seq (es_asg (i := 2) (ef_tup ea_nil))
  (es_seq (es_for (ei_enum (ef_var 1)) (eg_tup (egs_cons (eg_name 3) (egs_cons (eg_name 4) egs_nil)))
  (es_seq (es_asg (i := 5) (ef_op e2_fdiv (ef_call (ea_cons (ef_var 0) (ea_cons (ef_var 3) ea_nil))).b (ef_int).b))
  (es_seq (es_asg (i := 6) (ef_tup ea_nil))
  (es_seq (es_for (ei_rng1 (ea_cons (ef_op e2_ix (ef_tup (ea_cons ef_int (ea_cons ef_int (ea_cons ef_int (ea_cons ef_int (ea_cons ef_int (ea_cons ef_int ea_nil))))))).b (ef_op e2_mod (eb_var 5) (ef_int).b).b) ea_nil)) (eg_name 7)
  (es_seq (es_asg (i := 8) (ef_op e2_fdiv (ef_call (ea_cons (ef_var 5) (ea_cons (ef_op e2_add (ef_int).b (eb_var 7)) ea_nil))).b (ef_int).b))
  (es_seq (es_asg (i := 9) (ef_cb1 e1_tuple (ef_lcD (ei_rng1 (ea_cons (ef_op e2_add (ef_int).b (ef_op e2_mod (eb_var 8) (ef_int).b).b) ea_nil)).b (eg_name 10) et_yes (ef_call (ea_cons (ef_op e2_fdiv (ef_call (ea_cons (ef_var 8) (ea_cons (ef_op e2_add (ef_int).b (eb_var 10)) ea_nil))).b (ef_int).b) (ea_cons (ef_var 1) ea_nil)))).b))
  (es_asg (i := 6) (ef_op e2_add (eb_var 6) (ef_tup (ea_cons (ef_tup (ea_cons (ef_call (ea_cons (ef_op e2_fdiv (eb_var 8) (ef_int).b) (ea_cons (ef_op e2_add (ef_int).b (ef_op e2_mod (ef_op e2_fdiv (eb_var 8) (ef_int).b).b (ef_int).b).b) ea_nil))) (ea_cons (ef_var 9) ea_nil))) ea_nil)).b)))))
  (es_asg (i := 2) (ef_op e2_add (eb_var 2) (ef_tup (ea_cons (ef_tup (ea_cons (ef_var 4) (ea_cons (ef_var 6) ea_nil))) ea_nil)).b))))))
  (es_ret (ef_var 2)))))
    runD_ret h
abbrev N__law_letter : List Str := ["number", "sender", "words", "marks", "k", "word", "mark"]
theorem sc__law_letter : FnScope N__law_letter ["number"] (defScope s__law_letter) := ⟨rfl, rfl, rfl, by decide +kernel, rfl, by decide +kernel, by decide +kernel⟩
theorem ok__law_letter {P : Program} {w : World} {K : Fg} {mg : Str → Option Value} {base : Heap} {k : Nat} {f : Addr} {fd : FuncData} (F : Fun K "_law_letter" "_law_letter" s__law_letter f fd) (B : BI mg) :
    FnOk P w K mg base CX0 (k + 1) f fd ["number"] (spD K (runD 7 1 (fb__law_letter))) := by
  have nd := sc__law_letter.nd
  refine F.ok sc__law_letter (spD_len runD_len) fun cdv A outer s H vs Q E hr h => ?_
  refine ⟨_, (pss_cons (ps_set (i := 1) nd rfl (Or.inl rfl) (pe_ix (ix_K K rfl) (pe_tupF (pa_cons pe_str (pa_cons pe_str (pa_cons pe_str pa_nil)))) (pe_op op_mod (pv 0) pe_int) (fun _ _ => rfl)))
  (pss_cons (ps_set (i := 2) nd rfl (Or.inl rfl) (pe_callTy (call_tupleK K rfl) (by rfl) B.tuple bt_tuple (pa_cons (pe_lc (own := [("k", 4), ("word", 5)]) (g := (gTup K 2 (gCons (gName 4) (gCons (gName 5) gNil)))) rfl nd (pi_enumK K rfl (by rfl) B.enumerate (pa_cons (pe_tupF (pa_cons pe_str (pa_cons pe_str (pa_cons pe_str pa_nil)))) pa_nil)) (blkOk_by (own := [("k", 4), ("word", 5)]) (N := N__law_letter) (sc := (defScope s__law_letter)) (by decide +kernel)) (fun _ _ _ _ _ => (pg_tup rfl (pgs_cons (pg_name (i := 4) nd rfl (Or.inl rfl)) (pgs_cons (pg_name (i := 5) nd rfl (Or.inl rfl)) pgs_nil)))) (fun _ _ _ _ _ => (pts_one (pt_cmpR (op_eqK K rfl hr.units) (pe_op op_mod (pe_op op_fdiv (pv 0) (pe_ix (ix_K K rfl) (pe_tupF (pa_cons pe_int (pa_cons pe_int (pa_cons pe_int pa_nil)))) (pv 4) (fun _ _ => rfl))) pe_int) pe_int (nomark _)))) (fun _ _ _ _ _ => (pv 5))) pa_nil)))
  (pss_cons (ps_set (i := 3) nd rfl (Or.inl rfl) (pe_callTy (call_tupleK K rfl) (by rfl) B.tuple bt_tuple (pa_cons (pe_lc (own := [("k", 4), ("mark", 6)]) (g := (gTup K 2 (gCons (gName 4) (gCons (gName 6) gNil)))) rfl nd (pi_enumK K rfl (by rfl) B.enumerate (pa_cons (pe_tupF (pa_cons pe_str (pa_cons pe_str (pa_cons pe_str pa_nil)))) pa_nil)) (blkOk_by (own := [("k", 4), ("mark", 6)]) (N := N__law_letter) (sc := (defScope s__law_letter)) (by decide +kernel)) (fun _ _ _ _ _ => (pg_tup rfl (pgs_cons (pg_name (i := 4) nd rfl (Or.inl rfl)) (pgs_cons (pg_name (i := 6) nd rfl (Or.inl rfl)) pgs_nil)))) (fun _ _ _ _ _ => (pts_one (pt_cmpR (op_eqK K rfl hr.units) (pe_op op_mod (pe_op op_fdiv (pv 0) (pe_ix (ix_K K rfl) (pe_tupF (pa_cons pe_int (pa_cons pe_int (pa_cons pe_int pa_nil)))) (pv 4) (fun _ _ => rfl))) pe_int) pe_int (nomark _)))) (fun _ _ _ _ _ => (pv 6))) pa_nil)))
  (pss_one (ps_ret (pe_tupF (pa_cons (pv 1) (pa_cons (pv 2) (pa_cons (pe_ix (ix_K K rfl) (pe_tupF (pa_cons pe_int (pa_cons pe_int (pa_cons pe_int (pa_cons pe_int (pa_cons pe_int (pa_cons pe_int pa_nil))))))) (pe_op op_mod (pe_op op_fdiv (pv 0) pe_int) pe_int) (fun _ _ => rfl)) (pa_cons (pv 3) pa_nil)))))))))), ?_⟩
  exact body_ok (N := N__law_letter) (fb := fb__law_letter)
    (es_seq (es_asg (i := 1) (ef_op e2_ix (ef_tup (ea_cons ef_str (ea_cons ef_str (ea_cons ef_str ea_nil)))).b (ef_op e2_mod (eb_var 0) (ef_int).b).b))
  (es_seq (es_asg (i := 2) (ef_cb1 e1_tuple (ef_lcD (ei_enum (ef_tup (ea_cons ef_str (ea_cons ef_str (ea_cons ef_str ea_nil))))).b (eg_tup (egs_cons (eg_name 4) (egs_cons (eg_name 5) egs_nil))) (et_test (ef_op e2_eq (ef_op e2_mod (ef_op e2_fdiv (eb_var 0) (ef_op e2_ix (ef_tup (ea_cons ef_int (ea_cons ef_int (ea_cons ef_int ea_nil)))).b (eb_var 4)).b).b (ef_int).b).b (ef_int).b)) (ef_var 5)).b))
  (es_seq (es_asg (i := 3) (ef_cb1 e1_tuple (ef_lcD (ei_enum (ef_tup (ea_cons ef_str (ea_cons ef_str (ea_cons ef_str ea_nil))))).b (eg_tup (egs_cons (eg_name 4) (egs_cons (eg_name 6) egs_nil))) (et_test (ef_op e2_eq (ef_op e2_mod (ef_op e2_fdiv (eb_var 0) (ef_op e2_ix (ef_tup (ea_cons ef_int (ea_cons ef_int (ea_cons ef_int ea_nil)))).b (eb_var 4)).b).b (ef_int).b).b (ef_int).b)) (ef_var 6)).b))
  (es_ret (ef_tup (ea_cons (ef_var 1) (ea_cons (ef_var 2) (ea_cons (ef_op e2_ix (ef_tup (ea_cons ef_int (ea_cons ef_int (ea_cons ef_int (ea_cons ef_int (ea_cons ef_int (ea_cons ef_int ea_nil))))))).b (ef_op e2_mod (ef_op e2_fdiv (eb_var 0) (ef_int).b).b (ef_int).b).b) (ea_cons (ef_var 3) ea_nil)))))))))
    runD_ret h
abbrev N__law_holds : List Str := ["test", "letter", "marks", "word", "some", "part"]
theorem sc__law_holds : FnScope N__law_holds ["test", "letter", "marks"] (defScope s__law_holds) := ⟨rfl, rfl, rfl, by decide +kernel, rfl, by decide +kernel, by decide +kernel⟩
theorem ok__law_holds {P : Program} {w : World} {K : Fg} {mg : Str → Option Value} {base : Heap} {k : Nat} {f : Addr} {fd : FuncData} {m__law_holds : List PyData → Option PyData} (F : Fun K "_law_holds" "_law_holds" s__law_holds f fd) (B : BI mg) (c__law_holds : Cal P w K mg base (k) "_law_holds" ["test", "letter", "marks"] m__law_holds) :
    FnOk P w K mg base CX0 (k + 1) f fd ["test", "letter", "marks"] (spD K (runD 6 3 (fb__law_holds m__law_holds))) := by
  have nd := sc__law_holds.nd
  refine F.ok sc__law_holds (spD_len runD_len) fun cdv A outer s H vs Q E hr h => ?_
  refine ⟨_, (pss_cons (ps_set (i := 3) nd rfl (Or.inl rfl) (pe_ix (ix_K K rfl) (pv 0) pe_int (fun _ _ => rfl)))
  (pss_cons (ps_if (pt_cmpR (op_eqK K rfl hr.units) (pv 3) pe_str (nomark _)) (pss_one (ps_ret (pe_not (pe_cal c__law_holds hr (by rfl) (pa_cons (pe_ix (ix_K K rfl) (pv 0) pe_int (fun _ _ => rfl)) (pa_cons (pv 1) (pa_cons (pv 2) pa_nil))))))) pss_nil)
  (pss_cons (ps_if (pt_cmpR (op_inK K rfl (un65 hr)) (pv 3) (pe_tupF (pa_cons pe_str (pa_cons pe_str pa_nil))) (by rfl)) (pss_cons (ps_setLc (i := 4) (own := [("part", 5)]) (g := (gName 5)) rfl nd rfl rfl (sw_true rfl rfl rfl (by decide +kernel)) (pi_seqK K rfl (pe_slice (sl_K K rfl) (pv 0) (po_some pe_int) po_none)) (blkOk_by (own := [("part", 5)]) (N := N__law_holds) (sc := (defScope s__law_holds)) (by decide +kernel)) (fun _ _ _ _ _ => (pg_name (i := 5) nd rfl (Or.inl rfl))) (fun _ _ _ _ _ => pts_nil) (fun _ _ _ _ _ => (pe_cal c__law_holds hr (by rfl) (pa_cons (pv 5) (pa_cons (pv 1) (pa_cons (pv 2) pa_nil))))))
  (pss_one (ps_ret (pe_ix (ix_K K rfl) (pe_lst (pa_cons (pe_callB (call_allK K rfl rfl) (by rfl) B.all bt_all (pa_cons (pv 4) pa_nil)) (pa_cons (pe_callB (call_anyK K rfl rfl) (by rfl) B.any bt_any (pa_cons (pv 4) pa_nil)) pa_nil))) (pe_callTy call_intA (by rfl) B.int bt_int (pa_cons (pe_cmpR (op_eqK K rfl hr.units) (pv 3) pe_str (nomark _)) pa_nil)) (fun _ _ => rfl))))) pss_nil)
  (pss_cons (ps_if (pt_cmpR (op_eqK K rfl hr.units) (pv 3) pe_str (nomark _)) (pss_one (ps_ret (pe_cmpR op_ge0 (pe_ix (ix_K K rfl) (pv 1) pe_int (fun _ _ => rfl)) (pe_op (op_addK K rfl) (pe_ix (ix_K K rfl) (pv 0) pe_int (fun _ _ => rfl)) pe_int) (nomark _)))) pss_nil)
  (pss_cons (ps_if (pt_cmpR (op_eqK K rfl hr.units) (pv 3) pe_str (nomark _)) (pss_one (ps_ret pe_bl)) pss_nil)
  (pss_one (ps_ret (pe_cmpR (op_inK K rfl (un65 hr)) (pe_ix (ix_K K rfl) (pv 0) pe_int (fun _ _ => rfl)) (pe_ix (ix_KD K rfl hr.units) (pe_disp (pps_cons pe_str (pe_lst (pa_cons (pe_ix (ix_K K rfl) (pv 1) pe_int (fun _ _ => rfl)) pa_nil)) (pps_cons pe_str (pe_callTy (call_listK K rfl) (by rfl) B.list bt_list (pa_cons (pe_ix (ix_K K rfl) (pv 1) pe_int (fun _ _ => rfl)) pa_nil)) (pps_cons pe_str (pv 2) pps_nil))) (by rfl) (by rfl) (fun z => by cases z) (by decide)) (pv 3) (fun _ _ => rfl)) (by rfl))))))))), ?_⟩
  exact body_ok (N := N__law_holds) (fb := fb__law_holds m__law_holds)
    (es_seq (es_asg (i := 3) (ef_op e2_ix (eb_var 0) (ef_int).b))
  (es_seq (es_if (et_test (ef_op e2_eq (eb_var 3) (ef_str).b)) (es_ret (ef_notV (ef_call (ea_cons (ef_op e2_ix (eb_var 0) (ef_int).b) (ea_cons (ef_var 1) (ea_cons (ef_var 2) ea_nil)))))) es_next)
  (es_seq (es_if (et_test (ef_op e2_in (eb_var 3) (ef_tup (ea_cons ef_str (ea_cons ef_str ea_nil))).b)) (es_seq (es_asg (i := 4) (ef_lcD (eib_seq (ef_sl (eb_var 0) (eo_some ef_int) eo_none).b) (eg_name 5) et_yes (ef_call (ea_cons (ef_var 5) (ea_cons (ef_var 1) (ea_cons (ef_var 2) ea_nil))))))
  (es_ret (ef_op e2_ix (ef_lst (ea_cons (ef_cb1 e1_all (eb_var 4)) (ea_cons (ef_cb1 e1_any (eb_var 4)) ea_nil))).b (ef_cb1 e1_int (ef_op e2_eq (eb_var 3) (ef_str).b).b).b))) es_next)
  (es_seq (es_if (et_test (ef_op e2_eq (eb_var 3) (ef_str).b)) (es_ret (ef_op e2_ge (ef_op e2_ix (eb_var 1) (ef_int).b).b (ef_op e2_add (ef_op e2_ix (eb_var 0) (ef_int).b).b (ef_int).b).b)) es_next)
  (es_seq (es_if (et_test (ef_op e2_eq (eb_var 3) (ef_str).b)) (es_ret ef_bl) es_next)
  (es_ret (ef_op e2_in (ef_op e2_ix (eb_var 0) (ef_int).b).b (ef_op e2_ixE (en_disp (enp_cons ef_str (en_lstD (ea_cons (ef_op e2_ix (eb_var 1) (ef_int).b) ea_nil)) (enp_cons ef_str (en_dat (ef_cb1 e1_list (ef_op e2_ix (eb_var 1) (ef_int).b).b)) (enp_cons ef_str (en_dat (ef_var 2)) enp_nil)))).ef.b (eb_var 3)).b)))))))
    runD_ret h
abbrev N__law_walk : List Str := ["rules", "letter", "name", "within", "state", "number", "rule", "deed"]
theorem sc__law_walk : FnScope N__law_walk ["rules", "letter", "name", "within", "state"] (defScope s__law_walk) := ⟨rfl, rfl, rfl, by decide +kernel, rfl, by decide +kernel, by decide +kernel⟩
theorem ok__law_walk {P : Program} {w : World} {K : Fg} {mg : Str → Option Value} {base : Heap} {k : Nat} {f : Addr} {fd : FuncData} {m__law_holds : List PyData → Option PyData} {m__law_do : OD → List PyData → Option (PyData × OD)} (F : Fun K "_law_walk" "_law_walk" s__law_walk f fd) (B : BI mg) (c__law_holds : Cal P w K mg base (k) "_law_holds" ["test", "letter", "marks"] m__law_holds) (c__law_do : CalS P w K mg base (k) "_law_do" ["rules", "letter", "deed", "within", "state"] (spX K 4 m__law_do)) :
    FnOk P w K mg base CX0 (k + 1) f fd ["rules", "letter", "name", "within", "state"] (spX K 4 (runX 8 5 4 (fb__law_walk m__law_holds m__law_do))) := by
  have nd := sc__law_walk.nd
  refine F.ok sc__law_walk (fun vs H Q E h => spX_len h) fun cdv A outer s H vs Q E hr h => ?_
  refine ⟨_, (pss_cons (ps_if (pt_cmpR (op_inK K rfl (un65 hr)) (pv 2) (pv 3) (by rfl)) (pss_one ps_retN) pss_nil)
  (pss_cons (ps_expr (pe_bm PySem.F.plainAttrs_list PySem.F.slot_list_append PySem.F.type_list_append mt_append (pe_dget (hu_of hr) (pv 4) pe_str (fun _ _ => rfl)) (pa_cons (pv 2) pa_nil)))
  (pss_one (ps_for PassesOwn.never rfl (pi_enumK K rfl (by rfl) B.enumerate (pa_cons (pe_ix (ix_KD K rfl hr.units) (pv 0) (pv 2) (fun _ _ => rfl)) pa_nil)) (pg_tup rfl (pgs_cons (pg_name (i := 5) nd rfl (Or.inl rfl)) (pgs_cons (pg_name (i := 6) nd rfl (Or.inl rfl)) pgs_nil)))
  (pss_cons (ps_if (pt_val (pe_dget (hu_of hr) (pv 4) pe_str (fun _ _ => rfl))) (pss_one ps_retN) pss_nil)
  (pss_one (ps_if (pt_val (pe_cal c__law_holds hr (by rfl) (pa_cons (pe_ix (ix_K K rfl) (pv 6) pe_int (fun _ _ => rfl)) (pa_cons (pv 1) (pa_cons (pe_dget (hu_of hr) (pv 4) pe_str (fun _ _ => rfl)) pa_nil))))) (pss_cons (ps_expr (pe_bm PySem.F.plainAttrs_list PySem.F.slot_list_append PySem.F.type_list_append mt_append (pe_dget (hu_of hr) (pv 4) pe_str (fun _ _ => rfl)) (pa_cons (pe_tupF (pa_cons (pv 2) (pa_cons (pv 5) pa_nil))) pa_nil)))
  (pss_one (ps_for PassesOwn.never rfl (pi_seqK K rfl (pe_ix (ix_K K rfl) (pv 6) pe_int (fun _ _ => rfl))) (pg_name (i := 7) nd rfl (Or.inl rfl))
  (pss_one (ps_if (pt_not (pt_val (pe_dget (hu_of hr) (pv 4) pe_str (fun _ _ => rfl)))) (pss_one (ps_expr (pe_cal c__law_do hr (by rfl) (pa_cons (pv 0) (pa_cons (pv 1) (pa_cons (pv 7) (pa_cons (pe_op (op_addK K rfl) (pv 3) (pe_tupF (pa_cons (pv 2) pa_nil))) (pa_cons (pv 4) pa_nil)))))))) pss_nil))))) pss_nil))))))), ?_⟩
  exact body_x (N := N__law_walk) (k := 5) (j := 4) (fb := fb__law_walk m__law_holds m__law_do)
    (es_seq (es_if (et_test (ef_op e2_in (eb_var 2) (eb_var 3))) es_rexN es_next)
  (es_seq (es_app (ep_key (ep_var (i := 4)) ef_str) (en_dat (ef_var 2)))
  (es_for (ei_enum (ef_op e2_ixE (eb_var 0) (eb_var 2))) (eg_tup (egs_cons (eg_name 5) (egs_cons (eg_name 6) egs_nil)))
  (es_seq (es_if (et_B (ef_partD (ep_key (ep_var (i := 4)) ef_str))) es_rexN es_next)
  (es_if (et_B (ef_call (ea_cons (ef_op e2_ix (eb_var 6) (ef_int).b) (ea_cons (ef_var 1) (ea_cons (ef_partD (ep_key (ep_var (i := 4)) ef_str)) ea_nil))))) (es_seq (es_app (ep_key (ep_var (i := 4)) ef_str) (en_dat (ef_tup (ea_cons (ef_var 2) (ea_cons (ef_var 5) ea_nil)))))
  (es_for (ei_seq (ef_op e2_ix (eb_var 6) (ef_int).b)) (eg_name 7)
  (es_if (et_not (et_B (ef_partD (ep_key (ep_var (i := 4)) ef_str)))) (es_dropX (ex_call (eax_cons (ef_var 0) (eax_cons (ef_var 1) (eax_cons (ef_var 7) (eax_cons (ef_op e2_add (eb_var 3) (ef_tup (ea_cons (ef_var 2) ea_nil)).b) (eax_here (ep_var (i := 4)) ea_nil))))))) es_next))) es_next)))))
    h
abbrev N__law_do : List Str := ["rules", "letter", "deed", "within", "state", "word", "mark"]
theorem sc__law_do : FnScope N__law_do ["rules", "letter", "deed", "within", "state"] (defScope s__law_do) := ⟨rfl, rfl, rfl, by decide +kernel, rfl, by decide +kernel, by decide +kernel⟩
theorem ok__law_do {P : Program} {w : World} {K : Fg} {mg : Str → Option Value} {base : Heap} {k : Nat} {f : Addr} {fd : FuncData} {m__law_walk : OD → List PyData → Option (PyData × OD)} (F : Fun K "_law_do" "_law_do" s__law_do f fd) (B : BI mg) (c__law_walk : CalS P w K mg base (k) "_law_walk" ["rules", "letter", "name", "within", "state"] (spX K 4 m__law_walk)) :
    FnOk P w K mg base CX0 (k + 1) f fd ["rules", "letter", "deed", "within", "state"] (spX K 4 (runX 7 5 4 (fb__law_do m__law_walk))) := by
  have nd := sc__law_do.nd
  refine F.ok sc__law_do (fun vs H Q E h => spX_len h) fun cdv A outer s H vs Q E hr h => ?_
  refine ⟨_, (pss_cons (ps_set (i := 5) nd rfl (Or.inl rfl) (pe_ix (ix_K K rfl) (pv 2) pe_int (fun _ _ => rfl)))
  (pss_one (ps_if (pt_cmpR (op_inK K rfl (un65 hr)) (pv 5) (pe_tupF (pa_cons pe_str (pa_cons pe_str pa_nil))) (by rfl)) (pss_one (ps_dput (hu_of hr) (pv 4) (pv 5) pe_bl rfl)) (pss_one (ps_if (pt_cmpR (op_eqK K rfl hr.units) (pv 5) pe_str (nomark _)) (pss_one (ps_expr (pe_cal c__law_walk hr (by rfl) (pa_cons (pv 0) (pa_cons (pv 1) (pa_cons (pe_ix (ix_K K rfl) (pv 2) pe_int (fun _ _ => rfl)) (pa_cons (pv 3) (pa_cons (pv 4) pa_nil)))))))) (pss_one (ps_if (pt_cmpR (op_eqK K rfl hr.units) (pv 5) pe_str (nomark _)) (pss_one (ps_dput (hu_of hr) (pv 4) pe_str (pe_op (op_addK K rfl) (pe_dget (hu_of hr) (pv 4) pe_str (fun _ _ => rfl)) (pe_lst (pa_cons (pe_ix (ix_K K rfl) (pv 2) pe_int (fun _ _ => rfl)) pa_nil))) rfl)) (pss_one (ps_if (pt_cmpR (op_eqK K rfl hr.units) (pv 5) pe_str (nomark _)) (pss_one (ps_dput (hu_of hr) (pv 4) pe_str (pe_lc (own := [("mark", 6)]) (g := (gName 6)) rfl nd (pi_seqK K rfl (pe_dget (hu_of hr) (pv 4) pe_str (fun _ _ => rfl))) (blkOk_by (own := [("mark", 6)]) (N := N__law_do) (sc := (defScope s__law_do)) (by decide +kernel)) (fun _ _ _ _ _ => (pg_name (i := 6) nd rfl (Or.inl rfl))) (fun _ _ _ _ _ => (pts_one (pt_cmpR (op_neK K rfl hr.units) (pv 6) (pe_ix (ix_K K rfl) (pv 2) pe_int (fun _ _ => rfl)) (nomark _)))) (fun _ _ _ _ _ => (pv 6))) rfl)) (pss_one (ps_if (pt_cmpR (op_notInK K rfl (un65 hr)) (pe_ix (ix_K K rfl) (pv 2) pe_int (fun _ _ => rfl)) (pe_dget (hu_of hr) (pv 4) (pv 5) (fun _ _ => rfl)) (by rfl)) (pss_one (ps_expr (pe_bm PySem.F.plainAttrs_list PySem.F.slot_list_append PySem.F.type_list_append mt_append (pe_dget (hu_of hr) (pv 4) (pv 5) (fun _ _ => rfl)) (pa_cons (pe_ix (ix_K K rfl) (pv 2) pe_int (fun _ _ => rfl)) pa_nil)))) pss_nil))))))))))), ?_⟩
  exact body_x (N := N__law_do) (k := 5) (j := 4) (fb := fb__law_do m__law_walk)
    (es_seq (es_asg (i := 5) (ef_op e2_ix (eb_var 2) (ef_int).b))
  (es_if (et_test (ef_op e2_in (eb_var 5) (ef_tup (ea_cons ef_str (ea_cons ef_str ea_nil))).b)) (es_put (ep_var (i := 4)) (ef_var 5) ef_bl) (es_if (et_test (ef_op e2_eq (eb_var 5) (ef_str).b)) (es_dropX (ex_call (eax_cons (ef_var 0) (eax_cons (ef_var 1) (eax_cons (ef_op e2_ix (eb_var 2) (ef_int).b) (eax_cons (ef_var 3) (eax_here (ep_var (i := 4)) ea_nil))))))) (es_if (et_test (ef_op e2_eq (eb_var 5) (ef_str).b)) (es_put (ep_var (i := 4)) ef_str (ef_op e2_add (eb_partB (ep_key (ep_var (i := 4)) ef_str)) (ef_lst (ea_cons (ef_op e2_ix (eb_var 2) (ef_int).b) ea_nil)).b)) (es_if (et_test (ef_op e2_eq (eb_var 5) (ef_str).b)) (es_put (ep_var (i := 4)) ef_str (ef_lcD (eib_seq (eb_partB (ep_key (ep_var (i := 4)) ef_str))) (eg_name 6) (et_test (ef_op e2_ne (eb_var 6) (ef_op e2_ix (eb_var 2) (ef_int).b).b)) (ef_var 6))) (es_if (et_test (ef_op e2_notIn (ef_op e2_ix (eb_var 2) (ef_int).b).b (eb_partB (ep_key (ep_var (i := 4)) (ef_var 5))))) (es_app (ep_key (ep_var (i := 4)) (ef_var 5)) (en_dat (ef_op e2_ix (eb_var 2) (ef_int).b))) es_next))))))
    h
abbrev N__law_run : List Str := ["book", "letter", "state"]
theorem sc__law_run : FnScope N__law_run ["book", "letter"] (defScope s__law_run) := ⟨rfl, rfl, rfl, by decide +kernel, rfl, by decide +kernel, by decide +kernel⟩
theorem ok__law_run {P : Program} {w : World} {K : Fg} {mg : Str → Option Value} {base : Heap} {k : Nat} {f : Addr} {fd : FuncData} {m__law_walk : OD → List PyData → Option (PyData × OD)} (F : Fun K "_law_run" "_law_run" s__law_run f fd) (B : BI mg) (c__law_walk : CalS P w K mg base (k) "_law_walk" ["rules", "letter", "name", "within", "state"] (spX K 4 m__law_walk)) :
    FnOk P w K mg base CX0 (k + 1) f fd ["book", "letter"] (spD K (runD 3 2 (fb__law_run m__law_walk))) := by
  have nd := sc__law_run.nd
  refine F.ok sc__law_run (spD_len runD_len) fun cdv A outer s H vs Q E hr h => ?_
  refine ⟨_, (pss_cons (ps_set (i := 2) nd rfl (Or.inl rfl) (pe_disp (pps_cons pe_str (pe_callTy (call_listK K rfl) (by rfl) B.list bt_list (pa_cons (pe_ix (ix_K K rfl) (pv 1) pe_int (fun _ _ => rfl)) pa_nil)) (pps_cons pe_str pe_bl (pps_cons pe_str pe_bl (pps_cons pe_str (pe_lst pa_nil) (pps_cons pe_str (pe_lst pa_nil) pps_nil))))) (by rfl) (by rfl) (fun z => by cases z) (by decide)))
  (pss_cons (ps_expr (pe_bm PySem.F.plainAttrs_dict PySem.F.slot_dict_update PySem.F.type_dict_update mt_update (pv 2) (pa_cons (pe_disp (pps_cons pe_str (pe_lst pa_nil) (pps_cons pe_str (pe_lst pa_nil) (pps_cons pe_str (pe_lst pa_nil) pps_nil))) (by rfl) (by rfl) (fun z => by cases z) (by decide)) pa_nil)))
  (pss_cons (ps_expr (pe_cal c__law_walk hr (by rfl) (pa_cons (pe_callTy (call_dictK K rfl rfl) (by rfl) B.dict bt_dict (pa_cons (pv 0) pa_nil)) (pa_cons (pv 1) (pa_cons pe_str (pa_cons (pe_tupF pa_nil) (pa_cons (pv 2) pa_nil)))))))
  (pss_cons (ps_if (PW.pt (pw_and (pt_cmpR (op_eqK K rfl hr.units) (pe_op (op_addK K rfl) (pe_dget (hu_of hr) (pv 2) pe_str (fun _ _ => rfl)) (pe_dget (hu_of hr) (pv 2) pe_str (fun _ _ => rfl))) (pe_lst pa_nil) (nomark _)) (pw_and1 (pt_not (pt_val (pe_dget (hu_of hr) (pv 2) pe_str (fun _ _ => rfl))))))) (pss_one (ps_expr (pe_bm PySem.F.plainAttrs_list PySem.F.slot_list_append PySem.F.type_list_append mt_append (pe_dget (hu_of hr) (pv 2) pe_str (fun _ _ => rfl)) (pa_cons pe_str pa_nil)))) pss_nil)
  (pss_one (ps_ret (pv 2))))))), ?_⟩
  exact body_ok (N := N__law_run) (fb := fb__law_run m__law_walk)
    (es_seq (es_asgO (i := 2) (en_disp (enp_cons ef_str (en_dat (ef_cb1 e1_list (ef_op e2_ix (eb_var 1) (ef_int).b).b)) (enp_cons ef_str (en_dat ef_bl) (enp_cons ef_str (en_dat ef_bl) (enp_cons ef_str (en_lstD ea_nil) (enp_cons ef_str (en_lstD ea_nil) enp_nil)))))))
  (es_seq (es_upd (ep_var (i := 2)) (en_disp (enp_cons ef_str (en_lstD ea_nil) (enp_cons ef_str (en_lstD ea_nil) (enp_cons ef_str (en_lstD ea_nil) enp_nil)))))
  (es_seq (es_dropX (ex_call (eax_cons (ef_cb1 e1_dict (eb_var 0)) (eax_cons (ef_var 1) (eax_cons ef_str (eax_cons (ef_tup ea_nil) (eax_here (ep_var (i := 2)) ea_nil)))))))
  (es_seq (es_if (et_and (et_test (ef_op e2_eq (ef_op e2_add (eb_partB (ep_key (ep_var (i := 2)) ef_str)) (eb_partB (ep_key (ep_var (i := 2)) ef_str))).b (ef_lst ea_nil).b)) (et_not (et_B (ef_partD (ep_key (ep_var (i := 2)) ef_str))))) (es_app (ep_key (ep_var (i := 2)) ef_str) (en_dat ef_str)) es_next)
  (es_seal 2 (es_ret (ef_var 2)))))))
    runD_ret h
abbrev N__law_told_of : List Str := ["state", "some"]
theorem sc__law_told_of : FnScope N__law_told_of ["state"] (defScope s__law_told_of) := ⟨rfl, rfl, rfl, by decide +kernel, rfl, by decide +kernel, by decide +kernel⟩
theorem ok__law_told_of {P : Program} {w : World} {K : Fg} {mg : Str → Option Value} {base : Heap} {k : Nat} {f : Addr} {fd : FuncData} (F : Fun K "_law_told_of" "_law_told_of" s__law_told_of f fd) (B : BI mg) :
    FnOk P w K mg base CX0 (k + 1) f fd ["state"] (spD K (runD 2 1 (fb__law_told_of))) := by
  have nd := sc__law_told_of.nd
  refine F.ok sc__law_told_of (spD_len runD_len) fun cdv A outer s H vs Q E hr h => ?_
  refine ⟨_, (pss_cons (ps_set (i := 1) nd rfl (Or.inl rfl) (pe_tupF (pa_cons (pe_callTy (call_tupleK K rfl) (by rfl) B.tuple bt_tuple (pa_cons (pe_ix (ix_KD K rfl hr.units) (pv 0) pe_str (fun _ _ => rfl)) pa_nil)) (pa_cons (pe_callTy (call_tupleK K rfl) (by rfl) B.tuple bt_tuple (pa_cons (pe_ix (ix_KD K rfl hr.units) (pv 0) pe_str (fun _ _ => rfl)) pa_nil)) (pa_cons (pe_callTy (call_tupleK K rfl) (by rfl) B.tuple bt_tuple (pa_cons (pe_ix (ix_KD K rfl hr.units) (pv 0) pe_str (fun _ _ => rfl)) pa_nil)) pa_nil)))))
  (pss_one (ps_ret (pe_op (op_addK K rfl) (pv 1) (pe_tupF (pa_cons (pe_callTy (call_tupleK K rfl) (by rfl) B.tuple bt_tuple (pa_cons (pe_callB (cr_sortSK K P w rfl rfl rfl rfl hr.units) (by rfl) B.sorted bt_sorted (pa_cons (pe_callTy (cr_setK K P w rfl rfl rfl rfl) (by rfl) B.set bt_set (pa_cons (pe_ix (ix_KD K rfl hr.units) (pv 0) pe_str (fun _ _ => rfl)) pa_nil)) pa_nil)) pa_nil)) pa_nil)))))), ?_⟩
  exact body_ok (N := N__law_told_of) (fb := fb__law_told_of)
    (es_seq (es_asg (i := 1) (ef_tup (ea_cons (ef_cb1 e1_tuple (ef_op e2_ixE (eb_var 0) (ef_str).b).b) (ea_cons (ef_cb1 e1_tuple (ef_op e2_ixE (eb_var 0) (ef_str).b).b) (ea_cons (ef_cb1 e1_tuple (ef_op e2_ixE (eb_var 0) (ef_str).b).b) ea_nil)))))
  (es_ret (ef_op e2_add (eb_var 1) (ef_tup (ea_cons (ef_cb1 e1_tuple (ef_sortK (ef_op e2_ixE (eb_var 0) (ef_str).b).b).b) ea_nil)).b)))
    runD_ret h
abbrev N_law : List Str := ["script", "book", "k", "letter", "name", "rules", "test", "deeds", "found", "state"]
def fb_law_b1 (m__law_book : List PyData → Option PyData) (m__law_letter : List PyData → Option PyData) (m_holds : List PyData → Option PyData) (m__law_holds : List PyData → Option PyData) (m__law_run : List PyData → Option PyData) (m_outcome : List PyData → Option PyData) (m__law_told_of : List PyData → Option PyData) (m_done_by : List PyData → Option PyData) : Rho → Option Res := fun ρ =>
  seqR (asgR 8 ρ (((bnd2 (gv 6 ρ) ((bnd2 (gv 3 ρ) (some []) consD)) consD)).bind m_holds)) fun ρ =>
  ifR (orB ((((gb 8 ρ).bind (isiD "bool")).bind asB).map not) ((bnd2 (gb 8 ρ) (((bnd2 (gv 6 ρ) ((bnd2 (gv 3 ρ) ((bnd2 ((bnd2 (gb 3 ρ) (some (.int 3)) ixD).bind listD) (some []) consD)) consD)) consD)).bind m__law_holds) neD).bind asB)) (retR (some (.bool false))) (some (.nx ρ))
def fb_law_b2 (m__law_book : List PyData → Option PyData) (m__law_letter : List PyData → Option PyData) (m_holds : List PyData → Option PyData) (m__law_holds : List PyData → Option PyData) (m__law_run : List PyData → Option PyData) (m_outcome : List PyData → Option PyData) (m__law_told_of : List PyData → Option PyData) (m_done_by : List PyData → Option PyData) : Rho → Option Res := fun ρ =>
  forR ((gv 5 ρ).bind walkD) (tgT 2 (tgC tg1 (tgC tg1 tgN))) [6, 7] (fb_law_b1 m__law_book m__law_letter m_holds m__law_holds m__law_run m_outcome m__law_told_of m_done_by) ρ
def fb_law_b3 (m__law_book : List PyData → Option PyData) (m__law_letter : List PyData → Option PyData) (m_holds : List PyData → Option PyData) (m__law_holds : List PyData → Option PyData) (m__law_run : List PyData → Option PyData) (m_outcome : List PyData → Option PyData) (m__law_told_of : List PyData → Option PyData) (m_done_by : List PyData → Option PyData) : Rho → Option Res := fun ρ =>
  seqR (asgR 3 ρ (((bnd2 (bnd2 (scrOf 0 ρ) ((bnd2 (some (.int 1)) (gb 2 ρ) addD).bind asI) mixR) (some []) consD)).bind m__law_letter)) fun ρ =>
  seqR (forR ((gv 1 ρ).bind walkD) (tgT 2 (tgC tg1 (tgC tg1 tgN))) [4, 5] (fb_law_b2 m__law_book m__law_letter m_holds m__law_holds m__law_run m_outcome m__law_told_of m_done_by) ρ) fun ρ =>
  seqR (asgR 9 ρ (((bnd2 (gv 1 ρ) ((bnd2 (gv 3 ρ) (some []) consD)) consD)).bind m__law_run)) fun ρ =>
  seqR (ifR ((bnd2 (((bnd2 (gv 1 ρ) ((bnd2 (gv 3 ρ) (some []) consD)) consD)).bind m_outcome) (((bnd2 (gv 9 ρ) (some []) consD)).bind m__law_told_of) neD).bind asB) (retR (some (.bool false))) (some (.nx ρ))) fun ρ =>
  ifR ((bnd2 (((bnd2 (gv 1 ρ) ((bnd2 (gv 3 ρ) (some []) consD)) consD)).bind m_done_by) (((bnd2 (gb 9 ρ) (some (.str "done")) ixE).bind (sortSetD tupKind 60)).bind tupleD) neD).bind asB) (retR (some (.bool false))) (some (.nx ρ))
def fb_law (m__law_book : List PyData → Option PyData) (m__law_letter : List PyData → Option PyData) (m_holds : List PyData → Option PyData) (m__law_holds : List PyData → Option PyData) (m__law_run : List PyData → Option PyData) (m_outcome : List PyData → Option PyData) (m__law_told_of : List PyData → Option PyData) (m_done_by : List PyData → Option PyData) : Rho → Option Res := fun ρ =>
  seqR (asgR 1 ρ (((bnd2 (bnd2 (scrOf 0 ρ) ((some (.int 0)).bind asI) mixR) (some []) consD)).bind m__law_book)) fun ρ =>
  seqR (forR (((bnd2 (some (.int 4)) (some []) consD)).bind rng1D) tg1 [2] (fb_law_b3 m__law_book m__law_letter m_holds m__law_holds m__law_run m_outcome m__law_told_of m_done_by) ρ) fun ρ =>
  retR (some (.bool true))
theorem sc_law : FnScope N_law ["script"] (defScope s_law) := ⟨rfl, rfl, rfl, by decide +kernel, rfl, by decide +kernel, by decide +kernel⟩
theorem ok_law {P : Program} {w : World} {K : Fg} {mg : Str → Option Value} {base : Heap} {k : Nat} {f : Addr} {fd : FuncData} {m__law_book : List PyData → Option PyData} {m__law_letter : List PyData → Option PyData} {m_holds : List PyData → Option PyData} {m__law_holds : List PyData → Option PyData} {m__law_run : List PyData → Option PyData} {m_outcome : List PyData → Option PyData} {m__law_told_of : List PyData → Option PyData} {m_done_by : List PyData → Option PyData} (F : Fun K "law" "law" s_law f fd) (B : BI mg) (c__law_mixed : CalS P w K mg base (k) "_law_mixed" ["script", "k"] (spMix K)) (c__law_book : Cal P w K mg base (k) "_law_book" ["number"] m__law_book) (c__law_letter : Cal P w K mg base (k) "_law_letter" ["number"] m__law_letter) (c_holds : Cal P w K mg base (k) "holds" ["test", "letter"] m_holds) (c__law_holds : Cal P w K mg base (k) "_law_holds" ["test", "letter", "marks"] m__law_holds) (c__law_run : Cal P w K mg base (k) "_law_run" ["book", "letter"] m__law_run) (c_outcome : Cal P w K mg base (k) "outcome" ["book", "letter"] m_outcome) (c__law_told_of : Cal P w K mg base (k) "_law_told_of" ["state"] m__law_told_of) (c_done_by : Cal P w K mg base (k) "done_by" ["book", "letter"] m_done_by)
    (hf : ∀ ns : List Int, ns.length ≤ 63 → retD (fb_law m__law_book m__law_letter m_holds m__law_holds m__law_run m_outcome m__law_told_of m_done_by (scrR 10 ns)) = some (.bool true)) :
    FnOk P w K mg base CX0 (k + 1) f fd ["script"] (spLaw K) := by
  have nd := sc_law.nd
  refine F.ok sc_law (fun vs H Q E h => ?_) fun cdv A outer s H vs Q E hr h => ?_
  · obtain ⟨a, ns, rfl, _⟩ := h
    rfl
  · have hr1 := hr
    refine ⟨_, (pss_cons (ps_set (i := 1) nd rfl (Or.inl rfl) (pe_cal c__law_book hr (by rfl) (pa_cons (pe_cal c__law_mixed hr (by rfl) (pa_cons (pv 0) (pa_cons pe_int pa_nil))) pa_nil)))
  (pss_cons (ps_for PassesOwn.never rfl (pi_range1 rfl B.range (pa_cons pe_int pa_nil)) (pg_name (i := 2) nd rfl (Or.inl rfl))
  (pss_cons (ps_set (i := 3) nd rfl (Or.inl rfl) (pe_cal c__law_letter hr (by rfl) (pa_cons (pe_cal c__law_mixed hr (by rfl) (pa_cons (pv 0) (pa_cons (pe_op (op_addK K rfl) pe_int (pv 2)) pa_nil))) pa_nil)))
  (pss_cons (ps_for PassesOwn.never rfl (pi_seqK K rfl (pv 1)) (pg_tup rfl (pgs_cons (pg_name (i := 4) nd rfl (Or.inl rfl)) (pgs_cons (pg_name (i := 5) nd rfl (Or.inl rfl)) pgs_nil)))
  (pss_one (ps_for PassesOwn.never rfl (pi_seqK K rfl (pv 5)) (pg_tup rfl (pgs_cons (pg_name (i := 6) nd rfl (Or.inl rfl)) (pgs_cons (pg_name (i := 7) nd rfl (Or.inl rfl)) pgs_nil)))
  (pss_cons (ps_set (i := 8) nd rfl (Or.inl rfl) (pe_cal c_holds hr (by rfl) (pa_cons (pv 6) (pa_cons (pv 3) pa_nil))))
  (pss_one (ps_if (PW.pt (pw_or (pt_not (pt_val (pe_callB (call_isK K rfl) (by rfl) B.isinstance bt_isinstance (pa_cons (pv 8) (pa_cons (pe_bltn (v := .ty "bool") (by rfl) B.bool bt_bool rfl) pa_nil))))) (pw_or1 (pt_cmpR (op_neK K rfl hr.units) (pv 8) (pe_cal c__law_holds hr (by rfl) (pa_cons (pv 6) (pa_cons (pv 3) (pa_cons (pe_callTy (call_listK K rfl) (by rfl) B.list bt_list (pa_cons (pe_ix (ix_K K rfl) (pv 3) pe_int (fun _ _ => rfl)) pa_nil)) pa_nil)))) (nomark _))))) (pss_one (ps_ret pe_bl)) pss_nil))))))
  (pss_cons (ps_set (i := 9) nd rfl (Or.inl rfl) (pe_cal c__law_run hr (by rfl) (pa_cons (pv 1) (pa_cons (pv 3) pa_nil))))
  (pss_cons (ps_if (pt_cmpR (op_neK K rfl hr.units) (pe_cal c_outcome hr (by rfl) (pa_cons (pv 1) (pa_cons (pv 3) pa_nil))) (pe_cal c__law_told_of hr (by rfl) (pa_cons (pv 9) pa_nil)) (nomark _)) (pss_one (ps_ret pe_bl)) pss_nil)
  (pss_one (ps_if (pt_cmpR (op_neK K rfl hr.units) (pe_cal c_done_by hr (by rfl) (pa_cons (pv 1) (pa_cons (pv 3) pa_nil))) (pe_callTy (call_tupleK K rfl) (by rfl) B.tuple bt_tuple (pa_cons (pe_callB (cr_sortST K P w rfl rfl rfl rfl hr.units) (by rfl) B.sorted bt_sorted (pa_cons (pe_callTy (cr_setT K P w rfl rfl rfl rfl hr.units) (by rfl) B.set bt_set (pa_cons (pe_ix (ix_KD K rfl hr.units) (pv 9) pe_str (fun _ _ => rfl)) pa_nil)) pa_nil)) pa_nil)) (nomark _)) (pss_one (ps_ret pe_bl)) pss_nil)))))))
  (pss_one (ps_ret pe_bl)))), ?_⟩
    exact law_ok (N := N_law) (fb := fb_law m__law_book m__law_letter m_holds m__law_holds m__law_run m_outcome m__law_told_of m_done_by)
      (es_seq (es_asg (i := 1) (ef_call (ea_cons (ef_mix (i := 0) ef_int) ea_nil)))
  (es_seq (es_for (ei_rng1 (ea_cons ef_int ea_nil)) (eg_name 2)
  (es_seq (es_asg (i := 3) (ef_call (ea_cons (ef_mix (i := 0) (ef_op e2_add (ef_int).b (eb_var 2))) ea_nil)))
  (es_seq (es_for (ei_seq (ef_var 1)) (eg_tup (egs_cons (eg_name 4) (egs_cons (eg_name 5) egs_nil)))
  (es_for (ei_seq (ef_var 5)) (eg_tup (egs_cons (eg_name 6) (egs_cons (eg_name 7) egs_nil)))
  (es_seq (es_asg (i := 8) (ef_call (ea_cons (ef_var 6) (ea_cons (ef_var 3) ea_nil))))
  (es_if (et_or (et_not (et_B (ef_isi (eb_var 8)))) (et_test (ef_op e2_ne (eb_var 8) (ef_call (ea_cons (ef_var 6) (ea_cons (ef_var 3) (ea_cons (ef_cb1 e1_list (ef_op e2_ix (eb_var 3) (ef_int).b).b) ea_nil)))).b))) (es_ret ef_bl) es_next))))
  (es_seq (es_asg (i := 9) (ef_call (ea_cons (ef_var 1) (ea_cons (ef_var 3) ea_nil))))
  (es_seq (es_if (et_test (ef_op e2_ne (ef_call (ea_cons (ef_var 1) (ea_cons (ef_var 3) ea_nil))).b (ef_call (ea_cons (ef_var 9) ea_nil)).b)) (es_ret ef_bl) es_next)
  (es_if (et_test (ef_op e2_ne (ef_call (ea_cons (ef_var 1) (ea_cons (ef_var 3) ea_nil))).b (ef_cb1 e1_tuple (ef_sortT (ef_op e2_ixE (eb_var 9) (ef_str).b).b).b).b)) (es_ret ef_bl) es_next))))))
  (es_ret ef_bl)))
      hf h
theorem lwalk_cal {P : Program} {w : World} {K : Fg} {mg : Str → Option Value} {base h : Heap} (X : K.In h) (G : h.Ns mainGlobals mg) (B : BI mg) (dw : Dn K "_law_walk" s__law_walk) (dd : Dn K "_law_do" s__law_do) {N : Nat} (ch : Cal P w K mg base (N + 1) "_law_holds" ["test", "letter", "marks"] (m_lh (N + 1))) : ∀ n, CalS P w K mg base (N + 1 + 2 * n) "_law_walk" ["rules", "letter", "name", "within", "state"] (spX K 4 (m_lwalk N n))
  | 0 => dw.cal X G (fun _ _ _ _ _ _ us hl => match us, hl with | [_, _, _, _, _], _ => rfl) fun f fd F => fn_noX
  | n + 1 => by
    have cd : CalS P w K mg base (N + 1 + 2 * n + 1) "_law_do" ["rules", "letter", "deed", "within", "state"] (spX K 4 (runX 7 5 4 (fb__law_do (m_lwalk N n)))) := dd.cal X G (fun _ _ _ _ _ _ us hl => match us, hl with | [_, _, _, _, _], _ => rfl) fun f fd F => ok__law_do F B (lwalk_cal X G B dw dd ch n)
    exact dw.cal X G (fun _ _ _ _ _ _ us hl => match us, hl with | [_, _, _, _, _], _ => rfl) fun f fd F => ok__law_walk (k := N + 1 + 2 * n + 1) F B (ch.mono (by omega)) cd
end K10

namespace K10
open PySem L2 Evl Sv
theorem law_true (ns : List Int) (sm : ∀ x, (bookN x).Sm) : retD (fb_law (m_book 3) m_letter (m_holds 4) (m_lh 4) (m_lrun 3 6) (m_out 3 6) m_ltold (m_done 3 6) (scrR 10 ns)) = some (.bool true) := by
  rw [show scrR 10 ns = [.scr ns, .no, .no, .no, .no, .no, .no, .no, .no, .no] from rfl]
  unfold fb_law
  (first | refine nx_step (by simp only [gv_0, gv_s, gb_0, gb_s, scr_0, bnd2_ss, consD_, tupD_, lstD_, asgR_s, seqR_nx, seqR_ret, ifR_t, ifR_f, retR_s, retD_s, asB_b, asI_i, addD_ii, subD_ii, modD_ii, gtD_ii, geD_ii, leD_ii, ltD_ii, eqD_ii, eqD_ss, neD_ss, neD_ii, neD_bb, ixD_t, ixD_l, andB_t, andB_f, orB_t, orB_f, notV_b, mixR_, setsR_nil, setsR_cons, tg1_, tgT_1, tgT_2, tgT_4, asgG_u, walkD_t, walkD_l, tupleD_l, tupleD_t, listD_l, listD_t, lenD_t, lenD_l, wipeR_nil, wipeR_cons, Option.bind_some, Option.map_some, List.set_cons_zero, List.set_cons_succ, List.length_cons, List.length_nil, Nat.zero_add, Nat.reduceAdd, Nat.reduceLeDiff, Int.reduceAdd, Int.reduceLE, Int.reduceLT, Int.reduceNeg, Int.reduceSub, Int.reduceMul, Int.reduceEq, Bool.not_true, Bool.not_false, decide_true, decide_false, atI_0, atI_1, atI_2, atI_3, Int.reduceToNat, book_eq]; rfl) ?_ | refine rt_step (by simp only [gv_0, gv_s, gb_0, gb_s, scr_0, bnd2_ss, consD_, tupD_, lstD_, asgR_s, seqR_nx, seqR_ret, ifR_t, ifR_f, retR_s, retD_s, asB_b, asI_i, addD_ii, subD_ii, modD_ii, gtD_ii, geD_ii, leD_ii, ltD_ii, eqD_ii, eqD_ss, neD_ss, neD_ii, neD_bb, ixD_t, ixD_l, andB_t, andB_f, orB_t, orB_f, notV_b, mixR_, setsR_nil, setsR_cons, tg1_, tgT_1, tgT_2, tgT_4, asgG_u, walkD_t, walkD_l, tupleD_l, tupleD_t, listD_l, listD_t, lenD_t, lenD_l, wipeR_nil, wipeR_cons, Option.bind_some, Option.map_some, List.set_cons_zero, List.set_cons_succ, List.length_cons, List.length_nil, Nat.zero_add, Nat.reduceAdd, Nat.reduceLeDiff, Int.reduceAdd, Int.reduceLE, Int.reduceLT, Int.reduceNeg, Int.reduceSub, Int.reduceMul, Int.reduceEq, Bool.not_true, Bool.not_false, decide_true, decide_false, atI_0, atI_1, atI_2, atI_3, Int.reduceToNat, book_eq]; rfl) ?_ | refine seq_step (by simp only [gv_0, gv_s, gb_0, gb_s, scr_0, bnd2_ss, consD_, tupD_, lstD_, asgR_s, seqR_nx, seqR_ret, ifR_t, ifR_f, retR_s, retD_s, asB_b, asI_i, addD_ii, subD_ii, modD_ii, gtD_ii, geD_ii, leD_ii, ltD_ii, eqD_ii, eqD_ss, neD_ss, neD_ii, neD_bb, ixD_t, ixD_l, andB_t, andB_f, orB_t, orB_f, notV_b, mixR_, setsR_nil, setsR_cons, tg1_, tgT_1, tgT_2, tgT_4, asgG_u, walkD_t, walkD_l, tupleD_l, tupleD_t, listD_l, listD_t, lenD_t, lenD_l, wipeR_nil, wipeR_cons, Option.bind_some, Option.map_some, List.set_cons_zero, List.set_cons_succ, List.length_cons, List.length_nil, Nat.zero_add, Nat.reduceAdd, Nat.reduceLeDiff, Int.reduceAdd, Int.reduceLE, Int.reduceLT, Int.reduceNeg, Int.reduceSub, Int.reduceMul, Int.reduceEq, Bool.not_true, Bool.not_false, decide_true, decide_false, atI_0, atI_1, atI_2, atI_3, Int.reduceToNat, book_eq]; rfl) ?_)
  have gb := bookN_good (mixN ns 0)
  have few := fun l hl => begun_few (x := mixN ns 0) (l := l) hl
  have sm := sm (mixN ns 0)
  generalize bookN (mixN ns 0) = b at *
  have g := Book.good.of gb
  refine rt_for (S := fun ρ => ∃ x2 x3 x4 x5 x6 x7 x8 x9, ρ = [.scr ns, .val b.enc, x2, x3, x4, x5, x6, x7, x8, x9]) (by
    simp only [gv_0, gv_s, gb_0, gb_s, scr_0, bnd2_ss, consD_, tupD_, lstD_, asgR_s, seqR_nx, seqR_ret, ifR_t, ifR_f, retR_s, retD_s, asB_b, asI_i, addD_ii, subD_ii, modD_ii, gtD_ii, geD_ii, leD_ii, ltD_ii, eqD_ii, eqD_ss, neD_ss, neD_ii, neD_bb, ixD_t, ixD_l, andB_t, andB_f, orB_t, orB_f, notV_b, mixR_, setsR_nil, setsR_cons, tg1_, tgT_1, tgT_2, tgT_4, asgG_u, walkD_t, walkD_l, tupleD_l, tupleD_t, listD_l, listD_t, lenD_t, lenD_l, wipeR_nil, wipeR_cons, Option.bind_some, Option.map_some, List.set_cons_zero, List.set_cons_succ, List.length_cons, List.length_nil, Nat.zero_add, Nat.reduceAdd, Nat.reduceLeDiff, Int.reduceAdd, Int.reduceLE, Int.reduceLT, Int.reduceNeg, Int.reduceSub, Int.reduceMul, Int.reduceEq, Bool.not_true, Bool.not_false, decide_true, decide_false, atI_0, atI_1, atI_2, atI_3, Int.reduceToNat, rng1_n 4 (by decide)]
    refine for_keep (fun i : Nat => PyData.int (i : Int)) (fun i => [PyData.int (i : Int)]) _ _ _ (fun _ _ => rfl) ?_ ⟨_, _, _, _, _, _, _, _, rfl⟩
    rintro k - ρ ⟨x2, x3, x4, x5, x6, x7, x8, x9, rfl⟩
    have hk : (0 : Int) ≤ 1 + (k : Int) := by omega
    have gl := letterN_good (mixN ns (1 + (k : Int)))
    unfold fb_law_b3
    (first | refine nx_step (by simp only [gv_0, gv_s, gb_0, gb_s, scr_0, bnd2_ss, consD_, tupD_, lstD_, asgR_s, seqR_nx, seqR_ret, ifR_t, ifR_f, retR_s, retD_s, asB_b, asI_i, addD_ii, subD_ii, modD_ii, gtD_ii, geD_ii, leD_ii, ltD_ii, eqD_ii, eqD_ss, neD_ss, neD_ii, neD_bb, ixD_t, ixD_l, andB_t, andB_f, orB_t, orB_f, notV_b, mixR_, setsR_nil, setsR_cons, tg1_, tgT_1, tgT_2, tgT_4, asgG_u, walkD_t, walkD_l, tupleD_l, tupleD_t, listD_l, listD_t, lenD_t, lenD_l, wipeR_nil, wipeR_cons, Option.bind_some, Option.map_some, List.set_cons_zero, List.set_cons_succ, List.length_cons, List.length_nil, Nat.zero_add, Nat.reduceAdd, Nat.reduceLeDiff, Int.reduceAdd, Int.reduceLE, Int.reduceLT, Int.reduceNeg, Int.reduceSub, Int.reduceMul, Int.reduceEq, Bool.not_true, Bool.not_false, decide_true, decide_false, atI_0, atI_1, atI_2, atI_3, Int.reduceToNat, hk, letter_eq]; rfl) ?_ | refine rt_step (by simp only [gv_0, gv_s, gb_0, gb_s, scr_0, bnd2_ss, consD_, tupD_, lstD_, asgR_s, seqR_nx, seqR_ret, ifR_t, ifR_f, retR_s, retD_s, asB_b, asI_i, addD_ii, subD_ii, modD_ii, gtD_ii, geD_ii, leD_ii, ltD_ii, eqD_ii, eqD_ss, neD_ss, neD_ii, neD_bb, ixD_t, ixD_l, andB_t, andB_f, orB_t, orB_f, notV_b, mixR_, setsR_nil, setsR_cons, tg1_, tgT_1, tgT_2, tgT_4, asgG_u, walkD_t, walkD_l, tupleD_l, tupleD_t, listD_l, listD_t, lenD_t, lenD_l, wipeR_nil, wipeR_cons, Option.bind_some, Option.map_some, List.set_cons_zero, List.set_cons_succ, List.length_cons, List.length_nil, Nat.zero_add, Nat.reduceAdd, Nat.reduceLeDiff, Int.reduceAdd, Int.reduceLE, Int.reduceLT, Int.reduceNeg, Int.reduceSub, Int.reduceMul, Int.reduceEq, Bool.not_true, Bool.not_false, decide_true, decide_false, atI_0, atI_1, atI_2, atI_3, Int.reduceToNat, hk, letter_eq]; rfl) ?_ | refine seq_step (by simp only [gv_0, gv_s, gb_0, gb_s, scr_0, bnd2_ss, consD_, tupD_, lstD_, asgR_s, seqR_nx, seqR_ret, ifR_t, ifR_f, retR_s, retD_s, asB_b, asI_i, addD_ii, subD_ii, modD_ii, gtD_ii, geD_ii, leD_ii, ltD_ii, eqD_ii, eqD_ss, neD_ss, neD_ii, neD_bb, ixD_t, ixD_l, andB_t, andB_f, orB_t, orB_f, notV_b, mixR_, setsR_nil, setsR_cons, tg1_, tgT_1, tgT_2, tgT_4, asgG_u, walkD_t, walkD_l, tupleD_l, tupleD_t, listD_l, listD_t, lenD_t, lenD_l, wipeR_nil, wipeR_cons, Option.bind_some, Option.map_some, List.set_cons_zero, List.set_cons_succ, List.length_cons, List.length_nil, Nat.zero_add, Nat.reduceAdd, Nat.reduceLeDiff, Int.reduceAdd, Int.reduceLE, Int.reduceLT, Int.reduceNeg, Int.reduceSub, Int.reduceMul, Int.reduceEq, Bool.not_true, Bool.not_false, decide_true, decide_false, atI_0, atI_1, atI_2, atI_3, Int.reduceToNat, hk, letter_eq]; rfl) ?_)
    generalize letterN (mixN ns (1 + (k : Int))) = l at *
    have okl := (Ltr.good.of gl).ok
    have oB := out_eq gb gl
    have dB := dby_eq gb gl
    obtain ⟨st, r1, r2, r3⟩ := lrun_all gb sm gl (Nat.lt_of_le_of_lt (few l gl) (by decide))
    refine nx_for (S := fun ρ => ∃ x4 x5 x6 x7 x8 x9, ρ = [.scr ns, .val b.enc, .val (.int (k : Int)), .val l.enc, x4, x5, x6, x7, x8, x9]) (by
      simp only [gv_0, gv_s, gb_0, gb_s, scr_0, bnd2_ss, consD_, tupD_, lstD_, asgR_s, seqR_nx, seqR_ret, ifR_t, ifR_f, retR_s, retD_s, asB_b, asI_i, addD_ii, subD_ii, modD_ii, gtD_ii, geD_ii, leD_ii, ltD_ii, eqD_ii, eqD_ss, neD_ss, neD_ii, neD_bb, ixD_t, ixD_l, andB_t, andB_f, orB_t, orB_f, notV_b, mixR_, setsR_nil, setsR_cons, tg1_, tgT_1, tgT_2, tgT_4, asgG_u, walkD_t, walkD_l, tupleD_l, tupleD_t, listD_l, listD_t, lenD_t, lenD_l, wipeR_nil, wipeR_cons, Option.bind_some, Option.map_some, List.set_cons_zero, List.set_cons_succ, List.length_cons, List.length_nil, Nat.zero_add, Nat.reduceAdd, Nat.reduceLeDiff, Int.reduceAdd, Int.reduceLE, Int.reduceLT, Int.reduceNeg, Int.reduceSub, Int.reduceMul, Int.reduceEq, Bool.not_true, Bool.not_false, decide_true, decide_false, atI_0, atI_1, atI_2, atI_3, Int.reduceToNat, show walkD b.enc = some (b.map fun p => .tuple [.str p.1, rulesD p.2]) from rfl]
      refine for_keep (fun p : Str × List Rul => PyData.tuple [.str p.1, rulesD p.2]) (fun p => [.str p.1, rulesD p.2]) _ _ _ (fun _ _ => rfl) ?_ ⟨_, _, _, _, _, _, rfl⟩
      rintro p hp ρ ⟨x4, x5, x6, x7, x8, x9, rfl⟩
      unfold fb_law_b2
      simp only [gv_0, gv_s, gb_0, gb_s, scr_0, bnd2_ss, consD_, tupD_, lstD_, asgR_s, seqR_nx, seqR_ret, ifR_t, ifR_f, retR_s, retD_s, asB_b, asI_i, addD_ii, subD_ii, modD_ii, gtD_ii, geD_ii, leD_ii, ltD_ii, eqD_ii, eqD_ss, neD_ss, neD_ii, neD_bb, ixD_t, ixD_l, andB_t, andB_f, orB_t, orB_f, notV_b, mixR_, setsR_nil, setsR_cons, tg1_, tgT_1, tgT_2, tgT_4, asgG_u, walkD_t, walkD_l, tupleD_l, tupleD_t, listD_l, listD_t, lenD_t, lenD_l, wipeR_nil, wipeR_cons, Option.bind_some, Option.map_some, List.set_cons_zero, List.set_cons_succ, List.length_cons, List.length_nil, Nat.zero_add, Nat.reduceAdd, Nat.reduceLeDiff, Int.reduceAdd, Int.reduceLE, Int.reduceLT, Int.reduceNeg, Int.reduceSub, Int.reduceMul, Int.reduceEq, Bool.not_true, Bool.not_false, decide_true, decide_false, atI_0, atI_1, atI_2, atI_3, Int.reduceToNat, show walkD (rulesD p.2) = some (p.2.map Rul.enc) from rfl]
      refine nx_imp (for_keep Rul.enc (fun r => [r.1.enc, .tuple (r.2.map Deed.enc)]) (fun ρ => ∃ x6 x7 x8 x9, ρ = [.scr ns, .val b.enc, .val (.int (k : Int)), .val l.enc, .val (.str p.1), .val (rulesD p.2), x6, x7, x8, x9]) _ _ (fun _ _ => rfl) ?_ ⟨_, _, _, _, rfl⟩) (fun ρ ⟨_, _, _, _, e⟩ => ⟨_, _, _, _, _, _, e⟩)
      rintro r hr ρ ⟨x6, x7, x8, x9, rfl⟩
      unfold fb_law_b1
      have h1 := holds_eq 3 r.1 l (g.dep p hp r hr) (g.ok p hp r hr) okl
      have h2 := lhold_eq 3 r.1 l l.marks (g.dep p hp r hr) (g.ok p hp r hr) okl (Ltr.ok_marks okl)
      (first | refine nx_step (by simp only [gv_0, gv_s, gb_0, gb_s, scr_0, bnd2_ss, consD_, tupD_, lstD_, asgR_s, seqR_nx, seqR_ret, ifR_t, ifR_f, retR_s, retD_s, asB_b, asI_i, addD_ii, subD_ii, modD_ii, gtD_ii, geD_ii, leD_ii, ltD_ii, eqD_ii, eqD_ss, neD_ss, neD_ii, neD_bb, ixD_t, ixD_l, andB_t, andB_f, orB_t, orB_f, notV_b, mixR_, setsR_nil, setsR_cons, tg1_, tgT_1, tgT_2, tgT_4, asgG_u, walkD_t, walkD_l, tupleD_l, tupleD_t, listD_l, listD_t, lenD_t, lenD_l, wipeR_nil, wipeR_cons, Option.bind_some, Option.map_some, List.set_cons_zero, List.set_cons_succ, List.length_cons, List.length_nil, Nat.zero_add, Nat.reduceAdd, Nat.reduceLeDiff, Int.reduceAdd, Int.reduceLE, Int.reduceLT, Int.reduceNeg, Int.reduceSub, Int.reduceMul, Int.reduceEq, Bool.not_true, Bool.not_false, decide_true, decide_false, atI_0, atI_1, atI_2, atI_3, Int.reduceToNat, h1]; rfl) ?_ | refine rt_step (by simp only [gv_0, gv_s, gb_0, gb_s, scr_0, bnd2_ss, consD_, tupD_, lstD_, asgR_s, seqR_nx, seqR_ret, ifR_t, ifR_f, retR_s, retD_s, asB_b, asI_i, addD_ii, subD_ii, modD_ii, gtD_ii, geD_ii, leD_ii, ltD_ii, eqD_ii, eqD_ss, neD_ss, neD_ii, neD_bb, ixD_t, ixD_l, andB_t, andB_f, orB_t, orB_f, notV_b, mixR_, setsR_nil, setsR_cons, tg1_, tgT_1, tgT_2, tgT_4, asgG_u, walkD_t, walkD_l, tupleD_l, tupleD_t, listD_l, listD_t, lenD_t, lenD_l, wipeR_nil, wipeR_cons, Option.bind_some, Option.map_some, List.set_cons_zero, List.set_cons_succ, List.length_cons, List.length_nil, Nat.zero_add, Nat.reduceAdd, Nat.reduceLeDiff, Int.reduceAdd, Int.reduceLE, Int.reduceLT, Int.reduceNeg, Int.reduceSub, Int.reduceMul, Int.reduceEq, Bool.not_true, Bool.not_false, decide_true, decide_false, atI_0, atI_1, atI_2, atI_3, Int.reduceToNat, h1]; rfl) ?_ | refine seq_step (by simp only [gv_0, gv_s, gb_0, gb_s, scr_0, bnd2_ss, consD_, tupD_, lstD_, asgR_s, seqR_nx, seqR_ret, ifR_t, ifR_f, retR_s, retD_s, asB_b, asI_i, addD_ii, subD_ii, modD_ii, gtD_ii, geD_ii, leD_ii, ltD_ii, eqD_ii, eqD_ss, neD_ss, neD_ii, neD_bb, ixD_t, ixD_l, andB_t, andB_f, orB_t, orB_f, notV_b, mixR_, setsR_nil, setsR_cons, tg1_, tgT_1, tgT_2, tgT_4, asgG_u, walkD_t, walkD_l, tupleD_l, tupleD_t, listD_l, listD_t, lenD_t, lenD_l, wipeR_nil, wipeR_cons, Option.bind_some, Option.map_some, List.set_cons_zero, List.set_cons_succ, List.length_cons, List.length_nil, Nat.zero_add, Nat.reduceAdd, Nat.reduceLeDiff, Int.reduceAdd, Int.reduceLE, Int.reduceLT, Int.reduceNeg, Int.reduceSub, Int.reduceMul, Int.reduceEq, Bool.not_true, Bool.not_false, decide_true, decide_false, atI_0, atI_1, atI_2, atI_3, Int.reduceToNat, h1]; rfl) ?_)
      refine nx_fin (if_no (by
        simp only [gv_0, gv_s, gb_0, gb_s, scr_0, bnd2_ss, consD_, tupD_, lstD_, asgR_s, seqR_nx, seqR_ret, ifR_t, ifR_f, retR_s, retD_s, asB_b, asI_i, addD_ii, subD_ii, modD_ii, gtD_ii, geD_ii, leD_ii, ltD_ii, eqD_ii, eqD_ss, neD_ss, neD_ii, neD_bb, ixD_t, ixD_l, andB_t, andB_f, orB_t, orB_f, notV_b, mixR_, setsR_nil, setsR_cons, tg1_, tgT_1, tgT_2, tgT_4, asgG_u, walkD_t, walkD_l, tupleD_l, tupleD_t, listD_l, listD_t, lenD_t, lenD_l, wipeR_nil, wipeR_cons, Option.bind_some, Option.map_some, List.set_cons_zero, List.set_cons_succ, List.length_cons, List.length_nil, Nat.zero_add, Nat.reduceAdd, Nat.reduceLeDiff, Int.reduceAdd, Int.reduceLE, Int.reduceLT, Int.reduceNeg, Int.reduceSub, Int.reduceMul, Int.reduceEq, Bool.not_true, Bool.not_false, decide_true, decide_false, atI_0, atI_1, atI_2, atI_3, Int.reduceToNat, ltr_3, show listD (strsD l.marks) = some (.list (l.marks.map .str)) from rfl, h2, show ∀ c : Bool, isiD "bool" (.bool c) = some (.bool true) from fun _ => rfl]
        try (cases hold r.1 l l.marks <;> rfl)) rfl) ⟨_, _, _, _, rfl⟩) ?_
    rintro ρ ⟨x4, x5, x6, x7, x8, x9, rfl⟩
    (first | refine nx_step (by simp only [gv_0, gv_s, gb_0, gb_s, scr_0, bnd2_ss, consD_, tupD_, lstD_, asgR_s, seqR_nx, seqR_ret, ifR_t, ifR_f, retR_s, retD_s, asB_b, asI_i, addD_ii, subD_ii, modD_ii, gtD_ii, geD_ii, leD_ii, ltD_ii, eqD_ii, eqD_ss, neD_ss, neD_ii, neD_bb, ixD_t, ixD_l, andB_t, andB_f, orB_t, orB_f, notV_b, mixR_, setsR_nil, setsR_cons, tg1_, tgT_1, tgT_2, tgT_4, asgG_u, walkD_t, walkD_l, tupleD_l, tupleD_t, listD_l, listD_t, lenD_t, lenD_l, wipeR_nil, wipeR_cons, Option.bind_some, Option.map_some, List.set_cons_zero, List.set_cons_succ, List.length_cons, List.length_nil, Nat.zero_add, Nat.reduceAdd, Nat.reduceLeDiff, Int.reduceAdd, Int.reduceLE, Int.reduceLT, Int.reduceNeg, Int.reduceSub, Int.reduceMul, Int.reduceEq, Bool.not_true, Bool.not_false, decide_true, decide_false, atI_0, atI_1, atI_2, atI_3, Int.reduceToNat, r1]; rfl) ?_ | refine rt_step (by simp only [gv_0, gv_s, gb_0, gb_s, scr_0, bnd2_ss, consD_, tupD_, lstD_, asgR_s, seqR_nx, seqR_ret, ifR_t, ifR_f, retR_s, retD_s, asB_b, asI_i, addD_ii, subD_ii, modD_ii, gtD_ii, geD_ii, leD_ii, ltD_ii, eqD_ii, eqD_ss, neD_ss, neD_ii, neD_bb, ixD_t, ixD_l, andB_t, andB_f, orB_t, orB_f, notV_b, mixR_, setsR_nil, setsR_cons, tg1_, tgT_1, tgT_2, tgT_4, asgG_u, walkD_t, walkD_l, tupleD_l, tupleD_t, listD_l, listD_t, lenD_t, lenD_l, wipeR_nil, wipeR_cons, Option.bind_some, Option.map_some, List.set_cons_zero, List.set_cons_succ, List.length_cons, List.length_nil, Nat.zero_add, Nat.reduceAdd, Nat.reduceLeDiff, Int.reduceAdd, Int.reduceLE, Int.reduceLT, Int.reduceNeg, Int.reduceSub, Int.reduceMul, Int.reduceEq, Bool.not_true, Bool.not_false, decide_true, decide_false, atI_0, atI_1, atI_2, atI_3, Int.reduceToNat, r1]; rfl) ?_ | refine seq_step (by simp only [gv_0, gv_s, gb_0, gb_s, scr_0, bnd2_ss, consD_, tupD_, lstD_, asgR_s, seqR_nx, seqR_ret, ifR_t, ifR_f, retR_s, retD_s, asB_b, asI_i, addD_ii, subD_ii, modD_ii, gtD_ii, geD_ii, leD_ii, ltD_ii, eqD_ii, eqD_ss, neD_ss, neD_ii, neD_bb, ixD_t, ixD_l, andB_t, andB_f, orB_t, orB_f, notV_b, mixR_, setsR_nil, setsR_cons, tg1_, tgT_1, tgT_2, tgT_4, asgG_u, walkD_t, walkD_l, tupleD_l, tupleD_t, listD_l, listD_t, lenD_t, lenD_l, wipeR_nil, wipeR_cons, Option.bind_some, Option.map_some, List.set_cons_zero, List.set_cons_succ, List.length_cons, List.length_nil, Nat.zero_add, Nat.reduceAdd, Nat.reduceLeDiff, Int.reduceAdd, Int.reduceLE, Int.reduceLT, Int.reduceNeg, Int.reduceSub, Int.reduceMul, Int.reduceEq, Bool.not_true, Bool.not_false, decide_true, decide_false, atI_0, atI_1, atI_2, atI_3, Int.reduceToNat, r1]; rfl) ?_)
    refine nx_step (if_no (by
      simp only [gv_0, gv_s, gb_0, gb_s, scr_0, bnd2_ss, consD_, tupD_, lstD_, asgR_s, seqR_nx, seqR_ret, ifR_t, ifR_f, retR_s, retD_s, asB_b, asI_i, addD_ii, subD_ii, modD_ii, gtD_ii, geD_ii, leD_ii, ltD_ii, eqD_ii, eqD_ss, neD_ss, neD_ii, neD_bb, ixD_t, ixD_l, andB_t, andB_f, orB_t, orB_f, notV_b, mixR_, setsR_nil, setsR_cons, tg1_, tgT_1, tgT_2, tgT_4, asgG_u, walkD_t, walkD_l, tupleD_l, tupleD_t, listD_l, listD_t, lenD_t, lenD_l, wipeR_nil, wipeR_cons, Option.bind_some, Option.map_some, List.set_cons_zero, List.set_cons_succ, List.length_cons, List.length_nil, Nat.zero_add, Nat.reduceAdd, Nat.reduceLeDiff, Int.reduceAdd, Int.reduceLE, Int.reduceLT, Int.reduceNeg, Int.reduceSub, Int.reduceMul, Int.reduceEq, Bool.not_true, Bool.not_false, decide_true, decide_false, atI_0, atI_1, atI_2, atI_3, Int.reduceToNat, oB, r2]
      refine step_of (fun o => o.bind asB) (neD_self (cl_mono (cl_out (good_out gb gl)) (by decide))) rfl) rfl) ?_
    refine nx_fin (if_no (by
      simp only [gv_0, gv_s, gb_0, gb_s, bnd2_ss, consD_, Option.bind_some] at r3 ⊢
      rw [dB, r3, bnd2_ss]
      refine step_of (fun o => o.bind asB) (neD_self (cl_tuple fun x hx => by
        obtain ⟨q, hq, rfl⟩ := List.mem_map.mp hx
        obtain ⟨q', hq', e, _⟩ := names_get (begun_in gb gl q ((sortP_perm _).mem_iff.mp hq)).1
        exact cl_t2 (cl_str 18 (by rw [← e]; exact g.nm q' hq')) (cl_int 18 _))) rfl) rfl) ⟨_, _, _, _, _, _, _, _, rfl⟩) (fun _ _ => rfl)
theorem bookN_sm (x : Int) : (bookN x).Sm := by
  refine ⟨fun p hp => ?_, fun p hp r hr => ?_⟩
  · obtain ⟨h1, dr, h2⟩ := from_mem x _ _ 0 p hp
    rw [h2]; exact rulesN_len _ dr
  · obtain ⟨h1, dr, h2⟩ := from_mem x _ _ 0 p hp
    rw [h2] at hr
    obtain ⟨j, _, rfl⟩ := List.mem_map.mp hr
    exact ruleN_len _ dr j
end K10

namespace K10
open PySem L2 Evl Sv
theorem law_fn {P : Program} {w : World} {K : Fg} {mg : Str → Option Value} {base h : Heap} (X : K.In h) (G : h.Ns mainGlobals mg) (b : BIk K) (d_holds_with : Dn K "holds_with" s_holds_with) (d_holds : Dn K "holds" s_holds) (d_outcome : Dn K "outcome" s_outcome) (d_done_by : Dn K "done_by" s_done_by) (d__law_cell_at : Dn K "_law_cell_at" s__law_cell_at) (d__law_mixed : Dn K "_law_mixed" s__law_mixed) (d__law_drawn : Dn K "_law_drawn" s__law_drawn) (d__law_test : Dn K "_law_test" s__law_test) (d__law_deed : Dn K "_law_deed" s__law_deed) (d__law_book : Dn K "_law_book" s__law_book) (d__law_letter : Dn K "_law_letter" s__law_letter) (d__law_holds : Dn K "_law_holds" s__law_holds) (d__law_run : Dn K "_law_run" s__law_run) (d__law_walk : Dn K "_law_walk" s__law_walk) (d__law_do : Dn K "_law_do" s__law_do) (d__law_told_of : Dn K "_law_told_of" s__law_told_of) (d_law : Dn K "law" s_law) {C_Run : Addr} (cla_Run : Cla K "Run" C_Run ["book", "letter", "marks", "lists", "is_dropped", "is_over", "within", "went", "begun"]) (mk_Run : PySem.W.makesIn K C_Run = true) (kc_Run : PySem.W.keepIn K (.ref C_Run) = true) (md_Run___init__ : MDn K C_Run "__init__" "Run.__init__" s_Run___init__) (md_Run_walk : MDn K C_Run "walk" "Run.walk" s_Run_walk) (md_Run_do : MDn K C_Run "do" "Run.do" s_Run_do) (md_Run_told : MDn K C_Run "told" "Run.told" s_Run_told) {t_MAIN : Tok} (h_MAIN : PySem.W.nsIn K mainGlobals "MAIN" = some (some (.str "main" t_MAIN))) {t_IN : Tok} (h_IN : PySem.W.nsIn K mainGlobals "IN" = some (some (.str "in" t_IN))) {fa : Addr} {fd : FuncData} (F : Fun K "law" "law" s_law fa fd) :
    FnOk P w K mg base CX0 20 fa fd ["script"] (spLaw K) := by
  have B := b.of X G
  have g_MAIN := PySem.W.mg_of X G h_MAIN
  have g_IN := PySem.W.mg_of X G h_IN
  have c1 : CalS P w K mg base 1 "_law_cell_at" ["script", "k"] (Sv.spCell K) := d__law_cell_at.cal X G (fun _ _ _ _ _ _ us hl => match us, hl with | [_, _], _ => rfl) fun f fd F => ok__law_cell_at (k := 0) F B
  have c2 : CalS P w K mg base 2 "_law_mixed" ["script", "k"] (spMix K) := d__law_mixed.cal X G (fun _ _ _ _ _ _ us hl => match us, hl with | [_, _], _ => rfl) fun f fd F => ok__law_mixed (k := 1) F c1
  have c3 : Cal P w K mg base 1 "_law_drawn" ["number", "k"] m_drawn := d__law_drawn.cal X G (fun _ _ _ _ _ _ us hl => match us, hl with | [_, _], _ => rfl) fun f fd F => ok__law_drawn (k := 0) F B
  have c4 : Cal P w K mg base 4 "_law_test" ["number", "deep"] (m_test 3) := d__law_test.recs (k₀ := 1) X G (fun _ _ _ _ _ _ us hl => match us, hl with | [_, _], _ => rfl) (fun f fd j m F hj c => ok__law_test F B c (c3.mono hj)) 3
  have c5b : Cal P w K mg base 1 "_law_deed" ["number", "names"] m_deed := d__law_deed.cal X G (fun _ _ _ _ _ _ us hl => match us, hl with | [_, _], _ => rfl) fun f fd F => ok__law_deed (k := 0) F B
  have c5c : Cal P w K mg base 5 "_law_book" ["number"] (m_book 3) := d__law_book.cal X G (fun _ _ _ _ _ _ us hl => match us, hl with | [_], _ => rfl) fun f fd F => ok__law_book (k := 4) F B (c3.mono (by decide)) (c5b.mono (by decide)) c4
  have c5 : Cal P w K mg base 1 "_law_letter" ["number"] m_letter := d__law_letter.cal X G (fun _ _ _ _ _ _ us hl => match us, hl with | [_], _ => rfl) fun f fd F => ok__law_letter (k := 0) F B
  have c6 : ∀ n, Cal P w K mg base (0 + n) "holds_with" ["test", "letter", "marks"] (m_hw n) := fun n => d_holds_with.recs (k₀ := 0) X G (fun _ _ _ _ _ _ us hl => match us, hl with | [_, _, _], _ => rfl) (fun f fd j m F hj c => ok_holds_with F B c) n
  have cw := walk_cal (N := 3) B cla_Run md_Run_walk md_Run_do (P := P) (w := w) (base := base) (c6 4) 6
  have cR : CalC P w K mg base 17 C_Run "Run" ["self", "book", "letter"] (spX K 0 (m_Run 3 6)) := md_Run___init__.calC X G cla_Run.at_ mk_Run kc_Run (fun _ _ _ _ _ _ us hl => match us, hl with | [_, _, _], _ => rfl) fun f fd F => ok_Run___init__ (k := 16) F B cla_Run cw g_MAIN g_IN
  have ct : CalM P w K mg base 1 C_Run "told" ["self"] (spD K m_told) := md_Run_told.cal (fun _ _ _ _ _ _ us hl => match us, hl with | [_], _ => rfl) fun f fd F => ok_Run_told (k := 0) F B cla_Run
  have co : Cal P w K mg base 19 "outcome" ["book", "letter"] (m_out 3 6) := d_outcome.cal X G (fun _ _ _ _ _ _ us hl => match us, hl with | [_, _], _ => rfl) fun f fd F => ok_outcome (k := 17) F B cla_Run cR (ct.mono (by decide))
  have cd : Cal P w K mg base 19 "done_by" ["book", "letter"] (m_done 3 6) := d_done_by.cal X G (fun _ _ _ _ _ _ us hl => match us, hl with | [_, _], _ => rfl) fun f fd F => ok_done_by (k := 17) F B cla_Run cR
  have ch : Cal P w K mg base 5 "holds" ["test", "letter"] (m_holds 4) := d_holds.cal X G (fun _ _ _ _ _ _ us hl => match us, hl with | [_, _], _ => rfl) fun f fd F => ok_holds (k := 4) F B (c6 4)
  have clh : ∀ n, Cal P w K mg base (0 + n) "_law_holds" ["test", "letter", "marks"] (m_lh n) := fun n => d__law_holds.recs (k₀ := 0) X G (fun _ _ _ _ _ _ us hl => match us, hl with | [_, _, _], _ => rfl) (fun f fd j m F hj c => ok__law_holds F B c) n
  have clw := lwalk_cal (N := 3) (P := P) (w := w) (base := base) X G B d__law_walk d__law_do (clh 4) 6
  have clr : Cal P w K mg base 17 "_law_run" ["book", "letter"] (m_lrun 3 6) := d__law_run.cal X G (fun _ _ _ _ _ _ us hl => match us, hl with | [_, _], _ => rfl) fun f fd F => ok__law_run (k := 16) F B clw
  have clt : Cal P w K mg base 1 "_law_told_of" ["state"] m_ltold := d__law_told_of.cal X G (fun _ _ _ _ _ _ us hl => match us, hl with | [_], _ => rfl) fun f fd F => ok__law_told_of (k := 0) F B
  exact ok_law (k := 19) F B (c2.mono (by decide)) (c5c.mono (by decide)) (c5.mono (by decide)) (ch.mono (by decide)) ((clh 4).mono (by decide)) (clr.mono (by decide)) co (clt.mono (by decide)) cd fun ns _ => law_true ns bookN_sm
theorem all_mk {P : Program} {w : World} {K : Fg} {mg : Str → Option Value} {h : Heap} (X : K.In h) (G : h.Ns mainGlobals mg) {f_holds_with : Addr} {od_holds_with an_holds_with : Option Addr} {sl_holds_with : Array (Option Value)} {oc_holds_with kV_holds_with dc_holds_with pm_holds_with cd_holds_with ct_holds_with : Value} {f_holds : Addr} {od_holds an_holds : Option Addr} {sl_holds : Array (Option Value)} {oc_holds kV_holds dc_holds pm_holds cd_holds ct_holds : Value} {f_outcome : Addr} {od_outcome an_outcome : Option Addr} {sl_outcome : Array (Option Value)} {oc_outcome kV_outcome dc_outcome pm_outcome cd_outcome ct_outcome : Value} {f_done_by : Addr} {od_done_by an_done_by : Option Addr} {sl_done_by : Array (Option Value)} {oc_done_by kV_done_by dc_done_by pm_done_by cd_done_by ct_done_by : Value} {f__law_cell_at : Addr} {od__law_cell_at an__law_cell_at : Option Addr} {sl__law_cell_at : Array (Option Value)} {oc__law_cell_at kV__law_cell_at dc__law_cell_at pm__law_cell_at cd__law_cell_at ct__law_cell_at : Value} {f__law_mixed : Addr} {od__law_mixed an__law_mixed : Option Addr} {sl__law_mixed : Array (Option Value)} {oc__law_mixed kV__law_mixed dc__law_mixed pm__law_mixed cd__law_mixed ct__law_mixed : Value} {f__law_drawn : Addr} {od__law_drawn an__law_drawn : Option Addr} {sl__law_drawn : Array (Option Value)} {oc__law_drawn kV__law_drawn dc__law_drawn pm__law_drawn cd__law_drawn ct__law_drawn : Value} {f__law_test : Addr} {od__law_test an__law_test : Option Addr} {sl__law_test : Array (Option Value)} {oc__law_test kV__law_test dc__law_test pm__law_test cd__law_test ct__law_test : Value} {f__law_deed : Addr} {od__law_deed an__law_deed : Option Addr} {sl__law_deed : Array (Option Value)} {oc__law_deed kV__law_deed dc__law_deed pm__law_deed cd__law_deed ct__law_deed : Value} {f__law_book : Addr} {od__law_book an__law_book : Option Addr} {sl__law_book : Array (Option Value)} {oc__law_book kV__law_book dc__law_book pm__law_book cd__law_book ct__law_book : Value} {f__law_letter : Addr} {od__law_letter an__law_letter : Option Addr} {sl__law_letter : Array (Option Value)} {oc__law_letter kV__law_letter dc__law_letter pm__law_letter cd__law_letter ct__law_letter : Value} {f__law_holds : Addr} {od__law_holds an__law_holds : Option Addr} {sl__law_holds : Array (Option Value)} {oc__law_holds kV__law_holds dc__law_holds pm__law_holds cd__law_holds ct__law_holds : Value} {f__law_run : Addr} {od__law_run an__law_run : Option Addr} {sl__law_run : Array (Option Value)} {oc__law_run kV__law_run dc__law_run pm__law_run cd__law_run ct__law_run : Value} {f__law_walk : Addr} {od__law_walk an__law_walk : Option Addr} {sl__law_walk : Array (Option Value)} {oc__law_walk kV__law_walk dc__law_walk pm__law_walk cd__law_walk ct__law_walk : Value} {f__law_do : Addr} {od__law_do an__law_do : Option Addr} {sl__law_do : Array (Option Value)} {oc__law_do kV__law_do dc__law_do pm__law_do cd__law_do ct__law_do : Value} {f__law_told_of : Addr} {od__law_told_of an__law_told_of : Option Addr} {sl__law_told_of : Array (Option Value)} {oc__law_told_of kV__law_told_of dc__law_told_of pm__law_told_of cd__law_told_of ct__law_told_of : Value} {f_law : Addr} {od_law an_law : Option Addr} {sl_law : Array (Option Value)} {oc_law kV_law dc_law pm_law cd_law ct_law : Value} {C_Run : Addr} {f_Run___init__ : Addr} {od_Run___init__ an_Run___init__ : Option Addr} {sl_Run___init__ : Array (Option Value)} {oc_Run___init__ kV_Run___init__ dc_Run___init__ pm_Run___init__ cd_Run___init__ ct_Run___init__ : Value} {f_Run_walk : Addr} {od_Run_walk an_Run_walk : Option Addr} {sl_Run_walk : Array (Option Value)} {oc_Run_walk kV_Run_walk dc_Run_walk pm_Run_walk cd_Run_walk ct_Run_walk : Value} {f_Run_do : Addr} {od_Run_do an_Run_do : Option Addr} {sl_Run_do : Array (Option Value)} {oc_Run_do kV_Run_do dc_Run_do pm_Run_do cd_Run_do ct_Run_do : Value} {f_Run_told : Addr} {od_Run_told an_Run_told : Option Addr} {sl_Run_told : Array (Option Value)} {oc_Run_told kV_Run_told dc_Run_told pm_Run_told cd_Run_told ct_Run_told : Value} {t_MAIN : Tok} {t_IN : Tok}
    (a_holds_with : PySem.W.nsIn K mainGlobals "holds_with" = some (some (.ref f_holds_with))) (l_holds_with : K.lookup f_holds_with = some ⟨oc_holds_with, od_holds_with, .func (PySem.W.fnOf "holds_with" "holds_with" (defArgs s_holds_with) (defBody s_holds_with) (defScope s_holds_with) .none kV_holds_with dc_holds_with pm_holds_with an_holds_with cd_holds_with ct_holds_with), sl_holds_with⟩) (c_holds_with : PySem.W.codeIn K cd_holds_with "holds_with" = true) (k_holds_with : PySem.W.keepIn K (.ref f_holds_with) = true)
    (a_holds : PySem.W.nsIn K mainGlobals "holds" = some (some (.ref f_holds))) (l_holds : K.lookup f_holds = some ⟨oc_holds, od_holds, .func (PySem.W.fnOf "holds" "holds" (defArgs s_holds) (defBody s_holds) (defScope s_holds) .none kV_holds dc_holds pm_holds an_holds cd_holds ct_holds), sl_holds⟩) (c_holds : PySem.W.codeIn K cd_holds "holds" = true) (k_holds : PySem.W.keepIn K (.ref f_holds) = true)
    (a_outcome : PySem.W.nsIn K mainGlobals "outcome" = some (some (.ref f_outcome))) (l_outcome : K.lookup f_outcome = some ⟨oc_outcome, od_outcome, .func (PySem.W.fnOf "outcome" "outcome" (defArgs s_outcome) (defBody s_outcome) (defScope s_outcome) .none kV_outcome dc_outcome pm_outcome an_outcome cd_outcome ct_outcome), sl_outcome⟩) (c_outcome : PySem.W.codeIn K cd_outcome "outcome" = true) (k_outcome : PySem.W.keepIn K (.ref f_outcome) = true)
    (a_done_by : PySem.W.nsIn K mainGlobals "done_by" = some (some (.ref f_done_by))) (l_done_by : K.lookup f_done_by = some ⟨oc_done_by, od_done_by, .func (PySem.W.fnOf "done_by" "done_by" (defArgs s_done_by) (defBody s_done_by) (defScope s_done_by) .none kV_done_by dc_done_by pm_done_by an_done_by cd_done_by ct_done_by), sl_done_by⟩) (c_done_by : PySem.W.codeIn K cd_done_by "done_by" = true) (k_done_by : PySem.W.keepIn K (.ref f_done_by) = true)
    (a__law_cell_at : PySem.W.nsIn K mainGlobals "_law_cell_at" = some (some (.ref f__law_cell_at))) (l__law_cell_at : K.lookup f__law_cell_at = some ⟨oc__law_cell_at, od__law_cell_at, .func (PySem.W.fnOf "_law_cell_at" "_law_cell_at" (defArgs s__law_cell_at) (defBody s__law_cell_at) (defScope s__law_cell_at) .none kV__law_cell_at dc__law_cell_at pm__law_cell_at an__law_cell_at cd__law_cell_at ct__law_cell_at), sl__law_cell_at⟩) (c__law_cell_at : PySem.W.codeIn K cd__law_cell_at "_law_cell_at" = true) (k__law_cell_at : PySem.W.keepIn K (.ref f__law_cell_at) = true)
    (a__law_mixed : PySem.W.nsIn K mainGlobals "_law_mixed" = some (some (.ref f__law_mixed))) (l__law_mixed : K.lookup f__law_mixed = some ⟨oc__law_mixed, od__law_mixed, .func (PySem.W.fnOf "_law_mixed" "_law_mixed" (defArgs s__law_mixed) (defBody s__law_mixed) (defScope s__law_mixed) .none kV__law_mixed dc__law_mixed pm__law_mixed an__law_mixed cd__law_mixed ct__law_mixed), sl__law_mixed⟩) (c__law_mixed : PySem.W.codeIn K cd__law_mixed "_law_mixed" = true) (k__law_mixed : PySem.W.keepIn K (.ref f__law_mixed) = true)
    (a__law_drawn : PySem.W.nsIn K mainGlobals "_law_drawn" = some (some (.ref f__law_drawn))) (l__law_drawn : K.lookup f__law_drawn = some ⟨oc__law_drawn, od__law_drawn, .func (PySem.W.fnOf "_law_drawn" "_law_drawn" (defArgs s__law_drawn) (defBody s__law_drawn) (defScope s__law_drawn) .none kV__law_drawn dc__law_drawn pm__law_drawn an__law_drawn cd__law_drawn ct__law_drawn), sl__law_drawn⟩) (c__law_drawn : PySem.W.codeIn K cd__law_drawn "_law_drawn" = true) (k__law_drawn : PySem.W.keepIn K (.ref f__law_drawn) = true)
    (a__law_test : PySem.W.nsIn K mainGlobals "_law_test" = some (some (.ref f__law_test))) (l__law_test : K.lookup f__law_test = some ⟨oc__law_test, od__law_test, .func (PySem.W.fnOf "_law_test" "_law_test" (defArgs s__law_test) (defBody s__law_test) (defScope s__law_test) .none kV__law_test dc__law_test pm__law_test an__law_test cd__law_test ct__law_test), sl__law_test⟩) (c__law_test : PySem.W.codeIn K cd__law_test "_law_test" = true) (k__law_test : PySem.W.keepIn K (.ref f__law_test) = true)
    (a__law_deed : PySem.W.nsIn K mainGlobals "_law_deed" = some (some (.ref f__law_deed))) (l__law_deed : K.lookup f__law_deed = some ⟨oc__law_deed, od__law_deed, .func (PySem.W.fnOf "_law_deed" "_law_deed" (defArgs s__law_deed) (defBody s__law_deed) (defScope s__law_deed) .none kV__law_deed dc__law_deed pm__law_deed an__law_deed cd__law_deed ct__law_deed), sl__law_deed⟩) (c__law_deed : PySem.W.codeIn K cd__law_deed "_law_deed" = true) (k__law_deed : PySem.W.keepIn K (.ref f__law_deed) = true)
    (a__law_book : PySem.W.nsIn K mainGlobals "_law_book" = some (some (.ref f__law_book))) (l__law_book : K.lookup f__law_book = some ⟨oc__law_book, od__law_book, .func (PySem.W.fnOf "_law_book" "_law_book" (defArgs s__law_book) (defBody s__law_book) (defScope s__law_book) .none kV__law_book dc__law_book pm__law_book an__law_book cd__law_book ct__law_book), sl__law_book⟩) (c__law_book : PySem.W.codeIn K cd__law_book "_law_book" = true) (k__law_book : PySem.W.keepIn K (.ref f__law_book) = true)
    (a__law_letter : PySem.W.nsIn K mainGlobals "_law_letter" = some (some (.ref f__law_letter))) (l__law_letter : K.lookup f__law_letter = some ⟨oc__law_letter, od__law_letter, .func (PySem.W.fnOf "_law_letter" "_law_letter" (defArgs s__law_letter) (defBody s__law_letter) (defScope s__law_letter) .none kV__law_letter dc__law_letter pm__law_letter an__law_letter cd__law_letter ct__law_letter), sl__law_letter⟩) (c__law_letter : PySem.W.codeIn K cd__law_letter "_law_letter" = true) (k__law_letter : PySem.W.keepIn K (.ref f__law_letter) = true)
    (a__law_holds : PySem.W.nsIn K mainGlobals "_law_holds" = some (some (.ref f__law_holds))) (l__law_holds : K.lookup f__law_holds = some ⟨oc__law_holds, od__law_holds, .func (PySem.W.fnOf "_law_holds" "_law_holds" (defArgs s__law_holds) (defBody s__law_holds) (defScope s__law_holds) .none kV__law_holds dc__law_holds pm__law_holds an__law_holds cd__law_holds ct__law_holds), sl__law_holds⟩) (c__law_holds : PySem.W.codeIn K cd__law_holds "_law_holds" = true) (k__law_holds : PySem.W.keepIn K (.ref f__law_holds) = true)
    (a__law_run : PySem.W.nsIn K mainGlobals "_law_run" = some (some (.ref f__law_run))) (l__law_run : K.lookup f__law_run = some ⟨oc__law_run, od__law_run, .func (PySem.W.fnOf "_law_run" "_law_run" (defArgs s__law_run) (defBody s__law_run) (defScope s__law_run) .none kV__law_run dc__law_run pm__law_run an__law_run cd__law_run ct__law_run), sl__law_run⟩) (c__law_run : PySem.W.codeIn K cd__law_run "_law_run" = true) (k__law_run : PySem.W.keepIn K (.ref f__law_run) = true)
    (a__law_walk : PySem.W.nsIn K mainGlobals "_law_walk" = some (some (.ref f__law_walk))) (l__law_walk : K.lookup f__law_walk = some ⟨oc__law_walk, od__law_walk, .func (PySem.W.fnOf "_law_walk" "_law_walk" (defArgs s__law_walk) (defBody s__law_walk) (defScope s__law_walk) .none kV__law_walk dc__law_walk pm__law_walk an__law_walk cd__law_walk ct__law_walk), sl__law_walk⟩) (c__law_walk : PySem.W.codeIn K cd__law_walk "_law_walk" = true) (k__law_walk : PySem.W.keepIn K (.ref f__law_walk) = true)
    (a__law_do : PySem.W.nsIn K mainGlobals "_law_do" = some (some (.ref f__law_do))) (l__law_do : K.lookup f__law_do = some ⟨oc__law_do, od__law_do, .func (PySem.W.fnOf "_law_do" "_law_do" (defArgs s__law_do) (defBody s__law_do) (defScope s__law_do) .none kV__law_do dc__law_do pm__law_do an__law_do cd__law_do ct__law_do), sl__law_do⟩) (c__law_do : PySem.W.codeIn K cd__law_do "_law_do" = true) (k__law_do : PySem.W.keepIn K (.ref f__law_do) = true)
    (a__law_told_of : PySem.W.nsIn K mainGlobals "_law_told_of" = some (some (.ref f__law_told_of))) (l__law_told_of : K.lookup f__law_told_of = some ⟨oc__law_told_of, od__law_told_of, .func (PySem.W.fnOf "_law_told_of" "_law_told_of" (defArgs s__law_told_of) (defBody s__law_told_of) (defScope s__law_told_of) .none kV__law_told_of dc__law_told_of pm__law_told_of an__law_told_of cd__law_told_of ct__law_told_of), sl__law_told_of⟩) (c__law_told_of : PySem.W.codeIn K cd__law_told_of "_law_told_of" = true) (k__law_told_of : PySem.W.keepIn K (.ref f__law_told_of) = true)
    (a_law : PySem.W.nsIn K mainGlobals "law" = some (some (.ref f_law))) (l_law : K.lookup f_law = some ⟨oc_law, od_law, .func (PySem.W.fnOf "law" "law" (defArgs s_law) (defBody s_law) (defScope s_law) .none kV_law dc_law pm_law an_law cd_law ct_law), sl_law⟩) (c_law : PySem.W.codeIn K cd_law "law" = true) (k_law : PySem.W.keepIn K (.ref f_law) = true)
    (aC_Run : PySem.W.nsIn K mainGlobals "Run" = some (some (.ref C_Run))) (pg_Run : PySem.W.plainGet K C_Run Str.empty = true) (hd_Run : PySem.W.hasDictIn K C_Run = true) (po_Run : PySem.W.plainOver K C_Run = true) (sa_Run : PySem.W.findIn K (.ref C_Run) "__setattr__" = some (some (.builtin "object.__setattr__"))) (mk_Run : PySem.W.makesIn K C_Run = true) (kc_Run : PySem.W.keepIn K (.ref C_Run) = true)
    (n_Run_book : PySem.W.findIn K (.ref C_Run) "book" = some none)
    (n_Run_letter : PySem.W.findIn K (.ref C_Run) "letter" = some none)
    (n_Run_marks : PySem.W.findIn K (.ref C_Run) "marks" = some none)
    (n_Run_lists : PySem.W.findIn K (.ref C_Run) "lists" = some none)
    (n_Run_is_dropped : PySem.W.findIn K (.ref C_Run) "is_dropped" = some none)
    (n_Run_is_over : PySem.W.findIn K (.ref C_Run) "is_over" = some none)
    (n_Run_within : PySem.W.findIn K (.ref C_Run) "within" = some none)
    (n_Run_went : PySem.W.findIn K (.ref C_Run) "went" = some none)
    (n_Run_begun : PySem.W.findIn K (.ref C_Run) "begun" = some none)
    (a_Run___init__ : PySem.W.findIn K (.ref C_Run) "__init__" = some (some (.ref f_Run___init__))) (i_Run___init__ : PySem.W.isFn K (.ref f_Run___init__) = true) (l_Run___init__ : K.lookup f_Run___init__ = some ⟨oc_Run___init__, od_Run___init__, .func (PySem.W.fnOf "__init__" "Run.__init__" (defArgs s_Run___init__) (defBody s_Run___init__) (defScope s_Run___init__) .none kV_Run___init__ dc_Run___init__ pm_Run___init__ an_Run___init__ cd_Run___init__ ct_Run___init__), sl_Run___init__⟩) (c_Run___init__ : PySem.W.codeIn K cd_Run___init__ "Run.__init__" = true) (k_Run___init__ : PySem.W.keepIn K (.ref f_Run___init__) = true)
    (a_Run_walk : PySem.W.findIn K (.ref C_Run) "walk" = some (some (.ref f_Run_walk))) (i_Run_walk : PySem.W.isFn K (.ref f_Run_walk) = true) (l_Run_walk : K.lookup f_Run_walk = some ⟨oc_Run_walk, od_Run_walk, .func (PySem.W.fnOf "walk" "Run.walk" (defArgs s_Run_walk) (defBody s_Run_walk) (defScope s_Run_walk) .none kV_Run_walk dc_Run_walk pm_Run_walk an_Run_walk cd_Run_walk ct_Run_walk), sl_Run_walk⟩) (c_Run_walk : PySem.W.codeIn K cd_Run_walk "Run.walk" = true) (k_Run_walk : PySem.W.keepIn K (.ref f_Run_walk) = true)
    (a_Run_do : PySem.W.findIn K (.ref C_Run) "do" = some (some (.ref f_Run_do))) (i_Run_do : PySem.W.isFn K (.ref f_Run_do) = true) (l_Run_do : K.lookup f_Run_do = some ⟨oc_Run_do, od_Run_do, .func (PySem.W.fnOf "do" "Run.do" (defArgs s_Run_do) (defBody s_Run_do) (defScope s_Run_do) .none kV_Run_do dc_Run_do pm_Run_do an_Run_do cd_Run_do ct_Run_do), sl_Run_do⟩) (c_Run_do : PySem.W.codeIn K cd_Run_do "Run.do" = true) (k_Run_do : PySem.W.keepIn K (.ref f_Run_do) = true)
    (a_Run_told : PySem.W.findIn K (.ref C_Run) "told" = some (some (.ref f_Run_told))) (i_Run_told : PySem.W.isFn K (.ref f_Run_told) = true) (l_Run_told : K.lookup f_Run_told = some ⟨oc_Run_told, od_Run_told, .func (PySem.W.fnOf "told" "Run.told" (defArgs s_Run_told) (defBody s_Run_told) (defScope s_Run_told) .none kV_Run_told dc_Run_told pm_Run_told an_Run_told cd_Run_told ct_Run_told), sl_Run_told⟩) (c_Run_told : PySem.W.codeIn K cd_Run_told "Run.told" = true) (k_Run_told : PySem.W.keepIn K (.ref f_Run_told) = true)
    (h_MAIN : PySem.W.nsIn K mainGlobals "MAIN" = some (some (.str "main" t_MAIN)))
    (h_IN : PySem.W.nsIn K mainGlobals "IN" = some (some (.str "in" t_IN)))
    (z_all : PySem.W.nsIn K mainGlobals "all" = some none)
    (z_any : PySem.W.nsIn K mainGlobals "any" = some none)
    (z_bool : PySem.W.nsIn K mainGlobals "bool" = some none)
    (z_dict : PySem.W.nsIn K mainGlobals "dict" = some none)
    (z_enumerate : PySem.W.nsIn K mainGlobals "enumerate" = some none)
    (z_int : PySem.W.nsIn K mainGlobals "int" = some none)
    (z_isinstance : PySem.W.nsIn K mainGlobals "isinstance" = some none)
    (z_len : PySem.W.nsIn K mainGlobals "len" = some none)
    (z_list : PySem.W.nsIn K mainGlobals "list" = some none)
    (z_max : PySem.W.nsIn K mainGlobals "max" = some none)
    (z_min : PySem.W.nsIn K mainGlobals "min" = some none)
    (z_range : PySem.W.nsIn K mainGlobals "range" = some none)
    (z_repr : PySem.W.nsIn K mainGlobals "repr" = some none)
    (z_set : PySem.W.nsIn K mainGlobals "set" = some none)
    (z_sorted : PySem.W.nsIn K mainGlobals "sorted" = some none)
    (z_str : PySem.W.nsIn K mainGlobals "str" = some none)
    (z_sum : PySem.W.nsIn K mainGlobals "sum" = some none)
    (z_tuple : PySem.W.nsIn K mainGlobals "tuple" = some none)
    (z_zip : PySem.W.nsIn K mainGlobals "zip" = some none) :
    Dn K "law" s_law ∧ ∀ (fa : Addr) (fd : FuncData), Fun K "law" "law" s_law fa fd → ∀ base : Heap, FnOk P w K mg base CX0 20 fa fd ["script"] (spLaw K) :=
  ⟨dn_mk a_law l_law c_law k_law, fun fa fd F base => law_fn X G ⟨z_all, z_any, z_bool, z_dict, z_enumerate, z_int, z_isinstance, z_len, z_list, z_max, z_min, z_range, z_repr, z_set, z_sorted, z_str, z_sum, z_tuple, z_zip⟩ (dn_mk a_holds_with l_holds_with c_holds_with k_holds_with) (dn_mk a_holds l_holds c_holds k_holds) (dn_mk a_outcome l_outcome c_outcome k_outcome) (dn_mk a_done_by l_done_by c_done_by k_done_by) (dn_mk a__law_cell_at l__law_cell_at c__law_cell_at k__law_cell_at) (dn_mk a__law_mixed l__law_mixed c__law_mixed k__law_mixed) (dn_mk a__law_drawn l__law_drawn c__law_drawn k__law_drawn) (dn_mk a__law_test l__law_test c__law_test k__law_test) (dn_mk a__law_deed l__law_deed c__law_deed k__law_deed) (dn_mk a__law_book l__law_book c__law_book k__law_book) (dn_mk a__law_letter l__law_letter c__law_letter k__law_letter) (dn_mk a__law_holds l__law_holds c__law_holds k__law_holds) (dn_mk a__law_run l__law_run c__law_run k__law_run) (dn_mk a__law_walk l__law_walk c__law_walk k__law_walk) (dn_mk a__law_do l__law_do c__law_do k__law_do) (dn_mk a__law_told_of l__law_told_of c__law_told_of k__law_told_of) (dn_mk a_law l_law c_law k_law) ⟨aC_Run, ⟨pg_Run, hd_Run, po_Run, sa_Run⟩, no_cons n_Run_book (no_cons n_Run_letter (no_cons n_Run_marks (no_cons n_Run_lists (no_cons n_Run_is_dropped (no_cons n_Run_is_over (no_cons n_Run_within (no_cons n_Run_went (no_cons n_Run_begun (fun f hf => nomatch hf)))))))))⟩ mk_Run kc_Run (mdn_mk a_Run___init__ i_Run___init__ l_Run___init__ c_Run___init__ k_Run___init__) (mdn_mk a_Run_walk i_Run_walk l_Run_walk c_Run_walk k_Run_walk) (mdn_mk a_Run_do i_Run_do l_Run_do c_Run_do k_Run_do) (mdn_mk a_Run_told i_Run_told l_Run_told c_Run_told k_Run_told) h_MAIN h_IN F⟩
end K10

open PySem PySem.W PyProof.Rows in
set_option maxRecDepth 100000 in
set_option maxHeartbeats 0 in
theorem PySem.Challenge.cw_sieverules_k10_outcomes_holds : PySem.Challenge.rw_sieverules_k10_outcomes.Holds := by
  w_on; o_law; k_head; (case hw => w_witness2)
  k_fill
  refine Sv.walk_law (l := PySem.Challenge.rw_sieverules_k10_outcomes) (st := K10.s_law) (k := 20) rfl rfl ⟨rfl, by decide, by decide⟩ (fun w h Y => PySem.W.kIn_of Y) rfl (fun _ _ _ _ _ _ _ _ => .of_eq rfl) ?F
  case F =>
    intro w mg h KX G
    refine' K10.all_mk KX G ?a_holds_with ?l_holds_with ?c_holds_with ?k_holds_with ?a_holds ?l_holds ?c_holds ?k_holds ?a_outcome ?l_outcome ?c_outcome ?k_outcome ?a_done_by ?l_done_by ?c_done_by ?k_done_by ?a__law_cell_at ?l__law_cell_at ?c__law_cell_at ?k__law_cell_at ?a__law_mixed ?l__law_mixed ?c__law_mixed ?k__law_mixed ?a__law_drawn ?l__law_drawn ?c__law_drawn ?k__law_drawn ?a__law_test ?l__law_test ?c__law_test ?k__law_test ?a__law_deed ?l__law_deed ?c__law_deed ?k__law_deed ?a__law_book ?l__law_book ?c__law_book ?k__law_book ?a__law_letter ?l__law_letter ?c__law_letter ?k__law_letter ?a__law_holds ?l__law_holds ?c__law_holds ?k__law_holds ?a__law_run ?l__law_run ?c__law_run ?k__law_run ?a__law_walk ?l__law_walk ?c__law_walk ?k__law_walk ?a__law_do ?l__law_do ?c__law_do ?k__law_do ?a__law_told_of ?l__law_told_of ?c__law_told_of ?k__law_told_of ?a_law ?l_law ?c_law ?k_law ?aC_Run ?pg_Run ?hd_Run ?po_Run ?sa_Run ?mk_Run ?kc_Run ?n_Run_book ?n_Run_letter ?n_Run_marks ?n_Run_lists ?n_Run_is_dropped ?n_Run_is_over ?n_Run_within ?n_Run_went ?n_Run_begun ?a_Run___init__ ?i_Run___init__ ?l_Run___init__ ?c_Run___init__ ?k_Run___init__ ?a_Run_walk ?i_Run_walk ?l_Run_walk ?c_Run_walk ?k_Run_walk ?a_Run_do ?i_Run_do ?l_Run_do ?c_Run_do ?k_Run_do ?a_Run_told ?i_Run_told ?l_Run_told ?c_Run_told ?k_Run_told ?h_MAIN ?h_IN ?z_all ?z_any ?z_bool ?z_dict ?z_enumerate ?z_int ?z_isinstance ?z_len ?z_list ?z_max ?z_min ?z_range ?z_repr ?z_set ?z_sorted ?z_str ?z_sum ?z_tuple ?z_zip
    (case a_holds_with => k_is)
    (case l_holds_with => k_is)
    (case c_holds_with => k_is)
    (case k_holds_with => k_is)
    (case a_holds => k_is)
    (case l_holds => k_is)
    (case c_holds => k_is)
    (case k_holds => k_is)
    (case a_outcome => k_is)
    (case l_outcome => k_is)
    (case c_outcome => k_is)
    (case k_outcome => k_is)
    (case a_done_by => k_is)
    (case l_done_by => k_is)
    (case c_done_by => k_is)
    (case k_done_by => k_is)
    (case a__law_cell_at => k_is)
    (case l__law_cell_at => k_is)
    (case c__law_cell_at => k_is)
    (case k__law_cell_at => k_is)
    (case a__law_mixed => k_is)
    (case l__law_mixed => k_is)
    (case c__law_mixed => k_is)
    (case k__law_mixed => k_is)
    (case a__law_drawn => k_is)
    (case l__law_drawn => k_is)
    (case c__law_drawn => k_is)
    (case k__law_drawn => k_is)
    (case a__law_test => k_is)
    (case l__law_test => k_is)
    (case c__law_test => k_is)
    (case k__law_test => k_is)
    (case a__law_deed => k_is)
    (case l__law_deed => k_is)
    (case c__law_deed => k_is)
    (case k__law_deed => k_is)
    (case a__law_book => k_is)
    (case l__law_book => k_is)
    (case c__law_book => k_is)
    (case k__law_book => k_is)
    (case a__law_letter => k_is)
    (case l__law_letter => k_is)
    (case c__law_letter => k_is)
    (case k__law_letter => k_is)
    (case a__law_holds => k_is)
    (case l__law_holds => k_is)
    (case c__law_holds => k_is)
    (case k__law_holds => k_is)
    (case a__law_run => k_is)
    (case l__law_run => k_is)
    (case c__law_run => k_is)
    (case k__law_run => k_is)
    (case a__law_walk => k_is)
    (case l__law_walk => k_is)
    (case c__law_walk => k_is)
    (case k__law_walk => k_is)
    (case a__law_do => k_is)
    (case l__law_do => k_is)
    (case c__law_do => k_is)
    (case k__law_do => k_is)
    (case a__law_told_of => k_is)
    (case l__law_told_of => k_is)
    (case c__law_told_of => k_is)
    (case k__law_told_of => k_is)
    (case a_law => k_is)
    (case l_law => k_is)
    (case c_law => k_is)
    (case k_law => k_is)
    (case aC_Run => k_is)
    (case pg_Run => k_is)
    (case hd_Run => k_is)
    (case po_Run => k_is)
    (case sa_Run => k_is)
    (case mk_Run => k_is)
    (case kc_Run => k_is)
    (case n_Run_book => k_is)
    (case n_Run_letter => k_is)
    (case n_Run_marks => k_is)
    (case n_Run_lists => k_is)
    (case n_Run_is_dropped => k_is)
    (case n_Run_is_over => k_is)
    (case n_Run_within => k_is)
    (case n_Run_went => k_is)
    (case n_Run_begun => k_is)
    (case a_Run___init__ => k_is)
    (case i_Run___init__ => k_is)
    (case l_Run___init__ => k_is)
    (case c_Run___init__ => k_is)
    (case k_Run___init__ => k_is)
    (case a_Run_walk => k_is)
    (case i_Run_walk => k_is)
    (case l_Run_walk => k_is)
    (case c_Run_walk => k_is)
    (case k_Run_walk => k_is)
    (case a_Run_do => k_is)
    (case i_Run_do => k_is)
    (case l_Run_do => k_is)
    (case c_Run_do => k_is)
    (case k_Run_do => k_is)
    (case a_Run_told => k_is)
    (case i_Run_told => k_is)
    (case l_Run_told => k_is)
    (case c_Run_told => k_is)
    (case k_Run_told => k_is)
    (case h_MAIN => k_is)
    (case h_IN => k_is)
    (case z_all => k_is)
    (case z_any => k_is)
    (case z_bool => k_is)
    (case z_dict => k_is)
    (case z_enumerate => k_is)
    (case z_int => k_is)
    (case z_isinstance => k_is)
    (case z_len => k_is)
    (case z_list => k_is)
    (case z_max => k_is)
    (case z_min => k_is)
    (case z_range => k_is)
    (case z_repr => k_is)
    (case z_set => k_is)
    (case z_sorted => k_is)
    (case z_str => k_is)
    (case z_sum => k_is)
    (case z_tuple => k_is)
    (case z_zip => k_is)
