import PyProof.Rows.All
import Wide.All
import OpenK.AllK
import Wide.FinOn
import HandS.ForMost
import HandS.Walk
import HandS.Evl
import HandS.TupAny
import KE.KDictPairs
import HandS.Lambda
import HandS.TupMul
import HandS.TupLe
import HandS.Deep
import HandS.IsInst
import KE.GoesMore
import HandS.Conv
import HandS.More
import KE.SortData
import HandS.RaiseMore
import HandS.SetFor
import HandS.SetKeys
import HandS.Style
import PyProof.SumAny
import HandS.TryOnly
import HandS.Zip
import HandS.Text
import HandS.TupSets
import HandS.Replace
import PyProof.TupleOfSeq
import KE.LtData
import HandS.Nested
import HandS.EndTab
import HandS.WordsExc
import HandS.ExcOwn
import HandS.Codes
import PySem.Challenge.RW_sieverules_k09_lists_anywhere
set_option Elab.async false
set_option linter.all false
set_option maxRecDepth 100000
set_option maxHeartbeats 4000000
namespace Sv
open PySem L2 Evl PyProof.Rows
def ptup (its : List Value) : Obj := { cls := .type "tuple", data := .seq its.toArray }
/-- a new tuple -/
abbrev NewT (H : Hp) (xs : List V) (Q : VK) : Prop := ∀ p o, Obj.dict o = none → H p = none → Q (.ref p) (upd H p (.frz o (.tup xs)))
section
variable {X : Cx}
theorem lay_tup {pins : List (Addr × Obj)} {σ : L2.St} {H : Hp} {s : Shared} {xs : List V} {its : List Value} {Q : VK} {h' : Heap} {tk : Nat} (I : L2.Inv X pins σ H s) (k : ∀ b u, s.heap.get? b = some u → h'.get? b = some u) (hz : xs.length ≤ sizeLine) (r : Vals xs its) (hg : h'.get? s.heap.objs.size = some (ptup its)) (q : NewT H xs Q) :
    EP X pins σ Q (.ref s.heap.objs.size) { s with heap := h', toks := tk } :=
  ⟨.ref s.heap.objs.size, _, I.laid (t' := tk) (o := .frz (ptup its) (.tup xs)) k (Nat.le_refl _) ⟨hg, hz, its, r, ⟨_, hg, rfl, _, rfl⟩⟩, rfl, q _ (ptup its) rfl (I.hok.fresh (Nat.le_refl _))⟩
/-- a tuple of written items -/
def tTupF (t : TA) : TE := fun σ H Q => t σ H fun xs H1 => xs.length ≤ sizeLine ∧ NewT H1 xs Q
theorem pe_tupF {es : List Expr} {t : TA} {pos : Pos} {x1} (h : PA X es t) : PE X (.Tuple es x1 pos) (tTupF t) := by
  refine ⟨fun pins s σ H Q I hq => ?_⟩
  refine wpAny_Tuple_spliced (thn (h.run pos pins s σ H _ I hq) fun us s1 ⟨xs, H1, I1, r, z, q⟩ => ⟨by rw [← r.length]; exact z, ?_⟩)
  exact lay_tup (its := us) I1 (fun b u e => Heap.get?_push_of_some _ e) z r (Heap.get?_push_size _ rfl) q
/-- t + u -/
def rCatF (K : PySem.W.Frag) : R2 := fun x y H Q => ∃ a b xs ys, x = .ref a ∧ y = .ref b ∧ SqT K H a xs ∧ SqT K H b ys ∧ xs.length + ys.length ≤ sizeLine ∧
  (xs = [] → Q (.ref b) H) ∧ (xs ≠ [] → ys = [] → Q (.ref a) H) ∧ (xs ≠ [] → ys ≠ [] → NewT H (xs ++ ys) Q)
theorem op_catF : OpR X (binaryOp .Add) (rCatF X.K) := by
  intro pins s σ H x y v u Q I rx ry h
  obtain ⟨a, b, xs, ys, rfl, rfl, ha, hb, hz, q0, q1, q2⟩ := h
  cases rx
  cases ry
  obtain ⟨its, r1, p1, _⟩ := I.tuple ha
  obtain ⟨its2, r2, p2, _⟩ := I.tuple hb
  by_cases hx : xs = []
  · subst hx
    cases r1
    exact cat_tup0 p1 p2 ⟨.ref b, H, I, rfl, q0 rfl⟩
  · refine HT.cat_tup p1 p2 (fun z => hx (r1.nil_iff.mp z)) (fun z => ⟨.ref a, H, I, rfl, q1 hx (r2.nil_iff.mp z)⟩) (fun z => ?_) (by rw [← r1.length, ← r2.length]; exact hz)
    exact lay_tup (its := its ++ its2) (tk := s.toks) I (fun b ob q => Heap.get?_push_of_some _ q) (by rw [List.length_append]; exact hz) (r1.append r2) (Heap.get?_push_size _ rfl) (q2 hx fun w => z (r2.nil_iff.mpr w))
/-- t[lo:hi]: the whole of it is t itself -/
def rSlF (K : PySem.W.Frag) : V → Option Int → Option Int → Hp → VK → Prop := fun x lo hi H Q => ∃ a xs, x = .ref a ∧ SqT K H a xs ∧
  (HT.sIx xs.length 0 lo = 0 ∧ HT.sIx xs.length xs.length hi = xs.length → Q (.ref a) H) ∧ (¬ (HT.sIx xs.length 0 lo = 0 ∧ HT.sIx xs.length xs.length hi = xs.length) → NewT H (cutV xs lo hi) Q)
theorem sl_tupF : SlR X (rSlF X.K) := by
  intro pins s σ H x v vl vu lo hi sl Q I rx hs pl pu h
  obtain ⟨a, xs, rfl, hx, q1, q2⟩ := h
  cases rx
  obtain ⟨its, r, ht, hz⟩ := I.tuple hx
  have hlen : its.toArray.size = xs.length := by rw [List.size_toArray]; exact r.length.symm
  refine ⟨"tuple", _, PyProof.Rows.slot_tuple_getitem.lookup, ht.typeIs, ?_⟩
  by_cases hw : HT.sIx xs.length 0 lo = 0 ∧ HT.sIx xs.length xs.length hi = xs.length
  · exact getItem_tuple_whole ht hs pl pu (by rw [hlen]; exact hw) ⟨.ref a, H, I, rfl, q1 hw⟩
  · refine HT.getItem_tuple_cut ht hs pl pu (by rw [hlen]; exact hw) ?_ (by rw [hlen]; exact hz)
    rw [hlen]
    exact lay_tup (tk := s.toks) I (fun b ob q => Heap.get?_push_of_some _ q) (Nat.le_trans (cutV_length xs lo hi) hz) ((r.drop (HT.sIx xs.length 0 lo)).take (HT.sIx xs.length xs.length hi - HT.sIx xs.length 0 lo)) (Heap.get?_push_size _ rfl) (q2 hw)
/-- tuple(x), a list or tuple -/
def rTupleF (K : PySem.W.Frag) : List V → Hp → VK → Prop := fun xs H Q => ∃ p ys, xs = [.ref p] ∧ ((SqL K H p ys ∧ NewT H ys Q) ∨ (SqT K H p ys ∧ Q (.ref p) H))
theorem call_tupleF : CallR X (.type "tuple") (rTupleF X.K) := by
  intro pins s σ H xs us Q I r h
  obtain ⟨p, ys, rfl, h⟩ := h
  obtain ⟨u, rfl, rx⟩ := vals1 r
  cases rx
  rcases h with ⟨hq, q⟩ | ⟨hq, q⟩
  · obtain ⟨its, r', pl, hz⟩ := I.list hq
    have hlen := r'.length
    refine call_tuple_list pl.isList (fun h' kp => ?_) (by simp only [List.size_toArray] <;> omega)
    have I1 : L2.Inv X pins σ H { s with heap := h' } := I.kept (t' := s.toks) kp
    exact lay_tup (its := its) (tk := s.toks) I1 (fun b ob q => Heap.get?_push_of_some _ q) hz r' (Heap.get?_push_size _ rfl) q
  · obtain ⟨its, r', pl, hz⟩ := I.tuple hq
    exact call_tuple_same pl ⟨.ref p, H, I, rfl, q⟩
def Plain (K : PySem.W.Frag) (H : Hp) (a : Addr) : Prop := (∃ o xs, H a = some (.frz o (.tup xs)) ∧ Obj.dict o = none) ∨ ∃ o, K.lookup a = some o ∧ o.dict = none
end
end Sv
namespace Sv
open PySem L2 Evl
abbrev Fg := PySem.W.Frag
abbrev Av := Addr → Prop
def kD : Key → PyData
  | .inl i => .int i
  | .inr x => .str x
inductive Shp where
  | lst
  | tup
  | dk (ks : List Key)
  | dt (ks : List (List Key))
  | ob (c : Str) (ns : List Str)
  | tab (P : Addr) (q : Str)
  | gh (P : Addr)
/-- the class by its name -/
def clsAt (K : Fg) (c : Str) (C : Addr) : Prop := PySem.W.nsIn K mainGlobals c = some (some (.ref C))
def Node (K : Fg) (H : Hp) (a : Addr) (vs : List V) : Shp → Prop
  | .lst => H a = some (.lst vs)
  | .tup => ∃ o, H a = some (.frz o (.tup vs)) ∧ Obj.dict o = none
  | .dk ks => ks.length = vs.length ∧ H a = some (.dK (ks.zip vs))
  | .dt ks => ks.length = vs.length ∧ H a = some (.dT (ks.zip vs))
  | .ob c ns => ns.length = vs.length ∧ ∃ C dx, clsAt K c C ∧ H a = some (.ins C dx (ns.zip vs))
  | .tab P q => a = P ∧ vs = [] ∧ LamX.TabS H a q
  | .gh P => vs = [.ref a, .ref P]
/-- no object of its own -/
def ghB : Shp → Bool
  | .gh _ => true
  | _ => false
/-- the keys, with a mark ahead where they are tuples, or names of an object's fields -/
def keysOf : Shp → Option (List PyData)
  | .dk ks => some (ks.map kD)
  | .dt ks => some (.list [] :: ks.map fun k => .tuple (k.map kD))
  | .ob c ns => some (.list [.str c] :: ns.map .str)
  | _ => none
def isMk : PyData → Bool
  | .list _ => true
  | _ => false
def foot (a : Addr) : Shp → List Addr
  | .tup => []
  | .gh _ => []
  | _ => [a]
def keyB : PyData → Bool
  | .int _ => true
  | .str _ => true
  | _ => false
mutual
def Rep (K : Fg) (H : Hp) (A : Av) : PyData → V → Prop
  | .none, v => v = .non
  | .bool b, v => v = .bl b
  | .int i, v => v = .int i
  | .str s, v => v = .str s
  | .tuple ds, v => ∃ a xs, v = .ref a ∧ (SqT K H a xs ∧ (ds.all keyB = true ∨ Plain K H a)) ∧ RepL K H A ds xs
  | .list ds, v => ∃ a xs, v = .ref a ∧ ¬ A a ∧ H a = some (.lst xs) ∧ RepL K H A ds xs
  | .dict kvs, v => ∃ a s vs, v = .ref a ∧ ¬ A a ∧ keysOf s = some (kvs.map (·.1)) ∧ Node K H a vs s ∧ RepP K H A kvs vs
def RepL (K : Fg) (H : Hp) (A : Av) : List PyData → List V → Prop
  | [], xs => xs = []
  | d :: ds, xs => ∃ y ys, xs = y :: ys ∧ Rep K H A d y ∧ RepL K H A ds ys
def RepP (K : Fg) (H : Hp) (A : Av) : List (PyData × PyData) → List V → Prop
  | [], xs => xs = []
  | kd :: r, xs => (isMk kd.1 = true ∧ RepP K H A r xs) ∨ (isMk kd.1 = false ∧ ∃ y ys, xs = y :: ys ∧ Rep K H A kd.2 y ∧ RepP K H A r ys)
end
/-- what may be a name's own -/
def Mu : Option HO → Prop
  | some (.lst _) => True
  | some (.dK _) => True
  | some (.dT _) => True
  | some (.set _ _) => True
  | some (.ins _ _ _) => True
  | some (.tbl _) => True
  | _ => False
/-- all that is not avoided is kept -/
def Kp (A : Av) (H H' : Hp) : Prop := ∀ b o, H b = some o → ¬ A b → H' b = some o
/-- what is avoided may be written -/
def AvOk (A : Av) (H : Hp) : Prop := ∀ a, A a → Mu (H a)
section
variable {K : Fg} {H H' H1 H2 : Hp} {A B : Av}
theorem Kp.ofEx (e : Ex H H') : Kp A H H' := fun b o h _ => e b o h
theorem Kp.refl : Kp A H H := fun _ _ h _ => h
theorem Kp.trans (a : Kp A H H1) (b : Kp A H1 H2) : Kp A H H2 := fun c o h n => b c o (a c o h n) n
theorem AvOk.mono (e : Ex H H') (h : AvOk A H) : AvOk A H' := fun a ha => by
  have := h a ha
  cases q : H a with
  | none => rw [q] at this; exact this.elim
  | some o => rw [e a o q]; rw [q] at this; exact this
theorem AvOk.fresh (h : AvOk A H) {p : Addr} (hp : H p = none) : ¬ A p := fun ha => by
  have := h p ha
  rw [hp] at this; exact this
theorem AvOk.anti (s : ∀ a, B a → A a) (h : AvOk A H) : AvOk B H := fun a ha => h a (s a ha)
theorem Rd.keep (ok : AvOk A H) (k : Kp A H H') {a : Addr} {u : HO} (hu : ¬ Mu (some u)) (h : Rd H a u) : Rd H' a u := by
  rcases h with h | ⟨o, h⟩
  · refine .inl (k a _ h fun ha => hu ?_)
    have := ok a ha
    rw [h] at this; exact this
  · refine .inr ⟨o, k a _ h fun ha => ?_⟩
    have := ok a ha
    rw [h] at this; exact this
theorem SqT.keep (ok : AvOk A H) (k : Kp A H H') {a : Addr} {xs : List V} (h : SqT K H a xs) : SqT K H' a xs := by
  rcases h with h | h
  · exact .inl (Rd.keep ok k (fun z => z) h)
  · exact .inr h
theorem Plain.keep (ok : AvOk A H) (k : Kp A H H') {a : Addr} (h : Plain K H a) : Plain K H' a := by
  rcases h with ⟨o, xs, h, hd⟩ | h
  · refine .inl ⟨o, xs, k a _ h fun ha => ?_, hd⟩
    have := ok a ha
    rw [h] at this; exact this
  · exact .inr h
theorem ext_keep (ok : AvOk A H) (k : Kp A H H') : ∀ c φ, H c = some (.ext φ) → H' c = some (.ext φ) := fun c φ h => k c _ h fun ha => by
  have := ok c ha
  rw [h] at this; exact this
theorem Node.at {a : Addr} {vs : List V} : ∀ {s : Shp} (e : ghB s = false → ∀ u, H a = some u → H' a = some u) (ec : ∀ c φ, H c = some (.ext φ) → H' c = some (.ext φ)), Node K H a vs s → Node K H' a vs s
  | .lst, e, _, h => e rfl _ h
  | .tup, e, _, ⟨o, h, hd⟩ => ⟨o, e rfl _ h, hd⟩
  | .dk ks, e, _, ⟨h1, h2⟩ => ⟨h1, e rfl _ h2⟩
  | .dt ks, e, _, ⟨h1, h2⟩ => ⟨h1, e rfl _ h2⟩
  | .ob c ns, e, _, ⟨h1, C, dx, h2, h3⟩ => ⟨h1, C, dx, h2, e rfl _ h3⟩
  | .tab _ q, e, ec, ⟨hP, h0, ps, h1, h2, h3⟩ => ⟨hP, h0, ps, e rfl _ h1, h2, fun pos cv hc => let ⟨c, e1, e2⟩ := h3 pos cv hc; ⟨c, e1, ec c _ e2⟩⟩
  | .gh P, _, _, h => h
theorem Node.some {a : Addr} {vs : List V} : ∀ {s : Shp}, Node K H a vs s → ghB s = false → ∃ u, H a = some u
  | .gh _, _, z => nomatch z
  | .lst, h, _ => ⟨_, h⟩
  | .tup, ⟨_, h, _⟩, _ => ⟨_, h⟩
  | .dk ks, ⟨h1, h2⟩, _ => ⟨_, h2⟩
  | .dt ks, ⟨h1, h2⟩, _ => ⟨_, h2⟩
  | .ob c ns, ⟨h1, C, dx, h2, h3⟩, _ => ⟨_, h3⟩
  | .tab _ q, ⟨_, _, ps, h1, _, _⟩, _ => ⟨_, h1⟩
theorem Node.mut {a : Addr} {vs : List V} : ∀ {s : Shp}, Node K H a vs s → ∀ b ∈ foot a s, Mu (H b)
  | .lst, h, b, hb => by cases List.mem_singleton.mp hb; rw [show H a = _ from h]; trivial
  | .tup, h, b, hb => by cases hb
  | .dk ks, ⟨h1, h2⟩, b, hb => by cases List.mem_singleton.mp hb; rw [h2]; trivial
  | .dt ks, ⟨h1, h2⟩, b, hb => by cases List.mem_singleton.mp hb; rw [h2]; trivial
  | .ob c ns, ⟨h1, C, dx, h2, h3⟩, b, hb => by cases List.mem_singleton.mp hb; rw [h3]; trivial
  | .gh _, _, b, hb => nomatch hb
  | .tab _ q, ⟨_, _, ps, h1, _, _⟩, b, hb => by cases List.mem_singleton.mp hb; rw [h1]; trivial
theorem zip_inj {α β : Type} : ∀ {ks : List α} {vs ws : List β}, ks.length = vs.length → ks.length = ws.length → ks.zip vs = ks.zip ws → vs = ws
  | [], [], [], _, _, _ => rfl
  | k :: ks, v :: vs, w :: ws, h1, h2, e => by
    simp only [List.zip_cons_cons, List.cons.injEq, Prod.mk.injEq, true_and] at e
    rw [e.1, zip_inj (by simpa using h1) (by simpa using h2) e.2]
  | [], _ :: _, _, h, _, _ => by simp at h
  | [], [], _ :: _, _, h, _ => by simp at h
  | _ :: _, [], _, h, _, _ => by simp at h
  | _ :: _, _ :: _, [], _, h, _ => by simp at h
theorem Node.inj {a : Addr} {vs ws : List V} : ∀ {s : Shp}, Node K H a vs s → Node K H a ws s → vs = ws
  | .lst, h, h' => by have := (show H a = _ from h).symm.trans h'; cases this; rfl
  | .tup, ⟨_, h, _⟩, ⟨_, h', _⟩ => by have := h.symm.trans h'; cases this; rfl
  | .dk ks, ⟨h1, h2⟩, ⟨k1, k2⟩ => by
    have e := h2.symm.trans k2
    simp only [Option.some.injEq, HO.dK.injEq] at e
    exact zip_inj h1 k1 e
  | .dt ks, ⟨h1, h2⟩, ⟨k1, k2⟩ => by
    have e := h2.symm.trans k2
    simp only [Option.some.injEq, HO.dT.injEq] at e
    exact zip_inj h1 k1 e
  | .ob c ns, ⟨h1, C, dx, h2, h3⟩, ⟨k1, C', dx', k2, k3⟩ => by
    have e := h3.symm.trans k3
    simp only [Option.some.injEq, HO.ins.injEq] at e
    exact zip_inj h1 k1 e.2.2
  | .tab _ q, ⟨_, h1, _⟩, ⟨_, k1, _⟩ => h1.trans k1.symm
  | .gh P, h1, k1 => h1.trans k1.symm
mutual
theorem Rep.keep2 (ok : AvOk A H) (k : Kp A H H') (hb : ∀ a, B a → A a ∨ H a = none) : ∀ (d : PyData) (v : V), Rep K H A d v → Rep K H' B d v
  | .none, _, h => by simpa only [Rep] using h
  | .bool b, _, h => by simpa only [Rep] using h
  | .int i, _, h => by simpa only [Rep] using h
  | .str s, _, h => by simpa only [Rep] using h
  | .tuple ds, v, h => by
    simp only [Rep] at h ⊢
    obtain ⟨a, xs, e, h1, h2⟩ := h
    exact ⟨a, xs, e, ⟨SqT.keep ok k h1.1, h1.2.imp id (Plain.keep ok k)⟩, RepL.keep2 ok k hb ds xs h2⟩
  | .list ds, v, h => by
    simp only [Rep] at h ⊢
    obtain ⟨a, xs, e, na, h1, h2⟩ := h
    exact ⟨a, xs, e, fun z => (hb a z).elim na (fun q => by rw [q] at h1; cases h1), k a _ h1 na, RepL.keep2 ok k hb ds xs h2⟩
  | .dict kvs, v, h => by
    simp only [Rep] at h ⊢
    obtain ⟨a, s, vs, e, na, hk, h1, h2⟩ := h
    exact ⟨a, s, vs, e, fun z => (hb a z).elim na fun q => (by obtain ⟨u, hu⟩ := h1.some (by cases s <;> first | rfl | cases hk); rw [q] at hu; cases hu), hk, h1.at (fun _ u hu => k a u hu na) (ext_keep ok k), RepP.keep2 ok k hb kvs vs h2⟩
theorem RepL.keep2 (ok : AvOk A H) (k : Kp A H H') (hb : ∀ a, B a → A a ∨ H a = none) : ∀ (ds : List PyData) (xs : List V), RepL K H A ds xs → RepL K H' B ds xs
  | [], _, h => by simpa only [RepL] using h
  | d :: ds, xs, h => by
    simp only [RepL] at h ⊢
    obtain ⟨y, ys, e, h1, h2⟩ := h
    exact ⟨y, ys, e, Rep.keep2 ok k hb d y h1, RepL.keep2 ok k hb ds ys h2⟩
theorem RepP.keep2 (ok : AvOk A H) (k : Kp A H H') (hb : ∀ a, B a → A a ∨ H a = none) : ∀ (kvs : List (PyData × PyData)) (ps : List V), RepP K H A kvs ps → RepP K H' B kvs ps
  | [], _, h => by simpa only [RepP] using h
  | (kd, d) :: r, ps, h => by
    simp only [RepP] at h ⊢
    rcases h with ⟨m, h⟩ | ⟨m, y, ys, e, h1, h2⟩
    · exact .inl ⟨m, RepP.keep2 ok k hb r ps h⟩
    · exact .inr ⟨m, y, ys, e, Rep.keep2 ok k hb d y h1, RepP.keep2 ok k hb r ys h2⟩
end
mutual
theorem Rep.anti (s : ∀ a, B a → A a) : ∀ (d : PyData) (v : V), Rep K H A d v → Rep K H B d v
  | .none, _, h => by simpa only [Rep] using h
  | .bool b, _, h => by simpa only [Rep] using h
  | .int i, _, h => by simpa only [Rep] using h
  | .str s, _, h => by simpa only [Rep] using h
  | .tuple ds, v, h => by
    simp only [Rep] at h ⊢
    obtain ⟨a, xs, e, h1, h2⟩ := h
    exact ⟨a, xs, e, h1, RepL.anti s ds xs h2⟩
  | .list ds, v, h => by
    simp only [Rep] at h ⊢
    obtain ⟨a, xs, e, na, h1, h2⟩ := h
    exact ⟨a, xs, e, fun z => na (s a z), h1, RepL.anti s ds xs h2⟩
  | .dict kvs, v, h => by
    simp only [Rep] at h ⊢
    obtain ⟨a, sh, vs, e, na, hk, h1, h2⟩ := h
    exact ⟨a, sh, vs, e, fun z => na (s a z), hk, h1, RepP.anti s kvs vs h2⟩
theorem RepL.anti (s : ∀ a, B a → A a) : ∀ (ds : List PyData) (xs : List V), RepL K H A ds xs → RepL K H B ds xs
  | [], _, h => by simpa only [RepL] using h
  | d :: ds, xs, h => by
    simp only [RepL] at h ⊢
    obtain ⟨y, ys, e, h1, h2⟩ := h
    exact ⟨y, ys, e, Rep.anti s d y h1, RepL.anti s ds ys h2⟩
theorem RepP.anti (s : ∀ a, B a → A a) : ∀ (kvs : List (PyData × PyData)) (ps : List V), RepP K H A kvs ps → RepP K H B kvs ps
  | [], _, h => by simpa only [RepP] using h
  | (kd, d) :: r, ps, h => by
    simp only [RepP] at h ⊢
    rcases h with ⟨m, h⟩ | ⟨m, y, ys, e, h1, h2⟩
    · exact .inl ⟨m, RepP.anti s r ps h⟩
    · exact .inr ⟨m, y, ys, e, Rep.anti s d y h1, RepP.anti s r ys h2⟩
end
theorem Rep.keep (ok : AvOk A H) (k : Kp A H H') (d : PyData) (v : V) (h : Rep K H A d v) : Rep K H' A d v := Rep.keep2 ok k (fun _ z => .inl z) d v h
theorem RepL.keep (ok : AvOk A H) (k : Kp A H H') (ds : List PyData) (vs : List V) (h : RepL K H A ds vs) : RepL K H' A ds vs := RepL.keep2 ok k (fun _ z => .inl z) ds vs h
theorem RepP.keep (ok : AvOk A H) (k : Kp A H H') (ds : List (PyData × PyData)) (vs : List V) (h : RepP K H A ds vs) : RepP K H' A ds vs := RepP.keep2 ok k (fun _ z => .inl z) ds vs h
theorem Rep.mono (ok : AvOk A H) (e : Ex H H') {d : PyData} {v : V} (h : Rep K H A d v) : Rep K H' A d v := Rep.keep ok (Kp.ofEx e) d v h
theorem RepL.mono (ok : AvOk A H) (e : Ex H H') {ds : List PyData} {xs : List V} (h : RepL K H A ds xs) : RepL K H' A ds xs := RepL.keep ok (Kp.ofEx e) ds xs h
theorem RepP.mono (ok : AvOk A H) (e : Ex H H') {ds : List (PyData × PyData)} {xs : List V} (h : RepP K H A ds xs) : RepP K H' A ds xs := RepP.keep ok (Kp.ofEx e) ds xs h
theorem RepL.length : ∀ {ds : List PyData} {xs : List V}, RepL K H A ds xs → xs.length = ds.length
  | [], _, h => by simp only [RepL] at h; subst h; rfl
  | d :: ds, xs, h => by
    simp only [RepL] at h
    obtain ⟨y, ys, rfl, _, h2⟩ := h
    simp [RepL.length h2]
theorem RepL.get : ∀ {ds : List PyData} {xs : List V} {i : Nat} {d : PyData}, RepL K H A ds xs → ds[i]? = some d → ∃ v, xs[i]? = some v ∧ Rep K H A d v
  | [], _, i, d, _, e => by simp at e
  | d0 :: ds, xs, i, d, h, e => by
    simp only [RepL] at h
    obtain ⟨y, ys, rfl, h1, h2⟩ := h
    cases i with
    | zero => simp at e; subst e; exact ⟨y, rfl, h1⟩
    | succ i =>
      obtain ⟨v, e1, e2⟩ := RepL.get h2 (i := i) (d := d) (by simpa using e)
      exact ⟨v, by simpa using e1, e2⟩
theorem RepL.back {ds : List PyData} {xs : List V} {i : Nat} {v : V} (h : RepL K H A ds xs) (e : xs[i]? = some v) : ∃ d, ds[i]? = some d ∧ Rep K H A d v := by
  have hl := h.length
  have hi : i < xs.length := (List.getElem?_eq_some_iff.mp e).1
  have hd : ds[i]? = some (ds[i]'(by omega)) := List.getElem?_eq_getElem (by omega)
  obtain ⟨v', e1, r⟩ := h.get hd
  rw [e] at e1; cases e1
  exact ⟨_, hd, r⟩
theorem RepL.append : ∀ {ds es : List PyData} {xs ys : List V}, RepL K H A ds xs → RepL K H A es ys → RepL K H A (ds ++ es) (xs ++ ys)
  | [], es, xs, ys, h, h' => by simp only [RepL] at h; subst h; simpa using h'
  | d :: ds, es, xs, ys, h, h' => by
    simp only [RepL] at h
    obtain ⟨y, zs, rfl, h1, h2⟩ := h
    simp only [List.cons_append, RepL]
    exact ⟨y, _, rfl, h1, RepL.append h2 h'⟩
theorem RepL.one {d : PyData} {v : V} (h : Rep K H A d v) : RepL K H A [d] [v] := by
  simp only [RepL]; exact ⟨v, [], rfl, h, rfl⟩
theorem RepL.nil : RepL K H A [] [] := by simp only [RepL]
theorem RepL.cons {d : PyData} {v : V} {ds : List PyData} {xs : List V} (h : Rep K H A d v) (h' : RepL K H A ds xs) : RepL K H A (d :: ds) (v :: xs) := by
  simp only [RepL]; exact ⟨v, xs, rfl, h, h'⟩
theorem RepL.drop : ∀ {ds : List PyData} {xs : List V} (n : Nat), RepL K H A ds xs → RepL K H A (ds.drop n) (xs.drop n)
  | ds, xs, 0, h => h
  | [], xs, n + 1, h => by simp only [RepL] at h; subst h; exact RepL.nil
  | d :: ds, xs, n + 1, h => by
    simp only [RepL] at h
    obtain ⟨y, ys, rfl, _, h2⟩ := h
    exact RepL.drop n h2
theorem RepL.take : ∀ {ds : List PyData} {xs : List V} (n : Nat), RepL K H A ds xs → RepL K H A (ds.take n) (xs.take n)
  | ds, xs, 0, h => RepL.nil
  | [], xs, n + 1, h => by simp only [RepL] at h; subst h; exact RepL.nil
  | d :: ds, xs, n + 1, h => by
    simp only [RepL] at h
    obtain ⟨y, ys, rfl, h1, h2⟩ := h
    exact RepL.cons h1 (RepL.take n h2)
theorem RepL.set : ∀ {ds : List PyData} {xs : List V} (i : Nat) {d : PyData} {v : V}, RepL K H A ds xs → Rep K H A d v → RepL K H A (ds.set i d) (xs.set i v)
  | [], xs, i, d, v, h, _ => by simp only [RepL] at h; subst h; exact RepL.nil
  | d0 :: ds, xs, i, d, v, h, hd => by
    simp only [RepL] at h
    obtain ⟨y, ys, rfl, h1, h2⟩ := h
    cases i with
    | zero => exact RepL.cons hd h2
    | succ i => exact RepL.cons h1 (RepL.set i h2 hd)
/-- by the places -/
theorem RepL.mk : ∀ {ds : List PyData} {xs : List V}, xs.length = ds.length → (∀ (i : Nat) (d : PyData) (v : V), ds[i]? = some d → xs[i]? = some v → Rep K H A d v) → RepL K H A ds xs
  | [], xs, hl, _ => by
    cases xs with
    | nil => exact RepL.nil
    | cons => simp at hl
  | d :: ds, xs, hl, h => by
    cases xs with
    | nil => simp at hl
    | cons y ys => exact RepL.cons (h 0 d y rfl rfl) (RepL.mk (by simpa using hl) fun i e v h1 h2 => h (i + 1) e v (by simpa using h1) (by simpa using h2))
end
inductive OD where
  | dat (d : PyData)
  | nd (s : Shp) (xs : List OD)
mutual
def Tree (K : Fg) (H : Hp) (A : Av) : OD → V → List Addr → Prop
  | .dat d, v, F => F = [] ∧ Rep K H A d v
  | .nd s xs, v, F => ∃ a vs G, v = .ref a ∧ F = foot a s ++ G ∧ Node K H a vs s ∧ TreeL K H A xs vs G
def TreeL (K : Fg) (H : Hp) (A : Av) : List OD → List V → List Addr → Prop
  | [], vs, F => vs = [] ∧ F = []
  | o :: os, vs, F => ∃ y ys F1 F2, vs = y :: ys ∧ F = F1 ++ F2 ∧ Tree K H A o y F1 ∧ TreeL K H A os ys F2
end
section
variable {K : Fg} {H H' : Hp} {A B : Av}
mutual
theorem Tree.keep2 (ok : AvOk A H) (k : Kp A H H') (hb : ∀ a, B a → A a ∨ H a = none) : ∀ (o : OD) (v : V) (F : List Addr), (∀ a ∈ F, ∀ u, H a = some u → H' a = some u) → Tree K H A o v F → Tree K H' B o v F
  | .dat d, v, F, hF, h => by
    simp only [Tree] at h ⊢
    exact ⟨h.1, Rep.keep2 ok k hb d v h.2⟩
  | .nd s xs, v, F, hF, h => by
    simp only [Tree] at h ⊢
    obtain ⟨a, vs, G, e1, e2, h1, h2⟩ := h
    subst e2
    refine ⟨a, vs, G, e1, rfl, h1.at (fun ng u hu => ?_) (ext_keep ok k), TreeL.keep2 ok k hb xs vs G (fun b hb => hF b (List.mem_append_right _ hb)) h2⟩
    by_cases hA : A a
    · have : a ∈ foot a s := by
        cases s with
        | tup =>
          have m := ok a hA
          obtain ⟨_, h1, _⟩ := h1
          rw [h1] at m
          exact m.elim
        | lst => exact List.mem_singleton_self a
        | dk _ => exact List.mem_singleton_self a
        | dt _ => exact List.mem_singleton_self a
        | ob _ _ => exact List.mem_singleton_self a
        | tab _ _ => exact List.mem_singleton_self a
        | gh _ => cases ng
      exact hF a (List.mem_append_left _ this) u hu
    · exact k a u hu hA
theorem TreeL.keep2 (ok : AvOk A H) (k : Kp A H H') (hb : ∀ a, B a → A a ∨ H a = none) : ∀ (os : List OD) (vs : List V) (F : List Addr), (∀ a ∈ F, ∀ u, H a = some u → H' a = some u) → TreeL K H A os vs F → TreeL K H' B os vs F
  | [], vs, F, hF, h => by simpa only [TreeL] using h
  | o :: os, vs, F, hF, h => by
    simp only [TreeL] at h ⊢
    obtain ⟨y, ys, F1, F2, e1, e2, h1, h2⟩ := h
    subst e2
    exact ⟨y, ys, F1, F2, e1, rfl, Tree.keep2 ok k hb o y F1 (fun b hb => hF b (List.mem_append_left _ hb)) h1, TreeL.keep2 ok k hb os ys F2 (fun b hb => hF b (List.mem_append_right _ hb)) h2⟩
end
mutual
theorem Tree.anti (s : ∀ a, B a → A a) : ∀ (o : OD) (v : V) (F : List Addr), Tree K H A o v F → Tree K H B o v F
  | .dat d, v, F, h => by
    simp only [Tree] at h ⊢
    exact ⟨h.1, Rep.anti s d v h.2⟩
  | .nd sh xs, v, F, h => by
    simp only [Tree] at h ⊢
    obtain ⟨a, vs, G, e1, e2, h1, h2⟩ := h
    exact ⟨a, vs, G, e1, e2, h1, TreeL.anti s xs vs G h2⟩
theorem TreeL.anti (s : ∀ a, B a → A a) : ∀ (os : List OD) (vs : List V) (F : List Addr), TreeL K H A os vs F → TreeL K H B os vs F
  | [], vs, F, h => by simpa only [TreeL] using h
  | o :: os, vs, F, h => by
    simp only [TreeL] at h ⊢
    obtain ⟨y, ys, F1, F2, e1, e2, h1, h2⟩ := h
    exact ⟨y, ys, F1, F2, e1, e2, Tree.anti s o y F1 h1, TreeL.anti s os ys F2 h2⟩
end
mutual
theorem Tree.mut : ∀ (o : OD) (v : V) (F : List Addr), Tree K H A o v F → ∀ a ∈ F, Mu (H a)
  | .dat d, v, F, h => by
    simp only [Tree] at h
    intro a ha
    rw [h.1] at ha
    cases ha
  | .nd s xs, v, F, h => by
    simp only [Tree] at h
    obtain ⟨a, vs, G, e1, e2, h1, h2⟩ := h
    subst e2
    intro b hb
    rcases List.mem_append.mp hb with hb | hb
    · exact h1.mut b hb
    · exact TreeL.mut xs vs G h2 b hb
theorem TreeL.mut : ∀ (os : List OD) (vs : List V) (F : List Addr), TreeL K H A os vs F → ∀ a ∈ F, Mu (H a)
  | [], vs, F, h => by
    simp only [TreeL] at h
    intro a ha
    rw [h.2] at ha
    cases ha
  | o :: os, vs, F, h => by
    simp only [TreeL] at h
    obtain ⟨y, ys, F1, F2, e1, e2, h1, h2⟩ := h
    subst e2
    intro b hb
    rcases List.mem_append.mp hb with hb | hb
    · exact Tree.mut o y F1 h1 b hb
    · exact TreeL.mut os ys F2 h2 b hb
end
theorem Tree.mono (ok : AvOk A H) (e : Ex H H') {o : OD} {v : V} {F : List Addr} (h : Tree K H A o v F) : Tree K H' A o v F := Tree.keep2 ok (Kp.ofEx e) (fun _ z => .inl z) o v F (fun _ _ u hu => e _ u hu) h
theorem TreeL.mono (ok : AvOk A H) (e : Ex H H') {o : List OD} {v : List V} {F : List Addr} (h : TreeL K H A o v F) : TreeL K H' A o v F := TreeL.keep2 ok (Kp.ofEx e) (fun _ z => .inl z) o v F (fun _ _ u hu => e _ u hu) h
theorem TreeL.length : ∀ {os : List OD} {vs : List V} {F : List Addr}, TreeL K H A os vs F → vs.length = os.length
  | [], vs, F, h => by simp only [TreeL] at h; rw [h.1]; rfl
  | o :: os, vs, F, h => by
    simp only [TreeL] at h
    obtain ⟨y, ys, F1, F2, rfl, e2, h1, h2⟩ := h
    simp [TreeL.length h2]
theorem TreeL.dats : ∀ {ds : List PyData} {vs : List V}, RepL K H A ds vs → TreeL K H A (ds.map .dat) vs []
  | [], vs, h => by simp only [RepL] at h; simp only [List.map_nil, TreeL]; exact ⟨h, trivial⟩
  | d :: ds, vs, h => by
    simp only [RepL] at h
    obtain ⟨y, ys, rfl, h1, h2⟩ := h
    simp only [List.map_cons, TreeL]
    exact ⟨y, ys, [], [], rfl, rfl, by simp only [Tree]; exact ⟨trivial, h1⟩, TreeL.dats h2⟩
/-- at a place -/
theorem TreeL.zip : ∀ {os : List OD} {vs : List V} {G : List Addr} {j : Nat} {x : OD} {w : V}, TreeL K H A os vs G → os[j]? = some x → vs[j]? = some w →
    ∃ G1 Gj G2, G = G1 ++ Gj ++ G2 ∧ Tree K H A x w Gj ∧ ∀ (H' : Hp) (B : Av) (x' : OD) (Gj' : List Addr), AvOk A H → Kp A H H' → (∀ a, B a → A a ∨ H a = none) → (∀ a ∈ G1 ++ G2, ∀ u, H a = some u → H' a = some u) → Tree K H' B x' w Gj' → TreeL K H' B (os.set j x') vs (G1 ++ Gj' ++ G2)
  | [], vs, G, j, x, w, h, e1, e2 => by simp at e1
  | o :: os, vs, G, j, x, w, h, e1, e2 => by
    simp only [TreeL] at h
    obtain ⟨y, ys, F1, F2, rfl, rfl, h1, h2⟩ := h
    cases j with
    | zero =>
      simp at e1 e2
      subst e1 e2
      refine ⟨[], F1, F2, by simp, h1, fun H' B x' Gj' ok k hb hk t => ?_⟩
      simp only [List.set_cons_zero, TreeL, List.nil_append]
      exact ⟨_, _, _, _, rfl, rfl, t, TreeL.keep2 ok k hb _ _ _ (fun a ha => hk a (by simpa using ha)) h2⟩
    | succ j =>
      obtain ⟨G1, Gj, G2, e, t, cl⟩ := TreeL.zip h2 (j := j) (x := x) (w := w) (by simpa using e1) (by simpa using e2)
      refine ⟨F1 ++ G1, Gj, G2, by rw [e]; simp, t, fun H' B x' Gj' ok k hb hk t' => ?_⟩
      simp only [List.set_cons_succ, TreeL]
      refine ⟨_, _, F1, G1 ++ Gj' ++ G2, rfl, by simp, Tree.keep2 ok k hb _ _ _ (fun a ha => hk a (by simp [ha])) h1, cl H' B x' Gj' ok k hb (fun a ha => hk a ?_) t'⟩
      rcases List.mem_append.mp ha with ha | ha
      · simp [ha]
      · simp [ha]
end
def kid : OD → Nat → Option OD
  | .nd _ xs, j => xs[j]?
  | .dat _, _ => none
def getP : OD → List Nat → Option OD
  | o, [] => some o
  | o, j :: p => (kid o j).bind fun x => getP x p
def setP : OD → List Nat → OD → OD
  | _, [], o2 => o2
  | .nd s xs, j :: p, o2 => (match xs[j]? with
    | some x => .nd s (xs.set j (setP x p o2))
    | none => .nd s xs)
  | .dat d, _ :: _, _ => .dat d
/-- the value at a path -/
def At (K : Fg) (H : Hp) : V → OD → List Nat → V → Prop
  | v, _, [], v1 => v1 = v
  | v, o, j :: p, v1 => ∃ a s xs vs w x, o = .nd s xs ∧ v = .ref a ∧ Node K H a vs s ∧ vs[j]? = some w ∧ xs[j]? = some x ∧ At K H w x p v1
section
variable {K : Fg} {H H' : Hp} {A B : Av}
theorem At.app : ∀ {p : List Nat} {v : V} {o : OD} {v1 v2 : V} {o1 : OD} {q : List Nat}, At K H v o p v1 → getP o p = some o1 → At K H v1 o1 q v2 → At K H v o (p ++ q) v2
  | [], v, o, v1, v2, o1, q, h, e, h2 => by
    simp only [At] at h
    simp only [getP, Option.some.injEq] at e
    subst h e
    exact h2
  | j :: p, v, o, v1, v2, o1, q, h, e, h2 => by
    simp only [At] at h
    obtain ⟨a, s, xs, vs, w, x, rfl, rfl, h3, h4, h5, h6⟩ := h
    simp only [getP, kid, h5, Option.bind_some] at e
    simp only [List.cons_append, At]
    exact ⟨a, s, xs, vs, w, x, rfl, rfl, h3, h4, h5, At.app h6 e h2⟩
theorem At.mono (e : Ex H H') : ∀ {p : List Nat} {v : V} {o : OD} {v1 : V}, At K H v o p v1 → At K H' v o p v1
  | [], v, o, v1, h => h
  | j :: p, v, o, v1, h => by
    simp only [At] at h ⊢
    obtain ⟨a, s, xs, vs, w, x, rfl, rfl, h3, h4, h5, h6⟩ := h
    exact ⟨a, s, xs, vs, w, x, rfl, rfl, h3.at (fun _ u hu => e _ u hu) (fun c φ h => e c _ h), h4, h5, At.mono e h6⟩
theorem Tree.zip : ∀ {p : List Nat} {o : OD} {v : V} {F : List Addr} {v1 : V} {o1 : OD}, Tree K H A o v F → At K H v o p v1 → getP o p = some o1 →
    ∃ F1 pre post, F = pre ++ F1 ++ post ∧ Tree K H A o1 v1 F1 ∧ ∀ (H' : Hp) (B : Av) (o2 : OD) (F2 : List Addr), AvOk A H → Kp A H H' → (∀ a, B a → A a ∨ H a = none) → (∀ a ∈ pre ++ post, ∀ u, H a = some u → H' a = some u) → Tree K H' B o2 v1 F2 →
      Tree K H' B (setP o p o2) v (pre ++ F2 ++ post)
  | [], o, v, F, v1, o1, h, ha, e => by
    simp only [At] at ha
    simp only [getP, Option.some.injEq] at e
    subst ha e
    exact ⟨F, [], [], by simp, h, fun H' B o2 F2 ok k hb hk t => by simpa [setP] using t⟩
  | j :: p, o, v, F, v1, o1, h, ha, e => by
    simp only [At] at ha
    obtain ⟨a, s, xs, vs, w, x, rfl, rfl, h3, h4, h5, h6⟩ := ha
    simp only [getP, kid, h5, Option.bind_some] at e
    simp only [Tree] at h
    obtain ⟨a', vs', G, e1, e2, n, tl⟩ := h
    cases e1
    cases n.inj h3
    obtain ⟨G1, Gj, G2, eG, tj, cl⟩ := tl.zip h5 h4
    obtain ⟨F1, pre, post, eF, t1, cl1⟩ := Tree.zip tj h6 e
    refine ⟨F1, foot a s ++ G1 ++ pre, post ++ G2, by rw [e2, eG, eF]; simp, t1, fun H' B o2 F2 ok k hb hk t => ?_⟩
    simp only [setP, h5, Tree]
    refine ⟨a, vs, G1 ++ (pre ++ F2 ++ post) ++ G2, rfl, by simp, n.at (fun ng u hu => ?_) (ext_keep ok k), cl H' B _ _ ok k hb (fun b hb => hk b ?_) (cl1 H' B o2 F2 ok k hb (fun b hb => hk b ?_) t)⟩
    · by_cases hA : A a
      · have : a ∈ foot a s := by
          cases s with
          | tup =>
            have m := ok a hA
            obtain ⟨_, n, _⟩ := n
            rw [n] at m
            exact m.elim
          | lst => exact List.mem_singleton_self a
          | dk _ => exact List.mem_singleton_self a
          | dt _ => exact List.mem_singleton_self a
          | ob _ _ => exact List.mem_singleton_self a
          | tab _ _ => exact List.mem_singleton_self a
          | gh _ => cases ng
        exact hk a (by simp [this]) u hu
      · exact k a u hu hA
    · rcases List.mem_append.mp hb with hb | hb <;> simp [hb]
    · rcases List.mem_append.mp hb with hb | hb <;> simp [hb]
end
/-- as one datum -/
def pack : Shp → List PyData → Option PyData
  | .lst, ds => some (.list ds)
  | .tup, ds => some (.tuple ds)
  | .dk ks, ds => some (.dict ((ks.map kD).zip ds))
  | .dt ks, ds => some (.dict ((.list [], .none) :: (ks.map fun k => PyData.tuple (k.map kD)).zip ds))
  | .ob c ns, ds => some (.dict ((.list [.str c], .none) :: (ns.map PyData.str).zip ds))
  | .tab _ _, _ => none
  | .gh _, _ => none
mutual
def flat : OD → Option PyData
  | .dat d => some d
  | .nd s xs => (flatL xs).bind (pack s)
def flatL : List OD → Option (List PyData)
  | [] => some []
  | o :: os => match flat o with
    | none => none
    | some d => match flatL os with
      | none => none
      | some ds => some (d :: ds)
end
section
variable {K : Fg} {H : Hp} {A B : Av}
theorem repP_zip {α : Type} {f : α → PyData} (hf : ∀ k, isMk (f k) = false) : ∀ {ks : List α} {ds : List PyData} {vs : List V}, ks.length = vs.length → RepL K H A ds vs → RepP K H A ((ks.map f).zip ds) vs
  | [], ds, vs, hl, r => by
    have : vs = [] := List.length_eq_zero_iff.mp hl.symm
    subst this
    simp only [List.map_nil, List.zip_nil_left, RepP]
  | k :: ks, [], vs, hl, r => by
    simp only [RepL] at r
    subst r
    simp at hl
  | k :: ks, d :: ds, vs, hl, r => by
    simp only [RepL] at r
    obtain ⟨y, ys, rfl, h1, h2⟩ := r
    simp only [List.map_cons, List.zip_cons_cons, RepP]
    exact .inr ⟨hf k, y, ys, rfl, h1, repP_zip hf (by simpa using hl) h2⟩
theorem isMk_kD (k : Key) : isMk (kD k) = false := by cases k <;> rfl
theorem zip_fst {α β : Type} : ∀ {ks : List α} {ds : List β}, ks.length = ds.length → (ks.zip ds).map (·.1) = ks
  | [], _, _ => by simp
  | k :: ks, [], h => by simp at h
  | k :: ks, d :: ds, h => by
    simp only [List.zip_cons_cons, List.map_cons]
    rw [zip_fst (by simpa using h)]
/-- one node over data, as a datum -/
theorem node_rep {a : Addr} {s : Shp} {vs : List V} {ds : List PyData} {d : PyData} (na : ∀ b ∈ foot a s, ¬ A b) (n : Node K H a vs s) (r : RepL K H A ds vs) (e : pack s ds = some d) : Rep K H A d (.ref a) := by
  have hl := r.length
  cases s with
  | lst => cases e; simp only [Rep]; exact ⟨a, vs, rfl, na a (List.mem_singleton_self a), n, r⟩
  | tup => cases e; simp only [Rep]; obtain ⟨o, n, hd⟩ := n; exact ⟨a, vs, rfl, ⟨.inl (.inr ⟨o, n⟩), .inr (.inl ⟨o, vs, n, hd⟩)⟩, r⟩
  | dk ks =>
    cases e
    simp only [Rep]
    refine ⟨a, .dk ks, vs, rfl, na a (List.mem_singleton_self a), ?_, n, repP_zip isMk_kD n.1 r⟩
    rw [zip_fst (by rw [List.length_map, n.1, hl])]
    rfl
  | dt ks =>
    cases e
    simp only [Rep]
    refine ⟨a, .dt ks, vs, rfl, na a (List.mem_singleton_self a), ?_, n, ?_⟩
    · rw [List.map_cons, zip_fst (by rw [List.length_map, n.1, hl])]
      rfl
    · simp only [RepP]
      exact .inl ⟨rfl, repP_zip (fun _ => rfl) n.1 r⟩
  | ob c ns =>
    cases e
    simp only [Rep]
    refine ⟨a, .ob c ns, vs, rfl, na a (List.mem_singleton_self a), ?_, n, ?_⟩
    · rw [List.map_cons, zip_fst (by rw [List.length_map, n.1, hl])]
      rfl
    · simp only [RepP]
      exact .inl ⟨rfl, repP_zip (fun _ => rfl) n.1 r⟩
  | tab _ q => cases e
  | gh q => cases e
mutual
theorem Tree.rep : ∀ (o : OD) (v : V) (F : List Addr) (d : PyData), (∀ a ∈ F, ¬ A a) → Tree K H A o v F → flat o = some d → Rep K H A d v
  | .dat d', v, F, d, na, h, e => by
    simp only [flat] at e
    cases e
    simp only [Tree] at h
    exact h.2
  | .nd s xs, v, F, d, na, h, e => by
    simp only [flat] at e
    simp only [Tree] at h
    obtain ⟨a, vs, G, rfl, rfl, h1, h2⟩ := h
    cases hx : flatL xs with
    | none => rw [hx] at e; cases e
    | some ds =>
      rw [hx] at e
      exact node_rep (fun b hb => na b (List.mem_append_left _ hb)) h1 (TreeL.rep xs vs G ds (fun b hb => na b (List.mem_append_right _ hb)) h2 hx) e
theorem TreeL.rep : ∀ (os : List OD) (vs : List V) (F : List Addr) (ds : List PyData), (∀ a ∈ F, ¬ A a) → TreeL K H A os vs F → flatL os = some ds → RepL K H A ds vs
  | [], vs, F, ds, na, h, e => by
    simp only [flatL] at e
    cases e
    simp only [TreeL] at h
    simp only [RepL]
    exact h.1
  | o :: os, vs, F, ds, na, h, e => by
    simp only [flatL] at e
    simp only [TreeL] at h
    obtain ⟨y, ys, F1, F2, rfl, rfl, h1, h2⟩ := h
    cases h3 : flat o with
    | none => rw [h3] at e; cases e
    | some d0 =>
      rw [h3] at e
      dsimp only at e
      cases h4 : flatL os with
      | none => rw [h4] at e; cases e
      | some ds0 =>
        rw [h4] at e
        cases e
        exact RepL.cons (Tree.rep o y F1 d0 (fun b hb => na b (List.mem_append_left _ hb)) h1 h3) (TreeL.rep os ys F2 ds0 (fun b hb => na b (List.mem_append_right _ hb)) h2 h4)
end
end
/-- the children are all data -/
def dats : List OD → Option (List PyData)
  | [] => some []
  | .dat d :: os => (dats os).map (d :: ·)
  | .nd _ _ :: _ => none
def topD : OD → Option PyData
  | .dat d => some d
  | .nd s xs => (dats xs).bind (pack s)
theorem dats_rep {K : Fg} {H : Hp} {A : Av} : ∀ {os : List OD} {vs : List V} {F : List Addr} {ds : List PyData}, TreeL K H A os vs F → dats os = some ds → RepL K H A ds vs
  | [], vs, F, ds, h, e => by
    cases e
    simp only [TreeL] at h
    simp only [RepL]
    exact h.1
  | .dat d :: os, vs, F, ds, h, e => by
    simp only [TreeL, Tree] at h
    obtain ⟨y, ys, F1, F2, rfl, rfl, h1, h2⟩ := h
    cases hd : dats os with
    | none => simp only [dats, hd] at e; cases e
    | some ds0 =>
      simp only [dats, hd] at e
      cases e
      exact RepL.cons h1.2 (dats_rep h2 hd)
  | .nd _ _ :: _, vs, F, ds, h, e => by cases e
def lO (ds : List PyData) : OD := .nd .lst (ds.map .dat)
structure OW where
  od : OD
  par : Bool
inductive Sl where
  | no
  | val (d : PyData)
  | own (o : OW)
  | scr (ns : List Int)
  | fn (f c : Addr) (q : Str)
abbrev Rho := List Sl
/-- the script: known, or written -/
def Scr (K : Fg) (H : Hp) (a : Addr) (ns : List Int) : Prop := (∃ o, H a = some (.frz o (.lst (ns.map V.int)))) ∨ ∃ (o : Obj) (its : Array Value) (n : Nat), K.lookup a = some o ∧ o.cls = .type "list" ∧ o.dict = none ∧ o.data = .seq its n ∧ its.size ≤ sizeLine ∧ Vals (ns.map V.int) its.toList
theorem Scr.sq {K : Fg} {H : Hp} {a : Addr} {ns : List Int} (h : Scr K H a ns) : SqL K H a (ns.map V.int) := h.elim (fun h => .inl (.inr h)) .inr
theorem Scr.keep {K : Fg} {H H' : Hp} {A : Av} {a : Addr} {ns : List Int} (ok : AvOk A H) (k : Kp A H H') (h : Scr K H a ns) : Scr K H' a ns := by
  rcases h with ⟨o, h⟩ | h
  · refine .inl ⟨o, k a _ h fun ha => ?_⟩
    have := ok a ha
    rw [h] at this; exact this
  · exact .inr h
theorem code_keep {H H' : Hp} {A : Av} {c : Addr} {q : Str} (ok : AvOk A H) (k : Kp A H H') (h : H c = some (LamX.CodeO c q)) : H' c = some (LamX.CodeO c q) := k c _ h fun ha => by
  have := ok c ha
  rw [h] at this; exact this
def SlOk (K : Fg) (H : Hp) (A : Av) : Sl → Option (Option V) → Prop
  | .scr ns, x => ∃ a, x = some (some (.ref a)) ∧ Scr K H a ns
  | .fn f c q, x => x = some (some (.ref f)) ∧ H c = some (LamX.CodeO c q)
  | .no, _ => True
  | .val d, x => ∃ v, x = some (some v) ∧ Rep K H A d v
  | .own o, x => ∃ v F, x = some (some v) ∧ Tree K H A o.od v F
structure RS (K : Fg) (A : Av) (ρ : Rho) (σ : St) (H : Hp) : Prop where
  len : ρ.length = σ.length
  av : AvOk A H
  at' : ∀ (i : Nat) (s : Sl), ρ[i]? = some s → SlOk K H A s σ[i]?
section
variable {K : Fg} {H H' H1 H2 : Hp} {A B : Av} {ρ : Rho} {σ : St}
theorem SlOk.mono (ok : AvOk A H) (e : Ex H H') {x : Option (Option V)} : ∀ {s : Sl}, SlOk K H A s x → SlOk K H' A s x
  | .scr ns, ⟨a, h1, h2⟩ => ⟨a, h1, h2.keep ok (Kp.ofEx e)⟩
  | .fn f c q, ⟨h1, h2⟩ => ⟨h1, code_keep ok (Kp.ofEx e) h2⟩
  | .no, _ => trivial
  | .val d, ⟨v, h1, h2⟩ => ⟨v, h1, h2.mono ok e⟩
  | .own d, ⟨v, F, h1, h2⟩ => ⟨v, F, h1, h2.mono ok e⟩
theorem SlOk.anti (s : ∀ a, B a → A a) {x : Option (Option V)} : ∀ {l : Sl}, SlOk K H A l x → SlOk K H B l x
  | .scr ns, h => h
  | .fn f c q, h => h
  | .no, _ => trivial
  | .val d, ⟨v, h1, h2⟩ => ⟨v, h1, Rep.anti s _ _ h2⟩
  | .own d, ⟨v, F, h1, h2⟩ => ⟨v, F, h1, Tree.anti s _ _ _ h2⟩
/-- all kept but, perhaps, what is avoided; the name's own kept -/
theorem SlOk.keep2 (ok : AvOk A H) (e : Ex H H') (hb : ∀ a, B a → A a ∨ H a = none) {x : Option (Option V)} : ∀ {s : Sl}, SlOk K H A s x → SlOk K H' B s x
  | .scr ns, ⟨a, h1, h2⟩ => ⟨a, h1, h2.keep ok (Kp.ofEx e)⟩
  | .fn f c q, ⟨h1, h2⟩ => ⟨h1, code_keep ok (Kp.ofEx e) h2⟩
  | .no, _ => trivial
  | .val d, ⟨v, h1, h2⟩ => ⟨v, h1, Rep.keep2 ok (Kp.ofEx e) hb _ _ h2⟩
  | .own d, ⟨v, F, h1, h2⟩ => ⟨v, F, h1, Tree.keep2 ok (Kp.ofEx e) hb _ _ _ (fun _ _ u hu => e _ u hu) h2⟩
theorem RS.mono (e : Ex H H') (h : RS K A ρ σ H) : RS K A ρ σ H' := ⟨h.len, h.av.mono e, fun i s q => (h.at' i s q).mono h.av e⟩
theorem RS.set (h : RS K A ρ σ H) {i : Nat} {d : PyData} {v : V} (r : Rep K H A d v) : RS K A (ρ.set i (.val d)) (σ.set i (some v)) H := by
  refine ⟨by simp [h.len], h.av, fun j s q => ?_⟩
  by_cases hj : i = j
  · subst hj
    by_cases hi : i < ρ.length
    · rw [List.getElem?_set_self hi] at q
      cases q
      exact ⟨v, by rw [List.getElem?_set_self (by rw [← h.len]; exact hi)], r⟩
    · rw [List.getElem?_eq_none (by simpa using hi)] at q
      cases q
  · rw [List.getElem?_set_ne hj] at q ⊢
    exact h.at' j s q
end
def EvD (K : Fg) (A : Av) (t : TE) (σ : St) (H : Hp) (d : PyData) : Prop := ∀ H1, Ex H H1 → ∀ Q : VK, (∀ v H2, Ex H1 H2 → Rep K H2 A d v → Q v H2) → t σ H1 Q
/-- what may be a name's own node over data, read -/
def RepB (K : Fg) (H : Hp) (A : Av) (d : PyData) (v : V) : Prop := Rep K H A d v ∨ ∃ a s vs ds, v = .ref a ∧ Node K H a vs s ∧ pack s ds = some d ∧ RepL K H A ds vs
theorem Tree.repB {K : Fg} {H : Hp} {A : Av} {o : OD} {v : V} {F : List Addr} {d : PyData} (h : Tree K H A o v F) (e : topD o = some d) : RepB K H A d v := by
  cases o with
  | dat d' =>
    cases e
    simp only [Tree] at h
    exact .inl h.2
  | nd s xs =>
    simp only [Tree] at h
    obtain ⟨a, vs, G, rfl, rfl, h1, h2⟩ := h
    simp only [topD] at e
    cases hd : dats xs with
    | none => rw [hd] at e; cases e
    | some ds =>
      rw [hd] at e
      exact .inr ⟨a, s, vs, ds, rfl, h1, e, dats_rep h2 hd⟩
def EvB (K : Fg) (A : Av) (t : TE) (σ : St) (H : Hp) (d : PyData) : Prop := ∀ H1, Ex H H1 → ∀ Q : VK, (∀ v H2, Ex H1 H2 → RepB K H2 A d v → Q v H2) → t σ H1 Q
def EF (K : Fg) (t : TE) (f : Rho → Option PyData) : Prop := ∀ A ρ σ H d, RS K A ρ σ H → f ρ = some d → EvD K A t σ H d
def EB (K : Fg) (t : TE) (f : Rho → Option PyData) : Prop := ∀ A ρ σ H d, RS K A ρ σ H → f ρ = some d → EvB K A t σ H d
def ET (K : Fg) (t : TT) (f : Rho → Option Bool) : Prop := ∀ A ρ σ H b, RS K A ρ σ H → f ρ = some b → ∀ H1, Ex H H1 → ∀ Q : Bool → Hp → Prop, (∀ H2, Ex H1 H2 → Q b H2) → t σ H1 Q
def EA (K : Fg) (t : TA) (f : Rho → Option (List PyData)) : Prop := ∀ A ρ σ H ds, RS K A ρ σ H → f ρ = some ds → ∀ H1, Ex H H1 → ∀ Q : List V → Hp → Prop, (∀ vs H2, Ex H1 H2 → RepL K H2 A ds vs → Q vs H2) → t σ H1 Q
/-- an operation on values -/
def E2 (K : Fg) (r : R2) (f : PyData → PyData → Option PyData) : Prop := ∀ A H d e x y z, AvOk A H → RepB K H A d x → RepB K H A e y → f d e = some z → ∀ Q : VK, (∀ v H2, Ex H H2 → Rep K H2 A z v → Q v H2) → r x y H Q
def E1 (K : Fg) (r : V → Hp → VK → Prop) (f : PyData → Option PyData) : Prop := ∀ A H d x z, AvOk A H → RepB K H A d x → f d = some z → ∀ Q : VK, (∀ v H2, Ex H H2 → Rep K H2 A z v → Q v H2) → r x H Q
section
variable {K : Fg} {t ta tb te : TE} {f fa fb : Rho → Option PyData}
theorem EF.b (h : EF K t f) : EB K t f := fun A ρ σ H d rs e H1 e1 Q q => h A ρ σ H d rs e H1 e1 Q fun v H2 e2 r => q v H2 e2 (.inl r)
def gv (i : Nat) (ρ : Rho) : Option PyData := match ρ[i]? with
  | some (.val d) => some d
  | _ => none
def gb (i : Nat) (ρ : Rho) : Option PyData := match ρ[i]? with
  | some (.val d) => some d
  | some (.own o) => topD o.od
  | _ => none
theorem ef_var (i : Nat) : EF K (tVar i) (gv i) := fun A ρ σ H d rs e H1 e1 Q q => by
  unfold gv at e
  split at e
  · rename_i d' h
    cases e
    obtain ⟨v, hv, r⟩ := rs.at' i _ h
    exact ⟨v, hv, q v H1 (Ex.refl _) (r.mono rs.av e1)⟩
  · cases e
theorem eb_var (i : Nat) : EB K (tVar i) (gb i) := fun A ρ σ H d rs e H1 e1 Q q => by
  unfold gb at e
  split at e
  · rename_i d' h
    cases e
    obtain ⟨v, hv, r⟩ := rs.at' i _ h
    exact ⟨v, hv, q v H1 (Ex.refl _) (.inl (r.mono rs.av e1))⟩
  · rename_i o h
    obtain ⟨v, F, hv, r⟩ := rs.at' i _ h
    exact ⟨v, hv, q _ H1 (Ex.refl _) ((r.mono rs.av e1).repB e)⟩
  · cases e
theorem ef_c {v : V} {d : PyData} (h : ∀ H A, Rep K H A d v) : EF K (tC v) (fun _ => some d) := fun A ρ σ H d' rs e H1 e1 Q q => by
  cases e
  exact q v H1 (Ex.refl _) (h H1 A)
theorem ef_int {i : Int} : EF K (tC (.int i)) (fun _ => some (.int i)) := ef_c fun _ _ => by simp only [Rep]
theorem ef_str {i : Str} : EF K (tC (.str i)) (fun _ => some (.str i)) := ef_c fun _ _ => by simp only [Rep]
theorem ef_bl {i : Bool} : EF K (tC (.bl i)) (fun _ => some (.bool i)) := ef_c fun _ _ => by simp only [Rep]
theorem ef_non : EF K (tC .non) (fun _ => some .none) := ef_c fun _ _ => by simp only [Rep]
def bnd2 {α β γ : Type} (a : Option α) (b : Option β) (g : α → β → Option γ) : Option γ := match a with
  | none => none
  | some x => match b with
    | none => none
    | some y => g x y
theorem bnd2_some {α β γ : Type} {a : Option α} {b : Option β} {g : α → β → Option γ} {z : γ} (h : bnd2 a b g = some z) : ∃ x y, a = some x ∧ b = some y ∧ g x y = some z := by
  unfold bnd2 at h
  split at h
  · cases h
  · split at h
    · cases h
    · exact ⟨_, _, rfl, rfl, h⟩
theorem bind_some' {α β : Type} {a : Option α} {g : α → Option β} {z : β} (h : a.bind g = some z) : ∃ x, a = some x ∧ g x = some z := by
  cases a with
  | none => cases h
  | some x => exact ⟨x, rfl, h⟩
theorem RepB.mono {H H' : Hp} {A : Av} {d : PyData} {v : V} (ok : AvOk A H) (e : Ex H H') (h : RepB K H A d v) : RepB K H' A d v := by
  rcases h with h | ⟨a, s, vs, ds, e1, n, p, h⟩
  · exact .inl (h.mono ok e)
  · exact .inr ⟨a, s, vs, ds, e1, n.at (fun _ u hu => e _ u hu) (fun c φ h => e c _ h), p, h.mono ok e⟩
theorem ef_op {r : R2} {g : PyData → PyData → Option PyData} (h : E2 K r g) (ha : EB K ta fa) (hb : EB K tb fb) : EF K (tOp r ta tb) (fun ρ => bnd2 (fa ρ) (fb ρ) g) := fun A ρ σ H d rs e H1 e1 Q q => by
  obtain ⟨x, y, ex, ey, eg⟩ := bnd2_some e
  refine ha A ρ σ H x rs ex H1 e1 _ fun v H2 e2 r2 => ?_
  have av2 := (rs.av.mono e1).mono e2
  refine hb A ρ σ H y rs ey H2 (e1.trans e2) _ fun w H3 e3 r3 => ?_
  exact h A H3 x y v w d (av2.mono e3) (r2.mono av2 e3) r3 eg Q fun v H4 e4 r4 => q v H4 ((e2.trans e3).trans e4) r4
theorem ef_un {r : V → Hp → VK → Prop} {g : PyData → Option PyData} (h : E1 K r g) (ha : EB K ta fa) : EF K (tUn r ta) (fun ρ => (fa ρ).bind g) := fun A ρ σ H d rs e H1 e1 Q q => by
  obtain ⟨x, ex, eg⟩ := bind_some' e
  refine ha A ρ σ H x rs ex H1 e1 _ fun v H2 e2 r2 => ?_
  exact h A H2 x v d ((rs.av.mono e1).mono e2) r2 eg Q fun v H4 e4 r4 => q v H4 (e2.trans e4) r4
theorem ea_nil : EA K tNil (fun _ => some []) := fun A ρ σ H ds rs e H1 e1 Q q => by
  cases e
  exact q [] H1 (Ex.refl _) RepL.nil
def consD (d : PyData) (ds : List PyData) : Option (List PyData) := some (d :: ds)
theorem ea_cons {tr : TA} {fr : Rho → Option (List PyData)} (ha : EF K ta fa) (hr : EA K tr fr) : EA K (tCons ta tr) (fun ρ => bnd2 (fa ρ) (fr ρ) consD) := fun A ρ σ H d rs e H1 e1 Q q => by
  obtain ⟨x, y, ex, ey, eg⟩ := bnd2_some e
  cases eg
  refine ha A ρ σ H x rs ex H1 e1 _ fun v H2 e2 r2 => ?_
  have av2 := (rs.av.mono e1).mono e2
  refine hr A ρ σ H y rs ey H2 (e1.trans e2) _ fun vs H3 e3 r3 => ?_
  exact q _ H3 (e2.trans e3) (RepL.cons (r2.mono av2 e3) r3)
def lenOk (n : Nat) : Bool := decide (n ≤ sizeLine)
def tupD (ds : List PyData) : Option PyData := if lenOk ds.length then some (.tuple ds) else none
def lstD (ds : List PyData) : Option PyData := if lenOk ds.length then some (.list ds) else none
theorem ef_tup {tr : TA} {fr : Rho → Option (List PyData)} (ha : EA K tr fr) : EF K (tTupF tr) (fun ρ => (fr ρ).bind tupD) := fun A ρ σ H d rs e H1 e1 Q q => by
  obtain ⟨x, ex, eg⟩ := bind_some' e
  unfold tupD at eg
  split at eg
  · rename_i hl
    cases eg
    refine ha A ρ σ H x rs ex H1 e1 _ fun vs H2 e2 r2 => ⟨by rw [r2.length]; exact of_decide_eq_true hl, fun p o ho hp => ?_⟩
    have av2 := (rs.av.mono e1).mono e2
    refine q _ _ (e2.trans (Ex.new hp)) ?_
    simp only [Rep]
    exact ⟨p, vs, rfl, ⟨.inl (.inr ⟨o, upd_same⟩), .inr (.inl ⟨o, vs, upd_same, ho⟩)⟩, r2.mono av2 (Ex.new hp)⟩
  · cases eg
def asB : PyData → Option Bool
  | .bool b => some b
  | _ => none
theorem asB_some {d : PyData} {b : Bool} (h : asB d = some b) : d = .bool b := by
  cases d <;> simp [asB] at h
  subst h; rfl
theorem et_test (h : EF K te f) : ET K (tTest te) (fun ρ => (f ρ).bind asB) := fun A ρ σ H b rs e H1 e1 Q q => by
  obtain ⟨x, ex, eg⟩ := bind_some' e
  cases asB_some eg
  refine h A ρ σ H _ rs ex H1 e1 _ fun v H2 e2 r => ⟨b, by simpa only [Rep] using r, q H2 e2⟩
theorem et_B (h : EF K te f) : ET K (tB te) (fun ρ => (f ρ).bind asB) := fun A ρ σ H b rs e H1 e1 Q q => by
  obtain ⟨x, ex, eg⟩ := bind_some' e
  cases asB_some eg
  refine h A ρ σ H _ rs ex H1 e1 _ fun v H2 e2 r => ⟨b, by simpa only [Rep] using r, q H2 e2⟩
def andB (a : Option Bool) (b : Option Bool) : Option Bool := match a with
  | some true => b
  | some false => some false
  | none => none
def orB (a : Option Bool) (b : Option Bool) : Option Bool := match a with
  | some true => some true
  | some false => b
  | none => none
theorem et_and {t u : TT} {f g : Rho → Option Bool} (h1 : ET K t f) (h2 : ET K u g) : ET K (tAnd t u) (fun ρ => andB (f ρ) (g ρ)) := fun A ρ σ H b rs e H1 e1 Q q => by
  dsimp only [andB] at e
  split at e
  · rename_i h
    refine h1 A ρ σ H true rs h H1 e1 _ fun H2 e2 => ?_
    exact h2 A ρ σ H b rs e H2 (e1.trans e2) Q fun H3 e3 => q H3 (e2.trans e3)
  · rename_i h
    cases e
    refine h1 A ρ σ H false rs h H1 e1 _ fun H2 e2 => ?_
    exact q H2 e2
  · cases e
theorem et_or {t u : TT} {f g : Rho → Option Bool} (h1 : ET K t f) (h2 : ET K u g) : ET K (tOr t u) (fun ρ => orB (f ρ) (g ρ)) := fun A ρ σ H b rs e H1 e1 Q q => by
  dsimp only [orB] at e
  split at e
  · rename_i h
    cases e
    refine h1 A ρ σ H true rs h H1 e1 _ fun H2 e2 => ?_
    exact q H2 e2
  · rename_i h
    refine h1 A ρ σ H false rs h H1 e1 _ fun H2 e2 => ?_
    exact h2 A ρ σ H b rs e H2 (e1.trans e2) Q fun H3 e3 => q H3 (e2.trans e3)
  · cases e
theorem et_not {t : TT} {f : Rho → Option Bool} (h1 : ET K t f) : ET K (tNot t) (fun ρ => (f ρ).map not) := fun A ρ σ H b rs e H1 e1 Q q => by
  cases hf : f ρ with
  | none => simp only [hf] at e; cases e
  | some c =>
    simp only [hf] at e
    cases e
    exact h1 A ρ σ H c rs hf H1 e1 _ fun H2 e2 => q H2 e2
theorem et_yes : ET K tYes (fun _ => some true) := fun A ρ σ H b rs e H1 e1 Q q => by
  cases e
  exact q H1 (Ex.refl _)
def andV (a b : Option PyData) : Option PyData := match a with
  | some (.bool true) => b
  | some (.bool false) => some (.bool false)
  | _ => none
def orV (a b : Option PyData) : Option PyData := match a with
  | some (.bool true) => some (.bool true)
  | some (.bool false) => b
  | _ => none
theorem ef_andV (h1 : EF K ta fa) (h2 : EF K tb fb) : EF K (tAndV ta tb) (fun ρ => andV (fa ρ) (fb ρ)) := fun A ρ σ H d rs e H1 e1 Q q => by
  dsimp only [andV] at e
  split at e
  · rename_i h
    refine h1 A ρ σ H _ rs h H1 e1 _ fun v H2 e2 r => ⟨true, by simpa only [Rep] using r, ?_⟩
    exact h2 A ρ σ H d rs e H2 (e1.trans e2) Q fun v H3 e3 r => q v H3 (e2.trans e3) r
  · rename_i h
    cases e
    refine h1 A ρ σ H _ rs h H1 e1 _ fun v H2 e2 r => ⟨false, by simpa only [Rep] using r, ?_⟩
    exact q _ H2 e2 (by simp only [Rep])
  · cases e
theorem ef_orV (h1 : EF K ta fa) (h2 : EF K tb fb) : EF K (tOrV ta tb) (fun ρ => orV (fa ρ) (fb ρ)) := fun A ρ σ H d rs e H1 e1 Q q => by
  dsimp only [orV] at e
  split at e
  · rename_i h
    cases e
    refine h1 A ρ σ H _ rs h H1 e1 _ fun v H2 e2 r => ⟨true, by simpa only [Rep] using r, ?_⟩
    exact q _ H2 e2 (by simp only [Rep])
  · rename_i h
    refine h1 A ρ σ H _ rs h H1 e1 _ fun v H2 e2 r => ⟨false, by simpa only [Rep] using r, ?_⟩
    exact h2 A ρ σ H d rs e H2 (e1.trans e2) Q fun v H3 e3 r => q v H3 (e2.trans e3) r
  · cases e
theorem ef_notV (h1 : EF K ta fa) : EF K (tNotV ta) (fun ρ => ((fa ρ).bind asB).map fun b => .bool (!b)) := fun A ρ σ H d rs e H1 e1 Q q => by
  cases h : (fa ρ).bind asB with
  | none => simp only [h] at e; cases e
  | some b =>
    simp only [h] at e
    cases e
    obtain ⟨x, ex, eg⟩ := bind_some' h
    cases asB_some eg
    refine h1 A ρ σ H _ rs ex H1 e1 _ fun v H2 e2 r => ⟨b, by simpa only [Rep] using r, q _ H2 e2 (by simp only [Rep])⟩
end
end Sv
namespace Sv
open PySem L2 Evl
def setsS (σ : St) : List Nat → List V → St
  | i :: is, v :: vs => setsS (σ.set i (some v)) is vs
  | _, _ => σ
def setsR (ρ : Rho) : List Nat → List PyData → Rho
  | i :: is, d :: ds => setsR (ρ.set i (.val d)) is ds
  | _, _ => ρ
structure EG (K : Fg) (g : TG) (is : List Nat) (h : PyData → Option (List PyData)) : Prop where
  len : ∀ d es, h d = some es → es.length = is.length
  run : ∀ A σ H d v es, AvOk A H → Rep K H A d v → h d = some es → ∀ Q : St → Hp → Prop, (∀ vs, RepL K H A es vs → Q (setsS σ is vs) H) → g v σ H Q
structure EGs (K : Fg) (g : TGs) (is : List Nat) (h : List PyData → Option (List PyData)) : Prop where
  len : ∀ d es, h d = some es → es.length = is.length
  run : ∀ A σ H d v es, AvOk A H → RepL K H A d v → h d = some es → ∀ Q : St → Hp → Prop, (∀ vs, RepL K H A es vs → Q (setsS σ is vs) H) → g v σ H Q
theorem setsS_append : ∀ (is js : List Nat) (vs ws : List V) (σ : St), is.length = vs.length → setsS (setsS σ is vs) js ws = setsS σ (is ++ js) (vs ++ ws)
  | [], js, [], ws, σ, _ => rfl
  | [], js, _ :: _, ws, σ, h => by simp at h
  | _ :: _, js, [], ws, σ, h => by simp at h
  | i :: is, js, v :: vs, ws, σ, h => by
    show setsS (setsS (σ.set i (some v)) is vs) js ws = setsS (σ.set i (some v)) (is ++ js) (vs ++ ws)
    exact setsS_append is js vs ws _ (by simpa using h)
section
variable {K : Fg}
def tg1 (d : PyData) : Option (List PyData) := some [d]
def tgN : List PyData → Option (List PyData)
  | [] => some []
  | _ => none
def tgC (f : PyData → Option (List PyData)) (fs : List PyData → Option (List PyData)) : List PyData → Option (List PyData)
  | [] => none
  | d :: r => bnd2 (f d) (fs r) fun p q => some (p ++ q)
def tgT (n : Nat) (fs : List PyData → Option (List PyData)) : PyData → Option (List PyData)
  | .tuple ds => if ds.length = n then fs ds else none
  | _ => none
theorem eg_name (i : Nat) : EG K (gName i) [i] tg1 :=
  ⟨fun d es e => by cases e; rfl, fun A σ H d v es ok r e Q q => by
    cases e
    exact q [v] (RepL.one r)⟩
theorem egs_nil : EGs K gNil [] tgN := by
  refine ⟨fun d es e => ?_, fun A σ H d v es ok r e Q q => ?_⟩ <;> unfold tgN at e
  · split at e
    · cases e; rfl
    · cases e
  · split at e
    · cases e
      simp only [RepL] at r
      subst r
      exact ⟨rfl, q [] RepL.nil⟩
    · cases e
theorem egs_cons {g : TG} {u : TGs} {is js : List Nat} {f : PyData → Option (List PyData)} {fs : List PyData → Option (List PyData)} (h1 : EG K g is f) (h2 : EGs K u js fs) :
    EGs K (gCons g u) (is ++ js) (tgC f fs) := by
  refine ⟨fun d es e => ?_, fun A σ H d v es ok r e Q q => ?_⟩ <;> unfold tgC at e
  · split at e
    · cases e
    · obtain ⟨x, y, e1, e2, e3⟩ := bnd2_some e
      cases e3
      simp [h1.len _ _ e1, h2.len _ _ e2]
  · split at e
    · cases e
    · obtain ⟨x, y, e1, e2, e3⟩ := bnd2_some e
      cases e3
      simp only [RepL] at r
      obtain ⟨w, ws, rfl, r1, r2⟩ := r
      refine ⟨w, ws, rfl, h1.run A σ H _ w x ok r1 e1 _ fun vs hv => ?_⟩
      refine h2.run A _ H _ ws y ok r2 e2 _ fun us hu => ?_
      rw [setsS_append _ _ _ _ _ (by rw [hv.length, h1.len _ _ e1])]
      exact q _ (hv.append hu)
theorem eg_tup {n : Nat} {u : TGs} {is : List Nat} {fs : List PyData → Option (List PyData)} (h : EGs K u is fs) : EG K (gTup K n u) is (tgT n fs) := by
  refine ⟨fun d es e => ?_, fun A σ H d v es ok r e Q q => ?_⟩ <;> unfold tgT at e
  · split at e
    · split at e
      · exact h.len _ _ e
      · cases e
    · cases e
  · split at e
    · split at e
      · rename_i hl
        simp only [Rep] at r
        obtain ⟨a, xs, rfl, ⟨h1, _⟩, h2⟩ := r
        exact ⟨a, xs, rfl, h1, by rw [h2.length, hl], h.run A σ H _ xs es ok h2 e Q q⟩
      · cases e
    · cases e
end
def Avd (O : Av) (ρ : Rho) (ow : Nat → List Addr) : Av := fun x => O x ∨ ∃ i o, ρ[i]? = some (.own o) ∧ x ∈ ow i
structure SR (K : Fg) (Hb : Hp) (O : Av) (pn : Nat → V) (ow : Nat → List Addr) (ρ : Rho) (σ : St) (H : Hp) : Prop where
  rs : RS K (Avd O ρ ow) ρ σ H
  ex : Ex Hb H
  ob : AvOk O Hb
  own : ∀ i o, ρ[i]? = some (.own o) → ∃ v, σ[i]? = some (some v) ∧ Tree K H (Avd O ρ ow) o.od v (ow i)
  pin : ∀ i o, ρ[i]? = some (.own o) → o.par = true → σ[i]? = some (some (pn i))
  nd : ∀ i o, ρ[i]? = some (.own o) → (ow i).Nodup
  fr : ∀ i o, ρ[i]? = some (.own o) → ∀ a ∈ ow i, Hb a = none
  inj : ∀ i j o o', ρ[i]? = some (.own o) → ρ[j]? = some (.own o') → i ≠ j → ∀ a ∈ ow i, a ∉ ow j
inductive Res where
  | nx (ρ : Rho)
  | ret (d : PyData)
  | rex (d : PyData) (ρ : Rho)
  | brk (ρ : Rho)
  | ct (ρ : Rho)
def Fin (K : Fg) (Hb : Hp) (O : Av) (pn : Nat → V) (D : Ends) : Res → Prop
  | .nx ρ => ∀ ow σ H, SR K Hb O pn ow ρ σ H → D.nx σ H
  | .ret d => ∀ v H, Ex Hb H → Rep K H O d v → D.rt v H
  | .rex d ρ => ∀ ow σ v H, SR K Hb O pn ow ρ σ H → Rep K H (Avd O ρ ow) d v → D.rt v H
  | .brk ρ => ∀ ow σ H, SR K Hb O pn ow ρ σ H → D.bk σ H
  | .ct ρ => ∀ ow σ H, SR K Hb O pn ow ρ σ H → D.ct σ H
def ES (K : Fg) (t : TS) (f : Rho → Option Res) : Prop := ∀ Hb O pn ow ρ σ H r D, SR K Hb O pn ow ρ σ H → f ρ = some r → Fin K Hb O pn D r → t D σ H
section
variable {K : Fg} {Hb H H' H1 H2 : Hp} {O A B : Av} {pn : Nat → V} {ow : Nat → List Addr} {ρ : Rho} {σ : St} {D : Ends} {r : Res}
theorem SR.build (len : ρ.length = σ.length) (av : AvOk (Avd O ρ ow) H) (ex : Ex Hb H) (ob : AvOk O Hb) (at' : ∀ (i : Nat) (s : Sl), ρ[i]? = some s → (∀ o, s ≠ .own o) → SlOk K H (Avd O ρ ow) s σ[i]?)
    (own : ∀ i o, ρ[i]? = some (.own o) → ∃ v, σ[i]? = some (some v) ∧ Tree K H (Avd O ρ ow) o.od v (ow i)) (pin : ∀ i o, ρ[i]? = some (.own o) → o.par = true → σ[i]? = some (some (pn i))) (nd : ∀ i o, ρ[i]? = some (.own o) → (ow i).Nodup) (fr : ∀ i o, ρ[i]? = some (.own o) → ∀ a ∈ ow i, Hb a = none)
    (inj : ∀ i j o o', ρ[i]? = some (.own o) → ρ[j]? = some (.own o') → i ≠ j → ∀ a ∈ ow i, a ∉ ow j) : SR K Hb O pn ow ρ σ H := by
  refine ⟨⟨len, av, fun i s q => ?_⟩, ex, ob, own, pin, nd, fr, inj⟩
  cases s with
  | own o =>
    obtain ⟨v, h1, h2⟩ := own i o q
    exact ⟨v, _, h1, h2⟩
  | no => trivial
  | val d => exact at' i _ q fun o z => nomatch z
  | scr d => exact at' i _ q fun o z => nomatch z
  | fn f c qq => exact at' i _ q fun o z => nomatch z
theorem SR.mono (e : Ex H H') (h : SR K Hb O pn ow ρ σ H) : SR K Hb O pn ow ρ σ H' := ⟨h.rs.mono e, h.ex.trans e, h.ob, fun i o q => let ⟨v, h1, h2⟩ := h.own i o q; ⟨v, h1, h2.mono h.rs.av e⟩, h.pin, h.nd, h.fr, h.inj⟩
theorem own_set {i j : Nat} {s : Sl} {e : OW} (hs : ∀ o, s ≠ .own o) (h : (ρ.set i s)[j]? = some (.own e)) : j ≠ i ∧ ρ[j]? = some (.own e) := by
  by_cases hj : i = j
  · subst hj
    by_cases hi : i < ρ.length
    · rw [List.getElem?_set_self hi] at h; cases h; exact (hs e rfl).elim
    · rw [List.getElem?_eq_none (by simpa using hi)] at h; cases h
  · rw [List.getElem?_set_ne hj] at h
    exact ⟨fun z => hj z.symm, h⟩
theorem own_setO {i j : Nat} {d e : OW} (h : (ρ.set i (.own d))[j]? = some (.own e)) : (j = i ∧ e = d ∧ i < ρ.length) ∨ (j ≠ i ∧ ρ[j]? = some (.own e)) := by
  by_cases hj : i = j
  · subst hj
    by_cases hi : i < ρ.length
    · rw [List.getElem?_set_self hi] at h; cases h; exact .inl ⟨rfl, rfl, hi⟩
    · rw [List.getElem?_eq_none (by simpa using hi)] at h; cases h
  · rw [List.getElem?_set_ne hj] at h
    exact .inr ⟨fun z => hj z.symm, h⟩
theorem nov {d : PyData} : ∀ o, Sl.val d ≠ .own o := fun _ z => nomatch z
theorem non_ : ∀ o, Sl.no ≠ .own o := fun _ z => nomatch z
theorem RS.anti (s : ∀ a, B a → A a) (h : RS K A ρ σ H) : RS K B ρ σ H := ⟨h.len, fun a ha => h.av a (s a ha), fun i l q => (h.at' i l q).anti s⟩
theorem Avd.set {i : Nat} {s : Sl} (hs : ∀ o, s ≠ .own o) : ∀ a, Avd O (ρ.set i s) ow a → Avd O ρ ow a := fun a h => by
  rcases h with h | ⟨j, e, h1, h2⟩
  · exact .inl h
  · exact .inr ⟨j, e, (own_set hs h1).2, h2⟩
theorem SR.setS {i : Nat} {s : Sl} {x : Option V} (hs : ∀ o, s ≠ .own o) (h : SR K Hb O pn ow ρ σ H) (r : i < σ.length → SlOk K H (Avd O (ρ.set i s) ow) s (some x)) : SR K Hb O pn ow (ρ.set i s) (σ.set i x) H := by
  have rs0 : RS K (Avd O (ρ.set i s) ow) ρ σ H := h.rs.anti (Avd.set hs)
  refine ⟨⟨by simp [h.rs.len], rs0.av, fun j l q => ?_⟩, h.ex, h.ob, fun j e q => ?_, fun j e q => ?_, fun j e q => h.nd j e (own_set hs q).2, fun j e q => h.fr j e (own_set hs q).2, fun j k e e' q q' => h.inj j k e e' (own_set hs q).2 (own_set hs q').2⟩
  · by_cases hj : i = j
    · subst hj
      by_cases hi : i < ρ.length
      · rw [List.getElem?_set_self hi] at q
        cases q
        have hi' : i < σ.length := by rw [← h.rs.len]; exact hi
        rw [List.getElem?_set_self hi']
        exact r hi'
      · rw [List.getElem?_eq_none (by simpa using hi)] at q
        cases q
    · rw [List.getElem?_set_ne hj] at q ⊢
      exact rs0.at' j l q
  · obtain ⟨hj, q⟩ := own_set hs q
    rw [List.getElem?_set_ne (Ne.symm hj)]
    obtain ⟨v, h1, h2⟩ := h.own j e q
    exact ⟨v, h1, Tree.anti (Avd.set hs) _ _ _ h2⟩
  · obtain ⟨hj, q⟩ := own_set hs q
    rw [List.getElem?_set_ne (Ne.symm hj)]
    exact h.pin j e q
theorem SR.setV {i : Nat} {d : PyData} {v : V} (h : SR K Hb O pn ow ρ σ H) (r : Rep K H (Avd O ρ ow) d v) : SR K Hb O pn ow (ρ.set i (.val d)) (σ.set i (some v)) H :=
  h.setS nov fun _ => ⟨v, rfl, Rep.anti (Avd.set nov) _ _ r⟩
theorem SR.sets : ∀ {is : List Nat} {ds : List PyData} {vs : List V} {ρ : Rho} {σ : St}, SR K Hb O pn ow ρ σ H → RepL K H (Avd O ρ ow) ds vs → SR K Hb O pn ow (setsR ρ is ds) (setsS σ is vs) H
  | [], ds, vs, ρ, σ, h, r => h
  | i :: is, [], vs, ρ, σ, h, r => by
    simp only [RepL] at r
    subst r
    exact h
  | i :: is, d :: ds, vs, ρ, σ, h, r => by
    simp only [RepL] at r
    obtain ⟨v, ws, rfl, r1, r2⟩ := r
    exact SR.sets (is := is) (ds := ds) (vs := ws) (ρ := ρ.set i (.val d)) (σ := σ.set i (some v)) (h.setV r1) (RepL.anti (Avd.set nov) _ _ r2)
theorem RS.sets : ∀ {is : List Nat} {ds : List PyData} {vs : List V} {ρ : Rho} {σ : St}, RS K A ρ σ H → RepL K H A ds vs → RS K A (setsR ρ is ds) (setsS σ is vs) H
  | [], ds, vs, ρ, σ, h, r => h
  | i :: is, [], vs, ρ, σ, h, r => by
    simp only [RepL] at r
    subst r
    exact h
  | i :: is, d :: ds, vs, ρ, σ, h, r => by
    simp only [RepL] at r
    obtain ⟨v, ws, rfl, r1, r2⟩ := r
    exact RS.sets (is := is) (ds := ds) (vs := ws) (ρ := ρ.set i (.val d)) (σ := σ.set i (some v)) (h.set r1) r2
/-- the base may be less -/
theorem SR.base {Hc : Hp} (e : Ex Hb Hc) (ob : AvOk O Hb) (h : SR K Hc O pn ow ρ σ H) : SR K Hb O pn ow ρ σ H :=
  ⟨h.rs, e.trans h.ex, ob, h.own, h.pin, h.nd, fun i d q a ha => fresh_back e (h.fr i d q a ha), h.inj⟩
theorem Fin.base {Hc : Hp} (e : Ex Hb Hc) (ob : AvOk O Hb) (h : Fin K Hb O pn D r) : Fin K Hc O pn D r := by
  cases r with
  | nx ρ => exact fun ow σ H s => h ow σ H (s.base e ob)
  | ret d => exact fun v H x q => h v H (e.trans x) q
  | rex d ρ => exact fun ow σ v H s q => h ow σ v H (s.base e ob) q
  | brk ρ => exact fun ow σ H s => h ow σ H (s.base e ob)
  | ct ρ => exact fun ow σ H s => h ow σ H (s.base e ob)
open Classical in
/-- the heap without the names' own -/
noncomputable def less (ρ : Rho) (ow : Nat → List Addr) (H : Hp) : Hp := fun b => if ∃ i o, ρ[i]? = some (.own o) ∧ b ∈ ow i then none else H b
theorem less_own {i : Nat} {d : OW} (q : ρ[i]? = some (.own d)) {a : Addr} (ha : a ∈ ow i) : less ρ ow H a = none := by
  unfold less; rw [if_pos ⟨i, d, q, ha⟩]
theorem less_not {b : Addr} (n : ¬ ∃ i d, ρ[i]? = some (.own d) ∧ b ∈ ow i) : less ρ ow H b = H b := by
  unfold less; rw [if_neg n]
theorem less_ex : Ex (less ρ ow H) H := fun b o e => by
  unfold less at e
  split at e
  · cases e
  · exact e
theorem SR.rebase (h : SR K Hb O pn ow ρ σ H) : SR K (less ρ ow H) O pn ow ρ σ H ∧ Ex Hb (less ρ ow H) := by
  have notown : ∀ b o, Hb b = some o → ¬ ∃ i d, ρ[i]? = some (.own d) ∧ b ∈ ow i := fun b o e ⟨i, d, q, z⟩ => by
    rw [h.fr i d q b z] at e; cases e
  have e : Ex Hb (less ρ ow H) := fun b o q => by rw [less_not (notown b o q)]; exact h.ex b o q
  exact ⟨⟨h.rs, less_ex, h.ob.mono e, h.own, h.pin, h.nd, fun i d q a ha => less_own q ha, h.inj⟩, e⟩
/-- O is none of the names' own -/
theorem SR.notO (h : SR K Hb O pn ow ρ σ H) {i : Nat} {o : OW} (q : ρ[i]? = some (.own o)) {a : Addr} (ha : a ∈ ow i) : ¬ O a := fun z => by
  have := h.ob a z
  rw [h.fr i o q a ha] at this
  exact this
def owU (ow : Nat → List Addr) (i : Nat) (F : List Addr) : Nat → List Addr := fun j => if j = i then F else ow j
theorem owU_same {i : Nat} {F : List Addr} : owU ow i F i = F := if_pos rfl
theorem owU_ne {i j : Nat} {F : List Addr} (h : j ≠ i) : owU ow i F j = ow j := if_neg h
/-- a slot's own is another one -/
theorem SR.put {i : Nat} {o2 : OW} {v : V} {F2 : List Addr} {G : Addr → Prop} (sr : SR K Hb O pn ow ρ σ H) (hil : i < ρ.length) (hG : ∀ a, G a → ∃ o, ρ[i]? = some (.own o) ∧ a ∈ ow i) (k : ∀ b u, H b = some u → ¬ G b → H' b = some u)
    (hF : ∀ a ∈ F2, H a = none ∨ ∃ o, ρ[i]? = some (.own o) ∧ a ∈ ow i) (nd : F2.Nodup) (t : Tree K H' (fun x => Avd O (ρ.set i .no) ow x ∨ x ∈ F2) o2.od v F2) (hpn : o2.par = true → v = pn i) :
    SR K Hb O pn (owU ow i F2) (ρ.set i (.own o2)) (σ.set i (some v)) H' := by
  have notG : ∀ a, Avd O (ρ.set i .no) ow a → ¬ G a := fun a ha hg => by
    obtain ⟨o, q, hm⟩ := hG a hg
    rcases ha with ha | ⟨j, e, q', hm'⟩
    · exact sr.notO q hm ha
    · obtain ⟨hj, q'⟩ := own_set non_ q'
      exact sr.inj i j o e q q' (Ne.symm hj) a hm hm'
  have kp : Kp (Avd O ρ ow) H H' := fun b u e n => k b u e fun g => by
    obtain ⟨o, q, hm⟩ := hG b g
    exact n (.inr ⟨i, o, q, hm⟩)
  have hb : ∀ a, (Avd O (ρ.set i .no) ow a ∨ a ∈ F2) → Avd O ρ ow a ∨ H a = none := fun a ha => by
    rcases ha with ha | ha
    · exact .inl (Avd.set non_ a ha)
    · rcases hF a ha with h | ⟨o, q, hm⟩
      · exact .inr h
      · exact .inl (.inr ⟨i, o, q, hm⟩)
  have keepA : ∀ a, Avd O (ρ.set i .no) ow a → ∀ u, H a = some u → H' a = some u := fun a ha u hu => k a u hu (notG a ha)
  have avC : AvOk (fun x => Avd O (ρ.set i .no) ow x ∨ x ∈ F2) H' := fun a ha => by
    rcases ha with ha | ha
    · have m := sr.rs.av a (Avd.set non_ a ha)
      cases q : H a with
      | none => rw [q] at m; exact m.elim
      | some u => rw [keepA a ha u q]; rw [q] at m; exact m
    · exact Tree.mut _ _ _ t a ha
  have sub : ∀ x, Avd O (ρ.set i (.own o2)) (owU ow i F2) x → Avd O (ρ.set i .no) ow x ∨ x ∈ F2 := fun x hx => by
    rcases hx with hx | ⟨j, e, q, z⟩
    · exact .inl (.inl hx)
    · rcases own_setO q with ⟨rfl, _, _⟩ | ⟨hj, q⟩
      · rw [owU_same] at z; exact .inr z
      · rw [owU_ne hj] at z
        exact .inl (.inr ⟨j, e, by rw [List.getElem?_set_ne (Ne.symm hj)]; exact q, z⟩)
  have oth : ∀ j o, j ≠ i → ρ[j]? = some (.own o) → ∀ a ∈ ow j, Avd O (ρ.set i .no) ow a := fun j o hj q a ha => .inr ⟨j, o, by rw [List.getElem?_set_ne (Ne.symm hj)]; exact q, ha⟩
  have hil' : i < σ.length := by rw [← sr.rs.len]; exact hil
  refine SR.build (by simpa using sr.rs.len) (avC.anti sub) (fun b u e => k b u (sr.ex b u e) fun g => ?_) sr.ob (fun j s q ns => ?_) (fun j e q => ?_) (fun j e q hpar => ?_) (fun j e q => ?_) (fun j e q => ?_) (fun j l e e' q q' hne a ha ha' => ?_)
  · obtain ⟨o, q, hm⟩ := hG b g
    rw [sr.fr i o q b hm] at e; cases e
  · by_cases hj : i = j
    · subst hj
      rw [List.getElem?_set_self hil] at q
      cases q
      exact (ns o2 rfl).elim
    · rw [List.getElem?_set_ne hj] at q ⊢
      have s0 := sr.rs.at' j s q
      cases s with
      | no => trivial
      | scr ns' => obtain ⟨b, h1, h2⟩ := s0; exact ⟨b, h1, h2.keep sr.rs.av kp⟩
      | fn f c qq => exact ⟨s0.1, code_keep sr.rs.av kp s0.2⟩
      | val d' => obtain ⟨w, h1, h2⟩ := s0; exact ⟨w, h1, Rep.anti sub _ _ (Rep.keep2 sr.rs.av kp hb _ _ h2)⟩
      | own o => exact (ns o rfl).elim
  · rcases own_setO q with ⟨rfl, rfl, _⟩ | ⟨hj, q⟩
    · refine ⟨v, by rw [List.getElem?_set_self hil'], ?_⟩
      rw [owU_same]
      exact Tree.anti sub _ _ _ t
    · rw [List.getElem?_set_ne (Ne.symm hj), owU_ne hj]
      obtain ⟨w, h1, h2⟩ := sr.own j e q
      exact ⟨w, h1, Tree.anti sub _ _ _ (Tree.keep2 sr.rs.av kp hb _ _ _ (fun a ha u hu => keepA a (oth j e hj q a ha) u hu) h2)⟩
  · rcases own_setO q with ⟨rfl, rfl, _⟩ | ⟨hj, q⟩
    · rw [List.getElem?_set_self hil', hpn hpar]
    · rw [List.getElem?_set_ne (Ne.symm hj)]
      exact sr.pin j e q hpar
  · rcases own_setO q with ⟨rfl, rfl, _⟩ | ⟨hj, q⟩
    · rw [owU_same]; exact nd
    · rw [owU_ne hj]; exact sr.nd j e q
  · rcases own_setO q with ⟨rfl, rfl, _⟩ | ⟨hj, q⟩
    · rw [owU_same]
      intro a ha
      rcases hF a ha with h | ⟨o, q, hm⟩
      · exact fresh_back sr.ex h
      · exact sr.fr _ o q a hm
    · rw [owU_ne hj]; exact sr.fr j e q
  · have key : ∀ (j : Nat) (e : OW), j ≠ i → ρ[j]? = some (.own e) → ∀ a ∈ ow j, a ∉ F2 := fun j e hj q a ha hf => by
      rcases hF a hf with h | ⟨o, q', hm⟩
      · have m := sr.rs.av a (.inr ⟨j, e, q, ha⟩)
        rw [h] at m; exact m
      · exact sr.inj j i e o q q' hj a ha hm
    rcases own_setO q with ⟨rfl, rfl, _⟩ | ⟨hj, q⟩
    · rcases own_setO q' with ⟨rfl, rfl, _⟩ | ⟨hk, q'⟩
      · exact hne rfl
      · rw [owU_same] at ha
        rw [owU_ne hk] at ha'
        exact key l e' hk q' a ha' ha
    · rename_i q1
      rw [owU_ne hj] at ha
      rcases own_setO q' with ⟨rfl, rfl, _⟩ | ⟨hk, q'⟩
      · rw [owU_same] at ha'
        exact key j e hj (by assumption) a ha ha'
      · rw [owU_ne hk] at ha'
        exact sr.inj j l e e' (by assumption) q' hne a ha ha'
theorem set_same {α : Type} : ∀ {l : List α} {i : Nat} {x : α}, l[i]? = some x → l.set i x = l
  | [], i, x, h => by simp at h
  | y :: l, 0, x, h => by simp at h; subst h; rfl
  | y :: l, i + 1, x, h => by
    rw [List.set_cons_succ, set_same (by simpa using h)]
/-- a part of a slot's own is another one -/
theorem SR.part {i : Nat} {o : OW} {o1 : OD} {p : List Nat} {v v1 : V} (sr : SR K Hb O pn ow ρ σ H) (hi : ρ[i]? = some (.own o)) (hv : σ[i]? = some (some v)) (ha : At K H v o.od p v1) (hp : getP o.od p = some o1) :
    ∃ F1, Tree K H (Avd O ρ ow) o1 v1 F1 ∧ (∀ a ∈ F1, a ∈ ow i) ∧ F1.Nodup ∧ ∀ (H' : Hp) (o2 : OD) (F2 : List Addr), (∀ b u, H b = some u → b ∉ F1 → H' b = some u) → (∀ a ∈ F2, H a = none ∨ a ∈ F1) → F2.Nodup →
      Tree K H' (fun x => (Avd O ρ ow x ∧ x ∉ F1) ∨ x ∈ F2) o2 v1 F2 → ∃ ow', SR K Hb O pn ow' (ρ.set i (.own ⟨setP o.od p o2, o.par⟩)) σ H' ∧ ∀ a, Avd O (ρ.set i (.own ⟨setP o.od p o2, o.par⟩)) ow' a → (Avd O ρ ow a ∧ a ∉ F1) ∨ a ∈ F2 := by
  obtain ⟨v', hv', t⟩ := sr.own i o hi
  rw [hv] at hv'
  cases hv'
  have hil : i < ρ.length := (List.getElem?_eq_some_iff.mp hi).1
  obtain ⟨F1, pre, post, eF, t1, cl⟩ := t.zip ha hp
  have nd0 : (pre ++ F1 ++ post).Nodup := eF ▸ sr.nd i o hi
  have ndl := List.nodup_append.mp nd0
  have nda := List.nodup_append.mp ndl.1
  have sub1 : ∀ a ∈ F1, a ∈ ow i := fun a h => by rw [eF]; simp [h]
  have dis : ∀ a ∈ pre ++ post, a ∉ F1 := fun a h h1 => by
    rcases List.mem_append.mp h with h | h
    · exact nda.2.2 a h a h1 rfl
    · exact ndl.2.2 a (List.mem_append_right _ h1) a h rfl
  refine ⟨F1, t1, sub1, nda.2.1, fun H' o2 F2 k hF nd2 t2 => ?_⟩
  have inA : ∀ a ∈ ow i, Avd O ρ ow a := fun a h => .inr ⟨i, o, hi, h⟩
  have kp : Kp (Avd O ρ ow) H H' := fun b u e n => k b u e fun h => n (inA b (sub1 b h))
  have kpre : ∀ a ∈ pre ++ post, ∀ u, H a = some u → H' a = some u := fun a h u hu => k a u hu (dis a h)
  have hb : ∀ a, ((Avd O ρ ow a ∧ a ∉ F1) ∨ a ∈ F2) → Avd O ρ ow a ∨ H a = none := fun a h => by
    rcases h with h | h
    · exact .inl h.1
    · rcases hF a h with h | h
      · exact .inr h
      · exact .inl (inA a (sub1 a h))
  have tt := cl H' _ o2 F2 sr.rs.av kp hb kpre t2
  have preA : ∀ a ∈ pre ++ post, a ∈ ow i := fun a h => by
    rw [eF]
    rcases List.mem_append.mp h with h | h <;> simp [h]
  have some_of : ∀ a ∈ ow i, H a ≠ none := fun a h z => by
    have m := sr.rs.av a (inA a h)
    rw [z] at m; exact m
  have nd3 : (pre ++ F2 ++ post).Nodup := by
    have d2 : ∀ a ∈ pre ++ post, a ∉ F2 := fun a h h2 => by
      rcases hF a h2 with z | z
      · exact some_of a (preA a h) z
      · exact dis a h z
    refine List.nodup_append.mpr ⟨List.nodup_append.mpr ⟨nda.1, nd2, fun a h b h' z => ?_⟩, ndl.2.1, fun a h b h' z => ?_⟩
    · subst z; exact d2 a (List.mem_append_left _ h) h'
    · subst z
      rcases List.mem_append.mp h with h | h
      · exact ndl.2.2 a (List.mem_append_left _ h) a h' rfl
      · exact d2 a (List.mem_append_right _ h') h
  have sr' := sr.put (i := i) (o2 := ⟨setP o.od p o2, o.par⟩) (v := v) (F2 := pre ++ F2 ++ post) (G := fun a => a ∈ F1) (H' := H') hil (fun a h => ⟨o, hi, sub1 a h⟩) k (fun a h => by
      rcases List.mem_append.mp h with h | h
      · rcases List.mem_append.mp h with h | h
        · exact .inr ⟨o, hi, preA a (List.mem_append_left _ h)⟩
        · rcases hF a h with h | h
          · exact .inl h
          · exact .inr ⟨o, hi, sub1 a h⟩
      · exact .inr ⟨o, hi, preA a (List.mem_append_right _ h)⟩) nd3 (Tree.anti (fun a h => by
      rcases h with h | h
      · refine .inl ⟨Avd.set non_ a h, fun h1 => ?_⟩
        rcases h with h | ⟨j, e, q, z⟩
        · exact sr.notO hi (sub1 a h1) h
        · obtain ⟨hj, q⟩ := own_set non_ q
          exact sr.inj i j o e hi q (Ne.symm hj) a (sub1 a h1) z
      · rcases List.mem_append.mp h with h | h
        · rcases List.mem_append.mp h with h | h
          · exact .inl ⟨inA a (preA a (List.mem_append_left _ h)), dis a (List.mem_append_left _ h)⟩
          · exact .inr h
        · exact .inl ⟨inA a (preA a (List.mem_append_right _ h)), dis a (List.mem_append_right _ h)⟩) _ _ _ tt) (fun hpar => by
      have := sr.pin i o hi hpar
      rw [hv] at this
      cases this; rfl)
  rw [set_same hv] at sr'
  refine ⟨_, sr', fun a h => ?_⟩
  rcases h with h | ⟨j, e, q, z⟩
  · exact .inl ⟨.inl h, fun h1 => sr.notO hi (sub1 a h1) h⟩
  · rcases own_setO q with ⟨rfl, _, _⟩ | ⟨hj, q⟩
    · rw [owU_same] at z
      rcases List.mem_append.mp z with z | z
      · rcases List.mem_append.mp z with z | z
        · exact .inl ⟨inA a (preA a (List.mem_append_left _ z)), dis a (List.mem_append_left _ z)⟩
        · exact .inr z
      · exact .inl ⟨inA a (preA a (List.mem_append_right _ z)), dis a (List.mem_append_right _ z)⟩
    · rw [owU_ne hj] at z
      exact .inl ⟨.inr ⟨j, e, q, z⟩, fun h1 => sr.inj i j o e hi q (Ne.symm hj) a (sub1 a h1) z⟩
end
section
variable {K : Fg} {t u : TS} {f g : Rho → Option Res} {te ta : TE} {fe fa : Rho → Option PyData}
theorem es_next : ES K tNext (fun ρ => some (.nx ρ)) := fun Hb O pn ow ρ σ H r D sr e fin => by
  cases e
  exact fin ow σ H sr
def seqR (a : Option Res) (g : Rho → Option Res) : Option Res := match a with
  | some (.nx ρ) => g ρ
  | x => x
theorem es_seq (h1 : ES K t f) (h2 : ES K u g) : ES K (tSeq t u) (fun ρ => seqR (f ρ) g) := fun Hb O pn ow ρ σ H r D sr e fin => by
  dsimp only at e
  cases hf : f ρ with
  | none => rw [hf] at e; cases e
  | some r1 =>
    rw [hf] at e
    cases r1 with
    | nx ρ' => exact h1 Hb O pn ow ρ σ H _ _ sr hf fun ow' σ' H' sr' => h2 Hb O pn ow' ρ' σ' H' r D sr' e fin
    | ret d => cases e; exact h1 Hb O pn ow ρ σ H _ _ sr hf fin
    | rex d ρ' => cases e; exact h1 Hb O pn ow ρ σ H _ _ sr hf fin
    | brk ρ' => cases e; exact h1 Hb O pn ow ρ σ H _ _ sr hf fin
    | ct ρ' => cases e; exact h1 Hb O pn ow ρ σ H _ _ sr hf fin
def asgR (i : Nat) (ρ : Rho) (o : Option PyData) : Option Res := o.map fun d => .nx (ρ.set i (.val d))
def asgO (i : Nat) (ρ : Rho) (o : Option OD) : Option Res := o.map fun d => .nx (ρ.set i (.own ⟨d, false⟩))
def asgG (is : List Nat) (h : PyData → Option (List PyData)) (ρ : Rho) (o : Option PyData) : Option Res := o.bind fun d => (h d).map fun es => .nx (setsR ρ is es)
def retR (o : Option PyData) : Option Res := o.map .ret
def ifR (c : Option Bool) (a b : Option Res) : Option Res := c.bind fun k => if k then a else b
theorem es_asg {i : Nat} (h : EF K te fe) : ES K (tAsg te (gName i)) (fun ρ => asgR i ρ (fe ρ)) := fun Hb O pn ow ρ σ H r D sr e fin => by
  unfold asgR at e
  cases he : fe ρ with
  | none => simp only [he] at e; cases e
  | some d =>
    simp only [he] at e
    cases e
    exact h _ ρ σ H d sr.rs he H (Ex.refl _) _ fun v H2 e2 rv => fin ow _ H2 ((sr.mono e2).setV rv)
theorem es_ret (h : EF K te fe) : ES K (tRet te) (fun ρ => retR (fe ρ)) := fun Hb O pn ow ρ σ H r D sr e fin => by
  unfold retR at e
  cases he : fe ρ with
  | none => simp only [he] at e; cases e
  | some d =>
    simp only [he] at e
    cases e
    exact h _ ρ σ H d sr.rs he H (Ex.refl _) _ fun v H2 e2 rv => fin v H2 (sr.ex.trans e2) (Rep.anti (fun a z => .inl z) _ _ rv)
def rexR (ρ : Rho) (o : Option PyData) : Option Res := o.map fun d => .rex d ρ
/-- a return out of a def that writes -/
theorem es_rex (h : EF K te fe) : ES K (tRet te) (fun ρ => rexR ρ (fe ρ)) := fun Hb O pn ow ρ σ H r D sr e fin => by
  unfold rexR at e
  cases he : fe ρ with
  | none => simp only [he] at e; cases e
  | some d =>
    simp only [he] at e
    cases e
    exact h _ ρ σ H d sr.rs he H (Ex.refl _) _ fun v H2 e2 rv => fin ow σ v H2 (sr.mono e2) rv
theorem es_if {c : TT} {fc : Rho → Option Bool} (hc : ET K c fc) (h1 : ES K t f) (h2 : ES K u g) : ES K (tIfS c t u) (fun ρ => ifR (fc ρ) (f ρ) (g ρ)) := fun Hb O pn ow ρ σ H r D sr e fin => by
  unfold ifR at e
  obtain ⟨b, hb, e⟩ := bind_some' e
  refine hc _ ρ σ H b sr.rs hb H (Ex.refl _) _ fun H2 e2 => ?_
  cases b with
  | true => exact h1 Hb O pn ow ρ σ H2 r D (sr.mono e2) e fin
  | false => exact h2 Hb O pn ow ρ σ H2 r D (sr.mono e2) e fin
def EN (K : Fg) (t : TE) (f : Rho → Option OD) : Prop := ∀ A ρ σ H o, RS K A ρ σ H → f ρ = some o → ∀ H1, Ex H H1 → ∀ Q : VK, (∀ v F H2, Ex H1 H2 → (∀ a ∈ F, H1 a = none) → F.Nodup → Tree K H2 (fun x => A x ∨ x ∈ F) o v F → Q v H2) → t σ H1 Q
theorem en_dat (h : EF K te fe) : EN K te (fun ρ => (fe ρ).map .dat) := fun A ρ σ H o rs e H1 e1 Q q => by
  cases he : fe ρ with
  | none => simp only [he] at e; cases e
  | some d =>
    simp only [he] at e
    cases e
    refine h A ρ σ H d rs he H1 e1 Q fun v H2 e2 r => q v [] H2 e2 (fun a h => nomatch h) List.nodup_nil ?_
    simp only [Tree]
    exact ⟨trivial, Rep.anti (fun a z => z.elim (fun z => z) fun z => nomatch z) _ _ r⟩
theorem EN.ef {f : Rho → Option OD} (h : EN K te f) : EF K te (fun ρ => (f ρ).bind flat) := fun A ρ σ H d rs e H1 e1 Q q => by
  obtain ⟨o, ho, e⟩ := bind_some' e
  refine h A ρ σ H o rs ho H1 e1 Q fun v F H2 e2 hF nd t => q _ H2 e2 ?_
  exact Tree.rep o v F d (fun a ha z => by
    have := rs.av.mono e1 a z
    rw [hF a ha] at this; exact this) (Tree.anti (fun _ z => .inl z) _ _ _ t) e
theorem es_asgO {i : Nat} {f : Rho → Option OD} (h : EN K te f) :
    ES K (tAsg te (gName i)) (fun ρ => asgO i ρ (f ρ)) := fun Hb O pn ow ρ σ H r D sr e fin => by
  unfold asgO at e
  cases he : f ρ with
  | none => simp only [he] at e; cases e
  | some o =>
    simp only [he] at e
    cases e
    refine h _ ρ σ H o sr.rs he H (Ex.refl _) _ fun v F H2 e2 hF nd t => ?_
    by_cases hil : i < ρ.length
    · refine fin (owU ow i F) _ H2 (sr.put (G := fun _ => False) hil (fun a z => z.elim) (fun b u hu _ => e2 b u hu) (fun a ha => .inl (hF a ha)) nd (Tree.anti (fun a ha => ?_) _ _ _ t) (fun z => nomatch z))
      exact ha.elim (fun z => .inl (Avd.set non_ a z)) .inr
    · have e1 : ρ.set i (.own ⟨o, false⟩) = ρ := List.set_eq_of_length_le (by omega)
      have e3 : σ.set i (some v) = σ := List.set_eq_of_length_le (by rw [← sr.rs.len]; omega)
      replace fin : Fin K Hb O pn D (.nx (ρ.set i (.own ⟨o, false⟩))) := fin
      rw [e1] at fin
      show D.nx (σ.set i (some v)) H2
      rw [e3]
      exact fin ow _ H2 (sr.mono e2)
end
def ownO (i : Nat) (ρ : Rho) : Option OW := match ρ[i]? with
  | some (.own o) => some o
  | _ => none
theorem ownO_some {i : Nat} {ρ : Rho} {o : OW} (h : ownO i ρ = some o) : ρ[i]? = some (.own o) := by
  unfold ownO at h
  split at h
  · cases h; assumption
  · cases h
def EPt (K : Fg) (t : TE) (i : Nat) (g : Rho → Option (List Nat)) : Prop := ∀ A ρ σ H o p v, RS K A ρ σ H → ρ[i]? = some (.own o) → σ[i]? = some (some v) → g ρ = some p → ∀ H1, Ex H H1 → ∀ Q : VK, (∀ v1 H2, Ex H1 H2 → At K H2 v o.od p v1 → Q v1 H2) → t σ H1 Q
def mutR (i : Nat) (g : Rho → Option (List Nat)) (ρ : Rho) (f : OD → Option OD) : Option Res := bnd2 (ownO i ρ) (g ρ) fun o p => (getP o.od p).bind fun o1 => (f o1).map fun o2 => .nx (ρ.set i (.own ⟨setP o.od p o2, o.par⟩))
section
variable {K : Fg} {t ta te : TE} {i : Nat} {g : Rho → Option (List Nat)} {f : Rho → Option OD} {fe : Rho → Option PyData}
theorem RS.ownV {A : Av} {ρ : Rho} {σ : St} {H : Hp} {o : OW} (rs : RS K A ρ σ H) (hi : ρ[i]? = some (.own o)) : ∃ v, σ[i]? = some (some v) := by
  obtain ⟨v', F, h1, h2⟩ := rs.at' i _ hi
  exact ⟨v', h1⟩
theorem ep_var : EPt K (tVar i) i (fun _ => some []) := fun A ρ σ H o p v rs hi hv hp H1 e1 Q q => by
  cases hp
  exact ⟨v, hv, q v H1 (Ex.refl _) (by simp only [At])⟩
def toK : PyData → Option Key
  | .int i => some (.inl i)
  | .str s => some (.inr s)
  | _ => none
theorem toK_some {d : PyData} {q : Key} (h : toK d = some q) : d = kD q := by
  cases d <;> simp [toK] at h <;> subst h <;> rfl
theorem rep_key {H : Hp} {A : Av} {q : Key} {v : V} (h : Rep K H A (kD q) v) : v = kV q := by
  cases q with
  | inl n => simp only [kD, Rep] at h; exact h
  | inr n => simp only [kD, Rep] at h; exact h
end
theorem At.inj {K : Fg} {H : Hp} : ∀ {p : List Nat} {v : V} {o : OD} {v1 v2 : V}, At K H v o p v1 → At K H v o p v2 → v1 = v2
  | [], v, o, v1, v2, h, h' => h.trans h'.symm
  | j :: p, v, o, v1, v2, h, h' => by
    simp only [At] at h h'
    obtain ⟨a, s, xs, vs, w, x, e1, rfl, h3, h4, h5, h6⟩ := h
    obtain ⟨a', s', xs', vs', w', x', e1', e2', h3', h4', h5', h6'⟩ := h'
    cases e2'
    rw [e1] at e1'
    cases e1'
    cases h3.inj h3'
    rw [h4] at h4'
    cases h4'
    rw [h5] at h5'
    cases h5'
    exact At.inj h6 h6'
theorem TreeL.get {K : Fg} {H : Hp} {A : Av} : ∀ {os : List OD} {vs : List V} {G : List Addr} {j : Nat} {x : OD}, TreeL K H A os vs G → os[j]? = some x → ∃ w F, vs[j]? = some w ∧ Tree K H A x w F
  | [], vs, G, j, x, h, e => by simp at e
  | o :: os, vs, G, j, x, h, e => by
    simp only [TreeL] at h
    obtain ⟨y, ys, F1, F2, rfl, rfl, h1, h2⟩ := h
    cases j with
    | zero => simp at e; subst e; exact ⟨y, F1, rfl, h1⟩
    | succ j =>
      obtain ⟨w, F, e1, t⟩ := TreeL.get h2 (j := j) (x := x) (by simpa using e)
      exact ⟨w, F, by simpa using e1, t⟩
theorem Tree.at {K : Fg} {H : Hp} {A : Av} : ∀ {p : List Nat} {o : OD} {v : V} {F : List Addr} {o1 : OD}, Tree K H A o v F → getP o p = some o1 → ∃ v1, At K H v o p v1
  | [], o, v, F, o1, t, h => ⟨v, rfl⟩
  | j :: p, o, v, F, o1, t, h => by
    simp only [getP] at h
    obtain ⟨x, hx, h9⟩ := bind_some' h
    cases o with
    | dat d => cases hx
    | nd s xs =>
      simp only [Tree] at t
      obtain ⟨a, vs, G, rfl, rfl, n, tl⟩ := t
      obtain ⟨w, F', hw, t'⟩ := tl.get hx
      obtain ⟨v1, h1⟩ := Tree.at t' h9
      refine ⟨v1, ?_⟩
      simp only [At]
      exact ⟨a, s, xs, vs, w, x, rfl, rfl, n, hw, hx, h1⟩
theorem TreeL.append {K : Fg} {H : Hp} {A : Av} : ∀ {os ps : List OD} {vs ws : List V} {G G' : List Addr}, TreeL K H A os vs G → TreeL K H A ps ws G' → TreeL K H A (os ++ ps) (vs ++ ws) (G ++ G')
  | [], ps, vs, ws, G, G', h, h' => by
    simp only [TreeL] at h
    obtain ⟨rfl, rfl⟩ := h
    simpa using h'
  | o :: os, ps, vs, ws, G, G', h, h' => by
    simp only [TreeL] at h
    obtain ⟨y, ys, F1, F2, rfl, rfl, h1, h2⟩ := h
    simp only [List.cons_append, TreeL]
    exact ⟨y, ys ++ ws, F1, F2 ++ G', rfl, by simp, h1, TreeL.append h2 h'⟩
theorem TreeL.one {K : Fg} {H : Hp} {A : Av} {o : OD} {v : V} {F : List Addr} (h : Tree K H A o v F) : TreeL K H A [o] [v] F := by
  simp only [TreeL]
  exact ⟨v, [], F, [], rfl, by simp, h, by simp⟩
section
variable {K : Fg} {Hb H : Hp} {O : Av} {pn : Nat → V} {ow : Nat → List Addr} {ρ : Rho} {σ : St} {i : Nat} {o : OW} {p : List Nat} {v v1 : V} {s : Shp} {xs : List OD}
def lstLike : Shp → Bool
  | .tup => false
  | .gh _ => false
  | _ => true
theorem foot_like {a : Addr} : ∀ {s : Shp}, lstLike s = true → foot a s = [a]
  | .lst, _ => rfl
  | .tup, h => nomatch h
  | .dk _, _ => rfl
  | .dt _, _ => rfl
  | .ob _ _, _ => rfl
  | .tab _ _, _ => rfl
  | .gh _, h => nomatch h
theorem like_gh : ∀ {s : Shp}, lstLike s = true → ghB s = false
  | .lst, _ => rfl
  | .tup, _ => rfl
  | .dk _, _ => rfl
  | .dt _, _ => rfl
  | .ob _ _, _ => rfl
  | .tab _ _, _ => rfl
  | .gh _, h => nomatch h
/-- the avoided behind a node's change -/
def AvN (A : Av) (a : Addr) (G F' : List Addr) : Av := fun x => (A x ∧ x ∉ a :: G) ∨ x ∈ a :: F'
theorem SR.node (sr : SR K Hb O pn ow ρ σ H) (hi : ρ[i]? = some (.own o)) (hv : σ[i]? = some (some v)) (hp : getP o.od p = some (.nd s xs)) (hs : lstLike s = true) :
    ∃ a vs G, At K H v o.od p (.ref a) ∧ Node K H a vs s ∧ TreeL K H (Avd O ρ ow) xs vs G ∧ (a :: G).Nodup ∧ (∀ b ∈ a :: G, Avd O ρ ow b) ∧ ∀ (H3 : Hp) (u : HO) (s' : Shp) (xs' : List OD) (vs' : List V) (F' : List Addr), Ex H H3 → Node K (upd H3 a u) a vs' s' → lstLike s' = true →
      (∀ b ∈ F', b ∈ G ∨ H b = none) → F'.Nodup → TreeL K (upd H3 a u) (AvN (Avd O ρ ow) a G F') xs' vs' F' → ∃ ow', SR K Hb O pn ow' (ρ.set i (.own ⟨setP o.od p (.nd s' xs'), o.par⟩)) σ (upd H3 a u) := by
  obtain ⟨v', hv', t⟩ := sr.own i o hi
  rw [hv] at hv'
  cases hv'
  obtain ⟨v1, at1⟩ := t.at hp
  obtain ⟨F1, t1, sub, nd1, cl⟩ := sr.part hi hv at1 hp
  simp only [Tree] at t1
  obtain ⟨a, vs, G, rfl, rfl, n, tl⟩ := t1
  rw [foot_like hs] at nd1 cl sub
  have inA : ∀ b ∈ a :: G, Avd O ρ ow b := fun b hb => .inr ⟨i, o, hi, sub b hb⟩
  refine ⟨a, vs, G, at1, n, tl, nd1, inA, fun H3 u s' xs' vs' F' e n' hs' hF nd tl' => ?_⟩
  have na : H a ≠ none := by
    obtain ⟨u, hu⟩ := n.some (like_gh hs)
    rw [hu]; intro z; cases z
  suffices hh : _ ∧ _ ∧ _ ∧ _ from let ⟨ow', sr', _⟩ := cl (upd H3 a u) (.nd s' xs') (a :: F') hh.1 hh.2.1 hh.2.2.1 hh.2.2.2; ⟨ow', sr'⟩
  refine ⟨fun b u hu hb => ?_, fun b hb => ?_, ?_, ?_⟩
  · rw [upd_ne fun z => hb (by rw [z]; exact List.mem_cons_self)]
    exact e b u hu
  · rcases List.mem_cons.mp hb with rfl | hb
    · exact .inr List.mem_cons_self
    · rcases hF b hb with h | h
      · exact .inr (List.mem_cons_of_mem _ h)
      · exact .inl h
  · refine List.nodup_cons.mpr ⟨fun hm => ?_, nd⟩
    rcases hF a hm with h | h
    · exact (List.nodup_cons.mp nd1).1 h
    · exact na h
  · simp only [Tree]
    refine ⟨a, vs', F', rfl, by rw [foot_like hs']; rfl, n', tl'⟩
/-- the children that stay -/
theorem kids_keep {A : Av} {a : Addr} {G F' : List Addr} {H3 : Hp} {u : HO} (ok : AvOk A H) (hA : ∀ b ∈ a :: G, A b) (nd : (a :: G).Nodup) (e : Ex H H3) (hF : ∀ b ∈ F', b ∈ G ∨ H b = none) {ys : List OD} {ws : List V} {G' : List Addr} (hG : ∀ b ∈ G', b ∈ G)
    (tl : TreeL K H A ys ws G') : TreeL K (upd H3 a u) (AvN A a G F') ys ws G' := by
  refine TreeL.keep2 ok (fun b w hw hn => ?_) (fun b hb => ?_) _ _ _ (fun b hb w hw => ?_) tl
  · rw [upd_ne (show b ≠ a from fun z => hn (z ▸ hA a List.mem_cons_self))]
    exact e b w hw
  · rcases hb with hb | hb
    · exact .inl hb.1
    · rcases List.mem_cons.mp hb with rfl | hb
      · exact .inl (hA b List.mem_cons_self)
      · rcases hF b hb with h | h
        · exact .inl (hA b (List.mem_cons_of_mem _ h))
        · exact .inr h
  · rw [upd_ne (show b ≠ a from fun z => (List.nodup_cons.mp nd).1 (z ▸ hG b hb))]
    exact e b w hw
theorem mutR_some {g : Rho → Option (List Nat)} {f : OD → Option OD} {r : Res} (h : mutR i g ρ f = some r) : ∃ o p o1 o2, ρ[i]? = some (.own o) ∧ g ρ = some p ∧ getP o.od p = some o1 ∧ f o1 = some o2 ∧ r = .nx (ρ.set i (.own ⟨setP o.od p o2, o.par⟩)) := by
  unfold mutR at h
  obtain ⟨o, p, h1, h2, h3⟩ := bnd2_some h
  obtain ⟨o1, h4, h5⟩ := bind_some' h3
  obtain ⟨o2, h6, h7⟩ := Option.map_eq_some_iff.mp h5
  exact ⟨o, p, o1, o2, ownO_some h1, h2, h4, h6, h7.symm⟩
end
section
variable {K : Fg} {t te tk : TE} {i : Nat} {g : Rho → Option (List Nat)} {f : Rho → Option OD} {fe fk : Rho → Option PyData}
def lenLt (n : Nat) : Bool := decide (n < sizeLine)
def extO (ds : List PyData) : OD → Option OD
  | .nd .lst xs => if lenOk (xs.length + ds.length) then some (.nd .lst (xs ++ ds.map .dat)) else none
  | _ => none
def isL : PyData → Option (List PyData)
  | .list ds => some ds
  | _ => none
theorem RepB.lst {H : Hp} {A : Av} {v : V} {ds : List PyData} (h : RepB K H A (.list ds) v) : ∃ a xs, v = .ref a ∧ H a = some (.lst xs) ∧ RepL K H A ds xs := by
  rcases h with h | ⟨a, s, vs, es, rfl, n, e, r⟩
  · simp only [Rep] at h
    obtain ⟨a, xs, e, _, h1, h2⟩ := h
    exact ⟨a, xs, e, h1, h2⟩
  · cases s <;> cases e
    exact ⟨a, vs, rfl, n, r⟩
def extP (i : Nat) (g : Rho → Option (List Nat)) (ρ : Rho) (x : Option PyData) : Option Res := (x.bind isL).bind fun ds => mutR i g ρ (extO ds)
theorem TreeL.init {H : Hp} {A : Av} : ∀ {os : List OD} {vs : List V} {G : List Addr}, TreeL K H A os vs G → ∃ G', G'.Sublist G ∧ TreeL K H A os.dropLast vs.dropLast G'
  | [], vs, G, h => by
    simp only [TreeL] at h
    obtain ⟨rfl, rfl⟩ := h
    exact ⟨[], List.Sublist.refl _, by simp [TreeL]⟩
  | [o], vs, G, h => by
    simp only [TreeL] at h
    obtain ⟨y, ys, F1, F2, rfl, rfl, h1, rfl, rfl⟩ := h
    exact ⟨[], List.nil_sublist _, by simp [TreeL]⟩
  | o :: o' :: os, vs, G, h => by
    rw [TreeL] at h
    obtain ⟨y, ys, F1, F2, rfl, rfl, h1, h2⟩ := h
    obtain ⟨G', hs, t⟩ := TreeL.init h2
    have hne : ys ≠ [] := by
      intro z
      subst z
      simp only [TreeL] at h2
      obtain ⟨_, _, _, _, e, _⟩ := h2
      cases e
    refine ⟨F1 ++ G', List.Sublist.append (List.Sublist.refl _) hs, ?_⟩
    rw [List.dropLast_cons_of_ne_nil (by simp), List.dropLast_cons_of_ne_nil hne]
    simp only [TreeL]
    exact ⟨y, _, F1, G', rfl, rfl, h1, t⟩
end
end Sv
namespace Sv
open PySem L2 Evl
section
variable {K : Fg} {κ : Type} [DecidableEq κ]
def putZ {α : Type} (ks : List κ) (q : κ) (x : α) (xs : List α) : List α := List.zipWith (fun k y => if k = q then x else y) ks xs
theorem putZ_length {α : Type} {ks : List κ} {q : κ} {x : α} {xs : List α} (h : ks.length = xs.length) : (putZ ks q x xs).length = ks.length := by
  unfold putZ
  rw [List.length_zipWith, ← h, Nat.min_self]
theorem any_zip {β : Type} (q : κ) : ∀ {ks : List κ} {vs : List β}, ks.length = vs.length → ((ks.zip vs).any fun kv => decide (kv.1 = q)) = ks.any fun k => decide (k = q)
  | [], vs, _ => by simp
  | k :: ks, [], h => by simp at h
  | k :: ks, v :: vs, h => by
    simp only [List.zip_cons_cons, List.any_cons]
    rw [any_zip q (by simpa using h)]
theorem map_zip (q : κ) (v : V) : ∀ {ks : List κ} {vs : List V}, (ks.zip vs).map (fun kv => if kv.1 = q then (kv.1, v) else kv) = ks.zip (putZ ks q v vs)
  | [], vs => by simp [putZ]
  | k :: ks, [] => by simp [putZ]
  | k :: ks, w :: vs => by
    have ih := map_zip q v (ks := ks) (vs := vs)
    simp only [putZ] at ih
    simp only [List.zip_cons_cons, List.map_cons, putZ, List.zipWith_cons_cons]
    rw [ih]
    by_cases h : k = q
    · rw [if_pos h, if_pos h]
    · rw [if_neg h, if_neg h]
theorem putK_zip (q : κ) (v : V) {ks : List κ} {vs : List V} (h : ks.length = vs.length) : putK (ks.zip vs) q v = if (ks.any fun k => decide (k = q)) = true then ks.zip (putZ ks q v vs) else (ks ++ [q]).zip (vs ++ [v]) := by
  unfold putK
  rw [any_zip q h]
  split
  · exact map_zip q v
  · rw [List.zip_append h]; rfl
theorem TreeL.putZ {H : Hp} {A : Av} {q : κ} {d : PyData} {w : V} (r : Rep K H A d w) : ∀ {ks : List κ} {os : List OD} {vs : List V} {G : List Addr}, TreeL K H A os vs G → ∃ G', G'.Sublist G ∧ TreeL K H A (putZ ks q (.dat d) os) (putZ ks q w vs) G'
  | [], os, vs, G, h => ⟨[], List.nil_sublist _, by simp [Sv.putZ, TreeL]⟩
  | k :: ks, [], vs, G, h => by
    simp only [TreeL] at h
    obtain ⟨rfl, rfl⟩ := h
    exact ⟨[], List.nil_sublist _, by simp [Sv.putZ, TreeL]⟩
  | k :: ks, o :: os, vs, G, h => by
    simp only [TreeL] at h
    obtain ⟨y, ys, F1, F2, rfl, rfl, h1, h2⟩ := h
    obtain ⟨G', hs, t⟩ := TreeL.putZ r (ks := ks) h2
    by_cases hk : k = q
    · refine ⟨G', hs.trans (List.sublist_append_right _ _), ?_⟩
      simp only [Sv.putZ, List.zipWith_cons_cons, if_pos hk, TreeL]
      exact ⟨w, _, [], G', rfl, rfl, by simp only [Tree]; exact ⟨trivial, r⟩, t⟩
    · refine ⟨F1 ++ G', List.Sublist.append (List.Sublist.refl _) hs, ?_⟩
      simp only [Sv.putZ, List.zipWith_cons_cons, if_neg hk, TreeL]
      exact ⟨y, _, F1, G', rfl, rfl, h1, t⟩
end
def putO (q : Key) (d : PyData) : OD → Option OD
  | .nd (.dk ks) xs => if lenLt ks.length then (if (ks.any fun k => decide (k = q)) = true then some (.nd (.dk ks) (putZ ks q (.dat d) xs)) else some (.nd (.dk (ks ++ [q])) (xs ++ [.dat d]))) else none
  | _ => none
def putP (i : Nat) (g : Rho → Option (List Nat)) (ρ : Rho) (k d : Option PyData) : Option Res := bnd2 (k.bind toK) d fun q d => mutR i g ρ (putO q d)
section
variable {K : Fg} {t te tk : TE} {i : Nat} {g : Rho → Option (List Nat)} {f : Rho → Option OD} {fe fk : Rho → Option PyData}
theorem putO_some {q : Key} {d : PyData} {o o2 : OD} (h : putO q d o = some o2) : ∃ ks xs, o = .nd (.dk ks) xs ∧ ks.length < sizeLine ∧ o2 = (if (ks.any fun k => decide (k = q)) = true then .nd (.dk ks) (putZ ks q (.dat d) xs) else .nd (.dk (ks ++ [q])) (xs ++ [.dat d])) := by
  unfold putO at h
  split at h
  · split at h
    · rename_i hl
      refine ⟨_, _, rfl, of_decide_eq_true hl, ?_⟩
      split at h <;> cases h <;> rename_i hc
      · rw [if_pos hc]
      · rw [if_neg hc]
    · cases h
  · cases h
theorem new_dat {H H3 : Hp} {A : Av} {a : Addr} {G F' : List Addr} {d : PyData} {w : V} {u : HO} (ok : AvOk A H3) (hA : ∀ b ∈ a :: G, A b) (e : Ex H H3) (hF : ∀ b ∈ F', b ∈ G) (r : Rep K H3 A d w) : Rep K (upd H3 a u) (AvN A a G F') d w := by
  refine Rep.keep2 ok (fun b w hw hn => ?_) (fun b hb => ?_) _ _ r
  · rw [upd_ne (show b ≠ a from fun z => hn (z ▸ hA a List.mem_cons_self))]
    exact hw
  · rcases hb with hb | hb
    · exact .inl hb.1
    · rcases List.mem_cons.mp hb with rfl | hb
      · exact .inl (hA b List.mem_cons_self)
      · exact .inl (hA b (List.mem_cons_of_mem _ (hF b hb)))
/-- P[k] = e, k an int or text, e a datum -/
theorem es_put (h : EPt K t i g) (hk : EF K tk fk) (he : EF K te fe) : ES K (sDPut t tk te) (fun ρ => putP i g ρ (fk ρ) (fe ρ)) := fun Hb O pn ow ρ σ H r D sr e fin => by
  unfold putP at e
  obtain ⟨q, d, hq, hd, e⟩ := bnd2_some e
  obtain ⟨kd, hkd, hq⟩ := bind_some' hq
  have := toK_some hq
  subst this
  obtain ⟨o, p, o1, o2, hi, hg, hp, h2, rfl⟩ := mutR_some e
  obtain ⟨ks, xs, rfl, hl, rfl⟩ := putO_some h2
  obtain ⟨v, hv⟩ := sr.rs.ownV hi
  obtain ⟨a, vs, G, at0, n, tl, nd, hA, cl⟩ := sr.node hi hv hp rfl
  refine he _ ρ σ H d sr.rs hd H (Ex.refl _) _ fun w H1 e1 rw1 => ?_
  have av1 := sr.rs.av.mono e1
  refine h _ ρ σ H o p v sr.rs hi hv hg H1 e1 _ fun v1 H2 e2 at1 => ?_
  cases At.inj at1 (at0.mono (e1.trans e2))
  refine hk _ ρ σ H _ sr.rs hkd H2 (e1.trans e2) _ fun y H3 e3 ry => ?_
  cases rep_key ry
  have eA := (e1.trans e2).trans e3
  have r3 := (rw1.mono av1 e2).mono (av1.mono e2) e3
  have av3 := (av1.mono e2).mono e3
  refine ⟨a, _, rfl, DPut.k (eA _ _ n.2) (by rw [List.length_zip, ← n.1, Nat.min_self]; exact hl), ?_⟩
  rw [putK_zip q w n.1]
  have hF0 : ∀ b ∈ G, b ∈ G ∨ H b = none := fun b hb => .inl hb
  split
  · rename_i hc
    rw [if_pos hc] at fin
    have tlk := kids_keep (u := .dK (ks.zip (putZ ks q w vs))) sr.rs.av hA nd eA hF0 (fun b hb => hb) tl
    obtain ⟨G', hs, tz⟩ := TreeL.putZ (q := q) (ks := ks) (new_dat (u := .dK (ks.zip (putZ ks q w vs))) av3 hA eA (F' := G) (fun b hb => hb) r3) tlk
    obtain ⟨ow', sr'⟩ := cl H3 (.dK (ks.zip (putZ ks q w vs))) (.dk ks) (putZ ks q (.dat d) xs) (putZ ks q w vs) G' eA ⟨(putZ_length n.1).symm, upd_same⟩ rfl (fun b hb => .inl (hs.subset hb)) ((List.nodup_cons.mp nd).2.sublist hs) (TreeL.anti (fun b hb => by
      rcases hb with hb | hb
      · exact .inl hb
      · rcases List.mem_cons.mp hb with rfl | hb
        · exact .inr List.mem_cons_self
        · exact .inr (List.mem_cons_of_mem _ (hs.subset hb))) _ _ _ tz)
    exact fin ow' σ _ sr'
  · rename_i hc
    rw [if_neg hc] at fin
    obtain ⟨ow', sr'⟩ := cl H3 (.dK ((ks ++ [q]).zip (vs ++ [w]))) (.dk (ks ++ [q])) (xs ++ [.dat d]) (vs ++ [w]) G eA ⟨by simp [n.1], upd_same⟩ rfl hF0 (List.nodup_cons.mp nd).2 (by
      have := TreeL.append (kids_keep (u := .dK ((ks ++ [q]).zip (vs ++ [w]))) sr.rs.av hA nd eA hF0 (fun b hb => hb) tl) (TreeL.one (o := .dat d) (v := w) (F := []) (by
        simp only [Tree]
        exact ⟨trivial, new_dat av3 hA eA (fun b hb => hb) r3⟩))
      simpa using this)
    exact fin ow' σ _ sr'
theorem TreeL.cut {H : Hp} {A : Av} : ∀ {os : List OD} {vs : List V} {G : List Addr} (j : Nat), TreeL K H A os vs G → ∃ G1 Gj G2, G = G1 ++ Gj ++ G2 ∧ TreeL K H A (os.take j) (vs.take j) G1 ∧ TreeL K H A (os.drop (j + 1)) (vs.drop (j + 1)) G2
  | [], vs, G, j, h => by
    simp only [TreeL] at h
    obtain ⟨rfl, rfl⟩ := h
    exact ⟨[], [], [], rfl, by simp [TreeL], by simp [TreeL]⟩
  | o :: os, vs, G, 0, h => by
    simp only [TreeL] at h
    obtain ⟨y, ys, F1, F2, rfl, rfl, h1, h2⟩ := h
    exact ⟨[], F1, F2, by simp, by simp [TreeL], by simpa using h2⟩
  | o :: os, vs, G, j + 1, h => by
    simp only [TreeL] at h
    obtain ⟨y, ys, F1, F2, rfl, rfl, h1, h2⟩ := h
    obtain ⟨G1, Gj, G2, e, t1, t2⟩ := TreeL.cut j h2
    refine ⟨F1 ++ G1, Gj, G2, by rw [e]; simp, ?_, by simpa using t2⟩
    simp only [List.take_succ_cons, TreeL]
    exact ⟨y, _, F1, G1, rfl, rfl, h1, t1⟩
def sealR (i : Nat) (ρ : Rho) : Rho := match ownO i ρ with
  | some o => match flat o.od with
    | some d => ρ.set i (.val d)
    | none => ρ
  | none => ρ
theorem SR.seal {Hb H : Hp} {O : Av} {pn : Nat → V} {ow : Nat → List Addr} {ρ : Rho} {σ : St} (i : Nat) (sr : SR K Hb O pn ow ρ σ H) : SR K Hb O pn ow (sealR i ρ) σ H := by
  unfold sealR
  split
  · rename_i o ho
    have hi := ownO_some ho
    split
    · rename_i d hd
      obtain ⟨v, hv, tr⟩ := sr.own i o hi
      have := sr.setS (i := i) (s := .val d) (x := some v) nov fun _ => ⟨v, rfl, Tree.rep _ _ (ow i) d (fun a ha hz => ?_) (Tree.anti (Avd.set nov) _ _ _ tr) hd⟩
      · rwa [set_same hv] at this
      · rcases hz with hz | ⟨j, e, q, z⟩
        · exact sr.notO hi ha hz
        · obtain ⟨hj, q⟩ := own_set nov q
          exact sr.inj i j o e hi q (Ne.symm hj) a ha z
    · exact sr
  · exact sr
theorem es_seal {t : TS} {f : Rho → Option Res} (i : Nat) (h : ES K t f) : ES K t (fun ρ => f (sealR i ρ)) := fun Hb O pn ow ρ σ H r D sr e fin => h Hb O pn ow (sealR i ρ) σ H r D (sr.seal i) e fin
end
end Sv
namespace Sv
open PySem L2 Evl
structure Iter (K : Fg) (A : Av) (J : It) (H : Hp) (ds : List PyData) (P : Hp → Prop) : Prop where
  goes : ∀ i Ha, i < ds.length → P Ha → J.go i Ha
  stops : ∀ Ha, P Ha → J.stop ds.length Ha
  yields : ∀ B i x Ha Hc d, (∀ a, B a → A a ∨ H a = none) → ds[i]? = some d → P Ha → J.yld i Ha x Hc → Ex Ha Hc ∧ Rep K Hc B d x
def EI (K : Fg) (wi : TI) (f : Rho → Option (List PyData)) : Prop := ∀ A ρ σ H ds, RS K A ρ σ H → f ρ = some ds → ∀ H1, Ex H H1 → ∀ R : It → Hp → Prop, (∀ J H2, Ex H1 H2 → Iter K A J H2 ds (Kp A H2) → R J H2) → wi σ H1 R
def EIb (K : Fg) (wi : TI) (f : Rho → Option (List PyData)) : Prop := ∀ A ρ σ H ds, RS K A ρ σ H → f ρ = some ds → ∀ H1, Ex H H1 → ∀ R : It → Hp → Prop, (∀ J H2, Ex H1 H2 → Iter K A J H2 ds (Ex H2) → R J H2) → wi σ H1 R
theorem Iter.imp {K : Fg} {A : Av} {J : It} {H : Hp} {ds : List PyData} {P P' : Hp → Prop} (h : Iter K A J H ds P) (i : ∀ H, P' H → P H) : Iter K A J H ds P' :=
  ⟨fun k Ha hk p => h.goes k Ha hk (i _ p), fun Ha p => h.stops Ha (i _ p), fun B k x Ha Hc d hb hd p y => h.yields B k x Ha Hc d hb hd (i _ p) y⟩
theorem EI.b {K : Fg} {wi : TI} {f : Rho → Option (List PyData)} (h : EI K wi f) : EIb K wi f := fun A ρ σ H ds rs e H1 e1 R k => h A ρ σ H ds rs e H1 e1 R fun J H2 e2 it => k J H2 e2 (it.imp fun _ x => Kp.ofEx x)
def forD (h : PyData → Option (List PyData)) (is : List Nat) (body : Rho → Option Res) : List PyData → Rho → Option Res
  | [], ρ => some (.nx ρ)
  | d :: ds, ρ => match h d with
    | none => none
    | some es => match body (setsR ρ is es) with
      | some (.nx ρ') => forD h is body ds ρ'
      | some (.ct ρ') => forD h is body ds ρ'
      | some (.brk ρ') => some (.nx ρ')
      | some (.ret d) => some (.ret d)
      | some (.rex d ρ') => some (.rex d ρ')
      | none => none
def forR (o : Option (List PyData)) (h : PyData → Option (List PyData)) (is : List Nat) (body : Rho → Option Res) (ρ : Rho) : Option Res := o.bind fun ds => forD h is body ds ρ
section
variable {K : Fg}
theorem es_for {wi : TI} {fi : Rho → Option (List PyData)} {g : TG} {is : List Nat} {h : PyData → Option (List PyData)} {tb : TS} {fb : Rho → Option Res} (hi : EI K wi fi) (hg : EG K g is h) (hb : ES K tb fb) :
    ES K (tFor wi g tb) (fun ρ => forR (fi ρ) h is fb ρ) := fun Hb O pn ow ρ σ H r D sr e fin => by
  unfold forR at e
  obtain ⟨ds, e1, e2⟩ := bind_some' e
  refine hi _ ρ σ H ds sr.rs e1 H (Ex.refl _) _ fun J H2 ex2 it => ?_
  have sr2 := sr.mono ex2
  obtain ⟨sr3, exb⟩ := sr2.rebase
  have fin3 : Fin K (less ρ ow H2) O pn D r := fin.base exb sr.ob
  have kp : ∀ H', Ex (less ρ ow H2) H' → Kp (Avd O ρ ow) H2 H' := fun H' x b o q n => x b o (by rw [less_not fun z => n (.inr z)]; exact q)
  refine ⟨fun i m σ H => m = ds.length - i ∧ i ≤ ds.length ∧ ∃ ow' ρ', SR K (less ρ ow H2) O pn ow' ρ' σ H ∧ forD h is fb (ds.drop i) ρ' = some r, ⟨_, rfl, Nat.zero_le _, ow, ρ, sr3, e2⟩, ?_⟩
  rintro i m σ' H' ⟨rfl, hil, ow', ρ', sr', ef⟩
  by_cases hlt : i < ds.length
  · right
    have hd : ds.drop i = ds[i] :: ds.drop (i + 1) := List.drop_eq_getElem_cons hlt
    rw [hd] at ef
    unfold forD at ef
    cases hh : h ds[i] with
    | none => rw [hh] at ef; cases ef
    | some es =>
      rw [hh] at ef
      dsimp only at ef
      refine ⟨it.goes i H' hlt (kp H' sr'.ex), fun σ'' H'' => ∃ ow'' ρ'', SR K (less ρ ow H2) O pn ow'' ρ'' σ'' H'' ∧ forD h is fb (ds.drop (i + 1)) ρ'' = some r, fun σ'' H'' ⟨ow'', ρ'', s, q⟩ => ⟨_, by omega, rfl, by omega, ow'', ρ'', s, q⟩, fun x H'' y => ?_⟩
      have hB : ∀ a, Avd O ρ' ow' a → Avd O ρ ow a ∨ H2 a = none := fun a ha => by
        rcases ha with ha | ⟨j, e, q, z⟩
        · exact .inl (.inl ha)
        · have n := sr'.fr j e q a z
          by_cases ho : ∃ i d, ρ[i]? = some (.own d) ∧ a ∈ ow i
          · exact .inl (.inr ho)
          · rw [less_not ho] at n; exact .inr n
      obtain ⟨exy, ry⟩ := it.yields _ i x H' H'' ds[i] hB (List.getElem?_eq_getElem hlt) (kp H' sr'.ex) y
      have sr4 := sr'.mono exy
      refine hg.run _ σ' H'' _ x es sr4.rs.av ry hh _ fun vs rl => ?_
      have sr5 := sr4.sets (is := is) rl
      cases hbd : fb (setsR ρ' is es) with
      | none => rw [hbd] at ef; cases ef
      | some r1 =>
        rw [hbd] at ef
        refine hb _ O pn ow' _ _ H'' r1 _ sr5 hbd ?_
        cases r1 with
        | nx ρ2 => exact fun ow2 σ2 H2' s2 => ⟨ow2, ρ2, s2, ef⟩
        | ct ρ2 => exact fun ow2 σ2 H2' s2 => ⟨ow2, ρ2, s2, ef⟩
        | brk ρ2 => cases ef; exact fun ow2 σ2 H2' s2 => fin3 ow2 σ2 H2' s2
        | ret d => cases ef; exact fin3
        | rex d ρ2 => cases ef; exact fun ow2 σ2 v2 H2' s2 q2 => fin3 ow2 σ2 v2 H2' s2 q2
  · left
    have hi0 : i = ds.length := by omega
    subst hi0
    rw [List.drop_length] at ef
    cases ef
    exact ⟨it.stops H' (kp H' sr'.ex), fin3 ow' σ' H' sr'⟩
def wipeR (ρ : Rho) : List Nat → Rho
  | [] => ρ
  | v :: vs => (wipeR ρ vs).set v .no
theorem RS.setNo {A : Av} {ρ : Rho} {σ : St} {H : Hp} {i : Nat} {x : Option V} (h : RS K A ρ σ H) : RS K A (ρ.set i .no) (σ.set i x) H := by
  refine ⟨by simp [h.len], h.av, fun j s q => ?_⟩
  by_cases hj : i = j
  · subst hj
    by_cases hi : i < ρ.length
    · rw [List.getElem?_set_self hi] at q; cases q; trivial
    · rw [List.getElem?_eq_none (by simpa using hi)] at q; cases q
  · rw [List.getElem?_set_ne hj] at q ⊢
    exact h.at' j s q
theorem RS.wipe {A : Av} {ρ : Rho} {σ : St} {H : Hp} (h : RS K A ρ σ H) : ∀ vs : List Nat, RS K A (wipeR ρ vs) (L2.wipe σ vs) H
  | [] => h
  | v :: vs => (RS.wipe h vs).setNo
theorem wipe_in {σ : St} {i : Nat} : ∀ {vs : List Nat}, i ∈ vs → i < σ.length → (L2.wipe σ vs)[i]? = some none
  | [], h, _ => by simp at h
  | v :: vs, h, hl => by
    unfold L2.wipe
    by_cases hv : v = i
    · subst hv
      rw [List.getElem?_set_self (by rw [wipe_length]; exact hl)]
    · rw [List.getElem?_set_ne hv]
      exact wipe_in (by rcases List.mem_cons.mp h with h | h; exact absurd h.symm hv; exact h) hl
theorem setsS_length : ∀ (is : List Nat) (xs : List V) (σ : St), (setsS σ is xs).length = σ.length
  | [], _, _ => rfl
  | _ :: _, [], _ => rfl
  | i :: is, x :: xs, σ => by
    show (setsS (σ.set i (some x)) is xs).length = _
    rw [setsS_length is xs, List.length_set]
theorem setsS_out : ∀ (is : List Nat) (xs : List V) (σ : St) (i : Nat), i ∉ is → (setsS σ is xs)[i]? = σ[i]?
  | [], _, _, _, _ => rfl
  | _ :: _, [], _, _, _ => rfl
  | j :: is, x :: xs, σ, i, h => by
    show (setsS (σ.set j (some x)) is xs)[i]? = _
    rw [setsS_out is xs _ i fun z => h (List.mem_cons_of_mem _ z), List.getElem?_set_ne fun z => h (by rw [z]; exact List.mem_cons_self)]
theorem wipe_sets {σ : St} {vs is : List Nat} {xs : List V} (hs : ∀ i ∈ is, i ∈ vs) : L2.wipe (setsS (L2.wipe σ vs) is xs) vs = L2.wipe σ vs := by
  apply List.ext_getElem?
  intro i
  by_cases hv : i ∈ vs
  · by_cases hl : i < σ.length
    · rw [wipe_in hv (by rw [setsS_length, wipe_length]; exact hl), wipe_in hv hl]
    · rw [List.getElem?_eq_none (by rw [wipe_length, setsS_length, wipe_length]; omega), List.getElem?_eq_none (by rw [wipe_length]; omega)]
  · rw [wipe_out hv, setsS_out _ _ _ _ fun z => hv (hs i z)]
def compD (h : PyData → Option (List PyData)) (is : List Nat) (ft : Rho → Option Bool) (fe : Rho → Option PyData) (ρ : Rho) : List PyData → Option (List PyData)
  | [] => some []
  | d :: ds => match h d with
    | none => none
    | some es => match ft (setsR ρ is es) with
      | none => none
      | some false => compD h is ft fe ρ ds
      | some true => match fe (setsR ρ is es) with
        | none => none
        | some y => match compD h is ft fe ρ ds with
          | none => none
          | some ys => some (y :: ys)
def compR (o : Option (List PyData)) (h : PyData → Option (List PyData)) (is : List Nat) (ft : Rho → Option Bool) (fe : Rho → Option PyData) (vs : List Nat) (ρ : Rho) : Option OD := o.bind fun ds => if lenOk ds.length then (compD h is ft fe (wipeR ρ vs) ds).map lO else none
theorem ef_lc {wi : TI} {fi : Rho → Option (List PyData)} {g : TG} {is vs : List Nat} {h : PyData → Option (List PyData)} {tt : TT} {ft : Rho → Option Bool} {te : TE} {fe : Rho → Option PyData} (hi : EIb K wi fi) (hg : EG K g is h) (ht : ET K tt ft) (he : EF K te fe)
    (hv : ∀ i ∈ is, i ∈ vs := by decide) :
    EN K (tLc wi g tt te vs) (fun ρ => compR (fi ρ) h is ft fe vs ρ) := fun A ρ σ H d rs e H1 e1 Q q => by
  unfold compR at e
  obtain ⟨ds, ei, e2⟩ := bind_some' e
  split at e2
  · rename_i hl
    have hl := of_decide_eq_true hl
    cases hcd : compD h is ft fe (wipeR ρ vs) ds with
    | none => rw [hcd] at e2; cases e2
    | some out =>
      rw [hcd] at e2
      cases e2
      refine hi A ρ σ H ds rs ei H1 e1 _ fun J H2 ex2 it Dl hD => ?_
      have rs2 := (rs.mono e1).mono ex2
      have rsw : RS K A (wipeR ρ vs) (L2.wipe σ vs) H2 := rs2.wipe vs
      have hA' : ∀ a, (A a ∨ a = Dl) → A a ∨ H2 a = none := fun a ha => ha.elim .inl fun z => .inr (z ▸ hD)
      refine ⟨fun i m H' => m = ds.length - i ∧ i ≤ ds.length ∧ Ex H2 H' ∧ ∃ acc xs rest, H' Dl = some (.lst xs) ∧ RepL K H' (fun a => A a ∨ a = Dl) acc xs ∧ acc.length ≤ i ∧ compD h is ft fe (wipeR ρ vs) (ds.drop i) = some rest ∧ acc ++ rest = out,
        ⟨_, rfl, Nat.zero_le _, Ex.new hD, [], [], out, upd_same, RepL.nil, Nat.le_refl _, hcd, rfl⟩, ?_⟩
      rintro i m H' ⟨rfl, hil, ex', acc, xs, rest, hDl, racc, hacc, ec, eo⟩
      have av' : AvOk (fun a => A a ∨ a = Dl) H' := fun a ha => by
        rcases ha with ha | ha
        · exact rs2.av.mono ex' a ha
        · subst ha; rw [hDl]; trivial
      have rs' : RS K (fun a => A a ∨ a = Dl) (wipeR ρ vs) (L2.wipe σ vs) H' := by
        refine ⟨rsw.len, av', fun j s qj => ?_⟩
        exact (rsw.at' j s qj).keep2 rs2.av ex' hA'
      by_cases hlt : i < ds.length
      · right
        have hd : ds.drop i = ds[i] :: ds.drop (i + 1) := List.drop_eq_getElem_cons hlt
        rw [hd] at ec
        unfold compD at ec
        cases hh : h ds[i] with
        | none => rw [hh] at ec; cases ec
        | some es =>
          rw [hh] at ec
          dsimp only at ec
          refine ⟨it.goes i H' hlt ex', fun H'' => Ex H2 H'' ∧ ∃ acc xs rest, H'' Dl = some (.lst xs) ∧ RepL K H'' (fun a => A a ∨ a = Dl) acc xs ∧ acc.length ≤ i + 1 ∧ compD h is ft fe (wipeR ρ vs) (ds.drop (i + 1)) = some rest ∧ acc ++ rest = out,
            fun H'' ⟨x1, x2⟩ => ⟨_, by omega, rfl, by omega, x1, x2⟩, fun x H'' y => ?_⟩
          obtain ⟨exy, ry⟩ := it.yields _ i x H' H'' ds[i] hA' (List.getElem?_eq_getElem hlt) ex' y
          have rs'' := rs'.mono exy
          refine hg.run _ _ H'' _ x es rs''.av ry hh _ fun us rl => ⟨wipe_sets hv, ?_⟩
          have rs3 := rs''.sets (is := is) rl
          cases hb : ft (setsR (wipeR ρ vs) is es) with
          | none => rw [hb] at ec; cases ec
          | some b =>
            rw [hb] at ec
            refine ht _ _ _ H'' b rs3 hb H'' (Ex.refl _) _ fun H3 ex3 => ?_
            cases b with
            | false =>
              show Ex H2 H3 ∧ _
              refine ⟨(ex'.trans exy).trans ex3, acc, xs, rest, ex3 _ _ (exy _ _ hDl), (racc.mono av' exy).mono rs''.av ex3, by omega, ec, eo⟩
            | true =>
              show te _ H3 _
              dsimp only at ec
              cases hf : fe (setsR (wipeR ρ vs) is es) with
              | none => rw [hf] at ec; cases ec
              | some z =>
                rw [hf] at ec
                dsimp only at ec
                cases hr : compD h is ft fe (wipeR ρ vs) (ds.drop (i + 1)) with
                | none => rw [hr] at ec; cases ec
                | some rest' =>
                  rw [hr] at ec
                  cases ec
                  refine he _ _ _ H'' z rs3 hf H3 ex3 _ fun w H4 ex4 rw4 => ?_
                  have hD4 := ex4 _ _ (ex3 _ _ (exy _ _ hDl))
                  have racc4 : RepL K H4 (fun a => A a ∨ a = Dl) acc xs := ((racc.mono av' exy).mono rs''.av ex3).mono (rs''.av.mono ex3) ex4
                  have av4 := (rs''.av.mono ex3).mono ex4
                  have kp : Kp (fun a => A a ∨ a = Dl) H4 (upd H4 Dl (.lst (xs ++ [w]))) := fun b u e n => by
                    rw [upd_ne fun z => n (.inr z)]; exact e
                  refine ⟨xs, hD4, by rw [racc4.length]; omega, fun b u e => ?_, acc ++ [z], xs ++ [w], rest', upd_same, RepL.keep av4 kp _ _ (racc4.append (RepL.one rw4)), by simp; omega, rfl, by simpa using eo⟩
                  rw [upd_ne (ne_of_none e hD)]
                  exact ex4 _ _ (ex3 _ _ (exy _ _ (ex' _ _ e)))
      · left
        have hi0 : i = ds.length := by omega
        subst hi0
        rw [List.drop_length] at ec
        cases ec
        have racc' : RepL K H' (fun x => A x ∨ x ∈ [Dl]) acc xs := RepL.anti (fun b hb => hb.imp id List.mem_singleton.mp) _ _ racc
        refine ⟨it.stops H' ex', q (.ref Dl) [Dl] H' (ex2.trans ex') (fun b hb => ?_) (by simp) ?_⟩
        · rw [List.mem_singleton.mp hb]; exact fresh_back ex2 hD
        · rw [← eo, List.append_nil]
          simp only [lO, Tree]
          exact ⟨Dl, xs, [], rfl, rfl, hDl, TreeL.dats racc'⟩
  · cases e2
end
def spD (K : Fg) (f : List PyData → Option PyData) : Sp := fun vs H Q _ => ∃ O ds d, AvOk O H ∧ RepL K H O ds vs ∧ f ds = some d ∧ ∀ v H', Ex H H' → Rep K H' O d v → Q v H'
section
variable {K : Fg}
theorem ef_call {f : List PyData → Option PyData} {E : XK} {tr : TA} {fr : Rho → Option (List PyData)} (ha : EA K tr fr) : EF K (tCall (spD K f) [] E tr) (fun ρ => (fr ρ).bind f) := fun A ρ σ H d rs e H1 e1 Q q => by
  obtain ⟨x, ex, eg⟩ := bind_some' e
  refine ha A ρ σ H x rs ex H1 e1 _ fun vs H2 e2 r2 => ?_
  exact ⟨A, x, d, (rs.av.mono e1).mono e2, by simpa using r2, eg, fun v H' e' r' => q v H' (e2.trans e') r'⟩
def startR (n : Nat) (ds : List PyData) : Rho := ds.map .val ++ List.replicate (n - ds.length) .no
theorem start_ok {N : List Str} {O : Av} {pn : Nat → V} {H : Hp} {ss : List Sl} {vs : List V} (ob : AvOk O H) (hl : ss.length = vs.length) (hn : ∀ s ∈ ss, ∀ d, s ≠ .own d) (r : ∀ (i : Nat) (s : Sl) (v : V), ss[i]? = some s → vs[i]? = some v → SlOk K H O s (some (some v))) :
    SR K H O pn (fun _ => []) (ss ++ List.replicate (N.length - ss.length) .no) (start N vs) H := by
  have noown : ∀ (i : Nat) (d : OW), (ss ++ List.replicate (N.length - ss.length) Sl.no)[i]? ≠ some (Sl.own d) := fun i d q => by
    rw [List.getElem?_append] at q
    split at q
    · exact hn _ (List.mem_of_getElem? q) d rfl
    · rw [List.getElem?_replicate] at q
      split at q <;> cases q
  have av : ∀ a, Avd O (ss ++ List.replicate (N.length - ss.length) Sl.no) (fun _ => []) a → O a := fun a h => by
    rcases h with h | ⟨i, d, q, _⟩
    · exact h
    · exact (noown i d q).elim
  refine ⟨RS.anti av ⟨?_, ob, fun i s q => ?_⟩, Ex.refl _, ob, fun i d q => (noown i d q).elim, fun i d q => (noown i d q).elim, fun i d q => (noown i d q).elim, fun i d q => (noown i d q).elim, fun i j d e q => (noown i d q).elim⟩
  · unfold L2.start
    simp [hl]
  · unfold L2.start
    rw [List.getElem?_append] at q
    split at q
    · rename_i hlt
      have hv : vs[i]? = some (vs[i]'(by omega)) := List.getElem?_eq_getElem (by omega)
      rw [List.getElem?_append_left (by rw [List.length_map]; omega), List.getElem?_map, hv]
      exact r i s _ q hv
    · rw [List.getElem?_replicate] at q
      split at q
      · cases q; trivial
      · cases q
theorem start_ds {N : List Str} {O : Av} {pn : Nat → V} {H : Hp} {ds : List PyData} {vs : List V} (ob : AvOk O H) (r : RepL K H O ds vs) : SR K H O pn (fun _ => []) (startR N.length ds) (start N vs) H := by
  have e : startR N.length ds = ds.map Sl.val ++ List.replicate (N.length - (ds.map Sl.val).length) .no := by unfold startR; simp
  rw [e]
  refine start_ok ob (by simp [r.length]) (fun s hs d e => ?_) fun i s v hs hv => ?_
  · obtain ⟨x, _, rfl⟩ := List.mem_map.mp hs
    cases e
  · rw [List.getElem?_map] at hs
    cases h : ds[i]? with
    | none => rw [h] at hs; cases hs
    | some x =>
      rw [h] at hs
      cases hs
      obtain ⟨v', hv', rv⟩ := r.get h
      rw [hv] at hv'; cases hv'
      exact ⟨v, rfl, rv⟩
/-- what a body's run gives back -/
def retD : Option Res → Option PyData
  | some (.ret d) => some d
  | some (.rex d _) => some d
  | some (.nx _) => some .none
  | _ => none
theorem body_ok {N : List Str} {t : TS} {fb : Rho → Option Res} {f : List PyData → Option PyData} {vs : List V} {H : Hp} {Q : VK} {E : XK} (h : ES K t fb) (hf : ∀ ds d, f ds = some d → retD (fb (startR N.length ds)) = some d) (sp : spD K f vs H Q E) :
    t { nx := fun _ H' => Q .non H', rt := Q } (start N vs) H := by
  obtain ⟨O, ds, d, ob, r, e, q⟩ := sp
  have e' := hf ds d e
  cases hr : fb (startR N.length ds) with
  | none => rw [hr] at e'; cases e'
  | some r1 =>
    rw [hr] at e'
    refine h H O (fun _ => .non) _ _ _ H r1 _ (start_ds ob r) hr ?_
    cases r1 with
    | ret d' => cases e'; exact fun v H' x rv => q v H' x rv
    | rex d' ρ => cases e'; exact fun ow σ v H' s rv => q v H' s.ex (Rep.anti (fun a z => .inl z) _ _ rv)
    | nx ρ => cases e'; exact fun ow σ H' s => q .non H' s.ex (by simp only [Rep])
    | brk ρ => cases e'
    | ct ρ => cases e'
end
end Sv
namespace Sv
open PySem L2 Evl
section
variable {K : Fg} {H : Hp} {A : Av} {v : V}
theorem RepB.tupP {ds : List PyData} (h : RepB K H A (.tuple ds) v) : ∃ a xs, v = .ref a ∧ (SqT K H a xs ∧ (ds.all keyB = true ∨ Plain K H a)) ∧ RepL K H A ds xs := by
  rcases h with h | ⟨a, s, vs, es, rfl, n, e, r⟩
  · simpa only [Rep] using h
  · cases s <;> cases e
    obtain ⟨o, n, hd⟩ := n
    exact ⟨a, vs, rfl, ⟨.inl (.inr ⟨o, n⟩), .inr (.inl ⟨o, vs, n, hd⟩)⟩, r⟩
theorem RepB.tup {ds : List PyData} (h : RepB K H A (.tuple ds) v) : ∃ a xs, v = .ref a ∧ SqT K H a xs ∧ RepL K H A ds xs := by
  obtain ⟨a, xs, e, h1, r⟩ := h.tupP
  exact ⟨a, xs, e, h1.1, r⟩
theorem RepB.int {i : Int} (h : RepB K H A (.int i) v) : v = .int i := by
  rcases h with h | ⟨a, s, vs, es, rfl, n, e, r⟩
  · simpa only [Rep] using h
  · cases s <;> cases e
theorem RepB.str {i : Str} (h : RepB K H A (.str i) v) : v = .str i := by
  rcases h with h | ⟨a, s, vs, es, rfl, n, e, r⟩
  · simpa only [Rep] using h
  · cases s <;> cases e
theorem RepB.bl {i : Bool} (h : RepB K H A (.bool i) v) : v = .bl i := by
  rcases h with h | ⟨a, s, vs, es, rfl, n, e, r⟩
  · simpa only [Rep] using h
  · cases s <;> cases e
theorem RepB.non (h : RepB K H A .none v) : v = .non := by
  rcases h with h | ⟨a, s, vs, es, rfl, n, e, r⟩
  · simpa only [Rep] using h
  · cases s <;> cases e
theorem RepB.dct {kvs : List (PyData × PyData)} (h : RepB K H A (.dict kvs) v) : ∃ a s vs, v = .ref a ∧ keysOf s = some (kvs.map (·.1)) ∧ Node K H a vs s ∧ RepP K H A kvs vs := by
  rcases h with h | ⟨a, s, vs, es, rfl, n, e, r⟩
  · simp only [Rep] at h
    obtain ⟨a, s, vs, e, _, h⟩ := h
    exact ⟨a, s, vs, e, h⟩
  · have hl := r.length
    cases s with
    | lst => cases e
    | tup => cases e
    | dk ks =>
      cases e
      refine ⟨a, .dk ks, vs, rfl, ?_, n, repP_zip isMk_kD n.1 r⟩
      rw [zip_fst (by rw [List.length_map, n.1, hl])]
      rfl
    | dt ks =>
      cases e
      refine ⟨a, .dt ks, vs, rfl, ?_, n, ?_⟩
      · rw [List.map_cons, zip_fst (by rw [List.length_map, n.1, hl])]
        rfl
      · simp only [RepP]
        exact .inl ⟨rfl, repP_zip (fun _ => rfl) n.1 r⟩
    | ob c ns =>
      cases e
      refine ⟨a, .ob c ns, vs, rfl, ?_, n, ?_⟩
      · rw [List.map_cons, zip_fst (by rw [List.length_map, n.1, hl])]
        rfl
      · simp only [RepP]
        exact .inl ⟨rfl, repP_zip (fun _ => rfl) n.1 r⟩
    | tab _ q => cases e
    | gh q => cases e
theorem rep_int {i : Int} : Rep K H A (.int i) (.int i) := by simp only [Rep]
theorem rep_str {i : Str} : Rep K H A (.str i) (.str i) := by simp only [Rep]
theorem rep_bl {i : Bool} : Rep K H A (.bool i) (.bl i) := by simp only [Rep]
theorem rep_newT {p : Addr} {o : Obj} {ds : List PyData} {xs : List V} (ok : AvOk A H) (ho : o.dict = none) (hp : H p = none) (r : RepL K H A ds xs) : Rep K (upd H p (.frz o (.tup xs))) A (.tuple ds) (.ref p) := by
  simp only [Rep]
  exact ⟨p, xs, rfl, ⟨.inl (.inr ⟨o, upd_same⟩), .inr (.inl ⟨o, xs, upd_same, ho⟩)⟩, r.mono ok (Ex.new hp)⟩
theorem rep_newL {p : Addr} {ds : List PyData} {xs : List V} (ok : AvOk A H) (hp : H p = none) (r : RepL K H A ds xs) : Rep K (upd H p (.lst xs)) A (.list ds) (.ref p) := by
  simp only [Rep]
  exact ⟨p, xs, rfl, ok.fresh hp, upd_same, r.mono ok (Ex.new hp)⟩
theorem rep_tup {a : Addr} {ds : List PyData} {xs : List V} (h : SqT K H a xs ∧ (ds.all keyB = true ∨ Plain K H a)) (r : RepL K H A ds xs) : Rep K H A (.tuple ds) (.ref a) := by
  simp only [Rep]
  exact ⟨a, xs, rfl, h, r⟩
end
section
variable {X : Cx}
def rCatR : R2 := fun x y H Q => ∃ l b xs zs, x = .ref l ∧ y = .ref b ∧ Rd H l (.lst xs) ∧ Rd H b (.lst zs) ∧ xs.length + zs.length ≤ sizeLine ∧ ∀ p, H p = none → Q (.ref p) (upd H p (.lst (xs ++ zs)))
theorem op_catR : OpR X (binaryOp .Add) rCatR := by
  intro pins s σ H x y v u Q I rx ry h
  obtain ⟨l, b, xs, zs, rfl, rfl, hH, hB, hz, q⟩ := h
  cases rx
  cases ry
  obtain ⟨z, its, n, r, e⟩ := hH.ok I.hok
  obtain ⟨z2, its2, n2, r2, e2⟩ := hB.ok I.hok
  have hl := r.length
  have hl2 := r2.length
  refine PySem.P.add_list e e2 ?_ (by rw [List.size_toArray, List.size_toArray]; omega)
  have ea : its.toArray ++ its2.toArray = (its ++ its2).toArray := by simp
  rw [ea]
  exact ⟨.ref _, _, I.lnew (t' := s.toks) (r.append r2) (by rw [List.length_append]; omega), rfl, q _ I.fresh⟩
theorem op_addD : OpR X (binaryOp .Add) (fun x y H Q => rI0 (fun i j => .int (i + j)) x y H Q ∨ (∃ i j, x = .str i ∧ y = .str j ∧ i.length + j.length ≤ sizeLine ∧ Q (.str (i ++ j)) H) ∨ rCatF X.K x y H Q ∨ rCatR x y H Q) := op_add.or (op_add_str.or (op_catF.or op_catR))
end
def rAddD (K : Fg) : R2 := fun x y H Q => rI0 (fun i j => .int (i + j)) x y H Q ∨ (∃ i j, x = .str i ∧ y = .str j ∧ i.length + j.length ≤ sizeLine ∧ Q (.str (i ++ j)) H) ∨ rCatF K x y H Q ∨ rCatR x y H Q
theorem op_addd {X : Cx} : OpR X (binaryOp .Add) (rAddD X.K) := op_addD
def addD : PyData → PyData → Option PyData
  | .int a, .int b => some (.int (a + b))
  | .str a, .str b => if lenOk (a.length + b.length) then some (.str (a ++ b)) else none
  | .tuple a, .tuple b => if lenOk (a.length + b.length) then some (.tuple (a ++ b)) else none
  | .list a, .list b => if lenOk (a.length + b.length) then some (.list (a ++ b)) else none
  | _, _ => none
section
variable {K : Fg}
theorem e2_add : E2 K (rAddD K) addD := fun A H d e x y z ok rx ry h Q q => by
  unfold addD at h
  split at h
  · cases h
    cases rx.int; cases ry.int
    exact .inl ⟨_, _, rfl, rfl, q _ H (Ex.refl _) rep_int⟩
  · split at h
    · rename_i hl
      cases h
      cases rx.str; cases ry.str
      exact .inr (.inl ⟨_, _, rfl, rfl, of_decide_eq_true hl, q _ H (Ex.refl _) rep_str⟩)
    · cases h
  · split at h
    · rename_i hl
      cases h
      obtain ⟨a, xs, rfl, h1, r1⟩ := rx.tupP
      obtain ⟨b, ys, rfl, h2, r2⟩ := ry.tupP
      refine .inr (.inr (.inl ⟨a, b, xs, ys, rfl, rfl, h1.1, h2.1, by rw [r1.length, r2.length]; exact of_decide_eq_true hl, fun e => ?_, fun _ e => ?_, fun _ _ p o ho hp => ?_⟩))
      · subst e
        have : (_ : List PyData) = [] := List.length_eq_zero_iff.mp r1.length.symm
        subst this
        exact q _ H (Ex.refl _) (rep_tup h2 r2)
      · subst e
        have : (_ : List PyData) = [] := List.length_eq_zero_iff.mp r2.length.symm
        subst this
        exact q _ H (Ex.refl _) (rep_tup (by simpa using h1) (by simpa using r1))
      · exact q _ _ (Ex.new hp) (rep_newT ok ho hp (r1.append r2))
    · cases h
  · split at h
    · rename_i hl
      cases h
      obtain ⟨a, xs, rfl, h1, r1⟩ := rx.lst
      obtain ⟨b, ys, rfl, h2, r2⟩ := ry.lst
      exact .inr (.inr (.inr ⟨a, b, xs, ys, rfl, rfl, .inl h1, .inl h2, by rw [r1.length, r2.length]; exact of_decide_eq_true hl, fun p hp => q _ _ (Ex.new hp) (rep_newL ok hp (r1.append r2))⟩))
    · cases h
  · cases h
/-- two ints -/
theorem e2_I0 {g : Int → Int → V} {f : Int → Int → PyData} (hg : ∀ H A i j, Rep K H A (f i j) (g i j)) : E2 K (rI0 g) (fun d e => match d, e with | .int i, .int j => some (f i j) | _, _ => none) := fun A H d e x y z ok rx ry h Q q => by
  dsimp only at h
  split at h
  · cases h
    cases rx.int; cases ry.int
    exact ⟨_, _, rfl, rfl, q _ H (Ex.refl _) (hg _ _ _ _)⟩
  · cases h
theorem e2_I {C : Int → Int → Prop} [∀ i j, Decidable (C i j)] {g : Int → Int → V} {f : Int → Int → PyData} (hg : ∀ H A i j, Rep K H A (f i j) (g i j)) : E2 K (rI C g) (fun d e => match d, e with | .int i, .int j => if C i j then some (f i j) else none | _, _ => none) := fun A H d e x y z ok rx ry h Q q => by
  dsimp only at h
  split at h
  · split at h
    · cases h
      cases rx.int; cases ry.int
      exact ⟨_, _, rfl, rfl, by assumption, q _ H (Ex.refl _) (hg _ _ _ _)⟩
    · cases h
  · cases h
instance (i j : Int) : Decidable (CDiv i j) := by unfold CDiv; infer_instance
instance (i j : Int) : Decidable (CMul i j) := by unfold CMul; infer_instance
def subD : PyData → PyData → Option PyData := fun d e => match d, e with | .int i, .int j => some (.int (i - j)) | _, _ => none
def mulD : PyData → PyData → Option PyData := fun d e => match d, e with | .int i, .int j => if CMul i j then some (.int (i * j)) else none | _, _ => none
def fdivD : PyData → PyData → Option PyData := fun d e => match d, e with | .int i, .int j => if CDiv i j then some (.int (i / j)) else none | _, _ => none
def modD : PyData → PyData → Option PyData := fun d e => match d, e with | .int i, .int j => if 0 < j then some (.int (i % j)) else none | _, _ => none
theorem e2_sub : E2 K (rI0 fun i j => .int (i - j)) subD := e2_I0 (f := fun i j => .int (i - j)) fun _ _ _ _ => rep_int
theorem e2_mul : E2 K (rI CMul fun i j => .int (i * j)) mulD := e2_I (f := fun i j => .int (i * j)) fun _ _ _ _ => rep_int
theorem e2_fdiv : E2 K (rI CDiv fun i j => .int (i / j)) fdivD := e2_I (f := fun i j => .int (i / j)) fun _ _ _ _ => rep_int
theorem e2_mod : E2 K (rI (fun _ j => 0 < j) fun i j => .int (i % j)) modD := e2_I (f := fun i j => .int (i % j)) fun _ _ _ _ => rep_int
mutual
theorem Rep.dp {H : Hp} {A : Av} : ∀ (d : PyData) (v : V), d.canLay0 = true → Rep K H A d v → Dp K H v d
  | .none, _, _, h => by simp only [Rep] at h; subst h; exact .non
  | .bool b, _, _, h => by simp only [Rep] at h; subst h; exact .bl b
  | .int i, _, _, h => by simp only [Rep] at h; subst h; exact .int i
  | .str s, _, _, h => by simp only [Rep] at h; subst h; exact .str s
  | .tuple ds, v, c, h => by
    simp only [Rep] at h
    obtain ⟨a, xs, rfl, ⟨h1, _⟩, h2⟩ := h
    simp only [PyData.canLay0] at c
    exact .tup h1 (RepL.dp ds xs c h2)
  | .list ds, v, c, h => by
    simp only [Rep] at h
    obtain ⟨a, xs, rfl, _, h1, h2⟩ := h
    simp only [PyData.canLay0] at c
    exact .lst (SqL.of h1) (RepL.dp ds xs c h2)
  | .dict _, v, c, h => by simp [PyData.canLay0] at c
theorem RepL.dp {H : Hp} {A : Av} : ∀ (ds : List PyData) (xs : List V), PyData.canLayAll0 ds = true → RepL K H A ds xs → DpAll K H xs ds
  | [], xs, _, h => by simp only [RepL] at h; subst h; exact .nil
  | d :: ds, xs, c, h => by
    simp only [RepL] at h
    obtain ⟨y, ys, rfl, h1, h2⟩ := h
    simp only [PyData.canLayAll0, Bool.and_eq_true] at c
    exact .cons (Rep.dp d y c.1 h1) (RepL.dp ds ys c.2 h2)
end
theorem RepB.dp {H : Hp} {A : Av} {d : PyData} {v : V} (c : d.canLay0 = true) (h : RepB K H A d v) : Dp K H v d := by
  cases d with
  | list ds =>
    obtain ⟨a, xs, rfl, h1, h2⟩ := h.lst
    simp only [PyData.canLay0] at c
    exact .lst (SqL.of h1) (RepL.dp ds xs c h2)
  | dict _ => simp [PyData.canLay0] at c
  | none => cases h.non; exact .non
  | bool _ => cases h.bl; exact .bl _
  | int _ => cases h.int; exact .int _
  | str _ => cases h.str; exact .str _
  | tuple ds =>
    obtain ⟨a, xs, rfl, h1, h2⟩ := h.tup
    simp only [PyData.canLay0] at c
    exact .tup h1 (RepL.dp ds xs c h2)
def shp (d : PyData) : Bool := SeqAt.shaped d
theorem shp_lay {d : PyData} (h : shp d = true) : d.canLay0 = true := SeqAt.canLay_of_shaped h
def rEqA (K : Fg) : R2 := fun x y H Q => rEq x y H Q ∨ rEqD K x y H Q
def rNeA (K : Fg) : R2 := fun x y H Q => rNe x y H Q ∨ rNeD K x y H Q
theorem op_eqA {X : Cx} (hu : X.A.units + 64 < cLine) : OpR X (compareOp .Eq) (rEqA X.K) := op_eq.or (op_eqD hu)
theorem op_neA {X : Cx} (hu : X.A.units + 64 < cLine) : OpR X (compareOp .NotEq) (rNeA X.K) := op_ne.or (op_neD hu)
def eqB : PyData → PyData → Option Bool
  | .int a, .int b => some (decide (a = b))
  | .str a, .str b => some (decide (a = b))
  | .bool a, .bool b => some (decide (a = b))
  | d, e => if shp d && shp e then some (PyData.eqv d e) else none
def eqD (d e : PyData) : Option PyData := (eqB d e).map .bool
def neD (d e : PyData) : Option PyData := (eqB d e).map fun b => .bool (!b)
theorem map_some' {α β : Type} {a : Option α} {g : α → β} {z : β} (h : a.map g = some z) : ∃ x, a = some x ∧ z = g x := by
  cases a with
  | none => cases h
  | some x => cases h; exact ⟨x, rfl, rfl⟩
theorem dec_inj {α β : Type} [DecidableEq α] [DecidableEq β] {f : α → β} (hf : ∀ a b, f a = f b → a = b) (a b : α) : decide (f a = f b) = decide (a = b) := by
  by_cases h : a = b
  · subst h; simp
  · rw [decide_eq_false h, decide_eq_false fun z => h (hf a b z)]
theorem e2_eq : E2 K (rEqA K) eqD := fun A H d e x y z ok rx ry h Q q => by
  obtain ⟨b, hb, rfl⟩ := map_some' h
  unfold eqB at hb
  split at hb
  · cases hb
    cases rx.int; cases ry.int
    refine .inl ⟨rfl, ?_⟩
    rw [dec_inj (f := V.int) fun _ _ e => by cases e; rfl]
    exact q _ H (Ex.refl _) rep_bl
  · cases hb
    cases rx.str; cases ry.str
    refine .inl ⟨rfl, ?_⟩
    rw [dec_inj (f := V.str) fun _ _ e => by cases e; rfl]
    exact q _ H (Ex.refl _) rep_bl
  · cases hb
    cases rx.bl; cases ry.bl
    refine .inl ⟨rfl, ?_⟩
    rw [dec_inj (f := V.bl) fun _ _ e => by cases e; rfl]
    exact q _ H (Ex.refl _) rep_bl
  · split at hb
    · rename_i hs
      cases hb
      obtain ⟨h1, h2⟩ := Bool.and_eq_true_iff.mp hs
      exact .inr ⟨d, e, rx.dp (shp_lay h1), ry.dp (shp_lay h2), h1, h2, q _ H (Ex.refl _) rep_bl⟩
    · cases hb
theorem e2_ne : E2 K (rNeA K) neD := fun A H d e x y z ok rx ry h Q q => by
  obtain ⟨b, hb, rfl⟩ := map_some' h
  unfold eqB at hb
  split at hb
  · cases hb
    cases rx.int; cases ry.int
    refine .inl ⟨rfl, ?_⟩
    rw [dec_inj (f := V.int) fun _ _ e => by cases e; rfl]
    exact q _ H (Ex.refl _) rep_bl
  · cases hb
    cases rx.str; cases ry.str
    refine .inl ⟨rfl, ?_⟩
    rw [dec_inj (f := V.str) fun _ _ e => by cases e; rfl]
    exact q _ H (Ex.refl _) rep_bl
  · cases hb
    cases rx.bl; cases ry.bl
    refine .inl ⟨rfl, ?_⟩
    rw [dec_inj (f := V.bl) fun _ _ e => by cases e; rfl]
    exact q _ H (Ex.refl _) rep_bl
  · split at hb
    · rename_i hs
      cases hb
      obtain ⟨h1, h2⟩ := Bool.and_eq_true_iff.mp hs
      exact .inr ⟨d, e, rx.dp (shp_lay h1), ry.dp (shp_lay h2), h1, h2, q _ H (Ex.refl _) rep_bl⟩
    · cases hb
def rOrd (fi : Int → Int → Bool) (fs : Str → Str → Bool) : R2 := fun x y H Q => rI0 (fun i j => .bl (fi i j)) x y H Q ∨ ∃ i j, x = .str i ∧ y = .str j ∧ Q (.bl (fs i j)) H
def ordD (fi : Int → Int → Bool) (fs : Str → Str → Bool) : PyData → PyData → Option PyData
  | .int a, .int b => some (.bool (fi a b))
  | .str a, .str b => some (.bool (fs a b))
  | _, _ => none
theorem e2_ord {fi : Int → Int → Bool} {fs : Str → Str → Bool} : E2 K (rOrd fi fs) (ordD fi fs) := fun A H d e x y z ok rx ry h Q q => by
  unfold ordD at h
  split at h
  · cases h
    cases rx.int; cases ry.int
    exact .inl ⟨_, _, rfl, rfl, q _ H (Ex.refl _) rep_bl⟩
  · cases h
    cases rx.str; cases ry.str
    exact .inr ⟨_, _, rfl, rfl, q _ H (Ex.refl _) rep_bl⟩
  · cases h
def sLt (i j : Str) : Bool := decide (i.cps.toList < j.cps.toList)
def rLtA : R2 := rOrd (fun i j => decide (i < j)) sLt
def ltD := ordD (fun i j => decide (i < j)) sLt
theorem op_ltA {X : Cx} : OpR X (compareOp .Lt) rLtA := op_lt.or op_lt_str
theorem e2_lt : E2 K rLtA ltD := e2_ord
def rLe0 : R2 := rI0 fun i j => .bl (decide (i ≤ j))
def rGt0 : R2 := rI0 fun i j => .bl (decide (j < i))
theorem op_le0 {X : Cx} : OpR X (compareOp .LtE) rLe0 := op_le
theorem op_gt0 {X : Cx} : OpR X (compareOp .Gt) rGt0 := op_gt
def leD : PyData → PyData → Option PyData := fun d e => match d, e with | .int i, .int j => some (.bool (decide (i ≤ j))) | _, _ => none
def gtD : PyData → PyData → Option PyData := fun d e => match d, e with | .int i, .int j => some (.bool (decide (j < i))) | _, _ => none
def geD : PyData → PyData → Option PyData := fun d e => match d, e with | .int i, .int j => some (.bool (decide (j ≤ i))) | _, _ => none
theorem e2_le : E2 K rLe0 leD := e2_I0 (f := fun i j => .bool (decide (i ≤ j))) fun _ _ _ _ => rep_bl
theorem e2_gt : E2 K rGt0 gtD := e2_I0 (f := fun i j => .bool (decide (j < i))) fun _ _ _ _ => rep_bl
def rInAny (K : Fg) (n : Bool) : R2 := fun x y H Q => ∃ d e ds, Dp K H x d ∧ (e = .list ds ∨ e = .tuple ds) ∧ Dp K H y e ∧ SeqAt.shaped d = true ∧ SeqAt.shaped e = true ∧ Q (.bl (if n then !(ds.any fun z => PyData.eqv z d) else ds.any fun z => PyData.eqv z d)) H
theorem op_inAny {X : Cx} (hu : X.A.units + 65 < cLine) : OpR X (compareOp .In) (rInAny X.K false) := by
  intro pins s σ H x y v u Q I rx ry h
  obtain ⟨d, e, ds, hd, he, hy, sd, se, q⟩ := h
  obtain ⟨as, r1⟩ := Dp.reads I d x v hd rx
  obtain ⟨bs, r2⟩ := Dp.reads I e y u hy ry
  rcases he with rfl | rfl
  · exact SeqAt.in_list_reads r2 r1 (SeqAt.canLay_of_shaped se) (SeqAt.canLay_of_shaped sd) (PyProof.Rows.room_in_shaped sd hu) ⟨.bl _, H, I, rfl, q⟩
  · exact SeqAt.in_tuple_reads r2 r1 (SeqAt.canLay_of_shaped se) (SeqAt.canLay_of_shaped sd) (PyProof.Rows.room_in_shaped sd hu) ⟨.bl _, H, I, rfl, q⟩
theorem op_notInAny {X : Cx} (hu : X.A.units + 65 < cLine) : OpR X (compareOp .NotIn) (rInAny X.K true) := by
  intro pins s σ H x y v u Q I rx ry h
  obtain ⟨d, e, ds, hd, he, hy, sd, se, q⟩ := h
  obtain ⟨as, r1⟩ := Dp.reads I d x v hd rx
  obtain ⟨bs, r2⟩ := Dp.reads I e y u hy ry
  rcases he with rfl | rfl
  · exact SeqAt.notIn_list_reads r2 r1 (SeqAt.canLay_of_shaped se) (SeqAt.canLay_of_shaped sd) (PyProof.Rows.room_in_shaped sd hu) ⟨.bl _, H, I, rfl, q⟩
  · exact SeqAt.notIn_tuple_reads r2 r1 (SeqAt.canLay_of_shaped se) (SeqAt.canLay_of_shaped sd) (PyProof.Rows.room_in_shaped sd hu) ⟨.bl _, H, I, rfl, q⟩
def itemsOf : PyData → Option (List PyData)
  | .list ds => some ds
  | .tuple ds => some ds
  | _ => none
def inB (d e : PyData) : Option Bool := match itemsOf e with
  | some ds => if shp d && shp e then some (ds.any fun z => PyData.eqv z d) else none
  | none => none
def inD (d e : PyData) : Option PyData := (inB d e).map .bool
def notInD (d e : PyData) : Option PyData := (inB d e).map fun b => .bool (!b)
theorem items_or {e : PyData} {ds : List PyData} (h : itemsOf e = some ds) : e = .list ds ∨ e = .tuple ds := by
  cases e <;> simp [itemsOf] at h
  · subst h; exact .inl rfl
  · subst h; exact .inr rfl
theorem inB_some {d e : PyData} {b : Bool} (h : inB d e = some b) : ∃ ds, itemsOf e = some ds ∧ shp d = true ∧ shp e = true ∧ b = ds.any fun z => PyData.eqv z d := by
  unfold inB at h
  split at h
  · split at h
    · rename_i hs
      cases h
      obtain ⟨h1, h2⟩ := Bool.and_eq_true_iff.mp hs
      exact ⟨_, by assumption, h1, h2, rfl⟩
    · cases h
  · cases h
theorem e2_in : E2 K (rInAny K false) inD := fun A H d e x y z ok rx ry h Q q => by
  obtain ⟨b, hb, rfl⟩ := map_some' h
  obtain ⟨ds, hi, h1, h2, rfl⟩ := inB_some hb
  exact ⟨d, e, ds, rx.dp (shp_lay h1), items_or hi, ry.dp (shp_lay h2), h1, h2, q _ H (Ex.refl _) rep_bl⟩
theorem e2_notIn : E2 K (rInAny K true) notInD := fun A H d e x y z ok rx ry h Q q => by
  obtain ⟨b, hb, rfl⟩ := map_some' h
  obtain ⟨ds, hi, h1, h2, rfl⟩ := inB_some hb
  exact ⟨d, e, ds, rx.dp (shp_lay h1), items_or hi, ry.dp (shp_lay h2), h1, h2, q _ H (Ex.refl _) rep_bl⟩
def chainD (f g : PyData → PyData → Option PyData) (a b c : Option PyData) : Option PyData := match a with
  | none => none
  | some x => match b with
    | none => none
    | some y => match f x y with
      | some (.bool true) => (match c with
        | none => none
        | some z => g y z)
      | some (.bool false) => some (.bool false)
      | _ => none
theorem ef_chain {r r' : R2} {f g : PyData → PyData → Option PyData} {ta tb tc : TE} {fa fb fc : Rho → Option PyData} (h : E2 K r f) (h' : E2 K r' g) (ha : EF K ta fa) (hb : EF K tb fb) (hc : EF K tc fc) : EF K (tChain r r' ta tb tc) (fun ρ => chainD f g (fa ρ) (fb ρ) (fc ρ)) := fun A ρ σ H d rs e H1 e1 Q q => by
  dsimp only [chainD] at e
  split at e
  · cases e
  · rename_i x ex
    split at e
    · cases e
    · rename_i y ey
      refine ha A ρ σ H x rs ex H1 e1 _ fun v H2 e2 r2 => ?_
      have av2 := (rs.av.mono e1).mono e2
      refine hb A ρ σ H y rs ey H2 (e1.trans e2) _ fun w H3 e3 r3 => ?_
      have av3 := av2.mono e3
      split at e
      · rename_i h1
        refine h A H3 x y v w _ av3 (.inl (r2.mono av2 e3)) (.inl r3) h1 _ fun z H4 e4 r4 => ?_
        simp only [Rep] at r4
        subst r4
        refine ⟨true, rfl, ?_⟩
        split at e
        · cases e
        · rename_i z ez
          show tc σ H4 _
          refine hc A ρ σ H z rs ez H4 (((e1.trans e2).trans e3).trans e4) _ fun u H5 e5 r5 => ?_
          exact h' A H5 y z w u d ((av3.mono e4).mono e5) (.inl ((r3.mono av3 e4).mono (av3.mono e4) e5)) (.inl r5) e Q fun v H6 e6 r6 => q v H6 ((((e2.trans e3).trans e4).trans e5).trans e6) r6
      · rename_i h1
        cases e
        refine h A H3 x y v w _ av3 (.inl (r2.mono av2 e3)) (.inl r3) h1 _ fun z H4 e4 r4 => ?_
        simp only [Rep] at r4
        subst r4
        exact ⟨false, rfl, q _ H4 ((e2.trans e3).trans e4) rep_bl⟩
      · cases e
def rIxA (K : Fg) : R2 := fun x y H Q => rIxT K x y H Q ∨ rIxL K x y H Q ∨ rIxS x y H Q
theorem ix_all {X : Cx} : IxR X (rIxA X.K) := ix_tup.or (ix_list.or ix_str)
def ixD : PyData → PyData → Option PyData
  | .tuple ds, .int i => atI ds i
  | .list ds, .int i => atI ds i
  | .str z, .int i => if lenOk z.length then (atI z.cps.toList i).map fun c => .str ⟨#[c]⟩ else none
  | _, _ => none
theorem RepL.atI {H : Hp} {A : Av} {ds : List PyData} {xs : List V} {i : Int} {d : PyData} (r : RepL K H A ds xs) (h : L2.atI ds i = some d) : ∃ v, L2.atI xs i = some v ∧ Rep K H A d v := by
  unfold L2.atI at h ⊢
  rw [r.length]
  obtain ⟨j, h1, h2⟩ := bind_some' h
  rw [h1]
  exact r.get h2
theorem e2_ix : E2 K (rIxA K) ixD := fun A H d e x y z ok rx ry h Q q => by
  unfold ixD at h
  split at h
  · obtain ⟨a, xs, rfl, h1, r1⟩ := rx.tup
    cases ry.int
    obtain ⟨v, hv, rv⟩ := r1.atI h
    exact .inl ⟨a, xs, _, v, rfl, rfl, h1, hv, q v H (Ex.refl _) rv⟩
  · obtain ⟨a, xs, rfl, h1, r1⟩ := rx.lst
    cases ry.int
    obtain ⟨v, hv, rv⟩ := r1.atI h
    exact .inr (.inl ⟨a, xs, _, v, rfl, rfl, SqL.of h1, hv, q v H (Ex.refl _) rv⟩)
  · split at h
    · rename_i hl
      obtain ⟨c, hc, rfl⟩ := map_some' h
      cases rx.str; cases ry.int
      exact .inr (.inr ⟨_, _, c, rfl, rfl, of_decide_eq_true hl, hc, q _ H (Ex.refl _) rep_str⟩)
    · cases h
  · cases h
def EO (K : Fg) (t : TO) (f : Rho → Option (Option Int)) : Prop := ∀ A ρ σ H o, RS K A ρ σ H → f ρ = some o → ∀ H1, Ex H H1 → ∀ Q : Option Int → Hp → Prop, (∀ H2, Ex H1 H2 → Q o H2) → t σ H1 Q
theorem eo_none : EO K tNoPart (fun _ => some none) := fun A ρ σ H o rs e H1 e1 Q q => by
  cases e
  exact q H1 (Ex.refl _)
def asI : PyData → Option Int
  | .int i => some i
  | _ => none
theorem asI_some {d : PyData} {b : Int} (h : asI d = some b) : d = .int b := by
  cases d <;> simp [asI] at h
  subst h; rfl
theorem eo_some {te : TE} {fe : Rho → Option PyData} (h : EF K te fe) : EO K (tPart te) (fun ρ => ((fe ρ).bind asI).map some) := fun A ρ σ H o rs e H1 e1 Q q => by
  obtain ⟨i, hi, rfl⟩ := map_some' e
  obtain ⟨d, hd, h2⟩ := bind_some' hi
  cases asI_some h2
  refine h A ρ σ H _ rs hd H1 e1 _ fun v H2 e2 r => ⟨i, by simpa only [Rep] using r, q H2 e2⟩
def cutL {α : Type} (xs : List α) (lo hi : Option Int) : List α := (xs.drop (HT.sIx xs.length 0 lo)).take (HT.sIx xs.length xs.length hi - HT.sIx xs.length 0 lo)
def rSlAll (K : Fg) : V → Option Int → Option Int → Hp → VK → Prop := fun x lo hi H Q => rSlF K x lo hi H Q ∨ rSlL K x lo hi H Q
theorem sl_all {X : Cx} : SlR X (rSlAll X.K) := sl_tupF.or sl_list
def slD (d : PyData) (lo hi : Option Int) : Option PyData := match d with
  | .tuple ds => some (.tuple (cutL ds lo hi))
  | .list ds => some (.list (cutL ds lo hi))
  | _ => none
theorem RepL.cut {H : Hp} {A : Av} {ds : List PyData} {xs : List V} (r : RepL K H A ds xs) (lo hi : Option Int) : RepL K H A (cutL ds lo hi) (cutV xs lo hi) := by
  unfold cutL cutV
  rw [r.length]
  exact (r.drop _).take _
theorem cut_whole {α β : Type} {ds : List α} {xs : List β} {lo hi : Option Int} (hl : xs.length = ds.length) (hw : HT.sIx xs.length 0 lo = 0 ∧ HT.sIx xs.length xs.length hi = xs.length) : cutL ds lo hi = ds := by
  unfold cutL
  rw [← hl, hw.1, hw.2]
  simp only [List.drop_zero, Nat.sub_zero]
  exact List.take_of_length_le (Nat.le_of_eq hl.symm)
theorem ef_sl {te : TE} {tl th : TO} {fe : Rho → Option PyData} {fl fh : Rho → Option (Option Int)} (h : EB K te fe) (hl : EO K tl fl) (hh : EO K th fh) : EF K (tSl (rSlAll K) te tl th) (fun ρ => (fe ρ).bind fun d => bnd2 (fl ρ) (fh ρ) (slD d)) := fun A ρ σ H z rs e H1 e1 Q q => by
  obtain ⟨d, hd, e⟩ := bind_some' e
  obtain ⟨lo, hi, el, eh, e⟩ := bnd2_some e
  refine h A ρ σ H d rs hd H1 e1 _ fun v H2 e2 rv => ?_
  refine hl A ρ σ H lo rs el H2 (e1.trans e2) _ fun H3 e3 => ?_
  refine hh A ρ σ H hi rs eh H3 ((e1.trans e2).trans e3) _ fun H4 e4 => ?_
  have ok2 := (rs.av.mono e1).mono e2
  have ok4 := (ok2.mono e3).mono e4
  have rv := rv.mono ok2 (e3.trans e4)
  unfold slD at e
  split at e
  · cases e
    obtain ⟨a, xs, rfl, h1, r1⟩ := rv.tupP
    refine .inl ⟨a, xs, rfl, h1.1, fun hw => ?_, fun _ p o ho hp => ?_⟩
    · rw [cut_whole r1.length hw] at q
      exact q _ H4 ((e2.trans e3).trans e4) (rep_tup h1 r1)
    · exact q _ _ (((e2.trans e3).trans e4).trans (Ex.new hp)) (rep_newT ok4 ho hp (r1.cut lo hi))
  · cases e
    obtain ⟨a, xs, rfl, h1, r1⟩ := rv.lst
    exact .inr ⟨a, xs, rfl, SqL.of h1, fun p hp => q _ _ (((e2.trans e3).trans e4).trans (Ex.new hp)) (rep_newL ok4 hp (r1.cut lo hi))⟩
  · cases e
def rLenA (K : Fg) : List V → Hp → VK → Prop := fun xs H Q => ∃ x n, xs = [x] ∧ LenV K x H n ∧ Q (.int n) H
theorem call_lenA {X : Cx} : CallR X (.builtin "len") (rLenA X.K) := call_len
def lenD : PyData → Option PyData
  | .str z => if lenOk z.length then some (.int z.length) else none
  | .list ds => some (.int ds.length)
  | .tuple ds => some (.int ds.length)
  | _ => none
/-- one argument that may be a name's own -/
theorem ef_cb1 {r : List V → Hp → VK → Prop} {g : PyData → Option PyData} {ta : TE} {fa : Rho → Option PyData} (h : E1 K (fun x => r [x]) g) (ha : EB K ta fa) : EF K (tCB r (tCons ta tNil)) (fun ρ => (fa ρ).bind g) := fun A ρ σ H d rs e H1 e1 Q q => by
  obtain ⟨x, ex, eg⟩ := bind_some' e
  refine ha A ρ σ H x rs ex H1 e1 _ fun v H2 e2 r2 => ?_
  exact h A H2 x v d ((rs.av.mono e1).mono e2) r2 eg Q fun v H4 e4 r4 => q v H4 (e2.trans e4) r4
theorem e1_len : E1 K (fun x => rLenA K [x]) lenD := fun A H d x z ok rx h Q q => by
  unfold lenD at h
  split at h
  · split at h
    · rename_i hl
      cases h
      cases rx.str
      exact ⟨_, _, rfl, ⟨of_decide_eq_true hl, rfl⟩, q _ H (Ex.refl _) rep_int⟩
    · cases h
  · cases h
    obtain ⟨a, xs, rfl, h1, r1⟩ := rx.lst
    refine ⟨_, _, rfl, .inl ⟨xs, SqL.of h1, rfl⟩, ?_⟩
    rw [r1.length]
    exact q _ H (Ex.refl _) rep_int
  · cases h
    obtain ⟨a, xs, rfl, h1, r1⟩ := rx.tup
    refine ⟨_, _, rfl, .inr ⟨xs, h1, rfl⟩, ?_⟩
    rw [r1.length]
    exact q _ H (Ex.refl _) rep_int
  · cases h
/-- tuple(x), list(x) -/
def rTupleA (K : Fg) : List V → Hp → VK → Prop := rTupleF K
theorem call_tupleA {X : Cx} : CallR X (.type "tuple") (rTupleA X.K) := call_tupleF
def tupleD : PyData → Option PyData
  | .list ds => some (.tuple ds)
  | .tuple ds => some (.tuple ds)
  | _ => none
theorem e1_tuple : E1 K (fun x => rTupleA K [x]) tupleD := fun A H d x z ok rx h Q q => by
  unfold tupleD at h
  split at h
  · cases h
    obtain ⟨a, xs, rfl, h1, r1⟩ := rx.lst
    exact ⟨a, xs, rfl, .inl ⟨SqL.of h1, fun l o ho hl => q _ _ (Ex.new hl) (rep_newT ok ho hl r1)⟩⟩
  · cases h
    obtain ⟨a, xs, rfl, h1, r1⟩ := rx.tupP
    exact ⟨a, xs, rfl, .inr ⟨h1.1, q _ H (Ex.refl _) (rep_tup h1 r1)⟩⟩
  · cases h
theorem call_listA {X : Cx} : CallR X (.type "list") (rListS X.K) := call_list_of
def listD : PyData → Option PyData
  | .list ds => some (.list ds)
  | .tuple ds => some (.list ds)
  | _ => none
theorem e1_list : E1 K (fun x => rListS K [x]) listD := fun A H d x z ok rx h Q q => by
  unfold listD at h
  split at h
  · cases h
    obtain ⟨a, xs, rfl, h1, r1⟩ := rx.lst
    exact ⟨a, xs, rfl, .inl (SqL.of h1), fun l hl => q _ _ (Ex.new hl) (rep_newL ok hl r1)⟩
  · cases h
    obtain ⟨a, xs, rfl, h1, r1⟩ := rx.tup
    exact ⟨a, xs, rfl, .inr h1, fun l hl => q _ _ (Ex.new hl) (rep_newL ok hl r1)⟩
  · cases h
/-- isinstance(x, T), T a built-in class -/
def tyName : PyData → String
  | .dict ((.list (_ :: _), _) :: _) => "?"
  | .none => "NoneType"
  | .bool _ => "bool"
  | .int _ => "int"
  | .str _ => "str"
  | .list _ => "list"
  | .tuple _ => "tuple"
  | .dict _ => "dict"
theorem tyX_of {H : Hp} {A : Av} {d : PyData} {v : V} (hd : ∀ kvs, d ≠ .dict kvs) (h : RepB K H A d v) : TyX K H v (.type (tyName d)) := by
  cases d with
  | none => cases h.non; exact .base .non
  | bool b => cases h.bl; exact .base (.bl b)
  | int b => cases h.int; exact .base (.int b)
  | str b => cases h.str; exact .base (.str b)
  | list b =>
    obtain ⟨a, xs, rfl, h1, _⟩ := h.lst
    exact .base (.lst h1)
  | tuple b =>
    obtain ⟨a, xs, rfl, h1, _⟩ := h.tup
    rcases h1 with (h1 | ⟨o, h1⟩) | ⟨o, its, n, h1, h2, _⟩
    · exact .base (.tup h1)
    · exact .fTuple h1
    · exact .kTuple h1 h2
  | dict b => exact (hd b rfl).elim
def isiD (T : String) : PyData → Option PyData
  | .dict _ => none
  | d => (kitB (tyName d) T).map .bool
theorem ef_isi {T : String} {ta : TE} {fa : Rho → Option PyData} (ha : EB K ta fa) : EF K (tCB (rIsi K) (tCons ta (tCons (tC (.ty T)) tNil))) (fun ρ => (fa ρ).bind (isiD T)) := fun A ρ σ H z rs e H1 e1 Q q => by
  obtain ⟨d, hd, e⟩ := bind_some' e
  have nd : ∀ kvs, d ≠ .dict kvs := fun kvs z => by subst z; cases e
  have e' : (kitB (tyName d) T).map .bool = some z := by
    cases d <;> first | exact e | cases e
  obtain ⟨b, hb, rfl⟩ := map_some' e'
  refine ha A ρ σ H d rs hd H1 e1 _ fun v H2 e2 rv => ?_
  exact ⟨v, .ty T, _, _, b, rfl, .ty T, tyX_of nd rv, kit_ty hb, q _ H2 e2 rep_bl⟩
end
section
variable {X : Cx} {tg : Expr}
/-- a list, a tuple or a text -/
def iSeq (K : Fg) (tl : TE) : TI := fun σ H R => tl σ H fun x H1 => (∃ a, x = .ref a ∧ (∃ xs, SqL K H1 a xs) ∧ R (Itl K a) H1) ∨ (∃ a, x = .ref a ∧ (∃ xs, SqT K H1 a xs) ∧ R (Itt K a) H1) ∨ ∃ z, x = .str z ∧ R (Its z) H1
theorem pi_seq {l : Expr} {tl : TE} (hl : PE X l tl) : PI X tg l (iSeq X.K tl) := by
  refine ⟨fun pins s σ H R I h => ?_⟩
  refine thn (hl.run pins s σ H _ I h) fun v s1 ⟨x, H1, I1, r1, q1⟩ => ?_
  rcases q1 with ⟨a, e, ⟨xs, hq⟩, q⟩ | ⟨a, e, ⟨xs, hq⟩, q⟩ | ⟨z, e, q⟩
  · subst e
    cases r1
    obtain ⟨its, rv, p, hz⟩ := I1.list hq
    refine wpAny_pyIter_list p.isList ?_
    refine ⟨s1.heap.objs.size, [s1.heap.objs.size], _, _, H1, rfl, I1.kept (t' := s1.toks) fun b o e => Heap.get?_push_of_some _ e, turn_list a _, ⟨_, Heap.get?_push_size _ rfl, rfl, rfl⟩, fun b hb => ?_, q⟩
    have e : b = s1.heap.objs.size := by simpa using hb
    subst e
    exact I1.fpOk (Nat.le_refl _) (I1.hok.fresh (Nat.le_refl _))
  · subst e
    cases r1
    obtain ⟨its, rv, p, hz⟩ := I1.tuple hq
    refine wpAny_pyIter_tuple (show s1.heap.IsTuple a its.toArray from p) ?_
    refine ⟨s1.heap.objs.size, [s1.heap.objs.size], _, _, H1, rfl, I1.kept (t' := s1.toks) fun b o e => Heap.get?_push_of_some _ e, turn_tuple a _, ⟨_, Heap.get?_push_size _ rfl, rfl, rfl⟩, fun b hb => ?_, q⟩
    have e : b = s1.heap.objs.size := by simpa using hb
    subst e
    exact I1.fpOk (Nat.le_refl _) (I1.hok.fresh (Nat.le_refl _))
  · subst e
    obtain ⟨t, rfl⟩ := r1
    cases ha : z.cps.all (· < 128)
    · exact wpAny_pyIter_wide ha (pi_one (tk := s1.toks) I1 _ (turn_str _ z t "str_iterator" (.inr rfl)) ⟨_, Heap.get?_push_size _ rfl, rfl, rfl⟩ q)
    · exact wpAny_pyIter_ascii ha (pi_one (tk := s1.toks) I1 _ (turn_str _ z t "str_ascii_iterator" (.inl rfl)) ⟨_, Heap.get?_push_size _ rfl, rfl, rfl⟩ q)
end
section
variable {K : Fg}
/-- what is walked, of what stands -/
def walkD : PyData → Option (List PyData)
  | .list ds => some ds
  | .tuple ds => some ds
  | .str z => some (z.cps.toList.map fun c => .str ⟨#[c]⟩)
  | _ => none
theorem iter_tup {A : Av} {H : Hp} {a : Addr} {xs : List V} {ds : List PyData} (ok : AvOk A H) (h1 : SqT K H a xs) (r : RepL K H A ds xs) : Iter K A (Itt K a) H ds (Kp A H) := by
  refine ⟨fun i Ha hi k => ?_, fun Ha k => ?_, fun B i x Ha Hc d hb hd k y => ?_⟩
  · exact (walk_tup (xs := xs)).goes i Ha (by rw [r.length]; exact hi) (SqT.keep ok k h1)
  · have := (walk_tup (xs := xs)).stops Ha (SqT.keep ok k h1)
    rw [r.length] at this
    exact this
  · have hi : i < ds.length := (List.getElem?_eq_some_iff.mp hd).1
    obtain ⟨e, hx⟩ := (walk_tup (xs := xs)).yields i Ha x Hc (by rw [r.length]; exact hi) (SqT.keep ok k h1) y
    subst e
    obtain ⟨v, hv, rv⟩ := r.get hd
    rw [hx] at hv; cases hv
    exact ⟨Ex.refl _, Rep.keep2 ok k hb _ _ rv⟩
theorem iter_lst {A : Av} {H : Hp} {a : Addr} {xs : List V} {ds : List PyData} {P : Hp → Prop} (ok : AvOk A H) (hP : ∀ Ha, P Ha → SqL K Ha a xs ∧ Kp A H Ha) (r : RepL K H A ds xs) : Iter K A (Itl K a) H ds P := by
  refine ⟨fun i Ha hi k => ?_, fun Ha k => ?_, fun B i x Ha Hc d hb hd k y => ?_⟩
  · exact (walk_list (xs := xs)).goes i Ha (by rw [r.length]; exact hi) (hP Ha k).1
  · have := (walk_list (xs := xs)).stops Ha (hP Ha k).1
    rw [r.length] at this
    exact this
  · have hi : i < ds.length := (List.getElem?_eq_some_iff.mp hd).1
    obtain ⟨e, hx⟩ := (walk_list (xs := xs)).yields i Ha x Hc (by rw [r.length]; exact hi) (hP Ha k).1 y
    subst e
    obtain ⟨v, hv, rv⟩ := r.get hd
    rw [hx] at hv; cases hv
    exact ⟨Ex.refl _, Rep.keep2 ok (hP _ k).2 hb _ _ rv⟩
theorem iter_str {A : Av} {H : Hp} {z : Str} {P : Hp → Prop} : Iter K A (Its z) H (z.cps.toList.map fun c => .str ⟨#[c]⟩) P := by
  refine ⟨fun i Ha hi k => ?_, fun Ha k => ?_, fun B i x Ha Hc d hb hd k y => ?_⟩
  · exact walk_str.goes i Ha (by simpa using hi) trivial
  · have := (walk_str (z := z)).stops Ha trivial
    simpa using this
  · have hi : i < z.cps.size := by
      have := (List.getElem?_eq_some_iff.mp hd).1
      simpa using this
    obtain ⟨e, c, hc, hx⟩ := (walk_str (z := z)).yields i Ha x Hc hi trivial y
    subst e
    subst hx
    refine ⟨Ex.refl _, ?_⟩
    rw [List.getElem?_map] at hd
    have : z.cps.toList[i]? = some c := by simpa using hc
    rw [this] at hd
    cases hd
    exact rep_str
theorem ei_seq {tl : TE} {f : Rho → Option PyData} (h : EF K tl f) : EI K (iSeq K tl) (fun ρ => (f ρ).bind walkD) := fun A ρ σ H ds rs e H1 e1 R k => by
  obtain ⟨d, hd, e⟩ := bind_some' e
  refine h A ρ σ H d rs hd H1 e1 _ fun v H2 e2 rv => ?_
  have ok := (rs.av.mono e1).mono e2
  unfold walkD at e
  split at e
  · cases e
    simp only [Rep] at rv
    obtain ⟨a, xs, rfl, na, h1, r1⟩ := rv
    exact .inl ⟨a, rfl, ⟨xs, SqL.of h1⟩, k _ H2 e2 (iter_lst ok (fun Ha kp => ⟨SqL.of (kp a _ h1 na), kp⟩) r1)⟩
  · cases e
    simp only [Rep] at rv
    obtain ⟨a, xs, rfl, ⟨h1, _⟩, r1⟩ := rv
    exact .inr (.inl ⟨a, rfl, ⟨xs, h1⟩, k _ H2 e2 (iter_tup ok h1 r1)⟩)
  · cases e
    simp only [Rep] at rv
    subst rv
    exact .inr (.inr ⟨_, rfl, k _ H2 e2 iter_str⟩)
  · cases e
theorem eib_seq {tl : TE} {f : Rho → Option PyData} (h : EB K tl f) : EIb K (iSeq K tl) (fun ρ => (f ρ).bind walkD) := fun A ρ σ H ds rs e H1 e1 R k => by
  obtain ⟨d, hd, e⟩ := bind_some' e
  refine h A ρ σ H d rs hd H1 e1 _ fun v H2 e2 rv => ?_
  have ok := (rs.av.mono e1).mono e2
  unfold walkD at e
  split at e
  · cases e
    obtain ⟨a, xs, rfl, h1, r1⟩ := rv.lst
    exact .inl ⟨a, rfl, ⟨xs, SqL.of h1⟩, k _ H2 e2 (iter_lst ok (fun Ha x => ⟨SqL.of (x _ _ h1), Kp.ofEx x⟩) r1)⟩
  · cases e
    obtain ⟨a, xs, rfl, h1, r1⟩ := rv.tup
    exact .inr (.inl ⟨a, rfl, ⟨xs, h1⟩, k _ H2 e2 ((iter_tup ok h1 r1).imp fun _ x => Kp.ofEx x)⟩)
  · cases e
    cases rv.str
    exact .inr (.inr ⟨_, rfl, k _ H2 e2 iter_str⟩)
  · cases e
/-- range -/
def rngD (lo hi : Int) : List PyData := (List.range (hi - lo).toNat).map fun (i : Nat) => .int (lo + (i : Int))
def rngOk (i : Int) : Bool := decide (-(2 ^ 62) ≤ i ∧ i < 2 ^ 62)
theorem iter_range {A : Av} {H : Hp} {lo hi : Int} {P : Hp → Prop} : Iter K A (Itr lo (hi - lo).toNat) H (rngD lo hi) P := by
  have hl : (rngD lo hi).length = (hi - lo).toNat := by unfold rngD; simp
  refine ⟨fun i Ha hi' k => ?_, fun Ha k => ?_, fun B i x Ha Hc d hb hd k y => ?_⟩
  · exact walk_range.goes i Ha (by rw [← hl]; exact hi') trivial
  · rw [hl]
    exact (walk_range (lo := lo)).stops Ha trivial
  · have hi' : i < (hi - lo).toNat := by rw [← hl]; exact (List.getElem?_eq_some_iff.mp hd).1
    obtain ⟨e, hx⟩ := (walk_range (lo := lo)).yields i Ha x Hc hi' trivial y
    subst e
    subst hx
    refine ⟨Ex.refl _, ?_⟩
    unfold rngD at hd
    rw [List.getElem?_map, List.getElem?_range hi'] at hd
    cases hd
    exact rep_int
def rng1D : List PyData → Option (List PyData)
  | [.int n] => if rngOk n then some (rngD 0 n) else none
  | _ => none
theorem ei_rng1 {ta : TA} {f : Rho → Option (List PyData)} (h : EA K ta f) : EI K (iRng1 ta) (fun ρ => (f ρ).bind rng1D) := fun A ρ σ H ds rs e H1 e1 R k => by
  obtain ⟨d, hd, e⟩ := bind_some' e
  unfold rng1D at e
  refine h A ρ σ H d rs hd H1 e1 _ fun vs H2 e2 rv => ?_
  split at e
  · split at e
    · rename_i hr
      cases e
      obtain ⟨b1, b2⟩ := of_decide_eq_true hr
      simp only [RepL, Rep] at rv
      obtain ⟨y, ys, rfl, rfl, rfl⟩ := rv
      refine ⟨_, rfl, b1, b2, k _ H2 e2 ?_⟩
      have := iter_range (K := K) (A := A) (H := H2) (lo := 0) (hi := ‹Int›) (P := Kp A H2)
      simpa using this
    · cases e
  · cases e
end
end Sv
namespace Sv
open PySem L2 Evl
open Sem (wp)
open AutoSeq1 (wpAny_loadPart')
theorem meets_enum_newT (l : Addr) (items : Array Value) (n : Nat) (dct : Option Addr) (sl : Array (Option Value)) :
    Meets (Builtin.«enumerate.__new__» ⟨[.type "enumerate", .ref l], []⟩) (fun _ R s => s.heap.get? l = some { cls := .type "tuple", dict := dct, data := .seq items n, slots := sl } ∧
      R (.ok (.ret (.ref (s.heap.push { cls := .type "tuple_iterator", data := .fields #[.ref l, .int 0 0] }).objs.size)))
        { s with heap := (s.heap.push { cls := .type "tuple_iterator", data := .fields #[.ref l, .int 0 0] }).push { cls := .type "enumerate", data := .fields #[.none, .bool false, .ref s.heap.objs.size, rawInt 0, .none, .none] } }) :=
  .of_wp fun prog w A R s h => by
    obtain ⟨hp, g, d, tk, os⟩ := s; obtain ⟨hl, h⟩ := h
    have hsub := sub_enumerate
    have hL : Heap.IsTuple (Shared.heap ⟨hp, g, d, tk, os⟩) l items := ⟨_, hl, rfl, n, rfl⟩
    wp_walk using wpAny_loadPart' hl
    refine wpAny_stack_any fun st => wpAny_pure ?_
    split
    · rename_i c _ _ _ _ _
      cases (c == Value.type "enumerate")
      · wp_walk using wpAny_loadPart' hl, wpAny_pyIter_tuple hL
        exact ⟨_, rfl, h⟩
      · wp_walk using wpAny_loadPart' hl, wpAny_pyIter_tuple hL
        exact ⟨_, rfl, h⟩
    · wp_walk using wpAny_loadPart' hl, wpAny_pyIter_tuple hL
      exact ⟨_, rfl, h⟩
section
variable {prog : Program} {w : World} {A : Around} {E : Value → Shared → Prop} {s : Shared}
theorem call_enum_tuple {l : Addr} {items : Array Value} {Q : Value → Shared → Prop} (hL : s.heap.IsTuple l items)
    (h : ∀ h', IsEnum h' (s.heap.objs.size + 1) s.heap.objs.size 0 .none → h'.IsTupleIter s.heap.objs.size l 0 → h'.objs.size = s.heap.objs.size + 2 →
      (∀ b o, s.heap.get? b = some o → h'.get? b = some o) → Q (.ref (s.heap.objs.size + 1)) { s with heap := h' }) :
    wpAny (model prog w) A (call (.type "enumerate") [.ref l]) Q E s := by
  obtain ⟨⟨c, dct, dt, sl⟩, hl, hc, n, hd⟩ := hL
  replace hc : c = .type "tuple" := hc
  replace hd : dt = .seq items n := hd
  subst hc hd
  refine callType_new F.called_enumerate (by decide) (F.typeCall_enumerate_1 _) (F.newCall_enumerate_1 _) (fun obj => F.args_object_init_2 obj _) F.entry_enumerate_new
    (meets_enum_newT l items n dct sl) ⟨hl, ?_⟩
  have hz : (s.heap.push { cls := .type "tuple_iterator", data := .fields #[.ref l, .int 0 0] }).objs.size = s.heap.objs.size + 1 := Heap.size_push ..
  show _ ∧ _
  rw [hz]
  have he : IsEnum ((s.heap.push { cls := .type "tuple_iterator", data := .fields #[.ref l, .int 0 0] }).push
      { cls := .type "enumerate", data := .fields #[.none, .bool false, .ref s.heap.objs.size, rawInt 0, .none, .none] }) (s.heap.objs.size + 1) s.heap.objs.size 0 .none := by
    have := Heap.get?_push_size (s.heap.push { cls := .type "tuple_iterator", data := .fields #[.ref l, .int 0 0] })
      (o := { cls := .type "enumerate", data := .fields #[.none, .bool false, .ref s.heap.objs.size, rawInt 0, .none, .none] }) rfl
    rw [hz] at this; exact this
  refine ⟨⟨_, he, rfl⟩, h _ he ⟨_, Heap.get?_push_of_some _ (Heap.get?_push_size _ rfl), rfl, rfl⟩ (by rw [Heap.size_push, hz]) fun b o x => Heap.get?_push_of_some _ (Heap.get?_push_of_some _ x)⟩
end
/-- the tuple at a, each item in a new pair -/
def Iet (K : Fg) (a : Addr) : It :=
  ⟨fun i H => ∃ (xs : List V) (x : V), SqT K H a xs ∧ xs[i]? = some x, fun i H v H' => ∃ T x o, v = .ref T ∧ H T = none ∧ Obj.dict o = none ∧ H' = upd H T (.frz o (.tup [.int (i : Nat), x])) ∧ ∀ xs, SqT K H a xs → xs[i]? = some x, fun i H => ∃ xs : List V, SqT K H a xs ∧ xs.length = i⟩
theorem turn_enumT {P : Program} {w : World} {K : Fg} {elts : List Expr} {kk : Nat} {tpos : Pos} (a e it : Addr) (hai : a ≠ it) (hae : a ≠ e) :
    Turn P w K (.Tuple elts kk tpos) (Iet K a) [e, it] e (fun i h => (∃ old, IsEnum h e it ((i : Nat) : Int) old) ∧ h.IsTupleIter it a i ∧ e ≠ it) where
  mem := by simp
  obj := fun i h st b hb => by
    obtain ⟨⟨old, he⟩, ⟨o, ho, hc, hd⟩, _⟩ := st
    have e' : b = e ∨ b = it := by simpa using hb
    rcases e' with z | z
    · rw [z]; exact ⟨_, he, fun v q => nomatch q⟩
    · rw [z]; exact ⟨o, ho, fun v q => by rw [hd] at q; cases q⟩
  keep := fun i h h' st k => let ⟨⟨old, he⟩, hi, hne⟩ := st; ⟨⟨old, k e (by simp) _ he⟩, hi.at fun o q => k it (by simp) o q, hne⟩
  item := by
    intro X hP hw hK hc i pins s σ H E I hf st hg
    subst hP hw hK
    obtain ⟨⟨old, he⟩, hit, hne⟩ := st
    obtain ⟨xs, x, hq, hx⟩ := hg
    obtain ⟨its, rv, p, hz⟩ := I.tuple hq
    obtain ⟨u, hu, ru⟩ := rv.get hx
    have hel : e < s.heap.objs.size := Heap.lt_size he
    have hil : it < s.heap.objs.size := by obtain ⟨_, q, _⟩ := hit; exact Heap.lt_size q
    have hil' : i < its.toArray.size := by
      have := (List.getElem?_eq_some_iff.mp hu).1
      simpa using this
    refine wpAny_pyNext_enum_itemD (Draws.tuple (A := X.A.in1) (I.ok.hd hc) it a hai its.toArray) he ⟨hit, p⟩ hil' hne (by simp [hne, Ne.symm hae]) fun x' h' tk hx' ho hst' hT hsz hk => ?_
    have exu : x' = u := by
      have : its.toArray[i]? = some u := by simpa using hu
      rw [this] at hx'
      exact (Option.some.inj hx').symm
    subst exu
    refine ⟨_, rfl, wpAny_letOwnedTupleGo_enum (s := { s with heap := h', toks := tk + 1 }) ho fun h'' he' sb => ?_⟩
    have hT2 : h''.get? s.heap.objs.size = some { cls := .type "tuple", data := .seq #[.int i tk, x'] } := (sb.2 _ (Nat.ne_of_gt hel)).trans hT
    have new : ObjOk X.prog X.w (upd H s.heap.objs.size (.frz { cls := .type "tuple", data := .seq #[.int i tk, x'] } (.tup [.int (i : Nat), x]))) h'' s.heap.objs.size (.frz { cls := .type "tuple", data := .seq #[.int i tk, x'] } (.tup [.int (i : Nat), x])) :=
      ⟨hT2, by show 2 ≤ sizeLine; decide, [.int i tk, x'], .cons ⟨_, rfl⟩ (.cons ru .nil), ⟨_, hT2, rfl, _, rfl⟩⟩
    have I1 : Inv X pins σ (upd H s.heap.objs.size (.frz { cls := .type "tuple", data := .seq #[.int i tk, x'] } (.tup [.int (i : Nat), x]))) { s with heap := h'', toks := tk + 1 } :=
      I.turnedNew (ch := [e, it]) (fun b ob hb q => (sb.2 b (fun z => hb (by simp [z]))).trans (hk b ob (fun z => hb (by simp [z])) (fun z => hb (by simp [z])) q)) hf (Nat.le_refl _) new
    refine ⟨.ref s.heap.objs.size, _, I1, rfl, ⟨_, x, _, rfl, I.hok.fresh (Nat.le_refl _), rfl, rfl, fun ys hy => by rw [I.tuple_inj hy hq]; exact hx⟩, ⟨⟨x', ?_⟩, hst'.1.at fun o q => (sb.2 it (Ne.symm hne)).trans q, hne⟩, fun b hb => ?_⟩
    · have e1 : ((i + 1 : Nat) : Int) = (i : Int) + 1 := by omega
      rw [e1]; exact he'
    · have hb' : b < s.heap.objs.size := by
        have e' : b = e ∨ b = it := by simpa using hb
        rcases e' with z | z
        · rw [z]; exact hel
        · rw [z]; exact hil
      rw [upd_ne (Nat.ne_of_lt hb')]
      exact (hf b hb).1
  done := by
    intro X hP hw hK hc i pins s σ H E I hf st hg
    subst hP hw hK
    obtain ⟨⟨old, he⟩, hit, hne⟩ := st
    obtain ⟨xs, hq, hx⟩ := hg
    obtain ⟨its, rv, p, hz⟩ := I.tuple hq
    obtain ⟨f0, f1, f2, f3, f4, f5⟩ := hf it (by simp)
    have hl := rv.length
    have hs : its.toArray.size = i := by rw [List.size_toArray, ← hl, hx]
    exact wpAny_pyNext_enum_endD (Draws.tuple (A := X.A.in1) (I.ok.hd hc) it a hai its.toArray) he (by rw [hs]; exact ⟨hit, p⟩) fun h' eb => ⟨rfl, I.turned (t' := s.toks) (fun b o hb q => eb b o hb q) f0 f1 f3 f4 f5⟩
  self := fun A i s Q E st h => let ⟨⟨_, he⟩, _⟩ := st; wpAny_pyIter_enum he h
/-- enumerate of a list or tuple -/
def iEnumA (K : Fg) (ta : TA) : TI := fun σ H R => ta σ H fun vs H1 => ∃ a xs, vs = [.ref a] ∧ ((SqL K H1 a xs ∧ R (Ite K a) H1) ∨ (SqT K H1 a xs ∧ R (Iet K a) H1))
theorem pi_enumA {X : Cx} {e : Expr} {ta : TA} {p pos tpos : Pos} {elts : List Expr} {kk : Nat} (hg : Gl X "enumerate") (hm : X.mg "enumerate" = none) (ha : PA X [e] ta) (hs : starEach [e] X.env = [(false, eval e X.env)] := by rfl) :
    PI X (.Tuple elts kk tpos) (.Call (.Name "enumerate" p) [e] [] pos) (iEnumA X.K ta) := by
  refine ⟨fun pins s σ H R I h => ?_⟩
  refine PyProof.Rows.Call_ (ld_blt I hg hm PyProof.Rows.boot_enumerate (PyProof.Rows.callWith_type1 (thn (ha.run pos pins s σ H _ I h) fun us s1 ⟨vs, H1, I1, r1, q1⟩ => ?_) hs rfl))
  obtain ⟨a, xs, ex, q⟩ := q1
  subst ex
  cases r1 with
  | cons r rr =>
    cases rr
    cases r
    rcases q with ⟨hq, q⟩ | ⟨hq, q⟩
    · obtain ⟨its, rv, p', hz⟩ := I1.list hq
      refine call_enumerate_list p'.isList fun h' he hit hsz hk => wpAny_pyIter_enum he ?_
      have I2 : Inv X pins σ H1 { s1 with heap := h' } := I1.kept (t' := s1.toks) hk
      refine ⟨s1.heap.objs.size + 1, [s1.heap.objs.size + 1, s1.heap.objs.size], _, _, H1, rfl, I2, turn_enum a (s1.heap.objs.size + 1) s1.heap.objs.size, ⟨⟨.none, he⟩, hit, Nat.succ_ne_self _⟩, fun b hb => ?_, q⟩
      have e' : b = s1.heap.objs.size + 1 ∨ b = s1.heap.objs.size := by simpa using hb
      have hle : s1.heap.objs.size ≤ b := by
        rcases e' with z | z
        · rw [z]; exact Nat.le_add_right _ _
        · rw [z]; exact Nat.le_refl _
      exact I1.fpOk hle (I1.hok.fresh hle)
    · obtain ⟨its, rv, p', hz⟩ := I1.tuple hq
      have hal : a < s1.heap.objs.size := p'.lt
      refine call_enum_tuple (show s1.heap.IsTuple a its.toArray from p') fun h' he hit hsz hk => wpAny_pyIter_enum he ?_
      have I2 : Inv X pins σ H1 { s1 with heap := h' } := I1.kept (t' := s1.toks) hk
      refine ⟨s1.heap.objs.size + 1, [s1.heap.objs.size + 1, s1.heap.objs.size], _, _, H1, rfl, I2, turn_enumT a (s1.heap.objs.size + 1) s1.heap.objs.size (Nat.ne_of_lt hal) (Nat.ne_of_lt (Nat.lt_succ_of_lt hal)), ⟨⟨.none, he⟩, hit, Nat.succ_ne_self _⟩, fun b hb => ?_, q⟩
      have e' : b = s1.heap.objs.size + 1 ∨ b = s1.heap.objs.size := by simpa using hb
      have hle : s1.heap.objs.size ≤ b := by
        rcases e' with z | z
        · rw [z]; exact Nat.le_add_right _ _
        · rw [z]; exact Nat.le_refl _
      exact I1.fpOk hle (I1.hok.fresh hle)
section
variable {K : Fg}
def enumFrom (n : Nat) : List PyData → List PyData
  | [] => []
  | d :: ds => .tuple [.int (n : Int), d] :: enumFrom (n + 1) ds
theorem enumFrom_length : ∀ (ds : List PyData) (n : Nat), (enumFrom n ds).length = ds.length
  | [], _ => rfl
  | _ :: ds, n => by simp [enumFrom, enumFrom_length ds]
theorem enumFrom_get : ∀ (ds : List PyData) (n i : Nat) (e : PyData), (enumFrom n ds)[i]? = some e → ∃ d, ds[i]? = some d ∧ e = .tuple [.int ((n + i : Nat) : Int), d]
  | [], _, i, e, h => by simp [enumFrom] at h
  | d :: ds, n, 0, e, h => by
    simp [enumFrom] at h
    exact ⟨d, rfl, h.symm⟩
  | d :: ds, n, i + 1, e, h => by
    obtain ⟨d', h1, h2⟩ := enumFrom_get ds (n + 1) i e (by simpa [enumFrom] using h)
    refine ⟨d', by simpa using h1, ?_⟩
    rw [h2]
    congr 3
    omega
theorem yield_pair {A B : Av} {H Ha Hc : Hp} {ds : List PyData} {xs : List V} {i T : Nat} {x : V} {d e : PyData} {u : HO} (ok : AvOk A H) (k : Kp A H Ha) (r : RepL K H A ds xs) (hb : ∀ a, B a → A a ∨ H a = none) (hn : Ha T = none) (hx : xs[i]? = some x) (hd : ds[i]? = some d)
    (hc : Hc = upd Ha T u) (hu : SqT K (upd Ha T u) T [.int (i : Nat), x] ∧ (keyB d = true ∨ Plain K (upd Ha T u) T)) (he : e = .tuple [.int ((i : Nat) : Int), d]) : Ex Ha Hc ∧ Rep K Hc B e (.ref T) := by
  subst hc he
  refine ⟨Ex.new hn, ?_⟩
  obtain ⟨v, hv, rv⟩ := r.get hd
  rw [hx] at hv; cases hv
  simp only [Rep]
  refine ⟨T, _, rfl, ⟨hu.1, hu.2.imp (fun h => by simp only [List.all_cons, List.all_nil, h]; rfl) id⟩, RepL.cons rep_int (RepL.one (Rep.keep2 ok ?_ hb _ _ rv))⟩
  intro b o q n
  have := k b o q n
  rw [upd_ne (ne_of_none this hn)]
  exact this
def enumD : PyData → Option (List PyData)
  | .tuple ds => some (enumFrom 0 ds)
  | .list ds => if ds.all keyB then some (enumFrom 0 ds) else none
  | _ => none
theorem ei_enum {ta : TE} {f : Rho → Option PyData} (h : EF K ta f) : EI K (iEnumA K (tCons ta tNil)) (fun ρ => (f ρ).bind enumD) := fun A ρ σ H es rs e H1 e1 R k => by
  obtain ⟨d, hd, e⟩ := bind_some' e
  refine h A ρ σ H d rs hd H1 e1 _ fun v H2 e2 rv => ?_
  have ok := (rs.av.mono e1).mono e2
  unfold enumD at e
  split at e
  · cases e
    simp only [Rep] at rv
    obtain ⟨a, xs, rfl, ⟨h1, _⟩, r1⟩ := rv
    refine ⟨a, xs, rfl, .inr ⟨h1, k _ H2 e2 ⟨fun i Ha hl kp => ?_, fun Ha kp => ?_, fun B i x Ha Hc e hb he kp y => ?_⟩⟩⟩
    · rw [enumFrom_length, ← r1.length] at hl
      exact ⟨xs, xs[i], SqT.keep ok kp h1, by simp [hl]⟩
    · rw [enumFrom_length, ← r1.length]
      exact ⟨xs, SqT.keep ok kp h1, rfl⟩
    · obtain ⟨d', hd', ee⟩ := enumFrom_get _ _ _ _ he
      rw [Nat.zero_add] at ee
      obtain ⟨T, x1, o, rfl, hT, ho, hc, hx1⟩ := y
      exact yield_pair ok kp r1 hb hT (hx1 xs (SqT.keep ok kp h1)) hd' hc ⟨.inl (.inr ⟨o, upd_same⟩), .inr (.inl ⟨o, _, upd_same, ho⟩)⟩ ee
  · split at e
    · rename_i hkb
      cases e
      simp only [Rep] at rv
      obtain ⟨a, xs, rfl, na, h1, r1⟩ := rv
      refine ⟨a, xs, rfl, .inl ⟨SqL.of h1, k _ H2 e2 ⟨fun i Ha hl kp => ?_, fun Ha kp => ?_, fun B i x Ha Hc e hb he kp y => ?_⟩⟩⟩
      · rw [enumFrom_length, ← r1.length] at hl
        exact walk_enum.goes i Ha hl (SqL.of (kp a _ h1 na))
      · rw [enumFrom_length, ← r1.length]
        exact walk_enum.stops Ha (SqL.of (kp a _ h1 na))
      · obtain ⟨d', hd', ee⟩ := enumFrom_get _ _ _ _ he
        rw [Nat.zero_add] at ee
        have hl : i < xs.length := by rw [r1.length]; exact (List.getElem?_eq_some_iff.mp hd').1
        obtain ⟨T, x1, y1, rfl, hT, hc, hx1, hy1⟩ := (walk_enum (K := K) (xs := xs)).yields i Ha x Hc hl (SqL.of (kp a _ h1 na)) y
        cases hx1
        exact yield_pair ok kp r1 hb hT hy1 hd' hc ⟨SqT.of upd_same, .inl (List.all_eq_true.mp hkb d' (List.mem_of_getElem? hd'))⟩ ee
    · cases e
  · cases e
end
end Sv
namespace Sv
open PySem L2 Evl
/-- the built-in names that no module's name hides -/
structure BI (mg : Str → Option Value) : Prop where
  all : mg "all" = none
  any : mg "any" = none
  bool : mg "bool" = none
  dict : mg "dict" = none
  enumerate : mg "enumerate" = none
  int : mg "int" = none
  isinstance : mg "isinstance" = none
  len : mg "len" = none
  list : mg "list" = none
  max : mg "max" = none
  min : mg "min" = none
  range : mg "range" = none
  repr : mg "repr" = none
  set : mg "set" = none
  sorted : mg "sorted" = none
  str : mg "str" = none
  sum : mg "sum" = none
  tuple : mg "tuple" = none
  zip : mg "zip" = none
structure CalS (P : Program) (w : World) (K : Fg) (mg : Str → Option Value) (base : Heap) (k : Nat) (x : Str) (ps : List Str) (sp : Sp) : Prop where
  ex : ∃ (f : Addr) (fd : FuncData), FnOk P w K mg base CX0 k f fd ps sp ∧ mg x = some (.ref f) ∧ PySem.W.keepIn K (.ref f) = true ∧ Binds K fd ps []
abbrev Cal (P : Program) (w : World) (K : Fg) (mg : Str → Option Value) (base : Heap) (k : Nat) (x : Str) (ps : List Str) (m : List PyData → Option PyData) : Prop := CalS P w K mg base k x ps (spD K m)
theorem CalS.mono {P : Program} {w : World} {K : Fg} {mg : Str → Option Value} {base : Heap} {j k : Nat} {x : Str} {ps : List Str} {sp : Sp} (c : CalS P w K mg base j x ps sp) (h : j ≤ k) : CalS P w K mg base k x ps sp := by
  obtain ⟨f, fd, F, r⟩ := c.ex
  exact ⟨f, fd, F.mono h, r⟩
theorem pe_cal {X : Cx} {k : Nat} {x : Str} {ps : List Str} {sp : Sp} {p pos : Pos} {e : Expr} {es : List Expr} {t : TA} (c : CalS X.prog X.w X.K X.mg X.base k x ps sp) (hr : Room k X.A) (hg : Gl X x) (ha : PA X (e :: es) t)
    (hd : (x == ("__debug__" : Str)) = false := by decide)
    (hs : starEach (e :: es) X.env = (false, eval e X.env) :: starEach es X.env := by rfl) (hpl : ((backTo pos (starEach es X.env)).any fun x => x.1) = false := by rfl) :
    PE X (.Call (.Name x p) (e :: es) [] pos) (tCall sp [] E0 t) := by
  obtain ⟨f, fd, F, hm, hk, hb⟩ := c.ex
  exact pe_call F hr hg hm hk hb .nil pass0 ha hd hs hpl
/-- a def of the text -/
theorem cal_of {P : Program} {w : World} {K : Fg} {mg : Str → Option Value} {base : Heap} {k : Nat} {x : Str} {st : Stmt} {f : Addr} {fd : FuncData} {ps : List Str} {sp : Sp} (F : Fun K x x st f fd) (hm : mg x = some (.ref f)) (b : Binds K fd ps []) (G : FnOk P w K mg base CX0 k f fd ps sp) :
    CalS P w K mg base k x ps sp := ⟨f, fd, G, hm, F.kp, b⟩
theorem spD_len {K : Fg} {m : List PyData → Option PyData} {n : Nat} (h : ∀ ds d, m ds = some d → ds.length = n) : ∀ vs H Q E, spD K m vs H Q E → vs.length = n := fun vs H Q E ⟨O, ds, d, _, r, e, _⟩ => by rw [r.length]; exact h ds d e
/-- a body's residue, where the number of arguments is right -/
def runD (n k : Nat) (fb : Rho → Option Res) (ds : List PyData) : Option PyData := if ds.length = k then retD (fb (startR n ds)) else none
theorem runD_len {n k : Nat} {fb : Rho → Option Res} : ∀ ds d, runD n k fb ds = some d → ds.length = k := fun ds d h => by
  unfold runD at h
  split at h
  · assumption
  · cases h
theorem runD_ret {n k : Nat} {fb : Rho → Option Res} : ∀ ds d, runD n k fb ds = some d → retD (fb (startR n ds)) = some d := fun ds d h => by
  unfold runD at h
  split at h
  · exact h
  · cases h
def cellN (ns : List Int) (k : Int) : Int := ns.getD k.toNat 0
def spCell (K : Fg) : Sp := fun vs H Q _ => ∃ a ns k, vs = [.ref a, .int k] ∧ SqL K H a (ns.map V.int) ∧ 0 ≤ k ∧ ∀ H', Ex H H' → Q (.int (cellN ns k)) H'
def mixD (ns : List Int) (k : Int) : Int := (cellN ns k + 7919 * k + 1) * 48271 % 2147483647
def mixN (ns : List Int) (k : Int) : Int := (mixD ns k * mixD ns k + 7 * mixD ns k + k) % 2147483629
def spMix (K : Fg) : Sp := fun vs H Q _ => ∃ a ns k, vs = [.ref a, .int k] ∧ SqL K H a (ns.map V.int) ∧ 0 ≤ k ∧ ∀ H', Ex H H' → Q (.int (mixN ns k)) H'
def intsD : List PyData → Option (List Int)
  | [] => some []
  | .int i :: r => (intsD r).map (i :: ·)
  | _ :: _ => none
def scrOf (i : Nat) (ρ : Rho) : Option (List Int) := match ρ[i]? with
  | some (.scr ns) => some ns
  | some (.val (.list ds)) => intsD ds
  | _ => none
theorem intsD_rep {K : Fg} {H : Hp} {A : Av} : ∀ {ds : List PyData} {ns : List Int} {xs : List V}, intsD ds = some ns → RepL K H A ds xs → xs = ns.map V.int
  | [], ns, xs, e, r => by
    cases e
    simp only [RepL] at r
    exact r
  | .int i :: ds, ns, xs, e, r => by
    obtain ⟨ms, e1, rfl⟩ := map_some' (show (intsD ds).map (i :: ·) = some ns from e)
    simp only [RepL, Rep] at r
    obtain ⟨y, ys, rfl, rfl, r⟩ := r
    rw [intsD_rep e1 r]; rfl
  | .none :: ds, ns, xs, e, r => by cases e
  | .bool _ :: ds, ns, xs, e, r => by cases e
  | .str _ :: ds, ns, xs, e, r => by cases e
  | .list _ :: ds, ns, xs, e, r => by cases e
  | .tuple _ :: ds, ns, xs, e, r => by cases e
  | .dict _ :: ds, ns, xs, e, r => by cases e
theorem scr_at {K : Fg} {A : Av} {ρ : Rho} {σ : St} {H : Hp} {i : Nat} {ns : List Int} (rs : RS K A ρ σ H) (h : scrOf i ρ = some ns) : ∃ a, σ[i]? = some (some (.ref a)) ∧ SqL K H a (ns.map V.int) := by
  unfold scrOf at h
  split at h
  · rename_i q
    cases h
    obtain ⟨a, h1, h2⟩ := rs.at' i _ q
    exact ⟨a, h1, h2.sq⟩
  · rename_i ds q
    obtain ⟨v, h1, h2⟩ := rs.at' i _ q
    simp only [Rep] at h2
    obtain ⟨a, xs, rfl, _, h3, h4⟩ := h2
    exact ⟨a, h1, by rw [← intsD_rep h h4]; exact SqL.of h3⟩
  · cases h
def mixR (ns : List Int) (k : Int) : Option PyData := if 0 ≤ k then some (.int (mixN ns k)) else none
theorem ef_mix {K : Fg} {E : XK} {i : Nat} {te : TE} {fe : Rho → Option PyData} (h : EF K te fe) : EF K (tCall (spMix K) [] E (tCons (tVar i) (tCons te tNil))) (fun ρ => bnd2 (scrOf i ρ) ((fe ρ).bind asI) mixR) := fun A ρ σ H d rs e H1 e1 Q q => by
  obtain ⟨ns, k, hs, hk, e⟩ := bnd2_some e
  obtain ⟨x, hx, hk⟩ := bind_some' hk
  cases asI_some hk
  unfold mixR at e
  split at e
  · rename_i h0
    cases e
    obtain ⟨a, ha, hq⟩ := scr_at rs hs
    refine ⟨_, ha, h A ρ σ H _ rs hx H1 e1 _ fun v H2 e2 rv => ?_⟩
    simp only [Rep] at rv
    subst rv
    exact ⟨a, ns, k, rfl, ex_l (e1.trans e2) hq, h0, fun H' e' => q _ H' (e2.trans e') rep_int⟩
  · cases e
end Sv
namespace Sv
open PySem L2 Evl
theorem bt_len : bootBuiltins "len" = some (.builtin "len") := by decide +kernel
theorem bt_isinstance : bootBuiltins "isinstance" = some (.builtin "isinstance") := by decide +kernel
theorem bt_tuple : bootBuiltins "tuple" = some (.type "tuple") := by decide +kernel
theorem bt_list : bootBuiltins "list" = some (.type "list") := by decide +kernel
theorem bt_str : bootBuiltins "str" = some (.type "str") := by decide +kernel
theorem bt_int : bootBuiltins "int" = some (.type "int") := by decide +kernel
theorem bt_bool : bootBuiltins "bool" = some (.type "bool") := by decide +kernel
theorem bt_all : bootBuiltins "all" = some (.builtin "all") := by decide +kernel
theorem bt_sorted : bootBuiltins "sorted" = some (.builtin "sorted") := by decide +kernel
theorem bt_set : bootBuiltins "set" = some (.type "set") := by decide +kernel
theorem un65 {A : Around} {k : Nat} (hr : Room k A) : A.units + 65 < cLine := by have := hr.un; omega
def notV (o : Option PyData) : Option PyData := (o.bind asB).map fun b => .bool (!b)
def partI (o : Option PyData) : Option (Option Int) := (o.bind asI).map some
def negD : PyData → Option PyData
  | .int i => some (.int (-i))
  | _ => none
theorem e1_neg {K : Fg} : E1 K (rU fun i => .int (-i)) negD := fun A H d x z ok rx h Q q => by
  unfold negD at h
  split at h
  · cases h
    cases rx.int
    exact ⟨_, rfl, q _ H (Ex.refl _) rep_int⟩
  · cases h
def op_mulA {X : Cx} : OpR X (binaryOp .Mult) (rI CMul fun i j => .int (i * j)) := op_mul
theorem e2_mulA {K : Fg} : E2 K (rI CMul fun i j => .int (i * j)) mulD := e2_mul
abbrev mulA := mulD
theorem op_leA {X : Cx} : OpR X (compareOp .LtE) rLe0 := op_le0
end Sv
namespace Sv
open PySem L2 Evl
section
variable {X : Cx} (K : Fg) (h : X.K = K)
include h
theorem op_addK : OpR X (binaryOp .Add) (rAddD K) := h ▸ op_addd
theorem op_eqK (hu : X.A.units + 64 < cLine) : OpR X (compareOp .Eq) (rEqA K) := h ▸ op_eqA hu
theorem op_neK (hu : X.A.units + 64 < cLine) : OpR X (compareOp .NotEq) (rNeA K) := h ▸ op_neA hu
theorem op_inK (hu : X.A.units + 65 < cLine) : OpR X (compareOp .In) (rInAny K false) := h ▸ op_inAny hu
theorem op_notInK (hu : X.A.units + 65 < cLine) : OpR X (compareOp .NotIn) (rInAny K true) := h ▸ op_notInAny hu
theorem ix_K : IxR X (rIxA K) := h ▸ ix_all
theorem sl_K : SlR X (rSlAll K) := h ▸ sl_all
theorem call_lenK : CallR X (.builtin "len") (rLenA K) := h ▸ call_lenA
theorem call_tupleK : CallR X (.type "tuple") (rTupleA K) := h ▸ call_tupleA
theorem call_listK : CallR X (.type "list") (rListS K) := h ▸ call_listA
theorem call_isK : CallR X (.builtin "isinstance") (rIsi K) := h ▸ call_isi
theorem call_allK (hc : X.calm = true) : CallR X (.builtin "all") (rAll K) := h ▸ cr_all hc
theorem pi_seqK {tg l : Expr} {tl : TE} (hl : PE X l tl) : PI X tg l (iSeq K tl) := h ▸ pi_seq hl
theorem pi_enumK {e : Expr} {ta : TA} {p pos tpos : Pos} {elts : List Expr} {kk : Nat} (hg : Gl X "enumerate") (hm : X.mg "enumerate" = none) (ha : PA X [e] ta) (hs : starEach [e] X.env = [(false, eval e X.env)] := by rfl) :
    PI X (.Tuple elts kk tpos) (.Call (.Name "enumerate" p) [e] [] pos) (iEnumA K ta) := h ▸ pi_enumA hg hm ha hs
end
end Sv
namespace Sv
open PySem L2 Evl
/-- nothing promised -/
theorem fn_no {P : Program} {w : World} {K : Fg} {mg : Str → Option Value} {base : Heap} {k : Nat} {f : Addr} {fd : FuncData} {ps : List Str} : FnOk P w K mg base CX0 k f fd ps (spD K fun _ => none) :=
  ⟨fun _ _ _ _ ⟨_, _, _, _, _, e, _⟩ => (nomatch e), fun _ _ _ _ _ _ _ _ _ _ _ _ _ ⟨_, _, _, _, _, e, _⟩ => (nomatch e)⟩
/-- a def that calls itself, so deep -/
def itm (F : (List PyData → Option PyData) → List PyData → Option PyData) : Nat → List PyData → Option PyData
  | 0 => fun _ => none
  | n + 1 => F (itm F n)
theorem rec_ok {P : Program} {w : World} {K : Fg} {mg : Str → Option Value} {base : Heap} {k₀ : Nat} {x : Str} {st : Stmt} {f : Addr} {fd : FuncData} {ps : List Str} {Fm : (List PyData → Option PyData) → List PyData → Option PyData} (F : Fun K x x st f fd) (hm : mg x = some (.ref f)) (b : Binds K fd ps [])
    (step : ∀ j m, k₀ ≤ j → Cal P w K mg base j x ps m → FnOk P w K mg base CX0 (j + 1) f fd ps (spD K (Fm m))) : ∀ n, Cal P w K mg base (k₀ + n) x ps (itm Fm n)
  | 0 => cal_of F hm b fn_no
  | n + 1 => cal_of F hm b (step (k₀ + n) _ (Nat.le_add_right _ _) (rec_ok F hm b step n))
end Sv
namespace Sv
open PySem L2 Evl
/-- a def as the top has left it -/
structure Dn (K : Fg) (x : Str) (st : Stmt) : Prop where
  ex : ∃ f fd, Fun K x x st f fd ∧ PySem.W.nsIn K mainGlobals x = some (some (.ref f))
theorem dn_mk {K : Fg} {x : Str} {st : Stmt} {f : Addr} {oc : Value} {od an : Option Addr} {osl : Array (Option Value)} {kV doc pm cdv ct : Value} (a : PySem.W.nsIn K mainGlobals x = some (some (.ref f)))
    (l : K.lookup f = some ⟨oc, od, .func (PySem.W.fnOf x x (defArgs st) (defBody st) (defScope st) .none kV doc pm an cdv ct), osl⟩) (c : PySem.W.codeIn K cdv x = true) (k : PySem.W.keepIn K (.ref f) = true) : Dn K x st :=
  ⟨f, _, fun_mk l c k, a⟩
/-- from a def's own walk to its calls -/
theorem Dn.cal {P : Program} {w : World} {K : Fg} {mg : Str → Option Value} {base h : Heap} {k : Nat} {x : Str} {st : Stmt} {ps : List Str} {sp : Sp} (d : Dn K x st) (X : K.In h) (G : h.Ns mainGlobals mg)
    (hb : ∀ (kV doc pm : Value) (an : Option Addr) (cdv ct : Value) (us : List Value), us.length = ps.length → bindArgs (PySem.W.fnOf x x (defArgs st) (defBody st) (defScope st) .none kV doc pm an cdv ct) ⟨us, []⟩ = pure (ps.zip us))
    (G' : ∀ f fd, Fun K x x st f fd → FnOk P w K mg base CX0 k f fd ps sp) : CalS P w K mg base k x ps sp := by
  obtain ⟨f, fd, F, a⟩ := d.ex
  exact cal_of F (PySem.W.mg_of X G a) (F.binds hb) (G' f fd F)
theorem Dn.recs {P : Program} {w : World} {K : Fg} {mg : Str → Option Value} {base h : Heap} {k₀ : Nat} {x : Str} {st : Stmt} {ps : List Str} {Fm : (List PyData → Option PyData) → List PyData → Option PyData} (d : Dn K x st) (X : K.In h) (G : h.Ns mainGlobals mg)
    (hb : ∀ (kV doc pm : Value) (an : Option Addr) (cdv ct : Value) (us : List Value), us.length = ps.length → bindArgs (PySem.W.fnOf x x (defArgs st) (defBody st) (defScope st) .none kV doc pm an cdv ct) ⟨us, []⟩ = pure (ps.zip us))
    (step : ∀ f fd j m, Fun K x x st f fd → k₀ ≤ j → Cal P w K mg base j x ps m → FnOk P w K mg base CX0 (j + 1) f fd ps (spD K (Fm m))) (n : Nat) : Cal P w K mg base (k₀ + n) x ps (itm Fm n) := by
  obtain ⟨f, fd, F, a⟩ := d.ex
  exact rec_ok F (PySem.W.mg_of X G a) (F.binds hb) (fun j m hj c => step f fd j m F hj c) n
structure BIk (K : Fg) : Prop where
  all : PySem.W.nsIn K mainGlobals "all" = some none
  any : PySem.W.nsIn K mainGlobals "any" = some none
  bool : PySem.W.nsIn K mainGlobals "bool" = some none
  dict : PySem.W.nsIn K mainGlobals "dict" = some none
  enumerate : PySem.W.nsIn K mainGlobals "enumerate" = some none
  int : PySem.W.nsIn K mainGlobals "int" = some none
  isinstance : PySem.W.nsIn K mainGlobals "isinstance" = some none
  len : PySem.W.nsIn K mainGlobals "len" = some none
  list : PySem.W.nsIn K mainGlobals "list" = some none
  max : PySem.W.nsIn K mainGlobals "max" = some none
  min : PySem.W.nsIn K mainGlobals "min" = some none
  range : PySem.W.nsIn K mainGlobals "range" = some none
  repr : PySem.W.nsIn K mainGlobals "repr" = some none
  set : PySem.W.nsIn K mainGlobals "set" = some none
  sorted : PySem.W.nsIn K mainGlobals "sorted" = some none
  str : PySem.W.nsIn K mainGlobals "str" = some none
  sum : PySem.W.nsIn K mainGlobals "sum" = some none
  tuple : PySem.W.nsIn K mainGlobals "tuple" = some none
  zip : PySem.W.nsIn K mainGlobals "zip" = some none
theorem BIk.of {K : Fg} {h : Heap} {mg : Str → Option Value} (b : BIk K) (X : K.In h) (G : h.Ns mainGlobals mg) : BI mg :=
  ⟨PySem.W.mg_none_of X G b.all, PySem.W.mg_none_of X G b.any, PySem.W.mg_none_of X G b.bool, PySem.W.mg_none_of X G b.dict, PySem.W.mg_none_of X G b.enumerate, PySem.W.mg_none_of X G b.int, PySem.W.mg_none_of X G b.isinstance, PySem.W.mg_none_of X G b.len, PySem.W.mg_none_of X G b.list, PySem.W.mg_none_of X G b.max, PySem.W.mg_none_of X G b.min,
    PySem.W.mg_none_of X G b.range, PySem.W.mg_none_of X G b.repr, PySem.W.mg_none_of X G b.set, PySem.W.mg_none_of X G b.sorted, PySem.W.mg_none_of X G b.str, PySem.W.mg_none_of X G b.sum, PySem.W.mg_none_of X G b.tuple, PySem.W.mg_none_of X G b.zip⟩
end Sv
namespace Sv
open PySem L2 Evl
section
variable {K : Fg}
open Classical in
noncomputable def lessF (F : List Addr) (H : Hp) : Hp := fun b => if b ∈ F then none else H b
end
def EX (K : Fg) (t : TE) (f : Rho → Option (PyData × Rho)) : Prop := ∀ Hb O pn ow ρ σ H d ρ', SR K Hb O pn ow ρ σ H → f ρ = some (d, ρ') → ∀ Q : VK,
  (∀ v ow' H', SR K Hb O pn ow' ρ' σ H' → Rep K H' (Avd O ρ' ow') d v → (∀ d0 v0, Rep K H (Avd O ρ ow) d0 v0 → Rep K H' (Avd O ρ' ow') d0 v0) → Q v H') → t σ H Q
section
variable {K : Fg} {t te ta : TE} {tr : TA} {i j : Nat} {g : Rho → Option (List Nat)} {fe fa : Rho → Option PyData} {fr : Rho → Option (List PyData)} {m : OD → List PyData → Option (PyData × OD)} {E : XK}
def asgX (i : Nat) (o : Option (PyData × Rho)) : Option Res := o.map fun r => .nx (r.2.set i (.val r.1))
theorem es_asgX {f : Rho → Option (PyData × Rho)} {k : Nat} (h : EX K te f) : ES K (tAsg te (gName k)) (fun ρ => asgX k (f ρ)) := fun Hb O pn ow ρ σ H r D sr e fin => by
  obtain ⟨⟨d, ρ'⟩, hd, rfl⟩ := Option.map_eq_some_iff.mp e
  exact h Hb O pn ow ρ σ H d ρ' sr hd _ fun v ow' H' s' r' _ => fin ow' _ H' (s'.setV r')
end
end Sv
namespace Sv
open PySem L2 Evl
open PySem.W (AllAlike Sortable dataLe list_sort_data sorted_data)
open PyProof.Rows (sortedHeap)
open PySem.W (EachIs alike alikeAll)
/-- the sorted values are the values, in the data's order -/
def SortedAs (ys : List V) (ds : List PyData) (zs : List V) (es : List PyData) : Prop := zs.length = es.length ∧ ∀ (j : Nat) (d : PyData), es[j]? = some d → ∃ (i : Nat) (x : V), zs[j]? = some x ∧ ys[i]? = some x ∧ ds[i]? = some d
mutual
theorem reads_in {h : Heap} : ∀ (d : PyData) (v : Value) (as : List Addr), alike d d = true → Reads h v d as → ∀ a ∈ as, ∃ o, h.get? a = some o
  | .none, _, _, _, r => by cases r; simp
  | .bool _, _, _, _, r => by cases r; simp
  | .int _, _, _, _, r => by cases r; simp
  | .str _, _, _, _, r => by cases r; simp
  | .list xs, _, _, hal, r => by
    cases r with
    | list h1 h2 h3 h4 =>
      intro a ha
      rcases List.mem_cons.mp ha with rfl | ha
      · exact ⟨_, h1⟩
      · exact readsAll_in xs _ _ (by simpa [alike] using hal) h4 a ha
  | .tuple xs, _, _, hal, r => by
    cases r with
    | @tuple b o vs n _ _ h1 h2 h3 h4 => exact readsAll_in xs _ _ (by simpa [alike] using hal) h4
  | .dict _, _, _, hal, _ => absurd hal (by simp [alike])
theorem readsAll_in {h : Heap} : ∀ (ds : List PyData) (vs : List Value) (as : List Addr), alikeAll ds ds = true → ReadsAll h vs ds as → ∀ a ∈ as, ∃ o, h.get? a = some o
  | [], _, _, _, r => by cases r; simp
  | d :: ds, _, _, hal, r => by
    cases r with
    | cons h1 h2 =>
      intro a ha
      rcases List.mem_append.mp ha with ha | ha
      · exact reads_in d _ _ (PySem.W.alike_all_cons hal).1 h1 a ha
      · exact readsAll_in ds _ _ (PySem.W.alike_all_cons hal).2 h2 a ha
end
section
variable {X : Cx} {pins : List (Addr × Obj)} {σ : St} {H : Hp} {s : Shared}
theorem each_mem' {R : Value → PyData → Prop} : ∀ {us : List Value} {ds : List PyData}, EachIs R us ds → EachIs (fun v d => R v d ∧ d ∈ ds) us ds
  | _, _, .nil => .nil
  | _, _, .cons h t => .cons ⟨h, List.mem_cons_self⟩ ((each_mem' t).mono fun _ _ z => ⟨z.1, List.mem_cons_of_mem _ z.2⟩)
theorem each_of : ∀ {ys : List V} {us : List Value} {ds : List PyData} (k : Nat) (ys0 : List V) (ds0 : List PyData), Vals ys us → ys.length = ds.length → (∀ j, ys0[k + j]? = ys[j]?) → (∀ j, ds0[k + j]? = ds[j]?) →
    EachIs (fun v d => ∃ (i : Nat) (x : V), RelV x v ∧ ys0[i]? = some x ∧ ds0[i]? = some d) us ds
  | [], us, ds, k, ys0, ds0, r, hl, h1, h2 => by
    cases r
    cases ds with
    | nil => exact .nil
    | cons _ _ => simp at hl
  | y :: ys, us, [], k, ys0, ds0, r, hl, h1, h2 => by simp at hl
  | y :: ys, us, d :: ds, k, ys0, ds0, r, hl, h1, h2 => by
    cases r with
    | cons r rr =>
      refine .cons ⟨k, y, r, by simpa using h1 0, by simpa using h2 0⟩ (each_of (k + 1) ys0 ds0 rr (by simpa using hl) (fun j => ?_) fun j => ?_)
      · have := h1 (j + 1)
        rw [← Nat.add_assoc, Nat.add_right_comm] at this
        simpa using this
      · have := h2 (j + 1)
        rw [← Nat.add_assoc, Nat.add_right_comm] at this
        simpa using this
theorem each_back {ys : List V} {ds : List PyData} : ∀ {us : List Value} {es : List PyData}, EachIs (fun v d => ∃ (i : Nat) (x : V), RelV x v ∧ ys[i]? = some x ∧ ds[i]? = some d) us es → ∃ zs, Vals zs us ∧ SortedAs ys ds zs es
  | [], [], _ => ⟨[], .nil, rfl, fun j d e => by simp at e⟩
  | u :: us, e :: es, h => by
    cases h with
    | cons h1 h2 =>
      obtain ⟨i, x, rx, hx, hd⟩ := h1
      obtain ⟨zs, rz, hl, hz⟩ := each_back h2
      refine ⟨x :: zs, .cons rx rz, by simp [hl], fun j d he => ?_⟩
      cases j with
      | zero => simp at he; subst he; exact ⟨i, x, rfl, hx, hd⟩
      | succ j =>
        obtain ⟨i', x', e1, e2, e3⟩ := hz j d (by simpa using he)
        exact ⟨i', x', by simpa using e1, e2, e3⟩
  | [], _ :: _, h => nomatch h
  | _ :: _, [], h => nomatch h
theorem reads_each (I : Inv X pins σ H s) : ∀ {ys : List V} {us : List Value} {ds : List PyData}, DpAll X.K H ys ds → Vals ys us → EachIs (fun v d => ∃ as, Reads s.heap v (id d) as) us ds
  | [], us, ds, h, r => by
    cases h; cases r; exact .nil
  | y :: ys, us, ds, h, r => by
    cases h with
    | cons h1 h2 =>
      cases r with
      | cons r1 r2 =>
        obtain ⟨as, q⟩ := Dp.reads I _ _ _ h1 r1
        exact .cons ⟨as, q⟩ (reads_each I h2 r2)
theorem dpall_length {K : Fg} {H : Hp} : ∀ {ys : List V} {ds : List PyData}, DpAll K H ys ds → ys.length = ds.length
  | [], ds, h => by cases h; rfl
  | y :: ys, ds, h => by
    cases h with
    | cons h1 h2 => simp [dpall_length h2]
def SortOk (ds : List PyData) : Prop := AllAlike ds ∧ Sortable ds ∧ ds.length ≤ sizeLine ∧ ∀ d ∈ ds, d.depth ≤ 50
/-- the end of sorted: the items are collected -/
theorem sort_tail {ys : List V} {ds : List PyData} {acc : List Value} {Q : VK} (hu : X.A.units + 64 < cLine) (I : Inv X pins σ H s) (rv : Vals ys acc) (hd : DpAll X.K H ys ds) (ok : SortOk ds) (q : ∀ p zs, H p = none → SortedAs ys ds zs (ds.mergeSort (dataLe false id)) → Q (.ref p) (upd H p (.lst zs))) {E : Value → Shared → Prop} {A : Around} (hA : A.units ≤ X.A.units + 2)
    : wpAny (model X.prog X.w) A (newList acc >>= fun l => (holding [l] (call (.builtin "list.sort") [l] []) >>= fun _ => ret l)) (fun fin s' => ∃ v, fin = PySem.Fin.done (Flow.ret v) ∧ EP X pins σ Q v s') E s := by
  obtain ⟨hal, hso, hlen, hdp⟩ := ok
  have hl := dpall_length hd
  have hal' : acc.length = ds.length := by rw [← rv.length, hl]
  refine wpAny_bind (wpAny_newList ?_ (by rw [hal']; exact hlen))
  have hoL : (s.heap.push (PyProof.Rows.seqObj "list" acc.toArray 0)).get? s.heap.objs.size = some (PyProof.Rows.seqObj "list" acc.toArray 0) := Heap.get?_push_size _ rfl
  show wpAny _ _ _ _ _ { s with heap := s.heap.push (PyProof.Rows.seqObj "list" acc.toArray 0) }
  have er := reads_each I hd rv
  refine wpAny_bind (wpAny_holding (list_sort_data (s := { s with heap := s.heap.push (PyProof.Rows.seqObj "list" acc.toArray 0) }) (vs := acc) (bs := ds) (enc := id) hoL (each_of 0 ys ds rv hl (fun j => by simp) fun j => by simp) ?_ (by simpa using hal) (by simpa using hso) hlen (fun d hm => by have := hdp d hm; simp only [id]; omega) fun out ho eo => ?_))
  · refine (each_mem' er).mono fun v d ⟨⟨as, r⟩, hm⟩ => ⟨as, PyProof.Rows.Reads.keeps (fun _ _ z => Heap.get?_push_of_some _ z) r, fun hz => ?_⟩
    obtain ⟨o, ho⟩ := reads_in d v as (hal d hm d hm) r _ hz
    exact Nat.lt_irrefl _ (Heap.lt_size ho)
  · obtain ⟨zs, rz, sa⟩ := each_back eo
    obtain ⟨e', he'⟩ := PyProof.Rows.sortedHeap_at (vs := acc) (out := out.toArray) hoL
    have hz' : zs.length ≤ sizeLine := by rw [rz.length, ho]; exact hlen
    refine wpAny_pure ⟨_, rfl, ⟨.ref s.heap.objs.size, upd H s.heap.objs.size (.lst zs), I.laid (t' := s.toks) (fun b u e => ?_) (Nat.le_refl _) (show ObjOk X.prog X.w _ _ _ (.lst zs) from ⟨hz', out, e', rz, he'⟩), rfl, q _ zs (I.hok.fresh (Nat.le_refl _)) sa⟩⟩
    have hb : b < s.heap.objs.size := Heap.lt_size e
    rw [PyProof.Rows.sortedHeap_old (Nat.ne_of_lt hb) (by rw [Heap.size_push]; exact Nat.lt_succ_of_lt hb)]
    exact Heap.get?_push_of_some _ e
end
def sortOkB (ds : List PyData) : Bool := (ds.all fun d => ds.all fun e => alike d e) && ((ds.all fun d => match d with | .tuple (_ :: _) => true | _ => false) || (ds.all fun d => match d with | .none => false | .tuple _ => false | _ => true)) && lenOk ds.length && ds.all fun d => decide (d.depth ≤ 50)
theorem sortOk_of {ds : List PyData} (h : sortOkB ds = true) : SortOk ds := by
  unfold sortOkB at h
  simp only [Bool.and_eq_true] at h
  obtain ⟨⟨⟨h1, h2⟩, h3⟩, h4⟩ := h
  refine ⟨fun d hd e he => ?_, ?_, of_decide_eq_true h3, fun d hd => ?_⟩
  · exact List.all_eq_true.mp (List.all_eq_true.mp h1 d hd) e he
  · rcases Bool.or_eq_true_iff.mp h2 with h2 | h2
    · left
      intro d hd
      have := List.all_eq_true.mp h2 d hd
      split at this
      · exact ⟨_, _, rfl⟩
      · cases this
    · right
      intro d hd
      have := List.all_eq_true.mp h2 d hd
      split at this
      · cases this
      · cases this
      · rename_i n1 n2
        exact ⟨n1, fun xs z => n2 xs z⟩
  · exact of_decide_eq_true (List.all_eq_true.mp h4 d hd)
def srt (ds : List PyData) : List PyData := ds.mergeSort (dataLe false id)
section
variable {K : Fg} {H : Hp} {A : Av}
theorem sorted_rep {ys zs : List V} {ds es : List PyData} (r : RepL K H A ds ys) (h : SortedAs ys ds zs es) : RepL K H A es zs := by
  refine RepL.mk h.1 fun j d v hd hv => ?_
  obtain ⟨i, x, h1, h2, h3⟩ := h.2 j d hd
  rw [hv] at h1
  cases h1
  obtain ⟨w, hw, rw1⟩ := r.get h3
  rw [h2] at hw
  cases hw
  exact rw1
mutual
theorem Rep.dpa : ∀ (d : PyData) (v : V), alike d d = true → Rep K H A d v → Dp K H v d
  | .none, _, _, h => by simp only [Rep] at h; subst h; exact .non
  | .bool b, _, _, h => by simp only [Rep] at h; subst h; exact .bl b
  | .int i, _, _, h => by simp only [Rep] at h; subst h; exact .int i
  | .str s, _, _, h => by simp only [Rep] at h; subst h; exact .str s
  | .tuple ds, v, c, h => by
    simp only [Rep] at h
    obtain ⟨a, xs, rfl, ⟨h1, _⟩, h2⟩ := h
    exact .tup h1 (RepL.dpa ds xs (by simpa [alike] using c) h2)
  | .list ds, v, c, h => by
    simp only [Rep] at h
    obtain ⟨a, xs, rfl, _, h1, h2⟩ := h
    exact .lst (SqL.of h1) (RepL.dpa ds xs (by simpa [alike] using c) h2)
  | .dict _, v, c, h => by simp [alike] at c
theorem RepL.dpa : ∀ (ds : List PyData) (xs : List V), alikeAll ds ds = true → RepL K H A ds xs → DpAll K H xs ds
  | [], xs, _, h => by simp only [RepL] at h; subst h; exact .nil
  | d :: ds, xs, c, h => by
    simp only [RepL] at h
    obtain ⟨y, ys, rfl, h1, h2⟩ := h
    exact .cons (Rep.dpa d y (PySem.W.alike_all_cons c).1 h1) (RepL.dpa ds ys (PySem.W.alike_all_cons c).2 h2)
end
theorem repL_dp : ∀ {ds : List PyData} {xs : List V}, (∀ d ∈ ds, alike d d = true) → RepL K H A ds xs → DpAll K H xs ds
  | [], xs, _, h => by simp only [RepL] at h; subst h; exact .nil
  | d :: ds, xs, c, h => by
    simp only [RepL] at h
    obtain ⟨y, ys, rfl, h1, h2⟩ := h
    exact .cons (Rep.dpa d y (c d List.mem_cons_self) h1) (repL_dp (fun e he => c e (List.mem_cons_of_mem _ he)) h2)
theorem rep_kV {q : Key} : Rep K H A (kD q) (kV q) := by
  cases q with
  | inl n => simp only [kD, Rep]; rfl
  | inr n => simp only [kD, Rep]; rfl
theorem repL_kV : ∀ ks : List Key, RepL K H A (ks.map kD) (ks.map kV)
  | [] => RepL.nil
  | k :: ks => RepL.cons rep_kV (repL_kV ks)
theorem keyB_all : ∀ ks : List Key, (ks.map kD).all keyB = true
  | [] => rfl
  | .inl _ :: ks => by simp only [List.map_cons, List.all_cons, keyB_all ks]; rfl
  | .inr _ :: ks => by simp only [List.map_cons, List.all_cons, keyB_all ks]; rfl
end
end Sv
namespace Sv
open PySem L2 Evl
def isOb : List (PyData × PyData) → Bool
  | (.list _, _) :: _ => true
  | _ => false
def dgetK (kvs : List (PyData × PyData)) (q : Key) : Option PyData := (kvs.find? fun kv => decide (toK kv.1 = some q)).map (·.2)
def ixE : PyData → PyData → Option PyData
  | .dict kvs, k => if isOb kvs then none else (toK k).bind (dgetK kvs)
  | d, k => ixD d k
section
variable {K : Fg} {H : Hp} {A : Av}
theorem toK_kD (k : Key) : toK (kD k) = some k := by cases k <;> rfl
theorem dget_rep {q : Key} : ∀ {ks : List Key} {kvs : List (PyData × PyData)} {vs : List V}, ks.map kD = kvs.map (·.1) → RepP K H A kvs vs → match dgetK kvs q with
    | some d => ∃ w, valV (ks.zip vs) q = some w ∧ Rep K H A d w
    | none => valV (ks.zip vs) q = none
  | [], [], vs, _, h => rfl
  | [], _ :: _, vs, e, h => by simp at e
  | _ :: _, [], vs, e, h => by simp at e
  | k :: ks, (kd, d) :: kvs, vs, e, h => by
    simp only [List.map_cons, List.cons.injEq] at e
    obtain ⟨rfl, e⟩ := e
    simp only [RepP] at h
    rcases h with ⟨m, _⟩ | ⟨_, y, ys, rfl, h1, h2⟩
    · rw [isMk_kD] at m; cases m
    · rw [List.zip_cons_cons]
      unfold dgetK
      rw [List.find?_cons]
      by_cases hk : k = q
      · subst hk
        rw [decide_eq_true (toK_kD k)]
        exact ⟨y, valV_pos rfl, h1⟩
      · rw [decide_eq_false (by rw [toK_kD]; exact fun z => hk (Option.some.inj z))]
        have ih := dget_rep (q := q) e h2
        unfold dgetK at ih
        rw [valV_neg hk]
        exact ih
theorem dk_of_not {kvs : List (PyData × PyData)} {s : Shp} (h : isOb kvs = false) (hk : keysOf s = some (kvs.map (·.1))) : ∃ ks, s = .dk ks ∧ ks.map kD = kvs.map (·.1) := by
  cases s with
  | lst => cases hk
  | tup => cases hk
  | dk ks => exact ⟨ks, rfl, Option.some.inj hk⟩
  | dt ks =>
    have hk := Option.some.inj hk
    cases kvs with
    | nil => simp at hk
    | cons kv r =>
      obtain ⟨k, d⟩ := kv
      simp only [List.map_cons, List.cons.injEq] at hk
      obtain ⟨rfl, _⟩ := hk
      cases h
  | tab _ q => cases hk
  | gh q => cases hk
  | ob c ns =>
    have hk := Option.some.inj hk
    cases kvs with
    | nil => simp at hk
    | cons kv r =>
      obtain ⟨k, d⟩ := kv
      simp only [List.map_cons, List.cons.injEq] at hk
      obtain ⟨rfl, _⟩ := hk
      cases h
def nodupK : List Key → Bool
  | [] => true
  | k :: ks => !(ks.any fun k' => decide (k' = k)) && nodupK ks
theorem putK_new {kvs : List (Key × V)} {k : Key} {v : V} (h : (kvs.any fun kv => decide (kv.1 = k)) = false) : putK kvs k v = kvs ++ [(k, v)] := by
  unfold putK
  rw [if_neg (by rw [h]; exact Bool.false_ne_true)]
theorem mergeK_new : ∀ (more kvs : List (Key × V)), nodupK (more.map (·.1)) = true → (∀ p ∈ more, (kvs.any fun kv => decide (kv.1 = p.1)) = false) → mergeK kvs more = kvs ++ more
  | [], kvs, _, _ => by simp [mergeK]
  | p :: more, kvs, hn, hd => by
    simp only [List.map_cons, nodupK, Bool.and_eq_true, Bool.not_eq_true'] at hn
    show mergeK (putK kvs p.1 p.2) more = _
    rw [putK_new (hd p List.mem_cons_self), mergeK_new more _ hn.2 fun q hq => ?_]
    · simp
    · rw [List.any_append, hd q (List.mem_cons_of_mem _ hq)]
      have h1 := hn.1
      rw [List.any_map] at h1
      have h2 : decide (q.1 = p.1) = false := by
        have := List.any_eq_false.mp h1 q hq
        simpa using this
      simp only [List.any_cons, List.any_nil, Bool.false_or, Bool.or_false]
      exact decide_eq_false fun z => (of_decide_eq_false h2) z.symm
end
end Sv
namespace Sv
open PySem L2 Evl
def rInt1 : List V → Hp → VK → Prop := fun xs H Q => (∃ i, xs = [.int i] ∧ Q (.int i) H) ∨ ∃ k, xs = [.bl k] ∧ Q (.int (if k then 1 else 0)) H
theorem call_intA {X : Cx} : CallR X (.type "int") rInt1 := call_int1
def intD : PyData → Option PyData
  | .int i => some (.int i)
  | .bool b => some (.int (if b then 1 else 0))
  | _ => none
def rStrA : List V → Hp → VK → Prop := fun xs H Q => (∃ i, xs = [.int i] ∧ i.natAbs.log2 < 1920 ∧ Q (.str (toString i)) H) ∨ ∃ a, xs = [.str a] ∧ Q (.str a) H
theorem call_strA {X : Cx} : CallR X (.type "str") rStrA := by
  intro pins s σ H xs us Q I r h
  rcases h with h | h
  · exact call_str_int pins s σ H xs us Q I r h
  · obtain ⟨a, rfl, q⟩ := h
    obtain ⟨u, rfl, t, rfl⟩ := vals1 r
    exact PySem.P.str_of_str ⟨.str a, H, I, ⟨t, rfl⟩, q⟩
def strD : PyData → Option PyData
  | .int i => if i.natAbs.log2 < 1920 then some (.str (toString i)) else none
  | .str s => some (.str s)
  | _ => none
def boolsD : List PyData → Option (List Bool)
  | [] => some []
  | .bool b :: ds => (boolsD ds).map (b :: ·)
  | _ => none
def allD (d : PyData) : Option PyData := match d with
  | .list ds => (boolsD ds).map fun bs => .bool (bs.all id)
  | _ => none
section
variable {K : Fg}
theorem e1_int : E1 K (fun x => rInt1 [x]) intD := fun A H d x z ok rx h Q q => by
  unfold intD at h
  split at h
  · cases h
    cases rx.int
    exact .inl ⟨_, rfl, q _ H (Ex.refl _) rep_int⟩
  · cases h
    cases rx.bl
    exact .inr ⟨_, rfl, q _ H (Ex.refl _) rep_int⟩
  · cases h
theorem e1_str : E1 K (fun x => rStrA [x]) strD := fun A H d x z ok rx h Q q => by
  unfold strD at h
  split at h
  · split at h
    · cases h
      cases rx.int
      exact .inl ⟨_, rfl, by assumption, q _ H (Ex.refl _) rep_str⟩
    · cases h
  · cases h
    cases rx.str
    exact .inr ⟨_, rfl, q _ H (Ex.refl _) rep_str⟩
  · cases h
theorem boolsD_rep {H : Hp} {A : Av} : ∀ {ds : List PyData} {bs : List Bool} {vs : List V}, boolsD ds = some bs → RepL K H A ds vs → vs = bs.map V.bl
  | [], bs, vs, h, r => by
    cases h
    simp only [RepL] at r
    exact r
  | .bool b :: ds, bs, vs, h, r => by
    obtain ⟨cs, hc, rfl⟩ := Option.map_eq_some_iff.mp (show (boolsD ds).map (b :: ·) = some bs from h)
    simp only [RepL, Rep] at r
    obtain ⟨y, ys, rfl, rfl, r⟩ := r
    rw [boolsD_rep hc r]; rfl
  | .none :: _, _, _, h, _ => by cases h
  | .int _ :: _, _, _, h, _ => by cases h
  | .str _ :: _, _, _, h, _ => by cases h
  | .list _ :: _, _, _, h, _ => by cases h
  | .tuple _ :: _, _, _, h, _ => by cases h
  | .dict _ :: _, _, _, h, _ => by cases h
theorem e1_all : E1 K (fun x => rAll K [x]) allD := fun A H d x z ok rx h Q q => by
  unfold allD at h
  split at h
  · obtain ⟨bs, hb, rfl⟩ := Option.map_eq_some_iff.mp h
    obtain ⟨a, xs, rfl, h1, r⟩ := rx.lst
    exact ⟨a, bs, rfl, by rw [← boolsD_rep hb r]; exact SqL.of h1, q _ H (Ex.refl _) rep_bl⟩
  · cases h
theorem repL_flat {H : Hp} {A : Av} {ds : List PyData} {vs : List V} (r : RepL K H A ds vs) : ∀ n, RepL K H A (List.replicate n ds).flatten (List.replicate n vs).flatten
  | 0 => RepL.nil
  | n + 1 => by
    rw [List.replicate_succ, List.replicate_succ, List.flatten_cons, List.flatten_cons]
    exact r.append (repL_flat r n)
def ENp (K : Fg) (trs : List (TE × TE)) (f : Rho → Option (List (Key × OD))) : Prop := ∀ A ρ σ H ps, RS K A ρ σ H → f ρ = some ps → ∀ H1, Ex H H1 → ∀ Q : List (V × V) → Hp → Prop,
  (∀ vs F H2, Ex H1 H2 → (∀ a ∈ F, H1 a = none) → F.Nodup → TreeL K H2 (fun x => A x ∨ x ∈ F) (ps.map (·.2)) vs F → vs.length = ps.length → Q ((ps.map fun p => kV p.1).zip vs) H2) → tPairs trs σ H1 Q
theorem enp_nil : ENp K [] (fun _ => some []) := fun A ρ σ H ps rs e H1 e1 Q q => by
  cases e
  refine q [] [] H1 (Ex.refl _) (fun a h => nomatch h) List.nodup_nil ?_ rfl
  simp only [List.map_nil, TreeL]
  exact ⟨trivial, trivial⟩
def consP (k : Key) (o : OD) (ps : List (Key × OD)) : List (Key × OD) := (k, o) :: ps
theorem enp_cons {tk tv : TE} {fk : Rho → Option PyData} {fv : Rho → Option OD} {trs : List (TE × TE)} {fr : Rho → Option (List (Key × OD))} (hk : EF K tk fk) (hv : EN K tv fv) (hr : ENp K trs fr) :
    ENp K ((tk, tv) :: trs) (fun ρ => ((fk ρ).bind toK).bind fun k => bnd2 (fv ρ) (fr ρ) fun o ps => some (consP k o ps)) := fun A ρ σ H ps rs e H1 e1 Q q => by
  obtain ⟨k, hk0, e⟩ := bind_some' e
  obtain ⟨kd, hkd, hk1⟩ := bind_some' hk0
  have := toK_some hk1
  subst this
  obtain ⟨o, ps', ho, hp, e⟩ := bnd2_some e
  cases e
  refine hk A ρ σ H _ rs hkd H1 e1 _ fun y H0 e0 ry => ?_
  cases rep_key ry
  have eA := e1.trans e0
  refine hv A ρ σ H o rs ho H0 eA _ fun v F H2 e2 hF nd t => ?_
  have av2 := (rs.av.mono eA).mono e2
  have hb : ∀ a, (A a ∨ a ∈ F) → A a ∨ H a = none := fun a ha => ha.elim .inl fun z => .inr (fresh_back eA (hF a z))
  have avF : AvOk (fun x => A x ∨ x ∈ F) H2 := fun a ha => ha.elim (av2 a) (Tree.mut _ _ _ t a)
  have rs2 : RS K (fun x => A x ∨ x ∈ F) ρ σ H2 := ⟨rs.len, avF, fun j s q => (rs.at' j s q).keep2 rs.av (eA.trans e2) hb⟩
  refine hr _ ρ σ H2 ps' rs2 hp H2 (Ex.refl _) _ fun vs G H3 e3 hG ng tl hl => ?_
  have dis : ∀ a ∈ F, a ∉ G := fun a ha hg => by
    have m := Tree.mut _ _ _ t a ha
    rw [hG a hg] at m; exact m
  refine q (v :: vs) (F ++ G) H3 ((e0.trans e2).trans e3) (fun a ha => ?_) (List.nodup_append.mpr ⟨nd, ng, fun a h b h' z => dis a h (z ▸ h')⟩) ?_ (by simp [consP, hl])
  · rcases List.mem_append.mp ha with ha | ha
    · exact fresh_back e0 (hF a ha)
    · exact fresh_back (e0.trans e2) (hG a ha)
  · simp only [consP, List.map_cons, TreeL]
    refine ⟨v, vs, F, G, rfl, rfl, ?_, TreeL.anti (fun a ha => ?_) _ _ _ tl⟩
    · refine Tree.keep2 avF (Kp.ofEx e3) (fun a ha => ?_) _ _ _ (fun a _ u hu => e3 a u hu) t
      rcases ha with ha | ha
      · exact .inl (.inl ha)
      · rcases List.mem_append.mp ha with ha | ha
        · exact .inl (.inr ha)
        · exact .inr (hG a ha)
    · rcases ha with ha | ha
      · exact .inl (.inl ha)
      · rcases List.mem_append.mp ha with ha | ha
        · exact .inl (.inr ha)
        · exact .inr ha
def dispO (ps : List (Key × OD)) : Option OD := if nodupK (ps.map (·.1)) && decide (ps.length ≤ 15) then some (.nd (.dk (ps.map (·.1))) (ps.map (·.2))) else none
theorem zip_kV : ∀ (ps : List (Key × OD)) (vs : List V), (ps.map fun p => kV p.1).zip vs = ((ps.map (·.1)).zip vs).map fun kv => (kV kv.1, kv.2)
  | [], vs => by simp
  | p :: ps, [] => by simp
  | p :: ps, v :: vs => by
    simp only [List.map_cons, List.zip_cons_cons, zip_kV ps vs]
theorem en_disp {trs : List (TE × TE)} {fr : Rho → Option (List (Key × OD))} (hr : ENp K trs fr) : EN K (tDisp trs) (fun ρ => (fr ρ).bind dispO) := fun A ρ σ H o rs e H1 e1 Q q => by
  obtain ⟨ps, hp, e⟩ := bind_some' e
  unfold dispO at e
  split at e
  · rename_i hc
    cases e
    obtain ⟨hn, hl15⟩ := Bool.and_eq_true_iff.mp hc
    intro p hpn
    have ex0 : Ex H1 (upd H1 p (.dK [])) := Ex.new hpn
    have hb : ∀ a, (A a ∨ a = p) → A a ∨ H a = none := fun a ha => ha.imp id fun z => by rw [z]; exact fresh_back e1 hpn
    have av1 : AvOk (fun a => A a ∨ a = p) (upd H1 p (.dK [])) := fun a ha => by
      rcases ha with ha | rfl
      · exact (rs.av.mono e1).mono ex0 a ha
      · rw [upd_same]; trivial
    have rs1 : RS K (fun a => A a ∨ a = p) ρ σ (upd H1 p (.dK [])) := ⟨rs.len, av1, fun j s q => (rs.at' j s q).keep2 rs.av (e1.trans ex0) hb⟩
    refine hr _ ρ σ _ ps rs1 hp _ (Ex.refl _) _ fun vs F H2 e2 hF nd tl hl => ?_
    have hzl : (ps.map (·.1)).length = vs.length := by rw [List.length_map, hl]
    have h2p := e2 p _ upd_same
    have npF : p ∉ F := fun h => by
      have := hF p h
      rw [upd_same] at this; cases this
    refine ⟨h2p, (ps.map (·.1)).zip vs, zip_kV ps vs, by rw [List.length_zip, ← hzl, Nat.min_self, List.length_map]; exact of_decide_eq_true hl15, ?_⟩
    rw [mergeK_new _ [] (by rw [zip_fst hzl]; exact hn) (fun _ _ => rfl), List.nil_append]
    refine q _ (p :: F) _ (fun b u hu => ?_) (fun a ha => ?_) (List.nodup_cons.mpr ⟨npF, nd⟩) ?_
    · rw [upd_ne (ne_of_none hu hpn)]
      exact e2 b u (ex0 b u hu)
    · rcases List.mem_cons.mp ha with rfl | ha
      · exact hpn
      · exact fresh_back ex0 (hF a ha)
    · simp only [Tree]
      refine ⟨p, vs, F, rfl, rfl, ⟨hzl, upd_same⟩, ?_⟩
      have avF : AvOk (fun x => (A x ∨ x = p) ∨ x ∈ F) H2 := fun a ha => ha.elim (av1.mono e2 a) (TreeL.mut _ _ _ tl a)
      refine TreeL.keep2 avF (fun b u hu hb => ?_) (fun a ha => ?_) _ _ _ (fun b hb u hu => ?_) tl
      · rw [upd_ne (show b ≠ p from fun z => hb (.inl (.inr z)))]; exact hu
      · rcases ha with ha | ha
        · exact .inl (.inl (.inl ha))
        · rcases List.mem_cons.mp ha with ha | ha
          · exact .inl (.inl (.inr ha))
          · exact .inl (.inr ha)
      · rw [upd_ne (show b ≠ p from fun z => npF (z ▸ hb))]; exact hu
  · cases e
end
structure CalM (P : Program) (w : World) (K : Fg) (mg : Str → Option Value) (base : Heap) (k : Nat) (C : Addr) (x : Str) (ps : List Str) (sp : Sp) : Prop where
  ex : ∃ (f : Addr) (fd : FuncData), FnOk P w K mg base CX0 k f fd ps sp ∧ Meth K C x f ∧ Binds K fd ps []
structure CalC (P : Program) (w : World) (K : Fg) (mg : Str → Option Value) (base : Heap) (k : Nat) (C : Addr) (x : Str) (ps : List Str) (sp : Sp) : Prop where
  ex : ∃ (f : Addr) (fd : FuncData), FnOk P w K mg base CX0 k f fd ps sp ∧ Mk K C f ∧ Binds K fd ps [] ∧ mg x = some (.ref C)
theorem CalM.mono {P : Program} {w : World} {K : Fg} {mg : Str → Option Value} {base : Heap} {j k : Nat} {C : Addr} {x : Str} {ps : List Str} {sp : Sp} (c : CalM P w K mg base j C x ps sp) (h : j ≤ k) : CalM P w K mg base k C x ps sp := by
  obtain ⟨f, fd, F, r⟩ := c.ex
  exact ⟨f, fd, F.mono h, r⟩
theorem CalC.mono {P : Program} {w : World} {K : Fg} {mg : Str → Option Value} {base : Heap} {j k : Nat} {C : Addr} {x : Str} {ps : List Str} {sp : Sp} (c : CalC P w K mg base j C x ps sp) (h : j ≤ k) : CalC P w K mg base k C x ps sp := by
  obtain ⟨f, fd, F, r⟩ := c.ex
  exact ⟨f, fd, F.mono h, r⟩
end Sv
namespace Sv
open PySem L2 Evl
section
variable {K : Fg}
def lstO (ds : List PyData) : Option OD := if lenOk ds.length then some (lO ds) else none
theorem en_lstD {tr : TA} {fr : Rho → Option (List PyData)} (ha : EA K tr fr) : EN K (tLst tr) (fun ρ => (fr ρ).bind lstO) := fun A ρ σ H d rs e H1 e1 Q q => by
  obtain ⟨x, ex, eg⟩ := bind_some' e
  unfold lstO at eg
  split at eg
  · rename_i hl
    cases eg
    refine ha A ρ σ H x rs ex H1 e1 _ fun vs H2 e2 r2 => ⟨by rw [r2.length]; exact of_decide_eq_true hl, fun p hp => ?_⟩
    have av2 := (rs.av.mono e1).mono e2
    refine q _ [p] _ (e2.trans (Ex.new hp)) (fun a ha => ?_) (by simp) ?_
    · rw [List.mem_singleton.mp ha]; exact fresh_back e2 hp
    · simp only [lO, Tree]
      exact ⟨p, vs, [], rfl, rfl, upd_same, TreeL.dats (RepL.keep2 av2 (Kp.ofEx (Ex.new hp)) (fun x hx => hx.imp id fun z => by rw [List.mem_singleton.mp z]; exact hp) _ _ r2)⟩
  · cases eg
theorem flatL_dat : ∀ ds : List PyData, flatL (ds.map .dat) = some ds
  | [] => rfl
  | d :: ds => by simp only [List.map_cons, flatL, flat, flatL_dat ds]
theorem flat_lO (ds : List PyData) : flat (lO ds) = some (.list ds) := by
  simp only [lO, flat, flatL_dat]
  rfl
theorem ef_lst {tr : TA} {fr : Rho → Option (List PyData)} (ha : EA K tr fr) : EF K (tLst tr) (fun ρ => (fr ρ).bind lstD) := fun A ρ σ H d rs e H1 e1 Q q => by
  refine (en_lstD ha).ef A ρ σ H d rs ?_ H1 e1 Q q
  obtain ⟨x, ex, eg⟩ := bind_some' e
  dsimp only
  rw [ex]
  unfold lstD at eg
  split at eg
  · rename_i hl
    cases eg
    show (lstO x).bind flat = _
    unfold lstO
    rw [if_pos hl]
    exact flat_lO x
  · cases eg
/-- a comprehension, as a datum -/
def compL (o : Option (List PyData)) (h : PyData → Option (List PyData)) (is : List Nat) (ft : Rho → Option Bool) (fe : Rho → Option PyData) (vs : List Nat) (ρ : Rho) : Option PyData := o.bind fun ds => if lenOk ds.length then (compD h is ft fe (wipeR ρ vs) ds).map .list else none
theorem compL_R {o : Option (List PyData)} {h : PyData → Option (List PyData)} {is : List Nat} {ft : Rho → Option Bool} {fe : Rho → Option PyData} {vs : List Nat} {ρ : Rho} : (compR o h is ft fe vs ρ).bind flat = compL o h is ft fe vs ρ := by
  unfold compR compL
  cases o with
  | none => rfl
  | some ds =>
    dsimp only [Option.bind_some]
    split
    · cases compD h is ft fe (wipeR ρ vs) ds with
      | none => rfl
      | some es => exact flat_lO es
    · rfl
theorem ef_lcD {wi : TI} {fi : Rho → Option (List PyData)} {g : TG} {is vs : List Nat} {h : PyData → Option (List PyData)} {tt : TT} {ft : Rho → Option Bool} {te : TE} {fe : Rho → Option PyData} (hi : EIb K wi fi) (hg : EG K g is h) (ht : ET K tt ft) (he : EF K te fe)
    (hv : ∀ i ∈ is, i ∈ vs := by decide) : EF K (tLc wi g tt te vs) (fun ρ => compL (fi ρ) h is ft fe vs ρ) := fun A ρ σ H d rs e H1 e1 Q q => by
  refine (ef_lc hi hg ht he hv).ef A ρ σ H d rs ?_ H1 e1 Q q
  exact compL_R.trans e
end
end Sv
namespace Sv
open PySem L2 Evl
def inP (n : Bool) (a : Option PyData) (o : Option OD) : Option PyData := bnd2 a o fun d o => match o with
    | .nd (.dk ks) xs => if ks.length = xs.length then (toK d).map fun k => .bool (if n then !(ks.any fun k' => decide (k' = k)) else ks.any fun k' => decide (k' = k)) else none
    | _ => none
def dispP (k : Option PyData) (o : Option OD) (r : Option (List (Key × OD))) : Option (List (Key × OD)) := (k.bind toK).bind fun k => bnd2 o r fun o ps => some (consP k o ps)
end Sv
namespace Sv
open PySem L2 Evl
end Sv
namespace Sv
open PySem L2 Evl
/-- a method as the top has left it -/
structure MDn (K : Fg) (C : Addr) (m q : Str) (st : Stmt) : Prop where
  ex : ∃ f fd, Fun K m q st f fd ∧ Meth K C m f
theorem MDn.cal {P : Program} {w : World} {K : Fg} {mg : Str → Option Value} {base : Heap} {k : Nat} {C : Addr} {m q : Str} {st : Stmt} {ps : List Str} {sp : Sp} (d : MDn K C m q st)
    (hb : ∀ (kV doc pm : Value) (an : Option Addr) (cdv ct : Value) (us : List Value), us.length = ps.length → bindArgs (PySem.W.fnOf m q (defArgs st) (defBody st) (defScope st) .none kV doc pm an cdv ct) ⟨us, []⟩ = pure (ps.zip us))
    (G' : ∀ f fd, Fun K m q st f fd → FnOk P w K mg base CX0 k f fd ps sp) : CalM P w K mg base k C m ps sp := by
  obtain ⟨f, fd, F, M⟩ := d.ex
  exact ⟨f, fd, G' f fd F, M, F.binds hb⟩
end Sv
namespace Sv
open PySem L2 Evl
end Sv
namespace Sv
open PySem L2 Evl PyProof.Rows PySem.Spec
abbrev young (w : World) : Obj := { cls := .type "set", dict := none, data := .set #[] 0 (.fresh 0 0 (!w.params.followText "set-order")) }
/-- what a kind of members brings: is, when a value is a key; R, the set at a with these members, in the table's order -/
structure Way (P : Program) (w : World) (κ : Type) where
  is : Heap → κ → Value → Prop
  room : Around → Prop
  most : Nat
  R : Heap → Addr → List (Value × κ) → Prop
  born : ∀ {h : Heap} {a : Addr}, h.get? a = some (young w) → R h a []
  move : ∀ {h h' : Heap} {a : Addr} {L : List (Value × κ)}, R h a L → (∀ o, h.get? a = some o → h'.get? a = some o) → R h' a L
  carry : ∀ {h h' : Heap} {k : κ} {v : Value}, is h k v → (∀ b o, h.get? b = some o → o.cls = .type "tuple" → h'.get? b = some o) → is h' k v
  put : ∀ {A : Around} {E : Value → Shared → Prop} {s : Shared} {a : Addr} {L : List (Value × κ)} {k : κ} {v : Value} {Q : Bool → Shared → Prop}, room A → R s.heap a L → (∀ x ∈ L, is s.heap x.2 x.1) → is s.heap k v → L.length + 1 < most →
    (∀ b h' tk L', Heap.SameBut a s.heap h' → s.toks ≤ tk → R h' a L' → ((k ∈ L.map (·.2) ∧ L' = L) ∨ (k ∉ L.map (·.2) ∧ L'.Perm ((v, k) :: L))) → Q b { s with heap := h', toks := tk }) → wpAny (model P w) A (setAdd a v) Q E s
  view : ∀ {h : Heap} {a : Addr} {L : List (Value × κ)}, R h a L → ∃ o es ep t, h.get? a = some o ∧ o.ExactSet ∧ o.data = .set es ep t ∧ t.fits es.size = true ∧ es.size < scanBound ∧ Ris t.place.toList ∧ (w.params.followText "set-order" = true ∨ t.led = true) ∧ es.toList.map (·.2) = L.map (·.1)
/-- what came of the first items -/
structure Ded {α κ : Type} (its L : List (α × κ)) : Prop where
  mem : ∀ x ∈ L, x ∈ its
  nd : (L.map (·.2)).Nodup
  all : ∀ x ∈ its, x.2 ∈ L.map (·.2)
theorem Ded.nil {α κ : Type} : Ded ([] : List (α × κ)) [] := ⟨fun x h => h, List.nodup_nil, fun x h => nomatch h⟩
theorem Ded.step {α κ : Type} {its L L' : List (α × κ)} {v : α} {k : κ} (d : Ded its L) (h : (k ∈ L.map (·.2) ∧ L' = L) ∨ (k ∉ L.map (·.2) ∧ L'.Perm ((v, k) :: L))) : Ded (its ++ [(v, k)]) L' := by
  rcases h with ⟨hk, rfl⟩ | ⟨hk, p⟩
  · refine ⟨fun x hx => List.mem_append_left _ (d.mem x hx), d.nd, fun x hx => ?_⟩
    rcases List.mem_append.mp hx with hx | hx
    · exact d.all x hx
    · rw [List.mem_singleton.mp hx]; exact hk
  · have pk := p.map (·.2)
    refine ⟨fun x hx => ?_, pk.nodup_iff.mpr (List.nodup_cons.mpr ⟨hk, d.nd⟩), fun x hx => pk.mem_iff.mpr ?_⟩
    · rcases List.mem_cons.mp (p.mem_iff.mp hx) with rfl | hx
      · exact List.mem_append_right _ (List.mem_singleton.mpr rfl)
      · exact List.mem_append_left _ (d.mem x hx)
    · rcases List.mem_append.mp hx with hx | hx
      · exact List.mem_cons_of_mem _ (d.all x hx)
      · rw [List.mem_singleton.mp hx]; exact List.mem_cons_self
theorem lenS {κ : Type} [DecidableEq κ] : ∀ (xs ys : List κ), xs.Nodup → (∀ x ∈ xs, x ∈ ys) → xs.length ≤ ys.length
  | [], _, _, _ => Nat.zero_le _
  | x :: r, ys, hn, hs => by
    have hx := hs x List.mem_cons_self
    have hn' := List.nodup_cons.mp hn
    have ih := lenS r (ys.erase x) hn'.2 fun y hy => (List.mem_erase_of_ne (show y ≠ x from fun z => hn'.1 (z ▸ hy))).mpr (hs y (List.mem_cons_of_mem _ hy))
    rw [List.length_erase_of_mem hx] at ih
    have h0 : 0 < ys.length := List.length_pos_of_mem hx
    simp only [List.length_cons]; omega
theorem Ded.lenU {α κ : Type} [DecidableEq κ] {its L : List (α × κ)} {U : List κ} (d : Ded its L) (h : ∀ x ∈ its, x.2 ∈ U) : L.length ≤ U.length := by
  have h := lenS (L.map Prod.snd) U d.nd fun k hk => by
    obtain ⟨x, hx, e⟩ := List.mem_map.mp hk
    rw [← e]; exact h x (d.mem x hx)
  rwa [List.length_map] at h
theorem Ded.len {α κ : Type} [DecidableEq κ] {its L : List (α × κ)} (d : Ded its L) : L.length ≤ its.length := by
  have h := lenS (L.map Prod.snd) (its.map Prod.snd) d.nd fun k hk => by
    obtain ⟨x, hx, e⟩ := List.mem_map.mp hk
    exact List.mem_map.mpr ⟨x, d.mem x hx, e⟩
  rwa [List.length_map, List.length_map] at h
section
variable {P : Program} {w : World} {κ : Type} [DecidableEq κ] {A : Around} {E : Value → Shared → Prop}
theorem Way.isSet (W : Way P w κ) {h : Heap} {a : Addr} {L : List (Value × κ)} (r : W.R h a L) : ∃ o, h.get? a = some o ∧ o.cls = .type "set" := by
  obtain ⟨o, es, ep, t, ho, hx, _⟩ := W.view r
  exact ⟨o, ho, hx.1⟩
theorem tup_not_set : (Value.type "tuple") ≠ .type "set" := by decide
/-- set.update's own loop, over whatever is walked -/
theorem way_loop (W : Way P w κ) {I : Addr} {fp wr : List Addr} {G : Array GenState → Array GenState → Prop} {n : Nat} {Pv : Nat → Value → Prop} {St : Nat → Shared → Prop} {R : Result → Shared → Prop}
    (Wk : WalksS P w A.in1 I fp wr G n Pv St) (S : Addr) (nofp : S ∉ fp) (its : List (Value × κ)) (hn : n = its.length) (U : List κ) (inU : ∀ x ∈ its, x.2 ∈ U) (few : U.length + 1 < W.most) (rm : W.room A.in1)
    (hval : ∀ i v, Pv i v → ∃ k, its[i]? = some (v, k)) (notup : ∀ i s, St i s → ∀ b ∈ wr, ∀ o, s.heap.get? b = some o → o.cls ≠ .type "tuple") :
    ∀ (k i : Nat) (s : Shared), n - i = k → i ≤ n → St i s → (∀ x ∈ its, W.is s.heap x.2 x.1) → (∃ L, Ded (its.take i) L ∧ W.R s.heap S L) →
      (∀ s' L, Moved (S :: wr) G s s' → Ded its L → W.R s'.heap S L → R (.ok (.ret .none)) s') → codeAny (model P w) A (.builtin "set.update.loop" ⟨[.ref S, .ref I], []⟩) R s := by
  have nowr : S ∉ wr := fun z => nofp (Wk.sub _ z)
  have more : ∀ b ∈ wr, b ∈ S :: wr := fun b z => .tail _ z
  intro k
  induction k with
  | zero =>
    intro i s hk hi st els ⟨L, dd, rL⟩ fin
    obtain rfl : i = n := by omega
    apply codeAny_builtin PyProof.Rows.F.entry_set_update_loop
    rw [Around.under_plainId PyProof.Rows.F.plain_set_update_loop _]
    apply wpAny_bind
    refine Wk.done s _ _ st fun s1 mv => wpAny_pure (fin s1 L (mv.mono more) ?_ (W.move rL fun o e => mv.heap S o nowr e))
    rwa [List.take_of_length_le (by omega)] at dd
  | succ k ih =>
    intro i s hk hi st els ⟨L, dd, rL⟩ fin
    have lt : i < n := by omega
    apply codeAny_builtin PyProof.Rows.F.entry_set_update_loop
    rw [Around.under_plainId PyProof.Rows.F.plain_set_update_loop _]
    apply wpAny_bind
    refine Wk.item i s _ _ lt st fun v s1 pv st1 mv => ?_
    obtain ⟨q, hq⟩ := hval i v pv
    have els1 : ∀ x ∈ its, W.is s1.heap x.2 x.1 := fun x hx => W.carry (els x hx) fun b o e c => mv.heap b o (fun z => notup i s st b z o e c) e
    have r1 : W.R s1.heap S L := W.move rL fun o e => mv.heap S o nowr e
    have lenL : L.length + 1 < W.most := by
      have h1 := dd.lenU (U := U) fun x hx => inU x (List.mem_of_mem_take hx)
      omega
    refine wpAny_bind (wpAny_holding (W.put rm r1 (fun x hx => els1 x (List.mem_of_mem_take (dd.mem x hx))) (els1 (v, q) (List.mem_of_getElem? hq)) lenL fun b h2 tk L2 sb le r2 cs => ?_))
    have keep2 : ∀ b' o, s1.heap.get? b' = some o → b' ≠ S → h2.get? b' = some o := fun b' o e ne => by rw [sb.2 b' ne]; exact e
    have tk2 : its.take (i + 1) = its.take i ++ [(v, q)] := by rw [List.take_add_one, hq]; rfl
    refine wpAny_pure ⟨plainId_quiet PyProof.Rows.F.plain_set_update_loop _, ih (i + 1) _ (by omega) lt (Wk.frame _ s1 _ _ st1 le fun b' hb o e => keep2 b' o e fun z => nofp (z ▸ hb)) (fun x hx => W.carry (els1 x hx) fun b' o e c => keep2 b' o e ?_) ⟨L2, by rw [tk2]; exact dd.step cs, r2⟩ fun s3 L3 mv3 dd3 r3 => ?_⟩
    · intro z
      obtain ⟨o', ho', hc'⟩ := W.isSet r1
      rw [z, ho'] at e
      cases e
      exact tup_not_set (c.symm.trans hc')
    · exact fin s3 L3 (Moved.trans Wk.gtrans ((mv.mono more).then_heap le fun b' o hb e => keep2 b' o e fun z => hb (z ▸ .head _)) mv3) dd3 r3
end
end Sv
namespace Sv
open PySem L2 Evl PyProof.Rows PySem.Spec
section
variable {P : Program} {w : World} {κ : Type} [DecidableEq κ] {A : Around} {E : Value → Shared → Prop} {s : Shared}
/-- set(l), l a list -/
theorem way_call_list (W : Way P w κ) {l : Addr} {arr : Array Value} (its : List (Value × κ)) {Q : Value → Shared → Prop} (quiet : A.handled = none) (rm : W.room A.in1.in1.in1) (isl : s.heap.IsList l arr) (vals : arr.toList = its.map Prod.fst) (U : List κ) (inU : ∀ x ∈ its, x.2 ∈ U) (few : U.length + 1 < W.most)
    (els : ∀ x ∈ its, W.is s.heap x.2 x.1)
    (fin : ∀ (h2 : Heap) (tk : Nat) (L : List (Value × κ)), Ded its L → W.R h2 s.heap.objs.size L → (∀ b o, s.heap.get? b = some o → h2.get? b = some o) → Q (.ref s.heap.objs.size) { s with heap := h2, toks := tk }) :
    wpAny (model P w) A (call (.type "set") [.ref l]) Q E s := by
  have size : arr.size = its.length := by rw [← Array.length_toList, vals, List.length_map]
  obtain ⟨_, _, order⟩ := PySem.F.called_set.mro
  have made := PySem.F.called_set.made
  have below := PySem.F.called_set.sub
  apply wpAny_call
  apply codeAny_of_tree
  show wpAny _ _ (callAny (.type "set") _) _ _ _
  refine wpAny_pure ⟨Code.quiet_builtin _ (by decide +kernel), codeAny_builtin PySem.F.entry_type_call ?_⟩
  rw [Around.under_plain (weight_type_call_type "set" [.ref l] []) rfl]
  have n1 := PySem.F.called_set.notType
  have n2 := PySem.F.called_set.canCreate
  have n3 := PySem.F.typeCall_set_1 (.ref l)
  repeat (any_goals (first | assumption | wp_step))
  refine codeAny_mono (code_set_led1 (.ref l) (E := E) (Q₁ := fun v s1 => v = .ref s.heap.objs.size ∧ s1 = { s with heap := s.heap.push (young w) }) ⟨rfl, rfl⟩) ?_
  rintro (e | fl) s1 got
  · exact got
  cases fl with
  | ret v =>
    obtain ⟨rfl, rfl⟩ := got
    have here : (s.heap.push (young w)).get? s.heap.objs.size = some (young w) := Heap.get?_push_size _ rfl
    have typ : Shared.TypeIs { s with heap := s.heap.push (young w) } (.ref s.heap.objs.size) "set" := ⟨_, here, rfl⟩
    have i1 := PySem.F.called_set.init.lookup
    have i2 := PySem.F.called_set.init.bind (.ref s.heap.objs.size)
    repeat (any_goals (first | assumption | wp_step))
    refine codeAny_mono (codeAny_call_builtin (R := wants (fun r s2 => r = .none ∧ ∃ h2 tk L, s2 = { s with heap := h2, toks := tk } ∧ Ded its L ∧ W.R h2 s.heap.objs.size L ∧ ∀ b o, s.heap.get? b = some o → h2.get? b = some o) E)
      PySem.F.called_set.init.plain PySem.F.entry_set_init (check_set_init_1 typ ?_)) ?_
    · have isl1 : (s.heap.push (young w)).IsList l arr := isl.push _
      obtain ⟨⟨oc, od, ob, os⟩, holds, hc, nn, hd⟩ := isl
      dsimp only at hc hd
      subst hc; subst hd
      have holds1 : (s.heap.push (young w)).get? l = some ⟨.type "list", od, .seq arr nn, os⟩ := Heap.get?_push_of_some _ holds
      have s1 := PySem.F.sub_list_set
      have s2 := PySem.F.sub_list_frozenset
      have s3 : (Value.type "list" == Value.type "dict") = false := by decide
      unfold Builtin.«set.__init__» noKeywords Builtin.Frozenset.updateFrom
      generalize pi : pyIter = pI
      wp_walk
      subst pi
      apply wpAny_pyIter_list isl1
      apply wpAny_bind
      apply wpAny_runValue
      have lt : l < s.heap.objs.size := Heap.lt_size holds
      have sz : (s.heap.push (young w)).objs.size = s.heap.objs.size + 1 := Heap.size_push ..
      have ne1 : l ≠ (s.heap.push (young w)).objs.size := by rw [sz]; exact Nat.ne_of_lt (Nat.lt_succ_of_lt lt)
      have out : s.heap.objs.size ∉ [(s.heap.push (young w)).objs.size, l] := by
        rw [sz]
        exact fun z => (List.mem_cons.mp z).elim (fun e => Nat.ne_of_lt (Nat.lt_succ_self _) e) fun e => Nat.ne_of_gt lt (List.mem_singleton.mp e)
      refine way_loop W ((Walks.list (by simp [quiet]) _ l ne1 arr).toS) s.heap.objs.size out its size U inU few rm (fun i v hv => ?_) (fun i s' st b hb o e c => ?_) (arr.size - 0) 0 _ (by omega) (Nat.zero_le _)
        ?st ?els ?born ?_
      case st => exact ⟨⟨_, Heap.get?_push_size _ rfl, rfl, rfl⟩, isl1.push _⟩
      case els => exact fun x hx => W.carry (els x hx) fun b o e _ => Heap.get?_push_of_some _ (Heap.get?_push_of_some _ e)
      case born => exact ⟨[], by rw [List.take_zero]; exact Ded.nil, W.born (Heap.get?_push_of_some _ here)⟩
      · have e : (its.map Prod.fst)[i]? = some v := by rw [← vals, Array.getElem?_toList]; exact hv
        rw [List.getElem?_map] at e
        obtain ⟨⟨v', k⟩, e1, e2⟩ := Option.map_eq_some_iff.mp e
        cases e2
        exact ⟨k, e1⟩
      · obtain ⟨⟨oI, hoI, cI, _⟩, _⟩ := st
        rw [List.mem_singleton.mp hb, hoI] at e
        cases e
        rw [cI] at c
        exact absurd c (by decide)
      · rintro ⟨h2, g2, d2, tk2, os2⟩ L mv dd rL
        obtain rfl : g2 = s.gens := mv.gens
        obtain rfl : d2 = s.drawn := mv.drawn
        obtain rfl : os2 = s.os := mv.os
        refine wpAny_pure (wpAny_pure ⟨rfl, h2, tk2, L, rfl, dd, rL, fun b o e => mv.heap b o ?_ (Heap.get?_push_of_some _ (Heap.get?_push_of_some _ e))⟩)
        have lb := Heap.lt_size e
        rw [sz]
        exact fun z => (List.mem_cons.mp z).elim (fun e => Nat.ne_of_lt lb e) fun e => Nat.ne_of_lt (Nat.lt_succ_of_lt lb) (List.mem_singleton.mp e)
    · rintro (e | f2) s2 got2
      · exact got2
      cases f2 with
      | ret r =>
        obtain ⟨rfl, h2, tk, L, rfl, dd, rL, kp⟩ := got2
        repeat (any_goals (first | assumption | wp_step))
        exact fin h2 tk L dd rL kp
      | _ => exact got2.elim
  | _ => exact got.elim
/-- set(l), l a tuple -/
theorem way_call_tuple (W : Way P w κ) {l : Addr} {arr : Array Value} (its : List (Value × κ)) {Q : Value → Shared → Prop} (quiet : A.handled = none) (rm : W.room A.in1.in1.in1) (isl : s.heap.IsTuple l arr) (vals : arr.toList = its.map Prod.fst) (U : List κ) (inU : ∀ x ∈ its, x.2 ∈ U) (few : U.length + 1 < W.most)
    (els : ∀ x ∈ its, W.is s.heap x.2 x.1)
    (fin : ∀ (h2 : Heap) (tk : Nat) (L : List (Value × κ)), Ded its L → W.R h2 s.heap.objs.size L → (∀ b o, s.heap.get? b = some o → h2.get? b = some o) → Q (.ref s.heap.objs.size) { s with heap := h2, toks := tk }) :
    wpAny (model P w) A (call (.type "set") [.ref l]) Q E s := by
  have size : arr.size = its.length := by rw [← Array.length_toList, vals, List.length_map]
  obtain ⟨_, _, order⟩ := PySem.F.called_set.mro
  have made := PySem.F.called_set.made
  have below := PySem.F.called_set.sub
  apply wpAny_call
  apply codeAny_of_tree
  show wpAny _ _ (callAny (.type "set") _) _ _ _
  refine wpAny_pure ⟨Code.quiet_builtin _ (by decide +kernel), codeAny_builtin PySem.F.entry_type_call ?_⟩
  rw [Around.under_plain (weight_type_call_type "set" [.ref l] []) rfl]
  have n1 := PySem.F.called_set.notType
  have n2 := PySem.F.called_set.canCreate
  have n3 := PySem.F.typeCall_set_1 (.ref l)
  repeat (any_goals (first | assumption | wp_step))
  refine codeAny_mono (code_set_led1 (.ref l) (E := E) (Q₁ := fun v s1 => v = .ref s.heap.objs.size ∧ s1 = { s with heap := s.heap.push (young w) }) ⟨rfl, rfl⟩) ?_
  rintro (e | fl) s1 got
  · exact got
  cases fl with
  | ret v =>
    obtain ⟨rfl, rfl⟩ := got
    have here : (s.heap.push (young w)).get? s.heap.objs.size = some (young w) := Heap.get?_push_size _ rfl
    have typ : Shared.TypeIs { s with heap := s.heap.push (young w) } (.ref s.heap.objs.size) "set" := ⟨_, here, rfl⟩
    have i1 := PySem.F.called_set.init.lookup
    have i2 := PySem.F.called_set.init.bind (.ref s.heap.objs.size)
    repeat (any_goals (first | assumption | wp_step))
    refine codeAny_mono (codeAny_call_builtin (R := wants (fun r s2 => r = .none ∧ ∃ h2 tk L, s2 = { s with heap := h2, toks := tk } ∧ Ded its L ∧ W.R h2 s.heap.objs.size L ∧ ∀ b o, s.heap.get? b = some o → h2.get? b = some o) E)
      PySem.F.called_set.init.plain PySem.F.entry_set_init (check_set_init_1 typ ?_)) ?_
    · have isl1 : (s.heap.push (young w)).IsTuple l arr := isl.push _
      obtain ⟨⟨oc, od, ob, os⟩, holds, hc, nn, hd⟩ := isl
      dsimp only at hc hd
      subst hc; subst hd
      have holds1 : (s.heap.push (young w)).get? l = some ⟨.type "tuple", od, .seq arr nn, os⟩ := Heap.get?_push_of_some _ holds
      have s1 := PySem.F.sub_tuple_set
      have s2 := PySem.F.sub_tuple_frozenset
      have s3 : (Value.type "tuple" == Value.type "dict") = false := by decide
      unfold Builtin.«set.__init__» noKeywords Builtin.Frozenset.updateFrom
      generalize pi : pyIter = pI
      wp_walk
      subst pi
      apply wpAny_pyIter_tuple isl1
      apply wpAny_bind
      apply wpAny_runValue
      have lt : l < s.heap.objs.size := Heap.lt_size holds
      have sz : (s.heap.push (young w)).objs.size = s.heap.objs.size + 1 := Heap.size_push ..
      have ne1 : l ≠ (s.heap.push (young w)).objs.size := by rw [sz]; exact Nat.ne_of_lt (Nat.lt_succ_of_lt lt)
      have out : s.heap.objs.size ∉ [(s.heap.push (young w)).objs.size, l] := by
        rw [sz]
        exact fun z => (List.mem_cons.mp z).elim (fun e => Nat.ne_of_lt (Nat.lt_succ_self _) e) fun e => Nat.ne_of_gt lt (List.mem_singleton.mp e)
      refine way_loop W ((Walks.tuple (by simp [quiet]) _ l ne1 arr).toS) s.heap.objs.size out its size U inU few rm (fun i v hv => ?_) (fun i s' st b hb o e c => ?_) (arr.size - 0) 0 _ (by omega) (Nat.zero_le _)
        ?st ?els ?born ?_
      case st => exact ⟨⟨_, Heap.get?_push_size _ rfl, rfl, rfl⟩, isl1.push _⟩
      case els => exact fun x hx => W.carry (els x hx) fun b o e _ => Heap.get?_push_of_some _ (Heap.get?_push_of_some _ e)
      case born => exact ⟨[], by rw [List.take_zero]; exact Ded.nil, W.born (Heap.get?_push_of_some _ here)⟩
      · have e : (its.map Prod.fst)[i]? = some v := by rw [← vals, Array.getElem?_toList]; exact hv
        rw [List.getElem?_map] at e
        obtain ⟨⟨v', k⟩, e1, e2⟩ := Option.map_eq_some_iff.mp e
        cases e2
        exact ⟨k, e1⟩
      · obtain ⟨⟨oI, hoI, cI, _⟩, _⟩ := st
        rw [List.mem_singleton.mp hb, hoI] at e
        cases e
        rw [cI] at c
        exact absurd c (by decide)
      · rintro ⟨h2, g2, d2, tk2, os2⟩ L mv dd rL
        obtain rfl : g2 = s.gens := mv.gens
        obtain rfl : d2 = s.drawn := mv.drawn
        obtain rfl : os2 = s.os := mv.os
        refine wpAny_pure (wpAny_pure ⟨rfl, h2, tk2, L, rfl, dd, rL, fun b o e => mv.heap b o ?_ (Heap.get?_push_of_some _ (Heap.get?_push_of_some _ e))⟩)
        have lb := Heap.lt_size e
        rw [sz]
        exact fun z => (List.mem_cons.mp z).elim (fun e => Nat.ne_of_lt lb e) fun e => Nat.ne_of_lt (Nat.lt_succ_of_lt lb) (List.mem_singleton.mp e)
    · rintro (e | f2) s2 got2
      · exact got2
      cases f2 with
      | ret r =>
        obtain ⟨rfl, h2, tk, L, rfl, dd, rL, kp⟩ := got2
        repeat (any_goals (first | assumption | wp_step))
        exact fin h2 tk L dd rL kp
      | _ => exact got2.elim
  | _ => exact got.elim
end
end Sv
namespace Sv
open PySem L2 Evl PyProof.Rows PySem.Spec
section
variable {P : Program} {w : World}
abbrev rowK (w : World) (x : Value × Key) : Int × Value := (keyH w x.2, x.1)
structure KOk (P : Program) (w : World) (L : List (Value × Key)) : Prop where
  is : ∀ x ∈ L, (mixKind P w).is x.2 x.1 = true ∧ x.1.scannable = true
  nd : (L.map (·.2)).Nodup
def KR (P : Program) (w : World) (h : Heap) (a : Addr) (L : List (Value × Key)) : Prop :=
  ∃ o es ep t, h.get? a = some o ∧ o.ExactSet ∧ o.data = .set es ep t ∧ es.toList = L.map (rowK w) ∧ KOk P w L ∧ es.size < scanBound ∧ t.fits es.size = true ∧ Ris t.place.toList ∧ (w.params.followText "set-order" = true ∨ t.led = true)
theorem kok_elems {L : List (Value × Key)} (k : KOk P w L) : ElemsOf (mixKind P w) (L.map (rowK w)) := fun e he => by
  obtain ⟨x, hx, rfl⟩ := List.mem_map.mp he
  exact ⟨⟨x.2, (k.is x hx).1, rfl⟩, (k.is x hx).2⟩
theorem perm_back {α β : Type} {f : α → β} {m k : List β} (h : m.Perm k) : ∀ l : List α, k = l.map f → ∃ l' : List α, m = l'.map f ∧ l'.Perm l := by
  induction h with
  | nil => exact fun l e => ⟨[], rfl, by rw [List.map_eq_nil_iff.mp e.symm]⟩
  | cons x _ ih =>
    intro l e
    cases l with
    | nil => cases e
    | cons y l =>
      simp only [List.map_cons, List.cons.injEq] at e
      obtain ⟨l', e1, p⟩ := ih l e.2
      exact ⟨y :: l', by rw [List.map_cons, e1, e.1], p.cons y⟩
  | swap x y r =>
    intro l e
    match l, e with
    | a :: b :: l, e =>
      simp only [List.map_cons, List.cons.injEq] at e
      exact ⟨b :: a :: l, by rw [List.map_cons, List.map_cons, e.1, e.2.1, e.2.2], List.Perm.swap ..⟩
  | trans _ _ ih1 ih2 =>
    intro l e
    obtain ⟨l1, e1, p1⟩ := ih2 l e
    obtain ⟨l2, e2, p2⟩ := ih1 l1 e1
    exact ⟨l2, e2, p2.trans p1⟩
variable {A : Around} {E : Value → Shared → Prop} {s : Shared} {a : Addr}
/-- behind the laying of a new row: stored, and laid anew where the table is too full -/
theorem k_tail {g : Bool → Sem Unit} (hg : ∀ (b : Bool) (s1 : Shared) (Q1 : Unit → Shared → Prop), Q1 () s1 → wpAny (model P w) A (g b) Q1 E s1) {o : Obj} {es0 : Array (Int × Value)} {ep : Nat} {t0 : SetTable} (ho : s.heap.get? a = some o) (hx : o.ExactSet) (hd : o.data = .set es0 ep t0)
    {es : Array (Int × Value)} {t : SetTable} {L : List (Value × Key)} (rows : es.toList = L.map (rowK w)) (ok : KOk P w L) (few : es.size < scanBound) (fit : t.fits es.size = true) (ris : Ris t.place.toList) (led : w.params.followText "set-order" = true ∨ t.led = true) {dm : Bool} {R : Option Bool → Shared → Prop}
    (fin : ∀ h' L', Heap.SameBut a s.heap h' → L'.Perm L → KR P w h' a L' → R (some true) { s with heap := h' }) :
    wpAny (model P w) A (do
      storeSet a es t
      if (!dm && t.tooFull) = true then do
          g (relayAll t es (SetTable.grown es.size)).2.2
          storeSet a (relayAll t es (SetTable.grown es.size)).1 (relayAll t es (SetTable.grown es.size)).2.1
          pure (some true)
        else pure (some true)) R E s := by
  apply wpAny_bind
  refine wpAny_storeSet_of ho hd ?_ (fits_of_scanBound few)
  have at1 := store_at (es' := es) (t' := t) ho hd
  have sb := Heap.SameBut.update s.heap a (Obj.putSet es t)
  split
  · have pm := relayAll_perm t es (SetTable.grown es.size)
    have f2 := relayAll_fits t es (SetTable.grown es.size)
    have r2 := relayAll_ris t es (SetTable.grown es.size)
    have l2 := relayAll_led t es (SetTable.grown es.size)
    revert pm f2 r2 l2
    generalize relayAll t es (SetTable.grown es.size) = Z
    obtain ⟨es2, t2, gave⟩ := Z
    intro pm f2 r2 l2
    dsimp only at pm f2 r2 l2 ⊢
    obtain ⟨L2, e2, p2⟩ := perm_back pm L rows
    have sz : es2.size = es.size := by rw [← Array.length_toList, pm.length_eq, Array.length_toList]
    apply wpAny_bind
    apply hg
    apply wpAny_bind
    refine wpAny_storeSet_of at1 rfl ?_ (fits_of_scanBound (by rw [sz]; exact few))
    have at2 := store_at (es' := es2) (t' := t2) at1 rfl
    exact wpAny_pure (fin _ L2 (sb.trans (Heap.SameBut.update _ a _)) p2 ⟨_, es2, _, t2, at2, hx, rfl, e2, ⟨fun x hx => ok.is x (p2.mem_iff.mp hx), (p2.map _).nodup_iff.mpr ok.nd⟩, by rw [sz]; exact few, f2, r2, led.imp id fun z => by rw [l2]; exact z⟩)
  · exact wpAny_pure (fin _ L sb (.refl _) ⟨_, es, _, t, at1, hx, rfl, rows, ok, few, fit, ris, led⟩)
theorem k_hashed {L : List (Value × Key)} {k : Key} {v : Value} {Q : Bool → Shared → Prop} (R : KR P w s.heap a L) (hk : (mixKind P w).is k v = true) (sc : v.scannable = true) (few : L.length + 1 < scanBound)
    (fin : ∀ b h' L', Heap.SameBut a s.heap h' → KR P w h' a L' → ((k ∈ L.map (·.2) ∧ L' = L) ∨ (k ∉ L.map (·.2) ∧ L'.Perm ((v, k) :: L))) → Q b { s with heap := h' }) :
    wpAny (model P w) A (setAddHashed a v ((mixKind P w).hash k)) Q E s := by
  obtain ⟨o, es, ep, t, ho, hx, hd, rows, ok, few0, fit, ris, led⟩ := id R
  have el : ElemsOf (mixKind P w) es.toList := by rw [rows]; exact kok_elems ok
  unfold setAddHashed setAddHashedIn
  apply wpAny_holding
  apply wpAny_bind
  refine wpAny_setState_of ho hd fit ?_
  dsimp only
  rw [byScan_of sc few0 el]
  simp only [↓reduceIte]
  unfold setAddByScan
  apply wpAny_bind
  apply wpAny_bind
  apply wpAny_rule
  apply wpAny_bind
  refine wpAny_setScan_of hk ho hd fit el ?_
  cases found : List.findIdx? (fun e => (mixKind P w).is k e.2) es.toList with
  | some j =>
    dsimp only
    obtain ⟨hj, pj, _⟩ := List.findIdx?_eq_some_iff_getElem.mp found
    have hm : es.toList[j] ∈ L.map (rowK w) := by rw [← rows]; exact List.getElem_mem hj
    obtain ⟨x, hx1, ex⟩ := List.mem_map.mp hm
    have same : x.2 = k := (mixKind P w).inj x.1 x.2 k (ok.is x hx1).1 (by rw [← ex] at pj; exact pj)
    exact wpAny_pure (wpAny_pure (fin _ s.heap L (Heap.SameBut.refl a s.heap) R (.inl ⟨List.mem_map.mpr ⟨x, hx1, same⟩, rfl⟩)))
  | none =>
    dsimp only
    have new : k ∉ L.map (·.2) := fun z => by
      obtain ⟨x, hx1, ex⟩ := List.mem_map.mp z
      have c := List.findIdx?_eq_none_iff.mp found (rowK w x) (by rw [rows]; exact List.mem_map.mpr ⟨x, hx1, rfl⟩)
      have d := (ok.is x hx1).1
      rw [ex] at d
      rw [show ((rowK w x).2) = x.1 from rfl, d] at c
      cases c
    have gw : ∀ (b : Bool) {s1 : Shared} {Q1 : Unit → Shared → Prop}, Q1 () s1 → wpAny (model P w) A (match b with | true => rule "set.scan.the-table-gave-way" | false => pure ()) Q1 E s1 :=
      fun b s1 Q1 q => by cases b <;> first | exact wpAny_pure q | exact wpAny_rule q
    have pm := layNew_perm t es ((mixKind P w).hash k) v
    have f1 := layNew_fits t es ((mixKind P w).hash k) v
    have r1 := layNew_ris t es ((mixKind P w).hash k) v ris
    have l1 := layNew_led t es ((mixKind P w).hash k) v
    revert pm f1 r1 l1
    generalize layNew t es ((mixKind P w).hash k) v = Z
    obtain ⟨es1, t1, dm, gave⟩ := Z
    intro pm f1 r1 l1
    dsimp only at pm f1 r1 l1 ⊢
    rw [Array.toList_push, rows] at pm
    have pm2 : es1.toList.Perm (((v, k) :: L).map (rowK w)) := pm.trans (List.perm_append_singleton _ _)
    obtain ⟨L1, e1, p1⟩ := perm_back pm2 ((v, k) :: L) rfl
    have ok1 : KOk P w L1 := ⟨fun x hx => by
      rcases List.mem_cons.mp (p1.mem_iff.mp hx) with rfl | hx
      · exact ⟨hk, sc⟩
      · exact ok.is x hx, (p1.map _).nodup_iff.mpr (List.nodup_cons.mpr ⟨new, ok.nd⟩)⟩
    have sz : es1.size = L.length + 1 := by rw [← Array.length_toList, pm2.length_eq, List.length_map, List.length_cons]
    have led1 : w.params.followText "set-order" = true ∨ t1.led = true := led.imp id fun z => by rw [l1]; exact z
    have done : ∀ h' L', Heap.SameBut a s.heap h' → L'.Perm L1 → KR P w h' a L' → wpAny (model P w) A (pure true) Q E { s with heap := h' } := fun h' L' sb p r => wpAny_pure (fin _ h' L' sb r (.inr ⟨new, p.trans p1⟩))
    apply wpAny_bind
    apply gw
    split
    · apply wpAny_bind
      rw [hashByValue_scannable 8 sc]
      apply wpAny_pure
      refine k_tail ?_ ho hx hd e1 ok1 (by omega) ?_ ?_ ?_ ?_
      · intro b s1 Q1 q; cases b <;> first | exact wpAny_pure q | exact wpAny_rule q
      · first | (split <;> first | exact f1 | exact SetTable.fits_plain_off f1) | exact f1
      · first | (split <;> exact r1) | exact r1
      · first | (split <;> exact led1) | exact led1
      · intro h' L' sb p r; exact done h' L' sb p r
    · apply wpAny_bind
      apply wpAny_pure
      simp only [↓reduceIte]
      refine k_tail ?_ ho hx hd e1 ok1 (by omega) f1 r1 led1 ?_
      · intro b s1 Q1 q; cases b <;> first | exact wpAny_pure q | exact wpAny_rule q
      · intro h' L' sb p r; exact done h' L' sb p r
def wayK (P : Program) (w : World) : Way P w Key where
  is := fun _ k v => (mixKind P w).is k v = true ∧ v.scannable = true
  room := fun _ => True
  most := scanBound
  R := KR P w
  born := fun {h a} ho => ⟨_, #[], 0, _, ho, ⟨rfl, rfl, rfl⟩, rfl, rfl, ⟨fun x h => (List.not_mem_nil h).elim, List.nodup_nil⟩, by decide, by rfl, List.Pairwise.nil, by
    show _ ∨ (!w.params.followText "set-order") = true
    cases w.params.followText "set-order"
    · exact .inr rfl
    · exact .inl rfl⟩
  move := fun ⟨o, es, ep, t, ho, r⟩ k => ⟨o, es, ep, t, k o ho, r⟩
  carry := fun h _ => h
  put := fun {A E s a L k v Q} _ r _ is few fin => by
    unfold setAdd
    apply wpAny_holding
    apply wpAny_bind
    refine (mixKind P w).pyHash is.1 ?_
    exact k_hashed (s := { s with toks := s.toks + 1 }) r is.1 is.2 few fun b h' L' sb r' cs => fin b h' _ L' sb (Nat.le_succ _) r' cs
  view := fun ⟨o, es, ep, t, ho, hx, hd, rows, ok, few, fit, ris, led⟩ => ⟨o, es, ep, t, ho, hx, hd, fit, few, ris, led, by rw [rows, List.map_map]; rfl⟩
end
end Sv
namespace Sv
open PySem L2 Evl PyProof.Rows PySem.Spec
open PySem.W (dataLe dataLt alike alikeAll keyToks)
theorem not_f {b : Bool} (h : (!b) = true) : b = false := by cases b <;> first | rfl | cases h
theorem le_total' (a b : PyData) : (dataLe false id a b || dataLe false id b a) = true := by
  show (!dataLt b a || !dataLt a b) = true
  cases h1 : dataLt b a with
  | false => rfl
  | true =>
    cases h2 : dataLt a b with
    | false => rfl
    | true =>
      have := lex_trans (O := itemOrd) _ _ _ h1 h2
      rw [lex_irrefl (O := itemOrd)] at this
      cases this
theorem le_trans' (a b c : PyData) (h1 : dataLe false id a b = true) (h2 : dataLe false id b c = true) : dataLe false id a c = true := by
  have e1 : dataLt b a = false := not_f (show (!dataLt b a) = true from h1)
  have e2 : dataLt c b = false := not_f (show (!dataLt c b) = true from h2)
  show (!dataLt c a) = true
  cases h : dataLt c a with
  | false => rfl
  | true =>
    rcases lex_negTrans (O := itemOrd) _ (keyToks b) _ h with z | z
    · rw [show PyProof.Rows.lexLt itemOrd (keyToks c) (keyToks b) = dataLt c b from rfl, e2] at z; cases z
    · rw [show PyProof.Rows.lexLt itemOrd (keyToks b) (keyToks a) = dataLt b a from rfl, e1] at z; cases z
theorem le_same {a b : PyData} (hal : alike a b = true) (h1 : dataLe false id a b = true) (h2 : dataLe false id b a = true) : PyData.eqv a b = true := by
  have e1 : dataLt b a = false := not_f (show (!dataLt b a) = true from h1)
  have e2 : dataLt a b = false := not_f (show (!dataLt a b) = true from h2)
  have e : keyToks a = keyToks b := lex_total (O := itemOrd) _ _ e2 e1
  cases h : PyData.eqv a b with
  | true => rfl
  | false =>
    have z := (PySem.W.toks_eqv a b hal).2 h [] [Sum.inl 0]
    rw [e, List.append_nil, lex_irrefl (O := itemOrd)] at z
    have y := PySem.W.lex_pre (keyToks b) [] [Sum.inl 0]
    rw [List.append_nil, z] at y
    exact absurd y (by decide)
/-- one order for all rearrangements -/
theorem srt_perm {ds es : List PyData} (p : ds.Perm es) (hs : ∀ a ∈ ds, ∀ b ∈ ds, alike a b = true) (he : ∀ a ∈ ds, ∀ b ∈ ds, PyData.eqv a b = true → a = b) : srt ds = srt es := by
  have p1 : (srt ds).Perm ds := List.mergeSort_perm ..
  have p2 : (srt es).Perm es := List.mergeSort_perm ..
  refine List.Perm.eq_of_pairwise (le := fun a b => dataLe false id a b = true) (fun a b ha hb h1 h2 => ?_) (List.pairwise_mergeSort le_trans' le_total' ds) (List.pairwise_mergeSort le_trans' le_total' es) (p1.trans (p.trans p2.symm))
  have ha := p1.mem_iff.mp ha
  have hb := p.mem_iff.mpr (p2.mem_iff.mp hb)
  exact he a ha b hb (le_same (hs a ha b hb) h1 h2)
section
variable {κ : Type} [DecidableEq κ] {X : Cx}
def SetHO {P : Program} {w : World} (W : Way P w κ) (a : Addr) (L : List (V × κ)) : HO := .ext fun h => ∃ L', Vals (L.map Prod.fst) (L'.map Prod.fst) ∧ L'.map Prod.snd = L.map Prod.snd ∧ W.R h a L'
theorem setHO_new {P : Program} {w : World} {W : Way P w κ} {H : Hp} {h : Heap} {a : Addr} {L : List (V × κ)} (R : ∃ L', Vals (L.map Prod.fst) (L'.map Prod.fst) ∧ L'.map Prod.snd = L.map Prod.snd ∧ W.R h a L') : ObjOk P w H h a (SetHO W a L) := by
  obtain ⟨L', h1, h2, h3⟩ := id R
  obtain ⟨o, ho, _⟩ := W.isSet h3
  exact ⟨R, ⟨o, ho⟩, fun g1 g2 ⟨M, m1, m2, m3⟩ k => ⟨M, m1, m2, W.move m3 k⟩⟩
theorem vals_of : ∀ {ps : List (V × κ)} {us : List Value}, Vals (ps.map Prod.fst) us → ∃ its : List (Value × κ), its.map Prod.fst = us ∧ its.map Prod.snd = ps.map Prod.snd ∧ ∀ x ∈ its, ∃ p ∈ ps, RelV p.1 x.1 ∧ p.2 = x.2
  | [], us, r => by cases r; exact ⟨[], rfl, rfl, fun x h => nomatch h⟩
  | p :: ps, us, r => by
    cases r with
    | cons r rr =>
      obtain ⟨its, h1, h2, h3⟩ := vals_of rr
      refine ⟨(_, p.2) :: its, by rw [List.map_cons, h1], by rw [List.map_cons, List.map_cons, h2], fun x hx => ?_⟩
      rcases List.mem_cons.mp hx with rfl | hx
      · exact ⟨p, List.mem_cons_self, r, rfl⟩
      · obtain ⟨q, hq, z⟩ := h3 x hx
        exact ⟨q, List.mem_cons_of_mem _ hq, z⟩
theorem vals_back {ps : List (V × κ)} : ∀ {M : List (Value × κ)}, (∀ x ∈ M, ∃ p ∈ ps, RelV p.1 x.1 ∧ p.2 = x.2) → ∃ L : List (V × κ), Vals (L.map Prod.fst) (M.map Prod.fst) ∧ M.map Prod.snd = L.map Prod.snd ∧ ∀ y ∈ L, y ∈ ps
  | [], _ => ⟨[], .nil, rfl, fun y h => nomatch h⟩
  | x :: M, h => by
    obtain ⟨p, hp, r, e⟩ := h x List.mem_cons_self
    obtain ⟨L, h1, h2, h3⟩ := vals_back (M := M) fun y hy => h y (List.mem_cons_of_mem _ hy)
    refine ⟨p :: L, .cons r h1, by rw [List.map_cons, List.map_cons, h2, e], fun y hy => ?_⟩
    rcases List.mem_cons.mp hy with rfl | hy
    · exact hp
    · exact h3 y hy
/-- set(l): the values' keys are known -/
def rSetW (K : Fg) {P : Program} {w : World} (W : Way P w κ) (kv : Hp → κ → V → Prop) : List V → Hp → VK → Prop := fun xs H Q => ∃ (l : Addr) (ps : List (V × κ)), xs = [.ref l] ∧ (SqL K H l (ps.map Prod.fst) ∨ SqT K H l (ps.map Prod.fst)) ∧ (∀ p ∈ ps, kv H p.2 p.1) ∧ (∃ U : List κ, (∀ p ∈ ps, p.2 ∈ U) ∧ U.length + 1 < W.most) ∧
  ∀ p L, H p = none → Ded ps L → Q (.ref p) (upd H p (SetHO W p L))
theorem cr_setW (W : Way X.prog X.w κ) {kv : Hp → κ → V → Prop} (sound : ∀ {pins : List (Addr × Obj)} {σ : L2.St} {H : Hp} {s : Shared} {k : κ} {x : V} {u : Value}, Inv X pins σ H s → kv H k x → RelV x u → W.is s.heap k u) (hc : X.calm = true) (rm : W.room X.A.in1.in1.in1) : CallR X (.type "set") (rSetW X.K W kv) := by
  intro pins s σ H xs us Q I r h
  obtain ⟨l, ps, rfl, hs, hk, ⟨U, inU, few⟩, q⟩ := h
  obtain ⟨u, rfl, rx⟩ := vals1 r
  cases rx
  have go : ∀ {arr : List Value}, Vals (ps.map Prod.fst) arr → ∃ its : List (Value × κ), arr.toArray.toList = its.map Prod.fst ∧ (∀ x ∈ its, x.2 ∈ U) ∧ (∀ x ∈ its, W.is s.heap x.2 x.1) ∧
      (∀ (h2 : Heap) (tk : Nat) (M : List (Value × κ)), Ded its M → W.R h2 s.heap.objs.size M → (∀ b o, s.heap.get? b = some o → h2.get? b = some o) → EP X pins σ Q (.ref s.heap.objs.size) { s with heap := h2, toks := tk }) := fun {arr} rv => by
    obtain ⟨its, e1, e2, e3⟩ := vals_of rv
    refine ⟨its, e1.symm, fun x hx => by
      obtain ⟨p, hp, _, ek⟩ := e3 x hx
      rw [← ek]; exact inU p hp, fun x hx => ?_, fun h2 tk M dd rM kp => ?_⟩
    · obtain ⟨p, hp, rp, ek⟩ := e3 x hx
      rw [← ek]
      exact sound I (hk p hp) rp
    · obtain ⟨L, l1, l2, l3⟩ := vals_back (ps := ps) fun x hx => e3 x (dd.mem x hx)
      refine ⟨.ref s.heap.objs.size, upd H s.heap.objs.size (SetHO W s.heap.objs.size L), I.laid (t' := tk) kp (Nat.le_refl _) (setHO_new ⟨M, l1, l2, rM⟩), rfl, q _ L (I.hok.fresh (Nat.le_refl _)) ⟨l3, by
        show (L.map Prod.snd).Nodup
        rw [← l2]; exact dd.nd, fun p hp => ?_⟩⟩
      show p.2 ∈ L.map Prod.snd
      rw [← l2]
      have : p.2 ∈ its.map Prod.snd := by rw [e2]; exact List.mem_map.mpr ⟨p, hp, rfl⟩
      obtain ⟨x, hx, ex⟩ := List.mem_map.mp this
      rw [← ex]
      exact dd.all x hx
  rcases hs with hs | hs
  · obtain ⟨arr, rv, pl, hz⟩ := I.list hs
    obtain ⟨its, g1, g2, g3, g4⟩ := go rv
    exact way_call_list W its (I.ok.hd hc) rm pl.isList g1 U g2 few g3 g4
  · obtain ⟨arr, rv, pl, hz⟩ := I.tuple hs
    obtain ⟨its, g1, g2, g3, g4⟩ := go rv
    exact way_call_tuple W its (I.ok.hd hc) rm pl g1 U g2 few g3 g4
/-- sorted(set) -/
def rSortW (K : Fg) {P : Program} {w : World} (W : Way P w κ) : List V → Hp → VK → Prop := fun xs H Q => ∃ (a : Addr) (L : List (V × κ)) (dk : κ → PyData), xs = [.ref a] ∧ H a = some (SetHO W a L) ∧ (∀ ks ys : List _, (ys.zip ks).Perm L → ys.length = ks.length → DpAll K H ys (ks.map dk)) ∧ SortOk (L.map fun x => dk x.2) ∧
  ∀ p zs ys ks, H p = none → (ys.zip ks).Perm L → ys.length = ks.length → SortedAs ys (ks.map dk) zs (srt (ks.map dk)) → Q (.ref p) (upd H p (.lst zs))
theorem SortOk.perm {ds es : List PyData} (p : es.Perm ds) (h : SortOk ds) : SortOk es := by
  obtain ⟨h1, h2, h3, h4⟩ := h
  refine ⟨fun d hd e he => h1 d (p.mem_iff.mp hd) e (p.mem_iff.mp he), ?_, by rw [p.length_eq]; exact h3, fun d hd => h4 d (p.mem_iff.mp hd)⟩
  rcases h2 with h2 | h2
  · exact .inl fun d hd => h2 d (p.mem_iff.mp hd)
  · exact .inr fun d hd => h2 d (p.mem_iff.mp hd)
theorem zip_self {α β : Type} : ∀ (l : List (α × β)), (l.map Prod.fst).zip (l.map Prod.snd) = l
  | [] => rfl
  | x :: l => by simp only [List.map_cons, List.zip_cons_cons, zip_self l]
theorem vals_perm : ∀ {out : List Value} {L : List (V × κ)} {us : List Value}, Vals (L.map Prod.fst) us → out.Perm us → ∃ N : List (V × κ), N.Perm L ∧ Vals (N.map Prod.fst) out := fun {out L us} rv p => by
  induction p generalizing L with
  | nil => cases L with
    | nil => exact ⟨[], .refl _, .nil⟩
    | cons _ _ => cases rv
  | cons x _ ih => cases L with
    | nil => cases rv
    | cons y L =>
      cases rv with
      | cons r rr =>
        obtain ⟨N, n1, n2⟩ := ih rr
        exact ⟨y :: N, n1.cons y, .cons r n2⟩
  | swap x y l => match L, rv with
    | a :: b :: L, .cons r1 (.cons r2 rr) => exact ⟨b :: a :: L, .swap .., .cons r2 (.cons r1 rr)⟩
  | trans _ _ ih1 ih2 =>
    obtain ⟨N, n1, n2⟩ := ih2 rv
    obtain ⟨M, m1, m2⟩ := ih1 n2
    exact ⟨M, m1.trans n1, m2⟩
theorem cr_sortW (W : Way X.prog X.w κ) (hc : X.calm = true) (hu : X.A.units + 64 < cLine) : CallR X (.builtin "sorted") (rSortW X.K W) := by
  intro pins s σ H xs us Q I r h
  obtain ⟨a, L, dk, rfl, ha, dp, ok, q⟩ := h
  obtain ⟨u, rfl, rx⟩ := vals1 r
  cases rx
  obtain ⟨L', h1, h2, h3⟩ := (I.hok a _ ha).1
  obtain ⟨o, es, ep, t, ho, hx, hd, hf, hsz, ris, led, he⟩ := W.view h3
  refine Calls.call_function_entry PyProof.Rows.kind_sorted PyProof.Rows.plain_sorted PyProof.Rows.entry_sorted (PyProof.Rows.args_sorted1 _) ?_
  unfold Builtin.«sorted»
  refine wpAny_bind (m := checkCount "sorted" 1 1 _) (wpAny_pure ?_)
  apply wpAny_bind
  refine collect_set (A := X.A.in1) (I.ok.hd hc) ⟨o, ho, hx.1, hd⟩ hf hsz ris led fun s' out k1 le g1 o1 pm => ?_
  rw [he] at pm
  obtain ⟨N, pN, rN⟩ := vals_perm h1 pm
  obtain ⟨hp', g', d', tk', os'⟩ := s'
  obtain rfl : g' = s.gens := g1
  obtain rfl : os' = s.os := o1
  have I1 : L2.Inv X pins σ H { s with heap := hp', drawn := d', toks := tk' } := I.call (ch := []) (Un.kept k1) (I.hok.kept k1) I.bare (fun _ z => nomatch z)
  have nz : (N.map Prod.fst).zip (N.map Prod.snd) = N := zip_self N
  have nl : (N.map Prod.fst).length = (N.map Prod.snd).length := by simp
  have pd : ((N.map Prod.snd).map dk).Perm (L.map fun x => dk x.2) := by rw [List.map_map]; exact pN.map _
  exact sort_tail (A := X.A.in1) hu I1 rN (dp _ _ (by rw [nz]; exact pN) nl) (ok.perm pd) (fun p zs hp sa => q p zs _ _ hp (by rw [nz]; exact pN) nl sa) (by show X.A.units + 1 ≤ _; omega)
end
end Sv
namespace Sv
open PySem L2 Evl
open PySem.W (dataLe dataLt alike alikeAll keyToks)
def ddup {α : Type} [DecidableEq α] (xs : List α) : List α := xs.foldl (fun acc x => if x ∈ acc then acc else acc ++ [x]) []
section
variable {α : Type} [DecidableEq α]
theorem ddup_go : ∀ (xs acc : List α), acc.Nodup → (xs.foldl (fun acc x => if x ∈ acc then acc else acc ++ [x]) acc).Nodup ∧ ∀ y, y ∈ xs.foldl (fun acc x => if x ∈ acc then acc else acc ++ [x]) acc ↔ y ∈ acc ∨ y ∈ xs
  | [], acc, h => ⟨h, fun y => by simp⟩
  | x :: xs, acc, h => by
    simp only [List.foldl_cons]
    by_cases hx : x ∈ acc
    · rw [if_pos hx]
      obtain ⟨h1, h2⟩ := ddup_go xs acc h
      refine ⟨h1, fun y => (h2 y).trans ?_⟩
      rw [List.mem_cons]
      exact ⟨fun z => z.imp id .inr, fun z => z.elim .inl fun z => z.elim (fun e => .inl (e ▸ hx)) .inr⟩
    · rw [if_neg hx]
      obtain ⟨h1, h2⟩ := ddup_go xs (acc ++ [x]) (by
        rw [List.nodup_append]
        exact ⟨h, by simp, fun a ha b hb e => hx (by rw [← List.mem_singleton.mp hb, ← e]; exact ha)⟩)
      refine ⟨h1, fun y => (h2 y).trans ?_⟩
      simp only [List.mem_append, List.mem_cons, List.mem_singleton, List.not_mem_nil, or_false]
      exact ⟨fun z => z.elim (fun z => z.imp id .inl) fun z => .inr (.inr z), fun z => z.elim (fun z => .inl (.inl z)) fun z => z.elim (fun z => .inl (.inr z)) .inr⟩
theorem ddup_nd (xs : List α) : (ddup xs).Nodup := (ddup_go xs [] List.nodup_nil).1
theorem ddup_mem (xs : List α) (y : α) : y ∈ ddup xs ↔ y ∈ xs := by
  have := (ddup_go xs [] List.nodup_nil).2 y
  simpa [ddup] using this
theorem ddup_self {xs : List α} (h : xs.Nodup) : ddup xs = xs := by
  have go : ∀ (xs acc : List α), (acc ++ xs).Nodup → xs.foldl (fun acc x => if x ∈ acc then acc else acc ++ [x]) acc = acc ++ xs := fun xs => by
    induction xs with
    | nil => intro acc _; simp
    | cons x xs ih =>
      intro acc h
      have hx : x ∉ acc := fun z => (List.nodup_append.mp h).2.2 x z x List.mem_cons_self rfl
      rw [List.foldl_cons, if_neg hx, ih (acc ++ [x]) (by rwa [List.append_assoc, List.singleton_append]), List.append_assoc, List.singleton_append]
  have := go xs [] (by simpa using h)
  simpa [ddup] using this
theorem ddup_len (xs : List α) : (ddup xs).length ≤ xs.length := lenS _ _ (ddup_nd xs) fun x hx => (ddup_mem xs x).mp hx
end
/-- data that are keys of a kind -/
structure DKind (κ : Type) where
  dk : κ → PyData
  kd : PyData → Option κ
  back : ∀ {d k}, kd d = some k → d = dk k
  inj : ∀ k k', PyData.eqv (dk k) (dk k') = true → k = k'
def kds {κ : Type} (kd : PyData → Option κ) : List PyData → Option (List κ)
  | [] => some []
  | d :: ds => match kd d with
    | none => none
    | some k => match kds kd ds with
      | none => none
      | some ks => some (k :: ks)
theorem kds_some {κ : Type} (D : DKind κ) : ∀ {ds : List PyData} {ks : List κ}, kds D.kd ds = some ks → ds = ks.map D.dk
  | [], ks, h => by cases h; rfl
  | d :: ds, ks, h => by
    unfold kds at h
    split at h
    · cases h
    · rename_i k hk
      split at h
      · cases h
      · rename_i ks' hks
        cases h
        rw [D.back hk, kds_some D hks]; rfl
section
variable {κ : Type} [DecidableEq κ]
def setItems (D : DKind κ) (most : Nat) (d : PyData) : Option (List κ) := (itemsOf d).bind fun ds => (kds D.kd ds).bind fun ks => if (ddup ks).length < most then some ks else none
def sortSetD (D : DKind κ) (most : Nat) (d : PyData) : Option PyData := (setItems D most d).bind fun ks => if sortOkB ((ddup ks).map D.dk) then some (.list (srt ((ddup ks).map D.dk))) else none
variable {K : Fg} {P : Program} {w : World} {W : Way P w κ} {kv : Hp → κ → V → Prop} {D : DKind κ}
theorem setItems_some {most : Nat} {d : PyData} {ks : List κ} (h : setItems D most d = some ks) : (d = .list (ks.map D.dk) ∨ d = .tuple (ks.map D.dk)) ∧ (ddup ks).length < most := by
  unfold setItems at h
  obtain ⟨ds, h1, h⟩ := bind_some' h
  obtain ⟨ks', h2, h⟩ := bind_some' h
  split at h
  · rename_i hl
    cases h
    have e := kds_some D h2
    refine ⟨?_, hl⟩
    unfold itemsOf at h1
    split at h1
    · cases h1; exact .inl (by rw [e])
    · cases h1; exact .inr (by rw [e])
    · cases h1
  · cases h
theorem pairs_of {H : Hp} {A : Av} : ∀ {ks : List κ} {vs : List V}, RepL K H A (ks.map D.dk) vs → ∃ ps : List (V × κ), ps.map Prod.fst = vs ∧ ps.map Prod.snd = ks ∧ ∀ p ∈ ps, Rep K H A (D.dk p.2) p.1
  | [], vs, r => by
    have : vs = [] := by simpa only [List.map_nil, RepL] using r
    subst this
    exact ⟨[], rfl, rfl, fun p h => nomatch h⟩
  | k :: ks, vs, r => by
    simp only [List.map_cons, RepL] at r
    obtain ⟨y, ys, rfl, h1, h2⟩ := r
    obtain ⟨ps, e1, e2, e3⟩ := pairs_of h2
    refine ⟨(y, k) :: ps, by rw [List.map_cons, e1], by rw [List.map_cons, e2], fun p hp => ?_⟩
    rcases List.mem_cons.mp hp with rfl | hp
    · exact h1
    · exact e3 p hp
theorem repL_pairs {H : Hp} {A : Av} : ∀ {ys : List V} {ks : List κ}, ys.length = ks.length → (∀ p ∈ ys.zip ks, Rep K H A (D.dk p.2) p.1) → RepL K H A (ks.map D.dk) ys
  | [], [], _, _ => RepL.nil
  | y :: ys, k :: ks, hl, h => RepL.cons (h (y, k) List.mem_cons_self) (repL_pairs (by simpa using hl) fun p hp => h p (List.mem_cons_of_mem _ hp))
  | [], _ :: _, hl, _ => by simp at hl
  | _ :: _, [], hl, _ => by simp at hl
/-- the set is made: its members are data of the kind -/
theorem ef_set (hkv : ∀ {H : Hp} {A : Av} {k : κ} {v : V}, AvOk A H → Rep K H A (D.dk k) v → kv H k v) {most : Nat} (hm : most < W.most) {ta : TE} {fa : Rho → Option PyData} (ha : EB K ta fa) {A : Av} {ρ : Rho} {σ : St} {H : Hp} {ks : List κ} (rs : RS K A ρ σ H) (e : (fa ρ).bind (setItems D most) = some ks) {H1 : Hp} (e1 : Ex H H1) {Q : VK}
    (q : ∀ p L H2, Ex H1 H2 → H2 p = none → (L.map Prod.snd).Perm (ddup ks) → (∀ x ∈ L, Rep K H2 A (D.dk x.2) x.1) → AvOk A H2 → Q (.ref p) (upd H2 p (SetHO W p L))) : tCB (rSetW K W kv) (tCons ta tNil) σ H1 Q := by
  obtain ⟨d, ed, ei⟩ := bind_some' e
  obtain ⟨hd, hl⟩ := setItems_some ei
  refine ha A ρ σ H d rs ed H1 e1 _ fun v H2 e2 r2 => ?_
  have ok : AvOk A H2 := (rs.av.mono e1).mono e2
  have main : ∀ {l : Addr} {vs : List V}, v = .ref l → (SqL K H2 l vs ∨ SqT K H2 l vs) → RepL K H2 A (ks.map D.dk) vs → rSetW K W kv [v] H2 Q := fun {l vs} hv hs r => by
    obtain ⟨ps, p1, p2, p3⟩ := pairs_of r
    have pl : ps.length = ks.length := by rw [← p2, List.length_map]
    refine ⟨l, ps, by rw [hv], by rw [p1]; exact hs, fun p hp => hkv ok (p3 p hp), ⟨ddup ks, fun p hp => (ddup_mem ks _).mpr (by rw [← p2]; exact List.mem_map.mpr ⟨p, hp, rfl⟩), by omega⟩, fun p L hp dd => q p L H2 e2 hp ?_ (fun x hx => p3 x (dd.mem x hx)) ok⟩
    refine (List.perm_ext_iff_of_nodup dd.nd (ddup_nd ks)).mpr fun k => ?_
    rw [ddup_mem, ← p2]
    refine ⟨fun hk => ?_, fun hk => ?_⟩
    · obtain ⟨x, hx, ex⟩ := List.mem_map.mp hk
      exact List.mem_map.mpr ⟨x, dd.mem x hx, ex⟩
    · obtain ⟨x, hx, ex⟩ := List.mem_map.mp hk
      rw [← ex]; exact dd.all x hx
  rcases hd with rfl | rfl
  · obtain ⟨a, xs, rfl, h1, r1⟩ := r2.lst
    exact main rfl (.inl (SqL.of h1)) r1
  · obtain ⟨a, xs, rfl, h1, r1⟩ := r2.tup
    exact main rfl (.inr h1) r1
theorem ef_sortset (hkv : ∀ {H : Hp} {A : Av} {k : κ} {v : V}, AvOk A H → Rep K H A (D.dk k) v → kv H k v) {most : Nat} (hm : most < W.most) {ta : TE} {fa : Rho → Option PyData} (ha : EB K ta fa) : EF K (tCB (rSortW K W) (tCons (tCB (rSetW K W kv) (tCons ta tNil)) tNil)) (fun ρ => (fa ρ).bind (sortSetD D most)) := fun A ρ σ H z rs e H1 e1 Q q => by
  obtain ⟨d, ed, eg⟩ := bind_some' e
  obtain ⟨ks, ek, eg⟩ := bind_some' eg
  split at eg
  · rename_i hb
    cases eg
    have so := sortOk_of hb
    refine ef_set (D := D) hkv hm ha rs (ks := ks) (by rw [ed]; exact ek) e1 fun p L H2 ex hp pm rp ok => ?_
    have ok3 : AvOk A (upd H2 p (SetHO W p L)) := ok.mono (Ex.new hp)
    have rp3 : ∀ x ∈ L, Rep K (upd H2 p (SetHO W p L)) A (D.dk x.2) x.1 := fun x hx => (rp x hx).mono ok (Ex.new hp)
    have pd : (L.map fun x => D.dk x.2).Perm ((ddup ks).map D.dk) := by
      have := pm.map D.dk
      rwa [List.map_map] at this
    have good : ∀ (ks' : List κ) (ys : List V), (ys.zip ks').Perm L → ys.length = ks'.length → RepL K (upd H2 p (SetHO W p L)) A (ks'.map D.dk) ys ∧ (ks'.map D.dk).Perm ((ddup ks).map D.dk) := fun ks' ys pz hl => by
      refine ⟨repL_pairs hl fun x hx => rp3 x (pz.mem_iff.mp hx), ?_⟩
      have := (pz.map Prod.snd).trans pm
      rw [List.map_snd_zip (by omega)] at this
      exact this.map D.dk
    refine ⟨p, L, D.dk, rfl, upd_same, fun ks' ys pz hl => ?_, so.perm pd, fun p2 zs ys ks' hp2 pz hl sa => ?_⟩
    · obtain ⟨r, pk⟩ := good ks' ys pz hl
      exact repL_dp (fun d hd => so.1 d (pk.mem_iff.mp hd) d (pk.mem_iff.mp hd)) r
    · obtain ⟨r, pk⟩ := good ks' ys pz hl
      have es : srt (ks'.map D.dk) = srt ((ddup ks).map D.dk) := srt_perm pk (fun a ha b hb => so.1 a (pk.mem_iff.mp ha) b (pk.mem_iff.mp hb)) fun a ha b hb he => by
        obtain ⟨k1, _, rfl⟩ := List.mem_map.mp ha
        obtain ⟨k2, _, rfl⟩ := List.mem_map.mp hb
        rw [D.inj k1 k2 he]
      rw [es] at sa
      have rz := sorted_rep r sa
      exact q _ _ ((ex.trans (Ex.new hp)).trans (Ex.new hp2)) (rep_newL ok3 hp2 rz)
  · cases eg
end
def keyKind : DKind Key where
  dk := kD
  kd := toK
  back := fun {d k} h => by
    cases d with
    | int i => cases h; rfl
    | str s => cases h; rfl
    | _ => cases h
  inj := fun k k' h => by
    cases k with
    | inl i => cases k' with
      | inl j => simp [kD, PyData.eqv] at h; rw [h]
      | inr j => simp [kD, PyData.eqv] at h
    | inr i => cases k' with
      | inl j => simp [kD, PyData.eqv] at h
      | inr j => simp [kD, PyData.eqv] at h; rw [h]
def kvK : Hp → Key → V → Prop := fun _ k v => v = kV k
theorem cr_setK {X : Cx} (K : Fg) (P : Program) (w : World) (h : X.K = K) (hP : X.prog = P) (hw : X.w = w) (hc : X.calm = true) : CallR X (.type "set") (rSetW K (wayK P w) kvK) := by
  subst h; subst hP; subst hw
  exact cr_setW (wayK X.prog X.w) (fun I e r => by cases e; exact ⟨kV_is r, key_scan r⟩) hc trivial
theorem cr_sortSK {X : Cx} (K : Fg) (P : Program) (w : World) (h : X.K = K) (hP : X.prog = P) (hw : X.w = w) (hc : X.calm = true) (hu : X.A.units + 64 < cLine) : CallR X (.builtin "sorted") (rSortW K (wayK P w)) := by
  subst h; subst hP; subst hw
  exact cr_sortW _ hc hu
theorem ef_sortK {K : Fg} {P : Program} {w : World} {ta : TE} {fa : Rho → Option PyData} (ha : EB K ta fa) : EF K (tCB (rSortW K (wayK P w)) (tCons (tCB (rSetW K (wayK P w) kvK) (tCons ta tNil)) tNil)) (fun ρ => (fa ρ).bind (sortSetD keyKind 1001)) := ef_sortset (fun _ r => rep_key r) (by show 1001 < scanBound; decide) ha
end Sv
namespace Sv
open PySem L2 Evl
/-- the written tuple at a -/
structure KTup (K : Fg) (a : Addr) (ks : List Key) : Prop where
  at_ : ∃ (o : Obj) (its : Array Value) (n : Nat), K.lookup a = some o ∧ o.cls = .type "tuple" ∧ o.data = .seq its n ∧ its.size ≤ sizeLine ∧ Vals (ks.map kV) its.toList
theorem ef_ktup {K : Fg} {a : Addr} {ks : List Key} (h : KTup K a ks) : EF K (tC (.ref a)) (fun _ => some (.tuple (ks.map kD))) := fun A ρ σ H z rs e H1 e1 Q q => by
  cases e
  refine q _ H1 (Ex.refl _) ?_
  simp only [Rep]
  exact ⟨a, ks.map kV, rfl, ⟨.inr h.at_, .inl (keyB_all ks)⟩, repL_kV ks⟩
end Sv
namespace Sv
open PySem L2 Evl PyProof.Rows PySem.Spec
end Sv
namespace Sv
open PySem L2 Evl
end Sv
namespace Sv
open PySem L2 Evl PySem.Spec PyProof.Rows
end Sv
namespace Sv
open PySem L2 Evl
section
variable {K : Fg}
def ETX (K : Fg) (t : TT) (f : Rho → Option (Bool × Rho)) : Prop := ∀ Hb O pn ow ρ σ H b ρ', SR K Hb O pn ow ρ σ H → f ρ = some (b, ρ') → ∀ Q : Bool → Hp → Prop, (∀ ow' H', SR K Hb O pn ow' ρ' σ H' → Q b H') → t σ H Q
def asX (a : Option (PyData × Rho)) : Option (Bool × Rho) := a.bind fun r => (asB r.1).map fun b => (b, r.2)
def ifX (c : Option (Bool × Rho)) (f g : Rho → Option Res) : Option Res := c.bind fun r => if r.1 then f r.2 else g r.2
theorem es_ifX {c : TT} {t u : TS} {f g : Rho → Option Res} {fc : Rho → Option (Bool × Rho)} (hc : ETX K c fc) (h1 : ES K t f) (h2 : ES K u g) : ES K (tIfS c t u) (fun ρ => ifX (fc ρ) f g) := fun Hb O pn ow ρ σ H r D sr e fin => by
  unfold ifX at e
  obtain ⟨⟨b, ρ1⟩, hb, e⟩ := bind_some' e
  refine hc Hb O pn ow ρ σ H b _ sr hb _ fun ow' H2 s2 => ?_
  cases b with
  | true => exact h1 Hb O pn ow' _ σ H2 r D s2 e fin
  | false => exact h2 Hb O pn ow' _ σ H2 r D s2 e fin
def getD2 (d k z : PyData) : Option PyData := match d with
  | .dict kvs => if isOb kvs then none else (toK k).map fun q => (dgetK kvs q).getD z
  | _ => none
theorem ef_get2 {td ty tx : TE} {fd fk fx : Rho → Option PyData} (hd : EB K td fd) (hk : EF K ty fk) (hx : EF K tx fx) : EF K (tDGet2 td ty tx) (fun ρ => (fd ρ).bind fun d => bnd2 (fk ρ) (fx ρ) (getD2 d)) := fun A ρ σ H z rs e H1 e1 Q q => by
  obtain ⟨d, h1, e8⟩ := bind_some' e
  obtain ⟨k, x, h2, h3, e9⟩ := bnd2_some e8
  clear e e8
  unfold getD2 at e9
  split at e9
  · rename_i kvs
    split at e9
    · cases e9
    · rename_i ho
      obtain ⟨qk, hq, rfl⟩ := Option.map_eq_some_iff.mp e9
      have := toK_some hq
      subst this
      refine hd A ρ σ H _ rs h1 H1 e1 _ fun v H2 e2 rb => ?_
      have av2 := (rs.av.mono e1).mono e2
      obtain ⟨a, s, vs, rfl, hks, n, r⟩ := rb.dct
      obtain ⟨ks, rfl, hks2⟩ := dk_of_not (by simpa using ho) hks
      refine ⟨a, rfl, .inl ⟨_, .inl n.2⟩, ?_⟩
      refine hk A ρ σ H _ rs h2 H2 (e1.trans e2) _ fun y H3 e3 ry => ?_
      cases rep_key ry
      refine hx A ρ σ H _ rs h3 H3 ((e1.trans e2).trans e3) _ fun u H4 e4 ru => ?_
      have e24 := e3.trans e4
      have r4 := RepP.mono av2 e24 r
      refine ⟨_, DGet.k (e24 _ _ n.2), q _ H4 (e2.trans e24) ?_⟩
      have g := dget_rep (q := qk) hks2 r4
      cases hdk : dgetK kvs qk with
      | none =>
        rw [hdk] at g
        rw [g]
        exact ru
      | some d0 =>
        rw [hdk] at g
        obtain ⟨w, hw, rw1⟩ := g
        rw [hw]
        exact rw1
  · cases e9
end
end Sv
namespace Sv
open PySem PySem.Spec PyProof.Rows L2
end Sv
namespace Sv
open PySem L2 Evl
section
variable {K : Fg}
def tr (ks : List Key) : List (Key × V) := ks.map fun k => (k, V.bl true)
end
end Sv
namespace Sv
open PySem L2 Evl RZ
def rInSg : R2 := fun x y H Q => ∃ (c : Nat) (z : Str), x = .str ⟨#[c]⟩ ∧ y = .str z ∧ Q (.bl (decide (c ∈ z.cps.toList))) H
theorem op_inSg {X : Cx} : OpR X (compareOp .In) rInSg := op_in_sign
def inSg : PyData → PyData → Option PyData
  | .str ⟨⟨[c]⟩⟩, .str z => some (.bool (decide (c ∈ z.cps.toList)))
  | _, _ => none
section
variable {K : Fg}
theorem e2_inSg : E2 K rInSg inSg := fun A H d e x y z ok rx ry h Q q => by
  unfold inSg at h
  split at h
  · cases h
    cases rx.str
    cases ry.str
    exact ⟨_, _, rfl, rfl, q _ H (Ex.refl _) rep_bl⟩
  · cases h
def zipP (a b : List PyData) : List PyData := (a.zip b).map fun p => .tuple [p.1, p.2]
def zipD : PyData → PyData → Option (List PyData)
  | .tuple a, .tuple b => if a.all keyB && b.all keyB then some (zipP a b) else none
  | .list a, .list b => if a.all keyB && b.all keyB then some (zipP a b) else none
  | _, _ => none
theorem zipP_len (a b : List PyData) : (zipP a b).length = min a.length b.length := by
  unfold zipP
  rw [List.length_map, List.length_zip]
theorem zipP_get {a b : List PyData} {i : Nat} {e : PyData} (h : (zipP a b)[i]? = some e) : ∃ x y, a[i]? = some x ∧ b[i]? = some y ∧ e = .tuple [x, y] := by
  unfold zipP at h
  rw [List.getElem?_map] at h
  obtain ⟨⟨x, y⟩, h1, h2⟩ := Option.map_eq_some_iff.mp h
  have h3 := List.getElem?_zip_eq_some.mp h1
  exact ⟨x, y, h3.1, h3.2, h2.symm⟩
theorem yield_zip {A B : Av} {H Ha Hc : Hp} {ds es : List PyData} {xs ys : List V} {i T : Nat} {x y : V} {d e : PyData} (ok : AvOk A H) (k : Kp A H Ha) (r : RepL K H A ds xs) (r' : RepL K H A es ys) (hb : ∀ a, B a → A a ∨ H a = none) (hn : Ha T = none) (hx : xs[i]? = some x) (hy : ys[i]? = some y) (hd : ds[i]? = some d) (he : es[i]? = some e)
    (hc : Hc = upd Ha T (.tup [x, y])) (kd : keyB d = true) (ke : keyB e = true) : Ex Ha Hc ∧ Rep K Hc B (.tuple [d, e]) (.ref T) := by
  subst hc
  refine ⟨Ex.new hn, ?_⟩
  obtain ⟨v, hv, rv⟩ := r.get hd
  rw [hx] at hv; cases hv
  obtain ⟨v, hv, rv'⟩ := r'.get he
  rw [hy] at hv; cases hv
  have hk : Kp A H (upd Ha T (.tup [x, y])) := fun b o q n => by
    have := k b o q n
    rw [upd_ne (ne_of_none this hn)]
    exact this
  simp only [Rep]
  exact ⟨T, _, rfl, ⟨SqT.of upd_same, .inl (by simp only [List.all_cons, List.all_nil, kd, ke]; rfl)⟩, RepL.cons (Rep.keep2 ok hk hb _ _ rv) (RepL.one (Rep.keep2 ok hk hb _ _ rv'))⟩
theorem key_at {ds : List PyData} {i : Nat} {d : PyData} (h : ds.all keyB = true) (hd : ds[i]? = some d) : keyB d = true := List.all_eq_true.mp h d (List.mem_of_getElem? hd)
theorem lt_get {α : Type} {xs : List α} {i : Nat} (h : i < xs.length) : ∃ x, xs[i]? = some x := ⟨xs[i], by simp [h]⟩
theorem ei_zip {ta tb : TE} {fa fb : Rho → Option PyData} (ha : EF K ta fa) (hb : EF K tb fb) : EI K (iZipA K (tCons ta (tCons tb tNil))) (fun ρ => bnd2 (fa ρ) (fb ρ) zipD) := fun A ρ σ H es rs e H1 e1 R k => by
  obtain ⟨d, d', hd, hd', e⟩ := bnd2_some e
  refine ha A ρ σ H d rs hd H1 e1 _ fun v H2 e2 r2 => ?_
  have av2 := (rs.av.mono e1).mono e2
  refine hb A ρ σ H d' rs hd' H2 (e1.trans e2) _ fun v' H3 e3 r3 => ?_
  have ok := av2.mono e3
  have r2 := r2.mono av2 e3
  unfold zipD at e
  split at e
  · split at e
    · rename_i hkb
      obtain ⟨k1, k2⟩ := Bool.and_eq_true_iff.mp hkb
      cases e
      simp only [Rep] at r2 r3
      obtain ⟨a, xs, rfl, ⟨h1, _⟩, q1⟩ := r2
      obtain ⟨b, ys, rfl, ⟨h2, _⟩, q2⟩ := r3
      refine ⟨a, b, xs, ys, rfl, .inr ⟨h1, h2, k _ H3 (e2.trans e3) ⟨fun i Ha hl kp => ?_, fun Ha kp => ?_, fun B i x Ha Hc e hb he kp y => ?_⟩⟩⟩
      · rw [zipP_len, ← q1.length, ← q2.length] at hl
        obtain ⟨x, hx⟩ := lt_get (xs := xs) (i := i) (by omega)
        obtain ⟨y, hy⟩ := lt_get (xs := ys) (i := i) (by omega)
        exact ⟨xs, ys, x, y, SqT.keep ok kp h1, SqT.keep ok kp h2, hx, hy⟩
      · rw [zipP_len, ← q1.length, ← q2.length]
        exact ⟨xs, ys, SqT.keep ok kp h1, SqT.keep ok kp h2, by omega⟩
      · obtain ⟨p, q, hp, hq, rfl⟩ := zipP_get he
        obtain ⟨T, x1, y1, rfl, hT, hc, hx1, hy1⟩ := y
        exact yield_zip ok kp q1 q2 hb hT (hx1 xs (SqT.keep ok kp h1)) (hy1 ys (SqT.keep ok kp h2)) hp hq hc (key_at k1 hp) (key_at k2 hq)
    · cases e
  · split at e
    · rename_i hkb
      obtain ⟨k1, k2⟩ := Bool.and_eq_true_iff.mp hkb
      cases e
      simp only [Rep] at r2 r3
      obtain ⟨a, xs, rfl, na, h1, q1⟩ := r2
      obtain ⟨b, ys, rfl, nb, h2, q2⟩ := r3
      refine ⟨a, b, xs, ys, rfl, .inl ⟨SqL.of h1, SqL.of h2, k _ H3 (e2.trans e3) ⟨fun i Ha hl kp => ?_, fun Ha kp => ?_, fun B i x Ha Hc e hb he kp y => ?_⟩⟩⟩
      · rw [zipP_len, ← q1.length, ← q2.length] at hl
        obtain ⟨x, hx⟩ := lt_get (xs := xs) (i := i) (by omega)
        obtain ⟨y, hy⟩ := lt_get (xs := ys) (i := i) (by omega)
        exact ⟨xs, ys, x, y, SqL.of (kp a _ h1 na), SqL.of (kp b _ h2 nb), hx, hy⟩
      · rw [zipP_len, ← q1.length, ← q2.length]
        exact ⟨xs, ys, SqL.of (kp a _ h1 na), SqL.of (kp b _ h2 nb), by omega⟩
      · obtain ⟨p, q, hp, hq, rfl⟩ := zipP_get he
        obtain ⟨T, x1, y1, rfl, hT, hc, hx1, hy1⟩ := y
        exact yield_zip ok kp q1 q2 hb hT (hx1 xs (SqL.of (kp a _ h1 na))) (hy1 ys (SqL.of (kp b _ h2 nb))) hp hq hc (key_at k1 hp) (key_at k2 hq)
    · cases e
  · cases e
theorem pi_zipK {X : Cx} {e e2 : Expr} {ta : TA} {p pos tpos : Pos} {elts : List Expr} {kk : Nat} (K : Fg) (h : X.K = K) (hg : Gl X "zip") (hm : X.mg "zip" = none) (ha : PA X [e, e2] ta)
    (hs : starEach [e, e2] X.env = (false, eval e X.env) :: starEach [e2] X.env := by rfl) (hpl : (backTo pos (starEach [e2] X.env)).any (·.1) = false := by rfl) :
    PI X (.Tuple elts kk tpos) (.Call (.Name "zip" p) [e, e2] [] pos) (iZipA K ta) := h ▸ pi_zipA hg hm ha hs hpl
end
end Sv
namespace Sv
open PySem L2 Evl
def slS (d : PyData) (lo hi : Option Int) : Option PyData := match d with
  | .str z => if lenOk z.length then some (.str (cutS z lo hi)) else none
  | _ => none
section
variable {K : Fg}
theorem ef_slS {te : TE} {tl th : TO} {fe : Rho → Option PyData} {fl fh : Rho → Option (Option Int)} (h : EB K te fe) (hl : EO K tl fl) (hh : EO K th fh) : EF K (tSl rSlS te tl th) (fun ρ => (fe ρ).bind fun d => bnd2 (fl ρ) (fh ρ) (slS d)) := fun A ρ σ H z rs e H1 e1 Q q => by
  obtain ⟨d, hd, e⟩ := bind_some' e
  obtain ⟨lo, hi, el, eh, e⟩ := bnd2_some e
  refine h A ρ σ H d rs hd H1 e1 _ fun v H2 e2 rv => ?_
  refine hl A ρ σ H lo rs el H2 (e1.trans e2) _ fun H3 e3 => ?_
  refine hh A ρ σ H hi rs eh H3 ((e1.trans e2).trans e3) _ fun H4 e4 => ?_
  unfold slS at e
  split at e
  · split at e
    · rename_i hl
      cases e
      cases rv.str
      exact ⟨_, rfl, of_decide_eq_true hl, q _ H4 ((e2.trans e3).trans e4) rep_str⟩
    · cases e
  · cases e
end
end Sv
namespace Sv
open PySem L2 Evl
def sLeq (i j : Str) : Bool := !decide (j.cps.toList < i.cps.toList)
def rLeST : R2 := rOrd (fun i j => decide (i ≤ j)) sLeq
def leST := ordD (fun i j => decide (i ≤ j)) sLeq
theorem op_leST {X : Cx} : OpR X (compareOp .LtE) rLeST := op_le.or op_le_str
theorem e2_leST {K : Fg} : E2 K rLeST leST := e2_ord
end Sv
namespace Sv
open PySem L2 Evl
end Sv
namespace Sv
open PySem L2 Evl PyProof.Rows PySem.Spec
abbrev kh (P : Program) (w : World) (k : List Key) : Int := tupleKeyHash (mixKind P w) k
abbrev rowT (P : Program) (w : World) (x : Value × List Key) : Int × Value := (kh P w x.2, x.1)
section
variable {P : Program} {w : World} {A : Around} {E : Value → Shared → Prop} {s : Shared}
structure TR (P : Program) (w : World) (h : Heap) (a : Addr) (L : List (Value × List Key)) (es : Array (Int × Value)) (ep : Nat) (t : SetTable) : Prop where
  ob : ∃ o, h.get? a = some o ∧ o.ExactSet ∧ o.data = .set es ep t
  rows : es.toList = L.map (rowT P w)
  tab : TabOk t (L.map fun x => kh P w x.2)
  nd : (L.map (·.2)).Nodup
  led : w.params.followText "set-order" = true ∨ t.led = true
  room : L.length * 5 < t.mask * 3
  few : L.length < 64
section
variable {h : Heap} {a : Addr} {L : List (Value × List Key)} {es : Array (Int × Value)} {ep : Nat} {t : SetTable}
theorem TR.size (R : TR P w h a L es ep t) : es.size = L.length := by
  have z := congrArg List.length R.rows
  rwa [Array.length_toList, List.length_map] at z
theorem fits_of (hd : t.dummies = #[]) (hs : t.place.size = es.size) (hl : es.size ≤ t.mask) : t.fits es.size = true := by
  unfold SetTable.fits SetTable.fill
  rw [hd, Bool.and_eq_true, beq_iff_eq, decide_eq_true_eq]
  show t.place.size = es.size ∧ t.place.size + 0 ≤ t.mask
  omega
theorem TR.fits (R : TR P w h a L es ep t) : t.fits es.size = true := by
  have h1 := R.tab.sz
  rw [List.length_map] at h1
  have h2 := R.size
  have h3 := R.room
  exact fits_of R.tab.dm (by omega) (by omega)
end
end
end Sv
namespace Sv
open PySem L2 Evl PyProof.Rows PySem.Spec
end Sv
namespace Sv
open PySem L2 Evl PyProof.Rows PySem.Spec
end Sv
namespace Sv
open PySem L2 Evl PyProof.Rows PySem.Spec
/-- once, or of nothing: itself -/
theorem mul_self (l : Addr) (items : Array Value) (n : Nat) (dd : Option Addr) (sl : Array (Option Value)) (x : Int) (u : Tok) (c0 : (decide (x < -(2 ^ 63)) || decide (x ≥ 2 ^ 63)) = false) (c1 : (items.isEmpty || x == 1) = true) :
    Meets (Builtin.«tuple.__mul__» ⟨[.ref l, .int x u], []⟩) (fun _ R s => s.heap.get? l = some { cls := .type "tuple", dict := dd, data := .seq items n, slots := sl } ∧ R (.ok (.ret (Value.ref l))) s) :=
  .of_wp fun prog w A R s h => by
    obtain ⟨hp, g, d, tk, os⟩ := s
    obtain ⟨hl, h⟩ := h
    have f1 := AutoSeq1.idx_int
    wp_walk using wpAny_loadPart' hl
    repeat (first
      | (refine wpAny_ite_false (decide_eq_false (by rw [c0]; exact Bool.false_ne_true)) ?_; wp_walk using wpAny_loadPart' hl)
      | (refine wpAny_ite_true (decide_eq_true c1) ?_; wp_walk using wpAny_loadPart' hl))
    exact ⟨_, rfl, h⟩
/-- no times: the empty one -/
theorem mul_none (l : Addr) (items : Array Value) (n : Nat) (dd : Option Addr) (sl : Array (Option Value)) (x : Int) (u : Tok) (c0 : (decide (x < -(2 ^ 63)) || decide (x ≥ 2 ^ 63)) = false) (c1 : (items.isEmpty || x == 1) = false) (c2 : (decide (x ≤ 0) || items.isEmpty) = true) :
    Meets (Builtin.«tuple.__mul__» ⟨[.ref l, .int x u], []⟩) (fun _ R s => s.heap.get? l = some { cls := .type "tuple", dict := dd, data := .seq items n, slots := sl } ∧ R (.ok (.ret (Value.ref s.heap.objs.size))) { s with heap := s.heap.push { cls := Value.type "tuple", data := Data.seq #[] }, toks := s.toks }) :=
  .of_wp fun prog w A R s h => by
    obtain ⟨hp, g, d, tk, os⟩ := s
    obtain ⟨hl, h⟩ := h
    have f1 := AutoSeq1.idx_int
    wp_walk using wpAny_loadPart' hl
    repeat (first
      | (refine wpAny_ite_false (decide_eq_false (by rw [c0]; exact Bool.false_ne_true)) ?_; wp_walk using wpAny_loadPart' hl)
      | (refine wpAny_ite_false (decide_eq_false (by rw [c1]; exact Bool.false_ne_true)) ?_; wp_walk using wpAny_loadPart' hl)
      | (refine wpAny_ite_true (decide_eq_true c2) ?_; wp_walk using wpAny_loadPart' hl))
    exact ⟨_, rfl, h⟩
def rMulT (K : Fg) : R2 := fun x y H Q => ∃ l k xs, x = .ref l ∧ y = .int k ∧ SqT K H l xs ∧ -1000 ≤ k ∧ k ≤ 1000 ∧ xs.length ≤ 1000 ∧ ((xs = [] ∨ k = 1) → Q (.ref l) H) ∧ (¬ (xs = [] ∨ k = 1) → NewT H (List.replicate k.toNat xs).flatten Q)
section
variable {X : Cx}
theorem op_mulT0 : OpR X (binaryOp .Mult) (rMulT X.K) := by
  intro pins s σ H x y v u Q I rx ry h
  obtain ⟨l, k, xs, rfl, rfl, hT, h1, h2, hz, q1, q2⟩ := h
  cases rx
  obtain ⟨t, rfl⟩ := ry
  obtain ⟨its, r, ⟨⟨cls, dd, data, sl⟩, ho, hc, n, hd⟩, hs⟩ := I.tuple hT
  dsimp only at hc hd
  subst hc hd
  have len : its.length = xs.length := r.length.symm
  have emp : its.toArray.isEmpty = decide (xs = []) := by
    cases its with
    | nil => rw [decide_eq_true (List.eq_nil_of_length_eq_zero len.symm)]; rfl
    | cons a b => rw [decide_eq_false (fun z => by rw [z] at len; cases len)]; rfl
  have c0 : (decide (k < -(2 ^ 63)) || decide (k ≥ 2 ^ 63)) = false := by
    rw [decide_eq_false (by omega), decide_eq_false (by omega)]; rfl
  have c1 : (its.toArray.isEmpty || k == 1) = decide (xs = [] ∨ k = 1) := by
    rw [emp, Bool.decide_or, show (k == 1) = decide (k = 1) from by by_cases e : k = 1 <;> simp [e]]
  by_cases hself : xs = [] ∨ k = 1
  · rw [decide_eq_true hself] at c1
    refine wpAny_binaryOp_repeat_ref (T := "tuple") (U := "int") (by decide) ⟨_, ho, rfl⟩ (fun s' => typeIs_int s' k t) noFill_tuple_mul PySem.F.fills_int_mul PySem.F.slot_int_rmul repeat_tuple PySem.F.slot_int_index.lookup
      (call_meets PySem.F.slot_int_rmul (typeIs_int s k t) PySem.F.entry_int_rmul (PySem.F.args_int_rmul_2 _ _) (int_rmul_tuple k t l its.toArray n dd sl)
        ⟨ho, rfl, ⟨_, ho, rfl⟩, call_meets PySem.F.slot_tuple_mul ⟨_, ho, rfl⟩ PySem.F.entry_tuple_mul (PySem.F.args_tuple_mul_2 _ _) (mul_self l its.toArray n dd sl k t c0 c1) ⟨ho, ?_⟩⟩)
    exact ⟨.ref l, H, I, rfl, q1 hself⟩
  · rw [decide_eq_false hself] at c1
    by_cases hk : k ≤ 0
    · have c2 : (decide (k ≤ 0) || its.toArray.isEmpty) = true := by rw [decide_eq_true hk]; rfl
      refine wpAny_binaryOp_repeat_ref (T := "tuple") (U := "int") (by decide) ⟨_, ho, rfl⟩ (fun s' => typeIs_int s' k t) noFill_tuple_mul PySem.F.fills_int_mul PySem.F.slot_int_rmul repeat_tuple PySem.F.slot_int_index.lookup
        (call_meets PySem.F.slot_int_rmul (typeIs_int s k t) PySem.F.entry_int_rmul (PySem.F.args_int_rmul_2 _ _) (int_rmul_tuple k t l its.toArray n dd sl)
          ⟨ho, rfl, ⟨_, ho, rfl⟩, call_meets PySem.F.slot_tuple_mul ⟨_, ho, rfl⟩ PySem.F.entry_tuple_mul (PySem.F.args_tuple_mul_2 _ _) (mul_none l its.toArray n dd sl k t c0 c1 c2) ⟨ho, ?_⟩⟩)
      have q := q2 hself
      rw [show k.toNat = 0 by omega] at q
      exact lay_tup (its := []) (tk := s.toks) I (fun b ob q => Heap.get?_push_of_some _ q) (by simp) .nil (Heap.get?_push_size _ rfl) q
    · have c2 : (decide (k ≤ 0) || its.toArray.isEmpty) = false := by
        rw [decide_eq_false hk, emp, decide_eq_false fun z => hself (.inl z)]; rfl
      have hsz0 : its.toArray.size = xs.length := by rw [List.size_toArray, len]
      have hm : ((its.toArray.size : Nat) : Int) * k ≤ 1000000 := by
        rw [hsz0]
        have a1 : ((xs.length : Nat) : Int) * k ≤ 1000 * k := Int.mul_le_mul_of_nonneg_right (by omega) (by omega)
        omega
      have flen : (List.replicate k.toNat its).flatten.length ≤ sizeLine := by
        rw [PyProof.Rows.lm_len_rep_flat, len, sizeLine_eq]
        have a1 : k.toNat * xs.length ≤ 1000 * 1000 := Nat.mul_le_mul (by omega) hz
        omega
      have c4 : Builtin.Tuple.tupleTooMany (((its.toArray.size : Nat) : Int) * k) = false := by
        unfold Builtin.Tuple.tupleTooMany
        rw [sizeLine_eq]
        exact decide_eq_false (by omega)
      refine wpAny_binaryOp_repeat_ref (T := "tuple") (U := "int") (by decide) ⟨_, ho, rfl⟩ (fun s' => typeIs_int s' k t) noFill_tuple_mul PySem.F.fills_int_mul PySem.F.slot_int_rmul repeat_tuple PySem.F.slot_int_index.lookup
        (call_meets PySem.F.slot_int_rmul (typeIs_int s k t) PySem.F.entry_int_rmul (PySem.F.args_int_rmul_2 _ _) (int_rmul_tuple k t l its.toArray n dd sl)
          ⟨ho, rfl, ⟨_, ho, rfl⟩, call_meets PySem.F.slot_tuple_mul ⟨_, ho, rfl⟩ PySem.F.entry_tuple_mul (PySem.F.args_tuple_mul_2 _ _) (tuple_mulW l its.toArray n dd sl k t c0 c1 c2 (by omega) c4 (by rw [size_rep, List.size_toArray]; exact flen)) ⟨ho, ?_⟩⟩)
      rw [size_rep]
      have rr : ∀ m, Vals (List.replicate m xs).flatten (List.replicate m its).flatten := fun m => by
        induction m with
        | zero => exact .nil
        | succ m ih => rw [List.replicate_succ, List.replicate_succ, List.flatten_cons, List.flatten_cons]; exact r.append ih
      exact lay_tup (its := (List.replicate k.toNat its).flatten) (tk := s.toks) I (fun b ob q => Heap.get?_push_of_some _ q) (by rw [(rr _).length]; exact flen) (rr _) (Heap.get?_push_size _ rfl) (q2 hself)
end
theorem op_mulT {X : Cx} (K : Fg) (h : X.K = K) : OpR X (binaryOp .Mult) (rMulT K) := h ▸ op_mulT0
def mulT (d e : PyData) : Option PyData := match d, e with
  | .tuple ds, .int k => if -1000 ≤ k ∧ k ≤ 1000 ∧ ds.length ≤ 1000 then some (.tuple (List.replicate k.toNat ds).flatten) else none
  | _, _ => none
theorem e2_mulT {K : Fg} : E2 K (rMulT K) mulT := fun A H d e x y z ok rx ry h Q q => by
  unfold mulT at h
  split at h
  · split at h
    · rename_i hc
      cases h
      obtain ⟨a, xs, rfl, hp, r⟩ := rx.tupP
      cases ry.int
      have rl := r.length
      refine ⟨a, _, xs, rfl, rfl, hp.1, hc.1, hc.2.1, by omega, fun hs => q _ H (Ex.refl _) ?_, fun _ p o hd hn => q _ _ (Ex.new hn) ?_⟩
      · rename_i ds k
        have e1 : (List.replicate k.toNat ds).flatten = ds := by
          rcases hs with hs | hs
          · subst hs
            have : ds = [] := List.eq_nil_of_length_eq_zero rl.symm
            subst this
            simp
          · subst hs; simp
        rw [e1]
        exact rep_tup hp r
      · simp only [Rep]
        exact ⟨p, _, rfl, ⟨.inl (.inr ⟨o, upd_same⟩), .inr (.inl ⟨o, _, upd_same, hd⟩)⟩, (repL_flat r _).mono ok (Ex.new hn)⟩
    · cases h
  · cases h
end Sv
namespace Sv
open PySem L2 Evl
end Sv
namespace Sv
open PySem L2 Evl
def fb__law_drawn : Rho → Option Res := fun ρ =>
  seqR (asgR 2 ρ (bnd2 (bnd2 (bnd2 (bnd2 (gb 0 ρ) (bnd2 (some (.int 104729)) (gb 1 ρ) mulA) addD) (some (.int 17)) addD) (some (.int 69621)) mulA) (some (.int 2147483647)) modD)) fun ρ =>
  retR (bnd2 (bnd2 (bnd2 (bnd2 (gb 2 ρ) (gb 2 ρ) mulA) (bnd2 (some (.int 3)) (gb 2 ρ) mulA) addD) (gb 1 ρ) addD) (some (.int 2147483629)) modD)
def fb__law_test (m__law_test : List PyData → Option PyData) (m__law_drawn : List PyData → Option PyData) : Rho → Option Res := fun ρ =>
  seqR (asgR 2 ρ (bnd2 (gb 0 ρ) (some (.int 8)) modD)) fun ρ =>
  seqR (ifR (andB ((bnd2 (gb 1 ρ) (some (.int 1)) gtD).bind asB) ((bnd2 (gb 2 ρ) (some (.int 4)) gtD).bind asB)) (seqR (asgR 3 ρ (((bnd2 (bnd2 (((bnd2 (gv 0 ρ) ((bnd2 (some (.int 1)) (some []) consD)) consD)).bind m__law_drawn) (some (.int 4)) fdivD) ((bnd2 (bnd2 (gb 1 ρ) (some (.int 1)) subD) (some []) consD)) consD)).bind m__law_test)) fun ρ =>
  seqR (asgR 4 ρ (((bnd2 (bnd2 (((bnd2 (gv 0 ρ) ((bnd2 (some (.int 2)) (some []) consD)) consD)).bind m__law_drawn) (some (.int 4)) fdivD) ((bnd2 (bnd2 (gb 1 ρ) (some (.int 1)) subD) (some []) consD)) consD)).bind m__law_test)) fun ρ =>
  retR (bnd2 (((bnd2 (((bnd2 (some (.str "not")) ((bnd2 (gv 3 ρ) (some []) consD)) consD)).bind tupD) ((bnd2 (((bnd2 (some (.str "both")) ((bnd2 (gv 3 ρ) ((bnd2 (gv 4 ρ) (some []) consD)) consD)) consD)).bind tupD) ((bnd2 (((bnd2 (some (.str "either")) ((bnd2 (gv 3 ρ) ((bnd2 (gv 4 ρ) (some []) consD)) consD)) consD)).bind tupD) (some []) consD)) consD)) consD)).bind lstD) (bnd2 (gb 2 ρ) (some (.int 5)) subD) ixD)) (some (.nx ρ))) fun ρ =>
  seqR (ifR ((bnd2 (gb 2 ρ) (some (.int 0)) eqD).bind asB) (retR (((bnd2 (some (.str "from")) ((bnd2 (bnd2 (((bnd2 (some (.str "ann")) ((bnd2 (some (.str "bob")) (some []) consD)) consD)).bind tupD) (bnd2 (bnd2 (gb 0 ρ) (some (.int 8)) fdivD) (some (.int 2)) modD) ixD) (some []) consD)) consD)).bind tupD)) (some (.nx ρ))) fun ρ =>
  seqR (ifR ((bnd2 (gb 2 ρ) (some (.int 1)) eqD).bind asB) (retR (((bnd2 (some (.str "over")) ((bnd2 (bnd2 (((bnd2 (some (.int 10)) ((bnd2 (some (.int 500)) ((bnd2 (some (.int 999)) (some []) consD)) consD)) consD)).bind tupD) (bnd2 (bnd2 (gb 0 ρ) (some (.int 8)) fdivD) (some (.int 3)) modD) ixD) (some []) consD)) consD)).bind tupD)) (some (.nx ρ))) fun ρ =>
  seqR (ifR ((bnd2 (gb 2 ρ) (some (.int 2)) eqD).bind asB) (retR (((bnd2 (some (.str "marked")) ((bnd2 (bnd2 (((bnd2 (some (.str "m")) ((bnd2 (some (.str "red")) (some []) consD)) consD)).bind tupD) (bnd2 (bnd2 (gb 0 ρ) (some (.int 8)) fdivD) (some (.int 2)) modD) ixD) (some []) consD)) consD)).bind tupD)) (some (.nx ρ))) fun ρ =>
  seqR (ifR ((bnd2 (gb 2 ρ) (some (.int 3)) eqD).bind asB) (retR (((bnd2 (some (.str "yes")) (some []) consD)).bind tupD)) (some (.nx ρ))) fun ρ =>
  retR (((bnd2 (some (.str "word")) ((bnd2 (bnd2 (((bnd2 (some (.str "hi")) ((bnd2 (some (.str "now")) (some []) consD)) consD)).bind tupD) (bnd2 (bnd2 (gb 0 ρ) (some (.int 8)) fdivD) (some (.int 2)) modD) ixD) (some []) consD)) consD)).bind tupD)
def fb__law_deed : Rho → Option Res := fun ρ =>
  seqR (asgR 2 ρ (bnd2 (gb 0 ρ) (some (.int 12)) modD)) fun ρ =>
  seqR (asgR 3 ρ (bnd2 (((bnd2 (some (.str "a")) ((bnd2 (some (.str "in")) ((bnd2 (some (.str "old")) ((bnd2 (some (.str "x")) (some []) consD)) consD)) consD)) consD)).bind tupD) (bnd2 (bnd2 (gb 0 ρ) (some (.int 16)) fdivD) (some (.int 4)) modD) ixD)) fun ρ =>
  seqR (ifR ((bnd2 (gb 2 ρ) (some (.int 0)) eqD).bind asB) (retR (((bnd2 (some (.str "stop")) (some []) consD)).bind tupD)) (some (.nx ρ))) fun ρ =>
  seqR (ifR ((bnd2 (gb 2 ρ) (some (.int 1)) eqD).bind asB) (retR (((bnd2 (some (.str "drop")) (some []) consD)).bind tupD)) (some (.nx ρ))) fun ρ =>
  seqR (ifR ((bnd2 (gb 2 ρ) (some (.int 5)) ltD).bind asB) (retR (((bnd2 (some (.str "call")) ((bnd2 (bnd2 (gb 1 ρ) (bnd2 (bnd2 (gb 0 ρ) (some (.int 16)) fdivD) ((gb 1 ρ).bind lenD) modD) ixD) (some []) consD)) consD)).bind tupD)) (some (.nx ρ))) fun ρ =>
  seqR (ifR ((bnd2 (gb 2 ρ) (some (.int 7)) ltD).bind asB) (retR (((bnd2 (bnd2 (((bnd2 (some (.str "mark")) ((bnd2 (some (.str "unmark")) (some []) consD)) consD)).bind tupD) (bnd2 (bnd2 (gb 0 ρ) (some (.int 64)) fdivD) (some (.int 2)) modD) ixD) ((bnd2 (bnd2 (((bnd2 (some (.str "m")) ((bnd2 (some (.str "red")) (some []) consD)) consD)).bind tupD) (bnd2 (bnd2 (gb 0 ρ) (some (.int 16)) fdivD) (some (.int 2)) modD) ixD) (some []) consD)) consD)).bind tupD)) (some (.nx ρ))) fun ρ =>
  retR (((bnd2 (bnd2 (((bnd2 (some (.str "lay")) ((bnd2 (some (.str "send")) ((bnd2 (some (.str "answer")) ((bnd2 (some (.str "lay")) ((bnd2 (some (.str "answer")) (some []) consD)) consD)) consD)) consD)) consD)).bind tupD) (bnd2 (gb 2 ρ) (some (.int 7)) subD) ixD) ((bnd2 (gv 3 ρ) (some []) consD)) consD)).bind tupD)
def fb__law_book (m__law_drawn : List PyData → Option PyData) (m__law_deed : List PyData → Option PyData) (m__law_test : List PyData → Option PyData) : Rho → Option Res := fun ρ =>
  seqR (asgR 1 ρ (bnd2 (((bnd2 (((bnd2 (some (.str "main")) (some []) consD)).bind tupD) ((bnd2 (((bnd2 (some (.str "main")) ((bnd2 (some (.str "sub")) (some []) consD)) consD)).bind tupD) ((bnd2 (((bnd2 (some (.str "a")) ((bnd2 (some (.str "main")) ((bnd2 (some (.str "sub")) (some []) consD)) consD)) consD)).bind tupD) ((bnd2 (((bnd2 (some (.str "a")) ((bnd2 (some (.str "main")) (some []) consD)) consD)).bind tupD) (some []) consD)) consD)) consD)) consD)).bind tupD) (bnd2 (gb 0 ρ) (some (.int 4)) modD) ixD)) fun ρ =>
  seqR (asgR 2 ρ ((some []).bind tupD)) fun ρ =>
  seqR (forR ((gv 1 ρ).bind enumD) (tgT 2 (tgC tg1 (tgC tg1 tgN))) [3, 4] (fun ρ =>
  seqR (asgR 5 ρ (bnd2 (((bnd2 (gv 0 ρ) ((bnd2 (gv 3 ρ) (some []) consD)) consD)).bind m__law_drawn) (some (.int 4)) fdivD)) fun ρ =>
  seqR (asgR 6 ρ ((some []).bind tupD)) fun ρ =>
  seqR (forR (((bnd2 (bnd2 (((bnd2 (some (.int 0)) ((bnd2 (some (.int 1)) ((bnd2 (some (.int 2)) ((bnd2 (some (.int 3)) ((bnd2 (some (.int 4)) ((bnd2 (some (.int 2)) (some []) consD)) consD)) consD)) consD)) consD)) consD)).bind tupD) (bnd2 (gb 5 ρ) (some (.int 6)) modD) ixD) (some []) consD)).bind rng1D) tg1 [7] (fun ρ =>
  seqR (asgR 8 ρ (bnd2 (((bnd2 (gv 5 ρ) ((bnd2 (bnd2 (some (.int 10)) (gb 7 ρ) addD) (some []) consD)) consD)).bind m__law_drawn) (some (.int 4)) fdivD)) fun ρ =>
  seqR (asgR 9 ρ ((compL (((bnd2 (bnd2 (some (.int 1)) (bnd2 (gb 8 ρ) (some (.int 3)) modD) addD) (some []) consD)).bind rng1D) tg1 [10] (fun ρ => some true) (fun ρ => ((bnd2 (bnd2 (((bnd2 (gv 8 ρ) ((bnd2 (bnd2 (some (.int 20)) (gb 10 ρ) addD) (some []) consD)) consD)).bind m__law_drawn) (some (.int 4)) fdivD) ((bnd2 (gv 1 ρ) (some []) consD)) consD)).bind m__law_deed) [10] ρ).bind tupleD)) fun ρ =>
  asgR 6 ρ (bnd2 (gb 6 ρ) (((bnd2 (((bnd2 (((bnd2 (bnd2 (gb 8 ρ) (some (.int 4)) fdivD) ((bnd2 (bnd2 (some (.int 1)) (bnd2 (bnd2 (gb 8 ρ) (some (.int 8)) fdivD) (some (.int 3)) modD) addD) (some []) consD)) consD)).bind m__law_test) ((bnd2 (gv 9 ρ) (some []) consD)) consD)).bind tupD) (some []) consD)).bind tupD) addD)) ρ) fun ρ =>
  asgR 2 ρ (bnd2 (gb 2 ρ) (((bnd2 (((bnd2 (gv 4 ρ) ((bnd2 (gv 6 ρ) (some []) consD)) consD)).bind tupD) (some []) consD)).bind tupD) addD)) ρ) fun ρ =>
  retR (gv 2 ρ)
def fb__law_letter : Rho → Option Res := fun ρ =>
  seqR (asgR 1 ρ (bnd2 (((bnd2 (some (.str "ann")) ((bnd2 (some (.str "bob")) ((bnd2 (some (.str "cy")) (some []) consD)) consD)) consD)).bind tupD) (bnd2 (gb 0 ρ) (some (.int 3)) modD) ixD)) fun ρ =>
  seqR (asgR 2 ρ ((compL ((((bnd2 (some (.str "hi")) ((bnd2 (some (.str "now")) ((bnd2 (some (.str "x")) (some []) consD)) consD)) consD)).bind tupD).bind enumD) (tgT 2 (tgC tg1 (tgC tg1 tgN))) [4, 5] (fun ρ => (bnd2 (bnd2 (bnd2 (gb 0 ρ) (bnd2 (((bnd2 (some (.int 8)) ((bnd2 (some (.int 16)) ((bnd2 (some (.int 32)) (some []) consD)) consD)) consD)).bind tupD) (gb 4 ρ) ixD) fdivD) (some (.int 2)) modD) (some (.int 1)) eqD).bind asB) (fun ρ => gv 5 ρ) [4, 5] ρ).bind tupleD)) fun ρ =>
  seqR (asgR 3 ρ ((compL ((((bnd2 (some (.str "m")) ((bnd2 (some (.str "red")) ((bnd2 (some (.str "z")) (some []) consD)) consD)) consD)).bind tupD).bind enumD) (tgT 2 (tgC tg1 (tgC tg1 tgN))) [4, 6] (fun ρ => (bnd2 (bnd2 (bnd2 (gb 0 ρ) (bnd2 (((bnd2 (some (.int 64)) ((bnd2 (some (.int 128)) ((bnd2 (some (.int 256)) (some []) consD)) consD)) consD)).bind tupD) (gb 4 ρ) ixD) fdivD) (some (.int 2)) modD) (some (.int 1)) eqD).bind asB) (fun ρ => gv 6 ρ) [4, 6] ρ).bind tupleD)) fun ρ =>
  retR (((bnd2 (gv 1 ρ) ((bnd2 (gv 2 ρ) ((bnd2 (bnd2 (((bnd2 (some (.int 0)) ((bnd2 (some (.int 10)) ((bnd2 (some (.int 11)) ((bnd2 (some (.int 500)) ((bnd2 (some (.int 501)) ((bnd2 (some (.int 999)) (some []) consD)) consD)) consD)) consD)) consD)) consD)).bind tupD) (bnd2 (bnd2 (gb 0 ρ) (some (.int 512)) fdivD) (some (.int 6)) modD) ixD) ((bnd2 (gv 3 ρ) (some []) consD)) consD)) consD)) consD)).bind tupD)
end Sv
namespace Sv
open PySem L2 Evl
theorem bnd2_ss {α β γ : Type} (a : α) (b : β) (g : α → β → Option γ) : bnd2 (some a) (some b) g = g a b := rfl
theorem seqR_nx (ρ : Rho) (g : Rho → Option Res) : seqR (some (.nx ρ)) g = g ρ := rfl
theorem seqR_ret (d : PyData) (g : Rho → Option Res) : seqR (some (.ret d)) g = some (.ret d) := rfl
theorem ifR_t (a b : Option Res) : ifR (some true) a b = a := rfl
theorem ifR_f (a b : Option Res) : ifR (some false) a b = b := rfl
theorem asgR_s (i : Nat) (ρ : Rho) (d : PyData) : asgR i ρ (some d) = some (.nx (ρ.set i (.val d))) := rfl
theorem retR_s (d : PyData) : retR (some d) = some (.ret d) := rfl
theorem retD_s (d : PyData) : retD (some (.ret d)) = some d := rfl
theorem asB_b (b : Bool) : asB (.bool b) = some b := rfl
theorem asI_i (i : Int) : asI (.int i) = some i := rfl
theorem consD_ (d : PyData) (ds : List PyData) : consD d ds = some (d :: ds) := rfl
theorem addD_ii (a b : Int) : addD (.int a) (.int b) = some (.int (a + b)) := rfl
theorem subD_ii (a b : Int) : subD (.int a) (.int b) = some (.int (a - b)) := rfl
theorem modD_ii (a b : Int) (h : 0 < b) : modD (.int a) (.int b) = some (.int (a % b)) := by simp [modD, h]
theorem fdivD_ii (a b : Int) (h : CDiv a b) : fdivD (.int a) (.int b) = some (.int (a / b)) := by simp [fdivD, h]
theorem mulD_ii (a b : Int) (h : CMul a b) : mulD (.int a) (.int b) = some (.int (a * b)) := by simp [mulD, h]
theorem gtD_ii (a b : Int) : gtD (.int a) (.int b) = some (.bool (decide (b < a))) := rfl
theorem geD_ii (a b : Int) : geD (.int a) (.int b) = some (.bool (decide (b ≤ a))) := rfl
theorem leD_ii (a b : Int) : leD (.int a) (.int b) = some (.bool (decide (a ≤ b))) := rfl
theorem ltD_ii (a b : Int) : ltD (.int a) (.int b) = some (.bool (decide (a < b))) := rfl
theorem eqD_ii (a b : Int) : eqD (.int a) (.int b) = some (.bool (decide (a = b))) := rfl
theorem eqD_ss (a b : Str) : eqD (.str a) (.str b) = some (.bool (decide (a = b))) := rfl
theorem neD_ss (a b : Str) : neD (.str a) (.str b) = some (.bool (!decide (a = b))) := rfl
theorem neD_ii (a b : Int) : neD (.int a) (.int b) = some (.bool (!decide (a = b))) := rfl
theorem neD_bb (a b : Bool) : neD (.bool a) (.bool b) = some (.bool (!decide (a = b))) := rfl
theorem ixD_t (ds : List PyData) (i : Int) : ixD (.tuple ds) (.int i) = atI ds i := rfl
theorem ixD_l (ds : List PyData) (i : Int) : ixD (.list ds) (.int i) = atI ds i := rfl
def drawnD (n k : Int) : Int := (n + 104729 * k + 17) * 69621 % 2147483647
def drawnN (n k : Int) : Int := (drawnD n k * drawnD n k + 3 * drawnD n k + k) % 2147483629
def m_drawn : List PyData → Option PyData := runD 3 2 fb__law_drawn
theorem drawn_eq (n k : Int) : m_drawn [.int n, .int k] = some (.int (drawnN n k)) := by
  have d1 : 0 ≤ drawnD n k := Int.emod_nonneg _ (by decide)
  have d2 : drawnD n k < 2147483647 := Int.emod_lt_of_pos _ (by decide)
  have c1 : CMul 104729 k := .inl (by decide)
  have c2 : CMul (n + 104729 * k + 17) 69621 := .inr (by decide)
  have c3 : CMul (drawnD n k) (drawnD n k) := .inl ⟨by omega, by omega⟩
  have c4 : CMul 3 (drawnD n k) := .inl (by decide)
  have e : (n + 104729 * k + 17) * 69621 % 2147483647 = drawnD n k := rfl
  simp [m_drawn, runD, fb__law_drawn, startR, gb, bnd2_ss, mulD_ii, c1, c2, c3, c4, addD_ii, modD_ii, asgR_s, seqR_nx, retR_s, retD_s, e, drawnN]
def pk2 {α : Type} (a b : α) (n : Int) : α := if n % 2 = 0 then a else b
def pk3 {α : Type} (a b c : α) (n : Int) : α := if n % 3 = 0 then a else if n % 3 = 1 then b else c
def pk4 {α : Type} (a b c d : α) (n : Int) : α := if n % 4 = 0 then a else if n % 4 = 1 then b else if n % 4 = 2 then c else d
def pk6 {α : Type} (a b c d e f : α) (n : Int) : α := if n % 6 = 0 then a else if n % 6 = 1 then b else if n % 6 = 2 then c else if n % 6 = 3 then d else if n % 6 = 4 then e else f
theorem atI_0 {α : Type} (a : α) (r : List α) : atI (a :: r) 0 = some a := atI_nat (j := 0) rfl
theorem atI_1 {α : Type} (a b : α) (r : List α) : atI (a :: b :: r) 1 = some b := atI_nat (j := 1) rfl
theorem atI_2 {α : Type} (a b c : α) (r : List α) : atI (a :: b :: c :: r) 2 = some c := atI_nat (j := 2) rfl
theorem atI_3 {α : Type} (a b c d : α) (r : List α) : atI (a :: b :: c :: d :: r) 3 = some d := atI_nat (j := 3) rfl
theorem atI_4 {α : Type} (a b c d e : α) (r : List α) : atI (a :: b :: c :: d :: e :: r) 4 = some e := atI_nat (j := 4) rfl
theorem atI_5 {α : Type} (a b c d e f : α) (r : List α) : atI (a :: b :: c :: d :: e :: f :: r) 5 = some f := atI_nat (j := 5) rfl
theorem atI_pk2 {α : Type} (a b : α) (n : Int) : atI [a, b] (n % 2) = some (pk2 a b n) := by
  have h : n % 2 = 0 ∨ n % 2 = 1 := by omega
  unfold pk2
  rcases h with h | h <;> rw [h]
  · simp [atI_0]
  · simp [atI_1]
theorem atI_pk3 {α : Type} (a b c : α) (n : Int) : atI [a, b, c] (n % 3) = some (pk3 a b c n) := by
  have h : n % 3 = 0 ∨ n % 3 = 1 ∨ n % 3 = 2 := by omega
  unfold pk3
  rcases h with h | h | h <;> rw [h]
  · simp [atI_0]
  · simp [atI_1]
  · simp [atI_2]
theorem atI_pk4 {α : Type} (a b c d : α) (n : Int) : atI [a, b, c, d] (n % 4) = some (pk4 a b c d n) := by
  have h : n % 4 = 0 ∨ n % 4 = 1 ∨ n % 4 = 2 ∨ n % 4 = 3 := by omega
  unfold pk4
  rcases h with h | h | h | h <;> rw [h]
  · simp [atI_0]
  · simp [atI_1]
  · simp [atI_2]
  · simp [atI_3]
theorem atI_pk6 {α : Type} (a b c d e f : α) (n : Int) : atI [a, b, c, d, e, f] (n % 6) = some (pk6 a b c d e f n) := by
  have h : n % 6 = 0 ∨ n % 6 = 1 ∨ n % 6 = 2 ∨ n % 6 = 3 ∨ n % 6 = 4 ∨ n % 6 = 5 := by omega
  unfold pk6
  rcases h with h | h | h | h | h | h <;> rw [h]
  · simp [atI_0]
  · simp [atI_1]
  · simp [atI_2]
  · simp [atI_3]
  · simp [atI_4]
  · simp [atI_5]
theorem pk2_map {α β : Type} (f : α → β) (a b : α) (n : Int) : pk2 (f a) (f b) n = f (pk2 a b n) := by unfold pk2; split <;> rfl
theorem pk3_map {α β : Type} (f : α → β) (a b c : α) (n : Int) : pk3 (f a) (f b) (f c) n = f (pk3 a b c n) := by unfold pk3; split <;> (try split) <;> rfl
theorem pk4_map {α β : Type} (f : α → β) (a b c d : α) (n : Int) : pk4 (f a) (f b) (f c) (f d) n = f (pk4 a b c d n) := by unfold pk4; split <;> (try split) <;> (try split) <;> rfl
theorem pk6_map {α β : Type} (f : α → β) (a b c d e g : α) (n : Int) : pk6 (f a) (f b) (f c) (f d) (f e) (f g) n = f (pk6 a b c d e g n) := by unfold pk6; split <;> (try split) <;> (try split) <;> (try split) <;> (try split) <;> rfl
inductive Tst where
  | frm (s : Str)
  | word (s : Str)
  | over (n : Int)
  | marked (s : Str)
  | yes
  | not (t : Tst)
  | both (a b : Tst)
  | either (a b : Tst)
  deriving DecidableEq
def Tst.enc : Tst → PyData
  | .frm s => .tuple [.str "from", .str s]
  | .word s => .tuple [.str "word", .str s]
  | .over n => .tuple [.str "over", .int n]
  | .marked s => .tuple [.str "marked", .str s]
  | .yes => .tuple [.str "yes"]
  | .not t => .tuple [.str "not", t.enc]
  | .both a b => .tuple [.str "both", a.enc, b.enc]
  | .either a b => .tuple [.str "either", a.enc, b.enc]
def leafN (n : Int) : Tst :=
  if n % 8 = 0 then .frm (pk2 "ann" "bob" (n / 8)) else if n % 8 = 1 then .over (pk3 10 500 999 (n / 8)) else if n % 8 = 2 then .marked (pk2 "m" "red" (n / 8)) else if n % 8 = 3 then .yes else .word (pk2 "hi" "now" (n / 8))
def testN : Nat → Int → Tst
  | 0, n => leafN n
  | d + 1, n => if 0 < d ∧ 4 < n % 8 then
      (if n % 8 = 5 then .not (testN d (drawnN n 1 / 4)) else if n % 8 = 6 then .both (testN d (drawnN n 1 / 4)) (testN d (drawnN n 2 / 4)) else .either (testN d (drawnN n 1 / 4)) (testN d (drawnN n 2 / 4)))
    else leafN n
def m_test : Nat → List PyData → Option PyData := itm fun m => runD 5 2 (fb__law_test m m_drawn)
theorem tupD_ (ds : List PyData) (h : ds.length ≤ 1000) : tupD ds = some (.tuple ds) := by
  unfold tupD lenOk
  rw [if_pos (decide_eq_true (Nat.le_trans h (by decide)))]
theorem lstD_ (ds : List PyData) (h : ds.length ≤ 1000) : lstD ds = some (.list ds) := by
  unfold lstD lenOk
  rw [if_pos (decide_eq_true (Nat.le_trans h (by decide)))]
theorem cdiv {i j : Int} (h : 0 < j ∧ j < 1073741824) : CDiv i j := h
theorem test_leaf (m : List PyData → Option PyData) (x d : Int) (h : ¬ (1 < d ∧ 4 < x % 8)) : runD 5 2 (fb__law_test m m_drawn) [.int x, .int d] = some (leafN x).enc := by
  have c8 : CDiv x 8 := cdiv (by decide)
  have hk : x % 8 = 0 ∨ x % 8 = 1 ∨ x % 8 = 2 ∨ x % 8 = 3 ∨ 3 < x % 8 := by omega
  have hif : (decide (1 < d) && decide (4 < x % 8)) = false := by
    by_cases h1 : 1 < d
    · have : ¬ 4 < x % 8 := fun h2 => h ⟨h1, h2⟩
      simp [this]
    · simp [h1]
  have hab : andB (some (decide (1 < d))) (some (decide (4 < x % 8))) = some false := by
    cases h1 : decide (1 < d) with
    | false => rfl
    | true => rw [h1] at hif; simpa [andB] using hif
  unfold leafN
  rcases hk with h | h | h | h | h
  all_goals simp [runD, fb__law_test, startR, gb, gv, bnd2_ss, modD_ii, asgR_s, seqR_nx, gtD_ii, asB_b]
  all_goals rw [hab]
  · simp [ifR_f, ifR_t, seqR_nx, eqD_ii, asB_b, h, consD_, bnd2_ss, fdivD_ii, c8, modD_ii, tupD_, ixD_t, atI_pk2, atI_pk3, retR_s, seqR_ret, retD_s, Tst.enc, pk2_map PyData.str, pk3_map PyData.int]
  · simp [ifR_f, ifR_t, seqR_nx, eqD_ii, asB_b, h, consD_, bnd2_ss, fdivD_ii, c8, modD_ii, tupD_, ixD_t, atI_pk2, atI_pk3, retR_s, seqR_ret, retD_s, Tst.enc, pk2_map PyData.str, pk3_map PyData.int]
  · simp [ifR_f, ifR_t, seqR_nx, eqD_ii, asB_b, h, consD_, bnd2_ss, fdivD_ii, c8, modD_ii, tupD_, ixD_t, atI_pk2, atI_pk3, retR_s, seqR_ret, retD_s, Tst.enc, pk2_map PyData.str, pk3_map PyData.int]
  · simp [ifR_f, ifR_t, seqR_nx, eqD_ii, asB_b, h, consD_, bnd2_ss, fdivD_ii, c8, modD_ii, tupD_, ixD_t, atI_pk2, atI_pk3, retR_s, seqR_ret, retD_s, Tst.enc, pk2_map PyData.str, pk3_map PyData.int]
  · have n0 : ¬ x % 8 = 0 := by omega
    have n1 : ¬ x % 8 = 1 := by omega
    have n2 : ¬ x % 8 = 2 := by omega
    have n3 : ¬ x % 8 = 3 := by omega
    simp [ifR_f, ifR_t, seqR_nx, eqD_ii, asB_b, n0, n1, n2, n3, consD_, bnd2_ss, fdivD_ii, c8, modD_ii, tupD_, ixD_t, atI_pk2, atI_pk3, retR_s, seqR_ret, retD_s, Tst.enc, pk2_map PyData.str, pk3_map PyData.int]
theorem test_eq : ∀ (n d : Nat) (x : Int), d ≤ n + 1 → m_test (n + 1) [.int x, .int (d : Int)] = some (testN d x).enc
  | n, 0, x, hd => test_leaf _ x 0 (by omega)
  | n, 1, x, hd => by
    have ht : testN 1 x = leafN x := by simp [testN]
    rw [ht]
    exact test_leaf _ x 1 (by omega)
  | 0, d + 2, x, hd => by omega
  | n + 1, d + 2, x, hd => by
    by_cases h4 : 4 < x % 8
    · have i1 := test_eq n (d + 1) (drawnN x 1 / 4) (by omega)
      have i2 := test_eq n (d + 1) (drawnN x 2 / 4) (by omega)
      have c4 : ∀ y, CDiv y 4 := fun y => cdiv (by decide)
      have hd1 : ((d + 2 : Nat) : Int) - 1 = ((d + 1 : Nat) : Int) := by omega
      have hd2 : (1 : Int) < ((d + 2 : Nat) : Int) := by omega
      have hk : x % 8 = 5 ∨ x % 8 = 6 ∨ x % 8 = 7 := by omega
      show runD 5 2 (fb__law_test (m_test (n + 1)) m_drawn) [.int x, .int ((d + 2 : Nat) : Int)] = _
      unfold testN
      rw [if_pos ⟨by omega, h4⟩]
      have e1 : m_test (n + 1) [.int (drawnN x 1 / 4), .int (((d + 2 : Nat) : Int) - 1)] = some (testN (d + 1) (drawnN x 1 / 4)).enc := by rw [hd1]; exact i1
      have e2 : m_test (n + 1) [.int (drawnN x 2 / 4), .int (((d + 2 : Nat) : Int) - 1)] = some (testN (d + 1) (drawnN x 2 / 4)).enc := by rw [hd1]; exact i2
      generalize ((d + 2 : Nat) : Int) = D at *
      rcases hk with h | h | h
      all_goals simp [runD, fb__law_test, startR, gb, gv, bnd2_ss, modD_ii, asgR_s, seqR_nx, gtD_ii, subD_ii, asB_b, andB, hd2, h, ifR_t, consD_, drawn_eq, fdivD_ii, c4, e1, e2, tupD_, lstD_, ixD_l, atI_0, atI_1, atI_2, retR_s, seqR_ret, retD_s, Tst.enc]
    · have ht : testN (d + 2) x = leafN x := by
        unfold testN
        rw [if_neg fun z => h4 z.2]
      rw [ht]
      exact test_leaf _ x _ (fun z => h4 z.2)
theorem ofS_inj (a b : String) : (Str.ofString a = Str.ofString b) = (a = b) := by
  apply propext
  refine ⟨fun h => ?_, fun h => by rw [h]⟩
  rw [Str.ofString_eq_toList, Str.ofString_eq_toList] at h
  have h1 : a.toList.map Char.toNat = b.toList.map Char.toNat := by
    injection h with h
    exact List.toArray_inj h
  have h2 : a.toList = b.toList := List.map_inj_right (fun x y e => Char.toNat_inj.mp e) |>.mp h1
  exact String.toList_inj.mp h2
def nmOk (s : Str) : Bool := PyData.strOk s
theorem shp_str (s : Str) : shp (.str s) = nmOk s := by simp [shp, SeqAt.shaped, PyData.canLay0, PyData.depth, nmOk]
theorem shp_iff (d : PyData) : shp d = true ↔ d.canLay0 = true ∧ d.depth ≤ 64 := by simp [shp, SeqAt.shaped]
theorem lay_strs : ∀ (ss : List Str), ss.all nmOk = true → PyData.canLayAll0 (ss.map .str) = true
  | [], _ => by simp [PyData.canLayAll0]
  | s :: ss, h => by
    simp only [List.all_cons, Bool.and_eq_true] at h
    simp only [List.map_cons, PyData.canLayAll0, PyData.canLay0, Bool.and_eq_true]
    exact ⟨h.1, lay_strs ss h.2⟩
theorem dep_strs : ∀ (ss : List Str), PyData.depthAll (ss.map .str) = 0
  | [] => by simp [PyData.depthAll]
  | s :: ss => by simp [PyData.depthAll, PyData.depth, dep_strs ss]
theorem shp_tstrs (ss : List Str) (h : ss.all nmOk = true) : shp (.tuple (ss.map .str)) = true := by
  rw [shp_iff]
  exact ⟨by simpa [PyData.canLay0] using lay_strs ss h, by simp [PyData.depth, dep_strs]⟩
theorem shp_lstrs (ss : List Str) (h : ss.all nmOk = true) : shp (.list (ss.map .str)) = true := by
  rw [shp_iff]
  exact ⟨by simpa [PyData.canLay0] using lay_strs ss h, by simp [PyData.depth, dep_strs]⟩
theorem str_beq (a b : Str) : (a == b) = decide (a = b) := by
  by_cases h : a = b
  · subst h; simp
  · rw [decide_eq_false h]; exact beq_eq_false_iff_ne.mpr h
theorem any_str (s : Str) : ∀ ss : List Str, ((ss.map PyData.str).any fun z => PyData.eqv z (.str s)) = decide (s ∈ ss)
  | [] => by simp
  | x :: ss => by
    simp only [List.map_cons, List.any_cons, any_str s ss, PyData.eqv, str_beq, List.mem_cons]
    by_cases h : x = s
    · subst h; simp
    · have h' : ¬ s = x := fun e => h e.symm
      simp [h, h']
theorem inD_t (s : Str) (ss : List Str) (h : ss.all nmOk = true) (hs : nmOk s = true) : inD (.str s) (.tuple (ss.map .str)) = some (.bool (decide (s ∈ ss))) := by
  unfold inD inB
  simp only [itemsOf, shp_str, hs, shp_tstrs ss h, any_str, Bool.and_self, if_true, Option.map_some]
theorem inD_l (s : Str) (ss : List Str) (h : ss.all nmOk = true) (hs : nmOk s = true) : inD (.str s) (.list (ss.map .str)) = some (.bool (decide (s ∈ ss))) := by
  unfold inD inB
  simp only [itemsOf, shp_str, hs, shp_lstrs ss h, any_str, Bool.and_self, if_true, Option.map_some]
structure Ltr where
  sender : Str
  words : List Str
  size : Int
  marks : List Str
  deriving DecidableEq
def strsD (ss : List Str) : PyData := .tuple (ss.map .str)
def Ltr.enc (l : Ltr) : PyData := .tuple [.str l.sender, strsD l.words, .int l.size, strsD l.marks]
def Ltr.ok (l : Ltr) : Bool := nmOk l.sender && l.words.all nmOk && l.marks.all nmOk
def wordsN (x : Int) : List Str := (if x / 8 % 2 = 1 then [("hi" : Str)] else []) ++ ((if x / 16 % 2 = 1 then [("now" : Str)] else []) ++ (if x / 32 % 2 = 1 then [("x" : Str)] else []))
def marksN (x : Int) : List Str := (if x / 64 % 2 = 1 then [("m" : Str)] else []) ++ ((if x / 128 % 2 = 1 then [("red" : Str)] else []) ++ (if x / 256 % 2 = 1 then [("z" : Str)] else []))
def letterN (x : Int) : Ltr := ⟨pk3 "ann" "bob" "cy" x, wordsN x, pk6 0 10 11 500 501 999 (x / 512), marksN x⟩
def m_letter : List PyData → Option PyData := runD 7 1 fb__law_letter
theorem tgT2 (i j : PyData) : tgT 2 (tgC tg1 (tgC tg1 tgN)) (.tuple [i, j]) = some [i, j] := rfl
theorem lenOk_ {n : Nat} (h : n ≤ 1000) : lenOk n = true := decide_eq_true (Nat.le_trans h (by decide))
theorem seq_step {a : Option Res} {g : Rho → Option Res} {ρ : Rho} {r : Option Res} (h : a = some (.nx ρ)) (h2 : g ρ = r) : seqR a g = r := by rw [h]; exact h2
theorem run_step {n k : Nat} {fb : Rho → Option Res} {ds : List PyData} {d : PyData} (hl : ds.length = k) (h : fb (startR n ds) = some (.ret d)) : runD n k fb ds = some d := by unfold runD; rw [if_pos hl, h]; rfl
theorem letter_eq (x : Int) : m_letter [.int x] = some (letterN x).enc := by
  have c : ∀ k : Int, 0 < k → k < 1073741824 → CDiv x k := fun k h1 h2 => cdiv ⟨h1, h2⟩
  have h8 : x / 8 % 2 = 0 ∨ x / 8 % 2 = 1 := by omega
  have h16 : x / 16 % 2 = 0 ∨ x / 16 % 2 = 1 := by omega
  have h32 : x / 32 % 2 = 0 ∨ x / 32 % 2 = 1 := by omega
  have h64 : x / 64 % 2 = 0 ∨ x / 64 % 2 = 1 := by omega
  have h128 : x / 128 % 2 = 0 ∨ x / 128 % 2 = 1 := by omega
  have h256 : x / 256 % 2 = 0 ∨ x / 256 % 2 = 1 := by omega
  refine run_step rfl ?_
  refine seq_step (ρ := [.val (.int x), .val (.str (pk3 "ann" "bob" "cy" x)), .no, .no, .no, .no, .no]) ?_ ?_
  · simp [startR, bnd2_ss, consD_, tupD_, gb, modD_ii, ixD_t, atI_pk3, asgR_s, pk3_map PyData.str]
  refine seq_step (ρ := [.val (.int x), .val (.str (pk3 "ann" "bob" "cy" x)), .val (strsD (wordsN x)), .no, .no, .no, .no]) ?_ ?_
  · unfold wordsN strsD
    rcases h8 with a | a <;> rcases h16 with b | b <;> rcases h32 with d | d <;>
    simp [compL, compD, bnd2_ss, consD_, tupD_, enumD, itemsOf, enumFrom, lenOk_, tgT2, wipeR, setsR, gb, gv, ixD_t, atI_0, atI_1, atI_2, fdivD_ii, c, modD_ii, eqD_ii, asB_b, a, b, d, tupleD, asgR_s]
  refine seq_step (ρ := [.val (.int x), .val (.str (pk3 "ann" "bob" "cy" x)), .val (strsD (wordsN x)), .val (strsD (marksN x)), .no, .no, .no]) ?_ ?_
  · unfold marksN strsD
    rcases h64 with a | a <;> rcases h128 with b | b <;> rcases h256 with d | d <;>
    simp [compL, compD, bnd2_ss, consD_, tupD_, enumD, itemsOf, enumFrom, lenOk_, tgT2, wipeR, setsR, gb, gv, ixD_t, atI_0, atI_1, atI_2, fdivD_ii, c, modD_ii, eqD_ii, asB_b, a, b, d, tupleD, asgR_s]
  simp [gv, gb, bnd2_ss, consD_, tupD_, fdivD_ii, c, modD_ii, ixD_t, atI_pk6, retR_s, letterN, Ltr.enc, pk6_map PyData.int]
def Tst.dep : Tst → Nat
  | .not t => t.dep + 1
  | .both a b => max a.dep b.dep + 1
  | .either a b => max a.dep b.dep + 1
  | _ => 0
def Tst.ok : Tst → Bool
  | .frm s => nmOk s
  | .word s => nmOk s
  | .marked s => nmOk s
  | .over _ => true
  | .yes => true
  | .not t => t.ok
  | .both a b => a.ok && b.ok
  | .either a b => a.ok && b.ok
theorem pk2_all {α : Type} {p : α → Bool} {a b : α} (ha : p a = true) (hb : p b = true) (n : Int) : p (pk2 a b n) = true := by unfold pk2; split <;> assumption
theorem leaf_ok (x : Int) : (leafN x).ok = true := by
  unfold leafN
  split
  · exact pk2_all (p := nmOk) (by decide +kernel) (by decide +kernel) _
  · split
    · rfl
    · split
      · exact pk2_all (p := nmOk) (by decide +kernel) (by decide +kernel) _
      · split
        · rfl
        · exact pk2_all (p := nmOk) (by decide +kernel) (by decide +kernel) _
theorem leaf_dep (x : Int) : (leafN x).dep = 0 := by
  unfold leafN
  split
  · rfl
  · split
    · rfl
    · split
      · rfl
      · split <;> rfl
theorem test_ok : ∀ (d : Nat) (x : Int), (testN d x).ok = true
  | 0, x => leaf_ok x
  | d + 1, x => by
    unfold testN
    split
    · split
      · exact test_ok d _
      · split
        · simp only [Tst.ok, test_ok d, Bool.and_self]
        · simp only [Tst.ok, test_ok d, Bool.and_self]
    · exact leaf_ok x
theorem test_dep : ∀ (d : Nat) (x : Int), (testN d x).dep ≤ d - 1
  | 0, x => by simp [testN, leaf_dep]
  | d + 1, x => by
    unfold testN
    split
    · rename_i h
      have h1 := test_dep d (drawnN x 1 / 4)
      have h2 := test_dep d (drawnN x 2 / 4)
      split
      · simp only [Tst.dep]; omega
      · split
        · simp only [Tst.dep]; omega
        · simp only [Tst.dep]; omega
    · simp [leaf_dep]
end Sv
namespace Sv
open PySem L2 Evl
def obR (x0 x1 x2 x3 x4 x5 x6 x7 x8 : OD) : OD := .nd (.ob "Run" ["book", "letter", "marks", "lists", "is_dropped", "is_over", "within", "went", "begun"]) [x0, x1, x2, x3, x4, x5, x6, x7, x8]
end Sv
namespace Sv
open PySem L2 Evl
inductive Deed where
  | call (n : Str)
  | drop
  | stop
  | lay (n : Str)
  | send (n : Str)
  | ans (n : Str)
  | mark (n : Str)
  | unmark (n : Str)
  deriving DecidableEq
def Deed.enc : Deed → PyData
  | .call n => .tuple [.str "call", .str n]
  | .drop => .tuple [.str "drop"]
  | .stop => .tuple [.str "stop"]
  | .lay n => .tuple [.str "lay", .str n]
  | .send n => .tuple [.str "send", .str n]
  | .ans n => .tuple [.str "answer", .str n]
  | .mark n => .tuple [.str "mark", .str n]
  | .unmark n => .tuple [.str "unmark", .str n]
def Deed.nm : Deed → List Str
  | .call n => [n]
  | .drop => []
  | .stop => []
  | .lay n => [n]
  | .send n => [n]
  | .ans n => [n]
  | .mark n => [n]
  | .unmark n => [n]
abbrev Rul := Tst × List Deed
def Rul.enc (r : Rul) : PyData := .tuple [r.1.enc, .tuple (r.2.map Deed.enc)]
def rulesD (rs : List Rul) : PyData := .tuple (rs.map Rul.enc)
abbrev Book := List (Str × List Rul)
def Book.enc (b : Book) : PyData := .tuple (b.map fun p => .tuple [.str p.1, rulesD p.2])
def Book.dct (b : Book) : PyData := .dict (b.map fun p => (.str p.1, rulesD p.2))
def Book.names (b : Book) : List Str := b.map (·.1)
def Book.get (b : Book) (n : Str) : List Rul := ((b.find? fun p => decide (p.1 = n)).map (·.2)).getD []
structure RSt where
  marks : List Str
  lay : List Str
  send : List Str
  ans : List Str
  drop : Bool
  over : Bool
  within : List Str
  went : List Str
  begun : List (Str × Nat)
def strL (ss : List Str) : OD := lO (ss.map .str)
def listsO (a b c : List Str) : OD := .nd (.dk [.inr "lay", .inr "send", .inr "answer"]) [strL a, strL b, strL c]
def wentO (ks : List Str) : OD := .nd (.dk (ks.map .inr)) (ks.map fun _ => .dat (.bool true))
def begunO (ks : List (Str × Nat)) : OD := .nd (.dt (ks.map fun p => [.inr p.1, .inl (p.2 : Int)])) (ks.map fun _ => .dat (.bool true))
def RSt.ob (b : Book) (l : Ltr) (s : RSt) : OD := obR (.dat b.dct) (.dat l.enc) (.dat (.list (s.marks.map .str))) (listsO s.lay s.send s.ans) (.dat (.bool s.drop)) (.dat (.bool s.over)) (strL s.within) (wentO s.went) (begunO s.begun)
def putL {α : Type} [DecidableEq α] (x : α) (xs : List α) : List α := if x ∈ xs then xs else xs ++ [x]
theorem len_sub : ∀ {α : Type} [DecidableEq α] (xs L : List α), xs.Nodup → (∀ x ∈ xs, x ∈ L) → xs.length ≤ L.length
  | _, _, [], L, _, _ => Nat.zero_le _
  | _, _, x :: r, L, hn, hs => by
    have hx := hs x List.mem_cons_self
    have hn' := List.nodup_cons.mp hn
    have ih := len_sub r (L.erase x) hn'.2 fun y hy => (List.mem_erase_of_ne (show y ≠ x from fun z => hn'.1 (z ▸ hy))).mpr (hs y (List.mem_cons_of_mem _ hy))
    rw [List.length_erase_of_mem hx] at ih
    have : 0 < L.length := List.length_pos_of_mem hx
    simp only [List.length_cons]
    omega
/-- some of few -/
def Few {α : Type} (U xs : List α) : Prop := xs.Nodup ∧ ∀ x ∈ xs, x ∈ U
theorem Few.len {α : Type} [DecidableEq α] {U xs : List α} (h : Few U xs) : xs.length ≤ U.length := len_sub xs U h.1 h.2
theorem Few.nil {α : Type} {U : List α} : Few U [] := ⟨List.nodup_nil, fun x h => nomatch h⟩
theorem Few.snoc {α : Type} {U xs : List α} {x : α} (h : Few U xs) (hx : x ∈ U) (hn : x ∉ xs) : Few U (xs ++ [x]) := by
  refine ⟨List.nodup_append.mpr ⟨h.1, by simp, fun a ha b hb z => ?_⟩, fun y hy => ?_⟩
  · rw [List.mem_singleton.mp hb] at z
    exact hn (z ▸ ha)
  · rcases List.mem_append.mp hy with hy | hy
    · exact h.2 y hy
    · rw [List.mem_singleton.mp hy]; exact hx
theorem Few.put {α : Type} [DecidableEq α] {U xs : List α} {x : α} (h : Few U xs) (hx : x ∈ U) : Few U (putL x xs) := by
  unfold putL
  split
  · exact h
  · rename_i hn; exact h.snoc hx hn
theorem Few.filter {α : Type} {U xs : List α} (p : α → Bool) (h : Few U xs) : Few U (xs.filter p) := ⟨h.1.filter p, fun x hx => h.2 x (List.mem_filter.mp hx).1⟩
/-- all that may come up -/
structure Uni where
  us : List Str
  ps : List (Str × Nat)
structure Uni.Ok (U : Uni) : Prop where
  len : U.us.length ≤ 1000
  lenp : U.ps.length ≤ 1000
  nm : U.us.all nmOk = true
structure RSt.Inv (U : Uni) (s : RSt) : Prop where
  marks : Few U.us s.marks
  lay : Few U.us s.lay
  send : Few U.us s.send
  ans : Few U.us s.ans
  within : Few U.us s.within
  went : Few U.us s.went
  begun : Few U.ps s.begun
theorem if_no {c : Option Bool} {a b r : Option Res} (hc : c = some false) (h : b = r) : ifR c a b = r := by rw [hc]; exact h
theorem if_yes {c : Option Bool} {a b r : Option Res} (hc : c = some true) (h : a = r) : ifR c a b = r := by rw [hc]; exact h
section
variable {b : Book} {l : Ltr} {s s' : RSt} {m : OD → List PyData → Option (PyData × OD)} {n : Str} {U : Uni}
theorem notIn_l (x : Str) (ss : List Str) (h : ss.all nmOk = true) (hs : nmOk x = true) : notInD (.str x) (.list (ss.map .str)) = some (.bool (!decide (x ∈ ss))) := by
  have := inD_l x ss h hs
  unfold inD at this
  obtain ⟨c, hc, e⟩ := Option.map_eq_some_iff.mp this
  cases e
  unfold notInD
  rw [hc]; rfl
end
/-- a deed is of the book -/
def Deed.Of (U : Uni) (b : Book) (d : Deed) : Prop := (∀ n ∈ d.nm, n ∈ U.us) ∧ ∀ n, d = .call n → n ∈ b.names
theorem Deed.Of.ok {U : Uni} {b : Book} {d : Deed} (hU : U.Ok) (h : d.Of U b) : d.nm.all nmOk = true := List.all_eq_true.mpr fun x hx => List.all_eq_true.mp hU.nm x (h.1 x hx)
section
variable {b : Book} {l : Ltr} {s : RSt} {m : OD → List PyData → Option (PyData × OD)} {U : Uni} {W : List Str} {wk : Str → RSt → RSt}
/-- the rules of a name -/
structure Rul.Of (U : Uni) (b : Book) (N : Nat) (r : Rul) : Prop where
  dep : r.1.dep ≤ N
  ok : r.1.ok = true
  deeds : ∀ d ∈ r.2, d.Of U b
  few : r.2.length ≤ 1000
end
structure Book.Of (U : Uni) (N : Nat) (b : Book) : Prop where
  nd : b.names.Nodup
  us : ∀ n ∈ b.names, n ∈ U.us
  rl : ∀ p ∈ b, ∀ r ∈ p.2, r.Of U b N
  ps : ∀ p ∈ b, ∀ j, j < p.2.length → (p.1, j) ∈ U.ps
  fw : ∀ p ∈ b, p.2.length ≤ 1000
  few : b.length ≤ 1000
def free (b : Book) (W : List Str) : Nat := (b.names.filter fun n => decide (n ∉ W)).length
end Sv
namespace Sv
open PySem L2 Evl
def strsL (ss : List Str) : PyData := .list (ss.map .str)
open PySem.W (dataLe alike)
def leS (a b : Str) : Bool := dataLe false id (.str a) (.str b)
def sortS (ss : List Str) : List Str := ss.mergeSort leS
theorem srt_str (ss : List Str) : srt (ss.map .str) = (sortS ss).map .str := (List.map_mergeSort (r := leS) (s := dataLe false id) (f := PyData.str) fun a _ b _ => rfl).symm
theorem sok_str {ss : List Str} (h : ss.length ≤ 1000) : sortOkB (ss.map .str) = true := by
  unfold sortOkB
  simp only [Bool.and_eq_true, Bool.or_eq_true, List.all_map, List.length_map]
  refine ⟨⟨⟨List.all_eq_true.mpr fun d _ => List.all_eq_true.mpr fun e _ => by simp [alike], .inr (List.all_eq_true.mpr fun d _ => rfl)⟩, lenOk_ h⟩, List.all_eq_true.mpr fun d _ => by simp [PyData.depth]⟩
structure Out where
  lay : List Str
  send : List Str
  ans : List Str
  marks : List Str
  deriving DecidableEq
def Out.enc (o : Out) : PyData := .tuple [strsD o.lay, strsD o.send, strsD o.ans, strsD o.marks]
end Sv
namespace Sv
open PySem L2 Evl
def nameN (x : Int) : Str := pk4 "a" "in" "old" "x" (x / 16)
def deedN (x : Int) (ns : List Str) : Deed :=
  if x % 12 = 0 then .stop else if x % 12 = 1 then .drop else if x % 12 < 5 then .call (ns.getD (x / 16 % ns.length).toNat "main")
  else if x % 12 < 7 then (if x / 64 % 2 = 0 then .mark (pk2 "m" "red" (x / 16)) else .unmark (pk2 "m" "red" (x / 16)))
  else if x % 12 = 7 then .lay (nameN x) else if x % 12 = 8 then .send (nameN x) else if x % 12 = 9 then .ans (nameN x) else if x % 12 = 10 then .lay (nameN x) else .ans (nameN x)
def m_deed : List PyData → Option PyData := runD 4 2 fb__law_deed
theorem atI_mod {α : Type} (xs : List α) (d : α) (hx : 0 < xs.length) (n : Int) : atI xs (n % (xs.length : Int)) = some (xs.getD (n % (xs.length : Int)).toNat d) := by
  have h1 : 0 ≤ n % (xs.length : Int) := Int.emod_nonneg _ (by omega)
  have h2 : n % (xs.length : Int) < xs.length := Int.emod_lt_of_pos _ (by omega)
  have h3 : (n % (xs.length : Int)).toNat < xs.length := by omega
  have := atI_nat (xs := xs) (j := (n % (xs.length : Int)).toNat) (v := xs.getD (n % (xs.length : Int)).toNat d) (by rw [List.getD_eq_getElem?_getD, List.getElem?_eq_getElem h3]; rfl)
  rwa [Int.toNat_of_nonneg h1] at this
theorem deed_eq (x : Int) (ns : List Str) (h0 : 0 < ns.length) (h1 : ns.length ≤ 1000) : m_deed [.int x, strsD ns] = some (deedN x ns).enc := by
  have f16 := fdivD_ii x 16 (cdiv (by decide))
  have f64 := fdivD_ii x 64 (cdiv (by decide))
  refine run_step rfl ?_
  unfold fb__law_deed
  refine seq_step (ρ := [.val (.int x), .val (strsD ns), .val (.int (x % 12)), .no]) (by simp [startR, gb, bnd2_ss, modD_ii, asgR_s]) ?_
  refine seq_step (ρ := [.val (.int x), .val (strsD ns), .val (.int (x % 12)), .val (.str (nameN x))]) (by simp [gb, bnd2_ss, modD_ii, asgR_s, consD_, tupD_, f16, f64, ixD_t, atI_pk4, pk4_map, nameN]) ?_
  have h12 : 0 ≤ x % 12 := Int.emod_nonneg _ (by decide)
  have h12' : x % 12 < 12 := Int.emod_lt_of_pos _ (by decide)
  unfold deedN
  by_cases c0 : x % 12 = 0
  · simp [gb, bnd2_ss, eqD_ii, asB_b, c0, ifR_t, consD_, tupD_, retR_s, seqR_ret, Deed.enc]
  by_cases c1 : x % 12 = 1
  · simp [gb, bnd2_ss, eqD_ii, asB_b, c1, ifR_t, ifR_f, consD_, tupD_, retR_s, seqR_ret, seqR_nx, Deed.enc]
  by_cases c2 : x % 12 < 5
  · have hl : lenD (strsD ns) = some (.int (ns.length : Int)) := by simp [lenD, strsD]
    have hi : ixD (strsD ns) (.int (x / 16 % (ns.length : Int))) = some (.str (ns.getD (x / 16 % ns.length).toNat "main")) := by
      show atI (ns.map PyData.str) _ = _
      have := atI_mod (ns.map PyData.str) (.str "main") (by simpa using h0) (x / 16)
      simp only [List.length_map] at this
      rw [this]
      congr 1
      simp [List.getD_eq_getElem?_getD, List.getElem?_map]
    simp [gb, bnd2_ss, eqD_ii, ltD_ii, asB_b, c0, c1, c2, ifR_t, ifR_f, hl, modD_ii, h0, f16, f64, hi, consD_, tupD_, retR_s, seqR_ret, seqR_nx, Deed.enc]
  by_cases c3 : x % 12 < 7
  · by_cases c4 : x / 64 % 2 = 0
    · simp [gb, bnd2_ss, eqD_ii, ltD_ii, asB_b, c0, c1, c2, c3, ifR_t, ifR_f, modD_ii, f16, f64, ixD_t, atI_pk2, atI_0, pk2_map, consD_, tupD_, retR_s, seqR_ret, seqR_nx, Deed.enc, c4]
    · simp [gb, bnd2_ss, eqD_ii, ltD_ii, asB_b, c0, c1, c2, c3, ifR_t, ifR_f, modD_ii, f16, f64, ixD_t, atI_pk2, pk2_map, consD_, tupD_, retR_s, seqR_ret, seqR_nx, Deed.enc, c4]
      simp [pk2, c4]
  have hk : x % 12 = 7 ∨ x % 12 = 8 ∨ x % 12 = 9 ∨ x % 12 = 10 ∨ x % 12 = 11 := by omega
  rcases hk with hk | hk | hk | hk | hk <;>
    simp [gb, gv, bnd2_ss, eqD_ii, ltD_ii, subD_ii, asB_b, hk, ifR_t, ifR_f, ixD_t, atI_0, atI_1, atI_2, atI_3, atI_4, consD_, tupD_, retR_s, seqR_ret, seqR_nx, Deed.enc]
def ruleN (ns : List Str) (dr : Int) (j : Nat) : Rul :=
  (testN (1 + drawnN dr (10 + j) / 4 / 8 % 3).toNat (drawnN dr (10 + j) / 4 / 4), (List.range (1 + drawnN dr (10 + j) / 4 % 3).toNat).map fun (i : Nat) => deedN (drawnN (drawnN dr (10 + j) / 4) (20 + (i : Int)) / 4) ns)
def manyN (dr : Int) : Nat := pk6 0 1 2 3 4 2 dr
def rulesN (ns : List Str) (dr : Int) : List Rul := (List.range (manyN dr)).map (ruleN ns dr)
def bookFrom (x : Int) (ns : List Str) : Nat → List Str → Book
  | _, [] => []
  | k, n :: r => (n, rulesN ns (drawnN x k / 4)) :: bookFrom x ns (k + 1) r
def namesN (x : Int) : List Str := pk4 ["main"] ["main", "sub"] ["a", "main", "sub"] ["a", "main"] x
def bookN (x : Int) : Book := bookFrom x (namesN x) 0 (namesN x)
def m_book (n : Nat) : List PyData → Option PyData := runD 11 1 (fb__law_book m_drawn m_deed (m_test n))
theorem cdiv4 (x : Int) : fdivD (.int x) (.int 4) = some (.int (x / 4)) := fdivD_ii x 4 (cdiv (by decide))
theorem cdiv8 (x : Int) : fdivD (.int x) (.int 8) = some (.int (x / 8)) := fdivD_ii x 8 (cdiv (by decide))
/-- the deeds of a rule -/
theorem comp_deeds (ns : List Str) (h0 : 0 < ns.length) (h1 : ns.length ≤ 1000) (one : Int) (r : List Sl) (ρ : Rho) (hρ : ∀ i : Int, gv 8 (setsR ρ [10] [.int i]) = some (.int one) ∧ gb 10 (setsR ρ [10] [.int i]) = some (.int i) ∧ gv 1 (setsR ρ [10] [.int i]) = some (strsD ns)) : ∀ (k n : Nat),
    compD tg1 [10] (fun ρ => some true) (fun ρ => ((bnd2 (bnd2 (((bnd2 (gv 8 ρ) ((bnd2 (bnd2 (some (.int 20)) (gb 10 ρ) addD) (some []) consD)) consD)).bind m_drawn) (some (.int 4)) fdivD) ((bnd2 (gv 1 ρ) (some []) consD)) consD)).bind m_deed) ρ ((List.range' k n).map fun (i : Nat) => PyData.int (i : Int))
      = some ((List.range' k n).map fun (i : Nat) => (deedN (drawnN one (20 + (i : Int)) / 4) ns).enc)
  | k, 0 => rfl
  | k, n + 1 => by
    have ih := comp_deeds ns h0 h1 one r ρ hρ (k + 1) n
    obtain ⟨e1, e2, e3⟩ := hρ (k : Int)
    rw [List.range'_succ, List.map_cons, List.map_cons]
    simp only [compD, tg1]
    rw [e1, e2, e3]
    simp only [bnd2_ss, addD_ii, consD_, Option.bind_some, drawn_eq, cdiv4]
    rw [deed_eq _ ns h0 h1]
    dsimp only
    rw [ih]
theorem rngD_0 (n : Int) : rngD 0 n = (List.range' 0 n.toNat).map fun (i : Nat) => PyData.int (i : Int) := by
  unfold rngD
  rw [List.range_eq_range', Int.sub_zero]
  apply List.map_congr_left
  intro i _
  simp
theorem rng1 (n : Int) (h : 0 ≤ n ∧ n ≤ 1000) : rng1D [.int n] = some ((List.range' 0 n.toNat).map fun (i : Nat) => PyData.int (i : Int)) := by
  show (if rngOk n = true then some (rngD 0 n) else none) = _
  rw [if_pos (show rngOk n = true from decide_eq_true (by omega)), rngD_0]
def bodyB (mt : List PyData → Option PyData) : Rho → Option Res := fun ρ =>
  seqR (asgR 8 ρ (bnd2 (((bnd2 (gv 5 ρ) ((bnd2 (bnd2 (some (.int 10)) (gb 7 ρ) addD) (some []) consD)) consD)).bind m_drawn) (some (.int 4)) fdivD)) fun ρ =>
  seqR (asgR 9 ρ ((compL (((bnd2 (bnd2 (some (.int 1)) (bnd2 (gb 8 ρ) (some (.int 3)) modD) addD) (some []) consD)).bind rng1D) tg1 [10] (fun ρ => some true) (fun ρ => ((bnd2 (bnd2 (((bnd2 (gv 8 ρ) ((bnd2 (bnd2 (some (.int 20)) (gb 10 ρ) addD) (some []) consD)) consD)).bind m_drawn) (some (.int 4)) fdivD) ((bnd2 (gv 1 ρ) (some []) consD)) consD)).bind m_deed) [10] ρ).bind tupleD)) fun ρ =>
  asgR 6 ρ (bnd2 (gb 6 ρ) (((bnd2 (((bnd2 (((bnd2 (bnd2 (gb 8 ρ) (some (.int 4)) fdivD) ((bnd2 (bnd2 (some (.int 1)) (bnd2 (bnd2 (gb 8 ρ) (some (.int 8)) fdivD) (some (.int 3)) modD) addD) (some []) consD)) consD)).bind mt) ((bnd2 (gv 9 ρ) (some []) consD)) consD)).bind tupD) (some []) consD)).bind tupD) addD)
theorem addT {xs ys : List PyData} (h : xs.length + ys.length ≤ 2000) : addD (.tuple xs) (.tuple ys) = some (.tuple (xs ++ ys)) := by
  unfold addD
  dsimp only
  rw [if_pos (show lenOk _ = true from decide_eq_true (Nat.le_trans h (by decide)))]
theorem rule_step (ns : List Str) (h0 : 0 < ns.length) (h1 : ns.length ≤ 1000) (x0 x2 x3 x4 x8 x9 x10 : Sl) (dr : Int) (k : Nat) (rs : List Rul) (hl : rs.length ≤ 1000) :
    bodyB (m_test 3) [x0, .val (strsD ns), x2, x3, x4, .val (.int dr), .val (rulesD rs), .val (.int (k : Int)), x8, x9, x10] =
      some (.nx [x0, .val (strsD ns), x2, x3, x4, .val (.int dr), .val (rulesD (rs ++ [ruleN ns dr k])), .val (.int (k : Int)), .val (.int (drawnN dr (10 + k) / 4)), .val (.tuple ((ruleN ns dr k).2.map Deed.enc)), x10]) := by
  unfold bodyB
  refine seq_step (ρ := [x0, .val (strsD ns), x2, x3, x4, .val (.int dr), .val (rulesD rs), .val (.int (k : Int)), .val (.int (drawnN dr (10 + k) / 4)), x9, x10]) ?_ ?_
  · simp [gv, gb, bnd2_ss, addD_ii, consD_, drawn_eq, cdiv4, asgR_s]
  have hm1 : 0 ≤ drawnN dr (10 + k) / 4 % 3 := Int.emod_nonneg _ (by decide)
  have hm2 : drawnN dr (10 + k) / 4 % 3 < 3 := Int.emod_lt_of_pos _ (by decide)
  refine seq_step (ρ := [x0, .val (strsD ns), x2, x3, x4, .val (.int dr), .val (rulesD rs), .val (.int (k : Int)), .val (.int (drawnN dr (10 + k) / 4)), .val (.tuple ((ruleN ns dr k).2.map Deed.enc)), x10]) ?_ ?_
  · rw [show bnd2 (bnd2 (some (.int 1)) (bnd2 (gb 8 [x0, .val (strsD ns), x2, x3, x4, .val (.int dr), .val (rulesD rs), .val (.int (k : Int)), .val (.int (drawnN dr (10 + k) / 4)), x9, x10]) (some (.int 3)) modD) addD) (some []) consD = some [.int (1 + drawnN dr (10 + k) / 4 % 3)] from by simp [gb, bnd2_ss, modD_ii, addD_ii, consD_]]
    rw [Option.bind_some, rng1 _ (by omega)]
    unfold compL
    rw [Option.bind_some, if_pos (lenOk_ (by simp; omega)), comp_deeds ns h0 h1 (drawnN dr (10 + k) / 4) [] _ (fun i => ⟨rfl, rfl, rfl⟩) 0 _]
    show asgR 9 _ (some (PyData.tuple _)) = _
    rw [asgR_s]
    unfold ruleN
    rw [List.map_map, List.range_eq_range']
    rfl
  · have hd1 : 0 ≤ drawnN dr (10 + k) / 4 / 8 % 3 := Int.emod_nonneg _ (by decide)
    have hd2 : drawnN dr (10 + k) / 4 / 8 % 3 < 3 := Int.emod_lt_of_pos _ (by decide)
    have ht := test_eq 2 (1 + drawnN dr (10 + k) / 4 / 8 % 3).toNat (drawnN dr (10 + k) / 4 / 4) (by omega)
    rw [show (((1 + drawnN dr (10 + k) / 4 / 8 % 3).toNat : Nat) : Int) = 1 + drawnN dr (10 + k) / 4 / 8 % 3 from by omega] at ht
    simp only [gb, gv, bnd2_ss, List.getElem?_cons_succ, List.getElem?_cons_zero, cdiv4, cdiv8, modD_ii _ 3 (by decide), addD_ii, consD_, Option.bind_some]
    rw [ht]
    simp only [bnd2_ss, consD_, Option.bind_some, tupD_ _ (show [_, _].length ≤ 1000 by simp), tupD_ _ (show [_].length ≤ 1000 by simp)]
    unfold rulesD
    rw [addT (by simp; omega), asgR_s]
    simp [ruleN, Rul.enc]
theorem rules_loop (ns : List Str) (h0 : 0 < ns.length) (h1 : ns.length ≤ 1000) (x0 x2 x3 x4 : Sl) (dr : Int) : ∀ (n k : Nat) (rs : List Rul) (x7 x8 x9 x10 : Sl), rs.length + n ≤ 1000 → ∃ x7' x8' x9' x10',
    forD tg1 [7] (bodyB (m_test 3)) ((List.range' k n).map fun (i : Nat) => PyData.int (i : Int)) [x0, .val (strsD ns), x2, x3, x4, .val (.int dr), .val (rulesD rs), x7, x8, x9, x10] =
      some (.nx [x0, .val (strsD ns), x2, x3, x4, .val (.int dr), .val (rulesD (rs ++ (List.range' k n).map (ruleN ns dr))), x7', x8', x9', x10'])
  | 0, k, rs, x7, x8, x9, x10, _ => ⟨x7, x8, x9, x10, by simp [forD]⟩
  | n + 1, k, rs, x7, x8, x9, x10, hl => by
    obtain ⟨a, b, c, d, h⟩ := rules_loop ns h0 h1 x0 x2 x3 x4 dr n (k + 1) (rs ++ [ruleN ns dr k]) (.val (.int (k : Int))) (.val (.int (drawnN dr (10 + k) / 4))) (.val (.tuple ((ruleN ns dr k).2.map Deed.enc))) x10 (by simp; omega)
    refine ⟨a, b, c, d, ?_⟩
    rw [List.range'_succ, List.map_cons, List.map_cons]
    simp only [forD, tg1]
    rw [show setsR [x0, .val (strsD ns), x2, x3, x4, .val (.int dr), .val (rulesD rs), x7, x8, x9, x10] [7] [.int (k : Int)] = [x0, .val (strsD ns), x2, x3, x4, .val (.int dr), .val (rulesD rs), .val (.int (k : Int)), x8, x9, x10] from rfl, rule_step ns h0 h1 x0 x2 x3 x4 x8 x9 x10 dr k rs (by omega)]
    dsimp only
    rw [h]
    simp
theorem many_le (dr : Int) : manyN dr ≤ 4 := by unfold manyN pk6; split <;> (try split) <;> (try split) <;> (try split) <;> (try split) <;> omega
def bodyK (mt : List PyData → Option PyData) : Rho → Option Res := fun ρ =>
  seqR (asgR 5 ρ (bnd2 (((bnd2 (gv 0 ρ) ((bnd2 (gv 3 ρ) (some []) consD)) consD)).bind m_drawn) (some (.int 4)) fdivD)) fun ρ =>
  seqR (asgR 6 ρ ((some []).bind tupD)) fun ρ =>
  seqR (forR (((bnd2 (bnd2 (((bnd2 (some (.int 0)) ((bnd2 (some (.int 1)) ((bnd2 (some (.int 2)) ((bnd2 (some (.int 3)) ((bnd2 (some (.int 4)) ((bnd2 (some (.int 2)) (some []) consD)) consD)) consD)) consD)) consD)) consD)).bind tupD) (bnd2 (gb 5 ρ) (some (.int 6)) modD) ixD) (some []) consD)).bind rng1D) tg1 [7] (bodyB mt) ρ) fun ρ =>
  asgR 2 ρ (bnd2 (gb 2 ρ) (((bnd2 (((bnd2 (gv 4 ρ) ((bnd2 (gv 6 ρ) (some []) consD)) consD)).bind tupD) (some []) consD)).bind tupD) addD)
theorem pk6_int (dr : Int) : pk6 (PyData.int 0) (.int 1) (.int 2) (.int 3) (.int 4) (.int 2) dr = .int (manyN dr : Int) := by
  unfold manyN pk6
  split <;> (try split) <;> (try split) <;> (try split) <;> (try split) <;> rfl
theorem name_step (x : Int) (ns : List Str) (h0 : 0 < ns.length) (h1 : ns.length ≤ 1000) (b : Book) (hb : b.length ≤ 1000) (k : Nat) (n : Str) (x5 x6 x7 x8 x9 x10 : Sl) : ∃ x5' x6' x7' x8' x9' x10',
    bodyK (m_test 3) [.val (.int x), .val (strsD ns), .val b.enc, .val (.int (k : Int)), .val (.str n), x5, x6, x7, x8, x9, x10] = some (.nx [.val (.int x), .val (strsD ns), .val (Book.enc (b ++ [(n, rulesN ns (drawnN x k / 4))])), .val (.int (k : Int)), .val (.str n), x5', x6', x7', x8', x9', x10']) := by
  obtain ⟨a7, a8, a9, a10, h⟩ := rules_loop ns h0 h1 (.val (.int x)) (.val b.enc) (.val (.int (k : Int))) (.val (.str n)) (drawnN x k / 4) (manyN (drawnN x k / 4)) 0 [] x7 x8 x9 x10 (by have := many_le (drawnN x k / 4); simp; omega)
  refine ⟨.val (.int (drawnN x k / 4)), .val (rulesD (rulesN ns (drawnN x k / 4))), a7, a8, a9, a10, ?_⟩
  unfold bodyK
  refine seq_step (ρ := [.val (.int x), .val (strsD ns), .val b.enc, .val (.int (k : Int)), .val (.str n), .val (.int (drawnN x k / 4)), x6, x7, x8, x9, x10]) (by simp [gv, bnd2_ss, consD_, drawn_eq, cdiv4, asgR_s]) ?_
  refine seq_step (ρ := [.val (.int x), .val (strsD ns), .val b.enc, .val (.int (k : Int)), .val (.str n), .val (.int (drawnN x k / 4)), .val (rulesD []), x7, x8, x9, x10]) rfl ?_
  refine seq_step (ρ := [.val (.int x), .val (strsD ns), .val b.enc, .val (.int (k : Int)), .val (.str n), .val (.int (drawnN x k / 4)), .val (rulesD (rulesN ns (drawnN x k / 4))), a7, a8, a9, a10]) ?_ ?_
  · rw [show bnd2 (bnd2 (((bnd2 (some (.int 0)) ((bnd2 (some (.int 1)) ((bnd2 (some (.int 2)) ((bnd2 (some (.int 3)) ((bnd2 (some (.int 4)) ((bnd2 (some (.int 2)) (some []) consD)) consD)) consD)) consD)) consD)) consD)).bind tupD) (bnd2 (gb 5 [.val (.int x), .val (strsD ns), .val b.enc, .val (.int (k : Int)), .val (.str n), .val (.int (drawnN x k / 4)), .val (rulesD []), x7, x8, x9, x10]) (some (.int 6)) modD) ixD) (some []) consD = some [.int (manyN (drawnN x k / 4) : Int)] from by
      simp [gb, bnd2_ss, consD_, tupD_, modD_ii, ixD_t, atI_pk6, pk6_int]]
    rw [Option.bind_some, rng1 _ (by have := many_le (drawnN x k / 4); omega)]
    show forD tg1 [7] (bodyB (m_test 3)) _ _ = _
    rw [show ((manyN (drawnN x k / 4) : Int)).toNat = manyN (drawnN x k / 4) from by omega, h]
    unfold rulesN
    rw [List.range_eq_range']
    rfl
  · simp only [gb, gv, bnd2_ss, List.getElem?_cons_succ, List.getElem?_cons_zero, consD_, Option.bind_some, tupD_ _ (show [_, _].length ≤ 1000 by simp), tupD_ _ (show [_].length ≤ 1000 by simp)]
    unfold Book.enc
    rw [addT (by simp; omega), asgR_s]
    simp
theorem names_loop (x : Int) (ns : List Str) (h0 : 0 < ns.length) (h1 : ns.length ≤ 1000) : ∀ (r : List Str) (k : Nat) (b : Book) (x3 x4 x5 x6 x7 x8 x9 x10 : Sl), b.length + r.length ≤ 1000 → ∃ x3' x4' x5' x6' x7' x8' x9' x10',
    forD (tgT 2 (tgC tg1 (tgC tg1 tgN))) [3, 4] (bodyK (m_test 3)) (enumFrom k (r.map .str)) [.val (.int x), .val (strsD ns), .val b.enc, x3, x4, x5, x6, x7, x8, x9, x10] = some (.nx [.val (.int x), .val (strsD ns), .val (Book.enc (b ++ bookFrom x ns k r)), x3', x4', x5', x6', x7', x8', x9', x10'])
  | [], k, b, x3, x4, x5, x6, x7, x8, x9, x10, _ => ⟨x3, x4, x5, x6, x7, x8, x9, x10, by simp [forD, enumFrom, bookFrom]⟩
  | n :: r, k, b, x3, x4, x5, x6, x7, x8, x9, x10, hl => by
    obtain ⟨a5, a6, a7, a8, a9, a10, h⟩ := name_step x ns h0 h1 b (by simp at hl; omega) k n x5 x6 x7 x8 x9 x10
    obtain ⟨b3, b4, b5, b6, b7, b8, b9, b10, h'⟩ := names_loop x ns h0 h1 r (k + 1) (b ++ [(n, rulesN ns (drawnN x k / 4))]) (.val (.int (k : Int))) (.val (.str n)) a5 a6 a7 a8 a9 a10 (by simp at hl ⊢; omega)
    refine ⟨b3, b4, b5, b6, b7, b8, b9, b10, ?_⟩
    rw [List.map_cons]
    simp only [enumFrom, forD]
    rw [tgT2]
    dsimp only
    rw [show setsR [Sl.val (.int x), .val (strsD ns), .val b.enc, x3, x4, x5, x6, x7, x8, x9, x10] [3, 4] [.int (k : Int), .str n] = [.val (.int x), .val (strsD ns), .val b.enc, .val (.int (k : Int)), .val (.str n), x5, x6, x7, x8, x9, x10] from rfl, h]
    dsimp only
    rw [h']
    simp [bookFrom]
theorem names_enc (x : Int) : pk4 (strsD ["main"]) (strsD ["main", "sub"]) (strsD ["a", "main", "sub"]) (strsD ["a", "main"]) x = strsD (namesN x) := pk4_map strsD _ _ _ _ x
theorem names_pos (x : Int) : 0 < (namesN x).length ∧ (namesN x).length ≤ 3 := by
  unfold namesN pk4
  split <;> (try split) <;> (try split) <;> simp
theorem book_eq (x : Int) : m_book 3 [.int x] = some (bookN x).enc := by
  obtain ⟨h0, h3⟩ := names_pos x
  obtain ⟨b3, b4, b5, b6, b7, b8, b9, b10, h⟩ := names_loop x (namesN x) h0 (by omega) (namesN x) 0 [] .no .no .no .no .no .no .no .no (by simp; omega)
  refine run_step rfl ?_
  unfold fb__law_book
  refine seq_step (ρ := [.val (.int x), .val (strsD (namesN x)), .no, .no, .no, .no, .no, .no, .no, .no, .no]) ?_ ?_
  · rw [← names_enc]
    simp [startR, gb, bnd2_ss, consD_, tupD_, modD_ii, ixD_t, atI_pk4, asgR_s, strsD]
  refine seq_step (ρ := [.val (.int x), .val (strsD (namesN x)), .val (Book.enc []), .no, .no, .no, .no, .no, .no, .no, .no]) rfl ?_
  refine seq_step (ρ := [.val (.int x), .val (strsD (namesN x)), .val (bookN x).enc, b3, b4, b5, b6, b7, b8, b9, b10]) ?_ rfl
  exact h
end Sv
namespace Sv
open PySem L2 Evl
def baseUs : List Str := ["main", "sub", "a", "in", "old", "x", "m", "red", "z"]
structure Uni.Big (U : Uni) : Prop where
  us : ∀ n ∈ baseUs, n ∈ U.us
  ps : ∀ n ∈ (["main", "sub", "a"] : List Str), ∀ j, j < 5 → (n, j) ∈ U.ps
theorem pk4_cases {α : Type} {P : α → Prop} {a b c d : α} (ha : P a) (hb : P b) (hc : P c) (hd : P d) (n : Int) : P (pk4 a b c d n) := by unfold pk4; split <;> (try split) <;> (try split) <;> assumption
theorem pk2_cases {α : Type} {P : α → Prop} {a b : α} (ha : P a) (hb : P b) (n : Int) : P (pk2 a b n) := by unfold pk2; split <;> assumption
theorem nameN_mem (x : Int) : nameN x ∈ baseUs := pk4_cases (P := fun n : Str => n ∈ baseUs) (by simp [baseUs]) (by simp [baseUs]) (by simp [baseUs]) (by simp [baseUs]) _
theorem mkN_mem (x : Int) : pk2 ("m" : Str) "red" x ∈ baseUs := pk2_cases (P := fun n : Str => n ∈ baseUs) (by simp [baseUs]) (by simp [baseUs]) _
theorem names_mem (x : Int) : ∀ n ∈ namesN x, n ∈ (["main", "sub", "a"] : List Str) := pk4_cases (P := fun ns : List Str => ∀ n ∈ ns, n ∈ (["main", "sub", "a"] : List Str)) (by simp) (by simp) (by simp) (by simp) x
theorem three_mem : ∀ n ∈ (["main", "sub", "a"] : List Str), n ∈ baseUs := by simp [baseUs]
theorem names_nodup (x : Int) : (namesN x).Nodup := pk4_cases (P := fun ns : List Str => ns.Nodup) (by decide) (by decide) (by decide) (by decide) x
theorem main_mem (x : Int) : ("main" : Str) ∈ namesN x := pk4_cases (P := fun ns : List Str => ("main" : Str) ∈ ns) (by simp) (by simp) (by simp) (by simp) x
theorem getD_mem {ns : List Str} (h : 0 < ns.length) (n : Int) (d : Str) : ns.getD (n % ns.length).toNat d ∈ ns := by
  have h1 : 0 ≤ n % (ns.length : Int) := Int.emod_nonneg _ (by omega)
  have h2 : n % (ns.length : Int) < ns.length := Int.emod_lt_of_pos _ (by omega)
  have h3 : (n % (ns.length : Int)).toNat < ns.length := by omega
  rw [List.getD_eq_getElem?_getD, List.getElem?_eq_getElem h3]
  exact List.getElem_mem h3
theorem deed_of {U : Uni} (hU : U.Big) {b : Book} {ns : List Str} (h0 : 0 < ns.length) (hb : b.names = ns) (hn : ∀ n ∈ ns, n ∈ baseUs) (x : Int) : (deedN x ns).Of U b := by
  have hg := getD_mem h0 (x / 16) "main"
  unfold deedN
  split
  · exact ⟨by simp [Deed.nm], by simp⟩
  split
  · exact ⟨by simp [Deed.nm], by simp⟩
  split
  · refine ⟨fun n h => ?_, fun n h => ?_⟩
    · rw [List.mem_singleton.mp h]; exact hU.us _ (hn _ hg)
    · cases h; rw [hb]; exact hg
  split
  · split
    · exact ⟨fun n h => by rw [List.mem_singleton.mp h]; exact hU.us _ (mkN_mem _), by simp⟩
    · exact ⟨fun n h => by rw [List.mem_singleton.mp h]; exact hU.us _ (mkN_mem _), by simp⟩
  split
  · exact ⟨fun n h => by rw [List.mem_singleton.mp h]; exact hU.us _ (nameN_mem _), by simp⟩
  split
  · exact ⟨fun n h => by rw [List.mem_singleton.mp h]; exact hU.us _ (nameN_mem _), by simp⟩
  split
  · exact ⟨fun n h => by rw [List.mem_singleton.mp h]; exact hU.us _ (nameN_mem _), by simp⟩
  split
  · exact ⟨fun n h => by rw [List.mem_singleton.mp h]; exact hU.us _ (nameN_mem _), by simp⟩
  · exact ⟨fun n h => by rw [List.mem_singleton.mp h]; exact hU.us _ (nameN_mem _), by simp⟩
theorem rule_of {U : Uni} (hU : U.Big) {b : Book} {ns : List Str} (h0 : 0 < ns.length) (hb : b.names = ns) (hn : ∀ n ∈ ns, n ∈ baseUs) (dr : Int) (j : Nat) : (ruleN ns dr j).Of U b 3 := by
  have hd1 : 0 ≤ drawnN dr (10 + j) / 4 / 8 % 3 := Int.emod_nonneg _ (by decide)
  have hd2 : drawnN dr (10 + j) / 4 / 8 % 3 < 3 := Int.emod_lt_of_pos _ (by decide)
  have hm1 : 0 ≤ drawnN dr (10 + j) / 4 % 3 := Int.emod_nonneg _ (by decide)
  have hm2 : drawnN dr (10 + j) / 4 % 3 < 3 := Int.emod_lt_of_pos _ (by decide)
  refine ⟨?_, test_ok _ _, fun d hd => ?_, ?_⟩
  · have := test_dep (1 + drawnN dr (10 + j) / 4 / 8 % 3).toNat (drawnN dr (10 + j) / 4 / 4)
    show (testN _ _).dep ≤ 3
    omega
  · obtain ⟨i, _, rfl⟩ := List.mem_map.mp hd
    exact deed_of hU h0 hb hn _
  · show ((List.range _).map _).length ≤ 1000
    rw [List.length_map, List.length_range]; omega
theorem from_names (x : Int) (ns : List Str) : ∀ (r : List Str) (k : Nat), (bookFrom x ns k r).names = r
  | [], k => rfl
  | n :: r, k => by
    show n :: (bookFrom x ns (k + 1) r).names = _
    rw [from_names x ns r]
theorem book_names (x : Int) : (bookN x).names = namesN x := from_names x _ _ 0
theorem from_mem (x : Int) (ns : List Str) : ∀ (r : List Str) (k : Nat) (p : Str × List Rul), p ∈ bookFrom x ns k r → p.1 ∈ r ∧ ∃ dr, p.2 = rulesN ns dr
  | [], k, p, h => nomatch h
  | n :: r, k, p, h => by
    rcases List.mem_cons.mp h with rfl | h
    · exact ⟨List.mem_cons_self, _, rfl⟩
    · obtain ⟨h1, h2⟩ := from_mem x ns r (k + 1) p h
      exact ⟨List.mem_cons_of_mem _ h1, h2⟩
theorem book_len (x : Int) : (bookN x).length ≤ 3 := by
  have := congrArg List.length (book_names x)
  unfold Book.names at this
  rw [List.length_map] at this
  have := (names_pos x).2
  omega
theorem book_of {U : Uni} (hU : U.Big) (x : Int) : (bookN x).Of U 3 := by
  have hn : ∀ n ∈ namesN x, n ∈ baseUs := fun n h => three_mem n (names_mem x n h)
  refine ⟨by rw [book_names]; exact names_nodup x, fun n h => ?_, fun p hp r hr => ?_, fun p hp j hj => ?_, fun p hp => ?_, by have := book_len x; omega⟩
  · rw [book_names] at h; exact hU.us n (hn n h)
  · obtain ⟨h1, dr, h2⟩ := from_mem x _ _ _ p hp
    rw [h2] at hr
    obtain ⟨i, _, rfl⟩ := List.mem_map.mp hr
    exact rule_of hU (names_pos x).1 (book_names x) hn dr i
  · obtain ⟨h1, dr, h2⟩ := from_mem x _ _ _ p hp
    have := many_le dr
    rw [h2] at hj
    unfold rulesN at hj
    rw [List.length_map, List.length_range] at hj
    exact hU.ps p.1 (names_mem x _ h1) j (by omega)
  · obtain ⟨h1, dr, h2⟩ := from_mem x _ _ _ p hp
    have := many_le dr
    rw [h2]
    unfold rulesN
    rw [List.length_map, List.length_range]
    omega
def uniA : Uni := ⟨baseUs ++ (["zz", "no", "zed", "ann", "q"] : List Str), (["main", "sub", "a", "zz"] : List Str).flatMap fun n => (List.range 8).map fun j => (n, j)⟩
theorem uniA_ok : uniA.Ok := ⟨by decide, by decide, by decide +kernel⟩
theorem uniA_big : uniA.Big := ⟨fun n h => List.mem_append_left _ h, fun n h j hj => List.mem_flatMap.mpr ⟨n, by revert h; simp; intro h; rcases h with h | h | h <;> simp [h], List.mem_map.mpr ⟨j, List.mem_range.mpr (by omega), rfl⟩⟩⟩
end Sv
namespace Sv
open PySem L2 Evl
def ruleAt (b : Book) (p : Str × Nat) : Option Rul := (b.get p.1)[p.2]?
end Sv
namespace Sv
open PySem L2 Evl
theorem andB_t (a : Option Bool) : andB (some true) a = a := by cases a with | none => rfl | some b => cases b <;> rfl
theorem andB_f (a : Option Bool) : andB (some false) a = some false := rfl
theorem orB_t (a : Option Bool) : orB (some true) a = some true := rfl
theorem orB_f (a : Option Bool) : orB (some false) a = a := by cases a with | none => rfl | some b => cases b <;> rfl
theorem notV_b (b : Bool) : notV (some (.bool b)) = some (.bool (!b)) := rfl
theorem gv_0 (d : PyData) (r : Rho) : gv 0 (.val d :: r) = some d := rfl
theorem gv_s (i : Nat) (s : Sl) (r : Rho) : gv (i + 1) (s :: r) = gv i r := rfl
theorem gb_0 (d : PyData) (r : Rho) : gb 0 (.val d :: r) = some d := rfl
theorem gb_s (i : Nat) (s : Sl) (r : Rho) : gb (i + 1) (s :: r) = gb i r := rfl
theorem scr_0 (ns : List Int) (r : Rho) : scrOf 0 (.scr ns :: r) = some ns := rfl
theorem mixR_ (ns : List Int) (k : Int) (h : 0 ≤ k) : mixR ns k = some (.int (mixN ns k)) := by unfold mixR; rw [if_pos h]
theorem setsR_nil (ρ : Rho) (ds : List PyData) : setsR ρ [] ds = ρ := rfl
theorem setsR_cons (ρ : Rho) (i : Nat) (is : List Nat) (d : PyData) (ds : List PyData) : setsR ρ (i :: is) (d :: ds) = setsR (ρ.set i (.val d)) is ds := rfl
theorem tg1_ (d : PyData) : tg1 d = some [d] := rfl
theorem tgT_1 (a : PyData) : tgT 1 (tgC tg1 tgN) (.tuple [a]) = some [a] := rfl
theorem tgT_2 (a b : PyData) : tgT 2 (tgC tg1 (tgC tg1 tgN)) (.tuple [a, b]) = some [a, b] := rfl
theorem tgT_4 (a b c d : PyData) : tgT 4 (tgC tg1 (tgC tg1 (tgC tg1 (tgC tg1 tgN)))) (.tuple [a, b, c, d]) = some [a, b, c, d] := rfl
theorem walkD_t (ds : List PyData) : walkD (.tuple ds) = some ds := rfl
theorem walkD_l (ds : List PyData) : walkD (.list ds) = some ds := rfl
theorem tupleD_l (ds : List PyData) : tupleD (.list ds) = some (.tuple ds) := rfl
theorem tupleD_t (ds : List PyData) : tupleD (.tuple ds) = some (.tuple ds) := rfl
theorem listD_l (ds : List PyData) : listD (.list ds) = some (.list ds) := rfl
theorem listD_t (ds : List PyData) : listD (.tuple ds) = some (.list ds) := rfl
theorem lenD_t (ds : List PyData) : lenD (.tuple ds) = some (.int ds.length) := rfl
theorem lenD_l (ds : List PyData) : lenD (.list ds) = some (.int ds.length) := rfl
theorem wipeR_nil (ρ : Rho) : wipeR ρ [] = ρ := rfl
theorem wipeR_cons (ρ : Rho) (v : Nat) (vs : List Nat) : wipeR ρ (v :: vs) = (wipeR ρ vs).set v .no := rfl
/-- a comprehension over what encodes a list -/
theorem compD_gen {α : Type} (enc : α → PyData) {h : PyData → Option (List PyData)} {is : List Nat} {ft : Rho → Option Bool} {fe : Rho → Option PyData} {ρ : Rho} (es : α → List PyData) (p : α → Bool) (g : α → PyData) :
    ∀ xs : List α, (∀ x ∈ xs, h (enc x) = some (es x)) → (∀ x ∈ xs, ft (setsR ρ is (es x)) = some (p x)) → (∀ x ∈ xs, p x = true → fe (setsR ρ is (es x)) = some (g x)) → compD h is ft fe ρ (xs.map enc) = some ((xs.filter p).map g)
  | [], _, _, _ => rfl
  | x :: xs, h1, h2, h3 => by
    have ih := compD_gen enc es p g xs (fun y hy => h1 y (List.mem_cons_of_mem _ hy)) (fun y hy => h2 y (List.mem_cons_of_mem _ hy)) (fun y hy => h3 y (List.mem_cons_of_mem _ hy))
    have a1 := h1 x List.mem_cons_self
    have a2 := h2 x List.mem_cons_self
    have a3 := h3 x List.mem_cons_self
    simp only [List.map_cons, compD, a1, a2, ih]
    cases hp : p x with
    | false => simp [hp]
    | true => simp only [a3 hp, List.filter_cons, hp, if_true, List.map_cons]
theorem compL_gen {α : Type} (enc : α → PyData) {h : PyData → Option (List PyData)} {is vs : List Nat} {ft : Rho → Option Bool} {fe : Rho → Option PyData} {ρ : Rho} (es : α → List PyData) (p : α → Bool) (g : α → PyData)
    (xs : List α) (hl : xs.length ≤ 1000) (h1 : ∀ x ∈ xs, h (enc x) = some (es x)) (h2 : ∀ x ∈ xs, ft (setsR (wipeR ρ vs) is (es x)) = some (p x)) (h3 : ∀ x ∈ xs, p x = true → fe (setsR (wipeR ρ vs) is (es x)) = some (g x)) : compL (some (xs.map enc)) h is ft fe vs ρ = some (.list ((xs.filter p).map g)) := by
  unfold compL
  simp only [Option.bind_some, List.length_map, lenOk_ hl, if_true, compD_gen enc es p g xs h1 h2 h3, Option.map_some]
/-- the same, without a test -/
theorem compL_map {α : Type} (enc : α → PyData) {h : PyData → Option (List PyData)} {is vs : List Nat} {fe : Rho → Option PyData} {ρ : Rho} (es : α → List PyData) (g : α → PyData)
    (xs : List α) (hl : xs.length ≤ 1000) (h1 : ∀ x ∈ xs, h (enc x) = some (es x)) (h3 : ∀ x ∈ xs, fe (setsR (wipeR ρ vs) is (es x)) = some (g x)) : compL (some (xs.map enc)) h is (fun _ => some true) fe vs ρ = some (.list (xs.map g)) := by
  rw [compL_gen enc es (fun _ => true) g xs hl h1 (fun _ _ => rfl) (fun x hx _ => h3 x hx), List.filter_eq_self.mpr (fun _ _ => rfl)]
/-- a loop that goes through -/
theorem forD_gen {α σ : Type} (enc : α → PyData) {h : PyData → Option (List PyData)} {is : List Nat} {body : Rho → Option Res} (es : α → List PyData) (R : σ → Rho → Prop) (step : σ → α → σ) :
    ∀ (xs : List α) (s : σ) (ρ : Rho), (∀ x ∈ xs, h (enc x) = some (es x)) → (∀ x ∈ xs, ∀ s ρ, R s ρ → ∃ ρ', body (setsR ρ is (es x)) = some (.nx ρ') ∧ R (step s x) ρ') → R s ρ → ∃ ρ', forD h is body (xs.map enc) ρ = some (.nx ρ') ∧ R (xs.foldl step s) ρ'
  | [], s, ρ, _, _, hR => ⟨ρ, rfl, hR⟩
  | x :: xs, s, ρ, h1, h2, hR => by
    obtain ⟨ρ1, e1, r1⟩ := h2 x List.mem_cons_self s ρ hR
    obtain ⟨ρ2, e2, r2⟩ := forD_gen enc es R step xs (step s x) ρ1 (fun y hy => h1 y (List.mem_cons_of_mem _ hy)) (fun y hy => h2 y (List.mem_cons_of_mem _ hy)) r1
    refine ⟨ρ2, ?_, r2⟩
    simp only [List.map_cons, forD, h1 x List.mem_cons_self, e1]
    exact e2
theorem forR_gen {α σ : Type} (enc : α → PyData) {h : PyData → Option (List PyData)} {is : List Nat} {body : Rho → Option Res} (es : α → List PyData) (R : σ → Rho → Prop) (step : σ → α → σ)
    (xs : List α) (s : σ) (ρ : Rho) (h1 : ∀ x ∈ xs, h (enc x) = some (es x)) (h2 : ∀ x ∈ xs, ∀ s ρ, R s ρ → ∃ ρ', body (setsR ρ is (es x)) = some (.nx ρ') ∧ R (step s x) ρ') (hR : R s ρ) : ∃ ρ', forR (some (xs.map enc)) h is body ρ = some (.nx ρ') ∧ R (xs.foldl step s) ρ' :=
  forD_gen enc es R step xs s ρ h1 h2 hR
/-- the same for one that keeps all but scratch -/
theorem forR_keep {α : Type} (enc : α → PyData) {h : PyData → Option (List PyData)} {is : List Nat} {body : Rho → Option Res} (es : α → List PyData) (R : Rho → Prop)
    (xs : List α) (ρ : Rho) (h1 : ∀ x ∈ xs, h (enc x) = some (es x)) (h2 : ∀ x ∈ xs, ∀ ρ, R ρ → ∃ ρ', body (setsR ρ is (es x)) = some (.nx ρ') ∧ R ρ') (hR : R ρ) : ∃ ρ', forR (some (xs.map enc)) h is body ρ = some (.nx ρ') ∧ R ρ' := by
  obtain ⟨ρ', e, r⟩ := forR_gen (σ := Unit) enc es (fun _ => R) (fun s _ => s) xs () ρ h1 (fun x hx _ ρ => h2 x hx ρ) hR
  exact ⟨ρ', e, r⟩
theorem rng1_n (n : Int) (h : 0 ≤ n ∧ n ≤ 1000) : rng1D [.int n] = some ((List.range n.toNat).map fun (i : Nat) => PyData.int (i : Int)) := by
  rw [rng1 n h, List.range_eq_range']
/-- goes on to what R says -/
def Nx (R : Rho → Prop) (o : Option Res) : Prop := ∃ ρ', o = some (.nx ρ') ∧ R ρ'
theorem nx_step {R : Rho → Prop} {a : Option Res} {g : Rho → Option Res} {ρ : Rho} (h : a = some (.nx ρ)) (h2 : Nx R (g ρ)) : Nx R (seqR a g) := by rw [h]; exact h2
theorem rt_step {d : Option PyData} {a : Option Res} {g : Rho → Option Res} {ρ : Rho} (h : a = some (.nx ρ)) (h2 : retD (g ρ) = d) : retD (seqR a g) = d := by rw [h]; exact h2
theorem nx_fin {R : Rho → Prop} {a : Option Res} {ρ : Rho} (h : a = some (.nx ρ)) (h2 : R ρ) : Nx R a := ⟨ρ, h, h2⟩
theorem rt_for {S : Rho → Prop} {d : Option PyData} {a : Option Res} {g : Rho → Option Res} (h : Nx S a) (h2 : ∀ ρ, S ρ → retD (g ρ) = d) : retD (seqR a g) = d := by
  obtain ⟨ρ, e, s⟩ := h
  rw [e]; exact h2 ρ s
theorem for_fold {α σ : Type} (enc : α → PyData) {h : PyData → Option (List PyData)} {is : List Nat} {body : Rho → Option Res} (es : α → List PyData) (R : σ → Rho → Prop) (step : σ → α → σ)
    (xs : List α) (s : σ) (ρ : Rho) (h1 : ∀ x ∈ xs, h (enc x) = some (es x)) (h2 : ∀ x ∈ xs, ∀ s ρ, R s ρ → Nx (R (step s x)) (body (setsR ρ is (es x)))) (hR : R s ρ) : Nx (R (xs.foldl step s)) (forR (some (xs.map enc)) h is body ρ) :=
  forD_gen enc es R step xs s ρ h1 h2 hR
theorem for_keep {α : Type} (enc : α → PyData) {h : PyData → Option (List PyData)} {is : List Nat} {body : Rho → Option Res} (es : α → List PyData) (R : Rho → Prop)
    (xs : List α) (ρ : Rho) (h1 : ∀ x ∈ xs, h (enc x) = some (es x)) (h2 : ∀ x ∈ xs, ∀ ρ, R ρ → Nx R (body (setsR ρ is (es x)))) (hR : R ρ) : Nx R (forR (some (xs.map enc)) h is body ρ) :=
  forR_keep enc es R xs ρ h1 h2 hR
theorem asgG_u (is : List Nat) (h : PyData → Option (List PyData)) (ρ : Rho) (d : PyData) : asgG is h ρ (some d) = (h d).map fun es => .nx (setsR ρ is es) := rfl
end Sv
namespace Sv
open PySem L2 Evl
def Deed.good (ns : List Str) (d : Deed) : Bool := d.nm.all nmOk && (match d with | .call n => decide (n ∈ ns) | _ => true)
def Rul.good (ns : List Str) (r : Rul) : Bool := decide (r.1.dep ≤ 3) && r.1.ok && decide (r.2.length ≤ 8) && r.2.all (Deed.good ns)
def Book.goodIn (ns : List Str) (b : Book) : Bool := b.all fun p => nmOk p.1 && decide (p.2.length ≤ 8) && p.2.all (Rul.good ns)
def Book.good (b : Book) : Bool := decide (b.names.Nodup) && decide (("main" : Str) ∈ b.names) && decide (b.length ≤ 5) && b.goodIn b.names
def Ltr.good (l : Ltr) : Bool := l.ok && decide (l.marks.Nodup) && decide (l.marks.length ≤ 100) && decide (l.words.length ≤ 100)
structure GoodB (b : Book) : Prop where
  nd : b.names.Nodup
  main : ("main" : Str) ∈ b.names
  len : b.length ≤ 5
  nm : ∀ p ∈ b, nmOk p.1 = true
  rl : ∀ p ∈ b, p.2.length ≤ 8
  dep : ∀ p ∈ b, ∀ r ∈ p.2, r.1.dep ≤ 3
  ok : ∀ p ∈ b, ∀ r ∈ p.2, r.1.ok = true
  few : ∀ p ∈ b, ∀ r ∈ p.2, r.2.length ≤ 8
  dn : ∀ p ∈ b, ∀ r ∈ p.2, ∀ d ∈ r.2, d.nm.all nmOk = true
  cl : ∀ p ∈ b, ∀ r ∈ p.2, ∀ n, Deed.call n ∈ r.2 → n ∈ b.names
theorem deed_good {ns : List Str} {d : Deed} (h : d.good ns = true) : d.nm.all nmOk = true ∧ ∀ n, d = .call n → n ∈ ns := by
  unfold Deed.good at h
  simp only [Bool.and_eq_true] at h
  refine ⟨h.1, fun n e => ?_⟩
  subst e
  exact of_decide_eq_true h.2
theorem Book.good.of {b : Book} (h : b.good = true) : GoodB b := by
  unfold Book.good Book.goodIn at h
  simp only [Bool.and_eq_true, decide_eq_true_eq, List.all_eq_true, Rul.good] at h
  obtain ⟨⟨⟨h1, h2⟩, h3⟩, h4⟩ := h
  exact ⟨h1, h2, h3, fun p hp => (h4 p hp).1.1, fun p hp => (h4 p hp).1.2, fun p hp r hr => ((h4 p hp).2 r hr).1.1.1, fun p hp r hr => ((h4 p hp).2 r hr).1.1.2, fun p hp r hr => ((h4 p hp).2 r hr).1.2, fun p hp r hr d hd => (deed_good (((h4 p hp).2 r hr).2 d hd)).1, fun p hp r hr n hn => (deed_good (((h4 p hp).2 r hr).2 _ hn)).2 n rfl⟩
structure GoodL (l : Ltr) : Prop where
  ok : l.ok = true
  nd : l.marks.Nodup
  few : l.marks.length ≤ 100
  fw : l.words.length ≤ 100
theorem Ltr.good.of {l : Ltr} (h : l.good = true) : GoodL l := by
  unfold Ltr.good at h
  simp only [Bool.and_eq_true, decide_eq_true_eq] at h
  exact ⟨h.1.1.1, h.1.1.2, h.1.2, h.2⟩
def cl : Nat → PyData → Bool
  | _, .none => true
  | _, .int _ => true
  | _, .str s => nmOk s
  | n + 1, .list xs => xs.all (cl n)
  | n + 1, .tuple xs => xs.all (cl n)
  | _, _ => false
theorem all_dep {n : Nat} : ∀ {xs : List PyData}, (∀ x ∈ xs, x.depth ≤ n) → PyData.depthAll xs ≤ n
  | [], _ => by simp [PyData.depthAll]
  | x :: xs, h => by
    have h1 := h x List.mem_cons_self
    have h2 := all_dep fun y hy => h y (List.mem_cons_of_mem _ hy)
    simp only [PyData.depthAll]; omega
noncomputable instance : DecidableEq PyData := fun _ _ => Classical.propDecidable _
theorem sortS_perm (ss : List Str) : (sortS ss).Perm ss := List.mergeSort_perm ss leS
theorem uniA_nm {n : Str} (h : n ∈ uniA.us) : nmOk n = true := List.all_eq_true.mp uniA_ok.nm n h
theorem ruleN_len (ns : List Str) (dr : Int) (j : Nat) : (ruleN ns dr j).2.length ≤ 3 := by
  unfold ruleN
  simp only [List.length_map, List.length_range, List.length_range']
  omega
theorem rulesN_len (ns : List Str) (dr : Int) : (rulesN ns dr).length ≤ 4 := by
  unfold rulesN
  simpa using many_le dr
theorem bookN_good (x : Int) : (bookN x).good = true := by
  have h := book_of uniA_big x
  unfold Book.good Book.goodIn
  simp only [Bool.and_eq_true, decide_eq_true_eq, List.all_eq_true, Rul.good]
  refine ⟨⟨⟨h.nd, by rw [book_names]; exact main_mem x⟩, Nat.le_trans (book_len x) (by decide)⟩, fun p hp => ?_⟩
  obtain ⟨h1, dr, h2⟩ := from_mem x _ _ 0 p hp
  refine ⟨⟨uniA_nm (h.us p.1 (List.mem_map.mpr ⟨p, hp, rfl⟩)), ?_⟩, fun r hr => ?_⟩
  · rw [h2]; exact Nat.le_trans (rulesN_len _ dr) (by decide)
  · have hr' := h.rl p hp r hr
    refine ⟨⟨⟨hr'.dep, hr'.ok⟩, ?_⟩, fun d hd => ?_⟩
    · rw [h2] at hr
      obtain ⟨j, _, rfl⟩ := List.mem_map.mp hr
      exact Nat.le_trans (ruleN_len _ dr j) (by decide)
    · unfold Deed.good
      have hd' := hr'.deeds d hd
      simp only [Bool.and_eq_true]
      refine ⟨List.all_eq_true.mpr fun n hn => uniA_nm (hd'.1 n hn), ?_⟩
      split
      · exact decide_eq_true (hd'.2 _ rfl)
      · rfl
theorem bookN_few (x : Int) : ∀ p ∈ bookN x, p.2.length ≤ 4 ∧ ∀ r ∈ p.2, r.2.length ≤ 3 ∧ r.1.dep ≤ 2 := fun p hp => by
  obtain ⟨h1, dr, h2⟩ := from_mem x _ _ 0 p hp
  rw [h2]
  refine ⟨rulesN_len _ dr, fun r hr => ?_⟩
  obtain ⟨j, _, rfl⟩ := List.mem_map.mp hr
  refine ⟨ruleN_len _ dr j, ?_⟩
  unfold ruleN
  refine Nat.le_trans (test_dep _ _) ?_
  omega
end Sv
namespace Sv
open PySem L2 Evl
@[simp] theorem nm_main : nmOk (Str.ofString "main") = true := by decide +kernel
@[simp] theorem nm_sub : nmOk (Str.ofString "sub") = true := by decide +kernel
@[simp] theorem nm_a : nmOk (Str.ofString "a") = true := by decide +kernel
@[simp] theorem nm_in : nmOk (Str.ofString "in") = true := by decide +kernel
@[simp] theorem nm_old : nmOk (Str.ofString "old") = true := by decide +kernel
@[simp] theorem nm_x : nmOk (Str.ofString "x") = true := by decide +kernel
@[simp] theorem nm_m : nmOk (Str.ofString "m") = true := by decide +kernel
@[simp] theorem nm_red : nmOk (Str.ofString "red") = true := by decide +kernel
@[simp] theorem nm_z : nmOk (Str.ofString "z") = true := by decide +kernel
@[simp] theorem nm_zz : nmOk (Str.ofString "zz") = true := by decide +kernel
@[simp] theorem nm_no : nmOk (Str.ofString "no") = true := by decide +kernel
@[simp] theorem nm_zed : nmOk (Str.ofString "zed") = true := by decide +kernel
@[simp] theorem nm_q : nmOk (Str.ofString "q") = true := by decide +kernel
@[simp] theorem nm_ann : nmOk (Str.ofString "ann") = true := by decide +kernel
@[simp] theorem nm_bob : nmOk (Str.ofString "bob") = true := by decide +kernel
@[simp] theorem nm_cy : nmOk (Str.ofString "cy") = true := by decide +kernel
@[simp] theorem nm_hi : nmOk (Str.ofString "hi") = true := by decide +kernel
@[simp] theorem nm_now : nmOk (Str.ofString "now") = true := by decide +kernel
@[simp] theorem nm_from : nmOk (Str.ofString "from") = true := by decide +kernel
@[simp] theorem nm_word : nmOk (Str.ofString "word") = true := by decide +kernel
@[simp] theorem nm_over : nmOk (Str.ofString "over") = true := by decide +kernel
@[simp] theorem nm_marked : nmOk (Str.ofString "marked") = true := by decide +kernel
@[simp] theorem nm_yes : nmOk (Str.ofString "yes") = true := by decide +kernel
@[simp] theorem nm_not : nmOk (Str.ofString "not") = true := by decide +kernel
@[simp] theorem nm_both : nmOk (Str.ofString "both") = true := by decide +kernel
@[simp] theorem nm_either : nmOk (Str.ofString "either") = true := by decide +kernel
@[simp] theorem nm_lay : nmOk (Str.ofString "lay") = true := by decide +kernel
@[simp] theorem nm_send : nmOk (Str.ofString "send") = true := by decide +kernel
@[simp] theorem nm_answer : nmOk (Str.ofString "answer") = true := by decide +kernel
@[simp] theorem nm_mark : nmOk (Str.ofString "mark") = true := by decide +kernel
@[simp] theorem nm_unmark : nmOk (Str.ofString "unmark") = true := by decide +kernel
@[simp] theorem nm_call : nmOk (Str.ofString "call") = true := by decide +kernel
@[simp] theorem nm_drop : nmOk (Str.ofString "drop") = true := by decide +kernel
@[simp] theorem nm_stop : nmOk (Str.ofString "stop") = true := by decide +kernel
@[simp] theorem nm_bobs : nmOk (Str.ofString "bobs") = true := by decide +kernel
@[simp] theorem nm_none : nmOk (Str.ofString "none") = true := by decide +kernel
theorem cutL_from {α : Type} (xs : List α) (k : Nat) : cutL xs (some (k : Int)) none = xs.drop k := by
  unfold cutL
  rw [HT.sIx_none, HT.sIx_nat]
  rw [List.take_of_length_le (by rw [List.length_drop]; omega)]
  by_cases h : k ≤ xs.length
  · rw [Nat.min_eq_left h]
  · rw [Nat.min_eq_right (by omega), List.drop_of_length_le (Nat.le_refl _), List.drop_of_length_le (by omega)]
theorem len_book (b : Book) : lenD b.enc = some (.int b.length) := by
  show some (PyData.int ((b.map fun p => PyData.tuple [.str p.1, rulesD p.2]).length : Nat)) = _
  rw [List.length_map]
theorem walk_book (b : Book) : walkD b.enc = some (b.map fun p => PyData.tuple [.str p.1, rulesD p.2]) := rfl
theorem walk_rules (rs : List Rul) : walkD (rulesD rs) = some (rs.map Rul.enc) := rfl
end Sv
namespace Sv
open PySem L2 Evl
def rset (xs : List Str) : List Str := sortS (ddup xs)
theorem ddup_map {α β : Type} [DecidableEq α] [DecidableEq β] {f : α → β} (hf : ∀ a b, f a = f b → a = b) (xs : List α) : ddup (xs.map f) = (ddup xs).map f := by
  have go : ∀ (xs acc : List α), (xs.map f).foldl (fun acc x => if x ∈ acc then acc else acc ++ [x]) (acc.map f) = (xs.foldl (fun acc x => if x ∈ acc then acc else acc ++ [x]) acc).map f := fun xs => by
    induction xs with
    | nil => intro acc; rfl
    | cons x xs ih =>
      intro acc
      simp only [List.map_cons, List.foldl_cons]
      have hm : f x ∈ acc.map f ↔ x ∈ acc := by
        rw [List.mem_map]
        exact ⟨fun ⟨a, ha, e⟩ => hf _ _ e ▸ ha, fun h => ⟨x, h, rfl⟩⟩
      by_cases h : x ∈ acc
      · rw [if_pos (hm.mpr h), if_pos h]; exact ih acc
      · rw [if_neg (fun z => h (hm.mp z)), if_neg h]
        have := ih (acc ++ [x])
        rwa [List.map_append, List.map_singleton] at this
  exact go xs []
theorem kds_str : ∀ ss : List Str, kds keyKind.kd (ss.map .str) = some (ss.map .inr)
  | [] => rfl
  | s :: ss => by
    simp only [List.map_cons, kds, kds_str ss]; rfl
theorem sortset_items {e : PyData} {ss : List Str} (he : itemsOf e = some (ss.map .str)) (h : ss.length ≤ 1000) : sortSetD keyKind 1001 e = some (strsL (rset ss)) := by
  have h1 : (ddup ss).length ≤ 1000 := Nat.le_trans (ddup_len ss) h
  have hi : setItems keyKind 1001 e = some (ss.map .inr) := by
    unfold setItems
    rw [he]
    simp only [Option.bind_some, kds_str]
    rw [ddup_map (fun a b e => by cases e; rfl), List.length_map, if_pos (by omega)]
  have e2 : ((ddup ss).map (Sum.inr : Str → Key)).map keyKind.dk = (ddup ss).map .str := by rw [List.map_map]; rfl
  unfold sortSetD
  rw [hi]
  simp only [Option.bind_some]
  rw [ddup_map (fun a b e => by cases e; rfl), e2, if_pos (sok_str h1), srt_str]; rfl
theorem sortset_strs {ss : List Str} (h : ss.length ≤ 1000) : sortSetD keyKind 1001 (.list (ss.map .str)) = some (strsL (rset ss)) := sortset_items rfl h
theorem leS_total (a b : Str) : (leS a b || leS b a) = true := le_total' _ _
theorem leS_trans (a b c : Str) (h1 : leS a b = true) (h2 : leS b c = true) : leS a c = true := le_trans' _ _ _ h1 h2
theorem leS_anti (a b : Str) (h1 : leS a b = true) (h2 : leS b a = true) : a = b := by
  have h := le_same (a := .str a) (b := .str b) rfl h1 h2
  simpa [PyData.eqv] using h
structure Nm where
  f : List Str
  w : List Str
  o : List Int
  m : List Str
def Nm.app (a b : Nm) : Nm := ⟨a.f ++ b.f, a.w ++ b.w, a.o ++ b.o, a.m ++ b.m⟩
def Nm.nil : Nm := ⟨[], [], [], []⟩
def tn : Tst → Nm
  | .frm s => ⟨[s], [], [], []⟩
  | .word s => ⟨[], [s], [], []⟩
  | .over n => ⟨[], [], [n], []⟩
  | .marked s => ⟨[], [], [], [s]⟩
  | .yes => .nil
  | .not t => tn t
  | .both a b => (tn a).app (tn b)
  | .either a b => (tn a).app (tn b)
def Nm.size (a : Nm) : Nat := a.f.length + a.w.length + a.o.length + a.m.length
def intL (ss : List Int) : OD := lO (ss.map .int)
def Nm.ob (a : Nm) : OD := .nd .lst [strL a.f, strL a.w, intL a.o, strL a.m]
end Sv
namespace Sv
open PySem L2 Evl
def Deed.isMk : Deed → Bool
  | .mark _ => true
  | .unmark _ => true
  | _ => false
def Deed.arg : Deed → Str
  | .call n => n
  | .drop => "drop"
  | .stop => "stop"
  | .lay n => n
  | .send n => n
  | .ans n => n
  | .mark n => n
  | .unmark n => n
def mks (ds : List Deed) : List Str := (ds.filter Deed.isMk).map Deed.arg
def Nm.of (ns : List Nm) : Nm := ⟨ns.flatMap (·.f), ns.flatMap (·.w), ns.flatMap (·.o), ns.flatMap (·.m)⟩
def nmRule (r : Rul) : Nm := (tn r.1).app ⟨[], [], [], mks r.2⟩
def nmRules (rs : List Rul) : Nm := Nm.of (rs.map nmRule)
def nameB (b : Book) : Nm := Nm.of (b.map fun p => nmRules p.2)
end Sv
namespace Sv
open PySem L2 Evl
theorem notIn_t (s : Str) (ss : List Str) (h : ss.all nmOk = true) (hs : nmOk s = true) : notInD (.str s) (strsD ss) = some (.bool (!decide (s ∈ ss))) := by
  unfold notInD inB strsD
  simp only [itemsOf, shp_str, hs, shp_tstrs ss h, any_str, Bool.and_self, if_true, Option.map_some]
def Deed.word : Deed → Str
  | .call _ => "call"
  | .drop => "drop"
  | .stop => "stop"
  | .lay _ => "lay"
  | .send _ => "send"
  | .ans _ => "answer"
  | .mark _ => "mark"
  | .unmark _ => "unmark"
theorem deed_w (d : Deed) : ixD d.enc (.int 0) = some (.str d.word) := by cases d <;> rfl
def Deed.has : Deed → Bool
  | .drop => false
  | .stop => false
  | _ => true
theorem deed_a {d : Deed} (h : d.has = true) : ixD d.enc (.int 1) = some (.str d.arg) := by cases d <;> first | rfl | cases h
end Sv
namespace Sv
open PySem L2 Evl
end Sv
namespace Sv
open PySem L2 Evl
def pairsL (ds : List (Str × Nat)) : OD := lO (ds.map fun p => .tuple [.str p.1, .int (p.2 : Int)])
def st8 (ms : List Str) (dr ov : Bool) (ds : List (Str × Nat)) (ws la se an : List Str) : OD := .nd (.dk [.inr "marks", .inr "drop", .inr "stop", .inr "done", .inr "went", .inr "lay", .inr "send", .inr "answer"])
  [.dat (.list (ms.map .str)), .dat (.bool dr), .dat (.bool ov), pairsL ds, strL ws, strL la, strL se, strL an]
structure LR (M : Nat) (s : RSt) (o : OD) : Prop where
  ex : ∃ ms ds ws, o = st8 ms s.drop s.over ds ws s.lay s.send s.ans ∧ (∀ x, x ∈ ms ↔ x ∈ s.marks) ∧ (∀ p, p ∈ ds ↔ p ∈ s.begun) ∧ ms.length ≤ M ∧ ds.length ≤ M ∧ ws.length ≤ M
theorem LR.mono {M M' : Nat} {s : RSt} {o : OD} (h : LR M s o) (hm : M ≤ M') : LR M' s o := by
  obtain ⟨ms, ds, ws, e, h1, h2, h3, h4, h5⟩ := h.ex
  exact ⟨ms, ds, ws, e, h1, h2, by omega, by omega, by omega⟩
abbrev most : Nat := 10000000
end Sv
namespace Sv
open PySem L2 Evl
end Sv
namespace Sv
open PySem L2 Evl
end Sv
namespace Sv
open PySem L2 Evl
end Sv
namespace Sv
open PySem L2 Evl
end Sv
namespace Sv
open PySem L2 Evl
end Sv
namespace Sv
open PySem L2 Evl
def strsO : List PyData → Option (List Str)
  | [] => some []
  | .str s :: ds => (strsO ds).map (s :: ·)
  | _ => none
theorem strsO_rep {K : Fg} {H : Hp} {A : Av} : ∀ {ds : List PyData} {vs : List V} {ss : List Str}, strsO ds = some ss → RepL K H A ds vs → vs = ss.map V.str
  | [], vs, ss, h, r => by cases h; simp only [RepL] at r; exact r
  | d :: ds, vs, ss, h, r => by
    cases d with
    | str s =>
      simp only [strsO] at h
      obtain ⟨ss', h1, rfl⟩ := Option.map_eq_some_iff.mp h
      simp only [RepL] at r
      obtain ⟨y, ys, rfl, ry, r2⟩ := r
      simp only [Rep] at ry
      subst ry
      rw [strsO_rep h1 r2]
      rfl
    | _ => simp only [strsO] at h; cases h
end Sv
namespace Sv
open PySem L2 Evl
def Em1 (K : Fg) (r : V → List V → Hp → VK → Prop) (g : Str → PyData → Option PyData) : Prop := ∀ A H s e y z, AvOk A H → RepB K H A e y → g s e = some z → ∀ Q : VK, (∀ v H2, Ex H H2 → Rep K H2 A z v → Q v H2) → r (.str s) [y] H Q
def m1D (g : Str → PyData → Option PyData) (a e : PyData) : Option PyData := match a with
  | .str s => g s e
  | _ => none
section
variable {K : Fg} {ta tb : TE} {fa fb : Rho → Option PyData}
theorem ef_m1 {r : V → List V → Hp → VK → Prop} {g : Str → PyData → Option PyData} (h : Em1 K r g) (ha : EB K ta fa) (hb : EB K tb fb) : EF K (tM1 r ta tb) (fun ρ => bnd2 (fa ρ) (fb ρ) (m1D g)) := fun A ρ σ H d rs e H1 e1 Q q => by
  obtain ⟨x, y, ex, ey, eg⟩ := bnd2_some e
  unfold m1D at eg
  split at eg
  · rename_i s
    refine ha A ρ σ H _ rs ex H1 e1 _ fun v H2 e2 r2 => ?_
    have av2 := (rs.av.mono e1).mono e2
    have ev := r2.str
    subst ev
    refine ⟨⟨s, rfl⟩, ?_⟩
    refine hb A ρ σ H _ rs ey H2 (e1.trans e2) _ fun w H3 e3 r3 => ?_
    exact h A H3 s y w d (av2.mono e3) r3 eg Q fun v H4 e4 r4 => q v H4 ((e2.trans e3).trans e4) r4
  · cases eg
end
def rJoin (K : Fg) : V → List V → Hp → VK → Prop := fun x xs H Q => ∃ a p, ∃ ys : List Str, x = .str a ∧ xs = [.ref p] ∧ (SqL K H p (ys.map V.str) ∨ SqT K H p (ys.map V.str)) ∧
    (ys.map (·.length)).sum + ys.length * a.length ≤ 16777216 ∧ Q (.str (Txt.join a ys)) H
theorem mt_joinK {X : Cx} (K : Fg) (hK : X.K = K) : MtR X "str.join" (rJoin K) := by subst hK; exact mt_join
def itD : PyData → Option (List PyData)
  | .list ds => some ds
  | .tuple ds => some ds
  | _ => none
def joinG (a : Str) (e : PyData) : Option PyData := ((itD e).bind strsO).bind fun ys => if (ys.map (·.length)).sum + ys.length * a.length ≤ 16777216 then some (.str (Txt.join a ys)) else none
section
variable {K : Fg}
theorem em_join : Em1 K (rJoin K) joinG := fun A H s e y z ok ry h Q q => by
  unfold joinG at h
  obtain ⟨ys, hy, h⟩ := bind_some' h
  obtain ⟨ds, hd, hy⟩ := bind_some' hy
  split at h
  · rename_i hl
    cases h
    cases e with
    | list ds' =>
      cases hd
      obtain ⟨a, xs, rfl, n, r⟩ := ry.lst
      have := strsO_rep hy r
      subst this
      exact ⟨s, a, ys, rfl, rfl, .inl (SqL.of n), hl, q _ H (Ex.refl _) rep_str⟩
    | tuple ds' =>
      cases hd
      obtain ⟨a, xs, rfl, n, r⟩ := ry.tup
      have := strsO_rep hy r
      subst this
      exact ⟨s, a, ys, rfl, rfl, .inr n, hl, q _ H (Ex.refl _) rep_str⟩
    | _ => cases hd
  · cases h
end
end Sv
namespace Sv
open PySem L2 Evl
end Sv
namespace Sv
open PySem L2 Evl
def fb__law_any (m__law_drawn : List PyData → Option PyData) : Rho → Option Res := fun ρ =>
  seqR (asgR 2 ρ (some (.str "abcdefghijklmnopqrstuvwxyz"))) fun ρ =>
  retR (bnd2 (some (.str "")) (compL (((bnd2 (bnd2 (some (.int 1)) (bnd2 (gb 0 ρ) (gb 1 ρ) modD) addD) (some []) consD)).bind rng1D) tg1 [3] (fun ρ => some true) (fun ρ => bnd2 (gb 2 ρ) (bnd2 (bnd2 (((bnd2 (gv 0 ρ) ((bnd2 (bnd2 (some (.int 70)) (gb 3 ρ) addD) (some []) consD)) consD)).bind m__law_drawn) (some (.int 4)) fdivD) (some (.int 26)) modD) ixD) [3] ρ) (m1D joinG))
def fb__law_swapped (m__law_swapped : List PyData → Option PyData) : Rho → Option Res := fun ρ =>
  seqR (ifR (((gb 0 ρ).bind (isiD "tuple")).bind asB) (retR ((compL ((gb 0 ρ).bind walkD) tg1 [2] (fun ρ => some true) (fun ρ => ((bnd2 (gv 2 ρ) ((bnd2 (gv 1 ρ) (some []) consD)) consD)).bind m__law_swapped) [2] ρ).bind tupleD)) (some (.nx ρ))) fun ρ =>
  seqR (ifR (((gb 0 ρ).bind (isiD "str")).bind asB) (retR ((gb 1 ρ).bind fun d => bnd2 (gv 0 ρ) (gv 0 ρ) (getD2 d))) (some (.nx ρ))) fun ρ =>
  retR (gv 0 ρ)
def fb__law_is_name : Rho → Option Res := fun ρ =>
  seqR (ifR (orB ((((gb 0 ρ).bind (isiD "str")).bind asB).map not) (((chainD leD leD (some (.int 1)) ((gb 0 ρ).bind lenD) (some (.int 5))).bind asB).map not)) (retR (some (.bool false))) (some (.nx ρ))) fun ρ =>
  retR (bnd2 (compL ((gb 0 ρ).bind walkD) tg1 [1] (fun ρ => ((chainD leST leST (some (.str "a")) (gv 1 ρ) (some (.str "z"))).bind asB).map not) (fun ρ => gv 1 ρ) [1] ρ) ((some []).bind lstD) eqD)
def fb__law_is_number : Rho → Option Res := fun ρ =>
  retR (andV ((gb 0 ρ).bind (isiD "int")) (andV (notV ((gb 0 ρ).bind (isiD "bool"))) (chainD leD leD (some (.int 0)) (gv 0 ρ) (some (.int 999)))))
def fb__law_is_test (m__law_is_test : List PyData → Option PyData) (m__law_is_number : List PyData → Option PyData) (m__law_is_name : List PyData → Option PyData) : Rho → Option Res := fun ρ =>
  seqR (ifR (orB ((bnd2 (gb 1 ρ) (some (.int 0)) eqD).bind asB) (orB ((((gb 0 ρ).bind (isiD "tuple")).bind asB).map not) (orB ((bnd2 (gb 0 ρ) ((some []).bind tupD) eqD).bind asB) ((((bnd2 (gb 0 ρ) (some (.int 0)) ixD).bind (isiD "str")).bind asB).map not)))) (retR (some (.bool false))) (some (.nx ρ))) fun ρ =>
  seqR (asgR 2 ρ ((((dispP (some (.str "from")) ((some (.int 2)).map .dat) ((dispP (some (.str "word")) ((some (.int 2)).map .dat) ((dispP (some (.str "over")) ((some (.int 2)).map .dat) ((dispP (some (.str "marked")) ((some (.int 2)).map .dat) ((dispP (some (.str "yes")) ((some (.int 1)).map .dat) ((dispP (some (.str "not")) ((some (.int 2)).map .dat) ((dispP (some (.str "both")) ((some (.int 3)).map .dat) ((dispP (some (.str "either")) ((some (.int 3)).map .dat) (some []))))))))))))))))).bind dispO).bind flat)) fun ρ =>
  seqR (ifR ((bnd2 ((gb 0 ρ).bind lenD) ((gb 2 ρ).bind fun d => bnd2 (bnd2 (gb 0 ρ) (some (.int 0)) ixD) (some (.int 0)) (getD2 d)) neD).bind asB) (retR (some (.bool false))) (some (.nx ρ))) fun ρ =>
  seqR (ifR ((bnd2 (bnd2 (gb 0 ρ) (some (.int 0)) ixD) (((bnd2 (some (.str "not")) ((bnd2 (some (.str "both")) ((bnd2 (some (.str "either")) (some []) consD)) consD)) consD)).bind tupD) inD).bind asB) (retR (bnd2 (compL (((gb 0 ρ).bind fun d => bnd2 (partI (some (.int 1))) (some none) (slD d)).bind walkD) tg1 [3] (fun ρ => ((((bnd2 (gv 3 ρ) ((bnd2 (bnd2 (gb 1 ρ) (some (.int 1)) subD) (some []) consD)) consD)).bind m__law_is_test).bind asB).map not) (fun ρ => gv 3 ρ) [3] ρ) ((some []).bind lstD) eqD)) (some (.nx ρ))) fun ρ =>
  seqR (ifR ((bnd2 (bnd2 (gb 0 ρ) (some (.int 0)) ixD) (some (.str "over")) eqD).bind asB) (retR (((bnd2 (bnd2 (gb 0 ρ) (some (.int 1)) ixD) (some []) consD)).bind m__law_is_number)) (some (.nx ρ))) fun ρ =>
  retR (orV (bnd2 (bnd2 (gb 0 ρ) (some (.int 0)) ixD) (some (.str "yes")) eqD) (((bnd2 (bnd2 (gb 0 ρ) (some (.int 1)) ixD) (some []) consD)).bind m__law_is_name))
def fb__law_is_deed (m__law_is_name : List PyData → Option PyData) : Rho → Option Res := fun ρ =>
  seqR (ifR (orB ((((gb 0 ρ).bind (isiD "tuple")).bind asB).map not) (orB ((bnd2 (gb 0 ρ) ((some []).bind tupD) eqD).bind asB) ((((bnd2 (gb 0 ρ) (some (.int 0)) ixD).bind (isiD "str")).bind asB).map not))) (retR (some (.bool false))) (some (.nx ρ))) fun ρ =>
  seqR (ifR ((bnd2 (bnd2 (gb 0 ρ) (some (.int 0)) ixD) (((bnd2 (some (.str "drop")) ((bnd2 (some (.str "stop")) (some []) consD)) consD)).bind tupD) inD).bind asB) (retR (bnd2 ((gb 0 ρ).bind lenD) (some (.int 1)) eqD)) (some (.nx ρ))) fun ρ =>
  seqR (ifR (orB ((bnd2 (bnd2 (gb 0 ρ) (some (.int 0)) ixD) (((bnd2 (some (.str "lay")) ((bnd2 (some (.str "send")) ((bnd2 (some (.str "answer")) ((bnd2 (some (.str "mark")) ((bnd2 (some (.str "unmark")) ((bnd2 (some (.str "call")) (some []) consD)) consD)) consD)) consD)) consD)) consD)).bind tupD) notInD).bind asB) ((bnd2 ((gb 0 ρ).bind lenD) (some (.int 2)) neD).bind asB)) (retR (some (.bool false))) (some (.nx ρ))) fun ρ =>
  retR (andV (((bnd2 (bnd2 (gb 0 ρ) (some (.int 1)) ixD) (some []) consD)).bind m__law_is_name) (orV (bnd2 (bnd2 (gb 0 ρ) (some (.int 0)) ixD) (some (.str "call")) neD) (bnd2 (bnd2 (gb 0 ρ) (some (.int 1)) ixD) (gb 1 ρ) inD)))
def fb__law_is_rule (m__law_is_test : List PyData → Option PyData) (m__law_is_deed : List PyData → Option PyData) : Rho → Option Res := fun ρ =>
  seqR (ifR (orB ((((gb 0 ρ).bind (isiD "tuple")).bind asB).map not) (orB ((bnd2 ((gb 0 ρ).bind lenD) (some (.int 2)) neD).bind asB) (((((bnd2 (bnd2 (gb 0 ρ) (some (.int 0)) ixD) ((bnd2 (some (.int 3)) (some []) consD)) consD)).bind m__law_is_test).bind asB).map not))) (retR (some (.bool false))) (some (.nx ρ))) fun ρ =>
  seqR (ifR (orB ((((bnd2 (gb 0 ρ) (some (.int 1)) ixD).bind (isiD "tuple")).bind asB).map not) (((chainD leD leD (some (.int 1)) ((bnd2 (gb 0 ρ) (some (.int 1)) ixD).bind lenD) (some (.int 3))).bind asB).map not)) (retR (some (.bool false))) (some (.nx ρ))) fun ρ =>
  retR (bnd2 (compL ((bnd2 (gb 0 ρ) (some (.int 1)) ixD).bind walkD) tg1 [2] (fun ρ => ((((bnd2 (gv 2 ρ) ((bnd2 (gv 1 ρ) (some []) consD)) consD)).bind m__law_is_deed).bind asB).map not) (fun ρ => gv 2 ρ) [2] ρ) ((some []).bind lstD) eqD)
def fb__law_is_book_b1 (m__law_is_name : List PyData → Option PyData) (m__law_is_rule : List PyData → Option PyData) : Rho → Option Res := fun ρ =>
  seqR (ifR (orB ((((gb 1 ρ).bind (isiD "tuple")).bind asB).map not) (orB ((bnd2 ((gb 1 ρ).bind lenD) (some (.int 2)) neD).bind asB) (((((bnd2 (bnd2 (gb 1 ρ) (some (.int 0)) ixD) (some []) consD)).bind m__law_is_name).bind asB).map not))) (retR (some (.bool false))) (some (.nx ρ))) fun ρ =>
  ifR (orB ((((bnd2 (gb 1 ρ) (some (.int 1)) ixD).bind (isiD "tuple")).bind asB).map not) ((bnd2 ((bnd2 (gb 1 ρ) (some (.int 1)) ixD).bind lenD) (some (.int 4)) gtD).bind asB)) (retR (some (.bool false))) (some (.nx ρ))
def fb__law_is_book_b2 (m__law_is_name : List PyData → Option PyData) (m__law_is_rule : List PyData → Option PyData) : Rho → Option Res := fun ρ =>
  ifR ((bnd2 (compL ((bnd2 (gb 1 ρ) (some (.int 1)) ixD).bind walkD) tg1 [3] (fun ρ => ((((bnd2 (gv 3 ρ) ((bnd2 (gv 2 ρ) (some []) consD)) consD)).bind m__law_is_rule).bind asB).map not) (fun ρ => gv 3 ρ) [3] ρ) ((some []).bind lstD) neD).bind asB) (retR (some (.bool false))) (some (.nx ρ))
def fb__law_is_book (m__law_is_name : List PyData → Option PyData) (m__law_is_rule : List PyData → Option PyData) : Rho → Option Res := fun ρ =>
  seqR (ifR (orB ((((gb 0 ρ).bind (isiD "tuple")).bind asB).map not) (((chainD leD leD (some (.int 1)) ((gb 0 ρ).bind lenD) (some (.int 3))).bind asB).map not)) (retR (some (.bool false))) (some (.nx ρ))) fun ρ =>
  seqR (forR ((gv 0 ρ).bind walkD) tg1 [1] (fb__law_is_book_b1 m__law_is_name m__law_is_rule) ρ) fun ρ =>
  seqR (asgR 2 ρ (compL ((gb 0 ρ).bind walkD) tg1 [1] (fun ρ => some true) (fun ρ => bnd2 (gb 1 ρ) (some (.int 0)) ixD) [1] ρ)) fun ρ =>
  seqR (ifR (orB ((bnd2 (gb 2 ρ) ((gb 2 ρ).bind (sortSetD keyKind 1001)) neD).bind asB) ((bnd2 (some (.str "main")) (gb 2 ρ) notInD).bind asB)) (retR (some (.bool false))) (some (.nx ρ))) fun ρ =>
  seqR (forR ((gv 0 ρ).bind walkD) tg1 [1] (fb__law_is_book_b2 m__law_is_name m__law_is_rule) ρ) fun ρ =>
  retR (some (.bool true))
def fb__law_are_names (m__law_is_name : List PyData → Option PyData) : Rho → Option Res := fun ρ =>
  seqR (ifR (orB ((((gb 0 ρ).bind (isiD "tuple")).bind asB).map not) (orB ((bnd2 ((gb 0 ρ).bind lenD) (some (.int 3)) gtD).bind asB) ((bnd2 (compL ((gb 0 ρ).bind walkD) tg1 [1] (fun ρ => ((((bnd2 (gv 1 ρ) (some []) consD)).bind m__law_is_name).bind asB).map not) (fun ρ => gv 1 ρ) [1] ρ) ((some []).bind lstD) neD).bind asB))) (retR (some (.bool false))) (some (.nx ρ))) fun ρ =>
  retR (bnd2 ((gb 0 ρ).bind listD) ((gb 0 ρ).bind (sortSetD keyKind 1001)) eqD)
def fb__law_is_letter (m__law_is_name : List PyData → Option PyData) (m__law_is_number : List PyData → Option PyData) (m__law_are_names : List PyData → Option PyData) : Rho → Option Res := fun ρ =>
  seqR (ifR (orB ((((gb 0 ρ).bind (isiD "tuple")).bind asB).map not) (orB ((bnd2 ((gb 0 ρ).bind lenD) (some (.int 4)) neD).bind asB) (orB (((((bnd2 (bnd2 (gb 0 ρ) (some (.int 0)) ixD) (some []) consD)).bind m__law_is_name).bind asB).map not) (((((bnd2 (bnd2 (gb 0 ρ) (some (.int 2)) ixD) (some []) consD)).bind m__law_is_number).bind asB).map not)))) (retR (some (.bool false))) (some (.nx ρ))) fun ρ =>
  retR (andV (((bnd2 (bnd2 (gb 0 ρ) (some (.int 1)) ixD) (some []) consD)).bind m__law_are_names) (((bnd2 (bnd2 (gb 0 ρ) (some (.int 3)) ixD) (some []) consD)).bind m__law_are_names))
def fb__law_edges_b1 (m__law_drawn : List PyData → Option PyData) : Rho → Option Res := fun ρ =>
  seqR (asgR 3 ρ (((bnd2 (((bnd2 (some (.str "not")) ((bnd2 (gv 1 ρ) (some []) consD)) consD)).bind tupD) ((bnd2 (((bnd2 (some (.str "both")) ((bnd2 (gv 1 ρ) ((bnd2 (((bnd2 (some (.str "yes")) (some []) consD)).bind tupD) (some []) consD)) consD)) consD)).bind tupD) ((bnd2 (((bnd2 (some (.str "either")) ((bnd2 (((bnd2 (some (.str "yes")) (some []) consD)).bind tupD) ((bnd2 (gv 1 ρ) (some []) consD)) consD)) consD)).bind tupD) ((bnd2 (((bnd2 (some (.str "both")) ((bnd2 (((bnd2 (some (.str "yes")) (some []) consD)).bind tupD) ((bnd2 (gv 1 ρ) (some []) consD)) consD)) consD)).bind tupD) (some []) consD)) consD)) consD)) consD)).bind tupD)) fun ρ =>
  asgR 1 ρ (bnd2 (gb 3 ρ) (bnd2 (bnd2 (((bnd2 (gv 0 ρ) ((bnd2 (gv 2 ρ) (some []) consD)) consD)).bind m__law_drawn) (some (.int 4)) fdivD) (some (.int 4)) modD) ixD)
def fb__law_edges (m__law_drawn : List PyData → Option PyData) : Rho → Option Res := fun ρ =>
  seqR (asgR 1 ρ (((bnd2 (some (.str "word")) ((bnd2 ((some (.str "abcdefg")).bind fun d => bnd2 (some none) (partI (bnd2 (some (.int 4)) (bnd2 (gb 0 ρ) (some (.int 3)) modD) addD)) (slS d)) (some []) consD)) consD)).bind tupD)) fun ρ =>
  seqR (forR (((bnd2 (bnd2 (bnd2 (gb 0 ρ) (some (.int 4)) fdivD) (some (.int 5)) modD) (some []) consD)).bind rng1D) tg1 [2] (fb__law_edges_b1 m__law_drawn) ρ) fun ρ =>
  seqR (asgR 4 ρ (((bnd2 (((bnd2 (some (.str "main")) ((bnd2 (((bnd2 (((bnd2 (gv 1 ρ) ((bnd2 (((bnd2 (((bnd2 (some (.str "stop")) (some []) consD)).bind tupD) (some []) consD)).bind tupD) (some []) consD)) consD)).bind tupD) (some []) consD)).bind tupD) (some []) consD)) consD)).bind tupD) (some []) consD)).bind tupD)) fun ρ =>
  seqR (asgR 5 ρ ((((bnd2 (some (.str "a")) ((bnd2 (some (.str "b")) ((bnd2 (some (.str "c")) ((bnd2 (some (.str "d")) (some []) consD)) consD)) consD)) consD)).bind tupD).bind fun d => bnd2 (some none) (partI (bnd2 (some (.int 2)) (bnd2 (bnd2 (gb 0 ρ) (some (.int 256)) fdivD) (some (.int 3)) modD) addD)) (slD d))) fun ρ =>
  seqR (asgR 6 ρ ((((bnd2 (some (.str "m")) ((bnd2 (some (.str "n")) ((bnd2 (some (.str "o")) ((bnd2 (some (.str "p")) (some []) consD)) consD)) consD)) consD)).bind tupD).bind fun d => bnd2 (some none) (partI (bnd2 (some (.int 2)) (bnd2 (bnd2 (gb 0 ρ) (some (.int 4096)) fdivD) (some (.int 3)) modD) addD)) (slD d))) fun ρ =>
  retR (((bnd2 (gv 4 ρ) ((bnd2 (((bnd2 (some (.str "ann")) ((bnd2 (gv 5 ρ) ((bnd2 (bnd2 (some (.int 998)) (bnd2 (bnd2 (gb 0 ρ) (some (.int 1024)) fdivD) (some (.int 3)) modD) addD) ((bnd2 (gv 6 ρ) (some []) consD)) consD)) consD)) consD)).bind tupD) (some []) consD)) consD)).bind tupD)
end Sv
namespace Sv
open PySem L2 Evl
def fb_is_name : Rho → Option Res := fun ρ =>
  retR (andV ((gb 0 ρ).bind (isiD "str")) (andV (chainD leD leD (some (.int 1)) ((gb 0 ρ).bind lenD) (some (.int 5))) ((compL ((gb 0 ρ).bind walkD) tg1 [1] (fun ρ => some true) (fun ρ => bnd2 (gb 1 ρ) (some (.str "abcdefghijklmnopqrstuvwxyz")) inSg) [1] ρ).bind allD)))
def fb_is_number : Rho → Option Res := fun ρ =>
  retR (andV ((gb 0 ρ).bind (isiD "int")) (andV (notV ((gb 0 ρ).bind (isiD "bool"))) (chainD leD leD (some (.int 0)) (gv 0 ρ) (some (.int 999)))))
def fb_are_rising : Rho → Option Res := fun ρ =>
  retR ((compL (bnd2 ((gb 0 ρ).bind fun d => bnd2 (some none) (partI ((some (.int 1)).bind negD)) (slD d)) ((gb 0 ρ).bind fun d => bnd2 (partI (some (.int 1))) (some none) (slD d)) zipD) (tgT 2 (tgC tg1 (tgC tg1 tgN))) [1, 2] (fun ρ => some true) (fun ρ => bnd2 (gb 1 ρ) (gb 2 ρ) ltD) [1, 2] ρ).bind allD)
def fb_are_names (m_is_name : List PyData → Option PyData) (m_are_rising : List PyData → Option PyData) : Rho → Option Res := fun ρ =>
  seqR (ifR (orB ((((gb 0 ρ).bind (isiD "tuple")).bind asB).map not) (orB ((bnd2 ((gb 0 ρ).bind lenD) (some (.int 3)) gtD).bind asB) ((((compL ((gb 0 ρ).bind walkD) tg1 [1] (fun ρ => some true) (fun ρ => ((bnd2 (gv 1 ρ) (some []) consD)).bind m_is_name) [1] ρ).bind allD).bind asB).map not))) (retR (some (.bool false))) (some (.nx ρ))) fun ρ =>
  retR (((bnd2 (gv 0 ρ) (some []) consD)).bind m_are_rising)
def fb_is_letter (m_is_name : List PyData → Option PyData) (m_are_names : List PyData → Option PyData) (m_is_number : List PyData → Option PyData) : Rho → Option Res := fun ρ =>
  seqR (ifR (orB ((((gb 0 ρ).bind (isiD "tuple")).bind asB).map not) ((bnd2 ((gb 0 ρ).bind lenD) (some (.int 4)) neD).bind asB)) (retR (some (.bool false))) (some (.nx ρ))) fun ρ =>
  retR (andV (((bnd2 (bnd2 (gb 0 ρ) (some (.int 0)) ixD) (some []) consD)).bind m_is_name) (andV (((bnd2 (bnd2 (gb 0 ρ) (some (.int 1)) ixD) (some []) consD)).bind m_are_names) (andV (((bnd2 (bnd2 (gb 0 ρ) (some (.int 2)) ixD) (some []) consD)).bind m_is_number) (((bnd2 (bnd2 (gb 0 ρ) (some (.int 3)) ixD) (some []) consD)).bind m_are_names))))
def fb_is_test (m_is_test : List PyData → Option PyData) (m_is_number : List PyData → Option PyData) (m_is_name : List PyData → Option PyData) : Rho → Option Res := fun ρ =>
  seqR (ifR (orB ((bnd2 (gb 1 ρ) (some (.int 0)) eqD).bind asB) (orB ((((gb 0 ρ).bind (isiD "tuple")).bind asB).map not) (orB ((bnd2 ((gb 0 ρ).bind lenD) (some (.int 0)) eqD).bind asB) ((((bnd2 (gb 0 ρ) (some (.int 0)) ixD).bind (isiD "str")).bind asB).map not)))) (retR (some (.bool false))) (some (.nx ρ))) fun ρ =>
  seqR (asgR 2 ρ (bnd2 (gb 0 ρ) (some (.int 0)) ixD)) fun ρ =>
  seqR (ifR ((bnd2 (gb 2 ρ) (some (.tuple [.str "both", .str "either"])) inD).bind asB) (retR (andV (bnd2 ((gb 0 ρ).bind lenD) (some (.int 3)) eqD) (andV (((bnd2 (bnd2 (gb 0 ρ) (some (.int 1)) ixD) ((bnd2 (bnd2 (gb 1 ρ) (some (.int 1)) subD) (some []) consD)) consD)).bind m_is_test) (((bnd2 (bnd2 (gb 0 ρ) (some (.int 2)) ixD) ((bnd2 (bnd2 (gb 1 ρ) (some (.int 1)) subD) (some []) consD)) consD)).bind m_is_test)))) (some (.nx ρ))) fun ρ =>
  seqR (ifR ((bnd2 (gb 2 ρ) (some (.str "yes")) eqD).bind asB) (retR (bnd2 ((gb 0 ρ).bind lenD) (some (.int 1)) eqD)) (some (.nx ρ))) fun ρ =>
  seqR (ifR ((bnd2 ((gb 0 ρ).bind lenD) (some (.int 2)) neD).bind asB) (retR (some (.bool false))) (some (.nx ρ))) fun ρ =>
  seqR (ifR ((bnd2 (gb 2 ρ) (some (.str "not")) eqD).bind asB) (retR (((bnd2 (bnd2 (gb 0 ρ) (some (.int 1)) ixD) ((bnd2 (bnd2 (gb 1 ρ) (some (.int 1)) subD) (some []) consD)) consD)).bind m_is_test)) (some (.nx ρ))) fun ρ =>
  seqR (ifR ((bnd2 (gb 2 ρ) (some (.str "over")) eqD).bind asB) (retR (((bnd2 (bnd2 (gb 0 ρ) (some (.int 1)) ixD) (some []) consD)).bind m_is_number)) (some (.nx ρ))) fun ρ =>
  retR (andV (bnd2 (gb 2 ρ) (some (.tuple [.str "from", .str "word", .str "marked"])) inD) (((bnd2 (bnd2 (gb 0 ρ) (some (.int 1)) ixD) (some []) consD)).bind m_is_name))
def fb_is_deed (m_is_name : List PyData → Option PyData) : Rho → Option Res := fun ρ =>
  seqR (ifR (orB ((((gb 0 ρ).bind (isiD "tuple")).bind asB).map not) (orB ((bnd2 ((gb 0 ρ).bind lenD) (some (.int 0)) eqD).bind asB) ((((bnd2 (gb 0 ρ) (some (.int 0)) ixD).bind (isiD "str")).bind asB).map not))) (retR (some (.bool false))) (some (.nx ρ))) fun ρ =>
  seqR (ifR ((bnd2 (bnd2 (gb 0 ρ) (some (.int 0)) ixD) (((bnd2 (some (.str "drop")) ((bnd2 (some (.str "stop")) (some []) consD)) consD)).bind tupD) inD).bind asB) (retR (bnd2 ((gb 0 ρ).bind lenD) (some (.int 1)) eqD)) (some (.nx ρ))) fun ρ =>
  retR (andV (bnd2 (bnd2 (gb 0 ρ) (some (.int 0)) ixD) (some (.tuple [.str "lay", .str "send", .str "answer", .str "mark", .str "unmark", .str "call"])) inD) (andV (bnd2 ((gb 0 ρ).bind lenD) (some (.int 2)) eqD) (((bnd2 (bnd2 (gb 0 ρ) (some (.int 1)) ixD) (some []) consD)).bind m_is_name)))
def fb_is_rule (m_is_test : List PyData → Option PyData) (m_is_deed : List PyData → Option PyData) : Rho → Option Res := fun ρ =>
  seqR (ifR (orB ((((gb 0 ρ).bind (isiD "tuple")).bind asB).map not) (orB ((bnd2 ((gb 0 ρ).bind lenD) (some (.int 2)) neD).bind asB) (((((bnd2 (bnd2 (gb 0 ρ) (some (.int 0)) ixD) ((bnd2 (some (.int 3)) (some []) consD)) consD)).bind m_is_test).bind asB).map not))) (retR (some (.bool false))) (some (.nx ρ))) fun ρ =>
  seqR (ifR (orB ((((bnd2 (gb 0 ρ) (some (.int 1)) ixD).bind (isiD "tuple")).bind asB).map not) (((chainD leD leD (some (.int 1)) ((bnd2 (gb 0 ρ) (some (.int 1)) ixD).bind lenD) (some (.int 3))).bind asB).map not)) (retR (some (.bool false))) (some (.nx ρ))) fun ρ =>
  retR ((compL ((bnd2 (gb 0 ρ) (some (.int 1)) ixD).bind walkD) tg1 [1] (fun ρ => some true) (fun ρ => ((bnd2 (gv 1 ρ) (some []) consD)).bind m_is_deed) [1] ρ).bind allD)
def fb_is_part (m_is_name : List PyData → Option PyData) (m_is_rule : List PyData → Option PyData) : Rho → Option Res := fun ρ =>
  seqR (ifR (orB ((((gb 0 ρ).bind (isiD "tuple")).bind asB).map not) (orB ((bnd2 ((gb 0 ρ).bind lenD) (some (.int 2)) neD).bind asB) (orB (((((bnd2 (bnd2 (gb 0 ρ) (some (.int 0)) ixD) (some []) consD)).bind m_is_name).bind asB).map not) ((((bnd2 (gb 0 ρ) (some (.int 1)) ixD).bind (isiD "tuple")).bind asB).map not)))) (retR (some (.bool false))) (some (.nx ρ))) fun ρ =>
  retR (andV (bnd2 ((bnd2 (gb 0 ρ) (some (.int 1)) ixD).bind lenD) (some (.int 4)) leD) ((compL ((bnd2 (gb 0 ρ) (some (.int 1)) ixD).bind walkD) tg1 [1] (fun ρ => some true) (fun ρ => ((bnd2 (gv 1 ρ) (some []) consD)).bind m_is_rule) [1] ρ).bind allD))
def fb_calls_of : Rho → Option Res := fun ρ =>
  retR (compL ((bnd2 (gb 0 ρ) (some (.int 1)) ixD).bind walkD) tg1 [1] (fun ρ => (bnd2 (bnd2 (gb 1 ρ) (some (.int 0)) ixD) (some (.str "call")) eqD).bind asB) (fun ρ => bnd2 (gb 1 ρ) (some (.int 1)) ixD) [1] ρ)
def fb_is_book (m_is_part : List PyData → Option PyData) (m_are_rising : List PyData → Option PyData) (m_calls_of : List PyData → Option PyData) : Rho → Option Res := fun ρ =>
  seqR (ifR (orB ((((gb 0 ρ).bind (isiD "tuple")).bind asB).map not) (orB (((chainD leD leD (some (.int 1)) ((gb 0 ρ).bind lenD) (some (.int 3))).bind asB).map not) ((((compL ((gb 0 ρ).bind walkD) tg1 [2] (fun ρ => some true) (fun ρ => ((bnd2 (gv 2 ρ) (some []) consD)).bind m_is_part) [2] ρ).bind allD).bind asB).map not))) (retR (some (.bool false))) (some (.nx ρ))) fun ρ =>
  seqR (asgR 1 ρ (compL ((gb 0 ρ).bind walkD) tg1 [2] (fun ρ => some true) (fun ρ => bnd2 (gb 2 ρ) (some (.int 0)) ixD) [2] ρ)) fun ρ =>
  seqR (ifR (orB (((((bnd2 (gv 1 ρ) (some []) consD)).bind m_are_rising).bind asB).map not) ((bnd2 (some (.str "main")) (gb 1 ρ) notInD).bind asB)) (retR (some (.bool false))) (some (.nx ρ))) fun ρ =>
  seqR (forR ((gv 0 ρ).bind walkD) tg1 [2] (fun ρ =>
  forR ((bnd2 (gb 2 ρ) (some (.int 1)) ixD).bind walkD) tg1 [3] (fun ρ =>
  ifR ((((compL ((((bnd2 (gv 3 ρ) (some []) consD)).bind m_calls_of).bind walkD) tg1 [4] (fun ρ => some true) (fun ρ => bnd2 (gb 4 ρ) (gb 1 ρ) inD) [4] ρ).bind allD).bind asB).map not) (retR (some (.bool false))) (some (.nx ρ))) ρ) ρ) fun ρ =>
  retR (some (.bool true))
end Sv
namespace Sv
open PySem L2 Evl
end Sv
namespace Sv
open PySem L2 Evl
open PySem.W (SortsAt sortVals sortVals_each sortVals_length sortLe keyToks KatTups kat_lt kat_cons kat_go kat_yes kat_no kat_nil kat_kind list_sort_vals sortingHeap sortingHeap_old)
open PyProof.Rows (KeyKind listOrd itemOrd)
end Sv
namespace Sv
open PySem PySem.SeqAt
open AutoSeq1 (wpAny_loadPart')
open MeetsSeq MeetsSeq2 MeetsSeq3 SeqRoads2
/-- place by place, up to the first that differs -/
def LexAt (A : Around) (s : Shared) : List (Value × Value) → Bool → Bool → Prop
  | [], fin, k => k = fin
  | p :: r, fin, k => (EqAt A s p.1 p.2 true ∧ LexAt A s r fin k) ∨ (EqAt A s p.1 p.2 false ∧ RcLt A s p.1 p.2 k)
theorem tup_lt1 (l b : Addr) (its jts : Array Value) (n m : Nat) (d1 d2 : Option Addr) (s1 s2 : Array (Option Value)) (k : Bool) :
    Meets (Builtin.«tuple.__lt__» ⟨[.ref l, .ref b], []⟩)
      (fun A R s => s.heap.get? l = some { cls := .type "tuple", dict := d1, data := .seq its n, slots := s1 } ∧ s.heap.get? b = some { cls := .type "tuple", dict := d2, data := .seq jts m, slots := s2 } ∧ LexAt A.in1 s (its.toList.zip jts.toList) (decide (its.size < jts.size)) k ∧ R (.ok (.ret (.bool k))) s) :=
  .of_wp fun prog w A R s h => by
    obtain ⟨hp, g, d, tk, os⟩ := s
    obtain ⟨hl, hb, hx, h⟩ := h
    have st := AutoSeq1.sub_tuple_tuple
    wp_walk using wpAny_loadPart' hl, wpAny_loadPart' hb, wpAny_forIn_list _ (fun rest c s' => c.1 = none ∧ s' = ⟨hp, g, d, tk, os⟩ ∧ LexAt A.in1 ⟨hp, g, d, tk, os⟩ rest (decide (its.size < jts.size)) k) _
    case turn =>
      rintro ⟨y, x⟩ rest c s' ⟨hc, rfl, hx⟩
      rcases hx with ⟨e, hx⟩ | ⟨e, hx⟩
      · refine wpAny_bind (e prog w _ _ ?_)
        wp_walk
        exact ⟨rfl, rfl, hx⟩
      · refine wpAny_bind (e prog w _ _ ?_)
        have less : ∀ (E : Value → Shared → Prop) (Q : Value → Shared → Prop), Q (.bool k) ⟨hp, g, d, tk, os⟩ → wpAny (model prog w) A.in1 (richCompare .Lt y x) Q E ⟨hp, g, d, tk, os⟩ := hx prog w
        generalize richCompare CmpOp.Lt y x = rc at less ⊢
        wp_walk
        refine less _ _ ?_
        wp_walk
        exact ⟨_, rfl, h⟩
    case fin =>
      rintro ⟨b1, b2⟩ s' ⟨hc, rfl, hx⟩
      simp only at hc
      subst hc
      have hx : k = decide (its.size < jts.size) := hx
      subst hx
      wp_walk
      exact ⟨_, rfl, by simpa [Builtin.Tuple.tupleCompareSizes] using h⟩
    case h => exact ⟨rfl, rfl, hx⟩
theorem rcLt_lex {A : Around} {s : Shared} {l b : Addr} {its jts : Array Value} {k : Bool} (hl : s.heap.IsTuple l its) (hb : s.heap.IsTuple b jts) (hu : A.units < cLine) (hx : LexAt A.in1 s (its.toList.zip jts.toList) (decide (its.size < jts.size)) k) : RcLt A s (.ref l) (.ref b) k := fun prog w E Q h => by
  obtain ⟨⟨c1, d1, da1, s1⟩, h1, e1, n, f1⟩ := id hl
  obtain ⟨⟨c2, d2, da2, s2⟩, h2, e2, m, f2⟩ := id hb
  simp only at e1 f1 e2 f2
  subst e1 f1 e2 f2
  exact richCompare_meets_room (op := .Lt) ⟨_, h1, rfl⟩ ⟨_, h2, rfl⟩ F.slot_tuple_lt F.entry_tuple_lt (F.args_tuple_lt_2 _ _) (tup_lt1 l b its jts n m d1 d2 s1 s2 k) ⟨h1, h2, hx, (show Value.bool k ≠ Value.notImplemented ∧ Q (.bool k) s from ⟨(fun z => nomatch z), h⟩)⟩ hu
end Sv
namespace Sv
open PySem L2 Evl
open PySem.W (SortsAt sortVals sortVals_each sortVals_length sortLe keyToks keyToksAll dataLt dataKind dataKind_inv KatTups kat_lt kat_cons kat_yes kat_no kat_nil kat_kind list_sort_vals sortingHeap sortingHeap_old lex_pre lex_atom toks_all_cons EachIs)
open PyProof.Rows (KeyKind listOrd itemOrd lexLt)
mutual
/-- the first place that differs can be compared -/
def cmpW : PyData → PyData → Bool
  | .int _, .int _ => true
  | .str _, .str _ => true
  | .tuple xs, .tuple ys => cmpWL xs ys
  | _, _ => false
def cmpWL : List PyData → List PyData → Bool
  | x :: xs, y :: ys => if PyData.eqv x y then cmpWL xs ys else cmpW x y
  | [], _ => true
  | _ :: _, [] => true
end
mutual
theorem eqv_toks : ∀ x y : PyData, PyData.eqv x y = true → keyToks x = keyToks y
  | .none, y, h => by cases y <;> first | rfl | simp [PyData.eqv] at h
  | .bool a, y, h => by
    cases y with
    | bool b => simp [PyData.eqv] at h; rw [h]
    | int j => simp [PyData.eqv] at h; simp [keyToks, h]
    | _ => simp [PyData.eqv] at h
  | .int a, y, h => by
    cases y with
    | bool b => simp [PyData.eqv] at h; simp [keyToks, h]
    | int j => simp [PyData.eqv] at h; rw [h]
    | _ => simp [PyData.eqv] at h
  | .str a, y, h => by
    cases y with
    | str b => simp [PyData.eqv] at h; rw [h]
    | _ => simp [PyData.eqv] at h
  | .list xs, y, h => by
    cases y with
    | list ys => simp only [keyToks]; exact eqv_toksL xs ys (by simpa [PyData.eqv] using h)
    | _ => simp [PyData.eqv] at h
  | .tuple xs, y, h => by
    cases y with
    | tuple ys => simp only [keyToks]; exact eqv_toksL xs ys (by simpa [PyData.eqv] using h)
    | _ => simp [PyData.eqv] at h
  | .dict _, y, h => by cases y <;> simp [PyData.eqv] at h
theorem eqv_toksL : ∀ xs ys : List PyData, PyData.eqvAll xs ys = true → keyToksAll xs = keyToksAll ys
  | [], [], _ => rfl
  | [], _ :: _, h => by simp [PyData.eqvAll] at h
  | _ :: _, [], h => by simp [PyData.eqvAll] at h
  | x :: xs, y :: ys, h => by
    simp only [PyData.eqvAll, Bool.and_eq_true] at h
    rw [toks_all_cons, toks_all_cons, eqv_toks x y h.1, eqv_toksL xs ys h.2]
end
theorem lexL_self (p : Int ⊕ List Nat) (a b : List (Int ⊕ List Nat)) : lexLt itemOrd (p :: a) (p :: b) = lexLt itemOrd a b := lex_pre [p] a b
theorem lex_01 (l m : List (Int ⊕ List Nat)) : lexLt itemOrd (.inl 0 :: l) (.inl 1 :: m) = true := by
  rw [lex_atom (by simp), PySem.W.lex_one]; decide
theorem lex_10 (l m : List (Int ⊕ List Nat)) : lexLt itemOrd (.inl 1 :: l) (.inl 0 :: m) = false := by
  rw [lex_atom (by simp), PySem.W.lex_one]; decide
theorem toks_nil : keyToksAll [] = [.inl 0] := by rw [keyToksAll]
mutual
theorem toksW : ∀ x y : PyData, cmpW x y = true → PyData.eqv x y = false → ∀ l m, lexLt itemOrd (keyToks x ++ l) (keyToks y ++ m) = lexLt itemOrd (keyToks x) (keyToks y)
  | .int a, y, h, e, l, m => by
    cases y with
    | int b => exact (PySem.W.toks_eqv (.int a) (.int b) (by simp [PySem.W.alike])).2 e l m
    | _ => simp [cmpW] at h
  | .str a, y, h, e, l, m => by
    cases y with
    | str b => exact (PySem.W.toks_eqv (.str a) (.str b) (by simp [PySem.W.alike])).2 e l m
    | _ => simp [cmpW] at h
  | .tuple xs, y, h, e, l, m => by
    cases y with
    | tuple ys =>
      simp only [keyToks]
      exact toksWL xs ys (by simpa [cmpW] using h) (by simpa [PyData.eqv] using e) l m
    | _ => simp [cmpW] at h
  | .none, y, h, _, _, _ => by cases y <;> simp [cmpW] at h
  | .bool _, y, h, _, _, _ => by cases y <;> simp [cmpW] at h
  | .list _, y, h, _, _, _ => by cases y <;> simp [cmpW] at h
  | .dict _, y, h, _, _, _ => by cases y <;> simp [cmpW] at h
theorem toksWL : ∀ xs ys : List PyData, cmpWL xs ys = true → PyData.eqvAll xs ys = false → ∀ l m, lexLt itemOrd (keyToksAll xs ++ l) (keyToksAll ys ++ m) = lexLt itemOrd (keyToksAll xs) (keyToksAll ys)
  | [], [], _, e, _, _ => by simp [PyData.eqvAll] at e
  | [], y :: ys, _, _, l, m => by
    rw [toks_all_cons, toks_nil, List.cons_append, List.cons_append, lex_01, lex_01]
  | x :: xs, [], _, _, l, m => by
    rw [toks_all_cons, toks_nil, List.cons_append, List.cons_append, lex_10, lex_10]
  | x :: xs, y :: ys, h, e, l, m => by
    rw [toks_all_cons, toks_all_cons]
    simp only [List.cons_append, List.append_assoc]
    rw [lexL_self, lexL_self]
    unfold cmpWL at h
    cases hx : PyData.eqv x y with
    | true =>
      rw [hx, if_pos rfl] at h
      have e2 : PyData.eqvAll xs ys = false := by simpa [PyData.eqvAll, hx] using e
      rw [eqv_toks x y hx, lex_pre, lex_pre]
      exact toksWL xs ys h e2 l m
    | false =>
      rw [hx, if_neg Bool.false_ne_true] at h
      exact (toksW x y h hx _ _).trans (toksW x y h hx _ _).symm
end
theorem lexW_yes {x y : PyData} {xs ys : List PyData} (e : PyData.eqv x y = true) : lexLt itemOrd (keyToksAll (x :: xs)) (keyToksAll (y :: ys)) = lexLt itemOrd (keyToksAll xs) (keyToksAll ys) := by
  rw [toks_all_cons, toks_all_cons, eqv_toks x y e, lexL_self, lex_pre]
theorem lexW_no {x y : PyData} {xs ys : List PyData} (h : cmpW x y = true) (e : PyData.eqv x y = false) : lexLt itemOrd (keyToksAll (x :: xs)) (keyToksAll (y :: ys)) = dataLt x y := by
  rw [toks_all_cons, toks_all_cons, lexL_self]
  exact toksW x y h e _ _
open PySem.SeqAt (EqAt RcLt eqAt_reads room_here room_in room_head room_tail)
mutual
theorem rcLtW : ∀ (da db : PyData) (A : Around) (s : Shared) (a b : Value) (as bs : List Addr), Reads s.heap a da as → Reads s.heap b db bs → da.canLay0 = true → db.canLay0 = true → cmpW da db = true → A.units + min da.depth db.depth < cLine → RcLt A s a b (dataLt da db)
  | .int x, db, A, s, a, b, as, bs, ra, rb, _, _, h, hu => by
    cases db with
    | int y => exact PySem.W.rcLt_alike (.int x) (.int y) A s a b as bs ra rb (by simp [PySem.W.alike]) (by simp) hu
    | _ => simp [cmpW] at h
  | .str x, db, A, s, a, b, as, bs, ra, rb, _, _, h, hu => by
    cases db with
    | str y => exact PySem.W.rcLt_alike (.str x) (.str y) A s a b as bs ra rb (by simp [PySem.W.alike]) (by simp) hu
    | _ => simp [cmpW] at h
  | .tuple xs, db, A, s, a, b, as, bs, ra, rb, ca, cb, h, hu => by
    cases db with
    | tuple ys =>
      cases ra with
      | @tuple l o vs n _ as1 h1 h2 h3 h4 =>
        cases rb with
        | @tuple l' o' vs' n' _ bs1 k1 k2 k3 k4 =>
          have n1 : vs.size = xs.length := by simpa using PySem.SeqAt.ReadsAll.length _ _ _ h4
          have n2 : vs'.size = ys.length := by simpa using PySem.SeqAt.ReadsAll.length _ _ _ k4
          rw [PySem.W.dataLt_tuple]
          refine rcLt_lex (its := vs) (jts := vs') ⟨_, h1, h2, _, h3⟩ ⟨_, k1, k2, _, k3⟩ (room_here hu) ?_
          rw [n1, n2]
          exact lexAtW xs ys A.in1 s _ _ _ _ h4 k4 (by simpa [PyData.canLay0] using ca) (by simpa [PyData.canLay0] using cb) (by simpa [cmpW] using h) (room_in hu)
    | _ => simp [cmpW] at h
  | .none, db, _, _, _, _, _, _, _, _, _, _, h, _ => by cases db <;> simp [cmpW] at h
  | .bool _, db, _, _, _, _, _, _, _, _, _, _, h, _ => by cases db <;> simp [cmpW] at h
  | .list _, db, _, _, _, _, _, _, _, _, _, _, h, _ => by cases db <;> simp [cmpW] at h
  | .dict _, db, _, _, _, _, _, _, _, _, _, _, h, _ => by cases db <;> simp [cmpW] at h
theorem lexAtW : ∀ (xs ys : List PyData) (A : Around) (s : Shared) (vs ws : List Value) (as bs : List Addr), ReadsAll s.heap vs xs as → ReadsAll s.heap ws ys bs → PyData.canLayAll0 xs = true → PyData.canLayAll0 ys = true → cmpWL xs ys = true →
    A.units + min (PyData.depthAll xs) (PyData.depthAll ys) < cLine → LexAt A s (vs.zip ws) (decide (xs.length < ys.length)) (lexLt itemOrd (keyToksAll xs) (keyToksAll ys))
  | [], [], A, s, _, _, _, _, ra, rb, _, _, _, _ => by
    cases ra
    cases rb
    show _ = _
    rw [PyProof.Rows.lex_irrefl]
    rfl
  | [], y :: ys, A, s, _, _, _, _, ra, rb, _, _, _, _ => by
    cases ra
    show _ = _
    rw [toks_all_cons, toks_nil, lex_01]
    simp
  | x :: xs, [], A, s, _, _, _, _, ra, rb, _, _, _, _ => by
    cases rb
    rw [List.zip_nil_right]
    show _ = _
    rw [toks_all_cons, toks_nil, lex_10]
    simp
  | x :: xs, y :: ys, A, s, _, _, _, _, ra, rb, ca, cb, h, hu => by
    simp only [PyData.canLayAll0, Bool.and_eq_true] at ca cb
    cases ra with
    | cons r rs =>
      cases rb with
      | cons r' rs' =>
        rw [List.zip_cons_cons]
        have eq := eqAt_reads x y A s _ _ _ _ r r' ca.1 cb.1 (room_head hu)
        unfold cmpWL at h
        cases hx : PyData.eqv x y with
        | true =>
          rw [hx, if_pos rfl] at h
          rw [hx] at eq
          rw [lexW_yes hx, show decide ((x :: xs).length < (y :: ys).length) = decide (xs.length < ys.length) from decide_eq_decide.mpr (by simp)]
          exact .inl ⟨eq, lexAtW xs ys A s _ _ _ _ rs rs' ca.2 cb.2 h (room_tail hu)⟩
        | false =>
          rw [hx, if_neg Bool.false_ne_true] at h
          rw [hx] at eq
          rw [lexW_no h hx]
          exact .inr ⟨eq, rcLtW x y A s _ _ _ _ r r' ca.1 cb.1 h (room_head hu)⟩
end
def isPrW : PyData → Bool
  | .tuple [.str _, _] => true
  | _ => false
structure WOk (ds : List PyData) : Prop where
  pr : ∀ d ∈ ds, isPrW d = true
  lay : ∀ d ∈ ds, d.canLay0 = true
  cmp : ∀ d ∈ ds, ∀ e ∈ ds, cmpW d e = true
  dep : ∀ d ∈ ds, d.depth ≤ 50
theorem isPrW_ex {d : PyData} (h : isPrW d = true) : ∃ n r, d = .tuple [.str n, r] := by
  unfold isPrW at h
  split at h
  · exact ⟨_, _, rfl⟩
  · cases h
theorem kindW_some {h : Heap} {ds : List PyData} {v : Value} {d : PyData} {as : List Addr} (lay : ∀ d ∈ ds, d.canLay0 = true) (hd : d ∈ ds) (r : Reads h v d as) : (dataKind h ds).keyOf v = some (keyToks d) := by
  have q : ∃ d, d ∈ ds ∧ ∃ as, Reads h v d as := ⟨d, hd, as, r⟩
  show (open Classical in if q : ∃ d, d ∈ ds ∧ ∃ as, Reads h v d as then some (keyToks q.choose) else none) = _
  rw [dif_pos q]
  obtain ⟨h1, as', h2⟩ := q.choose_spec
  rw [PySem.SeqAt.Reads.unique _ _ _ _ _ (lay _ h1) h2 r]
theorem sortsW {prog : Program} {w : World} {A : Around} {s : Shared} {vs : List Value} {ds : List PyData} (e : EachIs (fun v d => ∃ as, Reads s.heap v d as) vs ds) (ok : WOk ds) (hu : A.units + 52 < cLine) : SortsAt prog w A s (dataKind s.heap ds) vs := by
  refine ⟨fun v hv => ?_, PyProof.Rows.tuples' true, ?_, fun h2 E Q hq => ?_⟩
  · obtain ⟨d, hd, as, r⟩ := e.left v hv
    exact ⟨_, kindW_some ok.lay hd r⟩
  · intro E x y a b Q ha hb hq
    obtain ⟨d, as, hd, ra, rfl⟩ := dataKind_inv ha
    obtain ⟨d', as', hd', rb, rfl⟩ := dataKind_inv hb
    have hq' : Q (dataLt d d') s := hq
    have hc := ok.cmp d hd d' hd'
    have l1 := ok.lay d hd
    have l2 := ok.lay d' hd'
    have p1 := ok.dep d hd
    have p2 := ok.dep d' hd'
    obtain ⟨n, z, rfl⟩ := isPrW_ex (ok.pr d hd)
    obtain ⟨n', z', rfl⟩ := isPrW_ex (ok.pr d' hd')
    have hz : A.units + min z.depth z'.depth < cLine := by
      simp only [PyData.depth, PyData.depthAll] at p1 p2
      omega
    simp only [PyData.canLay0, PyData.canLayAll0, Bool.and_eq_true] at l1 l2
    cases ra with
    | @tuple l o xs k _ _ h1 h2 h3 h4 =>
      cases rb with
      | @tuple l' o' xs' k' _ _ k1 k2 k3 k4 =>
        refine kat_lt h1 h3 k1 k3 ?_
        obtain ⟨c1, rfl⟩ : ∃ c, xs = ⟨c⟩ := ⟨xs.toList, rfl⟩
        obtain ⟨c2, rfl⟩ : ∃ c, xs' = ⟨c⟩ := ⟨xs'.toList, rfl⟩
        cases h4 with
        | cons r1 r2 =>
          cases k4 with
          | cons q1 q2 =>
            cases r2 with
            | cons r2 r3 =>
              cases q2 with
              | cons q2 q3 =>
                cases r3
                cases q3
                have rr1 := r1
                have qq1 := q1
                cases r1
                cases q1
                rw [PySem.W.dataLt_tuple] at hq'
                refine kat_cons (eqAt_reads (.str n) (.str n') A s _ _ _ _ rr1 qq1 l1.1 l2.1 (by simp only [PyData.depth]; omega) prog w _ _ ?_)
                cases hx : PyData.eqv (.str n) (.str n') with
                | true =>
                  rw [lexW_yes hx] at hq'
                  refine kat_yes (kat_cons (eqAt_reads z z' A s _ _ _ _ r2 q2 l1.2.1 l2.2.1 hz prog w _ _ ?_))
                  have hc2 : cmpWL [z] [z'] = true := by
                    simp only [cmpW] at hc
                    unfold cmpWL at hc
                    rw [hx, if_pos rfl] at hc
                    exact hc
                  unfold cmpWL at hc2
                  cases hy : PyData.eqv z z' with
                  | true =>
                    rw [lexW_yes hy, PyProof.Rows.lex_irrefl] at hq'
                    refine kat_yes (kat_nil ?_)
                    simpa using hq'
                  | false =>
                    rw [hy, if_neg Bool.false_ne_true] at hc2
                    rw [lexW_no hc2 hy] at hq'
                    refine kat_no ?_
                    show wpAny _ _ (PyProof.Rows.oneLt' false _ _) _ _ _
                    rw [PyProof.Rows.oneLt'_eq]
                    simp only [Bool.false_eq_true, if_false]
                    exact wpAny_bind (rcLtW z z' A s _ _ _ _ r2 q2 l1.2.1 l2.2.1 hc2 hz prog w _ _ (wpAny_truthy_bool hq'))
                | false =>
                  rw [lexW_no rfl hx, PySem.W.dataLt_str] at hq'
                  refine kat_no ?_
                  show wpAny _ _ (PyProof.Rows.oneLt' true _ _) _ _ _
                  exact PyProof.Rows.oneLt_str hq'
  · obtain ⟨fs, t1, t2, t3⟩ := PySem.W.each_katTups e fun d hd => by
      obtain ⟨n, r, rfl⟩ := isPrW_ex (ok.pr d hd)
      exact ⟨_, _, rfl⟩
    refine kat_kind (T := .type "str") t1 (by omega) (fun f hf => ?_) rfl hq
    obtain ⟨x, r, as, m1, m2⟩ := t3 f hf
    obtain ⟨n, z, e1⟩ := isPrW_ex (ok.pr _ m1)
    cases e1
    exact PySem.W.looks_reads m2
def leW (a b : PyData) : Bool := sortLe (listOrd itemOrd) false keyToks a b
def rSortV (K : Fg) : List V → Hp → VK → Prop := fun xs H Q => ∃ (a : Addr) (ys : List V) (ds : List PyData), xs = [.ref a] ∧ SqT K H a ys ∧ DpAll K H ys ds ∧ (WOk ds ∨ SortOk ds) ∧ ds.length ≤ sizeLine ∧ ∀ p zs, H p = none → SortedAs ys ds zs (ds.mergeSort leW) → Q (.ref p) (upd H p (.lst zs))
theorem cr_sortV {X : Cx} (K : Fg) (hK : X.K = K) (hu : X.A.units + 64 < cLine) : CallR X (.builtin "sorted") (rSortV K) := by
  subst hK
  intro pins s σ H xs us Q I r h
  obtain ⟨a, ys, ds, rfl, hq, hdp, ok, hz, q⟩ := h
  obtain ⟨u, rfl, rx⟩ := vals1 r
  cases rx
  obtain ⟨its, rv, p, hsz⟩ := I.tuple hq
  obtain ⟨o, ho, hc, n, hd⟩ := p
  have hl := dpall_length hdp
  have hil : its.length = ds.length := by rw [← rv.length, hl]
  refine Calls.call_function_entry PyProof.Rows.kind_sorted PyProof.Rows.plain_sorted PyProof.Rows.entry_sorted (PyProof.Rows.args_sorted1 _) ?_
  unfold Builtin.«sorted»
  refine wpAny_bind (m := checkCount "sorted" 1 1 _) (wpAny_pure ?_)
  refine wpAny_bind (wpAny_collect_seq a (T := "tuple") (.inr rfl) ho hc hd (fun h' hk => ?_) (by rw [List.size_toArray]; omega))
  have J : L2.Inv X pins σ H { s with heap := h' } := I.kept (t' := s.toks) hk
  rw [show its.toArray.toList = its by simp]
  have hR := each_of 0 ys ds rv hl (fun j => by simp) fun j => by simp
  have er := reads_each J hdp rv
  refine wpAny_bind (wpAny_newList ?_ (by omega))
  have hL : (h'.push (PyProof.Rows.seqObj "list" its.toArray 0)).get? h'.objs.size = some (PyProof.Rows.seqObj "list" its.toArray 0) := Heap.get?_push_size _ rfl
  show wpAny _ _ _ _ _ { s with heap := h'.push (PyProof.Rows.seqObj "list" its.toArray 0) }
  have kept : ∀ b o, h'.get? b = some o → (sortingHeap (h'.push (PyProof.Rows.seqObj "list" its.toArray 0)) h'.objs.size its).get? b = some o := fun b o hb => sortingHeap_old (Nat.ne_of_lt (Heap.lt_size hb)) (Heap.get?_push_of_some _ hb)
  have er2 : EachIs (fun v d => ∃ as, Reads (sortingHeap (h'.push (PyProof.Rows.seqObj "list" its.toArray 0)) h'.objs.size its) v d as) its ds := er.mono fun _ _ ⟨as, r⟩ => ⟨as, PyProof.Rows.Reads.keeps kept r⟩
  have hS : SortsAt X.prog X.w X.A.in1.in1 { s with heap := sortingHeap (h'.push (PyProof.Rows.seqObj "list" its.toArray 0)) h'.objs.size its } (dataKind (sortingHeap (h'.push (PyProof.Rows.seqObj "list" its.toArray 0)) h'.objs.size its) ds) its :=
    ok.elim (fun ok => sortsW (s := { s with heap := sortingHeap (h'.push (PyProof.Rows.seqObj "list" its.toArray 0)) h'.objs.size its }) er2 ok (by show X.A.units + 1 + 1 + 52 < cLine; omega))
      fun ok => SortsAt.data (s := { s with heap := sortingHeap (h'.push (PyProof.Rows.seqObj "list" its.toArray 0)) h'.objs.size its }) er2 ok.1 ok.2.1 fun d hd => (by have := ok.2.2.2 d hd; show X.A.units + 1 + 1 + d.depth < cLine; omega)
  have key : ∀ (h : Heap) (v : Value) (d : PyData) (as : List Addr), d ∈ ds → Reads h v d as → (dataKind h ds).keyOf v = some (keyToks d) := fun h v d as hd r => ok.elim (fun ok => kindW_some ok.lay hd r) fun ok => PySem.W.dataKind_some ok.1 hd r
  refine wpAny_bind (wpAny_holding (PySem.wpAny_call_entry PyProof.Rows.slot_list_sort ⟨_, hL, rfl⟩ PyProof.Rows.entry_list_sort (list_sort_vals (s := { s with heap := h'.push (PyProof.Rows.seqObj "list" its.toArray 0) }) hL hS (by omega) ⟨.none, rfl, ?_⟩) (PyProof.Rows.args_list_sort _)))
  have hE : EachIs (fun v d => ∃ (i : Nat) (x : V), RelV x v ∧ ys[i]? = some x ∧ ds[i]? = some d) (sortVals (dataKind (sortingHeap (h'.push (PyProof.Rows.seqObj "list" its.toArray 0)) h'.objs.size its) ds) false its its) (ds.mergeSort leW) :=
    sortVals_each (κ := dataKind (sortingHeap (h'.push (PyProof.Rows.seqObj "list" its.toArray 0)) h'.objs.size its) ds) keyToks hR ((each_mem' er2).mono fun v d ⟨⟨as, r⟩, hm⟩ => key _ v d as hm r)
  obtain ⟨zs, rz, sa⟩ := each_back hE
  obtain ⟨e', he'⟩ := PyProof.Rows.sortedHeap_at (vs := its) (out := (sortVals (dataKind (sortingHeap (h'.push (PyProof.Rows.seqObj "list" its.toArray 0)) h'.objs.size its) ds) false its its).toArray) hL
  have hz' : zs.length ≤ sizeLine := by rw [rz.length, sortVals_length false rfl]; omega
  refine wpAny_pure ⟨_, rfl, ⟨.ref h'.objs.size, upd H h'.objs.size (.lst zs), J.laid (t' := s.toks) (fun b u e => ?_) (Nat.le_refl _) (show ObjOk X.prog X.w _ _ _ (.lst zs) from ⟨hz', _, e', rz, he'⟩), rfl, q _ zs (J.hok.fresh (Nat.le_refl _)) sa⟩⟩
  have hb : b < h'.objs.size := Heap.lt_size e
  rw [PyProof.Rows.sortedHeap_old (Nat.ne_of_lt hb) (by rw [Heap.size_push]; exact Nat.lt_succ_of_lt hb)]
  exact Heap.get?_push_of_some _ e
def wokD (ds : List PyData) : Bool := ds.all (fun d => isPrW d && d.canLay0 && decide (d.depth ≤ 50) && PySem.W.alike d d && ds.all (cmpW d)) && lenOk ds.length
def sortV (d : PyData) : Option PyData := match d with
  | .tuple ds => if wokD ds || sortOkB ds then some (.list (ds.mergeSort leW)) else none
  | _ => none
theorem e1_sortV {K : Fg} : E1 K (fun x => rSortV K [x]) sortV := fun A H d x z ok rx h Q q => by
  unfold sortV at h
  split at h
  · rename_i ds
    split at h
    · rename_i hc
      cases h
      obtain ⟨a, ys, rfl, hs, r1⟩ := rx.tup
      have fin : ∀ p zs, H p = none → SortedAs ys ds zs (ds.mergeSort leW) → Q (.ref p) (upd H p (.lst zs)) := fun p zs hp sa => q _ _ (Ex.new hp) (rep_newL ok hp (sorted_rep r1 sa))
      rcases Bool.or_eq_true_iff.mp hc with hc | hc
      · unfold wokD at hc
        simp only [Bool.and_eq_true, List.all_eq_true, decide_eq_true_eq] at hc
        obtain ⟨h1, h2⟩ := hc
        exact ⟨a, ys, ds, rfl, hs, repL_dp (fun d hd => (h1 d hd).1.2) r1, .inl ⟨fun d hd => (h1 d hd).1.1.1.1, fun d hd => (h1 d hd).1.1.1.2, fun d hd => (h1 d hd).2, fun d hd => (h1 d hd).1.1.2⟩, of_decide_eq_true h2, fin⟩
      · have so := sortOk_of hc
        exact ⟨a, ys, ds, rfl, hs, repL_dp (fun d hd => so.1 d hd d hd) r1, .inr so, so.2.2.1, fin⟩
    · cases h
  · cases h
end Sv
namespace Sv
open PySem PySem.Spec PyProof.Rows L2 Evl LamX
def ExP (P : Addr) (H H' : Hp) : Prop := ∀ b o, b ≠ P → H b = some o → H' b = some o
abbrev lamQ (X : Cx) : Str := X.env.qual ++ "<lambda>"
section
variable {X : Cx} {pins : List (Addr × Obj)} {σ : L2.St} {H : Hp} {s : Shared}
theorem lam_mk {c P : Addr} {ar : Arguments} {bd : Expr} {sc : Scope} {pos : Pos} {E Q : Value → Shared → Prop} (I : Inv X pins σ H s) (B : TabB X.base X.mg c P) (hc : X.env.code = .ref c) (T : TabS H P (lamQ X)) (hd : defaultsOf ar X.env = ([], []))
    (hf : ∀ y ∈ sc.names, y.2 = .free → ∃ c, X.env.cells.lookup y.1 = some c)
    (go : ∀ (f c' : Addr) (pm ctv : Value) (H1 : Hp) (s' : Shared), Inv X pins σ H1 s' → ExP P H H1 → TabS H1 P (lamQ X) → s'.heap.get? f = some (PySem.W.kla_obj "<lambda>" (lamQ X) ar bd sc (cloFrom X.env.cells sc.names []) pm c' ctv) →
      H1 f = none → f ∉ frs X.stack → H1 c' = some (CodeO c' (lamQ X)) → Q (.ref f) s') :
    wpAny (model X.prog X.w) X.A (eval (.Lambda ar bd sc pos) X.env) Q E s := by
  obtain ⟨tab, atP, tri, among⟩ := T
  refine PySem.W.kla_eval hd ?_
  have hB := B.bm.keeps I.bk
  have inP : s.heap.get? P = some { cls := .none, data := .fields tab } := I.hok P _ atP
  have nof : ∀ f, s.heap.objs.size ≤ f → f ∉ frs X.stack := fun f hf z => (List.mem_cons.mp (I.stkSub _ z)).elim (fun e => absurd (e ▸ I.lt) (Nat.not_lt.mpr hf)) (I.nofs hf)
  cases ha : codeAmong pos tab.toList with
  | some v =>
    obtain ⟨c', rfl, kn⟩ := among pos v ha
    exact PySem.W.kla_makeFunctionHit (mg := X.mg) (c := c) (P := P) (ps := tab) (closure_ok hf) I.ok.glob (I.mod.glob.keeps I.bk) hc (B.code.keeps I.bk) inP tri ha hB fun ctv g tk up sz =>
      go g.objs.size c' _ ctv H _ (I.kept fun b o e => Heap.get?_push_of_some _ (up b o e)) (fun _ _ _ e => e) ⟨tab, atP, tri, among⟩ (Heap.get?_push_size _ rfl) (I.hok.fresh sz) (nof _ sz) kn
  | none =>
    refine PySem.W.kla_makeFunction (mg := X.mg) (c := c) (P := P) (ps := tab) (closure_ok hf) I.ok.glob (I.mod.glob.keeps I.bk) hc (B.code.keeps I.bk) inP tri ha B.gP hB fun c' ctv g tk up low high new wr => ?_
    obtain ⟨_, oc, us, tt, z, n1, n2, n3⟩ := new
    cases z
    have sz : s.heap.objs.size ≤ g.objs.size := Nat.le_trans low (Nat.le_of_lt high)
    have fresh : H c' = none := I.hok.fresh low
    have nPc : P ≠ c' := ne_of_none atP fresh
    have eL : (tab ++ #[rawInt pos.line, rawInt pos.col, .ref c']).toList = tab.toList ++ [rawInt pos.line, rawInt pos.col, .ref c'] := by simp
    have keep : ExP P H (upd (upd H P (.tbl (tab ++ #[rawInt pos.line, rawInt pos.col, .ref c']))) c' (CodeO c' (lamQ X))) := fun b o hb e => by
      rw [upd_ne (ne_of_none e fresh), upd_ne hb]
      exact e
    have J := inv_table (t' := tk) (more := #[rawInt pos.line, rawInt pos.col, .ref c']) (h' := g.push (PySem.W.kla_obj "<lambda>" (lamQ X) ar bd sc (cloFrom X.env.cells sc.names []) ((X.mg "__name__").getD .none) c' ctv)) I atP
      (fun b o hb e => Heap.get?_push_of_some _ (up b o hb e)) (Heap.get?_push_of_some _ wr) low ⟨oc, us, tt, Heap.get?_push_of_some _ n1, n2, n3⟩
    refine go g.objs.size c' _ ctv _ _ J keep ⟨_, by rw [upd_ne nPc, upd_same], by rw [eL]; exact PySem.TriplesOk_snoc _ _ _ _ tri, fun p' cv hcv => ?_⟩ (Heap.get?_push_size _ rfl) ?_ (nof _ sz) upd_same
    · rw [eL] at hcv
      rcases among_app _ tri hcv with z | z
      · obtain ⟨c0, e1, e2⟩ := among p' cv z
        refine ⟨c0, e1, keep _ _ (fun z => ?_) e2⟩
        rw [z, atP] at e2
        exact codeO_ne _ (Option.some.inj e2).symm
      · exact ⟨c', z, upd_same⟩
    · rw [upd_ne (Nat.ne_of_gt high), upd_ne (Nat.ne_of_gt (Nat.lt_of_lt_of_le (Heap.lt_size inP) sz))]
      exact I.hok.fresh sz
end
theorem notVis {sc : Scope} {x : Str} (h : sc.names.lookup x = none) : ¬ Vis sc x := fun z => by
  rcases z with z | z | z <;> rw [h] at z <;> cases z
theorem pss_ghost {X : Cx} {i : Nat} {x : Str} {v : V} {body : List Stmt} {t : TS} (hN : X.N[i]? = some x) (hv : ¬ Vis X.env.scope x) (h : PSs X body t) : PSs X body (fun D σ H => t D (σ.set i (some v)) H) := ⟨fun pins s σ H D I ht => by
  refine h.run pins s (σ.set i (some v)) H D ⟨I.ok, I.os, I.bare, I.base, ?_, I.cell, I.free, I.freeC, I.pin, I.hok, by rw [List.length_set]; exact I.len⟩ ht
  obtain ⟨m, h1, h2⟩ := I.loc
  refine ⟨m, h1, fun j y w e1 e2 e3 => ?_⟩
  by_cases hj : i = j
  · subst hj
    rw [hN] at e1
    cases e1
    exact (hv e3).elim
  · rw [List.getElem?_set_ne hj] at e2
    exact h2 j y w e1 e2 e3⟩
end Sv
namespace Sv
open PySem PySem.Spec PyProof.Rows L2 Evl LamX NdefX
/-- the lambda F lies at f, unknown to H; its cells hold ws -/
structure LamAt (f : Addr) (F : NF) (bd : Expr) (pm ctv : Value) (fr : List Str) (ws : List (Option V)) (outer : List Env) (s : Shared) (H : Hp) : Prop where
  at_ : s.heap.get? f = some (PySem.W.kla_obj F.name F.qual F.params bd F.scope F.cl pm F.c ctv)
  no : H f = none
  fr_ : f ∉ frs outer
  cells : CellsAt F.cl fr ws s.heap H
  nf : ∀ y c, F.cl.lookup y = some c → c ∉ frs outer
section
variable {P : Program} {w : World} {K : PySem.W.Frag} {mg : Str → Option Value} {base : Heap} {CX : CXT} {N ps fr : List Str} {F : NF} {f : Addr} {bd : Expr} {pm ctv : Value} {k : Nat}
/-- f(..): the lambda's body, by its reading -/
theorem lam_run (S : NScope N ps fr F.scope) (hb : ∀ us : List Value, us.length = ps.length → bindArgs (PySem.W.kla_fn F.name F.qual F.params bd F.scope F.cl pm (.ref F.c) ctv) ⟨us, []⟩ = pure (ps.zip us))
    {A : Around} {outer : List Env} {s : Shared} {H : Hp} {us : List Value} {vs : List V} {ws : List (Option V)} {Q : VK} {E : XK} (hr : Room (k + 1) A) (e0 : Env0 P w K mg base A outer s H) (L : LamAt f F bd pm ctv fr ws outer s H) (hc : H F.c = some (CodeO F.c F.qual)) (r : Vals vs us) (hl : vs.length = ps.length)
    (hbody : Room k (A.deeper (envF F f s.heap.objs.size)) → ∃ t, PE (ncx CX P w K mg base N F f A outer s H E) bd t ∧ t (startF N vs ws) H Q) :
    codeAny (model P w) A (.call (.ref f) ⟨us, []⟩) (CR CX outer P w H s Q E) s := by
  have lim : s.heap.NoLimit := e0.mod.nolimit.keeps fun b o e => (e0.bs b o e).1
  obtain ⟨c1, oc1, vs1, t1, hc1, hoc, hdc, hvc⟩ := codeO_at e0.hok hc
  refine PySem.W.kla_callFunE hr.depth L.at_ rfl S.co S.gen rfl ⟨c1, oc1, vs1, t1, hc1, hoc, hdc, hvc⟩ ?_
  rw [hb us (by rw [← r.length]; exact hl)]
  refine wpAny_pure (wpAny_newFunctionEnv S.nocell (fun ⟨n, _⟩ hy => S.par n (List.of_mem_zip hy).1) (fun h₁ hns hsb => ⟨lim.fresh _ hsb, ?_⟩) S.kind)
  show codeAny _ _ (.expr bd (envF F f s.heap.objs.size)) _ _
  have kp : ∀ b o, s.heap.get? b = some o → h₁.get? b = some o := fun b o e => hsb.extBut b o (Nat.ne_of_lt (Heap.lt_size e)) (Heap.get?_push_of_some _ e)
  obtain ⟨t, ht, hq⟩ := hbody (hr.deeper _)
  have I : Inv (ncx CX P w K mg base N F f A outer s H E) [] (startF N vs ws) H { s with heap := h₁, toks := s.toks + (ps.zip us).length } := inv_startN S hr.hd e0 hl r L.cells hns kp
  refine PySem.W.kla_codeExpr (wpAny_mono (ht.run [] _ (startF N vs ws) H Q I hq) (fun v s' hs => ?_) fun e s' hs => hs)
  obtain ⟨v', H', J, rv, q⟩ := hs
  exact ⟨v', H', J.os, J.bare, J.base, J.hok, rv, q⟩
end
/-- what lay so when the running def began lies so still -/
theorem LamAt.later {P : Program} {w : World} {K : PySem.W.Frag} {mg : Str → Option Value} {base : Heap} {CX : CXT} {N : List Str} {q : Str} {sc : Scope} {g : Addr} {cd : Value} {A : Around} {outer : List Env} {s0 : Shared} {H0 : Hp} {E : XK} {f : Addr} {F : NF} {bd : Expr} {pm ctv : Value} {fr : List Str} {ws : List (Option V)}
    {pins : List (Addr × Obj)} {σ : L2.St} {H : Hp} {s : Shared} (L : LamAt f F bd pm ctv fr ws outer s0 H0) (I : Inv (cxOf CX P w K mg base N q sc g cd A outer s0 H0 E) pins σ H s) : LamAt f F bd pm ctv fr ws (cxOf CX P w K mg base N q sc g cd A outer s0 H0 E).stack s H := by
  have un : Un (frs outer) [] H0 H s0.heap s.heap := I.base
  have fresh : ∀ b o, s0.heap.get? b = some o → b ∉ frs outer → b ∉ frs (cxOf CX P w K mg base N q sc g cd A outer s0 H0 E).stack := fun b o e hb z => by
    have z : b ∈ frs (envOfC q sc s0.heap.objs.size g cd :: outer) := z
    rcases List.mem_cons.mp (show b ∈ s0.heap.objs.size :: frs outer from z) with z | z
    · have := Heap.lt_size e
      rw [z] at this
      exact absurd this (Nat.lt_irrefl _)
    · exact hb z
  refine ⟨un.keep f _ L.at_ L.no L.fr_ (by simp), un.free f _ L.at_ L.no (by simp), fresh f _ L.at_ L.fr_, L.cells.later (X := cxOf CX P w K mg base N q sc g cd A outer s0 H0 E) L.nf (fun y c e => by intro z; cases z) I, fun y c e => ?_⟩
  obtain ⟨_, v, o, ho, _⟩ := L.cells.all y c e
  exact fresh c o ho (L.nf y c e)
end Sv
namespace Sv
open PySem PySem.Spec PyProof.Rows L2 Evl LamX NdefX
/-- the slot holds the lambda -/
def fnAt (i : Nat) (f c : Addr) (q : Str) (ρ : Rho) : Bool := match ρ[i]? with
  | some (.fn f' c' q') => decide (f' = f ∧ c' = c ∧ q' = q)
  | _ => false
theorem fnAt_some {i : Nat} {f c : Addr} {q : Str} {ρ : Rho} (h : fnAt i f c q ρ = true) : ρ[i]? = some (.fn f c q) := by
  unfold fnAt at h
  split at h
  · rename_i f' c' q' e
    obtain ⟨rfl, rfl, rfl⟩ := of_decide_eq_true h
    exact e
  · cases h
def byD (i : Nat) (f c : Addr) (q : Str) (m : List PyData → Option PyData) (fr : Rho → Option (List PyData)) (ρ : Rho) : Option PyData := if fnAt i f c q ρ then (fr ρ).bind m else none
theorem byD_some {i : Nat} {f c : Addr} {q : Str} {m : List PyData → Option PyData} {fr : Rho → Option (List PyData)} {ρ : Rho} {d : PyData} (h : byD i f c q m fr ρ = some d) : ρ[i]? = some (.fn f c q) ∧ ∃ ds, fr ρ = some ds ∧ m ds = some d := by
  unfold byD at h
  split at h
  · rename_i e
    obtain ⟨x, hx, e2⟩ := bind_some' h
    exact ⟨fnAt_some e, x, hx, e2⟩
  · cases h
/-- by(..) -/
def tBy (K : Fg) (m : List PyData → Option PyData) (f c : Addr) (q : Str) (i : Nat) (t : TA) : TE := fun σ H Q => σ[i]? = some (some (.ref f)) ∧ t σ H fun vs H1 => H1 c = some (CodeO c q) ∧ spD K m vs H1 Q E0
theorem ef_by {K : Fg} {m : List PyData → Option PyData} {f c : Addr} {q : Str} {i : Nat} {tr : TA} {fr : Rho → Option (List PyData)} (ha : EA K tr fr) : EF K (tBy K m f c q i tr) (byD i f c q m fr) := fun A ρ σ H d rs e H1 e1 Q qq => by
  obtain ⟨hi, x, ex, eg⟩ := byD_some e
  have s0 := rs.at' i _ hi
  refine ⟨s0.1, ha A ρ σ H x rs ex H1 e1 _ fun vs H2 e2 r2 => ⟨e2 _ _ (e1 _ _ s0.2), ?_⟩⟩
  exact ⟨A, x, d, (rs.av.mono e1).mono e2, r2, eg, fun v H' e' r' => qq v H' (e2.trans e') r'⟩
/-- def(.., .., by) -/
def tPut (K : Fg) (m : List PyData → Option PyData) (f c : Addr) (q : Str) (i : Nat) (t1 t2 : TE) : TE := fun σ H Q => tCons t1 (tCons t2 (tCons (tVar i) tNil)) σ H fun vs H1 => H1 c = some (CodeO c q) ∧ ∃ x y, vs = [x, y, .ref f] ∧ spD K m [x, y] H1 Q E0
theorem ef_put {K : Fg} {m : List PyData → Option PyData} {f c : Addr} {q : Str} {i : Nat} {t1 t2 : TE} {f1 f2 : Rho → Option PyData} (h1 : EF K t1 f1) (h2 : EF K t2 f2) : EF K (tPut K m f c q i t1 t2) (byD i f c q m fun ρ => bnd2 (f1 ρ) (bnd2 (f2 ρ) (some []) consD) consD) := fun A ρ σ H d rs e H1 e1 Q qq => by
  obtain ⟨hi, ds, ed, eg⟩ := byD_some e
  have s0 := rs.at' i _ hi
  obtain ⟨x, y', ex, ey', ec⟩ := bnd2_some ed
  obtain ⟨y, z, ey, ez, ec2⟩ := bnd2_some ey'
  cases ez
  cases ec2
  cases ec
  refine h1 A ρ σ H x rs ex H1 e1 _ fun v H2 e2 r2 => ?_
  have av2 := (rs.av.mono e1).mono e2
  refine h2 A ρ σ H y rs ey H2 (e1.trans e2) _ fun v' H3 e3 r3 => ?_
  refine ⟨_, s0.1, e3 _ _ (e2 _ _ (e1 _ _ s0.2)), v, v', rfl, A, [x, y], d, av2.mono e3, RepL.cons (r2.mono av2 e3) (RepL.cons r3 .nil), eg, fun u H' e' r' => qq u H' ((e2.trans e3).trans e') r'⟩
section
variable {P : Program} {w : World} {K : Fg} {mg : Str → Option Value} {base : Heap} {f : Addr} {F : NF} {bd : Expr} {pm ctv : Value} {fr : List Str} {ws : List (Option V)} {m : List PyData → Option PyData} {k : Nat}
/-- the promise of the lambda -/
def LamGo (P : Program) (w : World) (K : Fg) (mg : Str → Option Value) (base : Heap) (k : Nat) (f : Addr) (F : NF) (bd : Expr) (pm ctv : Value) (fr : List Str) (ws : List (Option V)) (m : List PyData → Option PyData) : Prop :=
  ∀ (A : Around) (outer : List Env) (s : Shared) (H : Hp) (us : List Value) (vs : List V) (Q : VK), Room k A → Env0 P w K mg base A outer s H → LamAt f F bd pm ctv fr ws outer s H → H F.c = some (CodeO F.c F.qual) → Vals vs us → spD K m vs H Q E0 →
    codeAny (model P w) A (.call (.ref f) ⟨us, []⟩) (CR CX0 outer P w H s Q E0) s
/-- the promise of the def that hands it down -/
def PutGo (P : Program) (w : World) (K : Fg) (mg : Str → Option Value) (base : Heap) (k : Nat) (g f : Addr) (F : NF) (bd : Expr) (pm ctv : Value) (fr : List Str) (ws : List (Option V)) (m : List PyData → Option PyData) : Prop :=
  ∀ (A : Around) (outer : List Env) (s : Shared) (H : Hp) (us : List Value) (vs : List V) (Q : VK), Room k A → Env0 P w K mg base A outer s H → LamAt f F bd pm ctv fr ws outer s H → H F.c = some (CodeO F.c F.qual) → Vals vs us → (∃ x y, vs = [x, y, .ref f] ∧ spD K m [x, y] H Q E0) →
    codeAny (model P w) A (.call (.ref g) ⟨us, []⟩) (CR CX0 outer P w H s Q E0) s
variable {N : List Str} {q : Str} {sc : Scope} {g : Addr} {cd : Value} {A : Around} {outer : List Env} {s0 : Shared} {H0 : Hp} {E : XK} {x : Str} {i : Nat} {e : Expr} {es : List Expr} {t : TA} {p pos : Pos}
theorem pe_by (L : LamAt f F bd pm ctv fr ws outer s0 H0) (G : LamGo P w K mg base k f F bd pm ctv fr ws m) (hr : Room k (cxOf CX0 P w K mg base N q sc g cd A outer s0 H0 E).A) (hN : N[i]? = some x) (hv : Vis sc x) (ha : PA (cxOf CX0 P w K mg base N q sc g cd A outer s0 H0 E) (e :: es) t)
    (hd : (x == ("__debug__" : Str)) = false := by decide) (hcd : (x == ("__classdict__" : Str)) = false := by decide)
    (he : starEach (e :: es) (cxOf CX0 P w K mg base N q sc g cd A outer s0 H0 E).env = (false, eval e (cxOf CX0 P w K mg base N q sc g cd A outer s0 H0 E).env) :: starEach es (cxOf CX0 P w K mg base N q sc g cd A outer s0 H0 E).env := by rfl) (hpl : (backTo pos (starEach es (cxOf CX0 P w K mg base N q sc g cd A outer s0 H0 E).env)).any (·.1) = false := by rfl) :
    PE (cxOf CX0 P w K mg base N q sc g cd A outer s0 H0 E) (.Call (.Name x p) (e :: es) [] pos) (tBy K m f F.c F.qual i t) := by
  refine ⟨fun pins s σ H Q I h => ?_⟩
  obtain ⟨hs, ht⟩ := h
  refine wpAny_Call_Name_kw (thn ((pe_var (pos := p) hN hv hd hcd).run pins s σ H (fun v H1 => v = .ref f ∧ H1 = H) I ⟨.ref f, hs, rfl, rfl⟩) fun u s1 ⟨v, H1, I1, r1, q1⟩ => ?_)
  obtain ⟨ev, eH⟩ := q1
  subst ev
  rw [eH] at I1
  obtain rfl : u = Value.ref f := r1
  have fa : ∀ {s2 : Shared} {H2 : Hp}, Inv (cxOf CX0 P w K mg base N q sc g cd A outer s0 H0 E) pins σ H2 s2 → PySem.W.FnAt f s2.heap := fun J => ⟨_, _, _, _, (L.later J).at_⟩
  refine PySem.W.callWith_F (first := []) (fa I1) (thn (ha.run pos pins s1 σ H _ I1 ht) fun us s2 ⟨vs, H2, I2, r, h1, q⟩ => ⟨fa I2, ?_⟩) he hpl
  show wpAny _ _ (call (.ref f) us) _ _ _
  refine wpAny_call (codeAny_mono (G _ _ s2 H2 us vs Q hr I2.env0 (L.later I2) h1 r q) fun r s' hq => ?_)
  cases r with
  | error e => exact hq.elim
  | ok fl =>
    cases fl with
    | ret u => exact I2.after hq
    | next => exact False.elim hq
    | brk => exact False.elim hq
    | cont => exact False.elim hq
theorem pe_put {g' : Addr} {y : Str} {e1 e2 : Expr} {t1 t2 : TE} {p2 : Pos} (L : LamAt f F bd pm ctv fr ws outer s0 H0) (G : PutGo P w K mg base k g' f F bd pm ctv fr ws m) (hr : Room k (cxOf CX0 P w K mg base N q sc g cd A outer s0 H0 E).A)
    (hg : Gl (cxOf CX0 P w K mg base N q sc g cd A outer s0 H0 E) x) (hm : mg x = some (.ref g')) (hk : PySem.W.keepIn K (.ref g') = true) (ha : PA (cxOf CX0 P w K mg base N q sc g cd A outer s0 H0 E) [e1, e2, .Name y p2] (tCons t1 (tCons t2 (tCons (tVar i) tNil))))
    (hdb : (x == ("__debug__" : Str)) = false := by decide)
    (he : starEach [e1, e2, .Name y p2] (cxOf CX0 P w K mg base N q sc g cd A outer s0 H0 E).env = (false, eval e1 (cxOf CX0 P w K mg base N q sc g cd A outer s0 H0 E).env) :: starEach [e2, .Name y p2] (cxOf CX0 P w K mg base N q sc g cd A outer s0 H0 E).env := by rfl) (hpl : (backTo pos (starEach [e2, .Name y p2] (cxOf CX0 P w K mg base N q sc g cd A outer s0 H0 E).env)).any (·.1) = false := by rfl) :
    PE (cxOf CX0 P w K mg base N q sc g cd A outer s0 H0 E) (.Call (.Name x p) [e1, e2, .Name y p2] [] pos) (tPut K m f F.c F.qual i t1 t2) := by
  refine ⟨fun pins s σ H Q I h => ?_⟩
  refine wpAny_Call_Name_kw (ld_glob I hg hm ?_ hdb)
  refine PySem.W.callWith_K (h₀ := (cxOf CX0 P w K mg base N q sc g cd A outer s0 H0 E).base) I.ok.mod.kin hk (thn (ha.run pos pins s σ H _ I h) fun us s1 ⟨vs, H1, I1, r, h1, hq⟩ => ⟨I1.kIn, ?_⟩) he hpl
  show wpAny _ _ (call (.ref g') us) _ _ _
  refine wpAny_call (codeAny_mono (G _ _ s1 H1 us vs Q hr I1.env0 (L.later I1) h1 r hq) fun r s' hq => ?_)
  cases r with
  | error e => exact hq.elim
  | ok fl =>
    cases fl with
    | ret u => exact I1.after hq
    | next => exact False.elim hq
    | brk => exact False.elim hq
    | cont => exact False.elim hq
theorem put_go {st : Stmt} {fd : FuncData} {a1 a2 a3 : Str} {fb : Rho → Option Res} (Fg : Fun K x x st g fd) (Sc : FnScope N [a1, a2, a3] (defScope st)) (hN : N.length = 5)
    (hb : ∀ (kV doc pm : Value) (an : Option Addr) (cdv ct : Value) (us : List Value), us.length = 3 → bindArgs (PySem.W.fnOf x x (defArgs st) (defBody st) (defScope st) .none kV doc pm an cdv ct) ⟨us, []⟩ = pure (([a1, a2, a3] : List Str).zip us))
    (hbody : ∀ (cdv : Value) (A : Around) (outer : List Env) (s : Shared) (H : Hp), Room k (A.deeper (envOfC x (defScope st) s.heap.objs.size g cdv)) → LamAt f F bd pm ctv fr ws outer s H → ∃ t, PSs (cxOf CX0 P w K mg base N x (defScope st) g cdv A outer s H E0) (defBody st) t ∧ ES K t fb)
    (hm : ∀ ds d, m ds = some d → ∃ a b, ds = [a, b] ∧ retD (fb [.val a, .val b, .fn f F.c F.qual, .no, .no]) = some d) : PutGo P w K mg base (k + 1) g f F bd pm ctv fr ws m := by
  intro A outer s H us vs Q hr e0 L hc r ⟨v1, v2, hv, sp⟩
  subst hv
  obtain ⟨oc, od, kV, doc, pm', an, cdv, ct, osl, rfl, lk, hcc⟩ := id Fg.ex
  have hbn := Fg.binds (ps := [a1, a2, a3]) hb
  have KX : K.In s.heap := e0.mod.kin.keeps fun b o e => (e0.bs b o e).1
  have hb1 := hbn s us KX (by rw [List.append_nil, ← r.length]; rfl)
  rw [List.append_nil] at hb1
  refine run_ofS (N := N) (ps := [a1, a2, a3]) (vs := [v1, v2, .ref f]) lk hcc Sc hr e0 hb1 r rfl fun hr' => ?_
  obtain ⟨t, w1, w2⟩ := hbody cdv A outer s H hr' L
  refine ⟨t, w1, ?_⟩
  obtain ⟨O, ds, d, ob, rl, e, qq⟩ := sp
  obtain ⟨a, b, rfl, e'⟩ := hm ds d e
  obtain ⟨_, _, h1, ra, rl⟩ := rl
  cases h1
  obtain ⟨_, _, h1, rb, _⟩ := rl
  cases h1
  have sr : SR K H O (fun _ => .non) (fun _ => []) ([.val a, .val b, .fn f F.c F.qual] ++ List.replicate (N.length - 3) .no) (start N [v1, v2, .ref f]) H := start_ok ob rfl (fun s hs d z => by
    rw [z] at hs
    simp at hs) (fun i s v h1 h2 => by
    match i, h1, h2 with
    | 0, h1, h2 => cases h1; cases h2; exact ⟨_, rfl, ra⟩
    | 1, h1, h2 => cases h1; cases h2; exact ⟨_, rfl, rb⟩
    | 2, h1, h2 => cases h1; cases h2; exact ⟨rfl, hc⟩
    | n + 3, h1, h2 => cases h1)
  rw [hN] at sr
  cases hr1 : fb [.val a, .val b, .fn f F.c F.qual, .no, .no] with
  | none => rw [hr1] at e'; cases e'
  | some r1 =>
    rw [hr1] at e'
    refine w2 H O (fun _ => .non) _ _ _ H r1 _ sr hr1 ?_
    cases r1 with
    | ret d' => cases e'; exact fun v H' x rv => qq v H' x rv
    | rex d' ρ => cases e'; exact fun ow σ v H' s rv => qq v H' s.ex (Rep.anti (fun a z => .inl z) _ _ rv)
    | nx ρ => cases e'; exact fun ow σ H' s => qq .non H' s.ex (by simp only [Rep])
    | brk ρ => cases e'
    | ct ρ => cases e'
end
end Sv
namespace Sv
open PySem PySem.Spec PyProof.Rows L2 Evl LamX NdefX
section
variable {X : Cx} {pins : List (Addr × Obj)} {σ : L2.St} {H : Hp} {s : Shared}
/-- cells are no frames -/
theorem cell_nf (I : Inv X pins σ H s) (hfn : ∀ x, X.fn x = true) {y : Str} {c : Addr} (e : X.env.cells.lookup y = some c) : c ∉ frs X.stack := fun z => by
  rcases List.mem_cons.mp (I.stkSub c z) with z | z
  · exact I.cne y c e z
  · obtain ⟨_, o, ho, _⟩ := I.ok.funs.mem z
    exact absurd (Heap.lt_size ho) (Nat.not_lt.mpr (I.ok.cab y c (hfn y) e))
/-- the lambda, told as a function with names of its own -/
abbrev lamNF (X : Cx) (ar : Arguments) (sc : Scope) (c' : Addr) : NF := ⟨"<lambda>", lamQ X, ar, [], sc, cloFrom X.env.cells sc.names [], c'⟩
def tLamPut (K : Fg) (P : Addr) (q : Str) (j : Nat) (m : Int → List PyData → Option PyData) (t1 t2 : TE) : TE := fun σ H Q => t1 σ H fun x H1 => t2 σ H1 fun y H2 => TabS H2 P q ∧ ∃ n, σ[j]? = some (some (.int n)) ∧ ∀ H3, ExP P H2 H3 → TabS H3 P q → spD K (m n) [x, y] H3 Q E0
theorem pe_lamPut {x y : Str} {g c P : Addr} {k j : Nat} {ar : Arguments} {bd e1 e2 : Expr} {sc : Scope} {t1 t2 : TE} {m : Int → List PyData → Option PyData} {p lpos pos : Pos} (hfn : ∀ x, X.fn x = true) (hg : Gl X x) (hm : X.mg x = some (.ref g)) (hk : PySem.W.keepIn X.K (.ref g) = true)
    (h1 : PE X e1 t1) (h2 : PE X e2 t2) (B : TabB X.base X.mg c P) (hc : X.env.code = .ref c) (hr : Room k X.A) (hdef : defaultsOf ar X.env = ([], []))
    (hfree : ∀ z ∈ sc.names, z.2 = .free → X.env.scope.names.lookup z.1 = some .cell ∨ X.env.scope.names.lookup z.1 = some .free) (hfr : (y, NameKind.free) ∈ sc.names) (hj : X.N[j]? = some y)
    (G : ∀ (f c' : Addr) (pm ctv : Value) (n : Int), PutGo X.prog X.w X.K X.mg X.base k g f (lamNF X ar sc c') bd pm ctv [y] [some (.int n)] (m n))
    (hdb : (x == ("__debug__" : Str)) = false := by decide)
    (he : starEach [e1, e2, .Lambda ar bd sc lpos] X.env = (false, eval e1 X.env) :: starEach [e2, .Lambda ar bd sc lpos] X.env := by rfl) (he2 : starEach [e2, .Lambda ar bd sc lpos] X.env = (false, eval e2 X.env) :: starEach [.Lambda ar bd sc lpos] X.env := by rfl)
    (hpl : (backTo pos (starEach [e2, .Lambda ar bd sc lpos] X.env)).any (·.1) = false := by rfl) :
    PE X (.Call (.Name x p) [e1, e2, .Lambda ar bd sc lpos] [] pos) (tLamPut X.K P (lamQ X) j m t1 t2) := by
  refine ⟨fun pins s σ H Q I h => ?_⟩
  refine wpAny_Call_Name_kw (ld_glob I hg hm ?_ hdb)
  refine PySem.W.callWith_K (h₀ := X.base) I.ok.mod.kin hk ?_ he hpl
  rw [he]
  show wpAny _ _ (spliced ((false, eval e1 X.env) :: backTo pos (starEach [e2, .Lambda ar bd sc lpos] X.env))) _ _ s
  refine Calls.spliced_cons (thn (h1.run pins s σ H _ I h) fun u1 s1 ⟨v1, H1, I1, r1, q1⟩ => ?_)
  rw [he2]
  show wpAny _ _ (spliced ((false, eval e2 X.env) :: backTo pos (starEach [.Lambda ar bd sc lpos] X.env))) _ _ s1
  refine Calls.spliced_cons (thn (h2.run pins s1 σ H1 _ I1 q1) fun u2 s2 ⟨v2, H2, I2, r2, T, n, hn, go⟩ => ?_)
  show wpAny _ _ (spliced ((false, eval (.Lambda ar bd sc lpos) X.env) :: backTo pos (starEach [] X.env))) _ _ s2
  have hhas : ∀ z ∈ sc.names, z.2 = .free → ∃ c, X.env.cells.lookup z.1 = some c := fun z hz e => (hfree z hz e).elim (fun w => I2.ok.has _ (.inl w)) fun w => I2.ok.has _ (.inr w)
  refine Calls.spliced_cons (lam_mk I2 B hc T hdef hhas fun f c' pm' ctv H3 s3 J up T1 of1 nf nfr kc => Calls.spliced_nil ⟨J.kIn, ?_⟩)
  have cp : Caps X (cloFrom X.env.cells sc.names []) [y] [j] := Caps.made J.ok hfree (fun z hz => by rw [List.mem_singleton.mp hz]; exact hfr) (by simp [hj])
  have C := cells_of J cp
  rw [show [j].map (slotAt σ) = [some (.int n)] by simp [slotAt_of hn]] at C
  have L : LamAt f (lamNF X ar sc c') bd pm' ctv [y] [some (.int n)] X.stack s3 H3 := ⟨of1, nf, nfr, C, fun z a e => cell_nf J hfn (cp.sub z a e)⟩
  refine wpAny_call (codeAny_mono (G f c' pm' ctv n X.A X.stack s3 H3 [u1, u2, .ref f] [v1, v2, .ref f] Q hr J.env0 L kc (.cons r1 (.cons r2 (.cons rfl .nil))) ⟨v1, v2, rfl, go H3 up T1⟩) fun r s' hq => ?_)
  cases r with
  | error e => exact hq.elim
  | ok fl =>
    cases fl with
    | ret u => exact J.after hq
    | next => exact False.elim hq
    | brk => exact False.elim hq
    | cont => exact False.elim hq
end
/-- the lambda's promise, by its body -/
theorem lam_go {P : Program} {w : World} {K : Fg} {mg : Str → Option Value} {base : Heap} {f : Addr} {F : NF} {bd : Expr} {pm ctv : Value} {y z : Str} {n : Int} {m : List PyData → Option PyData} {k : Nat} {fe : Rho → Option PyData} (S : NScope [y, z] [y] [z] F.scope)
    (hb : ∀ us : List Value, us.length = 1 → bindArgs (PySem.W.kla_fn F.name F.qual F.params bd F.scope F.cl pm (.ref F.c) ctv) ⟨us, []⟩ = pure (([y] : List Str).zip us))
    (hbody : ∀ (A : Around) (outer : List Env) (s : Shared) (H : Hp), Room k (A.deeper (envF F f s.heap.objs.size)) → ∃ t, PE (ncx CX0 P w K mg base [y, z] F f A outer s H E0) bd t ∧ EF K t fe)
    (hm : ∀ ds d, m ds = some d → ∃ a, ds = [a] ∧ fe [.val a, .val (.int n)] = some d) : LamGo P w K mg base (k + 1) f F bd pm ctv [z] [some (.int n)] m := by
  intro A outer s H us vs Q hr e0 L hc r sp
  obtain ⟨O, ds, d, ob, rl, e, q⟩ := sp
  obtain ⟨a, rfl, e'⟩ := hm ds d e
  obtain ⟨v, vs', hv, ra, hz⟩ := rl
  have hz : vs' = [] := hz
  subst hz
  subst hv
  refine lam_run S hb hr e0 L hc r rfl fun hr' => ?_
  obtain ⟨t, w1, w2⟩ := hbody A outer s H hr'
  refine ⟨t, w1, w2 O [.val a, .val (.int n)] _ H d ?_ e' H (Ex.refl _) Q q⟩
  refine ⟨rfl, ob, fun i s h => ?_⟩
  match i, h with
  | 0, h => cases h; exact ⟨v, rfl, ra⟩
  | 1, h => cases h; exact ⟨.int n, rfl, rep_int⟩
  | i + 2, h => cases h
def spT (K : Fg) (P : Addr) (q : Str) (m : List PyData → Option PyData) : Sp := fun vs H Q _ => ∃ O ds d, AvOk O H ∧ O P ∧ RepL K H O ds vs ∧ TabS H P q ∧ m ds = some d ∧ ∀ v H', ExP P H H' → TabS H' P q → Rep K H' O d v → Q v H'
end Sv
namespace Sv
open PySem L2 Evl LamX
section
variable {K : Fg} {Hb H : Hp} {O : Av} {pn : Nat → V} {ow : Nat → List Addr} {ρ : Rho} {σ : St} {i g : Nat} {o : OW} {p : List Nat} {P : Addr} {q : Str}
theorem setP_same : ∀ {p : List Nat} {o o1 : OD}, getP o p = some o1 → setP o p o1 = o
  | [], o, o1, h => by simp only [getP, Option.some.injEq] at h; simp [setP, h]
  | j :: p, .dat d, o1, h => by simp [getP, kid] at h
  | j :: p, .nd s xs, o1, h => by
    simp only [getP, kid] at h
    obtain ⟨x, hx, h⟩ := bind_some' h
    simp only [setP, hx]
    rw [setP_same h, set_same hx]
theorem tab_tree {A : Av} {v : V} {F : List Addr} (t : Tree K H A (.nd (.tab P q) []) v F) : v = .ref P ∧ F = [P] ∧ TabS H P q := by
  simp only [Tree] at t
  obtain ⟨a, vs, G, rfl, rfl, ⟨rfl, rfl, T⟩, tl⟩ := t
  simp only [TreeL] at tl
  exact ⟨rfl, by rw [tl.2]; rfl, T⟩
theorem tree_tab {A : Av} (T : TabS H P q) : Tree K H A (.nd (.tab P q) []) (.ref P) [P] := by
  simp only [Tree]
  exact ⟨P, [], [], rfl, rfl, ⟨rfl, rfl, T⟩, by simp only [TreeL]; exact ⟨trivial, trivial⟩⟩
def ctAt (i : Nat) (p : List Nat) (P : Addr) (q : Str) (ρ : Rho) : Bool := match (ownO i ρ).bind fun o => getP o.od p with
  | some (.nd (.tab P' q') []) => decide (P' = P) && decide (q' = q)
  | _ => false
theorem ctAt_some (h : ctAt i p P q ρ = true) : ∃ o, ρ[i]? = some (.own o) ∧ getP o.od p = some (.nd (.tab P q) []) := by
  unfold ctAt at h
  split at h
  · rename_i P' q' e
    simp only [Bool.and_eq_true, decide_eq_true_eq] at h
    obtain ⟨o, ho, e⟩ := bind_some' e
    obtain ⟨rfl, rfl⟩ := h
    exact ⟨o, ownO_some ho, e⟩
  · cases h
def jnO (P : Addr) (q : Str) (o : OD) : OD := .nd (.gh P) [o, .nd (.tab P q) []]
theorem SR.join {s : Shp} {xs : List OD} {b bt : Bool} (sr : SR K Hb O pn ow ρ σ H) (hi : ρ[i]? = some (.own ⟨.nd s xs, b⟩)) (hg : ρ[g]? = some (.own ⟨.nd (.tab P q) [], bt⟩)) (hne : i ≠ g) :
    (∃ ow', SR K Hb O pn ow' ((ρ.set g .no).set i (.own ⟨jnO P q (.nd s xs), b⟩)) σ H ∧ ∀ a, Avd O ((ρ.set g .no).set i (.own ⟨jnO P q (.nd s xs), b⟩)) ow' a → Avd O ρ ow a) ∧ σ[g]? = some (some (.ref P)) := by
  obtain ⟨v, hv, t⟩ := sr.own i _ hi
  obtain ⟨vg, hvg, tg⟩ := sr.own g _ hg
  obtain ⟨rfl, eF, T⟩ := tab_tree tg
  have hil : i < ρ.length := (List.getElem?_eq_some_iff.mp hi).1
  have hiσ : i < σ.length := by rw [← sr.rs.len]; exact hil
  have own' : ∀ (j : Nat) (e : OW), ((ρ.set g .no).set i (.own ⟨jnO P q (.nd s xs), b⟩))[j]? = some (.own e) → (j = i ∧ e = ⟨jnO P q (.nd s xs), b⟩) ∨ (j ≠ i ∧ j ≠ g ∧ ρ[j]? = some (.own e)) := fun j e h => by
    rcases own_setO h with ⟨h1, h2, _⟩ | ⟨h1, h2⟩
    · exact .inl ⟨h1, h2⟩
    · obtain ⟨h3, h4⟩ := own_set non_ h2
      exact .inr ⟨h1, h3, h4⟩
  have sub : ∀ a, Avd O ((ρ.set g .no).set i (.own ⟨jnO P q (.nd s xs), b⟩)) (owU ow i (ow i ++ [P])) a → Avd O ρ ow a := fun a h => by
    rcases h with h | ⟨j, e, h1, h2⟩
    · exact .inl h
    · rcases own' j e h1 with ⟨rfl, _⟩ | ⟨h3, _, h4⟩
      · rw [owU_same] at h2
        rcases List.mem_append.mp h2 with h2 | h2
        · exact .inr ⟨_, _, hi, h2⟩
        · exact .inr ⟨_, _, hg, by rw [eF]; exact h2⟩
      · rw [owU_ne h3] at h2
        exact .inr ⟨j, e, h4, h2⟩
  have hPi : P ∉ ow i := fun z => sr.inj i g _ _ hi hg hne P z (by rw [eF]; exact List.mem_singleton_self _)
  refine ⟨⟨owU ow i (ow i ++ [P]), SR.build (by simpa using sr.rs.len) (sr.rs.av.anti sub) sr.ex sr.ob (fun j sl h ns => ?_) (fun j e h => ?_) (fun j e h hp => ?_) (fun j e h => ?_) (fun j e h => ?_) (fun j l e e' h h' hjl a ha ha' => ?_), sub⟩, hvg⟩
  · by_cases hj : i = j
    · subst hj
      rw [List.getElem?_set_self (by simpa using hil)] at h
      cases h
      exact (ns _ rfl).elim
    · rw [List.getElem?_set_ne hj] at h
      by_cases hj2 : g = j
      · subst hj2
        rw [List.getElem?_set_self (List.getElem?_eq_some_iff.mp hg).1] at h
        cases h
        trivial
      · rw [List.getElem?_set_ne hj2] at h
        exact (sr.rs.at' j sl h).anti sub
  · rcases own' j e h with ⟨rfl, rfl⟩ | ⟨h3, _, h4⟩
    · refine ⟨v, hv, ?_⟩
      rw [owU_same]
      have t' := Tree.anti sub _ _ _ t
      have t0 := t
      simp only [Tree] at t0
      obtain ⟨a, vs, G, rfl, _⟩ := t0
      unfold jnO
      simp only [Tree]
      refine ⟨a, [.ref a, .ref P], ow j ++ [P], rfl, rfl, rfl, ?_⟩
      simp only [TreeL]
      exact ⟨_, _, ow j, [P], rfl, rfl, t', .ref P, [], [P], [], rfl, by simp, tree_tab T, rfl, rfl⟩
    · obtain ⟨w, h5, h6⟩ := sr.own j e h4
      refine ⟨w, h5, ?_⟩
      rw [owU_ne h3]
      exact Tree.anti sub _ _ _ h6
  · rcases own' j e h with ⟨rfl, rfl⟩ | ⟨_, _, h4⟩
    · exact sr.pin _ _ hi hp
    · exact sr.pin j e h4 hp
  · rcases own' j e h with ⟨rfl, rfl⟩ | ⟨h3, _, h4⟩
    · rw [owU_same]
      refine List.nodup_append.mpr ⟨sr.nd _ _ hi, by simp, fun a ha c hc => ?_⟩
      rw [List.mem_singleton.mp hc]
      exact fun z => hPi (z ▸ ha)
    · rw [owU_ne h3]; exact sr.nd j e h4
  · rcases own' j e h with ⟨rfl, rfl⟩ | ⟨h3, _, h4⟩
    · rw [owU_same]
      intro a ha
      rcases List.mem_append.mp ha with ha | ha
      · exact sr.fr _ _ hi a ha
      · exact sr.fr _ _ hg a (by rw [eF]; exact ha)
    · rw [owU_ne h3]; exact sr.fr j e h4
  · have key : ∀ (l : Nat) (e : OW), l ≠ i → l ≠ g → ρ[l]? = some (.own e) → ∀ a ∈ ow i ++ [P], a ∉ ow l := fun l e h1 h2 h3 a ha => by
      rcases List.mem_append.mp ha with ha | ha
      · exact sr.inj i l _ e hi h3 (Ne.symm h1) a ha
      · exact sr.inj g l _ e hg h3 (Ne.symm h2) a (by rw [eF]; exact ha)
    rcases own' j e h with ⟨rfl, rfl⟩ | ⟨h3, h4, h5⟩
    · rcases own' l e' h' with ⟨rfl, rfl⟩ | ⟨k3, k4, k5⟩
      · exact hjl rfl
      · rw [owU_same] at ha
        rw [owU_ne k3] at ha'
        exact key l e' k3 k4 k5 a ha ha'
    · rw [owU_ne h3] at ha
      rcases own' l e' h' with ⟨rfl, rfl⟩ | ⟨k3, k4, k5⟩
      · rw [owU_same] at ha'
        exact key j e h3 h4 h5 a ha' ha
      · rw [owU_ne k3] at ha'
        exact sr.inj j l e e' h5 k5 hjl a ha ha'
theorem SR.split {o1 : OD} {b : Bool} (sr : SR K Hb O pn ow ρ σ H) (hi : ρ[i]? = some (.own ⟨jnO P q o1, b⟩)) (hg : ρ[g]? = some .no) (hσ : σ[g]? = some (some (.ref P))) :
    ∃ ow', SR K Hb O pn ow' ((ρ.set g (.own ⟨.nd (.tab P q) [], false⟩)).set i (.own ⟨o1, b⟩)) σ H ∧ ∀ a, Avd O ((ρ.set g (.own ⟨.nd (.tab P q) [], false⟩)).set i (.own ⟨o1, b⟩)) ow' a → Avd O ρ ow a := by
  have hne : i ≠ g := fun z => by rw [z, hg] at hi; cases hi
  obtain ⟨v, hv, t⟩ := sr.own i _ hi
  have hil : i < ρ.length := (List.getElem?_eq_some_iff.mp hi).1
  have hgl : g < ρ.length := (List.getElem?_eq_some_iff.mp hg).1
  unfold jnO at t
  simp only [Tree, TreeL] at t
  obtain ⟨a0, vs, G, rfl, eG, rfl, y, ys, F1, F2, e1, e2, t1, y2, ys2, F3, F4, e3, e4, t2, e5, e6⟩ := t
  cases e1
  cases e3
  subst e6
  have t2 : Tree K H (Avd O ρ ow) (.nd (.tab P q) []) (.ref P) F3 := by simp only [Tree, TreeL]; exact t2
  obtain ⟨_, rfl, T⟩ := tab_tree t2
  have hF : ow i = F1 ++ [P] := by rw [eG, e2, e4]; rfl
  have nd0 := sr.nd i _ hi
  rw [hF] at nd0
  have nd1 := (List.nodup_append.mp nd0).1
  have hP1 : P ∉ F1 := fun z => (List.nodup_append.mp nd0).2.2 P z P (List.mem_singleton_self _) rfl
  have own' : ∀ (j : Nat) (e : OW), ((ρ.set g (.own ⟨.nd (.tab P q) [], false⟩)).set i (.own ⟨o1, b⟩))[j]? = some (.own e) → (j = i ∧ e = ⟨o1, b⟩) ∨ (j ≠ i ∧ j = g ∧ e = ⟨.nd (.tab P q) [], false⟩) ∨ (j ≠ i ∧ j ≠ g ∧ ρ[j]? = some (.own e)) := fun j e h => by
    rcases own_setO h with ⟨h1, h2, _⟩ | ⟨h1, h2⟩
    · exact .inl ⟨h1, h2⟩
    · rcases own_setO h2 with ⟨h3, h4, _⟩ | ⟨h3, h4⟩
      · exact .inr (.inl ⟨h1, h3, h4⟩)
      · exact .inr (.inr ⟨h1, h3, h4⟩)
  have o_i : owU (owU ow g [P]) i F1 i = F1 := owU_same
  have o_g : owU (owU ow g [P]) i F1 g = [P] := by rw [owU_ne (Ne.symm hne), owU_same]
  have o_j : ∀ j, j ≠ i → j ≠ g → owU (owU ow g [P]) i F1 j = ow j := fun j h1 h2 => by rw [owU_ne h1, owU_ne h2]
  have inF : ∀ a, a ∈ F1 ∨ a ∈ [P] → a ∈ ow i := fun a h => by rw [hF]; exact List.mem_append.mpr h
  have sub : ∀ a, Avd O ((ρ.set g (.own ⟨.nd (.tab P q) [], false⟩)).set i (.own ⟨o1, b⟩)) (owU (owU ow g [P]) i F1) a → Avd O ρ ow a := fun a h => by
    rcases h with h | ⟨j, e, h1, h2⟩
    · exact .inl h
    · rcases own' j e h1 with ⟨rfl, _⟩ | ⟨_, rfl, _⟩ | ⟨h3, h4, h5⟩
      · rw [o_i] at h2; exact .inr ⟨_, _, hi, inF a (.inl h2)⟩
      · rw [o_g] at h2; exact .inr ⟨_, _, hi, inF a (.inr h2)⟩
      · rw [o_j j h3 h4] at h2; exact .inr ⟨j, e, h5, h2⟩
  refine ⟨owU (owU ow g [P]) i F1, SR.build (by simpa using sr.rs.len) (sr.rs.av.anti sub) sr.ex sr.ob (fun j sl h ns => ?_) (fun j e h => ?_) (fun j e h hp => ?_) (fun j e h => ?_) (fun j e h => ?_) (fun j l e e' h h' hjl a ha ha' => ?_), sub⟩
  · by_cases hj : i = j
    · subst hj
      rw [List.getElem?_set_self (by simpa using hil)] at h
      cases h
      exact (ns _ rfl).elim
    · rw [List.getElem?_set_ne hj] at h
      by_cases hj2 : g = j
      · subst hj2
        rw [List.getElem?_set_self hgl] at h
        cases h
        exact (ns _ rfl).elim
      · rw [List.getElem?_set_ne hj2] at h
        exact (sr.rs.at' j sl h).anti sub
  · rcases own' j e h with ⟨rfl, rfl⟩ | ⟨_, rfl, rfl⟩ | ⟨h3, h4, h5⟩
    · exact ⟨_, hv, by rw [o_i]; exact Tree.anti sub _ _ _ t1⟩
    · exact ⟨_, hσ, by rw [o_g]; exact Tree.anti sub _ _ _ t2⟩
    · obtain ⟨w, h6, h7⟩ := sr.own j e h5
      exact ⟨w, h6, by rw [o_j j h3 h4]; exact Tree.anti sub _ _ _ h7⟩
  · rcases own' j e h with ⟨rfl, rfl⟩ | ⟨_, rfl, rfl⟩ | ⟨h3, h4, h5⟩
    · exact sr.pin _ _ hi hp
    · cases hp
    · exact sr.pin j e h5 hp
  · rcases own' j e h with ⟨rfl, rfl⟩ | ⟨_, rfl, rfl⟩ | ⟨h3, h4, h5⟩
    · rw [o_i]; exact nd1
    · rw [o_g]; simp
    · rw [o_j j h3 h4]; exact sr.nd j e h5
  · rcases own' j e h with ⟨rfl, rfl⟩ | ⟨_, rfl, rfl⟩ | ⟨h3, h4, h5⟩
    · rw [o_i]; exact fun a ha => sr.fr _ _ hi a (inF a (.inl ha))
    · rw [o_g]; exact fun a ha => sr.fr _ _ hi a (inF a (.inr ha))
    · rw [o_j j h3 h4]; exact sr.fr j e h5
  · have key : ∀ (l : Nat) (e : OW), l ≠ i → ρ[l]? = some (.own e) → ∀ a, (a ∈ F1 ∨ a ∈ [P]) → a ∉ ow l := fun l e h1 h3 a ha => sr.inj i l _ e hi h3 (Ne.symm h1) a (inF a ha)
    rcases own' j e h with ⟨rfl, rfl⟩ | ⟨hj, rfl, rfl⟩ | ⟨h3, h4, h5⟩ <;> rcases own' l e' h' with ⟨rfl, rfl⟩ | ⟨hl, rfl, rfl⟩ | ⟨k3, k4, k5⟩
    · exact hjl rfl
    · rw [o_i] at ha; rw [o_g] at ha'
      exact hP1 (List.mem_singleton.mp ha' ▸ ha)
    · rw [o_i] at ha; rw [o_j l k3 k4] at ha'
      exact key l e' k3 k5 a (.inl ha) ha'
    · rw [o_g] at ha; rw [o_i] at ha'
      exact hP1 (List.mem_singleton.mp ha ▸ ha')
    · exact hjl rfl
    · rw [o_g] at ha; rw [o_j l k3 k4] at ha'
      exact key l e' k3 k5 a (.inr ha) ha'
    · rw [o_j j h3 h4] at ha; rw [o_i] at ha'
      exact key j e h3 h5 a (.inl ha') ha
    · rw [o_j j h3 h4] at ha; rw [o_g] at ha'
      exact key j e h3 h5 a (.inr ha') ha
    · rw [o_j j h3 h4] at ha; rw [o_j l k3 k4] at ha'
      exact sr.inj j l e e' h5 k5 hjl a ha ha'
end
end Sv
namespace Sv
open PySem L2 Evl LamX
section
variable {K : Fg}
def rexX (o : Option (PyData × Rho)) : Option Res := o.map fun r => .rex r.1 r.2
theorem es_retX {te : TE} {f : Rho → Option (PyData × Rho)} (h : EX K te f) : ES K (tRet te) (fun ρ => rexX (f ρ)) := fun Hb O pn ow ρ σ H r D sr e fin => by
  obtain ⟨⟨d, ρ'⟩, hd, rfl⟩ := Option.map_eq_some_iff.mp e
  exact h Hb O pn ow ρ σ H d ρ' sr hd _ fun v ow' H' s' r' _ => fin ow' σ v H' s' r'
def spLawT (K : Fg) (P : Addr) : Sp := fun vs H Q _ => ∃ a ns, vs = [.ref a] ∧ Scr K H a ns ∧ ns.length ≤ 63 ∧ H P = some (.tbl #[]) ∧ ∀ H', Q (.bl true) H'
def scrT (n : Nat) (P : Addr) (q : Str) (ns : List Int) : Rho := .scr ns :: (List.replicate n .no ++ [.own ⟨.nd (.tab P q) [], false⟩])
theorem law_okT {N : List Str} {n : Nat} {t : TS} {fb : Rho → Option Res} {vs : List V} {H : Hp} {Q : VK} {E : XK} {P : Addr} {q : Str} (hN : N.length = n + 2) (h : ES K t fb) (hf : ∀ ns : List Int, ns.length ≤ 63 → retD (fb (scrT n P q ns)) = some (.bool true)) (sp : spLawT K P vs H Q E) :
    t { nx := fun _ H' => Q .non H', rt := Q } ((L2.start N vs).set (n + 1) (some (.ref P))) H := by
  obtain ⟨a, ns, rfl, hs, hl, hP, k⟩ := sp
  have e' := hf ns hl
  have T : TabS H P q := TabS.nil hP
  have hst : (L2.start N [V.ref a]).length = n + 2 := by unfold L2.start; simp [hN]
  have hlen : (scrT n P q ns).length = n + 2 := by simp [scrT]
  have ix : ∀ (i : Nat) (s : Sl), (scrT n P q ns)[i]? = some s → (i = 0 ∧ s = .scr ns) ∨ s = .no ∨ (i = n + 1 ∧ s = .own ⟨.nd (.tab P q) [], false⟩) := fun i s h => by
    unfold scrT at h
    cases i with
    | zero => simp at h; exact .inl ⟨rfl, h.symm⟩
    | succ i =>
      rw [List.getElem?_cons_succ, List.getElem?_append] at h
      split at h
      · rw [List.getElem?_replicate] at h
        split at h
        · cases h; exact .inr (.inl rfl)
        · cases h
      · rename_i hi
        rw [List.length_replicate] at hi h
        cases hk : i - n with
        | zero =>
          rw [hk] at h
          simp at h
          exact .inr (.inr ⟨by omega, h.symm⟩)
        | succ k => rw [hk] at h; simp at h
  have own : ∀ (i : Nat) (e : OW), (scrT n P q ns)[i]? = some (.own e) → i = n + 1 ∧ e = ⟨.nd (.tab P q) [], false⟩ := fun i e h => by
    rcases ix i _ h with ⟨_, z⟩ | z | ⟨h1, z⟩
    · cases z
    · cases z
    · cases z; exact ⟨h1, rfl⟩
  have av : AvOk (Avd (fun _ => False) (scrT n P q ns) fun _ => [P]) H := fun b hb => by
    rcases hb with z | ⟨i, e, _, hm⟩
    · exact z.elim
    · rw [List.mem_singleton.mp hm, hP]; trivial
  have st : SR K (lessF [P] H) (fun _ => False) (fun _ => .non) (fun _ => [P]) (scrT n P q ns) ((L2.start N [V.ref a]).set (n + 1) (some (.ref P))) H := by
    refine SR.build (by rw [hlen, List.length_set, hst]) av (fun b u e => ?_) (fun _ z => z.elim) (fun i s h1 h2 => ?_) (fun i e h1 => ?_) (fun i e h1 hp => ?_) (fun _ _ _ => by simp) (fun i e h1 b hb => ?_) (fun i j e e' h1 h2 hne => ?_)
    · unfold lessF at e
      split at e
      · cases e
      · exact e
    · rcases ix i s h1 with ⟨rfl, rfl⟩ | rfl | ⟨_, rfl⟩
      · refine ⟨a, ?_, hs⟩
        rw [List.getElem?_set_ne (by omega)]
        rfl
      · trivial
      · exact (h2 _ rfl).elim
    · obtain ⟨rfl, rfl⟩ := own i e h1
      exact ⟨.ref P, by rw [List.getElem?_set_self (by rw [hst]; omega)], tree_tab T⟩
    · obtain ⟨_, rfl⟩ := own i e h1
      cases hp
    · unfold lessF
      rw [if_pos hb]
    · obtain ⟨rfl, _⟩ := own i e h1
      obtain ⟨rfl, _⟩ := own j e' h2
      exact (hne rfl).elim
  cases hr : fb (scrT n P q ns) with
  | none => rw [hr] at e'; cases e'
  | some r1 =>
    rw [hr] at e'
    refine h _ _ _ _ _ _ H r1 _ st hr ?_
    cases r1 with
    | ret d' =>
      cases e'
      intro v H' x rv
      simp only [Rep] at rv
      subst rv
      exact k H'
    | rex d' ρ =>
      cases e'
      intro ow σ v H' x rv
      simp only [Rep] at rv
      subst rv
      exact k H'
    | nx ρ => cases e'
    | brk ρ => cases e'
    | ct ρ => cases e'
end
end Sv
namespace Sv
open PySem PySem.Spec PyProof.Rows L2 Evl LamX NdefX
section
variable {K : Fg} {H : Hp} {P : Addr} {q : Str}
def slT (n : Nat) (P : Addr) (q : Str) (ss : List Sl) : Rho := ss ++ (List.replicate (n - ss.length) .no ++ [.own ⟨.nd (.tab P q) [], false⟩])
theorem slT_ix {n : Nat} {ss : List Sl} (hs : ss.length ≤ n) {i : Nat} {s : Sl} (h : (slT n P q ss)[i]? = some s) : (i < ss.length ∧ ss[i]? = some s) ∨ s = .no ∨ (i = n ∧ s = .own ⟨.nd (.tab P q) [], false⟩) := by
  unfold slT at h
  rw [List.getElem?_append] at h
  split at h
  · rename_i hi; exact .inl ⟨hi, h⟩
  · rename_i hi
    rw [List.getElem?_append] at h
    split at h
    · rw [List.getElem?_replicate] at h
      split at h
      · cases h; exact .inr (.inl rfl)
      · cases h
    · rename_i hj
      rw [List.length_replicate] at hj h
      cases hk : i - ss.length - (n - ss.length) with
      | zero =>
        rw [hk] at h
        simp at h
        exact .inr (.inr ⟨by omega, h.symm⟩)
      | succ k => rw [hk] at h; simp at h
theorem start_T {N : List Str} {O : Av} {ss : List Sl} {vs : List V} {n : Nat} (hN : N.length = n + 1) (hss : ss.length ≤ n) (hl : ss.length = vs.length) (ob : AvOk O H) (oP : O P) (T : TabS H P q) (hn : ∀ s ∈ ss, ∀ d, s ≠ .own d)
    (r : ∀ (i : Nat) (s : Sl) (v : V), ss[i]? = some s → vs[i]? = some v → SlOk K H O s (some (some v))) : SR K (lessF [P] H) (fun a => O a ∧ a ≠ P) (fun _ => .non) (fun _ => [P]) (slT n P q ss) ((L2.start N vs).set n (some (.ref P))) H := by
  have hst : (L2.start N vs).length = n + 1 := by unfold L2.start; simp [hN]; omega
  have hlen : (slT n P q ss).length = n + 1 := by simp [slT]; omega
  have own : ∀ (i : Nat) (e : OW), (slT n P q ss)[i]? = some (.own e) → i = n ∧ e = ⟨.nd (.tab P q) [], false⟩ := fun i e h => by
    rcases slT_ix hss h with ⟨_, z⟩ | z | ⟨h1, z⟩
    · exact (hn _ (List.mem_of_getElem? z) e rfl).elim
    · cases z
    · cases z; exact ⟨h1, rfl⟩
  have sub : ∀ a, Avd (fun a => O a ∧ a ≠ P) (slT n P q ss) (fun _ => [P]) a → O a := fun a ha => by
    rcases ha with z | ⟨i, e, _, hm⟩
    · exact z.1
    · rw [List.mem_singleton.mp hm]; exact oP
  refine SR.build (by rw [hlen, List.length_set, hst]) (fun b hb => ob b (sub b hb)) (fun b u e => ?_) (fun b z => ?_) (fun i s h1 h2 => ?_) (fun i e h1 => ?_) (fun i e h1 hp => ?_) (fun _ _ _ => by simp) (fun i e h1 b hb => ?_) (fun i j e e' h1 h2 hne => ?_)
  · unfold lessF at e
    split at e
    · cases e
    · exact e
  · unfold lessF
    rw [if_neg (by simpa using z.2)]
    exact ob b z.1
  · rcases slT_ix hss h1 with ⟨hi, h1⟩ | rfl | ⟨_, rfl⟩
    · have hv : vs[i]? = some vs[i] := List.getElem?_eq_getElem (by omega)
      have := r i s _ h1 hv
      rw [List.getElem?_set_ne (by omega)]
      have e : (L2.start N vs)[i]? = some (some vs[i]) := by
        unfold L2.start
        rw [List.getElem?_append_left (by rw [List.length_map]; omega), List.getElem?_map, hv]
        rfl
      rw [e]
      exact this.anti sub
    · trivial
    · exact (h2 _ rfl).elim
  · obtain ⟨rfl, rfl⟩ := own i e h1
    exact ⟨.ref P, by rw [List.getElem?_set_self (by rw [hst]; omega)], tree_tab T⟩
  · obtain ⟨_, rfl⟩ := own i e h1
    cases hp
  · unfold lessF
    rw [if_pos hb]
  · obtain ⟨rfl, _⟩ := own i e h1
    obtain ⟨rfl, _⟩ := own j e' h2
    exact (hne rfl).elim
/-- the end: the table is there, all else kept -/
theorem end_T {O : Av} {pn : Nat → V} {ow : Nat → List Addr} {ρ : Rho} {σ : L2.St} {H' : Hp} {n : Nat} {d : PyData} {v : V} (oP : O P) (sr : SR K (lessF [P] H) (fun a => O a ∧ a ≠ P) pn ow ρ σ H') (hc : ctAt n [] P q ρ = true) (rv : Rep K H' (Avd (fun a => O a ∧ a ≠ P) ρ ow) d v) :
    ExP P H H' ∧ TabS H' P q ∧ Rep K H' O d v := by
  obtain ⟨o, hi, hp⟩ := ctAt_some hc
  obtain ⟨v1, hv, t⟩ := sr.own n o hi
  have ho : o.od = .nd (.tab P q) [] := by
    have : getP o.od [] = some o.od := by cases o.od <;> rfl
    rw [this] at hp
    exact Option.some.inj hp
  rw [ho] at t
  obtain ⟨_, hF, T⟩ := tab_tree t
  refine ⟨fun b u hb e => sr.ex b u ?_, T, Rep.anti (fun a ha => ?_) _ _ rv⟩
  · unfold lessF
    rw [if_neg (by simpa using hb)]
    exact e
  · by_cases z : a = P
    · exact .inr ⟨n, o, hi, by rw [hF, z]; exact List.mem_singleton_self _⟩
    · exact .inl ⟨ha, z⟩
/-- what the body of such a def makes of data -/
def runT (n k : Nat) (P : Addr) (q : Str) (fb : Rho → Option Res) (ds : List PyData) : Option PyData := if ds.length = k then match fb (slT n P q (ds.map .val)) with
  | some (.rex d ρ) => if ctAt n [] P q ρ then some d else none
  | _ => none
  else none
theorem runT_some {n k : Nat} {fb : Rho → Option Res} {ds : List PyData} {d : PyData} (h : runT n k P q fb ds = some d) : ds.length = k ∧ ∃ ρ, fb (slT n P q (ds.map .val)) = some (.rex d ρ) ∧ ctAt n [] P q ρ = true := by
  unfold runT at h
  split at h
  · rename_i hk
    refine ⟨hk, ?_⟩
    split at h
    · rename_i d' ρ e
      split at h
      · rename_i hc
        cases h
        exact ⟨ρ, e, hc⟩
      · cases h
    · cases h
  · cases h
theorem repL_at : ∀ {ds : List PyData} {vs : List V} {O : Av}, RepL K H O ds vs → ∀ (i : Nat) (s : Sl) (v : V), (ds.map Sl.val)[i]? = some s → vs[i]? = some v → SlOk K H O s (some (some v))
  | [], _, _, _, i, s, v, h, _ => by simp at h
  | d :: ds, vs, O, r, i, s, v, h, hv => by
    obtain ⟨y, ys, rfl, ry, rs⟩ := r
    cases i with
    | zero =>
      simp at h hv
      subst h hv
      exact ⟨_, rfl, ry⟩
    | succ i => exact repL_at rs i s v (by simpa using h) (by simpa using hv)
theorem body_T {N : List Str} {n k : Nat} {t : TS} {fb : Rho → Option Res} {vs : List V} {Q : VK} {E : XK} (hN : N.length = n + 1) (hk : k ≤ n) (h : ES K t fb) (sp : spT K P q (runT n k P q fb) vs H Q E) :
    t { nx := fun _ H' => Q .non H', rt := Q } ((L2.start N vs).set n (some (.ref P))) H := by
  obtain ⟨O, ds, d, ob, oP, r, T, e, qq⟩ := sp
  obtain ⟨hl, ρ, e, hc⟩ := runT_some e
  have st := start_T (K := K) (ss := ds.map .val) (vs := vs) hN (by rw [List.length_map]; omega) (by rw [List.length_map, r.length]) ob oP T (fun s hs d z => by
    obtain ⟨x, _, rfl⟩ := List.mem_map.mp hs
    cases z) (repL_at r)
  refine h _ _ _ _ _ _ H _ _ st e ?_
  intro ow σ v H' s rv
  obtain ⟨h1, h2, h3⟩ := end_T oP s hc rv
  exact qq v H' h1 h2 h3
/-- the table alone is written -/
theorem SR.tabQ {Hb : Hp} {O : Av} {pn : Nat → V} {ow : Nat → List Addr} {ρ : Rho} {σ : L2.St} {i : Nat} {o : OW} {p : List Nat} (sr : SR K Hb O pn ow ρ σ H) (hi : ρ[i]? = some (.own o)) (hp : getP o.od p = some (.nd (.tab P q) [])) :
    TabS H P q ∧ Avd O ρ ow P ∧ ∀ H1, ExP P H H1 → TabS H1 P q → ∃ ow', SR K Hb O pn ow' ρ σ H1 ∧ (∀ a, Avd O ρ ow' a → Avd O ρ ow a) ∧ ∀ d0 v0, Rep K H (Avd O ρ ow) d0 v0 → Rep K H1 (Avd O ρ ow') d0 v0 := by
  obtain ⟨v, hv, t⟩ := sr.own i o hi
  obtain ⟨v1, at1⟩ := Tree.at t hp
  obtain ⟨F1, t1, sub, nd1, cl⟩ := sr.part hi hv at1 hp
  obtain ⟨rfl, rfl, T⟩ := tab_tree t1
  refine ⟨T, .inr ⟨i, o, hi, sub P (List.mem_singleton_self _)⟩, fun H1 k T1 => ?_⟩
  obtain ⟨ow', sr', av'⟩ := cl H1 (.nd (.tab P q) []) [P] (fun b u e n => k b u (fun z => n (by rw [z]; exact List.mem_singleton_self _)) e) (fun a ha => .inr ha) nd1 (tree_tab T1)
  rw [setP_same hp, set_same hi] at sr' av'
  have inc : ∀ a, Avd O ρ ow' a → Avd O ρ ow a := fun a ha => by
    rcases av' a ha with h | h
    · exact h.1
    · exact .inr ⟨i, o, hi, sub a h⟩
  exact ⟨ow', sr', inc, fun d0 v0 r0 => Rep.keep2 sr.rs.av (fun b x hx hn => k b x (fun z => hn (.inr ⟨i, o, hi, sub b (by rw [z]; exact List.mem_singleton_self _)⟩)) hx) (fun a ha => .inl (inc a ha)) _ _ r0⟩
/-- a call of a def that makes lambdas -/
def callT (g : Nat) (P : Addr) (q : Str) (m : List PyData → Option PyData) (fr : Rho → Option (List PyData)) (ρ : Rho) : Option (PyData × Rho) := if ctAt g [] P q ρ then ((fr ρ).bind m).map fun d => (d, ρ) else none
theorem ex_callT {g : Nat} {m : List PyData → Option PyData} {E : XK} {tr : TA} {fr : Rho → Option (List PyData)} (ha : EA K tr fr) : EX K (tCall (spT K P q m) [] E tr) (callT g P q m fr) := fun Hb O pn ow ρ σ H d ρ' sr e Q k => by
  unfold callT at e
  split at e
  · rename_i ht
    obtain ⟨o, hi, hp⟩ := ctAt_some ht
    obtain ⟨d', hd, e⟩ := Option.map_eq_some_iff.mp e
    cases e
    obtain ⟨ds, ed, em⟩ := bind_some' hd
    refine ha (Avd O ρ ow) ρ σ H ds sr.rs ed H (Ex.refl _) _ fun vs H1 e1 r1 => ?_
    obtain ⟨T, oP, up⟩ := (sr.mono e1).tabQ hi hp
    refine ⟨Avd O ρ ow, ds, _, (sr.mono e1).rs.av, oP, by simpa using r1, T, em, fun v H' x T' rv => ?_⟩
    obtain ⟨ow', sr', inc, rp⟩ := up H' x T'
    exact k v ow' H' sr' (Rep.anti inc _ _ rv) fun d0 v0 r0 => rp d0 v0 (r0.mono sr.rs.av e1)
  · cases e
/-- x(e1, e2, lambda ..) -/
def lamPutX (g : Nat) (P : Addr) (q : Str) (j : Nat) (m : Int → List PyData → Option PyData) (f1 f2 : Rho → Option PyData) (ρ : Rho) : Option (PyData × Rho) := if ctAt g [] P q ρ then (gv j ρ).bind fun c => match c with
  | .int n => ((bnd2 (f1 ρ) (bnd2 (f2 ρ) (some []) consD) consD).bind (m n)).map fun d => (d, ρ)
  | _ => none
  else none
theorem ex_lamPut {g j : Nat} {m : Int → List PyData → Option PyData} {t1 t2 : TE} {f1 f2 : Rho → Option PyData} (h1 : EF K t1 f1) (h2 : EF K t2 f2) : EX K (tLamPut K P q j m t1 t2) (lamPutX g P q j m f1 f2) := fun Hb O pn ow ρ σ H d ρ' sr e Q k => by
  unfold lamPutX at e
  split at e
  · rename_i ht
    obtain ⟨o, hi, hp⟩ := ctAt_some ht
    obtain ⟨c, hc, e⟩ := bind_some' e
    split at e
    · rename_i n
      obtain ⟨d', hd, e⟩ := Option.map_eq_some_iff.mp e
      cases e
      obtain ⟨ds, ed, em⟩ := bind_some' hd
      obtain ⟨x, y', ex, ey', ec⟩ := bnd2_some ed
      obtain ⟨y, z, ey, ez, ec2⟩ := bnd2_some ey'
      cases ez
      cases ec2
      cases ec
      have hn : σ[j]? = some (some (.int n)) := by
        unfold gv at hc
        split at hc
        · rename_i d0 h0
          cases hc
          obtain ⟨v, hv, r⟩ := sr.rs.at' j _ h0
          have r : v = V.int n := r
          rw [r] at hv
          exact hv
        · cases hc
      refine h1 (Avd O ρ ow) ρ σ H x sr.rs ex H (Ex.refl _) _ fun v1 H1 e1 r1 => ?_
      refine h2 (Avd O ρ ow) ρ σ H y sr.rs ey H1 e1 _ fun v2 H2 e2 r2 => ?_
      have sr2 := sr.mono (e1.trans e2)
      obtain ⟨T, oP, up⟩ := sr2.tabQ hi hp
      refine ⟨T, n, hn, fun H3 x3 T3 => ?_⟩
      obtain ⟨ow', sr', inc, rp⟩ := up H3 x3 T3
      exact ⟨Avd O ρ ow', [x, y], _, sr'.rs.av, RepL.cons (rp _ _ (r1.mono (sr.mono e1).rs.av e2)) (RepL.cons (rp _ _ r2) .nil), em, fun v H' e' r' => k v ow' H' (sr'.mono e') r' fun d0 v0 r0 => (rp d0 v0 (r0.mono sr.rs.av (e1.trans e2))).mono sr'.rs.av e'⟩
    · cases e
  · cases e
end
end Sv
namespace Sv
open PySem L2 Evl
section
variable {K : Fg}
theorem repL_ints {H : Hp} {A : Av} : ∀ ns : List Int, RepL K H A (ns.map PyData.int) (ns.map V.int)
  | [] => .nil
  | n :: ns => RepL.cons rep_int (repL_ints ns)
theorem sqL_ex {H H' : Hp} {a : Addr} {xs : List V} (h : SqL K H a xs) (e : Ex H H') : SqL K H' a xs := by
  rcases h with (h | ⟨o, h⟩) | h
  · exact .inl (.inl (e _ _ h))
  · exact .inl (.inr ⟨o, e _ _ h⟩)
  · exact .inr h
theorem eib_scr {i : Nat} : EIb K (iSeq K (tVar i)) (fun ρ => (scrOf i ρ).map fun ns => ns.map PyData.int) := fun A ρ σ H ds rs e H1 e1 R k => by
  obtain ⟨ns, hn, rfl⟩ := Option.map_eq_some_iff.mp e
  obtain ⟨a, ha, sq⟩ := scr_at rs hn
  have ok := rs.av.mono e1
  have sq1 := sqL_ex sq e1
  exact ⟨_, ha, .inl ⟨a, rfl, ⟨_, sq1⟩, k _ H1 (Ex.refl _) (iter_lst ok (fun Ha x => ⟨sqL_ex sq1 x, Kp.ofEx x⟩) (repL_ints ns))⟩⟩
end
end Sv
namespace Sv
open PySem PySem.Spec PyProof.Rows L2 Evl LamX NdefX
section
variable {K : Fg}
theorem etx_B {te : TE} {f : Rho → Option (PyData × Rho)} (h : EX K te f) : ETX K (tB te) (fun ρ => asX (f ρ)) := fun Hb O pn ow ρ σ H b ρ' sr e Q q => by
  unfold asX at e
  obtain ⟨⟨d1, ρ1⟩, h1, e⟩ := bind_some' e
  obtain ⟨z, h3, e⟩ := Option.map_eq_some_iff.mp e
  cases e
  cases asB_some h3
  refine h Hb O pn ow ρ σ H _ _ sr h1 _ fun v ow' H' s' rv kp => ?_
  simp only [Rep] at rv
  exact ⟨b, rv, q ow' H' s'⟩
def notX (a : Option (Bool × Rho)) : Option (Bool × Rho) := a.map fun r => (!r.1, r.2)
theorem etx_not {t : TT} {f : Rho → Option (Bool × Rho)} (h : ETX K t f) : ETX K (tNot t) (fun ρ => notX (f ρ)) := fun Hb O pn ow ρ σ H b ρ' sr e Q q => by
  obtain ⟨⟨c, ρ1⟩, h1, e⟩ := Option.map_eq_some_iff.mp (show (f ρ).map _ = some (b, ρ') from e)
  cases e
  exact h Hb O pn ow ρ σ H c _ sr h1 _ fun ow' H' s' => q ow' H' s'
theorem spT_len {P : Addr} {q : Str} {n k : Nat} {fb : Rho → Option Res} {vs : List V} {H : Hp} {Q : VK} {E : XK} (h : spT K P q (runT n k P q fb) vs H Q E) : vs.length = k := by
  obtain ⟨O, ds, d, ob, oP, r, T, e, qq⟩ := h
  rw [r.length]
  exact (runT_some e).1
end
theorem free_by {a sc : Scope} (h : (sc.names.all fun z => !decide (z.2 = .free) || decide (a.names.lookup z.1 = some .cell) || decide (a.names.lookup z.1 = some .free)) = true) : ∀ z ∈ sc.names, z.2 = .free → a.names.lookup z.1 = some .cell ∨ a.names.lookup z.1 = some .free := fun z hz e => by
  have := List.all_eq_true.mp h z hz
  simp only [e, decide_true, Bool.not_true, Bool.false_or, Bool.or_eq_true, decide_eq_true_eq] at this
  exact this
section
variable {P : Program} {w : World} {K : Fg} {mg : Str → Option Value} {base : Heap} {g f : Addr} {F : NF} {bd : Expr} {pm ctv : Value} {fr : List Str} {ws : List (Option V)} {m : List PyData → Option PyData} {k j : Nat}
theorem LamGo.mono (h : k ≤ j) (G : LamGo P w K mg base k f F bd pm ctv fr ws m) : LamGo P w K mg base j f F bd pm ctv fr ws m := fun A outer s H us vs Q hr => G A outer s H us vs Q (hr.mono h)
theorem PutGo.none : PutGo P w K mg base k g f F bd pm ctv fr ws fun _ => none := fun A outer s H us vs Q hr e0 L hc r ⟨x, y, hv, O, ds, d, _, _, e, _⟩ => by cases e
end
end Sv
namespace Sv
open PySem PySem.Spec PyProof.Rows L2 Evl LamX
theorem law_tab {P : Program} {w : World} {K : Fg} {mg mb : Str → Option Value} {fa a c T : Addr} {s₁ : Shared} {vs : List Value} {ns : List Int} (KX : K.In s₁.heap) (gl : s₁.heap.Ns mainGlobals mg) (bl : s₁.heap.Ns builtinsNs mb)
    (bb : ∀ x : Str, x ≠ "__name__" → mb x = bootBuiltins x) (nl : s₁.heap.NoLimit) (ng : s₁.gens = #[]) (atT : s₁.heap.get? T = some { cls := .none, data := .fields #[] }) (kT : K.lookup T = none) (C : PySem.W.CodeHd s₁.heap c T)
    (bm : ∃ (m : Addr) (ob : Obj), mg "__builtins__" = some (.ref m) ∧ m ≠ builtinsNs ∧ s₁.heap.get? m = some ob ∧ ob.cls = .type "module" ∧ ob.dict = some builtinsNs ∧ ob.data = .plain)
    (ata : s₁.heap.get? a = some { cls := .type "list", data := .seq vs.toArray }) (its0 : IntsAre vs ns) (len : ns.length ≤ sizeLine)
    (F : ∀ (base : Heap) (H : Hp), K.In base → base.Ns mainGlobals mg → TabB base mg c T → H T = some (.tbl #[]) → Scr K H a ns → Env0 P w K mg base callerA [] s₁ H →
      codeAny (model P w) callerA (.call (.ref fa) ⟨[.ref a], []⟩) (CR C8.CX0 [] P w H s₁ (fun v _ => v = .bl true) C8.E0) s₁) :
    codeAny (model P w) callerA (.call (.ref fa) ⟨[.ref a], []⟩) (fun r s' => r = .ok (.ret (.bool true)) ∧ OldK s₁.heap s'.heap ∧ s'.os = s₁.os ∧ AllBare s'.gens) s₁ := by
  have rv := vals_ints its0
  have ne : a ≠ T := fun z => by
    rw [z, atT] at ata
    cases ata
  have main : ∀ H : Hp, H T = some (.tbl #[]) → (∀ b, b ≠ T → H b = none ∨ b = a ∧ K.lookup a = none ∧ ∃ o xs, H b = some (.frz o (.lst xs))) → Scr K H a ns → HOk P w H s₁.heap →
      codeAny (model P w) callerA (.call (.ref fa) ⟨[.ref a], []⟩) (fun r s' => r = .ok (.ret (.bool true)) ∧ OldK s₁.heap s'.heap ∧ s'.os = s₁.os ∧ AllBare s'.gens) s₁ := by
    intro H hT oth sc ok
    have un0 : ∀ {b : Addr} {o : Obj}, s₁.heap.get? b = some o → (∀ us n, o.data ≠ .seq us n) → o.data ≠ .fields #[] → H b = none := fun {b o} e q1 q2 => by
      by_cases hb : b = T
      · rw [hb, atT] at e
        cases e
        exact (q2 rfl).elim
      · rcases oth b hb with z | ⟨rfl, _⟩
        · exact z
        · rw [ata] at e
          cases e
          exact (q1 _ _ rfl).elim
    have nsB : ∀ {b : Addr} {m : Str → Option Value}, s₁.heap.Ns b m → (hidT s₁.heap H).Ns b m := fun {b m} ⟨o, es, ep, e, d, r⟩ =>
      ⟨o, es, ep, hidT_get e (un0 e (fun us n z => by rw [d] at z; cases z) fun z => by rw [d] at z; cases z), d, r⟩
    have KB : K.In (hidT s₁.heap H) := fun b o e => hidT_get (KX b o e) (by
      by_cases hb : b = T
      · rw [hb, kT] at e
        cases e
      · rcases oth b hb with z | ⟨rfl, z, _⟩
        · exact z
        · rw [z] at e
          cases e)
    obtain ⟨mc, l1, l2⟩ := nl
    obtain ⟨o, us, file, tf, flags, tg, inF, text, tt, e1, r1, r2, r3, r4⟩ := id C
    obtain ⟨m, ob, b1, b2, b3, b4, b5, b6⟩ := bm
    have TB : TabB (hidT s₁.heap H) mg c T := by
      refine ⟨⟨o, us, file, tf, flags, tg, inF, text, tt, hidT_get e1 (un0 e1 (fun vs n z => by rw [r2] at z; cases z) fun z => by rw [r2] at z; cases z; simp at r3), r1, r2, r3, r4⟩, ⟨m, ob, b1, b2, fun q => ?_, fun q => ?_, hidT_get b3 (un0 b3 (fun vs n z => by rw [b6] at z; cases z) fun z => by rw [b6] at z; cases z), b4, b5, b6⟩, fun q => ?_⟩
      · obtain ⟨og, es, ep, eg, hd, _⟩ := gl
        rw [q, eg] at b3
        cases b3
        rw [hd] at b6
        cases b6
      · rw [q, atT] at b3
        cases b3
        cases b6
      · obtain ⟨og, es, ep, eg, hd, _⟩ := gl
        rw [q, atT] at eg
        cases eg
        cases hd
    have e0 : Env0 P w K mg (hidT s₁.heap H) callerA [] s₁ H := ⟨rfl, ⟨KB, nsB gl, ⟨mb, nsB bl, bb⟩, ⟨mc, nsB l1, l2⟩⟩, fun b o e => of_hidT e, Nat.le_of_eq (hidT_size _ _), trivial, fun b hb => absurd (show b ∈ ([] : List Addr) from hb) (by simp), ok, .of_eq ng⟩
    refine codeAny_mono (F _ H KB (nsB gl) TB hT sc e0) fun r s' q => ?_
    cases r with
    | error e => exact False.elim q
    | ok fl =>
      cases fl with
      | next => exact False.elim q
      | brk => exact False.elim q
      | cont => exact False.elim q
      | ret u =>
        obtain ⟨v, H', os, bare, un, ok', r', q⟩ := q
        obtain rfl : v = .bl true := q
        obtain rfl : u = Value.bool true := r'
        have kept : ∀ b o, b ≠ T → s₁.heap.get? b = some o → s'.heap.get? b = some o := fun b o nb e => by
          rcases oth b nb with z | ⟨_, _, ob, xs, z⟩
          · exact un.keep b o e z (fun z => absurd (show b ∈ ([] : List Addr) from z) (by simp)) (by simp)
          · have z1 := (ok b _ z).1
            have z2 := (ok' b _ (un.frzs b ob _ z)).1
            rw [e] at z1
            cases z1
            exact z2
        obtain ⟨more, grown⟩ := un.tbls T #[] hT
        have grown' := ok' T _ grown
        refine ⟨rfl, ⟨fun b o e => ?_, fun b o e => ?_⟩, os, bare⟩
        · by_cases hb : b = T
          · rw [hb, atT] at e
            cases e
            rw [hb]
            exact .inr (.inl ⟨(C.tab atT).isCodeTable, rfl, #[], _, rfl, by rw [Array.empty_append]; exact grown'⟩)
          · exact .inl (kept b o hb e)
        · by_cases hb : b = T
          · rw [hb]
            exact ⟨_, grown'⟩
          · exact ⟨o, kept b o hb e⟩
  cases hk : K.lookup a with
  | some o =>
    have e := KX a o hk
    rw [ata] at e
    cases e
    refine main (fun b => if b = T then some (.tbl #[]) else none) (if_pos rfl) (fun b hb => .inl (if_neg hb)) (.inr ⟨_, vs.toArray, _, hk, rfl, rfl, rfl, by rw [List.size_toArray, its0.length]; exact len, by simpa using rv⟩) fun b u z => ?_
    by_cases hb : b = T
    · cases (if_pos hb).symm.trans z
      rw [hb]
      exact atT
    · cases (if_neg hb).symm.trans z
  | none =>
    refine main (fun b => if b = T then some (.tbl #[]) else if b = a then some (.frz { cls := .type "list", data := .seq vs.toArray } (.lst (ns.map V.int))) else none) (if_pos rfl) (fun b hb => ?_) (.inl ⟨_, (if_neg ne).trans (if_pos rfl)⟩) fun b u z => ?_
    · by_cases ha : b = a
      · exact .inr ⟨ha, hk, _, _, (if_neg hb).trans (if_pos ha)⟩
      · exact .inl ((if_neg hb).trans (if_neg ha))
    · by_cases hb : b = T
      · cases (if_pos hb).symm.trans z
        rw [hb]
        exact atT
      · have z1 := (if_neg hb).symm.trans z
        by_cases ha : b = a
        · cases (if_pos ha).symm.trans z1
          rw [ha]
          exact ⟨ata, by rw [List.length_map]; exact len, vs, _, rv, ata⟩
        · cases (if_neg ha).symm.trans z1
end Sv
namespace Sv
open PySem PySem.Spec PyProof.Rows L2 Evl LamX
abbrev lamQn (x : Str) : Str := x ++ ".<locals>." ++ "<lambda>"
def funAt (K : Fg) (x : Str) : Addr := match PySem.W.nsIn K mainGlobals x with
  | some (some (.ref f)) => f
  | _ => 0
def codeX (K : Fg) (x : Str) : Addr := match K.lookup (funAt K x) with
  | some ⟨_, _, .func fd, _⟩ => (match fd.code with
    | .ref c => c
    | _ => 0)
  | _ => 0
def tabX (K : Fg) (x : Str) : Addr := match K.lookup (codeX K x) with
  | some ⟨_, _, .fields vs, _⟩ => (match vs.getD 11 .none with
    | .ref P => P
    | _ => 0)
  | _ => 0
/-- what the top says of them -/
structure TabK (K : Fg) (x : Str) : Prop where
  hd : PySem.W.codeHdIn K (codeX K x) (tabX K x) = true
  no : K.lookup (tabX K x) = none
theorem code_ref {K : Fg} {cd : Value} {q : Str} (h : PySem.W.codeIn K cd q = true) : ∃ c, cd = .ref c := by
  cases cd with
  | ref c => exact ⟨c, rfl⟩
  | _ => cases h
section
variable {P : Program} {w : World} {K : Fg} {mg : Str → Option Value} {base h : Heap}
theorem fun_code {x : Str} {st : Stmt} {f : Addr} {fd : FuncData} (F : Fun K x x st f fd) (a : PySem.W.nsIn K mainGlobals x = some (some (.ref f))) :
    ∃ (oc : Value) (od : Option Addr) (kV doc pm : Value) (an : Option Addr) (ct : Value) (osl : Array (Option Value)), fd = PySem.W.fnOf x x (defArgs st) (defBody st) (defScope st) .none kV doc pm an (.ref (codeX K x)) ct ∧ K.lookup f = some ⟨oc, od, .func fd, osl⟩ ∧ PySem.W.codeIn K (.ref (codeX K x)) x = true := by
  obtain ⟨oc, od, kV, doc, pm, an, cdv, ct, osl, rfl, lk, hcd⟩ := id F.ex
  obtain ⟨c, rfl⟩ := code_ref hcd
  have e : codeX K x = c := by
    unfold codeX funAt
    rw [a]
    dsimp only
    rw [lk]
  rw [e]
  exact ⟨oc, od, kV, doc, pm, an, ct, osl, rfl, lk, hcd⟩
/-- a def that makes lambdas, by its body -/
theorem maker_ok {x : Str} {st : Stmt} {f : Addr} {fd : FuncData} {N ps : List Str} {k : Nat} {sp : Sp} (F : Fun K x x st f fd) (a : PySem.W.nsIn K mainGlobals x = some (some (.ref f))) (S : FnScope N ps (defScope st)) (len : ∀ vs H Q E, sp vs H Q E → vs.length = ps.length)
    (body : ∀ (A : Around) (outer : List Env) (s : Shared) (H : Hp) (vs : List V) (Q : VK) (E : XK), Room k (A.deeper (envOfC x (defScope st) s.heap.objs.size f (.ref (codeX K x)))) → sp vs H Q E →
      ∃ t, PSs (cxOf C8.CX0 P w K mg base N x (defScope st) f (.ref (codeX K x)) A outer s H E).nox (defBody st) t ∧ t { nx := fun _ H' => Q .non H', rt := Q } (start N vs) H) : FnOk P w K mg base C8.CX0 (k + 1) f fd ps sp := by
  obtain ⟨oc, od, kV, doc, pm, an, ct, osl, rfl, lk, hcd⟩ := fun_code F a
  refine ⟨len, fun A outer s H args us vs Q E hr e0 hb r q => run_ofS (N := N) (ps := ps) lk hcd S hr e0 hb r (len vs H Q E q) fun hr' => ?_⟩
  obtain ⟨t, h1, h2⟩ := body A outer s H vs Q E hr' q
  exact ⟨t, h1.nox, h2⟩
/-- the law's run from the top -/
def LawG (P : Program) (w : World) (K : Fg) (mg : Str → Option Value) (base : Heap) (T fa : Addr) : Prop := ∀ (H : Hp) (s : Shared) (a : Addr) (ns : List Int), Env0 P w K mg base callerA [] s H → H T = some (.tbl #[]) → Scr K H a ns → ns.length ≤ 63 →
  codeAny (model P w) callerA (.call (.ref fa) ⟨[.ref a], []⟩) (CR C8.CX0 [] P w H s (fun v _ => v = .bl true) C8.E0) s
theorem lawG_ok {st : Stmt} {fa T : Addr} {fd : FuncData} {N : List Str} {k : Nat} (F : Fun K "law" "law" st fa fd) (S : FnScope N ["script"] (defScope st)) (hr : Room (k + 1) callerA)
    (hb : ∀ (kV doc pm : Value) (an : Option Addr) (cdv ct : Value) (s : Shared) (v : Value), BindsTo s (PySem.W.fnOf "law" "law" (defArgs st) (defBody st) (defScope st) .none kV doc pm an cdv ct) ⟨[v], []⟩ [("script", v)])
    (body : ∀ (cdv : Value) (s : Shared) (H : Hp) (vs : List V) (Q : VK) (E : XK), Room k (callerA.deeper (envOfC "law" (defScope st) s.heap.objs.size fa cdv)) → spLawT K T vs H Q E →
      ∃ t, PSs (cxOf C8.CX0 P w K mg base N "law" (defScope st) fa cdv callerA [] s H E).nox (defBody st) t ∧ t { nx := fun _ H' => Q .non H', rt := Q } (start N vs) H) : LawG P w K mg base T fa := fun H s a ns e0 hT sc hl => by
  obtain ⟨oc, od, kV, doc, pm, an, cdv, ct, osl, rfl, lk, hcd⟩ := id F.ex
  refine run_ofS (N := N) (ps := ["script"]) (us := [.ref a]) (vs := [.ref a]) lk hcd S hr e0 (hb kV doc pm an cdv ct s (.ref a)) (.cons rfl .nil) rfl fun hr' => ?_
  obtain ⟨t, h1, h2⟩ := body cdv s H [.ref a] (fun v _ => v = .bl true) C8.E0 hr' ⟨a, ns, rfl, sc, hl, hT, fun _ => rfl⟩
  exact ⟨t, h1.nox, h2⟩
end
/-- the law's end -/
theorem walk_lawT {l : PySem.W.OpenLaw} {q : Program} {loose : List Str} {XP : (Str → Option Value) → Heap → Prop} {YP : World → Heap → Prop} {d : DefRec} {K : Params → Fg} {st : Stmt} {x : Str} (hn : l.most = some 63) (hdf : d.params.defaults = [])
    (hY : ∀ (w : World) (h : Heap), YP w h → (K w.params).In h) (hd : d.name = "law") (hT : ∀ (w : World) (h : Heap), YP w h → h.get? (tabX (K w.params) x) = some { cls := .none, data := .fields #[] }) (tk : ∀ w : World, TabK (K w.params) x)
    (F : ∀ (w : World) (mg : Str → Option Value) (h : Heap), (K w.params).In h → h.Ns mainGlobals mg → Dn (K w.params) "law" st ∧ ∀ (fa : Addr) (fd : FuncData), Fun (K w.params) "law" "law" st fa fd → ∀ base : Heap, TabB base mg (codeX (K w.params) x) (tabX (K w.params) x) → LawG l.prog w (K w.params) mg base (tabX (K w.params) x) fa) :
    PySem.W.WalkO q loose XP YP l.row.toRowW d [] (fun f vs => PySem.call f vs) := by
  refine Att.attach_callB hn hdf fun w s₀ s₁ mg mb fa o pm cd doc a vs ns G Y ho hdt hcd hmg hobj hints hlen hbits hg => ?_
  have KX := hY w _ Y
  obtain ⟨dl, F⟩ := F w mg _ KX G.T.g
  obtain ⟨f, fd, Fn, af⟩ := dl.ex
  rw [hd] at hmg
  cases hmg.symm.trans (PySem.W.mg_of KX G.T.g af)
  exact law_tab KX G.T.g G.T.b G.T.builtins G.T.nolimit hg (hT w _ Y) (tk w).no (PySem.W.codeHd_of_K KX (tk w).hd) G.T.bmain hobj hints (Nat.le_trans hlen (by decide)) fun base H KB NB TB hH sc e0 => F _ _ Fn base TB H s₁ a ns e0 hH sc hlen
end Sv
namespace K09
open PySem L2 Evl Sv
def topS (i : Nat) : Stmt := PySem.Challenge.pw_sieverules_k09_lists_anywhere.main.body.getD i (.Pass ⟨0, 0, 0, 0⟩)
abbrev s_is_name : Stmt := topS 13
abbrev s_is_number : Stmt := topS 14
abbrev s_are_rising : Stmt := topS 15
abbrev s_are_names : Stmt := topS 16
abbrev s_is_letter : Stmt := topS 17
abbrev s_is_test : Stmt := topS 18
abbrev s_is_deed : Stmt := topS 19
abbrev s_is_rule : Stmt := topS 20
abbrev s_is_part : Stmt := topS 21
abbrev s_calls_of : Stmt := topS 22
abbrev s_is_book : Stmt := topS 23
abbrev s__law_cell_at : Stmt := topS 25
abbrev s__law_mixed : Stmt := topS 26
abbrev s__law_drawn : Stmt := topS 27
abbrev s__law_any : Stmt := topS 28
abbrev s__law_swapped : Stmt := topS 29
abbrev s__law_test : Stmt := topS 30
abbrev s__law_deed : Stmt := topS 31
abbrev s__law_book : Stmt := topS 32
abbrev s__law_letter : Stmt := topS 33
abbrev s__law_is_name : Stmt := topS 34
abbrev s__law_is_number : Stmt := topS 35
abbrev s__law_is_test : Stmt := topS 36
abbrev s__law_is_deed : Stmt := topS 37
abbrev s__law_is_rule : Stmt := topS 38
abbrev s__law_is_book : Stmt := topS 39
abbrev s__law_are_names : Stmt := topS 40
abbrev s__law_is_letter : Stmt := topS 41
abbrev s__law_edges : Stmt := topS 42
abbrev s__law_places_in : Stmt := topS 43
abbrev s__law_put_at : Stmt := topS 44
abbrev s__law_otherwise : Stmt := topS 45
abbrev s__law_spoilt : Stmt := topS 46
abbrev s__law_once : Stmt := topS 47
abbrev s_law : Stmt := topS 48
theorem sc__law_cell_at : FnScope ["script", "k"] ["script", "k"] (defScope s__law_cell_at) := ⟨rfl, rfl, rfl, by decide +kernel, rfl, by decide +kernel, by decide +kernel⟩
theorem ok__law_cell_at {P : Program} {w : World} {K : Fg} {mg : Str → Option Value} {base : Heap} {k : Nat} {f : Addr} {fd : FuncData} (F : Fun K "_law_cell_at" "_law_cell_at" s__law_cell_at f fd) (B : BI mg) :
    FnOk P w K mg base CX0 (k + 1) f fd ["script", "k"] (Sv.spCell K) := by
  have nd := sc__law_cell_at.nd
  refine F.ok sc__law_cell_at (fun vs H Q E h => ?_) fun cdv A outer s H vs Q E hr h => ?_
  · obtain ⟨a, ns, k, rfl, _⟩ := h
    rfl
  · obtain ⟨a, ns, k, rfl, hS, h0, q⟩ := h
    refine ⟨_, pss_cons (ps_if (pt_cmpR op_lt (pv 1) (pe_callB call_lenA (by rfl) B.len bt_len (pa_cons (pv 0) pa_nil)) (nomark _)) (pss_one (ps_ret (pe_ix ix_list (pv 0) (pv 1) (fun _ _ => rfl)))) pss_nil) (pss_one (ps_ret pe_int)), ?_⟩
    refine ⟨_, rfl, _, rfl, _, _, rfl, .inl ⟨_, hS, rfl⟩, _, _, rfl, rfl, _, rfl, ?_⟩
    have hl : (ns.map V.int).length = ns.length := List.length_map ..
    refine ite2 (fun hc => ?_) (fun hc => ?_)
    · have hk : k < (ns.length : Int) := by rw [hl] at hc; exact of_decide_eq_true hc
      have hk' : k.toNat < ns.length := by omega
      have e : (ns.map V.int)[k.toNat]? = some (V.int (cellN ns k)) := by
        unfold cellN
        rw [List.getElem?_map, List.getElem?_eq_getElem hk', List.getD_eq_getElem?_getD, List.getElem?_eq_getElem hk']
        rfl
      refine ⟨_, rfl, _, rfl, a, _, k, _, rfl, rfl, hS, ?_, q H (Ex.refl _)⟩
      have := atI_nat e
      rw [Int.toNat_of_nonneg h0] at this
      exact this
    · have hk : ¬ k < (ns.length : Int) := fun z => hc (by rw [hl]; exact decide_eq_true z)
      have e : cellN ns k = 0 := by
        unfold cellN
        rw [List.getD_eq_getElem?_getD, List.getElem?_eq_none (by omega)]
        rfl
      rw [e] at q
      exact q H (Ex.refl _)
theorem sc__law_mixed : FnScope ["script", "k", "drawn"] ["script", "k"] (defScope s__law_mixed) := ⟨rfl, rfl, rfl, by decide +kernel, rfl, by decide +kernel, by decide +kernel⟩
theorem ok__law_mixed {P : Program} {w : World} {K : Fg} {mg : Str → Option Value} {base : Heap} {k : Nat} {f : Addr} {fd : FuncData} (F : Fun K "_law_mixed" "_law_mixed" s__law_mixed f fd) (c : CalS P w K mg base k "_law_cell_at" ["script", "k"] (Sv.spCell K)) :
    FnOk P w K mg base CX0 (k + 1) f fd ["script", "k"] (spMix K) := by
  have nd := sc__law_mixed.nd
  refine F.ok sc__law_mixed (fun vs H Q E h => ?_) fun cdv A outer s H vs Q E hr h => ?_
  · obtain ⟨a, ns, k, rfl, _⟩ := h
    rfl
  · obtain ⟨a, ns, k, rfl, hS, h0, q⟩ := h
    have d1 : 0 ≤ mixD ns k := Int.emod_nonneg _ (by decide)
    have d2 : mixD ns k < 2147483647 := Int.emod_lt_of_pos _ (by decide)
    refine ⟨_, pss_cons (ps_set (i := 2) nd rfl (Or.inl rfl) (pe_op op_mod (pe_op op_mul (pe_op op_add (pe_op op_add (pe_cal c hr (by rfl) (pa_cons (pv 0) (pa_cons (pv 1) pa_nil))) (pe_op op_mul pe_int (pv 1))) pe_int) pe_int) pe_int))
      (pss_one (ps_ret (pe_op op_mod (pe_op op_add (pe_op op_add (pe_op op_mul (pv 2) (pv 2)) (pe_op op_mul pe_int (pv 2))) (pv 1)) pe_int))), ?_⟩
    refine ⟨_, rfl, _, rfl, a, ns, k, rfl, hS, h0, fun H' e' => ?_⟩
    refine ⟨_, rfl, _, _, rfl, rfl, .inl (by decide), _, _, rfl, rfl, _, _, rfl, rfl, _, _, rfl, rfl, .inr (by decide), _, _, rfl, rfl, (by show (0 : Int) < 2147483647; decide), ?_⟩
    refine ⟨_, rfl, _, rfl, _, _, rfl, rfl, .inl ⟨by show -(2 ^ 64) < mixD ns k; omega, by show mixD ns k < 2 ^ 64; omega⟩, _, rfl, _, _, rfl, rfl, .inl (by decide), _, _, rfl, rfl, _, rfl, _, _, rfl, rfl, _, _, rfl, rfl, (by show (0 : Int) < 2147483629; decide), ?_⟩
    exact q H' e'
abbrev N_is_name : List Str := ["thing", "sign"]
theorem sc_is_name : FnScope N_is_name ["thing"] (defScope s_is_name) := ⟨rfl, rfl, rfl, by decide +kernel, rfl, by decide +kernel, by decide +kernel⟩
theorem ok_is_name {P : Program} {w : World} {K : Fg} {mg : Str → Option Value} {base : Heap} {k : Nat} {f : Addr} {fd : FuncData} (F : Fun K "is_name" "is_name" s_is_name f fd) (B : BI mg) {t_LONGEST : Tok} (g_LONGEST : mg "LONGEST" = some (.int 5 t_LONGEST)) {t_LETTERS : Tok} (g_LETTERS : mg "LETTERS" = some (.str "abcdefghijklmnopqrstuvwxyz" t_LETTERS)) :
    FnOk P w K mg base CX0 (k + 1) f fd ["thing"] (spD K (runD 2 1 (fb_is_name))) := by
  have nd := sc_is_name.nd
  refine F.ok sc_is_name (spD_len runD_len) fun cdv A outer s H vs Q E hr h => ?_
  refine ⟨_, (pss_one (ps_ret (pe_and (pe_callB (call_isK K rfl) (by rfl) B.isinstance bt_isinstance (pa_cons (pv 0) (pa_cons (pe_bltn (v := .ty "str") (by rfl) B.str bt_str rfl) pa_nil))) (pe_and (pe_chain op_leA op_leA pe_int (pe_callB (call_lenK K rfl) (by rfl) B.len bt_len (pa_cons (pv 0) pa_nil)) (pe_glob (v := .int 5) (by rfl) g_LONGEST ⟨_, rfl⟩)) (pe_one (pe_callB (call_allK K rfl rfl) (by rfl) B.all bt_all (pa_cons (pe_lc (own := [("sign", 1)]) (g := (gName 1)) rfl nd (pi_seqK K rfl (pv 0)) (blkOk_by (own := [("sign", 1)]) (N := N_is_name) (sc := (defScope s_is_name)) (by decide +kernel)) (fun _ _ _ _ _ => (pg_name (i := 1) nd rfl (Or.inl rfl))) (fun _ _ _ _ _ => pts_nil) (fun _ _ _ _ _ => (pe_cmpR op_inSg (pv 1) (pe_glob (v := .str "abcdefghijklmnopqrstuvwxyz") (by rfl) g_LETTERS ⟨_, rfl⟩) (by rfl)))) pa_nil))))))), ?_⟩
  exact body_ok (N := N_is_name) (fb := fb_is_name)
    (es_ret (ef_andV (ef_isi (eb_var 0)) (ef_andV (ef_chain e2_le e2_le ef_int (ef_cb1 e1_len (eb_var 0)) ef_int) (ef_cb1 e1_all (ef_lcD (eib_seq (eb_var 0)) (eg_name 1) et_yes (ef_op e2_inSg (eb_var 1) (ef_str).b)).b))))
    runD_ret h
abbrev N_is_number : List Str := ["thing"]
theorem sc_is_number : FnScope N_is_number ["thing"] (defScope s_is_number) := ⟨rfl, rfl, rfl, by decide +kernel, rfl, by decide +kernel, by decide +kernel⟩
theorem ok_is_number {P : Program} {w : World} {K : Fg} {mg : Str → Option Value} {base : Heap} {k : Nat} {f : Addr} {fd : FuncData} (F : Fun K "is_number" "is_number" s_is_number f fd) (B : BI mg) {t_MOST_NUMBER : Tok} (g_MOST_NUMBER : mg "MOST_NUMBER" = some (.int 999 t_MOST_NUMBER)) :
    FnOk P w K mg base CX0 (k + 1) f fd ["thing"] (spD K (runD 1 1 (fb_is_number))) := by
  have nd := sc_is_number.nd
  refine F.ok sc_is_number (spD_len runD_len) fun cdv A outer s H vs Q E hr h => ?_
  refine ⟨_, (pss_one (ps_ret (pe_and (pe_callB (call_isK K rfl) (by rfl) B.isinstance bt_isinstance (pa_cons (pv 0) (pa_cons (pe_bltn (v := .ty "int") (by rfl) B.int bt_int rfl) pa_nil))) (pe_and (pe_not (pe_callB (call_isK K rfl) (by rfl) B.isinstance bt_isinstance (pa_cons (pv 0) (pa_cons (pe_bltn (v := .ty "bool") (by rfl) B.bool bt_bool rfl) pa_nil)))) (pe_one (pe_chain op_leA op_leA pe_int (pv 0) (pe_glob (v := .int 999) (by rfl) g_MOST_NUMBER ⟨_, rfl⟩))))))), ?_⟩
  exact body_ok (N := N_is_number) (fb := fb_is_number)
    (es_ret (ef_andV (ef_isi (eb_var 0)) (ef_andV (ef_notV (ef_isi (eb_var 0))) (ef_chain e2_le e2_le ef_int (ef_var 0) ef_int))))
    runD_ret h
abbrev N_are_rising : List Str := ["some", "one", "other"]
theorem sc_are_rising : FnScope N_are_rising ["some"] (defScope s_are_rising) := ⟨rfl, rfl, rfl, by decide +kernel, rfl, by decide +kernel, by decide +kernel⟩
theorem ok_are_rising {P : Program} {w : World} {K : Fg} {mg : Str → Option Value} {base : Heap} {k : Nat} {f : Addr} {fd : FuncData} (F : Fun K "are_rising" "are_rising" s_are_rising f fd) (B : BI mg) :
    FnOk P w K mg base CX0 (k + 1) f fd ["some"] (spD K (runD 3 1 (fb_are_rising))) := by
  have nd := sc_are_rising.nd
  refine F.ok sc_are_rising (spD_len runD_len) fun cdv A outer s H vs Q E hr h => ?_
  refine ⟨_, (pss_one (ps_ret (pe_callB (call_allK K rfl rfl) (by rfl) B.all bt_all (pa_cons (pe_lc (own := [("one", 1), ("other", 2)]) (g := (gTup K 2 (gCons (gName 1) (gCons (gName 2) gNil)))) rfl nd (pi_zipK K rfl (by rfl) B.zip (pa_cons (pe_slice (sl_K K rfl) (pv 0) po_none (po_some (pe_un un_neg pe_int))) (pa_cons (pe_slice (sl_K K rfl) (pv 0) (po_some pe_int) po_none) pa_nil))) (blkOk_by (own := [("one", 1), ("other", 2)]) (N := N_are_rising) (sc := (defScope s_are_rising)) (by decide +kernel)) (fun _ _ _ _ _ => (pg_tup rfl (pgs_cons (pg_name (i := 1) nd rfl (Or.inl rfl)) (pgs_cons (pg_name (i := 2) nd rfl (Or.inl rfl)) pgs_nil)))) (fun _ _ _ _ _ => pts_nil) (fun _ _ _ _ _ => (pe_cmpR op_ltA (pv 1) (pv 2) (nomark _)))) pa_nil)))), ?_⟩
  exact body_ok (N := N_are_rising) (fb := fb_are_rising)
    (es_ret (ef_cb1 e1_all (ef_lcD (ei_zip (ef_sl (eb_var 0) eo_none (eo_some (ef_un e1_neg (ef_int).b))) (ef_sl (eb_var 0) (eo_some ef_int) eo_none)).b (eg_tup (egs_cons (eg_name 1) (egs_cons (eg_name 2) egs_nil))) et_yes (ef_op e2_lt (eb_var 1) (eb_var 2))).b))
    runD_ret h
abbrev N_are_names : List Str := ["thing", "part"]
theorem sc_are_names : FnScope N_are_names ["thing"] (defScope s_are_names) := ⟨rfl, rfl, rfl, by decide +kernel, rfl, by decide +kernel, by decide +kernel⟩
theorem ok_are_names {P : Program} {w : World} {K : Fg} {mg : Str → Option Value} {base : Heap} {k : Nat} {f : Addr} {fd : FuncData} {m_is_name : List PyData → Option PyData} {m_are_rising : List PyData → Option PyData} (F : Fun K "are_names" "are_names" s_are_names f fd) (B : BI mg) {t_MOST_NAMES : Tok} (g_MOST_NAMES : mg "MOST_NAMES" = some (.int 3 t_MOST_NAMES)) (c_is_name : Cal P w K mg base (k) "is_name" ["thing"] m_is_name) (c_are_rising : Cal P w K mg base (k) "are_rising" ["some"] m_are_rising) :
    FnOk P w K mg base CX0 (k + 1) f fd ["thing"] (spD K (runD 2 1 (fb_are_names m_is_name m_are_rising))) := by
  have nd := sc_are_names.nd
  refine F.ok sc_are_names (spD_len runD_len) fun cdv A outer s H vs Q E hr h => ?_
  refine ⟨_, (pss_cons (ps_if (PW.pt (pw_or (pt_not (pt_val (pe_callB (call_isK K rfl) (by rfl) B.isinstance bt_isinstance (pa_cons (pv 0) (pa_cons (pe_bltn (v := .ty "tuple") (by rfl) B.tuple bt_tuple rfl) pa_nil))))) (pw_or (pt_cmpR op_gt0 (pe_callB (call_lenK K rfl) (by rfl) B.len bt_len (pa_cons (pv 0) pa_nil)) (pe_glob (v := .int 3) (by rfl) g_MOST_NAMES ⟨_, rfl⟩) (nomark _)) (pw_or1 (pt_not (pt_val (pe_callB (call_allK K rfl rfl) (by rfl) B.all bt_all (pa_cons (pe_lc (own := [("part", 1)]) (g := (gName 1)) rfl nd (pi_seqK K rfl (pv 0)) (blkOk_by (own := [("part", 1)]) (N := N_are_names) (sc := (defScope s_are_names)) (by decide +kernel)) (fun _ _ _ _ _ => (pg_name (i := 1) nd rfl (Or.inl rfl))) (fun _ _ _ _ _ => pts_nil) (fun _ _ _ _ _ => (pe_cal c_is_name hr (by rfl) (pa_cons (pv 1) pa_nil)))) pa_nil)))))))) (pss_one (ps_ret pe_bl)) pss_nil)
  (pss_one (ps_ret (pe_cal c_are_rising hr (by rfl) (pa_cons (pv 0) pa_nil))))), ?_⟩
  exact body_ok (N := N_are_names) (fb := fb_are_names m_is_name m_are_rising)
    (es_seq (es_if (et_or (et_not (et_B (ef_isi (eb_var 0)))) (et_or (et_test (ef_op e2_gt (ef_cb1 e1_len (eb_var 0)).b (ef_int).b)) (et_not (et_B (ef_cb1 e1_all (ef_lcD (eib_seq (eb_var 0)) (eg_name 1) et_yes (ef_call (ea_cons (ef_var 1) ea_nil))).b))))) (es_ret ef_bl) es_next)
  (es_ret (ef_call (ea_cons (ef_var 0) ea_nil))))
    runD_ret h
abbrev N_is_letter : List Str := ["thing"]
theorem sc_is_letter : FnScope N_is_letter ["thing"] (defScope s_is_letter) := ⟨rfl, rfl, rfl, by decide +kernel, rfl, by decide +kernel, by decide +kernel⟩
theorem ok_is_letter {P : Program} {w : World} {K : Fg} {mg : Str → Option Value} {base : Heap} {k : Nat} {f : Addr} {fd : FuncData} {m_is_name : List PyData → Option PyData} {m_are_names : List PyData → Option PyData} {m_is_number : List PyData → Option PyData} (F : Fun K "is_letter" "is_letter" s_is_letter f fd) (B : BI mg) (c_is_name : Cal P w K mg base (k) "is_name" ["thing"] m_is_name) (c_are_names : Cal P w K mg base (k) "are_names" ["thing"] m_are_names) (c_is_number : Cal P w K mg base (k) "is_number" ["thing"] m_is_number) :
    FnOk P w K mg base CX0 (k + 1) f fd ["thing"] (spD K (runD 1 1 (fb_is_letter m_is_name m_are_names m_is_number))) := by
  have nd := sc_is_letter.nd
  refine F.ok sc_is_letter (spD_len runD_len) fun cdv A outer s H vs Q E hr h => ?_
  refine ⟨_, (pss_cons (ps_if (PW.pt (pw_or (pt_not (pt_val (pe_callB (call_isK K rfl) (by rfl) B.isinstance bt_isinstance (pa_cons (pv 0) (pa_cons (pe_bltn (v := .ty "tuple") (by rfl) B.tuple bt_tuple rfl) pa_nil))))) (pw_or1 (pt_cmpR (op_neK K rfl hr.units) (pe_callB (call_lenK K rfl) (by rfl) B.len bt_len (pa_cons (pv 0) pa_nil)) pe_int (nomark _))))) (pss_one (ps_ret pe_bl)) pss_nil)
  (pss_one (ps_ret (pe_and (pe_cal c_is_name hr (by rfl) (pa_cons (pe_ix (ix_K K rfl) (pv 0) pe_int (fun _ _ => rfl)) pa_nil)) (pe_and (pe_cal c_are_names hr (by rfl) (pa_cons (pe_ix (ix_K K rfl) (pv 0) pe_int (fun _ _ => rfl)) pa_nil)) (pe_and (pe_cal c_is_number hr (by rfl) (pa_cons (pe_ix (ix_K K rfl) (pv 0) pe_int (fun _ _ => rfl)) pa_nil)) (pe_one (pe_cal c_are_names hr (by rfl) (pa_cons (pe_ix (ix_K K rfl) (pv 0) pe_int (fun _ _ => rfl)) pa_nil))))))))), ?_⟩
  exact body_ok (N := N_is_letter) (fb := fb_is_letter m_is_name m_are_names m_is_number)
    (es_seq (es_if (et_or (et_not (et_B (ef_isi (eb_var 0)))) (et_test (ef_op e2_ne (ef_cb1 e1_len (eb_var 0)).b (ef_int).b))) (es_ret ef_bl) es_next)
  (es_ret (ef_andV (ef_call (ea_cons (ef_op e2_ix (eb_var 0) (ef_int).b) ea_nil)) (ef_andV (ef_call (ea_cons (ef_op e2_ix (eb_var 0) (ef_int).b) ea_nil)) (ef_andV (ef_call (ea_cons (ef_op e2_ix (eb_var 0) (ef_int).b) ea_nil)) (ef_call (ea_cons (ef_op e2_ix (eb_var 0) (ef_int).b) ea_nil)))))))
    runD_ret h
abbrev N_is_test : List Str := ["thing", "deep", "word"]
theorem sc_is_test : FnScope N_is_test ["thing", "deep"] (defScope s_is_test) := ⟨rfl, rfl, rfl, by decide +kernel, rfl, by decide +kernel, by decide +kernel⟩
theorem ok_is_test {P : Program} {w : World} {K : Fg} {mg : Str → Option Value} {base : Heap} {k : Nat} {f : Addr} {fd : FuncData} {m_is_test : List PyData → Option PyData} {m_is_number : List PyData → Option PyData} {m_is_name : List PyData → Option PyData} (F : Fun K "is_test" "is_test" s_is_test f fd) (B : BI mg) {a_JOINS : Addr} (g_JOINS : mg "JOINS" = some (.ref a_JOINS)) (k_JOINS : KTup K a_JOINS [.inr "both", .inr "either"]) (c_is_test : Cal P w K mg base (k) "is_test" ["thing", "deep"] m_is_test) (c_is_number : Cal P w K mg base (k) "is_number" ["thing"] m_is_number) {a_NAMED_TESTS : Addr} (g_NAMED_TESTS : mg "NAMED_TESTS" = some (.ref a_NAMED_TESTS)) (k_NAMED_TESTS : KTup K a_NAMED_TESTS [.inr "from", .inr "word", .inr "marked"]) (c_is_name : Cal P w K mg base (k) "is_name" ["thing"] m_is_name) :
    FnOk P w K mg base CX0 (k + 1) f fd ["thing", "deep"] (spD K (runD 3 2 (fb_is_test m_is_test m_is_number m_is_name))) := by
  have nd := sc_is_test.nd
  refine F.ok sc_is_test (spD_len runD_len) fun cdv A outer s H vs Q E hr h => ?_
  refine ⟨_, (pss_cons (ps_if (PW.pt (pw_or (pt_cmpR (op_eqK K rfl hr.units) (pv 1) pe_int (nomark _)) (pw_or (pt_not (pt_val (pe_callB (call_isK K rfl) (by rfl) B.isinstance bt_isinstance (pa_cons (pv 0) (pa_cons (pe_bltn (v := .ty "tuple") (by rfl) B.tuple bt_tuple rfl) pa_nil))))) (pw_or (pt_cmpR (op_eqK K rfl hr.units) (pe_callB (call_lenK K rfl) (by rfl) B.len bt_len (pa_cons (pv 0) pa_nil)) pe_int (nomark _)) (pw_or1 (pt_not (pt_val (pe_callB (call_isK K rfl) (by rfl) B.isinstance bt_isinstance (pa_cons (pe_ix (ix_K K rfl) (pv 0) pe_int (fun _ _ => rfl)) (pa_cons (pe_bltn (v := .ty "str") (by rfl) B.str bt_str rfl) pa_nil)))))))))) (pss_one (ps_ret pe_bl)) pss_nil)
  (pss_cons (ps_set (i := 2) nd rfl (Or.inl rfl) (pe_ix (ix_K K rfl) (pv 0) pe_int (fun _ _ => rfl)))
  (pss_cons (ps_if (pt_cmpR (op_inK K rfl (un65 hr)) (pv 2) (pe_glob (v := .ref a_JOINS) (by rfl) g_JOINS rfl) (by rfl)) (pss_one (ps_ret (pe_and (pe_cmpR (op_eqK K rfl hr.units) (pe_callB (call_lenK K rfl) (by rfl) B.len bt_len (pa_cons (pv 0) pa_nil)) pe_int (nomark _)) (pe_and (pe_cal c_is_test hr (by rfl) (pa_cons (pe_ix (ix_K K rfl) (pv 0) pe_int (fun _ _ => rfl)) (pa_cons (pe_op op_sub (pv 1) pe_int) pa_nil))) (pe_one (pe_cal c_is_test hr (by rfl) (pa_cons (pe_ix (ix_K K rfl) (pv 0) pe_int (fun _ _ => rfl)) (pa_cons (pe_op op_sub (pv 1) pe_int) pa_nil)))))))) pss_nil)
  (pss_cons (ps_if (pt_cmpR (op_eqK K rfl hr.units) (pv 2) pe_str (nomark _)) (pss_one (ps_ret (pe_cmpR (op_eqK K rfl hr.units) (pe_callB (call_lenK K rfl) (by rfl) B.len bt_len (pa_cons (pv 0) pa_nil)) pe_int (nomark _)))) pss_nil)
  (pss_cons (ps_if (pt_cmpR (op_neK K rfl hr.units) (pe_callB (call_lenK K rfl) (by rfl) B.len bt_len (pa_cons (pv 0) pa_nil)) pe_int (nomark _)) (pss_one (ps_ret pe_bl)) pss_nil)
  (pss_cons (ps_if (pt_cmpR (op_eqK K rfl hr.units) (pv 2) pe_str (nomark _)) (pss_one (ps_ret (pe_cal c_is_test hr (by rfl) (pa_cons (pe_ix (ix_K K rfl) (pv 0) pe_int (fun _ _ => rfl)) (pa_cons (pe_op op_sub (pv 1) pe_int) pa_nil))))) pss_nil)
  (pss_cons (ps_if (pt_cmpR (op_eqK K rfl hr.units) (pv 2) pe_str (nomark _)) (pss_one (ps_ret (pe_cal c_is_number hr (by rfl) (pa_cons (pe_ix (ix_K K rfl) (pv 0) pe_int (fun _ _ => rfl)) pa_nil)))) pss_nil)
  (pss_one (ps_ret (pe_and (pe_cmpR (op_inK K rfl (un65 hr)) (pv 2) (pe_glob (v := .ref a_NAMED_TESTS) (by rfl) g_NAMED_TESTS rfl) (by rfl)) (pe_one (pe_cal c_is_name hr (by rfl) (pa_cons (pe_ix (ix_K K rfl) (pv 0) pe_int (fun _ _ => rfl)) pa_nil))))))))))))), ?_⟩
  exact body_ok (N := N_is_test) (fb := fb_is_test m_is_test m_is_number m_is_name)
    (es_seq (es_if (et_or (et_test (ef_op e2_eq (eb_var 1) (ef_int).b)) (et_or (et_not (et_B (ef_isi (eb_var 0)))) (et_or (et_test (ef_op e2_eq (ef_cb1 e1_len (eb_var 0)).b (ef_int).b)) (et_not (et_B (ef_isi (ef_op e2_ix (eb_var 0) (ef_int).b).b)))))) (es_ret ef_bl) es_next)
  (es_seq (es_asg (i := 2) (ef_op e2_ix (eb_var 0) (ef_int).b))
  (es_seq (es_if (et_test (ef_op e2_in (eb_var 2) (ef_ktup k_JOINS).b)) (es_ret (ef_andV (ef_op e2_eq (ef_cb1 e1_len (eb_var 0)).b (ef_int).b) (ef_andV (ef_call (ea_cons (ef_op e2_ix (eb_var 0) (ef_int).b) (ea_cons (ef_op e2_sub (eb_var 1) (ef_int).b) ea_nil))) (ef_call (ea_cons (ef_op e2_ix (eb_var 0) (ef_int).b) (ea_cons (ef_op e2_sub (eb_var 1) (ef_int).b) ea_nil)))))) es_next)
  (es_seq (es_if (et_test (ef_op e2_eq (eb_var 2) (ef_str).b)) (es_ret (ef_op e2_eq (ef_cb1 e1_len (eb_var 0)).b (ef_int).b)) es_next)
  (es_seq (es_if (et_test (ef_op e2_ne (ef_cb1 e1_len (eb_var 0)).b (ef_int).b)) (es_ret ef_bl) es_next)
  (es_seq (es_if (et_test (ef_op e2_eq (eb_var 2) (ef_str).b)) (es_ret (ef_call (ea_cons (ef_op e2_ix (eb_var 0) (ef_int).b) (ea_cons (ef_op e2_sub (eb_var 1) (ef_int).b) ea_nil)))) es_next)
  (es_seq (es_if (et_test (ef_op e2_eq (eb_var 2) (ef_str).b)) (es_ret (ef_call (ea_cons (ef_op e2_ix (eb_var 0) (ef_int).b) ea_nil))) es_next)
  (es_ret (ef_andV (ef_op e2_in (eb_var 2) (ef_ktup k_NAMED_TESTS).b) (ef_call (ea_cons (ef_op e2_ix (eb_var 0) (ef_int).b) ea_nil)))))))))))
    runD_ret h
abbrev N_is_deed : List Str := ["thing"]
theorem sc_is_deed : FnScope N_is_deed ["thing"] (defScope s_is_deed) := ⟨rfl, rfl, rfl, by decide +kernel, rfl, by decide +kernel, by decide +kernel⟩
theorem ok_is_deed {P : Program} {w : World} {K : Fg} {mg : Str → Option Value} {base : Heap} {k : Nat} {f : Addr} {fd : FuncData} {m_is_name : List PyData → Option PyData} (F : Fun K "is_deed" "is_deed" s_is_deed f fd) (B : BI mg) {a_NAMED_DEEDS : Addr} (g_NAMED_DEEDS : mg "NAMED_DEEDS" = some (.ref a_NAMED_DEEDS)) (k_NAMED_DEEDS : KTup K a_NAMED_DEEDS [.inr "lay", .inr "send", .inr "answer", .inr "mark", .inr "unmark", .inr "call"]) (c_is_name : Cal P w K mg base (k) "is_name" ["thing"] m_is_name) :
    FnOk P w K mg base CX0 (k + 1) f fd ["thing"] (spD K (runD 1 1 (fb_is_deed m_is_name))) := by
  have nd := sc_is_deed.nd
  refine F.ok sc_is_deed (spD_len runD_len) fun cdv A outer s H vs Q E hr h => ?_
  refine ⟨_, (pss_cons (ps_if (PW.pt (pw_or (pt_not (pt_val (pe_callB (call_isK K rfl) (by rfl) B.isinstance bt_isinstance (pa_cons (pv 0) (pa_cons (pe_bltn (v := .ty "tuple") (by rfl) B.tuple bt_tuple rfl) pa_nil))))) (pw_or (pt_cmpR (op_eqK K rfl hr.units) (pe_callB (call_lenK K rfl) (by rfl) B.len bt_len (pa_cons (pv 0) pa_nil)) pe_int (nomark _)) (pw_or1 (pt_not (pt_val (pe_callB (call_isK K rfl) (by rfl) B.isinstance bt_isinstance (pa_cons (pe_ix (ix_K K rfl) (pv 0) pe_int (fun _ _ => rfl)) (pa_cons (pe_bltn (v := .ty "str") (by rfl) B.str bt_str rfl) pa_nil))))))))) (pss_one (ps_ret pe_bl)) pss_nil)
  (pss_cons (ps_if (pt_cmpR (op_inK K rfl (un65 hr)) (pe_ix (ix_K K rfl) (pv 0) pe_int (fun _ _ => rfl)) (pe_tupF (pa_cons pe_str (pa_cons pe_str pa_nil))) (by rfl)) (pss_one (ps_ret (pe_cmpR (op_eqK K rfl hr.units) (pe_callB (call_lenK K rfl) (by rfl) B.len bt_len (pa_cons (pv 0) pa_nil)) pe_int (nomark _)))) pss_nil)
  (pss_one (ps_ret (pe_and (pe_cmpR (op_inK K rfl (un65 hr)) (pe_ix (ix_K K rfl) (pv 0) pe_int (fun _ _ => rfl)) (pe_glob (v := .ref a_NAMED_DEEDS) (by rfl) g_NAMED_DEEDS rfl) (by rfl)) (pe_and (pe_cmpR (op_eqK K rfl hr.units) (pe_callB (call_lenK K rfl) (by rfl) B.len bt_len (pa_cons (pv 0) pa_nil)) pe_int (nomark _)) (pe_one (pe_cal c_is_name hr (by rfl) (pa_cons (pe_ix (ix_K K rfl) (pv 0) pe_int (fun _ _ => rfl)) pa_nil))))))))), ?_⟩
  exact body_ok (N := N_is_deed) (fb := fb_is_deed m_is_name)
    (es_seq (es_if (et_or (et_not (et_B (ef_isi (eb_var 0)))) (et_or (et_test (ef_op e2_eq (ef_cb1 e1_len (eb_var 0)).b (ef_int).b)) (et_not (et_B (ef_isi (ef_op e2_ix (eb_var 0) (ef_int).b).b))))) (es_ret ef_bl) es_next)
  (es_seq (es_if (et_test (ef_op e2_in (ef_op e2_ix (eb_var 0) (ef_int).b).b (ef_tup (ea_cons ef_str (ea_cons ef_str ea_nil))).b)) (es_ret (ef_op e2_eq (ef_cb1 e1_len (eb_var 0)).b (ef_int).b)) es_next)
  (es_ret (ef_andV (ef_op e2_in (ef_op e2_ix (eb_var 0) (ef_int).b).b (ef_ktup k_NAMED_DEEDS).b) (ef_andV (ef_op e2_eq (ef_cb1 e1_len (eb_var 0)).b (ef_int).b) (ef_call (ea_cons (ef_op e2_ix (eb_var 0) (ef_int).b) ea_nil)))))))
    runD_ret h
abbrev N_is_rule : List Str := ["thing", "deed"]
theorem sc_is_rule : FnScope N_is_rule ["thing"] (defScope s_is_rule) := ⟨rfl, rfl, rfl, by decide +kernel, rfl, by decide +kernel, by decide +kernel⟩
theorem ok_is_rule {P : Program} {w : World} {K : Fg} {mg : Str → Option Value} {base : Heap} {k : Nat} {f : Addr} {fd : FuncData} {m_is_test : List PyData → Option PyData} {m_is_deed : List PyData → Option PyData} (F : Fun K "is_rule" "is_rule" s_is_rule f fd) (B : BI mg) (c_is_test : Cal P w K mg base (k) "is_test" ["thing", "deep"] m_is_test) {t_DEEPEST : Tok} (g_DEEPEST : mg "DEEPEST" = some (.int 3 t_DEEPEST)) {t_MOST_DEEDS : Tok} (g_MOST_DEEDS : mg "MOST_DEEDS" = some (.int 3 t_MOST_DEEDS)) (c_is_deed : Cal P w K mg base (k) "is_deed" ["thing"] m_is_deed) :
    FnOk P w K mg base CX0 (k + 1) f fd ["thing"] (spD K (runD 2 1 (fb_is_rule m_is_test m_is_deed))) := by
  have nd := sc_is_rule.nd
  refine F.ok sc_is_rule (spD_len runD_len) fun cdv A outer s H vs Q E hr h => ?_
  refine ⟨_, (pss_cons (ps_if (PW.pt (pw_or (pt_not (pt_val (pe_callB (call_isK K rfl) (by rfl) B.isinstance bt_isinstance (pa_cons (pv 0) (pa_cons (pe_bltn (v := .ty "tuple") (by rfl) B.tuple bt_tuple rfl) pa_nil))))) (pw_or (pt_cmpR (op_neK K rfl hr.units) (pe_callB (call_lenK K rfl) (by rfl) B.len bt_len (pa_cons (pv 0) pa_nil)) pe_int (nomark _)) (pw_or1 (pt_not (pt_val (pe_cal c_is_test hr (by rfl) (pa_cons (pe_ix (ix_K K rfl) (pv 0) pe_int (fun _ _ => rfl)) (pa_cons (pe_glob (v := .int 3) (by rfl) g_DEEPEST ⟨_, rfl⟩) pa_nil))))))))) (pss_one (ps_ret pe_bl)) pss_nil)
  (pss_cons (ps_if (PW.pt (pw_or (pt_not (pt_val (pe_callB (call_isK K rfl) (by rfl) B.isinstance bt_isinstance (pa_cons (pe_ix (ix_K K rfl) (pv 0) pe_int (fun _ _ => rfl)) (pa_cons (pe_bltn (v := .ty "tuple") (by rfl) B.tuple bt_tuple rfl) pa_nil))))) (pw_or1 (pt_not (pt_chain op_leA op_leA pe_int (pe_callB (call_lenK K rfl) (by rfl) B.len bt_len (pa_cons (pe_ix (ix_K K rfl) (pv 0) pe_int (fun _ _ => rfl)) pa_nil)) (pe_glob (v := .int 3) (by rfl) g_MOST_DEEDS ⟨_, rfl⟩)))))) (pss_one (ps_ret pe_bl)) pss_nil)
  (pss_one (ps_ret (pe_callB (call_allK K rfl rfl) (by rfl) B.all bt_all (pa_cons (pe_lc (own := [("deed", 1)]) (g := (gName 1)) rfl nd (pi_seqK K rfl (pe_ix (ix_K K rfl) (pv 0) pe_int (fun _ _ => rfl))) (blkOk_by (own := [("deed", 1)]) (N := N_is_rule) (sc := (defScope s_is_rule)) (by decide +kernel)) (fun _ _ _ _ _ => (pg_name (i := 1) nd rfl (Or.inl rfl))) (fun _ _ _ _ _ => pts_nil) (fun _ _ _ _ _ => (pe_cal c_is_deed hr (by rfl) (pa_cons (pv 1) pa_nil)))) pa_nil)))))), ?_⟩
  exact body_ok (N := N_is_rule) (fb := fb_is_rule m_is_test m_is_deed)
    (es_seq (es_if (et_or (et_not (et_B (ef_isi (eb_var 0)))) (et_or (et_test (ef_op e2_ne (ef_cb1 e1_len (eb_var 0)).b (ef_int).b)) (et_not (et_B (ef_call (ea_cons (ef_op e2_ix (eb_var 0) (ef_int).b) (ea_cons ef_int ea_nil))))))) (es_ret ef_bl) es_next)
  (es_seq (es_if (et_or (et_not (et_B (ef_isi (ef_op e2_ix (eb_var 0) (ef_int).b).b))) (et_not (et_test (ef_chain e2_le e2_le ef_int (ef_cb1 e1_len (ef_op e2_ix (eb_var 0) (ef_int).b).b) ef_int)))) (es_ret ef_bl) es_next)
  (es_ret (ef_cb1 e1_all (ef_lcD (eib_seq (ef_op e2_ix (eb_var 0) (ef_int).b).b) (eg_name 1) et_yes (ef_call (ea_cons (ef_var 1) ea_nil))).b))))
    runD_ret h
abbrev N_is_part : List Str := ["thing", "rule"]
theorem sc_is_part : FnScope N_is_part ["thing"] (defScope s_is_part) := ⟨rfl, rfl, rfl, by decide +kernel, rfl, by decide +kernel, by decide +kernel⟩
theorem ok_is_part {P : Program} {w : World} {K : Fg} {mg : Str → Option Value} {base : Heap} {k : Nat} {f : Addr} {fd : FuncData} {m_is_name : List PyData → Option PyData} {m_is_rule : List PyData → Option PyData} (F : Fun K "is_part" "is_part" s_is_part f fd) (B : BI mg) (c_is_name : Cal P w K mg base (k) "is_name" ["thing"] m_is_name) {t_MOST_RULES : Tok} (g_MOST_RULES : mg "MOST_RULES" = some (.int 4 t_MOST_RULES)) (c_is_rule : Cal P w K mg base (k) "is_rule" ["thing"] m_is_rule) :
    FnOk P w K mg base CX0 (k + 1) f fd ["thing"] (spD K (runD 2 1 (fb_is_part m_is_name m_is_rule))) := by
  have nd := sc_is_part.nd
  refine F.ok sc_is_part (spD_len runD_len) fun cdv A outer s H vs Q E hr h => ?_
  refine ⟨_, (pss_cons (ps_if (PW.pt (pw_or (pt_not (pt_val (pe_callB (call_isK K rfl) (by rfl) B.isinstance bt_isinstance (pa_cons (pv 0) (pa_cons (pe_bltn (v := .ty "tuple") (by rfl) B.tuple bt_tuple rfl) pa_nil))))) (pw_or (pt_cmpR (op_neK K rfl hr.units) (pe_callB (call_lenK K rfl) (by rfl) B.len bt_len (pa_cons (pv 0) pa_nil)) pe_int (nomark _)) (pw_or (pt_not (pt_val (pe_cal c_is_name hr (by rfl) (pa_cons (pe_ix (ix_K K rfl) (pv 0) pe_int (fun _ _ => rfl)) pa_nil)))) (pw_or1 (pt_not (pt_val (pe_callB (call_isK K rfl) (by rfl) B.isinstance bt_isinstance (pa_cons (pe_ix (ix_K K rfl) (pv 0) pe_int (fun _ _ => rfl)) (pa_cons (pe_bltn (v := .ty "tuple") (by rfl) B.tuple bt_tuple rfl) pa_nil)))))))))) (pss_one (ps_ret pe_bl)) pss_nil)
  (pss_one (ps_ret (pe_and (pe_cmpR op_leA (pe_callB (call_lenK K rfl) (by rfl) B.len bt_len (pa_cons (pe_ix (ix_K K rfl) (pv 0) pe_int (fun _ _ => rfl)) pa_nil)) (pe_glob (v := .int 4) (by rfl) g_MOST_RULES ⟨_, rfl⟩) (nomark _)) (pe_one (pe_callB (call_allK K rfl rfl) (by rfl) B.all bt_all (pa_cons (pe_lc (own := [("rule", 1)]) (g := (gName 1)) rfl nd (pi_seqK K rfl (pe_ix (ix_K K rfl) (pv 0) pe_int (fun _ _ => rfl))) (blkOk_by (own := [("rule", 1)]) (N := N_is_part) (sc := (defScope s_is_part)) (by decide +kernel)) (fun _ _ _ _ _ => (pg_name (i := 1) nd rfl (Or.inl rfl))) (fun _ _ _ _ _ => pts_nil) (fun _ _ _ _ _ => (pe_cal c_is_rule hr (by rfl) (pa_cons (pv 1) pa_nil)))) pa_nil))))))), ?_⟩
  exact body_ok (N := N_is_part) (fb := fb_is_part m_is_name m_is_rule)
    (es_seq (es_if (et_or (et_not (et_B (ef_isi (eb_var 0)))) (et_or (et_test (ef_op e2_ne (ef_cb1 e1_len (eb_var 0)).b (ef_int).b)) (et_or (et_not (et_B (ef_call (ea_cons (ef_op e2_ix (eb_var 0) (ef_int).b) ea_nil)))) (et_not (et_B (ef_isi (ef_op e2_ix (eb_var 0) (ef_int).b).b)))))) (es_ret ef_bl) es_next)
  (es_ret (ef_andV (ef_op e2_le (ef_cb1 e1_len (ef_op e2_ix (eb_var 0) (ef_int).b).b).b (ef_int).b) (ef_cb1 e1_all (ef_lcD (eib_seq (ef_op e2_ix (eb_var 0) (ef_int).b).b) (eg_name 1) et_yes (ef_call (ea_cons (ef_var 1) ea_nil))).b))))
    runD_ret h
abbrev N_calls_of : List Str := ["rule", "deed"]
theorem sc_calls_of : FnScope N_calls_of ["rule"] (defScope s_calls_of) := ⟨rfl, rfl, rfl, by decide +kernel, rfl, by decide +kernel, by decide +kernel⟩
theorem ok_calls_of {P : Program} {w : World} {K : Fg} {mg : Str → Option Value} {base : Heap} {k : Nat} {f : Addr} {fd : FuncData} (F : Fun K "calls_of" "calls_of" s_calls_of f fd) (B : BI mg) :
    FnOk P w K mg base CX0 (k + 1) f fd ["rule"] (spD K (runD 2 1 (fb_calls_of))) := by
  have nd := sc_calls_of.nd
  refine F.ok sc_calls_of (spD_len runD_len) fun cdv A outer s H vs Q E hr h => ?_
  refine ⟨_, (pss_one (ps_ret (pe_lc (own := [("deed", 1)]) (g := (gName 1)) rfl nd (pi_seqK K rfl (pe_ix (ix_K K rfl) (pv 0) pe_int (fun _ _ => rfl))) (blkOk_by (own := [("deed", 1)]) (N := N_calls_of) (sc := (defScope s_calls_of)) (by decide +kernel)) (fun _ _ _ _ _ => (pg_name (i := 1) nd rfl (Or.inl rfl))) (fun _ _ _ _ _ => (pts_one (pt_cmpR (op_eqK K rfl hr.units) (pe_ix (ix_K K rfl) (pv 1) pe_int (fun _ _ => rfl)) pe_str (nomark _)))) (fun _ _ _ _ _ => (pe_ix (ix_K K rfl) (pv 1) pe_int (fun _ _ => rfl)))))), ?_⟩
  exact body_ok (N := N_calls_of) (fb := fb_calls_of)
    (es_ret (ef_lcD (eib_seq (ef_op e2_ix (eb_var 0) (ef_int).b).b) (eg_name 1) (et_test (ef_op e2_eq (ef_op e2_ix (eb_var 1) (ef_int).b).b (ef_str).b)) (ef_op e2_ix (eb_var 1) (ef_int).b)))
    runD_ret h
abbrev N_is_book : List Str := ["thing", "names", "part", "rule", "name"]
theorem sc_is_book : FnScope N_is_book ["thing"] (defScope s_is_book) := ⟨rfl, rfl, rfl, by decide +kernel, rfl, by decide +kernel, by decide +kernel⟩
theorem ok_is_book {P : Program} {w : World} {K : Fg} {mg : Str → Option Value} {base : Heap} {k : Nat} {f : Addr} {fd : FuncData} {m_is_part : List PyData → Option PyData} {m_are_rising : List PyData → Option PyData} {m_calls_of : List PyData → Option PyData} (F : Fun K "is_book" "is_book" s_is_book f fd) (B : BI mg) {t_MOST_PARTS : Tok} (g_MOST_PARTS : mg "MOST_PARTS" = some (.int 3 t_MOST_PARTS)) (c_is_part : Cal P w K mg base (k) "is_part" ["thing"] m_is_part) (c_are_rising : Cal P w K mg base (k) "are_rising" ["some"] m_are_rising) {t_MAIN : Tok} (g_MAIN : mg "MAIN" = some (.str "main" t_MAIN)) (c_calls_of : Cal P w K mg base (k) "calls_of" ["rule"] m_calls_of) :
    FnOk P w K mg base CX0 (k + 1) f fd ["thing"] (spD K (runD 5 1 (fb_is_book m_is_part m_are_rising m_calls_of))) := by
  have nd := sc_is_book.nd
  refine F.ok sc_is_book (spD_len runD_len) fun cdv A outer s H vs Q E hr h => ?_
  refine ⟨_, (pss_cons (ps_if (PW.pt (pw_or (pt_not (pt_val (pe_callB (call_isK K rfl) (by rfl) B.isinstance bt_isinstance (pa_cons (pv 0) (pa_cons (pe_bltn (v := .ty "tuple") (by rfl) B.tuple bt_tuple rfl) pa_nil))))) (pw_or (pt_not (pt_chain op_leA op_leA pe_int (pe_callB (call_lenK K rfl) (by rfl) B.len bt_len (pa_cons (pv 0) pa_nil)) (pe_glob (v := .int 3) (by rfl) g_MOST_PARTS ⟨_, rfl⟩))) (pw_or1 (pt_not (pt_val (pe_callB (call_allK K rfl rfl) (by rfl) B.all bt_all (pa_cons (pe_lc (own := [("part", 2)]) (g := (gName 2)) rfl nd (pi_seqK K rfl (pv 0)) (blkOk_by (own := [("part", 2)]) (N := N_is_book) (sc := (defScope s_is_book)) (by decide +kernel)) (fun _ _ _ _ _ => (pg_name (i := 2) nd rfl (Or.inl rfl))) (fun _ _ _ _ _ => pts_nil) (fun _ _ _ _ _ => (pe_cal c_is_part hr (by rfl) (pa_cons (pv 2) pa_nil)))) pa_nil)))))))) (pss_one (ps_ret pe_bl)) pss_nil)
  (pss_cons (ps_set (i := 1) nd rfl (Or.inr rfl) (pe_lc (own := [("part", 2)]) (g := (gName 2)) rfl nd (pi_seqK K rfl (pv 0)) (blkOk_by (own := [("part", 2)]) (N := N_is_book) (sc := (defScope s_is_book)) (by decide +kernel)) (fun _ _ _ _ _ => (pg_name (i := 2) nd rfl (Or.inl rfl))) (fun _ _ _ _ _ => pts_nil) (fun _ _ _ _ _ => (pe_ix (ix_K K rfl) (pv 2) pe_int (fun _ _ => rfl)))))
  (pss_cons (ps_if (PW.pt (pw_or (pt_not (pt_val (pe_cal c_are_rising hr (by rfl) (pa_cons (pv 1) pa_nil)))) (pw_or1 (pt_cmpR (op_notInK K rfl (un65 hr)) (pe_glob (v := .str "main") (by rfl) g_MAIN ⟨_, rfl⟩) (pv 1) (by rfl))))) (pss_one (ps_ret pe_bl)) pss_nil)
  (pss_cons (ps_for PassesOwn.never rfl (pi_seqK K rfl (pv 0)) (pg_name (i := 2) nd rfl (Or.inl rfl))
  (pss_one (ps_for PassesOwn.never rfl (pi_seqK K rfl (pe_ix (ix_K K rfl) (pv 2) pe_int (fun _ _ => rfl))) (pg_name (i := 3) nd rfl (Or.inl rfl))
  (pss_one (ps_if (pt_not (pt_val (pe_callB (call_allK K rfl rfl) (by rfl) B.all bt_all (pa_cons (pe_lc (own := [("name", 4)]) (g := (gName 4)) rfl nd (pi_seqK K rfl (pe_cal c_calls_of hr (by rfl) (pa_cons (pv 3) pa_nil))) (blkOk_by (own := [("name", 4)]) (N := N_is_book) (sc := (defScope s_is_book)) (by decide +kernel)) (fun _ _ _ _ _ => (pg_name (i := 4) nd rfl (Or.inl rfl))) (fun _ _ _ _ _ => pts_nil) (fun _ _ _ _ _ => (pe_cmpR (op_inK K rfl (un65 hr)) (pv 4) (pv 1) (by rfl)))) pa_nil)))) (pss_one (ps_ret pe_bl)) pss_nil)))))
  (pss_one (ps_ret pe_bl)))))), ?_⟩
  exact body_ok (N := N_is_book) (fb := fb_is_book m_is_part m_are_rising m_calls_of)
    (es_seq (es_if (et_or (et_not (et_B (ef_isi (eb_var 0)))) (et_or (et_not (et_test (ef_chain e2_le e2_le ef_int (ef_cb1 e1_len (eb_var 0)) ef_int))) (et_not (et_B (ef_cb1 e1_all (ef_lcD (eib_seq (eb_var 0)) (eg_name 2) et_yes (ef_call (ea_cons (ef_var 2) ea_nil))).b))))) (es_ret ef_bl) es_next)
  (es_seq (es_asg (i := 1) (ef_lcD (eib_seq (eb_var 0)) (eg_name 2) et_yes (ef_op e2_ix (eb_var 2) (ef_int).b)))
  (es_seq (es_if (et_or (et_not (et_B (ef_call (ea_cons (ef_var 1) ea_nil)))) (et_test (ef_op e2_notIn (ef_str).b (eb_var 1)))) (es_ret ef_bl) es_next)
  (es_seq (es_for (ei_seq (ef_var 0)) (eg_name 2)
  (es_for (ei_seq (ef_op e2_ix (eb_var 2) (ef_int).b)) (eg_name 3)
  (es_if (et_not (et_B (ef_cb1 e1_all (ef_lcD (eib_seq (ef_call (ea_cons (ef_var 3) ea_nil)).b) (eg_name 4) et_yes (ef_op e2_in (eb_var 4) (eb_var 1))).b))) (es_ret ef_bl) es_next)))
  (es_ret ef_bl)))))
    runD_ret h
abbrev N__law_drawn : List Str := ["number", "k", "drawn"]
theorem sc__law_drawn : FnScope N__law_drawn ["number", "k"] (defScope s__law_drawn) := ⟨rfl, rfl, rfl, by decide +kernel, rfl, by decide +kernel, by decide +kernel⟩
theorem ok__law_drawn {P : Program} {w : World} {K : Fg} {mg : Str → Option Value} {base : Heap} {k : Nat} {f : Addr} {fd : FuncData} (F : Fun K "_law_drawn" "_law_drawn" s__law_drawn f fd) (B : BI mg) :
    FnOk P w K mg base CX0 (k + 1) f fd ["number", "k"] (spD K (runD 3 2 (fb__law_drawn))) := by
  have nd := sc__law_drawn.nd
  refine F.ok sc__law_drawn (spD_len runD_len) fun cdv A outer s H vs Q E hr h => ?_
  refine ⟨_, (pss_cons (ps_set (i := 2) nd rfl (Or.inl rfl) (pe_op op_mod (pe_op op_mulA (pe_op (op_addK K rfl) (pe_op (op_addK K rfl) (pv 0) (pe_op op_mulA pe_int (pv 1))) pe_int) pe_int) pe_int))
  (pss_one (ps_ret (pe_op op_mod (pe_op (op_addK K rfl) (pe_op (op_addK K rfl) (pe_op op_mulA (pv 2) (pv 2)) (pe_op op_mulA pe_int (pv 2))) (pv 1)) pe_int)))), ?_⟩
  exact body_ok (N := N__law_drawn) (fb := fb__law_drawn)
    (es_seq (es_asg (i := 2) (ef_op e2_mod (ef_op e2_mulA (ef_op e2_add (ef_op e2_add (eb_var 0) (ef_op e2_mulA (ef_int).b (eb_var 1)).b).b (ef_int).b).b (ef_int).b).b (ef_int).b))
  (es_ret (ef_op e2_mod (ef_op e2_add (ef_op e2_add (ef_op e2_mulA (eb_var 2) (eb_var 2)).b (ef_op e2_mulA (ef_int).b (eb_var 2)).b).b (eb_var 1)).b (ef_int).b)))
    runD_ret h
abbrev N__law_any : List Str := ["number", "most", "signs", "k"]
theorem sc__law_any : FnScope N__law_any ["number", "most"] (defScope s__law_any) := ⟨rfl, rfl, rfl, by decide +kernel, rfl, by decide +kernel, by decide +kernel⟩
theorem ok__law_any {P : Program} {w : World} {K : Fg} {mg : Str → Option Value} {base : Heap} {k : Nat} {f : Addr} {fd : FuncData} {m__law_drawn : List PyData → Option PyData} (F : Fun K "_law_any" "_law_any" s__law_any f fd) (B : BI mg) (c__law_drawn : Cal P w K mg base (k) "_law_drawn" ["number", "k"] m__law_drawn) :
    FnOk P w K mg base CX0 (k + 1) f fd ["number", "most"] (spD K (runD 4 2 (fb__law_any m__law_drawn))) := by
  have nd := sc__law_any.nd
  refine F.ok sc__law_any (spD_len runD_len) fun cdv A outer s H vs Q E hr h => ?_
  refine ⟨_, (pss_cons (ps_set (i := 2) nd rfl (Or.inr rfl) pe_str)
  (pss_one (ps_ret (pe_m1 PySem.F.slot_str_join PySem.F.type_str_join (mt_joinK K rfl) pe_str (pe_lc (own := [("k", 3)]) (g := (gName 3)) rfl nd (pi_range1 rfl B.range (pa_cons (pe_op (op_addK K rfl) pe_int (pe_op op_mod (pv 0) (pv 1))) pa_nil)) (blkOk_by (own := [("k", 3)]) (N := N__law_any) (sc := (defScope s__law_any)) (by decide +kernel)) (fun _ _ _ _ _ => (pg_name (i := 3) nd rfl (Or.inl rfl))) (fun _ _ _ _ _ => pts_nil) (fun _ _ _ _ _ => (pe_ix (ix_K K rfl) (pv 2) (pe_op op_mod (pe_op op_fdiv (pe_cal c__law_drawn hr (by rfl) (pa_cons (pv 0) (pa_cons (pe_op (op_addK K rfl) pe_int (pv 3)) pa_nil))) pe_int) pe_int) (fun _ _ => rfl)))))))), ?_⟩
  exact body_ok (N := N__law_any) (fb := fb__law_any m__law_drawn)
    (es_seq (es_asg (i := 2) ef_str)
  (es_ret (ef_m1 em_join (ef_str).b (ef_lcD (ei_rng1 (ea_cons (ef_op e2_add (ef_int).b (ef_op e2_mod (eb_var 0) (eb_var 1)).b) ea_nil)).b (eg_name 3) et_yes (ef_op e2_ix (eb_var 2) (ef_op e2_mod (ef_op e2_fdiv (ef_call (ea_cons (ef_var 0) (ea_cons (ef_op e2_add (ef_int).b (eb_var 3)) ea_nil))).b (ef_int).b).b (ef_int).b).b)).b)))
    runD_ret h
abbrev N__law_swapped : List Str := ["thing", "book", "part"]
theorem sc__law_swapped : FnScope N__law_swapped ["thing", "book"] (defScope s__law_swapped) := ⟨rfl, rfl, rfl, by decide +kernel, rfl, by decide +kernel, by decide +kernel⟩
theorem ok__law_swapped {P : Program} {w : World} {K : Fg} {mg : Str → Option Value} {base : Heap} {k : Nat} {f : Addr} {fd : FuncData} {m__law_swapped : List PyData → Option PyData} (F : Fun K "_law_swapped" "_law_swapped" s__law_swapped f fd) (B : BI mg) (c__law_swapped : Cal P w K mg base (k) "_law_swapped" ["thing", "book"] m__law_swapped) :
    FnOk P w K mg base CX0 (k + 1) f fd ["thing", "book"] (spD K (runD 3 2 (fb__law_swapped m__law_swapped))) := by
  have nd := sc__law_swapped.nd
  refine F.ok sc__law_swapped (spD_len runD_len) fun cdv A outer s H vs Q E hr h => ?_
  refine ⟨_, (pss_cons (ps_if (pt_val (pe_callB (call_isK K rfl) (by rfl) B.isinstance bt_isinstance (pa_cons (pv 0) (pa_cons (pe_bltn (v := .ty "tuple") (by rfl) B.tuple bt_tuple rfl) pa_nil)))) (pss_one (ps_ret (pe_callTy (call_tupleK K rfl) (by rfl) B.tuple bt_tuple (pa_cons (pe_lc (own := [("part", 2)]) (g := (gName 2)) rfl nd (pi_seqK K rfl (pv 0)) (blkOk_by (own := [("part", 2)]) (N := N__law_swapped) (sc := (defScope s__law_swapped)) (by decide +kernel)) (fun _ _ _ _ _ => (pg_name (i := 2) nd rfl (Or.inl rfl))) (fun _ _ _ _ _ => pts_nil) (fun _ _ _ _ _ => (pe_cal c__law_swapped hr (by rfl) (pa_cons (pv 2) (pa_cons (pv 1) pa_nil))))) pa_nil)))) pss_nil)
  (pss_cons (ps_if (pt_val (pe_callB (call_isK K rfl) (by rfl) B.isinstance bt_isinstance (pa_cons (pv 0) (pa_cons (pe_bltn (v := .ty "str") (by rfl) B.str bt_str rfl) pa_nil)))) (pss_one (ps_ret (pe_dget2 (hu_of hr) (pv 1) (pv 0) (pv 0) ⟨rfl, rfl, rfl, rfl⟩))) pss_nil)
  (pss_one (ps_ret (pv 0))))), ?_⟩
  exact body_ok (N := N__law_swapped) (fb := fb__law_swapped m__law_swapped)
    (es_seq (es_if (et_B (ef_isi (eb_var 0))) (es_ret (ef_cb1 e1_tuple (ef_lcD (eib_seq (eb_var 0)) (eg_name 2) et_yes (ef_call (ea_cons (ef_var 2) (ea_cons (ef_var 1) ea_nil)))).b)) es_next)
  (es_seq (es_if (et_B (ef_isi (eb_var 0))) (es_ret (ef_get2 (eb_var 1) (ef_var 0) (ef_var 0))) es_next)
  (es_ret (ef_var 0))))
    runD_ret h
abbrev N__law_test : List Str := ["number", "deep", "kind", "one", "other"]
theorem sc__law_test : FnScope N__law_test ["number", "deep"] (defScope s__law_test) := ⟨rfl, rfl, rfl, by decide +kernel, rfl, by decide +kernel, by decide +kernel⟩
theorem ok__law_test {P : Program} {w : World} {K : Fg} {mg : Str → Option Value} {base : Heap} {k : Nat} {f : Addr} {fd : FuncData} {m__law_test : List PyData → Option PyData} {m__law_drawn : List PyData → Option PyData} (F : Fun K "_law_test" "_law_test" s__law_test f fd) (B : BI mg) (c__law_test : Cal P w K mg base (k) "_law_test" ["number", "deep"] m__law_test) (c__law_drawn : Cal P w K mg base (k) "_law_drawn" ["number", "k"] m__law_drawn) :
    FnOk P w K mg base CX0 (k + 1) f fd ["number", "deep"] (spD K (runD 5 2 (fb__law_test m__law_test m__law_drawn))) := by
  have nd := sc__law_test.nd
  refine F.ok sc__law_test (spD_len runD_len) fun cdv A outer s H vs Q E hr h => ?_
  refine ⟨_, (pss_cons (ps_set (i := 2) nd rfl (Or.inl rfl) (pe_op op_mod (pv 0) pe_int))
  (pss_cons (ps_if (PW.pt (pw_and (pt_cmpR op_gt0 (pv 1) pe_int (nomark _)) (pw_and1 (pt_cmpR op_gt0 (pv 2) pe_int (nomark _))))) (pss_cons (ps_set (i := 3) nd rfl (Or.inl rfl) (pe_cal c__law_test hr (by rfl) (pa_cons (pe_op op_fdiv (pe_cal c__law_drawn hr (by rfl) (pa_cons (pv 0) (pa_cons pe_int pa_nil))) pe_int) (pa_cons (pe_op op_sub (pv 1) pe_int) pa_nil))))
  (pss_cons (ps_set (i := 4) nd rfl (Or.inl rfl) (pe_cal c__law_test hr (by rfl) (pa_cons (pe_op op_fdiv (pe_cal c__law_drawn hr (by rfl) (pa_cons (pv 0) (pa_cons pe_int pa_nil))) pe_int) (pa_cons (pe_op op_sub (pv 1) pe_int) pa_nil))))
  (pss_one (ps_ret (pe_ix (ix_K K rfl) (pe_lst (pa_cons (pe_tupF (pa_cons pe_str (pa_cons (pv 3) pa_nil))) (pa_cons (pe_tupF (pa_cons pe_str (pa_cons (pv 3) (pa_cons (pv 4) pa_nil)))) (pa_cons (pe_tupF (pa_cons pe_str (pa_cons (pv 3) (pa_cons (pv 4) pa_nil)))) pa_nil)))) (pe_op op_sub (pv 2) pe_int) (fun _ _ => rfl)))))) pss_nil)
  (pss_cons (ps_if (pt_cmpR (op_eqK K rfl hr.units) (pv 2) pe_int (nomark _)) (pss_one (ps_ret (pe_tupF (pa_cons pe_str (pa_cons (pe_ix (ix_K K rfl) (pe_tupF (pa_cons pe_str (pa_cons pe_str pa_nil))) (pe_op op_mod (pe_op op_fdiv (pv 0) pe_int) pe_int) (fun _ _ => rfl)) pa_nil))))) pss_nil)
  (pss_cons (ps_if (pt_cmpR (op_eqK K rfl hr.units) (pv 2) pe_int (nomark _)) (pss_one (ps_ret (pe_tupF (pa_cons pe_str (pa_cons (pe_ix (ix_K K rfl) (pe_tupF (pa_cons pe_int (pa_cons pe_int (pa_cons pe_int pa_nil)))) (pe_op op_mod (pe_op op_fdiv (pv 0) pe_int) pe_int) (fun _ _ => rfl)) pa_nil))))) pss_nil)
  (pss_cons (ps_if (pt_cmpR (op_eqK K rfl hr.units) (pv 2) pe_int (nomark _)) (pss_one (ps_ret (pe_tupF (pa_cons pe_str (pa_cons (pe_ix (ix_K K rfl) (pe_tupF (pa_cons pe_str (pa_cons pe_str pa_nil))) (pe_op op_mod (pe_op op_fdiv (pv 0) pe_int) pe_int) (fun _ _ => rfl)) pa_nil))))) pss_nil)
  (pss_cons (ps_if (pt_cmpR (op_eqK K rfl hr.units) (pv 2) pe_int (nomark _)) (pss_one (ps_ret (pe_tupF (pa_cons pe_str pa_nil)))) pss_nil)
  (pss_one (ps_ret (pe_tupF (pa_cons pe_str (pa_cons (pe_ix (ix_K K rfl) (pe_tupF (pa_cons pe_str (pa_cons pe_str pa_nil))) (pe_op op_mod (pe_op op_fdiv (pv 0) pe_int) pe_int) (fun _ _ => rfl)) pa_nil))))))))))), ?_⟩
  exact body_ok (N := N__law_test) (fb := fb__law_test m__law_test m__law_drawn)
    (es_seq (es_asg (i := 2) (ef_op e2_mod (eb_var 0) (ef_int).b))
  (es_seq (es_if (et_and (et_test (ef_op e2_gt (eb_var 1) (ef_int).b)) (et_test (ef_op e2_gt (eb_var 2) (ef_int).b))) (es_seq (es_asg (i := 3) (ef_call (ea_cons (ef_op e2_fdiv (ef_call (ea_cons (ef_var 0) (ea_cons ef_int ea_nil))).b (ef_int).b) (ea_cons (ef_op e2_sub (eb_var 1) (ef_int).b) ea_nil))))
  (es_seq (es_asg (i := 4) (ef_call (ea_cons (ef_op e2_fdiv (ef_call (ea_cons (ef_var 0) (ea_cons ef_int ea_nil))).b (ef_int).b) (ea_cons (ef_op e2_sub (eb_var 1) (ef_int).b) ea_nil))))
  (es_ret (ef_op e2_ix (ef_lst (ea_cons (ef_tup (ea_cons ef_str (ea_cons (ef_var 3) ea_nil))) (ea_cons (ef_tup (ea_cons ef_str (ea_cons (ef_var 3) (ea_cons (ef_var 4) ea_nil)))) (ea_cons (ef_tup (ea_cons ef_str (ea_cons (ef_var 3) (ea_cons (ef_var 4) ea_nil)))) ea_nil)))).b (ef_op e2_sub (eb_var 2) (ef_int).b).b)))) es_next)
  (es_seq (es_if (et_test (ef_op e2_eq (eb_var 2) (ef_int).b)) (es_ret (ef_tup (ea_cons ef_str (ea_cons (ef_op e2_ix (ef_tup (ea_cons ef_str (ea_cons ef_str ea_nil))).b (ef_op e2_mod (ef_op e2_fdiv (eb_var 0) (ef_int).b).b (ef_int).b).b) ea_nil)))) es_next)
  (es_seq (es_if (et_test (ef_op e2_eq (eb_var 2) (ef_int).b)) (es_ret (ef_tup (ea_cons ef_str (ea_cons (ef_op e2_ix (ef_tup (ea_cons ef_int (ea_cons ef_int (ea_cons ef_int ea_nil)))).b (ef_op e2_mod (ef_op e2_fdiv (eb_var 0) (ef_int).b).b (ef_int).b).b) ea_nil)))) es_next)
  (es_seq (es_if (et_test (ef_op e2_eq (eb_var 2) (ef_int).b)) (es_ret (ef_tup (ea_cons ef_str (ea_cons (ef_op e2_ix (ef_tup (ea_cons ef_str (ea_cons ef_str ea_nil))).b (ef_op e2_mod (ef_op e2_fdiv (eb_var 0) (ef_int).b).b (ef_int).b).b) ea_nil)))) es_next)
  (es_seq (es_if (et_test (ef_op e2_eq (eb_var 2) (ef_int).b)) (es_ret (ef_tup (ea_cons ef_str ea_nil))) es_next)
  (es_ret (ef_tup (ea_cons ef_str (ea_cons (ef_op e2_ix (ef_tup (ea_cons ef_str (ea_cons ef_str ea_nil))).b (ef_op e2_mod (ef_op e2_fdiv (eb_var 0) (ef_int).b).b (ef_int).b).b) ea_nil))))))))))
    runD_ret h
abbrev N__law_deed : List Str := ["number", "names", "kind", "name"]
theorem sc__law_deed : FnScope N__law_deed ["number", "names"] (defScope s__law_deed) := ⟨rfl, rfl, rfl, by decide +kernel, rfl, by decide +kernel, by decide +kernel⟩
theorem ok__law_deed {P : Program} {w : World} {K : Fg} {mg : Str → Option Value} {base : Heap} {k : Nat} {f : Addr} {fd : FuncData} (F : Fun K "_law_deed" "_law_deed" s__law_deed f fd) (B : BI mg) :
    FnOk P w K mg base CX0 (k + 1) f fd ["number", "names"] (spD K (runD 4 2 (fb__law_deed))) := by
  have nd := sc__law_deed.nd
  refine F.ok sc__law_deed (spD_len runD_len) fun cdv A outer s H vs Q E hr h => ?_
  refine ⟨_, (pss_cons (ps_set (i := 2) nd rfl (Or.inl rfl) (pe_op op_mod (pv 0) pe_int))
  (pss_cons (ps_set (i := 3) nd rfl (Or.inl rfl) (pe_ix (ix_K K rfl) (pe_tupF (pa_cons pe_str (pa_cons pe_str (pa_cons pe_str (pa_cons pe_str pa_nil))))) (pe_op op_mod (pe_op op_fdiv (pv 0) pe_int) pe_int) (fun _ _ => rfl)))
  (pss_cons (ps_if (pt_cmpR (op_eqK K rfl hr.units) (pv 2) pe_int (nomark _)) (pss_one (ps_ret (pe_tupF (pa_cons pe_str pa_nil)))) pss_nil)
  (pss_cons (ps_if (pt_cmpR (op_eqK K rfl hr.units) (pv 2) pe_int (nomark _)) (pss_one (ps_ret (pe_tupF (pa_cons pe_str pa_nil)))) pss_nil)
  (pss_cons (ps_if (pt_cmpR op_ltA (pv 2) pe_int (nomark _)) (pss_one (ps_ret (pe_tupF (pa_cons pe_str (pa_cons (pe_ix (ix_K K rfl) (pv 1) (pe_op op_mod (pe_op op_fdiv (pv 0) pe_int) (pe_callB (call_lenK K rfl) (by rfl) B.len bt_len (pa_cons (pv 1) pa_nil))) (fun _ _ => rfl)) pa_nil))))) pss_nil)
  (pss_cons (ps_if (pt_cmpR op_ltA (pv 2) pe_int (nomark _)) (pss_one (ps_ret (pe_tupF (pa_cons (pe_ix (ix_K K rfl) (pe_tupF (pa_cons pe_str (pa_cons pe_str pa_nil))) (pe_op op_mod (pe_op op_fdiv (pv 0) pe_int) pe_int) (fun _ _ => rfl)) (pa_cons (pe_ix (ix_K K rfl) (pe_tupF (pa_cons pe_str (pa_cons pe_str pa_nil))) (pe_op op_mod (pe_op op_fdiv (pv 0) pe_int) pe_int) (fun _ _ => rfl)) pa_nil))))) pss_nil)
  (pss_one (ps_ret (pe_tupF (pa_cons (pe_ix (ix_K K rfl) (pe_tupF (pa_cons pe_str (pa_cons pe_str (pa_cons pe_str (pa_cons pe_str (pa_cons pe_str pa_nil)))))) (pe_op op_sub (pv 2) pe_int) (fun _ _ => rfl)) (pa_cons (pv 3) pa_nil))))))))))), ?_⟩
  exact body_ok (N := N__law_deed) (fb := fb__law_deed)
    (es_seq (es_asg (i := 2) (ef_op e2_mod (eb_var 0) (ef_int).b))
  (es_seq (es_asg (i := 3) (ef_op e2_ix (ef_tup (ea_cons ef_str (ea_cons ef_str (ea_cons ef_str (ea_cons ef_str ea_nil))))).b (ef_op e2_mod (ef_op e2_fdiv (eb_var 0) (ef_int).b).b (ef_int).b).b))
  (es_seq (es_if (et_test (ef_op e2_eq (eb_var 2) (ef_int).b)) (es_ret (ef_tup (ea_cons ef_str ea_nil))) es_next)
  (es_seq (es_if (et_test (ef_op e2_eq (eb_var 2) (ef_int).b)) (es_ret (ef_tup (ea_cons ef_str ea_nil))) es_next)
  (es_seq (es_if (et_test (ef_op e2_lt (eb_var 2) (ef_int).b)) (es_ret (ef_tup (ea_cons ef_str (ea_cons (ef_op e2_ix (eb_var 1) (ef_op e2_mod (ef_op e2_fdiv (eb_var 0) (ef_int).b).b (ef_cb1 e1_len (eb_var 1)).b).b) ea_nil)))) es_next)
  (es_seq (es_if (et_test (ef_op e2_lt (eb_var 2) (ef_int).b)) (es_ret (ef_tup (ea_cons (ef_op e2_ix (ef_tup (ea_cons ef_str (ea_cons ef_str ea_nil))).b (ef_op e2_mod (ef_op e2_fdiv (eb_var 0) (ef_int).b).b (ef_int).b).b) (ea_cons (ef_op e2_ix (ef_tup (ea_cons ef_str (ea_cons ef_str ea_nil))).b (ef_op e2_mod (ef_op e2_fdiv (eb_var 0) (ef_int).b).b (ef_int).b).b) ea_nil)))) es_next)
  (es_ret (ef_tup (ea_cons (ef_op e2_ix (ef_tup (ea_cons ef_str (ea_cons ef_str (ea_cons ef_str (ea_cons ef_str (ea_cons ef_str ea_nil)))))).b (ef_op e2_sub (eb_var 2) (ef_int).b).b) (ea_cons (ef_var 3) ea_nil))))))))))
    runD_ret h
abbrev N__law_book : List Str := ["number", "names", "found", "k", "name", "drawn", "rules", "j", "one", "deeds", "i"]
theorem sc__law_book : FnScope N__law_book ["number"] (defScope s__law_book) := ⟨rfl, rfl, rfl, by decide +kernel, rfl, by decide +kernel, by decide +kernel⟩
theorem ok__law_book {P : Program} {w : World} {K : Fg} {mg : Str → Option Value} {base : Heap} {k : Nat} {f : Addr} {fd : FuncData} {m__law_drawn : List PyData → Option PyData} {m__law_deed : List PyData → Option PyData} {m__law_test : List PyData → Option PyData} (F : Fun K "_law_book" "_law_book" s__law_book f fd) (B : BI mg) (c__law_drawn : Cal P w K mg base (k) "_law_drawn" ["number", "k"] m__law_drawn) (c__law_deed : Cal P w K mg base (k) "_law_deed" ["number", "names"] m__law_deed) (c__law_test : Cal P w K mg base (k) "_law_test" ["number", "deep"] m__law_test) :
    FnOk P w K mg base CX0 (k + 1) f fd ["number"] (spD K (runD 11 1 (fb__law_book m__law_drawn m__law_deed m__law_test))) := by
  have nd := sc__law_book.nd
  refine F.ok sc__law_book (spD_len runD_len) fun cdv A outer s H vs Q E hr h => ?_
  refine ⟨_, (pss_cons (ps_set (i := 1) nd rfl (Or.inr rfl) (pe_ix (ix_K K rfl) (pe_tupF (pa_cons (pe_tupF (pa_cons pe_str pa_nil)) (pa_cons (pe_tupF (pa_cons pe_str (pa_cons pe_str pa_nil))) (pa_cons (pe_tupF (pa_cons pe_str (pa_cons pe_str (pa_cons pe_str pa_nil)))) (pa_cons (pe_tupF (pa_cons pe_str (pa_cons pe_str pa_nil))) pa_nil))))) (pe_op op_mod (pv 0) pe_int) (fun _ _ => rfl)))
  (pss_cons (ps_set (i := 2) nd rfl (Or.inl rfl) (pe_tupF pa_nil))
  (pss_cons (ps_for PassesOwn.never rfl (pi_enumK K rfl (by rfl) B.enumerate (pa_cons (pv 1) pa_nil)) (pg_tup rfl (pgs_cons (pg_name (i := 3) nd rfl (Or.inl rfl)) (pgs_cons (pg_name (i := 4) nd rfl (Or.inl rfl)) pgs_nil)))
  (pss_cons (ps_set (i := 5) nd rfl (Or.inl rfl) (pe_op op_fdiv (pe_cal c__law_drawn hr (by rfl) (pa_cons (pv 0) (pa_cons (pv 3) pa_nil))) pe_int))
  (pss_cons (ps_set (i := 6) nd rfl (Or.inl rfl) (pe_tupF pa_nil))
  (pss_cons (ps_for PassesOwn.never rfl (pi_range1 rfl B.range (pa_cons (pe_ix (ix_K K rfl) (pe_tupF (pa_cons pe_int (pa_cons pe_int (pa_cons pe_int (pa_cons pe_int (pa_cons pe_int (pa_cons pe_int pa_nil))))))) (pe_op op_mod (pv 5) pe_int) (fun _ _ => rfl)) pa_nil)) (pg_name (i := 7) nd rfl (Or.inl rfl))
  (pss_cons (ps_set (i := 8) nd rfl (Or.inr rfl) (pe_op op_fdiv (pe_cal c__law_drawn hr (by rfl) (pa_cons (pv 5) (pa_cons (pe_op (op_addK K rfl) pe_int (pv 7)) pa_nil))) pe_int))
  (pss_cons (ps_set (i := 9) nd rfl (Or.inl rfl) (pe_callTy (call_tupleK K rfl) (by rfl) B.tuple bt_tuple (pa_cons (pe_lc (own := [("i", 10)]) (g := (gName 10)) rfl nd (pi_range1 rfl B.range (pa_cons (pe_op (op_addK K rfl) pe_int (pe_op op_mod (pv 8) pe_int)) pa_nil)) (blkOk_by (own := [("i", 10)]) (N := N__law_book) (sc := (defScope s__law_book)) (by decide +kernel)) (fun _ _ _ _ _ => (pg_name (i := 10) nd rfl (Or.inl rfl))) (fun _ _ _ _ _ => pts_nil) (fun _ _ _ _ _ => (pe_cal c__law_deed hr (by rfl) (pa_cons (pe_op op_fdiv (pe_cal c__law_drawn hr (by rfl) (pa_cons (pv 8) (pa_cons (pe_op (op_addK K rfl) pe_int (pv 10)) pa_nil))) pe_int) (pa_cons (pv 1) pa_nil))))) pa_nil)))
  (pss_one (ps_set (i := 6) nd rfl (Or.inl rfl) (pe_op (op_addK K rfl) (pv 6) (pe_tupF (pa_cons (pe_tupF (pa_cons (pe_cal c__law_test hr (by rfl) (pa_cons (pe_op op_fdiv (pv 8) pe_int) (pa_cons (pe_op (op_addK K rfl) pe_int (pe_op op_mod (pe_op op_fdiv (pv 8) pe_int) pe_int)) pa_nil))) (pa_cons (pv 9) pa_nil))) pa_nil))))))))
  (pss_one (ps_set (i := 2) nd rfl (Or.inl rfl) (pe_op (op_addK K rfl) (pv 2) (pe_tupF (pa_cons (pe_tupF (pa_cons (pv 4) (pa_cons (pv 6) pa_nil))) pa_nil)))))))))
  (pss_one (ps_ret (pv 2)))))), ?_⟩
  exact body_ok (N := N__law_book) (fb := fb__law_book m__law_drawn m__law_deed m__law_test)
    (es_seq (es_asg (i := 1) (ef_op e2_ix (ef_tup (ea_cons (ef_tup (ea_cons ef_str ea_nil)) (ea_cons (ef_tup (ea_cons ef_str (ea_cons ef_str ea_nil))) (ea_cons (ef_tup (ea_cons ef_str (ea_cons ef_str (ea_cons ef_str ea_nil)))) (ea_cons (ef_tup (ea_cons ef_str (ea_cons ef_str ea_nil))) ea_nil))))).b (ef_op e2_mod (eb_var 0) (ef_int).b).b))
  (es_seq (es_asg (i := 2) (ef_tup ea_nil))
  (es_seq (es_for (ei_enum (ef_var 1)) (eg_tup (egs_cons (eg_name 3) (egs_cons (eg_name 4) egs_nil)))
  (es_seq (es_asg (i := 5) (ef_op e2_fdiv (ef_call (ea_cons (ef_var 0) (ea_cons (ef_var 3) ea_nil))).b (ef_int).b))
  (es_seq (es_asg (i := 6) (ef_tup ea_nil))
  (es_seq (es_for (ei_rng1 (ea_cons (ef_op e2_ix (ef_tup (ea_cons ef_int (ea_cons ef_int (ea_cons ef_int (ea_cons ef_int (ea_cons ef_int (ea_cons ef_int ea_nil))))))).b (ef_op e2_mod (eb_var 5) (ef_int).b).b) ea_nil)) (eg_name 7)
  (es_seq (es_asg (i := 8) (ef_op e2_fdiv (ef_call (ea_cons (ef_var 5) (ea_cons (ef_op e2_add (ef_int).b (eb_var 7)) ea_nil))).b (ef_int).b))
  (es_seq (es_asg (i := 9) (ef_cb1 e1_tuple (ef_lcD (ei_rng1 (ea_cons (ef_op e2_add (ef_int).b (ef_op e2_mod (eb_var 8) (ef_int).b).b) ea_nil)).b (eg_name 10) et_yes (ef_call (ea_cons (ef_op e2_fdiv (ef_call (ea_cons (ef_var 8) (ea_cons (ef_op e2_add (ef_int).b (eb_var 10)) ea_nil))).b (ef_int).b) (ea_cons (ef_var 1) ea_nil)))).b))
  (es_asg (i := 6) (ef_op e2_add (eb_var 6) (ef_tup (ea_cons (ef_tup (ea_cons (ef_call (ea_cons (ef_op e2_fdiv (eb_var 8) (ef_int).b) (ea_cons (ef_op e2_add (ef_int).b (ef_op e2_mod (ef_op e2_fdiv (eb_var 8) (ef_int).b).b (ef_int).b).b) ea_nil))) (ea_cons (ef_var 9) ea_nil))) ea_nil)).b)))))
  (es_asg (i := 2) (ef_op e2_add (eb_var 2) (ef_tup (ea_cons (ef_tup (ea_cons (ef_var 4) (ea_cons (ef_var 6) ea_nil))) ea_nil)).b))))))
  (es_ret (ef_var 2)))))
    runD_ret h
abbrev N__law_letter : List Str := ["number", "sender", "words", "marks", "k", "word", "mark"]
theorem sc__law_letter : FnScope N__law_letter ["number"] (defScope s__law_letter) := ⟨rfl, rfl, rfl, by decide +kernel, rfl, by decide +kernel, by decide +kernel⟩
theorem ok__law_letter {P : Program} {w : World} {K : Fg} {mg : Str → Option Value} {base : Heap} {k : Nat} {f : Addr} {fd : FuncData} (F : Fun K "_law_letter" "_law_letter" s__law_letter f fd) (B : BI mg) :
    FnOk P w K mg base CX0 (k + 1) f fd ["number"] (spD K (runD 7 1 (fb__law_letter))) := by
  have nd := sc__law_letter.nd
  refine F.ok sc__law_letter (spD_len runD_len) fun cdv A outer s H vs Q E hr h => ?_
  refine ⟨_, (pss_cons (ps_set (i := 1) nd rfl (Or.inl rfl) (pe_ix (ix_K K rfl) (pe_tupF (pa_cons pe_str (pa_cons pe_str (pa_cons pe_str pa_nil)))) (pe_op op_mod (pv 0) pe_int) (fun _ _ => rfl)))
  (pss_cons (ps_set (i := 2) nd rfl (Or.inl rfl) (pe_callTy (call_tupleK K rfl) (by rfl) B.tuple bt_tuple (pa_cons (pe_lc (own := [("k", 4), ("word", 5)]) (g := (gTup K 2 (gCons (gName 4) (gCons (gName 5) gNil)))) rfl nd (pi_enumK K rfl (by rfl) B.enumerate (pa_cons (pe_tupF (pa_cons pe_str (pa_cons pe_str (pa_cons pe_str pa_nil)))) pa_nil)) (blkOk_by (own := [("k", 4), ("word", 5)]) (N := N__law_letter) (sc := (defScope s__law_letter)) (by decide +kernel)) (fun _ _ _ _ _ => (pg_tup rfl (pgs_cons (pg_name (i := 4) nd rfl (Or.inl rfl)) (pgs_cons (pg_name (i := 5) nd rfl (Or.inl rfl)) pgs_nil)))) (fun _ _ _ _ _ => (pts_one (pt_cmpR (op_eqK K rfl hr.units) (pe_op op_mod (pe_op op_fdiv (pv 0) (pe_ix (ix_K K rfl) (pe_tupF (pa_cons pe_int (pa_cons pe_int (pa_cons pe_int pa_nil)))) (pv 4) (fun _ _ => rfl))) pe_int) pe_int (nomark _)))) (fun _ _ _ _ _ => (pv 5))) pa_nil)))
  (pss_cons (ps_set (i := 3) nd rfl (Or.inl rfl) (pe_callTy (call_tupleK K rfl) (by rfl) B.tuple bt_tuple (pa_cons (pe_lc (own := [("k", 4), ("mark", 6)]) (g := (gTup K 2 (gCons (gName 4) (gCons (gName 6) gNil)))) rfl nd (pi_enumK K rfl (by rfl) B.enumerate (pa_cons (pe_tupF (pa_cons pe_str (pa_cons pe_str (pa_cons pe_str pa_nil)))) pa_nil)) (blkOk_by (own := [("k", 4), ("mark", 6)]) (N := N__law_letter) (sc := (defScope s__law_letter)) (by decide +kernel)) (fun _ _ _ _ _ => (pg_tup rfl (pgs_cons (pg_name (i := 4) nd rfl (Or.inl rfl)) (pgs_cons (pg_name (i := 6) nd rfl (Or.inl rfl)) pgs_nil)))) (fun _ _ _ _ _ => (pts_one (pt_cmpR (op_eqK K rfl hr.units) (pe_op op_mod (pe_op op_fdiv (pv 0) (pe_ix (ix_K K rfl) (pe_tupF (pa_cons pe_int (pa_cons pe_int (pa_cons pe_int pa_nil)))) (pv 4) (fun _ _ => rfl))) pe_int) pe_int (nomark _)))) (fun _ _ _ _ _ => (pv 6))) pa_nil)))
  (pss_one (ps_ret (pe_tupF (pa_cons (pv 1) (pa_cons (pv 2) (pa_cons (pe_ix (ix_K K rfl) (pe_tupF (pa_cons pe_int (pa_cons pe_int (pa_cons pe_int (pa_cons pe_int (pa_cons pe_int (pa_cons pe_int pa_nil))))))) (pe_op op_mod (pe_op op_fdiv (pv 0) pe_int) pe_int) (fun _ _ => rfl)) (pa_cons (pv 3) pa_nil)))))))))), ?_⟩
  exact body_ok (N := N__law_letter) (fb := fb__law_letter)
    (es_seq (es_asg (i := 1) (ef_op e2_ix (ef_tup (ea_cons ef_str (ea_cons ef_str (ea_cons ef_str ea_nil)))).b (ef_op e2_mod (eb_var 0) (ef_int).b).b))
  (es_seq (es_asg (i := 2) (ef_cb1 e1_tuple (ef_lcD (ei_enum (ef_tup (ea_cons ef_str (ea_cons ef_str (ea_cons ef_str ea_nil))))).b (eg_tup (egs_cons (eg_name 4) (egs_cons (eg_name 5) egs_nil))) (et_test (ef_op e2_eq (ef_op e2_mod (ef_op e2_fdiv (eb_var 0) (ef_op e2_ix (ef_tup (ea_cons ef_int (ea_cons ef_int (ea_cons ef_int ea_nil)))).b (eb_var 4)).b).b (ef_int).b).b (ef_int).b)) (ef_var 5)).b))
  (es_seq (es_asg (i := 3) (ef_cb1 e1_tuple (ef_lcD (ei_enum (ef_tup (ea_cons ef_str (ea_cons ef_str (ea_cons ef_str ea_nil))))).b (eg_tup (egs_cons (eg_name 4) (egs_cons (eg_name 6) egs_nil))) (et_test (ef_op e2_eq (ef_op e2_mod (ef_op e2_fdiv (eb_var 0) (ef_op e2_ix (ef_tup (ea_cons ef_int (ea_cons ef_int (ea_cons ef_int ea_nil)))).b (eb_var 4)).b).b (ef_int).b).b (ef_int).b)) (ef_var 6)).b))
  (es_ret (ef_tup (ea_cons (ef_var 1) (ea_cons (ef_var 2) (ea_cons (ef_op e2_ix (ef_tup (ea_cons ef_int (ea_cons ef_int (ea_cons ef_int (ea_cons ef_int (ea_cons ef_int (ea_cons ef_int ea_nil))))))).b (ef_op e2_mod (ef_op e2_fdiv (eb_var 0) (ef_int).b).b (ef_int).b).b) (ea_cons (ef_var 3) ea_nil)))))))))
    runD_ret h
abbrev N__law_is_name : List Str := ["thing", "sign"]
theorem sc__law_is_name : FnScope N__law_is_name ["thing"] (defScope s__law_is_name) := ⟨rfl, rfl, rfl, by decide +kernel, rfl, by decide +kernel, by decide +kernel⟩
theorem ok__law_is_name {P : Program} {w : World} {K : Fg} {mg : Str → Option Value} {base : Heap} {k : Nat} {f : Addr} {fd : FuncData} (F : Fun K "_law_is_name" "_law_is_name" s__law_is_name f fd) (B : BI mg) :
    FnOk P w K mg base CX0 (k + 1) f fd ["thing"] (spD K (runD 2 1 (fb__law_is_name))) := by
  have nd := sc__law_is_name.nd
  refine F.ok sc__law_is_name (spD_len runD_len) fun cdv A outer s H vs Q E hr h => ?_
  refine ⟨_, (pss_cons (ps_if (PW.pt (pw_or (pt_not (pt_val (pe_callB (call_isK K rfl) (by rfl) B.isinstance bt_isinstance (pa_cons (pv 0) (pa_cons (pe_bltn (v := .ty "str") (by rfl) B.str bt_str rfl) pa_nil))))) (pw_or1 (pt_not (pt_chain op_leA op_leA pe_int (pe_callB (call_lenK K rfl) (by rfl) B.len bt_len (pa_cons (pv 0) pa_nil)) pe_int))))) (pss_one (ps_ret pe_bl)) pss_nil)
  (pss_one (ps_ret (pe_cmpR (op_eqK K rfl hr.units) (pe_lc (own := [("sign", 1)]) (g := (gName 1)) rfl nd (pi_seqK K rfl (pv 0)) (blkOk_by (own := [("sign", 1)]) (N := N__law_is_name) (sc := (defScope s__law_is_name)) (by decide +kernel)) (fun _ _ _ _ _ => (pg_name (i := 1) nd rfl (Or.inl rfl))) (fun _ _ _ _ _ => (pts_one (pt_not (pt_chain op_leST op_leST pe_str (pv 1) pe_str)))) (fun _ _ _ _ _ => (pv 1))) (pe_lst pa_nil) (nomark _))))), ?_⟩
  exact body_ok (N := N__law_is_name) (fb := fb__law_is_name)
    (es_seq (es_if (et_or (et_not (et_B (ef_isi (eb_var 0)))) (et_not (et_test (ef_chain e2_le e2_le ef_int (ef_cb1 e1_len (eb_var 0)) ef_int)))) (es_ret ef_bl) es_next)
  (es_ret (ef_op e2_eq (ef_lcD (eib_seq (eb_var 0)) (eg_name 1) (et_not (et_test (ef_chain e2_leST e2_leST ef_str (ef_var 1) ef_str))) (ef_var 1)).b (ef_lst ea_nil).b)))
    runD_ret h
abbrev N__law_is_number : List Str := ["thing"]
theorem sc__law_is_number : FnScope N__law_is_number ["thing"] (defScope s__law_is_number) := ⟨rfl, rfl, rfl, by decide +kernel, rfl, by decide +kernel, by decide +kernel⟩
theorem ok__law_is_number {P : Program} {w : World} {K : Fg} {mg : Str → Option Value} {base : Heap} {k : Nat} {f : Addr} {fd : FuncData} (F : Fun K "_law_is_number" "_law_is_number" s__law_is_number f fd) (B : BI mg) :
    FnOk P w K mg base CX0 (k + 1) f fd ["thing"] (spD K (runD 1 1 (fb__law_is_number))) := by
  have nd := sc__law_is_number.nd
  refine F.ok sc__law_is_number (spD_len runD_len) fun cdv A outer s H vs Q E hr h => ?_
  refine ⟨_, (pss_one (ps_ret (pe_and (pe_callB (call_isK K rfl) (by rfl) B.isinstance bt_isinstance (pa_cons (pv 0) (pa_cons (pe_bltn (v := .ty "int") (by rfl) B.int bt_int rfl) pa_nil))) (pe_and (pe_not (pe_callB (call_isK K rfl) (by rfl) B.isinstance bt_isinstance (pa_cons (pv 0) (pa_cons (pe_bltn (v := .ty "bool") (by rfl) B.bool bt_bool rfl) pa_nil)))) (pe_one (pe_chain op_leA op_leA pe_int (pv 0) pe_int)))))), ?_⟩
  exact body_ok (N := N__law_is_number) (fb := fb__law_is_number)
    (es_ret (ef_andV (ef_isi (eb_var 0)) (ef_andV (ef_notV (ef_isi (eb_var 0))) (ef_chain e2_le e2_le ef_int (ef_var 0) ef_int))))
    runD_ret h
abbrev N__law_is_test : List Str := ["thing", "deep", "sizes", "part"]
theorem sc__law_is_test : FnScope N__law_is_test ["thing", "deep"] (defScope s__law_is_test) := ⟨rfl, rfl, rfl, by decide +kernel, rfl, by decide +kernel, by decide +kernel⟩
theorem ok__law_is_test {P : Program} {w : World} {K : Fg} {mg : Str → Option Value} {base : Heap} {k : Nat} {f : Addr} {fd : FuncData} {m__law_is_test : List PyData → Option PyData} {m__law_is_number : List PyData → Option PyData} {m__law_is_name : List PyData → Option PyData} (F : Fun K "_law_is_test" "_law_is_test" s__law_is_test f fd) (B : BI mg) (c__law_is_test : Cal P w K mg base (k) "_law_is_test" ["thing", "deep"] m__law_is_test) (c__law_is_number : Cal P w K mg base (k) "_law_is_number" ["thing"] m__law_is_number) (c__law_is_name : Cal P w K mg base (k) "_law_is_name" ["thing"] m__law_is_name) :
    FnOk P w K mg base CX0 (k + 1) f fd ["thing", "deep"] (spD K (runD 4 2 (fb__law_is_test m__law_is_test m__law_is_number m__law_is_name))) := by
  have nd := sc__law_is_test.nd
  refine F.ok sc__law_is_test (spD_len runD_len) fun cdv A outer s H vs Q E hr h => ?_
  refine ⟨_, (pss_cons (ps_if (PW.pt (pw_or (pt_cmpR (op_eqK K rfl hr.units) (pv 1) pe_int (nomark _)) (pw_or (pt_not (pt_val (pe_callB (call_isK K rfl) (by rfl) B.isinstance bt_isinstance (pa_cons (pv 0) (pa_cons (pe_bltn (v := .ty "tuple") (by rfl) B.tuple bt_tuple rfl) pa_nil))))) (pw_or (pt_cmpR (op_eqK K rfl hr.units) (pv 0) (pe_tupF pa_nil) (nomark _)) (pw_or1 (pt_not (pt_val (pe_callB (call_isK K rfl) (by rfl) B.isinstance bt_isinstance (pa_cons (pe_ix (ix_K K rfl) (pv 0) pe_int (fun _ _ => rfl)) (pa_cons (pe_bltn (v := .ty "str") (by rfl) B.str bt_str rfl) pa_nil)))))))))) (pss_one (ps_ret pe_bl)) pss_nil)
  (pss_cons (ps_set (i := 2) nd rfl (Or.inl rfl) (pe_disp (pps_cons pe_str pe_int (pps_cons pe_str pe_int (pps_cons pe_str pe_int (pps_cons pe_str pe_int (pps_cons pe_str pe_int (pps_cons pe_str pe_int (pps_cons pe_str pe_int (pps_cons pe_str pe_int pps_nil)))))))) (by rfl) (by rfl) (fun z => by cases z) (by decide)))
  (pss_cons (ps_if (pt_cmpR (op_neK K rfl hr.units) (pe_callB (call_lenK K rfl) (by rfl) B.len bt_len (pa_cons (pv 0) pa_nil)) (pe_dget2 (hu_of hr) (pv 2) (pe_ix (ix_K K rfl) (pv 0) pe_int (fun _ _ => rfl)) pe_int ⟨rfl, rfl, rfl, rfl⟩) (nomark _)) (pss_one (ps_ret pe_bl)) pss_nil)
  (pss_cons (ps_if (pt_cmpR (op_inK K rfl (un65 hr)) (pe_ix (ix_K K rfl) (pv 0) pe_int (fun _ _ => rfl)) (pe_tupF (pa_cons pe_str (pa_cons pe_str (pa_cons pe_str pa_nil)))) (by rfl)) (pss_one (ps_ret (pe_cmpR (op_eqK K rfl hr.units) (pe_lc (own := [("part", 3)]) (g := (gName 3)) rfl nd (pi_seqK K rfl (pe_slice (sl_K K rfl) (pv 0) (po_some pe_int) po_none)) (blkOk_by (own := [("part", 3)]) (N := N__law_is_test) (sc := (defScope s__law_is_test)) (by decide +kernel)) (fun _ _ _ _ _ => (pg_name (i := 3) nd rfl (Or.inl rfl))) (fun _ _ _ _ _ => (pts_one (pt_not (pt_val (pe_cal c__law_is_test hr (by rfl) (pa_cons (pv 3) (pa_cons (pe_op op_sub (pv 1) pe_int) pa_nil))))))) (fun _ _ _ _ _ => (pv 3))) (pe_lst pa_nil) (nomark _)))) pss_nil)
  (pss_cons (ps_if (pt_cmpR (op_eqK K rfl hr.units) (pe_ix (ix_K K rfl) (pv 0) pe_int (fun _ _ => rfl)) pe_str (nomark _)) (pss_one (ps_ret (pe_cal c__law_is_number hr (by rfl) (pa_cons (pe_ix (ix_K K rfl) (pv 0) pe_int (fun _ _ => rfl)) pa_nil)))) pss_nil)
  (pss_one (ps_ret (pe_or (pe_cmpR (op_eqK K rfl hr.units) (pe_ix (ix_K K rfl) (pv 0) pe_int (fun _ _ => rfl)) pe_str (nomark _)) (pe_one (pe_cal c__law_is_name hr (by rfl) (pa_cons (pe_ix (ix_K K rfl) (pv 0) pe_int (fun _ _ => rfl)) pa_nil))))))))))), ?_⟩
  exact body_ok (N := N__law_is_test) (fb := fb__law_is_test m__law_is_test m__law_is_number m__law_is_name)
    (es_seq (es_if (et_or (et_test (ef_op e2_eq (eb_var 1) (ef_int).b)) (et_or (et_not (et_B (ef_isi (eb_var 0)))) (et_or (et_test (ef_op e2_eq (eb_var 0) (ef_tup ea_nil).b)) (et_not (et_B (ef_isi (ef_op e2_ix (eb_var 0) (ef_int).b).b)))))) (es_ret ef_bl) es_next)
  (es_seq (es_asg (i := 2) (en_disp (enp_cons ef_str (en_dat ef_int) (enp_cons ef_str (en_dat ef_int) (enp_cons ef_str (en_dat ef_int) (enp_cons ef_str (en_dat ef_int) (enp_cons ef_str (en_dat ef_int) (enp_cons ef_str (en_dat ef_int) (enp_cons ef_str (en_dat ef_int) (enp_cons ef_str (en_dat ef_int) enp_nil))))))))).ef)
  (es_seq (es_if (et_test (ef_op e2_ne (ef_cb1 e1_len (eb_var 0)).b (ef_get2 (eb_var 2) (ef_op e2_ix (eb_var 0) (ef_int).b) ef_int).b)) (es_ret ef_bl) es_next)
  (es_seq (es_if (et_test (ef_op e2_in (ef_op e2_ix (eb_var 0) (ef_int).b).b (ef_tup (ea_cons ef_str (ea_cons ef_str (ea_cons ef_str ea_nil)))).b)) (es_ret (ef_op e2_eq (ef_lcD (eib_seq (ef_sl (eb_var 0) (eo_some ef_int) eo_none).b) (eg_name 3) (et_not (et_B (ef_call (ea_cons (ef_var 3) (ea_cons (ef_op e2_sub (eb_var 1) (ef_int).b) ea_nil))))) (ef_var 3)).b (ef_lst ea_nil).b)) es_next)
  (es_seq (es_if (et_test (ef_op e2_eq (ef_op e2_ix (eb_var 0) (ef_int).b).b (ef_str).b)) (es_ret (ef_call (ea_cons (ef_op e2_ix (eb_var 0) (ef_int).b) ea_nil))) es_next)
  (es_ret (ef_orV (ef_op e2_eq (ef_op e2_ix (eb_var 0) (ef_int).b).b (ef_str).b) (ef_call (ea_cons (ef_op e2_ix (eb_var 0) (ef_int).b) ea_nil)))))))))
    runD_ret h
abbrev N__law_is_deed : List Str := ["thing", "names"]
theorem sc__law_is_deed : FnScope N__law_is_deed ["thing", "names"] (defScope s__law_is_deed) := ⟨rfl, rfl, rfl, by decide +kernel, rfl, by decide +kernel, by decide +kernel⟩
theorem ok__law_is_deed {P : Program} {w : World} {K : Fg} {mg : Str → Option Value} {base : Heap} {k : Nat} {f : Addr} {fd : FuncData} {m__law_is_name : List PyData → Option PyData} (F : Fun K "_law_is_deed" "_law_is_deed" s__law_is_deed f fd) (B : BI mg) (c__law_is_name : Cal P w K mg base (k) "_law_is_name" ["thing"] m__law_is_name) :
    FnOk P w K mg base CX0 (k + 1) f fd ["thing", "names"] (spD K (runD 2 2 (fb__law_is_deed m__law_is_name))) := by
  have nd := sc__law_is_deed.nd
  refine F.ok sc__law_is_deed (spD_len runD_len) fun cdv A outer s H vs Q E hr h => ?_
  refine ⟨_, (pss_cons (ps_if (PW.pt (pw_or (pt_not (pt_val (pe_callB (call_isK K rfl) (by rfl) B.isinstance bt_isinstance (pa_cons (pv 0) (pa_cons (pe_bltn (v := .ty "tuple") (by rfl) B.tuple bt_tuple rfl) pa_nil))))) (pw_or (pt_cmpR (op_eqK K rfl hr.units) (pv 0) (pe_tupF pa_nil) (nomark _)) (pw_or1 (pt_not (pt_val (pe_callB (call_isK K rfl) (by rfl) B.isinstance bt_isinstance (pa_cons (pe_ix (ix_K K rfl) (pv 0) pe_int (fun _ _ => rfl)) (pa_cons (pe_bltn (v := .ty "str") (by rfl) B.str bt_str rfl) pa_nil))))))))) (pss_one (ps_ret pe_bl)) pss_nil)
  (pss_cons (ps_if (pt_cmpR (op_inK K rfl (un65 hr)) (pe_ix (ix_K K rfl) (pv 0) pe_int (fun _ _ => rfl)) (pe_tupF (pa_cons pe_str (pa_cons pe_str pa_nil))) (by rfl)) (pss_one (ps_ret (pe_cmpR (op_eqK K rfl hr.units) (pe_callB (call_lenK K rfl) (by rfl) B.len bt_len (pa_cons (pv 0) pa_nil)) pe_int (nomark _)))) pss_nil)
  (pss_cons (ps_if (PW.pt (pw_or (pt_cmpR (op_notInK K rfl (un65 hr)) (pe_ix (ix_K K rfl) (pv 0) pe_int (fun _ _ => rfl)) (pe_tupF (pa_cons pe_str (pa_cons pe_str (pa_cons pe_str (pa_cons pe_str (pa_cons pe_str (pa_cons pe_str pa_nil))))))) (by rfl)) (pw_or1 (pt_cmpR (op_neK K rfl hr.units) (pe_callB (call_lenK K rfl) (by rfl) B.len bt_len (pa_cons (pv 0) pa_nil)) pe_int (nomark _))))) (pss_one (ps_ret pe_bl)) pss_nil)
  (pss_one (ps_ret (pe_and (pe_cal c__law_is_name hr (by rfl) (pa_cons (pe_ix (ix_K K rfl) (pv 0) pe_int (fun _ _ => rfl)) pa_nil)) (pe_one (pe_or (pe_cmpR (op_neK K rfl hr.units) (pe_ix (ix_K K rfl) (pv 0) pe_int (fun _ _ => rfl)) pe_str (nomark _)) (pe_one (pe_cmpR (op_inK K rfl (un65 hr)) (pe_ix (ix_K K rfl) (pv 0) pe_int (fun _ _ => rfl)) (pv 1) (by rfl))))))))))), ?_⟩
  exact body_ok (N := N__law_is_deed) (fb := fb__law_is_deed m__law_is_name)
    (es_seq (es_if (et_or (et_not (et_B (ef_isi (eb_var 0)))) (et_or (et_test (ef_op e2_eq (eb_var 0) (ef_tup ea_nil).b)) (et_not (et_B (ef_isi (ef_op e2_ix (eb_var 0) (ef_int).b).b))))) (es_ret ef_bl) es_next)
  (es_seq (es_if (et_test (ef_op e2_in (ef_op e2_ix (eb_var 0) (ef_int).b).b (ef_tup (ea_cons ef_str (ea_cons ef_str ea_nil))).b)) (es_ret (ef_op e2_eq (ef_cb1 e1_len (eb_var 0)).b (ef_int).b)) es_next)
  (es_seq (es_if (et_or (et_test (ef_op e2_notIn (ef_op e2_ix (eb_var 0) (ef_int).b).b (ef_tup (ea_cons ef_str (ea_cons ef_str (ea_cons ef_str (ea_cons ef_str (ea_cons ef_str (ea_cons ef_str ea_nil))))))).b)) (et_test (ef_op e2_ne (ef_cb1 e1_len (eb_var 0)).b (ef_int).b))) (es_ret ef_bl) es_next)
  (es_ret (ef_andV (ef_call (ea_cons (ef_op e2_ix (eb_var 0) (ef_int).b) ea_nil)) (ef_orV (ef_op e2_ne (ef_op e2_ix (eb_var 0) (ef_int).b).b (ef_str).b) (ef_op e2_in (ef_op e2_ix (eb_var 0) (ef_int).b).b (eb_var 1))))))))
    runD_ret h
abbrev N__law_is_rule : List Str := ["thing", "names", "deed"]
theorem sc__law_is_rule : FnScope N__law_is_rule ["thing", "names"] (defScope s__law_is_rule) := ⟨rfl, rfl, rfl, by decide +kernel, rfl, by decide +kernel, by decide +kernel⟩
theorem ok__law_is_rule {P : Program} {w : World} {K : Fg} {mg : Str → Option Value} {base : Heap} {k : Nat} {f : Addr} {fd : FuncData} {m__law_is_test : List PyData → Option PyData} {m__law_is_deed : List PyData → Option PyData} (F : Fun K "_law_is_rule" "_law_is_rule" s__law_is_rule f fd) (B : BI mg) (c__law_is_test : Cal P w K mg base (k) "_law_is_test" ["thing", "deep"] m__law_is_test) (c__law_is_deed : Cal P w K mg base (k) "_law_is_deed" ["thing", "names"] m__law_is_deed) :
    FnOk P w K mg base CX0 (k + 1) f fd ["thing", "names"] (spD K (runD 3 2 (fb__law_is_rule m__law_is_test m__law_is_deed))) := by
  have nd := sc__law_is_rule.nd
  refine F.ok sc__law_is_rule (spD_len runD_len) fun cdv A outer s H vs Q E hr h => ?_
  refine ⟨_, (pss_cons (ps_if (PW.pt (pw_or (pt_not (pt_val (pe_callB (call_isK K rfl) (by rfl) B.isinstance bt_isinstance (pa_cons (pv 0) (pa_cons (pe_bltn (v := .ty "tuple") (by rfl) B.tuple bt_tuple rfl) pa_nil))))) (pw_or (pt_cmpR (op_neK K rfl hr.units) (pe_callB (call_lenK K rfl) (by rfl) B.len bt_len (pa_cons (pv 0) pa_nil)) pe_int (nomark _)) (pw_or1 (pt_not (pt_val (pe_cal c__law_is_test hr (by rfl) (pa_cons (pe_ix (ix_K K rfl) (pv 0) pe_int (fun _ _ => rfl)) (pa_cons pe_int pa_nil))))))))) (pss_one (ps_ret pe_bl)) pss_nil)
  (pss_cons (ps_if (PW.pt (pw_or (pt_not (pt_val (pe_callB (call_isK K rfl) (by rfl) B.isinstance bt_isinstance (pa_cons (pe_ix (ix_K K rfl) (pv 0) pe_int (fun _ _ => rfl)) (pa_cons (pe_bltn (v := .ty "tuple") (by rfl) B.tuple bt_tuple rfl) pa_nil))))) (pw_or1 (pt_not (pt_chain op_leA op_leA pe_int (pe_callB (call_lenK K rfl) (by rfl) B.len bt_len (pa_cons (pe_ix (ix_K K rfl) (pv 0) pe_int (fun _ _ => rfl)) pa_nil)) pe_int))))) (pss_one (ps_ret pe_bl)) pss_nil)
  (pss_one (ps_ret (pe_cmpR (op_eqK K rfl hr.units) (pe_lc (own := [("deed", 2)]) (g := (gName 2)) rfl nd (pi_seqK K rfl (pe_ix (ix_K K rfl) (pv 0) pe_int (fun _ _ => rfl))) (blkOk_by (own := [("deed", 2)]) (N := N__law_is_rule) (sc := (defScope s__law_is_rule)) (by decide +kernel)) (fun _ _ _ _ _ => (pg_name (i := 2) nd rfl (Or.inl rfl))) (fun _ _ _ _ _ => (pts_one (pt_not (pt_val (pe_cal c__law_is_deed hr (by rfl) (pa_cons (pv 2) (pa_cons (pv 1) pa_nil))))))) (fun _ _ _ _ _ => (pv 2))) (pe_lst pa_nil) (nomark _)))))), ?_⟩
  exact body_ok (N := N__law_is_rule) (fb := fb__law_is_rule m__law_is_test m__law_is_deed)
    (es_seq (es_if (et_or (et_not (et_B (ef_isi (eb_var 0)))) (et_or (et_test (ef_op e2_ne (ef_cb1 e1_len (eb_var 0)).b (ef_int).b)) (et_not (et_B (ef_call (ea_cons (ef_op e2_ix (eb_var 0) (ef_int).b) (ea_cons ef_int ea_nil))))))) (es_ret ef_bl) es_next)
  (es_seq (es_if (et_or (et_not (et_B (ef_isi (ef_op e2_ix (eb_var 0) (ef_int).b).b))) (et_not (et_test (ef_chain e2_le e2_le ef_int (ef_cb1 e1_len (ef_op e2_ix (eb_var 0) (ef_int).b).b) ef_int)))) (es_ret ef_bl) es_next)
  (es_ret (ef_op e2_eq (ef_lcD (eib_seq (ef_op e2_ix (eb_var 0) (ef_int).b).b) (eg_name 2) (et_not (et_B (ef_call (ea_cons (ef_var 2) (ea_cons (ef_var 1) ea_nil))))) (ef_var 2)).b (ef_lst ea_nil).b))))
    runD_ret h
abbrev N__law_is_book : List Str := ["thing", "part", "names", "rule"]
theorem sc__law_is_book : FnScope N__law_is_book ["thing"] (defScope s__law_is_book) := ⟨rfl, rfl, rfl, by decide +kernel, rfl, by decide +kernel, by decide +kernel⟩
theorem ok__law_is_book {P : Program} {w : World} {K : Fg} {mg : Str → Option Value} {base : Heap} {k : Nat} {f : Addr} {fd : FuncData} {m__law_is_name : List PyData → Option PyData} {m__law_is_rule : List PyData → Option PyData} (F : Fun K "_law_is_book" "_law_is_book" s__law_is_book f fd) (B : BI mg) (c__law_is_name : Cal P w K mg base (k) "_law_is_name" ["thing"] m__law_is_name) (c__law_is_rule : Cal P w K mg base (k) "_law_is_rule" ["thing", "names"] m__law_is_rule) :
    FnOk P w K mg base CX0 (k + 1) f fd ["thing"] (spD K (runD 4 1 (fb__law_is_book m__law_is_name m__law_is_rule))) := by
  have nd := sc__law_is_book.nd
  refine F.ok sc__law_is_book (spD_len runD_len) fun cdv A outer s H vs Q E hr h => ?_
  refine ⟨_, (pss_cons (ps_if (PW.pt (pw_or (pt_not (pt_val (pe_callB (call_isK K rfl) (by rfl) B.isinstance bt_isinstance (pa_cons (pv 0) (pa_cons (pe_bltn (v := .ty "tuple") (by rfl) B.tuple bt_tuple rfl) pa_nil))))) (pw_or1 (pt_not (pt_chain op_leA op_leA pe_int (pe_callB (call_lenK K rfl) (by rfl) B.len bt_len (pa_cons (pv 0) pa_nil)) pe_int))))) (pss_one (ps_ret pe_bl)) pss_nil)
  (pss_cons (ps_for PassesOwn.never rfl (pi_seqK K rfl (pv 0)) (pg_name (i := 1) nd rfl (Or.inl rfl))
  (pss_cons (ps_if (PW.pt (pw_or (pt_not (pt_val (pe_callB (call_isK K rfl) (by rfl) B.isinstance bt_isinstance (pa_cons (pv 1) (pa_cons (pe_bltn (v := .ty "tuple") (by rfl) B.tuple bt_tuple rfl) pa_nil))))) (pw_or (pt_cmpR (op_neK K rfl hr.units) (pe_callB (call_lenK K rfl) (by rfl) B.len bt_len (pa_cons (pv 1) pa_nil)) pe_int (nomark _)) (pw_or1 (pt_not (pt_val (pe_cal c__law_is_name hr (by rfl) (pa_cons (pe_ix (ix_K K rfl) (pv 1) pe_int (fun _ _ => rfl)) pa_nil)))))))) (pss_one (ps_ret pe_bl)) pss_nil)
  (pss_one (ps_if (PW.pt (pw_or (pt_not (pt_val (pe_callB (call_isK K rfl) (by rfl) B.isinstance bt_isinstance (pa_cons (pe_ix (ix_K K rfl) (pv 1) pe_int (fun _ _ => rfl)) (pa_cons (pe_bltn (v := .ty "tuple") (by rfl) B.tuple bt_tuple rfl) pa_nil))))) (pw_or1 (pt_cmpR op_gt0 (pe_callB (call_lenK K rfl) (by rfl) B.len bt_len (pa_cons (pe_ix (ix_K K rfl) (pv 1) pe_int (fun _ _ => rfl)) pa_nil)) pe_int (nomark _))))) (pss_one (ps_ret pe_bl)) pss_nil))))
  (pss_cons (ps_set (i := 2) nd rfl (Or.inr rfl) (pe_lc (own := [("part", 1)]) (g := (gName 1)) rfl nd (pi_seqK K rfl (pv 0)) (blkOk_by (own := [("part", 1)]) (N := N__law_is_book) (sc := (defScope s__law_is_book)) (by decide +kernel)) (fun _ _ _ _ _ => (pg_name (i := 1) nd rfl (Or.inl rfl))) (fun _ _ _ _ _ => pts_nil) (fun _ _ _ _ _ => (pe_ix (ix_K K rfl) (pv 1) pe_int (fun _ _ => rfl)))))
  (pss_cons (ps_if (PW.pt (pw_or (pt_cmpR (op_neK K rfl hr.units) (pv 2) (pe_callB (cr_sortSK K P w rfl rfl rfl rfl hr.units) (by rfl) B.sorted bt_sorted (pa_cons (pe_callTy (cr_setK K P w rfl rfl rfl rfl) (by rfl) B.set bt_set (pa_cons (pv 2) pa_nil)) pa_nil)) (nomark _)) (pw_or1 (pt_cmpR (op_notInK K rfl (un65 hr)) pe_str (pv 2) (by rfl))))) (pss_one (ps_ret pe_bl)) pss_nil)
  (pss_cons (ps_for PassesOwn.never rfl (pi_seqK K rfl (pv 0)) (pg_name (i := 1) nd rfl (Or.inl rfl))
  (pss_one (ps_if (pt_cmpR (op_neK K rfl hr.units) (pe_lc (own := [("rule", 3)]) (g := (gName 3)) rfl nd (pi_seqK K rfl (pe_ix (ix_K K rfl) (pv 1) pe_int (fun _ _ => rfl))) (blkOk_by (own := [("rule", 3)]) (N := N__law_is_book) (sc := (defScope s__law_is_book)) (by decide +kernel)) (fun _ _ _ _ _ => (pg_name (i := 3) nd rfl (Or.inl rfl))) (fun _ _ _ _ _ => (pts_one (pt_not (pt_val (pe_cal c__law_is_rule hr (by rfl) (pa_cons (pv 3) (pa_cons (pv 2) pa_nil))))))) (fun _ _ _ _ _ => (pv 3))) (pe_lst pa_nil) (nomark _)) (pss_one (ps_ret pe_bl)) pss_nil)))
  (pss_one (ps_ret pe_bl))))))), ?_⟩
  exact body_ok (N := N__law_is_book) (fb := fb__law_is_book m__law_is_name m__law_is_rule)
    (es_seq (es_if (et_or (et_not (et_B (ef_isi (eb_var 0)))) (et_not (et_test (ef_chain e2_le e2_le ef_int (ef_cb1 e1_len (eb_var 0)) ef_int)))) (es_ret ef_bl) es_next)
  (es_seq (es_for (ei_seq (ef_var 0)) (eg_name 1)
  (es_seq (es_if (et_or (et_not (et_B (ef_isi (eb_var 1)))) (et_or (et_test (ef_op e2_ne (ef_cb1 e1_len (eb_var 1)).b (ef_int).b)) (et_not (et_B (ef_call (ea_cons (ef_op e2_ix (eb_var 1) (ef_int).b) ea_nil)))))) (es_ret ef_bl) es_next)
  (es_if (et_or (et_not (et_B (ef_isi (ef_op e2_ix (eb_var 1) (ef_int).b).b))) (et_test (ef_op e2_gt (ef_cb1 e1_len (ef_op e2_ix (eb_var 1) (ef_int).b).b).b (ef_int).b))) (es_ret ef_bl) es_next)))
  (es_seq (es_asg (i := 2) (ef_lcD (eib_seq (eb_var 0)) (eg_name 1) et_yes (ef_op e2_ix (eb_var 1) (ef_int).b)))
  (es_seq (es_if (et_or (et_test (ef_op e2_ne (eb_var 2) (ef_sortK (eb_var 2)).b)) (et_test (ef_op e2_notIn (ef_str).b (eb_var 2)))) (es_ret ef_bl) es_next)
  (es_seq (es_for (ei_seq (ef_var 0)) (eg_name 1)
  (es_if (et_test (ef_op e2_ne (ef_lcD (eib_seq (ef_op e2_ix (eb_var 1) (ef_int).b).b) (eg_name 3) (et_not (et_B (ef_call (ea_cons (ef_var 3) (ea_cons (ef_var 2) ea_nil))))) (ef_var 3)).b (ef_lst ea_nil).b)) (es_ret ef_bl) es_next))
  (es_ret ef_bl))))))
    runD_ret h
abbrev N__law_are_names : List Str := ["thing", "part"]
theorem sc__law_are_names : FnScope N__law_are_names ["thing"] (defScope s__law_are_names) := ⟨rfl, rfl, rfl, by decide +kernel, rfl, by decide +kernel, by decide +kernel⟩
theorem ok__law_are_names {P : Program} {w : World} {K : Fg} {mg : Str → Option Value} {base : Heap} {k : Nat} {f : Addr} {fd : FuncData} {m__law_is_name : List PyData → Option PyData} (F : Fun K "_law_are_names" "_law_are_names" s__law_are_names f fd) (B : BI mg) (c__law_is_name : Cal P w K mg base (k) "_law_is_name" ["thing"] m__law_is_name) :
    FnOk P w K mg base CX0 (k + 1) f fd ["thing"] (spD K (runD 2 1 (fb__law_are_names m__law_is_name))) := by
  have nd := sc__law_are_names.nd
  refine F.ok sc__law_are_names (spD_len runD_len) fun cdv A outer s H vs Q E hr h => ?_
  refine ⟨_, (pss_cons (ps_if (PW.pt (pw_or (pt_not (pt_val (pe_callB (call_isK K rfl) (by rfl) B.isinstance bt_isinstance (pa_cons (pv 0) (pa_cons (pe_bltn (v := .ty "tuple") (by rfl) B.tuple bt_tuple rfl) pa_nil))))) (pw_or (pt_cmpR op_gt0 (pe_callB (call_lenK K rfl) (by rfl) B.len bt_len (pa_cons (pv 0) pa_nil)) pe_int (nomark _)) (pw_or1 (pt_cmpR (op_neK K rfl hr.units) (pe_lc (own := [("part", 1)]) (g := (gName 1)) rfl nd (pi_seqK K rfl (pv 0)) (blkOk_by (own := [("part", 1)]) (N := N__law_are_names) (sc := (defScope s__law_are_names)) (by decide +kernel)) (fun _ _ _ _ _ => (pg_name (i := 1) nd rfl (Or.inl rfl))) (fun _ _ _ _ _ => (pts_one (pt_not (pt_val (pe_cal c__law_is_name hr (by rfl) (pa_cons (pv 1) pa_nil)))))) (fun _ _ _ _ _ => (pv 1))) (pe_lst pa_nil) (nomark _)))))) (pss_one (ps_ret pe_bl)) pss_nil)
  (pss_one (ps_ret (pe_cmpR (op_eqK K rfl hr.units) (pe_callTy (call_listK K rfl) (by rfl) B.list bt_list (pa_cons (pv 0) pa_nil)) (pe_callB (cr_sortSK K P w rfl rfl rfl rfl hr.units) (by rfl) B.sorted bt_sorted (pa_cons (pe_callTy (cr_setK K P w rfl rfl rfl rfl) (by rfl) B.set bt_set (pa_cons (pv 0) pa_nil)) pa_nil)) (nomark _))))), ?_⟩
  exact body_ok (N := N__law_are_names) (fb := fb__law_are_names m__law_is_name)
    (es_seq (es_if (et_or (et_not (et_B (ef_isi (eb_var 0)))) (et_or (et_test (ef_op e2_gt (ef_cb1 e1_len (eb_var 0)).b (ef_int).b)) (et_test (ef_op e2_ne (ef_lcD (eib_seq (eb_var 0)) (eg_name 1) (et_not (et_B (ef_call (ea_cons (ef_var 1) ea_nil)))) (ef_var 1)).b (ef_lst ea_nil).b)))) (es_ret ef_bl) es_next)
  (es_ret (ef_op e2_eq (ef_cb1 e1_list (eb_var 0)).b (ef_sortK (eb_var 0)).b)))
    runD_ret h
abbrev N__law_is_letter : List Str := ["thing"]
theorem sc__law_is_letter : FnScope N__law_is_letter ["thing"] (defScope s__law_is_letter) := ⟨rfl, rfl, rfl, by decide +kernel, rfl, by decide +kernel, by decide +kernel⟩
theorem ok__law_is_letter {P : Program} {w : World} {K : Fg} {mg : Str → Option Value} {base : Heap} {k : Nat} {f : Addr} {fd : FuncData} {m__law_is_name : List PyData → Option PyData} {m__law_is_number : List PyData → Option PyData} {m__law_are_names : List PyData → Option PyData} (F : Fun K "_law_is_letter" "_law_is_letter" s__law_is_letter f fd) (B : BI mg) (c__law_is_name : Cal P w K mg base (k) "_law_is_name" ["thing"] m__law_is_name) (c__law_is_number : Cal P w K mg base (k) "_law_is_number" ["thing"] m__law_is_number) (c__law_are_names : Cal P w K mg base (k) "_law_are_names" ["thing"] m__law_are_names) :
    FnOk P w K mg base CX0 (k + 1) f fd ["thing"] (spD K (runD 1 1 (fb__law_is_letter m__law_is_name m__law_is_number m__law_are_names))) := by
  have nd := sc__law_is_letter.nd
  refine F.ok sc__law_is_letter (spD_len runD_len) fun cdv A outer s H vs Q E hr h => ?_
  refine ⟨_, (pss_cons (ps_if (PW.pt (pw_or (pt_not (pt_val (pe_callB (call_isK K rfl) (by rfl) B.isinstance bt_isinstance (pa_cons (pv 0) (pa_cons (pe_bltn (v := .ty "tuple") (by rfl) B.tuple bt_tuple rfl) pa_nil))))) (pw_or (pt_cmpR (op_neK K rfl hr.units) (pe_callB (call_lenK K rfl) (by rfl) B.len bt_len (pa_cons (pv 0) pa_nil)) pe_int (nomark _)) (pw_or (pt_not (pt_val (pe_cal c__law_is_name hr (by rfl) (pa_cons (pe_ix (ix_K K rfl) (pv 0) pe_int (fun _ _ => rfl)) pa_nil)))) (pw_or1 (pt_not (pt_val (pe_cal c__law_is_number hr (by rfl) (pa_cons (pe_ix (ix_K K rfl) (pv 0) pe_int (fun _ _ => rfl)) pa_nil))))))))) (pss_one (ps_ret pe_bl)) pss_nil)
  (pss_one (ps_ret (pe_and (pe_cal c__law_are_names hr (by rfl) (pa_cons (pe_ix (ix_K K rfl) (pv 0) pe_int (fun _ _ => rfl)) pa_nil)) (pe_one (pe_cal c__law_are_names hr (by rfl) (pa_cons (pe_ix (ix_K K rfl) (pv 0) pe_int (fun _ _ => rfl)) pa_nil))))))), ?_⟩
  exact body_ok (N := N__law_is_letter) (fb := fb__law_is_letter m__law_is_name m__law_is_number m__law_are_names)
    (es_seq (es_if (et_or (et_not (et_B (ef_isi (eb_var 0)))) (et_or (et_test (ef_op e2_ne (ef_cb1 e1_len (eb_var 0)).b (ef_int).b)) (et_or (et_not (et_B (ef_call (ea_cons (ef_op e2_ix (eb_var 0) (ef_int).b) ea_nil)))) (et_not (et_B (ef_call (ea_cons (ef_op e2_ix (eb_var 0) (ef_int).b) ea_nil))))))) (es_ret ef_bl) es_next)
  (es_ret (ef_andV (ef_call (ea_cons (ef_op e2_ix (eb_var 0) (ef_int).b) ea_nil)) (ef_call (ea_cons (ef_op e2_ix (eb_var 0) (ef_int).b) ea_nil)))))
    runD_ret h
abbrev N__law_edges : List Str := ["number", "test", "k", "some", "book", "words", "marks"]
theorem sc__law_edges : FnScope N__law_edges ["number"] (defScope s__law_edges) := ⟨rfl, rfl, rfl, by decide +kernel, rfl, by decide +kernel, by decide +kernel⟩
theorem ok__law_edges {P : Program} {w : World} {K : Fg} {mg : Str → Option Value} {base : Heap} {k : Nat} {f : Addr} {fd : FuncData} {m__law_drawn : List PyData → Option PyData} (F : Fun K "_law_edges" "_law_edges" s__law_edges f fd) (B : BI mg) (c__law_drawn : Cal P w K mg base (k) "_law_drawn" ["number", "k"] m__law_drawn) :
    FnOk P w K mg base CX0 (k + 1) f fd ["number"] (spD K (runD 7 1 (fb__law_edges m__law_drawn))) := by
  have nd := sc__law_edges.nd
  refine F.ok sc__law_edges (spD_len runD_len) fun cdv A outer s H vs Q E hr h => ?_
  refine ⟨_, (pss_cons (ps_set (i := 1) nd rfl (Or.inl rfl) (pe_tupF (pa_cons pe_str (pa_cons (pe_slice sl_str pe_str po_none (po_some (pe_op (op_addK K rfl) pe_int (pe_op op_mod (pv 0) pe_int)))) pa_nil))))
  (pss_cons (ps_for PassesOwn.never rfl (pi_range1 rfl B.range (pa_cons (pe_op op_mod (pe_op op_fdiv (pv 0) pe_int) pe_int) pa_nil)) (pg_name (i := 2) nd rfl (Or.inl rfl))
  (pss_cons (ps_set (i := 3) nd rfl (Or.inl rfl) (pe_tupF (pa_cons (pe_tupF (pa_cons pe_str (pa_cons (pv 1) pa_nil))) (pa_cons (pe_tupF (pa_cons pe_str (pa_cons (pv 1) (pa_cons (pe_tupF (pa_cons pe_str pa_nil)) pa_nil)))) (pa_cons (pe_tupF (pa_cons pe_str (pa_cons (pe_tupF (pa_cons pe_str pa_nil)) (pa_cons (pv 1) pa_nil)))) (pa_cons (pe_tupF (pa_cons pe_str (pa_cons (pe_tupF (pa_cons pe_str pa_nil)) (pa_cons (pv 1) pa_nil)))) pa_nil))))))
  (pss_one (ps_set (i := 1) nd rfl (Or.inl rfl) (pe_ix (ix_K K rfl) (pv 3) (pe_op op_mod (pe_op op_fdiv (pe_cal c__law_drawn hr (by rfl) (pa_cons (pv 0) (pa_cons (pv 2) pa_nil))) pe_int) pe_int) (fun _ _ => rfl))))))
  (pss_cons (ps_set (i := 4) nd rfl (Or.inl rfl) (pe_tupF (pa_cons (pe_tupF (pa_cons pe_str (pa_cons (pe_tupF (pa_cons (pe_tupF (pa_cons (pv 1) (pa_cons (pe_tupF (pa_cons (pe_tupF (pa_cons pe_str pa_nil)) pa_nil)) pa_nil))) pa_nil)) pa_nil))) pa_nil)))
  (pss_cons (ps_set (i := 5) nd rfl (Or.inl rfl) (pe_slice (sl_K K rfl) (pe_tupF (pa_cons pe_str (pa_cons pe_str (pa_cons pe_str (pa_cons pe_str pa_nil))))) po_none (po_some (pe_op (op_addK K rfl) pe_int (pe_op op_mod (pe_op op_fdiv (pv 0) pe_int) pe_int)))))
  (pss_cons (ps_set (i := 6) nd rfl (Or.inl rfl) (pe_slice (sl_K K rfl) (pe_tupF (pa_cons pe_str (pa_cons pe_str (pa_cons pe_str (pa_cons pe_str pa_nil))))) po_none (po_some (pe_op (op_addK K rfl) pe_int (pe_op op_mod (pe_op op_fdiv (pv 0) pe_int) pe_int)))))
  (pss_one (ps_ret (pe_tupF (pa_cons (pv 4) (pa_cons (pe_tupF (pa_cons pe_str (pa_cons (pv 5) (pa_cons (pe_op (op_addK K rfl) pe_int (pe_op op_mod (pe_op op_fdiv (pv 0) pe_int) pe_int)) (pa_cons (pv 6) pa_nil))))) pa_nil)))))))))), ?_⟩
  exact body_ok (N := N__law_edges) (fb := fb__law_edges m__law_drawn)
    (es_seq (es_asg (i := 1) (ef_tup (ea_cons ef_str (ea_cons (ef_slS (ef_str).b eo_none (eo_some (ef_op e2_add (ef_int).b (ef_op e2_mod (eb_var 0) (ef_int).b).b))) ea_nil))))
  (es_seq (es_for (ei_rng1 (ea_cons (ef_op e2_mod (ef_op e2_fdiv (eb_var 0) (ef_int).b).b (ef_int).b) ea_nil)) (eg_name 2)
  (es_seq (es_asg (i := 3) (ef_tup (ea_cons (ef_tup (ea_cons ef_str (ea_cons (ef_var 1) ea_nil))) (ea_cons (ef_tup (ea_cons ef_str (ea_cons (ef_var 1) (ea_cons (ef_tup (ea_cons ef_str ea_nil)) ea_nil)))) (ea_cons (ef_tup (ea_cons ef_str (ea_cons (ef_tup (ea_cons ef_str ea_nil)) (ea_cons (ef_var 1) ea_nil)))) (ea_cons (ef_tup (ea_cons ef_str (ea_cons (ef_tup (ea_cons ef_str ea_nil)) (ea_cons (ef_var 1) ea_nil)))) ea_nil))))))
  (es_asg (i := 1) (ef_op e2_ix (eb_var 3) (ef_op e2_mod (ef_op e2_fdiv (ef_call (ea_cons (ef_var 0) (ea_cons (ef_var 2) ea_nil))).b (ef_int).b).b (ef_int).b).b))))
  (es_seq (es_asg (i := 4) (ef_tup (ea_cons (ef_tup (ea_cons ef_str (ea_cons (ef_tup (ea_cons (ef_tup (ea_cons (ef_var 1) (ea_cons (ef_tup (ea_cons (ef_tup (ea_cons ef_str ea_nil)) ea_nil)) ea_nil))) ea_nil)) ea_nil))) ea_nil)))
  (es_seq (es_asg (i := 5) (ef_sl (ef_tup (ea_cons ef_str (ea_cons ef_str (ea_cons ef_str (ea_cons ef_str ea_nil))))).b eo_none (eo_some (ef_op e2_add (ef_int).b (ef_op e2_mod (ef_op e2_fdiv (eb_var 0) (ef_int).b).b (ef_int).b).b))))
  (es_seq (es_asg (i := 6) (ef_sl (ef_tup (ea_cons ef_str (ea_cons ef_str (ea_cons ef_str (ea_cons ef_str ea_nil))))).b eo_none (eo_some (ef_op e2_add (ef_int).b (ef_op e2_mod (ef_op e2_fdiv (eb_var 0) (ef_int).b).b (ef_int).b).b))))
  (es_ret (ef_tup (ea_cons (ef_var 4) (ea_cons (ef_tup (ea_cons ef_str (ea_cons (ef_var 5) (ea_cons (ef_op e2_add (ef_int).b (ef_op e2_mod (ef_op e2_fdiv (eb_var 0) (ef_int).b).b (ef_int).b).b) (ea_cons (ef_var 6) ea_nil))))) ea_nil)))))))))
    runD_ret h
abbrev N__law_places_in : List Str := ["bent_one", "bent_way", "bent_ways", "bent_at", "bent_part"]
def fb__law_places_in_b1 (m__law_places_in : List PyData → Option PyData) : Rho → Option Res := fun ρ =>
  asgR 2 ρ (bnd2 (gb 2 ρ) (((bnd2 (gv 4 ρ) ((bnd2 (bnd2 (gb 1 ρ) (((bnd2 (gv 3 ρ) (some []) consD)).bind tupD) addD) (some []) consD)) consD)).bind m__law_places_in) addD)
def fb__law_places_in (m__law_places_in : List PyData → Option PyData) : Rho → Option Res := fun ρ =>
  seqR (asgR 2 ρ (((bnd2 (gv 1 ρ) (some []) consD)).bind lstD)) fun ρ =>
  seqR (ifR (((gb 0 ρ).bind (isiD "tuple")).bind asB) (forR ((gv 0 ρ).bind enumD) (tgT 2 (tgC tg1 (tgC tg1 tgN))) [3, 4] (fb__law_places_in_b1 m__law_places_in) ρ) (some (.nx ρ))) fun ρ =>
  retR (gv 2 ρ)
theorem sc__law_places_in : FnScope N__law_places_in ["bent_one", "bent_way"] (defScope s__law_places_in) := ⟨rfl, rfl, rfl, by decide +kernel, rfl, by decide +kernel, by decide +kernel⟩
theorem ok__law_places_in {P : Program} {w : World} {K : Fg} {mg : Str → Option Value} {base : Heap} {k : Nat} {f : Addr} {fd : FuncData} {m__law_places_in : List PyData → Option PyData} (F : Fun K "_law_places_in" "_law_places_in" s__law_places_in f fd) (B : BI mg) (c__law_places_in : Cal P w K mg base (k) "_law_places_in" ["bent_one", "bent_way"] m__law_places_in) :
    FnOk P w K mg base CX0 (k + 1) f fd ["bent_one", "bent_way"] (spD K (runD 5 2 (fb__law_places_in m__law_places_in))) := by
  have nd := sc__law_places_in.nd
  refine F.ok sc__law_places_in (spD_len runD_len) fun cdv A outer s H vs Q E hr h => ?_
  refine ⟨_, (pss_cons (ps_set (i := 2) nd rfl (Or.inl rfl) (pe_lst (pa_cons (pv 1) pa_nil)))
  (pss_cons (ps_if (pt_val (pe_callB (call_isK K rfl) (by rfl) B.isinstance bt_isinstance (pa_cons (pv 0) (pa_cons (pe_bltn (v := .ty "tuple") (by rfl) B.tuple bt_tuple rfl) pa_nil)))) (pss_one (ps_for PassesOwn.never rfl (pi_enumK K rfl (by rfl) B.enumerate (pa_cons (pv 0) pa_nil)) (pg_tup rfl (pgs_cons (pg_name (i := 3) nd rfl (Or.inl rfl)) (pgs_cons (pg_name (i := 4) nd rfl (Or.inl rfl)) pgs_nil)))
  (pss_one (ps_set (i := 2) nd rfl (Or.inl rfl) (pe_op (op_addK K rfl) (pv 2) (pe_cal c__law_places_in hr (by rfl) (pa_cons (pv 4) (pa_cons (pe_op (op_addK K rfl) (pv 1) (pe_tupF (pa_cons (pv 3) pa_nil))) pa_nil)))))))) pss_nil)
  (pss_one (ps_ret (pv 2))))), ?_⟩
  exact body_ok (N := N__law_places_in) (fb := fb__law_places_in m__law_places_in)
    (es_seq (es_asg (i := 2) (ef_lst (ea_cons (ef_var 1) ea_nil)))
  (es_seq (es_if (et_B (ef_isi (eb_var 0))) (es_for (ei_enum (ef_var 0)) (eg_tup (egs_cons (eg_name 3) (egs_cons (eg_name 4) egs_nil)))
  (es_asg (i := 2) (ef_op e2_add (eb_var 2) (ef_call (ea_cons (ef_var 4) (ea_cons (ef_op e2_add (eb_var 1) (ef_tup (ea_cons (ef_var 3) ea_nil)).b) ea_nil))).b))) es_next)
  (es_ret (ef_var 2))))
    runD_ret h
abbrev N__law_otherwise : List Str := ["bent_one", "bent_number", "bent_some"]
def fb__law_otherwise : Rho → Option Res := fun ρ =>
  seqR (ifR (((gb 0 ρ).bind (isiD "tuple")).bind asB) (seqR (asgR 2 ρ (((bnd2 ((gb 0 ρ).bind listD) ((bnd2 ((gb 0 ρ).bind listD) ((bnd2 (bnd2 (gb 0 ρ) ((gb 0 ρ).bind fun d => bnd2 (some none) (partI (some (.int 1))) (slD d)) addD) (some []) consD)) consD)) consD)).bind lstD)) fun ρ =>
  retR (bnd2 (bnd2 (gb 2 ρ) (((bnd2 ((gb 0 ρ).bind fun d => bnd2 (partI (some (.int 1))) (some none) (slD d)) ((bnd2 (((bnd2 (gv 0 ρ) (some []) consD)).bind lstD) (some []) consD)) consD)).bind lstD) addD) (bnd2 (gb 1 ρ) (some (.int 5)) modD) ixD)) (some (.nx ρ))) fun ρ =>
  seqR (ifR (((gb 0 ρ).bind (isiD "bool")).bind asB) (retR (bnd2 (((bnd2 ((gb 0 ρ).bind intD) ((bnd2 (some .none) ((bnd2 ((gb 0 ρ).bind strD) (some []) consD)) consD)) consD)).bind lstD) (bnd2 (gb 1 ρ) (some (.int 3)) modD) ixD)) (some (.nx ρ))) fun ρ =>
  seqR (ifR (((gb 0 ρ).bind (isiD "int")).bind asB) (seqR (asgR 2 ρ (((bnd2 (some (.bool true)) ((bnd2 (some .none) ((bnd2 ((gb 0 ρ).bind strD) ((bnd2 (((bnd2 (gv 0 ρ) (some []) consD)).bind tupD) (some []) consD)) consD)) consD)) consD)).bind lstD)) fun ρ =>
  retR (bnd2 (bnd2 (gb 2 ρ) (((bnd2 (bnd2 ((some (.int 1)).bind negD) (gb 0 ρ) subD) (some []) consD)).bind lstD) addD) (bnd2 (gb 1 ρ) (some (.int 5)) modD) ixD)) (some (.nx ρ))) fun ρ =>
  retR (bnd2 (((bnd2 (some .none) ((bnd2 (((bnd2 (gv 0 ρ) (some []) consD)).bind tupD) ((bnd2 (((bnd2 (gv 0 ρ) (some []) consD)).bind lstD) ((bnd2 (some (.str "")) ((bnd2 (some (.int 0)) (some []) consD)) consD)) consD)) consD)) consD)).bind lstD) (bnd2 (gb 1 ρ) (some (.int 5)) modD) ixD)
theorem sc__law_otherwise : FnScope N__law_otherwise ["bent_one", "bent_number"] (defScope s__law_otherwise) := ⟨rfl, rfl, rfl, by decide +kernel, rfl, by decide +kernel, by decide +kernel⟩
theorem ok__law_otherwise {P : Program} {w : World} {K : Fg} {mg : Str → Option Value} {base : Heap} {k : Nat} {f : Addr} {fd : FuncData} (F : Fun K "_law_otherwise" "_law_otherwise" s__law_otherwise f fd) (B : BI mg) :
    FnOk P w K mg base CX0 (k + 1) f fd ["bent_one", "bent_number"] (spD K (runD 3 2 (fb__law_otherwise))) := by
  have nd := sc__law_otherwise.nd
  refine F.ok sc__law_otherwise (spD_len runD_len) fun cdv A outer s H vs Q E hr h => ?_
  refine ⟨_, (pss_cons (ps_if (pt_val (pe_callB (call_isK K rfl) (by rfl) B.isinstance bt_isinstance (pa_cons (pv 0) (pa_cons (pe_bltn (v := .ty "tuple") (by rfl) B.tuple bt_tuple rfl) pa_nil)))) (pss_cons (ps_set (i := 2) nd rfl (Or.inl rfl) (pe_lst (pa_cons (pe_callTy (call_listK K rfl) (by rfl) B.list bt_list (pa_cons (pv 0) pa_nil)) (pa_cons (pe_callTy (call_listK K rfl) (by rfl) B.list bt_list (pa_cons (pv 0) pa_nil)) (pa_cons (pe_op (op_addK K rfl) (pv 0) (pe_slice (sl_K K rfl) (pv 0) po_none (po_some pe_int))) pa_nil)))))
  (pss_one (ps_ret (pe_ix (ix_K K rfl) (pe_op (op_addK K rfl) (pv 2) (pe_lst (pa_cons (pe_slice (sl_K K rfl) (pv 0) (po_some pe_int) po_none) (pa_cons (pe_lst (pa_cons (pv 0) pa_nil)) pa_nil)))) (pe_op op_mod (pv 1) pe_int) (fun _ _ => rfl))))) pss_nil)
  (pss_cons (ps_if (pt_val (pe_callB (call_isK K rfl) (by rfl) B.isinstance bt_isinstance (pa_cons (pv 0) (pa_cons (pe_bltn (v := .ty "bool") (by rfl) B.bool bt_bool rfl) pa_nil)))) (pss_one (ps_ret (pe_ix (ix_K K rfl) (pe_lst (pa_cons (pe_callTy call_intA (by rfl) B.int bt_int (pa_cons (pv 0) pa_nil)) (pa_cons pe_non (pa_cons (pe_callTy call_strA (by rfl) B.str bt_str (pa_cons (pv 0) pa_nil)) pa_nil)))) (pe_op op_mod (pv 1) pe_int) (fun _ _ => rfl)))) pss_nil)
  (pss_cons (ps_if (pt_val (pe_callB (call_isK K rfl) (by rfl) B.isinstance bt_isinstance (pa_cons (pv 0) (pa_cons (pe_bltn (v := .ty "int") (by rfl) B.int bt_int rfl) pa_nil)))) (pss_cons (ps_set (i := 2) nd rfl (Or.inl rfl) (pe_lst (pa_cons pe_bl (pa_cons pe_non (pa_cons (pe_callTy call_strA (by rfl) B.str bt_str (pa_cons (pv 0) pa_nil)) (pa_cons (pe_tupF (pa_cons (pv 0) pa_nil)) pa_nil))))))
  (pss_one (ps_ret (pe_ix (ix_K K rfl) (pe_op (op_addK K rfl) (pv 2) (pe_lst (pa_cons (pe_op op_sub (pe_un un_neg pe_int) (pv 0)) pa_nil))) (pe_op op_mod (pv 1) pe_int) (fun _ _ => rfl))))) pss_nil)
  (pss_one (ps_ret (pe_ix (ix_K K rfl) (pe_lst (pa_cons pe_non (pa_cons (pe_tupF (pa_cons (pv 0) pa_nil)) (pa_cons (pe_lst (pa_cons (pv 0) pa_nil)) (pa_cons pe_str (pa_cons pe_int pa_nil)))))) (pe_op op_mod (pv 1) pe_int) (fun _ _ => rfl))))))), ?_⟩
  exact body_ok (N := N__law_otherwise) (fb := fb__law_otherwise)
    (es_seq (es_if (et_B (ef_isi (eb_var 0))) (es_seq (es_asg (i := 2) (ef_lst (ea_cons (ef_cb1 e1_list (eb_var 0)) (ea_cons (ef_cb1 e1_list (eb_var 0)) (ea_cons (ef_op e2_add (eb_var 0) (ef_sl (eb_var 0) eo_none (eo_some ef_int)).b) ea_nil)))))
  (es_ret (ef_op e2_ix (ef_op e2_add (eb_var 2) (ef_lst (ea_cons (ef_sl (eb_var 0) (eo_some ef_int) eo_none) (ea_cons (ef_lst (ea_cons (ef_var 0) ea_nil)) ea_nil))).b).b (ef_op e2_mod (eb_var 1) (ef_int).b).b))) es_next)
  (es_seq (es_if (et_B (ef_isi (eb_var 0))) (es_ret (ef_op e2_ix (ef_lst (ea_cons (ef_cb1 e1_int (eb_var 0)) (ea_cons ef_non (ea_cons (ef_cb1 e1_str (eb_var 0)) ea_nil)))).b (ef_op e2_mod (eb_var 1) (ef_int).b).b)) es_next)
  (es_seq (es_if (et_B (ef_isi (eb_var 0))) (es_seq (es_asg (i := 2) (ef_lst (ea_cons ef_bl (ea_cons ef_non (ea_cons (ef_cb1 e1_str (eb_var 0)) (ea_cons (ef_tup (ea_cons (ef_var 0) ea_nil)) ea_nil))))))
  (es_ret (ef_op e2_ix (ef_op e2_add (eb_var 2) (ef_lst (ea_cons (ef_op e2_sub (ef_un e1_neg (ef_int).b).b (eb_var 0)) ea_nil)).b).b (ef_op e2_mod (eb_var 1) (ef_int).b).b))) es_next)
  (es_ret (ef_op e2_ix (ef_lst (ea_cons ef_non (ea_cons (ef_tup (ea_cons (ef_var 0) ea_nil)) (ea_cons (ef_lst (ea_cons (ef_var 0) ea_nil)) (ea_cons ef_str (ea_cons ef_int ea_nil)))))).b (ef_op e2_mod (eb_var 1) (ef_int).b).b)))))
    runD_ret h
abbrev N__law_put_at : List Str := ["bent_one", "bent_way", "bent_by", "bent_at", "bent_part"]
def fb__law_put_at (f c : Addr) (q : Str) (mb mp : List PyData → Option PyData) : Rho → Option Res := fun ρ =>
  seqR (ifR ((bnd2 (gb 1 ρ) ((some []).bind tupD) eqD).bind asB) (retR (byD 2 f c q mb (fun ρ => bnd2 (gv 0 ρ) (some []) consD) ρ)) (some (.nx ρ))) fun ρ =>
  seqR (asgR 3 ρ (bnd2 (gb 1 ρ) (some (.int 0)) ixD)) fun ρ =>
  seqR (asgR 4 ρ (byD 2 f c q mp (fun ρ => bnd2 (bnd2 (gb 0 ρ) (gb 3 ρ) ixD) (bnd2 ((gb 1 ρ).bind fun d => bnd2 (partI (some (.int 1))) (some none) (slD d)) (some []) consD) consD) ρ)) fun ρ =>
  retR (bnd2 (bnd2 ((gb 0 ρ).bind fun d => bnd2 (some none) (partI (gv 3 ρ)) (slD d)) (((bnd2 (gv 4 ρ) (some []) consD)).bind tupD) addD) ((gb 0 ρ).bind fun d => bnd2 (partI (bnd2 (gb 3 ρ) (some (.int 1)) addD)) (some none) (slD d)) addD)
theorem sc__law_put_at : FnScope N__law_put_at ["bent_one", "bent_way", "bent_by"] (defScope s__law_put_at) := ⟨rfl, rfl, rfl, by decide +kernel, rfl, by decide +kernel, by decide +kernel⟩
section
open PySem.Spec PyProof.Rows LamX NdefX
def m_put (mb : List PyData → Option PyData) : Nat → List PyData → Option PyData
  | 0, _ => none
  | n + 1, ds => match ds with
    | [a, b] => retD (fb__law_put_at 0 0 "" mb (m_put mb n) [.val a, .val b, .fn 0 0 "", .no, .no])
    | _ => none
theorem by_same {f c : Addr} {q : Str} {m : List PyData → Option PyData} {fr : Rho → Option (List PyData)} {x0 x1 x3 x4 : Sl} : byD 2 f c q m fr [x0, x1, .fn f c q, x3, x4] = (fr [x0, x1, .fn f c q, x3, x4]).bind m := by
  unfold byD fnAt
  simp
theorem put_same (f c : Addr) (q : Str) (mb mp : List PyData → Option PyData) (a b : PyData) : retD (fb__law_put_at f c q mb mp [.val a, .val b, .fn f c q, .no, .no]) = retD (fb__law_put_at 0 0 "" mb mp [.val a, .val b, .fn 0 0 "", .no, .no]) := by
  unfold fb__law_put_at
  rw [by_same, by_same]
  show retD (seqR (ifR _ _ (some (.nx [.val a, .val b, .fn f c q, .no, .no]))) _) = retD (seqR (ifR _ _ (some (.nx [.val a, .val b, .fn 0 0 "", .no, .no]))) _)
  cases hc : (bnd2 (gb 1 [.val a, .val b, .fn f c q, .no, .no]) ((some []).bind tupD) eqD).bind asB with
  | none =>
    have hc' : (bnd2 (gb 1 [.val a, .val b, .fn 0 0 "", .no, .no]) ((some []).bind tupD) eqD).bind asB = none := hc
    rw [hc']
    rfl
  | some k =>
    have hc' : (bnd2 (gb 1 [.val a, .val b, .fn 0 0 "", .no, .no]) ((some []).bind tupD) eqD).bind asB = some k := hc
    rw [hc']
    cases k with
    | true =>
      show retD (seqR (retR (mb [a])) _) = retD (seqR (retR (mb [a])) _)
      cases mb [a] <;> rfl
    | false =>
      show retD (seqR (asgR 3 [.val a, .val b, .fn f c q, .no, .no] (ixD b (.int 0))) _) = retD (seqR (asgR 3 [.val a, .val b, .fn 0 0 "", .no, .no] (ixD b (.int 0))) _)
      cases ixD b (.int 0) with
      | none => rfl
      | some d =>
        show retD (seqR (asgR 4 [.val a, .val b, .fn f c q, .val d, .no] (byD 2 f c q mp _ [.val a, .val b, .fn f c q, .val d, .no])) _) = retD (seqR (asgR 4 [.val a, .val b, .fn 0 0 "", .val d, .no] (byD 2 0 0 "" mp _ [.val a, .val b, .fn 0 0 "", .val d, .no])) _)
        rw [by_same, by_same]
        show retD (seqR (asgR 4 _ ((bnd2 (ixD a d) _ consD).bind mp)) _) = retD (seqR (asgR 4 _ ((bnd2 (ixD a d) _ consD).bind mp)) _)
        show retD (seqR (asgR 4 _ ((bnd2 (ixD a d) (bnd2 (slD b (some 1) none) (some []) consD) consD).bind mp)) _) = retD (seqR (asgR 4 _ ((bnd2 (ixD a d) (bnd2 (slD b (some 1) none) (some []) consD) consD).bind mp)) _)
        cases (bnd2 (ixD a d) (bnd2 (slD b (some 1) none) (some []) consD) consD).bind mp with
        | none => rfl
        | some r => rfl
theorem put_goes {P : Program} {w : World} {K : Fg} {mg : Str → Option Value} {base h : Heap} (X : K.In h) (G : h.Ns mainGlobals mg) (B : BI mg) {f : Addr} {F : NF} {bd : Expr} {pm ctv : Value} {fr : List Str} {ws : List (Option V)} {mb : List PyData → Option PyData} {k0 : Nat} {g : Addr} {fd : FuncData} (Fp : Fun K "_law_put_at" "_law_put_at" s__law_put_at g fd) (ag : PySem.W.nsIn K mainGlobals "_law_put_at" = some (some (.ref g)))
    (LG : LamGo P w K mg base k0 f F bd pm ctv fr ws mb) : ∀ n, PutGo P w K mg base (k0 + n) g f F bd pm ctv fr ws (m_put mb n)
  | 0 => PutGo.none
  | n + 1 => by
    have nd := sc__law_put_at.nd
    refine put_go (N := N__law_put_at) (fb := fb__law_put_at f F.c F.qual mb (m_put mb n)) Fp sc__law_put_at rfl (fun _ _ _ _ _ _ us hl => match us, hl with | [_, _, _], _ => rfl) (fun cdv A outer s H hr L => ?_) (fun ds d hd => ?_)
    · refine ⟨_, (pss_cons (ps_if (pt_cmpR (op_eqK K rfl hr.units) (pv 1) (pe_tupF pa_nil) (nomark _)) (pss_one (ps_ret (pe_by (i := 2) L (LG.mono (Nat.le_add_right k0 n)) hr rfl (Or.inl rfl) (pa_cons (pv 0) pa_nil)))) pss_nil)
  (pss_cons (ps_set (i := 3) nd rfl (Or.inl rfl) (pe_ix (ix_K K rfl) (pv 1) pe_int (fun _ _ => rfl)))
  (pss_cons (ps_set (i := 4) nd rfl (Or.inl rfl) (pe_put (i := 2) L (put_goes X G B Fp ag LG n) hr (by rfl) (PySem.W.mg_of X G ag) Fp.kp (pa_cons (pe_ix (ix_K K rfl) (pv 0) (pv 3) (fun _ _ => rfl)) (pa_cons (pe_slice (sl_K K rfl) (pv 1) (po_some pe_int) po_none) (pa_cons (pv 2) pa_nil)))))
  (pss_one (ps_ret (pe_op (op_addK K rfl) (pe_op (op_addK K rfl) (pe_slice (sl_K K rfl) (pv 0) po_none (po_some (pv 3))) (pe_tupF (pa_cons (pv 4) pa_nil))) (pe_slice (sl_K K rfl) (pv 0) (po_some (pe_op (op_addK K rfl) (pv 3) pe_int)) po_none))))))), ?_⟩
      exact (es_seq (es_if (et_test (ef_op e2_eq (eb_var 1) (ef_tup ea_nil).b)) (es_ret (ef_by (ea_cons (ef_var 0) ea_nil))) es_next)
  (es_seq (es_asg (i := 3) (ef_op e2_ix (eb_var 1) (ef_int).b))
  (es_seq (es_asg (i := 4) (ef_put (ef_op e2_ix (eb_var 0) (eb_var 3)) (ef_sl (eb_var 1) (eo_some ef_int) eo_none)))
  (es_ret (ef_op e2_add (ef_op e2_add (ef_sl (eb_var 0) eo_none (eo_some (ef_var 3))).b (ef_tup (ea_cons (ef_var 4) ea_nil)).b).b (ef_sl (eb_var 0) (eo_some (ef_op e2_add (eb_var 3) (ef_int).b)) eo_none).b)))))
    · match ds, hd with
      | [a, b], hd => exact ⟨a, b, rfl, (put_same _ _ _ _ _ a b).trans hd⟩
abbrev N__law_spoilt : List Str := ["thing", "number", "deep", "bent_ways", "bent_way", "?t"]
def lamD (m_oth : List PyData → Option PyData) : Rho → Option PyData := fun ρ => ((bnd2 (gv 0 ρ) ((bnd2 (bnd2 (gb 1 ρ) (some (.int 4096)) fdivD) (some []) consD)) consD)).bind m_oth
def m_lam (m_oth : List PyData → Option PyData) (x : Int) : List PyData → Option PyData
  | [a] => lamD m_oth [.val a, .val (.int x)]
  | _ => none
def fb__law_spoilt (m_pl : List PyData → Option PyData) (m_pu : Int → List PyData → Option PyData) (T : Addr) (q : Str) : Rho → Option Res := fun ρ =>
  seqR (asgR 3 ρ ((bnd2 (gv 0 ρ) ((bnd2 ((some []).bind tupD) (some []) consD)) consD).bind m_pl)) fun ρ =>
  seqR (asgR 4 ρ (bnd2 (gb 3 ρ) (bnd2 (gb 1 ρ) ((gb 3 ρ).bind lenD) modD) ixD)) fun ρ =>
  rexX (lamPutX 5 T q 1 m_pu (fun ρ => gv 0 ρ) (fun ρ => gv 4 ρ) ρ)
theorem sc__law_spoilt : FnScope N__law_spoilt ["thing", "number", "deep"] (defScope s__law_spoilt) := ⟨rfl, rfl, rfl, by decide +kernel, rfl, by decide +kernel, by decide +kernel⟩
theorem ok__law_spoilt {P : Program} {w : World} {K : Fg} {mg : Str → Option Value} {base : Heap} {k0 n : Nat} {f : Addr} {fd : FuncData} {m_pl m_oth : List PyData → Option PyData} {T : Addr} {q : Str} (F : Fun K "_law_spoilt" "_law_spoilt" s__law_spoilt f fd) (af : PySem.W.nsIn K mainGlobals "_law_spoilt" = some (some (.ref f))) (B : BI mg) {h0 : Heap} (KX : K.In h0) (NG : h0.Ns mainGlobals mg)
    (TB : LamX.TabB base mg (codeX K "_law_spoilt") T) (hq : q = lamQn "_law_spoilt") (d_put : Dn K "_law_put_at" s__law_put_at) (c_pl : Cal P w K mg base (k0 + 1 + n) "_law_places_in" ["bent_one", "bent_way"] m_pl) (c_oth : Cal P w K mg base k0 "_law_otherwise" ["bent_one", "bent_number"] m_oth) :
    FnOk P w K mg base CX0 (k0 + 1 + n + 1) f fd ["thing", "number", "deep"] (spT K T q (runT 5 3 T q (fb__law_spoilt m_pl (fun x => m_put (m_lam m_oth x) n) T q))) := by
  have nd := sc__law_spoilt.nd
  obtain ⟨gp, fdp, Fp, ap⟩ := d_put.ex
  subst hq
  refine maker_ok F af sc__law_spoilt (fun vs H Q E h => spT_len h) fun A outer s H vs Q E hr h => ?_
  refine ⟨_, pss_ghost (i := 5) (x := "?t") (v := .ref T) rfl (notVis (sc := defScope s__law_spoilt) (by decide +kernel)) (pss_cons (ps_set (i := 3) nd rfl (Or.inl rfl) (pe_cal c_pl hr (by rfl) (pa_cons (pv 0) (pa_cons (pe_tupF pa_nil) pa_nil))))
    (pss_cons (ps_set (i := 4) nd rfl (Or.inl rfl) (pe_ix (ix_K K rfl) (pv 3) (pe_op op_mod (pv 1) (pe_callB (call_lenK K rfl) (by rfl) B.len bt_len (pa_cons (pv 3) pa_nil))) (fun _ _ => rfl)))
    (pss_one (ps_ret (pe_lamPut (y := "number") (j := 1) (k := k0 + 1 + n) (m := fun x => m_put (m_lam m_oth x) n) (fun _ => rfl) (by rfl) (PySem.W.mg_of KX NG ap) Fp.kp (pv 0) (pv 4) TB rfl hr rfl (free_by (a := defScope s__law_spoilt) (by decide +kernel)) (by decide +kernel) rfl
      (fun f' c' pm ctv x => put_goes KX NG B Fp ap (lam_go (y := "bent_part") (z := "number") (n := x) (k := k0) (fe := lamD m_oth) (nscope_by (sc := { kind := .function, names := [("bent_part", .local), ("number", .free), ("_law_otherwise", .globalImplicit)], isGenerator := false, isCoroutine := false }) (by decide +kernel)) (fun us hl => match us, hl with | [_], _ => rfl) (fun A2 outer2 s2 H2 hr2 => ⟨_, pe_cal c_oth hr2 (by rfl) (pa_cons (pv 0) (pa_cons (pe_op op_fdiv (pv 1) pe_int) pa_nil)), ef_call (ea_cons (ef_var 0) (ea_cons (ef_op e2_fdiv (eb_var 1) (ef_int).b) ea_nil))⟩) (fun ds d hd => match ds, hd with | [a], hd => ⟨a, rfl, hd⟩)) n)))))), ?_⟩
  exact body_T (N := N__law_spoilt) (n := 5) (k := 3) (fb := fb__law_spoilt m_pl (fun x => m_put (m_lam m_oth x) n) T (lamQn "_law_spoilt")) rfl (by decide)
    (es_seq (es_asg (i := 3) (ef_call (ea_cons (ef_var 0) (ea_cons (ef_tup ea_nil) ea_nil))))
    (es_seq (es_asg (i := 4) (ef_op e2_ix (eb_var 3) (ef_op e2_mod (eb_var 1) (ef_cb1 e1_len (eb_var 3)).b).b))
    (es_retX (ex_lamPut (ef_var 0) (ef_var 4)))))
    h
end
abbrev N__law_once : List Str := ["script", "number", "names", "letter", "book", "rule", "more", "one", "found", "?t"]
def fb__law_once_b1 (m__law_any : List PyData → Option PyData) (m__law_swapped : List PyData → Option PyData) (m__law_letter : List PyData → Option PyData) (m__law_book : List PyData → Option PyData) (T : Addr) (q : Str) (m__law_spoilt : List PyData → Option PyData) (m__law_edges : List PyData → Option PyData) (m_is_letter : List PyData → Option PyData) (m__law_is_letter : List PyData → Option PyData) (m_is_book : List PyData → Option PyData) (m__law_is_book : List PyData → Option PyData) : Rho → Option Res := fun ρ =>
  seqR (asgR 8 ρ (((bnd2 (gv 7 ρ) (some []) consD)).bind m_is_letter)) fun ρ =>
  seqR (ifR (orB ((((gb 8 ρ).bind (isiD "bool")).bind asB).map not) ((bnd2 (gb 8 ρ) (((bnd2 (gv 7 ρ) (some []) consD)).bind m__law_is_letter) neD).bind asB)) (rexR ρ (some (.bool false))) (some (.nx ρ))) fun ρ =>
  seqR (asgR 8 ρ (((bnd2 (gv 7 ρ) (some []) consD)).bind m_is_book)) fun ρ =>
  ifR (orB ((((gb 8 ρ).bind (isiD "bool")).bind asB).map not) ((bnd2 (gb 8 ρ) (((bnd2 (gv 7 ρ) (some []) consD)).bind m__law_is_book) neD).bind asB)) (rexR ρ (some (.bool false))) (some (.nx ρ))
def fb__law_once (m__law_any : List PyData → Option PyData) (m__law_swapped : List PyData → Option PyData) (m__law_letter : List PyData → Option PyData) (m__law_book : List PyData → Option PyData) (T : Addr) (q : Str) (m__law_spoilt : List PyData → Option PyData) (m__law_edges : List PyData → Option PyData) (m_is_letter : List PyData → Option PyData) (m__law_is_letter : List PyData → Option PyData) (m_is_book : List PyData → Option PyData) (m__law_is_book : List PyData → Option PyData) : Rho → Option Res := fun ρ =>
  seqR (asgR 1 ρ (bnd2 (scrOf 0 ρ) ((some (.int 0)).bind asI) mixR)) fun ρ =>
  seqR (asgO 2 ρ (((dispP (some (.str "ann")) ((((bnd2 (bnd2 (scrOf 0 ρ) ((some (.int 7)).bind asI) mixR) ((bnd2 (some (.int 5)) (some []) consD)) consD)).bind m__law_any).map .dat) ((dispP (some (.str "hi")) ((((bnd2 (bnd2 (scrOf 0 ρ) ((some (.int 8)).bind asI) mixR) ((bnd2 (some (.int 5)) (some []) consD)) consD)).bind m__law_any).map .dat) (some []))))).bind dispO)) fun ρ =>
  seqR (putP 2 (fun ρ => some []) ρ (some (.str "sub")) (((bnd2 (bnd2 (scrOf 0 ρ) ((some (.int 9)).bind asI) mixR) ((bnd2 (some (.int 5)) (some []) consD)) consD)).bind m__law_any)) fun ρ =>
  seqR ((fun ρ => asgR 3 ρ (((bnd2 (((bnd2 (bnd2 (scrOf 0 ρ) ((some (.int 1)).bind asI) mixR) (some []) consD)).bind m__law_letter) ((bnd2 (gv 2 ρ) (some []) consD)) consD)).bind m__law_swapped)) (sealR 2 ρ)) fun ρ =>
  seqR (asgR 3 ρ (bnd2 (bnd2 ((gb 3 ρ).bind fun d => bnd2 (some none) (partI (some (.int 1))) (slD d)) (((bnd2 (((bnd2 (gb 3 ρ) (some (.int 1)) ixD).bind sortV).bind tupleD) (some []) consD)).bind tupD) addD) ((gb 3 ρ).bind fun d => bnd2 (partI (some (.int 2))) (some none) (slD d)) addD)) fun ρ =>
  seqR ((fun ρ => asgR 4 ρ (((((bnd2 (((bnd2 (bnd2 (scrOf 0 ρ) ((some (.int 2)).bind asI) mixR) (some []) consD)).bind m__law_book) ((bnd2 (gv 2 ρ) (some []) consD)) consD)).bind m__law_swapped).bind sortV).bind tupleD)) (sealR 2 ρ)) fun ρ =>
  seqR (ifR ((bnd2 (bnd2 (gb 1 ρ) (some (.int 3)) modD) (some (.int 0)) gtD).bind asB) (seqR (asgX 3 (callT 9 T q m__law_spoilt (fun ρ => (bnd2 (gv 3 ρ) ((bnd2 (bnd2 (scrOf 0 ρ) ((some (.int 3)).bind asI) mixR) ((bnd2 (bnd2 (bnd2 (gb 1 ρ) (some (.int 3)) fdivD) (some (.int 3)) modD) (some []) consD)) consD)) consD)) ρ)) fun ρ =>
  asgX 4 (callT 9 T q m__law_spoilt (fun ρ => (bnd2 (gv 4 ρ) ((bnd2 (bnd2 (scrOf 0 ρ) ((some (.int 4)).bind asI) mixR) ((bnd2 (bnd2 (bnd2 (gb 1 ρ) (some (.int 16)) fdivD) (some (.int 8)) modD) (some []) consD)) consD)) consD)) ρ)) (some (.nx ρ))) fun ρ =>
  seqR (ifR ((bnd2 (bnd2 (bnd2 (gb 1 ρ) (some (.int 128)) fdivD) (some (.int 4)) modD) (some (.int 1)) eqD).bind asB) (seqR (asgR 5 ρ (((bnd2 (((bnd2 (some (.str "not")) ((bnd2 (((bnd2 (some (.str "not")) ((bnd2 (((bnd2 (some (.str "yes")) (some []) consD)).bind tupD) (some []) consD)) consD)).bind tupD) (some []) consD)) consD)).bind tupD) ((bnd2 (bnd2 (((bnd2 (((bnd2 (some (.str "stop")) (some []) consD)).bind tupD) (some []) consD)).bind tupD) (bnd2 (bnd2 (gb 1 ρ) (some (.int 512)) fdivD) (some (.int 5)) modD) mulT) (some []) consD)) consD)).bind tupD)) fun ρ =>
  seqR (asgR 6 ρ (bnd2 (((bnd2 ((some []).bind tupD) ((bnd2 (((bnd2 (((bnd2 (some (.str "z")) ((bnd2 ((some []).bind tupD) (some []) consD)) consD)).bind tupD) (some []) consD)).bind tupD) ((bnd2 (((bnd2 (((bnd2 (some (.str "y")) ((bnd2 ((some []).bind tupD) (some []) consD)) consD)).bind tupD) ((bnd2 (((bnd2 (some (.str "z")) ((bnd2 ((some []).bind tupD) (some []) consD)) consD)).bind tupD) (some []) consD)) consD)).bind tupD) (some []) consD)) consD)) consD)).bind tupD) (bnd2 (bnd2 (gb 1 ρ) (some (.int 32768)) fdivD) (some (.int 3)) modD) ixD)) fun ρ =>
  seqR (asgR 4 ρ (bnd2 (((bnd2 (((bnd2 (some (.str "main")) ((bnd2 (bnd2 (((bnd2 (gv 5 ρ) (some []) consD)).bind tupD) (bnd2 (bnd2 (gb 1 ρ) (some (.int 4096)) fdivD) (some (.int 6)) modD) mulT) (some []) consD)) consD)).bind tupD) (some []) consD)).bind tupD) (gb 6 ρ) addD)) fun ρ =>
  ifR ((bnd2 (bnd2 (bnd2 (gb 1 ρ) (some (.int 131072)) fdivD) (some (.int 2)) modD) (some (.int 1)) eqD).bind asB) (asgR 4 ρ (bnd2 (((bnd2 (((bnd2 (some (.str "a")) ((bnd2 ((some []).bind tupD) (some []) consD)) consD)).bind tupD) (some []) consD)).bind tupD) (gb 4 ρ) addD)) (some (.nx ρ))) (some (.nx ρ))) fun ρ =>
  seqR (forR ((bnd2 (((bnd2 (gv 3 ρ) ((bnd2 (gv 4 ρ) (some []) consD)) consD)).bind tupD) (((bnd2 (bnd2 (scrOf 0 ρ) ((some (.int 10)).bind asI) mixR) (some []) consD)).bind m__law_edges) addD).bind walkD) tg1 [7] (fb__law_once_b1 m__law_any m__law_swapped m__law_letter m__law_book T q m__law_spoilt m__law_edges m_is_letter m__law_is_letter m_is_book m__law_is_book) ρ) fun ρ =>
  rexR ρ (some (.bool true))
theorem sc__law_once : FnScope N__law_once ["script"] (defScope s__law_once) := ⟨rfl, rfl, rfl, by decide +kernel, rfl, by decide +kernel, by decide +kernel⟩
theorem ok__law_once {P : Program} {w : World} {K : Fg} {mg : Str → Option Value} {base : Heap} {k : Nat} {f : Addr} {fd : FuncData} {m__law_any : List PyData → Option PyData} {m__law_swapped : List PyData → Option PyData} {m__law_letter : List PyData → Option PyData} {m__law_book : List PyData → Option PyData} {T : Addr} {q : Str} {m__law_spoilt : List PyData → Option PyData} {m__law_edges : List PyData → Option PyData} {m_is_letter : List PyData → Option PyData} {m__law_is_letter : List PyData → Option PyData} {m_is_book : List PyData → Option PyData} {m__law_is_book : List PyData → Option PyData} (F : Fun K "_law_once" "_law_once" s__law_once f fd) (B : BI mg) (c__law_mixed : CalS P w K mg base (k) "_law_mixed" ["script", "k"] (spMix K)) (c__law_any : Cal P w K mg base (k) "_law_any" ["number", "most"] m__law_any) (c__law_swapped : Cal P w K mg base (k) "_law_swapped" ["thing", "book"] m__law_swapped) (c__law_letter : Cal P w K mg base (k) "_law_letter" ["number"] m__law_letter) (c__law_book : Cal P w K mg base (k) "_law_book" ["number"] m__law_book) (c__law_spoilt : CalS P w K mg base (k) "_law_spoilt" ["thing", "number", "deep"] (spT K T q m__law_spoilt)) (c__law_edges : Cal P w K mg base (k) "_law_edges" ["number"] m__law_edges) (c_is_letter : Cal P w K mg base (k) "is_letter" ["thing"] m_is_letter) (c__law_is_letter : Cal P w K mg base (k) "_law_is_letter" ["thing"] m__law_is_letter) (c_is_book : Cal P w K mg base (k) "is_book" ["thing"] m_is_book) (c__law_is_book : Cal P w K mg base (k) "_law_is_book" ["thing"] m__law_is_book) :
    FnOk P w K mg base CX0 (k + 1) f fd ["script"] (spT K T q (runT 9 1 T q (fb__law_once m__law_any m__law_swapped m__law_letter m__law_book T q m__law_spoilt m__law_edges m_is_letter m__law_is_letter m_is_book m__law_is_book))) := by
  have nd := sc__law_once.nd
  refine F.ok sc__law_once (fun vs H Q E h => spT_len h) fun cdv A outer s H vs Q E hr h => ?_
  refine ⟨_, pss_ghost (i := 9) (x := "?t") (v := .ref T) rfl (notVis (sc := defScope s__law_once) (by decide +kernel)) (pss_cons (ps_set (i := 1) nd rfl (Or.inl rfl) (pe_cal c__law_mixed hr (by rfl) (pa_cons (pv 0) (pa_cons pe_int pa_nil))))
  (pss_cons (ps_set (i := 2) nd rfl (Or.inl rfl) (pe_disp (pps_cons pe_str (pe_cal c__law_any hr (by rfl) (pa_cons (pe_cal c__law_mixed hr (by rfl) (pa_cons (pv 0) (pa_cons pe_int pa_nil))) (pa_cons pe_int pa_nil))) (pps_cons pe_str (pe_cal c__law_any hr (by rfl) (pa_cons (pe_cal c__law_mixed hr (by rfl) (pa_cons (pv 0) (pa_cons pe_int pa_nil))) (pa_cons pe_int pa_nil))) pps_nil)) (by rfl) (by rfl) (fun z => by cases z) (by decide)))
  (pss_cons (ps_dput (hu_of hr) (pv 2) pe_str (pe_cal c__law_any hr (by rfl) (pa_cons (pe_cal c__law_mixed hr (by rfl) (pa_cons (pv 0) (pa_cons pe_int pa_nil))) (pa_cons pe_int pa_nil))) rfl)
  (pss_cons (ps_set (i := 3) nd rfl (Or.inl rfl) (pe_cal c__law_swapped hr (by rfl) (pa_cons (pe_cal c__law_letter hr (by rfl) (pa_cons (pe_cal c__law_mixed hr (by rfl) (pa_cons (pv 0) (pa_cons pe_int pa_nil))) pa_nil)) (pa_cons (pv 2) pa_nil))))
  (pss_cons (ps_set (i := 3) nd rfl (Or.inl rfl) (pe_op (op_addK K rfl) (pe_op (op_addK K rfl) (pe_slice (sl_K K rfl) (pv 3) po_none (po_some pe_int)) (pe_tupF (pa_cons (pe_callTy (call_tupleK K rfl) (by rfl) B.tuple bt_tuple (pa_cons (pe_callB (cr_sortV K rfl hr.units) (by rfl) B.sorted bt_sorted (pa_cons (pe_ix (ix_K K rfl) (pv 3) pe_int (fun _ _ => rfl)) pa_nil)) pa_nil)) pa_nil))) (pe_slice (sl_K K rfl) (pv 3) (po_some pe_int) po_none)))
  (pss_cons (ps_set (i := 4) nd rfl (Or.inl rfl) (pe_callTy (call_tupleK K rfl) (by rfl) B.tuple bt_tuple (pa_cons (pe_callB (cr_sortV K rfl hr.units) (by rfl) B.sorted bt_sorted (pa_cons (pe_cal c__law_swapped hr (by rfl) (pa_cons (pe_cal c__law_book hr (by rfl) (pa_cons (pe_cal c__law_mixed hr (by rfl) (pa_cons (pv 0) (pa_cons pe_int pa_nil))) pa_nil)) (pa_cons (pv 2) pa_nil))) pa_nil)) pa_nil)))
  (pss_cons (ps_if (pt_cmpR op_gt0 (pe_op op_mod (pv 1) pe_int) pe_int (nomark _)) (pss_cons (ps_set (i := 3) nd rfl (Or.inl rfl) (pe_cal c__law_spoilt hr (by rfl) (pa_cons (pv 3) (pa_cons (pe_cal c__law_mixed hr (by rfl) (pa_cons (pv 0) (pa_cons pe_int pa_nil))) (pa_cons (pe_op op_mod (pe_op op_fdiv (pv 1) pe_int) pe_int) pa_nil)))))
  (pss_one (ps_set (i := 4) nd rfl (Or.inl rfl) (pe_cal c__law_spoilt hr (by rfl) (pa_cons (pv 4) (pa_cons (pe_cal c__law_mixed hr (by rfl) (pa_cons (pv 0) (pa_cons pe_int pa_nil))) (pa_cons (pe_op op_mod (pe_op op_fdiv (pv 1) pe_int) pe_int) pa_nil))))))) pss_nil)
  (pss_cons (ps_if (pt_cmpR (op_eqK K rfl hr.units) (pe_op op_mod (pe_op op_fdiv (pv 1) pe_int) pe_int) pe_int (nomark _)) (pss_cons (ps_set (i := 5) nd rfl (Or.inl rfl) (pe_tupF (pa_cons (pe_tupF (pa_cons pe_str (pa_cons (pe_tupF (pa_cons pe_str (pa_cons (pe_tupF (pa_cons pe_str pa_nil)) pa_nil))) pa_nil))) (pa_cons (pe_op (op_mulT K rfl) (pe_tupF (pa_cons (pe_tupF (pa_cons pe_str pa_nil)) pa_nil)) (pe_op op_mod (pe_op op_fdiv (pv 1) pe_int) pe_int)) pa_nil))))
  (pss_cons (ps_set (i := 6) nd rfl (Or.inl rfl) (pe_ix (ix_K K rfl) (pe_tupF (pa_cons (pe_tupF pa_nil) (pa_cons (pe_tupF (pa_cons (pe_tupF (pa_cons pe_str (pa_cons (pe_tupF pa_nil) pa_nil))) pa_nil)) (pa_cons (pe_tupF (pa_cons (pe_tupF (pa_cons pe_str (pa_cons (pe_tupF pa_nil) pa_nil))) (pa_cons (pe_tupF (pa_cons pe_str (pa_cons (pe_tupF pa_nil) pa_nil))) pa_nil))) pa_nil)))) (pe_op op_mod (pe_op op_fdiv (pv 1) pe_int) pe_int) (fun _ _ => rfl)))
  (pss_cons (ps_set (i := 4) nd rfl (Or.inl rfl) (pe_op (op_addK K rfl) (pe_tupF (pa_cons (pe_tupF (pa_cons pe_str (pa_cons (pe_op (op_mulT K rfl) (pe_tupF (pa_cons (pv 5) pa_nil)) (pe_op op_mod (pe_op op_fdiv (pv 1) pe_int) pe_int)) pa_nil))) pa_nil)) (pv 6)))
  (pss_one (ps_if (pt_cmpR (op_eqK K rfl hr.units) (pe_op op_mod (pe_op op_fdiv (pv 1) pe_int) pe_int) pe_int (nomark _)) (pss_one (ps_set (i := 4) nd rfl (Or.inl rfl) (pe_op (op_addK K rfl) (pe_tupF (pa_cons (pe_tupF (pa_cons pe_str (pa_cons (pe_tupF pa_nil) pa_nil))) pa_nil)) (pv 4)))) pss_nil))))) pss_nil)
  (pss_cons (ps_for PassesOwn.never rfl (pi_seqK K rfl (pe_op (op_addK K rfl) (pe_tupF (pa_cons (pv 3) (pa_cons (pv 4) pa_nil))) (pe_cal c__law_edges hr (by rfl) (pa_cons (pe_cal c__law_mixed hr (by rfl) (pa_cons (pv 0) (pa_cons pe_int pa_nil))) pa_nil)))) (pg_name (i := 7) nd rfl (Or.inl rfl))
  (pss_cons (ps_set (i := 8) nd rfl (Or.inl rfl) (pe_cal c_is_letter hr (by rfl) (pa_cons (pv 7) pa_nil)))
  (pss_cons (ps_if (PW.pt (pw_or (pt_not (pt_val (pe_callB (call_isK K rfl) (by rfl) B.isinstance bt_isinstance (pa_cons (pv 8) (pa_cons (pe_bltn (v := .ty "bool") (by rfl) B.bool bt_bool rfl) pa_nil))))) (pw_or1 (pt_cmpR (op_neK K rfl hr.units) (pv 8) (pe_cal c__law_is_letter hr (by rfl) (pa_cons (pv 7) pa_nil)) (nomark _))))) (pss_one (ps_ret pe_bl)) pss_nil)
  (pss_cons (ps_set (i := 8) nd rfl (Or.inl rfl) (pe_cal c_is_book hr (by rfl) (pa_cons (pv 7) pa_nil)))
  (pss_one (ps_if (PW.pt (pw_or (pt_not (pt_val (pe_callB (call_isK K rfl) (by rfl) B.isinstance bt_isinstance (pa_cons (pv 8) (pa_cons (pe_bltn (v := .ty "bool") (by rfl) B.bool bt_bool rfl) pa_nil))))) (pw_or1 (pt_cmpR (op_neK K rfl hr.units) (pv 8) (pe_cal c__law_is_book hr (by rfl) (pa_cons (pv 7) pa_nil)) (nomark _))))) (pss_one (ps_ret pe_bl)) pss_nil))))))
  (pss_one (ps_ret pe_bl))))))))))), ?_⟩
  exact body_T (N := N__law_once) (n := 9) (k := 1) (fb := fb__law_once m__law_any m__law_swapped m__law_letter m__law_book T q m__law_spoilt m__law_edges m_is_letter m__law_is_letter m_is_book m__law_is_book) rfl (by decide)
    (es_seq (es_asg (i := 1) (ef_mix (i := 0) ef_int))
  (es_seq (es_asgO (i := 2) (en_disp (enp_cons ef_str (en_dat (ef_call (ea_cons (ef_mix (i := 0) ef_int) (ea_cons ef_int ea_nil)))) (enp_cons ef_str (en_dat (ef_call (ea_cons (ef_mix (i := 0) ef_int) (ea_cons ef_int ea_nil)))) enp_nil))))
  (es_seq (es_put (ep_var (i := 2)) ef_str (ef_call (ea_cons (ef_mix (i := 0) ef_int) (ea_cons ef_int ea_nil))))
  (es_seq (es_seal 2 (es_asg (i := 3) (ef_call (ea_cons (ef_call (ea_cons (ef_mix (i := 0) ef_int) ea_nil)) (ea_cons (ef_var 2) ea_nil)))))
  (es_seq (es_asg (i := 3) (ef_op e2_add (ef_op e2_add (ef_sl (eb_var 3) eo_none (eo_some ef_int)).b (ef_tup (ea_cons (ef_cb1 e1_tuple (ef_cb1 e1_sortV (ef_op e2_ix (eb_var 3) (ef_int).b).b).b) ea_nil)).b).b (ef_sl (eb_var 3) (eo_some ef_int) eo_none).b))
  (es_seq (es_seal 2 (es_asg (i := 4) (ef_cb1 e1_tuple (ef_cb1 e1_sortV (ef_call (ea_cons (ef_call (ea_cons (ef_mix (i := 0) ef_int) ea_nil)) (ea_cons (ef_var 2) ea_nil))).b).b)))
  (es_seq (es_if (et_test (ef_op e2_gt (ef_op e2_mod (eb_var 1) (ef_int).b).b (ef_int).b)) (es_seq (es_asgX (k := 3) (ex_callT (g := 9) (P := T) (q := q) (ea_cons (ef_var 3) (ea_cons (ef_mix (i := 0) ef_int) (ea_cons (ef_op e2_mod (ef_op e2_fdiv (eb_var 1) (ef_int).b).b (ef_int).b) ea_nil)))))
  (es_asgX (k := 4) (ex_callT (g := 9) (P := T) (q := q) (ea_cons (ef_var 4) (ea_cons (ef_mix (i := 0) ef_int) (ea_cons (ef_op e2_mod (ef_op e2_fdiv (eb_var 1) (ef_int).b).b (ef_int).b) ea_nil)))))) es_next)
  (es_seq (es_if (et_test (ef_op e2_eq (ef_op e2_mod (ef_op e2_fdiv (eb_var 1) (ef_int).b).b (ef_int).b).b (ef_int).b)) (es_seq (es_asg (i := 5) (ef_tup (ea_cons (ef_tup (ea_cons ef_str (ea_cons (ef_tup (ea_cons ef_str (ea_cons (ef_tup (ea_cons ef_str ea_nil)) ea_nil))) ea_nil))) (ea_cons (ef_op e2_mulT (ef_tup (ea_cons (ef_tup (ea_cons ef_str ea_nil)) ea_nil)).b (ef_op e2_mod (ef_op e2_fdiv (eb_var 1) (ef_int).b).b (ef_int).b).b) ea_nil))))
  (es_seq (es_asg (i := 6) (ef_op e2_ix (ef_tup (ea_cons (ef_tup ea_nil) (ea_cons (ef_tup (ea_cons (ef_tup (ea_cons ef_str (ea_cons (ef_tup ea_nil) ea_nil))) ea_nil)) (ea_cons (ef_tup (ea_cons (ef_tup (ea_cons ef_str (ea_cons (ef_tup ea_nil) ea_nil))) (ea_cons (ef_tup (ea_cons ef_str (ea_cons (ef_tup ea_nil) ea_nil))) ea_nil))) ea_nil)))).b (ef_op e2_mod (ef_op e2_fdiv (eb_var 1) (ef_int).b).b (ef_int).b).b))
  (es_seq (es_asg (i := 4) (ef_op e2_add (ef_tup (ea_cons (ef_tup (ea_cons ef_str (ea_cons (ef_op e2_mulT (ef_tup (ea_cons (ef_var 5) ea_nil)).b (ef_op e2_mod (ef_op e2_fdiv (eb_var 1) (ef_int).b).b (ef_int).b).b) ea_nil))) ea_nil)).b (eb_var 6)))
  (es_if (et_test (ef_op e2_eq (ef_op e2_mod (ef_op e2_fdiv (eb_var 1) (ef_int).b).b (ef_int).b).b (ef_int).b)) (es_asg (i := 4) (ef_op e2_add (ef_tup (ea_cons (ef_tup (ea_cons ef_str (ea_cons (ef_tup ea_nil) ea_nil))) ea_nil)).b (eb_var 4))) es_next)))) es_next)
  (es_seq (es_for (ei_seq (ef_op e2_add (ef_tup (ea_cons (ef_var 3) (ea_cons (ef_var 4) ea_nil))).b (ef_call (ea_cons (ef_mix (i := 0) ef_int) ea_nil)).b)) (eg_name 7)
  (es_seq (es_asg (i := 8) (ef_call (ea_cons (ef_var 7) ea_nil)))
  (es_seq (es_if (et_or (et_not (et_B (ef_isi (eb_var 8)))) (et_test (ef_op e2_ne (eb_var 8) (ef_call (ea_cons (ef_var 7) ea_nil)).b))) (es_rex ef_bl) es_next)
  (es_seq (es_asg (i := 8) (ef_call (ea_cons (ef_var 7) ea_nil)))
  (es_if (et_or (et_not (et_B (ef_isi (eb_var 8)))) (et_test (ef_op e2_ne (eb_var 8) (ef_call (ea_cons (ef_var 7) ea_nil)).b))) (es_rex ef_bl) es_next)))))
  (es_rex ef_bl))))))))))
    h
abbrev N_law : List Str := ["script", "bent_turn", "bent_cell", "?t"]
def fb_law_b1 (T : Addr) (q : Str) (m__law_once : List PyData → Option PyData) : Rho → Option Res := fun ρ =>
  ifX (notX (asX (callT 3 T q m__law_once (fun ρ => (bnd2 (bnd2 (compL ((scrOf 0 ρ).map fun ns => ns.map PyData.int) tg1 [2] (fun ρ => some true) (fun ρ => bnd2 (gb 2 ρ) (bnd2 (some (.int 104729)) (gb 1 ρ) mulA) addD) [2] ρ) (((bnd2 (gv 1 ρ) (some []) consD)).bind lstD) addD) (some []) consD)) ρ))) (fun ρ =>
  retR (some (.bool false))) (fun ρ => some (.nx ρ))
def fb_law (T : Addr) (q : Str) (m__law_once : List PyData → Option PyData) : Rho → Option Res := fun ρ =>
  seqR (forR (((bnd2 (some (.int 8)) (some []) consD)).bind rng1D) tg1 [1] (fb_law_b1 T q m__law_once) ρ) fun ρ =>
  retR (some (.bool true))
theorem sc_law : FnScope N_law ["script"] (defScope s_law) := ⟨rfl, rfl, rfl, by decide +kernel, rfl, by decide +kernel, by decide +kernel⟩
theorem ok_law {P : Program} {w : World} {K : Fg} {mg : Str → Option Value} {base : Heap} {k : Nat} {f : Addr} {fd : FuncData} {T : Addr} {q : Str} {m__law_once : List PyData → Option PyData} (F : Fun K "law" "law" s_law f fd) (B : BI mg) (hrC : Room (k + 1) callerA) (c__law_mixed : CalS P w K mg base (k) "_law_mixed" ["script", "k"] (spMix K)) (c__law_once : CalS P w K mg base (k) "_law_once" ["script"] (spT K T q m__law_once))
    (hf : ∀ ns : List Int, ns.length ≤ 63 → retD (fb_law T q m__law_once (scrT 2 T q ns)) = some (.bool true)) :
    LawG P w K mg base T f := by
  have nd := sc_law.nd
  refine lawG_ok F sc_law hrC (fun _ _ _ _ _ _ _ _ => .of_eq rfl) fun cdv s H vs Q E hr h => ?_
  have hr1 := hr
  refine ⟨_, pss_ghost (i := 3) (x := "?t") (v := .ref T) rfl (notVis (sc := defScope s_law) (by decide +kernel)) (pss_cons (ps_for PassesOwn.never rfl (pi_range1 rfl B.range (pa_cons pe_int pa_nil)) (pg_name (i := 1) nd rfl (Or.inr rfl))
  (pss_one (ps_if (pt_not (pt_val (pe_cal c__law_once hr (by rfl) (pa_cons (pe_op (op_addK K rfl) (pe_lc (own := [("bent_cell", 2)]) (g := (gName 2)) rfl nd (pi_seqK K rfl (pv 0)) (blkOk_by (own := [("bent_cell", 2)]) (N := N_law) (sc := (defScope s_law)) (by decide +kernel)) (fun _ _ _ _ _ => (pg_name (i := 2) nd rfl (Or.inl rfl))) (fun _ _ _ _ _ => pts_nil) (fun _ _ _ _ _ => (pe_op (op_addK K rfl) (pv 2) (pe_op op_mulA pe_int (pv 1))))) (pe_lst (pa_cons (pv 1) pa_nil))) pa_nil)))) (pss_one (ps_ret pe_bl)) pss_nil)))
  (pss_one (ps_ret pe_bl))), ?_⟩
  exact law_okT (N := N_law) (n := 2) (fb := fb_law T q m__law_once) rfl
      (es_seq (es_for (ei_rng1 (ea_cons ef_int ea_nil)) (eg_name 1)
  (es_ifX (etx_not (etx_B (ex_callT (g := 3) (P := T) (q := q) (ea_cons (ef_op e2_add (ef_lcD (eib_scr (i := 0)) (eg_name 2) et_yes (ef_op e2_add (eb_var 2) (ef_op e2_mulA (ef_int).b (eb_var 1)).b)).b (ef_lst (ea_cons (ef_var 1) ea_nil)).b) ea_nil)))) (es_ret ef_bl) es_next))
  (es_ret ef_bl))
      hf h
end K09
namespace Sv
open PySem L2 Evl
structure CalE (P : Program) (w : World) (K : Fg) (mg : Str → Option Value) (base : Heap) (k : Nat) (x : Str) (ps : List Str) (sp : Sp) : Prop where
  ex : ∃ (f : Addr) (fd : FuncData), FnOk P w K mg base (L2.CX P w) k f fd ps sp ∧ mg x = some (.ref f) ∧ PySem.W.keepIn K (.ref f) = true ∧ Binds K fd ps []
theorem CalE.mono {P : Program} {w : World} {K : Fg} {mg : Str → Option Value} {base : Heap} {j k : Nat} {x : Str} {ps : List Str} {sp : Sp} (c : CalE P w K mg base j x ps sp) (h : j ≤ k) : CalE P w K mg base k x ps sp := by
  obtain ⟨f, fd, F, r⟩ := c.ex
  exact ⟨f, fd, F.mono h, r⟩
end Sv
namespace Sv
open PySem L2 Evl
end Sv
namespace Sv
open PySem L2 Evl
end Sv
namespace Sv
open PySem L2 Evl TL
def TO : List Nat := [116, 111, 32]
def toEnd : List Nat → Bool
  | [] => false
  | c :: r => (decide (c = 116) && decide (r = [111])) || toEnd r
def cpL (s : Str) : List Nat := s.cps.toList
theorem joinL_nil : ∀ ls : List (List Nat), joinL [] ls = ls.flatten
  | [] => rfl
  | [l] => by simp [joinL]
  | l :: m :: r => by
    show l ++ ([] ++ joinL [] (m :: r)) = _
    rw [List.nil_append, joinL_nil (m :: r)]
    rfl
theorem join_empty (ls : List (List Nat)) : Txt.join "" (ls.map SX.S) = SX.S ls.flatten := by
  have := SX.join_S [] ls
  rw [joinL_nil] at this
  exact this
end Sv
namespace Sv
open PySem L2 Evl
def fb__law_other (m__law_book : List PyData → Option PyData) : Rho → Option Res := fun ρ =>
  seqR (asgR 2 ρ (bnd2 (bnd2 (gb 1 ρ) (some (.int 8)) fdivD) ((gb 0 ρ).bind lenD) modD)) fun ρ =>
  seqR (asgG [3, 4] (tgT 2 (tgC tg1 (tgC tg1 tgN))) ρ (bnd2 (gb 0 ρ) (gb 2 ρ) ixD)) fun ρ =>
  seqR (asgR 5 ρ (bnd2 (gb 1 ρ) (some (.int 6)) modD)) fun ρ =>
  seqR (ifR (andB ((bnd2 (gb 5 ρ) (some (.int 0)) eqD).bind asB) ((bnd2 ((gb 4 ρ).bind lenD) (some (.int 4)) ltD).bind asB)) (asgR 4 ρ (bnd2 (gb 4 ρ) (((bnd2 (((bnd2 (((bnd2 (some (.str "both")) ((bnd2 (((bnd2 (some (.str "from")) ((bnd2 (some (.str "ann")) (some []) consD)) consD)).bind tupD) ((bnd2 (((bnd2 (some (.str "not")) ((bnd2 (((bnd2 (some (.str "from")) ((bnd2 (some (.str "ann")) (some []) consD)) consD)).bind tupD) (some []) consD)) consD)).bind tupD) (some []) consD)) consD)) consD)).bind tupD) ((bnd2 (((bnd2 (((bnd2 (some (.str "drop")) (some []) consD)).bind tupD) (some []) consD)).bind tupD) (some []) consD)) consD)).bind tupD) (some []) consD)).bind tupD) addD)) (ifR (andB ((bnd2 (gb 5 ρ) (some (.int 1)) eqD).bind asB) ((bnd2 (gb 4 ρ) ((some []).bind tupD) neD).bind asB)) (seqR (asgR 6 ρ (bnd2 (bnd2 (gb 1 ρ) (some (.int 64)) fdivD) ((gb 4 ρ).bind lenD) modD)) fun ρ =>
  seqR (asgR 4 ρ (bnd2 (bnd2 ((gb 4 ρ).bind fun d => bnd2 (some none) (partI (gv 6 ρ)) (slD d)) (((bnd2 (((bnd2 (((bnd2 (some (.str "not")) ((bnd2 (((bnd2 (some (.str "not")) ((bnd2 (bnd2 (bnd2 (gb 4 ρ) (gb 6 ρ) ixE) (some (.int 0)) ixD) (some []) consD)) consD)).bind tupD) (some []) consD)) consD)).bind tupD) ((bnd2 (bnd2 (bnd2 (gb 4 ρ) (gb 6 ρ) ixE) (some (.int 1)) ixD) (some []) consD)) consD)).bind tupD) (some []) consD)).bind tupD) addD) ((gb 4 ρ).bind fun d => bnd2 (partI (bnd2 (gb 6 ρ) (some (.int 1)) addD)) (some none) (slD d)) addD)) fun ρ =>
  ifR ((bnd2 (bnd2 (bnd2 (bnd2 (bnd2 (bnd2 (gb 4 ρ) (gb 6 ρ) ixE) (some (.int 0)) ixD) (some (.int 1)) ixD) (some (.int 1)) ixD) (some (.int 0)) ixD) (((bnd2 (some (.str "not")) ((bnd2 (some (.str "both")) ((bnd2 (some (.str "either")) (some []) consD)) consD)) consD)).bind tupD) inD).bind asB) (retR (gv 0 ρ)) (some (.nx ρ))) (ifR (andB ((bnd2 (gb 5 ρ) (some (.int 2)) eqD).bind asB) ((bnd2 (gb 4 ρ) ((some []).bind tupD) neD).bind asB)) (seqR (asgR 6 ρ (bnd2 (bnd2 (gb 1 ρ) (some (.int 64)) fdivD) ((gb 4 ρ).bind lenD) modD)) fun ρ =>
  asgR 4 ρ (bnd2 ((gb 4 ρ).bind fun d => bnd2 (some none) (partI (gv 6 ρ)) (slD d)) ((gb 4 ρ).bind fun d => bnd2 (partI (bnd2 (gb 6 ρ) (some (.int 1)) addD)) (some none) (slD d)) addD)) (ifR (andB ((bnd2 (gb 5 ρ) (some (.int 3)) eqD).bind asB) ((bnd2 ((gb 4 ρ).bind lenD) (some (.int 1)) gtD).bind asB)) (asgR 4 ρ (bnd2 ((gb 4 ρ).bind fun d => bnd2 (partI (some (.int 1))) (some none) (slD d)) ((gb 4 ρ).bind fun d => bnd2 (some none) (partI (some (.int 1))) (slD d)) addD)) (ifR ((bnd2 (gb 5 ρ) (some (.int 4)) eqD).bind asB) (retR (((bnd2 (bnd2 (gb 1 ρ) (some (.int 8)) fdivD) (some []) consD)).bind m__law_book)) (some (.nx ρ))))))) fun ρ =>
  retR (bnd2 (bnd2 ((gb 0 ρ).bind fun d => bnd2 (some none) (partI (gv 2 ρ)) (slD d)) (((bnd2 (((bnd2 (gv 3 ρ) ((bnd2 (gv 4 ρ) (some []) consD)) consD)).bind tupD) (some []) consD)).bind tupD) addD) ((gb 0 ρ).bind fun d => bnd2 (partI (bnd2 (gb 2 ρ) (some (.int 1)) addD)) (some none) (slD d)) addD)
end Sv
namespace Sv
open PySem L2 Evl
end Sv
namespace Sv
open PySem L2 Evl
structure Nm.Le (a N : Nm) : Prop where
  f : ∀ x ∈ a.f, x ∈ N.f
  w : ∀ x ∈ a.w, x ∈ N.w
  o : ∀ x ∈ a.o, x ∈ N.o
  m : ∀ x ∈ a.m, x ∈ N.m
theorem Nm.Le.refl (a : Nm) : a.Le a := ⟨fun _ h => h, fun _ h => h, fun _ h => h, fun _ h => h⟩
theorem Nm.Le.trans {a b c : Nm} (h : a.Le b) (g : b.Le c) : a.Le c := ⟨fun x hx => g.f x (h.f x hx), fun x hx => g.w x (h.w x hx), fun x hx => g.o x (h.o x hx), fun x hx => g.m x (h.m x hx)⟩
theorem Nm.Le.left {a b N : Nm} (h : (a.app b).Le N) : a.Le N := ⟨fun x hx => h.f x (List.mem_append_left _ hx), fun x hx => h.w x (List.mem_append_left _ hx), fun x hx => h.o x (List.mem_append_left _ hx), fun x hx => h.m x (List.mem_append_left _ hx)⟩
theorem Nm.Le.right {a b N : Nm} (h : (a.app b).Le N) : b.Le N := ⟨fun x hx => h.f x (List.mem_append_right _ hx), fun x hx => h.w x (List.mem_append_right _ hx), fun x hx => h.o x (List.mem_append_right _ hx), fun x hx => h.m x (List.mem_append_right _ hx)⟩
theorem le_of {ns : List Nm} {x : Nm} (h : x ∈ ns) : x.Le (Nm.of ns) := ⟨fun y hy => List.mem_flatMap.mpr ⟨x, h, hy⟩, fun y hy => List.mem_flatMap.mpr ⟨x, h, hy⟩, fun y hy => List.mem_flatMap.mpr ⟨x, h, hy⟩, fun y hy => List.mem_flatMap.mpr ⟨x, h, hy⟩⟩
theorem of_le {ns : List Nm} {N : Nm} (h : ∀ x ∈ ns, x.Le N) : (Nm.of ns).Le N := by
  refine ⟨fun y hy => ?_, fun y hy => ?_, fun y hy => ?_, fun y hy => ?_⟩ <;> obtain ⟨x, hx, hy⟩ := List.mem_flatMap.mp hy
  · exact (h x hx).f y hy
  · exact (h x hx).w y hy
  · exact (h x hx).o y hy
  · exact (h x hx).m y hy
theorem dec_iff {a b : Prop} [Decidable a] [Decidable b] (h : a ↔ b) : decide a = decide b := by
  by_cases ha : a
  · rw [decide_eq_true ha, decide_eq_true (h.mp ha)]
  · rw [decide_eq_false ha, decide_eq_false fun z => ha (h.mpr z)]
def subsF (f : List (List Str)) (ss : List Str) : List (List Str) := ss.foldl (fun f n => f ++ f.map (· ++ [n])) f
def subs (ss : List Str) : List (List Str) := subsF [[]] ss
def sizesF (O : List Int) : List Int := 0 :: (O.filter fun n => decide (n < 999)).map (· + 1)
def l3 (M : List Str) (s : Str) (w : List Str) (z : Int) : List Ltr := (subs M).map fun m => ⟨s, w, z, m⟩
def l2 (M : List Str) (O : List Int) (s : Str) (w : List Str) : List Ltr := (sizesF O).flatMap (l3 M s w)
def l1 (M : List Str) (O : List Int) (W : List Str) (s : Str) : List Ltr := (subs W).flatMap (l2 M O s)
end Sv
namespace Sv
open PySem PySem.Spec PyProof.Rows L2
section
variable {prog : Program} {w : World} {A : Around} {E : Value → Shared → Prop}
def foldT (acc rest : List (List Key × Addr × Value)) : List (List Key × Addr × Value) := rest.foldl (fun a q => storedH a q.1 q.2.1 q.2.2) acc
end
section
variable {X : Cx}
def putAll (acc more : List (List Key × V)) : List (List Key × V) := more.foldl (fun a q => putK a q.1 q.2) acc
theorem KT.all {H : Hp} : ∀ {more : List (List Key × V)} {rest : List (List Key × Addr × Value)} {acc : List (List Key × V)} {xs : List (List Key × Addr × Value)}, KT H more rest → KT H acc xs → KT H (putAll acc more) (foldT xs rest)
  | [], _, acc, xs, h, r => by cases h; exact r
  | q :: more, _, acc, xs, h, r => by
    cases h with
    | @cons _ z _ rest h t =>
      obtain ⟨h1, h2, h3⟩ := h
      have := KT.all t (KT.put r q.1 h2 h3)
      show KT H (putAll (putK acc q.1 q.2) more) (foldT (storedH xs z.1 z.2.1 z.2.2) rest)
      rw [← h1]
      exact this
end
end Sv
namespace Sv
open PySem L2 Evl
end Sv
namespace Sv
open PySem L2 Evl
abbrev kk (p : Str × Str) : List Key := [.inr p.1, .inr p.2]
end Sv
namespace Sv
open PySem L2 Evl
open PySem.W (dataLe)
end Sv
namespace Sv
open PySem L2 Evl
theorem ownO_of {ρ : Rho} {i : Nat} {o : OW} (h : ρ[i]? = some (.own o)) : ownO i ρ = some o := by unfold ownO; rw [h]
end Sv
namespace Sv
open PySem L2 Evl
theorem runD_r {n k : Nat} {fb : Rho → Option Res} {ds : List PyData} (h : ds.length = k) : runD n k fb ds = retD (fb (startR n ds)) := by unfold runD; rw [if_pos h]
def NB (bs : List Book) : Nm := Nm.of (bs.map nameB)
end Sv
namespace Sv
open PySem L2 Evl
end Sv
namespace Sv
open PySem L2 Evl
theorem bools_map {α : Type} (f : α → Bool) : ∀ xs : List α, boolsD (xs.map fun x => .bool (f x)) = some (xs.map f)
  | [] => rfl
  | x :: xs => by simp only [List.map_cons, boolsD, bools_map f xs]; rfl
end Sv
namespace Sv
open PySem L2 Evl
def P0 : Nm := ⟨["ann", "bob"], ["hi", "now"], [10, 500, 999], ["m", "red"]⟩
theorem pk2_mem {α : Type} (a b : α) (n : Int) : pk2 a b n ∈ [a, b] := by unfold pk2; split <;> simp
theorem pk3_mem {α : Type} (a b c : α) (n : Int) : pk3 a b c n ∈ [a, b, c] := by
  unfold pk3
  split
  · simp
  · split <;> simp
theorem app_le {a b N : Nm} (h1 : a.Le N) (h2 : b.Le N) : (a.app b).Le N := ⟨fun x hx => (List.mem_append.mp hx).elim (h1.f x) (h2.f x), fun x hx => (List.mem_append.mp hx).elim (h1.w x) (h2.w x), fun x hx => (List.mem_append.mp hx).elim (h1.o x) (h2.o x), fun x hx => (List.mem_append.mp hx).elim (h1.m x) (h2.m x)⟩
theorem nil_le (N : Nm) : Nm.nil.Le N := ⟨(fun _ h => nomatch h), (fun _ h => nomatch h), (fun _ h => nomatch h), (fun _ h => nomatch h)⟩
theorem rule_le {b : Book} {P : Nm} (hb : (nameB b).Le P) {p : Str × List Rul} (hp : p ∈ b) {r : Rul} (hr : r ∈ p.2) : (nmRule r).Le P := ((le_of (List.mem_map.mpr ⟨r, hr, rfl⟩)).trans (le_of (List.mem_map.mpr ⟨p, hp, rfl⟩))).trans hb
theorem leaf_le (x : Int) : (tn (leafN x)).Le P0 := by
  unfold leafN
  repeat' split
  · exact ⟨fun y hy => by rw [List.mem_singleton.mp hy]; exact pk2_mem _ _ _, (fun _ h => nomatch h), (fun _ h => nomatch h), (fun _ h => nomatch h)⟩
  · exact ⟨(fun _ h => nomatch h), (fun _ h => nomatch h), fun y hy => by rw [List.mem_singleton.mp hy]; exact pk3_mem _ _ _ _, (fun _ h => nomatch h)⟩
  · exact ⟨(fun _ h => nomatch h), (fun _ h => nomatch h), (fun _ h => nomatch h), fun y hy => by rw [List.mem_singleton.mp hy]; exact pk2_mem _ _ _⟩
  · exact nil_le _
  · exact ⟨(fun _ h => nomatch h), fun y hy => by rw [List.mem_singleton.mp hy]; exact pk2_mem _ _ _, (fun _ h => nomatch h), (fun _ h => nomatch h)⟩
theorem test_le : ∀ (d : Nat) (x : Int), (tn (testN d x)).Le P0
  | 0, x => leaf_le x
  | d + 1, x => by
    unfold testN
    split
    · split
      · exact test_le d _
      · split <;> exact app_le (test_le d _) (test_le d _)
    · exact leaf_le x
theorem deed_mk {x : Int} {ns : List Str} {n : Str} (h : deedN x ns = .mark n ∨ deedN x ns = .unmark n) : n ∈ P0.m := by
  unfold deedN at h
  repeat' split at h
  all_goals first
    | (rcases h with h | h <;> cases h <;> exact pk2_mem _ _ _)
    | (rcases h with h | h <;> cases h)
theorem mks_mem {ds : List Deed} {n : Str} (h : n ∈ mks ds) : ∃ d ∈ ds, d = .mark n ∨ d = .unmark n := by
  unfold mks at h
  obtain ⟨d, hd, e⟩ := List.mem_map.mp h
  obtain ⟨h1, h2⟩ := List.mem_filter.mp hd
  refine ⟨d, h1, ?_⟩
  cases d <;> first | cases h2 | skip
  · exact .inl (by rw [← e]; rfl)
  · exact .inr (by rw [← e]; rfl)
theorem bookN_le (x : Int) : (nameB (bookN x)).Le P0 := of_le fun y hy => by
  obtain ⟨p, hp, rfl⟩ := List.mem_map.mp hy
  obtain ⟨_, dr, e⟩ := from_mem x _ _ 0 p hp
  refine of_le fun z hz => ?_
  obtain ⟨r, hr, rfl⟩ := List.mem_map.mp hz
  rw [e] at hr
  obtain ⟨j, _, rfl⟩ := List.mem_map.mp hr
  refine app_le (test_le _ _) ⟨(fun _ h => nomatch h), (fun _ h => nomatch h), (fun _ h => nomatch h), fun n hn => ?_⟩
  obtain ⟨d, hd, e⟩ := mks_mem hn
  obtain ⟨i, _, rfl⟩ := List.mem_map.mp hd
  exact deed_mk e
def m_oth : List PyData → Option PyData := runD 7 2 (fb__law_other (m_book 3))
end Sv
namespace Sv
open PySem L2 Evl
end Sv
namespace Sv
open PySem L2 Evl
end Sv
namespace Sv
open PySem L2 Evl
structure Gr (s t : RSt) : Prop where
  bg : ∀ p ∈ s.begun, p ∈ t.begun
  wt : ∀ n ∈ s.went, n ∈ t.went
theorem Gr.refl (s : RSt) : Gr s s := ⟨fun _ h => h, fun _ h => h⟩
theorem Gr.trans {a b c : RSt} (h : Gr a b) (g : Gr b c) : Gr a c := ⟨fun p hp => g.bg p (h.bg p hp), fun p hp => g.wt p (h.wt p hp)⟩
structure Al (D : Str × Nat → Bool) (R : Str → Bool) (s : RSt) : Prop where
  d : ∀ p ∈ s.begun, D p = true
  r : ∀ n ∈ s.went, R n = true
theorem Al.of {D : Str × Nat → Bool} {R : Str → Bool} {s t : RSt} (g : Gr s t) (h : Al D R t) : Al D R s := ⟨fun p hp => h.d p (g.bg p hp), fun n hn => h.r n (g.wt n hn)⟩
end Sv
namespace Sv
open PySem L2 Evl
end Sv
namespace Sv
open PySem L2 Evl
def partE (p : Str × List Rul) : PyData := .tuple [.str p.1, rulesD p.2]
end Sv
namespace Sv
open PySem L2 Evl
end Sv
namespace Sv
open PySem L2 Evl
def abc : List Nat := (Str.ofString "abcdefghijklmnopqrstuvwxyz").cps.toList
def isNm (s : Str) : Bool := decide (1 ≤ s.length) && decide (s.length ≤ 5) && s.cps.toList.all fun c => decide (c ∈ abc)
def m_isn : List PyData → Option PyData := runD 2 1 fb_is_name
def m_isnum : List PyData → Option PyData := runD 1 1 fb_is_number
def m_ris : List PyData → Option PyData := runD 3 1 fb_are_rising
def m_ist : Nat → List PyData → Option PyData := itm fun m => runD 3 2 (fb_is_test m m_isnum m_isn)
def m_isd : List PyData → Option PyData := runD 1 1 (fb_is_deed m_isn)
def m_isr : List PyData → Option PyData := runD 2 1 (fb_is_rule (m_ist 4) m_isd)
def m_isp : List PyData → Option PyData := runD 2 1 (fb_is_part m_isn m_isr)
def m_cls : List PyData → Option PyData := runD 2 1 fb_calls_of
def m_isb : List PyData → Option PyData := runD 5 1 (fb_is_book m_isp m_ris m_cls)
theorem all_map' {α : Type} (f : α → Bool) (xs : List α) : allD (.list (xs.map fun x => .bool (f x))) = some (.bool (xs.all f)) := by
  unfold allD
  simp only [bools_map, Option.map_some, List.all_map]
  rfl
theorem andV_bb (a b : Bool) : andV (some (.bool a)) (some (.bool b)) = some (.bool (a && b)) := by cases a <;> rfl
theorem chain_le (a b c : Int) : chainD leD leD (some (.int a)) (some (.int b)) (some (.int c)) = some (.bool (decide (a ≤ b) && decide (b ≤ c))) := by
  unfold chainD leD
  by_cases h : a ≤ b
  · simp [h]
  · simp [h]
theorem inSg_c (c : Nat) : inSg (.str ⟨#[c]⟩) (.str "abcdefghijklmnopqrstuvwxyz") = some (.bool (decide (c ∈ abc))) := rfl
theorem isn_eq {s : Str} (h : isNm s = true) : m_isn [.str s] = some (.bool true) := by
  unfold isNm at h
  simp only [Bool.and_eq_true, decide_eq_true_eq] at h
  obtain ⟨⟨h1, h2⟩, h3⟩ := h
  unfold m_isn
  refine (runD_r (by rfl)).trans ?_
  rw [show startR 2 [.str s] = [.val (.str s), .no] from rfl]
  unfold fb_is_name
  have hl : lenD (.str s) = some (.int (s.length : Int)) := by
    show (if lenOk s.length then some (PyData.int s.length) else none) = _
    rw [if_pos (lenOk_ (by omega))]
  have hc : s.cps.toList.length ≤ 1000 := by
    have : s.length = s.cps.toList.length := by simp [Str.length]
    omega
  simp only [gv_0, gv_s, gb_0, gb_s, scr_0, bnd2_ss, consD_, tupD_, lstD_, asgR_s, seqR_nx, seqR_ret, ifR_t, ifR_f, retR_s, retD_s, asB_b, asI_i, addD_ii, subD_ii, modD_ii, gtD_ii, geD_ii, leD_ii, ltD_ii, eqD_ii, eqD_ss, neD_ss, neD_ii, neD_bb, ixD_t, ixD_l, andB_t, andB_f, orB_t, orB_f, notV_b, mixR_, setsR_nil, setsR_cons, tg1_, tgT_1, tgT_2, tgT_4, asgG_u, walkD_t, walkD_l, tupleD_l, tupleD_t, listD_l, listD_t, lenD_t, lenD_l, wipeR_nil, wipeR_cons, Option.bind_some, Option.map_some, List.set_cons_zero, List.set_cons_succ, List.length_cons, List.length_nil, Nat.zero_add, Nat.reduceAdd, Nat.reduceLeDiff, Int.reduceAdd, Int.reduceLE, Int.reduceLT, Int.reduceNeg, Int.reduceSub, Int.reduceMul, Int.reduceEq, Bool.not_true, Bool.not_false, decide_true, decide_false, atI_0, atI_1, atI_2, atI_3, Int.reduceToNat, hl, chain_le, show walkD (.str s) = some (s.cps.toList.map fun c => .str ⟨#[c]⟩) from rfl]
  rw [compL_map (fun c : Nat => PyData.str ⟨#[c]⟩) (fun c => [.str ⟨#[c]⟩]) (fun c => .bool (decide (c ∈ abc))) _ hc (fun _ _ => rfl) (fun c _ => by simp only [gv_0, gv_s, gb_0, gb_s, scr_0, bnd2_ss, consD_, tupD_, lstD_, asgR_s, seqR_nx, seqR_ret, ifR_t, ifR_f, retR_s, retD_s, asB_b, asI_i, addD_ii, subD_ii, modD_ii, gtD_ii, geD_ii, leD_ii, ltD_ii, eqD_ii, eqD_ss, neD_ss, neD_ii, neD_bb, ixD_t, ixD_l, andB_t, andB_f, orB_t, orB_f, notV_b, mixR_, setsR_nil, setsR_cons, tg1_, tgT_1, tgT_2, tgT_4, asgG_u, walkD_t, walkD_l, tupleD_l, tupleD_t, listD_l, listD_t, lenD_t, lenD_l, wipeR_nil, wipeR_cons, Option.bind_some, Option.map_some, List.set_cons_zero, List.set_cons_succ, List.length_cons, List.length_nil, Nat.zero_add, Nat.reduceAdd, Nat.reduceLeDiff, Int.reduceAdd, Int.reduceLE, Int.reduceLT, Int.reduceNeg, Int.reduceSub, Int.reduceMul, Int.reduceEq, Bool.not_true, Bool.not_false, decide_true, decide_false, atI_0, atI_1, atI_2, atI_3, Int.reduceToNat, inSg_c])]
  simp only [gv_0, gv_s, gb_0, gb_s, scr_0, bnd2_ss, consD_, tupD_, lstD_, asgR_s, seqR_nx, seqR_ret, ifR_t, ifR_f, retR_s, retD_s, asB_b, asI_i, addD_ii, subD_ii, modD_ii, gtD_ii, geD_ii, leD_ii, ltD_ii, eqD_ii, eqD_ss, neD_ss, neD_ii, neD_bb, ixD_t, ixD_l, andB_t, andB_f, orB_t, orB_f, notV_b, mixR_, setsR_nil, setsR_cons, tg1_, tgT_1, tgT_2, tgT_4, asgG_u, walkD_t, walkD_l, tupleD_l, tupleD_t, listD_l, listD_t, lenD_t, lenD_l, wipeR_nil, wipeR_cons, Option.bind_some, Option.map_some, List.set_cons_zero, List.set_cons_succ, List.length_cons, List.length_nil, Nat.zero_add, Nat.reduceAdd, Nat.reduceLeDiff, Int.reduceAdd, Int.reduceLE, Int.reduceLT, Int.reduceNeg, Int.reduceSub, Int.reduceMul, Int.reduceEq, Bool.not_true, Bool.not_false, decide_true, decide_false, atI_0, atI_1, atI_2, atI_3, Int.reduceToNat, all_map', h3]
  rw [show isiD "str" (.str s) = some (.bool true) from rfl, decide_eq_true (by omega : (1 : Int) ≤ (s.length : Int)), decide_eq_true (by omega : (s.length : Int) ≤ 5)]
  rfl
theorem isnum_eq {n : Int} (h : 0 ≤ n ∧ n ≤ 999) : m_isnum [.int n] = some (.bool true) := by
  unfold m_isnum
  refine (runD_r (by rfl)).trans ?_
  rw [show startR 1 [.int n] = [.val (.int n)] from rfl]
  unfold fb_is_number
  simp only [gv_0, gv_s, gb_0, gb_s, scr_0, bnd2_ss, consD_, tupD_, lstD_, asgR_s, seqR_nx, seqR_ret, ifR_t, ifR_f, retR_s, retD_s, asB_b, asI_i, addD_ii, subD_ii, modD_ii, gtD_ii, geD_ii, leD_ii, ltD_ii, eqD_ii, eqD_ss, neD_ss, neD_ii, neD_bb, ixD_t, ixD_l, andB_t, andB_f, orB_t, orB_f, notV_b, mixR_, setsR_nil, setsR_cons, tg1_, tgT_1, tgT_2, tgT_4, asgG_u, walkD_t, walkD_l, tupleD_l, tupleD_t, listD_l, listD_t, lenD_t, lenD_l, wipeR_nil, wipeR_cons, Option.bind_some, Option.map_some, List.set_cons_zero, List.set_cons_succ, List.length_cons, List.length_nil, Nat.zero_add, Nat.reduceAdd, Nat.reduceLeDiff, Int.reduceAdd, Int.reduceLE, Int.reduceLT, Int.reduceNeg, Int.reduceSub, Int.reduceMul, Int.reduceEq, Bool.not_true, Bool.not_false, decide_true, decide_false, atI_0, atI_1, atI_2, atI_3, Int.reduceToNat, chain_le]
  rw [show isiD "int" (.int n) = some (.bool true) from rfl, show isiD "bool" (.int n) = some (.bool false) from rfl, decide_eq_true h.1, decide_eq_true h.2]
  rfl
theorem cut_last {α : Type} (xs : List α) : cutL xs none (some (-1)) = xs.dropLast := by
  unfold cutL HT.sIx
  cases xs with
  | nil => rfl
  | cons x xs =>
    simp only [List.length_cons]
    rw [List.dropLast_eq_take]
    simp
    omega
theorem cut_tail {α : Type} (xs : List α) : cutL xs (some 1) none = xs.tail := by
  have := cutL_from xs 1
  rw [List.drop_one] at this
  exact this
def rising (ss : List Str) : Bool := (ss.dropLast.zip ss.tail).all fun p => sLt p.1 p.2
theorem zip_strs (a b : List Str) : zipP (a.map .str) (b.map .str) = (a.zip b).map fun p => .tuple [.str p.1, .str p.2] := by
  unfold zipP
  rw [List.zip_map, List.map_map]
  rfl
theorem keyB_strs (a : List Str) : (a.map PyData.str).all keyB = true := by
  rw [List.all_map]
  exact List.all_eq_true.mpr fun _ _ => rfl
theorem ris_l {ss : List Str} (h : ss.length ≤ 1000) : m_ris [.list (ss.map .str)] = some (.bool (rising ss)) := by
  unfold m_ris
  refine (runD_r (by rfl)).trans ?_
  rw [show startR 3 [.list (ss.map .str)] = [.val (.list (ss.map .str)), .no, .no] from rfl]
  unfold fb_are_rising
  have e1 : bnd2 (some none) (partI (negD (.int 1))) (slD (.list (ss.map .str))) = some (.list (ss.dropLast.map .str)) := by
    show some (PyData.list (cutL (ss.map .str) none (some (-1)))) = _
    rw [cut_last, List.map_dropLast]
  have e2 : bnd2 (partI (some (.int 1))) (some none) (slD (.list (ss.map .str))) = some (.list (ss.tail.map .str)) := by
    show some (PyData.list (cutL (ss.map .str) (some 1) none)) = _
    rw [cut_tail, List.map_tail]
  have e3 : zipD (.list (ss.dropLast.map .str)) (.list (ss.tail.map .str)) = some ((ss.dropLast.zip ss.tail).map fun p => .tuple [.str p.1, .str p.2]) := by
    unfold zipD
    simp only [keyB_strs, Bool.and_self, if_true, zip_strs]
  simp only [gv_0, gv_s, gb_0, gb_s, scr_0, bnd2_ss, consD_, tupD_, lstD_, asgR_s, seqR_nx, seqR_ret, ifR_t, ifR_f, retR_s, retD_s, asB_b, asI_i, addD_ii, subD_ii, modD_ii, gtD_ii, geD_ii, leD_ii, ltD_ii, eqD_ii, eqD_ss, neD_ss, neD_ii, neD_bb, ixD_t, ixD_l, andB_t, andB_f, orB_t, orB_f, notV_b, mixR_, setsR_nil, setsR_cons, tg1_, tgT_1, tgT_2, tgT_4, asgG_u, walkD_t, walkD_l, tupleD_l, tupleD_t, listD_l, listD_t, lenD_t, lenD_l, wipeR_nil, wipeR_cons, Option.bind_some, Option.map_some, List.set_cons_zero, List.set_cons_succ, List.length_cons, List.length_nil, Nat.zero_add, Nat.reduceAdd, Nat.reduceLeDiff, Int.reduceAdd, Int.reduceLE, Int.reduceLT, Int.reduceNeg, Int.reduceSub, Int.reduceMul, Int.reduceEq, Bool.not_true, Bool.not_false, decide_true, decide_false, atI_0, atI_1, atI_2, atI_3, Int.reduceToNat, e1, e2, e3]
  rw [compL_map (fun p : Str × Str => PyData.tuple [.str p.1, .str p.2]) (fun p => [.str p.1, .str p.2]) (fun p => .bool (sLt p.1 p.2)) _ (by rw [List.length_zip, List.length_dropLast, List.length_tail]; omega) (fun _ _ => rfl) (fun p _ => by simp only [gv_0, gv_s, gb_0, gb_s, scr_0, bnd2_ss, consD_, tupD_, lstD_, asgR_s, seqR_nx, seqR_ret, ifR_t, ifR_f, retR_s, retD_s, asB_b, asI_i, addD_ii, subD_ii, modD_ii, gtD_ii, geD_ii, leD_ii, ltD_ii, eqD_ii, eqD_ss, neD_ss, neD_ii, neD_bb, ixD_t, ixD_l, andB_t, andB_f, orB_t, orB_f, notV_b, mixR_, setsR_nil, setsR_cons, tg1_, tgT_1, tgT_2, tgT_4, asgG_u, walkD_t, walkD_l, tupleD_l, tupleD_t, listD_l, listD_t, lenD_t, lenD_l, wipeR_nil, wipeR_cons, Option.bind_some, Option.map_some, List.set_cons_zero, List.set_cons_succ, List.length_cons, List.length_nil, Nat.zero_add, Nat.reduceAdd, Nat.reduceLeDiff, Int.reduceAdd, Int.reduceLE, Int.reduceLT, Int.reduceNeg, Int.reduceSub, Int.reduceMul, Int.reduceEq, Bool.not_true, Bool.not_false, decide_true, decide_false, atI_0, atI_1, atI_2, atI_3, Int.reduceToNat]; rfl)]
  simp only [gv_0, gv_s, gb_0, gb_s, scr_0, bnd2_ss, consD_, tupD_, lstD_, asgR_s, seqR_nx, seqR_ret, ifR_t, ifR_f, retR_s, retD_s, asB_b, asI_i, addD_ii, subD_ii, modD_ii, gtD_ii, geD_ii, leD_ii, ltD_ii, eqD_ii, eqD_ss, neD_ss, neD_ii, neD_bb, ixD_t, ixD_l, andB_t, andB_f, orB_t, orB_f, notV_b, mixR_, setsR_nil, setsR_cons, tg1_, tgT_1, tgT_2, tgT_4, asgG_u, walkD_t, walkD_l, tupleD_l, tupleD_t, listD_l, listD_t, lenD_t, lenD_l, wipeR_nil, wipeR_cons, Option.bind_some, Option.map_some, List.set_cons_zero, List.set_cons_succ, List.length_cons, List.length_nil, Nat.zero_add, Nat.reduceAdd, Nat.reduceLeDiff, Int.reduceAdd, Int.reduceLE, Int.reduceLT, Int.reduceNeg, Int.reduceSub, Int.reduceMul, Int.reduceEq, Bool.not_true, Bool.not_false, decide_true, decide_false, atI_0, atI_1, atI_2, atI_3, Int.reduceToNat, all_map']
  rfl
theorem ris_t {ss : List Str} (h : ss.length ≤ 1000) : m_ris [strsD ss] = some (.bool (rising ss)) := by
  unfold m_ris
  refine (runD_r (by rfl)).trans ?_
  rw [show startR 3 [strsD ss] = [.val (.tuple (ss.map .str)), .no, .no] from rfl]
  unfold fb_are_rising
  have e1 : bnd2 (some none) (partI (negD (.int 1))) (slD (.tuple (ss.map .str))) = some (.tuple (ss.dropLast.map .str)) := by
    show some (PyData.tuple (cutL (ss.map .str) none (some (-1)))) = _
    rw [cut_last, List.map_dropLast]
  have e2 : bnd2 (partI (some (.int 1))) (some none) (slD (.tuple (ss.map .str))) = some (.tuple (ss.tail.map .str)) := by
    show some (PyData.tuple (cutL (ss.map .str) (some 1) none)) = _
    rw [cut_tail, List.map_tail]
  have e3 : zipD (.tuple (ss.dropLast.map .str)) (.tuple (ss.tail.map .str)) = some ((ss.dropLast.zip ss.tail).map fun p => .tuple [.str p.1, .str p.2]) := by
    unfold zipD
    simp only [keyB_strs, Bool.and_self, if_true, zip_strs]
  simp only [gv_0, gv_s, gb_0, gb_s, scr_0, bnd2_ss, consD_, tupD_, lstD_, asgR_s, seqR_nx, seqR_ret, ifR_t, ifR_f, retR_s, retD_s, asB_b, asI_i, addD_ii, subD_ii, modD_ii, gtD_ii, geD_ii, leD_ii, ltD_ii, eqD_ii, eqD_ss, neD_ss, neD_ii, neD_bb, ixD_t, ixD_l, andB_t, andB_f, orB_t, orB_f, notV_b, mixR_, setsR_nil, setsR_cons, tg1_, tgT_1, tgT_2, tgT_4, asgG_u, walkD_t, walkD_l, tupleD_l, tupleD_t, listD_l, listD_t, lenD_t, lenD_l, wipeR_nil, wipeR_cons, Option.bind_some, Option.map_some, List.set_cons_zero, List.set_cons_succ, List.length_cons, List.length_nil, Nat.zero_add, Nat.reduceAdd, Nat.reduceLeDiff, Int.reduceAdd, Int.reduceLE, Int.reduceLT, Int.reduceNeg, Int.reduceSub, Int.reduceMul, Int.reduceEq, Bool.not_true, Bool.not_false, decide_true, decide_false, atI_0, atI_1, atI_2, atI_3, Int.reduceToNat, e1, e2, e3]
  rw [compL_map (fun p : Str × Str => PyData.tuple [.str p.1, .str p.2]) (fun p => [.str p.1, .str p.2]) (fun p => .bool (sLt p.1 p.2)) _ (by rw [List.length_zip, List.length_dropLast, List.length_tail]; omega) (fun _ _ => rfl) (fun p _ => by simp only [gv_0, gv_s, gb_0, gb_s, scr_0, bnd2_ss, consD_, tupD_, lstD_, asgR_s, seqR_nx, seqR_ret, ifR_t, ifR_f, retR_s, retD_s, asB_b, asI_i, addD_ii, subD_ii, modD_ii, gtD_ii, geD_ii, leD_ii, ltD_ii, eqD_ii, eqD_ss, neD_ss, neD_ii, neD_bb, ixD_t, ixD_l, andB_t, andB_f, orB_t, orB_f, notV_b, mixR_, setsR_nil, setsR_cons, tg1_, tgT_1, tgT_2, tgT_4, asgG_u, walkD_t, walkD_l, tupleD_l, tupleD_t, listD_l, listD_t, lenD_t, lenD_l, wipeR_nil, wipeR_cons, Option.bind_some, Option.map_some, List.set_cons_zero, List.set_cons_succ, List.length_cons, List.length_nil, Nat.zero_add, Nat.reduceAdd, Nat.reduceLeDiff, Int.reduceAdd, Int.reduceLE, Int.reduceLT, Int.reduceNeg, Int.reduceSub, Int.reduceMul, Int.reduceEq, Bool.not_true, Bool.not_false, decide_true, decide_false, atI_0, atI_1, atI_2, atI_3, Int.reduceToNat]; rfl)]
  simp only [gv_0, gv_s, gb_0, gb_s, scr_0, bnd2_ss, consD_, tupD_, lstD_, asgR_s, seqR_nx, seqR_ret, ifR_t, ifR_f, retR_s, retD_s, asB_b, asI_i, addD_ii, subD_ii, modD_ii, gtD_ii, geD_ii, leD_ii, ltD_ii, eqD_ii, eqD_ss, neD_ss, neD_ii, neD_bb, ixD_t, ixD_l, andB_t, andB_f, orB_t, orB_f, notV_b, mixR_, setsR_nil, setsR_cons, tg1_, tgT_1, tgT_2, tgT_4, asgG_u, walkD_t, walkD_l, tupleD_l, tupleD_t, listD_l, listD_t, lenD_t, lenD_l, wipeR_nil, wipeR_cons, Option.bind_some, Option.map_some, List.set_cons_zero, List.set_cons_succ, List.length_cons, List.length_nil, Nat.zero_add, Nat.reduceAdd, Nat.reduceLeDiff, Int.reduceAdd, Int.reduceLE, Int.reduceLT, Int.reduceNeg, Int.reduceSub, Int.reduceMul, Int.reduceEq, Bool.not_true, Bool.not_false, decide_true, decide_false, atI_0, atI_1, atI_2, atI_3, Int.reduceToNat, all_map']
  rfl
def isT : Nat → Tst → Bool
  | 0, _ => false
  | _ + 1, .frm s => isNm s
  | _ + 1, .word s => isNm s
  | _ + 1, .marked s => isNm s
  | _ + 1, .over n => decide (0 ≤ n ∧ n ≤ 999)
  | _ + 1, .yes => true
  | n + 1, .not t => isT n t
  | n + 1, .both a b => isT n a && isT n b
  | n + 1, .either a b => isT n a && isT n b
theorem in_joins (w : Str) (hw : nmOk w = true) : inD (.str w) (.tuple [.str "both", .str "either"]) = some (.bool (decide (w ∈ (["both", "either"] : List Str)))) := inD_t w ["both", "either"] (by decide +kernel) hw
theorem in_named (w : Str) (hw : nmOk w = true) : inD (.str w) (.tuple [.str "from", .str "word", .str "marked"]) = some (.bool (decide (w ∈ (["from", "word", "marked"] : List Str)))) := inD_t w ["from", "word", "marked"] (by decide +kernel) hw
theorem in_ends (w : Str) (hw : nmOk w = true) : inD (.str w) (.tuple [.str "drop", .str "stop"]) = some (.bool (decide (w ∈ (["drop", "stop"] : List Str)))) := inD_t w ["drop", "stop"] (by decide +kernel) hw
theorem in_deeds (w : Str) (hw : nmOk w = true) : inD (.str w) (.tuple [.str "lay", .str "send", .str "answer", .str "mark", .str "unmark", .str "call"]) = some (.bool (decide (w ∈ (["lay", "send", "answer", "mark", "unmark", "call"] : List Str)))) := inD_t w ["lay", "send", "answer", "mark", "unmark", "call"] (by decide +kernel) hw
theorem isi_tt (ds : List PyData) : isiD "tuple" (.tuple ds) = some (.bool true) := rfl
theorem isi_ss (s : Str) : isiD "str" (.str s) = some (.bool true) := rfl
theorem m_ist_s (n : Nat) (ds : List PyData) : m_ist (n + 1) ds = runD 3 2 (fb_is_test (m_ist n) m_isnum m_isn) ds := rfl
theorem ist_eq : ∀ (n : Nat) (t : Tst), isT n t = true → m_ist (n + 1) [t.enc, .int (n : Int)] = some (.bool true)
  | 0, t, h => by cases h
  | n + 1, t, h => by
    have hn : ¬ ((n : Int) + 1 = 0) := by omega
    have hn1 : (n : Int) + 1 - 1 = n := by omega
    rw [m_ist_s]
    refine (runD_r (by rfl)).trans ?_
    rw [show startR 3 [t.enc, .int ((n + 1 : Nat) : Int)] = [.val t.enc, .val (.int ((n + 1 : Nat) : Int)), .no] from rfl]
    unfold fb_is_test
    cases t with
    | frm s => simp [isT] at h; simp [Tst.enc, gb, gv, eqD_ii, hn, bnd2_ss, asB_b, orB, isi_tt, isi_ss, lenD, ixD_t, atI_0, atI_1, ifR_f, ifR_t, seqR_nx, asgR_s, in_joins, in_named, eqD_ss, neD_ii, ofS_inj, consD_, isn_eq h, andV, retR_s, retD_s, seqR_ret]
    | word s => simp [isT] at h; simp [Tst.enc, gb, gv, eqD_ii, hn, bnd2_ss, asB_b, orB, isi_tt, isi_ss, lenD, ixD_t, atI_0, atI_1, ifR_f, ifR_t, seqR_nx, asgR_s, in_joins, in_named, eqD_ss, neD_ii, ofS_inj, consD_, isn_eq h, andV, retR_s, retD_s, seqR_ret]
    | marked s => simp [isT] at h; simp [Tst.enc, gb, gv, eqD_ii, hn, bnd2_ss, asB_b, orB, isi_tt, isi_ss, lenD, ixD_t, atI_0, atI_1, ifR_f, ifR_t, seqR_nx, asgR_s, in_joins, in_named, eqD_ss, neD_ii, ofS_inj, consD_, isn_eq h, andV, retR_s, retD_s, seqR_ret]
    | over k => simp [isT] at h; simp [Tst.enc, gb, gv, eqD_ii, hn, bnd2_ss, asB_b, orB, isi_tt, isi_ss, lenD, ixD_t, atI_0, atI_1, ifR_f, ifR_t, seqR_nx, asgR_s, in_joins, in_named, eqD_ss, neD_ii, ofS_inj, consD_, isnum_eq h, andV, retR_s, retD_s, seqR_ret]
    | yes => simp [Tst.enc, gb, gv, eqD_ii, hn, bnd2_ss, asB_b, orB, isi_tt, isi_ss, lenD, ixD_t, atI_0, atI_1, ifR_f, ifR_t, seqR_nx, asgR_s, in_joins, in_named, eqD_ss, neD_ii, ofS_inj, consD_, andV, retR_s, retD_s, seqR_ret]
    | not t =>
      have e := ist_eq n t h
      simp [Tst.enc, gb, gv, eqD_ii, hn, hn1, bnd2_ss, asB_b, orB, isi_tt, isi_ss, lenD, ixD_t, atI_0, atI_1, ifR_f, ifR_t, seqR_nx, asgR_s, in_joins, in_named, eqD_ss, neD_ii, subD_ii, ofS_inj, consD_, e, andV, retR_s, retD_s, seqR_ret]
    | both a b =>
      simp only [isT, Bool.and_eq_true] at h
      have e := ist_eq n a h.1
      have e' := ist_eq n b h.2
      simp [Tst.enc, gb, gv, eqD_ii, hn, hn1, bnd2_ss, asB_b, orB, isi_tt, isi_ss, lenD, ixD_t, atI_0, atI_1, atI_2, ifR_f, ifR_t, seqR_nx, asgR_s, in_joins, in_named, eqD_ss, neD_ii, subD_ii, ofS_inj, consD_, e, e', andV, retR_s, retD_s, seqR_ret]
    | either a b =>
      simp only [isT, Bool.and_eq_true] at h
      have e := ist_eq n a h.1
      have e' := ist_eq n b h.2
      simp [Tst.enc, gb, gv, eqD_ii, hn, hn1, bnd2_ss, asB_b, orB, isi_tt, isi_ss, lenD, ixD_t, atI_0, atI_1, atI_2, ifR_f, ifR_t, seqR_nx, asgR_s, in_joins, in_named, eqD_ss, neD_ii, subD_ii, ofS_inj, consD_, e, e', andV, retR_s, retD_s, seqR_ret]
theorem isd_eq {d : Deed} (h : d.nm.all isNm = true) : m_isd [d.enc] = some (.bool true) := by
  unfold m_isd
  refine (runD_r (by rfl)).trans ?_
  rw [show startR 1 [d.enc] = [.val d.enc] from rfl]
  unfold fb_is_deed
  cases d with
  | drop => simp [Deed.enc, gb, gv, eqD_ii, bnd2_ss, asB_b, orB, isi_tt, isi_ss, lenD, ixD_t, atI_0, atI_1, ifR_f, ifR_t, seqR_nx, asgR_s, in_ends, in_deeds, ofS_inj, consD_, tupD_, andV, retR_s, retD_s, seqR_ret]
  | stop => simp [Deed.enc, gb, gv, eqD_ii, bnd2_ss, asB_b, orB, isi_tt, isi_ss, lenD, ixD_t, atI_0, atI_1, ifR_f, ifR_t, seqR_nx, asgR_s, in_ends, in_deeds, ofS_inj, consD_, tupD_, andV, retR_s, retD_s, seqR_ret]
  | _ n =>
    have hn : isNm n = true := by simpa [Deed.nm] using h
    simp [Deed.enc, gb, gv, eqD_ii, bnd2_ss, asB_b, orB, isi_tt, isi_ss, lenD, ixD_t, atI_0, atI_1, ifR_f, ifR_t, seqR_nx, asgR_s, in_ends, in_deeds, ofS_inj, consD_, tupD_, andV, retR_s, retD_s, seqR_ret, isn_eq hn]
def isRl (r : Rul) : Bool := isT 3 r.1 && r.2.all fun d => d.nm.all isNm
def szR (r : Rul) : Bool := decide (1 ≤ r.2.length) && decide (r.2.length ≤ 3)
theorem isr_eq {r : Rul} (h : isRl r = true) (hl : r.2.length ≤ 100) : m_isr [r.enc] = some (.bool (szR r)) := by
  unfold isRl at h
  simp only [Bool.and_eq_true, List.all_eq_true] at h
  unfold m_isr
  refine (runD_r (by rfl)).trans ?_
  rw [show startR 2 [r.enc] = [.val r.enc, .no] from rfl]
  unfold fb_is_rule
  have e1 : m_ist 4 [r.1.enc, .int 3] = some (.bool true) := ist_eq 3 r.1 h.1
  have e2 : ixD r.enc (.int 0) = some r.1.enc := rfl
  have e3 : ixD r.enc (.int 1) = some (.tuple (r.2.map Deed.enc)) := rfl
  have e4 : lenD r.enc = some (.int 2) := rfl
  have e5 : lenD (.tuple (r.2.map Deed.enc)) = some (.int (r.2.length : Int)) := by
    show some (PyData.int ((r.2.map Deed.enc).length : Int)) = _
    rw [List.length_map]
  have e6 : isiD "tuple" r.enc = some (.bool true) := rfl
  simp only [gv_0, gv_s, gb_0, gb_s, scr_0, bnd2_ss, consD_, tupD_, lstD_, asgR_s, seqR_nx, seqR_ret, ifR_t, ifR_f, retR_s, retD_s, asB_b, asI_i, addD_ii, subD_ii, modD_ii, gtD_ii, geD_ii, leD_ii, ltD_ii, eqD_ii, eqD_ss, neD_ss, neD_ii, neD_bb, ixD_t, ixD_l, andB_t, andB_f, orB_t, orB_f, notV_b, mixR_, setsR_nil, setsR_cons, tg1_, tgT_1, tgT_2, tgT_4, asgG_u, walkD_t, walkD_l, tupleD_l, tupleD_t, listD_l, listD_t, lenD_t, lenD_l, wipeR_nil, wipeR_cons, Option.bind_some, Option.map_some, List.set_cons_zero, List.set_cons_succ, List.length_cons, List.length_nil, Nat.zero_add, Nat.reduceAdd, Nat.reduceLeDiff, Int.reduceAdd, Int.reduceLE, Int.reduceLT, Int.reduceNeg, Int.reduceSub, Int.reduceMul, Int.reduceEq, Bool.not_true, Bool.not_false, decide_true, decide_false, atI_0, atI_1, atI_2, atI_3, Int.reduceToNat, e1, e2, e3, e4, e5, e6, isi_tt, chain_le]
  have hs : (decide ((1 : Int) ≤ (r.2.length : Int)) && decide ((r.2.length : Int) ≤ 3)) = szR r := by
    unfold szR
    congr 1
    · exact dec_iff (by omega)
    · exact dec_iff (by omega)
  rw [hs]
  cases hz : szR r with
  | false =>
    simp only [gv_0, gv_s, gb_0, gb_s, scr_0, bnd2_ss, consD_, tupD_, lstD_, asgR_s, seqR_nx, seqR_ret, ifR_t, ifR_f, retR_s, retD_s, asB_b, asI_i, addD_ii, subD_ii, modD_ii, gtD_ii, geD_ii, leD_ii, ltD_ii, eqD_ii, eqD_ss, neD_ss, neD_ii, neD_bb, ixD_t, ixD_l, andB_t, andB_f, orB_t, orB_f, notV_b, mixR_, setsR_nil, setsR_cons, tg1_, tgT_1, tgT_2, tgT_4, asgG_u, walkD_t, walkD_l, tupleD_l, tupleD_t, listD_l, listD_t, lenD_t, lenD_l, wipeR_nil, wipeR_cons, Option.bind_some, Option.map_some, List.set_cons_zero, List.set_cons_succ, List.length_cons, List.length_nil, Nat.zero_add, Nat.reduceAdd, Nat.reduceLeDiff, Int.reduceAdd, Int.reduceLE, Int.reduceLT, Int.reduceNeg, Int.reduceSub, Int.reduceMul, Int.reduceEq, Bool.not_true, Bool.not_false, decide_true, decide_false, atI_0, atI_1, atI_2, atI_3, Int.reduceToNat]
  | true =>
    simp only [gv_0, gv_s, gb_0, gb_s, scr_0, bnd2_ss, consD_, tupD_, lstD_, asgR_s, seqR_nx, seqR_ret, ifR_t, ifR_f, retR_s, retD_s, asB_b, asI_i, addD_ii, subD_ii, modD_ii, gtD_ii, geD_ii, leD_ii, ltD_ii, eqD_ii, eqD_ss, neD_ss, neD_ii, neD_bb, ixD_t, ixD_l, andB_t, andB_f, orB_t, orB_f, notV_b, mixR_, setsR_nil, setsR_cons, tg1_, tgT_1, tgT_2, tgT_4, asgG_u, walkD_t, walkD_l, tupleD_l, tupleD_t, listD_l, listD_t, lenD_t, lenD_l, wipeR_nil, wipeR_cons, Option.bind_some, Option.map_some, List.set_cons_zero, List.set_cons_succ, List.length_cons, List.length_nil, Nat.zero_add, Nat.reduceAdd, Nat.reduceLeDiff, Int.reduceAdd, Int.reduceLE, Int.reduceLT, Int.reduceNeg, Int.reduceSub, Int.reduceMul, Int.reduceEq, Bool.not_true, Bool.not_false, decide_true, decide_false, atI_0, atI_1, atI_2, atI_3, Int.reduceToNat, e3]
    rw [compL_map Deed.enc (fun d => [d.enc]) (fun d => .bool true) r.2 (by omega) (fun _ _ => rfl) (fun d hd => by
      simp only [gv_0, gv_s, gb_0, gb_s, scr_0, bnd2_ss, consD_, tupD_, lstD_, asgR_s, seqR_nx, seqR_ret, ifR_t, ifR_f, retR_s, retD_s, asB_b, asI_i, addD_ii, subD_ii, modD_ii, gtD_ii, geD_ii, leD_ii, ltD_ii, eqD_ii, eqD_ss, neD_ss, neD_ii, neD_bb, ixD_t, ixD_l, andB_t, andB_f, orB_t, orB_f, notV_b, mixR_, setsR_nil, setsR_cons, tg1_, tgT_1, tgT_2, tgT_4, asgG_u, walkD_t, walkD_l, tupleD_l, tupleD_t, listD_l, listD_t, lenD_t, lenD_l, wipeR_nil, wipeR_cons, Option.bind_some, Option.map_some, List.set_cons_zero, List.set_cons_succ, List.length_cons, List.length_nil, Nat.zero_add, Nat.reduceAdd, Nat.reduceLeDiff, Int.reduceAdd, Int.reduceLE, Int.reduceLT, Int.reduceNeg, Int.reduceSub, Int.reduceMul, Int.reduceEq, Bool.not_true, Bool.not_false, decide_true, decide_false, atI_0, atI_1, atI_2, atI_3, Int.reduceToNat, isd_eq (List.all_eq_true.mpr (h.2 d hd))])]
    rw [show (r.2.map fun _ : Deed => PyData.bool true) = r.2.map fun d => PyData.bool ((fun _ => true) d) from rfl]
    simp only [gv_0, gv_s, gb_0, gb_s, scr_0, bnd2_ss, consD_, tupD_, lstD_, asgR_s, seqR_nx, seqR_ret, ifR_t, ifR_f, retR_s, retD_s, asB_b, asI_i, addD_ii, subD_ii, modD_ii, gtD_ii, geD_ii, leD_ii, ltD_ii, eqD_ii, eqD_ss, neD_ss, neD_ii, neD_bb, ixD_t, ixD_l, andB_t, andB_f, orB_t, orB_f, notV_b, mixR_, setsR_nil, setsR_cons, tg1_, tgT_1, tgT_2, tgT_4, asgG_u, walkD_t, walkD_l, tupleD_l, tupleD_t, listD_l, listD_t, lenD_t, lenD_l, wipeR_nil, wipeR_cons, Option.bind_some, Option.map_some, List.set_cons_zero, List.set_cons_succ, List.length_cons, List.length_nil, Nat.zero_add, Nat.reduceAdd, Nat.reduceLeDiff, Int.reduceAdd, Int.reduceLE, Int.reduceLT, Int.reduceNeg, Int.reduceSub, Int.reduceMul, Int.reduceEq, Bool.not_true, Bool.not_false, decide_true, decide_false, atI_0, atI_1, atI_2, atI_3, Int.reduceToNat, all_map']
    simp
def szP (p : Str × List Rul) : Bool := decide (p.2.length ≤ 4) && p.2.all szR
theorem isp_eq {p : Str × List Rul} (hn : isNm p.1 = true) (h : ∀ r ∈ p.2, isRl r = true ∧ r.2.length ≤ 100) (hl : p.2.length ≤ 100) : m_isp [partE p] = some (.bool (szP p)) := by
  unfold m_isp
  refine (runD_r (by rfl)).trans ?_
  rw [show startR 2 [partE p] = [.val (partE p), .no] from rfl]
  unfold fb_is_part
  have e2 : ixD (partE p) (.int 0) = some (.str p.1) := rfl
  have e3 : ixD (partE p) (.int 1) = some (rulesD p.2) := rfl
  have e4 : lenD (partE p) = some (.int 2) := rfl
  have e5 : lenD (rulesD p.2) = some (.int (p.2.length : Int)) := by
    show some (PyData.int ((p.2.map Rul.enc).length : Int)) = _
    rw [List.length_map]
  have e6 : isiD "tuple" (partE p) = some (.bool true) := rfl
  have e7 : isiD "tuple" (rulesD p.2) = some (.bool true) := rfl
  simp only [gv_0, gv_s, gb_0, gb_s, scr_0, bnd2_ss, consD_, tupD_, lstD_, asgR_s, seqR_nx, seqR_ret, ifR_t, ifR_f, retR_s, retD_s, asB_b, asI_i, addD_ii, subD_ii, modD_ii, gtD_ii, geD_ii, leD_ii, ltD_ii, eqD_ii, eqD_ss, neD_ss, neD_ii, neD_bb, ixD_t, ixD_l, andB_t, andB_f, orB_t, orB_f, notV_b, mixR_, setsR_nil, setsR_cons, tg1_, tgT_1, tgT_2, tgT_4, asgG_u, walkD_t, walkD_l, tupleD_l, tupleD_t, listD_l, listD_t, lenD_t, lenD_l, wipeR_nil, wipeR_cons, Option.bind_some, Option.map_some, List.set_cons_zero, List.set_cons_succ, List.length_cons, List.length_nil, Nat.zero_add, Nat.reduceAdd, Nat.reduceLeDiff, Int.reduceAdd, Int.reduceLE, Int.reduceLT, Int.reduceNeg, Int.reduceSub, Int.reduceMul, Int.reduceEq, Bool.not_true, Bool.not_false, decide_true, decide_false, atI_0, atI_1, atI_2, atI_3, Int.reduceToNat, e2, e3, e4, e5, e6, e7, isn_eq hn, walk_rules]
  rw [compL_map Rul.enc (fun r => [r.enc]) (fun r => .bool (szR r)) _ (by omega) (fun _ _ => rfl) (fun r hr => by
    simp only [gv_0, gv_s, gb_0, gb_s, scr_0, bnd2_ss, consD_, tupD_, lstD_, asgR_s, seqR_nx, seqR_ret, ifR_t, ifR_f, retR_s, retD_s, asB_b, asI_i, addD_ii, subD_ii, modD_ii, gtD_ii, geD_ii, leD_ii, ltD_ii, eqD_ii, eqD_ss, neD_ss, neD_ii, neD_bb, ixD_t, ixD_l, andB_t, andB_f, orB_t, orB_f, notV_b, mixR_, setsR_nil, setsR_cons, tg1_, tgT_1, tgT_2, tgT_4, asgG_u, walkD_t, walkD_l, tupleD_l, tupleD_t, listD_l, listD_t, lenD_t, lenD_l, wipeR_nil, wipeR_cons, Option.bind_some, Option.map_some, List.set_cons_zero, List.set_cons_succ, List.length_cons, List.length_nil, Nat.zero_add, Nat.reduceAdd, Nat.reduceLeDiff, Int.reduceAdd, Int.reduceLE, Int.reduceLT, Int.reduceNeg, Int.reduceSub, Int.reduceMul, Int.reduceEq, Bool.not_true, Bool.not_false, decide_true, decide_false, atI_0, atI_1, atI_2, atI_3, Int.reduceToNat, isr_eq (h r hr).1 (h r hr).2])]
  simp only [gv_0, gv_s, gb_0, gb_s, scr_0, bnd2_ss, consD_, tupD_, lstD_, asgR_s, seqR_nx, seqR_ret, ifR_t, ifR_f, retR_s, retD_s, asB_b, asI_i, addD_ii, subD_ii, modD_ii, gtD_ii, geD_ii, leD_ii, ltD_ii, eqD_ii, eqD_ss, neD_ss, neD_ii, neD_bb, ixD_t, ixD_l, andB_t, andB_f, orB_t, orB_f, notV_b, mixR_, setsR_nil, setsR_cons, tg1_, tgT_1, tgT_2, tgT_4, asgG_u, walkD_t, walkD_l, tupleD_l, tupleD_t, listD_l, listD_t, lenD_t, lenD_l, wipeR_nil, wipeR_cons, Option.bind_some, Option.map_some, List.set_cons_zero, List.set_cons_succ, List.length_cons, List.length_nil, Nat.zero_add, Nat.reduceAdd, Nat.reduceLeDiff, Int.reduceAdd, Int.reduceLE, Int.reduceLT, Int.reduceNeg, Int.reduceSub, Int.reduceMul, Int.reduceEq, Bool.not_true, Bool.not_false, decide_true, decide_false, atI_0, atI_1, atI_2, atI_3, Int.reduceToNat, all_map', andV_bb]
  unfold szP
  rw [show decide ((p.2.length : Int) ≤ 4) = decide (p.2.length ≤ 4) from dec_iff (by omega)]
theorem cls_eq {r : Rul} (hl : r.2.length ≤ 100) : m_cls [r.enc] = some (.list ((r.2.filter fun d => decide (d.word = ("call" : Str))).map fun d => .str d.arg)) := by
  unfold m_cls
  refine (runD_r (by rfl)).trans ?_
  rw [show startR 2 [r.enc] = [.val r.enc, .no] from rfl]
  unfold fb_calls_of
  have e3 : ixD r.enc (.int 1) = some (.tuple (r.2.map Deed.enc)) := rfl
  simp only [gv_0, gv_s, gb_0, gb_s, scr_0, bnd2_ss, consD_, tupD_, lstD_, asgR_s, seqR_nx, seqR_ret, ifR_t, ifR_f, retR_s, retD_s, asB_b, asI_i, addD_ii, subD_ii, modD_ii, gtD_ii, geD_ii, leD_ii, ltD_ii, eqD_ii, eqD_ss, neD_ss, neD_ii, neD_bb, ixD_t, ixD_l, andB_t, andB_f, orB_t, orB_f, notV_b, mixR_, setsR_nil, setsR_cons, tg1_, tgT_1, tgT_2, tgT_4, asgG_u, walkD_t, walkD_l, tupleD_l, tupleD_t, listD_l, listD_t, lenD_t, lenD_l, wipeR_nil, wipeR_cons, Option.bind_some, Option.map_some, List.set_cons_zero, List.set_cons_succ, List.length_cons, List.length_nil, Nat.zero_add, Nat.reduceAdd, Nat.reduceLeDiff, Int.reduceAdd, Int.reduceLE, Int.reduceLT, Int.reduceNeg, Int.reduceSub, Int.reduceMul, Int.reduceEq, Bool.not_true, Bool.not_false, decide_true, decide_false, atI_0, atI_1, atI_2, atI_3, Int.reduceToNat, e3]
  rw [compL_gen Deed.enc (fun d => [d.enc]) (fun d => decide (d.word = ("call" : Str))) (fun d => .str d.arg) r.2 (by omega) (fun _ _ => rfl) (fun d hd => by simp only [gv_0, gv_s, gb_0, gb_s, scr_0, bnd2_ss, consD_, tupD_, lstD_, asgR_s, seqR_nx, seqR_ret, ifR_t, ifR_f, retR_s, retD_s, asB_b, asI_i, addD_ii, subD_ii, modD_ii, gtD_ii, geD_ii, leD_ii, ltD_ii, eqD_ii, eqD_ss, neD_ss, neD_ii, neD_bb, ixD_t, ixD_l, andB_t, andB_f, orB_t, orB_f, notV_b, mixR_, setsR_nil, setsR_cons, tg1_, tgT_1, tgT_2, tgT_4, asgG_u, walkD_t, walkD_l, tupleD_l, tupleD_t, listD_l, listD_t, lenD_t, lenD_l, wipeR_nil, wipeR_cons, Option.bind_some, Option.map_some, List.set_cons_zero, List.set_cons_succ, List.length_cons, List.length_nil, Nat.zero_add, Nat.reduceAdd, Nat.reduceLeDiff, Int.reduceAdd, Int.reduceLE, Int.reduceLT, Int.reduceNeg, Int.reduceSub, Int.reduceMul, Int.reduceEq, Bool.not_true, Bool.not_false, decide_true, decide_false, atI_0, atI_1, atI_2, atI_3, Int.reduceToNat, deed_w]) (fun d hd hc => by
    have hw : d.word = "call" := of_decide_eq_true hc
    simp only [gv_0, gv_s, gb_0, gb_s, scr_0, bnd2_ss, consD_, tupD_, lstD_, asgR_s, seqR_nx, seqR_ret, ifR_t, ifR_f, retR_s, retD_s, asB_b, asI_i, addD_ii, subD_ii, modD_ii, gtD_ii, geD_ii, leD_ii, ltD_ii, eqD_ii, eqD_ss, neD_ss, neD_ii, neD_bb, ixD_t, ixD_l, andB_t, andB_f, orB_t, orB_f, notV_b, mixR_, setsR_nil, setsR_cons, tg1_, tgT_1, tgT_2, tgT_4, asgG_u, walkD_t, walkD_l, tupleD_l, tupleD_t, listD_l, listD_t, lenD_t, lenD_l, wipeR_nil, wipeR_cons, Option.bind_some, Option.map_some, List.set_cons_zero, List.set_cons_succ, List.length_cons, List.length_nil, Nat.zero_add, Nat.reduceAdd, Nat.reduceLeDiff, Int.reduceAdd, Int.reduceLE, Int.reduceLT, Int.reduceNeg, Int.reduceSub, Int.reduceMul, Int.reduceEq, Bool.not_true, Bool.not_false, decide_true, decide_false, atI_0, atI_1, atI_2, atI_3, Int.reduceToNat]
    exact deed_a (by
      cases d with
      | drop => revert hw; simp only [Deed.word]; decide +kernel
      | stop => revert hw; simp only [Deed.word]; decide +kernel
      | _ => rfl))]
  rfl
def isBk (b : Book) : Bool := decide (b.length ≤ 3) && b.all szP && rising b.names
structure NmB (b : Book) : Prop where
  nm : ∀ p ∈ b, isNm p.1 = true
  rl : ∀ p ∈ b, ∀ r ∈ p.2, isRl r = true
end Sv
namespace Sv
open PySem L2 Evl
def numS (n : Int) : Str := Str.ofString (toString n)
def wT : Tst → List Str
  | .frm s => ["from", s]
  | .word s => ["word", s]
  | .over n => ["over", numS n]
  | .marked s => ["marked", s]
  | .yes => ["yes"]
  | .not t => "not" :: wT t
  | .both a b => "both" :: (wT a ++ wT b)
  | .either a b => "either" :: (wT a ++ wT b)
def dW : Deed → List Str
  | .call n => ["call", n]
  | .drop => ["drop"]
  | .stop => ["stop"]
  | .lay n => ["lay", n]
  | .send n => ["send", n]
  | .ans n => ["answer", n]
  | .mark n => ["mark", n]
  | .unmark n => ["unmark", n]
def toRow (n : Str) : List Str := ["to", n]
def ifRow (t : Tst) : List Str := "if" :: wT t
def doRow (d : Deed) : List Str := "do" :: dW d
def rowsR (r : Rul) : List (List Str) := ifRow r.1 :: r.2.map doRow
def rowsP (p : Str × List Rul) : List (List Str) := toRow p.1 :: p.2.flatMap rowsR
def rowsB (b : Book) : List (List Str) := b.flatMap rowsP
theorem wT_len : ∀ t : Tst, (wT t).length + 1 ≤ 3 * 2 ^ t.dep
  | .frm _ => by simp [wT, Tst.dep]
  | .word _ => by simp [wT, Tst.dep]
  | .over _ => by simp [wT, Tst.dep]
  | .marked _ => by simp [wT, Tst.dep]
  | .yes => by simp [wT, Tst.dep]
  | .not t => by
    have h1 := wT_len t
    simp only [wT, Tst.dep, Nat.pow_succ, List.length_cons]; omega
  | .both a b => by
    have h1 := wT_len a
    have h2 := wT_len b
    have e1 : 2 ^ a.dep ≤ 2 ^ (max a.dep b.dep) := Nat.pow_le_pow_right (by decide) (by omega)
    have e2 : 2 ^ b.dep ≤ 2 ^ (max a.dep b.dep) := Nat.pow_le_pow_right (by decide) (by omega)
    simp only [wT, Tst.dep, Nat.pow_succ, List.length_cons, List.length_append]; omega
  | .either a b => by
    have h1 := wT_len a
    have h2 := wT_len b
    have e1 : 2 ^ a.dep ≤ 2 ^ (max a.dep b.dep) := Nat.pow_le_pow_right (by decide) (by omega)
    have e2 : 2 ^ b.dep ≤ 2 ^ (max a.dep b.dep) := Nat.pow_le_pow_right (by decide) (by omega)
    simp only [wT, Tst.dep, Nat.pow_succ, List.length_cons, List.length_append]; omega
theorem wT_len24 {t : Tst} (h : t.dep ≤ 3) : (wT t).length ≤ 24 := by
  have h1 := wT_len t
  have h2 : 2 ^ t.dep ≤ 2 ^ 3 := Nat.pow_le_pow_right (by decide) h
  omega
theorem ex_l {ρ : Rho} {i : Nat} {ds es : List PyData} {p : Bool} (hi : ρ[i]? = some (.own ⟨lO ds, p⟩)) (h : ds.length + es.length ≤ 1000) : extP i (fun ρ => some []) ρ (some (.list es)) = some (.nx (ρ.set i (.own ⟨lO (ds ++ es), p⟩))) := by
  unfold extP mutR ownO
  simp only [Option.bind_some, isL, hi, bnd2_ss, getP]
  unfold extO lO
  dsimp only
  rw [if_pos (lenOk_ (by simpa using h))]
  simp [setP]
theorem strsO_map : ∀ ss : List Str, strsO (ss.map .str) = some ss
  | [] => rfl
  | s :: ss => by simp only [List.map_cons, strsO, strsO_map ss]; rfl
theorem len_cp (s : Str) : s.length = (cpL s).length := by simp [Str.length, cpL]
theorem sum_le {c : Nat} : ∀ {ns : List Nat}, (∀ n ∈ ns, n ≤ c) → ns.sum ≤ ns.length * c
  | [], _ => by simp
  | n :: ns, h => by
    have h1 := h n List.mem_cons_self
    have h2 := sum_le (ns := ns) fun x hx => h x (List.mem_cons_of_mem _ hx)
    rw [List.sum_cons, List.length_cons, Nat.add_mul]
    omega
structure RowOk (ws : List Str) : Prop where
  few : ws.length ≤ 30
  sh : ∀ w ∈ ws, (cpL w).length ≤ 20
end Sv
namespace Sv
open PySem L2 Evl
end Sv
namespace Sv
open PySem L2 Evl
inductive Row where
  | to (n : Str)
  | ifr (t : Tst)
  | dor (d : Deed)
inductive Step : Book → Row → Book → Prop where
  | to (q : Book) (n : Str) : Step q (.to n) (q ++ [(n, [])])
  | ifr (q : Book) (n : Str) (rs : List Rul) (t : Tst) : Step (q ++ [(n, rs)]) (.ifr t) (q ++ [(n, rs ++ [(t, [])])])
  | dor (q : Book) (n : Str) (rs : List Rul) (t : Tst) (ds : List Deed) (d : Deed) : Step (q ++ [(n, rs ++ [(t, ds)])]) (.dor d) (q ++ [(n, rs ++ [(t, ds ++ [d])])])
inductive Steps : Book → List Row → Book → Prop where
  | nil (q : Book) : Steps q [] q
  | cons {p q r : Book} {x : Row} {xs : List Row} (h : Step p x q) (t : Steps q xs r) : Steps p (x :: xs) r
theorem Steps.app {p q r : Book} {xs ys : List Row} (h : Steps p xs q) (g : Steps q ys r) : Steps p (xs ++ ys) r := by
  induction h with
  | nil => exact g
  | cons h t ih => exact .cons h (ih g)
structure RowV (ws : List Str) : Prop where
  ok : RowOk ws
  sp : ∀ w ∈ ws, 32 ∉ cpL w
  nl : ∀ w ∈ ws, 10 ∉ cpL w
theorem S_len (a : List Nat) : Str.length (SX.S a) = a.length := by simp [SX.S, Str.length]
end Sv
namespace Sv
open PySem L2 Evl
end Sv
namespace Sv
open PySem L2 Evl
mutual
def wf : PyData → Bool
  | .none => true
  | .bool _ => true
  | .int _ => true
  | .str s => nmOk s && decide (s.length ≤ 1000000)
  | .list xs => wfL xs
  | .tuple xs => wfL xs
  | .dict _ => false
def wfL : List PyData → Bool
  | [] => true
  | x :: xs => wf x && wfL xs
end
theorem wfL_mem : ∀ {xs : List PyData}, wfL xs = true → ∀ x ∈ xs, wf x = true
  | [], _, _, h => nomatch h
  | y :: ys, h, x, hx => by
    simp only [wfL, Bool.and_eq_true] at h
    rcases List.mem_cons.mp hx with rfl | hx
    · exact h.1
    · exact wfL_mem h.2 x hx
theorem wfL_of : ∀ {xs : List PyData}, (∀ x ∈ xs, wf x = true) → wfL xs = true
  | [], _ => rfl
  | y :: ys, h => by
    simp only [wfL, Bool.and_eq_true]
    exact ⟨h y List.mem_cons_self, wfL_of fun x hx => h x (List.mem_cons_of_mem _ hx)⟩
theorem wf_t {xs : List PyData} (h : wf (.tuple xs) = true) : ∀ x ∈ xs, wf x = true := wfL_mem (by simpa only [wf] using h)
theorem wf_tuple {xs : List PyData} (h : ∀ x ∈ xs, wf x = true) : wf (.tuple xs) = true := by simpa only [wf] using wfL_of h
theorem wf_list {xs : List PyData} (h : ∀ x ∈ xs, wf x = true) : wf (.list xs) = true := by simpa only [wf] using wfL_of h
theorem wf_s {s : Str} (h : wf (.str s) = true) : nmOk s = true ∧ s.length ≤ 1000000 := by
  simp only [wf, Bool.and_eq_true, decide_eq_true_eq] at h
  exact h
theorem wf_str {s : Str} (h : nmOk s = true) (hl : s.length ≤ 1000000) : wf (.str s) = true := by
  simp only [wf, Bool.and_eq_true, decide_eq_true_eq]
  exact ⟨h, hl⟩
theorem big_len {n : Nat} (h : n ≤ 1000000) : lenOk n = true := decide_eq_true (Nat.le_trans h (by decide))
theorem andV_t (b : Option PyData) : andV (some (.bool true)) b = b := rfl
theorem andV_f (b : Option PyData) : andV (some (.bool false)) b = some (.bool false) := rfl
theorem orV_f (b : Option PyData) : orV (some (.bool false)) b = b := rfl
def nmB : PyData → Bool
  | .str s => isNm s
  | _ => false
def numbB : PyData → Bool
  | .int n => decide (0 ≤ n) && decide (n ≤ 999)
  | _ => false
def strOf : PyData → Str
  | .str s => s
  | _ => ""
def namesB : PyData → Bool
  | .tuple ds => decide (ds.length ≤ 3) && ds.all nmB && rising (ds.map strOf)
  | _ => false
def letB : PyData → Bool
  | .tuple [a, b, c, d] => nmB a && (namesB b && (numbB c && namesB d))
  | _ => false
def tstB : Nat → PyData → Bool
  | 0, _ => false
  | n + 1, .tuple (.str w :: r) =>
    if w ∈ (["both", "either"] : List Str) then (match r with | [a, b] => tstB n a && tstB n b | _ => false)
    else if w = "yes" then (match r with | [] => true | _ => false)
    else match r with
      | [a] => if w = "not" then tstB n a else if w = "over" then numbB a else decide (w ∈ (["from", "word", "marked"] : List Str)) && nmB a
      | _ => false
  | _ + 1, _ => false
def deedB : PyData → Bool
  | .tuple (.str w :: r) =>
    if w ∈ (["drop", "stop"] : List Str) then (match r with | [] => true | _ => false)
    else match r with
      | [a] => decide (w ∈ (["lay", "send", "answer", "mark", "unmark", "call"] : List Str)) && nmB a
      | _ => false
  | _ => false
def rulB : PyData → Bool
  | .tuple [t, .tuple ds] => tstB 3 t && (decide (1 ≤ ds.length) && decide (ds.length ≤ 3)) && ds.all deedB
  | _ => false
def partB' : PyData → Bool
  | .tuple [n, .tuple rs] => nmB n && (decide (rs.length ≤ 4) && rs.all rulB)
  | _ => false
theorem len_str {s : Str} (h : s.length ≤ 1000000) : lenD (.str s) = some (.int (s.length : Int)) := by
  show (if lenOk s.length then some (PyData.int s.length) else none) = _
  rw [if_pos (big_len h)]
theorem isn_s {s : Str} (h : s.length ≤ 1000000) : m_isn [.str s] = some (.bool (isNm s)) := by
  unfold m_isn
  refine (runD_r (by rfl)).trans ?_
  rw [show startR 2 [.str s] = [.val (.str s), .no] from rfl]
  unfold fb_is_name
  simp only [gv_0, gv_s, gb_0, gb_s, scr_0, bnd2_ss, consD_, tupD_, lstD_, asgR_s, seqR_nx, seqR_ret, ifR_t, ifR_f, retR_s, retD_s, asB_b, asI_i, addD_ii, subD_ii, modD_ii, gtD_ii, geD_ii, leD_ii, ltD_ii, eqD_ii, eqD_ss, neD_ss, neD_ii, neD_bb, ixD_t, ixD_l, andB_t, andB_f, orB_t, orB_f, notV_b, mixR_, setsR_nil, setsR_cons, tg1_, tgT_1, tgT_2, tgT_4, asgG_u, walkD_t, walkD_l, tupleD_l, tupleD_t, listD_l, listD_t, lenD_t, lenD_l, wipeR_nil, wipeR_cons, Option.bind_some, Option.map_some, List.set_cons_zero, List.set_cons_succ, List.length_cons, List.length_nil, Nat.zero_add, Nat.reduceAdd, Nat.reduceLeDiff, Int.reduceAdd, Int.reduceLE, Int.reduceLT, Int.reduceNeg, Int.reduceSub, Int.reduceMul, Int.reduceEq, Bool.not_true, Bool.not_false, decide_true, decide_false, atI_0, atI_1, atI_2, atI_3, Int.reduceToNat, len_str h, chain_le, show walkD (.str s) = some (s.cps.toList.map fun c => .str ⟨#[c]⟩) from rfl, show isiD "str" (.str s) = some (.bool true) from rfl, andV_t]
  have hc : s.length = s.cps.toList.length := by simp [Str.length]
  by_cases h1 : 1 ≤ s.length ∧ s.length ≤ 5
  · rw [decide_eq_true (by omega : (1 : Int) ≤ (s.length : Int)), decide_eq_true (by omega : (s.length : Int) ≤ 5)]
    rw [compL_map (fun c : Nat => PyData.str ⟨#[c]⟩) (fun c => [.str ⟨#[c]⟩]) (fun c => .bool (decide (c ∈ abc))) _ (by omega) (fun _ _ => rfl) (fun c _ => by simp only [gv_0, gv_s, gb_0, gb_s, scr_0, bnd2_ss, consD_, tupD_, lstD_, asgR_s, seqR_nx, seqR_ret, ifR_t, ifR_f, retR_s, retD_s, asB_b, asI_i, addD_ii, subD_ii, modD_ii, gtD_ii, geD_ii, leD_ii, ltD_ii, eqD_ii, eqD_ss, neD_ss, neD_ii, neD_bb, ixD_t, ixD_l, andB_t, andB_f, orB_t, orB_f, notV_b, mixR_, setsR_nil, setsR_cons, tg1_, tgT_1, tgT_2, tgT_4, asgG_u, walkD_t, walkD_l, tupleD_l, tupleD_t, listD_l, listD_t, lenD_t, lenD_l, wipeR_nil, wipeR_cons, Option.bind_some, Option.map_some, List.set_cons_zero, List.set_cons_succ, List.length_cons, List.length_nil, Nat.zero_add, Nat.reduceAdd, Nat.reduceLeDiff, Int.reduceAdd, Int.reduceLE, Int.reduceLT, Int.reduceNeg, Int.reduceSub, Int.reduceMul, Int.reduceEq, Bool.not_true, Bool.not_false, decide_true, decide_false, atI_0, atI_1, atI_2, atI_3, Int.reduceToNat, inSg_c])]
    simp only [gv_0, gv_s, gb_0, gb_s, scr_0, bnd2_ss, consD_, tupD_, lstD_, asgR_s, seqR_nx, seqR_ret, ifR_t, ifR_f, retR_s, retD_s, asB_b, asI_i, addD_ii, subD_ii, modD_ii, gtD_ii, geD_ii, leD_ii, ltD_ii, eqD_ii, eqD_ss, neD_ss, neD_ii, neD_bb, ixD_t, ixD_l, andB_t, andB_f, orB_t, orB_f, notV_b, mixR_, setsR_nil, setsR_cons, tg1_, tgT_1, tgT_2, tgT_4, asgG_u, walkD_t, walkD_l, tupleD_l, tupleD_t, listD_l, listD_t, lenD_t, lenD_l, wipeR_nil, wipeR_cons, Option.bind_some, Option.map_some, List.set_cons_zero, List.set_cons_succ, List.length_cons, List.length_nil, Nat.zero_add, Nat.reduceAdd, Nat.reduceLeDiff, Int.reduceAdd, Int.reduceLE, Int.reduceLT, Int.reduceNeg, Int.reduceSub, Int.reduceMul, Int.reduceEq, Bool.not_true, Bool.not_false, decide_true, decide_false, atI_0, atI_1, atI_2, atI_3, Int.reduceToNat, all_map', Bool.and_self, andV_t]
    unfold isNm
    rw [decide_eq_true h1.1, decide_eq_true h1.2]
    rfl
  · have e : (decide ((1 : Int) ≤ (s.length : Int)) && decide ((s.length : Int) ≤ 5)) = false := by
      rw [Bool.and_eq_false_iff]
      by_cases h2 : 1 ≤ s.length
      · exact .inr (decide_eq_false (by omega))
      · exact .inl (decide_eq_false (by omega))
    have e2 : isNm s = false := by
      unfold isNm
      rw [Bool.and_eq_false_iff]
      left
      rw [Bool.and_eq_false_iff]
      by_cases h2 : 1 ≤ s.length
      · exact .inr (decide_eq_false (by omega))
      · exact .inl (decide_eq_false (by omega))
    rw [e, e2, andV_f]
    rfl
theorem isn_tot {d : PyData} (h : wf d = true) : m_isn [d] = some (.bool (nmB d)) := by
  cases d with
  | str s => exact isn_s (wf_s h).2
  | dict _ => cases h
  | _ => rfl
theorem isnum_tot {d : PyData} (h : wf d = true) : m_isnum [d] = some (.bool (numbB d)) := by
  cases d with
  | int n =>
    unfold m_isnum
    refine (runD_r (by rfl)).trans ?_
    rw [show startR 1 [.int n] = [.val (.int n)] from rfl]
    unfold fb_is_number
    simp only [gv_0, gv_s, gb_0, gb_s, scr_0, bnd2_ss, consD_, tupD_, lstD_, asgR_s, seqR_nx, seqR_ret, ifR_t, ifR_f, retR_s, retD_s, asB_b, asI_i, addD_ii, subD_ii, modD_ii, gtD_ii, geD_ii, leD_ii, ltD_ii, eqD_ii, eqD_ss, neD_ss, neD_ii, neD_bb, ixD_t, ixD_l, andB_t, andB_f, orB_t, orB_f, notV_b, mixR_, setsR_nil, setsR_cons, tg1_, tgT_1, tgT_2, tgT_4, asgG_u, walkD_t, walkD_l, tupleD_l, tupleD_t, listD_l, listD_t, lenD_t, lenD_l, wipeR_nil, wipeR_cons, Option.bind_some, Option.map_some, List.set_cons_zero, List.set_cons_succ, List.length_cons, List.length_nil, Nat.zero_add, Nat.reduceAdd, Nat.reduceLeDiff, Int.reduceAdd, Int.reduceLE, Int.reduceLT, Int.reduceNeg, Int.reduceSub, Int.reduceMul, Int.reduceEq, Bool.not_true, Bool.not_false, decide_true, decide_false, atI_0, atI_1, atI_2, atI_3, Int.reduceToNat, chain_le]
    rw [show isiD "int" (.int n) = some (.bool true) from rfl, show isiD "bool" (.int n) = some (.bool false) from rfl]
    rfl
  | dict _ => cases h
  | _ => rfl
theorem strOf_map : ∀ {ds : List PyData}, ds.all nmB = true → ds = (ds.map strOf).map .str
  | [], _ => rfl
  | d :: ds, h => by
    simp only [List.all_cons, Bool.and_eq_true] at h
    have := strOf_map h.2
    simp only [List.map_cons]
    rw [← this]
    cases d with
    | str s => rfl
    | _ => cases h.1
def m_arn : List PyData → Option PyData := runD 2 1 (fb_are_names m_isn m_ris)
theorem arn_tot {d : PyData} (h : wf d = true) : m_arn [d] = some (.bool (namesB d)) := by
  cases d with
  | tuple ds =>
    have hw := wf_t h
    unfold m_arn
    refine (runD_r (by rfl)).trans ?_
    rw [show startR 2 [.tuple ds] = [.val (.tuple ds), .no] from rfl]
    unfold fb_are_names
    by_cases h3 : ds.length ≤ 3
    · have e1 : compL (some ds) tg1 [1] (fun ρ => some true) (fun ρ => ((bnd2 (gv 1 ρ) (some []) consD)).bind m_isn) [1] [.val (.tuple ds), .no] = some (.list (ds.map fun d => .bool (nmB d))) := by
        have := compL_map (h := tg1) (is := [1]) (vs := [1]) (ρ := [.val (.tuple ds), .no]) (fe := fun ρ => ((bnd2 (gv 1 ρ) (some []) consD)).bind m_isn) (fun d : PyData => d) (fun d => [d]) (fun d => .bool (nmB d)) ds (by omega) (fun _ _ => rfl) (fun d hd => by simp only [gv_0, gv_s, gb_0, gb_s, scr_0, bnd2_ss, consD_, tupD_, lstD_, asgR_s, seqR_nx, seqR_ret, ifR_t, ifR_f, retR_s, retD_s, asB_b, asI_i, addD_ii, subD_ii, modD_ii, gtD_ii, geD_ii, leD_ii, ltD_ii, eqD_ii, eqD_ss, neD_ss, neD_ii, neD_bb, ixD_t, ixD_l, andB_t, andB_f, orB_t, orB_f, notV_b, mixR_, setsR_nil, setsR_cons, tg1_, tgT_1, tgT_2, tgT_4, asgG_u, walkD_t, walkD_l, tupleD_l, tupleD_t, listD_l, listD_t, lenD_t, lenD_l, wipeR_nil, wipeR_cons, Option.bind_some, Option.map_some, List.set_cons_zero, List.set_cons_succ, List.length_cons, List.length_nil, Nat.zero_add, Nat.reduceAdd, Nat.reduceLeDiff, Int.reduceAdd, Int.reduceLE, Int.reduceLT, Int.reduceNeg, Int.reduceSub, Int.reduceMul, Int.reduceEq, Bool.not_true, Bool.not_false, decide_true, decide_false, atI_0, atI_1, atI_2, atI_3, Int.reduceToNat, isn_tot (hw d hd)])
        rwa [List.map_id'] at this
      cases ha : ds.all nmB with
      | false =>
        simp only [gv_0, gv_s, gb_0, gb_s, scr_0, bnd2_ss, consD_, tupD_, lstD_, asgR_s, seqR_nx, seqR_ret, ifR_t, ifR_f, retR_s, retD_s, asB_b, asI_i, addD_ii, subD_ii, modD_ii, gtD_ii, geD_ii, leD_ii, ltD_ii, eqD_ii, eqD_ss, neD_ss, neD_ii, neD_bb, ixD_t, ixD_l, andB_t, andB_f, orB_t, orB_f, notV_b, mixR_, setsR_nil, setsR_cons, tg1_, tgT_1, tgT_2, tgT_4, asgG_u, walkD_t, walkD_l, tupleD_l, tupleD_t, listD_l, listD_t, lenD_t, lenD_l, wipeR_nil, wipeR_cons, Option.bind_some, Option.map_some, List.set_cons_zero, List.set_cons_succ, List.length_cons, List.length_nil, Nat.zero_add, Nat.reduceAdd, Nat.reduceLeDiff, Int.reduceAdd, Int.reduceLE, Int.reduceLT, Int.reduceNeg, Int.reduceSub, Int.reduceMul, Int.reduceEq, Bool.not_true, Bool.not_false, decide_true, decide_false, atI_0, atI_1, atI_2, atI_3, Int.reduceToNat, isi_tt, show decide ((3 : Int) < (ds.length : Int)) = false from decide_eq_false (by omega)]
        rw [e1]
        simp only [gv_0, gv_s, gb_0, gb_s, scr_0, bnd2_ss, consD_, tupD_, lstD_, asgR_s, seqR_nx, seqR_ret, ifR_t, ifR_f, retR_s, retD_s, asB_b, asI_i, addD_ii, subD_ii, modD_ii, gtD_ii, geD_ii, leD_ii, ltD_ii, eqD_ii, eqD_ss, neD_ss, neD_ii, neD_bb, ixD_t, ixD_l, andB_t, andB_f, orB_t, orB_f, notV_b, mixR_, setsR_nil, setsR_cons, tg1_, tgT_1, tgT_2, tgT_4, asgG_u, walkD_t, walkD_l, tupleD_l, tupleD_t, listD_l, listD_t, lenD_t, lenD_l, wipeR_nil, wipeR_cons, Option.bind_some, Option.map_some, List.set_cons_zero, List.set_cons_succ, List.length_cons, List.length_nil, Nat.zero_add, Nat.reduceAdd, Nat.reduceLeDiff, Int.reduceAdd, Int.reduceLE, Int.reduceLT, Int.reduceNeg, Int.reduceSub, Int.reduceMul, Int.reduceEq, Bool.not_true, Bool.not_false, decide_true, decide_false, atI_0, atI_1, atI_2, atI_3, Int.reduceToNat, all_map', ha]
        show some (PyData.bool false) = some (.bool (decide (ds.length ≤ 3) && ds.all nmB && _))
        rw [ha, Bool.and_false, Bool.false_and]
      | true =>
        have hs := strOf_map ha
        refine rt_step (ρ := [.val (.tuple ds), .no]) (if_no (by
          simp only [gv_0, gv_s, gb_0, gb_s, scr_0, bnd2_ss, consD_, tupD_, lstD_, asgR_s, seqR_nx, seqR_ret, ifR_t, ifR_f, retR_s, retD_s, asB_b, asI_i, addD_ii, subD_ii, modD_ii, gtD_ii, geD_ii, leD_ii, ltD_ii, eqD_ii, eqD_ss, neD_ss, neD_ii, neD_bb, ixD_t, ixD_l, andB_t, andB_f, orB_t, orB_f, notV_b, mixR_, setsR_nil, setsR_cons, tg1_, tgT_1, tgT_2, tgT_4, asgG_u, walkD_t, walkD_l, tupleD_l, tupleD_t, listD_l, listD_t, lenD_t, lenD_l, wipeR_nil, wipeR_cons, Option.bind_some, Option.map_some, List.set_cons_zero, List.set_cons_succ, List.length_cons, List.length_nil, Nat.zero_add, Nat.reduceAdd, Nat.reduceLeDiff, Int.reduceAdd, Int.reduceLE, Int.reduceLT, Int.reduceNeg, Int.reduceSub, Int.reduceMul, Int.reduceEq, Bool.not_true, Bool.not_false, decide_true, decide_false, atI_0, atI_1, atI_2, atI_3, Int.reduceToNat, isi_tt, show decide ((3 : Int) < (ds.length : Int)) = false from decide_eq_false (by omega)]
          rw [e1]
          simp only [gv_0, gv_s, gb_0, gb_s, scr_0, bnd2_ss, consD_, tupD_, lstD_, asgR_s, seqR_nx, seqR_ret, ifR_t, ifR_f, retR_s, retD_s, asB_b, asI_i, addD_ii, subD_ii, modD_ii, gtD_ii, geD_ii, leD_ii, ltD_ii, eqD_ii, eqD_ss, neD_ss, neD_ii, neD_bb, ixD_t, ixD_l, andB_t, andB_f, orB_t, orB_f, notV_b, mixR_, setsR_nil, setsR_cons, tg1_, tgT_1, tgT_2, tgT_4, asgG_u, walkD_t, walkD_l, tupleD_l, tupleD_t, listD_l, listD_t, lenD_t, lenD_l, wipeR_nil, wipeR_cons, Option.bind_some, Option.map_some, List.set_cons_zero, List.set_cons_succ, List.length_cons, List.length_nil, Nat.zero_add, Nat.reduceAdd, Nat.reduceLeDiff, Int.reduceAdd, Int.reduceLE, Int.reduceLT, Int.reduceNeg, Int.reduceSub, Int.reduceMul, Int.reduceEq, Bool.not_true, Bool.not_false, decide_true, decide_false, atI_0, atI_1, atI_2, atI_3, Int.reduceToNat, all_map', ha]) rfl) ?_
        have e2 := ris_t (ss := ds.map strOf) (by rw [List.length_map]; omega)
        unfold strsD at e2
        rw [← hs] at e2
        simp only [gv_0, gv_s, gb_0, gb_s, scr_0, bnd2_ss, consD_, tupD_, lstD_, asgR_s, seqR_nx, seqR_ret, ifR_t, ifR_f, retR_s, retD_s, asB_b, asI_i, addD_ii, subD_ii, modD_ii, gtD_ii, geD_ii, leD_ii, ltD_ii, eqD_ii, eqD_ss, neD_ss, neD_ii, neD_bb, ixD_t, ixD_l, andB_t, andB_f, orB_t, orB_f, notV_b, mixR_, setsR_nil, setsR_cons, tg1_, tgT_1, tgT_2, tgT_4, asgG_u, walkD_t, walkD_l, tupleD_l, tupleD_t, listD_l, listD_t, lenD_t, lenD_l, wipeR_nil, wipeR_cons, Option.bind_some, Option.map_some, List.set_cons_zero, List.set_cons_succ, List.length_cons, List.length_nil, Nat.zero_add, Nat.reduceAdd, Nat.reduceLeDiff, Int.reduceAdd, Int.reduceLE, Int.reduceLT, Int.reduceNeg, Int.reduceSub, Int.reduceMul, Int.reduceEq, Bool.not_true, Bool.not_false, decide_true, decide_false, atI_0, atI_1, atI_2, atI_3, Int.reduceToNat, e2]
        show some (PyData.bool _) = some (.bool (decide (ds.length ≤ 3) && ds.all nmB && _))
        rw [ha, decide_eq_true h3]
        rfl
    · simp only [gv_0, gv_s, gb_0, gb_s, scr_0, bnd2_ss, consD_, tupD_, lstD_, asgR_s, seqR_nx, seqR_ret, ifR_t, ifR_f, retR_s, retD_s, asB_b, asI_i, addD_ii, subD_ii, modD_ii, gtD_ii, geD_ii, leD_ii, ltD_ii, eqD_ii, eqD_ss, neD_ss, neD_ii, neD_bb, ixD_t, ixD_l, andB_t, andB_f, orB_t, orB_f, notV_b, mixR_, setsR_nil, setsR_cons, tg1_, tgT_1, tgT_2, tgT_4, asgG_u, walkD_t, walkD_l, tupleD_l, tupleD_t, listD_l, listD_t, lenD_t, lenD_l, wipeR_nil, wipeR_cons, Option.bind_some, Option.map_some, List.set_cons_zero, List.set_cons_succ, List.length_cons, List.length_nil, Nat.zero_add, Nat.reduceAdd, Nat.reduceLeDiff, Int.reduceAdd, Int.reduceLE, Int.reduceLT, Int.reduceNeg, Int.reduceSub, Int.reduceMul, Int.reduceEq, Bool.not_true, Bool.not_false, decide_true, decide_false, atI_0, atI_1, atI_2, atI_3, Int.reduceToNat, isi_tt, show decide ((3 : Int) < (ds.length : Int)) = true from decide_eq_true (by omega)]
      show some (PyData.bool false) = some (.bool (decide (ds.length ≤ 3) && ds.all nmB && _))
      rw [decide_eq_false h3, Bool.false_and, Bool.false_and]
  | dict _ => cases h
  | _ => rfl
def m_isl : List PyData → Option PyData := runD 1 1 (fb_is_letter m_isn m_arn m_isnum)
theorem isl_tot {d : PyData} (h : wf d = true) : m_isl [d] = some (.bool (letB d)) := by
  cases d with
  | tuple ds =>
    have hw := wf_t h
    unfold m_isl
    refine (runD_r (by rfl)).trans ?_
    rw [show startR 1 [.tuple ds] = [.val (.tuple ds)] from rfl]
    unfold fb_is_letter
    by_cases h4 : ds.length = 4
    · match ds, h4, hw with
      | [a, b, c, d], _, hw =>
        have h1 := isn_tot (hw a (by simp))
        have h2 := arn_tot (hw b (by simp))
        have h3 := isnum_tot (hw c (by simp))
        have h4 := arn_tot (hw d (by simp))
        refine rt_step (ρ := [.val (.tuple [a, b, c, d])]) rfl ?_
        simp only [gv_0, gv_s, gb_0, gb_s, scr_0, bnd2_ss, consD_, tupD_, lstD_, asgR_s, seqR_nx, seqR_ret, ifR_t, ifR_f, retR_s, retD_s, asB_b, asI_i, addD_ii, subD_ii, modD_ii, gtD_ii, geD_ii, leD_ii, ltD_ii, eqD_ii, eqD_ss, neD_ss, neD_ii, neD_bb, ixD_t, ixD_l, andB_t, andB_f, orB_t, orB_f, notV_b, mixR_, setsR_nil, setsR_cons, tg1_, tgT_1, tgT_2, tgT_4, asgG_u, walkD_t, walkD_l, tupleD_l, tupleD_t, listD_l, listD_t, lenD_t, lenD_l, wipeR_nil, wipeR_cons, Option.bind_some, Option.map_some, List.set_cons_zero, List.set_cons_succ, List.length_cons, List.length_nil, Nat.zero_add, Nat.reduceAdd, Nat.reduceLeDiff, Int.reduceAdd, Int.reduceLE, Int.reduceLT, Int.reduceNeg, Int.reduceSub, Int.reduceMul, Int.reduceEq, Bool.not_true, Bool.not_false, decide_true, decide_false, atI_0, atI_1, atI_2, atI_3, Int.reduceToNat, h1, h2, h3, h4, andV_bb]
        rfl
    · simp only [gv_0, gv_s, gb_0, gb_s, scr_0, bnd2_ss, consD_, tupD_, lstD_, asgR_s, seqR_nx, seqR_ret, ifR_t, ifR_f, retR_s, retD_s, asB_b, asI_i, addD_ii, subD_ii, modD_ii, gtD_ii, geD_ii, leD_ii, ltD_ii, eqD_ii, eqD_ss, neD_ss, neD_ii, neD_bb, ixD_t, ixD_l, andB_t, andB_f, orB_t, orB_f, notV_b, mixR_, setsR_nil, setsR_cons, tg1_, tgT_1, tgT_2, tgT_4, asgG_u, walkD_t, walkD_l, tupleD_l, tupleD_t, listD_l, listD_t, lenD_t, lenD_l, wipeR_nil, wipeR_cons, Option.bind_some, Option.map_some, List.set_cons_zero, List.set_cons_succ, List.length_cons, List.length_nil, Nat.zero_add, Nat.reduceAdd, Nat.reduceLeDiff, Int.reduceAdd, Int.reduceLE, Int.reduceLT, Int.reduceNeg, Int.reduceSub, Int.reduceMul, Int.reduceEq, Bool.not_true, Bool.not_false, decide_true, decide_false, atI_0, atI_1, atI_2, atI_3, Int.reduceToNat, isi_tt, show decide ((ds.length : Int) = 4) = false from decide_eq_false (by omega)]
      have : letB (.tuple ds) = false := by
        unfold letB
        split
        · rename_i e
          cases e
          exact absurd rfl h4
        · rfl
      rw [this]
  | dict _ => cases h
  | _ => rfl
theorem not_tup {d : PyData} (h : wf d = true) (n : ∀ ds, d ≠ .tuple ds) : isiD "tuple" d = some (.bool false) := by
  cases d with
  | tuple ds => exact (n ds rfl).elim
  | dict _ => cases h
  | _ => rfl
theorem not_str {d : PyData} (h : wf d = true) (n : ∀ s, d ≠ .str s) : isiD "str" d = some (.bool false) := by
  cases d with
  | str s => exact (n s rfl).elim
  | dict _ => cases h
  | _ => rfl
theorem tstB_no {n : Nat} {d : PyData} (h : ∀ w r, d ≠ .tuple (.str w :: r)) : tstB n d = false := by
  cases n with
  | zero => rfl
  | succ n =>
    unfold tstB
    split
    · rename_i h0; cases h0
    · exact (h _ _ rfl).elim
    · rfl
theorem deedB_no {d : PyData} (h : ∀ w r, d ≠ .tuple (.str w :: r)) : deedB d = false := by
  unfold deedB
  split
  · rename_i w r; exact (h w r rfl).elim
  · rfl
/-- the head of is_test, is_deed -/
theorem head_no {d : PyData} (h : wf d = true) (n : ∀ w r, d ≠ .tuple (.str w :: r)) : orB (((isiD "tuple" d).bind asB).map not) (orB ((bnd2 (lenD d) (some (.int 0)) eqD).bind asB) ((((bnd2 (some d) (some (.int 0)) ixD).bind (isiD "str")).bind asB).map not)) = some true := by
  cases d with
  | dict _ => cases h
  | tuple ds =>
    cases ds with
    | nil => rfl
    | cons x r =>
      have hx : ∀ s, x ≠ .str s := fun s z => n s r (by rw [z])
      simp only [gv_0, gv_s, gb_0, gb_s, scr_0, bnd2_ss, consD_, tupD_, lstD_, asgR_s, seqR_nx, seqR_ret, ifR_t, ifR_f, retR_s, retD_s, asB_b, asI_i, addD_ii, subD_ii, modD_ii, gtD_ii, geD_ii, leD_ii, ltD_ii, eqD_ii, eqD_ss, neD_ss, neD_ii, neD_bb, ixD_t, ixD_l, andB_t, andB_f, orB_t, orB_f, notV_b, mixR_, setsR_nil, setsR_cons, tg1_, tgT_1, tgT_2, tgT_4, asgG_u, walkD_t, walkD_l, tupleD_l, tupleD_t, listD_l, listD_t, lenD_t, lenD_l, wipeR_nil, wipeR_cons, Option.bind_some, Option.map_some, List.set_cons_zero, List.set_cons_succ, List.length_cons, List.length_nil, Nat.zero_add, Nat.reduceAdd, Nat.reduceLeDiff, Int.reduceAdd, Int.reduceLE, Int.reduceLT, Int.reduceNeg, Int.reduceSub, Int.reduceMul, Int.reduceEq, Bool.not_true, Bool.not_false, decide_true, decide_false, atI_0, atI_1, atI_2, atI_3, Int.reduceToNat, isi_tt, not_str (wf_t h x (by simp)) hx, show decide (((r.length + 1 : Nat) : Int) = 0) = false from decide_eq_false (by omega)]
  | _ => rfl
theorem rt_ret {a : Option Res} {g : Rho → Option Res} {d : PyData} (h : a = some (.ret d)) : retD (seqR a g) = some d := by rw [h]; rfl
theorem c22 : decide (((2 : Nat) : Int) = 2) = true := rfl
theorem c33 : decide (((3 : Nat) : Int) = 3) = true := rfl
theorem deedB_eq (w : Str) (r : List PyData) : deedB (.tuple (.str w :: r)) = (if w ∈ (["drop", "stop"] : List Str) then (match r with | [] => true | _ => false)
    else match r with
      | [a] => decide (w ∈ (["lay", "send", "answer", "mark", "unmark", "call"] : List Str)) && nmB a
      | _ => false) := rfl
theorem head_yes (w : Str) (r : List PyData) : orB (((isiD "tuple" (.tuple (.str w :: r))).bind asB).map not) (orB ((bnd2 (lenD (.tuple (.str w :: r))) (some (.int 0)) eqD).bind asB) ((((bnd2 (some (.tuple (.str w :: r))) (some (.int 0)) ixD).bind (isiD "str")).bind asB).map not)) = some false := by
  simp only [gv_0, gv_s, gb_0, gb_s, scr_0, bnd2_ss, consD_, tupD_, lstD_, asgR_s, seqR_nx, seqR_ret, ifR_t, ifR_f, retR_s, retD_s, asB_b, asI_i, addD_ii, subD_ii, modD_ii, gtD_ii, geD_ii, leD_ii, ltD_ii, eqD_ii, eqD_ss, neD_ss, neD_ii, neD_bb, ixD_t, ixD_l, andB_t, andB_f, orB_t, orB_f, notV_b, mixR_, setsR_nil, setsR_cons, tg1_, tgT_1, tgT_2, tgT_4, asgG_u, walkD_t, walkD_l, tupleD_l, tupleD_t, listD_l, listD_t, lenD_t, lenD_l, wipeR_nil, wipeR_cons, Option.bind_some, Option.map_some, List.set_cons_zero, List.set_cons_succ, List.length_cons, List.length_nil, Nat.zero_add, Nat.reduceAdd, Nat.reduceLeDiff, Int.reduceAdd, Int.reduceLE, Int.reduceLT, Int.reduceNeg, Int.reduceSub, Int.reduceMul, Int.reduceEq, Bool.not_true, Bool.not_false, decide_true, decide_false, atI_0, atI_1, atI_2, atI_3, Int.reduceToNat, isi_tt, isi_ss, show decide (((r.length + 1 : Nat) : Int) = 0) = false from decide_eq_false (by omega)]
theorem ist_tot : ∀ (n : Nat) (d : PyData), wf d = true → m_ist (n + 1) [d, .int (n : Int)] = some (.bool (tstB n d))
  | 0, d, h => rfl
  | n + 1, d, h => by
    have hn : ¬ (((n + 1 : Nat) : Int) = 0) := by omega
    have hn1 : ((n + 1 : Nat) : Int) - 1 = n := by omega
    rw [m_ist_s]
    refine (runD_r (by rfl)).trans ?_
    rw [show startR 3 [d, .int ((n + 1 : Nat) : Int)] = [.val d, .val (.int ((n + 1 : Nat) : Int)), .no] from rfl]
    unfold fb_is_test
    by_cases hd : ∃ w r, d = .tuple (.str w :: r)
    · obtain ⟨w, r, rfl⟩ := hd
      have hw := wf_s (wf_t h _ (List.mem_cons_self))
      have hr : ∀ x ∈ r, wf x = true := fun x hx => wf_t h x (List.mem_cons_of_mem _ hx)
      refine rt_step (ρ := [.val (.tuple (.str w :: r)), .val (.int ((n + 1 : Nat) : Int)), .no]) (if_no (by
        show orB (some (decide (((n + 1 : Nat) : Int) = 0))) _ = _
        rw [decide_eq_false hn, orB_f]
        exact head_yes w r) rfl) ?_
      refine rt_step (ρ := [.val (.tuple (.str w :: r)), .val (.int ((n + 1 : Nat) : Int)), .val (.str w)]) (by simp only [gv_0, gv_s, gb_0, gb_s, scr_0, bnd2_ss, consD_, tupD_, lstD_, asgR_s, seqR_nx, seqR_ret, ifR_t, ifR_f, retR_s, retD_s, asB_b, asI_i, addD_ii, subD_ii, modD_ii, gtD_ii, geD_ii, leD_ii, ltD_ii, eqD_ii, eqD_ss, neD_ss, neD_ii, neD_bb, ixD_t, ixD_l, andB_t, andB_f, orB_t, orB_f, notV_b, mixR_, setsR_nil, setsR_cons, tg1_, tgT_1, tgT_2, tgT_4, asgG_u, walkD_t, walkD_l, tupleD_l, tupleD_t, listD_l, listD_t, lenD_t, lenD_l, wipeR_nil, wipeR_cons, Option.bind_some, Option.map_some, List.set_cons_zero, List.set_cons_succ, List.length_cons, List.length_nil, Nat.zero_add, Nat.reduceAdd, Nat.reduceLeDiff, Int.reduceAdd, Int.reduceLE, Int.reduceLT, Int.reduceNeg, Int.reduceSub, Int.reduceMul, Int.reduceEq, Bool.not_true, Bool.not_false, decide_true, decide_false, atI_0, atI_1, atI_2, atI_3, Int.reduceToNat]) ?_
      unfold tstB
      by_cases hj : w ∈ (["both", "either"] : List Str)
      · rw [if_pos hj]
        simp only [gv_0, gv_s, gb_0, gb_s, scr_0, bnd2_ss, consD_, tupD_, lstD_, asgR_s, seqR_nx, seqR_ret, ifR_t, ifR_f, retR_s, retD_s, asB_b, asI_i, addD_ii, subD_ii, modD_ii, gtD_ii, geD_ii, leD_ii, ltD_ii, eqD_ii, eqD_ss, neD_ss, neD_ii, neD_bb, ixD_t, ixD_l, andB_t, andB_f, orB_t, orB_f, notV_b, mixR_, setsR_nil, setsR_cons, tg1_, tgT_1, tgT_2, tgT_4, asgG_u, walkD_t, walkD_l, tupleD_l, tupleD_t, listD_l, listD_t, lenD_t, lenD_l, wipeR_nil, wipeR_cons, Option.bind_some, Option.map_some, List.set_cons_zero, List.set_cons_succ, List.length_cons, List.length_nil, Nat.zero_add, Nat.reduceAdd, Nat.reduceLeDiff, Int.reduceAdd, Int.reduceLE, Int.reduceLT, Int.reduceNeg, Int.reduceSub, Int.reduceMul, Int.reduceEq, Bool.not_true, Bool.not_false, decide_true, decide_false, atI_0, atI_1, atI_2, atI_3, Int.reduceToNat, in_joins w hw.1, decide_eq_true hj]
        match r, hr with
        | [], _ => rfl
        | [a], _ => rfl
        | [a, b], hr =>
          have i1 := ist_tot n a (hr a (by simp))
          have i2 := ist_tot n b (hr b (by simp))
          simp only [gv_0, gv_s, gb_0, gb_s, scr_0, bnd2_ss, consD_, tupD_, lstD_, asgR_s, seqR_nx, seqR_ret, ifR_t, ifR_f, retR_s, retD_s, asB_b, asI_i, addD_ii, subD_ii, modD_ii, gtD_ii, geD_ii, leD_ii, ltD_ii, eqD_ii, eqD_ss, neD_ss, neD_ii, neD_bb, ixD_t, ixD_l, andB_t, andB_f, orB_t, orB_f, notV_b, mixR_, setsR_nil, setsR_cons, tg1_, tgT_1, tgT_2, tgT_4, asgG_u, walkD_t, walkD_l, tupleD_l, tupleD_t, listD_l, listD_t, lenD_t, lenD_l, wipeR_nil, wipeR_cons, Option.bind_some, Option.map_some, List.set_cons_zero, List.set_cons_succ, List.length_cons, List.length_nil, Nat.zero_add, Nat.reduceAdd, Nat.reduceLeDiff, Int.reduceAdd, Int.reduceLE, Int.reduceLT, Int.reduceNeg, Int.reduceSub, Int.reduceMul, Int.reduceEq, Bool.not_true, Bool.not_false, decide_true, decide_false, atI_0, atI_1, atI_2, atI_3, Int.reduceToNat, hn1, i1, i2, c33, andV_t, andV_bb, Bool.true_and]
        | a :: b :: c :: r, _ =>
          have : decide (((a :: b :: c :: r).length + 1 : Nat) = (3 : Int)) = false := decide_eq_false (by simp only [List.length_cons]; omega)
          simp only [gv_0, gv_s, gb_0, gb_s, scr_0, bnd2_ss, consD_, tupD_, lstD_, asgR_s, seqR_nx, seqR_ret, ifR_t, ifR_f, retR_s, retD_s, asB_b, asI_i, addD_ii, subD_ii, modD_ii, gtD_ii, geD_ii, leD_ii, ltD_ii, eqD_ii, eqD_ss, neD_ss, neD_ii, neD_bb, ixD_t, ixD_l, andB_t, andB_f, orB_t, orB_f, notV_b, mixR_, setsR_nil, setsR_cons, tg1_, tgT_1, tgT_2, tgT_4, asgG_u, walkD_t, walkD_l, tupleD_l, tupleD_t, listD_l, listD_t, lenD_t, lenD_l, wipeR_nil, wipeR_cons, Option.bind_some, Option.map_some, List.set_cons_zero, List.set_cons_succ, List.length_cons, List.length_nil, Nat.zero_add, Nat.reduceAdd, Nat.reduceLeDiff, Int.reduceAdd, Int.reduceLE, Int.reduceLT, Int.reduceNeg, Int.reduceSub, Int.reduceMul, Int.reduceEq, Bool.not_true, Bool.not_false, decide_true, decide_false, atI_0, atI_1, atI_2, atI_3, Int.reduceToNat]
          rw [show decide (((r.length + 1 + 1 + 1 + 1 : Nat) : Int) = 3) = false from decide_eq_false (by omega), andV_f]
          rfl
      · rw [if_neg hj]
        refine rt_step (ρ := [.val (.tuple (.str w :: r)), .val (.int ((n + 1 : Nat) : Int)), .val (.str w)]) (if_no (by simp only [gv_0, gv_s, gb_0, gb_s, scr_0, bnd2_ss, consD_, tupD_, lstD_, asgR_s, seqR_nx, seqR_ret, ifR_t, ifR_f, retR_s, retD_s, asB_b, asI_i, addD_ii, subD_ii, modD_ii, gtD_ii, geD_ii, leD_ii, ltD_ii, eqD_ii, eqD_ss, neD_ss, neD_ii, neD_bb, ixD_t, ixD_l, andB_t, andB_f, orB_t, orB_f, notV_b, mixR_, setsR_nil, setsR_cons, tg1_, tgT_1, tgT_2, tgT_4, asgG_u, walkD_t, walkD_l, tupleD_l, tupleD_t, listD_l, listD_t, lenD_t, lenD_l, wipeR_nil, wipeR_cons, Option.bind_some, Option.map_some, List.set_cons_zero, List.set_cons_succ, List.length_cons, List.length_nil, Nat.zero_add, Nat.reduceAdd, Nat.reduceLeDiff, Int.reduceAdd, Int.reduceLE, Int.reduceLT, Int.reduceNeg, Int.reduceSub, Int.reduceMul, Int.reduceEq, Bool.not_true, Bool.not_false, decide_true, decide_false, atI_0, atI_1, atI_2, atI_3, Int.reduceToNat, in_joins w hw.1, decide_eq_false hj]) rfl) ?_
        by_cases hy : w = "yes"
        · rw [if_pos hy]
          simp only [gv_0, gv_s, gb_0, gb_s, scr_0, bnd2_ss, consD_, tupD_, lstD_, asgR_s, seqR_nx, seqR_ret, ifR_t, ifR_f, retR_s, retD_s, asB_b, asI_i, addD_ii, subD_ii, modD_ii, gtD_ii, geD_ii, leD_ii, ltD_ii, eqD_ii, eqD_ss, neD_ss, neD_ii, neD_bb, ixD_t, ixD_l, andB_t, andB_f, orB_t, orB_f, notV_b, mixR_, setsR_nil, setsR_cons, tg1_, tgT_1, tgT_2, tgT_4, asgG_u, walkD_t, walkD_l, tupleD_l, tupleD_t, listD_l, listD_t, lenD_t, lenD_l, wipeR_nil, wipeR_cons, Option.bind_some, Option.map_some, List.set_cons_zero, List.set_cons_succ, List.length_cons, List.length_nil, Nat.zero_add, Nat.reduceAdd, Nat.reduceLeDiff, Int.reduceAdd, Int.reduceLE, Int.reduceLT, Int.reduceNeg, Int.reduceSub, Int.reduceMul, Int.reduceEq, Bool.not_true, Bool.not_false, decide_true, decide_false, atI_0, atI_1, atI_2, atI_3, Int.reduceToNat, decide_eq_true hy]
          cases r with
          | nil => rfl
          | cons a r =>
            simp only [gv_0, gv_s, gb_0, gb_s, scr_0, bnd2_ss, consD_, tupD_, lstD_, asgR_s, seqR_nx, seqR_ret, ifR_t, ifR_f, retR_s, retD_s, asB_b, asI_i, addD_ii, subD_ii, modD_ii, gtD_ii, geD_ii, leD_ii, ltD_ii, eqD_ii, eqD_ss, neD_ss, neD_ii, neD_bb, ixD_t, ixD_l, andB_t, andB_f, orB_t, orB_f, notV_b, mixR_, setsR_nil, setsR_cons, tg1_, tgT_1, tgT_2, tgT_4, asgG_u, walkD_t, walkD_l, tupleD_l, tupleD_t, listD_l, listD_t, lenD_t, lenD_l, wipeR_nil, wipeR_cons, Option.bind_some, Option.map_some, List.set_cons_zero, List.set_cons_succ, List.length_cons, List.length_nil, Nat.zero_add, Nat.reduceAdd, Nat.reduceLeDiff, Int.reduceAdd, Int.reduceLE, Int.reduceLT, Int.reduceNeg, Int.reduceSub, Int.reduceMul, Int.reduceEq, Bool.not_true, Bool.not_false, decide_true, decide_false, atI_0, atI_1, atI_2, atI_3, Int.reduceToNat]
            rw [show decide (((r.length + 1 + 1 : Nat) : Int) = 1) = false from decide_eq_false (by omega)]
        · rw [if_neg hy]
          refine rt_step (ρ := [.val (.tuple (.str w :: r)), .val (.int ((n + 1 : Nat) : Int)), .val (.str w)]) (if_no (by simp only [gv_0, gv_s, gb_0, gb_s, scr_0, bnd2_ss, consD_, tupD_, lstD_, asgR_s, seqR_nx, seqR_ret, ifR_t, ifR_f, retR_s, retD_s, asB_b, asI_i, addD_ii, subD_ii, modD_ii, gtD_ii, geD_ii, leD_ii, ltD_ii, eqD_ii, eqD_ss, neD_ss, neD_ii, neD_bb, ixD_t, ixD_l, andB_t, andB_f, orB_t, orB_f, notV_b, mixR_, setsR_nil, setsR_cons, tg1_, tgT_1, tgT_2, tgT_4, asgG_u, walkD_t, walkD_l, tupleD_l, tupleD_t, listD_l, listD_t, lenD_t, lenD_l, wipeR_nil, wipeR_cons, Option.bind_some, Option.map_some, List.set_cons_zero, List.set_cons_succ, List.length_cons, List.length_nil, Nat.zero_add, Nat.reduceAdd, Nat.reduceLeDiff, Int.reduceAdd, Int.reduceLE, Int.reduceLT, Int.reduceNeg, Int.reduceSub, Int.reduceMul, Int.reduceEq, Bool.not_true, Bool.not_false, decide_true, decide_false, atI_0, atI_1, atI_2, atI_3, Int.reduceToNat, decide_eq_false hy]) rfl) ?_
          match r, hr with
          | [], _ => rfl
          | [a], hr =>
            refine rt_step (ρ := [.val (.tuple [.str w, a]), .val (.int ((n + 1 : Nat) : Int)), .val (.str w)]) (if_no rfl rfl) ?_
            dsimp only
            by_cases hN : w = "not"
            · rw [if_pos hN]
              have i1 := ist_tot n a (hr a (by simp))
              simp only [gv_0, gv_s, gb_0, gb_s, scr_0, bnd2_ss, consD_, tupD_, lstD_, asgR_s, seqR_nx, seqR_ret, ifR_t, ifR_f, retR_s, retD_s, asB_b, asI_i, addD_ii, subD_ii, modD_ii, gtD_ii, geD_ii, leD_ii, ltD_ii, eqD_ii, eqD_ss, neD_ss, neD_ii, neD_bb, ixD_t, ixD_l, andB_t, andB_f, orB_t, orB_f, notV_b, mixR_, setsR_nil, setsR_cons, tg1_, tgT_1, tgT_2, tgT_4, asgG_u, walkD_t, walkD_l, tupleD_l, tupleD_t, listD_l, listD_t, lenD_t, lenD_l, wipeR_nil, wipeR_cons, Option.bind_some, Option.map_some, List.set_cons_zero, List.set_cons_succ, List.length_cons, List.length_nil, Nat.zero_add, Nat.reduceAdd, Nat.reduceLeDiff, Int.reduceAdd, Int.reduceLE, Int.reduceLT, Int.reduceNeg, Int.reduceSub, Int.reduceMul, Int.reduceEq, Bool.not_true, Bool.not_false, decide_true, decide_false, atI_0, atI_1, atI_2, atI_3, Int.reduceToNat, decide_eq_true hN, hn1, i1]
            · rw [if_neg hN]
              refine rt_step (ρ := [.val (.tuple [.str w, a]), .val (.int ((n + 1 : Nat) : Int)), .val (.str w)]) (if_no (by simp only [gv_0, gv_s, gb_0, gb_s, scr_0, bnd2_ss, consD_, tupD_, lstD_, asgR_s, seqR_nx, seqR_ret, ifR_t, ifR_f, retR_s, retD_s, asB_b, asI_i, addD_ii, subD_ii, modD_ii, gtD_ii, geD_ii, leD_ii, ltD_ii, eqD_ii, eqD_ss, neD_ss, neD_ii, neD_bb, ixD_t, ixD_l, andB_t, andB_f, orB_t, orB_f, notV_b, mixR_, setsR_nil, setsR_cons, tg1_, tgT_1, tgT_2, tgT_4, asgG_u, walkD_t, walkD_l, tupleD_l, tupleD_t, listD_l, listD_t, lenD_t, lenD_l, wipeR_nil, wipeR_cons, Option.bind_some, Option.map_some, List.set_cons_zero, List.set_cons_succ, List.length_cons, List.length_nil, Nat.zero_add, Nat.reduceAdd, Nat.reduceLeDiff, Int.reduceAdd, Int.reduceLE, Int.reduceLT, Int.reduceNeg, Int.reduceSub, Int.reduceMul, Int.reduceEq, Bool.not_true, Bool.not_false, decide_true, decide_false, atI_0, atI_1, atI_2, atI_3, Int.reduceToNat, decide_eq_false hN]) rfl) ?_
              by_cases ho : w = "over"
              · rw [if_pos ho]
                simp only [gv_0, gv_s, gb_0, gb_s, scr_0, bnd2_ss, consD_, tupD_, lstD_, asgR_s, seqR_nx, seqR_ret, ifR_t, ifR_f, retR_s, retD_s, asB_b, asI_i, addD_ii, subD_ii, modD_ii, gtD_ii, geD_ii, leD_ii, ltD_ii, eqD_ii, eqD_ss, neD_ss, neD_ii, neD_bb, ixD_t, ixD_l, andB_t, andB_f, orB_t, orB_f, notV_b, mixR_, setsR_nil, setsR_cons, tg1_, tgT_1, tgT_2, tgT_4, asgG_u, walkD_t, walkD_l, tupleD_l, tupleD_t, listD_l, listD_t, lenD_t, lenD_l, wipeR_nil, wipeR_cons, Option.bind_some, Option.map_some, List.set_cons_zero, List.set_cons_succ, List.length_cons, List.length_nil, Nat.zero_add, Nat.reduceAdd, Nat.reduceLeDiff, Int.reduceAdd, Int.reduceLE, Int.reduceLT, Int.reduceNeg, Int.reduceSub, Int.reduceMul, Int.reduceEq, Bool.not_true, Bool.not_false, decide_true, decide_false, atI_0, atI_1, atI_2, atI_3, Int.reduceToNat, decide_eq_true ho, isnum_tot (hr a (by simp))]
              · rw [if_neg ho]
                refine rt_step (ρ := [.val (.tuple [.str w, a]), .val (.int ((n + 1 : Nat) : Int)), .val (.str w)]) (if_no (by simp only [gv_0, gv_s, gb_0, gb_s, scr_0, bnd2_ss, consD_, tupD_, lstD_, asgR_s, seqR_nx, seqR_ret, ifR_t, ifR_f, retR_s, retD_s, asB_b, asI_i, addD_ii, subD_ii, modD_ii, gtD_ii, geD_ii, leD_ii, ltD_ii, eqD_ii, eqD_ss, neD_ss, neD_ii, neD_bb, ixD_t, ixD_l, andB_t, andB_f, orB_t, orB_f, notV_b, mixR_, setsR_nil, setsR_cons, tg1_, tgT_1, tgT_2, tgT_4, asgG_u, walkD_t, walkD_l, tupleD_l, tupleD_t, listD_l, listD_t, lenD_t, lenD_l, wipeR_nil, wipeR_cons, Option.bind_some, Option.map_some, List.set_cons_zero, List.set_cons_succ, List.length_cons, List.length_nil, Nat.zero_add, Nat.reduceAdd, Nat.reduceLeDiff, Int.reduceAdd, Int.reduceLE, Int.reduceLT, Int.reduceNeg, Int.reduceSub, Int.reduceMul, Int.reduceEq, Bool.not_true, Bool.not_false, decide_true, decide_false, atI_0, atI_1, atI_2, atI_3, Int.reduceToNat, decide_eq_false ho]) rfl) ?_
                simp only [gv_0, gv_s, gb_0, gb_s, scr_0, bnd2_ss, consD_, tupD_, lstD_, asgR_s, seqR_nx, seqR_ret, ifR_t, ifR_f, retR_s, retD_s, asB_b, asI_i, addD_ii, subD_ii, modD_ii, gtD_ii, geD_ii, leD_ii, ltD_ii, eqD_ii, eqD_ss, neD_ss, neD_ii, neD_bb, ixD_t, ixD_l, andB_t, andB_f, orB_t, orB_f, notV_b, mixR_, setsR_nil, setsR_cons, tg1_, tgT_1, tgT_2, tgT_4, asgG_u, walkD_t, walkD_l, tupleD_l, tupleD_t, listD_l, listD_t, lenD_t, lenD_l, wipeR_nil, wipeR_cons, Option.bind_some, Option.map_some, List.set_cons_zero, List.set_cons_succ, List.length_cons, List.length_nil, Nat.zero_add, Nat.reduceAdd, Nat.reduceLeDiff, Int.reduceAdd, Int.reduceLE, Int.reduceLT, Int.reduceNeg, Int.reduceSub, Int.reduceMul, Int.reduceEq, Bool.not_true, Bool.not_false, decide_true, decide_false, atI_0, atI_1, atI_2, atI_3, Int.reduceToNat, in_named w hw.1, isn_tot (hr a (by simp)), andV_bb]
          | a :: b :: r, _ =>
            simp only [gv_0, gv_s, gb_0, gb_s, scr_0, bnd2_ss, consD_, tupD_, lstD_, asgR_s, seqR_nx, seqR_ret, ifR_t, ifR_f, retR_s, retD_s, asB_b, asI_i, addD_ii, subD_ii, modD_ii, gtD_ii, geD_ii, leD_ii, ltD_ii, eqD_ii, eqD_ss, neD_ss, neD_ii, neD_bb, ixD_t, ixD_l, andB_t, andB_f, orB_t, orB_f, notV_b, mixR_, setsR_nil, setsR_cons, tg1_, tgT_1, tgT_2, tgT_4, asgG_u, walkD_t, walkD_l, tupleD_l, tupleD_t, listD_l, listD_t, lenD_t, lenD_l, wipeR_nil, wipeR_cons, Option.bind_some, Option.map_some, List.set_cons_zero, List.set_cons_succ, List.length_cons, List.length_nil, Nat.zero_add, Nat.reduceAdd, Nat.reduceLeDiff, Int.reduceAdd, Int.reduceLE, Int.reduceLT, Int.reduceNeg, Int.reduceSub, Int.reduceMul, Int.reduceEq, Bool.not_true, Bool.not_false, decide_true, decide_false, atI_0, atI_1, atI_2, atI_3, Int.reduceToNat]
            rw [show decide (((r.length + 1 + 1 + 1 : Nat) : Int) = 2) = false from decide_eq_false (by omega)]
            rfl
    · have hno : ∀ w r, d ≠ .tuple (.str w :: r) := fun w r z => hd ⟨w, r, z⟩
      rw [tstB_no hno]
      have := head_no h hno
      simp only [gv_0, gv_s, gb_0, gb_s, scr_0, bnd2_ss, consD_, tupD_, lstD_, asgR_s, seqR_nx, seqR_ret, ifR_t, ifR_f, retR_s, retD_s, asB_b, asI_i, addD_ii, subD_ii, modD_ii, gtD_ii, geD_ii, leD_ii, ltD_ii, eqD_ii, eqD_ss, neD_ss, neD_ii, neD_bb, ixD_t, ixD_l, andB_t, andB_f, orB_t, orB_f, notV_b, mixR_, setsR_nil, setsR_cons, tg1_, tgT_1, tgT_2, tgT_4, asgG_u, walkD_t, walkD_l, tupleD_l, tupleD_t, listD_l, listD_t, lenD_t, lenD_l, wipeR_nil, wipeR_cons, Option.bind_some, Option.map_some, List.set_cons_zero, List.set_cons_succ, List.length_cons, List.length_nil, Nat.zero_add, Nat.reduceAdd, Nat.reduceLeDiff, Int.reduceAdd, Int.reduceLE, Int.reduceLT, Int.reduceNeg, Int.reduceSub, Int.reduceMul, Int.reduceEq, Bool.not_true, Bool.not_false, decide_true, decide_false, atI_0, atI_1, atI_2, atI_3, Int.reduceToNat, decide_eq_false hn]
      rw [bnd2_ss] at this
      rw [this]
      rfl
theorem isd_tot {d : PyData} (h : wf d = true) : m_isd [d] = some (.bool (deedB d)) := by
  unfold m_isd
  refine (runD_r (by rfl)).trans ?_
  rw [show startR 1 [d] = [.val d] from rfl]
  unfold fb_is_deed
  by_cases hd : ∃ w r, d = .tuple (.str w :: r)
  · obtain ⟨w, r, rfl⟩ := hd
    have hw := wf_s (wf_t h _ (List.mem_cons_self))
    have hr : ∀ x ∈ r, wf x = true := fun x hx => wf_t h x (List.mem_cons_of_mem _ hx)
    refine rt_step (ρ := [.val (.tuple (.str w :: r))]) (if_no (head_yes w r) rfl) ?_
    rw [deedB_eq]
    by_cases he : w ∈ (["drop", "stop"] : List Str)
    · rw [if_pos he]
      simp only [gv_0, gv_s, gb_0, gb_s, scr_0, bnd2_ss, consD_, tupD_, lstD_, asgR_s, seqR_nx, seqR_ret, ifR_t, ifR_f, retR_s, retD_s, asB_b, asI_i, addD_ii, subD_ii, modD_ii, gtD_ii, geD_ii, leD_ii, ltD_ii, eqD_ii, eqD_ss, neD_ss, neD_ii, neD_bb, ixD_t, ixD_l, andB_t, andB_f, orB_t, orB_f, notV_b, mixR_, setsR_nil, setsR_cons, tg1_, tgT_1, tgT_2, tgT_4, asgG_u, walkD_t, walkD_l, tupleD_l, tupleD_t, listD_l, listD_t, lenD_t, lenD_l, wipeR_nil, wipeR_cons, Option.bind_some, Option.map_some, List.set_cons_zero, List.set_cons_succ, List.length_cons, List.length_nil, Nat.zero_add, Nat.reduceAdd, Nat.reduceLeDiff, Int.reduceAdd, Int.reduceLE, Int.reduceLT, Int.reduceNeg, Int.reduceSub, Int.reduceMul, Int.reduceEq, Bool.not_true, Bool.not_false, decide_true, decide_false, atI_0, atI_1, atI_2, atI_3, Int.reduceToNat, in_ends w hw.1, decide_eq_true he]
      cases r with
      | nil => rfl
      | cons a r =>
        simp only [gv_0, gv_s, gb_0, gb_s, scr_0, bnd2_ss, consD_, tupD_, lstD_, asgR_s, seqR_nx, seqR_ret, ifR_t, ifR_f, retR_s, retD_s, asB_b, asI_i, addD_ii, subD_ii, modD_ii, gtD_ii, geD_ii, leD_ii, ltD_ii, eqD_ii, eqD_ss, neD_ss, neD_ii, neD_bb, ixD_t, ixD_l, andB_t, andB_f, orB_t, orB_f, notV_b, mixR_, setsR_nil, setsR_cons, tg1_, tgT_1, tgT_2, tgT_4, asgG_u, walkD_t, walkD_l, tupleD_l, tupleD_t, listD_l, listD_t, lenD_t, lenD_l, wipeR_nil, wipeR_cons, Option.bind_some, Option.map_some, List.set_cons_zero, List.set_cons_succ, List.length_cons, List.length_nil, Nat.zero_add, Nat.reduceAdd, Nat.reduceLeDiff, Int.reduceAdd, Int.reduceLE, Int.reduceLT, Int.reduceNeg, Int.reduceSub, Int.reduceMul, Int.reduceEq, Bool.not_true, Bool.not_false, decide_true, decide_false, atI_0, atI_1, atI_2, atI_3, Int.reduceToNat]
        rw [show decide (((r.length + 1 + 1 : Nat) : Int) = 1) = false from decide_eq_false (by omega)]
    · rw [if_neg he]
      refine rt_step (ρ := [.val (.tuple (.str w :: r))]) (if_no (by simp only [gv_0, gv_s, gb_0, gb_s, scr_0, bnd2_ss, consD_, tupD_, lstD_, asgR_s, seqR_nx, seqR_ret, ifR_t, ifR_f, retR_s, retD_s, asB_b, asI_i, addD_ii, subD_ii, modD_ii, gtD_ii, geD_ii, leD_ii, ltD_ii, eqD_ii, eqD_ss, neD_ss, neD_ii, neD_bb, ixD_t, ixD_l, andB_t, andB_f, orB_t, orB_f, notV_b, mixR_, setsR_nil, setsR_cons, tg1_, tgT_1, tgT_2, tgT_4, asgG_u, walkD_t, walkD_l, tupleD_l, tupleD_t, listD_l, listD_t, lenD_t, lenD_l, wipeR_nil, wipeR_cons, Option.bind_some, Option.map_some, List.set_cons_zero, List.set_cons_succ, List.length_cons, List.length_nil, Nat.zero_add, Nat.reduceAdd, Nat.reduceLeDiff, Int.reduceAdd, Int.reduceLE, Int.reduceLT, Int.reduceNeg, Int.reduceSub, Int.reduceMul, Int.reduceEq, Bool.not_true, Bool.not_false, decide_true, decide_false, atI_0, atI_1, atI_2, atI_3, Int.reduceToNat, in_ends w hw.1, decide_eq_false he]) rfl) ?_
      simp only [gv_0, gv_s, gb_0, gb_s, scr_0, bnd2_ss, consD_, tupD_, lstD_, asgR_s, seqR_nx, seqR_ret, ifR_t, ifR_f, retR_s, retD_s, asB_b, asI_i, addD_ii, subD_ii, modD_ii, gtD_ii, geD_ii, leD_ii, ltD_ii, eqD_ii, eqD_ss, neD_ss, neD_ii, neD_bb, ixD_t, ixD_l, andB_t, andB_f, orB_t, orB_f, notV_b, mixR_, setsR_nil, setsR_cons, tg1_, tgT_1, tgT_2, tgT_4, asgG_u, walkD_t, walkD_l, tupleD_l, tupleD_t, listD_l, listD_t, lenD_t, lenD_l, wipeR_nil, wipeR_cons, Option.bind_some, Option.map_some, List.set_cons_zero, List.set_cons_succ, List.length_cons, List.length_nil, Nat.zero_add, Nat.reduceAdd, Nat.reduceLeDiff, Int.reduceAdd, Int.reduceLE, Int.reduceLT, Int.reduceNeg, Int.reduceSub, Int.reduceMul, Int.reduceEq, Bool.not_true, Bool.not_false, decide_true, decide_false, atI_0, atI_1, atI_2, atI_3, Int.reduceToNat, in_deeds w hw.1]
      match r, hr with
      | [], _ =>
        dsimp only
        rw [show andV (some (.bool (decide (w ∈ (["lay", "send", "answer", "mark", "unmark", "call"] : List Str))))) _ = some (.bool false) from by cases decide (w ∈ (["lay", "send", "answer", "mark", "unmark", "call"] : List Str)) <;> rfl]
        rfl
      | [a], hr =>
        simp only [gv_0, gv_s, gb_0, gb_s, scr_0, bnd2_ss, consD_, tupD_, lstD_, asgR_s, seqR_nx, seqR_ret, ifR_t, ifR_f, retR_s, retD_s, asB_b, asI_i, addD_ii, subD_ii, modD_ii, gtD_ii, geD_ii, leD_ii, ltD_ii, eqD_ii, eqD_ss, neD_ss, neD_ii, neD_bb, ixD_t, ixD_l, andB_t, andB_f, orB_t, orB_f, notV_b, mixR_, setsR_nil, setsR_cons, tg1_, tgT_1, tgT_2, tgT_4, asgG_u, walkD_t, walkD_l, tupleD_l, tupleD_t, listD_l, listD_t, lenD_t, lenD_l, wipeR_nil, wipeR_cons, Option.bind_some, Option.map_some, List.set_cons_zero, List.set_cons_succ, List.length_cons, List.length_nil, Nat.zero_add, Nat.reduceAdd, Nat.reduceLeDiff, Int.reduceAdd, Int.reduceLE, Int.reduceLT, Int.reduceNeg, Int.reduceSub, Int.reduceMul, Int.reduceEq, Bool.not_true, Bool.not_false, decide_true, decide_false, atI_0, atI_1, atI_2, atI_3, Int.reduceToNat, isn_tot (hr a (by simp)), c22, andV_t, andV_bb, Bool.true_and]
      | a :: b :: r, _ =>
        simp only [gv_0, gv_s, gb_0, gb_s, scr_0, bnd2_ss, consD_, tupD_, lstD_, asgR_s, seqR_nx, seqR_ret, ifR_t, ifR_f, retR_s, retD_s, asB_b, asI_i, addD_ii, subD_ii, modD_ii, gtD_ii, geD_ii, leD_ii, ltD_ii, eqD_ii, eqD_ss, neD_ss, neD_ii, neD_bb, ixD_t, ixD_l, andB_t, andB_f, orB_t, orB_f, notV_b, mixR_, setsR_nil, setsR_cons, tg1_, tgT_1, tgT_2, tgT_4, asgG_u, walkD_t, walkD_l, tupleD_l, tupleD_t, listD_l, listD_t, lenD_t, lenD_l, wipeR_nil, wipeR_cons, Option.bind_some, Option.map_some, List.set_cons_zero, List.set_cons_succ, List.length_cons, List.length_nil, Nat.zero_add, Nat.reduceAdd, Nat.reduceLeDiff, Int.reduceAdd, Int.reduceLE, Int.reduceLT, Int.reduceNeg, Int.reduceSub, Int.reduceMul, Int.reduceEq, Bool.not_true, Bool.not_false, decide_true, decide_false, atI_0, atI_1, atI_2, atI_3, Int.reduceToNat]
        rw [show decide (((r.length + 1 + 1 + 1 : Nat) : Int) = 2) = false from decide_eq_false (by omega), andV_f]
        cases decide (w ∈ (["lay", "send", "answer", "mark", "unmark", "call"] : List Str)) <;> rfl
  · have hno : ∀ w r, d ≠ .tuple (.str w :: r) := fun w r z => hd ⟨w, r, z⟩
    rw [deedB_no hno]
    have := head_no h hno
    simp only [gv_0, gv_s, gb_0, gb_s, scr_0, bnd2_ss, consD_, tupD_, lstD_, asgR_s, seqR_nx, seqR_ret, ifR_t, ifR_f, retR_s, retD_s, asB_b, asI_i, addD_ii, subD_ii, modD_ii, gtD_ii, geD_ii, leD_ii, ltD_ii, eqD_ii, eqD_ss, neD_ss, neD_ii, neD_bb, ixD_t, ixD_l, andB_t, andB_f, orB_t, orB_f, notV_b, mixR_, setsR_nil, setsR_cons, tg1_, tgT_1, tgT_2, tgT_4, asgG_u, walkD_t, walkD_l, tupleD_l, tupleD_t, listD_l, listD_t, lenD_t, lenD_l, wipeR_nil, wipeR_cons, Option.bind_some, Option.map_some, List.set_cons_zero, List.set_cons_succ, List.length_cons, List.length_nil, Nat.zero_add, Nat.reduceAdd, Nat.reduceLeDiff, Int.reduceAdd, Int.reduceLE, Int.reduceLT, Int.reduceNeg, Int.reduceSub, Int.reduceMul, Int.reduceEq, Bool.not_true, Bool.not_false, decide_true, decide_false, atI_0, atI_1, atI_2, atI_3, Int.reduceToNat]
    rw [bnd2_ss] at this
    rw [this]
    rfl
theorem rulB_f1 {t e : PyData} (h : tstB 3 t = false) : rulB (.tuple [t, e]) = false := by
  cases e with
  | tuple ds =>
    show (tstB 3 t && _ && _) = false
    rw [h]
    rfl
  | _ => rfl
theorem rulB_f2 {ds : List PyData} (h : ds.length ≠ 2) : rulB (.tuple ds) = false := by
  unfold rulB
  split
  · rename_i e
    cases e
    exact absurd rfl h
  · rfl
theorem id_map {α : Type} (xs : List α) : xs.map (fun x => x) = xs := List.map_id' xs
theorem isr_tot {d : PyData} (h : wf d = true) : m_isr [d] = some (.bool (rulB d)) := by
  cases d with
  | tuple ds =>
    have hw := wf_t h
    unfold m_isr
    refine (runD_r (by rfl)).trans ?_
    rw [show startR 2 [.tuple ds] = [.val (.tuple ds), .no] from rfl]
    unfold fb_is_rule
    by_cases h2 : ds.length = 2
    · match ds, h2, hw with
      | [t, e], _, hw =>
        have e1 : m_ist 4 [t, .int 3] = some (.bool (tstB 3 t)) := ist_tot 3 t (hw t (by simp))
        cases ht : tstB 3 t with
        | false =>
          rw [rulB_f1 ht]
          rw [ht] at e1
          exact rt_ret (if_yes (by simp only [gv_0, gv_s, gb_0, gb_s, scr_0, bnd2_ss, consD_, tupD_, lstD_, asgR_s, seqR_nx, seqR_ret, ifR_t, ifR_f, retR_s, retD_s, asB_b, asI_i, addD_ii, subD_ii, modD_ii, gtD_ii, geD_ii, leD_ii, ltD_ii, eqD_ii, eqD_ss, neD_ss, neD_ii, neD_bb, ixD_t, ixD_l, andB_t, andB_f, orB_t, orB_f, notV_b, mixR_, setsR_nil, setsR_cons, tg1_, tgT_1, tgT_2, tgT_4, asgG_u, walkD_t, walkD_l, tupleD_l, tupleD_t, listD_l, listD_t, lenD_t, lenD_l, wipeR_nil, wipeR_cons, Option.bind_some, Option.map_some, List.set_cons_zero, List.set_cons_succ, List.length_cons, List.length_nil, Nat.zero_add, Nat.reduceAdd, Nat.reduceLeDiff, Int.reduceAdd, Int.reduceLE, Int.reduceLT, Int.reduceNeg, Int.reduceSub, Int.reduceMul, Int.reduceEq, Bool.not_true, Bool.not_false, decide_true, decide_false, atI_0, atI_1, atI_2, atI_3, Int.reduceToNat, isi_tt, e1]; rfl) rfl)
        | true =>
          rw [ht] at e1
          refine rt_step (ρ := [.val (.tuple [t, e]), .no]) (if_no (by simp only [gv_0, gv_s, gb_0, gb_s, scr_0, bnd2_ss, consD_, tupD_, lstD_, asgR_s, seqR_nx, seqR_ret, ifR_t, ifR_f, retR_s, retD_s, asB_b, asI_i, addD_ii, subD_ii, modD_ii, gtD_ii, geD_ii, leD_ii, ltD_ii, eqD_ii, eqD_ss, neD_ss, neD_ii, neD_bb, ixD_t, ixD_l, andB_t, andB_f, orB_t, orB_f, notV_b, mixR_, setsR_nil, setsR_cons, tg1_, tgT_1, tgT_2, tgT_4, asgG_u, walkD_t, walkD_l, tupleD_l, tupleD_t, listD_l, listD_t, lenD_t, lenD_l, wipeR_nil, wipeR_cons, Option.bind_some, Option.map_some, List.set_cons_zero, List.set_cons_succ, List.length_cons, List.length_nil, Nat.zero_add, Nat.reduceAdd, Nat.reduceLeDiff, Int.reduceAdd, Int.reduceLE, Int.reduceLT, Int.reduceNeg, Int.reduceSub, Int.reduceMul, Int.reduceEq, Bool.not_true, Bool.not_false, decide_true, decide_false, atI_0, atI_1, atI_2, atI_3, Int.reduceToNat, isi_tt, e1]; rfl) rfl) ?_
          have hwe := hw e (by simp)
          by_cases he : ∃ es, e = .tuple es
          · obtain ⟨es, rfl⟩ := he
            show _ = some (PyData.bool (tstB 3 t && (decide (1 ≤ es.length) && decide (es.length ≤ 3)) && es.all deedB))
            rw [ht, Bool.true_and]
            have c1 : decide ((1 : Int) ≤ (es.length : Int)) = decide (1 ≤ es.length) := dec_iff (by omega)
            have c2 : decide ((es.length : Int) ≤ 3) = decide (es.length ≤ 3) := dec_iff (by omega)
            cases hs : (decide (1 ≤ es.length) && decide (es.length ≤ 3)) with
            | false =>
              exact rt_ret (if_yes (by simp only [gv_0, gv_s, gb_0, gb_s, scr_0, bnd2_ss, consD_, tupD_, lstD_, asgR_s, seqR_nx, seqR_ret, ifR_t, ifR_f, retR_s, retD_s, asB_b, asI_i, addD_ii, subD_ii, modD_ii, gtD_ii, geD_ii, leD_ii, ltD_ii, eqD_ii, eqD_ss, neD_ss, neD_ii, neD_bb, ixD_t, ixD_l, andB_t, andB_f, orB_t, orB_f, notV_b, mixR_, setsR_nil, setsR_cons, tg1_, tgT_1, tgT_2, tgT_4, asgG_u, walkD_t, walkD_l, tupleD_l, tupleD_t, listD_l, listD_t, lenD_t, lenD_l, wipeR_nil, wipeR_cons, Option.bind_some, Option.map_some, List.set_cons_zero, List.set_cons_succ, List.length_cons, List.length_nil, Nat.zero_add, Nat.reduceAdd, Nat.reduceLeDiff, Int.reduceAdd, Int.reduceLE, Int.reduceLT, Int.reduceNeg, Int.reduceSub, Int.reduceMul, Int.reduceEq, Bool.not_true, Bool.not_false, decide_true, decide_false, atI_0, atI_1, atI_2, atI_3, Int.reduceToNat, isi_tt, chain_le, c1, c2, hs]) rfl)
            | true =>
              have h3 : es.length ≤ 3 := of_decide_eq_true (Bool.and_eq_true_iff.mp hs).2
              refine rt_step (ρ := [.val (.tuple [t, .tuple es]), .no]) (if_no (by simp only [gv_0, gv_s, gb_0, gb_s, scr_0, bnd2_ss, consD_, tupD_, lstD_, asgR_s, seqR_nx, seqR_ret, ifR_t, ifR_f, retR_s, retD_s, asB_b, asI_i, addD_ii, subD_ii, modD_ii, gtD_ii, geD_ii, leD_ii, ltD_ii, eqD_ii, eqD_ss, neD_ss, neD_ii, neD_bb, ixD_t, ixD_l, andB_t, andB_f, orB_t, orB_f, notV_b, mixR_, setsR_nil, setsR_cons, tg1_, tgT_1, tgT_2, tgT_4, asgG_u, walkD_t, walkD_l, tupleD_l, tupleD_t, listD_l, listD_t, lenD_t, lenD_l, wipeR_nil, wipeR_cons, Option.bind_some, Option.map_some, List.set_cons_zero, List.set_cons_succ, List.length_cons, List.length_nil, Nat.zero_add, Nat.reduceAdd, Nat.reduceLeDiff, Int.reduceAdd, Int.reduceLE, Int.reduceLT, Int.reduceNeg, Int.reduceSub, Int.reduceMul, Int.reduceEq, Bool.not_true, Bool.not_false, decide_true, decide_false, atI_0, atI_1, atI_2, atI_3, Int.reduceToNat, isi_tt, chain_le, c1, c2, hs]) rfl) ?_
              have e3 := compL_map (h := tg1) (is := [1]) (vs := [1]) (ρ := [.val (.tuple [t, .tuple es]), .no]) (fe := fun ρ => ((bnd2 (gv 1 ρ) (some []) consD)).bind m_isd) (fun d : PyData => d) (fun d => [d]) (fun d => .bool (deedB d)) es (by omega) (fun _ _ => rfl) (fun d hd => by simp only [gv_0, gv_s, gb_0, gb_s, scr_0, bnd2_ss, consD_, tupD_, lstD_, asgR_s, seqR_nx, seqR_ret, ifR_t, ifR_f, retR_s, retD_s, asB_b, asI_i, addD_ii, subD_ii, modD_ii, gtD_ii, geD_ii, leD_ii, ltD_ii, eqD_ii, eqD_ss, neD_ss, neD_ii, neD_bb, ixD_t, ixD_l, andB_t, andB_f, orB_t, orB_f, notV_b, mixR_, setsR_nil, setsR_cons, tg1_, tgT_1, tgT_2, tgT_4, asgG_u, walkD_t, walkD_l, tupleD_l, tupleD_t, listD_l, listD_t, lenD_t, lenD_l, wipeR_nil, wipeR_cons, Option.bind_some, Option.map_some, List.set_cons_zero, List.set_cons_succ, List.length_cons, List.length_nil, Nat.zero_add, Nat.reduceAdd, Nat.reduceLeDiff, Int.reduceAdd, Int.reduceLE, Int.reduceLT, Int.reduceNeg, Int.reduceSub, Int.reduceMul, Int.reduceEq, Bool.not_true, Bool.not_false, decide_true, decide_false, atI_0, atI_1, atI_2, atI_3, Int.reduceToNat, isd_tot (wf_t hwe d hd)])
              rw [id_map] at e3
              simp only [gv_0, gv_s, gb_0, gb_s, scr_0, bnd2_ss, consD_, tupD_, lstD_, asgR_s, seqR_nx, seqR_ret, ifR_t, ifR_f, retR_s, retD_s, asB_b, asI_i, addD_ii, subD_ii, modD_ii, gtD_ii, geD_ii, leD_ii, ltD_ii, eqD_ii, eqD_ss, neD_ss, neD_ii, neD_bb, ixD_t, ixD_l, andB_t, andB_f, orB_t, orB_f, notV_b, mixR_, setsR_nil, setsR_cons, tg1_, tgT_1, tgT_2, tgT_4, asgG_u, walkD_t, walkD_l, tupleD_l, tupleD_t, listD_l, listD_t, lenD_t, lenD_l, wipeR_nil, wipeR_cons, Option.bind_some, Option.map_some, List.set_cons_zero, List.set_cons_succ, List.length_cons, List.length_nil, Nat.zero_add, Nat.reduceAdd, Nat.reduceLeDiff, Int.reduceAdd, Int.reduceLE, Int.reduceLT, Int.reduceNeg, Int.reduceSub, Int.reduceMul, Int.reduceEq, Bool.not_true, Bool.not_false, decide_true, decide_false, atI_0, atI_1, atI_2, atI_3, Int.reduceToNat]
              rw [e3]
              simp only [gv_0, gv_s, gb_0, gb_s, scr_0, bnd2_ss, consD_, tupD_, lstD_, asgR_s, seqR_nx, seqR_ret, ifR_t, ifR_f, retR_s, retD_s, asB_b, asI_i, addD_ii, subD_ii, modD_ii, gtD_ii, geD_ii, leD_ii, ltD_ii, eqD_ii, eqD_ss, neD_ss, neD_ii, neD_bb, ixD_t, ixD_l, andB_t, andB_f, orB_t, orB_f, notV_b, mixR_, setsR_nil, setsR_cons, tg1_, tgT_1, tgT_2, tgT_4, asgG_u, walkD_t, walkD_l, tupleD_l, tupleD_t, listD_l, listD_t, lenD_t, lenD_l, wipeR_nil, wipeR_cons, Option.bind_some, Option.map_some, List.set_cons_zero, List.set_cons_succ, List.length_cons, List.length_nil, Nat.zero_add, Nat.reduceAdd, Nat.reduceLeDiff, Int.reduceAdd, Int.reduceLE, Int.reduceLT, Int.reduceNeg, Int.reduceSub, Int.reduceMul, Int.reduceEq, Bool.not_true, Bool.not_false, decide_true, decide_false, atI_0, atI_1, atI_2, atI_3, Int.reduceToNat, all_map', Bool.true_and]
          · rw [show rulB (.tuple [t, e]) = false from by
              cases e with
              | tuple es => exact (he ⟨es, rfl⟩).elim
              | _ => rfl]
            exact rt_ret (if_yes (by simp only [gv_0, gv_s, gb_0, gb_s, scr_0, bnd2_ss, consD_, tupD_, lstD_, asgR_s, seqR_nx, seqR_ret, ifR_t, ifR_f, retR_s, retD_s, asB_b, asI_i, addD_ii, subD_ii, modD_ii, gtD_ii, geD_ii, leD_ii, ltD_ii, eqD_ii, eqD_ss, neD_ss, neD_ii, neD_bb, ixD_t, ixD_l, andB_t, andB_f, orB_t, orB_f, notV_b, mixR_, setsR_nil, setsR_cons, tg1_, tgT_1, tgT_2, tgT_4, asgG_u, walkD_t, walkD_l, tupleD_l, tupleD_t, listD_l, listD_t, lenD_t, lenD_l, wipeR_nil, wipeR_cons, Option.bind_some, Option.map_some, List.set_cons_zero, List.set_cons_succ, List.length_cons, List.length_nil, Nat.zero_add, Nat.reduceAdd, Nat.reduceLeDiff, Int.reduceAdd, Int.reduceLE, Int.reduceLT, Int.reduceNeg, Int.reduceSub, Int.reduceMul, Int.reduceEq, Bool.not_true, Bool.not_false, decide_true, decide_false, atI_0, atI_1, atI_2, atI_3, Int.reduceToNat, not_tup hwe (fun es z => he ⟨es, z⟩)]) rfl)
    · rw [rulB_f2 h2]
      exact rt_ret (if_yes (by simp only [gv_0, gv_s, gb_0, gb_s, scr_0, bnd2_ss, consD_, tupD_, lstD_, asgR_s, seqR_nx, seqR_ret, ifR_t, ifR_f, retR_s, retD_s, asB_b, asI_i, addD_ii, subD_ii, modD_ii, gtD_ii, geD_ii, leD_ii, ltD_ii, eqD_ii, eqD_ss, neD_ss, neD_ii, neD_bb, ixD_t, ixD_l, andB_t, andB_f, orB_t, orB_f, notV_b, mixR_, setsR_nil, setsR_cons, tg1_, tgT_1, tgT_2, tgT_4, asgG_u, walkD_t, walkD_l, tupleD_l, tupleD_t, listD_l, listD_t, lenD_t, lenD_l, wipeR_nil, wipeR_cons, Option.bind_some, Option.map_some, List.set_cons_zero, List.set_cons_succ, List.length_cons, List.length_nil, Nat.zero_add, Nat.reduceAdd, Nat.reduceLeDiff, Int.reduceAdd, Int.reduceLE, Int.reduceLT, Int.reduceNeg, Int.reduceSub, Int.reduceMul, Int.reduceEq, Bool.not_true, Bool.not_false, decide_true, decide_false, atI_0, atI_1, atI_2, atI_3, Int.reduceToNat, isi_tt, show decide ((ds.length : Int) = 2) = false from decide_eq_false (by omega)]) rfl)
  | dict _ => cases h
  | _ => rfl
theorem partB_f1 {t e : PyData} (h : nmB t = false) : partB' (.tuple [t, e]) = false := by
  cases e with
  | tuple ds =>
    show (nmB t && _) = false
    rw [h]
    rfl
  | _ => rfl
theorem partB_f2 {ds : List PyData} (h : ds.length ≠ 2) : partB' (.tuple ds) = false := by
  unfold partB'
  split
  · rename_i e
    cases e
    exact absurd rfl h
  · rfl
theorem isp_tot {d : PyData} (h : wf d = true) : m_isp [d] = some (.bool (partB' d)) := by
  cases d with
  | tuple ds =>
    have hw := wf_t h
    unfold m_isp
    refine (runD_r (by rfl)).trans ?_
    rw [show startR 2 [.tuple ds] = [.val (.tuple ds), .no] from rfl]
    unfold fb_is_part
    by_cases h2 : ds.length = 2
    · match ds, h2, hw with
      | [t, e], _, hw =>
        have e1 : m_isn [t] = some (.bool (nmB t)) := isn_tot (hw t (by simp))
        have hwe := hw e (by simp)
        cases ht : nmB t with
        | false =>
          rw [partB_f1 ht]
          rw [ht] at e1
          exact rt_ret (if_yes (by simp only [gv_0, gv_s, gb_0, gb_s, scr_0, bnd2_ss, consD_, tupD_, lstD_, asgR_s, seqR_nx, seqR_ret, ifR_t, ifR_f, retR_s, retD_s, asB_b, asI_i, addD_ii, subD_ii, modD_ii, gtD_ii, geD_ii, leD_ii, ltD_ii, eqD_ii, eqD_ss, neD_ss, neD_ii, neD_bb, ixD_t, ixD_l, andB_t, andB_f, orB_t, orB_f, notV_b, mixR_, setsR_nil, setsR_cons, tg1_, tgT_1, tgT_2, tgT_4, asgG_u, walkD_t, walkD_l, tupleD_l, tupleD_t, listD_l, listD_t, lenD_t, lenD_l, wipeR_nil, wipeR_cons, Option.bind_some, Option.map_some, List.set_cons_zero, List.set_cons_succ, List.length_cons, List.length_nil, Nat.zero_add, Nat.reduceAdd, Nat.reduceLeDiff, Int.reduceAdd, Int.reduceLE, Int.reduceLT, Int.reduceNeg, Int.reduceSub, Int.reduceMul, Int.reduceEq, Bool.not_true, Bool.not_false, decide_true, decide_false, atI_0, atI_1, atI_2, atI_3, Int.reduceToNat, isi_tt, e1]; rfl) rfl)
        | true =>
          rw [ht] at e1
          by_cases he : ∃ es, e = .tuple es
          · obtain ⟨es, rfl⟩ := he
            refine rt_step (ρ := [.val (.tuple [t, .tuple es]), .no]) (if_no (by simp only [gv_0, gv_s, gb_0, gb_s, scr_0, bnd2_ss, consD_, tupD_, lstD_, asgR_s, seqR_nx, seqR_ret, ifR_t, ifR_f, retR_s, retD_s, asB_b, asI_i, addD_ii, subD_ii, modD_ii, gtD_ii, geD_ii, leD_ii, ltD_ii, eqD_ii, eqD_ss, neD_ss, neD_ii, neD_bb, ixD_t, ixD_l, andB_t, andB_f, orB_t, orB_f, notV_b, mixR_, setsR_nil, setsR_cons, tg1_, tgT_1, tgT_2, tgT_4, asgG_u, walkD_t, walkD_l, tupleD_l, tupleD_t, listD_l, listD_t, lenD_t, lenD_l, wipeR_nil, wipeR_cons, Option.bind_some, Option.map_some, List.set_cons_zero, List.set_cons_succ, List.length_cons, List.length_nil, Nat.zero_add, Nat.reduceAdd, Nat.reduceLeDiff, Int.reduceAdd, Int.reduceLE, Int.reduceLT, Int.reduceNeg, Int.reduceSub, Int.reduceMul, Int.reduceEq, Bool.not_true, Bool.not_false, decide_true, decide_false, atI_0, atI_1, atI_2, atI_3, Int.reduceToNat, isi_tt, e1]; rfl) rfl) ?_
            show _ = some (PyData.bool (nmB t && (decide (es.length ≤ 4) && es.all rulB)))
            rw [ht, Bool.true_and]
            have c2 : decide ((es.length : Int) ≤ 4) = decide (es.length ≤ 4) := dec_iff (by omega)
            cases hs : decide (es.length ≤ 4) with
            | false =>
              simp only [gv_0, gv_s, gb_0, gb_s, scr_0, bnd2_ss, consD_, tupD_, lstD_, asgR_s, seqR_nx, seqR_ret, ifR_t, ifR_f, retR_s, retD_s, asB_b, asI_i, addD_ii, subD_ii, modD_ii, gtD_ii, geD_ii, leD_ii, ltD_ii, eqD_ii, eqD_ss, neD_ss, neD_ii, neD_bb, ixD_t, ixD_l, andB_t, andB_f, orB_t, orB_f, notV_b, mixR_, setsR_nil, setsR_cons, tg1_, tgT_1, tgT_2, tgT_4, asgG_u, walkD_t, walkD_l, tupleD_l, tupleD_t, listD_l, listD_t, lenD_t, lenD_l, wipeR_nil, wipeR_cons, Option.bind_some, Option.map_some, List.set_cons_zero, List.set_cons_succ, List.length_cons, List.length_nil, Nat.zero_add, Nat.reduceAdd, Nat.reduceLeDiff, Int.reduceAdd, Int.reduceLE, Int.reduceLT, Int.reduceNeg, Int.reduceSub, Int.reduceMul, Int.reduceEq, Bool.not_true, Bool.not_false, decide_true, decide_false, atI_0, atI_1, atI_2, atI_3, Int.reduceToNat, c2, hs, andV_f]
              rfl
            | true =>
              have h3 : es.length ≤ 4 := of_decide_eq_true hs
              have e3 := compL_map (h := tg1) (is := [1]) (vs := [1]) (ρ := [.val (.tuple [t, .tuple es]), .no]) (fe := fun ρ => ((bnd2 (gv 1 ρ) (some []) consD)).bind m_isr) (fun d : PyData => d) (fun d => [d]) (fun d => .bool (rulB d)) es (by omega) (fun _ _ => rfl) (fun d hd => by simp only [gv_0, gv_s, gb_0, gb_s, scr_0, bnd2_ss, consD_, tupD_, lstD_, asgR_s, seqR_nx, seqR_ret, ifR_t, ifR_f, retR_s, retD_s, asB_b, asI_i, addD_ii, subD_ii, modD_ii, gtD_ii, geD_ii, leD_ii, ltD_ii, eqD_ii, eqD_ss, neD_ss, neD_ii, neD_bb, ixD_t, ixD_l, andB_t, andB_f, orB_t, orB_f, notV_b, mixR_, setsR_nil, setsR_cons, tg1_, tgT_1, tgT_2, tgT_4, asgG_u, walkD_t, walkD_l, tupleD_l, tupleD_t, listD_l, listD_t, lenD_t, lenD_l, wipeR_nil, wipeR_cons, Option.bind_some, Option.map_some, List.set_cons_zero, List.set_cons_succ, List.length_cons, List.length_nil, Nat.zero_add, Nat.reduceAdd, Nat.reduceLeDiff, Int.reduceAdd, Int.reduceLE, Int.reduceLT, Int.reduceNeg, Int.reduceSub, Int.reduceMul, Int.reduceEq, Bool.not_true, Bool.not_false, decide_true, decide_false, atI_0, atI_1, atI_2, atI_3, Int.reduceToNat, isr_tot (wf_t hwe d hd)])
              rw [id_map] at e3
              simp only [gv_0, gv_s, gb_0, gb_s, scr_0, bnd2_ss, consD_, tupD_, lstD_, asgR_s, seqR_nx, seqR_ret, ifR_t, ifR_f, retR_s, retD_s, asB_b, asI_i, addD_ii, subD_ii, modD_ii, gtD_ii, geD_ii, leD_ii, ltD_ii, eqD_ii, eqD_ss, neD_ss, neD_ii, neD_bb, ixD_t, ixD_l, andB_t, andB_f, orB_t, orB_f, notV_b, mixR_, setsR_nil, setsR_cons, tg1_, tgT_1, tgT_2, tgT_4, asgG_u, walkD_t, walkD_l, tupleD_l, tupleD_t, listD_l, listD_t, lenD_t, lenD_l, wipeR_nil, wipeR_cons, Option.bind_some, Option.map_some, List.set_cons_zero, List.set_cons_succ, List.length_cons, List.length_nil, Nat.zero_add, Nat.reduceAdd, Nat.reduceLeDiff, Int.reduceAdd, Int.reduceLE, Int.reduceLT, Int.reduceNeg, Int.reduceSub, Int.reduceMul, Int.reduceEq, Bool.not_true, Bool.not_false, decide_true, decide_false, atI_0, atI_1, atI_2, atI_3, Int.reduceToNat, c2, hs]
              rw [e3]
              simp only [gv_0, gv_s, gb_0, gb_s, scr_0, bnd2_ss, consD_, tupD_, lstD_, asgR_s, seqR_nx, seqR_ret, ifR_t, ifR_f, retR_s, retD_s, asB_b, asI_i, addD_ii, subD_ii, modD_ii, gtD_ii, geD_ii, leD_ii, ltD_ii, eqD_ii, eqD_ss, neD_ss, neD_ii, neD_bb, ixD_t, ixD_l, andB_t, andB_f, orB_t, orB_f, notV_b, mixR_, setsR_nil, setsR_cons, tg1_, tgT_1, tgT_2, tgT_4, asgG_u, walkD_t, walkD_l, tupleD_l, tupleD_t, listD_l, listD_t, lenD_t, lenD_l, wipeR_nil, wipeR_cons, Option.bind_some, Option.map_some, List.set_cons_zero, List.set_cons_succ, List.length_cons, List.length_nil, Nat.zero_add, Nat.reduceAdd, Nat.reduceLeDiff, Int.reduceAdd, Int.reduceLE, Int.reduceLT, Int.reduceNeg, Int.reduceSub, Int.reduceMul, Int.reduceEq, Bool.not_true, Bool.not_false, decide_true, decide_false, atI_0, atI_1, atI_2, atI_3, Int.reduceToNat, all_map', andV_bb, Bool.true_and]
          · rw [show partB' (.tuple [t, e]) = false from by
              cases e with
              | tuple es => exact (he ⟨es, rfl⟩).elim
              | _ => rfl]
            exact rt_ret (if_yes (by simp only [gv_0, gv_s, gb_0, gb_s, scr_0, bnd2_ss, consD_, tupD_, lstD_, asgR_s, seqR_nx, seqR_ret, ifR_t, ifR_f, retR_s, retD_s, asB_b, asI_i, addD_ii, subD_ii, modD_ii, gtD_ii, geD_ii, leD_ii, ltD_ii, eqD_ii, eqD_ss, neD_ss, neD_ii, neD_bb, ixD_t, ixD_l, andB_t, andB_f, orB_t, orB_f, notV_b, mixR_, setsR_nil, setsR_cons, tg1_, tgT_1, tgT_2, tgT_4, asgG_u, walkD_t, walkD_l, tupleD_l, tupleD_t, listD_l, listD_t, lenD_t, lenD_l, wipeR_nil, wipeR_cons, Option.bind_some, Option.map_some, List.set_cons_zero, List.set_cons_succ, List.length_cons, List.length_nil, Nat.zero_add, Nat.reduceAdd, Nat.reduceLeDiff, Int.reduceAdd, Int.reduceLE, Int.reduceLT, Int.reduceNeg, Int.reduceSub, Int.reduceMul, Int.reduceEq, Bool.not_true, Bool.not_false, decide_true, decide_false, atI_0, atI_1, atI_2, atI_3, Int.reduceToNat, isi_tt, e1, not_tup hwe (fun es z => he ⟨es, z⟩)]; rfl) rfl)
    · rw [partB_f2 h2]
      exact rt_ret (if_yes (by simp only [gv_0, gv_s, gb_0, gb_s, scr_0, bnd2_ss, consD_, tupD_, lstD_, asgR_s, seqR_nx, seqR_ret, ifR_t, ifR_f, retR_s, retD_s, asB_b, asI_i, addD_ii, subD_ii, modD_ii, gtD_ii, geD_ii, leD_ii, ltD_ii, eqD_ii, eqD_ss, neD_ss, neD_ii, neD_bb, ixD_t, ixD_l, andB_t, andB_f, orB_t, orB_f, notV_b, mixR_, setsR_nil, setsR_cons, tg1_, tgT_1, tgT_2, tgT_4, asgG_u, walkD_t, walkD_l, tupleD_l, tupleD_t, listD_l, listD_t, lenD_t, lenD_l, wipeR_nil, wipeR_cons, Option.bind_some, Option.map_some, List.set_cons_zero, List.set_cons_succ, List.length_cons, List.length_nil, Nat.zero_add, Nat.reduceAdd, Nat.reduceLeDiff, Int.reduceAdd, Int.reduceLE, Int.reduceLT, Int.reduceNeg, Int.reduceSub, Int.reduceMul, Int.reduceEq, Bool.not_true, Bool.not_false, decide_true, decide_false, atI_0, atI_1, atI_2, atI_3, Int.reduceToNat, isi_tt, show decide ((ds.length : Int) = 2) = false from decide_eq_false (by omega)]) rfl)
  | dict _ => cases h
  | _ => rfl
end Sv
namespace Sv
open PySem L2 Evl
theorem nm_dec {d : PyData} (h : nmB d = true) : ∃ s, d = .str s ∧ isNm s = true := by
  cases d with
  | str s => exact ⟨s, rfl, h⟩
  | _ => cases h
theorem tst_dec : ∀ (n : Nat) (d : PyData), tstB n d = true → ∃ t : Tst, d = t.enc ∧ isT n t = true
  | 0, d, h => by cases h
  | n + 1, d, h => by
    by_cases hd : ∃ w r, d = .tuple (.str w :: r)
    · obtain ⟨w, r, rfl⟩ := hd
      unfold tstB at h
      split at h
      · rename_i hj
        split at h
        · rename_i a b
          obtain ⟨h1, h2⟩ := Bool.and_eq_true_iff.mp h
          obtain ⟨t1, rfl, i1⟩ := tst_dec n a h1
          obtain ⟨t2, rfl, i2⟩ := tst_dec n b h2
          rcases List.mem_cons.mp hj with rfl | hj
          · exact ⟨.both t1 t2, rfl, by simp [isT, i1, i2]⟩
          · rw [List.mem_singleton.mp hj]
            exact ⟨.either t1 t2, rfl, by simp [isT, i1, i2]⟩
        · cases h
      · split at h
        · rename_i hy
          subst hy
          split at h
          · exact ⟨.yes, rfl, rfl⟩
          · cases h
        · split at h
          · rename_i a
            split at h
            · rename_i hn
              subst hn
              obtain ⟨t1, rfl, i1⟩ := tst_dec n a h
              exact ⟨.not t1, rfl, i1⟩
            · split at h
              · rename_i ho
                subst ho
                cases a with
                | int k =>
                  unfold numbB at h
                  simp only [Bool.and_eq_true, decide_eq_true_eq] at h
                  exact ⟨.over k, rfl, by simpa [isT] using h⟩
                | _ => cases h
              · obtain ⟨h1, h2⟩ := Bool.and_eq_true_iff.mp h
                obtain ⟨s, rfl, hs⟩ := nm_dec h2
                have h1 := of_decide_eq_true h1
                simp only [List.mem_cons, List.not_mem_nil, or_false] at h1
                rcases h1 with rfl | rfl | rfl
                · exact ⟨.frm s, rfl, hs⟩
                · exact ⟨.word s, rfl, hs⟩
                · exact ⟨.marked s, rfl, hs⟩
          · cases h
    · rw [tstB_no fun w r z => hd ⟨w, r, z⟩] at h
      cases h
theorem deed_dec {d : PyData} (h : deedB d = true) : ∃ e : Deed, d = e.enc ∧ e.nm.all isNm = true := by
  by_cases hd : ∃ w r, d = .tuple (.str w :: r)
  · obtain ⟨w, r, rfl⟩ := hd
    rw [deedB_eq] at h
    split at h
    · rename_i he
      split at h
      · rcases List.mem_cons.mp he with rfl | he
        · exact ⟨.drop, rfl, rfl⟩
        · rw [List.mem_singleton.mp he]; exact ⟨.stop, rfl, rfl⟩
      · cases h
    · split at h
      · obtain ⟨h1, h2⟩ := Bool.and_eq_true_iff.mp h
        obtain ⟨s, rfl, hs⟩ := nm_dec h2
        have h1 := of_decide_eq_true h1
        simp only [List.mem_cons, List.not_mem_nil, or_false] at h1
        rcases h1 with rfl | rfl | rfl | rfl | rfl | rfl
        · exact ⟨.lay s, rfl, by simpa [Deed.nm] using hs⟩
        · exact ⟨.send s, rfl, by simpa [Deed.nm] using hs⟩
        · exact ⟨.ans s, rfl, by simpa [Deed.nm] using hs⟩
        · exact ⟨.mark s, rfl, by simpa [Deed.nm] using hs⟩
        · exact ⟨.unmark s, rfl, by simpa [Deed.nm] using hs⟩
        · exact ⟨.call s, rfl, by simpa [Deed.nm] using hs⟩
      · cases h
  · rw [deedB_no fun w r z => hd ⟨w, r, z⟩] at h
    cases h
theorem list_dec {α : Type} {p : PyData → Bool} {enc : α → PyData} {R : α → Prop} (h : ∀ d, p d = true → ∃ a, d = enc a ∧ R a) : ∀ ds : List PyData, ds.all p = true → ∃ as : List α, ds = as.map enc ∧ ∀ a ∈ as, R a
  | [], _ => ⟨[], rfl, fun _ z => nomatch z⟩
  | d :: ds, hd => by
    simp only [List.all_cons, Bool.and_eq_true] at hd
    obtain ⟨a, rfl, ra⟩ := h d hd.1
    obtain ⟨as, rfl, rs⟩ := list_dec h ds hd.2
    exact ⟨a :: as, rfl, fun x hx => by
      rcases List.mem_cons.mp hx with rfl | hx
      · exact ra
      · exact rs x hx⟩
theorem rul_dec {d : PyData} (h : rulB d = true) : ∃ r : Rul, d = r.enc ∧ isRl r = true ∧ szR r = true := by
  unfold rulB at h
  split at h
  · rename_i t ds
    obtain ⟨h1, h2⟩ := Bool.and_eq_true_iff.mp h
    obtain ⟨h0, h5⟩ := Bool.and_eq_true_iff.mp h1
    obtain ⟨t', rfl, ht⟩ := tst_dec 3 t h0
    obtain ⟨es, rfl, he⟩ := list_dec (fun d => deed_dec (d := d)) ds h2
    refine ⟨(t', es), rfl, ?_, ?_⟩
    · unfold isRl
      rw [Bool.and_eq_true]
      exact ⟨ht, List.all_eq_true.mpr he⟩
    · unfold szR
      simpa using h5
  · cases h
theorem part_dec {d : PyData} (h : partB' d = true) : ∃ p : Str × List Rul, d = partE p ∧ isNm p.1 = true ∧ szP p = true ∧ ∀ r ∈ p.2, isRl r = true := by
  unfold partB' at h
  split at h
  · rename_i n rs
    obtain ⟨h1, h2⟩ := Bool.and_eq_true_iff.mp h
    obtain ⟨h2, h3⟩ := Bool.and_eq_true_iff.mp h2
    obtain ⟨s, rfl, hs⟩ := nm_dec h1
    obtain ⟨es, rfl, he⟩ := list_dec (fun d => rul_dec (d := d)) rs h3
    refine ⟨(s, es), rfl, hs, ?_, fun r hr => (he r hr).1⟩
    unfold szP
    rw [Bool.and_eq_true]
    exact ⟨by simpa using h2, List.all_eq_true.mpr fun r hr => (he r hr).2⟩
  · cases h
theorem tstB_enc : ∀ (n : Nat) (t : Tst), isT n t = true → tstB n t.enc = true
  | 0, t, h => by cases h
  | n + 1, t, h => by
    cases t with
    | frm s => simp [isT] at h; simp [Tst.enc, tstB, nmB, h, ofS_inj]
    | word s => simp [isT] at h; simp [Tst.enc, tstB, nmB, h, ofS_inj]
    | marked s => simp [isT] at h; simp [Tst.enc, tstB, nmB, h, ofS_inj]
    | over k => simp [isT] at h; simp [Tst.enc, tstB, numbB, h, ofS_inj]
    | yes => simp [Tst.enc, tstB, ofS_inj]
    | not t =>
      have e := tstB_enc n t h
      simp [Tst.enc, tstB, e, ofS_inj]
    | both a b =>
      simp only [isT, Bool.and_eq_true] at h
      simp [Tst.enc, tstB, tstB_enc n a h.1, tstB_enc n b h.2, ofS_inj]
    | either a b =>
      simp only [isT, Bool.and_eq_true] at h
      simp [Tst.enc, tstB, tstB_enc n a h.1, tstB_enc n b h.2, ofS_inj]
theorem deedB_enc {e : Deed} (h : e.nm.all isNm = true) : deedB e.enc = true := by
  cases e with
  | drop => simp [Deed.enc, deedB, ofS_inj]
  | stop => simp [Deed.enc, deedB, ofS_inj]
  | _ s =>
    have hs : isNm s = true := by simpa [Deed.nm] using h
    simp [Deed.enc, deedB, nmB, hs, ofS_inj]
theorem rulB_enc {r : Rul} (h : isRl r = true) (hz : szR r = true) : rulB r.enc = true := by
  unfold isRl at h
  obtain ⟨h1, h2⟩ := Bool.and_eq_true_iff.mp h
  unfold szR at hz
  show (tstB 3 r.1.enc && (decide (1 ≤ (r.2.map Deed.enc).length) && decide ((r.2.map Deed.enc).length ≤ 3)) && (r.2.map Deed.enc).all deedB) = true
  rw [tstB_enc 3 r.1 h1, List.length_map, hz, List.all_map, Bool.true_and]
  exact List.all_eq_true.mpr fun d hd => deedB_enc (List.all_eq_true.mp h2 d hd)
theorem partB_enc {p : Str × List Rul} (h1 : isNm p.1 = true) (h2 : szP p = true) (h3 : ∀ r ∈ p.2, isRl r = true) : partB' (partE p) = true := by
  unfold szP at h2
  obtain ⟨h2, h4⟩ := Bool.and_eq_true_iff.mp h2
  show (isNm p.1 && (decide ((p.2.map Rul.enc).length ≤ 4) && (p.2.map Rul.enc).all rulB)) = true
  rw [h1, List.length_map, h2, List.all_map]
  exact List.all_eq_true.mpr fun r hr => rulB_enc (h3 r hr) (List.all_eq_true.mp h4 r hr)
/-- all that a book must be -/
def callOk (ns : List Str) (r : Rul) : Bool := (r.2.filter fun d => decide (d.word = ("call" : Str))).all fun d => decide (d.arg ∈ ns)
structure PB (b : Book) : Prop where
  l1 : 1 ≤ b.length
  l3 : b.length ≤ 3
  sz : b.all szP = true
  nm : NmB b
def tailB (b : Book) : Bool := rising b.names && decide (("main" : Str) ∈ b.names) && b.all fun p => p.2.all (callOk b.names)
def VB (b : Book) : Prop := PB b ∧ tailB b = true
def bookP (d : PyData) : Prop := ∃ b : Book, d = b.enc ∧ VB b
theorem enc_map (b : Book) : b.enc = .tuple (b.map partE) := rfl
theorem parts_dec {ps : List PyData} (h1 : 1 ≤ ps.length) (h3 : ps.length ≤ 3) (h : ps.all partB' = true) : ∃ b : Book, PyData.tuple ps = b.enc ∧ PB b := by
  obtain ⟨b, rfl, hb⟩ := list_dec (fun d => part_dec (d := d)) ps h
  rw [List.length_map] at h1 h3
  exact ⟨b, rfl, h1, h3, List.all_eq_true.mpr fun p hp => (hb p hp).2.1, fun p hp => (hb p hp).1, fun p hp => (hb p hp).2.2⟩
theorem forD_all {α : Type} (enc : α → PyData) {h : PyData → Option (List PyData)} {is : List Nat} {body : Rho → Option Res} (es : α → List PyData) (S : Rho → Prop) (p : α → Bool) (d : PyData) : ∀ (xs : List α) (ρ : Rho), (∀ x ∈ xs, h (enc x) = some (es x)) →
    (∀ x ∈ xs, ∀ ρ, S ρ → (p x = true → Nx S (body (setsR ρ is (es x)))) ∧ (p x = false → body (setsR ρ is (es x)) = some (.ret d))) → S ρ → (xs.all p = true → Nx S (forD h is body (xs.map enc) ρ)) ∧ (xs.all p = false → forD h is body (xs.map enc) ρ = some (.ret d))
  | [], ρ, _, _, hS => ⟨fun _ => ⟨ρ, rfl, hS⟩, fun z => absurd z (by simp)⟩
  | x :: xs, ρ, h1, h2, hS => by
    obtain ⟨ht, hf⟩ := h2 x List.mem_cons_self ρ hS
    simp only [List.map_cons, List.all_cons]
    unfold forD
    rw [h1 x List.mem_cons_self]
    dsimp only
    cases hp : p x with
    | true =>
      obtain ⟨ρ', e, hS'⟩ := ht hp
      rw [e]
      dsimp only
      rw [Bool.true_and]
      exact forD_all enc es S p d xs ρ' (fun y hy => h1 y (List.mem_cons_of_mem _ hy)) (fun y hy => h2 y (List.mem_cons_of_mem _ hy)) hS'
    | false =>
      rw [hf hp]
      exact ⟨fun z => absurd z (by simp), fun _ => rfl⟩
theorem for_all {α : Type} (enc : α → PyData) {h : PyData → Option (List PyData)} {is : List Nat} {body : Rho → Option Res} (es : α → List PyData) (S : Rho → Prop) (p : α → Bool) (d : PyData) (xs : List α) (ρ : Rho) (h1 : ∀ x ∈ xs, h (enc x) = some (es x))
    (h2 : ∀ x ∈ xs, ∀ ρ, S ρ → (p x = true → Nx S (body (setsR ρ is (es x)))) ∧ (p x = false → body (setsR ρ is (es x)) = some (.ret d))) (hS : S ρ) : (xs.all p = true → Nx S (forR (some (xs.map enc)) h is body ρ)) ∧ (xs.all p = false → forR (some (xs.map enc)) h is body ρ = some (.ret d)) :=
  forD_all enc es S p d xs ρ h1 h2 hS
theorem isNm_ok {s : Str} (h : isNm s = true) : nmOk s = true := by
  unfold isNm at h
  obtain ⟨_, h⟩ := Bool.and_eq_true_iff.mp h
  unfold nmOk PyData.strOk
  rw [Array.all_eq_true']
  intro c hc
  have := of_decide_eq_true (List.all_eq_true.mp h c (by simpa using hc))
  have key : ∀ c ∈ abc, c < 0x110000 := by decide +kernel
  simpa using key c this
theorem call_arg {d : Deed} (h : decide (d.word = ("call" : Str)) = true) : d.has = true := by
  have hw : d.word = "call" := of_decide_eq_true h
  cases d with
  | drop => revert hw; simp only [Deed.word]; decide +kernel
  | stop => revert hw; simp only [Deed.word]; decide +kernel
  | _ => rfl
theorem isb_parts {b : Book} (g : PB b) : m_isb [b.enc] = some (.bool (tailB b)) := by
  have h1 := g.l1
  have h3 := g.l3
  have szl : ∀ p ∈ b, p.2.length ≤ 4 ∧ ∀ r ∈ p.2, r.2.length ≤ 3 := fun p hp => by
    have := List.all_eq_true.mp g.sz p hp
    unfold szP at this
    obtain ⟨a, c⟩ := Bool.and_eq_true_iff.mp this
    refine ⟨of_decide_eq_true a, fun r hr => ?_⟩
    have := List.all_eq_true.mp c r hr
    unfold szR at this
    exact of_decide_eq_true (Bool.and_eq_true_iff.mp this).2
  unfold m_isb
  refine (runD_r (by rfl)).trans ?_
  rw [show startR 5 [b.enc] = [.val b.enc, .no, .no, .no, .no] from rfl]
  unfold fb_is_book
  have e1 : isiD "tuple" b.enc = some (.bool true) := rfl
  have e2 : lenD b.enc = some (.int (b.length : Int)) := len_book b
  have e3 : compL (some (b.map fun p => PyData.tuple [.str p.1, rulesD p.2])) tg1 [2] (fun ρ => some true) (fun ρ => ((bnd2 (gv 2 ρ) (some []) consD)).bind m_isp) [2] [.val b.enc, .no, .no, .no, .no] = some (.list (b.map fun p => .bool (szP p))) := by
    rw [compL_map (fun p : Str × List Rul => PyData.tuple [.str p.1, rulesD p.2]) (fun p => [partE p]) (fun p => .bool (szP p)) b (by omega) (fun _ _ => rfl) (fun p hp => by
      have := szl p hp
      simp only [gv_0, gv_s, gb_0, gb_s, scr_0, bnd2_ss, consD_, tupD_, lstD_, asgR_s, seqR_nx, seqR_ret, ifR_t, ifR_f, retR_s, retD_s, asB_b, asI_i, addD_ii, subD_ii, modD_ii, gtD_ii, geD_ii, leD_ii, ltD_ii, eqD_ii, eqD_ss, neD_ss, neD_ii, neD_bb, ixD_t, ixD_l, andB_t, andB_f, orB_t, orB_f, notV_b, mixR_, setsR_nil, setsR_cons, tg1_, tgT_1, tgT_2, tgT_4, asgG_u, walkD_t, walkD_l, tupleD_l, tupleD_t, listD_l, listD_t, lenD_t, lenD_l, wipeR_nil, wipeR_cons, Option.bind_some, Option.map_some, List.set_cons_zero, List.set_cons_succ, List.length_cons, List.length_nil, Nat.zero_add, Nat.reduceAdd, Nat.reduceLeDiff, Int.reduceAdd, Int.reduceLE, Int.reduceLT, Int.reduceNeg, Int.reduceSub, Int.reduceMul, Int.reduceEq, Bool.not_true, Bool.not_false, decide_true, decide_false, atI_0, atI_1, atI_2, atI_3, Int.reduceToNat, isp_eq (g.nm.nm p hp) (fun r hr => ⟨g.nm.rl p hp r hr, by have := this.2 r hr; omega⟩) (by omega)])]
  refine rt_step (ρ := [.val b.enc, .no, .no, .no, .no]) (if_no (by
    simp only [gv_0, gv_s, gb_0, gb_s, scr_0, bnd2_ss, consD_, tupD_, lstD_, asgR_s, seqR_nx, seqR_ret, ifR_t, ifR_f, retR_s, retD_s, asB_b, asI_i, addD_ii, subD_ii, modD_ii, gtD_ii, geD_ii, leD_ii, ltD_ii, eqD_ii, eqD_ss, neD_ss, neD_ii, neD_bb, ixD_t, ixD_l, andB_t, andB_f, orB_t, orB_f, notV_b, mixR_, setsR_nil, setsR_cons, tg1_, tgT_1, tgT_2, tgT_4, asgG_u, walkD_t, walkD_l, tupleD_l, tupleD_t, listD_l, listD_t, lenD_t, lenD_l, wipeR_nil, wipeR_cons, Option.bind_some, Option.map_some, List.set_cons_zero, List.set_cons_succ, List.length_cons, List.length_nil, Nat.zero_add, Nat.reduceAdd, Nat.reduceLeDiff, Int.reduceAdd, Int.reduceLE, Int.reduceLT, Int.reduceNeg, Int.reduceSub, Int.reduceMul, Int.reduceEq, Bool.not_true, Bool.not_false, decide_true, decide_false, atI_0, atI_1, atI_2, atI_3, Int.reduceToNat, e1, e2, walk_book, chain_le]
    rw [e3, decide_eq_true (by omega : (1 : Int) ≤ (b.length : Int)), decide_eq_true (by omega : (b.length : Int) ≤ 3)]
    simp only [gv_0, gv_s, gb_0, gb_s, scr_0, bnd2_ss, consD_, tupD_, lstD_, asgR_s, seqR_nx, seqR_ret, ifR_t, ifR_f, retR_s, retD_s, asB_b, asI_i, addD_ii, subD_ii, modD_ii, gtD_ii, geD_ii, leD_ii, ltD_ii, eqD_ii, eqD_ss, neD_ss, neD_ii, neD_bb, ixD_t, ixD_l, andB_t, andB_f, orB_t, orB_f, notV_b, mixR_, setsR_nil, setsR_cons, tg1_, tgT_1, tgT_2, tgT_4, asgG_u, walkD_t, walkD_l, tupleD_l, tupleD_t, listD_l, listD_t, lenD_t, lenD_l, wipeR_nil, wipeR_cons, Option.bind_some, Option.map_some, List.set_cons_zero, List.set_cons_succ, List.length_cons, List.length_nil, Nat.zero_add, Nat.reduceAdd, Nat.reduceLeDiff, Int.reduceAdd, Int.reduceLE, Int.reduceLT, Int.reduceNeg, Int.reduceSub, Int.reduceMul, Int.reduceEq, Bool.not_true, Bool.not_false, decide_true, decide_false, atI_0, atI_1, atI_2, atI_3, Int.reduceToNat, all_map', g.sz]
    rfl) rfl) ?_
  refine rt_step (ρ := [.val b.enc, .val (.list (b.names.map .str)), .no, .no, .no]) (by
    simp only [gv_0, gv_s, gb_0, gb_s, scr_0, bnd2_ss, consD_, tupD_, lstD_, asgR_s, seqR_nx, seqR_ret, ifR_t, ifR_f, retR_s, retD_s, asB_b, asI_i, addD_ii, subD_ii, modD_ii, gtD_ii, geD_ii, leD_ii, ltD_ii, eqD_ii, eqD_ss, neD_ss, neD_ii, neD_bb, ixD_t, ixD_l, andB_t, andB_f, orB_t, orB_f, notV_b, mixR_, setsR_nil, setsR_cons, tg1_, tgT_1, tgT_2, tgT_4, asgG_u, walkD_t, walkD_l, tupleD_l, tupleD_t, listD_l, listD_t, lenD_t, lenD_l, wipeR_nil, wipeR_cons, Option.bind_some, Option.map_some, List.set_cons_zero, List.set_cons_succ, List.length_cons, List.length_nil, Nat.zero_add, Nat.reduceAdd, Nat.reduceLeDiff, Int.reduceAdd, Int.reduceLE, Int.reduceLT, Int.reduceNeg, Int.reduceSub, Int.reduceMul, Int.reduceEq, Bool.not_true, Bool.not_false, decide_true, decide_false, atI_0, atI_1, atI_2, atI_3, Int.reduceToNat, walk_book]
    rw [compL_map (fun p : Str × List Rul => PyData.tuple [.str p.1, rulesD p.2]) (fun p => [PyData.tuple [.str p.1, rulesD p.2]]) (fun p => .str p.1) _ (by omega) (fun _ _ => rfl) (fun p hp => by simp only [gv_0, gv_s, gb_0, gb_s, scr_0, bnd2_ss, consD_, tupD_, lstD_, asgR_s, seqR_nx, seqR_ret, ifR_t, ifR_f, retR_s, retD_s, asB_b, asI_i, addD_ii, subD_ii, modD_ii, gtD_ii, geD_ii, leD_ii, ltD_ii, eqD_ii, eqD_ss, neD_ss, neD_ii, neD_bb, ixD_t, ixD_l, andB_t, andB_f, orB_t, orB_f, notV_b, mixR_, setsR_nil, setsR_cons, tg1_, tgT_1, tgT_2, tgT_4, asgG_u, walkD_t, walkD_l, tupleD_l, tupleD_t, listD_l, listD_t, lenD_t, lenD_l, wipeR_nil, wipeR_cons, Option.bind_some, Option.map_some, List.set_cons_zero, List.set_cons_succ, List.length_cons, List.length_nil, Nat.zero_add, Nat.reduceAdd, Nat.reduceLeDiff, Int.reduceAdd, Int.reduceLE, Int.reduceLT, Int.reduceNeg, Int.reduceSub, Int.reduceMul, Int.reduceEq, Bool.not_true, Bool.not_false, decide_true, decide_false, atI_0, atI_1, atI_2, atI_3, Int.reduceToNat])]
    simp only [gv_0, gv_s, gb_0, gb_s, scr_0, bnd2_ss, consD_, tupD_, lstD_, asgR_s, seqR_nx, seqR_ret, ifR_t, ifR_f, retR_s, retD_s, asB_b, asI_i, addD_ii, subD_ii, modD_ii, gtD_ii, geD_ii, leD_ii, ltD_ii, eqD_ii, eqD_ss, neD_ss, neD_ii, neD_bb, ixD_t, ixD_l, andB_t, andB_f, orB_t, orB_f, notV_b, mixR_, setsR_nil, setsR_cons, tg1_, tgT_1, tgT_2, tgT_4, asgG_u, walkD_t, walkD_l, tupleD_l, tupleD_t, listD_l, listD_t, lenD_t, lenD_l, wipeR_nil, wipeR_cons, Option.bind_some, Option.map_some, List.set_cons_zero, List.set_cons_succ, List.length_cons, List.length_nil, Nat.zero_add, Nat.reduceAdd, Nat.reduceLeDiff, Int.reduceAdd, Int.reduceLE, Int.reduceLT, Int.reduceNeg, Int.reduceSub, Int.reduceMul, Int.reduceEq, Bool.not_true, Bool.not_false, decide_true, decide_false, atI_0, atI_1, atI_2, atI_3, Int.reduceToNat]
    unfold Book.names
    rw [List.map_map]
    rfl) ?_
  have hno : b.names.all nmOk = true := List.all_eq_true.mpr fun x hx => by
    obtain ⟨p, hp, rfl⟩ := List.mem_map.mp hx
    exact isNm_ok (g.nm.nm p hp)
  have hnl : b.names.length = b.length := List.length_map ..
  have e4 := notIn_l "main" b.names hno (by decide +kernel)
  unfold tailB
  cases hr : rising b.names with
  | false =>
    simp only [gv_0, gv_s, gb_0, gb_s, scr_0, bnd2_ss, consD_, tupD_, lstD_, asgR_s, seqR_nx, seqR_ret, ifR_t, ifR_f, retR_s, retD_s, asB_b, asI_i, addD_ii, subD_ii, modD_ii, gtD_ii, geD_ii, leD_ii, ltD_ii, eqD_ii, eqD_ss, neD_ss, neD_ii, neD_bb, ixD_t, ixD_l, andB_t, andB_f, orB_t, orB_f, notV_b, mixR_, setsR_nil, setsR_cons, tg1_, tgT_1, tgT_2, tgT_4, asgG_u, walkD_t, walkD_l, tupleD_l, tupleD_t, listD_l, listD_t, lenD_t, lenD_l, wipeR_nil, wipeR_cons, Option.bind_some, Option.map_some, List.set_cons_zero, List.set_cons_succ, List.length_cons, List.length_nil, Nat.zero_add, Nat.reduceAdd, Nat.reduceLeDiff, Int.reduceAdd, Int.reduceLE, Int.reduceLT, Int.reduceNeg, Int.reduceSub, Int.reduceMul, Int.reduceEq, Bool.not_true, Bool.not_false, decide_true, decide_false, atI_0, atI_1, atI_2, atI_3, Int.reduceToNat, ris_l (ss := b.names) (by omega), hr]
    rfl
  | true =>
    cases hm : decide (("main" : Str) ∈ b.names) with
    | false =>
      rw [hm] at e4
      simp only [gv_0, gv_s, gb_0, gb_s, scr_0, bnd2_ss, consD_, tupD_, lstD_, asgR_s, seqR_nx, seqR_ret, ifR_t, ifR_f, retR_s, retD_s, asB_b, asI_i, addD_ii, subD_ii, modD_ii, gtD_ii, geD_ii, leD_ii, ltD_ii, eqD_ii, eqD_ss, neD_ss, neD_ii, neD_bb, ixD_t, ixD_l, andB_t, andB_f, orB_t, orB_f, notV_b, mixR_, setsR_nil, setsR_cons, tg1_, tgT_1, tgT_2, tgT_4, asgG_u, walkD_t, walkD_l, tupleD_l, tupleD_t, listD_l, listD_t, lenD_t, lenD_l, wipeR_nil, wipeR_cons, Option.bind_some, Option.map_some, List.set_cons_zero, List.set_cons_succ, List.length_cons, List.length_nil, Nat.zero_add, Nat.reduceAdd, Nat.reduceLeDiff, Int.reduceAdd, Int.reduceLE, Int.reduceLT, Int.reduceNeg, Int.reduceSub, Int.reduceMul, Int.reduceEq, Bool.not_true, Bool.not_false, decide_true, decide_false, atI_0, atI_1, atI_2, atI_3, Int.reduceToNat, ris_l (ss := b.names) (by omega), hr, e4]
      rfl
    | true =>
      rw [hm] at e4
      refine rt_step (ρ := [.val b.enc, .val (.list (b.names.map .str)), .no, .no, .no]) (if_no (by
        simp only [gv_0, gv_s, gb_0, gb_s, scr_0, bnd2_ss, consD_, tupD_, lstD_, asgR_s, seqR_nx, seqR_ret, ifR_t, ifR_f, retR_s, retD_s, asB_b, asI_i, addD_ii, subD_ii, modD_ii, gtD_ii, geD_ii, leD_ii, ltD_ii, eqD_ii, eqD_ss, neD_ss, neD_ii, neD_bb, ixD_t, ixD_l, andB_t, andB_f, orB_t, orB_f, notV_b, mixR_, setsR_nil, setsR_cons, tg1_, tgT_1, tgT_2, tgT_4, asgG_u, walkD_t, walkD_l, tupleD_l, tupleD_t, listD_l, listD_t, lenD_t, lenD_l, wipeR_nil, wipeR_cons, Option.bind_some, Option.map_some, List.set_cons_zero, List.set_cons_succ, List.length_cons, List.length_nil, Nat.zero_add, Nat.reduceAdd, Nat.reduceLeDiff, Int.reduceAdd, Int.reduceLE, Int.reduceLT, Int.reduceNeg, Int.reduceSub, Int.reduceMul, Int.reduceEq, Bool.not_true, Bool.not_false, decide_true, decide_false, atI_0, atI_1, atI_2, atI_3, Int.reduceToNat, ris_l (ss := b.names) (by omega), hr, e4]) rfl) ?_
      have loop := for_all (h := tg1) (is := [2]) (ρ := [.val b.enc, .val (.list (b.names.map .str)), .no, .no, .no]) (body := fun ρ => forR ((bnd2 (gb 2 ρ) (some (.int 1)) ixD).bind walkD) tg1 [3] (fun ρ =>
        ifR ((((compL ((((bnd2 (gv 3 ρ) (some []) consD)).bind m_cls).bind walkD) tg1 [4] (fun ρ => some true) (fun ρ => bnd2 (gb 4 ρ) (gb 1 ρ) inD) [4] ρ).bind allD).bind asB).map not) (retR (some (.bool false))) (some (.nx ρ))) ρ)
        partE (fun p => [partE p]) (fun ρ => ∃ x2 x3 x4, ρ = [.val b.enc, .val (.list (b.names.map .str)), x2, x3, x4]) (fun p => p.2.all (callOk b.names)) (.bool false) b (fun _ _ => rfl) (fun p hp ρ hρ => by
          obtain ⟨x2, x3, x4, rfl⟩ := hρ
          simp only [gv_0, gv_s, gb_0, gb_s, scr_0, bnd2_ss, consD_, tupD_, lstD_, asgR_s, seqR_nx, seqR_ret, ifR_t, ifR_f, retR_s, retD_s, asB_b, asI_i, addD_ii, subD_ii, modD_ii, gtD_ii, geD_ii, leD_ii, ltD_ii, eqD_ii, eqD_ss, neD_ss, neD_ii, neD_bb, ixD_t, ixD_l, andB_t, andB_f, orB_t, orB_f, notV_b, mixR_, setsR_nil, setsR_cons, tg1_, tgT_1, tgT_2, tgT_4, asgG_u, walkD_t, walkD_l, tupleD_l, tupleD_t, listD_l, listD_t, lenD_t, lenD_l, wipeR_nil, wipeR_cons, Option.bind_some, Option.map_some, List.set_cons_zero, List.set_cons_succ, List.length_cons, List.length_nil, Nat.zero_add, Nat.reduceAdd, Nat.reduceLeDiff, Int.reduceAdd, Int.reduceLE, Int.reduceLT, Int.reduceNeg, Int.reduceSub, Int.reduceMul, Int.reduceEq, Bool.not_true, Bool.not_false, decide_true, decide_false, atI_0, atI_1, atI_2, atI_3, Int.reduceToNat, show ixD (partE p) (.int 1) = some (rulesD p.2) from rfl, walk_rules]
          refine for_all Rul.enc (fun r => [r.enc]) (fun ρ => ∃ x2 x3 x4, ρ = [.val b.enc, .val (.list (b.names.map .str)), x2, x3, x4]) (callOk b.names) (.bool false) p.2 _ (fun _ _ => rfl) (fun r hr' ρ hρ => ?_) ⟨_, _, _, rfl⟩
          obtain ⟨x2, x3, x4, rfl⟩ := hρ
          have hfw := (szl p hp).2 r hr'
          have ec : (compL ((((bnd2 (gv 3 (setsR [.val b.enc, .val (.list (b.names.map .str)), x2, x3, x4] [3] [r.enc])) (some []) consD)).bind m_cls).bind walkD) tg1 [4] (fun ρ => some true) (fun ρ => bnd2 (gb 4 ρ) (gb 1 ρ) inD) [4] (setsR [.val b.enc, .val (.list (b.names.map .str)), x2, x3, x4] [3] [r.enc])).bind allD = some (.bool (callOk b.names r)) := by
            simp only [gv_0, gv_s, gb_0, gb_s, scr_0, bnd2_ss, consD_, tupD_, lstD_, asgR_s, seqR_nx, seqR_ret, ifR_t, ifR_f, retR_s, retD_s, asB_b, asI_i, addD_ii, subD_ii, modD_ii, gtD_ii, geD_ii, leD_ii, ltD_ii, eqD_ii, eqD_ss, neD_ss, neD_ii, neD_bb, ixD_t, ixD_l, andB_t, andB_f, orB_t, orB_f, notV_b, mixR_, setsR_nil, setsR_cons, tg1_, tgT_1, tgT_2, tgT_4, asgG_u, walkD_t, walkD_l, tupleD_l, tupleD_t, listD_l, listD_t, lenD_t, lenD_l, wipeR_nil, wipeR_cons, Option.bind_some, Option.map_some, List.set_cons_zero, List.set_cons_succ, List.length_cons, List.length_nil, Nat.zero_add, Nat.reduceAdd, Nat.reduceLeDiff, Int.reduceAdd, Int.reduceLE, Int.reduceLT, Int.reduceNeg, Int.reduceSub, Int.reduceMul, Int.reduceEq, Bool.not_true, Bool.not_false, decide_true, decide_false, atI_0, atI_1, atI_2, atI_3, Int.reduceToNat, cls_eq (r := r) (by omega)]
            rw [compL_map (fun d : Deed => PyData.str d.arg) (fun d => [.str d.arg]) (fun d => .bool (decide (d.arg ∈ b.names))) _ (Nat.le_trans (List.length_filter_le _ _) (by omega)) (fun _ _ => rfl) (fun d hd => by
              obtain ⟨h1, h2⟩ := List.mem_filter.mp hd
              have hin : nmOk d.arg = true := by
                have := g.nm.rl p hp r hr'
                unfold isRl at this
                have := List.all_eq_true.mp (Bool.and_eq_true_iff.mp this).2 d h1
                have hh := call_arg h2
                cases d with
                | drop => cases hh
                | stop => cases hh
                | _ n => exact isNm_ok (show isNm n = true by simpa [Deed.nm] using this)
              simp only [gv_0, gv_s, gb_0, gb_s, scr_0, bnd2_ss, consD_, tupD_, lstD_, asgR_s, seqR_nx, seqR_ret, ifR_t, ifR_f, retR_s, retD_s, asB_b, asI_i, addD_ii, subD_ii, modD_ii, gtD_ii, geD_ii, leD_ii, ltD_ii, eqD_ii, eqD_ss, neD_ss, neD_ii, neD_bb, ixD_t, ixD_l, andB_t, andB_f, orB_t, orB_f, notV_b, mixR_, setsR_nil, setsR_cons, tg1_, tgT_1, tgT_2, tgT_4, asgG_u, walkD_t, walkD_l, tupleD_l, tupleD_t, listD_l, listD_t, lenD_t, lenD_l, wipeR_nil, wipeR_cons, Option.bind_some, Option.map_some, List.set_cons_zero, List.set_cons_succ, List.length_cons, List.length_nil, Nat.zero_add, Nat.reduceAdd, Nat.reduceLeDiff, Int.reduceAdd, Int.reduceLE, Int.reduceLT, Int.reduceNeg, Int.reduceSub, Int.reduceMul, Int.reduceEq, Bool.not_true, Bool.not_false, decide_true, decide_false, atI_0, atI_1, atI_2, atI_3, Int.reduceToNat]
              rw [inD_l d.arg b.names hno hin])]
            simp only [gv_0, gv_s, gb_0, gb_s, scr_0, bnd2_ss, consD_, tupD_, lstD_, asgR_s, seqR_nx, seqR_ret, ifR_t, ifR_f, retR_s, retD_s, asB_b, asI_i, addD_ii, subD_ii, modD_ii, gtD_ii, geD_ii, leD_ii, ltD_ii, eqD_ii, eqD_ss, neD_ss, neD_ii, neD_bb, ixD_t, ixD_l, andB_t, andB_f, orB_t, orB_f, notV_b, mixR_, setsR_nil, setsR_cons, tg1_, tgT_1, tgT_2, tgT_4, asgG_u, walkD_t, walkD_l, tupleD_l, tupleD_t, listD_l, listD_t, lenD_t, lenD_l, wipeR_nil, wipeR_cons, Option.bind_some, Option.map_some, List.set_cons_zero, List.set_cons_succ, List.length_cons, List.length_nil, Nat.zero_add, Nat.reduceAdd, Nat.reduceLeDiff, Int.reduceAdd, Int.reduceLE, Int.reduceLT, Int.reduceNeg, Int.reduceSub, Int.reduceMul, Int.reduceEq, Bool.not_true, Bool.not_false, decide_true, decide_false, atI_0, atI_1, atI_2, atI_3, Int.reduceToNat, all_map']
            rfl
          refine ⟨fun hc => nx_fin (if_no (by rw [ec, hc]; rfl) rfl) ⟨_, _, _, rfl⟩, fun hc => if_yes (by rw [ec, hc]; rfl) rfl⟩) ⟨_, _, _, rfl⟩
      cases ha : b.all fun p => p.2.all (callOk b.names) with
      | true =>
        refine rt_for (loop.1 ha) ?_
        rintro ρ ⟨x2, x3, x4, rfl⟩
        rfl
      | false =>
        exact rt_ret (loop.2 ha)
open Classical in
theorem isb_tot {d : PyData} (h : wf d = true) : m_isb [d] = some (.bool (decide (bookP d))) := by
  by_cases hd : ∃ ps, d = .tuple ps
  · obtain ⟨ps, rfl⟩ := hd
    by_cases hc : (1 ≤ ps.length ∧ ps.length ≤ 3) ∧ ps.all partB' = true
    · obtain ⟨b, e, g⟩ := parts_dec hc.1.1 hc.1.2 hc.2
      rw [e, isb_parts g]
      congr 2
      cases ht : tailB b with
      | true => exact (decide_eq_true ⟨b, rfl, g, ht⟩).symm
      | false =>
        refine (decide_eq_false fun ⟨b', e', g', ht'⟩ => ?_).symm
        have := isb_parts g'
        rw [← e', isb_parts g, ht, ht'] at this
        cases this
    · have no : ¬ bookP (.tuple ps) := fun ⟨b, e, g, _⟩ => hc (by
        rw [enc_map] at e
        cases e
        rw [List.length_map]
        refine ⟨⟨g.l1, g.l3⟩, ?_⟩
        rw [List.all_map]
        exact List.all_eq_true.mpr fun p hp => partB_enc (g.nm.nm p hp) (List.all_eq_true.mp g.sz p hp) (g.nm.rl p hp))
      rw [decide_eq_false no]
      unfold m_isb
      refine (runD_r (by rfl)).trans ?_
      rw [show startR 5 [.tuple ps] = [.val (.tuple ps), .no, .no, .no, .no] from rfl]
      unfold fb_is_book
      refine rt_ret (if_yes ?_ rfl)
      simp only [gv_0, gv_s, gb_0, gb_s, scr_0, bnd2_ss, consD_, tupD_, lstD_, asgR_s, seqR_nx, seqR_ret, ifR_t, ifR_f, retR_s, retD_s, asB_b, asI_i, addD_ii, subD_ii, modD_ii, gtD_ii, geD_ii, leD_ii, ltD_ii, eqD_ii, eqD_ss, neD_ss, neD_ii, neD_bb, ixD_t, ixD_l, andB_t, andB_f, orB_t, orB_f, notV_b, mixR_, setsR_nil, setsR_cons, tg1_, tgT_1, tgT_2, tgT_4, asgG_u, walkD_t, walkD_l, tupleD_l, tupleD_t, listD_l, listD_t, lenD_t, lenD_l, wipeR_nil, wipeR_cons, Option.bind_some, Option.map_some, List.set_cons_zero, List.set_cons_succ, List.length_cons, List.length_nil, Nat.zero_add, Nat.reduceAdd, Nat.reduceLeDiff, Int.reduceAdd, Int.reduceLE, Int.reduceLT, Int.reduceNeg, Int.reduceSub, Int.reduceMul, Int.reduceEq, Bool.not_true, Bool.not_false, decide_true, decide_false, atI_0, atI_1, atI_2, atI_3, Int.reduceToNat, isi_tt, chain_le]
      by_cases hl : 1 ≤ ps.length ∧ ps.length ≤ 3
      · have ha : ps.all partB' = false := by
          cases ha : ps.all partB' with
          | false => rfl
          | true => exact (hc ⟨hl, ha⟩).elim
        have e3 := compL_map (h := tg1) (is := [2]) (vs := [2]) (ρ := [.val (.tuple ps), .no, .no, .no, .no]) (fe := fun ρ => ((bnd2 (gv 2 ρ) (some []) consD)).bind m_isp) (fun d : PyData => d) (fun d => [d]) (fun d => .bool (partB' d)) ps (by omega) (fun _ _ => rfl) (fun d hd => by simp only [gv_0, gv_s, gb_0, gb_s, scr_0, bnd2_ss, consD_, tupD_, lstD_, asgR_s, seqR_nx, seqR_ret, ifR_t, ifR_f, retR_s, retD_s, asB_b, asI_i, addD_ii, subD_ii, modD_ii, gtD_ii, geD_ii, leD_ii, ltD_ii, eqD_ii, eqD_ss, neD_ss, neD_ii, neD_bb, ixD_t, ixD_l, andB_t, andB_f, orB_t, orB_f, notV_b, mixR_, setsR_nil, setsR_cons, tg1_, tgT_1, tgT_2, tgT_4, asgG_u, walkD_t, walkD_l, tupleD_l, tupleD_t, listD_l, listD_t, lenD_t, lenD_l, wipeR_nil, wipeR_cons, Option.bind_some, Option.map_some, List.set_cons_zero, List.set_cons_succ, List.length_cons, List.length_nil, Nat.zero_add, Nat.reduceAdd, Nat.reduceLeDiff, Int.reduceAdd, Int.reduceLE, Int.reduceLT, Int.reduceNeg, Int.reduceSub, Int.reduceMul, Int.reduceEq, Bool.not_true, Bool.not_false, decide_true, decide_false, atI_0, atI_1, atI_2, atI_3, Int.reduceToNat, isp_tot (wf_t h d hd)])
        rw [id_map] at e3
        rw [e3, decide_eq_true (by omega : (1 : Int) ≤ (ps.length : Int)), decide_eq_true (by omega : (ps.length : Int) ≤ 3)]
        simp only [gv_0, gv_s, gb_0, gb_s, scr_0, bnd2_ss, consD_, tupD_, lstD_, asgR_s, seqR_nx, seqR_ret, ifR_t, ifR_f, retR_s, retD_s, asB_b, asI_i, addD_ii, subD_ii, modD_ii, gtD_ii, geD_ii, leD_ii, ltD_ii, eqD_ii, eqD_ss, neD_ss, neD_ii, neD_bb, ixD_t, ixD_l, andB_t, andB_f, orB_t, orB_f, notV_b, mixR_, setsR_nil, setsR_cons, tg1_, tgT_1, tgT_2, tgT_4, asgG_u, walkD_t, walkD_l, tupleD_l, tupleD_t, listD_l, listD_t, lenD_t, lenD_l, wipeR_nil, wipeR_cons, Option.bind_some, Option.map_some, List.set_cons_zero, List.set_cons_succ, List.length_cons, List.length_nil, Nat.zero_add, Nat.reduceAdd, Nat.reduceLeDiff, Int.reduceAdd, Int.reduceLE, Int.reduceLT, Int.reduceNeg, Int.reduceSub, Int.reduceMul, Int.reduceEq, Bool.not_true, Bool.not_false, decide_true, decide_false, atI_0, atI_1, atI_2, atI_3, Int.reduceToNat, all_map', ha]
        rfl
      · have e : (decide ((1 : Int) ≤ (ps.length : Int)) && decide ((ps.length : Int) ≤ 3)) = false := by
          rw [Bool.and_eq_false_iff]
          by_cases h2 : 1 ≤ ps.length
          · exact .inr (decide_eq_false (by omega))
          · exact .inl (decide_eq_false (by omega))
        rw [e]
        rfl
  · have no : ¬ bookP d := fun ⟨b, e, _⟩ => hd ⟨_, e⟩
    rw [decide_eq_false no]
    cases d with
    | tuple ps => exact (hd ⟨ps, rfl⟩).elim
    | dict _ => cases h
    | _ => rfl
end Sv
namespace Sv
open PySem L2 Evl
end Sv
namespace Sv
open PySem L2 Evl
def GoodP (b : Book) (p : Str × Nat) (w : List Str) : Prop := ∀ r n, ruleAt b p = some r → r.2.head? = some (.call n) → n ∈ w
structure Stp (b : Book) (W : List Str) (s t : RSt) : Prop where
  within : t.within = W
  wi : ∀ n ∈ W, n ∈ t.went
  gr : Gr s t
  new : ∀ p ∈ t.begun, p ∈ s.begun ∨ GoodP b p t.went
section
variable {b : Book} {W : List Str} {l : Ltr}
theorem Stp.trans {s t u : RSt} (h : Stp b W s t) (g : Stp b W t u) : Stp b W s u := ⟨g.within, g.wi, h.gr.trans g.gr, fun p hp => (g.new p hp).elim (fun hp => (h.new p hp).imp id fun x r n h1 h2 => g.gr.wt n (x r n h1 h2)) .inr⟩
theorem Stp.refl {s : RSt} (h1 : s.within = W) (h2 : ∀ n ∈ W, n ∈ s.went) : Stp b W s s := ⟨h1, h2, .refl s, fun p hp => .inl hp⟩
end
end Sv
namespace Sv
open PySem L2 Evl
structure PoolNm (P : Nm) : Prop where
  f : P.f.all isNm = true
  w : P.w.all isNm = true
  m : P.m.all isNm = true
  o : ∀ n ∈ P.o, 0 ≤ n ∧ n ≤ 999
theorem P0_nm : PoolNm P0 := ⟨by decide +kernel, by decide +kernel, by decide +kernel, by decide⟩
theorem isT_of {P : Nm} (hP : PoolNm P) : ∀ (n : Nat) (t : Tst), t.dep ≤ n → (tn t).Le P → isT (n + 1) t = true
  | n, .frm s, _, h => List.all_eq_true.mp hP.f s (h.f s (by simp [tn]))
  | n, .word s, _, h => List.all_eq_true.mp hP.w s (h.w s (by simp [tn]))
  | n, .marked s, _, h => List.all_eq_true.mp hP.m s (h.m s (by simp [tn]))
  | n, .over k, _, h => decide_eq_true (hP.o k (h.o k (by simp [tn])))
  | n, .yes, _, _ => rfl
  | 0, .not t, hd, h => by simp [Tst.dep] at hd
  | 0, .both a b, hd, h => by simp [Tst.dep] at hd
  | 0, .either a b, hd, h => by simp [Tst.dep] at hd
  | n + 1, .not t, hd, h => isT_of hP n t (by simp [Tst.dep] at hd; omega) h
  | n + 1, .both a b, hd, h => by
    show (isT (n + 1) a && isT (n + 1) b) = true
    rw [isT_of hP n a (by simp [Tst.dep] at hd; omega) h.left, isT_of hP n b (by simp [Tst.dep] at hd; omega) h.right]
    rfl
  | n + 1, .either a b, hd, h => by
    show (isT (n + 1) a && isT (n + 1) b) = true
    rw [isT_of hP n a (by simp [Tst.dep] at hd; omega) h.left, isT_of hP n b (by simp [Tst.dep] at hd; omega) h.right]
    rfl
theorem base_nm : baseUs.all isNm = true := by decide +kernel
def uniB : Uni := ⟨baseUs, (["main", "sub", "a"] : List Str).flatMap fun n => (List.range 5).map fun j => (n, j)⟩
theorem uniB_big : uniB.Big := ⟨fun n h => h, fun n h j hj => List.mem_flatMap.mpr ⟨n, h, List.mem_map.mpr ⟨j, List.mem_range.mpr hj, rfl⟩⟩⟩
theorem bookN_nmb (x : Int) : NmB (bookN x) := by
  have h := book_of uniB_big x
  refine ⟨fun p hp => List.all_eq_true.mp base_nm _ (h.us _ (List.mem_map.mpr ⟨p, hp, rfl⟩)), fun p hp r hr => ?_⟩
  unfold isRl
  simp only [Bool.and_eq_true, List.all_eq_true]
  exact ⟨isT_of P0_nm 2 r.1 ((bookN_few x p hp).2 r hr).2 (rule_le (bookN_le x) hp hr).left, fun d hd n hn => List.all_eq_true.mp base_nm n (((h.rl p hp r hr).deeds d hd).1 n hn)⟩
theorem bookN_sz (x : Int) : (bookN x).all szP = true := List.all_eq_true.mpr fun p hp => by
  have h := bookN_few x p hp
  unfold szP szR
  simp only [Bool.and_eq_true, decide_eq_true_eq, List.all_eq_true]
  refine ⟨h.1, fun r hr => ⟨?_, (h.2 r hr).1⟩⟩
  obtain ⟨_, dr, e⟩ := from_mem x _ _ 0 p hp
  rw [e] at hr
  obtain ⟨j, _, rfl⟩ := List.mem_map.mp hr
  show 1 ≤ ((List.range _).map _).length
  rw [List.length_map, List.length_range]
  have hm1 : 0 ≤ drawnN dr (10 + j) / 4 % 3 := Int.emod_nonneg _ (by decide)
  omega
def lt3 : sLt "a" "main" = true ∧ sLt "main" "sub" = true ∧ sLt "a" "sub" = true := ⟨by decide +kernel, by decide +kernel, by decide +kernel⟩
theorem names_rising (x : Int) (R : Str → Bool) : rising ((namesN x).filter R) = true := by
  refine pk4_cases (P := fun ns : List Str => rising (ns.filter R) = true) ?_ ?_ ?_ ?_ x <;>
  (simp only [List.filter_cons, List.filter_nil]; repeat' split) <;> simp [rising, lt3.1, lt3.2.1, lt3.2.2]
theorem bookN_isBk (x : Int) : isBk (bookN x) = true := by
  unfold isBk
  simp only [Bool.and_eq_true, decide_eq_true_eq]
  refine ⟨⟨book_len x, bookN_sz x⟩, ?_⟩
  have := names_rising x fun _ => true
  rw [List.filter_eq_self.mpr (fun _ _ => rfl)] at this
  rw [book_names]
  exact this
end Sv
namespace Sv
open PySem L2 Evl
def wokB (w : Str) : Bool := decide ((cpL w).length ≤ 20) && decide (32 ∉ cpL w) && decide (10 ∉ cpL w) && nmOk w
structure Wok (w : Str) : Prop where
  len : (cpL w).length ≤ 20
  sp : 32 ∉ cpL w
  nl : 10 ∉ cpL w
  nm : nmOk w = true
theorem wok_iff {w : Str} (h : wokB w = true) : Wok w := by
  unfold wokB at h
  simp only [Bool.and_eq_true, decide_eq_true_eq] at h
  exact ⟨h.1.1.1, h.1.1.2, h.1.2, h.2⟩
theorem abc_ok : (abc.all fun c => decide (c ≠ 32 ∧ c ≠ 10 ∧ c < 0x110000)) = true := by decide +kernel
theorem wok_nm {w : Str} (h : isNm w = true) : Wok w := by
  unfold isNm at h
  simp only [Bool.and_eq_true, decide_eq_true_eq, List.all_eq_true] at h
  have hc : ∀ c ∈ cpL w, c ≠ 32 ∧ c ≠ 10 ∧ c < 0x110000 := fun c hc => of_decide_eq_true (List.all_eq_true.mp abc_ok c (h.2 c hc))
  refine ⟨?_, fun hx => (hc _ hx).1 rfl, fun hx => (hc _ hx).2.1 rfl, ?_⟩
  · rw [← len_cp]; omega
  · unfold nmOk PyData.strOk
    rw [← Array.all_toList, List.all_eq_true]
    exact fun c hx => decide_eq_true (hc c hx).2.2
def keyWs : List Str := ["from", "word", "over", "marked", "yes", "not", "both", "either", "call", "drop", "stop", "lay", "send", "answer", "mark", "unmark", "if", "do"]
theorem key_ok : ∀ w ∈ keyWs, wokB w = true ∧ toEnd (cpL w) = false := by decide +kernel
theorem num_ok0 : ∀ n ∈ List.range 1000, wokB (numS n) = true ∧ toEnd (cpL (numS n)) = false := by decide +kernel
theorem num_ok {n : Int} (h : 0 ≤ n ∧ n ≤ 999) : wokB (numS n) = true ∧ toEnd (cpL (numS n)) = false := by
  have := num_ok0 n.toNat (List.mem_range.mpr (by omega))
  rwa [show ((n.toNat : Nat) : Int) = n by omega] at this
theorem wT_all {Q : Str → Prop} (hk : ∀ w ∈ keyWs, Q w) : ∀ t : Tst, (∀ s ∈ (tn t).f, Q s) → (∀ s ∈ (tn t).w, Q s) → (∀ s ∈ (tn t).m, Q s) → (∀ n ∈ (tn t).o, Q (numS n)) → ∀ w ∈ wT t, Q w
  | .frm s, hf, _, _, _, w, h => by
    rcases List.mem_cons.mp h with rfl | h
    · exact hk _ (by simp [keyWs])
    · exact hf w h
  | .word s, _, hw, _, _, w, h => by
    rcases List.mem_cons.mp h with rfl | h
    · exact hk _ (by simp [keyWs])
    · exact hw w h
  | .marked s, _, _, hm, _, w, h => by
    rcases List.mem_cons.mp h with rfl | h
    · exact hk _ (by simp [keyWs])
    · exact hm w h
  | .over n, _, _, _, ho, w, h => by
    rcases List.mem_cons.mp h with rfl | h
    · exact hk _ (by simp [keyWs])
    · rw [List.mem_singleton.mp h]; exact ho n (by simp [tn])
  | .yes, _, _, _, _, w, h => by rw [List.mem_singleton.mp h]; exact hk _ (by simp [keyWs])
  | .not t, hf, hw, hm, ho, w, h => by
    rcases List.mem_cons.mp h with rfl | h
    · exact hk _ (by simp [keyWs])
    · exact wT_all hk t hf hw hm ho w h
  | .both a b, hf, hw, hm, ho, w, h => by
    rcases List.mem_cons.mp h with rfl | h
    · exact hk _ (by simp [keyWs])
    · rcases List.mem_append.mp h with h | h
      · exact wT_all hk a (fun s hs => hf s (List.mem_append_left _ hs)) (fun s hs => hw s (List.mem_append_left _ hs)) (fun s hs => hm s (List.mem_append_left _ hs)) (fun s hs => ho s (List.mem_append_left _ hs)) w h
      · exact wT_all hk b (fun s hs => hf s (List.mem_append_right _ hs)) (fun s hs => hw s (List.mem_append_right _ hs)) (fun s hs => hm s (List.mem_append_right _ hs)) (fun s hs => ho s (List.mem_append_right _ hs)) w h
  | .either a b, hf, hw, hm, ho, w, h => by
    rcases List.mem_cons.mp h with rfl | h
    · exact hk _ (by simp [keyWs])
    · rcases List.mem_append.mp h with h | h
      · exact wT_all hk a (fun s hs => hf s (List.mem_append_left _ hs)) (fun s hs => hw s (List.mem_append_left _ hs)) (fun s hs => hm s (List.mem_append_left _ hs)) (fun s hs => ho s (List.mem_append_left _ hs)) w h
      · exact wT_all hk b (fun s hs => hf s (List.mem_append_right _ hs)) (fun s hs => hw s (List.mem_append_right _ hs)) (fun s hs => hm s (List.mem_append_right _ hs)) (fun s hs => ho s (List.mem_append_right _ hs)) w h
theorem dW_all {Q : Str → Prop} (hk : ∀ w ∈ keyWs, Q w) (d : Deed) (hd : ∀ n ∈ d.nm, Q n) : ∀ w ∈ dW d, Q w := fun w h => by
  cases d <;> simp only [dW, List.mem_cons, List.not_mem_nil, or_false] at h <;> first
    | (rw [h]; exact hk _ (by simp [keyWs]))
    | (rcases h with rfl | rfl
       · exact hk _ (by simp [keyWs])
       · exact hd _ (by simp [Deed.nm]))
/-- a predicate of all words behind the first -/
structure BWords (Q : Str → Prop) (b : Book) : Prop where
  nm : ∀ p ∈ b, Q p.1
  ts : ∀ p ∈ b, ∀ r ∈ p.2, ∀ w ∈ wT r.1, Q w
  ds : ∀ p ∈ b, ∀ r ∈ p.2, ∀ d ∈ r.2, ∀ w ∈ dW d, Q w
def okT (w : Str) : Prop := Wok w ∧ toEnd (cpL w) = false
theorem key_okT : ∀ w ∈ keyWs, okT w := fun w h => ⟨wok_iff (key_ok w h).1, (key_ok w h).2⟩
theorem to_ok : Wok "to" := wok_iff (by decide +kernel)
/-- all rows are sound -/
theorem rows_v {b : Book} (g : GoodB b) (h : BWords Wok b) : ∀ ws ∈ rowsB b, RowV ws := fun ws hs => by
  have go : ∀ ws : List Str, ws.length ≤ 30 → (∀ w ∈ ws, Wok w) → RowV ws := fun ws hl hw => ⟨⟨hl, fun w h => (hw w h).len⟩, fun w h => (hw w h).sp, fun w h => (hw w h).nl⟩
  have hk : ∀ w ∈ keyWs, Wok w := fun w hw => (key_okT w hw).1
  obtain ⟨p, hp, hs⟩ := List.mem_flatMap.mp hs
  rcases List.mem_cons.mp hs with rfl | hs
  · refine go _ (by simp [toRow]) fun w hw => ?_
    rcases List.mem_cons.mp hw with rfl | hw
    · exact to_ok
    · rw [List.mem_singleton.mp hw]; exact h.nm p hp
  · obtain ⟨r, hr, hs⟩ := List.mem_flatMap.mp hs
    rcases List.mem_cons.mp hs with rfl | hs
    · refine go _ (by have := wT_len24 (g.dep p hp r hr); simp [ifRow]; omega) fun w hw => ?_
      rcases List.mem_cons.mp hw with rfl | hw
      · exact hk _ (by simp [keyWs])
      · exact h.ts p hp r hr w hw
    · obtain ⟨d, hd, rfl⟩ := List.mem_map.mp hs
      refine go _ (by cases d <;> simp [doRow, dW]) fun w hw => ?_
      rcases List.mem_cons.mp hw with rfl | hw
      · exact hk _ (by simp [keyWs])
      · exact h.ds p hp r hr d hd w hw
theorem BWords.imp {Q R : Str → Prop} {b : Book} (h : BWords Q b) (hi : ∀ w, Q w → R w) : BWords R b := ⟨fun p hp => hi _ (h.nm p hp), fun p hp r hr w hw => hi _ (h.ts p hp r hr w hw), fun p hp r hr d hd w hw => hi _ (h.ds p hp r hr d hd w hw)⟩
end Sv
namespace Sv
open PySem L2 Evl TL
theorem sLt_irr (a : Str) : sLt a a = false := by
  unfold sLt
  exact decide_eq_false (List.lt_irrefl _)
theorem sLt_trans {a b c : Str} (h1 : sLt a b = true) (h2 : sLt b c = true) : sLt a c = true := by
  unfold sLt at *
  exact decide_eq_true (List.lt_trans (of_decide_eq_true h1) (of_decide_eq_true h2))
theorem rising_nodup : ∀ {ss : List Str}, rising ss = true → ss.Pairwise (fun a b => sLt a b = true)
  | [], _ => .nil
  | [a], _ => by simp
  | a :: b :: r, h => by
    unfold rising at h
    simp only [List.tail_cons, List.dropLast_cons₂, List.zip_cons_cons, List.all_cons, Bool.and_eq_true] at h
    have ih := rising_nodup (ss := b :: r) (by unfold rising; simpa using h.2)
    refine List.pairwise_cons.mpr ⟨fun x hx => ?_, ih⟩
    rcases List.mem_cons.mp hx with rfl | hx
    · exact h.1
    · exact sLt_trans h.1 ((List.pairwise_cons.mp ih).1 x hx)
theorem rising_nd {ss : List Str} (h : rising ss = true) : ss.Nodup := (rising_nodup h).imp fun h e => by
  rw [e, sLt_irr] at h
  cases h
structure TF (t : Tst) : Prop where
  ok : t.ok = true
  o : ∀ k ∈ (tn t).o, 0 ≤ k ∧ k ≤ 999
  f : ∀ s ∈ (tn t).f, isNm s = true
  w : ∀ s ∈ (tn t).w, isNm s = true
  m : ∀ s ∈ (tn t).m, isNm s = true
theorem isT_facts : ∀ (n : Nat) (t : Tst), isT n t = true → t.dep < n ∧ TF t
  | 0, t, h => by cases h
  | n + 1, t, h => by
    cases t with
    | frm s =>
      have h : isNm s = true := h
      exact ⟨by simp [Tst.dep], isNm_ok h, by simp [tn], by simpa [tn] using h, by simp [tn], by simp [tn]⟩
    | word s =>
      have h : isNm s = true := h
      exact ⟨by simp [Tst.dep], isNm_ok h, by simp [tn], by simp [tn], by simpa [tn] using h, by simp [tn]⟩
    | marked s =>
      have h : isNm s = true := h
      exact ⟨by simp [Tst.dep], isNm_ok h, by simp [tn], by simp [tn], by simp [tn], by simpa [tn] using h⟩
    | over k =>
      have h : decide (0 ≤ k ∧ k ≤ 999) = true := h
      exact ⟨by simp [Tst.dep], rfl, by simpa [tn] using h, by simp [tn], by simp [tn], by simp [tn]⟩
    | yes => exact ⟨by simp [Tst.dep], rfl, by simp [tn, Nm.nil], by simp [tn, Nm.nil], by simp [tn, Nm.nil], by simp [tn, Nm.nil]⟩
    | not t =>
      obtain ⟨h1, h2⟩ := isT_facts n t h
      exact ⟨by simp only [Tst.dep]; omega, h2.ok, h2.o, h2.f, h2.w, h2.m⟩
    | both a b =>
      simp only [isT, Bool.and_eq_true] at h
      obtain ⟨h1, h2⟩ := isT_facts n a h.1
      obtain ⟨k1, k2⟩ := isT_facts n b h.2
      refine ⟨by simp only [Tst.dep]; omega, by simp [Tst.ok, h2.ok, k2.ok], ?_, ?_, ?_, ?_⟩ <;> intro x hx <;> simp only [tn, Nm.app, List.mem_append] at hx
      · exact hx.elim (h2.o x) (k2.o x)
      · exact hx.elim (h2.f x) (k2.f x)
      · exact hx.elim (h2.w x) (k2.w x)
      · exact hx.elim (h2.m x) (k2.m x)
    | either a b =>
      simp only [isT, Bool.and_eq_true] at h
      obtain ⟨h1, h2⟩ := isT_facts n a h.1
      obtain ⟨k1, k2⟩ := isT_facts n b h.2
      refine ⟨by simp only [Tst.dep]; omega, by simp [Tst.ok, h2.ok, k2.ok], ?_, ?_, ?_, ?_⟩ <;> intro x hx <;> simp only [tn, Nm.app, List.mem_append] at hx
      · exact hx.elim (h2.o x) (k2.o x)
      · exact hx.elim (h2.f x) (k2.f x)
      · exact hx.elim (h2.w x) (k2.w x)
      · exact hx.elim (h2.m x) (k2.m x)
section
variable {b : Book} (v : VB b)
theorem VB.tst (v : VB b) {p : Str × List Rul} (hp : p ∈ b) {r : Rul} (hr : r ∈ p.2) : r.1.dep < 3 ∧ TF r.1 := by
  have := v.1.nm.rl p hp r hr
  unfold isRl at this
  exact isT_facts 3 r.1 (Bool.and_eq_true_iff.mp this).1
theorem VB.deeds (v : VB b) {p : Str × List Rul} (hp : p ∈ b) {r : Rul} (hr : r ∈ p.2) {d : Deed} (hd : d ∈ r.2) : ∀ n ∈ d.nm, isNm n = true := by
  have := v.1.nm.rl p hp r hr
  unfold isRl at this
  exact List.all_eq_true.mp (List.all_eq_true.mp (Bool.and_eq_true_iff.mp this).2 d hd)
theorem VB.tails (v : VB b) : rising b.names = true ∧ ("main" : Str) ∈ b.names ∧ ∀ p ∈ b, ∀ r ∈ p.2, callOk b.names r = true := by
  have := v.2
  unfold tailB at this
  simp only [Bool.and_eq_true, decide_eq_true_eq, List.all_eq_true] at this
  exact ⟨this.1.1, this.1.2, this.2⟩
theorem VB.size (v : VB b) {p : Str × List Rul} (hp : p ∈ b) : p.2.length ≤ 4 ∧ ∀ r ∈ p.2, 1 ≤ r.2.length ∧ r.2.length ≤ 3 := by
  have := List.all_eq_true.mp v.1.sz p hp
  unfold szP at this
  obtain ⟨a, c⟩ := Bool.and_eq_true_iff.mp this
  refine ⟨of_decide_eq_true a, fun r hr => ?_⟩
  have := List.all_eq_true.mp c r hr
  unfold szR at this
  simpa using this
theorem VB.good (v : VB b) : b.good = true := by
  obtain ⟨t1, t2, t3⟩ := v.tails
  have l3 := v.1.l3
  unfold Book.good Book.goodIn
  simp only [Bool.and_eq_true, decide_eq_true_eq, List.all_eq_true, Rul.good]
  refine ⟨⟨⟨rising_nd t1, t2⟩, by omega⟩, fun p hp => ⟨⟨isNm_ok (v.1.nm.nm p hp), by have := v.size hp; omega⟩, fun r hr => ⟨⟨⟨by have := (v.tst hp hr).1; omega, (v.tst hp hr).2.ok⟩, by have := (v.size hp).2 r hr; omega⟩, fun d hd => ?_⟩⟩⟩
  have hn := v.deeds hp hr hd
  unfold Deed.good
  rw [Bool.and_eq_true]
  refine ⟨List.all_eq_true.mpr fun n h => isNm_ok (hn n h), ?_⟩
  cases d with
  | call n =>
    have := t3 p hp r hr
    unfold callOk at this
    exact List.all_eq_true.mp this (.call n) (List.mem_filter.mpr ⟨hd, decide_eq_true (show ("call" : Str) = "call" from rfl)⟩)
  | _ => rfl
theorem VB.words (v : VB b) : BWords Wok b := by
  have hk : ∀ w ∈ keyWs, Wok w := fun w hw => (key_okT w hw).1
  refine ⟨fun p hp => wok_nm (v.1.nm.nm p hp), fun p hp r hr => ?_, fun p hp r hr d hd => dW_all hk d fun n hn => wok_nm (v.deeds hp hr hd n hn)⟩
  have t := (v.tst hp hr).2
  exact wT_all hk r.1 (fun s h => wok_nm (t.f s h)) (fun s h => wok_nm (t.w s h)) (fun s h => wok_nm (t.m s h)) fun n h => wok_iff (num_ok (t.o n h)).1
theorem VB.bk (v : VB b) : isBk b = true := by
  unfold isBk
  rw [v.1.sz, v.tails.1, decide_eq_true v.1.l3]
  rfl
theorem VB.rows (v : VB b) : ∀ ws ∈ rowsB b, RowV ws := rows_v (Book.good.of v.good) v.words
end
end Sv
namespace Sv
open PySem L2 Evl
/-- and not too deep -/
structure Wd (n : Nat) (d : PyData) : Prop where
  wf : wf d = true
  dep : d.depth ≤ n
theorem dep_all {n : Nat} : ∀ {xs : List PyData}, PyData.depthAll xs ≤ n → ∀ x ∈ xs, x.depth ≤ n
  | [], _, _, h => nomatch h
  | y :: ys, h, x, hx => by
    simp only [PyData.depthAll] at h
    rcases List.mem_cons.mp hx with rfl | hx
    · omega
    · exact dep_all (by omega) x hx
theorem Wd.t {n : Nat} {xs : List PyData} (h : Wd (n + 1) (.tuple xs)) : ∀ x ∈ xs, Wd n x := fun x hx => ⟨wf_t h.wf x hx, dep_all (by have := h.dep; simp only [PyData.depth] at this; omega) x hx⟩
theorem Wd.mono {n m : Nat} {d : PyData} (h : Wd n d) (hm : n ≤ m) : Wd m d := ⟨h.wf, Nat.le_trans h.dep hm⟩
theorem Wd.tuple {n : Nat} {xs : List PyData} (h : ∀ x ∈ xs, Wd n x) : Wd (n + 1) (.tuple xs) := ⟨wf_tuple fun x hx => (h x hx).wf, by
  simp only [PyData.depth]
  have := all_dep (n := n) fun x hx => (h x hx).dep
  omega⟩
theorem Wd.list {n : Nat} {xs : List PyData} (h : ∀ x ∈ xs, Wd n x) : Wd (n + 1) (.list xs) := ⟨wf_list fun x hx => (h x hx).wf, by
  simp only [PyData.depth]
  have := all_dep (n := n) fun x hx => (h x hx).dep
  omega⟩
mutual
theorem wf_lay : ∀ d : PyData, wf d = true → d.canLay0 = true
  | .none, _ => by simp [PyData.canLay0]
  | .bool _, _ => by simp [PyData.canLay0]
  | .int _, _ => by simp [PyData.canLay0]
  | .str s, h => by simp only [PyData.canLay0]; exact (wf_s h).1
  | .list xs, h => by simp only [PyData.canLay0]; exact wfL_lay xs (by simpa only [wf] using h)
  | .tuple xs, h => by simp only [PyData.canLay0]; exact wfL_lay xs (by simpa only [wf] using h)
  | .dict _, h => by cases h
theorem wfL_lay : ∀ xs : List PyData, wfL xs = true → PyData.canLayAll0 xs = true
  | [], _ => by simp [PyData.canLayAll0]
  | x :: xs, h => by
    simp only [wfL, Bool.and_eq_true] at h
    simp only [PyData.canLayAll0, Bool.and_eq_true]
    exact ⟨wf_lay x h.1, wfL_lay xs h.2⟩
end
theorem Wd.shp {n : Nat} {d : PyData} (h : Wd n d) (hn : n ≤ 60 := by omega) : Sv.shp d = true := (shp_iff d).mpr ⟨wf_lay d h.wf, by have := h.dep; omega⟩
theorem eqv_nil (xs : List PyData) : PyData.eqv (.list xs) (.list []) = xs.isEmpty := by
  cases xs <;> simp [PyData.eqv, PyData.eqvAll]
theorem eqv_tnil (xs : List PyData) : PyData.eqv (.tuple xs) (.tuple []) = xs.isEmpty := by
  cases xs <;> simp [PyData.eqv, PyData.eqvAll]
theorem shp_nil : Sv.shp (.list []) = true ∧ Sv.shp (.tuple []) = true := ⟨(shp_iff _).mpr ⟨by decide +kernel, by decide +kernel⟩, (shp_iff _).mpr ⟨by decide +kernel, by decide +kernel⟩⟩
theorem eq_nil {xs : List PyData} (h : Sv.shp (.list xs) = true) : eqD (.list xs) (.list []) = some (.bool xs.isEmpty) := by
  unfold eqD eqB
  dsimp only
  rw [h, shp_nil.1, eqv_nil]
  rfl
theorem ne_nil' {xs : List PyData} (h : Sv.shp (.list xs) = true) : neD (.list xs) (.list []) = some (.bool (!xs.isEmpty)) := by
  unfold neD eqB
  dsimp only
  rw [h, shp_nil.1, eqv_nil]
  rfl
theorem eq_tnil {xs : List PyData} (h : Sv.shp (.tuple xs) = true) : eqD (.tuple xs) (.tuple []) = some (.bool xs.isEmpty) := by
  unfold eqD eqB
  dsimp only
  rw [h, shp_nil.2, eqv_tnil]
  rfl
theorem filter_not {α : Type} (p : α → Bool) : ∀ xs : List α, (xs.filter fun x => !p x).isEmpty = xs.all p
  | [] => rfl
  | x :: xs => by
    rw [List.filter_cons, List.all_cons]
    cases hp : p x with
    | true => rw [if_neg (by simp)]; simpa using filter_not p xs
    | false => rw [if_pos (by simp)]; rfl
/-- [x for x in xs if not p(x)] == [] -/
theorem none_left {α : Type} {n : Nat} (enc : α → PyData) {h : PyData → Option (List PyData)} {is vs : List Nat} {ft : Rho → Option Bool} {fe : Rho → Option PyData} {ρ : Rho} (es : α → List PyData) (p : α → Bool) (xs : List α) (hl : xs.length ≤ 1000) (h1 : ∀ x ∈ xs, h (enc x) = some (es x))
    (h2 : ∀ x ∈ xs, ft (setsR (wipeR ρ vs) is (es x)) = some (!p x)) (h3 : ∀ x ∈ xs, fe (setsR (wipeR ρ vs) is (es x)) = some (enc x)) (hw : ∀ x ∈ xs, Wd n (enc x)) (hn : n ≤ 59) :
    bnd2 (compL (some (xs.map enc)) h is ft fe vs ρ) ((some []).bind lstD) eqD = some (.bool (xs.all p)) ∧ bnd2 (compL (some (xs.map enc)) h is ft fe vs ρ) ((some []).bind lstD) neD = some (.bool (!xs.all p)) := by
  have e := compL_gen (vs := vs) (ρ := ρ) enc es (fun x => !p x) enc xs hl h1 h2 fun x hx _ => h3 x hx
  have sh : Sv.shp (.list ((xs.filter fun x => !p x).map enc)) = true := (Wd.list (n := n) fun x hx => by
    obtain ⟨a, ha, rfl⟩ := List.mem_map.mp hx
    exact hw a (List.mem_filter.mp ha).1).shp
  have em : ((xs.filter fun x => !p x).map enc).isEmpty = xs.all p := by rw [List.isEmpty_map, filter_not]
  rw [e, Option.bind_some, lstD_ [] (by simp), bnd2_ss, bnd2_ss, eq_nil sh, ne_nil' sh, em]
  exact ⟨rfl, rfl⟩
theorem nmOk_iff' (s : Str) : nmOk s = true ↔ ∀ c ∈ s.cps.toList, c < 0x110000 := by
  unfold nmOk PyData.strOk
  rw [Array.all_eq_true']
  simp
def m_lisn : List PyData → Option PyData := runD 2 1 fb__law_is_name
def m_lisnum : List PyData → Option PyData := runD 1 1 fb__law_is_number
def m_list : Nat → List PyData → Option PyData := itm fun m => runD 4 2 (fb__law_is_test m m_lisnum m_lisn)
def m_lisd : List PyData → Option PyData := runD 2 2 (fb__law_is_deed m_lisn)
def m_lisr : List PyData → Option PyData := runD 3 2 (fb__law_is_rule (m_list 4) m_lisd)
def m_lisb : List PyData → Option PyData := runD 4 1 (fb__law_is_book m_lisn m_lisr)
def m_larn : List PyData → Option PyData := runD 2 1 (fb__law_are_names m_lisn)
def m_lisl : List PyData → Option PyData := runD 1 1 (fb__law_is_letter m_lisn m_lisnum m_larn)
theorem sle_c (a c : Nat) : (!decide (([c] : List Nat) < [a])) = decide (a ≤ c) := by
  rw [← decide_not]
  exact decide_eq_decide.mpr (by simp [List.cons_lt_cons_iff])
theorem sign_in (c : Nat) : ((chainD leST leST (some (.str "a")) (some (.str ⟨#[c]⟩)) (some (.str "z"))).bind asB).map not = some (!decide (c ∈ abc)) := by
  have e1 : leST (.str "a") (.str ⟨#[c]⟩) = some (.bool (decide (97 ≤ c))) := by
    show some (PyData.bool (!decide (([c] : List Nat) < [97]))) = _
    rw [sle_c]
  have e2 : leST (.str ⟨#[c]⟩) (.str "z") = some (.bool (decide (c ≤ 122))) := by
    show some (PyData.bool (!decide (([122] : List Nat) < [c]))) = _
    rw [sle_c]
  have key : decide (c ∈ abc) = (decide (97 ≤ c) && decide (c ≤ 122)) := by
    by_cases h : 97 ≤ c ∧ c ≤ 122
    · rw [decide_eq_true h.1, decide_eq_true h.2]
      refine decide_eq_true ?_
      have : ∀ k ∈ List.range 26, 97 + k ∈ abc := by decide +kernel
      have := this (c - 97) (List.mem_range.mpr (by omega))
      rwa [show 97 + (c - 97) = c by omega] at this
    · have : ¬ c ∈ abc := fun hc => h (by
        have : ∀ x ∈ abc, 97 ≤ x ∧ x ≤ 122 := by decide +kernel
        exact this c hc)
      rw [decide_eq_false this]
      by_cases h1 : 97 ≤ c
      · rw [decide_eq_true h1, decide_eq_false (fun h2 => h ⟨h1, h2⟩)]; rfl
      · rw [decide_eq_false h1]; rfl
  unfold chainD
  dsimp only
  rw [e1, key]
  cases decide (97 ≤ c) with
  | true =>
    dsimp only
    rw [e2]
    cases decide (c ≤ 122) <;> rfl
  | false => rfl
theorem lisn_tot {d : PyData} (h : wf d = true) : m_lisn [d] = some (.bool (nmB d)) := by
  cases d with
  | str s =>
    obtain ⟨hs, hl⟩ := wf_s h
    unfold m_lisn
    refine (runD_r (by rfl)).trans ?_
    rw [show startR 2 [.str s] = [.val (.str s), .no] from rfl]
    unfold fb__law_is_name
    have hc : s.length = s.cps.toList.length := by simp [Str.length]
    show _ = some (PyData.bool (isNm s))
    by_cases h1 : 1 ≤ s.length ∧ s.length ≤ 5
    · refine rt_step (ρ := [.val (.str s), .no]) (if_no (by
        simp only [gv_0, gv_s, gb_0, gb_s, scr_0, bnd2_ss, consD_, tupD_, lstD_, asgR_s, seqR_nx, seqR_ret, ifR_t, ifR_f, retR_s, retD_s, asB_b, asI_i, addD_ii, subD_ii, modD_ii, gtD_ii, geD_ii, leD_ii, ltD_ii, eqD_ii, eqD_ss, neD_ss, neD_ii, neD_bb, ixD_t, ixD_l, andB_t, andB_f, orB_t, orB_f, notV_b, mixR_, setsR_nil, setsR_cons, tg1_, tgT_1, tgT_2, tgT_4, asgG_u, walkD_t, walkD_l, tupleD_l, tupleD_t, listD_l, listD_t, lenD_t, lenD_l, wipeR_nil, wipeR_cons, Option.bind_some, Option.map_some, List.set_cons_zero, List.set_cons_succ, List.length_cons, List.length_nil, Nat.zero_add, Nat.reduceAdd, Nat.reduceLeDiff, Int.reduceAdd, Int.reduceLE, Int.reduceLT, Int.reduceNeg, Int.reduceSub, Int.reduceMul, Int.reduceEq, Bool.not_true, Bool.not_false, decide_true, decide_false, atI_0, atI_1, atI_2, atI_3, Int.reduceToNat, len_str hl, chain_le, isi_ss]
        rw [decide_eq_true (by omega : (1 : Int) ≤ (s.length : Int)), decide_eq_true (by omega : (s.length : Int) ≤ 5)]
        rfl) rfl) ?_
      have e := none_left (n := 0) (h := tg1) (is := [1]) (vs := [1]) (ρ := [.val (.str s), .no]) (ft := fun ρ => ((chainD leST leST (some (.str "a")) (gv 1 ρ) (some (.str "z"))).bind asB).map not) (fe := fun ρ => gv 1 ρ) (fun c : Nat => PyData.str ⟨#[c]⟩) (fun c => [.str ⟨#[c]⟩]) (fun c => decide (c ∈ abc)) s.cps.toList (by omega) (fun _ _ => rfl) (fun c _ => sign_in c) (fun c _ => rfl) (fun c hc' => ⟨wf_str ((nmOk_iff' _).mpr fun x hx => ?_) (by show 1 ≤ 1000000; decide), Nat.le_refl _⟩) (by decide)
      · rw [show (gb 0 [.val (.str s), .no]).bind walkD = some (s.cps.toList.map fun c => .str ⟨#[c]⟩) from rfl, e.1]
        unfold isNm
        rw [decide_eq_true h1.1, decide_eq_true h1.2]
        rfl
      · rw [List.mem_singleton.mp hx]
        exact (nmOk_iff' s).mp hs c hc'
    · have e : (decide ((1 : Int) ≤ (s.length : Int)) && decide ((s.length : Int) ≤ 5)) = false := by
        rw [Bool.and_eq_false_iff]
        by_cases h2 : 1 ≤ s.length
        · exact .inr (decide_eq_false (by omega))
        · exact .inl (decide_eq_false (by omega))
      have e2 : isNm s = false := by
        unfold isNm
        rw [Bool.and_eq_false_iff]
        left
        rw [Bool.and_eq_false_iff]
        by_cases h2 : 1 ≤ s.length
        · exact .inr (decide_eq_false (by omega))
        · exact .inl (decide_eq_false (by omega))
      rw [e2]
      exact rt_ret (if_yes (by simp only [gv_0, gv_s, gb_0, gb_s, scr_0, bnd2_ss, consD_, tupD_, lstD_, asgR_s, seqR_nx, seqR_ret, ifR_t, ifR_f, retR_s, retD_s, asB_b, asI_i, addD_ii, subD_ii, modD_ii, gtD_ii, geD_ii, leD_ii, ltD_ii, eqD_ii, eqD_ss, neD_ss, neD_ii, neD_bb, ixD_t, ixD_l, andB_t, andB_f, orB_t, orB_f, notV_b, mixR_, setsR_nil, setsR_cons, tg1_, tgT_1, tgT_2, tgT_4, asgG_u, walkD_t, walkD_l, tupleD_l, tupleD_t, listD_l, listD_t, lenD_t, lenD_l, wipeR_nil, wipeR_cons, Option.bind_some, Option.map_some, List.set_cons_zero, List.set_cons_succ, List.length_cons, List.length_nil, Nat.zero_add, Nat.reduceAdd, Nat.reduceLeDiff, Int.reduceAdd, Int.reduceLE, Int.reduceLT, Int.reduceNeg, Int.reduceSub, Int.reduceMul, Int.reduceEq, Bool.not_true, Bool.not_false, decide_true, decide_false, atI_0, atI_1, atI_2, atI_3, Int.reduceToNat, len_str hl, chain_le, isi_ss, e]) rfl)
  | dict _ => cases h
  | _ => rfl
theorem lisnum_tot {d : PyData} (h : wf d = true) : m_lisnum [d] = some (.bool (numbB d)) := isnum_tot h
end Sv
namespace Sv
open PySem L2 Evl
def lkZ (sh : List (Str × Int)) (x : Str) : Int := ((sh.find? fun p => decide (p.1 = x)).map (·.2)).getD 0
theorem get_kz (sh : List (Str × Int)) (x : Str) : getD2 (.dict (sh.map fun p => (.str p.1, .int p.2))) (.str x) (.int 0) = some (.int (lkZ sh x)) := by
  have ho : isOb (sh.map fun p => (PyData.str p.1, PyData.int p.2)) = false := by cases sh <;> rfl
  unfold getD2
  simp only [ho, Bool.false_eq_true, if_false, toK, Option.map_some, Option.some.injEq]
  unfold dgetK lkZ
  induction sh with
  | nil => rfl
  | cons p sh ih =>
    rw [List.map_cons, List.find?_cons, List.find?_cons]
    have e : decide (toK (PyData.str p.1) = some (.inr x)) = decide (p.1 = x) := by simp [toK]
    rw [e]
    by_cases h : p.1 = x
    · rw [decide_eq_true h]; rfl
    · rw [decide_eq_false h]
      exact ih (by cases sh <;> rfl)
def szL : List (Str × Int) := [("from", 2), ("word", 2), ("over", 2), ("marked", 2), ("yes", 1), ("not", 2), ("both", 3), ("either", 3)]
def szD : PyData := .dict (szL.map fun p => (.str p.1, .int p.2))
theorem szD_eq : (((dispP (some (.str "from")) ((some (.int 2)).map .dat) ((dispP (some (.str "word")) ((some (.int 2)).map .dat) ((dispP (some (.str "over")) ((some (.int 2)).map .dat) ((dispP (some (.str "marked")) ((some (.int 2)).map .dat) ((dispP (some (.str "yes")) ((some (.int 1)).map .dat) ((dispP (some (.str "not")) ((some (.int 2)).map .dat) ((dispP (some (.str "both")) ((some (.int 3)).map .dat) ((dispP (some (.str "either")) ((some (.int 3)).map .dat) (some []))))))))))))))))).bind dispO).bind flat = some szD := by
  rfl
theorem sz_get (w : Str) : getD2 szD (.str w) (.int 0) = some (.int (lkZ szL w)) := get_kz szL w
theorem sz_w : lkZ szL "from" = 2 ∧ lkZ szL "word" = 2 ∧ lkZ szL "over" = 2 ∧ lkZ szL "marked" = 2 ∧ lkZ szL "yes" = 1 ∧ lkZ szL "not" = 2 ∧ lkZ szL "both" = 3 ∧ lkZ szL "either" = 3 := by decide +kernel
theorem sz_cases (w : Str) : (w = "from" ∨ w = "word" ∨ w = "marked") ∨ w = "over" ∨ w = "yes" ∨ w = "not" ∨ (w = "both" ∨ w = "either") ∨ (lkZ szL w = 0 ∧ w ≠ "from" ∧ w ≠ "word" ∧ w ≠ "marked" ∧ w ≠ "over" ∧ w ≠ "yes" ∧ w ≠ "not" ∧ w ≠ "both" ∧ w ≠ "either") := by
  by_cases h1 : w = "from"
  · exact .inl (.inl h1)
  by_cases h2 : w = "word"
  · exact .inl (.inr (.inl h2))
  by_cases h3 : w = "marked"
  · exact .inl (.inr (.inr h3))
  by_cases h4 : w = "over"
  · exact .inr (.inl h4)
  by_cases h5 : w = "yes"
  · exact .inr (.inr (.inl h5))
  by_cases h6 : w = "not"
  · exact .inr (.inr (.inr (.inl h6)))
  by_cases h7 : w = "both"
  · exact .inr (.inr (.inr (.inr (.inl (.inl h7)))))
  by_cases h8 : w = "either"
  · exact .inr (.inr (.inr (.inr (.inl (.inr h8)))))
  refine .inr (.inr (.inr (.inr (.inr ⟨?_, h1, h2, h3, h4, h5, h6, h7, h8⟩))))
  unfold lkZ szL
  simp only [List.find?_cons, List.find?_nil, decide_eq_false (Ne.symm h1), decide_eq_false (Ne.symm h2), decide_eq_false (Ne.symm h3), decide_eq_false (Ne.symm h4), decide_eq_false (Ne.symm h5), decide_eq_false (Ne.symm h6), decide_eq_false (Ne.symm h7), decide_eq_false (Ne.symm h8)]
  rfl
theorem lhead_no {d : PyData} (h : Wd 59 d) (n : ∀ w r, d ≠ .tuple (.str w :: r)) : orB (((isiD "tuple" d).bind asB).map not) (orB ((bnd2 (some d) ((some []).bind tupD) eqD).bind asB) ((((bnd2 (some d) (some (.int 0)) ixD).bind (isiD "str")).bind asB).map not)) = some true := by
  have hw := h.wf
  cases d with
  | dict _ => cases hw
  | tuple ds =>
    have e := eq_tnil (h.shp (by decide))
    cases ds with
    | nil => rfl
    | cons x r =>
      have hx : ∀ s, x ≠ .str s := fun s z => n s r (by rw [z])
      rw [isi_tt, show (some []).bind tupD = some (.tuple []) from rfl, bnd2_ss, e, bnd2_ss, show ixD (.tuple (x :: r)) (.int 0) = some x from atI_0 _ _, show (some x).bind (isiD "str") = isiD "str" x from rfl, not_str (wf_t hw x (by simp)) hx]
      rfl
  | _ => rfl
theorem lhead_yes {w : Str} {r : List PyData} (h : Wd 59 (.tuple (.str w :: r))) : orB (((isiD "tuple" (.tuple (.str w :: r))).bind asB).map not) (orB ((bnd2 (some (.tuple (.str w :: r))) ((some []).bind tupD) eqD).bind asB) ((((bnd2 (some (.tuple (.str w :: r))) (some (.int 0)) ixD).bind (isiD "str")).bind asB).map not)) = some false := by
  have e := eq_tnil (h.shp (by decide))
  rw [isi_tt, show (some []).bind tupD = some (.tuple []) from rfl, bnd2_ss, e, bnd2_ss, show ixD (.tuple (.str w :: r)) (.int 0) = some (.str w) from atI_0 _ _]
  rfl
theorem m_list_s (n : Nat) (ds : List PyData) : m_list (n + 1) ds = runD 4 2 (fb__law_is_test (m_list n) m_lisnum m_lisn) ds := rfl
theorem tst_len {n : Nat} {w : Str} {r : List PyData} (h : ¬ ((r.length + 1 : Nat) : Int) = lkZ szL w) : tstB (n + 1) (.tuple (.str w :: r)) = false := by
  obtain ⟨s1, s2, s3, s4, s5, s6, s7, s8⟩ := sz_w
  unfold tstB
  by_cases hj : w ∈ (["both", "either"] : List Str)
  · rw [if_pos hj]
    have : lkZ szL w = 3 := by
      rcases List.mem_cons.mp hj with rfl | hj
      · exact s7
      · rw [List.mem_singleton.mp hj]; exact s8
    rw [this] at h
    split
    · exact absurd rfl h
    · rfl
  · rw [if_neg hj]
    by_cases hy : w = "yes"
    · rw [if_pos hy]
      rw [hy, s5] at h
      split
      · exact absurd rfl h
      · rfl
    · rw [if_neg hy]
      split
      · rename_i a
        have h2 : lkZ szL w ≠ 2 := fun z => h (by rw [z]; rfl)
        have : w ≠ "not" ∧ w ≠ "over" ∧ w ∉ (["from", "word", "marked"] : List Str) := by
          refine ⟨fun z => h2 (z ▸ s6), fun z => h2 (z ▸ s3), fun z => ?_⟩
          simp only [List.mem_cons, List.not_mem_nil, or_false] at z
          rcases z with z | z | z
          · exact h2 (z ▸ s1)
          · exact h2 (z ▸ s2)
          · exact h2 (z ▸ s4)
        rw [if_neg this.1, if_neg this.2.1, decide_eq_false this.2.2]
        rfl
      · rfl
theorem in_nbe (w : Str) (hw : nmOk w = true) : inD (.str w) (.tuple [.str "not", .str "both", .str "either"]) = some (.bool (decide (w ∈ (["not", "both", "either"] : List Str)))) := inD_t w ["not", "both", "either"] (by decide +kernel) hw
/-- all but the first -/
theorem tail_w (w : PyData) (r : List PyData) : ((some (PyData.tuple (w :: r))).bind fun d => bnd2 (partI (some (.int 1))) (some none) (slD d)).bind walkD = some r := by
  show walkD (.tuple (cutL (w :: r) (some 1) none)) = _
  rw [cut_tail]
  rfl
theorem ltail {n : Nat} (w : Str) (r : List PyData) (hr : ∀ x ∈ r, Wd 58 x) (hl : r.length ≤ 1000) (i : ∀ x ∈ r, m_list (n + 1) [x, .int (n : Int)] = some (.bool (tstB n x))) :
    bnd2 (compL (((some (PyData.tuple (.str w :: r))).bind fun d => bnd2 (partI (some (.int 1))) (some none) (slD d)).bind walkD) tg1 [3] (fun ρ => ((((bnd2 (gv 3 ρ) ((bnd2 (bnd2 (gb 1 ρ) (some (.int 1)) subD) (some []) consD)) consD)).bind (m_list (n + 1))).bind asB).map not) (fun ρ => gv 3 ρ) [3] [.val (.tuple (.str w :: r)), .val (.int ((n + 1 : Nat) : Int)), .val szD, .no]) ((some []).bind lstD) eqD = some (.bool (r.all (tstB n))) := by
  have hn1 : ((n + 1 : Nat) : Int) - 1 = n := by omega
  rw [tail_w]
  have := none_left (n := 58) (h := tg1) (is := [3]) (vs := [3]) (ρ := [.val (.tuple (.str w :: r)), .val (.int ((n + 1 : Nat) : Int)), .val szD, .no]) (ft := fun ρ => ((((bnd2 (gv 3 ρ) ((bnd2 (bnd2 (gb 1 ρ) (some (.int 1)) subD) (some []) consD)) consD)).bind (m_list (n + 1))).bind asB).map not) (fe := fun ρ => gv 3 ρ) (fun d : PyData => d) (fun d => [d]) (tstB n) r hl (fun _ _ => rfl) (fun x hx => by simp only [gv_0, gv_s, gb_0, gb_s, scr_0, bnd2_ss, consD_, tupD_, lstD_, asgR_s, seqR_nx, seqR_ret, ifR_t, ifR_f, retR_s, retD_s, asB_b, asI_i, addD_ii, subD_ii, modD_ii, gtD_ii, geD_ii, leD_ii, ltD_ii, eqD_ii, eqD_ss, neD_ss, neD_ii, neD_bb, ixD_t, ixD_l, andB_t, andB_f, orB_t, orB_f, notV_b, mixR_, setsR_nil, setsR_cons, tg1_, tgT_1, tgT_2, tgT_4, asgG_u, walkD_t, walkD_l, tupleD_l, tupleD_t, listD_l, listD_t, lenD_t, lenD_l, wipeR_nil, wipeR_cons, Option.bind_some, Option.map_some, List.set_cons_zero, List.set_cons_succ, List.length_cons, List.length_nil, Nat.zero_add, Nat.reduceAdd, Nat.reduceLeDiff, Int.reduceAdd, Int.reduceLE, Int.reduceLT, Int.reduceNeg, Int.reduceSub, Int.reduceMul, Int.reduceEq, Bool.not_true, Bool.not_false, decide_true, decide_false, atI_0, atI_1, atI_2, atI_3, Int.reduceToNat, hn1, i x hx]) (fun _ _ => rfl) hr (by decide)
  rw [id_map] at this
  exact this.1
theorem list_tot : ∀ (n : Nat) (d : PyData), Wd 59 d → m_list (n + 1) [d, .int (n : Int)] = some (.bool (tstB n d))
  | 0, d, h => rfl
  | n + 1, d, h => by
    have hn : ¬ (((n + 1 : Nat) : Int) = 0) := by omega
    obtain ⟨s1, s2, s3, s4, s5, s6, s7, s8⟩ := sz_w
    rw [m_list_s]
    refine (runD_r (by rfl)).trans ?_
    rw [show startR 4 [d, .int ((n + 1 : Nat) : Int)] = [.val d, .val (.int ((n + 1 : Nat) : Int)), .no, .no] from rfl]
    unfold fb__law_is_test
    by_cases hd : ∃ w r, d = .tuple (.str w :: r)
    · obtain ⟨w, r, rfl⟩ := hd
      have hw := wf_s (wf_t h.wf _ (List.mem_cons_self))
      have hr : ∀ x ∈ r, Wd 58 x := fun x hx => h.t x (List.mem_cons_of_mem _ hx)
      have ih : ∀ x ∈ r, m_list (n + 1) [x, .int (n : Int)] = some (.bool (tstB n x)) := fun x hx => list_tot n x ((hr x hx).mono (by decide))
      refine rt_step (ρ := [.val (.tuple (.str w :: r)), .val (.int ((n + 1 : Nat) : Int)), .no, .no]) (if_no (by
        show orB (some (decide (((n + 1 : Nat) : Int) = 0))) _ = _
        rw [decide_eq_false hn, orB_f]
        exact lhead_yes h) rfl) ?_
      refine rt_step (ρ := [.val (.tuple (.str w :: r)), .val (.int ((n + 1 : Nat) : Int)), .val szD, .no]) (by rw [szD_eq]; rfl) ?_
      by_cases hl : ((r.length + 1 : Nat) : Int) = lkZ szL w
      · refine rt_step (ρ := [.val (.tuple (.str w :: r)), .val (.int ((n + 1 : Nat) : Int)), .val szD, .no]) (if_no (by simp only [gv_0, gv_s, gb_0, gb_s, scr_0, bnd2_ss, consD_, tupD_, lstD_, asgR_s, seqR_nx, seqR_ret, ifR_t, ifR_f, retR_s, retD_s, asB_b, asI_i, addD_ii, subD_ii, modD_ii, gtD_ii, geD_ii, leD_ii, ltD_ii, eqD_ii, eqD_ss, neD_ss, neD_ii, neD_bb, ixD_t, ixD_l, andB_t, andB_f, orB_t, orB_f, notV_b, mixR_, setsR_nil, setsR_cons, tg1_, tgT_1, tgT_2, tgT_4, asgG_u, walkD_t, walkD_l, tupleD_l, tupleD_t, listD_l, listD_t, lenD_t, lenD_l, wipeR_nil, wipeR_cons, Option.bind_some, Option.map_some, List.set_cons_zero, List.set_cons_succ, List.length_cons, List.length_nil, Nat.zero_add, Nat.reduceAdd, Nat.reduceLeDiff, Int.reduceAdd, Int.reduceLE, Int.reduceLT, Int.reduceNeg, Int.reduceSub, Int.reduceMul, Int.reduceEq, Bool.not_true, Bool.not_false, decide_true, decide_false, atI_0, atI_1, atI_2, atI_3, Int.reduceToNat, sz_get, decide_eq_true hl]) rfl) ?_
        have in3 := in_nbe w hw.1
        rcases sz_cases w with (rfl | rfl | rfl) | rfl | rfl | rfl | (rfl | rfl) | ⟨h0, _⟩
        · rw [s1] at hl
          match r, hl, hr with
          | [a], _, hr =>
            refine rt_step (ρ := [.val (.tuple [.str "from", a]), .val (.int ((n + 1 : Nat) : Int)), .val szD, .no]) (if_no (by simp only [gv_0, gv_s, gb_0, gb_s, scr_0, bnd2_ss, consD_, tupD_, lstD_, asgR_s, seqR_nx, seqR_ret, ifR_t, ifR_f, retR_s, retD_s, asB_b, asI_i, addD_ii, subD_ii, modD_ii, gtD_ii, geD_ii, leD_ii, ltD_ii, eqD_ii, eqD_ss, neD_ss, neD_ii, neD_bb, ixD_t, ixD_l, andB_t, andB_f, orB_t, orB_f, notV_b, mixR_, setsR_nil, setsR_cons, tg1_, tgT_1, tgT_2, tgT_4, asgG_u, walkD_t, walkD_l, tupleD_l, tupleD_t, listD_l, listD_t, lenD_t, lenD_l, wipeR_nil, wipeR_cons, Option.bind_some, Option.map_some, List.set_cons_zero, List.set_cons_succ, List.length_cons, List.length_nil, Nat.zero_add, Nat.reduceAdd, Nat.reduceLeDiff, Int.reduceAdd, Int.reduceLE, Int.reduceLT, Int.reduceNeg, Int.reduceSub, Int.reduceMul, Int.reduceEq, Bool.not_true, Bool.not_false, decide_true, decide_false, atI_0, atI_1, atI_2, atI_3, Int.reduceToNat, in3]; rfl) rfl) ?_
            refine rt_step (ρ := [.val (.tuple [.str "from", a]), .val (.int ((n + 1 : Nat) : Int)), .val szD, .no]) (if_no (by simp only [gv_0, gv_s, gb_0, gb_s, scr_0, bnd2_ss, consD_, tupD_, lstD_, asgR_s, seqR_nx, seqR_ret, ifR_t, ifR_f, retR_s, retD_s, asB_b, asI_i, addD_ii, subD_ii, modD_ii, gtD_ii, geD_ii, leD_ii, ltD_ii, eqD_ii, eqD_ss, neD_ss, neD_ii, neD_bb, ixD_t, ixD_l, andB_t, andB_f, orB_t, orB_f, notV_b, mixR_, setsR_nil, setsR_cons, tg1_, tgT_1, tgT_2, tgT_4, asgG_u, walkD_t, walkD_l, tupleD_l, tupleD_t, listD_l, listD_t, lenD_t, lenD_l, wipeR_nil, wipeR_cons, Option.bind_some, Option.map_some, List.set_cons_zero, List.set_cons_succ, List.length_cons, List.length_nil, Nat.zero_add, Nat.reduceAdd, Nat.reduceLeDiff, Int.reduceAdd, Int.reduceLE, Int.reduceLT, Int.reduceNeg, Int.reduceSub, Int.reduceMul, Int.reduceEq, Bool.not_true, Bool.not_false, decide_true, decide_false, atI_0, atI_1, atI_2, atI_3, Int.reduceToNat]; rfl) rfl) ?_
            simp only [gv_0, gv_s, gb_0, gb_s, scr_0, bnd2_ss, consD_, tupD_, lstD_, asgR_s, seqR_nx, seqR_ret, ifR_t, ifR_f, retR_s, retD_s, asB_b, asI_i, addD_ii, subD_ii, modD_ii, gtD_ii, geD_ii, leD_ii, ltD_ii, eqD_ii, eqD_ss, neD_ss, neD_ii, neD_bb, ixD_t, ixD_l, andB_t, andB_f, orB_t, orB_f, notV_b, mixR_, setsR_nil, setsR_cons, tg1_, tgT_1, tgT_2, tgT_4, asgG_u, walkD_t, walkD_l, tupleD_l, tupleD_t, listD_l, listD_t, lenD_t, lenD_l, wipeR_nil, wipeR_cons, Option.bind_some, Option.map_some, List.set_cons_zero, List.set_cons_succ, List.length_cons, List.length_nil, Nat.zero_add, Nat.reduceAdd, Nat.reduceLeDiff, Int.reduceAdd, Int.reduceLE, Int.reduceLT, Int.reduceNeg, Int.reduceSub, Int.reduceMul, Int.reduceEq, Bool.not_true, Bool.not_false, decide_true, decide_false, atI_0, atI_1, atI_2, atI_3, Int.reduceToNat, lisn_tot (hr a (by simp)).wf]
            rw [show decide (("from" : Str) = "yes") = false by decide +kernel, orV_f]
            show _ = some (PyData.bool (decide (("from" : Str) ∈ (["from", "word", "marked"] : List Str)) && nmB a))
            rw [show decide (("from" : Str) ∈ (["from", "word", "marked"] : List Str)) = true by decide +kernel, Bool.true_and]
            rfl
          | a :: b :: r, hl, _ => simp only [List.length_cons] at hl; omega
          | [], hl, _ => cases hl
        · rw [s2] at hl
          match r, hl, hr with
          | [a], _, hr =>
            refine rt_step (ρ := [.val (.tuple [.str "word", a]), .val (.int ((n + 1 : Nat) : Int)), .val szD, .no]) (if_no (by simp only [gv_0, gv_s, gb_0, gb_s, scr_0, bnd2_ss, consD_, tupD_, lstD_, asgR_s, seqR_nx, seqR_ret, ifR_t, ifR_f, retR_s, retD_s, asB_b, asI_i, addD_ii, subD_ii, modD_ii, gtD_ii, geD_ii, leD_ii, ltD_ii, eqD_ii, eqD_ss, neD_ss, neD_ii, neD_bb, ixD_t, ixD_l, andB_t, andB_f, orB_t, orB_f, notV_b, mixR_, setsR_nil, setsR_cons, tg1_, tgT_1, tgT_2, tgT_4, asgG_u, walkD_t, walkD_l, tupleD_l, tupleD_t, listD_l, listD_t, lenD_t, lenD_l, wipeR_nil, wipeR_cons, Option.bind_some, Option.map_some, List.set_cons_zero, List.set_cons_succ, List.length_cons, List.length_nil, Nat.zero_add, Nat.reduceAdd, Nat.reduceLeDiff, Int.reduceAdd, Int.reduceLE, Int.reduceLT, Int.reduceNeg, Int.reduceSub, Int.reduceMul, Int.reduceEq, Bool.not_true, Bool.not_false, decide_true, decide_false, atI_0, atI_1, atI_2, atI_3, Int.reduceToNat, in3]; rfl) rfl) ?_
            refine rt_step (ρ := [.val (.tuple [.str "word", a]), .val (.int ((n + 1 : Nat) : Int)), .val szD, .no]) (if_no (by simp only [gv_0, gv_s, gb_0, gb_s, scr_0, bnd2_ss, consD_, tupD_, lstD_, asgR_s, seqR_nx, seqR_ret, ifR_t, ifR_f, retR_s, retD_s, asB_b, asI_i, addD_ii, subD_ii, modD_ii, gtD_ii, geD_ii, leD_ii, ltD_ii, eqD_ii, eqD_ss, neD_ss, neD_ii, neD_bb, ixD_t, ixD_l, andB_t, andB_f, orB_t, orB_f, notV_b, mixR_, setsR_nil, setsR_cons, tg1_, tgT_1, tgT_2, tgT_4, asgG_u, walkD_t, walkD_l, tupleD_l, tupleD_t, listD_l, listD_t, lenD_t, lenD_l, wipeR_nil, wipeR_cons, Option.bind_some, Option.map_some, List.set_cons_zero, List.set_cons_succ, List.length_cons, List.length_nil, Nat.zero_add, Nat.reduceAdd, Nat.reduceLeDiff, Int.reduceAdd, Int.reduceLE, Int.reduceLT, Int.reduceNeg, Int.reduceSub, Int.reduceMul, Int.reduceEq, Bool.not_true, Bool.not_false, decide_true, decide_false, atI_0, atI_1, atI_2, atI_3, Int.reduceToNat]; rfl) rfl) ?_
            simp only [gv_0, gv_s, gb_0, gb_s, scr_0, bnd2_ss, consD_, tupD_, lstD_, asgR_s, seqR_nx, seqR_ret, ifR_t, ifR_f, retR_s, retD_s, asB_b, asI_i, addD_ii, subD_ii, modD_ii, gtD_ii, geD_ii, leD_ii, ltD_ii, eqD_ii, eqD_ss, neD_ss, neD_ii, neD_bb, ixD_t, ixD_l, andB_t, andB_f, orB_t, orB_f, notV_b, mixR_, setsR_nil, setsR_cons, tg1_, tgT_1, tgT_2, tgT_4, asgG_u, walkD_t, walkD_l, tupleD_l, tupleD_t, listD_l, listD_t, lenD_t, lenD_l, wipeR_nil, wipeR_cons, Option.bind_some, Option.map_some, List.set_cons_zero, List.set_cons_succ, List.length_cons, List.length_nil, Nat.zero_add, Nat.reduceAdd, Nat.reduceLeDiff, Int.reduceAdd, Int.reduceLE, Int.reduceLT, Int.reduceNeg, Int.reduceSub, Int.reduceMul, Int.reduceEq, Bool.not_true, Bool.not_false, decide_true, decide_false, atI_0, atI_1, atI_2, atI_3, Int.reduceToNat, lisn_tot (hr a (by simp)).wf]
            rw [show decide (("word" : Str) = "yes") = false by decide +kernel, orV_f]
            show _ = some (PyData.bool (decide (("word" : Str) ∈ (["from", "word", "marked"] : List Str)) && nmB a))
            rw [show decide (("word" : Str) ∈ (["from", "word", "marked"] : List Str)) = true by decide +kernel, Bool.true_and]
            rfl
          | a :: b :: r, hl, _ => simp only [List.length_cons] at hl; omega
          | [], hl, _ => cases hl
        · rw [s4] at hl
          match r, hl, hr with
          | [a], _, hr =>
            refine rt_step (ρ := [.val (.tuple [.str "marked", a]), .val (.int ((n + 1 : Nat) : Int)), .val szD, .no]) (if_no (by simp only [gv_0, gv_s, gb_0, gb_s, scr_0, bnd2_ss, consD_, tupD_, lstD_, asgR_s, seqR_nx, seqR_ret, ifR_t, ifR_f, retR_s, retD_s, asB_b, asI_i, addD_ii, subD_ii, modD_ii, gtD_ii, geD_ii, leD_ii, ltD_ii, eqD_ii, eqD_ss, neD_ss, neD_ii, neD_bb, ixD_t, ixD_l, andB_t, andB_f, orB_t, orB_f, notV_b, mixR_, setsR_nil, setsR_cons, tg1_, tgT_1, tgT_2, tgT_4, asgG_u, walkD_t, walkD_l, tupleD_l, tupleD_t, listD_l, listD_t, lenD_t, lenD_l, wipeR_nil, wipeR_cons, Option.bind_some, Option.map_some, List.set_cons_zero, List.set_cons_succ, List.length_cons, List.length_nil, Nat.zero_add, Nat.reduceAdd, Nat.reduceLeDiff, Int.reduceAdd, Int.reduceLE, Int.reduceLT, Int.reduceNeg, Int.reduceSub, Int.reduceMul, Int.reduceEq, Bool.not_true, Bool.not_false, decide_true, decide_false, atI_0, atI_1, atI_2, atI_3, Int.reduceToNat, in3]; rfl) rfl) ?_
            refine rt_step (ρ := [.val (.tuple [.str "marked", a]), .val (.int ((n + 1 : Nat) : Int)), .val szD, .no]) (if_no (by simp only [gv_0, gv_s, gb_0, gb_s, scr_0, bnd2_ss, consD_, tupD_, lstD_, asgR_s, seqR_nx, seqR_ret, ifR_t, ifR_f, retR_s, retD_s, asB_b, asI_i, addD_ii, subD_ii, modD_ii, gtD_ii, geD_ii, leD_ii, ltD_ii, eqD_ii, eqD_ss, neD_ss, neD_ii, neD_bb, ixD_t, ixD_l, andB_t, andB_f, orB_t, orB_f, notV_b, mixR_, setsR_nil, setsR_cons, tg1_, tgT_1, tgT_2, tgT_4, asgG_u, walkD_t, walkD_l, tupleD_l, tupleD_t, listD_l, listD_t, lenD_t, lenD_l, wipeR_nil, wipeR_cons, Option.bind_some, Option.map_some, List.set_cons_zero, List.set_cons_succ, List.length_cons, List.length_nil, Nat.zero_add, Nat.reduceAdd, Nat.reduceLeDiff, Int.reduceAdd, Int.reduceLE, Int.reduceLT, Int.reduceNeg, Int.reduceSub, Int.reduceMul, Int.reduceEq, Bool.not_true, Bool.not_false, decide_true, decide_false, atI_0, atI_1, atI_2, atI_3, Int.reduceToNat]; rfl) rfl) ?_
            simp only [gv_0, gv_s, gb_0, gb_s, scr_0, bnd2_ss, consD_, tupD_, lstD_, asgR_s, seqR_nx, seqR_ret, ifR_t, ifR_f, retR_s, retD_s, asB_b, asI_i, addD_ii, subD_ii, modD_ii, gtD_ii, geD_ii, leD_ii, ltD_ii, eqD_ii, eqD_ss, neD_ss, neD_ii, neD_bb, ixD_t, ixD_l, andB_t, andB_f, orB_t, orB_f, notV_b, mixR_, setsR_nil, setsR_cons, tg1_, tgT_1, tgT_2, tgT_4, asgG_u, walkD_t, walkD_l, tupleD_l, tupleD_t, listD_l, listD_t, lenD_t, lenD_l, wipeR_nil, wipeR_cons, Option.bind_some, Option.map_some, List.set_cons_zero, List.set_cons_succ, List.length_cons, List.length_nil, Nat.zero_add, Nat.reduceAdd, Nat.reduceLeDiff, Int.reduceAdd, Int.reduceLE, Int.reduceLT, Int.reduceNeg, Int.reduceSub, Int.reduceMul, Int.reduceEq, Bool.not_true, Bool.not_false, decide_true, decide_false, atI_0, atI_1, atI_2, atI_3, Int.reduceToNat, lisn_tot (hr a (by simp)).wf]
            rw [show decide (("marked" : Str) = "yes") = false by decide +kernel, orV_f]
            show _ = some (PyData.bool (decide (("marked" : Str) ∈ (["from", "word", "marked"] : List Str)) && nmB a))
            rw [show decide (("marked" : Str) ∈ (["from", "word", "marked"] : List Str)) = true by decide +kernel, Bool.true_and]
            rfl
          | a :: b :: r, hl, _ => simp only [List.length_cons] at hl; omega
          | [], hl, _ => cases hl
        · rw [s3] at hl
          match r, hl, hr with
          | [a], _, hr =>
            refine rt_step (ρ := [.val (.tuple [.str "over", a]), .val (.int ((n + 1 : Nat) : Int)), .val szD, .no]) (if_no (by simp only [gv_0, gv_s, gb_0, gb_s, scr_0, bnd2_ss, consD_, tupD_, lstD_, asgR_s, seqR_nx, seqR_ret, ifR_t, ifR_f, retR_s, retD_s, asB_b, asI_i, addD_ii, subD_ii, modD_ii, gtD_ii, geD_ii, leD_ii, ltD_ii, eqD_ii, eqD_ss, neD_ss, neD_ii, neD_bb, ixD_t, ixD_l, andB_t, andB_f, orB_t, orB_f, notV_b, mixR_, setsR_nil, setsR_cons, tg1_, tgT_1, tgT_2, tgT_4, asgG_u, walkD_t, walkD_l, tupleD_l, tupleD_t, listD_l, listD_t, lenD_t, lenD_l, wipeR_nil, wipeR_cons, Option.bind_some, Option.map_some, List.set_cons_zero, List.set_cons_succ, List.length_cons, List.length_nil, Nat.zero_add, Nat.reduceAdd, Nat.reduceLeDiff, Int.reduceAdd, Int.reduceLE, Int.reduceLT, Int.reduceNeg, Int.reduceSub, Int.reduceMul, Int.reduceEq, Bool.not_true, Bool.not_false, decide_true, decide_false, atI_0, atI_1, atI_2, atI_3, Int.reduceToNat, in3]; rfl) rfl) ?_
            refine rt_ret (if_yes (by simp only [gv_0, gv_s, gb_0, gb_s, scr_0, bnd2_ss, consD_, tupD_, lstD_, asgR_s, seqR_nx, seqR_ret, ifR_t, ifR_f, retR_s, retD_s, asB_b, asI_i, addD_ii, subD_ii, modD_ii, gtD_ii, geD_ii, leD_ii, ltD_ii, eqD_ii, eqD_ss, neD_ss, neD_ii, neD_bb, ixD_t, ixD_l, andB_t, andB_f, orB_t, orB_f, notV_b, mixR_, setsR_nil, setsR_cons, tg1_, tgT_1, tgT_2, tgT_4, asgG_u, walkD_t, walkD_l, tupleD_l, tupleD_t, listD_l, listD_t, lenD_t, lenD_l, wipeR_nil, wipeR_cons, Option.bind_some, Option.map_some, List.set_cons_zero, List.set_cons_succ, List.length_cons, List.length_nil, Nat.zero_add, Nat.reduceAdd, Nat.reduceLeDiff, Int.reduceAdd, Int.reduceLE, Int.reduceLT, Int.reduceNeg, Int.reduceSub, Int.reduceMul, Int.reduceEq, Bool.not_true, Bool.not_false, decide_true, decide_false, atI_0, atI_1, atI_2, atI_3, Int.reduceToNat]) ?_)
            simp only [gv_0, gv_s, gb_0, gb_s, scr_0, bnd2_ss, consD_, tupD_, lstD_, asgR_s, seqR_nx, seqR_ret, ifR_t, ifR_f, retR_s, retD_s, asB_b, asI_i, addD_ii, subD_ii, modD_ii, gtD_ii, geD_ii, leD_ii, ltD_ii, eqD_ii, eqD_ss, neD_ss, neD_ii, neD_bb, ixD_t, ixD_l, andB_t, andB_f, orB_t, orB_f, notV_b, mixR_, setsR_nil, setsR_cons, tg1_, tgT_1, tgT_2, tgT_4, asgG_u, walkD_t, walkD_l, tupleD_l, tupleD_t, listD_l, listD_t, lenD_t, lenD_l, wipeR_nil, wipeR_cons, Option.bind_some, Option.map_some, List.set_cons_zero, List.set_cons_succ, List.length_cons, List.length_nil, Nat.zero_add, Nat.reduceAdd, Nat.reduceLeDiff, Int.reduceAdd, Int.reduceLE, Int.reduceLT, Int.reduceNeg, Int.reduceSub, Int.reduceMul, Int.reduceEq, Bool.not_true, Bool.not_false, decide_true, decide_false, atI_0, atI_1, atI_2, atI_3, Int.reduceToNat, lisnum_tot (hr a (by simp)).wf]
            rfl
          | a :: b :: r, hl, _ => simp only [List.length_cons] at hl; omega
          | [], hl, _ => cases hl
        · rw [s5] at hl
          match r, hl, hr with
          | [], _, hr =>
            refine rt_step (ρ := [.val (.tuple [.str "yes"]), .val (.int ((n + 1 : Nat) : Int)), .val szD, .no]) (if_no (by simp only [gv_0, gv_s, gb_0, gb_s, scr_0, bnd2_ss, consD_, tupD_, lstD_, asgR_s, seqR_nx, seqR_ret, ifR_t, ifR_f, retR_s, retD_s, asB_b, asI_i, addD_ii, subD_ii, modD_ii, gtD_ii, geD_ii, leD_ii, ltD_ii, eqD_ii, eqD_ss, neD_ss, neD_ii, neD_bb, ixD_t, ixD_l, andB_t, andB_f, orB_t, orB_f, notV_b, mixR_, setsR_nil, setsR_cons, tg1_, tgT_1, tgT_2, tgT_4, asgG_u, walkD_t, walkD_l, tupleD_l, tupleD_t, listD_l, listD_t, lenD_t, lenD_l, wipeR_nil, wipeR_cons, Option.bind_some, Option.map_some, List.set_cons_zero, List.set_cons_succ, List.length_cons, List.length_nil, Nat.zero_add, Nat.reduceAdd, Nat.reduceLeDiff, Int.reduceAdd, Int.reduceLE, Int.reduceLT, Int.reduceNeg, Int.reduceSub, Int.reduceMul, Int.reduceEq, Bool.not_true, Bool.not_false, decide_true, decide_false, atI_0, atI_1, atI_2, atI_3, Int.reduceToNat, in3]; rfl) rfl) ?_
            refine rt_step (ρ := [.val (.tuple [.str "yes"]), .val (.int ((n + 1 : Nat) : Int)), .val szD, .no]) (if_no (by simp only [gv_0, gv_s, gb_0, gb_s, scr_0, bnd2_ss, consD_, tupD_, lstD_, asgR_s, seqR_nx, seqR_ret, ifR_t, ifR_f, retR_s, retD_s, asB_b, asI_i, addD_ii, subD_ii, modD_ii, gtD_ii, geD_ii, leD_ii, ltD_ii, eqD_ii, eqD_ss, neD_ss, neD_ii, neD_bb, ixD_t, ixD_l, andB_t, andB_f, orB_t, orB_f, notV_b, mixR_, setsR_nil, setsR_cons, tg1_, tgT_1, tgT_2, tgT_4, asgG_u, walkD_t, walkD_l, tupleD_l, tupleD_t, listD_l, listD_t, lenD_t, lenD_l, wipeR_nil, wipeR_cons, Option.bind_some, Option.map_some, List.set_cons_zero, List.set_cons_succ, List.length_cons, List.length_nil, Nat.zero_add, Nat.reduceAdd, Nat.reduceLeDiff, Int.reduceAdd, Int.reduceLE, Int.reduceLT, Int.reduceNeg, Int.reduceSub, Int.reduceMul, Int.reduceEq, Bool.not_true, Bool.not_false, decide_true, decide_false, atI_0, atI_1, atI_2, atI_3, Int.reduceToNat]; rfl) rfl) ?_
            rfl
          | a :: r, hl, _ => simp only [List.length_cons] at hl; omega
        · rw [s6] at hl
          match r, hl, hr, ih with
          | [a], _, hr, ih =>
            refine rt_ret (if_yes (by simp only [gv_0, gv_s, gb_0, gb_s, scr_0, bnd2_ss, consD_, tupD_, lstD_, asgR_s, seqR_nx, seqR_ret, ifR_t, ifR_f, retR_s, retD_s, asB_b, asI_i, addD_ii, subD_ii, modD_ii, gtD_ii, geD_ii, leD_ii, ltD_ii, eqD_ii, eqD_ss, neD_ss, neD_ii, neD_bb, ixD_t, ixD_l, andB_t, andB_f, orB_t, orB_f, notV_b, mixR_, setsR_nil, setsR_cons, tg1_, tgT_1, tgT_2, tgT_4, asgG_u, walkD_t, walkD_l, tupleD_l, tupleD_t, listD_l, listD_t, lenD_t, lenD_l, wipeR_nil, wipeR_cons, Option.bind_some, Option.map_some, List.set_cons_zero, List.set_cons_succ, List.length_cons, List.length_nil, Nat.zero_add, Nat.reduceAdd, Nat.reduceLeDiff, Int.reduceAdd, Int.reduceLE, Int.reduceLT, Int.reduceNeg, Int.reduceSub, Int.reduceMul, Int.reduceEq, Bool.not_true, Bool.not_false, decide_true, decide_false, atI_0, atI_1, atI_2, atI_3, Int.reduceToNat, in3]; rfl) ?_)
            have := ltail (n := n) "not" [a] hr (by simp) ih
            simp only [List.all_cons, List.all_nil, Bool.and_true] at this
            exact congrArg retR this
          | a :: b :: r, hl, _, _ => simp only [List.length_cons] at hl; omega
          | [], hl, _, _ => cases hl
        · rw [s7] at hl
          match r, hl, hr, ih with
          | [a, b], _, hr, ih =>
            refine rt_ret (if_yes (by simp only [gv_0, gv_s, gb_0, gb_s, scr_0, bnd2_ss, consD_, tupD_, lstD_, asgR_s, seqR_nx, seqR_ret, ifR_t, ifR_f, retR_s, retD_s, asB_b, asI_i, addD_ii, subD_ii, modD_ii, gtD_ii, geD_ii, leD_ii, ltD_ii, eqD_ii, eqD_ss, neD_ss, neD_ii, neD_bb, ixD_t, ixD_l, andB_t, andB_f, orB_t, orB_f, notV_b, mixR_, setsR_nil, setsR_cons, tg1_, tgT_1, tgT_2, tgT_4, asgG_u, walkD_t, walkD_l, tupleD_l, tupleD_t, listD_l, listD_t, lenD_t, lenD_l, wipeR_nil, wipeR_cons, Option.bind_some, Option.map_some, List.set_cons_zero, List.set_cons_succ, List.length_cons, List.length_nil, Nat.zero_add, Nat.reduceAdd, Nat.reduceLeDiff, Int.reduceAdd, Int.reduceLE, Int.reduceLT, Int.reduceNeg, Int.reduceSub, Int.reduceMul, Int.reduceEq, Bool.not_true, Bool.not_false, decide_true, decide_false, atI_0, atI_1, atI_2, atI_3, Int.reduceToNat, in3]; rfl) ?_)
            have := ltail (n := n) "both" [a, b] hr (by simp) ih
            simp only [List.all_cons, List.all_nil, Bool.and_true] at this
            exact congrArg retR this
          | a :: b :: c :: r, hl, _, _ => simp only [List.length_cons] at hl; omega
          | [a], hl, _, _ => cases hl
          | [], hl, _, _ => cases hl
        · rw [s8] at hl
          match r, hl, hr, ih with
          | [a, b], _, hr, ih =>
            refine rt_ret (if_yes (by simp only [gv_0, gv_s, gb_0, gb_s, scr_0, bnd2_ss, consD_, tupD_, lstD_, asgR_s, seqR_nx, seqR_ret, ifR_t, ifR_f, retR_s, retD_s, asB_b, asI_i, addD_ii, subD_ii, modD_ii, gtD_ii, geD_ii, leD_ii, ltD_ii, eqD_ii, eqD_ss, neD_ss, neD_ii, neD_bb, ixD_t, ixD_l, andB_t, andB_f, orB_t, orB_f, notV_b, mixR_, setsR_nil, setsR_cons, tg1_, tgT_1, tgT_2, tgT_4, asgG_u, walkD_t, walkD_l, tupleD_l, tupleD_t, listD_l, listD_t, lenD_t, lenD_l, wipeR_nil, wipeR_cons, Option.bind_some, Option.map_some, List.set_cons_zero, List.set_cons_succ, List.length_cons, List.length_nil, Nat.zero_add, Nat.reduceAdd, Nat.reduceLeDiff, Int.reduceAdd, Int.reduceLE, Int.reduceLT, Int.reduceNeg, Int.reduceSub, Int.reduceMul, Int.reduceEq, Bool.not_true, Bool.not_false, decide_true, decide_false, atI_0, atI_1, atI_2, atI_3, Int.reduceToNat, in3]; rfl) ?_)
            have := ltail (n := n) "either" [a, b] hr (by simp) ih
            simp only [List.all_cons, List.all_nil, Bool.and_true] at this
            exact congrArg retR this
          | a :: b :: c :: r, hl, _, _ => simp only [List.length_cons] at hl; omega
          | [a], hl, _, _ => cases hl
          | [], hl, _, _ => cases hl
        · omega
      · rw [tst_len hl]
        exact rt_ret (if_yes (by simp only [gv_0, gv_s, gb_0, gb_s, scr_0, bnd2_ss, consD_, tupD_, lstD_, asgR_s, seqR_nx, seqR_ret, ifR_t, ifR_f, retR_s, retD_s, asB_b, asI_i, addD_ii, subD_ii, modD_ii, gtD_ii, geD_ii, leD_ii, ltD_ii, eqD_ii, eqD_ss, neD_ss, neD_ii, neD_bb, ixD_t, ixD_l, andB_t, andB_f, orB_t, orB_f, notV_b, mixR_, setsR_nil, setsR_cons, tg1_, tgT_1, tgT_2, tgT_4, asgG_u, walkD_t, walkD_l, tupleD_l, tupleD_t, listD_l, listD_t, lenD_t, lenD_l, wipeR_nil, wipeR_cons, Option.bind_some, Option.map_some, List.set_cons_zero, List.set_cons_succ, List.length_cons, List.length_nil, Nat.zero_add, Nat.reduceAdd, Nat.reduceLeDiff, Int.reduceAdd, Int.reduceLE, Int.reduceLT, Int.reduceNeg, Int.reduceSub, Int.reduceMul, Int.reduceEq, Bool.not_true, Bool.not_false, decide_true, decide_false, atI_0, atI_1, atI_2, atI_3, Int.reduceToNat, sz_get, decide_eq_false hl]) rfl)
    · have hno : ∀ w r, d ≠ .tuple (.str w :: r) := fun w r z => hd ⟨w, r, z⟩
      rw [tstB_no hno]
      have := lhead_no h hno
      refine rt_ret (if_yes ?_ rfl)
      show orB (some (decide (((n + 1 : Nat) : Int) = 0))) _ = _
      rw [decide_eq_false hn, orB_f]
      exact this
end Sv
namespace Sv
open PySem L2 Evl
theorem leS_not (a b : Str) : leS a b = !sLt b a := by
  show (!PyProof.Rows.lexLt PyProof.Rows.itemOrd (PySem.W.keyToks (.str b)) (PySem.W.keyToks (.str a))) = _
  simp only [PySem.W.keyToks]
  congr 1
  unfold sLt
  have : PyProof.Rows.lexLt PyProof.Rows.itemOrd [.inr b.cps.toList] [.inr a.cps.toList] = PyProof.Rows.itemLt (.inr b.cps.toList) (.inr a.cps.toList) := by simp [PyProof.Rows.lexLt]
  rw [this]
  rfl
theorem rising_of : ∀ {ss : List Str}, ss.Pairwise (fun a b => sLt a b = true) → rising ss = true
  | [], _ => rfl
  | [a], _ => rfl
  | a :: b :: r, h => by
    have h2 := List.pairwise_cons.mp h
    have ih := rising_of (ss := b :: r) h2.2
    unfold rising at ih ⊢
    simp only [List.tail_cons, List.dropLast_cons₂, List.zip_cons_cons, List.all_cons, Bool.and_eq_true]
    exact ⟨h2.1 b (by simp), by simpa using ih⟩
theorem sLt_or {a b : Str} (h : leS a b = true) (hn : a ≠ b) : sLt a b = true := by
  cases hs : sLt a b with
  | true => rfl
  | false =>
    have : leS b a = true := by rw [leS_not, hs]; rfl
    exact absurd (leS_anti a b h this) hn
theorem sLt_asym {a b : Str} (h : sLt a b = true) : sLt b a = false := by
  cases hs : sLt b a with
  | false => rfl
  | true => have := sLt_trans h hs; rw [sLt_irr] at this; cases this
/-- names == sorted(set(names)) -/
theorem rset_rising (ss : List Str) : decide (ss = rset ss) = rising ss := by
  by_cases h : rising ss = true
  · rw [h]
    refine decide_eq_true ?_
    unfold rset
    rw [ddup_self (rising_nd h)]
    exact (List.mergeSort_of_pairwise ((rising_nodup h).imp fun hab => by rw [leS_not, sLt_asym hab]; rfl)).symm
  · rw [Bool.not_eq_true _ |>.mp h]
    refine decide_eq_false fun e => h (rising_of ?_)
    have hs : (rset ss).Pairwise fun a b => leS a b = true := List.pairwise_mergeSort leS_trans leS_total _
    have hn : (rset ss).Nodup := (sortS_perm _).nodup_iff.mpr (ddup_nd ss)
    rw [e]
    exact (hs.and hn).imp fun h => sLt_or h.1 h.2
theorem nm_all {ss : List Str} (h : ss.all isNm = true) : ss.all nmOk = true := List.all_eq_true.mpr fun x hx => isNm_ok (List.all_eq_true.mp h x hx)
theorem rset_all {p : Str → Bool} {ss : List Str} (h : ss.all p = true) : (rset ss).all p = true := List.all_eq_true.mpr fun x hx => List.all_eq_true.mp h x ((ddup_mem ss x).mp ((sortS_perm _).mem_iff.mp hx))
theorem eqv_strsL (a b : List Str) : PyData.eqv (.list (a.map .str)) (.list (b.map .str)) = decide (a = b) := by
  show PyData.eqvAll (a.map .str) (b.map .str) = _
  induction a generalizing b with
  | nil => cases b <;> simp [PyData.eqvAll]
  | cons x a ih =>
    cases b with
    | nil => simp [PyData.eqvAll]
    | cons y b =>
      simp only [List.map_cons, PyData.eqvAll, ih, PyData.eqv, List.cons.injEq]
      by_cases h : x = y <;> simp [h]
theorem ne_rset {ss : List Str} (h : ss.all nmOk = true) : neD (.list (ss.map .str)) (strsL (rset ss)) = some (.bool (!rising ss)) := by
  unfold neD eqB
  dsimp only [strsL]
  rw [shp_lstrs ss h, shp_lstrs _ (rset_all h), eqv_strsL, rset_rising]
  rfl
theorem eq_rset {ss : List Str} (h : ss.all nmOk = true) : eqD (.list (ss.map .str)) (strsL (rset ss)) = some (.bool (rising ss)) := by
  unfold eqD eqB
  dsimp only [strsL]
  rw [shp_lstrs ss h, shp_lstrs _ (rset_all h), eqv_strsL, rset_rising]
  rfl
theorem larn_tot {d : PyData} (h : Wd 59 d) : m_larn [d] = some (.bool (namesB d)) := by
  have hwf := h.wf
  cases d with
  | tuple ds =>
    have hw := wf_t hwf
    unfold m_larn
    refine (runD_r (by rfl)).trans ?_
    rw [show startR 2 [.tuple ds] = [.val (.tuple ds), .no] from rfl]
    unfold fb__law_are_names
    by_cases h3 : ds.length ≤ 3
    · have e1 := none_left (n := 58) (h := tg1) (is := [1]) (vs := [1]) (ρ := [.val (.tuple ds), .no]) (ft := fun ρ => (((((bnd2 (gv 1 ρ) (some []) consD)).bind m_lisn)).bind asB).map not) (fe := fun ρ => gv 1 ρ) (fun d : PyData => d) (fun d => [d]) nmB ds (by omega) (fun _ _ => rfl) (fun x hx => by simp only [gv_0, gv_s, gb_0, gb_s, scr_0, bnd2_ss, consD_, tupD_, lstD_, asgR_s, seqR_nx, seqR_ret, ifR_t, ifR_f, retR_s, retD_s, asB_b, asI_i, addD_ii, subD_ii, modD_ii, gtD_ii, geD_ii, leD_ii, ltD_ii, eqD_ii, eqD_ss, neD_ss, neD_ii, neD_bb, ixD_t, ixD_l, andB_t, andB_f, orB_t, orB_f, notV_b, mixR_, setsR_nil, setsR_cons, tg1_, tgT_1, tgT_2, tgT_4, asgG_u, walkD_t, walkD_l, tupleD_l, tupleD_t, listD_l, listD_t, lenD_t, lenD_l, wipeR_nil, wipeR_cons, Option.bind_some, Option.map_some, List.set_cons_zero, List.set_cons_succ, List.length_cons, List.length_nil, Nat.zero_add, Nat.reduceAdd, Nat.reduceLeDiff, Int.reduceAdd, Int.reduceLE, Int.reduceLT, Int.reduceNeg, Int.reduceSub, Int.reduceMul, Int.reduceEq, Bool.not_true, Bool.not_false, decide_true, decide_false, atI_0, atI_1, atI_2, atI_3, Int.reduceToNat, lisn_tot (hw x hx)]) (fun _ _ => rfl) h.t (by decide)
      rw [id_map] at e1
      have e2 := e1.2
      cases ha : ds.all nmB with
      | false =>
        rw [ha] at e2
        refine rt_ret (if_yes (by
          show orB (some false) (orB (some (decide ((3 : Int) < (ds.length : Int)))) _) = _
          rw [decide_eq_false (by omega), orB_f, orB_f]
          exact congrArg (·.bind asB) e2) ?_)
        show some (Res.ret (.bool false)) = some (.ret (.bool (decide (ds.length ≤ 3) && ds.all nmB && _)))
        rw [ha, Bool.and_false, Bool.false_and]
      | true =>
        rw [ha] at e2
        have hs := strOf_map ha
        have hnm : (ds.map strOf).all nmOk = true := nm_all (by
          rw [List.all_map]
          refine List.all_eq_true.mpr fun x hx => ?_
          obtain ⟨s, rfl, h⟩ := nm_dec (List.all_eq_true.mp ha x hx)
          exact h)
        refine rt_step (ρ := [.val (.tuple ds), .no]) (if_no (by
          show orB (some false) (orB (some (decide ((3 : Int) < (ds.length : Int)))) _) = _
          rw [decide_eq_false (by omega), orB_f, orB_f]
          exact congrArg (·.bind asB) e2) rfl) ?_
        have e3 : sortSetD keyKind 1001 (.tuple ds) = some (strsL (rset (ds.map strOf))) := sortset_items (by rw [← hs]; rfl) (by rw [List.length_map]; omega)
        have e4 := eq_rset hnm
        rw [← hs] at e4
        show retD (retR (bnd2 (some (.list ds)) (sortSetD keyKind 1001 (.tuple ds)) eqD)) = _
        rw [e3, bnd2_ss, e4]
        show some (PyData.bool _) = some (.bool (decide (ds.length ≤ 3) && ds.all nmB && _))
        rw [ha, decide_eq_true h3]
        rfl
    · refine rt_ret (if_yes (by simp only [gv_0, gv_s, gb_0, gb_s, scr_0, bnd2_ss, consD_, tupD_, lstD_, asgR_s, seqR_nx, seqR_ret, ifR_t, ifR_f, retR_s, retD_s, asB_b, asI_i, addD_ii, subD_ii, modD_ii, gtD_ii, geD_ii, leD_ii, ltD_ii, eqD_ii, eqD_ss, neD_ss, neD_ii, neD_bb, ixD_t, ixD_l, andB_t, andB_f, orB_t, orB_f, notV_b, mixR_, setsR_nil, setsR_cons, tg1_, tgT_1, tgT_2, tgT_4, asgG_u, walkD_t, walkD_l, tupleD_l, tupleD_t, listD_l, listD_t, lenD_t, lenD_l, wipeR_nil, wipeR_cons, Option.bind_some, Option.map_some, List.set_cons_zero, List.set_cons_succ, List.length_cons, List.length_nil, Nat.zero_add, Nat.reduceAdd, Nat.reduceLeDiff, Int.reduceAdd, Int.reduceLE, Int.reduceLT, Int.reduceNeg, Int.reduceSub, Int.reduceMul, Int.reduceEq, Bool.not_true, Bool.not_false, decide_true, decide_false, atI_0, atI_1, atI_2, atI_3, Int.reduceToNat, isi_tt, show decide ((3 : Int) < (ds.length : Int)) = true from decide_eq_true (by omega)]) ?_)
      show some (Res.ret (.bool false)) = some (.ret (.bool (decide (ds.length ≤ 3) && ds.all nmB && _)))
      rw [decide_eq_false h3, Bool.false_and, Bool.false_and]
  | dict _ => cases hwf
  | _ => rfl
end Sv
namespace Sv
open PySem L2 Evl
theorem lisl_tot {d : PyData} (h : Wd 59 d) : m_lisl [d] = some (.bool (letB d)) := by
  have hwf := h.wf
  cases d with
  | tuple ds =>
    have hw := h.t
    unfold m_lisl
    refine (runD_r (by rfl)).trans ?_
    rw [show startR 1 [.tuple ds] = [.val (.tuple ds)] from rfl]
    unfold fb__law_is_letter
    by_cases h4 : ds.length = 4
    · match ds, h4, hw with
      | [a, b, c, d], _, hw =>
        have h1 := lisn_tot (hw a (by simp)).wf
        have h2 := larn_tot ((hw b (by simp)).mono (by decide))
        have h3 := lisnum_tot (hw c (by simp)).wf
        have h4 := larn_tot ((hw d (by simp)).mono (by decide))
        show _ = some (PyData.bool (nmB a && (namesB b && (numbB c && namesB d))))
        have hh : orB (((isiD "tuple" (.tuple [a, b, c, d])).bind asB).map not) (orB ((bnd2 (lenD (.tuple [a, b, c, d])) (some (.int 4)) neD).bind asB) (orB (((m_lisn [a]).bind asB).map not) (((m_lisnum [c]).bind asB).map not))) = some (!(nmB a && numbB c)) := by
          rw [h1, h3]
          cases nmB a <;> cases numbB c <;> rfl
        cases hc : (nmB a && numbB c) with
        | false =>
          rw [hc] at hh
          refine rt_ret (if_yes hh ?_)
          revert hc
          cases nmB a <;> cases numbB c <;> cases namesB b <;> intro hc <;> first | rfl | cases hc
        | true =>
          rw [hc] at hh
          refine rt_step (ρ := [.val (.tuple [a, b, c, d])]) (if_no hh rfl) ?_
          show retD (retR (andV (m_larn [b]) (m_larn [d]))) = _
          rw [h2, h4]
          revert hc
          cases nmB a <;> cases numbB c <;> cases namesB b <;> cases namesB d <;> intro hc <;> first | rfl | cases hc
    · have : letB (.tuple ds) = false := by
        unfold letB
        split
        · rename_i e
          cases e
          exact absurd rfl h4
        · rfl
      rw [this]
      refine rt_ret (if_yes ?_ rfl)
      show orB (some false) (orB (some (!decide ((ds.length : Int) = 4))) _) = _
      rw [decide_eq_false (by omega)]
      rfl
  | dict _ => cases hwf
  | _ => rfl
/-- whom it calls is there -/
def callB (ns : List Str) : PyData → Bool
  | .tuple [.str w, .str x] => decide (w ≠ "call") || decide (x ∈ ns)
  | _ => true
theorem notin_deeds (w : Str) (hw : nmOk w = true) : notInD (.str w) (.tuple [.str "lay", .str "send", .str "answer", .str "mark", .str "unmark", .str "call"]) = some (.bool (!decide (w ∈ (["lay", "send", "answer", "mark", "unmark", "call"] : List Str)))) := notIn_t w ["lay", "send", "answer", "mark", "unmark", "call"] (by decide +kernel) hw
theorem lisd_tot {d : PyData} {ns : List Str} (hns : ns.all nmOk = true) (h : Wd 59 d) : m_lisd [d, .list (ns.map .str)] = some (.bool (deedB d && callB ns d)) := by
  unfold m_lisd
  refine (runD_r (by rfl)).trans ?_
  rw [show startR 2 [d, .list (ns.map .str)] = [.val d, .val (.list (ns.map .str))] from rfl]
  unfold fb__law_is_deed
  by_cases hd : ∃ w r, d = .tuple (.str w :: r)
  · obtain ⟨w, r, rfl⟩ := hd
    have hw := wf_s (wf_t h.wf _ (List.mem_cons_self))
    have hr : ∀ x ∈ r, wf x = true := fun x hx => wf_t h.wf x (List.mem_cons_of_mem _ hx)
    refine rt_step (ρ := [.val (.tuple (.str w :: r)), .val (.list (ns.map .str))]) (if_no (lhead_yes h) rfl) ?_
    rw [deedB_eq]
    by_cases he : w ∈ (["drop", "stop"] : List Str)
    · rw [if_pos he]
      refine rt_ret (if_yes (by simp only [gv_0, gv_s, gb_0, gb_s, scr_0, bnd2_ss, consD_, tupD_, lstD_, asgR_s, seqR_nx, seqR_ret, ifR_t, ifR_f, retR_s, retD_s, asB_b, asI_i, addD_ii, subD_ii, modD_ii, gtD_ii, geD_ii, leD_ii, ltD_ii, eqD_ii, eqD_ss, neD_ss, neD_ii, neD_bb, ixD_t, ixD_l, andB_t, andB_f, orB_t, orB_f, notV_b, mixR_, setsR_nil, setsR_cons, tg1_, tgT_1, tgT_2, tgT_4, asgG_u, walkD_t, walkD_l, tupleD_l, tupleD_t, listD_l, listD_t, lenD_t, lenD_l, wipeR_nil, wipeR_cons, Option.bind_some, Option.map_some, List.set_cons_zero, List.set_cons_succ, List.length_cons, List.length_nil, Nat.zero_add, Nat.reduceAdd, Nat.reduceLeDiff, Int.reduceAdd, Int.reduceLE, Int.reduceLT, Int.reduceNeg, Int.reduceSub, Int.reduceMul, Int.reduceEq, Bool.not_true, Bool.not_false, decide_true, decide_false, atI_0, atI_1, atI_2, atI_3, Int.reduceToNat, in_ends w hw.1, decide_eq_true he]) ?_)
      cases r with
      | nil => rfl
      | cons a r =>
        show retR (some (.bool (decide (((r.length + 1 + 1 : Nat) : Int) = 1)))) = _
        rw [decide_eq_false (by omega)]
        rfl
    · rw [if_neg he]
      refine rt_step (ρ := [.val (.tuple (.str w :: r)), .val (.list (ns.map .str))]) (if_no (by simp only [gv_0, gv_s, gb_0, gb_s, scr_0, bnd2_ss, consD_, tupD_, lstD_, asgR_s, seqR_nx, seqR_ret, ifR_t, ifR_f, retR_s, retD_s, asB_b, asI_i, addD_ii, subD_ii, modD_ii, gtD_ii, geD_ii, leD_ii, ltD_ii, eqD_ii, eqD_ss, neD_ss, neD_ii, neD_bb, ixD_t, ixD_l, andB_t, andB_f, orB_t, orB_f, notV_b, mixR_, setsR_nil, setsR_cons, tg1_, tgT_1, tgT_2, tgT_4, asgG_u, walkD_t, walkD_l, tupleD_l, tupleD_t, listD_l, listD_t, lenD_t, lenD_l, wipeR_nil, wipeR_cons, Option.bind_some, Option.map_some, List.set_cons_zero, List.set_cons_succ, List.length_cons, List.length_nil, Nat.zero_add, Nat.reduceAdd, Nat.reduceLeDiff, Int.reduceAdd, Int.reduceLE, Int.reduceLT, Int.reduceNeg, Int.reduceSub, Int.reduceMul, Int.reduceEq, Bool.not_true, Bool.not_false, decide_true, decide_false, atI_0, atI_1, atI_2, atI_3, Int.reduceToNat, in_ends w hw.1, decide_eq_false he]) rfl) ?_
      have hnd := notin_deeds w hw.1
      have hc : ∀ X : Option Bool, orB ((bnd2 (ixD (.tuple (.str w :: r)) (.int 0)) (some (.tuple [.str "lay", .str "send", .str "answer", .str "mark", .str "unmark", .str "call"])) notInD).bind asB) X = (if w ∈ (["lay", "send", "answer", "mark", "unmark", "call"] : List Str) then X else some true) := fun X => by
        rw [show ixD (.tuple (.str w :: r)) (.int 0) = some (.str w) from atI_0 _ _, bnd2_ss, hnd]
        by_cases hm : w ∈ (["lay", "send", "answer", "mark", "unmark", "call"] : List Str)
        · rw [if_pos hm, decide_eq_true hm]; rfl
        · rw [if_neg hm, decide_eq_false hm]; rfl
      by_cases hm : w ∈ (["lay", "send", "answer", "mark", "unmark", "call"] : List Str)
      · match r, hr, hc with
        | [], _, hc =>
          refine rt_ret (if_yes ((hc _).trans ?_) rfl)
          rw [if_pos hm]
          rfl
        | [a], hr, hc =>
          refine rt_step (ρ := [.val (.tuple [.str w, a]), .val (.list (ns.map .str))]) (if_no ((hc _).trans (by rw [if_pos hm]; rfl)) rfl) ?_
          have e1 := lisn_tot (hr a (by simp))
          show _ = some (PyData.bool ((decide (w ∈ (["lay", "send", "answer", "mark", "unmark", "call"] : List Str)) && nmB a) && callB ns (.tuple [.str w, a])))
          rw [decide_eq_true hm, Bool.true_and]
          show retD (retR (andV (m_lisn [a]) (orV (some (.bool (!decide (w = "call")))) (inD a (.list (ns.map .str)))))) = some (.bool (nmB a && callB ns (.tuple [.str w, a])))
          rw [e1]
          cases ha : nmB a with
          | false => rfl
          | true =>
            obtain ⟨s, rfl, hs⟩ := nm_dec ha
            rw [inD_l s ns hns (isNm_ok hs)]
            show _ = some (PyData.bool (true && (decide (w ≠ "call") || decide (s ∈ ns))))
            by_cases hw : w = "call"
            · rw [decide_eq_true hw, show decide (w ≠ "call") = false from decide_eq_false (fun z => z hw)]
              cases decide (s ∈ ns) <;> rfl
            · rw [decide_eq_false hw, show decide (w ≠ "call") = true from decide_eq_true hw]
              cases decide (s ∈ ns) <;> rfl
        | a :: b :: r, _, hc =>
          refine rt_ret (if_yes ((hc _).trans ?_) rfl)
          rw [if_pos hm]
          show some (!decide (((r.length + 1 + 1 + 1 : Nat) : Int) = 2)) = _
          rw [decide_eq_false (by omega)]
          rfl
      · rw [decide_eq_false hm]
        refine (rt_ret (if_yes ((hc _).trans (if_neg hm)) rfl)).trans ?_
        split <;> rfl
  · have hno : ∀ w r, d ≠ .tuple (.str w :: r) := fun w r z => hd ⟨w, r, z⟩
    rw [deedB_no hno]
    exact rt_ret (if_yes (lhead_no h hno) rfl)
/-- a rule, whose calls are there -/
def rulC (ns : List Str) : PyData → Bool
  | .tuple [t, .tuple ds] => tstB 3 t && (decide (1 ≤ ds.length) && decide (ds.length ≤ 3)) && ds.all fun d => deedB d && callB ns d
  | _ => false
theorem rulC_f2 {ns : List Str} {ds : List PyData} (h : ds.length ≠ 2) : rulC ns (.tuple ds) = false := by
  unfold rulC
  split
  · rename_i e
    cases e
    exact absurd rfl h
  · rfl
theorem rulC_f1 {ns : List Str} {t e : PyData} (h : tstB 3 t = false) : rulC ns (.tuple [t, e]) = false := by
  cases e with
  | tuple ds =>
    show (tstB 3 t && _ && _) = false
    rw [h]
    rfl
  | _ => rfl
theorem lisr_tot {d : PyData} {ns : List Str} (hns : ns.all nmOk = true) (h : Wd 59 d) : m_lisr [d, .list (ns.map .str)] = some (.bool (rulC ns d)) := by
  have hwf := h.wf
  cases d with
  | tuple ds =>
    have hw := h.t
    unfold m_lisr
    refine (runD_r (by rfl)).trans ?_
    rw [show startR 3 [.tuple ds, .list (ns.map .str)] = [.val (.tuple ds), .val (.list (ns.map .str)), .no] from rfl]
    unfold fb__law_is_rule
    by_cases h2 : ds.length = 2
    · match ds, h2, hw with
      | [t, e], _, hw =>
        have e1 : m_list 4 [t, .int 3] = some (.bool (tstB 3 t)) := list_tot 3 t ((hw t (by simp)).mono (by decide))
        have hh : orB (((isiD "tuple" (.tuple [t, e])).bind asB).map not) (orB ((bnd2 (lenD (.tuple [t, e])) (some (.int 2)) neD).bind asB) (((m_list 4 [t, .int 3]).bind asB).map not)) = some (!tstB 3 t) := by
          rw [e1]
          cases tstB 3 t <;> rfl
        cases ht : tstB 3 t with
        | false =>
          rw [rulC_f1 ht]
          rw [ht] at hh
          exact rt_ret (if_yes hh rfl)
        | true =>
          rw [ht] at hh
          refine rt_step (ρ := [.val (.tuple [t, e]), .val (.list (ns.map .str)), .no]) (if_no hh rfl) ?_
          have hwe := hw e (by simp)
          by_cases he : ∃ es, e = .tuple es
          · obtain ⟨es, rfl⟩ := he
            show _ = some (PyData.bool (tstB 3 t && (decide (1 ≤ es.length) && decide (es.length ≤ 3)) && es.all _))
            rw [ht, Bool.true_and]
            have c1 : decide ((1 : Int) ≤ (es.length : Int)) = decide (1 ≤ es.length) := dec_iff (by omega)
            have c2 : decide ((es.length : Int) ≤ 3) = decide (es.length ≤ 3) := dec_iff (by omega)
            have ch : orB (((isiD "tuple" (.tuple es)).bind asB).map not) (((chainD leD leD (some (.int 1)) (lenD (.tuple es)) (some (.int 3))).bind asB).map not) = some (!(decide (1 ≤ es.length) && decide (es.length ≤ 3))) := by
              rw [show lenD (.tuple es) = some (.int (es.length : Int)) from rfl, chain_le, c1, c2]
              cases (decide (1 ≤ es.length) && decide (es.length ≤ 3)) <;> rfl
            cases hs : (decide (1 ≤ es.length) && decide (es.length ≤ 3)) with
            | false =>
              rw [hs] at ch
              exact rt_ret (if_yes ch rfl)
            | true =>
              have h3 : es.length ≤ 3 := of_decide_eq_true (Bool.and_eq_true_iff.mp hs).2
              rw [hs] at ch
              refine rt_step (ρ := [.val (.tuple [t, .tuple es]), .val (.list (ns.map .str)), .no]) (if_no ch rfl) ?_
              have e1 := none_left (n := 57) (h := tg1) (is := [2]) (vs := [2]) (ρ := [.val (.tuple [t, .tuple es]), .val (.list (ns.map .str)), .no]) (ft := fun ρ => ((((bnd2 (gv 2 ρ) ((bnd2 (gv 1 ρ) (some []) consD)) consD)).bind m_lisd).bind asB).map not) (fe := fun ρ => gv 2 ρ) (fun d : PyData => d) (fun d => [d]) (fun d => deedB d && callB ns d) es (by omega) (fun _ _ => rfl) (fun x hx => by simp only [gv_0, gv_s, gb_0, gb_s, scr_0, bnd2_ss, consD_, tupD_, lstD_, asgR_s, seqR_nx, seqR_ret, ifR_t, ifR_f, retR_s, retD_s, asB_b, asI_i, addD_ii, subD_ii, modD_ii, gtD_ii, geD_ii, leD_ii, ltD_ii, eqD_ii, eqD_ss, neD_ss, neD_ii, neD_bb, ixD_t, ixD_l, andB_t, andB_f, orB_t, orB_f, notV_b, mixR_, setsR_nil, setsR_cons, tg1_, tgT_1, tgT_2, tgT_4, asgG_u, walkD_t, walkD_l, tupleD_l, tupleD_t, listD_l, listD_t, lenD_t, lenD_l, wipeR_nil, wipeR_cons, Option.bind_some, Option.map_some, List.set_cons_zero, List.set_cons_succ, List.length_cons, List.length_nil, Nat.zero_add, Nat.reduceAdd, Nat.reduceLeDiff, Int.reduceAdd, Int.reduceLE, Int.reduceLT, Int.reduceNeg, Int.reduceSub, Int.reduceMul, Int.reduceEq, Bool.not_true, Bool.not_false, decide_true, decide_false, atI_0, atI_1, atI_2, atI_3, Int.reduceToNat, lisd_tot hns ((hwe.t x hx).mono (by decide))]) (fun _ _ => rfl) hwe.t (by decide)
              rw [id_map] at e1
              exact congrArg (fun z => retD (retR z)) e1.1
          · have : isiD "tuple" e = some (.bool false) := not_tup hwe.wf fun ds z => he ⟨ds, z⟩
            have e0 : rulC ns (.tuple [t, e]) = false := by
              cases e with
              | tuple es => exact (he ⟨es, rfl⟩).elim
              | _ => rfl
            rw [e0]
            refine rt_ret (if_yes ?_ rfl)
            show orB (((isiD "tuple" e).bind asB).map not) _ = _
            rw [this]
            rfl
    · rw [rulC_f2 h2]
      refine rt_ret (if_yes ?_ rfl)
      show orB (some false) (orB (some (!decide ((ds.length : Int) = 2))) _) = _
      rw [decide_eq_false (by omega)]
      rfl
  | dict _ => cases hwf
  | _ => rfl
end Sv
namespace Sv
open PySem L2 Evl
/-- a name and its rules, whatever these are -/
def hdD (p : Str × List PyData) : PyData := .tuple [.str p.1, .tuple p.2]
def headB : PyData → Bool
  | .tuple [n, .tuple rs] => nmB n && decide (rs.length ≤ 4)
  | _ => false
theorem head_dec {d : PyData} (h : headB d = true) : ∃ p : Str × List PyData, d = hdD p ∧ isNm p.1 = true ∧ p.2.length ≤ 4 := by
  unfold headB at h
  split at h
  · rename_i n rs
    obtain ⟨h1, h2⟩ := Bool.and_eq_true_iff.mp h
    obtain ⟨s, rfl, hs⟩ := nm_dec h1
    exact ⟨(s, rs), rfl, hs, of_decide_eq_true h2⟩
  · cases h
theorem headB_f2 {ds : List PyData} (h : ds.length ≠ 2) : headB (.tuple ds) = false := by
  unfold headB
  split
  · rename_i e
    cases e
    exact absurd rfl h
  · rfl
theorem seq_ret {a : Option Res} {g : Rho → Option Res} {d : PyData} (h : a = some (.ret d)) : seqR a g = some (.ret d) := by rw [h]; rfl
theorem b1_step {d : PyData} (h : Wd 59 d) (x0 x2 x3 : Sl) : (headB d = true → fb__law_is_book_b1 m_lisn m_lisr [x0, .val d, x2, x3] = some (.nx [x0, .val d, x2, x3])) ∧ (headB d = false → fb__law_is_book_b1 m_lisn m_lisr [x0, .val d, x2, x3] = some (.ret (.bool false))) := by
  have hwf := h.wf
  have key : fb__law_is_book_b1 m_lisn m_lisr [x0, .val d, x2, x3] = if headB d then some (.nx [x0, .val d, x2, x3]) else some (.ret (.bool false)) := by
    cases d with
    | tuple ds =>
      unfold fb__law_is_book_b1
      by_cases h2 : ds.length = 2
      · match ds, h2, h with
        | [n, e], _, h =>
          have e1 := lisn_tot (h.t n (by simp)).wf
          have hh : orB (((isiD "tuple" (.tuple [n, e])).bind asB).map not) (orB ((bnd2 (lenD (.tuple [n, e])) (some (.int 2)) neD).bind asB) (((m_lisn [n]).bind asB).map not)) = some (!nmB n) := by
            rw [e1]
            cases nmB n <;> rfl
          cases hn : nmB n with
          | false =>
            rw [hn] at hh
            have : headB (.tuple [n, e]) = false := by
              cases e with
              | tuple rs => show (nmB n && _) = false; rw [hn]; rfl
              | _ => rfl
            rw [this]
            exact seq_ret (if_yes hh rfl)
          | true =>
            rw [hn] at hh
            refine seq_step (if_no hh rfl) ?_
            by_cases he : ∃ es, e = .tuple es
            · obtain ⟨es, rfl⟩ := he
              show _ = if (nmB n && decide (es.length ≤ 4)) then _ else _
              rw [hn, Bool.true_and]
              by_cases h4 : es.length ≤ 4
              · rw [if_pos (decide_eq_true h4)]
                refine if_no ?_ rfl
                show orB (some false) (some (decide ((4 : Int) < (es.length : Int)))) = _
                rw [decide_eq_false (by omega)]
                rfl
              · rw [if_neg (by simpa using h4)]
                refine if_yes ?_ rfl
                show orB (some false) (some (decide ((4 : Int) < (es.length : Int)))) = _
                rw [decide_eq_true (by omega)]
                rfl
            · have e2 : isiD "tuple" e = some (.bool false) := not_tup (h.t e (by simp)).wf fun ds z => he ⟨ds, z⟩
              have e0 : headB (.tuple [n, e]) = false := by
                cases e with
                | tuple es => exact (he ⟨es, rfl⟩).elim
                | _ => rfl
              rw [e0]
              refine if_yes ?_ rfl
              show orB (((isiD "tuple" e).bind asB).map not) _ = _
              rw [e2]
              rfl
      · rw [headB_f2 h2]
        refine seq_ret (if_yes ?_ rfl)
        show orB (some false) (orB (some (!decide ((ds.length : Int) = 2))) _) = _
        rw [decide_eq_false (by omega)]
        rfl
    | dict _ => cases hwf
    | _ => rfl
  exact ⟨fun h => by rw [key, h]; rfl, fun h => by rw [key, h]; rfl⟩
/-- what the law asks of a book -/
def lbookB (qs : List (Str × List PyData)) : Bool := rising (qs.map (·.1)) && decide (("main" : Str) ∈ qs.map (·.1)) && qs.all fun q => q.2.all (rulC (qs.map (·.1)))
theorem lisb_parts {qs : List (Str × List PyData)} (h1 : 1 ≤ qs.length) (h3 : qs.length ≤ 3) (hq : ∀ q ∈ qs, isNm q.1 = true ∧ q.2.length ≤ 4) (hw : Wd 59 (.tuple (qs.map hdD))) : m_lisb [.tuple (qs.map hdD)] = some (.bool (lbookB qs)) := by
  unfold m_lisb
  refine (runD_r (by rfl)).trans ?_
  rw [show startR 4 [.tuple (qs.map hdD)] = [.val (.tuple (qs.map hdD)), .no, .no, .no] from rfl]
  unfold fb__law_is_book
  refine rt_step (ρ := [.val (.tuple (qs.map hdD)), .no, .no, .no]) (if_no (by
    show orB (some false) ((chainD leD leD (some (.int 1)) (some (.int ((qs.map hdD).length : Int))) (some (.int 3))).bind asB |>.map not) = _
    rw [List.length_map, chain_le, decide_eq_true (by omega : (1 : Int) ≤ (qs.length : Int)), decide_eq_true (by omega : (qs.length : Int) ≤ 3)]
    rfl) rfl) ?_
  have l1 := for_all (h := tg1) (is := [1]) (ρ := [.val (.tuple (qs.map hdD)), .no, .no, .no]) (body := fb__law_is_book_b1 m_lisn m_lisr) hdD (fun q => [hdD q]) (fun ρ => ∃ x1, ρ = [.val (.tuple (qs.map hdD)), x1, .no, .no]) (fun _ => true) (.bool false) qs (fun _ _ => rfl) (fun q hq' ρ hρ => by
    obtain ⟨x1, rfl⟩ := hρ
    refine ⟨fun _ => ⟨_, (b1_step ((hw.t _ (List.mem_map.mpr ⟨q, hq', rfl⟩)).mono (by decide)) _ _ _).1 ?_, ⟨_, rfl⟩⟩, fun z => by cases z⟩
    show (isNm q.1 && decide (q.2.length ≤ 4)) = true
    rw [(hq q hq').1, decide_eq_true (hq q hq').2]
    rfl) ⟨_, rfl⟩
  refine rt_for (l1.1 (by simp)) ?_
  rintro ρ ⟨x1, rfl⟩
  have hno : (qs.map (·.1)).all nmOk = true := nm_all (by
    rw [List.all_map]
    exact List.all_eq_true.mpr fun q h => (hq q h).1)
  have hnl : (qs.map (·.1)).length = qs.length := List.length_map ..
  refine rt_step (ρ := [.val (.tuple (qs.map hdD)), x1, .val (.list ((qs.map (·.1)).map .str)), .no]) (by
    have := compL_map (h := tg1) (is := [1]) (vs := [1]) (ρ := [.val (.tuple (qs.map hdD)), x1, .no, .no]) (fe := fun ρ => bnd2 (gb 1 ρ) (some (.int 0)) ixD) hdD (fun q => [hdD q]) (fun q => .str q.1) qs (by omega) (fun _ _ => rfl) (fun q _ => rfl)
    show asgR 2 _ (compL (some (qs.map hdD)) _ _ _ _ _ _) = _
    rw [this, List.map_map]
    rfl) ?_
  have e4 := notIn_l "main" (qs.map (·.1)) hno (by decide +kernel)
  have e5 := ne_rset hno
  have e6 := sortset_strs (ss := qs.map (·.1)) (by omega)
  unfold lbookB
  have hc : orB ((bnd2 (some (.list ((qs.map (·.1)).map .str))) (sortSetD keyKind 1001 (.list ((qs.map (·.1)).map .str))) neD).bind asB) ((bnd2 (some (.str "main")) (some (.list ((qs.map (·.1)).map .str))) notInD).bind asB) = some (!(rising (qs.map (·.1)) && decide (("main" : Str) ∈ qs.map (·.1)))) := by
    rw [e6, bnd2_ss, e5, bnd2_ss, e4]
    cases rising (qs.map (·.1)) <;> cases decide (("main" : Str) ∈ qs.map (·.1)) <;> rfl
  cases ht : (rising (qs.map (·.1)) && decide (("main" : Str) ∈ qs.map (·.1))) with
  | false =>
    rw [ht] at hc
    exact rt_ret (if_yes hc rfl)
  | true =>
    rw [ht] at hc
    refine rt_step (if_no hc rfl) ?_
    have l2 := for_all (h := tg1) (is := [1]) (ρ := [.val (.tuple (qs.map hdD)), x1, .val (.list ((qs.map (·.1)).map .str)), .no]) (body := fb__law_is_book_b2 m_lisn m_lisr) hdD (fun q => [hdD q]) (fun ρ => ∃ x1, ρ = [.val (.tuple (qs.map hdD)), x1, .val (.list ((qs.map (·.1)).map .str)), .no]) (fun q => q.2.all (rulC (qs.map (·.1)))) (.bool false) qs (fun _ _ => rfl) (fun q hq' ρ hρ => by
      obtain ⟨x1, rfl⟩ := hρ
      have hwq : Wd 58 (hdD q) := hw.t _ (List.mem_map.mpr ⟨q, hq', rfl⟩)
      have hwr : Wd 57 (.tuple q.2) := hwq.t _ (by simp)
      have e1 := none_left (n := 56) (h := tg1) (is := [3]) (vs := [3]) (ρ := [.val (.tuple (qs.map hdD)), .val (hdD q), .val (.list ((qs.map (·.1)).map .str)), .no]) (ft := fun ρ => ((((bnd2 (gv 3 ρ) ((bnd2 (gv 2 ρ) (some []) consD)) consD)).bind m_lisr).bind asB).map not) (fe := fun ρ => gv 3 ρ) (fun d : PyData => d) (fun d => [d]) (rulC (qs.map (·.1))) q.2 (by have := (hq q hq').2; omega) (fun _ _ => rfl) (fun x hx => by simp only [gv_0, gv_s, gb_0, gb_s, scr_0, bnd2_ss, consD_, tupD_, lstD_, asgR_s, seqR_nx, seqR_ret, ifR_t, ifR_f, retR_s, retD_s, asB_b, asI_i, addD_ii, subD_ii, modD_ii, gtD_ii, geD_ii, leD_ii, ltD_ii, eqD_ii, eqD_ss, neD_ss, neD_ii, neD_bb, ixD_t, ixD_l, andB_t, andB_f, orB_t, orB_f, notV_b, mixR_, setsR_nil, setsR_cons, tg1_, tgT_1, tgT_2, tgT_4, asgG_u, walkD_t, walkD_l, tupleD_l, tupleD_t, listD_l, listD_t, lenD_t, lenD_l, wipeR_nil, wipeR_cons, Option.bind_some, Option.map_some, List.set_cons_zero, List.set_cons_succ, List.length_cons, List.length_nil, Nat.zero_add, Nat.reduceAdd, Nat.reduceLeDiff, Int.reduceAdd, Int.reduceLE, Int.reduceLT, Int.reduceNeg, Int.reduceSub, Int.reduceMul, Int.reduceEq, Bool.not_true, Bool.not_false, decide_true, decide_false, atI_0, atI_1, atI_2, atI_3, Int.reduceToNat, lisr_tot hno ((hwr.t x hx).mono (by decide))]) (fun _ _ => rfl) hwr.t (by decide)
      rw [id_map] at e1
      have e2 := congrArg (·.bind asB) e1.2
      refine ⟨fun hc => ?_, fun hc => ?_⟩
      · rw [hc] at e2
        exact nx_fin (if_no e2 rfl) ⟨_, rfl⟩
      · rw [hc] at e2
        exact if_yes e2 rfl) ⟨_, rfl⟩
    rw [Bool.true_and]
    cases ha : qs.all fun q => q.2.all (rulC (qs.map (·.1))) with
    | true =>
      refine rt_for (l2.1 ha) ?_
      rintro ρ ⟨x1, rfl⟩
      rfl
    | false => exact rt_ret (l2.2 ha)
theorem all_same' {α : Type} {p q : α → Bool} : ∀ {xs : List α}, (∀ x ∈ xs, p x = q x) → xs.all p = xs.all q
  | [], _ => rfl
  | x :: xs, h => by rw [List.all_cons, List.all_cons, h x (by simp), all_same' fun y hy => h y (by simp [hy])]
theorem rulC_rulB {ns : List Str} {d : PyData} (h : rulC ns d = true) : rulB d = true := by
  unfold rulC at h
  split at h
  · rename_i t ds
    show (tstB 3 t && (decide (1 ≤ ds.length) && decide (ds.length ≤ 3)) && ds.all deedB) = true
    obtain ⟨h1, h2⟩ := Bool.and_eq_true_iff.mp h
    rw [h1, Bool.true_and]
    exact List.all_eq_true.mpr fun x hx => (Bool.and_eq_true_iff.mp (List.all_eq_true.mp h2 x hx)).1
  · cases h
theorem callB_enc (ns : List Str) (e : Deed) : callB ns e.enc = (!decide (e.word = ("call" : Str)) || decide (e.arg ∈ ns)) := by
  cases e <;> simp [Deed.enc, callB, Deed.word, Deed.arg, ofS_inj]
  exact decide_eq_decide.mpr Iff.rfl
theorem all_filter {α : Type} (p q : α → Bool) : ∀ xs : List α, (xs.filter p).all q = xs.all fun x => !p x || q x
  | [] => rfl
  | x :: xs => by
    rw [List.filter_cons, List.all_cons, ← all_filter p q xs]
    cases p x <;> simp
theorem rulC_enc {ns : List Str} {r : Rul} (h : isRl r = true) (hz : szR r = true) : rulC ns r.enc = callOk ns r := by
  unfold isRl at h
  obtain ⟨h1, h2⟩ := Bool.and_eq_true_iff.mp h
  unfold szR at hz
  show (tstB 3 r.1.enc && (decide (1 ≤ (r.2.map Deed.enc).length) && decide ((r.2.map Deed.enc).length ≤ 3)) && (r.2.map Deed.enc).all fun d => deedB d && callB ns d) = _
  rw [tstB_enc 3 r.1 h1, List.length_map, hz, List.all_map, Bool.true_and, Bool.true_and]
  unfold callOk
  rw [all_filter]
  have := List.all_eq_true.mp h2
  refine all_same' fun d hd => ?_
  show (deedB d.enc && callB ns d.enc) = _
  rw [deedB_enc (this d hd), callB_enc, Bool.true_and]
theorem hd_inj : ∀ {qs : List (Str × List PyData)} {b : Book}, qs.map hdD = b.map partE → qs = b.map fun p => (p.1, p.2.map Rul.enc)
  | [], [], _ => rfl
  | [], _ :: _, h => by cases h
  | _ :: _, [], h => by cases h
  | q :: qs, p :: b, h => by
    simp only [List.map_cons, List.cons.injEq] at h ⊢
    refine ⟨?_, hd_inj h.2⟩
    have h1 : PyData.tuple [.str q.1, .tuple q.2] = PyData.tuple [.str p.1, .tuple (p.2.map Rul.enc)] := h.1
    simp only [PyData.tuple.injEq, List.cons.injEq, PyData.str.injEq, and_true] at h1
    exact Prod.ext h1.1 h1.2
open Classical in
theorem lisb_tot {d : PyData} (h : Wd 59 d) : m_lisb [d] = some (.bool (decide (bookP d))) := by
  by_cases hd : ∃ ps, d = .tuple ps
  · obtain ⟨ps, rfl⟩ := hd
    have noP : ∀ {b : Book}, PyData.tuple ps = b.enc → VB b → (1 ≤ ps.length ∧ ps.length ≤ 3) ∧ ps.all partB' = true := fun {b} e g => by
      obtain ⟨g, _⟩ := g
      rw [enc_map] at e
      cases e
      rw [List.length_map]
      refine ⟨⟨g.l1, g.l3⟩, ?_⟩
      rw [List.all_map]
      exact List.all_eq_true.mpr fun p hp => partB_enc (g.nm.nm p hp) (List.all_eq_true.mp g.sz p hp) (g.nm.rl p hp)
    by_cases hl : 1 ≤ ps.length ∧ ps.length ≤ 3
    · cases ha : ps.all headB with
      | true =>
        obtain ⟨qs, rfl, hq⟩ := list_dec (fun d => head_dec (d := d)) ps ha
        rw [List.length_map] at hl
        rw [lisb_parts hl.1 hl.2 hq h]
        cases hp : (qs.map hdD).all partB' with
        | true =>
          obtain ⟨b, e, g⟩ := parts_dec (by rw [List.length_map]; exact hl.1) (by rw [List.length_map]; exact hl.2) hp
          have e1 := isb_tot h.wf
          rw [e, isb_parts g] at e1
          rw [e, ← e1]
          have eq : qs = b.map fun p => (p.1, p.2.map Rul.enc) := hd_inj (by
            rw [enc_map] at e
            exact PyData.tuple.inj e)
          have en : qs.map (·.1) = b.names := by rw [eq, List.map_map]; rfl
          unfold lbookB tailB
          rw [en]
          congr 3
          rw [eq, List.all_map]
          refine all_same' fun p hp => ?_
          show (p.2.map Rul.enc).all _ = _
          rw [List.all_map]
          have hz := List.all_eq_true.mp g.sz p hp
          unfold szP at hz
          exact all_same' fun r hr => rulC_enc (g.nm.rl p hp r hr) (List.all_eq_true.mp (Bool.and_eq_true_iff.mp hz).2 r hr)
        | false =>
          rw [decide_eq_false fun ⟨b, e, g⟩ => by have := (noP e g).2; rw [hp] at this; cases this]
          congr 2
          cases hb : lbookB qs with
          | false => rfl
          | true =>
            unfold lbookB at hb
            have hb := List.all_eq_true.mp (Bool.and_eq_true_iff.mp hb).2
            rw [List.all_map] at hp
            have : qs.all (partB' ∘ hdD) = true := List.all_eq_true.mpr fun q hq' => by
              show (isNm q.1 && (decide (q.2.length ≤ 4) && q.2.all rulB)) = true
              rw [(hq q hq').1, decide_eq_true (hq q hq').2]
              exact List.all_eq_true.mpr fun r hr => rulC_rulB (List.all_eq_true.mp (hb q hq') r hr)
            rw [this] at hp
            cases hp
      | false =>
        have : ¬ bookP (.tuple ps) := fun ⟨b, e, g⟩ => by
          have h1 := List.all_eq_true.mp (noP e g).2
          have : ps.all headB = true := List.all_eq_true.mpr fun p hp => by
            have := h1 p hp
            unfold partB' at this
            split at this
            · rename_i n rs
              obtain ⟨a, c⟩ := Bool.and_eq_true_iff.mp this
              show (nmB n && decide (rs.length ≤ 4)) = true
              rw [a, (Bool.and_eq_true_iff.mp c).1]
              rfl
            · cases this
          rw [this] at ha
          cases ha
        rw [decide_eq_false this]
        unfold m_lisb
        refine (runD_r (by rfl)).trans ?_
        rw [show startR 4 [.tuple ps] = [.val (.tuple ps), .no, .no, .no] from rfl]
        unfold fb__law_is_book
        refine rt_step (ρ := [.val (.tuple ps), .no, .no, .no]) (if_no (by
          show orB (some false) ((chainD leD leD (some (.int 1)) (some (.int (ps.length : Int))) (some (.int 3))).bind asB |>.map not) = _
          rw [chain_le, decide_eq_true (by omega : (1 : Int) ≤ (ps.length : Int)), decide_eq_true (by omega : (ps.length : Int) ≤ 3)]
          rfl) rfl) ?_
        have l1 := for_all (h := tg1) (is := [1]) (ρ := [.val (.tuple ps), .no, .no, .no]) (body := fb__law_is_book_b1 m_lisn m_lisr) (fun d : PyData => d) (fun d => [d]) (fun ρ => ∃ x1, ρ = [.val (.tuple ps), x1, .no, .no]) headB (.bool false) ps (fun _ _ => rfl) (fun q hq' ρ hρ => by
          obtain ⟨x1, rfl⟩ := hρ
          have := b1_step ((h.t q hq').mono (by decide)) (.val (.tuple ps)) .no .no
          exact ⟨fun z => ⟨_, this.1 z, ⟨_, rfl⟩⟩, fun z => this.2 z⟩) ⟨_, rfl⟩
        rw [id_map] at l1
        exact rt_ret (l1.2 ha)
    · rw [decide_eq_false fun ⟨b, e, g⟩ => hl (noP e g).1]
      unfold m_lisb
      refine (runD_r (by rfl)).trans ?_
      rw [show startR 4 [.tuple ps] = [.val (.tuple ps), .no, .no, .no] from rfl]
      unfold fb__law_is_book
      refine rt_ret (if_yes ?_ rfl)
      show orB (some false) ((chainD leD leD (some (.int 1)) (some (.int (ps.length : Int))) (some (.int 3))).bind asB |>.map not) = _
      have e : (decide ((1 : Int) ≤ (ps.length : Int)) && decide ((ps.length : Int) ≤ 3)) = false := by
        rw [Bool.and_eq_false_iff]
        by_cases h2 : 1 ≤ ps.length
        · exact .inr (decide_eq_false (by omega))
        · exact .inl (decide_eq_false (by omega))
      rw [chain_le, e]
      rfl
  · have no : ¬ bookP d := fun ⟨b, e, _⟩ => hd ⟨_, e⟩
    rw [decide_eq_false no]
    have hwf := h.wf
    cases d with
    | tuple ps => exact (hd ⟨ps, rfl⟩).elim
    | dict _ => cases hwf
    | _ => rfl
end Sv
namespace Sv
open PySem L2 Evl TL
theorem nmOk_iff (s : Str) : nmOk s = true ↔ ∀ c ∈ cpL s, c < 0x110000 := by
  unfold nmOk PyData.strOk cpL
  rw [Array.all_eq_true']
  simp
def dT (ws : List Str) : PyData := .tuple (ws.map .str)
end Sv
namespace Sv
open PySem L2 Evl TL
end Sv
namespace Sv
open PySem L2 Evl TL
structure TxOk (n : Nat) (t : Str) : Prop where
  ok : nmOk t = true
  len : t.length ≤ n
theorem cp_app (a b : Str) : cpL (a ++ b) = cpL a ++ cpL b := by
  show (a.cps ++ b.cps).toList = _
  rw [Array.toList_append]
  rfl
theorem TxOk.app {n m : Nat} {a b : Str} (ha : TxOk n a) (hb : TxOk m b) : TxOk (n + m) (a ++ b) := by
  refine ⟨(nmOk_iff _).mpr fun c hc => ?_, ?_⟩
  · rw [cp_app] at hc
    exact (List.mem_append.mp hc).elim ((nmOk_iff a).mp ha.ok c) ((nmOk_iff b).mp hb.ok c)
  · rw [len_cp, cp_app, List.length_append, ← len_cp, ← len_cp]
    have := ha.len; have := hb.len; omega
theorem TxOk.mono {n m : Nat} {a : Str} (ha : TxOk n a) (h : n ≤ m) : TxOk m a := ⟨ha.ok, Nat.le_trans ha.len h⟩
theorem TxOk.sub {n : Nat} {a b : Str} (ha : TxOk n a) (h : (cpL b).Sublist (cpL a)) : TxOk n b :=
  ⟨(nmOk_iff _).mpr fun c hc => (nmOk_iff a).mp ha.ok c (h.subset hc), by have := h.length_le; rw [← len_cp, ← len_cp] at this; have := ha.len; omega⟩
theorem TxOk.cut {n : Nat} {a : Str} (ha : TxOk n a) (lo hi : Option Int) : TxOk n (cutS a lo hi) := ha.sub (by
  show ((cpL a).drop _ |>.take _ : List Nat).Sublist _
  exact (List.take_sublist _ _).trans (List.drop_sublist _ _))
theorem vb_of {b : Book} (gb' : b.good = true) (hn : NmB b) (hb : isBk b = true) : VB b := by
  have g := Book.good.of gb'
  unfold isBk at hb
  simp only [Bool.and_eq_true, decide_eq_true_eq] at hb
  refine ⟨⟨?_, hb.1.1, hb.1.2, hn⟩, ?_⟩
  · have := g.main
    cases b with
    | nil => cases this
    | cons p b => simp
  · unfold tailB
    simp only [Bool.and_eq_true, decide_eq_true_eq, List.all_eq_true]
    refine ⟨⟨hb.2, g.main⟩, fun p hp r hr => ?_⟩
    unfold callOk
    refine List.all_eq_true.mpr fun d hd => ?_
    obtain ⟨h1, h2⟩ := List.mem_filter.mp hd
    have hw : d.word = "call" := of_decide_eq_true h2
    cases d with
    | call n => exact decide_eq_true (g.cl p hp r hr n h1)
    | _ => exact absurd hw (by simp only [Deed.word]; decide +kernel)
theorem bookN_vb (x : Int) : VB (bookN x) := vb_of (bookN_good x) (bookN_nmb x) (bookN_isBk x)
end Sv
namespace Sv
open PySem L2 Evl
def m_any : List PyData → Option PyData := runD 4 2 (fb__law_any m_drawn)
theorem abc_at : ∀ k ∈ List.range 26, atI abc (k : Int) = some (97 + k) := by decide +kernel
theorem abc_in : ∀ k ∈ List.range 26, 97 + k ∈ abc := by decide +kernel
theorem sign_at (x : Int) : ixD (.str "abcdefghijklmnopqrstuvwxyz") (.int (x % 26)) = some (.str (SX.S [97 + (x % 26).toNat])) := by
  have h : (x % 26).toNat ∈ List.range 26 := List.mem_range.mpr (by omega)
  have e := abc_at _ h
  rw [Int.toNat_of_nonneg (by omega)] at e
  unfold ixD
  dsimp only
  rw [show (Str.ofString "abcdefghijklmnopqrstuvwxyz").cps.toList = abc from rfl, e, if_pos (by decide +kernel)]
  rfl
theorem any_ok (x : Int) : ∃ s, m_any [.int x, .int 5] = some (.str s) ∧ isNm s = true := by
  have hn : (0 : Int) ≤ 1 + x % 5 ∧ 1 + x % 5 ≤ 5 := by omega
  let f : Nat → Nat := fun k => 97 + (drawnN x (70 + (k : Int)) / 4 % 26).toNat
  have hf : ∀ k, f k ∈ abc := fun k => abc_in _ (List.mem_range.mpr (by omega))
  refine ⟨SX.S (((List.range (1 + x % 5).toNat).map fun k => [f k]).flatten), ?_, ?_⟩
  · unfold m_any
    refine (runD_r (by rfl)).trans ?_
    rw [show startR 4 [.int x, .int 5] = [.val (.int x), .val (.int 5), .no, .no] from rfl]
    unfold fb__law_any
    refine rt_step (ρ := [.val (.int x), .val (.int 5), .val (.str "abcdefghijklmnopqrstuvwxyz"), .no]) rfl ?_
    have e := compL_map (h := tg1) (is := [3]) (vs := [3]) (ρ := [.val (.int x), .val (.int 5), .val (.str "abcdefghijklmnopqrstuvwxyz"), .no]) (fe := fun ρ => bnd2 (gb 2 ρ) (bnd2 (bnd2 (((bnd2 (gv 0 ρ) ((bnd2 (bnd2 (some (.int 70)) (gb 3 ρ) addD) (some []) consD)) consD)).bind m_drawn) (some (.int 4)) fdivD) (some (.int 26)) modD) ixD) (fun i : Nat => PyData.int (i : Int)) (fun i => [.int (i : Int)]) (fun i => .str (SX.S [f i])) (List.range (1 + x % 5).toNat) (by rw [List.length_range]; omega) (fun _ _ => rfl) (fun i _ => by
      simp only [gv_0, gv_s, gb_0, gb_s, scr_0, bnd2_ss, consD_, tupD_, lstD_, asgR_s, seqR_nx, seqR_ret, ifR_t, ifR_f, retR_s, retD_s, asB_b, asI_i, addD_ii, subD_ii, modD_ii, gtD_ii, geD_ii, leD_ii, ltD_ii, eqD_ii, eqD_ss, neD_ss, neD_ii, neD_bb, ixD_t, ixD_l, andB_t, andB_f, orB_t, orB_f, notV_b, mixR_, setsR_nil, setsR_cons, tg1_, tgT_1, tgT_2, tgT_4, asgG_u, walkD_t, walkD_l, tupleD_l, tupleD_t, listD_l, listD_t, lenD_t, lenD_l, wipeR_nil, wipeR_cons, Option.bind_some, Option.map_some, List.set_cons_zero, List.set_cons_succ, List.length_cons, List.length_nil, Nat.zero_add, Nat.reduceAdd, Nat.reduceLeDiff, Int.reduceAdd, Int.reduceLE, Int.reduceLT, Int.reduceNeg, Int.reduceSub, Int.reduceMul, Int.reduceEq, Bool.not_true, Bool.not_false, decide_true, decide_false, atI_0, atI_1, atI_2, atI_3, Int.reduceToNat, drawn_eq]
      rw [fdivD_ii _ _ (cdiv (by decide)), bnd2_ss, modD_ii _ _ (by decide), bnd2_ss]
      exact sign_at _)
    have e2 : (((bnd2 (bnd2 (some (.int 1)) (bnd2 (some (.int x)) (some (.int 5)) modD) addD) (some []) consD)).bind rng1D) = some ((List.range (1 + x % 5).toNat).map fun (i : Nat) => PyData.int (i : Int)) := by
      rw [bnd2_ss, modD_ii _ _ (by decide), bnd2_ss]
      exact rng1_n _ ⟨hn.1, by omega⟩
    show retD (retR (bnd2 (some (.str "")) (compL (((bnd2 (bnd2 (some (.int 1)) (bnd2 (some (.int x)) (some (.int 5)) modD) addD) (some []) consD)).bind rng1D) _ _ _ _ _ _) (m1D joinG))) = _
    rw [e2, e, bnd2_ss]
    have e3 : (List.range (1 + x % 5).toNat).map (fun i => PyData.str (SX.S [f i])) = (((List.range (1 + x % 5).toNat).map fun k => [f k]).map SX.S).map .str := by rw [List.map_map, List.map_map]; rfl
    rw [e3]
    show retD (retR (joinG "" (.list _))) = _
    unfold joinG itD
    rw [Option.bind_some, strsO_map, Option.bind_some, if_pos, join_empty]
    · rfl
    · have h1 := sum_le (ns := (((List.range (1 + x % 5).toNat).map fun k => [f k]).map SX.S).map (·.length)) (c := 1) fun n hn => by
        rw [List.map_map, List.map_map] at hn
        obtain ⟨k, _, rfl⟩ := List.mem_map.mp hn
        exact Nat.le_refl 1
      simp only [List.length_map, List.length_range] at h1
      have : ∀ n : Nat, n * Str.length "" = 0 := fun n => by rw [show Str.length ("" : Str) = 0 from rfl, Nat.mul_zero]
      rw [this]
      omega
  · have hl : (((List.range (1 + x % 5).toNat).map fun k => [f k]).flatten).length = (1 + x % 5).toNat := by
      rw [List.length_flatten, List.map_map]
      have : (List.range (1 + x % 5).toNat).map (List.length ∘ fun k => [f k]) = List.replicate (1 + x % 5).toNat 1 := by
        rw [List.eq_replicate_iff]
        exact ⟨by simp, fun b hb => by obtain ⟨k, _, rfl⟩ := List.mem_map.mp hb; rfl⟩
      rw [this]
      simp
    unfold isNm
    rw [S_len, hl, decide_eq_true (by omega : 1 ≤ (1 + x % 5).toNat), decide_eq_true (by omega : (1 + x % 5).toNat ≤ 5)]
    refine List.all_eq_true.mpr fun c hc => decide_eq_true ?_
    have hc : c ∈ ((List.range (1 + x % 5).toNat).map fun k => [f k]).flatten := by simpa [SX.S] using hc
    obtain ⟨l, hl, hc⟩ := List.mem_flatten.mp hc
    obtain ⟨k, _, rfl⟩ := List.mem_map.mp hl
    rw [List.mem_singleton.mp hc]
    exact hf k
mutual
def swD (σ : Str → Str) : PyData → PyData
  | .tuple xs => .tuple (swL σ xs)
  | .str s => .str (σ s)
  | .none => .none
  | .bool b => .bool b
  | .int n => .int n
  | .list xs => .list xs
  | .dict kv => .dict kv
def swL (σ : Str → Str) : List PyData → List PyData
  | [] => []
  | x :: xs => swD σ x :: swL σ xs
end
theorem swL_map (σ : Str → Str) : ∀ xs, swL σ xs = xs.map (swD σ)
  | [] => by simp [swL]
  | x :: xs => by simp [swL, swL_map σ xs]
theorem swD_t (σ : Str → Str) (xs : List PyData) : swD σ (.tuple xs) = .tuple (xs.map (swD σ)) := by simp only [swD, swL_map]
def m_sw : Nat → List PyData → Option PyData := itm fun m => runD 3 2 (fb__law_swapped m)
theorem m_sw_s (n : Nat) (ds : List PyData) : m_sw (n + 1) ds = runD 3 2 (fb__law_swapped (m_sw n)) ds := rfl
/-- no list, no dict in it, and no tuple too long -/
def tsi : Nat → PyData → Bool
  | 0, _ => false
  | n + 1, .tuple xs => decide (xs.length ≤ 1000) && xs.all (tsi n)
  | _ + 1, .str _ => true
  | _ + 1, .int _ => true
  | _ + 1, _ => false
theorem sw_eq {B : PyData} {σ : Str → Str} (hB : ∀ s, getD2 B (.str s) (.str s) = some (.str (σ s))) : ∀ (n : Nat) (d : PyData), tsi n d = true → m_sw n [d, B] = some (swD σ d)
  | 0, d, h => by cases h
  | n + 1, d, h => by
    rw [m_sw_s]
    refine (runD_r (by rfl)).trans ?_
    rw [show startR 3 [d, B] = [.val d, .val B, .no] from rfl]
    unfold fb__law_swapped
    cases d with
    | tuple xs =>
      unfold tsi at h
      obtain ⟨h1, h2⟩ := Bool.and_eq_true_iff.mp h
      refine rt_ret (if_yes rfl ?_)
      have e := compL_map (h := tg1) (is := [2]) (vs := [2]) (ρ := [.val (.tuple xs), .val B, .no]) (fe := fun ρ => ((bnd2 (gv 2 ρ) ((bnd2 (gv 1 ρ) (some []) consD)) consD)).bind (m_sw n)) (fun d : PyData => d) (fun d => [d]) (swD σ) xs (of_decide_eq_true h1) (fun _ _ => rfl) (fun x hx => sw_eq hB n x (List.all_eq_true.mp h2 x hx))
      rw [id_map] at e
      show retR ((compL (some xs) _ _ _ _ _ _).bind tupleD) = _
      rw [e, swD_t]
      rfl
    | str s =>
      refine rt_step (ρ := [.val (.str s), .val B, .no]) (if_no rfl rfl) ?_
      refine rt_ret (if_yes rfl ?_)
      show retR (getD2 B (.str s) (.str s)) = _
      rw [hB, swD]
      rfl
    | int k => rw [swD]; rfl
    | _ => cases h
end Sv
namespace Sv
open PySem L2 Evl
def txS (s : Str) : Bool := nmOk s && decide (s.length ≤ 1000)
/-- tuples, texts and numbers -/
def okI : Nat → PyData → Bool
  | 0, _ => false
  | n + 1, .tuple xs => decide (xs.length ≤ 100) && xs.all (okI n)
  | _ + 1, .str s => txS s
  | _ + 1, .int k => decide (0 ≤ k) && decide (k ≤ 999)
  | _ + 1, _ => false
theorem okS_nm {s : Str} (h : isNm s = true) : txS s = true := by
  unfold txS
  rw [isNm_ok h]
  unfold isNm at h
  simp only [Bool.and_eq_true, decide_eq_true_eq] at h
  simp only [Bool.true_and, decide_eq_true_eq]
  omega
theorem okI_t {n : Nat} {xs : List PyData} (h : okI (n + 1) (.tuple xs) = true) : xs.length ≤ 100 ∧ ∀ x ∈ xs, okI n x = true := by
  unfold okI at h
  obtain ⟨h1, h2⟩ := Bool.and_eq_true_iff.mp h
  exact ⟨of_decide_eq_true h1, List.all_eq_true.mp h2⟩
theorem okI_tuple {n : Nat} {xs : List PyData} (hl : xs.length ≤ 100) (h : ∀ x ∈ xs, okI n x = true) : okI (n + 1) (.tuple xs) = true := by
  unfold okI
  rw [decide_eq_true hl]
  exact List.all_eq_true.mpr h
theorem okI_wd : ∀ {n : Nat} {d : PyData}, okI n d = true → Wd n d
  | 0, d, h => by cases h
  | n + 1, .tuple xs, h => Wd.tuple fun x hx => okI_wd ((okI_t h).2 x hx)
  | n + 1, .str s, h => by
    obtain ⟨h1, h2⟩ := Bool.and_eq_true_iff.mp (show (nmOk s && decide (s.length ≤ 1000)) = true from h)
    exact ⟨wf_str h1 (Nat.le_trans (of_decide_eq_true h2) (by decide)), Nat.zero_le _⟩
  | n + 1, .int k, h => ⟨rfl, Nat.zero_le _⟩
  | n + 1, .none, h => by cases h
  | n + 1, .bool _, h => by cases h
  | n + 1, .list _, h => by cases h
  | n + 1, .dict _, h => by cases h
theorem okI_tsi : ∀ {n : Nat} {d : PyData}, okI n d = true → tsi n d = true
  | 0, d, h => by cases h
  | n + 1, .tuple xs, h => by
    obtain ⟨h1, h2⟩ := okI_t h
    unfold tsi
    rw [decide_eq_true (by omega)]
    exact List.all_eq_true.mpr fun x hx => okI_tsi (h2 x hx)
  | n + 1, .str s, h => rfl
  | n + 1, .int k, h => rfl
  | n + 1, .none, h => by cases h
  | n + 1, .bool _, h => by cases h
  | n + 1, .list _, h => by cases h
  | n + 1, .dict _, h => by cases h
theorem okI_mono : ∀ {n m : Nat} {d : PyData}, okI n d = true → n ≤ m → okI m d = true
  | 0, _, d, h, _ => by cases h
  | n + 1, 0, _, _, hm => absurd hm (by omega)
  | n + 1, m + 1, .tuple xs, h, hm => okI_tuple (okI_t h).1 fun x hx => okI_mono ((okI_t h).2 x hx) (by omega)
  | n + 1, m + 1, .str s, h, _ => h
  | n + 1, m + 1, .int k, h, _ => h
  | n + 1, m + 1, .none, h, _ => by cases h
  | n + 1, m + 1, .bool _, h, _ => by cases h
  | n + 1, m + 1, .list _, h, _ => by cases h
  | n + 1, m + 1, .dict _, h, _ => by cases h
theorem okI_sw {σ : Str → Str} (hσ : ∀ s, txS s = true → txS (σ s) = true) : ∀ {n : Nat} {d : PyData}, okI n d = true → okI n (swD σ d) = true
  | 0, d, h => by cases h
  | n + 1, .tuple xs, h => by
    rw [swD_t]
    refine okI_tuple (by rw [List.length_map]; exact (okI_t h).1) fun x hx => ?_
    obtain ⟨y, hy, rfl⟩ := List.mem_map.mp hx
    exact okI_sw hσ ((okI_t h).2 y hy)
  | n + 1, .str s, h => by rw [swD]; exact hσ s h
  | n + 1, .int k, h => by rw [swD]; exact h
  | n + 1, .none, h => by cases h
  | n + 1, .bool _, h => by cases h
  | n + 1, .list _, h => by cases h
  | n + 1, .dict _, h => by cases h
theorem okI_str {n : Nat} {s : Str} (h : txS s = true) : okI (n + 1) (.str s) = true := h
theorem okI_2 {n : Nat} {a b : PyData} (ha : okI n a = true) (hb : okI n b = true) : okI (n + 1) (.tuple [a, b]) = true := okI_tuple (by simp) fun x hx => by
  simp only [List.mem_cons, List.not_mem_nil, or_false] at hx
  rcases hx with rfl | rfl <;> assumption
theorem okI_1 {n : Nat} {a : PyData} (ha : okI n a = true) : okI (n + 1) (.tuple [a]) = true := okI_tuple (by simp) fun x hx => by
  rw [List.mem_singleton.mp hx]; exact ha
theorem okI_3 {n : Nat} {a b c : PyData} (ha : okI n a = true) (hb : okI n b = true) (hc : okI n c = true) : okI (n + 1) (.tuple [a, b, c]) = true := okI_tuple (by simp) fun x hx => by
  simp only [List.mem_cons, List.not_mem_nil, or_false] at hx
  rcases hx with rfl | rfl | rfl <;> assumption
theorem okS_kw : ∀ w ∈ (["from", "word", "marked", "over", "yes", "not", "both", "either", "drop", "stop", "lay", "send", "answer", "mark", "unmark", "call", "main", "z", "y", "a"] : List Str), txS w = true := by decide +kernel
theorem okI_tst : ∀ (n : Nat) (t : Tst), isT n t = true → okI (n + 1) t.enc = true
  | 0, t, h => by cases h
  | n + 1, t, h => by
    have kw := okS_kw
    cases t with
    | frm s => exact okI_2 (okI_str (kw _ (by simp))) (okI_str (okS_nm h))
    | word s => exact okI_2 (okI_str (kw _ (by simp))) (okI_str (okS_nm h))
    | marked s => exact okI_2 (okI_str (kw _ (by simp))) (okI_str (okS_nm h))
    | over k => exact okI_2 (okI_str (kw _ (by simp))) (by simpa [isT, okI] using h)
    | yes => exact okI_1 (okI_str (kw _ (by simp)))
    | not t => exact okI_2 (okI_str (kw _ (by simp))) (okI_tst n t h)
    | both a b =>
      simp only [isT, Bool.and_eq_true] at h
      exact okI_3 (okI_str (kw _ (by simp))) (okI_tst n a h.1) (okI_tst n b h.2)
    | either a b =>
      simp only [isT, Bool.and_eq_true] at h
      exact okI_3 (okI_str (kw _ (by simp))) (okI_tst n a h.1) (okI_tst n b h.2)
theorem okI_deed {e : Deed} (h : e.nm.all isNm = true) : okI 2 e.enc = true := by
  have kw := okS_kw
  cases e with
  | drop => exact okI_1 (okI_str (kw _ (by simp)))
  | stop => exact okI_1 (okI_str (kw _ (by simp)))
  | _ s =>
    have hs : isNm s = true := by simpa [Deed.nm] using h
    exact okI_2 (okI_str (kw _ (by simp))) (okI_str (okS_nm hs))
theorem okI_rul {r : Rul} (h : isRl r = true) (hz : szR r = true) : okI 5 r.enc = true := by
  unfold isRl at h
  obtain ⟨h1, h2⟩ := Bool.and_eq_true_iff.mp h
  unfold szR at hz
  have hz := of_decide_eq_true (Bool.and_eq_true_iff.mp hz).2
  refine okI_2 (okI_tst 3 r.1 h1) (okI_tuple (by rw [List.length_map]; omega) fun x hx => ?_)
  obtain ⟨e, he, rfl⟩ := List.mem_map.mp hx
  exact okI_mono (okI_deed (List.all_eq_true.mp h2 e he)) (by decide)
theorem PB.okI {b : Book} (g : PB b) : okI 8 b.enc = true := by
  rw [enc_map]
  refine okI_tuple (by rw [List.length_map]; have := g.l3; omega) fun x hx => ?_
  obtain ⟨p, hp, rfl⟩ := List.mem_map.mp hx
  have hz := List.all_eq_true.mp g.sz p hp
  unfold szP at hz
  obtain ⟨h1, h2⟩ := Bool.and_eq_true_iff.mp hz
  refine okI_2 (okI_str (okS_nm (g.nm.nm p hp))) (okI_tuple (by rw [List.length_map]; have := of_decide_eq_true h1; omega) fun x hx => ?_)
  obtain ⟨r, hr, rfl⟩ := List.mem_map.mp hx
  exact okI_rul (g.nm.rl p hp r hr) (List.all_eq_true.mp h2 r hr)
theorem okI_strs {n : Nat} {ss : List Str} (hl : ss.length ≤ 100) (h : ∀ s ∈ ss, txS s = true) : okI (n + 2) (.tuple (ss.map .str)) = true := okI_tuple (by rw [List.length_map]; exact hl) fun x hx => by
  obtain ⟨s, hs, rfl⟩ := List.mem_map.mp hx
  exact h s hs
theorem okI_4 {n : Nat} {a b c d : PyData} (ha : okI n a = true) (hb : okI n b = true) (hc : okI n c = true) (hd : okI n d = true) : okI (n + 1) (.tuple [a, b, c, d]) = true := okI_tuple (by simp) fun x hx => by
  simp only [List.mem_cons, List.not_mem_nil, or_false] at hx
  rcases hx with rfl | rfl | rfl | rfl <;> assumption
theorem okI_letter (x : Int) : okI 3 (letterN x).enc = true := by
  have k1 : txS (pk3 "ann" "bob" "cy" x) = true := by unfold pk3; split <;> (try split) <;> decide +kernel
  have k2 : (wordsN x).length ≤ 100 ∧ ∀ s ∈ wordsN x, txS s = true := by
    unfold wordsN
    split <;> split <;> split <;> decide +kernel
  have k3 : (marksN x).length ≤ 100 ∧ ∀ s ∈ marksN x, txS s = true := by
    unfold marksN
    split <;> split <;> split <;> decide +kernel
  have k4 : 0 ≤ (letterN x).size ∧ (letterN x).size ≤ 999 := by
    show 0 ≤ pk6 0 10 11 500 501 999 (x / 512) ∧ pk6 0 10 11 500 501 999 (x / 512) ≤ 999
    unfold pk6
    repeat' split
    all_goals decide
  refine okI_4 (okI_str k1) (okI_strs k2.1 k2.2) ?_ (okI_strs k3.1 k3.2)
  show (decide _ && decide _) = true
  rw [decide_eq_true k4.1, decide_eq_true k4.2]
  rfl
mutual
theorem alike_self : ∀ d : PyData, wf d = true → PySem.W.alike d d = true
  | .none, _ => by simp [PySem.W.alike]
  | .bool _, _ => by simp [PySem.W.alike]
  | .int _, _ => by simp [PySem.W.alike]
  | .str _, _ => by simp [PySem.W.alike]
  | .list xs, h => by simp only [PySem.W.alike]; exact alike_selfL xs (by simpa only [wf] using h)
  | .tuple xs, h => by simp only [PySem.W.alike]; exact alike_selfL xs (by simpa only [wf] using h)
  | .dict _, h => by cases h
theorem alike_selfL : ∀ xs : List PyData, wfL xs = true → PySem.W.alikeAll xs xs = true
  | [], _ => by simp [PySem.W.alikeAll]
  | x :: xs, h => by
    simp only [wfL, Bool.and_eq_true] at h
    simp only [PySem.W.alikeAll, Bool.and_eq_true]
    exact ⟨alike_self x h.1, alike_selfL xs h.2⟩
end
theorem cmpWL_cons {x y : PyData} {xs ys : List PyData} (h1 : cmpW x y = true) (h2 : cmpWL xs ys = true) : cmpWL (x :: xs) (y :: ys) = true := by
  unfold cmpWL
  split
  · exact h2
  · exact h1
theorem cmpWL_nil (ys : List PyData) : cmpWL [] ys = true := by unfold cmpWL; cases ys <;> rfl
theorem cmpWL_all : ∀ {xs ys : List PyData}, (∀ x ∈ xs, ∀ y ∈ ys, cmpW x y = true) → cmpWL xs ys = true
  | [], ys, _ => cmpWL_nil ys
  | x :: xs, [], _ => by unfold cmpWL; rfl
  | x :: xs, y :: ys, h => cmpWL_cons (h x (by simp) y (by simp)) (cmpWL_all fun a ha b hb => h a (by simp [ha]) b (by simp [hb]))
theorem cmpW_t {xs ys : List PyData} (h : cmpWL xs ys = true) : cmpW (.tuple xs) (.tuple ys) = true := by unfold cmpW; exact h
theorem cmpW_s (a b : Str) : cmpW (.str a) (.str b) = true := by unfold cmpW; rfl
theorem cmp_tag {w v : Str} {r r' : List PyData} (h : w = v → cmpWL r r' = true) : cmpW (.tuple (.str w :: r)) (.tuple (.str v :: r')) = true := by
  refine cmpW_t ?_
  unfold cmpWL
  split
  · rename_i e
    exact h (by simpa [PyData.eqv] using e)
  · exact cmpW_s w v
end Sv
namespace Sv
open PySem L2 Evl
def Tst.hdW : Tst → Str
  | .frm _ => "from"
  | .word _ => "word"
  | .marked _ => "marked"
  | .over _ => "over"
  | .yes => "yes"
  | .not _ => "not"
  | .both _ _ => "both"
  | .either _ _ => "either"
def Tst.tlW (σ : Str → Str) : Tst → List PyData
  | .frm s => [.str (σ s)]
  | .word s => [.str (σ s)]
  | .marked s => [.str (σ s)]
  | .over k => [.int k]
  | .yes => []
  | .not t => [swD σ t.enc]
  | .both a b => [swD σ a.enc, swD σ b.enc]
  | .either a b => [swD σ a.enc, swD σ b.enc]
theorem tst_sw (σ : Str → Str) (t : Tst) : swD σ t.enc = .tuple (.str (σ t.hdW) :: t.tlW σ) := by
  cases t <;> simp only [Tst.enc, swD, swL, Tst.hdW, Tst.tlW]
def tstW : List Str := ["from", "word", "marked", "over", "yes", "not", "both", "either"]
theorem hd_in (t : Tst) : t.hdW ∈ tstW := by
  cases t <;> simp [Tst.hdW, tstW]
theorem cmpW_i (a b : Int) : cmpW (.int a) (.int b) = true := by unfold cmpW; rfl
theorem cmp_tst {σ : Str → Str} (hk : ∀ w ∈ tstW, σ w = w) (t u : Tst) : cmpW (swD σ t.enc) (swD σ u.enc) = true := by
  induction t generalizing u with
  | frm s =>
    rw [tst_sw, tst_sw, hk _ (hd_in _), hk _ (hd_in _)]
    refine cmp_tag fun e => ?_
    cases u <;> first | exact cmpWL_cons (cmpW_s _ _) (cmpWL_nil _) | exact absurd e (by simp [Tst.hdW, ofS_inj])
  | word s =>
    rw [tst_sw, tst_sw, hk _ (hd_in _), hk _ (hd_in _)]
    refine cmp_tag fun e => ?_
    cases u <;> first | exact cmpWL_cons (cmpW_s _ _) (cmpWL_nil _) | exact absurd e (by simp [Tst.hdW, ofS_inj])
  | marked s =>
    rw [tst_sw, tst_sw, hk _ (hd_in _), hk _ (hd_in _)]
    refine cmp_tag fun e => ?_
    cases u <;> first | exact cmpWL_cons (cmpW_s _ _) (cmpWL_nil _) | exact absurd e (by simp [Tst.hdW, ofS_inj])
  | over k =>
    rw [tst_sw, tst_sw, hk _ (hd_in _), hk _ (hd_in _)]
    refine cmp_tag fun e => ?_
    cases u <;> first | exact cmpWL_cons (cmpW_i _ _) (cmpWL_nil _) | exact absurd e (by simp [Tst.hdW, ofS_inj])
  | yes =>
    rw [tst_sw, tst_sw, hk _ (hd_in _), hk _ (hd_in _)]
    exact cmp_tag fun e => cmpWL_nil _
  | not t ih =>
    rw [tst_sw, tst_sw, hk _ (hd_in _), hk _ (hd_in _)]
    refine cmp_tag fun e => ?_
    cases u <;> first | exact cmpWL_cons (ih _) (cmpWL_nil _) | exact absurd e (by simp [Tst.hdW, ofS_inj])
  | both a b i1 i2 =>
    rw [tst_sw, tst_sw, hk _ (hd_in _), hk _ (hd_in _)]
    refine cmp_tag fun e => ?_
    cases u <;> first | exact cmpWL_cons (i1 _) (cmpWL_cons (i2 _) (cmpWL_nil _)) | exact absurd e (by simp [Tst.hdW, ofS_inj])
  | either a b i1 i2 =>
    rw [tst_sw, tst_sw, hk _ (hd_in _), hk _ (hd_in _)]
    refine cmp_tag fun e => ?_
    cases u <;> first | exact cmpWL_cons (i1 _) (cmpWL_cons (i2 _) (cmpWL_nil _)) | exact absurd e (by simp [Tst.hdW, ofS_inj])
theorem deed_sw (σ : Str → Str) (d : Deed) : ∃ w, swD σ d.enc = .tuple [.str w] ∨ ∃ v, swD σ d.enc = .tuple [.str w, .str v] := by
  cases d with
  | drop => exact ⟨_, .inl (by simp only [Deed.enc, swD, swL]; rfl)⟩
  | stop => exact ⟨_, .inl (by simp only [Deed.enc, swD, swL]; rfl)⟩
  | _ s => exact ⟨_, .inr ⟨σ s, by simp only [Deed.enc, swD, swL]; rfl⟩⟩
theorem cmp_deed (σ : Str → Str) (d e : Deed) : cmpW (swD σ d.enc) (swD σ e.enc) = true := by
  obtain ⟨w, h | ⟨v, h⟩⟩ := deed_sw σ d <;> obtain ⟨w', h' | ⟨v', h'⟩⟩ := deed_sw σ e <;> rw [h, h']
  · exact cmp_tag fun _ => cmpWL_nil _
  · exact cmp_tag fun _ => cmpWL_nil _
  · exact cmp_tag fun _ => by unfold cmpWL; rfl
  · exact cmp_tag fun _ => cmpWL_cons (cmpW_s _ _) (cmpWL_nil _)
theorem sw_map {α : Type} (σ : Str → Str) (f : α → PyData) (xs : List α) : swD σ (.tuple (xs.map f)) = .tuple (xs.map fun x => swD σ (f x)) := by rw [swD_t, List.map_map]; rfl
theorem cmp_map {α : Type} (f : α → PyData) (h : ∀ x y, cmpW (f x) (f y) = true) (xs ys : List α) : cmpW (.tuple (xs.map f)) (.tuple (ys.map f)) = true := cmpW_t (cmpWL_all fun a ha b hb => by
  obtain ⟨x, _, rfl⟩ := List.mem_map.mp ha
  obtain ⟨y, _, rfl⟩ := List.mem_map.mp hb
  exact h x y)
theorem cmp_rul {σ : Str → Str} (hk : ∀ w ∈ tstW, σ w = w) (r s : Rul) : cmpW (swD σ r.enc) (swD σ s.enc) = true := by
  unfold Rul.enc
  rw [swD_t, swD_t]
  refine cmpW_t (cmpWL_cons (cmp_tst hk _ _) (cmpWL_cons ?_ (cmpWL_nil _)))
  rw [sw_map, sw_map]
  exact cmp_map _ (fun x y => cmp_deed σ x y) _ _
theorem cmp_part {σ : Str → Str} (hk : ∀ w ∈ tstW, σ w = w) (p q : Str × List Rul) : cmpW (swD σ (partE p)) (swD σ (partE q)) = true := by
  unfold partE rulesD
  rw [swD_t, swD_t]
  refine cmpW_t (cmpWL_cons ?_ (cmpWL_cons ?_ (cmpWL_nil _)))
  · rw [swD, swD]; exact cmpW_s _ _
  · rw [sw_map, sw_map]
    exact cmp_map _ (fun x y => cmp_rul hk x y) _ _
/-- sorted(swapped book) -/
theorem sort_book {σ : Str → Str} (hk : ∀ w ∈ tstW, σ w = w) (hσ : ∀ s, txS s = true → txS (σ s) = true) {b : Book} (g : PB b) : ∃ ds, (sortV (swD σ b.enc)).bind tupleD = some (.tuple ds) ∧ okI 8 (.tuple ds) = true := by
  have ok := okI_sw hσ g.okI
  rw [enc_map, sw_map] at ok ⊢
  refine ⟨(b.map fun p => swD σ (partE p)).mergeSort leW, ?_, ?_⟩
  · unfold sortV
    dsimp only
    rw [if_pos]
    · rfl
    rw [Bool.or_eq_true]
    left
    unfold wokD
    rw [Bool.and_eq_true]
    refine ⟨List.all_eq_true.mpr fun d hd => ?_, big_len (by rw [List.length_map]; have := g.l3; omega)⟩
    have wd := okI_wd ((okI_t ok).2 d hd)
    obtain ⟨p, hp, rfl⟩ := List.mem_map.mp hd
    rw [wf_lay _ wd.wf, alike_self _ wd.wf, decide_eq_true (Nat.le_trans wd.dep (by decide))]
    rw [show isPrW (swD σ (partE p)) = true by
      unfold partE
      rw [swD_t]
      simp only [List.map_cons, List.map_nil, swD]
      rfl]
    refine List.all_eq_true.mpr fun e he => ?_
    obtain ⟨q, hq, rfl⟩ := List.mem_map.mp he
    exact cmp_part hk p q
  · have hp := List.mergeSort_perm (b.map fun p => swD σ (partE p)) leW
    exact okI_tuple (by rw [hp.length_eq]; exact (okI_t ok).1) fun x hx => (okI_t ok).2 x (hp.mem_iff.mp hx)
theorem sortV_strs {ss : List Str} (hl : ss.length ≤ 100) : ∃ ts : List PyData, (sortV (.tuple (ss.map .str))).bind tupleD = some (.tuple ts) ∧ ts.Perm (ss.map .str) := by
  refine ⟨(ss.map PyData.str).mergeSort leW, ?_, List.mergeSort_perm _ _⟩
  unfold sortV
  dsimp only
  rw [if_pos]
  · rfl
  rw [sok_str (by omega), Bool.or_true]
end Sv
namespace Sv
open PySem L2 Evl
theorem num_txt : ∀ k ∈ List.range 1000, txS (numS (k : Int)) = true := by decide +kernel
theorem str_num {n : Int} (h : 0 ≤ n ∧ n ≤ 999) : ∃ s, strD (.int n) = some (.str s) ∧ txS s = true := by
  refine ⟨numS n, ?_, ?_⟩
  · unfold strD
    dsimp only
    rw [if_pos]
    · rfl
    · by_cases h0 : n.natAbs = 0
      · rw [h0]; decide
      · have h2 := (Nat.log2_lt (n := n.natAbs) (k := 11) h0).mpr (by omega)
        omega
  · have := num_txt n.toNat (List.mem_range.mpr (by omega))
    rwa [Int.toNat_of_nonneg h.1] at this
theorem atI_in {α : Type} {xs : List α} {i : Int} (h0 : 0 ≤ i) (h : i < xs.length) : ∃ x ∈ xs, atI xs i = some x := by
  have hl : i.toNat < xs.length := by omega
  have e := atI_nat (xs := xs) (j := i.toNat) (List.getElem?_eq_getElem hl)
  rw [Int.toNat_of_nonneg h0] at e
  exact ⟨_, List.getElem_mem hl, e⟩
theorem cut_mem {α : Type} {xs : List α} {lo hi : Option Int} {x : α} (h : x ∈ cutL xs lo hi) : x ∈ xs := List.mem_of_mem_drop (List.mem_of_mem_take h)
theorem cut_len {α : Type} (xs : List α) (lo hi : Option Int) : (cutL xs lo hi).length ≤ xs.length := by
  unfold cutL
  rw [List.length_take, List.length_drop]
  omega
theorem ixdm (x : Int) (a b : Int) (ha : 0 < a ∧ a < 1073741824) (hb : 0 < b) : bnd2 (bnd2 (some (.int x)) (some (.int a)) fdivD) (some (.int b)) modD = some (.int (x / a % b)) := by
  rw [bnd2_ss, fdivD_ii _ _ (cdiv ha), bnd2_ss, modD_ii _ _ hb]
def m_edges : List PyData → Option PyData := runD 7 1 (fb__law_edges m_drawn)
theorem wd_kw {n : Nat} {s : Str} (h : txS s = true) : Wd n (.str s) := ⟨(okI_wd (n := 1) (d := .str s) h).wf, Nat.zero_le _⟩
theorem wd_of {n : Nat} {d : PyData} (h : (wf d && decide (d.depth ≤ n)) = true) : Wd n d := ⟨(Bool.and_eq_true_iff.mp h).1, of_decide_eq_true (Bool.and_eq_true_iff.mp h).2⟩
theorem wd_t2 {n : Nat} {a b : PyData} (ha : Wd n a) (hb : Wd n b) : Wd (n + 1) (.tuple [a, b]) := Wd.tuple fun x hx => by
  simp only [List.mem_cons, List.not_mem_nil, or_false] at hx
  rcases hx with rfl | rfl <;> assumption
theorem wd_t1 {n : Nat} {a : PyData} (ha : Wd n a) : Wd (n + 1) (.tuple [a]) := Wd.tuple fun x hx => by
  rw [List.mem_singleton.mp hx]; exact ha
theorem wd_t3 {n : Nat} {a b c : PyData} (ha : Wd n a) (hb : Wd n b) (hc : Wd n c) : Wd (n + 1) (.tuple [a, b, c]) := Wd.tuple fun x hx => by
  simp only [List.mem_cons, List.not_mem_nil, or_false] at hx
  rcases hx with rfl | rfl | rfl <;> assumption
theorem wd_t4 {n : Nat} {a b c d : PyData} (ha : Wd n a) (hb : Wd n b) (hc : Wd n c) (hd : Wd n d) : Wd (n + 1) (.tuple [a, b, c, d]) := Wd.tuple fun x hx => by
  simp only [List.mem_cons, List.not_mem_nil, or_false] at hx
  rcases hx with rfl | rfl | rfl | rfl <;> assumption
theorem edge_txt (x : Int) : txS (cutS "abcdefg" none (some (4 + x % 3))) = true := by
  have h : x % 3 = 0 ∨ x % 3 = 1 ∨ x % 3 = 2 := by omega
  rcases h with h | h | h <;> rw [h] <;> decide +kernel
theorem edge_in {y : Int} (n : Nat) {t : PyData} (ht : Wd n t) : ∃ r, ixD (.tuple [.tuple [.str "not", t], .tuple [.str "both", t, .tuple [.str "yes"]], .tuple [.str "either", .tuple [.str "yes"], t], .tuple [.str "both", .tuple [.str "yes"], t]]) (.int (y % 4)) = some r ∧ Wd (n + 3) r := by
  obtain ⟨r, hr, e⟩ := atI_in (α := PyData) (xs := [.tuple [.str "not", t], .tuple [.str "both", t, .tuple [.str "yes"]], .tuple [.str "either", .tuple [.str "yes"], t], .tuple [.str "both", .tuple [.str "yes"], t]]) (i := y % 4) (by omega) (show y % 4 < 4 by omega)
  refine ⟨r, e, ?_⟩
  have hy : Wd (n + 2) (.tuple [.str "yes"]) := (wd_of (n := 1) (by decide +kernel)).mono (by omega)
  have kw := okS_kw
  have ht' := ht.mono (show n ≤ n + 2 by omega)
  simp only [List.mem_cons, List.not_mem_nil, or_false] at hr
  rcases hr with rfl | rfl | rfl | rfl
  · exact wd_t2 (wd_kw (kw _ (by simp))) ht'
  · exact wd_t3 (wd_kw (kw _ (by simp))) ht' hy
  · exact wd_t3 (wd_kw (kw _ (by simp))) hy ht'
  · exact wd_t3 (wd_kw (kw _ (by simp))) hy ht'
theorem edges_ok (x : Int) : ∃ a b, m_edges [.int x] = some (.tuple [a, b]) ∧ Wd 30 a ∧ Wd 30 b := by
  have run : m_edges [.int x] = retD (fb__law_edges m_drawn [.val (.int x), .no, .no, .no, .no, .no, .no]) := runD_r (by rfl)
  rw [run]
  unfold fb__law_edges
  have loop : ∃ t x2 x3, forR (((bnd2 (bnd2 (bnd2 (some (.int x)) (some (.int 4)) fdivD) (some (.int 5)) modD) (some []) consD)).bind rng1D) tg1 [2] (fb__law_edges_b1 m_drawn) [.val (.int x), .val (.tuple [.str "word", .str (cutS "abcdefg" none (some (4 + x % 3)))]), .no, .no, .no, .no, .no] = some (.nx [.val (.int x), .val t, x2, x3, .no, .no, .no]) ∧ Wd 20 t := by
    rw [ixdm x 4 5 (by decide) (by decide)]
    show ∃ t x2 x3, forR (rng1D [.int (x / 4 % 5)]) _ _ _ _ = _ ∧ _
    rw [rng1_n _ ⟨by omega, by omega⟩]
    have := for_fold (h := tg1) (is := [2]) (body := fb__law_edges_b1 m_drawn) (fun i : Nat => PyData.int (i : Int)) (fun i => [.int (i : Int)]) (fun (n : Nat) ρ => ∃ t x2 x3, ρ = [.val (.int x), .val t, x2, x3, .no, .no, .no] ∧ Wd (1 + 3 * n) t) (fun n _ => n + 1) (List.range (x / 4 % 5).toNat) 0 [.val (.int x), .val (.tuple [.str "word", .str (cutS "abcdefg" none (some (4 + x % 3)))]), .no, .no, .no, .no, .no] (fun _ _ => rfl) (fun i _ n ρ hρ => by
      obtain ⟨t, x2, x3, rfl, ht⟩ := hρ
      obtain ⟨r, er, wr⟩ := edge_in (y := drawnN x i / 4) (1 + 3 * n) ht
      refine ⟨[.val (.int x), .val r, .val (.int (i : Int)), .val (.tuple [.tuple [.str "not", t], .tuple [.str "both", t, .tuple [.str "yes"]], .tuple [.str "either", .tuple [.str "yes"], t], .tuple [.str "both", .tuple [.str "yes"], t]]), .no, .no, .no], ?_, r, _, _, rfl, wr.mono (by omega)⟩
      unfold fb__law_edges_b1
      refine seq_step (ρ := [.val (.int x), .val t, .val (.int (i : Int)), .val (.tuple [.tuple [.str "not", t], .tuple [.str "both", t, .tuple [.str "yes"]], .tuple [.str "either", .tuple [.str "yes"], t], .tuple [.str "both", .tuple [.str "yes"], t]]), .no, .no, .no]) rfl ?_
      show asgR 1 _ (bnd2 (some _) (bnd2 (bnd2 (m_drawn [.int x, .int (i : Int)]) (some (.int 4)) fdivD) (some (.int 4)) modD) ixD) = _
      rw [drawn_eq, ixdm _ 4 4 (by decide) (by decide), bnd2_ss, er]
      rfl) ⟨_, _, _, rfl, (wd_t2 (n := 0) (wd_kw (okS_kw _ (by simp))) (wd_kw (edge_txt x)))⟩
    obtain ⟨ρ, e, t, x2, x3, rfl, ht⟩ := this
    refine ⟨t, x2, x3, e, ht.mono ?_⟩
    have : ∀ (xs : List Nat) (s : Nat), xs.foldl (fun n _ => n + 1) s = s + xs.length := fun xs => by
      induction xs with
      | nil => intro s; rfl
      | cons a xs ih => intro s; rw [List.foldl_cons, ih, List.length_cons]; omega
    rw [this, List.length_range]
    omega
  obtain ⟨t, x2, x3, el, ht⟩ := loop
  have kw := okS_kw
  refine ⟨.tuple [.tuple [.str "main", .tuple [.tuple [t, .tuple [.tuple [.str "stop"]]]]]], .tuple [.str "ann", .tuple (cutL [.str "a", .str "b", .str "c", .str "d"] none (some (2 + x / 256 % 3))), .int (998 + x / 1024 % 3), .tuple (cutL [.str "m", .str "n", .str "o", .str "p"] none (some (2 + x / 4096 % 3)))], ?_, ?_, ?_⟩
  · refine rt_step (ρ := [.val (.int x), .val (.tuple [.str "word", .str (cutS "abcdefg" none (some (4 + x % 3)))]), .no, .no, .no, .no, .no]) ?_ ?_
    · show asgR 1 _ ((bnd2 (some (.str "word")) (bnd2 (bnd2 (some none) (partI (bnd2 (some (.int 4)) (modD (.int x) (.int 3)) addD)) (slS (.str "abcdefg"))) (some []) consD) consD).bind tupD) = _
      rw [modD_ii _ _ (by decide)]
      rfl
    refine rt_step el ?_
    refine rt_step (ρ := [.val (.int x), .val t, x2, x3, .val (.tuple [.tuple [.str "main", .tuple [.tuple [t, .tuple [.tuple [.str "stop"]]]]]]), .no, .no]) rfl ?_
    refine rt_step (ρ := [.val (.int x), .val t, x2, x3, .val (.tuple [.tuple [.str "main", .tuple [.tuple [t, .tuple [.tuple [.str "stop"]]]]]]), .val (.tuple (cutL [.str "a", .str "b", .str "c", .str "d"] none (some (2 + x / 256 % 3)))), .no]) ?_ ?_
    · show asgR 5 _ (bnd2 (some none) (partI (bnd2 (some (.int 2)) (bnd2 (bnd2 (some (.int x)) (some (.int 256)) fdivD) (some (.int 3)) modD) addD)) (slD (.tuple [.str "a", .str "b", .str "c", .str "d"]))) = _
      rw [ixdm _ 256 3 (by decide) (by decide)]
      rfl
    refine rt_step (ρ := [.val (.int x), .val t, x2, x3, .val (.tuple [.tuple [.str "main", .tuple [.tuple [t, .tuple [.tuple [.str "stop"]]]]]]), .val (.tuple (cutL [.str "a", .str "b", .str "c", .str "d"] none (some (2 + x / 256 % 3)))), .val (.tuple (cutL [.str "m", .str "n", .str "o", .str "p"] none (some (2 + x / 4096 % 3))))]) ?_ ?_
    · show asgR 6 _ (bnd2 (some none) (partI (bnd2 (some (.int 2)) (bnd2 (bnd2 (some (.int x)) (some (.int 4096)) fdivD) (some (.int 3)) modD) addD)) (slD (.tuple [.str "m", .str "n", .str "o", .str "p"]))) = _
      rw [ixdm _ 4096 3 (by decide) (by decide)]
      rfl
    show retD (retR ((bnd2 _ (bnd2 ((bnd2 _ (bnd2 _ (bnd2 (bnd2 (some (.int 998)) (bnd2 (bnd2 (some (.int x)) (some (.int 1024)) fdivD) (some (.int 3)) modD) addD) _ consD) consD) consD).bind tupD) _ consD) consD).bind tupD)) = _
    rw [ixdm _ 1024 3 (by decide) (by decide)]
    rfl
  · exact (wd_t1 (wd_t2 (wd_kw (kw _ (by simp))) (wd_t1 (wd_t2 ht ((wd_of (n := 2) (by decide +kernel)).mono (by decide)))))).mono (by decide)
  · refine (wd_t4 (n := 2) (wd_kw (by decide +kernel)) ?_ ⟨rfl, Nat.zero_le _⟩ ?_).mono (by decide)
    · refine (Wd.tuple (n := 0) fun y hy => ?_).mono (by decide)
      have := (show ∀ y ∈ ([.str "a", .str "b", .str "c", .str "d"] : List PyData), (wf y && decide (y.depth ≤ 0)) = true by decide +kernel) y (cut_mem hy)
      exact wd_of this
    · refine (Wd.tuple (n := 0) fun y hy => ?_).mono (by decide)
      have := (show ∀ y ∈ ([.str "m", .str "n", .str "o", .str "p"] : List PyData), (wf y && decide (y.depth ≤ 0)) = true by decide +kernel) y (cut_mem hy)
      exact wd_of this
end Sv
namespace Sv
open PySem L2 Evl
def sgm (s1 s2 s3 : Str) (s : Str) : Str := if s = "ann" then s1 else if s = "hi" then s2 else if s = "sub" then s3 else s
def nmsD (s1 s2 s3 : Str) : PyData := .dict [(.str "ann", .str s1), (.str "hi", .str s2), (.str "sub", .str s3)]
theorem nms_get (s1 s2 s3 s : Str) : getD2 (nmsD s1 s2 s3) (.str s) (.str s) = some (.str (sgm s1 s2 s3 s)) := by
  unfold getD2 nmsD sgm
  dsimp only
  rw [show isOb [(PyData.str "ann", PyData.str s1), (PyData.str "hi", PyData.str s2), (PyData.str "sub", PyData.str s3)] = false from rfl, if_neg Bool.false_ne_true]
  simp only [toK, Option.map_some, Option.some.injEq, dgetK, List.find?_cons, List.find?_nil]
  by_cases h1 : s = "ann"
  · subst h1; simp
  · by_cases h2 : s = "hi"
    · subst h2; simp [ofS_inj]
    · by_cases h3 : s = "sub"
      · subst h3; simp [ofS_inj]
      · simp [h1, h2, h3, Ne.symm h1, Ne.symm h2, Ne.symm h3]
theorem sgm_ok {s1 s2 s3 : Str} (h1 : txS s1 = true) (h2 : txS s2 = true) (h3 : txS s3 = true) (s : Str) (h : txS s = true) : txS (sgm s1 s2 s3 s) = true := by
  unfold sgm
  split
  · exact h1
  · split
    · exact h2
    · split
      · exact h3
      · exact h
theorem sgm_kw (s1 s2 s3 : Str) : ∀ w ∈ tstW, sgm s1 s2 s3 w = w := fun w hw => by
  have : ∀ w ∈ tstW, w ≠ "ann" ∧ w ≠ "hi" ∧ w ≠ "sub" := by decide +kernel
  obtain ⟨h1, h2, h3⟩ := this w hw
  unfold sgm
  rw [if_neg h1, if_neg h2, if_neg h3]
theorem letter_sw (σ : Str → Str) (l : Ltr) : swD σ l.enc = .tuple [.str (σ l.sender), .tuple ((l.words.map σ).map .str), .int l.size, .tuple ((l.marks.map σ).map .str)] := by
  unfold Ltr.enc strsD
  rw [swD_t]
  have hc : (swD σ ∘ PyData.str) = (PyData.str ∘ σ) := funext fun s => by simp [swD]
  simp only [List.map_cons, List.map_nil, swD, swL_map, List.map_map, hc]
theorem letter_in {σ : Str → Str} (hσ : ∀ s, txS s = true → txS (σ s) = true) (x : Int) : ∃ a ws c d ts, swD σ (letterN x).enc = .tuple [a, .tuple ws, c, d] ∧ (sortV (.tuple ws)).bind tupleD = some (.tuple ts) ∧ okI 3 (.tuple [a, .tuple ts, c, d]) = true := by
  have ok := okI_sw hσ (okI_letter x)
  rw [letter_sw] at ok ⊢
  obtain ⟨_, h⟩ := okI_t ok
  have hw := h (.tuple (((letterN x).words.map σ).map .str)) (by simp)
  obtain ⟨hl, hw⟩ := okI_t hw
  obtain ⟨ts, e, hp⟩ := sortV_strs (ss := (letterN x).words.map σ) (by rw [List.length_map] at hl; exact hl)
  refine ⟨_, _, _, _, ts, rfl, e, okI_4 (h _ (by simp)) ?_ (h _ (by simp)) (h _ (by simp))⟩
  exact okI_tuple (by rw [hp.length_eq]; exact hl) fun y hy => hw y (hp.mem_iff.mp hy)
def ruleX (y : Int) : PyData := .tuple [.tuple [.str "not", .tuple [.str "not", .tuple [.str "yes"]]], .tuple (List.replicate y.toNat [PyData.tuple [.str "stop"]]).flatten]
theorem rep_wd {n m : Nat} {d : PyData} (h : Wd n d) : Wd (n + 1) (.tuple (List.replicate m [d]).flatten) := Wd.tuple fun x hx => by
  obtain ⟨l, hl, hx⟩ := List.mem_flatten.mp hx
  rw [(List.mem_replicate.mp hl).2] at hx
  rw [List.mem_singleton.mp hx]
  exact h
theorem ruleX_wd (y : Int) : Wd 6 (ruleX y) := wd_t2 ((wd_of (n := 3) (by decide +kernel)).mono (by decide)) ((rep_wd (n := 1) (wd_of (n := 1) (by decide +kernel))).mono (by decide))
def bookX (x : Int) (ms : List PyData) : List PyData := .tuple [.str "main", .tuple (List.replicate (x / 4096 % 6).toNat [ruleX (x / 512 % 5)]).flatten] :: ms
theorem mulT_1 (d : PyData) (k : Int) (h : 0 ≤ k ∧ k ≤ 10) : bnd2 (some (.tuple [d])) (some (.int k)) mulT = some (.tuple (List.replicate k.toNat [d]).flatten) := if_pos ⟨by omega, by omega, by simp⟩
theorem more_in (x : Int) : ∃ ms, ixD (.tuple [.tuple [], .tuple [.tuple [.str "z", .tuple []]], .tuple [.tuple [.str "y", .tuple []], .tuple [.str "z", .tuple []]]]) (.int (x / 32768 % 3)) = some (.tuple ms) ∧ ms.length ≤ 2 ∧ ∀ y ∈ ms, Wd 2 y := by
  have h : x / 32768 % 3 = 0 ∨ x / 32768 % 3 = 1 ∨ x / 32768 % 3 = 2 := by omega
  rcases h with h | h | h <;> rw [h]
  · exact ⟨[], rfl, by decide, fun y hy => nomatch hy⟩
  · exact ⟨[.tuple [.str "z", .tuple []]], rfl, by decide, fun y hy => wd_of ((show ∀ y ∈ ([.tuple [.str "z", .tuple []]] : List PyData), (wf y && decide (y.depth ≤ 2)) = true by decide +kernel) y hy)⟩
  · exact ⟨[.tuple [.str "y", .tuple []], .tuple [.str "z", .tuple []]], rfl, by decide, fun y hy => wd_of ((show ∀ y ∈ ([.tuple [.str "y", .tuple []], .tuple [.str "z", .tuple []]] : List PyData), (wf y && decide (y.depth ≤ 2)) = true by decide +kernel) y hy)⟩
theorem bookX_wd (x : Int) {ms : List PyData} (h : ∀ y ∈ ms, Wd 2 y) : ∀ y ∈ bookX x ms, Wd 9 y := fun y hy => by
  rcases List.mem_cons.mp hy with rfl | hy
  · exact wd_t2 (wd_kw (okS_kw _ (by simp))) ((rep_wd (ruleX_wd _)).mono (by decide))
  · exact (h y hy).mono (by decide)
end Sv
namespace K09
open PySem L2 Evl Sv
mutual
def wid : PyData → Bool
  | .tuple xs => decide (xs.length ≤ 4) && widL xs
  | .none => true
  | .bool _ => true
  | .int _ => true
  | .str _ => true
  | .list _ => false
  | .dict _ => false
def widL : List PyData → Bool
  | [] => true
  | x :: xs => wid x && widL xs
end
mutual
def nod : PyData → Nat
  | .tuple xs => 1 + nodL xs
  | .none => 1
  | .bool _ => 1
  | .int _ => 1
  | .str _ => 1
  | .list _ => 1
  | .dict _ => 1
def nodL : List PyData → Nat
  | [] => 0
  | x :: xs => nod x + nodL xs
end
theorem widL_iff : ∀ {xs : List PyData}, widL xs = true ↔ ∀ x ∈ xs, wid x = true
  | [] => by simp [widL]
  | x :: xs => by simp [widL, widL_iff (xs := xs)]
theorem wid_t {xs : List PyData} : wid (.tuple xs) = true ↔ xs.length ≤ 4 ∧ ∀ x ∈ xs, wid x = true := by
  simp [wid, widL_iff]
theorem nodL_le {xs : List PyData} {m : Nat} (h : ∀ x ∈ xs, nod x ≤ m) : nodL xs ≤ xs.length * m := by
  induction xs with
  | nil => simp [nodL]
  | cons x xs ih =>
    have h1 := h x (by simp)
    have h2 := ih fun y hy => h y (by simp [hy])
    simp only [nodL, List.length_cons, Nat.succ_mul]
    omega
theorem nod_le : ∀ {n : Nat} {d : PyData}, okI n d = true → wid d = true → nod d ≤ 5 ^ n
  | 0, d, h, _ => by cases h
  | n + 1, .tuple xs, h, hw => by
    obtain ⟨h1, h2⟩ := wid_t.mp hw
    have := nodL_le (m := 5 ^ n) fun x hx => nod_le ((okI_t h).2 x hx) (h2 x hx)
    have h3 : xs.length * 5 ^ n ≤ 4 * 5 ^ n := Nat.mul_le_mul_right _ h1
    have h4 : 1 ≤ 5 ^ n := Nat.one_le_pow _ _ (by decide)
    simp only [nod]
    rw [Nat.pow_succ]
    omega
  | n + 1, .str s, _, _ => by simp only [nod]; exact Nat.one_le_pow _ _ (by decide)
  | n + 1, .int k, _, _ => by simp only [nod]; exact Nat.one_le_pow _ _ (by decide)
  | n + 1, .none, h, _ => by cases h
  | n + 1, .bool _, h, _ => by cases h
  | n + 1, .list _, h, _ => by cases h
  | n + 1, .dict _, h, _ => by cases h
theorem wid_sw (σ : Str → Str) : ∀ {n : Nat} {d : PyData}, okI n d = true → wid d = true → wid (swD σ d) = true
  | 0, d, h, _ => by cases h
  | n + 1, .tuple xs, h, hw => by
    rw [swD_t]
    obtain ⟨h1, h2⟩ := wid_t.mp hw
    refine wid_t.mpr ⟨by rw [List.length_map]; exact h1, fun x hx => ?_⟩
    obtain ⟨y, hy, rfl⟩ := List.mem_map.mp hx
    exact wid_sw σ ((okI_t h).2 y hy) (h2 y hy)
  | n + 1, .str s, _, _ => by rw [swD]; rfl
  | n + 1, .int k, _, _ => by rw [swD]; rfl
  | n + 1, .none, h, _ => by cases h
  | n + 1, .bool _, h, _ => by cases h
  | n + 1, .list _, h, _ => by cases h
  | n + 1, .dict _, h, _ => by cases h
theorem wid_tst : ∀ t : Tst, wid t.enc = true
  | .frm s => by simp [Tst.enc, wid, widL]
  | .word s => by simp [Tst.enc, wid, widL]
  | .marked s => by simp [Tst.enc, wid, widL]
  | .over k => by simp [Tst.enc, wid, widL]
  | .yes => by simp [Tst.enc, wid, widL]
  | .not t => by simp [Tst.enc, wid, widL, wid_tst t]
  | .both a b => by simp [Tst.enc, wid, widL, wid_tst a, wid_tst b]
  | .either a b => by simp [Tst.enc, wid, widL, wid_tst a, wid_tst b]
theorem wid_deed (e : Deed) : wid e.enc = true := by cases e <;> simp [Deed.enc, wid, widL]
theorem wid_book {b : Book} (g : PB b) : wid b.enc = true := by
  rw [enc_map]
  refine wid_t.mpr ⟨by rw [List.length_map]; have := g.l3; omega, fun x hx => ?_⟩
  obtain ⟨p, hp, rfl⟩ := List.mem_map.mp hx
  have hz := List.all_eq_true.mp g.sz p hp
  unfold szP at hz
  obtain ⟨h1, h2⟩ := Bool.and_eq_true_iff.mp hz
  unfold partE rulesD
  refine wid_t.mpr ⟨by simp, fun y hy => ?_⟩
  simp only [List.mem_cons, List.not_mem_nil, or_false] at hy
  rcases hy with rfl | rfl
  · simp [wid]
  · refine wid_t.mpr ⟨by rw [List.length_map]; exact of_decide_eq_true h1, fun z hz => ?_⟩
    obtain ⟨r, hr, rfl⟩ := List.mem_map.mp hz
    have h3 := List.all_eq_true.mp h2 r hr
    unfold szR at h3
    unfold Rul.enc
    refine wid_t.mpr ⟨by simp, fun u hu => ?_⟩
    simp only [List.mem_cons, List.not_mem_nil, or_false] at hu
    rcases hu with rfl | rfl
    · exact wid_tst _
    · refine wid_t.mpr ⟨by rw [List.length_map]; have := of_decide_eq_true (Bool.and_eq_true_iff.mp h3).2; omega, fun v hv => ?_⟩
      obtain ⟨e, _, rfl⟩ := List.mem_map.mp hv
      exact wid_deed e
theorem wid_strs {ss : List Str} (h : ss.length ≤ 4) : wid (.tuple (ss.map .str)) = true := wid_t.mpr ⟨by rw [List.length_map]; exact h, fun x hx => by
  obtain ⟨s, _, rfl⟩ := List.mem_map.mp hx
  simp [wid]⟩
theorem wid_letter (x : Int) : wid (letterN x).enc = true := by
  have k2 : (wordsN x).length ≤ 4 := by
    unfold wordsN
    split <;> split <;> split <;> decide
  have k3 : (marksN x).length ≤ 4 := by
    unfold marksN
    split <;> split <;> split <;> decide
  unfold Ltr.enc strsD
  refine wid_t.mpr ⟨by simp, fun y hy => ?_⟩
  simp only [List.mem_cons, List.not_mem_nil, or_false] at hy
  rcases hy with rfl | rfl | rfl | rfl
  · simp [wid]
  · exact wid_strs k2
  · simp [wid]
  · exact wid_strs k3
theorem sortV_perm {xs ys : List PyData} (h : (sortV (.tuple xs)).bind tupleD = some (.tuple ys)) : ys.Perm xs := by
  unfold sortV at h
  dsimp only at h
  split at h
  · cases h
    exact List.mergeSort_perm _ _
  · cases h
def Lead : List PyData → PyData → Prop
  | [], _ => True
  | .int i :: p, .tuple xs => ∃ x, 0 ≤ i ∧ xs[i.toNat]? = some x ∧ Lead p x
  | _, _ => False
def m_places : Nat → List PyData → Option PyData := itm fun m => runD 5 2 (fb__law_places_in m)
theorem m_places_s (n : Nat) (ds : List PyData) : m_places (n + 1) ds = runD 5 2 (fb__law_places_in (m_places n)) ds := rfl
theorem addL9 {xs ys : List PyData} (h : xs.length + ys.length ≤ 9000000) : addD (.list xs) (.list ys) = some (.list (xs ++ ys)) := by
  show (if lenOk (xs.length + ys.length) then _ else _) = _
  rw [show lenOk (xs.length + ys.length) = true from decide_eq_true (Nat.le_trans h (by decide))]
  rfl
def wys (w : List PyData) (ps : List (List PyData)) : PyData := .list (ps.map fun p => .tuple (w ++ p))
theorem places_ok : ∀ (n : Nat) (d : PyData) (w : List PyData), okI n d = true → wid d = true → w.length + n ≤ 100 → nod d ≤ 4000000 → ∃ ps : List (List PyData), m_places n [d, .tuple w] = some (wys w ps) ∧ ps.length = nod d ∧ ∀ p ∈ ps, Lead p d ∧ p.length < n
  | 0, _, _, h, _, _, _ => by cases h
  | n + 1, .tuple xs, w, h, hw, hl, hn => by
    obtain ⟨h1, h2⟩ := okI_t h
    obtain ⟨g1, g2⟩ := wid_t.mp hw
    simp only [nod] at hn
    rw [m_places_s]
    have run : runD 5 2 (fb__law_places_in (m_places n)) [.tuple xs, .tuple w] = retD (fb__law_places_in (m_places n) [.val (.tuple xs), .val (.tuple w), .no, .no, .no]) := runD_r (by rfl)
    rw [run]
    unfold fb__law_places_in
    have loop : ∀ (k : Nat) (ys : List PyData) (ps : List (List PyData)) (a3 a4 : Sl), xs = xs.take k ++ ys → k ≤ xs.length → ps.length + nodL ys = 1 + nodL xs → (∀ p ∈ ps, Lead p (.tuple xs) ∧ p.length < n + 1) → ∃ ps' x3 x4, forD (tgT 2 (tgC tg1 (tgC tg1 tgN))) [3, 4] (fb__law_places_in_b1 (m_places n)) (enumFrom k ys) [.val (.tuple xs), .val (.tuple w), .val (wys w ps), a3, a4] = some (.nx [.val (.tuple xs), .val (.tuple w), .val (wys w ps'), x3, x4]) ∧ ps'.length = 1 + nodL xs ∧ ∀ p ∈ ps', Lead p (.tuple xs) ∧ p.length < n + 1 := by
      intro k ys
      induction ys generalizing k with
      | nil => exact fun ps a3 a4 _ _ hs hp => ⟨ps, a3, a4, rfl, by simpa [nodL] using hs, hp⟩
      | cons y ys ih =>
        intro ps a3 a4 hx hk hs hp
        have hy : y ∈ xs := by rw [hx]; simp
        simp only [nodL] at hs
        have hyn : nod y ≤ 4000000 := by omega
        have hkl : k < xs.length := by
          have := congrArg List.length hx
          simp only [List.length_append, List.length_take, List.length_cons] at this
          omega
        have hat : xs[k]? = some y := by
          rw [hx, List.getElem?_append_right (by simp; omega)]
          simp [Nat.min_eq_left hk]
        obtain ⟨qs, eq, lq, hq⟩ := places_ok n y (w ++ [.int (k : Int)]) (h2 y hy) (g2 y hy) (by simp; omega) hyn
        have hx' : xs = xs.take (k + 1) ++ ys := by
          rw [List.take_succ, hat]
          simpa using hx
        obtain ⟨ps', x3', x4', e, l, hp'⟩ := ih (k + 1) (ps ++ qs.map fun p => .int (k : Int) :: p) (.val (.int (k : Int))) (.val y) hx' hkl (by simp only [List.length_append, List.length_map]; omega) (fun p hp0 => by
          rcases List.mem_append.mp hp0 with hp0 | hp0
          · exact hp p hp0
          · obtain ⟨p', hp1, rfl⟩ := List.mem_map.mp hp0
            obtain ⟨a1, a2⟩ := hq p' hp1
            exact ⟨⟨y, by omega, by simpa using hat, a1⟩, by simp only [List.length_cons]; omega⟩)
        refine ⟨ps', x3', x4', ?_, l, hp'⟩
        have step : fb__law_places_in_b1 (m_places n) [.val (.tuple xs), .val (.tuple w), .val (wys w ps), .val (.int (k : Int)), .val y] = some (.nx [.val (.tuple xs), .val (.tuple w), .val (wys w (ps ++ qs.map fun p => .int (k : Int) :: p)), .val (.int (k : Int)), .val y]) := by
          unfold fb__law_places_in_b1
          show asgR 2 _ (bnd2 (some (wys w ps)) ((bnd2 (some y) (bnd2 (addD (.tuple w) (.tuple [.int (k : Int)])) (some []) consD) consD).bind (m_places n)) addD) = _
          rw [addT (by simp; omega)]
          show asgR 2 _ (bnd2 (some (wys w ps)) (m_places n [y, .tuple (w ++ [.int (k : Int)])]) addD) = _
          rw [eq, bnd2_ss]
          unfold wys
          rw [addL9 (by simp only [List.length_map]; omega)]
          rw [List.map_append, List.map_map]
          have : (qs.map fun p => PyData.tuple (w ++ [.int (k : Int)] ++ p)) = (qs.map ((fun p => PyData.tuple (w ++ p)) ∘ fun p => .int (k : Int) :: p)) := by
            refine List.map_congr_left fun p _ => ?_
            simp
          rw [this]
          rfl
        rw [show enumFrom k (y :: ys) = .tuple [.int (k : Int), y] :: enumFrom (k + 1) ys from rfl]
        unfold forD
        rw [tgT_2]
        dsimp only
        rw [show setsR [.val (.tuple xs), .val (.tuple w), .val (wys w ps), a3, a4] [3, 4] [.int (k : Int), y] = [.val (.tuple xs), .val (.tuple w), .val (wys w ps), .val (.int (k : Int)), .val y] from rfl, step]
        exact e
    obtain ⟨ps', x3, x4, e, l, hp⟩ := loop 0 xs [[]] .no .no (by simp) (Nat.zero_le _) (by simp) (fun p hp => by rw [List.mem_singleton.mp hp]; exact ⟨by simp [Lead], by simp⟩)
    refine ⟨ps', ?_, by simpa [nod] using l, hp⟩
    refine rt_step (ρ := [.val (.tuple xs), .val (.tuple w), .val (wys w [[]]), .no, .no]) (by unfold wys; simp; rfl) ?_
    refine rt_step (if_yes rfl e) rfl
  | n + 1, .str s, w, _, _, _, _ => ⟨[[]], by rw [m_places_s]; refine (runD_r (by rfl)).trans ?_; unfold wys; simp; rfl, by simp [nod], fun p hp => by rw [List.mem_singleton.mp hp]; exact ⟨by simp [Lead], by simp⟩⟩
  | n + 1, .int k, w, _, _, _, _ => ⟨[[]], by rw [m_places_s]; refine (runD_r (by rfl)).trans ?_; unfold wys; simp; rfl, by simp [nod], fun p hp => by rw [List.mem_singleton.mp hp]; exact ⟨by simp [Lead], by simp⟩⟩
  | n + 1, .none, _, h, _, _, _ => by cases h
  | n + 1, .bool _, _, h, _, _, _ => by cases h
  | n + 1, .list _, _, h, _, _, _ => by cases h
  | n + 1, .dict _, _, h, _, _, _ => by cases h
theorem addLs {xs ys : List PyData} (h : xs.length + ys.length ≤ 1000) : addD (.list xs) (.list ys) = some (.list (xs ++ ys)) := addL9 (by omega)
def m_oth : List PyData → Option PyData := runD 3 2 fb__law_otherwise
theorem oth_ok {n : Nat} {d : PyData} (h : okI n d = true) (x : Int) : ∃ r, m_oth [d, .int x] = some r ∧ Wd (n + 2) r := by
  cases n with
  | zero => cases h
  | succ n =>
  have wd := okI_wd h
  have run : m_oth [d, .int x] = retD (fb__law_otherwise [.val d, .val (.int x), .no]) := runD_r (by rfl)
  rw [run]
  unfold fb__law_otherwise
  have m5 : modD (.int x) (.int 5) = some (.int (x % 5)) := modD_ii _ _ (by decide)
  cases d with
  | tuple ds =>
    obtain ⟨hl, hd⟩ := okI_t h
    have hw := fun y hy => okI_wd (hd y hy)
    have hc := cut_len ds none (some 1)
    have hc1 := cut_len ds (some 1) none
    obtain ⟨r, hr, e⟩ := atI_in (α := PyData) (xs := [.list ds, .list ds, .tuple (ds ++ cutL ds none (some 1)), .tuple (cutL ds (some 1) none), .list [.tuple ds]]) (i := x % 5) (by omega) (show x % 5 < 5 by omega)
    refine ⟨r, ?_, ?_⟩
    · refine rt_ret (if_yes rfl ?_)
      refine seq_step (ρ := [.val (.tuple ds), .val (.int x), .val (.list [.list ds, .list ds, .tuple (ds ++ cutL ds none (some 1))])]) ?_ ?_
      · show asgR 2 _ ((bnd2 (some (.list ds)) (bnd2 (some (.list ds)) (bnd2 (addD (.tuple ds) (.tuple (cutL ds none (some 1)))) (some []) consD) consD) consD).bind lstD) = _
        rw [addT (by omega)]
        rfl
      · show retR (bnd2 (addD (.list [.list ds, .list ds, .tuple (ds ++ cutL ds none (some 1))]) (.list [.tuple (cutL ds (some 1) none), .list [.tuple ds]])) (modD (.int x) (.int 5)) ixD) = _
        rw [addLs (by simp), m5, bnd2_ss]
        exact congrArg retR e
    · simp only [List.mem_cons, List.not_mem_nil, or_false] at hr
      rcases hr with rfl | rfl | rfl | rfl | rfl
      · exact (Wd.list hw).mono (by omega)
      · exact (Wd.list hw).mono (by omega)
      · exact (Wd.tuple (n := n) fun y hy => (List.mem_append.mp hy).elim (hw y) fun z => hw y (cut_mem z)).mono (by omega)
      · exact (Wd.tuple (n := n) fun y hy => hw y (cut_mem hy)).mono (by omega)
      · exact (Wd.list (n := n + 1) fun y hy => by rw [List.mem_singleton.mp hy]; exact wd).mono (by omega)
  | int k =>
    have hn : 0 ≤ k ∧ k ≤ 999 := by
      have h : (decide (0 ≤ k) && decide (k ≤ 999)) = true := h
      simpa using h
    obtain ⟨s, hs, ts⟩ := str_num hn
    obtain ⟨r, hr, e⟩ := atI_in (α := PyData) (xs := [.bool true, .none, .str s, .tuple [.int k], .int (-1 - k)]) (i := x % 5) (by omega) (show x % 5 < 5 by omega)
    refine ⟨r, ?_, ?_⟩
    · refine rt_step (if_no rfl rfl) ?_
      refine rt_step (if_no rfl rfl) ?_
      refine rt_ret (if_yes rfl ?_)
      refine seq_step (ρ := [.val (.int k), .val (.int x), .val (.list [.bool true, .none, .str s, .tuple [.int k]])]) ?_ ?_
      · show asgR 2 _ ((bnd2 (some (.bool true)) (bnd2 (some .none) (bnd2 (strD (.int k)) (bnd2 (some (.tuple [.int k])) (some []) consD) consD) consD) consD).bind lstD) = _
        rw [hs]
        rfl
      · show retR (bnd2 (addD (.list [.bool true, .none, .str s, .tuple [.int k]]) (.list [.int (-1 - k)])) (modD (.int x) (.int 5)) ixD) = _
        rw [addLs (by simp), m5, bnd2_ss]
        exact congrArg retR e
    · simp only [List.mem_cons, List.not_mem_nil, or_false] at hr
      rcases hr with rfl | rfl | rfl | rfl | rfl
      · exact ⟨rfl, Nat.zero_le _⟩
      · exact ⟨rfl, Nat.zero_le _⟩
      · exact (wd_kw ts).mono (Nat.le_refl _)
      · exact (wd_t1 (n := 0) ⟨rfl, Nat.zero_le _⟩).mono (by omega)
      · exact ⟨rfl, Nat.zero_le _⟩
  | str s =>
    obtain ⟨r, hr, e⟩ := atI_in (α := PyData) (xs := [.none, .tuple [.str s], .list [.str s], .str "", .int 0]) (i := x % 5) (by omega) (show x % 5 < 5 by omega)
    refine ⟨r, ?_, ?_⟩
    · refine rt_step (if_no rfl rfl) ?_
      refine rt_step (if_no rfl rfl) ?_
      refine rt_step (if_no rfl rfl) ?_
      show retD (retR (bnd2 (some (.list _)) (modD (.int x) (.int 5)) ixD)) = _
      rw [m5, bnd2_ss]
      exact congrArg (fun o => retD (retR o)) e
    · simp only [List.mem_cons, List.not_mem_nil, or_false] at hr
      rcases hr with rfl | rfl | rfl | rfl | rfl
      · exact ⟨rfl, Nat.zero_le _⟩
      · exact (wd_t1 wd).mono (by omega)
      · exact (Wd.list (n := n + 1) fun y hy => by rw [List.mem_singleton.mp hy]; exact wd).mono (by omega)
      · exact wd_kw (by decide +kernel)
      · exact ⟨rfl, Nat.zero_le _⟩
  | _ => cases h
theorem cut_1 (a : PyData) (p : List PyData) : cutL (a :: p) (some 1) none = p := by rw [cut_tail]; rfl
theorem lam_ok {n : Nat} {d : PyData} (h : okI n d = true) (x : Int) : ∃ r, m_lam m_oth x [d] = some r ∧ Wd (n + 2) r := by
  obtain ⟨r, e, w⟩ := oth_ok h (x / 4096)
  refine ⟨r, ?_, w⟩
  show (bnd2 (some d) (bnd2 (fdivD (.int x) (.int 4096)) (some []) consD) consD).bind m_oth = _
  rw [fdivD_ii _ _ (cdiv (by decide))]
  exact e
theorem lead_wd : ∀ {p : List PyData} {d : PyData}, Lead p d → ∀ x ∈ p, Wd 0 x
  | [], _, _ => by simp
  | .int i :: p, .tuple xs, h => fun x hx => by
    simp only [Lead] at h
    obtain ⟨y, _, _, h⟩ := h
    rcases List.mem_cons.mp hx with rfl | hx
    · exact ⟨rfl, Nat.le_refl _⟩
    · exact lead_wd h x hx
  | .int i :: p, .str _, h => by simp [Lead] at h
  | .int i :: p, .int _, h => by simp [Lead] at h
  | .int i :: p, .none, h => by simp [Lead] at h
  | .int i :: p, .bool _, h => by simp [Lead] at h
  | .int i :: p, .list _, h => by simp [Lead] at h
  | .int i :: p, .dict _, h => by simp [Lead] at h
  | .str _ :: p, _, h => by simp [Lead] at h
  | .none :: p, _, h => by simp [Lead] at h
  | .bool _ :: p, _, h => by simp [Lead] at h
  | .tuple _ :: p, _, h => by simp [Lead] at h
  | .list _ :: p, _, h => by simp [Lead] at h
  | .dict _ :: p, _, h => by simp [Lead] at h
theorem eq_way {p : List PyData} {d : PyData} (h : Lead p d) : bnd2 (some (.tuple p)) ((some []).bind tupD) eqD = some (.bool p.isEmpty) :=
  eq_tnil (Wd.shp (Wd.tuple (lead_wd h)))
theorem put_ok (x : Int) : ∀ (k n : Nat) (d : PyData) (p : List PyData), p.length < k → okI n d = true → Lead p d → ∃ r, m_put (m_lam m_oth x) k [d, .tuple p] = some r ∧ Wd (n + 2) r
  | 0, _, _, _, h, _, _ => absurd h (by omega)
  | k + 1, n, d, [], _, h, hL => by
    obtain ⟨r, e, w⟩ := lam_ok h x
    refine ⟨r, ?_, w⟩
    show retD (fb__law_put_at 0 0 "" _ _ [.val d, .val (.tuple []), .fn 0 0 "", .no, .no]) = _
    unfold fb__law_put_at
    refine rt_ret (if_yes ?_ ?_)
    · show (bnd2 (some (.tuple [])) ((some []).bind tupD) eqD).bind asB = _
      rw [eq_way hL]
      rfl
    · rw [by_same]
      show retR (m_lam m_oth x [d]) = _
      rw [e]
      rfl
  | k + 1, n + 1, .tuple xs, .int i :: p, hk, h, hL => by
    have hL0 := hL
    simp only [Lead] at hL
    obtain ⟨y, h0, hat, hL⟩ := hL
    obtain ⟨hl, hd⟩ := okI_t h
    have hy := List.mem_of_getElem? hat
    obtain ⟨r, e, wr⟩ := put_ok x k n y p (by simpa using hk) (hd y hy) hL
    have hw := fun z hz => (okI_wd (hd z hz)).mono (show n ≤ n + 2 by omega)
    refine ⟨.tuple (cutL xs none (some i) ++ [r] ++ cutL xs (some (i + 1)) none), ?_, ?_⟩
    · show retD (fb__law_put_at 0 0 "" _ (m_put (m_lam m_oth x) k) [.val (.tuple xs), .val (.tuple (.int i :: p)), .fn 0 0 "", .no, .no]) = _
      unfold fb__law_put_at
      refine rt_step (if_no ?_ rfl) ?_
      · show (bnd2 (some (.tuple (.int i :: p))) ((some []).bind tupD) eqD).bind asB = _
        rw [eq_way hL0]
        rfl
      refine rt_step (ρ := [.val (.tuple xs), .val (.tuple (.int i :: p)), .fn 0 0 "", .val (.int i), .no]) (by
        show asgR 3 _ (atI (.int i :: p) 0) = _
        rw [atI_0]
        rfl) ?_
      refine rt_step (ρ := [.val (.tuple xs), .val (.tuple (.int i :: p)), .fn 0 0 "", .val (.int i), .val r]) ?_ ?_
      · rw [by_same]
        have ea : atI xs i = some y := by
          have := atI_nat hat
          rwa [Int.toNat_of_nonneg h0] at this
        show asgR 4 _ ((bnd2 (atI xs i) (bnd2 (some (.tuple (cutL (.int i :: p) (some 1) none))) (some []) consD) consD).bind (m_put (m_lam m_oth x) k)) = _
        rw [ea, show cutL (PyData.int i :: p) (some 1) none = p from cut_1 (.int i) p]
        show asgR 4 _ (m_put (m_lam m_oth x) k [y, .tuple p]) = _
        rw [e]
        rfl
      show retD (retR (bnd2 (addD (.tuple (cutL xs none (some i))) (.tuple [r])) (some (.tuple (cutL xs (some (i + 1)) none))) addD)) = _
      have l1 := cut_len xs none (some i)
      have l2 := cut_len xs (some (i + 1)) none
      rw [addT (by simp only [List.length_cons, List.length_nil]; omega), bnd2_ss, addT (by simp only [List.length_append, List.length_cons, List.length_nil]; omega)]
      rfl
    · refine (Wd.tuple (n := n + 2) fun z hz => ?_).mono (by omega)
      rcases List.mem_append.mp hz with hz | hz
      · rcases List.mem_append.mp hz with hz | hz
        · exact hw z (cut_mem hz)
        · rw [List.mem_singleton.mp hz]; exact wr
      · exact hw z (cut_mem hz)
  | k + 1, 0, _, _ :: _, _, h, _ => by cases h
  | k + 1, n + 1, .str _, a :: p, _, _, hL => by cases a <;> simp [Lead] at hL
  | k + 1, n + 1, .int _, a :: p, _, _, hL => by cases a <;> simp [Lead] at hL
  | k + 1, n + 1, .none, a :: p, _, _, hL => by cases a <;> simp [Lead] at hL
  | k + 1, n + 1, .bool _, a :: p, _, _, hL => by cases a <;> simp [Lead] at hL
  | k + 1, n + 1, .list _, a :: p, _, _, hL => by cases a <;> simp [Lead] at hL
  | k + 1, n + 1, .dict _, a :: p, _, _, hL => by cases a <;> simp [Lead] at hL
  | k + 1, n + 1, .tuple _, .str _ :: p, _, _, hL => by simp [Lead] at hL
  | k + 1, n + 1, .tuple _, .none :: p, _, _, hL => by simp [Lead] at hL
  | k + 1, n + 1, .tuple _, .bool _ :: p, _, _, hL => by simp [Lead] at hL
  | k + 1, n + 1, .tuple _, .tuple _ :: p, _, _, hL => by simp [Lead] at hL
  | k + 1, n + 1, .tuple _, .list _ :: p, _, _, hL => by simp [Lead] at hL
  | k + 1, n + 1, .tuple _, .dict _ :: p, _, _, hL => by simp [Lead] at hL
def tb (T : Addr) (q : Str) : Sl := .own ⟨.nd (.tab T q) [], false⟩
def m_spoilt (T : Addr) (q : Str) : List PyData → Option PyData := runT 5 3 T q (fb__law_spoilt (m_places 9) (fun x => m_put (m_lam m_oth x) 9) T q)
theorem ctAt_yes {ρ : Rho} {g : Nat} {T : Addr} {q : Str} {b : Bool} (hg : ρ[g]? = some (.own ⟨.nd (.tab T q) [], b⟩)) : ctAt g [] T q ρ = true := by
  unfold ctAt
  rw [ownO_of hg]
  simp [getP]
theorem runT_at {n k : Nat} {T : Addr} {q : Str} {fb : Rho → Option Res} {ds : List PyData} {d : PyData} {ρ : Rho} (hk : ds.length = k) (h : fb (slT n T q (ds.map .val)) = some (.rex d ρ)) (hc : ρ[n]? = some (tb T q)) : runT n k T q fb ds = some d := by
  unfold runT
  rw [if_pos hk, h]
  dsimp only
  rw [if_pos (ctAt_yes hc)]
theorem spoilt_ok (T : Addr) (q : Str) {n : Nat} {d : PyData} (hn : n ≤ 8) (h : okI n d = true) (hw : wid d = true) (x k : Int) : ∃ r, m_spoilt T q [d, .int x, .int k] = some r ∧ Wd 10 r := by
  have hnod : nod d ≤ 4000000 := Nat.le_trans (nod_le h hw) (Nat.le_trans (Nat.pow_le_pow_right (by decide) hn) (by decide))
  obtain ⟨ps, ep, lp, hp⟩ := places_ok 9 d [] (okI_mono h (by omega)) hw (by simp) hnod
  have hpos : 0 < nod d := by cases d <;> simp [nod] <;> omega
  have hl : 0 < ps.length := by omega
  have hat : 0 ≤ x % (ps.length : Int) ∧ x % (ps.length : Int) < ps.length := ⟨Int.emod_nonneg _ (by omega), Int.emod_lt_of_pos _ (by omega)⟩
  obtain ⟨p0, hm, ea⟩ := atI_in (xs := ps.map fun p => PyData.tuple ([] ++ p)) hat.1 (by rw [List.length_map]; exact hat.2)
  obtain ⟨p, hpm, rfl⟩ := List.mem_map.mp hm
  obtain ⟨hL, hpl⟩ := hp p hpm
  obtain ⟨r, er, wr⟩ := put_ok x 9 n d p hpl h hL
  refine ⟨r, ?_, wr.mono (by omega)⟩
  refine runT_at (ρ := [.val d, .val (.int x), .val (.int k), .val (wys [] ps), .val (.tuple p), tb T q]) rfl ?_ rfl
  show fb__law_spoilt _ _ T q [.val d, .val (.int x), .val (.int k), .no, .no, tb T q] = _
  unfold fb__law_spoilt
  refine seq_step (ρ := [.val d, .val (.int x), .val (.int k), .val (wys [] ps), .no, tb T q]) ?_ ?_
  · show asgR 3 _ (m_places 9 [d, .tuple []]) = _
    rw [ep]
    rfl
  refine seq_step (ρ := [.val d, .val (.int x), .val (.int k), .val (wys [] ps), .val (.tuple p), tb T q]) ?_ ?_
  · show asgR 4 _ (bnd2 (some (wys [] ps)) (modD (.int x) (.int ((ps.map fun p => PyData.tuple ([] ++ p)).length : Nat))) ixD) = _
    rw [List.length_map, modD_ii _ _ (by omega), bnd2_ss]
    show asgR 4 _ (atI _ _) = _
    rw [ea]
    rfl
  unfold lamPutX
  rw [ctAt_yes (b := false) (by rfl), if_pos rfl]
  show rexX ((m_put (m_lam m_oth x) 9 [d, .tuple p]).map fun d' => (d', [.val d, .val (.int x), .val (.int k), .val (wys [] ps), .val (.tuple p), tb T q])) = _
  rw [er]
  rfl
end K09
namespace K09
open PySem L2 Evl Sv
theorem callT_at {T : Addr} {q : Str} {m : List PyData → Option PyData} {fr : Rho → Option (List PyData)} {ρ : Rho} {g : Nat} {ds : List PyData} {d : PyData} (hg : ρ[g]? = some (tb T q)) (hf : fr ρ = some ds) (hm : m ds = some d) : callT g T q m fr ρ = some (d, ρ) := by
  unfold callT
  rw [ctAt_yes hg, if_pos rfl, hf, Option.bind_some, hm]
  rfl
theorem letter_in' {σ : Str → Str} (hσ : ∀ s, txS s = true → txS (σ s) = true) (x : Int) : ∃ a ws c d ts, swD σ (letterN x).enc = .tuple [a, .tuple ws, c, d] ∧ (sortV (.tuple ws)).bind tupleD = some (.tuple ts) ∧ okI 3 (.tuple [a, .tuple ts, c, d]) = true ∧ wid (.tuple [a, .tuple ts, c, d]) = true := by
  obtain ⟨a, ws, c, d, ts, e1, e2, e3⟩ := letter_in hσ x
  refine ⟨a, ws, c, d, ts, e1, e2, e3, ?_⟩
  have w := wid_sw σ (okI_letter x) (wid_letter x)
  rw [e1] at w
  have hp := sortV_perm e2
  simp only [wid, widL, Bool.and_true, Bool.and_eq_true, decide_eq_true_eq, widL_iff] at w ⊢
  obtain ⟨h0, h1, ⟨h2, h3⟩, h4, h5⟩ := w
  exact ⟨h0, h1, ⟨by rw [hp.length_eq]; exact h2, fun y hy => h3 y (hp.mem_iff.mp hy)⟩, h4, h5⟩
theorem sort_book' {σ : Str → Str} (hk : ∀ w ∈ tstW, σ w = w) (hσ : ∀ s, txS s = true → txS (σ s) = true) {b : Book} (g : PB b) : ∃ ds, (sortV (swD σ b.enc)).bind tupleD = some (.tuple ds) ∧ okI 8 (.tuple ds) = true ∧ wid (.tuple ds) = true := by
  obtain ⟨ds, e, h⟩ := sort_book hk hσ g
  refine ⟨ds, e, h, ?_⟩
  have w := wid_sw σ g.okI (wid_book g)
  rw [enc_map, swD_t] at e w
  have hp := sortV_perm e
  obtain ⟨h1, h2⟩ := wid_t.mp w
  exact wid_t.mpr ⟨by rw [hp.length_eq]; exact h1, fun y hy => h2 y (hp.mem_iff.mp hy)⟩
theorem sp7 {T : Addr} {q : Str} {S : Sl} {ns : List Int} (hS : ∀ r : Rho, scrOf 0 (S :: r) = some ns) {x : Int} {N l b : PyData} (hl : okI 3 l = true) (hb : okI 8 b = true) (wl : wid l = true) (wb : wid b = true) : ∃ l' b', (fun ρ => ifR ((bnd2 (bnd2 (gb 1 ρ) (some (.int 3)) modD) (some (.int 0)) gtD).bind asB) (seqR (asgX 3 (callT 9 T q (m_spoilt T q) (fun ρ => (bnd2 (gv 3 ρ) ((bnd2 (bnd2 (scrOf 0 ρ) ((some (.int 3)).bind asI) mixR) ((bnd2 (bnd2 (bnd2 (gb 1 ρ) (some (.int 3)) fdivD) (some (.int 3)) modD) (some []) consD)) consD)) consD)) ρ)) fun ρ =>
  asgX 4 (callT 9 T q (m_spoilt T q) (fun ρ => (bnd2 (gv 4 ρ) ((bnd2 (bnd2 (scrOf 0 ρ) ((some (.int 4)).bind asI) mixR) ((bnd2 (bnd2 (bnd2 (gb 1 ρ) (some (.int 16)) fdivD) (some (.int 8)) modD) (some []) consD)) consD)) consD)) ρ)) (some (.nx ρ))) [S, .val (.int x), .val N, .val l, .val b, .no, .no, .no, .no, tb T q] = some (.nx [S, .val (.int x), .val N, .val l', .val b', .no, .no, .no, .no, tb T q]) ∧ Wd 30 l' ∧ Wd 30 b' := by
  by_cases hx : 0 < x % 3
  · obtain ⟨l', el, wl⟩ := spoilt_ok T q (by decide) hl wl (mixN ns 3) (x / 3 % 3)
    obtain ⟨b', eb, wb⟩ := spoilt_ok T q (by decide) hb wb (mixN ns 4) (x / 16 % 8)
    refine ⟨l', b', if_yes ?_ ?_, wl.mono (by decide), wb.mono (by decide)⟩
    · simp only [gv_0, gv_s, gb_0, gb_s, scr_0, bnd2_ss, consD_, tupD_, lstD_, asgR_s, seqR_nx, seqR_ret, ifR_t, ifR_f, retR_s, retD_s, asB_b, asI_i, addD_ii, subD_ii, modD_ii, gtD_ii, geD_ii, leD_ii, ltD_ii, eqD_ii, eqD_ss, neD_ss, neD_ii, neD_bb, ixD_t, ixD_l, andB_t, andB_f, orB_t, orB_f, notV_b, mixR_, setsR_nil, setsR_cons, tg1_, tgT_1, tgT_2, tgT_4, asgG_u, walkD_t, walkD_l, tupleD_l, tupleD_t, listD_l, listD_t, lenD_t, lenD_l, wipeR_nil, wipeR_cons, Option.bind_some, Option.map_some, List.set_cons_zero, List.set_cons_succ, List.length_cons, List.length_nil, Nat.zero_add, Nat.reduceAdd, Nat.reduceLeDiff, Int.reduceAdd, Int.reduceLE, Int.reduceLT, Int.reduceNeg, Int.reduceSub, Int.reduceMul, Int.reduceEq, Bool.not_true, Bool.not_false, decide_true, decide_false, atI_0, atI_1, atI_2, atI_3, Int.reduceToNat, decide_eq_true hx]
    · refine seq_step (ρ := [S, .val (.int x), .val N, .val l', .val b, .no, .no, .no, .no, tb T q]) ?_ ?_
      · rw [callT_at (ds := [l, .int (mixN ns 3), .int (x / 3 % 3)]) (d := l') (by rfl) ?_ el]
        · rfl
        · show bnd2 (some l) (bnd2 (bnd2 (scrOf 0 _) _ mixR) (bnd2 (bnd2 (bnd2 (some (.int x)) (some (.int 3)) fdivD) (some (.int 3)) modD) (some []) consD) consD) consD = _
          rw [ixdm x 3 3 (by decide) (by decide), hS]
          rfl
      · rw [callT_at (ds := [b, .int (mixN ns 4), .int (x / 16 % 8)]) (d := b') (by rfl) ?_ eb]
        · rfl
        · show bnd2 (some b) (bnd2 (bnd2 (scrOf 0 _) _ mixR) (bnd2 (bnd2 (bnd2 (some (.int x)) (some (.int 16)) fdivD) (some (.int 8)) modD) (some []) consD) consD) consD = _
          rw [ixdm x 16 8 (by decide) (by decide), hS]
          rfl
  · refine ⟨l, b, if_no ?_ rfl, (okI_wd hl).mono (by decide), (okI_wd hb).mono (by decide)⟩
    simp only [gv_0, gv_s, gb_0, gb_s, scr_0, bnd2_ss, consD_, tupD_, lstD_, asgR_s, seqR_nx, seqR_ret, ifR_t, ifR_f, retR_s, retD_s, asB_b, asI_i, addD_ii, subD_ii, modD_ii, gtD_ii, geD_ii, leD_ii, ltD_ii, eqD_ii, eqD_ss, neD_ss, neD_ii, neD_bb, ixD_t, ixD_l, andB_t, andB_f, orB_t, orB_f, notV_b, mixR_, setsR_nil, setsR_cons, tg1_, tgT_1, tgT_2, tgT_4, asgG_u, walkD_t, walkD_l, tupleD_l, tupleD_t, listD_l, listD_t, lenD_t, lenD_l, wipeR_nil, wipeR_cons, Option.bind_some, Option.map_some, List.set_cons_zero, List.set_cons_succ, List.length_cons, List.length_nil, Nat.zero_add, Nat.reduceAdd, Nat.reduceLeDiff, Int.reduceAdd, Int.reduceLE, Int.reduceLT, Int.reduceNeg, Int.reduceSub, Int.reduceMul, Int.reduceEq, Bool.not_true, Bool.not_false, decide_true, decide_false, atI_0, atI_1, atI_2, atI_3, Int.reduceToNat, decide_eq_false hx]
theorem sp8 {S Tb : Sl} {x : Int} {N l b : PyData} (hb : Wd 30 b) : ∃ b' x5 x6, (fun ρ => ifR ((bnd2 (bnd2 (bnd2 (gb 1 ρ) (some (.int 128)) fdivD) (some (.int 4)) modD) (some (.int 1)) eqD).bind asB) (seqR (asgR 5 ρ (((bnd2 (((bnd2 (some (.str "not")) ((bnd2 (((bnd2 (some (.str "not")) ((bnd2 (((bnd2 (some (.str "yes")) (some []) consD)).bind tupD) (some []) consD)) consD)).bind tupD) (some []) consD)) consD)).bind tupD) ((bnd2 (bnd2 (((bnd2 (((bnd2 (some (.str "stop")) (some []) consD)).bind tupD) (some []) consD)).bind tupD) (bnd2 (bnd2 (gb 1 ρ) (some (.int 512)) fdivD) (some (.int 5)) modD) mulT) (some []) consD)) consD)).bind tupD)) fun ρ =>
  seqR (asgR 6 ρ (bnd2 (((bnd2 ((some []).bind tupD) ((bnd2 (((bnd2 (((bnd2 (some (.str "z")) ((bnd2 ((some []).bind tupD) (some []) consD)) consD)).bind tupD) (some []) consD)).bind tupD) ((bnd2 (((bnd2 (((bnd2 (some (.str "y")) ((bnd2 ((some []).bind tupD) (some []) consD)) consD)).bind tupD) ((bnd2 (((bnd2 (some (.str "z")) ((bnd2 ((some []).bind tupD) (some []) consD)) consD)).bind tupD) (some []) consD)) consD)).bind tupD) (some []) consD)) consD)) consD)).bind tupD) (bnd2 (bnd2 (gb 1 ρ) (some (.int 32768)) fdivD) (some (.int 3)) modD) ixD)) fun ρ =>
  seqR (asgR 4 ρ (bnd2 (((bnd2 (((bnd2 (some (.str "main")) ((bnd2 (bnd2 (((bnd2 (gv 5 ρ) (some []) consD)).bind tupD) (bnd2 (bnd2 (gb 1 ρ) (some (.int 4096)) fdivD) (some (.int 6)) modD) mulT) (some []) consD)) consD)).bind tupD) (some []) consD)).bind tupD) (gb 6 ρ) addD)) fun ρ =>
  ifR ((bnd2 (bnd2 (bnd2 (gb 1 ρ) (some (.int 131072)) fdivD) (some (.int 2)) modD) (some (.int 1)) eqD).bind asB) (asgR 4 ρ (bnd2 (((bnd2 (((bnd2 (some (.str "a")) ((bnd2 ((some []).bind tupD) (some []) consD)) consD)).bind tupD) (some []) consD)).bind tupD) (gb 4 ρ) addD)) (some (.nx ρ))) (some (.nx ρ))) [S, .val (.int x), .val N, .val l, .val b, .no, .no, .no, .no, Tb] = some (.nx [S, .val (.int x), .val N, .val l, .val b', x5, x6, .no, .no, Tb]) ∧ Wd 30 b' := by
  by_cases hx : x / 128 % 4 = 1
  · obtain ⟨ms, em, hm, wm⟩ := more_in x
    have wb := bookX_wd x wm
    have step : ∀ (c : Bool), c = decide (x / 131072 % 2 = 1) → ∃ b', ifR (some c) (asgR 4 [S, .val (.int x), .val N, .val l, .val (.tuple (bookX x ms)), .val (ruleX (x / 512 % 5)), .val (.tuple ms), .no, .no, Tb] (addD (.tuple [.tuple [.str "a", .tuple []]]) (.tuple (bookX x ms)))) (some (.nx [S, .val (.int x), .val N, .val l, .val (.tuple (bookX x ms)), .val (ruleX (x / 512 % 5)), .val (.tuple ms), .no, .no, Tb])) = some (.nx [S, .val (.int x), .val N, .val l, .val b', .val (ruleX (x / 512 % 5)), .val (.tuple ms), .no, .no, Tb]) ∧ Wd 30 b' := fun c _ => by
      cases c with
      | false => exact ⟨_, rfl, (Wd.tuple wb).mono (by decide)⟩
      | true =>
        refine ⟨.tuple ([.tuple [.str "a", .tuple []]] ++ bookX x ms), ?_, (Wd.tuple (n := 9) fun y hy => ?_).mono (by decide)⟩
        · rw [addT (by unfold bookX; simp only [List.length_cons, List.length_nil]; omega)]
          rfl
        · rcases List.mem_append.mp hy with hy | hy
          · rw [List.mem_singleton.mp hy]
            exact (wd_of (n := 2) (by decide +kernel)).mono (by decide)
          · exact wb y hy
    obtain ⟨b', e', w'⟩ := step _ rfl
    refine ⟨b', .val (ruleX (x / 512 % 5)), .val (.tuple ms), if_yes ?_ ?_, w'⟩
    · show (bnd2 (bnd2 (bnd2 (some (.int x)) (some (.int 128)) fdivD) (some (.int 4)) modD) (some (.int 1)) eqD).bind asB = _
      rw [ixdm x 128 4 (by decide) (by decide), bnd2_ss, eqD_ii, decide_eq_true hx]
      rfl
    · refine seq_step (ρ := [S, .val (.int x), .val N, .val l, .val b, .val (ruleX (x / 512 % 5)), .no, .no, .no, Tb]) ?_ ?_
      · show asgR 5 _ ((bnd2 _ (bnd2 (bnd2 (some (.tuple [.tuple [.str "stop"]])) (bnd2 (bnd2 (some (.int x)) (some (.int 512)) fdivD) (some (.int 5)) modD) mulT) (some []) consD) consD).bind tupD) = _
        rw [ixdm x 512 5 (by decide) (by decide), mulT_1 _ (x / 512 % 5) (by omega)]
        rfl
      refine seq_step (ρ := [S, .val (.int x), .val N, .val l, .val b, .val (ruleX (x / 512 % 5)), .val (.tuple ms), .no, .no, Tb]) ?_ ?_
      · show asgR 6 _ (bnd2 (some _) (bnd2 (bnd2 (some (.int x)) (some (.int 32768)) fdivD) (some (.int 3)) modD) ixD) = _
        rw [ixdm x 32768 3 (by decide) (by decide), bnd2_ss, em]
        rfl
      refine seq_step (ρ := [S, .val (.int x), .val N, .val l, .val (.tuple (bookX x ms)), .val (ruleX (x / 512 % 5)), .val (.tuple ms), .no, .no, Tb]) ?_ ?_
      · show asgR 4 _ (bnd2 ((bnd2 ((bnd2 (some (.str "main")) (bnd2 (bnd2 (some (.tuple [ruleX (x / 512 % 5)])) (bnd2 (bnd2 (some (.int x)) (some (.int 4096)) fdivD) (some (.int 6)) modD) mulT) (some []) consD) consD).bind tupD) (some []) consD).bind tupD) (some (.tuple ms)) addD) = _
        rw [ixdm x 4096 6 (by decide) (by decide), mulT_1 _ (x / 4096 % 6) (by omega)]
        show asgR 4 _ (addD (.tuple [_]) (.tuple ms)) = _
        rw [addT (by simp only [List.length_cons, List.length_nil]; omega)]
        rfl
      · refine Eq.trans ?_ e'
        show ifR ((bnd2 (bnd2 (bnd2 (some (.int x)) (some (.int 131072)) fdivD) (some (.int 2)) modD) (some (.int 1)) eqD).bind asB) _ _ = _
        rw [ixdm x 131072 2 (by decide) (by decide), bnd2_ss, eqD_ii]
        rfl
  · refine ⟨b, .no, .no, if_no ?_ rfl, hb⟩
    show (bnd2 (bnd2 (bnd2 (some (.int x)) (some (.int 128)) fdivD) (some (.int 4)) modD) (some (.int 1)) eqD).bind asB = _
    rw [ixdm x 128 4 (by decide) (by decide), bnd2_ss, eqD_ii, decide_eq_false hx]
    rfl
theorem turn {d : PyData} (h : Wd 59 d) (S Tb : Sl) (x1 x2 x3 x4 x5 x6 x8 : Sl) (T : Addr) (q : Str) (q1 q2 q3 q4 q5 q6 : List PyData → Option PyData) : Nx (fun ρ => ∃ x7 x8, ρ = [S, x1, x2, x3, x4, x5, x6, x7, x8, Tb]) (fb__law_once_b1 q1 q2 q3 q4 T q q5 q6 m_isl m_lisl m_isb m_lisb [S, x1, x2, x3, x4, x5, x6, .val d, x8, Tb]) := by
  classical
  unfold fb__law_once_b1
  refine nx_step (ρ := [S, x1, x2, x3, x4, x5, x6, .val d, .val (.bool (letB d)), Tb]) ?_ ?_
  · show asgR 8 _ (m_isl [d]) = _
    rw [isl_tot h.wf]
    rfl
  refine nx_step (ρ := [S, x1, x2, x3, x4, x5, x6, .val d, .val (.bool (letB d)), Tb]) (if_no ?_ rfl) ?_
  · show orB (some false) ((bnd2 (some (.bool (letB d))) (m_lisl [d]) neD).bind asB) = _
    rw [lisl_tot h, bnd2_ss, neD_bb]
    simp
    rfl
  refine nx_step (ρ := [S, x1, x2, x3, x4, x5, x6, .val d, .val (.bool (decide (bookP d))), Tb]) ?_ ?_
  · show asgR 8 _ (m_isb [d]) = _
    rw [isb_tot h.wf]
    rfl
  refine nx_fin (if_no ?_ rfl) ⟨_, _, rfl⟩
  show orB (some false) ((bnd2 (some (.bool (decide (bookP d)))) (m_lisb [d]) neD).bind asB) = _
  rw [lisb_tot h, bnd2_ss, neD_bb]
  simp
  rfl
def m_once (T : Addr) (q : Str) : List PyData → Option PyData := runT 9 1 T q (fb__law_once m_any (m_sw 12) m_letter (m_book 3) T q (m_spoilt T q) m_edges m_isl m_lisl m_isb m_lisb)
theorem intsD_map : ∀ ns : List Int, intsD (ns.map .int) = some ns
  | [] => rfl
  | n :: ns => by
    show (intsD (ns.map .int)).map (n :: ·) = _
    rw [intsD_map ns]
    rfl
theorem mix_S {S : Sl} {ns : List Int} (hS : ∀ r : Rho, scrOf 0 (S :: r) = some ns) (r : Rho) (k : Int) (h0 : 0 ≤ k := by decide) : bnd2 (scrOf 0 (S :: r)) ((some (.int k)).bind asI) mixR = some (.int (mixN ns k)) := by
  rw [hS]
  exact if_pos h0
def Rx (T : Addr) (q : Str) (o : Option Res) : Prop := ∃ ρ, o = some (.rex (.bool true) ρ) ∧ ρ[9]? = some (tb T q)
theorem rx_step {T : Addr} {q : Str} {a : Option Res} {g : Rho → Option Res} {ρ : Rho} (h : a = some (.nx ρ)) (h2 : Rx T q (g ρ)) : Rx T q (seqR a g) := by rw [h]; exact h2
theorem rx_for {T : Addr} {q : Str} {R : Rho → Prop} {a : Option Res} {g : Rho → Option Res} (h : Nx R a) (h2 : ∀ ρ, R ρ → Rx T q (g ρ)) : Rx T q (seqR a g) := by
  obtain ⟨ρ, e, r⟩ := h
  exact rx_step e (h2 ρ r)
theorem once_S (T : Addr) (q : Str) {S : Sl} {ns : List Int} (hS : ∀ r : Rho, scrOf 0 (S :: r) = some ns) : Rx T q (fb__law_once m_any (m_sw 12) m_letter (m_book 3) T q (m_spoilt T q) m_edges m_isl m_lisl m_isb m_lisb [S, .no, .no, .no, .no, .no, .no, .no, .no, tb T q]) := by
  unfold fb__law_once
  obtain ⟨s1, e1, n1⟩ := any_ok (mixN ns 7)
  obtain ⟨s2, e2, n2⟩ := any_ok (mixN ns 8)
  obtain ⟨s3, e3, n3⟩ := any_ok (mixN ns 9)
  have hσ := sgm_ok (okS_nm n1) (okS_nm n2) (okS_nm n3)
  refine rx_step (ρ := [S, .val (.int (mixN ns 0)), .no, .no, .no, .no, .no, .no, .no, tb T q]) (by rw [mix_S hS _ 0]; rfl) ?_
  refine rx_step (ρ := [S, .val (.int (mixN ns 0)), .own ⟨.nd (.dk [.inr "ann", .inr "hi"]) [.dat (.str s1), .dat (.str s2)], false⟩, .no, .no, .no, .no, .no, .no, tb T q]) ?_ ?_
  · rw [mix_S hS _ 7, mix_S hS _ 8]
    show asgO 2 _ ((dispP (some (.str "ann")) ((m_any [.int (mixN ns 7), .int 5]).map .dat) (dispP (some (.str "hi")) ((m_any [.int (mixN ns 8), .int 5]).map .dat) (some []))).bind dispO) = _
    rw [e1, e2]
    rfl
  refine rx_step (ρ := [S, .val (.int (mixN ns 0)), .own ⟨.nd (.dk [.inr "ann", .inr "hi", .inr "sub"]) [.dat (.str s1), .dat (.str s2), .dat (.str s3)], false⟩, .no, .no, .no, .no, .no, .no, tb T q]) ?_ ?_
  · rw [mix_S hS _ 9]
    show putP 2 _ _ (some (.str "sub")) (m_any [.int (mixN ns 9), .int 5]) = _
    rw [e3]
    rfl
  rw [show sealR 2 [S, .val (.int (mixN ns 0)), .own ⟨.nd (.dk [.inr "ann", .inr "hi", .inr "sub"]) [.dat (.str s1), .dat (.str s2), .dat (.str s3)], false⟩, .no, .no, .no, .no, .no, .no, tb T q] = [S, .val (.int (mixN ns 0)), .val (nmsD s1 s2 s3), .no, .no, .no, .no, .no, .no, tb T q] from rfl]
  obtain ⟨a, ws, c, d, ts, el, es, okl, wdl⟩ := letter_in' hσ (mixN ns 1)
  refine rx_step (ρ := [S, .val (.int (mixN ns 0)), .val (nmsD s1 s2 s3), .val (.tuple [a, .tuple ws, c, d]), .no, .no, .no, .no, .no, tb T q]) ?_ ?_
  · dsimp only
    rw [mix_S hS _ 1]
    show asgR 3 _ ((bnd2 (m_letter [.int (mixN ns 1)]) (some [nmsD s1 s2 s3]) consD).bind (m_sw 12)) = _
    rw [letter_eq]
    show asgR 3 _ (m_sw 12 [(letterN (mixN ns 1)).enc, nmsD s1 s2 s3]) = _
    rw [sw_eq (nms_get s1 s2 s3) 12 _ (okI_tsi (okI_mono (okI_letter _) (by decide))), el]
    rfl
  refine rx_step (ρ := [S, .val (.int (mixN ns 0)), .val (nmsD s1 s2 s3), .val (.tuple [a, .tuple ts, c, d]), .no, .no, .no, .no, .no, tb T q]) ?_ ?_
  · show asgR 3 _ (bnd2 (bnd2 (some (.tuple [a])) ((bnd2 ((sortV (.tuple ws)).bind tupleD) (some []) consD).bind tupD) addD) (some (.tuple [c, d])) addD) = _
    rw [es]
    rfl
  rw [show sealR 2 [S, .val (.int (mixN ns 0)), .val (nmsD s1 s2 s3), .val (.tuple [a, .tuple ts, c, d]), .no, .no, .no, .no, .no, tb T q] = [S, .val (.int (mixN ns 0)), .val (nmsD s1 s2 s3), .val (.tuple [a, .tuple ts, c, d]), .no, .no, .no, .no, .no, tb T q] from rfl]
  have gb := (bookN_vb (mixN ns 2)).1
  obtain ⟨ds, eb, okb, wdb⟩ := sort_book' (sgm_kw s1 s2 s3) hσ gb
  refine rx_step (ρ := [S, .val (.int (mixN ns 0)), .val (nmsD s1 s2 s3), .val (.tuple [a, .tuple ts, c, d]), .val (.tuple ds), .no, .no, .no, .no, tb T q]) ?_ ?_
  · dsimp only
    rw [mix_S hS _ 2]
    show asgR 4 _ ((((bnd2 (m_book 3 [.int (mixN ns 2)]) (some [nmsD s1 s2 s3]) consD).bind (m_sw 12)).bind sortV).bind tupleD) = _
    rw [book_eq]
    show asgR 4 _ (((m_sw 12 [(bookN (mixN ns 2)).enc, nmsD s1 s2 s3]).bind sortV).bind tupleD) = _
    rw [sw_eq (nms_get s1 s2 s3) 12 _ (okI_tsi (okI_mono gb.okI (by decide)))]
    rw [Option.bind_some, eb]
    rfl
  obtain ⟨l', b', e7, wl, wb⟩ := sp7 (T := T) (q := q) hS (x := mixN ns 0) (N := nmsD s1 s2 s3) okl okb wdl wdb
  refine rx_step e7 ?_
  obtain ⟨b'', x5, x6, e8, wb⟩ := sp8 (S := S) (Tb := tb T q) (x := mixN ns 0) (N := nmsD s1 s2 s3) (l := l') wb
  refine rx_step e8 ?_
  obtain ⟨p, p', ee, wp, wq⟩ := edges_ok (mixN ns 10)
  refine rx_for (R := fun ρ => ∃ x7 x8, ρ = [S, .val (.int (mixN ns 0)), .val (nmsD s1 s2 s3), .val l', .val b'', x5, x6, x7, x8, tb T q]) ?_ ?_
  · rw [mix_S hS _ 10]
    show Nx _ (forR ((bnd2 (some (.tuple [l', b''])) (m_edges [.int (mixN ns 10)]) addD).bind walkD) _ _ _ _)
    rw [ee]
    have := for_keep (h := tg1) (is := [7]) (body := fb__law_once_b1 m_any (m_sw 12) m_letter (m_book 3) T q (m_spoilt T q) m_edges m_isl m_lisl m_isb m_lisb) (fun d : PyData => d) (fun d => [d]) (fun ρ => ∃ x7 x8, ρ = [S, .val (.int (mixN ns 0)), .val (nmsD s1 s2 s3), .val l', .val b'', x5, x6, x7, x8, tb T q]) [l', b'', p, p'] [S, .val (.int (mixN ns 0)), .val (nmsD s1 s2 s3), .val l', .val b'', x5, x6, .no, .no, tb T q] (fun _ _ => rfl) (fun d hd ρ hρ => by
      obtain ⟨x7, x8, rfl⟩ := hρ
      have wd : Wd 59 d := by
        simp only [List.mem_cons, List.not_mem_nil, or_false] at hd
        rcases hd with rfl | rfl | rfl | rfl
        · exact wl.mono (by decide)
        · exact wb.mono (by decide)
        · exact wp.mono (by decide)
        · exact wq.mono (by decide)
      exact turn wd S (tb T q) _ _ _ _ _ _ _ _ _ _ _ _ _ _ _) ⟨_, _, rfl⟩
    rw [Sv.id_map] at this
    exact this
  · rintro ρ ⟨x7, x8, rfl⟩
    exact ⟨_, rfl, rfl⟩
theorem once_true (T : Addr) (q : Str) (ns : List Int) : m_once T q [.list (ns.map .int)] = some (.bool true) := by
  obtain ⟨ρ, e, h9⟩ := once_S T q (S := .val (.list (ns.map .int))) (ns := ns) fun r => intsD_map ns
  exact runT_at rfl e h9
theorem law_true (T : Addr) (q : Str) (ns : List Int) (hn : ns.length ≤ 63) : retD (fb_law T q (m_once T q) (scrT 2 T q ns)) = some (.bool true) := by
  rw [show scrT 2 T q ns = [.scr ns, .no, .no, tb T q] from rfl]
  unfold fb_law
  refine rt_for (S := fun ρ => ∃ x1 x2, ρ = [.scr ns, x1, x2, tb T q]) ?_ ?_
  · show Nx _ (forR (rng1D [.int 8]) _ _ _ _)
    rw [rng1_n 8 (by decide)]
    refine for_keep (h := tg1) (is := [1]) (fun i : Nat => PyData.int (i : Int)) (fun i => [.int (i : Int)]) (fun ρ => ∃ x1 x2, ρ = [.scr ns, x1, x2, tb T q]) _ _ (fun _ _ => rfl) (fun i hi ρ hρ => ?_) ⟨_, _, rfl⟩
    obtain ⟨x1, x2, rfl⟩ := hρ
    refine ⟨[.scr ns, .val (.int (i : Int)), x2, tb T q], ?_, _, _, rfl⟩
    show fb_law_b1 T q (m_once T q) [.scr ns, .val (.int (i : Int)), x2, tb T q] = _
    unfold fb_law_b1
    have hi : i < 8 := List.mem_range.mp hi
    have e := compL_map (h := tg1) (is := [2]) (vs := [2]) (ρ := [.scr ns, .val (.int (i : Int)), x2, tb T q]) (fe := fun ρ => bnd2 (gb 2 ρ) (bnd2 (some (.int 104729)) (gb 1 ρ) mulA) addD) (fun i : Int => PyData.int i) (fun i => [.int i]) (fun c => .int (c + 104729 * (i : Int))) ns (by omega) (fun _ _ => rfl) (fun c _ => by
      show bnd2 (some (.int c)) (mulD (.int 104729) (.int (i : Int))) addD = _
      rw [mulD_ii _ _ (.inl (by decide))]
      rfl)
    rw [callT_at (ds := [.list ((ns.map (fun c => c + 104729 * (i : Int)) ++ [(i : Int)]).map .int)]) (d := .bool true) (by rfl) ?_ (once_true T q _)]
    · rfl
    · show bnd2 (bnd2 (compL (some (ns.map PyData.int)) tg1 [2] (fun ρ => some true) (fun ρ => bnd2 (gb 2 ρ) (bnd2 (some (.int 104729)) (gb 1 ρ) mulA) addD) [2] [.scr ns, .val (.int (i : Int)), x2, tb T q]) (some (.list [.int (i : Int)])) addD) (some []) consD = _
      rw [e, bnd2_ss, addL9 (by simp; omega), List.map_append, List.map_map]
      rfl
  · rintro ρ ⟨x1, x2, rfl⟩
    rfl
end K09
namespace K09
open PySem L2 Evl Sv
theorem law_fn {P : Program} {w : World} {K : Fg} {mg : Str → Option Value} {base h : Heap} (X : K.In h) (G : h.Ns mainGlobals mg) (b : BIk K) (d_is_name : Dn K "is_name" s_is_name) (d_is_number : Dn K "is_number" s_is_number) (d_are_rising : Dn K "are_rising" s_are_rising) (d_are_names : Dn K "are_names" s_are_names) (d_is_letter : Dn K "is_letter" s_is_letter) (d_is_test : Dn K "is_test" s_is_test) (d_is_deed : Dn K "is_deed" s_is_deed) (d_is_rule : Dn K "is_rule" s_is_rule) (d_is_part : Dn K "is_part" s_is_part) (d_calls_of : Dn K "calls_of" s_calls_of) (d_is_book : Dn K "is_book" s_is_book) (d__law_cell_at : Dn K "_law_cell_at" s__law_cell_at) (d__law_mixed : Dn K "_law_mixed" s__law_mixed) (d__law_drawn : Dn K "_law_drawn" s__law_drawn) (d__law_any : Dn K "_law_any" s__law_any) (d__law_swapped : Dn K "_law_swapped" s__law_swapped) (d__law_test : Dn K "_law_test" s__law_test) (d__law_deed : Dn K "_law_deed" s__law_deed) (d__law_book : Dn K "_law_book" s__law_book) (d__law_letter : Dn K "_law_letter" s__law_letter) (d__law_is_name : Dn K "_law_is_name" s__law_is_name) (d__law_is_number : Dn K "_law_is_number" s__law_is_number) (d__law_is_test : Dn K "_law_is_test" s__law_is_test) (d__law_is_deed : Dn K "_law_is_deed" s__law_is_deed) (d__law_is_rule : Dn K "_law_is_rule" s__law_is_rule) (d__law_is_book : Dn K "_law_is_book" s__law_is_book) (d__law_are_names : Dn K "_law_are_names" s__law_are_names) (d__law_is_letter : Dn K "_law_is_letter" s__law_is_letter) (d__law_edges : Dn K "_law_edges" s__law_edges) (d__law_places_in : Dn K "_law_places_in" s__law_places_in) (d__law_put_at : Dn K "_law_put_at" s__law_put_at) (d__law_otherwise : Dn K "_law_otherwise" s__law_otherwise) (d__law_spoilt : Dn K "_law_spoilt" s__law_spoilt) (d__law_once : Dn K "_law_once" s__law_once) (d_law : Dn K "law" s_law) {t_MAIN : Tok} (h_MAIN : PySem.W.nsIn K mainGlobals "MAIN" = some (some (.str "main" t_MAIN))) {t_LETTERS : Tok} (h_LETTERS : PySem.W.nsIn K mainGlobals "LETTERS" = some (some (.str "abcdefghijklmnopqrstuvwxyz" t_LETTERS))) {t_LONGEST : Tok} (h_LONGEST : PySem.W.nsIn K mainGlobals "LONGEST" = some (some (.int 5 t_LONGEST))) {t_MOST_NUMBER : Tok} (h_MOST_NUMBER : PySem.W.nsIn K mainGlobals "MOST_NUMBER" = some (some (.int 999 t_MOST_NUMBER))) {t_MOST_NAMES : Tok} (h_MOST_NAMES : PySem.W.nsIn K mainGlobals "MOST_NAMES" = some (some (.int 3 t_MOST_NAMES))) {t_MOST_RULES : Tok} (h_MOST_RULES : PySem.W.nsIn K mainGlobals "MOST_RULES" = some (some (.int 4 t_MOST_RULES))) {t_MOST_DEEDS : Tok} (h_MOST_DEEDS : PySem.W.nsIn K mainGlobals "MOST_DEEDS" = some (some (.int 3 t_MOST_DEEDS))) {t_MOST_PARTS : Tok} (h_MOST_PARTS : PySem.W.nsIn K mainGlobals "MOST_PARTS" = some (some (.int 3 t_MOST_PARTS))) {t_DEEPEST : Tok} (h_DEEPEST : PySem.W.nsIn K mainGlobals "DEEPEST" = some (some (.int 3 t_DEEPEST))) {a_NAMED_TESTS : Addr} (h_NAMED_TESTS : PySem.W.nsIn K mainGlobals "NAMED_TESTS" = some (some (.ref a_NAMED_TESTS))) (k_NAMED_TESTS : KTup K a_NAMED_TESTS [.inr "from", .inr "word", .inr "marked"]) {a_JOINS : Addr} (h_JOINS : PySem.W.nsIn K mainGlobals "JOINS" = some (some (.ref a_JOINS))) (k_JOINS : KTup K a_JOINS [.inr "both", .inr "either"]) {a_NAMED_DEEDS : Addr} (h_NAMED_DEEDS : PySem.W.nsIn K mainGlobals "NAMED_DEEDS" = some (some (.ref a_NAMED_DEEDS))) (k_NAMED_DEEDS : KTup K a_NAMED_DEEDS [.inr "lay", .inr "send", .inr "answer", .inr "mark", .inr "unmark", .inr "call"]) {fa : Addr} {fd : FuncData} (F : Fun K "law" "law" s_law fa fd) (TB : LamX.TabB base mg (codeX K "_law_spoilt") (tabX K "_law_spoilt")) :
    LawG P w K mg base (tabX K "_law_spoilt") fa := by
  have B := b.of X G
  have g_MAIN := PySem.W.mg_of X G h_MAIN
  have g_LETTERS := PySem.W.mg_of X G h_LETTERS
  have g_LONGEST := PySem.W.mg_of X G h_LONGEST
  have g_MOST_NUMBER := PySem.W.mg_of X G h_MOST_NUMBER
  have g_MOST_NAMES := PySem.W.mg_of X G h_MOST_NAMES
  have g_MOST_RULES := PySem.W.mg_of X G h_MOST_RULES
  have g_MOST_DEEDS := PySem.W.mg_of X G h_MOST_DEEDS
  have g_MOST_PARTS := PySem.W.mg_of X G h_MOST_PARTS
  have g_DEEPEST := PySem.W.mg_of X G h_DEEPEST
  have g_NAMED_TESTS := PySem.W.mg_of X G h_NAMED_TESTS
  have g_JOINS := PySem.W.mg_of X G h_JOINS
  have g_NAMED_DEEDS := PySem.W.mg_of X G h_NAMED_DEEDS
  have c1 : CalS P w K mg base 1 "_law_cell_at" ["script", "k"] (Sv.spCell K) := d__law_cell_at.cal X G (fun _ _ _ _ _ _ us hl => match us, hl with | [_, _], _ => rfl) fun f fd F => ok__law_cell_at (k := 0) F B
  have c2 : CalS P w K mg base 2 "_law_mixed" ["script", "k"] (spMix K) := d__law_mixed.cal X G (fun _ _ _ _ _ _ us hl => match us, hl with | [_, _], _ => rfl) fun f fd F => ok__law_mixed (k := 1) F c1
  have c3 : Cal P w K mg base 1 "_law_drawn" ["number", "k"] m_drawn := d__law_drawn.cal X G (fun _ _ _ _ _ _ us hl => match us, hl with | [_, _], _ => rfl) fun f fd F => ok__law_drawn (k := 0) F B
  have c4 : Cal P w K mg base 4 "_law_test" ["number", "deep"] (m_test 3) := d__law_test.recs (k₀ := 1) X G (fun _ _ _ _ _ _ us hl => match us, hl with | [_, _], _ => rfl) (fun f fd j m F hj c => ok__law_test F B c (c3.mono hj)) 3
  have c5b : Cal P w K mg base 1 "_law_deed" ["number", "names"] m_deed := d__law_deed.cal X G (fun _ _ _ _ _ _ us hl => match us, hl with | [_, _], _ => rfl) fun f fd F => ok__law_deed (k := 0) F B
  have c5c : Cal P w K mg base 5 "_law_book" ["number"] (m_book 3) := d__law_book.cal X G (fun _ _ _ _ _ _ us hl => match us, hl with | [_], _ => rfl) fun f fd F => ok__law_book (k := 4) F B (c3.mono (by decide)) (c5b.mono (by decide)) c4
  have c5 : Cal P w K mg base 1 "_law_letter" ["number"] m_letter := d__law_letter.cal X G (fun _ _ _ _ _ _ us hl => match us, hl with | [_], _ => rfl) fun f fd F => ok__law_letter (k := 0) F B
  have ci1 : Cal P w K mg base 1 "is_name" ["thing"] m_isn := d_is_name.cal X G (fun _ _ _ _ _ _ us hl => match us, hl with | [_], _ => rfl) fun f fd F => ok_is_name (k := 0) F B g_LONGEST g_LETTERS
  have ci2 : Cal P w K mg base 1 "is_number" ["thing"] m_isnum := d_is_number.cal X G (fun _ _ _ _ _ _ us hl => match us, hl with | [_], _ => rfl) fun f fd F => ok_is_number (k := 0) F B g_MOST_NUMBER
  have ci3 : Cal P w K mg base 1 "are_rising" ["some"] m_ris := d_are_rising.cal X G (fun _ _ _ _ _ _ us hl => match us, hl with | [_], _ => rfl) fun f fd F => ok_are_rising (k := 0) F B
  have ci4 : ∀ n, Cal P w K mg base (1 + n) "is_test" ["thing", "deep"] (m_ist n) := fun n => d_is_test.recs (k₀ := 1) X G (fun _ _ _ _ _ _ us hl => match us, hl with | [_, _], _ => rfl) (fun f fd j m F hj c => ok_is_test F B g_JOINS k_JOINS c (ci2.mono hj) g_NAMED_TESTS k_NAMED_TESTS (ci1.mono hj)) n
  have ci5 : Cal P w K mg base 2 "is_deed" ["thing"] m_isd := d_is_deed.cal X G (fun _ _ _ _ _ _ us hl => match us, hl with | [_], _ => rfl) fun f fd F => ok_is_deed (k := 1) F B g_NAMED_DEEDS k_NAMED_DEEDS ci1
  have ci6 : Cal P w K mg base 6 "is_rule" ["thing"] m_isr := d_is_rule.cal X G (fun _ _ _ _ _ _ us hl => match us, hl with | [_], _ => rfl) fun f fd F => ok_is_rule (k := 5) F B (ci4 4) g_DEEPEST g_MOST_DEEDS (ci5.mono (by decide))
  have ci7 : Cal P w K mg base 7 "is_part" ["thing"] m_isp := d_is_part.cal X G (fun _ _ _ _ _ _ us hl => match us, hl with | [_], _ => rfl) fun f fd F => ok_is_part (k := 6) F B (ci1.mono (by decide)) g_MOST_RULES ci6
  have ci8 : Cal P w K mg base 1 "calls_of" ["rule"] m_cls := d_calls_of.cal X G (fun _ _ _ _ _ _ us hl => match us, hl with | [_], _ => rfl) fun f fd F => ok_calls_of (k := 0) F B
  have cib : Cal P w K mg base 8 "is_book" ["thing"] m_isb := d_is_book.cal X G (fun _ _ _ _ _ _ us hl => match us, hl with | [_], _ => rfl) fun f fd F => ok_is_book (k := 7) F B g_MOST_PARTS ci7 (ci3.mono (by decide)) g_MAIN (ci8.mono (by decide))
  have cin : Cal P w K mg base 2 "are_names" ["thing"] m_arn := d_are_names.cal X G (fun _ _ _ _ _ _ us hl => match us, hl with | [_], _ => rfl) fun f fd F => ok_are_names (k := 1) F B g_MOST_NAMES ci1 ci3
  have cil : Cal P w K mg base 3 "is_letter" ["thing"] m_isl := d_is_letter.cal X G (fun _ _ _ _ _ _ us hl => match us, hl with | [_], _ => rfl) fun f fd F => ok_is_letter (k := 2) F B (ci1.mono (by decide)) cin (ci2.mono (by decide))
  have cl1 : Cal P w K mg base 1 "_law_is_name" ["thing"] m_lisn := d__law_is_name.cal X G (fun _ _ _ _ _ _ us hl => match us, hl with | [_], _ => rfl) fun f fd F => ok__law_is_name (k := 0) F B
  have cl2 : Cal P w K mg base 1 "_law_is_number" ["thing"] m_lisnum := d__law_is_number.cal X G (fun _ _ _ _ _ _ us hl => match us, hl with | [_], _ => rfl) fun f fd F => ok__law_is_number (k := 0) F B
  have cl4 : ∀ n, Cal P w K mg base (1 + n) "_law_is_test" ["thing", "deep"] (m_list n) := fun n => d__law_is_test.recs (k₀ := 1) X G (fun _ _ _ _ _ _ us hl => match us, hl with | [_, _], _ => rfl) (fun f fd j m F hj c => ok__law_is_test F B c (cl2.mono hj) (cl1.mono hj)) n
  have cl5 : Cal P w K mg base 2 "_law_is_deed" ["thing", "names"] m_lisd := d__law_is_deed.cal X G (fun _ _ _ _ _ _ us hl => match us, hl with | [_, _], _ => rfl) fun f fd F => ok__law_is_deed (k := 1) F B cl1
  have cl6 : Cal P w K mg base 6 "_law_is_rule" ["thing", "names"] m_lisr := d__law_is_rule.cal X G (fun _ _ _ _ _ _ us hl => match us, hl with | [_, _], _ => rfl) fun f fd F => ok__law_is_rule (k := 5) F B (cl4 4) (cl5.mono (by decide))
  have cl7 : Cal P w K mg base 7 "_law_is_book" ["thing"] m_lisb := d__law_is_book.cal X G (fun _ _ _ _ _ _ us hl => match us, hl with | [_], _ => rfl) fun f fd F => ok__law_is_book (k := 6) F B (cl1.mono (by decide)) cl6
  have cl8 : Cal P w K mg base 2 "_law_are_names" ["thing"] m_larn := d__law_are_names.cal X G (fun _ _ _ _ _ _ us hl => match us, hl with | [_], _ => rfl) fun f fd F => ok__law_are_names (k := 1) F B cl1
  have cl9 : Cal P w K mg base 3 "_law_is_letter" ["thing"] m_lisl := d__law_is_letter.cal X G (fun _ _ _ _ _ _ us hl => match us, hl with | [_], _ => rfl) fun f fd F => ok__law_is_letter (k := 2) F B (cl1.mono (by decide)) (cl2.mono (by decide)) cl8
  have can : Cal P w K mg base 2 "_law_any" ["number", "most"] m_any := d__law_any.cal X G (fun _ _ _ _ _ _ us hl => match us, hl with | [_, _], _ => rfl) fun f fd F => ok__law_any (k := 1) F B c3
  have csw : ∀ n, Cal P w K mg base (0 + n) "_law_swapped" ["thing", "book"] (m_sw n) := fun n => d__law_swapped.recs (k₀ := 0) X G (fun _ _ _ _ _ _ us hl => match us, hl with | [_, _], _ => rfl) (fun f fd j m F hj c => ok__law_swapped F B c) n
  have ced : Cal P w K mg base 2 "_law_edges" ["number"] m_edges := d__law_edges.cal X G (fun _ _ _ _ _ _ us hl => match us, hl with | [_], _ => rfl) fun f fd F => ok__law_edges (k := 1) F B c3
  have cpl : ∀ n, Cal P w K mg base (0 + n) "_law_places_in" ["bent_one", "bent_way"] (m_places n) := fun n => d__law_places_in.recs (k₀ := 0) X G (fun _ _ _ _ _ _ us hl => match us, hl with | [_, _], _ => rfl) (fun f fd j m F hj c => ok__law_places_in F B c) n
  have cot : Cal P w K mg base 1 "_law_otherwise" ["bent_one", "bent_number"] m_oth := d__law_otherwise.cal X G (fun _ _ _ _ _ _ us hl => match us, hl with | [_, _], _ => rfl) fun f fd F => ok__law_otherwise (k := 0) F B
  obtain ⟨f1, fd1, F1, a1⟩ := d__law_spoilt.ex
  have csp : CalS P w K mg base 12 "_law_spoilt" ["thing", "number", "deep"] (spT K (tabX K "_law_spoilt") (lamQn "_law_spoilt") (m_spoilt (tabX K "_law_spoilt") (lamQn "_law_spoilt"))) := cal_of F1 (PySem.W.mg_of X G a1) (F1.binds (fun _ _ _ _ _ _ us hl => match us, hl with | [_, _, _], _ => rfl)) (ok__law_spoilt (k0 := 1) (n := 9) F1 a1 B X G TB rfl d__law_put_at ((cpl 9).mono (by decide)) cot)
  have con : CalS P w K mg base 13 "_law_once" ["script"] (spT K (tabX K "_law_spoilt") (lamQn "_law_spoilt") (m_once (tabX K "_law_spoilt") (lamQn "_law_spoilt"))) := d__law_once.cal X G (fun _ _ _ _ _ _ us hl => match us, hl with | [_], _ => rfl) fun f fd F => ok__law_once (k := 12) F B (c2.mono (by decide)) (can.mono (by decide)) (csw 12) (c5.mono (by decide)) (c5c.mono (by decide)) csp (ced.mono (by decide)) (cil.mono (by decide)) (cl9.mono (by decide)) (cib.mono (by decide)) (cl7.mono (by decide))
  exact ok_law (k := 13) F B ⟨rfl, by decide, by decide⟩ (c2.mono (by decide)) con fun ns hn => law_true _ _ ns hn
theorem all_mk {P : Program} {w : World} {K : Fg} {mg : Str → Option Value} {h : Heap} (X : K.In h) (G : h.Ns mainGlobals mg) {f_is_name : Addr} {od_is_name an_is_name : Option Addr} {sl_is_name : Array (Option Value)} {oc_is_name kV_is_name dc_is_name pm_is_name cd_is_name ct_is_name : Value} {f_is_number : Addr} {od_is_number an_is_number : Option Addr} {sl_is_number : Array (Option Value)} {oc_is_number kV_is_number dc_is_number pm_is_number cd_is_number ct_is_number : Value} {f_are_rising : Addr} {od_are_rising an_are_rising : Option Addr} {sl_are_rising : Array (Option Value)} {oc_are_rising kV_are_rising dc_are_rising pm_are_rising cd_are_rising ct_are_rising : Value} {f_are_names : Addr} {od_are_names an_are_names : Option Addr} {sl_are_names : Array (Option Value)} {oc_are_names kV_are_names dc_are_names pm_are_names cd_are_names ct_are_names : Value} {f_is_letter : Addr} {od_is_letter an_is_letter : Option Addr} {sl_is_letter : Array (Option Value)} {oc_is_letter kV_is_letter dc_is_letter pm_is_letter cd_is_letter ct_is_letter : Value} {f_is_test : Addr} {od_is_test an_is_test : Option Addr} {sl_is_test : Array (Option Value)} {oc_is_test kV_is_test dc_is_test pm_is_test cd_is_test ct_is_test : Value} {f_is_deed : Addr} {od_is_deed an_is_deed : Option Addr} {sl_is_deed : Array (Option Value)} {oc_is_deed kV_is_deed dc_is_deed pm_is_deed cd_is_deed ct_is_deed : Value} {f_is_rule : Addr} {od_is_rule an_is_rule : Option Addr} {sl_is_rule : Array (Option Value)} {oc_is_rule kV_is_rule dc_is_rule pm_is_rule cd_is_rule ct_is_rule : Value} {f_is_part : Addr} {od_is_part an_is_part : Option Addr} {sl_is_part : Array (Option Value)} {oc_is_part kV_is_part dc_is_part pm_is_part cd_is_part ct_is_part : Value} {f_calls_of : Addr} {od_calls_of an_calls_of : Option Addr} {sl_calls_of : Array (Option Value)} {oc_calls_of kV_calls_of dc_calls_of pm_calls_of cd_calls_of ct_calls_of : Value} {f_is_book : Addr} {od_is_book an_is_book : Option Addr} {sl_is_book : Array (Option Value)} {oc_is_book kV_is_book dc_is_book pm_is_book cd_is_book ct_is_book : Value} {f__law_cell_at : Addr} {od__law_cell_at an__law_cell_at : Option Addr} {sl__law_cell_at : Array (Option Value)} {oc__law_cell_at kV__law_cell_at dc__law_cell_at pm__law_cell_at cd__law_cell_at ct__law_cell_at : Value} {f__law_mixed : Addr} {od__law_mixed an__law_mixed : Option Addr} {sl__law_mixed : Array (Option Value)} {oc__law_mixed kV__law_mixed dc__law_mixed pm__law_mixed cd__law_mixed ct__law_mixed : Value} {f__law_drawn : Addr} {od__law_drawn an__law_drawn : Option Addr} {sl__law_drawn : Array (Option Value)} {oc__law_drawn kV__law_drawn dc__law_drawn pm__law_drawn cd__law_drawn ct__law_drawn : Value} {f__law_any : Addr} {od__law_any an__law_any : Option Addr} {sl__law_any : Array (Option Value)} {oc__law_any kV__law_any dc__law_any pm__law_any cd__law_any ct__law_any : Value} {f__law_swapped : Addr} {od__law_swapped an__law_swapped : Option Addr} {sl__law_swapped : Array (Option Value)} {oc__law_swapped kV__law_swapped dc__law_swapped pm__law_swapped cd__law_swapped ct__law_swapped : Value} {f__law_test : Addr} {od__law_test an__law_test : Option Addr} {sl__law_test : Array (Option Value)} {oc__law_test kV__law_test dc__law_test pm__law_test cd__law_test ct__law_test : Value} {f__law_deed : Addr} {od__law_deed an__law_deed : Option Addr} {sl__law_deed : Array (Option Value)} {oc__law_deed kV__law_deed dc__law_deed pm__law_deed cd__law_deed ct__law_deed : Value} {f__law_book : Addr} {od__law_book an__law_book : Option Addr} {sl__law_book : Array (Option Value)} {oc__law_book kV__law_book dc__law_book pm__law_book cd__law_book ct__law_book : Value} {f__law_letter : Addr} {od__law_letter an__law_letter : Option Addr} {sl__law_letter : Array (Option Value)} {oc__law_letter kV__law_letter dc__law_letter pm__law_letter cd__law_letter ct__law_letter : Value} {f__law_is_name : Addr} {od__law_is_name an__law_is_name : Option Addr} {sl__law_is_name : Array (Option Value)} {oc__law_is_name kV__law_is_name dc__law_is_name pm__law_is_name cd__law_is_name ct__law_is_name : Value} {f__law_is_number : Addr} {od__law_is_number an__law_is_number : Option Addr} {sl__law_is_number : Array (Option Value)} {oc__law_is_number kV__law_is_number dc__law_is_number pm__law_is_number cd__law_is_number ct__law_is_number : Value} {f__law_is_test : Addr} {od__law_is_test an__law_is_test : Option Addr} {sl__law_is_test : Array (Option Value)} {oc__law_is_test kV__law_is_test dc__law_is_test pm__law_is_test cd__law_is_test ct__law_is_test : Value} {f__law_is_deed : Addr} {od__law_is_deed an__law_is_deed : Option Addr} {sl__law_is_deed : Array (Option Value)} {oc__law_is_deed kV__law_is_deed dc__law_is_deed pm__law_is_deed cd__law_is_deed ct__law_is_deed : Value} {f__law_is_rule : Addr} {od__law_is_rule an__law_is_rule : Option Addr} {sl__law_is_rule : Array (Option Value)} {oc__law_is_rule kV__law_is_rule dc__law_is_rule pm__law_is_rule cd__law_is_rule ct__law_is_rule : Value} {f__law_is_book : Addr} {od__law_is_book an__law_is_book : Option Addr} {sl__law_is_book : Array (Option Value)} {oc__law_is_book kV__law_is_book dc__law_is_book pm__law_is_book cd__law_is_book ct__law_is_book : Value} {f__law_are_names : Addr} {od__law_are_names an__law_are_names : Option Addr} {sl__law_are_names : Array (Option Value)} {oc__law_are_names kV__law_are_names dc__law_are_names pm__law_are_names cd__law_are_names ct__law_are_names : Value} {f__law_is_letter : Addr} {od__law_is_letter an__law_is_letter : Option Addr} {sl__law_is_letter : Array (Option Value)} {oc__law_is_letter kV__law_is_letter dc__law_is_letter pm__law_is_letter cd__law_is_letter ct__law_is_letter : Value} {f__law_edges : Addr} {od__law_edges an__law_edges : Option Addr} {sl__law_edges : Array (Option Value)} {oc__law_edges kV__law_edges dc__law_edges pm__law_edges cd__law_edges ct__law_edges : Value} {f__law_places_in : Addr} {od__law_places_in an__law_places_in : Option Addr} {sl__law_places_in : Array (Option Value)} {oc__law_places_in kV__law_places_in dc__law_places_in pm__law_places_in cd__law_places_in ct__law_places_in : Value} {f__law_put_at : Addr} {od__law_put_at an__law_put_at : Option Addr} {sl__law_put_at : Array (Option Value)} {oc__law_put_at kV__law_put_at dc__law_put_at pm__law_put_at cd__law_put_at ct__law_put_at : Value} {f__law_otherwise : Addr} {od__law_otherwise an__law_otherwise : Option Addr} {sl__law_otherwise : Array (Option Value)} {oc__law_otherwise kV__law_otherwise dc__law_otherwise pm__law_otherwise cd__law_otherwise ct__law_otherwise : Value} {f__law_spoilt : Addr} {od__law_spoilt an__law_spoilt : Option Addr} {sl__law_spoilt : Array (Option Value)} {oc__law_spoilt kV__law_spoilt dc__law_spoilt pm__law_spoilt cd__law_spoilt ct__law_spoilt : Value} {f__law_once : Addr} {od__law_once an__law_once : Option Addr} {sl__law_once : Array (Option Value)} {oc__law_once kV__law_once dc__law_once pm__law_once cd__law_once ct__law_once : Value} {f_law : Addr} {od_law an_law : Option Addr} {sl_law : Array (Option Value)} {oc_law kV_law dc_law pm_law cd_law ct_law : Value} {t_MAIN : Tok} {t_LETTERS : Tok} {t_LONGEST : Tok} {t_MOST_NUMBER : Tok} {t_MOST_NAMES : Tok} {t_MOST_RULES : Tok} {t_MOST_DEEDS : Tok} {t_MOST_PARTS : Tok} {t_DEEPEST : Tok} {a_NAMED_TESTS : Addr} {od_NAMED_TESTS : Option Addr} {its_NAMED_TESTS : Array Value} {n_NAMED_TESTS : Nat} {sl_NAMED_TESTS : Array (Option Value)} {a_JOINS : Addr} {od_JOINS : Option Addr} {its_JOINS : Array Value} {n_JOINS : Nat} {sl_JOINS : Array (Option Value)} {a_NAMED_DEEDS : Addr} {od_NAMED_DEEDS : Option Addr} {its_NAMED_DEEDS : Array Value} {n_NAMED_DEEDS : Nat} {sl_NAMED_DEEDS : Array (Option Value)}
    (a_is_name : PySem.W.nsIn K mainGlobals "is_name" = some (some (.ref f_is_name))) (l_is_name : K.lookup f_is_name = some ⟨oc_is_name, od_is_name, .func (PySem.W.fnOf "is_name" "is_name" (defArgs s_is_name) (defBody s_is_name) (defScope s_is_name) .none kV_is_name dc_is_name pm_is_name an_is_name cd_is_name ct_is_name), sl_is_name⟩) (c_is_name : PySem.W.codeIn K cd_is_name "is_name" = true) (k_is_name : PySem.W.keepIn K (.ref f_is_name) = true)
    (a_is_number : PySem.W.nsIn K mainGlobals "is_number" = some (some (.ref f_is_number))) (l_is_number : K.lookup f_is_number = some ⟨oc_is_number, od_is_number, .func (PySem.W.fnOf "is_number" "is_number" (defArgs s_is_number) (defBody s_is_number) (defScope s_is_number) .none kV_is_number dc_is_number pm_is_number an_is_number cd_is_number ct_is_number), sl_is_number⟩) (c_is_number : PySem.W.codeIn K cd_is_number "is_number" = true) (k_is_number : PySem.W.keepIn K (.ref f_is_number) = true)
    (a_are_rising : PySem.W.nsIn K mainGlobals "are_rising" = some (some (.ref f_are_rising))) (l_are_rising : K.lookup f_are_rising = some ⟨oc_are_rising, od_are_rising, .func (PySem.W.fnOf "are_rising" "are_rising" (defArgs s_are_rising) (defBody s_are_rising) (defScope s_are_rising) .none kV_are_rising dc_are_rising pm_are_rising an_are_rising cd_are_rising ct_are_rising), sl_are_rising⟩) (c_are_rising : PySem.W.codeIn K cd_are_rising "are_rising" = true) (k_are_rising : PySem.W.keepIn K (.ref f_are_rising) = true)
    (a_are_names : PySem.W.nsIn K mainGlobals "are_names" = some (some (.ref f_are_names))) (l_are_names : K.lookup f_are_names = some ⟨oc_are_names, od_are_names, .func (PySem.W.fnOf "are_names" "are_names" (defArgs s_are_names) (defBody s_are_names) (defScope s_are_names) .none kV_are_names dc_are_names pm_are_names an_are_names cd_are_names ct_are_names), sl_are_names⟩) (c_are_names : PySem.W.codeIn K cd_are_names "are_names" = true) (k_are_names : PySem.W.keepIn K (.ref f_are_names) = true)
    (a_is_letter : PySem.W.nsIn K mainGlobals "is_letter" = some (some (.ref f_is_letter))) (l_is_letter : K.lookup f_is_letter = some ⟨oc_is_letter, od_is_letter, .func (PySem.W.fnOf "is_letter" "is_letter" (defArgs s_is_letter) (defBody s_is_letter) (defScope s_is_letter) .none kV_is_letter dc_is_letter pm_is_letter an_is_letter cd_is_letter ct_is_letter), sl_is_letter⟩) (c_is_letter : PySem.W.codeIn K cd_is_letter "is_letter" = true) (k_is_letter : PySem.W.keepIn K (.ref f_is_letter) = true)
    (a_is_test : PySem.W.nsIn K mainGlobals "is_test" = some (some (.ref f_is_test))) (l_is_test : K.lookup f_is_test = some ⟨oc_is_test, od_is_test, .func (PySem.W.fnOf "is_test" "is_test" (defArgs s_is_test) (defBody s_is_test) (defScope s_is_test) .none kV_is_test dc_is_test pm_is_test an_is_test cd_is_test ct_is_test), sl_is_test⟩) (c_is_test : PySem.W.codeIn K cd_is_test "is_test" = true) (k_is_test : PySem.W.keepIn K (.ref f_is_test) = true)
    (a_is_deed : PySem.W.nsIn K mainGlobals "is_deed" = some (some (.ref f_is_deed))) (l_is_deed : K.lookup f_is_deed = some ⟨oc_is_deed, od_is_deed, .func (PySem.W.fnOf "is_deed" "is_deed" (defArgs s_is_deed) (defBody s_is_deed) (defScope s_is_deed) .none kV_is_deed dc_is_deed pm_is_deed an_is_deed cd_is_deed ct_is_deed), sl_is_deed⟩) (c_is_deed : PySem.W.codeIn K cd_is_deed "is_deed" = true) (k_is_deed : PySem.W.keepIn K (.ref f_is_deed) = true)
    (a_is_rule : PySem.W.nsIn K mainGlobals "is_rule" = some (some (.ref f_is_rule))) (l_is_rule : K.lookup f_is_rule = some ⟨oc_is_rule, od_is_rule, .func (PySem.W.fnOf "is_rule" "is_rule" (defArgs s_is_rule) (defBody s_is_rule) (defScope s_is_rule) .none kV_is_rule dc_is_rule pm_is_rule an_is_rule cd_is_rule ct_is_rule), sl_is_rule⟩) (c_is_rule : PySem.W.codeIn K cd_is_rule "is_rule" = true) (k_is_rule : PySem.W.keepIn K (.ref f_is_rule) = true)
    (a_is_part : PySem.W.nsIn K mainGlobals "is_part" = some (some (.ref f_is_part))) (l_is_part : K.lookup f_is_part = some ⟨oc_is_part, od_is_part, .func (PySem.W.fnOf "is_part" "is_part" (defArgs s_is_part) (defBody s_is_part) (defScope s_is_part) .none kV_is_part dc_is_part pm_is_part an_is_part cd_is_part ct_is_part), sl_is_part⟩) (c_is_part : PySem.W.codeIn K cd_is_part "is_part" = true) (k_is_part : PySem.W.keepIn K (.ref f_is_part) = true)
    (a_calls_of : PySem.W.nsIn K mainGlobals "calls_of" = some (some (.ref f_calls_of))) (l_calls_of : K.lookup f_calls_of = some ⟨oc_calls_of, od_calls_of, .func (PySem.W.fnOf "calls_of" "calls_of" (defArgs s_calls_of) (defBody s_calls_of) (defScope s_calls_of) .none kV_calls_of dc_calls_of pm_calls_of an_calls_of cd_calls_of ct_calls_of), sl_calls_of⟩) (c_calls_of : PySem.W.codeIn K cd_calls_of "calls_of" = true) (k_calls_of : PySem.W.keepIn K (.ref f_calls_of) = true)
    (a_is_book : PySem.W.nsIn K mainGlobals "is_book" = some (some (.ref f_is_book))) (l_is_book : K.lookup f_is_book = some ⟨oc_is_book, od_is_book, .func (PySem.W.fnOf "is_book" "is_book" (defArgs s_is_book) (defBody s_is_book) (defScope s_is_book) .none kV_is_book dc_is_book pm_is_book an_is_book cd_is_book ct_is_book), sl_is_book⟩) (c_is_book : PySem.W.codeIn K cd_is_book "is_book" = true) (k_is_book : PySem.W.keepIn K (.ref f_is_book) = true)
    (a__law_cell_at : PySem.W.nsIn K mainGlobals "_law_cell_at" = some (some (.ref f__law_cell_at))) (l__law_cell_at : K.lookup f__law_cell_at = some ⟨oc__law_cell_at, od__law_cell_at, .func (PySem.W.fnOf "_law_cell_at" "_law_cell_at" (defArgs s__law_cell_at) (defBody s__law_cell_at) (defScope s__law_cell_at) .none kV__law_cell_at dc__law_cell_at pm__law_cell_at an__law_cell_at cd__law_cell_at ct__law_cell_at), sl__law_cell_at⟩) (c__law_cell_at : PySem.W.codeIn K cd__law_cell_at "_law_cell_at" = true) (k__law_cell_at : PySem.W.keepIn K (.ref f__law_cell_at) = true)
    (a__law_mixed : PySem.W.nsIn K mainGlobals "_law_mixed" = some (some (.ref f__law_mixed))) (l__law_mixed : K.lookup f__law_mixed = some ⟨oc__law_mixed, od__law_mixed, .func (PySem.W.fnOf "_law_mixed" "_law_mixed" (defArgs s__law_mixed) (defBody s__law_mixed) (defScope s__law_mixed) .none kV__law_mixed dc__law_mixed pm__law_mixed an__law_mixed cd__law_mixed ct__law_mixed), sl__law_mixed⟩) (c__law_mixed : PySem.W.codeIn K cd__law_mixed "_law_mixed" = true) (k__law_mixed : PySem.W.keepIn K (.ref f__law_mixed) = true)
    (a__law_drawn : PySem.W.nsIn K mainGlobals "_law_drawn" = some (some (.ref f__law_drawn))) (l__law_drawn : K.lookup f__law_drawn = some ⟨oc__law_drawn, od__law_drawn, .func (PySem.W.fnOf "_law_drawn" "_law_drawn" (defArgs s__law_drawn) (defBody s__law_drawn) (defScope s__law_drawn) .none kV__law_drawn dc__law_drawn pm__law_drawn an__law_drawn cd__law_drawn ct__law_drawn), sl__law_drawn⟩) (c__law_drawn : PySem.W.codeIn K cd__law_drawn "_law_drawn" = true) (k__law_drawn : PySem.W.keepIn K (.ref f__law_drawn) = true)
    (a__law_any : PySem.W.nsIn K mainGlobals "_law_any" = some (some (.ref f__law_any))) (l__law_any : K.lookup f__law_any = some ⟨oc__law_any, od__law_any, .func (PySem.W.fnOf "_law_any" "_law_any" (defArgs s__law_any) (defBody s__law_any) (defScope s__law_any) .none kV__law_any dc__law_any pm__law_any an__law_any cd__law_any ct__law_any), sl__law_any⟩) (c__law_any : PySem.W.codeIn K cd__law_any "_law_any" = true) (k__law_any : PySem.W.keepIn K (.ref f__law_any) = true)
    (a__law_swapped : PySem.W.nsIn K mainGlobals "_law_swapped" = some (some (.ref f__law_swapped))) (l__law_swapped : K.lookup f__law_swapped = some ⟨oc__law_swapped, od__law_swapped, .func (PySem.W.fnOf "_law_swapped" "_law_swapped" (defArgs s__law_swapped) (defBody s__law_swapped) (defScope s__law_swapped) .none kV__law_swapped dc__law_swapped pm__law_swapped an__law_swapped cd__law_swapped ct__law_swapped), sl__law_swapped⟩) (c__law_swapped : PySem.W.codeIn K cd__law_swapped "_law_swapped" = true) (k__law_swapped : PySem.W.keepIn K (.ref f__law_swapped) = true)
    (a__law_test : PySem.W.nsIn K mainGlobals "_law_test" = some (some (.ref f__law_test))) (l__law_test : K.lookup f__law_test = some ⟨oc__law_test, od__law_test, .func (PySem.W.fnOf "_law_test" "_law_test" (defArgs s__law_test) (defBody s__law_test) (defScope s__law_test) .none kV__law_test dc__law_test pm__law_test an__law_test cd__law_test ct__law_test), sl__law_test⟩) (c__law_test : PySem.W.codeIn K cd__law_test "_law_test" = true) (k__law_test : PySem.W.keepIn K (.ref f__law_test) = true)
    (a__law_deed : PySem.W.nsIn K mainGlobals "_law_deed" = some (some (.ref f__law_deed))) (l__law_deed : K.lookup f__law_deed = some ⟨oc__law_deed, od__law_deed, .func (PySem.W.fnOf "_law_deed" "_law_deed" (defArgs s__law_deed) (defBody s__law_deed) (defScope s__law_deed) .none kV__law_deed dc__law_deed pm__law_deed an__law_deed cd__law_deed ct__law_deed), sl__law_deed⟩) (c__law_deed : PySem.W.codeIn K cd__law_deed "_law_deed" = true) (k__law_deed : PySem.W.keepIn K (.ref f__law_deed) = true)
    (a__law_book : PySem.W.nsIn K mainGlobals "_law_book" = some (some (.ref f__law_book))) (l__law_book : K.lookup f__law_book = some ⟨oc__law_book, od__law_book, .func (PySem.W.fnOf "_law_book" "_law_book" (defArgs s__law_book) (defBody s__law_book) (defScope s__law_book) .none kV__law_book dc__law_book pm__law_book an__law_book cd__law_book ct__law_book), sl__law_book⟩) (c__law_book : PySem.W.codeIn K cd__law_book "_law_book" = true) (k__law_book : PySem.W.keepIn K (.ref f__law_book) = true)
    (a__law_letter : PySem.W.nsIn K mainGlobals "_law_letter" = some (some (.ref f__law_letter))) (l__law_letter : K.lookup f__law_letter = some ⟨oc__law_letter, od__law_letter, .func (PySem.W.fnOf "_law_letter" "_law_letter" (defArgs s__law_letter) (defBody s__law_letter) (defScope s__law_letter) .none kV__law_letter dc__law_letter pm__law_letter an__law_letter cd__law_letter ct__law_letter), sl__law_letter⟩) (c__law_letter : PySem.W.codeIn K cd__law_letter "_law_letter" = true) (k__law_letter : PySem.W.keepIn K (.ref f__law_letter) = true)
    (a__law_is_name : PySem.W.nsIn K mainGlobals "_law_is_name" = some (some (.ref f__law_is_name))) (l__law_is_name : K.lookup f__law_is_name = some ⟨oc__law_is_name, od__law_is_name, .func (PySem.W.fnOf "_law_is_name" "_law_is_name" (defArgs s__law_is_name) (defBody s__law_is_name) (defScope s__law_is_name) .none kV__law_is_name dc__law_is_name pm__law_is_name an__law_is_name cd__law_is_name ct__law_is_name), sl__law_is_name⟩) (c__law_is_name : PySem.W.codeIn K cd__law_is_name "_law_is_name" = true) (k__law_is_name : PySem.W.keepIn K (.ref f__law_is_name) = true)
    (a__law_is_number : PySem.W.nsIn K mainGlobals "_law_is_number" = some (some (.ref f__law_is_number))) (l__law_is_number : K.lookup f__law_is_number = some ⟨oc__law_is_number, od__law_is_number, .func (PySem.W.fnOf "_law_is_number" "_law_is_number" (defArgs s__law_is_number) (defBody s__law_is_number) (defScope s__law_is_number) .none kV__law_is_number dc__law_is_number pm__law_is_number an__law_is_number cd__law_is_number ct__law_is_number), sl__law_is_number⟩) (c__law_is_number : PySem.W.codeIn K cd__law_is_number "_law_is_number" = true) (k__law_is_number : PySem.W.keepIn K (.ref f__law_is_number) = true)
    (a__law_is_test : PySem.W.nsIn K mainGlobals "_law_is_test" = some (some (.ref f__law_is_test))) (l__law_is_test : K.lookup f__law_is_test = some ⟨oc__law_is_test, od__law_is_test, .func (PySem.W.fnOf "_law_is_test" "_law_is_test" (defArgs s__law_is_test) (defBody s__law_is_test) (defScope s__law_is_test) .none kV__law_is_test dc__law_is_test pm__law_is_test an__law_is_test cd__law_is_test ct__law_is_test), sl__law_is_test⟩) (c__law_is_test : PySem.W.codeIn K cd__law_is_test "_law_is_test" = true) (k__law_is_test : PySem.W.keepIn K (.ref f__law_is_test) = true)
    (a__law_is_deed : PySem.W.nsIn K mainGlobals "_law_is_deed" = some (some (.ref f__law_is_deed))) (l__law_is_deed : K.lookup f__law_is_deed = some ⟨oc__law_is_deed, od__law_is_deed, .func (PySem.W.fnOf "_law_is_deed" "_law_is_deed" (defArgs s__law_is_deed) (defBody s__law_is_deed) (defScope s__law_is_deed) .none kV__law_is_deed dc__law_is_deed pm__law_is_deed an__law_is_deed cd__law_is_deed ct__law_is_deed), sl__law_is_deed⟩) (c__law_is_deed : PySem.W.codeIn K cd__law_is_deed "_law_is_deed" = true) (k__law_is_deed : PySem.W.keepIn K (.ref f__law_is_deed) = true)
    (a__law_is_rule : PySem.W.nsIn K mainGlobals "_law_is_rule" = some (some (.ref f__law_is_rule))) (l__law_is_rule : K.lookup f__law_is_rule = some ⟨oc__law_is_rule, od__law_is_rule, .func (PySem.W.fnOf "_law_is_rule" "_law_is_rule" (defArgs s__law_is_rule) (defBody s__law_is_rule) (defScope s__law_is_rule) .none kV__law_is_rule dc__law_is_rule pm__law_is_rule an__law_is_rule cd__law_is_rule ct__law_is_rule), sl__law_is_rule⟩) (c__law_is_rule : PySem.W.codeIn K cd__law_is_rule "_law_is_rule" = true) (k__law_is_rule : PySem.W.keepIn K (.ref f__law_is_rule) = true)
    (a__law_is_book : PySem.W.nsIn K mainGlobals "_law_is_book" = some (some (.ref f__law_is_book))) (l__law_is_book : K.lookup f__law_is_book = some ⟨oc__law_is_book, od__law_is_book, .func (PySem.W.fnOf "_law_is_book" "_law_is_book" (defArgs s__law_is_book) (defBody s__law_is_book) (defScope s__law_is_book) .none kV__law_is_book dc__law_is_book pm__law_is_book an__law_is_book cd__law_is_book ct__law_is_book), sl__law_is_book⟩) (c__law_is_book : PySem.W.codeIn K cd__law_is_book "_law_is_book" = true) (k__law_is_book : PySem.W.keepIn K (.ref f__law_is_book) = true)
    (a__law_are_names : PySem.W.nsIn K mainGlobals "_law_are_names" = some (some (.ref f__law_are_names))) (l__law_are_names : K.lookup f__law_are_names = some ⟨oc__law_are_names, od__law_are_names, .func (PySem.W.fnOf "_law_are_names" "_law_are_names" (defArgs s__law_are_names) (defBody s__law_are_names) (defScope s__law_are_names) .none kV__law_are_names dc__law_are_names pm__law_are_names an__law_are_names cd__law_are_names ct__law_are_names), sl__law_are_names⟩) (c__law_are_names : PySem.W.codeIn K cd__law_are_names "_law_are_names" = true) (k__law_are_names : PySem.W.keepIn K (.ref f__law_are_names) = true)
    (a__law_is_letter : PySem.W.nsIn K mainGlobals "_law_is_letter" = some (some (.ref f__law_is_letter))) (l__law_is_letter : K.lookup f__law_is_letter = some ⟨oc__law_is_letter, od__law_is_letter, .func (PySem.W.fnOf "_law_is_letter" "_law_is_letter" (defArgs s__law_is_letter) (defBody s__law_is_letter) (defScope s__law_is_letter) .none kV__law_is_letter dc__law_is_letter pm__law_is_letter an__law_is_letter cd__law_is_letter ct__law_is_letter), sl__law_is_letter⟩) (c__law_is_letter : PySem.W.codeIn K cd__law_is_letter "_law_is_letter" = true) (k__law_is_letter : PySem.W.keepIn K (.ref f__law_is_letter) = true)
    (a__law_edges : PySem.W.nsIn K mainGlobals "_law_edges" = some (some (.ref f__law_edges))) (l__law_edges : K.lookup f__law_edges = some ⟨oc__law_edges, od__law_edges, .func (PySem.W.fnOf "_law_edges" "_law_edges" (defArgs s__law_edges) (defBody s__law_edges) (defScope s__law_edges) .none kV__law_edges dc__law_edges pm__law_edges an__law_edges cd__law_edges ct__law_edges), sl__law_edges⟩) (c__law_edges : PySem.W.codeIn K cd__law_edges "_law_edges" = true) (k__law_edges : PySem.W.keepIn K (.ref f__law_edges) = true)
    (a__law_places_in : PySem.W.nsIn K mainGlobals "_law_places_in" = some (some (.ref f__law_places_in))) (l__law_places_in : K.lookup f__law_places_in = some ⟨oc__law_places_in, od__law_places_in, .func (PySem.W.fnOf "_law_places_in" "_law_places_in" (defArgs s__law_places_in) (defBody s__law_places_in) (defScope s__law_places_in) .none kV__law_places_in dc__law_places_in pm__law_places_in an__law_places_in cd__law_places_in ct__law_places_in), sl__law_places_in⟩) (c__law_places_in : PySem.W.codeIn K cd__law_places_in "_law_places_in" = true) (k__law_places_in : PySem.W.keepIn K (.ref f__law_places_in) = true)
    (a__law_put_at : PySem.W.nsIn K mainGlobals "_law_put_at" = some (some (.ref f__law_put_at))) (l__law_put_at : K.lookup f__law_put_at = some ⟨oc__law_put_at, od__law_put_at, .func (PySem.W.fnOf "_law_put_at" "_law_put_at" (defArgs s__law_put_at) (defBody s__law_put_at) (defScope s__law_put_at) .none kV__law_put_at dc__law_put_at pm__law_put_at an__law_put_at cd__law_put_at ct__law_put_at), sl__law_put_at⟩) (c__law_put_at : PySem.W.codeIn K cd__law_put_at "_law_put_at" = true) (k__law_put_at : PySem.W.keepIn K (.ref f__law_put_at) = true)
    (a__law_otherwise : PySem.W.nsIn K mainGlobals "_law_otherwise" = some (some (.ref f__law_otherwise))) (l__law_otherwise : K.lookup f__law_otherwise = some ⟨oc__law_otherwise, od__law_otherwise, .func (PySem.W.fnOf "_law_otherwise" "_law_otherwise" (defArgs s__law_otherwise) (defBody s__law_otherwise) (defScope s__law_otherwise) .none kV__law_otherwise dc__law_otherwise pm__law_otherwise an__law_otherwise cd__law_otherwise ct__law_otherwise), sl__law_otherwise⟩) (c__law_otherwise : PySem.W.codeIn K cd__law_otherwise "_law_otherwise" = true) (k__law_otherwise : PySem.W.keepIn K (.ref f__law_otherwise) = true)
    (a__law_spoilt : PySem.W.nsIn K mainGlobals "_law_spoilt" = some (some (.ref f__law_spoilt))) (l__law_spoilt : K.lookup f__law_spoilt = some ⟨oc__law_spoilt, od__law_spoilt, .func (PySem.W.fnOf "_law_spoilt" "_law_spoilt" (defArgs s__law_spoilt) (defBody s__law_spoilt) (defScope s__law_spoilt) .none kV__law_spoilt dc__law_spoilt pm__law_spoilt an__law_spoilt cd__law_spoilt ct__law_spoilt), sl__law_spoilt⟩) (c__law_spoilt : PySem.W.codeIn K cd__law_spoilt "_law_spoilt" = true) (k__law_spoilt : PySem.W.keepIn K (.ref f__law_spoilt) = true)
    (a__law_once : PySem.W.nsIn K mainGlobals "_law_once" = some (some (.ref f__law_once))) (l__law_once : K.lookup f__law_once = some ⟨oc__law_once, od__law_once, .func (PySem.W.fnOf "_law_once" "_law_once" (defArgs s__law_once) (defBody s__law_once) (defScope s__law_once) .none kV__law_once dc__law_once pm__law_once an__law_once cd__law_once ct__law_once), sl__law_once⟩) (c__law_once : PySem.W.codeIn K cd__law_once "_law_once" = true) (k__law_once : PySem.W.keepIn K (.ref f__law_once) = true)
    (a_law : PySem.W.nsIn K mainGlobals "law" = some (some (.ref f_law))) (l_law : K.lookup f_law = some ⟨oc_law, od_law, .func (PySem.W.fnOf "law" "law" (defArgs s_law) (defBody s_law) (defScope s_law) .none kV_law dc_law pm_law an_law cd_law ct_law), sl_law⟩) (c_law : PySem.W.codeIn K cd_law "law" = true) (k_law : PySem.W.keepIn K (.ref f_law) = true)
    (h_MAIN : PySem.W.nsIn K mainGlobals "MAIN" = some (some (.str "main" t_MAIN)))
    (h_LETTERS : PySem.W.nsIn K mainGlobals "LETTERS" = some (some (.str "abcdefghijklmnopqrstuvwxyz" t_LETTERS)))
    (h_LONGEST : PySem.W.nsIn K mainGlobals "LONGEST" = some (some (.int 5 t_LONGEST)))
    (h_MOST_NUMBER : PySem.W.nsIn K mainGlobals "MOST_NUMBER" = some (some (.int 999 t_MOST_NUMBER)))
    (h_MOST_NAMES : PySem.W.nsIn K mainGlobals "MOST_NAMES" = some (some (.int 3 t_MOST_NAMES)))
    (h_MOST_RULES : PySem.W.nsIn K mainGlobals "MOST_RULES" = some (some (.int 4 t_MOST_RULES)))
    (h_MOST_DEEDS : PySem.W.nsIn K mainGlobals "MOST_DEEDS" = some (some (.int 3 t_MOST_DEEDS)))
    (h_MOST_PARTS : PySem.W.nsIn K mainGlobals "MOST_PARTS" = some (some (.int 3 t_MOST_PARTS)))
    (h_DEEPEST : PySem.W.nsIn K mainGlobals "DEEPEST" = some (some (.int 3 t_DEEPEST)))
    (h_NAMED_TESTS : PySem.W.nsIn K mainGlobals "NAMED_TESTS" = some (some (.ref a_NAMED_TESTS))) (l_NAMED_TESTS : K.lookup a_NAMED_TESTS = some ⟨.type "tuple", od_NAMED_TESTS, .seq its_NAMED_TESTS n_NAMED_TESTS, sl_NAMED_TESTS⟩) (v_NAMED_TESTS : its_NAMED_TESTS.size ≤ sizeLine ∧ Vals (([.inr "from", .inr "word", .inr "marked"] : List Key).map kV) its_NAMED_TESTS.toList)
    (h_JOINS : PySem.W.nsIn K mainGlobals "JOINS" = some (some (.ref a_JOINS))) (l_JOINS : K.lookup a_JOINS = some ⟨.type "tuple", od_JOINS, .seq its_JOINS n_JOINS, sl_JOINS⟩) (v_JOINS : its_JOINS.size ≤ sizeLine ∧ Vals (([.inr "both", .inr "either"] : List Key).map kV) its_JOINS.toList)
    (h_NAMED_DEEDS : PySem.W.nsIn K mainGlobals "NAMED_DEEDS" = some (some (.ref a_NAMED_DEEDS))) (l_NAMED_DEEDS : K.lookup a_NAMED_DEEDS = some ⟨.type "tuple", od_NAMED_DEEDS, .seq its_NAMED_DEEDS n_NAMED_DEEDS, sl_NAMED_DEEDS⟩) (v_NAMED_DEEDS : its_NAMED_DEEDS.size ≤ sizeLine ∧ Vals (([.inr "lay", .inr "send", .inr "answer", .inr "mark", .inr "unmark", .inr "call"] : List Key).map kV) its_NAMED_DEEDS.toList)
    (z_all : PySem.W.nsIn K mainGlobals "all" = some none)
    (z_any : PySem.W.nsIn K mainGlobals "any" = some none)
    (z_bool : PySem.W.nsIn K mainGlobals "bool" = some none)
    (z_dict : PySem.W.nsIn K mainGlobals "dict" = some none)
    (z_enumerate : PySem.W.nsIn K mainGlobals "enumerate" = some none)
    (z_int : PySem.W.nsIn K mainGlobals "int" = some none)
    (z_isinstance : PySem.W.nsIn K mainGlobals "isinstance" = some none)
    (z_len : PySem.W.nsIn K mainGlobals "len" = some none)
    (z_list : PySem.W.nsIn K mainGlobals "list" = some none)
    (z_max : PySem.W.nsIn K mainGlobals "max" = some none)
    (z_min : PySem.W.nsIn K mainGlobals "min" = some none)
    (z_range : PySem.W.nsIn K mainGlobals "range" = some none)
    (z_repr : PySem.W.nsIn K mainGlobals "repr" = some none)
    (z_set : PySem.W.nsIn K mainGlobals "set" = some none)
    (z_sorted : PySem.W.nsIn K mainGlobals "sorted" = some none)
    (z_str : PySem.W.nsIn K mainGlobals "str" = some none)
    (z_sum : PySem.W.nsIn K mainGlobals "sum" = some none)
    (z_tuple : PySem.W.nsIn K mainGlobals "tuple" = some none)
    (z_zip : PySem.W.nsIn K mainGlobals "zip" = some none) :
    Dn K "law" s_law ∧ ∀ (fa : Addr) (fd : FuncData), Fun K "law" "law" s_law fa fd → ∀ base : Heap, LamX.TabB base mg (codeX K "_law_spoilt") (tabX K "_law_spoilt") → LawG P w K mg base (tabX K "_law_spoilt") fa :=
  ⟨dn_mk a_law l_law c_law k_law, fun fa fd F base TB => law_fn X G ⟨z_all, z_any, z_bool, z_dict, z_enumerate, z_int, z_isinstance, z_len, z_list, z_max, z_min, z_range, z_repr, z_set, z_sorted, z_str, z_sum, z_tuple, z_zip⟩ (dn_mk a_is_name l_is_name c_is_name k_is_name) (dn_mk a_is_number l_is_number c_is_number k_is_number) (dn_mk a_are_rising l_are_rising c_are_rising k_are_rising) (dn_mk a_are_names l_are_names c_are_names k_are_names) (dn_mk a_is_letter l_is_letter c_is_letter k_is_letter) (dn_mk a_is_test l_is_test c_is_test k_is_test) (dn_mk a_is_deed l_is_deed c_is_deed k_is_deed) (dn_mk a_is_rule l_is_rule c_is_rule k_is_rule) (dn_mk a_is_part l_is_part c_is_part k_is_part) (dn_mk a_calls_of l_calls_of c_calls_of k_calls_of) (dn_mk a_is_book l_is_book c_is_book k_is_book) (dn_mk a__law_cell_at l__law_cell_at c__law_cell_at k__law_cell_at) (dn_mk a__law_mixed l__law_mixed c__law_mixed k__law_mixed) (dn_mk a__law_drawn l__law_drawn c__law_drawn k__law_drawn) (dn_mk a__law_any l__law_any c__law_any k__law_any) (dn_mk a__law_swapped l__law_swapped c__law_swapped k__law_swapped) (dn_mk a__law_test l__law_test c__law_test k__law_test) (dn_mk a__law_deed l__law_deed c__law_deed k__law_deed) (dn_mk a__law_book l__law_book c__law_book k__law_book) (dn_mk a__law_letter l__law_letter c__law_letter k__law_letter) (dn_mk a__law_is_name l__law_is_name c__law_is_name k__law_is_name) (dn_mk a__law_is_number l__law_is_number c__law_is_number k__law_is_number) (dn_mk a__law_is_test l__law_is_test c__law_is_test k__law_is_test) (dn_mk a__law_is_deed l__law_is_deed c__law_is_deed k__law_is_deed) (dn_mk a__law_is_rule l__law_is_rule c__law_is_rule k__law_is_rule) (dn_mk a__law_is_book l__law_is_book c__law_is_book k__law_is_book) (dn_mk a__law_are_names l__law_are_names c__law_are_names k__law_are_names) (dn_mk a__law_is_letter l__law_is_letter c__law_is_letter k__law_is_letter) (dn_mk a__law_edges l__law_edges c__law_edges k__law_edges) (dn_mk a__law_places_in l__law_places_in c__law_places_in k__law_places_in) (dn_mk a__law_put_at l__law_put_at c__law_put_at k__law_put_at) (dn_mk a__law_otherwise l__law_otherwise c__law_otherwise k__law_otherwise) (dn_mk a__law_spoilt l__law_spoilt c__law_spoilt k__law_spoilt) (dn_mk a__law_once l__law_once c__law_once k__law_once) (dn_mk a_law l_law c_law k_law) h_MAIN h_LETTERS h_LONGEST h_MOST_NUMBER h_MOST_NAMES h_MOST_RULES h_MOST_DEEDS h_MOST_PARTS h_DEEPEST h_NAMED_TESTS ⟨_, _, _, l_NAMED_TESTS, rfl, rfl, v_NAMED_TESTS.1, v_NAMED_TESTS.2⟩ h_JOINS ⟨_, _, _, l_JOINS, rfl, rfl, v_JOINS.1, v_JOINS.2⟩ h_NAMED_DEEDS ⟨_, _, _, l_NAMED_DEEDS, rfl, rfl, v_NAMED_DEEDS.1, v_NAMED_DEEDS.2⟩ F TB⟩
end K09
open PySem PySem.W PyProof.Rows in
set_option maxRecDepth 100000 in
set_option maxHeartbeats 0 in
theorem PySem.Challenge.cw_sieverules_k09_lists_anywhere_holds : PySem.Challenge.rw_sieverules_k09_lists_anywhere.Holds := by
  w_on; o_law; k_head; (case hw => w_witness2)
  k_fill
  refine Sv.walk_lawT (l := PySem.Challenge.rw_sieverules_k09_lists_anywhere) (st := K09.s_law) (x := "_law_spoilt") rfl rfl (fun w h Y => PySem.W.km_in_of Y) rfl (fun w h Y => PySem.W.km_tabs_of Y _ (List.elem_iff.mp (by kernel_rfl))) (fun w => ⟨by kernel_rfl, by kernel_rfl⟩) ?F
  case F =>
    intro w mg h KX G
    refine' K09.all_mk KX G ?a_is_name ?l_is_name ?c_is_name ?k_is_name ?a_is_number ?l_is_number ?c_is_number ?k_is_number ?a_are_rising ?l_are_rising ?c_are_rising ?k_are_rising ?a_are_names ?l_are_names ?c_are_names ?k_are_names ?a_is_letter ?l_is_letter ?c_is_letter ?k_is_letter ?a_is_test ?l_is_test ?c_is_test ?k_is_test ?a_is_deed ?l_is_deed ?c_is_deed ?k_is_deed ?a_is_rule ?l_is_rule ?c_is_rule ?k_is_rule ?a_is_part ?l_is_part ?c_is_part ?k_is_part ?a_calls_of ?l_calls_of ?c_calls_of ?k_calls_of ?a_is_book ?l_is_book ?c_is_book ?k_is_book ?a__law_cell_at ?l__law_cell_at ?c__law_cell_at ?k__law_cell_at ?a__law_mixed ?l__law_mixed ?c__law_mixed ?k__law_mixed ?a__law_drawn ?l__law_drawn ?c__law_drawn ?k__law_drawn ?a__law_any ?l__law_any ?c__law_any ?k__law_any ?a__law_swapped ?l__law_swapped ?c__law_swapped ?k__law_swapped ?a__law_test ?l__law_test ?c__law_test ?k__law_test ?a__law_deed ?l__law_deed ?c__law_deed ?k__law_deed ?a__law_book ?l__law_book ?c__law_book ?k__law_book ?a__law_letter ?l__law_letter ?c__law_letter ?k__law_letter ?a__law_is_name ?l__law_is_name ?c__law_is_name ?k__law_is_name ?a__law_is_number ?l__law_is_number ?c__law_is_number ?k__law_is_number ?a__law_is_test ?l__law_is_test ?c__law_is_test ?k__law_is_test ?a__law_is_deed ?l__law_is_deed ?c__law_is_deed ?k__law_is_deed ?a__law_is_rule ?l__law_is_rule ?c__law_is_rule ?k__law_is_rule ?a__law_is_book ?l__law_is_book ?c__law_is_book ?k__law_is_book ?a__law_are_names ?l__law_are_names ?c__law_are_names ?k__law_are_names ?a__law_is_letter ?l__law_is_letter ?c__law_is_letter ?k__law_is_letter ?a__law_edges ?l__law_edges ?c__law_edges ?k__law_edges ?a__law_places_in ?l__law_places_in ?c__law_places_in ?k__law_places_in ?a__law_put_at ?l__law_put_at ?c__law_put_at ?k__law_put_at ?a__law_otherwise ?l__law_otherwise ?c__law_otherwise ?k__law_otherwise ?a__law_spoilt ?l__law_spoilt ?c__law_spoilt ?k__law_spoilt ?a__law_once ?l__law_once ?c__law_once ?k__law_once ?a_law ?l_law ?c_law ?k_law ?h_MAIN ?h_LETTERS ?h_LONGEST ?h_MOST_NUMBER ?h_MOST_NAMES ?h_MOST_RULES ?h_MOST_DEEDS ?h_MOST_PARTS ?h_DEEPEST ?h_NAMED_TESTS ?l_NAMED_TESTS ?v_NAMED_TESTS ?h_JOINS ?l_JOINS ?v_JOINS ?h_NAMED_DEEDS ?l_NAMED_DEEDS ?v_NAMED_DEEDS ?z_all ?z_any ?z_bool ?z_dict ?z_enumerate ?z_int ?z_isinstance ?z_len ?z_list ?z_max ?z_min ?z_range ?z_repr ?z_set ?z_sorted ?z_str ?z_sum ?z_tuple ?z_zip
    (case a_is_name => k_is)
    (case l_is_name => k_is)
    (case c_is_name => k_is)
    (case k_is_name => k_is)
    (case a_is_number => k_is)
    (case l_is_number => k_is)
    (case c_is_number => k_is)
    (case k_is_number => k_is)
    (case a_are_rising => k_is)
    (case l_are_rising => k_is)
    (case c_are_rising => k_is)
    (case k_are_rising => k_is)
    (case a_are_names => k_is)
    (case l_are_names => k_is)
    (case c_are_names => k_is)
    (case k_are_names => k_is)
    (case a_is_letter => k_is)
    (case l_is_letter => k_is)
    (case c_is_letter => k_is)
    (case k_is_letter => k_is)
    (case a_is_test => k_is)
    (case l_is_test => k_is)
    (case c_is_test => k_is)
    (case k_is_test => k_is)
    (case a_is_deed => k_is)
    (case l_is_deed => k_is)
    (case c_is_deed => k_is)
    (case k_is_deed => k_is)
    (case a_is_rule => k_is)
    (case l_is_rule => k_is)
    (case c_is_rule => k_is)
    (case k_is_rule => k_is)
    (case a_is_part => k_is)
    (case l_is_part => k_is)
    (case c_is_part => k_is)
    (case k_is_part => k_is)
    (case a_calls_of => k_is)
    (case l_calls_of => k_is)
    (case c_calls_of => k_is)
    (case k_calls_of => k_is)
    (case a_is_book => k_is)
    (case l_is_book => k_is)
    (case c_is_book => k_is)
    (case k_is_book => k_is)
    (case a__law_cell_at => k_is)
    (case l__law_cell_at => k_is)
    (case c__law_cell_at => k_is)
    (case k__law_cell_at => k_is)
    (case a__law_mixed => k_is)
    (case l__law_mixed => k_is)
    (case c__law_mixed => k_is)
    (case k__law_mixed => k_is)
    (case a__law_drawn => k_is)
    (case l__law_drawn => k_is)
    (case c__law_drawn => k_is)
    (case k__law_drawn => k_is)
    (case a__law_any => k_is)
    (case l__law_any => k_is)
    (case c__law_any => k_is)
    (case k__law_any => k_is)
    (case a__law_swapped => k_is)
    (case l__law_swapped => k_is)
    (case c__law_swapped => k_is)
    (case k__law_swapped => k_is)
    (case a__law_test => k_is)
    (case l__law_test => k_is)
    (case c__law_test => k_is)
    (case k__law_test => k_is)
    (case a__law_deed => k_is)
    (case l__law_deed => k_is)
    (case c__law_deed => k_is)
    (case k__law_deed => k_is)
    (case a__law_book => k_is)
    (case l__law_book => k_is)
    (case c__law_book => k_is)
    (case k__law_book => k_is)
    (case a__law_letter => k_is)
    (case l__law_letter => k_is)
    (case c__law_letter => k_is)
    (case k__law_letter => k_is)
    (case a__law_is_name => k_is)
    (case l__law_is_name => k_is)
    (case c__law_is_name => k_is)
    (case k__law_is_name => k_is)
    (case a__law_is_number => k_is)
    (case l__law_is_number => k_is)
    (case c__law_is_number => k_is)
    (case k__law_is_number => k_is)
    (case a__law_is_test => k_is)
    (case l__law_is_test => k_is)
    (case c__law_is_test => k_is)
    (case k__law_is_test => k_is)
    (case a__law_is_deed => k_is)
    (case l__law_is_deed => k_is)
    (case c__law_is_deed => k_is)
    (case k__law_is_deed => k_is)
    (case a__law_is_rule => k_is)
    (case l__law_is_rule => k_is)
    (case c__law_is_rule => k_is)
    (case k__law_is_rule => k_is)
    (case a__law_is_book => k_is)
    (case l__law_is_book => k_is)
    (case c__law_is_book => k_is)
    (case k__law_is_book => k_is)
    (case a__law_are_names => k_is)
    (case l__law_are_names => k_is)
    (case c__law_are_names => k_is)
    (case k__law_are_names => k_is)
    (case a__law_is_letter => k_is)
    (case l__law_is_letter => k_is)
    (case c__law_is_letter => k_is)
    (case k__law_is_letter => k_is)
    (case a__law_edges => k_is)
    (case l__law_edges => k_is)
    (case c__law_edges => k_is)
    (case k__law_edges => k_is)
    (case a__law_places_in => k_is)
    (case l__law_places_in => k_is)
    (case c__law_places_in => k_is)
    (case k__law_places_in => k_is)
    (case a__law_put_at => k_is)
    (case l__law_put_at => k_is)
    (case c__law_put_at => k_is)
    (case k__law_put_at => k_is)
    (case a__law_otherwise => k_is)
    (case l__law_otherwise => k_is)
    (case c__law_otherwise => k_is)
    (case k__law_otherwise => k_is)
    (case a__law_spoilt => k_is)
    (case l__law_spoilt => k_is)
    (case c__law_spoilt => k_is)
    (case k__law_spoilt => k_is)
    (case a__law_once => k_is)
    (case l__law_once => k_is)
    (case c__law_once => k_is)
    (case k__law_once => k_is)
    (case a_law => k_is)
    (case l_law => k_is)
    (case c_law => k_is)
    (case k_law => k_is)
    (case h_MAIN => k_is)
    (case h_LETTERS => k_is)
    (case h_LONGEST => k_is)
    (case h_MOST_NUMBER => k_is)
    (case h_MOST_NAMES => k_is)
    (case h_MOST_RULES => k_is)
    (case h_MOST_DEEDS => k_is)
    (case h_MOST_PARTS => k_is)
    (case h_DEEPEST => k_is)
    (case h_NAMED_TESTS => k_is)
    (case l_NAMED_TESTS => k_is)
    (case h_JOINS => k_is)
    (case l_JOINS => k_is)
    (case h_NAMED_DEEDS => k_is)
    (case l_NAMED_DEEDS => k_is)
    (case z_all => k_is)
    (case z_any => k_is)
    (case z_bool => k_is)
    (case z_dict => k_is)
    (case z_enumerate => k_is)
    (case z_int => k_is)
    (case z_isinstance => k_is)
    (case z_len => k_is)
    (case z_list => k_is)
    (case z_max => k_is)
    (case z_min => k_is)
    (case z_range => k_is)
    (case z_repr => k_is)
    (case z_set => k_is)
    (case z_sorted => k_is)
    (case z_str => k_is)
    (case z_sum => k_is)
    (case z_tuple => k_is)
    (case z_zip => k_is)
    (case v_NAMED_TESTS => exact ⟨by decide, by repeat (first | exact .nil | refine .cons ⟨_, rfl⟩ ?_)⟩)
    (case v_JOINS => exact ⟨by decide, by repeat (first | exact .nil | refine .cons ⟨_, rfl⟩ ?_)⟩)
    (case v_NAMED_DEEDS => exact ⟨by decide, by repeat (first | exact .nil | refine .cons ⟨_, rfl⟩ ?_)⟩)
