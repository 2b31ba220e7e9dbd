import PyProof.Rows.All
import Wide.All
import OpenK.AllK
import Wide.FinOn
import HandS.ForMost
import HandS.TupAny
import HandS.Wide
import KE.KDictKeyed
import KE.KeyNested
import KE.KDictWalk
import HandS.Dict
import HandS.WideBits
import HandS.Deep
import HandS.Zip
import KE.GoesMore
import HandS.IsInst
import HandS.RaiseMore
import HandS.Star
import HandS.EndBits
import HandS.Defaults
import KE.SortData
import KE.DataCmp
import HandS.SetFor
import HandS.Strs
import HandS.CallLocal
import HandS.RepeatKit
import PySem.Challenge.RW_evernear_k06_rows_of_calls_that_are_answ
set_option Elab.async false
set_option linter.all false
set_option maxRecDepth 100000
set_option maxHeartbeats 4000000
/-! Va0: new tuples, whose objects are known to have no dict. -/
namespace L2
open PySem PySem.Spec PyProof.Rows
section
variable {X : Cx} {es : List Expr} {t : TA} {pos : Pos}
def tTupN (t : TA) : TE := fun σ H Q => t σ H fun xs H1 => xs.length ≤ sizeLine ∧ ∀ (p : Addr) (o : Obj), o.dict = none → H1 p = none → Q (.ref p) (upd H1 p (.frz o (.tup xs)))
theorem pe_tupN {x1} (h : PA X es t) : PE X (.Tuple es x1 pos) (tTupN t) := by
  refine ⟨fun pins s σ H Q I hq => ?_⟩
  refine wpAny_Tuple_spliced (thn (h.run pos pins s σ H _ I hq) fun us s1 ⟨xs, H1, I1, r, z, q⟩ => ⟨by rw [← r.length]; exact z, ?_⟩)
  have hf : H1 s1.heap.objs.size = none := I1.hok.fresh (Nat.le_refl _)
  refine ⟨.ref s1.heap.objs.size, _, I1.laid (t' := s1.toks) (o := .frz { cls := .type "tuple", data := .seq us.toArray } (.tup xs)) (fun b u e => Heap.get?_push_of_some _ e) (Nat.le_refl _) ?_, rfl, q _ _ rfl hf⟩
  exact ⟨Heap.get?_push_size _ rfl, z, us, r, ⟨_, Heap.get?_push_size _ rfl, rfl, _, rfl⟩⟩
theorem call_tuple_ofN : CallR X (.type "tuple") (fun xs H Q => ∃ p ys, xs = [.ref p] ∧ ((SqL X.K H p ys ∧ ∀ (l : Addr) (o : Obj), o.dict = none → H l = none → Q (.ref l) (upd H l (.frz o (.tup ys)))) ∨ (SqT X.K H p ys ∧ Q (.ref p) H))) := by
  intro pins s σ H xs us Q I r h
  obtain ⟨p, ys, rfl, h⟩ := h
  obtain ⟨u, rfl, rx⟩ := vals1 r
  cases rx
  rcases h with ⟨hq, q⟩ | ⟨hq, q⟩
  · obtain ⟨its, r', pl, hz⟩ := I.list hq
    have hlen := r'.length
    refine call_tuple_list pl.isList (fun h' kp => ?_) (by simp only [List.size_toArray] <;> omega)
    have I1 : Inv X pins σ H { s with heap := h' } := I.kept (t' := s.toks) kp
    have I2 : Inv X pins σ (upd H h'.objs.size (.frz { cls := .type "tuple", data := .seq its.toArray } (.tup ys))) { s with heap := h'.push { cls := .type "tuple", data := .seq its.toArray } } :=
      I1.laid (t' := s.toks) (fun b o e => Heap.get?_push_of_some _ e) (Nat.le_refl _) (show ObjOk X.prog X.w _ _ _ (.frz _ (.tup ys)) from ⟨Heap.get?_push_size _ rfl, hz, its, r', IsTup.new _ _⟩)
    exact ⟨.ref h'.objs.size, _, I2, rfl, q _ _ rfl (I1.hok.fresh (Nat.le_refl _))⟩
  · obtain ⟨its, r', pl, hz⟩ := I.tuple hq
    exact call_tuple_same pl ⟨.ref p, H, I, rfl, q⟩
def rCatN (K : PySem.W.Frag) : R2 := fun x y H Q => ∃ a b xs ys, x = .ref a ∧ y = .ref b ∧ SqT K H a xs ∧ SqT K H b ys ∧ xs.length + ys.length ≤ sizeLine ∧
  (xs = [] → Q (.ref b) H) ∧ (xs ≠ [] → ys = [] → Q (.ref a) H) ∧ (xs ≠ [] → ys ≠ [] → ∀ (p : Addr) (o : Obj), o.dict = none → H p = none → Q (.ref p) (upd H p (.frz o (.tup (xs ++ ys)))))
theorem op_catN : OpR X (binaryOp .Add) (rCatN X.K) := by
  intro pins s σ H x y v u Q I rx ry h
  obtain ⟨a, b, xs, ys, rfl, rfl, ha, hb, hz, q0, q1, q2⟩ := h
  cases rx
  cases ry
  obtain ⟨its, r1, p1, _⟩ := I.tuple ha
  obtain ⟨its2, r2, p2, _⟩ := I.tuple hb
  by_cases hx : xs = []
  · subst hx
    cases r1
    exact cat_tup0 p1 p2 ⟨.ref b, H, I, rfl, q0 rfl⟩
  · refine HT.cat_tup p1 p2 (fun z => hx (r1.nil_iff.mp z)) (fun z => ⟨.ref a, H, I, rfl, q1 hx (r2.nil_iff.mp z)⟩) (fun z => ?_) (by rw [← r1.length, ← r2.length]; exact hz)
    refine ⟨.ref s.heap.objs.size, _, I.laid (t' := s.toks) (o := .frz { cls := .type "tuple", data := .seq (its ++ its2).toArray } (.tup (xs ++ ys))) (fun b ob q => Heap.get?_push_of_some _ q) (Nat.le_refl _) ?_, rfl, q2 hx (fun w => z (r2.nil_iff.mpr w)) _ _ rfl (I.hok.fresh (Nat.le_refl _))⟩
    exact ⟨Heap.get?_push_size _ rfl, by rw [List.length_append]; exact hz, _, r1.append r2, IsTup.new _ _⟩
def rSlN (K : PySem.W.Frag) : V → Option Int → Option Int → Hp → VK → Prop := fun x lo hi H Q => ∃ a xs, x = .ref a ∧ SqT K H a xs ∧
  (HT.sIx xs.length 0 lo = 0 ∧ HT.sIx xs.length xs.length hi = xs.length → Q (.ref a) H) ∧ (¬ (HT.sIx xs.length 0 lo = 0 ∧ HT.sIx xs.length xs.length hi = xs.length) → ∀ (p : Addr) (o : Obj), o.dict = none → H p = none → Q (.ref p) (upd H p (.frz o (.tup (cutV xs lo hi)))))
theorem sl_tupN : SlR X (rSlN X.K) := by
  intro pins s σ H x v vl vu lo hi sl Q I rx hs pl pu h
  obtain ⟨a, xs, rfl, hx, q1, q2⟩ := h
  cases rx
  obtain ⟨its, r, ht, hz⟩ := I.tuple hx
  have hlen : its.toArray.size = xs.length := by rw [List.size_toArray]; exact r.length.symm
  refine ⟨"tuple", _, PyProof.Rows.slot_tuple_getitem.lookup, ht.typeIs, ?_⟩
  by_cases hw : HT.sIx xs.length 0 lo = 0 ∧ HT.sIx xs.length xs.length hi = xs.length
  · exact getItem_tuple_whole ht hs pl pu (by rw [hlen]; exact hw) ⟨.ref a, H, I, rfl, q1 hw⟩
  · refine HT.getItem_tuple_cut ht hs pl pu (by rw [hlen]; exact hw) ?_ (by rw [hlen]; exact hz)
    rw [hlen]
    refine ⟨.ref s.heap.objs.size, _, I.laid (t' := s.toks) (o := .frz { cls := .type "tuple", data := .seq ((its.drop (HT.sIx xs.length 0 lo)).take (HT.sIx xs.length xs.length hi - HT.sIx xs.length 0 lo)).toArray } (.tup (cutV xs lo hi))) (fun b ob q => Heap.get?_push_of_some _ q) (Nat.le_refl _) ?_, rfl, q2 hw _ _ rfl (I.hok.fresh (Nat.le_refl _))⟩
    exact ⟨Heap.get?_push_size _ rfl, Nat.le_trans (cutV_length xs lo hi) hz, _, (r.drop (HT.sIx xs.length 0 lo)).take (HT.sIx xs.length xs.length hi - HT.sIx xs.length 0 lo), IsTup.new _ _⟩
end
end L2

/-! Vd0: dicts by tuples of numbers (of any depth); the object itself is told. -/
namespace L2
open PySem PySem.Spec PyProof.Rows
/-- the object at a is o: it may be written -/
def dX (a : Addr) (o : Obj) : HO := .ext (fun h => h.get? a = some o)
theorem dX_ok {P : Program} {w : World} {H : Hp} {h : Heap} {a : Addr} {o : Obj} (e : h.get? a = some o) : ObjOk P w H h a (dX a o) := ⟨e, ⟨o, e⟩, fun _ _ p k => k _ p⟩
theorem dX_at {X : Cx} {pins : List (Addr × Obj)} {σ : St} {H : Hp} {s : Shared} {a : Addr} {o : Obj} (I : Inv X pins σ H s) (e : H a = some (dX a o)) : s.heap.get? a = some o :=
  (show s.heap.get? a = some o ∧ _ from I.hok a _ e).1
mutual
/-- v is the key k -/
inductive NK (K : PySem.W.Frag) (H : Hp) : V → NestedKey → Prop
  | non : NK K H .non .none
  | int (i : Int) : NK K H (.int i) (.num i)
  | tup {a : Addr} {xs : List V} {ks : List NestedKey} : SqT K H a xs → NKL K H xs ks → NK K H (.ref a) (.tup ks)
inductive NKL (K : PySem.W.Frag) (H : Hp) : List V → List NestedKey → Prop
  | nil : NKL K H [] []
  | cons {v : V} {vs : List V} {k : NestedKey} {ks : List NestedKey} : NK K H v k → NKL K H vs ks → NKL K H (v :: vs) (k :: ks)
end
section
variable {K : PySem.W.Frag} {H H' : Hp}
mutual
theorem NK.hash : ∀ {v : V} {k : NestedKey}, NK K H v k → ∀ w w' : World, k.hash w = k.hash w'
  | _, _, .non, _, _ => rfl
  | _, _, .int _, _, _ => rfl
  | _, _, .tup _ r, w, w' => by rw [NestedKey.hash, NestedKey.hash, NKL.hash r w w']
theorem NKL.hash : ∀ {vs : List V} {ks : List NestedKey}, NKL K H vs ks → ∀ w w' : World, NestedKey.hashes w ks = NestedKey.hashes w' ks
  | _, _, .nil, _, _ => rfl
  | _, _, .cons h r, w, w' => by rw [NestedKey.hashes, NestedKey.hashes, NK.hash h w w', NKL.hash r w w']
end
mutual
theorem NK.kp (e : ∀ a xs, SqT K H a xs → SqT K H' a xs) : ∀ {v : V} {k : NestedKey}, NK K H v k → NK K H' v k
  | _, _, .non => .non
  | _, _, .int i => .int i
  | _, _, .tup h r => .tup (e _ _ h) (NKL.kp e r)
theorem NKL.kp (e : ∀ a xs, SqT K H a xs → SqT K H' a xs) : ∀ {vs : List V} {ks : List NestedKey}, NKL K H vs ks → NKL K H' vs ks
  | _, _, .nil => .nil
  | _, _, .cons h r => .cons (NK.kp e h) (NKL.kp e r)
end
end
section
variable {X : Cx} {pins : List (Addr × Obj)} {σ : St} {H : Hp} {s : Shared}
mutual
theorem NK.is (I : Inv X pins σ H s) : ∀ {v : V} {k : NestedKey} {u : Value}, NK X.K H v k → RelV v u → NestedIs s.heap k u
  | _, _, u, .non, r => by cases (show u = .none from r); exact .none
  | _, _, u, .int i, r => by obtain ⟨t, rfl⟩ := (show ∃ t, u = Value.int i t from r); exact .int i t
  | _, _, u, .tup h q, r => by
    obtain ⟨its, rv, ⟨o, ho, hc, n, hd⟩, _⟩ := I.tuple h
    cases (show u = Value.ref _ from r)
    exact .tup ho hc hd (by simpa using NKL.is I q rv)
theorem NKL.is (I : Inv X pins σ H s) : ∀ {vs : List V} {ks : List NestedKey} {us : List Value}, NKL X.K H vs ks → Vals vs us → NestedAll s.heap ks us
  | _, _, _, .nil, .nil => .nil
  | _, _, _, .cons h q, .cons r rr => .cons (NK.is I h r) (NKL.is I q rr)
end
end
abbrev Ent := NestedKey × Addr × Value
/-- the object o is a dict with the entries xs -/
structure TD (K : PySem.W.Frag) (H : Hp) (o : Obj) (xs : List Ent) : Prop where
  cls : o.ExactDict
  dat : ∃ es ep, o.data = .dict es ep ∧ ∀ w : World, es.toList = xs.map fun x => (⟨x.1.hash w, .ref x.2.1, x.2.2⟩ : DictEntry)
  nd : (xs.map (·.1)).Nodup
  len : xs.length ≤ 1000000
  key : ∀ x ∈ xs, NK K H (.ref x.2.1) x.1 ∧ x.1.depth ≤ 8
/-- at a stands such a dict -/
structure DX (K : PySem.W.Frag) (H : Hp) (a : Addr) (o : Obj) (xs : List Ent) : Prop where
  at_ : H a = some (dX a o)
  ns : (a == sysModules) = false
  td : TD K H o xs
theorem TD.kp {K : PySem.W.Frag} {H H' : Hp} {o : Obj} {xs : List Ent} (h : TD K H o xs) (e : ∀ a xs, SqT K H a xs → SqT K H' a xs) : TD K H' o xs := ⟨h.cls, h.dat, h.nd, h.len, fun x hx => ⟨(h.key x hx).1.kp e, (h.key x hx).2⟩⟩
section
variable {X : Cx} {pins : List (Addr × Obj)} {σ : St} {H : Hp} {s : Shared} {a : Addr} {o : Obj} {xs : List Ent} {k : NestedKey} {y v : V} {u r : Value} {A : Around} {E : Value → Shared → Prop}
theorem DX.of (I : Inv X pins σ H s) (h : DX X.K H a o xs) : s.heap.DictOfH (nestedKind X.prog X.w) a xs := by
  obtain ⟨es, ep, hd, he⟩ := h.td.dat
  exact ⟨o, es, ep, dX_at I h.at_, h.td.cls, hd, he X.w, fun x hx => ⟨(h.td.key x hx).1.is I rfl, (h.td.key x hx).2⟩, h.td.nd⟩
theorem TD.back {H' : Hp} {h' : Heap} {P : Program} {w : World} {K : PySem.W.Frag} (hx : h'.DictOfH (nestedKind P w) a xs) (hk : ∀ x ∈ xs, NK K H' (.ref x.2.1) x.1 ∧ x.1.depth ≤ 8) (hl : xs.length ≤ 1000000) : ∃ o', h'.get? a = some o' ∧ TD K H' o' xs := by
  obtain ⟨o', es, ep, ho, hc, hd, he, _, hn⟩ := hx
  refine ⟨o', ho, hc, ⟨es, ep, hd, fun w' => ?_⟩, hn, hl, hk⟩
  rw [he]
  refine List.map_congr_left fun x hx => ?_
  show (⟨x.1.hash w, .ref x.2.1, x.2.2⟩ : DictEntry) = _
  rw [(hk x hx).1.hash w w']
theorem line_ge : 1000000 ≤ sizeLine := by rw [sizeLine_eq]; omega
theorem room_nk (hu : A.units + 65 < cLine) : (nestedKind X.prog X.w).room A.in1 := by
  show A.in1.units + 8 < cLine
  have : A.in1.units = A.units + 1 := rfl
  omega
/-- k in d -/
theorem t_in {b : Addr} {Q : Value → Shared → Prop} (hu : A.units + 65 < cLine) (I : Inv X pins σ H s) (d : DX X.K H a o xs) (hk : NK X.K H (.ref b) k) (hd : k.depth ≤ 8) (h : ∀ s', Inv X pins σ H s' → Q (.bool (atKey xs k).isSome) s') :
    wpAny (model X.prog X.w) A (compareOp .In (.ref b) (.ref a)) Q E s :=
  wpAny_in_heap (knd := nestedKind X.prog X.w) (room_nk (X := X) hu) ⟨hk.is I rfl, hd⟩ d.ns (d.of I) (h _ (I.tok _))
theorem t_notIn {b : Addr} {Q : Value → Shared → Prop} (hu : A.units + 65 < cLine) (I : Inv X pins σ H s) (d : DX X.K H a o xs) (hk : NK X.K H (.ref b) k) (hd : k.depth ≤ 8) (h : ∀ s', Inv X pins σ H s' → Q (.bool (!(atKey xs k).isSome)) s') :
    wpAny (model X.prog X.w) A (compareOp .NotIn (.ref b) (.ref a)) Q E s :=
  wpAny_notIn_heap (knd := nestedKind X.prog X.w) (room_nk (X := X) hu) ⟨hk.is I rfl, hd⟩ d.ns (d.of I) (h _ (I.tok _))
/-- d[k] -/
theorem t_get {b : Addr} {p : Addr × Value} {Q : Value → Shared → Prop} (hu : A.units + 65 < cLine) (I : Inv X pins σ H s) (d : DX X.K H a o xs) (hk : NK X.K H (.ref b) k) (hd : k.depth ≤ 8) (hp : atKey xs k = some p) (h : ∀ s', Inv X pins σ H s' → Q p.2 s') :
    wpAny (model X.prog X.w) A (getItem (.ref a) (.ref b)) Q E s :=
  wpAny_getItem_heap (knd := nestedKind X.prog X.w) (room_nk (X := X) hu) ⟨hk.is I rfl, hd⟩ (d.of I) hp (h _ (I.tok _))
theorem sqT_upd {K : PySem.W.Frag} {o o' : Obj} (e : H a = some (dX a o)) : ∀ b ys, SqT K H b ys → SqT K (upd H a (dX a o')) b ys := by
  intro b ys h
  have ne : ∀ {u}, H b = some u → u ≠ dX a o → b ≠ a := fun {u} hb hu z => by subst z; rw [e] at hb; exact hu (Option.some.inj hb).symm
  rcases h with (h | ⟨q, h⟩) | h
  · exact .inl (.inl (by rw [upd_ne (ne h (fun z => by cases z))]; exact h))
  · exact .inl (.inr ⟨q, by rw [upd_ne (ne h (fun z => by cases z))]; exact h⟩)
  · exact .inr h
theorem DX.write {h' : Heap} {t' : Nat} {ys : List Ent} (I : Inv X pins σ H s) (d : DX X.K H a o xs) (hx : h'.DictOfH (nestedKind X.prog X.w) a ys) (hs : Heap.SameBut a s.heap h') (hk : ∀ x ∈ ys, NK X.K H (.ref x.2.1) x.1 ∧ x.1.depth ≤ 8) (hl : ys.length ≤ 1000000) :
    ∃ o', Inv X pins σ (upd H a (dX a o')) { s with heap := h', toks := t' } ∧ DX X.K (upd H a (dX a o')) a o' ys := by
  obtain ⟨o', ho, ht⟩ := TD.back hx hk hl
  refine ⟨o', d_write I (by rw [d.at_]; exact True.intro) hs ⟨o', ho⟩ (dX_ok ho), upd_same, d.ns, ht.kp (sqT_upd d.at_)⟩
/-- d[k] = v -/
theorem t_set {b : Addr} {Q : Unit → Shared → Prop} (hu : A.units + 65 < cLine) (I : Inv X pins σ H s) (d : DX X.K H a o xs) (hk : NK X.K H (.ref b) k) (hd : k.depth ≤ 8) (hl : xs.length < 1000000)
    (h : ∀ s' o', Inv X pins σ (upd H a (dX a o')) s' → DX X.K (upd H a (dX a o')) a o' (storedH xs k b r) → Q () s') : wpAny (model X.prog X.w) A (setItem (.ref a) (.ref b) r) Q E s := by
  refine wpAny_setItem_heap (knd := nestedKind X.prog X.w) (hsz := Nat.le_trans d.td.len line_ge) (room_nk (X := X) hu) ⟨hk.is I rfl, hd⟩ (d.of I) fun h' dd' hs => ?_
  have h1 : ∀ x ∈ storedH xs k b r, NK X.K H (.ref x.2.1) x.1 ∧ x.1.depth ≤ 8 := fun x hx => by
    unfold storedH at hx
    split at hx
    · obtain ⟨y, hy, rfl⟩ := List.mem_map.mp hx
      unfold putAt
      split
      · exact d.td.key y hy
      · exact d.td.key y hy
    · rcases List.mem_append.mp hx with hx | hx
      · exact d.td.key x hx
      · rw [List.mem_singleton.mp hx]; exact ⟨hk, hd⟩
  have h2 : (storedH xs k b r).length ≤ 1000000 := by
    unfold storedH
    split
    · rw [List.length_map]; exact d.td.len
    · rw [List.length_append, List.length_singleton]; omega
  obtain ⟨o', I', d'⟩ := d.write (t' := s.toks + (nestedKind X.prog X.w).draws k) I dd' hs h1 h2
  exact h _ o' I' d'
/-- del d[k] -/
theorem t_del {b : Addr} {p : Addr × Value} {Q : Unit → Shared → Prop} (hu : A.units + 65 < cLine) (I : Inv X pins σ H s) (d : DX X.K H a o xs) (hk : NK X.K H (.ref b) k) (hd : k.depth ≤ 8) (hp : atKey xs k = some p)
    (h : ∀ s' o', Inv X pins σ (upd H a (dX a o')) s' → DX X.K (upd H a (dX a o')) a o' (withoutH xs k) → Q () s') : wpAny (model X.prog X.w) A (delItem (.ref a) (.ref b)) Q E s := by
  refine wpAny_delItem_heap (knd := nestedKind X.prog X.w) (hsz := Nat.le_trans d.td.len line_ge) (room_nk (X := X) hu) ⟨hk.is I rfl, hd⟩ d.ns (d.of I) hp fun h' dd' hs => ?_
  obtain ⟨o', I', d'⟩ := d.write (t' := s.toks + (nestedKind X.prog X.w).draws k) I dd' hs (fun x hx => d.td.key x (List.mem_filter.mp hx).1) (Nat.le_trans (List.length_filter_le _ _) d.td.len)
  exact h _ o' I' d'
/-- {} -/
theorem t_new (hb : sysModules < s.heap.objs.size) : TD X.K H { cls := .type "dict", data := .dict #[] } [] := ⟨⟨rfl, rfl, rfl⟩, ⟨#[], 0, rfl, fun _ => rfl⟩, List.nodup_nil, Nat.zero_le _, fun _ h => nomatch h⟩
end
/-! ### dicts by ints -/
structure ID (o : Obj) (kvs : List (Int × Value)) : Prop where
  cls : o.ExactDict
  dat : ∃ es ep, o.data = .dict es ep ∧ ∀ (P : Program) (w : World), KeysOf (PySem.intKind P w) es ∧ Pairs (PySem.intKind P w) es.toList kvs
  nd : (kvs.map (·.1)).Nodup
  len : kvs.length ≤ 1000000
structure DI (H : Hp) (a : Addr) (o : Obj) (kvs : List (Int × Value)) : Prop where
  at_ : H a = some (dX a o)
  ns : (a == sysModules) = false
  id : ID o kvs
section
variable {X : Cx} {pins : List (Addr × Obj)} {σ : St} {H : Hp} {s : Shared} {a : Addr} {o : Obj} {xs : List (Int × Value)} {k : Int} {y v : V} {u r : Value} {A : Around} {E : Value → Shared → Prop}
theorem DI.of (I : Inv X pins σ H s) (h : DI H a o xs) : s.heap.DictOf (PySem.intKind X.prog X.w) a xs := by
  obtain ⟨es, ep, hd, he⟩ := h.id.dat
  exact ⟨o, es, ep, dX_at I h.at_, h.id.cls, hd, (he _ _).1, (he _ _).2, h.id.nd⟩
theorem pairs_any {P P' : Program} {w w' : World} : ∀ {es : List DictEntry} {kvs : List (Int × Value)}, Pairs (PySem.intKind P w) es kvs → Pairs (PySem.intKind P' w') es kvs
  | _, _, .nil => .nil
  | _, _, .cons h e r => .cons h e (pairs_any r)
theorem ID.back {h' : Heap} {P : Program} {w : World} (hx : h'.DictOf (PySem.intKind P w) a xs) (hl : xs.length ≤ 1000000) : ∃ o', h'.get? a = some o' ∧ ID o' xs := by
  obtain ⟨o', es, ep, ho, hc, hd, h1, h2, hn⟩ := hx
  exact ⟨o', ho, hc, ⟨es, ep, hd, fun P' w' => ⟨h1, pairs_any h2⟩⟩, hn, hl⟩
theorem int_is {P : Program} {w : World} (h : RelV (.int k) u) : (PySem.intKind P w).is k u = true := by
  obtain ⟨t, rfl⟩ := (show ∃ t, u = Value.int k t from h)
  show Value.isInt k (.int k t) = true
  simp [Value.isInt]
theorem DI.write {h' : Heap} {t' : Nat} {ys : List (Int × Value)} (I : Inv X pins σ H s) (d : DI H a o xs) (hx : h'.DictOf (PySem.intKind X.prog X.w) a ys) (hs : Heap.SameBut a s.heap h') (hl : ys.length ≤ 1000000) :
    ∃ o', Inv X pins σ (upd H a (dX a o')) { s with heap := h', toks := t' } ∧ DI (upd H a (dX a o')) a o' ys := by
  obtain ⟨o', ho, ht⟩ := ID.back hx hl
  exact ⟨o', d_write I (by rw [d.at_]; exact True.intro) hs ⟨o', ho⟩ (dX_ok ho), upd_same, d.ns, ht⟩
theorem i_in {Q : Value → Shared → Prop} (I : Inv X pins σ H s) (d : DI H a o xs) (ry : RelV (.int k) u) (h : ∀ s', Inv X pins σ H s' → Q (.bool (valueAt xs k).isSome) s') : wpAny (model X.prog X.w) A (compareOp .In u (.ref a)) Q E s :=
  wpAny_in_of (knd := PySem.intKind X.prog X.w) (int_is ry) d.ns (d.of I).mapOf (h _ (I.tok _))
theorem i_notIn {Q : Value → Shared → Prop} (I : Inv X pins σ H s) (d : DI H a o xs) (ry : RelV (.int k) u) (h : ∀ s', Inv X pins σ H s' → Q (.bool (!(valueAt xs k).isSome)) s') : wpAny (model X.prog X.w) A (compareOp .NotIn u (.ref a)) Q E s :=
  wpAny_notIn_of (knd := PySem.intKind X.prog X.w) (int_is ry) d.ns (d.of I).mapOf (h _ (I.tok _))
theorem i_get {p : Value} {Q : Value → Shared → Prop} (I : Inv X pins σ H s) (d : DI H a o xs) (ry : RelV (.int k) u) (hp : valueAt xs k = some p) (h : ∀ s', Inv X pins σ H s' → Q p s') : wpAny (model X.prog X.w) A (getItem (.ref a) u) Q E s :=
  wpAny_getItem_of (knd := PySem.intKind X.prog X.w) (int_is ry) (d.of I).mapOf hp (h _ (I.tok _))
theorem stored_len {ys : List (Int × Value)} (h : ys.length < 1000000) : (stored ys k r).length ≤ 1000000 := by
  unfold stored
  split
  · rw [List.length_map]; omega
  · rw [List.length_append, List.length_singleton]; omega
theorem i_set {Q : Unit → Shared → Prop} (I : Inv X pins σ H s) (d : DI H a o xs) (ry : RelV (.int k) u) (hl : xs.length < 1000000)
    (h : ∀ s' o', Inv X pins σ (upd H a (dX a o')) s' → DI (upd H a (dX a o')) a o' (stored xs k r) → Q () s') : wpAny (model X.prog X.w) A (setItem (.ref a) u r) Q E s := by
  refine wpAny_setItem_pairs (knd := PySem.intKind X.prog X.w) (hsz := Nat.le_trans d.id.len line_ge) (int_is ry) (d.of I) fun h' dd' hs => ?_
  obtain ⟨o', I', d'⟩ := d.write (t' := s.toks + 1) I dd' hs (stored_len hl)
  exact h _ o' I' d'
theorem i_del {Q : Unit → Shared → Prop} (I : Inv X pins σ H s) (d : DI H a o xs) (ry : RelV (.int k) u) (hp : (valueAt xs k).isSome = true)
    (h : ∀ s' o', Inv X pins σ (upd H a (dX a o')) s' → DI (upd H a (dX a o')) a o' (without xs k) → Q () s') : wpAny (model X.prog X.w) A (delItem (.ref a) u) Q E s := by
  refine wpAny_delItem_slot (d.of I).typeIs (by decide) PySem.F.slot_dict_delitem
    (call_meetsIn PySem.F.slot_dict_delitem (d.of I).typeIs PySem.F.entry_dict_delitem (PySem.F.args_dict_delitem_2 _ _) (meets_dict_delitem_pairs (PySem.intKind X.prog X.w) a (int_is ry)) ⟨xs, d.of I, Nat.le_trans d.id.len line_ge, hp, fun h' dd' hs => ?_⟩)
  obtain ⟨o', I', d'⟩ := d.write (t' := s.toks + 1) I dd' hs (Nat.le_trans (List.length_filter_le _ _) d.id.len)
  exact h _ o' I' d'
end
end L2

/-! Va1: values as trees. What an expression or a statement does to the data that the slots hold. -/
namespace Va
open PySem L2

/-- a tracked thing that may be written -/
def Mb : Option HO → Bool
  | some (.lst _) => true
  | some (.dK _) => true
  | some (.dT _) => true
  | some (.ext _) => true
  | _ => false
/-- all that stands, stands -/
def Grow (H H' : Hp) : Prop := ∀ a o, H a = some o → H' a = some o
/-- what cannot be written stands, and what stands at F -/
def Kp (F : List Addr) (H H' : Hp) : Prop := ∀ a o, H a = some o → Mb (some o) = false ∨ a ∈ F → H' a = some o

theorem Grow.refl (H : Hp) : Grow H H := fun _ _ h => h
theorem Grow.trans {H H1 H2 : Hp} (a : Grow H H1) (b : Grow H1 H2) : Grow H H2 := fun x o h => b x o (a x o h)
theorem Grow.new {H : Hp} {p : Addr} {o : HO} (h : H p = none) : Grow H (upd H p o) := fun a u e => by
  rw [upd_ne (ne_of_none e h)]; exact e
theorem Grow.back {H H' : Hp} {p : Addr} (e : Grow H H') (h : H' p = none) : H p = none := by
  cases q : H p with
  | none => rfl
  | some o => rw [e p o q] at h; cases h
theorem Grow.kp {H H' : Hp} {F : List Addr} (e : Grow H H') : Kp F H H' := fun a o h _ => e a o h
theorem Grow.sqT {K : PySem.W.Frag} {H H' : Hp} {a : Addr} {xs : List V} (e : Grow H H') (h : SqT K H a xs) : SqT K H' a xs := by
  rcases h with (h | ⟨o, h⟩) | h
  · exact .inl (.inl (e _ _ h))
  · exact .inl (.inr ⟨o, e _ _ h⟩)
  · exact .inr h
theorem Kp.sqT {K : PySem.W.Frag} {H H' : Hp} {F : List Addr} {a : Addr} {xs : List V} (e : Kp F H H') (h : SqT K H a xs) : SqT K H' a xs := by
  rcases h with (h | ⟨o, h⟩) | h
  · exact .inl (.inl (e _ _ h (.inl rfl)))
  · exact .inl (.inr ⟨o, e _ _ h (.inl rfl)⟩)
  · exact .inr h
theorem Kp.mono {F G : List Addr} {H H' : Hp} (h : Kp G H H') (s : ∀ a ∈ F, a ∈ G) : Kp F H H' := fun a o e q => h a o e (q.imp id (s a))
/-- a store at p keeps all else -/
theorem Kp.upd {H : Hp} {p : Addr} {o : HO} {F : List Addr} (hm : Mb (H p) = true) (hp : p ∉ F) : Kp F H (upd H p o) := fun a u e q => by
  have : a ≠ p := by
    rintro rfl
    rcases q with q | q
    · rw [e] at hm; rw [hm] at q; cases q
    · exact hp q
  rw [upd_ne this]; exact e

/-- a dict at a: its keys as data, its values -/
def DicAt (K : PySem.W.Frag) (H : Hp) (a : Addr) (ks : List PyData) (us : List Value) : Prop :=
  (∃ o xs, DX K H a o xs ∧ ks = xs.map (fun q => q.1.data) ∧ us = xs.map (·.2.2)) ∨
  (∃ o kvs, DI H a o kvs ∧ ks = kvs.map (fun q => PyData.int q.1) ∧ us = kvs.map (·.2))

/-- an object that is known to have no dict of its own -/
def NoD (K : PySem.W.Frag) (H : Hp) (a : Addr) : Prop := (∃ o u, H a = some (.frz o u) ∧ o.dict = none) ∨ ∃ o, K.lookup a = some o ∧ o.dict = none
theorem Grow.noD {K : PySem.W.Frag} {H H' : Hp} {a : Addr} (e : Grow H H') (h : NoD K H a) : NoD K H' a := h.imp (fun ⟨o, u, q, z⟩ => ⟨o, u, e _ _ q, z⟩) id
theorem Kp.noD {K : PySem.W.Frag} {H H' : Hp} {F : List Addr} {a : Addr} (e : Kp F H H') (h : NoD K H a) : NoD K H' a := h.imp (fun ⟨o, u, q, z⟩ => ⟨o, u, e _ _ q (.inl rfl), z⟩) id
/-- data of another kind: a pair that a walk made (its object is not known), a def -/
def wrap (d : PyData) : PyData := .dict [(.none, d)]
mutual
/-- v stands for the data d; F: the lists and dicts in it -/
inductive Rp (K : PySem.W.Frag) (H : Hp) : V → PyData → List Addr → Prop
  | non : Rp K H .non .none []
  | bl (b : Bool) : Rp K H (.bl b) (.bool b) []
  | int (i : Int) : Rp K H (.int i) (.int i) []
  | str (x : Str) : Rp K H (.str x) (.str x) []
  | tup {a : Addr} {xs : List V} {ds : List PyData} {F : List Addr} : SqT K H a xs ∧ NoD K H a → RpL K H xs ds F → Rp K H (.ref a) (.tuple ds) F
  | pair {a : Addr} {xs : List V} {ds : List PyData} {F : List Addr} : SqT K H a xs → RpL K H xs ds F → Rp K H (.ref a) (.dict [(.none, .tuple ds)]) F
  | fn (a : Addr) : Rp K H (.ref a) (.dict [(.none, .int (a : Nat))]) []
  | lst {a : Addr} {xs : List V} {ds : List PyData} {F : List Addr} : H a = some (.lst xs) → RpL K H xs ds F → Rp K H (.ref a) (.list ds) (a :: F)
  | dic {a : Addr} {ks : List PyData} {us : List Value} {vs : List V} {ds : List PyData} {F : List Addr} : DicAt K H a ks us → Vals vs us → RpL K H vs ds F → Rp K H (.ref a) (.dict (ks.zip ds)) (a :: F)
inductive RpL (K : PySem.W.Frag) (H : Hp) : List V → List PyData → List Addr → Prop
  | nil : RpL K H [] [] []
  | cons {v : V} {vs : List V} {d : PyData} {ds : List PyData} {F G : List Addr} : Rp K H v d F → RpL K H vs ds G → RpL K H (v :: vs) (d :: ds) (F ++ G)
end

theorem DicAt.keep {K : PySem.W.Frag} {H H' : Hp} {a : Addr} {ks : List PyData} {us : List Value} (h : DicAt K H a ks us) (e : ∀ o, H a = some o → H' a = some o) (t : ∀ b ys, SqT K H b ys → SqT K H' b ys) : DicAt K H' a ks us := by
  rcases h with ⟨o, xs, h, q⟩ | ⟨o, kvs, h, q⟩
  · exact .inl ⟨o, xs, ⟨e _ h.at_, h.ns, h.td.kp t⟩, q⟩
  · exact .inr ⟨o, kvs, ⟨e _ h.at_, h.ns, h.id⟩, q⟩
theorem DicAt.mb {K : PySem.W.Frag} {H : Hp} {a : Addr} {ks : List PyData} {us : List Value} (h : DicAt K H a ks us) : Mb (H a) = true := by
  rcases h with ⟨o, xs, h, q⟩ | ⟨o, kvs, h, q⟩ <;> rw [h.at_] <;> rfl
theorem DicAt.keys {K : PySem.W.Frag} {H : Hp} {a : Addr} {ks : List PyData} {us : List Value} (h : DicAt K H a ks us) : ∀ k ∈ ks, k ≠ .none := by
  rcases h with ⟨o, xs, h, rfl, _⟩ | ⟨o, kvs, h, rfl, _⟩
  · intro k hk
    obtain ⟨q, hq, rfl⟩ := List.mem_map.mp hk
    have := (h.td.key q hq).1
    generalize q.1 = kk at this
    cases this with
    | tup _ _ => exact fun z => by cases z
  · intro k hk
    obtain ⟨q, _, rfl⟩ := List.mem_map.mp hk
    exact fun z => by cases z
section
variable {K : PySem.W.Frag} {H H' : Hp}
mutual
theorem Rp.kp : ∀ {v : V} {d : PyData} {F : List Addr}, Rp K H v d F → Kp F H H' → Rp K H' v d F
  | _, _, _, .non, _ => .non
  | _, _, _, .bl b, _ => .bl b
  | _, _, _, .int b, _ => .int b
  | _, _, _, .str b, _ => .str b
  | _, _, _, .tup h r, e => .tup ⟨e.sqT h.1, e.noD h.2⟩ (RpL.kp r e)
  | _, _, _, .pair h r, e => .pair (e.sqT h) (RpL.kp r e)
  | _, _, _, .fn a, _ => .fn a
  | _, _, _, .lst h r, e => .lst (e _ _ h (.inr (List.mem_cons_self ..))) (RpL.kp r (e.mono fun _ q => List.mem_cons_of_mem _ q))
  | _, _, _, .dic h u r, e => .dic (h.keep (fun o q => e _ o q (.inr (List.mem_cons_self ..))) fun _ _ z => e.sqT z) u (RpL.kp r (e.mono fun _ q => List.mem_cons_of_mem _ q))
theorem RpL.kp : ∀ {vs : List V} {ds : List PyData} {F : List Addr}, RpL K H vs ds F → Kp F H H' → RpL K H' vs ds F
  | _, _, _, .nil, _ => .nil
  | _, _, _, .cons h r, e => .cons (Rp.kp h (e.mono fun _ q => List.mem_append_left _ q)) (RpL.kp r (e.mono fun _ q => List.mem_append_right _ q))
end
theorem Rp.grow {v : V} {d : PyData} {F : List Addr} (h : Rp K H v d F) (e : Grow H H') : Rp K H' v d F := h.kp e.kp
theorem RpL.grow {v : List V} {d : List PyData} {F : List Addr} (h : RpL K H v d F) (e : Grow H H') : RpL K H' v d F := h.kp e.kp
mutual
theorem Rp.mb : ∀ {v : V} {d : PyData} {F : List Addr}, Rp K H v d F → ∀ a ∈ F, Mb (H a) = true
  | _, _, _, .non, _, h => nomatch h
  | _, _, _, .bl b, _, h => nomatch h
  | _, _, _, .int b, _, h => nomatch h
  | _, _, _, .str b, _, h => nomatch h
  | _, _, _, .tup _ r, a, h => RpL.mb r a h
  | _, _, _, .pair _ r, a, h => RpL.mb r a h
  | _, _, _, .fn b, _, h => nomatch h
  | _, _, _, .lst e r, a, h => by
    rcases List.mem_cons.mp h with rfl | h
    · rw [e]; rfl
    · exact RpL.mb r a h
  | _, _, _, .dic e _ r, a, h => by
    rcases List.mem_cons.mp h with rfl | h
    · exact e.mb
    · exact RpL.mb r a h
theorem RpL.mb : ∀ {vs : List V} {ds : List PyData} {F : List Addr}, RpL K H vs ds F → ∀ a ∈ F, Mb (H a) = true
  | _, _, _, .nil, _, h => nomatch h
  | _, _, _, .cons e r, a, h => (List.mem_append.mp h).elim (Rp.mb e a) (RpL.mb r a)
end
theorem Rp.stn {v : V} {d : PyData} {F : List Addr} (h : Rp K H v d F) {a : Addr} (m : a ∈ F) : H a ≠ none := fun e => by
  have := h.mb a m; rw [e] at this; cases this
theorem RpL.stn {v : List V} {d : List PyData} {F : List Addr} (h : RpL K H v d F) {a : Addr} (m : a ∈ F) : H a ≠ none := fun e => by
  have := h.mb a m; rw [e] at this; cases this
theorem RpL.length : ∀ {vs : List V} {ds : List PyData} {F : List Addr}, RpL K H vs ds F → vs.length = ds.length
  | _, _, _, .nil => rfl
  | _, _, _, .cons _ r => congrArg Nat.succ r.length
theorem RpL.app : ∀ {vs us : List V} {ds es : List PyData} {F G : List Addr}, RpL K H vs ds F → RpL K H us es G → RpL K H (vs ++ us) (ds ++ es) (F ++ G)
  | _, _, _, _, _, _, .nil, s => s
  | _, _, _, _, _, _, .cons e r, s => by rw [List.append_assoc]; exact .cons e (RpL.app r s)
theorem RpL.one {v : V} {d : PyData} {F : List Addr} (h : Rp K H v d F) : RpL K H [v] [d] F := by
  have := RpL.cons h .nil; rwa [List.append_nil] at this
/-- the item at a place: a part of the footprint -/
theorem RpL.get : ∀ {vs : List V} {ds : List PyData} {F : List Addr} (i : Nat) {d : PyData}, RpL K H vs ds F → ds[i]? = some d → ∃ v A G B, vs[i]? = some v ∧ Rp K H v d G ∧ F = A ++ (G ++ B)
  | _, _, _, 0, d, .cons (F := F) (G := G) e r, h => by
    cases h
    exact ⟨_, [], F, G, rfl, e, rfl⟩
  | _, _, _, i + 1, d, .cons (F := F) (G := G) e r, h => by
    obtain ⟨v, A, G', B, h1, h2, h3⟩ := RpL.get i r h
    exact ⟨v, F ++ A, G', B, h1, h2, by rw [h3, List.append_assoc]⟩
theorem RpL.getV : ∀ {vs : List V} {ds : List PyData} {F : List Addr} (i : Nat) {v : V}, RpL K H vs ds F → vs[i]? = some v → ∃ d, ds[i]? = some d
  | _, ds, _, i, v, h, e => by
    have l := h.length
    have := (List.getElem?_eq_some_iff.mp e).1
    exact ⟨ds[i], List.getElem?_eq_getElem (by omega)⟩
theorem RpL.parts : ∀ {vs : List V} {ds : List PyData} {F : List Addr} (n : Nat), RpL K H vs ds F → ∃ A B, F = A ++ B ∧ RpL K H (vs.take n) (ds.take n) A ∧ RpL K H (vs.drop n) (ds.drop n) B
  | _, _, F, 0, h => ⟨[], F, rfl, .nil, h⟩
  | _, _, _, _ + 1, .nil => ⟨[], [], rfl, .nil, .nil⟩
  | _, _, _, n + 1, .cons (F := F) (G := G) e r => by
    obtain ⟨A, B, h1, h2, h3⟩ := RpL.parts n r
    exact ⟨F ++ A, B, by rw [h1, List.append_assoc], .cons e h2, h3⟩
end

mutual
/-- no list and no dict in it -/
def flat : PyData → Bool
  | .list _ => false
  | .dict [(.none, .tuple ds)] => flatL ds
  | .dict [(.none, .int _)] => true
  | .dict _ => false
  | .tuple ds => flatL ds
  | _ => true
def flatL : List PyData → Bool
  | [] => true
  | d :: ds => flat d && flatL ds
end
mutual
theorem Rp.flat {K : PySem.W.Frag} {H : Hp} : ∀ {v : V} {d : PyData} {F : List Addr}, Rp K H v d F → Va.flat d = true → F = []
  | _, _, _, .non, _ => rfl
  | _, _, _, .bl b, _ => rfl
  | _, _, _, .int b, _ => rfl
  | _, _, _, .str b, _ => rfl
  | _, _, _, .tup _ r, h => RpL.flat r (by simpa only [Va.flat] using h)
  | _, _, _, .pair _ r, h => RpL.flat r (by simpa only [Va.flat] using h)
  | _, _, _, .fn _, _ => rfl
  | _, _, _, .lst e r, h => by simp [Va.flat] at h
  | _, _, _, .dic e _ r, h => by
    exfalso
    have key : ∀ (ks : List PyData) (ds : List PyData), (∀ k ∈ ks, k ≠ .none) → Va.flat (.dict (ks.zip ds)) = false := by
      intro ks ds hk
      match ks, ds with
      | [], _ => simp [Va.flat]
      | _ :: _, [] => simp [Va.flat]
      | k :: ks, d :: ds =>
        have := hk k (List.mem_cons_self ..)
        rw [List.zip_cons_cons]
        cases k with
        | none => exact absurd rfl this
        | _ => simp [Va.flat]
    rw [key _ _ e.keys] at h
    cases h
theorem RpL.flat {K : PySem.W.Frag} {H : Hp} : ∀ {v : List V} {d : List PyData} {F : List Addr}, RpL K H v d F → Va.flatL d = true → F = []
  | _, _, _, .nil, _ => rfl
  | _, _, _, .cons e r, h => by
    simp only [Va.flatL, Bool.and_eq_true] at h
    rw [Rp.flat e h.1, RpL.flat r h.2, List.append_nil]
end

theorem wrap_ne {ks ds : List PyData} {x : PyData} (hk : ∀ k ∈ ks, k ≠ .none) : ks.zip ds ≠ [(.none, x)] := by
  intro h
  match ks, ds with
  | [], _ => simp at h
  | _ :: _, [] => simp at h
  | k :: ks, d :: ds =>
    rw [List.zip_cons_cons] at h
    have := (List.cons.inj h).1
    exact hk k (List.mem_cons_self ..) (Prod.mk.inj this).1
theorem Rp.pair_inv {K : PySem.W.Frag} {H : Hp} {v : V} {ds : List PyData} {F : List Addr} (r : Rp K H v (.dict [(.none, .tuple ds)]) F) : ∃ a xs, v = .ref a ∧ SqT K H a xs ∧ RpL K H xs ds F := by
  generalize hd : PyData.dict [(.none, .tuple ds)] = d at r
  cases r with
  | dic e _ r => exact absurd (PyData.dict.inj hd).symm (wrap_ne e.keys)
  | pair h r =>
    simp only [PyData.dict.injEq, List.cons.injEq, Prod.mk.injEq, PyData.tuple.injEq, true_and, and_true] at hd
    subst hd
    exact ⟨_, _, rfl, h, r⟩
  | fn a => simp at hd
  | _ => cases hd
theorem Rp.fn_inv {K : PySem.W.Frag} {H : Hp} {v : V} {i : Int} {F : List Addr} (r : Rp K H v (.dict [(.none, .int i)]) F) : ∃ a : Addr, v = .ref a ∧ i = (a : Nat) ∧ F = [] := by
  generalize hd : PyData.dict [(.none, .int i)] = d at r
  cases r with
  | dic e _ r => exact absurd (PyData.dict.inj hd).symm (wrap_ne e.keys)
  | pair h r => simp at hd
  | fn a =>
    simp only [PyData.dict.injEq, List.cons.injEq, Prod.mk.injEq, PyData.int.injEq, true_and, and_true] at hd
    exact ⟨a, rfl, hd, rfl⟩
  | _ => cases hd

/-! ### what the slots hold -/
/-- a slot: its data, and how far it is the slot's own: 0 shared, 1 the list itself, 2 all lists in it -/
abbrev Sl := Option (PyData × Nat)
abbrev Env := List Sl
/-- what the slot alone may write -/
def Mf (m : Nat) (F : List Addr) : List Addr := if m = 2 then F else if m = 1 then F.take 1 else []
theorem Mf_sub {m : Nat} {F : List Addr} {a : Addr} (h : a ∈ Mf m F) : a ∈ F := by
  unfold Mf at h
  split at h
  · exact h
  · split at h
    · exact List.mem_of_mem_take h
    · cases h
theorem Mf0 (F : List Addr) : Mf 0 F = [] := rfl
/-- what a slot with the mode m has: the wish about its footprint -/
def Own (B : Hp) (v : V) (m : Nat) (F : List Addr) : Prop := (∀ a ∈ Mf m F, B a = none) ∧ (m = 1 → ∃ p G, v = .ref p ∧ F = p :: G ∧ p ∉ G) ∧ (m = 2 → F.Nodup)
theorem Own.zero {B : Hp} {v : V} {F : List Addr} : Own B v 0 F := ⟨fun a h => (by rw [Mf0] at h; cases h), fun z => (by cases z), fun z => (by cases z)⟩
structure SR (K : PySem.W.Frag) (B : Hp) (AF : List Addr) (σ : L2.St) (H : Hp) (ρ : Env) (Fs : Nat → List Addr) : Prop where
  len : σ.length = ρ.length
  same : Grow B H
  val : ∀ i d m, ρ[i]? = some (some (d, m)) → ∃ v, σ[i]? = some (some v) ∧ Rp K H v d (Fs i) ∧ (∀ a ∈ Fs i, B a = none ∨ a ∈ AF) ∧ Own B v m (Fs i)
  dis : ∀ i j d m d' m', ρ[i]? = some (some (d, m)) → ρ[j]? = some (some (d', m')) → i ≠ j → ∀ a ∈ Mf m (Fs i), a ∉ Fs j

section
variable {K : PySem.W.Frag} {B : Hp} {AF : List Addr} {σ σ' : L2.St} {H H' : Hp} {ρ ρ' : Env} {Fs Fs' : Nat → List Addr}
theorem SR.grow (h : SR K B AF σ H ρ Fs) (e : Grow H H') : SR K B AF σ H' ρ Fs :=
  ⟨h.len, h.same.trans e, fun i d m q => by
    obtain ⟨v, h1, h2, h3⟩ := h.val i d m q
    exact ⟨v, h1, h2.grow e, h3⟩, h.dis⟩
theorem SR.there (h : SR K B AF σ H ρ Fs) {i : Nat} {d : PyData} {m : Nat} (q : ρ[i]? = some (some (d, m))) {a : Addr} (ha : a ∈ Fs i) : H a ≠ none := by
  obtain ⟨v, h1, h2, h3⟩ := h.val i d m q
  exact h2.stn ha
/-- fewer slots are told, or less of them -/
theorem SR.less (h : SR K B AF σ H ρ Fs) (hl : ρ'.length = ρ.length) (e : ∀ (i : Nat) (d : PyData) (m : Nat), ρ'[i]? = some (some (d, m)) → ∃ m0, ρ[i]? = some (some (d, m0)) ∧ (m = m0 ∨ m = 0)) : SR K B AF σ H ρ' Fs := by
  refine ⟨h.len.trans hl.symm, h.same, fun i d m q => ?_, fun i j d m d' m' q1 q2 ne a ha => ?_⟩
  · obtain ⟨m0, q0, z⟩ := e i d m q
    obtain ⟨v, h1, h2, h3, h4⟩ := h.val i d m0 q0
    rcases z with rfl | rfl
    · exact ⟨v, h1, h2, h3, h4⟩
    · exact ⟨v, h1, h2, h3, .zero⟩
  · obtain ⟨m0, q0, z⟩ := e i d m q1
    obtain ⟨m0', q0', _⟩ := e j d' m' q2
    rcases z with rfl | rfl
    · exact h.dis i j d m d' m0' q0 q0' ne a ha
    · rw [Mf0] at ha; cases ha
end
end Va

/-! Va2: expressions over trees. -/
namespace Va
open PySem L2

/-- whose lists a value holds: mv: new ones, and all of the slots L that own theirs; sp: the top one is new, the others are new or of the slots L; bo: new or of the slots L -/
inductive Kd where
  | mv (L : List Nat) | sp (L : List Nat) | bo (L : List Nat)
def Kd.src : Kd → List Nat
  | .mv L => L
  | .sp L => L
  | .bo L => L
@[simp] def apart (L M : List Nat) : Bool := L.all fun i => !M.contains i
def aj : Kd → Kd → Kd
  | .mv L, .mv M => if apart L M then .mv (L ++ M) else .bo (L ++ M)
  | k, l => .bo (k.src ++ l.src)
def Src (ρ : Env) (Fs : Nat → List Addr) (L : List Nat) (a : Addr) : Prop := ∃ i ∈ L, (∃ d m, ρ[i]? = some (some (d, m))) ∧ a ∈ Fs i
def Src2 (ρ : Env) (Fs : Nat → List Addr) (L : List Nat) (a : Addr) : Prop := ∃ i ∈ L, (∃ d, ρ[i]? = some (some (d, 2))) ∧ a ∈ Fs i
def KO (ρ : Env) (Fs : Nat → List Addr) (H : Hp) (F : List Addr) : Kd → Prop
  | .mv L => F.Nodup ∧ ∀ a ∈ F, H a = none ∨ Src2 ρ Fs L a
  | .sp L => ∀ a ∈ F, H a = none ∨ Src ρ Fs L a
  | .bo L => ∀ a ∈ F, H a = none ∨ Src ρ Fs L a
/-- of a value's footprint -/
def KV (ρ : Env) (Fs : Nat → List Addr) (H : Hp) (v : V) (F : List Addr) (k : Kd) : Prop :=
  KO ρ Fs H F k ∧ ∀ L, k = .sp L → ∃ p G, v = .ref p ∧ F = p :: G ∧ p ∉ G ∧ H p = none

section
variable {ρ : Env} {Fs : Nat → List Addr} {H H' : Hp} {F G : List Addr} {k l : Kd} {L M : List Nat} {a : Addr} {v : V}
theorem Src2.src (h : Src2 ρ Fs L a) : Src ρ Fs L a := by
  obtain ⟨i, hi, ⟨d, e⟩, m⟩ := h
  exact ⟨i, hi, ⟨d, 2, e⟩, m⟩
theorem Src.mono (h : Src ρ Fs L a) (s : ∀ i ∈ L, i ∈ M) : Src ρ Fs M a := by
  obtain ⟨i, hi, e, m⟩ := h
  exact ⟨i, s i hi, e, m⟩
theorem Src2.mono (h : Src2 ρ Fs L a) (s : ∀ i ∈ L, i ∈ M) : Src2 ρ Fs M a := by
  obtain ⟨i, hi, e, m⟩ := h
  exact ⟨i, s i hi, e, m⟩
theorem KO.any (h : KO ρ Fs H F k) : ∀ a ∈ F, H a = none ∨ Src ρ Fs k.src a := by
  cases k with
  | mv L => exact fun a ha => (h.2 a ha).imp id Src2.src
  | sp L => exact h
  | bo L => exact h
theorem KO.bo (h : KO ρ Fs H F k) (s : ∀ i ∈ k.src, i ∈ M) : KO ρ Fs H F (.bo M) := fun a ha => (h.any a ha).imp id fun q => q.mono s
theorem KO.nil : KO ρ Fs H [] (.mv []) := ⟨List.nodup_nil, fun a h => nomatch h⟩
theorem KO.nilK : KO ρ Fs H [] k := by
  cases k with
  | mv L => exact ⟨List.nodup_nil, fun a h => nomatch h⟩
  | sp L => exact fun a h => nomatch h
  | bo L => exact fun a h => nomatch h
theorem KO.back (h : KO ρ Fs H' F k) (e : Grow H H') : KO ρ Fs H F k := by
  cases k with
  | mv L => exact ⟨h.1, fun a ha => (h.2 a ha).imp e.back id⟩
  | sp L => exact fun a ha => (h a ha).imp e.back id
  | bo L => exact fun a ha => (h a ha).imp e.back id
theorem KO.sub (h : KO ρ Fs H F k) (s : List.Sublist G F) : KO ρ Fs H G k := by
  cases k with
  | mv L => exact ⟨h.1.sublist s, fun a ha => h.2 a (s.subset ha)⟩
  | sp L => exact fun a ha => h a (s.subset ha)
  | bo L => exact fun a ha => h a (s.subset ha)
theorem KV.of (h : KO ρ Fs H F k) (n : ∀ L, k ≠ .sp L) : KV ρ Fs H v F k := ⟨h, fun L e => absurd e (n L)⟩
theorem KV.nil : KV ρ Fs H v [] (.mv []) := .of .nil fun _ e => by cases e
theorem KV.mv (h : KO ρ Fs H F (.mv L)) : KV ρ Fs H v F (.mv L) := .of h fun _ e => by cases e
theorem KV.bo (h : KO ρ Fs H F (.bo L)) : KV ρ Fs H v F (.bo L) := .of h fun _ e => by cases e
/-- two footprints, one made behind the other -/
theorem KO.join {K : PySem.W.Frag} {B : Hp} {AF : List Addr} {σ : L2.St} (S : SR K B AF σ H ρ Fs) (e : Grow H H') (h1 : KO ρ Fs H F k) (hF : ∀ a ∈ F, H' a ≠ none) (h2 : KO ρ Fs H' G l) : KO ρ Fs H (F ++ G) (aj k l) := by
  have bo : ∀ M, (∀ i ∈ k.src, i ∈ M) → (∀ i ∈ l.src, i ∈ M) → KO ρ Fs H (F ++ G) (.bo M) := fun M s1 s2 a ha => by
    rcases List.mem_append.mp ha with ha | ha
    · exact (h1.any a ha).imp id fun q => q.mono s1
    · exact (h2.any a ha).imp e.back fun q => q.mono s2
  have all : KO ρ Fs H (F ++ G) (.bo (k.src ++ l.src)) := bo _ (fun i hi => List.mem_append_left _ hi) (fun i hi => List.mem_append_right _ hi)
  cases k with
  | sp L => exact all
  | bo L => exact all
  | mv L =>
    cases l with
    | sp M => exact all
    | bo M => exact all
    | mv M =>
      show KO ρ Fs H (F ++ G) (if apart L M then .mv (L ++ M) else .bo (L ++ M))
      by_cases hd : apart L M = true
      · rw [if_pos hd]
        refine ⟨List.nodup_append.mpr ⟨h1.1, h2.1, fun a ha b hb z => ?_⟩, fun a ha => ?_⟩
        · subst z
          rcases h2.2 a hb with q | ⟨j, hj, ⟨d', ej⟩, mj⟩
          · exact hF a ha q
          · rcases h1.2 a ha with q | ⟨i, hi, ⟨d, ei⟩, mi⟩
            · exact S.there ej mj q
            · have ne : i ≠ j := by
                rintro rfl
                have := List.all_eq_true.mp hd i hi
                rw [List.contains_iff_mem.mpr hj] at this
                cases this
              exact S.dis i j d 2 d' 2 ei ej ne a mi mj
        · rcases List.mem_append.mp ha with ha | ha
          · exact (h1.2 a ha).imp id fun q => q.mono fun i hi => List.mem_append_left _ hi
          · exact (h2.2 a ha).imp e.back fun q => q.mono fun i hi => List.mem_append_right _ hi
      · rw [if_neg hd]
        exact all
end

abbrev EF := Env → Option (PyData × Kd)
abbrev AFn := Env → Option (List PyData × Kd)
abbrev Gn := List PyData → Kd → Option (PyData × Kd)

/-- an expression's reading gives the data that f tells -/
def VE (K : PySem.W.Frag) (te : TE) (f : EF) : Prop := ∀ (B : Hp) (AF : List Addr) (σ : L2.St) (H : Hp) (ρ : Env) (Fs : Nat → List Addr) (d : PyData) (k : Kd), SR K B AF σ H ρ Fs → f ρ = some (d, k) →
  ∀ Q : VK, (∀ v H' F, Grow H H' → Rp K H' v d F → KV ρ Fs H v F k → Q v H') → te σ H Q
def VA (K : PySem.W.Frag) (ta : TA) (f : AFn) : Prop := ∀ (B : Hp) (AF : List Addr) (σ : L2.St) (H : Hp) (ρ : Env) (Fs : Nat → List Addr) (ds : List PyData) (k : Kd), SR K B AF σ H ρ Fs → f ρ = some (ds, k) →
  ∀ Q : List V → Hp → Prop, (∀ vs H' F, Grow H H' → RpL K H' vs ds F → KO ρ Fs H F k → Q vs H') → ta σ H Q
def VT (K : PySem.W.Frag) (tt : TT) (f : Env → Option Bool) : Prop := ∀ (B : Hp) (AF : List Addr) (σ : L2.St) (H : Hp) (ρ : Env) (Fs : Nat → List Addr) (b : Bool), SR K B AF σ H ρ Fs → f ρ = some b →
  ∀ Q : Bool → Hp → Prop, (∀ H', Grow H H' → Q b H') → tt σ H Q
/-- an operation on values gives what g tells of the data -/
def VF (K : PySem.W.Frag) (r : List V → Hp → VK → Prop) (g : Gn) : Prop := ∀ (ρ : Env) (Fs : Nat → List Addr) (H0 H : Hp) (vs : List V) (ds : List PyData) (F : List Addr) (k : Kd) (d : PyData) (k' : Kd), Grow H0 H → RpL K H vs ds F → KO ρ Fs H0 F k → g ds k = some (d, k') →
  ∀ Q : VK, (∀ v H' G, Grow H H' → Rp K H' v d G → KV ρ Fs H0 v G k' → Q v H') → r vs H Q

def eVar (i : Nat) : EF := fun ρ => match ρ[i]? with
  | some (some (d, m)) => some (d, if flat d then .mv [] else if m = 2 then .mv [i] else .bo [i])
  | _ => none
def eC (d : PyData) : EF := fun _ => some (d, .mv [])
def aNil : AFn := fun _ => some ([], .mv [])
def aCons (f : EF) (g : AFn) : AFn := fun ρ => (f ρ).bind fun p => (g ρ).bind fun q => some (p.1 :: q.1, aj p.2 q.2)
def eApp (g : Gn) (f : AFn) : EF := fun ρ => (f ρ).bind fun p => g p.1 p.2

section
variable {K : PySem.W.Frag} {ta tb te : TE} {t : TA} {tt tu : TT} {f g : EF} {fa : AFn}
theorem ve_var (i : Nat) : VE K (tVar i) (eVar i) := by
  intro B AF σ H ρ Fs d k S h Q q
  unfold eVar at h
  split at h
  · rename_i d' m e
    injection h with h
    injection h with h1 h2
    subst h1
    obtain ⟨v, h3, h4, h5, h6⟩ := S.val i d' m e
    refine ⟨v, h3, q v H (Fs i) (.refl H) h4 ?_⟩
    split at h2
    · rename_i hf
      subst h2
      rw [h4.flat hf]
      exact .nil
    · split at h2
      · rename_i hm
        subst hm h2
        refine .mv ⟨h6.2.2 rfl, fun a ha => .inr ⟨i, List.mem_singleton.mpr rfl, ⟨d', e⟩, ha⟩⟩
      · subst h2
        exact .bo fun a ha => .inr ⟨i, List.mem_singleton.mpr rfl, ⟨d', m, e⟩, ha⟩
  · cases h
/-- constants -/
def rpC : V → PyData → Prop
  | .non, .none => True
  | .bl b, .bool c => b = c
  | .int i, .int j => i = j
  | .str x, .str y => x = y
  | _, _ => False
theorem rp_c {H : Hp} {v : V} {d : PyData} (h : rpC v d) : Rp K H v d [] := by
  cases v <;> cases d <;> first | exact h.elim | (cases h; constructor)
theorem ve_c {v : V} {d : PyData} (h : rpC v d) : VE K (tC v) (eC d) := by
  intro B AF σ H ρ Fs d' k S e Q q
  cases e
  exact q v H [] (.refl H) (rp_c h) .nil
theorem va_nil : VA K tNil aNil := by
  intro B AF σ H ρ Fs ds k S e Q q
  cases e
  exact q [] H [] (.refl H) .nil .nil
theorem va_cons (h1 : VE K te f) (h2 : VA K t fa) : VA K (tCons te t) (aCons f fa) := by
  intro B AF σ H ρ Fs ds k S e Q q
  obtain ⟨⟨d, k1⟩, e1, e⟩ := Option.bind_eq_some_iff.mp e
  obtain ⟨⟨ds2, k2⟩, e2, e⟩ := Option.bind_eq_some_iff.mp e
  cases e
  refine h1 B AF σ H ρ Fs d k1 S e1 _ fun v H1 F g1 r1 o1 => ?_
  refine h2 B AF σ H1 ρ Fs ds2 k2 (S.grow g1) e2 _ fun vs H2 G g2 r2 o2 => ?_
  exact q _ H2 _ (g1.trans g2) (.cons (r1.grow g2) r2) (KO.join S g1 o1.1 (fun a ha => r1.stn ha) o2)
theorem ve_appR {r : List V → Hp → VK → Prop} {gn : Gn} (h1 : VA K t fa) (h2 : VF K r gn) : VE K (fun σ H Q => t σ H fun vs H1 => r vs H1 Q) (eApp gn fa) := by
  intro B AF σ H ρ Fs d k S e Q q
  obtain ⟨⟨ds, k1⟩, e1, e⟩ := Option.bind_eq_some_iff.mp e
  refine h1 B AF σ H ρ Fs ds k1 S e1 _ fun vs H1 F g1 r1 o1 => ?_
  exact h2 ρ Fs H H1 vs ds F k1 d k g1 r1 o1 e Q fun v H2 G g2 r2 o2 => q v H2 G (g1.trans g2) r2 o2
theorem ve_call_b {r : List V → Hp → VK → Prop} {gn : Gn} (h2 : VF K r gn) (h1 : VA K t fa) : VE K (tCB r t) (eApp gn fa) := ve_appR h1 h2
/-- a two-place operation -/
def r2l (r : R2) : List V → Hp → VK → Prop := fun vs H Q => match vs with
  | [x, y] => r x y H Q
  | _ => False
def r1l (r : V → Hp → VK → Prop) : List V → Hp → VK → Prop := fun vs H Q => match vs with
  | [x] => r x H Q
  | _ => False
theorem ve_op {r : R2} {gn : Gn} (h2 : VF K (r2l r) gn) (ha : VE K ta f) (hb : VE K tb g) : VE K (tOp r ta tb) (eApp gn (aCons f (aCons g aNil))) :=
  ve_appR (t := tCons ta (tCons tb tNil)) (va_cons ha (va_cons hb va_nil)) h2
theorem ve_un {r : V → Hp → VK → Prop} {gn : Gn} (h2 : VF K (r1l r) gn) (ha : VE K ta f) : VE K (tUn r ta) (eApp gn (aCons f aNil)) :=
  ve_appR (t := tCons ta tNil) (va_cons ha va_nil) h2
end

/-! ### tests -/
def bOf : PyData → Option Bool
  | .bool b => some b
  | _ => none
def tVal (f : EF) : Env → Option Bool := fun ρ => (f ρ).bind fun p => bOf p.1
def tAndF (a b : Env → Option Bool) : Env → Option Bool := fun ρ => (a ρ).bind fun x => if x = true then b ρ else some false
def tOrF (a b : Env → Option Bool) : Env → Option Bool := fun ρ => (a ρ).bind fun x => if x = true then some true else b ρ
def tNotF (a : Env → Option Bool) : Env → Option Bool := fun ρ => (a ρ).map fun x => !x
def truD : PyData → Option Bool
  | .none => some false
  | .bool b => some b
  | .int i => some (i != 0)
  | .str x => if x.length ≤ 1000000 then some ((x.length : Int) != 0) else none
  | .list xs => some (!xs.isEmpty)
  | .tuple xs => some (!xs.isEmpty)
  | .dict _ => Option.none
def tTru (f : EF) : Env → Option Bool := fun ρ => (f ρ).bind fun p => truD p.1
section
variable {K : PySem.W.Frag} {ta tb te : TE} {t : TA} {tt tu : TT} {f g : EF} {fa : AFn} {ft fu : Env → Option Bool}
theorem bOf_eq {d : PyData} {b : Bool} (h : bOf d = some b) : d = .bool b := by
  cases d <;> simp [bOf] at h
  rw [h]
theorem rp_bool {H : Hp} {v : V} {b : Bool} {F : List Addr} (h : Rp K H v (.bool b) F) : v = .bl b := by cases h; rfl
theorem vt_test (h : VE K te f) : VT K (tTest te) (tVal f) := by
  intro B AF σ H ρ Fs b S e Q q
  obtain ⟨⟨d, k⟩, e1, e2⟩ := Option.bind_eq_some_iff.mp e
  cases bOf_eq e2
  exact h B AF σ H ρ Fs _ k S e1 _ fun v H1 F g1 r1 o1 => ⟨b, rp_bool r1, q H1 g1⟩
theorem vt_B (h : VE K te f) : VT K (tB te) (tVal f) := by
  intro B AF σ H ρ Fs b S e Q q
  obtain ⟨⟨d, k⟩, e1, e2⟩ := Option.bind_eq_some_iff.mp e
  cases bOf_eq e2
  exact h B AF σ H ρ Fs _ k S e1 _ fun v H1 F g1 r1 o1 => ⟨b, rp_bool r1, q H1 g1⟩
theorem vt_and (h1 : VT K tt ft) (h2 : VT K tu fu) : VT K (tAnd tt tu) (tAndF ft fu) := by
  intro B AF σ H ρ Fs b S e Q q
  obtain ⟨x, e1, e2⟩ := Option.bind_eq_some_iff.mp e
  refine h1 B AF σ H ρ Fs x S e1 _ fun H1 g1 => ?_
  cases x with
  | true => exact h2 B AF σ H1 ρ Fs b (S.grow g1) e2 Q fun H2 g2 => q H2 (g1.trans g2)
  | false => cases e2; exact q H1 g1
theorem vt_or (h1 : VT K tt ft) (h2 : VT K tu fu) : VT K (tOr tt tu) (tOrF ft fu) := by
  intro B AF σ H ρ Fs b S e Q q
  obtain ⟨x, e1, e2⟩ := Option.bind_eq_some_iff.mp e
  refine h1 B AF σ H ρ Fs x S e1 _ fun H1 g1 => ?_
  cases x with
  | true => cases e2; exact q H1 g1
  | false => exact h2 B AF σ H1 ρ Fs b (S.grow g1) e2 Q fun H2 g2 => q H2 (g1.trans g2)
theorem vt_not (h1 : VT K tt ft) : VT K (tNot tt) (tNotF ft) := by
  intro B AF σ H ρ Fs b S e Q q
  obtain ⟨x, e1, e2⟩ := Option.map_eq_some_iff.mp e
  subst e2
  exact h1 B AF σ H ρ Fs x S e1 _ fun H1 g1 => q H1 g1
theorem vt_yes : VT K tYes (fun _ => some true) := by
  intro B AF σ H ρ Fs b S e Q q
  cases e
  exact q H (.refl H)
theorem le_line {n : Nat} (h : n ≤ 1000000) : n ≤ sizeLine := Nat.le_trans h (by rw [sizeLine_eq]; decide)
theorem lt_line {n : Nat} (h : n < 1000000) : n < sizeLine := Nat.lt_of_lt_of_le h (by rw [sizeLine_eq]; decide)
theorem isEmpty_len {α β : Type} : ∀ {xs : List α} {ys : List β}, xs.length = ys.length → xs.isEmpty = ys.isEmpty
  | [], [], _ => rfl
  | _ :: _, _ :: _, _ => rfl
theorem vt_tru (h : VE K te f) : VT K (fun σ H Q => te σ H fun x H' => ∃ k, TruV K x H' k ∧ Q k H') (tTru f) := by
  intro B AF σ H ρ Fs b S e Q q
  obtain ⟨⟨d, k⟩, e1, e2⟩ := Option.bind_eq_some_iff.mp e
  refine h B AF σ H ρ Fs _ k S e1 _ fun v H1 F g1 r1 o1 => ⟨b, ?_, q H1 g1⟩
  cases r1 with
  | non => exact (Option.some.inj e2).symm
  | bl c => exact (Option.some.inj e2).symm
  | int i => exact (Option.some.inj e2).symm
  | str x =>
    simp only [truD] at e2
    split at e2
    · rename_i hx
      exact ⟨le_line hx, (Option.some.inj e2).symm⟩
    · cases e2
  | tup ht r =>
    have e3 := Option.some.inj e2
    refine .inr (.inl ⟨_, ht.1, ?_⟩)
    rw [← e3, isEmpty_len r.length]
  | lst ht r =>
    have e3 := Option.some.inj e2
    refine .inl ⟨_, .of ht, ?_⟩
    rw [← e3, isEmpty_len r.length]
  | dic ht r => cases e2
  | pair ht r => cases e2
  | fn a => cases e2
theorem ve_if (ht : VT K tt ft) (ha : VE K ta f) (hb : VE K tb g) : VE K (tIf tt ta tb) (fun ρ => (ft ρ).bind fun x => if x = true then f ρ else g ρ) := by
  intro B AF σ H ρ Fs d k S e Q q
  obtain ⟨x, e1, e2⟩ := Option.bind_eq_some_iff.mp e
  refine ht B AF σ H ρ Fs x S e1 _ fun H1 g1 => ?_
  cases x with
  | true => exact ha B AF σ H1 ρ Fs d k (S.grow g1) e2 Q fun v H2 F g2 r2 o2 => q v H2 F (g1.trans g2) r2 ⟨o2.1.back g1, fun L z => let ⟨p, G, a1, a2, a3, a4⟩ := o2.2 L z; ⟨p, G, a1, a2, a3, g1.back a4⟩⟩
  | false => exact hb B AF σ H1 ρ Fs d k (S.grow g1) e2 Q fun v H2 F g2 r2 o2 => q v H2 F (g1.trans g2) r2 ⟨o2.1.back g1, fun L z => let ⟨p, G, a1, a2, a3, a4⟩ := o2.2 L z; ⟨p, G, a1, a2, a3, g1.back a4⟩⟩
end
end Va

/-! Va3: operations. -/
namespace Va
open PySem L2

/-! ### kinds of results -/
def lstK (ds : List PyData) (k : Kd) : Kd := if flatL ds then .mv [] else match k with
  | .mv L => .mv L
  | .sp L => .sp L
  | .bo L => .sp L
def tupK (ds : List PyData) (k : Kd) : Kd := if flatL ds then .mv [] else match k with
  | .mv L => .mv L
  | .sp L => .bo L
  | .bo L => .bo L
def datK (d : PyData) (k : Kd) : Kd := if flat d then .mv [] else match k with
  | .mv L => .mv L
  | .sp L => .bo L
  | .bo L => .bo L
section
variable {K : PySem.W.Frag} {ρ : Env} {Fs : Nat → List Addr} {H0 H H' : Hp} {F G : List Addr} {k : Kd} {ds : List PyData} {d : PyData} {vs : List V} {v : V} {p : Addr}
theorem kv_dat (r : Rp K H v d F) (o : KO ρ Fs H0 F k) : KV ρ Fs H0 v F (datK d k) := by
  unfold datK
  split
  · rename_i h
    rw [r.flat h]; exact .nil
  · cases k with
    | mv L => exact .mv o
    | sp L => exact .bo o
    | bo L => exact .bo o
theorem kv_tup (r : RpL K H vs ds F) (o : KO ρ Fs H0 F k) : KV ρ Fs H0 v F (tupK ds k) := by
  unfold tupK
  split
  · rename_i h
    rw [r.flat h]; exact .nil
  · cases k with
    | mv L => exact .mv o
    | sp L => exact .bo o
    | bo L => exact .bo o
theorem kv_lst (r : RpL K H vs ds F) (o : KO ρ Fs H0 F k) (g : Grow H0 H) (hp : H p = none) : KV ρ Fs H0 (.ref p) (p :: F) (lstK ds k) := by
  have h0 : H0 p = none := g.back hp
  have hn : p ∉ F := fun m => r.stn m hp
  unfold lstK
  split
  · rename_i h
    rw [r.flat h]
    exact .mv ⟨by simp, fun a ha => by rcases List.mem_singleton.mp ha with rfl; exact .inl h0⟩
  · have sp : ∀ L, KO ρ Fs H0 F (.bo L) → KV ρ Fs H0 (.ref p) (p :: F) (.sp L) := fun L o => by
      refine ⟨fun a ha => ?_, fun _ _ => ⟨p, F, rfl, rfl, hn, h0⟩⟩
      rcases List.mem_cons.mp ha with rfl | ha
      · exact .inl h0
      · exact o a ha
    cases k with
    | mv L =>
      refine .mv ⟨List.nodup_cons.mpr ⟨hn, o.1⟩, fun a ha => ?_⟩
      rcases List.mem_cons.mp ha with rfl | ha
      · exact .inl h0
      · exact o.2 a ha
    | sp L => exact sp L o
    | bo L => exact sp L o
theorem rp_lst (r : RpL K H vs ds F) (hp : H p = none) : Rp K (upd H p (.lst vs)) (.ref p) (.list ds) (p :: F) := .lst upd_same (r.grow (.new hp))
theorem rp_pair (r : RpL K H vs ds F) (hp : H p = none) : Rp K (upd H p (.tup vs)) (.ref p) (wrap (.tuple ds)) F := .pair (.of upd_same) (r.grow (.new hp))
theorem rp_tupN {o : Obj} (r : RpL K H vs ds F) (hp : H p = none) (ho : o.dict = none) : Rp K (upd H p (.frz o (.tup vs))) (.ref p) (.tuple ds) F := .tup ⟨.inl (.inr ⟨o, upd_same⟩), .inl ⟨o, _, upd_same, ho⟩⟩ (r.grow (.new hp))
theorem RpL.one' {d : PyData} (r : RpL K H vs [d] F) : ∃ v, vs = [v] ∧ Rp K H v d F := by
  cases r with
  | cons h t =>
    cases t
    exact ⟨_, rfl, by rw [List.append_nil]; exact h⟩
theorem RpL.two {d e : PyData} (r : RpL K H vs [d, e] F) : ∃ v u A B, vs = [v, u] ∧ Rp K H v d A ∧ Rp K H u e B ∧ F = A ++ B := by
  cases r with
  | cons h t =>
    obtain ⟨u, rfl, h2⟩ := t.one'
    exact ⟨_, _, _, _, rfl, h, h2, rfl⟩
theorem RpL.three {d e f : PyData} (r : RpL K H vs [d, e, f] F) : ∃ v u w A B C, vs = [v, u, w] ∧ Rp K H v d A ∧ Rp K H u e B ∧ Rp K H w f C ∧ F = A ++ (B ++ C) := by
  cases r with
  | cons h t =>
    obtain ⟨u, w, A, B, rfl, h2, h3, rfl⟩ := t.two
    exact ⟨_, _, _, _, _, _, rfl, h, h2, h3, rfl⟩
end

/-! ### displays -/
def gnTup : Gn := fun ds k => if ds.length ≤ 1000000 then some (.tuple ds, tupK ds k) else none
def gnLst : Gn := fun ds k => if ds.length ≤ 1000000 then some (.list ds, lstK ds k) else none
section
variable {K : PySem.W.Frag} {ta tb te : TE} {t : TA} {tt tu : TT} {f g : EF} {fa : AFn}
theorem vf_tup : VF K (fun xs H1 Q => xs.length ≤ sizeLine ∧ ∀ (p : Addr) (o : Obj), o.dict = none → H1 p = none → Q (.ref p) (upd H1 p (.frz o (.tup xs)))) gnTup := by
  intro ρ Fs H0 H vs ds F k d k' g r o e Q q
  unfold gnTup at e
  split at e
  · rename_i hl
    cases e
    exact ⟨le_line (by rw [r.length]; exact hl), fun p ob ho hp => q _ _ F (.new hp) (rp_tupN r hp ho) (kv_tup r o)⟩
  · cases e
theorem vf_lst : VF K (fun xs H1 Q => xs.length ≤ sizeLine ∧ ∀ p, H1 p = none → Q (.ref p) (upd H1 p (.lst xs))) gnLst := by
  intro ρ Fs H0 H vs ds F k d k' g r o e Q q
  unfold gnLst at e
  split at e
  · rename_i hl
    cases e
    exact ⟨le_line (by rw [r.length]; exact hl), fun p hp => q _ _ _ (.new hp) (rp_lst r hp) (kv_lst r o g hp)⟩
  · cases e
theorem ve_tup (h : VA K t fa) : VE K (tTupN t) (eApp gnTup fa) := ve_appR h vf_tup
theorem ve_lst (h : VA K t fa) : VE K (tLst t) (eApp gnLst fa) := ve_appR h vf_lst
end

/-! ### operations that give flat data -/
def VFf (K : PySem.W.Frag) (r : List V → Hp → VK → Prop) (h : List PyData → Option PyData) : Prop := ∀ (H : Hp) (vs : List V) (ds : List PyData) (F : List Addr) (d : PyData), RpL K H vs ds F → h ds = some d →
  ∀ Q : VK, (∀ v H', Grow H H' → Rp K H' v d [] → Q v H') → r vs H Q
def gF (h : List PyData → Option PyData) : Gn := fun ds _ => (h ds).map fun d => (d, .mv [])
theorem vf_f {K : PySem.W.Frag} {r : List V → Hp → VK → Prop} {h : List PyData → Option PyData} (hr : VFf K r h) : VF K r (gF h) := by
  intro ρ Fs H0 H vs ds F k d k' g r o e Q q
  obtain ⟨d', e1, e2⟩ := Option.map_eq_some_iff.mp e
  cases e2
  exact hr H vs ds F d r e1 Q fun v H' g' r' => q v H' [] g' r' .nil

/-- two ints -/
def hII (c : Int → Int → Bool) (h : Int → Int → PyData) : List PyData → Option PyData
  | [.int i, .int j] => if c i j = true then some (h i j) else none
  | _ => none
@[simp] def yesI : Int → Int → Bool := fun _ _ => true
theorem vf_II {K : PySem.W.Frag} {C : Int → Int → Prop} {g : Int → Int → V} {c : Int → Int → Bool} {h : Int → Int → PyData} (hc : ∀ i j, c i j = true → C i j) (hg : ∀ i j, rpC (g i j) (h i j)) : VFf K (r2l (rI C g)) (hII c h) := by
  intro H vs ds F d r e Q q
  unfold hII at e
  split at e
  · rename_i i j
    split at e
    · rename_i hi
      cases e
      obtain ⟨v, u, A, B, rfl, r1, r2, rfl⟩ := r.two
      cases r1; cases r2
      exact ⟨i, j, rfl, rfl, hc i j hi, q _ H (.refl H) (rp_c (hg i j))⟩
    · cases e
  · cases e
theorem vf_II0 {K : PySem.W.Frag} {g : Int → Int → V} {h : Int → Int → PyData} (hg : ∀ i j, rpC (g i j) (h i j)) : VFf K (r2l (rI0 g)) (hII yesI h) := by
  intro H vs ds F d r e Q q
  unfold hII at e
  split at e
  · rename_i i j
    split at e
    · cases e
      obtain ⟨v, u, A, B, rfl, r1, r2, rfl⟩ := r.two
      cases r1; cases r2
      exact ⟨i, j, rfl, rfl, q _ H (.refl H) (rp_c (hg i j))⟩
    · cases e
  · cases e
def hSub := hII yesI fun i j => .int (i - j)
def cDivW (i j : Int) : Bool := decide (0 < j) && decide (j.natAbs.log2 < 9000)
def hDiv := hII cDivW fun i j => .int (i / j)
def hMod := hII (fun _ j => decide (0 < j)) fun i j => .int (i % j)
def hPow := hII (fun i j => decide (0 ≤ j) && decide (j ≤ 1000000) && decide (i.natAbs < 2 ^ 64)) fun i j => .int (i ^ j.toNat)
theorem vf_sub {K : PySem.W.Frag} : VFf K (r2l (rI0 fun i j => .int (i - j))) hSub := vf_II0 fun _ _ => rfl
theorem vf_div {K : PySem.W.Frag} : VFf K (r2l (rI CDivW fun i j => .int (i / j))) hDiv := vf_II (fun i j h => by simp only [cDivW, Bool.and_eq_true, decide_eq_true_eq] at h; exact h) fun _ _ => rfl
theorem vf_mod {K : PySem.W.Frag} : VFf K (r2l (rI (fun _ j => 0 < j) fun i j => .int (i % j))) hMod := vf_II (fun i j h => by simpa using h) fun _ _ => rfl
theorem vf_pow {K : PySem.W.Frag} : VFf K (r2l (rI CPow fun i j => .int (i ^ j.toNat))) hPow := vf_II (fun i j h => by simp only [Bool.and_eq_true, decide_eq_true_eq] at h; exact ⟨h.1.1, h.1.2, h.2⟩) fun _ _ => rfl
def hLt := hII yesI fun i j => .bool (decide (i < j))
def hLe := hII yesI fun i j => .bool (decide (i ≤ j))
def hGt := hII yesI fun i j => .bool (decide (j < i))
def hGe := hII yesI fun i j => .bool (decide (j ≤ i))
theorem vf_lt {K : PySem.W.Frag} : VFf K (r2l (rI0 fun i j => .bl (decide (i < j)))) hLt := vf_II0 fun _ _ => rfl
theorem vf_le {K : PySem.W.Frag} : VFf K (r2l (rI0 fun i j => .bl (decide (i ≤ j)))) hLe := vf_II0 fun _ _ => rfl
theorem vf_gt {K : PySem.W.Frag} : VFf K (r2l (rI0 fun i j => .bl (decide (j < i)))) hGt := vf_II0 fun _ _ => rfl
theorem vf_ge {K : PySem.W.Frag} : VFf K (r2l (rI0 fun i j => .bl (decide (j ≤ i)))) hGe := vf_II0 fun _ _ => rfl
def hNeg : List PyData → Option PyData
  | [.int i] => some (.int (-i))
  | _ => none
theorem vf_neg {K : PySem.W.Frag} : VFf K (r1l (rU fun i => .int (-i))) hNeg := by
  intro H vs ds F d r e Q q
  unfold hNeg at e
  split at e
  · cases e
    obtain ⟨v, rfl, r1⟩ := r.one'
    cases r1
    exact ⟨_, rfl, q _ H (.refl H) (.int _)⟩
  · cases e

/-! ### * -/
def mulOk (i j : Int) : Bool := (decide (-(2 ^ 64) < i) && decide (i < 2 ^ 64)) || (decide (-(2 ^ 64) < j) && decide (j < 2 ^ 64))
def rMulA : R2 := fun x y H Q => rI CMul (fun i j => .int (i * j)) x y H Q ∨ rRep x y H Q
def gMul : Gn := fun ds k => match ds with
  | [.int i, .int j] => if mulOk i j = true then some (.int (i * j), .mv []) else none
  | [.list xs, .int j] => if 0 ≤ j ∧ j ≤ 1000 ∧ xs.length * j.toNat ≤ 1000000 ∧ flatL xs = true then some (.list (List.replicate j.toNat xs).flatten, .mv []) else none
  | _ => none
section
variable {K : PySem.W.Frag} {H : Hp}
theorem rep_flat {ys : List V} {ds : List PyData} (r : RpL K H ys ds []) : ∀ n : Nat, RpL K H (List.replicate n ys).flatten (List.replicate n ds).flatten []
  | 0 => .nil
  | n + 1 => by
    rw [List.replicate_succ, List.replicate_succ, List.flatten_cons, List.flatten_cons]
    exact RpL.app r (rep_flat r n)
theorem vf_mul : VF K (r2l rMulA) gMul := by
  intro ρ Fs H0 H vs ds F k d k' g r o e Q q
  unfold gMul at e
  split at e
  · rename_i i j
    split at e
    · rename_i hm
      cases e
      obtain ⟨v, u, A, B, rfl, r1, r2, rfl⟩ := r.two
      cases r1; cases r2
      refine .inl ⟨i, j, rfl, rfl, ?_, q _ H [] (.refl H) (.int _) .nil⟩
      simp only [mulOk, Bool.or_eq_true, Bool.and_eq_true, decide_eq_true_eq] at hm
      exact hm
    · cases e
  · rename_i xs j
    split at e
    · rename_i hm
      obtain ⟨h0, h1, h2, h3⟩ := hm
      cases e
      obtain ⟨v, u, A, B, rfl, r1, r2, rfl⟩ := r.two
      cases r2
      cases r1 with
      | lst ha rl =>
        rename_i a ys G
        obtain rfl := rl.flat h3
        refine .inr ⟨_, j, _, rfl, rfl, ha, by omega, by omega, le_line (by rw [rl.length]; exact h2), fun p hp => ?_⟩
        refine q _ _ _ (.new hp) (rp_lst (rep_flat rl _) hp) ?_
        have h := kv_lst (ρ := ρ) (Fs := Fs) (k := .mv []) (rep_flat rl j.toNat) .nil g hp
        unfold lstK at h
        split at h <;> exact h
    · cases e
  · cases e

/-! ### + -/
def rAddA (K : PySem.W.Frag) : R2 := fun x y H Q => rI0 (fun i j => .int (i + j)) x y H Q ∨ (∃ i j, x = .str i ∧ y = .str j ∧ i.length + j.length ≤ sizeLine ∧ Q (.str (i ++ j)) H) ∨ rCat x y H Q ∨ rCatN K x y H Q
def gAdd : Gn := fun ds k => match ds with
  | [.int i, .int j] => some (.int (i + j), .mv [])
  | [.str x, .str y] => if x.length + y.length ≤ 1000000 then some (.str (x ++ y), .mv []) else none
  | [.list xs, .list ys] => if xs.length + ys.length ≤ 1000000 then some (.list (xs ++ ys), lstK (xs ++ ys) k) else none
  | [.tuple xs, .tuple ys] => if xs.length + ys.length ≤ 1000000 then some (.tuple (xs ++ ys), tupK (xs ++ ys) k) else none
  | _ => none
theorem sub2 {a b : Addr} {A B : List Addr} : List.Sublist (A ++ B) ((a :: A) ++ (b :: B)) := List.Sublist.append (List.sublist_cons_self ..) (List.sublist_cons_self ..)
theorem vf_add : VF K (r2l (rAddA K)) gAdd := by
  intro ρ Fs H0 H vs ds F k d k' g r o e Q q
  unfold gAdd at e
  split at e
  · rename_i i j
    cases e
    obtain ⟨v, u, A, B, rfl, r1, r2, rfl⟩ := r.two
    cases r1; cases r2
    exact .inl ⟨i, j, rfl, rfl, q _ H [] (.refl H) (.int _) .nil⟩
  · rename_i x y
    split at e
    · rename_i hz
      cases e
      obtain ⟨v, u, A, B, rfl, r1, r2, rfl⟩ := r.two
      cases r1; cases r2
      exact .inr (.inl ⟨x, y, rfl, rfl, le_line hz, q _ H [] (.refl H) (.str _) .nil⟩)
    · cases e
  · rename_i xs ys
    split at e
    · rename_i hz
      cases e
      obtain ⟨v, u, A, B, rfl, r1, r2, rfl⟩ := r.two
      cases r1 with
      | lst ha ra =>
        cases r2 with
        | lst hb rb =>
          have rr := RpL.app ra rb
          refine .inr (.inr (.inl ⟨_, _, _, _, rfl, rfl, ha, hb, le_line (by rw [ra.length, rb.length]; exact hz), fun p hp => ?_⟩))
          exact q _ _ _ (.new hp) (rp_lst rr hp) (kv_lst rr (o.sub sub2) g hp)
    · cases e
  · rename_i xs ys
    split at e
    · rename_i hz
      cases e
      obtain ⟨v, u, A, B, rfl, r1, r2, rfl⟩ := r.two
      cases r1 with
      | tup ha ra =>
        cases r2 with
        | tup hb rb =>
          have rr := RpL.app ra rb
          refine .inr (.inr (.inr ⟨_, _, _, _, rfl, rfl, ha.1, hb.1, le_line (by rw [ra.length, rb.length]; exact hz), fun ex => ?_, fun ex ey => ?_, fun ex ey p ob ho hp => ?_⟩))
          · subst ex
            cases ra
            exact q _ _ _ (.refl H) (.tup hb rb) (kv_tup rb o)
          · subst ey
            cases rb
            have o' : KO ρ Fs H0 A k := o.sub (List.sublist_append_left _ _)
            rw [List.append_nil] at q
            exact q _ _ _ (.refl H) (.tup ha ra) (kv_tup ra o')
          · exact q _ _ _ (.new hp) (rp_tupN rr hp ho) (kv_tup rr o)
    · cases e
  · cases e
end

/-! ### == -/
section
variable {K : PySem.W.Frag} {H : Hp}
mutual
theorem Rp.dp : ∀ {v : V} {d : PyData} {F : List Addr}, Rp K H v d F → PyData.canLay0 d = true → Dp K H v d
  | _, _, _, .non, _ => .non
  | _, _, _, .bl b, _ => .bl b
  | _, _, _, .int b, _ => .int b
  | _, _, _, .str b, _ => .str b
  | _, _, _, .tup h r, e => .tup h.1 (RpL.dp r (by simpa only [PyData.canLay0] using e))
  | _, _, _, .pair h r, e => by simp [PyData.canLay0] at e
  | _, _, _, .fn a, e => by simp [PyData.canLay0] at e
  | _, _, _, .lst h r, e => .lst (.of h) (RpL.dp r (by simpa only [PyData.canLay0] using e))
  | _, _, _, .dic h _ r, e => by simp [PyData.canLay0] at e
theorem RpL.dp : ∀ {v : List V} {d : List PyData} {F : List Addr}, RpL K H v d F → PyData.canLayAll0 d = true → DpAll K H v d
  | _, _, _, .nil, _ => .nil
  | _, _, _, .cons h r, e => by
    simp only [PyData.canLayAll0, Bool.and_eq_true] at e
    exact .cons (Rp.dp h e.1) (RpL.dp r e.2)
end
def hEq : List PyData → Option PyData
  | [.str x, .str y] => some (.bool (x == y))
  | [d, e] => if SeqAt.shaped d = true ∧ SeqAt.shaped e = true then some (.bool (PyData.eqv d e)) else none
  | _ => none
def hNe : List PyData → Option PyData
  | [.str x, .str y] => some (.bool (!(x == y)))
  | [d, e] => if SeqAt.shaped d = true ∧ SeqAt.shaped e = true then some (.bool (!PyData.eqv d e)) else none
  | _ => none
theorem vf_eq : VFf K (r2l fun x y H Q => rEqD K x y H Q ∨ rEq x y H Q) hEq := by
  intro H vs ds F d r e Q q
  unfold hEq at e
  split at e
  · cases e
    obtain ⟨v, u, A, B, rfl, r1, r2, rfl⟩ := r.two
    cases r1; cases r2
    exact .inr ⟨rfl, by rw [dec_str]; exact q _ H (.refl H) (.bl _)⟩
  · split at e
    · rename_i hs
      cases e
      obtain ⟨v, u, A, B, rfl, r1, r2, rfl⟩ := r.two
      exact .inl ⟨_, _, r1.dp (SeqAt.canLay_of_shaped hs.1), r2.dp (SeqAt.canLay_of_shaped hs.2), hs.1, hs.2, q _ H (.refl H) (.bl _)⟩
    · cases e
  · cases e
theorem vf_ne : VFf K (r2l fun x y H Q => rNeD K x y H Q ∨ rNe x y H Q) hNe := by
  intro H vs ds F d r e Q q
  unfold hNe at e
  split at e
  · cases e
    obtain ⟨v, u, A, B, rfl, r1, r2, rfl⟩ := r.two
    cases r1; cases r2
    exact .inr ⟨rfl, by rw [dec_str]; exact q _ H (.refl H) (.bl _)⟩
  · split at e
    · rename_i hs
      cases e
      obtain ⟨v, u, A, B, rfl, r1, r2, rfl⟩ := r.two
      exact .inl ⟨_, _, r1.dp (SeqAt.canLay_of_shaped hs.1), r2.dp (SeqAt.canLay_of_shaped hs.2), hs.1, hs.2, q _ H (.refl H) (.bl _)⟩
    · cases e
  · cases e
/-! ### is None -/
def isN : PyData → Bool
  | .none => true
  | _ => false
def hIsN : List PyData → Option PyData
  | [d, .none] => some (.bool (isN d))
  | _ => none
def hNotN : List PyData → Option PyData
  | [d, .none] => some (.bool (!isN d))
  | _ => none
theorem isN_eq {v : V} {d : PyData} {F : List Addr} (r : Rp K H v d F) : decide (v = .non) = isN d := by
  cases r <;> rfl
theorem vf_isN : VFf K (r2l fun x y H Q => y = .non ∧ Q (.bl (decide (x = .non))) H) hIsN := by
  intro H vs ds F d r e Q q
  unfold hIsN at e
  split at e
  · cases e
    obtain ⟨v, u, A, B, rfl, r1, r2, rfl⟩ := r.two
    cases r2
    exact ⟨rfl, by rw [isN_eq r1]; exact q _ H (.refl H) (.bl _)⟩
  · cases e
theorem vf_notN : VFf K (r2l fun x y H Q => y = .non ∧ Q (.bl (!decide (x = .non))) H) hNotN := by
  intro H vs ds F d r e Q q
  unfold hNotN at e
  split at e
  · cases e
    obtain ⟨v, u, A, B, rfl, r1, r2, rfl⟩ := r.two
    cases r2
    exact ⟨rfl, by rw [isN_eq r1]; exact q _ H (.refl H) (.bl _)⟩
  · cases e
/-! ### subscripts -/
def dAt (d : PyData) (i : Int) : Option PyData := match d with
  | .list xs => atI xs i
  | .tuple xs => atI xs i
  | .str x => if x.length ≤ 1000000 then (atI x.cps.toList i).map fun c => .str ⟨#[c]⟩ else none
  | _ => none
def gIx : Gn := fun ds k => match ds with
  | [d, .int i] => (dAt d i).map fun e => (e, datK e k)
  | _ => none
theorem atI_at {α : Type} {xs : List α} {i : Int} {x : α} (h : atI xs i = some x) : ∃ j, ixN xs.length i = some j ∧ xs[j]? = some x := by
  unfold atI at h
  obtain ⟨j, h1, h2⟩ := Option.bind_eq_some_iff.mp h
  exact ⟨j, h1, h2⟩
theorem atI_rp {vs : List V} {ds : List PyData} {F : List Addr} {i : Int} {d : PyData} (r : RpL K H vs ds F) (h : atI ds i = some d) : ∃ v A G B, atI vs i = some v ∧ Rp K H v d G ∧ F = A ++ (G ++ B) := by
  obtain ⟨j, h1, h2⟩ := atI_at h
  obtain ⟨v, A, G, B, h3, h4, h5⟩ := r.get j h2
  exact ⟨v, A, G, B, by unfold atI; rw [r.length, h1]; exact h3, h4, h5⟩
theorem sub3 {A G B : List Addr} : List.Sublist G (A ++ (G ++ B)) := (List.sublist_append_left G B).trans (List.sublist_append_right A (G ++ B))
theorem vf_ix : VF K (r2l (rIx K)) gIx := by
  intro ρ Fs H0 H vs ds F k d k' g r o e Q q
  unfold gIx at e
  split at e
  · rename_i dd i
    obtain ⟨d', e1, e2⟩ := Option.map_eq_some_iff.mp e
    cases e2
    obtain ⟨v, u, A, B, rfl, r1, r2, rfl⟩ := r.two
    cases r2
    rw [List.append_nil] at o
    cases r1 with
    | lst ha ra =>
      obtain ⟨v, A', G, B', h1, h2, h3⟩ := atI_rp ra e1
      refine .inl ⟨_, _, i, v, rfl, rfl, .of ha, h1, q v H G (.refl H) h2 (kv_dat h2 (o.sub ?_))⟩
      rw [h3]
      exact sub3.trans (List.sublist_cons_self ..)
    | tup ha ra =>
      obtain ⟨v, A', G, B', h1, h2, h3⟩ := atI_rp ra e1
      refine .inr (.inl ⟨_, _, i, v, rfl, rfl, ha.1, h1, q v H G (.refl H) h2 (kv_dat h2 (o.sub ?_))⟩)
      rw [h3]
      exact sub3
    | str x =>
      unfold dAt at e1
      simp only at e1
      split at e1
      · rename_i hz
        obtain ⟨c, h1, h2⟩ := Option.map_eq_some_iff.mp e1
        subst h2
        exact .inr (.inr ⟨x, i, c, rfl, rfl, le_line hz, h1, q _ H [] (.refl H) (.str _) (kv_dat (K := K) (H := H) (.str _) KO.nilK)⟩)
      · cases e1
    | non => cases e1
    | bl b => cases e1
    | int b => cases e1
    | dic ha ra => cases e1
    | pair ha ra => cases e1
    | fn a => cases e1
  · cases e
end
end Va

/-! Va4: targets, what is walked, comprehensions. -/
namespace Va
open PySem L2

/-! ### slots changed -/
def upF (Fs : Nat → List Addr) (i : Nat) (F : List Addr) : Nat → List Addr := fun j => if j = i then F else Fs j
theorem upF_same {Fs : Nat → List Addr} {i : Nat} {F : List Addr} : upF Fs i F i = F := if_pos rfl
theorem upF_ne {Fs : Nat → List Addr} {i j : Nat} {F : List Addr} (h : j ≠ i) : upF Fs i F j = Fs j := if_neg h
/-- what the slots alone may write -/
def Free (ρ : Env) (Fs : Nat → List Addr) (G : List Addr) : Prop := ∀ i d m, ρ[i]? = some (some (d, m)) → ∀ a ∈ Mf m (Fs i), a ∉ G
section
variable {K : PySem.W.Frag} {B : Hp} {AF : List Addr} {σ : L2.St} {H H' : Hp} {ρ : Env} {Fs : Nat → List Addr}
theorem set_some {α : Type} {l : List (Option α)} {i j : Nat} {x : Option α} {y : α} (h : (l.set i x)[j]? = some (some y)) : (j = i ∧ x = some y) ∨ (j ≠ i ∧ l[j]? = some (some y)) := by
  by_cases e : j = i
  · subst e
    rw [List.getElem?_set] at h
    rw [if_pos rfl] at h
    split at h
    · exact .inl ⟨rfl, Option.some.inj h⟩
    · cases h
  · rw [List.getElem?_set_ne (Ne.symm e)] at h
    exact .inr ⟨e, h⟩
/-- a slot takes a value that no slot may write -/
theorem SR.set (S : SR K B AF σ H ρ Fs) {i : Nat} {v : V} {d : PyData} {m : Nat} {F : List Addr} (hi : i < ρ.length) (r : Rp K H v d F) (h1 : ∀ a ∈ F, B a = none ∨ a ∈ AF) (o : Own B v m F)
    (hf : ∀ j e n, j ≠ i → ρ[j]? = some (some (e, n)) → (∀ a ∈ Mf n (Fs j), a ∉ F) ∧ ∀ a ∈ Mf m F, a ∉ Fs j) :
    SR K B AF (σ.set i (some v)) H (ρ.set i (some (d, m))) (upF Fs i F) := by
  refine ⟨by rw [List.length_set, List.length_set]; exact S.len, S.same, fun j e n q => ?_, fun j j' e n e' n' q q' ne a ha => ?_⟩
  · rcases set_some q with ⟨rfl, z⟩ | ⟨ne, z⟩
    · cases z
      rw [upF_same]
      refine ⟨v, ?_, r, h1, o⟩
      rw [List.getElem?_set_self]
      rw [S.len]
      exact hi
    · obtain ⟨u, h1, h2⟩ := S.val j e n z
      refine ⟨u, ?_, ?_⟩
      · rw [List.getElem?_set_ne (Ne.symm ne)]
        exact h1
      · rw [upF_ne ne]
        exact h2
  · rcases set_some q with ⟨rfl, z⟩ | ⟨ne1, z⟩
    · cases z
      rcases set_some q' with ⟨rfl, z'⟩ | ⟨ne2, z'⟩
      · exact absurd rfl ne
      · rw [upF_same] at ha
        rw [upF_ne ne2]
        exact (hf j' e' n' ne2 z').2 a ha
    · rw [upF_ne ne1] at ha
      rcases set_some q' with ⟨rfl, z'⟩ | ⟨ne2, z'⟩
      · rw [upF_same]
        exact (hf j e n ne1 z).1 a ha
      · rw [upF_ne ne2]
        exact S.dis j j' e n e' n' z z' ne a ha
def m02 (d : PyData) : Nat := if flat d then 2 else 0
theorem own02 {v : V} {d : PyData} {F : List Addr} (r : Rp K H v d F) : Own B v (m02 d) F ∧ Mf (m02 d) F = [] := by
  unfold m02
  split
  · rename_i h
    rw [r.flat h]
    exact ⟨⟨fun a h => (by cases h), fun z => (by cases z), fun _ => List.nodup_nil⟩, rfl⟩
  · exact ⟨.zero, rfl⟩
/-- .. shared (or flat) -/
theorem SR.set0 (S : SR K B AF σ H ρ Fs) {i : Nat} {v : V} {d : PyData} {F : List Addr} (hi : i < ρ.length) (r : Rp K H v d F) (h1 : ∀ a ∈ F, B a = none ∨ a ∈ AF) (hf : Free ρ Fs F) :
    SR K B AF (σ.set i (some v)) H (ρ.set i (some (d, m02 d))) (upF Fs i F) :=
  S.set hi r h1 (own02 r).1 fun j e n ne q => ⟨hf j e n q, fun a ha => by rw [(own02 (B := B) r).2] at ha; cases ha⟩
theorem Free.mono {F G : List Addr} (h : Free ρ Fs G) (s : ∀ a ∈ F, a ∈ G) : Free ρ Fs F := fun i d m q a ha z => h i d m q a ha (s a z)
theorem Free.set {v : V} {d : PyData} {F G : List Addr} {i : Nat} (h : Free ρ Fs G) (r : Rp K H v d F) : Free (ρ.set i (some (d, m02 d))) (upF Fs i F) G := fun j e n q a ha => by
  rcases set_some q with ⟨rfl, z⟩ | ⟨ne, z⟩
  · cases z
    rw [upF_same, (own02 (B := fun _ => none) r).2] at ha
    cases ha
  · rw [upF_ne ne] at ha
    exact h j e n z a ha
end

/-! ### targets -/
/-- what a target leaves: only the slots ns changed; theirs are parts of G -/
structure Tg (ns : List Nat) (G : List Addr) (σ : L2.St) (ρ : Env) (Fs : Nat → List Addr) (σ' : L2.St) (ρ' : Env) (Fs' : Nat → List Addr) : Prop where
  out : ∀ i : Nat, i ∉ ns → σ'[i]? = σ[i]? ∧ ρ'[i]? = ρ[i]? ∧ Fs' i = Fs i
  ins : ∀ (i : Nat), i ∈ ns → ∀ (d : PyData) (m : Nat), ρ'[i]? = some (some (d, m)) → Mf m (Fs' i) = [] ∧ ∀ a ∈ Fs' i, a ∈ G
  wip : ∀ vs : List Nat, (∀ i ∈ ns, i ∈ vs) → wipe σ' vs = wipe σ vs
  len : ρ'.length = ρ.length
abbrev SG := PyData → Env → Option Env
abbrev SGs := List PyData → Env → Option Env
def VG (K : PySem.W.Frag) (ns : List Nat) (g : TG) (st : SG) : Prop := ∀ (B : Hp) (AF : List Addr) (σ : L2.St) (H : Hp) (ρ ρ' : Env) (Fs : Nat → List Addr) (v : V) (d : PyData) (G : List Addr), SR K B AF σ H ρ Fs → Rp K H v d G →
  (∀ a ∈ G, B a = none ∨ a ∈ AF) → Free ρ Fs G → st d ρ = some ρ' → ∀ Q : L2.St → Hp → Prop, (∀ σ' Fs', SR K B AF σ' H ρ' Fs' → Tg ns G σ ρ Fs σ' ρ' Fs' → Q σ' H) → g v σ H Q
def VGs (K : PySem.W.Frag) (ns : List Nat) (g : TGs) (st : SGs) : Prop := ∀ (B : Hp) (AF : List Addr) (σ : L2.St) (H : Hp) (ρ ρ' : Env) (Fs : Nat → List Addr) (vs : List V) (ds : List PyData) (G : List Addr), SR K B AF σ H ρ Fs → RpL K H vs ds G →
  (∀ a ∈ G, B a = none ∨ a ∈ AF) → Free ρ Fs G → st ds ρ = some ρ' → ∀ Q : L2.St → Hp → Prop, (∀ σ' Fs', SR K B AF σ' H ρ' Fs' → Tg ns G σ ρ Fs σ' ρ' Fs' → Q σ' H) → g vs σ H Q
def tgN (i : Nat) : SG := fun d ρ => if i < ρ.length then some (ρ.set i (some (d, m02 d))) else none
def tgNil : SGs := fun ds ρ => match ds with
  | [] => some ρ
  | _ => none
def tgCons (st : SG) (sts : SGs) : SGs := fun ds ρ => match ds with
  | [] => none
  | d :: ds => (st d ρ).bind (sts ds)
def tgT (n : Nat) (sts : SGs) : SG := fun d ρ => match d with
  | .tuple ds => if ds.length = n then sts ds ρ else none
  | .dict [(.none, .tuple ds)] => if ds.length = n then sts ds ρ else none
  | _ => none
section
variable {K : PySem.W.Frag} {ns ms : List Nat}
theorem wipe_set {x : Option V} : ∀ (vs : List Nat) (σ : L2.St) {i : Nat}, i ∈ vs → wipe (σ.set i x) vs = wipe σ vs
  | [], _, _, h => nomatch h
  | v :: vs, σ, i, h => by
    show (wipe (σ.set i x) vs).set v none = (wipe σ vs).set v none
    by_cases e : i ∈ vs
    · rw [wipe_set vs σ e]
    · rcases List.mem_cons.mp h with rfl | h
      · have c : ∀ (vs : List Nat) (σ : L2.St), i ∉ vs → wipe (σ.set i x) vs = (wipe σ vs).set i x := fun vs => by
          induction vs with
          | nil => intro σ _; rfl
          | cons u us ih =>
            intro σ hn
            show (wipe (σ.set i x) us).set u none = ((wipe σ us).set u none).set i x
            rw [ih σ fun z => hn (List.mem_cons_of_mem _ z)]
            exact List.set_comm _ _ fun z => hn (by rw [z]; exact List.mem_cons_self ..)
        rw [c vs σ e, List.set_set]
      · exact absurd h e
theorem vg_name (i : Nat) : VG K [i] (gName i) (tgN i) := by
  intro B AF σ H ρ ρ' Fs v d G S r h1 hf e Q q
  unfold tgN at e
  split at e
  · rename_i hi
    cases e
    refine q _ (upF Fs i G) (S.set0 hi r h1 hf) ⟨fun j hj => ?_, fun j hj e n z => ?_, fun vs hv => wipe_set vs σ (hv i (List.mem_singleton.mpr rfl)), List.length_set⟩
    · have ne : j ≠ i := fun z => hj (List.mem_singleton.mpr z)
      exact ⟨List.getElem?_set_ne (Ne.symm ne), List.getElem?_set_ne (Ne.symm ne), upF_ne ne⟩
    · obtain rfl := List.mem_singleton.mp hj
      rcases set_some z with ⟨_, z⟩ | ⟨ne, z⟩
      · cases z
        rw [upF_same]
        exact ⟨(own02 (B := B) r).2, fun a h => h⟩
      · exact absurd rfl ne
  · cases e
theorem vgs_nil : VGs K [] gNil tgNil := by
  intro B AF σ H ρ ρ' Fs vs ds G S r h1 hf e Q q
  unfold tgNil at e
  split at e
  · cases e
    cases r
    exact ⟨rfl, q σ Fs S ⟨fun _ _ => ⟨rfl, rfl, rfl⟩, fun _ h => (nomatch h), fun _ _ => rfl, rfl⟩⟩
  · cases e
theorem Tg.free {G F : List Addr} {σ σ' : L2.St} {ρ ρ' : Env} {Fs Fs' : Nat → List Addr} (T : Tg ns G σ ρ Fs σ' ρ' Fs') (h : Free ρ Fs F) : Free ρ' Fs' F := fun i d m q a ha => by
  by_cases hi : i ∈ ns
  · rw [(T.ins i hi d m q).1] at ha; cases ha
  · obtain ⟨_, h2, h3⟩ := T.out i hi
    rw [h2] at q
    rw [h3] at ha
    exact h i d m q a ha
theorem vgs_cons {g : TG} {gs : TGs} {st : SG} {sts : SGs} (h1 : VG K ns g st) (h2 : VGs K ms gs sts) : VGs K (ns ++ ms) (gCons g gs) (tgCons st sts) := by
  intro B AF σ H ρ ρ' Fs vs ds G S r hB hf e Q q
  unfold tgCons at e
  split at e
  · cases e
  · rename_i d ds
    obtain ⟨ρ1, e1, e2⟩ := Option.bind_eq_some_iff.mp e
    cases r with
    | cons rv rs =>
      refine ⟨_, _, rfl, h1 B AF σ H ρ ρ1 Fs _ d _ S rv (fun a ha => hB a (List.mem_append_left _ ha)) (hf.mono fun a ha => List.mem_append_left _ ha) e1 _ fun σ1 Fs1 S1 T1 => ?_⟩
      refine h2 B AF σ1 H ρ1 ρ' Fs1 _ ds _ S1 rs (fun a ha => hB a (List.mem_append_right _ ha)) ((T1.free hf).mono fun a ha => List.mem_append_right _ ha) e2 Q fun σ2 Fs2 S2 T2 => ?_
      refine q σ2 Fs2 S2 ⟨fun i hi => ?_, fun i hi d m z => ?_, fun vs hv => ?_, T2.len.trans T1.len⟩
      · obtain ⟨a1, a2, a3⟩ := T1.out i fun z => hi (List.mem_append_left _ z)
        obtain ⟨b1, b2, b3⟩ := T2.out i fun z => hi (List.mem_append_right _ z)
        exact ⟨b1.trans a1, b2.trans a2, b3.trans a3⟩
      · by_cases h2 : i ∈ ms
        · obtain ⟨x, y⟩ := T2.ins i h2 d m z
          exact ⟨x, fun a ha => List.mem_append_right _ (y a ha)⟩
        · obtain ⟨b1, b2, b3⟩ := T2.out i h2
          have h3 : i ∈ ns := (List.mem_append.mp hi).resolve_right h2
          rw [b2] at z
          rw [b3]
          obtain ⟨x, y⟩ := T1.ins i h3 d m z
          exact ⟨x, fun a ha => List.mem_append_left _ (y a ha)⟩
      · rw [T2.wip vs fun i hi => hv i (List.mem_append_right _ hi), T1.wip vs fun i hi => hv i (List.mem_append_left _ hi)]
theorem vg_tup {gs : TGs} {sts : SGs} {n : Nat} (h : VGs K ns gs sts) : VG K ns (L2.gTup K n gs) (tgT n sts) := by
  intro B AF σ H ρ ρ' Fs v d G S r hB hf e Q q
  unfold tgT at e
  split at e
  · split at e
    · rename_i hl
      cases r with
      | tup ha rl => exact ⟨_, _, rfl, ha.1, by rw [rl.length]; exact hl, h B AF σ H ρ ρ' Fs _ _ G S rl hB hf e Q q⟩
    · cases e
  · split at e
    · rename_i hl
      obtain ⟨a, xs, rfl, ha, rl⟩ := r.pair_inv
      exact ⟨_, _, rfl, ha, by rw [rl.length]; exact hl, h B AF σ H ρ ρ' Fs _ _ G S rl hB hf e Q q⟩
    · cases e
  · cases e
end

/-! ### what is walked -/
/-- the turns of J give the items ds, as long as the things at C and at F stand -/
structure ItOk (K : PySem.W.Frag) (J : It) (H : Hp) (ds : List PyData) (C : List Addr) : Prop where
  mb : ∀ a ∈ C, Mb (H a) = true
  go : ∀ H', Kp C H H' → ∀ (i : Nat) (d : PyData), ds[i]? = some d → J.go i H' ∧ ∀ x H'', J.yld i H' x H'' → Grow H' H'' ∧ ∃ G, Rp K H'' x d G ∧ ∀ a ∈ G, a ∈ C
  stop : ∀ H', Kp C H H' → ∀ i : Nat, ds.length ≤ i → J.stop i H'
abbrev IF := Env → Option (List PyData × Kd)
def VI (K : PySem.W.Frag) (wi : TI) (f : IF) : Prop := ∀ (B : Hp) (AF : List Addr) (σ : L2.St) (H : Hp) (ρ : Env) (Fs : Nat → List Addr) (ds : List PyData) (k : Kd), SR K B AF σ H ρ Fs → f ρ = some (ds, k) →
  ∀ R : It → Hp → Prop, (∀ J H' C, Grow H H' → ItOk K J H' ds C → (∀ a ∈ C, H a = none ∨ Src ρ Fs k.src a) → R J H') → wi σ H R
/-- over a list, a tuple -/
def iterD : PyData → Option (List PyData)
  | .list ds => some ds
  | .tuple ds => some ds
  | _ => none
def iSeq (f : EF) : IF := fun ρ => (f ρ).bind fun p => (iterD p.1).map fun ds => (ds, p.2)
/-- the reading of a walk over a list or a tuple -/
def iAny (K : PySem.W.Frag) (tl : TE) : TI := fun σ H R => iList K tl σ H R ∨ iTup K tl σ H R
section
variable {K : PySem.W.Frag} {te : TE} {f : EF}
theorem itOk_list {H : Hp} {a : Addr} {xs : List V} {ds : List PyData} {F : List Addr} (h : H a = some (.lst xs)) (r : RpL K H xs ds F) : ItOk K (Itl K a) H ds (a :: F) := by
  have at_ : ∀ H', Kp (a :: F) H H' → H' a = some (.lst xs) := fun H' e => e _ _ h (.inr (List.mem_cons_self ..))
  refine ⟨fun b hb => ?_, fun H' e i d hd => ?_, fun H' e i hi => ⟨xs, .of (at_ H' e), by rw [r.length]; exact hi⟩⟩
  · rcases List.mem_cons.mp hb with rfl | hb
    · rw [h]; rfl
    · exact r.mb b hb
  · obtain ⟨v, A, G, B, h1, h2, h3⟩ := r.get i hd
    refine ⟨⟨xs, v, .of (at_ H' e), h1⟩, fun x H'' ⟨e1, e2⟩ => ?_⟩
    subst e1
    have e3 := e2 xs (.of (at_ _ e))
    rw [h1] at e3
    cases e3
    refine ⟨.refl _, G, h2.kp (e.mono fun b hb => List.mem_cons_of_mem _ ?_), fun b hb => List.mem_cons_of_mem _ ?_⟩ <;>
    · rw [h3]
      exact List.mem_append_right _ (List.mem_append_left _ hb)
theorem itOk_tup {H : Hp} {a : Addr} {xs : List V} {ds : List PyData} {F : List Addr} (h : SqT K H a xs) (r : RpL K H xs ds F) : ItOk K (Itt K a) H ds F := by
  refine ⟨r.mb, fun H' e i d hd => ?_, fun H' e i hi => ⟨xs, e.sqT h, by rw [r.length]; exact hi⟩⟩
  obtain ⟨v, A, G, B, h1, h2, h3⟩ := r.get i hd
  refine ⟨⟨xs, v, e.sqT h, h1⟩, fun x H'' ⟨e1, e2⟩ => ?_⟩
  subst e1
  have e3 := e2 xs (e.sqT h)
  rw [h1] at e3
  cases e3
  refine ⟨.refl _, G, h2.kp (e.mono fun b hb => ?_), fun b hb => ?_⟩ <;>
  · rw [h3]
    exact List.mem_append_right _ (List.mem_append_left _ hb)
theorem vi_seq (h : VE K te f) : VI K (iAny K te) (iSeq f) := by
  intro B AF σ H ρ Fs ds k S e R q
  obtain ⟨⟨d, k1⟩, e1, e2⟩ := Option.bind_eq_some_iff.mp e
  obtain ⟨ds', e3, e4⟩ := Option.map_eq_some_iff.mp e2
  cases e4
  cases d with
  | list xs =>
    cases e3
    refine .inl (h B AF σ H ρ Fs _ _ S e1 _ fun v H1 F g1 r1 o1 => ?_)
    cases r1 with
    | lst ha rl => exact ⟨_, rfl, ⟨_, .of ha⟩, q _ H1 _ g1 (itOk_list ha rl) o1.1.any⟩
  | tuple xs =>
    cases e3
    refine .inr (h B AF σ H ρ Fs _ _ S e1 _ fun v H1 F g1 r1 o1 => ?_)
    cases r1 with
    | tup ha rl => exact ⟨_, rfl, ⟨_, ha.1⟩, q _ H1 _ g1 (itOk_tup ha.1 rl) o1.1.any⟩
  | none => cases e3
  | bool _ => cases e3
  | int _ => cases e3
  | str _ => cases e3
  | dict _ => cases e3
end
end Va

/-! Va5: list comprehensions. -/
namespace Va
open PySem L2

def zeroE (ρ : Env) : Env := ρ.map fun s => s.map fun p => (p.1, 0)
@[simp] def wipeE (ρ : Env) : List Nat → Env
  | [] => ρ
  | v :: vs => (wipeE ρ vs).set v none
def isMv : Kd → Bool
  | .mv _ => true
  | _ => false
section
variable {K : PySem.W.Frag} {B : Hp} {AF : List Addr} {σ : L2.St} {H : Hp} {ρ : Env} {Fs : Nat → List Addr}
theorem zero_get {i : Nat} {d : PyData} {m : Nat} (h : (zeroE ρ)[i]? = some (some (d, m))) : m = 0 ∧ ∃ n, ρ[i]? = some (some (d, n)) := by
  unfold zeroE at h
  rw [List.getElem?_map] at h
  obtain ⟨s, e1, e2⟩ := Option.map_eq_some_iff.mp h
  cases s with
  | none => cases e2
  | some p =>
    obtain ⟨d', n⟩ := p
    have e3 := Option.some.inj e2
    cases e3
    exact ⟨rfl, n, e1⟩
theorem SR.zero (S : SR K B AF σ H ρ Fs) : SR K B AF σ H (zeroE ρ) Fs := S.less (by unfold zeroE; exact List.length_map ..) fun i d m h => by
  obtain ⟨rfl, n, e⟩ := zero_get h
  exact ⟨n, e, .inr rfl⟩
theorem SR.unset (S : SR K B AF σ H ρ Fs) (i : Nat) {x : Option V} : SR K B AF (σ.set i x) H (ρ.set i none) Fs := by
  refine ⟨by rw [List.length_set, List.length_set]; exact S.len, S.same, fun j e n q => ?_, fun j j' e n e' n' q q' ne a ha => ?_⟩
  · rcases set_some q with ⟨_, z⟩ | ⟨ne, z⟩
    · cases z
    · rw [List.getElem?_set_ne (Ne.symm ne)]
      exact S.val j e n z
  · rcases set_some q with ⟨_, z⟩ | ⟨_, z⟩
    · cases z
    · rcases set_some q' with ⟨_, z'⟩ | ⟨_, z'⟩
      · cases z'
      · exact S.dis j j' e n e' n' z z' ne a ha
theorem SR.wipe (S : SR K B AF σ H ρ Fs) : ∀ vs : List Nat, SR K B AF (L2.wipe σ vs) H (wipeE ρ vs) Fs
  | [] => S
  | v :: vs => (S.wipe vs).unset v
theorem wipeE_get {i : Nat} {s : PyData × Nat} : ∀ {vs : List Nat}, (wipeE ρ vs)[i]? = some (some s) → ρ[i]? = some (some s)
  | [], h => h
  | v :: vs, h => by
    rcases set_some h with ⟨_, z⟩ | ⟨_, z⟩
    · cases z
    · exact wipeE_get z
end

abbrev LcR := List PyData × Bool × List Nat
def lcF (ns : List Nat) (st : SG) (ft : Env → Option Bool) (fe : EF) (ρ : Env) : List PyData → Option LcR
  | [] => some ([], true, [])
  | d :: ds => (st d ρ).bind fun ρ' => (ft ρ').bind fun b => if b = true then
      (fe ρ').bind fun p => (lcF ns st ft fe ρ ds).map fun q => (p.1 :: q.1, isMv p.2 && q.2.1, (p.2.src.filter fun i => !ns.contains i) ++ q.2.2)
    else lcF ns st ft fe ρ ds
def eLc (fi : IF) (ns : List Nat) (st : SG) (ft : Env → Option Bool) (fe : EF) (vs : List Nat) : EF := fun ρ => (fi ρ).bind fun p =>
  if p.1.length ≤ 1000000 then (lcF ns st ft fe (wipeE (zeroE ρ) vs) p.1).map fun q => (.list q.1, if flatL q.1 = true then .mv [] else if q.2.1 = true then .mv [] else .sp (p.2.src ++ q.2.2)) else none

section
variable {K : PySem.W.Frag} {wi : TI} {g : TG} {tt : TT} {te : TE} {fi : IF} {st : SG} {ft : Env → Option Bool} {fe : EF} {ns vs : List Nat}
theorem RpL.snoc {K : PySem.W.Frag} {H : Hp} {us : List V} {ds : List PyData} {F G : List Addr} {v : V} {d : PyData} (r : RpL K H us ds F) (h : Rp K H v d G) : RpL K H (us ++ [v]) (ds ++ [d]) (F ++ G) := by
  have := RpL.app r (.one h)
  exact this
theorem lcF_len {ρ : Env} : ∀ {ds : List PyData} {q : LcR}, lcF ns st ft fe ρ ds = some q → q.1.length ≤ ds.length
  | [], q, h => by cases h; exact Nat.le_refl _
  | d :: ds, q, h => by
    obtain ⟨ρ', e1, h⟩ := Option.bind_eq_some_iff.mp h
    obtain ⟨b, e2, h⟩ := Option.bind_eq_some_iff.mp h
    cases b with
    | true =>
      rw [if_pos rfl] at h
      obtain ⟨p, e3, h⟩ := Option.bind_eq_some_iff.mp h
      obtain ⟨q', e4, h⟩ := Option.map_eq_some_iff.mp h
      subst h
      have := lcF_len e4
      simp only [List.length_cons]
      omega
    | false =>
      rw [if_neg Bool.false_ne_true] at h
      have := lcF_len h
      simp only [List.length_cons]
      omega
/-- the state of a comprehension behind some items: acc made so far; the rest q of what is to come -/
structure LcI (K : PySem.W.Frag) (ρ : Env) (Fs : Nat → List Addr) (H H1 : Hp) (D : Addr) (tot : List PyData) (am : Bool) (L : List Nat) (q : LcR) (H' : Hp) : Prop where
  grow : Grow H1 H'
  ex : ∃ acc out F, H' D = some (.lst acc) ∧ RpL K H' acc out F ∧ tot = out ++ q.1 ∧ D ∉ F ∧ (am = true → q.2.1 = true ∧ F.Nodup ∧ ∀ a ∈ F, H a = none) ∧ (∀ i ∈ q.2.2, i ∈ L) ∧ ∀ a ∈ F, H a = none ∨ Src ρ Fs L a
theorem wipe_sub {σ : L2.St} {vs : List Nat} : ∀ us : List Nat, (∀ i ∈ us, i ∈ vs) → wipe (wipe σ us) vs = wipe σ vs
  | [], _ => rfl
  | u :: us, h => by
    show wipe ((wipe σ us).set u none) vs = wipe σ vs
    rw [wipe_set vs _ (h u (List.mem_cons_self ..))]
    exact wipe_sub us fun i hi => h i (List.mem_cons_of_mem _ hi)
theorem ve_lc (hi : VI K wi fi) (hg : VG K ns g st) (ht : VT K tt ft) (he : VE K te fe) (hv : ∀ i ∈ ns, i ∈ vs) : VE K (tLc wi g tt te vs) (eLc fi ns st ft fe vs) := by
  intro B AF σ H ρ Fs d k S e Q q
  obtain ⟨⟨ds, kc⟩, e1, e⟩ := Option.bind_eq_some_iff.mp e
  split at e
  case isFalse => cases e
  rename_i hz
  obtain ⟨⟨tot, am, L0⟩, e2, e⟩ := Option.map_eq_some_iff.mp e
  cases e
  refine hi B AF σ H ρ Fs ds kc S e1 _ fun J H1 C g1 ok hC D hD => ?_
  have S1 := S.grow g1
  have hD0 : H D = none := g1.back hD
  let L := kc.src ++ L0
  let ρi := wipeE (zeroE ρ) vs
  have Si : ∀ {H2 : Hp}, Grow H1 H2 → SR K B AF (wipe σ vs) H2 ρi Fs := fun g2 => ((S1.grow g2).zero).wipe vs
  have frI : ∀ G : List Addr, Free ρi Fs G := fun G i d m h a ha => by
    obtain ⟨rfl, _⟩ := zero_get (wipeE_get h)
    rw [Mf0] at ha; cases ha
  have inv : ∀ {i : Nat} {H2 : Hp}, Grow (upd H1 D (.lst [])) H2 → Grow H1 H2 := fun h => (Grow.new hD).trans h
  refine ⟨fun i m H' => m = ds.length - i ∧ i ≤ ds.length ∧ ∃ qr, lcF ns st ft fe ρi (ds.drop i) = some qr ∧ LcI K ρ Fs H H1 D tot am L qr H', ⟨ds.length, by simp, Nat.zero_le _, (tot, am, L0), e2, ?_⟩, ?_⟩
  · exact ⟨.new hD, [], [], [], upd_same, .nil, rfl, fun z => (nomatch z), fun z => ⟨z, List.nodup_nil, fun a h => nomatch h⟩, fun i hi => List.mem_append_right _ hi, fun a h => nomatch h⟩
  rintro i m H' ⟨rfl, hil, qr, eq, I⟩
  have kpC : Kp C H1 H' := I.grow.kp
  obtain ⟨acc, out, F, hDa, racc, etot, hDF, ham, hL, hF⟩ := I.ex
  by_cases hlt : i < ds.length
  · obtain ⟨dd, hdd⟩ : ∃ dd, ds[i]? = some dd := ⟨ds[i], List.getElem?_eq_getElem hlt⟩
    obtain ⟨go, yl⟩ := ok.go H' kpC i dd hdd
    have edrop : ds.drop i = dd :: ds.drop (i + 1) := by
      rw [List.drop_eq_getElem_cons hlt]
      rw [List.getElem?_eq_getElem hlt] at hdd
      rw [Option.some.inj hdd]
    rw [edrop] at eq
    obtain ⟨ρ2, a1, eq⟩ := Option.bind_eq_some_iff.mp eq
    obtain ⟨b, a2, eq⟩ := Option.bind_eq_some_iff.mp eq
    refine .inr ⟨go, fun H2 => ∃ qr, lcF ns st ft fe ρi (ds.drop (i + 1)) = some qr ∧ LcI K ρ Fs H H1 D tot am L qr H2, fun H2 ⟨qr2, b1, b2⟩ => ⟨ds.length - (i + 1), by omega, rfl, by omega, qr2, b1, b2⟩, fun x H2 hy => ?_⟩
    obtain ⟨g2, G, rx, hG⟩ := yl x H2 hy
    have g12 : Grow H1 H2 := I.grow.trans g2
    have tr : ∀ {σ2 : L2.St} {Fs2 : Nat → List Addr}, Tg ns G (wipe σ vs) ρi Fs σ2 ρ2 Fs2 → ∀ {M : List Nat} {a : Addr}, Src ρ2 Fs2 M a → Src ρ Fs (kc.src ++ M.filter fun i => !ns.contains i) a ∨ (H a = none ∧ a ∈ C) := by
      intro σ2 Fs2 T2 M a ⟨j, hj, ⟨d', m', z⟩, ma⟩
      by_cases hn : j ∈ ns
      · rcases hC a (hG a ((T2.ins j hn d' m' z).2 a ma)) with y | y
        · exact .inr ⟨y, hG a ((T2.ins j hn d' m' (by assumption)).2 a ma)⟩
        · exact .inl (y.mono fun i hi => List.mem_append_left _ hi)
      · obtain ⟨_, h2, h3⟩ := T2.out j hn
        rw [h2] at z
        rw [h3] at ma
        obtain ⟨_, n, z⟩ := zero_get (wipeE_get z)
        refine .inl ⟨j, List.mem_append_right _ (List.mem_filter.mpr ⟨hj, by simpa using hn⟩), ⟨d', n, z⟩, ma⟩
    have nw : ∀ {σ2 : L2.St} {Fs2 : Nat → List Addr}, Tg ns G (wipe σ vs) ρi Fs σ2 ρ2 Fs2 → ∀ {M : List Nat} {a : Addr}, Src2 ρ2 Fs2 M a → False := by
      intro σ2 Fs2 T2 M a ⟨j, hj, ⟨d', z⟩, ma⟩
      by_cases hn : j ∈ ns
      · have := (T2.ins j hn d' 2 z).1
        have e : Mf 2 (Fs2 j) = Fs2 j := rfl
        rw [e] at this
        rw [this] at ma
        cases ma
      · obtain ⟨_, h2, h3⟩ := T2.out j hn
        rw [h2] at z
        obtain ⟨z, _⟩ := zero_get (wipeE_get z)
        cases z
    refine hg B AF (wipe σ vs) H2 ρi ρ2 Fs x dd G (Si g12) rx (fun a ha => ?_) (frI G) a1 _ fun σ2 Fs2 S2 T2 => ⟨(T2.wip vs hv).trans (wipe_sub vs fun _ h => h), ?_⟩
    · rcases hC a (hG a ha) with z | ⟨j, hj, ⟨d', m', z⟩, ma⟩
      · exact .inl (S.same.back z)
      · obtain ⟨_, _, _, h3, _⟩ := S.val j d' m' z
        exact h3 a ma
    · refine ht B AF σ2 H2 ρ2 Fs2 b S2 a2 _ fun H3 g3 => ?_
      have g13 := g12.trans g3
      have gp : Grow H' H3 := g2.trans g3
      cases b with
      | false =>
        rw [if_neg Bool.false_ne_true] at eq ⊢
        exact ⟨qr, eq, g13, acc, out, F, gp _ _ hDa, racc.grow gp, etot, hDF, ham, hL, hF⟩
      | true =>
        rw [if_pos rfl] at eq ⊢
        obtain ⟨⟨dy, ky⟩, a3, eq⟩ := Option.bind_eq_some_iff.mp eq
        obtain ⟨q2, a4, eq⟩ := Option.map_eq_some_iff.mp eq
        subst eq
        refine he B AF σ2 H3 ρ2 Fs2 dy ky (S2.grow g3) a3 _ fun y H4 Gy g4 ry oy => ?_
        have g14 := g13.trans g4
        have gq : Grow H' H4 := gp.trans g4
        have hD4 : H4 D = some (.lst acc) := gq _ _ hDa
        have hlen : acc.length < sizeLine := by
          have h1 := racc.length
          have h2 : out.length + (1 + q2.1.length) = tot.length := by
            rw [etot, List.length_append, List.length_cons]; omega
          have h3 := lcF_len e2
          simp only at h3 hz
          exact lt_line (by omega)
        have DGy : D ∉ Gy := fun hm => by
          rcases oy.1.any D hm with z | z
          · rw [gp _ _ hDa] at z
            cases z
          · rcases tr T2 z with ⟨j, _, ⟨d', m', w⟩, ma⟩ | z
            · exact S.there w ma hD0
            · have := ok.mb D z.2
              rw [hD] at this; cases this
        refine ⟨acc, hD4, hlen, q2, a4, fun c o ho => ?_, acc ++ [y], out ++ [dy], F ++ Gy, upd_same, ?_, by rw [etot, List.append_assoc]; rfl, ?_, ?_, ?_, ?_⟩
        · have : c ≠ D := by
            rintro rfl
            rw [hD] at ho; cases ho
          rw [upd_ne this]
          exact g14 _ _ ho
        · have mb : Mb (H4 D) = true := by rw [hD4]; rfl
          exact ((racc.grow gq).snoc ry).kp (.upd mb fun z => (List.mem_append.mp z).elim hDF DGy)
        · exact fun z => (List.mem_append.mp z).elim hDF DGy
        · intro z
          obtain ⟨y1, y2, y3⟩ := ham z
          rw [Bool.and_eq_true] at y1
          obtain ⟨y1, y4⟩ := y1
          refine ⟨y4, ?_, ?_⟩
          · cases ky with
            | sp M => cases y1
            | bo M => cases y1
            | mv M =>
              have o1 := oy.1
              refine List.nodup_append.mpr ⟨y2, o1.1, fun a ha b hb z => ?_⟩
              subst z
              rcases o1.2 a hb with z | z
              · exact racc.stn ha (gp.back z)
              · exact nw T2 z
          · cases ky with
            | sp M => cases y1
            | bo M => cases y1
            | mv M =>
              have o1 := oy.1
              intro a ha
              rcases List.mem_append.mp ha with ha | ha
              · exact y3 a ha
              · rcases o1.2 a ha with z | z
                · exact g1.back (g13.back z)
                · exact (nw T2 z).elim
        · exact fun i hi => hL i (List.mem_append_right _ hi)
        · intro a ha
          rcases List.mem_append.mp ha with ha | ha
          · exact hF a ha
          · rcases oy.1.any a ha with z | z
            · exact .inl (g1.back (g13.back z))
            · rcases tr T2 z with w | w
              · refine .inr (w.mono fun i hi => ?_)
                rcases List.mem_append.mp hi with hi | hi
                · exact List.mem_append_left _ hi
                · exact hL i (List.mem_append_left _ hi)
              · exact .inl w.1
  · have e3 : i = ds.length := by omega
    subst e3
    rw [List.drop_length] at eq
    cases eq
    refine .inl ⟨ok.stop H' kpC _ (Nat.le_refl _), ?_⟩
    rw [List.append_nil] at etot
    subst etot
    refine q _ H' (D :: F) (g1.trans I.grow) (.lst hDa racc) ?_
    split
    · rename_i hf
      rw [racc.flat hf]
      exact .mv ⟨by simp, fun a ha => by rcases List.mem_singleton.mp ha with rfl; exact .inl hD0⟩
    · split
      · rename_i hm
        obtain ⟨_, y2, y3⟩ := ham hm
        refine .mv ⟨List.nodup_cons.mpr ⟨hDF, y2⟩, fun a ha => ?_⟩
        rcases List.mem_cons.mp ha with rfl | ha
        · exact .inl hD0
        · exact .inl (y3 a ha)
      · refine ⟨fun a ha => ?_, fun _ _ => ⟨D, F, rfl, rfl, hDF, hD0⟩⟩
        rcases List.mem_cons.mp ha with rfl | ha
        · exact .inl hD0
        · exact hF a ha
end
end Va

/-! Va6: statements. -/
namespace Va
open PySem L2

inductive Out where
  | nx (ρ : Env) | rt (d : PyData) (r : Nat) | bk (ρ : Env) | ct (ρ : Env) | ex (c : Str) (fs : List PyData)
abbrev SF := Env → Option Out
/-- what changed: only what the slots wr alone could write, and what is new -/
structure Fr (wr : List Nat) (σ : L2.St) (H : Hp) (ρ : Env) (Fs : Nat → List Addr) (σ' : L2.St) (H' : Hp) (ρ' : Env) (Fs' : Nat → List Addr) : Prop where
  dom : ∀ a, H' a = none → H a = none
  keep : ∀ a o, H a = some o → (∀ i ∈ wr, ∀ d m, ρ[i]? = some (some (d, m)) → a ∉ Mf m (Fs i)) → H' a = some o
  own : ∀ (j : Nat), j ∈ wr → ∀ (d : PyData) (m : Nat), ρ'[j]? = some (some (d, m)) → ∀ a ∈ Mf m (Fs' j), H a = none ∨ ∃ i ∈ wr, ∃ d m, ρ[i]? = some (some (d, m)) ∧ a ∈ Mf m (Fs i)
  oth : ∀ j : Nat, j ∉ wr → σ'[j]? = σ[j]? ∧ ∀ (d : PyData) (m : Nat), ρ'[j]? = some (some (d, m)) → ∃ m0, ρ[j]? = some (some (d, m0)) ∧ Fs' j = Fs j ∧ ∀ a ∈ Mf m (Fs j), a ∈ Mf m0 (Fs j)
/-- how a returned value lies: r = 2 all its lists are new, 1 the top one is -/
def ROk (r : Nat) (B : Hp) (AF : List Addr) (v : V) (G : List Addr) : Prop :=
  (∀ a ∈ G, B a = none ∨ a ∈ AF) ∧ (r = 2 → G.Nodup ∧ ∀ a ∈ G, B a = none) ∧ (r = 1 → ∃ p G', v = .ref p ∧ G = p :: G' ∧ p ∉ G' ∧ B p = none)
abbrev WxT := Str → List PyData → L2.St → Hp → Prop
def PNx (K : PySem.W.Frag) (B : Hp) (AF : List Addr) (wr : List Nat) (σ : L2.St) (H : Hp) (ρ : Env) (Fs : Nat → List Addr) (ρ' : Env) (C : L2.St → Hp → Prop) : Prop :=
  ∀ σ' H' Fs', SR K B AF σ' H' ρ' Fs' → Fr wr σ H ρ Fs σ' H' ρ' Fs' → C σ' H'
def Post (K : PySem.W.Frag) (Wx : WxT) (B : Hp) (AF : List Addr) (wr : List Nat) (σ : L2.St) (H : Hp) (ρ : Env) (Fs : Nat → List Addr) (D : Ends) : Out → Prop
  | .nx ρ' => PNx K B AF wr σ H ρ Fs ρ' D.nx
  | .bk ρ' => PNx K B AF wr σ H ρ Fs ρ' D.bk
  | .ct ρ' => PNx K B AF wr σ H ρ Fs ρ' D.ct
  | .rt d r => ∀ v H' G, Grow B H' → Rp K H' v d G → ROk r B AF v G → D.rt v H'
  | .ex c fs => ∀ σ' H', Grow B H' → Wx c fs σ' H'
/-- a statement's reading does what f tells -/
def VS (K : PySem.W.Frag) (Wx : WxT) (wr : List Nat) (ts : TS) (f : SF) : Prop := ∀ (B : Hp) (AF : List Addr) (σ : L2.St) (H : Hp) (ρ : Env) (Fs : Nat → List Addr) (o : Out), SR K B AF σ H ρ Fs → f ρ = some o →
  ∀ D : Ends, Post K Wx B AF wr σ H ρ Fs D o → ts D σ H

theorem Mf_le {m m0 : Nat} {F : List Addr} {a : Addr} (h : m = m0 ∨ m = 0) (ha : a ∈ Mf m F) : a ∈ Mf m0 F := by
  rcases h with rfl | rfl
  · exact ha
  · rw [Mf0] at ha; cases ha
section
variable {K : PySem.W.Frag} {Wx : WxT} {B : Hp} {AF : List Addr} {wr wr' : List Nat} {σ σ' σ2 : L2.St} {H H' H2 : Hp} {ρ ρ' ρ2 : Env} {Fs Fs' Fs2 : Nat → List Addr}
theorem Fr.grow (g : Grow H H') : Fr wr σ H ρ Fs σ H' ρ Fs :=
  ⟨fun a h => g.back h, fun a o h _ => g a o h, fun j hj d m h a ha => .inr ⟨j, hj, d, m, h, ha⟩, fun j hj => ⟨rfl, fun d m h => ⟨m, h, rfl, fun _ h => h⟩⟩⟩
theorem Fr.mono (h : Fr wr σ H ρ Fs σ' H' ρ' Fs') (s : ∀ i ∈ wr, i ∈ wr') : Fr wr' σ H ρ Fs σ' H' ρ' Fs' := by
  refine ⟨h.dom, fun a o e k => h.keep a o e fun i hi => k i (s i hi), fun j hj d m e a ha => ?_, fun j hj => h.oth j fun z => hj (s j z)⟩
  by_cases hw : j ∈ wr
  · exact (h.own j hw d m e a ha).imp id fun ⟨i, hi, q⟩ => ⟨i, s i hi, q⟩
  · obtain ⟨_, h2⟩ := h.oth j hw
    obtain ⟨m0, h3, h4, h5⟩ := h2 d m e
    exact .inr ⟨j, hj, d, m0, h3, h5 a (h4 ▸ ha)⟩
theorem Fr.trans (h : Fr wr σ H ρ Fs σ' H' ρ' Fs') (k : Fr wr' σ' H' ρ' Fs' σ2 H2 ρ2 Fs2) : Fr (wr ++ wr') σ H ρ Fs σ2 H2 ρ2 Fs2 := by
  have back : ∀ i ∈ wr ++ wr', ∀ (d : PyData) (m : Nat), ρ'[i]? = some (some (d, m)) → ∀ a ∈ Mf m (Fs' i), H a = none ∨ ∃ i ∈ wr ++ wr', ∃ d m, ρ[i]? = some (some (d, m)) ∧ a ∈ Mf m (Fs i) := fun i hi d m e a ha => by
    by_cases hw : i ∈ wr
    · exact (h.own i hw d m e a ha).imp id fun ⟨i, hi, q⟩ => ⟨i, List.mem_append_left _ hi, q⟩
    · obtain ⟨_, h2⟩ := h.oth i hw
      obtain ⟨m0, h3, h4, h5⟩ := h2 d m e
      exact .inr ⟨i, hi, d, m0, h3, h5 a (h4 ▸ ha)⟩
  refine ⟨fun a e => h.dom a (k.dom a e), fun a o e kk => ?_, fun j hj d m e a ha => ?_, fun j hj => ?_⟩
  · refine k.keep a o (h.keep a o e fun i hi => kk i (List.mem_append_left _ hi)) fun i hi d m e2 ha => ?_
    rcases back i (List.mem_append_right _ hi) d m e2 a ha with z | ⟨l, hl, d', m', z, ma⟩
    · rw [e] at z; cases z
    · exact kk l hl d' m' z ma
  · by_cases hw : j ∈ wr'
    · rcases k.own j hw d m e a ha with z | ⟨i, hi, d', m', z, ma⟩
      · exact .inl (h.dom a z)
      · exact back i (List.mem_append_right _ hi) d' m' z a ma
    · obtain ⟨_, h2⟩ := k.oth j hw
      obtain ⟨m0, h3, h4, h5⟩ := h2 d m e
      exact back j hj d m0 h3 a (h5 a (h4 ▸ ha))
  · obtain ⟨a1, a2⟩ := h.oth j fun z => hj (List.mem_append_left _ z)
    obtain ⟨b1, b2⟩ := k.oth j fun z => hj (List.mem_append_right _ z)
    refine ⟨b1.trans a1, fun d m e => ?_⟩
    obtain ⟨m0, c1, c2, c3⟩ := b2 d m e
    obtain ⟨m1, d1, d2, d3⟩ := a2 d m0 c1
    refine ⟨m1, d1, c2.trans d2, fun a ha => ?_⟩
    rw [d2] at c3
    exact d3 a (c3 a ha)
/-- behind a change of modes alone -/
theorem Fr.less (hρ : ∀ (i : Nat) (d : PyData) (m : Nat), ρ'[i]? = some (some (d, m)) → ∃ m0, ρ[i]? = some (some (d, m0)) ∧ (m = m0 ∨ m = 0)) : Fr wr σ H ρ Fs σ H ρ' Fs := by
  refine ⟨fun a h => h, fun a o h _ => h, fun j hj d m e a ha => ?_, fun j hj => ⟨rfl, fun d m e => ?_⟩⟩
  · obtain ⟨m0, h1, h2⟩ := hρ j d m e
    exact .inr ⟨j, hj, d, m0, h1, Mf_le h2 ha⟩
  · obtain ⟨m0, h1, h2⟩ := hρ j d m e
    exact ⟨m0, h1, rfl, fun a ha => Mf_le h2 ha⟩
/-- another start: fewer modes were told there, and less stood -/
theorem Fr.from_ (h : Fr wr σ H' ρ' Fs σ2 H2 ρ2 Fs2) (g : Grow H H') (hρ : ∀ (i : Nat) (d : PyData) (m : Nat), ρ'[i]? = some (some (d, m)) → ∃ m0, ρ[i]? = some (some (d, m0)) ∧ (m = m0 ∨ m = 0)) : Fr wr σ H ρ Fs σ2 H2 ρ2 Fs2 := by
  have := (Fr.grow (wr := wr) (σ := σ) (ρ := ρ) (Fs := Fs) g).trans ((Fr.less (wr := wr) (σ := σ) (H := H') (Fs := Fs) hρ).trans h)
  exact this.mono fun i hi => by simpa using hi
end

/-! ### blocks -/
def sNext : SF := fun ρ => some (.nx ρ)
def sSeq (f g : SF) : SF := fun ρ => (f ρ).bind fun o => match o with
  | .nx ρ' => g ρ'
  | o => some o
def sIf (c : Env → Option Bool) (f g : SF) : SF := fun ρ => (c ρ).bind fun b => if b = true then f ρ else g ρ
def rk : Kd → Nat
  | .mv _ => 2
  | .sp _ => 1
  | .bo _ => 0
def sRet (f : EF) : SF := fun ρ => (f ρ).map fun p => .rt p.1 (rk p.2)
def sRetN : SF := fun _ => some (.rt .none 2)
def sBreak : SF := fun ρ => some (.bk ρ)
def sCont : SF := fun ρ => some (.ct ρ)
def sDrop (f : EF) : SF := fun ρ => (f ρ).map fun _ => .nx ρ
section
variable {K : PySem.W.Frag} {Wx : WxT} {wr wr' : List Nat} {t u : TS} {f g : SF} {te : TE} {fe : EF} {tc : TT} {fc : Env → Option Bool}
theorem vs_next : VS K Wx wr tNext sNext := by
  intro B AF σ H ρ Fs o S e D p
  cases e
  exact p σ H Fs S (Fr.grow (.refl H))
theorem vs_break : VS K Wx wr tBreak sBreak := by
  intro B AF σ H ρ Fs o S e D p
  cases e
  exact p σ H Fs S (Fr.grow (.refl H))
theorem vs_cont : VS K Wx wr tCont sCont := by
  intro B AF σ H ρ Fs o S e D p
  cases e
  exact p σ H Fs S (Fr.grow (.refl H))
theorem Post.mono {B : Hp} {AF : List Addr} {σ : L2.St} {H : Hp} {ρ : Env} {Fs : Nat → List Addr} {D : Ends} {o : Out} (p : Post K Wx B AF wr' σ H ρ Fs D o) (s : ∀ i ∈ wr, i ∈ wr') : Post K Wx B AF wr σ H ρ Fs D o := by
  cases o with
  | nx ρ' => exact fun σ' H' Fs' S F => p σ' H' Fs' S (F.mono s)
  | bk ρ' => exact fun σ' H' Fs' S F => p σ' H' Fs' S (F.mono s)
  | ct ρ' => exact fun σ' H' Fs' S F => p σ' H' Fs' S (F.mono s)
  | rt d r => exact p
  | ex c fs => exact p
theorem VS.mono (h : VS K Wx wr t f) (s : ∀ i ∈ wr, i ∈ wr') : VS K Wx wr' t f := fun B AF σ H ρ Fs o S e D p => h B AF σ H ρ Fs o S e D (p.mono s)
theorem Post.pre {wq : List Nat} {B : Hp} {AF : List Addr} {σ σ1 : L2.St} {H H1 : Hp} {ρ ρ1 : Env} {Fs Fs1 : Nat → List Addr} {D : Ends} {o : Out} (p : Post K Wx B AF wq σ H ρ Fs D o) (F : Fr wr σ H ρ Fs σ1 H1 ρ1 Fs1) (s : ∀ i ∈ wr ++ wr', i ∈ wq) : Post K Wx B AF wr' σ1 H1 ρ1 Fs1 D o := by
  cases o with
  | nx ρ' => exact fun σ' H' Fs' S G => p σ' H' Fs' S ((F.trans G).mono s)
  | bk ρ' => exact fun σ' H' Fs' S G => p σ' H' Fs' S ((F.trans G).mono s)
  | ct ρ' => exact fun σ' H' Fs' S G => p σ' H' Fs' S ((F.trans G).mono s)
  | rt d r => exact p
  | ex c fs => exact p
theorem vs_seq (h1 : VS K Wx wr t f) (h2 : VS K Wx wr' u g) : VS K Wx (wr ++ wr') (tSeq t u) (sSeq f g) := by
  intro B AF σ H ρ Fs o S e D p
  obtain ⟨o1, e1, e2⟩ := Option.bind_eq_some_iff.mp e
  refine h1 B AF σ H ρ Fs o1 S e1 _ ?_
  cases o1 with
  | nx ρ1 => exact fun σ1 H1 Fs1 S1 F1 => h2 B AF σ1 H1 ρ1 Fs1 o S1 e2 D (p.pre F1 fun _ h => h)
  | bk ρ1 => cases e2; exact fun σ1 H1 Fs1 S1 F1 => p σ1 H1 Fs1 S1 (F1.mono fun i hi => List.mem_append_left _ hi)
  | ct ρ1 => cases e2; exact fun σ1 H1 Fs1 S1 F1 => p σ1 H1 Fs1 S1 (F1.mono fun i hi => List.mem_append_left _ hi)
  | rt d r => cases e2; exact p
  | ex c fs => cases e2; exact p
theorem vs_if (hc : VT K tc fc) (h1 : VS K Wx wr t f) (h2 : VS K Wx wr' u g) : VS K Wx (wr ++ wr') (tIfS tc t u) (sIf fc f g) := by
  intro B AF σ H ρ Fs o S e D p
  obtain ⟨b, e1, e2⟩ := Option.bind_eq_some_iff.mp e
  refine hc B AF σ H ρ Fs b S e1 _ fun H1 g1 => ?_
  cases b with
  | true => exact h1 B AF σ H1 ρ Fs o (S.grow g1) e2 D (p.pre (Fr.grow (wr := []) g1) fun i hi => List.mem_append_left _ hi)
  | false => exact h2 B AF σ H1 ρ Fs o (S.grow g1) e2 D (p.pre (Fr.grow (wr := []) g1) fun i hi => List.mem_append_right _ hi)
theorem vs_drop (h : VE K te fe) : VS K Wx wr (tDrop te) (sDrop fe) := by
  intro B AF σ H ρ Fs o S e D p
  obtain ⟨⟨d, k⟩, e1, e2⟩ := Option.map_eq_some_iff.mp e
  subst e2
  exact h B AF σ H ρ Fs d k S e1 _ fun v H1 F g1 r1 o1 => p σ H1 Fs (S.grow g1) (Fr.grow g1)
theorem rok_of {B : Hp} {AF : List Addr} {σ : L2.St} {H : Hp} {ρ : Env} {Fs : Nat → List Addr} {v : V} {F : List Addr} {k : Kd} (S : SR K B AF σ H ρ Fs) (o : KV ρ Fs H v F k) : ROk (rk k) B AF v F := by
  refine ⟨fun a ha => ?_, fun z => ?_, fun z => ?_⟩
  · rcases o.1.any a ha with y | ⟨i, _, ⟨d, m, y⟩, ma⟩
    · exact .inl (S.same.back y)
    · obtain ⟨_, _, _, h3, _⟩ := S.val i d m y
      exact h3 a ma
  · cases k with
    | sp L => cases z
    | bo L => cases z
    | mv L =>
      refine ⟨o.1.1, fun a ha => ?_⟩
      rcases o.1.2 a ha with y | ⟨i, _, ⟨d, y⟩, ma⟩
      · exact S.same.back y
      · obtain ⟨_, _, _, _, h3⟩ := S.val i d 2 y
        exact h3.1 a ma
  · cases k with
    | mv L => cases z
    | bo L => cases z
    | sp L =>
      obtain ⟨p, G, h1, h2, h3, h4⟩ := o.2 L rfl
      exact ⟨p, G, h1, h2, h3, S.same.back h4⟩
theorem vs_ret (h : VE K te fe) : VS K Wx wr (tRet te) (sRet fe) := by
  intro B AF σ H ρ Fs o S e D p
  obtain ⟨⟨d, k⟩, e1, e2⟩ := Option.map_eq_some_iff.mp e
  subst e2
  exact h B AF σ H ρ Fs d k S e1 _ fun v H1 F g1 r1 o1 => p v H1 F (S.same.trans g1) r1 (rok_of S o1)
theorem vs_retN : VS K Wx wr tRetN sRetN := by
  intro B AF σ H ρ Fs o S e D p
  cases e
  exact p .non H [] S.same .non ⟨fun a h => (nomatch h), fun _ => ⟨List.nodup_nil, fun a h => (nomatch h)⟩, fun z => nomatch z⟩
end

/-! ### slots given away -/
def kil (L : List Nat) (ρ : Env) : Env := wipeE ρ L
@[simp] def demS : Sl → Sl
  | some (d, _) => some (d, 0)
  | none => none
def dem (L : List Nat) (ρ : Env) : Env := match L with
  | [] => ρ
  | i :: L => (dem L ρ).modify i demS
theorem wipeE_len {ρ : Env} : ∀ vs : List Nat, (wipeE ρ vs).length = ρ.length
  | [] => rfl
  | v :: vs => by
    show ((wipeE ρ vs).set v none).length = _
    rw [List.length_set]
    exact wipeE_len vs
theorem dem_len {ρ : Env} : ∀ L : List Nat, (dem L ρ).length = ρ.length
  | [] => rfl
  | i :: L => by
    show ((dem L ρ).modify i demS).length = _
    rw [List.length_modify]
    exact dem_len L
theorem wipeE_not {ρ : Env} {i : Nat} {s : PyData × Nat} : ∀ {vs : List Nat}, (wipeE ρ vs)[i]? = some (some s) → i ∉ vs
  | [], _ => fun h => nomatch h
  | v :: vs, h => by
    rcases set_some h with ⟨_, z⟩ | ⟨ne, z⟩
    · cases z
    · intro hm
      rcases List.mem_cons.mp hm with rfl | hm
      · exact ne rfl
      · exact wipeE_not z hm
theorem dem_get {ρ : Env} {i : Nat} {d : PyData} {m : Nat} : ∀ {L : List Nat}, (dem L ρ)[i]? = some (some (d, m)) → ∃ m0, ρ[i]? = some (some (d, m0)) ∧ (m = m0 ∨ m = 0) ∧ (i ∈ L → m = 0)
  | [], h => ⟨m, h, .inl rfl, fun z => nomatch z⟩
  | j :: L, h => by
    have h' : ((dem L ρ).modify j demS)[i]? = some (some (d, m)) := h
    rw [List.getElem?_modify] at h'
    obtain ⟨s, e1, e2⟩ := Option.map_eq_some_iff.mp h'
    by_cases e : j = i
    · rw [if_pos e] at e2
      cases s with
      | none => cases e2
      | some p =>
        obtain ⟨d', n⟩ := p
        cases e2
        obtain ⟨m0, h1, _, _⟩ := dem_get (L := L) e1
        exact ⟨m0, h1, .inr rfl, fun _ => rfl⟩
    · rw [if_neg e] at e2
      have e3 : s = some (d, m) := e2
      subst e3
      obtain ⟨m0, h1, h2, h3⟩ := dem_get (L := L) e1
      exact ⟨m0, h1, h2, fun z => h3 ((List.mem_cons.mp z).resolve_left fun q => e q.symm)⟩
end Va

/-! Va7: stores. -/
namespace Va
open PySem L2

/-- a value of the kind k is given to a slot (or into a list): what the other slots have from then on, and its mode -/
def giv (kl : List Nat) (k : Kd) (ρ : Env) : Env × Nat := match k with
  | .mv L => if L.all kl.contains = true then (kil L ρ, 2) else (dem L ρ, 0)
  | .sp L => (dem L ρ, 1)
  | .bo L => (dem L ρ, 0)
structure GivOk (B : Hp) (AF : List Addr) (H : Hp) (ρ : Env) (Fs : Nat → List Addr) (v : V) (F : List Addr) (kl : List Nat) (ρ1 : Env) (m : Nat) : Prop where
  len : ρ1.length = ρ.length
  less : ∀ (i : Nat) (d : PyData) (n : Nat), ρ1[i]? = some (some (d, n)) → ∃ n0, ρ[i]? = some (some (d, n0)) ∧ (n = n0 ∨ n = 0)
  a : ∀ (j : Nat) (e : PyData) (n : Nat), ρ1[j]? = some (some (e, n)) → ∀ a ∈ Mf n (Fs j), a ∉ F
  b : ∀ (j : Nat) (e : PyData) (n : Nat), ρ1[j]? = some (some (e, n)) → ∀ a ∈ Mf m F, a ∉ Fs j
  c : Own B v m F
  d : ∀ a ∈ F, B a = none ∨ a ∈ AF
  e : ∀ a ∈ Mf m F, H a = none ∨ ∃ i ∈ kl, ∃ (d : PyData) (n : Nat), ρ[i]? = some (some (d, n)) ∧ a ∈ Mf n (Fs i)
section
variable {K : PySem.W.Frag} {Wx : WxT} {B : Hp} {AF : List Addr} {σ : L2.St} {H H' : Hp} {ρ : Env} {Fs : Nat → List Addr} {v : V} {F : List Addr} {k : Kd} {kl wr : List Nat}
theorem giv_ok (S : SR K B AF σ H ρ Fs) (o : KV ρ Fs H v F k) : GivOk B AF H ρ Fs v F kl (giv kl k ρ).1 (giv kl k ρ).2 := by
  have hd : ∀ a ∈ F, B a = none ∨ a ∈ AF := (rok_of S o).1
  have noo : ∀ {a : Addr}, H a = none → ∀ (j : Nat) (e : PyData) (n : Nat), ρ[j]? = some (some (e, n)) → a ∉ Fs j := fun z j e n q m => S.there q m z
  -- lenders have nothing of their own left
  have dm : ∀ L, (∀ i ∈ k.src, i ∈ L) → ∀ (j : Nat) (e : PyData) (n : Nat), (dem L ρ)[j]? = some (some (e, n)) → ∀ a ∈ Mf n (Fs j), a ∉ F := fun L hL j e n q a ha hF => by
    obtain ⟨n0, q0, q1, q2⟩ := dem_get q
    rcases o.1.any a hF with z | ⟨l, hl, ⟨d', m', z⟩, ma⟩
    · exact noo z j e n0 q0 (Mf_sub ha)
    · by_cases e' : j = l
      · subst e'
        rw [q2 (hL j hl), Mf0] at ha; cases ha
      · exact S.dis j l e n0 d' m' q0 z e' a (Mf_le q1 ha) ma
  have z0 : GivOk B AF H ρ Fs v F kl (dem k.src ρ) 0 := ⟨dem_len _, fun i d n q => let ⟨n0, q0, q1, _⟩ := dem_get q; ⟨n0, q0, q1⟩, dm k.src fun i hi => hi, fun j e n q a ha => (by rw [Mf0] at ha; cases ha), .zero, hd, fun a ha => (by rw [Mf0] at ha; cases ha)⟩
  cases k with
  | bo L => exact z0
  | sp L =>
    obtain ⟨p, G, h1, h2, h3, h4⟩ := o.2 L rfl
    have e1 : Mf 1 F = [p] := by rw [h2]; rfl
    refine ⟨z0.len, z0.less, z0.a, fun j e n q a ha => ?_, ⟨fun a ha => ?_, fun _ => ⟨p, G, h1, h2, h3⟩, fun z => nomatch z⟩, hd, fun a ha => ?_⟩
    · have ha' : a ∈ Mf 1 F := ha
      rw [e1] at ha'
      obtain rfl := List.mem_singleton.mp ha'
      obtain ⟨n0, q0, _⟩ := dem_get q
      exact noo h4 j e n0 q0
    · have ha' : a ∈ Mf 1 F := ha
      rw [e1] at ha'
      obtain rfl := List.mem_singleton.mp ha'
      exact S.same.back h4
    · have ha' : a ∈ Mf 1 F := ha
      rw [e1] at ha'
      obtain rfl := List.mem_singleton.mp ha'
      exact .inl h4
  | mv L =>
    show GivOk B AF H ρ Fs v F kl (if L.all kl.contains = true then (kil L ρ, 2) else (dem L ρ, 0)).1 (if L.all kl.contains = true then (kil L ρ, 2) else (dem L ρ, 0)).2
    by_cases hk : L.all kl.contains = true
    · rw [if_pos hk]
      have o1 := o.1
      refine ⟨wipeE_len _, fun i d n q => ⟨n, wipeE_get q, .inl rfl⟩, fun j e n q a ha hF => ?_, fun j e n q a ha hj => ?_, ⟨fun a ha => ?_, fun z => (nomatch z), fun _ => o1.1⟩, hd, fun a ha => ?_⟩
      · have q0 := wipeE_get q
        rcases o1.2 a hF with z | ⟨l, hl, ⟨d', z⟩, ma⟩
        · exact noo z j e n q0 (Mf_sub ha)
        · have ne : j ≠ l := fun y => wipeE_not q (y ▸ hl)
          exact S.dis j l e n d' 2 q0 z ne a ha ma
      · have q0 := wipeE_get q
        rcases o1.2 a ha with z | ⟨l, hl, ⟨d', z⟩, ma⟩
        · exact noo z j e n q0 hj
        · have ne : l ≠ j := fun y => wipeE_not q (y ▸ hl)
          exact S.dis l j d' 2 e n z q0 ne a ma hj
      · rcases o1.2 a ha with z | ⟨l, hl, ⟨d', z⟩, ma⟩
        · exact S.same.back z
        · obtain ⟨_, _, _, _, h⟩ := S.val l d' 2 z
          exact h.1 a ma
      · rcases o1.2 a ha with z | ⟨l, hl, ⟨d', z⟩, ma⟩
        · exact .inl z
        · exact .inr ⟨l, List.contains_iff_mem.mp (List.all_eq_true.mp hk l hl), d', 2, z, ma⟩
    · rw [if_neg hk]
      exact z0

/-- name = value -/
def sSet (kl : List Nat) (i : Nat) (f : EF) : SF := fun ρ => (f ρ).bind fun p => if i < ρ.length then some (.nx ((giv kl p.2 ρ).1.set i (some (p.1, (giv kl p.2 ρ).2)))) else none
theorem vs_set (kl : List Nat) (i : Nat) {te : TE} {f : EF} (h : VE K te f) : VS K Wx (i :: kl) (tAsg te (gName i)) (sSet kl i f) := by
  intro B AF σ H ρ Fs o S e D p
  obtain ⟨⟨d, k⟩, e1, e2⟩ := Option.bind_eq_some_iff.mp e
  split at e2
  case isFalse => cases e2
  rename_i hi
  cases e2
  refine h B AF σ H ρ Fs d k S e1 _ fun v H1 F g1 r1 o1 => ?_
  have G := giv_ok (kl := kl) S o1
  have S1 : SR K B AF σ H1 (giv kl k ρ).1 Fs := (S.grow g1).less G.len G.less
  refine p _ H1 (upF Fs i F) (S1.set (by rw [G.len]; exact hi) r1 G.d G.c fun j e n ne q => ⟨G.a j e n q, G.b j e n q⟩) ?_
  refine ⟨fun a z => g1.back z, fun a o z _ => g1 a o z, fun j hj d' m' q a ha => ?_, fun j hj => ?_⟩
  · rcases set_some q with ⟨rfl, z⟩ | ⟨ne, z⟩
    · cases z
      rw [upF_same] at ha
      exact (G.e a ha).imp id fun ⟨l, hl, y⟩ => ⟨l, List.mem_cons_of_mem _ hl, y⟩
    · rw [upF_ne ne] at ha
      obtain ⟨n0, q0, q1⟩ := G.less j d' m' z
      exact .inr ⟨j, hj, d', n0, q0, Mf_le q1 ha⟩
  · have ne : j ≠ i := fun z => hj (by rw [z]; exact List.mem_cons_self ..)
    refine ⟨List.getElem?_set_ne (Ne.symm ne), fun d' m' q => ?_⟩
    rcases set_some q with ⟨z, _⟩ | ⟨_, z⟩
    · exact absurd z ne
    · obtain ⟨n0, q0, q1⟩ := G.less j d' m' z
      exact ⟨n0, q0, upF_ne ne, fun a ha => Mf_le q1 ha⟩

/-- the list (or dict) that the slot i alone has at p becomes o -/
theorem SR.write {ρ1 : Env} {G : List Addr} {i : Nat} {d d' : PyData} {m m' : Nat} {p : Addr} {F0 : List Addr} {o : HO} (S : SR K B AF σ H ρ1 Fs) (hi : ρ1[i]? = some (some (d, m))) (hp : Fs i = p :: F0) (hm : p ∈ Mf m (Fs i)) (hσ : σ[i]? = some (some (.ref p)))
    (r : Rp K (upd H p o) (.ref p) d' (p :: G)) (hd : ∀ a ∈ G, B a = none ∨ a ∈ AF) (hw : Own B (.ref p) m' (p :: G))
    (ha : ∀ (j : Nat) (e : PyData) (n : Nat), j ≠ i → ρ1[j]? = some (some (e, n)) → (∀ a ∈ Mf n (Fs j), a ∉ G) ∧ ∀ a ∈ Mf m' (p :: G), a ≠ p → a ∉ Fs j) :
    SR K B AF σ (upd H p o) (ρ1.set i (some (d', m'))) (upF Fs i (p :: G)) := by
  obtain ⟨v, h1, h2, h3, h4⟩ := S.val i d m hi
  have mb : Mb (H p) = true := h2.mb p (by rw [hp]; exact List.mem_cons_self ..)
  have Bp : B p = none := h4.1 p hm
  have pj : ∀ (j : Nat) (e : PyData) (n : Nat), j ≠ i → ρ1[j]? = some (some (e, n)) → p ∉ Fs j := fun j e n ne q => S.dis i j d m e n hi q (Ne.symm ne) p hm
  have li : i < ρ1.length := (List.getElem?_eq_some_iff.mp hi).1
  refine ⟨by rw [List.length_set]; exact S.len, fun a u e => ?_, fun j e n q => ?_, fun j j' e n e' n' q q' ne a hh => ?_⟩
  · have : a ≠ p := fun z => by rw [z, Bp] at e; cases e
    rw [upd_ne this]
    exact S.same a u e
  · rcases set_some q with ⟨rfl, z⟩ | ⟨ne, z⟩
    · cases z
      rw [upF_same]
      refine ⟨.ref p, hσ, r, fun a ha => ?_, hw⟩
      rcases List.mem_cons.mp ha with rfl | ha
      · exact .inl Bp
      · exact hd a ha
    · obtain ⟨u, u1, u2, u3, u4⟩ := S.val j e n z
      rw [upF_ne ne]
      exact ⟨u, u1, u2.kp (.upd mb (pj j e n ne z)), u3, u4⟩
  · rcases set_some q with ⟨rfl, z⟩ | ⟨ne1, z⟩
    · cases z
      rcases set_some q' with ⟨rfl, z'⟩ | ⟨ne2, z'⟩
      · exact absurd rfl ne
      · rw [upF_same] at hh
        rw [upF_ne ne2]
        by_cases e : a = p
        · subst e
          exact pj j' e' n' ne2 z'
        · exact (ha j' e' n' ne2 z').2 a hh e
    · rw [upF_ne ne1] at hh
      rcases set_some q' with ⟨rfl, z'⟩ | ⟨ne2, z'⟩
      · rw [upF_same]
        intro hm
        rcases List.mem_cons.mp hm with rfl | hm
        · exact pj j e n ne1 z (Mf_sub hh)
        · exact (ha j e n ne1 z).1 a hh hm
      · rw [upF_ne ne2]
        exact S.dis j j' e n e' n' z z' ne a hh

/-! ### a list of the slot's own is changed -/
def mutM (m mg : Nat) : Nat := if m = 2 ∧ mg = 2 then 2 else 1
/-- slot i: (d, m) → (d', ..), the value of the kind k put into it -/
def mutE (kl : List Nat) (i : Nat) (k : Kd) (m : Nat) (d' : PyData) (ρ : Env) : Env := (giv kl k ρ).1.set i (some (d', mutM m (giv kl k ρ).2))
theorem giv_keep {i : Nat} {s : PyData × Nat} (h : ρ[i]? = some (some s)) (hn : i ∉ k.src) : (giv kl k ρ).1[i]? = some (some s) := by
  have c : ∀ L : List Nat, i ∉ L → (dem L ρ)[i]? = some (some s) := by
    intro L
    induction L with
    | nil => intro _; exact h
    | cons j L ih =>
      intro hn
      show ((dem L ρ).modify j demS)[i]? = _
      rw [List.getElem?_modify, ih fun z => hn (List.mem_cons_of_mem _ z)]
      have : j ≠ i := fun z => hn (by rw [z]; exact List.mem_cons_self ..)
      simp [this]
  have c2 : ∀ L : List Nat, i ∉ L → (kil L ρ)[i]? = some (some s) := by
    intro L
    induction L with
    | nil => intro _; exact h
    | cons j L ih =>
      intro hn
      show ((wipeE ρ L).set j none)[i]? = _
      have : j ≠ i := fun z => hn (by rw [z]; exact List.mem_cons_self ..)
      rw [List.getElem?_set_ne this]
      exact ih fun z => hn (List.mem_cons_of_mem _ z)
  cases k with
  | bo L => exact c L hn
  | sp L => exact c L hn
  | mv L =>
    show (if L.all kl.contains = true then (kil L ρ, 2) else (dem L ρ, 0)).1[i]? = _
    split
    · exact c2 L hn
    · exact c L hn
theorem mut_ok {H1 : Hp} {i m : Nat} {d d' : PyData} {p : Addr} {F0 G : List Addr} {o : HO} (S : SR K B AF σ H ρ Fs) (g1 : Grow H H1) (ok : KV ρ Fs H v F k) (hi : ρ[i]? = some (some (d, m))) (hm : m = 1 ∨ m = 2) (hn : i ∉ k.src)
    (hp : Fs i = p :: F0) (hσ : σ[i]? = some (some (.ref p))) (r : Rp K (upd H1 p o) (.ref p) d' (p :: G)) (hG : ∀ a ∈ G, a ∈ F0 ∨ a ∈ F) (hN : (F0 ++ F).Nodup → G.Nodup) :
    SR K B AF σ (upd H1 p o) (mutE kl i k m d' ρ) (upF Fs i (p :: G)) ∧ Fr (i :: kl) σ H ρ Fs σ (upd H1 p o) (mutE kl i k m d' ρ) (upF Fs i (p :: G)) := by
  have GO := giv_ok (kl := kl) S ok
  have hi1 := giv_keep (kl := kl) hi hn
  have S1 : SR K B AF σ H1 (giv kl k ρ).1 Fs := (S.grow g1).less GO.len GO.less
  have pm : p ∈ Mf m (Fs i) := by
    rw [hp]
    rcases hm with rfl | rfl
    · exact List.mem_cons_self ..
    · exact List.mem_cons_self ..
  obtain ⟨u, u1, u2, u3, u4⟩ := S.val i d m hi
  have pF0 : p ∉ F0 := by
    rcases hm with rfl | rfl
    · obtain ⟨q, G', _, h2, h3⟩ := u4.2.1 rfl
      rw [hp] at h2
      cases h2
      exact h3
    · have h := u4.2.2 rfl
      rw [hp] at h
      exact (List.nodup_cons.mp h).1
  have pF : p ∉ F := GO.a i d m hi1 p pm
  have pG : p ∉ G := fun z => (hG p z).elim pF0 pF
  have mM : mutM m (giv kl k ρ).2 = 1 ∨ (mutM m (giv kl k ρ).2 = 2 ∧ m = 2 ∧ (giv kl k ρ).2 = 2) := by
    unfold mutM
    split
    · rename_i h
      exact .inr ⟨rfl, h⟩
    · exact .inl rfl
  have F0d : m = 2 → ∀ a ∈ F0, a ∈ Mf 2 (Fs i) := fun _ a ha => by
    show a ∈ Fs i
    rw [hp]
    exact List.mem_cons_of_mem _ ha
  have F0s : ∀ a ∈ F0, a ∈ Fs i := fun a ha => by
    rw [hp]
    exact List.mem_cons_of_mem _ ha
  constructor
  · refine S1.write hi1 hp pm hσ r (fun a ha => ?_) ?_ fun j e n ne q => ⟨fun a ha z => ?_, fun a ha ne' z => ?_⟩
    · rcases hG a ha with ha | ha
      · exact u3 a (F0s a ha)
      · exact GO.d a ha
    · rcases mM with e | ⟨e, rfl, e2⟩
      · rw [e]
        refine ⟨fun a ha => ?_, fun _ => ⟨p, G, rfl, rfl, pG⟩, fun z => nomatch z⟩
        have ha' : a ∈ [p] := ha
        obtain rfl := List.mem_singleton.mp ha'
        exact u4.1 a pm
      · rw [e]
        have nd := u4.2.2 rfl
        rw [hp] at nd
        have GF := GO.c
        rw [e2] at GF
        refine ⟨fun a ha => ?_, fun z => (nomatch z), fun _ => List.nodup_cons.mpr ⟨pG, hN (List.nodup_append.mpr ⟨(List.nodup_cons.mp nd).2, GF.2.2 rfl, fun a ha b hb z => ?_⟩)⟩⟩
        · rcases List.mem_cons.mp (show a ∈ p :: G from ha) with rfl | ha
          · exact u4.1 a pm
          · rcases hG a ha with ha | ha
            · exact u4.1 a (F0d rfl a ha)
            · exact GF.1 a ha
        · subst z
          exact GO.a i d 2 hi1 a (F0d rfl a ha) hb
    · rcases hG a z with z | z
      · exact S1.dis j i e n d m q hi1 ne a ha (F0s a z)
      · exact GO.a j e n q a ha z
    · rcases mM with e' | ⟨e', rfl, e2⟩
      · rw [e'] at ha
        have ha' : a ∈ [p] := ha
        exact ne' (List.mem_singleton.mp ha')
      · rw [e'] at ha
        rcases List.mem_cons.mp (show a ∈ p :: G from ha) with y | y
        · exact ne' y
        · rcases hG a y with y | y
          · exact S1.dis i j d 2 e n hi1 q (Ne.symm ne) a (F0d rfl a y) z
          · exact GO.b j e n q a (by rw [e2]; exact y) z
  · refine ⟨fun a z => ?_, fun a u e kk => ?_, fun j hj e n q a ha => ?_, fun j hj => ?_⟩
    · by_cases e : a = p
      · subst e
        rw [upd_same] at z
        cases z
      · rw [upd_ne e] at z
        exact g1.back z
    · have : a ≠ p := fun z => kk i (List.mem_cons_self ..) d m hi (z ▸ pm)
      rw [upd_ne this]
      exact g1 a u e
    · rcases set_some q with ⟨rfl, z⟩ | ⟨ne, z⟩
      · cases z
        rw [upF_same] at ha
        rcases mM with e' | ⟨e', rfl, e2⟩
        · rw [e'] at ha
          have ha' : a ∈ [p] := ha
          obtain rfl := List.mem_singleton.mp ha'
          exact .inr ⟨j, hj, d, m, hi, pm⟩
        · rw [e'] at ha
          rcases List.mem_cons.mp (show a ∈ p :: G from ha) with rfl | y
          · exact .inr ⟨j, hj, d, 2, hi, pm⟩
          · rcases hG a y with y | y
            · exact .inr ⟨j, hj, d, 2, hi, F0d rfl a y⟩
            · exact (GO.e a (by rw [e2]; exact y)).imp id fun ⟨l, hl, w⟩ => ⟨l, List.mem_cons_of_mem _ hl, w⟩
      · rw [upF_ne ne] at ha
        obtain ⟨n0, q0, q1⟩ := GO.less j e n z
        exact .inr ⟨j, hj, e, n0, q0, Mf_le q1 ha⟩
    · have ne : j ≠ i := fun z => hj (by rw [z]; exact List.mem_cons_self ..)
      refine ⟨rfl, fun e n q => ?_⟩
      rcases set_some q with ⟨z, _⟩ | ⟨_, z⟩
      · exact absurd z ne
      · obtain ⟨n0, q0, q1⟩ := GO.less j e n z
        exact ⟨n0, q0, upF_ne ne, fun a ha => Mf_le q1 ha⟩

/-- slot i, its data and mode, where it has a list of its own -/
def ownL (i : Nat) (k : Kd) (ρ : Env) : Option (List PyData × Nat) := match ρ[i]? with
  | some (some (.list xs, m)) => if (m = 1 ∨ m = 2) ∧ i ∉ k.src then some (xs, m) else none
  | _ => none
theorem ownL_ok {i m : Nat} {xs : List PyData} (S : SR K B AF σ H ρ Fs) (h : ownL i k ρ = some (xs, m)) :
    ρ[i]? = some (some (.list xs, m)) ∧ (m = 1 ∨ m = 2) ∧ i ∉ k.src ∧ ∃ p F0 vs, σ[i]? = some (some (.ref p)) ∧ Fs i = p :: F0 ∧ H p = some (.lst vs) ∧ RpL K H vs xs F0 := by
  unfold ownL at h
  split at h
  · rename_i ys n e
    split at h
    · rename_i hc
      cases h
      obtain ⟨v, h1, h2, _⟩ := S.val i _ _ e
      refine ⟨e, hc.1, hc.2, ?_⟩
      generalize hF : Fs i = F' at h2
      cases h2 with
      | lst ha r => exact ⟨_, _, _, h1, rfl, ha, r⟩
    · cases h
  · cases h
def sMutL (kl : List Nat) (i : Nat) (f : EF) (h : List PyData → PyData → Option (List PyData)) : SF := fun ρ => (f ρ).bind fun p => (ownL i p.2 ρ).bind fun q => (h q.1 p.1).map fun ds => .nx (mutE kl i p.2 q.2 (.list ds) ρ)
/-- xs.append(e) -/
def hApp (xs : List PyData) (d : PyData) : Option (List PyData) := if xs.length < 1000000 then some (xs ++ [d]) else none
theorem vs_append (kl : List Nat) (i : Nat) {te : TE} {f : EF} (h : VE K te f) : VS K Wx (i :: kl) (tDrop (tBM K "list" rAppend (tVar i) (tCons te tNil))) (sMutL kl i f hApp) := by
  intro B AF σ H ρ Fs o S e D p
  obtain ⟨⟨d, k⟩, e1, e2⟩ := Option.bind_eq_some_iff.mp e
  obtain ⟨⟨xs, m⟩, e3, e4⟩ := Option.bind_eq_some_iff.mp e2
  obtain ⟨ds, e5, e6⟩ := Option.map_eq_some_iff.mp e4
  subst e6
  unfold hApp at e5
  split at e5
  case isFalse => cases e5
  rename_i hz
  cases e5
  obtain ⟨hi, hm, hn, a, F0, vs, h1, h2, h3, h4⟩ := ownL_ok S e3
  refine ⟨_, h1, Or.inl ⟨rfl, _, Or.inl (Or.inl h3)⟩, ?_⟩
  refine h B AF σ H ρ Fs d k S e1 _ fun v H1 F g1 r1 o1 => ?_
  refine ⟨a, vs, v, rfl, rfl, g1 _ _ h3, lt_line (by rw [h4.length]; exact hz), ?_⟩
  have aF0 : a ∉ F0 ++ F := by
    intro z
    have GO := giv_ok (kl := kl) S o1
    have hi1 := giv_keep (kl := kl) hi hn
    obtain ⟨u, u1, u2, u3, u4⟩ := S.val i _ m hi
    rcases List.mem_append.mp z with z | z
    · rcases hm with rfl | rfl
      · obtain ⟨q, G', _, w2, w3⟩ := u4.2.1 rfl
        rw [h2] at w2
        cases w2
        exact w3 z
      · have w := u4.2.2 rfl
        rw [h2] at w
        exact (List.nodup_cons.mp w).1 z
    · refine GO.a i _ m hi1 a ?_ z
      rw [h2]
      rcases hm with rfl | rfl <;> exact List.mem_cons_self ..
  have mb : Mb (H1 a) = true := by rw [g1 _ _ h3]; rfl
  obtain ⟨x1, x2⟩ := mut_ok (kl := kl) (H1 := H1) (o := .lst (vs ++ [v])) (d' := .list (xs ++ [d])) (G := F0 ++ F) S g1 o1 hi hm hn h2 h1 (.lst upd_same (((h4.grow g1).snoc r1).kp (.upd mb aF0))) (fun b hb => List.mem_append.mp hb) fun z => z
  exact p _ _ _ x1 x2

/-- xs[j] = e -/
def sIdx (kl : List Nat) (i : Nat) (f g : EF) : SF := fun ρ => (f ρ).bind fun p => (g ρ).bind fun r => match r.1 with
  | .int j => (ownL i p.2 ρ).bind fun q => (ixN q.1.length j).map fun n => .nx (mutE kl i p.2 q.2 (.list (q.1.set n p.1)) ρ)
  | _ => none
theorem RpL.set {K : PySem.W.Frag} {H : Hp} : ∀ {vs : List V} {ds : List PyData} {F0 F : List Addr} {v : V} {d : PyData} (n : Nat), RpL K H vs ds F0 → Rp K H v d F → n < ds.length →
    ∃ A G B, F0 = A ++ (G ++ B) ∧ RpL K H (vs.set n v) (ds.set n d) (A ++ (F ++ B))
  | _, _, _, _, _, _, 0, .cons (F := F) (G := G) e r, h, _ => ⟨[], F, G, rfl, by rw [List.nil_append]; exact .cons h r⟩
  | _, _, _, _, _, _, n + 1, .cons (F := F) (G := G) e r, h, hn => by
    obtain ⟨A, G', B, h1, h2⟩ := RpL.set n r h (Nat.lt_of_succ_lt_succ hn)
    exact ⟨F ++ A, G', B, by rw [h1, List.append_assoc], by rw [List.append_assoc]; exact .cons e h2⟩
theorem own_notin {i m : Nat} {d : PyData} {a : Addr} {F0 : List Addr} (S : SR K B AF σ H ρ Fs) (o1 : KV ρ Fs H v F k) (hi : ρ[i]? = some (some (d, m))) (hm : m = 1 ∨ m = 2) (hn : i ∉ k.src) (h2 : Fs i = a :: F0) : a ∉ F0 ++ F := by
  intro z
  have GO := giv_ok (kl := []) S o1
  have hi1 := giv_keep (kl := []) hi hn
  obtain ⟨u, u1, u2, u3, u4⟩ := S.val i _ m hi
  rcases List.mem_append.mp z with z | z
  · rcases hm with rfl | rfl
    · obtain ⟨q, G', _, w2, w3⟩ := u4.2.1 rfl
      rw [h2] at w2
      cases w2
      exact w3 z
    · have w := u4.2.2 rfl
      rw [h2] at w
      exact (List.nodup_cons.mp w).1 z
  · refine GO.a i _ m hi1 a ?_ z
    rw [h2]
    rcases hm with rfl | rfl <;> exact List.mem_cons_self ..
theorem vs_idx (kl : List Nat) (i : Nat) {te ti : TE} {f g : EF} (h : VE K te f) (hg : VE K ti g) : VS K Wx (i :: kl) (tAsg te (gSub (tVar i) ti rSetL)) (sIdx kl i f g) := by
  intro B AF σ H ρ Fs o S e D p
  obtain ⟨⟨d, k⟩, e1, e2⟩ := Option.bind_eq_some_iff.mp e
  obtain ⟨⟨dj, kj⟩, e3, e4⟩ := Option.bind_eq_some_iff.mp e2
  simp only at e4
  split at e4
  case h_2 => cases e4
  rename_i j
  obtain ⟨⟨xs, m⟩, e5, e6⟩ := Option.bind_eq_some_iff.mp e4
  obtain ⟨n, e7, e8⟩ := Option.map_eq_some_iff.mp e6
  subst e8
  obtain ⟨hi, hm, hn, a, F0, vs, h1, h2, h3, h4⟩ := ownL_ok S e5
  refine h B AF σ H ρ Fs d k S e1 _ fun v H1 F g1 r1 o1 => ?_
  refine ⟨_, h1, hg B AF σ H1 ρ Fs (.int j) kj (S.grow g1) e3 _ fun w H2 F2 g2 r2 o2 => ?_⟩
  cases r2
  have g12 := g1.trans g2
  have lt : n < xs.length := by
    unfold ixN at e7
    simp only at e7
    split at e7
    · split at e7
      · cases e7; omega
      · cases e7
    · split at e7
      · cases e7; omega
      · cases e7
  refine ⟨a, vs, j, n, rfl, rfl, g12 _ _ h3, by rw [h4.length]; exact e7, ?_⟩
  have mb : Mb (H2 a) = true := by rw [g12 _ _ h3]; rfl
  have nin := own_notin S o1 hi hm hn h2
  obtain ⟨A, G, B', hF, hr⟩ := RpL.set n (h4.grow g12) (r1.grow g2) lt
  have aG : a ∉ A ++ (F ++ B') := fun z => nin (by
    rw [hF]
    simp only [List.mem_append] at z ⊢
    rcases z with z | z | z
    · exact .inl (.inl z)
    · exact .inr z
    · exact .inl (.inr (.inr z)))
  obtain ⟨x1, x2⟩ := mut_ok (kl := kl) (H1 := H2) (o := .lst (vs.set n v)) (d' := .list (xs.set n d)) (G := A ++ (F ++ B')) S g12 o1 hi hm hn h2 h1 (.lst upd_same (hr.kp (.upd mb aG))) (fun b hb => by
    rw [hF]
    simp only [List.mem_append] at hb ⊢
    rcases hb with z | z | z
    · exact .inl (.inl z)
    · exact .inr z
    · exact .inl (.inr (.inr z))) fun z => by
      rw [hF] at z
      have s : List.Sublist (A ++ B') (A ++ (G ++ B')) := List.Sublist.append (List.Sublist.refl A) (List.sublist_append_right G B')
      have z2 : ((A ++ B') ++ F).Nodup := z.sublist (s.append (List.Sublist.refl F))
      have pm : List.Perm ((A ++ B') ++ F) (A ++ (F ++ B')) := by
        rw [List.append_assoc]
        exact List.Perm.append_left A List.perm_append_comm
      exact pm.nodup_iff.mp z2
  exact p _ _ _ x1 x2
/-- xs.extend(e), e a new list -/
def sExt (kl : List Nat) (i : Nat) (f : EF) : SF := fun ρ => (f ρ).bind fun p => match p.1 with
  | .list ds => (ownL i p.2 ρ).bind fun q => if q.1.length + ds.length < 1000000 then some (.nx (mutE kl i p.2 q.2 (.list (q.1 ++ ds)) ρ)) else none
  | _ => none
theorem vs_extend (kl : List Nat) (i : Nat) {te : TE} {f : EF} (h : VE K te f) : VS K Wx (i :: kl) (tDrop (tBM K "list" rExtend (tVar i) (tCons te tNil))) (sExt kl i f) := by
  intro B AF σ H ρ Fs o S e D p
  obtain ⟨⟨d, k⟩, e1, e2⟩ := Option.bind_eq_some_iff.mp e
  simp only at e2
  split at e2
  case h_2 => cases e2
  rename_i ds
  obtain ⟨⟨xs, m⟩, e3, e4⟩ := Option.bind_eq_some_iff.mp e2
  split at e4
  case isFalse => cases e4
  rename_i hz
  cases e4
  obtain ⟨hi, hm, hn, a, F0, vs, h1, h2, h3, h4⟩ := ownL_ok S e3
  refine ⟨_, h1, Or.inl ⟨rfl, _, Or.inl (Or.inl h3)⟩, ?_⟩
  refine h B AF σ H ρ Fs _ k S e1 _ fun v H1 F g1 r1 o1 => ?_
  have nin := own_notin S o1 hi hm hn h2
  cases r1 with
  | lst hb rb =>
    rename_i b us F'
    refine ⟨a, b, vs, us, rfl, rfl, g1 _ _ h3, hb, by rw [h4.length, rb.length]; exact Nat.le_of_lt (lt_line hz), ?_⟩
    have aG : a ∉ F0 ++ F' := fun z => nin ((List.mem_append.mp z).elim (fun z => List.mem_append_left _ z) fun z => List.mem_append_right _ (List.mem_cons_of_mem _ z))
    have mb : Mb (H1 a) = true := by rw [g1 _ _ h3]; rfl
    obtain ⟨x1, x2⟩ := mut_ok (kl := kl) (H1 := H1) (o := .lst (vs ++ us)) (d' := .list (xs ++ ds)) (G := F0 ++ F') S g1 o1 hi hm hn h2 h1 (.lst upd_same ((RpL.app (h4.grow g1) rb).kp (.upd mb aG)))
      (fun c hc => (List.mem_append.mp hc).elim .inl fun z => .inr (List.mem_cons_of_mem _ z)) fun z => z.sublist ((List.Sublist.refl F0).append (List.sublist_cons_self ..))
    exact p _ _ _ x1 x2
/-- name op= e, of ints -/
def sAug (i : Nat) (f : EF) (h : Int → Int → Int) : SF := fun ρ => match ρ[i]? with
  | some (some (.int a, _)) => (f ρ).bind fun p => match p.1 with
    | .int b => some (.nx (ρ.set i (some (.int (h a b), 2))))
    | _ => none
  | _ => none
theorem vs_aug (i : Nat) {te : TE} {f : EF} {fn : Int → Int → Int} (h : VE K te f) : VS K Wx [i] (tAug i te (ipI fn)) (sAug i f fn) := by
  intro B AF σ H ρ Fs o S e D p
  unfold sAug at e
  split at e
  case h_2 => cases e
  rename_i x n e0
  obtain ⟨⟨d, k⟩, e1, e2⟩ := Option.bind_eq_some_iff.mp e
  simp only at e2
  split at e2
  case h_2 => cases e2
  rename_i b
  cases e2
  obtain ⟨u, h1, h2, _⟩ := S.val i _ n e0
  have hu : u = .int x := by
    generalize Fs i = F' at h2
    cases h2; rfl
  subst hu
  refine ⟨_, h1, h B AF σ H ρ Fs _ k S e1 _ fun v H1 F g1 r1 o1 => ?_⟩
  cases r1
  refine ⟨x, b, rfl, rfl, p _ _ (upF Fs i []) ((S.grow g1).set (List.getElem?_eq_some_iff.mp e0).1 (.int _) (fun a z => nomatch z) (own02 (K := K) (H := H1) (d := .int (fn x b)) (.int _)).1 fun j e n ne q => ⟨fun a _ z => (nomatch z), fun a z => (nomatch z)⟩) ?_⟩
  refine ⟨fun a z => g1.back z, fun a o z _ => g1 a o z, fun j hj d' m' q a ha => ?_, fun j hj => ?_⟩
  · obtain rfl := List.mem_singleton.mp hj
    rcases set_some q with ⟨_, z⟩ | ⟨ne, _⟩
    · cases z
      rw [upF_same] at ha
      exact nomatch ha
    · exact absurd rfl ne
  · have ne : j ≠ i := fun z => hj (List.mem_singleton.mpr z)
    refine ⟨List.getElem?_set_ne (Ne.symm ne), fun d' m' q => ?_⟩
    rcases set_some q with ⟨z, _⟩ | ⟨_, z⟩
    · exact absurd z ne
    · exact ⟨m', z, upF_ne ne, fun a ha => ha⟩
end
end Va

/-! Va8: loops. -/
namespace Va
open PySem L2

def loopF (st : SG) (fb : SF) (fg : List Nat) : List PyData → SF
  | [], ρ => some (.nx (kil fg ρ))
  | d :: ds, ρ => (st d (kil fg ρ)).bind fun ρ1 => (fb ρ1).bind fun o => match o with
    | .nx ρ2 => loopF st fb fg ds ρ2
    | .ct ρ2 => loopF st fb fg ds ρ2
    | .bk ρ2 => some (.nx (kil fg ρ2))
    | .rt d r => some (.rt d r)
    | .ex c fs => some (.ex c fs)
/-- for target in walked: body; fg: the slots that are told no more between the turns -/
def sFor (fi : IF) (ns : List Nat) (st : SG) (wb : List Nat) (fb : SF) (fg : List Nat) : SF := fun ρ => (fi ρ).bind fun p =>
  loopF st fb fg p.1 (if flatL p.1 = true ∧ apart p.2.src (ns ++ wb) = true then ρ else dem p.2.src ρ)

section
variable {K : PySem.W.Frag} {Wx : WxT} {wi : TI} {g : TG} {tb : TS} {fi : IF} {st : SG} {fb : SF} {ns wb fg : List Nat}
theorem kil_less {ρ : Env} {L : List Nat} : ∀ (i : Nat) (d : PyData) (m : Nat), (kil L ρ)[i]? = some (some (d, m)) → ∃ m0, ρ[i]? = some (some (d, m0)) ∧ (m = m0 ∨ m = 0) := fun i d m h => ⟨m, wipeE_get h, .inl rfl⟩
theorem SR.kil {B : Hp} {AF : List Addr} {σ : L2.St} {H : Hp} {ρ : Env} {Fs : Nat → List Addr} (S : SR K B AF σ H ρ Fs) (L : List Nat) : SR K B AF σ H (Va.kil L ρ) Fs := S.less (wipeE_len _) kil_less
/-- the slots ws alone may not write C -/
def Prot (ws : List Nat) (C : List Addr) (ρ : Env) (Fs : Nat → List Addr) : Prop := ∀ j ∈ ws, ∀ (d : PyData) (m : Nat), ρ[j]? = some (some (d, m)) → ∀ a ∈ Mf m (Fs j), a ∉ C
theorem Prot.less {ws : List Nat} {C : List Addr} {ρ ρ' : Env} {Fs : Nat → List Addr} (h : Prot ws C ρ Fs) (l : ∀ (i : Nat) (d : PyData) (m : Nat), ρ'[i]? = some (some (d, m)) → ∃ m0, ρ[i]? = some (some (d, m0)) ∧ (m = m0 ∨ m = 0)) : Prot ws C ρ' Fs := fun j hj d m q a ha => by
  obtain ⟨m0, q0, q1⟩ := l j d m q
  exact h j hj d m0 q0 a (Mf_le q1 ha)
theorem vs_for (hi : VI K wi fi) (hg : VG K ns g st) (hb : VS K Wx wb tb fb) : VS K Wx (ns ++ wb) (tFor wi g tb) (sFor fi ns st wb fb fg) := by
  intro B AF σ H ρ Fs o S e D p
  obtain ⟨⟨ds, kc⟩, e1, e2⟩ := Option.bind_eq_some_iff.mp e
  simp only at e2
  generalize hρ : (if flatL ds = true ∧ apart kc.src (ns ++ wb) = true then ρ else dem kc.src ρ) = ρ0 at e2
  let ws := ns ++ wb
  refine hi B AF σ H ρ Fs ds kc S e1 _ fun J H1 C g1 ok hC => ?_
  have less0 : ∀ (i : Nat) (d : PyData) (m : Nat), ρ0[i]? = some (some (d, m)) → ∃ m0, ρ[i]? = some (some (d, m0)) ∧ (m = m0 ∨ m = 0) := by
    intro i d m q
    rw [← hρ] at q
    split at q
    · exact ⟨m, q, .inl rfl⟩
    · obtain ⟨m0, q0, q1, _⟩ := dem_get q
      exact ⟨m0, q0, q1⟩
  have len0 : ρ0.length = ρ.length := by
    rw [← hρ]
    split
    · rfl
    · exact dem_len _
  have S0 : SR K B AF σ H1 ρ0 Fs := (S.grow g1).less len0 less0
  -- what may be written is not what is walked
  have cell : ∀ (j : Nat) (d : PyData) (m : Nat), ρ0[j]? = some (some (d, m)) → ∀ a ∈ Mf m (Fs j), a ∈ C → (flatL ds = true ∧ apart kc.src ws = true ∧ j ∈ kc.src) := by
    intro j d m q a ha hc
    obtain ⟨m0, q0, q1⟩ := less0 j d m q
    rcases hC a hc with z | ⟨l, hl, ⟨d', m', z⟩, ma⟩
    · exact absurd z (S.there q0 (Mf_sub ha))
    · by_cases e : j = l
      · subst e
        rw [← hρ] at q
        split at q
        · rename_i h
          exact ⟨h.1, h.2, hl⟩
        · obtain ⟨_, _, _, q2⟩ := dem_get q
          rw [q2 hl, Mf0] at ha
          cases ha
      · exact absurd ma (S.dis j l d m0 d' m' q0 z e a (Mf_le q1 ha))
  have prot0 : Prot ws C ρ0 Fs := fun j hj d m q a ha hc => by
    obtain ⟨_, h2, h3⟩ := cell j d m q a ha hc
    have := List.all_eq_true.mp h2 j h3
    rw [List.contains_iff_mem.mpr hj] at this
    cases this
  let W : Nat → L2.St → Hp → Prop := fun i σ' H' => ∃ ρi Fsi, SR K B AF σ' H' ρi Fsi ∧ loopF st fb fg (ds.drop i) ρi = some o ∧ Fr ws σ H1 ρ0 Fs σ' H' ρi Fsi ∧ Kp C H1 H' ∧ Prot ws C ρi Fsi
  have frm : ∀ {σ' H' ρi Fsi}, Fr ws σ H1 ρ0 Fs σ' H' ρi Fsi → Fr ws σ H ρ Fs σ' H' ρi Fsi := fun h => h.from_ g1 less0
  refine ⟨fun i m σ' H' => m = ds.length - i ∧ i ≤ ds.length ∧ W i σ' H', ⟨ds.length, by simp, Nat.zero_le _, ρ0, Fs, S0, e2, Fr.grow (.refl H1), fun a o h _ => h, prot0⟩, ?_⟩
  rintro i m σ1 H2 ⟨rfl, hil, ρi, Fsi, Si, el, Fi, kp, pr⟩
  by_cases hlt : i < ds.length
  · obtain ⟨dd, hdd⟩ : ∃ dd, ds[i]? = some dd := ⟨ds[i], List.getElem?_eq_getElem hlt⟩
    obtain ⟨go, yl⟩ := ok.go H2 kp i dd hdd
    have edrop : ds.drop i = dd :: ds.drop (i + 1) := by
      rw [List.drop_eq_getElem_cons hlt]
      rw [List.getElem?_eq_getElem hlt] at hdd
      rw [Option.some.inj hdd]
    rw [edrop] at el
    obtain ⟨ρ1, a1, el⟩ := Option.bind_eq_some_iff.mp el
    obtain ⟨ob, a2, el⟩ := Option.bind_eq_some_iff.mp el
    refine .inr ⟨go, W (i + 1), fun σ' H' w => ⟨ds.length - (i + 1), by omega, rfl, by omega, w⟩, fun x H3 hy => ?_⟩
    obtain ⟨g3, G, rx, hG⟩ := yl x H3 hy
    have Sk : SR K B AF σ1 H3 (kil fg ρi) Fsi := (Si.grow g3).kil fg
    have prk : Prot ws C (kil fg ρi) Fsi := pr.less kil_less
    have Fk : Fr ws σ H1 ρ0 Fs σ1 H3 (kil fg ρi) Fsi := ((Fi.trans (Fr.grow (wr := ws) g3)).trans (Fr.less (wr := ws) kil_less)).mono fun j hj => by simpa using hj
    have kp3 : Kp C H1 H3 := fun a o e q => g3 a o (kp a o e q)
    have hGB : ∀ a ∈ G, B a = none ∨ a ∈ AF := fun a ha => by
      rcases hC a (hG a ha) with z | ⟨l, _, ⟨d', m', z⟩, ma⟩
      · exact .inl (S.same.back z)
      · obtain ⟨_, _, _, h3, _⟩ := S.val l d' m' z
        exact h3 a ma
    have frG : Free (kil fg ρi) Fsi G := fun j d m q a ha hg => by
      by_cases hj : j ∈ ws
      · exact prk j hj d m q a ha (hG a hg)
      · obtain ⟨_, h2⟩ := Fk.oth j hj
        obtain ⟨m0, h3, h4, h5⟩ := h2 d m q
        rw [h4] at ha
        obtain ⟨hf, _, _⟩ := cell j d m0 h3 a (h5 a ha) (hG a hg)
        have hfd : flat dd = true := by
          have : ∀ (l : List PyData) (n : Nat), flatL l = true → l[n]? = some dd → flat dd = true := by
            intro l
            induction l with
            | nil => intro n _ h; simp at h
            | cons x xs ih =>
              intro n hx h
              simp only [flatL, Bool.and_eq_true] at hx
              cases n with
              | zero => cases h; exact hx.1
              | succ n => exact ih n hx.2 h
          exact this ds i hf hdd
        rw [rx.flat hfd] at hg
        cases hg
    refine hg B AF σ1 H3 (kil fg ρi) ρ1 Fsi x dd G Sk rx hGB frG a1 _ fun σ2 Fs2 S2 T2 => ?_
    have pr2 : Prot ws C ρ1 Fs2 := fun j hj d m q a ha hc => by
      by_cases hn : j ∈ ns
      · rw [(T2.ins j hn d m q).1] at ha; cases ha
      · obtain ⟨_, h2, h3⟩ := T2.out j hn
        rw [h2] at q
        rw [h3] at ha
        exact prk j hj d m q a ha hc
    have FT : Fr ns σ1 H3 (kil fg ρi) Fsi σ2 H3 ρ1 Fs2 := by
      refine ⟨fun a h => h, fun a o h _ => h, fun j hj d m q a ha => ?_, fun j hj => ?_⟩
      · rw [(T2.ins j hj d m q).1] at ha
        cases ha
      · obtain ⟨h1, h2, h3⟩ := T2.out j hj
        exact ⟨h1, fun d m q => ⟨m, by rw [← h2]; exact q, h3, fun a ha => ha⟩⟩
    have F2 : Fr ws σ H1 ρ0 Fs σ2 H3 ρ1 Fs2 := (Fk.trans FT).mono fun j hj => by
      rcases List.mem_append.mp hj with h | h
      · exact h
      · exact List.mem_append_left _ h
    have fin : ∀ {σ' H' ρ' Fs'}, Fr wb σ2 H3 ρ1 Fs2 σ' H' ρ' Fs' → Fr ws σ H1 ρ0 Fs σ' H' ρ' Fs' := fun h => (F2.trans h).mono fun j hj => by
      rcases List.mem_append.mp hj with h | h
      · exact h
      · exact List.mem_append_right _ h
    have kpf : ∀ {σ' H' ρ' Fs'}, Fr wb σ2 H3 ρ1 Fs2 σ' H' ρ' Fs' → Kp C H1 H' := fun {σ' H' ρ' Fs'} h a o e q => by
      have e3 := kp3 a o e q
      refine h.keep a o e3 fun j hj d m qq ha => ?_
      rcases q with q | q
      · obtain ⟨_, _, r, _⟩ := S2.val j d m qq
        have := r.mb a (Mf_sub ha)
        rw [e3, q] at this
        cases this
      · exact pr2 j (List.mem_append_right _ hj) d m qq a ha q
    have prf : ∀ {σ' H' ρ' Fs'}, Fr wb σ2 H3 ρ1 Fs2 σ' H' ρ' Fs' → Prot ws C ρ' Fs' := fun {σ' H' ρ' Fs'} h j hj d m q a ha hc => by
      have hm : H3 a ≠ none := fun z => by
        have := ok.mb a hc
        cases y : H1 a with
        | none => rw [y] at this; cases this
        | some u =>
          rw [kp3 a u y (.inr hc)] at z
          cases z
      by_cases hw : j ∈ wb
      · rcases h.own j hw d m q a ha with z | ⟨l, hl, d', m', z, ma⟩
        · exact hm z
        · exact pr2 l (List.mem_append_right _ hl) d' m' z a ma hc
      · obtain ⟨_, h2⟩ := h.oth j hw
        obtain ⟨m0, h3, h4, h5⟩ := h2 d m q
        rw [h4] at ha
        exact pr2 j hj d m0 h3 a (h5 a ha) hc
    refine hb B AF σ2 H3 ρ1 Fs2 ob S2 a2 _ ?_
    cases ob with
    | nx ρ2 => exact fun σ' H' Fs' S' F' => ⟨ρ2, Fs', S', el, fin F', kpf F', prf F'⟩
    | ct ρ2 => exact fun σ' H' Fs' S' F' => ⟨ρ2, Fs', S', el, fin F', kpf F', prf F'⟩
    | bk ρ2 =>
      cases el
      exact fun σ' H' Fs' S' F' => p σ' H' Fs' (S'.kil fg) (frm (((fin F').trans (Fr.less (wr := ws) kil_less)).mono fun j hj => by simpa using hj))
    | rt d r =>
      cases el
      exact p
    | ex c fs =>
      cases el
      exact p
  · have e3 : i = ds.length := by omega
    subst e3
    rw [List.drop_length] at el
    cases el
    exact .inl ⟨ok.stop H2 kp _ (Nat.le_refl _), p σ1 H2 Fsi (Si.kil fg) (frm ((Fi.trans (Fr.less (wr := ws) kil_less)).mono fun j hj => by simpa using hj))⟩

/-- while: n turns at most -/
def sWhile (c : Env → Option Bool) (fb : SF) (fg : List Nat) : Nat → SF
  | 0, _ => none
  | n + 1, ρ => (c (kil fg ρ)).bind fun b => if b = true then (fb (kil fg ρ)).bind fun o => match o with
      | .nx ρ2 => sWhile c fb fg n ρ2
      | .ct ρ2 => sWhile c fb fg n ρ2
      | .bk ρ2 => some (.nx (kil fg ρ2))
      | .rt d r => some (.rt d r)
      | .ex c fs => some (.ex c fs)
    else some (.nx (kil fg ρ))
theorem vs_while {tc : TT} {fc : Env → Option Bool} (hc : VT K tc fc) (hb : VS K Wx wb tb fb) (n : Nat) : VS K Wx wb (tWhile tc tb) (sWhile fc fb fg n) := by
  intro B AF σ H ρ Fs o S e D p
  refine ⟨fun m σ' H' => ∃ ρi Fsi, SR K B AF σ' H' ρi Fsi ∧ sWhile fc fb fg m ρi = some o ∧ Fr wb σ H ρ Fs σ' H' ρi Fsi, ⟨n, ρ, Fs, S, e, Fr.grow (.refl H)⟩, ?_⟩
  rintro m σ1 H1 ⟨ρi, Fsi, Si, el, Fi⟩
  cases m with
  | zero => cases el
  | succ m =>
    obtain ⟨b, e1, e2⟩ := Option.bind_eq_some_iff.mp el
    have Sk := Si.kil fg
    have tk : Fr wb σ1 H1 ρi Fsi σ1 H1 (kil fg ρi) Fsi := Fr.less kil_less
    have Fk : Fr wb σ H ρ Fs σ1 H1 (kil fg ρi) Fsi := (Fi.trans tk).mono fun j hj => by simpa using hj
    refine hc B AF σ1 H1 (kil fg ρi) Fsi b Sk e1 _ fun H2 g2 => ?_
    have F2 : Fr wb σ H ρ Fs σ1 H2 (kil fg ρi) Fsi := (Fk.trans (Fr.grow (wr := wb) g2)).mono fun j hj => by simpa using hj
    cases b with
    | false =>
      rw [if_neg Bool.false_ne_true] at e2 ⊢
      cases e2
      exact p σ1 H2 Fsi (Sk.grow g2) F2
    | true =>
      rw [if_pos rfl] at e2 ⊢
      obtain ⟨ob, a2, el⟩ := Option.bind_eq_some_iff.mp e2
      have fin : ∀ {σ' H' ρ' Fs'}, Fr wb σ1 H2 (kil fg ρi) Fsi σ' H' ρ' Fs' → Fr wb σ H ρ Fs σ' H' ρ' Fs' := fun h => (F2.trans h).mono fun j hj => by simpa using hj
      refine ⟨fun σ' H' => ∃ ρi Fsi, SR K B AF σ' H' ρi Fsi ∧ sWhile fc fb fg m ρi = some o ∧ Fr wb σ H ρ Fs σ' H' ρi Fsi, fun σ' H' w => ⟨m, Nat.lt_succ_self _, w⟩, ?_⟩
      refine hb B AF σ1 H2 (kil fg ρi) Fsi ob (Sk.grow g2) a2 _ ?_
      cases ob with
      | nx ρ2 => exact fun σ' H' Fs' S' F' => ⟨ρ2, Fs', S', el, fin F'⟩
      | ct ρ2 => exact fun σ' H' Fs' S' F' => ⟨ρ2, Fs', S', el, fin F'⟩
      | bk ρ2 =>
        cases el
        exact fun σ' H' Fs' S' F' => p σ' H' Fs' (S'.kil fg) (((fin F').trans (Fr.less (wr := wb) kil_less)).mono fun j hj => by simpa using hj)
      | rt d r =>
        cases el
        exact p
      | ex c fs =>
        cases el
        exact p
end
end Va

/-! Ve1: enumerate of a tuple. -/
namespace EnT
open PySem PyProof.Rows L2
open Sem (wp)
theorem meets_enum_newT (l : Addr) (items : Array Value) (n : Nat) (dct : Option Addr) (sl : Array (Option Value)) :
    Meets (Builtin.«enumerate.__new__» ⟨[.type "enumerate", .ref l], []⟩) (fun _ R s => s.heap.get? l = some ⟨.type "tuple", dct, .seq items n, sl⟩ ∧
      R (.ok (.ret (.ref (s.heap.push { cls := .type "tuple_iterator", data := .fields #[.ref l, .int 0 0] }).objs.size)))
        { s with heap := (s.heap.push { cls := .type "tuple_iterator", data := .fields #[.ref l, .int 0 0] }).push { cls := .type "enumerate", data := .fields #[.none, .bool false, .ref s.heap.objs.size, rawInt 0, .none, .none] } }) :=
  .of_wp fun prog w A R s h => by
    obtain ⟨hp, g, d, tk, os⟩ := s
    obtain ⟨hl, h⟩ := h
    have hsub := sub_enumerate
    have hL : Heap.IsTuple (Shared.heap ⟨hp, g, d, tk, os⟩) l items := ⟨_, hl, rfl, n, rfl⟩
    wp_walk using wpAny_loadPart' hl
    refine wpAny_stack_any fun st => wpAny_pure ?_
    split
    · rename_i c _ _ _ _ _
      cases (c == Value.type "enumerate")
      · wp_walk using wpAny_loadPart' hl, wpAny_pyIter_tuple hL
        exact ⟨_, rfl, h⟩
      · wp_walk using wpAny_loadPart' hl, wpAny_pyIter_tuple hL
        exact ⟨_, rfl, h⟩
    · wp_walk using wpAny_loadPart' hl, wpAny_pyIter_tuple hL
      exact ⟨_, rfl, h⟩
section
variable {prog : Program} {w : World} {A : Around} {E : Value → Shared → Prop} {s : Shared}
theorem call_enum_tup {l : Addr} {items : Array Value} {Q : Value → Shared → Prop} (hL : s.heap.IsTuple l items)
    (h : ∀ h', IsEnum h' (s.heap.objs.size + 1) s.heap.objs.size 0 .none → h'.IsTupleIter s.heap.objs.size l 0 → h'.objs.size = s.heap.objs.size + 2 →
      (∀ b o, s.heap.get? b = some o → h'.get? b = some o) → Q (.ref (s.heap.objs.size + 1)) { s with heap := h' }) :
    wpAny (model prog w) A (call (.type "enumerate") [.ref l]) Q E s := by
  obtain ⟨⟨c, dct, dt, sl⟩, hl, hc, n, hd⟩ := hL
  replace hc : c = .type "tuple" := hc
  replace hd : dt = .seq items n := hd
  subst hc hd
  refine callType_new F.called_enumerate (by decide) (F.typeCall_enumerate_1 _) (F.newCall_enumerate_1 _) (fun obj => F.args_object_init_2 obj _) F.entry_enumerate_new
    (meets_enum_newT l items n dct sl) ⟨hl, ?_⟩
  have hz : (s.heap.push { cls := .type "tuple_iterator", data := .fields #[.ref l, .int 0 0] }).objs.size = s.heap.objs.size + 1 := Heap.size_push ..
  show _ ∧ _
  rw [hz]
  have he : IsEnum ((s.heap.push { cls := .type "tuple_iterator", data := .fields #[.ref l, .int 0 0] }).push
      { cls := .type "enumerate", data := .fields #[.none, .bool false, .ref s.heap.objs.size, rawInt 0, .none, .none] }) (s.heap.objs.size + 1) s.heap.objs.size 0 .none := by
    have := Heap.get?_push_size (s.heap.push { cls := .type "tuple_iterator", data := .fields #[.ref l, .int 0 0] })
      (o := { cls := .type "enumerate", data := .fields #[.none, .bool false, .ref s.heap.objs.size, rawInt 0, .none, .none] }) rfl
    rw [hz] at this; exact this
  refine ⟨⟨_, he, rfl⟩, h _ he ⟨_, Heap.get?_push_of_some _ (Heap.get?_push_size _ rfl), rfl, rfl⟩ (by rw [Heap.size_push, hz]) fun b o x => Heap.get?_push_of_some _ (Heap.get?_push_of_some _ x)⟩
end
/-- the tuple at a, each item in a new pair -/
def ItET (K : PySem.W.Frag) (a : Addr) : It :=
  ⟨fun i H => ∃ (xs : List V) (x : V), SqT K H a xs ∧ xs[i]? = some x, fun i H v H' => ∃ T x, v = .ref T ∧ H T = none ∧ H' = upd H T (.tup [.int (i : Nat), x]) ∧ ∀ xs, SqT K H a xs → xs[i]? = some x, fun i H => ∃ xs : List V, SqT K H a xs ∧ xs.length ≤ i⟩
theorem turn_enumT {P : Program} {w : World} {K : PySem.W.Frag} {elts : List Expr} {kk : Nat} {tpos : Pos} (a e it : Addr) (hae : a ≠ it) (hea : e ≠ a) :
    Turn P w K (.Tuple elts kk tpos) (ItET K a) [e, it] e (fun i h => (∃ old, IsEnum h e it ((i : Nat) : Int) old) ∧ h.IsTupleIter it a i ∧ e ≠ it) where
  mem := by simp
  obj := fun i h st b hb => by
    obtain ⟨⟨old, he⟩, ⟨o, ho, hc, hd⟩, _⟩ := st
    have e' : b = e ∨ b = it := by simpa using hb
    rcases e' with z | z
    · rw [z]; exact ⟨_, he, fun v q => nomatch q⟩
    · rw [z]; exact ⟨o, ho, fun v q => by rw [hd] at q; cases q⟩
  keep := fun i h h' st k => let ⟨⟨old, he⟩, hi, hne⟩ := st; ⟨⟨old, k e (by simp) _ he⟩, hi.at fun o q => k it (by simp) o q, hne⟩
  item := by
    intro X hP hw hK hc i pins s σ H E I hf st hg
    subst hP hw hK
    obtain ⟨⟨old, he⟩, hit, hne⟩ := st
    obtain ⟨xs, x, hq, hx⟩ := hg
    obtain ⟨its, rv, p, hz⟩ := I.tuple hq
    obtain ⟨u, hu, ru⟩ := rv.get hx
    have hel : e < s.heap.objs.size := Heap.lt_size he
    have hil : it < s.heap.objs.size := by obtain ⟨_, q, _⟩ := hit; exact Heap.lt_size q
    have hlt : i < its.length := (List.getElem?_eq_some_iff.mp hu).1
    have D := Draws.tuple (prog := X.prog) (w := X.w) (A := X.A.in1) (I.ok.hd hc) it a hae its.toArray
    refine wpAny_pyNext_enum_itemD D he ⟨hit, (show s.heap.IsTuple a its.toArray from p)⟩ (by simpa using hlt) hne (by simp [hne, hea]) fun y h' tk hy ho hst' hT hsz hk => ?_
    have hyu : y = u := by
      have hy' : its[i]? = some y := by simpa using hy
      rw [hu] at hy'
      exact (Option.some.inj hy').symm
    subst hyu
    refine ⟨_, rfl, wpAny_letOwnedTupleGo_enum (s := { s with heap := h', toks := tk + 1 }) ho fun h'' he' sb => ?_⟩
    have hT2 : h''.get? s.heap.objs.size = some { cls := .type "tuple", data := .seq #[.int i tk, y] } := (sb.2 _ (Nat.ne_of_gt hel)).trans hT
    have new : ObjOk X.prog X.w (upd H s.heap.objs.size (.tup [.int (i : Nat), x])) h'' s.heap.objs.size (.tup [.int (i : Nat), x]) :=
      ⟨by show 2 ≤ sizeLine; decide, [.int i tk, y], .cons ⟨_, rfl⟩ (.cons ru .nil), ⟨_, hT2, rfl, _, rfl⟩⟩
    have I1 : Inv X pins σ (upd H s.heap.objs.size (.tup [.int (i : Nat), x])) { s with heap := h'', toks := tk + 1 } :=
      I.turnedNew (ch := [e, it]) (fun b ob hb q => (sb.2 b (fun z => hb (by simp [z]))).trans (hk b ob (fun z => hb (by simp [z])) (fun z => hb (by simp [z])) q)) hf (Nat.le_refl _) new
    refine ⟨.ref s.heap.objs.size, _, I1, rfl, ⟨_, x, rfl, I.hok.fresh (Nat.le_refl _), rfl, fun ys hy => by rw [I.tuple_inj hy hq]; exact hx⟩, ⟨⟨y, ?_⟩, hst'.1.at fun o q => (sb.2 it (Ne.symm hne)).trans q, hne⟩, fun b hb => ?_⟩
    · have e1 : ((i + 1 : Nat) : Int) = (i : Int) + 1 := by omega
      rw [e1]; exact he'
    · have hb' : b < s.heap.objs.size := by
        have e' : b = e ∨ b = it := by simpa using hb
        rcases e' with z | z
        · rw [z]; exact hel
        · rw [z]; exact hil
      rw [upd_ne (Nat.ne_of_lt hb')]
      exact (hf b hb).1
  done := by
    intro X hP hw hK hc i pins s σ H E I hf st hg
    subst hP hw hK
    obtain ⟨⟨old, he⟩, hit, hne⟩ := st
    obtain ⟨xs, hq, hx⟩ := hg
    obtain ⟨its, rv, p, hz⟩ := I.tuple hq
    obtain ⟨f0, f1, f2, f3, f4, f5⟩ := hf it (by simp)
    have hl := rv.length
    have D : Draws X.prog X.w X.A.in1 it [it, a] 0 (fun _ _ => True) (fun _ h => h.IsTupleIter it a i ∧ h.IsTuple a its.toArray) := by
      refine ⟨fun _ _ st => let ⟨o, ho, _⟩ := st.1; ⟨o, ho⟩, fun _ _ _ st hk => ⟨st.1.at fun o e => hk it (by simp) o e, st.2.at fun o e => hk a (by simp) o e⟩, fun j _ _ _ hj _ _ => absurd hj (Nat.not_lt_zero _), fun s Q E st hE => ?_⟩
      exact wpAny_nextOf_tuple_end (I.ok.hd hc) st.1 st.2 (by simp; omega) hE
    exact wpAny_pyNext_enum_endD D he ⟨hit, (show s.heap.IsTuple a its.toArray from p)⟩ fun h' eb => ⟨rfl, I.turned (t' := s.toks) (fun b o hb q => eb b o hb q) f0 f1 f3 f4 f5⟩
  self := fun A i s Q E st h => let ⟨⟨_, he⟩, _⟩ := st; wpAny_pyIter_enum he h
/-- of a list or a tuple -/
def iEnumA (K : PySem.W.Frag) (ta : TA) : TI := fun σ H R => ta σ H fun vs H1 => ∃ a xs, vs = [.ref a] ∧ ((SqL K H1 a xs ∧ R (Ite K a) H1) ∨ (SqT K H1 a xs ∧ R (ItET K a) H1))
theorem pi_enumA {X : Cx} {e : Expr} {ta : TA} {p pos tpos : Pos} {elts : List Expr} {kk : Nat} (hg : Gl X "enumerate") (hm : X.mg "enumerate" = none) (ha : PA X [e] ta) (hs : starEach [e] X.env = [(false, eval e X.env)] := by rfl) :
    PI X (.Tuple elts kk tpos) (.Call (.Name "enumerate" p) [e] [] pos) (iEnumA X.K ta) := by
  refine ⟨fun pins s σ H R I h => ?_⟩
  refine Call_ (ld_blt I hg hm boot_enumerate (PyProof.Rows.callWith_type1 (thn (ha.run pos pins s σ H _ I h) fun us s1 ⟨vs, H1, I1, r1, q1⟩ => ?_) hs rfl))
  obtain ⟨a, xs, ex, q⟩ := q1
  subst ex
  cases r1 with
  | cons r rr =>
    cases rr
    cases r
    have fresh : ∀ b, b ∈ [s1.heap.objs.size + 1, s1.heap.objs.size] → FpOk X pins H1 b := fun b hb => by
      have e' : b = s1.heap.objs.size + 1 ∨ b = s1.heap.objs.size := by simpa using hb
      have hle : s1.heap.objs.size ≤ b := by
        rcases e' with z | z
        · rw [z]; exact Nat.le_add_right _ _
        · rw [z]; exact Nat.le_refl _
      exact I1.fpOk hle (I1.hok.fresh hle)
    rcases q with ⟨hq, q⟩ | ⟨hq, q⟩
    · obtain ⟨its, rv, p', hz⟩ := I1.list hq
      refine call_enumerate_list p'.isList fun h' he hit hsz hk => wpAny_pyIter_enum he ?_
      have I2 : Inv X pins σ H1 { s1 with heap := h' } := I1.kept (t' := s1.toks) hk
      exact ⟨s1.heap.objs.size + 1, [s1.heap.objs.size + 1, s1.heap.objs.size], _, _, H1, rfl, I2, turn_enum a (s1.heap.objs.size + 1) s1.heap.objs.size, ⟨⟨.none, he⟩, hit, Nat.succ_ne_self _⟩, fresh, q⟩
    · obtain ⟨its, rv, p', hz⟩ := I1.tuple hq
      have hlt : a < s1.heap.objs.size := by obtain ⟨o, ho, _⟩ := id p'; exact Heap.lt_size ho
      refine call_enum_tup (show s1.heap.IsTuple a its.toArray from p') fun h' he hit hsz hk => wpAny_pyIter_enum he ?_
      have I2 : Inv X pins σ H1 { s1 with heap := h' } := I1.kept (t' := s1.toks) hk
      exact ⟨s1.heap.objs.size + 1, [s1.heap.objs.size + 1, s1.heap.objs.size], _, _, H1, rfl, I2, turn_enumT a (s1.heap.objs.size + 1) s1.heap.objs.size (Nat.ne_of_lt hlt) (Nat.ne_of_gt (Nat.lt_succ_of_lt hlt)), ⟨⟨.none, he⟩, hit, Nat.succ_ne_self _⟩, fresh, q⟩
end EnT

/-! Va9: what is walked besides; what a def does. -/
namespace Va
open PySem L2

def intsFrom (lo : Int) (n : Nat) : List PyData := (List.range n).map fun i => PyData.int (lo + (i : Nat))
theorem intsFrom_get {lo : Int} {n i : Nat} {d : PyData} (h : (intsFrom lo n)[i]? = some d) : i < n ∧ d = .int (lo + (i : Nat)) := by
  unfold intsFrom at h
  rw [List.getElem?_map] at h
  obtain ⟨j, h1, h2⟩ := Option.map_eq_some_iff.mp h
  obtain ⟨h3, h4⟩ := List.getElem?_eq_some_iff.mp h1
  rw [List.length_range] at h3
  rw [List.getElem_range] at h4
  subst h4
  exact ⟨h3, h2.symm⟩
def i62 (i : Int) : Bool := decide (-(2 ^ 62) ≤ i) && decide (i < 2 ^ 62)
def iR1 (f : AFn) : IF := fun ρ => (f ρ).bind fun p => match p.1 with
  | [.int j] => if i62 j = true then some (intsFrom 0 j.toNat, .mv []) else none
  | _ => none
def iR2 (f : AFn) : IF := fun ρ => (f ρ).bind fun p => match p.1 with
  | [.int i, .int j] => if i62 i = true ∧ i62 j = true then some (intsFrom i (j - i).toNat, .mv []) else none
  | _ => none
section
variable {K : PySem.W.Frag} {ta : TA} {fa : AFn}
theorem itOk_range {H : Hp} {lo : Int} {n : Nat} : ItOk K (Itr lo n) H (intsFrom lo n) [] := by
  refine ⟨fun a h => (nomatch h), fun H' _ i d h => ?_, fun H' _ i h => ?_⟩
  · obtain ⟨h1, h2⟩ := intsFrom_get h
    refine ⟨h1, fun x H'' ⟨e1, e2⟩ => ?_⟩
    subst e1 e2 h2
    exact ⟨.refl _, [], .int _, fun a h => nomatch h⟩
  · have : (intsFrom lo n).length = n := by unfold intsFrom; simp
    show n ≤ i
    omega
theorem vi_range1 (h : VA K ta fa) : VI K (iRng1 ta) (iR1 fa) := by
  intro B AF σ H ρ Fs ds k S e R q
  obtain ⟨⟨es, k1⟩, e1, e2⟩ := Option.bind_eq_some_iff.mp e
  simp only at e2
  split at e2
  case h_2 => cases e2
  rename_i j
  split at e2
  case isFalse => cases e2
  rename_i hj
  cases e2
  simp only [i62, Bool.and_eq_true, decide_eq_true_eq] at hj
  refine h B AF σ H ρ Fs _ k1 S e1 _ fun vs H1 F g1 r1 o1 => ?_
  obtain ⟨v, rfl, rv⟩ := r1.one'
  cases rv
  exact ⟨j, rfl, hj.1, hj.2, q _ H1 [] g1 itOk_range fun a h => nomatch h⟩
theorem vi_range2 (h : VA K ta fa) : VI K (iRng2 ta) (iR2 fa) := by
  intro B AF σ H ρ Fs ds k S e R q
  obtain ⟨⟨es, k1⟩, e1, e2⟩ := Option.bind_eq_some_iff.mp e
  simp only at e2
  split at e2
  case h_2 => cases e2
  rename_i i j
  split at e2
  case isFalse => cases e2
  rename_i hj
  cases e2
  simp only [i62, Bool.and_eq_true, decide_eq_true_eq] at hj
  refine h B AF σ H ρ Fs _ k1 S e1 _ fun vs H1 F g1 r1 o1 => ?_
  obtain ⟨v, u, A, B', rfl, rv, ru, _⟩ := r1.two
  cases rv; cases ru
  exact ⟨i, j, rfl, ⟨hj.1.1, hj.1.2, hj.2.1, hj.2.2⟩, q _ H1 [] g1 itOk_range fun a h => nomatch h⟩
/-! ### enumerate -/
def enumD : List PyData → Nat → List PyData
  | [], _ => []
  | d :: ds, n => wrap (.tuple [.int (n : Nat), d]) :: enumD ds (n + 1)
theorem enumD_get : ∀ {ds : List PyData} {n i : Nat} {d : PyData}, (enumD ds n)[i]? = some d → ∃ e, ds[i]? = some e ∧ d = wrap (.tuple [.int ((n + i : Nat) : Int), e])
  | [], _, _, _, h => by simp [enumD] at h
  | e :: ds, n, 0, d, h => by
    simp only [enumD, List.getElem?_cons_zero, Option.some.injEq] at h
    exact ⟨e, rfl, h.symm⟩
  | e :: ds, n, i + 1, d, h => by
    simp only [enumD, List.getElem?_cons_succ] at h
    obtain ⟨e', h1, h2⟩ := enumD_get h
    exact ⟨e', by simpa using h1, by rw [h2, show n + 1 + i = n + (i + 1) by omega]⟩
theorem enumD_len : ∀ (ds : List PyData) (n : Nat), (enumD ds n).length = ds.length
  | [], _ => rfl
  | _ :: ds, n => congrArg Nat.succ (enumD_len ds (n + 1))
def iEn (f : AFn) : IF := fun ρ => (f ρ).bind fun p => match p.1 with
  | [.list ds] => some (enumD ds 0, p.2)
  | [.tuple ds] => some (enumD ds 0, p.2)
  | _ => none
theorem vi_enum (h : VA K ta fa) : VI K (EnT.iEnumA K ta) (iEn fa) := by
  intro B AF σ H ρ Fs ds k S e R q
  obtain ⟨⟨es, k1⟩, e1, e2⟩ := Option.bind_eq_some_iff.mp e
  clear e
  simp only at e2
  split at e2
  · rename_i xs
    cases e2
    refine h B AF σ H ρ Fs _ _ S e1 _ fun vs H1 F g1 r1 o1 => ?_
    obtain ⟨v, rfl, rv⟩ := r1.one'
    cases rv with
    | lst ha rl =>
      rename_i a us F
      refine ⟨a, us, rfl, .inl ⟨.of ha, q _ H1 (a :: F) g1 ⟨fun b hb => ?_, fun H' e i d hd => ?_, fun H' e i hi => ?_⟩ o1.any⟩⟩
      · exact (Rp.lst ha rl).mb b hb
      · obtain ⟨x, h1, rfl⟩ := enumD_get hd
        obtain ⟨w, A, G, B', h2, h3, h4⟩ := rl.get i h1
        have ha' : H' a = some (.lst us) := e _ _ ha (.inr (List.mem_cons_self ..))
        refine ⟨⟨us, w, .of ha', h2⟩, fun y H'' ⟨T, x', e1, e2, e3, e4⟩ => ?_⟩
        have := e4 us (.of ha')
        rw [h2] at this
        cases this
        subst e1 e3
        have hw : Rp K H' w x G := h3.kp (e.mono fun b hb => List.mem_cons_of_mem _ (by rw [h4]; exact List.mem_append_right _ (List.mem_append_left _ hb)))
        refine ⟨.new e2, G, ?_, fun b hb => List.mem_cons_of_mem _ (by rw [h4]; exact List.mem_append_right _ (List.mem_append_left _ hb))⟩
        have r2 : RpL K H' [V.int (i : Nat), w] [.int ((0 + i : Nat) : Int), x] ([] ++ (G ++ [])) := .cons (by rw [Nat.zero_add]; exact .int _) (.cons hw .nil)
        rw [List.nil_append, List.append_nil] at r2
        exact rp_pair r2 e2
      · exact ⟨us, .of (e _ _ ha (.inr (List.mem_cons_self ..))), by rw [enumD_len] at hi; rw [rl.length]; exact hi⟩
  · rename_i xs
    cases e2
    refine h B AF σ H ρ Fs _ _ S e1 _ fun vs H1 F g1 r1 o1 => ?_
    obtain ⟨v, rfl, rv⟩ := r1.one'
    cases rv with
    | tup ha0 rl =>
      have ha := ha0.1
      rename_i a us
      refine ⟨a, us, rfl, .inr ⟨ha, q _ H1 F g1 ⟨rl.mb, fun H' e i d hd => ?_, fun H' e i hi => ?_⟩ o1.any⟩⟩
      · obtain ⟨x, h1, rfl⟩ := enumD_get hd
        obtain ⟨w, A, G, B', h2, h3, h4⟩ := rl.get i h1
        have ha' := e.sqT ha
        refine ⟨⟨us, w, ha', h2⟩, fun y H'' ⟨T, x', e1, e2, e3, e4⟩ => ?_⟩
        have := e4 us ha'
        rw [h2] at this
        cases this
        subst e1 e3
        have m : ∀ b ∈ G, b ∈ F := fun b hb => by rw [h4]; exact List.mem_append_right _ (List.mem_append_left _ hb)
        have hw : Rp K H' w x G := h3.kp (e.mono m)
        refine ⟨.new e2, G, ?_, m⟩
        have r2 : RpL K H' [V.int (i : Nat), w] [.int ((0 + i : Nat) : Int), x] ([] ++ (G ++ [])) := .cons (by rw [Nat.zero_add]; exact .int _) (.cons hw .nil)
        rw [List.nil_append, List.append_nil] at r2
        exact rp_pair r2 e2
      · exact ⟨us, e.sqT ha, by rw [enumD_len] at hi; rw [rl.length]; exact hi⟩
  · cases e2
/-! ### a def -/
def env0 (n : Nat) (ds : List PyData) : Env := ds.map (fun d => some (d, m02 d)) ++ List.replicate (n - ds.length) none
def mOf (n : Nat) (f : SF) (ds : List PyData) : Option (PyData × Nat) := (f (env0 n ds)).bind fun o => match o with
  | .nx _ => some (.none, 2)
  | .rt d r => some (d, r)
  | _ => none
abbrev MF := List PyData → Option (PyData × Nat)
/-- the promise of a def of n parameters that does m to the data -/
def spOf (K : PySem.W.Frag) (n : Nat) (m : MF) : Sp := fun vs H Q _ => ∃ ds F d r, ds.length = n ∧ RpL K H vs ds F ∧ m ds = some (d, r) ∧ ∀ v H' G, Grow H H' → Rp K H' v d G → ROk r H F v G → Q v H'
theorem spOf_len {n : Nat} {m : MF} {vs : List V} {H : Hp} {Q : VK} {E : XK} (h : spOf K n m vs H Q E) : vs.length = n := by
  obtain ⟨ds, F, d, r, h1, h2, _⟩ := h
  rw [h2.length]; exact h1
theorem RpL.foot {H : Hp} : ∀ {vs : List V} {ds : List PyData} {F : List Addr}, RpL K H vs ds F → ∃ Fs : Nat → List Addr, ∀ (i : Nat) (d : PyData), ds[i]? = some d → ∃ v, vs[i]? = some v ∧ Rp K H v d (Fs i) ∧ ∀ a ∈ Fs i, a ∈ F
  | _, _, _, .nil => ⟨fun _ => [], fun i d h => by simp at h⟩
  | _, _, _, .cons (F := F) e r => by
    obtain ⟨Fs, h⟩ := RpL.foot r
    refine ⟨fun i => match i with
      | 0 => F
      | i + 1 => Fs i, fun i d hd => ?_⟩
    cases i with
    | zero =>
      cases hd
      exact ⟨_, rfl, e, fun a ha => List.mem_append_left _ ha⟩
    | succ i =>
      obtain ⟨v, h1, h2, h3⟩ := h i d hd
      exact ⟨v, h1, h2, fun a ha => List.mem_append_right _ (h3 a ha)⟩
theorem body_of {Wx : WxT} {wr : List Nat} {ts : TS} {f : SF} {N : List Str} {n k : Nat} {vs : List V} {H : Hp} {Q : VK} {E : XK} (h : VS K Wx wr ts f) (hs : spOf K k (mOf n f) vs H Q E) (hn : N.length = n) (hk : k ≤ n) :
    ts { nx := fun _ H' => Q .non H', rt := Q } (L2.start N vs) H := by
  obtain ⟨ds, F, d, r, h1, h2, h3, q⟩ := hs
  obtain ⟨o, h4, h5⟩ := Option.bind_eq_some_iff.mp h3
  obtain ⟨Fs, hF⟩ := h2.foot
  have lv := h2.length
  have live : ∀ (i : Nat) (d : PyData) (m : Nat), (env0 n ds)[i]? = some (some (d, m)) → ds[i]? = some d ∧ m = m02 d := by
    intro i d m q
    unfold env0 at q
    by_cases hi : i < (ds.map fun d => some (d, m02 d)).length
    · rw [List.getElem?_append_left hi, List.getElem?_map] at q
      obtain ⟨d', e1, e2⟩ := Option.map_eq_some_iff.mp q
      cases e2
      exact ⟨e1, rfl⟩
    · rw [List.getElem?_append_right (by omega), List.getElem?_replicate] at q
      split at q <;> cases q
  have S : SR K H F (L2.start N vs) H (env0 n ds) Fs := by
    refine ⟨?_, .refl H, fun i d m q => ?_, fun i j d m d' m' q q' ne a ha => ?_⟩
    · unfold L2.start env0
      simp only [List.length_append, List.length_map, List.length_replicate]
      omega
    · obtain ⟨e1, rfl⟩ := live i d m q
      obtain ⟨v, e2, e3, e4⟩ := hF i d e1
      refine ⟨v, ?_, e3, fun a ha => .inr (e4 a ha), (own02 e3).1⟩
      unfold L2.start
      have hi : i < (vs.map some).length := by
        rw [List.length_map]
        exact (List.getElem?_eq_some_iff.mp e2).1
      rw [List.getElem?_append_left hi, List.getElem?_map, e2]
      rfl
    · obtain ⟨e1, rfl⟩ := live i d m q
      obtain ⟨v, e2, e3, e4⟩ := hF i d e1
      rw [(own02 (B := H) e3).2] at ha
      cases ha
  refine h H F _ H (env0 n ds) Fs o S h4 _ ?_
  cases o with
  | nx ρ' =>
    cases h5
    exact fun σ' H' Fs' S' _ => q .non H' [] S'.same .non ⟨fun a h => (nomatch h), fun _ => ⟨List.nodup_nil, fun a h => (nomatch h)⟩, fun z => nomatch z⟩
  | bk ρ' => cases h5
  | ct ρ' => cases h5
  | ex c fs => cases h5
  | rt d' r' =>
    cases h5
    exact q
/-! ### a call of it -/
def calK (d : PyData) (r : Nat) (k : Kd) : Kd := if flat d then .mv [] else if r = 2 then .mv [] else if r = 1 then .sp k.src else .bo k.src
def gCall (n : Nat) (m : MF) : Gn := fun ds k => if ds.length = n then (m ds).map fun p => (p.1, calK p.1 p.2 k) else none
theorem vf_call {n : Nat} {m : MF} {E : XK} : VF K (fun vs H Q => spOf K n m (vs ++ []) H Q E) (gCall n m) := by
  intro ρ Fs H0 H vs ds F k d k' g r o e Q q
  unfold gCall at e
  split at e
  case isFalse => cases e
  rename_i hl
  obtain ⟨⟨d', r'⟩, e1, e2⟩ := Option.map_eq_some_iff.mp e
  cases e2
  show spOf K n m (vs ++ []) H Q E
  rw [List.append_nil]
  refine ⟨ds, F, d', r', hl, r, e1, fun v H' G g2 r2 ok => q v H' G g2 r2 ?_⟩
  have bo : ∀ a ∈ G, H0 a = none ∨ Src ρ Fs k.src a := fun a ha => by
    rcases ok.1 a ha with z | z
    · exact .inl (g.back z)
    · exact o.any a z
  show KV ρ Fs H0 v G (calK d' r' k)
  unfold calK
  split
  · rename_i hf
    rw [r2.flat hf]
    exact .nil
  · split
    · rename_i h
      obtain ⟨x1, x2⟩ := ok.2.1 h
      exact .mv ⟨x1, fun a ha => .inl (g.back (x2 a ha))⟩
    · split
      · rename_i h
        obtain ⟨p, G', x1, x2, x3, x4⟩ := ok.2.2 h
        exact ⟨bo, fun _ _ => ⟨p, G', x1, x2, x3, g.back x4⟩⟩
      · exact .bo bo
theorem ve_call {n : Nat} {m : MF} {E : XK} (h : VA K ta fa) : VE K (tCall (spOf K n m) [] E ta) (eApp (gCall n m) fa) := ve_appR h vf_call
/-- positional values, then keywords in the parameters' order -/
def aApp (f g : AFn) : AFn := fun ρ => (f ρ).bind fun p => (g ρ).bind fun q => some (p.1 ++ q.1, aj p.2 q.2)
theorem ve_callK {n : Nat} {m : MF} {E : XK} {tk : TA} {fk : AFn} (h : VA K ta fa) (hk : VA K tk fk) : VE K (tCallK (spOf K n m) (fun vs zs => vs ++ zs) E ta tk) (eApp (gCall n m) (aApp fa fk)) := by
  intro B AF σ H ρ Fs d k S e Q q
  obtain ⟨⟨ds, k0⟩, e0, e⟩ := Option.bind_eq_some_iff.mp e
  obtain ⟨⟨ds1, k1⟩, e1, e2⟩ := Option.bind_eq_some_iff.mp e0
  obtain ⟨⟨ds2, k2⟩, e3, e4⟩ := Option.bind_eq_some_iff.mp e2
  cases e4
  refine h B AF σ H ρ Fs ds1 k1 S e1 _ fun vs H1 F g1 r1 o1 => ?_
  refine hk B AF σ H1 ρ Fs ds2 k2 (S.grow g1) e3 _ fun zs H2 G g2 r2 o2 => ?_
  have := vf_call (E := E) ρ Fs H H2 (vs ++ zs) (ds1 ++ ds2) (F ++ G) (aj k1 k2) d k (g1.trans g2) (RpL.app (r1.grow g2) r2) (KO.join S g1 o1 (fun a ha => r1.stn ha) o2) e Q fun v H3 G' g3 r3 o3 => q v H3 G' ((g1.trans g2).trans g3) r3 o3
  simp only [List.append_nil] at this
  exact this
end
end Va

/-! Va10: built-ins, slices, texts. -/
namespace Va
open PySem L2

section
variable {K : PySem.W.Frag} {ta tb tc te : TE} {t : TA} {f g h : EF} {fa : AFn}

/-! ### truth values as values -/
def eAndV (f g : EF) : EF := fun ρ => (f ρ).bind fun p => (bOf p.1).bind fun b => if b = true then (g ρ).map fun q => (q.1, q.2) else some (.bool false, .mv [])
def eOrV (f g : EF) : EF := fun ρ => (f ρ).bind fun p => (bOf p.1).bind fun b => if b = true then some (.bool true, .mv []) else (g ρ).map fun q => (q.1, q.2)
def eNotV (f : EF) : EF := fun ρ => (f ρ).bind fun p => (bOf p.1).map fun b => (.bool (!b), .mv [])
theorem KV.back {ρ : Env} {Fs : Nat → List Addr} {H H' : Hp} {v : V} {F : List Addr} {k : Kd} (o : KV ρ Fs H' v F k) (g : Grow H H') : KV ρ Fs H v F k :=
  ⟨o.1.back g, fun L z => let ⟨p, G, a1, a2, a3, a4⟩ := o.2 L z; ⟨p, G, a1, a2, a3, g.back a4⟩⟩
theorem ve_andV (ha : VE K ta f) (hb : VE K tb g) : VE K (tAndV ta tb) (eAndV f g) := by
  intro B AF σ H ρ Fs d k S e Q q
  obtain ⟨⟨d1, k1⟩, e1, e2⟩ := Option.bind_eq_some_iff.mp e
  obtain ⟨b, e3, e4⟩ := Option.bind_eq_some_iff.mp e2
  cases bOf_eq e3
  refine ha B AF σ H ρ Fs _ k1 S e1 _ fun v H1 F g1 r1 o1 => ⟨b, rp_bool r1, ?_⟩
  cases b with
  | true =>
    rw [if_pos rfl] at e4 ⊢
    obtain ⟨⟨d2, k2⟩, e5, e6⟩ := Option.map_eq_some_iff.mp e4
    cases e6
    exact hb B AF σ H1 ρ Fs _ _ (S.grow g1) e5 Q fun v H2 F g2 r2 o2 => q v H2 F (g1.trans g2) r2 (o2.back g1)
  | false =>
    rw [if_neg Bool.false_ne_true] at e4 ⊢
    cases e4
    exact q _ H1 [] g1 (.bl _) .nil
theorem ve_orV (ha : VE K ta f) (hb : VE K tb g) : VE K (tOrV ta tb) (eOrV f g) := by
  intro B AF σ H ρ Fs d k S e Q q
  obtain ⟨⟨d1, k1⟩, e1, e2⟩ := Option.bind_eq_some_iff.mp e
  obtain ⟨b, e3, e4⟩ := Option.bind_eq_some_iff.mp e2
  cases bOf_eq e3
  refine ha B AF σ H ρ Fs _ k1 S e1 _ fun v H1 F g1 r1 o1 => ⟨b, rp_bool r1, ?_⟩
  cases b with
  | false =>
    rw [if_neg Bool.false_ne_true] at e4 ⊢
    obtain ⟨⟨d2, k2⟩, e5, e6⟩ := Option.map_eq_some_iff.mp e4
    cases e6
    exact hb B AF σ H1 ρ Fs _ _ (S.grow g1) e5 Q fun v H2 F g2 r2 o2 => q v H2 F (g1.trans g2) r2 (o2.back g1)
  | true =>
    rw [if_pos rfl] at e4 ⊢
    cases e4
    exact q _ H1 [] g1 (.bl _) .nil
theorem ve_notV (ha : VE K ta f) : VE K (tNotV ta) (eNotV f) := by
  intro B AF σ H ρ Fs d k S e Q q
  obtain ⟨⟨d1, k1⟩, e1, e2⟩ := Option.bind_eq_some_iff.mp e
  obtain ⟨b, e3, e4⟩ := Option.map_eq_some_iff.mp e2
  cases e4
  cases bOf_eq e3
  exact ha B AF σ H ρ Fs _ k1 S e1 _ fun v H1 F g1 r1 o1 => ⟨b, rp_bool r1, q _ H1 [] g1 (.bl _) .nil⟩
/-! ### a op b op c -/
def eChain (h1 h2 : List PyData → Option PyData) (f g h : EF) : EF := fun ρ => (f ρ).bind fun p => (g ρ).bind fun q => (h1 [p.1, q.1]).bind fun z => (bOf z).bind fun b =>
  if b = true then (h ρ).bind fun r => (h2 [q.1, r.1]).map fun z => (z, .mv []) else some (.bool false, .mv [])
theorem ve_chain {r r' : R2} {h1 h2 : List PyData → Option PyData} (v1 : VFf K (r2l r) h1) (v2 : VFf K (r2l r') h2) (ha : VE K ta f) (hb : VE K tb g) (hc : VE K tc h) : VE K (tChain r r' ta tb tc) (eChain h1 h2 f g h) := by
  intro B AF σ H ρ Fs d k S e Q q
  obtain ⟨⟨d1, k1⟩, e1, e⟩ := Option.bind_eq_some_iff.mp e
  obtain ⟨⟨d2, k2⟩, e2, e⟩ := Option.bind_eq_some_iff.mp e
  obtain ⟨z, e3, e⟩ := Option.bind_eq_some_iff.mp e
  obtain ⟨b, e4, e'⟩ := Option.bind_eq_some_iff.mp e
  have ez := bOf_eq e4
  subst ez
  refine ha B AF σ H ρ Fs d1 k1 S e1 _ fun v H1 F g1 r1 o1 => ?_
  refine hb B AF σ H1 ρ Fs d2 k2 (S.grow g1) e2 _ fun u H2 G g2 r2 o2 => ?_
  have g12 := g1.trans g2
  refine v1 H2 [v, u] [d1, d2] (F ++ (G ++ [])) (.bool b) (.cons (r1.grow g2) (.cons r2 .nil)) e3 _ fun z H3 g3 r3 => ⟨b, rp_bool r3, ?_⟩
  have g13 := g12.trans g3
  cases b with
  | false =>
    rw [if_neg Bool.false_ne_true] at e' ⊢
    cases e'
    exact q _ H3 [] g13 (.bl _) .nil
  | true =>
    rw [if_pos rfl] at e' ⊢
    obtain ⟨⟨d3, k3⟩, e5, e⟩ := Option.bind_eq_some_iff.mp e'
    obtain ⟨z2, e6, e7⟩ := Option.map_eq_some_iff.mp e
    cases e7
    refine hc B AF σ H3 ρ Fs d3 k3 (S.grow g13) e5 _ fun w H4 G2 g4 r4 o4 => ?_
    exact v2 H4 [u, w] [d2, d3] (G ++ (G2 ++ [])) _ (.cons ((r2.grow g3).grow g4) (.cons r4 .nil)) e6 Q fun z H5 g5 r5 => q z H5 [] (g13.trans (g4.trans g5)) r5 .nil
/-! ### slices -/
def VO (K : PySem.W.Frag) (to : TO) (f : Env → Option (Option Int)) : Prop := ∀ (B : Hp) (AF : List Addr) (σ : L2.St) (H : Hp) (ρ : Env) (Fs : Nat → List Addr) (i : Option Int), SR K B AF σ H ρ Fs → f ρ = some i →
  ∀ Q : Option Int → Hp → Prop, (∀ H', Grow H H' → Q i H') → to σ H Q
def oNo : Env → Option (Option Int) := fun _ => some none
def oPart (f : EF) : Env → Option (Option Int) := fun ρ => (f ρ).bind fun p => match p.1 with
  | .int i => some (some i)
  | _ => none
theorem vo_no : VO K tNoPart oNo := by
  intro B AF σ H ρ Fs i S e Q q
  cases e
  exact q H (.refl H)
theorem vo_part (ha : VE K te f) : VO K (tPart te) (oPart f) := by
  intro B AF σ H ρ Fs i S e Q q
  obtain ⟨⟨d, k⟩, e1, e2⟩ := Option.bind_eq_some_iff.mp e
  simp only at e2
  split at e2
  case h_2 => cases e2
  rename_i j
  cases e2
  exact ha B AF σ H ρ Fs _ k S e1 _ fun v H1 F g1 r1 o1 => by
    cases r1
    exact ⟨j, rfl, q H1 g1⟩
def cutD (ds : List PyData) (lo hi : Option Int) : List PyData := (ds.drop (HT.sIx ds.length 0 lo)).take (HT.sIx ds.length ds.length hi - HT.sIx ds.length 0 lo)
def rSlAny (K : PySem.W.Frag) : V → Option Int → Option Int → Hp → VK → Prop := fun x lo hi H Q => rSlL K x lo hi H Q ∨ rSlN K x lo hi H Q ∨ rSlS x lo hi H Q
def slD (d : PyData) (k : Kd) (lo hi : Option Int) : Option (PyData × Kd) := match d with
  | .list ds => some (.list (cutD ds lo hi), lstK (cutD ds lo hi) k)
  | .tuple ds => some (.tuple (cutD ds lo hi), tupK (cutD ds lo hi) k)
  | .str x => if x.length ≤ 1000000 then some (.str (cutS x lo hi), .mv []) else none
  | _ => none
def eSl (f : EF) (lo hi : Env → Option (Option Int)) : EF := fun ρ => (f ρ).bind fun p => (lo ρ).bind fun i => (hi ρ).bind fun j => slD p.1 p.2 i j
theorem rp_cut {H : Hp} {vs : List V} {ds : List PyData} {F : List Addr} (r : RpL K H vs ds F) (lo hi : Option Int) : ∃ G, RpL K H (cutV vs lo hi) (cutD ds lo hi) G ∧ List.Sublist G F := by
  unfold cutV cutD
  rw [r.length]
  obtain ⟨A, B, h1, h2, h3⟩ := r.parts (HT.sIx ds.length 0 lo)
  obtain ⟨A', B', h4, h5, h6⟩ := h3.parts (HT.sIx ds.length ds.length hi - HT.sIx ds.length 0 lo)
  exact ⟨A', h5, by rw [h1, h4]; exact (List.sublist_append_left A' B').trans (List.sublist_append_right A (A' ++ B'))⟩
theorem cutV_whole {us : List V} {i j : Option Int} (w : HT.sIx us.length 0 i = 0 ∧ HT.sIx us.length us.length j = us.length) : cutV us i j = us := by
  unfold cutV
  rw [w.1, w.2, List.drop_zero, Nat.sub_zero, List.take_length]
theorem ve_slice {tl th : TO} {lo hi : Env → Option (Option Int)} (ha : VE K te f) (hl : VO K tl lo) (hh : VO K th hi) : VE K (tSl (rSlAny K) te tl th) (eSl f lo hi) := by
  intro B AF σ H ρ Fs d k S e Q q
  obtain ⟨⟨d1, k1⟩, e1, e⟩ := Option.bind_eq_some_iff.mp e
  obtain ⟨i, e2, e⟩ := Option.bind_eq_some_iff.mp e
  obtain ⟨j, e3, e⟩ := Option.bind_eq_some_iff.mp e
  refine ha B AF σ H ρ Fs d1 k1 S e1 _ fun v H1 F g1 r1 o1 => ?_
  refine hl B AF σ H1 ρ Fs i (S.grow g1) e2 _ fun H2 g2 => ?_
  refine hh B AF σ H2 ρ Fs j ((S.grow g1).grow g2) e3 _ fun H3 g3 => ?_
  have g13 := (g1.trans g2).trans g3
  have rv := (r1.grow g2).grow g3
  unfold slD at e
  cases rv with
  | lst h0 r0 =>
    cases e
    obtain ⟨G, r2, s2⟩ := rp_cut r0 i j
    refine .inl ⟨_, _, rfl, .of h0, fun p hp => q _ _ _ (g13.trans (.new hp)) (rp_lst r2 hp) (kv_lst r2 (o1.1.sub (s2.trans (List.sublist_cons_self ..))) g13 hp)⟩
  | tup h0 r0 =>
    cases e
    obtain ⟨G, r2, s2⟩ := rp_cut r0 i j
    refine .inr (.inl ⟨_, _, rfl, h0.1, fun w => ?_, fun w p ob ho hp => q _ _ _ (g13.trans (.new hp)) (rp_tupN r2 hp ho) (kv_tup r2 (o1.1.sub s2))⟩)
    rw [cutV_whole w] at r2
    exact q _ _ _ g13 (.tup h0 r2) (kv_tup r2 (o1.1.sub s2))
  | str x =>
    simp only at e
    split at e
    · rename_i hz
      cases e
      exact .inr (.inr ⟨x, rfl, le_line hz, q _ _ [] g13 (.str _) .nil⟩)
    · cases e
  | non => cases e
  | bl b => cases e
  | int b => cases e
  | dic a b => cases e
  | pair a b => cases e
  | fn a => cases e

/-! ### built-ins -/
def hLen : List PyData → Option PyData
  | [.list xs] => some (.int (xs.length : Nat))
  | [.tuple xs] => some (.int (xs.length : Nat))
  | [.str x] => if x.length ≤ 1000000 then some (.int (x.length : Nat)) else none
  | _ => none
theorem vf_len : VFf K (fun xs H Q => ∃ x n, xs = [x] ∧ LenV K x H n ∧ Q (.int n) H) hLen := by
  intro H vs ds F d r e Q q
  unfold hLen at e
  split at e
  · cases e
    obtain ⟨v, rfl, r1⟩ := r.one'
    cases r1 with
    | lst h0 r0 => exact ⟨_, _, rfl, .inl ⟨_, .of h0, rfl⟩, by rw [r0.length]; exact q _ H (.refl H) (.int _)⟩
  · cases e
    obtain ⟨v, rfl, r1⟩ := r.one'
    cases r1 with
    | tup h0 r0 => exact ⟨_, _, rfl, .inr ⟨_, h0.1, rfl⟩, by rw [r0.length]; exact q _ H (.refl H) (.int _)⟩
  · split at e
    · rename_i x hz
      cases e
      obtain ⟨v, rfl, r1⟩ := r.one'
      cases r1
      exact ⟨_, _, rfl, ⟨le_line hz, rfl⟩, q _ H (.refl H) (.int _)⟩
    · cases e
  · cases e
def hInt : List PyData → Option PyData
  | [.int i] => some (.int i)
  | [.bool b] => some (.int (if b then 1 else 0))
  | _ => none
theorem vf_int : VFf K (fun xs H Q => (∃ i, xs = [.int i] ∧ Q (.int i) H) ∨ ∃ k, xs = [.bl k] ∧ Q (.int (if k then 1 else 0)) H) hInt := by
  intro H vs ds F d r e Q q
  unfold hInt at e
  split at e
  · cases e
    obtain ⟨v, rfl, r1⟩ := r.one'
    cases r1
    exact .inl ⟨_, rfl, q _ H (.refl H) (.int _)⟩
  · cases e
    obtain ⟨v, rfl, r1⟩ := r.one'
    cases r1
    exact .inr ⟨_, rfl, q _ H (.refl H) (.int _)⟩
  · cases e
/-- str(an int of a size, a text) -/
def rStrA : List V → Hp → VK → Prop := fun xs H Q => (∃ i, xs = [.int i] ∧ i.natAbs.log2 < 1920 ∧ Q (.str (toString i)) H) ∨ ∃ a, xs = [.str a] ∧ Q (.str a) H
def hStr : List PyData → Option PyData
  | [.int i] => if i.natAbs.log2 < 1920 then some (.str (toString i)) else none
  | [.str x] => some (.str x)
  | _ => none
theorem vf_str : VFf K rStrA hStr := by
  intro H vs ds F d r e Q q
  unfold hStr at e
  split at e
  · split at e
    · rename_i hz
      cases e
      obtain ⟨v, rfl, r1⟩ := r.one'
      cases r1
      exact .inl ⟨_, rfl, hz, q _ H (.refl H) (.str _)⟩
    · cases e
  · cases e
    obtain ⟨v, rfl, r1⟩ := r.one'
    cases r1
    exact .inr ⟨_, rfl, q _ H (.refl H) (.str _)⟩
  · cases e
/-- isinstance(e, T), T a built-in class -/
def tyD : PyData → String
  | .none => "NoneType"
  | .bool _ => "bool"
  | .int _ => "int"
  | .str _ => "str"
  | .list _ => "list"
  | .tuple _ => "tuple"
  | .dict _ => "dict"
def isiD (T : String) (d : PyData) : Bool := (kitB (tyD d) T).getD false
def isiOk (T : String) : Bool := (["NoneType", "bool", "int", "str", "list", "tuple", "dict"].all fun a => (kitB a T).isSome)
def isW : PyData → Bool
  | .dict _ => true
  | _ => false
def eIsi (T : String) (f : EF) : EF := fun ρ => (f ρ).bind fun p => if isW p.1 = true then none else some (.bool (isiD T p.1), .mv [])
theorem rp_ty {H : Hp} {v : V} {d : PyData} {F : List Addr} (r : Rp K H v d F) (hw : isW d = false) : TyX K H v (.type (tyD d)) := by
  cases r with
  | non => exact .base .non
  | bl b => exact .base (.bl b)
  | int b => exact .base (.int b)
  | str b => exact .base (.str b)
  | lst h0 r0 => exact .base (.lst h0)
  | tup h0 r0 =>
    rcases h0.1 with (h0 | ⟨o, h0⟩) | ⟨o, its, n, h1, h2, _⟩
    · exact .base (.tup h0)
    · exact .fTuple h0
    · exact .kTuple h1 h2
  | dic h0 u0 r0 => cases hw
  | pair h0 r0 => cases hw
  | fn a => cases hw
theorem ve_isi (T : String) (hT : isiOk T = true) (ha : VE K te f) : VE K (tCB (rIsi K) (tCons te (tCons (tC (.ty T)) tNil))) (eIsi T f) := by
  intro B AF σ H ρ Fs d k S e Q q
  obtain ⟨⟨d1, k1⟩, e1, e2⟩ := Option.bind_eq_some_iff.mp e
  simp only at e2
  split at e2
  · cases e2
  rename_i hw
  cases e2
  refine ha B AF σ H ρ Fs d1 k1 S e1 _ fun v H1 F g1 r1 o1 => ?_
  have hk : kitB (tyD d1) T = some (isiD T d1) := by
    have h2 : (kitB (tyD d1) T).isSome = true := by
      refine List.all_eq_true.mp hT (tyD d1) ?_
      cases d1 <;> simp [tyD]
    unfold isiD
    obtain ⟨b, hb⟩ := Option.isSome_iff_exists.mp h2
    rw [hb]
    rfl
  exact ⟨v, .ty T, .type (tyD d1), .type T, isiD T d1, rfl, .ty T, rp_ty r1 (by simpa using hw), kit_ty hk, q _ H1 [] g1 (.bl _) .nil⟩
/-! ### lists of ints, of truth values -/
def intsOf : List PyData → Option (List Int)
  | [] => some []
  | .int i :: ds => (intsOf ds).map (i :: ·)
  | _ => none
theorem intsOf_rp {H : Hp} : ∀ {ds : List PyData} {ns : List Int} {vs : List V} {F : List Addr}, intsOf ds = some ns → RpL K H vs ds F → vs = ns.map V.int
  | [], ns, vs, F, h, r => by cases h; cases r; rfl
  | .int i :: ds, ns, vs, F, h, r => by
    obtain ⟨ms, e1, e2⟩ := Option.map_eq_some_iff.mp h
    subst e2
    cases r with
    | cons r0 rs =>
      cases r0
      rw [List.map_cons, intsOf_rp e1 rs]
  | .none :: _, _, _, _, h, _ => by cases h
  | .bool _ :: _, _, _, _, h, _ => by cases h
  | .str _ :: _, _, _, _, h, _ => by cases h
  | .list _ :: _, _, _, _, h, _ => by cases h
  | .tuple _ :: _, _, _, _, h, _ => by cases h
  | .dict _ :: _, _, _, _, h, _ => by cases h
def boolsOf : List PyData → Option (List Bool)
  | [] => some []
  | .bool b :: ds => (boolsOf ds).map (b :: ·)
  | _ => none
theorem boolsOf_rp {H : Hp} : ∀ {ds : List PyData} {ns : List Bool} {vs : List V} {F : List Addr}, boolsOf ds = some ns → RpL K H vs ds F → vs = ns.map V.bl
  | [], ns, vs, F, h, r => by cases h; cases r; rfl
  | .bool i :: ds, ns, vs, F, h, r => by
    obtain ⟨ms, e1, e2⟩ := Option.map_eq_some_iff.mp h
    subst e2
    cases r with
    | cons r0 rs =>
      cases r0
      rw [List.map_cons, boolsOf_rp e1 rs]
  | .none :: _, _, _, _, h, _ => by cases h
  | .int _ :: _, _, _, _, h, _ => by cases h
  | .str _ :: _, _, _, _, h, _ => by cases h
  | .list _ :: _, _, _, _, h, _ => by cases h
  | .tuple _ :: _, _, _, _, h, _ => by cases h
  | .dict _ :: _, _, _, _, h, _ => by cases h
def hSum : List PyData → Option PyData
  | [.list ds] => (intsOf ds).map fun ns => .int ns.sum
  | _ => none
def hAny : List PyData → Option PyData
  | [.list ds] => (boolsOf ds).map fun ns => .bool (ns.any id)
  | _ => none
def hAll : List PyData → Option PyData
  | [.list ds] => (boolsOf ds).map fun ns => .bool (ns.all id)
  | _ => none
theorem vf_sum : VFf K (rSum K) hSum := by
  intro H vs ds F d r e Q q
  unfold hSum at e
  split at e
  · obtain ⟨ns, e1, e2⟩ := Option.map_eq_some_iff.mp e
    cases e2
    obtain ⟨v, rfl, r1⟩ := r.one'
    cases r1 with
    | lst h0 r0 => exact ⟨_, ns, rfl, .of (by rw [← intsOf_rp e1 r0]; exact h0), q _ H (.refl H) (.int _)⟩
  · cases e
theorem vf_any : VFf K (rAny K) hAny := by
  intro H vs ds F d r e Q q
  unfold hAny at e
  split at e
  · obtain ⟨ns, e1, e2⟩ := Option.map_eq_some_iff.mp e
    cases e2
    obtain ⟨v, rfl, r1⟩ := r.one'
    cases r1 with
    | lst h0 r0 => exact ⟨_, ns, rfl, .of (by rw [← boolsOf_rp e1 r0]; exact h0), q _ H (.refl H) (.bl _)⟩
  · cases e
theorem vf_all : VFf K (rAll K) hAll := by
  intro H vs ds F d r e Q q
  unfold hAll at e
  split at e
  · obtain ⟨ns, e1, e2⟩ := Option.map_eq_some_iff.mp e
    cases e2
    obtain ⟨v, rfl, r1⟩ := r.one'
    cases r1 with
    | lst h0 r0 => exact ⟨_, ns, rfl, .of (by rw [← boolsOf_rp e1 r0]; exact h0), q _ H (.refl H) (.bl _)⟩
  · cases e
def maxI : List Int → Int
  | [] => 0
  | n :: ns => ns.foldl max n
def minI : List Int → Int
  | [] => 0
  | n :: ns => ns.foldl min n
theorem foldl_max (ns : List Int) : ∀ n : Int, ns.foldl max n ∈ n :: ns ∧ ∀ y ∈ n :: ns, y ≤ ns.foldl max n := by
  induction ns with
  | nil => intro n; exact ⟨List.mem_cons_self .., fun y hy => by rcases List.mem_singleton.mp hy with rfl; exact Int.le_refl _⟩
  | cons m ms ih =>
    intro n
    obtain ⟨h1, h2⟩ := ih (max n m)
    refine ⟨?_, fun y hy => ?_⟩
    · rcases List.mem_cons.mp h1 with h | h
      · show List.foldl max (max n m) ms ∈ _
        rw [h]
        rcases Int.le_total n m with h3 | h3
        · rw [Int.max_eq_right h3]; exact List.mem_cons_of_mem _ (List.mem_cons_self ..)
        · rw [Int.max_eq_left h3]; exact List.mem_cons_self ..
      · exact List.mem_cons_of_mem _ (List.mem_cons_of_mem _ h)
    · show y ≤ List.foldl max (max n m) ms
      have h0 := h2 (max n m) (List.mem_cons_self ..)
      rcases List.mem_cons.mp hy with rfl | hy
      · exact Int.le_trans (Int.le_max_left ..) h0
      · rcases List.mem_cons.mp hy with rfl | hy
        · exact Int.le_trans (Int.le_max_right ..) h0
        · exact h2 y (List.mem_cons_of_mem _ hy)
theorem foldl_min (ns : List Int) : ∀ n : Int, ns.foldl min n ∈ n :: ns ∧ ∀ y ∈ n :: ns, ns.foldl min n ≤ y := by
  induction ns with
  | nil => intro n; exact ⟨List.mem_cons_self .., fun y hy => by rcases List.mem_singleton.mp hy with rfl; exact Int.le_refl _⟩
  | cons m ms ih =>
    intro n
    obtain ⟨h1, h2⟩ := ih (min n m)
    refine ⟨?_, fun y hy => ?_⟩
    · rcases List.mem_cons.mp h1 with h | h
      · show List.foldl min (min n m) ms ∈ _
        rw [h]
        rcases Int.le_total n m with h3 | h3
        · rw [Int.min_eq_left h3]; exact List.mem_cons_self ..
        · rw [Int.min_eq_right h3]; exact List.mem_cons_of_mem _ (List.mem_cons_self ..)
      · exact List.mem_cons_of_mem _ (List.mem_cons_of_mem _ h)
    · show List.foldl min (min n m) ms ≤ y
      have h0 := h2 (min n m) (List.mem_cons_self ..)
      rcases List.mem_cons.mp hy with rfl | hy
      · exact Int.le_trans h0 (Int.min_le_left ..)
      · rcases List.mem_cons.mp hy with rfl | hy
        · exact Int.le_trans h0 (Int.min_le_right ..)
        · exact h2 y (List.mem_cons_of_mem _ hy)
def hMax : List PyData → Option PyData
  | [.list ds] => (intsOf ds).bind fun ns => if ns.isEmpty then none else some (.int (maxI ns))
  | _ => none
def hMin : List PyData → Option PyData
  | [.list ds] => (intsOf ds).bind fun ns => if ns.isEmpty then none else some (.int (minI ns))
  | _ => none
theorem vf_max : VFf K (rMax K) hMax := by
  intro H vs ds F d r e Q q
  unfold hMax at e
  split at e
  · obtain ⟨ns, e1, e2⟩ := Option.bind_eq_some_iff.mp e
    split at e2
    · cases e2
    · cases e2
      obtain ⟨v, rfl, r1⟩ := r.one'
      cases r1 with
      | lst h0 r0 =>
        cases ns with
        | nil => simp at *
        | cons n ns =>
          refine ⟨_, n :: ns, rfl, .of (by rw [← intsOf_rp e1 r0]; exact h0), Nat.succ_pos _, fun m hm hy => ?_⟩
          obtain ⟨h1, h2⟩ := foldl_max ns n
          have : m = maxI (n :: ns) := Int.le_antisymm (h2 m hm) (hy _ h1)
          subst this
          exact q _ H (.refl H) (.int _)
  · cases e
theorem vf_min : VFf K (rMin K) hMin := by
  intro H vs ds F d r e Q q
  unfold hMin at e
  split at e
  · obtain ⟨ns, e1, e2⟩ := Option.bind_eq_some_iff.mp e
    split at e2
    · cases e2
    · cases e2
      obtain ⟨v, rfl, r1⟩ := r.one'
      cases r1 with
      | lst h0 r0 =>
        cases ns with
        | nil => simp at *
        | cons n ns =>
          refine ⟨_, n :: ns, rfl, .of (by rw [← intsOf_rp e1 r0]; exact h0), Nat.succ_pos _, fun m hm hy => ?_⟩
          obtain ⟨h1, h2⟩ := foldl_min ns n
          have : m = minI (n :: ns) := Int.le_antisymm (hy _ h1) (h2 m hm)
          subst this
          exact q _ H (.refl H) (.int _)
  · cases e
/-! ### list(..), tuple(..) -/
def gList : Gn := fun ds k => match ds with
  | [.list xs] => some (.list xs, lstK xs k)
  | [.tuple xs] => some (.list xs, lstK xs k)
  | _ => none
def gTuple : Gn := fun ds k => match ds with
  | [.list xs] => some (.tuple xs, tupK xs k)
  | [.tuple xs] => some (.tuple xs, tupK xs k)
  | _ => none
theorem vf_list : VF K (fun xs H Q => ∃ p ys, xs = [.ref p] ∧ (SqL K H p ys ∨ SqT K H p ys) ∧ ∀ l, H l = none → Q (.ref l) (upd H l (.lst ys))) gList := by
  intro ρ Fs H0 H vs ds F k d k' g r o e Q q
  unfold gList at e
  split at e
  · cases e
    obtain ⟨v, rfl, r1⟩ := r.one'
    cases r1 with
    | lst h0 r0 => exact ⟨_, _, rfl, .inl (.of h0), fun p hp => q _ _ _ (.new hp) (rp_lst r0 hp) (kv_lst r0 (o.sub (List.sublist_cons_self ..)) g hp)⟩
  · cases e
    obtain ⟨v, rfl, r1⟩ := r.one'
    cases r1 with
    | tup h0 r0 => exact ⟨_, _, rfl, .inr h0.1, fun p hp => q _ _ _ (.new hp) (rp_lst r0 hp) (kv_lst r0 o g hp)⟩
  · cases e
theorem vf_tuple : VF K (fun xs H Q => ∃ p ys, xs = [.ref p] ∧ ((SqL K H p ys ∧ ∀ (l : Addr) (o : Obj), o.dict = none → H l = none → Q (.ref l) (upd H l (.frz o (.tup ys)))) ∨ (SqT K H p ys ∧ Q (.ref p) H))) gTuple := by
  intro ρ Fs H0 H vs ds F k d k' g r o e Q q
  unfold gTuple at e
  split at e
  · cases e
    obtain ⟨v, rfl, r1⟩ := r.one'
    cases r1 with
    | lst h0 r0 => exact ⟨_, _, rfl, .inl ⟨.of h0, fun p ob ho hp => q _ _ _ (.new hp) (rp_tupN r0 hp ho) (kv_tup r0 (o.sub (List.sublist_cons_self ..)))⟩⟩
  · cases e
    obtain ⟨v, rfl, r1⟩ := r.one'
    cases r1 with
    | tup h0 r0 => exact ⟨_, _, rfl, .inr ⟨h0.1, q _ _ _ (.refl H) (.tup h0 r0) (kv_tup r0 o)⟩⟩
  · cases e
/-! ### join -/
def strsOf : List PyData → Option (List Str)
  | [] => some []
  | .str i :: ds => (strsOf ds).map (i :: ·)
  | _ => none
theorem strsOf_rp {H : Hp} : ∀ {ds : List PyData} {ns : List Str} {vs : List V} {F : List Addr}, strsOf ds = some ns → RpL K H vs ds F → vs = ns.map V.str
  | [], ns, vs, F, h, r => by cases h; cases r; rfl
  | .str i :: ds, ns, vs, F, h, r => by
    obtain ⟨ms, e1, e2⟩ := Option.map_eq_some_iff.mp h
    subst e2
    cases r with
    | cons r0 rs =>
      cases r0
      rw [List.map_cons, strsOf_rp e1 rs]
  | .none :: _, _, _, _, h, _ => by cases h
  | .int _ :: _, _, _, _, h, _ => by cases h
  | .bool _ :: _, _, _, _, h, _ => by cases h
  | .list _ :: _, _, _, _, h, _ => by cases h
  | .tuple _ :: _, _, _, _, h, _ => by cases h
  | .dict _ :: _, _, _, _, h, _ => by cases h
def rJoin (K : PySem.W.Frag) : V → List V → Hp → VK → Prop := fun x xs H Q => ∃ a p, ∃ ys : List Str, x = .str a ∧ xs = [.ref p] ∧ (SqL K H p (ys.map V.str) ∨ SqT K H p (ys.map V.str)) ∧
  (ys.map (·.length)).sum + ys.length * a.length ≤ 16777216 ∧ Q (.str (Txt.join a ys)) H
def joinD (a d : PyData) : Option PyData := match a, d with
  | .str a, .list ds => (strsOf ds).bind fun ys => if (ys.map (·.length)).sum + ys.length * a.length ≤ 1000000 then some (.str (Txt.join a ys)) else none
  | _, _ => none
def eM1 (h : PyData → PyData → Option PyData) (f g : EF) : EF := fun ρ => (f ρ).bind fun p => (g ρ).bind fun q => match p.1 with
  | .str _ => (h p.1 q.1).map fun d => (d, .mv [])
  | _ => none
theorem ve_join (ha : VE K ta f) (hb : VE K tb g) : VE K (tM1 (rJoin K) ta tb) (eM1 joinD f g) := by
  intro B AF σ H ρ Fs d k S e Q q
  obtain ⟨⟨d1, k1⟩, e1, e⟩ := Option.bind_eq_some_iff.mp e
  obtain ⟨⟨d2, k2⟩, e2, e⟩ := Option.bind_eq_some_iff.mp e
  simp only at e
  split at e
  case h_2 => cases e
  rename_i a
  obtain ⟨d3, e3, e4⟩ := Option.map_eq_some_iff.mp e
  cases e4
  refine ha B AF σ H ρ Fs _ k1 S e1 _ fun v H1 F g1 r1 o1 => ?_
  cases r1
  refine ⟨⟨_, rfl⟩, hb B AF σ H1 ρ Fs d2 k2 (S.grow g1) e2 _ fun u H2 G g2 r2 o2 => ?_⟩
  unfold joinD at e3
  split at e3
  · rename_i a' ds z
    cases z
    obtain ⟨ys, e5, e6⟩ := Option.bind_eq_some_iff.mp e3
    split at e6
    · rename_i hz
      cases e6
      cases r2 with
      | lst h0 r0 =>
        have := strsOf_rp e5 r0
        subst this
        exact ⟨_, _, ys, rfl, rfl, .inl (.of h0), Nat.le_trans hz (by decide), q _ H2 [] (g1.trans g2) (.str _) .nil⟩
    · cases e6
  · cases e3
/-! ### a star in a display -/
def aStar (f : EF) (g : AFn) : AFn := fun ρ => (f ρ).bind fun p => (g ρ).bind fun q => (iterD p.1).map fun ds => (ds ++ q.1, aj p.2 q.2)
theorem aj_sub {ρ : Env} {Fs : Nat → List Addr} {H : Hp} {F G : List Addr} {k : Kd} (o : KO ρ Fs H G k) (s : List.Sublist F G) : KO ρ Fs H F k := o.sub s
theorem va_star (h1 : VE K te f) (h2 : VA K t fa) : VA K (StX.tStar K te t) (aStar f fa) := by
  intro B AF σ H ρ Fs ds k S e Q q
  obtain ⟨⟨d, k1⟩, e1, e⟩ := Option.bind_eq_some_iff.mp e
  obtain ⟨⟨ds2, k2⟩, e2, e⟩ := Option.bind_eq_some_iff.mp e
  obtain ⟨ds1, e3, e4⟩ := Option.map_eq_some_iff.mp e
  cases e4
  refine h1 B AF σ H ρ Fs d k1 S e1 _ fun v H1 F g1 r1 o1 => ?_
  cases d with
  | list xs =>
    cases e3
    cases r1 with
    | lst h0 r0 =>
      refine ⟨_, _, rfl, .inr (.of h0), h2 B AF σ H1 ρ Fs ds2 k2 (S.grow g1) e2 _ fun vs H2 G g2 r2 o2 => ?_⟩
      exact q _ H2 _ (g1.trans g2) (RpL.app (r0.grow g2) r2) (KO.join S g1 (o1.1.sub (List.sublist_cons_self ..)) (fun a ha => r0.stn ha) o2)
  | tuple xs =>
    cases e3
    cases r1 with
    | tup h0 r0 =>
      refine ⟨_, _, rfl, .inl h0.1, h2 B AF σ H1 ρ Fs ds2 k2 (S.grow g1) e2 _ fun vs H2 G g2 r2 o2 => ?_⟩
      exact q _ H2 _ (g1.trans g2) (RpL.app (r0.grow g2) r2) (KO.join S g1 o1.1 (fun a ha => r0.stn ha) o2)
  | none => cases e3
  | bool _ => cases e3
  | int _ => cases e3
  | str _ => cases e3
  | dict _ => cases e3
end
end Va

/-! Va11: the rules of the syntax that these readings want; calls; repr; the law's end. -/
namespace Va
open PySem L2 PyProof.Rows

section
variable {X : Cx}
theorem op_addA : OpR X (binaryOp .Add) (rAddA X.K) := op_add.or (op_add_str.or (op_cat.or op_catN))
theorem op_mulA : OpR X (binaryOp .Mult) rMulA := op_mul.or op_rep
theorem op_eqA (hu : X.A.units + 64 < cLine) : OpR X (compareOp .Eq) (fun x y H Q => rEqD X.K x y H Q ∨ rEq x y H Q) := (op_eqD hu).or op_eq
theorem op_neA (hu : X.A.units + 64 < cLine) : OpR X (compareOp .NotEq) (fun x y H Q => rNeD X.K x y H Q ∨ rNe x y H Q) := (op_neD hu).or op_ne
theorem sl_any : SlR X (rSlAny X.K) := sl_list.or (sl_tupN.or sl_str)
theorem call_strA : CallR X (.type "str") rStrA := call_str_int.or SkE.call_str_str
theorem pi_any {tg l : Expr} {tl : TE} (hl : PE X l tl) : PI X tg l (iAny X.K tl) :=
  ⟨fun pins s σ H R I h => h.elim ((pi_list hl).run pins s σ H R I) ((pi_tup hl).run pins s σ H R I)⟩
end

/-- the def x: of n parameters, at the level k, does m -/
structure Cl (P : Program) (w : World) (K : PySem.W.Frag) (mg : Str → Option Value) (base : Heap) (x : Str) (k n : Nat) (m : MF) : Prop where
  ex : ∃ (f : Addr) (fd : FuncData) (ps : List Str), FnOk P w K mg base CX0 k f fd ps (spOf K n m) ∧ mg x = some (.ref f) ∧ PySem.W.keepIn K (.ref f) = true ∧ Binds K fd ps []
theorem pe_callC {X : Cx} {x : Str} {k j n : Nat} {m : MF} {e : Expr} {es : List Expr} {t : TA} {p pos : Pos} (C : Cl X.prog X.w X.K X.mg X.base x k n m) (hr : Room j X.A) (hj : k ≤ j) (ha : PA X (e :: es) t)
    (hg : Gl X x := by rfl) (hd : (x == ("__debug__" : Str)) = false := by decide) (he : starEach (e :: es) X.env = (false, eval e X.env) :: starEach es X.env := by rfl)
    (hp : (backTo pos (starEach es X.env)).any (·.1) = false := by rfl) : PE X (.Call (.Name x p) (e :: es) [] pos) (tCall (spOf X.K n m) [] E0 t) := by
  obtain ⟨f, fd, ps, F, h1, h2, h3⟩ := C.ex
  exact pe_call F (hr.mono hj) hg h1 h2 h3 .nil pass0 ha hd he hp

/-! ### repr -/
def rRepr (K : PySem.W.Frag) : List V → Hp → VK → Prop := fun vs H Q => ∃ x d, vs = [x] ∧ Dp K H x d ∧ PyData.showable d = true ∧ PyData.canLay0 d = true ∧ d.depth ≤ 60 ∧ d.shown.length ≤ sizeLine ∧ Q (.str d.shown) H
theorem hasDict_of : ∀ {d : PyData}, PyData.canLay0 d = true → d.hasDict = false := by
  intro d
  refine PyData.rec (motive_1 := fun d => PyData.canLay0 d = true → d.hasDict = false) (motive_2 := fun ds => PyData.canLayAll0 ds = true → PyData.hasDictAll ds = false) (motive_3 := fun _ => True) (motive_4 := fun _ => True) ?_ ?_ ?_ ?_ ?_ ?_ ?_ ?_ ?_ ?_ ?_ ?_ d
  · intro _; rfl
  · intro _ _; rfl
  · intro _ _; rfl
  · intro _ _; rfl
  · intro xs ih h; simp only [PyData.canLay0] at h; simp only [PyData.hasDict]; exact ih h
  · intro xs ih h; simp only [PyData.canLay0] at h; simp only [PyData.hasDict]; exact ih h
  · intro kvs _ h; simp [PyData.canLay0] at h
  · intro _; rfl
  · intro x xs h1 h2 h
    simp only [PyData.canLayAll0, Bool.and_eq_true] at h
    simp only [PyData.hasDictAll, h1 h.1, h2 h.2, Bool.or_self]
  · trivial
  · intros; trivial
  · intros; trivial
theorem cr_repr {X : Cx} (hg : X.A.guards = some []) (hu : X.A.units + 64 < cLine) : CallR X (.builtin "repr") (rRepr X.K) := by
  intro pins s σ H vs us Q I r h
  obtain ⟨x, d, rfl, hd, h1, h2, h3, h4, q⟩ := h
  obtain ⟨u, rfl, rx⟩ := vals1 r
  obtain ⟨as, rd⟩ := Dp.reads I d x u hd rx
  have fin : ∀ h' u' tk, (∀ b o, s.heap.get? b = some o → h'.get? b = some o) → EP X pins σ Q (.str d.shown u') { s with heap := h', toks := tk } := fun h' u' tk hk => ⟨.str d.shown, H, I.kept hk, ⟨u', rfl⟩, q⟩
  have ref : ∀ a, u = .ref a → wpAny (model X.prog X.w) X.A (call (.builtin "repr") [u]) (EP X pins σ Q) X.xe s := fun a e => by
    subst e
    exact repr_of_reads' rd h1 (fun e => by rw [hasDict_of h2] at e; cases e) hg (by omega) (fun _ _ e => e) (fun h' u' tk hk => fin h' u' tk hk) h4
  cases hd with
  | lst h0 r0 => cases rx; exact ref _ rfl
  | tup h0 r0 => cases rx; exact ref _ rfl
  | non => cases rx; exact PySem.P.repr_of_none (fin s.heap _ _ fun _ _ e => e)
  | bl b => cases rx; exact PySem.P.repr_of_bool (fin s.heap _ _ fun _ _ e => e)
  | int i =>
    obtain ⟨t, rfl⟩ := rx
    simp only [PyData.showable, decide_eq_true_eq] at h1
    exact PySem.P.repr_of_int h1 (fin s.heap _ _ fun _ _ e => e)
  | str z =>
    obtain ⟨t, rfl⟩ := rx
    exact PySem.P.repr_of_str (fin s.heap _ _ fun _ _ e => e) h4
def reprOk (d : PyData) : Bool := PyData.showable d && PyData.canLay0 d && decide (d.depth ≤ 60) && decide (d.shown.length ≤ 1000000)
def hRepr : List PyData → Option PyData
  | [d] => if reprOk d = true then some (.str d.shown) else none
  | _ => none
theorem vf_repr {K : PySem.W.Frag} : VFf K (rRepr K) hRepr := by
  intro H vs ds F d r e Q q
  unfold hRepr at e
  split at e
  · split at e
    · rename_i d' h
      cases e
      obtain ⟨v, rfl, r1⟩ := r.one'
      simp only [reprOk, Bool.and_eq_true, decide_eq_true_eq] at h
      exact ⟨v, d', rfl, r1.dp h.1.1.2, h.1.1.1, h.1.1.2, h.1.2, le_line h.2, q _ H (.refl H) (.str _)⟩
    · cases e
  · cases e

/-! ### a law: what it does to a list of ints -/
/-- as FnOk, where no repr runs around -/
structure FnG (P : Program) (w : World) (K : PySem.W.Frag) (mg : Str → Option Value) (base : Heap) (k : Nat) (f : Addr) (fd : FuncData) (ps : List Str) (sp : Sp) : Prop where
  len : ∀ vs H Q E, sp vs H Q E → vs.length = ps.length
  run : ∀ (A : Around) (outer : List PySem.Env) (s : Shared) (H : Hp) (args : Args) (us : List Value) (vs : List V) (Q : VK) (E : XK), A.guards = some [] → Room k A → Env0 P w K mg base A outer s H →
    BindsTo s fd args (ps.zip us) → Vals vs us → sp vs H Q E → codeAny (model P w) A (.call (.ref f) args) (CR CX0 outer P w H s Q E) s

/-- the body of such a def, where it is known that no repr runs around -/
theorem fnG_of {P : Program} {w : World} {K : PySem.W.Frag} {mg : Str → Option Value} {base : Heap} {x qual : Str} {st : Stmt} {f : Addr} {fd : FuncData} {N ps : List Str} {k : Nat} {sp : Sp} (F : Fun K x qual st f fd) (S : FnScope N ps (defScope st)) (len : ∀ vs H Q E, sp vs H Q E → vs.length = ps.length)
    (hbody : ∀ (cdv : Value) (A : Around) (outer : List PySem.Env) (s : Shared) (H : Hp) (vs : List V) (Q : VK) (E : XK), A.guards = some [] → Room k (A.deeper (envOfC qual (defScope st) s.heap.objs.size f cdv)) → sp vs H Q E →
      ∃ t, PSs (cxOf CX0 P w K mg base N qual (defScope st) f cdv A outer s H E).nox (defBody st) t ∧ t { nx := fun _ H' => Q .non H', rt := Q } (L2.start N vs) H) : FnG P w K mg base (k + 1) f fd ps sp := by
  obtain ⟨oc, od, kV, doc, pm, an, cdv, ct, osl, rfl, lk, hcd⟩ := F.ex
  constructor
  · exact len
  intro A outer s H args us vs Q E gd room e0 bd rel hs
  have inn : ∀ b o, base.get? b = some o → s.heap.get? b = some o := fun b o e => (e0.bs b o e).1
  have KX : K.In s.heap := e0.mod.kin.keeps inn
  have lim := e0.mod.nolimit.keeps inn
  have kinds : ∀ y ∈ ps.zip us, (defScope st).names.lookup y.1 = some .local ∨ ((defScope st).names.lookup y.1 = some .cell ∧ ((PySem.cellsFrom (s.heap.objs.size + 1) (defScope st).names []).lookup y.1).isSome = true) := by
    rintro ⟨n, v⟩ hy
    rcases S.par n (List.of_mem_zip hy).1 with z | z
    · exact .inl z
    · exact .inr ⟨z, PySem.W.cellsFrom_some _ _ _ (.inl z)⟩
  refine codeAny_call_function room.depth (KX _ _ lk) rfl S.co S.gen rfl (PySem.W.codeRec_of KX hcd) (bd _ _ _ _ ?_)
  refine wpAny_newFunctionEnv_cells S.kind kinds fun env he s1 x => ?_
  subst he
  refine ⟨lim.keeps x.toInCall.keep, codeAny_func ?_⟩
  obtain ⟨t, ht, hq⟩ := hbody cdv A outer s H vs Q E gd (room.deeper _) hs
  have I := inv_start (CX := CX0) (P := P) (w := w) (K := K) (mg := mg) (base := base) (E := E) S room.hd e0 (len _ _ _ _ hs) rel x
  refine wpAny_mono (ht.nox.run [] s1 _ H _ I hq) (fun fl s' z => ?_) fun _ _ z => z
  cases fl with
  | ret u =>
    obtain ⟨v, σ', H', J, rv, q⟩ := z
    exact ⟨v, H', J.os, J.bare, J.base, J.hok, rv, q⟩
  | next =>
    obtain ⟨σ', H', J, q⟩ := z
    exact ⟨.non, H', J.os, J.bare, J.base, J.hok, rfl, q⟩
  | brk => obtain ⟨_, _, _, q⟩ := z; exact q.elim
  | cont => obtain ⟨_, _, _, q⟩ := z; exact q.elim

/-- the script alone is tracked, as a thing that the model knows -/
def scriptH (K : PySem.W.Frag) (a : Addr) (o : Obj) (vs : List V) : Hp := fun b => if b = a ∧ K.lookup a = none then some (.frz o (.lst vs)) else none
theorem scriptH_some {K : PySem.W.Frag} {a b : Addr} {o : Obj} {vs : List V} {u : HO} (h : scriptH K a o vs b = some u) : b = a ∧ K.lookup a = none ∧ u = .frz o (.lst vs) := by
  unfold scriptH at h
  split at h
  · rename_i hc
    cases h
    exact ⟨hc.1, hc.2, rfl⟩
  · cases h
/-- a def that keeps its promise at the law's entry, called there -/
theorem enter_G {P : Program} {w : World} {K : PySem.W.Frag} {mg mb : Str → Option Value} {k : Nat} {fa a : Addr} {fd : FuncData} {x : Str} {sp : Sp} {s : Shared} {vs : List Value} {ns : List Int}
    (KX : K.In s.heap) (hm : s.heap.Ns mainGlobals mg) (hb : s.heap.Ns builtinsNs mb) (hbb : ∀ y : Str, y ≠ "__name__" → mb y = bootBuiltins y) (lim : s.heap.NoLimit) (hg : s.gens = #[])
    (ha : s.heap.get? a = some { cls := .type "list", data := .seq vs.toArray }) (hi : IntsAre vs ns) (hl : ns.length ≤ sizeLine) (room : Room k callerA)
    (F : ∀ base : Heap, K.In base → base.Ns mainGlobals mg → FnG P w K mg base k fa fd [x] sp) (bd : ∀ (s : Shared) (u : Value), BindsTo s fd ⟨[u], []⟩ [(x, u)])
    (hsp : ∀ H : Hp, SqL K H a (ns.map V.int) → sp [.ref a] H (fun v _ => v = .bl true) fun _ _ _ => False) :
    codeAny (model P w) callerA (.call (.ref fa) ⟨[.ref a], []⟩) (fun r s' => r = .ok (.ret (.bool true)) ∧ OldK s.heap s'.heap ∧ s'.os = s.os ∧ AllBare s'.gens) s := by
  have rel := vals_ints hi
  let o : Obj := { cls := .type "list", data := .seq vs.toArray }
  let H := scriptH K a o (ns.map V.int)
  -- a thing that is tracked is the script
  have only : ∀ {b : Addr} {u : HO}, H b = some u → b = a ∧ K.lookup a = none ∧ u = .frz o (.lst (ns.map V.int)) := fun e => scriptH_some e
  have notd : ∀ {b : Addr} {ob : Obj} {es : Array DictEntry} {n : Nat}, s.heap.get? b = some ob → ob.data = .dict es n → H b = none := fun {b ob es n} e d => by
    cases q : H b with
    | none => rfl
    | some u =>
      obtain ⟨rfl, _, _⟩ := only q
      rw [ha] at e
      cases e
      have d' : Data.seq vs.toArray _ = Data.dict es n := d
      cases d'
  have sqK : SqL K H a (ns.map V.int) := by
    cases hk : K.lookup a with
    | none => exact .inl (.inr ⟨o, if_pos ⟨rfl, hk⟩⟩)
    | some ok =>
      have e := KX a ok hk
      rw [ha] at e
      cases e
      refine .inr ⟨_, vs.toArray, _, hk, rfl, rfl, rfl, ?_, by simpa using rel⟩
      rw [List.size_toArray, hi.length]
      exact hl
  have hok : HOk P w H s.heap := fun b u e => by
    obtain ⟨rfl, _, rfl⟩ := only e
    refine ⟨ha, ?_, vs, _, rel, ha⟩
    rw [List.length_map]
    exact hl
  let base := hidT s.heap H
  have toB : ∀ {b : Addr} {ob : Obj}, s.heap.get? b = some ob → H b = none → base.get? b = some ob := fun e n => hidT_get e n
  have nsB : ∀ {b : Addr} {m : Str → Option Value}, s.heap.Ns b m → base.Ns b m := fun ⟨ob, es, n, e, d, r⟩ => ⟨ob, es, n, toB e (notd e d), d, r⟩
  have KB : K.In base := fun b ob e => toB (KX b ob e) (by
    cases q : H b with
    | none => rfl
    | some u =>
      obtain ⟨rfl, z, _⟩ := only q
      rw [z] at e
      cases e)
  have M : Mod K mg base := ⟨KB, nsB hm, ⟨mb, nsB hb, hbb⟩, lim.elim fun mc z => ⟨mc, nsB z.1, z.2⟩⟩
  have e0 : Env0 P w K mg base callerA [] s H := by
    refine ⟨rfl, M, fun b ob e => of_hidT e, Nat.le_of_eq (hidT_size _ _), trivial, fun b hb => ?_, hok, .of_eq hg⟩
    exact absurd (show b ∈ ([] : List Addr) from hb) List.not_mem_nil
  refine codeAny_mono ((F base KB (nsB hm)).run callerA [] s H ⟨[.ref a], []⟩ [.ref a] [.ref a] _ _ rfl room e0 (bd s (.ref a)) (.cons rfl .nil) (hsp H sqK)) fun r s' z => ?_
  cases r with
  | error e => exact z.elim
  | ok fl =>
    cases fl with
    | next => exact z.elim
    | brk => exact z.elim
    | cont => exact z.elim
    | ret u =>
      obtain ⟨v, H', os, bare, un, hok', rv, q⟩ := z
      have q' : v = .bl true := q
      subst q'
      obtain rfl : u = Value.bool true := rv
      refine ⟨rfl, OldK.of_keep fun b ob e => ?_, os, bare⟩
      cases y : H b with
      | none => exact un.keep b ob e y (fun z => absurd (show b ∈ ([] : List Addr) from z) List.not_mem_nil) List.not_mem_nil
      | some u =>
        obtain ⟨rfl, _, rfl⟩ := only y
        obtain ⟨e1, _⟩ := hok' b _ (un.frzs b o _ y)
        rw [ha] at e
        cases e
        exact e1
/-- what a law is to do: its def, called with a list of at most 63 ints, gives True -/
def spLaw (K : PySem.W.Frag) : Sp := fun vs H Q _ => ∃ (a : Addr) (ns : List Int), vs = [.ref a] ∧ SqL K H a (ns.map V.int) ∧ ns.length ≤ 63 ∧ ∀ H', Q (.bl true) H'
theorem walk_G {l : PySem.W.OpenLaw} {k : Nat} {q : Program} {loose : List Str} {XP : (Str → Option Value) → Heap → Prop} {YP : World → Heap → Prop} {d : DefRec} {K : Params → PySem.W.Frag} {x : Str}
    (hn : l.most = some 63) (hdf : d.params.defaults = []) (room : Room k callerA) (hY : ∀ (w : World) (h : Heap), YP w h → (K w.params).In h)
    (F : ∀ (w : World) (mg : Str → Option Value) (fa : Addr) (h : Heap), (K w.params).In h → h.Ns mainGlobals mg → mg d.name = some (.ref fa) →
      ∃ fd : FuncData, (∀ (s : Shared) (u : Value), BindsTo s fd ⟨[u], []⟩ [(x, u)]) ∧ ∀ base : Heap, (K w.params).In base → base.Ns mainGlobals mg → FnG l.prog w (K w.params) mg base k fa fd [x] (spLaw (K w.params))) :
    PySem.W.WalkO q loose XP YP l.row.toRowW d [] (fun f vs => PySem.call f vs) := by
  refine Att.attach_call hn hdf fun w s0 s1 mg mb fa o pm cd doc a vs ns G Y ho hd hcd hmg hobj hints hlen hg => ?_
  have KX := hY w _ Y
  obtain ⟨fd, hb, hF⟩ := F w mg fa _ KX G.T.g hmg
  exact enter_G KX G.T.g G.T.b G.T.builtins G.T.nolimit hg hobj hints (Nat.le_trans hlen (by rw [sizeLine_eq]; decide)) room hF hb fun H hS => ⟨a, ns, rfl, hS, hlen, fun _ => rfl⟩
end Va

/-! Va12: a, b = ..; the laws' draws. -/
namespace Va
open PySem L2

section
variable {K : PySem.W.Frag} {Wx : WxT} {te : TE} {f : EF} {g : TG} {st : SG} {ns : List Nat}
/-- a, b, .. = value -/
def sAsgT (st : SG) (f : EF) : SF := fun ρ => (f ρ).bind fun p => (st p.1 (dem p.2.src ρ)).map .nx
theorem vs_asgT (hg : VG K ns g st) (h : VE K te f) : VS K Wx ns (tAsg te g) (sAsgT st f) := by
  intro B AF σ H ρ Fs o S e D p
  obtain ⟨⟨d, k⟩, e1, e2⟩ := Option.bind_eq_some_iff.mp e
  obtain ⟨ρ', e3, e4⟩ := Option.map_eq_some_iff.mp e2
  subst e4
  refine h B AF σ H ρ Fs d k S e1 _ fun v H1 F g1 r1 o1 => ?_
  have less : ∀ (i : Nat) (d : PyData) (m : Nat), (dem k.src ρ)[i]? = some (some (d, m)) → ∃ m0, ρ[i]? = some (some (d, m0)) ∧ (m = m0 ∨ m = 0) := fun i d m q => let ⟨m0, q0, q1, _⟩ := dem_get q; ⟨m0, q0, q1⟩
  have S1 : SR K B AF σ H1 (dem k.src ρ) Fs := (S.grow g1).less (dem_len _) less
  have fr : Free (dem k.src ρ) Fs F := fun j e n q a ha hF => by
    obtain ⟨n0, q0, q1, q2⟩ := dem_get q
    rcases o1.1.any a hF with z | ⟨l, hl, ⟨d', m', z⟩, ma⟩
    · exact S.there q0 (Mf_sub ha) z
    · by_cases e' : j = l
      · subst e'
        rw [q2 hl, Mf0] at ha; cases ha
      · exact S.dis j l e n0 d' m' q0 z e' a (Mf_le q1 ha) ma
  refine hg B AF σ H1 _ ρ' Fs v d F S1 r1 (rok_of S o1).1 fr e3 _ fun σ' Fs' S' T => p σ' H1 Fs' S' ?_
  refine Fr.from_ (H' := H1) (ρ' := dem k.src ρ) ?_ g1 less
  refine ⟨fun a h => h, fun a o h _ => h, fun j hj d m q a ha => ?_, fun j hj => ?_⟩
  · rw [(T.ins j hj d m q).1] at ha
    cases ha
  · obtain ⟨h1, h2, h3⟩ := T.out j hj
    exact ⟨h1, fun d m q => ⟨m, by rw [← h2]; exact q, h3, fun a ha => ha⟩⟩
end

/-! ### draws -/
def intsD (ds : List Int) : PyData := .list (ds.map PyData.int)
theorem rp_ints {K : PySem.W.Frag} {H : Hp} : ∀ ns : List Int, RpL K H (ns.map V.int) (ns.map PyData.int) []
  | [] => .nil
  | n :: ns => by
    have := RpL.cons (K := K) (H := H) (.int n) (rp_ints ns)
    exact this
theorem flat_ints : ∀ ns : List Int, flatL (ns.map PyData.int) = true
  | [] => rfl
  | n :: ns => by simp only [List.map_cons, flatL, flat, flat_ints ns, Bool.and_self]
def Drawn (n : Nat) (ds : List Int) : Prop := ds.length = n ∧ ∀ d ∈ ds, 0 ≤ d ∧ d < 1000
/-- the def that draws: from the script and a count a new list of that many ints from 0 to 999 -/
def spDraws (K : PySem.W.Frag) : Sp := fun vs H Q _ => ∃ (a : Addr) (ns : List Int) (n : Nat), vs = [.ref a, .int n] ∧ SqL K H a (ns.map V.int) ∧ ns.length ≤ 63 ∧ n ≤ 1000 ∧
  ∀ ds : List Int, Drawn n ds → ∀ v H' G, Grow H H' → Rp K H' v (intsD ds) G → ROk 2 H [] v G → Q v H'
/-- [c for c in script] -/
theorem draw_copy {K : PySem.W.Frag} {σ : L2.St} {H : Hp} {a : Addr} {ns : List Int} {c : Nat} {Q : VK} (h0 : σ[0]? = some (some (.ref a))) (hS : SqL K H a (ns.map V.int)) (hl : ns.length ≤ 63) (hc : c < σ.length)
    (q : ∀ D H', Grow H H' → H D = none → H' D = some (.lst (ns.map V.int)) → Q (.ref D) H') : tLc (iList K (tVar 0)) (gName c) tYes (tVar c) [c] σ H Q := by
  refine ⟨_, h0, a, rfl, ⟨_, hS⟩, fun D hD => ?_⟩
  refine lc_list (xs := ns.map V.int) (fun i H' => Grow H H' ∧ H' D = some (.lst ((ns.map V.int).take i))) ⟨.new hD, upd_same⟩ (fun i H' _ w => ?_) (fun i x H' hx w => ⟨?_, ?_⟩) fun H' w => ?_
  · rcases hS with (h | ⟨o, h⟩) | h
    · exact .inl (.inl (w.1 _ _ h))
    · exact .inl (.inr ⟨o, w.1 _ _ h⟩)
    · exact .inr h
  · exact (wipe_set (x := some x) [c] (wipe σ [c]) (List.mem_singleton.mpr rfl)).trans (wipe_sub [c] fun _ h => h)
  · have hx' : ((wipe σ [c]).set c (some x))[c]? = some (some x) := by
      rw [List.getElem?_set_self]
      rw [wipe_length]
      exact hc
    refine ⟨x, hx', (ns.map V.int).take i, w.2, ?_, fun b o e => ?_, ?_⟩
    · have : ((ns.map V.int).take i).length ≤ 63 := by
        rw [List.length_take, List.length_map]
        omega
      exact lt_line (by omega)
    · have : b ≠ D := by
        rintro rfl
        rw [hD] at e; cases e
      rw [upd_ne this]
      exact w.1 b o e
    · rw [upd_same]
      obtain ⟨h1, h2⟩ := List.getElem?_eq_some_iff.mp hx
      rw [List.take_succ_eq_append_getElem h1, h2]
  · have e := w.2
    rw [List.take_length] at e
    exact q D H' w.1 hD e
/-- the state with one own list of ints, at i -/
theorem sr_one {K : PySem.W.Frag} {H H' : Hp} {σ : L2.St} {i : Nat} {v : V} {ds : List Int} {G : List Addr} (hi : i < σ.length) (g : Grow H H') (r : Rp K H' v (intsD ds) G) (o : ROk 2 H [] v G) :
    SR K H [] (σ.set i (some v)) H' ((List.replicate σ.length none).set i (some (intsD ds, 2))) (fun _ => G) := by
  have live : ∀ (j : Nat) (d : PyData) (m : Nat), ((List.replicate σ.length (none : Sl)).set i (some (intsD ds, 2)))[j]? = some (some (d, m)) → j = i ∧ d = intsD ds ∧ m = 2 := by
    intro j d m q
    rcases set_some q with ⟨h, z⟩ | ⟨_, z⟩
    · cases z; exact ⟨h, rfl, rfl⟩
    · rw [List.getElem?_replicate] at z
      split at z <;> cases z
  refine ⟨by simp, g, fun j d m q => ?_, fun j j' d m d' m' q q' ne a ha => ?_⟩
  · obtain ⟨rfl, rfl, rfl⟩ := live j d m q
    obtain ⟨o1, o2, _⟩ := o
    obtain ⟨n1, n2⟩ := o2 rfl
    exact ⟨v, by rw [List.getElem?_set_self hi], r, fun a ha => .inl (n2 a ha), fun a ha => n2 a ha, fun z => (nomatch z), fun _ => n1⟩
  · obtain ⟨rfl, _, _⟩ := live j d m q
    obtain ⟨rfl, _, _⟩ := live j' d' m' q'
    exact absurd rfl ne
/-- a law that draws n numbers into the slot i and then goes on -/
theorem law_draws {K : PySem.W.Frag} {Wx : WxT} {wr : List Nat} {tr : TS} {f : SF} {N : List Str} {i n : Nat} {vs : List V} {H : Hp} {Q : VK} {E : XK} (h : VS K Wx wr tr f) (hs : spLaw K vs H Q E) (hn : n ≤ 1000) (hi : i < N.length) (h0 : 0 < N.length)
    (hf : ∀ ds : List Int, Drawn n ds → f ((List.replicate N.length none).set i (some (intsD ds, 2))) = some (.rt (.bool true) 2)) :
    tSeq (tAsg (tCall (spDraws K) [] E0 (tCons (tVar 0) (tCons (tC (.int (n : Nat))) tNil))) (gName i)) tr { nx := fun _ H' => Q .non H', rt := Q } (L2.start N vs) H := by
  obtain ⟨a, ns, rfl, hS, hl, q⟩ := hs
  have ln : (L2.start N [V.ref a]).length = N.length := by
    unfold L2.start
    simp only [List.length_append, List.length_map, List.length_replicate, List.length_cons, List.length_nil]
    omega
  refine ⟨_, rfl, a, ns, n, rfl, hS, hl, hn, fun ds hd v H' G g r o => ?_⟩
  have S := sr_one (σ := L2.start N [V.ref a]) (by rw [ln]; exact hi) g r o
  rw [ln] at S
  refine h H [] _ H' _ _ _ S (hf ds hd) _ ?_
  intro v' H2 G' g2 r2 _
  rw [rp_bool r2]
  exact q H2
end Va

/-! Va13: calls with keywords; loops by an invariant; the draws. -/
namespace Va
open PySem L2 PyProof.Rows

def noX : WxT := fun _ _ _ _ => True
def eIf (c : Env → Option Bool) (f g : EF) : EF := fun ρ => (c ρ).bind fun x => if x = true then f ρ else g ρ
theorem spDraws_len {K : PySem.W.Frag} {vs : List V} {H : Hp} {Q : VK} {E : XK} (h : spDraws K vs H Q E) : vs.length = 2 := by
  obtain ⟨a, ns, n, rfl, _⟩ := h
  rfl
theorem spLaw_len {K : PySem.W.Frag} {vs : List V} {H : Hp} {Q : VK} {E : XK} (h : spLaw K vs H Q E) : vs.length = 1 := by
  obtain ⟨a, ns, rfl, _⟩ := h
  rfl
/-! ### calls -/
structure Cd (P : Program) (w : World) (K : PySem.W.Frag) (mg : Str → Option Value) (base : Heap) (x : Str) (k : Nat) : Prop where
  ex : ∃ (f : Addr) (fd : FuncData) (ps : List Str), FnOk P w K mg base CX0 k f fd ps (spDraws K) ∧ mg x = some (.ref f) ∧ PySem.W.keepIn K (.ref f) = true ∧ Binds K fd ps []
theorem pe_callD {X : Cx} {x : Str} {k j : Nat} {e : Expr} {es : List Expr} {t : TA} {p pos : Pos} (C : Cd X.prog X.w X.K X.mg X.base x k) (hr : Room j X.A) (hj : k ≤ j) (ha : PA X (e :: es) t)
    (hg : Gl X x := by rfl) (hd : (x == ("__debug__" : Str)) = false := by decide) (he : starEach (e :: es) X.env = (false, eval e X.env) :: starEach es X.env := by rfl)
    (hp : (backTo pos (starEach es X.env)).any (·.1) = false := by rfl) : PE X (.Call (.Name x p) (e :: es) [] pos) (tCall (spDraws X.K) [] E0 t) := by
  obtain ⟨f, fd, ps, F, h1, h2, h3⟩ := C.ex
  exact pe_call F (hr.mono hj) hg h1 h2 h3 .nil pass0 ha hd he hp
/-- .. with keyword-only parameters, none of them with a default: np positional ones, the keywords ks -/
structure Ck (P : Program) (w : World) (K : PySem.W.Frag) (mg : Str → Option Value) (base : Heap) (x : Str) (k n : Nat) (m : MF) (np : Nat) (ks : List Str) : Prop where
  ex : ∃ (f : Addr) (fd : FuncData) (ps : List Str), FnOk P w K mg base CX0 k f fd ps (spOf K n m) ∧ mg x = some (.ref f) ∧ PySem.W.keepIn K (.ref f) = true ∧ KBn K fd ps np ks (fun us ws => us ++ ws) (fun vs zs => vs ++ zs)
theorem pe_callKC {X : Cx} {x : Str} {k j n np : Nat} {m : MF} {ks : List Str} {e : Expr} {es : List Expr} {kws : List Keyword} {t tk : TA} {p pos : Pos} (C : Ck X.prog X.w X.K X.mg X.base x k n m np ks) (hr : Room j X.A) (hj : k ≤ j) (ha : PA X (e :: es) t) (hk : PK X kws tk)
    (hg : Gl X x := by rfl) (h1 : (backToKw pos (keywordEach kws X.env)).all (·.1.isSome) = true := by rfl) (h2 : (backToKw pos (keywordEach kws X.env)).filterMap (·.1) = ks := by rfl)
    (hd : (x == ("__debug__" : Str)) = false := by decide) (he : starEach (e :: es) X.env = (false, eval e X.env) :: starEach es X.env := by rfl)
    (hp : ((backTo pos (starEach (e :: es) X.env)).any (·.1) || (backToKw pos (keywordEach kws X.env)).any (·.1.isNone)) = false := by rfl) :
    PE X (.Call (.Name x p) (e :: es) kws pos) (tCallN np ks.length (spOf X.K n m) (fun vs zs => vs ++ zs) E0 t tk) := by
  obtain ⟨f, fd, ps, F, a1, a2, a3⟩ := C.ex
  exact pe_callN F (hr.mono hj) hg a1 a2 a3 pass0 ha hk h1 h2 hd he hp
theorem kbinds_of {K : PySem.W.Frag} {x qual : Str} {st : Stmt} {f : Addr} {fd : FuncData} {ps ks : List Str} {np : Nat} (F : Fun K x qual st f fd)
    (h : ∀ (us ws : List Value) (kV doc pm : Value) (an : Option Addr) (cdv ct : Value), us.length = np → ws.length = ks.length → bindArgs (PySem.W.fnOf x qual (defArgs st) (defBody st) (defScope st) .none kV doc pm an cdv ct) ⟨us, ks.zip ws⟩ = pure (ps.zip (us ++ ws))) :
    KBn K fd ps np ks (fun us ws => us ++ ws) (fun vs zs => vs ++ zs) := by
  obtain ⟨oc, od, kV, doc, pm, an, cdv, ct, osl, rfl, lk, hcd⟩ := F.ex
  exact ⟨fun s us ws _ h1 h2 => .of_eq (h us ws kV doc pm an cdv ct h1 h2), fun r1 r2 => r1.append r2⟩
def gCallK (np nk n : Nat) (m : MF) (fa fk : AFn) : EF := fun ρ => (fa ρ).bind fun p => (fk ρ).bind fun q => if p.1.length = np ∧ q.1.length = nk then gCall n m (p.1 ++ q.1) (aj p.2 q.2) else none
theorem ve_callN {K : PySem.W.Frag} {ta tk : TA} {fa fk : AFn} {n np nk : Nat} {m : MF} {E : XK} (h : VA K ta fa) (hk : VA K tk fk) : VE K (tCallN np nk (spOf K n m) (fun vs zs => vs ++ zs) E ta tk) (gCallK np nk n m fa fk) := by
  intro B AF σ H ρ Fs d k S e Q q
  obtain ⟨⟨ds1, k1⟩, e1, e⟩ := Option.bind_eq_some_iff.mp e
  obtain ⟨⟨ds2, k2⟩, e3, e⟩ := Option.bind_eq_some_iff.mp e
  split at e
  case isFalse => cases e
  rename_i hl
  refine h B AF σ H ρ Fs ds1 k1 S e1 _ fun vs H1 F g1 r1 o1 => ?_
  refine hk B AF σ H1 ρ Fs ds2 k2 (S.grow g1) e3 _ fun zs H2 G g2 r2 o2 => ⟨by rw [r1.length]; exact hl.1, by rw [r2.length]; exact hl.2, ?_⟩
  have := vf_call (E := E) ρ Fs H H2 (vs ++ zs) (ds1 ++ ds2) (F ++ G) (aj k1 k2) d k (g1.trans g2) (RpL.app (r1.grow g2) r2) (KO.join S g1 o1 (fun a ha => r1.stn ha) o2) e Q fun v H3 G' g3 r3 o3 => q v H3 G' ((g1.trans g2).trans g3) r3 o3
  simp only [List.append_nil] at this
  exact this
/-! ### zip -/
def zipD : List PyData → List PyData → List PyData
  | a :: as, b :: bs => wrap (.tuple [a, b]) :: zipD as bs
  | _, _ => []
def iZp (f : AFn) : IF := fun ρ => (f ρ).bind fun p => match p.1 with
  | [.list xs, .list ys] => some (zipD xs ys, p.2)
  | [.tuple xs, .tuple ys] => some (zipD xs ys, p.2)
  | _ => none
/-! ### loops by what holds at their head -/
/-- P i: what holds of the slots behind i items (those that are told no more left out) -/
theorem loopF_P {st : SG} {fb : SF} {fg : List Nat} (P : Nat → Env → Prop) : ∀ (ds : List PyData) (ρ : Env) (n : Nat), (∀ (i : Nat) (d : PyData), ds[i]? = some d → ∀ ρ, P (n + i) ρ → ∃ ρ1 ρ2, st d ρ = some ρ1 ∧ fb ρ1 = some (.nx ρ2) ∧ P (n + i + 1) (kil fg ρ2)) →
    P n (kil fg ρ) → ∃ ρ', loopF st fb fg ds ρ = some (.nx ρ') ∧ P (n + ds.length) ρ'
  | [], ρ, n, _, h0 => ⟨_, rfl, h0⟩
  | d :: ds, ρ, n, hs, h0 => by
    obtain ⟨ρ1, ρ2, e1, e2, h1⟩ := hs 0 d rfl _ h0
    obtain ⟨ρ', e3, h3⟩ := loopF_P P ds ρ2 (n + 1) (fun i d' hd ρ h => by
      have h' : P (n + (i + 1)) ρ := by rw [show n + (i + 1) = n + 1 + i by omega]; exact h
      obtain ⟨a, b, c1, c2, c3⟩ := hs (i + 1) d' (by simpa using hd) ρ h'
      exact ⟨a, b, c1, c2, by rw [show n + 1 + i + 1 = n + (i + 1) + 1 by omega]; exact c3⟩) h1
    refine ⟨ρ', ?_, by rw [show n + (d :: ds).length = n + 1 + ds.length by simp; omega]; exact h3⟩
    show (st d (kil fg ρ)).bind _ = _
    rw [e1]
    show (fb ρ1).bind _ = _
    rw [e2]
    exact e3
end Va

/-! Va14: what is worked out over slots; the laws' draws. -/
namespace Va
open PySem L2 PyProof.Rows

/-! ### working out -/
section
variable {ds : List PyData} {ns : List Int} {ks : List Bool}
@[simp] theorem flat_int {i : Int} : flat (.int i) = true := by simp only [flat]
@[simp] theorem flat_bool {i : Bool} : flat (.bool i) = true := by simp only [flat]
@[simp] theorem flat_str {i : Str} : flat (.str i) = true := by simp only [flat]
@[simp] theorem flat_none : flat .none = true := by simp only [flat]
@[simp] theorem flat_list : flat (.list ds) = false := by simp only [flat]
@[simp] theorem flat_tuple : flat (.tuple ds) = flatL ds := by simp only [flat]
@[simp] theorem flatL_nil : flatL [] = true := by simp only [flatL]
@[simp] theorem flatL_cons {d : PyData} : flatL (d :: ds) = (flat d && flatL ds) := by simp only [flatL]
@[simp] theorem flatL_app {es : List PyData} : flatL (ds ++ es) = (flatL ds && flatL es) := by
  induction ds with
  | nil => simp
  | cons d ds ih => simp [ih, Bool.and_assoc]
theorem flatL_all {α : Type} {f : α → PyData} (h : ∀ x, flat (f x) = true) : ∀ xs : List α, flatL (xs.map f) = true
  | [] => by simp
  | x :: xs => by simp [h, flatL_all h xs]
@[simp] theorem flatL_ints : flatL (ns.map PyData.int) = true := flatL_all (fun _ => by simp) ns
@[simp] theorem flatL_bools : flatL (ks.map PyData.bool) = true := flatL_all (fun _ => by simp) ks
@[simp] theorem intsOf_map : intsOf (ns.map PyData.int) = some ns := by
  induction ns with
  | nil => rfl
  | cons n ns ih => simp [intsOf, ih]
@[simp] theorem boolsOf_map : boolsOf (ks.map PyData.bool) = some ks := by
  induction ks with
  | nil => rfl
  | cons n ns ih => simp [boolsOf, ih]
@[simp] theorem flatL_from {lo : Int} {n : Nat} : flatL (intsFrom lo n) = true := flatL_all (fun _ => by simp) _
theorem atI_nat {α : Type} {xs : List α} {i : Int} (h0 : 0 ≤ i) : atI xs i = xs[i.toNat]? := by
  unfold atI ixN
  by_cases h : i.toNat < xs.length
  · have : i < (xs.length : Int) := by omega
    simp [h0, this, show ¬ i < 0 by omega]
  · have : ¬ i < (xs.length : Int) := by omega
    simp [this, show ¬ i < 0 by omega, List.getElem?_eq_none (Nat.le_of_not_lt h)]
end
section
variable {K : PySem.W.Frag}
theorem ve_int {i : Int} : VE K (tC (.int i)) (eC (.int i)) := ve_c rfl
theorem ve_bl {b : Bool} : VE K (tC (.bl b)) (eC (.bool b)) := ve_c rfl
theorem ve_str {s : Str} : VE K (tC (.str s)) (eC (.str s)) := ve_c rfl
theorem ve_non : VE K (tC .non) (eC .none) := ve_c True.intro
end
/-! ### combinators, worked out from the left -/
def seqK (o : Option Out) (g : SF) : Option Out := o.bind fun o => match o with
  | .nx ρ' => g ρ'
  | o => some o
def ifK (b : Option Bool) (f g : SF) (ρ : Env) : Option Out := b.bind fun b => if b = true then f ρ else g ρ
def retK (p : Option (PyData × Kd)) : Option Out := p.map fun p => .rt p.1 (rk p.2)
def dropK (p : Option (PyData × Kd)) (ρ : Env) : Option Out := p.map fun _ => .nx ρ
def appK (p : Option (List PyData × Kd)) (g : Gn) : Option (PyData × Kd) := p.bind fun p => g p.1 p.2
def consK (p : Option (PyData × Kd)) (q : Option (List PyData × Kd)) : Option (List PyData × Kd) := p.bind fun p => q.bind fun q => some (p.1 :: q.1, aj p.2 q.2)
def starK (p : Option (PyData × Kd)) (q : Option (List PyData × Kd)) : Option (List PyData × Kd) := p.bind fun p => q.bind fun q => (iterD p.1).map fun ds => (ds ++ q.1, aj p.2 q.2)
def varD (d : PyData) (m i : Nat) : Kd := if flat d then .mv [] else if m = 2 then .mv [i] else .bo [i]
def varK (i : Nat) (s : Option Sl) : Option (PyData × Kd) := match s with
  | some (some (d, m)) => some (d, varD d m i)
  | _ => none
def valK (p : Option (PyData × Kd)) : Option Bool := p.bind fun p => bOf p.1
def truK (p : Option (PyData × Kd)) : Option Bool := p.bind fun p => truD p.1
def andK (a : Option Bool) (b : Env → Option Bool) (ρ : Env) : Option Bool := a.bind fun x => if x = true then b ρ else some false
def orK (a : Option Bool) (b : Env → Option Bool) (ρ : Env) : Option Bool := a.bind fun x => if x = true then some true else b ρ
def notK (a : Option Bool) : Option Bool := a.map fun x => !x
def setK (p : Option (PyData × Kd)) (kl : List Nat) (i : Nat) (ρ : Env) : Option Out := p.bind fun p => if i < ρ.length then some (.nx ((giv kl p.2 ρ).1.set i (some (p.1, (giv kl p.2 ρ).2)))) else none
def fK (d : Option PyData) : Option (PyData × Kd) := d.map fun d => (d, .mv [])
def datsK (d : Option PyData) (k : Kd) : Option (PyData × Kd) := d.map fun e => (e, datK e k)
def mutK (kl : List Nat) (i : Nat) (k : Kd) (m : Nat) (ρ : Env) (ds : Option (List PyData)) : Option Out := ds.map fun ds => .nx (mutE kl i k m (.list ds) ρ)
def mutLK (p : Option (PyData × Kd)) (kl : List Nat) (i : Nat) (h : List PyData → PyData → Option (List PyData)) (ρ : Env) : Option Out := p.bind fun p => (ownL i p.2 ρ).bind fun q => (h q.1 p.1).map fun ds => .nx (mutE kl i p.2 q.2 (.list ds) ρ)
def mutQ (q : Option (List PyData × Nat)) (d : PyData) (k : Kd) (kl : List Nat) (i : Nat) (h : List PyData → PyData → Option (List PyData)) (ρ : Env) : Option Out := q.bind fun q => (h q.1 d).map fun ds => .nx (mutE kl i k q.2 (.list ds) ρ)
def mutR (ds : Option (List PyData)) (k : Kd) (m : Nat) (kl : List Nat) (i : Nat) (ρ : Env) : Option Out := ds.map fun ds => .nx (mutE kl i k m (.list ds) ρ)
def extK (p : Option (PyData × Kd)) (kl : List Nat) (i : Nat) (ρ : Env) : Option Out := p.bind fun p => match p.1 with
  | .list ds => (ownL i p.2 ρ).bind fun q => if q.1.length + ds.length < 1000000 then some (.nx (mutE kl i p.2 q.2 (.list (q.1 ++ ds)) ρ)) else none
  | _ => none
def extQ (q : Option (List PyData × Nat)) (ds : List PyData) (k : Kd) (kl : List Nat) (i : Nat) (ρ : Env) : Option Out := q.bind fun q => if q.1.length + ds.length < 1000000 then some (.nx (mutE kl i k q.2 (.list (q.1 ++ ds)) ρ)) else none
def idxK (p r : Option (PyData × Kd)) (kl : List Nat) (i : Nat) (ρ : Env) : Option Out := p.bind fun p => r.bind fun r => match r.1 with
  | .int j => (ownL i p.2 ρ).bind fun q => (ixN q.1.length j).map fun n => .nx (mutE kl i p.2 q.2 (.list (q.1.set n p.1)) ρ)
  | _ => none
def idxQ (q : Option (List PyData × Nat)) (d : PyData) (k : Kd) (j : Int) (kl : List Nat) (i : Nat) (ρ : Env) : Option Out := q.bind fun q => (ixN q.1.length j).map fun n => .nx (mutE kl i k q.2 (.list (q.1.set n d)) ρ)
def idxR (n : Option Nat) (xs : List PyData) (d : PyData) (k : Kd) (m : Nat) (kl : List Nat) (i : Nat) (ρ : Env) : Option Out := n.map fun n => .nx (mutE kl i k m (.list (xs.set n d)) ρ)
def augK (s : Option Sl) (i : Nat) (p : Option (PyData × Kd)) (h : Int → Int → Int) (ρ : Env) : Option Out := match s with
  | some (some (.int a, _)) => p.bind fun p => match p.1 with
    | .int b => some (.nx (ρ.set i (some (.int (h a b), 2))))
    | _ => none
  | _ => none
def forK (p : Option (List PyData × Kd)) (ns : List Nat) (st : SG) (wb : List Nat) (fb : SF) (fg : List Nat) (ρ : Env) : Option Out := p.bind fun p =>
  loopF st fb fg p.1 (if flatL p.1 = true ∧ apart p.2.src (ns ++ wb) = true then ρ else dem p.2.src ρ)
def ifEK (b : Option Bool) (f g : EF) (ρ : Env) : Option (PyData × Kd) := b.bind fun x => if x = true then f ρ else g ρ
def r1K (p : Option (List PyData × Kd)) : Option (List PyData × Kd) := p.bind fun p => match p.1 with
  | [.int j] => if i62 j = true then some (intsFrom 0 j.toNat, .mv []) else none
  | _ => none
def r2K (p : Option (List PyData × Kd)) : Option (List PyData × Kd) := p.bind fun p => match p.1 with
  | [.int i, .int j] => if i62 i = true ∧ i62 j = true then some (intsFrom i (j - i).toNat, .mv []) else none
  | _ => none
def seqIK (p : Option (PyData × Kd)) : Option (List PyData × Kd) := p.bind fun p => (iterD p.1).map fun ds => (ds, p.2)
def enK (p : Option (List PyData × Kd)) : Option (List PyData × Kd) := p.bind fun p => match p.1 with
  | [.list ds] => some (enumD ds 0, p.2)
  | [.tuple ds] => some (enumD ds 0, p.2)
  | _ => none
def zpK (p : Option (List PyData × Kd)) : Option (List PyData × Kd) := p.bind fun p => match p.1 with
  | [.list xs, .list ys] => some (zipD xs ys, p.2)
  | [.tuple xs, .tuple ys] => some (zipD xs ys, p.2)
  | _ => none
def lcK (p : Option (List PyData × Kd)) (ns : List Nat) (st : SG) (ft : Env → Option Bool) (fe : EF) (vs : List Nat) (ρ : Env) : Option (PyData × Kd) := p.bind fun p =>
  if p.1.length ≤ 1000000 then (lcF ns st ft fe (wipeE (zeroE ρ) vs) p.1).map fun q => (.list q.1, if flatL q.1 = true then .mv [] else if q.2.1 = true then .mv [] else .sp (p.2.src ++ q.2.2)) else none
def andVK (p : Option (PyData × Kd)) (g : EF) (ρ : Env) : Option (PyData × Kd) := p.bind fun p => (bOf p.1).bind fun b => if b = true then (g ρ).map fun q => (q.1, q.2) else some (.bool false, .mv [])
def orVK (p : Option (PyData × Kd)) (g : EF) (ρ : Env) : Option (PyData × Kd) := p.bind fun p => (bOf p.1).bind fun b => if b = true then some (.bool true, .mv []) else (g ρ).map fun q => (q.1, q.2)
def idK (p : Option (PyData × Kd)) : Option (PyData × Kd) := p.map fun q => (q.1, q.2)
def notVK (p : Option (PyData × Kd)) : Option (PyData × Kd) := p.bind fun p => (bOf p.1).map fun b => (.bool (!b), .mv [])
def chK (h1 h2 : List PyData → Option PyData) (p q : Option (PyData × Kd)) (h : EF) (ρ : Env) : Option (PyData × Kd) := p.bind fun p => q.bind fun q => (h1 [p.1, q.1]).bind fun z => (bOf z).bind fun b =>
  if b = true then (h ρ).bind fun r => (h2 [q.1, r.1]).map fun z => (z, .mv []) else some (.bool false, .mv [])
def chL (b : Option PyData) (h2 : List PyData → Option PyData) (d : PyData) (h : EF) (ρ : Env) : Option (PyData × Kd) := b.bind fun z => (bOf z).bind fun b => if b = true then (h ρ).bind fun r => (h2 [d, r.1]).map fun z => (z, .mv []) else some (.bool false, .mv [])
def chR (h2 : List PyData → Option PyData) (d : PyData) (r : Option (PyData × Kd)) : Option (PyData × Kd) := r.bind fun r => (h2 [d, r.1]).map fun z => (z, .mv [])
def slK (p : Option (PyData × Kd)) (i j : Option (Option Int)) : Option (PyData × Kd) := p.bind fun p => i.bind fun i => j.bind fun j => slD p.1 p.2 i j
def partK (p : Option (PyData × Kd)) : Option (Option Int) := p.bind fun p => match p.1 with
  | .int i => some (some i)
  | _ => none
def isiK (p : Option (PyData × Kd)) (T : String) : Option (PyData × Kd) := p.bind fun p => if isW p.1 = true then none else some (.bool (isiD T p.1), .mv [])
def m1K (h : PyData → PyData → Option PyData) (p q : Option (PyData × Kd)) : Option (PyData × Kd) := p.bind fun p => q.bind fun q => match p.1 with
  | .str _ => (h p.1 q.1).map fun d => (d, .mv [])
  | _ => none
def asgK (p : Option (PyData × Kd)) (st : SG) (ρ : Env) : Option Out := p.bind fun p => (st p.1 (dem p.2.src ρ)).map .nx
def nxK (p : Option Env) : Option Out := p.map .nx
def tgsK (p : Option Env) (sts : SGs) (ds : List PyData) : Option Env := p.bind (sts ds)
def callK (p : Option (PyData × Nat)) (k : Kd) : Option (PyData × Kd) := p.map fun p => (p.1, calK p.1 p.2 k)
def cKK (np nk n : Nat) (m : MF) (p q : Option (List PyData × Kd)) : Option (PyData × Kd) := p.bind fun p => q.bind fun q => if p.1.length = np ∧ q.1.length = nk then gCall n m (p.1 ++ q.1) (aj p.2 q.2) else none
section
variable {f g h : EF} {a b : AFn} {c c' : Env → Option Bool} {s s' : SF} {ρ ρ' : Env} {gn : Gn} {d e : PyData} {ds es : List PyData} {k l : Kd} {kl fg ns wb vs L M : List Nat} {i j m n r : Nat} {st : SG} {sts : SGs} {fi : IF} {T : String}
  {h1 h2 : List PyData → Option PyData} {ha : List PyData → PyData → Option (List PyData)} {hh : PyData → PyData → Option PyData} {mf : MF} {lo hi : Env → Option (Option Int)} {x y : Int} {hI : Int → Int → Int} {cs : Str}
@[simp] theorem sSeq_eq : sSeq s s' ρ = seqK (s ρ) s' := (rfl)
@[simp] theorem seqK_nx : seqK (some (.nx ρ)) s = s ρ := (rfl)
@[simp] theorem seqK_rt : seqK (some (.rt d r)) s = some (.rt d r) := (rfl)
@[simp] theorem seqK_bk : seqK (some (.bk ρ)) s = some (.bk ρ) := (rfl)
@[simp] theorem seqK_ct : seqK (some (.ct ρ)) s = some (.ct ρ) := (rfl)
@[simp] theorem seqK_ex : seqK (some (.ex cs ds)) s = some (.ex cs ds) := (rfl)
@[simp] theorem sIf_eq : sIf c s s' ρ = ifK (c ρ) s s' ρ := (rfl)
@[simp] theorem ifK_t : ifK (some true) s s' ρ = s ρ := (rfl)
@[simp] theorem ifK_f : ifK (some false) s s' ρ = s' ρ := (rfl)
@[simp] theorem sNext_eq : sNext ρ = some (.nx ρ) := (rfl)
@[simp] theorem sRet_eq : sRet f ρ = retK (f ρ) := (rfl)
@[simp] theorem retK_eq : retK (some (d, k)) = some (.rt d (rk k)) := (rfl)
@[simp] theorem sRetN_eq : sRetN ρ = some (.rt .none 2) := (rfl)
@[simp] theorem sBreak_eq : sBreak ρ = some (.bk ρ) := (rfl)
@[simp] theorem sCont_eq : sCont ρ = some (.ct ρ) := (rfl)
@[simp] theorem sDrop_eq : sDrop f ρ = dropK (f ρ) ρ := (rfl)
@[simp] theorem dropK_eq : dropK (some (d, k)) ρ = some (.nx ρ) := (rfl)
@[simp] theorem eC_eq : eC d ρ = some (d, .mv []) := (rfl)
@[simp] theorem eVar_eq : eVar i ρ = varK i ρ[i]? := by
  unfold eVar varK varD
  rfl
@[simp] theorem varK_eq : varK i (some (some (d, m))) = some (d, varD d m i) := (rfl)
theorem varD_flat (hd : flat d = true) : varD d m i = .mv [] := by unfold varD; rw [if_pos hd]
theorem varD_own (hd : flat d = false) : varD d 2 i = .mv [i] := by unfold varD; rw [hd]; rfl
@[simp] theorem varD_int : varD (.int x) m i = .mv [] := varD_flat (by simp)
@[simp] theorem varD_bool {z : Bool} : varD (.bool z) m i = .mv [] := varD_flat (by simp)
@[simp] theorem varD_str {z : Str} : varD (.str z) m i = .mv [] := varD_flat (by simp)
@[simp] theorem varD_none : varD .none m i = .mv [] := varD_flat (by simp)
@[simp] theorem varD_list2 : varD (.list ds) 2 i = .mv [i] := by unfold varD; simp
@[simp] theorem varD_list1 : varD (.list ds) 1 i = .bo [i] := by unfold varD; simp
@[simp] theorem varD_list0 : varD (.list ds) 0 i = .bo [i] := by unfold varD; simp
@[simp] theorem varD_tuple2 : varD (.tuple ds) 2 i = if flatL ds = true then .mv [] else .mv [i] := by unfold varD; simp
@[simp] theorem varD_tuple0 : varD (.tuple ds) 0 i = if flatL ds = true then .mv [] else .bo [i] := by unfold varD; simp
@[simp] theorem src_m : (Kd.mv L).src = L := (rfl)
@[simp] theorem src_s : (Kd.sp L).src = L := (rfl)
@[simp] theorem src_b : (Kd.bo L).src = L := (rfl)
@[simp] theorem aNil_eq : aNil ρ = some ([], .mv []) := (rfl)
@[simp] theorem aCons_eq : aCons f a ρ = consK (f ρ) (a ρ) := (rfl)
@[simp] theorem consK_eq : consK (some (d, k)) (some (ds, l)) = some (d :: ds, aj k l) := (rfl)
@[simp] theorem aStar_eq : aStar f a ρ = starK (f ρ) (a ρ) := (rfl)
@[simp] theorem starK_l : starK (some (.list es, k)) (some (ds, l)) = some (es ++ ds, aj k l) := (rfl)
@[simp] theorem starK_t : starK (some (.tuple es, k)) (some (ds, l)) = some (es ++ ds, aj k l) := (rfl)
@[simp] theorem aj_nil : aj (.mv []) (.mv M) = .mv M := by simp [aj]
@[simp] theorem aj_nil2 : aj (.mv L) (.mv []) = .mv L := by simp [aj]
@[simp] theorem aj_mm : aj (.mv L) (.mv M) = if apart L M = true then .mv (L ++ M) else .bo (L ++ M) := (rfl)
@[simp] theorem aj_mb : aj (.mv L) (.bo M) = .bo (L ++ M) := (rfl)
@[simp] theorem aj_ms : aj (.mv L) (.sp M) = .bo (L ++ M) := (rfl)
@[simp] theorem aj_b : aj (.bo L) k = .bo (L ++ k.src) := (rfl)
@[simp] theorem aj_s : aj (.sp L) k = .bo (L ++ k.src) := (rfl)
@[simp] theorem eApp_eq : eApp gn a ρ = appK (a ρ) gn := (rfl)
@[simp] theorem appK_eq : appK (some (ds, k)) gn = gn ds k := (rfl)
@[simp] theorem gF_eq : gF h1 ds k = fK (h1 ds) := (rfl)
@[simp] theorem fK_eq : fK (some d) = some (d, .mv []) := (rfl)
@[simp] theorem bOf_eq' {z : Bool} : bOf (.bool z) = some z := (rfl)
@[simp] theorem tVal_eq : tVal f ρ = valK (f ρ) := (rfl)
@[simp] theorem valK_eq {z : Bool} : valK (some (.bool z, k)) = some z := (rfl)
@[simp] theorem tTru_eq : tTru f ρ = truK (f ρ) := (rfl)
@[simp] theorem truK_eq : truK (some (d, k)) = truD d := (rfl)
@[simp] theorem tAndF_eq : tAndF c c' ρ = andK (c ρ) c' ρ := (rfl)
@[simp] theorem andK_t : andK (some true) c ρ = c ρ := (rfl)
@[simp] theorem andK_f : andK (some false) c ρ = some false := (rfl)
@[simp] theorem tOrF_eq : tOrF c c' ρ = orK (c ρ) c' ρ := (rfl)
@[simp] theorem orK_t : orK (some true) c ρ = some true := (rfl)
@[simp] theorem orK_f : orK (some false) c ρ = c ρ := (rfl)
@[simp] theorem tNotF_eq : tNotF c ρ = notK (c ρ) := (rfl)
@[simp] theorem notK_eq {z : Bool} : notK (some z) = some (!z) := (rfl)
@[simp] theorem sSet_eq : sSet kl i f ρ = setK (f ρ) kl i ρ := (rfl)
@[simp] theorem setK_eq : setK (some (d, k)) kl i ρ = if i < ρ.length then some (.nx ((giv kl k ρ).1.set i (some (d, (giv kl k ρ).2)))) else none := (rfl)
@[simp] theorem giv_nil : giv kl (.mv []) ρ = (ρ, 2) := by simp [giv, kil]
@[simp] theorem giv_mv : giv kl (.mv L) ρ = if L.all kl.contains = true then (wipeE ρ L, 2) else (dem L ρ, 0) := by simp [giv, kil]
@[simp] theorem giv_sp : giv kl (.sp L) ρ = (dem L ρ, 1) := (rfl)
@[simp] theorem giv_bo : giv kl (.bo L) ρ = (dem L ρ, 0) := (rfl)
@[simp] theorem dem_nil : dem [] ρ = ρ := (rfl)
@[simp] theorem dem_cons : dem (i :: L) ρ = (dem L ρ).modify i demS := (rfl)
@[simp] theorem kil_eq : kil L ρ = wipeE ρ L := (rfl)
@[simp] theorem rk_m : rk (.mv L) = 2 := (rfl)
@[simp] theorem rk_s : rk (.sp L) = 1 := (rfl)
@[simp] theorem rk_b : rk (.bo L) = 0 := (rfl)
@[simp] theorem isMv_m : isMv (.mv L) = true := (rfl)
@[simp] theorem isMv_s : isMv (.sp L) = false := (rfl)
@[simp] theorem isMv_b : isMv (.bo L) = false := (rfl)
@[simp] theorem sMutL_eq : sMutL kl i f ha ρ = mutLK (f ρ) kl i ha ρ := (rfl)
@[simp] theorem mutLK_eq : mutLK (some (d, k)) kl i ha ρ = mutQ (ownL i k ρ) d k kl i ha ρ := (rfl)
@[simp] theorem mutQ_eq : mutQ (some (ds, m)) d k kl i ha ρ = mutR (ha ds d) k m kl i ρ := (rfl)
@[simp] theorem mutR_eq : mutR (some ds) k m kl i ρ = some (.nx (mutE kl i k m (.list ds) ρ)) := (rfl)
@[simp] theorem sExt_eq : sExt kl i f ρ = extK (f ρ) kl i ρ := (rfl)
@[simp] theorem extK_eq : extK (some (.list ds, k)) kl i ρ = extQ (ownL i k ρ) ds k kl i ρ := (rfl)
@[simp] theorem extQ_eq : extQ (some (es, m)) ds k kl i ρ = if es.length + ds.length < 1000000 then some (.nx (mutE kl i k m (.list (es ++ ds)) ρ)) else none := (rfl)
@[simp] theorem sIdx_eq : sIdx kl i f g ρ = idxK (f ρ) (g ρ) kl i ρ := (rfl)
@[simp] theorem idxK_eq : idxK (some (d, k)) (some (.int x, l)) kl i ρ = idxQ (ownL i k ρ) d k x kl i ρ := (rfl)
@[simp] theorem idxQ_eq : idxQ (some (es, m)) d k x kl i ρ = idxR (ixN es.length x) es d k m kl i ρ := (rfl)
@[simp] theorem idxR_eq : idxR (some n) es d k m kl i ρ = some (.nx (mutE kl i k m (.list (es.set n d)) ρ)) := (rfl)
@[simp] theorem mutE_eq : mutE kl i k m d ρ = (giv kl k ρ).1.set i (some (d, mutM m (giv kl k ρ).2)) := (rfl)
@[simp] theorem mutM_22 : mutM 2 2 = 2 := (rfl)
@[simp] theorem mutM_1 : mutM 1 n = 1 := (rfl)
@[simp] theorem mutM_0 : mutM m 0 = 1 := by simp [mutM]
@[simp] theorem mutM_1' : mutM m 1 = 1 := by simp [mutM]
@[simp] theorem hApp_eq : hApp ds d = if ds.length < 1000000 then some (ds ++ [d]) else none := (rfl)
@[simp] theorem sAug_eq : sAug i f hI ρ = augK ρ[i]? i (f ρ) hI ρ := (rfl)
@[simp] theorem augK_eq : augK (some (some (.int x, m))) i (some (.int y, k)) hI ρ = some (.nx (ρ.set i (some (.int (hI x y), 2)))) := (rfl)
@[simp] theorem sFor_eq {fb : SF} : sFor fi ns st wb fb fg ρ = forK (fi ρ) ns st wb fb fg ρ := (rfl)
theorem forK_flat {fb : SF} (h1 : flatL ds = true) (h2 : apart k.src (ns ++ wb) = true) : forK (some (ds, k)) ns st wb fb fg ρ = loopF st fb fg ds ρ := by
  show loopF st fb fg ds (if _ then _ else _) = _
  rw [if_pos ⟨h1, h2⟩]
theorem forK_eq {fb : SF} : forK (some (ds, k)) ns st wb fb fg ρ = loopF st fb fg ds (if flatL ds = true ∧ apart k.src (ns ++ wb) = true then ρ else dem k.src ρ) := rfl
@[simp] theorem eIf_eq : eIf c f g ρ = ifEK (c ρ) f g ρ := (rfl)
@[simp] theorem ifEK_t : ifEK (some true) f g ρ = f ρ := (rfl)
@[simp] theorem ifEK_f : ifEK (some false) f g ρ = g ρ := (rfl)
@[simp] theorem iR1_eq : iR1 a ρ = r1K (a ρ) := (rfl)
@[simp] theorem r1K_eq : r1K (some ([.int x], k)) = if i62 x = true then some (intsFrom 0 x.toNat, .mv []) else none := (rfl)
@[simp] theorem iR2_eq : iR2 a ρ = r2K (a ρ) := (rfl)
@[simp] theorem r2K_eq : r2K (some ([.int x, .int y], k)) = if i62 x = true ∧ i62 y = true then some (intsFrom x (y - x).toNat, .mv []) else none := (rfl)
@[simp] theorem iSeq_eq : iSeq f ρ = seqIK (f ρ) := (rfl)
@[simp] theorem seqIK_l : seqIK (some (.list ds, k)) = some (ds, k) := (rfl)
@[simp] theorem seqIK_t : seqIK (some (.tuple ds, k)) = some (ds, k) := (rfl)
@[simp] theorem iEn_eq : iEn a ρ = enK (a ρ) := (rfl)
@[simp] theorem enK_eq : enK (some ([.list ds], k)) = some (enumD ds 0, k) := (rfl)
@[simp] theorem enK_t : enK (some ([.tuple ds], k)) = some (enumD ds 0, k) := (rfl)
@[simp] theorem iZp_eq : iZp a ρ = zpK (a ρ) := (rfl)
@[simp] theorem zpK_l : zpK (some ([.list ds, .list es], k)) = some (zipD ds es, k) := (rfl)
@[simp] theorem zpK_t : zpK (some ([.tuple ds, .tuple es], k)) = some (zipD ds es, k) := (rfl)
@[simp] theorem eLc_eq : eLc fi ns st c f vs ρ = lcK (fi ρ) ns st c f vs ρ := (rfl)
theorem lcK_eq : lcK (some (ds, k)) ns st c f vs ρ = if ds.length ≤ 1000000 then (lcF ns st c f (wipeE (zeroE ρ) vs) ds).map fun q => (.list q.1, if flatL q.1 = true then .mv [] else if q.2.1 = true then .mv [] else .sp (k.src ++ q.2.2)) else none := rfl
@[simp] theorem eAndV_eq : eAndV f g ρ = andVK (f ρ) g ρ := (rfl)
@[simp] theorem andVK_t : andVK (some (.bool true, k)) g ρ = idK (g ρ) := (rfl)
@[simp] theorem andVK_f : andVK (some (.bool false, k)) g ρ = some (.bool false, .mv []) := (rfl)
@[simp] theorem eOrV_eq : eOrV f g ρ = orVK (f ρ) g ρ := (rfl)
@[simp] theorem orVK_t : orVK (some (.bool true, k)) g ρ = some (.bool true, .mv []) := (rfl)
@[simp] theorem orVK_f : orVK (some (.bool false, k)) g ρ = idK (g ρ) := (rfl)
@[simp] theorem idK_eq : idK (some (d, k)) = some (d, k) := (rfl)
@[simp] theorem eNotV_eq : eNotV f ρ = notVK (f ρ) := (rfl)
@[simp] theorem notVK_eq {z : Bool} : notVK (some (.bool z, k)) = some (.bool (!z), .mv []) := (rfl)
@[simp] theorem eChain_eq : eChain h1 h2 f g h ρ = chK h1 h2 (f ρ) (g ρ) h ρ := (rfl)
@[simp] theorem chK_eq : chK h1 h2 (some (d, k)) (some (e, l)) h ρ = chL (h1 [d, e]) h2 e h ρ := (rfl)
@[simp] theorem chL_t : chL (some (.bool true)) h2 e h ρ = chR h2 e (h ρ) := (rfl)
@[simp] theorem chL_f : chL (some (.bool false)) h2 e h ρ = some (.bool false, .mv []) := (rfl)
@[simp] theorem chR_eq : chR h2 e (some (d, k)) = fK (h2 [e, d]) := (rfl)
@[simp] theorem eSl_eq : eSl f lo hi ρ = slK (f ρ) (lo ρ) (hi ρ) := (rfl)
@[simp] theorem slK_eq {u v : Option Int} : slK (some (d, k)) (some u) (some v) = slD d k u v := (rfl)
@[simp] theorem oNo_eq : oNo ρ = some none := (rfl)
@[simp] theorem oPart_eq : oPart f ρ = partK (f ρ) := (rfl)
@[simp] theorem partK_eq : partK (some (.int x, k)) = some (some x) := (rfl)
@[simp] theorem eIsi_eq : eIsi T f ρ = isiK (f ρ) T := (rfl)
theorem isiK_eq (hw : isW d = false) : isiK (some (d, k)) T = some (.bool (isiD T d), .mv []) := by unfold isiK; simp [hw]
@[simp] theorem eM1_eq : eM1 hh f g ρ = m1K hh (f ρ) (g ρ) := (rfl)
@[simp] theorem m1K_eq {z : Str} : m1K hh (some (.str z, k)) (some (e, l)) = fK (hh (.str z) e) := (rfl)
@[simp] theorem sAsgT_eq : sAsgT st f ρ = asgK (f ρ) st ρ := (rfl)
@[simp] theorem asgK_eq : asgK (some (d, k)) st ρ = nxK (st d (dem k.src ρ)) := (rfl)
@[simp] theorem nxK_eq : nxK (some ρ) = some (.nx ρ) := (rfl)
@[simp] theorem tgN_eq : tgN i d ρ = if i < ρ.length then some (ρ.set i (some (d, m02 d))) else none := (rfl)
@[simp] theorem tgT_eq : tgT n sts (.tuple ds) ρ = if ds.length = n then sts ds ρ else none := (rfl)
@[simp] theorem tgCons_eq : tgCons st sts (d :: ds) ρ = tgsK (st d ρ) sts ds := (rfl)
@[simp] theorem tgsK_eq : tgsK (some ρ) sts ds = sts ds ρ := (rfl)
@[simp] theorem tgNil_eq : tgNil [] ρ = some ρ := (rfl)
@[simp] theorem gCall_eq : gCall n mf ds k = if ds.length = n then callK (mf ds) k else none := (rfl)
@[simp] theorem callK_eq : callK (some (d, r)) k = some (d, calK d r k) := (rfl)
@[simp] theorem gCallK_eq : gCallK i j n mf a b ρ = cKK i j n mf (a ρ) (b ρ) := (rfl)
@[simp] theorem cKK_eq : cKK i j n mf (some (ds, k)) (some (es, l)) = if ds.length = i ∧ es.length = j then gCall n mf (ds ++ es) (aj k l) else none := (rfl)
@[simp] theorem m02_int : m02 (.int x) = 2 := by simp [m02]
@[simp] theorem m02_bool {z : Bool} : m02 (.bool z) = 2 := by simp [m02]
@[simp] theorem m02_str {z : Str} : m02 (.str z) = 2 := by simp [m02]
@[simp] theorem m02_none : m02 .none = 2 := by simp [m02]
@[simp] theorem m02_list : m02 (.list ds) = 0 := by simp [m02]
@[simp] theorem m02_tuple : m02 (.tuple ds) = if flatL ds = true then 2 else 0 := by simp [m02]
@[simp] theorem demS_s : demS (some (d, m)) = some (d, 0) := (rfl)
@[simp] theorem demS_n : demS none = none := (rfl)
@[simp] theorem calK_2 : calK d 2 k = .mv [] := by unfold calK; simp
@[simp] theorem calK_1 : calK d 1 k = if flat d = true then .mv [] else .sp k.src := by unfold calK; simp
@[simp] theorem calK_0 : calK d 0 k = if flat d = true then .mv [] else .bo k.src := by unfold calK; simp
/-! ### operations -/
@[simp] theorem gnTup_eq : gnTup ds k = if ds.length ≤ 1000000 then some (.tuple ds, tupK ds k) else none := (rfl)
@[simp] theorem gnLst_eq : gnLst ds k = if ds.length ≤ 1000000 then some (.list ds, lstK ds k) else none := (rfl)
@[simp] theorem lstK_m : lstK ds (.mv L) = if flatL ds = true then .mv [] else .mv L := (rfl)
@[simp] theorem lstK_s : lstK ds (.sp L) = if flatL ds = true then .mv [] else .sp L := (rfl)
@[simp] theorem lstK_b : lstK ds (.bo L) = if flatL ds = true then .mv [] else .sp L := (rfl)
@[simp] theorem tupK_m : tupK ds (.mv L) = if flatL ds = true then .mv [] else .mv L := (rfl)
@[simp] theorem tupK_s : tupK ds (.sp L) = if flatL ds = true then .mv [] else .bo L := (rfl)
@[simp] theorem tupK_b : tupK ds (.bo L) = if flatL ds = true then .mv [] else .bo L := (rfl)
@[simp] theorem datK_nil : datK d (.mv []) = .mv [] := by unfold datK; simp
@[simp] theorem datK_m : datK d (.mv L) = if flat d = true then .mv [] else .mv L := (rfl)
@[simp] theorem datK_s : datK d (.sp L) = if flat d = true then .mv [] else .bo L := (rfl)
@[simp] theorem datK_b : datK d (.bo L) = if flat d = true then .mv [] else .bo L := (rfl)
@[simp] theorem hSub_eq : hSub [.int x, .int y] = some (.int (x - y)) := (rfl)
@[simp] theorem hDiv_eq : hDiv [.int x, .int y] = if 0 < y ∧ y.natAbs.log2 < 9000 then some (.int (x / y)) else none := by simp [hDiv, hII, cDivW]
@[simp] theorem hMod_eq : hMod [.int x, .int y] = if 0 < y then some (.int (x % y)) else none := by simp [hMod, hII]
@[simp] theorem hPow_eq : hPow [.int x, .int y] = if 0 ≤ y ∧ y ≤ 1000000 ∧ x.natAbs < 2 ^ 64 then some (.int (x ^ y.toNat)) else none := by simp [hPow, hII, and_assoc]
@[simp] theorem hLt_eq : hLt [.int x, .int y] = some (.bool (decide (x < y))) := (rfl)
@[simp] theorem hLe_eq : hLe [.int x, .int y] = some (.bool (decide (x ≤ y))) := (rfl)
@[simp] theorem hGt_eq : hGt [.int x, .int y] = some (.bool (decide (y < x))) := (rfl)
@[simp] theorem hGe_eq : hGe [.int x, .int y] = some (.bool (decide (y ≤ x))) := (rfl)
@[simp] theorem hNeg_eq : hNeg [.int x] = some (.int (-x)) := (rfl)
@[simp] theorem gMul_eq : gMul [.int x, .int y] k = if mulOk x y = true then some (.int (x * y), .mv []) else none := (rfl)
@[simp] theorem gMul_l : gMul [.list ds, .int y] k = if 0 ≤ y ∧ y ≤ 1000 ∧ ds.length * y.toNat ≤ 1000000 ∧ flatL ds = true then some (.list (List.replicate y.toNat ds).flatten, .mv []) else none := (rfl)
@[simp] theorem gAdd_eq : gAdd [.int x, .int y] k = some (.int (x + y), .mv []) := (rfl)
@[simp] theorem gAdd_l : gAdd [.list ds, .list es] k = if ds.length + es.length ≤ 1000000 then some (.list (ds ++ es), lstK (ds ++ es) k) else none := (rfl)
@[simp] theorem gAdd_t : gAdd [.tuple ds, .tuple es] k = if ds.length + es.length ≤ 1000000 then some (.tuple (ds ++ es), tupK (ds ++ es) k) else none := (rfl)
@[simp] theorem gAdd_s {u v : Str} : gAdd [.str u, .str v] k = if u.length + v.length ≤ 1000000 then some (.str (u ++ v), .mv []) else none := (rfl)
@[simp] theorem shaped_int : SeqAt.shaped (.int x) = true := (rfl)
@[simp] theorem shaped_bool {z : Bool} : SeqAt.shaped (.bool z) = true := (rfl)
@[simp] theorem shaped_none : SeqAt.shaped .none = true := (rfl)
@[simp] theorem eqv_int : PyData.eqv (.int x) (.int y) = (x == y) := by simp only [PyData.eqv]
@[simp] theorem eqv_bool {z w : Bool} : PyData.eqv (.bool z) (.bool w) = (z == w) := by simp only [PyData.eqv]
@[simp] theorem eqv_none : PyData.eqv .none .none = true := by simp only [PyData.eqv]
@[simp] theorem eqv_int_none : PyData.eqv (.int x) .none = false := by simp only [PyData.eqv]
@[simp] theorem eqv_none_int : PyData.eqv .none (.int x) = false := by simp only [PyData.eqv]
@[simp] theorem hEq_eq (h1 : SeqAt.shaped d = true) (h2 : SeqAt.shaped e = true) : hEq [d, e] = some (.bool (PyData.eqv d e)) := by
  unfold hEq
  split
  · rename_i h; cases h; simp only [PyData.eqv]
  · rename_i h; cases h; rw [if_pos ⟨h1, h2⟩]
  · rename_i h; exact absurd rfl (h _ _)
@[simp] theorem hNe_eq (h1 : SeqAt.shaped d = true) (h2 : SeqAt.shaped e = true) : hNe [d, e] = some (.bool (!PyData.eqv d e)) := by
  unfold hNe
  split
  · rename_i h; cases h; simp only [PyData.eqv]
  · rename_i h; cases h; rw [if_pos ⟨h1, h2⟩]
  · rename_i h; exact absurd rfl (h _ _)
@[simp] theorem hEq_str {z w : Str} : hEq [.str z, .str w] = some (.bool (z == w)) := (rfl)
@[simp] theorem hNe_str {z w : Str} : hNe [.str z, .str w] = some (.bool (!(z == w))) := (rfl)
@[simp] theorem isN_none : isN .none = true := (rfl)
@[simp] theorem isN_int : isN (.int x) = false := (rfl)
@[simp] theorem isN_bool {z : Bool} : isN (.bool z) = false := (rfl)
@[simp] theorem isN_str {z : Str} : isN (.str z) = false := (rfl)
@[simp] theorem isN_list : isN (.list ds) = false := (rfl)
@[simp] theorem isN_tuple : isN (.tuple ds) = false := (rfl)
@[simp] theorem hIsN_eq : hIsN [d, .none] = some (.bool (isN d)) := (rfl)
@[simp] theorem hNotN_eq : hNotN [d, .none] = some (.bool (!isN d)) := (rfl)
@[simp] theorem gIx_eq : gIx [d, .int x] k = datsK (dAt d x) k := (rfl)
@[simp] theorem datsK_eq : datsK (some d) k = some (d, datK d k) := (rfl)
@[simp] theorem dAt_l : dAt (.list ds) x = atI ds x := (rfl)
@[simp] theorem dAt_t : dAt (.tuple ds) x = atI ds x := (rfl)
@[simp] theorem hLen_l : hLen [.list ds] = some (.int (ds.length : Nat)) := (rfl)
@[simp] theorem hLen_t : hLen [.tuple ds] = some (.int (ds.length : Nat)) := (rfl)
@[simp] theorem hLen_s {z : Str} : hLen [.str z] = if z.length ≤ 1000000 then some (.int (z.length : Nat)) else none := (rfl)
@[simp] theorem hInt_i : hInt [.int x] = some (.int x) := (rfl)
@[simp] theorem hInt_b {z : Bool} : hInt [.bool z] = some (.int (if z then 1 else 0)) := (rfl)
@[simp] theorem hStr_i : hStr [.int x] = if x.natAbs.log2 < 1920 then some (.str (toString x)) else none := (rfl)
@[simp] theorem hStr_s {z : Str} : hStr [.str z] = some (.str z) := (rfl)
@[simp] theorem gList_l : gList [.list ds] k = some (.list ds, lstK ds k) := (rfl)
@[simp] theorem gList_t : gList [.tuple ds] k = some (.list ds, lstK ds k) := (rfl)
@[simp] theorem gTuple_l : gTuple [.list ds] k = some (.tuple ds, tupK ds k) := (rfl)
@[simp] theorem gTuple_t : gTuple [.tuple ds] k = some (.tuple ds, tupK ds k) := (rfl)
@[simp] theorem slD_l {u v : Option Int} : slD (.list ds) k u v = some (.list (cutD ds u v), lstK (cutD ds u v) k) := (rfl)
@[simp] theorem slD_t {u v : Option Int} : slD (.tuple ds) k u v = some (.tuple (cutD ds u v), tupK (cutD ds u v) k) := (rfl)
@[simp] theorem hRepr_eq : hRepr [d] = if reprOk d = true then some (.str d.shown) else none := (rfl)
@[simp] theorem truD_b {z : Bool} : truD (.bool z) = some z := (rfl)
theorem kitB_str : kitB "str" "str" = some true := by decide +kernel
@[simp] theorem isiD_str {z : Str} : isiD "str" (.str z) = true := by unfold isiD tyD; rw [kitB_str]; rfl
end
/-- a slot's list, where it may be written -/
def ownQ (s : Option Sl) (b : Bool) : Option (List PyData × Nat) := match s with
  | some (some (.list xs, m)) => if (m = 1 ∨ m = 2) ∧ b = false then some (xs, m) else none
  | _ => none
@[simp] theorem ownL_eq {i : Nat} {k : Kd} {ρ : Env} : ownL i k ρ = ownQ ρ[i]? (k.src.contains i) := by
  unfold ownL ownQ
  rcases ρ[i]? with _ | _ | ⟨d, m⟩
  · rfl
  · rfl
  · cases d <;> simp
@[simp] theorem ownQ_2 {xs : List PyData} : ownQ (some (some (.list xs, 2))) false = some (xs, 2) := (rfl)
@[simp] theorem ownQ_1 {xs : List PyData} : ownQ (some (some (.list xs, 1))) false = some (xs, 1) := (rfl)
@[simp] theorem i62_small {x : Int} (h0 : 0 ≤ x) (h1 : x < 4611686018427387904) : i62 x = true := by
  simp only [i62, Bool.and_eq_true, decide_eq_true_eq]
  omega
theorem i62_lit {n : Nat} (h : n < 2 ^ 62) : i62 (n : Int) = true := by
  simp [i62]
  omega
@[simp] theorem log2_9000 {n : Nat} (h : n < 9000) : Nat.log2 n < 9000 := Nat.lt_of_le_of_lt (Nat.log2_le_self n) h
end Va

/-! Va15: the laws' draws. -/
namespace Va
open PySem L2 PyProof.Rows

def fb_draws : SF := (sSeq (sSet [] 5 (eC (.int 0)))
    (sSeq (sIf (tVal (eApp (gF hGt) (aCons (eApp (gF hLen) (aCons (eVar 2) aNil)) (aCons (eC (.int 0)) aNil)))) (sSeq (sSet [] 6 (eApp (gF hMod) (aCons (eApp (gF hInt) (aCons (eVar 4) aNil)) (aCons (eApp (gF hLen) (aCons (eVar 2) aNil)) aNil))))
    (sIf (tVal (eApp (gF hGe) (aCons (eApp gIx (aCons (eVar 2) (aCons (eVar 6) aNil))) (aCons (eApp (gF hPow) (aCons (eC (.int 10)) (aCons (eC (.int 18)) aNil))) aNil)))) (sSeq (sSet [] 5 (eApp (gF hMod) (aCons (eApp (gF hInt) (aCons (eApp gIx (aCons (eVar 2) (aCons (eVar 6) aNil))) aNil)) (aCons (eC (.int 1000)) aNil))))
    (sIdx [6] 2 (eApp (gF hDiv) (aCons (eApp gIx (aCons (eVar 2) (aCons (eVar 6) aNil))) (aCons (eC (.int 1000)) aNil))) (eVar 6))) (sSeq (sSet [4] 7 (eApp (gF hMod) (aCons (eApp (gF hInt) (aCons (eApp (gAdd) (aCons (eApp (gAdd) (aCons (eApp (gMul) (aCons (eApp gIx (aCons (eVar 2) (aCons (eVar 6) aNil))) (aCons (eC (.int 48271)) aNil))) (aCons (eApp (gMul) (aCons (eVar 4) (aCons (eC (.int 69621)) aNil))) aNil))) (aCons (eC (.int 11)) aNil))) aNil)) (aCons (eC (.int 2147483647)) aNil))))
    (sSeq (sSet [6] 7 (eApp (gF hMod) (aCons (eApp (gF hInt) (aCons (eApp (gAdd) (aCons (eApp (gMul) (aCons (eVar 7) (aCons (eC (.int 16807)) aNil))) (aCons (eVar 6) aNil))) aNil)) (aCons (eC (.int 2147483629)) aNil))))
    (sSet [7] 5 (eApp (gF hMod) (aCons (eApp (gF hInt) (aCons (eApp (gF hDiv) (aCons (eVar 7) (aCons (eC (.int 7)) aNil))) aNil)) (aCons (eC (.int 1000)) aNil)))))))) sNext)
    (sMutL [5] 3 (eVar 5) hApp)))
def f_draws : SF := (sSeq (sSet [] 3 (eApp gnLst aNil))
    (sSeq (sFor (iR1 (aCons (eVar 1) aNil)) [4] (tgN 4) [2, 3, 4, 5, 6, 7] fb_draws [0, 1, 4, 5, 6, 7])
    (sRet (eVar 3))))
def drawE (k : Option Int) (rs acc : List Int) : Env := [none, none, some (intsD rs, 2), some (intsD acc, 2), k.map fun k => (.int k, 2), none, none, none, none]
theorem mulOk_48271 {y : Int} : mulOk y 48271 = true := by simp [mulOk]
theorem mulOk_69621 {y : Int} : mulOk y 69621 = true := by simp [mulOk]
theorem mulOk_16807 {y : Int} : mulOk y 16807 = true := by simp [mulOk]
theorem draws_step {k : Int} {rs acc : List Int} (h0 : 0 ≤ k) (hk : k < 1048576) (hr : rs.length ≤ 63) (ha : acc.length < 1000000) :
    ∃ x rs' ρ2, fb_draws (drawE (some k) rs acc) = some (.nx ρ2) ∧ kil [0, 1, 4, 5, 6, 7] ρ2 = drawE none rs' (acc ++ [x]) ∧ rs'.length = rs.length ∧ 0 ≤ x ∧ x < 1000 := by
  by_cases h : rs.length = 0
  · have : rs = [] := List.eq_nil_of_length_eq_zero h
    subst this
    refine ⟨0, [], ?_⟩
    simp [fb_draws, drawE, intsD, ha]
  · have hp : 0 < (rs.length : Int) := by omega
    have hp2 : 0 < rs.length := by omega
    have hm0 : 0 ≤ k % (rs.length : Int) := Int.emod_nonneg _ (by omega)
    have hm1 : k % (rs.length : Int) < rs.length := Int.emod_lt_of_pos _ hp
    have hl : (k % (rs.length : Int)).toNat < rs.length := by omega
    generalize hj : k % (rs.length : Int) = j at hm0 hm1 hl
    have hx : rs[j.toNat]? = some rs[j.toNat] := List.getElem?_eq_getElem hl
    have hix : ixN rs.length j = some j.toNat := by unfold ixN; simp [hm0, hm1]
    generalize rs[j.toNat] = y at hx
    by_cases hy : (1000000000000000000 : Int) ≤ y
    · refine ⟨y % 1000, rs.set j.toNat (y / 1000), ?_⟩
      simp [fb_draws, drawE, intsD, ha, h, hp, hp2, dAt, atI_nat, hj, hm0, hx, hy, hix]
      omega
    · refine ⟨((((y * 48271 + k * 69621 + 11) % 2147483647) * 16807 + j) % 2147483629 / 7) % 1000, rs, ?_⟩
      simp [fb_draws, drawE, intsD, ha, h, hp, hp2, dAt, atI_nat, hj, hm0, hx, hy, hix, mulOk_48271, mulOk_69621, mulOk_16807]
      omega
theorem draws_out (rs : List Int) (n : Nat) (hr : rs.length ≤ 63) (hn : n ≤ 1000) : ∀ (σ0 : Sl) (m : Nat), m ≤ n →
    ∃ ds, Drawn n ds ∧ f_draws [σ0, some (.int (n : Nat), 2), some (intsD rs, 2), none, none, none, none, none, none] = some (.rt (intsD ds) 2) := by
  intro σ0 m _
  have hl := loopF_P (st := tgN 4) (fb := fb_draws) (fg := [0, 1, 4, 5, 6, 7]) (fun i ρ => ∃ rs' acc, ρ = drawE none rs' acc ∧ rs'.length ≤ 63 ∧ Drawn i acc) (intsFrom 0 n) [σ0, some (.int (n : Nat), 2), some (intsD rs, 2), some (.list [], 2), none, none, none, none, none] 0 ?_ ?_
  · obtain ⟨ρ', h1, rs', acc, rfl, h2, h3⟩ := hl
    rw [show 0 + (intsFrom 0 n).length = n by simp [intsFrom]] at h3
    refine ⟨acc, h3, ?_⟩
    have h62 : i62 (n : Int) = true := i62_lit (Nat.lt_of_le_of_lt hn (by decide))
    simp only [intsD] at h1
    simp [f_draws, h62, forK_flat, h1, drawE, intsD]
  · rintro i d hd ρ ⟨rs', acc, rfl, h1, h2⟩
    obtain ⟨hi, rfl⟩ := intsFrom_get hd
    obtain ⟨x, rs2, ρ2, e1, e2, e3, e4, e5⟩ := draws_step (k := (i : Int)) (rs := rs') (acc := acc) (by omega) (by omega) h1 (by have := h2.1; omega)
    refine ⟨drawE (some i) rs' acc, ρ2, by simp [drawE], e1, ?_⟩
    rw [e2]
    refine ⟨rs2, acc ++ [x], rfl, by omega, ?_, ?_⟩
    · rw [List.length_append, h2.1]; rfl
    · intro d hd
      rcases List.mem_append.mp hd with hd | hd
      · exact h2.2 d hd
      · rcases List.mem_singleton.mp hd with rfl; exact ⟨e4, e5⟩
  · exact ⟨rs, [], by simp [drawE, intsD], hr, rfl, fun d h => nomatch h⟩
/-- the body of the def that draws -/
theorem draws_body {K : PySem.W.Frag} {Wx : WxT} {wr : List Nat} {tr : TS} {N : List Str} {vs : List V} {H : Hp} {Q : VK} {E : XK} (h : VS K Wx wr tr f_draws) (hs : spDraws K vs H Q E) (hN : N.length = 9) :
    tSeq (tAsg (tLc (iList K (tVar 0)) (gName 8) tYes (tVar 8) [8]) (gName 2)) tr { nx := fun _ H' => Q .non H', rt := Q } (L2.start N vs) H := by
  obtain ⟨a, ns, n, rfl, hS, hl, hn, q⟩ := hs
  have hst : L2.start N [V.ref a, V.int n] = [some (.ref a), some (.int n), none, none, none, none, none, none, none] := by
    unfold L2.start
    rw [hN]
    rfl
  rw [hst]
  unfold tSeq tAsg
  refine draw_copy (σ := [some (.ref a), some (.int n), none, none, none, none, none, none, none]) (ns := ns) (c := 8) rfl hS hl (by show 8 < 9; decide) fun D H' g hD hD' => ?_
  obtain ⟨ds, h1, h2⟩ := draws_out ns n hl hn none 0 (Nat.zero_le _)
  have S : SR K H [] [some (.ref a), some (.int n), some (.ref D), none, none, none, none, none, none] H' [none, some (.int (n : Nat), 2), some (intsD ns, 2), none, none, none, none, none, none] (fun i => if i = 2 then [D] else []) := by
    refine ⟨rfl, g, fun i d m q => ?_, fun i j d m d' m' q q' ne b hb => ?_⟩
    · match i, q with
      | 1, q =>
        cases q
        exact ⟨_, rfl, .int _, fun a ha => (nomatch ha), ⟨fun a ha => (nomatch ha), fun z => (nomatch z), fun _ => List.nodup_nil⟩⟩
      | 2, q =>
        cases q
        refine ⟨_, rfl, ?_, fun a ha => ?_, fun a ha => ?_, fun z => (nomatch z), fun _ => ?_⟩
        · exact .lst hD' (rp_ints ns)
        · rcases List.mem_singleton.mp ha with rfl; exact .inl hD
        · rcases List.mem_singleton.mp ha with rfl; exact hD
        · show List.Nodup [D]; simp
      | 0, q => cases q
      | 3, q => cases q
      | 4, q => cases q
      | 5, q => cases q
      | 6, q => cases q
      | 7, q => cases q
      | 8, q => cases q
      | j + 9, q => simp at q
    · match i, q with
      | 1, q => cases q; exact absurd hb (fun z => nomatch z)
      | 2, q =>
        cases q
        match j, q' with
        | 1, q' => cases q'; exact fun z => nomatch z
        | 2, q' => exact absurd rfl ne
        | 0, q' => cases q'
        | 3, q' => cases q'
        | 4, q' => cases q'
        | 5, q' => cases q'
        | 6, q' => cases q'
        | 7, q' => cases q'
        | 8, q' => cases q'
        | j + 9, q' => simp at q'
      | 0, q => cases q
      | 3, q => cases q
      | 4, q => cases q
      | 5, q => cases q
      | 6, q => cases q
      | 7, q => cases q
      | 8, q => cases q
      | j + 9, q => simp at q
  refine h H [] _ H' _ _ _ S h2 _ fun v H2 G g2 r2 o2 => q ds h1 v H2 G g2 r2 o2
end Va

/-! Va16: loops and comprehensions by what they do; sizes. -/
namespace Va
open PySem L2 PyProof.Rows

/-! ### defs -/
def outK (o : Option Out) : Option (PyData × Nat) := o.bind fun o => match o with
  | .nx _ => some (.none, 2)
  | .rt d r => some (d, r)
  | _ => none
@[simp] theorem mOf_eq {n : Nat} {f : SF} {ds : List PyData} : mOf n f ds = outK (f (env0 n ds)) := (rfl)
@[simp] theorem outK_nx {ρ : Env} : outK (some (.nx ρ)) = some (.none, 2) := (rfl)
@[simp] theorem outK_rt {d : PyData} {r : Nat} : outK (some (.rt d r)) = some (d, r) := (rfl)
@[simp] theorem env0_eq {n : Nat} {ds : List PyData} : env0 n ds = ds.map (fun d => some (d, m02 d)) ++ List.replicate (n - ds.length) none := (rfl)
/-! ### loops -/
def bodyK (p : Option Env) (fb : SF) : Option Out := p.bind fb
@[simp] theorem bodyK_eq {ρ : Env} {fb : SF} : bodyK (some ρ) fb = fb ρ := (rfl)
theorem bodyK_some {p : Option Env} {fb : SF} {o : Out} (h : bodyK p fb = some o) : ∃ ρ1, p = some ρ1 ∧ fb ρ1 = some o := Option.bind_eq_some_iff.mp h
theorem intsFrom_len {lo : Int} {n : Nat} : (intsFrom lo n).length = n := by simp [intsFrom]
theorem loop_range {st : SG} {fb : SF} {fg : List Nat} {lo : Int} {n : Nat} {ρ : Env} (P : Nat → Env → Prop)
    (hs : ∀ i : Nat, i < n → ∀ ρ, P i ρ → ∃ ρ2, bodyK (st (.int (lo + (i : Nat))) ρ) fb = some (.nx ρ2) ∧ P (i + 1) (kil fg ρ2)) (h0 : P 0 (kil fg ρ)) :
    ∃ ρ', loopF st fb fg (intsFrom lo n) ρ = some (.nx ρ') ∧ P n ρ' := by
  have := loopF_P (st := st) (fb := fb) (fg := fg) P (intsFrom lo n) ρ 0 (fun i d hd ρ h => by
    obtain ⟨hi, rfl⟩ := intsFrom_get hd
    rw [Nat.zero_add] at h
    obtain ⟨ρ2, hb, h3⟩ := hs i hi ρ h
    obtain ⟨ρ1, h1, h2⟩ := bodyK_some hb
    exact ⟨ρ1, ρ2, h1, h2, by rw [Nat.zero_add]; exact h3⟩) h0
  rw [Nat.zero_add, intsFrom_len] at this
  exact this
/-- a loop over told items -/
theorem loop_items {α : Type} {st : SG} {fb : SF} {fg : List Nat} {e : α → PyData} {xs : List α} {ρ : Env} (P : List α → Env → Prop)
    (hs : ∀ (ys : List α) (x : α), ys ++ [x] <+: xs → ∀ ρ, P ys ρ → ∃ ρ2, bodyK (st (e x) ρ) fb = some (.nx ρ2) ∧ P (ys ++ [x]) (kil fg ρ2)) (h0 : P [] (kil fg ρ)) :
    ∃ ρ', loopF st fb fg (xs.map e) ρ = some (.nx ρ') ∧ P xs ρ' := by
  have := loopF_P (st := st) (fb := fb) (fg := fg) (fun i ρ => P (xs.take i) ρ) (xs.map e) ρ 0 (fun i d hd ρ h => by
    rw [List.getElem?_map] at hd
    obtain ⟨x, hx, rfl⟩ := Option.map_eq_some_iff.mp hd
    rw [Nat.zero_add] at h
    obtain ⟨h1, h2⟩ := List.getElem?_eq_some_iff.mp hx
    have e1 : xs.take (i + 1) = xs.take i ++ [x] := by rw [List.take_succ_eq_append_getElem h1, h2]
    obtain ⟨ρ2, hb, a3⟩ := hs (xs.take i) x (by rw [← e1]; exact List.take_prefix _ _) ρ h
    obtain ⟨ρ1, a1, a2⟩ := bodyK_some hb
    exact ⟨ρ1, ρ2, a1, a2, by rw [Nat.zero_add, e1]; exact a3⟩) (by rw [List.take_zero]; exact h0)
  rw [Nat.zero_add, List.length_map, List.take_length] at this
  exact this
/-- a list comprehension whose items are flat or new -/
theorem lc_map {α : Type} {ns vs : List Nat} {st : SG} {ft : Env → Option Bool} {fe : EF} {e : α → PyData} {g : α → PyData} {c : α → Bool} {xs : List α} {k : Kd} {ρ : Env} (hl : xs.length ≤ 1000000)
    (h : ∀ x ∈ xs, ∃ ρ1, st (e x) (wipeE (zeroE ρ) vs) = some ρ1 ∧ ft ρ1 = some (c x) ∧ (c x = true → ∃ L, fe ρ1 = some (g x, .mv L))) :
    lcK (some (xs.map e, k)) ns st ft fe vs ρ = some (.list ((xs.filter c).map g), .mv []) := by
  have main : ∀ ys : List α, (∀ y ∈ ys, y ∈ xs) → ∃ L, lcF ns st ft fe (wipeE (zeroE ρ) vs) (ys.map e) = some ((ys.filter c).map g, true, L) := by
    intro ys
    induction ys with
    | nil => intro _; exact ⟨[], rfl⟩
    | cons y ys ih =>
      intro hy
      obtain ⟨L, hL⟩ := ih fun z hz => hy z (List.mem_cons_of_mem _ hz)
      obtain ⟨ρ1, e1, e2, e3⟩ := h y (hy y (List.mem_cons_self ..))
      rw [List.map_cons, lcF, e1, Option.bind_some, e2, Option.bind_some]
      cases hc : c y with
      | true =>
        obtain ⟨M, e4⟩ := e3 hc
        rw [if_pos rfl, e4, Option.bind_some, hL, List.filter_cons_of_pos hc]
        exact ⟨_, rfl⟩
      | false =>
        rw [if_neg (by simp), hL, List.filter_cons_of_neg (by simp [hc])]
        exact ⟨_, rfl⟩
  obtain ⟨L, hL⟩ := main xs fun _ h => h
  rw [lcK_eq, if_pos (by rw [List.length_map]; exact hl), hL]
  simp
theorem filter_tt {α : Type} : ∀ xs : List α, xs.filter (fun _ => true) = xs
  | [] => rfl
  | x :: xs => by rw [List.filter_cons_of_pos rfl, filter_tt xs]
theorem lc_map1 {α : Type} {ns vs : List Nat} {st : SG} {fe : EF} {e : α → PyData} {g : α → PyData} {xs : List α} {k : Kd} {ρ : Env} (hl : xs.length ≤ 1000000)
    (h : ∀ x ∈ xs, ∃ ρ1, st (e x) (wipeE (zeroE ρ) vs) = some ρ1 ∧ ∃ L, fe ρ1 = some (g x, .mv L)) :
    lcK (some (xs.map e, k)) ns st (fun _ => some true) fe vs ρ = some (.list (xs.map g), .mv []) := by
  have := lc_map (ns := ns) (vs := vs) (st := st) (ft := fun _ => some true) (fe := fe) (e := e) (g := g) (c := fun _ => true) (k := k) (ρ := ρ) hl fun x hx => by
    obtain ⟨ρ1, h1, h2⟩ := h x hx
    exact ⟨ρ1, h1, rfl, fun _ => h2⟩
  rw [this, filter_tt]
@[simp] theorem zeroE_nil : zeroE [] = [] := (rfl)
@[simp] theorem zeroE_cons {s : Sl} {ρ : Env} : zeroE (s :: ρ) = s.map (fun p => (p.1, 0)) :: zeroE ρ := (rfl)
theorem zeroE_none {ρ : Env} : zeroE (none :: ρ) = none :: zeroE ρ := (rfl)
theorem zeroE_some {d : PyData} {m : Nat} {ρ : Env} : zeroE (some (d, m) :: ρ) = some (d, 0) :: zeroE ρ := (rfl)

/-! ### texts -/
structure TOk (n : Nat) (x : Str) : Prop where
  ok : PyData.strOk x = true
  len : x.length ≤ n
theorem strOk_of (s : String) : PyData.strOk (Str.ofString s) = true := by
  unfold PyData.strOk
  rw [Str.ofString_eq_toList, List.all_toArray, List.all_map, List.all_eq_true]
  intro c _
  have h := c.valid
  simp only [UInt32.isValidChar, Nat.isValidChar] at h
  simp only [Function.comp_apply, decide_eq_true_eq, Char.toNat]
  omega
theorem TOk.lit {n : Nat} (s : String) (h : s.length ≤ n) : TOk n (Str.ofString s) := ⟨strOk_of s, by rw [PySem.ofString_length]; exact h⟩
theorem TOk.mono {n m : Nat} {x : Str} (h : TOk n x) (k : n ≤ m) : TOk m x := ⟨h.1, Nat.le_trans h.2 k⟩
theorem TOk.app {n m : Nat} {x y : Str} (h : TOk n x) (k : TOk m y) : TOk (n + m) (x ++ y) := by
  refine ⟨?_, by rw [Str.length_append]; exact Nat.add_le_add h.2 k.2⟩
  have h1 := h.1
  have h2 := k.1
  unfold PyData.strOk at *
  rw [Str.cps_append, Array.all_append, h1, h2]
  rfl
theorem TOk.empty : TOk 0 Str.empty := ⟨by decide +kernel, Nat.le_refl _⟩
theorem TOk.int {i : Int} (h : i.natAbs < 10 ^ 12) : TOk 13 (Str.ofString (toString i)) := ⟨strOk_of _, by rw [PySem.ofString_length]; exact int_text_length_le10 (k := 12) (by decide) h⟩
theorem TOk.sjoin {n m : Nat} {sep : Str} (hs : TOk m sep) : ∀ {xs : List Str}, (∀ x ∈ xs, TOk n x) → TOk (xs.length * (n + m)) (Str.join sep xs)
  | [], _ => TOk.empty.mono (Nat.zero_le _)
  | [x], h => (h x (List.mem_cons_self ..)).mono (by simp)
  | x :: y :: r, h => by
    have := ((h x (List.mem_cons_self ..)).app hs).app (TOk.sjoin hs (xs := y :: r) fun z hz => h z (List.mem_cons_of_mem _ hz))
    refine TOk.mono this ?_
    rw [List.length_cons (a := x), Nat.succ_mul]
    omega
theorem txt_join (y : Str) (xs : List Str) : Txt.join y xs = Str.join y xs := StrLaws.glued_eq_join y xs
theorem TOk.join {n m k : Nat} {sep : Str} {xs : List Str} (h : ∀ x ∈ xs, TOk n x) (hs : TOk m sep) (hk : xs.length ≤ k) : TOk (k * (n + m)) (Txt.join sep xs) := by
  rw [txt_join]
  exact (TOk.sjoin hs h).mono (Nat.mul_le_mul_right _ hk)
@[simp] theorem strsOf_map {xs : List Str} : strsOf (xs.map PyData.str) = some xs := by
  induction xs with
  | nil => rfl
  | cons n ns ih => simp [strsOf, ih]
theorem sum_le_mul {n : Nat} : ∀ {xs : List Nat}, (∀ x ∈ xs, x ≤ n) → xs.sum ≤ xs.length * n
  | [], _ => by simp
  | x :: xs, h => by
    have := sum_le_mul (xs := xs) fun z hz => h z (List.mem_cons_of_mem _ hz)
    have h0 := h x (List.mem_cons_self ..)
    rw [List.sum_cons, List.length_cons, Nat.succ_mul]
    omega
theorem joinD_ok {n m k : Nat} {sep : Str} {xs : List Str} (h : ∀ x ∈ xs, x.length ≤ n) (hs : sep.length ≤ m) (hk : xs.length ≤ k) (hh : k * (n + m) ≤ 1000000) : joinD (.str sep) (.list (xs.map PyData.str)) = some (.str (Txt.join sep xs)) := by
  have h1 : (xs.map (·.length)).sum ≤ xs.length * n := by
    have := sum_le_mul (n := n) (xs := xs.map (·.length)) fun y hy => by
      obtain ⟨x, hx, rfl⟩ := List.mem_map.mp hy
      exact h x hx
    rwa [List.length_map] at this
  have h2 : xs.length * sep.length ≤ xs.length * m := Nat.mul_le_mul_left _ hs
  have h3 : xs.length * (n + m) ≤ k * (n + m) := Nat.mul_le_mul_right _ hk
  rw [Nat.mul_add] at h3
  unfold joinD
  simp only [strsOf_map, Option.bind_some]
  rw [if_pos (by omega)]

/-! ### what may be shown and compared -/
structure Tame (D W : Nat) (d : PyData) : Prop where
  lay : d.canLay0 = true
  show_ : d.showable = true
  short : d.intsShort 13 = true
  deep : d.depth ≤ D
  heavy : d.weight ≤ W
section
variable {D W D' W' n : Nat} {d : PyData} {ds : List PyData}
theorem Tame.mono (h : Tame D W d) (h1 : D ≤ D') (h2 : W ≤ W') : Tame D' W' d := ⟨h.lay, h.show_, h.short, Nat.le_trans h.deep h1, Nat.le_trans h.heavy h2⟩
theorem Tame.none : Tame 0 0 .none := ⟨rfl, rfl, rfl, Nat.le_refl _, Nat.le_refl _⟩
theorem Tame.bool {b : Bool} : Tame 0 0 (.bool b) := ⟨rfl, rfl, rfl, Nat.le_refl _, Nat.le_refl _⟩
theorem Tame.str {x : Str} (h : TOk W x) : Tame 0 W (.str x) := ⟨by simpa only [PyData.canLay0] using h.ok, rfl, rfl, Nat.le_refl _, h.len⟩
theorem Tame.int {i : Int} (h : i.natAbs < 10 ^ 12) : Tame 0 40 (.int i) := by
  have hl : i.natAbs.log2 < 40 := by
    by_cases h0 : i.natAbs = 0
    · rw [h0]; decide
    · exact (Nat.log2_lt h0).mpr (Nat.lt_of_lt_of_le h (by decide))
  refine ⟨rfl, ?_, ?_, Nat.le_refl _, ?_⟩
  · simp only [PyData.showable, decide_eq_true_eq]
    omega
  · simp only [PyData.intsShort, decide_eq_true_eq]
    exact PyData.shown_int_le h
  · simp only [PyData.weight]
    split <;> omega
theorem tame_all (h : ∀ x ∈ ds, Tame D W x) : PyData.canLayAll0 ds = true ∧ PyData.showableAll ds = true ∧ PyData.intsShortAll 13 ds = true ∧ PyData.depthAll ds ≤ D ∧ PyData.weightAll ds ≤ ds.length * (W + 1) := by
  induction ds with
  | nil => exact ⟨rfl, rfl, rfl, Nat.zero_le _, Nat.zero_le _⟩
  | cons x xs ih =>
    obtain ⟨h1, h2, h3, h4, h5⟩ := ih fun y hy => h y (List.mem_cons_of_mem _ hy)
    have hx := h x (List.mem_cons_self ..)
    refine ⟨?_, ?_, ?_, ?_, ?_⟩
    · simp only [PyData.canLayAll0, hx.lay, h1, Bool.and_self]
    · simp only [PyData.showableAll, hx.show_, h2, Bool.and_self]
    · simp only [PyData.intsShortAll, hx.short, h3, Bool.and_self]
    · simp only [PyData.depthAll]
      exact Nat.max_le.mpr ⟨hx.deep, h4⟩
    · simp only [PyData.weightAll]
      have := hx.heavy
      rw [List.length_cons, Nat.succ_mul]
      omega
theorem Tame.list (h : ∀ x ∈ ds, Tame D W x) (hn : ds.length ≤ n) : Tame (D + 1) (n * (W + 1)) (.list ds) := by
  obtain ⟨h1, h2, h3, h4, h5⟩ := tame_all h
  refine ⟨?_, ?_, ?_, ?_, ?_⟩
  · simpa only [PyData.canLay0] using h1
  · simpa only [PyData.showable] using h2
  · simpa only [PyData.intsShort] using h3
  · simp only [PyData.depth]; omega
  · simp only [PyData.weight]
    exact Nat.le_trans h5 (Nat.mul_le_mul_right _ hn)
theorem Tame.tuple (h : ∀ x ∈ ds, Tame D W x) (hn : ds.length ≤ n) : Tame (D + 1) (n * (W + 1)) (.tuple ds) := by
  obtain ⟨h1, h2, h3, h4, h5⟩ := tame_all h
  refine ⟨?_, ?_, ?_, ?_, ?_⟩
  · simpa only [PyData.canLay0] using h1
  · simpa only [PyData.showable] using h2
  · simpa only [PyData.intsShort] using h3
  · simp only [PyData.depth]; omega
  · simp only [PyData.weight]
    exact Nat.le_trans h5 (Nat.mul_le_mul_right _ hn)
theorem Tame.reprOk (h : Tame D W d) (hD : D ≤ 60) (hW : W ≤ 60000) : reprOk d = true := by
  have hs := PyData.shown_le 13 (by decide) d (PyData.leavesShort_of_canLay0 13 d h.lay h.short)
  have h1 := h.deep
  have h2 := h.heavy
  unfold Va.reprOk
  simp only [Bool.and_eq_true, decide_eq_true_eq]
  exact ⟨⟨⟨h.show_, h.lay⟩, by omega⟩, by omega⟩
theorem Tame.shaped (h : Tame D W d) (hD : D ≤ 64) : SeqAt.shaped d = true := by
  have h1 := h.deep
  unfold SeqAt.shaped
  simp only [Bool.and_eq_true, decide_eq_true_eq]
  exact ⟨h.lay, by omega⟩
theorem Tame.eqv (h : Tame D W d) : PyData.eqv d d = true := SeqAt.eqv_refl d h.lay
end
theorem shaped_str {x : Str} (h : PyData.strOk x = true) : SeqAt.shaped (.str x) = true := by
  unfold SeqAt.shaped
  simp [PyData.canLay0, PyData.depth, h]
end Va

/-! Va17: a list in a slot's list is changed. -/
namespace Va
open PySem L2 PyProof.Rows

section
variable {K : PySem.W.Frag} {Wx : WxT} {B : Hp} {AF : List Addr} {σ : L2.St} {H H' : Hp} {ρ : Env} {Fs : Nat → List Addr} {v : V} {F : List Addr} {k : Kd} {kl wr : List Nat}
/-- the list that the slot i has at q, itself or deep in it, becomes o -/
theorem SR.write2 {ρ1 : Env} {G : List Addr} {i : Nat} {d d' : PyData} {u : V} {q : Addr} {o : HO} (S : SR K B AF σ H ρ1 Fs) (hi : ρ1[i]? = some (some (d, 2))) (hq : q ∈ Fs i) (hσ : σ[i]? = some (some u))
    (r : Rp K (upd H q o) u d' G) (hB : ∀ a ∈ G, B a = none) (hN : G.Nodup)
    (ha : ∀ (j : Nat) (e : PyData) (n : Nat), j ≠ i → ρ1[j]? = some (some (e, n)) → (∀ a ∈ Mf n (Fs j), a ∉ G) ∧ ∀ a ∈ G, a ≠ q → a ∉ Fs j) :
    SR K B AF σ (upd H q o) (ρ1.set i (some (d', 2))) (upF Fs i G) := by
  obtain ⟨v, h1, h2, h3, h4⟩ := S.val i d 2 hi
  have mb : Mb (H q) = true := h2.mb q hq
  have Bq : B q = none := h4.1 q hq
  have pj : ∀ (j : Nat) (e : PyData) (n : Nat), j ≠ i → ρ1[j]? = some (some (e, n)) → q ∉ Fs j := fun j e n ne w => S.dis i j d 2 e n hi w (Ne.symm ne) q hq
  refine ⟨by rw [List.length_set]; exact S.len, fun a u e => ?_, fun j e n w => ?_, fun j j' e n e' n' w w' ne a hh => ?_⟩
  · have : a ≠ q := fun z => by rw [z, Bq] at e; cases e
    rw [upd_ne this]
    exact S.same a u e
  · rcases set_some w with ⟨rfl, z⟩ | ⟨ne, z⟩
    · cases z
      rw [upF_same]
      exact ⟨u, hσ, r, fun a ha => .inl (hB a ha), hB, fun z => (nomatch z), fun _ => hN⟩
    · obtain ⟨u, u1, u2, u3, u4⟩ := S.val j e n z
      rw [upF_ne ne]
      exact ⟨u, u1, u2.kp (.upd mb (pj j e n ne z)), u3, u4⟩
  · rcases set_some w with ⟨rfl, z⟩ | ⟨ne1, z⟩
    · cases z
      rcases set_some w' with ⟨rfl, z'⟩ | ⟨ne2, z'⟩
      · exact absurd rfl ne
      · rw [upF_same] at hh
        rw [upF_ne ne2]
        by_cases e : a = q
        · subst e
          exact pj j' e' n' ne2 z'
        · exact (ha j' e' n' ne2 z').2 a hh e
    · rw [upF_ne ne1] at hh
      rcases set_some w' with ⟨rfl, z'⟩ | ⟨ne2, z'⟩
      · rw [upF_same]
        exact (ha j e n ne1 z).1 a hh
      · rw [upF_ne ne2]
        exact S.dis j j' e n e' n' z z' ne a hh
theorem mut2_ok {H1 : Hp} {i : Nat} {d d' : PyData} {q : Addr} {u : V} {G : List Addr} {o : HO} (S : SR K B AF σ H ρ Fs) (g1 : Grow H H1) (ok : KV ρ Fs H v F k) (hi : ρ[i]? = some (some (d, 2))) (hn : i ∉ k.src) (hg : (giv kl k ρ).2 = 2)
    (hq : q ∈ Fs i) (hσ : σ[i]? = some (some u)) (r : Rp K (upd H1 q o) u d' G) (hG : ∀ a ∈ G, a ∈ Fs i ∨ a ∈ F) (hN : (Fs i ++ F).Nodup → G.Nodup) :
    SR K B AF σ (upd H1 q o) ((giv kl k ρ).1.set i (some (d', 2))) (upF Fs i G) ∧ Fr (i :: kl) σ H ρ Fs σ (upd H1 q o) ((giv kl k ρ).1.set i (some (d', 2))) (upF Fs i G) := by
  have GO := giv_ok (kl := kl) S ok
  have hi1 := giv_keep (kl := kl) hi hn
  have S1 : SR K B AF σ H1 (giv kl k ρ).1 Fs := (S.grow g1).less GO.len GO.less
  obtain ⟨_, _, _, u3, u4⟩ := S.val i d 2 hi
  have GF := GO.c
  rw [hg] at GF
  have nd : (Fs i ++ F).Nodup := List.nodup_append.mpr ⟨u4.2.2 rfl, GF.2.2 rfl, fun a ha b hb z => by
    subst z
    exact GO.a i d 2 hi1 a ha hb⟩
  constructor
  · refine S1.write2 hi1 hq hσ r (fun a ha => ?_) (hN nd) fun j e n ne w => ⟨fun a ha z => ?_, fun a ha _ z => ?_⟩
    · rcases hG a ha with ha | ha
      · exact u4.1 a ha
      · exact GF.1 a ha
    · rcases hG a z with z | z
      · exact S1.dis j i e n d 2 w hi1 ne a ha z
      · exact GO.a j e n w a ha z
    · rcases hG a ha with y | y
      · exact S1.dis i j d 2 e n hi1 w (Ne.symm ne) a y z
      · exact GO.b j e n w a (by rw [hg]; exact y) z
  · refine ⟨fun a z => ?_, fun a w e kk => ?_, fun j hj e n w a ha => ?_, fun j hj => ?_⟩
    · by_cases e : a = q
      · subst e
        rw [upd_same] at z
        cases z
      · rw [upd_ne e] at z
        exact g1.back z
    · have : a ≠ q := fun z => kk i (List.mem_cons_self ..) d 2 hi (z ▸ hq)
      rw [upd_ne this]
      exact g1 a w e
    · rcases set_some w with ⟨rfl, z⟩ | ⟨ne, z⟩
      · cases z
        rw [upF_same] at ha
        rcases hG a ha with y | y
        · exact .inr ⟨j, hj, d, 2, hi, y⟩
        · exact (GO.e a (by rw [hg]; exact y)).imp id fun ⟨l, hl, w⟩ => ⟨l, List.mem_cons_of_mem _ hl, w⟩
      · rw [upF_ne ne] at ha
        obtain ⟨n0, q0, q1⟩ := GO.less j e n z
        exact .inr ⟨j, hj, e, n0, q0, Mf_le q1 ha⟩
    · have ne : j ≠ i := fun z => hj (by rw [z]; exact List.mem_cons_self ..)
      refine ⟨rfl, fun e n w => ?_⟩
      rcases set_some w with ⟨z, _⟩ | ⟨_, z⟩
      · exact absurd z ne
      · obtain ⟨n0, q0, q1⟩ := GO.less j e n z
        exact ⟨n0, q0, upF_ne ne, fun a ha => Mf_le q1 ha⟩
/-! ### an item -/
theorem RpL.put : ∀ {vs : List V} {ds : List PyData} {F : List Addr} (n : Nat) {d : PyData}, RpL K H vs ds F → ds[n]? = some d →
    ∃ A G B w, F = A ++ (G ++ B) ∧ vs[n]? = some w ∧ Rp K H w d G ∧ ∀ (H' : Hp) (d' : PyData) (G' : List Addr), Kp (A ++ B) H H' → Rp K H' w d' G' → RpL K H' vs (ds.set n d') (A ++ (G' ++ B))
  | _, _, _, 0, d, .cons (F := F) (G := G) e r, h => by
    cases h
    exact ⟨[], F, G, _, rfl, rfl, e, fun H' d' G' kp e' => show RpL K H' _ (d' :: _) (G' ++ G) from .cons e' (r.kp (by simpa using kp))⟩
  | _, _, _, n + 1, d, .cons (F := F) (G := G) e r, h => by
    obtain ⟨A, G', B, w, h1, h2, h3, h4⟩ := RpL.put n r (by simpa using h)
    refine ⟨F ++ A, G', B, w, by rw [h1, List.append_assoc], by simpa using h2, h3, fun H' d' G'' kp e' => ?_⟩
    rw [List.append_assoc]
    exact .cons (e.kp (kp.mono fun a ha => by simp [ha])) (h4 H' d' G'' (kp.mono fun a ha => by
      rcases List.mem_append.mp ha with ha | ha <;> simp [ha]) e')
/-- the list at a of a list or tuple: its place there, its items -/
def inner (d : PyData) (a : Int) : Option (Nat × List PyData) := match d with
  | .list xs => (ixN xs.length a).bind fun n => match xs[n]? with
    | some (.list ys) => some (n, ys)
    | _ => none
  | .tuple xs => (ixN xs.length a).bind fun n => match xs[n]? with
    | some (.list ys) => some (n, ys)
    | _ => none
  | _ => none
def putIn (d : PyData) (n : Nat) (e : PyData) : PyData := match d with
  | .list xs => .list (xs.set n e)
  | .tuple xs => .tuple (xs.set n e)
  | d => d
theorem inner_ok {d : PyData} {a : Int} {n : Nat} {ys : List PyData} {u : V} (e : inner d a = some (n, ys)) (r : Rp K H u d F) :
    ∃ (pre A B G0 : List Addr) (q : Addr) (ws : List V), F = pre ++ (A ++ ((q :: G0) ++ B)) ∧ H q = some (.lst ws) ∧ RpL K H ws ys G0 ∧
      (∀ (H' : Hp) (Q : VK), Grow H H' → Q (.ref q) H' → rIx K u (.int a) H' Q) ∧
      ∀ (H' : Hp) (e' : PyData) (G' : List Addr), Kp (pre ++ (A ++ B)) H H' → Rp K H' (.ref q) e' G' → Rp K H' u (putIn d n e') (pre ++ (A ++ (G' ++ B))) := by
  unfold inner at e
  split at e
  · rename_i xs
    obtain ⟨n', e1, e2⟩ := Option.bind_eq_some_iff.mp e
    split at e2
    case h_2 => cases e2
    rename_i ys' e3
    cases e2
    cases r with
    | lst h0 r0 =>
      rename_i p vs F'
      obtain ⟨A, G, B', w, h1, h2, h3, h4⟩ := r0.put n e3
      cases h3 with
      | lst h5 r5 =>
        rename_i q ws G0
        refine ⟨[p], A, B', G0, q, ws, by rw [h1]; rfl, h5, r5, fun H' Q g hq => .inl ⟨_, _, a, _, rfl, rfl, .of (g _ _ h0), ?_, hq⟩, fun H' e' G' kp r' => ?_⟩
        · unfold atI
          rw [r0.length, e1]
          exact h2
        · exact .lst (kp _ _ h0 (.inr (List.mem_cons_self ..))) (h4 H' e' G' (kp.mono fun a ha => List.mem_cons_of_mem _ ha) r')
  · rename_i xs
    obtain ⟨n', e1, e2⟩ := Option.bind_eq_some_iff.mp e
    split at e2
    case h_2 => cases e2
    rename_i ys' e3
    cases e2
    cases r with
    | tup h0 r0 =>
      rename_i p vs
      obtain ⟨A, G, B', w, h1, h2, h3, h4⟩ := r0.put n e3
      cases h3 with
      | lst h5 r5 =>
        rename_i q ws G0
        refine ⟨[], A, B', G0, q, ws, by rw [h1]; rfl, h5, r5, fun H' Q g hq => .inr (.inl ⟨_, _, a, _, rfl, rfl, Kp.sqT (F := []) g.kp h0.1, ?_, hq⟩), fun H' e' G' kp r' => ?_⟩
        · unfold atI
          rw [r0.length, e1]
          exact h2
        · exact .tup ⟨kp.sqT h0.1, kp.noD h0.2⟩ (h4 H' e' G' kp r')
  · cases e
/-- slot i, where all lists in it are its own -/
def ownA (i : Nat) (kl : List Nat) (k : Kd) (ρ : Env) : Option PyData := match ρ[i]? with
  | some (some (d, m)) => if m = 2 ∧ i ∉ k.src ∧ (giv kl k ρ).2 = 2 then some d else none
  | _ => none
theorem ownA_ok {i : Nat} {d : PyData} (h : ownA i kl k ρ = some d) : ρ[i]? = some (some (d, 2)) ∧ i ∉ k.src ∧ (giv kl k ρ).2 = 2 := by
  unfold ownA at h
  split at h
  · rename_i d' m e
    split at h
    · rename_i hc
      cases h
      obtain ⟨rfl, h1, h2⟩ := hc
      exact ⟨e, h1, h2⟩
    · cases h
  · cases h
/-- what becomes of x[a], a list -/
def mutIn (i : Nat) (d : PyData) (k : Kd) (kl : List Nat) (n : Nat) (zs : List PyData) (ρ : Env) : Env := (giv kl k ρ).1.set i (some (putIn d n (.list zs), 2))
/-- x[a][b] = e -/
def sIdx2 (kl : List Nat) (i : Nat) (f fa fb : EF) : SF := fun ρ => (f ρ).bind fun p => (fa ρ).bind fun ra => (fb ρ).bind fun rb => match ra.1, rb.1 with
  | .int a, .int b => (ownA i kl p.2 ρ).bind fun d => (inner d a).bind fun w => (ixN w.2.length b).map fun m => .nx (mutIn i d p.2 kl w.1 (w.2.set m p.1) ρ)
  | _, _ => none
theorem perm4 {pre A G0 B F : List Addr} {q : Addr} : List.Perm ((pre ++ (A ++ ((q :: G0) ++ B))) ++ F) (pre ++ (A ++ ((q :: (G0 ++ F)) ++ B))) := by
  rw [List.append_assoc, List.append_assoc]
  refine List.Perm.append_left pre (List.Perm.append_left A ?_)
  show List.Perm (((q :: G0) ++ B) ++ F) (q :: ((G0 ++ F) ++ B))
  show List.Perm (q :: ((G0 ++ B) ++ F)) (q :: ((G0 ++ F) ++ B))
  refine List.Perm.cons q ?_
  rw [List.append_assoc, List.append_assoc]
  exact List.Perm.append_left G0 List.perm_append_comm
/-- the end of a store into x[a] -/
theorem put_end {H1 H3 : Hp} {i n : Nat} {d : PyData} {a : Int} {ys zs : List PyData} {u : V} (S : SR K B AF σ H ρ Fs) (g3 : Grow H H3) (o1 : KV ρ Fs H v F k) (ho : ownA i kl k ρ = some d) (hu : σ[i]? = some (some u))
    {pre A B' G0 G1 : List Addr} {q : Addr} {zv : List V} (hF : Fs i = pre ++ (A ++ ((q :: G0) ++ B'))) (hmb : Mb (H3 q) = true)
    (hput : ∀ (H' : Hp) (e' : PyData) (G' : List Addr), Kp (pre ++ (A ++ B')) H3 H' → Rp K H' (.ref q) e' G' → Rp K H' u (putIn d n e') (pre ++ (A ++ (G' ++ B'))))
    (rz : RpL K H3 zv zs G1) (hG1 : ∀ b ∈ G1, b ∈ G0 ∨ b ∈ F) (hN1 : (G0 ++ F).Nodup → G1.Nodup) {C : L2.St → Hp → Prop}
    (p : PNx K B AF (i :: kl) σ H ρ Fs (mutIn i d k kl n zs ρ) C) : C σ (upd H3 q (.lst zv)) := by
  obtain ⟨hi, hn, hg⟩ := ownA_ok ho
  have GO := giv_ok (kl := kl) S o1
  have GF := GO.c
  rw [hg] at GF
  have hi1 := giv_keep (kl := kl) hi hn
  obtain ⟨_, _, _, _, u4⟩ := S.val i d 2 hi
  have nd : (Fs i ++ F).Nodup := List.nodup_append.mpr ⟨u4.2.2 rfl, GF.2.2 rfl, fun a ha b hb z => by
    subst z
    exact GO.a i d 2 hi1 a ha hb⟩
  have nd0 := nd
  rw [hF] at nd
  have nd2 := perm4.nodup_iff.mp nd
  -- q is nowhere else
  have hd := List.nodup_append.mp nd2
  have hd2 := List.nodup_append.mp hd.2.1
  have hd3 := List.nodup_append.mp hd2.2.1
  have qn : ∀ b ∈ pre ++ (A ++ B'), q ≠ b := fun b hb z => by
    subst z
    rcases List.mem_append.mp hb with hb | hb
    · exact hd.2.2 q hb q (by simp) rfl
    · rcases List.mem_append.mp hb with hb | hb
      · exact hd2.2.2 q hb q (by simp) rfl
      · exact hd3.2.2 q (by simp) q hb rfl
  have q1 : q ∉ G0 ++ F := (List.nodup_cons.mp hd3.1).1
  have qG1 : q ∉ G1 := fun z => q1 (List.mem_append.mpr (hG1 q z))
  have r := hput (upd H3 q (.lst zv)) (.list zs) (q :: G1) (.upd hmb fun z => qn q z rfl) (.lst upd_same (rz.kp (.upd hmb qG1)))
  have mem : ∀ b ∈ pre ++ (A ++ ((q :: G1) ++ B')), b ∈ Fs i ∨ b ∈ F := fun b hb => by
    rw [hF]
    simp only [List.mem_append, List.mem_cons] at hb ⊢
    rcases hb with h | h | (h | h) | h
    · exact .inl (.inl h)
    · exact .inl (.inr (.inl h))
    · exact .inl (.inr (.inr (.inl (.inl h))))
    · rcases hG1 b h with h | h
      · exact .inl (.inr (.inr (.inl (.inr h))))
      · exact .inr h
    · exact .inl (.inr (.inr (.inr h)))
  have G1m : ∀ b ∈ q :: G1, b ∈ q :: (G0 ++ F) := fun b hb => by
    rcases List.mem_cons.mp hb with rfl | hb
    · exact List.mem_cons_self ..
    · exact List.mem_cons_of_mem _ (List.mem_append.mpr (hG1 b hb))
  have ndG : (pre ++ (A ++ ((q :: G1) ++ B'))).Nodup := by
    have s1 : (q :: G1).Nodup := List.nodup_cons.mpr ⟨qG1, hN1 (List.nodup_cons.mp hd3.1).2⟩
    have s2 : ((q :: G1) ++ B').Nodup := List.nodup_append.mpr ⟨s1, hd3.2.1, fun a ha b hb => hd3.2.2 a (G1m a ha) b hb⟩
    have m2 : ∀ b ∈ (q :: G1) ++ B', b ∈ (q :: (G0 ++ F)) ++ B' := fun b hb => (List.mem_append.mp hb).elim (fun h => List.mem_append_left _ (G1m b h)) fun h => List.mem_append_right _ h
    have s3 : (A ++ ((q :: G1) ++ B')).Nodup := List.nodup_append.mpr ⟨hd2.1, s2, fun a ha b hb => hd2.2.2 a ha b (m2 b hb)⟩
    refine List.nodup_append.mpr ⟨hd.1, s3, fun a ha b hb => hd.2.2 a ha b ?_⟩
    exact (List.mem_append.mp hb).elim (fun h => List.mem_append_left _ h) fun h => List.mem_append_right _ (m2 b h)
  obtain ⟨x1, x2⟩ := mut2_ok (kl := kl) (H1 := H3) (o := .lst zv) (d' := putIn d n (.list zs)) S g3 o1 hi hn hg (by rw [hF]; simp) hu r mem fun _ => ndG
  exact p _ _ _ x1 x2
theorem vs_idx2 (kl : List Nat) (i : Nat) {te ta tb : TE} {f fa fb : EF} (h : VE K te f) (ha : VE K ta fa) (hb : VE K tb fb) : VS K Wx (i :: kl) (tAsg te (gSub (tOp (rIx K) (tVar i) ta) tb rSetL)) (sIdx2 kl i f fa fb) := by
  intro B AF σ H ρ Fs o S e D p
  obtain ⟨⟨d, k⟩, e1, ea⟩ := Option.bind_eq_some_iff.mp e
  obtain ⟨⟨da, ka⟩, e2, eb⟩ := Option.bind_eq_some_iff.mp ea
  obtain ⟨⟨db, kb⟩, e3, ec⟩ := Option.bind_eq_some_iff.mp eb
  clear e ea eb
  simp only at ec
  split at ec
  case h_2 => cases ec
  rename_i a b
  obtain ⟨dd, e4, ed⟩ := Option.bind_eq_some_iff.mp ec
  obtain ⟨⟨n, ys⟩, e5, ee⟩ := Option.bind_eq_some_iff.mp ed
  obtain ⟨m, e6, ef⟩ := Option.map_eq_some_iff.mp ee
  subst ef
  obtain ⟨hi, hn, hg⟩ := ownA_ok e4
  obtain ⟨u, h1, h2, h3, h4⟩ := S.val i _ _ hi
  refine h B AF σ H ρ Fs d k S e1 _ fun v H1 F g1 r1 o1 => ?_
  refine ⟨u, h1, ha B AF σ H1 ρ Fs (.int a) ka (S.grow g1) e2 _ fun w H2 F2 g2 r2 o2 => ?_⟩
  cases r2
  have g12 := g1.trans g2
  obtain ⟨pre, A, B', G0, q, ws, hF, hq, rw_, hix, hput⟩ := inner_ok e5 (h2.grow g12)
  refine hix H2 _ (.refl _) ?_
  refine hb B AF σ H2 ρ Fs (.int b) kb (S.grow g12) e3 _ fun z H3 F3 g3 r3 o3 => ?_
  cases r3
  have g123 := g12.trans g3
  have lt : m < ys.length := by
    unfold ixN at e6
    simp only at e6
    split at e6
    · split at e6
      · cases e6; omega
      · cases e6
    · split at e6
      · cases e6; omega
      · cases e6
  refine ⟨q, ws, b, m, rfl, rfl, g3 _ _ hq, by rw [rw_.length]; exact e6, ?_⟩
  obtain ⟨A2, G2, B2, hF2, hr⟩ := RpL.set m (rw_.grow g3) (r1.grow (g2.trans g3)) lt
  refine put_end (H1 := H3) (a := a) (ys := ys) (u := u) (n := n) S g123 o1 e4 h1 hF (by rw [g3 _ _ hq]; rfl) (fun H' e' G' kp r' => hput H' e' G' (fun b o e q => kp b o (g3 b o e) q) r') hr (fun b hb => ?_) (fun z => ?_) p
  · rw [hF2]
    simp only [List.mem_append] at hb ⊢
    rcases hb with z | z | z
    · exact .inl (.inl z)
    · exact .inr z
    · exact .inl (.inr (.inr z))
  · rw [hF2] at z
    have s : List.Sublist (A2 ++ B2) (A2 ++ (G2 ++ B2)) := List.Sublist.append (List.Sublist.refl A2) (List.sublist_append_right G2 B2)
    have z2 : ((A2 ++ B2) ++ F).Nodup := z.sublist (s.append (List.Sublist.refl F))
    have pm : List.Perm ((A2 ++ B2) ++ F) (A2 ++ (F ++ B2)) := by
      rw [List.append_assoc]
      exact List.Perm.append_left A2 List.perm_append_comm
    exact pm.nodup_iff.mp z2
/-- x[a].append(e) -/
def sApp2 (kl : List Nat) (i : Nat) (fa f : EF) : SF := fun ρ => (fa ρ).bind fun ra => (f ρ).bind fun p => match ra.1 with
  | .int a => (ownA i kl p.2 ρ).bind fun d => (inner d a).bind fun w => if w.2.length < 1000000 then some (.nx (mutIn i d p.2 kl w.1 (w.2 ++ [p.1]) ρ)) else none
  | _ => none
theorem vs_app2 (kl : List Nat) (i : Nat) {te ta : TE} {f fa : EF} (h : VE K te f) (ha : VE K ta fa) : VS K Wx (i :: kl) (tDrop (tBM K "list" rAppend (tOp (rIx K) (tVar i) ta) (tCons te tNil))) (sApp2 kl i fa f) := by
  intro B AF σ H ρ Fs o S e D p
  obtain ⟨⟨da, ka⟩, e2, ea⟩ := Option.bind_eq_some_iff.mp e
  obtain ⟨⟨d, k⟩, e1, eb⟩ := Option.bind_eq_some_iff.mp ea
  clear e ea
  simp only at eb
  split at eb
  case h_2 => cases eb
  rename_i a
  obtain ⟨dd, e4, ec⟩ := Option.bind_eq_some_iff.mp eb
  obtain ⟨⟨n, ys⟩, e5, ed⟩ := Option.bind_eq_some_iff.mp ec
  split at ed
  case isFalse => cases ed
  rename_i hz
  cases ed
  obtain ⟨hi, hn, hg⟩ := ownA_ok e4
  obtain ⟨u, h1, h2, h3, h4⟩ := S.val i _ _ hi
  refine ⟨u, h1, ha B AF σ H ρ Fs (.int a) ka S e2 _ fun w H1 F1 g1 r1 o1 => ?_⟩
  cases r1
  obtain ⟨pre, A, B', G0, q, ws, hF, hq, rw_, hix, hput⟩ := inner_ok e5 (h2.grow g1)
  refine hix H1 _ (.refl _) ⟨Or.inl ⟨rfl, _, Or.inl (Or.inl hq)⟩, ?_⟩
  refine h B AF σ H1 ρ Fs d k (S.grow g1) e1 _ fun v H2 F g2 r2 o2 => ?_
  refine ⟨q, ws, v, rfl, rfl, g2 _ _ hq, lt_line (by rw [rw_.length]; exact hz), ?_⟩
  have o2' : KV ρ Fs H v F k := ⟨o2.1.back g1, fun L hL => by
    obtain ⟨p, G, w1, w2, w3, w4⟩ := o2.2 L hL
    exact ⟨p, G, w1, w2, w3, g1.back w4⟩⟩
  exact put_end (H1 := H2) (a := a) (ys := ys) (u := u) (n := n) S (g1.trans g2) o2' e4 h1 hF (by rw [g2 _ _ hq]; rfl) (fun H' e' G' kp r' => hput H' e' G' (fun b o e q => kp b o (g2 b o e) q) r') ((rw_.grow g2).snoc r2) (fun b hb => List.mem_append.mp hb) (fun z => z) p
/-! ### each list of a list gets one thing more -/
def spoilD (c : PyData) : PyData → PyData
  | .list ys => .list (ys ++ [c])
  | d => d
def shortL : PyData → Bool
  | .list ys => decide (ys.length < 1000000)
  | _ => false
/-- for j in x: j.append(c) -/
def sSpoil (i j : Nat) (c : PyData) : SF := fun ρ => match ρ[i]? with
  | some (some (.list xs, m)) => if m = 2 ∧ xs.all shortL = true ∧ i ≠ j ∧ j < ρ.length then some (.nx ((ρ.set j none).set i (some (.list (xs.map (spoilD c)), 2)))) else none
  | _ => none
theorem vs_spoil (i j : Nat) {c : V} {cd : PyData} (hc : rpC c cd) : VS K Wx [i, j] (tFor (iAny K (tVar i)) (gName j) (tDrop (tBM K "list" rAppend (tVar j) (tCons (tC c) tNil)))) (sSpoil i j cd) := by
  intro B AF σ H ρ Fs o S e D p
  unfold sSpoil at e
  split at e
  case h_2 => cases e
  rename_i xs m hi
  split at e
  case isFalse => cases e
  rename_i hh
  obtain ⟨rfl, hall, hij, hj⟩ := hh
  cases e
  obtain ⟨u, h1, h2, h3, h4⟩ := S.val i _ _ hi
  obtain ⟨a, F0, vs, rfl, hF, ha, hr⟩ : ∃ a F0 vs, u = .ref a ∧ Fs i = a :: F0 ∧ H a = some (.lst vs) ∧ RpL K H vs xs F0 := by
    generalize hF : Fs i = F' at h2
    cases h2 with
    | lst q r => exact ⟨_, _, _, rfl, rfl, q, r⟩
  refine .inl ⟨_, h1, a, rfl, ⟨_, .of ha⟩, ?_⟩
  let zs : Nat → List PyData := fun k => (xs.take k).map (spoilD cd) ++ xs.drop k
  have zlen : ∀ k, k ≤ xs.length → (zs k).length = xs.length := fun k hk => by simp only [zs, List.length_append, List.length_map, List.length_take, List.length_drop]; omega
  let W : Nat → L2.St → Hp → Prop := fun k σ' H' => ∃ Fk, SR K B AF σ' H' ((ρ.set j none).set i (some (.list (zs k), 2))) Fk ∧ σ'[i]? = some (some (.ref a)) ∧ H' a = some (.lst vs) ∧ Fr [i, j] σ H ρ Fs σ' H' ((ρ.set j none).set i (some (.list (zs k), 2))) Fk
  have il : i < ρ.length := (List.getElem?_eq_some_iff.mp hi).1
  have start : W 0 σ H := by
    have hz : zs 0 = xs := by simp [zs]
    have hs : ∀ (l : Nat) (d : PyData) (m : Nat), ((ρ.set j none).set i (some (.list (zs 0), 2)))[l]? = some (some (d, m)) → ∃ m0, ρ[l]? = some (some (d, m0)) ∧ (m = m0 ∨ m = 0) := fun l d m q => by
      rcases set_some q with ⟨rfl, z⟩ | ⟨ne, z⟩
      · cases z
        exact ⟨2, by rw [hz]; exact hi, .inl rfl⟩
      · rcases set_some z with ⟨_, z⟩ | ⟨_, z⟩
        · cases z
        · exact ⟨m, z, .inl rfl⟩
    exact ⟨Fs, S.less (by simp) hs, h1, ha, Fr.less hs⟩
  refine ⟨fun k m σ' H' => m = xs.length - k ∧ k ≤ xs.length ∧ W k σ' H', ⟨xs.length, by simp, Nat.zero_le _, start⟩, ?_⟩
  rintro k m σ1 H1 ⟨rfl, hk, Fk, Sk, hσ, hH, Fr1⟩
  have hi1 : ((ρ.set j none).set i (some (PyData.list (zs k), 2)))[i]? = some (some (.list (zs k), 2)) := List.getElem?_set_self (by simpa using il)
  obtain ⟨u', w1, w2, w3, w4⟩ := Sk.val i _ _ hi1
  rw [hσ] at w1
  cases w1
  obtain ⟨F1, hF1, hr1⟩ : ∃ F1, Fk i = a :: F1 ∧ RpL K H1 vs (zs k) F1 := by
    generalize hF' : Fk i = F' at w2
    cases w2 with
    | lst q r =>
      rw [hH] at q
      cases q
      exact ⟨_, rfl, r⟩
  have vl : vs.length = xs.length := by rw [hr1.length]; exact zlen k hk
  by_cases hlt : k < xs.length
  · have hget : (zs k)[k]? = some xs[k] := by
      simp only [zs]
      rw [List.getElem?_append_right (by simp only [List.length_map, List.length_take]; omega), List.getElem?_drop]
      simp [Nat.min_eq_left (Nat.le_of_lt hlt), List.length_map, List.length_take]
    have hsh : shortL xs[k] = true := List.all_eq_true.mp hall _ (List.getElem_mem hlt)
    obtain ⟨ys, hy, hyl⟩ : ∃ ys, xs[k] = .list ys ∧ ys.length < 1000000 := by
      cases q : xs[k] with
      | list ys =>
        rw [q] at hsh
        exact ⟨ys, rfl, of_decide_eq_true hsh⟩
      | _ => rw [q] at hsh; cases hsh
    rw [hy] at hget
    obtain ⟨A, G, B', w, z1, hx, z3, hput⟩ := hr1.put k hget
    obtain ⟨q, ws, G0, rfl, rfl, hq, rq⟩ : ∃ q ws G0, w = .ref q ∧ G = q :: G0 ∧ H1 q = some (.lst ws) ∧ RpL K H1 ws ys G0 := by
      cases z3 with
      | lst h r => exact ⟨_, _, _, rfl, rfl, h, r⟩
    refine .inr ⟨⟨vs, _, .of hH, hx⟩, W (k + 1), fun σ' H' w => ⟨xs.length - (k + 1), by omega, rfl, hlt, w⟩, fun x H2 hy2 => ?_⟩
    obtain ⟨rfl, hy3⟩ := hy2
    have hx' := hy3 vs (.of hH)
    rw [hx] at hx'
    cases hx'
    have jl : j < σ1.length := by rw [Sk.len]; simpa using hj
    refine ⟨_, List.getElem?_set_self jl, Or.inl ⟨rfl, _, Or.inl (Or.inl hq)⟩, ?_⟩
    refine ⟨q, ws, c, rfl, rfl, hq, lt_line (by rw [rq.length]; exact hyl), ?_⟩
    -- the state behind the turn
    have nd : (a :: F1).Nodup := by
      have := w4.2.2 rfl
      rwa [hF1] at this
    have nd1 := (List.nodup_cons.mp nd).2
    rw [z1] at nd1
    have hd := List.nodup_append.mp nd1
    have hd2 := List.nodup_append.mp hd.2.1
    have qn : ∀ b ∈ A ++ B', q ≠ b := fun b hb z => by
      subst z
      rcases List.mem_append.mp hb with hb | hb
      · exact hd.2.2 q hb q (by simp) rfl
      · exact hd2.2.2 q (by simp) q hb rfl
    have qG0 : q ∉ G0 := (List.nodup_cons.mp hd2.1).1
    have qF1 : q ∈ F1 := by rw [z1]; simp
    have aq : a ≠ q := fun z => (List.nodup_cons.mp nd).1 (z ▸ qF1)
    have qFk : q ∈ Fk i := by rw [hF1]; exact List.mem_cons_of_mem _ qF1
    have mb : Mb (H2 q) = true := by rw [hq]; rfl
    have ez : zs (k + 1) = (zs k).set k (.list (ys ++ [cd])) := by
      simp only [zs]
      rw [List.take_succ_eq_append_getElem hlt, hy, List.map_append, List.drop_eq_getElem_cons hlt, hy]
      rw [List.set_append_right _ _ (by simp only [List.length_map, List.length_take]; omega)]
      simp [Nat.min_eq_left (Nat.le_of_lt hlt), spoilD]
    have rnew : Rp K (upd H2 q (.lst (ws ++ [c]))) (.ref a) (.list (zs (k + 1))) (a :: F1) := by
      refine .lst (by rw [upd_ne aq]; exact hH) ?_
      rw [ez, z1]
      refine hput _ _ _ (.upd mb fun z => qn q z rfl) (.lst upd_same ?_)
      have := (rq.snoc (rp_c (H := H2) hc)).kp (Kp.upd (o := .lst (ws ++ [c])) mb (by simpa using qG0))
      simpa using this
    have jn : ((ρ.set j none).set i (some (PyData.list (zs k), 2)))[j]? = some none := by
      rw [List.getElem?_set_ne hij, List.getElem?_set_self hj]
    have S2 : SR K B AF (σ1.set j (some (V.ref q))) H2 ((ρ.set j none).set i (some (.list (zs k), 2))) Fk := by
      refine ⟨by rw [List.length_set]; exact Sk.len, Sk.same, fun l d m e => ?_, Sk.dis⟩
      have ne : j ≠ l := fun z => by rw [← z, jn] at e; cases e
      rw [List.getElem?_set_ne ne]
      exact Sk.val l d m e
    have S3 := S2.write2 (o := .lst (ws ++ [c])) (d' := .list (zs (k + 1))) (G := a :: F1) hi1 qFk (by rw [List.getElem?_set_ne (Ne.symm hij)]; exact hσ) rnew (fun b hb => w4.1 b (by rw [← hF1] at hb; exact hb)) nd fun l e n ne w => by
      rw [← hF1]
      exact ⟨fun b hb => Sk.dis l i e n _ 2 w hi1 ne b hb, fun b hb _ => Sk.dis i l _ 2 e n hi1 w (Ne.symm ne) b hb⟩
    rw [List.set_set] at S3
    refine ⟨_, S3, by rw [List.getElem?_set_ne (Ne.symm hij)]; exact hσ, by rw [upd_ne aq]; exact hH, ?_⟩
    refine (Fr1.trans (wr' := [i, j]) ?_).mono (fun b hb => (List.mem_append.mp hb).elim id id)
    refine ⟨fun b z => ?_, fun b o e kk => ?_, fun l hl e n w b hb => ?_, fun l hl => ?_⟩
    · by_cases e : b = q
      · subst e
        rw [upd_same] at z; cases z
      · rwa [upd_ne e] at z
    · have : b ≠ q := fun z => kk i (List.mem_cons_self ..) _ 2 hi1 (z ▸ qFk)
      rw [upd_ne this]
      exact e
    · rcases set_some w with ⟨rfl, z⟩ | ⟨ne, z⟩
      · cases z
        rw [upF_same] at hb
        exact .inr ⟨l, hl, _, 2, hi1, by rw [hF1]; exact hb⟩
      · rcases set_some z with ⟨_, z⟩ | ⟨nj, _⟩
        · cases z
        · simp only [List.mem_cons, List.not_mem_nil, or_false] at hl
          rcases hl with rfl | rfl
          · exact absurd rfl ne
          · exact absurd rfl nj
    · have n1 : l ≠ i := fun z => hl (by rw [z]; simp)
      have n2 : j ≠ l := fun z => hl (by rw [← z]; simp)
      refine ⟨List.getElem?_set_ne n2, fun e n w => ⟨n, ?_, upF_ne n1, fun b hb => hb⟩⟩
      rw [List.getElem?_set_ne (Ne.symm n1)] at w ⊢
      exact w
  · have hk' : k = xs.length := by omega
    subst hk'
    refine .inl ⟨⟨vs, .of hH, by omega⟩, ?_⟩
    have hz : zs xs.length = xs.map (spoilD cd) := by
      simp only [zs]
      rw [List.take_length, List.drop_length, List.append_nil]
    rw [hz] at Sk Fr1
    exact p σ1 H1 Fk Sk Fr1
end
/-! ### worked out -/
def idx2J (m : Option Nat) (dd d : PyData) (k : Kd) (n : Nat) (ys : List PyData) (kl : List Nat) (i : Nat) (ρ : Env) : Option Out := m.map fun m => .nx (mutIn i dd k kl n (ys.set m d) ρ)
def idx2I (w : Option (Nat × List PyData)) (dd d : PyData) (k : Kd) (b : Int) (kl : List Nat) (i : Nat) (ρ : Env) : Option Out := w.bind fun w => idx2J (ixN w.2.length b) dd d k w.1 w.2 kl i ρ
def idx2O (dd : Option PyData) (d : PyData) (k : Kd) (a b : Int) (kl : List Nat) (i : Nat) (ρ : Env) : Option Out := dd.bind fun dd => idx2I (inner dd a) dd d k b kl i ρ
def idx2K (p ra rb : Option (PyData × Kd)) (kl : List Nat) (i : Nat) (ρ : Env) : Option Out := p.bind fun p => ra.bind fun ra => rb.bind fun rb => match ra.1, rb.1 with
  | .int a, .int b => idx2O (ownA i kl p.2 ρ) p.1 p.2 a b kl i ρ
  | _, _ => none
def app2I (w : Option (Nat × List PyData)) (dd d : PyData) (k : Kd) (kl : List Nat) (i : Nat) (ρ : Env) : Option Out := w.bind fun w => if w.2.length < 1000000 then some (.nx (mutIn i dd k kl w.1 (w.2 ++ [d]) ρ)) else none
def app2O (dd : Option PyData) (d : PyData) (k : Kd) (a : Int) (kl : List Nat) (i : Nat) (ρ : Env) : Option Out := dd.bind fun dd => app2I (inner dd a) dd d k kl i ρ
def app2K (ra p : Option (PyData × Kd)) (kl : List Nat) (i : Nat) (ρ : Env) : Option Out := ra.bind fun ra => p.bind fun p => match ra.1 with
  | .int a => app2O (ownA i kl p.2 ρ) p.1 p.2 a kl i ρ
  | _ => none
def ownAK (s : Option Sl) (b : Bool) (g : Nat) : Option PyData := match s with
  | some (some (d, m)) => if m = 2 ∧ b = false ∧ g = 2 then some d else none
  | _ => none
def innerJ (n : Nat) (y : Option PyData) : Option (Nat × List PyData) := match y with
  | some (.list ys) => some (n, ys)
  | _ => none
def innerK (n : Option Nat) (xs : List PyData) : Option (Nat × List PyData) := n.bind fun n => innerJ n xs[n]?
section
variable {f fa fb : EF} {kl : List Nat} {i j m n g : Nat} {ρ : Env} {d dd e c : PyData} {k k' k'' : Kd} {a b : Int} {xs ys : List PyData}
@[simp] theorem sIdx2_eq : sIdx2 kl i f fa fb ρ = idx2K (f ρ) (fa ρ) (fb ρ) kl i ρ := (rfl)
@[simp] theorem idx2K_eq : idx2K (some (d, k)) (some (.int a, k')) (some (.int b, k'')) kl i ρ = idx2O (ownA i kl k ρ) d k a b kl i ρ := (rfl)
@[simp] theorem idx2O_eq : idx2O (some dd) d k a b kl i ρ = idx2I (inner dd a) dd d k b kl i ρ := (rfl)
@[simp] theorem idx2I_eq : idx2I (some (n, ys)) dd d k b kl i ρ = idx2J (ixN ys.length b) dd d k n ys kl i ρ := (rfl)
@[simp] theorem idx2J_eq : idx2J (some m) dd d k n ys kl i ρ = some (.nx (mutIn i dd k kl n (ys.set m d) ρ)) := (rfl)
@[simp] theorem sApp2_eq : sApp2 kl i fa f ρ = app2K (fa ρ) (f ρ) kl i ρ := (rfl)
@[simp] theorem app2K_eq : app2K (some (.int a, k')) (some (d, k)) kl i ρ = app2O (ownA i kl k ρ) d k a kl i ρ := (rfl)
@[simp] theorem app2O_eq : app2O (some dd) d k a kl i ρ = app2I (inner dd a) dd d k kl i ρ := (rfl)
@[simp] theorem app2I_eq : app2I (some (n, ys)) dd d k kl i ρ = if ys.length < 1000000 then some (.nx (mutIn i dd k kl n (ys ++ [d]) ρ)) else none := (rfl)
@[simp] theorem ownA_eq : ownA i kl k ρ = ownAK ρ[i]? (k.src.contains i) (giv kl k ρ).2 := by
  unfold ownA ownAK
  rcases ρ[i]? with _ | _ | ⟨d, m⟩
  · rfl
  · rfl
  · simp
@[simp] theorem ownAK_eq : ownAK (some (some (d, 2))) false 2 = some d := (rfl)
@[simp] theorem inner_l : inner (.list xs) a = innerK (ixN xs.length a) xs := (rfl)
@[simp] theorem inner_t : inner (.tuple xs) a = innerK (ixN xs.length a) xs := (rfl)
@[simp] theorem innerK_eq : innerK (some n) xs = innerJ n xs[n]? := (rfl)
@[simp] theorem innerJ_eq : innerJ n (some (.list ys)) = some (n, ys) := (rfl)
@[simp] theorem mutIn_eq : mutIn i d k kl n ys ρ = (giv kl k ρ).1.set i (some (putIn d n (.list ys), 2)) := (rfl)
@[simp] theorem putIn_l : putIn (.list xs) n e = .list (xs.set n e) := (rfl)
@[simp] theorem putIn_t : putIn (.tuple xs) n e = .tuple (xs.set n e) := (rfl)
def spoilK (s : Option Sl) (i j : Nat) (c : PyData) (ρ : Env) : Option Out := match s with
  | some (some (.list xs, m)) => if m = 2 ∧ xs.all shortL = true ∧ i ≠ j ∧ j < ρ.length then some (.nx ((ρ.set j none).set i (some (.list (xs.map (spoilD c)), 2)))) else none
  | _ => none
@[simp] theorem sSpoil_eq : sSpoil i j c ρ = spoilK ρ[i]? i j c ρ := (rfl)
@[simp] theorem spoilK_eq : spoilK (some (some (.list xs, 2))) i j c ρ = if xs.all shortL = true ∧ i ≠ j ∧ j < ρ.length then some (.nx ((ρ.set j none).set i (some (.list (xs.map (spoilD c)), 2)))) else none := by
  unfold spoilK
  simp
theorem ixN_nat {n i : Nat} (h : i < n) : ixN n ((i : Nat) : Int) = some i := by
  unfold ixN
  simp [h]
end
end Va

/-! Va18: sorted; < and its like on data. -/
namespace Va
open PySem L2 PyProof.Rows PySem.W PySem.Calls

/-! ### sorted(a tuple) -/
section
variable {prog : Program} {w : World} {A : Around} {E : Value → Shared → Prop} {s : Shared}
theorem collect_tup {l : Addr} {vs : List Value} {Q : List Value → Shared → Prop} (hl : IsTup s.heap l vs.toArray)
    (h : Q vs { s with heap := (s.heap.push (seqObj "list" #[] 0)).update s.heap.objs.size (Obj.mapSeq (· ++ vs.toArray)) }) (hsz : vs.length ≤ sizeLine) :
    wpAny (model prog w) A (collect (.ref l)) Q E s := by
  obtain ⟨o, ho, hc, n, hd⟩ := id hl
  unfold collect
  refine wpAny_bind (wpAny_runValue (codeAny_builtin entry_proto_collect' ?_))
  show wpAny _ _ (do again (.builtin "list.__iadd__" ⟨[← newList [], .ref l], []⟩)) _ _ s
  refine wpAny_bind (wpAny_newList (wpAny_pure ⟨Code.quiet_builtin _ (by decide +kernel), codeAny_builtin entry_list_iadd' ?_⟩))
  show wpAny _ _ (Builtin.List.listExtendWith (.ref s.heap.objs.size) (.ref l) (.ref s.heap.objs.size)) _ _ { s with heap := s.heap.push (seqObj "list" #[] 0) }
  unfold Builtin.List.listExtendWith
  have ho' : (s.heap.push (seqObj "list" #[] 0)).get? l = some o := Heap.get?_push_of_some _ ho
  refine wpAny_bind (wpAny_typeOf (T := "tuple") ⟨o, ho', hc⟩ ?_)
  have ht : (Value.type "tuple" == Value.type "tuple") = true := by rfl
  rw [if_pos (by rw [ht]; simp)]
  refine wpAny_bind (listItems_at ho' hd ?_)
  refine wpAny_bind (listItems_at (xs := #[]) (n := 0) (Heap.get?_push_size _ rfl) rfl ?_)
  rw [if_neg (by simp)]
  refine wpAny_bind (listUpdate_at (xs := #[]) (n := 0) (Heap.get?_push_size _ rfl) rfl ?_ (Nat.zero_le _) (by show (#[] ++ vs.toArray).size ≤ sizeLine + 1; simp only [Array.size_append, List.size_toArray, List.length_nil]; omega))
  refine wpAny_pure ?_
  show wpAny (model prog w) A (do
      let o ← load s.heap.objs.size
      match o.data with
      | .seq xs _ => pure xs.toList
      | _ => unsupported "internal:collect") Q E { s with heap := (s.heap.push (seqObj "list" #[] 0)).update s.heap.objs.size (Obj.mapSeq (· ++ vs.toArray)) }
  refine wpAny_bind (wpAny_load (get?_update_seq (Heap.get?_push_size _ rfl) _) ?_)
  show wpAny _ _ (pure ((#[] : Array Value) ++ vs.toArray).toList) Q E _
  rw [show ((#[] : Array Value) ++ vs.toArray).toList = vs by simp]
  exact wpAny_pure h
theorem sorted_vals_tup {κ : PyProof.Rows.KeyKind} {l : Addr} {vs : List Value} {Q : Value → Shared → Prop} (hl : IsTup s.heap l vs.toArray) (S : SortsAt prog w A.in1.in1 { s with heap := sortingHeap (copyHeap s.heap vs) (s.heap.objs.size + 1) vs } κ vs) (hL : vs.length ≤ sizeLine)
    (h : Q (.ref (s.heap.objs.size + 1)) { s with heap := sortedAll s.heap vs (sortVals κ false vs vs).toArray }) : wpAny (model prog w) A (call (.builtin "sorted") [.ref l]) Q E s := by
  refine call_function_entry_kw kind_sorted plain_sorted entry_sorted (args_sorted1 _) ?_
  unfold Builtin.«sorted»
  refine wpAny_bind (m := checkCount "sorted" 1 1 _) (wpAny_pure ?_)
  refine wpAny_bind (collect_tup hl ?_ hL)
  refine wpAny_bind (wpAny_newList ?_ hL)
  have hsz : ((s.heap.push (seqObj "list" #[] 0)).update s.heap.objs.size (Obj.mapSeq (· ++ vs.toArray))).objs.size = s.heap.objs.size + 1 := by
    rw [Heap.size_update, size_push']
  show wpAny _ _ _ _ _ { s with heap := copyHeap s.heap vs }
  rw [hsz]
  refine wpAny_bind (wpAny_holding (wpAny_call_entry_kw slot_list_sort ⟨_, copyHeap_at s.heap vs, rfl⟩ entry_list_sort ?body (args_list_sort _)))
  case body =>
    show wpAny (model prog w) A.in1.in1 (Builtin.«list.sort» ⟨[.ref (s.heap.objs.size + 1)], []⟩) _ _ _
    refine list_sort_vals (s := { s with heap := copyHeap s.heap vs }) (copyHeap_at s.heap vs) S hL ?_
    exact ⟨_, rfl, wpAny_pure ⟨_, rfl, h⟩⟩
end
/-! ### sorted(data) -/
def leD (a b : PyData) : Bool := !dataLt b a
def rSortedD (K : PySem.W.Frag) : List V → Hp → VK → Prop := fun vs H Q => ∃ (a : Addr) (xs : List V) (ds : List PyData), vs = [.ref a] ∧ (SqL K H a xs ∨ SqT K H a xs) ∧ DpAll K H xs ds ∧ AllAlike ds ∧ Sortable ds ∧ (∀ d ∈ ds, d.depth ≤ 60) ∧
  ∀ p, H p = none → Q (.ref p) (upd H p (.lst (((xs.zip ds).mergeSort (dataLe false Prod.snd)).map (·.1))))
theorem dpAll_len {K : PySem.W.Frag} {H : Hp} : ∀ {xs : List V} {ds : List PyData}, DpAll K H xs ds → xs.length = ds.length
  | _, _, .nil => rfl
  | _, _, .cons _ h => by rw [List.length_cons, List.length_cons, dpAll_len h]
theorem each_rel : ∀ {xs : List V} {ds : List PyData} {vs : List Value}, Vals xs vs → xs.length = ds.length → EachIs (fun v (b : V × PyData) => RelV b.1 v) vs (xs.zip ds)
  | [], _, _, r, _ => by cases r; exact .nil
  | x :: xs, [], _, _, h => by cases h
  | x :: xs, d :: ds, _, r, h => by
    cases r with
    | cons r rs => exact .cons r (each_rel rs (Nat.succ.inj h))
theorem each_reads {X : Cx} {pins : List (Addr × Obj)} {σ : L2.St} {H : Hp} {s : Shared} (I : Inv X pins σ H s) : ∀ {xs : List V} {ds : List PyData} {vs : List Value}, Vals xs vs → DpAll X.K H xs ds → EachIs (fun v (b : V × PyData) => ∃ as, Reads s.heap v b.2 as) vs (xs.zip ds)
  | [], _, _, r, h => by cases r; exact .nil
  | x :: xs, _, _, r, h => by
    cases h with
    | cons hd hs =>
      cases r with
      | cons r rs => exact .cons (Dp.reads I _ _ _ hd r) (each_reads I rs hs)
theorem vals_each : ∀ {vs : List Value} {bs : List (V × PyData)}, EachIs (fun v (b : V × PyData) => RelV b.1 v) vs bs → Vals (bs.map (·.1)) vs
  | _, _, .nil => .nil
  | _, _, .cons r rs => .cons r (vals_each rs)
theorem zip_snd : ∀ {xs : List V} {ds : List PyData}, xs.length = ds.length → (xs.zip ds).map Prod.snd = ds
  | [], [], _ => rfl
  | x :: xs, [], h => by cases h
  | [], d :: ds, h => by cases h
  | x :: xs, d :: ds, h => by rw [List.zip_cons_cons, List.map_cons, zip_snd (Nat.succ.inj h)]
theorem cr_sortedD {X : Cx} (hu : X.A.units + 64 < cLine) : CallR X (.builtin "sorted") (rSortedD X.K) := by
  intro pins s σ H vs us Q I r h
  obtain ⟨a, xs, ds, rfl, hs, hd, hal, hk, hdep, q⟩ := h
  obtain ⟨u, rfl, ru⟩ := vals1 r
  obtain rfl : u = Value.ref a := ru
  have len := dpAll_len hd
  have go : ∀ (its : List Value), Vals xs its → xs.length ≤ sizeLine → (∀ κ : PyProof.Rows.KeyKind, SortsAt X.prog X.w X.A.in1.in1 { s with heap := sortingHeap (copyHeap s.heap its) (s.heap.objs.size + 1) its } κ its → ∀ (Q' : Value → Shared → Prop),
      Q' (.ref (s.heap.objs.size + 1)) { s with heap := sortedAll s.heap its (sortVals κ false its its).toArray } → wpAny (model X.prog X.w) X.A (call (.builtin "sorted") [.ref a]) Q' X.xe s) →
      wpAny (model X.prog X.w) X.A (call (.builtin "sorted") [.ref a]) (EP X pins σ Q) X.xe s := fun its rv hz run => by
    have e : EachIs (fun v (b : V × PyData) => RelV b.1 v) its (xs.zip ds) := each_rel rv len
    have er := each_reads I rv hd
    have er' : EachIs (fun v (b : V × PyData) => ∃ as, Reads (sortingHeap (copyHeap s.heap its) (s.heap.objs.size + 1) its) v b.2 as) its (xs.zip ds) := er.mono fun _ _ ⟨as, r⟩ => ⟨as, PyProof.Rows.Reads.keeps (fun _ _ => sorting_copy_old) r⟩
    have hz2 := zip_snd len
    have hal' : AllAlike ((xs.zip ds).map Prod.snd) := by rw [hz2]; exact hal
    have hk' : Sortable ((xs.zip ds).map Prod.snd) := by rw [hz2]; exact hk
    refine run (dataKind _ ((xs.zip ds).map Prod.snd)) (SortsAt.data (s := { s with heap := sortingHeap (copyHeap s.heap its) (s.heap.objs.size + 1) its }) (each_map (R := fun v d => ∃ as, Reads (sortingHeap (copyHeap s.heap its) (s.heap.objs.size + 1) its) v d as) Prod.snd er') hal' hk' fun d hd => ?_) _ ?_
    · rw [hz2] at hd
      have := hdep d hd
      show X.A.units + 1 + 1 + d.depth < cLine
      omega
    · have out := sortVals_data false e er' hal'
      generalize sortVals (dataKind (sortingHeap (copyHeap s.heap its) (s.heap.objs.size + 1) its) ((xs.zip ds).map Prod.snd)) false its its = o at out
      obtain ⟨ep, he'⟩ := sortedAll_at s.heap its o.toArray
      have hl : (((xs.zip ds).mergeSort (dataLe false Prod.snd)).map (·.1)).length ≤ sizeLine := by
        rw [List.length_map, List.length_mergeSort, List.length_zip]
        omega
      exact ⟨.ref _, upd H (s.heap.objs.size + 1) (.lst (((xs.zip ds).mergeSort (dataLe false Prod.snd)).map (·.1))), I.laid (t' := s.toks) (fun _ _ => sortedAll_old) (Nat.le_succ _) ⟨hl, o, ep, vals_each out, he'⟩, rfl, q _ (I.hok.fresh (Nat.le_succ _))⟩
  rcases hs with hs | hs
  · obtain ⟨its, rv, hl, hz⟩ := I.list hs
    exact go its rv hz fun κ S Q' h => sorted_vals hl.isList S (by rw [← rv.length]; exact hz) h
  · obtain ⟨its, rv, hl, hz⟩ := I.tuple hs
    exact go its rv hz fun κ S Q' h => sorted_vals_tup hl S (by rw [← rv.length]; exact hz) h
theorem room65 {k : Nat} {A : Around} (r : Room k A) : A.units + 65 < cLine := by have := r.un; omega
/-! ### what sorted gives of data -/
def isTup1 : PyData → Bool
  | .tuple (_ :: _) => true
  | _ => false
def noTup : PyData → Bool
  | .tuple _ => false
  | .none => false
  | _ => true
def sortOk (ds : List PyData) : Bool := flatL ds && PyData.canLayAll0 ds && (ds.all fun d => ds.all fun e => alike d e) && (ds.all isTup1 || ds.all noTup) && ds.all fun d => decide (d.depth ≤ 60)
def hSortD (ds : List PyData) : Option PyData := if sortOk ds = true then some (.list (ds.mergeSort leD)) else none
def hSorted : Gn := fun ds _ => match ds with
  | [.list xs] => (hSortD xs).map fun d => (d, .mv [])
  | [.tuple xs] => (hSortD xs).map fun d => (d, .mv [])
  | _ => none
theorem rpl_pairs {K : PySem.W.Frag} {H : Hp} : ∀ {bs : List (V × PyData)}, (∀ b ∈ bs, Rp K H b.1 b.2 []) → RpL K H (bs.map (·.1)) (bs.map (·.2)) []
  | [], _ => .nil
  | b :: bs, h => by
    have := RpL.cons (h b (List.mem_cons_self ..)) (rpl_pairs fun c hc => h c (List.mem_cons_of_mem _ hc))
    exact this
theorem zip_rp {K : PySem.W.Frag} {H : Hp} : ∀ {xs : List V} {ds : List PyData} {F : List Addr}, RpL K H xs ds F → flatL ds = true → ∀ b ∈ xs.zip ds, Rp K H b.1 b.2 []
  | _, _, _, .nil, _, b, hb => nomatch hb
  | _, _, _, .cons r rs, hf, b, hb => by
    simp only [flatL, Bool.and_eq_true] at hf
    rcases List.mem_cons.mp hb with rfl | hb
    · have := r.flat hf.1
      subst this
      exact r
    · exact zip_rp rs hf.2 b hb
theorem vf_sorted {K : PySem.W.Frag} : VF K (rSortedD K) hSorted := by
  intro ρ Fs H0 H vs ds F k d k' g r o e Q q
  have go : ∀ (xs : List PyData) (a : Addr) (us : List V) (F' : List Addr), (SqL K H a us ∨ SqT K H a us) → RpL K H us xs F' → hSortD xs = some d → k' = .mv [] → rSortedD K [.ref a] H Q := fun xs a us F' hs rl hd hk => by
    unfold hSortD at hd
    split at hd
    case isFalse => cases hd
    rename_i hok
    cases hd
    subst hk
    simp only [sortOk, Bool.and_eq_true, Bool.or_eq_true, List.all_eq_true, decide_eq_true_eq] at hok
    obtain ⟨⟨⟨⟨h1, h2⟩, h3⟩, h4⟩, h5⟩ := hok
    have hl : us.length = xs.length := rl.length
    refine ⟨a, us, xs, rfl, hs, rl.dp h2, h3, ?_, h5, fun p hp => ?_⟩
    · rcases h4 with h4 | h4
      · refine .inl fun d hd => ?_
        have := h4 d hd
        cases d with
        | tuple l =>
          cases l with
          | nil => cases this
          | cons x r => exact ⟨x, r, rfl⟩
        | _ => cases this
      · refine .inr fun d hd => ?_
        have := h4 d hd
        refine ⟨fun z => ?_, fun l z => ?_⟩
        · subst z; cases this
        · subst z; cases this
    · have hm : ((us.zip xs).mergeSort (dataLe false Prod.snd)).map Prod.snd = xs.mergeSort leD := by
        rw [List.map_mergeSort (r := dataLe false Prod.snd) (s := leD) (f := Prod.snd) (fun a _ b _ => rfl), zip_snd hl]
      have rp := rpl_pairs (K := K) (H := H) (bs := (us.zip xs).mergeSort (dataLe false Prod.snd)) fun b hb => zip_rp rl h1 b (List.mem_mergeSort.mp hb)
      rw [hm] at rp
      have hfl : H0 p = none := g.back hp
      exact q _ _ [p] (.new hp) (rp_lst rp hp) (.mv ⟨by simp, fun a ha => by rcases List.mem_singleton.mp ha with rfl; exact .inl hfl⟩)
  unfold hSorted at e
  split at e
  · obtain ⟨d', e1, e2⟩ := Option.map_eq_some_iff.mp e
    cases e2
    obtain ⟨v, rfl, r1⟩ := r.one'
    cases r1 with
    | lst h0 r0 => exact go _ _ _ _ (.inl (.of h0)) r0 e1 rfl
  · obtain ⟨d', e1, e2⟩ := Option.map_eq_some_iff.mp e
    cases e2
    obtain ⟨v, rfl, r1⟩ := r.one'
    cases r1 with
    | tup h0 r0 => exact go _ _ _ _ (.inr h0.1) r0 e1 rfl
  · cases e
/-! ### in -/
def inD (d : PyData) : PyData → Option Bool
  | .list ds => if SeqAt.shaped d = true ∧ SeqAt.shaped (.list ds) = true then some (ds.any fun z => PyData.eqv z d) else none
  | .tuple ds => match d, intsOf ds with
    | .int i, some ns => some (ns.any fun n => n == i)
    | _, _ => none
  | _ => none
def hIn : List PyData → Option PyData
  | [d, e] => (inD d e).map .bool
  | _ => none
def hNotIn : List PyData → Option PyData
  | [d, e] => (inD d e).map fun b => .bool (!b)
  | _ => none
def rInA (K : PySem.W.Frag) : R2 := fun x y H Q => rInD K x y H Q ∨ rIn K false x y H Q
def rNotInA (K : PySem.W.Frag) : R2 := fun x y H Q => rNotInD K x y H Q ∨ rIn K true x y H Q
theorem op_inA {X : Cx} (hu : X.A.units + 65 < cLine) : OpR X (compareOp .In) (rInA X.K) := (op_inD hu).or op_in_seq
theorem op_notInA {X : Cx} (hu : X.A.units + 65 < cLine) : OpR X (compareOp .NotIn) (rNotInA X.K) := (op_notInD hu).or op_notIn_seq
theorem flatV_ints {ns : List Int} : (ns.map V.int).all flatV = true := by
  rw [List.all_map, List.all_eq_true]
  intro n _
  rfl
theorem inV_ints {ns : List Int} {i : Int} : inV (.int i) (ns.map V.int) = ns.any fun n => n == i := by
  unfold inV
  rw [List.any_map]
  rfl
theorem vf_in {K : PySem.W.Frag} : VFf K (r2l (rInA K)) hIn := by
  intro H vs ds F d r e Q q
  unfold hIn at e
  split at e
  case h_2 => cases e
  rename_i d1 d2
  obtain ⟨b, e1, e2⟩ := Option.map_eq_some_iff.mp e
  subst e2
  obtain ⟨v, u, A, B, rfl, r1, r2, rfl⟩ := r.two
  unfold inD at e1
  split at e1
  · split at e1
    case isFalse => cases e1
    rename_i hs
    cases e1
    exact .inl ⟨_, _, r1.dp (SeqAt.canLay_of_shaped hs.1), r2.dp (SeqAt.canLay_of_shaped hs.2), hs.1, hs.2, q _ H (.refl H) (.bl _)⟩
  · split at e1
    case h_2 => cases e1
    rename_i i ns hn
    cases e1
    cases r1
    cases r2 with
    | tup h0 r0 =>
      have := intsOf_rp hn r0
      subst this
      refine .inr ⟨_, _, rfl, .inr h0.1, rfl, flatV_ints, ?_⟩
      have := q (.bl (ns.any fun n => n == i)) H (.refl H) (.bl _)
      rwa [← inV_ints] at this
  · cases e1
theorem vf_notIn {K : PySem.W.Frag} : VFf K (r2l (rNotInA K)) hNotIn := by
  intro H vs ds F d r e Q q
  unfold hNotIn at e
  split at e
  case h_2 => cases e
  rename_i d1 d2
  obtain ⟨b, e1, e2⟩ := Option.map_eq_some_iff.mp e
  subst e2
  obtain ⟨v, u, A, B, rfl, r1, r2, rfl⟩ := r.two
  unfold inD at e1
  split at e1
  · split at e1
    case isFalse => cases e1
    rename_i hs
    cases e1
    exact .inl ⟨_, _, r1.dp (SeqAt.canLay_of_shaped hs.1), r2.dp (SeqAt.canLay_of_shaped hs.2), hs.1, hs.2, q _ H (.refl H) (.bl _)⟩
  · split at e1
    case h_2 => cases e1
    rename_i i ns hn
    cases e1
    cases r1
    cases r2 with
    | tup h0 r0 =>
      have := intsOf_rp hn r0
      subst this
      refine .inr ⟨_, _, rfl, .inr h0.1, rfl, flatV_ints, ?_⟩
      have := q (.bl (!ns.any fun n => n == i)) H (.refl H) (.bl _)
      rwa [← inV_ints] at this
  · cases e1
/-! ### < and its like -/
def cmpOk (d e : PyData) : Bool := alike d e && (!isN d) && d.canLay0 && e.canLay0 && decide (d.depth ≤ 60)
def hCmp (c : Int → Int → Bool) (h : PyData → PyData → Bool) : List PyData → Option PyData
  | [.int i, .int j] => some (.bool (c i j))
  | [d, e] => if cmpOk d e = true then some (.bool (h d e)) else none
  | _ => none
def hLtA := hCmp (fun i j => decide (i < j)) fun d e => dataLt d e
def hGtA := hCmp (fun i j => decide (j < i)) fun d e => dataLt e d
def hLeA := hCmp (fun i j => decide (i ≤ j)) fun d e => !dataLt e d
def hGeA := hCmp (fun i j => decide (j ≤ i)) fun d e => !dataLt d e
def rCmpD (K : PySem.W.Frag) (h : PyData → PyData → Bool) : R2 := fun x y H Q => ∃ d e, Dp K H x d ∧ Dp K H y e ∧ alike d e = true ∧ d ≠ .none ∧ d.depth ≤ 60 ∧ Q (.bl (h d e)) H
section
variable {X : Cx}
theorem op_ltD (hu : X.A.units + 64 < cLine) : OpR X (compareOp .Lt) (rCmpD X.K fun d e => dataLt d e) := by
  intro pins s σ H x y v u Q I rx ry h
  obtain ⟨d, e, hd, he, h1, h2, h3, q⟩ := h
  obtain ⟨as, r1⟩ := Dp.reads I d x v hd rx
  obtain ⟨bs, r2⟩ := Dp.reads I e y u he ry
  exact lt_data r1 r2 h1 h2 (by have : min d.depth e.depth ≤ d.depth := Nat.min_le_left ..; omega) ⟨.bl _, H, I, rfl, q⟩
theorem op_gtD (hu : X.A.units + 64 < cLine) : OpR X (compareOp .Gt) (rCmpD X.K fun d e => dataLt e d) := by
  intro pins s σ H x y v u Q I rx ry h
  obtain ⟨d, e, hd, he, h1, h2, h3, q⟩ := h
  obtain ⟨as, r1⟩ := Dp.reads I d x v hd rx
  obtain ⟨bs, r2⟩ := Dp.reads I e y u he ry
  exact gt_data r1 r2 h1 h2 (by have : min d.depth e.depth ≤ d.depth := Nat.min_le_left ..; omega) ⟨.bl _, H, I, rfl, q⟩
theorem op_leD (hu : X.A.units + 64 < cLine) : OpR X (compareOp .LtE) (rCmpD X.K fun d e => !dataLt e d) := by
  intro pins s σ H x y v u Q I rx ry h
  obtain ⟨d, e, hd, he, h1, h2, h3, q⟩ := h
  obtain ⟨as, r1⟩ := Dp.reads I d x v hd rx
  obtain ⟨bs, r2⟩ := Dp.reads I e y u he ry
  exact le_data r1 r2 h1 h2 (by have : min d.depth e.depth ≤ d.depth := Nat.min_le_left ..; omega) ⟨.bl _, H, I, rfl, q⟩
theorem op_geD (hu : X.A.units + 64 < cLine) : OpR X (compareOp .GtE) (rCmpD X.K fun d e => !dataLt d e) := by
  intro pins s σ H x y v u Q I rx ry h
  obtain ⟨d, e, hd, he, h1, h2, h3, q⟩ := h
  obtain ⟨as, r1⟩ := Dp.reads I d x v hd rx
  obtain ⟨bs, r2⟩ := Dp.reads I e y u he ry
  exact ge_data r1 r2 h1 h2 (by have : min d.depth e.depth ≤ d.depth := Nat.min_le_left ..; omega) ⟨.bl _, H, I, rfl, q⟩
theorem op_ltA (hu : X.A.units + 64 < cLine) : OpR X (compareOp .Lt) (fun x y H Q => rI0 (fun i j => .bl (decide (i < j))) x y H Q ∨ rCmpD X.K (fun d e => dataLt d e) x y H Q) := op_lt.or (op_ltD hu)
theorem op_gtA (hu : X.A.units + 64 < cLine) : OpR X (compareOp .Gt) (fun x y H Q => rI0 (fun i j => .bl (decide (j < i))) x y H Q ∨ rCmpD X.K (fun d e => dataLt e d) x y H Q) := op_gt.or (op_gtD hu)
theorem op_leA (hu : X.A.units + 64 < cLine) : OpR X (compareOp .LtE) (fun x y H Q => rI0 (fun i j => .bl (decide (i ≤ j))) x y H Q ∨ rCmpD X.K (fun d e => !dataLt e d) x y H Q) := op_le.or (op_leD hu)
theorem op_geA (hu : X.A.units + 64 < cLine) : OpR X (compareOp .GtE) (fun x y H Q => rI0 (fun i j => .bl (decide (j ≤ i))) x y H Q ∨ rCmpD X.K (fun d e => !dataLt d e) x y H Q) := op_ge.or (op_geD hu)
end
theorem vf_cmp {K : PySem.W.Frag} {c : Int → Int → Bool} {h : PyData → PyData → Bool} : VFf K (r2l fun x y H Q => rI0 (fun i j => .bl (c i j)) x y H Q ∨ rCmpD K h x y H Q) (hCmp c h) := by
  intro H vs ds F d r e Q q
  unfold hCmp at e
  split at e
  · cases e
    obtain ⟨v, u, A, B, rfl, r1, r2, rfl⟩ := r.two
    cases r1; cases r2
    exact .inl ⟨_, _, rfl, rfl, q _ H (.refl H) (.bl _)⟩
  · split at e
    case isFalse => cases e
    rename_i hc
    cases e
    obtain ⟨v, u, A, B, rfl, r1, r2, rfl⟩ := r.two
    simp only [cmpOk, Bool.and_eq_true, decide_eq_true_eq, Bool.not_eq_true'] at hc
    obtain ⟨⟨⟨⟨h1, h2⟩, h3⟩, h4⟩, h5⟩ := hc
    refine .inr ⟨_, _, r1.dp h3, r2.dp h4, h1, fun z => ?_, h5, q _ H (.refl H) (.bl _)⟩
    subst z
    cases h2
  · cases e
theorem vf_ltA {K : PySem.W.Frag} : VFf K (r2l fun x y H Q => rI0 (fun i j => .bl (decide (i < j))) x y H Q ∨ rCmpD K (fun d e => dataLt d e) x y H Q) hLtA := vf_cmp
theorem vf_gtA {K : PySem.W.Frag} : VFf K (r2l fun x y H Q => rI0 (fun i j => .bl (decide (j < i))) x y H Q ∨ rCmpD K (fun d e => dataLt e d) x y H Q) hGtA := vf_cmp
theorem vf_leA {K : PySem.W.Frag} : VFf K (r2l fun x y H Q => rI0 (fun i j => .bl (decide (i ≤ j))) x y H Q ∨ rCmpD K (fun d e => !dataLt e d) x y H Q) hLeA := vf_cmp
theorem vf_geA {K : PySem.W.Frag} : VFf K (r2l fun x y H Q => rI0 (fun i j => .bl (decide (j ≤ i))) x y H Q ∨ rCmpD K (fun d e => !dataLt d e) x y H Q) hGeA := vf_cmp
section
variable {x y : Int} {ds : List PyData} {d e : PyData} {k : Kd} {s : Str}
@[simp] theorem hLtA_int : hLtA [.int x, .int y] = some (.bool (decide (x < y))) := (rfl)
@[simp] theorem hGtA_int : hGtA [.int x, .int y] = some (.bool (decide (y < x))) := (rfl)
@[simp] theorem hLeA_int : hLeA [.int x, .int y] = some (.bool (decide (x ≤ y))) := (rfl)
@[simp] theorem hGeA_int : hGeA [.int x, .int y] = some (.bool (decide (y ≤ x))) := (rfl)
def sortK (d : Option PyData) : Option (PyData × Kd) := d.map fun d => (d, .mv [])
@[simp] theorem sortK_eq : sortK (some d) = some (d, .mv []) := (rfl)
@[simp] theorem hSorted_l : hSorted [.list ds] k = sortK (hSortD ds) := (rfl)
@[simp] theorem hSorted_t : hSorted [.tuple ds] k = sortK (hSortD ds) := (rfl)
def boolK (b : Option Bool) : Option PyData := b.map .bool
def nboolK (b : Option Bool) : Option PyData := b.map fun b => .bool (!b)
@[simp] theorem hIn_eq : hIn [d, e] = boolK (inD d e) := (rfl)
@[simp] theorem hNotIn_eq : hNotIn [d, e] = nboolK (inD d e) := (rfl)
@[simp] theorem boolK_eq {b : Bool} : boolK (some b) = some (.bool b) := (rfl)
@[simp] theorem nboolK_eq {b : Bool} : nboolK (some b) = some (.bool (!b)) := (rfl)
@[simp] theorem inD_t {ns : List Int} : inD (.int x) (.tuple (ns.map PyData.int)) = some (ns.any fun n => n == x) := by
  unfold inD
  simp
theorem inD_l (h1 : SeqAt.shaped d = true) (h2 : SeqAt.shaped (.list ds) = true) : inD d (.list ds) = some (ds.any fun z => PyData.eqv z d) := by
  unfold inD
  simp [h1, h2]
end
/-! ### zip -/
theorem zipD_get : ∀ {as bs : List PyData} {i : Nat} {d : PyData}, (zipD as bs)[i]? = some d → ∃ a b, as[i]? = some a ∧ bs[i]? = some b ∧ d = wrap (.tuple [a, b])
  | [], _, _, _, h => by simp [zipD] at h
  | _ :: _, [], _, _, h => by simp [zipD] at h
  | a :: as, b :: bs, 0, d, h => by
    simp only [zipD, List.getElem?_cons_zero, Option.some.injEq] at h
    exact ⟨a, b, rfl, rfl, h.symm⟩
  | a :: as, b :: bs, i + 1, d, h => by
    simp only [zipD, List.getElem?_cons_succ] at h
    obtain ⟨a', b', h1, h2, h3⟩ := zipD_get h
    exact ⟨a', b', by simpa using h1, by simpa using h2, h3⟩
theorem zipD_len : ∀ {as bs : List PyData}, (zipD as bs).length = min as.length bs.length
  | [], bs => by simp [zipD]
  | a :: as, [] => by simp [zipD]
  | a :: as, b :: bs => by simp only [zipD, List.length_cons, zipD_len (as := as) (bs := bs)]; omega
theorem vi_zip {K : PySem.W.Frag} {ta : TA} {fa : AFn} (h : VA K ta fa) : VI K (RZ.iZipA K ta) (iZp fa) := by
  intro B AF σ H ρ Fs ds k S e R q
  obtain ⟨⟨es, k1⟩, e1, e2⟩ := Option.bind_eq_some_iff.mp e
  clear e
  simp only at e2
  split at e2
  · rename_i xs ys
    cases e2
    refine h B AF σ H ρ Fs _ _ S e1 _ fun vs H1 F g1 r1 o1 => ?_
    obtain ⟨v, u, A, C, rfl, ra, rb, rfl⟩ := r1.two
    cases ra with
    | lst ha rla =>
      rename_i a us Fa
      cases rb with
      | lst hb rlb =>
        rename_i b ws Fb
        refine ⟨a, b, us, ws, rfl, .inl ⟨.of ha, .of hb, q _ H1 ((a :: Fa) ++ (b :: Fb)) g1 ⟨fun c hc => ?_, fun H' e i d hd => ?_, fun H' e i hi => ?_⟩ o1.any⟩⟩
        · rcases List.mem_append.mp hc with hc | hc
          · exact (Rp.lst ha rla).mb c hc
          · exact (Rp.lst hb rlb).mb c hc
        · obtain ⟨x, y, h1, h2, rfl⟩ := zipD_get hd
          obtain ⟨w1, A1, G1, B1, p1, p2, p3⟩ := rla.get i h1
          obtain ⟨w2, A2, G2, B2, p4, p5, p6⟩ := rlb.get i h2
          have ha' : H' a = some (.lst us) := e _ _ ha (.inr (by simp))
          have hb' : H' b = some (.lst ws) := e _ _ hb (.inr (by simp))
          have m1 : ∀ c ∈ G1, c ∈ (a :: Fa) ++ (b :: Fb) := fun c hc => List.mem_append_left _ (List.mem_cons_of_mem _ (by rw [p3]; simp [hc]))
          have m2 : ∀ c ∈ G2, c ∈ (a :: Fa) ++ (b :: Fb) := fun c hc => List.mem_append_right _ (List.mem_cons_of_mem _ (by rw [p6]; simp [hc]))
          refine ⟨⟨us, ws, w1, w2, .of ha', .of hb', p1, p4⟩, fun z H'' ⟨T, x', y', e1, e2, e3, e4, e5⟩ => ?_⟩
          have q1 := e4 us (.of ha')
          have q2 := e5 ws (.of hb')
          rw [p1] at q1
          rw [p4] at q2
          cases q1; cases q2
          subst e1 e3
          have r2 : RpL K H' [w1, w2] [x, y] (G1 ++ (G2 ++ [])) := .cons (p2.kp (e.mono m1)) (.cons (p5.kp (e.mono m2)) .nil)
          rw [List.append_nil] at r2
          exact ⟨.new e2, _, rp_pair r2 e2, fun c hc => (List.mem_append.mp hc).elim (m1 c) (m2 c)⟩
        · refine ⟨us, ws, .of (e _ _ ha (.inr (by simp))), .of (e _ _ hb (.inr (by simp))), ?_⟩
          rw [zipD_len] at hi
          rw [rla.length, rlb.length]
          omega
  · rename_i xs ys
    cases e2
    refine h B AF σ H ρ Fs _ _ S e1 _ fun vs H1 F g1 r1 o1 => ?_
    obtain ⟨v, u, A, C, rfl, ra, rb, rfl⟩ := r1.two
    cases ra with
    | tup ha0 rla =>
      have ha := ha0.1
      rename_i a us
      cases rb with
      | tup hb0 rlb =>
        have hb := hb0.1
        rename_i b ws
        refine ⟨a, b, us, ws, rfl, .inr ⟨ha, hb, q _ H1 (A ++ C) g1 ⟨fun c hc => ?_, fun H' e i d hd => ?_, fun H' e i hi => ?_⟩ o1.any⟩⟩
        · rcases List.mem_append.mp hc with hc | hc
          · exact rla.mb c hc
          · exact rlb.mb c hc
        · obtain ⟨x, y, h1, h2, rfl⟩ := zipD_get hd
          obtain ⟨w1, A1, G1, B1, p1, p2, p3⟩ := rla.get i h1
          obtain ⟨w2, A2, G2, B2, p4, p5, p6⟩ := rlb.get i h2
          have ha' := e.sqT ha
          have hb' := e.sqT hb
          have m1 : ∀ c ∈ G1, c ∈ A ++ C := fun c hc => List.mem_append_left _ (by rw [p3]; simp [hc])
          have m2 : ∀ c ∈ G2, c ∈ A ++ C := fun c hc => List.mem_append_right _ (by rw [p6]; simp [hc])
          refine ⟨⟨us, ws, w1, w2, ha', hb', p1, p4⟩, fun z H'' ⟨T, x', y', e1, e2, e3, e4, e5⟩ => ?_⟩
          have q1 := e4 us ha'
          have q2 := e5 ws hb'
          rw [p1] at q1
          rw [p4] at q2
          cases q1; cases q2
          subst e1 e3
          have r2 : RpL K H' [w1, w2] [x, y] (G1 ++ (G2 ++ [])) := .cons (p2.kp (e.mono m1)) (.cons (p5.kp (e.mono m2)) .nil)
          rw [List.append_nil] at r2
          exact ⟨.new e2, _, rp_pair r2 e2, fun c hc => (List.mem_append.mp hc).elim (m1 c) (m2 c)⟩
        · refine ⟨us, ws, e.sqT ha, e.sqT hb, ?_⟩
          rw [zipD_len] at hi
          rw [rla.length, rlb.length]
          omega
  · cases e2
/-! ### max(a, b), min(a, b) -/
def hMax2 : List PyData → Option PyData
  | [.int i, .int j] => some (.int (if j > i then j else i))
  | _ => none
def hMin2 : List PyData → Option PyData
  | [.int i, .int j] => some (.int (if j < i then j else i))
  | _ => none
theorem vf_max2 {K : PySem.W.Frag} : VFf K (fun xs H Q => ∃ i j, xs = [.int i, .int j] ∧ Q (.int (if j > i then j else i)) H) hMax2 := by
  intro H vs ds F d r e Q q
  unfold hMax2 at e
  split at e
  · cases e
    obtain ⟨v, u, A, B, rfl, r1, r2, rfl⟩ := r.two
    cases r1; cases r2
    exact ⟨_, _, rfl, q _ H (.refl H) (.int _)⟩
  · cases e
theorem vf_min2 {K : PySem.W.Frag} : VFf K (fun xs H Q => ∃ i j, xs = [.int i, .int j] ∧ Q (.int (if j < i then j else i)) H) hMin2 := by
  intro H vs ds F d r e Q q
  unfold hMin2 at e
  split at e
  · cases e
    obtain ⟨v, u, A, B, rfl, r1, r2, rfl⟩ := r.two
    cases r1; cases r2
    exact ⟨_, _, rfl, q _ H (.refl H) (.int _)⟩
  · cases e
@[simp] theorem hMax2_eq {i j : Int} : hMax2 [.int i, .int j] = some (.int (if j > i then j else i)) := (rfl)
@[simp] theorem hMin2_eq {i j : Int} : hMin2 [.int i, .int j] = some (.int (if j < i then j else i)) := (rfl)
end Va

/-! Vn: plain Lean programs, as the walk prints them (lists, optional answers), and what they do. -/
namespace Va
open PySem L2 PyProof.Rows

def letO {α β : Type} (a : α) (f : α → Option β) : Option β := f a
@[simp] theorem letO_eq {α β : Type} {a : α} {f : α → Option β} : letO a f = f a := (rfl)
def chk (p : Bool) : Option Unit := if p = true then some () else none
@[simp] theorem chk_t : chk true = some () := (rfl)
theorem chk_some {p : Bool} {u : Unit} (h : chk p = some u) : p = true := by
  cases p with
  | true => rfl
  | false => cases h
/-- how a turn ends: next, break, continue, return -/
inductive Ctl (σ R : Type) where
  | nx (s : σ) | bk (s : σ) | ct (s : σ) | rt (r : R)
/-- how a loop ends: behind it, or by a return -/
inductive Res (σ R : Type) where
  | on (s : σ) | rt (r : R)
def resK {σ R β : Type} (o : Option (Res σ R)) (f : σ → Option β) (g : R → Option β) : Option β := o.bind fun r => match r with
  | .on s => f s
  | .rt r => g r
@[simp] theorem resK_on {σ R β : Type} {s : σ} {f : σ → Option β} {g : R → Option β} : resK (some (.on s)) f g = f s := (rfl)
@[simp] theorem resK_rt {σ R β : Type} {r : R} {f : σ → Option β} {g : R → Option β} : resK (some (.rt r)) f g = g r := (rfl)
/-- a loop without break or return -/
def loopO {σ α : Type} (f : σ → α → Option σ) : List α → σ → Option σ
  | [], s => some s
  | x :: xs, s => (f s x).bind fun s => loopO f xs s
/-- a loop -/
def loopC {σ α R : Type} (f : σ → α → Option (Ctl σ R)) : List α → σ → Option (Res σ R)
  | [], s => some (.on s)
  | x :: xs, s => (f s x).bind fun c => match c with
    | .nx s => loopC f xs s
    | .ct s => loopC f xs s
    | .bk s => some (.on s)
    | .rt r => some (.rt r)
/-- while, n turns at most -/
def whileO {σ : Type} (c : σ → Option Bool) (f : σ → Option σ) : Nat → σ → Option σ
  | 0, _ => none
  | n + 1, s => (c s).bind fun b => if b = true then (f s).bind fun s => whileO c f n s else some s
def whileC {σ R : Type} (c : σ → Option Bool) (f : σ → Option (Ctl σ R)) : Nat → σ → Option (Res σ R)
  | 0, _ => none
  | n + 1, s => (c s).bind fun b => if b = true then (f s).bind fun o => match o with
      | .nx s => whileC c f n s
      | .ct s => whileC c f n s
      | .bk s => some (.on s)
      | .rt r => some (.rt r)
    else some (.on s)
def mapO {α β : Type} (f : α → Option β) : List α → Option (List β)
  | [] => some []
  | x :: xs => (f x).bind fun y => (mapO f xs).bind fun ys => some (y :: ys)
def filO {α β : Type} (c : α → Option Bool) (f : α → Option β) : List α → Option (List β)
  | [] => some []
  | x :: xs => (c x).bind fun b => if b = true then (f x).bind fun y => (filO c f xs).bind fun ys => some (y :: ys) else filO c f xs
def appO {α : Type} (xs : List α) (x : α) : Option (List α) := if xs.length < 1000000 then some (xs ++ [x]) else none
def extO {α : Type} (xs ys : List α) : Option (List α) := if xs.length + ys.length < 1000000 then some (xs ++ ys) else none
def catO {α : Type} (xs ys : List α) : Option (List α) := if xs.length + ys.length ≤ 1000000 then some (xs ++ ys) else none
def scatO (x y : Str) : Option Str := if x.length + y.length ≤ 1000000 then some (x ++ y) else none
def repO {α : Type} (xs : List α) (n : Int) : Option (List α) := if 0 ≤ n ∧ n ≤ 1000 ∧ xs.length * n.toNat ≤ 1000000 then some (List.replicate n.toNat xs).flatten else none
def setO {α : Type} (xs : List α) (i : Int) (v : α) : Option (List α) := (ixN xs.length i).map fun n => xs.set n v
def rangeI (lo : Int) (n : Nat) : List Int := (List.range n).map fun i => lo + ((i : Nat) : Int)
def range1 (n : Int) : Option (List Int) := if i62 n = true then some (rangeI 0 n.toNat) else none
def range2 (a b : Int) : Option (List Int) := if i62 a = true ∧ i62 b = true then some (rangeI a (b - a).toNat) else none
def divO (x y : Int) : Option Int := if 0 < y ∧ y.natAbs.log2 < 9000 then some (x / y) else none
def modO (x y : Int) : Option Int := if 0 < y then some (x % y) else none
def mulO (x y : Int) : Option Int := if mulOk x y = true then some (x * y) else none
def powO (x y : Int) : Option Int := if 0 ≤ y ∧ y ≤ 1000000 ∧ x.natAbs < 2 ^ 64 then some (x ^ y.toNat) else none
def strO (x : Int) : Option Str := if x.natAbs.log2 < 1920 then some (toString x : Str) else none
def enumI {α : Type} : List α → Int → List (Int × α)
  | [], _ => []
  | x :: xs, i => (i, x) :: enumI xs (i + 1)
def cutI {α : Type} (xs : List α) (lo hi : Option Int) : List α := (xs.drop (HT.sIx xs.length 0 lo)).take (HT.sIx xs.length xs.length hi - HT.sIx xs.length 0 lo)
def memB {α : Type} [DecidableEq α] (x : α) (xs : List α) : Bool := decide (x ∈ xs)
@[simp] theorem memB_iff {α : Type} [DecidableEq α] {x : α} {xs : List α} : memB x xs = true ↔ x ∈ xs := by simp [memB]
theorem memB_false {α : Type} [DecidableEq α] {x : α} {xs : List α} : memB x xs = false ↔ x ∉ xs := by simp [memB]
def maxO : List Int → Option Int
  | [] => none
  | x :: xs => some (maxI (x :: xs))
def minO : List Int → Option Int
  | [] => none
  | x :: xs => some (minI (x :: xs))
def reprO (d : PyData) : Option Str := if reprOk d = true then some d.shown else none
def joinO (s : Str) (xs : List Str) : Option Str := if (xs.map (·.length)).sum + xs.length * s.length ≤ 1000000 then some (Txt.join s xs) else none

/-! ### what they do -/
section
variable {α β σ R : Type}
/-- a loop by an invariant over the items behind -/
theorem loopO_inv {f : σ → α → Option σ} (P : List α → σ → Prop) : ∀ (xs ys : List α) (s : σ), P ys s → (∀ (zs : List α) (x : α) (s : σ), ys ++ xs = zs ++ x :: (xs.drop (zs.length - ys.length + 1)) → ys.length ≤ zs.length → P zs s → ∃ s', f s x = some s' ∧ P (zs ++ [x]) s') →
    ∃ s', loopO f xs s = some s' ∧ P (ys ++ xs) s'
  | [], ys, s, h, _ => ⟨s, rfl, by rwa [List.append_nil]⟩
  | x :: xs, ys, s, h, step => by
    obtain ⟨s1, e1, h1⟩ := step ys x s (by simp) (Nat.le_refl _) h
    obtain ⟨s2, e2, h2⟩ := loopO_inv P xs (ys ++ [x]) s1 h1 fun zs z s he hl hz => by
      refine step zs z s ?_ (by simp at hl; omega) hz
      simp only [List.length_append, List.length_singleton, List.append_assoc, List.singleton_append] at he hl
      rw [he]
      congr 1
      rw [show zs.length - ys.length + 1 = (zs.length - (ys.length + 1) + 1) + 1 by omega, List.drop_succ_cons]
    refine ⟨s2, ?_, by rw [List.append_assoc] at h2; exact h2⟩
    rw [loopO, e1]
    exact e2
/-- .. the items told by a prefix -/
theorem loopO_pre {f : σ → α → Option σ} {xs : List α} {s : σ} (P : List α → σ → Prop) (h0 : P [] s) (step : ∀ (ys : List α) (x : α) (s : σ), ys ++ [x] <+: xs → P ys s → ∃ s', f s x = some s' ∧ P (ys ++ [x]) s') :
    ∃ s', loopO f xs s = some s' ∧ P xs s' := by
  have := loopO_inv P xs [] s h0 fun zs x s he hl hz => step zs x s ⟨_, by rw [List.nil_append] at he; rw [he, List.append_assoc]; rfl⟩ hz
  simpa using this
/-- .. whose turns only need the item to be one of them -/
theorem loopO_mem {f : σ → α → Option σ} {xs : List α} {s : σ} (P : σ → Prop) (h0 : P s) (step : ∀ x ∈ xs, ∀ s, P s → ∃ s', f s x = some s' ∧ P s') : ∃ s', loopO f xs s = some s' ∧ P s' :=
  loopO_pre (fun _ => P) h0 fun ys x s hp h => step x (hp.subset (by simp)) s h
/-- a loop whose turns are all told -/
theorem loopO_fold {f : σ → α → Option σ} {g : σ → α → σ} : ∀ {xs : List α} {s : σ}, (∀ x ∈ xs, ∀ s, f s x = some (g s x)) → loopO f xs s = some (xs.foldl g s)
  | [], s, _ => rfl
  | x :: xs, s, h => by
    rw [loopO, h x (List.mem_cons_self ..) s]
    exact loopO_fold fun y hy s => h y (List.mem_cons_of_mem _ hy) s
theorem loopO_congr {f g : σ → α → Option σ} : ∀ {xs : List α} {s : σ}, (∀ x ∈ xs, ∀ s, f s x = g s x) → loopO f xs s = loopO g xs s
  | [], s, _ => rfl
  | x :: xs, s, h => by
    rw [loopO, loopO, h x (List.mem_cons_self ..) s]
    congr 1
    funext s'
    exact loopO_congr fun y hy s => h y (List.mem_cons_of_mem _ hy) s
theorem loopO_app {f : σ → α → Option σ} : ∀ {xs ys : List α} {s : σ}, loopO f (xs ++ ys) s = (loopO f xs s).bind fun s => loopO f ys s
  | [], ys, s => rfl
  | x :: xs, ys, s => by
    rw [List.cons_append, loopO, loopO, Option.bind_assoc]
    congr 1
    funext s'
    exact loopO_app
/-- a loop with returns, none of which is taken -/
theorem loopC_pre {f : σ → α → Option (Ctl σ R)} {xs : List α} {s : σ} (P : List α → σ → Prop) (h0 : P [] s) (step : ∀ (ys : List α) (x : α) (s : σ), ys ++ [x] <+: xs → P ys s → ∃ s', (f s x = some (.nx s') ∨ f s x = some (.ct s')) ∧ P (ys ++ [x]) s') :
    ∃ s', loopC f xs s = some (.on s') ∧ P xs s' := by
  suffices H : ∀ (zs ys : List α) (s : σ), ys ++ zs = xs → P ys s → ∃ s', loopC f zs s = some (.on s') ∧ P xs s' from H xs [] s rfl h0
  intro zs
  induction zs with
  | nil => intro ys s e h; rw [List.append_nil] at e; exact ⟨s, rfl, e ▸ h⟩
  | cons z zs ih =>
    intro ys s e h
    obtain ⟨s1, e1, h1⟩ := step ys z s ⟨zs, by rw [List.append_assoc]; exact e⟩ h
    obtain ⟨s2, e2, h2⟩ := ih (ys ++ [z]) s1 (by rw [List.append_assoc]; exact e) h1
    refine ⟨s2, ?_, h2⟩
    rw [loopC]
    rcases e1 with e1 | e1 <;> rw [e1] <;> exact e2
theorem loopC_mem {f : σ → α → Option (Ctl σ R)} {xs : List α} {s : σ} (P : σ → Prop) (h0 : P s) (step : ∀ x ∈ xs, ∀ s, P s → ∃ s', (f s x = some (.nx s') ∨ f s x = some (.ct s')) ∧ P s') : ∃ s', loopC f xs s = some (.on s') ∧ P s' :=
  loopC_pre (fun _ => P) h0 fun ys x s hp h => step x (hp.subset (by simp)) s h
/-- a loop that looks for the first item with p -/
theorem loopC_find {f : σ → α → Option (Ctl σ R)} {p : α → Bool} {g : α → R} {s : σ} : ∀ {xs : List α}, (∀ x ∈ xs, f s x = some (if p x = true then .rt (g x) else .nx s)) → loopC f xs s = some (match xs.find? p with | some x => .rt (g x) | none => .on s)
  | [], _ => rfl
  | x :: xs, h => by
    rw [loopC, h x (List.mem_cons_self ..), List.find?_cons]
    cases e : p x with
    | true => rfl
    | false =>
      rw [Option.bind_some, if_neg (by simp)]
      exact loopC_find fun y hy => h y (List.mem_cons_of_mem _ hy)
theorem mapO_map {f : α → Option β} {g : α → β} : ∀ {xs : List α}, (∀ x ∈ xs, f x = some (g x)) → mapO f xs = some (xs.map g)
  | [], _ => rfl
  | x :: xs, h => by
    rw [mapO, h x (List.mem_cons_self ..), mapO_map fun y hy => h y (List.mem_cons_of_mem _ hy)]
    rfl
theorem mapO_len {f : α → Option β} : ∀ {xs : List α} {ys : List β}, mapO f xs = some ys → ys.length = xs.length
  | [], ys, h => by cases h; rfl
  | x :: xs, ys, h => by
    obtain ⟨y, h1, h⟩ := Option.bind_eq_some_iff.mp h
    obtain ⟨zs, h2, h⟩ := Option.bind_eq_some_iff.mp h
    cases h
    rw [List.length_cons, List.length_cons, mapO_len h2]
theorem filO_map {c : α → Option Bool} {f : α → Option β} {p : α → Bool} {g : α → β} : ∀ {xs : List α}, (∀ x ∈ xs, c x = some (p x)) → (∀ x ∈ xs, p x = true → f x = some (g x)) → filO c f xs = some ((xs.filter p).map g)
  | [], _, _ => rfl
  | x :: xs, h, k => by
    rw [filO, h x (List.mem_cons_self ..), filO_map (fun y hy => h y (List.mem_cons_of_mem _ hy)) (fun y hy => k y (List.mem_cons_of_mem _ hy))]
    cases e : p x with
    | true => rw [Option.bind_some, if_pos rfl, k x (List.mem_cons_self ..) e, List.filter_cons_of_pos e]; rfl
    | false => rw [Option.bind_some, if_neg (by simp), List.filter_cons_of_neg (by simp [e])]
theorem appO_lt {xs : List α} {x : α} (h : xs.length < 1000000) : appO xs x = some (xs ++ [x]) := if_pos h
theorem extO_lt {xs ys : List α} (h : xs.length + ys.length < 1000000) : extO xs ys = some (xs ++ ys) := if_pos h
theorem catO_le {xs ys : List α} (h : xs.length + ys.length ≤ 1000000) : catO xs ys = some (xs ++ ys) := if_pos h
theorem range1_small {n : Int} (h : n < 4611686018427387904) (h0 : -4611686018427387904 ≤ n) : range1 n = some (rangeI 0 n.toNat) := by
  unfold range1
  rw [if_pos]
  simp only [i62, Bool.and_eq_true, decide_eq_true_eq]
  omega
theorem range1_nat {n : Nat} (h : n < 4611686018427387904) : range1 (n : Int) = some (rangeI 0 n) := by
  rw [range1_small (by omega) (by omega), Int.toNat_natCast]
theorem range2_small {a b : Int} (h : b < 4611686018427387904) (h0 : -4611686018427387904 ≤ b) (h1 : a < 4611686018427387904) (h2 : -4611686018427387904 ≤ a) : range2 a b = some (rangeI a (b - a).toNat) := by
  unfold range2
  rw [if_pos]
  simp only [i62, Bool.and_eq_true, decide_eq_true_eq]
  omega
theorem mem_rangeI {lo x : Int} {n : Nat} : x ∈ rangeI lo n ↔ lo ≤ x ∧ x < lo + n := by
  unfold rangeI
  rw [List.mem_map]
  constructor
  · rintro ⟨i, hi, rfl⟩
    have := List.mem_range.mp hi
    omega
  · intro h
    exact ⟨(x - lo).toNat, List.mem_range.mpr (by omega), by omega⟩
@[simp] theorem rangeI_len {lo : Int} {n : Nat} : (rangeI lo n).length = n := by simp [rangeI]
theorem rangeI_get {lo : Int} {n i : Nat} (h : i < n) : (rangeI lo n)[i]? = some (lo + (i : Int)) := by simp [rangeI, h]
theorem rangeI_succ {lo : Int} {n : Nat} : rangeI lo (n + 1) = rangeI lo n ++ [lo + (n : Int)] := by simp [rangeI, List.range_succ]
theorem rangeI_zero {lo : Int} : rangeI lo 0 = [] := rfl
theorem mem_pre {xs ys : List α} {x : α} (h : ys ++ [x] <+: xs) : x ∈ xs := h.subset (by simp)
theorem pre_len {xs ys : List α} {x : α} (h : ys ++ [x] <+: xs) : ys.length < xs.length := by
  have := h.length_le
  simp at this
  omega
theorem rangeI_pre {lo x : Int} {n : Nat} {ys : List Int} (h : ys ++ [x] <+: rangeI lo n) : ys = rangeI lo ys.length ∧ x = lo + (ys.length : Int) ∧ ys.length < n := by
  have hl := pre_len h
  rw [rangeI_len] at hl
  obtain ⟨t, ht⟩ := h
  have hx : x = lo + (ys.length : Int) := by
    have h1 := rangeI_get (lo := lo) hl
    rw [← ht] at h1
    simp at h1
    exact h1
  refine ⟨?_, hx, hl⟩
  refine List.ext_getElem? fun i => ?_
  by_cases hi : i < ys.length
  · rw [rangeI_get hi]
    have h1 := rangeI_get (lo := lo) (Nat.lt_trans hi hl)
    rw [← ht, List.append_assoc, List.getElem?_append_left hi] at h1
    exact h1
  · rw [List.getElem?_eq_none (by omega), List.getElem?_eq_none (by rw [rangeI_len]; omega)]
theorem atI_lt {xs : List α} {i : Int} (h0 : 0 ≤ i) (h : i < xs.length) : ∃ x, atI xs i = some x ∧ xs[i.toNat]? = some x ∧ x ∈ xs := by
  rw [atI_nat h0]
  have : i.toNat < xs.length := by omega
  exact ⟨xs[i.toNat], List.getElem?_eq_getElem this, List.getElem?_eq_getElem this, List.getElem_mem this⟩
end
end Va

/-! Vt1: readings at one told state of the slots; loops and comprehensions there. -/
namespace Va
open PySem L2 PyProof.Rows

open Classical in
/-- told at ρ alone -/
noncomputable def pE {β : Type} (ρ : Env) (o : Option β) : Env → Option β := fun ρ' => if ρ' = ρ then o else none
theorem pE_same {β : Type} {ρ : Env} {o : Option β} : pE ρ o ρ = o := if_pos rfl
theorem pE_some {β : Type} {ρ ρ' : Env} {o : Option β} {x : β} (h : pE ρ o ρ' = some x) : ρ' = ρ ∧ o = some x := by
  unfold pE at h
  split at h
  · exact ⟨by assumption, h⟩
  · cases h
section
variable {K : PySem.W.Frag} {Wx : WxT} {wr wr' wb ns : List Nat}
theorem VE.at {te : TE} {f : EF} (h : VE K te f) {ρ : Env} {o : Option (PyData × Kd)} (e : f ρ = o) : VE K te (pE ρ o) := fun B AF σ H ρ' Fs d k S q => by
  obtain ⟨e0, q2⟩ := pE_some q
  subst e0
  exact h B AF σ H _ Fs d k S (e.trans q2)
theorem VA.at {te : TA} {f : AFn} (h : VA K te f) {ρ : Env} {o : Option (List PyData × Kd)} (e : f ρ = o) : VA K te (pE ρ o) := fun B AF σ H ρ' Fs d k S q => by
  obtain ⟨e0, q2⟩ := pE_some q
  subst e0
  exact h B AF σ H _ Fs d k S (e.trans q2)
theorem VT.at {te : TT} {f : Env → Option Bool} (h : VT K te f) {ρ : Env} {o : Option Bool} (e : f ρ = o) : VT K te (pE ρ o) := fun B AF σ H ρ' Fs d S q => by
  obtain ⟨e0, q2⟩ := pE_some q
  subst e0
  exact h B AF σ H _ Fs d S (e.trans q2)
theorem VI.at {te : TI} {f : IF} (h : VI K te f) {ρ : Env} {o : Option (List PyData × Kd)} (e : f ρ = o) : VI K te (pE ρ o) := fun B AF σ H ρ' Fs d k S q => by
  obtain ⟨e0, q2⟩ := pE_some q
  subst e0
  exact h B AF σ H _ Fs d k S (e.trans q2)
theorem VO.at {te : TO} {f : Env → Option (Option Int)} (h : VO K te f) {ρ : Env} {o : Option (Option Int)} (e : f ρ = o) : VO K te (pE ρ o) := fun B AF σ H ρ' Fs d S q => by
  obtain ⟨e0, q2⟩ := pE_some q
  subst e0
  exact h B AF σ H _ Fs d S (e.trans q2)
theorem VS.at {ts : TS} {f : SF} (h : VS K Wx wr ts f) {ρ : Env} {o : Option Out} (e : f ρ = o) : VS K Wx wr ts (pE ρ o) := fun B AF σ H ρ' Fs d S q => by
  obtain ⟨e0, q2⟩ := pE_some q
  subst e0
  exact h B AF σ H _ Fs d S (e.trans q2)

/-! ### modes -/
def isLst : PyData → Bool
  | .list _ => true
  | .dict [(.none, _)] => false
  | .dict _ => true
  | _ => false
def Mle (d : PyData) (m m0 : Nat) : Prop := m = m0 ∨ m = 0 ∨ (m = 1 ∧ m0 = 2 ∧ isLst d = true)
theorem Mle.mf {d : PyData} {m m0 : Nat} {F : List Addr} {a : Addr} (h : Mle d m m0) (ha : a ∈ Mf m F) : a ∈ Mf m0 F := by
  rcases h with rfl | rfl | ⟨rfl, rfl, _⟩
  · exact ha
  · rw [Mf0] at ha; cases ha
  · exact List.mem_of_mem_take ha
theorem rp_isLst {H : Hp} {v : V} {d : PyData} {F : List Addr} (r : Rp K H v d F) (h : isLst d = true) : ∃ p G, v = .ref p ∧ F = p :: G := by
  cases r with
  | lst h0 r0 => exact ⟨_, _, rfl, rfl⟩
  | dic h0 r0 => exact ⟨_, _, rfl, rfl⟩
  | non => cases h
  | bl b => cases h
  | int i => cases h
  | str x => cases h
  | tup h0 r0 => cases h
  | pair h0 r0 => cases h
  | fn a => cases h
theorem Mle.own {B H : Hp} {v : V} {d : PyData} {m m0 : Nat} {F : List Addr} (h : Mle d m m0) (r : Rp K H v d F) (o : Own B v m0 F) : Own B v m F := by
  rcases h with rfl | rfl | ⟨rfl, rfl, hl⟩
  · exact o
  · exact .zero
  · obtain ⟨p, G, rfl, rfl⟩ := rp_isLst r hl
    obtain ⟨h1, _, h3⟩ := o
    refine ⟨fun a ha => h1 a (List.mem_of_mem_take ha), fun _ => ⟨p, G, rfl, rfl, ?_⟩, fun z => by cases z⟩
    exact (List.nodup_cons.mp (h3 rfl)).1
def LessR (ρ ρ' : Env) : Prop := ∀ (i : Nat) (d : PyData) (m : Nat), ρ'[i]? = some (some (d, m)) → ∃ m0, ρ[i]? = some (some (d, m0)) ∧ Mle d m m0
/-- less is told, or less of it -/
structure LessE (ρ ρ' : Env) : Prop where
  len : ρ'.length = ρ.length
  le : LessR ρ ρ'
theorem LessE.refl {ρ : Env} : LessE ρ ρ := ⟨rfl, fun i d m h => ⟨m, h, .inl rfl⟩⟩
theorem LessE.nil : LessE [] [] := .refl
theorem LessE.cons {ρ ρ' : Env} {s s' : Sl} (h : LessE ρ ρ') (hs : ∀ d m, s' = some (d, m) → ∃ m0, s = some (d, m0) ∧ Mle d m m0) : LessE (s :: ρ) (s' :: ρ') := by
  refine ⟨by simp [h.len], fun i d m e => ?_⟩
  cases i with
  | zero =>
    simp only [List.getElem?_cons_zero, Option.some.injEq] at e ⊢
    exact hs d m e
  | succ i => simpa using h.le i d m (by simpa using e)
theorem LessE.n {ρ ρ' : Env} {s : Sl} (h : LessE ρ ρ') : LessE (s :: ρ) (none :: ρ') := h.cons fun d m e => by cases e
theorem LessE.s {ρ ρ' : Env} {s : Sl} (h : LessE ρ ρ') : LessE (s :: ρ) (s :: ρ') := h.cons fun d m e => ⟨m, e, .inl rfl⟩
theorem LessE.z {ρ ρ' : Env} {d : PyData} {m : Nat} (h : LessE ρ ρ') : LessE (some (d, m) :: ρ) (some (d, 0) :: ρ') := h.cons fun d m e => by cases e; exact ⟨_, rfl, .inr (.inl rfl)⟩
theorem LessE.o {ρ ρ' : Env} {xs : List PyData} (h : LessE ρ ρ') : LessE (some (.list xs, 2) :: ρ) (some (.list xs, 1) :: ρ') := h.cons fun d m e => by cases e; exact ⟨_, rfl, .inr (.inr ⟨rfl, rfl, rfl⟩)⟩
theorem LessE.od {ρ ρ' : Env} {xs : List (PyData × PyData)} (hx : isLst (.dict xs) = true) (h : LessE ρ ρ') : LessE (some (.dict xs, 2) :: ρ) (some (.dict xs, 1) :: ρ') := h.cons fun d m e => by cases e; exact ⟨_, rfl, .inr (.inr ⟨rfl, rfl, hx⟩)⟩
theorem Mle.trans {d : PyData} {a b c : Nat} (h : Mle d a b) (k : Mle d b c) : Mle d a c := by
  unfold Mle at *
  rcases h with rfl | rfl | ⟨rfl, rfl, hl⟩
  · exact k
  · exact .inr (.inl rfl)
  · rcases k with rfl | k | ⟨k, _⟩
    · exact .inr (.inr ⟨rfl, rfl, hl⟩)
    · cases k
    · cases k
theorem LessE.trans {ρ ρ' ρ2 : Env} (h : LessE ρ ρ') (k : LessE ρ' ρ2) : LessE ρ ρ2 := ⟨k.len.trans h.len, fun i d m e => by
  obtain ⟨m0, h1, h2⟩ := k.le i d m e
  obtain ⟨m1, h3, h4⟩ := h.le i d m0 h1
  exact ⟨m1, h3, h2.trans h4⟩⟩
theorem LessE.dem {ρ : Env} {L : List Nat} : LessE ρ (Va.dem L ρ) := ⟨dem_len _, fun i d m e => by
  obtain ⟨m0, q0, q1, _⟩ := dem_get e
  exact ⟨m0, q0, q1.imp id .inl⟩⟩
theorem LessE.kil {ρ : Env} {L : List Nat} : LessE ρ (Va.kil L ρ) := ⟨wipeE_len _, fun i d m e => ⟨m, wipeE_get e, .inl rfl⟩⟩
variable {B : Hp} {AF : List Addr} {σ σ' : L2.St} {H H' : Hp} {ρ ρ' : Env} {Fs Fs' : Nat → List Addr}
theorem SR.lessE (h : SR K B AF σ H ρ Fs) (l : LessE ρ ρ') : SR K B AF σ H ρ' Fs := by
  refine ⟨h.len.trans l.len.symm, h.same, fun i d m q => ?_, fun i j d m d' m' q1 q2 ne a ha => ?_⟩
  · obtain ⟨m0, q0, z⟩ := l.le i d m q
    obtain ⟨v, h1, h2, h3, h4⟩ := h.val i d m0 q0
    exact ⟨v, h1, h2, h3, z.own h2 h4⟩
  · obtain ⟨m0, q0, z⟩ := l.le i d m q1
    obtain ⟨m0', q0', _⟩ := l.le j d' m' q2
    exact h.dis i j d m0 d' m0' q0 q0' ne a (z.mf ha)
theorem Fr.lessR (hρ : LessR ρ ρ') : Fr wr σ H ρ Fs σ H ρ' Fs := by
  refine ⟨fun a h => h, fun a o h _ => h, fun j hj d m e a ha => ?_, fun j hj => ⟨rfl, fun d m e => ?_⟩⟩
  · obtain ⟨m0, h1, h2⟩ := hρ j d m e
    exact .inr ⟨j, hj, d, m0, h1, h2.mf ha⟩
  · obtain ⟨m0, h1, h2⟩ := hρ j d m e
    exact ⟨m0, h1, rfl, fun a ha => h2.mf ha⟩
end
/-- what o' tells is less than what o tells -/
def OutLe : Out → Out → Prop
  | .nx ρ, .nx ρ' => LessE ρ ρ'
  | .bk ρ, .bk ρ' => LessE ρ ρ'
  | .ct ρ, .ct ρ' => LessE ρ ρ'
  | o, o' => o = o'
section
variable {K : PySem.W.Frag} {Wx : WxT} {wr wr' wb ns : List Nat} {ts tb : TS} {ρ ρ1 ρ2 : Env} {o o' : Out}
theorem Post.le {B : Hp} {AF : List Addr} {σ : L2.St} {H : Hp} {Fs : Nat → List Addr} {D : Ends} (p : Post K Wx B AF wr σ H ρ Fs D o') (l : OutLe o o') : Post K Wx B AF wr σ H ρ Fs D o := by
  have nx : ∀ {ρ1 ρ2 : Env} {C : L2.St → Hp → Prop}, LessE ρ1 ρ2 → PNx K B AF wr σ H ρ Fs ρ2 C → PNx K B AF wr σ H ρ Fs ρ1 C := fun l p σ' H' Fs' S F =>
    p σ' H' Fs' (S.lessE l) ((F.trans (Fr.lessR (wr := wr) l.le)).mono fun j hj => by simpa using hj)
  cases o <;> cases o' <;> first | exact nx l p | (cases l; exact p) | (cases l)
theorem s_out (h : VS K Wx wr ts (pE ρ (some o))) (l : OutLe o o') : VS K Wx wr ts (pE ρ (some o')) := fun B AF σ H ρ' Fs o1 S e D p => by
  obtain ⟨e0, e2⟩ := pE_some e
  subst e0
  cases e2
  exact h B AF σ H _ Fs o S pE_same D (p.le l)
theorem s_in {o : Option Out} (l : LessE ρ ρ1) (h : VS K Wx wr ts (pE ρ1 o)) : VS K Wx wr ts (pE ρ o) := fun B AF σ H ρ' Fs o1 S e D p => by
  obtain ⟨e0, e2⟩ := pE_some e
  subst e0
  refine h B AF σ H ρ1 Fs o1 (S.lessE l) (pE_same.trans e2) D ?_
  exact p.pre (Fr.lessR (wr := wr) l.le) fun i hi => by simpa using hi

/-! ### told by relations -/
def VSr (K : PySem.W.Frag) (Wx : WxT) (wr : List Nat) (ts : TS) (R : Env → Out → Prop) : Prop := ∀ (B : Hp) (AF : List Addr) (σ : L2.St) (H : Hp) (ρ : Env) (Fs : Nat → List Addr) (o : Out), SR K B AF σ H ρ Fs → R ρ o →
  ∀ D : Ends, Post K Wx B AF wr σ H ρ Fs D o → ts D σ H
def VEr (K : PySem.W.Frag) (te : TE) (R : Env → PyData × Kd → Prop) : Prop := ∀ (B : Hp) (AF : List Addr) (σ : L2.St) (H : Hp) (ρ : Env) (Fs : Nat → List Addr) (d : PyData) (k : Kd), SR K B AF σ H ρ Fs → R ρ (d, k) →
  ∀ Q : VK, (∀ v H' F, Grow H H' → Rp K H' v d F → KV ρ Fs H v F k → Q v H') → te σ H Q
def VTr (K : PySem.W.Frag) (tt : TT) (R : Env → Bool → Prop) : Prop := ∀ (B : Hp) (AF : List Addr) (σ : L2.St) (H : Hp) (ρ : Env) (Fs : Nat → List Addr) (b : Bool), SR K B AF σ H ρ Fs → R ρ b →
  ∀ Q : Bool → Hp → Prop, (∀ H', Grow H H' → Q b H') → tt σ H Q
/-! ### for -/
def LoopR (st : SG) (R : Env → Out → Prop) : List PyData → Env → Out → Prop
  | [], ρ, o => ∃ ρ0, LessE ρ ρ0 ∧ o = .nx ρ0
  | d :: ds, ρ, o => ∃ ρ0 ρ1 ob, LessE ρ ρ0 ∧ st d ρ0 = some ρ1 ∧ R ρ1 ob ∧ (match ob with
    | .nx ρ2 => LoopR st R ds ρ2 o
    | .ct ρ2 => LoopR st R ds ρ2 o
    | .bk ρ2 => o = .nx ρ2
    | ob => o = ob)
theorem Prot.lessR {ws : List Nat} {C : List Addr} {ρ ρ' : Env} {Fs : Nat → List Addr} (h : Prot ws C ρ Fs) (l : LessR ρ ρ') : Prot ws C ρ' Fs := fun j hj d m q a ha => by
  obtain ⟨m0, q0, q1⟩ := l j d m q
  exact h j hj d m0 q0 a (q1.mf ha)
theorem vs_forR {wi : TI} {g : TG} {fi : IF} {st : SG} {R : Env → Out → Prop} (hi : VI K wi fi) (hg : VG K ns g st) (hb : VSr K Wx wb tb R) : VSr K Wx (ns ++ wb) (tFor wi g tb)
    (fun ρ o => ∃ ds k, fi ρ = some (ds, k) ∧ LoopR st R ds (if flatL ds = true ∧ apart k.src (ns ++ wb) = true then ρ else dem k.src ρ) o) := by
  rintro B AF σ H ρ Fs o S ⟨ds, kc, e1, e2⟩ D p
  generalize hρ : (if flatL ds = true ∧ apart kc.src (ns ++ wb) = true then ρ else dem kc.src ρ) = ρ0 at e2
  let ws := ns ++ wb
  refine hi B AF σ H ρ Fs ds kc S e1 _ fun J H1 C g1 ok hC => ?_
  have less0 : ∀ (i : Nat) (d : PyData) (m : Nat), ρ0[i]? = some (some (d, m)) → ∃ m0, ρ[i]? = some (some (d, m0)) ∧ (m = m0 ∨ m = 0) := by
    intro i d m q
    rw [← hρ] at q
    split at q
    · exact ⟨m, q, .inl rfl⟩
    · obtain ⟨m0, q0, q1, _⟩ := dem_get q
      exact ⟨m0, q0, q1⟩
  have len0 : ρ0.length = ρ.length := by
    rw [← hρ]
    split
    · rfl
    · exact dem_len _
  have S0 : SR K B AF σ H1 ρ0 Fs := (S.grow g1).less len0 less0
  have cell : ∀ (j : Nat) (d : PyData) (m : Nat), ρ0[j]? = some (some (d, m)) → ∀ a ∈ Mf m (Fs j), a ∈ C → (flatL ds = true ∧ apart kc.src ws = true ∧ j ∈ kc.src) := by
    intro j d m q a ha hc
    obtain ⟨m0, q0, q1⟩ := less0 j d m q
    rcases hC a hc with z | ⟨l, hl, ⟨d', m', z⟩, ma⟩
    · exact absurd z (S.there q0 (Mf_sub ha))
    · by_cases e : j = l
      · subst e
        rw [← hρ] at q
        split at q
        · rename_i h
          exact ⟨h.1, h.2, hl⟩
        · obtain ⟨_, _, _, q2⟩ := dem_get q
          rw [q2 hl, Mf0] at ha
          cases ha
      · exact absurd ma (S.dis j l d m0 d' m' q0 z e a (Mf_le q1 ha))
  have prot0 : Prot ws C ρ0 Fs := fun j hj d m q a ha hc => by
    obtain ⟨_, h2, h3⟩ := cell j d m q a ha hc
    have := List.all_eq_true.mp h2 j h3
    rw [List.contains_iff_mem.mpr hj] at this
    cases this
  let W : Nat → L2.St → Hp → Prop := fun i σ' H' => ∃ ρi Fsi, SR K B AF σ' H' ρi Fsi ∧ LoopR st R (ds.drop i) ρi o ∧ Fr ws σ H1 ρ0 Fs σ' H' ρi Fsi ∧ Kp C H1 H' ∧ Prot ws C ρi Fsi
  have frm : ∀ {σ' H' ρi Fsi}, Fr ws σ H1 ρ0 Fs σ' H' ρi Fsi → Fr ws σ H ρ Fs σ' H' ρi Fsi := fun h => h.from_ g1 less0
  refine ⟨fun i m σ' H' => m = ds.length - i ∧ i ≤ ds.length ∧ W i σ' H', ⟨ds.length, by simp, Nat.zero_le _, ρ0, Fs, S0, e2, Fr.grow (.refl H1), fun a o h _ => h, prot0⟩, ?_⟩
  rintro i m σ1 H2 ⟨rfl, hil, ρi, Fsi, Si, el, Fi, kp, pr⟩
  by_cases hlt : i < ds.length
  · obtain ⟨dd, hdd⟩ : ∃ dd, ds[i]? = some dd := ⟨ds[i], List.getElem?_eq_getElem hlt⟩
    obtain ⟨go, yl⟩ := ok.go H2 kp i dd hdd
    have edrop : ds.drop i = dd :: ds.drop (i + 1) := by
      rw [List.drop_eq_getElem_cons hlt]
      rw [List.getElem?_eq_getElem hlt] at hdd
      rw [Option.some.inj hdd]
    rw [edrop] at el
    obtain ⟨ρk, ρ1, ob, lk, a1, a2, el⟩ := el
    refine .inr ⟨go, W (i + 1), fun σ' H' w => ⟨ds.length - (i + 1), by omega, rfl, by omega, w⟩, fun x H3 hy => ?_⟩
    obtain ⟨g3, G, rx, hG⟩ := yl x H3 hy
    have Sk : SR K B AF σ1 H3 ρk Fsi := (Si.grow g3).lessE lk
    have prk : Prot ws C ρk Fsi := pr.lessR lk.le
    have Fk : Fr ws σ H1 ρ0 Fs σ1 H3 ρk Fsi := ((Fi.trans (Fr.grow (wr := ws) g3)).trans (Fr.lessR (wr := ws) lk.le)).mono fun j hj => by simpa using hj
    have kp3 : Kp C H1 H3 := fun a o e q => g3 a o (kp a o e q)
    have hGB : ∀ a ∈ G, B a = none ∨ a ∈ AF := fun a ha => by
      rcases hC a (hG a ha) with z | ⟨l, _, ⟨d', m', z⟩, ma⟩
      · exact .inl (S.same.back z)
      · obtain ⟨_, _, _, h3, _⟩ := S.val l d' m' z
        exact h3 a ma
    have frG : Free ρk Fsi G := fun j d m q a ha hg => by
      by_cases hj : j ∈ ws
      · exact prk j hj d m q a ha (hG a hg)
      · obtain ⟨_, h2⟩ := Fk.oth j hj
        obtain ⟨m0, h3, h4, h5⟩ := h2 d m q
        rw [h4] at ha
        obtain ⟨hf, _, _⟩ := cell j d m0 h3 a (h5 a ha) (hG a hg)
        have hfd : flat dd = true := by
          have : ∀ (l : List PyData) (n : Nat), flatL l = true → l[n]? = some dd → flat dd = true := by
            intro l
            induction l with
            | nil => intro n _ h; simp at h
            | cons x xs ih =>
              intro n hx h
              simp only [flatL, Bool.and_eq_true] at hx
              cases n with
              | zero => cases h; exact hx.1
              | succ n => exact ih n hx.2 h
          exact this ds i hf hdd
        rw [rx.flat hfd] at hg
        cases hg
    refine hg B AF σ1 H3 ρk ρ1 Fsi x dd G Sk rx hGB frG a1 _ fun σ2 Fs2 S2 T2 => ?_
    have pr2 : Prot ws C ρ1 Fs2 := fun j hj d m q a ha hc => by
      by_cases hn : j ∈ ns
      · rw [(T2.ins j hn d m q).1] at ha; cases ha
      · obtain ⟨_, h2, h3⟩ := T2.out j hn
        rw [h2] at q
        rw [h3] at ha
        exact prk j hj d m q a ha hc
    have FT : Fr ns σ1 H3 ρk Fsi σ2 H3 ρ1 Fs2 := by
      refine ⟨fun a h => h, fun a o h _ => h, fun j hj d m q a ha => ?_, fun j hj => ?_⟩
      · rw [(T2.ins j hj d m q).1] at ha
        cases ha
      · obtain ⟨h1, h2, h3⟩ := T2.out j hj
        exact ⟨h1, fun d m q => ⟨m, by rw [← h2]; exact q, h3, fun a ha => ha⟩⟩
    have F2 : Fr ws σ H1 ρ0 Fs σ2 H3 ρ1 Fs2 := (Fk.trans FT).mono fun j hj => by
      rcases List.mem_append.mp hj with h | h
      · exact h
      · exact List.mem_append_left _ h
    have fin : ∀ {σ' H' ρ' Fs'}, Fr wb σ2 H3 ρ1 Fs2 σ' H' ρ' Fs' → Fr ws σ H1 ρ0 Fs σ' H' ρ' Fs' := fun h => (F2.trans h).mono fun j hj => by
      rcases List.mem_append.mp hj with h | h
      · exact h
      · exact List.mem_append_right _ h
    have kpf : ∀ {σ' H' ρ' Fs'}, Fr wb σ2 H3 ρ1 Fs2 σ' H' ρ' Fs' → Kp C H1 H' := fun {σ' H' ρ' Fs'} h a o e q => by
      have e3 := kp3 a o e q
      refine h.keep a o e3 fun j hj d m qq ha => ?_
      rcases q with q | q
      · obtain ⟨_, _, r, _⟩ := S2.val j d m qq
        have := r.mb a (Mf_sub ha)
        rw [e3, q] at this
        cases this
      · exact pr2 j (List.mem_append_right _ hj) d m qq a ha q
    have prf : ∀ {σ' H' ρ' Fs'}, Fr wb σ2 H3 ρ1 Fs2 σ' H' ρ' Fs' → Prot ws C ρ' Fs' := fun {σ' H' ρ' Fs'} h j hj d m q a ha hc => by
      have hm : H3 a ≠ none := fun z => by
        have := ok.mb a hc
        cases y : H1 a with
        | none => rw [y] at this; cases this
        | some u =>
          rw [kp3 a u y (.inr hc)] at z
          cases z
      by_cases hw : j ∈ wb
      · rcases h.own j hw d m q a ha with z | ⟨l, hl, d', m', z, ma⟩
        · exact hm z
        · exact pr2 l (List.mem_append_right _ hl) d' m' z a ma hc
      · obtain ⟨_, h2⟩ := h.oth j hw
        obtain ⟨m0, h3, h4, h5⟩ := h2 d m q
        rw [h4] at ha
        exact pr2 j hj d m0 h3 a (h5 a ha) hc
    refine hb B AF σ2 H3 ρ1 Fs2 ob S2 a2 _ ?_
    cases ob with
    | nx ρ2 => exact fun σ' H' Fs' S' F' => ⟨ρ2, Fs', S', el, fin F', kpf F', prf F'⟩
    | ct ρ2 => exact fun σ' H' Fs' S' F' => ⟨ρ2, Fs', S', el, fin F', kpf F', prf F'⟩
    | bk ρ2 =>
      cases el
      exact fun σ' H' Fs' S' F' => p σ' H' Fs' S' (frm (fin F'))
    | rt d r =>
      cases el
      exact p
    | ex c fs =>
      cases el
      exact p
  · have e3 : i = ds.length := by omega
    subst e3
    rw [List.drop_length] at el
    obtain ⟨ρk, lk, rfl⟩ := el
    exact .inl ⟨ok.stop H2 kp _ (Nat.le_refl _), p σ1 H2 Fsi (Si.lessE lk) (frm ((Fi.trans (Fr.lessR (wr := ws) lk.le)).mono fun j hj => by simpa using hj))⟩
end
end Va

/-! Vt2: comprehensions, while, kinds. -/
namespace Va
open PySem L2 PyProof.Rows

def LcRel (ns : List Nat) (st : SG) (Rt : Env → Bool → Prop) (Re : Env → PyData × Kd → Prop) (ρ : Env) : List PyData → LcR → Prop
  | [], q => q = ([], true, [])
  | d :: ds, q => ∃ ρ', st d ρ = some ρ' ∧ ∃ b, Rt ρ' b ∧ if b = true then
      ∃ p q', Re ρ' p ∧ LcRel ns st Rt Re ρ ds q' ∧ (p.1 :: q'.1, isMv p.2 && q'.2.1, (p.2.src.filter fun i => !ns.contains i) ++ q'.2.2) = q
    else LcRel ns st Rt Re ρ ds q
section
variable {K : PySem.W.Frag} {wi : TI} {g : TG} {tt : TT} {te : TE} {fi : IF} {st : SG} {Rt : Env → Bool → Prop} {Re : Env → PyData × Kd → Prop} {ns vs : List Nat}
theorem lcRel_len {ρ : Env} : ∀ {ds : List PyData} {q : LcR}, LcRel ns st Rt Re ρ ds q → q.1.length ≤ ds.length
  | [], q, h => by cases h; exact Nat.le_refl _
  | d :: ds, q, h => by
    obtain ⟨ρ', e1, b, e2, h⟩ := h
    cases b with
    | true =>
      rw [if_pos rfl] at h
      obtain ⟨p, q', e3, e4, h⟩ := h
      subst h
      have := lcRel_len e4
      simp only [List.length_cons]
      omega
    | false =>
      rw [if_neg Bool.false_ne_true] at h
      have := lcRel_len h
      simp only [List.length_cons]
      omega
theorem ve_lcR (hi : VI K wi fi) (hg : VG K ns g st) (ht : VTr K tt Rt) (he : VEr K te Re) (hv : ∀ i ∈ ns, i ∈ vs) : VEr K (tLc wi g tt te vs)
    (fun ρ p => ∃ ds kc, fi ρ = some (ds, kc) ∧ ds.length ≤ 1000000 ∧ ∃ q, LcRel ns st Rt Re (wipeE (zeroE ρ) vs) ds q ∧ p = (.list q.1, if flatL q.1 = true then .mv [] else if q.2.1 = true then .mv [] else .sp (kc.src ++ q.2.2))) := by
  intro B AF σ H ρ Fs d k S e Q q
  obtain ⟨ds, kc, e1, hz, ⟨tot, am, L0⟩, e2, e⟩ := e
  cases e
  refine hi B AF σ H ρ Fs ds kc S e1 _ fun J H1 C g1 ok hC D hD => ?_
  have S1 := S.grow g1
  have hD0 : H D = none := g1.back hD
  let L := kc.src ++ L0
  let ρi := wipeE (zeroE ρ) vs
  have Si : ∀ {H2 : Hp}, Grow H1 H2 → SR K B AF (wipe σ vs) H2 ρi Fs := fun g2 => ((S1.grow g2).zero).wipe vs
  have frI : ∀ G : List Addr, Free ρi Fs G := fun G i d m h a ha => by
    obtain ⟨rfl, _⟩ := zero_get (wipeE_get h)
    rw [Mf0] at ha; cases ha
  have inv : ∀ {i : Nat} {H2 : Hp}, Grow (upd H1 D (.lst [])) H2 → Grow H1 H2 := fun h => (Grow.new hD).trans h
  refine ⟨fun i m H' => m = ds.length - i ∧ i ≤ ds.length ∧ ∃ qr, LcRel ns st Rt Re ρi (ds.drop i) qr ∧ LcI K ρ Fs H H1 D tot am L qr H', ⟨ds.length, by simp, Nat.zero_le _, (tot, am, L0), e2, ?_⟩, ?_⟩
  · exact ⟨.new hD, [], [], [], upd_same, .nil, rfl, fun z => (nomatch z), fun z => ⟨z, List.nodup_nil, fun a h => nomatch h⟩, fun i hi => List.mem_append_right _ hi, fun a h => nomatch h⟩
  rintro i m H' ⟨rfl, hil, qr, eq, I⟩
  have kpC : Kp C H1 H' := I.grow.kp
  obtain ⟨acc, out, F, hDa, racc, etot, hDF, ham, hL, hF⟩ := I.ex
  by_cases hlt : i < ds.length
  · obtain ⟨dd, hdd⟩ : ∃ dd, ds[i]? = some dd := ⟨ds[i], List.getElem?_eq_getElem hlt⟩
    obtain ⟨go, yl⟩ := ok.go H' kpC i dd hdd
    have edrop : ds.drop i = dd :: ds.drop (i + 1) := by
      rw [List.drop_eq_getElem_cons hlt]
      rw [List.getElem?_eq_getElem hlt] at hdd
      rw [Option.some.inj hdd]
    rw [edrop] at eq
    obtain ⟨ρ2, a1, b, a2, eq⟩ := eq
    refine .inr ⟨go, fun H2 => ∃ qr, LcRel ns st Rt Re ρi (ds.drop (i + 1)) qr ∧ LcI K ρ Fs H H1 D tot am L qr H2, fun H2 ⟨qr2, b1, b2⟩ => ⟨ds.length - (i + 1), by omega, rfl, by omega, qr2, b1, b2⟩, fun x H2 hy => ?_⟩
    obtain ⟨g2, G, rx, hG⟩ := yl x H2 hy
    have g12 : Grow H1 H2 := I.grow.trans g2
    have tr : ∀ {σ2 : L2.St} {Fs2 : Nat → List Addr}, Tg ns G (wipe σ vs) ρi Fs σ2 ρ2 Fs2 → ∀ {M : List Nat} {a : Addr}, Src ρ2 Fs2 M a → Src ρ Fs (kc.src ++ M.filter fun i => !ns.contains i) a ∨ (H a = none ∧ a ∈ C) := by
      intro σ2 Fs2 T2 M a ⟨j, hj, ⟨d', m', z⟩, ma⟩
      by_cases hn : j ∈ ns
      · rcases hC a (hG a ((T2.ins j hn d' m' z).2 a ma)) with y | y
        · exact .inr ⟨y, hG a ((T2.ins j hn d' m' (by assumption)).2 a ma)⟩
        · exact .inl (y.mono fun i hi => List.mem_append_left _ hi)
      · obtain ⟨_, h2, h3⟩ := T2.out j hn
        rw [h2] at z
        rw [h3] at ma
        obtain ⟨_, n, z⟩ := zero_get (wipeE_get z)
        refine .inl ⟨j, List.mem_append_right _ (List.mem_filter.mpr ⟨hj, by simpa using hn⟩), ⟨d', n, z⟩, ma⟩
    have nw : ∀ {σ2 : L2.St} {Fs2 : Nat → List Addr}, Tg ns G (wipe σ vs) ρi Fs σ2 ρ2 Fs2 → ∀ {M : List Nat} {a : Addr}, Src2 ρ2 Fs2 M a → False := by
      intro σ2 Fs2 T2 M a ⟨j, hj, ⟨d', z⟩, ma⟩
      by_cases hn : j ∈ ns
      · have := (T2.ins j hn d' 2 z).1
        have e : Mf 2 (Fs2 j) = Fs2 j := rfl
        rw [e] at this
        rw [this] at ma
        cases ma
      · obtain ⟨_, h2, h3⟩ := T2.out j hn
        rw [h2] at z
        obtain ⟨z, _⟩ := zero_get (wipeE_get z)
        cases z
    refine hg B AF (wipe σ vs) H2 ρi ρ2 Fs x dd G (Si g12) rx (fun a ha => ?_) (frI G) a1 _ fun σ2 Fs2 S2 T2 => ⟨(T2.wip vs hv).trans (wipe_sub vs fun _ h => h), ?_⟩
    · rcases hC a (hG a ha) with z | ⟨j, hj, ⟨d', m', z⟩, ma⟩
      · exact .inl (S.same.back z)
      · obtain ⟨_, _, _, h3, _⟩ := S.val j d' m' z
        exact h3 a ma
    · refine ht B AF σ2 H2 ρ2 Fs2 b S2 a2 _ fun H3 g3 => ?_
      have g13 := g12.trans g3
      have gp : Grow H' H3 := g2.trans g3
      cases b with
      | false =>
        rw [if_neg Bool.false_ne_true] at eq ⊢
        exact ⟨qr, eq, g13, acc, out, F, gp _ _ hDa, racc.grow gp, etot, hDF, ham, hL, hF⟩
      | true =>
        rw [if_pos rfl] at eq ⊢
        obtain ⟨⟨dy, ky⟩, q2, a3, a4, eq⟩ := eq
        subst eq
        refine he B AF σ2 H3 ρ2 Fs2 dy ky (S2.grow g3) a3 _ fun y H4 Gy g4 ry oy => ?_
        have g14 := g13.trans g4
        have gq : Grow H' H4 := gp.trans g4
        have hD4 : H4 D = some (.lst acc) := gq _ _ hDa
        have hlen : acc.length < sizeLine := by
          have h1 := racc.length
          have h2 : out.length + (1 + q2.1.length) = tot.length := by
            rw [etot, List.length_append, List.length_cons]; omega
          have h3 := lcRel_len e2
          simp only at h3 hz
          exact lt_line (by omega)
        have DGy : D ∉ Gy := fun hm => by
          rcases oy.1.any D hm with z | z
          · rw [gp _ _ hDa] at z
            cases z
          · rcases tr T2 z with ⟨j, _, ⟨d', m', w⟩, ma⟩ | z
            · exact S.there w ma hD0
            · have := ok.mb D z.2
              rw [hD] at this; cases this
        refine ⟨acc, hD4, hlen, q2, a4, fun c o ho => ?_, acc ++ [y], out ++ [dy], F ++ Gy, upd_same, ?_, by rw [etot, List.append_assoc]; rfl, ?_, ?_, ?_, ?_⟩
        · have : c ≠ D := by
            rintro rfl
            rw [hD] at ho; cases ho
          rw [upd_ne this]
          exact g14 _ _ ho
        · have mb : Mb (H4 D) = true := by rw [hD4]; rfl
          exact ((racc.grow gq).snoc ry).kp (.upd mb fun z => (List.mem_append.mp z).elim hDF DGy)
        · exact fun z => (List.mem_append.mp z).elim hDF DGy
        · intro z
          obtain ⟨y1, y2, y3⟩ := ham z
          rw [Bool.and_eq_true] at y1
          obtain ⟨y1, y4⟩ := y1
          refine ⟨y4, ?_, ?_⟩
          · cases ky with
            | sp M => cases y1
            | bo M => cases y1
            | mv M =>
              have o1 := oy.1
              refine List.nodup_append.mpr ⟨y2, o1.1, fun a ha b hb z => ?_⟩
              subst z
              rcases o1.2 a hb with z | z
              · exact racc.stn ha (gp.back z)
              · exact nw T2 z
          · cases ky with
            | sp M => cases y1
            | bo M => cases y1
            | mv M =>
              have o1 := oy.1
              intro a ha
              rcases List.mem_append.mp ha with ha | ha
              · exact y3 a ha
              · rcases o1.2 a ha with z | z
                · exact g1.back (g13.back z)
                · exact (nw T2 z).elim
        · exact fun i hi => hL i (List.mem_append_right _ hi)
        · intro a ha
          rcases List.mem_append.mp ha with ha | ha
          · exact hF a ha
          · rcases oy.1.any a ha with z | z
            · exact .inl (g1.back (g13.back z))
            · rcases tr T2 z with w | w
              · refine .inr (w.mono fun i hi => ?_)
                rcases List.mem_append.mp hi with hi | hi
                · exact List.mem_append_left _ hi
                · exact hL i (List.mem_append_left _ hi)
              · exact .inl w.1
  · have e3 : i = ds.length := by omega
    subst e3
    rw [List.drop_length] at eq
    cases eq
    refine .inl ⟨ok.stop H' kpC _ (Nat.le_refl _), ?_⟩
    rw [List.append_nil] at etot
    subst etot
    refine q _ H' (D :: F) (g1.trans I.grow) (.lst hDa racc) ?_
    split
    · rename_i hf
      rw [racc.flat hf]
      exact .mv ⟨by simp, fun a ha => by rcases List.mem_singleton.mp ha with rfl; exact .inl hD0⟩
    · split
      · rename_i hm
        obtain ⟨_, y2, y3⟩ := ham hm
        refine .mv ⟨List.nodup_cons.mpr ⟨hDF, y2⟩, fun a ha => ?_⟩
        rcases List.mem_cons.mp ha with rfl | ha
        · exact .inl hD0
        · exact .inl (y3 a ha)
      · refine ⟨fun a ha => ?_, fun _ _ => ⟨D, F, rfl, rfl, hDF, hD0⟩⟩
        rcases List.mem_cons.mp ha with rfl | ha
        · exact .inl hD0
        · exact hF a ha
end
section
variable {K : PySem.W.Frag} {Wx : WxT} {wb : List Nat}
/-- while: n turns at most -/
def WhileR (Rc : Env → Bool → Prop) (R : Env → Out → Prop) : Nat → Env → Out → Prop
  | 0, _, _ => False
  | n + 1, ρ, o => ∃ ρ0 b, LessE ρ ρ0 ∧ Rc ρ0 b ∧ if b = true then ∃ ob, R ρ0 ob ∧ (match ob with
      | .nx ρ2 => WhileR Rc R n ρ2 o
      | .ct ρ2 => WhileR Rc R n ρ2 o
      | .bk ρ2 => o = .nx ρ2
      | ob => o = ob)
    else o = .nx ρ0
theorem vs_whileR {tc : TT} {tb : TS} {Rc : Env → Bool → Prop} {R : Env → Out → Prop} (hc : VTr K tc Rc) (hb : VSr K Wx wb tb R) : VSr K Wx wb (tWhile tc tb) (fun ρ o => ∃ n, WhileR Rc R n ρ o) := by
  rintro B AF σ H ρ Fs o S ⟨n, e⟩ D p
  refine ⟨fun m σ' H' => ∃ ρi Fsi, SR K B AF σ' H' ρi Fsi ∧ WhileR Rc R m ρi o ∧ Fr wb σ H ρ Fs σ' H' ρi Fsi, ⟨n, ρ, Fs, S, e, Fr.grow (.refl H)⟩, ?_⟩
  rintro m σ1 H1 ⟨ρi, Fsi, Si, el, Fi⟩
  cases m with
  | zero => cases el
  | succ m =>
    obtain ⟨ρk, b, lk, e1, e2⟩ := el
    have Sk := Si.lessE lk
    have tk : Fr wb σ1 H1 ρi Fsi σ1 H1 ρk Fsi := Fr.lessR lk.le
    have Fk : Fr wb σ H ρ Fs σ1 H1 ρk Fsi := (Fi.trans tk).mono fun j hj => by simpa using hj
    refine hc B AF σ1 H1 ρk Fsi b Sk e1 _ fun H2 g2 => ?_
    have F2 : Fr wb σ H ρ Fs σ1 H2 ρk Fsi := (Fk.trans (Fr.grow (wr := wb) g2)).mono fun j hj => by simpa using hj
    cases b with
    | false =>
      rw [if_neg Bool.false_ne_true] at e2 ⊢
      cases e2
      exact p σ1 H2 Fsi (Sk.grow g2) F2
    | true =>
      rw [if_pos rfl] at e2 ⊢
      obtain ⟨ob, a2, el⟩ := e2
      have fin : ∀ {σ' H' ρ' Fs'}, Fr wb σ1 H2 ρk Fsi σ' H' ρ' Fs' → Fr wb σ H ρ Fs σ' H' ρ' Fs' := fun h => (F2.trans h).mono fun j hj => by simpa using hj
      refine ⟨fun σ' H' => ∃ ρi Fsi, SR K B AF σ' H' ρi Fsi ∧ WhileR Rc R m ρi o ∧ Fr wb σ H ρ Fs σ' H' ρi Fsi, fun σ' H' w => ⟨m, Nat.lt_succ_self _, w⟩, ?_⟩
      refine hb B AF σ1 H2 ρk Fsi ob (Sk.grow g2) a2 _ ?_
      cases ob with
      | nx ρ2 => exact fun σ' H' Fs' S' F' => ⟨ρ2, Fs', S', el, fin F'⟩
      | ct ρ2 => exact fun σ' H' Fs' S' F' => ⟨ρ2, Fs', S', el, fin F'⟩
      | bk ρ2 =>
        cases el
        exact fun σ' H' Fs' S' F' => p σ' H' Fs' S' (fin F')
      | rt d r =>
        cases el
        exact p
      | ex c fs =>
        cases el
        exact p
end

/-! ### kinds -/
section
variable {K : PySem.W.Frag} {te : TE} {ρ : Env} {d : PyData} {k k' : Kd} {L M : List Nat}
/-- k tells more than k' -/
inductive KLe (d : PyData) : Kd → Kd → Prop
  | refl {k : Kd} : KLe d k k
  | flat {k k' : Kd} (h : flat d = true) (hk : k' = .mv []) : KLe d k k'
  | mm {L M : List Nat} (h : L.all M.contains = true) : KLe d (.mv L) (.mv M)
  | any {k : Kd} {M : List Nat} (h : k.src.all M.contains = true) : KLe d k (.bo M)
  | ss {L M : List Nat} (h : L.all M.contains = true) : KLe d (.sp L) (.sp M)
  | ms {M : List Nat} (h : isLst d = true) : KLe d (.mv []) (.sp M)
theorem sub_of {L M : List Nat} (h : L.all M.contains = true) : ∀ i ∈ L, i ∈ M := fun i hi => by
  have := List.all_eq_true.mp h i hi
  simpa using this
theorem KLe.kv {Fs : Nat → List Addr} {H H' : Hp} {v : V} {F : List Addr} (l : KLe d k k') (r : Rp K H' v d F) (h : KV ρ Fs H v F k) : KV ρ Fs H v F k' := by
  cases l with
  | refl => exact h
  | flat hf hk => subst hk; rw [r.flat hf]; exact .nil
  | mm hs => exact .mv ⟨h.1.1, fun a ha => (h.1.2 a ha).imp id fun z => z.mono (sub_of hs)⟩
  | any hs => exact .bo fun a ha => (h.1.any a ha).imp id fun z => z.mono (sub_of hs)
  | ss hs => exact ⟨fun a ha => (h.1 a ha).imp id fun z => z.mono (sub_of hs), fun _ _ => h.2 _ rfl⟩
  | ms hl =>
    obtain ⟨p, G, rfl, rfl⟩ := rp_isLst r hl
    have n := h.1.1
    refine ⟨fun a ha => .inl ?_, fun _ _ => ⟨p, G, rfl, rfl, (List.nodup_cons.mp n).1, ?_⟩⟩
    · rcases h.1.2 a ha with z | ⟨i, hi, _⟩
      · exact z
      · cases hi
    · rcases h.1.2 p (List.mem_cons_self ..) with z | ⟨i, hi, _⟩
      · exact z
      · cases hi
/-- an expression's reading at ρ: the data d, of the kind k -/
abbrev PV (K : PySem.W.Frag) (te : TE) (ρ : Env) (d : PyData) (k : Kd) : Prop := VE K te (pE ρ (some (d, k)))
theorem PV.kd (h : PV K te ρ d k) (l : KLe d k k') : PV K te ρ d k' := fun B AF σ H ρ' Fs d1 k1 S e Q q => by
  obtain ⟨e0, e2⟩ := pE_some e
  subst e0
  cases e2
  exact h B AF σ H _ Fs d k S pE_same Q fun v H' F g r o => q v H' F g r (l.kv r o)
theorem PV.flat (h : PV K te ρ d k) (hf : Va.flat d = true) : PV K te ρ d (.mv []) := h.kd (.flat hf rfl)
theorem PV.bo (h : PV K te ρ d k) (M : List Nat) (hs : k.src.all M.contains = true := by decide) : PV K te ρ d (.bo M) := h.kd (.any hs)
end
end Va

/-! Vt3: plain types as data; expressions. -/
namespace Va
open PySem L2 PyProof.Rows PySem.W PySem.Calls

/-! ### plain types as data -/
section
variable {α β γ δ ε : Type}
@[reducible] def EL (e : α → PyData) : List α → PyData := fun xs => .list (xs.map e)
@[reducible] def ET (e : α → PyData) : List α → PyData := fun xs => .tuple (xs.map e)
@[reducible] def EU : Unit → PyData := fun _ => .tuple []
@[reducible] def E1 (a : α → PyData) : α → PyData := fun p => .tuple [a p]
@[reducible] def E2 (a : α → PyData) (b : β → PyData) : α × β → PyData := fun p => .tuple [a p.1, b p.2]
@[reducible] def E3 (a : α → PyData) (b : β → PyData) (c : γ → PyData) : α × β × γ → PyData := fun p => .tuple [a p.1, b p.2.1, c p.2.2]
@[reducible] def E4 (a : α → PyData) (b : β → PyData) (c : γ → PyData) (d : δ → PyData) : α × β × γ × δ → PyData := fun p => .tuple [a p.1, b p.2.1, c p.2.2.1, d p.2.2.2]
@[reducible] def E5 (a : α → PyData) (b : β → PyData) (c : γ → PyData) (d : δ → PyData) (e : ε → PyData) : α × β × γ × δ × ε → PyData := fun p => .tuple [a p.1, b p.2.1, c p.2.2.1, d p.2.2.2.1, e p.2.2.2.2]
/-- a pair that a walk made -/
@[reducible] def EW (e : α → PyData) : α → PyData := fun p => .dict [(.none, e p)]
@[reducible] def EN : Unit → PyData := fun _ => .none
def EO (e : α → PyData) : Option α → PyData
  | none => .none
  | some a => e a
@[simp] theorem EO_none {e : α → PyData} : EO e none = .none := rfl
@[simp] theorem EO_some {e : α → PyData} {a : α} : EO e (some a) = e a := rfl

class Flat (e : α → PyData) : Prop where
  flat : ∀ a, flat (e a) = true
instance : Flat PyData.int := ⟨fun _ => by simp⟩
instance : Flat PyData.bool := ⟨fun _ => by simp⟩
instance : Flat PyData.str := ⟨fun _ => by simp⟩
instance : Flat EN := ⟨fun _ => by simp⟩
instance : Flat EU := ⟨fun _ => by simp⟩
instance {e : α → PyData} [Flat e] : Flat (EO e) := ⟨fun a => by cases a <;> simp [EO, Flat.flat]⟩
instance {e : α → PyData} [Flat e] : Flat (ET e) := ⟨fun a => by simp [flatL_all (f := e) Flat.flat]⟩
instance {a : α → PyData} {b : β → PyData} [Flat a] [Flat b] : Flat (EW (E2 a b)) := ⟨fun _ => by simp [EW, Va.flat, Flat.flat]⟩
instance {a : α → PyData} [Flat a] : Flat (E1 a) := ⟨fun _ => by simp [Flat.flat]⟩
instance {a : α → PyData} {b : β → PyData} [Flat a] [Flat b] : Flat (E2 a b) := ⟨fun _ => by simp [Flat.flat]⟩
instance {a : α → PyData} {b : β → PyData} {c : γ → PyData} [Flat a] [Flat b] [Flat c] : Flat (E3 a b c) := ⟨fun _ => by simp [Flat.flat]⟩
instance {a : α → PyData} {b : β → PyData} {c : γ → PyData} {d : δ → PyData} [Flat a] [Flat b] [Flat c] [Flat d] : Flat (E4 a b c d) := ⟨fun _ => by simp [Flat.flat]⟩
instance {a : α → PyData} {b : β → PyData} {c : γ → PyData} {d : δ → PyData} {e : ε → PyData} [Flat a] [Flat b] [Flat c] [Flat d] [Flat e] : Flat (E5 a b c d e) := ⟨fun _ => by simp [Flat.flat]⟩
theorem flatL_map {e : α → PyData} [Flat e] {xs : List α} : flatL (xs.map e) = true := flatL_all Flat.flat _

class Shp (e : α → PyData) (n : outParam Nat) : Prop where
  lay : ∀ a, (e a).canLay0 = true
  deep : ∀ a, (e a).depth ≤ n
instance : Shp PyData.int 0 := ⟨fun _ => rfl, fun _ => Nat.le_refl _⟩
instance : Shp PyData.bool 0 := ⟨fun _ => rfl, fun _ => Nat.le_refl _⟩
instance : Shp EN 0 := ⟨fun _ => rfl, fun _ => Nat.le_refl _⟩
instance : Shp EU 1 := ⟨fun _ => rfl, fun _ => by simp [PyData.depth, PyData.depthAll]⟩
instance {e : α → PyData} {n : Nat} [Shp e n] : Shp (EO e) n := ⟨fun a => by cases a <;> simp [EO, Shp.lay, PyData.canLay0], fun a => by
  cases a with
  | none => exact Nat.zero_le _
  | some a => exact Shp.deep a⟩
theorem layAll_map {e : α → PyData} {n : Nat} [Shp e n] : ∀ xs : List α, PyData.canLayAll0 (xs.map e) = true
  | [] => rfl
  | x :: xs => by simp only [List.map_cons, PyData.canLayAll0, Shp.lay, layAll_map xs, Bool.and_self]
theorem deepAll_map {e : α → PyData} {n : Nat} [Shp e n] : ∀ xs : List α, PyData.depthAll (xs.map e) ≤ n
  | [] => Nat.zero_le _
  | x :: xs => by
    simp only [List.map_cons, PyData.depthAll]
    exact Nat.max_le.mpr ⟨Shp.deep x, deepAll_map xs⟩
instance {e : α → PyData} {n : Nat} [Shp e n] : Shp (EL e) (n + 1) := ⟨fun a => by simpa only [EL, PyData.canLay0] using layAll_map a, fun a => by
  simp only [EL, PyData.depth]
  have := deepAll_map (e := e) a
  omega⟩
instance {e : α → PyData} {n : Nat} [Shp e n] : Shp (ET e) (n + 1) := ⟨fun a => by simpa only [ET, PyData.canLay0] using layAll_map a, fun a => by
  simp only [ET, PyData.depth]
  have := deepAll_map (e := e) a
  omega⟩
instance {a : α → PyData} {n : Nat} [Shp a n] : Shp (E1 a) (n + 1) := ⟨fun _ => by simp [PyData.canLay0, PyData.canLayAll0, Shp.lay], fun p => by
  have h1 := Shp.deep (e := a) p
  simp only [E1, PyData.depth, PyData.depthAll]
  omega⟩
instance {a : α → PyData} {b : β → PyData} {n m : Nat} [Shp a n] [Shp b m] : Shp (E2 a b) (max n m + 1) := ⟨fun _ => by simp [PyData.canLay0, PyData.canLayAll0, Shp.lay], fun p => by
  have h1 := Shp.deep (e := a) p.1
  have h2 := Shp.deep (e := b) p.2
  simp only [E2, PyData.depth, PyData.depthAll]
  omega⟩
instance {a : α → PyData} {b : β → PyData} {c : γ → PyData} {n m l : Nat} [Shp a n] [Shp b m] [Shp c l] : Shp (E3 a b c) (max n (max m l) + 1) := ⟨fun _ => by simp [PyData.canLay0, PyData.canLayAll0, Shp.lay], fun p => by
  have h1 := Shp.deep (e := a) p.1
  have h2 := Shp.deep (e := b) p.2.1
  have h3 := Shp.deep (e := c) p.2.2
  simp only [E3, PyData.depth, PyData.depthAll]
  omega⟩
instance {a : α → PyData} {b : β → PyData} {c : γ → PyData} {d : δ → PyData} {n m l k : Nat} [Shp a n] [Shp b m] [Shp c l] [Shp d k] : Shp (E4 a b c d) (max (max n m) (max l k) + 1) := ⟨fun _ => by simp [PyData.canLay0, PyData.canLayAll0, Shp.lay], fun p => by
  have h1 := Shp.deep (e := a) p.1
  have h2 := Shp.deep (e := b) p.2.1
  have h3 := Shp.deep (e := c) p.2.2.1
  have h4 := Shp.deep (e := d) p.2.2.2
  simp only [E4, PyData.depth, PyData.depthAll]
  omega⟩
theorem shaped_of {e : α → PyData} {n : Nat} [Shp e n] {a : α} (h : n ≤ 64) : SeqAt.shaped (e a) = true := by
  unfold SeqAt.shaped
  have := Shp.deep (e := e) a
  simp only [Bool.and_eq_true, decide_eq_true_eq]
  exact ⟨Shp.lay a, by omega⟩

/-- no value of it is None -/
class NonN (e : α → PyData) : Prop where
  non : ∀ a, isN (e a) = false
instance : NonN PyData.int := ⟨fun _ => rfl⟩
instance : NonN PyData.bool := ⟨fun _ => rfl⟩
instance : NonN PyData.str := ⟨fun _ => rfl⟩
instance {e : α → PyData} : NonN (EL e) := ⟨fun _ => rfl⟩
instance {e : α → PyData} : NonN (ET e) := ⟨fun _ => rfl⟩
instance {e : α → PyData} : NonN (E1 e) := ⟨fun _ => rfl⟩
instance {e : α → PyData} {f : β → PyData} : NonN (E2 e f) := ⟨fun _ => rfl⟩
instance {e : α → PyData} {f : β → PyData} {g : γ → PyData} : NonN (E3 e f g) := ⟨fun _ => rfl⟩
instance {e : α → PyData} {f : β → PyData} {g : γ → PyData} {h : δ → PyData} : NonN (E4 e f g h) := ⟨fun _ => rfl⟩
theorem isN_EO {e : α → PyData} [NonN e] {o : Option α} : isN (EO e o) = o.isNone := by cases o <;> simp [EO, NonN.non, isN_none]

class EqvE (e : α → PyData) [DecidableEq α] : Prop where
  eqv : ∀ a b, PyData.eqv (e a) (e b) = decide (a = b)
instance : EqvE PyData.int := ⟨fun a b => by rw [eqv_int]; rfl⟩
instance : EqvE PyData.bool := ⟨fun a b => by rw [eqv_bool]; cases a <;> cases b <;> rfl⟩
instance : EqvE PyData.str := ⟨fun a b => by simp only [PyData.eqv]; rfl⟩
instance : EqvE EN := ⟨fun a b => by simp [PyData.eqv]⟩
instance : EqvE EU := ⟨fun a b => by simp [PyData.eqv, PyData.eqvAll]⟩
theorem eqv_non {d : PyData} (h : isN d = false) : PyData.eqv .none d = false ∧ PyData.eqv d .none = false := by
  cases d <;> simp [PyData.eqv] at * <;> cases h
instance {e : α → PyData} [DecidableEq α] [EqvE e] [NonN e] : EqvE (EO e) := ⟨fun a b => by
  cases a <;> cases b <;> simp [EO, EqvE.eqv, PyData.eqv, eqv_non (NonN.non _)]⟩
theorem eqvAll_map {e : α → PyData} [DecidableEq α] [EqvE e] : ∀ xs ys : List α, PyData.eqvAll (xs.map e) (ys.map e) = decide (xs = ys)
  | [], [] => by simp [PyData.eqvAll]
  | [], _ :: _ => by simp [PyData.eqvAll]
  | _ :: _, [] => by simp [PyData.eqvAll]
  | x :: xs, y :: ys => by
    simp only [List.map_cons, PyData.eqvAll, EqvE.eqv, eqvAll_map xs ys]
    simp [Bool.eq_iff_iff]
instance {e : α → PyData} [DecidableEq α] [EqvE e] : EqvE (EL e) := ⟨fun a b => by simp only [EL, PyData.eqv, eqvAll_map]⟩
instance {e : α → PyData} [DecidableEq α] [EqvE e] : EqvE (ET e) := ⟨fun a b => by simp only [ET, PyData.eqv, eqvAll_map]⟩
instance {a : α → PyData} [DecidableEq α] [EqvE a] : EqvE (E1 a) := ⟨fun p q => by
  simp only [E1, PyData.eqv, PyData.eqvAll, EqvE.eqv, Bool.and_true]⟩
instance {a : α → PyData} {b : β → PyData} [DecidableEq α] [DecidableEq β] [EqvE a] [EqvE b] : EqvE (E2 a b) := ⟨fun p q => by
  simp [E2, PyData.eqv, PyData.eqvAll, EqvE.eqv, Prod.ext_iff, Bool.eq_iff_iff]⟩
instance {a : α → PyData} {b : β → PyData} {c : γ → PyData} [DecidableEq α] [DecidableEq β] [DecidableEq γ] [EqvE a] [EqvE b] [EqvE c] : EqvE (E3 a b c) := ⟨fun p q => by
  simp [E3, PyData.eqv, PyData.eqvAll, EqvE.eqv, Prod.ext_iff, Bool.eq_iff_iff]⟩
instance {a : α → PyData} {b : β → PyData} {c : γ → PyData} {d : δ → PyData} [DecidableEq α] [DecidableEq β] [DecidableEq γ] [DecidableEq δ] [EqvE a] [EqvE b] [EqvE c] [EqvE d] : EqvE (E4 a b c d) := ⟨fun p q => by
  simp [E4, PyData.eqv, PyData.eqvAll, EqvE.eqv, Prod.ext_iff, Bool.eq_iff_iff]⟩

/-! ### order -/
def ltI (a b : Int) : Bool := decide (a < b)
def ltL [DecidableEq α] (lt : α → α → Bool) : List α → List α → Bool
  | _, [] => false
  | [], _ :: _ => true
  | a :: as, b :: bs => if a = b then ltL lt as bs else lt a b
def lt2 [DecidableEq α] (f : α → α → Bool) (g : β → β → Bool) (p q : α × β) : Bool := if p.1 = q.1 then g p.2 q.2 else f p.1 q.1
class LtE (e : α → PyData) [DecidableEq α] (lt : outParam (α → α → Bool)) : Prop where
  alk : ∀ a b, alike (e a) (e b) = true
  ltd : ∀ a b, dataLt (e a) (e b) = lt a b
  irr : ∀ a, lt a a = false
instance : LtE PyData.int ltI := ⟨fun _ _ => rfl, fun a b => dataLt_int a b, fun a => by simp [ltI]⟩
def ltS (a b : Str) : Bool := decide (a.cps.toList < b.cps.toList)
instance : LtE PyData.str ltS := ⟨fun _ _ => rfl, fun a b => dataLt_str a b, fun a => by simp [ltS]⟩
theorem alikeAll_map {e : α → PyData} [DecidableEq α] {lt : α → α → Bool} [LtE e lt] : ∀ xs ys : List α, alikeAll (xs.map e) (ys.map e) = true
  | [], _ => by cases ‹List α› <;> rfl
  | _ :: _, [] => rfl
  | x :: xs, y :: ys => by simp only [List.map_cons, alikeAll, LtE.alk, alikeAll_map xs ys, Bool.and_self]
theorem ltL_irr [DecidableEq α] {lt : α → α → Bool} : ∀ xs : List α, ltL lt xs xs = false
  | [] => rfl
  | x :: xs => by simp [ltL, ltL_irr xs]
theorem dataLt_map {e : α → PyData} [DecidableEq α] {lt : α → α → Bool} [LtE e lt] [EqvE e] : ∀ xs ys : List α, PyProof.Rows.lexLt itemOrd (keyToksAll (xs.map e)) (keyToksAll (ys.map e)) = ltL lt xs ys
  | [], [] => by rw [ltL]; exact lex_irrefl _
  | _ :: _, [] => by
    rw [ltL, List.map_cons, List.map_nil]
    rfl
  | [], _ :: _ => by
    rw [ltL, List.map_cons, List.map_nil]
    rfl
  | x :: xs, y :: ys => by
    rw [List.map_cons, List.map_cons, dataLt_cons (LtE.alk x y), dataLt_map xs ys, EqvE.eqv, LtE.ltd, ltL]
    by_cases h : x = y <;> simp [h]
instance {e : α → PyData} [DecidableEq α] {lt : α → α → Bool} [LtE e lt] [EqvE e] : LtE (EL e) (ltL lt) := ⟨fun a b => by simpa only [alike] using alikeAll_map a b, fun a b => by rw [dataLt_list]; exact dataLt_map a b, ltL_irr⟩
instance {e : α → PyData} [DecidableEq α] {lt : α → α → Bool} [LtE e lt] [EqvE e] : LtE (ET e) (ltL lt) := ⟨fun a b => by simpa only [alike] using alikeAll_map a b, fun a b => by rw [dataLt_tuple]; exact dataLt_map a b, ltL_irr⟩
instance {a : α → PyData} {b : β → PyData} [DecidableEq α] [DecidableEq β] {l : α → α → Bool} {m : β → β → Bool} [LtE a l] [LtE b m] [EqvE a] [EqvE b] : LtE (E2 a b) (lt2 l m) := ⟨fun p q => by
  simp only [E2, alike, alikeAll, LtE.alk, Bool.and_self], fun p q => by
  rw [dataLt_pair (LtE.alk _ _) (LtE.alk _ _), EqvE.eqv, EqvE.eqv, LtE.ltd, LtE.ltd, lt2]
  by_cases h : p.1 = q.1
  · by_cases k : p.2 = q.2
    · simp [h, k, LtE.irr (e := b)]
    · simp [h, k]
  · simp [h], fun p => by simp [lt2, LtE.irr (e := b)]⟩
instance {a : α → PyData} {b : β → PyData} {c : γ → PyData} [DecidableEq α] [DecidableEq β] [DecidableEq γ] {l : α → α → Bool} {m : β → β → Bool} {n : γ → γ → Bool} [LtE a l] [LtE b m] [LtE c n] [EqvE a] [EqvE b] [EqvE c] : LtE (E3 a b c) (lt2 l (lt2 m n)) := ⟨fun p q => by
  simp only [E3, alike, alikeAll, LtE.alk, Bool.and_self], fun p q => by
  have e0 : PyProof.Rows.lexLt itemOrd (keyToksAll []) (keyToksAll []) = false := lex_irrefl _
  rw [dataLt_tuple, dataLt_cons (LtE.alk _ _), dataLt_cons (LtE.alk _ _), dataLt_cons (LtE.alk _ _), EqvE.eqv, EqvE.eqv, EqvE.eqv, LtE.ltd, LtE.ltd, LtE.ltd, e0, lt2, lt2]
  by_cases h : p.1 = q.1
  · by_cases k : p.2.1 = q.2.1
    · by_cases j : p.2.2 = q.2.2
      · simp [h, k, j, LtE.irr (e := c)]
      · simp [h, k, j]
    · simp [h, k]
  · simp [h], fun p => by simp [lt2, LtE.irr (e := c)]⟩
/-- what sorted asks of a value -/
class SrtE (e : α → PyData) (ok : outParam (α → Bool)) : Prop where
  srt : ∀ xs : List α, xs.all ok = true → (xs.map e).all isTup1 = true ∨ (xs.map e).all noTup = true
theorem all_map_of {e : α → PyData} {p : PyData → Bool} {ok : α → Bool} (h : ∀ a, ok a = true → p (e a) = true) {xs : List α} (hx : xs.all ok = true) : (xs.map e).all p = true := by
  rw [List.all_map, List.all_eq_true]
  intro x hm
  exact h x (List.all_eq_true.mp hx x hm)
def okT : α → Bool := fun _ => true
instance : SrtE PyData.int okT := ⟨fun xs h => .inr (all_map_of (fun _ _ => rfl) h)⟩
instance : SrtE PyData.str okT := ⟨fun xs h => .inr (all_map_of (fun _ _ => rfl) h)⟩
instance {e : α → PyData} : SrtE (EL e) okT := ⟨fun xs h => .inr (all_map_of (fun _ _ => rfl) h)⟩
def okNE : List α → Bool := fun a => !a.isEmpty
instance {e : α → PyData} : SrtE (ET e) okNE := ⟨fun xs h => .inl (all_map_of (ok := okNE) (fun a ha => by cases a with
  | nil => cases ha
  | cons _ _ => rfl) h)⟩
instance {e : α → PyData} {f : β → PyData} : SrtE (E2 e f) okT := ⟨fun xs h => .inl (all_map_of (fun _ _ => rfl) h)⟩
instance {e : α → PyData} {f : β → PyData} {g : γ → PyData} : SrtE (E3 e f g) okT := ⟨fun xs h => .inl (all_map_of (fun _ _ => rfl) h)⟩
theorem sortOk_map {e : α → PyData} [DecidableEq α] {lt : α → α → Bool} {ok : α → Bool} {n : Nat} [LtE e lt] [Flat e] [Shp e n] [SrtE e ok] {xs : List α} (hn : n ≤ 60) (h : xs.all ok = true) : sortOk (xs.map e) = true := by
  unfold sortOk
  simp only [Bool.and_eq_true, Bool.or_eq_true]
  refine ⟨⟨⟨⟨flatL_map, layAll_map xs⟩, ?_⟩, SrtE.srt xs h⟩, ?_⟩
  · simp [LtE.alk]
  · simp only [List.all_map, List.all_eq_true, Function.comp_apply, decide_eq_true_eq]
    intro x _
    exact Nat.le_trans (Shp.deep x) hn
/-- sorted, plainly -/
def sortI (lt : α → α → Bool) (xs : List α) : List α := xs.mergeSort fun a b => !lt b a
def sortO (lt : α → α → Bool) (ok : α → Bool) (xs : List α) : Option (List α) := if xs.all ok = true then some (sortI lt xs) else none
theorem hSortD_map {e : α → PyData} [DecidableEq α] {lt : α → α → Bool} {ok : α → Bool} {n : Nat} [LtE e lt] [Flat e] [Shp e n] [SrtE e ok] {xs : List α} (hn : n ≤ 60) (h : xs.all ok = true) : hSortD (xs.map e) = some (.list ((sortI lt xs).map e)) := by
  unfold hSortD sortI
  rw [if_pos (sortOk_map hn h)]
  congr 2
  refine (List.map_mergeSort (f := e) fun a ha b hb => ?_).symm
  unfold leD
  rw [LtE.ltd]
end
end Va

/-! Vt4: expressions at told slots. -/
namespace Va
open PySem L2 PyProof.Rows PySem.W PySem.Calls

abbrev PA' (K : PySem.W.Frag) (ta : TA) (ρ : Env) (ds : List PyData) (k : Kd) : Prop := VA K ta (pE ρ (some (ds, k)))
abbrev PT' (K : PySem.W.Frag) (tt : TT) (ρ : Env) (b : Bool) : Prop := VT K tt (pE ρ (some b))
abbrev PI' (K : PySem.W.Frag) (wi : TI) (ρ : Env) (ds : List PyData) (k : Kd) : Prop := VI K wi (pE ρ (some (ds, k)))
abbrev PO' (K : PySem.W.Frag) (to : TO) (ρ : Env) (i : Option Int) : Prop := VO K to (pE ρ (some i))
section
variable {K : PySem.W.Frag} {te ta tb tc : TE} {t : TA} {tt tu : TT} {wi : TI} {to tp : TO} {ρ : Env} {d d1 d2 d3 : PyData} {ds es : List PyData} {k k1 k2 k3 : Kd} {i m : Nat} {L M : List Nat}
  {α β γ : Type} {e : α → PyData}
/-! ### parts that may not be there -/
theorem e_bind {o : Option β} {f : β → Option (PyData × Kd)} (h : ∀ b, o = some b → VE K te (pE ρ (f b))) : VE K te (pE ρ (o.bind f)) := fun B AF σ H ρ' Fs d k S e Q q => by
  obtain ⟨e0, e1⟩ := pE_some e
  subst e0
  obtain ⟨b, e2, e3⟩ := Option.bind_eq_some_iff.mp e1
  exact h b e2 B AF σ H _ Fs d k S (pE_same.trans e3) Q q
theorem c_bind {o : Option β} {f : β → Option Bool} (h : ∀ b, o = some b → VT K tt (pE ρ (f b))) : VT K tt (pE ρ (o.bind f)) := fun B AF σ H ρ' Fs d S e Q q => by
  obtain ⟨e0, e1⟩ := pE_some e
  subst e0
  obtain ⟨b, e2, e3⟩ := Option.bind_eq_some_iff.mp e1
  exact h b e2 B AF σ H _ Fs d S (pE_same.trans e3) Q q
/-- a plain program that gives an expression's data -/
abbrev EV (K : PySem.W.Frag) (te : TE) (ρ : Env) (o : Option α) (e : α → PyData) (k : Kd) : Prop := VE K te (pE ρ (o.map fun a => (e a, k)))
abbrev TV (K : PySem.W.Frag) (tt : TT) (ρ : Env) (o : Option Bool) : Prop := VT K tt (pE ρ o)
theorem ev_bind {o : Option β} {f : β → Option α} (h : ∀ b, o = some b → EV K te ρ (f b) e k) : EV K te ρ (o.bind f) e k := by
  show VE K te (pE ρ ((o.bind f).map _))
  rw [Option.map_bind]
  exact e_bind h
theorem ev_at {o : Option α} {a : α} (h : o = some a) (D : EV K te ρ o e k) : PV K te ρ (e a) k := by
  subst h
  exact D
theorem tv_at {o : Option Bool} {b : Bool} (h : o = some b) (D : TV K tt ρ o) : PT' K tt ρ b := by
  subst h
  exact D
/-! ### names, constants -/
theorem p_varF (h : ρ[i]? = some (some (d, m))) (hf : flat d = true) : PV K (tVar i) ρ d (.mv []) := (ve_var i).at (by unfold eVar; rw [h]; simp only [hf, if_true])
theorem p_var [Flat e] {a : α} (h : ρ[i]? = some (some (e a, m))) : PV K (tVar i) ρ (e a) (.mv []) := p_varF h (Flat.flat a)
theorem p_varM (h : ρ[i]? = some (some (d, 2))) : PV K (tVar i) ρ d (.mv [i]) := by
  cases hf : flat d with
  | true => exact PV.kd (p_varF h hf) (.mm rfl)
  | false => exact (ve_var i).at (by unfold eVar; rw [h]; simp [hf])
theorem p_varB (h : ρ[i]? = some (some (d, m))) : PV K (tVar i) ρ d (.bo [i]) := by
  cases hf : flat d with
  | true => exact PV.kd (p_varF h hf) (.any rfl)
  | false =>
    by_cases h2 : m = 2
    · subst h2
      exact PV.kd (p_varM h) (.any (by simp [Kd.src]))
    · exact (ve_var i).at (by unfold eVar; rw [h]; simp [hf, h2])
theorem p_int {i : Int} : PV K (tC (.int i)) ρ (.int i) (.mv []) := ve_int.at rfl
theorem p_bl {b : Bool} : PV K (tC (.bl b)) ρ (.bool b) (.mv []) := ve_bl.at rfl
theorem p_str {s : Str} : PV K (tC (.str s)) ρ (.str s) (.mv []) := ve_str.at rfl
theorem p_non : PV K (tC .non) ρ .none (.mv []) := ve_non.at rfl
/-! ### arguments -/
theorem a_nil : PA' K tNil ρ [] (.mv []) := va_nil.at rfl
theorem a_cons (h1 : PV K te ρ d k1) (h2 : PA' K t ρ ds k2) : PA' K (tCons te t) ρ (d :: ds) (aj k1 k2) := (va_cons h1 h2).at (by unfold aCons; rw [pE_same, pE_same]; rfl)
theorem a_consF (h1 : PV K te ρ d (.mv [])) (h2 : PA' K t ρ ds (.mv L)) : PA' K (tCons te t) ρ (d :: ds) (.mv L) := (va_cons h1 h2).at (by unfold aCons; rw [pE_same, pE_same]; simp)
theorem a_consB (h1 : PV K te ρ d k1) (h2 : PA' K t ρ ds k2) (M : List Nat) (hs : (k1.src ++ k2.src).all M.contains = true) : PA' K (tCons te t) ρ (d :: ds) (.bo M) := fun B AF σ H ρ' Fs ds' k S e Q q => by
  obtain ⟨e0, e1⟩ := pE_some e
  subst e0
  cases e1
  refine a_cons h1 h2 B AF σ H _ Fs _ _ S pE_same Q fun vs H' F g r o => q vs H' F g r fun a ha => (o.any a ha).imp id fun z => z.mono fun i hi => ?_
  have hs' : (aj k1 k2).src = k1.src ++ k2.src := by
    cases k1 <;> cases k2 <;> try rfl
    rename_i L M
    rw [aj_mm]
    split <;> rfl
  rw [hs'] at hi
  exact sub_of hs i hi
/-- what is moved, from unlike slots -/
theorem a_consM (h1 : PV K te ρ d (.mv L)) (h2 : PA' K t ρ ds (.mv M)) (hs : apart L M = true) : PA' K (tCons te t) ρ (d :: ds) (.mv (L ++ M)) := (va_cons h1 h2).at (by unfold aCons; rw [pE_same, pE_same]; simp only [Option.bind_some, aj_mm, if_pos hs])
theorem a_star (h1 : PV K te ρ d (.mv [])) (h2 : PA' K t ρ ds (.mv L)) (hi : iterD d = some es) : PA' K (StX.tStar K te t) ρ (es ++ ds) (.mv L) := (va_star h1 h2).at (by unfold aStar; rw [pE_same, pE_same]; simp [hi])
/-! ### operations -/
theorem p_opF {r : R2} {h : List PyData → Option PyData} (vf : VFf K (r2l r) h) (h1 : PV K ta ρ d1 k1) (h2 : PV K tb ρ d2 k2) (hg : h [d1, d2] = some d) : PV K (tOp r ta tb) ρ d (.mv []) :=
  (ve_op (vf_f vf) h1 h2).at (by unfold eApp aCons aNil; rw [pE_same, pE_same]; simp [gF, hg])
theorem p_op {r : R2} {gn : Gn} (vf : VF K (r2l r) gn) (h1 : PV K ta ρ d1 k1) (h2 : PV K tb ρ d2 k2) (hg : gn [d1, d2] (aj k1 (aj k2 (.mv []))) = some (d, k)) : PV K (tOp r ta tb) ρ d k :=
  (ve_op vf h1 h2).at (by unfold eApp aCons aNil; rw [pE_same, pE_same]; simpa using hg)
theorem p_neg {x : Int} (h1 : PV K ta ρ (.int x) k1) : PV K (tUn (rU fun i => .int (-i)) ta) ρ (.int (-x)) (.mv []) :=
  (ve_un (vf_f vf_neg) h1).at (by unfold eApp aCons aNil; rw [pE_same]; rfl)
theorem p_add {x y : Int} (h1 : PV K ta ρ (.int x) k1) (h2 : PV K tb ρ (.int y) k2) : PV K (tOp (rAddA K) ta tb) ρ (.int (x + y)) (.mv []) := p_op vf_add h1 h2 rfl
theorem p_mul {x y z : Int} (h1 : PV K ta ρ (.int x) k1) (h2 : PV K tb ρ (.int y) k2) (h : mulO x y = some z) : PV K (tOp rMulA ta tb) ρ (.int z) (.mv []) := p_op vf_mul h1 h2 (by
  unfold mulO at h
  split at h
  · rename_i hm
    cases h
    simp [gMul, hm]
  · cases h)
theorem p_mulN {x y : Int} (h1 : PV K ta ρ (.int x) k1) (h2 : PV K tb ρ (.int y) k2) (h : mulOk x y = true) : PV K (tOp rMulA ta tb) ρ (.int (x * y)) (.mv []) := p_mul h1 h2 (by unfold mulO; rw [if_pos h])
theorem mulOk_l {x y : Int} (h : -(2 ^ 64) < x ∧ x < 2 ^ 64) : mulOk x y = true := by
  unfold mulOk
  simp only [Bool.or_eq_true, Bool.and_eq_true, decide_eq_true_eq]
  omega
theorem mulOk_r {x y : Int} (h : -(2 ^ 64) < y ∧ y < 2 ^ 64) : mulOk x y = true := by
  unfold mulOk
  simp only [Bool.or_eq_true, Bool.and_eq_true, decide_eq_true_eq]
  omega
theorem p_div {x y z : Int} (h1 : PV K ta ρ (.int x) k1) (h2 : PV K tb ρ (.int y) k2) (h : divO x y = some z) : PV K (tOp (rI CDivW fun i j => .int (i / j)) ta tb) ρ (.int z) (.mv []) := p_opF vf_div h1 h2 (by
  unfold divO at h
  split at h
  · rename_i hm
    cases h
    rw [hDiv_eq, if_pos hm]
  · cases h)
theorem p_mod {x y z : Int} (h1 : PV K ta ρ (.int x) k1) (h2 : PV K tb ρ (.int y) k2) (h : modO x y = some z) : PV K (tOp (rI (fun _ j => 0 < j) fun i j => .int (i % j)) ta tb) ρ (.int z) (.mv []) := p_opF vf_mod h1 h2 (by
  unfold modO at h
  split at h
  · rename_i hm
    cases h
    rw [hMod_eq, if_pos hm]
  · cases h)
theorem divN {x y : Int} (h : 0 < y ∧ y.natAbs.log2 < 9000) : divO x y = some (x / y) := if_pos h
theorem modN {x y : Int} (h : 0 < y) : modO x y = some (x % y) := if_pos h
theorem p_pow {x y z : Int} (h1 : PV K ta ρ (.int x) k1) (h2 : PV K tb ρ (.int y) k2) (h : powO x y = some z) : PV K (tOp (rI CPow fun i j => .int (i ^ j.toNat)) ta tb) ρ (.int z) (.mv []) := p_opF vf_pow h1 h2 (by
  unfold powO at h
  split at h
  · rename_i hm
    cases h
    rw [hPow_eq, if_pos hm]
  · cases h)
theorem p_scat {x y z : Str} (h1 : PV K ta ρ (.str x) k1) (h2 : PV K tb ρ (.str y) k2) (h : scatO x y = some z) : PV K (tOp (rAddA K) ta tb) ρ (.str z) (.mv []) := p_op vf_add h1 h2 (by
  unfold scatO at h
  split at h
  · rename_i hm
    cases h
    simp [gAdd, hm]
  · cases h)
/-- of two kinds put together -/
theorem lst_kd {ds : List PyData} {k k' : Kd} (hk : KLe (.list ds) (lstK ds k) k') (h : PV K te ρ (.list ds) (lstK ds k)) : PV K te ρ (.list ds) k' := h.kd hk
theorem catO_of {xs ys zs : List α} (h : catO xs ys = some zs) : xs.length + ys.length ≤ 1000000 ∧ zs = xs ++ ys := by
  unfold catO at h
  split at h
  · cases h; exact ⟨by assumption, rfl⟩
  · cases h
theorem p_cat {xs ys zs : List α} (h1 : PV K ta ρ (.list (xs.map e)) k1) (h2 : PV K tb ρ (.list (ys.map e)) k2) (h : catO xs ys = some zs) : PV K (tOp (rAddA K) ta tb) ρ (.list (zs.map e)) (lstK (zs.map e) (aj k1 (aj k2 (.mv [])))) := by
  obtain ⟨hl, rfl⟩ := catO_of h
  refine p_op vf_add h1 h2 ?_
  simp [gAdd, hl]
theorem p_catF [Flat e] {xs ys zs : List α} (h1 : PV K ta ρ (.list (xs.map e)) k1) (h2 : PV K tb ρ (.list (ys.map e)) k2) (h : catO xs ys = some zs) : PV K (tOp (rAddA K) ta tb) ρ (.list (zs.map e)) (.mv []) := by
  have := p_cat h1 h2 h
  unfold lstK at this
  rwa [if_pos flatL_map] at this
theorem lstK_sp {ds : List PyData} {k : Kd} {M : List Nat} (hs : k.src.all M.contains = true) : KLe (.list ds) (lstK ds k) (.sp M) ∨ ∃ L, k = .mv L ∧ flatL ds = false := by
  unfold lstK
  cases hf : flatL ds with
  | true => exact .inl (.ms rfl)
  | false =>
    cases k with
    | mv L => exact .inr ⟨L, rfl, rfl⟩
    | sp L => exact .inl (.ss hs)
    | bo L => exact .inl (.ss hs)
theorem lstK_mv {ds : List PyData} {L : List Nat} : KLe (.list ds) (lstK ds (.mv L)) (.mv L) := by
  unfold lstK
  cases hf : flatL ds with
  | true => exact .mm rfl
  | false => exact .refl
theorem lstK_bo {ds : List PyData} {L M : List Nat} (hs : L.all M.contains = true) : KLe (.list ds) (lstK ds (.bo L)) (.sp M) := by
  unfold lstK
  cases hf : flatL ds with
  | true => exact .ms rfl
  | false => exact .ss hs
theorem tupK_any {ds : List PyData} {k : Kd} {M : List Nat} (hs : k.src.all M.contains = true) : KLe (.tuple ds) (tupK ds k) (.bo M) := by
  unfold tupK
  cases hf : flatL ds with
  | true => exact .any rfl
  | false => cases k <;> exact .any hs
theorem tupK_mv {ds : List PyData} {L : List Nat} : KLe (.tuple ds) (tupK ds (.mv L)) (.mv L) := by
  unfold tupK
  cases hf : flatL ds with
  | true => exact .mm rfl
  | false => exact .refl
theorem datK_any {d : PyData} {k : Kd} {M : List Nat} (hs : k.src.all M.contains = true) : KLe d (datK d k) (.bo M) := by
  unfold datK
  cases hf : flat d with
  | true => exact .any rfl
  | false => cases k <;> exact .any hs
theorem datK_mv {d : PyData} {L : List Nat} : KLe d (datK d (.mv L)) (.mv L) := by
  unfold datK
  cases hf : flat d with
  | true => exact .mm rfl
  | false => exact .refl
theorem lstS {K : PySem.W.Frag} {te : TE} {ρ : Env} {ds : List PyData} {k : Kd} (M : List Nat) (h : PV K te ρ (.list ds) (lstK ds k)) (hk : ∀ L, k ≠ .mv L) (hs : k.src.all M.contains = true) : PV K te ρ (.list ds) (.sp M) := by
  rcases lstK_sp (ds := ds) hs with z | ⟨L, z, _⟩
  · exact h.kd z
  · exact absurd z (hk L)
/-- lists put together: items of the sources -/
theorem p_catS {xs ys zs : List α} (M : List Nat) (h1 : PV K ta ρ (.list (xs.map e)) k1) (h2 : PV K tb ρ (.list (ys.map e)) k2) (h : catO xs ys = some zs) (hs : (k1.src ++ k2.src).all M.contains = true) : PV K (tOp (rAddA K) ta tb) ρ (.list (zs.map e)) (.sp M) := by
  have h1' := h1.bo k1.src (by simp)
  have h2' := h2.bo k2.src (by simp)
  refine (p_cat h1' h2' h).kd ?_
  simp only [aj, Kd.src, List.append_nil]
  exact lstK_bo hs
theorem p_catM {xs ys zs : List α} (h1 : PV K ta ρ (.list (xs.map e)) (.mv L)) (h2 : PV K tb ρ (.list (ys.map e)) (.mv M)) (h : catO xs ys = some zs) (ha : apart L M = true) : PV K (tOp (rAddA K) ta tb) ρ (.list (zs.map e)) (.mv (L ++ M)) := by
  refine (p_cat h1 h2 h).kd ?_
  have : aj (.mv L) (aj (.mv M) (.mv [])) = .mv (L ++ M) := by rw [aj_nil2, aj_mm, if_pos ha]
  rw [this]
  exact lstK_mv
theorem p_catT {xs ys zs : List α} (h1 : PV K ta ρ (.tuple (xs.map e)) k1) (h2 : PV K tb ρ (.tuple (ys.map e)) k2) (h : catO xs ys = some zs) : PV K (tOp (rAddA K) ta tb) ρ (.tuple (zs.map e)) (tupK (zs.map e) (aj k1 (aj k2 (.mv [])))) := by
  obtain ⟨hl, rfl⟩ := catO_of h
  refine p_op vf_add h1 h2 ?_
  simp [gAdd, hl]
theorem p_catTF [Flat e] {xs ys zs : List α} (h1 : PV K ta ρ (.tuple (xs.map e)) k1) (h2 : PV K tb ρ (.tuple (ys.map e)) k2) (h : catO xs ys = some zs) : PV K (tOp (rAddA K) ta tb) ρ (.tuple (zs.map e)) (.mv []) := by
  have := p_catT h1 h2 h
  unfold tupK at this
  rwa [if_pos flatL_map] at this
theorem p_rep [Flat e] {xs zs : List α} {n : Int} (h1 : PV K ta ρ (.list (xs.map e)) k1) (h2 : PV K tb ρ (.int n) k2) (h : repO xs n = some zs) : PV K (tOp rMulA ta tb) ρ (.list (zs.map e)) (.mv []) := by
  unfold repO at h
  split at h
  · rename_i hc
    cases h
    refine p_op vf_mul h1 h2 ?_
    simp only [gMul, List.length_map]
    rw [if_pos ⟨hc.1, hc.2.1, hc.2.2, flatL_map⟩]
    simp [List.map_flatten]
  · cases h
/-! ### comparisons -/
theorem p_eq [DecidableEq α] {n : Nat} [EqvE e] [Shp e n] {a b : α} (h1 : PV K ta ρ (e a) k1) (h2 : PV K tb ρ (e b) k2) (hn : n ≤ 64) : PV K (tOp (fun x y H Q => rEqD K x y H Q ∨ rEq x y H Q) ta tb) ρ (.bool (decide (a = b))) (.mv []) :=
  p_opF vf_eq h1 h2 (by rw [hEq_eq (shaped_of hn) (shaped_of hn), EqvE.eqv])
theorem p_ne [DecidableEq α] {n : Nat} [EqvE e] [Shp e n] {a b : α} (h1 : PV K ta ρ (e a) k1) (h2 : PV K tb ρ (e b) k2) (hn : n ≤ 64) : PV K (tOp (fun x y H Q => rNeD K x y H Q ∨ rNe x y H Q) ta tb) ρ (.bool (!decide (a = b))) (.mv []) :=
  p_opF vf_ne h1 h2 (by rw [hNe_eq (shaped_of hn) (shaped_of hn), EqvE.eqv])
theorem p_eqS {a b : Str} (h1 : PV K ta ρ (.str a) k1) (h2 : PV K tb ρ (.str b) k2) : PV K (tOp (fun x y H Q => rEqD K x y H Q ∨ rEq x y H Q) ta tb) ρ (.bool (decide (a = b))) (.mv []) :=
  p_opF vf_eq h1 h2 rfl
theorem p_neS {a b : Str} (h1 : PV K ta ρ (.str a) k1) (h2 : PV K tb ρ (.str b) k2) : PV K (tOp (fun x y H Q => rNeD K x y H Q ∨ rNe x y H Q) ta tb) ρ (.bool (!decide (a = b))) (.mv []) :=
  p_opF vf_ne h1 h2 rfl
/-- of data whose texts must be known to be texts -/
def shpO (d : PyData) : Option Unit := if SeqAt.shaped d = true then some () else none
theorem shpO_some {d : PyData} {u : Unit} (h : shpO d = some u) : SeqAt.shaped d = true := by
  unfold shpO at h
  split at h
  · assumption
  · cases h
theorem p_eqG [DecidableEq α] [EqvE e] {a b : α} {u v : Unit} (h1 : PV K ta ρ (e a) k1) (h2 : PV K tb ρ (e b) k2) (ha : shpO (e a) = some u) (hb : shpO (e b) = some v) : PV K (tOp (fun x y H Q => rEqD K x y H Q ∨ rEq x y H Q) ta tb) ρ (.bool (decide (a = b))) (.mv []) := by
  have ha' := shpO_some ha
  have hb' := shpO_some hb
  exact p_opF vf_eq h1 h2 (by rw [hEq_eq ha' hb', EqvE.eqv])
theorem p_neG [DecidableEq α] [EqvE e] {a b : α} {u v : Unit} (h1 : PV K ta ρ (e a) k1) (h2 : PV K tb ρ (e b) k2) (ha : shpO (e a) = some u) (hb : shpO (e b) = some v) : PV K (tOp (fun x y H Q => rNeD K x y H Q ∨ rNe x y H Q) ta tb) ρ (.bool (!decide (a = b))) (.mv []) := by
  have ha' := shpO_some ha
  have hb' := shpO_some hb
  exact p_opF vf_ne h1 h2 (by rw [hNe_eq ha' hb', EqvE.eqv])
theorem p_isN [NonN e] {o : Option α} (h1 : PV K ta ρ (EO e o) k1) (h2 : PV K tb ρ .none k2) : PV K (tOp (fun x y H Q => y = .non ∧ Q (.bl (decide (x = .non))) H) ta tb) ρ (.bool o.isNone) (.mv []) := p_opF vf_isN h1 h2 (by rw [hIsN_eq, isN_EO])
theorem p_notN [NonN e] {o : Option α} (h1 : PV K ta ρ (EO e o) k1) (h2 : PV K tb ρ .none k2) : PV K (tOp (fun x y H Q => y = .non ∧ Q (.bl (!decide (x = .non))) H) ta tb) ρ (.bool o.isSome) (.mv []) := p_opF vf_notN h1 h2 (by rw [hNotN_eq, isN_EO]; cases o <;> rfl)
theorem cmp_of [DecidableEq α] {lt : α → α → Bool} {n : Nat} [LtE e lt] [Shp e n] [NonN e] {a b : α} (hn : n ≤ 60) : cmpOk (e a) (e b) = true := by
  unfold cmpOk
  have := Shp.deep (e := e) a
  simp only [Bool.and_eq_true, decide_eq_true_eq, LtE.alk, Shp.lay, NonN.non, Bool.not_false, true_and]
  omega
theorem hCmp_of {c : Int → Int → Bool} {h : PyData → PyData → Bool} [DecidableEq α] {lt : α → α → Bool} {n : Nat} [LtE e lt] [Shp e n] [NonN e] {a b : α} (hn : n ≤ 60) (hc : ∀ i j, h (.int i) (.int j) = c i j) : hCmp c h [e a, e b] = some (.bool (h (e a) (e b))) := by
  have ho : cmpOk (e a) (e b) = true := cmp_of hn
  generalize e a = x at ho
  generalize e b = y at ho
  unfold hCmp
  split
  · rename_i q
    cases q
    rw [hc]
  · rename_i q
    cases q
    rw [if_pos ho]
  · rename_i q
    exact absurd rfl (q _ _)
theorem p_ltA [DecidableEq α] {lt : α → α → Bool} {n : Nat} [LtE e lt] [Shp e n] [NonN e] {a b : α} (h1 : PV K ta ρ (e a) k1) (h2 : PV K tb ρ (e b) k2) (hn : n ≤ 60) :
    PV K (tOp (fun x y H Q => rI0 (fun i j => .bl (decide (i < j))) x y H Q ∨ rCmpD K (fun d e => dataLt d e) x y H Q) ta tb) ρ (.bool (lt a b)) (.mv []) := p_opF vf_ltA h1 h2 (by
  unfold hLtA; rw [hCmp_of hn fun i j => dataLt_int i j, LtE.ltd])
theorem p_gtA [DecidableEq α] {lt : α → α → Bool} {n : Nat} [LtE e lt] [Shp e n] [NonN e] {a b : α} (h1 : PV K ta ρ (e a) k1) (h2 : PV K tb ρ (e b) k2) (hn : n ≤ 60) :
    PV K (tOp (fun x y H Q => rI0 (fun i j => .bl (decide (j < i))) x y H Q ∨ rCmpD K (fun d e => dataLt e d) x y H Q) ta tb) ρ (.bool (lt b a)) (.mv []) := p_opF vf_gtA h1 h2 (by
  unfold hGtA; rw [hCmp_of hn fun i j => dataLt_int j i, LtE.ltd])
theorem p_leA [DecidableEq α] {lt : α → α → Bool} {n : Nat} [LtE e lt] [Shp e n] [NonN e] {a b : α} (h1 : PV K ta ρ (e a) k1) (h2 : PV K tb ρ (e b) k2) (hn : n ≤ 60) :
    PV K (tOp (fun x y H Q => rI0 (fun i j => .bl (decide (i ≤ j))) x y H Q ∨ rCmpD K (fun d e => !dataLt e d) x y H Q) ta tb) ρ (.bool (!lt b a)) (.mv []) := p_opF vf_leA h1 h2 (by
  unfold hLeA; rw [hCmp_of hn fun i j => by rw [dataLt_int, Bool.eq_iff_iff]; simp, LtE.ltd])
theorem p_geA [DecidableEq α] {lt : α → α → Bool} {n : Nat} [LtE e lt] [Shp e n] [NonN e] {a b : α} (h1 : PV K ta ρ (e a) k1) (h2 : PV K tb ρ (e b) k2) (hn : n ≤ 60) :
    PV K (tOp (fun x y H Q => rI0 (fun i j => .bl (decide (j ≤ i))) x y H Q ∨ rCmpD K (fun d e => !dataLt d e) x y H Q) ta tb) ρ (.bool (!lt a b)) (.mv []) := p_opF vf_geA h1 h2 (by
  unfold hGeA; rw [hCmp_of hn fun i j => by rw [dataLt_int, Bool.eq_iff_iff]; simp, LtE.ltd])
theorem any_eqv [DecidableEq α] [EqvE e] {x : α} {xs : List α} : ((xs.map e).any fun z => PyData.eqv z (e x)) = decide (x ∈ xs) := by
  rw [List.any_map, Bool.eq_iff_iff, List.any_eq_true, decide_eq_true_eq]
  simp only [Function.comp_apply, EqvE.eqv, decide_eq_true_eq]
  exact ⟨fun ⟨y, h1, h2⟩ => h2 ▸ h1, fun h => ⟨x, h, rfl⟩⟩
theorem shaped_list {n : Nat} [Shp e n] {xs : List α} (hn : n ≤ 60) : SeqAt.shaped (.list (xs.map e)) = true := shaped_of (e := EL e) (a := xs) (by omega)
theorem p_in [DecidableEq α] {n : Nat} [EqvE e] [Shp e n] {x : α} {xs : List α} (h1 : PV K ta ρ (e x) k1) (h2 : PV K tb ρ (.list (xs.map e)) k2) (hn : n ≤ 60) : PV K (tOp (rInA K) ta tb) ρ (.bool (memB x xs)) (.mv []) := p_opF vf_in h1 h2 (by
  rw [hIn_eq, inD_l (shaped_of (by omega)) (shaped_list hn), any_eqv, boolK_eq]; rfl)
theorem p_nin [DecidableEq α] {n : Nat} [EqvE e] [Shp e n] {x : α} {xs : List α} (h1 : PV K ta ρ (e x) k1) (h2 : PV K tb ρ (.list (xs.map e)) k2) (hn : n ≤ 60) : PV K (tOp (rNotInA K) ta tb) ρ (.bool (!memB x xs)) (.mv []) := p_opF vf_notIn h1 h2 (by
  rw [hNotIn_eq, inD_l (shaped_of (by omega)) (shaped_list hn), any_eqv, nboolK_eq]; rfl)
theorem any_int {x : Int} {xs : List Int} : (xs.any fun n => n == x) = decide (x ∈ xs) := by
  rw [Bool.eq_iff_iff]
  simp
theorem p_inT {x : Int} {xs : List Int} (h1 : PV K ta ρ (.int x) k1) (h2 : PV K tb ρ (.tuple (xs.map .int)) k2) : PV K (tOp (rInA K) ta tb) ρ (.bool (memB x xs)) (.mv []) := p_opF vf_in h1 h2 (by
  rw [hIn_eq, inD_t, any_int, boolK_eq]; rfl)
theorem p_ninT {x : Int} {xs : List Int} (h1 : PV K ta ρ (.int x) k1) (h2 : PV K tb ρ (.tuple (xs.map .int)) k2) : PV K (tOp (rNotInA K) ta tb) ρ (.bool (!memB x xs)) (.mv []) := p_opF vf_notIn h1 h2 (by
  rw [hNotIn_eq, inD_t, any_int, nboolK_eq]; rfl)
/-! ### and, or, not, if -/
theorem p_andV {a b : Bool} (h1 : PV K ta ρ (.bool a) k1) (h2 : a = true → PV K tb ρ (.bool b) k2) : PV K (tAndV ta tb) ρ (.bool (a && b)) (.mv []) := by
  cases a with
  | true => exact PV.flat (k := k2) ((ve_andV h1 (h2 rfl)).at (by unfold eAndV; rw [pE_same, pE_same]; rfl)) (by simp)
  | false => exact (ve_andV h1 (VE.at (f := fun _ => none) (fun _ _ _ _ _ _ _ _ _ z => by cases z) (ρ := ρ) rfl)).at (by unfold eAndV; rw [pE_same]; rfl)
theorem p_orV {a b : Bool} (h1 : PV K ta ρ (.bool a) k1) (h2 : a = false → PV K tb ρ (.bool b) k2) : PV K (tOrV ta tb) ρ (.bool (a || b)) (.mv []) := by
  cases a with
  | false => exact PV.flat (k := k2) ((ve_orV h1 (h2 rfl)).at (by unfold eOrV; rw [pE_same, pE_same]; rfl)) (by simp)
  | true => exact (ve_orV h1 (VE.at (f := fun _ => none) (fun _ _ _ _ _ _ _ _ _ z => by cases z) (ρ := ρ) rfl)).at (by unfold eOrV; rw [pE_same]; rfl)
theorem e_andV {a : Bool} {ob : Option Bool} (h1 : PV K ta ρ (.bool a) k1) (h2 : a = true → EV K tb ρ ob .bool (.mv [])) : EV K (tAndV ta tb) ρ (if a = true then ob else some false) .bool (.mv []) := by
  cases a with
  | true => exact (ve_andV h1 (h2 rfl)).at (by unfold eAndV; rw [pE_same, pE_same]; cases ob <;> rfl)
  | false => exact (ve_andV h1 (VE.at (f := fun _ => none) (fun _ _ _ _ _ _ _ _ _ z => by cases z) (ρ := ρ) rfl)).at (by unfold eAndV; rw [pE_same]; rfl)
theorem e_orV {a : Bool} {ob : Option Bool} (h1 : PV K ta ρ (.bool a) k1) (h2 : a = false → EV K tb ρ ob .bool (.mv [])) : EV K (tOrV ta tb) ρ (if a = true then some true else ob) .bool (.mv []) := by
  cases a with
  | false => exact (ve_orV h1 (h2 rfl)).at (by unfold eOrV; rw [pE_same, pE_same]; cases ob <;> rfl)
  | true => exact (ve_orV h1 (VE.at (f := fun _ => none) (fun _ _ _ _ _ _ _ _ _ z => by cases z) (ρ := ρ) rfl)).at (by unfold eOrV; rw [pE_same]; rfl)
theorem p_notV {a : Bool} (h1 : PV K ta ρ (.bool a) k1) : PV K (tNotV ta) ρ (.bool (!a)) (.mv []) := (ve_notV h1).at (by unfold eNotV; rw [pE_same]; rfl)
theorem p_if {b : Bool} {x y : α} (ht : PT' K tt ρ b) (ha : b = true → PV K ta ρ (e x) k) (hb : b = false → PV K tb ρ (e y) k) : PV K (tIf tt ta tb) ρ (e (if b = true then x else y)) k := by
  cases b with
  | true => exact (ve_if ht (ha rfl) (VE.at (f := fun _ => none) (fun _ _ _ _ _ _ _ _ _ z => by cases z) (ρ := ρ) rfl)).at (by simp only [pE_same, Option.bind_some, if_true])
  | false => exact (ve_if ht (VE.at (f := fun _ => none) (fun _ _ _ _ _ _ _ _ _ z => by cases z) (ρ := ρ) rfl) (hb rfl)).at (by simp [pE_same])
theorem e_if {b : Bool} {x y : Option α} (ht : PT' K tt ρ b) (ha : b = true → EV K ta ρ x e k) (hb : b = false → EV K tb ρ y e k) : EV K (tIf tt ta tb) ρ (if b = true then x else y) e k := by
  cases b with
  | true => exact (ve_if ht (ha rfl) (VE.at (f := fun _ => none) (fun _ _ _ _ _ _ _ _ _ z => by cases z) (ρ := ρ) rfl)).at (by simp only [pE_same, Option.bind_some, if_true])
  | false => exact (ve_if ht (VE.at (f := fun _ => none) (fun _ _ _ _ _ _ _ _ _ z => by cases z) (ρ := ρ) rfl) (hb rfl)).at (by simp [pE_same])
theorem p_chain {r r' : R2} {h1 h2 : List PyData → Option PyData} {a b : Bool} (v1 : VFf K (r2l r) h1) (v2 : VFf K (r2l r') h2) (ha : PV K ta ρ d1 k1) (hb : PV K tb ρ d2 k2) (hc : PV K tc ρ d3 k3) (e1 : h1 [d1, d2] = some (.bool a)) (e2 : h2 [d2, d3] = some (.bool b)) : PV K (tChain r r' ta tb tc) ρ (.bool (a && b)) (.mv []) :=
  (ve_chain v1 v2 ha hb hc).at (by
    unfold eChain
    rw [pE_same, pE_same, pE_same]
    cases a <;> simp [e1, e2, bOf])
/-! ### tests -/
theorem t_val {b : Bool} (h : PV K te ρ (.bool b) k) : PT' K (tTest te) ρ b := (vt_test h).at (by unfold tVal; rw [pE_same]; rfl)
theorem t_valE {o : Option Bool} (h : EV K te ρ o .bool k) : TV K (tTest te) ρ o := (vt_test h).at (by unfold tVal; rw [pE_same]; cases o <;> rfl)
theorem t_tru {b : Bool} (h : PV K te ρ d k) (hb : truD d = some b) : PT' K (fun σ H Q => te σ H fun x H' => ∃ k, TruV K x H' k ∧ Q k H') ρ b := (vt_tru h).at (by unfold tTru; rw [pE_same]; exact hb)
theorem truL {xs : List α} : truD (.list (xs.map e)) = some (!xs.isEmpty) := by cases xs <;> rfl
theorem truT {xs : List α} : truD (.tuple (xs.map e)) = some (!xs.isEmpty) := by cases xs <;> rfl
theorem t_and {a b : Bool} (h1 : PT' K tt ρ a) (h2 : a = true → PT' K tu ρ b) : PT' K (tAnd tt tu) ρ (a && b) := by
  cases a with
  | true => exact (vt_and h1 (h2 rfl)).at (by unfold tAndF; rw [pE_same, pE_same]; rfl)
  | false => exact (vt_and h1 (VT.at (f := fun _ => none) (fun _ _ _ _ _ _ _ _ z => by cases z) (ρ := ρ) rfl)).at (by unfold tAndF; rw [pE_same]; rfl)
theorem t_or {a b : Bool} (h1 : PT' K tt ρ a) (h2 : a = false → PT' K tu ρ b) : PT' K (tOr tt tu) ρ (a || b) := by
  cases a with
  | false => exact (vt_or h1 (h2 rfl)).at (by unfold tOrF; rw [pE_same, pE_same]; rfl)
  | true => exact (vt_or h1 (VT.at (f := fun _ => none) (fun _ _ _ _ _ _ _ _ z => by cases z) (ρ := ρ) rfl)).at (by unfold tOrF; rw [pE_same]; rfl)
theorem c_and {a : Bool} {ob : Option Bool} (h1 : PT' K tt ρ a) (h2 : a = true → TV K tu ρ ob) : TV K (tAnd tt tu) ρ (if a = true then ob else some false) := by
  cases a with
  | true => exact (vt_and h1 (h2 rfl)).at (by unfold tAndF; rw [pE_same, pE_same]; rfl)
  | false => exact (vt_and h1 (VT.at (f := fun _ => none) (fun _ _ _ _ _ _ _ _ z => by cases z) (ρ := ρ) rfl)).at (by unfold tAndF; rw [pE_same]; rfl)
theorem c_or {a : Bool} {ob : Option Bool} (h1 : PT' K tt ρ a) (h2 : a = false → TV K tu ρ ob) : TV K (tOr tt tu) ρ (if a = true then some true else ob) := by
  cases a with
  | false => exact (vt_or h1 (h2 rfl)).at (by unfold tOrF; rw [pE_same, pE_same]; rfl)
  | true => exact (vt_or h1 (VT.at (f := fun _ => none) (fun _ _ _ _ _ _ _ _ z => by cases z) (ρ := ρ) rfl)).at (by unfold tOrF; rw [pE_same]; rfl)
theorem t_not {a : Bool} (h1 : PT' K tt ρ a) : PT' K (tNot tt) ρ (!a) := (vt_not h1).at (by unfold tNotF; rw [pE_same]; rfl)
theorem c_not {o : Option Bool} (h1 : TV K tt ρ o) : TV K (tNot tt) ρ (o.map fun b => !b) := (vt_not h1).at (by unfold tNotF; rw [pE_same])
/-! ### lists, tuples -/
theorem p_tup (ha : PA' K t ρ ds k) (hl : ds.length ≤ 1000000) : PV K (tTupN t) ρ (.tuple ds) (tupK ds k) := (ve_tup ha).at (by unfold eApp gnTup; rw [pE_same]; simp [hl])
theorem p_tupF (ha : PA' K t ρ ds k) (hf : flatL ds = true) (hl : ds.length ≤ 1000000) : PV K (tTupN t) ρ (.tuple ds) (.mv []) := by
  have := p_tup ha hl
  unfold tupK at this
  rwa [if_pos hf] at this
theorem p_tupM (ha : PA' K t ρ ds (.mv L)) (hl : ds.length ≤ 1000000) : PV K (tTupN t) ρ (.tuple ds) (.mv L) := (p_tup ha hl).kd tupK_mv
theorem p_tupB (M : List Nat) (ha : PA' K t ρ ds k) (hl : ds.length ≤ 1000000) (hs : k.src.all M.contains = true) : PV K (tTupN t) ρ (.tuple ds) (.bo M) := (p_tup ha hl).kd (tupK_any hs)
theorem p_lst (ha : PA' K t ρ ds k) (hl : ds.length ≤ 1000000) : PV K (tLst t) ρ (.list ds) (lstK ds k) := (ve_lst ha).at (by unfold eApp gnLst; rw [pE_same]; simp [hl])
theorem p_lstF (ha : PA' K t ρ ds k) (hf : flatL ds = true) (hl : ds.length ≤ 1000000) : PV K (tLst t) ρ (.list ds) (.mv []) := by
  have := p_lst ha hl
  unfold lstK at this
  rwa [if_pos hf] at this
theorem p_lstM (ha : PA' K t ρ ds (.mv L)) (hl : ds.length ≤ 1000000) : PV K (tLst t) ρ (.list ds) (.mv L) := (p_lst ha hl).kd lstK_mv
theorem p_lstS (ha : PA' K t ρ ds (.bo L)) (hl : ds.length ≤ 1000000) : PV K (tLst t) ρ (.list ds) (.sp L) := (p_lst ha hl).kd (lstK_bo (by simp))
theorem atI_map {xs : List α} {i : Int} {a : α} (h : atI xs i = some a) : atI (xs.map e) i = some (e a) := by
  unfold atI at *
  rw [List.length_map]
  obtain ⟨n, h1, h2⟩ := Option.bind_eq_some_iff.mp h
  rw [h1, Option.bind_some, List.getElem?_map, h2]
  rfl
theorem p_ixD {x : Int} (h1 : PV K ta ρ d1 k1) (h2 : PV K tb ρ (.int x) (.mv [])) (h : dAt d1 x = some d) : PV K (tOp (rIx K) ta tb) ρ d (datK d (aj k1 (.mv []))) := p_op vf_ix h1 h2 (by rw [gIx_eq, h, datsK_eq]; simp)
theorem p_ixF {x : Int} (h1 : PV K ta ρ d1 k1) (h2 : PV K tb ρ (.int x) (.mv [])) (h : dAt d1 x = some d) (hf : flat d = true) : PV K (tOp (rIx K) ta tb) ρ d (.mv []) := (p_ixD h1 h2 h).flat hf
theorem p_ixB {x : Int} (M : List Nat) (h1 : PV K ta ρ d1 k1) (h2 : PV K tb ρ (.int x) (.mv [])) (h : dAt d1 x = some d) (hs : k1.src.all M.contains = true) : PV K (tOp (rIx K) ta tb) ρ d (.bo M) := by
  refine (p_ixD h1 h2 h).kd (datK_any ?_)
  cases k1 <;> simpa [aj, Kd.src] using hs
theorem p_ixM {x : Int} (h1 : PV K ta ρ d1 (.mv L)) (h2 : PV K tb ρ (.int x) (.mv [])) (h : dAt d1 x = some d) : PV K (tOp (rIx K) ta tb) ρ d (.mv L) := by
  have := (p_ixD h1 h2 h)
  rw [aj_nil2] at this
  exact this.kd datK_mv
theorem ixL {xs : List α} {i : Int} {a : α} (h : atI xs i = some a) : dAt (.list (xs.map e)) i = some (e a) := atI_map h
theorem ixT {xs : List α} {i : Int} {a : α} (h : atI xs i = some a) : dAt (.tuple (xs.map e)) i = some (e a) := atI_map h
theorem o_no : PO' K tNoPart ρ none := vo_no.at rfl
theorem o_part {x : Int} (h : PV K te ρ (.int x) k) : PO' K (tPart te) ρ (some x) := (vo_part h).at (by unfold oPart; rw [pE_same]; rfl)
theorem cutD_map {xs : List α} {lo hi : Option Int} : cutD (xs.map e) lo hi = (cutI xs lo hi).map e := by
  unfold cutD cutI
  rw [List.length_map, List.map_take, List.map_drop]
theorem p_slD {lo hi : Option Int} (h1 : PV K ta ρ d1 k1) (h2 : PO' K to ρ lo) (h3 : PO' K tp ρ hi) (h : slD d1 k1 lo hi = some (d, k)) : PV K (tSl (rSlAny K) ta to tp) ρ d k := (ve_slice h1 h2 h3).at (by
  unfold eSl
  rw [pE_same, pE_same, pE_same]
  exact h)
theorem p_slLF [Flat e] {xs : List α} {lo hi : Option Int} (h1 : PV K ta ρ (.list (xs.map e)) k1) (h2 : PO' K to ρ lo) (h3 : PO' K tp ρ hi) : PV K (tSl (rSlAny K) ta to tp) ρ (.list ((cutI xs lo hi).map e)) (.mv []) :=
  p_slD h1 h2 h3 (by rw [slD_l, cutD_map, lstK.eq_def, if_pos flatL_map])
theorem p_slTF [Flat e] {xs : List α} {lo hi : Option Int} (h1 : PV K ta ρ (.tuple (xs.map e)) k1) (h2 : PO' K to ρ lo) (h3 : PO' K tp ρ hi) : PV K (tSl (rSlAny K) ta to tp) ρ (.tuple ((cutI xs lo hi).map e)) (.mv []) :=
  p_slD h1 h2 h3 (by rw [slD_t, cutD_map, tupK.eq_def, if_pos flatL_map])
theorem p_slLS {xs : List α} {lo hi : Option Int} (M : List Nat) (h1 : PV K ta ρ (.list (xs.map e)) k1) (h2 : PO' K to ρ lo) (h3 : PO' K tp ρ hi) (hs : k1.src.all M.contains = true) : PV K (tSl (rSlAny K) ta to tp) ρ (.list ((cutI xs lo hi).map e)) (.sp M) := by
  have h1' := h1.bo k1.src (by simp)
  refine PV.kd (p_slD h1' h2 h3 (by rw [slD_l, cutD_map])) (lstK_bo hs)
/-- a slice of a written tuple -/
theorem p_slW {ds es : List PyData} {lo hi : Option Int} (h1 : PV K ta ρ (.tuple ds) k1) (h2 : PO' K to ρ lo) (h3 : PO' K tp ρ hi) (h : cutD ds lo hi = es) (hf : flatL es = true) : PV K (tSl (rSlAny K) ta to tp) ρ (.tuple es) (.mv []) :=
  p_slD h1 h2 h3 (by rw [slD_t, h, tupK.eq_def, if_pos hf])
theorem p_slS {x : Str} {lo hi : Option Int} (h1 : PV K ta ρ (.str x) k1) (h2 : PO' K to ρ lo) (h3 : PO' K tp ρ hi) (hl : x.length ≤ 1000000) : PV K (tSl (rSlAny K) ta to tp) ρ (.str (cutS x lo hi)) (.mv []) :=
  p_slD h1 h2 h3 (by unfold slD; simp only [if_pos hl])
/-! ### built-ins -/
theorem p_cb {r : List V → Hp → VK → Prop} {h : List PyData → Option PyData} (vf : VFf K r h) (ha : PA' K t ρ ds k) (hg : h ds = some d) : PV K (tCB r t) ρ d (.mv []) := (ve_call_b (vf_f vf) ha).at (by unfold eApp; rw [pE_same]; simp [gF, hg])
theorem p_cg {r : List V → Hp → VK → Prop} {g : Gn} (vf : VF K r g) (ha : PA' K t ρ ds k1) (hg : g ds k1 = some (d, k)) : PV K (tCB r t) ρ d k := (ve_call_b vf ha).at (by unfold eApp; rw [pE_same]; exact hg)
theorem lenL {xs : List α} : hLen [.list (xs.map e)] = some (.int (xs.length : Nat)) := by rw [hLen_l, List.length_map]
theorem lenT {xs : List α} : hLen [.tuple (xs.map e)] = some (.int (xs.length : Nat)) := by rw [hLen_t, List.length_map]
theorem lenS {x : Str} {u : Unit} (h : chk (decide (x.length ≤ 1000000)) = some u) : hLen [.str x] = some (.int (x.length : Nat)) := by rw [hLen_s, if_pos (by simpa using chk_some h)]
theorem sumL {xs : List Int} : hSum [.list (xs.map .int)] = some (.int xs.sum) := by simp [hSum]
theorem anyL {xs : List Bool} : hAny [.list (xs.map .bool)] = some (.bool (xs.any id)) := by simp [hAny]
theorem allL {xs : List Bool} : hAll [.list (xs.map .bool)] = some (.bool (xs.all id)) := by simp [hAll]
theorem maxL {xs : List Int} {z : Int} (h : maxO xs = some z) : hMax [.list (xs.map .int)] = some (.int z) := by
  cases xs with
  | nil => cases h
  | cons x xs =>
    cases h
    simp only [hMax, intsOf_map, Option.bind_some]
    rfl
theorem minL {xs : List Int} {z : Int} (h : minO xs = some z) : hMin [.list (xs.map .int)] = some (.int z) := by
  cases xs with
  | nil => cases h
  | cons x xs =>
    cases h
    simp only [hMin, intsOf_map, Option.bind_some]
    rfl
theorem strI {x : Int} {z : Str} (h : strO x = some z) : hStr [.int x] = some (.str z) := by
  unfold strO at h
  split at h
  · cases h
    rw [hStr_i, if_pos (by assumption)]
  · cases h
theorem reprD {z : Str} (h : reprO d = some z) : hRepr [d] = some (.str z) := by
  unfold reprO at h
  split at h
  · cases h
    rw [hRepr_eq, if_pos (by assumption)]
  · cases h
theorem p_sortL [DecidableEq α] {lt : α → α → Bool} {ok : α → Bool} {n : Nat} [LtE e lt] [Flat e] [Shp e n] [SrtE e ok] {xs zs : List α} (ha : PA' K t ρ [.list (xs.map e)] k) (h : sortO lt ok xs = some zs) (hn : n ≤ 60) : PV K (tCB (rSortedD K) t) ρ (.list (zs.map e)) (.mv []) := by
  unfold sortO at h
  split at h
  · cases h
    exact p_cg vf_sorted ha (by rw [hSorted_l, hSortD_map hn (by assumption), sortK_eq])
  · cases h
theorem p_sortT [DecidableEq α] {lt : α → α → Bool} {ok : α → Bool} {n : Nat} [LtE e lt] [Flat e] [Shp e n] [SrtE e ok] {xs zs : List α} (ha : PA' K t ρ [.tuple (xs.map e)] k) (h : sortO lt ok xs = some zs) (hn : n ≤ 60) : PV K (tCB (rSortedD K) t) ρ (.list (zs.map e)) (.mv []) := by
  unfold sortO at h
  split at h
  · cases h
    exact p_cg vf_sorted ha (by rw [hSorted_t, hSortD_map hn (by assumption), sortK_eq])
  · cases h
/-- where every value may be sorted -/
theorem sortO_all {lt : α → α → Bool} {xs : List α} : sortO lt okT xs = some (sortI lt xs) := if_pos (by simp [okT])
theorem p_listF [Flat e] {xs : List α} (ha : PA' K t ρ [d] k) (hd : iterD d = some (xs.map e)) : PV K (tCB (fun xs H Q => ∃ p ys, xs = [.ref p] ∧ (SqL K H p ys ∨ SqT K H p ys) ∧ ∀ l, H l = none → Q (.ref l) (upd H l (.lst ys))) t) ρ (.list (xs.map e)) (.mv []) := p_cg vf_list ha (by
  cases d <;> cases hd
  · rw [gList_l, lstK.eq_def, if_pos flatL_map]
  · rw [gList_t, lstK.eq_def, if_pos flatL_map])
theorem p_tupleF [Flat e] {xs : List α} (ha : PA' K t ρ [d] k) (hd : iterD d = some (xs.map e)) : PV K (tCB (fun xs H Q => ∃ p ys, xs = [.ref p] ∧ ((SqL K H p ys ∧ ∀ (l : Addr) (o : Obj), o.dict = none → H l = none → Q (.ref l) (upd H l (.frz o (.tup ys)))) ∨ (SqT K H p ys ∧ Q (.ref p) H))) t) ρ (.tuple (xs.map e)) (.mv []) := p_cg vf_tuple ha (by
  cases d <;> cases hd
  · rw [gTuple_l, tupK.eq_def, if_pos flatL_map]
  · rw [gTuple_t, tupK.eq_def, if_pos flatL_map])
theorem p_listM {xs : List α} (ha : PA' K t ρ [d] (.mv L)) (hd : iterD d = some (xs.map e)) : PV K (tCB (fun xs H Q => ∃ p ys, xs = [.ref p] ∧ (SqL K H p ys ∨ SqT K H p ys) ∧ ∀ l, H l = none → Q (.ref l) (upd H l (.lst ys))) t) ρ (.list (xs.map e)) (.mv L) := by
  refine PV.kd (k := lstK (xs.map e) (.mv L)) (p_cg vf_list ha ?_) lstK_mv
  cases d <;> cases hd
  · rw [gList_l]
  · rw [gList_t]
theorem p_listS {xs : List α} (ha : PA' K t ρ [d] (.bo L)) (hd : iterD d = some (xs.map e)) : PV K (tCB (fun xs H Q => ∃ p ys, xs = [.ref p] ∧ (SqL K H p ys ∨ SqT K H p ys) ∧ ∀ l, H l = none → Q (.ref l) (upd H l (.lst ys))) t) ρ (.list (xs.map e)) (.sp L) := by
  refine PV.kd (k := lstK (xs.map e) (.bo L)) (p_cg vf_list ha ?_) (lstK_bo (by simp))
  cases d <;> cases hd
  · rw [gList_l]
  · rw [gList_t]
theorem p_isi (T : String) (hT : isiOk T = true) {b : Bool} (h : PV K te ρ d k) (hb : isiD T d = b) (hw : isW d = false) : PV K (tCB (rIsi K) (tCons te (tCons (tC (.ty T)) tNil))) ρ (.bool b) (.mv []) := (ve_isi T hT h).at (by unfold eIsi; rw [pE_same]; simp [hb, hw])
theorem p_join {s z : Str} {xs : List Str} (h1 : PV K ta ρ (.str s) k1) (h2 : PV K tb ρ (.list (xs.map .str)) k2) (h : joinO s xs = some z) : PV K (tM1 (rJoin K) ta tb) ρ (.str z) (.mv []) := (ve_join h1 h2).at (by
  unfold eM1
  rw [pE_same, pE_same]
  unfold joinO at h
  split at h
  · rename_i hc
    cases h
    simp [joinD, hc]
  · cases h)
/-! ### what is walked -/
theorem i_range1 {n : Int} {xs : List Int} (ha : PA' K t ρ [.int n] k) (h : range1 n = some xs) : PI' K (iRng1 t) ρ (xs.map .int) (.mv []) := (vi_range1 ha).at (by
  unfold iR1
  rw [pE_same]
  unfold range1 at h
  split at h
  · rename_i hc
    cases h
    simp [hc, intsFrom, rangeI]
  · cases h)
theorem i_range2 {a b : Int} {xs : List Int} (ha : PA' K t ρ [.int a, .int b] k) (h : range2 a b = some xs) : PI' K (iRng2 t) ρ (xs.map .int) (.mv []) := (vi_range2 ha).at (by
  unfold iR2
  rw [pE_same]
  unfold range2 at h
  split at h
  · rename_i hc
    cases h
    simp [hc, intsFrom, rangeI]
  · cases h)
theorem i_seq {xs : List α} (h : PV K te ρ d k) (hd : iterD d = some (xs.map e)) : PI' K (iAny K te) ρ (xs.map e) k := (vi_seq h).at (by unfold iSeq; rw [pE_same]; simp [hd])
theorem enumD_map : ∀ {xs : List α} {n : Nat}, enumD (xs.map e) n = (enumI xs (n : Int)).map (EW (E2 PyData.int e))
  | [], _ => rfl
  | x :: xs, n => by
    rw [List.map_cons, enumD, enumD_map (xs := xs) (n := n + 1), enumI]
    simp [E2, EW, wrap]
theorem i_enum {xs : List α} (ha : PA' K t ρ [d] k) (hd : iterD d = some (xs.map e)) : PI' K (EnT.iEnumA K t) ρ ((enumI xs 0).map (EW (E2 PyData.int e))) k := (vi_enum ha).at (by
  unfold iEn
  rw [pE_same]
  have := enumD_map (e := e) (xs := xs) (n := 0)
  cases d <;> cases hd <;> simp only [Option.bind_some] <;> rw [this] <;> rfl)
theorem zipD_map {f : β → PyData} : ∀ {xs : List α} {ys : List β}, zipD (xs.map e) (ys.map f) = (xs.zip ys).map (EW (E2 e f))
  | [], _ => rfl
  | x :: xs, [] => rfl
  | x :: xs, y :: ys => by
    rw [List.map_cons, List.map_cons, zipD, zipD_map, List.zip_cons_cons]
    rfl
theorem i_zipL {f : β → PyData} {xs : List α} {ys : List β} (ha : PA' K t ρ [.list (xs.map e), .list (ys.map f)] k) : PI' K (RZ.iZipA K t) ρ ((xs.zip ys).map (EW (E2 e f))) k := (vi_zip ha).at (by
  unfold iZp
  rw [pE_same]
  simp only [Option.bind_some]
  rw [zipD_map])
theorem i_zipT {f : β → PyData} {xs : List α} {ys : List β} (ha : PA' K t ρ [.tuple (xs.map e), .tuple (ys.map f)] k) : PI' K (RZ.iZipA K t) ρ ((xs.zip ys).map (EW (E2 e f))) k := (vi_zip ha).at (by
  unfold iZp
  rw [pE_same]
  simp only [Option.bind_some]
  rw [zipD_map])
end
end Va

/-! Vt5: statements at told slots; loops; comprehensions; defs. -/
namespace Va
open Classical
open PySem L2 PyProof.Rows PySem.W PySem.Calls

/-- a plain program n tells how the block ends -/
abbrev TB (K : PySem.W.Frag) (Wx : WxT) (wr : List Nat) (ts : TS) (ρ : Env) {β : Type} (n : Option β) (out : β → Out) : Prop := VS K Wx wr ts (pE ρ (n.map out))
section
variable {α β γ τ R : Type}
@[reducible] def oN (E : τ → Env) : τ → Out := fun s => .nx (E s)
@[reducible] def oR (e : R → PyData) (r : Nat) : R → Out := fun x => .rt (e x) r
def oC (E : τ → Env) (e : R → PyData) (r : Nat) : Ctl τ R → Out
  | .nx s => .nx (E s)
  | .bk s => .bk (E s)
  | .ct s => .ct (E s)
  | .rt x => .rt (e x) r
def oS (E : τ → Env) (e : R → PyData) (r : Nat) : Res τ R → Out
  | .on s => .nx (E s)
  | .rt x => .rt (e x) r
def NX : Out → Prop
  | .nx _ => False
  | _ => True
/-- no path of it goes on -/
def NB (n : Option β) (out : β → Out) : Prop := ∀ b, n = some b → NX (out b)
theorem nb_bind {o : Option γ} {f : γ → Option β} {out : β → Out} (h : ∀ c, NB (f c) out) : NB (o.bind f) out := fun b e => by
  obtain ⟨c, _, e2⟩ := Option.bind_eq_some_iff.mp e
  exact h c b e2
theorem nb_let {a : γ} {f : γ → Option β} {out : β → Out} (h : ∀ c, NB (f c) out) : NB (letO a f) out := h a
theorem nb_if {b : Bool} {x y : Option β} {out : β → Out} (h : NB x out) (k : NB y out) : NB (if b = true then x else y) out := by
  cases b
  · exact k
  · exact h
theorem nb_some {b : β} {out : β → Out} (h : NX (out b)) : NB (some b) out := fun c e => by cases e; exact h
theorem nb_rt {n : Option R} {e : R → PyData} {r : Nat} : NB n (oR e r) := fun b _ => trivial
variable {K : PySem.W.Frag} {Wx : WxT} {wr wr' wb ns : List Nat} {ts t u v tb : TS} {te ta ti : TE} {tc : TT} {ρ ρ1 : Env} {out : β → Out} {d : PyData} {k k2 : Kd} {e : α → PyData} {kl : List Nat} {i m : Nat}
/-! ### blocks -/
theorem s_bind {o : Option γ} {f : γ → Option β} (h : ∀ c, o = some c → TB K Wx wr ts ρ (f c) out) : TB K Wx wr ts ρ (o.bind f) out := fun B AF σ H ρ' Fs d S e D p => by
  obtain ⟨e0, e1⟩ := pE_some e
  subst e0
  rw [Option.map_bind] at e1
  obtain ⟨b, e2, e3⟩ := Option.bind_eq_some_iff.mp e1
  exact h b e2 B AF σ H _ Fs d S (pE_same.trans e3) D p
theorem s_let {a : γ} {f : γ → Option β} (h : ∀ x, x = a → TB K Wx wr ts ρ (f x) out) : TB K Wx wr ts ρ (letO a f) out := h a rfl
theorem p_is {x a : α} (hx : x = a) (h : PV K te ρ (e a) k) : PV K te ρ (e x) k := by subst hx; exact h
theorem s_seq {o : Option Out} (h1 : VS K Wx wr t (pE ρ (some (.nx ρ1)))) (h2 : VS K Wx wr' u (pE ρ1 o)) : VS K Wx (wr ++ wr') (tSeq t u) (pE ρ o) := (vs_seq h1 h2).at (by
  unfold sSeq
  rw [pE_same]
  exact pE_same)
theorem s_seqO {c : Option τ} {g : τ → Option β} {E : τ → Env} (h1 : TB K Wx wr t ρ c (oN E)) (h2 : ∀ s, TB K Wx wr' u (E s) (g s) out) : TB K Wx (wr ++ wr') (tSeq t u) ρ (c.bind g) out := by
  cases c with
  | none =>
    intro B AF σ H ρ' Fs d S e D p
    obtain ⟨e0, e1⟩ := pE_some e
    cases e1
  | some s => exact s_seq h1 (h2 s)
theorem s_seqR {c : Option (Res τ R)} {g : τ → Option β} {E : τ → Env} {eR : R → PyData} {r : Nat} {ret : R → Option β} (h1 : TB K Wx wr t ρ c (oS E eR r)) (h2 : ∀ s, TB K Wx wr' u (E s) (g s) out) (hr : ∀ x, (ret x).map out = some (.rt (eR x) r)) : TB K Wx (wr ++ wr') (tSeq t u) ρ (resK c g ret) out := by
  cases c with
  | none =>
    intro B AF σ H ρ' Fs d S e D p
    obtain ⟨e0, e1⟩ := pE_some e
    cases e1
  | some s =>
    cases s with
    | on s => exact s_seq h1 (h2 s)
    | rt x =>
      have h2' : VS K Wx wr' u (fun _ => none) := fun _ _ _ _ _ _ _ _ e => by cases e
      refine (vs_seq h1 h2').at ?_
      unfold sSeq
      rw [pE_same]
      show some (Out.rt (eR x) r) = _
      rw [← hr x]
      rfl
theorem s_if {b : Bool} {n1 n2 : Option β} (hc : PT' K tc ρ b) (h1 : b = true → TB K Wx wr t ρ n1 out) (h2 : b = false → TB K Wx wr' u ρ n2 out) : TB K Wx (wr ++ wr') (tIfS tc t u) ρ (if b = true then n1 else n2) out := by
  have nv : ∀ {w : List Nat} {s : TS}, VS K Wx w s (fun _ => none) := fun _ _ _ _ _ _ _ _ e => by cases e
  cases b with
  | true => exact (vs_if hc (h1 rfl) nv).at (by unfold sIf; rw [pE_same, Option.bind_some, if_pos rfl, pE_same, if_pos rfl])
  | false => exact (vs_if hc nv (h2 rfl)).at (by unfold sIf; rw [pE_same, Option.bind_some, if_neg Bool.false_ne_true, pE_same, if_neg Bool.false_ne_true])
/-- if .. that leaves; then the rest -/
theorem s_exit {n : Option β} (h : TB K Wx wr t ρ n out) (x : NB n out) : TB K Wx (wr ++ wr') (tSeq t u) ρ n out := by
  have nv : VS K Wx wr' u (fun _ => none) := fun _ _ _ _ _ _ _ _ e => by cases e
  refine (vs_seq h nv).at ?_
  unfold sSeq
  rw [pE_same]
  cases n with
  | none => rfl
  | some b =>
    have := x b rfl
    show (match out b with
      | .nx ρ' => _
      | o => some o) = some (out b)
    cases ho : out b with
    | nx ρ' => rw [ho] at this; exact this.elim
    | bk ρ' => rfl
    | ct ρ' => rfl
    | rt d r => rfl
    | ex c fs => rfl
theorem s_ifX {b : Bool} {n1 n2 : Option β} (hc : PT' K tc ρ b) (h1 : b = true → TB K Wx wr t ρ n1 out) (x1 : NB n1 out) (h2 : b = false → TB K Wx wr' (tSeq u v) ρ n2 out) : TB K Wx (wr ++ wr') (tSeq (tIfS tc t u) v) ρ (if b = true then n1 else n2) out := by
  intro B AF σ H ρ' Fs o S e D p
  obtain ⟨e0, e1⟩ := pE_some e
  subst e0
  refine hc B AF σ H _ Fs b S pE_same _ fun H1 g1 => ?_
  cases b with
  | true =>
    rw [if_pos rfl] at e1 ⊢
    exact s_exit (wr' := []) (u := v) (h1 rfl) x1 B AF σ H1 _ Fs o (S.grow g1) (pE_same.trans e1) D (p.pre (Fr.grow (wr := []) g1) fun i hi => by
      simp only [List.nil_append, List.append_nil] at hi
      exact List.mem_append_left _ hi)
  | false =>
    rw [if_neg Bool.false_ne_true] at e1 ⊢
    exact h2 rfl B AF σ H1 _ Fs o (S.grow g1) (pE_same.trans e1) D (p.pre (Fr.grow (wr := []) g1) fun i hi => List.mem_append_right _ (by simpa using hi))
theorem s_ifY {b : Bool} {n1 n2 : Option β} (hc : PT' K tc ρ b) (h1 : b = true → TB K Wx wr (tSeq t v) ρ n1 out) (h2 : b = false → TB K Wx wr' u ρ n2 out) (x2 : NB n2 out) : TB K Wx (wr ++ wr') (tSeq (tIfS tc t u) v) ρ (if b = true then n1 else n2) out := by
  intro B AF σ H ρ' Fs o S e D p
  obtain ⟨e0, e1⟩ := pE_some e
  subst e0
  refine hc B AF σ H _ Fs b S pE_same _ fun H1 g1 => ?_
  cases b with
  | true =>
    rw [if_pos rfl] at e1 ⊢
    exact h1 rfl B AF σ H1 _ Fs o (S.grow g1) (pE_same.trans e1) D (p.pre (Fr.grow (wr := []) g1) fun i hi => List.mem_append_left _ (by simpa using hi))
  | false =>
    rw [if_neg Bool.false_ne_true] at e1 ⊢
    exact s_exit (wr' := []) (u := v) (h2 rfl) x2 B AF σ H1 _ Fs o (S.grow g1) (pE_same.trans e1) D (p.pre (Fr.grow (wr := []) g1) fun i hi => by
      simp only [List.nil_append, List.append_nil] at hi
      exact List.mem_append_right _ hi)
theorem s_skip {o : Option Out} (h : VS K Wx wr u (pE ρ o)) : VS K Wx ([] ++ wr) (tSeq tNext u) (pE ρ o) := s_seq (VS.at vs_next rfl) h
theorem s_next : VS K Wx ([] : List Nat) tNext (pE ρ (some (.nx ρ))) := VS.at vs_next rfl
theorem s_break : VS K Wx ([] : List Nat) tBreak (pE ρ (some (.bk ρ))) := VS.at vs_break rfl
theorem s_cont : VS K Wx ([] : List Nat) tCont (pE ρ (some (.ct ρ))) := VS.at vs_cont rfl
/-! ### statements -/
theorem s_set (kl : List Nat) (i : Nat) (h : PV K te ρ d k) (hi : Nat.blt i ρ.length = true) (hρ : (giv kl k ρ).1.set i (some (d, (giv kl k ρ).2)) = ρ1) : VS K Wx (i :: kl) (tAsg te (gName i)) (pE ρ (some (.nx ρ1))) := (vs_set kl i h).at (by
  unfold sSet
  rw [pE_same, Option.bind_some, if_pos (by simpa using hi), hρ])
theorem s_asgT {g : TG} {st : SG} (hg : VG K ns g st) (h : PV K te ρ d k) (hs : st d (dem k.src ρ) = some ρ1) : VS K Wx ns (tAsg te g) (pE ρ (some (.nx ρ1))) := (vs_asgT hg h).at (by
  unfold sAsgT
  rw [pE_same, Option.bind_some, hs]
  rfl)
theorem own_at {xs : List PyData} (h : ρ[i]? = some (some (.list xs, m))) (hm : m = 1 ∨ m = 2) (hk : k.src.contains i = false) : ownL i k ρ = some (xs, m) := by
  rw [ownL_eq, h, hk]
  unfold ownQ
  simp [hm]
theorem appO_of {xs zs : List α} {x : α} (h : appO xs x = some zs) : xs.length < 1000000 ∧ zs = xs ++ [x] := by
  unfold appO at h
  split at h
  · cases h; exact ⟨by assumption, rfl⟩
  · cases h
theorem s_app (kl : List Nat) (i : Nat) {xs zs : List α} {x : α} (h : PV K te ρ (e x) k) (hx : ρ[i]? = some (some (.list (xs.map e), m))) (hm : m = 1 ∨ m = 2) (hk : k.src.contains i = false) (ha : appO xs x = some zs) (hρ : (giv kl k ρ).1.set i (some (.list (zs.map e), mutM m (giv kl k ρ).2)) = ρ1) :
    VS K Wx (i :: kl) (tDrop (tBM K "list" rAppend (tVar i) (tCons te tNil))) (pE ρ (some (.nx ρ1))) := (vs_append kl i h).at (by
  obtain ⟨hl, rfl⟩ := appO_of ha
  unfold sMutL
  rw [pE_same, Option.bind_some, own_at hx hm hk, Option.bind_some, hApp_eq, List.length_map, if_pos hl, ← hρ]
  simp [mutE])
theorem s_ext (kl : List Nat) (i : Nat) {xs ys zs : List α} (h : PV K te ρ (.list (ys.map e)) k) (hx : ρ[i]? = some (some (.list (xs.map e), m))) (hm : m = 1 ∨ m = 2) (hk : k.src.contains i = false) (ha : extO xs ys = some zs) (hρ : (giv kl k ρ).1.set i (some (.list (zs.map e), mutM m (giv kl k ρ).2)) = ρ1) :
    VS K Wx (i :: kl) (tDrop (tBM K "list" rExtend (tVar i) (tCons te tNil))) (pE ρ (some (.nx ρ1))) := (vs_extend kl i h).at (by
  unfold extO at ha
  split at ha
  case isFalse => cases ha
  rename_i hl
  cases ha
  unfold sExt
  rw [pE_same, Option.bind_some]
  simp only
  rw [own_at hx hm hk, Option.bind_some, List.length_map, List.length_map, if_pos hl, ← hρ]
  simp [mutE])
theorem s_idx (kl : List Nat) (i : Nat) {xs zs : List α} {x : α} {j : Int} (h : PV K te ρ (e x) k) (hj : PV K ti ρ (.int j) k2) (hx : ρ[i]? = some (some (.list (xs.map e), m))) (hm : m = 1 ∨ m = 2) (hk : k.src.contains i = false) (ha : setO xs j x = some zs) (hρ : (giv kl k ρ).1.set i (some (.list (zs.map e), mutM m (giv kl k ρ).2)) = ρ1) :
    VS K Wx (i :: kl) (tAsg te (gSub (tVar i) ti rSetL)) (pE ρ (some (.nx ρ1))) := (vs_idx kl i h hj).at (by
  obtain ⟨n, h1, rfl⟩ := Option.map_eq_some_iff.mp ha
  unfold sIdx
  rw [pE_same, pE_same, Option.bind_some, Option.bind_some]
  simp only
  rw [own_at hx hm hk, Option.bind_some, List.length_map, h1, ← hρ]
  simp [mutE, List.map_set])
def set2O (xs : List (List α)) (a b : Int) (v : α) : Option (List (List α)) := (atI xs a).bind fun ys => (setO ys b v).bind fun zs => setO xs a zs
def ap2O (xs : List (List α)) (a : Int) (v : α) : Option (List (List α)) := (atI xs a).bind fun ys => (appO ys v).bind fun zs => setO xs a zs
theorem ownA_at (h : ρ[i]? = some (some (d, 2))) (hk : k.src.contains i = false) (hg : (giv kl k ρ).2 = 2) : ownA i kl k ρ = some d := by
  unfold ownA
  rw [h]
  simp only
  rw [if_pos ⟨trivial, by simpa using hk, hg⟩]
theorem inner_at {xs : List (List α)} {a : Int} {ys : List α} {n : Nat} (h1 : ixN xs.length a = some n) (h2 : xs[n]? = some ys) : inner (.list (xs.map fun ys => PyData.list (ys.map e))) a = some (n, ys.map e) := by
  unfold inner
  simp only [List.length_map]
  rw [h1]
  simp [h2]
theorem atI_ix {xs : List α} {a : Int} {x : α} (h : atI xs a = some x) : ∃ n, ixN xs.length a = some n ∧ xs[n]? = some x := Option.bind_eq_some_iff.mp h
theorem s_idx2 (kl : List Nat) (i : Nat) {xs zs : List (List α)} {x : α} {a b : Int} (h : PV K te ρ (e x) k) (ha : PV K ta ρ (.int a) k2) (hb : PV K ti ρ (.int b) k3) (hx : ρ[i]? = some (some (.list (xs.map (EL e)), 2))) (hk : k.src.contains i = false) (hg : (giv kl k ρ).2 = 2) (hs : set2O xs a b x = some zs) (hρ : (giv kl k ρ).1.set i (some (.list (zs.map (EL e)), 2)) = ρ1) :
    VS K Wx (i :: kl) (tAsg te (gSub (tOp (rIx K) (tVar i) ta) ti rSetL)) (pE ρ (some (.nx ρ1))) := (vs_idx2 kl i h ha hb).at (by
  obtain ⟨ys, h1, h2⟩ := Option.bind_eq_some_iff.mp hs
  obtain ⟨ws, h3, h4⟩ := Option.bind_eq_some_iff.mp h2
  obtain ⟨n, h5, h6⟩ := atI_ix h1
  obtain ⟨p, h7, rfl⟩ := Option.map_eq_some_iff.mp h3
  obtain ⟨n', h8, rfl⟩ := Option.map_eq_some_iff.mp h4
  rw [h5] at h8
  cases h8
  unfold sIdx2
  rw [pE_same, pE_same, pE_same, Option.bind_some, Option.bind_some, Option.bind_some]
  simp only
  rw [ownA_at hx hk hg, Option.bind_some, inner_at (e := e) h5 h6, Option.bind_some]
  simp only [List.length_map]
  rw [h7, ← hρ]
  simp [mutIn, putIn, List.map_set, EL])
theorem s_app2 (kl : List Nat) (i : Nat) {xs zs : List (List α)} {x : α} {a : Int} (h : PV K te ρ (e x) k) (ha : PV K ta ρ (.int a) k2) (hx : ρ[i]? = some (some (.list (xs.map (EL e)), 2))) (hk : k.src.contains i = false) (hg : (giv kl k ρ).2 = 2) (hs : ap2O xs a x = some zs) (hρ : (giv kl k ρ).1.set i (some (.list (zs.map (EL e)), 2)) = ρ1) :
    VS K Wx (i :: kl) (tDrop (tBM K "list" rAppend (tOp (rIx K) (tVar i) ta) (tCons te tNil))) (pE ρ (some (.nx ρ1))) := (vs_app2 kl i h ha).at (by
  obtain ⟨ys, h1, h2⟩ := Option.bind_eq_some_iff.mp hs
  obtain ⟨ws, h3, h4⟩ := Option.bind_eq_some_iff.mp h2
  obtain ⟨n, h5, h6⟩ := atI_ix h1
  obtain ⟨hl, rfl⟩ := appO_of h3
  obtain ⟨n', h8, rfl⟩ := Option.map_eq_some_iff.mp h4
  rw [h5] at h8
  cases h8
  unfold sApp2
  rw [pE_same, pE_same, Option.bind_some, Option.bind_some]
  simp only
  rw [ownA_at hx hk hg, Option.bind_some, inner_at (e := e) h5 h6, Option.bind_some]
  simp only [List.length_map]
  rw [if_pos hl, ← hρ]
  simp [mutIn, putIn, List.map_set, EL])
/-- .. of a written tuple's list -/
theorem s_app2D (kl : List Nat) (i : Nat) {n : Nat} {ys : List α} {zs : List α} {x : α} {a : Int} (h : PV K te ρ (e x) k) (ha : PV K ta ρ (.int a) k2) (hx : ρ[i]? = some (some (d, 2))) (hk : k.src.contains i = false) (hg : (giv kl k ρ).2 = 2) (hin : inner d a = some (n, ys.map e)) (hs : appO ys x = some zs) (hρ : (giv kl k ρ).1.set i (some (putIn d n (.list (zs.map e)), 2)) = ρ1) :
    VS K Wx (i :: kl) (tDrop (tBM K "list" rAppend (tOp (rIx K) (tVar i) ta) (tCons te tNil))) (pE ρ (some (.nx ρ1))) := (vs_app2 kl i h ha).at (by
  obtain ⟨hl, rfl⟩ := appO_of hs
  unfold sApp2
  rw [pE_same, pE_same, Option.bind_some, Option.bind_some]
  simp only
  rw [ownA_at hx hk hg, Option.bind_some, hin, Option.bind_some]
  simp only [List.length_map]
  rw [if_pos hl, ← hρ]
  simp [mutIn])
theorem s_aug {x y : Int} {fn : Int → Int → Int} (i : Nat) (h : PV K te ρ (.int y) k) (hx : ρ[i]? = some (some (.int x, m))) (hρ : ρ.set i (some (.int (fn x y), 2)) = ρ1) : VS K Wx [i] (tAug i te (ipI fn)) (pE ρ (some (.nx ρ1))) := (vs_aug i h).at (by
  unfold sAug
  rw [hx]
  simp only
  rw [pE_same, Option.bind_some]
  simp only
  rw [hρ])
theorem s_drop (h : PV K te ρ d k) : VS K Wx ([] : List Nat) (tDrop te) (pE ρ (some (.nx ρ))) := (vs_drop h).at (by
  unfold sDrop
  rw [pE_same]
  rfl)
def spoilO (xs : List (List α)) (c : α) : Option (List (List α)) := if xs.all (fun ys => decide (ys.length < 1000000)) = true then some (xs.map fun ys => ys ++ [c]) else none
theorem s_spoil (i j : Nat) {c : V} {x : α} {xs zs : List (List α)} (hc : rpC c (e x)) (hx : ρ[i]? = some (some (.list (xs.map (EL e)), 2))) (hij : i ≠ j) (hj : Nat.blt j ρ.length = true) (hs : spoilO xs x = some zs) (hρ : (ρ.set j none).set i (some (.list (zs.map (EL e)), 2)) = ρ1) :
    VS K Wx [i, j] (tFor (iAny K (tVar i)) (gName j) (tDrop (tBM K "list" rAppend (tVar j) (tCons (tC c) tNil)))) (pE ρ (some (.nx ρ1))) := (vs_spoil i j hc).at (by
  unfold spoilO at hs
  split at hs
  case isFalse => cases hs
  rename_i hl
  cases hs
  unfold sSpoil
  rw [hx]
  simp only
  have hs : (xs.map (EL e)).all shortL = true := by
    rw [List.all_map]
    rw [List.all_eq_true] at hl ⊢
    intro y hy
    have := hl y hy
    simpa [shortL, EL] using this
  rw [if_pos ⟨trivial, hs, hij, by simpa using hj⟩, ← hρ]
  simp [spoilD, EL, Function.comp_def])
theorem s_ret {r : Nat} (h : PV K te ρ d k) (hr : rk k = r) : VS K Wx ([] : List Nat) (tRet te) (pE ρ (some (.rt d r))) := (vs_ret h).at (by
  unfold sRet
  rw [pE_same, ← hr]
  rfl)
theorem s_ret0 (h : PV K te ρ d k) : VS K Wx ([] : List Nat) (tRet te) (pE ρ (some (.rt d 0))) := s_ret (h.bo k.src (by simp)) rfl
theorem s_ret1 (h : PV K te ρ d k) (hk : k = .mv []) (hl : isLst d = true) : VS K Wx ([] : List Nat) (tRet te) (pE ρ (some (.rt d 1))) := s_ret (h.kd (k' := .sp []) (by subst hk; exact .ms hl)) rfl
theorem s_retN : VS K Wx ([] : List Nat) tRetN (pE ρ (some (.rt .none 2))) := VS.at vs_retN rfl
/-! ### loops -/
variable {wi : TI} {g : TG} {st : SG} {kc : Kd} {xs : List α} {E : τ → Env} {s0 : τ}
theorem l_flat [Flat e] {ρ' : Env} (ha : apart kc.src (ns ++ wb) = true) (l : LessE ρ ρ') : LessE (if flatL (xs.map e) = true ∧ apart kc.src (ns ++ wb) = true then ρ else dem kc.src ρ) ρ' := by
  rw [if_pos ⟨flatL_map, ha⟩]
  exact l
theorem l_dem {ds : List PyData} {ρ' : Env} (l : LessE (dem kc.src ρ) ρ') : LessE (if flatL ds = true ∧ apart kc.src (ns ++ wb) = true then ρ else dem kc.src ρ) ρ' := by
  split
  · exact LessE.dem.trans l
  · exact l
theorem s_forO {f : τ → α → Option τ} (E1 : τ → α → Env) (hi : PI' K wi ρ (xs.map e) kc) (hg : VG K ns g st) (h0 : LessE (if flatL (xs.map e) = true ∧ apart kc.src (ns ++ wb) = true then ρ else dem kc.src ρ) (E s0)) (hst : ∀ s x, st (e x) (E s) = some (E1 s x))
    (hb : ∀ s x, x ∈ xs → TB K Wx wb tb (E1 s x) (f s x) (oN E)) : TB K Wx (ns ++ wb) (tFor wi g tb) ρ (loopO f xs s0) (oN E) := by
  let R : Env → Out → Prop := fun ρ' o => ∃ s x, x ∈ xs ∧ ρ' = E1 s x ∧ (f s x).map (oN E) = some o
  have hR : VSr K Wx wb tb R := fun B AF σ H ρ' Fs o S hr D p => by
    obtain ⟨s, x, hx, rfl, eo⟩ := hr
    exact hb s x hx B AF σ H _ Fs o S (pE_same.trans eo) D p
  have main : ∀ (ys : List α), (∀ y ∈ ys, y ∈ xs) → ∀ (s sf : τ) (ρ' : Env), LessE ρ' (E s) → loopO f ys s = some sf → LoopR st R (ys.map e) ρ' (.nx (E sf)) := by
    intro ys
    induction ys with
    | nil => intro _ s sf ρ' l h; cases h; exact ⟨_, l, rfl⟩
    | cons y ys ih =>
      intro hy s sf ρ' l h
      obtain ⟨s1, h1, h2⟩ := Option.bind_eq_some_iff.mp h
      exact ⟨E s, E1 s y, .nx (E s1), l, hst s y, ⟨s, y, hy y (List.mem_cons_self ..), rfl, by rw [h1]; rfl⟩, ih (fun z hz => hy z (List.mem_cons_of_mem _ hz)) s1 sf _ .refl h2⟩
  intro B AF σ H ρ' Fs o S eo D p
  obtain ⟨e0, e1⟩ := pE_some eo
  subst e0
  obtain ⟨sf, h1, rfl⟩ := Option.map_eq_some_iff.mp e1
  exact vs_forR hi hg hR B AF σ H _ Fs _ S ⟨xs.map e, kc, pE_same, main xs (fun _ h => h) s0 sf _ h0 h1⟩ D p
theorem s_forC {f : τ → α → Option (Ctl τ R)} {eR : R → PyData} {r : Nat} (E1 : τ → α → Env) (hi : PI' K wi ρ (xs.map e) kc) (hg : VG K ns g st) (h0 : LessE (if flatL (xs.map e) = true ∧ apart kc.src (ns ++ wb) = true then ρ else dem kc.src ρ) (E s0)) (hst : ∀ s x, st (e x) (E s) = some (E1 s x))
    (hb : ∀ s x, x ∈ xs → TB K Wx wb tb (E1 s x) (f s x) (oC E eR r)) : TB K Wx (ns ++ wb) (tFor wi g tb) ρ (loopC f xs s0) (oS E eR r) := by
  let R' : Env → Out → Prop := fun ρ' o => ∃ s x, x ∈ xs ∧ ρ' = E1 s x ∧ (f s x).map (oC E eR r) = some o
  have hR : VSr K Wx wb tb R' := fun B AF σ H ρ' Fs o S hr D p => by
    obtain ⟨s, x, hx, rfl, eo⟩ := hr
    exact hb s x hx B AF σ H _ Fs o S (pE_same.trans eo) D p
  have main : ∀ (ys : List α), (∀ y ∈ ys, y ∈ xs) → ∀ (s : τ) (sf : Res τ R) (ρ' : Env), LessE ρ' (E s) → loopC f ys s = some sf → LoopR st R' (ys.map e) ρ' (oS E eR r sf) := by
    intro ys
    induction ys with
    | nil => intro _ s sf ρ' l h; cases h; exact ⟨_, l, rfl⟩
    | cons y ys ih =>
      intro hy s sf ρ' l h
      obtain ⟨s1, h1, h2⟩ := Option.bind_eq_some_iff.mp h
      refine ⟨E s, E1 s y, oC E eR r s1, l, hst s y, ⟨s, y, hy y (List.mem_cons_self ..), rfl, by rw [h1]; rfl⟩, ?_⟩
      have hy' : ∀ z ∈ ys, z ∈ xs := fun z hz => hy z (List.mem_cons_of_mem _ hz)
      cases s1 with
      | nx s1 => exact ih hy' s1 sf _ .refl h2
      | ct s1 => exact ih hy' s1 sf _ .refl h2
      | bk s1 => cases h2; rfl
      | rt x => cases h2; rfl
  intro B AF σ H ρ' Fs o S eo D p
  obtain ⟨e0, e1⟩ := pE_some eo
  subst e0
  obtain ⟨sf, h1, rfl⟩ := Option.map_eq_some_iff.mp e1
  exact vs_forR hi hg hR B AF σ H _ Fs _ S ⟨xs.map e, kc, pE_same, main xs (fun _ h => h) s0 sf _ h0 h1⟩ D p
theorem s_whileO {c : τ → Option Bool} {f : τ → Option τ} (n : Nat) (h0 : LessE ρ (E s0)) (hc : ∀ s, TV K tc (E s) (c s)) (hb : ∀ s, TB K Wx wb tb (E s) (f s) (oN E)) : TB K Wx wb (tWhile tc tb) ρ (whileO c f n s0) (oN E) := by
  let Rc : Env → Bool → Prop := fun ρ' b => ∃ s, ρ' = E s ∧ c s = some b
  let R' : Env → Out → Prop := fun ρ' o => ∃ s, ρ' = E s ∧ (f s).map (oN E) = some o
  have hcR : VTr K tc Rc := fun B AF σ H ρ' Fs b S hr Q q => by
    obtain ⟨s, rfl, eo⟩ := hr
    exact hc s B AF σ H _ Fs b S (pE_same.trans eo) Q q
  have hR : VSr K Wx wb tb R' := fun B AF σ H ρ' Fs o S hr D p => by
    obtain ⟨s, rfl, eo⟩ := hr
    exact hb s B AF σ H _ Fs o S (pE_same.trans eo) D p
  have main : ∀ (n : Nat) (s sf : τ) (ρ' : Env), LessE ρ' (E s) → whileO c f n s = some sf → WhileR Rc R' n ρ' (.nx (E sf)) := by
    intro n
    induction n with
    | zero => intro s sf ρ' l h; cases h
    | succ n ih =>
      intro s sf ρ' l h
      obtain ⟨b, h1, h2⟩ := Option.bind_eq_some_iff.mp h
      refine ⟨E s, b, l, ⟨s, rfl, h1⟩, ?_⟩
      cases b with
      | true =>
        rw [if_pos rfl] at h2 ⊢
        obtain ⟨s1, h3, h4⟩ := Option.bind_eq_some_iff.mp h2
        exact ⟨.nx (E s1), ⟨s, rfl, by rw [h3]; rfl⟩, ih s1 sf _ .refl h4⟩
      | false =>
        rw [if_neg Bool.false_ne_true] at h2 ⊢
        cases h2
        rfl
  intro B AF σ H ρ' Fs o S eo D p
  obtain ⟨e0, e1⟩ := pE_some eo
  subst e0
  obtain ⟨sf, h1, rfl⟩ := Option.map_eq_some_iff.mp e1
  exact vs_whileR hcR hR B AF σ H _ Fs _ S ⟨n, main n s0 sf _ h0 h1⟩ D p
theorem s_whileC {c : τ → Option Bool} {f : τ → Option (Ctl τ R)} {eR : R → PyData} {r : Nat} (n : Nat) (h0 : LessE ρ (E s0)) (hc : ∀ s, TV K tc (E s) (c s)) (hb : ∀ s, TB K Wx wb tb (E s) (f s) (oC E eR r)) : TB K Wx wb (tWhile tc tb) ρ (whileC c f n s0) (oS E eR r) := by
  let Rc : Env → Bool → Prop := fun ρ' b => ∃ s, ρ' = E s ∧ c s = some b
  let R' : Env → Out → Prop := fun ρ' o => ∃ s, ρ' = E s ∧ (f s).map (oC E eR r) = some o
  have hcR : VTr K tc Rc := fun B AF σ H ρ' Fs b S hr Q q => by
    obtain ⟨s, rfl, eo⟩ := hr
    exact hc s B AF σ H _ Fs b S (pE_same.trans eo) Q q
  have hR : VSr K Wx wb tb R' := fun B AF σ H ρ' Fs o S hr D p => by
    obtain ⟨s, rfl, eo⟩ := hr
    exact hb s B AF σ H _ Fs o S (pE_same.trans eo) D p
  have main : ∀ (n : Nat) (s : τ) (sf : Res τ R) (ρ' : Env), LessE ρ' (E s) → whileC c f n s = some sf → WhileR Rc R' n ρ' (oS E eR r sf) := by
    intro n
    induction n with
    | zero => intro s sf ρ' l h; cases h
    | succ n ih =>
      intro s sf ρ' l h
      obtain ⟨b, h1, h2⟩ := Option.bind_eq_some_iff.mp h
      refine ⟨E s, b, l, ⟨s, rfl, h1⟩, ?_⟩
      cases b with
      | true =>
        rw [if_pos rfl] at h2 ⊢
        obtain ⟨s1, h3, h4⟩ := Option.bind_eq_some_iff.mp h2
        refine ⟨oC E eR r s1, ⟨s, rfl, by rw [h3]; rfl⟩, ?_⟩
        cases s1 with
        | nx s1 => exact ih s1 sf _ .refl h4
        | ct s1 => exact ih s1 sf _ .refl h4
        | bk s1 => cases h4; rfl
        | rt x => cases h4; rfl
      | false =>
        rw [if_neg Bool.false_ne_true] at h2 ⊢
        cases h2
        rfl
  intro B AF σ H ρ' Fs o S eo D p
  obtain ⟨e0, e1⟩ := pE_some eo
  subst e0
  obtain ⟨sf, h1, rfl⟩ := Option.map_eq_some_iff.mp e1
  exact vs_whileR hcR hR B AF σ H _ Fs _ S ⟨n, main n s0 sf _ h0 h1⟩ D p
/-! ### comprehensions -/
theorem lc_run {e' : β → PyData} {c : α → Option Bool} {f : α → Option β} {E1 : α → Env} {ke : Kd} {vs : List Nat} {Rt : Env → Bool → Prop} {Re : Env → PyData × Kd → Prop} {ρi : Env} (hst : ∀ x, st (e x) ρi = some (E1 x)) (ht : ∀ x b, c x = some b → Rt (E1 x) b) (he : ∀ x y, f x = some y → Re (E1 x) (e' y, ke)) :
    ∀ (xs : List α) (ys : List β), filO c f xs = some ys → ∃ am L, LcRel ns st Rt Re ρi (xs.map e) (ys.map e', am, L) ∧ (isMv ke = true → am = true) ∧ ∀ i ∈ L, i ∈ ke.src.filter fun i => !ns.contains i
  | [], ys, h => by cases h; exact ⟨true, [], rfl, fun _ => rfl, fun i hi => nomatch hi⟩
  | x :: xs, ys, h => by
    obtain ⟨b, h1, h2⟩ := Option.bind_eq_some_iff.mp h
    cases b with
    | false =>
      rw [if_neg Bool.false_ne_true] at h2
      obtain ⟨am, L, a1, a2, a3⟩ := lc_run (ke := ke) (vs := vs) hst ht he xs ys h2
      exact ⟨am, L, ⟨E1 x, hst x, false, ht x _ h1, a1⟩, a2, a3⟩
    | true =>
      rw [if_pos rfl] at h2
      obtain ⟨y, h3, h4⟩ := Option.bind_eq_some_iff.mp h2
      obtain ⟨zs, h5, h6⟩ := Option.bind_eq_some_iff.mp h4
      cases h6
      obtain ⟨am, L, a1, a2, a3⟩ := lc_run (ke := ke) (vs := vs) hst ht he xs zs h5
      refine ⟨isMv ke && am, (ke.src.filter fun i => !ns.contains i) ++ L, ⟨E1 x, hst x, true, ht x _ h1, ?_⟩, fun z => by rw [z, a2 z]; rfl, fun i hi => (List.mem_append.mp hi).elim id (a3 i)⟩
      rw [if_pos rfl]
      exact ⟨_, _, he x y h3, a1, rfl⟩
theorem p_lcG {e' : β → PyData} {c : α → Option Bool} {f : α → Option β} {ys : List β} {ke : Kd} {vs : List Nat} {tt : TT} {un : Unit} (E1 : α → Env) (hi : PI' K wi ρ (xs.map e) kc) (hg : VG K ns g st) (hst : ∀ x, st (e x) (wipeE (zeroE ρ) vs) = some (E1 x)) (ht : ∀ x, x ∈ xs → TV K tt (E1 x) (c x)) (he : ∀ x, x ∈ xs → EV K te (E1 x) (f x) e' ke)
    (hl : chk (decide (xs.length ≤ 1000000)) = some un) (h : filO c f xs = some ys) (hv : ∀ i ∈ ns, i ∈ vs) {kr : Kd} (hk : ∀ (am : Bool) (L : List Nat), (isMv ke = true → am = true) → (∀ i ∈ L, i ∈ ke.src.filter fun i => !ns.contains i) → KLe (.list (ys.map e')) (if flatL (ys.map e') = true then .mv [] else if am = true then .mv [] else .sp (kc.src ++ L)) kr) : PV K (tLc wi g tt te vs) ρ (.list (ys.map e')) kr := by
  let Rt : Env → Bool → Prop := fun ρ' b => ∃ x, x ∈ xs ∧ ρ' = E1 x ∧ c x = some b
  let Re : Env → PyData × Kd → Prop := fun ρ' p => ∃ x, x ∈ xs ∧ ρ' = E1 x ∧ (f x).map (fun a => (e' a, ke)) = some p
  have htR : VTr K tt Rt := fun B AF σ H ρ' Fs b S hr Q q => by
    obtain ⟨x, hx, rfl, eo⟩ := hr
    exact ht x hx B AF σ H _ Fs b S (pE_same.trans eo) Q q
  have heR : VEr K te Re := fun B AF σ H ρ' Fs d k S hr Q q => by
    obtain ⟨x, hx, rfl, eo⟩ := hr
    exact he x hx B AF σ H _ Fs d k S (pE_same.trans eo) Q q
  have hmem : ∀ (zs : List α), (∀ z ∈ zs, z ∈ xs) → ∀ (ys : List β), filO c f zs = some ys → ∃ am L, LcRel ns st Rt Re (wipeE (zeroE ρ) vs) (zs.map e) (ys.map e', am, L) ∧ (isMv ke = true → am = true) ∧ ∀ i ∈ L, i ∈ ke.src.filter fun i => !ns.contains i := by
    intro zs
    induction zs with
    | nil => intro _ ys h; cases h; exact ⟨true, [], rfl, fun _ => rfl, fun i hi => nomatch hi⟩
    | cons x zs ih =>
      intro hz ys h
      have hx := hz x (List.mem_cons_self ..)
      have hz' : ∀ z ∈ zs, z ∈ xs := fun z q => hz z (List.mem_cons_of_mem _ q)
      obtain ⟨b, h1, h2⟩ := Option.bind_eq_some_iff.mp h
      cases b with
      | false =>
        rw [if_neg Bool.false_ne_true] at h2
        obtain ⟨am, L, a1, a2, a3⟩ := ih hz' ys h2
        exact ⟨am, L, ⟨E1 x, hst x, false, ⟨x, hx, rfl, h1⟩, a1⟩, a2, a3⟩
      | true =>
        rw [if_pos rfl] at h2
        obtain ⟨y, h3, h4⟩ := Option.bind_eq_some_iff.mp h2
        obtain ⟨ws, h5, h6⟩ := Option.bind_eq_some_iff.mp h4
        cases h6
        obtain ⟨am, L, a1, a2, a3⟩ := ih hz' ws h5
        refine ⟨isMv ke && am, (ke.src.filter fun i => !ns.contains i) ++ L, ⟨E1 x, hst x, true, ⟨x, hx, rfl, h1⟩, ?_⟩, fun z => by rw [z, a2 z]; rfl, fun i hi => (List.mem_append.mp hi).elim id (a3 i)⟩
        rw [if_pos rfl]
        exact ⟨_, _, ⟨x, hx, rfl, by rw [h3]; rfl⟩, a1, rfl⟩
  obtain ⟨am, L, a1, a2, a3⟩ := hmem xs (fun _ q => q) ys h
  have hl' : xs.length ≤ 1000000 := by simpa using chk_some hl
  intro B AF σ H ρ' Fs d k S eo Q q
  obtain ⟨e0, e1⟩ := pE_some eo
  subst e0
  cases e1
  refine ve_lcR hi hg htR heR hv B AF σ H _ Fs _ _ S ⟨xs.map e, kc, pE_same, by rw [List.length_map]; exact hl', _, a1, rfl⟩ Q fun v H' F gr r o => q v H' F gr r ((hk am L a2 a3).kv r o)
theorem lk_flat {e' : β → PyData} [Flat e'] {ys : List β} {P : Bool → List Nat → Kd} {am : Bool} {L : List Nat} : KLe (.list (ys.map e')) (if flatL (ys.map e') = true then .mv [] else P am L) (.mv []) := by
  rw [if_pos flatL_map]
  exact .refl
section
variable {e' : β → PyData} {c : α → Option Bool} {f : α → Option β} {ys : List β} {ke : Kd} {vs : List Nat} {tt : TT} {un : Unit}
theorem p_lcF [Flat e'] (E1 : α → Env) (hi : PI' K wi ρ (xs.map e) kc) (hg : VG K ns g st) (hst : ∀ x, st (e x) (wipeE (zeroE ρ) vs) = some (E1 x)) (ht : ∀ x, x ∈ xs → TV K tt (E1 x) (c x)) (he : ∀ x, x ∈ xs → EV K te (E1 x) (f x) e' ke)
    (hl : chk (decide (xs.length ≤ 1000000)) = some un) (h : filO c f xs = some ys) (hv : ∀ i ∈ ns, i ∈ vs) : PV K (tLc wi g tt te vs) ρ (.list (ys.map e')) (.mv []) :=
  p_lcG E1 hi hg hst ht he hl h hv fun am L _ _ => by rw [if_pos flatL_map]; exact .refl
theorem p_lcM {Lm : List Nat} (E1 : α → Env) (hi : PI' K wi ρ (xs.map e) kc) (hg : VG K ns g st) (hst : ∀ x, st (e x) (wipeE (zeroE ρ) vs) = some (E1 x)) (ht : ∀ x, x ∈ xs → TV K tt (E1 x) (c x)) (he : ∀ x, x ∈ xs → EV K te (E1 x) (f x) e' (.mv Lm))
    (hl : chk (decide (xs.length ≤ 1000000)) = some un) (h : filO c f xs = some ys) (hv : ∀ i ∈ ns, i ∈ vs) : PV K (tLc wi g tt te vs) ρ (.list (ys.map e')) (.mv []) :=
  p_lcG E1 hi hg hst ht he hl h hv fun am L a _ => by
    split
    · exact .refl
    · rw [if_pos (a rfl)]; exact .refl
theorem p_lcS (M : List Nat) (E1 : α → Env) (hi : PI' K wi ρ (xs.map e) kc) (hg : VG K ns g st) (hst : ∀ x, st (e x) (wipeE (zeroE ρ) vs) = some (E1 x)) (ht : ∀ x, x ∈ xs → TV K tt (E1 x) (c x)) (he : ∀ x, x ∈ xs → EV K te (E1 x) (f x) e' ke)
    (hl : chk (decide (xs.length ≤ 1000000)) = some un) (h : filO c f xs = some ys) (hv : ∀ i ∈ ns, i ∈ vs) (hs : (kc.src ++ ke.src.filter fun i => !ns.contains i).all M.contains = true) : PV K (tLc wi g tt te vs) ρ (.list (ys.map e')) (.sp M) :=
  p_lcG E1 hi hg hst ht he hl h hv fun am L _ a => by
    split
    · exact .ms rfl
    · split
      · exact .ms rfl
      · refine .ss ?_
        rw [List.all_eq_true] at hs ⊢
        intro i hi
        refine hs i ?_
        rcases List.mem_append.mp hi with z | z
        · exact List.mem_append_left _ z
        · exact List.mem_append_right _ (a i z)
theorem filO_yes : filO (fun _ => some true) f xs = mapO f xs := by
  induction xs with
  | nil => rfl
  | cons x xs ih => simp only [filO, mapO, Option.bind_some, if_true, ih]
theorem filO_map1 {p : α → Bool} {g : α → β} : filO (fun x => some (p x)) (fun x => some (g x)) xs = some ((xs.filter p).map g) := filO_map (fun _ _ => rfl) (fun _ _ _ => rfl)
theorem mapO_map1 {g : α → β} : mapO (fun x => some (g x)) xs = some (xs.map g) := mapO_map fun _ _ => rfl
theorem filO_all {g : α → β} : filO (fun _ => some true) (fun x => some (g x)) xs = some (xs.map g) := filO_yes.trans mapO_map1
theorem t_yes : TV K tYes ρ (some true) := vt_yes.at rfl
end
/-! ### defs -/
/-- the promise of a def, told by a relation -/
def spR (K : PySem.W.Frag) (n : Nat) (R : List PyData → PyData × Nat → Prop) : Sp := fun vs H Q _ => ∃ ds F d r, ds.length = n ∧ RpL K H vs ds F ∧ R ds (d, r) ∧ ∀ v H' G, Grow H H' → Rp K H' v d G → ROk r H F v G → Q v H'
theorem spR_len {n : Nat} {R : List PyData → PyData × Nat → Prop} {vs : List V} {H : Hp} {Q : VK} {E : XK} (h : spR K n R vs H Q E) : vs.length = n := by
  obtain ⟨ds, F, d, r, h1, h2, _⟩ := h
  rw [h2.length]; exact h1
theorem spR_of {n : Nat} {R : List PyData → PyData × Nat → Prop} {vs : List V} {H : Hp} {Q : VK} {E : XK} (h : spR K n R vs H Q E) : ∃ ds p, R ds p ∧ spOf K n (fun ds' => if ds' = ds then some p else none) vs H Q E := by
  obtain ⟨ds, F, d, r, h1, h2, h3, q⟩ := h
  exact ⟨ds, (d, r), h3, ds, F, d, r, h1, h2, if_pos rfl, q⟩
end
section
variable {A Rt : Type} {K : PySem.W.Frag}
/-- what a plain program L tells of the arguments encs a -/
def RelT (encs : A → List PyData) (L : A → Option Rt) (e : Rt → PyData) (r : Nat) : List PyData → PyData × Nat → Prop := fun ds p => ∃ a x, ds = encs a ∧ L a = some x ∧ p = (e x, r)
structure Clr (P : Program) (w : World) (K : PySem.W.Frag) (mg : Str → Option Value) (base : Heap) (x : Str) (k n : Nat) (R : List PyData → PyData × Nat → Prop) : Prop where
  ex : ∃ (f : Addr) (fd : FuncData) (ps : List Str), FnOk P w K mg base CX0 k f fd ps (spR K n R) ∧ mg x = some (.ref f) ∧ PySem.W.keepIn K (.ref f) = true ∧ Binds K fd ps []
theorem pe_callR {X : Cx} {x : Str} {k j n : Nat} {m : List PyData → PyData × Nat → Prop} {e : Expr} {es : List Expr} {t : TA} {p pos : Pos} (C : Clr X.prog X.w X.K X.mg X.base x k n m) (hr : Room j X.A) (hj : k ≤ j) (ha : PA X (e :: es) t)
    (hg : Gl X x := by rfl) (hd : (x == ("__debug__" : Str)) = false := by decide) (he : starEach (e :: es) X.env = (false, eval e X.env) :: starEach es X.env := by rfl)
    (hp : (backTo pos (starEach es X.env)).any (·.1) = false := by rfl) : PE X (.Call (.Name x p) (e :: es) [] pos) (tCall (spR X.K n m) [] L2.E0 t) := by
  obtain ⟨f, fd, ps, F, h1, h2, h3⟩ := C.ex
  exact pe_call F (hr.mono hj) hg h1 h2 h3 .nil pass0 ha hd he hp
structure Ckr (P : Program) (w : World) (K : PySem.W.Frag) (mg : Str → Option Value) (base : Heap) (x : Str) (k n : Nat) (m : List PyData → PyData × Nat → Prop) (np : Nat) (ks : List Str) : Prop where
  ex : ∃ (f : Addr) (fd : FuncData) (ps : List Str), FnOk P w K mg base CX0 k f fd ps (spR K n m) ∧ mg x = some (.ref f) ∧ PySem.W.keepIn K (.ref f) = true ∧ KBn K fd ps np ks (fun us ws => us ++ ws) (fun vs zs => vs ++ zs)
theorem pe_callKR {X : Cx} {x : Str} {k j n np : Nat} {m : List PyData → PyData × Nat → Prop} {ks : List Str} {e : Expr} {es : List Expr} {kws : List Keyword} {t tk : TA} {p pos : Pos} (C : Ckr X.prog X.w X.K X.mg X.base x k n m np ks) (hr : Room j X.A) (hj : k ≤ j) (ha : PA X (e :: es) t) (hk : PK X kws tk)
    (hg : Gl X x := by rfl) (h1 : (backToKw pos (keywordEach kws X.env)).all (·.1.isSome) = true := by rfl) (h2 : (backToKw pos (keywordEach kws X.env)).filterMap (·.1) = ks := by rfl)
    (hd : (x == ("__debug__" : Str)) = false := by decide) (he : starEach (e :: es) X.env = (false, eval e X.env) :: starEach es X.env := by rfl)
    (hp : ((backTo pos (starEach (e :: es) X.env)).any (·.1) || (backToKw pos (keywordEach kws X.env)).any (·.1.isNone)) = false := by rfl) :
    PE X (.Call (.Name x p) (e :: es) kws pos) (tCallN np ks.length (spR X.K n m) (fun vs zs => vs ++ zs) L2.E0 t tk) := by
  obtain ⟨f, fd, ps, F, a1, a2, a3⟩ := C.ex
  exact pe_callN F (hr.mono hj) hg a1 a2 a3 pass0 ha hk h1 h2 hd he hp
variable {t tk : TA} {ρ : Env} {d : PyData} {ds es : List PyData} {k k2 : Kd} {n np nk : Nat} {encs : A → List PyData} {L : A → Option Rt} {e : Rt → PyData} {r : Nat} {E : XK}
theorem spOf_R {m : MF} {R : List PyData → PyData × Nat → Prop} (h : ∀ ds p, m ds = some p → R ds p) {vs : List V} {H : Hp} {Q : VK} (hs : spOf K n m vs H Q E) : spR K n R vs H Q E := by
  obtain ⟨ds, F, d, r, h1, h2, h3, q⟩ := hs
  exact ⟨ds, F, d, r, h1, h2, h _ _ h3, q⟩
theorem relT_one {a : A} {x : Rt} (hL : L a = some x) (hds : ds = encs a) : ∀ ds' p, (if ds' = ds then some (e x, r) else none) = some p → RelT encs L e r ds' p := by
  intro ds' p hp
  split at hp
  · rename_i q
    cases hp
    exact ⟨a, x, q.trans hds, hL, rfl⟩
  · cases hp
theorem p_callG {a : A} {x : Rt} (hL : L a = some x) (ha : PA' K t ρ ds k) (hds : ds = encs a) (hn : ds.length = n) : PV K (tCall (spR K n (RelT encs L e r)) [] E t) ρ (e x) (calK (e x) r k) := by
  intro B AF σ H ρ' Fs d k' S eo Q q
  obtain ⟨e0, e1⟩ := pE_some eo
  subst e0
  cases e1
  refine ha B AF σ H _ Fs ds k S pE_same _ fun vs H1 F g1 r1 o1 => ?_
  have := vf_call (n := n) (m := fun ds' => if ds' = ds then some (e x, r) else none) (E := E) _ Fs H H1 vs ds F k (e x) (calK (e x) r k) g1 r1 o1 (by simp [gCall, hn]) Q fun v H3 G' g3 r3 o3 => q v H3 G' (g1.trans g3) r3 o3
  exact spOf_R (relT_one hL hds) this
theorem p_callNG {a : A} {x : Rt} (hL : L a = some x) (ha : PA' K t ρ ds k) (hk : PA' K tk ρ es k2) (hds : ds ++ es = encs a) (hp : ds.length = np) (hq : es.length = nk) (hn : (ds ++ es).length = n) : PV K (tCallN np nk (spR K n (RelT encs L e r)) (fun vs zs => vs ++ zs) E t tk) ρ (e x) (calK (e x) r (aj k k2)) := by
  intro B AF σ H ρ' Fs d k' S eo Q q
  obtain ⟨e0, e1⟩ := pE_some eo
  subst e0
  cases e1
  refine ha B AF σ H _ Fs ds k S pE_same _ fun vs H1 F g1 r1 o1 => ?_
  refine hk B AF σ H1 _ Fs es k2 (S.grow g1) pE_same _ fun zs H2 G g2 r2 o2 => ⟨by rw [r1.length]; exact hp, by rw [r2.length]; exact hq, ?_⟩
  have := vf_call (n := n) (m := fun ds' => if ds' = ds ++ es then some (e x, r) else none) (E := E) _ Fs H H2 (vs ++ zs) (ds ++ es) (F ++ G) (aj k k2) (e x) (calK (e x) r (aj k k2)) (g1.trans g2) (RpL.app (r1.grow g2) r2) (KO.join S g1 o1 (fun a ha => r1.stn ha) o2) (by
    simp only [gCall, hn, if_true, Option.map_some]) Q fun v H3 G' g3 r3 o3 => q v H3 G' ((g1.trans g2).trans g3) r3 o3
  simp only [List.append_nil] at this
  exact spOf_R (relT_one hL hds) this
/-- a flat answer -/
theorem p_callF [Flat e] {a : A} {x : Rt} (hL : L a = some x) (ha : PA' K t ρ ds k) (hds : ds = encs a) (hn : ds.length = n) : PV K (tCall (spR K n (RelT encs L e r)) [] E t) ρ (e x) (.mv []) := (p_callG hL ha hds hn).flat (Flat.flat x)
theorem p_callNF [Flat e] {a : A} {x : Rt} (hL : L a = some x) (ha : PA' K t ρ ds k) (hk : PA' K tk ρ es k2) (hds : ds ++ es = encs a) (hp : ds.length = np) (hq : es.length = nk) (hn : (ds ++ es).length = n) : PV K (tCallN np nk (spR K n (RelT encs L e r)) (fun vs zs => vs ++ zs) E t tk) ρ (e x) (.mv []) := (p_callNG hL ha hk hds hp hq hn).flat (Flat.flat x)
theorem calK2 {d : PyData} {k : Kd} : calK d 2 k = .mv [] := by unfold calK; simp
/-- a new answer -/
theorem p_call2 {a : A} {x : Rt} (hL : L a = some x) (ha : PA' K t ρ ds k) (hds : ds = encs a) (hn : ds.length = n) : PV K (tCall (spR K n (RelT encs L e 2)) [] E t) ρ (e x) (.mv []) := by
  have := p_callG (r := 2) (e := e) (E := E) hL ha hds hn
  rwa [calK2] at this
theorem p_callN2 {a : A} {x : Rt} (hL : L a = some x) (ha : PA' K t ρ ds k) (hk : PA' K tk ρ es k2) (hds : ds ++ es = encs a) (hp : ds.length = np) (hq : es.length = nk) (hn : (ds ++ es).length = n) : PV K (tCallN np nk (spR K n (RelT encs L e 2)) (fun vs zs => vs ++ zs) E t tk) ρ (e x) (.mv []) := by
  have := p_callNG (r := 2) (e := e) (E := E) hL ha hk hds hp hq hn
  rwa [calK2] at this
theorem calK_any {d : PyData} {r : Nat} {k : Kd} {M : List Nat} (hs : k.src.all M.contains = true) : KLe d (calK d r k) (.bo M) := by
  unfold calK
  split
  · exact .any rfl
  · split
    · exact .any rfl
    · split <;> exact .any hs
theorem calK1 {d : PyData} {k : Kd} {M : List Nat} (hl : isLst d = true) (hs : k.src.all M.contains = true) : KLe d (calK d 1 k) (.sp M) := by
  unfold calK
  split
  · exact .ms hl
  · simp only [if_neg (show ¬ (1 = 2) by decide), if_true]
    exact .ss hs
theorem p_call1 {a : A} {x : Rt} (M : List Nat) (hL : L a = some x) (ha : PA' K t ρ ds k) (hds : ds = encs a) (hn : ds.length = n) (hl : isLst (e x) = true) (hs : k.src.all M.contains = true) : PV K (tCall (spR K n (RelT encs L e 1)) [] E t) ρ (e x) (.sp M) := (p_callG hL ha hds hn).kd (calK1 hl hs)
theorem p_call0 {a : A} {x : Rt} (M : List Nat) (hL : L a = some x) (ha : PA' K t ρ ds k) (hds : ds = encs a) (hn : ds.length = n) (hs : k.src.all M.contains = true) : PV K (tCall (spR K n (RelT encs L e r)) [] E t) ρ (e x) (.bo M) := (p_callG hL ha hds hn).kd (calK_any hs)
theorem aj_src' {k l : Kd} : (aj k l).src = k.src ++ l.src := by
  cases k <;> cases l <;> try rfl
  rw [aj_mm]
  split <;> rfl
theorem p_callN1 {a : A} {x : Rt} (M : List Nat) (hL : L a = some x) (ha : PA' K t ρ ds k) (hk : PA' K tk ρ es k2) (hds : ds ++ es = encs a) (hp : ds.length = np) (hq : es.length = nk) (hn : (ds ++ es).length = n) (hl : isLst (e x) = true) (hs : (k.src ++ k2.src).all M.contains = true) : PV K (tCallN np nk (spR K n (RelT encs L e 1)) (fun vs zs => vs ++ zs) E t tk) ρ (e x) (.sp M) := (p_callNG hL ha hk hds hp hq hn).kd (calK1 hl (by rw [aj_src']; exact hs))
theorem p_callN0 {a : A} {x : Rt} (M : List Nat) (hL : L a = some x) (ha : PA' K t ρ ds k) (hk : PA' K tk ρ es k2) (hds : ds ++ es = encs a) (hp : ds.length = np) (hq : es.length = nk) (hn : (ds ++ es).length = n) (hs : (k.src ++ k2.src).all M.contains = true) : PV K (tCallN np nk (spR K n (RelT encs L e r)) (fun vs zs => vs ++ zs) E t tk) ρ (e x) (.bo M) := (p_callNG hL ha hk hds hp hq hn).kd (calK_any (by rw [aj_src']; exact hs))
/-- a def's body -/
theorem body_T {Wx : WxT} {wr : List Nat} {ts : TS} {N : List Str} {m : Nat} {vs : List V} {H : Hp} {Q : VK} {E1 : A → Env} (h : ∀ a, TB K Wx wr ts (E1 a) (L a) (oR e r)) (hl : ∀ a, LessE (env0 m (encs a)) (E1 a)) (hs : spR K n (RelT encs L e r) vs H Q E) (hN : N.length = m) (hk : n ≤ m) :
    ts { nx := fun _ H' => Q .non H', rt := Q } (L2.start N vs) H := by
  obtain ⟨ds, p, ⟨a, x, rfl, h1, rfl⟩, hs⟩ := spR_of hs
  refine body_of (E := E) (f := pE (env0 m (encs a)) ((L a).map (oR e r))) (s_in (hl a) (h a)) (n := m) (k := n) ?_ hN hk
  obtain ⟨ds, F, d, r', h2, h3, h4, q⟩ := hs
  simp only at h4
  split at h4
  case isFalse => cases h4
  rename_i hd
  subst hd
  refine ⟨_, F, d, r', h2, h3, ?_, q⟩
  unfold mOf
  rw [pE_same, h1, ← h4]
  rfl
theorem law_T {Wx : WxT} {wr : List Nat} {tr : TS} {N : List Str} {i n : Nat} {vs : List V} {H : Hp} {Q : VK} {E1 : List Int → Env} {LL : List Int → Option Bool} (h : ∀ ds, TB K Wx wr tr (E1 ds) (LL ds) (oR PyData.bool 2)) (hs : spLaw K vs H Q E) (hn : n ≤ 1000) (hi : i < N.length) (h0 : 0 < N.length)
    (hl : ∀ ds, LessE ((List.replicate N.length none).set i (some (intsD ds, 2))) (E1 ds)) (hf : ∀ ds : List Int, Drawn n ds → LL ds = some true) :
    tSeq (tAsg (tCall (spDraws K) [] L2.E0 (tCons (tVar 0) (tCons (tC (.int (n : Nat))) tNil))) (gName i)) tr { nx := fun _ H' => Q .non H', rt := Q } (L2.start N vs) H := by
  refine law_draws (Wx := Wx) (wr := wr) (f := fun ρ => if ∃ ds, Drawn n ds ∧ ρ = (List.replicate N.length none).set i (some (intsD ds, 2)) then some (.rt (.bool true) 2) else none) ?_ hs hn hi h0 fun ds hd => if_pos ⟨ds, hd, rfl⟩
  intro B AF σ H ρ Fs o S eo D p
  simp only at eo
  split at eo
  case isFalse => cases eo
  rename_i hx
  obtain ⟨ds, hd, rfl⟩ := hx
  cases eo
  exact s_in (hl ds) (h ds) B AF σ H _ Fs _ S (by rw [pE_same, hf ds hd]; rfl) D p
theorem spR_none {n : Nat} {encs : A → List PyData} {L : A → Option Rt} {e : Rt → PyData} {r : Nat} {vs : List V} {H : Hp} {Q : VK} {E : XK} (h : spR K n (RelT encs L e r) vs H Q E) (h0 : ∀ a, L a = none) : False := by
  obtain ⟨ds, F, d, r', _, _, ⟨a, x, _, h1, _⟩, _⟩ := h
  rw [h0] at h1
  cases h1
end
end Va

/-! Vt6: targets; more of blocks. -/
namespace Va
open PySem L2 PyProof.Rows PySem.W PySem.Calls

/-- the target takes d: from ρ (or what tells more) to ρ' (or what tells more) -/
def TgJ (st : SG) (d : PyData) (ρ ρ' : Env) : Prop := ∀ ρ0, LessE ρ0 ρ → ∃ ρ1, st d ρ0 = some ρ1 ∧ LessE ρ1 ρ'
def TgJs (st : SGs) (ds : List PyData) (ρ ρ' : Env) : Prop := ∀ ρ0, LessE ρ0 ρ → ∃ ρ1, st ds ρ0 = some ρ1 ∧ LessE ρ1 ρ'
theorem LessE.set {ρ ρ' : Env} {i : Nat} {d : PyData} {m m' : Nat} (h : LessE ρ ρ') (hm : Mle d m' m) : LessE (ρ.set i (some (d, m))) (ρ'.set i (some (d, m'))) := by
  refine ⟨by simp [h.len], fun j e n q => ?_⟩
  rw [List.getElem?_set] at q
  split at q
  · rename_i hij
    subst hij
    split at q
    · rename_i hl
      cases q
      exact ⟨m, by rw [List.getElem?_set_self (by rw [← h.len]; exact hl)], hm⟩
    · cases q
  · rename_i hij
    obtain ⟨m0, h1, h2⟩ := h.le j e n q
    exact ⟨m0, by rw [List.getElem?_set_ne hij]; exact h1, h2⟩
section
variable {α : Type} {e : α → PyData} {st : SG} {sts : SGs} {d : PyData} {ds : List PyData} {ρ ρ1 ρ2 : Env} {i n : Nat}
theorem tj_n {m : Nat} (hm : m = 0 ∨ (m = 2 ∧ flat d = true)) (hi : Nat.blt i ρ.length = true) (h : ρ.set i (some (d, m)) = ρ1) : TgJ (tgN i) d ρ ρ1 := fun ρ0 l => by
  have hi' : i < ρ0.length := by rw [← l.len]; simpa using hi
  refine ⟨ρ0.set i (some (d, m02 d)), by rw [tgN_eq, if_pos hi'], ?_⟩
  rw [← h]
  refine l.set ?_
  rcases hm with rfl | ⟨rfl, hf⟩
  · exact .inr (.inl rfl)
  · unfold m02
    rw [if_pos hf]
    exact .inl rfl
theorem tj_0 (hi : Nat.blt i ρ.length = true) (h : ρ.set i (some (d, 0)) = ρ1) : TgJ (tgN i) d ρ ρ1 := tj_n (.inl rfl) hi h
theorem tj_2 [Flat e] {a : α} (hi : Nat.blt i ρ.length = true) (h : ρ.set i (some (e a, 2)) = ρ1) : TgJ (tgN i) (e a) ρ ρ1 := tj_n (.inr ⟨rfl, Flat.flat a⟩) hi h
theorem tj_T (h : TgJs sts ds ρ ρ1) (hn : ds.length = n) : TgJ (tgT n sts) (.tuple ds) ρ ρ1 := fun ρ0 l => by
  obtain ⟨ρ2, h1, h2⟩ := h ρ0 l
  exact ⟨ρ2, by rw [tgT_eq, if_pos hn]; exact h1, h2⟩
theorem tj_W (h : TgJs sts ds ρ ρ1) (hn : ds.length = n) : TgJ (tgT n sts) (.dict [(.none, .tuple ds)]) ρ ρ1 := fun ρ0 l => by
  obtain ⟨ρ2, h1, h2⟩ := h ρ0 l
  exact ⟨ρ2, by unfold tgT; simp only [if_pos hn]; exact h1, h2⟩
theorem tj_nil : TgJs tgNil [] ρ ρ := fun ρ0 l => ⟨ρ0, rfl, l⟩
theorem tj_cons (h1 : TgJ st d ρ ρ1) (h2 : TgJs sts ds ρ1 ρ2) : TgJs (tgCons st sts) (d :: ds) ρ ρ2 := fun ρ0 l => by
  obtain ⟨a, a1, a2⟩ := h1 ρ0 l
  obtain ⟨b, b1, b2⟩ := h2 a a2
  exact ⟨b, by rw [tgCons_eq, a1]; exact b1, b2⟩
theorem LessE.zero {ρ ρ' : Env} (l : LessE ρ ρ') : LessE (zeroE ρ) (zeroE ρ') := by
  refine ⟨by simp [zeroE, l.len], fun j e n q => ?_⟩
  obtain ⟨rfl, m, q⟩ := zero_get q
  obtain ⟨m0, h1, _⟩ := l.le j e m q
  refine ⟨0, ?_, .inl rfl⟩
  unfold zeroE
  rw [List.getElem?_map, h1]
  rfl
end
section
variable {α β τ R : Type} {K : PySem.W.Frag} {Wx : WxT} {wr wr' wb ns : List Nat} {ts t u v tb : TS} {te : TE} {tc : TT} {ρ ρ1 : Env} {out : β → Out} {d : PyData} {k : Kd} {e : α → PyData} {g : TG} {st : SG} {wi : TI} {kc : Kd} {xs : List α} {E : τ → Env} {s0 : τ}
theorem s_asgJ (hg : VG K ns g st) (h : PV K te ρ d k) (hs : TgJ st d (dem k.src ρ) ρ1) : VS K Wx ns (tAsg te g) (pE ρ (some (.nx ρ1))) := by
  obtain ⟨ρ2, h1, h2⟩ := hs _ .refl
  exact s_out (s_asgT hg h h1) h2
/-- if .. in the middle: the rest behind both ways -/
theorem s_ifD {b : Bool} {n1 n2 : Option β} (hc : PT' K tc ρ b) (h1 : b = true → TB K Wx wr (tSeq t v) ρ n1 out) (h2 : b = false → TB K Wx wr' (tSeq u v) ρ n2 out) : TB K Wx (wr ++ wr') (tSeq (tIfS tc t u) v) ρ (if b = true then n1 else n2) out := by
  intro B AF σ H ρ' Fs o S e D p
  obtain ⟨e0, e1⟩ := pE_some e
  subst e0
  refine hc B AF σ H _ Fs b S pE_same _ fun H1 g1 => ?_
  cases b with
  | true =>
    rw [if_pos rfl] at e1 ⊢
    exact h1 rfl B AF σ H1 _ Fs o (S.grow g1) (pE_same.trans e1) D (p.pre (Fr.grow (wr := []) g1) fun i hi => List.mem_append_left _ (by simpa using hi))
  | false =>
    rw [if_neg Bool.false_ne_true] at e1 ⊢
    exact h2 rfl B AF σ H1 _ Fs o (S.grow g1) (pE_same.trans e1) D (p.pre (Fr.grow (wr := []) g1) fun i hi => List.mem_append_right _ (by simpa using hi))
theorem s_assoc {o : Option Out} (h : VS K Wx wr (tSeq t (tSeq u v)) (pE ρ o)) : VS K Wx wr (tSeq (tSeq t u) v) (pE ρ o) := h
theorem s_forO' {f : τ → α → Option τ} (E1 : τ → α → Env) (hi : PI' K wi ρ (xs.map e) kc) (hg : VG K ns g st) (h0 : LessE (if flatL (xs.map e) = true ∧ apart kc.src (ns ++ wb) = true then ρ else dem kc.src ρ) (E s0)) (hst : ∀ s x, TgJ st (e x) (E s) (E1 s x))
    (hb : ∀ s x, x ∈ xs → TB K Wx wb tb (E1 s x) (f s x) (oN E)) : TB K Wx (ns ++ wb) (tFor wi g tb) ρ (loopO f xs s0) (oN E) := by
  have hF : ∀ s x, ∃ ρ1, st (e x) (E s) = some ρ1 ∧ LessE ρ1 (E1 s x) := fun s x => hst s x _ .refl
  exact s_forO (fun s x => Classical.choose (hF s x)) hi hg h0 (fun s x => (Classical.choose_spec (hF s x)).1) fun s x hx => s_in (Classical.choose_spec (hF s x)).2 (hb s x hx)
theorem s_forC' {f : τ → α → Option (Ctl τ R)} {eR : R → PyData} {r : Nat} (E1 : τ → α → Env) (hi : PI' K wi ρ (xs.map e) kc) (hg : VG K ns g st) (h0 : LessE (if flatL (xs.map e) = true ∧ apart kc.src (ns ++ wb) = true then ρ else dem kc.src ρ) (E s0)) (hst : ∀ s x, TgJ st (e x) (E s) (E1 s x))
    (hb : ∀ s x, x ∈ xs → TB K Wx wb tb (E1 s x) (f s x) (oC E eR r)) : TB K Wx (ns ++ wb) (tFor wi g tb) ρ (loopC f xs s0) (oS E eR r) := by
  have hF : ∀ s x, ∃ ρ1, st (e x) (E s) = some ρ1 ∧ LessE ρ1 (E1 s x) := fun s x => hst s x _ .refl
  exact s_forC (fun s x => Classical.choose (hF s x)) hi hg h0 (fun s x => (Classical.choose_spec (hF s x)).1) fun s x hx => s_in (Classical.choose_spec (hF s x)).2 (hb s x hx)
theorem LessE.kv {ρ ρ' : Env} {Fs : Nat → List Addr} {H : Hp} {v : V} {F : List Addr} {k : Kd} (l : LessE ρ ρ') (h : KV ρ' Fs H v F k) : KV ρ Fs H v F k := by
  have s1 : ∀ {L : List Nat} {a : Addr}, Src ρ' Fs L a → Src ρ Fs L a := fun ⟨i, hi, ⟨d, m, q⟩, ma⟩ => by
    obtain ⟨m0, h1, _⟩ := l.le i d m q
    exact ⟨i, hi, ⟨d, m0, h1⟩, ma⟩
  have s2 : ∀ {L : List Nat} {a : Addr}, Src2 ρ' Fs L a → Src2 ρ Fs L a := fun ⟨i, hi, ⟨d, q⟩, ma⟩ => by
    obtain ⟨m0, h1, h2⟩ := l.le i d 2 q
    rcases h2 with rfl | z | ⟨z, _⟩
    · exact ⟨i, hi, ⟨d, h1⟩, ma⟩
    · cases z
    · cases z
  refine ⟨?_, h.2⟩
  cases k with
  | mv L => exact ⟨h.1.1, fun a ha => (h.1.2 a ha).imp id s2⟩
  | sp L => exact fun a ha => (h.1 a ha).imp id s1
  | bo L => exact fun a ha => (h.1 a ha).imp id s1
theorem e_in {ρ ρ' : Env} {o : Option (PyData × Kd)} (l : LessE ρ ρ') (h : VE K te (pE ρ' o)) : VE K te (pE ρ o) := fun B AF σ H ρ0 Fs d k S eo Q q => by
  obtain ⟨e0, e1⟩ := pE_some eo
  subst e0
  exact h B AF σ H _ Fs d k (S.lessE l) (pE_same.trans e1) Q fun v H' F g r kv => q v H' F g r (l.kv kv)
theorem c_in {ρ ρ' : Env} {o : Option Bool} (l : LessE ρ ρ') (h : VT K tc (pE ρ' o)) : VT K tc (pE ρ o) := fun B AF σ H ρ0 Fs b S eo Q q => by
  obtain ⟨e0, e1⟩ := pE_some eo
  subst e0
  exact h B AF σ H _ Fs b (S.lessE l) (pE_same.trans e1) Q q
section
variable {e' : β → PyData} {c : α → Option Bool} {f : α → Option β} {ys : List β} {ke : Kd} {vs : List Nat} {tt : TT} {un : Unit} {Lm : List Nat}
theorem q_lcF [Flat e'] (E1 : α → Env) (hi : PI' K wi ρ (xs.map e) kc) (hg : VG K ns g st) (hst : ∀ x, TgJ st (e x) (wipeE (zeroE ρ) vs) (E1 x)) (ht : ∀ x, x ∈ xs → TV K tt (E1 x) (c x)) (he : ∀ x, x ∈ xs → EV K te (E1 x) (f x) e' ke)
    (hl : chk (decide (xs.length ≤ 1000000)) = some un) (h : filO c f xs = some ys) (hv : ∀ i ∈ ns, i ∈ vs) : PV K (tLc wi g tt te vs) ρ (.list (ys.map e')) (.mv []) := by
  have hF : ∀ x, ∃ ρ1, st (e x) (wipeE (zeroE ρ) vs) = some ρ1 ∧ LessE ρ1 (E1 x) := fun x => hst x _ .refl
  exact p_lcF (fun x => Classical.choose (hF x)) hi hg (fun x => (Classical.choose_spec (hF x)).1) (fun x hx => c_in (Classical.choose_spec (hF x)).2 (ht x hx)) (fun x hx => e_in (Classical.choose_spec (hF x)).2 (he x hx)) hl h hv
theorem q_lcM (E1 : α → Env) (hi : PI' K wi ρ (xs.map e) kc) (hg : VG K ns g st) (hst : ∀ x, TgJ st (e x) (wipeE (zeroE ρ) vs) (E1 x)) (ht : ∀ x, x ∈ xs → TV K tt (E1 x) (c x)) (he : ∀ x, x ∈ xs → EV K te (E1 x) (f x) e' (.mv Lm))
    (hl : chk (decide (xs.length ≤ 1000000)) = some un) (h : filO c f xs = some ys) (hv : ∀ i ∈ ns, i ∈ vs) : PV K (tLc wi g tt te vs) ρ (.list (ys.map e')) (.mv []) := by
  have hF : ∀ x, ∃ ρ1, st (e x) (wipeE (zeroE ρ) vs) = some ρ1 ∧ LessE ρ1 (E1 x) := fun x => hst x _ .refl
  exact p_lcM (fun x => Classical.choose (hF x)) hi hg (fun x => (Classical.choose_spec (hF x)).1) (fun x hx => c_in (Classical.choose_spec (hF x)).2 (ht x hx)) (fun x hx => e_in (Classical.choose_spec (hF x)).2 (he x hx)) hl h hv
theorem q_lcS (M : List Nat) (E1 : α → Env) (hi : PI' K wi ρ (xs.map e) kc) (hg : VG K ns g st) (hst : ∀ x, TgJ st (e x) (wipeE (zeroE ρ) vs) (E1 x)) (ht : ∀ x, x ∈ xs → TV K tt (E1 x) (c x)) (he : ∀ x, x ∈ xs → EV K te (E1 x) (f x) e' ke)
    (hl : chk (decide (xs.length ≤ 1000000)) = some un) (h : filO c f xs = some ys) (hv : ∀ i ∈ ns, i ∈ vs) (hs : (kc.src ++ ke.src.filter fun i => !ns.contains i).all M.contains = true) : PV K (tLc wi g tt te vs) ρ (.list (ys.map e')) (.sp M) := by
  have hF : ∀ x, ∃ ρ1, st (e x) (wipeE (zeroE ρ) vs) = some ρ1 ∧ LessE ρ1 (E1 x) := fun x => hst x _ .refl
  exact p_lcS M (fun x => Classical.choose (hF x)) hi hg (fun x => (Classical.choose_spec (hF x)).1) (fun x hx => c_in (Classical.choose_spec (hF x)).2 (ht x hx)) (fun x hx => e_in (Classical.choose_spec (hF x)).2 (he x hx)) hl h hv hs
end
end
section
variable {α β τ R : Type} {K : PySem.W.Frag} {Wx : WxT} {wr : List Nat} {ts : TS} {te : TE} {ρ : Env} {out : β → Out} {k : Kd} {e : α → PyData} {E E2 : τ → Env} {eR : R → PyData} {r : Nat}
theorem p_unO {o : Option α} {v : α} (h : o = some v) (D : PV K te ρ (EO e o) k) : PV K te ρ (e v) k := by
  subst h
  exact D
theorem fl_cons [Flat e] {a : α} {ds : List PyData} (h : flatL ds = true) : flatL (e a :: ds) = true := by simp [h, Flat.flat]
theorem s_lastO {c : Option τ} {n : τ → Option β} (h : TB K Wx wr ts ρ c (oN E)) (l : ∀ s, LessE (E s) (E2 s)) (hn : ∀ s, (n s).map out = some (.nx (E2 s)) := by intros; rfl) : TB K Wx wr ts ρ (c.bind n) out := by
  cases c with
  | none => exact h
  | some s =>
    show VS K Wx wr ts (pE ρ ((n s).map out))
    rw [hn s]
    exact s_out h (l s)
theorem s_lastR {c : Option (Res τ R)} {n : τ → Option β} {ret : R → Option β} (h : TB K Wx wr ts ρ c (oS E eR r)) (l : ∀ s, LessE (E s) (E2 s)) (hr : ∀ x, (ret x).map out = some (.rt (eR x) r)) (hn : ∀ s, (n s).map out = some (.nx (E2 s)) := by intros; rfl) : TB K Wx wr ts ρ (resK c n ret) out := by
  cases c with
  | none => exact h
  | some s =>
    cases s with
    | on s =>
      show VS K Wx wr ts (pE ρ ((n s).map out))
      rw [hn s]
      exact s_out h (l s)
    | rt x =>
      show VS K Wx wr ts (pE ρ ((ret x).map out))
      rw [hr x]
      exact h
/-- a loop that only a return leaves, at the end -/
theorem s_endR {c : Option (Res τ R)} (h : TB K Wx wr ts ρ c (oS E eR r)) : TB K Wx wr ts ρ (resK c (fun _ => none) some) (oR eR r) := by
  cases c with
  | none => exact h
  | some s =>
    cases s with
    | on s =>
      intro B AF σ H ρ' Fs d S eo D p
      obtain ⟨e0, e1⟩ := pE_some eo
      cases e1
    | rt x => exact h
theorem nb_res {c : Option (Res τ R)} {f : τ → Option β} {g : R → Option β} (h : ∀ s, NB (f s) out) (k : ∀ x, NB (g x) out) : NB (resK c f g) out := nb_bind fun x => by
  cases x with
  | on s => exact h s
  | rt y => exact k y
theorem LessE.f2 [Flat e] {a : α} {ρ ρ' : Env} (h : LessE ρ ρ') : LessE (some (e a, m02 (e a)) :: ρ) (some (e a, 2) :: ρ') := by
  unfold m02
  rw [if_pos (Flat.flat a)]
  exact h.s
end
end Va

/-! Vs1: t.index(x), sorted(set(t)), for tuples of ints. -/
namespace L2
open PySem PySem.Spec PyProof.Rows
section
variable {X : Cx} {o e : Expr} {es : List Expr} {to : TE} {t : TA} {name : Str} {apos cpos : Pos} {id : String} {r : V → List V → Hp → VK → Prop}
def tBMT (K : PySem.W.Frag) (r : V → List V → Hp → VK → Prop) (to : TE) (t : TA) : TE := fun σ H Q => to σ H fun x H1 => (∃ p xs, x = .ref p ∧ SqT K H1 p xs ∧ Va.NoD K H1 p) ∧ t σ H1 fun xs H2 => r x xs H2 Q
theorem pe_bmT (slot : Slot "tuple" name id) (hty : typeOf (.builtin id) = pure (.type "method_descriptor")) (hm : MtR X id r) (ho : PE X o to) (ha : PA X (e :: es) t)
    (hbase : attributeBase o name X.env (eval o X.env) = eval o X.env := by rfl)
    (hfew : ((backTo cpos (starEach (e :: es) X.env)).all (fun x => !x.1) && (backToKw cpos (keywordEach [] X.env)).all (fun x => x.1.isSome)
      && decide ((e :: es).length + ([] : List Keyword).length + (if ([] : List Keyword).isEmpty then 0 else 1) < 30)) = true := by rfl)
    (hline : (apos.endLine == cpos.line) = true := by rfl) (hs : starEach (e :: es) X.env = (false, eval e X.env) :: starEach es X.env := by rfl) (hplain : (backTo cpos (starEach es X.env)).any (·.1) = false := by rfl) :
    PE X (.Call (.Attribute o name apos) (e :: es) [] cpos) (tBMT X.K r to t) := by
  refine ⟨fun pins s σ H Q I h => ?_⟩
  refine wpAny_Call_method_late hbase hfew hline rfl (thn (ho.run pins s σ H _ I h) fun v s1 ⟨x, H1, I1, r1, ty, q1⟩ => ?_)
  obtain ⟨p, xs, rfl, hq, hn⟩ := ty
  cases r1
  obtain ⟨its, _, pt, _⟩ := I1.tuple hq
  have h1 : s1.TypeIs (.ref p) "tuple" := let ⟨o, ho, hc, _⟩ := pt; ⟨o, ho, hc⟩
  have h2 : ∀ a, Value.ref p = .ref a → ∃ ob, s1.heap.get? a = some ob ∧ ob.dict = none := fun a ea => by
    cases ea
    rcases hn with ⟨ob, u, e1, e2⟩ | ⟨ob, e1, e2⟩
    · exact ⟨ob, (I1.hok p _ e1).1, e2⟩
    · exact ⟨ob, I1.kIn p ob e1, e2⟩
  refine ⟨"tuple", id, PySem.F.plainAttrs_tuple, slot, hty, h1, h2, ?_⟩
  have hA := ha.run cpos pins s1 σ H1 _ I1 q1
  rw [hs] at hA ⊢
  refine Calls.callWith_builtin (by show (false || (backTo cpos (starEach es X.env)).any (·.1)) = false; rw [hplain] <;> rfl) (Calls.evalArgs_plain ?_)
  exact thn hA fun us s2 ⟨vs, H2, I2, r2, q2⟩ => hm pins s2 σ H2 (.ref p) vs (.ref p) us Q I2 rfl r2 q2
theorem flat_ints (ys : List Int) : (ys.map V.int).all flatV = true := by
  rw [List.all_map]
  exact List.all_eq_true.mpr fun _ _ => rfl
def rIdxI (K : PySem.W.Frag) : V → List V → Hp → VK → Prop := fun x xs H Q => ∃ p, ∃ ys : List Int, ∃ z j, x = .ref p ∧ xs = [.int z] ∧ SqT K H p (ys.map V.int) ∧ ys[j]? = some z ∧ (∀ m, m < j → ys[m]? ≠ some z) ∧ Q (.int (j : Nat)) H
theorem mt_tup_indexI : MtR X "tuple.index" (rIdxI X.K) := by
  intro pins s σ H x xs v us Q I rx rs h
  obtain ⟨p, ys, z, j, rfl, rfl, hq, hy, hno, q⟩ := h
  cases rx
  obtain ⟨u, rfl, t, rfl⟩ := vals1 rs
  obtain ⟨its, r, pl, hz⟩ := I.tuple hq
  obtain ⟨⟨cls, dd, dt, sl⟩, ho, hc, n, hd⟩ := pl
  simp only at hc hd
  subst hc
  subst hd
  have hl : its.toArray.size = ys.length := by rw [List.size_toArray, ← r.length, List.length_map]
  have hj : j < its.toArray.size := by rw [hl]; exact (List.getElem?_eq_some_iff.mp hy).1
  have at' : ∀ (m : Nat) (hm : m < its.toArray.size), ∃ y t', ys[m]? = some y ∧ its.toArray[m] = Value.int y t' := fun m hm => by
    have hm' : m < ys.length := by rw [← hl]; exact hm
    obtain ⟨w, hw, t', hw'⟩ := r.get (i := m) (x := .int ys[m]) (by simp [hm'])
    refine ⟨ys[m], t', List.getElem?_eq_getElem hm', ?_⟩
    have e := (List.getElem?_eq_some_iff.mp hw).2
    rw [← hw', ← e]
    simp
  refine call_meets PySem.F.slot_tuple_index ⟨_, ho, rfl⟩ PySem.F.entry_tuple_index (PySem.F.args_tuple_index_2 _ _) (TI.tuple_indexAt p its.toArray n dd sl (.int z t) (eqU (.int z)) j hj ?_ ?_)
    ⟨ho, fun w hw => mem_eqAt (x := .int z) ⟨t, rfl⟩ rfl r (flat_ints ys) w (by simpa using hw), ⟨.int (j : Nat), H, I.tok _, ⟨_, rfl⟩, q⟩⟩
  · obtain ⟨y, t', h1, h2⟩ := at' j hj
    rw [hy] at h1
    cases h1
    rw [h2]
    show (z == z) = true
    exact beq_self_eq_true z
  · intro m hm hmj
    obtain ⟨y, t', h1, h2⟩ := at' m hm
    rw [h2]
    show (y == z) = false
    exact beq_eq_false_iff_ne.mpr fun e => hno m hmj (e ▸ h1)
/-- set(t), t a tuple of ints -/
def rSetTI (K : PySem.W.Frag) (w : World) : List V → Hp → VK → Prop := fun xs H Q => ∃ (p : Addr) (ns : List Int), xs = [.ref p] ∧ SqT K H p (ns.map V.int) ∧ ns.length ≤ 1000 ∧
  ∀ (q : Addr) (c : Nat), H q = none → c ≤ ns.length → Q (.ref q) (upd H q (SetO w q (fun j => decide (j ∈ ns)) c))
theorem cr_setTI (hc : X.calm = true) : CallR X (.type "set") (rSetTI X.K X.w) := by
  intro pins s σ H xs us Q I r h
  obtain ⟨p, ns, rfl, hq, hl, q⟩ := h
  obtain ⟨u, rfl, rx⟩ := vals1 r
  cases rx
  obtain ⟨its, rv, pt, hz⟩ := I.tuple hq
  have hi : IntsAre its.toArray.toList ns := ints_of_vals rv
  refine call_set_tupI ns (I.ok.hd hc) (show s.heap.IsTuple p its.toArray from pt) hi (by unfold scanBound; omega) fun h' tk c R1 hcn k => ?_
  exact ⟨.ref _, upd H s.heap.objs.size (SetO X.w s.heap.objs.size (fun j => decide (j ∈ ns)) c), I.laid (t' := tk) (fun b u e => k b u e) (Nat.le_refl _) (setO_new R1), rfl, q _ _ (I.hok.fresh (Nat.le_refl _)) hcn⟩
end
end L2
namespace Va
open PySem L2 PyProof.Rows PySem.W PySem.Calls
def idxO (xs : List Int) (x : Int) : Option Int := match xs with
  | [] => none
  | y :: ys => if y = x then some 0 else (idxO ys x).map fun i => i + 1
theorem idxO_some : ∀ {xs : List Int} {x i : Int}, idxO xs x = some i → ∃ j : Nat, i = j ∧ xs[j]? = some x ∧ ∀ m, m < j → xs[m]? ≠ some x
  | [], x, i, h => by cases h
  | y :: ys, x, i, h => by
    unfold idxO at h
    split at h
    · rename_i e
      cases h
      exact ⟨0, rfl, by rw [e]; rfl, fun m hm => absurd hm (Nat.not_lt_zero _)⟩
    · rename_i e
      obtain ⟨i', h1, rfl⟩ := Option.map_eq_some_iff.mp h
      obtain ⟨j, rfl, h2, h3⟩ := idxO_some h1
      refine ⟨j + 1, by omega, by simpa using h2, fun m hm => ?_⟩
      cases m with
      | zero => simpa using e
      | succ m => simpa using h3 m (by omega)
def dedupI : List Int → List Int
  | [] => []
  | x :: xs => if x ∈ dedupI xs then dedupI xs else x :: dedupI xs
theorem mem_dedupI {y : Int} : ∀ {xs : List Int}, y ∈ dedupI xs ↔ y ∈ xs
  | [] => by simp [dedupI]
  | x :: xs => by
    unfold dedupI
    split
    · rename_i h
      rw [mem_dedupI, List.mem_cons]
      constructor
      · exact .inr
      · rintro (rfl | h')
        · exact mem_dedupI.mp h
        · exact h'
    · rw [List.mem_cons, List.mem_cons, mem_dedupI]
theorem nodup_dedupI : ∀ xs : List Int, (dedupI xs).Nodup
  | [] => List.nodup_nil
  | x :: xs => by
    unfold dedupI
    split
    · exact nodup_dedupI xs
    · rename_i h
      exact List.nodup_cons.mpr ⟨h, nodup_dedupI xs⟩
/-- sorted(set(xs)) -/
def setO' (xs : List Int) : List Int := sortI ltI (dedupI xs)
theorem sorted_one {xs ys : List Int} (h1 : xs.Pairwise (· < ·)) (h2 : ys.Pairwise (· < ·)) (h : ∀ k, k ∈ xs ↔ k ∈ ys) : xs = ys := by
  have n1 : xs.Nodup := h1.imp fun q e => by subst e; exact Int.lt_irrefl _ q
  have n2 : ys.Nodup := h2.imp fun q e => by subst e; exact Int.lt_irrefl _ q
  have p : xs.Perm ys := (List.perm_ext_iff_of_nodup n1 n2).mpr h
  exact p.eq_of_pairwise (le := fun a b => a < b) (fun a b _ _ x y => absurd x (Int.lt_asymm y)) h1 h2
theorem setO'_lt (xs : List Int) : (setO' xs).Pairwise (· < ·) := by
  have p : (setO' xs).Perm (dedupI xs) := List.mergeSort_perm _ _
  have n : (setO' xs).Nodup := p.nodup_iff.mpr (nodup_dedupI xs)
  have s : (setO' xs).Pairwise fun a b => (!ltI b a) = true := List.pairwise_mergeSort (le := fun a b => !ltI b a) (fun a b c h k => by simp [ltI] at *; omega) (fun a b => by simp [ltI]; omega) _
  exact (List.Pairwise.and n s).imp fun {a b} ⟨h1, h2⟩ => by simp [ltI] at h2; omega
theorem mem_setO' {xs : List Int} {k : Int} : k ∈ setO' xs ↔ k ∈ xs := by
  have p : (setO' xs).Perm (dedupI xs) := List.mergeSort_perm _ _
  rw [p.mem_iff, mem_dedupI]
section
variable {K : PySem.W.Frag} {te ta : TE} {ρ : Env} {k k2 : Kd}
theorem p_idxT {xs : List Int} {x i : Int} (h1 : PV K te ρ (.tuple (xs.map .int)) k) (h2 : PV K ta ρ (.int x) k2) (h : idxO xs x = some i) : PV K (tBMT K (rIdxI K) te (tCons ta tNil)) ρ (.int i) (.mv []) := by
  obtain ⟨j, rfl, hj, hno⟩ := idxO_some h
  intro B AF σ H ρ' Fs d k' S eo Q q
  obtain ⟨e0, e1⟩ := pE_some eo
  subst e0
  cases e1
  refine h1 B AF σ H _ Fs _ _ S pE_same _ fun v H1 F g1 r1 o1 => ?_
  cases r1 with
  | tup ht rl =>
    have ev : ∀ {vs : List V} {ys : List Int} {F : List Addr}, RpL K H1 vs (ys.map PyData.int) F → vs = ys.map V.int := by
      intro vs ys
      induction ys generalizing vs with
      | nil => intro F r; cases r; rfl
      | cons y ys ih => intro F r; cases r with
        | cons a b => cases a; rw [ih b]; rfl
    have := ev rl
    subst this
    refine ⟨⟨_, _, rfl, ht.1, ht.2⟩, h2 B AF σ H1 _ Fs _ _ (S.grow g1) pE_same _ fun u H2 F2 g2 r2 o2 => ?_⟩
    cases r2
    exact ⟨_, xs, x, j, rfl, rfl, g2.sqT ht.1, hj, hno, q _ H2 [] (g1.trans g2) (.int _) .nil⟩
theorem p_sortedSet {w : World} {xs : List Int} {u : Unit} (h1 : PV K te ρ (.tuple (xs.map .int)) k) (h : chk (decide (xs.length < 64)) = some u) : PV K (tCB (rSortedSet w) (tCons (tCB (rSetTI K w) (tCons te tNil)) tNil)) ρ (.list ((setO' xs).map .int)) (.mv []) := by
  have hl : xs.length < 64 := by simpa using chk_some h
  intro B AF σ H ρ' Fs d k' S eo Q q
  obtain ⟨e0, e1⟩ := pE_some eo
  subst e0
  cases e1
  refine h1 B AF σ H _ Fs _ _ S pE_same _ fun v H1 F g1 r1 o1 => ?_
  cases r1 with
  | tup ht rl =>
    have ev : ∀ {vs : List V} {ys : List Int} {F : List Addr}, RpL K H1 vs (ys.map PyData.int) F → vs = ys.map V.int := by
      intro vs ys
      induction ys generalizing vs with
      | nil => intro F r; cases r; rfl
      | cons y ys ih => intro F r; cases r with
        | cons a b => cases a; rw [ih b]; rfl
    have := ev rl
    subst this
    refine ⟨_, xs, rfl, ht.1, by omega, fun q' c hq' hc => ?_⟩
    refine ⟨q', _, c, rfl, upd_same, by omega, fun ns p hp hmem hlen hp0 => ?_⟩
    have e : ns = setO' xs := sorted_one hp (setO'_lt xs) fun k => by rw [hmem k, mem_setO', decide_eq_true_eq]
    subst e
    have hHp : H p = none := by
      have := hp0
      by_cases hpq : p = q'
      · subst hpq; rw [upd_same] at this; cases this
      · rw [upd_ne hpq] at this; exact g1.back this
    refine q _ _ [p] ((g1.trans (.new hq')).trans (.new hp0)) ?_ (.mv ⟨by simp, fun a ha => by rcases List.mem_singleton.mp ha with rfl; exact .inl hHp⟩)
    have := Rp.lst (K := K) (H := upd (upd H1 q' (SetO w q' (fun j => decide (j ∈ xs)) c)) p (.lst ((setO' xs).map V.int))) upd_same (rp_ints (setO' xs))
    exact this
end
end Va

/-! Vs2: one of two defs as a value; calls of it. -/
namespace Va
open Classical
open PySem L2 PyProof.Rows PySem.W PySem.Calls
@[reducible] def fnD (a : Addr) : PyData := .dict [(.none, .int (a : Nat))]
@[reducible] def EFn (f1 f2 : Addr) : Bool → PyData := fun b => fnD (if b = true then f1 else f2)
instance {f1 f2 : Addr} : Flat (EFn f1 f2) := ⟨fun b => by simp [EFn, fnD, Va.flat]⟩
noncomputable def S2 (f1 f2 : Addr) (s1 s2 : Sp) : Addr → Option Sp := fun f => if f = f1 then some s1 else if f = f2 then some s2 else none
theorem held2 {P : Program} {w : World} {K : PySem.W.Frag} {mg : Str → Option Value} {base : Heap} {x1 x2 : Str} {k1 k2 k n : Nat} {R1 R2 : List PyData → PyData × Nat → Prop} {f1 f2 : Addr}
    (c1 : Clr P w K mg base x1 k1 n R1) (c2 : Clr P w K mg base x2 k2 n R2) (g1 : mg x1 = some (.ref f1)) (g2 : mg x2 = some (.ref f2)) (h1 : k1 ≤ k) (h2 : k2 ≤ k) :
    ∀ f sp, S2 f1 f2 (spR K n R1) (spR K n R2) f = some sp → Held P w K mg base k f sp := by
  intro f sp h
  unfold S2 at h
  split at h
  · rename_i e
    subst e
    cases h
    obtain ⟨f', fd, ps, F, a1, a2, a3⟩ := c1.ex
    rw [g1] at a1
    cases a1
    exact ⟨fd, ps, F.mono h1, a2, a3⟩
  · split at h
    · rename_i e
      subst e
      cases h
      obtain ⟨f', fd, ps, F, a1, a2, a3⟩ := c2.ex
      rw [g2] at a1
      cases a1
      exact ⟨fd, ps, F.mono h2, a2, a3⟩
    · cases h
section
variable {A Rt : Type} {K : PySem.W.Frag} {t : TA} {tt : TT} {ρ : Env} {ds : List PyData} {k : Kd} {n i m r : Nat} {encs : A → List PyData} {L1 L2 : A → Option Rt} {e : Rt → PyData} {f1 f2 : Addr} {b : Bool}
theorem p_fnIf (ht : PT' K tt ρ b) : PV K (tIf tt (tC (.ref f1)) (tC (.ref f2))) ρ (EFn f1 f2 b) (.mv []) := by
  have one : ∀ f : Addr, VE K (tC (.ref f)) (fun _ => some (fnD f, .mv [])) := fun f B AF σ H ρ' Fs d k S eo Q q => by
    cases eo
    exact q _ H [] (.refl H) (.fn f) .nil
  refine (ve_if ht (one f1) (one f2)).at ?_
  rw [pE_same, Option.bind_some]
  cases b <;> rfl
theorem p_callAG {a : A} {x : Rt} (hne : f1 ≠ f2) (h : ρ[i]? = some (some (EFn f1 f2 b, m))) (hL : (if b = true then L1 a else L2 a) = some x) (ha : PA' K t ρ ds k) (hds : ds = encs a) (hn : ds.length = n) :
    PV K (tCallA i (S2 f1 f2 (spR K n (RelT encs L1 e r)) (spR K n (RelT encs L2 e r))) t) ρ (e x) (calK (e x) r k) := by
  intro B AF σ H ρ' Fs d k' S eo Q q
  obtain ⟨e0, e1⟩ := pE_some eo
  subst e0
  cases e1
  obtain ⟨v, hv, rv, _⟩ := S.val i _ m h
  obtain ⟨a', rfl, ea, _⟩ := rv.fn_inv
  have ea' : (if b = true then f1 else f2) = a' := by exact_mod_cast ea
  subst ea'
  have main : ∀ (LL : A → Option Rt), LL a = some x → t σ H fun vs H1 => spR K n (RelT encs LL e r) vs H1 Q fun _ _ _ => False := fun LL hl => by
    refine ha B AF σ H _ Fs ds k S pE_same _ fun vs H1 F g1 r1 o1 => ?_
    have := vf_call (n := n) (m := fun ds' => if ds' = ds then some (e x, r) else none) (E := fun _ _ _ => False) _ Fs H H1 vs ds F k (e x) (calK (e x) r k) g1 r1 o1 (by simp [gCall, hn]) Q fun v H3 G' g3 r3 o3 => q v H3 G' (g1.trans g3) r3 o3
    simp only [List.append_nil] at this
    exact spOf_R (relT_one hl hds) this
  cases b with
  | true =>
    rw [if_pos rfl] at hL hv
    exact ⟨f1, _, hv, if_pos rfl, main L1 hL⟩
  | false =>
    rw [if_neg Bool.false_ne_true] at hL hv
    refine ⟨f2, _, hv, ?_, main L2 hL⟩
    unfold S2
    rw [if_neg hne.symm, if_pos rfl]
theorem p_callA2 {a : A} {x : Rt} (hne : f1 ≠ f2) (h : ρ[i]? = some (some (EFn f1 f2 b, m))) (hL : (if b = true then L1 a else L2 a) = some x) (ha : PA' K t ρ ds k) (hds : ds = encs a) (hn : ds.length = n) :
    PV K (tCallA i (S2 f1 f2 (spR K n (RelT encs L1 e 2)) (spR K n (RelT encs L2 e 2))) t) ρ (e x) (.mv []) := by
  have := p_callAG (r := 2) (e := e) hne h hL ha hds hn
  rwa [calK2] at this
end
end Va

/-! Vs3: more expression rules. -/
namespace Va
open PySem L2 PyProof.Rows PySem.W PySem.Calls
section
variable {α : Type} {e : α → PyData} {K : PySem.W.Frag} {te : TE} {ρ : Env} {k : Kd}
theorem mapO_id : ∀ {xs : List (Option α)} {ys : List α}, mapO id xs = some ys → xs = ys.map some
  | [], ys, h => by cases h; rfl
  | x :: xs, ys, h => by
    rw [mapO] at h
    obtain ⟨y, h1, h2⟩ := Option.bind_eq_some_iff.mp h
    obtain ⟨zs, h3, h4⟩ := Option.bind_eq_some_iff.mp h2
    cases h4
    rw [List.map_cons, ← mapO_id h3, show x = some y from h1]
theorem p_unL {xs : List (Option α)} {ys : List α} (h : mapO id xs = some ys) (D : PV K te ρ (EL (EO e) xs) k) : PV K te ρ (EL e ys) k := by
  have : EL (EO e) xs = EL e ys := by
    rw [mapO_id h]
    show PyData.list _ = PyData.list _
    rw [List.map_map]
    rfl
  rwa [this] at D
end
end Va

/-! Vp1: itertools.permutations. -/
namespace Pm
open PySem PySem.Spec PyProof.Rows
open Sem (wp)
theorem mro_pm : mroOf (.type "itertools.permutations") = pure [.type "itertools.permutations", .type "object"] := by rw [mroOf_type]; kernel_rfl
theorem lookup_pm_new : typeLookup (.type "itertools.permutations") "__new__" = pure (some (.builtin "itertools.permutations.__new__")) := by rw [typeLookup_type, builtinLookup_eq_fast]; kernel_rfl
theorem slot_pm_init : Slot "itertools.permutations" "__init__" "object.__init__" :=
  .of (owner := "object") (n := "__init__") (by rw [typeLookup_type, builtinLookup_eq_fast]; kernel_rfl) (by decide +kernel) (by decide +kernel) (by decide +kernel)
    (by first | exact .inl (by decide +kernel) | exact .inr (by decide +kernel)) (by rw [isSubtype_type]; kernel_rfl)
theorem sub_pm : isSubtype (.type "itertools.permutations") (.type "itertools.permutations") = pure true := by rw [isSubtype_type]; kernel_rfl
theorem called_pm : TypeCalled "itertools.permutations" "itertools.permutations.__new__" "object.__init__" :=
  ⟨by decide +kernel, by decide +kernel, ⟨_, _, mro_pm⟩, madeBy_type mro_pm lookup_pm_new (by decide +kernel), by decide +kernel, sub_pm, slot_pm_init⟩
theorem typeCall_pm (a : Value) : checkTypeCall "itertools.permutations" ⟨[a], []⟩ = pure () := by kernel_rfl
theorem newCall_pm (a : Value) : checkBuiltinCall "itertools.permutations.__new__" ⟨[.type "itertools.permutations", a], []⟩ = pure () := by kernel_rfl
theorem entry_pm_new : entryFor table "itertools.permutations.__new__" = some Builtin.«itertools.permutations.__new__» := entryFor_of_tree (by kernel_rfl)
theorem slot_pm_iter : Slot "itertools.permutations" "__iter__" "itertools.permutations.__iter__" :=
  .of (owner := "itertools.permutations") (n := "__iter__") (by rw [typeLookup_type, builtinLookup_eq_fast]; kernel_rfl) (by decide +kernel) (by decide +kernel) (by decide +kernel)
    (by first | exact .inl (by decide +kernel) | exact .inr (by decide +kernel)) sub_pm
theorem slot_pm_next : Slot "itertools.permutations" "__next__" "itertools.permutations.__next__" :=
  .of (owner := "itertools.permutations") (n := "__next__") (by rw [typeLookup_type, builtinLookup_eq_fast]; kernel_rfl) (by decide +kernel) (by decide +kernel) (by decide +kernel)
    (by first | exact .inl (by decide +kernel) | exact .inr (by decide +kernel)) sub_pm
theorem entry_pm_iter : entryFor table "itertools.permutations.__iter__" = some Builtin.«dict_keyiterator.__iter__» :=
  entryFor_alias (id' := "dict_keyiterator.__iter__") (by kernel_rfl) (by first | rfl | decide +kernel | (unfold String.splitOn; simp +decide [String.splitOnAux])) (by decide +kernel) (by kernel_rfl)
theorem entry_pm_next : entryFor table "itertools.permutations.__next__" = some Builtin.«itertools.permutations.__next__» := entryFor_of_tree (by kernel_rfl)
theorem owner_pm : Manifest.owners.lookup (String.ofList ['s', 'n', 'o', 'i', 't', 'a', 't', 'u', 'm', 'r', 'e', 'p', '.', 's', 'l', 'o', 'o', 't', 'r', 'e', 't', 'i'].reverse) = some Manifest.sig_itertools_permutations := by kernel_rfl
theorem args_pm_iter (a : Value) : argsOk "itertools.permutations.__iter__" ⟨[a], []⟩ := by
  unfold argsOk; rw [signature?_of (id := "itertools.permutations.__iter__") (n := ['_', '_', 'r', 'e', 't', 'i', '_', '_']) (o := ['s', 'n', 'o', 'i', 't', 'a', 't', 'u', 'm', 'r', 'e', 'p', '.', 's', 'l', 'o', 'o', 't', 'r', 'e', 't', 'i']) (by kernel_rfl) owner_pm]; kernel_rfl
theorem args_pm_next (a : Value) : argsOk "itertools.permutations.__next__" ⟨[a], []⟩ := by
  unfold argsOk; rw [signature?_of (id := "itertools.permutations.__next__") (n := ['_', '_', 't', 'x', 'e', 'n', '_', '_']) (o := ['s', 'n', 'o', 'i', 't', 'a', 't', 'u', 'm', 'r', 'e', 'p', '.', 's', 'l', 'o', 'o', 't', 'r', 'e', 't', 'i']) (by kernel_rfl) owner_pm]; kernel_rfl
theorem noDict_pm : typeHasDict (.type "itertools.permutations") = false := by decide +kernel
theorem noClose_pm : typeLookup (.type "itertools.permutations") "close" = pure none := by rw [typeLookup_type, builtinLookup_eq_fast]; kernel_rfl
/-- the record's fields: the pool, the state, how many, the last told, the numbers -/
def pmFs (pool last : Value) (st : Int) (r : Nat) (ix cy : List Nat) : Array Value := ([pool, rawInt st, rawInt r, last] ++ ix.map (fun (i : Nat) => rawInt i) ++ cy.map fun (i : Nat) => rawInt i).toArray
def IsPm (h : Heap) (it : Addr) (pool last : Value) (st : Int) (r : Nat) (ix cy : List Nat) : Prop := h.get? it = some { cls := .type "itertools.permutations", dict := none, data := .fields (pmFs pool last st r ix cy), slots := #[] }
def cyc (n : Nat) : List Nat := (List.range n).map fun i => n - i
/-- the heap behind the call -/
def pmHeap (h : Heap) (vs : List Value) : Heap :=
  (((h.push (seqObj "list" #[] 0)).update h.objs.size (Obj.mapSeq (· ++ vs.toArray))).push { cls := .type "tuple", data := .seq vs.toArray }).push
    { cls := .type "itertools.permutations", data := .fields (pmFs (.ref (h.objs.size + 1)) .none 0 vs.length (List.range vs.length) (cyc vs.length)) }
section
variable {prog : Program} {w : World}
theorem meets_pm_new (a : Addr) (vs : List Value) (hz : vs.length ≤ 1000) :
    MeetsIn prog w (Builtin.«itertools.permutations.__new__» ⟨[.type "itertools.permutations", .ref a], []⟩)
      (fun A R s => IsTup s.heap a vs.toArray ∧ R (.ok (.ret (.ref (s.heap.objs.size + 2)))) { s with heap := pmHeap s.heap vs }) :=
  .of_wp fun A R s h => by
    obtain ⟨hp, g, dd, tk, os⟩ := s
    obtain ⟨hl, h⟩ := h
    have hsub := sub_pm
    have hd := noDict_pm
    have hcat : ("itertools." ++ "permutations" : String) = "itertools.permutations" := by decide +kernel
    unfold Builtin.«itertools.permutations.__new__»
    repeat (first
      | (with_reducible refine wpAny_bind (Va.collect_tup hl ?_ (by rw [sizeLine_eq]; omega)))
      | (rw [hcat]; with_reducible refine wpAny_of_eq hsub ?_)
      | wp_step
      | simp only [List.head?_cons, Option.some_or, List.getElem?_cons_succ, List.getElem?_cons_zero, List.length_cons, List.length_nil, List.forIn_nil])
    have hm : ¬ (Builtin.Itertools.itTooMany (vs.length : Int) = true) := by
      unfold Builtin.Itertools.itTooMany
      rw [decide_eq_true_eq]
      omega
    rw [if_neg hm]
    have hs : ((hp.push (seqObj "list" #[] 0)).update hp.objs.size (Obj.mapSeq fun x => x ++ vs.toArray)).objs.size = hp.objs.size + 1 := by
      rw [Heap.size_update, size_push']
    have hfs : ([Value.ref (hp.objs.size + 1), rawInt (if ((vs.length : Int)).toNat > vs.length then 2 else 0), rawInt (((vs.length : Int)).toNat : Int), Value.none] ++ List.map (fun i => rawInt ((i : Nat) : Int)) (List.range vs.length) ++
        List.map (fun i => rawInt ((vs.length : Int) - ((i : Nat) : Int))) (List.range ((vs.length : Int)).toNat)).toArray = pmFs (.ref (hp.objs.size + 1)) .none 0 vs.length (List.range vs.length) (cyc vs.length) := by
      unfold pmFs cyc
      rw [Int.toNat_natCast, if_neg (by omega), List.map_map]
      congr 2
      refine List.map_congr_left fun i hi => ?_
      have := List.mem_range.mp hi
      show rawInt ((vs.length : Int) - (i : Int)) = rawInt ((vs.length - i : Nat) : Int)
      congr 1
      omega
    unfold newTuple Builtin.Itertools.itNewRecord
    refine wpAny_bind (wpAny_newObj_type ?_ (by
      show vs.toArray.size ≤ sizeLine
      rw [List.size_toArray, sizeLine_eq]
      omega))
    rw [hs, hd]
    show wpAny _ _ (newObj (.type "itertools.permutations") (.fields _) >>= fun v => ret v) _ _ _
    rw [hfs]
    refine wpAny_bind (wpAny_newObj_type ?_ (by
      show (pmFs _ _ _ _ _ _).size ≤ sizeLine + 2
      have : (pmFs (.ref (hp.objs.size + 1)) .none 0 vs.length (List.range vs.length) (cyc vs.length)).size = 4 + 2 * vs.length := by simp [pmFs, cyc]; omega
      rw [this, sizeLine_eq]
      omega))
    refine wpAny_pure ⟨_, rfl, ?_⟩
    dsimp only at h ⊢
    rw [size_push', hs]
    exact h
end
end Pm

/-! Vp2: itertools.permutations, its turns. -/
namespace Pm
open PySem PySem.Spec PyProof.Rows
open Sem (wp)
section
variable {prog : Program} {w : World} {A : Around} {E : Value → Shared → Prop} {s : Shared}
theorem iter_pm {it : Addr} {pool last : Value} {st : Int} {r : Nat} {ix cy : List Nat} {Q : Value → Shared → Prop} (hit : IsPm s.heap it pool last st r ix cy) (h : Q (.ref it) s) : wpAny (model prog w) A (pyIter (.ref it)) Q E s := by
  have hT : s.TypeIs (.ref it) "itertools.permutations" := ⟨_, hit, rfl⟩
  refine wpAny_pyIter_slot hT slot_pm_iter (wpAny_call_entry slot_pm_iter hT entry_pm_iter ?_ (args_pm_iter _))
  show wpAny _ _ (ret (.ref it)) _ _ s
  exact wpAny_pure ⟨_, rfl, "itertools.permutations", _, hT, slot_pm_next.lookup, h⟩
theorem pm_nums {pool last : Value} {st : Int} {r : Nat} {ix cy : List Nat} (f : Value → Nat) (hf : ∀ i : Nat, f (rawInt i) = i) : (List.drop 4 (pmFs pool last st r ix cy).toList).map f = ix ++ cy := by
  have key : ∀ l : List Nat, (l.map fun (i : Nat) => rawInt i).map f = l := by
    intro l
    induction l with
    | nil => rfl
    | cons a l ih => rw [List.map_cons, List.map_cons, ih, hf]
  show List.map f (ix.map (fun (i : Nat) => rawInt i) ++ cy.map fun (i : Nat) => rawInt i) = _
  rw [List.map_append, key, key]
theorem pmFs_set1 {pool last : Value} {st st' : Int} {r : Nat} {ix cy : List Nat} : (pmFs pool last st r ix cy).setIfInBounds 1 (rawInt st') = pmFs pool last st' r ix cy := by
  unfold pmFs
  simp
theorem pmFs_set3 {pool last last' : Value} {st : Int} {r : Nat} {ix cy : List Nat} : (pmFs pool last st r ix cy).setIfInBounds 3 last' = pmFs pool last' st r ix cy := by
  unfold pmFs
  simp
theorem pmFs_size {pool last : Value} {st : Int} {r : Nat} {ix cy : List Nat} : (pmFs pool last st r ix cy).size = 4 + ix.length + cy.length := by
  unfold pmFs
  simp
  omega
theorem pm_end {h h1 : Heap} {it p : Addr} {last : Value} {n : Nat} {ix cy : List Nat} (k : ∀ b o, b ≠ it → h.get? b = some o → h1.get? b = some o) (hs : h1.objs.size = h.objs.size) (hit1 : IsPm h1 it (.ref p) last 1 n ix cy) (X : Obj) (hX : X.isFreed = false) :
    h.objs.size ≤ h1.objs.size ∧ (∀ b o, b ≠ it → h.get? b = some o → ((h1.push X).update it (Obj.mapFields fun x => x.setIfInBounds 3 (.ref h1.objs.size))).get? b = some o) ∧
      IsPm ((h1.push X).update it (Obj.mapFields fun x => x.setIfInBounds 3 (.ref h1.objs.size))) it (.ref p) (.ref h1.objs.size) 1 n ix cy ∧
      ((h1.push X).update it (Obj.mapFields fun x => x.setIfInBounds 3 (.ref h1.objs.size))).get? h1.objs.size = some X := by
  have hlt : it < h1.objs.size := Heap.lt_size hit1
  refine ⟨Nat.le_of_eq hs.symm, fun b o ne e => ?_, ?_, ?_⟩
  · rw [Heap.get?_update_other _ _ (Ne.symm ne)]
    exact Heap.get?_push_of_some _ (k b o ne e)
  · unfold IsPm
    rw [Heap.get?_update_self _ (Heap.get?_push_of_some _ hit1) rfl, ← pmFs_set3 (last := last)]
    rfl
  · rw [Heap.get?_update_other _ _ (Nat.ne_of_lt hlt)]
    exact Heap.get?_push_size _ hX
theorem wpAny_newTup {M : Model} {items : List Value} {Q : Value → Shared → Prop} (hz : items.length ≤ sizeLine) (h : Q (.ref s.heap.objs.size) { s with heap := s.heap.push { cls := .type "tuple", data := .seq items.toArray } }) : wpAny M A (newTuple items) Q E s := by
  unfold newTuple
  exact wpAny_newObj_type h (by show items.toArray.size ≤ sizeLine; rw [List.size_toArray]; exact hz)
theorem pm_item0 {it p : Addr} {last : Value} {ix cy : List Nat} {vs : List Value} {Q : Option Value → Shared → Prop} (hit : IsPm s.heap it (.ref p) last 0 vs.length ix cy) (hp : IsTup s.heap p vs.toArray) (hz : vs.length ≤ 1000) (hl : ix.length = vs.length)
    (hQ : ∀ h' T, s.heap.objs.size ≤ T → (∀ b o, b ≠ it → s.heap.get? b = some o → h'.get? b = some o) → IsPm h' it (.ref p) (.ref T) 1 vs.length ix cy → h'.get? T = some { cls := .type "tuple", data := .seq (ix.map fun i => vs.toArray.getD i .none).toArray } → Q (some (.ref T)) { s with heap := h' }) :
    wpAny (model prog w) A (callSpecial? (.ref it) "__next__") Q E s := by
  have hT : s.TypeIs (.ref it) "itertools.permutations" := ⟨_, hit, rfl⟩
  refine wpAny_callSpecial?_slot (name := Str.ofString "__next__") hT slot_pm_next (wpAny_call_entry slot_pm_next hT entry_pm_next ?_ (args_pm_next _))
  unfold Builtin.«itertools.permutations.__next__» Builtin.Itertools.itPoolItems Builtin.Itertools.itIntField Builtin.Itertools.itNumbersFrom
  have f0 : (pmFs (.ref p) last 0 vs.length ix cy)[0]? = some (.ref p) := rfl
  have f1 : (pmFs (.ref p) last 0 vs.length ix cy)[1]? = some (rawInt 0) := rfl
  have f2 : (pmFs (.ref p) last 0 vs.length ix cy)[2]? = some (rawInt vs.length) := rfl
  obtain ⟨o, ho, hc, n0, hd⟩ := id hp
  have hit1 : ∀ X, ((s.heap.update it (Obj.mapFields fun x => x.setIfInBounds 1 (rawInt 1))).push X).get? it = some { cls := .type "itertools.permutations", dict := none, data := .fields (pmFs (.ref p) last 1 vs.length ix cy), slots := #[] } := fun X => by
    refine Heap.get?_push_of_some _ ?_
    rw [Heap.get?_update_self _ hit rfl]
    show some _ = some _
    rw [← pmFs_set1 (st := 0) (st' := 1)]
    rfl
  have f3 : (pmFs (.ref p) last 1 vs.length ix cy)[3]? = some last := rfl
  have hn : ∀ f : Value → Nat, (∀ i : Nat, f (rawInt i) = i) → List.take (((vs.length : Nat) : Int)).toNat (List.map f (List.drop 4 (pmFs (Value.ref p) last 0 vs.length ix cy).toList)) = ix := fun f hf => by
    rw [pm_nums f hf, Int.toNat_natCast, ← hl, List.take_left]
  have hsz3 : 3 < (pmFs (.ref p) last 1 vs.length ix cy).size := by rw [pmFs_size]; omega
  have hsz1 : 1 < (pmFs (.ref p) last 0 vs.length ix cy).size := by rw [pmFs_size]; omega
  repeat (first
    | (with_reducible refine wpAny_field hit rfl f0 ?_)
    | (with_reducible refine wpAny_field hit rfl f1 ?_)
    | (with_reducible refine wpAny_field hit rfl f2 ?_)
    | (with_reducible refine wpAny_load ho ?_; rw [hd])
    | (with_reducible refine wpAny_load hit ?_)
    | wp_step)
  rw [hn _ fun _ => rfl]
  show wpAny _ _ (newTuple (ix.map fun i => vs.toArray.getD i .none)) _ _ _
  refine wpAny_newTup (by rw [List.length_map, hl, sizeLine_eq]; omega) ?_
  refine wpAny_bind (wpAny_field (hit1 _) rfl f3 ?_)
  refine wpAny_bind (wpAny_setField (hit1 _) rfl hsz3 ?_)
  repeat wp_step
  have hk : ∀ b o, b ≠ it → s.heap.get? b = some o → (s.heap.update it (Obj.mapFields fun x => x.setIfInBounds 1 (rawInt 1))).get? b = some o := fun b o ne e => by
    rw [Heap.get?_update_other _ _ (Ne.symm ne)]
    exact e
  have hi : IsPm (s.heap.update it (Obj.mapFields fun x => x.setIfInBounds 1 (rawInt 1))) it (.ref p) last 1 vs.length ix cy := by
    unfold IsPm
    rw [Heap.get?_update_self _ hit rfl, ← pmFs_set1 (st := 0) (st' := 1)]
    rfl
  obtain ⟨q1, q2, q3, q4⟩ := pm_end hk (Heap.size_update ..) hi { cls := .type "tuple", data := .seq (ix.map fun i => vs.toArray.getD i .none).toArray } rfl
  exact ⟨_, rfl, hQ _ _ q1 q2 q3 q4⟩
/-- the next one after ix, cy; none behind the last -/
def nextPm : List Nat → List Nat → Option (List Nat × List Nat)
  | [0, 1], [2, 1] => some ([1, 0], [1, 1])
  | [0, 1, 2], [3, 2, 1] => some ([0, 2, 1], [3, 1, 1])
  | [0, 2, 1], [3, 1, 1] => some ([1, 0, 2], [2, 2, 1])
  | [1, 0, 2], [2, 2, 1] => some ([1, 2, 0], [2, 1, 1])
  | [1, 2, 0], [2, 1, 1] => some ([2, 0, 1], [1, 2, 1])
  | [2, 0, 1], [1, 2, 1] => some ([2, 1, 0], [1, 1, 1])
  | _, _ => none
/-- the last ones -/
def lastPm : List Nat → List Nat → Bool
  | [0], [1] => true
  | [1, 0], [1, 1] => true
  | [2, 1, 0], [1, 1, 1] => true
  | _, _ => false
theorem pm_case {M : Model} {α : Type} {N : Nat → Nat → List Nat → List Nat → Option (List Nat × List Nat)} {n r n' r' : Nat} {a b a' b' : List Nat} {o : Option (List Nat × List Nat)} {F : List Nat → List Nat → Sem α} {G : Sem α} {Q : α → Shared → Prop}
    (h1 : n = n') (h2 : r = r') (h3 : a = a') (h4 : b = b') (hN : N n' r' a' b' = o) (h : wpAny M A (match o with
      | some (i, c) => F i c
      | none => G) Q E s) : wpAny M A (match N n r a b with
      | some (i, c) => F i c
      | none => G) Q E s := by
  subst h1 h2 h3 h4 hN
  exact h
theorem pm_item1 {it p : Addr} {last : Value} {ix cy ix' cy' : List Nat} {vs : List Value} {Q : Option Value → Shared → Prop} (hit : IsPm s.heap it (.ref p) last 1 vs.length ix cy) (hp : IsTup s.heap p vs.toArray) (hz : vs.length ≤ 1000) (hl : ix.length = vs.length)
    (hx : nextPm ix cy = some (ix', cy')) (hl' : ix'.length = vs.length) (hc' : cy'.length = vs.length)
    (hQ : ∀ h' T, s.heap.objs.size ≤ T → (∀ b o, b ≠ it → s.heap.get? b = some o → h'.get? b = some o) → IsPm h' it (.ref p) (.ref T) 1 vs.length ix' cy' → h'.get? T = some { cls := .type "tuple", data := .seq (ix'.map fun i => vs.toArray.getD i .none).toArray } → Q (some (.ref T)) { s with heap := h' }) :
    wpAny (model prog w) A (callSpecial? (.ref it) "__next__") Q E s := by
  have hT : s.TypeIs (.ref it) "itertools.permutations" := ⟨_, hit, rfl⟩
  refine wpAny_callSpecial?_slot (name := Str.ofString "__next__") hT slot_pm_next (wpAny_call_entry slot_pm_next hT entry_pm_next ?_ (args_pm_next _))
  unfold Builtin.«itertools.permutations.__next__» Builtin.Itertools.itPoolItems Builtin.Itertools.itIntField Builtin.Itertools.itNumbersFrom Builtin.Itertools.itSetNumbersFrom
  have f0 : (pmFs (.ref p) last 1 vs.length ix cy)[0]? = some (.ref p) := rfl
  have f1 : (pmFs (.ref p) last 1 vs.length ix cy)[1]? = some (rawInt 1) := rfl
  have f2 : (pmFs (.ref p) last 1 vs.length ix cy)[2]? = some (rawInt vs.length) := rfl
  obtain ⟨o, ho, hc, n0, hd⟩ := id hp
  repeat (first
    | (with_reducible refine wpAny_field hit rfl f0 ?_)
    | (with_reducible refine wpAny_field hit rfl f1 ?_)
    | (with_reducible refine wpAny_field hit rfl f2 ?_)
    | (with_reducible refine wpAny_load ho ?_; rw [hd])
    | (with_reducible refine wpAny_load hit ?_)
    | wp_step)
  have hs : vs.toArray.size = ix.length := by rw [List.size_toArray, hl]
  refine pm_case (n' := ix.length) (r' := ix.length) (a' := ix) (b' := cy) (o := some (ix', cy')) hs (by rw [Int.toNat_natCast, hl]) ?_ ?_ ?_ ?_
  · rw [pm_nums _ fun _ => rfl, hs, List.take_left]
  · rw [pm_nums _ fun _ => rfl, hs, List.drop_left]
  · unfold nextPm at hx
    split at hx <;> first | (cases hx; rfl) | cases hx
  have hup : (pmFs (.ref p) last 1 vs.length ix cy).extract 0 4 ++ (List.map (fun n => rawInt ((n : Nat) : Int)) (ix' ++ cy')).toArray = pmFs (.ref p) last 1 vs.length ix' cy' := by
    unfold pmFs
    simp
  have hk : ∀ b o, b ≠ it → s.heap.get? b = some o → (s.heap.update it (Obj.mapFields fun fs => fs.extract 0 4 ++ (List.map (fun n => rawInt ((n : Nat) : Int)) (ix' ++ cy')).toArray)).get? b = some o := fun b o ne e => by
    rw [Heap.get?_update_other _ _ (Ne.symm ne)]
    exact e
  have hi : IsPm (s.heap.update it (Obj.mapFields fun fs => fs.extract 0 4 ++ (List.map (fun n => rawInt ((n : Nat) : Int)) (ix' ++ cy')).toArray)) it (.ref p) last 1 vs.length ix' cy' := by
    unfold IsPm
    rw [Heap.get?_update_self _ hit rfl, ← hup]
    rfl
  show wpAny _ _ (updateFields it _ >>= fun _ => _) _ _ _
  refine wpAny_bind (wpAny_updateFields hit rfl ?_ (by
    rw [hup, pmFs_size, sizeLine_eq]
    omega))
  have ht : List.take (((vs.length : Nat) : Int)).toNat ix' = ix' := by rw [Int.toNat_natCast, ← hl', List.take_length]
  show wpAny _ _ (newTuple (List.map (fun i => vs.toArray.getD i .none) (List.take (((vs.length : Nat) : Int)).toNat ix')) >>= fun t => _) _ _ _
  rw [ht]
  refine wpAny_bind (wpAny_newTup (by rw [List.length_map, hl', sizeLine_eq]; omega) ?_)
  have f3 : (pmFs (.ref p) last 1 vs.length ix' cy')[3]? = some last := rfl
  have hsz3 : 3 < (pmFs (.ref p) last 1 vs.length ix' cy').size := by rw [pmFs_size]; omega
  refine wpAny_bind (wpAny_field (Heap.get?_push_of_some _ hi) rfl f3 ?_)
  refine wpAny_bind (wpAny_setField (Heap.get?_push_of_some _ hi) rfl hsz3 ?_)
  repeat wp_step
  obtain ⟨q1, q2, q3, q4⟩ := pm_end hk (Heap.size_update ..) hi { cls := .type "tuple", data := .seq (ix'.map fun i => vs.toArray.getD i .none).toArray } rfl
  exact ⟨_, rfl, hQ _ _ q1 q2 q3 q4⟩
theorem pm_stop {it p : Addr} {last : Value} {ix cy : List Nat} {vs : List Value} {Q : Option Value → Shared → Prop} (hh : A.handled = none) (hit : IsPm s.heap it (.ref p) last 1 vs.length ix cy) (hp : IsTup s.heap p vs.toArray) (hl : ix.length = vs.length)
    (hx : lastPm ix cy = true) (hQ : ∀ e h', CpRep.StopE e h' → Heap.ExtBut it s.heap h' → E e { s with heap := h' }) :
    wpAny (model prog w) A (callSpecial? (.ref it) "__next__") Q E s := by
  have hT : s.TypeIs (.ref it) "itertools.permutations" := ⟨_, hit, rfl⟩
  refine wpAny_callSpecial?_slot (name := Str.ofString "__next__") hT slot_pm_next (wpAny_call_entry slot_pm_next hT entry_pm_next ?_ (args_pm_next _))
  unfold Builtin.«itertools.permutations.__next__» Builtin.Itertools.itPoolItems Builtin.Itertools.itIntField Builtin.Itertools.itNumbersFrom
  have f0 : (pmFs (.ref p) last 1 vs.length ix cy)[0]? = some (.ref p) := rfl
  have f1 : (pmFs (.ref p) last 1 vs.length ix cy)[1]? = some (rawInt 1) := rfl
  have f2 : (pmFs (.ref p) last 1 vs.length ix cy)[2]? = some (rawInt vs.length) := rfl
  have hsz1 : 1 < (pmFs (.ref p) last 1 vs.length ix cy).size := by rw [pmFs_size]; omega
  obtain ⟨o, ho, hc, n0, hd⟩ := id hp
  repeat (first
    | (with_reducible refine wpAny_field hit rfl f0 ?_)
    | (with_reducible refine wpAny_field hit rfl f1 ?_)
    | (with_reducible refine wpAny_field hit rfl f2 ?_)
    | (with_reducible refine wpAny_load ho ?_; rw [hd])
    | (with_reducible refine wpAny_load hit ?_)
    | wp_step)
  have hs : vs.toArray.size = ix.length := by rw [List.size_toArray, hl]
  refine pm_case (n' := ix.length) (r' := ix.length) (a' := ix) (b' := cy) (o := none) hs (by rw [Int.toNat_natCast, hl]) ?_ ?_ ?_ ?_
  · rw [pm_nums _ fun _ => rfl, hs, List.take_left]
  · rw [pm_nums _ fun _ => rfl, hs, List.drop_left]
  · unfold lastPm at hx
    split at hx <;> first | rfl | cases hx
  show wpAny _ _ (setField (.ref it) 1 (rawInt 2) >>= fun _ => Builtin.Itertools.itStop) _ _ _
  refine wpAny_bind (wpAny_setField hit rfl hsz1 ?_)
  unfold Builtin.Itertools.itStop
  refine wpAny_bind ?_
  simp only [newExc, newTuple]
  refine wpAny_bind (wpAny_newObj_type ?_ (by size_fits))
  refine wpAny_bind (m := firstArgMember _ _) (wpAny_of_eq (a := Value.none) (by first | rfl | (simp only [firstArgMember]; rfl)) ?_)
  refine wpAny_newObj_type ?_ (by size_fits)
  simp only [raiseNew]
  refine wpAny_bind (wpAny_handled ?_)
  first | rw [show A.in1.handled = none from hh] | rw [hh]
  refine wpAny_bind (wpAny_pure (wpAny_throw ?_))
  exact hQ _ _ ⟨_, _, _, rfl, Heap.get?_push_size _ rfl, rfl, rfl, rfl⟩ (((Heap.SameBut.update ..).extBut.push _).push _)
end
end Pm

/-! Vp3: for order in permutations(a tuple of at most three). -/
namespace Pm
open PySem PySem.Spec PyProof.Rows L2
def pmTab : Nat → List (List Nat × List Nat)
  | 1 => [([0], [1])]
  | 2 => [([0, 1], [2, 1]), ([1, 0], [1, 1])]
  | 3 => [([0, 1, 2], [3, 2, 1]), ([0, 2, 1], [3, 1, 1]), ([1, 0, 2], [2, 2, 1]), ([1, 2, 0], [2, 1, 1]), ([2, 0, 1], [1, 2, 1]), ([2, 1, 0], [1, 1, 1])]
  | _ => []
def pmAt (n i : Nat) : List Nat × List Nat := (pmTab n).getD i ([], [])
theorem tab_len {n : Nat} (h : 0 < (pmTab n).length) : 1 ≤ n ∧ n ≤ 3 := by
  match n, h with
  | 1, _ => exact ⟨by decide, by decide⟩
  | 2, _ => exact ⟨by decide, by decide⟩
  | 3, _ => exact ⟨by decide, by decide⟩
def chkI (n i : Nat) : Bool := (decide (i < (pmTab n).length) == false || (decide ((pmAt n i).1.length = n) && decide ((pmAt n i).2.length = n) && (pmAt n i).1.all fun j => decide (j < n))) &&
  (decide (i + 1 < (pmTab n).length) == false || decide (nextPm (pmAt n i).1 (pmAt n i).2 = some (pmAt n (i + 1)))) && (decide (i + 1 = (pmTab n).length) == false || lastPm (pmAt n i).1 (pmAt n i).2)
def chkN (n : Nat) : Bool := decide (pmAt n 0 = (List.range n, cyc n)) && (List.range 6).all (chkI n)
theorem chk_all : ∀ n ∈ [1, 2, 3], chkN n = true := by decide
theorem tab_facts {n i : Nat} (h1 : 1 ≤ n) (h3 : n ≤ 3) (hi : i < 6) : (pmAt n 0 = (List.range n, cyc n)) ∧ (i < (pmTab n).length → (pmAt n i).1.length = n ∧ (pmAt n i).2.length = n ∧ ((pmAt n i).1.all fun j => decide (j < n)) = true) ∧
    (i + 1 < (pmTab n).length → nextPm (pmAt n i).1 (pmAt n i).2 = some (pmAt n (i + 1))) ∧ (i + 1 = (pmTab n).length → lastPm (pmAt n i).1 (pmAt n i).2 = true) := by
  have hn : n ∈ [1, 2, 3] := by
    have : n = 1 ∨ n = 2 ∨ n = 3 := by omega
    rcases this with rfl | rfl | rfl <;> simp
  have h := chk_all n hn
  unfold chkN at h
  rw [Bool.and_eq_true, decide_eq_true_eq, List.all_eq_true] at h
  have h2 := h.2 i (List.mem_range.mpr hi)
  unfold chkI at h2
  simp only [Bool.and_eq_true, Bool.or_eq_true, beq_iff_eq, decide_eq_false_iff_not, decide_eq_true_eq] at h2
  obtain ⟨⟨a, b⟩, c⟩ := h2
  exact ⟨h.1, fun q => by
    obtain ⟨⟨u, v⟩, w⟩ := a.resolve_left fun z => z q
    exact ⟨u, v, w⟩, fun q => b.resolve_left fun z => z q, fun q => c.resolve_left fun z => z q⟩
theorem tab_six {n : Nat} : (pmTab n).length ≤ 6 := by
  unfold pmTab
  split <;> decide
section
variable {n i : Nat}
theorem tab0 (h1 : 1 ≤ n) (h3 : n ≤ 3) : pmAt n 0 = (List.range n, cyc n) := (tab_facts (i := 0) h1 h3 (by omega)).1
theorem tab1 (h1 : 1 ≤ n) (h3 : n ≤ 3) (hi : i < (pmTab n).length) : (pmAt n i).1.length = n ∧ (pmAt n i).2.length = n ∧ ∀ j ∈ (pmAt n i).1, j < n := by
  obtain ⟨a, b, c⟩ := (tab_facts h1 h3 (Nat.lt_of_lt_of_le hi tab_six)).2.1 hi
  exact ⟨a, b, fun j hj => of_decide_eq_true (List.all_eq_true.mp c j hj)⟩
theorem tab2 (h1 : 1 ≤ n) (h3 : n ≤ 3) (hi : i + 1 < (pmTab n).length) : nextPm (pmAt n i).1 (pmAt n i).2 = some (pmAt n (i + 1)) :=
  (tab_facts h1 h3 (by have := tab_six (n := n); omega)).2.2.1 hi
theorem tab3 (h1 : 1 ≤ n) (h3 : n ≤ 3) (hi : i + 1 = (pmTab n).length) : lastPm (pmAt n i).1 (pmAt n i).2 = true :=
  (tab_facts h1 h3 (by have := tab_six (n := n); omega)).2.2.2 hi
end
/-- the i-th order of xs -/
def permV (xs : List V) (i : Nat) : List V := (pmAt xs.length i).1.map fun j => xs.getD j .non
def ItP (xs : List V) : It := ⟨fun i _ => i < (pmTab xs.length).length, fun i H v H' => ∃ T, ∃ o : Obj, v = .ref T ∧ o.dict = none ∧ H T = none ∧ H' = upd H T (.frz o (.tup (permV xs i))), fun i _ => (pmTab xs.length).length ≤ i⟩
theorem vals_perm {xs : List V} {vs : List Value} (r : Vals xs vs) : ∀ {ix : List Nat}, (∀ j ∈ ix, j < xs.length) → Vals (ix.map fun j => xs.getD j .non) (ix.map fun j => vs.toArray.getD j .none)
  | [], _ => .nil
  | j :: ix, h => by
    have hj := h j (List.mem_cons_self ..)
    obtain ⟨u, h1, h2⟩ := r.get (List.getElem?_eq_getElem hj)
    have e1 : xs.getD j .non = xs[j] := by simp [hj]
    have e2 : vs.toArray.getD j .none = u := by
      have : j < vs.length := (List.getElem?_eq_some_iff.mp h1).1
      have h3 : vs[j] = u := (List.getElem?_eq_some_iff.mp h1).2
      simp [Array.getD, this, h3]
    refine .cons ?_ (vals_perm r fun k hk => h k (List.mem_cons_of_mem _ hk))
    show L2.RelV (xs.getD j .non) (vs.toArray.getD j .none)
    rw [e1, e2]
    exact h2
/-- where the walk stands behind i orders -/
def PmAt (xs : List V) (vs : List Value) (it p : Addr) (i : Nat) (h : Heap) : Prop := it ≠ p ∧ IsTup h p vs.toArray ∧
  ((i = 0 ∧ IsPm h it (.ref p) .none 0 vs.length (List.range vs.length) (cyc vs.length)) ∨ ∃ k last, i = k + 1 ∧ k < (pmTab vs.length).length ∧ IsPm h it (.ref p) last 1 vs.length (pmAt vs.length k).1 (pmAt vs.length k).2)
theorem letGo_pm {M : Model} {A : Around} {E : Value → Shared → Prop} {s : Shared} {tg : Expr} {it : Addr} {pool last u : Value} {st : Int} {r : Nat} {ix cy : List Nat} {Q : Unit → Shared → Prop} (hit : IsPm s.heap it pool last st r ix cy) (hQ : Q () s) : wpAny M A (letOwnedTupleGo tg (.ref it) u) Q E s :=
  go_of (n := "itertools.permutations") hit rfl rfl (by decide) hQ
theorem turn_perm {P : Program} {w : World} {K : PySem.W.Frag} {tg : Expr} {xs : List V} {vs : List Value} (rv : Vals xs vs) (h1 : 1 ≤ xs.length) (h3 : xs.length ≤ 3) (it p : Addr) : Turn P w K tg (ItP xs) [it, p] it (fun i h => PmAt xs vs it p i h) where
  mem := by simp
  obj := fun i h st c hc => by
    obtain ⟨_, ⟨o, ho, _, n, hd⟩, st⟩ := st
    have e' : c = it ∨ c = p := by simpa using hc
    rcases e' with rfl | rfl
    · rcases st with ⟨_, hi⟩ | ⟨_, _, _, _, hi⟩
      · exact ⟨_, hi, fun v q => nomatch q⟩
      · exact ⟨_, hi, fun v q => nomatch q⟩
    · exact ⟨o, ho, fun v q => by rw [hd] at q; cases q⟩
  keep := fun i h h' st k => by
    obtain ⟨ne, ⟨o, ho, hc, n, hd⟩, st⟩ := st
    refine ⟨ne, ⟨o, k p (by simp) _ ho, hc, n, hd⟩, ?_⟩
    rcases st with ⟨e, hi⟩ | ⟨j, l, e, hj, hi⟩
    · exact .inl ⟨e, k it (by simp) _ hi⟩
    · exact .inr ⟨j, l, e, hj, k it (by simp) _ hi⟩
  item := by
    intro X hP hw hK hc i pins s σ H E I hf st hg
    subst hP hw hK
    have ln : xs.length = vs.length := rv.length
    obtain ⟨ne, hp, st⟩ := st
    have hg' : i < (pmTab vs.length).length := by rw [← ln]; exact hg
    rw [ln] at h1 h3
    obtain ⟨t1, t2, t3⟩ := tab1 h1 h3 hg'
    have fin : ∀ h' T, s.heap.objs.size ≤ T → (∀ b o, b ≠ it → s.heap.get? b = some o → h'.get? b = some o) → IsPm h' it (.ref p) (.ref T) 1 vs.length (pmAt vs.length i).1 (pmAt vs.length i).2 →
        h'.get? T = some { cls := .type "tuple", data := .seq ((pmAt vs.length i).1.map fun j => vs.toArray.getD j .none).toArray } →
        ∃ u, (some (Value.ref T)) = some u ∧ wpAny (model X.prog X.w) X.A (letOwnedTupleGo tg (.ref it) u) (fun _ s2 => ∃ x H', Inv X pins σ H' s2 ∧ RelV x u ∧ (ItP xs).yld i H x H' ∧ PmAt xs vs it p (i + 1) s2.heap ∧ ∀ b ∈ [it, p], H' b = none) E { s with heap := h' } := by
      intro h' T hT kk hi hTo
      refine ⟨_, rfl, letGo_pm hi ?_⟩
      have hl : (permV xs i).length ≤ sizeLine := by
        unfold permV
        rw [List.length_map, ln, t1, sizeLine_eq]
        omega
      have vv : Vals (permV xs i) ((pmAt vs.length i).1.map fun j => vs.toArray.getD j .none) := by
        unfold permV
        rw [ln]
        exact vals_perm rv fun j hj => by rw [ln]; exact t3 j hj
      have new : ObjOk X.prog X.w (upd H T (.frz { cls := .type "tuple", data := .seq ((pmAt vs.length i).1.map fun j => vs.toArray.getD j .none).toArray } (.tup (permV xs i)))) h' T (.frz { cls := .type "tuple", data := .seq ((pmAt vs.length i).1.map fun j => vs.toArray.getD j .none).toArray } (.tup (permV xs i))) := ⟨hTo, hl, _, vv, ⟨_, hTo, rfl, _, rfl⟩⟩
      have I1 : Inv X pins σ (upd H T (.frz { cls := .type "tuple", data := .seq ((pmAt vs.length i).1.map fun j => vs.toArray.getD j .none).toArray } (.tup (permV xs i)))) { s with heap := h' } := I.turnedNew (t' := s.toks) (ch := [it, p]) (fun c o hb q => kk c o (fun q' => hb (by simp [q'])) q) hf hT new
      obtain ⟨o, ho, hcl, n, hd⟩ := id hp
      refine ⟨.ref T, _, I1, rfl, ⟨T, _, rfl, rfl, I.hok.fresh hT, rfl⟩, ⟨ne, ⟨o, kk p o (Ne.symm ne) ho, hcl, n, hd⟩, .inr ⟨i, _, rfl, hg', hi⟩⟩, fun b hb => ?_⟩
      have hlt : b < s.heap.objs.size := by
        have e' : b = it ∨ b = p := by simpa using hb
        rcases e' with rfl | rfl
        · rcases st with ⟨_, hi⟩ | ⟨_, _, _, _, hi⟩
          · exact Heap.lt_size hi
          · exact Heap.lt_size hi
        · exact Heap.lt_size ho
      rw [upd_ne (Nat.ne_of_lt (Nat.lt_of_lt_of_le hlt hT))]
      exact (hf b hb).1
    unfold pyNext
    refine wpAny_bind (wpAny_attempt ?_)
    rcases st with ⟨rfl, hi⟩ | ⟨k, last, rfl, hk, hi⟩
    · have e0 := tab0 h1 h3
      refine pm_item0 hi hp (by omega) (by simp) fun h' T hT kk hi' hTo => ?_
      refine wpAny_pure (fin h' T hT kk ?_ ?_)
      · rw [e0]; exact hi'
      · rw [e0]; exact hTo
    · obtain ⟨a1, a2, _⟩ := tab1 h1 h3 hk
      exact pm_item1 hi hp (by omega) a1 (tab2 h1 h3 hg') t1 t2 fun h' T hT kk hi' hTo => wpAny_pure (fin h' T hT kk hi' hTo)
  done := by
    intro X hP hw hK hc i pins s σ H E I hf st hg
    subst hP hw hK
    have ln : xs.length = vs.length := rv.length
    obtain ⟨ne, hp, st⟩ := st
    have hg' : (pmTab vs.length).length ≤ i := by rw [← ln]; exact hg
    rw [ln] at h1 h3
    have hpos : 0 < (pmTab vs.length).length := by
      have : vs.length = 1 ∨ vs.length = 2 ∨ vs.length = 3 := by omega
      rcases this with e | e | e <;> rw [e] <;> decide
    rcases st with ⟨rfl, _⟩ | ⟨k, last, rfl, hk, hi⟩
    · omega
    · obtain ⟨a1, _⟩ := tab1 h1 h3 hk
      unfold pyNext
      refine wpAny_bind (wpAny_attempt ?_)
      refine pm_stop (I.ok.hd hc) hi hp a1 (tab3 h1 h3 (by omega)) fun e h' he hx => ?_
      obtain ⟨a, o, ws, rfl, ho, hcl, hd, hw⟩ := he
      refine wpAny_bind (wpAny_isInstance (T := "StopIteration") (b := true) ⟨_, ho, hcl⟩ isSubtype_stop ?_)
      exact wpAny_pure ⟨rfl, I.turnedL (t' := s.toks) (ch := [it, p]) (fun c o hb q => hx c o (fun q' => hb (by simp [q'])) q) hf⟩
  self := fun A i s Q E st h => by
    obtain ⟨_, _, ⟨_, hi⟩ | ⟨_, _, _, _, hi⟩⟩ := st
    · exact iter_pm hi h
    · exact iter_pm hi h
end Pm

/-! Vp4: permutations as a rule of the layer. -/
namespace Pm
open PySem PySem.Spec PyProof.Rows L2
section
variable {prog : Program} {w : World} {A : Around} {E : Value → Shared → Prop} {s : Shared}
theorem pmHeap_facts {h : Heap} {vs : List Value} : (∀ b o, h.get? b = some o → (pmHeap h vs).get? b = some o) ∧ IsTup (pmHeap h vs) (h.objs.size + 1) vs.toArray ∧
    IsPm (pmHeap h vs) (h.objs.size + 2) (.ref (h.objs.size + 1)) .none 0 vs.length (List.range vs.length) (cyc vs.length) := by
  have hs1 : ((h.push (seqObj "list" #[] 0)).update h.objs.size (Obj.mapSeq (· ++ vs.toArray))).objs.size = h.objs.size + 1 := by rw [Heap.size_update, size_push']
  have hs2 : (((h.push (seqObj "list" #[] 0)).update h.objs.size (Obj.mapSeq (· ++ vs.toArray))).push { cls := .type "tuple", data := .seq vs.toArray }).objs.size = h.objs.size + 2 := by rw [size_push', hs1]
  refine ⟨fun b o e => ?_, ?_, ?_⟩
  · have hb : b < h.objs.size := Heap.lt_size e
    refine Heap.get?_push_of_some _ (Heap.get?_push_of_some _ ?_)
    rw [Heap.get?_update_other _ _ (Nat.ne_of_gt hb)]
    exact Heap.get?_push_of_some _ e
  · refine ⟨{ cls := .type "tuple", data := .seq vs.toArray }, Heap.get?_push_of_some _ ?_, rfl, 0, rfl⟩
    rw [← hs1]
    exact Heap.get?_push_size _ rfl
  · unfold IsPm
    rw [← hs2]
    exact Heap.get?_push_size _ rfl
theorem call_perm {a : Addr} {vs : List Value} {Q : Value → Shared → Prop} (hl : IsTup s.heap a vs.toArray) (hz : vs.length ≤ 1000) (h : Q (.ref (s.heap.objs.size + 2)) { s with heap := pmHeap s.heap vs }) :
    wpAny (model prog w) A (call (.type "itertools.permutations") [.ref a]) Q E s := by
  refine callType_newIn called_pm (by decide +kernel) (typeCall_pm _) (newCall_pm _) (fun obj => F.args_object_init_2 obj _) entry_pm_new (meets_pm_new a vs hz) ?_
  exact ⟨hl, ⟨_, (pmHeap_facts (h := s.heap) (vs := vs)).2.2, rfl⟩, h⟩
end
def iPermA (K : PySem.W.Frag) (ta : TA) : TI := fun σ H R => ta σ H fun vs H1 => ∃ a xs, vs = [.ref a] ∧ SqT K H1 a xs ∧ 1 ≤ xs.length ∧ xs.length ≤ 3 ∧ R (ItP xs) H1
theorem pi_perm {X : Cx} {tg e : Expr} {ta : TA} {p pos : Pos} (hg : Gl X "permutations") (hm : X.mg "permutations" = some (.type "itertools.permutations")) (ha : PA X [e] ta)
    (hs : starEach [e] X.env = (false, eval e X.env) :: starEach [] X.env := by rfl) (hpl : (backTo pos (starEach [] X.env)).any (·.1) = false := by rfl) :
    PI X tg (.Call (.Name "permutations" p) [e] [] pos) (iPermA X.K ta) := by
  refine ⟨fun pins s σ H R I h => ?_⟩
  refine Call_ (ld_glob I hg hm (callWith_type1 (thn (ha.run pos pins s σ H _ I h) fun us s1 ⟨vs, H1, I1, r1, q1⟩ => ?_) hs hpl))
  obtain ⟨a, xs, ex, hq, h1, h3, q⟩ := q1
  subst ex
  cases r1 with
  | cons r rr =>
    cases rr
    cases r
    obtain ⟨its, rv, pt, _⟩ := I1.tuple hq
    have ln := rv.length
    refine call_perm pt (by omega) ?_
    obtain ⟨f1, f2, f3⟩ := pmHeap_facts (h := s1.heap) (vs := its)
    refine iter_pm f3 ?_
    have I2 : Inv X pins σ H1 { s1 with heap := pmHeap s1.heap its } := I1.kept (t' := s1.toks) f1
    refine ⟨s1.heap.objs.size + 2, [s1.heap.objs.size + 2, s1.heap.objs.size + 1], _, _, H1, rfl, I2, turn_perm rv h1 h3 _ (s1.heap.objs.size + 1), ⟨Nat.ne_of_gt (Nat.lt_succ_self (s1.heap.objs.size + 1)), f2, .inl ⟨rfl, f3⟩⟩, fun c hc => ?_, q⟩
    have hle : s1.heap.objs.size ≤ c := by
      have e' : c = s1.heap.objs.size + 2 ∨ c = s1.heap.objs.size + 1 := by simpa using hc
      rcases e' with z | z
      · rw [z]; exact Nat.le_add_right _ _
      · rw [z]; exact Nat.le_add_right _ _
    exact I1.fpOk hle (I1.hok.fresh hle)
end Pm
namespace Va
open PySem L2 PyProof.Rows
/-- the orders of a tuple's items -/
def permD (ds : List PyData) : List PyData := (Pm.pmTab ds.length).map fun t => .tuple (t.1.map fun j => ds.getD j .none)
def iPerm (f : AFn) : IF := fun ρ => (f ρ).bind fun p => match p.1 with
  | [.tuple ds] => if flatL ds = true ∧ 1 ≤ ds.length ∧ ds.length ≤ 3 then some (permD ds, .mv []) else none
  | _ => none
theorem rpl_pick {K : PySem.W.Frag} {H : Hp} {xs : List V} {ds : List PyData} (r : RpL K H xs ds []) (hf : flatL ds = true) : ∀ {ix : List Nat}, (∀ j ∈ ix, j < ds.length) → RpL K H (ix.map fun j => xs.getD j .non) (ix.map fun j => ds.getD j .none) []
  | [], _ => .nil
  | j :: ix, h => by
    have hj := h j (List.mem_cons_self ..)
    obtain ⟨v, A, G, B, h1, h2, h3⟩ := r.get j (List.getElem?_eq_getElem hj)
    have hG : G = [] := by
      have := h3.symm
      simp only [List.append_eq_nil_iff] at this
      exact this.2.1
    subst hG
    have e1 : xs.getD j .non = v := by rw [List.getD_eq_getElem?_getD, h1]; rfl
    have e2 : ds.getD j .none = ds[j] := by simp [hj]
    have := RpL.cons h2 (rpl_pick r hf fun k hk => h k (List.mem_cons_of_mem _ hk))
    show RpL K H (xs.getD j .non :: _) (ds.getD j .none :: _) []
    rw [e1, e2]
    exact this
theorem vi_perm {K : PySem.W.Frag} {ta : TA} {fa : AFn} (h : VA K ta fa) : VI K (Pm.iPermA K ta) (iPerm fa) := by
  intro B AF σ H ρ Fs ds k S e R q
  obtain ⟨⟨es, k1⟩, e1, e2⟩ := Option.bind_eq_some_iff.mp e
  clear e
  simp only at e2
  split at e2
  case h_2 => cases e2
  rename_i xs
  split at e2
  case isFalse => cases e2
  rename_i hc
  obtain ⟨hf, h1, h3⟩ := hc
  cases e2
  refine h B AF σ H ρ Fs _ _ S e1 _ fun vs H1 F g1 r1 o1 => ?_
  obtain ⟨v, rfl, rv⟩ := r1.one'
  cases rv with
  | tup ha rl =>
    rename_i a us
    have hF := rl.flat hf
    subst hF
    have hl := rl.length
    refine ⟨a, us, rfl, ha.1, by omega, by omega, q _ H1 [] g1 ⟨fun b hb => (nomatch hb), fun H' kp i d hd => ?_, fun H' kp i hi => ?_⟩ fun b hb => nomatch hb⟩
    · unfold permD at hd
      rw [List.getElem?_map] at hd
      obtain ⟨t, ht, rfl⟩ := Option.map_eq_some_iff.mp hd
      have hi : i < (Pm.pmTab us.length).length := by rw [hl]; exact (List.getElem?_eq_some_iff.mp ht).1
      refine ⟨hi, fun x H'' ⟨T, o, e1, e0, e2, e3⟩ => ?_⟩
      subst e1 e3
      refine ⟨.new e2, [], ?_, fun b hb => nomatch hb⟩
      have hat : Pm.pmAt us.length i = t := by
        unfold Pm.pmAt
        rw [hl, List.getD_eq_getElem?_getD, ht]
        rfl
      have r2 := rpl_pick (rl.kp kp) hf (ix := t.1) (by
        have := (Pm.tab1 (n := us.length) (by omega) (by omega) hi).2.2
        rw [hat, hl] at this
        exact this)
      have := rp_tupN r2 e2 e0
      unfold Pm.permV
      rw [hat]
      exact this
    · show (Pm.pmTab us.length).length ≤ i
      unfold permD at hi
      rw [List.length_map] at hi
      rw [hl]
      exact hi
def permK (p : Option (List PyData × Kd)) : Option (List PyData × Kd) := p.bind fun p => match p.1 with
  | [.tuple ds] => if flatL ds = true ∧ 1 ≤ ds.length ∧ ds.length ≤ 3 then some (permD ds, .mv []) else none
  | _ => none
@[simp] theorem iPerm_eq {a : AFn} {ρ : Env} : iPerm a ρ = permK (a ρ) := (rfl)
@[simp] theorem permK_eq {ds : List PyData} {k : Kd} : permK (some ([.tuple ds], k)) = if flatL ds = true ∧ 1 ≤ ds.length ∧ ds.length ≤ 3 then some (permD ds, .mv []) else none := (rfl)
end Va

/-! Vp5: permutations, typed. -/
namespace Va
open PySem L2 PyProof.Rows PySem.W PySem.Calls
def permI (xs : List Int) : List (List Int) := (Pm.pmTab xs.length).map fun t => t.1.map fun j => xs.getD j 0
def permO (xs : List Int) : Option (List (List Int)) := if 1 ≤ xs.length ∧ xs.length ≤ 3 then some (permI xs) else none
section
variable {K : PySem.W.Frag} {t : TA} {ρ : Env} {k : Kd}
theorem permD_map {xs : List Int} (h1 : 1 ≤ xs.length) (h3 : xs.length ≤ 3) : permD (xs.map PyData.int) = (permI xs).map (ET PyData.int) := by
  unfold permD permI
  rw [List.length_map, List.map_map]
  refine List.map_congr_left fun p hp => ?_
  have hj : ∀ j ∈ p.1, j < xs.length := by
    obtain ⟨i, hi, e⟩ := List.mem_iff_getElem.mp hp
    have := (Pm.tab1 h1 h3 hi).2.2
    unfold Pm.pmAt at this
    rw [List.getD_eq_getElem?_getD, List.getElem?_eq_getElem hi, Option.getD_some, e] at this
    exact this
  show PyData.tuple _ = PyData.tuple _
  congr 1
  rw [List.map_map]
  refine List.map_congr_left fun j h => ?_
  have := hj j h
  show (xs.map PyData.int).getD j .none = PyData.int (xs.getD j 0)
  simp [this]
theorem i_perm {xs : List Int} {l : List (List Int)} (ha : PA' K t ρ [.tuple (xs.map PyData.int)] k) (h : permO xs = some l) : PI' K (Pm.iPermA K t) ρ (l.map (ET PyData.int)) (.mv []) := (vi_perm ha).at (by
  unfold permO at h
  split at h
  · rename_i hc
    cases h
    rw [iPerm_eq, pE_same, permK_eq, if_pos ⟨flatL_ints, by rw [List.length_map]; exact hc.1, by rw [List.length_map]; exact hc.2⟩, permD_map hc.1 hc.2]
  · cases h)
end
end Va

/-! Nb1: walks over roads; least lengths. -/
namespace Va
/-- a walk of a road at least, all places between of p -/
inductive Wk (E : Nat → Nat → Nat → Prop) (p : Nat → Prop) : Nat → Nat → Nat → Prop
  | one {i j l : Nat} : E i j l → Wk E p i j l
  | step {i x j l L : Nat} : E i x l → p x → Wk E p x j L → Wk E p i j (l + L)
section
variable {E : Nat → Nat → Nat → Prop} {p q : Nat → Prop} {i j k x y L L1 L2 : Nat}
theorem Wk.mono (h : Wk E p i j L) (s : ∀ x, p x → q x) : Wk E q i j L := by
  induction h with
  | one e => exact .one e
  | step e hx _ ih => exact .step e (s _ hx) ih
theorem Wk.app (h : Wk E p i x L1) (hx : p x) (k : Wk E p x j L2) : Wk E p i j (L1 + L2) := by
  induction h with
  | one e => exact .step e hx k
  | step e hy _ ih => rw [Nat.add_assoc]; exact .step e hy (ih hx k)
/-- behind the last time at x -/
theorem Wk.last (h : Wk E q y j L) (s : ∀ z, q z → p z ∨ z = x) : Wk E p y j L ∨ ∃ L2, L2 ≤ L ∧ Wk E p x j L2 := by
  induction h with
  | one e => exact .inl (.one e)
  | @step i z j l L e hz _ ih =>
    rcases ih with h | ⟨L2, h1, h2⟩
    · rcases s z hz with hz | rfl
      · exact .inl (.step e hz h)
      · exact .inr ⟨L, Nat.le_add_left .., h⟩
    · exact .inr ⟨L2, Nat.le_trans h1 (Nat.le_add_left ..), h2⟩
/-- over k, or not -/
theorem Wk.split (h : Wk E q i j L) (s : ∀ z, q z → p z ∨ z = k) : Wk E p i j L ∨ ∃ L1 L2, Wk E p i k L1 ∧ Wk E p k j L2 ∧ L1 + L2 ≤ L := by
  induction h with
  | one e => exact .inl (.one e)
  | @step i z j l L e hz _ ih =>
    rcases s z hz with hz | rfl
    · rcases ih with h | ⟨L1, L2, h1, h2, h3⟩
      · exact .inl (.step e hz h)
      · exact .inr ⟨l + L1, L2, .step e hz h1, h2, by omega⟩
    · rcases ih with h | ⟨L1, L2, h1, h2, h3⟩
      · exact .inr ⟨l, L, .one e, h, Nat.le_refl _⟩
      · exact .inr ⟨l, L2, .one e, h2, by omega⟩
/-- a walk of t roads -/
inductive Wt (E : Nat → Nat → Nat → Prop) : Nat → Nat → Nat → Nat → Prop
  | nil {i : Nat} : Wt E 0 i i 0
  | snoc {t i x j L l : Nat} : Wt E t i x L → E x j l → Wt E (t + 1) i j (L + l)
theorem Wt.cons {t l : Nat} (e : E i x l) (h : Wt E t x j L) : Wt E (t + 1) i j (l + L) := by
  induction h with
  | nil =>
    have := Wt.snoc (Wt.nil (i := i)) e
    simpa using this
  | snoc _ e' ih => rw [← Nat.add_assoc]; exact .snoc (ih e) e'
theorem Wk.few : ∀ (m : Nat) {S : List Nat} {i j L : Nat}, S.length ≤ m → Wk E (· ∈ S) i j L → ∃ L' t, L' ≤ L ∧ t ≤ m + 1 ∧ Wt E t i j L'
  | m, S, i, j, _, hm, .one (l := L) e => ⟨L, 1, Nat.le_refl _, by omega, by have := Wt.cons e (.nil (E := E)); simpa using this⟩
  | m, S, i, j, _, hm, .step (x := x) (l := l) (L := L) e hx w => by
    have hl : (S.erase x).length = S.length - 1 := List.length_erase_of_mem hx
    have hp : 0 < S.length := List.length_pos_of_mem hx
    match m, hm with
    | 0, hm => omega
    | m + 1, hm =>
      have h : ∃ L2, L2 ≤ L ∧ Wk E (· ∈ S.erase x) x j L2 := by
        rcases w.last (p := (· ∈ S.erase x)) (x := x) (fun z hz => by
          by_cases e : z = x
          · exact .inr e
          · exact .inl ((List.mem_erase_of_ne e).mpr hz)) with h | h
        · exact ⟨L, Nat.le_refl _, h⟩
        · exact h
      obtain ⟨L2, h1, h2⟩ := h
      obtain ⟨L3, t, h3, h4, h5⟩ := Wk.few m (S := S.erase x) (by omega) h2
      exact ⟨l + L3, t + 1, by omega, by omega, h5.cons e⟩
/-- of all walks from i over places below n one with n roads at most is no longer -/
theorem Wk.short {n : Nat} (hi : i < n) (h : Wk E (· < n) i j L) : ∃ L' t, L' ≤ L ∧ t ≤ n ∧ Wt E t i j L' := by
  have h1 : ∃ L2, L2 ≤ L ∧ Wk E (· ∈ (List.range n).erase i) i j L2 := by
    rcases h.last (p := (· ∈ (List.range n).erase i)) (x := i) (fun z hz => by
      by_cases e : z = i
      · exact .inr e
      · exact .inl ((List.mem_erase_of_ne e).mpr (List.mem_range.mpr hz))) with h | h
    · exact ⟨L, Nat.le_refl _, h⟩
    · exact h
  obtain ⟨L2, a, b⟩ := h1
  obtain ⟨L3, t, c, d, e⟩ := Wk.few (n - 1) (S := (List.range n).erase i) (by rw [List.length_erase_of_mem (List.mem_range.mpr hi), List.length_range]; omega) b
  exact ⟨L3, t, by omega, by omega, e⟩
end
/-! ### least lengths -/
abbrev Rds := List (Nat × Nat × Nat)
def Ed (rs : Rds) (i j l : Nat) : Prop := (i, j, l) ∈ rs ∨ (j, i, l) ∈ rs
structure Dst (rs : Rds) (n i j : Nat) (o : Option Nat) : Prop where
  real : ∀ v, o = some v → (i = j ∧ v = 0) ∨ Wk (Ed rs) (· < n) i j v
  least : ∀ L, Wk (Ed rs) (· < n) i j L → ∃ v, o = some v ∧ v ≤ L
  self : i = j → o = some 0
theorem Dst.uniq {rs : Rds} {n i j : Nat} {o o' : Option Nat} (h : Dst rs n i j o) (h' : Dst rs n i j o') : o = o' := by
  by_cases e : i = j
  · rw [h.self e, h'.self e]
  · have le : ∀ {a b : Option Nat}, Dst rs n i j a → Dst rs n i j b → ∀ v, a = some v → ∃ u, b = some u ∧ u ≤ v := fun ha hb v hv => by
      rcases ha.real v hv with ⟨z, _⟩ | w
      · exact absurd z e
      · exact hb.least v w
    cases o with
    | none =>
      cases o' with
      | none => rfl
      | some v => obtain ⟨u, q, _⟩ := le h' h v rfl; cases q
    | some v =>
      obtain ⟨u, q, k⟩ := le h h' v rfl
      obtain ⟨w, q', k'⟩ := le h' h u q
      cases q'
      rw [q, Nat.le_antisymm k k']
/-! ### steps to less -/
def oadd : Option Nat → Option Nat → Option Nat
  | some a, some b => some (a + b)
  | _, _ => none
def rlx (c t : Option Nat) : Option Nat := match t with
  | none => c
  | some t => match c with
    | none => some t
    | some c => if t < c then some t else some c
/-- at most, none being without bound -/
def ole (a b : Option Nat) : Prop := ∀ v, b = some v → ∃ u, a = some u ∧ u ≤ v
section
variable {a b c d t : Option Nat}
theorem ole.refl : ole a a := fun v h => ⟨v, h, Nat.le_refl _⟩
theorem ole.trans (h : ole a b) (k : ole b c) : ole a c := fun v e => by
  obtain ⟨u, e1, l1⟩ := k v e
  obtain ⟨w, e2, l2⟩ := h u e1
  exact ⟨w, e2, Nat.le_trans l2 l1⟩
theorem ole_add (h : ole a b) (k : ole c d) : ole (oadd a c) (oadd b d) := fun v e => by
  cases b with
  | none => cases e
  | some b =>
    cases d with
    | none => cases e
    | some d =>
      cases e
      obtain ⟨u, rfl, l1⟩ := h b rfl
      obtain ⟨w, rfl, l2⟩ := k d rfl
      exact ⟨u + w, rfl, Nat.add_le_add l1 l2⟩
theorem rlx_l : ole (rlx c t) c := fun v e => by
  cases e
  cases t with
  | none => exact ⟨v, rfl, Nat.le_refl _⟩
  | some t =>
    unfold rlx
    simp only
    split
    · exact ⟨t, rfl, by omega⟩
    · exact ⟨v, rfl, Nat.le_refl _⟩
theorem rlx_r : ole (rlx c t) t := fun v e => by
  cases e
  unfold rlx
  cases c with
  | none => exact ⟨v, rfl, Nat.le_refl _⟩
  | some c =>
    simp only
    split
    · exact ⟨v, rfl, Nat.le_refl _⟩
    · exact ⟨c, rfl, by omega⟩
theorem rlx_or : rlx c t = c ∨ rlx c t = t := by
  unfold rlx
  cases t with
  | none => exact .inl rfl
  | some t =>
    cases c with
    | none => exact .inr rfl
    | some c =>
      simp only
      split
      · exact .inr rfl
      · exact .inl rfl
end
def upd1 (g : Nat → Option Nat) (j : Nat) (v : Option Nat) : Nat → Option Nat := fun k => if k = j then v else g k
def upd2 (G : Nat → Nat → Option Nat) (i j : Nat) (v : Option Nat) : Nat → Nat → Option Nat := fun a b => if a = i ∧ b = j then v else G a b
theorem upd2_row {G : Nat → Nat → Option Nat} {i j a : Nat} {v : Option Nat} : upd2 G i j v a = if a = i then upd1 (G i) j v else G a := by
  funext b
  unfold upd2 upd1
  by_cases h : a = i
  · subst h; simp
  · simp [h]
/-! ### all ways at once, place by place -/
section
variable {rs : Rds} {n m : Nat} {G G0 : Nat → Nat → Option Nat}
def Real2 (rs : Rds) (n : Nat) (G : Nat → Nat → Option Nat) : Prop := ∀ i j v, i < n → j < n → G i j = some v → (i = j ∧ v = 0) ∨ Wk (Ed rs) (· < n) i j v
structure Fw (rs : Rds) (n m : Nat) (G : Nat → Nat → Option Nat) : Prop where
  real : Real2 rs n G
  least : ∀ i j L, i < n → j < n → Wk (Ed rs) (· < m) i j L → ∃ v, G i j = some v ∧ v ≤ L
  self : ∀ i, i < n → G i i = some 0
/-- in the turn of the place m: behind the pairs ahead of (i, j) -/
structure FwIn (rs : Rds) (n m : Nat) (G0 : Nat → Nat → Option Nat) (i j : Nat) (G : Nat → Nat → Option Nat) : Prop where
  real : Real2 rs n G
  less : ∀ a b, a < n → b < n → ole (G a b) (G0 a b)
  done : ∀ a b, a < n → b < n → (a < i ∨ (a = i ∧ b < j)) → ole (G a b) (oadd (G0 a m) (G0 m b))
theorem Fw.into (h : Fw rs n m G) : FwIn rs n m G 0 0 G := ⟨h.real, fun _ _ _ _ => .refl, fun a b _ _ h => by omega⟩
theorem FwIn.step {i j : Nat} (h : FwIn rs n m G0 i j G) (hm : m < n) (hi : i < n) (hj : j < n) : FwIn rs n m G0 i (j + 1) (upd2 G i j (rlx (G i j) (oadd (G i m) (G m j)))) := by
  have le : ∀ a b, ole (upd2 G i j (rlx (G i j) (oadd (G i m) (G m j))) a b) (G a b) := fun a b => by
    unfold upd2
    split
    · rename_i e
      rw [e.1, e.2]
      exact rlx_l
    · exact .refl
  refine ⟨fun a b v ha hb e => ?_, fun a b ha hb => (le a b).trans (h.less a b ha hb), fun a b ha hb hd => ?_⟩
  · unfold upd2 at e
    split at e
    · rename_i q
      obtain ⟨rfl, rfl⟩ := q
      rcases rlx_or (c := G a b) (t := oadd (G a m) (G m b)) with z | z
      · exact h.real a b v ha hb (z ▸ e)
      · rw [z] at e
        cases e1 : G a m with
        | none => rw [e1] at e; cases e
        | some u =>
          cases e2 : G m b with
          | none => rw [e1, e2] at e; cases e
          | some w =>
            rw [e1, e2] at e
            cases e
            rcases h.real a m u ha hm e1 with ⟨rfl, rfl⟩ | w1
            · rw [Nat.zero_add]
              exact h.real a b w ha hb e2
            · rcases h.real m b w hm hb e2 with ⟨rfl, rfl⟩ | w2
              · exact .inr w1
              · exact .inr (w1.app hm w2)
    · exact h.real a b v ha hb e
  · by_cases q : a = i ∧ b = j
    · obtain ⟨rfl, rfl⟩ := q
      unfold upd2
      rw [if_pos ⟨rfl, rfl⟩]
      exact rlx_r.trans (ole_add (h.less a m ha hm) (h.less m b hm hb))
    · exact (le a b).trans (h.done a b ha hb (by omega))
theorem FwIn.row {i : Nat} (h : FwIn rs n m G0 i n G) : FwIn rs n m G0 (i + 1) 0 G := ⟨h.real, h.less, fun a b ha hb hd => h.done a b ha hb (by omega)⟩
theorem FwIn.out (h0 : Fw rs n m G0) (h : FwIn rs n m G0 n 0 G) (hm : m < n) : Fw rs n (m + 1) G := by
  refine ⟨h.real, fun i j L hi hj w => ?_, fun i hi => ?_⟩
  · rcases w.split (p := (· < m)) (k := m) (fun z hz => by omega) with w | ⟨L1, L2, w1, w2, hl⟩
    · obtain ⟨v, e, l⟩ := h0.least i j L hi hj w
      obtain ⟨u, e', l'⟩ := h.less i j hi hj v e
      exact ⟨u, e', by omega⟩
    · obtain ⟨v1, e1, l1⟩ := h0.least i m L1 hi hm w1
      obtain ⟨v2, e2, l2⟩ := h0.least m j L2 hm hj w2
      obtain ⟨u, e', l'⟩ := h.done i j hi hj (.inl hi) (v1 + v2) (by rw [e1, e2]; rfl)
      exact ⟨u, e', by omega⟩
  · obtain ⟨u, e, l⟩ := h.less i i hi hi 0 (h0.self i hi)
    rw [e, Nat.le_zero.mp l]
theorem Fw.dst (h : Fw rs n n G) {i j : Nat} (hi : i < n) (hj : j < n) : Dst rs n i j (G i j) := ⟨fun v e => h.real i j v hi hj e, fun L w => h.least i j L hi hj w, fun e => by subst e; exact h.self i hi⟩
end
/-! ### from one place, road by road -/
section
variable {rs : Rds} {n s t : Nat} {g g0 : Nat → Option Nat}
def Real1 (rs : Rds) (n s : Nat) (g : Nat → Option Nat) : Prop := ∀ j v, j < n → g j = some v → (s = j ∧ v = 0) ∨ Wk (Ed rs) (· < n) s j v
structure Bf (rs : Rds) (n s t : Nat) (g : Nat → Option Nat) : Prop where
  real : Real1 rs n s g
  least : ∀ t' j L, t' ≤ t → j < n → Wt (Ed rs) t' s j L → ∃ v, g j = some v ∧ v ≤ L
/-- in a turn: behind the roads D -/
structure BfIn (rs : Rds) (n s : Nat) (g0 : Nat → Option Nat) (D : List (Nat × Nat × Nat)) (g : Nat → Option Nat) : Prop where
  real : Real1 rs n s g
  less : ∀ a, a < n → ole (g a) (g0 a)
  done : ∀ d ∈ D, ole (g d.2.1) (oadd (g0 d.1) (some d.2.2))
theorem Bf.into (h : Bf rs n s t g) : BfIn rs n s g [] g := ⟨h.real, fun _ _ => .refl, fun d h => nomatch h⟩
theorem Real1.step {a b l : Nat} (h : Real1 rs n s g) (ha : a < n) (e : Ed rs a b l) {v : Nat} (hv : oadd (g a) (some l) = some v) : (s = b ∧ v = 0) ∨ Wk (Ed rs) (· < n) s b v := by
  cases e1 : g a with
  | none => rw [e1] at hv; cases hv
  | some u =>
    rw [e1] at hv
    cases hv
    rcases h a u ha e1 with ⟨rfl, rfl⟩ | w
    · rw [Nat.zero_add]; exact .inr (.one e)
    · exact .inr (w.app ha (.one e))
theorem BfIn.step {D : List (Nat × Nat × Nat)} {a b l : Nat} (h : BfIn rs n s g0 D g) (ha : a < n) (hb : b < n) (e : Ed rs a b l) : BfIn rs n s g0 (D ++ [(a, b, l)]) (upd1 g b (rlx (g b) (oadd (g a) (some l)))) := by
  have le : ∀ c, ole (upd1 g b (rlx (g b) (oadd (g a) (some l))) c) (g c) := fun c => by
    unfold upd1
    split
    · rename_i q
      rw [q]
      exact rlx_l
    · exact .refl
  refine ⟨fun j v hj q => ?_, fun c hc => (le c).trans (h.less c hc), fun d hd => ?_⟩
  · unfold upd1 at q
    split at q
    · rename_i z
      subst z
      rcases rlx_or (c := g j) (t := oadd (g a) (some l)) with z | z
      · exact h.real j v hj (z ▸ q)
      · rw [z] at q
        exact h.real.step ha e q
    · exact h.real j v hj q
  · rcases List.mem_append.mp hd with hd | hd
    · exact (le _).trans (h.done d hd)
    · rcases List.mem_singleton.mp hd with rfl
      show ole (upd1 g b _ b) (oadd (g0 a) (some l))
      unfold upd1
      rw [if_pos rfl]
      exact rlx_r.trans (ole_add (h.less a ha) .refl)
theorem BfIn.out {D : List (Nat × Nat × Nat)} (h0 : Bf rs n s t g0) (h : BfIn rs n s g0 D g) (hb : ∀ i j l, Ed rs i j l → i < n ∧ j < n) (hD : ∀ i j l, Ed rs i j l → (i, j, l) ∈ D) : Bf rs n s (t + 1) g := by
  refine ⟨h.real, fun t' j L ht hj w => ?_⟩
  rcases Nat.lt_or_eq_of_le ht with ht | rfl
  · obtain ⟨v, e, l⟩ := h0.least t' j L (by omega) hj w
    obtain ⟨u, e', l'⟩ := h.less j hj v e
    exact ⟨u, e', by omega⟩
  · cases w with
    | @snoc t i x j L l w e =>
      obtain ⟨v, e1, l1⟩ := h0.least t x L (Nat.le_refl _) (hb _ _ _ e).1 w
      obtain ⟨u, e', l'⟩ := h.done _ (hD _ _ _ e) (v + l) (by rw [e1]; rfl)
      exact ⟨u, e', by omega⟩
theorem Bf.dst (h : Bf rs n s n g) (hs : s < n) {j : Nat} (hj : j < n) : Dst rs n s j (g j) := by
  refine ⟨fun v e => h.real j v hj e, fun L w => ?_, fun e => ?_⟩
  · obtain ⟨L', t, h1, h2, h3⟩ := w.short hs
    obtain ⟨v, e, l⟩ := h.least t j L' h2 hj h3
    exact ⟨v, e, by omega⟩
  · subst e
    obtain ⟨v, e, l⟩ := h.least 0 s 0 (Nat.zero_le _) hj .nil
    rw [e, Nat.le_zero.mp l]
end
end Va

/-! Nt1: towns and ways, as plain programs. -/
namespace Va
open PySem L2 PyProof.Rows PySem.W PySem.Calls
def L_law_town_b1 (law_draws_here : (List Int)) (law_first : Int) (law_roads : (List (Int × Int × Int))) (law_k : Int) (law_second : Int) : Option ((List (Int × Int × Int)) × Int) := (atI law_draws_here law_k).bind fun x => (if decide ((x % (5 : Int)) < (3 : Int)) = true then (atI law_draws_here law_k).bind fun x2 => (atI law_draws_here law_k).bind fun x3 => (atI ([(3 : Int), (9 : Int)] : (List Int)) ((x3 / (45 : Int)) % (2 : Int))).bind fun x4 => (modO (x2 / (5 : Int)) x4).bind fun n => (appO law_roads (law_first, law_second, ((1 : Int) + n))).bind fun law_roads2 => some law_roads2 else some law_roads).bind fun law_roads3 => letO (law_k + (1 : Int)) fun law_k2 => some (law_roads3, law_k2)
def L_law_town_b2 (law_draws_here : (List Int)) (law_places : Int) (law_k : Int) (law_roads : (List (Int × Int × Int))) (law_first : Int) : Option (Int × (List (Int × Int × Int))) := (range2 (law_first + (1 : Int)) law_places).bind fun l => (loopO (fun s x => L_law_town_b1 law_draws_here law_first s.1 s.2 x) l (law_roads, law_k)).bind fun s2 => some (s2.2, s2.1)
def L_law_town (law_draws_here : (List Int)) (law_most : Int) : Option (Int × (List (Int × Int × Int))) := (atI law_draws_here (0 : Int)).bind fun x => (modO x law_most).bind fun n => letO ((1 : Int) + n) fun law_places => letO ([] : (List (Int × Int × Int))) fun law_roads => (range1 law_places).bind fun l => (loopO (fun s x2 => L_law_town_b2 law_draws_here law_places s.1 s.2 x2) l ((1 : Int), law_roads)).bind fun s4 => some (law_places, s4.2)
abbrev R_law_town : List PyData → PyData × Nat → Prop := RelT (fun (a : ((List Int) × Int)) => [(EL PyData.int) a.1, PyData.int a.2]) (fun a => L_law_town a.1 a.2) (E2 PyData.int (EL (E3 PyData.int PyData.int PyData.int))) 2
def L_ways_b1 (found : (List (List (Option Int)))) (first : Int) (second : Int) (length : Int) : Option (List (List (Option Int))) := (set2O found first second (some length)).bind fun found2 => (set2O found2 second first (some length)).bind fun found3 => some found3
def L_ways_b2 (first : Int) (middle : Int) (found : (List (List (Option Int)))) (second : Int) : Option (List (List (Option Int))) := (atI found first).bind fun x => (atI x middle).bind fun x2 => (if x2.isSome = true then (atI found middle).bind fun x3 => (atI x3 second).bind fun x4 => some x4.isSome else some false).bind fun b => if b = true then (atI found first).bind fun x5 => (atI x5 middle).bind fun x6 => (x6).bind fun v => (atI found middle).bind fun x7 => (atI x7 second).bind fun x8 => (x8).bind fun v2 => letO (v + v2) fun through2 => (atI found first).bind fun x9 => (atI x9 second).bind fun x10 => (if x10.isNone = true then some true else (atI found first).bind fun x11 => (atI x11 second).bind fun x12 => (x12).bind fun v3 => some (decide (through2 < v3))).bind fun b2 => if b2 = true then (set2O found first second (some through2)).bind fun found2 => some found2 else some found else some found
def L_ways_b3 (places : Int) (middle : Int) (found : (List (List (Option Int)))) (first : Int) : Option (List (List (Option Int))) := (range1 places).bind fun l => (loopO (fun s x => L_ways_b2 first middle s x) l found).bind fun s2 => some s2
def L_ways_b4 (places : Int) (found : (List (List (Option Int)))) (middle : Int) : Option (List (List (Option Int))) := (range1 places).bind fun l => (loopO (fun s x => L_ways_b3 places middle s x) l found).bind fun s4 => some s4
def L_ways (town : (Int × (List (Int × Int × Int)))) : Option (List (List (Option Int))) := (range1 town.1).bind fun l => (chk (decide (l.length ≤ 1000000))).bind fun u2 => (mapO (fun x => (range1 town.1).bind fun l2 => (chk (decide (l2.length ≤ 1000000))).bind fun u => some (l2.map fun x2 => (if decide (x = x2) = true then (some (0 : Int)) else (none : (Option Int))))) l).bind fun l3 => (loopO (fun s x3 => L_ways_b1 s x3.1 x3.2.1 x3.2.2) town.2 l3).bind fun s2 => (range1 town.1).bind fun l4 => (loopO (fun s3 x4 => L_ways_b4 town.1 s3 x4) l4 s2).bind fun s8 => some s8
abbrev R_ways : List PyData → PyData × Nat → Prop := RelT (fun (a : (Int × (List (Int × Int × Int)))) => [(E2 PyData.int (EL (E3 PyData.int PyData.int PyData.int))) a]) (fun a => L_ways a) (EL (EL (EO PyData.int))) 2
def L_law_ways_b1 (law_length : Int) (law_row : (List (Option Int))) (law_one : Int) (law_other : Int) : Option (List (Option Int)) := (atI law_row law_one).bind fun x => (if x.isSome = true then (atI law_row law_other).bind fun x2 => (if x2.isNone = true then some true else (atI law_row law_one).bind fun x3 => (x3).bind fun v => (atI law_row law_other).bind fun x4 => (x4).bind fun v2 => some (decide ((v + law_length) < v2))).bind fun b => some b else some false).bind fun b2 => if b2 = true then (atI law_row law_one).bind fun x5 => (x5).bind fun v3 => (setO law_row law_other (some (v3 + law_length))).bind fun law_row2 => some law_row2 else some law_row
def L_law_ways_b2 (law_row : (List (Option Int))) (law_first : Int) (law_second : Int) (law_length : Int) : Option (List (Option Int)) := (loopO (fun s x => L_law_ways_b1 law_length s x.1 x.2) ([(law_first, law_second), (law_second, law_first)] : (List (Int × Int))) law_row).bind fun s2 => some s2
def L_law_ways_b3 (law_roads : (List (Int × Int × Int))) (law_row : (List (Option Int))) (law_turn : Int) : Option (List (Option Int)) := (loopO (fun s x => L_law_ways_b2 s x.1 x.2.1 x.2.2) law_roads law_row).bind fun s4 => some s4
def L_law_ways_b4 (law_places : Int) (law_roads : (List (Int × Int × Int))) (law_rows : (List (List (Option Int)))) (law_start : Int) : Option (List (List (Option Int))) := (repO ([(none : (Option Int))] : (List (Option Int))) law_places).bind fun l => (setO l law_start (some (0 : Int))).bind fun law_row2 => (range1 law_places).bind fun l2 => (loopO (fun s x => L_law_ways_b3 law_roads s x) l2 law_row2).bind fun s6 => (appO law_rows s6).bind fun law_rows2 => some law_rows2
def L_law_ways (law_town_here : (Int × (List (Int × Int × Int)))) : Option (List (List (Option Int))) := letO ([] : (List (List (Option Int)))) fun law_rows => (range1 law_town_here.1).bind fun l => (loopO (fun s x => L_law_ways_b4 law_town_here.1 law_town_here.2 s x) l law_rows).bind fun s8 => some s8
abbrev R_law_ways : List PyData → PyData × Nat → Prop := RelT (fun (a : (Int × (List (Int × Int × Int)))) => [(E2 PyData.int (EL (E3 PyData.int PyData.int PyData.int))) a]) (fun a => L_law_ways a) (EL (EL (EO PyData.int))) 2
/-! ### loops over numbers -/
theorem loop_nat {σ : Type} {f : σ → Int → Option σ} {lo : Int} {n : Nat} {s : σ} (P : Nat → σ → Prop) (h0 : P 0 s) (step : ∀ (i : Nat) (s : σ), i < n → P i s → ∃ s', f s (lo + (i : Int)) = some s' ∧ P (i + 1) s') :
    ∃ s', loopO f (rangeI lo n) s = some s' ∧ P n s' := by
  have := loopO_pre (f := f) (xs := rangeI lo n) (s := s) (fun ys s => P ys.length s) h0 fun ys x s hp h => by
    obtain ⟨_, rfl, hl⟩ := rangeI_pre hp
    obtain ⟨s', e1, e2⟩ := step ys.length s hl h
    exact ⟨s', e1, by simpa using e2⟩
  simpa using this
theorem loop_nat0 {σ : Type} {f : σ → Int → Option σ} {n : Nat} {s : σ} (P : Nat → σ → Prop) (h0 : P 0 s) (step : ∀ (i : Nat) (s : σ), i < n → P i s → ∃ s', f s (i : Int) = some s' ∧ P (i + 1) s') :
    ∃ s', loopO f (rangeI 0 n) s = some s' ∧ P n s' := loop_nat P h0 fun i s hi h => by rw [Int.zero_add]; exact step i s hi h
/-- over told items -/
theorem loop_to {σ α β : Type} {f : σ → β → Option σ} {e : α → β} {xs : List α} {s : σ} (P : List α → σ → Prop) (h0 : P [] s) (step : ∀ (ys : List α) (x : α) (s : σ), ys ++ [x] <+: xs → P ys s → ∃ s', f s (e x) = some s' ∧ P (ys ++ [x]) s') :
    ∃ s', loopO f (xs.map e) s = some s' ∧ P xs s' := by
  suffices H : ∀ (zs ys : List α) (s : σ), ys ++ zs = xs → P ys s → ∃ s', loopO f (zs.map e) s = some s' ∧ P xs s' from H xs [] s rfl h0
  intro zs
  induction zs with
  | nil => intro ys s q h; rw [List.append_nil] at q; exact ⟨s, rfl, q ▸ h⟩
  | cons z zs ih =>
    intro ys s q h
    obtain ⟨s1, e1, h1⟩ := step ys z s ⟨zs, by rw [List.append_assoc]; exact q⟩ h
    obtain ⟨s2, e2, h2⟩ := ih (ys ++ [z]) s1 (by rw [List.append_assoc]; exact q) h1
    refine ⟨s2, ?_, h2⟩
    rw [List.map_cons, loopO, e1]
    exact e2
theorem atI_ofNat {α : Type} {xs : List α} {i : Nat} : atI xs (i : Int) = xs[i]? := by rw [atI_nat (by omega), Int.toNat_natCast]
theorem ixN_ofNat {n i : Nat} (h : i < n) : ixN n (i : Int) = some i := by
  unfold ixN
  have : (i : Int) < (n : Int) := by omega
  simp [this, show ¬ (i : Int) < 0 by omega]
theorem setO_ofNat {α : Type} {xs : List α} {i : Nat} {v : α} (h : i < xs.length) : setO xs (i : Int) v = some (xs.set i v) := by
  unfold setO
  rw [ixN_ofNat h]
  rfl
theorem chk_le {n m : Nat} (h : n ≤ m) : chk (decide (n ≤ m)) = some () := by simp [chk, h]
/-! ### towns -/
structure Town (n : Nat) (rs : Rds) : Prop where
  pos : 1 ≤ n
  road : ∀ r ∈ rs, r.1 < r.2.1 ∧ r.2.1 < n ∧ 1 ≤ r.2.2 ∧ r.2.2 ≤ 9
  asc : rs.Pairwise fun r s => r.1 < s.1 ∨ (r.1 = s.1 ∧ r.2.1 < s.2.1)
def roadI (r : Nat × Nat × Nat) : Int × Int × Int := ((r.1 : Int), (r.2.1 : Int), (r.2.2 : Int))
def townI (n : Nat) (rs : Rds) : Int × List (Int × Int × Int) := ((n : Int), rs.map roadI)
def pairs (n : Nat) : Nat → Nat
  | 0 => 0
  | i + 1 => pairs n i + (n - 1 - i)
theorem pairs_le {n i : Nat} : ∀ {m : Nat}, i ≤ m → pairs n i ≤ pairs n m
  | 0, h => by rw [Nat.le_zero.mp h]; exact Nat.le_refl _
  | m + 1, h => by
    rcases Nat.lt_or_eq_of_le h with h | h
    · exact Nat.le_trans (pairs_le (Nat.le_of_lt_succ h)) (Nat.le_add_right _ _)
    · rw [h]; exact Nat.le_refl _
theorem draw_at {N : Nat} {ds : List Int} (hd : Drawn N ds) {k : Nat} (hk : k < N) : ∃ x : Nat, ds[k]? = some (x : Int) ∧ x < 1000 := by
  obtain ⟨h1, h2⟩ := hd
  have hk' : k < ds.length := by omega
  have hx := h2 ds[k] (List.getElem_mem hk')
  exact ⟨ds[k].toNat, by rw [List.getElem?_eq_getElem hk']; congr 1; omega, by omega⟩
theorem draw_I {N : Nat} {ds : List Int} (hd : Drawn N ds) {k : Nat} (hk : k < N) : ∃ x : Nat, atI ds (k : Int) = some (x : Int) ∧ x < 1000 := by
  rw [atI_ofNat]
  exact draw_at hd hk
def TownTo (n i j : Nat) (rs : Rds) : Prop :=
  (∀ r ∈ rs, r.1 < r.2.1 ∧ r.2.1 < n ∧ 1 ≤ r.2.2 ∧ r.2.2 ≤ 9 ∧ (r.1 < i ∨ (r.1 = i ∧ r.2.1 < j))) ∧ rs.Pairwise (fun r s => r.1 < s.1 ∨ (r.1 = s.1 ∧ r.2.1 < s.2.1))
theorem townTo_step {n i j l : Nat} {rs : List (Nat × Nat × Nat)} (h : TownTo n i j rs) (hij : i < j) (hj : j < n) (h1 : 1 ≤ l) (h9 : l ≤ 9) : TownTo n i (j + 1) (rs ++ [(i, j, l)]) := by
  refine ⟨fun r hr => ?_, ?_⟩
  · rcases List.mem_append.mp hr with hr | hr
    · obtain ⟨a, b, c, d, e⟩ := h.1 r hr
      exact ⟨a, b, c, d, by omega⟩
    · rcases List.mem_singleton.mp hr with rfl
      exact ⟨hij, hj, h1, h9, .inr ⟨rfl, Nat.lt_succ_self _⟩⟩
  · refine List.pairwise_append.mpr ⟨h.2, List.pairwise_singleton _ _, fun r hr s hs => ?_⟩
    rcases List.mem_singleton.mp hs with rfl
    obtain ⟨a, b, c, d, e⟩ := h.1 r hr
    omega
theorem townTo_skip {n i j i' j' : Nat} {rs : List (Nat × Nat × Nat)} (h : TownTo n i j rs) (hh : i < i' ∨ (i = i' ∧ j ≤ j')) : TownTo n i' j' rs :=
  ⟨fun r hr => by
    obtain ⟨a, b, c, d, e⟩ := h.1 r hr
    exact ⟨a, b, c, d, by omega⟩, h.2⟩
theorem town_b1 {N : Nat} {ds : List Int} (hd : Drawn N ds) {k i j : Nat} {rs : Rds} (hk : k < N) (hr : rs.length < 1000000) :
    ∃ rs', L_law_town_b1 ds (i : Int) (rs.map roadI) (k : Int) (j : Int) = some (rs'.map roadI, ((k + 1 : Nat) : Int)) ∧ (rs' = rs ∨ ∃ l, rs' = rs ++ [(i, j, l)] ∧ 1 ≤ l ∧ l ≤ 9) := by
  obtain ⟨x, hx, hx1⟩ := draw_I hd hk
  have e5 : ((x : Int) % 5 < 3) ↔ x % 5 < 3 := by omega
  by_cases h : x % 5 < 3
  · have e2 : x / 45 % 2 = 0 ∨ x / 45 % 2 = 1 := by omega
    obtain ⟨m, hm, hm1⟩ : ∃ m : Nat, atI [(3 : Int), 9] ((x : Int) / 45 % 2) = some (m : Int) ∧ (m = 3 ∨ m = 9) := by
      rcases e2 with e | e
      · exact ⟨3, by rw [show ((x : Int) / 45 % 2) = ((0 : Nat) : Int) by omega, atI_ofNat]; rfl, .inl rfl⟩
      · exact ⟨9, by rw [show ((x : Int) / 45 % 2) = ((1 : Nat) : Int) by omega, atI_ofNat]; rfl, .inr rfl⟩
    have hmod : modO ((x : Int) / 5) (m : Int) = some (((x / 5 % m : Nat) : Int)) := by
      unfold modO
      rw [if_pos (by omega)]
      simp
    refine ⟨rs ++ [(i, j, 1 + x / 5 % m)], ?_, .inr ⟨_, rfl, by omega, ?_⟩⟩
    · simp [L_law_town_b1, hx, e5, h, hm, hmod, appO, hr, roadI]
    · have := Nat.mod_lt (x / 5) (show 0 < m by omega)
      omega
  · exact ⟨rs, by simp [L_law_town_b1, hx, e5, h], .inl rfl⟩
theorem town_b2 {N : Nat} {ds : List Int} (hd : Drawn N ds) {n i : Nat} {rs : Rds} (hN : 1 + pairs n n ≤ N) (hn : n ≤ 1000) (hi : i < n) (hr : rs.length ≤ 1000 * i) (ht : TownTo n i 0 rs) :
    ∃ rs', L_law_town_b2 ds (n : Int) ((1 + pairs n i : Nat) : Int) (rs.map roadI) (i : Int) = some (((1 + pairs n (i + 1) : Nat) : Int), rs'.map roadI) ∧ rs'.length ≤ 1000 * (i + 1) ∧ TownTo n (i + 1) 0 rs' := by
  have hp := pairs_le (n := n) (i := i + 1) (m := n) (by omega)
  have hl := loop_nat (f := fun s x => L_law_town_b1 ds (i : Int) s.1 s.2 x) (lo := (i : Int) + 1) (n := n - 1 - i) (s := (rs.map roadI, ((1 + pairs n i : Nat) : Int)))
    (fun j s => ∃ rs', s = (rs'.map roadI, ((1 + pairs n i + j : Nat) : Int)) ∧ rs'.length ≤ 1000 * i + j ∧ TownTo n i (i + 1 + j) rs') ⟨rs, rfl, by omega, townTo_skip ht (by omega)⟩ ?_
  · obtain ⟨s, e1, rs', rfl, e2, e3⟩ := hl
    refine ⟨rs', ?_, by omega, townTo_skip e3 (by omega)⟩
    unfold L_law_town_b2
    rw [range2_small (by omega) (by omega) (by omega) (by omega), Option.bind_some, show ((n : Int) - ((i : Int) + 1)).toNat = n - 1 - i by omega, e1]
    rw [Option.bind_some]
    rw [Nat.add_assoc]
    rfl
  · rintro j s hj ⟨rs', rfl, e1, e2⟩
    have hps : pairs n (i + 1) = pairs n i + (n - 1 - i) := rfl
    obtain ⟨rs2, q1, q2⟩ := town_b1 hd (k := 1 + pairs n i + j) (i := i) (j := i + 1 + j) (rs := rs') (by omega) (by omega)
    refine ⟨_, by rw [show (i : Int) + 1 + (j : Int) = ((i + 1 + j : Nat) : Int) by omega]; exact q1, rs2, by rw [Nat.add_assoc], ?_, ?_⟩
    · rcases q2 with rfl | ⟨l, rfl, _, _⟩
      · omega
      · rw [List.length_append, List.length_singleton]; omega
    · rcases q2 with rfl | ⟨l, rfl, l1, l2⟩
      · exact townTo_skip e2 (by omega)
      · exact townTo_step (j := i + 1 + j) e2 (by omega) (by omega) l1 l2
/-- the town that is drawn -/
theorem town_I {N : Nat} {ds : List Int} (hd : Drawn N ds) {most : Nat} (h1 : 1 ≤ most) (h2 : most ≤ 1000) (hN : ∀ n, n ≤ most → 1 + pairs n n ≤ N) :
    ∃ n rs, Town n rs ∧ n ≤ most ∧ L_law_town ds (most : Int) = some (townI n rs) := by
  obtain ⟨x, hx, hx1⟩ := draw_I hd (k := 0) (by have := hN 0 (by omega); omega)
  have hm : x % most < most := Nat.mod_lt _ h1
  have hmod : modO (x : Int) (most : Int) = some ((x % most : Nat) : Int) := by
    unfold modO
    rw [if_pos (by omega)]
    simp
  generalize hn : 1 + x % most = n at *
  have hl := loop_nat0 (f := fun s x => L_law_town_b2 ds (n : Int) s.1 s.2 x) (n := n) (s := ((1 : Int), ([] : List (Int × Int × Int))))
    (fun i s => ∃ rs', s = (((1 + pairs n i : Nat) : Int), rs'.map roadI) ∧ rs'.length ≤ 1000 * i ∧ TownTo n i 0 rs') ⟨[], rfl, by simp, fun r hr => (nomatch hr), List.Pairwise.nil⟩ ?_
  · obtain ⟨s, e1, rs, rfl, e2, e3⟩ := hl
    refine ⟨n, rs, ⟨by omega, fun r hr => ?_, e3.2⟩, by omega, ?_⟩
    · obtain ⟨a, b, c, d, _⟩ := e3.1 r hr
      exact ⟨a, b, c, d⟩
    · have hx' : atI ds 0 = some (x : Int) := hx
      unfold L_law_town
      rw [hx', Option.bind_some, hmod, Option.bind_some]
      simp only [letO_eq]
      rw [show (1 : Int) + ((x % most : Nat) : Int) = (n : Int) by omega, range1_nat (by omega), Option.bind_some, e1]
      rfl
  · rintro i s hi ⟨rs', rfl, e1, e2⟩
    obtain ⟨rs2, q1, q2, q3⟩ := town_b2 hd (n := n) (i := i) (rs := rs') (hN n (by omega)) (by omega) hi e1 e2
    exact ⟨_, q1, rs2, rfl, q2, q3⟩
end Va

/-! Nt2: ways, as plain programs. -/
namespace Va
open PySem L2 PyProof.Rows PySem.W PySem.Calls
/-! ### tables -/
def optI (o : Option Nat) : Option Int := o.map fun v => (v : Int)
@[simp] theorem optI_none : optI none = none := rfl
@[simp] theorem optI_some {v : Nat} : optI (some v) = some (v : Int) := rfl
@[simp] theorem optI_isSome {o : Option Nat} : (optI o).isSome = o.isSome := by cases o <;> rfl
@[simp] theorem optI_isNone {o : Option Nat} : (optI o).isNone = o.isNone := by cases o <;> rfl
def rowI (n : Nat) (g : Nat → Option Nat) : List (Option Int) := (List.range n).map fun j => optI (g j)
def matI (n : Nat) (G : Nat → Nat → Option Nat) : List (List (Option Int)) := (List.range n).map fun i => rowI n (G i)
section
variable {n i j m : Nat} {g : Nat → Option Nat} {G : Nat → Nat → Option Nat} {v o : Option Nat} {k : Nat}
@[simp] theorem rowI_len : (rowI n g).length = n := by simp [rowI]
@[simp] theorem matI_len : (matI n G).length = n := by simp [matI]
theorem rowI_get (h : j < n) : (rowI n g)[j]? = some (optI (g j)) := by simp [rowI, h]
theorem matI_get (h : i < n) : (matI n G)[i]? = some (rowI n (G i)) := by simp [matI, h]
theorem rowI_at (h : j < n) : atI (rowI n g) (j : Int) = some (optI (g j)) := by rw [atI_ofNat, rowI_get h]
theorem matI_at (h : i < n) : atI (matI n G) (i : Int) = some (rowI n (G i)) := by rw [atI_ofNat, matI_get h]
theorem rowI_set (h : j < n) : setO (rowI n g) (j : Int) (optI v) = some (rowI n (upd1 g j v)) := by
  rw [setO_ofNat (by rw [rowI_len]; exact h)]
  congr 1
  refine List.ext_getElem? fun a => ?_
  rw [List.getElem?_set]
  by_cases ha : a < n
  · by_cases e : j = a
    · subst e
      simp [rowI, ha, upd1]
    · simp [rowI, ha, upd1, e, Ne.symm e]
  · simp [rowI, ha]
    omega
theorem matI_set (hi : i < n) (hj : j < n) : set2O (matI n G) (i : Int) (j : Int) (optI v) = some (matI n (upd2 G i j v)) := by
  unfold set2O
  rw [matI_at hi, Option.bind_some, rowI_set hj, Option.bind_some, setO_ofNat (by rw [matI_len]; exact hi)]
  congr 1
  refine List.ext_getElem? fun a => ?_
  rw [List.getElem?_set]
  by_cases ha : a < n
  · by_cases e : i = a
    · subst e
      simp [matI, ha, upd2_row]
    · simp [matI, ha, upd2_row, e, Ne.symm e]
  · simp [matI, ha]
    omega
theorem upd2_same : upd2 G i j (G i j) = G := by
  funext a b
  unfold upd2
  split
  · rename_i h; rw [h.1, h.2]
  · rfl
theorem upd1_same : upd1 g j (g j) = g := by
  funext a
  unfold upd1
  split
  · rename_i h; rw [h]
  · rfl

/-- behind the roads ys -/
structure Rw (n : Nat) (ys : Rds) (G : Nat → Nat → Option Nat) : Prop where
  real : ∀ i j v, G i j = some v → (i = j ∧ v = 0) ∨ Ed ys i j v
  road : ∀ i j l, Ed ys i j l → G i j = some l
  self : ∀ i, G i i = some 0
theorem Town.mem_of {n : Nat} {rs : Rds} (T : Town n rs) {ys : Rds} (hy : ys <+: rs) {r : Nat × Nat × Nat} (h : r ∈ ys) : r ∈ rs := hy.subset h
theorem Town.fresh {n : Nat} {rs : Rds} (T : Town n rs) {ys : Rds} {r : Nat × Nat × Nat} (hy : ys ++ [r] <+: rs) : ∀ i j l, Ed ys i j l → ¬ (i = r.1 ∧ j = r.2.1) ∧ ¬ (i = r.2.1 ∧ j = r.1) := by
  have key : ∀ s ∈ ys, ¬ (s.1 = r.1 ∧ s.2.1 = r.2.1) ∧ s.1 < s.2.1 := fun s hs => by
    have hp := (T.asc.sublist hy.sublist)
    have := (List.pairwise_append.mp hp).2.2 s hs r (by simp)
    exact ⟨by omega, (T.road s (hy.subset (List.mem_append_left _ hs))).1⟩
  have hr := (T.road r (hy.subset (by simp))).1
  intro i j l e
  rcases e with e | e
  · have := key _ e
    simp only at this
    omega
  · have := key _ e
    simp only at this
    omega
theorem Rw.step {n : Nat} {rs : Rds} (T : Town n rs) {ys : Rds} {r : Nat × Nat × Nat} (hy : ys ++ [r] <+: rs) {G : Nat → Nat → Option Nat} (h : Rw n ys G) :
    Rw n (ys ++ [r]) (upd2 (upd2 G r.1 r.2.1 (some r.2.2)) r.2.1 r.1 (some r.2.2)) := by
  have hr := (T.road r (hy.subset (by simp))).1
  have fr := T.fresh hy
  refine ⟨fun i j v e => ?_, fun i j l e => ?_, fun i => ?_⟩
  · unfold upd2 at e
    split at e
    · rename_i q
      cases e
      exact .inr (.inr (by rw [q.1, q.2]; simp))
    · split at e
      · rename_i q
        cases e
        exact .inr (.inl (by rw [q.1, q.2]; simp))
      · rcases h.real i j v e with z | z
        · exact .inl z
        · exact .inr (z.imp (List.mem_append_left _) (List.mem_append_left _))
  · unfold upd2
    have hc : Ed ys i j l ∨ ((i, j, l) = r ∨ (j, i, l) = r) := by
      rcases e with e | e <;> rcases List.mem_append.mp e with e | e
      · exact .inl (.inl e)
      · exact .inr (.inl (List.mem_singleton.mp e))
      · exact .inl (.inr e)
      · exact .inr (.inr (List.mem_singleton.mp e))
    rcases hc with hc | hc | hc
    · obtain ⟨f1, f2⟩ := fr i j l hc
      rw [if_neg f2, if_neg f1]
      exact h.road i j l hc
    · subst hc
      simp only at hr ⊢
      rw [if_neg (by omega), if_pos ⟨trivial, trivial⟩]
    · subst hc
      simp only at hr ⊢
      rw [if_pos ⟨trivial, trivial⟩]
  · unfold upd2
    rw [if_neg (by omega), if_neg (by omega)]
    exact h.self i
theorem Rw.fw {n : Nat} {rs : Rds} {G : Nat → Nat → Option Nat} (h : Rw n rs G) : Fw rs n 0 G := by
  refine ⟨fun i j v _ _ e => (h.real i j v e).imp id fun z => .one z, fun i j L _ _ w => ?_, fun i _ => h.self i⟩
  cases w with
  | one e => exact ⟨L, h.road i j L e, Nat.le_refl _⟩
  | step e hx _ => exact absurd hx (Nat.not_lt_zero _)
def start2 (i j : Nat) : Option Nat := if i = j then some 0 else none
theorem rw_start {n : Nat} : Rw n [] start2 := by
  refine ⟨fun i j v e => ?_, fun i j l e => ?_, fun i => ?_⟩
  · unfold start2 at e
    split at e
    · rename_i q
      cases e
      exact .inl ⟨q, rfl⟩
    · cases e
  · rcases e with e | e <;> cases e
  · unfold start2
    rw [if_pos rfl]

/-! ### the program's ways -/
theorem ways_b1 {n : Nat} {r : Nat × Nat × Nat} {G : Nat → Nat → Option Nat} (h1 : r.1 < n) (h2 : r.2.1 < n) :
    L_ways_b1 (matI n G) (r.1 : Int) (r.2.1 : Int) (r.2.2 : Int) = some (matI n (upd2 (upd2 G r.1 r.2.1 (some r.2.2)) r.2.1 r.1 (some r.2.2))) := by
  have e1 := matI_set (G := G) (v := some r.2.2) h1 h2
  have e2 := matI_set (G := upd2 G r.1 r.2.1 (some r.2.2)) (v := some r.2.2) h2 h1
  rw [optI_some] at e1 e2
  unfold L_ways_b1
  rw [e1, Option.bind_some, e2, Option.bind_some]
theorem ways_b2 {n i j m : Nat} {G : Nat → Nat → Option Nat} (hi : i < n) (hj : j < n) (hm : m < n) :
    L_ways_b2 (i : Int) (m : Int) (matI n G) (j : Int) = some (matI n (upd2 G i j (rlx (G i j) (oadd (G i m) (G m j))))) := by
  have hu := upd2_same (G := G) (i := i) (j := j)
  cases e1 : G i m with
  | none => simp [L_ways_b2, matI_at, rowI_at, hi, hj, hm, e1, oadd, rlx, hu]
  | some a =>
    cases e2 : G m j with
    | none => simp [L_ways_b2, matI_at, rowI_at, hi, hj, hm, e1, e2, oadd, rlx, hu]
    | some b =>
      have hs := matI_set (G := G) (v := some (a + b)) hi hj
      simp only [optI_some, Int.natCast_add] at hs
      cases e3 : G i j with
      | none => simp [L_ways_b2, matI_at, rowI_at, hi, hj, hm, e1, e2, e3, oadd, rlx, hs]
      | some c =>
        rw [e3] at hu
        by_cases hc : a + b < c
        · have hc' : (a : Int) + (b : Int) < (c : Int) := by omega
          simp [L_ways_b2, matI_at, rowI_at, hi, hj, hm, e1, e2, e3, oadd, rlx, hc, hc', hs]
        · have hc' : ¬ (a : Int) + (b : Int) < (c : Int) := by omega
          simp [L_ways_b2, matI_at, rowI_at, hi, hj, hm, e1, e2, e3, oadd, rlx, hc, hc', hu]
theorem ways_b3 {rs : Rds} {n i m : Nat} {G0 G : Nat → Nat → Option Nat} (hn : n ≤ 1000) (hi : i < n) (hm : m < n) (h : FwIn rs n m G0 i 0 G) :
    ∃ G', L_ways_b3 (n : Int) (m : Int) (matI n G) (i : Int) = some (matI n G') ∧ FwIn rs n m G0 (i + 1) 0 G' := by
  obtain ⟨s, e1, G', rfl, h2⟩ := loop_nat0 (f := fun s x => L_ways_b2 (i : Int) (m : Int) s x) (n := n) (s := matI n G) (fun j s => ∃ G', s = matI n G' ∧ FwIn rs n m G0 i j G') ⟨G, rfl, h⟩ (by
    rintro j s hj ⟨G', rfl, h1⟩
    exact ⟨_, ways_b2 hi hj hm, _, rfl, h1.step hm hi hj⟩)
  refine ⟨G', ?_, h2.row⟩
  unfold L_ways_b3
  rw [range1_nat (by omega), Option.bind_some, e1]
  rfl
theorem ways_b4 {rs : Rds} {n m : Nat} {G : Nat → Nat → Option Nat} (hn : n ≤ 1000) (hm : m < n) (h : Fw rs n m G) :
    ∃ G', L_ways_b4 (n : Int) (matI n G) (m : Int) = some (matI n G') ∧ Fw rs n (m + 1) G' := by
  obtain ⟨s, e1, G', rfl, h2⟩ := loop_nat0 (f := fun s x => L_ways_b3 (n : Int) (m : Int) s x) (n := n) (s := matI n G) (fun i s => ∃ G', s = matI n G' ∧ FwIn rs n m G i 0 G') ⟨G, rfl, h.into⟩ (by
    rintro i s hi ⟨G', rfl, h1⟩
    obtain ⟨G2, q1, q2⟩ := ways_b3 hn hi hm h1
    exact ⟨_, q1, G2, rfl, q2⟩)
  refine ⟨G', ?_, h2.out h hm⟩
  unfold L_ways_b4
  rw [range1_nat (by omega), Option.bind_some, e1]
  rfl
theorem rangeI_nat {n : Nat} : rangeI 0 n = (List.range n).map fun i => ((i : Nat) : Int) := by simp [rangeI]
theorem ways_init {n : Nat} (hn : n ≤ 1000) : mapO (fun x => (range1 (n : Int)).bind fun l2 => (chk (decide (l2.length ≤ 1000000))).bind fun u => some (l2.map fun x2 => (if decide (x = x2) = true then (some (0 : Int)) else (none : (Option Int))))) (rangeI 0 n) = some (matI n start2) := by
  rw [range1_nat (by omega)]
  rw [mapO_map (g := fun x => (rangeI 0 n).map fun x2 => if x = x2 then some (0 : Int) else none) (fun x _ => by
    rw [Option.bind_some, rangeI_len, chk_le (by omega), Option.bind_some]
    simp)]
  congr 1
  simp only [rangeI_nat, matI, rowI, List.map_map]
  refine List.map_congr_left fun i hi => ?_
  simp only [Function.comp_apply, List.map_map]
  refine List.map_congr_left fun j hj => ?_
  simp only [Function.comp_apply, start2]
  by_cases e : i = j
  · subst e; simp
  · have : ¬ (i : Int) = (j : Int) := by omega
    simp [e, this]
theorem ways_I {n : Nat} {rs : Rds} (T : Town n rs) (hn : n ≤ 1000) : ∃ G, L_ways (townI n rs) = some (matI n G) ∧ ∀ i j, i < n → j < n → Dst rs n i j (G i j) := by
  obtain ⟨s1, e1, G1, rfl, r1⟩ := loop_to (f := fun s x3 => L_ways_b1 s x3.1 x3.2.1 x3.2.2) (e := roadI) (xs := rs) (s := matI n start2) (fun ys s => ∃ G, s = matI n G ∧ Rw n ys G) ⟨_, rfl, rw_start⟩ (by
    rintro ys r s hy ⟨G, rfl, h1⟩
    obtain ⟨a, b, c, d⟩ := T.road r (hy.subset (by simp))
    exact ⟨_, ways_b1 (r := r) (by omega) b, _, rfl, h1.step T hy⟩)
  obtain ⟨s2, e2, G2, rfl, r2⟩ := loop_nat0 (f := fun s3 x4 => L_ways_b4 (n : Int) s3 x4) (n := n) (s := matI n G1) (fun m s => ∃ G, s = matI n G ∧ Fw rs n m G) ⟨_, rfl, r1.fw⟩ (by
    rintro m s hm ⟨G, rfl, h1⟩
    obtain ⟨G', q1, q2⟩ := ways_b4 hn hm h1
    exact ⟨_, q1, G', rfl, q2⟩)
  refine ⟨G2, ?_, fun i j hi hj => r2.dst hi hj⟩
  unfold L_ways townI
  simp only
  have hr : range1 (n : Int) = some (rangeI 0 n) := range1_nat (by omega)
  have hi := ways_init hn
  rw [hr] at hi ⊢
  rw [Option.bind_some, rangeI_len, chk_le (by omega), Option.bind_some, hi, Option.bind_some, e1, Option.bind_some, Option.bind_some, e2]
  rfl
/-! ### the law's ways -/
def relax (g : Nat → Option Nat) (a b l : Nat) : Nat → Option Nat := upd1 g b (rlx (g b) (oadd (g a) (some l)))
theorem lw_b1 {n a b l : Nat} {g : Nat → Option Nat} (ha : a < n) (hb : b < n) : L_law_ways_b1 (l : Int) (rowI n g) (a : Int) (b : Int) = some (rowI n (relax g a b l)) := by
  have hu := upd1_same (g := g) (j := b)
  cases e1 : g a with
  | none => simp [L_law_ways_b1, rowI_at, ha, hb, e1, oadd, rlx, relax, hu]
  | some x =>
    have hs := rowI_set (g := g) (v := some (x + l)) hb
    simp only [optI_some, Int.natCast_add] at hs
    cases e2 : g b with
    | none => simp [L_law_ways_b1, rowI_at, ha, hb, e1, e2, oadd, rlx, relax, hs]
    | some y =>
      rw [e2] at hu
      by_cases hc : x + l < y
      · have hc' : (x : Int) + (l : Int) < (y : Int) := by omega
        simp [L_law_ways_b1, rowI_at, ha, hb, e1, e2, oadd, rlx, relax, hc, hc', hs]
      · have hc' : ¬ (x : Int) + (l : Int) < (y : Int) := by omega
        simp [L_law_ways_b1, rowI_at, ha, hb, e1, e2, oadd, rlx, relax, hc, hc', hu]
def dirs (r : Nat × Nat × Nat) : Rds := [(r.1, r.2.1, r.2.2), (r.2.1, r.1, r.2.2)]

theorem lw_b2 {n s : Nat} {rs : Rds} {g0 g : Nat → Option Nat} {D : Rds} {r : Nat × Nat × Nat} (h : BfIn rs n s g0 D g) (h1 : r.1 < n) (h2 : r.2.1 < n) (hr : r ∈ rs) :
    ∃ g', L_law_ways_b2 (rowI n g) (r.1 : Int) (r.2.1 : Int) (r.2.2 : Int) = some (rowI n g') ∧ BfIn rs n s g0 (D ++ dirs r) g' := by
  refine ⟨relax (relax g r.1 r.2.1 r.2.2) r.2.1 r.1 r.2.2, ?_, ?_⟩
  · unfold L_law_ways_b2
    simp only [loopO, lw_b1 h1 h2, lw_b1 h2 h1, Option.bind_some]
  · have a := h.step h1 h2 (l := r.2.2) (.inl hr)
    have b := a.step h2 h1 (l := r.2.2) (.inr hr)
    rw [List.append_assoc] at b
    exact b
theorem lw_b3 {n s t : Nat} {rs : Rds} (T : Town n rs) {g : Nat → Option Nat} {z : Int} (h : Bf rs n s t g) :
    ∃ g', L_law_ways_b3 (rs.map roadI) (rowI n g) z = some (rowI n g') ∧ Bf rs n s (t + 1) g' := by
  obtain ⟨s1, e1, g', rfl, r1⟩ := loop_to (f := fun s x => L_law_ways_b2 s x.1 x.2.1 x.2.2) (e := roadI) (xs := rs) (s := rowI n g) (fun ys st => ∃ g', st = rowI n g' ∧ BfIn rs n s g (ys.flatMap dirs) g') ⟨_, rfl, h.into⟩ (by
    rintro ys r st hy ⟨g', rfl, h1⟩
    have hr : r ∈ rs := hy.subset (by simp)
    obtain ⟨a, b, _⟩ := T.road r hr
    obtain ⟨g2, q1, q2⟩ := lw_b2 h1 (by omega) b hr
    exact ⟨_, q1, g2, rfl, by rw [List.flatMap_append]; simpa using q2⟩)
  refine ⟨g', ?_, r1.out h (fun i j l e => ?_) fun i j l e => ?_⟩
  · unfold L_law_ways_b3
    rw [e1]
    rfl
  · rcases e with e | e
    · obtain ⟨a, b, _⟩ := T.road _ e
      simp only at a b
      omega
    · obtain ⟨a, b, _⟩ := T.road _ e
      simp only at a b
      omega
  · rcases e with e | e
    · exact List.mem_flatMap.mpr ⟨_, e, by simp [dirs]⟩
    · exact List.mem_flatMap.mpr ⟨_, e, by simp [dirs]⟩
theorem bf_start {rs : Rds} {n s : Nat} : Bf rs n s 0 (start2 s) := by
  refine ⟨fun j v hj e => ?_, fun t' j L ht hj w => ?_⟩
  · unfold start2 at e
    split at e
    · rename_i q
      cases e
      exact .inl ⟨q, rfl⟩
    · cases e
  · cases Nat.le_zero.mp ht
    cases w
    exact ⟨0, by unfold start2; rw [if_pos rfl], Nat.le_refl _⟩
theorem upd_none {s : Nat} : upd1 (fun _ => none) s (some 0) = start2 s := by
  funext j
  unfold upd1 start2
  by_cases h : j = s
  · subst h; simp
  · simp [h, Ne.symm h]

theorem nones {n : Nat} : (List.replicate n [(none : Option Int)]).flatten = rowI n (fun _ => none) := by
  induction n with
  | zero => rfl
  | succ n ih =>
    rw [List.replicate_succ', List.flatten_append, ih]
    simp [rowI, List.range_succ]
theorem lw_b4 {n s : Nat} {rs : Rds} (T : Town n rs) (hn : n ≤ 1000) (hs : s < n) {G : Nat → Nat → Option Nat} :
    ∃ g, L_law_ways_b4 (n : Int) (rs.map roadI) ((List.range s).map fun s => rowI n (G s)) (s : Int) = some (((List.range s).map fun s => rowI n (G s)) ++ [rowI n g]) ∧ Bf rs n s n g := by
  obtain ⟨s1, e1, g, rfl, r1⟩ := loop_nat0 (f := fun s x => L_law_ways_b3 (rs.map roadI) s x) (n := n) (s := rowI n (start2 s)) (fun t st => ∃ g, st = rowI n g ∧ Bf rs n s t g) ⟨_, rfl, bf_start⟩ (by
    rintro t st ht ⟨g, rfl, h1⟩
    obtain ⟨g2, q1, q2⟩ := lw_b3 T (z := (t : Int)) h1
    exact ⟨_, q1, g2, rfl, q2⟩)
  refine ⟨g, ?_, r1⟩
  have hr : repO [(none : Option Int)] (n : Int) = some (rowI n fun _ => none) := by
    unfold repO
    rw [if_pos ⟨by omega, by omega, by simp; omega⟩, Int.toNat_natCast, nones]
  have hs' := rowI_set (g := fun _ => none) (v := some 0) hs
  rw [upd_none] at hs'
  unfold L_law_ways_b4
  rw [hr, Option.bind_some]
  have h0 : (some (0 : Int)) = optI (some 0) := rfl
  rw [h0, hs', Option.bind_some, range1_nat (by omega), Option.bind_some, e1, Option.bind_some, appO_lt (by simp; omega)]
  rfl
theorem law_ways_I {n : Nat} {rs : Rds} (T : Town n rs) (hn : n ≤ 1000) : ∃ G, L_law_ways (townI n rs) = some (matI n G) ∧ ∀ i j, i < n → j < n → Dst rs n i j (G i j) := by
  obtain ⟨s1, e1, G, rfl, r1⟩ := loop_nat0 (f := fun s x => L_law_ways_b4 (n : Int) (rs.map roadI) s x) (n := n) (s := []) (fun i st => ∃ G, st = ((List.range i).map fun s => rowI n (G s)) ∧ ∀ j, j < i → Bf rs n j n (G j)) ⟨fun _ _ => none, rfl, fun j hj => by omega⟩ (by
    rintro i st hi ⟨G, rfl, h1⟩
    obtain ⟨g, q1, q2⟩ := lw_b4 T hn hi (G := G)
    refine ⟨_, q1, fun j => if j = i then g else G j, ?_, fun j hj => ?_⟩
    · rw [List.range_succ, List.map_append, List.map_singleton]
      simp only [if_true]
      congr 1
      refine List.map_congr_left fun j hj => ?_
      have := List.mem_range.mp hj
      rw [if_neg (by omega)]
    · simp only
      split
      · rename_i e; subst e; exact q2
      · exact h1 j (by omega))
  refine ⟨G, ?_, fun i j hi hj => (r1 i hi).dst hi hj⟩
  unfold L_law_ways townI
  simp only [letO_eq]
  rw [range1_nat (by omega), Option.bind_some, e1]
  rfl
/-- both tell the same table -/
theorem matI_congr {n : Nat} {G G' : Nat → Nat → Option Nat} (h : ∀ i j, i < n → j < n → G i j = G' i j) : matI n G = matI n G' := by
  refine List.map_congr_left fun i hi => List.map_congr_left fun j hj => ?_
  rw [h i j (List.mem_range.mp hi) (List.mem_range.mp hj)]
theorem ways_both {n : Nat} {rs : Rds} (T : Town n rs) (hn : n ≤ 1000) : ∃ G, L_ways (townI n rs) = some (matI n G) ∧ L_law_ways (townI n rs) = some (matI n G) ∧ ∀ i j, i < n → j < n → Dst rs n i j (G i j) := by
  obtain ⟨G, h1, h2⟩ := ways_I T hn
  obtain ⟨G', k1, k2⟩ := law_ways_I T hn
  refine ⟨G, h1, ?_, h2⟩
  rw [k1, matI_congr fun i j hi hj => ((h2 i j hi hj).uniq (k2 i j hi hj)).symm]
end
end Va

/-! Nm1: order, slices, what may be shown: plain lemmas. -/
namespace Va
open PySem L2 PyProof.Rows PySem.W PySem.Calls
/-! ### order -/
structure OrdL {α : Type} (lt : α → α → Bool) : Prop where
  irr : ∀ a, lt a a = false
  tr : ∀ a b c, lt a b = true → lt b c = true → lt a c = true
  tri : ∀ a b, lt a b = true ∨ a = b ∨ lt b a = true
section
variable {α β : Type} {lt : α → α → Bool} {m : β → β → Bool}
theorem OrdL.asym (O : OrdL lt) {a b : α} (h : lt a b = true) : lt b a = false := by
  cases e : lt b a with
  | false => rfl
  | true => have := O.tr a b a h e; rw [O.irr] at this; cases this
theorem OrdL.eq_of (O : OrdL lt) {a b : α} (h : lt a b = false) (k : lt b a = false) : a = b := by
  rcases O.tri a b with z | z | z
  · rw [h] at z; cases z
  · exact z
  · rw [k] at z; cases z
theorem OrdL.le_tr (O : OrdL lt) (a b c : α) (h : (!lt b a) = true) (k : (!lt c b) = true) : (!lt c a) = true := by
  simp only [Bool.not_eq_true'] at *
  cases e : lt c a with
  | false => rfl
  | true =>
    rcases O.tri a b with z | z | z
    · have := O.tr c a b e z; rw [k] at this; cases this
    · subst z; rw [k] at e; cases e
    · rw [h] at z; cases z
theorem OrdL.le_tot (O : OrdL lt) (a b : α) : ((!lt b a) || (!lt a b)) = true := by
  cases e : lt b a with
  | false => rfl
  | true => rw [O.asym e]; rfl
theorem sortI_perm' (xs : List α) : (sortI lt xs).Perm xs := List.mergeSort_perm _ _
@[simp] theorem mem_sortI {xs : List α} {x : α} : x ∈ sortI lt xs ↔ x ∈ xs := (sortI_perm' xs).mem_iff
@[simp] theorem sortI_len {xs : List α} : (sortI lt xs).length = xs.length := (sortI_perm' xs).length_eq
theorem sortI_sorted (O : OrdL lt) (xs : List α) : (sortI lt xs).Pairwise fun a b => lt b a = false := by
  have := List.pairwise_mergeSort (le := fun a b => !lt b a) (fun a b c h k => O.le_tr a b c h k) (fun a b => O.le_tot a b) xs
  exact this.imp fun h => by simpa using h
/-- a sorted permutation is the sorted list -/
theorem sortI_of (O : OrdL lt) {xs ys : List α} (h : ys.Perm xs) (s : ys.Pairwise fun a b => lt b a = false) : sortI lt xs = ys := by
  refine ((sortI_perm' xs).trans h.symm).eq_of_pairwise (le := fun a b => lt b a = false) ?_ (sortI_sorted O xs) s
  intro a b _ _ h1 h2
  exact O.eq_of h2 h1
theorem sortI_perm (O : OrdL lt) {xs ys : List α} (h : xs.Perm ys) : sortI lt xs = sortI lt ys := sortI_of O ((sortI_perm' ys).trans h.symm) (sortI_sorted O ys)
theorem sortI_id (O : OrdL lt) {xs : List α} (s : xs.Pairwise fun a b => lt b a = false) : sortI lt xs = xs := sortI_of O (.refl _) s
/-- where none stands twice: strictly rising -/
theorem sortI_lt (O : OrdL lt) {xs : List α} (h : xs.Nodup) : (sortI lt xs).Pairwise fun a b => lt a b = true := by
  have n : (sortI lt xs).Nodup := (sortI_perm' xs).nodup_iff.mpr h
  have s := sortI_sorted O xs
  exact (List.Pairwise.and n s).imp fun {a b} ⟨h1, h2⟩ => by
    rcases O.tri a b with z | z | z
    · exact z
    · exact absurd z h1
    · rw [h2] at z; cases z
/-- two rising lists with the same items are one -/
theorem rising_eq (O : OrdL lt) {xs ys : List α} (hx : xs.Pairwise fun a b => lt a b = true) (hy : ys.Pairwise fun a b => lt a b = true) (h : ∀ a, a ∈ xs ↔ a ∈ ys) : xs = ys := by
  have ne : ∀ {zs : List α}, zs.Pairwise (fun a b => lt a b = true) → zs.Nodup := fun hz => hz.imp fun {a b} q e => by subst e; rw [O.irr] at q; cases q
  have p : xs.Perm ys := (List.perm_ext_iff_of_nodup (ne hx) (ne hy)).mpr h
  have w : ∀ {zs : List α}, zs.Pairwise (fun a b => lt a b = true) → zs.Pairwise fun a b => lt b a = false := fun hz => hz.imp fun q => O.asym q
  rw [← sortI_id O (w hx), ← sortI_id O (w hy), sortI_perm O p]
theorem ordI : OrdL ltI := ⟨fun a => by simp [ltI], fun a b c h k => by simp only [ltI, decide_eq_true_eq] at *; omega, fun a b => by simp only [ltI, decide_eq_true_eq]; omega⟩
theorem ord2 [DecidableEq α] (O : OrdL lt) (Q : OrdL m) : OrdL (lt2 lt m) := by
  refine ⟨fun a => by simp [lt2, Q.irr], fun a b c h k => ?_, fun a b => ?_⟩
  · unfold lt2 at *
    by_cases e : a.1 = b.1
    · by_cases f : b.1 = c.1
      · rw [if_pos e] at h; rw [if_pos f] at k; rw [if_pos (e.trans f)]; exact Q.tr _ _ _ h k
      · rw [if_neg f] at k; rw [if_neg (by rw [e]; exact f), e]; exact k
    · rw [if_neg e] at h
      by_cases f : b.1 = c.1
      · rw [if_neg (by rw [← f]; exact e), ← f]; exact h
      · rw [if_neg f] at k
        have := O.tr _ _ _ h k
        rw [if_neg (by intro z; rw [z, O.irr] at this; cases this)]
        exact this
  · unfold lt2
    by_cases e : a.1 = b.1
    · rw [if_pos e, if_pos e.symm]
      rcases Q.tri a.2 b.2 with z | z | z
      · exact .inl z
      · exact .inr (.inl (Prod.ext e z))
      · exact .inr (.inr z)
    · rw [if_neg e, if_neg (fun z => e z.symm)]
      rcases O.tri a.1 b.1 with z | z | z
      · exact .inl z
      · exact absurd z e
      · exact .inr (.inr z)
theorem ordL [DecidableEq α] (O : OrdL lt) : OrdL (ltL lt) := by
  refine ⟨ltL_irr, ?_, ?_⟩
  · intro a
    induction a with
    | nil => intro b c h k; cases c with
      | nil => cases b <;> simp [ltL] at k
      | cons => rfl
    | cons x a ih =>
      intro b c h k
      cases b with
      | nil => simp [ltL] at h
      | cons y b =>
        cases c with
        | nil => simp [ltL] at k
        | cons z c =>
          simp only [ltL] at *
          by_cases e : x = y
          · by_cases f : y = z
            · rw [if_pos e] at h; rw [if_pos f] at k; rw [if_pos (e.trans f)]; exact ih _ _ h k
            · rw [if_neg f] at k; rw [if_neg (by rw [e]; exact f), e]; exact k
          · rw [if_neg e] at h
            by_cases f : y = z
            · rw [if_neg (by rw [← f]; exact e), ← f]; exact h
            · rw [if_neg f] at k
              have := O.tr _ _ _ h k
              rw [if_neg (by intro z; rw [z, O.irr] at this; cases this)]
              exact this
  · intro a
    induction a with
    | nil => intro b; cases b with
      | nil => exact .inr (.inl rfl)
      | cons => exact .inl rfl
    | cons x a ih =>
      intro b
      cases b with
      | nil => exact .inr (.inr rfl)
      | cons y b =>
        simp only [ltL]
        by_cases e : x = y
        · rw [if_pos e, if_pos e.symm]
          rcases ih b with z | z | z
          · exact .inl z
          · exact .inr (.inl (by rw [e, z]))
          · exact .inr (.inr z)
        · rw [if_neg e, if_neg (fun z => e z.symm)]
          rcases O.tri x y with z | z | z
          · exact .inl z
          · exact absurd z e
          · exact .inr (.inr z)
end
/-! ### slices -/
section
variable {α β σ : Type}
theorem cutI_to {xs : List α} {k : Nat} : cutI xs none (some (k : Int)) = xs.take k := by
  unfold cutI
  rw [HT.sIx_nat, HT.sIx_none, List.drop_zero, Nat.sub_zero]
  rcases Nat.le_total k xs.length with h | h
  · rw [Nat.min_eq_left h]
  · rw [Nat.min_eq_right h, List.take_length, List.take_of_length_le h]
theorem cutI_from {xs : List α} {k : Nat} : cutI xs (some (k : Int)) none = xs.drop k := by
  unfold cutI
  rw [HT.sIx_nat, HT.sIx_none]
  rcases Nat.le_total k xs.length with h | h
  · rw [Nat.min_eq_left h, List.take_of_length_le (by simp)]
  · rw [Nat.min_eq_right h, Nat.sub_self, List.take_zero, List.drop_of_length_le h]
theorem cutI_mid {xs : List α} {a b : Nat} : cutI xs (some (a : Int)) (some (b : Int)) = (xs.drop a).take (b - a) := by
  unfold cutI
  rw [HT.sIx_nat, HT.sIx_nat]
  rcases Nat.le_total a xs.length with h | h
  · rw [Nat.min_eq_left h]
    rcases Nat.le_total b xs.length with k | k
    · rw [Nat.min_eq_left k]
    · rw [Nat.min_eq_right k, List.take_of_length_le (by simp), List.take_of_length_le (by simp; omega)]
  · rw [Nat.min_eq_right h, List.drop_length, List.drop_of_length_le h, List.take_nil, List.take_nil]
theorem enumI_len : ∀ {xs : List α} {k : Int}, (enumI xs k).length = xs.length
  | [], _ => rfl
  | x :: xs, k => by rw [enumI, List.length_cons, List.length_cons, enumI_len]
/-- a loop over enumerate -/
theorem loop_enum {f : σ → Int × α → Option σ} {xs : List α} {s : σ} (P : Nat → σ → Prop) (h0 : P 0 s) (step : ∀ (i : Nat) (x : α) (s : σ), xs[i]? = some x → P i s → ∃ s', f s ((i : Int), x) = some s' ∧ P (i + 1) s') :
    ∃ s', loopO f (enumI xs 0) s = some s' ∧ P xs.length s' := by
  suffices H : ∀ (ys : List α) (k : Nat) (s : σ), xs.drop k = ys → P k s → ∃ s', loopO f (enumI ys (k : Int)) s = some s' ∧ P (k + ys.length) s' by
    have := H xs 0 s rfl h0
    simpa using this
  intro ys
  induction ys with
  | nil => intro k s _ h; exact ⟨s, rfl, h⟩
  | cons y ys ih =>
    intro k s e h
    have hk : xs[k]? = some y := by rw [← List.head?_drop, e]; rfl
    obtain ⟨s1, e1, h1⟩ := step k y s hk h
    obtain ⟨s2, e2, h2⟩ := ih (k + 1) s1 (by rw [← List.drop_drop, e]; rfl) h1
    refine ⟨s2, ?_, by rw [List.length_cons, show k + (ys.length + 1) = k + 1 + ys.length by omega]; exact h2⟩
    rw [enumI, loopO, e1]
    exact e2
end
/-! ### what may be shown -/
theorem reprO_of {d : PyData} {D W : Nat} (h : Tame D W d) (hD : D ≤ 60) (hW : W ≤ 60000) : reprO d = some d.shown := if_pos (h.reprOk hD hW)
section
variable {α β γ δ : Type} {a : α → PyData} {b : β → PyData} {c : γ → PyData} {D W n : Nat}
theorem Tame.L {xs : List α} (h : ∀ x ∈ xs, Tame D W (a x)) (hn : xs.length ≤ n) : Tame (D + 1) (n * (W + 1)) (EL a xs) := Tame.list (fun d hd => by
  obtain ⟨x, hx, rfl⟩ := List.mem_map.mp hd
  exact h x hx) (by rw [List.length_map]; exact hn)
theorem Tame.T {xs : List α} (h : ∀ x ∈ xs, Tame D W (a x)) (hn : xs.length ≤ n) : Tame (D + 1) (n * (W + 1)) (ET a xs) := Tame.tuple (fun d hd => by
  obtain ⟨x, hx, rfl⟩ := List.mem_map.mp hd
  exact h x hx) (by rw [List.length_map]; exact hn)
theorem Tame.p2 {p : α × β} (h1 : Tame D W (a p.1)) (h2 : Tame D W (b p.2)) : Tame (D + 1) (2 * (W + 1)) (E2 a b p) := Tame.tuple (fun d hd => by
  simp only [List.mem_cons, List.not_mem_nil, or_false] at hd
  rcases hd with rfl | rfl
  · exact h1
  · exact h2) (Nat.le_refl _)
theorem Tame.p3 {p : α × β × γ} (h1 : Tame D W (a p.1)) (h2 : Tame D W (b p.2.1)) (h3 : Tame D W (c p.2.2)) : Tame (D + 1) (3 * (W + 1)) (E3 a b c p) := Tame.tuple (fun d hd => by
  simp only [List.mem_cons, List.not_mem_nil, or_false] at hd
  rcases hd with rfl | rfl | rfl
  · exact h1
  · exact h2
  · exact h3) (Nat.le_refl _)
theorem Tame.o {p : Option α} (h : ∀ x, p = some x → Tame D W (a x)) : Tame D W (EO a p) := by
  cases p with
  | none => exact Tame.none.mono (Nat.zero_le _) (Nat.zero_le _)
  | some x => exact h x rfl
end
theorem Tame.i {x : Int} (h0 : -1000000 ≤ x) (h1 : x ≤ 1000000) : Tame 0 40 (.int x) := Tame.int (by omega)
theorem asc_len : ∀ {xs : List Nat} {lo m : Nat}, xs.Pairwise (· < ·) → (∀ x ∈ xs, lo ≤ x ∧ x < m) → xs.length ≤ m - lo
  | [], _, _, _, _ => Nat.zero_le _
  | x :: xs, lo, m, h, hb => by
    have h0 := hb x (List.mem_cons_self ..)
    have := asc_len (xs := xs) (lo := x + 1) (m := m) (List.pairwise_cons.mp h).2 fun y hy => ⟨(List.pairwise_cons.mp h).1 y hy, (hb y (List.mem_cons_of_mem _ hy)).2⟩
    rw [List.length_cons]
    omega
theorem Town.len {n : Nat} {rs : Rds} (T : Town n rs) : rs.length ≤ n * n := by
  have h := asc_len (xs := rs.map fun r => r.1 * n + r.2.1) (lo := 0) (m := n * n) ?_ ?_
  · rwa [List.length_map] at h
  · refine List.pairwise_map.mpr (T.asc.imp_of_mem fun {r s} hr hs h => ?_)
    obtain ⟨a, b, _⟩ := T.road r hr
    obtain ⟨c, d, _⟩ := T.road s hs
    rcases h with h | ⟨h, k⟩
    · have : (r.1 + 1) * n ≤ s.1 * n := Nat.mul_le_mul_right _ h
      rw [Nat.succ_mul] at this
      omega
    · rw [h]; omega
  · intro x hx
    obtain ⟨r, hr, rfl⟩ := List.mem_map.mp hx
    obtain ⟨a, b, _⟩ := T.road r hr
    refine ⟨Nat.zero_le _, ?_⟩
    have : (r.1 + 1) * n ≤ n * n := Nat.mul_le_mul_right _ (by omega)
    rw [Nat.succ_mul] at this
    omega
abbrev ETown : Int × List (Int × Int × Int) → PyData := E2 PyData.int (EL (E3 PyData.int PyData.int PyData.int))
theorem Town.tame {n : Nat} {rs : Rds} (T : Town n rs) (hn : n ≤ 9) : Tame 3 20090 (ETown (townI n rs)) := by
  refine Tame.p2 (D := 2) (W := 10044) ((Tame.i (by simp only [townI]; omega) (by simp only [townI]; omega)).mono (by omega) (by omega)) ?_
  refine Tame.L (D := 1) (W := 123) (n := 81) (fun x hx => ?_) ?_
  · obtain ⟨r, hr, rfl⟩ := List.mem_map.mp hx
    obtain ⟨a, b, c, d⟩ := T.road r hr
    exact Tame.p3 (D := 0) (W := 40) (Tame.i (by simp only [roadI]; omega) (by simp only [roadI]; omega)) (Tame.i (by simp only [roadI]; omega) (by simp only [roadI]; omega)) (Tame.i (by simp only [roadI]; omega) (by simp only [roadI]; omega))
  · have h1 := T.len
    have h2 : n * n ≤ 9 * 9 := Nat.mul_le_mul hn hn
    simp only [townI, List.length_map]
    omega
end Va

/-! Nt3: answers of busy helpers. -/
namespace Va
open PySem L2 PyProof.Rows PySem.W PySem.Calls
def L_law_reach (law_draw : Int) : Option Int := if decide (((law_draw / (10 : Int)) % (3 : Int)) = (1 : Int)) = true then some ((law_draw * (7 : Int)) % (61 : Int)) else (atI ([(0 : Int), (1 : Int), (2 : Int), (3 : Int), (4 : Int), (5 : Int), (6 : Int), (9 : Int), (14 : Int), (60 : Int)] : (List Int)) (law_draw % (10 : Int))).bind fun x => some x
abbrev R_law_reach : List PyData → PyData × Nat → Prop := RelT (fun (a : Int) => [PyData.int a]) (fun a => L_law_reach a) PyData.int 2
def L_law_behind_b1 (law_rows : (List (List (Option Int)))) (law_state : (List (Int × Int))) (law_call : Int) (law_reach_here : Int) (law_rest : Int) (law_later : (List (Int × Int))) (law_found : (List (List (Int × Int)))) (law_k : Int) : Option (List (List (Int × Int))) := (atI law_state law_k).bind fun x => (if decide (x.2 = (0 : Int)) = true then (atI law_rows x.1).bind fun x2 => (atI x2 law_call).bind fun x3 => (if x3.isSome = true then (atI law_rows x.1).bind fun x4 => (atI x4 law_call).bind fun x5 => (x5).bind fun v => some (decide (v ≤ law_reach_here)) else some false).bind fun b => some b else some false).bind fun b2 => if b2 = true then (catO (cutI law_later none (some law_k)) (cutI law_later (some (law_k + (1 : Int))) none)).bind fun l => (catO l ([(law_call, law_rest)] : (List (Int × Int)))).bind fun l2 => letO (sortI (lt2 ltI ltI) l2) fun law_answer2 => if (!memB law_answer2 law_found) = true then (appO law_found law_answer2).bind fun law_found2 => some law_found2 else some law_found else some law_found
def L_law_behind (law_rows : (List (List (Option Int)))) (law_state : (List (Int × Int))) (law_call : Int) (law_reach_here : Int) (law_rest : Int) : Option (List (List (Int × Int))) := (chk (decide (law_state.length ≤ 1000000))).bind fun u => (mapO (fun x => (atI ([(x.2 - (1 : Int)), (0 : Int)] : (List Int)) (if decide (x.2 = (0 : Int)) = true then 1 else 0)).bind fun x2 => some (x.1, x2)) law_state).bind fun l => (chk (decide (law_state.length ≤ 1000000))).bind fun u2 => if memB law_call (law_state.map fun x3 => x3.1) = true then some ([(sortI (lt2 ltI ltI) l)] : (List (List (Int × Int)))) else letO ([] : (List (List (Int × Int)))) fun law_found => (range1 (law_state.length : Int)).bind fun l2 => (loopO (fun s x4 => L_law_behind_b1 law_rows law_state law_call law_reach_here law_rest l s x4) l2 law_found).bind fun s2 => (sortO (ltL (lt2 ltI ltI)) okNE s2).bind fun l5 => some l5
abbrev R_law_behind : List PyData → PyData × Nat → Prop := RelT (fun (a : ((List (List (Option Int))) × (List (Int × Int)) × Int × Int × Int)) => [(EL (EL (EO PyData.int))) a.1, (ET (E2 PyData.int PyData.int)) a.2.1, PyData.int a.2.2.1, PyData.int a.2.2.2.1, PyData.int a.2.2.2.2]) (fun a => L_law_behind a.1 a.2.1 a.2.2.1 a.2.2.2.1 a.2.2.2.2) (EL (ET (E2 PyData.int PyData.int))) 2
def L_rested (stand : (List Int)) : Option (List (Int × Int)) := (chk (decide (stand.length ≤ 1000000))).bind fun u => some (stand.map fun x => (x, (0 : Int)))
abbrev R_rested : List PyData → PyData × Nat → Prop := RelT (fun (a : (List Int)) => [(ET PyData.int) a]) (fun a => L_rested a) (ET (E2 PyData.int PyData.int)) 2
def L_waited (state : (List (Int × Int))) : Option (List (Int × Int)) := (chk (decide (state.length ≤ 1000000))).bind fun u => some (state.map fun x => (x.1, (if (x.2 - (1 : Int)) > (0 : Int) then (x.2 - (1 : Int)) else (0 : Int))))
abbrev R_waited : List PyData → PyData × Nat → Prop := RelT (fun (a : (List (Int × Int))) => [(ET (E2 PyData.int PyData.int)) a]) (fun a => L_waited a) (EL (E2 PyData.int PyData.int)) 2
def L_answers_by_b1 (table : (List (List (Option Int)))) (call : Int) (reach : Int) (rest : Int) (later : (List (Int × Int))) (found : (List (List (Int × Int)))) (at_ : Int) (place : Int) (left : Int) : Option (List (List (Int × Int))) := (if decide (left = (0 : Int)) = true then (atI table place).bind fun x => (atI x call).bind fun x2 => (if x2.isSome = true then (atI table place).bind fun x3 => (atI x3 call).bind fun x4 => (x4).bind fun v => some (decide (v ≤ reach)) else some false).bind fun b => some b else some false).bind fun b2 => if b2 = true then (catO (cutI later none (some at_)) ([(call, rest)] : (List (Int × Int)))).bind fun l => (catO l (cutI later (some (at_ + (1 : Int))) none)).bind fun l2 => letO (sortI (lt2 ltI ltI) l2) fun answer2 => if (!memB answer2 found) = true then (appO found answer2).bind fun found2 => some found2 else some found else some found
def L_answers_by (table : (List (List (Option Int)))) (state : (List (Int × Int))) (call : Int) (reach : Int) (rest : Int) : Option (List (List (Int × Int))) := (L_waited state).bind fun r => (chk (decide (state.length ≤ 1000000))).bind fun u => if memB call (state.map fun x => x.1) = true then some ([(sortI (lt2 ltI ltI) r)] : (List (List (Int × Int)))) else letO ([] : (List (List (Int × Int)))) fun found => (loopO (fun s x2 => L_answers_by_b1 table call reach rest r s x2.1 x2.2.1 x2.2.2) (enumI state 0) found).bind fun s2 => (sortO (ltL (lt2 ltI ltI)) okNE s2).bind fun l3 => some l3
abbrev R_answers_by : List PyData → PyData × Nat → Prop := RelT (fun (a : ((List (List (Option Int))) × (List (Int × Int)) × Int × Int × Int)) => [(EL (EL (EO PyData.int))) a.1, (ET (E2 PyData.int PyData.int)) a.2.1, PyData.int a.2.2.1, PyData.int a.2.2.2.1, PyData.int a.2.2.2.2]) (fun a => L_answers_by a.1 a.2.1 a.2.2.1 a.2.2.2.1 a.2.2.2.2) (EL (ET (E2 PyData.int PyData.int))) 2
def L_busy_answers (town : (Int × (List (Int × Int × Int)))) (state : (List (Int × Int))) (call : Int) (reach : Int) (rest : Int) : Option (List (List (Int × Int))) := (L_ways town).bind fun r => (L_answers_by r state call reach rest).bind fun r2 => some r2
abbrev R_busy_answers : List PyData → PyData × Nat → Prop := RelT (fun (a : ((Int × (List (Int × Int × Int))) × (List (Int × Int)) × Int × Int × Int)) => [(E2 PyData.int (EL (E3 PyData.int PyData.int PyData.int))) a.1, (ET (E2 PyData.int PyData.int)) a.2.1, PyData.int a.2.2.1, PyData.int a.2.2.2.1, PyData.int a.2.2.2.2]) (fun a => L_busy_answers a.1 a.2.1 a.2.2.1 a.2.2.2.1 a.2.2.2.2) (EL (ET (E2 PyData.int PyData.int))) 2
theorem matI_atI {n : Nat} {G : Nat → Nat → Option Nat} {i : Int} (h0 : 0 ≤ i) (h : i < n) : atI (matI n G) i = some (rowI n (G i.toNat)) := by
  obtain ⟨k, rfl⟩ := Int.eq_ofNat_of_zero_le h0
  rw [Int.toNat_natCast]
  exact matI_at (by omega)
theorem rowI_atI {n : Nat} {g : Nat → Option Nat} {i : Int} (h0 : 0 ≤ i) (h : i < n) : atI (rowI n g) i = some (optI (g i.toNat)) := by
  obtain ⟨k, rfl⟩ := Int.eq_ofNat_of_zero_le h0
  rw [Int.toNat_natCast]
  exact rowI_at (by omega)
abbrev Busy := List (Int × Int)
abbrev ltB : Int × Int → Int × Int → Bool := lt2 ltI ltI
theorem ordB : OrdL ltB := ord2 ordI ordI
theorem ordBs : OrdL (ltL ltB) := ordL ordB
def later (s : Busy) : Busy := s.map fun x => (x.1, (if (x.2 - (1 : Int)) > (0 : Int) then (x.2 - (1 : Int)) else (0 : Int)))
/-- helper k goes to the call -/
def goes (s : Busy) (k : Nat) (call rest : Int) : Busy := sortI ltB ((later s).take k ++ ([(call, rest)] ++ (later s).drop (k + 1)))
/-- he may -/
def mayGo (G : Nat → Nat → Option Nat) (x : Int × Int) (call reach : Int) : Bool := decide (x.2 = 0) && match G x.1.toNat call.toNat with
  | some v => decide ((v : Int) ≤ reach)
  | none => false
def busyTo (G : Nat → Nat → Option Nat) (s : Busy) (call reach rest : Int) : Nat → List Busy
  | 0 => []
  | k + 1 => let F := busyTo G s call reach rest k
    match s[k]? with
    | some x => if mayGo G x call reach = true ∧ goes s k call rest ∉ F then F ++ [goes s k call rest] else F
    | none => F
def busyAns (G : Nat → Nat → Option Nat) (s : Busy) (call reach rest : Int) : List Busy :=
  if call ∈ s.map (·.1) then [sortI ltB (later s)] else sortI (ltL ltB) (busyTo G s call reach rest s.length)
section
variable {n : Nat} {G : Nat → Nat → Option Nat} {s : Busy} {call reach rest : Int}
theorem busyTo_len : ∀ k, (busyTo G s call reach rest k).length ≤ k
  | 0 => Nat.le_refl _
  | k + 1 => by
    have := busyTo_len k
    simp only [busyTo]
    split
    · split
      · rw [List.length_append, List.length_singleton]; omega
      · omega
    · omega
theorem goes_ne {k : Nat} : okNE (goes s k call rest) = true := by
  have h : (goes s k call rest).length ≠ 0 := by
    unfold goes
    rw [sortI_len]
    simp
  unfold okNE
  cases e : goes s k call rest with
  | nil => rw [e] at h; exact absurd rfl h
  | cons _ _ => rfl
theorem busyTo_ne : ∀ k, (busyTo G s call reach rest k).all okNE = true
  | 0 => rfl
  | k + 1 => by
    have := busyTo_ne k
    simp only [busyTo]
    split
    · split
      · rw [List.all_append, this]; simp [goes_ne]
      · exact this
    · exact this
theorem waited_I (hl : s.length ≤ 1000) : L_waited s = some (later s) := by
  unfold L_waited
  rw [chk_le (by omega)]
  rfl
/-- what one turn asks -/
theorem may_I {x : Int × Int} (hx : 0 ≤ x.1 ∧ x.1 < n) (hc : 0 ≤ call ∧ call < n) :
    (if decide (x.2 = (0 : Int)) = true then (atI (matI n G) x.1).bind fun x2 => (atI x2 call).bind fun x3 => (if x3.isSome = true then (atI (matI n G) x.1).bind fun x4 => (atI x4 call).bind fun x5 => (x5).bind fun v => some (decide (v ≤ reach)) else some false).bind fun b => some b else some false) = some (mayGo G x call reach) := by
  rw [matI_atI hx.1 hx.2]
  simp only [Option.bind_some, rowI_atI hc.1 hc.2]
  unfold mayGo
  by_cases h : x.2 = 0
  · cases e : G x.1.toNat call.toNat <;> simp [h]
  · simp [h]
theorem ans_turn {k : Nat} {x : Int × Int} (hk : s[k]? = some x) (hl : s.length ≤ 1000) (hx : 0 ≤ x.1 ∧ x.1 < n) (hc : 0 ≤ call ∧ call < n) :
    L_answers_by_b1 (matI n G) call reach rest (later s) (busyTo G s call reach rest k) (k : Int) x.1 x.2 = some (busyTo G s call reach rest (k + 1)) := by
  have hm := may_I (G := G) (reach := reach) hx hc
  have hkl := (List.getElem?_eq_some_iff.mp hk).1
  have hll : (later s).length = s.length := by simp [later]
  have hlen := busyTo_len (G := G) (s := s) (call := call) (reach := reach) (rest := rest) k
  unfold L_answers_by_b1
  rw [hm, Option.bind_some]
  simp only [busyTo, hk]
  cases e : mayGo G x call reach with
  | false => simp
  | true =>
    rw [if_pos rfl, cutI_to, show ((k : Int) + 1) = ((k + 1 : Nat) : Int) by omega, cutI_from, catO_le (by simp; omega), Option.bind_some, catO_le (by simp; omega), Option.bind_some, List.append_assoc]
    simp only [letO_eq]
    have hg : sortI ltB ((later s).take k ++ ([(call, rest)] ++ (later s).drop (k + 1))) = goes s k call rest := rfl
    rw [hg]
    by_cases hm : goes s k call rest ∈ busyTo G s call reach rest k
    · have : memB (goes s k call rest) (busyTo G s call reach rest k) = true := memB_iff.mpr hm
      simp [this, hm]
    · have : memB (goes s k call rest) (busyTo G s call reach rest k) = false := memB_false.mpr hm
      rw [this]
      simp only [Bool.not_false, if_true]
      rw [appO_lt (by omega)]
      simp [hm]
theorem answers_by_I (hl : s.length ≤ 1000) (hs : ∀ x ∈ s, 0 ≤ x.1 ∧ x.1 < n) (hc : 0 ≤ call ∧ call < n) : L_answers_by (matI n G) s call reach rest = some (busyAns G s call reach rest) := by
  unfold L_answers_by busyAns
  rw [waited_I hl, Option.bind_some, chk_le (by omega), Option.bind_some]
  by_cases h : call ∈ s.map (·.1)
  · simp only [h, decide_true, if_true, memB]
  · simp only [h, decide_false, memB, if_false, letO_eq]
    obtain ⟨s2, e1, rfl⟩ := loop_enum (f := fun st x2 => L_answers_by_b1 (matI n G) call reach rest (later s) st x2.1 x2.2.1 x2.2.2) (xs := s) (s := []) (fun k st => st = busyTo G s call reach rest k) rfl (by
      rintro k x st hk rfl
      exact ⟨_, ans_turn hk hl (hs x (List.mem_of_getElem? hk)) hc, rfl⟩)
    rw [if_neg (by simp), e1, Option.bind_some]
    unfold sortO
    rw [if_pos (busyTo_ne _)]
    rfl
theorem busy_answers_I {rs : Rds} (hw : L_ways (townI n rs) = some (matI n G)) (hl : s.length ≤ 1000) (hs : ∀ x ∈ s, 0 ≤ x.1 ∧ x.1 < n) (hc : 0 ≤ call ∧ call < n) : L_busy_answers (townI n rs) s call reach rest = some (busyAns G s call reach rest) := by
  unfold L_busy_answers
  rw [hw, Option.bind_some, answers_by_I hl hs hc]
  rfl
/-! ### the law's -/
theorem behind_later (hl : s.length ≤ 1000) (hp : ∀ x ∈ s, 0 ≤ x.2) : mapO (fun x => (atI ([(x.2 - (1 : Int)), (0 : Int)] : (List Int)) (if decide (x.2 = (0 : Int)) = true then 1 else 0)).bind fun x2 => some (x.1, x2)) s = some (later s) := by
  unfold later
  refine mapO_map fun x hx => ?_
  have := hp x hx
  by_cases h : x.2 = 0
  · simp [h, atI, ixN]
  · have h1 : x.2 - 1 > 0 ∨ x.2 - 1 = 0 := by omega
    rcases h1 with h1 | h1
    · simp [h, atI, ixN, h1]
      omega
    · simp [h, atI, ixN, h1]
theorem behind_turn {k : Nat} {x : Int × Int} (hk : s[k]? = some x) (hl : s.length ≤ 1000) (hx : 0 ≤ x.1 ∧ x.1 < n) (hc : 0 ≤ call ∧ call < n) :
    L_law_behind_b1 (matI n G) s call reach rest (later s) (busyTo G s call reach rest k) (k : Int) = some (busyTo G s call reach rest (k + 1)) := by
  have hm := may_I (G := G) (reach := reach) hx hc
  have hkl := (List.getElem?_eq_some_iff.mp hk).1
  have hll : (later s).length = s.length := by simp [later]
  have hlen := busyTo_len (G := G) (s := s) (call := call) (reach := reach) (rest := rest) k
  have hg : sortI ltB ((later s).take k ++ (later s).drop (k + 1) ++ [(call, rest)]) = goes s k call rest := sortI_perm ordB (by
    rw [List.append_assoc]
    exact List.Perm.append_left _ List.perm_append_comm)
  unfold L_law_behind_b1
  rw [atI_ofNat, hk, Option.bind_some, hm, Option.bind_some]
  simp only [busyTo, hk]
  cases e : mayGo G x call reach with
  | false => simp
  | true =>
    rw [if_pos rfl, cutI_to, show ((k : Int) + 1) = ((k + 1 : Nat) : Int) by omega, cutI_from, catO_le (by simp; omega), Option.bind_some, catO_le (by simp; omega), Option.bind_some]
    simp only [letO_eq]
    rw [hg]
    by_cases hm : goes s k call rest ∈ busyTo G s call reach rest k
    · have : memB (goes s k call rest) (busyTo G s call reach rest k) = true := memB_iff.mpr hm
      simp [this, hm]
    · have : memB (goes s k call rest) (busyTo G s call reach rest k) = false := memB_false.mpr hm
      rw [this]
      simp only [Bool.not_false, if_true]
      rw [appO_lt (by omega)]
      simp [hm]
theorem behind_I (hl : s.length ≤ 1000) (hs : ∀ x ∈ s, 0 ≤ x.1 ∧ x.1 < n) (hp : ∀ x ∈ s, 0 ≤ x.2) (hc : 0 ≤ call ∧ call < n) : L_law_behind (matI n G) s call reach rest = some (busyAns G s call reach rest) := by
  unfold L_law_behind busyAns
  rw [chk_le (by omega), Option.bind_some, behind_later hl hp, Option.bind_some, Option.bind_some]
  by_cases h : call ∈ s.map (·.1)
  · simp only [h, decide_true, if_true, memB]
  · simp only [h, decide_false, memB, if_false, letO_eq]
    obtain ⟨s2, e1, rfl⟩ := loop_nat0 (f := fun st x4 => L_law_behind_b1 (matI n G) s call reach rest (later s) st x4) (n := s.length) (s := []) (fun k st => st = busyTo G s call reach rest k) rfl (by
      rintro k st hk rfl
      obtain ⟨x, hx⟩ : ∃ x, s[k]? = some x := ⟨s[k], List.getElem?_eq_getElem hk⟩
      exact ⟨_, behind_turn hx hl (hs x (List.mem_of_getElem? hx)) hc, rfl⟩)
    rw [if_neg (by simp), range1_nat (by omega), Option.bind_some, e1, Option.bind_some]
    unfold sortO
    rw [if_pos (busyTo_ne _)]
    rfl
theorem rested_I {st : List Int} (hl : st.length ≤ 1000) : L_rested st = some (st.map fun x => (x, 0)) := by
  unfold L_rested
  rw [chk_le (by omega)]
  rfl
theorem reach_I {x : Nat} (hx : x < 1000) : ∃ r : Nat, L_law_reach (x : Int) = some (r : Int) ∧ r ≤ 60 := by
  unfold L_law_reach
  by_cases h : ((x : Int) / 10) % 3 = 1
  · refine ⟨x * 7 % 61, ?_, by have := Nat.mod_lt (x * 7) (show 0 < 61 by decide); omega⟩
    simp [h]
  · have h10 : (x : Int) % 10 = ((x % 10 : Nat) : Int) := by omega
    have hlt : x % 10 < 10 := Nat.mod_lt _ (by decide)
    simp only [h, decide_false, if_false, h10, atI_ofNat]
    have key : ∀ y : Nat, y < 10 → ∃ r : Nat, ([(0 : Int), 1, 2, 3, 4, 5, 6, 9, 14, 60])[y]? = some (r : Int) ∧ r ≤ 60 := by
      intro y hy
      match y, hy with
      | 0, _ => exact ⟨0, rfl, by omega⟩
      | 1, _ => exact ⟨1, rfl, by omega⟩
      | 2, _ => exact ⟨2, rfl, by omega⟩
      | 3, _ => exact ⟨3, rfl, by omega⟩
      | 4, _ => exact ⟨4, rfl, by omega⟩
      | 5, _ => exact ⟨5, rfl, by omega⟩
      | 6, _ => exact ⟨6, rfl, by omega⟩
      | 7, _ => exact ⟨9, rfl, by omega⟩
      | 8, _ => exact ⟨14, rfl, by omega⟩
      | 9, _ => exact ⟨60, rfl, by omega⟩
    obtain ⟨r, h1, h2⟩ := key _ hlt
    exact ⟨r, by rw [if_neg (by simp), h1]; rfl, h2⟩
end
end Va

/-! Ns1: the stands of helpers. -/
namespace Va
open PySem L2 PyProof.Rows PySem.W PySem.Calls
def L_all_stands_b1 (places : Int) (longer : (List (List Int))) (stand : (List Int)) : Option (List (List Int)) := (if (!stand.isEmpty) = true then (atI stand (-(1 : Int))).bind fun x => some x else some (0 : Int)).bind fun v => (range2 v places).bind fun l => (chk (decide (l.length ≤ 1000000))).bind fun u => (mapO (fun x2 => (catO stand ([x2] : (List Int))).bind fun l2 => some l2) l).bind fun l3 => (extO longer l3).bind fun longer2 => some longer2
def L_all_stands_b2 (places : Int) (found : (List (List Int))) (turn : Int) : Option (List (List Int)) := letO ([] : (List (List Int))) fun longer2 => (loopO (fun s x => L_all_stands_b1 places s x) found longer2).bind fun s2 => some s2
def L_all_stands (places : Int) (helpers : Int) : Option (List (List Int)) := letO ([([] : (List Int))] : (List (List Int))) fun found => (range1 helpers).bind fun l => (loopO (fun s x => L_all_stands_b2 places s x) l found).bind fun s4 => some s4
abbrev R_all_stands : List PyData → PyData × Nat → Prop := RelT (fun (a : (Int × Int)) => [PyData.int a.1, PyData.int a.2]) (fun a => L_all_stands a.1 a.2) (EL (ET PyData.int)) 2
def L_law_stands_b1 (law_stand : (List Int)) (law_longer : (List (List Int))) (law_place : Int) : Option (List (List Int)) := (if decide ((law_stand.length : Int) = (0 : Int)) = true then some true else (atI law_stand (-(1 : Int))).bind fun x => some (decide (x ≤ law_place))).bind fun b => if b = true then (catO law_stand ([law_place] : (List Int))).bind fun l => (appO law_longer l).bind fun law_longer2 => some law_longer2 else some law_longer
def L_law_stands_b2 (law_places : Int) (law_longer : (List (List Int))) (law_stand : (List Int)) : Option (List (List Int)) := (range1 law_places).bind fun l => (loopO (fun s x => L_law_stands_b1 law_stand s x) l law_longer).bind fun s2 => some s2
def L_law_stands_b3 (law_places : Int) (law_found : (List (List Int))) (law_turn : Int) : Option (List (List Int)) := letO ([] : (List (List Int))) fun law_longer2 => (loopO (fun s x => L_law_stands_b2 law_places s x) law_found law_longer2).bind fun s4 => some s4
def L_law_stands (law_places : Int) (law_helpers : Int) : Option (List (List Int)) := letO ([([] : (List Int))] : (List (List Int))) fun law_found => (range1 law_helpers).bind fun l => (loopO (fun s x => L_law_stands_b3 law_places s x) l law_found).bind fun s6 => (sortO (ltL ltI) okNE s6).bind fun l4 => some l4
abbrev R_law_stands : List PyData → PyData × Nat → Prop := RelT (fun (a : (Int × Int)) => [PyData.int a.1, PyData.int a.2]) (fun a => L_law_stands a.1 a.2) (EL (ET PyData.int)) 2
theorem nil_or_snoc {α : Type} (s : List α) : s = [] ∨ ∃ l a, s = l ++ [a] := by
  rcases List.eq_nil_or_concat s with h | ⟨l, a, h⟩
  · exact .inl h
  · exact .inr ⟨l, a, by rw [h, List.concat_eq_append]⟩
def lastI (s : List Int) : Int := s.getLastD 0
@[simp] theorem lastI_nil : lastI [] = 0 := (rfl)
@[simp] theorem lastI_cat {s : List Int} {p : Int} : lastI (s ++ [p]) = p := by simp [lastI]
def extI (n : Nat) (s : List Int) : List (List Int) := (rangeI (lastI s) ((n : Int) - lastI s).toNat).map fun p => s ++ [p]
def stN (n : Nat) : Nat → List (List Int)
  | 0 => [[]]
  | h + 1 => (stN n h).flatMap (extI n)
/-- a stand: places in order -/
structure Rise (n : Nat) (s : List Int) : Prop where
  asc : s.Pairwise (· ≤ ·)
  bnd : ∀ x ∈ s, 0 ≤ x ∧ x < n
theorem le_last {s : List Int} (h : s.Pairwise (· ≤ ·)) {x : Int} (hx : x ∈ s) : x ≤ lastI s := by
  rcases nil_or_snoc s with rfl | ⟨l, a, rfl⟩
  · cases hx
  · rw [lastI_cat]
    rcases List.mem_append.mp hx with hx | hx
    · exact (List.pairwise_append.mp h).2.2 x hx a (by simp)
    · rw [List.mem_singleton.mp hx]; exact Int.le_refl _
theorem Rise.last {n : Nat} {s : List Int} (h : Rise n s) : 0 ≤ lastI s ∧ lastI s ≤ n := by
  rcases nil_or_snoc s with rfl | ⟨l, a, rfl⟩
  · rw [lastI_nil]; omega
  · rw [lastI_cat]
    have := h.bnd a (by simp)
    omega
theorem mem_extI {n : Nat} {s t : List Int} : t ∈ extI n s ↔ ∃ p, lastI s ≤ p ∧ p < n ∧ t = s ++ [p] := by
  unfold extI
  rw [List.mem_map]
  constructor
  · rintro ⟨p, hp, rfl⟩
    have := mem_rangeI.mp hp
    exact ⟨p, this.1, by omega, rfl⟩
  · rintro ⟨p, h1, h2, rfl⟩
    exact ⟨p, mem_rangeI.mpr ⟨h1, by omega⟩, rfl⟩
theorem mem_stN {n : Nat} : ∀ {h : Nat} {s : List Int}, s ∈ stN n h ↔ s.length = h ∧ Rise n s
  | 0, s => by
    simp only [stN, List.mem_singleton]
    constructor
    · rintro rfl; exact ⟨rfl, List.Pairwise.nil, fun x hx => nomatch hx⟩
    · intro h; exact List.length_eq_zero_iff.mp h.1
  | h + 1, s => by
    simp only [stN, List.mem_flatMap, mem_extI]
    constructor
    · rintro ⟨t, ht, p, h1, h2, rfl⟩
      obtain ⟨hl, hr⟩ := mem_stN.mp ht
      have h0 := hr.last
      refine ⟨by simp [hl], List.pairwise_append.mpr ⟨hr.asc, List.pairwise_singleton _ _, fun x hx y hy => ?_⟩, fun x hx => ?_⟩
      · rw [List.mem_singleton.mp hy]; exact Int.le_trans (le_last hr.asc hx) h1
      · rcases List.mem_append.mp hx with hx | hx
        · exact hr.bnd x hx
        · rw [List.mem_singleton.mp hx]; omega
    · rintro ⟨hl, hr⟩
      rcases nil_or_snoc s with rfl | ⟨l, a, rfl⟩
      · cases hl
      · obtain ⟨q1, _, q3⟩ := List.pairwise_append.mp hr.asc
        have ha := hr.bnd a (by simp)
        refine ⟨l, mem_stN.mpr ⟨by simpa using hl, q1, fun x hx => hr.bnd x (by simp [hx])⟩, a, ?_, ha.2, rfl⟩
        rcases nil_or_snoc l with rfl | ⟨l', b, rfl⟩
        · exact ha.1
        · rw [lastI_cat]; exact q3 b (by simp) a (by simp)
theorem ltL_app {s t : List Int} (h : ltL ltI s t = true) (hl : s.length = t.length) (a b : List Int) : ltL ltI (s ++ a) (t ++ b) = true := by
  induction s generalizing t with
  | nil => cases t with
    | nil => cases h
    | cons => cases hl
  | cons x s ih => cases t with
    | nil => cases hl
    | cons y t =>
      simp only [ltL, List.cons_append] at *
      by_cases e : x = y
      · rw [if_pos e] at *; exact ih h (by simpa using hl)
      · rw [if_neg e] at *; exact h
theorem ltL_last {s : List Int} {p q : Int} (h : p < q) : ltL ltI (s ++ [p]) (s ++ [q]) = true := by
  induction s with
  | nil => simp [ltL, ltI, Int.ne_of_lt h, h]
  | cons x s ih => simp only [List.cons_append, ltL, if_true]; exact ih
theorem ordLI : OrdL (ltL ltI) := ordL ordI
theorem rangeI_lt {lo : Int} : ∀ {n : Nat}, (rangeI lo n).Pairwise (· < ·)
  | 0 => List.Pairwise.nil
  | n + 1 => by
    rw [rangeI_succ]
    refine List.pairwise_append.mpr ⟨rangeI_lt, List.pairwise_singleton _ _, fun x hx y hy => ?_⟩
    rw [List.mem_singleton.mp hy]
    exact (mem_rangeI.mp hx).2
theorem stN_lt {n : Nat} : ∀ {h : Nat}, (stN n h).Pairwise fun a b => ltL ltI a b = true
  | 0 => List.pairwise_singleton _ _
  | h + 1 => by
    refine List.pairwise_flatMap.mpr ⟨fun s hs => ?_, stN_lt.imp_of_mem fun {s t} hs ht hst x hx y hy => ?_⟩
    · exact List.pairwise_map.mpr (rangeI_lt.imp fun h => ltL_last h)
    · obtain ⟨p, _, _, rfl⟩ := mem_extI.mp hx
      obtain ⟨q, _, _, rfl⟩ := mem_extI.mp hy
      exact ltL_app hst ((mem_stN.mp hs).1.trans (mem_stN.mp ht).1.symm) _ _
theorem flatMap_len {α β : Type} {f : α → List β} {m : Nat} : ∀ {xs : List α}, (∀ x ∈ xs, (f x).length ≤ m) → (xs.flatMap f).length ≤ xs.length * m
  | [], _ => by simp
  | x :: xs, h => by
    rw [List.flatMap_cons, List.length_append, List.length_cons, Nat.succ_mul]
    have := h x (List.mem_cons_self ..)
    have := flatMap_len (xs := xs) fun y hy => h y (List.mem_cons_of_mem _ hy)
    omega
theorem extI_len {n : Nat} {s : List Int} (h : Rise n s) : (extI n s).length ≤ n := by
  have := h.last
  simp only [extI, List.length_map, rangeI_len]
  omega
theorem stN_len {n : Nat} : ∀ {h : Nat}, (stN n h).length ≤ n ^ h
  | 0 => Nat.le_refl _
  | h + 1 => by
    rw [Nat.pow_succ]
    refine Nat.le_trans (flatMap_len (m := n) fun s hs => extI_len (mem_stN.mp hs).2) ?_
    exact Nat.mul_le_mul_right _ stN_len
theorem stN_small {n h : Nat} (hn : n ≤ 9) (hh : h ≤ 6) : (stN n h).length ≤ 531441 :=
  Nat.le_trans stN_len (Nat.le_trans (Nat.pow_le_pow_left hn h) (Nat.le_trans (Nat.pow_le_pow_right (by decide) hh) (by decide)))
theorem last_at {s : List Int} (h : s ≠ []) : atI s (-1) = some (lastI s) := by
  rcases nil_or_snoc s with rfl | ⟨l, a, rfl⟩
  · exact absurd rfl h
  · rw [lastI_cat]
    have : ixN (l ++ [a]).length (-1) = some l.length := by
      unfold ixN
      simp
      omega
    unfold atI
    rw [this]
    simp
section
variable {n h : Nat}
theorem all_stands_b1_I {s : List Int} {longer : List (List Int)} (hr : Rise n s) (hn : n ≤ 9) (hl : s.length ≤ 9) (hg : longer.length + n < 1000000) : L_all_stands_b1 (n : Int) longer s = some (longer ++ extI n s) := by
  have h0 := hr.last
  have he := extI_len hr
  have e1 : (if (!s.isEmpty) = true then (atI s (-(1 : Int))).bind fun x => some x else some (0 : Int)) = some (lastI s) := by
    cases s with
    | nil => rfl
    | cons x s => rw [if_pos (show (!(x :: s).isEmpty) = true from rfl), last_at (by simp)]; rfl
  unfold L_all_stands_b1
  rw [e1, Option.bind_some, range2_small (by omega) (by omega) (by omega) (by omega), Option.bind_some, chk_le (by rw [rangeI_len]; omega), Option.bind_some,
    mapO_map (g := fun p => s ++ [p]) (fun x hx => by rw [catO_le (by simp; omega)]; rfl), Option.bind_some]
  show (extO longer (extI n s)).bind _ = _
  rw [extO_lt (by omega)]
  rfl
theorem all_stands_I (hn : n ≤ 9) (hh : h ≤ 6) : L_all_stands (n : Int) (h : Int) = some (stN n h) := by
  unfold L_all_stands
  rw [letO_eq, range1_nat (by omega), Option.bind_some]
  obtain ⟨s, e1, rfl⟩ := loop_nat0 (f := fun s x => L_all_stands_b2 (n : Int) s x) (n := h) (s := [[]]) (fun k s => s = stN n k) rfl (by
    rintro k s hk rfl
    refine ⟨_, ?_, rfl⟩
    unfold L_all_stands_b2
    rw [letO_eq]
    have hs := stN_small (n := n) (h := k) hn (by omega)
    obtain ⟨s', e, rfl⟩ := loopO_pre (f := fun s x => L_all_stands_b1 (n : Int) s x) (xs := stN n k) (s := []) (fun ys s => s = ys.flatMap (extI n)) rfl (by
      rintro ys x s hp rfl
      have hx := mem_stN.mp (mem_pre hp)
      have hy := pre_len hp
      have hyl : (ys.flatMap (extI n)).length ≤ ys.length * n := flatMap_len fun y hy => extI_len (mem_stN.mp (hp.subset (by simp [hy]))).2
      have hlen : (stN n k).length ≤ n ^ k := stN_len
      have hk5 : n ^ k ≤ 9 ^ 5 := Nat.le_trans (Nat.pow_le_pow_left hn k) (Nat.pow_le_pow_right (by decide) (by omega))
      have : ys.length * n ≤ 9 ^ 5 * 9 := Nat.mul_le_mul (by omega) hn
      refine ⟨_, all_stands_b1_I hx.2 hn (by omega) (by omega), ?_⟩
      rw [List.flatMap_append]
      simp)
    rw [e]
    rfl)
  rw [e1]
  rfl
theorem law_stands_b2_I {s : List Int} {longer : List (List Int)} (hr : Rise n s) (hn : n ≤ 9) (hl : s.length ≤ 9) (hg : longer.length + n < 1000000) : L_law_stands_b2 (n : Int) longer s = some (longer ++ extI n s) := by
  have h0 := hr.last
  unfold L_law_stands_b2
  rw [range1_nat (by omega), Option.bind_some]
  obtain ⟨s', e, rfl⟩ := loop_nat0 (f := fun st x => L_law_stands_b1 s st x) (n := n) (s := longer) (fun i st => st = longer ++ (rangeI (lastI s) ((i : Int) - lastI s).toNat).map fun p => s ++ [p]) (by
      rw [show (((0 : Nat) : Int) - lastI s).toNat = 0 by omega, rangeI_zero]; simp) (by
    rintro i st hi rfl
    refine ⟨_, ?_, rfl⟩
    have e1 : (if decide ((s.length : Int) = (0 : Int)) = true then some true else (atI s (-(1 : Int))).bind fun x => some (decide (x ≤ (i : Int)))) = some (decide (lastI s ≤ (i : Int))) := by
      cases s with
      | nil => simp
      | cons x s => rw [if_neg (by simp; omega), last_at (by simp)]; rfl
    unfold L_law_stands_b1
    rw [e1, Option.bind_some]
    by_cases hc : lastI s ≤ (i : Int)
    · rw [if_pos (by simp [hc]), catO_le (by simp; omega), Option.bind_some, appO_lt (by simp; omega), Option.bind_some]
      rw [show (((i + 1 : Nat) : Int) - lastI s).toNat = ((i : Int) - lastI s).toNat + 1 by omega, rangeI_succ, List.map_append, ← List.append_assoc]
      rw [show lastI s + ((((i : Int) - lastI s).toNat : Nat) : Int) = (i : Int) by omega]
      rfl
    · rw [if_neg (by simp [hc])]
      rw [show (((i + 1 : Nat) : Int) - lastI s).toNat = 0 by omega, show ((i : Int) - lastI s).toNat = 0 by omega])
  rw [e]
  rfl
theorem stN_sort : sortI (ltL ltI) (stN n h) = stN n h := sortI_id ordLI (stN_lt.imp fun h => ordLI.asym h)
theorem law_stands_I (hn : n ≤ 9) (hh : h ≤ 6) (h1 : 1 ≤ h) : L_law_stands (n : Int) (h : Int) = some (stN n h) := by
  unfold L_law_stands
  rw [letO_eq, range1_nat (by omega), Option.bind_some]
  obtain ⟨s, e1, rfl⟩ := loop_nat0 (f := fun s x => L_law_stands_b3 (n : Int) s x) (n := h) (s := [[]]) (fun k s => s = stN n k) rfl (by
    rintro k s hk rfl
    refine ⟨_, ?_, rfl⟩
    unfold L_law_stands_b3
    rw [letO_eq]
    obtain ⟨s', e, rfl⟩ := loopO_pre (f := fun s x => L_law_stands_b2 (n : Int) s x) (xs := stN n k) (s := []) (fun ys s => s = ys.flatMap (extI n)) rfl (by
      rintro ys x s hp rfl
      have hx := mem_stN.mp (mem_pre hp)
      have hy := pre_len hp
      have hyl : (ys.flatMap (extI n)).length ≤ ys.length * n := flatMap_len fun y hy => extI_len (mem_stN.mp (hp.subset (by simp [hy]))).2
      have hlen : (stN n k).length ≤ n ^ k := stN_len
      have hk5 : n ^ k ≤ 9 ^ 5 := Nat.le_trans (Nat.pow_le_pow_left hn k) (Nat.pow_le_pow_right (by decide) (by omega))
      have : ys.length * n ≤ 9 ^ 5 * 9 := Nat.mul_le_mul (by omega) hn
      refine ⟨_, law_stands_b2_I hx.2 hn (by omega) (by omega), ?_⟩
      rw [List.flatMap_append]
      simp)
    rw [e]
    rfl)
  rw [e1, Option.bind_some]
  unfold sortO
  rw [if_pos, stN_sort]
  · rfl
  · rw [List.all_eq_true]
    intro s hs
    have := (mem_stN.mp hs).1
    cases s with
    | nil => simp at this; omega
    | cons _ _ => rfl
theorem stN_ne (hn : 1 ≤ n) : 1 ≤ (stN n h).length := by
  have : List.replicate h (0 : Int) ∈ stN n h := mem_stN.mpr ⟨by simp, by
    refine ⟨?_, fun x hx => ?_⟩
    · exact List.pairwise_replicate.mpr (.inr (Int.le_refl _))
    · rw [(List.mem_replicate.mp hx).2]; omega⟩
  exact List.length_pos_of_mem this
end
end Va

/-! Ns2: least lengths of moves, by both. -/
namespace Va
open PySem L2 PyProof.Rows PySem.W PySem.Calls
def L_paired_length_b1 (table : (List (List (Option Int)))) (first : (List Int)) (reach : Int) (least : (Option Int)) (order : (List Int)) : Option (Option Int) := (chk (decide ((first.zip order).length ≤ 1000000))).bind fun u => (mapO (fun x => (atI table x.1).bind fun x2 => (atI x2 x.2).bind fun x3 => some x3) (first.zip order)).bind fun l => (chk (decide (l.length ≤ 1000000))).bind fun u2 => (mapO (fun x4 => (if x4.isSome = true then (x4).bind fun v => some (decide (v ≤ reach)) else some false).bind fun b => some b) l).bind fun l2 => (if (l2.all id) = true then (if least.isNone = true then some true else (mapO id l).bind fun l3 => (least).bind fun v2 => some (decide (l3.sum < v2))).bind fun b2 => some b2 else some false).bind fun b3 => if b3 = true then (mapO id l).bind fun l4 => letO (some l4.sum) fun least2 => some least2 else some least
def L_paired_length (table : (List (List (Option Int)))) (first : (List Int)) (second : (List Int)) (reach : Int) : Option (Option Int) := letO (none : (Option Int)) fun least => (permO second).bind fun l => (loopO (fun s x => L_paired_length_b1 table first reach s x) l least).bind fun s2 => some s2
abbrev R_paired_length : List PyData → PyData × Nat → Prop := RelT (fun (a : ((List (List (Option Int))) × (List Int) × (List Int) × Int)) => [(EL (EL (EO PyData.int))) a.1, (ET PyData.int) a.2.1, (ET PyData.int) a.2.2.1, PyData.int a.2.2.2]) (fun a => L_paired_length a.1 a.2.1 a.2.2.1 a.2.2.2) (EO PyData.int) 2
def L_law_orders_b1 (rec_ : (List Int) → Option (List (List Int))) (law_stand : (List Int)) (law_found : (List (List Int))) (law_k : Int) : Option (List (List Int)) := (catO (cutI law_stand none (some law_k)) (cutI law_stand (some (law_k + (1 : Int))) none)).bind fun l => (rec_ l).bind fun r => (chk (decide (r.length ≤ 1000000))).bind fun u => (mapO (fun x => (atI law_stand law_k).bind fun x2 => (catO ([x2] : (List Int)) x).bind fun l2 => some l2) r).bind fun l3 => (catO law_found l3).bind fun l4 => some l4
def L_law_orders_step (rec_ : (List Int) → Option (List (List Int))) (law_stand : (List Int)) : Option (List (List Int)) := if decide ((law_stand.length : Int) < (2 : Int)) = true then some ([law_stand] : (List (List Int))) else letO ([] : (List (List Int))) fun law_found => (range1 (law_stand.length : Int)).bind fun l => (loopO (fun s x => L_law_orders_b1 rec_ law_stand s x) l law_found).bind fun s2 => some s2
def L_law_orders (n_ : Nat) : (List Int) → Option (List (List Int)) := match n_ with | 0 => fun _ => none | n + 1 => L_law_orders_step (L_law_orders n)
abbrev R_law_orders : List PyData → PyData × Nat → Prop := RelT (fun (a : (List Int)) => [(ET PyData.int) a]) (fun a => L_law_orders 6 a) (EL (EL PyData.int)) 0
def L_law_move_b1 (law_rows : (List (List (Option Int)))) (law_first : (List Int)) (law_reach : Int) (law_least : (Option Int)) (law_order : (List Int)) : Option (Option Int) := (range1 (law_first.length : Int)).bind fun l => (chk (decide (l.length ≤ 1000000))).bind fun u => (mapO (fun x => (atI law_first x).bind fun x2 => (atI law_rows x2).bind fun x3 => (atI law_order x).bind fun x4 => (atI x3 x4).bind fun x5 => some x5) l).bind fun l2 => (chk (decide (l2.length ≤ 1000000))).bind fun u2 => (mapO (fun x6 => (if x6.isSome = true then (x6).bind fun v => some (decide (v ≤ law_reach)) else some false).bind fun b => some b) l2).bind fun l3 => if (l3.all id) = true then (if law_least.isNone = true then some true else (mapO id l2).bind fun l4 => (law_least).bind fun v2 => some (decide (l4.sum < v2))).bind fun b2 => if b2 = true then (mapO id l2).bind fun l5 => letO (some l5.sum) fun law_least2 => some law_least2 else some law_least else some law_least
def L_law_move (law_rows : (List (List (Option Int)))) (law_first : (List Int)) (law_second : (List Int)) (law_reach : Int) : Option (Option Int) := letO (none : (Option Int)) fun law_least => (L_law_orders 6 law_second).bind fun r => (loopO (fun s x => L_law_move_b1 law_rows law_first law_reach s x) r law_least).bind fun s2 => some s2
abbrev R_law_move : List PyData → PyData × Nat → Prop := RelT (fun (a : ((List (List (Option Int))) × (List Int) × (List Int) × Int)) => [(EL (EL (EO PyData.int))) a.1, (ET PyData.int) a.2.1, (ET PyData.int) a.2.2.1, PyData.int a.2.2.2]) (fun a => L_law_move a.1 a.2.1 a.2.2.1 a.2.2.2) (EO PyData.int) 2
def wI (G : Nat → Nat → Option Nat) (a b : Int) : Option Int := optI (G a.toNat b.toNat)
def stepsI (G : Nat → Nat → Option Nat) (first order : List Int) : List (Option Int) := (first.zip order).map fun p => wI G p.1 p.2
def nearO (reach : Int) (o : Option Int) : Bool := match o with
  | some v => decide (v ≤ reach)
  | none => false
def sumO (xs : List (Option Int)) : Int := (xs.filterMap id).sum
def betterI (reach : Int) (least : Option Int) (xs : List (Option Int)) : Option Int :=
  if xs.all (nearO reach) = true then match least with
    | none => some (sumO xs)
    | some m => if sumO xs < m then some (sumO xs) else some m
  else least
def moveI (G : Nat → Nat → Option Nat) (reach : Int) (first second : List Int) : Option Int := (permI second).foldl (fun least o => betterI reach least (stepsI G first o)) none
theorem mapO_some {xs : List (Option Int)} {reach : Int} (h : xs.all (nearO reach) = true) : mapO id xs = some (xs.filterMap id) := by
  induction xs with
  | nil => rfl
  | cons x xs ih =>
    rw [List.all_cons, Bool.and_eq_true] at h
    cases x with
    | none => cases h.1
    | some v => rw [mapO, ih h.2]; rfl
theorem near_map (xs : List (Option Int)) (reach : Int) : mapO (fun x => (if x.isSome = true then (x).bind fun v => some (decide (v ≤ reach)) else some false).bind fun b => some b) xs = some (xs.map (nearO reach)) :=
  mapO_map fun x _ => by cases x <;> rfl
theorem mapO_range {β : Type} {f : Int → Option β} {l : List β} (h : ∀ (i : Nat) (hi : i < l.length), f (i : Int) = some l[i]) : mapO f (rangeI 0 l.length) = some l := by
  have : ∀ (k : Nat) (lo : Nat), lo + k = l.length → mapO f (rangeI (lo : Int) k) = some (l.drop lo) := by
    intro k
    induction k with
    | zero => intro lo e; rw [List.drop_of_length_le (by omega)]; rfl
    | succ k ih =>
      intro lo e
      have e1 : rangeI (lo : Int) (k + 1) = (lo : Int) :: rangeI ((lo + 1 : Nat) : Int) k := by
        unfold rangeI
        rw [List.range_succ_eq_map, List.map_cons, List.map_map]
        congr 1
        · refine List.map_congr_left fun i _ => ?_
          show (lo : Int) + ((i + 1 : Nat) : Int) = ((lo + 1 : Nat) : Int) + (i : Int)
          omega
      rw [e1, mapO, h lo (by omega), ih (lo + 1) (by omega), Option.bind_some, Option.bind_some, ← List.drop_eq_getElem_cons]
  have := this l.length 0 (by omega)
  simpa using this
theorem orders_I {xs : List Int} (h1 : 1 ≤ xs.length) (h3 : xs.length ≤ 3) : L_law_orders 6 xs = some (permI xs) := by
  match xs, h1, h3 with
  | [a], _, _ => kernel_rfl
  | [a, b], _, _ => kernel_rfl
  | [a, b, c], _, _ => kernel_rfl
theorem permO_I {xs : List Int} (h1 : 1 ≤ xs.length) (h3 : xs.length ≤ 3) : permO xs = some (permI xs) := if_pos ⟨h1, h3⟩
theorem permI_mem {xs o : List Int} (h1 : 1 ≤ xs.length) (h3 : xs.length ≤ 3) (h : o ∈ permI xs) : o.Perm xs := by
  match xs, h1, h3 with
  | [a], _, _ =>
    have e : permI [a] = [[a]] := rfl
    rw [e] at h
    rw [List.mem_singleton.mp h]
  | [a, b], _, _ =>
    have e : permI [a, b] = [[a, b], [b, a]] := rfl
    rw [e] at h
    simp only [List.mem_cons, List.not_mem_nil, or_false] at h
    rcases h with rfl | rfl
    · exact .refl _
    · exact .swap _ _ _
  | [a, b, c], _, _ =>
    have e : permI [a, b, c] = [[a, b, c], [a, c, b], [b, a, c], [b, c, a], [c, a, b], [c, b, a]] := rfl
    rw [e] at h
    simp only [List.mem_cons, List.not_mem_nil, or_false] at h
    rcases h with rfl | rfl | rfl | rfl | rfl | rfl
    · exact .refl _
    · exact .cons _ (.swap _ _ _)
    · exact .swap _ _ _
    · exact ((List.perm_append_comm (l₁ := [b, c]) (l₂ := [a])))
    · exact ((List.perm_append_comm (l₁ := [c]) (l₂ := [a, b])))
    · exact (List.Perm.swap b c [a]).trans ((List.perm_append_comm (l₁ := [b, c]) (l₂ := [a])))
section
variable {n : Nat} {G : Nat → Nat → Option Nat} {first second : List Int} {reach : Int}
theorem steps_zip (h1 : ∀ x ∈ first, 0 ≤ x ∧ x < n) (h2 : ∀ x ∈ second, 0 ≤ x ∧ x < n) : mapO (fun x : Int × Int => (atI (matI n G) x.1).bind fun x2 => (atI x2 x.2).bind fun x3 => some x3) (first.zip second) = some (stepsI G first second) :=
  mapO_map fun x hx => by
    obtain ⟨a, b⟩ := x
    have ha := h1 a (List.of_mem_zip hx).1
    have hb := h2 b (List.of_mem_zip hx).2
    rw [matI_atI ha.1 ha.2, Option.bind_some, rowI_atI hb.1 hb.2]
    rfl
theorem steps_range (hl : first.length = second.length) (h1 : ∀ x ∈ first, 0 ≤ x ∧ x < n) (h2 : ∀ x ∈ second, 0 ≤ x ∧ x < n) :
    mapO (fun x => (atI first x).bind fun x2 => (atI (matI n G) x2).bind fun x3 => (atI second x).bind fun x4 => (atI x3 x4).bind fun x5 => some x5) (rangeI 0 first.length) = some (stepsI G first second) := by
  have e : first.length = (stepsI G first second).length := by simp [stepsI, hl]
  rw [e]
  refine mapO_range fun i hi => ?_
  rw [← e] at hi
  have hi2 : i < second.length := by omega
  have ha := h1 first[i] (List.getElem_mem hi)
  have hb := h2 second[i] (List.getElem_mem hi2)
  rw [atI_ofNat, List.getElem?_eq_getElem hi, Option.bind_some, matI_atI ha.1 ha.2, Option.bind_some, atI_ofNat, List.getElem?_eq_getElem hi2, Option.bind_some, rowI_atI hb.1 hb.2]
  simp [stepsI, wI]
theorem stepsI_len : (stepsI G first second).length ≤ first.length := by
  simp only [stepsI, List.length_map, List.length_zip]
  omega
theorem paired_b1_I (hl : first.length ≤ 1000) (h1 : ∀ x ∈ first, 0 ≤ x ∧ x < n) (h2 : ∀ x ∈ second, 0 ≤ x ∧ x < n) (least : Option Int) :
    L_paired_length_b1 (matI n G) first reach least second = some (betterI reach least (stepsI G first second)) := by
  have hs := stepsI_len (G := G) (first := first) (second := second)
  unfold L_paired_length_b1
  rw [chk_le (by rw [List.length_zip]; omega), Option.bind_some, steps_zip h1 h2, Option.bind_some, chk_le (by omega), Option.bind_some, near_map, Option.bind_some]
  unfold betterI
  have ea : (((stepsI G first second).map (nearO reach)).all id) = (stepsI G first second).all (nearO reach) := by rw [List.all_map]; rfl
  rw [ea]
  by_cases h : (stepsI G first second).all (nearO reach) = true
  · rw [if_pos h, mapO_some h, if_pos h]
    cases least with
    | none => simp [sumO]
    | some m => by_cases hm : ((stepsI G first second).filterMap id).sum < m <;> simp [sumO, hm]
  · rw [if_neg h, if_neg h]
    rfl
theorem law_move_b1_I (hl : first.length ≤ 1000) (he : first.length = second.length) (h1 : ∀ x ∈ first, 0 ≤ x ∧ x < n) (h2 : ∀ x ∈ second, 0 ≤ x ∧ x < n) (least : Option Int) :
    L_law_move_b1 (matI n G) first reach least second = some (betterI reach least (stepsI G first second)) := by
  have hs := stepsI_len (G := G) (first := first) (second := second)
  unfold L_law_move_b1
  rw [range1_nat (by omega), Option.bind_some, chk_le (by rw [rangeI_len]; omega), Option.bind_some, steps_range he h1 h2, Option.bind_some, chk_le (by omega), Option.bind_some, near_map, Option.bind_some]
  unfold betterI
  have ea : (((stepsI G first second).map (nearO reach)).all id) = (stepsI G first second).all (nearO reach) := by rw [List.all_map]; rfl
  rw [ea]
  by_cases h : (stepsI G first second).all (nearO reach) = true
  · rw [if_pos h, mapO_some h, if_pos h]
    cases least with
    | none => simp [sumO]
    | some m => by_cases hm : ((stepsI G first second).filterMap id).sum < m <;> simp [sumO, hm]
  · rw [if_neg h, if_neg h]
theorem paired_I (he : first.length = second.length) (hp : 1 ≤ second.length) (h3 : second.length ≤ 3) (h1 : ∀ x ∈ first, 0 ≤ x ∧ x < n) (h2 : ∀ x ∈ second, 0 ≤ x ∧ x < n) :
    L_paired_length (matI n G) first second reach = some (moveI G reach first second) := by
  unfold L_paired_length moveI
  rw [letO_eq, permO_I hp h3, Option.bind_some, loopO_fold (g := fun least o => betterI reach least (stepsI G first o)) (fun o ho s => paired_b1_I (by omega) h1 (fun x hx => h2 x ((permI_mem hp h3 ho).mem_iff.mp hx)) s)]
  rfl
theorem law_move_I (he : first.length = second.length) (hp : 1 ≤ second.length) (h3 : second.length ≤ 3) (h1 : ∀ x ∈ first, 0 ≤ x ∧ x < n) (h2 : ∀ x ∈ second, 0 ≤ x ∧ x < n) :
    L_law_move (matI n G) first second reach = some (moveI G reach first second) := by
  unfold L_law_move moveI
  rw [letO_eq, orders_I hp h3, Option.bind_some, loopO_fold (g := fun least o => betterI reach least (stepsI G first o)) (fun o ho s => law_move_b1_I (by omega) (by rw [(permI_mem hp h3 ho).length_eq]; exact he) h1 (fun x hx => h2 x ((permI_mem hp h3 ho).mem_iff.mp hx)) s)]
  rfl
end
end Va

/-! Ns3: answers to a call, by both. -/
namespace Va
open PySem L2 PyProof.Rows PySem.W PySem.Calls
def L_sent (stand : (List Int)) (place : Int) (call : Int) : Option (List Int) := (idxO stand place).bind fun n => (catO (cutI stand none (some n)) (cutI stand (some (n + (1 : Int))) none)).bind fun l => (catO l ([call] : (List Int))).bind fun l2 => some (sortI ltI l2)
abbrev R_sent : List PyData → PyData × Nat → Prop := RelT (fun (a : ((List Int) × Int × Int)) => [(ET PyData.int) a.1, PyData.int a.2.1, PyData.int a.2.2]) (fun a => L_sent a.1 a.2.1 a.2.2) (ET PyData.int) 2
def L_answers_by_one_b1 (table : (List (List (Option Int)))) (stand : (List Int)) (call : Int) (reach : Int) (found : (List ((List Int) × Int))) (place : Int) : Option (List ((List Int) × Int)) := (atI table place).bind fun x => (atI x call).bind fun x2 => (if x2.isSome = true then (x2).bind fun v => some (decide (v ≤ reach)) else some false).bind fun b => if b = true then (L_sent stand place call).bind fun r => (x2).bind fun v2 => (appO found (r, v2)).bind fun found2 => some found2 else some found
def L_answers_by_one (table : (List (List (Option Int)))) (stand : (List Int)) (call : Int) (reach : Int) : Option (List ((List Int) × Int)) := if memB call stand = true then some ([(stand, (0 : Int))] : (List ((List Int) × Int))) else letO ([] : (List ((List Int) × Int))) fun found => (chk (decide (stand.length < 64))).bind fun u => (loopO (fun s x => L_answers_by_one_b1 table stand call reach s x) (setO' stand) found).bind fun s2 => some (sortI (lt2 (ltL ltI) ltI) s2)
abbrev R_answers_by_one : List PyData → PyData × Nat → Prop := RelT (fun (a : ((List (List (Option Int))) × (List Int) × Int × Int)) => [(EL (EL (EO PyData.int))) a.1, (ET PyData.int) a.2.1, PyData.int a.2.2.1, PyData.int a.2.2.2]) (fun a => L_answers_by_one a.1 a.2.1 a.2.2.1 a.2.2.2) (EL (E2 (ET PyData.int) PyData.int)) 2
def L_answers_by_all_b1 (table : (List (List (Option Int)))) (stand : (List Int)) (call : Int) (reach : Int) (found : (List ((List Int) × Int))) (other : (List Int)) : Option (List ((List Int) × Int)) := if memB call other = true then (L_paired_length table stand other reach).bind fun r => if r.isSome = true then (r).bind fun v => (appO found (other, v)).bind fun found2 => some found2 else some found else some found
def L_answers_by_all (table : (List (List (Option Int)))) (stand : (List Int)) (call : Int) (reach : Int) : Option (List ((List Int) × Int)) := letO ([] : (List ((List Int) × Int))) fun found => (L_all_stands (table.length : Int) (stand.length : Int)).bind fun r => (loopO (fun s x => L_answers_by_all_b1 table stand call reach s x) r found).bind fun s2 => some s2
abbrev R_answers_by_all : List PyData → PyData × Nat → Prop := RelT (fun (a : ((List (List (Option Int))) × (List Int) × Int × Int)) => [(EL (EL (EO PyData.int))) a.1, (ET PyData.int) a.2.1, PyData.int a.2.2.1, PyData.int a.2.2.2]) (fun a => L_answers_by_all a.1 a.2.1 a.2.2.1 a.2.2.2) (EL (E2 (ET PyData.int) PyData.int)) 2
def L_answers (town : (Int × (List (Int × Int × Int)))) (stand : (List Int)) (call : Int) (rule : Str) (reach : Int) : Option (List ((List Int) × Int)) := if decide (rule = ("one" : Str)) = true then (L_ways town).bind fun r => (L_answers_by_one r stand call reach).bind fun r2 => some r2 else (L_ways town).bind fun r3 => (L_answers_by_all r3 stand call reach).bind fun r4 => some r4
abbrev R_answers : List PyData → PyData × Nat → Prop := RelT (fun (a : ((Int × (List (Int × Int × Int))) × (List Int) × Int × Str × Int)) => [(E2 PyData.int (EL (E3 PyData.int PyData.int PyData.int))) a.1, (ET PyData.int) a.2.1, PyData.int a.2.2.1, PyData.str a.2.2.2.1, PyData.int a.2.2.2.2]) (fun a => L_answers a.1 a.2.1 a.2.2.1 a.2.2.2.1 a.2.2.2.2) (EL (E2 (ET PyData.int) PyData.int)) 2
def L_law_answers_b1 (law_rows : (List (List (Option Int)))) (law_stand : (List Int)) (law_call : Int) (law_reach : Int) (law_other : (List Int)) (law_found : (List ((List Int) × Int))) (law_k : Int) : Option (List ((List Int) × Int)) := (atI law_stand law_k).bind fun x => (atI law_rows x).bind fun x2 => (atI x2 law_call).bind fun x3 => (catO (cutI law_stand none (some law_k)) (cutI law_stand (some (law_k + (1 : Int))) none)).bind fun l => (catO l ([law_call] : (List Int))).bind fun l2 => letO (sortI ltI l2) fun law_behind2 => (if decide (law_behind2 = law_other) = true then (if x3.isSome = true then (x3).bind fun v => (if decide (v ≤ law_reach) = true then (x3).bind fun v2 => some (!memB (law_other, v2) law_found) else some false).bind fun b => some b else some false).bind fun b2 => some b2 else some false).bind fun b3 => if b3 = true then (x3).bind fun v3 => (appO law_found (law_other, v3)).bind fun law_found2 => some law_found2 else some law_found
def L_law_answers_b2 (law_rows : (List (List (Option Int)))) (law_stand : (List Int)) (law_call : Int) (law_rule : Str) (law_reach : Int) (law_found : (List ((List Int) × Int))) (law_other : (List Int)) : Option (List ((List Int) × Int)) := if memB law_call law_other = true then if decide (law_rule = ("all" : Str)) = true then (L_law_move law_rows law_stand law_other law_reach).bind fun r => if r.isSome = true then (r).bind fun v => (appO law_found (law_other, v)).bind fun law_found2 => some law_found2 else some law_found else (range1 (law_stand.length : Int)).bind fun l => (loopO (fun s x => L_law_answers_b1 law_rows law_stand law_call law_reach law_other s x) l law_found).bind fun s2 => some s2 else some law_found
def L_law_answers (law_rows : (List (List (Option Int)))) (law_stand : (List Int)) (law_call : Int) (law_rule : Str) (law_reach : Int) : Option (List ((List Int) × Int)) := if (decide (law_rule = ("one" : Str)) && memB law_call law_stand) = true then some ([(law_stand, (0 : Int))] : (List ((List Int) × Int))) else letO ([] : (List ((List Int) × Int))) fun law_found => (L_law_stands (law_rows.length : Int) (law_stand.length : Int)).bind fun r => (loopO (fun s x => L_law_answers_b2 law_rows law_stand law_call law_rule law_reach s x) r law_found).bind fun s4 => some s4
abbrev R_law_answers : List PyData → PyData × Nat → Prop := RelT (fun (a : ((List (List (Option Int))) × (List Int) × Int × Str × Int)) => [(EL (EL (EO PyData.int))) a.1, (ET PyData.int) a.2.1, PyData.int a.2.2.1, PyData.str a.2.2.2.1, PyData.int a.2.2.2.2]) (fun a => L_law_answers a.1 a.2.1 a.2.2.1 a.2.2.2.1 a.2.2.2.2) (EL (E2 (ET PyData.int) PyData.int)) 2
abbrev Ans := List Int × Int
abbrev ltA : Ans → Ans → Bool := lt2 (ltL ltI) ltI
theorem ordA : OrdL ltA := ord2 ordLI ordI
/-- the stand behind: the helper at p goes to the call -/
def putI (s : List Int) (p call : Int) : List Int := sortI ltI (call :: s.erase p)
def oneE (G : Nat → Nat → Option Nat) (s : List Int) (call reach p : Int) : Option Ans := (wI G p call).bind fun v => if v ≤ reach then some (putI s p call, v) else none
def oneA (G : Nat → Nat → Option Nat) (s : List Int) (call reach : Int) : List Ans :=
  if call ∈ s then [(s, 0)] else sortI ltA ((setO' s).filterMap (oneE G s call reach))
def allE (G : Nat → Nat → Option Nat) (s : List Int) (call reach : Int) (o : List Int) : Option Ans := if call ∈ o then (moveI G reach s o).map fun v => (o, v) else none
def allA (G : Nat → Nat → Option Nat) (n : Nat) (s : List Int) (call reach : Int) : List Ans := (stN n s.length).filterMap (allE G s call reach)
def ansI (one : Bool) (G : Nat → Nat → Option Nat) (n : Nat) (s : List Int) (call reach : Int) : List Ans := if one = true then oneA G s call reach else allA G n s call reach
/-! ### the stand behind -/
theorem take_erase {s : List Int} {k : Nat} {p : Int} (hk : s[k]? = some p) (call : Int) : sortI ltI (s.take k ++ s.drop (k + 1) ++ [call]) = putI s p call := by
  refine sortI_perm ordI ?_
  have hkl := (List.getElem?_eq_some_iff.mp hk).1
  have hp : p ∈ s := List.mem_of_getElem? hk
  have e1 : s.Perm (p :: (s.take k ++ s.drop (k + 1))) := by
    have : s = s.take k ++ p :: s.drop (k + 1) := by
      have h := (List.getElem?_eq_some_iff.mp hk).2
      rw [← h, ← List.drop_eq_getElem_cons hkl, List.take_append_drop]
    exact (List.Perm.of_eq this).trans List.perm_middle
  have e2 := List.perm_cons_erase hp
  have e3 : (s.take k ++ s.drop (k + 1)).Perm (s.erase p) := (e1.symm.trans e2).cons_inv
  exact (List.perm_append_comm (l₂ := [call])).trans (.cons _ e3)
theorem putI_perm (s : List Int) (p call : Int) : (putI s p call).Perm (call :: s.erase p) := sortI_perm' _
theorem putI_inj {s : List Int} {p q call : Int} (hp : p ∈ s) (hq : q ∈ s) (h : putI s p call = putI s q call) : p = q := by
  have e : (call :: s.erase p).Perm (call :: s.erase q) := (putI_perm s p call).symm.trans (h ▸ putI_perm s q call)
  have e1 : (s.erase p).Perm (s.erase q) := e.cons_inv
  have e2 : (p :: s.erase p).Perm (q :: s.erase p) := (List.perm_cons_erase hp).symm.trans ((List.perm_cons_erase hq).trans (.cons _ e1.symm))
  have := e2.count_eq p
  rw [List.count_cons_self, List.count_cons] at this
  by_cases z : p = q
  · exact z
  · rw [if_neg (by simpa using fun w => z w.symm)] at this
    omega
theorem putI_rise {n : Nat} {s : List Int} {p call : Int} (hr : Rise n s) (hp : p ∈ s) (hc : 0 ≤ call ∧ call < n) : (putI s p call).length = s.length ∧ Rise n (putI s p call) := by
  refine ⟨?_, ?_, fun x hx => ?_⟩
  · rw [putI, sortI_len, List.length_cons, List.length_erase_of_mem hp]
    have := List.length_pos_of_mem hp
    omega
  · exact (sortI_sorted ordI _).imp fun h => by simpa [ltI] using h
  · rw [putI, mem_sortI] at hx
    rcases List.mem_cons.mp hx with rfl | hx
    · exact hc
    · exact hr.bnd x (List.mem_of_mem_erase hx)
theorem call_putI {s : List Int} {p call : Int} : call ∈ putI s p call := by rw [putI, mem_sortI]; exact List.mem_cons_self ..
theorem oneE_some {G : Nat → Nat → Option Nat} {s : List Int} {call reach p : Int} {e : Ans} : oneE G s call reach p = some e ↔ ∃ v, wI G p call = some v ∧ v ≤ reach ∧ e = (putI s p call, v) := by
  unfold oneE
  cases h : wI G p call with
  | none => simp
  | some v =>
    by_cases hv : v ≤ reach
    · simp [hv, eq_comm]
    · simp [hv]
theorem oneE_inj {G : Nat → Nat → Option Nat} {s : List Int} {call reach p q : Int} {e f : Ans} (hp : p ∈ s) (hq : q ∈ s) (h1 : oneE G s call reach p = some e) (h2 : oneE G s call reach q = some f) (h : e.1 = f.1) : p = q := by
  obtain ⟨v, _, _, rfl⟩ := oneE_some.mp h1
  obtain ⟨u, _, _, rfl⟩ := oneE_some.mp h2
  exact putI_inj hp hq h
section
variable {n : Nat} {G : Nat → Nat → Option Nat} {s : List Int} {call reach : Int}
theorem idx_nat {x : Int} : ∀ {xs : List Int}, x ∈ xs → ∃ k : Nat, idxO xs x = some (k : Int) ∧ xs[k]? = some x
  | y :: ys, h => by
    unfold idxO
    by_cases e : y = x
    · rw [if_pos e]; exact ⟨0, rfl, by rw [e]; rfl⟩
    · rw [if_neg e]
      have h' : x ∈ ys := by
        rcases List.mem_cons.mp h with z | z
        · exact absurd z.symm e
        · exact z
      obtain ⟨k, h1, h2⟩ := idx_nat h'
      exact ⟨k + 1, by rw [h1]; rfl, by simpa using h2⟩
theorem sent_I {p : Int} (hp : p ∈ s) (hl : s.length ≤ 1000) : L_sent s p call = some (putI s p call) := by
  obtain ⟨k, h1, h2⟩ := idx_nat hp
  have hkl := (List.getElem?_eq_some_iff.mp h2).1
  unfold L_sent
  rw [h1, Option.bind_some, cutI_to, show ((k : Int) + 1) = ((k + 1 : Nat) : Int) by omega, cutI_from, catO_le (by simp; omega), Option.bind_some, catO_le (by simp; omega), Option.bind_some, take_erase h2]
theorem one_b1_I {p : Int} {found : List Ans} (hp : p ∈ s) (hl : s.length ≤ 1000) (hs : ∀ x ∈ s, 0 ≤ x ∧ x < n) (hc : 0 ≤ call ∧ call < n) (hf : found.length < 1000000) :
    L_answers_by_one_b1 (matI n G) s call reach found p = some (found ++ (oneE G s call reach p).toList) := by
  have h := hs p hp
  unfold L_answers_by_one_b1
  rw [matI_atI h.1 h.2, Option.bind_some, rowI_atI hc.1 hc.2, Option.bind_some]
  have e : optI (G p.toNat call.toNat) = wI G p call := rfl
  rw [e]
  unfold oneE
  cases hw : wI G p call with
  | none => simp
  | some v =>
    by_cases hv : v ≤ reach
    · simp [hv, sent_I hp hl, appO_lt hf]
    · simp [hv]
theorem setO_len {xs : List Int} : (setO' xs).length ≤ xs.length := by
  unfold setO'
  rw [sortI_len]
  induction xs with
  | nil => exact Nat.le_refl _
  | cons x xs ih => unfold dedupI; split <;> simp <;> omega
theorem filterMap_len {α β : Type} {f : α → Option β} {xs : List α} : (xs.filterMap f).length ≤ xs.length := List.length_filterMap_le ..
theorem by_one_I (hl : s.length < 64) (hs : ∀ x ∈ s, 0 ≤ x ∧ x < n) (hc : 0 ≤ call ∧ call < n) : L_answers_by_one (matI n G) s call reach = some (oneA G s call reach) := by
  unfold L_answers_by_one oneA
  by_cases h : call ∈ s
  · rw [if_pos (memB_iff.mpr h), if_pos h]
  · rw [if_neg (by rw [memB_iff]; exact h), if_neg h, letO_eq, show chk (decide (s.length < 64)) = some () by simp [chk, hl], Option.bind_some]
    obtain ⟨s', e, rfl⟩ := loopO_pre (f := fun st x => L_answers_by_one_b1 (matI n G) s call reach st x) (xs := setO' s) (s := []) (fun ys st => st = ys.filterMap (oneE G s call reach)) rfl (by
      rintro ys x st hp rfl
      have hx : x ∈ s := mem_setO'.mp (mem_pre hp)
      have h1 := pre_len hp
      have h2 := setO_len (xs := s)
      have h3 := filterMap_len (f := oneE G s call reach) (xs := ys)
      refine ⟨_, one_b1_I hx (by omega) hs hc (by omega), ?_⟩
      rw [List.filterMap_append]
      cases h : oneE G s call reach x <;> simp [h])
    rw [e]
    rfl
theorem all_b1_I {o : List Int} {found : List Ans} (he : s.length = o.length) (h1 : 1 ≤ o.length) (h3 : o.length ≤ 3) (hs : ∀ x ∈ s, 0 ≤ x ∧ x < n) (ho : ∀ x ∈ o, 0 ≤ x ∧ x < n) (hf : found.length < 1000000) :
    L_answers_by_all_b1 (matI n G) s call reach found o = some (found ++ (allE G s call reach o).toList) := by
  unfold L_answers_by_all_b1 allE
  by_cases h : call ∈ o
  · rw [if_pos (memB_iff.mpr h), if_pos h, paired_I he h1 h3 hs ho, Option.bind_some]
    cases moveI G reach s o with
    | none => simp
    | some v => simp [appO_lt hf]
  · rw [if_neg (by rw [memB_iff]; exact h), if_neg h]
    simp
theorem by_all_I (hn : n ≤ 9) (h1 : 1 ≤ s.length) (h3 : s.length ≤ 3) (hs : ∀ x ∈ s, 0 ≤ x ∧ x < n) : L_answers_by_all (matI n G) s call reach = some (allA G n s call reach) := by
  unfold L_answers_by_all allA
  have hm : (matI n G).length = n := by simp [matI]
  rw [letO_eq, hm, all_stands_I hn (by omega), Option.bind_some]
  obtain ⟨s', e, rfl⟩ := loopO_pre (f := fun st x => L_answers_by_all_b1 (matI n G) s call reach st x) (xs := stN n s.length) (s := []) (fun ys st => st = ys.filterMap (allE G s call reach)) rfl (by
    rintro ys x st hp rfl
    have hx := mem_stN.mp (mem_pre hp)
    have h5 := pre_len hp
    have h6 := stN_small (n := n) (h := s.length) hn (by omega)
    have h7 := filterMap_len (f := allE G s call reach) (xs := ys)
    refine ⟨_, all_b1_I hx.1.symm (by omega) (by omega) hs hx.2.bnd (by omega), ?_⟩
    rw [List.filterMap_append]
    cases h : allE G s call reach x <;> simp [h])
  rw [e]
  rfl
end
end Va

/-! Ns4: the law's answers are the program's. -/
namespace Va
open PySem L2 PyProof.Rows PySem.W PySem.Calls
def ruleS (one : Bool) : Str := if one = true then "one" else "all"
theorem rule_one : decide (ruleS true = ("one" : Str)) = true := by decide
theorem rule_all : decide (ruleS false = ("one" : Str)) = false := by decide
theorem rule_one' : decide (ruleS true = ("all" : Str)) = false := by decide
theorem rule_all' : decide (ruleS false = ("all" : Str)) = true := by decide
section
variable {n : Nat} {G : Nat → Nat → Option Nat} {s : List Int} {call reach : Int}
def oneF (G : Nat → Nat → Option Nat) (s : List Int) (call reach : Int) (other : List Int) (found : List Ans) (p : Int) : List Ans := match oneE G s call reach p with
  | some e => if e.1 = other ∧ e ∉ found then found ++ [e] else found
  | none => found
theorem oneF_len {other : List Int} {found : List Ans} {p : Int} : (oneF G s call reach other found p).length ≤ found.length + 1 := by
  unfold oneF
  split
  · split
    · simp
    · omega
  · omega
theorem law_b1_I {k : Nat} {p : Int} {other : List Int} {found : List Ans} (hk : s[k]? = some p) (hl : s.length ≤ 1000) (hs : ∀ x ∈ s, 0 ≤ x ∧ x < n) (hc : 0 ≤ call ∧ call < n) (hf : found.length < 1000000) :
    L_law_answers_b1 (matI n G) s call reach other found (k : Int) = some (oneF G s call reach other found p) := by
  have hp : p ∈ s := List.mem_of_getElem? hk
  have h := hs p hp
  have hkl := (List.getElem?_eq_some_iff.mp hk).1
  unfold L_law_answers_b1
  rw [atI_ofNat, hk, Option.bind_some, matI_atI h.1 h.2, Option.bind_some, rowI_atI hc.1 hc.2, Option.bind_some, cutI_to, show ((k : Int) + 1) = ((k + 1 : Nat) : Int) by omega, cutI_from, catO_le (by simp; omega), Option.bind_some,
    catO_le (by simp; omega), Option.bind_some, letO_eq, take_erase hk]
  have e : optI (G p.toNat call.toNat) = wI G p call := rfl
  rw [e]
  unfold oneF oneE
  cases hw : wI G p call with
  | none => simp
  | some v =>
    by_cases ho : putI s p call = other
    · by_cases hv : v ≤ reach
      · by_cases hm : (other, v) ∈ found
        · have : memB (other, v) found = true := memB_iff.mpr hm
          simp [ho, hv, hm, this]
        · have : memB (other, v) found = false := memB_false.mpr hm
          simp [ho, hv, hm, this, appO_lt hf]
      · simp [ho, hv]
    · by_cases hv : v ≤ reach <;> simp [ho, hv]
theorem law_loop_I {other : List Int} {found : List Ans} (hl : s.length ≤ 1000) (hs : ∀ x ∈ s, 0 ≤ x ∧ x < n) (hc : 0 ≤ call ∧ call < n) (hf : found.length < 900000) :
    loopO (fun st x => L_law_answers_b1 (matI n G) s call reach other st x) (rangeI 0 s.length) found = some (s.foldl (oneF G s call reach other) found) := by
  obtain ⟨st, e, h1, h2⟩ := loop_nat0 (f := fun st x => L_law_answers_b1 (matI n G) s call reach other st x) (n := s.length) (s := found) (fun k st => st = (s.take k).foldl (oneF G s call reach other) found ∧ st.length ≤ found.length + k) ⟨by simp, by omega⟩ (by
    rintro k st hk ⟨rfl, hlen⟩
    obtain ⟨p, hp⟩ : ∃ p, s[k]? = some p := ⟨s[k], List.getElem?_eq_getElem hk⟩
    refine ⟨_, law_b1_I hp hl hs hc (by omega), ?_, ?_⟩
    · rw [List.take_succ, hp, List.foldl_append]; rfl
    · have := oneF_len (G := G) (s := s) (call := call) (reach := reach) (other := other) (found := (s.take k).foldl (oneF G s call reach other) found) (p := p)
      omega)
  rw [e, h1, List.take_length]
theorem inner_inv {x : List Int} {st : List Ans} {ys : List (List Int)} (hst : st.Pairwise fun a b => ltA a b = true) (hy : ∀ e ∈ st, e.1 ∈ ys) (hlt : ∀ y ∈ ys, ltL ltI y x = true) :
    ∀ (zs : List Int), (∀ z ∈ zs, z ∈ s) → ((zs.foldl (oneF G s call reach x) st).Pairwise fun a b => ltA a b = true) ∧ (∀ e, e ∈ zs.foldl (oneF G s call reach x) st ↔ e ∈ st ∨ (e.1 = x ∧ ∃ p ∈ zs, oneE G s call reach p = some e)) := by
  intro zs
  suffices H : ∀ zs : List Int, (∀ z ∈ zs, z ∈ s) → ∀ ws : List Int, ws.reverse = zs → ((zs.foldl (oneF G s call reach x) st).Pairwise fun a b => ltA a b = true) ∧ (∀ e, e ∈ zs.foldl (oneF G s call reach x) st ↔ e ∈ st ∨ (e.1 = x ∧ ∃ p ∈ zs, oneE G s call reach p = some e)) from
    fun hz => H zs hz zs.reverse (List.reverse_reverse _)
  intro zs hz ws
  induction ws generalizing zs with
  | nil => intro h; cases h; exact ⟨hst, fun e => by simp⟩
  | cons p ws ih =>
    intro h
    rw [List.reverse_cons] at h
    subst h
    obtain ⟨i1, i2⟩ := ih ws.reverse (fun z hz' => hz z (by simp [List.mem_reverse.mp hz'])) rfl
    have hp : p ∈ s := hz p (by simp)
    rw [List.foldl_append]
    show ((oneF G s call reach x (ws.reverse.foldl (oneF G s call reach x) st) p).Pairwise _) ∧ (∀ e, e ∈ oneF G s call reach x (ws.reverse.foldl (oneF G s call reach x) st) p ↔ _)
    generalize ws.reverse.foldl (oneF G s call reach x) st = st' at i1 i2
    unfold oneF
    cases hE : oneE G s call reach p with
    | none =>
      refine ⟨i1, fun e => ?_⟩
      show e ∈ st' ↔ _
      rw [i2]
      constructor
      · rintro (h | ⟨h, q, hq, hq'⟩)
        · exact .inl h
        · exact .inr ⟨h, q, by simp [hq], hq'⟩
      · rintro (h | ⟨h, q, hq, hq'⟩)
        · exact .inl h
        · rcases List.mem_append.mp hq with hq | hq
          · exact .inr ⟨h, q, hq, hq'⟩
          · rw [List.mem_singleton.mp hq, hE] at hq'; cases hq'
    | some e0 =>
      by_cases hc : e0.1 = x ∧ e0 ∉ st'
      · simp only [hc, not_false_eq_true, and_self, if_true]
        refine ⟨List.pairwise_append.mpr ⟨i1, List.pairwise_singleton _ _, fun e he f hf => ?_⟩, fun e => ?_⟩
        · rw [List.mem_singleton.mp hf]
          rcases (i2 e).mp he with h | ⟨h, q, hq, hq'⟩
          · have hl := hlt _ (hy e h)
            unfold ltA lt2
            rw [if_neg, hc.1]
            · exact hl
            · intro z
              rw [z, hc.1, ordLI.irr] at hl
              cases hl
          · have : q = p := oneE_inj (hz q (by simp [List.mem_reverse.mp hq])) hp hq' hE (h.trans hc.1.symm)
            rw [this, hE] at hq'
            cases hq'
            exact absurd he hc.2
        · rw [List.mem_append, i2, List.mem_singleton]
          constructor
          · rintro ((h | ⟨h, q, hq, hq'⟩) | rfl)
            · exact .inl h
            · exact .inr ⟨h, q, by simp [List.mem_reverse.mp hq], hq'⟩
            · exact .inr ⟨hc.1, p, by simp, hE⟩
          · rintro (h | ⟨h, q, hq, hq'⟩)
            · exact .inl (.inl h)
            · rcases List.mem_append.mp hq with hq | hq
              · exact .inl (.inr ⟨h, q, hq, hq'⟩)
              · rw [List.mem_singleton.mp hq, hE] at hq'
                cases hq'
                exact .inr rfl
      · simp only [hc, if_false]
        refine ⟨i1, fun e => ?_⟩
        rw [i2]
        constructor
        · rintro (h | ⟨h, q, hq, hq'⟩)
          · exact .inl h
          · exact .inr ⟨h, q, by simp [List.mem_reverse.mp hq], hq'⟩
        · rintro (h | ⟨h, q, hq, hq'⟩)
          · exact .inl h
          · rcases List.mem_append.mp hq with hq | hq
            · exact .inr ⟨h, q, hq, hq'⟩
            · rw [List.mem_singleton.mp hq, hE] at hq'
              cases hq'
              have : e0 ∈ st' := Classical.byContradiction fun z => hc ⟨h, z⟩
              exact (i2 e0).mp this
theorem oneA_rise (h : call ∉ s) : (oneA G s call reach).Pairwise fun a b => ltA a b = true := by
  unfold oneA
  rw [if_neg h]
  refine sortI_lt ordA ?_
  refine List.pairwise_filterMap.mpr ((setO'_lt s).imp_of_mem fun {a b} ha hb hab e he f hf => ?_)
  intro z
  have := oneE_inj (mem_setO'.mp ha) (mem_setO'.mp hb) he hf (by rw [z])
  omega
theorem mem_oneA (h : call ∉ s) {e : Ans} : e ∈ oneA G s call reach ↔ ∃ p ∈ s, oneE G s call reach p = some e := by
  unfold oneA
  rw [if_neg h, mem_sortI, List.mem_filterMap]
  constructor
  · rintro ⟨p, hp, he⟩; exact ⟨p, mem_setO'.mp hp, he⟩
  · rintro ⟨p, hp, he⟩; exact ⟨p, mem_setO'.mpr hp, he⟩
theorem small3 {h : Nat} (hn : n ≤ 9) (hh : h ≤ 3) : (stN n h).length ≤ 729 :=
  Nat.le_trans stN_len (Nat.le_trans (Nat.pow_le_pow_left hn h) (Nat.le_trans (Nat.pow_le_pow_right (by decide) hh) (by decide)))
theorem law_answers_I {one : Bool} (hn : n ≤ 9) (h1 : 1 ≤ s.length) (h3 : s.length ≤ 3) (hr : Rise n s) (hc : 0 ≤ call ∧ call < n) :
    L_law_answers (matI n G) s call (ruleS one) reach = some (ansI one G n s call reach) := by
  have hs := hr.bnd
  unfold L_law_answers ansI
  have hst := law_stands_I (n := n) (h := s.length) hn (by omega) h1
  have hsm := small3 (n := n) (h := s.length) hn h3
  cases one with
  | true =>
    rw [rule_one, Bool.true_and, if_pos rfl]
    by_cases h : call ∈ s
    · rw [if_pos (memB_iff.mpr h)]
      simp [oneA, h]
    · rw [if_neg (by rw [memB_iff]; exact h), letO_eq, matI_len, hst, Option.bind_some]
      obtain ⟨st, e, q1, q2, q3⟩ := loopO_pre (f := fun st x => L_law_answers_b2 (matI n G) s call (ruleS true) reach st x) (xs := stN n s.length) (s := []) (fun ys st => (st.Pairwise fun a b => ltA a b = true) ∧ (∀ e, e ∈ st ↔ e.1 ∈ ys ∧ ∃ p ∈ s, oneE G s call reach p = some e) ∧ st.length ≤ ys.length * s.length)
        ⟨List.Pairwise.nil, fun e => by simp, by simp⟩ (by
        rintro ys x st hp ⟨i1, i2, i3⟩
        have hy := pre_len hp
        have hb : ys.length * s.length ≤ 729 * 3 := Nat.mul_le_mul (by omega) h3
        unfold L_law_answers_b2
        by_cases hx : call ∈ x
        · rw [if_pos (memB_iff.mpr hx), rule_one', if_neg (by simp), range1_nat (by omega), Option.bind_some, law_loop_I (by omega) hs hc (by omega), Option.bind_some]
          have hlt : ∀ y ∈ ys, ltL ltI y x = true := by
            obtain ⟨t, ht⟩ := hp
            have hh := stN_lt (n := n) (h := s.length)
            rw [← ht] at hh
            exact fun y hy => (List.pairwise_append.mp (List.pairwise_append.mp hh).1).2.2 y hy x (by simp)
          obtain ⟨j1, j2⟩ := inner_inv (G := G) (s := s) (call := call) (reach := reach) (x := x) (ys := ys) i1 (fun e he => ((i2 e).mp he).1) hlt s fun z hz => hz
          refine ⟨_, rfl, j1, fun e => ?_, ?_⟩
          · rw [j2, i2, List.mem_append, List.mem_singleton]
            constructor
            · rintro (⟨a, b⟩ | ⟨a, b⟩)
              · exact ⟨.inl a, b⟩
              · exact ⟨.inr a, b⟩
            · rintro ⟨a | a, b⟩
              · exact .inl ⟨a, b⟩
              · exact .inr ⟨a, b⟩
          · have : ∀ (zs : List Int) (st : List Ans), (zs.foldl (oneF G s call reach x) st).length ≤ st.length + zs.length := by
              intro zs
              induction zs with
              | nil => intro st; simp
              | cons z zs ih =>
                intro st
                have := ih (oneF G s call reach x st z)
                have := oneF_len (G := G) (s := s) (call := call) (reach := reach) (other := x) (found := st) (p := z)
                rw [List.foldl_cons, List.length_cons]
                omega
            have := this s st
            rw [List.length_append, List.length_singleton, Nat.succ_mul]
            omega
        · rw [if_neg (by rw [memB_iff]; exact hx)]
          refine ⟨_, rfl, i1, fun e => ?_, ?_⟩
          · rw [i2, List.mem_append, List.mem_singleton]
            constructor
            · rintro ⟨a, b⟩; exact ⟨.inl a, b⟩
            · rintro ⟨a | a, b⟩
              · exact ⟨a, b⟩
              · obtain ⟨p, hp, he⟩ := b
                obtain ⟨v, _, _, rfl⟩ := oneE_some.mp he
                exact absurd (a ▸ call_putI) hx
          · rw [List.length_append, List.length_singleton, Nat.succ_mul]
            omega)
      have fin : st = oneA G s call reach := by
       refine rising_eq ordA q1 (oneA_rise h) fun e => ?_
       rw [q2, mem_oneA h]
       constructor
       · rintro ⟨_, b⟩; exact b
       · rintro ⟨p, hp, he⟩
         refine ⟨?_, p, hp, he⟩
         obtain ⟨v, _, _, rfl⟩ := oneE_some.mp he
         exact mem_stN.mpr (putI_rise hr hp hc)
      rw [e, Option.bind_some, fin]
  | false =>
    rw [rule_all, Bool.false_and, if_neg (by simp), if_neg (by simp), letO_eq, matI_len, hst, Option.bind_some]
    obtain ⟨s', e, rfl⟩ := loopO_pre (f := fun st x => L_law_answers_b2 (matI n G) s call (ruleS false) reach st x) (xs := stN n s.length) (s := []) (fun ys st => st = ys.filterMap (allE G s call reach)) rfl (by
      rintro ys x st hp rfl
      have hx := mem_stN.mp (mem_pre hp)
      have h5 := pre_len hp
      have h7 := filterMap_len (f := allE G s call reach) (xs := ys)
      refine ⟨ys.filterMap (allE G s call reach) ++ (allE G s call reach x).toList, ?_, ?_⟩
      · generalize ys.filterMap (allE G s call reach) = found at h7 ⊢
        unfold L_law_answers_b2 allE
        by_cases h : call ∈ x
        · rw [if_pos (memB_iff.mpr h), if_pos h, rule_all', if_pos rfl, law_move_I hx.1.symm (by omega) (by omega) hs hx.2.bnd, Option.bind_some]
          cases moveI G reach s x with
          | none => simp
          | some v => simp [appO_lt (show found.length < 1000000 by omega)]
        · rw [if_neg (by rw [memB_iff]; exact h), if_neg h]
          simp
      · rw [List.filterMap_append]
        cases h : allE G s call reach x <;> simp [h])
    rw [e]
    rfl
theorem answers_I {one : Bool} {rs : Rds} (hw : L_ways (townI n rs) = some (matI n G)) (hn : n ≤ 9) (h1 : 1 ≤ s.length) (h3 : s.length ≤ 3) (hr : Rise n s) (hc : 0 ≤ call ∧ call < n) :
    L_answers (townI n rs) s call (ruleS one) reach = some (ansI one G n s call reach) := by
  unfold L_answers ansI
  cases one with
  | true => rw [rule_one, if_pos rfl, if_pos rfl, hw, Option.bind_some, by_one_I (by omega) hr.bnd hc]; rfl
  | false => rw [rule_all, if_neg (by simp), if_neg (by simp), hw, Option.bind_some, by_all_I hn h1 h3 hr.bnd]; rfl
end
end Va

/-! Ns5: facts about moves. -/
namespace Va
open PySem L2 PyProof.Rows PySem.W PySem.Calls
/-- a told length of at most v -/
def upTo (o : Option Int) (v : Int) : Prop := ∃ m, o = some m ∧ m ≤ v
section
variable {reach : Int}
theorem better_le {least : Option Int} {xs : List (Option Int)} (h : xs.all (nearO reach) = true) : upTo (betterI reach least xs) (sumO xs) := by
  unfold betterI
  rw [if_pos h]
  cases least with
  | none => exact ⟨_, rfl, Int.le_refl _⟩
  | some m =>
    by_cases hm : sumO xs < m
    · simp only [hm, if_true]; exact ⟨_, rfl, Int.le_refl _⟩
    · simp only [hm, if_false]; exact ⟨_, rfl, by omega⟩
theorem better_keep {least : Option Int} {xs : List (Option Int)} {v : Int} (h : upTo least v) : upTo (betterI reach least xs) v := by
  obtain ⟨m, rfl, hm⟩ := h
  unfold betterI
  split
  · by_cases hs : sumO xs < m
    · simp only [hs, if_true]; exact ⟨_, rfl, by omega⟩
    · simp only [hs, if_false]; exact ⟨_, rfl, hm⟩
  · exact ⟨m, rfl, hm⟩
theorem fold_keep {f : List Int → List (Option Int)} {v : Int} : ∀ {os : List (List Int)} {least : Option Int}, upTo least v → upTo (os.foldl (fun least o => betterI reach least (f o)) least) v
  | [], _, h => h
  | o :: os, _, h => fold_keep (os := os) (better_keep h)
theorem fold_le {f : List Int → List (Option Int)} : ∀ {os : List (List Int)} {least : Option Int} {o : List Int}, o ∈ os → (f o).all (nearO reach) = true → upTo (os.foldl (fun least o => betterI reach least (f o)) least) (sumO (f o))
  | o' :: os, least, o, h, k => by
    rcases List.mem_cons.mp h with rfl | h
    · exact fold_keep (os := os) (better_le k)
    · exact fold_le (os := os) h k
theorem better_some {least : Option Int} {xs : List (Option Int)} {v : Int} (h : betterI reach least xs = some v) : least = some v ∨ (xs.all (nearO reach) = true ∧ sumO xs = v) := by
  unfold betterI at h
  split at h
  · rename_i ha
    cases least with
    | none => cases h; exact .inr ⟨ha, rfl⟩
    | some m =>
      by_cases hs : sumO xs < m
      · simp only [hs, if_true] at h; cases h; exact .inr ⟨ha, rfl⟩
      · simp only [hs, if_false] at h; exact .inl h
  · exact .inl h
theorem fold_some {f : List Int → List (Option Int)} {v : Int} : ∀ {os : List (List Int)} {least : Option Int}, os.foldl (fun least o => betterI reach least (f o)) least = some v → least = some v ∨ ∃ o ∈ os, (f o).all (nearO reach) = true ∧ sumO (f o) = v
  | [], _, h => .inl h
  | o :: os, least, h => by
    rcases fold_some (os := os) h with h | ⟨o', h1, h2⟩
    · rcases better_some h with h | h
      · exact .inl h
      · exact .inr ⟨o, List.mem_cons_self .., h⟩
    · exact .inr ⟨o', List.mem_cons_of_mem _ h1, h2⟩
end
section
variable {G : Nat → Nat → Option Nat} {reach : Int} {first second : List Int}
theorem moveI_le {o : List Int} (ho : o ∈ permI second) (h : (stepsI G first o).all (nearO reach) = true) : upTo (moveI G reach first second) (sumO (stepsI G first o)) := fold_le ho h
theorem moveI_some {v : Int} (h : moveI G reach first second = some v) : ∃ o ∈ permI second, (stepsI G first o).all (nearO reach) = true ∧ sumO (stepsI G first o) = v := by
  rcases fold_some h with h | h
  · cases h
  · exact h
theorem perm_mem {xs o : List Int} (h1 : 1 ≤ xs.length) (h3 : xs.length ≤ 3) (h : o.Perm xs) : o ∈ permI xs := by
  have two : ∀ {x y b c : Int}, [x, y].Perm [b, c] → (x = b ∧ y = c) ∨ (x = c ∧ y = b) := by
    intro x y b c h
    have hx : x ∈ [b, c] := h.mem_iff.mp (by simp)
    simp only [List.mem_cons, List.not_mem_nil, or_false] at hx
    rcases hx with rfl | rfl
    · have := List.perm_singleton.mp h.cons_inv
      cases this
      exact .inl ⟨rfl, rfl⟩
    · have := List.perm_singleton.mp ((h.trans (.swap x b [])).cons_inv)
      cases this
      exact .inr ⟨rfl, rfl⟩
  match xs, h1, h3 with
  | [a], _, _ =>
    rw [List.perm_singleton.mp h]
    show _ ∈ [[a]]
    simp
  | [a, b], _, _ =>
    have hl := h.length_eq
    match o, hl with
    | [x, y], _ =>
      show _ ∈ [[a, b], [b, a]]
      rcases two h with ⟨rfl, rfl⟩ | ⟨rfl, rfl⟩ <;> simp
  | [a, b, c], _, _ =>
    have hl := h.length_eq
    match o, hl with
    | [x, y, z], _ =>
      show _ ∈ [[a, b, c], [a, c, b], [b, a, c], [b, c, a], [c, a, b], [c, b, a]]
      have hx : x ∈ [a, b, c] := h.mem_iff.mp (by simp)
      simp only [List.mem_cons, List.not_mem_nil, or_false] at hx
      rcases hx with rfl | rfl | rfl
      · rcases two h.cons_inv with ⟨rfl, rfl⟩ | ⟨rfl, rfl⟩ <;> simp
      · have h' := (h.trans (.swap x a [c])).cons_inv
        rcases two h' with ⟨rfl, rfl⟩ | ⟨rfl, rfl⟩ <;> simp
      · have h' := (h.trans (List.perm_append_comm (l₁ := [a, b]) (l₂ := [x]))).cons_inv
        rcases two h' with ⟨rfl, rfl⟩ | ⟨rfl, rfl⟩ <;> simp
/-- where those who stay need nothing -/
theorem steps_self {n : Nat} (h0 : ∀ i, i < n → G i i = some 0) : ∀ {s : List Int}, (∀ x ∈ s, 0 ≤ x ∧ x < n) → 0 ≤ reach → (stepsI G s s).all (nearO reach) = true ∧ sumO (stepsI G s s) = 0
  | [], _, _ => ⟨rfl, rfl⟩
  | x :: s, h, hr => by
    have hx := h x (List.mem_cons_self ..)
    obtain ⟨i1, i2⟩ := steps_self h0 (s := s) (fun y hy => h y (List.mem_cons_of_mem _ hy)) hr
    have e : wI G x x = some 0 := by unfold wI; rw [h0 _ (by omega)]; rfl
    have es : stepsI G (x :: s) (x :: s) = some 0 :: stepsI G s s := by
      show wI G x x :: _ = _
      rw [e]; rfl
    rw [es, List.all_cons]
    refine ⟨by rw [i1]; simp [nearO, hr], ?_⟩
    unfold sumO at *
    rw [List.filterMap_cons]
    simp [i2]
/-- one of them goes from p -/
theorem steps_go {n : Nat} (h0 : ∀ i, i < n → G i i = some 0) {p call v : Int} (hw : wI G p call = some v) (hv : v ≤ reach) (hr : 0 ≤ reach) : ∀ {s : List Int}, (∀ x ∈ s, 0 ≤ x ∧ x < n) → p ∈ s →
    ∃ o : List Int, o.Perm (call :: s.erase p) ∧ (stepsI G s o).all (nearO reach) = true ∧ sumO (stepsI G s o) = v
  | x :: s, h, hp => by
    by_cases e : x = p
    · subst e
      obtain ⟨i1, i2⟩ := steps_self h0 (s := s) (fun y hy => h y (List.mem_cons_of_mem _ hy)) hr
      refine ⟨call :: s, by simp, ?_, ?_⟩
      · show (wI G x call :: stepsI G s s).all _ = true
        rw [hw, List.all_cons, i1]
        simp [nearO, hv]
      · show sumO (wI G x call :: stepsI G s s) = v
        unfold sumO at *
        rw [hw, List.filterMap_cons]
        simp [i2]
    · have hp' : p ∈ s := by
        rcases List.mem_cons.mp hp with z | z
        · exact absurd z.symm e
        · exact z
      obtain ⟨o, i0, i1, i2⟩ := steps_go h0 hw hv hr (s := s) (fun y hy => h y (List.mem_cons_of_mem _ hy)) hp'
      have hx := h x (List.mem_cons_self ..)
      have e' : wI G x x = some 0 := by unfold wI; rw [h0 _ (by omega)]; rfl
      refine ⟨x :: o, ?_, ?_, ?_⟩
      · rw [List.erase_cons_tail (by simpa using e)]
        exact (List.Perm.cons x i0).trans (.swap _ _ _)
      · show (wI G x x :: stepsI G s o).all _ = true
        rw [e', List.all_cons, i1]
        simp [nearO, hr]
      · show sumO (wI G x x :: stepsI G s o) = v
        unfold sumO at *
        rw [e', List.filterMap_cons]
        simp [i2]
theorem move_self {n : Nat} (h0 : ∀ i, i < n → G i i = some 0) {s : List Int} (hs : ∀ x ∈ s, 0 ≤ x ∧ x < n) (h1 : 1 ≤ s.length) (h3 : s.length ≤ 3) (hr : 0 ≤ reach) : upTo (moveI G reach s s) 0 := by
  obtain ⟨a, b⟩ := steps_self h0 hs hr
  have := moveI_le (first := s) (perm_mem h1 h3 (.refl s)) a
  rwa [b] at this
theorem move_one {n : Nat} (h0 : ∀ i, i < n → G i i = some 0) {s : List Int} {p call v : Int} (hw : wI G p call = some v) (hv : v ≤ reach) (hr : 0 ≤ reach) (hs : ∀ x ∈ s, 0 ≤ x ∧ x < n) (hp : p ∈ s) (h3 : s.length ≤ 3) : upTo (moveI G reach s (putI s p call)) v := by
  obtain ⟨o, i0, i1, i2⟩ := steps_go h0 hw hv hr hs hp
  have hl : (putI s p call).length = s.length := by
    rw [putI, sortI_len, List.length_cons, List.length_erase_of_mem hp]
    have := List.length_pos_of_mem hp
    omega
  have := List.length_pos_of_mem hp
  have := moveI_le (first := s) (perm_mem (xs := putI s p call) (by omega) (by omega) (i0.trans (putI_perm s p call).symm)) i1
  rwa [i2] at this
/-- an answer by one is one by all, no longer -/
theorem one_all {n : Nat} (h0 : ∀ i, i < n → G i i = some 0) {s : List Int} {call : Int} (hr : 0 ≤ reach) (hs : Rise n s) (hc : 0 ≤ call ∧ call < n) (h1 : 1 ≤ s.length) (h3 : s.length ≤ 3) {e : Ans} (he : e ∈ oneA G s call reach) :
    ∃ m, (e.1, m) ∈ allA G n s call reach ∧ m ≤ e.2 := by
  have key : ∀ {o : List Int} {v : Int}, call ∈ o → o.length = s.length → Rise n o → upTo (moveI G reach s o) v → ∃ m, (o, m) ∈ allA G n s call reach ∧ m ≤ v := by
    rintro o v h1 h2 h3 ⟨m, h4, h5⟩
    refine ⟨m, List.mem_filterMap.mpr ⟨o, mem_stN.mpr ⟨h2, h3⟩, ?_⟩, h5⟩
    unfold allE
    rw [if_pos h1, h4]
    rfl
  by_cases h : call ∈ s
  · unfold oneA at he
    rw [if_pos h] at he
    rw [List.mem_singleton.mp he]
    exact key h rfl hs (move_self h0 hs.bnd h1 h3 hr)
  · obtain ⟨p, hp, hE⟩ := (mem_oneA h).mp he
    obtain ⟨v, hw, hv, rfl⟩ := oneE_some.mp hE
    have := putI_rise hs hp hc
    exact key call_putI this.1 this.2 (move_one h0 hw hv hr hs.bnd hp h3)
end
end Va

/-! Ns6: rows of calls that are answered. -/
namespace Va
open PySem L2 PyProof.Rows PySem.W PySem.Calls
def L_is_answered_b1 (town : (Int × (List (Int × Int × Int)))) (stands : (List (List Int))) (rule : Str) (reach : Int) (at_ : Int) (call : Int) : Option (Ctl Unit Bool) := (atI stands (at_ + (1 : Int))).bind fun x => (atI stands at_).bind fun x2 => (L_answers town x2 call rule reach).bind fun r => (chk (decide (r.length ≤ 1000000))).bind fun u => if (!memB x (r.map fun x3 => x3.1)) = true then some (.rt false) else some (.nx ())
def L_is_answered (town : (Int × (List (Int × Int × Int)))) (stands : (List (List Int))) (calls : (List Int)) (rule : Str) (reach : Int) : Option Bool := if (!decide ((stands.length : Int) = ((calls.length : Int) + (1 : Int)))) = true then some false else resK (loopC (fun s x => L_is_answered_b1 town stands rule reach x.1 x.2) (enumI calls 0) ()) (fun s2 => some true) (some)
abbrev R_is_answered : List PyData → PyData × Nat → Prop := RelT (fun (a : ((Int × (List (Int × Int × Int))) × (List (List Int)) × (List Int) × Str × Int)) => [(E2 PyData.int (EL (E3 PyData.int PyData.int PyData.int))) a.1, (EL (ET PyData.int)) a.2.1, (EL PyData.int) a.2.2.1, PyData.str a.2.2.2.1, PyData.int a.2.2.2.2]) (fun a => L_is_answered a.1 a.2.1 a.2.2.1 a.2.2.2.1 a.2.2.2.2) PyData.bool 2
def L_law_is_answered_b1 (law_rows : (List (List (Option Int)))) (law_stands_here : (List (List Int))) (law_calls : (List Int)) (law_rule : Str) (law_reach : Int) (law_k : Int) : Option (Ctl Unit Bool) := (atI law_stands_here (law_k + (1 : Int))).bind fun x => (atI law_stands_here law_k).bind fun x2 => (atI law_calls law_k).bind fun x3 => (L_law_answers law_rows x2 x3 law_rule law_reach).bind fun r => (chk (decide (r.length ≤ 1000000))).bind fun u => if (!memB x (r.map fun x4 => x4.1)) = true then some (.rt false) else some (.nx ())
def L_law_is_answered (law_rows : (List (List (Option Int)))) (law_stands_here : (List (List Int))) (law_calls : (List Int)) (law_rule : Str) (law_reach : Int) : Option Bool := if (!decide ((law_stands_here.length : Int) = ((law_calls.length : Int) + (1 : Int)))) = true then some false else (range1 (law_calls.length : Int)).bind fun l => resK (loopC (fun s x => L_law_is_answered_b1 law_rows law_stands_here law_calls law_rule law_reach x) l ()) (fun s2 => some true) (some)
abbrev R_law_is_answered : List PyData → PyData × Nat → Prop := RelT (fun (a : ((List (List (Option Int))) × (List (List Int)) × (List Int) × Str × Int)) => [(EL (EL (EO PyData.int))) a.1, (EL (ET PyData.int)) a.2.1, (EL PyData.int) a.2.2.1, PyData.str a.2.2.2.1, PyData.int a.2.2.2.2]) (fun a => L_law_is_answered a.1 a.2.1 a.2.2.1 a.2.2.2.1 a.2.2.2.2) PyData.bool 2
theorem loopC_two {σ α R : Type} {f : σ → α → Option (Ctl σ R)} {a b : α} {s0 s1 s2 : σ} (h1 : f s0 a = some (.nx s1)) (h2 : f s1 b = some (.nx s2)) : loopC f [a, b] s0 = some (.on s2) := by
  rw [loopC, h1]
  show loopC f [b] s1 = _
  rw [loopC, h2]
  rfl
/-- a loop that answers false at the first item without p -/
theorem loopC_all {α : Type} {f : Unit → α → Option (Ctl Unit Bool)} {p : α → Bool} : ∀ {xs : List α}, (∀ x ∈ xs, f () x = some (if p x = true then .nx () else .rt false)) → resK (loopC f xs ()) (fun _ => some true) some = some (xs.all p)
  | [], _ => rfl
  | x :: xs, h => by
    rw [loopC, h x (List.mem_cons_self ..), List.all_cons]
    cases e : p x with
    | true =>
      rw [if_pos rfl, Bool.true_and, ← loopC_all fun y hy => h y (List.mem_cons_of_mem _ hy)]
      rfl
    | false => rfl
theorem enumI_fst {α : Type} : ∀ {xs : List α} {k : Nat}, (enumI xs (k : Int)).map (·.1) = rangeI (k : Int) xs.length
  | [], _ => rfl
  | x :: xs, k => by
    rw [enumI, List.map_cons, show ((k : Int) + 1) = ((k + 1 : Nat) : Int) by omega, enumI_fst (xs := xs) (k := k + 1)]
    unfold rangeI
    rw [List.length_cons, List.range_succ_eq_map, List.map_cons, List.map_map]
    congr 1
    · refine List.map_congr_left fun i _ => ?_
      show ((k + 1 : Nat) : Int) + (i : Int) = (k : Int) + ((i + 1 : Nat) : Int)
      omega
theorem enumI_mem {α : Type} {x : α} {i : Int} : ∀ {xs : List α} {k : Nat}, (i, x) ∈ enumI xs (k : Int) → ∃ j : Nat, i = ((k + j : Nat) : Int) ∧ xs[j]? = some x
  | y :: ys, k, h => by
    rw [enumI, show ((k : Int) + 1) = ((k + 1 : Nat) : Int) by omega] at h
    rcases List.mem_cons.mp h with h | h
    · cases h; exact ⟨0, by simp, rfl⟩
    · obtain ⟨j, rfl, h2⟩ := enumI_mem h
      exact ⟨j + 1, by omega, by simpa using h2⟩
theorem cutI_mem {α : Type} {xs : List α} {lo hi : Option Int} {x : α} (h : x ∈ cutI xs lo hi) : x ∈ xs := List.mem_of_mem_drop (List.mem_of_mem_take h)
theorem cutI_len {α : Type} {xs : List α} {lo hi : Option Int} : (cutI xs lo hi).length ≤ xs.length := by
  unfold cutI
  simp
  omega
theorem Town.tame7 {n : Nat} {rs : Rds} (T : Town n rs) (hn : n ≤ 7) : Tame 3 12154 (ETown (townI n rs)) := by
  refine Tame.p2 (D := 2) (W := 6076) ((Tame.i (by simp only [townI]; omega) (by simp only [townI]; omega)).mono (by omega) (by omega)) ?_
  refine Tame.L (D := 1) (W := 123) (n := 49) (fun x hx => ?_) ?_
  · obtain ⟨r, hr, rfl⟩ := List.mem_map.mp hx
    obtain ⟨a, b, c, d⟩ := T.road r hr
    exact Tame.p3 (D := 0) (W := 40) (Tame.i (by simp only [roadI]; omega) (by simp only [roadI]; omega)) (Tame.i (by simp only [roadI]; omega) (by simp only [roadI]; omega)) (Tame.i (by simp only [roadI]; omega) (by simp only [roadI]; omega))
  · have h1 := T.len
    have h2 : n * n ≤ 7 * 7 := Nat.mul_le_mul hn hn
    simp only [townI, List.length_map]
    omega
section
variable {n h : Nat} {G : Nat → Nat → Option Nat} {s : List Int} {call reach : Int} {one : Bool} {rs : Rds}
theorem ansI_t : ansI true G n s call reach = oneA G s call reach := if_pos rfl
theorem ansI_f : ansI false G n s call reach = allA G n s call reach := if_neg (by simp)
theorem ansI_len {one : Bool} (hn : n ≤ 9) (h1 : 1 ≤ s.length) (h3 : s.length ≤ 3) : (ansI one G n s call reach).length ≤ 729 := by
  unfold ansI
  split
  · unfold oneA
    split
    · simp
    · rw [sortI_len]
      have := filterMap_len (f := oneE G s call reach) (xs := setO' s)
      have := setO_len (xs := s)
      omega
  · exact Nat.le_trans filterMap_len (small3 hn h3)
theorem ansI_stN (hs : s ∈ stN n h) (hc : 0 ≤ call ∧ call < n) {e : Ans} (he : e ∈ ansI one G n s call reach) : e.1 ∈ stN n h := by
  obtain ⟨hl, hr⟩ := mem_stN.mp hs
  unfold ansI at he
  split at he
  · by_cases hm : call ∈ s
    · unfold oneA at he
      rw [if_pos hm] at he
      rw [List.mem_singleton.mp he]
      exact hs
    · obtain ⟨p, hp, hE⟩ := (mem_oneA hm).mp he
      obtain ⟨v, _, _, rfl⟩ := oneE_some.mp hE
      have := putI_rise hr hp hc
      exact mem_stN.mpr ⟨this.1.trans hl, this.2⟩
  · obtain ⟨o, ho, hE⟩ := List.mem_filterMap.mp he
    unfold allE at hE
    split at hE
    · obtain ⟨v, _, rfl⟩ := Option.map_eq_some_iff.mp hE
      rw [hl] at ho
      exact ho
    · cases hE
/-- one of a row's calls is answered -/
def stepOk (one : Bool) (G : Nat → Nat → Option Nat) (n : Nat) (reach : Int) (stands : List (List Int)) (calls : List Int) (k : Int) : Bool :=
  memB (stands.getD (k.toNat + 1) []) ((ansI one G n (stands.getD k.toNat []) (calls.getD k.toNat 0) reach).map (·.1))
def rowOk (one : Bool) (G : Nat → Nat → Option Nat) (n : Nat) (reach : Int) (stands : List (List Int)) (calls : List Int) : Bool :=
  decide ((stands.length : Int) = (calls.length : Int) + 1) && (rangeI 0 calls.length).all (stepOk one G n reach stands calls)
theorem getD_some {α : Type} {xs : List α} {k : Nat} {x d : α} (h : xs[k]? = some x) : xs.getD k d = x := by rw [List.getD_eq_getElem?_getD, h]; rfl
theorem is_answered_I {stands : List (List Int)} {calls : List Int} (hw : L_ways (townI n rs) = some (matI n G)) (hn : n ≤ 9) (h1 : 1 ≤ h) (h3 : h ≤ 3) (hs : ∀ s ∈ stands, s ∈ stN n h) (hc : ∀ c ∈ calls, 0 ≤ c ∧ c < n) :
    L_is_answered (townI n rs) stands calls (ruleS one) reach = some (rowOk one G n reach stands calls) := by
  unfold L_is_answered rowOk
  by_cases hl : (stands.length : Int) = (calls.length : Int) + 1
  · rw [if_neg (by simp [hl]), loopC_all (p := fun x => stepOk one G n reach stands calls x.1)]
    · rw [decide_eq_true hl, Bool.true_and, show (0 : Int) = ((0 : Nat) : Int) from rfl, ← enumI_fst (xs := calls) (k := 0), List.all_map]
      rfl
    · rintro ⟨i, c⟩ hx
      obtain ⟨j, rfl, hj⟩ := enumI_mem (k := 0) hx
      rw [Nat.zero_add]
      have hjl := (List.getElem?_eq_some_iff.mp hj).1
      obtain ⟨a, ha, ha'⟩ : ∃ a, stands[j + 1]? = some a ∧ a ∈ stands := ⟨_, List.getElem?_eq_getElem (by omega), List.getElem_mem (by omega)⟩
      obtain ⟨b, hb, hb'⟩ : ∃ b, stands[j]? = some b ∧ b ∈ stands := ⟨_, List.getElem?_eq_getElem (by omega), List.getElem_mem (by omega)⟩
      obtain ⟨q1, q2⟩ := mem_stN.mp (hs b hb')
      have hcc := hc c (List.mem_of_getElem? hj)
      have hla := ansI_len (one := one) (G := G) (n := n) (s := b) (call := c) (reach := reach) hn (by omega) (by omega)
      unfold L_is_answered_b1 stepOk
      simp only
      rw [show ((j : Int) + 1) = ((j + 1 : Nat) : Int) by omega, atI_ofNat, ha, Option.bind_some, atI_ofNat, hb, Option.bind_some, answers_I hw hn (by omega) (by omega) q2 hcc, Option.bind_some, chk_le (by omega), Option.bind_some,
        Int.toNat_natCast, getD_some ha, getD_some hb, getD_some hj]
      cases memB a ((ansI one G n b c reach).map (·.1)) <;> rfl
  · rw [if_pos (by simp [hl]), decide_eq_false hl]
    rfl
theorem law_is_answered_I {stands : List (List Int)} {calls : List Int} (hn : n ≤ 9) (h1 : 1 ≤ h) (h3 : h ≤ 3) (hs : ∀ s ∈ stands, s ∈ stN n h) (hc : ∀ c ∈ calls, 0 ≤ c ∧ c < n) (hz : calls.length ≤ 1000000) :
    L_law_is_answered (matI n G) stands calls (ruleS one) reach = some (rowOk one G n reach stands calls) := by
  unfold L_law_is_answered rowOk
  by_cases hl : (stands.length : Int) = (calls.length : Int) + 1
  · rw [if_neg (by simp [hl]), range1_nat (by omega), Option.bind_some, loopC_all (p := stepOk one G n reach stands calls)]
    · rw [decide_eq_true hl, Bool.true_and]
    · intro i hx
      obtain ⟨c0, c1⟩ := mem_rangeI.mp hx
      obtain ⟨j, rfl⟩ := Int.eq_ofNat_of_zero_le c0
      obtain ⟨c, hj⟩ : ∃ c, calls[j]? = some c := ⟨_, List.getElem?_eq_getElem (by omega)⟩
      obtain ⟨a, ha, ha'⟩ : ∃ a, stands[j + 1]? = some a ∧ a ∈ stands := ⟨_, List.getElem?_eq_getElem (by omega), List.getElem_mem (by omega)⟩
      obtain ⟨b, hb, hb'⟩ : ∃ b, stands[j]? = some b ∧ b ∈ stands := ⟨_, List.getElem?_eq_getElem (by omega), List.getElem_mem (by omega)⟩
      obtain ⟨q1, q2⟩ := mem_stN.mp (hs b hb')
      have hcc := hc c (List.mem_of_getElem? hj)
      have hla := ansI_len (one := one) (G := G) (n := n) (s := b) (call := c) (reach := reach) hn (by omega) (by omega)
      unfold L_law_is_answered_b1 stepOk
      rw [show ((j : Int) + 1) = ((j + 1 : Nat) : Int) by omega, atI_ofNat, ha, Option.bind_some, atI_ofNat, hb, Option.bind_some, atI_ofNat, hj, Option.bind_some, law_answers_I hn (by omega) (by omega) q2 hcc, Option.bind_some, chk_le (by omega), Option.bind_some,
        Int.toNat_natCast, getD_some ha, getD_some hb, getD_some hj]
      cases memB a ((ansI one G n b c reach).map (·.1)) <;> rfl
  · rw [if_pos (by simp [hl]), decide_eq_false hl]
    rfl
end
end Va

/-! Lt06: law k06. -/
namespace Va
open PySem L2 PyProof.Rows PySem.W PySem.Calls
def L_law_b1 (law_draws_here : (List Int)) (law_town_here : (Int × (List (Int × Int × Int)))) (law_rule : Str) (law_reach : Int) (law_rows : (List (List (Option Int)))) (law_calls : (List Int)) (law_walk : (List (List Int))) (law_k : Int) : Option ((List Int) × (List (List Int))) := (atI law_draws_here ((21 : Int) + ((2 : Int) * law_k))).bind fun x => (modO x law_town_here.1).bind fun n => (atI law_walk (-(1 : Int))).bind fun x2 => (L_law_answers law_rows x2 n law_rule law_reach).bind fun r => if decide ((0 : Int) < (r.length : Int)) = true then (appO law_calls n).bind fun law_calls2 => (atI law_draws_here ((22 : Int) + ((2 : Int) * law_k))).bind fun x3 => (modO x3 (r.length : Int)).bind fun n2 => (atI r n2).bind fun x4 => (appO law_walk x4.1).bind fun law_walk2 => some (law_calls2, law_walk2) else some (law_calls, law_walk)
def L_law_b2 (law_town_here : (Int × (List (Int × Int × Int)))) (law_rule : Str) (law_reach : Int) (law_rows : (List (List (Option Int)))) (law_stands_here : (List (List Int))) (law_row : (List Int)) : Option (Ctl Unit Bool) := (L_is_answered law_town_here law_stands_here law_row law_rule law_reach).bind fun r => (if (!true) = true then some true else (L_law_is_answered law_rows law_stands_here law_row law_rule law_reach).bind fun r2 => some (!decide (r = r2))).bind fun b => if b = true then some (.rt false) else some (.nx ())
def L_law (ds : List Int) : Option Bool := (L_law_town ds (5 : Int)).bind fun r => (atI ds (15 : Int)).bind fun x => letO ((1 : Int) + (x % (2 : Int))) fun law_helpers => (atI ds (16 : Int)).bind fun x2 => (atI ([("one" : Str), ("all" : Str)] : (List Str)) (x2 % (2 : Int))).bind fun x3 => (atI ds (17 : Int)).bind fun x4 => (atI ds (17 : Int)).bind fun x5 => (atI ds (18 : Int)).bind fun x6 => (atI ([(x4 % (12 : Int)), (x5 % (4 : Int)), (60 : Int)] : (List Int)) (x6 % (3 : Int))).bind fun x7 => (L_law_ways r).bind fun r2 => (L_law_stands r.1 law_helpers).bind fun r3 => (atI ds (19 : Int)).bind fun x8 => (modO x8 (r3.length : Int)).bind fun n => (atI r3 n).bind fun x9 => letO ([x9] : (List (List Int))) fun law_walk => letO ([] : (List Int)) fun law_calls => (atI ds (20 : Int)).bind fun x10 => (range1 (x10 % (7 : Int))).bind fun l => (loopO (fun s x11 => L_law_b1 ds r x3 x7 r2 s.1 s.2 x11) l (law_calls, law_walk)).bind fun s2 => (reprO ((E3 (E2 PyData.int (EL (E3 PyData.int PyData.int PyData.int))) (EL (ET PyData.int)) (EL PyData.int)) (r, s2.2, s2.1))).bind fun s3 => (atI ds (40 : Int)).bind fun x16 => (modO x16 (s2.2.length : Int)).bind fun n4 => (atI ds (41 : Int)).bind fun x17 => (modO x17 (r3.length : Int)).bind fun n5 => (atI r3 n5).bind fun x18 => (catO (cutI s2.2 none (some n4)) ([x18] : (List (List Int)))).bind fun l2 => (catO l2 (cutI s2.2 (some (n4 + (1 : Int))) none)).bind fun l3 => (catO s2.2 (cutI s2.2 none (some (1 : Int)))).bind fun l4 => letO ([(s2.2, s2.1), (l3, s2.1), ((cutI s2.2 (some (1 : Int)) none), s2.1), (([] : (List (List Int))), s2.1), (l4, s2.1)] : (List ((List (List Int)) × (List Int)))) fun law_cases => (atI ds (42 : Int)).bind fun x19 => (modO x19 r.1).bind fun n6 => (catO ([n6] : (List Int)) (cutI s2.1 (some (1 : Int)) none)).bind fun l5 => (appO law_cases (s2.2, l5)).bind fun law_cases2 => (catO (cutI s2.2 none (some n4)) (cutI s2.2 (some (n4 + (1 : Int))) none)).bind fun l6 => (catO (cutI s2.1 none (some n4)) (cutI s2.1 (some (n4 + (1 : Int))) none)).bind fun l7 => (appO law_cases2 (l6, l7)).bind fun law_cases3 => resK (loopC (fun s4 x20 => L_law_b2 r x3 x7 r2 x20.1 x20.2) law_cases3 ()) (fun s5 => (reprO ((E3 (E2 PyData.int (EL (E3 PyData.int PyData.int PyData.int))) (EL (ET PyData.int)) (EL PyData.int)) (r, s2.2, s2.1))).bind fun s6 => some (decide (s6 = s3))) (some)
section
variable {n h : Nat} {rs : Rds} {G : Nat → Nat → Option Nat} {reach : Int} {one : Bool}
theorem at_last {α : Type} {l : List α} {a : α} : atI (l ++ [a]) (-(1 : Int)) = some a := by
  have : ixN (l ++ [a]).length (-1) = some l.length := by
    unfold ixN
    simp
    omega
  unfold atI
  rw [this]
  simp
/-- what the walk keeps -/
structure Wlk (n h : Nat) (k : Nat) (calls : List Int) (walk : List (List Int)) : Prop where
  ws : ∀ s ∈ walk, s ∈ stN n h
  cs : ∀ c ∈ calls, 0 ≤ c ∧ c < (n : Int)
  ne : 1 ≤ walk.length
  wl : walk.length ≤ k + 1
  cl : calls.length ≤ k
theorem k06_walk {ds : List Int} (hd : Drawn 60 ds) (T : Town n rs) (hn : n ≤ 5) (h1 : 1 ≤ h) (h3 : h ≤ 2) {s0 : List Int} (hs0 : s0 ∈ stN n h) {m : Nat} (hm : m ≤ 6) :
    ∃ calls walk, loopO (fun s x11 => L_law_b1 ds (townI n rs) (ruleS one) reach (matI n G) s.1 s.2 x11) (rangeI 0 m) ([], [s0]) = some (calls, walk) ∧ Wlk n h m calls walk := by
  obtain ⟨⟨c, w⟩, e, hW⟩ := loop_nat0 (f := fun s x11 => L_law_b1 ds (townI n rs) (ruleS one) reach (matI n G) s.1 s.2 x11) (n := m) (s := (([] : List Int), [s0])) (fun k st => Wlk n h k st.1 st.2)
    ⟨fun s hs => by rw [List.mem_singleton.mp hs]; exact hs0, fun c hc => (nomatch hc), by simp, by simp, by simp⟩ (by
    rintro k ⟨calls, walk⟩ hk W
    simp only at W ⊢
    obtain ⟨x, hx, _⟩ := draw_I hd (k := 21 + 2 * k) (by omega)
    obtain ⟨y, hy, _⟩ := draw_I hd (k := 22 + 2 * k) (by omega)
    have hpos := T.pos
    have hylt : x % n < n := Nat.mod_lt _ hpos
    have ht1 : (townI n rs).1 = (n : Int) := rfl
    unfold L_law_b1
    rw [show (21 : Int) + 2 * (k : Int) = ((21 + 2 * k : Nat) : Int) by omega, hx, Option.bind_some, ht1, modN (by omega), Option.bind_some]
    have hc : 0 ≤ (x : Int) % (n : Int) ∧ (x : Int) % (n : Int) < n := by omega
    generalize (x : Int) % (n : Int) = call at hc
    obtain ⟨l, a, rfl⟩ : ∃ l a, walk = l ++ [a] := by
      rcases nil_or_snoc walk with rfl | z
      · have := W.ne; simp at this
      · exact z
    have ha := W.ws a (by simp)
    obtain ⟨q1, q2⟩ := mem_stN.mp ha
    have hl := ansI_len (one := one) (G := G) (n := n) (s := a) (call := call) (reach := reach) (by omega) (by omega) (by omega)
    rw [at_last, Option.bind_some, law_answers_I (by omega) (by omega) (by omega) q2 hc, Option.bind_some]
    have hwl := W.wl
    have hcl := W.cl
    by_cases h0 : (0 : Int) < ((ansI one G n a call reach).length : Int)
    · have hlt : y % (ansI one G n a call reach).length < (ansI one G n a call reach).length := Nat.mod_lt _ (by omega)
      obtain ⟨e, he, he'⟩ : ∃ e, (ansI one G n a call reach)[y % (ansI one G n a call reach).length]? = some e ∧ e ∈ ansI one G n a call reach := ⟨_, List.getElem?_eq_getElem hlt, List.getElem_mem hlt⟩
      rw [if_pos (decide_eq_true h0), appO_lt (by omega), Option.bind_some, show (22 : Int) + 2 * (k : Int) = ((22 + 2 * k : Nat) : Int) by omega, hy, Option.bind_some, modN (by omega), Option.bind_some,
        show ((y : Int) % ((ansI one G n a call reach).length : Int)) = ((y % (ansI one G n a call reach).length : Nat) : Int) by omega, atI_ofNat, he, Option.bind_some, appO_lt (by omega), Option.bind_some]
      refine ⟨_, rfl, fun s hs => ?_, fun c hc' => ?_, by simp, by simp at hwl ⊢; omega, by simp; omega⟩
      · rcases List.mem_append.mp hs with hs | hs
        · exact W.ws s hs
        · rw [List.mem_singleton.mp hs]
          exact ansI_stN ha hc he'
      · rcases List.mem_append.mp hc' with hc' | hc'
        · exact W.cs c hc'
        · rw [List.mem_singleton.mp hc']
          exact hc
    · rw [if_neg (by rw [decide_eq_false h0]; exact Bool.false_ne_true)]
      exact ⟨(calls, l ++ [a]), rfl, W.ws, W.cs, W.ne, Nat.le_succ_of_le W.wl, Nat.le_succ_of_le W.cl⟩)
  exact ⟨c, w, e, hW⟩
theorem k06_b2 (hw : L_ways (townI n rs) = some (matI n G)) (hn : n ≤ 5) (h1 : 1 ≤ h) (h3 : h ≤ 2) {stands : List (List Int)} {calls : List Int} (hs : ∀ s ∈ stands, s ∈ stN n h) (hc : ∀ c ∈ calls, 0 ≤ c ∧ c < (n : Int)) (hz : calls.length ≤ 1000) :
    L_law_b2 (townI n rs) (ruleS one) reach (matI n G) stands calls = some (.nx ()) := by
  unfold L_law_b2
  rw [is_answered_I hw (by omega) h1 (by omega) hs hc, Option.bind_some, law_is_answered_I (by omega) h1 (by omega) hs hc (by omega)]
  simp
theorem stN_tame (hn : n ≤ 9) (h3 : h ≤ 3) {xs : List (List Int)} (hs : ∀ s ∈ xs, s ∈ stN n h) {m : Nat} (hm : xs.length ≤ m) : Tame 2 (m * 124) (EL (ET PyData.int) xs) := by
  refine Tame.L (D := 1) (W := 123) (n := m) (fun s h => ?_) hm
  obtain ⟨a, b⟩ := mem_stN.mp (hs s h)
  refine (Tame.T (D := 0) (W := 40) (n := 3) (fun x hx => ?_) (by omega)).mono (by omega) (by omega)
  have := b.bnd x hx
  exact Tame.i (by omega) (by omega)
theorem k06_tame (T : Town n rs) (hn : n ≤ 5) (h3 : h ≤ 2) {calls : List Int} {walk : List (List Int)} (W : Wlk n h 6 calls walk) : ∃ s, reprO (E3 ETown (EL (ET PyData.int)) (EL PyData.int) (townI n rs, walk, calls)) = some s := by
  refine ⟨_, reprO_of (Tame.p3 (D := 3) (W := 12154) (T.tame7 (by omega)) ((stN_tame (n := n) (h := h) (m := 7) (by omega) (by omega) W.ws W.wl).mono (by omega) (by omega)) ?_) (by omega) (by omega)⟩
  refine (Tame.L (D := 0) (W := 40) (n := 6) (fun c hc => ?_) W.cl).mono (by omega) (by omega)
  have := W.cs c hc
  exact Tame.i (by omega) (by omega)
end
theorem pick2 {x : Nat} : ∃ one, atI ([("one" : Str), ("all" : Str)] : List Str) ((x : Int) % 2) = some (ruleS one) := by
  have e : (x : Int) % 2 = 0 ∨ (x : Int) % 2 = 1 := by omega
  rcases e with e | e <;> rw [e]
  · exact ⟨true, rfl⟩
  · exact ⟨false, rfl⟩
theorem math_law (ds : List Int) (hd : Drawn 60 ds) : L_law ds = some true := by
  obtain ⟨n, rs, T, hn, ht⟩ := town_I hd (most := 5) (by omega) (by omega) (fun n hn => by
    match n, hn with
    | 0, _ => decide
    | 1, _ => decide
    | 2, _ => decide
    | 3, _ => decide
    | 4, _ => decide
    | 5, _ => decide)
  obtain ⟨G, hw, hw2, hG⟩ := ways_both T (by omega)
  have D : ∀ k : Nat, k < 60 → ∃ x : Nat, atI ds (k : Int) = some (x : Int) := fun k hk => let ⟨x, h, _⟩ := draw_I hd (k := k) (by omega); ⟨x, h⟩
  obtain ⟨d15, h15⟩ := D 15 (by omega)
  obtain ⟨d16, h16⟩ := D 16 (by omega)
  obtain ⟨d17, h17⟩ := D 17 (by omega)
  obtain ⟨d18, h18⟩ := D 18 (by omega)
  obtain ⟨d19, h19⟩ := D 19 (by omega)
  obtain ⟨d20, h20⟩ := D 20 (by omega)
  obtain ⟨d40, h40⟩ := D 40 (by omega)
  obtain ⟨d41, h41⟩ := D 41 (by omega)
  obtain ⟨d42, h42⟩ := D 42 (by omega)
  have ht' : L_law_town ds 5 = some (townI n rs) := ht
  obtain ⟨one, hone⟩ := pick2 (x := d16)
  have e3 : (d18 : Int) % 3 = 0 ∨ (d18 : Int) % 3 = 1 ∨ (d18 : Int) % 3 = 2 := by omega
  obtain ⟨reach, hr⟩ : ∃ r : Int, atI ([((d17 : Int) % (12 : Int)), ((d17 : Int) % (4 : Int)), (60 : Int)] : (List Int)) ((d18 : Int) % (3 : Int)) = some r := by
    rcases e3 with e | e | e <;> rw [e] <;> exact ⟨_, rfl⟩
  have hpos := T.pos
  have hh : (1 : Int) + (d15 : Int) % 2 = ((1 + d15 % 2 : Nat) : Int) := by omega
  have hh1 : 1 ≤ 1 + d15 % 2 := by omega
  have hh2 : 1 + d15 % 2 ≤ 2 := by omega
  have ht1 : (townI n rs).1 = (n : Int) := rfl
  have hst := law_stands_I (n := n) (h := 1 + d15 % 2) (by omega) (by omega) (by omega)
  unfold L_law
  simp only [letO_eq]
  rw [ht', Option.bind_some, show atI ds 15 = _ from h15, Option.bind_some, show atI ds 16 = _ from h16, Option.bind_some, hone, Option.bind_some, show atI ds 17 = _ from h17, Option.bind_some, Option.bind_some, show atI ds 18 = _ from h18, Option.bind_some, hr, Option.bind_some,
    hw2, Option.bind_some, ht1, hh, hst, Option.bind_some, show atI ds 19 = _ from h19, Option.bind_some]
  generalize 1 + d15 % 2 = h at hh1 hh2
  have hne := stN_ne (n := n) (h := h) hpos
  have pick : ∀ x : Nat, ∃ s, atI (stN n h) ((x : Int) % ((stN n h).length : Int)) = some s ∧ s ∈ stN n h := fun x => by
    have hlt : x % (stN n h).length < (stN n h).length := Nat.mod_lt _ hne
    rw [show ((x : Int) % ((stN n h).length : Int)) = ((x % (stN n h).length : Nat) : Int) by omega, atI_ofNat]
    exact ⟨_, List.getElem?_eq_getElem hlt, List.getElem_mem hlt⟩
  obtain ⟨s0, e0, hs0⟩ := pick d19
  obtain ⟨s1, e1, hs1⟩ := pick d41
  rw [modN (by omega), Option.bind_some, e0, Option.bind_some, show atI ds 20 = _ from h20, Option.bind_some, show ((d20 : Int) % 7) = ((d20 % 7 : Nat) : Int) by omega, range1_nat (by omega), Option.bind_some]
  have hm6 : d20 % 7 ≤ 6 := by omega
  obtain ⟨calls, walk, ew, W0⟩ := k06_walk (one := one) (reach := reach) (G := G) hd T hn hh1 hh2 hs0 hm6
  have W : Wlk n h 6 calls walk := ⟨W0.ws, W0.cs, W0.ne, Nat.le_trans W0.wl (by omega), Nat.le_trans W0.cl (by omega)⟩
  rw [ew, Option.bind_some]
  obtain ⟨rp, hrp⟩ := k06_tame T hn hh2 W
  have hwn := W.ne
  have hwl := W.wl
  have hcl := W.cl
  have hwlt : d40 % walk.length < walk.length := Nat.mod_lt _ hwn
  simp only
  rw [hrp, Option.bind_some, show atI ds 40 = _ from h40, Option.bind_some, modN (by omega), Option.bind_some, show atI ds 41 = _ from h41, Option.bind_some, modN (by omega), Option.bind_some, e1, Option.bind_some]
  have c1 : ∀ (lo hi : Option Int), (cutI walk lo hi).length ≤ 7 := fun lo hi => Nat.le_trans cutI_len hwl
  have c2 : ∀ (lo hi : Option Int), (cutI calls lo hi).length ≤ 6 := fun lo hi => Nat.le_trans cutI_len hcl
  generalize (d40 : Int) % (walk.length : Int) = at_
  have k1 := c1 none (some at_)
  have k2 := c1 (some (at_ + 1)) none
  have k3 := c1 none (some 1)
  have k4 := c2 none (some at_)
  have k5 := c2 (some (at_ + 1)) none
  have k6 := c2 (some 1) none
  have hn0 : 0 ≤ (d42 : Int) % (n : Int) ∧ (d42 : Int) % (n : Int) < n := by
    have := Int.emod_nonneg (d42 : Int) (show (n : Int) ≠ 0 by omega)
    have := Int.emod_lt_of_pos (d42 : Int) (show (0 : Int) < n by omega)
    omega
  rw [catO_le (by simp; omega), Option.bind_some, catO_le (by simp; omega), Option.bind_some, catO_le (by omega), Option.bind_some, show atI ds 42 = _ from h42, Option.bind_some, modN (by omega), Option.bind_some, catO_le (by simp; omega), Option.bind_some,
    appO_lt (by simp), Option.bind_some, catO_le (by omega), Option.bind_some, catO_le (by omega), Option.bind_some, appO_lt (by simp), Option.bind_some]
  obtain ⟨_, e, _⟩ := loopC_mem (f := fun s4 x20 => L_law_b2 (townI n rs) (ruleS one) reach (matI n G) x20.1 x20.2) (xs := ([(walk, calls), (cutI walk none (some at_) ++ [s1] ++ cutI walk (some (at_ + 1)) none, calls), (cutI walk (some 1) none, calls), ([], calls), (walk ++ cutI walk none (some 1), calls)] ++ [(walk, [(d42 : Int) % (n : Int)] ++ cutI calls (some 1) none)]) ++ [(cutI walk none (some at_) ++ cutI walk (some (at_ + 1)) none, cutI calls none (some at_) ++ cutI calls (some (at_ + 1)) none)]) (s := ()) (fun _ => True) trivial (by
    have w : ∀ s ∈ walk, s ∈ stN n h := W.ws
    have wc : ∀ lo hi, ∀ s ∈ cutI walk lo hi, s ∈ stN n h := fun lo hi s hs => W.ws s (cutI_mem hs)
    have cc : ∀ lo hi, ∀ c ∈ cutI calls lo hi, 0 ≤ c ∧ c < (n : Int) := fun lo hi c hc => W.cs c (cutI_mem hc)
    have app : ∀ {α : Type} {p : α → Prop} {xs ys : List α}, (∀ x ∈ xs, p x) → (∀ x ∈ ys, p x) → ∀ x ∈ xs ++ ys, p x := fun h1 h2 x hx => (List.mem_append.mp hx).elim (h1 x) (h2 x)
    have sing : ∀ {α : Type} {p : α → Prop} {y : α}, p y → ∀ x ∈ [y], p x := fun h x hx => by rw [List.mem_singleton.mp hx]; exact h
    rintro ⟨st, cl⟩ hx u _
    refine ⟨(), .inl ?_, trivial⟩
    simp only [List.mem_append, List.mem_cons, List.not_mem_nil, or_false, Prod.mk.injEq] at hx
    rcases hx with ((⟨rfl, rfl⟩ | ⟨rfl, rfl⟩ | ⟨rfl, rfl⟩ | ⟨rfl, rfl⟩ | ⟨rfl, rfl⟩) | ⟨rfl, rfl⟩) | ⟨rfl, rfl⟩
    · exact k06_b2 hw hn hh1 hh2 w W.cs (Nat.le_trans W.cl (by decide))
    · exact k06_b2 hw hn hh1 hh2 (app (app (wc _ _) (sing hs1)) (wc _ _)) W.cs (Nat.le_trans W.cl (by decide))
    · exact k06_b2 hw hn hh1 hh2 (wc _ _) W.cs (Nat.le_trans W.cl (by decide))
    · exact k06_b2 hw hn hh1 hh2 (fun s hs => (nomatch hs)) W.cs (Nat.le_trans W.cl (by decide))
    · exact k06_b2 hw hn hh1 hh2 (app w (wc _ _)) W.cs (Nat.le_trans W.cl (by decide))
    · exact k06_b2 hw hn hh1 hh2 w (app (sing hn0) (cc _ _)) (by simp; omega)
    · exact k06_b2 hw hn hh1 hh2 (app (wc _ _) (wc _ _)) (app (cc _ _) (cc _ _)) (by simp; omega))
  rw [e, resK_on, Option.bind_some]
  simp
end Va

namespace Va
open PySem L2 PyProof.Rows PySem.W PySem.Calls
end Va
namespace Kk
open PySem L2 Va PyProof.Rows
/-! ### the text -/
def topS (i : Nat) : Stmt := PySem.Challenge.pw_evernear_k06_rows_of_calls_that_are_answ.main.body.getD i (.Pass ⟨0, 0, 0, 0⟩)
abbrev s_law_draws : Stmt := topS 12
abbrev s_law_town : Stmt := topS 14
abbrev s_law_ways : Stmt := topS 15
abbrev s_law_stands : Stmt := topS 16
abbrev s_law_orders : Stmt := topS 17
abbrev s_law_move : Stmt := topS 18
abbrev s_law_answers : Stmt := topS 19
abbrev s_all_stands : Stmt := topS 4
abbrev s_paired_length : Stmt := topS 5
abbrev s_answers_by_all : Stmt := topS 8
abbrev s_sent : Stmt := topS 6
abbrev s_answers_by_one : Stmt := topS 7
abbrev s_ways : Stmt := topS 2
abbrev s_answers : Stmt := topS 9
abbrev s_is_answered : Stmt := topS 10
abbrev s_law_is_answered : Stmt := topS 20
abbrev s_law : Stmt := topS 21
section
variable {P : Program} {w : World} {K : PySem.W.Frag} {mg : Str → Option Value} {base : Heap}
theorem sc_law_draws : FnScope ["_law_script", "_law_count", "_law_rests", "_law_draws_here", "_law_k", "_law_value", "_law_at", "_law_mixed", "_law_cell"] ["_law_script", "_law_count"] (defScope s_law_draws) := ⟨rfl, rfl, rfl, by decide +kernel, rfl, by decide +kernel, by decide +kernel⟩
theorem ok_law_draws {f : Addr} {fd : FuncData} (F : Fun K "_law_draws" "_law_draws" s_law_draws f fd) (gx : mg "_law_draws" = some (.ref f)) (b_range : mg "range" = none) (b_len : mg "len" = none) (b_int : mg "int" = none) : Cd P w K mg base "_law_draws" 1 :=
  ⟨f, fd, _, F.ok sc_law_draws (fun vs H Q E h => spDraws_len h) (fun cdv A outer s H vs Q E hr h => ⟨_, pss_cons (ps_setLc (i := 2) (own := [("_law_cell", 8)]) rfl sc_law_draws.nd rfl rfl (sw_true rfl rfl rfl (by decide +kernel)) (pi_list (pv 0)) (blkOk_by (by kernel_rfl)) (fun _ _ _ _ _ => (pg_name (i := 8) sc_law_draws.nd rfl (by first | exact Or.inl rfl | exact Or.inr rfl))) (fun _ _ _ _ _ => pts_nil) (fun _ _ _ _ _ => (pv 8)))
    (pss_cons (ps_set (i := 3) sc_law_draws.nd rfl (by first | exact Or.inl rfl | exact Or.inr rfl) (pe_lst pa_nil))
    (pss_cons (ps_for PassesOwn.never rfl (pi_range1 rfl b_range (pa_cons (pv 1) pa_nil)) (pg_name (i := 4) sc_law_draws.nd rfl (by first | exact Or.inl rfl | exact Or.inr rfl)) (pss_cons (ps_set (i := 5) sc_law_draws.nd rfl (by first | exact Or.inl rfl | exact Or.inr rfl) pe_int)
    (pss_cons (ps_if (pt_cmpR op_gt (pe_callB call_len (by rfl) b_len (by decide +kernel) (pa_cons (pv 2) pa_nil)) pe_int (nomark _)) (pss_cons (ps_set (i := 6) sc_law_draws.nd rfl (by first | exact Or.inl rfl | exact Or.inr rfl) (pe_op op_mod (pe_callTy call_int1 (by rfl) b_int (by decide +kernel) (pa_cons (pv 4) pa_nil)) (pe_callB call_len (by rfl) b_len (by decide +kernel) (pa_cons (pv 2) pa_nil))))
    (pss_one (ps_if (pt_cmpR op_ge (pe_ix ix_seq (pv 2) (pv 6) (fun _ _ => rfl)) (pe_op op_pow pe_int pe_int) (nomark _)) (pss_cons (ps_set (i := 5) sc_law_draws.nd rfl (by first | exact Or.inl rfl | exact Or.inr rfl) (pe_op op_mod (pe_callTy call_int1 (by rfl) b_int (by decide +kernel) (pa_cons (pe_ix ix_seq (pv 2) (pv 6) (fun _ _ => rfl)) pa_nil)) pe_int))
    (pss_one (ps_asg (pe_op op_fdivW (pe_ix ix_seq (pv 2) (pv 6) (fun _ _ => rfl)) pe_int) (pg_sub (pv 2) (pv 6) set_list)))) (pss_cons (ps_set (i := 7) sc_law_draws.nd rfl (by first | exact Or.inl rfl | exact Or.inr rfl) (pe_op op_mod (pe_callTy call_int1 (by rfl) b_int (by decide +kernel) (pa_cons (pe_op op_addA (pe_op op_addA (pe_op op_mulA (pe_ix ix_seq (pv 2) (pv 6) (fun _ _ => rfl)) pe_int) (pe_op op_mulA (pv 4) pe_int)) pe_int) pa_nil)) pe_int))
    (pss_cons (ps_set (i := 7) sc_law_draws.nd rfl (by first | exact Or.inl rfl | exact Or.inr rfl) (pe_op op_mod (pe_callTy call_int1 (by rfl) b_int (by decide +kernel) (pa_cons (pe_op op_addA (pe_op op_mulA (pv 7) pe_int) (pv 6)) pa_nil)) pe_int))
    (pss_one (ps_set (i := 5) sc_law_draws.nd rfl (by first | exact Or.inl rfl | exact Or.inr rfl) (pe_op op_mod (pe_callTy call_int1 (by rfl) b_int (by decide +kernel) (pa_cons (pe_op op_fdivW (pv 7) pe_int) pa_nil)) pe_int)))))))) pss_nil)
    (pss_one (ps_expr (pe_bm PySem.F.plainAttrs_list PySem.F.slot_list_append PySem.F.type_list_append mt_append (pv 3) (pa_cons (pv 5) pa_nil)))))))
    (pss_one (ps_ret (pv 3))))), draws_body (Wx := noX)
    (vs_seq (vs_set [] 3 (ve_lst va_nil))
    (vs_seq (vs_for (wb := [2, 3, 4, 5, 6, 7]) (fg := [0, 1, 4, 5, 6, 7]) (vi_range1 (va_cons (ve_var 1) va_nil)) (vg_name 4) (VS.mono (vs_seq (vs_set [] 5 ve_int)
    (vs_seq (vs_if (vt_test (ve_op (vf_f vf_gt) (ve_call_b (vf_f vf_len) (va_cons (ve_var 2) va_nil)) ve_int)) (vs_seq (vs_set [] 6 (ve_op (vf_f vf_mod) (ve_call_b (vf_f vf_int) (va_cons (ve_var 4) va_nil)) (ve_call_b (vf_f vf_len) (va_cons (ve_var 2) va_nil))))
    (vs_if (vt_test (ve_op (vf_f vf_ge) (ve_op vf_ix (ve_var 2) (ve_var 6)) (ve_op (vf_f vf_pow) ve_int ve_int))) (vs_seq (vs_set [] 5 (ve_op (vf_f vf_mod) (ve_call_b (vf_f vf_int) (va_cons (ve_op vf_ix (ve_var 2) (ve_var 6)) va_nil)) ve_int))
    (vs_idx [6] 2 (ve_op (vf_f vf_div) (ve_op vf_ix (ve_var 2) (ve_var 6)) ve_int) (ve_var 6))) (vs_seq (vs_set [4] 7 (ve_op (vf_f vf_mod) (ve_call_b (vf_f vf_int) (va_cons (ve_op (vf_add) (ve_op (vf_add) (ve_op (vf_mul) (ve_op vf_ix (ve_var 2) (ve_var 6)) ve_int) (ve_op (vf_mul) (ve_var 4) ve_int)) ve_int) va_nil)) ve_int))
    (vs_seq (vs_set [6] 7 (ve_op (vf_f vf_mod) (ve_call_b (vf_f vf_int) (va_cons (ve_op (vf_add) (ve_op (vf_mul) (ve_var 7) ve_int) (ve_var 6)) va_nil)) ve_int))
    (vs_set [7] 5 (ve_op (vf_f vf_mod) (ve_call_b (vf_f vf_int) (va_cons (ve_op (vf_f vf_div) (ve_var 7) ve_int) va_nil)) ve_int)))))) (vs_next (wr := [])))
    (vs_append [5] 3 (ve_var 5)))) (by decide)))
    (vs_ret (wr := []) (ve_var 3)))) h rfl⟩), gx, F.kp, F.binds fun _ _ _ _ _ _ us hl => match us, hl with | [_, _], _ => rfl⟩
theorem sc_law_town : FnScope ["_law_draws_here", "_law_most", "_law_places", "_law_roads", "_law_k", "_law_first", "_law_second"] ["_law_draws_here", "_law_most"] (defScope s_law_town) := ⟨rfl, rfl, rfl, by decide +kernel, rfl, by decide +kernel, by decide +kernel⟩
theorem ok_law_town {f : Addr} {fd : FuncData} (F : Fun K "_law_town" "_law_town" s_law_town f fd) (gx : mg "_law_town" = some (.ref f)) (b_int : mg "int" = none) (b_range : mg "range" = none) : Clr P w K mg base "_law_town" 1 2 R_law_town :=
  ⟨f, fd, _, F.ok sc_law_town (fun vs H Q E h => spR_len h) (fun cdv A outer s H vs Q E hr h => ⟨_, (pss_cons (ps_set (i := 2) sc_law_town.nd rfl (by first | exact Or.inl rfl | exact Or.inr rfl) (pe_op op_addA pe_int (pe_op op_mod (pe_callTy call_int1 (by rfl) b_int (by decide +kernel) (pa_cons (pe_ix ix_seq (pv 0) pe_int (fun _ _ => rfl)) pa_nil)) (pv 1))))
    (pss_cons (ps_set (i := 3) sc_law_town.nd rfl (by first | exact Or.inl rfl | exact Or.inr rfl) (pe_lst pa_nil))
    (pss_cons (ps_set (i := 4) sc_law_town.nd rfl (by first | exact Or.inl rfl | exact Or.inr rfl) pe_int)
    (pss_cons (ps_for PassesOwn.never rfl (pi_range1 rfl b_range (pa_cons (pv 2) pa_nil)) (pg_name (i := 5) sc_law_town.nd rfl (by first | exact Or.inl rfl | exact Or.inr rfl)) (pss_one (ps_for PassesOwn.never rfl (pi_range2 rfl b_range (pa_cons (pe_op op_addA (pv 5) pe_int) (pa_cons (pv 2) pa_nil))) (pg_name (i := 6) sc_law_town.nd rfl (by first | exact Or.inl rfl | exact Or.inr rfl)) (pss_cons (ps_if (pt_cmpR op_lt (pe_op op_mod (pe_callTy call_int1 (by rfl) b_int (by decide +kernel) (pa_cons (pe_ix ix_seq (pv 0) (pv 4) (fun _ _ => rfl)) pa_nil)) pe_int) pe_int (nomark _)) (pss_one (ps_expr (pe_bm PySem.F.plainAttrs_list PySem.F.slot_list_append PySem.F.type_list_append mt_append (pv 3) (pa_cons (pe_tupN (pa_cons (pv 5) (pa_cons (pv 6) (pa_cons (pe_op op_addA pe_int (pe_op op_mod (pe_callTy call_int1 (by rfl) b_int (by decide +kernel) (pa_cons (pe_op op_fdivW (pe_ix ix_seq (pv 0) (pv 4) (fun _ _ => rfl)) pe_int) pa_nil)) (pe_ix ix_seq (pe_lst (pa_cons pe_int (pa_cons pe_int pa_nil))) (pe_op op_mod (pe_callTy call_int1 (by rfl) b_int (by decide +kernel) (pa_cons (pe_op op_fdivW (pe_ix ix_seq (pv 0) (pv 4) (fun _ _ => rfl)) pe_int) pa_nil)) pe_int) (fun _ _ => rfl)))) pa_nil)))) pa_nil)))) pss_nil)
    (pss_one (ps_set (i := 4) sc_law_town.nd rfl (by first | exact Or.inl rfl | exact Or.inr rfl) (pe_op op_addA (pv 4) pe_int)))))))
    (pss_one (ps_ret (pe_tupN (pa_cons (pv 2) (pa_cons (pv 3) pa_nil))))))))), body_T (A := ((List Int) × Int)) (encs := fun a => [(EL PyData.int) a.1, PyData.int a.2]) (L := fun a => L_law_town a.1 a.2) (e := (E2 PyData.int (EL (E3 PyData.int PyData.int PyData.int)))) (r := 2) (Wx := noX) (m := 7) (n := 2) (E1 := fun a => [some ((EL PyData.int) a.1, 0), some (PyData.int a.2, 2), none, none, none, none, none]) (fun a =>
    (s_bind fun x h1 => (s_bind fun n h2 => (s_let fun law_places h3 => (s_seq (ρ1 := [some ((EL PyData.int) a.1, 0), some (PyData.int a.2, 2), some (PyData.int law_places, 2), none, none, none, none]) (s_set [1] 2 (p_is (e := PyData.int) h3 (p_add p_int (p_mod (p_cb vf_int (a_consF (p_ixF (d := PyData.int x) (p_varB (d := (EL PyData.int) a.1) (i := 0) (m := 0) rfl) p_int (ixL (e := PyData.int) h1) (Flat.flat (e := PyData.int) _)) a_nil) rfl) (p_var (e := PyData.int) (a := a.2) (i := 1) (m := 2) rfl) h2))) rfl rfl)
    (s_let fun law_roads h4 => (s_seq (ρ1 := [some ((EL PyData.int) a.1, 0), some (PyData.int a.2, 2), some (PyData.int law_places, 2), some ((EL (E3 PyData.int PyData.int PyData.int)) law_roads, 2), none, none, none]) (s_set [] 3 (p_is (e := (EL (E3 PyData.int PyData.int PyData.int))) h4 (p_lstF (ds := []) a_nil flatL_nil (Nat.le_of_ble_eq_true rfl))) rfl rfl)
    (s_seq (ρ1 := [some ((EL PyData.int) a.1, 0), some (PyData.int a.2, 2), some (PyData.int law_places, 2), some ((EL (E3 PyData.int PyData.int PyData.int)) law_roads, 2), some (PyData.int (1 : Int), 2), none, none]) (s_set [] 4 p_int rfl rfl)
    (s_bind fun l h5 => (s_seqO (s_forO' (wb := [3, 4, 6]) (e := PyData.int) (xs := l) (f := (fun s x2 => L_law_town_b2 a.1 law_places s.1 s.2 x2)) (s0 := ((1 : Int), law_roads)) (E := (fun (s : (Int × (List (Int × Int × Int)))) => [some ((EL PyData.int) a.1, 0), none, some (PyData.int law_places, 2), some ((EL (E3 PyData.int PyData.int PyData.int)) s.2, 2), some (PyData.int s.1, 2), none, none])) (fun (s : (Int × (List (Int × Int × Int)))) x2 => [some ((EL PyData.int) a.1, 0), none, some (PyData.int law_places, 2), some ((EL (E3 PyData.int PyData.int PyData.int)) s.2, 2), some (PyData.int s.1, 2), some (PyData.int x2, 2), none]) (i_range1 (a_consF (p_var (e := PyData.int) (a := law_places) (i := 2) (m := 2) rfl) a_nil) h5) (vg_name 5) (l_flat (e := PyData.int) rfl (LessE.s (LessE.n (LessE.s (LessE.s (LessE.s (LessE.s (LessE.s LessE.nil)))))))) (fun s x2 => (tj_2 (e := PyData.int) (a := x2) rfl rfl))
    (fun s x2 _ => VS.mono (s_bind fun l2 h6 => (s_lastO (s_forO' (wb := [3, 4, 6]) (e := PyData.int) (xs := l2) (f := (fun s2 x3 => L_law_town_b1 a.1 x2 s2.1 s2.2 x3)) (s0 := (s.2, s.1)) (E := (fun (s2 : ((List (Int × Int × Int)) × Int)) => [some ((EL PyData.int) a.1, 0), none, some (PyData.int law_places, 2), some ((EL (E3 PyData.int PyData.int PyData.int)) s2.1, 2), some (PyData.int s2.2, 2), some (PyData.int x2, 2), none])) (fun (s2 : ((List (Int × Int × Int)) × Int)) x3 => [some ((EL PyData.int) a.1, 0), none, some (PyData.int law_places, 2), some ((EL (E3 PyData.int PyData.int PyData.int)) s2.1, 2), some (PyData.int s2.2, 2), some (PyData.int x2, 2), some (PyData.int x3, 2)]) (i_range2 (a_consF (p_add (p_var (e := PyData.int) (a := x2) (i := 5) (m := 2) rfl) p_int) (a_consF (p_var (e := PyData.int) (a := law_places) (i := 2) (m := 2) rfl) a_nil)) h6) (vg_name 6) (l_flat (e := PyData.int) rfl (LessE.s (LessE.s (LessE.s (LessE.s (LessE.s (LessE.s (LessE.s LessE.nil)))))))) (fun s2 x3 => (tj_2 (e := PyData.int) (a := x3) rfl rfl))
    (fun s2 x3 _ => VS.mono (s_bind fun x4 h7 => (s_seqO (τ := (List (Int × Int × Int))) (E := fun law_roads3 => [some ((EL PyData.int) a.1, 0), none, some (PyData.int law_places, 2), some ((EL (E3 PyData.int PyData.int PyData.int)) law_roads3, 2), some (PyData.int s2.2, 2), some (PyData.int x2, 2), some (PyData.int x3, 2)]) (s_if (t_val (p_opF vf_lt (p_mod (p_cb vf_int (a_consF (p_ixF (d := PyData.int x4) (p_varB (d := (EL PyData.int) a.1) (i := 0) (m := 0) rfl) (p_var (e := PyData.int) (a := s2.2) (i := 4) (m := 2) rfl) (ixL (e := PyData.int) h7) (Flat.flat (e := PyData.int) _)) a_nil) rfl) p_int (modN (by decide))) p_int rfl)) (fun _ => (s_bind fun x5 h8 => (s_bind fun x6 h9 => (s_bind fun x7 h10 => (s_bind fun n2 h11 => (s_bind fun law_roads2 h12 => (s_out (s_app [6] 3 (e := (E3 PyData.int PyData.int PyData.int)) (xs := s2.1) (x := (x2, x3, ((1 : Int) + n2))) (p_tupF (ds := [PyData.int x2, PyData.int x3, PyData.int ((1 : Int) + n2)]) (a_consF (p_var (e := PyData.int) (a := x2) (i := 5) (m := 2) rfl) (a_consF (p_var (e := PyData.int) (a := x3) (i := 6) (m := 2) rfl) (a_consF (p_add p_int (p_mod (p_cb vf_int (a_consF (p_div (p_ixF (d := PyData.int x5) (p_varB (d := (EL PyData.int) a.1) (i := 0) (m := 0) rfl) (p_var (e := PyData.int) (a := s2.2) (i := 4) (m := 2) rfl) (ixL (e := PyData.int) h8) (Flat.flat (e := PyData.int) _)) p_int (divN (by decide))) a_nil) rfl) (p_ixF (d := PyData.int x7) (p_lstF (ds := [PyData.int (3 : Int), PyData.int (9 : Int)]) (a_consF p_int (a_consF p_int a_nil)) (fl_cons (e := PyData.int) (fl_cons (e := PyData.int) flatL_nil)) (Nat.le_of_ble_eq_true rfl)) (p_mod (p_cb vf_int (a_consF (p_div (p_ixF (d := PyData.int x6) (p_varB (d := (EL PyData.int) a.1) (i := 0) (m := 0) rfl) (p_var (e := PyData.int) (a := s2.2) (i := 4) (m := 2) rfl) (ixL (e := PyData.int) h9) (Flat.flat (e := PyData.int) _)) p_int (divN (by decide))) a_nil) rfl) p_int (modN (by decide))) (ixL (e := PyData.int) h10) (Flat.flat (e := PyData.int) _)) h11)) a_nil))) (fl_cons (e := PyData.int) (fl_cons (e := PyData.int) (fl_cons (e := PyData.int) flatL_nil))) (Nat.le_of_ble_eq_true rfl)) rfl (.inr rfl) rfl h12 rfl) (LessE.s (LessE.s (LessE.s (LessE.s (LessE.s (LessE.s (LessE.s LessE.nil)))))))))))))) (fun _ => (s_out s_next (LessE.s (LessE.s (LessE.s (LessE.s (LessE.s (LessE.s (LessE.s LessE.nil)))))))))) (fun law_roads3 => (s_let fun law_k h13 => (s_out (s_set [] 4 (p_is (e := PyData.int) h13 (p_add (p_var (e := PyData.int) (a := s2.2) (i := 4) (m := 2) rfl) p_int)) rfl rfl) (LessE.s (LessE.s (LessE.s (LessE.s (LessE.s (LessE.s (LessE.n LessE.nil)))))))))))) (by decide))) (fun s3 => (LessE.s (LessE.s (LessE.s (LessE.s (LessE.s (LessE.n (LessE.s LessE.nil)))))))))) (by decide))) (fun s4 => (s_ret (p_tupM (ds := [PyData.int law_places, (EL (E3 PyData.int PyData.int PyData.int)) s4.2]) (a_consF (p_var (e := PyData.int) (a := law_places) (i := 2) (m := 2) rfl) (a_consM (p_varM (d := (EL (E3 PyData.int PyData.int PyData.int)) s4.2) (i := 3) rfl) a_nil rfl)) (Nat.le_of_ble_eq_true rfl)) rfl)))))))))))) (fun a => (LessE.z (LessE.f2 (e := PyData.int) LessE.refl))) h rfl (by decide)⟩), gx, F.kp, F.binds fun _ _ _ _ _ _ us hl => match us, hl with | [_, _], _ => rfl⟩
theorem sc_law_ways : FnScope ["_law_town_here", "_law_places", "_law_roads", "_law_rows", "_law_start", "_law_row", "_law_turn", "_law_first", "_law_second", "_law_length", "_law_one", "_law_other"] ["_law_town_here"] (defScope s_law_ways) := ⟨rfl, rfl, rfl, by decide +kernel, rfl, by decide +kernel, by decide +kernel⟩
theorem ok_law_ways {f : Addr} {fd : FuncData} (F : Fun K "_law_ways" "_law_ways" s_law_ways f fd) (gx : mg "_law_ways" = some (.ref f)) (b_range : mg "range" = none) : Clr P w K mg base "_law_ways" 1 1 R_law_ways :=
  ⟨f, fd, _, F.ok sc_law_ways (fun vs H Q E h => spR_len h) (fun cdv A outer s H vs Q E hr h => ⟨_, (pss_cons (ps_asg (pv 0) (pg_tup (n := 2) (by rfl) (pgs_cons (pg_name (i := 1) sc_law_ways.nd rfl (by first | exact Or.inl rfl | exact Or.inr rfl)) (pgs_cons (pg_name (i := 2) sc_law_ways.nd rfl (by first | exact Or.inl rfl | exact Or.inr rfl)) pgs_nil))))
    (pss_cons (ps_set (i := 3) sc_law_ways.nd rfl (by first | exact Or.inl rfl | exact Or.inr rfl) (pe_lst pa_nil))
    (pss_cons (ps_for PassesOwn.never rfl (pi_range1 rfl b_range (pa_cons (pv 1) pa_nil)) (pg_name (i := 4) sc_law_ways.nd rfl (by first | exact Or.inl rfl | exact Or.inr rfl)) (pss_cons (ps_set (i := 5) sc_law_ways.nd rfl (by first | exact Or.inl rfl | exact Or.inr rfl) (pe_op op_mulA (pe_lst (pa_cons pe_non pa_nil)) (pv 1)))
    (pss_cons (ps_asg pe_int (pg_sub (pv 5) (pv 4) set_list))
    (pss_cons (ps_for PassesOwn.never rfl (pi_range1 rfl b_range (pa_cons (pv 1) pa_nil)) (pg_name (i := 6) sc_law_ways.nd rfl (by first | exact Or.inl rfl | exact Or.inr rfl)) (pss_one (ps_for PassesOwn.never rfl (pi_any (pv 2)) (pg_tup (n := 3) (by rfl) (pgs_cons (pg_name (i := 7) sc_law_ways.nd rfl (by first | exact Or.inl rfl | exact Or.inr rfl)) (pgs_cons (pg_name (i := 8) sc_law_ways.nd rfl (by first | exact Or.inl rfl | exact Or.inr rfl)) (pgs_cons (pg_name (i := 9) sc_law_ways.nd rfl (by first | exact Or.inl rfl | exact Or.inr rfl)) pgs_nil)))) (pss_one (ps_for PassesOwn.never rfl (pi_any (pe_lst (pa_cons (pe_tupN (pa_cons (pv 7) (pa_cons (pv 8) pa_nil))) (pa_cons (pe_tupN (pa_cons (pv 8) (pa_cons (pv 7) pa_nil))) pa_nil)))) (pg_tup (n := 2) (by rfl) (pgs_cons (pg_name (i := 10) sc_law_ways.nd rfl (by first | exact Or.inl rfl | exact Or.inr rfl)) (pgs_cons (pg_name (i := 11) sc_law_ways.nd rfl (by first | exact Or.inl rfl | exact Or.inr rfl)) pgs_nil))) (pss_one (ps_if (PW.pt (pw_and (pt_cmpR op_notN (pe_ix ix_seq (pv 5) (pv 10) (fun _ _ => rfl)) pe_non (nomark _)) (pw_and1 (PW.pt (pw_or (pt_cmpR op_isN (pe_ix ix_seq (pv 5) (pv 11) (fun _ _ => rfl)) pe_non (nomark _)) (pw_or1 (pt_cmpR op_lt (pe_op op_addA (pe_ix ix_seq (pv 5) (pv 10) (fun _ _ => rfl)) (pv 9)) (pe_ix ix_seq (pv 5) (pv 11) (fun _ _ => rfl)) (nomark _)))))))) (pss_one (ps_asg (pe_op op_addA (pe_ix ix_seq (pv 5) (pv 10) (fun _ _ => rfl)) (pv 9)) (pg_sub (pv 5) (pv 11) set_list))) pss_nil)))))))
    (pss_one (ps_expr (pe_bm PySem.F.plainAttrs_list PySem.F.slot_list_append PySem.F.type_list_append mt_append (pv 3) (pa_cons (pv 5) pa_nil))))))))
    (pss_one (ps_ret (pv 3)))))), body_T (A := (Int × (List (Int × Int × Int)))) (encs := fun a => [(E2 PyData.int (EL (E3 PyData.int PyData.int PyData.int))) a]) (L := fun a => L_law_ways a) (e := (EL (EL (EO PyData.int)))) (r := 2) (Wx := noX) (m := 12) (n := 1) (E1 := fun a => [some ((E2 PyData.int (EL (E3 PyData.int PyData.int PyData.int))) a, 0), none, none, none, none, none, none, none, none, none, none, none]) (fun a =>
    (s_seq (ρ1 := [some ((E2 PyData.int (EL (E3 PyData.int PyData.int PyData.int))) a, 0), some (PyData.int a.1, 2), some ((EL (E3 PyData.int PyData.int PyData.int)) a.2, 0), none, none, none, none, none, none, none, none, none]) (s_asgJ (vg_tup (vgs_cons (vg_name 1) (vgs_cons (vg_name 2) vgs_nil))) (p_varB (d := (E2 PyData.int (EL (E3 PyData.int PyData.int PyData.int))) a) (i := 0) (m := 0) rfl) (tj_T (tj_cons (tj_2 (e := PyData.int) (a := a.1) rfl rfl) (tj_cons (tj_0 rfl rfl) tj_nil)) rfl))
    (s_let fun law_rows h1 => (s_seq (ρ1 := [some ((E2 PyData.int (EL (E3 PyData.int PyData.int PyData.int))) a, 0), some (PyData.int a.1, 2), some ((EL (E3 PyData.int PyData.int PyData.int)) a.2, 0), some ((EL (EL (EO PyData.int))) law_rows, 2), none, none, none, none, none, none, none, none]) (s_set [] 3 (p_is (e := (EL (EL (EO PyData.int)))) h1 (p_lstM (ds := []) a_nil (Nat.le_of_ble_eq_true rfl))) rfl rfl)
    (s_bind fun l h2 => (s_seqO (s_forO' (wb := [3, 5, 6, 7, 8, 9, 10, 11]) (e := PyData.int) (xs := l) (f := (fun s x => L_law_ways_b4 a.1 a.2 s x)) (s0 := law_rows) (E := (fun (s : (List (List (Option Int)))) => [none, some (PyData.int a.1, 2), some ((EL (E3 PyData.int PyData.int PyData.int)) a.2, 0), some ((EL (EL (EO PyData.int))) s, 2), none, none, none, none, none, none, none, none])) (fun (s : (List (List (Option Int)))) x => [none, some (PyData.int a.1, 2), some ((EL (E3 PyData.int PyData.int PyData.int)) a.2, 0), some ((EL (EL (EO PyData.int))) s, 2), some (PyData.int x, 2), none, none, none, none, none, none, none]) (i_range1 (a_consF (p_var (e := PyData.int) (a := a.1) (i := 1) (m := 2) rfl) a_nil) h2) (vg_name 4) (l_flat (e := PyData.int) rfl (LessE.n (LessE.s (LessE.s (LessE.s (LessE.s (LessE.s (LessE.s (LessE.s (LessE.s (LessE.s (LessE.s (LessE.s LessE.nil))))))))))))) (fun s x => (tj_2 (e := PyData.int) (a := x) rfl rfl))
    (fun s x _ => VS.mono (s_bind fun l2 h3 => (s_seq (ρ1 := [none, some (PyData.int a.1, 2), some ((EL (E3 PyData.int PyData.int PyData.int)) a.2, 0), some ((EL (EL (EO PyData.int))) s, 2), some (PyData.int x, 2), some ((EL (EO PyData.int)) l2, 2), none, none, none, none, none, none]) (s_set [] 5 (p_rep (e := (EO PyData.int)) (xs := ([(none : (Option Int))] : (List (Option Int)))) (p_lstF (ds := [(EO PyData.int) (none : (Option Int))]) (a_consF p_non a_nil) (fl_cons (e := (EO PyData.int)) flatL_nil) (Nat.le_of_ble_eq_true rfl)) (p_var (e := PyData.int) (a := a.1) (i := 1) (m := 2) rfl) h3) rfl rfl)
    (s_bind fun law_row h4 => (s_seq (ρ1 := [none, some (PyData.int a.1, 2), some ((EL (E3 PyData.int PyData.int PyData.int)) a.2, 0), some ((EL (EL (EO PyData.int))) s, 2), some (PyData.int x, 2), some ((EL (EO PyData.int)) law_row, 2), none, none, none, none, none, none]) (s_idx [] 5 (e := (EO PyData.int)) (xs := l2) (x := (some (0 : Int))) p_int (p_var (e := PyData.int) (a := x) (i := 4) (m := 2) rfl) rfl (.inr rfl) rfl h4 rfl)
    (s_bind fun l3 h5 => (s_seqO (s_forO' (wb := [5, 7, 8, 9, 10, 11]) (e := PyData.int) (xs := l3) (f := (fun s2 x2 => L_law_ways_b3 a.2 s2 x2)) (s0 := law_row) (E := (fun (s2 : (List (Option Int))) => [none, some (PyData.int a.1, 2), some ((EL (E3 PyData.int PyData.int PyData.int)) a.2, 0), some ((EL (EL (EO PyData.int))) s, 2), none, some ((EL (EO PyData.int)) s2, 2), none, none, none, none, none, none])) (fun (s2 : (List (Option Int))) x2 => [none, some (PyData.int a.1, 2), some ((EL (E3 PyData.int PyData.int PyData.int)) a.2, 0), some ((EL (EL (EO PyData.int))) s, 2), none, some ((EL (EO PyData.int)) s2, 2), some (PyData.int x2, 2), none, none, none, none, none]) (i_range1 (a_consF (p_var (e := PyData.int) (a := a.1) (i := 1) (m := 2) rfl) a_nil) h5) (vg_name 6) (l_flat (e := PyData.int) rfl (LessE.s (LessE.s (LessE.s (LessE.s (LessE.n (LessE.s (LessE.s (LessE.s (LessE.s (LessE.s (LessE.s (LessE.s LessE.nil))))))))))))) (fun s2 x2 => (tj_2 (e := PyData.int) (a := x2) rfl rfl))
    (fun s2 x2 _ => VS.mono (s_lastO (s_forO' (wb := [5, 10, 11]) (e := (E3 PyData.int PyData.int PyData.int)) (xs := a.2) (f := (fun s3 x3 => L_law_ways_b2 s3 x3.1 x3.2.1 x3.2.2)) (s0 := s2) (E := (fun (s3 : (List (Option Int))) => [none, some (PyData.int a.1, 2), some ((EL (E3 PyData.int PyData.int PyData.int)) a.2, 0), some ((EL (EL (EO PyData.int))) s, 2), none, some ((EL (EO PyData.int)) s3, 2), none, none, none, none, none, none])) (fun (s3 : (List (Option Int))) x3 => [none, some (PyData.int a.1, 2), some ((EL (E3 PyData.int PyData.int PyData.int)) a.2, 0), some ((EL (EL (EO PyData.int))) s, 2), none, some ((EL (EO PyData.int)) s3, 2), none, some (PyData.int x3.1, 2), some (PyData.int x3.2.1, 2), some (PyData.int x3.2.2, 2), none, none]) (i_seq (e := (E3 PyData.int PyData.int PyData.int)) (xs := a.2) (p_varB (d := (EL (E3 PyData.int PyData.int PyData.int)) a.2) (i := 2) (m := 0) rfl) rfl) (vg_tup (vgs_cons (vg_name 7) (vgs_cons (vg_name 8) (vgs_cons (vg_name 9) vgs_nil)))) (l_flat (e := (E3 PyData.int PyData.int PyData.int)) rfl (LessE.s (LessE.s (LessE.s (LessE.s (LessE.s (LessE.s (LessE.n (LessE.s (LessE.s (LessE.s (LessE.s (LessE.s LessE.nil))))))))))))) (fun s3 x3 => (tj_T (tj_cons (tj_2 (e := PyData.int) (a := x3.1) rfl rfl) (tj_cons (tj_2 (e := PyData.int) (a := x3.2.1) rfl rfl) (tj_cons (tj_2 (e := PyData.int) (a := x3.2.2) rfl rfl) tj_nil))) rfl))
    (fun s3 x3 _ => VS.mono (s_lastO (s_forO' (wb := [5, 10]) (e := (E2 PyData.int PyData.int)) (xs := ([(x3.1, x3.2.1), (x3.2.1, x3.1)] : (List (Int × Int)))) (f := (fun s4 x4 => L_law_ways_b1 x3.2.2 s4 x4.1 x4.2)) (s0 := s3) (E := (fun (s4 : (List (Option Int))) => [none, some (PyData.int a.1, 2), some ((EL (E3 PyData.int PyData.int PyData.int)) a.2, 0), some ((EL (EL (EO PyData.int))) s, 2), none, some ((EL (EO PyData.int)) s4, 2), none, none, none, some (PyData.int x3.2.2, 2), none, none])) (fun (s4 : (List (Option Int))) x4 => [none, some (PyData.int a.1, 2), some ((EL (E3 PyData.int PyData.int PyData.int)) a.2, 0), some ((EL (EL (EO PyData.int))) s, 2), none, some ((EL (EO PyData.int)) s4, 2), none, none, none, some (PyData.int x3.2.2, 2), some (PyData.int x4.1, 2), some (PyData.int x4.2, 2)]) (i_seq (e := (E2 PyData.int PyData.int)) (xs := ([(x3.1, x3.2.1), (x3.2.1, x3.1)] : (List (Int × Int)))) (p_lstF (ds := [(E2 PyData.int PyData.int) (x3.1, x3.2.1), (E2 PyData.int PyData.int) (x3.2.1, x3.1)]) (a_consF (p_tupF (ds := [PyData.int x3.1, PyData.int x3.2.1]) (a_consF (p_var (e := PyData.int) (a := x3.1) (i := 7) (m := 2) rfl) (a_consF (p_var (e := PyData.int) (a := x3.2.1) (i := 8) (m := 2) rfl) a_nil)) (fl_cons (e := PyData.int) (fl_cons (e := PyData.int) flatL_nil)) (Nat.le_of_ble_eq_true rfl)) (a_consF (p_tupF (ds := [PyData.int x3.2.1, PyData.int x3.1]) (a_consF (p_var (e := PyData.int) (a := x3.2.1) (i := 8) (m := 2) rfl) (a_consF (p_var (e := PyData.int) (a := x3.1) (i := 7) (m := 2) rfl) a_nil)) (fl_cons (e := PyData.int) (fl_cons (e := PyData.int) flatL_nil)) (Nat.le_of_ble_eq_true rfl)) a_nil)) (fl_cons (e := (E2 PyData.int PyData.int)) (fl_cons (e := (E2 PyData.int PyData.int)) flatL_nil)) (Nat.le_of_ble_eq_true rfl)) rfl) (vg_tup (vgs_cons (vg_name 10) (vgs_cons (vg_name 11) vgs_nil))) (l_flat (e := (E2 PyData.int PyData.int)) rfl (LessE.s (LessE.s (LessE.s (LessE.s (LessE.s (LessE.s (LessE.s (LessE.n (LessE.n (LessE.s (LessE.s (LessE.s LessE.nil))))))))))))) (fun s4 x4 => (tj_T (tj_cons (tj_2 (e := PyData.int) (a := x4.1) rfl rfl) (tj_cons (tj_2 (e := PyData.int) (a := x4.2) rfl rfl) tj_nil)) rfl))
    (fun s4 x4 _ => VS.mono (s_bind fun x5 h6 => (s_bind fun b2 h13 => (s_if (tv_at h13 (c_and (t_val (p_notN (e := PyData.int) (o := x5) (p_ixF (d := (EO PyData.int) x5) (p_varM (d := (EL (EO PyData.int)) s4) (i := 5) rfl) (p_var (e := PyData.int) (a := x4.1) (i := 10) (m := 2) rfl) (ixL (e := (EO PyData.int)) h6) (Flat.flat (e := (EO PyData.int)) _)) p_non)) fun _ => (c_bind fun x6 h7 => (c_bind fun b h12 => (tv_at h12 (c_or (t_val (p_isN (e := PyData.int) (o := x6) (p_ixF (d := (EO PyData.int) x6) (p_varM (d := (EL (EO PyData.int)) s4) (i := 5) rfl) (p_var (e := PyData.int) (a := x4.2) (i := 11) (m := 2) rfl) (ixL (e := (EO PyData.int)) h7) (Flat.flat (e := (EO PyData.int)) _)) p_non)) fun _ => (c_bind fun x7 h8 => (c_bind fun v h9 => (c_bind fun x8 h10 => (c_bind fun v2 h11 => (t_val (p_opF vf_lt (p_add (p_unO h9 (p_ixF (d := (EO PyData.int) x7) (p_varM (d := (EL (EO PyData.int)) s4) (i := 5) rfl) (p_var (e := PyData.int) (a := x4.1) (i := 10) (m := 2) rfl) (ixL (e := (EO PyData.int)) h8) (Flat.flat (e := (EO PyData.int)) _))) (p_var (e := PyData.int) (a := x3.2.2) (i := 9) (m := 2) rfl)) (p_unO h11 (p_ixF (d := (EO PyData.int) x8) (p_varM (d := (EL (EO PyData.int)) s4) (i := 5) rfl) (p_var (e := PyData.int) (a := x4.2) (i := 11) (m := 2) rfl) (ixL (e := (EO PyData.int)) h10) (Flat.flat (e := (EO PyData.int)) _))) rfl)))))))))))) (fun _ => (s_bind fun x9 h14 => (s_bind fun v3 h15 => (s_bind fun law_row2 h16 => (s_out (s_idx [10] 5 (e := (EO PyData.int)) (xs := s4) (x := (some (v3 + x3.2.2))) (p_add (p_unO h15 (p_ixF (d := (EO PyData.int) x9) (p_varM (d := (EL (EO PyData.int)) s4) (i := 5) rfl) (p_var (e := PyData.int) (a := x4.1) (i := 10) (m := 2) rfl) (ixL (e := (EO PyData.int)) h14) (Flat.flat (e := (EO PyData.int)) _))) (p_var (e := PyData.int) (a := x3.2.2) (i := 9) (m := 2) rfl)) (p_var (e := PyData.int) (a := x4.2) (i := 11) (m := 2) rfl) rfl (.inr rfl) rfl h16 rfl) (LessE.s (LessE.s (LessE.s (LessE.s (LessE.s (LessE.s (LessE.s (LessE.s (LessE.s (LessE.s (LessE.n (LessE.n LessE.nil))))))))))))))))) (fun _ => (s_out s_next (LessE.s (LessE.s (LessE.s (LessE.s (LessE.s (LessE.s (LessE.s (LessE.s (LessE.s (LessE.s (LessE.n (LessE.n LessE.nil))))))))))))))))) (by decide))) (fun s5 => (LessE.s (LessE.s (LessE.s (LessE.s (LessE.s (LessE.s (LessE.s (LessE.s (LessE.s (LessE.n (LessE.s (LessE.s LessE.nil)))))))))))))) (by decide))) (fun s6 => (LessE.s (LessE.s (LessE.s (LessE.s (LessE.s (LessE.s (LessE.s (LessE.s (LessE.s (LessE.s (LessE.s (LessE.s LessE.nil)))))))))))))) (by decide))) (fun s7 => (s_bind fun law_rows2 h17 => (s_out (s_app [5] 3 (e := (EL (EO PyData.int))) (xs := s) (x := s7) (p_varM (d := (EL (EO PyData.int)) s7) (i := 5) rfl) rfl (.inr rfl) rfl h17 rfl) (LessE.s (LessE.s (LessE.s (LessE.s (LessE.s (LessE.s (LessE.s (LessE.s (LessE.s (LessE.s (LessE.s (LessE.s LessE.nil))))))))))))))))))))) (by decide))) (fun s8 => (s_ret (p_varM (d := (EL (EL (EO PyData.int))) s8) (i := 3) rfl) rfl)))))))) (fun a => (LessE.z LessE.refl)) h rfl (by decide)⟩), gx, F.kp, F.binds fun _ _ _ _ _ _ us hl => match us, hl with | [_], _ => rfl⟩
theorem sc_law_stands : FnScope ["_law_places", "_law_helpers", "_law_found", "_law_turn", "_law_longer", "_law_stand", "_law_place"] ["_law_places", "_law_helpers"] (defScope s_law_stands) := ⟨rfl, rfl, rfl, by decide +kernel, rfl, by decide +kernel, by decide +kernel⟩
theorem ok_law_stands {f : Addr} {fd : FuncData} (F : Fun K "_law_stands" "_law_stands" s_law_stands f fd) (gx : mg "_law_stands" = some (.ref f)) (b_range : mg "range" = none) (b_len : mg "len" = none) (b_sorted : mg "sorted" = none) : Clr P w K mg base "_law_stands" 1 2 R_law_stands :=
  ⟨f, fd, _, F.ok sc_law_stands (fun vs H Q E h => spR_len h) (fun cdv A outer s H vs Q E hr h => ⟨_, (pss_cons (ps_set (i := 2) sc_law_stands.nd rfl (by first | exact Or.inl rfl | exact Or.inr rfl) (pe_lst (pa_cons (pe_tupN pa_nil) pa_nil)))
    (pss_cons (ps_for PassesOwn.never rfl (pi_range1 rfl b_range (pa_cons (pv 1) pa_nil)) (pg_name (i := 3) sc_law_stands.nd rfl (by first | exact Or.inl rfl | exact Or.inr rfl)) (pss_cons (ps_set (i := 4) sc_law_stands.nd rfl (by first | exact Or.inl rfl | exact Or.inr rfl) (pe_lst pa_nil))
    (pss_cons (ps_for PassesOwn.never rfl (pi_any (pv 2)) (pg_name (i := 5) sc_law_stands.nd rfl (by first | exact Or.inl rfl | exact Or.inr rfl)) (pss_one (ps_for PassesOwn.never rfl (pi_range1 rfl b_range (pa_cons (pv 0) pa_nil)) (pg_name (i := 6) sc_law_stands.nd rfl (by first | exact Or.inl rfl | exact Or.inr rfl)) (pss_one (ps_if (PW.pt (pw_or (pt_cmpR (op_eqA hr.units) (pe_callB call_len (by rfl) b_len (by decide +kernel) (pa_cons (pv 5) pa_nil)) pe_int (nomark _)) (pw_or1 (pt_cmpR op_le (pe_ix ix_seq (pv 5) (pe_un un_neg pe_int) (fun _ _ => rfl)) (pv 6) (nomark _))))) (pss_one (ps_expr (pe_bm PySem.F.plainAttrs_list PySem.F.slot_list_append PySem.F.type_list_append mt_append (pv 4) (pa_cons (pe_op op_addA (pv 5) (pe_tupN (pa_cons (pv 6) pa_nil))) pa_nil)))) pss_nil)))))
    (pss_one (ps_set (i := 2) sc_law_stands.nd rfl (by first | exact Or.inl rfl | exact Or.inr rfl) (pv 4))))))
    (pss_one (ps_ret (pe_callB (cr_sortedD hr.units) (by rfl) b_sorted (by decide +kernel) (pa_cons (pv 2) pa_nil)))))), body_T (A := (Int × Int)) (encs := fun a => [PyData.int a.1, PyData.int a.2]) (L := fun a => L_law_stands a.1 a.2) (e := (EL (ET PyData.int))) (r := 2) (Wx := noX) (m := 7) (n := 2) (E1 := fun a => [some (PyData.int a.1, 2), some (PyData.int a.2, 2), none, none, none, none, none]) (fun a =>
    (s_let fun law_found h1 => (s_seq (ρ1 := [some (PyData.int a.1, 2), some (PyData.int a.2, 2), some ((EL (ET PyData.int)) law_found, 2), none, none, none, none]) (s_set [] 2 (p_is (e := (EL (ET PyData.int))) h1 (p_lstF (ds := [(ET PyData.int) ([] : (List Int))]) (a_consF (p_tupF (ds := []) a_nil flatL_nil (Nat.le_of_ble_eq_true rfl)) a_nil) (fl_cons (e := (ET PyData.int)) flatL_nil) (Nat.le_of_ble_eq_true rfl))) rfl rfl)
    (s_bind fun l h2 => (s_seqO (s_forO' (wb := [2, 4, 5, 6]) (e := PyData.int) (xs := l) (f := (fun s x => L_law_stands_b3 a.1 s x)) (s0 := law_found) (E := (fun (s : (List (List Int))) => [some (PyData.int a.1, 2), none, some ((EL (ET PyData.int)) s, 2), none, none, none, none])) (fun (s : (List (List Int))) x => [some (PyData.int a.1, 2), none, some ((EL (ET PyData.int)) s, 2), some (PyData.int x, 2), none, none, none]) (i_range1 (a_consF (p_var (e := PyData.int) (a := a.2) (i := 1) (m := 2) rfl) a_nil) h2) (vg_name 3) (l_flat (e := PyData.int) rfl (LessE.s (LessE.n (LessE.s (LessE.s (LessE.s (LessE.s (LessE.s LessE.nil)))))))) (fun s x => (tj_2 (e := PyData.int) (a := x) rfl rfl))
    (fun s x _ => VS.mono (s_let fun law_longer h3 => (s_seq (ρ1 := [some (PyData.int a.1, 2), none, some ((EL (ET PyData.int)) s, 2), some (PyData.int x, 2), some ((EL (ET PyData.int)) law_longer, 2), none, none]) (s_set [] 4 (p_is (e := (EL (ET PyData.int))) h3 (p_lstF (ds := []) a_nil flatL_nil (Nat.le_of_ble_eq_true rfl))) rfl rfl)
    (s_seqO (s_forO' (wb := [4, 6]) (e := (ET PyData.int)) (xs := s) (f := (fun s2 x2 => L_law_stands_b2 a.1 s2 x2)) (s0 := law_longer) (E := (fun (s2 : (List (List Int))) => [some (PyData.int a.1, 2), none, none, none, some ((EL (ET PyData.int)) s2, 2), none, none])) (fun (s2 : (List (List Int))) x2 => [some (PyData.int a.1, 2), none, none, none, some ((EL (ET PyData.int)) s2, 2), some ((ET PyData.int) x2, 2), none]) (i_seq (e := (ET PyData.int)) (xs := s) (p_varM (d := (EL (ET PyData.int)) s) (i := 2) rfl) rfl) (vg_name 5) (l_flat (e := (ET PyData.int)) rfl (LessE.s (LessE.s (LessE.n (LessE.n (LessE.s (LessE.s (LessE.s LessE.nil)))))))) (fun s2 x2 => (tj_2 (e := (ET PyData.int)) (a := x2) rfl rfl))
    (fun s2 x2 _ => VS.mono (s_bind fun l2 h4 => (s_lastO (s_forO' (wb := [4, 6]) (e := PyData.int) (xs := l2) (f := (fun s3 x3 => L_law_stands_b1 x2 s3 x3)) (s0 := s2) (E := (fun (s3 : (List (List Int))) => [some (PyData.int a.1, 2), none, none, none, some ((EL (ET PyData.int)) s3, 2), some ((ET PyData.int) x2, 2), none])) (fun (s3 : (List (List Int))) x3 => [some (PyData.int a.1, 2), none, none, none, some ((EL (ET PyData.int)) s3, 2), some ((ET PyData.int) x2, 2), some (PyData.int x3, 2)]) (i_range1 (a_consF (p_var (e := PyData.int) (a := a.1) (i := 0) (m := 2) rfl) a_nil) h4) (vg_name 6) (l_flat (e := PyData.int) rfl (LessE.s (LessE.s (LessE.s (LessE.s (LessE.s (LessE.s (LessE.s LessE.nil)))))))) (fun s3 x3 => (tj_2 (e := PyData.int) (a := x3) rfl rfl))
    (fun s3 x3 _ => VS.mono (s_bind fun b h6 => (s_if (tv_at h6 (c_or (t_val (p_eq (e := PyData.int) (a := (x2.length : Int)) (b := (0 : Int)) (p_cb vf_len (a_consF (p_var (e := (ET PyData.int)) (a := x2) (i := 5) (m := 2) rfl) a_nil) lenT) p_int (by decide))) fun _ => (c_bind fun x4 h5 => (t_val (p_opF vf_le (p_ixF (d := PyData.int x4) (p_var (e := (ET PyData.int)) (a := x2) (i := 5) (m := 2) rfl) (p_neg p_int) (ixT (e := PyData.int) h5) (Flat.flat (e := PyData.int) _)) (p_var (e := PyData.int) (a := x3) (i := 6) (m := 2) rfl) rfl))))) (fun _ => (s_bind fun l3 h7 => (s_bind fun law_longer2 h8 => (s_out (s_app [6] 4 (e := (ET PyData.int)) (xs := s3) (x := l3) (p_catTF (e := PyData.int) (xs := x2) (ys := ([x3] : (List Int))) (p_var (e := (ET PyData.int)) (a := x2) (i := 5) (m := 2) rfl) (p_tupF (ds := [PyData.int x3]) (a_consF (p_var (e := PyData.int) (a := x3) (i := 6) (m := 2) rfl) a_nil) (fl_cons (e := PyData.int) flatL_nil) (Nat.le_of_ble_eq_true rfl)) h7) rfl (.inr rfl) rfl h8 rfl) (LessE.s (LessE.s (LessE.s (LessE.s (LessE.s (LessE.s (LessE.n LessE.nil))))))))))) (fun _ => (s_out s_next (LessE.s (LessE.s (LessE.s (LessE.s (LessE.s (LessE.s (LessE.n LessE.nil))))))))))) (by decide))) (fun s4 => (LessE.s (LessE.s (LessE.s (LessE.s (LessE.s (LessE.n (LessE.s LessE.nil)))))))))) (by decide))) (fun s5 => (s_out (s_set [4] 2 (p_varM (d := (EL (ET PyData.int)) s5) (i := 4) rfl) rfl rfl) (LessE.s (LessE.s (LessE.s (LessE.s (LessE.s (LessE.s (LessE.s LessE.nil)))))))))))) (by decide))) (fun s6 => (s_bind fun l4 h9 => (s_ret (p_sortL (e := (ET PyData.int)) (xs := s6) (a_consM (p_varM (d := (EL (ET PyData.int)) s6) (i := 2) rfl) a_nil rfl) h9 (by decide)) rfl)))))))) (fun a => (LessE.f2 (e := PyData.int) (LessE.f2 (e := PyData.int) LessE.refl))) h rfl (by decide)⟩), gx, F.kp, F.binds fun _ _ _ _ _ _ us hl => match us, hl with | [_, _], _ => rfl⟩
theorem sc_law_orders : FnScope ["_law_stand", "_law_found", "_law_k", "_law_rest"] ["_law_stand"] (defScope s_law_orders) := ⟨rfl, rfl, rfl, by decide +kernel, rfl, by decide +kernel, by decide +kernel⟩
theorem ok_law_orders {f : Addr} {fd : FuncData} (F : Fun K "_law_orders" "_law_orders" s_law_orders f fd) (gx : mg "_law_orders" = some (.ref f)) (b_len : mg "len" = none) (b_list : mg "list" = none) (b_range : mg "range" = none) : ∀ n_ : Nat, Clr P w K mg base "_law_orders" (1 + n_) 1 (RelT (fun (a : (List Int)) => [(ET PyData.int) a]) (fun a => L_law_orders n_ a) (EL (EL PyData.int)) 0) := by
  intro n_
  induction n_ with
  | zero => exact ⟨f, fd, _, F.ok (k := 0) sc_law_orders (fun vs H Q E h => spR_len h) (fun cdv A outer s H vs Q E hr h => (spR_none h fun _ => rfl).elim), gx, F.kp, F.binds fun _ _ _ _ _ _ us hl => match us, hl with | [_], _ => rfl⟩
  | succ n_ c_law_orders => exact ⟨f, fd, _, F.ok (k := 1 + n_) sc_law_orders (fun vs H Q E h => spR_len h) (fun cdv A outer s H vs Q E hr h => ⟨_, (pss_cons (ps_if (pt_cmpR op_lt (pe_callB call_len (by rfl) b_len (by decide +kernel) (pa_cons (pv 0) pa_nil)) pe_int (nomark _)) (pss_one (ps_ret (pe_lst (pa_cons (pe_callTy call_list_of (by rfl) b_list (by decide +kernel) (pa_cons (pv 0) pa_nil)) pa_nil)))) pss_nil)
    (pss_cons (ps_set (i := 1) sc_law_orders.nd rfl (by first | exact Or.inl rfl | exact Or.inr rfl) (pe_lst pa_nil))
    (pss_cons (ps_for PassesOwn.never rfl (pi_range1 rfl b_range (pa_cons (pe_callB call_len (by rfl) b_len (by decide +kernel) (pa_cons (pv 0) pa_nil)) pa_nil)) (pg_name (i := 2) sc_law_orders.nd rfl (by first | exact Or.inl rfl | exact Or.inr rfl)) (pss_one (ps_set (i := 1) sc_law_orders.nd rfl (by first | exact Or.inl rfl | exact Or.inr rfl) (pe_op op_addA (pv 1) (pe_lc (own := [("_law_rest", 3)]) rfl sc_law_orders.nd (pi_any (pe_callR c_law_orders hr (by omega) (pa_cons (pe_op op_addA (pe_slice sl_any (pv 0) po_none (po_some (pv 2))) (pe_slice sl_any (pv 0) (po_some (pe_op op_addA (pv 2) pe_int)) po_none)) pa_nil))) (blkOk_by (by kernel_rfl)) (fun _ _ _ _ _ => (pg_name (i := 3) sc_law_orders.nd rfl (by first | exact Or.inl rfl | exact Or.inr rfl))) (fun _ _ _ _ _ => pts_nil) (fun _ _ _ _ _ => (pe_op op_addA (pe_lst (pa_cons (pe_ix ix_seq (pv 0) (pv 2) (fun _ _ => rfl)) pa_nil)) (pv 3))))))))
    (pss_one (ps_ret (pv 1)))))), body_T (A := (List Int)) (encs := fun a => [(ET PyData.int) a]) (L := fun a => L_law_orders (n_ + 1) a) (e := (EL (EL PyData.int))) (r := 0) (Wx := noX) (m := 4) (n := 1) (E1 := fun a => [some ((ET PyData.int) a, 2), none, none, none]) (fun a =>
    (s_ifX (t_val (p_opF vf_lt (p_cb vf_len (a_consF (p_var (e := (ET PyData.int)) (a := a) (i := 0) (m := 2) rfl) a_nil) lenT) p_int rfl)) (fun _ => (s_ret0 (p_lstM (ds := [(EL PyData.int) a]) (a_consM (p_listF (e := PyData.int) (xs := a) (a_consF (p_var (e := (ET PyData.int)) (a := a) (i := 0) (m := 2) rfl) a_nil) rfl) a_nil rfl) (Nat.le_of_ble_eq_true rfl)))) nb_rt (fun _ => s_skip (s_let fun law_found h1 => (s_seq (ρ1 := [some ((ET PyData.int) a, 2), some ((EL (EL PyData.int)) law_found, 2), none, none]) (s_set [] 1 (p_is (e := (EL (EL PyData.int))) h1 (p_lstM (ds := []) a_nil (Nat.le_of_ble_eq_true rfl))) rfl rfl)
    (s_bind fun l h2 => (s_seqO (s_forO' (wb := [1, 2]) (e := PyData.int) (xs := l) (f := (fun s x => L_law_orders_b1 (L_law_orders n_) a s x)) (s0 := law_found) (E := (fun (s : (List (List Int))) => [some ((ET PyData.int) a, 2), some ((EL (EL PyData.int)) s, 0), none, none])) (fun (s : (List (List Int))) x => [some ((ET PyData.int) a, 2), some ((EL (EL PyData.int)) s, 0), some (PyData.int x, 2), none]) (i_range1 (a_consF (p_cb vf_len (a_consF (p_var (e := (ET PyData.int)) (a := a) (i := 0) (m := 2) rfl) a_nil) lenT) a_nil) h2) (vg_name 2) (l_flat (e := PyData.int) rfl (LessE.s (LessE.z (LessE.s (LessE.s LessE.nil))))) (fun s x => (tj_2 (e := PyData.int) (a := x) rfl rfl))
    (fun s x _ => VS.mono (s_bind fun l2 h3 => (s_bind fun r h4 => (s_bind fun u h7 => (s_bind fun l4 h8 => (s_bind fun l5 h9 => (s_out (s_set [2] 1 (p_catS (e := (EL PyData.int)) (xs := s) (ys := l4) [1] (p_varB (d := (EL (EL PyData.int)) s) (i := 1) (m := 0) rfl) (q_lcM (e := (EL PyData.int)) (xs := r) (e' := (EL PyData.int)) (c := fun _ => some true) (f := fun x2 => (atI a x).bind fun x3 => (catO ([x3] : (List Int)) x2).bind fun l3 => some l3) (fun x2 => [some ((ET PyData.int) a, 0), some ((EL (EL PyData.int)) s, 0), some (PyData.int x, 0), some ((EL PyData.int) x2, 0)]) (i_seq (e := (EL PyData.int)) (xs := r) (p_call0 (e := (EL (EL PyData.int))) (L := fun (a : (List Int)) => (L_law_orders n_) a) (a := l2) [] h4 (a_consF (p_catTF (e := PyData.int) (xs := (cutI a none (some x))) (ys := (cutI a (some (x + (1 : Int))) none)) (p_slTF (e := PyData.int) (xs := a) (p_var (e := (ET PyData.int)) (a := a) (i := 0) (m := 2) rfl) o_no (o_part (p_var (e := PyData.int) (a := x) (i := 2) (m := 2) rfl))) (p_slTF (e := PyData.int) (xs := a) (p_var (e := (ET PyData.int)) (a := a) (i := 0) (m := 2) rfl) (o_part (p_add (p_var (e := PyData.int) (a := x) (i := 2) (m := 2) rfl) p_int)) o_no) h3) a_nil) rfl rfl rfl) rfl) (vg_name 3) (fun x2 => (tj_0 rfl rfl)) (fun x2 _ => t_yes) (fun x2 _ => (ev_bind fun x3 h5 => (ev_bind fun l3 h6 => (p_catF (e := PyData.int) (xs := ([x3] : (List Int))) (ys := x2) (p_lstF (ds := [PyData.int x3]) (a_consF (p_ixF (d := PyData.int x3) (p_var (e := (ET PyData.int)) (a := a) (i := 0) (m := 0) rfl) (p_var (e := PyData.int) (a := x) (i := 2) (m := 0) rfl) (ixT (e := PyData.int) h5) (Flat.flat (e := PyData.int) _)) a_nil) (fl_cons (e := PyData.int) flatL_nil) (Nat.le_of_ble_eq_true rfl)) (p_varB (d := (EL PyData.int) x2) (i := 3) (m := 0) rfl) h6)))) h7 (filO_yes.trans h8) (by decide)) h9 rfl) rfl rfl) (LessE.s (LessE.z (LessE.n (LessE.s LessE.nil)))))))))) (by decide))) (fun s2 => (s_ret (p_varB (d := (EL (EL PyData.int)) s2) (i := 1) (m := 0) rfl) rfl))))))))) (fun a => (LessE.f2 (e := (ET PyData.int)) LessE.refl)) h rfl (by decide)⟩), gx, F.kp, F.binds fun _ _ _ _ _ _ us hl => match us, hl with | [_], _ => rfl⟩
theorem sc_law_move : FnScope ["_law_rows", "_law_first", "_law_second", "_law_reach", "_law_least", "_law_order", "_law_steps", "_law_k", "_law_step"] ["_law_rows", "_law_first", "_law_second", "_law_reach"] (defScope s_law_move) := ⟨rfl, rfl, rfl, by decide +kernel, rfl, by decide +kernel, by decide +kernel⟩
theorem ok_law_move {f : Addr} {fd : FuncData} (F : Fun K "_law_move" "_law_move" s_law_move f fd) (gx : mg "_law_move" = some (.ref f)) (b_range : mg "range" = none) (b_len : mg "len" = none) (b_all : mg "all" = none) (b_sum : mg "sum" = none) (c_law_orders : Clr P w K mg base "_law_orders" 7 1 R_law_orders) : Clr P w K mg base "_law_move" 8 4 R_law_move :=
  ⟨f, fd, _, F.ok sc_law_move (fun vs H Q E h => spR_len h) (fun cdv A outer s H vs Q E hr h => ⟨_, (pss_cons (ps_set (i := 4) sc_law_move.nd rfl (by first | exact Or.inl rfl | exact Or.inr rfl) pe_non)
    (pss_cons (ps_for PassesOwn.never rfl (pi_any (pe_callR c_law_orders hr (by decide) (pa_cons (pv 2) pa_nil))) (pg_name (i := 5) sc_law_move.nd rfl (by first | exact Or.inl rfl | exact Or.inr rfl)) (pss_cons (ps_setLc (i := 6) (own := [("_law_k", 7)]) rfl sc_law_move.nd rfl rfl (sw_true rfl rfl rfl (by decide +kernel)) (pi_range1 rfl b_range (pa_cons (pe_callB call_len (by rfl) b_len (by decide +kernel) (pa_cons (pv 1) pa_nil)) pa_nil)) (blkOk_by (by kernel_rfl)) (fun _ _ _ _ _ => (pg_name (i := 7) sc_law_move.nd rfl (by first | exact Or.inl rfl | exact Or.inr rfl))) (fun _ _ _ _ _ => pts_nil) (fun _ _ _ _ _ => (pe_ix ix_seq (pe_ix ix_seq (pv 0) (pe_ix ix_seq (pv 1) (pv 7) (fun _ _ => rfl)) (fun _ _ => rfl)) (pe_ix ix_seq (pv 5) (pv 7) (fun _ _ => rfl)) (fun _ _ => rfl))))
    (pss_one (ps_if (pt_truth (pe_callB (cr_all rfl) (by rfl) b_all (by decide +kernel) (pa_cons (pe_lc (own := [("_law_step", 8)]) rfl sc_law_move.nd (pi_any (pv 6)) (blkOk_by (by kernel_rfl)) (fun _ _ _ _ _ => (pg_name (i := 8) sc_law_move.nd rfl (by first | exact Or.inl rfl | exact Or.inr rfl))) (fun _ _ _ _ _ => pts_nil) (fun _ _ _ _ _ => (pe_and (pe_cmpR op_notN (pv 8) pe_non (nomark _)) (pe_one (pe_cmpR op_le (pv 8) (pv 3) (nomark _)))))) pa_nil)) (by intro _; rfl)) (pss_one (ps_if (PW.pt (pw_or (pt_cmpR op_isN (pv 4) pe_non (nomark _)) (pw_or1 (pt_cmpR op_lt (pe_callB (cr_sum rfl) (by rfl) b_sum (by decide +kernel) (pa_cons (pv 6) pa_nil)) (pv 4) (nomark _))))) (pss_one (ps_set (i := 4) sc_law_move.nd rfl (by first | exact Or.inl rfl | exact Or.inr rfl) (pe_callB (cr_sum rfl) (by rfl) b_sum (by decide +kernel) (pa_cons (pv 6) pa_nil)))) pss_nil)) pss_nil))))
    (pss_one (ps_ret (pv 4))))), body_T (A := ((List (List (Option Int))) × (List Int) × (List Int) × Int)) (encs := fun a => [(EL (EL (EO PyData.int))) a.1, (ET PyData.int) a.2.1, (ET PyData.int) a.2.2.1, PyData.int a.2.2.2]) (L := fun a => L_law_move a.1 a.2.1 a.2.2.1 a.2.2.2) (e := (EO PyData.int)) (r := 2) (Wx := noX) (m := 9) (n := 4) (E1 := fun a => [some ((EL (EL (EO PyData.int))) a.1, 0), some ((ET PyData.int) a.2.1, 2), some ((ET PyData.int) a.2.2.1, 2), some (PyData.int a.2.2.2, 2), none, none, none, none, none]) (fun a =>
    (s_let fun law_least h1 => (s_seq (ρ1 := [some ((EL (EL (EO PyData.int))) a.1, 0), some ((ET PyData.int) a.2.1, 2), some ((ET PyData.int) a.2.2.1, 2), some (PyData.int a.2.2.2, 2), some ((EO PyData.int) law_least, 2), none, none, none, none]) (s_set [] 4 (p_is (e := (EO PyData.int)) h1 p_non) rfl rfl)
    (s_bind fun r h2 => (s_seqO (s_forO' (wb := [4, 5, 6]) (e := (EL PyData.int)) (xs := r) (f := (fun s x => L_law_move_b1 a.1 a.2.1 a.2.2.2 s x)) (s0 := law_least) (E := (fun (s : (Option Int)) => [some ((EL (EL (EO PyData.int))) a.1, 0), some ((ET PyData.int) a.2.1, 2), none, some (PyData.int a.2.2.2, 2), some ((EO PyData.int) s, 2), none, none, none, none])) (fun (s : (Option Int)) x => [some ((EL (EL (EO PyData.int))) a.1, 0), some ((ET PyData.int) a.2.1, 2), none, some (PyData.int a.2.2.2, 2), some ((EO PyData.int) s, 2), some ((EL PyData.int) x, 0), none, none, none]) (i_seq (e := (EL PyData.int)) (xs := r) (p_call0 (e := (EL (EL PyData.int))) (L := fun (a : (List Int)) => L_law_orders 6 a) (a := a.2.2.1) [] h2 (a_consF (p_var (e := (ET PyData.int)) (a := a.2.2.1) (i := 2) (m := 2) rfl) a_nil) rfl rfl rfl) rfl) (vg_name 5) (l_dem (LessE.s (LessE.s (LessE.n (LessE.s (LessE.s (LessE.s (LessE.s (LessE.s (LessE.s LessE.nil)))))))))) (fun s x => (tj_0 rfl rfl))
    (fun s x _ => VS.mono (s_bind fun l h3 => (s_bind fun u h8 => (s_bind fun l2 h9 => (s_seq (ρ1 := [some ((EL (EL (EO PyData.int))) a.1, 0), some ((ET PyData.int) a.2.1, 2), none, some (PyData.int a.2.2.2, 2), some ((EO PyData.int) s, 2), some ((EL PyData.int) x, 0), some ((EL (EO PyData.int)) l2, 2), none, none]) (s_set [5] 6 (q_lcF (e := PyData.int) (xs := l) (e' := (EO PyData.int)) (c := fun _ => some true) (f := fun x2 => (atI a.2.1 x2).bind fun x3 => (atI a.1 x3).bind fun x4 => (atI x x2).bind fun x5 => (atI x4 x5).bind fun x6 => some x6) (fun x2 => [some ((EL (EL (EO PyData.int))) a.1, 0), some ((ET PyData.int) a.2.1, 0), none, some (PyData.int a.2.2.2, 0), some ((EO PyData.int) s, 0), some ((EL PyData.int) x, 0), none, some (PyData.int x2, 2), none]) (i_range1 (a_consF (p_cb vf_len (a_consF (p_var (e := (ET PyData.int)) (a := a.2.1) (i := 1) (m := 2) rfl) a_nil) lenT) a_nil) h3) (vg_name 7) (fun x2 => (tj_2 (e := PyData.int) (a := x2) rfl rfl)) (fun x2 _ => t_yes) (fun x2 _ => (ev_bind fun x3 h4 => (ev_bind fun x4 h5 => (ev_bind fun x5 h6 => (ev_bind fun x6 h7 => (p_ixF (d := (EO PyData.int) x6) (p_ixB (d := (EL (EO PyData.int)) x4) [0] (p_varB (d := (EL (EL (EO PyData.int))) a.1) (i := 0) (m := 0) rfl) (p_ixF (d := PyData.int x3) (p_var (e := (ET PyData.int)) (a := a.2.1) (i := 1) (m := 0) rfl) (p_var (e := PyData.int) (a := x2) (i := 7) (m := 2) rfl) (ixT (e := PyData.int) h4) (Flat.flat (e := PyData.int) _)) (ixL (e := (EL (EO PyData.int))) h5) rfl) (p_ixF (d := PyData.int x5) (p_varB (d := (EL PyData.int) x) (i := 5) (m := 0) rfl) (p_var (e := PyData.int) (a := x2) (i := 7) (m := 2) rfl) (ixL (e := PyData.int) h6) (Flat.flat (e := PyData.int) _)) (ixL (e := (EO PyData.int)) h7) (Flat.flat (e := (EO PyData.int)) _))))))) h8 (filO_yes.trans h9) (by decide)) rfl rfl)
    (s_bind fun u2 h12 => (s_bind fun l3 h13 => (s_if (t_tru (p_cb vf_all (a_consM (q_lcF (e := (EO PyData.int)) (xs := l2) (e' := PyData.bool) (c := fun _ => some true) (f := fun x7 => (if x7.isSome = true then (x7).bind fun v => some (decide (v ≤ a.2.2.2)) else some false).bind fun b => some b) (fun x7 => [some ((EL (EL (EO PyData.int))) a.1, 0), some ((ET PyData.int) a.2.1, 0), none, some (PyData.int a.2.2.2, 0), some ((EO PyData.int) s, 0), some ((EL PyData.int) x, 0), some ((EL (EO PyData.int)) l2, 0), none, some ((EO PyData.int) x7, 2)]) (i_seq (e := (EO PyData.int)) (xs := l2) (p_varM (d := (EL (EO PyData.int)) l2) (i := 6) rfl) rfl) (vg_name 8) (fun x7 => (tj_2 (e := (EO PyData.int)) (a := x7) rfl rfl)) (fun x7 _ => t_yes) (fun x7 _ => (ev_bind fun b h11 => (ev_at (e := PyData.bool) h11 (e_andV (p_notN (e := PyData.int) (o := x7) (p_var (e := (EO PyData.int)) (a := x7) (i := 8) (m := 2) rfl) p_non) fun _ => (ev_bind fun v h10 => (p_opF vf_le (p_unO h10 (p_var (e := (EO PyData.int)) (a := x7) (i := 8) (m := 2) rfl)) (p_var (e := PyData.int) (a := a.2.2.2) (i := 3) (m := 0) rfl) rfl)))))) h12 (filO_yes.trans h13) (by decide)) a_nil rfl) allL) rfl) (fun _ => (s_bind fun b2 h16 => (s_if (tv_at h16 (c_or (t_val (p_isN (e := PyData.int) (o := s) (p_var (e := (EO PyData.int)) (a := s) (i := 4) (m := 2) rfl) p_non)) fun _ => (c_bind fun l4 h14 => (c_bind fun v2 h15 => (t_val (p_opF vf_lt (p_cb vf_sum (a_consM (p_unL (e := PyData.int) h14 (p_varM (d := (EL (EO PyData.int)) l2) (i := 6) rfl)) a_nil rfl) sumL) (p_unO h15 (p_var (e := (EO PyData.int)) (a := s) (i := 4) (m := 2) rfl)) rfl)))))) (fun _ => (s_bind fun l5 h17 => (s_let fun law_least2 h18 => (s_out (s_set [6] 4 (p_is (e := (EO PyData.int)) h18 (p_cb vf_sum (a_consM (p_unL (e := PyData.int) h17 (p_varM (d := (EL (EO PyData.int)) l2) (i := 6) rfl)) a_nil rfl) sumL)) rfl rfl) (LessE.s (LessE.s (LessE.s (LessE.s (LessE.s (LessE.n (LessE.n (LessE.s (LessE.s LessE.nil))))))))))))) (fun _ => (s_out s_next (LessE.s (LessE.s (LessE.s (LessE.s (LessE.s (LessE.n (LessE.n (LessE.s (LessE.s LessE.nil)))))))))))))) (fun _ => (s_out s_next (LessE.s (LessE.s (LessE.s (LessE.s (LessE.s (LessE.n (LessE.n (LessE.s (LessE.s LessE.nil)))))))))))))))))) (by decide))) (fun s2 => (s_ret (p_var (e := (EO PyData.int)) (a := s2) (i := 4) (m := 2) rfl) rfl))))))) (fun a => (LessE.z (LessE.f2 (e := (ET PyData.int)) (LessE.f2 (e := (ET PyData.int)) (LessE.f2 (e := PyData.int) LessE.refl))))) h rfl (by decide)⟩), gx, F.kp, F.binds fun _ _ _ _ _ _ us hl => match us, hl with | [_, _, _, _], _ => rfl⟩
theorem sc_law_answers : FnScope ["_law_rows", "_law_stand", "_law_call", "_law_rule", "_law_reach", "_law_found", "_law_other", "_law_length", "_law_k", "_law_step", "_law_behind"] ["_law_rows", "_law_stand", "_law_call", "_law_rule", "_law_reach"] (defScope s_law_answers) := ⟨rfl, rfl, rfl, by decide +kernel, rfl, by decide +kernel, by decide +kernel⟩
theorem ok_law_answers {f : Addr} {fd : FuncData} (F : Fun K "_law_answers" "_law_answers" s_law_answers f fd) (gx : mg "_law_answers" = some (.ref f)) (b_len : mg "len" = none) (b_range : mg "range" = none) (b_tuple : mg "tuple" = none) (b_sorted : mg "sorted" = none) (c_law_stands : Clr P w K mg base "_law_stands" 1 2 R_law_stands) (c_law_move : Clr P w K mg base "_law_move" 8 4 R_law_move) : Clr P w K mg base "_law_answers" 9 5 R_law_answers :=
  ⟨f, fd, _, F.ok sc_law_answers (fun vs H Q E h => spR_len h) (fun cdv A outer s H vs Q E hr h => ⟨_, (pss_cons (ps_if (PW.pt (pw_and (pt_cmpR (op_eqA hr.units) (pv 3) pe_str (nomark _)) (pw_and1 (pt_cmpR (op_inA (room65 hr)) (pv 2) (pv 1) (by rfl))))) (pss_one (ps_ret (pe_lst (pa_cons (pe_tupN (pa_cons (pv 1) (pa_cons pe_int pa_nil))) pa_nil)))) pss_nil)
    (pss_cons (ps_set (i := 5) sc_law_answers.nd rfl (by first | exact Or.inl rfl | exact Or.inr rfl) (pe_lst pa_nil))
    (pss_cons (ps_for PassesOwn.never rfl (pi_any (pe_callR c_law_stands hr (by decide) (pa_cons (pe_callB call_len (by rfl) b_len (by decide +kernel) (pa_cons (pv 0) pa_nil)) (pa_cons (pe_callB call_len (by rfl) b_len (by decide +kernel) (pa_cons (pv 1) pa_nil)) pa_nil)))) (pg_name (i := 6) sc_law_answers.nd rfl (by first | exact Or.inl rfl | exact Or.inr rfl)) (pss_one (ps_if (pt_cmpR (op_inA (room65 hr)) (pv 2) (pv 6) (by rfl)) (pss_one (ps_if (pt_cmpR (op_eqA hr.units) (pv 3) pe_str (nomark _)) (pss_cons (ps_set (i := 7) sc_law_answers.nd rfl (by first | exact Or.inl rfl | exact Or.inr rfl) (pe_callR c_law_move hr (by decide) (pa_cons (pv 0) (pa_cons (pv 1) (pa_cons (pv 6) (pa_cons (pv 4) pa_nil))))))
    (pss_one (ps_if (pt_cmpR op_notN (pv 7) pe_non (nomark _)) (pss_one (ps_expr (pe_bm PySem.F.plainAttrs_list PySem.F.slot_list_append PySem.F.type_list_append mt_append (pv 5) (pa_cons (pe_tupN (pa_cons (pv 6) (pa_cons (pv 7) pa_nil))) pa_nil)))) pss_nil))) (pss_one (ps_for PassesOwn.never rfl (pi_range1 rfl b_range (pa_cons (pe_callB call_len (by rfl) b_len (by decide +kernel) (pa_cons (pv 1) pa_nil)) pa_nil)) (pg_name (i := 8) sc_law_answers.nd rfl (by first | exact Or.inl rfl | exact Or.inr rfl)) (pss_cons (ps_set (i := 9) sc_law_answers.nd rfl (by first | exact Or.inl rfl | exact Or.inr rfl) (pe_ix ix_seq (pe_ix ix_seq (pv 0) (pe_ix ix_seq (pv 1) (pv 8) (fun _ _ => rfl)) (fun _ _ => rfl)) (pv 2) (fun _ _ => rfl)))
    (pss_cons (ps_set (i := 10) sc_law_answers.nd rfl (by first | exact Or.inl rfl | exact Or.inr rfl) (pe_callTy call_tuple_ofN (by rfl) b_tuple (by decide +kernel) (pa_cons (pe_callB (cr_sortedD hr.units) (by rfl) b_sorted (by decide +kernel) (pa_cons (pe_op op_addA (pe_op op_addA (pe_slice sl_any (pv 1) po_none (po_some (pv 8))) (pe_slice sl_any (pv 1) (po_some (pe_op op_addA (pv 8) pe_int)) po_none)) (pe_tupN (pa_cons (pv 2) pa_nil))) pa_nil)) pa_nil)))
    (pss_one (ps_if (PW.pt (pw_and (pt_cmpR (op_eqA hr.units) (pv 10) (pv 6) (nomark _)) (pw_and (pt_cmpR op_notN (pv 9) pe_non (nomark _)) (pw_and (pt_cmpR op_le (pv 9) (pv 4) (nomark _)) (pw_and1 (pt_cmpR (op_notInA (room65 hr)) (pe_tupN (pa_cons (pv 6) (pa_cons (pv 9) pa_nil))) (pv 5) (by rfl))))))) (pss_one (ps_expr (pe_bm PySem.F.plainAttrs_list PySem.F.slot_list_append PySem.F.type_list_append mt_append (pv 5) (pa_cons (pe_tupN (pa_cons (pv 6) (pa_cons (pv 9) pa_nil))) pa_nil)))) pss_nil)))))))) pss_nil)))
    (pss_one (ps_ret (pv 5)))))), body_T (A := ((List (List (Option Int))) × (List Int) × Int × Str × Int)) (encs := fun a => [(EL (EL (EO PyData.int))) a.1, (ET PyData.int) a.2.1, PyData.int a.2.2.1, PyData.str a.2.2.2.1, PyData.int a.2.2.2.2]) (L := fun a => L_law_answers a.1 a.2.1 a.2.2.1 a.2.2.2.1 a.2.2.2.2) (e := (EL (E2 (ET PyData.int) PyData.int))) (r := 2) (Wx := noX) (m := 11) (n := 5) (E1 := fun a => [some ((EL (EL (EO PyData.int))) a.1, 0), some ((ET PyData.int) a.2.1, 2), some (PyData.int a.2.2.1, 2), some (PyData.str a.2.2.2.1, 2), some (PyData.int a.2.2.2.2, 2), none, none, none, none, none, none]) (fun a =>
    (s_ifX (t_and (t_val (p_eqS (p_var (e := PyData.str) (a := a.2.2.2.1) (i := 3) (m := 2) rfl) p_str)) fun _ => (t_val (p_inT (x := a.2.2.1) (xs := a.2.1) (p_var (e := PyData.int) (a := a.2.2.1) (i := 2) (m := 2) rfl) (p_var (e := (ET PyData.int)) (a := a.2.1) (i := 1) (m := 2) rfl)))) (fun _ => (s_ret (p_lstF (ds := [(E2 (ET PyData.int) PyData.int) (a.2.1, (0 : Int))]) (a_consF (p_tupF (ds := [(ET PyData.int) a.2.1, PyData.int (0 : Int)]) (a_consF (p_var (e := (ET PyData.int)) (a := a.2.1) (i := 1) (m := 2) rfl) (a_consF p_int a_nil)) (fl_cons (e := (ET PyData.int)) (fl_cons (e := PyData.int) flatL_nil)) (Nat.le_of_ble_eq_true rfl)) a_nil) (fl_cons (e := (E2 (ET PyData.int) PyData.int)) flatL_nil) (Nat.le_of_ble_eq_true rfl)) rfl)) nb_rt (fun _ => s_skip (s_let fun law_found h1 => (s_seq (ρ1 := [some ((EL (EL (EO PyData.int))) a.1, 0), some ((ET PyData.int) a.2.1, 2), some (PyData.int a.2.2.1, 2), some (PyData.str a.2.2.2.1, 2), some (PyData.int a.2.2.2.2, 2), some ((EL (E2 (ET PyData.int) PyData.int)) law_found, 2), none, none, none, none, none]) (s_set [] 5 (p_is (e := (EL (E2 (ET PyData.int) PyData.int))) h1 (p_lstF (ds := []) a_nil flatL_nil (Nat.le_of_ble_eq_true rfl))) rfl rfl)
    (s_bind fun r h2 => (s_seqO (s_forO' (wb := [5, 6, 7, 8, 9, 10]) (e := (ET PyData.int)) (xs := r) (f := (fun s x => L_law_answers_b2 a.1 a.2.1 a.2.2.1 a.2.2.2.1 a.2.2.2.2 s x)) (s0 := law_found) (E := (fun (s : (List ((List Int) × Int))) => [some ((EL (EL (EO PyData.int))) a.1, 0), some ((ET PyData.int) a.2.1, 2), some (PyData.int a.2.2.1, 2), some (PyData.str a.2.2.2.1, 2), some (PyData.int a.2.2.2.2, 2), some ((EL (E2 (ET PyData.int) PyData.int)) s, 2), none, none, none, none, none])) (fun (s : (List ((List Int) × Int))) x => [some ((EL (EL (EO PyData.int))) a.1, 0), some ((ET PyData.int) a.2.1, 2), some (PyData.int a.2.2.1, 2), some (PyData.str a.2.2.2.1, 2), some (PyData.int a.2.2.2.2, 2), some ((EL (E2 (ET PyData.int) PyData.int)) s, 2), some ((ET PyData.int) x, 2), none, none, none, none]) (i_seq (e := (ET PyData.int)) (xs := r) (p_call2 (e := (EL (ET PyData.int))) (L := fun (a : (Int × Int)) => L_law_stands a.1 a.2) (a := ((a.1.length : Int), (a.2.1.length : Int))) h2 (a_consF (p_cb vf_len (a_consB (p_varB (d := (EL (EL (EO PyData.int))) a.1) (i := 0) (m := 0) rfl) a_nil [0] rfl) lenL) (a_consF (p_cb vf_len (a_consF (p_var (e := (ET PyData.int)) (a := a.2.1) (i := 1) (m := 2) rfl) a_nil) lenT) a_nil)) rfl rfl) rfl) (vg_name 6) (l_flat (e := (ET PyData.int)) rfl (LessE.s (LessE.s (LessE.s (LessE.s (LessE.s (LessE.s (LessE.s (LessE.s (LessE.s (LessE.s (LessE.s LessE.nil)))))))))))) (fun s x => (tj_2 (e := (ET PyData.int)) (a := x) rfl rfl))
    (fun s x _ => VS.mono (s_if (t_val (p_inT (x := a.2.2.1) (xs := x) (p_var (e := PyData.int) (a := a.2.2.1) (i := 2) (m := 2) rfl) (p_var (e := (ET PyData.int)) (a := x) (i := 6) (m := 2) rfl))) (fun _ => (s_if (t_val (p_eqS (p_var (e := PyData.str) (a := a.2.2.2.1) (i := 3) (m := 2) rfl) p_str)) (fun _ => (s_bind fun r2 h3 => (s_seq (ρ1 := [some ((EL (EL (EO PyData.int))) a.1, 0), some ((ET PyData.int) a.2.1, 2), some (PyData.int a.2.2.1, 2), some (PyData.str a.2.2.2.1, 2), some (PyData.int a.2.2.2.2, 2), some ((EL (E2 (ET PyData.int) PyData.int)) s, 2), some ((ET PyData.int) x, 2), some ((EO PyData.int) r2, 2), none, none, none]) (s_set [] 7 (p_callF (e := (EO PyData.int)) (L := fun (a : ((List (List (Option Int))) × (List Int) × (List Int) × Int)) => L_law_move a.1 a.2.1 a.2.2.1 a.2.2.2) (a := (a.1, a.2.1, x, a.2.2.2.2)) h3 (a_consB (p_varB (d := (EL (EL (EO PyData.int))) a.1) (i := 0) (m := 0) rfl) (a_consF (p_var (e := (ET PyData.int)) (a := a.2.1) (i := 1) (m := 2) rfl) (a_consF (p_var (e := (ET PyData.int)) (a := x) (i := 6) (m := 2) rfl) (a_consF (p_var (e := PyData.int) (a := a.2.2.2.2) (i := 4) (m := 2) rfl) a_nil))) [0] rfl) rfl rfl) rfl rfl)
    (s_if (t_val (p_notN (e := PyData.int) (o := r2) (p_var (e := (EO PyData.int)) (a := r2) (i := 7) (m := 2) rfl) p_non)) (fun _ => (s_bind fun v h4 => (s_bind fun law_found2 h5 => (s_out (s_app [6, 7] 5 (e := (E2 (ET PyData.int) PyData.int)) (xs := s) (x := (x, v)) (p_tupF (ds := [(ET PyData.int) x, PyData.int v]) (a_consF (p_var (e := (ET PyData.int)) (a := x) (i := 6) (m := 2) rfl) (a_consF (p_unO h4 (p_var (e := (EO PyData.int)) (a := r2) (i := 7) (m := 2) rfl)) a_nil)) (fl_cons (e := (ET PyData.int)) (fl_cons (e := PyData.int) flatL_nil)) (Nat.le_of_ble_eq_true rfl)) rfl (.inr rfl) rfl h5 rfl) (LessE.s (LessE.s (LessE.s (LessE.s (LessE.s (LessE.s (LessE.n (LessE.n (LessE.s (LessE.s (LessE.s LessE.nil))))))))))))))) (fun _ => (s_out s_next (LessE.s (LessE.s (LessE.s (LessE.s (LessE.s (LessE.s (LessE.n (LessE.n (LessE.s (LessE.s (LessE.s LessE.nil))))))))))))))))) (fun _ => (s_bind fun l h6 => (s_lastO (s_forO' (wb := [5, 8, 9, 10]) (e := PyData.int) (xs := l) (f := (fun s2 x2 => L_law_answers_b1 a.1 a.2.1 a.2.2.1 a.2.2.2.2 x s2 x2)) (s0 := s) (E := (fun (s2 : (List ((List Int) × Int))) => [some ((EL (EL (EO PyData.int))) a.1, 0), some ((ET PyData.int) a.2.1, 2), some (PyData.int a.2.2.1, 2), some (PyData.str a.2.2.2.1, 2), some (PyData.int a.2.2.2.2, 2), some ((EL (E2 (ET PyData.int) PyData.int)) s2, 2), some ((ET PyData.int) x, 2), none, none, none, none])) (fun (s2 : (List ((List Int) × Int))) x2 => [some ((EL (EL (EO PyData.int))) a.1, 0), some ((ET PyData.int) a.2.1, 2), some (PyData.int a.2.2.1, 2), some (PyData.str a.2.2.2.1, 2), some (PyData.int a.2.2.2.2, 2), some ((EL (E2 (ET PyData.int) PyData.int)) s2, 2), some ((ET PyData.int) x, 2), none, some (PyData.int x2, 2), none, none]) (i_range1 (a_consF (p_cb vf_len (a_consF (p_var (e := (ET PyData.int)) (a := a.2.1) (i := 1) (m := 2) rfl) a_nil) lenT) a_nil) h6) (vg_name 8) (l_flat (e := PyData.int) rfl (LessE.s (LessE.s (LessE.s (LessE.s (LessE.s (LessE.s (LessE.s (LessE.s (LessE.s (LessE.s (LessE.s LessE.nil)))))))))))) (fun s2 x2 => (tj_2 (e := PyData.int) (a := x2) rfl rfl))
    (fun s2 x2 _ => VS.mono (s_bind fun x3 h7 => (s_bind fun x4 h8 => (s_bind fun x5 h9 => (s_seq (ρ1 := [some ((EL (EL (EO PyData.int))) a.1, 0), some ((ET PyData.int) a.2.1, 2), some (PyData.int a.2.2.1, 2), some (PyData.str a.2.2.2.1, 2), some (PyData.int a.2.2.2.2, 2), some ((EL (E2 (ET PyData.int) PyData.int)) s2, 2), some ((ET PyData.int) x, 2), none, some (PyData.int x2, 2), some ((EO PyData.int) x5, 2), none]) (s_set [] 9 (p_ixF (d := (EO PyData.int) x5) (p_ixB (d := (EL (EO PyData.int)) x4) [0] (p_varB (d := (EL (EL (EO PyData.int))) a.1) (i := 0) (m := 0) rfl) (p_ixF (d := PyData.int x3) (p_var (e := (ET PyData.int)) (a := a.2.1) (i := 1) (m := 2) rfl) (p_var (e := PyData.int) (a := x2) (i := 8) (m := 2) rfl) (ixT (e := PyData.int) h7) (Flat.flat (e := PyData.int) _)) (ixL (e := (EL (EO PyData.int))) h8) rfl) (p_var (e := PyData.int) (a := a.2.2.1) (i := 2) (m := 2) rfl) (ixL (e := (EO PyData.int)) h9) (Flat.flat (e := (EO PyData.int)) _)) rfl rfl)
    (s_bind fun l2 h10 => (s_bind fun l3 h11 => (s_let fun law_behind h12 => (s_seq (ρ1 := [some ((EL (EL (EO PyData.int))) a.1, 0), some ((ET PyData.int) a.2.1, 2), some (PyData.int a.2.2.1, 2), some (PyData.str a.2.2.2.1, 2), some (PyData.int a.2.2.2.2, 2), some ((EL (E2 (ET PyData.int) PyData.int)) s2, 2), some ((ET PyData.int) x, 2), none, some (PyData.int x2, 2), some ((EO PyData.int) x5, 2), some ((ET PyData.int) law_behind, 2)]) (s_set [8] 10 (p_is (e := (ET PyData.int)) h12 (p_tupleF (e := PyData.int) (xs := (sortI ltI l3)) (a_consM (p_sortT (e := PyData.int) (xs := l3) (a_consF (p_catTF (e := PyData.int) (xs := l2) (ys := ([a.2.2.1] : (List Int))) (p_catTF (e := PyData.int) (xs := (cutI a.2.1 none (some x2))) (ys := (cutI a.2.1 (some (x2 + (1 : Int))) none)) (p_slTF (e := PyData.int) (xs := a.2.1) (p_var (e := (ET PyData.int)) (a := a.2.1) (i := 1) (m := 2) rfl) o_no (o_part (p_var (e := PyData.int) (a := x2) (i := 8) (m := 2) rfl))) (p_slTF (e := PyData.int) (xs := a.2.1) (p_var (e := (ET PyData.int)) (a := a.2.1) (i := 1) (m := 2) rfl) (o_part (p_add (p_var (e := PyData.int) (a := x2) (i := 8) (m := 2) rfl) p_int)) o_no) h10) (p_tupF (ds := [PyData.int a.2.2.1]) (a_consF (p_var (e := PyData.int) (a := a.2.2.1) (i := 2) (m := 2) rfl) a_nil) (fl_cons (e := PyData.int) flatL_nil) (Nat.le_of_ble_eq_true rfl)) h11) a_nil) sortO_all (by decide)) a_nil rfl) rfl)) rfl rfl)
    (s_bind fun b3 h17 => (s_if (tv_at h17 (c_and (t_val (p_eq (e := (ET PyData.int)) (a := law_behind) (b := x) (p_var (e := (ET PyData.int)) (a := law_behind) (i := 10) (m := 2) rfl) (p_var (e := (ET PyData.int)) (a := x) (i := 6) (m := 2) rfl) (by decide))) fun _ => (c_bind fun b2 h16 => (tv_at h16 (c_and (t_val (p_notN (e := PyData.int) (o := x5) (p_var (e := (EO PyData.int)) (a := x5) (i := 9) (m := 2) rfl) p_non)) fun _ => (c_bind fun v2 h13 => (c_bind fun b h15 => (tv_at h15 (c_and (t_val (p_opF vf_le (p_unO h13 (p_var (e := (EO PyData.int)) (a := x5) (i := 9) (m := 2) rfl)) (p_var (e := PyData.int) (a := a.2.2.2.2) (i := 4) (m := 2) rfl) rfl)) fun _ => (c_bind fun v3 h14 => (t_val (p_nin (e := (E2 (ET PyData.int) PyData.int)) (x := (x, v3)) (xs := s2) (p_tupF (ds := [(ET PyData.int) x, PyData.int v3]) (a_consF (p_var (e := (ET PyData.int)) (a := x) (i := 6) (m := 2) rfl) (a_consF (p_unO h14 (p_var (e := (EO PyData.int)) (a := x5) (i := 9) (m := 2) rfl)) a_nil)) (fl_cons (e := (ET PyData.int)) (fl_cons (e := PyData.int) flatL_nil)) (Nat.le_of_ble_eq_true rfl)) (p_varM (d := (EL (E2 (ET PyData.int) PyData.int)) s2) (i := 5) rfl) (by decide))))))))))))) (fun _ => (s_bind fun v4 h18 => (s_bind fun law_found3 h19 => (s_out (s_app [9] 5 (e := (E2 (ET PyData.int) PyData.int)) (xs := s2) (x := (x, v4)) (p_tupF (ds := [(ET PyData.int) x, PyData.int v4]) (a_consF (p_var (e := (ET PyData.int)) (a := x) (i := 6) (m := 2) rfl) (a_consF (p_unO h18 (p_var (e := (EO PyData.int)) (a := x5) (i := 9) (m := 2) rfl)) a_nil)) (fl_cons (e := (ET PyData.int)) (fl_cons (e := PyData.int) flatL_nil)) (Nat.le_of_ble_eq_true rfl)) rfl (.inr rfl) rfl h19 rfl) (LessE.s (LessE.s (LessE.s (LessE.s (LessE.s (LessE.s (LessE.s (LessE.s (LessE.n (LessE.n (LessE.n LessE.nil))))))))))))))) (fun _ => (s_out s_next (LessE.s (LessE.s (LessE.s (LessE.s (LessE.s (LessE.s (LessE.s (LessE.s (LessE.n (LessE.n (LessE.n LessE.nil))))))))))))))))))))))) (by decide))) (fun s3 => (LessE.s (LessE.s (LessE.s (LessE.s (LessE.s (LessE.s (LessE.n (LessE.s (LessE.s (LessE.s (LessE.s LessE.nil))))))))))))))))) (fun _ => (s_out s_next (LessE.s (LessE.s (LessE.s (LessE.s (LessE.s (LessE.s (LessE.n (LessE.s (LessE.s (LessE.s (LessE.s LessE.nil)))))))))))))) (by decide))) (fun s4 => (s_ret (p_varM (d := (EL (E2 (ET PyData.int) PyData.int)) s4) (i := 5) rfl) rfl))))))))) (fun a => (LessE.z (LessE.f2 (e := (ET PyData.int)) (LessE.f2 (e := PyData.int) (LessE.f2 (e := PyData.str) (LessE.f2 (e := PyData.int) LessE.refl)))))) h rfl (by decide)⟩), gx, F.kp, F.binds fun _ _ _ _ _ _ us hl => match us, hl with | [_, _, _, _, _], _ => rfl⟩
theorem sc_all_stands : FnScope ["places", "helpers", "found", "turn", "longer", "stand", "lowest", "place"] ["places", "helpers"] (defScope s_all_stands) := ⟨rfl, rfl, rfl, by decide +kernel, rfl, by decide +kernel, by decide +kernel⟩
theorem ok_all_stands {f : Addr} {fd : FuncData} (F : Fun K "all_stands" "all_stands" s_all_stands f fd) (gx : mg "all_stands" = some (.ref f)) (b_range : mg "range" = none) : Clr P w K mg base "all_stands" 1 2 R_all_stands :=
  ⟨f, fd, _, F.ok sc_all_stands (fun vs H Q E h => spR_len h) (fun cdv A outer s H vs Q E hr h => ⟨_, (pss_cons (ps_set (i := 2) sc_all_stands.nd rfl (by first | exact Or.inl rfl | exact Or.inr rfl) (pe_lst (pa_cons (pe_tupN pa_nil) pa_nil)))
    (pss_cons (ps_for PassesOwn.never rfl (pi_range1 rfl b_range (pa_cons (pv 1) pa_nil)) (pg_name (i := 3) sc_all_stands.nd rfl (by first | exact Or.inl rfl | exact Or.inr rfl)) (pss_cons (ps_set (i := 4) sc_all_stands.nd rfl (by first | exact Or.inl rfl | exact Or.inr rfl) (pe_lst pa_nil))
    (pss_cons (ps_for PassesOwn.never rfl (pi_any (pv 2)) (pg_name (i := 5) sc_all_stands.nd rfl (by first | exact Or.inl rfl | exact Or.inr rfl)) (pss_cons (ps_set (i := 6) sc_all_stands.nd rfl (by first | exact Or.inl rfl | exact Or.inr rfl) (pe_ifExp (pt_truth (pv 5) (by intro _; rfl)) (pe_ix ix_seq (pv 5) (pe_un un_neg pe_int) (fun _ _ => rfl)) pe_int))
    (pss_one (ps_expr (pe_bm PySem.F.plainAttrs_list PySem.F.slot_list_extend PySem.F.type_list_extend mt_extend (pv 4) (pa_cons (pe_lc (own := [("place", 7)]) rfl sc_all_stands.nd (pi_range2 rfl b_range (pa_cons (pv 6) (pa_cons (pv 0) pa_nil))) (blkOk_by (by kernel_rfl)) (fun _ _ _ _ _ => (pg_name (i := 7) sc_all_stands.nd rfl (by first | exact Or.inl rfl | exact Or.inr rfl))) (fun _ _ _ _ _ => pts_nil) (fun _ _ _ _ _ => (pe_op op_addA (pv 5) (pe_tupN (pa_cons (pv 7) pa_nil))))) pa_nil))))))
    (pss_one (ps_set (i := 2) sc_all_stands.nd rfl (by first | exact Or.inl rfl | exact Or.inr rfl) (pv 4))))))
    (pss_one (ps_ret (pv 2))))), body_T (A := (Int × Int)) (encs := fun a => [PyData.int a.1, PyData.int a.2]) (L := fun a => L_all_stands a.1 a.2) (e := (EL (ET PyData.int))) (r := 2) (Wx := noX) (m := 8) (n := 2) (E1 := fun a => [some (PyData.int a.1, 2), some (PyData.int a.2, 2), none, none, none, none, none, none]) (fun a =>
    (s_let fun found h1 => (s_seq (ρ1 := [some (PyData.int a.1, 2), some (PyData.int a.2, 2), some ((EL (ET PyData.int)) found, 2), none, none, none, none, none]) (s_set [] 2 (p_is (e := (EL (ET PyData.int))) h1 (p_lstF (ds := [(ET PyData.int) ([] : (List Int))]) (a_consF (p_tupF (ds := []) a_nil flatL_nil (Nat.le_of_ble_eq_true rfl)) a_nil) (fl_cons (e := (ET PyData.int)) flatL_nil) (Nat.le_of_ble_eq_true rfl))) rfl rfl)
    (s_bind fun l h2 => (s_seqO (s_forO' (wb := [2, 4, 5, 6]) (e := PyData.int) (xs := l) (f := (fun s x => L_all_stands_b2 a.1 s x)) (s0 := found) (E := (fun (s : (List (List Int))) => [some (PyData.int a.1, 2), none, some ((EL (ET PyData.int)) s, 2), none, none, none, none, none])) (fun (s : (List (List Int))) x => [some (PyData.int a.1, 2), none, some ((EL (ET PyData.int)) s, 2), some (PyData.int x, 2), none, none, none, none]) (i_range1 (a_consF (p_var (e := PyData.int) (a := a.2) (i := 1) (m := 2) rfl) a_nil) h2) (vg_name 3) (l_flat (e := PyData.int) rfl (LessE.s (LessE.n (LessE.s (LessE.s (LessE.s (LessE.s (LessE.s (LessE.s LessE.nil))))))))) (fun s x => (tj_2 (e := PyData.int) (a := x) rfl rfl))
    (fun s x _ => VS.mono (s_let fun longer h3 => (s_seq (ρ1 := [some (PyData.int a.1, 2), none, some ((EL (ET PyData.int)) s, 2), some (PyData.int x, 2), some ((EL (ET PyData.int)) longer, 2), none, none, none]) (s_set [] 4 (p_is (e := (EL (ET PyData.int))) h3 (p_lstF (ds := []) a_nil flatL_nil (Nat.le_of_ble_eq_true rfl))) rfl rfl)
    (s_seqO (s_forO' (wb := [4, 5, 6]) (e := (ET PyData.int)) (xs := s) (f := (fun s2 x2 => L_all_stands_b1 a.1 s2 x2)) (s0 := longer) (E := (fun (s2 : (List (List Int))) => [some (PyData.int a.1, 2), none, none, none, some ((EL (ET PyData.int)) s2, 2), none, none, none])) (fun (s2 : (List (List Int))) x2 => [some (PyData.int a.1, 2), none, none, none, some ((EL (ET PyData.int)) s2, 2), some ((ET PyData.int) x2, 2), none, none]) (i_seq (e := (ET PyData.int)) (xs := s) (p_varM (d := (EL (ET PyData.int)) s) (i := 2) rfl) rfl) (vg_name 5) (l_flat (e := (ET PyData.int)) rfl (LessE.s (LessE.s (LessE.n (LessE.n (LessE.s (LessE.s (LessE.s (LessE.s LessE.nil))))))))) (fun s2 x2 => (tj_2 (e := (ET PyData.int)) (a := x2) rfl rfl))
    (fun s2 x2 _ => VS.mono (s_bind fun v h5 => (s_seq (ρ1 := [some (PyData.int a.1, 2), none, none, none, some ((EL (ET PyData.int)) s2, 2), some ((ET PyData.int) x2, 2), some (PyData.int v, 2), none]) (s_set [] 6 (ev_at h5 (e_if (e := PyData.int) (t_tru (p_var (e := (ET PyData.int)) (a := x2) (i := 5) (m := 2) rfl) truT) (fun _ => (ev_bind fun x3 h4 => (p_ixF (d := PyData.int x3) (p_var (e := (ET PyData.int)) (a := x2) (i := 5) (m := 2) rfl) (p_neg p_int) (ixT (e := PyData.int) h4) (Flat.flat (e := PyData.int) _)))) (fun _ => p_int))) rfl rfl)
    (s_bind fun l2 h6 => (s_bind fun u h8 => (s_bind fun l4 h9 => (s_bind fun longer2 h10 => (s_out (s_ext [5, 6] 4 (e := (ET PyData.int)) (xs := s2) (ys := l4) (q_lcF (e := PyData.int) (xs := l2) (e' := (ET PyData.int)) (c := fun _ => some true) (f := fun x4 => (catO x2 ([x4] : (List Int))).bind fun l3 => some l3) (fun x4 => [some (PyData.int a.1, 0), none, none, none, some ((EL (ET PyData.int)) s2, 0), some ((ET PyData.int) x2, 0), some (PyData.int v, 0), some (PyData.int x4, 2)]) (i_range2 (a_consF (p_var (e := PyData.int) (a := v) (i := 6) (m := 2) rfl) (a_consF (p_var (e := PyData.int) (a := a.1) (i := 0) (m := 2) rfl) a_nil)) h6) (vg_name 7) (fun x4 => (tj_2 (e := PyData.int) (a := x4) rfl rfl)) (fun x4 _ => t_yes) (fun x4 _ => (ev_bind fun l3 h7 => (p_catTF (e := PyData.int) (xs := x2) (ys := ([x4] : (List Int))) (p_var (e := (ET PyData.int)) (a := x2) (i := 5) (m := 0) rfl) (p_tupF (ds := [PyData.int x4]) (a_consF (p_var (e := PyData.int) (a := x4) (i := 7) (m := 2) rfl) a_nil) (fl_cons (e := PyData.int) flatL_nil) (Nat.le_of_ble_eq_true rfl)) h7))) h8 (filO_yes.trans h9) (by decide)) rfl (.inr rfl) rfl h10 rfl) (LessE.s (LessE.s (LessE.s (LessE.s (LessE.s (LessE.n (LessE.n (LessE.s LessE.nil))))))))))))))) (by decide))) (fun s3 => (s_out (s_set [4] 2 (p_varM (d := (EL (ET PyData.int)) s3) (i := 4) rfl) rfl rfl) (LessE.s (LessE.s (LessE.s (LessE.s (LessE.s (LessE.s (LessE.s (LessE.s LessE.nil))))))))))))) (by decide))) (fun s4 => (s_ret (p_varM (d := (EL (ET PyData.int)) s4) (i := 2) rfl) rfl))))))) (fun a => (LessE.f2 (e := PyData.int) (LessE.f2 (e := PyData.int) LessE.refl))) h rfl (by decide)⟩), gx, F.kp, F.binds fun _ _ _ _ _ _ us hl => match us, hl with | [_, _], _ => rfl⟩
theorem sc_paired_length : FnScope ["table", "first", "second", "reach", "least", "order", "steps", "one", "other", "step"] ["table", "first", "second", "reach"] (defScope s_paired_length) := ⟨rfl, rfl, rfl, by decide +kernel, rfl, by decide +kernel, by decide +kernel⟩
theorem ok_paired_length {f : Addr} {fd : FuncData} (F : Fun K "paired_length" "paired_length" s_paired_length f fd) (gx : mg "paired_length" = some (.ref f)) (b_zip : mg "zip" = none) (b_all : mg "all" = none) (b_sum : mg "sum" = none) (k_permutations : mg "permutations" = some (.type "itertools.permutations")) : Clr P w K mg base "paired_length" 1 4 R_paired_length :=
  ⟨f, fd, _, F.ok sc_paired_length (fun vs H Q E h => spR_len h) (fun cdv A outer s H vs Q E hr h => ⟨_, (pss_cons (ps_set (i := 4) sc_paired_length.nd rfl (by first | exact Or.inl rfl | exact Or.inr rfl) pe_non)
    (pss_cons (ps_for PassesOwn.never rfl (Pm.pi_perm rfl k_permutations (pa_cons (pv 2) pa_nil)) (pg_name (i := 5) sc_paired_length.nd rfl (by first | exact Or.inl rfl | exact Or.inr rfl)) (pss_cons (ps_setLc (i := 6) (own := [("one", 7), ("other", 8)]) rfl sc_paired_length.nd rfl rfl (sw_true rfl rfl rfl (by decide +kernel)) (RZ.pi_zipA rfl b_zip (pa_cons (pv 1) (pa_cons (pv 5) pa_nil))) (blkOk_by (by kernel_rfl)) (fun _ _ _ _ _ => (pg_tup (n := 2) (by rfl) (pgs_cons (pg_name (i := 7) sc_paired_length.nd rfl (by first | exact Or.inl rfl | exact Or.inr rfl)) (pgs_cons (pg_name (i := 8) sc_paired_length.nd rfl (by first | exact Or.inl rfl | exact Or.inr rfl)) pgs_nil)))) (fun _ _ _ _ _ => pts_nil) (fun _ _ _ _ _ => (pe_ix ix_seq (pe_ix ix_seq (pv 0) (pv 7) (fun _ _ => rfl)) (pv 8) (fun _ _ => rfl))))
    (pss_one (ps_if (PW.pt (pw_and (pt_truth (pe_callB (cr_all rfl) (by rfl) b_all (by decide +kernel) (pa_cons (pe_lc (own := [("step", 9)]) rfl sc_paired_length.nd (pi_any (pv 6)) (blkOk_by (by kernel_rfl)) (fun _ _ _ _ _ => (pg_name (i := 9) sc_paired_length.nd rfl (by first | exact Or.inl rfl | exact Or.inr rfl))) (fun _ _ _ _ _ => pts_nil) (fun _ _ _ _ _ => (pe_and (pe_cmpR op_notN (pv 9) pe_non (nomark _)) (pe_one (pe_cmpR op_le (pv 9) (pv 3) (nomark _)))))) pa_nil)) (by intro _; rfl)) (pw_and1 (PW.pt (pw_or (pt_cmpR op_isN (pv 4) pe_non (nomark _)) (pw_or1 (pt_cmpR op_lt (pe_callB (cr_sum rfl) (by rfl) b_sum (by decide +kernel) (pa_cons (pv 6) pa_nil)) (pv 4) (nomark _)))))))) (pss_one (ps_set (i := 4) sc_paired_length.nd rfl (by first | exact Or.inl rfl | exact Or.inr rfl) (pe_callB (cr_sum rfl) (by rfl) b_sum (by decide +kernel) (pa_cons (pv 6) pa_nil)))) pss_nil))))
    (pss_one (ps_ret (pv 4))))), body_T (A := ((List (List (Option Int))) × (List Int) × (List Int) × Int)) (encs := fun a => [(EL (EL (EO PyData.int))) a.1, (ET PyData.int) a.2.1, (ET PyData.int) a.2.2.1, PyData.int a.2.2.2]) (L := fun a => L_paired_length a.1 a.2.1 a.2.2.1 a.2.2.2) (e := (EO PyData.int)) (r := 2) (Wx := noX) (m := 10) (n := 4) (E1 := fun a => [some ((EL (EL (EO PyData.int))) a.1, 0), some ((ET PyData.int) a.2.1, 2), some ((ET PyData.int) a.2.2.1, 2), some (PyData.int a.2.2.2, 2), none, none, none, none, none, none]) (fun a =>
    (s_let fun least h1 => (s_seq (ρ1 := [some ((EL (EL (EO PyData.int))) a.1, 0), some ((ET PyData.int) a.2.1, 2), some ((ET PyData.int) a.2.2.1, 2), some (PyData.int a.2.2.2, 2), some ((EO PyData.int) least, 2), none, none, none, none, none]) (s_set [] 4 (p_is (e := (EO PyData.int)) h1 p_non) rfl rfl)
    (s_bind fun l h2 => (s_seqO (s_forO' (wb := [4, 5, 6]) (e := (ET PyData.int)) (xs := l) (f := (fun s x => L_paired_length_b1 a.1 a.2.1 a.2.2.2 s x)) (s0 := least) (E := (fun (s : (Option Int)) => [some ((EL (EL (EO PyData.int))) a.1, 0), some ((ET PyData.int) a.2.1, 2), none, some (PyData.int a.2.2.2, 2), some ((EO PyData.int) s, 2), none, none, none, none, none])) (fun (s : (Option Int)) x => [some ((EL (EL (EO PyData.int))) a.1, 0), some ((ET PyData.int) a.2.1, 2), none, some (PyData.int a.2.2.2, 2), some ((EO PyData.int) s, 2), some ((ET PyData.int) x, 2), none, none, none, none]) (i_perm (a_consF (p_var (e := (ET PyData.int)) (a := a.2.2.1) (i := 2) (m := 2) rfl) a_nil) h2) (vg_name 5) (l_flat (e := (ET PyData.int)) rfl (LessE.s (LessE.s (LessE.n (LessE.s (LessE.s (LessE.s (LessE.s (LessE.s (LessE.s (LessE.s LessE.nil))))))))))) (fun s x => (tj_2 (e := (ET PyData.int)) (a := x) rfl rfl))
    (fun s x _ => VS.mono (s_bind fun u h5 => (s_bind fun l2 h6 => (s_seq (ρ1 := [some ((EL (EL (EO PyData.int))) a.1, 0), some ((ET PyData.int) a.2.1, 2), none, some (PyData.int a.2.2.2, 2), some ((EO PyData.int) s, 2), some ((ET PyData.int) x, 2), some ((EL (EO PyData.int)) l2, 2), none, none, none]) (s_set [5] 6 (q_lcF (e := (EW (E2 PyData.int PyData.int))) (xs := (a.2.1.zip x)) (e' := (EO PyData.int)) (c := fun _ => some true) (f := fun x2 => (atI a.1 x2.1).bind fun x3 => (atI x3 x2.2).bind fun x4 => some x4) (fun x2 => [some ((EL (EL (EO PyData.int))) a.1, 0), some ((ET PyData.int) a.2.1, 0), none, some (PyData.int a.2.2.2, 0), some ((EO PyData.int) s, 0), some ((ET PyData.int) x, 0), none, some (PyData.int x2.1, 2), some (PyData.int x2.2, 2), none]) (i_zipT (e := PyData.int) (f := PyData.int) (a_consF (p_var (e := (ET PyData.int)) (a := a.2.1) (i := 1) (m := 2) rfl) (a_consF (p_var (e := (ET PyData.int)) (a := x) (i := 5) (m := 2) rfl) a_nil))) (vg_tup (vgs_cons (vg_name 7) (vgs_cons (vg_name 8) vgs_nil))) (fun x2 => (tj_W (tj_cons (tj_2 (e := PyData.int) (a := x2.1) rfl rfl) (tj_cons (tj_2 (e := PyData.int) (a := x2.2) rfl rfl) tj_nil)) rfl)) (fun x2 _ => t_yes) (fun x2 _ => (ev_bind fun x3 h3 => (ev_bind fun x4 h4 => (p_ixF (d := (EO PyData.int) x4) (p_ixB (d := (EL (EO PyData.int)) x3) [0] (p_varB (d := (EL (EL (EO PyData.int))) a.1) (i := 0) (m := 0) rfl) (p_var (e := PyData.int) (a := x2.1) (i := 7) (m := 2) rfl) (ixL (e := (EL (EO PyData.int))) h3) rfl) (p_var (e := PyData.int) (a := x2.2) (i := 8) (m := 2) rfl) (ixL (e := (EO PyData.int)) h4) (Flat.flat (e := (EO PyData.int)) _))))) h5 (filO_yes.trans h6) (by decide)) rfl rfl)
    (s_bind fun u2 h9 => (s_bind fun l3 h10 => (s_bind fun b3 h14 => (s_if (tv_at h14 (c_and (t_tru (p_cb vf_all (a_consM (q_lcF (e := (EO PyData.int)) (xs := l2) (e' := PyData.bool) (c := fun _ => some true) (f := fun x5 => (if x5.isSome = true then (x5).bind fun v => some (decide (v ≤ a.2.2.2)) else some false).bind fun b => some b) (fun x5 => [some ((EL (EL (EO PyData.int))) a.1, 0), some ((ET PyData.int) a.2.1, 0), none, some (PyData.int a.2.2.2, 0), some ((EO PyData.int) s, 0), some ((ET PyData.int) x, 0), some ((EL (EO PyData.int)) l2, 0), none, none, some ((EO PyData.int) x5, 2)]) (i_seq (e := (EO PyData.int)) (xs := l2) (p_varM (d := (EL (EO PyData.int)) l2) (i := 6) rfl) rfl) (vg_name 9) (fun x5 => (tj_2 (e := (EO PyData.int)) (a := x5) rfl rfl)) (fun x5 _ => t_yes) (fun x5 _ => (ev_bind fun b h8 => (ev_at (e := PyData.bool) h8 (e_andV (p_notN (e := PyData.int) (o := x5) (p_var (e := (EO PyData.int)) (a := x5) (i := 9) (m := 2) rfl) p_non) fun _ => (ev_bind fun v h7 => (p_opF vf_le (p_unO h7 (p_var (e := (EO PyData.int)) (a := x5) (i := 9) (m := 2) rfl)) (p_var (e := PyData.int) (a := a.2.2.2) (i := 3) (m := 0) rfl) rfl)))))) h9 (filO_yes.trans h10) (by decide)) a_nil rfl) allL) rfl) fun _ => (c_bind fun b2 h13 => (tv_at h13 (c_or (t_val (p_isN (e := PyData.int) (o := s) (p_var (e := (EO PyData.int)) (a := s) (i := 4) (m := 2) rfl) p_non)) fun _ => (c_bind fun l4 h11 => (c_bind fun v2 h12 => (t_val (p_opF vf_lt (p_cb vf_sum (a_consM (p_unL (e := PyData.int) h11 (p_varM (d := (EL (EO PyData.int)) l2) (i := 6) rfl)) a_nil rfl) sumL) (p_unO h12 (p_var (e := (EO PyData.int)) (a := s) (i := 4) (m := 2) rfl)) rfl))))))))) (fun _ => (s_bind fun l5 h15 => (s_let fun least2 h16 => (s_out (s_set [6] 4 (p_is (e := (EO PyData.int)) h16 (p_cb vf_sum (a_consM (p_unL (e := PyData.int) h15 (p_varM (d := (EL (EO PyData.int)) l2) (i := 6) rfl)) a_nil rfl) sumL)) rfl rfl) (LessE.s (LessE.s (LessE.s (LessE.s (LessE.s (LessE.n (LessE.n (LessE.s (LessE.s (LessE.s LessE.nil)))))))))))))) (fun _ => (s_out s_next (LessE.s (LessE.s (LessE.s (LessE.s (LessE.s (LessE.n (LessE.n (LessE.s (LessE.s (LessE.s LessE.nil))))))))))))))))))) (by decide))) (fun s2 => (s_ret (p_var (e := (EO PyData.int)) (a := s2) (i := 4) (m := 2) rfl) rfl))))))) (fun a => (LessE.z (LessE.f2 (e := (ET PyData.int)) (LessE.f2 (e := (ET PyData.int)) (LessE.f2 (e := PyData.int) LessE.refl))))) h rfl (by decide)⟩), gx, F.kp, F.binds fun _ _ _ _ _ _ us hl => match us, hl with | [_, _, _, _], _ => rfl⟩
theorem sc_answers_by_all : FnScope ["table", "stand", "call", "reach", "found", "other", "length"] ["table", "stand", "call", "reach"] (defScope s_answers_by_all) := ⟨rfl, rfl, rfl, by decide +kernel, rfl, by decide +kernel, by decide +kernel⟩
theorem ok_answers_by_all {f : Addr} {fd : FuncData} (F : Fun K "answers_by_all" "answers_by_all" s_answers_by_all f fd) (gx : mg "answers_by_all" = some (.ref f)) (b_len : mg "len" = none) (c_all_stands : Clr P w K mg base "all_stands" 1 2 R_all_stands) (c_paired_length : Clr P w K mg base "paired_length" 1 4 R_paired_length) : Clr P w K mg base "answers_by_all" 2 4 R_answers_by_all :=
  ⟨f, fd, _, F.ok sc_answers_by_all (fun vs H Q E h => spR_len h) (fun cdv A outer s H vs Q E hr h => ⟨_, (pss_cons (ps_set (i := 4) sc_answers_by_all.nd rfl (by first | exact Or.inl rfl | exact Or.inr rfl) (pe_lst pa_nil))
    (pss_cons (ps_for PassesOwn.never rfl (pi_any (pe_callR c_all_stands hr (by decide) (pa_cons (pe_callB call_len (by rfl) b_len (by decide +kernel) (pa_cons (pv 0) pa_nil)) (pa_cons (pe_callB call_len (by rfl) b_len (by decide +kernel) (pa_cons (pv 1) pa_nil)) pa_nil)))) (pg_name (i := 5) sc_answers_by_all.nd rfl (by first | exact Or.inl rfl | exact Or.inr rfl)) (pss_one (ps_if (pt_cmpR (op_inA (room65 hr)) (pv 2) (pv 5) (by rfl)) (pss_cons (ps_set (i := 6) sc_answers_by_all.nd rfl (by first | exact Or.inl rfl | exact Or.inr rfl) (pe_callR c_paired_length hr (by decide) (pa_cons (pv 0) (pa_cons (pv 1) (pa_cons (pv 5) (pa_cons (pv 3) pa_nil))))))
    (pss_one (ps_if (pt_cmpR op_notN (pv 6) pe_non (nomark _)) (pss_one (ps_expr (pe_bm PySem.F.plainAttrs_list PySem.F.slot_list_append PySem.F.type_list_append mt_append (pv 4) (pa_cons (pe_tupN (pa_cons (pv 5) (pa_cons (pv 6) pa_nil))) pa_nil)))) pss_nil))) pss_nil)))
    (pss_one (ps_ret (pv 4))))), body_T (A := ((List (List (Option Int))) × (List Int) × Int × Int)) (encs := fun a => [(EL (EL (EO PyData.int))) a.1, (ET PyData.int) a.2.1, PyData.int a.2.2.1, PyData.int a.2.2.2]) (L := fun a => L_answers_by_all a.1 a.2.1 a.2.2.1 a.2.2.2) (e := (EL (E2 (ET PyData.int) PyData.int))) (r := 2) (Wx := noX) (m := 7) (n := 4) (E1 := fun a => [some ((EL (EL (EO PyData.int))) a.1, 0), some ((ET PyData.int) a.2.1, 2), some (PyData.int a.2.2.1, 2), some (PyData.int a.2.2.2, 2), none, none, none]) (fun a =>
    (s_let fun found h1 => (s_seq (ρ1 := [some ((EL (EL (EO PyData.int))) a.1, 0), some ((ET PyData.int) a.2.1, 2), some (PyData.int a.2.2.1, 2), some (PyData.int a.2.2.2, 2), some ((EL (E2 (ET PyData.int) PyData.int)) found, 2), none, none]) (s_set [] 4 (p_is (e := (EL (E2 (ET PyData.int) PyData.int))) h1 (p_lstF (ds := []) a_nil flatL_nil (Nat.le_of_ble_eq_true rfl))) rfl rfl)
    (s_bind fun r h2 => (s_seqO (s_forO' (wb := [4, 5, 6]) (e := (ET PyData.int)) (xs := r) (f := (fun s x => L_answers_by_all_b1 a.1 a.2.1 a.2.2.1 a.2.2.2 s x)) (s0 := found) (E := (fun (s : (List ((List Int) × Int))) => [some ((EL (EL (EO PyData.int))) a.1, 0), some ((ET PyData.int) a.2.1, 2), some (PyData.int a.2.2.1, 2), some (PyData.int a.2.2.2, 2), some ((EL (E2 (ET PyData.int) PyData.int)) s, 2), none, none])) (fun (s : (List ((List Int) × Int))) x => [some ((EL (EL (EO PyData.int))) a.1, 0), some ((ET PyData.int) a.2.1, 2), some (PyData.int a.2.2.1, 2), some (PyData.int a.2.2.2, 2), some ((EL (E2 (ET PyData.int) PyData.int)) s, 2), some ((ET PyData.int) x, 2), none]) (i_seq (e := (ET PyData.int)) (xs := r) (p_call2 (e := (EL (ET PyData.int))) (L := fun (a : (Int × Int)) => L_all_stands a.1 a.2) (a := ((a.1.length : Int), (a.2.1.length : Int))) h2 (a_consF (p_cb vf_len (a_consB (p_varB (d := (EL (EL (EO PyData.int))) a.1) (i := 0) (m := 0) rfl) a_nil [0] rfl) lenL) (a_consF (p_cb vf_len (a_consF (p_var (e := (ET PyData.int)) (a := a.2.1) (i := 1) (m := 2) rfl) a_nil) lenT) a_nil)) rfl rfl) rfl) (vg_name 5) (l_flat (e := (ET PyData.int)) rfl (LessE.s (LessE.s (LessE.s (LessE.s (LessE.s (LessE.s (LessE.s LessE.nil)))))))) (fun s x => (tj_2 (e := (ET PyData.int)) (a := x) rfl rfl))
    (fun s x _ => VS.mono (s_if (t_val (p_inT (x := a.2.2.1) (xs := x) (p_var (e := PyData.int) (a := a.2.2.1) (i := 2) (m := 2) rfl) (p_var (e := (ET PyData.int)) (a := x) (i := 5) (m := 2) rfl))) (fun _ => (s_bind fun r2 h3 => (s_seq (ρ1 := [some ((EL (EL (EO PyData.int))) a.1, 0), some ((ET PyData.int) a.2.1, 2), some (PyData.int a.2.2.1, 2), some (PyData.int a.2.2.2, 2), some ((EL (E2 (ET PyData.int) PyData.int)) s, 2), some ((ET PyData.int) x, 2), some ((EO PyData.int) r2, 2)]) (s_set [] 6 (p_callF (e := (EO PyData.int)) (L := fun (a : ((List (List (Option Int))) × (List Int) × (List Int) × Int)) => L_paired_length a.1 a.2.1 a.2.2.1 a.2.2.2) (a := (a.1, a.2.1, x, a.2.2.2)) h3 (a_consB (p_varB (d := (EL (EL (EO PyData.int))) a.1) (i := 0) (m := 0) rfl) (a_consF (p_var (e := (ET PyData.int)) (a := a.2.1) (i := 1) (m := 2) rfl) (a_consF (p_var (e := (ET PyData.int)) (a := x) (i := 5) (m := 2) rfl) (a_consF (p_var (e := PyData.int) (a := a.2.2.2) (i := 3) (m := 2) rfl) a_nil))) [0] rfl) rfl rfl) rfl rfl)
    (s_if (t_val (p_notN (e := PyData.int) (o := r2) (p_var (e := (EO PyData.int)) (a := r2) (i := 6) (m := 2) rfl) p_non)) (fun _ => (s_bind fun v h4 => (s_bind fun found2 h5 => (s_out (s_app [5, 6] 4 (e := (E2 (ET PyData.int) PyData.int)) (xs := s) (x := (x, v)) (p_tupF (ds := [(ET PyData.int) x, PyData.int v]) (a_consF (p_var (e := (ET PyData.int)) (a := x) (i := 5) (m := 2) rfl) (a_consF (p_unO h4 (p_var (e := (EO PyData.int)) (a := r2) (i := 6) (m := 2) rfl)) a_nil)) (fl_cons (e := (ET PyData.int)) (fl_cons (e := PyData.int) flatL_nil)) (Nat.le_of_ble_eq_true rfl)) rfl (.inr rfl) rfl h5 rfl) (LessE.s (LessE.s (LessE.s (LessE.s (LessE.s (LessE.n (LessE.n LessE.nil))))))))))) (fun _ => (s_out s_next (LessE.s (LessE.s (LessE.s (LessE.s (LessE.s (LessE.n (LessE.n LessE.nil))))))))))))) (fun _ => (s_out s_next (LessE.s (LessE.s (LessE.s (LessE.s (LessE.s (LessE.n (LessE.s LessE.nil)))))))))) (by decide))) (fun s2 => (s_ret (p_varM (d := (EL (E2 (ET PyData.int) PyData.int)) s2) (i := 4) rfl) rfl))))))) (fun a => (LessE.z (LessE.f2 (e := (ET PyData.int)) (LessE.f2 (e := PyData.int) (LessE.f2 (e := PyData.int) LessE.refl))))) h rfl (by decide)⟩), gx, F.kp, F.binds fun _ _ _ _ _ _ us hl => match us, hl with | [_, _, _, _], _ => rfl⟩
theorem sc_sent : FnScope ["stand", "place", "call", "at"] ["stand", "place", "call"] (defScope s_sent) := ⟨rfl, rfl, rfl, by decide +kernel, rfl, by decide +kernel, by decide +kernel⟩
theorem ok_sent {f : Addr} {fd : FuncData} (F : Fun K "sent" "sent" s_sent f fd) (gx : mg "sent" = some (.ref f)) (b_tuple : mg "tuple" = none) (b_sorted : mg "sorted" = none) : Clr P w K mg base "sent" 1 3 R_sent :=
  ⟨f, fd, _, F.ok sc_sent (fun vs H Q E h => spR_len h) (fun cdv A outer s H vs Q E hr h => ⟨_, (pss_cons (ps_set (i := 3) sc_sent.nd rfl (by first | exact Or.inl rfl | exact Or.inr rfl) (pe_bmT PySem.F.slot_tuple_index PySem.F.type_tuple_index mt_tup_indexI (pv 0) (pa_cons (pv 1) pa_nil)))
    (pss_one (ps_ret (pe_callTy call_tuple_ofN (by rfl) b_tuple (by decide +kernel) (pa_cons (pe_callB (cr_sortedD hr.units) (by rfl) b_sorted (by decide +kernel) (pa_cons (pe_op op_addA (pe_op op_addA (pe_slice sl_any (pv 0) po_none (po_some (pv 3))) (pe_slice sl_any (pv 0) (po_some (pe_op op_addA (pv 3) pe_int)) po_none)) (pe_tupN (pa_cons (pv 2) pa_nil))) pa_nil)) pa_nil))))), body_T (A := ((List Int) × Int × Int)) (encs := fun a => [(ET PyData.int) a.1, PyData.int a.2.1, PyData.int a.2.2]) (L := fun a => L_sent a.1 a.2.1 a.2.2) (e := (ET PyData.int)) (r := 2) (Wx := noX) (m := 4) (n := 3) (E1 := fun a => [some ((ET PyData.int) a.1, 2), some (PyData.int a.2.1, 2), some (PyData.int a.2.2, 2), none]) (fun a =>
    (s_bind fun n h1 => (s_seq (ρ1 := [some ((ET PyData.int) a.1, 2), some (PyData.int a.2.1, 2), some (PyData.int a.2.2, 2), some (PyData.int n, 2)]) (s_set [1] 3 (p_idxT (p_var (e := (ET PyData.int)) (a := a.1) (i := 0) (m := 2) rfl) (p_var (e := PyData.int) (a := a.2.1) (i := 1) (m := 2) rfl) h1) rfl rfl)
    (s_bind fun l h2 => (s_bind fun l2 h3 => (s_ret (p_tupleF (e := PyData.int) (xs := (sortI ltI l2)) (a_consM (p_sortT (e := PyData.int) (xs := l2) (a_consF (p_catTF (e := PyData.int) (xs := l) (ys := ([a.2.2] : (List Int))) (p_catTF (e := PyData.int) (xs := (cutI a.1 none (some n))) (ys := (cutI a.1 (some (n + (1 : Int))) none)) (p_slTF (e := PyData.int) (xs := a.1) (p_var (e := (ET PyData.int)) (a := a.1) (i := 0) (m := 2) rfl) o_no (o_part (p_var (e := PyData.int) (a := n) (i := 3) (m := 2) rfl))) (p_slTF (e := PyData.int) (xs := a.1) (p_var (e := (ET PyData.int)) (a := a.1) (i := 0) (m := 2) rfl) (o_part (p_add (p_var (e := PyData.int) (a := n) (i := 3) (m := 2) rfl) p_int)) o_no) h2) (p_tupF (ds := [PyData.int a.2.2]) (a_consF (p_var (e := PyData.int) (a := a.2.2) (i := 2) (m := 2) rfl) a_nil) (fl_cons (e := PyData.int) flatL_nil) (Nat.le_of_ble_eq_true rfl)) h3) a_nil) sortO_all (by decide)) a_nil rfl) rfl) rfl)))))) (fun a => (LessE.f2 (e := (ET PyData.int)) (LessE.f2 (e := PyData.int) (LessE.f2 (e := PyData.int) LessE.refl)))) h rfl (by decide)⟩), gx, F.kp, F.binds fun _ _ _ _ _ _ us hl => match us, hl with | [_, _, _], _ => rfl⟩
theorem sc_answers_by_one : FnScope ["table", "stand", "call", "reach", "found", "place", "step"] ["table", "stand", "call", "reach"] (defScope s_answers_by_one) := ⟨rfl, rfl, rfl, by decide +kernel, rfl, by decide +kernel, by decide +kernel⟩
theorem ok_answers_by_one {f : Addr} {fd : FuncData} (F : Fun K "answers_by_one" "answers_by_one" s_answers_by_one f fd) (gx : mg "answers_by_one" = some (.ref f)) (b_sorted : mg "sorted" = none) (b_set : mg "set" = none) (c_sent : Clr P w K mg base "sent" 1 3 R_sent) : Clr P w K mg base "answers_by_one" 2 4 R_answers_by_one :=
  ⟨f, fd, _, F.ok sc_answers_by_one (fun vs H Q E h => spR_len h) (fun cdv A outer s H vs Q E hr h => ⟨_, (pss_cons (ps_if (pt_cmpR (op_inA (room65 hr)) (pv 2) (pv 1) (by rfl)) (pss_one (ps_ret (pe_lst (pa_cons (pe_tupN (pa_cons (pv 1) (pa_cons pe_int pa_nil))) pa_nil)))) pss_nil)
    (pss_cons (ps_set (i := 4) sc_answers_by_one.nd rfl (by first | exact Or.inl rfl | exact Or.inr rfl) (pe_lst pa_nil))
    (pss_cons (ps_for PassesOwn.never rfl (pi_any (pe_callB (cr_sortedSet rfl) (by rfl) b_sorted (by decide +kernel) (pa_cons (pe_callTy (cr_setTI rfl) (by rfl) b_set (by decide +kernel) (pa_cons (pv 1) pa_nil)) pa_nil))) (pg_name (i := 5) sc_answers_by_one.nd rfl (by first | exact Or.inl rfl | exact Or.inr rfl)) (pss_cons (ps_set (i := 6) sc_answers_by_one.nd rfl (by first | exact Or.inl rfl | exact Or.inr rfl) (pe_ix ix_seq (pe_ix ix_seq (pv 0) (pv 5) (fun _ _ => rfl)) (pv 2) (fun _ _ => rfl)))
    (pss_one (ps_if (PW.pt (pw_and (pt_cmpR op_notN (pv 6) pe_non (nomark _)) (pw_and1 (pt_cmpR op_le (pv 6) (pv 3) (nomark _))))) (pss_one (ps_expr (pe_bm PySem.F.plainAttrs_list PySem.F.slot_list_append PySem.F.type_list_append mt_append (pv 4) (pa_cons (pe_tupN (pa_cons (pe_callR c_sent hr (by decide) (pa_cons (pv 1) (pa_cons (pv 5) (pa_cons (pv 2) pa_nil)))) (pa_cons (pv 6) pa_nil))) pa_nil)))) pss_nil))))
    (pss_one (ps_ret (pe_callB (cr_sortedD hr.units) (by rfl) b_sorted (by decide +kernel) (pa_cons (pv 4) pa_nil))))))), body_T (A := ((List (List (Option Int))) × (List Int) × Int × Int)) (encs := fun a => [(EL (EL (EO PyData.int))) a.1, (ET PyData.int) a.2.1, PyData.int a.2.2.1, PyData.int a.2.2.2]) (L := fun a => L_answers_by_one a.1 a.2.1 a.2.2.1 a.2.2.2) (e := (EL (E2 (ET PyData.int) PyData.int))) (r := 2) (Wx := noX) (m := 7) (n := 4) (E1 := fun a => [some ((EL (EL (EO PyData.int))) a.1, 0), some ((ET PyData.int) a.2.1, 2), some (PyData.int a.2.2.1, 2), some (PyData.int a.2.2.2, 2), none, none, none]) (fun a =>
    (s_ifX (t_val (p_inT (x := a.2.2.1) (xs := a.2.1) (p_var (e := PyData.int) (a := a.2.2.1) (i := 2) (m := 2) rfl) (p_var (e := (ET PyData.int)) (a := a.2.1) (i := 1) (m := 2) rfl))) (fun _ => (s_ret (p_lstF (ds := [(E2 (ET PyData.int) PyData.int) (a.2.1, (0 : Int))]) (a_consF (p_tupF (ds := [(ET PyData.int) a.2.1, PyData.int (0 : Int)]) (a_consF (p_var (e := (ET PyData.int)) (a := a.2.1) (i := 1) (m := 2) rfl) (a_consF p_int a_nil)) (fl_cons (e := (ET PyData.int)) (fl_cons (e := PyData.int) flatL_nil)) (Nat.le_of_ble_eq_true rfl)) a_nil) (fl_cons (e := (E2 (ET PyData.int) PyData.int)) flatL_nil) (Nat.le_of_ble_eq_true rfl)) rfl)) nb_rt (fun _ => s_skip (s_let fun found h1 => (s_seq (ρ1 := [some ((EL (EL (EO PyData.int))) a.1, 0), some ((ET PyData.int) a.2.1, 2), some (PyData.int a.2.2.1, 2), some (PyData.int a.2.2.2, 2), some ((EL (E2 (ET PyData.int) PyData.int)) found, 2), none, none]) (s_set [] 4 (p_is (e := (EL (E2 (ET PyData.int) PyData.int))) h1 (p_lstF (ds := []) a_nil flatL_nil (Nat.le_of_ble_eq_true rfl))) rfl rfl)
    (s_bind fun u h2 => (s_seqO (s_forO' (wb := [4, 5, 6]) (e := PyData.int) (xs := (setO' a.2.1)) (f := (fun s x => L_answers_by_one_b1 a.1 a.2.1 a.2.2.1 a.2.2.2 s x)) (s0 := found) (E := (fun (s : (List ((List Int) × Int))) => [some ((EL (EL (EO PyData.int))) a.1, 0), some ((ET PyData.int) a.2.1, 2), some (PyData.int a.2.2.1, 2), some (PyData.int a.2.2.2, 2), some ((EL (E2 (ET PyData.int) PyData.int)) s, 2), none, none])) (fun (s : (List ((List Int) × Int))) x => [some ((EL (EL (EO PyData.int))) a.1, 0), some ((ET PyData.int) a.2.1, 2), some (PyData.int a.2.2.1, 2), some (PyData.int a.2.2.2, 2), some ((EL (E2 (ET PyData.int) PyData.int)) s, 2), some (PyData.int x, 2), none]) (i_seq (e := PyData.int) (xs := (setO' a.2.1)) (p_sortedSet (p_var (e := (ET PyData.int)) (a := a.2.1) (i := 1) (m := 2) rfl) h2) rfl) (vg_name 5) (l_flat (e := PyData.int) rfl (LessE.s (LessE.s (LessE.s (LessE.s (LessE.s (LessE.s (LessE.s LessE.nil)))))))) (fun s x => (tj_2 (e := PyData.int) (a := x) rfl rfl))
    (fun s x _ => VS.mono (s_bind fun x2 h3 => (s_bind fun x3 h4 => (s_seq (ρ1 := [some ((EL (EL (EO PyData.int))) a.1, 0), some ((ET PyData.int) a.2.1, 2), some (PyData.int a.2.2.1, 2), some (PyData.int a.2.2.2, 2), some ((EL (E2 (ET PyData.int) PyData.int)) s, 2), some (PyData.int x, 2), some ((EO PyData.int) x3, 2)]) (s_set [] 6 (p_ixF (d := (EO PyData.int) x3) (p_ixB (d := (EL (EO PyData.int)) x2) [0] (p_varB (d := (EL (EL (EO PyData.int))) a.1) (i := 0) (m := 0) rfl) (p_var (e := PyData.int) (a := x) (i := 5) (m := 2) rfl) (ixL (e := (EL (EO PyData.int))) h3) rfl) (p_var (e := PyData.int) (a := a.2.2.1) (i := 2) (m := 2) rfl) (ixL (e := (EO PyData.int)) h4) (Flat.flat (e := (EO PyData.int)) _)) rfl rfl)
    (s_bind fun b h6 => (s_if (tv_at h6 (c_and (t_val (p_notN (e := PyData.int) (o := x3) (p_var (e := (EO PyData.int)) (a := x3) (i := 6) (m := 2) rfl) p_non)) fun _ => (c_bind fun v h5 => (t_val (p_opF vf_le (p_unO h5 (p_var (e := (EO PyData.int)) (a := x3) (i := 6) (m := 2) rfl)) (p_var (e := PyData.int) (a := a.2.2.2) (i := 3) (m := 2) rfl) rfl))))) (fun _ => (s_bind fun r h7 => (s_bind fun v2 h8 => (s_bind fun found2 h9 => (s_out (s_app [5, 6] 4 (e := (E2 (ET PyData.int) PyData.int)) (xs := s) (x := (r, v2)) (p_tupF (ds := [(ET PyData.int) r, PyData.int v2]) (a_consF (p_callF (e := (ET PyData.int)) (L := fun (a : ((List Int) × Int × Int)) => L_sent a.1 a.2.1 a.2.2) (a := (a.2.1, x, a.2.2.1)) h7 (a_consF (p_var (e := (ET PyData.int)) (a := a.2.1) (i := 1) (m := 2) rfl) (a_consF (p_var (e := PyData.int) (a := x) (i := 5) (m := 2) rfl) (a_consF (p_var (e := PyData.int) (a := a.2.2.1) (i := 2) (m := 2) rfl) a_nil))) rfl rfl) (a_consF (p_unO h8 (p_var (e := (EO PyData.int)) (a := x3) (i := 6) (m := 2) rfl)) a_nil)) (fl_cons (e := (ET PyData.int)) (fl_cons (e := PyData.int) flatL_nil)) (Nat.le_of_ble_eq_true rfl)) rfl (.inr rfl) rfl h9 rfl) (LessE.s (LessE.s (LessE.s (LessE.s (LessE.s (LessE.n (LessE.n LessE.nil)))))))))))) (fun _ => (s_out s_next (LessE.s (LessE.s (LessE.s (LessE.s (LessE.s (LessE.n (LessE.n LessE.nil)))))))))))))) (by decide))) (fun s2 => (s_ret (p_sortL (e := (E2 (ET PyData.int) PyData.int)) (xs := s2) (a_consM (p_varM (d := (EL (E2 (ET PyData.int) PyData.int)) s2) (i := 4) rfl) a_nil rfl) sortO_all (by decide)) rfl))))))))) (fun a => (LessE.z (LessE.f2 (e := (ET PyData.int)) (LessE.f2 (e := PyData.int) (LessE.f2 (e := PyData.int) LessE.refl))))) h rfl (by decide)⟩), gx, F.kp, F.binds fun _ _ _ _ _ _ us hl => match us, hl with | [_, _, _, _], _ => rfl⟩
theorem sc_ways : FnScope ["town", "places", "roads", "found", "first", "second", "length", "middle", "through"] ["town"] (defScope s_ways) := ⟨rfl, rfl, rfl, by decide +kernel, rfl, by decide +kernel, by decide +kernel⟩
theorem ok_ways {f : Addr} {fd : FuncData} (F : Fun K "ways" "ways" s_ways f fd) (gx : mg "ways" = some (.ref f)) (b_range : mg "range" = none) : Clr P w K mg base "ways" 1 1 R_ways :=
  ⟨f, fd, _, F.ok sc_ways (fun vs H Q E h => spR_len h) (fun cdv A outer s H vs Q E hr h => ⟨_, (pss_cons (ps_asg (pv 0) (pg_tup (n := 2) (by rfl) (pgs_cons (pg_name (i := 1) sc_ways.nd rfl (by first | exact Or.inl rfl | exact Or.inr rfl)) (pgs_cons (pg_name (i := 2) sc_ways.nd rfl (by first | exact Or.inl rfl | exact Or.inr rfl)) pgs_nil))))
    (pss_cons (ps_setLc (i := 3) (own := [("first", 4)]) rfl sc_ways.nd rfl rfl (sw_true rfl rfl rfl (by decide +kernel)) (pi_range1 rfl b_range (pa_cons (pv 1) pa_nil)) (blkOk_by (by kernel_rfl)) (fun _ _ _ _ _ => (pg_name (i := 4) sc_ways.nd rfl (by first | exact Or.inl rfl | exact Or.inr rfl))) (fun _ _ _ _ _ => pts_nil) (fun _ _ _ _ _ => (pe_lc (own := [("second", 5)]) rfl sc_ways.nd (pi_range1 rfl b_range (pa_cons (pv 1) pa_nil)) (blkOk_by (by kernel_rfl)) (fun _ _ _ _ _ => (pg_name (i := 5) sc_ways.nd rfl (by first | exact Or.inl rfl | exact Or.inr rfl))) (fun _ _ _ _ _ => pts_nil) (fun _ _ _ _ _ => (pe_ifExp (pt_cmpR (op_eqA hr.units) (pv 4) (pv 5) (nomark _)) pe_int pe_non)))))
    (pss_cons (ps_for PassesOwn.never rfl (pi_any (pv 2)) (pg_tup (n := 3) (by rfl) (pgs_cons (pg_name (i := 4) sc_ways.nd rfl (by first | exact Or.inl rfl | exact Or.inr rfl)) (pgs_cons (pg_name (i := 5) sc_ways.nd rfl (by first | exact Or.inl rfl | exact Or.inr rfl)) (pgs_cons (pg_name (i := 6) sc_ways.nd rfl (by first | exact Or.inl rfl | exact Or.inr rfl)) pgs_nil)))) (pss_cons (ps_asg (pv 6) (pg_sub (pe_ix ix_seq (pv 3) (pv 4) (fun _ _ => rfl)) (pv 5) set_list))
    (pss_one (ps_asg (pv 6) (pg_sub (pe_ix ix_seq (pv 3) (pv 5) (fun _ _ => rfl)) (pv 4) set_list)))))
    (pss_cons (ps_for PassesOwn.never rfl (pi_range1 rfl b_range (pa_cons (pv 1) pa_nil)) (pg_name (i := 7) sc_ways.nd rfl (by first | exact Or.inl rfl | exact Or.inr rfl)) (pss_one (ps_for PassesOwn.never rfl (pi_range1 rfl b_range (pa_cons (pv 1) pa_nil)) (pg_name (i := 4) sc_ways.nd rfl (by first | exact Or.inl rfl | exact Or.inr rfl)) (pss_one (ps_for PassesOwn.never rfl (pi_range1 rfl b_range (pa_cons (pv 1) pa_nil)) (pg_name (i := 5) sc_ways.nd rfl (by first | exact Or.inl rfl | exact Or.inr rfl)) (pss_one (ps_if (PW.pt (pw_and (pt_cmpR op_notN (pe_ix ix_seq (pe_ix ix_seq (pv 3) (pv 4) (fun _ _ => rfl)) (pv 7) (fun _ _ => rfl)) pe_non (nomark _)) (pw_and1 (pt_cmpR op_notN (pe_ix ix_seq (pe_ix ix_seq (pv 3) (pv 7) (fun _ _ => rfl)) (pv 5) (fun _ _ => rfl)) pe_non (nomark _))))) (pss_cons (ps_set (i := 8) sc_ways.nd rfl (by first | exact Or.inl rfl | exact Or.inr rfl) (pe_op op_addA (pe_ix ix_seq (pe_ix ix_seq (pv 3) (pv 4) (fun _ _ => rfl)) (pv 7) (fun _ _ => rfl)) (pe_ix ix_seq (pe_ix ix_seq (pv 3) (pv 7) (fun _ _ => rfl)) (pv 5) (fun _ _ => rfl))))
    (pss_one (ps_if (PW.pt (pw_or (pt_cmpR op_isN (pe_ix ix_seq (pe_ix ix_seq (pv 3) (pv 4) (fun _ _ => rfl)) (pv 5) (fun _ _ => rfl)) pe_non (nomark _)) (pw_or1 (pt_cmpR op_lt (pv 8) (pe_ix ix_seq (pe_ix ix_seq (pv 3) (pv 4) (fun _ _ => rfl)) (pv 5) (fun _ _ => rfl)) (nomark _))))) (pss_one (ps_asg (pv 8) (pg_sub (pe_ix ix_seq (pv 3) (pv 4) (fun _ _ => rfl)) (pv 5) set_list))) pss_nil))) pss_nil)))))))
    (pss_one (ps_ret (pv 3))))))), body_T (A := (Int × (List (Int × Int × Int)))) (encs := fun a => [(E2 PyData.int (EL (E3 PyData.int PyData.int PyData.int))) a]) (L := fun a => L_ways a) (e := (EL (EL (EO PyData.int)))) (r := 2) (Wx := noX) (m := 9) (n := 1) (E1 := fun a => [some ((E2 PyData.int (EL (E3 PyData.int PyData.int PyData.int))) a, 0), none, none, none, none, none, none, none, none]) (fun a =>
    (s_seq (ρ1 := [some ((E2 PyData.int (EL (E3 PyData.int PyData.int PyData.int))) a, 0), some (PyData.int a.1, 2), some ((EL (E3 PyData.int PyData.int PyData.int)) a.2, 0), none, none, none, none, none, none]) (s_asgJ (vg_tup (vgs_cons (vg_name 1) (vgs_cons (vg_name 2) vgs_nil))) (p_varB (d := (E2 PyData.int (EL (E3 PyData.int PyData.int PyData.int))) a) (i := 0) (m := 0) rfl) (tj_T (tj_cons (tj_2 (e := PyData.int) (a := a.1) rfl rfl) (tj_cons (tj_0 rfl rfl) tj_nil)) rfl))
    (s_bind fun l h1 => (s_bind fun u2 h4 => (s_bind fun l3 h5 => (s_seq (ρ1 := [some ((E2 PyData.int (EL (E3 PyData.int PyData.int PyData.int))) a, 0), some (PyData.int a.1, 2), some ((EL (E3 PyData.int PyData.int PyData.int)) a.2, 0), some ((EL (EL (EO PyData.int))) l3, 2), none, none, none, none, none]) (s_set [] 3 (q_lcM (e := PyData.int) (xs := l) (e' := (EL (EO PyData.int))) (c := fun _ => some true) (f := fun x => (range1 a.1).bind fun l2 => (chk (decide (l2.length ≤ 1000000))).bind fun u => some (l2.map fun x2 => (if decide (x = x2) = true then (some (0 : Int)) else (none : (Option Int))))) (fun x => [some ((E2 PyData.int (EL (E3 PyData.int PyData.int PyData.int))) a, 0), some (PyData.int a.1, 0), some ((EL (E3 PyData.int PyData.int PyData.int)) a.2, 0), none, some (PyData.int x, 2), none, none, none, none]) (i_range1 (a_consF (p_var (e := PyData.int) (a := a.1) (i := 1) (m := 2) rfl) a_nil) h1) (vg_name 4) (fun x => (tj_2 (e := PyData.int) (a := x) rfl rfl)) (fun x _ => t_yes) (fun x _ => (ev_bind fun l2 h2 => (ev_bind fun u h3 => (q_lcF (e := PyData.int) (xs := l2) (e' := (EO PyData.int)) (c := fun _ => some true) (f := fun x2 => some (if decide (x = x2) = true then (some (0 : Int)) else (none : (Option Int)))) (fun x2 => [some ((E2 PyData.int (EL (E3 PyData.int PyData.int PyData.int))) a, 0), some (PyData.int a.1, 0), some ((EL (E3 PyData.int PyData.int PyData.int)) a.2, 0), none, some (PyData.int x, 0), some (PyData.int x2, 2), none, none, none]) (i_range1 (a_consF (p_var (e := PyData.int) (a := a.1) (i := 1) (m := 0) rfl) a_nil) h2) (vg_name 5) (fun x2 => (tj_2 (e := PyData.int) (a := x2) rfl rfl)) (fun x2 _ => t_yes) (fun x2 _ => (p_if (e := (EO PyData.int)) (x := (some (0 : Int))) (y := (none : (Option Int))) (t_val (p_eq (e := PyData.int) (a := x) (b := x2) (p_var (e := PyData.int) (a := x) (i := 4) (m := 0) rfl) (p_var (e := PyData.int) (a := x2) (i := 5) (m := 2) rfl) (by decide))) (fun _ => p_int) (fun _ => p_non))) h3 filO_all (by decide))))) h4 (filO_yes.trans h5) (by decide)) rfl rfl)
    (s_seqO (s_forO' (wb := [3, 6]) (e := (E3 PyData.int PyData.int PyData.int)) (xs := a.2) (f := (fun s x3 => L_ways_b1 s x3.1 x3.2.1 x3.2.2)) (s0 := l3) (E := (fun (s : (List (List (Option Int)))) => [none, some (PyData.int a.1, 2), none, some ((EL (EL (EO PyData.int))) s, 2), none, none, none, none, none])) (fun (s : (List (List (Option Int)))) x3 => [none, some (PyData.int a.1, 2), none, some ((EL (EL (EO PyData.int))) s, 2), some (PyData.int x3.1, 2), some (PyData.int x3.2.1, 2), some (PyData.int x3.2.2, 2), none, none]) (i_seq (e := (E3 PyData.int PyData.int PyData.int)) (xs := a.2) (p_varB (d := (EL (E3 PyData.int PyData.int PyData.int)) a.2) (i := 2) (m := 0) rfl) rfl) (vg_tup (vgs_cons (vg_name 4) (vgs_cons (vg_name 5) (vgs_cons (vg_name 6) vgs_nil)))) (l_flat (e := (E3 PyData.int PyData.int PyData.int)) rfl (LessE.n (LessE.s (LessE.n (LessE.s (LessE.s (LessE.s (LessE.s (LessE.s (LessE.s LessE.nil)))))))))) (fun s x3 => (tj_T (tj_cons (tj_2 (e := PyData.int) (a := x3.1) rfl rfl) (tj_cons (tj_2 (e := PyData.int) (a := x3.2.1) rfl rfl) (tj_cons (tj_2 (e := PyData.int) (a := x3.2.2) rfl rfl) tj_nil))) rfl))
    (fun s x3 _ => VS.mono (s_bind fun found h6 => (s_seq (ρ1 := [none, some (PyData.int a.1, 2), none, some ((EL (EL (EO PyData.int))) found, 2), some (PyData.int x3.1, 2), some (PyData.int x3.2.1, 2), some (PyData.int x3.2.2, 2), none, none]) (s_idx2 [] 3 (e := (EO PyData.int)) (xs := s) (x := (some x3.2.2)) (p_var (e := PyData.int) (a := x3.2.2) (i := 6) (m := 2) rfl) (p_var (e := PyData.int) (a := x3.1) (i := 4) (m := 2) rfl) (p_var (e := PyData.int) (a := x3.2.1) (i := 5) (m := 2) rfl) rfl rfl rfl h6 rfl)
    (s_bind fun found2 h7 => (s_out (s_idx2 [6] 3 (e := (EO PyData.int)) (xs := found) (x := (some x3.2.2)) (p_var (e := PyData.int) (a := x3.2.2) (i := 6) (m := 2) rfl) (p_var (e := PyData.int) (a := x3.2.1) (i := 5) (m := 2) rfl) (p_var (e := PyData.int) (a := x3.1) (i := 4) (m := 2) rfl) rfl rfl rfl h7 rfl) (LessE.s (LessE.s (LessE.s (LessE.s (LessE.n (LessE.n (LessE.n (LessE.s (LessE.s LessE.nil))))))))))))) (by decide))) (fun s2 => (s_bind fun l4 h8 => (s_seqO (s_forO' (wb := [3, 4, 5, 8]) (e := PyData.int) (xs := l4) (f := (fun s3 x4 => L_ways_b4 a.1 s3 x4)) (s0 := s2) (E := (fun (s3 : (List (List (Option Int)))) => [none, some (PyData.int a.1, 2), none, some ((EL (EL (EO PyData.int))) s3, 2), none, none, none, none, none])) (fun (s3 : (List (List (Option Int)))) x4 => [none, some (PyData.int a.1, 2), none, some ((EL (EL (EO PyData.int))) s3, 2), none, none, none, some (PyData.int x4, 2), none]) (i_range1 (a_consF (p_var (e := PyData.int) (a := a.1) (i := 1) (m := 2) rfl) a_nil) h8) (vg_name 7) (l_flat (e := PyData.int) rfl (LessE.s (LessE.s (LessE.s (LessE.s (LessE.s (LessE.s (LessE.s (LessE.s (LessE.s LessE.nil)))))))))) (fun s3 x4 => (tj_2 (e := PyData.int) (a := x4) rfl rfl))
    (fun s3 x4 _ => VS.mono (s_bind fun l5 h9 => (s_lastO (s_forO' (wb := [3, 5, 8]) (e := PyData.int) (xs := l5) (f := (fun s4 x5 => L_ways_b3 a.1 x4 s4 x5)) (s0 := s3) (E := (fun (s4 : (List (List (Option Int)))) => [none, some (PyData.int a.1, 2), none, some ((EL (EL (EO PyData.int))) s4, 2), none, none, none, some (PyData.int x4, 2), none])) (fun (s4 : (List (List (Option Int)))) x5 => [none, some (PyData.int a.1, 2), none, some ((EL (EL (EO PyData.int))) s4, 2), some (PyData.int x5, 2), none, none, some (PyData.int x4, 2), none]) (i_range1 (a_consF (p_var (e := PyData.int) (a := a.1) (i := 1) (m := 2) rfl) a_nil) h9) (vg_name 4) (l_flat (e := PyData.int) rfl (LessE.s (LessE.s (LessE.s (LessE.s (LessE.s (LessE.s (LessE.s (LessE.s (LessE.s LessE.nil)))))))))) (fun s4 x5 => (tj_2 (e := PyData.int) (a := x5) rfl rfl))
    (fun s4 x5 _ => VS.mono (s_bind fun l6 h10 => (s_lastO (s_forO' (wb := [3, 8]) (e := PyData.int) (xs := l6) (f := (fun s5 x6 => L_ways_b2 x5 x4 s5 x6)) (s0 := s4) (E := (fun (s5 : (List (List (Option Int)))) => [none, some (PyData.int a.1, 2), none, some ((EL (EL (EO PyData.int))) s5, 2), some (PyData.int x5, 2), none, none, some (PyData.int x4, 2), none])) (fun (s5 : (List (List (Option Int)))) x6 => [none, some (PyData.int a.1, 2), none, some ((EL (EL (EO PyData.int))) s5, 2), some (PyData.int x5, 2), some (PyData.int x6, 2), none, some (PyData.int x4, 2), none]) (i_range1 (a_consF (p_var (e := PyData.int) (a := a.1) (i := 1) (m := 2) rfl) a_nil) h10) (vg_name 5) (l_flat (e := PyData.int) rfl (LessE.s (LessE.s (LessE.s (LessE.s (LessE.s (LessE.s (LessE.s (LessE.s (LessE.s LessE.nil)))))))))) (fun s5 x6 => (tj_2 (e := PyData.int) (a := x6) rfl rfl))
    (fun s5 x6 _ => VS.mono (s_bind fun x7 h11 => (s_bind fun x8 h12 => (s_bind fun b h15 => (s_if (tv_at h15 (c_and (t_val (p_notN (e := PyData.int) (o := x8) (p_ixF (d := (EO PyData.int) x8) (p_ixM (d := (EL (EO PyData.int)) x7) (p_varM (d := (EL (EL (EO PyData.int))) s5) (i := 3) rfl) (p_var (e := PyData.int) (a := x5) (i := 4) (m := 2) rfl) (ixL (e := (EL (EO PyData.int))) h11)) (p_var (e := PyData.int) (a := x4) (i := 7) (m := 2) rfl) (ixL (e := (EO PyData.int)) h12) (Flat.flat (e := (EO PyData.int)) _)) p_non)) fun _ => (c_bind fun x9 h13 => (c_bind fun x10 h14 => (t_val (p_notN (e := PyData.int) (o := x10) (p_ixF (d := (EO PyData.int) x10) (p_ixM (d := (EL (EO PyData.int)) x9) (p_varM (d := (EL (EL (EO PyData.int))) s5) (i := 3) rfl) (p_var (e := PyData.int) (a := x4) (i := 7) (m := 2) rfl) (ixL (e := (EL (EO PyData.int))) h13)) (p_var (e := PyData.int) (a := x6) (i := 5) (m := 2) rfl) (ixL (e := (EO PyData.int)) h14) (Flat.flat (e := (EO PyData.int)) _)) p_non)))))) (fun _ => (s_bind fun x11 h16 => (s_bind fun x12 h17 => (s_bind fun v h18 => (s_bind fun x13 h19 => (s_bind fun x14 h20 => (s_bind fun v2 h21 => (s_let fun through h22 => (s_seq (ρ1 := [none, some (PyData.int a.1, 2), none, some ((EL (EL (EO PyData.int))) s5, 2), some (PyData.int x5, 2), some (PyData.int x6, 2), none, some (PyData.int x4, 2), some (PyData.int through, 2)]) (s_set [] 8 (p_is (e := PyData.int) h22 (p_add (p_unO h18 (p_ixF (d := (EO PyData.int) x12) (p_ixM (d := (EL (EO PyData.int)) x11) (p_varM (d := (EL (EL (EO PyData.int))) s5) (i := 3) rfl) (p_var (e := PyData.int) (a := x5) (i := 4) (m := 2) rfl) (ixL (e := (EL (EO PyData.int))) h16)) (p_var (e := PyData.int) (a := x4) (i := 7) (m := 2) rfl) (ixL (e := (EO PyData.int)) h17) (Flat.flat (e := (EO PyData.int)) _))) (p_unO h21 (p_ixF (d := (EO PyData.int) x14) (p_ixM (d := (EL (EO PyData.int)) x13) (p_varM (d := (EL (EL (EO PyData.int))) s5) (i := 3) rfl) (p_var (e := PyData.int) (a := x4) (i := 7) (m := 2) rfl) (ixL (e := (EL (EO PyData.int))) h19)) (p_var (e := PyData.int) (a := x6) (i := 5) (m := 2) rfl) (ixL (e := (EO PyData.int)) h20) (Flat.flat (e := (EO PyData.int)) _))))) rfl rfl)
    (s_bind fun x15 h23 => (s_bind fun x16 h24 => (s_bind fun b2 h28 => (s_if (tv_at h28 (c_or (t_val (p_isN (e := PyData.int) (o := x16) (p_ixF (d := (EO PyData.int) x16) (p_ixM (d := (EL (EO PyData.int)) x15) (p_varM (d := (EL (EL (EO PyData.int))) s5) (i := 3) rfl) (p_var (e := PyData.int) (a := x5) (i := 4) (m := 2) rfl) (ixL (e := (EL (EO PyData.int))) h23)) (p_var (e := PyData.int) (a := x6) (i := 5) (m := 2) rfl) (ixL (e := (EO PyData.int)) h24) (Flat.flat (e := (EO PyData.int)) _)) p_non)) fun _ => (c_bind fun x17 h25 => (c_bind fun x18 h26 => (c_bind fun v3 h27 => (t_val (p_opF vf_lt (p_var (e := PyData.int) (a := through) (i := 8) (m := 2) rfl) (p_unO h27 (p_ixF (d := (EO PyData.int) x18) (p_ixM (d := (EL (EO PyData.int)) x17) (p_varM (d := (EL (EL (EO PyData.int))) s5) (i := 3) rfl) (p_var (e := PyData.int) (a := x5) (i := 4) (m := 2) rfl) (ixL (e := (EL (EO PyData.int))) h25)) (p_var (e := PyData.int) (a := x6) (i := 5) (m := 2) rfl) (ixL (e := (EO PyData.int)) h26) (Flat.flat (e := (EO PyData.int)) _))) rfl))))))) (fun _ => (s_bind fun found3 h29 => (s_out (s_idx2 [8] 3 (e := (EO PyData.int)) (xs := s5) (x := (some through)) (p_var (e := PyData.int) (a := through) (i := 8) (m := 2) rfl) (p_var (e := PyData.int) (a := x5) (i := 4) (m := 2) rfl) (p_var (e := PyData.int) (a := x6) (i := 5) (m := 2) rfl) rfl rfl rfl h29 rfl) (LessE.s (LessE.s (LessE.s (LessE.s (LessE.s (LessE.n (LessE.s (LessE.s (LessE.n LessE.nil)))))))))))) (fun _ => (s_out s_next (LessE.s (LessE.s (LessE.s (LessE.s (LessE.s (LessE.n (LessE.s (LessE.s (LessE.n LessE.nil)))))))))))))))))))))))) (fun _ => (s_out s_next (LessE.s (LessE.s (LessE.s (LessE.s (LessE.s (LessE.n (LessE.s (LessE.s (LessE.s LessE.nil))))))))))))))) (by decide))) (fun s6 => (LessE.s (LessE.s (LessE.s (LessE.s (LessE.n (LessE.s (LessE.s (LessE.s (LessE.s LessE.nil)))))))))))) (by decide))) (fun s7 => (LessE.s (LessE.s (LessE.s (LessE.s (LessE.s (LessE.s (LessE.s (LessE.n (LessE.s LessE.nil)))))))))))) (by decide))) (fun s8 => (s_ret (p_varM (d := (EL (EL (EO PyData.int))) s8) (i := 3) rfl) rfl)))))))))))) (fun a => (LessE.z LessE.refl)) h rfl (by decide)⟩), gx, F.kp, F.binds fun _ _ _ _ _ _ us hl => match us, hl with | [_], _ => rfl⟩
theorem sc_answers : FnScope ["town", "stand", "call", "rule", "reach"] ["town", "stand", "call", "rule", "reach"] (defScope s_answers) := ⟨rfl, rfl, rfl, by decide +kernel, rfl, by decide +kernel, by decide +kernel⟩
theorem ok_answers {f : Addr} {fd : FuncData} (F : Fun K "answers" "answers" s_answers f fd) (gx : mg "answers" = some (.ref f)) (c_answers_by_all : Clr P w K mg base "answers_by_all" 2 4 R_answers_by_all) (c_answers_by_one : Clr P w K mg base "answers_by_one" 2 4 R_answers_by_one) (c_ways : Clr P w K mg base "ways" 1 1 R_ways) : Ckr P w K mg base "answers" 3 5 R_answers 3 ["rule", "reach"] := by
  refine ⟨f, fd, _, F.ok sc_answers (fun vs H Q E h => spR_len h) (fun cdv A outer s H vs Q E hr h => ⟨_, (pss_cons (ps_if (pt_cmpR (op_eqA hr.units) (pv 3) pe_str (nomark _)) (pss_one (ps_ret (pe_callR c_answers_by_one hr (by decide) (pa_cons (pe_callR c_ways hr (by decide) (pa_cons (pv 0) pa_nil)) (pa_cons (pv 1) (pa_cons (pv 2) (pa_cons (pv 4) pa_nil))))))) pss_nil)
    (pss_one (ps_ret (pe_callR c_answers_by_all hr (by decide) (pa_cons (pe_callR c_ways hr (by decide) (pa_cons (pv 0) pa_nil)) (pa_cons (pv 1) (pa_cons (pv 2) (pa_cons (pv 4) pa_nil)))))))), body_T (A := ((Int × (List (Int × Int × Int))) × (List Int) × Int × Str × Int)) (encs := fun a => [(E2 PyData.int (EL (E3 PyData.int PyData.int PyData.int))) a.1, (ET PyData.int) a.2.1, PyData.int a.2.2.1, PyData.str a.2.2.2.1, PyData.int a.2.2.2.2]) (L := fun a => L_answers a.1 a.2.1 a.2.2.1 a.2.2.2.1 a.2.2.2.2) (e := (EL (E2 (ET PyData.int) PyData.int))) (r := 2) (Wx := noX) (m := 5) (n := 5) (E1 := fun a => [some ((E2 PyData.int (EL (E3 PyData.int PyData.int PyData.int))) a.1, 0), some ((ET PyData.int) a.2.1, 2), some (PyData.int a.2.2.1, 2), some (PyData.str a.2.2.2.1, 2), some (PyData.int a.2.2.2.2, 2)]) (fun a =>
    (s_ifX (t_val (p_eqS (p_var (e := PyData.str) (a := a.2.2.2.1) (i := 3) (m := 2) rfl) p_str)) (fun _ => (s_bind fun r h1 => (s_bind fun r2 h2 => (s_ret (p_call2 (e := (EL (E2 (ET PyData.int) PyData.int))) (L := fun (a : ((List (List (Option Int))) × (List Int) × Int × Int)) => L_answers_by_one a.1 a.2.1 a.2.2.1 a.2.2.2) (a := (r, a.2.1, a.2.2.1, a.2.2.2.2)) h2 (a_consM (p_call2 (e := (EL (EL (EO PyData.int)))) (L := fun (a : (Int × (List (Int × Int × Int)))) => L_ways a) (a := a.1) h1 (a_consB (p_varB (d := (E2 PyData.int (EL (E3 PyData.int PyData.int PyData.int))) a.1) (i := 0) (m := 0) rfl) a_nil [0] rfl) rfl rfl) (a_consF (p_var (e := (ET PyData.int)) (a := a.2.1) (i := 1) (m := 2) rfl) (a_consF (p_var (e := PyData.int) (a := a.2.2.1) (i := 2) (m := 2) rfl) (a_consF (p_var (e := PyData.int) (a := a.2.2.2.2) (i := 4) (m := 2) rfl) a_nil))) rfl) rfl rfl) rfl)))) nb_rt (fun _ => s_skip (s_bind fun r3 h3 => (s_bind fun r4 h4 => (s_ret (p_call2 (e := (EL (E2 (ET PyData.int) PyData.int))) (L := fun (a : ((List (List (Option Int))) × (List Int) × Int × Int)) => L_answers_by_all a.1 a.2.1 a.2.2.1 a.2.2.2) (a := (r3, a.2.1, a.2.2.1, a.2.2.2.2)) h4 (a_consM (p_call2 (e := (EL (EL (EO PyData.int)))) (L := fun (a : (Int × (List (Int × Int × Int)))) => L_ways a) (a := a.1) h3 (a_consB (p_varB (d := (E2 PyData.int (EL (E3 PyData.int PyData.int PyData.int))) a.1) (i := 0) (m := 0) rfl) a_nil [0] rfl) rfl rfl) (a_consF (p_var (e := (ET PyData.int)) (a := a.2.1) (i := 1) (m := 2) rfl) (a_consF (p_var (e := PyData.int) (a := a.2.2.1) (i := 2) (m := 2) rfl) (a_consF (p_var (e := PyData.int) (a := a.2.2.2.2) (i := 4) (m := 2) rfl) a_nil))) rfl) rfl rfl) rfl)))))) (fun a => (LessE.z (LessE.f2 (e := (ET PyData.int)) (LessE.f2 (e := PyData.int) (LessE.f2 (e := PyData.str) (LessE.f2 (e := PyData.int) LessE.refl)))))) h rfl (by decide)⟩), gx, F.kp, ?_⟩
  exact kbinds_of F (by intro us ws kV doc pm an cdv ct hu hw; match us, ws, hu, hw with | [_, _, _], [_, _], _, _ => rfl)
theorem sc_is_answered : FnScope ["town", "stands", "calls", "rule", "reach", "at", "call", "stand", "length"] ["town", "stands", "calls", "rule", "reach"] (defScope s_is_answered) := ⟨rfl, rfl, rfl, by decide +kernel, rfl, by decide +kernel, by decide +kernel⟩
theorem ok_is_answered {f : Addr} {fd : FuncData} (F : Fun K "is_answered" "is_answered" s_is_answered f fd) (gx : mg "is_answered" = some (.ref f)) (b_len : mg "len" = none) (b_enumerate : mg "enumerate" = none) (c_answers : Ckr P w K mg base "answers" 3 5 R_answers 3 ["rule", "reach"]) : Ckr P w K mg base "is_answered" 4 5 R_is_answered 3 ["rule", "reach"] := by
  refine ⟨f, fd, _, F.ok sc_is_answered (fun vs H Q E h => spR_len h) (fun cdv A outer s H vs Q E hr h => ⟨_, (pss_cons (ps_if (pt_cmpR (op_neA hr.units) (pe_callB call_len (by rfl) b_len (by decide +kernel) (pa_cons (pv 1) pa_nil)) (pe_op op_addA (pe_callB call_len (by rfl) b_len (by decide +kernel) (pa_cons (pv 2) pa_nil)) pe_int) (nomark _)) (pss_one (ps_ret pe_bl)) pss_nil)
    (pss_cons (ps_for PassesOwn.never rfl (EnT.pi_enumA rfl b_enumerate (pa_cons (pv 2) pa_nil)) (pg_tup (n := 2) (by rfl) (pgs_cons (pg_name (i := 5) sc_is_answered.nd rfl (by first | exact Or.inl rfl | exact Or.inr rfl)) (pgs_cons (pg_name (i := 6) sc_is_answered.nd rfl (by first | exact Or.inl rfl | exact Or.inr rfl)) pgs_nil))) (pss_one (ps_if (pt_cmpR (op_notInA (room65 hr)) (pe_ix ix_seq (pv 1) (pe_op op_addA (pv 5) pe_int) (fun _ _ => rfl)) (pe_lc (own := [("stand", 7), ("length", 8)]) rfl sc_is_answered.nd (pi_any (pe_callKR c_answers hr (by decide) (pa_cons (pv 0) (pa_cons (pe_ix ix_seq (pv 1) (pv 5) (fun _ _ => rfl)) (pa_cons (pv 6) pa_nil))) (pk_cons (pv 3) (pk_cons (pv 4) pk_nil)))) (blkOk_by (by kernel_rfl)) (fun _ _ _ _ _ => (pg_tup (n := 2) (by rfl) (pgs_cons (pg_name (i := 7) sc_is_answered.nd rfl (by first | exact Or.inl rfl | exact Or.inr rfl)) (pgs_cons (pg_name (i := 8) sc_is_answered.nd rfl (by first | exact Or.inl rfl | exact Or.inr rfl)) pgs_nil)))) (fun _ _ _ _ _ => pts_nil) (fun _ _ _ _ _ => (pv 7))) (by rfl)) (pss_one (ps_ret pe_bl)) pss_nil)))
    (pss_one (ps_ret pe_bl)))), body_T (A := ((Int × (List (Int × Int × Int))) × (List (List Int)) × (List Int) × Str × Int)) (encs := fun a => [(E2 PyData.int (EL (E3 PyData.int PyData.int PyData.int))) a.1, (EL (ET PyData.int)) a.2.1, (EL PyData.int) a.2.2.1, PyData.str a.2.2.2.1, PyData.int a.2.2.2.2]) (L := fun a => L_is_answered a.1 a.2.1 a.2.2.1 a.2.2.2.1 a.2.2.2.2) (e := PyData.bool) (r := 2) (Wx := noX) (m := 9) (n := 5) (E1 := fun a => [some ((E2 PyData.int (EL (E3 PyData.int PyData.int PyData.int))) a.1, 0), some ((EL (ET PyData.int)) a.2.1, 0), some ((EL PyData.int) a.2.2.1, 0), some (PyData.str a.2.2.2.1, 2), some (PyData.int a.2.2.2.2, 2), none, none, none, none]) (fun a =>
    (s_ifX (t_val (p_ne (e := PyData.int) (a := (a.2.1.length : Int)) (b := ((a.2.2.1.length : Int) + (1 : Int))) (p_cb vf_len (a_consB (p_varB (d := (EL (ET PyData.int)) a.2.1) (i := 1) (m := 0) rfl) a_nil [1] rfl) lenL) (p_add (p_cb vf_len (a_consB (p_varB (d := (EL PyData.int) a.2.2.1) (i := 2) (m := 0) rfl) a_nil [2] rfl) lenL) p_int) (by decide))) (fun _ => (s_ret p_bl rfl)) nb_rt (fun _ => s_skip (s_seqR (s_forC' (wb := []) (e := (EW (E2 PyData.int PyData.int))) (xs := (enumI a.2.2.1 0)) (f := (fun s x => L_is_answered_b1 a.1 a.2.1 a.2.2.2.1 a.2.2.2.2 x.1 x.2)) (s0 := ()) (E := (fun (s : Unit) => [some ((E2 PyData.int (EL (E3 PyData.int PyData.int PyData.int))) a.1, 0), some ((EL (ET PyData.int)) a.2.1, 0), none, some (PyData.str a.2.2.2.1, 2), some (PyData.int a.2.2.2.2, 2), none, none, none, none])) (eR := PyData.bool) (r := 2) (fun (s : Unit) x => [some ((E2 PyData.int (EL (E3 PyData.int PyData.int PyData.int))) a.1, 0), some ((EL (ET PyData.int)) a.2.1, 0), none, some (PyData.str a.2.2.2.1, 2), some (PyData.int a.2.2.2.2, 2), some (PyData.int x.1, 2), some (PyData.int x.2, 2), none, none]) (i_enum (e := PyData.int) (xs := a.2.2.1) (a_consB (p_varB (d := (EL PyData.int) a.2.2.1) (i := 2) (m := 0) rfl) a_nil [2] rfl) rfl) (vg_tup (vgs_cons (vg_name 5) (vgs_cons (vg_name 6) vgs_nil))) (l_flat (e := (EW (E2 PyData.int PyData.int))) rfl (LessE.s (LessE.s (LessE.n (LessE.s (LessE.s (LessE.s (LessE.s (LessE.s (LessE.s LessE.nil)))))))))) (fun s x => (tj_W (tj_cons (tj_2 (e := PyData.int) (a := x.1) rfl rfl) (tj_cons (tj_2 (e := PyData.int) (a := x.2) rfl rfl) tj_nil)) rfl))
    (fun s x _ => VS.mono (s_bind fun x2 h1 => (s_bind fun x3 h2 => (s_bind fun r h3 => (s_bind fun u h4 => (s_if (t_val (p_nin (e := (ET PyData.int)) (x := x2) (xs := (r.map fun x4 => x4.1)) (p_ixF (d := (ET PyData.int) x2) (p_varB (d := (EL (ET PyData.int)) a.2.1) (i := 1) (m := 0) rfl) (p_add (p_var (e := PyData.int) (a := x.1) (i := 5) (m := 2) rfl) p_int) (ixL (e := (ET PyData.int)) h1) (Flat.flat (e := (ET PyData.int)) _)) (q_lcF (e := (E2 (ET PyData.int) PyData.int)) (xs := r) (e' := (ET PyData.int)) (c := fun _ => some true) (f := fun x4 => some x4.1) (fun x4 => [some ((E2 PyData.int (EL (E3 PyData.int PyData.int PyData.int))) a.1, 0), some ((EL (ET PyData.int)) a.2.1, 0), none, some (PyData.str a.2.2.2.1, 0), some (PyData.int a.2.2.2.2, 0), some (PyData.int x.1, 0), some (PyData.int x.2, 0), some ((ET PyData.int) x4.1, 2), some (PyData.int x4.2, 2)]) (i_seq (e := (E2 (ET PyData.int) PyData.int)) (xs := r) (p_callN2 (e := (EL (E2 (ET PyData.int) PyData.int))) (L := fun (a : ((Int × (List (Int × Int × Int))) × (List Int) × Int × Str × Int)) => L_answers a.1 a.2.1 a.2.2.1 a.2.2.2.1 a.2.2.2.2) (a := (a.1, x3, x.2, a.2.2.2.1, a.2.2.2.2)) h3 (a_consB (p_varB (d := (E2 PyData.int (EL (E3 PyData.int PyData.int PyData.int))) a.1) (i := 0) (m := 0) rfl) (a_consF (p_ixF (d := (ET PyData.int) x3) (p_varB (d := (EL (ET PyData.int)) a.2.1) (i := 1) (m := 0) rfl) (p_var (e := PyData.int) (a := x.1) (i := 5) (m := 2) rfl) (ixL (e := (ET PyData.int)) h2) (Flat.flat (e := (ET PyData.int)) _)) (a_consF (p_var (e := PyData.int) (a := x.2) (i := 6) (m := 2) rfl) a_nil)) [0] rfl) (a_consF (p_var (e := PyData.str) (a := a.2.2.2.1) (i := 3) (m := 2) rfl) (a_consF (p_var (e := PyData.int) (a := a.2.2.2.2) (i := 4) (m := 2) rfl) a_nil)) rfl rfl rfl rfl) rfl) (vg_tup (vgs_cons (vg_name 7) (vgs_cons (vg_name 8) vgs_nil))) (fun x4 => (tj_T (tj_cons (tj_2 (e := (ET PyData.int)) (a := x4.1) rfl rfl) (tj_cons (tj_2 (e := PyData.int) (a := x4.2) rfl rfl) tj_nil)) rfl)) (fun x4 _ => t_yes) (fun x4 _ => (p_var (e := (ET PyData.int)) (a := x4.1) (i := 7) (m := 2) rfl)) h4 filO_all (by decide)) (by decide))) (fun _ => (s_ret p_bl rfl)) (fun _ => (s_out s_next (LessE.s (LessE.s (LessE.s (LessE.s (LessE.s (LessE.n (LessE.n (LessE.s (LessE.s LessE.nil)))))))))))))))) (by decide))) (fun s2 => (s_ret p_bl rfl)) (fun _ => rfl))))) (fun a => (LessE.z (LessE.z (LessE.z (LessE.f2 (e := PyData.str) (LessE.f2 (e := PyData.int) LessE.refl)))))) h rfl (by decide)⟩), gx, F.kp, ?_⟩
  exact kbinds_of F (by intro us ws kV doc pm an cdv ct hu hw; match us, ws, hu, hw with | [_, _, _], [_, _], _, _ => rfl)
theorem sc_law_is_answered : FnScope ["_law_rows", "_law_stands_here", "_law_calls", "_law_rule", "_law_reach", "_law_k", "_law_one", "_law_step"] ["_law_rows", "_law_stands_here", "_law_calls", "_law_rule", "_law_reach"] (defScope s_law_is_answered) := ⟨rfl, rfl, rfl, by decide +kernel, rfl, by decide +kernel, by decide +kernel⟩
theorem ok_law_is_answered {f : Addr} {fd : FuncData} (F : Fun K "_law_is_answered" "_law_is_answered" s_law_is_answered f fd) (gx : mg "_law_is_answered" = some (.ref f)) (b_len : mg "len" = none) (b_range : mg "range" = none) (c_law_answers : Clr P w K mg base "_law_answers" 9 5 R_law_answers) : Clr P w K mg base "_law_is_answered" 10 5 R_law_is_answered :=
  ⟨f, fd, _, F.ok sc_law_is_answered (fun vs H Q E h => spR_len h) (fun cdv A outer s H vs Q E hr h => ⟨_, (pss_cons (ps_if (pt_cmpR (op_neA hr.units) (pe_callB call_len (by rfl) b_len (by decide +kernel) (pa_cons (pv 1) pa_nil)) (pe_op op_addA (pe_callB call_len (by rfl) b_len (by decide +kernel) (pa_cons (pv 2) pa_nil)) pe_int) (nomark _)) (pss_one (ps_ret pe_bl)) pss_nil)
    (pss_cons (ps_for PassesOwn.never rfl (pi_range1 rfl b_range (pa_cons (pe_callB call_len (by rfl) b_len (by decide +kernel) (pa_cons (pv 2) pa_nil)) pa_nil)) (pg_name (i := 5) sc_law_is_answered.nd rfl (by first | exact Or.inl rfl | exact Or.inr rfl)) (pss_one (ps_if (pt_cmpR (op_notInA (room65 hr)) (pe_ix ix_seq (pv 1) (pe_op op_addA (pv 5) pe_int) (fun _ _ => rfl)) (pe_lc (own := [("_law_one", 6), ("_law_step", 7)]) rfl sc_law_is_answered.nd (pi_any (pe_callR c_law_answers hr (by decide) (pa_cons (pv 0) (pa_cons (pe_ix ix_seq (pv 1) (pv 5) (fun _ _ => rfl)) (pa_cons (pe_ix ix_seq (pv 2) (pv 5) (fun _ _ => rfl)) (pa_cons (pv 3) (pa_cons (pv 4) pa_nil))))))) (blkOk_by (by kernel_rfl)) (fun _ _ _ _ _ => (pg_tup (n := 2) (by rfl) (pgs_cons (pg_name (i := 6) sc_law_is_answered.nd rfl (by first | exact Or.inl rfl | exact Or.inr rfl)) (pgs_cons (pg_name (i := 7) sc_law_is_answered.nd rfl (by first | exact Or.inl rfl | exact Or.inr rfl)) pgs_nil)))) (fun _ _ _ _ _ => pts_nil) (fun _ _ _ _ _ => (pv 6))) (by rfl)) (pss_one (ps_ret pe_bl)) pss_nil)))
    (pss_one (ps_ret pe_bl)))), body_T (A := ((List (List (Option Int))) × (List (List Int)) × (List Int) × Str × Int)) (encs := fun a => [(EL (EL (EO PyData.int))) a.1, (EL (ET PyData.int)) a.2.1, (EL PyData.int) a.2.2.1, PyData.str a.2.2.2.1, PyData.int a.2.2.2.2]) (L := fun a => L_law_is_answered a.1 a.2.1 a.2.2.1 a.2.2.2.1 a.2.2.2.2) (e := PyData.bool) (r := 2) (Wx := noX) (m := 8) (n := 5) (E1 := fun a => [some ((EL (EL (EO PyData.int))) a.1, 0), some ((EL (ET PyData.int)) a.2.1, 0), some ((EL PyData.int) a.2.2.1, 0), some (PyData.str a.2.2.2.1, 2), some (PyData.int a.2.2.2.2, 2), none, none, none]) (fun a =>
    (s_ifX (t_val (p_ne (e := PyData.int) (a := (a.2.1.length : Int)) (b := ((a.2.2.1.length : Int) + (1 : Int))) (p_cb vf_len (a_consB (p_varB (d := (EL (ET PyData.int)) a.2.1) (i := 1) (m := 0) rfl) a_nil [1] rfl) lenL) (p_add (p_cb vf_len (a_consB (p_varB (d := (EL PyData.int) a.2.2.1) (i := 2) (m := 0) rfl) a_nil [2] rfl) lenL) p_int) (by decide))) (fun _ => (s_ret p_bl rfl)) nb_rt (fun _ => s_skip (s_bind fun l h1 => (s_seqR (s_forC' (wb := []) (e := PyData.int) (xs := l) (f := (fun s x => L_law_is_answered_b1 a.1 a.2.1 a.2.2.1 a.2.2.2.1 a.2.2.2.2 x)) (s0 := ()) (E := (fun (s : Unit) => [some ((EL (EL (EO PyData.int))) a.1, 0), some ((EL (ET PyData.int)) a.2.1, 0), some ((EL PyData.int) a.2.2.1, 0), some (PyData.str a.2.2.2.1, 2), some (PyData.int a.2.2.2.2, 2), none, none, none])) (eR := PyData.bool) (r := 2) (fun (s : Unit) x => [some ((EL (EL (EO PyData.int))) a.1, 0), some ((EL (ET PyData.int)) a.2.1, 0), some ((EL PyData.int) a.2.2.1, 0), some (PyData.str a.2.2.2.1, 2), some (PyData.int a.2.2.2.2, 2), some (PyData.int x, 2), none, none]) (i_range1 (a_consF (p_cb vf_len (a_consB (p_varB (d := (EL PyData.int) a.2.2.1) (i := 2) (m := 0) rfl) a_nil [2] rfl) lenL) a_nil) h1) (vg_name 5) (l_flat (e := PyData.int) rfl (LessE.s (LessE.s (LessE.s (LessE.s (LessE.s (LessE.s (LessE.s (LessE.s LessE.nil))))))))) (fun s x => (tj_2 (e := PyData.int) (a := x) rfl rfl))
    (fun s x _ => VS.mono (s_bind fun x2 h2 => (s_bind fun x3 h3 => (s_bind fun x4 h4 => (s_bind fun r h5 => (s_bind fun u h6 => (s_if (t_val (p_nin (e := (ET PyData.int)) (x := x2) (xs := (r.map fun x5 => x5.1)) (p_ixF (d := (ET PyData.int) x2) (p_varB (d := (EL (ET PyData.int)) a.2.1) (i := 1) (m := 0) rfl) (p_add (p_var (e := PyData.int) (a := x) (i := 5) (m := 2) rfl) p_int) (ixL (e := (ET PyData.int)) h2) (Flat.flat (e := (ET PyData.int)) _)) (q_lcF (e := (E2 (ET PyData.int) PyData.int)) (xs := r) (e' := (ET PyData.int)) (c := fun _ => some true) (f := fun x5 => some x5.1) (fun x5 => [some ((EL (EL (EO PyData.int))) a.1, 0), some ((EL (ET PyData.int)) a.2.1, 0), some ((EL PyData.int) a.2.2.1, 0), some (PyData.str a.2.2.2.1, 0), some (PyData.int a.2.2.2.2, 0), some (PyData.int x, 0), some ((ET PyData.int) x5.1, 2), some (PyData.int x5.2, 2)]) (i_seq (e := (E2 (ET PyData.int) PyData.int)) (xs := r) (p_call2 (e := (EL (E2 (ET PyData.int) PyData.int))) (L := fun (a : ((List (List (Option Int))) × (List Int) × Int × Str × Int)) => L_law_answers a.1 a.2.1 a.2.2.1 a.2.2.2.1 a.2.2.2.2) (a := (a.1, x3, x4, a.2.2.2.1, a.2.2.2.2)) h5 (a_consB (p_varB (d := (EL (EL (EO PyData.int))) a.1) (i := 0) (m := 0) rfl) (a_consF (p_ixF (d := (ET PyData.int) x3) (p_varB (d := (EL (ET PyData.int)) a.2.1) (i := 1) (m := 0) rfl) (p_var (e := PyData.int) (a := x) (i := 5) (m := 2) rfl) (ixL (e := (ET PyData.int)) h3) (Flat.flat (e := (ET PyData.int)) _)) (a_consF (p_ixF (d := PyData.int x4) (p_varB (d := (EL PyData.int) a.2.2.1) (i := 2) (m := 0) rfl) (p_var (e := PyData.int) (a := x) (i := 5) (m := 2) rfl) (ixL (e := PyData.int) h4) (Flat.flat (e := PyData.int) _)) (a_consF (p_var (e := PyData.str) (a := a.2.2.2.1) (i := 3) (m := 2) rfl) (a_consF (p_var (e := PyData.int) (a := a.2.2.2.2) (i := 4) (m := 2) rfl) a_nil)))) [0] rfl) rfl rfl) rfl) (vg_tup (vgs_cons (vg_name 6) (vgs_cons (vg_name 7) vgs_nil))) (fun x5 => (tj_T (tj_cons (tj_2 (e := (ET PyData.int)) (a := x5.1) rfl rfl) (tj_cons (tj_2 (e := PyData.int) (a := x5.2) rfl rfl) tj_nil)) rfl)) (fun x5 _ => t_yes) (fun x5 _ => (p_var (e := (ET PyData.int)) (a := x5.1) (i := 6) (m := 2) rfl)) h6 filO_all (by decide)) (by decide))) (fun _ => (s_ret p_bl rfl)) (fun _ => (s_out s_next (LessE.s (LessE.s (LessE.s (LessE.s (LessE.s (LessE.n (LessE.s (LessE.s LessE.nil)))))))))))))))) (by decide))) (fun s2 => (s_ret p_bl rfl)) (fun _ => rfl)))))) (fun a => (LessE.z (LessE.z (LessE.z (LessE.f2 (e := PyData.str) (LessE.f2 (e := PyData.int) LessE.refl)))))) h rfl (by decide)⟩), gx, F.kp, F.binds fun _ _ _ _ _ _ us hl => match us, hl with | [_, _, _, _, _], _ => rfl⟩
theorem sc_law : FnScope ["_law_script", "_law_draws_here", "_law_town_here", "_law_helpers", "_law_rule", "_law_reach", "_law_rows", "_law_every", "_law_walk", "_law_calls", "_law_k", "_law_call", "_law_good", "_law_kept", "_law_at", "_law_other", "_law_cases", "_law_stands_here", "_law_row", "_law_answer"] ["_law_script"] (defScope s_law) := ⟨rfl, rfl, rfl, by decide +kernel, rfl, by decide +kernel, by decide +kernel⟩
theorem ok_law {f : Addr} {fd : FuncData} (F : Fun K "law" "law" s_law f fd) (gx : mg "law" = some (.ref f)) (b_int : mg "int" = none) (b_len : mg "len" = none) (b_range : mg "range" = none) (b_repr : mg "repr" = none) (b_isinstance : mg "isinstance" = none) (b_bool : mg "bool" = none) (c_law_draws : Cd P w K mg base "_law_draws" 1) (c_law_town : Clr P w K mg base "_law_town" 1 2 R_law_town) (c_law_ways : Clr P w K mg base "_law_ways" 1 1 R_law_ways) (c_law_stands : Clr P w K mg base "_law_stands" 1 2 R_law_stands) (c_law_answers : Clr P w K mg base "_law_answers" 9 5 R_law_answers) (c_is_answered : Ckr P w K mg base "is_answered" 4 5 R_is_answered 3 ["rule", "reach"]) (c_law_is_answered : Clr P w K mg base "_law_is_answered" 10 5 R_law_is_answered) : FnG P w K mg base 11 f fd ["_law_script"] (spLaw K) :=
  fnG_of F sc_law (fun vs H Q E h => spLaw_len h) (fun cdv A outer s H vs Q E gd hr h => ⟨_, pss_cons (ps_set (i := 1) sc_law.nd rfl (by first | exact Or.inl rfl | exact Or.inr rfl) (pe_callD c_law_draws hr (by decide) (pa_cons (pv 0) (pa_cons pe_int pa_nil))))
    (pss_cons (ps_set (i := 2) sc_law.nd rfl (by first | exact Or.inl rfl | exact Or.inr rfl) (pe_callR c_law_town hr (by decide) (pa_cons (pv 1) (pa_cons pe_int pa_nil))))
    (pss_cons (ps_set (i := 3) sc_law.nd rfl (by first | exact Or.inl rfl | exact Or.inr rfl) (pe_op op_addA pe_int (pe_op op_mod (pe_callTy call_int1 (by rfl) b_int (by decide +kernel) (pa_cons (pe_ix ix_seq (pv 1) pe_int (fun _ _ => rfl)) pa_nil)) pe_int)))
    (pss_cons (ps_set (i := 4) sc_law.nd rfl (by first | exact Or.inl rfl | exact Or.inr rfl) (pe_ix ix_seq (pe_lst (pa_cons pe_str (pa_cons pe_str pa_nil))) (pe_op op_mod (pe_callTy call_int1 (by rfl) b_int (by decide +kernel) (pa_cons (pe_ix ix_seq (pv 1) pe_int (fun _ _ => rfl)) pa_nil)) pe_int) (fun _ _ => rfl)))
    (pss_cons (ps_set (i := 5) sc_law.nd rfl (by first | exact Or.inl rfl | exact Or.inr rfl) (pe_ix ix_seq (pe_lst (pa_cons (pe_op op_mod (pe_callTy call_int1 (by rfl) b_int (by decide +kernel) (pa_cons (pe_ix ix_seq (pv 1) pe_int (fun _ _ => rfl)) pa_nil)) pe_int) (pa_cons (pe_op op_mod (pe_callTy call_int1 (by rfl) b_int (by decide +kernel) (pa_cons (pe_ix ix_seq (pv 1) pe_int (fun _ _ => rfl)) pa_nil)) pe_int) (pa_cons pe_int pa_nil)))) (pe_op op_mod (pe_callTy call_int1 (by rfl) b_int (by decide +kernel) (pa_cons (pe_ix ix_seq (pv 1) pe_int (fun _ _ => rfl)) pa_nil)) pe_int) (fun _ _ => rfl)))
    (pss_cons (ps_set (i := 6) sc_law.nd rfl (by first | exact Or.inl rfl | exact Or.inr rfl) (pe_callR c_law_ways hr (by decide) (pa_cons (pv 2) pa_nil)))
    (pss_cons (ps_set (i := 7) sc_law.nd rfl (by first | exact Or.inl rfl | exact Or.inr rfl) (pe_callR c_law_stands hr (by decide) (pa_cons (pe_ix ix_seq (pv 2) pe_int (fun _ _ => rfl)) (pa_cons (pv 3) pa_nil))))
    (pss_cons (ps_set (i := 8) sc_law.nd rfl (by first | exact Or.inl rfl | exact Or.inr rfl) (pe_lst (pa_cons (pe_ix ix_seq (pv 7) (pe_op op_mod (pe_callTy call_int1 (by rfl) b_int (by decide +kernel) (pa_cons (pe_ix ix_seq (pv 1) pe_int (fun _ _ => rfl)) pa_nil)) (pe_callB call_len (by rfl) b_len (by decide +kernel) (pa_cons (pv 7) pa_nil))) (fun _ _ => rfl)) pa_nil)))
    (pss_cons (ps_set (i := 9) sc_law.nd rfl (by first | exact Or.inl rfl | exact Or.inr rfl) (pe_lst pa_nil))
    (pss_cons (ps_for PassesOwn.never rfl (pi_range1 rfl b_range (pa_cons (pe_op op_mod (pe_callTy call_int1 (by rfl) b_int (by decide +kernel) (pa_cons (pe_ix ix_seq (pv 1) pe_int (fun _ _ => rfl)) pa_nil)) pe_int) pa_nil)) (pg_name (i := 10) sc_law.nd rfl (by first | exact Or.inl rfl | exact Or.inr rfl)) (pss_cons (ps_set (i := 11) sc_law.nd rfl (by first | exact Or.inl rfl | exact Or.inr rfl) (pe_op op_mod (pe_callTy call_int1 (by rfl) b_int (by decide +kernel) (pa_cons (pe_ix ix_seq (pv 1) (pe_op op_addA pe_int (pe_op op_mulA pe_int (pv 10))) (fun _ _ => rfl)) pa_nil)) (pe_ix ix_seq (pv 2) pe_int (fun _ _ => rfl))))
    (pss_cons (ps_set (i := 12) sc_law.nd rfl (by first | exact Or.inl rfl | exact Or.inr rfl) (pe_callR c_law_answers hr (by decide) (pa_cons (pv 6) (pa_cons (pe_ix ix_seq (pv 8) (pe_un un_neg pe_int) (fun _ _ => rfl)) (pa_cons (pv 11) (pa_cons (pv 4) (pa_cons (pv 5) pa_nil)))))))
    (pss_one (ps_if (pt_cmpR op_gt (pe_callB call_len (by rfl) b_len (by decide +kernel) (pa_cons (pv 12) pa_nil)) pe_int (nomark _)) (pss_cons (ps_expr (pe_bm PySem.F.plainAttrs_list PySem.F.slot_list_append PySem.F.type_list_append mt_append (pv 9) (pa_cons (pv 11) pa_nil)))
    (pss_one (ps_expr (pe_bm PySem.F.plainAttrs_list PySem.F.slot_list_append PySem.F.type_list_append mt_append (pv 8) (pa_cons (pe_ix ix_seq (pe_ix ix_seq (pv 12) (pe_op op_mod (pe_callTy call_int1 (by rfl) b_int (by decide +kernel) (pa_cons (pe_ix ix_seq (pv 1) (pe_op op_addA pe_int (pe_op op_mulA pe_int (pv 10))) (fun _ _ => rfl)) pa_nil)) (pe_callB call_len (by rfl) b_len (by decide +kernel) (pa_cons (pv 12) pa_nil))) (fun _ _ => rfl)) pe_int (fun _ _ => rfl)) pa_nil))))) pss_nil)))))
    (pss_cons (ps_set (i := 13) sc_law.nd rfl (by first | exact Or.inl rfl | exact Or.inr rfl) (pe_callB (cr_repr gd hr.units) (by rfl) b_repr (by decide +kernel) (pa_cons (pe_tupN (pa_cons (pv 2) (pa_cons (pv 8) (pa_cons (pv 9) pa_nil)))) pa_nil)))
    (pss_cons (ps_set (i := 14) sc_law.nd rfl (by first | exact Or.inl rfl | exact Or.inr rfl) (pe_op op_mod (pe_callTy call_int1 (by rfl) b_int (by decide +kernel) (pa_cons (pe_ix ix_seq (pv 1) pe_int (fun _ _ => rfl)) pa_nil)) (pe_callB call_len (by rfl) b_len (by decide +kernel) (pa_cons (pv 8) pa_nil))))
    (pss_cons (ps_set (i := 15) sc_law.nd rfl (by first | exact Or.inl rfl | exact Or.inr rfl) (pe_ix ix_seq (pv 7) (pe_op op_mod (pe_callTy call_int1 (by rfl) b_int (by decide +kernel) (pa_cons (pe_ix ix_seq (pv 1) pe_int (fun _ _ => rfl)) pa_nil)) (pe_callB call_len (by rfl) b_len (by decide +kernel) (pa_cons (pv 7) pa_nil))) (fun _ _ => rfl)))
    (pss_cons (ps_set (i := 16) sc_law.nd rfl (by first | exact Or.inl rfl | exact Or.inr rfl) (pe_lst (pa_cons (pe_tupN (pa_cons (pv 8) (pa_cons (pv 9) pa_nil))) (pa_cons (pe_tupN (pa_cons (pe_op op_addA (pe_op op_addA (pe_slice sl_any (pv 8) po_none (po_some (pv 14))) (pe_lst (pa_cons (pv 15) pa_nil))) (pe_slice sl_any (pv 8) (po_some (pe_op op_addA (pv 14) pe_int)) po_none)) (pa_cons (pv 9) pa_nil))) (pa_cons (pe_tupN (pa_cons (pe_slice sl_any (pv 8) (po_some pe_int) po_none) (pa_cons (pv 9) pa_nil))) (pa_cons (pe_tupN (pa_cons (pe_lst pa_nil) (pa_cons (pv 9) pa_nil))) (pa_cons (pe_tupN (pa_cons (pe_op op_addA (pv 8) (pe_slice sl_any (pv 8) po_none (po_some pe_int))) (pa_cons (pv 9) pa_nil))) pa_nil)))))))
    (pss_cons (ps_expr (pe_bm PySem.F.plainAttrs_list PySem.F.slot_list_append PySem.F.type_list_append mt_append (pv 16) (pa_cons (pe_tupN (pa_cons (pv 8) (pa_cons (pe_op op_addA (pe_lst (pa_cons (pe_op op_mod (pe_callTy call_int1 (by rfl) b_int (by decide +kernel) (pa_cons (pe_ix ix_seq (pv 1) pe_int (fun _ _ => rfl)) pa_nil)) (pe_ix ix_seq (pv 2) pe_int (fun _ _ => rfl))) pa_nil)) (pe_slice sl_any (pv 9) (po_some pe_int) po_none)) pa_nil))) pa_nil)))
    (pss_cons (ps_expr (pe_bm PySem.F.plainAttrs_list PySem.F.slot_list_append PySem.F.type_list_append mt_append (pv 16) (pa_cons (pe_tupN (pa_cons (pe_op op_addA (pe_slice sl_any (pv 8) po_none (po_some (pv 14))) (pe_slice sl_any (pv 8) (po_some (pe_op op_addA (pv 14) pe_int)) po_none)) (pa_cons (pe_op op_addA (pe_slice sl_any (pv 9) po_none (po_some (pv 14))) (pe_slice sl_any (pv 9) (po_some (pe_op op_addA (pv 14) pe_int)) po_none)) pa_nil))) pa_nil)))
    (pss_cons (ps_for PassesOwn.never rfl (pi_any (pv 16)) (pg_tup (n := 2) (by rfl) (pgs_cons (pg_name (i := 17) sc_law.nd rfl (by first | exact Or.inl rfl | exact Or.inr rfl)) (pgs_cons (pg_name (i := 18) sc_law.nd rfl (by first | exact Or.inl rfl | exact Or.inr rfl)) pgs_nil))) (pss_cons (ps_set (i := 19) sc_law.nd rfl (by first | exact Or.inl rfl | exact Or.inr rfl) (pe_callKR c_is_answered hr (by decide) (pa_cons (pv 2) (pa_cons (pv 17) (pa_cons (pv 18) pa_nil))) (pk_cons (pv 4) (pk_cons (pv 5) pk_nil))))
    (pss_one (ps_if (PW.pt (pw_or (pt_not (pt_truth (pe_callB call_isi (by rfl) b_isinstance (by decide +kernel) (pa_cons (pv 19) (pa_cons (pe_bltn (v := .ty "bool") (by rfl) b_bool (by decide +kernel) rfl) pa_nil))) (by intro _; rfl))) (pw_or1 (pt_cmpR (op_neA hr.units) (pv 19) (pe_callR c_law_is_answered hr (by decide) (pa_cons (pv 6) (pa_cons (pv 17) (pa_cons (pv 18) (pa_cons (pv 4) (pa_cons (pv 5) pa_nil)))))) (nomark _))))) (pss_one (ps_ret pe_bl)) pss_nil))))
    (pss_one (ps_ret (pe_cmpR (op_eqA hr.units) (pe_callB (cr_repr gd hr.units) (by rfl) b_repr (by decide +kernel) (pa_cons (pe_tupN (pa_cons (pv 2) (pa_cons (pv 8) (pa_cons (pv 9) pa_nil)))) pa_nil)) (pv 13) (nomark _)))))))))))))))))))), law_T (Wx := noX) (n := 60) (E1 := fun ds => [none, some ((EL PyData.int) ds, 2), none, none, none, none, none, none, none, none, none, none, none, none, none, none, none, none, none, none]) (LL := L_law) (fun ds =>
    (s_bind fun r h1 => (s_seq (ρ1 := [none, some ((EL PyData.int) ds, 2), some ((E2 PyData.int (EL (E3 PyData.int PyData.int PyData.int))) r, 2), none, none, none, none, none, none, none, none, none, none, none, none, none, none, none, none, none]) (s_set [] 2 (p_call2 (e := (E2 PyData.int (EL (E3 PyData.int PyData.int PyData.int)))) (L := fun (a : ((List Int) × Int)) => L_law_town a.1 a.2) (a := (ds, (5 : Int))) h1 (a_consM (p_varM (d := (EL PyData.int) ds) (i := 1) rfl) (a_consF p_int a_nil) rfl) rfl rfl) rfl rfl)
    (s_bind fun x h2 => (s_let fun law_helpers h3 => (s_seq (ρ1 := [none, some ((EL PyData.int) ds, 2), some ((E2 PyData.int (EL (E3 PyData.int PyData.int PyData.int))) r, 2), some (PyData.int law_helpers, 2), none, none, none, none, none, none, none, none, none, none, none, none, none, none, none, none]) (s_set [] 3 (p_is (e := PyData.int) h3 (p_add p_int (p_mod (p_cb vf_int (a_consF (p_ixF (d := PyData.int x) (p_varM (d := (EL PyData.int) ds) (i := 1) rfl) p_int (ixL (e := PyData.int) h2) (Flat.flat (e := PyData.int) _)) a_nil) rfl) p_int (modN (by decide))))) rfl rfl)
    (s_bind fun x2 h4 => (s_bind fun x3 h5 => (s_seq (ρ1 := [none, some ((EL PyData.int) ds, 2), some ((E2 PyData.int (EL (E3 PyData.int PyData.int PyData.int))) r, 2), some (PyData.int law_helpers, 2), some (PyData.str x3, 2), none, none, none, none, none, none, none, none, none, none, none, none, none, none, none]) (s_set [] 4 (p_ixF (d := PyData.str x3) (p_lstF (ds := [PyData.str ("one" : Str), PyData.str ("all" : Str)]) (a_consF p_str (a_consF p_str a_nil)) (fl_cons (e := PyData.str) (fl_cons (e := PyData.str) flatL_nil)) (Nat.le_of_ble_eq_true rfl)) (p_mod (p_cb vf_int (a_consF (p_ixF (d := PyData.int x2) (p_varM (d := (EL PyData.int) ds) (i := 1) rfl) p_int (ixL (e := PyData.int) h4) (Flat.flat (e := PyData.int) _)) a_nil) rfl) p_int (modN (by decide))) (ixL (e := PyData.str) h5) (Flat.flat (e := PyData.str) _)) rfl rfl)
    (s_bind fun x4 h6 => (s_bind fun x5 h7 => (s_bind fun x6 h8 => (s_bind fun x7 h9 => (s_seq (ρ1 := [none, some ((EL PyData.int) ds, 2), some ((E2 PyData.int (EL (E3 PyData.int PyData.int PyData.int))) r, 2), some (PyData.int law_helpers, 2), some (PyData.str x3, 2), some (PyData.int x7, 2), none, none, none, none, none, none, none, none, none, none, none, none, none, none]) (s_set [] 5 (p_ixF (d := PyData.int x7) (p_lstF (ds := [PyData.int (x4 % (12 : Int)), PyData.int (x5 % (4 : Int)), PyData.int (60 : Int)]) (a_consF (p_mod (p_cb vf_int (a_consF (p_ixF (d := PyData.int x4) (p_varM (d := (EL PyData.int) ds) (i := 1) rfl) p_int (ixL (e := PyData.int) h6) (Flat.flat (e := PyData.int) _)) a_nil) rfl) p_int (modN (by decide))) (a_consF (p_mod (p_cb vf_int (a_consF (p_ixF (d := PyData.int x5) (p_varM (d := (EL PyData.int) ds) (i := 1) rfl) p_int (ixL (e := PyData.int) h7) (Flat.flat (e := PyData.int) _)) a_nil) rfl) p_int (modN (by decide))) (a_consF p_int a_nil))) (fl_cons (e := PyData.int) (fl_cons (e := PyData.int) (fl_cons (e := PyData.int) flatL_nil))) (Nat.le_of_ble_eq_true rfl)) (p_mod (p_cb vf_int (a_consF (p_ixF (d := PyData.int x6) (p_varM (d := (EL PyData.int) ds) (i := 1) rfl) p_int (ixL (e := PyData.int) h8) (Flat.flat (e := PyData.int) _)) a_nil) rfl) p_int (modN (by decide))) (ixL (e := PyData.int) h9) (Flat.flat (e := PyData.int) _)) rfl rfl)
    (s_bind fun r2 h10 => (s_seq (ρ1 := [none, some ((EL PyData.int) ds, 2), some ((E2 PyData.int (EL (E3 PyData.int PyData.int PyData.int))) r, 2), some (PyData.int law_helpers, 2), some (PyData.str x3, 2), some (PyData.int x7, 2), some ((EL (EL (EO PyData.int))) r2, 2), none, none, none, none, none, none, none, none, none, none, none, none, none]) (s_set [] 6 (p_call2 (e := (EL (EL (EO PyData.int)))) (L := fun (a : (Int × (List (Int × Int × Int)))) => L_law_ways a) (a := r) h10 (a_consM (p_varM (d := (E2 PyData.int (EL (E3 PyData.int PyData.int PyData.int))) r) (i := 2) rfl) a_nil rfl) rfl rfl) rfl rfl)
    (s_bind fun r3 h11 => (s_seq (ρ1 := [none, some ((EL PyData.int) ds, 2), some ((E2 PyData.int (EL (E3 PyData.int PyData.int PyData.int))) r, 2), some (PyData.int law_helpers, 2), some (PyData.str x3, 2), some (PyData.int x7, 2), some ((EL (EL (EO PyData.int))) r2, 2), some ((EL (ET PyData.int)) r3, 2), none, none, none, none, none, none, none, none, none, none, none, none]) (s_set [3] 7 (p_call2 (e := (EL (ET PyData.int))) (L := fun (a : (Int × Int)) => L_law_stands a.1 a.2) (a := (r.1, law_helpers)) h11 (a_consF (p_ixF (d := PyData.int r.1) (p_varM (d := (E2 PyData.int (EL (E3 PyData.int PyData.int PyData.int))) r) (i := 2) rfl) p_int rfl (Flat.flat (e := PyData.int) _)) (a_consF (p_var (e := PyData.int) (a := law_helpers) (i := 3) (m := 2) rfl) a_nil)) rfl rfl) rfl rfl)
    (s_bind fun x8 h12 => (s_bind fun n h13 => (s_bind fun x9 h14 => (s_let fun law_walk h15 => (s_seq (ρ1 := [none, some ((EL PyData.int) ds, 2), some ((E2 PyData.int (EL (E3 PyData.int PyData.int PyData.int))) r, 2), some (PyData.int law_helpers, 2), some (PyData.str x3, 2), some (PyData.int x7, 2), some ((EL (EL (EO PyData.int))) r2, 2), some ((EL (ET PyData.int)) r3, 2), some ((EL (ET PyData.int)) law_walk, 2), none, none, none, none, none, none, none, none, none, none, none]) (s_set [] 8 (p_is (e := (EL (ET PyData.int))) h15 (p_lstF (ds := [(ET PyData.int) x9]) (a_consF (p_ixF (d := (ET PyData.int) x9) (p_varM (d := (EL (ET PyData.int)) r3) (i := 7) rfl) (p_mod (p_cb vf_int (a_consF (p_ixF (d := PyData.int x8) (p_varM (d := (EL PyData.int) ds) (i := 1) rfl) p_int (ixL (e := PyData.int) h12) (Flat.flat (e := PyData.int) _)) a_nil) rfl) (p_cb vf_len (a_consM (p_varM (d := (EL (ET PyData.int)) r3) (i := 7) rfl) a_nil rfl) lenL) h13) (ixL (e := (ET PyData.int)) h14) (Flat.flat (e := (ET PyData.int)) _)) a_nil) (fl_cons (e := (ET PyData.int)) flatL_nil) (Nat.le_of_ble_eq_true rfl))) rfl rfl)
    (s_let fun law_calls h16 => (s_seq (ρ1 := [none, some ((EL PyData.int) ds, 2), some ((E2 PyData.int (EL (E3 PyData.int PyData.int PyData.int))) r, 2), some (PyData.int law_helpers, 2), some (PyData.str x3, 2), some (PyData.int x7, 2), some ((EL (EL (EO PyData.int))) r2, 2), some ((EL (ET PyData.int)) r3, 2), some ((EL (ET PyData.int)) law_walk, 2), some ((EL PyData.int) law_calls, 2), none, none, none, none, none, none, none, none, none, none]) (s_set [] 9 (p_is (e := (EL PyData.int)) h16 (p_lstF (ds := []) a_nil flatL_nil (Nat.le_of_ble_eq_true rfl))) rfl rfl)
    (s_bind fun x10 h17 => (s_bind fun l h18 => (s_seqO (s_forO' (wb := [8, 9, 10, 11, 12]) (e := PyData.int) (xs := l) (f := (fun s x11 => L_law_b1 ds r x3 x7 r2 s.1 s.2 x11)) (s0 := (law_calls, law_walk)) (E := (fun (s : ((List Int) × (List (List Int)))) => [none, some ((EL PyData.int) ds, 2), some ((E2 PyData.int (EL (E3 PyData.int PyData.int PyData.int))) r, 2), none, some (PyData.str x3, 2), some (PyData.int x7, 2), some ((EL (EL (EO PyData.int))) r2, 2), some ((EL (ET PyData.int)) r3, 2), some ((EL (ET PyData.int)) s.2, 2), some ((EL PyData.int) s.1, 2), none, none, none, none, none, none, none, none, none, none])) (fun (s : ((List Int) × (List (List Int)))) x11 => [none, some ((EL PyData.int) ds, 2), some ((E2 PyData.int (EL (E3 PyData.int PyData.int PyData.int))) r, 2), none, some (PyData.str x3, 2), some (PyData.int x7, 2), some ((EL (EL (EO PyData.int))) r2, 2), some ((EL (ET PyData.int)) r3, 2), some ((EL (ET PyData.int)) s.2, 2), some ((EL PyData.int) s.1, 2), some (PyData.int x11, 2), none, none, none, none, none, none, none, none, none]) (i_range1 (a_consF (p_mod (p_cb vf_int (a_consF (p_ixF (d := PyData.int x10) (p_varM (d := (EL PyData.int) ds) (i := 1) rfl) p_int (ixL (e := PyData.int) h17) (Flat.flat (e := PyData.int) _)) a_nil) rfl) p_int (modN (by decide))) a_nil) h18) (vg_name 10) (l_flat (e := PyData.int) rfl (LessE.s (LessE.s (LessE.s (LessE.n (LessE.s (LessE.s (LessE.s (LessE.s (LessE.s (LessE.s (LessE.s (LessE.s (LessE.s (LessE.s (LessE.s (LessE.s (LessE.s (LessE.s (LessE.s (LessE.s LessE.nil))))))))))))))))))))) (fun s x11 => (tj_2 (e := PyData.int) (a := x11) rfl rfl))
    (fun s x11 _ => VS.mono (s_bind fun x12 h19 => (s_bind fun n2 h20 => (s_seq (ρ1 := [none, some ((EL PyData.int) ds, 2), some ((E2 PyData.int (EL (E3 PyData.int PyData.int PyData.int))) r, 2), none, some (PyData.str x3, 2), some (PyData.int x7, 2), some ((EL (EL (EO PyData.int))) r2, 2), some ((EL (ET PyData.int)) r3, 2), some ((EL (ET PyData.int)) s.2, 2), some ((EL PyData.int) s.1, 2), some (PyData.int x11, 2), some (PyData.int n2, 2), none, none, none, none, none, none, none, none]) (s_set [] 11 (p_mod (p_cb vf_int (a_consF (p_ixF (d := PyData.int x12) (p_varM (d := (EL PyData.int) ds) (i := 1) rfl) (p_add p_int (p_mulN p_int (p_var (e := PyData.int) (a := x11) (i := 10) (m := 2) rfl) (mulOk_l (by decide)))) (ixL (e := PyData.int) h19) (Flat.flat (e := PyData.int) _)) a_nil) rfl) (p_ixF (d := PyData.int r.1) (p_varM (d := (E2 PyData.int (EL (E3 PyData.int PyData.int PyData.int))) r) (i := 2) rfl) p_int rfl (Flat.flat (e := PyData.int) _)) h20) rfl rfl)
    (s_bind fun x13 h21 => (s_bind fun r4 h22 => (s_seq (ρ1 := [none, some ((EL PyData.int) ds, 2), some ((E2 PyData.int (EL (E3 PyData.int PyData.int PyData.int))) r, 2), none, some (PyData.str x3, 2), some (PyData.int x7, 2), some ((EL (EL (EO PyData.int))) r2, 2), some ((EL (ET PyData.int)) r3, 2), some ((EL (ET PyData.int)) s.2, 2), some ((EL PyData.int) s.1, 2), some (PyData.int x11, 2), some (PyData.int n2, 2), some ((EL (E2 (ET PyData.int) PyData.int)) r4, 2), none, none, none, none, none, none, none]) (s_set [] 12 (p_call2 (e := (EL (E2 (ET PyData.int) PyData.int))) (L := fun (a : ((List (List (Option Int))) × (List Int) × Int × Str × Int)) => L_law_answers a.1 a.2.1 a.2.2.1 a.2.2.2.1 a.2.2.2.2) (a := (r2, x13, n2, x3, x7)) h22 (a_consM (p_varM (d := (EL (EL (EO PyData.int))) r2) (i := 6) rfl) (a_consF (p_ixF (d := (ET PyData.int) x13) (p_varM (d := (EL (ET PyData.int)) s.2) (i := 8) rfl) (p_neg p_int) (ixL (e := (ET PyData.int)) h21) (Flat.flat (e := (ET PyData.int)) _)) (a_consF (p_var (e := PyData.int) (a := n2) (i := 11) (m := 2) rfl) (a_consF (p_var (e := PyData.str) (a := x3) (i := 4) (m := 2) rfl) (a_consF (p_var (e := PyData.int) (a := x7) (i := 5) (m := 2) rfl) a_nil)))) rfl) rfl rfl) rfl rfl)
    (s_if (t_val (p_opF vf_gt (p_cb vf_len (a_consM (p_varM (d := (EL (E2 (ET PyData.int) PyData.int)) r4) (i := 12) rfl) a_nil rfl) lenL) p_int rfl)) (fun _ => (s_bind fun law_calls2 h23 => (s_seq (ρ1 := [none, some ((EL PyData.int) ds, 2), some ((E2 PyData.int (EL (E3 PyData.int PyData.int PyData.int))) r, 2), none, some (PyData.str x3, 2), some (PyData.int x7, 2), some ((EL (EL (EO PyData.int))) r2, 2), some ((EL (ET PyData.int)) r3, 2), some ((EL (ET PyData.int)) s.2, 2), some ((EL PyData.int) law_calls2, 2), some (PyData.int x11, 2), some (PyData.int n2, 2), some ((EL (E2 (ET PyData.int) PyData.int)) r4, 2), none, none, none, none, none, none, none]) (s_app [11] 9 (e := PyData.int) (xs := s.1) (x := n2) (p_var (e := PyData.int) (a := n2) (i := 11) (m := 2) rfl) rfl (.inr rfl) rfl h23 rfl)
    (s_bind fun x14 h24 => (s_bind fun n3 h25 => (s_bind fun x15 h26 => (s_bind fun law_walk2 h27 => (s_out (s_app [10, 12] 8 (e := (ET PyData.int)) (xs := s.2) (x := x15.1) (p_ixF (d := (ET PyData.int) x15.1) (p_ixF (d := (E2 (ET PyData.int) PyData.int) x15) (p_varM (d := (EL (E2 (ET PyData.int) PyData.int)) r4) (i := 12) rfl) (p_mod (p_cb vf_int (a_consF (p_ixF (d := PyData.int x14) (p_varM (d := (EL PyData.int) ds) (i := 1) rfl) (p_add p_int (p_mulN p_int (p_var (e := PyData.int) (a := x11) (i := 10) (m := 2) rfl) (mulOk_l (by decide)))) (ixL (e := PyData.int) h24) (Flat.flat (e := PyData.int) _)) a_nil) rfl) (p_cb vf_len (a_consM (p_varM (d := (EL (E2 (ET PyData.int) PyData.int)) r4) (i := 12) rfl) a_nil rfl) lenL) h25) (ixL (e := (E2 (ET PyData.int) PyData.int)) h26) (Flat.flat (e := (E2 (ET PyData.int) PyData.int)) _)) p_int rfl (Flat.flat (e := (ET PyData.int)) _)) rfl (.inr rfl) rfl h27 rfl) (LessE.s (LessE.s (LessE.s (LessE.s (LessE.s (LessE.s (LessE.s (LessE.s (LessE.s (LessE.s (LessE.n (LessE.n (LessE.n (LessE.s (LessE.s (LessE.s (LessE.s (LessE.s (LessE.s (LessE.s LessE.nil)))))))))))))))))))))))))))) (fun _ => (s_out s_next (LessE.s (LessE.s (LessE.s (LessE.s (LessE.s (LessE.s (LessE.s (LessE.s (LessE.s (LessE.s (LessE.n (LessE.n (LessE.n (LessE.s (LessE.s (LessE.s (LessE.s (LessE.s (LessE.s (LessE.s LessE.nil))))))))))))))))))))))))))))) (by decide))) (fun s2 => (s_bind fun s3 h28 => (s_seq (ρ1 := [none, some ((EL PyData.int) ds, 2), some ((E2 PyData.int (EL (E3 PyData.int PyData.int PyData.int))) r, 2), none, some (PyData.str x3, 2), some (PyData.int x7, 2), some ((EL (EL (EO PyData.int))) r2, 2), some ((EL (ET PyData.int)) r3, 2), some ((EL (ET PyData.int)) s2.2, 2), some ((EL PyData.int) s2.1, 2), none, none, none, some (PyData.str s3, 2), none, none, none, none, none, none]) (s_set [] 13 (p_cb vf_repr (a_consM (p_tupM (ds := [(E2 PyData.int (EL (E3 PyData.int PyData.int PyData.int))) r, (EL (ET PyData.int)) s2.2, (EL PyData.int) s2.1]) (a_consM (p_varM (d := (E2 PyData.int (EL (E3 PyData.int PyData.int PyData.int))) r) (i := 2) rfl) (a_consM (p_varM (d := (EL (ET PyData.int)) s2.2) (i := 8) rfl) (a_consM (p_varM (d := (EL PyData.int) s2.1) (i := 9) rfl) a_nil rfl) rfl) rfl) (Nat.le_of_ble_eq_true rfl)) a_nil rfl) (reprD h28)) rfl rfl)
    (s_bind fun x16 h29 => (s_bind fun n4 h30 => (s_seq (ρ1 := [none, some ((EL PyData.int) ds, 2), some ((E2 PyData.int (EL (E3 PyData.int PyData.int PyData.int))) r, 2), none, some (PyData.str x3, 2), some (PyData.int x7, 2), some ((EL (EL (EO PyData.int))) r2, 2), some ((EL (ET PyData.int)) r3, 2), some ((EL (ET PyData.int)) s2.2, 2), some ((EL PyData.int) s2.1, 2), none, none, none, some (PyData.str s3, 2), some (PyData.int n4, 2), none, none, none, none, none]) (s_set [] 14 (p_mod (p_cb vf_int (a_consF (p_ixF (d := PyData.int x16) (p_varM (d := (EL PyData.int) ds) (i := 1) rfl) p_int (ixL (e := PyData.int) h29) (Flat.flat (e := PyData.int) _)) a_nil) rfl) (p_cb vf_len (a_consM (p_varM (d := (EL (ET PyData.int)) s2.2) (i := 8) rfl) a_nil rfl) lenL) h30) rfl rfl)
    (s_bind fun x17 h31 => (s_bind fun n5 h32 => (s_bind fun x18 h33 => (s_seq (ρ1 := [none, some ((EL PyData.int) ds, 2), some ((E2 PyData.int (EL (E3 PyData.int PyData.int PyData.int))) r, 2), none, some (PyData.str x3, 2), some (PyData.int x7, 2), some ((EL (EL (EO PyData.int))) r2, 2), some ((EL (ET PyData.int)) r3, 2), some ((EL (ET PyData.int)) s2.2, 2), some ((EL PyData.int) s2.1, 2), none, none, none, some (PyData.str s3, 2), some (PyData.int n4, 2), some ((ET PyData.int) x18, 2), none, none, none, none]) (s_set [7] 15 (p_ixF (d := (ET PyData.int) x18) (p_varM (d := (EL (ET PyData.int)) r3) (i := 7) rfl) (p_mod (p_cb vf_int (a_consF (p_ixF (d := PyData.int x17) (p_varM (d := (EL PyData.int) ds) (i := 1) rfl) p_int (ixL (e := PyData.int) h31) (Flat.flat (e := PyData.int) _)) a_nil) rfl) (p_cb vf_len (a_consM (p_varM (d := (EL (ET PyData.int)) r3) (i := 7) rfl) a_nil rfl) lenL) h32) (ixL (e := (ET PyData.int)) h33) (Flat.flat (e := (ET PyData.int)) _)) rfl rfl)
    (s_bind fun l2 h34 => (s_bind fun l3 h35 => (s_bind fun l4 h36 => (s_let fun law_cases h37 => (s_seq (ρ1 := [none, some ((EL PyData.int) ds, 2), some ((E2 PyData.int (EL (E3 PyData.int PyData.int PyData.int))) r, 2), none, some (PyData.str x3, 2), some (PyData.int x7, 2), some ((EL (EL (EO PyData.int))) r2, 2), some ((EL (ET PyData.int)) r3, 2), some ((EL (ET PyData.int)) s2.2, 0), some ((EL PyData.int) s2.1, 0), none, none, none, some (PyData.str s3, 2), some (PyData.int n4, 2), some ((ET PyData.int) x18, 2), some ((EL (E2 (EL (ET PyData.int)) (EL PyData.int))) law_cases, 1), none, none, none]) (s_set [15] 16 (p_is (e := (EL (E2 (EL (ET PyData.int)) (EL PyData.int)))) h37 (p_lstS (ds := [(E2 (EL (ET PyData.int)) (EL PyData.int)) (s2.2, s2.1), (E2 (EL (ET PyData.int)) (EL PyData.int)) (l3, s2.1), (E2 (EL (ET PyData.int)) (EL PyData.int)) ((cutI s2.2 (some (1 : Int)) none), s2.1), (E2 (EL (ET PyData.int)) (EL PyData.int)) (([] : (List (List Int))), s2.1), (E2 (EL (ET PyData.int)) (EL PyData.int)) (l4, s2.1)]) (a_consB (p_tupM (ds := [(EL (ET PyData.int)) s2.2, (EL PyData.int) s2.1]) (a_consM (p_varM (d := (EL (ET PyData.int)) s2.2) (i := 8) rfl) (a_consM (p_varM (d := (EL PyData.int) s2.1) (i := 9) rfl) a_nil rfl) rfl) (Nat.le_of_ble_eq_true rfl)) (a_consB (p_tupM (ds := [(EL (ET PyData.int)) l3, (EL PyData.int) s2.1]) (a_consM (p_catF (e := (ET PyData.int)) (xs := l2) (ys := (cutI s2.2 (some (n4 + (1 : Int))) none)) (p_catF (e := (ET PyData.int)) (xs := (cutI s2.2 none (some n4))) (ys := ([x18] : (List (List Int)))) (p_slLF (e := (ET PyData.int)) (xs := s2.2) (p_varM (d := (EL (ET PyData.int)) s2.2) (i := 8) rfl) o_no (o_part (p_var (e := PyData.int) (a := n4) (i := 14) (m := 2) rfl))) (p_lstF (ds := [(ET PyData.int) x18]) (a_consF (p_var (e := (ET PyData.int)) (a := x18) (i := 15) (m := 2) rfl) a_nil) (fl_cons (e := (ET PyData.int)) flatL_nil) (Nat.le_of_ble_eq_true rfl)) h34) (p_slLF (e := (ET PyData.int)) (xs := s2.2) (p_varM (d := (EL (ET PyData.int)) s2.2) (i := 8) rfl) (o_part (p_add (p_var (e := PyData.int) (a := n4) (i := 14) (m := 2) rfl) p_int)) o_no) h35) (a_consM (p_varM (d := (EL PyData.int) s2.1) (i := 9) rfl) a_nil rfl) rfl) (Nat.le_of_ble_eq_true rfl)) (a_consB (p_tupM (ds := [(EL (ET PyData.int)) (cutI s2.2 (some (1 : Int)) none), (EL PyData.int) s2.1]) (a_consM (p_slLF (e := (ET PyData.int)) (xs := s2.2) (p_varM (d := (EL (ET PyData.int)) s2.2) (i := 8) rfl) (o_part p_int) o_no) (a_consM (p_varM (d := (EL PyData.int) s2.1) (i := 9) rfl) a_nil rfl) rfl) (Nat.le_of_ble_eq_true rfl)) (a_consB (p_tupM (ds := [(EL (ET PyData.int)) ([] : (List (List Int))), (EL PyData.int) s2.1]) (a_consM (p_lstF (ds := []) a_nil flatL_nil (Nat.le_of_ble_eq_true rfl)) (a_consM (p_varM (d := (EL PyData.int) s2.1) (i := 9) rfl) a_nil rfl) rfl) (Nat.le_of_ble_eq_true rfl)) (a_consM (p_tupM (ds := [(EL (ET PyData.int)) l4, (EL PyData.int) s2.1]) (a_consM (p_catF (e := (ET PyData.int)) (xs := s2.2) (ys := (cutI s2.2 none (some (1 : Int)))) (p_varM (d := (EL (ET PyData.int)) s2.2) (i := 8) rfl) (p_slLF (e := (ET PyData.int)) (xs := s2.2) (p_varM (d := (EL (ET PyData.int)) s2.2) (i := 8) rfl) o_no (o_part p_int)) h36) (a_consM (p_varM (d := (EL PyData.int) s2.1) (i := 9) rfl) a_nil rfl) rfl) (Nat.le_of_ble_eq_true rfl)) a_nil rfl) [9] rfl) [9] rfl) [9] rfl) [8, 9] rfl) (Nat.le_of_ble_eq_true rfl))) rfl rfl)
    (s_bind fun x19 h38 => (s_bind fun n6 h39 => (s_bind fun l5 h40 => (s_bind fun law_cases2 h41 => (s_seq (ρ1 := [none, some ((EL PyData.int) ds, 2), some ((E2 PyData.int (EL (E3 PyData.int PyData.int PyData.int))) r, 2), none, some (PyData.str x3, 2), some (PyData.int x7, 2), some ((EL (EL (EO PyData.int))) r2, 2), some ((EL (ET PyData.int)) r3, 2), some ((EL (ET PyData.int)) s2.2, 0), some ((EL PyData.int) s2.1, 0), none, none, none, some (PyData.str s3, 2), some (PyData.int n4, 2), some ((ET PyData.int) x18, 2), some ((EL (E2 (EL (ET PyData.int)) (EL PyData.int))) law_cases2, 1), none, none, none]) (s_app [1] 16 (e := (E2 (EL (ET PyData.int)) (EL PyData.int))) (xs := law_cases) (x := (s2.2, l5)) (p_tupB (ds := [(EL (ET PyData.int)) s2.2, (EL PyData.int) l5]) [8] (a_consB (p_varB (d := (EL (ET PyData.int)) s2.2) (i := 8) (m := 0) rfl) (a_consM (p_catF (e := PyData.int) (xs := ([n6] : (List Int))) (ys := (cutI s2.1 (some (1 : Int)) none)) (p_lstF (ds := [PyData.int n6]) (a_consF (p_mod (p_cb vf_int (a_consF (p_ixF (d := PyData.int x19) (p_varM (d := (EL PyData.int) ds) (i := 1) rfl) p_int (ixL (e := PyData.int) h38) (Flat.flat (e := PyData.int) _)) a_nil) rfl) (p_ixF (d := PyData.int r.1) (p_varM (d := (E2 PyData.int (EL (E3 PyData.int PyData.int PyData.int))) r) (i := 2) rfl) p_int rfl (Flat.flat (e := PyData.int) _)) h39) a_nil) (fl_cons (e := PyData.int) flatL_nil) (Nat.le_of_ble_eq_true rfl)) (p_slLF (e := PyData.int) (xs := s2.1) (p_varB (d := (EL PyData.int) s2.1) (i := 9) (m := 0) rfl) (o_part p_int) o_no) h40) a_nil rfl) [8] rfl) (Nat.le_of_ble_eq_true rfl) rfl) rfl (.inl rfl) rfl h41 rfl)
    (s_bind fun l6 h42 => (s_bind fun l7 h43 => (s_bind fun law_cases3 h44 => (s_seq (ρ1 := [none, some ((EL PyData.int) ds, 2), some ((E2 PyData.int (EL (E3 PyData.int PyData.int PyData.int))) r, 2), none, some (PyData.str x3, 2), some (PyData.int x7, 2), some ((EL (EL (EO PyData.int))) r2, 2), some ((EL (ET PyData.int)) r3, 2), some ((EL (ET PyData.int)) s2.2, 0), some ((EL PyData.int) s2.1, 0), none, none, none, some (PyData.str s3, 2), some (PyData.int n4, 2), some ((ET PyData.int) x18, 2), some ((EL (E2 (EL (ET PyData.int)) (EL PyData.int))) law_cases3, 1), none, none, none]) (s_app [14] 16 (e := (E2 (EL (ET PyData.int)) (EL PyData.int))) (xs := law_cases2) (x := (l6, l7)) (p_tupM (ds := [(EL (ET PyData.int)) l6, (EL PyData.int) l7]) (a_consM (p_catF (e := (ET PyData.int)) (xs := (cutI s2.2 none (some n4))) (ys := (cutI s2.2 (some (n4 + (1 : Int))) none)) (p_slLF (e := (ET PyData.int)) (xs := s2.2) (p_varB (d := (EL (ET PyData.int)) s2.2) (i := 8) (m := 0) rfl) o_no (o_part (p_var (e := PyData.int) (a := n4) (i := 14) (m := 2) rfl))) (p_slLF (e := (ET PyData.int)) (xs := s2.2) (p_varB (d := (EL (ET PyData.int)) s2.2) (i := 8) (m := 0) rfl) (o_part (p_add (p_var (e := PyData.int) (a := n4) (i := 14) (m := 2) rfl) p_int)) o_no) h42) (a_consM (p_catF (e := PyData.int) (xs := (cutI s2.1 none (some n4))) (ys := (cutI s2.1 (some (n4 + (1 : Int))) none)) (p_slLF (e := PyData.int) (xs := s2.1) (p_varB (d := (EL PyData.int) s2.1) (i := 9) (m := 0) rfl) o_no (o_part (p_var (e := PyData.int) (a := n4) (i := 14) (m := 2) rfl))) (p_slLF (e := PyData.int) (xs := s2.1) (p_varB (d := (EL PyData.int) s2.1) (i := 9) (m := 0) rfl) (o_part (p_add (p_var (e := PyData.int) (a := n4) (i := 14) (m := 2) rfl) p_int)) o_no) h43) a_nil rfl) rfl) (Nat.le_of_ble_eq_true rfl)) rfl (.inl rfl) rfl h44 rfl)
    (s_seqR (s_forC' (wb := [19]) (e := (E2 (EL (ET PyData.int)) (EL PyData.int))) (xs := law_cases3) (f := (fun s4 x20 => L_law_b2 r x3 x7 r2 x20.1 x20.2)) (s0 := ()) (E := (fun (s4 : Unit) => [none, none, some ((E2 PyData.int (EL (E3 PyData.int PyData.int PyData.int))) r, 2), none, some (PyData.str x3, 2), some (PyData.int x7, 2), some ((EL (EL (EO PyData.int))) r2, 2), none, some ((EL (ET PyData.int)) s2.2, 0), some ((EL PyData.int) s2.1, 0), none, none, none, some (PyData.str s3, 2), none, none, none, none, none, none])) (eR := PyData.bool) (r := 2) (fun (s4 : Unit) x20 => [none, none, some ((E2 PyData.int (EL (E3 PyData.int PyData.int PyData.int))) r, 2), none, some (PyData.str x3, 2), some (PyData.int x7, 2), some ((EL (EL (EO PyData.int))) r2, 2), none, some ((EL (ET PyData.int)) s2.2, 0), some ((EL PyData.int) s2.1, 0), none, none, none, some (PyData.str s3, 2), none, none, none, some ((EL (ET PyData.int)) x20.1, 0), some ((EL PyData.int) x20.2, 0), none]) (i_seq (e := (E2 (EL (ET PyData.int)) (EL PyData.int))) (xs := law_cases3) (p_varB (d := (EL (E2 (EL (ET PyData.int)) (EL PyData.int))) law_cases3) (i := 16) (m := 1) rfl) rfl) (vg_tup (vgs_cons (vg_name 17) (vgs_cons (vg_name 18) vgs_nil))) (l_dem (LessE.s (LessE.n (LessE.s (LessE.s (LessE.s (LessE.s (LessE.s (LessE.n (LessE.s (LessE.s (LessE.s (LessE.s (LessE.s (LessE.s (LessE.n (LessE.n (LessE.n (LessE.s (LessE.s (LessE.s LessE.nil))))))))))))))))))))) (fun s4 x20 => (tj_T (tj_cons (tj_0 rfl rfl) (tj_cons (tj_0 rfl rfl) tj_nil)) rfl))
    (fun s4 x20 _ => VS.mono (s_bind fun r5 h45 => (s_seq (ρ1 := [none, none, some ((E2 PyData.int (EL (E3 PyData.int PyData.int PyData.int))) r, 2), none, some (PyData.str x3, 2), some (PyData.int x7, 2), some ((EL (EL (EO PyData.int))) r2, 2), none, some ((EL (ET PyData.int)) s2.2, 0), some ((EL PyData.int) s2.1, 0), none, none, none, some (PyData.str s3, 2), none, none, none, some ((EL (ET PyData.int)) x20.1, 0), some ((EL PyData.int) x20.2, 0), some (PyData.bool r5, 2)]) (s_set [] 19 (p_callNF (e := PyData.bool) (L := fun (a : ((Int × (List (Int × Int × Int))) × (List (List Int)) × (List Int) × Str × Int)) => L_is_answered a.1 a.2.1 a.2.2.1 a.2.2.2.1 a.2.2.2.2) (a := (r, x20.1, x20.2, x3, x7)) h45 (a_consB (p_varM (d := (E2 PyData.int (EL (E3 PyData.int PyData.int PyData.int))) r) (i := 2) rfl) (a_consB (p_varB (d := (EL (ET PyData.int)) x20.1) (i := 17) (m := 0) rfl) (a_consB (p_varB (d := (EL PyData.int) x20.2) (i := 18) (m := 0) rfl) a_nil [18] rfl) [17, 18] rfl) [2, 17, 18] rfl) (a_consF (p_var (e := PyData.str) (a := x3) (i := 4) (m := 2) rfl) (a_consF (p_var (e := PyData.int) (a := x7) (i := 5) (m := 2) rfl) a_nil)) rfl rfl rfl rfl) rfl rfl)
    (s_bind fun b h47 => (s_if (tv_at h47 (c_or (t_not (t_tru (p_isi "bool" (by decide +kernel) (p_var (e := PyData.bool) (a := r5) (i := 19) (m := 2) rfl) (by first | rfl | (unfold isiD tyD; decide +kernel)) rfl) rfl)) fun _ => (c_bind fun r6 h46 => (t_val (p_ne (e := PyData.bool) (a := r5) (b := r6) (p_var (e := PyData.bool) (a := r5) (i := 19) (m := 2) rfl) (p_callF (e := PyData.bool) (L := fun (a : ((List (List (Option Int))) × (List (List Int)) × (List Int) × Str × Int)) => L_law_is_answered a.1 a.2.1 a.2.2.1 a.2.2.2.1 a.2.2.2.2) (a := (r2, x20.1, x20.2, x3, x7)) h46 (a_consB (p_varM (d := (EL (EL (EO PyData.int))) r2) (i := 6) rfl) (a_consB (p_varB (d := (EL (ET PyData.int)) x20.1) (i := 17) (m := 0) rfl) (a_consB (p_varB (d := (EL PyData.int) x20.2) (i := 18) (m := 0) rfl) (a_consF (p_var (e := PyData.str) (a := x3) (i := 4) (m := 2) rfl) (a_consF (p_var (e := PyData.int) (a := x7) (i := 5) (m := 2) rfl) a_nil)) [18] rfl) [17, 18] rfl) [6, 17, 18] rfl) rfl rfl) (by decide)))))) (fun _ => (s_ret p_bl rfl)) (fun _ => (s_out s_next (LessE.s (LessE.s (LessE.s (LessE.s (LessE.s (LessE.s (LessE.s (LessE.s (LessE.s (LessE.s (LessE.s (LessE.s (LessE.s (LessE.s (LessE.s (LessE.s (LessE.s (LessE.n (LessE.n (LessE.n LessE.nil)))))))))))))))))))))))))) (by decide))) (fun s5 => (s_bind fun s6 h48 => (s_ret (p_eqS (p_cb vf_repr (a_consB (p_tupB (ds := [(E2 PyData.int (EL (E3 PyData.int PyData.int PyData.int))) r, (EL (ET PyData.int)) s2.2, (EL PyData.int) s2.1]) [2, 8, 9] (a_consB (p_varM (d := (E2 PyData.int (EL (E3 PyData.int PyData.int PyData.int))) r) (i := 2) rfl) (a_consB (p_varB (d := (EL (ET PyData.int)) s2.2) (i := 8) (m := 0) rfl) (a_consB (p_varB (d := (EL PyData.int) s2.1) (i := 9) (m := 0) rfl) a_nil [9] rfl) [8, 9] rfl) [2, 8, 9] rfl) (Nat.le_of_ble_eq_true rfl) rfl) a_nil [2, 8, 9] rfl) (reprD h48)) (p_var (e := PyData.str) (a := s3) (i := 13) (m := 2) rfl)) rfl))) (fun _ => rfl)))))))))))))))))))))))))))))))))))))))))))))))))))))) h (by decide) (by decide) (by decide) (fun _ => LessE.refl) (fun ds hd => math_law ds hd)⟩)
end
theorem all_mk {P : Program} {w : World} {K : PySem.W.Frag} {h : Heap} {mg : Str → Option Value} {fa f1 f2 f3 f4 f5 f6 f7 f8 f9 f10 f11 f12 f13 f14 f15 f16 f17 : Addr} (X : K.In h) (G : h.Ns mainGlobals mg) (hfa : mg "law" = some (.ref fa))
    {od1 an1 od2 an2 od3 an3 od4 an4 od5 an5 od6 an6 od7 an7 od8 an8 od9 an9 od10 an10 od11 an11 od12 an12 od13 an13 od14 an14 od15 an15 od16 an16 od17 an17 : Option Addr} {sl1 sl2 sl3 sl4 sl5 sl6 sl7 sl8 sl9 sl10 sl11 sl12 sl13 sl14 sl15 sl16 sl17 : Array (Option Value)} {oc1 kV1 dc1 pm1 cd1 ct1 oc2 kV2 dc2 pm2 cd2 ct2 oc3 kV3 dc3 pm3 cd3 ct3 oc4 kV4 dc4 pm4 cd4 ct4 oc5 kV5 dc5 pm5 cd5 ct5 oc6 kV6 dc6 pm6 cd6 ct6 oc7 kV7 dc7 pm7 cd7 ct7 oc8 kV8 dc8 pm8 cd8 ct8 oc9 kV9 dc9 pm9 cd9 ct9 oc10 kV10 dc10 pm10 cd10 ct10 oc11 kV11 dc11 pm11 cd11 ct11 oc12 kV12 dc12 pm12 cd12 ct12 oc13 kV13 dc13 pm13 cd13 ct13 oc14 kV14 dc14 pm14 cd14 ct14 oc15 kV15 dc15 pm15 cd15 ct15 oc16 kV16 dc16 pm16 cd16 ct16 oc17 kV17 dc17 pm17 cd17 ct17 : Value}
    (a1 : PySem.W.nsIn K mainGlobals "_law_draws" = some (some (.ref f1))) (l1 : K.lookup f1 = some ⟨oc1, od1, .func (PySem.W.fnOf "_law_draws" "_law_draws" (defArgs s_law_draws) (defBody s_law_draws) (defScope s_law_draws) .none kV1 dc1 pm1 an1 cd1 ct1), sl1⟩) (c1 : PySem.W.codeIn K cd1 "_law_draws" = true) (k1 : PySem.W.keepIn K (.ref f1) = true)
    (a2 : PySem.W.nsIn K mainGlobals "_law_town" = some (some (.ref f2))) (l2 : K.lookup f2 = some ⟨oc2, od2, .func (PySem.W.fnOf "_law_town" "_law_town" (defArgs s_law_town) (defBody s_law_town) (defScope s_law_town) .none kV2 dc2 pm2 an2 cd2 ct2), sl2⟩) (c2 : PySem.W.codeIn K cd2 "_law_town" = true) (k2 : PySem.W.keepIn K (.ref f2) = true)
    (a3 : PySem.W.nsIn K mainGlobals "_law_ways" = some (some (.ref f3))) (l3 : K.lookup f3 = some ⟨oc3, od3, .func (PySem.W.fnOf "_law_ways" "_law_ways" (defArgs s_law_ways) (defBody s_law_ways) (defScope s_law_ways) .none kV3 dc3 pm3 an3 cd3 ct3), sl3⟩) (c3 : PySem.W.codeIn K cd3 "_law_ways" = true) (k3 : PySem.W.keepIn K (.ref f3) = true)
    (a4 : PySem.W.nsIn K mainGlobals "_law_stands" = some (some (.ref f4))) (l4 : K.lookup f4 = some ⟨oc4, od4, .func (PySem.W.fnOf "_law_stands" "_law_stands" (defArgs s_law_stands) (defBody s_law_stands) (defScope s_law_stands) .none kV4 dc4 pm4 an4 cd4 ct4), sl4⟩) (c4 : PySem.W.codeIn K cd4 "_law_stands" = true) (k4 : PySem.W.keepIn K (.ref f4) = true)
    (a5 : PySem.W.nsIn K mainGlobals "_law_orders" = some (some (.ref f5))) (l5 : K.lookup f5 = some ⟨oc5, od5, .func (PySem.W.fnOf "_law_orders" "_law_orders" (defArgs s_law_orders) (defBody s_law_orders) (defScope s_law_orders) .none kV5 dc5 pm5 an5 cd5 ct5), sl5⟩) (c5 : PySem.W.codeIn K cd5 "_law_orders" = true) (k5 : PySem.W.keepIn K (.ref f5) = true)
    (a6 : PySem.W.nsIn K mainGlobals "_law_move" = some (some (.ref f6))) (l6 : K.lookup f6 = some ⟨oc6, od6, .func (PySem.W.fnOf "_law_move" "_law_move" (defArgs s_law_move) (defBody s_law_move) (defScope s_law_move) .none kV6 dc6 pm6 an6 cd6 ct6), sl6⟩) (c6 : PySem.W.codeIn K cd6 "_law_move" = true) (k6 : PySem.W.keepIn K (.ref f6) = true)
    (a7 : PySem.W.nsIn K mainGlobals "_law_answers" = some (some (.ref f7))) (l7 : K.lookup f7 = some ⟨oc7, od7, .func (PySem.W.fnOf "_law_answers" "_law_answers" (defArgs s_law_answers) (defBody s_law_answers) (defScope s_law_answers) .none kV7 dc7 pm7 an7 cd7 ct7), sl7⟩) (c7 : PySem.W.codeIn K cd7 "_law_answers" = true) (k7 : PySem.W.keepIn K (.ref f7) = true)
    (a8 : PySem.W.nsIn K mainGlobals "all_stands" = some (some (.ref f8))) (l8 : K.lookup f8 = some ⟨oc8, od8, .func (PySem.W.fnOf "all_stands" "all_stands" (defArgs s_all_stands) (defBody s_all_stands) (defScope s_all_stands) .none kV8 dc8 pm8 an8 cd8 ct8), sl8⟩) (c8 : PySem.W.codeIn K cd8 "all_stands" = true) (k8 : PySem.W.keepIn K (.ref f8) = true)
    (a9 : PySem.W.nsIn K mainGlobals "paired_length" = some (some (.ref f9))) (l9 : K.lookup f9 = some ⟨oc9, od9, .func (PySem.W.fnOf "paired_length" "paired_length" (defArgs s_paired_length) (defBody s_paired_length) (defScope s_paired_length) .none kV9 dc9 pm9 an9 cd9 ct9), sl9⟩) (c9 : PySem.W.codeIn K cd9 "paired_length" = true) (k9 : PySem.W.keepIn K (.ref f9) = true)
    (a10 : PySem.W.nsIn K mainGlobals "answers_by_all" = some (some (.ref f10))) (l10 : K.lookup f10 = some ⟨oc10, od10, .func (PySem.W.fnOf "answers_by_all" "answers_by_all" (defArgs s_answers_by_all) (defBody s_answers_by_all) (defScope s_answers_by_all) .none kV10 dc10 pm10 an10 cd10 ct10), sl10⟩) (c10 : PySem.W.codeIn K cd10 "answers_by_all" = true) (k10 : PySem.W.keepIn K (.ref f10) = true)
    (a11 : PySem.W.nsIn K mainGlobals "sent" = some (some (.ref f11))) (l11 : K.lookup f11 = some ⟨oc11, od11, .func (PySem.W.fnOf "sent" "sent" (defArgs s_sent) (defBody s_sent) (defScope s_sent) .none kV11 dc11 pm11 an11 cd11 ct11), sl11⟩) (c11 : PySem.W.codeIn K cd11 "sent" = true) (k11 : PySem.W.keepIn K (.ref f11) = true)
    (a12 : PySem.W.nsIn K mainGlobals "answers_by_one" = some (some (.ref f12))) (l12 : K.lookup f12 = some ⟨oc12, od12, .func (PySem.W.fnOf "answers_by_one" "answers_by_one" (defArgs s_answers_by_one) (defBody s_answers_by_one) (defScope s_answers_by_one) .none kV12 dc12 pm12 an12 cd12 ct12), sl12⟩) (c12 : PySem.W.codeIn K cd12 "answers_by_one" = true) (k12 : PySem.W.keepIn K (.ref f12) = true)
    (a13 : PySem.W.nsIn K mainGlobals "ways" = some (some (.ref f13))) (l13 : K.lookup f13 = some ⟨oc13, od13, .func (PySem.W.fnOf "ways" "ways" (defArgs s_ways) (defBody s_ways) (defScope s_ways) .none kV13 dc13 pm13 an13 cd13 ct13), sl13⟩) (c13 : PySem.W.codeIn K cd13 "ways" = true) (k13 : PySem.W.keepIn K (.ref f13) = true)
    (a14 : PySem.W.nsIn K mainGlobals "answers" = some (some (.ref f14))) (l14 : K.lookup f14 = some ⟨oc14, od14, .func (PySem.W.fnOf "answers" "answers" (defArgs s_answers) (defBody s_answers) (defScope s_answers) .none kV14 dc14 pm14 an14 cd14 ct14), sl14⟩) (c14 : PySem.W.codeIn K cd14 "answers" = true) (k14 : PySem.W.keepIn K (.ref f14) = true)
    (a15 : PySem.W.nsIn K mainGlobals "is_answered" = some (some (.ref f15))) (l15 : K.lookup f15 = some ⟨oc15, od15, .func (PySem.W.fnOf "is_answered" "is_answered" (defArgs s_is_answered) (defBody s_is_answered) (defScope s_is_answered) .none kV15 dc15 pm15 an15 cd15 ct15), sl15⟩) (c15 : PySem.W.codeIn K cd15 "is_answered" = true) (k15 : PySem.W.keepIn K (.ref f15) = true)
    (a16 : PySem.W.nsIn K mainGlobals "_law_is_answered" = some (some (.ref f16))) (l16 : K.lookup f16 = some ⟨oc16, od16, .func (PySem.W.fnOf "_law_is_answered" "_law_is_answered" (defArgs s_law_is_answered) (defBody s_law_is_answered) (defScope s_law_is_answered) .none kV16 dc16 pm16 an16 cd16 ct16), sl16⟩) (c16 : PySem.W.codeIn K cd16 "_law_is_answered" = true) (k16 : PySem.W.keepIn K (.ref f16) = true)
    (a17 : PySem.W.nsIn K mainGlobals "law" = some (some (.ref f17))) (l17 : K.lookup f17 = some ⟨oc17, od17, .func (PySem.W.fnOf "law" "law" (defArgs s_law) (defBody s_law) (defScope s_law) .none kV17 dc17 pm17 an17 cd17 ct17), sl17⟩) (c17 : PySem.W.codeIn K cd17 "law" = true) (k17 : PySem.W.keepIn K (.ref f17) = true)
    (z_range : PySem.W.nsIn K mainGlobals "range" = some none)    (z_len : PySem.W.nsIn K mainGlobals "len" = some none)    (z_int : PySem.W.nsIn K mainGlobals "int" = some none)    (z_sorted : PySem.W.nsIn K mainGlobals "sorted" = some none)    (z_list : PySem.W.nsIn K mainGlobals "list" = some none)    (z_all : PySem.W.nsIn K mainGlobals "all" = some none)    (z_sum : PySem.W.nsIn K mainGlobals "sum" = some none)    (z_tuple : PySem.W.nsIn K mainGlobals "tuple" = some none)    (z_zip : PySem.W.nsIn K mainGlobals "zip" = some none)    (z_set : PySem.W.nsIn K mainGlobals "set" = some none)    (z_enumerate : PySem.W.nsIn K mainGlobals "enumerate" = some none)    (z_repr : PySem.W.nsIn K mainGlobals "repr" = some none)    (z_isinstance : PySem.W.nsIn K mainGlobals "isinstance" = some none)    (z_bool : PySem.W.nsIn K mainGlobals "bool" = some none)    (y_permutations : PySem.W.nsIn K mainGlobals "permutations" = some (some (.type "itertools.permutations"))) :
    ∃ fd : FuncData, (∀ (s : Shared) (u : Value), BindsTo s fd ⟨[u], []⟩ [("_law_script", u)]) ∧ ∀ base : Heap, K.In base → base.Ns mainGlobals mg → FnG P w K mg base 11 fa fd ["_law_script"] (spLaw K) := by
  have e := hfa.symm.trans (PySem.W.mg_of X G a17)
  cases e
  refine ⟨PySem.W.fnOf "law" "law" (defArgs s_law) (defBody s_law) (defScope s_law) .none kV17 dc17 pm17 an17 cd17 ct17, fun s v => .of_eq rfl, fun base _ _ => ?_⟩
  have b_range := PySem.W.mg_none_of X G z_range
  have b_len := PySem.W.mg_none_of X G z_len
  have b_int := PySem.W.mg_none_of X G z_int
  have b_sorted := PySem.W.mg_none_of X G z_sorted
  have b_list := PySem.W.mg_none_of X G z_list
  have b_all := PySem.W.mg_none_of X G z_all
  have b_sum := PySem.W.mg_none_of X G z_sum
  have b_tuple := PySem.W.mg_none_of X G z_tuple
  have b_zip := PySem.W.mg_none_of X G z_zip
  have b_set := PySem.W.mg_none_of X G z_set
  have b_enumerate := PySem.W.mg_none_of X G z_enumerate
  have b_repr := PySem.W.mg_none_of X G z_repr
  have b_isinstance := PySem.W.mg_none_of X G z_isinstance
  have b_bool := PySem.W.mg_none_of X G z_bool
  have k_permutations := PySem.W.mg_of X G y_permutations
  have c_law_draws := ok_law_draws (P := P) (w := w) (base := base) (fun_mk (st := s_law_draws) l1 c1 k1) (PySem.W.mg_of X G a1) b_range b_len b_int
  have c_law_town := ok_law_town (P := P) (w := w) (base := base) (fun_mk (st := s_law_town) l2 c2 k2) (PySem.W.mg_of X G a2) b_int b_range
  have c_law_ways := ok_law_ways (P := P) (w := w) (base := base) (fun_mk (st := s_law_ways) l3 c3 k3) (PySem.W.mg_of X G a3) b_range
  have c_law_stands := ok_law_stands (P := P) (w := w) (base := base) (fun_mk (st := s_law_stands) l4 c4 k4) (PySem.W.mg_of X G a4) b_range b_len b_sorted
  have c_law_orders := ok_law_orders (P := P) (w := w) (base := base) (fun_mk (st := s_law_orders) l5 c5 k5) (PySem.W.mg_of X G a5) b_len b_list b_range 6
  have c_law_move := ok_law_move (P := P) (w := w) (base := base) (fun_mk (st := s_law_move) l6 c6 k6) (PySem.W.mg_of X G a6) b_range b_len b_all b_sum c_law_orders
  have c_law_answers := ok_law_answers (P := P) (w := w) (base := base) (fun_mk (st := s_law_answers) l7 c7 k7) (PySem.W.mg_of X G a7) b_len b_range b_tuple b_sorted c_law_stands c_law_move
  have c_all_stands := ok_all_stands (P := P) (w := w) (base := base) (fun_mk (st := s_all_stands) l8 c8 k8) (PySem.W.mg_of X G a8) b_range
  have c_paired_length := ok_paired_length (P := P) (w := w) (base := base) (fun_mk (st := s_paired_length) l9 c9 k9) (PySem.W.mg_of X G a9) b_zip b_all b_sum k_permutations
  have c_answers_by_all := ok_answers_by_all (P := P) (w := w) (base := base) (fun_mk (st := s_answers_by_all) l10 c10 k10) (PySem.W.mg_of X G a10) b_len c_all_stands c_paired_length
  have c_sent := ok_sent (P := P) (w := w) (base := base) (fun_mk (st := s_sent) l11 c11 k11) (PySem.W.mg_of X G a11) b_tuple b_sorted
  have c_answers_by_one := ok_answers_by_one (P := P) (w := w) (base := base) (fun_mk (st := s_answers_by_one) l12 c12 k12) (PySem.W.mg_of X G a12) b_sorted b_set c_sent
  have c_ways := ok_ways (P := P) (w := w) (base := base) (fun_mk (st := s_ways) l13 c13 k13) (PySem.W.mg_of X G a13) b_range
  have c_answers := ok_answers (P := P) (w := w) (base := base) (fun_mk (st := s_answers) l14 c14 k14) (PySem.W.mg_of X G a14) c_answers_by_all c_answers_by_one c_ways
  have c_is_answered := ok_is_answered (P := P) (w := w) (base := base) (fun_mk (st := s_is_answered) l15 c15 k15) (PySem.W.mg_of X G a15) b_len b_enumerate c_answers
  have c_law_is_answered := ok_law_is_answered (P := P) (w := w) (base := base) (fun_mk (st := s_law_is_answered) l16 c16 k16) (PySem.W.mg_of X G a16) b_len b_range c_law_answers
  exact ok_law (fun_mk (st := s_law) l17 c17 k17) (PySem.W.mg_of X G a17) b_int b_len b_range b_repr b_isinstance b_bool c_law_draws c_law_town c_law_ways c_law_stands c_law_answers c_is_answered c_law_is_answered
end Kk
open PySem PySem.W PyProof.Rows in
set_option maxRecDepth 100000 in
set_option maxHeartbeats 0 in
theorem PySem.Challenge.cw_evernear_k06_rows_of_calls_that_are_answ_holds : PySem.Challenge.rw_evernear_k06_rows_of_calls_that_are_answ.Holds := by
  w_on; o_law; k_head; (case hw => w_witness2)
  k_fill
  refine Va.walk_G (l := PySem.Challenge.rw_evernear_k06_rows_of_calls_that_are_answ) (k := 11) (x := "_law_script") rfl rfl ⟨rfl, by decide, by decide⟩ (fun w h Y => PySem.W.kIn_of Y) ?F
  case F =>
    intro w mg fa h KX G hmg
    refine' Kk.all_mk KX G hmg ?a1 ?l1 ?c1 ?k1 ?a2 ?l2 ?c2 ?k2 ?a3 ?l3 ?c3 ?k3 ?a4 ?l4 ?c4 ?k4 ?a5 ?l5 ?c5 ?k5 ?a6 ?l6 ?c6 ?k6 ?a7 ?l7 ?c7 ?k7 ?a8 ?l8 ?c8 ?k8 ?a9 ?l9 ?c9 ?k9 ?a10 ?l10 ?c10 ?k10 ?a11 ?l11 ?c11 ?k11 ?a12 ?l12 ?c12 ?k12 ?a13 ?l13 ?c13 ?k13 ?a14 ?l14 ?c14 ?k14 ?a15 ?l15 ?c15 ?k15 ?a16 ?l16 ?c16 ?k16 ?a17 ?l17 ?c17 ?k17 ?z_range ?z_len ?z_int ?z_sorted ?z_list ?z_all ?z_sum ?z_tuple ?z_zip ?z_set ?z_enumerate ?z_repr ?z_isinstance ?z_bool ?y_permutations
    (case a1 => k_is)
    (case l1 => k_is)
    (case c1 => k_is)
    (case k1 => k_is)
    (case a2 => k_is)
    (case l2 => k_is)
    (case c2 => k_is)
    (case k2 => k_is)
    (case a3 => k_is)
    (case l3 => k_is)
    (case c3 => k_is)
    (case k3 => k_is)
    (case a4 => k_is)
    (case l4 => k_is)
    (case c4 => k_is)
    (case k4 => k_is)
    (case a5 => k_is)
    (case l5 => k_is)
    (case c5 => k_is)
    (case k5 => k_is)
    (case a6 => k_is)
    (case l6 => k_is)
    (case c6 => k_is)
    (case k6 => k_is)
    (case a7 => k_is)
    (case l7 => k_is)
    (case c7 => k_is)
    (case k7 => k_is)
    (case a8 => k_is)
    (case l8 => k_is)
    (case c8 => k_is)
    (case k8 => k_is)
    (case a9 => k_is)
    (case l9 => k_is)
    (case c9 => k_is)
    (case k9 => k_is)
    (case a10 => k_is)
    (case l10 => k_is)
    (case c10 => k_is)
    (case k10 => k_is)
    (case a11 => k_is)
    (case l11 => k_is)
    (case c11 => k_is)
    (case k11 => k_is)
    (case a12 => k_is)
    (case l12 => k_is)
    (case c12 => k_is)
    (case k12 => k_is)
    (case a13 => k_is)
    (case l13 => k_is)
    (case c13 => k_is)
    (case k13 => k_is)
    (case a14 => k_is)
    (case l14 => k_is)
    (case c14 => k_is)
    (case k14 => k_is)
    (case a15 => k_is)
    (case l15 => k_is)
    (case c15 => k_is)
    (case k15 => k_is)
    (case a16 => k_is)
    (case l16 => k_is)
    (case c16 => k_is)
    (case k16 => k_is)
    (case a17 => k_is)
    (case l17 => k_is)
    (case c17 => k_is)
    (case k17 => k_is)
    (case z_range => k_is)
    (case z_len => k_is)
    (case z_int => k_is)
    (case z_sorted => k_is)
    (case z_list => k_is)
    (case z_all => k_is)
    (case z_sum => k_is)
    (case z_tuple => k_is)
    (case z_zip => k_is)
    (case z_set => k_is)
    (case z_enumerate => k_is)
    (case z_repr => k_is)
    (case z_isinstance => k_is)
    (case z_bool => k_is)
    (case y_permutations => k_is)

