import PyProof.Rows.All
import Wide.All
import OpenK.AllK
import Wide.FinOn
import HandS.ForMost
import HandS.Lambda
import HandS.TupAny
import HandS.Wide
import KE.KDictKeyed
import KE.KeyNested
import KE.KDictWalk
import HandS.Dict
import HandS.WideBits
import HandS.Deep
import HandS.Zip
import KE.GoesMore
import HandS.IsInst
import HandS.RaiseMore
import HandS.Star
import HandS.EndBits
import HandS.Defaults
import KE.SortData
import KE.DataCmp
import HandS.SetFor
import HandS.Strs
import HandS.CallLocal
import HandS.TupLen
import KE.KDictSum
import HandS.DictComp
import HandS.Flow
import PyProof.Rows.TupDisplay
import HandS.Iter
import HandS.DictSubView
import HandS.SortKw
import KE.DataMinMax
import HandS.Style
import HandS.TupLe
import KE.KDictPairs
import HandS.Conv
import HandS.Gcd
import HandS.Text
import PySem.Challenge.RW_evernear_k11_towns_read_back
set_option Elab.async false
set_option linter.all false
set_option maxRecDepth 100000
set_option maxHeartbeats 4000000
/-! Tb0: the code objects' tables on which the law's defs may write (lambdas): a claim with lambdas tells them here. -/
namespace Va
open PySem L2
def TABS : List (Addr × Str) := []
end Va

/-! Va0: new tuples, whose objects are known to have no dict. -/
namespace L2
open PySem PySem.Spec PyProof.Rows
section
variable {X : Cx} {es : List Expr} {t : TA} {pos : Pos}
def tTupN (t : TA) : TE := fun σ H Q => t σ H fun xs H1 => xs.length ≤ sizeLine ∧ ∀ (p : Addr) (o : Obj), o.dict = none → H1 p = none → Q (.ref p) (upd H1 p (.frz o (.tup xs)))
theorem pe_tupN {x1} (h : PA X es t) : PE X (.Tuple es x1 pos) (tTupN t) := by
  refine ⟨fun pins s σ H Q I hq => ?_⟩
  refine wpAny_Tuple_spliced (thn (h.run pos pins s σ H _ I hq) fun us s1 ⟨xs, H1, I1, r, z, q⟩ => ⟨by rw [← r.length]; exact z, ?_⟩)
  have hf : H1 s1.heap.objs.size = none := I1.hok.fresh (Nat.le_refl _)
  refine ⟨.ref s1.heap.objs.size, _, I1.laid (t' := s1.toks) (o := .frz { cls := .type "tuple", data := .seq us.toArray } (.tup xs)) (fun b u e => Heap.get?_push_of_some _ e) (Nat.le_refl _) ?_, rfl, q _ _ rfl hf⟩
  exact ⟨Heap.get?_push_size _ rfl, z, us, r, ⟨_, Heap.get?_push_size _ rfl, rfl, _, rfl⟩⟩
theorem call_tuple_ofN : CallR X (.type "tuple") (fun xs H Q => ∃ p ys, xs = [.ref p] ∧ ((SqL X.K H p ys ∧ ∀ (l : Addr) (o : Obj), o.dict = none → H l = none → Q (.ref l) (upd H l (.frz o (.tup ys)))) ∨ (SqT X.K H p ys ∧ Q (.ref p) H))) := by
  intro pins s σ H xs us Q I r h
  obtain ⟨p, ys, rfl, h⟩ := h
  obtain ⟨u, rfl, rx⟩ := vals1 r
  cases rx
  rcases h with ⟨hq, q⟩ | ⟨hq, q⟩
  · obtain ⟨its, r', pl, hz⟩ := I.list hq
    have hlen := r'.length
    refine call_tuple_list pl.isList (fun h' kp => ?_) (by simp only [List.size_toArray] <;> omega)
    have I1 : Inv X pins σ H { s with heap := h' } := I.kept (t' := s.toks) kp
    have I2 : Inv X pins σ (upd H h'.objs.size (.frz { cls := .type "tuple", data := .seq its.toArray } (.tup ys))) { s with heap := h'.push { cls := .type "tuple", data := .seq its.toArray } } :=
      I1.laid (t' := s.toks) (fun b o e => Heap.get?_push_of_some _ e) (Nat.le_refl _) (show ObjOk X.prog X.w _ _ _ (.frz _ (.tup ys)) from ⟨Heap.get?_push_size _ rfl, hz, its, r', IsTup.new _ _⟩)
    exact ⟨.ref h'.objs.size, _, I2, rfl, q _ _ rfl (I1.hok.fresh (Nat.le_refl _))⟩
  · obtain ⟨its, r', pl, hz⟩ := I.tuple hq
    exact call_tuple_same pl ⟨.ref p, H, I, rfl, q⟩
def rCatN (K : PySem.W.Frag) : R2 := fun x y H Q => ∃ a b xs ys, x = .ref a ∧ y = .ref b ∧ SqT K H a xs ∧ SqT K H b ys ∧ xs.length + ys.length ≤ sizeLine ∧
  (xs = [] → Q (.ref b) H) ∧ (xs ≠ [] → ys = [] → Q (.ref a) H) ∧ (xs ≠ [] → ys ≠ [] → ∀ (p : Addr) (o : Obj), o.dict = none → H p = none → Q (.ref p) (upd H p (.frz o (.tup (xs ++ ys)))))
theorem op_catN : OpR X (binaryOp .Add) (rCatN X.K) := by
  intro pins s σ H x y v u Q I rx ry h
  obtain ⟨a, b, xs, ys, rfl, rfl, ha, hb, hz, q0, q1, q2⟩ := h
  cases rx
  cases ry
  obtain ⟨its, r1, p1, _⟩ := I.tuple ha
  obtain ⟨its2, r2, p2, _⟩ := I.tuple hb
  by_cases hx : xs = []
  · subst hx
    cases r1
    exact cat_tup0 p1 p2 ⟨.ref b, H, I, rfl, q0 rfl⟩
  · refine HT.cat_tup p1 p2 (fun z => hx (r1.nil_iff.mp z)) (fun z => ⟨.ref a, H, I, rfl, q1 hx (r2.nil_iff.mp z)⟩) (fun z => ?_) (by rw [← r1.length, ← r2.length]; exact hz)
    refine ⟨.ref s.heap.objs.size, _, I.laid (t' := s.toks) (o := .frz { cls := .type "tuple", data := .seq (its ++ its2).toArray } (.tup (xs ++ ys))) (fun b ob q => Heap.get?_push_of_some _ q) (Nat.le_refl _) ?_, rfl, q2 hx (fun w => z (r2.nil_iff.mpr w)) _ _ rfl (I.hok.fresh (Nat.le_refl _))⟩
    exact ⟨Heap.get?_push_size _ rfl, by rw [List.length_append]; exact hz, _, r1.append r2, IsTup.new _ _⟩
def rSlN (K : PySem.W.Frag) : V → Option Int → Option Int → Hp → VK → Prop := fun x lo hi H Q => ∃ a xs, x = .ref a ∧ SqT K H a xs ∧
  (HT.sIx xs.length 0 lo = 0 ∧ HT.sIx xs.length xs.length hi = xs.length → Q (.ref a) H) ∧ (¬ (HT.sIx xs.length 0 lo = 0 ∧ HT.sIx xs.length xs.length hi = xs.length) → ∀ (p : Addr) (o : Obj), o.dict = none → H p = none → Q (.ref p) (upd H p (.frz o (.tup (cutV xs lo hi)))))
theorem sl_tupN : SlR X (rSlN X.K) := by
  intro pins s σ H x v vl vu lo hi sl Q I rx hs pl pu h
  obtain ⟨a, xs, rfl, hx, q1, q2⟩ := h
  cases rx
  obtain ⟨its, r, ht, hz⟩ := I.tuple hx
  have hlen : its.toArray.size = xs.length := by rw [List.size_toArray]; exact r.length.symm
  refine ⟨"tuple", _, PyProof.Rows.slot_tuple_getitem.lookup, ht.typeIs, ?_⟩
  by_cases hw : HT.sIx xs.length 0 lo = 0 ∧ HT.sIx xs.length xs.length hi = xs.length
  · exact getItem_tuple_whole ht hs pl pu (by rw [hlen]; exact hw) ⟨.ref a, H, I, rfl, q1 hw⟩
  · refine HT.getItem_tuple_cut ht hs pl pu (by rw [hlen]; exact hw) ?_ (by rw [hlen]; exact hz)
    rw [hlen]
    refine ⟨.ref s.heap.objs.size, _, I.laid (t' := s.toks) (o := .frz { cls := .type "tuple", data := .seq ((its.drop (HT.sIx xs.length 0 lo)).take (HT.sIx xs.length xs.length hi - HT.sIx xs.length 0 lo)).toArray } (.tup (cutV xs lo hi))) (fun b ob q => Heap.get?_push_of_some _ q) (Nat.le_refl _) ?_, rfl, q2 hw _ _ rfl (I.hok.fresh (Nat.le_refl _))⟩
    exact ⟨Heap.get?_push_size _ rfl, Nat.le_trans (cutV_length xs lo hi) hz, _, (r.drop (HT.sIx xs.length 0 lo)).take (HT.sIx xs.length xs.length hi - HT.sIx xs.length 0 lo), IsTup.new _ _⟩
end
end L2

/-! Vd0: dicts by tuples of numbers (of any depth); the object itself is told. -/
namespace Va
open PySem L2
/-- an object that is known to have no dict of its own -/
def NoD (K : PySem.W.Frag) (H : Hp) (a : Addr) : Prop := (∃ o u, H a = some (.frz o u) ∧ o.dict = none) ∨ ∃ o, K.lookup a = some o ∧ o.dict = none
end Va
namespace L2
open PySem PySem.Spec PyProof.Rows
/-- a tuple whose object has no dict -/
def SqN (K : PySem.W.Frag) (H : Hp) (a : Addr) (xs : List V) : Prop := SqT K H a xs ∧ Va.NoD K H a
/-- the object at a is o: it may be written -/
def dX (a : Addr) (o : Obj) : HO := .ext (fun h => h.get? a = some o)
theorem dX_ok {P : Program} {w : World} {H : Hp} {h : Heap} {a : Addr} {o : Obj} (e : h.get? a = some o) : ObjOk P w H h a (dX a o) := ⟨e, ⟨o, e⟩, fun _ _ p k => k _ p⟩
theorem dX_at {X : Cx} {pins : List (Addr × Obj)} {σ : St} {H : Hp} {s : Shared} {a : Addr} {o : Obj} (I : Inv X pins σ H s) (e : H a = some (dX a o)) : s.heap.get? a = some o :=
  (show s.heap.get? a = some o ∧ _ from I.hok a _ e).1
mutual
/-- v is the key k -/
inductive NK (K : PySem.W.Frag) (H : Hp) : V → NestedKey → Prop
  | non : NK K H .non .none
  | int (i : Int) : NK K H (.int i) (.num i)
  | tup {a : Addr} {xs : List V} {ks : List NestedKey} : SqN K H a xs → NKL K H xs ks → NK K H (.ref a) (.tup ks)
inductive NKL (K : PySem.W.Frag) (H : Hp) : List V → List NestedKey → Prop
  | nil : NKL K H [] []
  | cons {v : V} {vs : List V} {k : NestedKey} {ks : List NestedKey} : NK K H v k → NKL K H vs ks → NKL K H (v :: vs) (k :: ks)
end
section
variable {K : PySem.W.Frag} {H H' : Hp}
mutual
theorem NK.hash : ∀ {v : V} {k : NestedKey}, NK K H v k → ∀ w w' : World, k.hash w = k.hash w'
  | _, _, .non, _, _ => rfl
  | _, _, .int _, _, _ => rfl
  | _, _, .tup _ r, w, w' => by rw [NestedKey.hash, NestedKey.hash, NKL.hash r w w']
theorem NKL.hash : ∀ {vs : List V} {ks : List NestedKey}, NKL K H vs ks → ∀ w w' : World, NestedKey.hashes w ks = NestedKey.hashes w' ks
  | _, _, .nil, _, _ => rfl
  | _, _, .cons h r, w, w' => by rw [NestedKey.hashes, NestedKey.hashes, NK.hash h w w', NKL.hash r w w']
end
mutual
theorem NK.kp (e : ∀ a xs, SqN K H a xs → SqN K H' a xs) : ∀ {v : V} {k : NestedKey}, NK K H v k → NK K H' v k
  | _, _, .non => .non
  | _, _, .int i => .int i
  | _, _, .tup h r => .tup (e _ _ h) (NKL.kp e r)
theorem NKL.kp (e : ∀ a xs, SqN K H a xs → SqN K H' a xs) : ∀ {vs : List V} {ks : List NestedKey}, NKL K H vs ks → NKL K H' vs ks
  | _, _, .nil => .nil
  | _, _, .cons h r => .cons (NK.kp e h) (NKL.kp e r)
end
end
section
variable {X : Cx} {pins : List (Addr × Obj)} {σ : St} {H : Hp} {s : Shared}
mutual
theorem NK.is (I : Inv X pins σ H s) : ∀ {v : V} {k : NestedKey} {u : Value}, NK X.K H v k → RelV v u → NestedIs s.heap k u
  | _, _, u, .non, r => by cases (show u = .none from r); exact .none
  | _, _, u, .int i, r => by obtain ⟨t, rfl⟩ := (show ∃ t, u = Value.int i t from r); exact .int i t
  | _, _, u, .tup h q, r => by
    obtain ⟨its, rv, ⟨o, ho, hc, n, hd⟩, _⟩ := I.tuple h.1
    cases (show u = Value.ref _ from r)
    exact .tup ho hc hd (by simpa using NKL.is I q rv)
theorem NKL.is (I : Inv X pins σ H s) : ∀ {vs : List V} {ks : List NestedKey} {us : List Value}, NKL X.K H vs ks → Vals vs us → NestedAll s.heap ks us
  | _, _, _, .nil, .nil => .nil
  | _, _, _, .cons h q, .cons r rr => .cons (NK.is I h r) (NKL.is I q rr)
end
end
abbrev Ent := NestedKey × Addr × Value
/-- the object o is a dict with the entries xs -/
structure TD (K : PySem.W.Frag) (H : Hp) (o : Obj) (xs : List Ent) : Prop where
  cls : o.ExactDict
  dat : ∃ es ep, o.data = .dict es ep ∧ ∀ w : World, es.toList = xs.map fun x => (⟨x.1.hash w, .ref x.2.1, x.2.2⟩ : DictEntry)
  nd : (xs.map (·.1)).Nodup
  len : xs.length ≤ 1000000
  key : ∀ x ∈ xs, NK K H (.ref x.2.1) x.1 ∧ x.1.depth ≤ 8
/-- at a stands such a dict -/
structure DX (K : PySem.W.Frag) (H : Hp) (a : Addr) (o : Obj) (xs : List Ent) : Prop where
  at_ : H a = some (dX a o)
  ns : (a == sysModules) = false
  td : TD K H o xs
theorem TD.kp {K : PySem.W.Frag} {H H' : Hp} {o : Obj} {xs : List Ent} (h : TD K H o xs) (e : ∀ a xs, SqN K H a xs → SqN K H' a xs) : TD K H' o xs := ⟨h.cls, h.dat, h.nd, h.len, fun x hx => ⟨(h.key x hx).1.kp e, (h.key x hx).2⟩⟩
section
variable {X : Cx} {pins : List (Addr × Obj)} {σ : St} {H : Hp} {s : Shared} {a : Addr} {o : Obj} {xs : List Ent} {k : NestedKey} {y v : V} {u r : Value} {A : Around} {E : Value → Shared → Prop}
theorem DX.of (I : Inv X pins σ H s) (h : DX X.K H a o xs) : s.heap.DictOfH (nestedKind X.prog X.w) a xs := by
  obtain ⟨es, ep, hd, he⟩ := h.td.dat
  exact ⟨o, es, ep, dX_at I h.at_, h.td.cls, hd, he X.w, fun x hx => ⟨(h.td.key x hx).1.is I rfl, (h.td.key x hx).2⟩, h.td.nd⟩
theorem TD.back {H' : Hp} {h' : Heap} {P : Program} {w : World} {K : PySem.W.Frag} (hx : h'.DictOfH (nestedKind P w) a xs) (hk : ∀ x ∈ xs, NK K H' (.ref x.2.1) x.1 ∧ x.1.depth ≤ 8) (hl : xs.length ≤ 1000000) : ∃ o', h'.get? a = some o' ∧ TD K H' o' xs := by
  obtain ⟨o', es, ep, ho, hc, hd, he, _, hn⟩ := hx
  refine ⟨o', ho, hc, ⟨es, ep, hd, fun w' => ?_⟩, hn, hl, hk⟩
  rw [he]
  refine List.map_congr_left fun x hx => ?_
  show (⟨x.1.hash w, .ref x.2.1, x.2.2⟩ : DictEntry) = _
  rw [(hk x hx).1.hash w w']
theorem line_ge : 1000000 ≤ sizeLine := by rw [sizeLine_eq]; omega
theorem room_nk (hu : A.units + 65 < cLine) : (nestedKind X.prog X.w).room A.in1 := by
  show A.in1.units + 8 < cLine
  have : A.in1.units = A.units + 1 := rfl
  omega
/-- k in d -/
theorem t_in {b : Addr} {Q : Value → Shared → Prop} (hu : A.units + 65 < cLine) (I : Inv X pins σ H s) (d : DX X.K H a o xs) (hk : NK X.K H (.ref b) k) (hd : k.depth ≤ 8) (h : ∀ s', Inv X pins σ H s' → Q (.bool (atKey xs k).isSome) s') :
    wpAny (model X.prog X.w) A (compareOp .In (.ref b) (.ref a)) Q E s :=
  wpAny_in_heap (knd := nestedKind X.prog X.w) (room_nk (X := X) hu) ⟨hk.is I rfl, hd⟩ d.ns (d.of I) (h _ (I.tok _))
theorem t_notIn {b : Addr} {Q : Value → Shared → Prop} (hu : A.units + 65 < cLine) (I : Inv X pins σ H s) (d : DX X.K H a o xs) (hk : NK X.K H (.ref b) k) (hd : k.depth ≤ 8) (h : ∀ s', Inv X pins σ H s' → Q (.bool (!(atKey xs k).isSome)) s') :
    wpAny (model X.prog X.w) A (compareOp .NotIn (.ref b) (.ref a)) Q E s :=
  wpAny_notIn_heap (knd := nestedKind X.prog X.w) (room_nk (X := X) hu) ⟨hk.is I rfl, hd⟩ d.ns (d.of I) (h _ (I.tok _))
/-- d[k] -/
theorem t_get {b : Addr} {p : Addr × Value} {Q : Value → Shared → Prop} (hu : A.units + 65 < cLine) (I : Inv X pins σ H s) (d : DX X.K H a o xs) (hk : NK X.K H (.ref b) k) (hd : k.depth ≤ 8) (hp : atKey xs k = some p) (h : ∀ s', Inv X pins σ H s' → Q p.2 s') :
    wpAny (model X.prog X.w) A (getItem (.ref a) (.ref b)) Q E s :=
  wpAny_getItem_heap (knd := nestedKind X.prog X.w) (room_nk (X := X) hu) ⟨hk.is I rfl, hd⟩ (d.of I) hp (h _ (I.tok _))
theorem sqT_upd {K : PySem.W.Frag} {o o' : Obj} (e : H a = some (dX a o)) : ∀ b ys, SqN K H b ys → SqN K (upd H a (dX a o')) b ys := by
  intro b ys h
  have ne : ∀ {u}, H b = some u → u ≠ dX a o → b ≠ a := fun {u} hb hu z => by subst z; rw [e] at hb; exact hu (Option.some.inj hb).symm
  refine ⟨?_, ?_⟩
  · rcases h.1 with (h | ⟨q, h⟩) | h
    · exact .inl (.inl (by rw [upd_ne (ne h (fun z => by cases z))]; exact h))
    · exact .inl (.inr ⟨q, by rw [upd_ne (ne h (fun z => by cases z))]; exact h⟩)
    · exact .inr h
  · rcases h.2 with ⟨q, u, h, z⟩ | h
    · exact .inl ⟨q, u, by rw [upd_ne (ne h (fun z => by cases z))]; exact h, z⟩
    · exact .inr h
theorem DX.write {h' : Heap} {t' : Nat} {ys : List Ent} (I : Inv X pins σ H s) (d : DX X.K H a o xs) (hx : h'.DictOfH (nestedKind X.prog X.w) a ys) (hs : Heap.SameBut a s.heap h') (hk : ∀ x ∈ ys, NK X.K H (.ref x.2.1) x.1 ∧ x.1.depth ≤ 8) (hl : ys.length ≤ 1000000) :
    ∃ o', Inv X pins σ (upd H a (dX a o')) { s with heap := h', toks := t' } ∧ DX X.K (upd H a (dX a o')) a o' ys := by
  obtain ⟨o', ho, ht⟩ := TD.back hx hk hl
  refine ⟨o', d_write I (by rw [d.at_]; exact True.intro) hs ⟨o', ho⟩ (dX_ok ho), upd_same, d.ns, ht.kp (sqT_upd d.at_)⟩
/-- d[k] = v -/
theorem t_set {b : Addr} {Q : Unit → Shared → Prop} (hu : A.units + 65 < cLine) (I : Inv X pins σ H s) (d : DX X.K H a o xs) (hk : NK X.K H (.ref b) k) (hd : k.depth ≤ 8) (hl : xs.length < 1000000)
    (h : ∀ s' o', Inv X pins σ (upd H a (dX a o')) s' → DX X.K (upd H a (dX a o')) a o' (storedH xs k b r) → Q () s') : wpAny (model X.prog X.w) A (setItem (.ref a) (.ref b) r) Q E s := by
  refine wpAny_setItem_heap (knd := nestedKind X.prog X.w) (hsz := Nat.le_trans d.td.len line_ge) (room_nk (X := X) hu) ⟨hk.is I rfl, hd⟩ (d.of I) fun h' dd' hs => ?_
  have h1 : ∀ x ∈ storedH xs k b r, NK X.K H (.ref x.2.1) x.1 ∧ x.1.depth ≤ 8 := fun x hx => by
    unfold storedH at hx
    split at hx
    · obtain ⟨y, hy, rfl⟩ := List.mem_map.mp hx
      unfold putAt
      split
      · exact d.td.key y hy
      · exact d.td.key y hy
    · rcases List.mem_append.mp hx with hx | hx
      · exact d.td.key x hx
      · rw [List.mem_singleton.mp hx]; exact ⟨hk, hd⟩
  have h2 : (storedH xs k b r).length ≤ 1000000 := by
    unfold storedH
    split
    · rw [List.length_map]; exact d.td.len
    · rw [List.length_append, List.length_singleton]; omega
  obtain ⟨o', I', d'⟩ := d.write (t' := s.toks + (nestedKind X.prog X.w).draws k) I dd' hs h1 h2
  exact h _ o' I' d'
/-- del d[k] -/
theorem t_del {b : Addr} {p : Addr × Value} {Q : Unit → Shared → Prop} (hu : A.units + 65 < cLine) (I : Inv X pins σ H s) (d : DX X.K H a o xs) (hk : NK X.K H (.ref b) k) (hd : k.depth ≤ 8) (hp : atKey xs k = some p)
    (h : ∀ s' o', Inv X pins σ (upd H a (dX a o')) s' → DX X.K (upd H a (dX a o')) a o' (withoutH xs k) → Q () s') : wpAny (model X.prog X.w) A (delItem (.ref a) (.ref b)) Q E s := by
  refine wpAny_delItem_heap (knd := nestedKind X.prog X.w) (hsz := Nat.le_trans d.td.len line_ge) (room_nk (X := X) hu) ⟨hk.is I rfl, hd⟩ d.ns (d.of I) hp fun h' dd' hs => ?_
  obtain ⟨o', I', d'⟩ := d.write (t' := s.toks + (nestedKind X.prog X.w).draws k) I dd' hs (fun x hx => d.td.key x (List.mem_filter.mp hx).1) (Nat.le_trans (List.length_filter_le _ _) d.td.len)
  exact h _ o' I' d'
/-- {} -/
theorem t_new (hb : sysModules < s.heap.objs.size) : TD X.K H { cls := .type "dict", data := .dict #[] } [] := ⟨⟨rfl, rfl, rfl⟩, ⟨#[], 0, rfl, fun _ => rfl⟩, List.nodup_nil, Nat.zero_le _, fun _ h => nomatch h⟩
end
/-! ### dicts by ints -/
structure ID (o : Obj) (kvs : List (Int × Value)) : Prop where
  cls : o.ExactDict
  dat : ∃ es ep, o.data = .dict es ep ∧ ∀ (P : Program) (w : World), KeysOf (PySem.intKind P w) es ∧ Pairs (PySem.intKind P w) es.toList kvs
  nd : (kvs.map (·.1)).Nodup
  len : kvs.length ≤ 1000000
structure DI (H : Hp) (a : Addr) (o : Obj) (kvs : List (Int × Value)) : Prop where
  at_ : H a = some (dX a o)
  ns : (a == sysModules) = false
  id : ID o kvs
section
variable {X : Cx} {pins : List (Addr × Obj)} {σ : St} {H : Hp} {s : Shared} {a : Addr} {o : Obj} {xs : List (Int × Value)} {k : Int} {y v : V} {u r : Value} {A : Around} {E : Value → Shared → Prop}
theorem DI.of (I : Inv X pins σ H s) (h : DI H a o xs) : s.heap.DictOf (PySem.intKind X.prog X.w) a xs := by
  obtain ⟨es, ep, hd, he⟩ := h.id.dat
  exact ⟨o, es, ep, dX_at I h.at_, h.id.cls, hd, (he _ _).1, (he _ _).2, h.id.nd⟩
theorem pairs_any {P P' : Program} {w w' : World} : ∀ {es : List DictEntry} {kvs : List (Int × Value)}, Pairs (PySem.intKind P w) es kvs → Pairs (PySem.intKind P' w') es kvs
  | _, _, .nil => .nil
  | _, _, .cons h e r => .cons h e (pairs_any r)
theorem ID.back {h' : Heap} {P : Program} {w : World} (hx : h'.DictOf (PySem.intKind P w) a xs) (hl : xs.length ≤ 1000000) : ∃ o', h'.get? a = some o' ∧ ID o' xs := by
  obtain ⟨o', es, ep, ho, hc, hd, h1, h2, hn⟩ := hx
  exact ⟨o', ho, hc, ⟨es, ep, hd, fun P' w' => ⟨h1, pairs_any h2⟩⟩, hn, hl⟩
theorem int_is {P : Program} {w : World} (h : RelV (.int k) u) : (PySem.intKind P w).is k u = true := by
  obtain ⟨t, rfl⟩ := (show ∃ t, u = Value.int k t from h)
  show Value.isInt k (.int k t) = true
  simp [Value.isInt]
theorem DI.write {h' : Heap} {t' : Nat} {ys : List (Int × Value)} (I : Inv X pins σ H s) (d : DI H a o xs) (hx : h'.DictOf (PySem.intKind X.prog X.w) a ys) (hs : Heap.SameBut a s.heap h') (hl : ys.length ≤ 1000000) :
    ∃ o', Inv X pins σ (upd H a (dX a o')) { s with heap := h', toks := t' } ∧ DI (upd H a (dX a o')) a o' ys := by
  obtain ⟨o', ho, ht⟩ := ID.back hx hl
  exact ⟨o', d_write I (by rw [d.at_]; exact True.intro) hs ⟨o', ho⟩ (dX_ok ho), upd_same, d.ns, ht⟩
theorem i_in {Q : Value → Shared → Prop} (I : Inv X pins σ H s) (d : DI H a o xs) (ry : RelV (.int k) u) (h : ∀ s', Inv X pins σ H s' → Q (.bool (valueAt xs k).isSome) s') : wpAny (model X.prog X.w) A (compareOp .In u (.ref a)) Q E s :=
  wpAny_in_of (knd := PySem.intKind X.prog X.w) (int_is ry) d.ns (d.of I).mapOf (h _ (I.tok _))
theorem i_notIn {Q : Value → Shared → Prop} (I : Inv X pins σ H s) (d : DI H a o xs) (ry : RelV (.int k) u) (h : ∀ s', Inv X pins σ H s' → Q (.bool (!(valueAt xs k).isSome)) s') : wpAny (model X.prog X.w) A (compareOp .NotIn u (.ref a)) Q E s :=
  wpAny_notIn_of (knd := PySem.intKind X.prog X.w) (int_is ry) d.ns (d.of I).mapOf (h _ (I.tok _))
theorem i_get {p : Value} {Q : Value → Shared → Prop} (I : Inv X pins σ H s) (d : DI H a o xs) (ry : RelV (.int k) u) (hp : valueAt xs k = some p) (h : ∀ s', Inv X pins σ H s' → Q p s') : wpAny (model X.prog X.w) A (getItem (.ref a) u) Q E s :=
  wpAny_getItem_of (knd := PySem.intKind X.prog X.w) (int_is ry) (d.of I).mapOf hp (h _ (I.tok _))
theorem stored_len {ys : List (Int × Value)} (h : ys.length < 1000000) : (stored ys k r).length ≤ 1000000 := by
  unfold stored
  split
  · rw [List.length_map]; omega
  · rw [List.length_append, List.length_singleton]; omega
theorem i_set {Q : Unit → Shared → Prop} (I : Inv X pins σ H s) (d : DI H a o xs) (ry : RelV (.int k) u) (hl : xs.length < 1000000)
    (h : ∀ s' o', Inv X pins σ (upd H a (dX a o')) s' → DI (upd H a (dX a o')) a o' (stored xs k r) → Q () s') : wpAny (model X.prog X.w) A (setItem (.ref a) u r) Q E s := by
  refine wpAny_setItem_pairs (knd := PySem.intKind X.prog X.w) (hsz := Nat.le_trans d.id.len line_ge) (int_is ry) (d.of I) fun h' dd' hs => ?_
  obtain ⟨o', I', d'⟩ := d.write (t' := s.toks + 1) I dd' hs (stored_len hl)
  exact h _ o' I' d'
theorem i_del {Q : Unit → Shared → Prop} (I : Inv X pins σ H s) (d : DI H a o xs) (ry : RelV (.int k) u) (hp : (valueAt xs k).isSome = true)
    (h : ∀ s' o', Inv X pins σ (upd H a (dX a o')) s' → DI (upd H a (dX a o')) a o' (without xs k) → Q () s') : wpAny (model X.prog X.w) A (delItem (.ref a) u) Q E s := by
  refine wpAny_delItem_slot (d.of I).typeIs (by decide) PySem.F.slot_dict_delitem
    (call_meetsIn PySem.F.slot_dict_delitem (d.of I).typeIs PySem.F.entry_dict_delitem (PySem.F.args_dict_delitem_2 _ _) (meets_dict_delitem_pairs (PySem.intKind X.prog X.w) a (int_is ry)) ⟨xs, d.of I, Nat.le_trans d.id.len line_ge, hp, fun h' dd' hs => ?_⟩)
  obtain ⟨o', I', d'⟩ := d.write (t' := s.toks + 1) I dd' hs (Nat.le_trans (List.length_filter_le _ _) d.id.len)
  exact h _ o' I' d'
end
end L2

/-! Va1: values as trees. What an expression or a statement does to the data that the slots hold. -/
namespace Va
open PySem L2

/-- a tracked thing that may be written -/
def Mb : Option HO → Bool
  | some (.lst _) => true
  | some (.dK _) => true
  | some (.dT _) => true
  | some (.ext _) => true
  | some (.tbl _) => true
  | _ => false
/-- no code object's table -/
class Nt (o : HO) : Prop where
  nt : ∀ ps, o ≠ .tbl ps
instance {xs : List V} : Nt (.lst xs) := ⟨nofun⟩
instance {xs : List V} : Nt (.tup xs) := ⟨nofun⟩
instance {o : Obj} {u : HO} : Nt (.frz o u) := ⟨nofun⟩
instance {φ : Heap → Prop} : Nt (.ext φ) := ⟨nofun⟩
instance {a : Addr} {o : Obj} : Nt (dX a o) := ⟨nofun⟩
theorem Nt.mb {o : HO} (h : Mb (some o) = false) : Nt o := ⟨fun ps z => by subst z; cases h⟩
/-- all that stands, stands; tables are written on -/
structure Grow (H H' : Hp) : Prop where
  st : ∀ a o [Nt o], H a = some o → H' a = some o
  ne : ∀ a, H' a = none → H a = none
  tb : ∀ P q, (P, q) ∈ TABS → LamX.TabS H P q → LamX.TabS H' P q
instance {H H' : Hp} : CoeFun (Grow H H') fun _ => ∀ a o [Nt o], H a = some o → H' a = some o := ⟨fun g => @Grow.st _ _ g⟩
/-- what cannot be written stands, and what stands at F -/
def Kp (F : List Addr) (H H' : Hp) : Prop := ∀ a o, H a = some o → Mb (some o) = false ∨ (a ∈ F ∧ Nt o) → H' a = some o

theorem Grow.of {H H' : Hp} (e : ∀ a o, H a = some o → H' a = some o) : Grow H H' := ⟨fun a o _ h => e a o h, fun a h => (by
  cases q : H a with
  | none => rfl
  | some o => rw [e a o q] at h; cases h), fun P q _ t => LamX.TabS.ext t e⟩
theorem Grow.refl (H : Hp) : Grow H H := .of fun _ _ h => h
theorem Grow.trans {H H1 H2 : Hp} (a : Grow H H1) (b : Grow H1 H2) : Grow H H2 := ⟨fun x o _ h => b.st x o (a.st x o h), fun x h => a.ne x (b.ne x h), fun P q m t => b.tb P q m (a.tb P q m t)⟩
theorem Grow.new {H : Hp} {p : Addr} {o : HO} (h : H p = none) : Grow H (upd H p o) := .of fun a u e => by
  rw [upd_ne (ne_of_none e h)]; exact e
theorem Grow.back {H H' : Hp} {p : Addr} (e : Grow H H') (h : H' p = none) : H p = none := e.ne p h
theorem Grow.kp {H H' : Hp} {F : List Addr} (e : Grow H H') : Kp F H H' := fun a o h q => have : Nt o := q.elim Nt.mb (·.2); e.st a o h
/-- no table, no code object -/
def Wr (H : Hp) (a : Addr) : Prop := (∀ ps, H a ≠ some (.tbl ps)) ∧ ∀ c q, H a ≠ some (LamX.CodeO c q)
theorem Wr.lst {H : Hp} {a : Addr} {xs : List V} (h : H a = some (.lst xs)) : Wr H a := ⟨fun ps z => (by rw [h] at z; cases z), fun c q z => (by
  rw [h] at z
  unfold LamX.CodeO at z
  cases z)⟩
theorem Wr.none {H : Hp} {a : Addr} (h : H a = none) : Wr H a := ⟨fun ps z => (by rw [h] at z; cases z), fun c q z => (by rw [h] at z; cases z)⟩
/-- a heap that holds o at a -/
def hpOf (a : Addr) (o : Obj) : Heap := { objs := Array.replicate (a + 1) o }
theorem hpOf_get {a : Addr} {o : Obj} (h : ∀ c d s, o ≠ ⟨c, d, .freed, s⟩) : (hpOf a o).get? a = some o := by
  unfold hpOf Heap.get?
  have : (Array.replicate (a + 1) o)[a]? = some o := by simp
  simp only [this]
  split
  · rename_i e
    cases e
    exact absurd rfl (h _ _ _)
  · rfl
theorem Wr.dX {H : Hp} {a : Addr} {o : Obj} (h : H a = some (dX a o)) (hd : ∀ vs, o.data = .fields vs → ∀ q t, vs[1]? ≠ some (.str q t)) : Wr H a := ⟨fun ps z => (by
  rw [h] at z
  unfold L2.dX at z
  cases z), fun c q z => by
  rw [h] at z
  unfold L2.dX LamX.CodeO at z
  have e := HO.ext.inj (Option.some.inj z)
  have oc : ∃ oc : Obj, oc = { cls := .none, data := .fields #[.none, .str q 0] } := ⟨_, rfl⟩
  obtain ⟨oc, hoc⟩ := oc
  have hg : (hpOf c oc).get? c = some oc := hpOf_get (by rw [hoc]; intro a b d w; cases w)
  have := congrFun e (hpOf c oc)
  have h2 : (hpOf c oc).get? a = some o := this.mpr ⟨oc, #[.none, .str q 0], 0, hg, by rw [hoc], rfl⟩
  have h3 : o = oc := by
    unfold hpOf Heap.get? at h2
    split at h2
    · cases h2
    · rename_i w
      have h4 : (Array.replicate (c + 1) oc)[a]? = some o := h2
      rw [Array.getElem?_replicate] at h4
      split at h4
      · exact (Option.some.inj h4).symm
      · cases h4
  rw [h3, hoc] at hd
  exact hd _ rfl q 0 rfl⟩
theorem TabS.upd {H : Hp} {P p : Addr} {q : Str} {o : HO} (t : LamX.TabS H P q) (h : Wr H p) : LamX.TabS (L2.upd H p o) P q := by
  obtain ⟨ps, h1, h2, h3⟩ := t
  refine ⟨ps, by rw [upd_ne (fun z => h.1 ps (by rw [← z]; exact h1))]; exact h1, h2, fun pos cv hc => ?_⟩
  obtain ⟨c, e1, e2⟩ := h3 pos cv hc
  exact ⟨c, e1, by rw [upd_ne (fun z => h.2 c q (by rw [← z]; exact e2))]; exact e2⟩
/-- a store at what is new since B -/
theorem Grow.upd {B H : Hp} {p : Addr} {o : HO} (g : Grow B H) (hb : B p = none) (h : Wr H p) : Grow B (L2.upd H p o) :=
  ⟨fun a u _ e => by rw [upd_ne (ne_of_none e hb)]; exact g.st a u e, fun a e => (by
    by_cases ha : a = p
    · rw [ha]; exact hb
    · rw [upd_ne ha] at e; exact g.ne a e), fun P q m t => TabS.upd (g.tb P q m t) h⟩
/-- a list that is kept out of sight -/
theorem Grow.updL {H H' : Hp} {D : Addr} {xs : List V} (g : Grow H H') (h : Wr H' D) : Grow (L2.upd H D (.lst xs)) (L2.upd H' D (.lst xs)) := by
  refine ⟨fun a o _ e => ?_, fun a e => ?_, fun P q m t => ?_⟩
  · by_cases ha : a = D
    · rw [ha, upd_same] at e ⊢
      exact e
    · rw [upd_ne ha] at e ⊢
      exact g.st a o e
  · by_cases ha : a = D
    · rw [ha, upd_same] at e
      cases e
    · rw [upd_ne ha] at e ⊢
      exact g.ne a e
  · obtain ⟨ps, h1, h2, h3⟩ := t
    have hP : P ≠ D := fun z => by
      rw [z, upd_same] at h1
      cases h1
    rw [upd_ne hP] at h1
    refine TabS.upd (g.tb P q m ⟨ps, h1, h2, fun pos cv hc => ?_⟩) h
    obtain ⟨c, e1, e2⟩ := h3 pos cv hc
    have hcD : c ≠ D := fun z => by
      rw [z, upd_same] at e2
      unfold LamX.CodeO at e2
      cases e2
    rw [upd_ne hcD] at e2
    exact ⟨c, e1, e2⟩
/-- since the def began -/
structure Same (B H : Hp) : Prop where
  grow : Grow B H
  tabs : LamX.Tabs TABS B
theorem Same.trans {B H H' : Hp} (s : Same B H) (g : Grow H H') : Same B H' := ⟨s.grow.trans g, s.tabs⟩
theorem Same.back {B H : Hp} {p : Addr} (s : Same B H) (h : H p = none) : B p = none := s.grow.ne p h
theorem Same.upd {B H : Hp} {p : Addr} {o : HO} (s : Same B H) (hb : B p = none) (h : Wr H p) : Same B (L2.upd H p o) := ⟨s.grow.upd hb h, s.tabs⟩
theorem Same.tab {B H : Hp} (s : Same B H) : LamX.Tabs TABS H := fun p hp => s.grow.tb _ _ hp (s.tabs p hp)
theorem Same.refl {H : Hp} (t : LamX.Tabs TABS H) : Same H H := ⟨.refl H, t⟩
theorem Grow.sqT {K : PySem.W.Frag} {H H' : Hp} {a : Addr} {xs : List V} (e : Grow H H') (h : SqT K H a xs) : SqT K H' a xs := by
  rcases h with (h | ⟨o, h⟩) | h
  · exact .inl (.inl (e _ _ h))
  · exact .inl (.inr ⟨o, e _ _ h⟩)
  · exact .inr h
theorem Kp.sqT {K : PySem.W.Frag} {H H' : Hp} {F : List Addr} {a : Addr} {xs : List V} (e : Kp F H H') (h : SqT K H a xs) : SqT K H' a xs := by
  rcases h with (h | ⟨o, h⟩) | h
  · exact .inl (.inl (e _ _ h (.inl rfl)))
  · exact .inl (.inr ⟨o, e _ _ h (.inl rfl)⟩)
  · exact .inr h
theorem Kp.mono {F G : List Addr} {H H' : Hp} (h : Kp G H H') (s : ∀ a ∈ F, a ∈ G) : Kp F H H' := fun a o e q => h a o e (q.imp id fun z => ⟨s a z.1, z.2⟩)
/-- a store at p keeps all else -/
theorem Kp.upd {H : Hp} {p : Addr} {o : HO} {F : List Addr} (hm : Mb (H p) = true) (hp : p ∉ F) : Kp F H (upd H p o) := fun a u e q => by
  have : a ≠ p := by
    rintro rfl
    rcases q with q | q
    · rw [e] at hm; rw [hm] at q; cases q
    · exact hp q.1
  rw [upd_ne this]; exact e

/-- a dict at a: its keys as data, its values -/
def DicAt (K : PySem.W.Frag) (H : Hp) (a : Addr) (ks : List PyData) (us : List Value) : Prop :=
  (∃ o xs, DX K H a o xs ∧ ks = xs.map (fun q => q.1.data) ∧ us = xs.map (·.2.2)) ∨
  (∃ o kvs, DI H a o kvs ∧ ks = kvs.map (fun q => PyData.int q.1) ∧ us = kvs.map (·.2))

theorem Grow.noD {K : PySem.W.Frag} {H H' : Hp} {a : Addr} (e : Grow H H') (h : NoD K H a) : NoD K H' a := h.imp (fun ⟨o, u, q, z⟩ => ⟨o, u, e _ _ q, z⟩) id
theorem Kp.noD {K : PySem.W.Frag} {H H' : Hp} {F : List Addr} {a : Addr} (e : Kp F H H') (h : NoD K H a) : NoD K H' a := h.imp (fun ⟨o, u, q, z⟩ => ⟨o, u, e _ _ q (.inl rfl), z⟩) id
/-- a list that is known to the object, or stands in K -/
def FzL (K : PySem.W.Frag) (H : Hp) (a : Addr) (xs : List V) : Prop := (∃ o, H a = some (.frz o (.lst xs))) ∨
  ∃ (o : Obj) (its : Array Value) (n : Nat), K.lookup a = some o ∧ o.cls = .type "list" ∧ o.dict = none ∧ o.data = .seq its n ∧ its.size ≤ sizeLine ∧ Vals xs its.toList
theorem sqL_of {K : PySem.W.Frag} {H : Hp} {a : Addr} {xs : List V} (h : SqL K H a xs) : H a = some (.lst xs) ∨ FzL K H a xs := by
  rcases h with (h | h) | h
  · exact .inl h
  · exact .inr (.inl h)
  · exact .inr (.inr h)
theorem FzL.sq {K : PySem.W.Frag} {H : Hp} {a : Addr} {xs : List V} (h : FzL K H a xs) : SqL K H a xs := h.imp .inr id
theorem Kp.fzL {K : PySem.W.Frag} {H H' : Hp} {F : List Addr} {a : Addr} {xs : List V} (e : Kp F H H') (h : FzL K H a xs) : FzL K H' a xs := h.imp (fun ⟨o, q⟩ => ⟨o, e _ _ q (.inl rfl)⟩) id
/-- the values' view of the dict at a -/
def viewV (a : Addr) : Obj := { cls := .type "dict_values", data := .fields #[.ref a] }
/-- data of another kind: a pair that a walk made (its object is not known), a def -/
def wrap (d : PyData) : PyData := .dict [(.none, d)]
mutual
/-- v stands for the data d; F: the lists and dicts in it -/
inductive Rp (K : PySem.W.Frag) (H : Hp) : V → PyData → List Addr → Prop
  | non : Rp K H .non .none []
  | bl (b : Bool) : Rp K H (.bl b) (.bool b) []
  | int (i : Int) : Rp K H (.int i) (.int i) []
  | str (x : Str) : Rp K H (.str x) (.str x) []
  | tup {a : Addr} {xs : List V} {ds : List PyData} {F : List Addr} : SqT K H a xs ∧ NoD K H a → RpL K H xs ds F → Rp K H (.ref a) (.tuple ds) F
  | pair {a : Addr} {xs : List V} {ds : List PyData} {F : List Addr} : SqT K H a xs → RpL K H xs ds F → Rp K H (.ref a) (.dict [(.none, .tuple ds)]) F
  | fn (a : Addr) : Rp K H (.ref a) (.dict [(.none, .int (a : Nat))]) []
  | vw {w a : Addr} {ks : List PyData} {us : List Value} {vs : List V} {ds : List PyData} {F : List Addr} : H w = some (dX w (viewV a)) → DicAt K H a ks us → Vals vs us → RpL K H vs ds F → Rp K H (.ref w) (.dict [(.none, .list ds)]) (w :: a :: F)
  | lst {a : Addr} {xs : List V} {ds : List PyData} {F : List Addr} : H a = some (.lst xs) → RpL K H xs ds F → Rp K H (.ref a) (.list ds) (a :: F)
  | dic {a : Addr} {ks : List PyData} {us : List Value} {vs : List V} {ds : List PyData} {F : List Addr} : DicAt K H a ks us → Vals vs us → RpL K H vs ds F → Rp K H (.ref a) (.dict (ks.zip ds)) (a :: F)
  | tag {v : V} {t : List (PyData × PyData)} {F : List Addr} : Tgd K H v t F → Rp K H v (.dict [(.none, .dict t)]) F
/-- data that are told with an address, or locked: a list by its address; a thing beside such a list; a list that is read alone -/
inductive Tgd (K : PySem.W.Frag) (H : Hp) : V → List (PyData × PyData) → List Addr → Prop
  | pl {a : Addr} {xs : List V} {ds : List PyData} {F : List Addr} : H a = some (.lst xs) → RpL K H xs ds F → Tgd K H (.ref a) [(.int (a : Nat), .list ds)] (a :: F)
  | wi {v : V} {d : PyData} {F : List Addr} {a : Addr} {xs : List V} {ds : List PyData} {G : List Addr} : v ≠ .non → Rp K H v d F → H a = some (.lst xs) → RpL K H xs ds G → Tgd K H v [(.int (a : Nat), .tuple [d, .list ds])] (F ++ (a :: G))
  | fz {a : Addr} {xs : List V} {ds : List PyData} {F : List Addr} : ((H a = some (.lst xs) ∧ F = [a]) ∨ (FzL K H a xs ∧ F = [])) → RpL K H xs ds [] → Tgd K H (.ref a) [(.none, .list ds)] F
inductive RpL (K : PySem.W.Frag) (H : Hp) : List V → List PyData → List Addr → Prop
  | nil : RpL K H [] [] []
  | cons {v : V} {vs : List V} {d : PyData} {ds : List PyData} {F G : List Addr} : Rp K H v d F → RpL K H vs ds G → RpL K H (v :: vs) (d :: ds) (F ++ G)
end

theorem DicAt.keep {K : PySem.W.Frag} {H H' : Hp} {a : Addr} {ks : List PyData} {us : List Value} (h : DicAt K H a ks us) (e : ∀ o, H a = some o → Nt o → H' a = some o) (t : ∀ b ys, SqN K H b ys → SqN K H' b ys) : DicAt K H' a ks us := by
  rcases h with ⟨o, xs, h, q⟩ | ⟨o, kvs, h, q⟩
  · exact .inl ⟨o, xs, ⟨e _ h.at_ inferInstance, h.ns, h.td.kp t⟩, q⟩
  · exact .inr ⟨o, kvs, ⟨e _ h.at_ inferInstance, h.ns, h.id⟩, q⟩
theorem DicAt.mb {K : PySem.W.Frag} {H : Hp} {a : Addr} {ks : List PyData} {us : List Value} (h : DicAt K H a ks us) : Mb (H a) = true := by
  rcases h with ⟨o, xs, h, q⟩ | ⟨o, kvs, h, q⟩ <;> rw [h.at_] <;> rfl
theorem DicAt.keys {K : PySem.W.Frag} {H : Hp} {a : Addr} {ks : List PyData} {us : List Value} (h : DicAt K H a ks us) : ∀ k ∈ ks, k ≠ .none := by
  rcases h with ⟨o, xs, h, rfl, _⟩ | ⟨o, kvs, h, rfl, _⟩
  · intro k hk
    obtain ⟨q, hq, rfl⟩ := List.mem_map.mp hk
    have := (h.td.key q hq).1
    generalize q.1 = kk at this
    cases this with
    | tup _ _ => exact fun z => by cases z
  · intro k hk
    obtain ⟨q, _, rfl⟩ := List.mem_map.mp hk
    exact fun z => by cases z
section
variable {K : PySem.W.Frag} {H H' : Hp}
mutual
theorem Rp.kp : ∀ {v : V} {d : PyData} {F : List Addr}, Rp K H v d F → Kp F H H' → Rp K H' v d F
  | _, _, _, .non, _ => .non
  | _, _, _, .bl b, _ => .bl b
  | _, _, _, .int b, _ => .int b
  | _, _, _, .str b, _ => .str b
  | _, _, _, .tup h r, e => .tup ⟨e.sqT h.1, e.noD h.2⟩ (RpL.kp r e)
  | _, _, _, .pair h r, e => .pair (e.sqT h) (RpL.kp r e)
  | _, _, _, .fn a, _ => .fn a
  | _, _, _, .vw hw h u r, e => .vw (e _ _ hw (.inr ⟨List.mem_cons_self .., inferInstance⟩)) (h.keep (fun o q n => e _ o q (.inr ⟨List.mem_cons_of_mem _ (List.mem_cons_self ..), n⟩)) fun _ _ z => ⟨e.sqT z.1, e.noD z.2⟩) u (RpL.kp r (e.mono fun _ q => List.mem_cons_of_mem _ (List.mem_cons_of_mem _ q)))
  | _, _, _, .lst h r, e => .lst (e _ _ h (.inr ⟨List.mem_cons_self .., inferInstance⟩)) (RpL.kp r (e.mono fun _ q => List.mem_cons_of_mem _ q))
  | _, _, _, .dic h u r, e => .dic (h.keep (fun o q n => e _ o q (.inr ⟨List.mem_cons_self .., n⟩)) fun _ _ z => ⟨e.sqT z.1, e.noD z.2⟩) u (RpL.kp r (e.mono fun _ q => List.mem_cons_of_mem _ q))
  | _, _, _, .tag t, e => .tag (Tgd.kp t e)
theorem Tgd.kp : ∀ {v : V} {t : List (PyData × PyData)} {F : List Addr}, Tgd K H v t F → Kp F H H' → Tgd K H' v t F
  | _, _, _, .pl h r, e => .pl (e _ _ h (.inr ⟨List.mem_cons_self .., inferInstance⟩)) (RpL.kp r (e.mono fun _ q => List.mem_cons_of_mem _ q))
  | _, _, _, .wi nn r0 h r, e => .wi nn (Rp.kp r0 (e.mono fun _ q => List.mem_append_left _ q)) (e _ _ h (.inr ⟨List.mem_append_right _ (List.mem_cons_self ..), inferInstance⟩)) (RpL.kp r (e.mono fun _ q => List.mem_append_right _ (List.mem_cons_of_mem _ q)))
  | _, _, _, .fz h r, e => .fz (h.imp (fun q => ⟨e _ _ q.1 (.inr ⟨by rw [q.2]; exact List.mem_singleton.mpr rfl, inferInstance⟩), q.2⟩) fun q => ⟨e.fzL q.1, q.2⟩) (RpL.kp r (e.mono fun _ q => nomatch q))
theorem RpL.kp : ∀ {vs : List V} {ds : List PyData} {F : List Addr}, RpL K H vs ds F → Kp F H H' → RpL K H' vs ds F
  | _, _, _, .nil, _ => .nil
  | _, _, _, .cons h r, e => .cons (Rp.kp h (e.mono fun _ q => List.mem_append_left _ q)) (RpL.kp r (e.mono fun _ q => List.mem_append_right _ q))
end
theorem Rp.grow {v : V} {d : PyData} {F : List Addr} (h : Rp K H v d F) (e : Grow H H') : Rp K H' v d F := h.kp e.kp
theorem RpL.grow {v : List V} {d : List PyData} {F : List Addr} (h : RpL K H v d F) (e : Grow H H') : RpL K H' v d F := h.kp e.kp
mutual
theorem Rp.mb : ∀ {v : V} {d : PyData} {F : List Addr}, Rp K H v d F → ∀ a ∈ F, Mb (H a) = true
  | _, _, _, .non, _, h => nomatch h
  | _, _, _, .bl b, _, h => nomatch h
  | _, _, _, .int b, _, h => nomatch h
  | _, _, _, .str b, _, h => nomatch h
  | _, _, _, .tup _ r, a, h => RpL.mb r a h
  | _, _, _, .pair _ r, a, h => RpL.mb r a h
  | _, _, _, .fn b, _, h => nomatch h
  | _, _, _, .vw hw e _ r, a, h => by
    rcases List.mem_cons.mp h with rfl | h
    · rw [hw]; rfl
    rcases List.mem_cons.mp h with rfl | h
    · exact e.mb
    · exact RpL.mb r a h
  | _, _, _, .lst e r, a, h => by
    rcases List.mem_cons.mp h with rfl | h
    · rw [e]; rfl
    · exact RpL.mb r a h
  | _, _, _, .dic e _ r, a, h => by
    rcases List.mem_cons.mp h with rfl | h
    · exact e.mb
    · exact RpL.mb r a h
  | _, _, _, .tag t, a, h => Tgd.mb t a h
theorem Tgd.mb : ∀ {v : V} {t : List (PyData × PyData)} {F : List Addr}, Tgd K H v t F → ∀ a ∈ F, Mb (H a) = true
  | _, _, _, .pl e r, a, h => by
    rcases List.mem_cons.mp h with rfl | h
    · rw [e]; rfl
    · exact RpL.mb r a h
  | _, _, _, .wi _ r0 e r, a, h => by
    rcases List.mem_append.mp h with h | h
    · exact Rp.mb r0 a h
    rcases List.mem_cons.mp h with rfl | h
    · rw [e]; rfl
    · exact RpL.mb r a h
  | _, _, _, .fz e r, a, h => by
    rcases e with ⟨e, rfl⟩ | ⟨_, rfl⟩
    · rcases List.mem_singleton.mp h with rfl
      rw [e]; rfl
    · exact nomatch h
theorem RpL.mb : ∀ {vs : List V} {ds : List PyData} {F : List Addr}, RpL K H vs ds F → ∀ a ∈ F, Mb (H a) = true
  | _, _, _, .nil, _, h => nomatch h
  | _, _, _, .cons e r, a, h => (List.mem_append.mp h).elim (Rp.mb e a) (RpL.mb r a)
end
theorem DicAt.wr {a : Addr} {ks : List PyData} {us : List Value} (h : DicAt K H a ks us) : Wr H a := by
  rcases h with ⟨o, xs, h, q⟩ | ⟨o, kvs, h, q⟩
  · obtain ⟨es, ep, hd, _⟩ := h.td.dat
    exact .dX h.at_ fun vs e => (by rw [hd] at e; cases e)
  · obtain ⟨es, ep, hd, _⟩ := h.id.dat
    exact .dX h.at_ fun vs e => (by rw [hd] at e; cases e)
mutual
theorem Rp.wr : ∀ {v : V} {d : PyData} {F : List Addr}, Rp K H v d F → ∀ a ∈ F, Wr H a
  | _, _, _, .non, _, h => nomatch h
  | _, _, _, .bl b, _, h => nomatch h
  | _, _, _, .int b, _, h => nomatch h
  | _, _, _, .str b, _, h => nomatch h
  | _, _, _, .tup _ r, a, h => RpL.wr r a h
  | _, _, _, .pair _ r, a, h => RpL.wr r a h
  | _, _, _, .fn b, _, h => nomatch h
  | _, _, _, .vw hw e _ r, a, h => by
    rcases List.mem_cons.mp h with rfl | h
    · refine .dX hw fun vs e q t w => ?_
      unfold viewV at e
      cases e
      simp at w
    rcases List.mem_cons.mp h with rfl | h
    · exact e.wr
    · exact RpL.wr r a h
  | _, _, _, .lst e r, a, h => by
    rcases List.mem_cons.mp h with rfl | h
    · exact .lst e
    · exact RpL.wr r a h
  | _, _, _, .dic e _ r, a, h => by
    rcases List.mem_cons.mp h with rfl | h
    · exact e.wr
    · exact RpL.wr r a h
  | _, _, _, .tag t, a, h => Tgd.wr t a h
theorem Tgd.wr : ∀ {v : V} {t : List (PyData × PyData)} {F : List Addr}, Tgd K H v t F → ∀ a ∈ F, Wr H a
  | _, _, _, .pl e r, a, h => by
    rcases List.mem_cons.mp h with rfl | h
    · exact .lst e
    · exact RpL.wr r a h
  | _, _, _, .wi _ r0 e r, a, h => by
    rcases List.mem_append.mp h with h | h
    · exact Rp.wr r0 a h
    rcases List.mem_cons.mp h with rfl | h
    · exact .lst e
    · exact RpL.wr r a h
  | _, _, _, .fz e r, a, h => by
    rcases e with ⟨e, rfl⟩ | ⟨_, rfl⟩
    · rcases List.mem_singleton.mp h with rfl
      exact .lst e
    · exact nomatch h
theorem RpL.wr : ∀ {vs : List V} {ds : List PyData} {F : List Addr}, RpL K H vs ds F → ∀ a ∈ F, Wr H a
  | _, _, _, .nil, _, h => nomatch h
  | _, _, _, .cons e r, a, h => (List.mem_append.mp h).elim (Rp.wr e a) (RpL.wr r a)
end
theorem Rp.stn {v : V} {d : PyData} {F : List Addr} (h : Rp K H v d F) {a : Addr} (m : a ∈ F) : H a ≠ none := fun e => by
  have := h.mb a m; rw [e] at this; cases this
theorem RpL.stn {v : List V} {d : List PyData} {F : List Addr} (h : RpL K H v d F) {a : Addr} (m : a ∈ F) : H a ≠ none := fun e => by
  have := h.mb a m; rw [e] at this; cases this
theorem RpL.length : ∀ {vs : List V} {ds : List PyData} {F : List Addr}, RpL K H vs ds F → vs.length = ds.length
  | _, _, _, .nil => rfl
  | _, _, _, .cons _ r => congrArg Nat.succ r.length
theorem RpL.app : ∀ {vs us : List V} {ds es : List PyData} {F G : List Addr}, RpL K H vs ds F → RpL K H us es G → RpL K H (vs ++ us) (ds ++ es) (F ++ G)
  | _, _, _, _, _, _, .nil, s => s
  | _, _, _, _, _, _, .cons e r, s => by rw [List.append_assoc]; exact .cons e (RpL.app r s)
theorem RpL.one {v : V} {d : PyData} {F : List Addr} (h : Rp K H v d F) : RpL K H [v] [d] F := by
  have := RpL.cons h .nil; rwa [List.append_nil] at this
/-- the item at a place: a part of the footprint -/
theorem RpL.get : ∀ {vs : List V} {ds : List PyData} {F : List Addr} (i : Nat) {d : PyData}, RpL K H vs ds F → ds[i]? = some d → ∃ v A G B, vs[i]? = some v ∧ Rp K H v d G ∧ F = A ++ (G ++ B)
  | _, _, _, 0, d, .cons (F := F) (G := G) e r, h => by
    cases h
    exact ⟨_, [], F, G, rfl, e, rfl⟩
  | _, _, _, i + 1, d, .cons (F := F) (G := G) e r, h => by
    obtain ⟨v, A, G', B, h1, h2, h3⟩ := RpL.get i r h
    exact ⟨v, F ++ A, G', B, h1, h2, by rw [h3, List.append_assoc]⟩
theorem RpL.getV : ∀ {vs : List V} {ds : List PyData} {F : List Addr} (i : Nat) {v : V}, RpL K H vs ds F → vs[i]? = some v → ∃ d, ds[i]? = some d
  | _, ds, _, i, v, h, e => by
    have l := h.length
    have := (List.getElem?_eq_some_iff.mp e).1
    exact ⟨ds[i], List.getElem?_eq_getElem (by omega)⟩
theorem RpL.parts : ∀ {vs : List V} {ds : List PyData} {F : List Addr} (n : Nat), RpL K H vs ds F → ∃ A B, F = A ++ B ∧ RpL K H (vs.take n) (ds.take n) A ∧ RpL K H (vs.drop n) (ds.drop n) B
  | _, _, F, 0, h => ⟨[], F, rfl, .nil, h⟩
  | _, _, _, _ + 1, .nil => ⟨[], [], rfl, .nil, .nil⟩
  | _, _, _, n + 1, .cons (F := F) (G := G) e r => by
    obtain ⟨A, B, h1, h2, h3⟩ := RpL.parts n r
    exact ⟨F ++ A, B, by rw [h1, List.append_assoc], .cons e h2, h3⟩
end

mutual
/-- no list and no dict in it -/
def flat : PyData → Bool
  | .list _ => false
  | .dict [(.none, .tuple ds)] => flatL ds
  | .dict [(.none, .int _)] => true
  | .dict _ => false
  | .tuple ds => flatL ds
  | _ => true
def flatL : List PyData → Bool
  | [] => true
  | d :: ds => flat d && flatL ds
end
mutual
theorem Rp.flat {K : PySem.W.Frag} {H : Hp} : ∀ {v : V} {d : PyData} {F : List Addr}, Rp K H v d F → Va.flat d = true → F = []
  | _, _, _, .non, _ => rfl
  | _, _, _, .bl b, _ => rfl
  | _, _, _, .int b, _ => rfl
  | _, _, _, .str b, _ => rfl
  | _, _, _, .tup _ r, h => RpL.flat r (by simpa only [Va.flat] using h)
  | _, _, _, .pair _ r, h => RpL.flat r (by simpa only [Va.flat] using h)
  | _, _, _, .fn _, _ => rfl
  | _, _, _, .vw _ _ _ _, h => by simp [Va.flat] at h
  | _, _, _, .tag _, h => by simp [Va.flat] at h
  | _, _, _, .lst e r, h => by simp [Va.flat] at h
  | _, _, _, .dic e _ r, h => by
    exfalso
    have key : ∀ (ks : List PyData) (ds : List PyData), (∀ k ∈ ks, k ≠ .none) → Va.flat (.dict (ks.zip ds)) = false := by
      intro ks ds hk
      match ks, ds with
      | [], _ => simp [Va.flat]
      | _ :: _, [] => simp [Va.flat]
      | k :: ks, d :: ds =>
        have := hk k (List.mem_cons_self ..)
        rw [List.zip_cons_cons]
        cases k with
        | none => exact absurd rfl this
        | _ => simp [Va.flat]
    rw [key _ _ e.keys] at h
    cases h
theorem RpL.flat {K : PySem.W.Frag} {H : Hp} : ∀ {v : List V} {d : List PyData} {F : List Addr}, RpL K H v d F → Va.flatL d = true → F = []
  | _, _, _, .nil, _ => rfl
  | _, _, _, .cons e r, h => by
    simp only [Va.flatL, Bool.and_eq_true] at h
    rw [Rp.flat e h.1, RpL.flat r h.2, List.append_nil]
end

theorem wrap_ne {ks ds : List PyData} {x : PyData} (hk : ∀ k ∈ ks, k ≠ .none) : ks.zip ds ≠ [(.none, x)] := by
  intro h
  match ks, ds with
  | [], _ => simp at h
  | _ :: _, [] => simp at h
  | k :: ks, d :: ds =>
    rw [List.zip_cons_cons] at h
    have := (List.cons.inj h).1
    exact hk k (List.mem_cons_self ..) (Prod.mk.inj this).1
theorem Rp.pair_inv {K : PySem.W.Frag} {H : Hp} {v : V} {ds : List PyData} {F : List Addr} (r : Rp K H v (.dict [(.none, .tuple ds)]) F) : ∃ a xs, v = .ref a ∧ SqT K H a xs ∧ RpL K H xs ds F := by
  generalize hd : PyData.dict [(.none, .tuple ds)] = d at r
  cases r with
  | dic e _ r => exact absurd (PyData.dict.inj hd).symm (wrap_ne e.keys)
  | pair h r =>
    simp only [PyData.dict.injEq, List.cons.injEq, Prod.mk.injEq, PyData.tuple.injEq, true_and, and_true] at hd
    subst hd
    exact ⟨_, _, rfl, h, r⟩
  | fn a => simp at hd
  | vw _ _ _ _ => simp at hd
  | tag _ => simp at hd
  | _ => cases hd
theorem Rp.fn_inv {K : PySem.W.Frag} {H : Hp} {v : V} {i : Int} {F : List Addr} (r : Rp K H v (.dict [(.none, .int i)]) F) : ∃ a : Addr, v = .ref a ∧ i = (a : Nat) ∧ F = [] := by
  generalize hd : PyData.dict [(.none, .int i)] = d at r
  cases r with
  | dic e _ r => exact absurd (PyData.dict.inj hd).symm (wrap_ne e.keys)
  | pair h r => simp at hd
  | vw _ _ _ _ => simp at hd
  | tag _ => simp at hd
  | fn a =>
    simp only [PyData.dict.injEq, List.cons.injEq, Prod.mk.injEq, PyData.int.injEq, true_and, and_true] at hd
    exact ⟨a, rfl, hd, rfl⟩
  | _ => cases hd

theorem Rp.vw_inv {K : PySem.W.Frag} {H : Hp} {v : V} {ds : List PyData} {F : List Addr} (r : Rp K H v (.dict [(.none, .list ds)]) F) : ∃ (w a : Addr) (ks : List PyData) (us : List Value) (vs : List V) (G : List Addr), v = .ref w ∧ H w = some (dX w (viewV a)) ∧ DicAt K H a ks us ∧ Vals vs us ∧ RpL K H vs ds G ∧ F = w :: a :: G := by
  generalize hd : PyData.dict [(.none, .list ds)] = d at r
  cases r with
  | dic e _ r => exact absurd (PyData.dict.inj hd).symm (wrap_ne e.keys)
  | pair h r => simp at hd
  | fn a => simp at hd
  | vw hw e u r =>
    simp only [PyData.dict.injEq, List.cons.injEq, Prod.mk.injEq, PyData.list.injEq, true_and, and_true] at hd
    subst hd
    exact ⟨_, _, _, _, _, _, rfl, hw, e, u, r, rfl⟩
  | tag _ => simp at hd
  | _ => cases hd
theorem Rp.tag_inv {K : PySem.W.Frag} {H : Hp} {v : V} {t : List (PyData × PyData)} {F : List Addr} (r : Rp K H v (.dict [(.none, .dict t)]) F) : Tgd K H v t F := by
  generalize hd : PyData.dict [(.none, .dict t)] = d at r
  cases r with
  | dic e _ r => exact absurd (PyData.dict.inj hd).symm (wrap_ne e.keys)
  | pair h r => simp at hd
  | fn a => simp at hd
  | vw _ _ _ _ => simp at hd
  | tag q =>
    simp only [PyData.dict.injEq, List.cons.injEq, Prod.mk.injEq, true_and, and_true] at hd
    subst hd
    exact q
  | _ => cases hd

theorem Tgd.nn {K : PySem.W.Frag} {H : Hp} {v : V} {t : List (PyData × PyData)} {F : List Addr} (h : Tgd K H v t F) : v ≠ .non := by
  cases h with
  | pl _ _ => exact fun z => by cases z
  | wi nn _ _ _ => exact nn
  | fz _ _ => exact fun z => by cases z

/-! ### what the slots hold -/
/-- a slot: its data, and how far it is the slot's own: 0 shared, 1 the list itself, 2 all lists in it -/
abbrev Sl := Option (PyData × Nat)
abbrev Env := List Sl
/-- what the slot alone may write -/
def Mf (m : Nat) (F : List Addr) : List Addr := if m = 2 then F else if m = 1 then F.take 1 else []
theorem Mf_sub {m : Nat} {F : List Addr} {a : Addr} (h : a ∈ Mf m F) : a ∈ F := by
  unfold Mf at h
  split at h
  · exact h
  · split at h
    · exact List.mem_of_mem_take h
    · cases h
theorem Mf0 (F : List Addr) : Mf 0 F = [] := rfl
/-- what a slot with the mode m has: the wish about its footprint -/
def Own (B : Hp) (v : V) (m : Nat) (F : List Addr) : Prop := (∀ a ∈ Mf m F, B a = none) ∧ (m = 1 → ∃ p G, v = .ref p ∧ F = p :: G ∧ p ∉ G) ∧ (m = 2 → F.Nodup)
theorem Own.zero {B : Hp} {v : V} {F : List Addr} : Own B v 0 F := ⟨fun a h => (by rw [Mf0] at h; cases h), fun z => (by cases z), fun z => (by cases z)⟩
structure SR (K : PySem.W.Frag) (B : Hp) (AF : List Addr) (σ : L2.St) (H : Hp) (ρ : Env) (Fs : Nat → List Addr) : Prop where
  len : σ.length = ρ.length
  same : Same B H
  val : ∀ i d m, ρ[i]? = some (some (d, m)) → ∃ v, σ[i]? = some (some v) ∧ Rp K H v d (Fs i) ∧ (∀ a ∈ Fs i, B a = none ∨ a ∈ AF) ∧ Own B v m (Fs i)
  dis : ∀ i j d m d' m', ρ[i]? = some (some (d, m)) → ρ[j]? = some (some (d', m')) → i ≠ j → ∀ a ∈ Mf m (Fs i), a ∉ Fs j

section
variable {K : PySem.W.Frag} {B : Hp} {AF : List Addr} {σ σ' : L2.St} {H H' : Hp} {ρ ρ' : Env} {Fs Fs' : Nat → List Addr}
theorem SR.grow (h : SR K B AF σ H ρ Fs) (e : Grow H H') : SR K B AF σ H' ρ Fs :=
  ⟨h.len, h.same.trans e, fun i d m q => by
    obtain ⟨v, h1, h2, h3⟩ := h.val i d m q
    exact ⟨v, h1, h2.grow e, h3⟩, h.dis⟩
theorem SR.there (h : SR K B AF σ H ρ Fs) {i : Nat} {d : PyData} {m : Nat} (q : ρ[i]? = some (some (d, m))) {a : Addr} (ha : a ∈ Fs i) : H a ≠ none := by
  obtain ⟨v, h1, h2, h3⟩ := h.val i d m q
  exact h2.stn ha
/-- fewer slots are told, or less of them -/
theorem SR.less (h : SR K B AF σ H ρ Fs) (hl : ρ'.length = ρ.length) (e : ∀ (i : Nat) (d : PyData) (m : Nat), ρ'[i]? = some (some (d, m)) → ∃ m0, ρ[i]? = some (some (d, m0)) ∧ (m = m0 ∨ m = 0)) : SR K B AF σ H ρ' Fs := by
  refine ⟨h.len.trans hl.symm, h.same, fun i d m q => ?_, fun i j d m d' m' q1 q2 ne a ha => ?_⟩
  · obtain ⟨m0, q0, z⟩ := e i d m q
    obtain ⟨v, h1, h2, h3, h4⟩ := h.val i d m0 q0
    rcases z with rfl | rfl
    · exact ⟨v, h1, h2, h3, h4⟩
    · exact ⟨v, h1, h2, h3, .zero⟩
  · obtain ⟨m0, q0, z⟩ := e i d m q1
    obtain ⟨m0', q0', _⟩ := e j d' m' q2
    rcases z with rfl | rfl
    · exact h.dis i j d m d' m0' q0 q0' ne a ha
    · rw [Mf0] at ha; cases ha
end
end Va

/-! Va2: expressions over trees. -/
namespace Va
open PySem L2

/-- whose lists a value holds: mv: new ones, and all of the slots L that own theirs; sp: the top one is new, the others are new or of the slots L; bo: new or of the slots L -/
inductive Kd where
  | mv (L : List Nat) | sp (L : List Nat) | bo (L : List Nat)
def Kd.src : Kd → List Nat
  | .mv L => L
  | .sp L => L
  | .bo L => L
@[simp] def apart (L M : List Nat) : Bool := L.all fun i => !M.contains i
def aj : Kd → Kd → Kd
  | .mv L, .mv M => if apart L M then .mv (L ++ M) else .bo (L ++ M)
  | k, l => .bo (k.src ++ l.src)
def Src (ρ : Env) (Fs : Nat → List Addr) (L : List Nat) (a : Addr) : Prop := ∃ i ∈ L, (∃ d m, ρ[i]? = some (some (d, m))) ∧ a ∈ Fs i
def Src2 (ρ : Env) (Fs : Nat → List Addr) (L : List Nat) (a : Addr) : Prop := ∃ i ∈ L, (∃ d, ρ[i]? = some (some (d, 2))) ∧ a ∈ Fs i
def KO (ρ : Env) (Fs : Nat → List Addr) (H : Hp) (F : List Addr) : Kd → Prop
  | .mv L => F.Nodup ∧ ∀ a ∈ F, H a = none ∨ Src2 ρ Fs L a
  | .sp L => ∀ a ∈ F, H a = none ∨ Src ρ Fs L a
  | .bo L => ∀ a ∈ F, H a = none ∨ Src ρ Fs L a
/-- of a value's footprint -/
def KV (ρ : Env) (Fs : Nat → List Addr) (H : Hp) (v : V) (F : List Addr) (k : Kd) : Prop :=
  KO ρ Fs H F k ∧ ∀ L, k = .sp L → ∃ p G, v = .ref p ∧ F = p :: G ∧ p ∉ G ∧ H p = none

section
variable {ρ : Env} {Fs : Nat → List Addr} {H H' : Hp} {F G : List Addr} {k l : Kd} {L M : List Nat} {a : Addr} {v : V}
theorem Src2.src (h : Src2 ρ Fs L a) : Src ρ Fs L a := by
  obtain ⟨i, hi, ⟨d, e⟩, m⟩ := h
  exact ⟨i, hi, ⟨d, 2, e⟩, m⟩
theorem Src.mono (h : Src ρ Fs L a) (s : ∀ i ∈ L, i ∈ M) : Src ρ Fs M a := by
  obtain ⟨i, hi, e, m⟩ := h
  exact ⟨i, s i hi, e, m⟩
theorem Src2.mono (h : Src2 ρ Fs L a) (s : ∀ i ∈ L, i ∈ M) : Src2 ρ Fs M a := by
  obtain ⟨i, hi, e, m⟩ := h
  exact ⟨i, s i hi, e, m⟩
theorem KO.any (h : KO ρ Fs H F k) : ∀ a ∈ F, H a = none ∨ Src ρ Fs k.src a := by
  cases k with
  | mv L => exact fun a ha => (h.2 a ha).imp id Src2.src
  | sp L => exact h
  | bo L => exact h
theorem KO.bo (h : KO ρ Fs H F k) (s : ∀ i ∈ k.src, i ∈ M) : KO ρ Fs H F (.bo M) := fun a ha => (h.any a ha).imp id fun q => q.mono s
theorem KO.nil : KO ρ Fs H [] (.mv []) := ⟨List.nodup_nil, fun a h => nomatch h⟩
theorem KO.nilK : KO ρ Fs H [] k := by
  cases k with
  | mv L => exact ⟨List.nodup_nil, fun a h => nomatch h⟩
  | sp L => exact fun a h => nomatch h
  | bo L => exact fun a h => nomatch h
theorem KO.back (h : KO ρ Fs H' F k) (e : Grow H H') : KO ρ Fs H F k := by
  cases k with
  | mv L => exact ⟨h.1, fun a ha => (h.2 a ha).imp e.back id⟩
  | sp L => exact fun a ha => (h a ha).imp e.back id
  | bo L => exact fun a ha => (h a ha).imp e.back id
theorem KO.sub (h : KO ρ Fs H F k) (s : List.Sublist G F) : KO ρ Fs H G k := by
  cases k with
  | mv L => exact ⟨h.1.sublist s, fun a ha => h.2 a (s.subset ha)⟩
  | sp L => exact fun a ha => h a (s.subset ha)
  | bo L => exact fun a ha => h a (s.subset ha)
theorem KV.of (h : KO ρ Fs H F k) (n : ∀ L, k ≠ .sp L) : KV ρ Fs H v F k := ⟨h, fun L e => absurd e (n L)⟩
theorem KV.nil : KV ρ Fs H v [] (.mv []) := .of .nil fun _ e => by cases e
theorem KV.mv (h : KO ρ Fs H F (.mv L)) : KV ρ Fs H v F (.mv L) := .of h fun _ e => by cases e
theorem KV.bo (h : KO ρ Fs H F (.bo L)) : KV ρ Fs H v F (.bo L) := .of h fun _ e => by cases e
/-- two footprints, one made behind the other -/
theorem KO.join0 {K : PySem.W.Frag} {B : Hp} {AF : List Addr} {σ : L2.St} (S : SR K B AF σ H ρ Fs) (e : ∀ b, H' b = none → H b = none) (h1 : KO ρ Fs H F k) (hF : ∀ a ∈ F, H' a ≠ none) (h2 : KO ρ Fs H' G l) : KO ρ Fs H (F ++ G) (aj k l) := by
  have bo : ∀ M, (∀ i ∈ k.src, i ∈ M) → (∀ i ∈ l.src, i ∈ M) → KO ρ Fs H (F ++ G) (.bo M) := fun M s1 s2 a ha => by
    rcases List.mem_append.mp ha with ha | ha
    · exact (h1.any a ha).imp id fun q => q.mono s1
    · exact (h2.any a ha).imp (e a) fun q => q.mono s2
  have all : KO ρ Fs H (F ++ G) (.bo (k.src ++ l.src)) := bo _ (fun i hi => List.mem_append_left _ hi) (fun i hi => List.mem_append_right _ hi)
  cases k with
  | sp L => exact all
  | bo L => exact all
  | mv L =>
    cases l with
    | sp M => exact all
    | bo M => exact all
    | mv M =>
      show KO ρ Fs H (F ++ G) (if apart L M then .mv (L ++ M) else .bo (L ++ M))
      by_cases hd : apart L M = true
      · rw [if_pos hd]
        refine ⟨List.nodup_append.mpr ⟨h1.1, h2.1, fun a ha b hb z => ?_⟩, fun a ha => ?_⟩
        · subst z
          rcases h2.2 a hb with q | ⟨j, hj, ⟨d', ej⟩, mj⟩
          · exact hF a ha q
          · rcases h1.2 a ha with q | ⟨i, hi, ⟨d, ei⟩, mi⟩
            · exact S.there ej mj q
            · have ne : i ≠ j := by
                rintro rfl
                have := List.all_eq_true.mp hd i hi
                rw [List.contains_iff_mem.mpr hj] at this
                cases this
              exact S.dis i j d 2 d' 2 ei ej ne a mi mj
        · rcases List.mem_append.mp ha with ha | ha
          · exact (h1.2 a ha).imp id fun q => q.mono fun i hi => List.mem_append_left _ hi
          · exact (h2.2 a ha).imp (e a) fun q => q.mono fun i hi => List.mem_append_right _ hi
      · rw [if_neg hd]
        exact all
theorem KO.join {K : PySem.W.Frag} {B : Hp} {AF : List Addr} {σ : L2.St} (S : SR K B AF σ H ρ Fs) (e : Grow H H') (h1 : KO ρ Fs H F k) (hF : ∀ a ∈ F, H' a ≠ none) (h2 : KO ρ Fs H' G l) : KO ρ Fs H (F ++ G) (aj k l) := KO.join0 S e.ne h1 hF h2
end

abbrev EF := Env → Option (PyData × Kd)
abbrev AFn := Env → Option (List PyData × Kd)
abbrev Gn := List PyData → Kd → Option (PyData × Kd)

/-- an expression's reading gives the data that f tells -/
def VE (K : PySem.W.Frag) (te : TE) (f : EF) : Prop := ∀ (B : Hp) (AF : List Addr) (σ : L2.St) (H : Hp) (ρ : Env) (Fs : Nat → List Addr) (d : PyData) (k : Kd), SR K B AF σ H ρ Fs → f ρ = some (d, k) →
  ∀ Q : VK, (∀ v H' F, Grow H H' → Rp K H' v d F → KV ρ Fs H v F k → Q v H') → te σ H Q
def VA (K : PySem.W.Frag) (ta : TA) (f : AFn) : Prop := ∀ (B : Hp) (AF : List Addr) (σ : L2.St) (H : Hp) (ρ : Env) (Fs : Nat → List Addr) (ds : List PyData) (k : Kd), SR K B AF σ H ρ Fs → f ρ = some (ds, k) →
  ∀ Q : List V → Hp → Prop, (∀ vs H' F, Grow H H' → RpL K H' vs ds F → KO ρ Fs H F k → Q vs H') → ta σ H Q
def VT (K : PySem.W.Frag) (tt : TT) (f : Env → Option Bool) : Prop := ∀ (B : Hp) (AF : List Addr) (σ : L2.St) (H : Hp) (ρ : Env) (Fs : Nat → List Addr) (b : Bool), SR K B AF σ H ρ Fs → f ρ = some b →
  ∀ Q : Bool → Hp → Prop, (∀ H', Grow H H' → Q b H') → tt σ H Q
/-- an operation on values gives what g tells of the data -/
def VF (K : PySem.W.Frag) (r : List V → Hp → VK → Prop) (g : Gn) : Prop := ∀ (ρ : Env) (Fs : Nat → List Addr) (H0 H : Hp) (vs : List V) (ds : List PyData) (F : List Addr) (k : Kd) (d : PyData) (k' : Kd), Grow H0 H → RpL K H vs ds F → KO ρ Fs H0 F k → g ds k = some (d, k') →
  ∀ Q : VK, (∀ v H' G, Grow H H' → Rp K H' v d G → KV ρ Fs H0 v G k' → Q v H') → r vs H Q

def eVar (i : Nat) : EF := fun ρ => match ρ[i]? with
  | some (some (d, m)) => some (d, if flat d then .mv [] else if m = 2 then .mv [i] else .bo [i])
  | _ => none
def eC (d : PyData) : EF := fun _ => some (d, .mv [])
def aNil : AFn := fun _ => some ([], .mv [])
def aCons (f : EF) (g : AFn) : AFn := fun ρ => (f ρ).bind fun p => (g ρ).bind fun q => some (p.1 :: q.1, aj p.2 q.2)
def eApp (g : Gn) (f : AFn) : EF := fun ρ => (f ρ).bind fun p => g p.1 p.2

section
variable {K : PySem.W.Frag} {ta tb te : TE} {t : TA} {tt tu : TT} {f g : EF} {fa : AFn}
theorem ve_var (i : Nat) : VE K (tVar i) (eVar i) := by
  intro B AF σ H ρ Fs d k S h Q q
  unfold eVar at h
  split at h
  · rename_i d' m e
    injection h with h
    injection h with h1 h2
    subst h1
    obtain ⟨v, h3, h4, h5, h6⟩ := S.val i d' m e
    refine ⟨v, h3, q v H (Fs i) (.refl H) h4 ?_⟩
    split at h2
    · rename_i hf
      subst h2
      rw [h4.flat hf]
      exact .nil
    · split at h2
      · rename_i hm
        subst hm h2
        refine .mv ⟨h6.2.2 rfl, fun a ha => .inr ⟨i, List.mem_singleton.mpr rfl, ⟨d', e⟩, ha⟩⟩
      · subst h2
        exact .bo fun a ha => .inr ⟨i, List.mem_singleton.mpr rfl, ⟨d', m, e⟩, ha⟩
  · cases h
/-- constants -/
def rpC : V → PyData → Prop
  | .non, .none => True
  | .bl b, .bool c => b = c
  | .int i, .int j => i = j
  | .str x, .str y => x = y
  | _, _ => False
theorem rp_c {H : Hp} {v : V} {d : PyData} (h : rpC v d) : Rp K H v d [] := by
  cases v <;> cases d <;> first | exact h.elim | (cases h; constructor)
theorem ve_c {v : V} {d : PyData} (h : rpC v d) : VE K (tC v) (eC d) := by
  intro B AF σ H ρ Fs d' k S e Q q
  cases e
  exact q v H [] (.refl H) (rp_c h) .nil
theorem va_nil : VA K tNil aNil := by
  intro B AF σ H ρ Fs ds k S e Q q
  cases e
  exact q [] H [] (.refl H) .nil .nil
theorem va_cons (h1 : VE K te f) (h2 : VA K t fa) : VA K (tCons te t) (aCons f fa) := by
  intro B AF σ H ρ Fs ds k S e Q q
  obtain ⟨⟨d, k1⟩, e1, e⟩ := Option.bind_eq_some_iff.mp e
  obtain ⟨⟨ds2, k2⟩, e2, e⟩ := Option.bind_eq_some_iff.mp e
  cases e
  refine h1 B AF σ H ρ Fs d k1 S e1 _ fun v H1 F g1 r1 o1 => ?_
  refine h2 B AF σ H1 ρ Fs ds2 k2 (S.grow g1) e2 _ fun vs H2 G g2 r2 o2 => ?_
  exact q _ H2 _ (g1.trans g2) (.cons (r1.grow g2) r2) (KO.join S g1 o1.1 (fun a ha => r1.stn ha) o2)
theorem ve_appR {r : List V → Hp → VK → Prop} {gn : Gn} (h1 : VA K t fa) (h2 : VF K r gn) : VE K (fun σ H Q => t σ H fun vs H1 => r vs H1 Q) (eApp gn fa) := by
  intro B AF σ H ρ Fs d k S e Q q
  obtain ⟨⟨ds, k1⟩, e1, e⟩ := Option.bind_eq_some_iff.mp e
  refine h1 B AF σ H ρ Fs ds k1 S e1 _ fun vs H1 F g1 r1 o1 => ?_
  exact h2 ρ Fs H H1 vs ds F k1 d k g1 r1 o1 e Q fun v H2 G g2 r2 o2 => q v H2 G (g1.trans g2) r2 o2
theorem ve_call_b {r : List V → Hp → VK → Prop} {gn : Gn} (h2 : VF K r gn) (h1 : VA K t fa) : VE K (tCB r t) (eApp gn fa) := ve_appR h1 h2
/-- a two-place operation -/
def r2l (r : R2) : List V → Hp → VK → Prop := fun vs H Q => match vs with
  | [x, y] => r x y H Q
  | _ => False
def r1l (r : V → Hp → VK → Prop) : List V → Hp → VK → Prop := fun vs H Q => match vs with
  | [x] => r x H Q
  | _ => False
theorem ve_op {r : R2} {gn : Gn} (h2 : VF K (r2l r) gn) (ha : VE K ta f) (hb : VE K tb g) : VE K (tOp r ta tb) (eApp gn (aCons f (aCons g aNil))) :=
  ve_appR (t := tCons ta (tCons tb tNil)) (va_cons ha (va_cons hb va_nil)) h2
theorem ve_un {r : V → Hp → VK → Prop} {gn : Gn} (h2 : VF K (r1l r) gn) (ha : VE K ta f) : VE K (tUn r ta) (eApp gn (aCons f aNil)) :=
  ve_appR (t := tCons ta tNil) (va_cons ha va_nil) h2
end

/-! ### tests -/
def bOf : PyData → Option Bool
  | .bool b => some b
  | _ => none
def tVal (f : EF) : Env → Option Bool := fun ρ => (f ρ).bind fun p => bOf p.1
def tAndF (a b : Env → Option Bool) : Env → Option Bool := fun ρ => (a ρ).bind fun x => if x = true then b ρ else some false
def tOrF (a b : Env → Option Bool) : Env → Option Bool := fun ρ => (a ρ).bind fun x => if x = true then some true else b ρ
def tNotF (a : Env → Option Bool) : Env → Option Bool := fun ρ => (a ρ).map fun x => !x
def truD : PyData → Option Bool
  | .none => some false
  | .bool b => some b
  | .int i => some (i != 0)
  | .str x => if x.length ≤ 1000000 then some ((x.length : Int) != 0) else none
  | .list xs => some (!xs.isEmpty)
  | .tuple xs => some (!xs.isEmpty)
  | .dict _ => Option.none
def tTru (f : EF) : Env → Option Bool := fun ρ => (f ρ).bind fun p => truD p.1
section
variable {K : PySem.W.Frag} {ta tb te : TE} {t : TA} {tt tu : TT} {f g : EF} {fa : AFn} {ft fu : Env → Option Bool}
theorem bOf_eq {d : PyData} {b : Bool} (h : bOf d = some b) : d = .bool b := by
  cases d <;> simp [bOf] at h
  rw [h]
theorem rp_bool {H : Hp} {v : V} {b : Bool} {F : List Addr} (h : Rp K H v (.bool b) F) : v = .bl b := by cases h; rfl
theorem vt_test (h : VE K te f) : VT K (tTest te) (tVal f) := by
  intro B AF σ H ρ Fs b S e Q q
  obtain ⟨⟨d, k⟩, e1, e2⟩ := Option.bind_eq_some_iff.mp e
  cases bOf_eq e2
  exact h B AF σ H ρ Fs _ k S e1 _ fun v H1 F g1 r1 o1 => ⟨b, rp_bool r1, q H1 g1⟩
theorem vt_B (h : VE K te f) : VT K (tB te) (tVal f) := by
  intro B AF σ H ρ Fs b S e Q q
  obtain ⟨⟨d, k⟩, e1, e2⟩ := Option.bind_eq_some_iff.mp e
  cases bOf_eq e2
  exact h B AF σ H ρ Fs _ k S e1 _ fun v H1 F g1 r1 o1 => ⟨b, rp_bool r1, q H1 g1⟩
theorem vt_and (h1 : VT K tt ft) (h2 : VT K tu fu) : VT K (tAnd tt tu) (tAndF ft fu) := by
  intro B AF σ H ρ Fs b S e Q q
  obtain ⟨x, e1, e2⟩ := Option.bind_eq_some_iff.mp e
  refine h1 B AF σ H ρ Fs x S e1 _ fun H1 g1 => ?_
  cases x with
  | true => exact h2 B AF σ H1 ρ Fs b (S.grow g1) e2 Q fun H2 g2 => q H2 (g1.trans g2)
  | false => cases e2; exact q H1 g1
theorem vt_or (h1 : VT K tt ft) (h2 : VT K tu fu) : VT K (tOr tt tu) (tOrF ft fu) := by
  intro B AF σ H ρ Fs b S e Q q
  obtain ⟨x, e1, e2⟩ := Option.bind_eq_some_iff.mp e
  refine h1 B AF σ H ρ Fs x S e1 _ fun H1 g1 => ?_
  cases x with
  | true => cases e2; exact q H1 g1
  | false => exact h2 B AF σ H1 ρ Fs b (S.grow g1) e2 Q fun H2 g2 => q H2 (g1.trans g2)
theorem vt_not (h1 : VT K tt ft) : VT K (tNot tt) (tNotF ft) := by
  intro B AF σ H ρ Fs b S e Q q
  obtain ⟨x, e1, e2⟩ := Option.map_eq_some_iff.mp e
  subst e2
  exact h1 B AF σ H ρ Fs x S e1 _ fun H1 g1 => q H1 g1
theorem vt_yes : VT K tYes (fun _ => some true) := by
  intro B AF σ H ρ Fs b S e Q q
  cases e
  exact q H (.refl H)
theorem le_line {n : Nat} (h : n ≤ 1000000) : n ≤ sizeLine := Nat.le_trans h (by rw [sizeLine_eq]; decide)
theorem lt_line {n : Nat} (h : n < 1000000) : n < sizeLine := Nat.lt_of_lt_of_le h (by rw [sizeLine_eq]; decide)
theorem isEmpty_len {α β : Type} : ∀ {xs : List α} {ys : List β}, xs.length = ys.length → xs.isEmpty = ys.isEmpty
  | [], [], _ => rfl
  | _ :: _, _ :: _, _ => rfl
theorem vt_tru (h : VE K te f) : VT K (fun σ H Q => te σ H fun x H' => ∃ k, TruV K x H' k ∧ Q k H') (tTru f) := by
  intro B AF σ H ρ Fs b S e Q q
  obtain ⟨⟨d, k⟩, e1, e2⟩ := Option.bind_eq_some_iff.mp e
  refine h B AF σ H ρ Fs _ k S e1 _ fun v H1 F g1 r1 o1 => ⟨b, ?_, q H1 g1⟩
  cases r1 with
  | non => exact (Option.some.inj e2).symm
  | bl c => exact (Option.some.inj e2).symm
  | int i => exact (Option.some.inj e2).symm
  | str x =>
    simp only [truD] at e2
    split at e2
    · rename_i hx
      exact ⟨le_line hx, (Option.some.inj e2).symm⟩
    · cases e2
  | tup ht r =>
    have e3 := Option.some.inj e2
    refine .inr (.inl ⟨_, ht.1, ?_⟩)
    rw [← e3, isEmpty_len r.length]
  | lst ht r =>
    have e3 := Option.some.inj e2
    refine .inl ⟨_, .of ht, ?_⟩
    rw [← e3, isEmpty_len r.length]
  | dic ht r => cases e2
  | pair ht r => cases e2
  | fn a => cases e2
  | vw _ _ _ _ => cases e2
  | tag _ => cases e2
theorem ve_if (ht : VT K tt ft) (ha : VE K ta f) (hb : VE K tb g) : VE K (tIf tt ta tb) (fun ρ => (ft ρ).bind fun x => if x = true then f ρ else g ρ) := by
  intro B AF σ H ρ Fs d k S e Q q
  obtain ⟨x, e1, e2⟩ := Option.bind_eq_some_iff.mp e
  refine ht B AF σ H ρ Fs x S e1 _ fun H1 g1 => ?_
  cases x with
  | true => exact ha B AF σ H1 ρ Fs d k (S.grow g1) e2 Q fun v H2 F g2 r2 o2 => q v H2 F (g1.trans g2) r2 ⟨o2.1.back g1, fun L z => let ⟨p, G, a1, a2, a3, a4⟩ := o2.2 L z; ⟨p, G, a1, a2, a3, g1.back a4⟩⟩
  | false => exact hb B AF σ H1 ρ Fs d k (S.grow g1) e2 Q fun v H2 F g2 r2 o2 => q v H2 F (g1.trans g2) r2 ⟨o2.1.back g1, fun L z => let ⟨p, G, a1, a2, a3, a4⟩ := o2.2 L z; ⟨p, G, a1, a2, a3, g1.back a4⟩⟩
end
end Va

/-! Va3: operations. -/
namespace Va
open PySem L2

/-! ### kinds of results -/
def lstK (ds : List PyData) (k : Kd) : Kd := if flatL ds then .mv [] else match k with
  | .mv L => .mv L
  | .sp L => .sp L
  | .bo L => .sp L
def tupK (ds : List PyData) (k : Kd) : Kd := if flatL ds then .mv [] else match k with
  | .mv L => .mv L
  | .sp L => .bo L
  | .bo L => .bo L
def datK (d : PyData) (k : Kd) : Kd := if flat d then .mv [] else match k with
  | .mv L => .mv L
  | .sp L => .bo L
  | .bo L => .bo L
section
variable {K : PySem.W.Frag} {ρ : Env} {Fs : Nat → List Addr} {H0 H H' : Hp} {F G : List Addr} {k : Kd} {ds : List PyData} {d : PyData} {vs : List V} {v : V} {p : Addr}
theorem kv_dat (r : Rp K H v d F) (o : KO ρ Fs H0 F k) : KV ρ Fs H0 v F (datK d k) := by
  unfold datK
  split
  · rename_i h
    rw [r.flat h]; exact .nil
  · cases k with
    | mv L => exact .mv o
    | sp L => exact .bo o
    | bo L => exact .bo o
theorem kv_tup (r : RpL K H vs ds F) (o : KO ρ Fs H0 F k) : KV ρ Fs H0 v F (tupK ds k) := by
  unfold tupK
  split
  · rename_i h
    rw [r.flat h]; exact .nil
  · cases k with
    | mv L => exact .mv o
    | sp L => exact .bo o
    | bo L => exact .bo o
theorem kv_lst (r : RpL K H vs ds F) (o : KO ρ Fs H0 F k) (g : Grow H0 H) (hp : H p = none) : KV ρ Fs H0 (.ref p) (p :: F) (lstK ds k) := by
  have h0 : H0 p = none := g.back hp
  have hn : p ∉ F := fun m => r.stn m hp
  unfold lstK
  split
  · rename_i h
    rw [r.flat h]
    exact .mv ⟨by simp, fun a ha => by rcases List.mem_singleton.mp ha with rfl; exact .inl h0⟩
  · have sp : ∀ L, KO ρ Fs H0 F (.bo L) → KV ρ Fs H0 (.ref p) (p :: F) (.sp L) := fun L o => by
      refine ⟨fun a ha => ?_, fun _ _ => ⟨p, F, rfl, rfl, hn, h0⟩⟩
      rcases List.mem_cons.mp ha with rfl | ha
      · exact .inl h0
      · exact o a ha
    cases k with
    | mv L =>
      refine .mv ⟨List.nodup_cons.mpr ⟨hn, o.1⟩, fun a ha => ?_⟩
      rcases List.mem_cons.mp ha with rfl | ha
      · exact .inl h0
      · exact o.2 a ha
    | sp L => exact sp L o
    | bo L => exact sp L o
theorem rp_lst (r : RpL K H vs ds F) (hp : H p = none) : Rp K (upd H p (.lst vs)) (.ref p) (.list ds) (p :: F) := .lst upd_same (r.grow (.new hp))
theorem rp_pair (r : RpL K H vs ds F) (hp : H p = none) : Rp K (upd H p (.tup vs)) (.ref p) (wrap (.tuple ds)) F := .pair (.of upd_same) (r.grow (.new hp))
theorem rp_tupN {o : Obj} (r : RpL K H vs ds F) (hp : H p = none) (ho : o.dict = none) : Rp K (upd H p (.frz o (.tup vs))) (.ref p) (.tuple ds) F := .tup ⟨.inl (.inr ⟨o, upd_same⟩), .inl ⟨o, _, upd_same, ho⟩⟩ (r.grow (.new hp))
theorem RpL.one' {d : PyData} (r : RpL K H vs [d] F) : ∃ v, vs = [v] ∧ Rp K H v d F := by
  cases r with
  | cons h t =>
    cases t
    exact ⟨_, rfl, by rw [List.append_nil]; exact h⟩
theorem RpL.two {d e : PyData} (r : RpL K H vs [d, e] F) : ∃ v u A B, vs = [v, u] ∧ Rp K H v d A ∧ Rp K H u e B ∧ F = A ++ B := by
  cases r with
  | cons h t =>
    obtain ⟨u, rfl, h2⟩ := t.one'
    exact ⟨_, _, _, _, rfl, h, h2, rfl⟩
theorem RpL.three {d e f : PyData} (r : RpL K H vs [d, e, f] F) : ∃ v u w A B C, vs = [v, u, w] ∧ Rp K H v d A ∧ Rp K H u e B ∧ Rp K H w f C ∧ F = A ++ (B ++ C) := by
  cases r with
  | cons h t =>
    obtain ⟨u, w, A, B, rfl, h2, h3, rfl⟩ := t.two
    exact ⟨_, _, _, _, _, _, rfl, h, h2, h3, rfl⟩
end

/-! ### displays -/
def gnTup : Gn := fun ds k => if ds.length ≤ 1000000 then some (.tuple ds, tupK ds k) else none
def gnLst : Gn := fun ds k => if ds.length ≤ 1000000 then some (.list ds, lstK ds k) else none
section
variable {K : PySem.W.Frag} {ta tb te : TE} {t : TA} {tt tu : TT} {f g : EF} {fa : AFn}
theorem vf_tup : VF K (fun xs H1 Q => xs.length ≤ sizeLine ∧ ∀ (p : Addr) (o : Obj), o.dict = none → H1 p = none → Q (.ref p) (upd H1 p (.frz o (.tup xs)))) gnTup := by
  intro ρ Fs H0 H vs ds F k d k' g r o e Q q
  unfold gnTup at e
  split at e
  · rename_i hl
    cases e
    exact ⟨le_line (by rw [r.length]; exact hl), fun p ob ho hp => q _ _ F (.new hp) (rp_tupN r hp ho) (kv_tup r o)⟩
  · cases e
theorem vf_lst : VF K (fun xs H1 Q => xs.length ≤ sizeLine ∧ ∀ p, H1 p = none → Q (.ref p) (upd H1 p (.lst xs))) gnLst := by
  intro ρ Fs H0 H vs ds F k d k' g r o e Q q
  unfold gnLst at e
  split at e
  · rename_i hl
    cases e
    exact ⟨le_line (by rw [r.length]; exact hl), fun p hp => q _ _ _ (.new hp) (rp_lst r hp) (kv_lst r o g hp)⟩
  · cases e
theorem ve_tup (h : VA K t fa) : VE K (tTupN t) (eApp gnTup fa) := ve_appR h vf_tup
theorem ve_lst (h : VA K t fa) : VE K (tLst t) (eApp gnLst fa) := ve_appR h vf_lst
end

/-! ### operations that give flat data -/
def VFf (K : PySem.W.Frag) (r : List V → Hp → VK → Prop) (h : List PyData → Option PyData) : Prop := ∀ (H : Hp) (vs : List V) (ds : List PyData) (F : List Addr) (d : PyData), RpL K H vs ds F → h ds = some d →
  ∀ Q : VK, (∀ v H', Grow H H' → Rp K H' v d [] → Q v H') → r vs H Q
def gF (h : List PyData → Option PyData) : Gn := fun ds _ => (h ds).map fun d => (d, .mv [])
theorem vf_f {K : PySem.W.Frag} {r : List V → Hp → VK → Prop} {h : List PyData → Option PyData} (hr : VFf K r h) : VF K r (gF h) := by
  intro ρ Fs H0 H vs ds F k d k' g r o e Q q
  obtain ⟨d', e1, e2⟩ := Option.map_eq_some_iff.mp e
  cases e2
  exact hr H vs ds F d r e1 Q fun v H' g' r' => q v H' [] g' r' .nil

/-- two ints -/
def hII (c : Int → Int → Bool) (h : Int → Int → PyData) : List PyData → Option PyData
  | [.int i, .int j] => if c i j = true then some (h i j) else none
  | _ => none
@[simp] def yesI : Int → Int → Bool := fun _ _ => true
theorem vf_II {K : PySem.W.Frag} {C : Int → Int → Prop} {g : Int → Int → V} {c : Int → Int → Bool} {h : Int → Int → PyData} (hc : ∀ i j, c i j = true → C i j) (hg : ∀ i j, rpC (g i j) (h i j)) : VFf K (r2l (rI C g)) (hII c h) := by
  intro H vs ds F d r e Q q
  unfold hII at e
  split at e
  · rename_i i j
    split at e
    · rename_i hi
      cases e
      obtain ⟨v, u, A, B, rfl, r1, r2, rfl⟩ := r.two
      cases r1; cases r2
      exact ⟨i, j, rfl, rfl, hc i j hi, q _ H (.refl H) (rp_c (hg i j))⟩
    · cases e
  · cases e
theorem vf_II0 {K : PySem.W.Frag} {g : Int → Int → V} {h : Int → Int → PyData} (hg : ∀ i j, rpC (g i j) (h i j)) : VFf K (r2l (rI0 g)) (hII yesI h) := by
  intro H vs ds F d r e Q q
  unfold hII at e
  split at e
  · rename_i i j
    split at e
    · cases e
      obtain ⟨v, u, A, B, rfl, r1, r2, rfl⟩ := r.two
      cases r1; cases r2
      exact ⟨i, j, rfl, rfl, q _ H (.refl H) (rp_c (hg i j))⟩
    · cases e
  · cases e
def hSub := hII yesI fun i j => .int (i - j)
def cDivW (i j : Int) : Bool := decide (0 < j) && decide (j.natAbs.log2 < 9000)
def hDiv := hII cDivW fun i j => .int (i / j)
def hMod := hII (fun _ j => decide (0 < j)) fun i j => .int (i % j)
def hPow := hII (fun i j => decide (0 ≤ j) && decide (j ≤ 1000000) && decide (i.natAbs < 2 ^ 64)) fun i j => .int (i ^ j.toNat)
theorem vf_sub {K : PySem.W.Frag} : VFf K (r2l (rI0 fun i j => .int (i - j))) hSub := vf_II0 fun _ _ => rfl
theorem vf_div {K : PySem.W.Frag} : VFf K (r2l (rI CDivW fun i j => .int (i / j))) hDiv := vf_II (fun i j h => by simp only [cDivW, Bool.and_eq_true, decide_eq_true_eq] at h; exact h) fun _ _ => rfl
theorem vf_mod {K : PySem.W.Frag} : VFf K (r2l (rI (fun _ j => 0 < j) fun i j => .int (i % j))) hMod := vf_II (fun i j h => by simpa using h) fun _ _ => rfl
theorem vf_pow {K : PySem.W.Frag} : VFf K (r2l (rI CPow fun i j => .int (i ^ j.toNat))) hPow := vf_II (fun i j h => by simp only [Bool.and_eq_true, decide_eq_true_eq] at h; exact ⟨h.1.1, h.1.2, h.2⟩) fun _ _ => rfl
def hLt := hII yesI fun i j => .bool (decide (i < j))
def hLe := hII yesI fun i j => .bool (decide (i ≤ j))
def hGt := hII yesI fun i j => .bool (decide (j < i))
def hGe := hII yesI fun i j => .bool (decide (j ≤ i))
theorem vf_lt {K : PySem.W.Frag} : VFf K (r2l (rI0 fun i j => .bl (decide (i < j)))) hLt := vf_II0 fun _ _ => rfl
theorem vf_le {K : PySem.W.Frag} : VFf K (r2l (rI0 fun i j => .bl (decide (i ≤ j)))) hLe := vf_II0 fun _ _ => rfl
theorem vf_gt {K : PySem.W.Frag} : VFf K (r2l (rI0 fun i j => .bl (decide (j < i)))) hGt := vf_II0 fun _ _ => rfl
theorem vf_ge {K : PySem.W.Frag} : VFf K (r2l (rI0 fun i j => .bl (decide (j ≤ i)))) hGe := vf_II0 fun _ _ => rfl
def hNeg : List PyData → Option PyData
  | [.int i] => some (.int (-i))
  | _ => none
theorem vf_neg {K : PySem.W.Frag} : VFf K (r1l (rU fun i => .int (-i))) hNeg := by
  intro H vs ds F d r e Q q
  unfold hNeg at e
  split at e
  · cases e
    obtain ⟨v, rfl, r1⟩ := r.one'
    cases r1
    exact ⟨_, rfl, q _ H (.refl H) (.int _)⟩
  · cases e

/-! ### * -/
def mulOk (i j : Int) : Bool := (decide (-(2 ^ 64) < i) && decide (i < 2 ^ 64)) || (decide (-(2 ^ 64) < j) && decide (j < 2 ^ 64))
def rMulA : R2 := fun x y H Q => rI CMul (fun i j => .int (i * j)) x y H Q ∨ rRep x y H Q
def gMul : Gn := fun ds k => match ds with
  | [.int i, .int j] => if mulOk i j = true then some (.int (i * j), .mv []) else none
  | [.list xs, .int j] => if 0 ≤ j ∧ j ≤ 1000 ∧ xs.length * j.toNat ≤ 1000000 ∧ flatL xs = true then some (.list (List.replicate j.toNat xs).flatten, .mv []) else none
  | _ => none
section
variable {K : PySem.W.Frag} {H : Hp}
theorem rep_flat {ys : List V} {ds : List PyData} (r : RpL K H ys ds []) : ∀ n : Nat, RpL K H (List.replicate n ys).flatten (List.replicate n ds).flatten []
  | 0 => .nil
  | n + 1 => by
    rw [List.replicate_succ, List.replicate_succ, List.flatten_cons, List.flatten_cons]
    exact RpL.app r (rep_flat r n)
theorem vf_mul : VF K (r2l rMulA) gMul := by
  intro ρ Fs H0 H vs ds F k d k' g r o e Q q
  unfold gMul at e
  split at e
  · rename_i i j
    split at e
    · rename_i hm
      cases e
      obtain ⟨v, u, A, B, rfl, r1, r2, rfl⟩ := r.two
      cases r1; cases r2
      refine .inl ⟨i, j, rfl, rfl, ?_, q _ H [] (.refl H) (.int _) .nil⟩
      simp only [mulOk, Bool.or_eq_true, Bool.and_eq_true, decide_eq_true_eq] at hm
      exact hm
    · cases e
  · rename_i xs j
    split at e
    · rename_i hm
      obtain ⟨h0, h1, h2, h3⟩ := hm
      cases e
      obtain ⟨v, u, A, B, rfl, r1, r2, rfl⟩ := r.two
      cases r2
      cases r1 with
      | lst ha rl =>
        rename_i a ys G
        obtain rfl := rl.flat h3
        refine .inr ⟨_, j, _, rfl, rfl, ha, by omega, by omega, le_line (by rw [rl.length]; exact h2), fun p hp => ?_⟩
        refine q _ _ _ (.new hp) (rp_lst (rep_flat rl _) hp) ?_
        have h := kv_lst (ρ := ρ) (Fs := Fs) (k := .mv []) (rep_flat rl j.toNat) .nil g hp
        unfold lstK at h
        split at h <;> exact h
    · cases e
  · cases e

/-! ### + -/
def rAddA (K : PySem.W.Frag) : R2 := fun x y H Q => rI0 (fun i j => .int (i + j)) x y H Q ∨ (∃ i j, x = .str i ∧ y = .str j ∧ i.length + j.length ≤ sizeLine ∧ Q (.str (i ++ j)) H) ∨ rCat x y H Q ∨ rCatN K x y H Q
def gAdd : Gn := fun ds k => match ds with
  | [.int i, .int j] => some (.int (i + j), .mv [])
  | [.str x, .str y] => if x.length + y.length ≤ 1000000 then some (.str (x ++ y), .mv []) else none
  | [.list xs, .list ys] => if xs.length + ys.length ≤ 1000000 then some (.list (xs ++ ys), lstK (xs ++ ys) k) else none
  | [.tuple xs, .tuple ys] => if xs.length + ys.length ≤ 1000000 then some (.tuple (xs ++ ys), tupK (xs ++ ys) k) else none
  | _ => none
theorem sub2 {a b : Addr} {A B : List Addr} : List.Sublist (A ++ B) ((a :: A) ++ (b :: B)) := List.Sublist.append (List.sublist_cons_self ..) (List.sublist_cons_self ..)
theorem vf_add : VF K (r2l (rAddA K)) gAdd := by
  intro ρ Fs H0 H vs ds F k d k' g r o e Q q
  unfold gAdd at e
  split at e
  · rename_i i j
    cases e
    obtain ⟨v, u, A, B, rfl, r1, r2, rfl⟩ := r.two
    cases r1; cases r2
    exact .inl ⟨i, j, rfl, rfl, q _ H [] (.refl H) (.int _) .nil⟩
  · rename_i x y
    split at e
    · rename_i hz
      cases e
      obtain ⟨v, u, A, B, rfl, r1, r2, rfl⟩ := r.two
      cases r1; cases r2
      exact .inr (.inl ⟨x, y, rfl, rfl, le_line hz, q _ H [] (.refl H) (.str _) .nil⟩)
    · cases e
  · rename_i xs ys
    split at e
    · rename_i hz
      cases e
      obtain ⟨v, u, A, B, rfl, r1, r2, rfl⟩ := r.two
      cases r1 with
      | lst ha ra =>
        cases r2 with
        | lst hb rb =>
          have rr := RpL.app ra rb
          refine .inr (.inr (.inl ⟨_, _, _, _, rfl, rfl, ha, hb, le_line (by rw [ra.length, rb.length]; exact hz), fun p hp => ?_⟩))
          exact q _ _ _ (.new hp) (rp_lst rr hp) (kv_lst rr (o.sub sub2) g hp)
    · cases e
  · rename_i xs ys
    split at e
    · rename_i hz
      cases e
      obtain ⟨v, u, A, B, rfl, r1, r2, rfl⟩ := r.two
      cases r1 with
      | tup ha ra =>
        cases r2 with
        | tup hb rb =>
          have rr := RpL.app ra rb
          refine .inr (.inr (.inr ⟨_, _, _, _, rfl, rfl, ha.1, hb.1, le_line (by rw [ra.length, rb.length]; exact hz), fun ex => ?_, fun ex ey => ?_, fun ex ey p ob ho hp => ?_⟩))
          · subst ex
            cases ra
            exact q _ _ _ (.refl H) (.tup hb rb) (kv_tup rb o)
          · subst ey
            cases rb
            have o' : KO ρ Fs H0 A k := o.sub (List.sublist_append_left _ _)
            rw [List.append_nil] at q
            exact q _ _ _ (.refl H) (.tup ha ra) (kv_tup ra o')
          · exact q _ _ _ (.new hp) (rp_tupN rr hp ho) (kv_tup rr o)
    · cases e
  · cases e
end

/-! ### == -/
section
variable {K : PySem.W.Frag} {H : Hp}
mutual
theorem Rp.dp : ∀ {v : V} {d : PyData} {F : List Addr}, Rp K H v d F → PyData.canLay0 d = true → Dp K H v d
  | _, _, _, .non, _ => .non
  | _, _, _, .bl b, _ => .bl b
  | _, _, _, .int b, _ => .int b
  | _, _, _, .str b, _ => .str b
  | _, _, _, .tup h r, e => .tup h.1 (RpL.dp r (by simpa only [PyData.canLay0] using e))
  | _, _, _, .pair h r, e => by simp [PyData.canLay0] at e
  | _, _, _, .fn a, e => by simp [PyData.canLay0] at e
  | _, _, _, .vw _ _ _ _, e => by simp [PyData.canLay0] at e
  | _, _, _, .tag _, e => by simp [PyData.canLay0] at e
  | _, _, _, .lst h r, e => .lst (.of h) (RpL.dp r (by simpa only [PyData.canLay0] using e))
  | _, _, _, .dic h _ r, e => by simp [PyData.canLay0] at e
theorem RpL.dp : ∀ {v : List V} {d : List PyData} {F : List Addr}, RpL K H v d F → PyData.canLayAll0 d = true → DpAll K H v d
  | _, _, _, .nil, _ => .nil
  | _, _, _, .cons h r, e => by
    simp only [PyData.canLayAll0, Bool.and_eq_true] at e
    exact .cons (Rp.dp h e.1) (RpL.dp r e.2)
end
def hEq : List PyData → Option PyData
  | [.str x, .str y] => some (.bool (x == y))
  | [d, e] => if SeqAt.shaped d = true ∧ SeqAt.shaped e = true then some (.bool (PyData.eqv d e)) else none
  | _ => none
def hNe : List PyData → Option PyData
  | [.str x, .str y] => some (.bool (!(x == y)))
  | [d, e] => if SeqAt.shaped d = true ∧ SeqAt.shaped e = true then some (.bool (!PyData.eqv d e)) else none
  | _ => none
theorem vf_eq : VFf K (r2l fun x y H Q => rEqD K x y H Q ∨ rEq x y H Q) hEq := by
  intro H vs ds F d r e Q q
  unfold hEq at e
  split at e
  · cases e
    obtain ⟨v, u, A, B, rfl, r1, r2, rfl⟩ := r.two
    cases r1; cases r2
    exact .inr ⟨rfl, by rw [dec_str]; exact q _ H (.refl H) (.bl _)⟩
  · split at e
    · rename_i hs
      cases e
      obtain ⟨v, u, A, B, rfl, r1, r2, rfl⟩ := r.two
      exact .inl ⟨_, _, r1.dp (SeqAt.canLay_of_shaped hs.1), r2.dp (SeqAt.canLay_of_shaped hs.2), hs.1, hs.2, q _ H (.refl H) (.bl _)⟩
    · cases e
  · cases e
theorem vf_ne : VFf K (r2l fun x y H Q => rNeD K x y H Q ∨ rNe x y H Q) hNe := by
  intro H vs ds F d r e Q q
  unfold hNe at e
  split at e
  · cases e
    obtain ⟨v, u, A, B, rfl, r1, r2, rfl⟩ := r.two
    cases r1; cases r2
    exact .inr ⟨rfl, by rw [dec_str]; exact q _ H (.refl H) (.bl _)⟩
  · split at e
    · rename_i hs
      cases e
      obtain ⟨v, u, A, B, rfl, r1, r2, rfl⟩ := r.two
      exact .inl ⟨_, _, r1.dp (SeqAt.canLay_of_shaped hs.1), r2.dp (SeqAt.canLay_of_shaped hs.2), hs.1, hs.2, q _ H (.refl H) (.bl _)⟩
    · cases e
  · cases e
/-! ### is None -/
def isN : PyData → Bool
  | .none => true
  | _ => false
def hIsN : List PyData → Option PyData
  | [d, .none] => some (.bool (isN d))
  | _ => none
def hNotN : List PyData → Option PyData
  | [d, .none] => some (.bool (!isN d))
  | _ => none
theorem isN_eq {v : V} {d : PyData} {F : List Addr} (r : Rp K H v d F) : decide (v = .non) = isN d := by
  cases r with
  | tag t => exact decide_eq_false t.nn
  | _ => rfl
theorem vf_isN : VFf K (r2l fun x y H Q => y = .non ∧ Q (.bl (decide (x = .non))) H) hIsN := by
  intro H vs ds F d r e Q q
  unfold hIsN at e
  split at e
  · cases e
    obtain ⟨v, u, A, B, rfl, r1, r2, rfl⟩ := r.two
    cases r2
    exact ⟨rfl, by rw [isN_eq r1]; exact q _ H (.refl H) (.bl _)⟩
  · cases e
theorem vf_notN : VFf K (r2l fun x y H Q => y = .non ∧ Q (.bl (!decide (x = .non))) H) hNotN := by
  intro H vs ds F d r e Q q
  unfold hNotN at e
  split at e
  · cases e
    obtain ⟨v, u, A, B, rfl, r1, r2, rfl⟩ := r.two
    cases r2
    exact ⟨rfl, by rw [isN_eq r1]; exact q _ H (.refl H) (.bl _)⟩
  · cases e
/-! ### subscripts -/
def dAt (d : PyData) (i : Int) : Option PyData := match d with
  | .list xs => atI xs i
  | .tuple xs => atI xs i
  | .str x => if x.length ≤ 1000000 then (atI x.cps.toList i).map fun c => .str ⟨#[c]⟩ else none
  | _ => none
def gIx : Gn := fun ds k => match ds with
  | [d, .int i] => (dAt d i).map fun e => (e, datK e k)
  | _ => none
theorem atI_at {α : Type} {xs : List α} {i : Int} {x : α} (h : atI xs i = some x) : ∃ j, ixN xs.length i = some j ∧ xs[j]? = some x := by
  unfold atI at h
  obtain ⟨j, h1, h2⟩ := Option.bind_eq_some_iff.mp h
  exact ⟨j, h1, h2⟩
theorem atI_rp {vs : List V} {ds : List PyData} {F : List Addr} {i : Int} {d : PyData} (r : RpL K H vs ds F) (h : atI ds i = some d) : ∃ v A G B, atI vs i = some v ∧ Rp K H v d G ∧ F = A ++ (G ++ B) := by
  obtain ⟨j, h1, h2⟩ := atI_at h
  obtain ⟨v, A, G, B, h3, h4, h5⟩ := r.get j h2
  exact ⟨v, A, G, B, by unfold atI; rw [r.length, h1]; exact h3, h4, h5⟩
theorem sub3 {A G B : List Addr} : List.Sublist G (A ++ (G ++ B)) := (List.sublist_append_left G B).trans (List.sublist_append_right A (G ++ B))
theorem vf_ix : VF K (r2l (rIx K)) gIx := by
  intro ρ Fs H0 H vs ds F k d k' g r o e Q q
  unfold gIx at e
  split at e
  · rename_i dd i
    obtain ⟨d', e1, e2⟩ := Option.map_eq_some_iff.mp e
    cases e2
    obtain ⟨v, u, A, B, rfl, r1, r2, rfl⟩ := r.two
    cases r2
    rw [List.append_nil] at o
    cases r1 with
    | lst ha ra =>
      obtain ⟨v, A', G, B', h1, h2, h3⟩ := atI_rp ra e1
      refine .inl ⟨_, _, i, v, rfl, rfl, .of ha, h1, q v H G (.refl H) h2 (kv_dat h2 (o.sub ?_))⟩
      rw [h3]
      exact sub3.trans (List.sublist_cons_self ..)
    | tup ha ra =>
      obtain ⟨v, A', G, B', h1, h2, h3⟩ := atI_rp ra e1
      refine .inr (.inl ⟨_, _, i, v, rfl, rfl, ha.1, h1, q v H G (.refl H) h2 (kv_dat h2 (o.sub ?_))⟩)
      rw [h3]
      exact sub3
    | str x =>
      unfold dAt at e1
      simp only at e1
      split at e1
      · rename_i hz
        obtain ⟨c, h1, h2⟩ := Option.map_eq_some_iff.mp e1
        subst h2
        exact .inr (.inr ⟨x, i, c, rfl, rfl, le_line hz, h1, q _ H [] (.refl H) (.str _) (kv_dat (K := K) (H := H) (.str _) KO.nilK)⟩)
      · cases e1
    | non => cases e1
    | bl b => cases e1
    | int b => cases e1
    | dic ha ra => cases e1
    | pair ha ra => cases e1
    | fn a => cases e1
    | vw _ _ _ _ => cases e1
    | tag _ => cases e1
  · cases e
end
end Va

/-! Va4: targets, what is walked, comprehensions. -/
namespace Va
open PySem L2

/-! ### slots changed -/
def upF (Fs : Nat → List Addr) (i : Nat) (F : List Addr) : Nat → List Addr := fun j => if j = i then F else Fs j
theorem upF_same {Fs : Nat → List Addr} {i : Nat} {F : List Addr} : upF Fs i F i = F := if_pos rfl
theorem upF_ne {Fs : Nat → List Addr} {i j : Nat} {F : List Addr} (h : j ≠ i) : upF Fs i F j = Fs j := if_neg h
/-- what the slots alone may write -/
def Free (ρ : Env) (Fs : Nat → List Addr) (G : List Addr) : Prop := ∀ i d m, ρ[i]? = some (some (d, m)) → ∀ a ∈ Mf m (Fs i), a ∉ G
section
variable {K : PySem.W.Frag} {B : Hp} {AF : List Addr} {σ : L2.St} {H H' : Hp} {ρ : Env} {Fs : Nat → List Addr}
theorem set_some {α : Type} {l : List (Option α)} {i j : Nat} {x : Option α} {y : α} (h : (l.set i x)[j]? = some (some y)) : (j = i ∧ x = some y) ∨ (j ≠ i ∧ l[j]? = some (some y)) := by
  by_cases e : j = i
  · subst e
    rw [List.getElem?_set] at h
    rw [if_pos rfl] at h
    split at h
    · exact .inl ⟨rfl, Option.some.inj h⟩
    · cases h
  · rw [List.getElem?_set_ne (Ne.symm e)] at h
    exact .inr ⟨e, h⟩
/-- a slot takes a value that no slot may write -/
theorem SR.set (S : SR K B AF σ H ρ Fs) {i : Nat} {v : V} {d : PyData} {m : Nat} {F : List Addr} (hi : i < ρ.length) (r : Rp K H v d F) (h1 : ∀ a ∈ F, B a = none ∨ a ∈ AF) (o : Own B v m F)
    (hf : ∀ j e n, j ≠ i → ρ[j]? = some (some (e, n)) → (∀ a ∈ Mf n (Fs j), a ∉ F) ∧ ∀ a ∈ Mf m F, a ∉ Fs j) :
    SR K B AF (σ.set i (some v)) H (ρ.set i (some (d, m))) (upF Fs i F) := by
  refine ⟨by rw [List.length_set, List.length_set]; exact S.len, S.same, fun j e n q => ?_, fun j j' e n e' n' q q' ne a ha => ?_⟩
  · rcases set_some q with ⟨rfl, z⟩ | ⟨ne, z⟩
    · cases z
      rw [upF_same]
      refine ⟨v, ?_, r, h1, o⟩
      rw [List.getElem?_set_self]
      rw [S.len]
      exact hi
    · obtain ⟨u, h1, h2⟩ := S.val j e n z
      refine ⟨u, ?_, ?_⟩
      · rw [List.getElem?_set_ne (Ne.symm ne)]
        exact h1
      · rw [upF_ne ne]
        exact h2
  · rcases set_some q with ⟨rfl, z⟩ | ⟨ne1, z⟩
    · cases z
      rcases set_some q' with ⟨rfl, z'⟩ | ⟨ne2, z'⟩
      · exact absurd rfl ne
      · rw [upF_same] at ha
        rw [upF_ne ne2]
        exact (hf j' e' n' ne2 z').2 a ha
    · rw [upF_ne ne1] at ha
      rcases set_some q' with ⟨rfl, z'⟩ | ⟨ne2, z'⟩
      · rw [upF_same]
        exact (hf j e n ne1 z).1 a ha
      · rw [upF_ne ne2]
        exact S.dis j j' e n e' n' z z' ne a ha
def m02 (d : PyData) : Nat := if flat d then 2 else 0
theorem own02 {v : V} {d : PyData} {F : List Addr} (r : Rp K H v d F) : Own B v (m02 d) F ∧ Mf (m02 d) F = [] := by
  unfold m02
  split
  · rename_i h
    rw [r.flat h]
    exact ⟨⟨fun a h => (by cases h), fun z => (by cases z), fun _ => List.nodup_nil⟩, rfl⟩
  · exact ⟨.zero, rfl⟩
/-- .. shared (or flat) -/
theorem SR.set0 (S : SR K B AF σ H ρ Fs) {i : Nat} {v : V} {d : PyData} {F : List Addr} (hi : i < ρ.length) (r : Rp K H v d F) (h1 : ∀ a ∈ F, B a = none ∨ a ∈ AF) (hf : Free ρ Fs F) :
    SR K B AF (σ.set i (some v)) H (ρ.set i (some (d, m02 d))) (upF Fs i F) :=
  S.set hi r h1 (own02 r).1 fun j e n ne q => ⟨hf j e n q, fun a ha => by rw [(own02 (B := B) r).2] at ha; cases ha⟩
theorem Free.mono {F G : List Addr} (h : Free ρ Fs G) (s : ∀ a ∈ F, a ∈ G) : Free ρ Fs F := fun i d m q a ha z => h i d m q a ha (s a z)
theorem Free.set {v : V} {d : PyData} {F G : List Addr} {i : Nat} (h : Free ρ Fs G) (r : Rp K H v d F) : Free (ρ.set i (some (d, m02 d))) (upF Fs i F) G := fun j e n q a ha => by
  rcases set_some q with ⟨rfl, z⟩ | ⟨ne, z⟩
  · cases z
    rw [upF_same, (own02 (B := fun _ => none) r).2] at ha
    cases ha
  · rw [upF_ne ne] at ha
    exact h j e n z a ha
end

/-! ### targets -/
/-- what a target leaves: only the slots ns changed; theirs are parts of G -/
structure Tg (ns : List Nat) (G : List Addr) (σ : L2.St) (ρ : Env) (Fs : Nat → List Addr) (σ' : L2.St) (ρ' : Env) (Fs' : Nat → List Addr) : Prop where
  out : ∀ i : Nat, i ∉ ns → σ'[i]? = σ[i]? ∧ ρ'[i]? = ρ[i]? ∧ Fs' i = Fs i
  ins : ∀ (i : Nat), i ∈ ns → ∀ (d : PyData) (m : Nat), ρ'[i]? = some (some (d, m)) → Mf m (Fs' i) = [] ∧ ∀ a ∈ Fs' i, a ∈ G
  wip : ∀ vs : List Nat, (∀ i ∈ ns, i ∈ vs) → wipe σ' vs = wipe σ vs
  len : ρ'.length = ρ.length
abbrev SG := PyData → Env → Option Env
abbrev SGs := List PyData → Env → Option Env
def VG (K : PySem.W.Frag) (ns : List Nat) (g : TG) (st : SG) : Prop := ∀ (B : Hp) (AF : List Addr) (σ : L2.St) (H : Hp) (ρ ρ' : Env) (Fs : Nat → List Addr) (v : V) (d : PyData) (G : List Addr), SR K B AF σ H ρ Fs → Rp K H v d G →
  (∀ a ∈ G, B a = none ∨ a ∈ AF) → Free ρ Fs G → st d ρ = some ρ' → ∀ Q : L2.St → Hp → Prop, (∀ σ' Fs', SR K B AF σ' H ρ' Fs' → Tg ns G σ ρ Fs σ' ρ' Fs' → Q σ' H) → g v σ H Q
def VGs (K : PySem.W.Frag) (ns : List Nat) (g : TGs) (st : SGs) : Prop := ∀ (B : Hp) (AF : List Addr) (σ : L2.St) (H : Hp) (ρ ρ' : Env) (Fs : Nat → List Addr) (vs : List V) (ds : List PyData) (G : List Addr), SR K B AF σ H ρ Fs → RpL K H vs ds G →
  (∀ a ∈ G, B a = none ∨ a ∈ AF) → Free ρ Fs G → st ds ρ = some ρ' → ∀ Q : L2.St → Hp → Prop, (∀ σ' Fs', SR K B AF σ' H ρ' Fs' → Tg ns G σ ρ Fs σ' ρ' Fs' → Q σ' H) → g vs σ H Q
def tgN (i : Nat) : SG := fun d ρ => if i < ρ.length then some (ρ.set i (some (d, m02 d))) else none
def tgNil : SGs := fun ds ρ => match ds with
  | [] => some ρ
  | _ => none
def tgCons (st : SG) (sts : SGs) : SGs := fun ds ρ => match ds with
  | [] => none
  | d :: ds => (st d ρ).bind (sts ds)
def tgT (n : Nat) (sts : SGs) : SG := fun d ρ => match d with
  | .tuple ds => if ds.length = n then sts ds ρ else none
  | .dict [(.none, .tuple ds)] => if ds.length = n then sts ds ρ else none
  | _ => none
section
variable {K : PySem.W.Frag} {ns ms : List Nat}
theorem wipe_set {x : Option V} : ∀ (vs : List Nat) (σ : L2.St) {i : Nat}, i ∈ vs → wipe (σ.set i x) vs = wipe σ vs
  | [], _, _, h => nomatch h
  | v :: vs, σ, i, h => by
    show (wipe (σ.set i x) vs).set v none = (wipe σ vs).set v none
    by_cases e : i ∈ vs
    · rw [wipe_set vs σ e]
    · rcases List.mem_cons.mp h with rfl | h
      · have c : ∀ (vs : List Nat) (σ : L2.St), i ∉ vs → wipe (σ.set i x) vs = (wipe σ vs).set i x := fun vs => by
          induction vs with
          | nil => intro σ _; rfl
          | cons u us ih =>
            intro σ hn
            show (wipe (σ.set i x) us).set u none = ((wipe σ us).set u none).set i x
            rw [ih σ fun z => hn (List.mem_cons_of_mem _ z)]
            exact List.set_comm _ _ fun z => hn (by rw [z]; exact List.mem_cons_self ..)
        rw [c vs σ e, List.set_set]
      · exact absurd h e
theorem vg_name (i : Nat) : VG K [i] (gName i) (tgN i) := by
  intro B AF σ H ρ ρ' Fs v d G S r h1 hf e Q q
  unfold tgN at e
  split at e
  · rename_i hi
    cases e
    refine q _ (upF Fs i G) (S.set0 hi r h1 hf) ⟨fun j hj => ?_, fun j hj e n z => ?_, fun vs hv => wipe_set vs σ (hv i (List.mem_singleton.mpr rfl)), List.length_set⟩
    · have ne : j ≠ i := fun z => hj (List.mem_singleton.mpr z)
      exact ⟨List.getElem?_set_ne (Ne.symm ne), List.getElem?_set_ne (Ne.symm ne), upF_ne ne⟩
    · obtain rfl := List.mem_singleton.mp hj
      rcases set_some z with ⟨_, z⟩ | ⟨ne, z⟩
      · cases z
        rw [upF_same]
        exact ⟨(own02 (B := B) r).2, fun a h => h⟩
      · exact absurd rfl ne
  · cases e
theorem vgs_nil : VGs K [] gNil tgNil := by
  intro B AF σ H ρ ρ' Fs vs ds G S r h1 hf e Q q
  unfold tgNil at e
  split at e
  · cases e
    cases r
    exact ⟨rfl, q σ Fs S ⟨fun _ _ => ⟨rfl, rfl, rfl⟩, fun _ h => (nomatch h), fun _ _ => rfl, rfl⟩⟩
  · cases e
theorem Tg.free {G F : List Addr} {σ σ' : L2.St} {ρ ρ' : Env} {Fs Fs' : Nat → List Addr} (T : Tg ns G σ ρ Fs σ' ρ' Fs') (h : Free ρ Fs F) : Free ρ' Fs' F := fun i d m q a ha => by
  by_cases hi : i ∈ ns
  · rw [(T.ins i hi d m q).1] at ha; cases ha
  · obtain ⟨_, h2, h3⟩ := T.out i hi
    rw [h2] at q
    rw [h3] at ha
    exact h i d m q a ha
theorem vgs_cons {g : TG} {gs : TGs} {st : SG} {sts : SGs} (h1 : VG K ns g st) (h2 : VGs K ms gs sts) : VGs K (ns ++ ms) (gCons g gs) (tgCons st sts) := by
  intro B AF σ H ρ ρ' Fs vs ds G S r hB hf e Q q
  unfold tgCons at e
  split at e
  · cases e
  · rename_i d ds
    obtain ⟨ρ1, e1, e2⟩ := Option.bind_eq_some_iff.mp e
    cases r with
    | cons rv rs =>
      refine ⟨_, _, rfl, h1 B AF σ H ρ ρ1 Fs _ d _ S rv (fun a ha => hB a (List.mem_append_left _ ha)) (hf.mono fun a ha => List.mem_append_left _ ha) e1 _ fun σ1 Fs1 S1 T1 => ?_⟩
      refine h2 B AF σ1 H ρ1 ρ' Fs1 _ ds _ S1 rs (fun a ha => hB a (List.mem_append_right _ ha)) ((T1.free hf).mono fun a ha => List.mem_append_right _ ha) e2 Q fun σ2 Fs2 S2 T2 => ?_
      refine q σ2 Fs2 S2 ⟨fun i hi => ?_, fun i hi d m z => ?_, fun vs hv => ?_, T2.len.trans T1.len⟩
      · obtain ⟨a1, a2, a3⟩ := T1.out i fun z => hi (List.mem_append_left _ z)
        obtain ⟨b1, b2, b3⟩ := T2.out i fun z => hi (List.mem_append_right _ z)
        exact ⟨b1.trans a1, b2.trans a2, b3.trans a3⟩
      · by_cases h2 : i ∈ ms
        · obtain ⟨x, y⟩ := T2.ins i h2 d m z
          exact ⟨x, fun a ha => List.mem_append_right _ (y a ha)⟩
        · obtain ⟨b1, b2, b3⟩ := T2.out i h2
          have h3 : i ∈ ns := (List.mem_append.mp hi).resolve_right h2
          rw [b2] at z
          rw [b3]
          obtain ⟨x, y⟩ := T1.ins i h3 d m z
          exact ⟨x, fun a ha => List.mem_append_left _ (y a ha)⟩
      · rw [T2.wip vs fun i hi => hv i (List.mem_append_right _ hi), T1.wip vs fun i hi => hv i (List.mem_append_left _ hi)]
theorem vg_tup {gs : TGs} {sts : SGs} {n : Nat} (h : VGs K ns gs sts) : VG K ns (L2.gTup K n gs) (tgT n sts) := by
  intro B AF σ H ρ ρ' Fs v d G S r hB hf e Q q
  unfold tgT at e
  split at e
  · split at e
    · rename_i hl
      cases r with
      | tup ha rl => exact ⟨_, _, rfl, ha.1, by rw [rl.length]; exact hl, h B AF σ H ρ ρ' Fs _ _ G S rl hB hf e Q q⟩
    · cases e
  · split at e
    · rename_i hl
      obtain ⟨a, xs, rfl, ha, rl⟩ := r.pair_inv
      exact ⟨_, _, rfl, ha, by rw [rl.length]; exact hl, h B AF σ H ρ ρ' Fs _ _ G S rl hB hf e Q q⟩
    · cases e
  · cases e
end

/-! ### what is walked -/
/-- the turns of J give the items ds, as long as the things at C and at F stand -/
structure ItOk (K : PySem.W.Frag) (J : It) (H : Hp) (ds : List PyData) (C : List Addr) : Prop where
  mb : ∀ a ∈ C, Mb (H a) = true
  go : ∀ H', Kp C H H' → ∀ (i : Nat) (d : PyData), ds[i]? = some d → J.go i H' ∧ ∀ x H'', J.yld i H' x H'' → Grow H' H'' ∧ ∃ G, Rp K H'' x d G ∧ ∀ a ∈ G, a ∈ C
  stop : ∀ H', Kp C H H' → ∀ i : Nat, ds.length ≤ i → J.stop i H'
abbrev IF := Env → Option (List PyData × Kd)
def VI (K : PySem.W.Frag) (wi : TI) (f : IF) : Prop := ∀ (B : Hp) (AF : List Addr) (σ : L2.St) (H : Hp) (ρ : Env) (Fs : Nat → List Addr) (ds : List PyData) (k : Kd), SR K B AF σ H ρ Fs → f ρ = some (ds, k) →
  ∀ R : It → Hp → Prop, (∀ J H' C, Grow H H' → ItOk K J H' ds C → (∀ a ∈ C, H a = none ∨ Src ρ Fs k.src a) → R J H') → wi σ H R
/-- over a list, a tuple -/
def iterD : PyData → Option (List PyData)
  | .list ds => some ds
  | .tuple ds => some ds
  | _ => none
def iSeq (f : EF) : IF := fun ρ => (f ρ).bind fun p => (iterD p.1).map fun ds => (ds, p.2)
/-- the reading of a walk over a list or a tuple -/
def iAny (K : PySem.W.Frag) (tl : TE) : TI := fun σ H R => iList K tl σ H R ∨ iTup K tl σ H R
section
variable {K : PySem.W.Frag} {te : TE} {f : EF}
theorem itOk_list {H : Hp} {a : Addr} {xs : List V} {ds : List PyData} {F : List Addr} (h : H a = some (.lst xs)) (r : RpL K H xs ds F) : ItOk K (Itl K a) H ds (a :: F) := by
  have at_ : ∀ H', Kp (a :: F) H H' → H' a = some (.lst xs) := fun H' e => e _ _ h (.inr ⟨List.mem_cons_self .., inferInstance⟩)
  refine ⟨fun b hb => ?_, fun H' e i d hd => ?_, fun H' e i hi => ⟨xs, .of (at_ H' e), by rw [r.length]; exact hi⟩⟩
  · rcases List.mem_cons.mp hb with rfl | hb
    · rw [h]; rfl
    · exact r.mb b hb
  · obtain ⟨v, A, G, B, h1, h2, h3⟩ := r.get i hd
    refine ⟨⟨xs, v, .of (at_ H' e), h1⟩, fun x H'' ⟨e1, e2⟩ => ?_⟩
    subst e1
    have e3 := e2 xs (.of (at_ _ e))
    rw [h1] at e3
    cases e3
    refine ⟨.refl _, G, h2.kp (e.mono fun b hb => List.mem_cons_of_mem _ ?_), fun b hb => List.mem_cons_of_mem _ ?_⟩ <;>
    · rw [h3]
      exact List.mem_append_right _ (List.mem_append_left _ hb)
theorem itOk_tup {H : Hp} {a : Addr} {xs : List V} {ds : List PyData} {F : List Addr} (h : SqT K H a xs) (r : RpL K H xs ds F) : ItOk K (Itt K a) H ds F := by
  refine ⟨r.mb, fun H' e i d hd => ?_, fun H' e i hi => ⟨xs, e.sqT h, by rw [r.length]; exact hi⟩⟩
  obtain ⟨v, A, G, B, h1, h2, h3⟩ := r.get i hd
  refine ⟨⟨xs, v, e.sqT h, h1⟩, fun x H'' ⟨e1, e2⟩ => ?_⟩
  subst e1
  have e3 := e2 xs (e.sqT h)
  rw [h1] at e3
  cases e3
  refine ⟨.refl _, G, h2.kp (e.mono fun b hb => ?_), fun b hb => ?_⟩ <;>
  · rw [h3]
    exact List.mem_append_right _ (List.mem_append_left _ hb)
theorem vi_seq (h : VE K te f) : VI K (iAny K te) (iSeq f) := by
  intro B AF σ H ρ Fs ds k S e R q
  obtain ⟨⟨d, k1⟩, e1, e2⟩ := Option.bind_eq_some_iff.mp e
  obtain ⟨ds', e3, e4⟩ := Option.map_eq_some_iff.mp e2
  cases e4
  cases d with
  | list xs =>
    cases e3
    refine .inl (h B AF σ H ρ Fs _ _ S e1 _ fun v H1 F g1 r1 o1 => ?_)
    cases r1 with
    | lst ha rl => exact ⟨_, rfl, ⟨_, .of ha⟩, q _ H1 _ g1 (itOk_list ha rl) o1.1.any⟩
  | tuple xs =>
    cases e3
    refine .inr (h B AF σ H ρ Fs _ _ S e1 _ fun v H1 F g1 r1 o1 => ?_)
    cases r1 with
    | tup ha rl => exact ⟨_, rfl, ⟨_, ha.1⟩, q _ H1 _ g1 (itOk_tup ha.1 rl) o1.1.any⟩
  | none => cases e3
  | bool _ => cases e3
  | int _ => cases e3
  | str _ => cases e3
  | dict _ => cases e3
end
end Va

/-! Va5: list comprehensions. -/
namespace Va
open PySem L2

def zeroE (ρ : Env) : Env := ρ.map fun s => s.map fun p => (p.1, 0)
@[simp] def wipeE (ρ : Env) : List Nat → Env
  | [] => ρ
  | v :: vs => (wipeE ρ vs).set v none
def isMv : Kd → Bool
  | .mv _ => true
  | _ => false
section
variable {K : PySem.W.Frag} {B : Hp} {AF : List Addr} {σ : L2.St} {H : Hp} {ρ : Env} {Fs : Nat → List Addr}
theorem zero_get {i : Nat} {d : PyData} {m : Nat} (h : (zeroE ρ)[i]? = some (some (d, m))) : m = 0 ∧ ∃ n, ρ[i]? = some (some (d, n)) := by
  unfold zeroE at h
  rw [List.getElem?_map] at h
  obtain ⟨s, e1, e2⟩ := Option.map_eq_some_iff.mp h
  cases s with
  | none => cases e2
  | some p =>
    obtain ⟨d', n⟩ := p
    have e3 := Option.some.inj e2
    cases e3
    exact ⟨rfl, n, e1⟩
theorem SR.zero (S : SR K B AF σ H ρ Fs) : SR K B AF σ H (zeroE ρ) Fs := S.less (by unfold zeroE; exact List.length_map ..) fun i d m h => by
  obtain ⟨rfl, n, e⟩ := zero_get h
  exact ⟨n, e, .inr rfl⟩
theorem SR.unset (S : SR K B AF σ H ρ Fs) (i : Nat) {x : Option V} : SR K B AF (σ.set i x) H (ρ.set i none) Fs := by
  refine ⟨by rw [List.length_set, List.length_set]; exact S.len, S.same, fun j e n q => ?_, fun j j' e n e' n' q q' ne a ha => ?_⟩
  · rcases set_some q with ⟨_, z⟩ | ⟨ne, z⟩
    · cases z
    · rw [List.getElem?_set_ne (Ne.symm ne)]
      exact S.val j e n z
  · rcases set_some q with ⟨_, z⟩ | ⟨_, z⟩
    · cases z
    · rcases set_some q' with ⟨_, z'⟩ | ⟨_, z'⟩
      · cases z'
      · exact S.dis j j' e n e' n' z z' ne a ha
theorem SR.wipe (S : SR K B AF σ H ρ Fs) : ∀ vs : List Nat, SR K B AF (L2.wipe σ vs) H (wipeE ρ vs) Fs
  | [] => S
  | v :: vs => (S.wipe vs).unset v
theorem wipeE_get {i : Nat} {s : PyData × Nat} : ∀ {vs : List Nat}, (wipeE ρ vs)[i]? = some (some s) → ρ[i]? = some (some s)
  | [], h => h
  | v :: vs, h => by
    rcases set_some h with ⟨_, z⟩ | ⟨_, z⟩
    · cases z
    · exact wipeE_get z
end

abbrev LcR := List PyData × Bool × List Nat
def lcF (ns : List Nat) (st : SG) (ft : Env → Option Bool) (fe : EF) (ρ : Env) : List PyData → Option LcR
  | [] => some ([], true, [])
  | d :: ds => (st d ρ).bind fun ρ' => (ft ρ').bind fun b => if b = true then
      (fe ρ').bind fun p => (lcF ns st ft fe ρ ds).map fun q => (p.1 :: q.1, isMv p.2 && q.2.1, (p.2.src.filter fun i => !ns.contains i) ++ q.2.2)
    else lcF ns st ft fe ρ ds
def eLc (fi : IF) (ns : List Nat) (st : SG) (ft : Env → Option Bool) (fe : EF) (vs : List Nat) : EF := fun ρ => (fi ρ).bind fun p =>
  if p.1.length ≤ 1000000 then (lcF ns st ft fe (wipeE (zeroE ρ) vs) p.1).map fun q => (.list q.1, if flatL q.1 = true then .mv [] else if q.2.1 = true then .mv [] else .sp (p.2.src ++ q.2.2)) else none

section
variable {K : PySem.W.Frag} {wi : TI} {g : TG} {tt : TT} {te : TE} {fi : IF} {st : SG} {ft : Env → Option Bool} {fe : EF} {ns vs : List Nat}
theorem RpL.snoc {K : PySem.W.Frag} {H : Hp} {us : List V} {ds : List PyData} {F G : List Addr} {v : V} {d : PyData} (r : RpL K H us ds F) (h : Rp K H v d G) : RpL K H (us ++ [v]) (ds ++ [d]) (F ++ G) := by
  have := RpL.app r (.one h)
  exact this
theorem lcF_len {ρ : Env} : ∀ {ds : List PyData} {q : LcR}, lcF ns st ft fe ρ ds = some q → q.1.length ≤ ds.length
  | [], q, h => by cases h; exact Nat.le_refl _
  | d :: ds, q, h => by
    obtain ⟨ρ', e1, h⟩ := Option.bind_eq_some_iff.mp h
    obtain ⟨b, e2, h⟩ := Option.bind_eq_some_iff.mp h
    cases b with
    | true =>
      rw [if_pos rfl] at h
      obtain ⟨p, e3, h⟩ := Option.bind_eq_some_iff.mp h
      obtain ⟨q', e4, h⟩ := Option.map_eq_some_iff.mp h
      subst h
      have := lcF_len e4
      simp only [List.length_cons]
      omega
    | false =>
      rw [if_neg Bool.false_ne_true] at h
      have := lcF_len h
      simp only [List.length_cons]
      omega
/-- the state of a comprehension behind some items: acc made so far; the rest q of what is to come -/
structure LcI (K : PySem.W.Frag) (ρ : Env) (Fs : Nat → List Addr) (H H1 : Hp) (D : Addr) (tot : List PyData) (am : Bool) (L : List Nat) (q : LcR) (H' : Hp) : Prop where
  grow : Grow H1 H'
  ex : ∃ acc out F, H' D = some (.lst acc) ∧ RpL K H' acc out F ∧ tot = out ++ q.1 ∧ D ∉ F ∧ (am = true → q.2.1 = true ∧ F.Nodup ∧ ∀ a ∈ F, H a = none) ∧ (∀ i ∈ q.2.2, i ∈ L) ∧ ∀ a ∈ F, H a = none ∨ Src ρ Fs L a
theorem wipe_sub {σ : L2.St} {vs : List Nat} : ∀ us : List Nat, (∀ i ∈ us, i ∈ vs) → wipe (wipe σ us) vs = wipe σ vs
  | [], _ => rfl
  | u :: us, h => by
    show wipe ((wipe σ us).set u none) vs = wipe σ vs
    rw [wipe_set vs _ (h u (List.mem_cons_self ..))]
    exact wipe_sub us fun i hi => h i (List.mem_cons_of_mem _ hi)
theorem ve_lc (hi : VI K wi fi) (hg : VG K ns g st) (ht : VT K tt ft) (he : VE K te fe) (hv : ∀ i ∈ ns, i ∈ vs) : VE K (tLc wi g tt te vs) (eLc fi ns st ft fe vs) := by
  intro B AF σ H ρ Fs d k S e Q q
  obtain ⟨⟨ds, kc⟩, e1, e⟩ := Option.bind_eq_some_iff.mp e
  split at e
  case isFalse => cases e
  rename_i hz
  obtain ⟨⟨tot, am, L0⟩, e2, e⟩ := Option.map_eq_some_iff.mp e
  cases e
  refine hi B AF σ H ρ Fs ds kc S e1 _ fun J H1 C g1 ok hC D hD => ?_
  have S1 := S.grow g1
  have hD0 : H D = none := g1.back hD
  let L := kc.src ++ L0
  let ρi := wipeE (zeroE ρ) vs
  have Si : ∀ {H2 : Hp}, Grow H1 H2 → SR K B AF (wipe σ vs) H2 ρi Fs := fun g2 => ((S1.grow g2).zero).wipe vs
  have frI : ∀ G : List Addr, Free ρi Fs G := fun G i d m h a ha => by
    obtain ⟨rfl, _⟩ := zero_get (wipeE_get h)
    rw [Mf0] at ha; cases ha
  have inv : ∀ {i : Nat} {H2 : Hp}, Grow (upd H1 D (.lst [])) H2 → Grow H1 H2 := fun h => (Grow.new hD).trans h
  refine ⟨fun i m H' => m = ds.length - i ∧ i ≤ ds.length ∧ ∃ qr, lcF ns st ft fe ρi (ds.drop i) = some qr ∧ LcI K ρ Fs H H1 D tot am L qr H', ⟨ds.length, by simp, Nat.zero_le _, (tot, am, L0), e2, ?_⟩, ?_⟩
  · exact ⟨.new hD, [], [], [], upd_same, .nil, rfl, fun z => (nomatch z), fun z => ⟨z, List.nodup_nil, fun a h => nomatch h⟩, fun i hi => List.mem_append_right _ hi, fun a h => nomatch h⟩
  rintro i m H' ⟨rfl, hil, qr, eq, I⟩
  have kpC : Kp C H1 H' := I.grow.kp
  obtain ⟨acc, out, F, hDa, racc, etot, hDF, ham, hL, hF⟩ := I.ex
  by_cases hlt : i < ds.length
  · obtain ⟨dd, hdd⟩ : ∃ dd, ds[i]? = some dd := ⟨ds[i], List.getElem?_eq_getElem hlt⟩
    obtain ⟨go, yl⟩ := ok.go H' kpC i dd hdd
    have edrop : ds.drop i = dd :: ds.drop (i + 1) := by
      rw [List.drop_eq_getElem_cons hlt]
      rw [List.getElem?_eq_getElem hlt] at hdd
      rw [Option.some.inj hdd]
    rw [edrop] at eq
    obtain ⟨ρ2, a1, eq⟩ := Option.bind_eq_some_iff.mp eq
    obtain ⟨b, a2, eq⟩ := Option.bind_eq_some_iff.mp eq
    refine .inr ⟨go, fun H2 => ∃ qr, lcF ns st ft fe ρi (ds.drop (i + 1)) = some qr ∧ LcI K ρ Fs H H1 D tot am L qr H2, fun H2 ⟨qr2, b1, b2⟩ => ⟨ds.length - (i + 1), by omega, rfl, by omega, qr2, b1, b2⟩, fun x H2 hy => ?_⟩
    obtain ⟨g2, G, rx, hG⟩ := yl x H2 hy
    have g12 : Grow H1 H2 := I.grow.trans g2
    have tr : ∀ {σ2 : L2.St} {Fs2 : Nat → List Addr}, Tg ns G (wipe σ vs) ρi Fs σ2 ρ2 Fs2 → ∀ {M : List Nat} {a : Addr}, Src ρ2 Fs2 M a → Src ρ Fs (kc.src ++ M.filter fun i => !ns.contains i) a ∨ (H a = none ∧ a ∈ C) := by
      intro σ2 Fs2 T2 M a ⟨j, hj, ⟨d', m', z⟩, ma⟩
      by_cases hn : j ∈ ns
      · rcases hC a (hG a ((T2.ins j hn d' m' z).2 a ma)) with y | y
        · exact .inr ⟨y, hG a ((T2.ins j hn d' m' (by assumption)).2 a ma)⟩
        · exact .inl (y.mono fun i hi => List.mem_append_left _ hi)
      · obtain ⟨_, h2, h3⟩ := T2.out j hn
        rw [h2] at z
        rw [h3] at ma
        obtain ⟨_, n, z⟩ := zero_get (wipeE_get z)
        refine .inl ⟨j, List.mem_append_right _ (List.mem_filter.mpr ⟨hj, by simpa using hn⟩), ⟨d', n, z⟩, ma⟩
    have nw : ∀ {σ2 : L2.St} {Fs2 : Nat → List Addr}, Tg ns G (wipe σ vs) ρi Fs σ2 ρ2 Fs2 → ∀ {M : List Nat} {a : Addr}, Src2 ρ2 Fs2 M a → False := by
      intro σ2 Fs2 T2 M a ⟨j, hj, ⟨d', z⟩, ma⟩
      by_cases hn : j ∈ ns
      · have := (T2.ins j hn d' 2 z).1
        have e : Mf 2 (Fs2 j) = Fs2 j := rfl
        rw [e] at this
        rw [this] at ma
        cases ma
      · obtain ⟨_, h2, h3⟩ := T2.out j hn
        rw [h2] at z
        obtain ⟨z, _⟩ := zero_get (wipeE_get z)
        cases z
    refine hg B AF (wipe σ vs) H2 ρi ρ2 Fs x dd G (Si g12) rx (fun a ha => ?_) (frI G) a1 _ fun σ2 Fs2 S2 T2 => ⟨(T2.wip vs hv).trans (wipe_sub vs fun _ h => h), ?_⟩
    · rcases hC a (hG a ha) with z | ⟨j, hj, ⟨d', m', z⟩, ma⟩
      · exact .inl (S.same.back z)
      · obtain ⟨_, _, _, h3, _⟩ := S.val j d' m' z
        exact h3 a ma
    · refine ht B AF σ2 H2 ρ2 Fs2 b S2 a2 _ fun H3 g3 => ?_
      have g13 := g12.trans g3
      have gp : Grow H' H3 := g2.trans g3
      cases b with
      | false =>
        rw [if_neg Bool.false_ne_true] at eq ⊢
        exact ⟨qr, eq, g13, acc, out, F, gp _ _ hDa, racc.grow gp, etot, hDF, ham, hL, hF⟩
      | true =>
        rw [if_pos rfl] at eq ⊢
        obtain ⟨⟨dy, ky⟩, a3, eq⟩ := Option.bind_eq_some_iff.mp eq
        obtain ⟨q2, a4, eq⟩ := Option.map_eq_some_iff.mp eq
        subst eq
        refine he B AF σ2 H3 ρ2 Fs2 dy ky (S2.grow g3) a3 _ fun y H4 Gy g4 ry oy => ?_
        have g14 := g13.trans g4
        have gq : Grow H' H4 := gp.trans g4
        have hD4 : H4 D = some (.lst acc) := gq _ _ hDa
        have hlen : acc.length < sizeLine := by
          have h1 := racc.length
          have h2 : out.length + (1 + q2.1.length) = tot.length := by
            rw [etot, List.length_append, List.length_cons]; omega
          have h3 := lcF_len e2
          simp only at h3 hz
          exact lt_line (by omega)
        have DGy : D ∉ Gy := fun hm => by
          rcases oy.1.any D hm with z | z
          · rw [gp _ _ hDa] at z
            cases z
          · rcases tr T2 z with ⟨j, _, ⟨d', m', w⟩, ma⟩ | z
            · exact S.there w ma hD0
            · have := ok.mb D z.2
              rw [hD] at this; cases this
        refine ⟨acc, hD4, hlen, q2, a4, g14.upd hD (.lst hD4), acc ++ [y], out ++ [dy], F ++ Gy, upd_same, ?_, by rw [etot, List.append_assoc]; rfl, ?_, ?_, ?_, ?_⟩
        · have mb : Mb (H4 D) = true := by rw [hD4]; rfl
          exact ((racc.grow gq).snoc ry).kp (.upd mb fun z => (List.mem_append.mp z).elim hDF DGy)
        · exact fun z => (List.mem_append.mp z).elim hDF DGy
        · intro z
          obtain ⟨y1, y2, y3⟩ := ham z
          rw [Bool.and_eq_true] at y1
          obtain ⟨y1, y4⟩ := y1
          refine ⟨y4, ?_, ?_⟩
          · cases ky with
            | sp M => cases y1
            | bo M => cases y1
            | mv M =>
              have o1 := oy.1
              refine List.nodup_append.mpr ⟨y2, o1.1, fun a ha b hb z => ?_⟩
              subst z
              rcases o1.2 a hb with z | z
              · exact racc.stn ha (gp.back z)
              · exact nw T2 z
          · cases ky with
            | sp M => cases y1
            | bo M => cases y1
            | mv M =>
              have o1 := oy.1
              intro a ha
              rcases List.mem_append.mp ha with ha | ha
              · exact y3 a ha
              · rcases o1.2 a ha with z | z
                · exact g1.back (g13.back z)
                · exact (nw T2 z).elim
        · exact fun i hi => hL i (List.mem_append_right _ hi)
        · intro a ha
          rcases List.mem_append.mp ha with ha | ha
          · exact hF a ha
          · rcases oy.1.any a ha with z | z
            · exact .inl (g1.back (g13.back z))
            · rcases tr T2 z with w | w
              · refine .inr (w.mono fun i hi => ?_)
                rcases List.mem_append.mp hi with hi | hi
                · exact List.mem_append_left _ hi
                · exact hL i (List.mem_append_left _ hi)
              · exact .inl w.1
  · have e3 : i = ds.length := by omega
    subst e3
    rw [List.drop_length] at eq
    cases eq
    refine .inl ⟨ok.stop H' kpC _ (Nat.le_refl _), ?_⟩
    rw [List.append_nil] at etot
    subst etot
    refine q _ H' (D :: F) (g1.trans I.grow) (.lst hDa racc) ?_
    split
    · rename_i hf
      rw [racc.flat hf]
      exact .mv ⟨by simp, fun a ha => by rcases List.mem_singleton.mp ha with rfl; exact .inl hD0⟩
    · split
      · rename_i hm
        obtain ⟨_, y2, y3⟩ := ham hm
        refine .mv ⟨List.nodup_cons.mpr ⟨hDF, y2⟩, fun a ha => ?_⟩
        rcases List.mem_cons.mp ha with rfl | ha
        · exact .inl hD0
        · exact .inl (y3 a ha)
      · refine ⟨fun a ha => ?_, fun _ _ => ⟨D, F, rfl, rfl, hDF, hD0⟩⟩
        rcases List.mem_cons.mp ha with rfl | ha
        · exact .inl hD0
        · exact hF a ha
end
end Va

/-! Va6: statements. -/
namespace Va
open PySem L2

inductive Out where
  | nx (ρ : Env) | rt (d : PyData) (r : Nat) | bk (ρ : Env) | ct (ρ : Env) | ex (c : Str) (fs : List PyData)
abbrev SF := Env → Option Out
/-- what changed: only what the slots wr alone could write, and what is new -/
structure Fr (wr : List Nat) (σ : L2.St) (H : Hp) (ρ : Env) (Fs : Nat → List Addr) (σ' : L2.St) (H' : Hp) (ρ' : Env) (Fs' : Nat → List Addr) : Prop where
  dom : ∀ a, H' a = none → H a = none
  keep : ∀ a o [Nt o], H a = some o → (∀ i ∈ wr, ∀ d m, ρ[i]? = some (some (d, m)) → a ∉ Mf m (Fs i)) → H' a = some o
  own : ∀ (j : Nat), j ∈ wr → ∀ (d : PyData) (m : Nat), ρ'[j]? = some (some (d, m)) → ∀ a ∈ Mf m (Fs' j), H a = none ∨ ∃ i ∈ wr, ∃ d m, ρ[i]? = some (some (d, m)) ∧ a ∈ Mf m (Fs i)
  oth : ∀ j : Nat, j ∉ wr → σ'[j]? = σ[j]? ∧ ∀ (d : PyData) (m : Nat), ρ'[j]? = some (some (d, m)) → ∃ m0, ρ[j]? = some (some (d, m0)) ∧ Fs' j = Fs j ∧ ∀ a ∈ Mf m (Fs j), a ∈ Mf m0 (Fs j)
/-- how a returned value lies: r = 2 all its lists are new, 1 the top one is -/
def ROk (r : Nat) (B : Hp) (AF : List Addr) (v : V) (G : List Addr) : Prop :=
  (∀ a ∈ G, B a = none ∨ a ∈ AF) ∧ (r = 2 → G.Nodup ∧ ∀ a ∈ G, B a = none) ∧ (r = 1 → ∃ p G', v = .ref p ∧ G = p :: G' ∧ p ∉ G' ∧ B p = none)
abbrev WxT := Str → List PyData → L2.St → Hp → Prop
def PNx (K : PySem.W.Frag) (B : Hp) (AF : List Addr) (wr : List Nat) (σ : L2.St) (H : Hp) (ρ : Env) (Fs : Nat → List Addr) (ρ' : Env) (C : L2.St → Hp → Prop) : Prop :=
  ∀ σ' H' Fs', SR K B AF σ' H' ρ' Fs' → Fr wr σ H ρ Fs σ' H' ρ' Fs' → C σ' H'
def Post (K : PySem.W.Frag) (Wx : WxT) (B : Hp) (AF : List Addr) (wr : List Nat) (σ : L2.St) (H : Hp) (ρ : Env) (Fs : Nat → List Addr) (D : Ends) : Out → Prop
  | .nx ρ' => PNx K B AF wr σ H ρ Fs ρ' D.nx
  | .bk ρ' => PNx K B AF wr σ H ρ Fs ρ' D.bk
  | .ct ρ' => PNx K B AF wr σ H ρ Fs ρ' D.ct
  | .rt d r => ∀ v H' G, Grow B H' → Rp K H' v d G → ROk r B AF v G → D.rt v H'
  | .ex c fs => ∀ σ' H', Grow B H' → Wx c fs σ' H'
/-- a statement's reading does what f tells -/
def VS (K : PySem.W.Frag) (Wx : WxT) (wr : List Nat) (ts : TS) (f : SF) : Prop := ∀ (B : Hp) (AF : List Addr) (σ : L2.St) (H : Hp) (ρ : Env) (Fs : Nat → List Addr) (o : Out), SR K B AF σ H ρ Fs → f ρ = some o →
  ∀ D : Ends, Post K Wx B AF wr σ H ρ Fs D o → ts D σ H

theorem Mf_le {m m0 : Nat} {F : List Addr} {a : Addr} (h : m = m0 ∨ m = 0) (ha : a ∈ Mf m F) : a ∈ Mf m0 F := by
  rcases h with rfl | rfl
  · exact ha
  · rw [Mf0] at ha; cases ha
section
variable {K : PySem.W.Frag} {Wx : WxT} {B : Hp} {AF : List Addr} {wr wr' : List Nat} {σ σ' σ2 : L2.St} {H H' H2 : Hp} {ρ ρ' ρ2 : Env} {Fs Fs' Fs2 : Nat → List Addr}
theorem Fr.grow (g : Grow H H') : Fr wr σ H ρ Fs σ H' ρ Fs :=
  ⟨fun a h => g.back h, fun a o _ h _ => g.st a o h, fun j hj d m h a ha => .inr ⟨j, hj, d, m, h, ha⟩, fun j hj => ⟨rfl, fun d m h => ⟨m, h, rfl, fun _ h => h⟩⟩⟩
theorem Fr.mono (h : Fr wr σ H ρ Fs σ' H' ρ' Fs') (s : ∀ i ∈ wr, i ∈ wr') : Fr wr' σ H ρ Fs σ' H' ρ' Fs' := by
  refine ⟨h.dom, fun a o _ e k => h.keep a o e fun i hi => k i (s i hi), fun j hj d m e a ha => ?_, fun j hj => h.oth j fun z => hj (s j z)⟩
  by_cases hw : j ∈ wr
  · exact (h.own j hw d m e a ha).imp id fun ⟨i, hi, q⟩ => ⟨i, s i hi, q⟩
  · obtain ⟨_, h2⟩ := h.oth j hw
    obtain ⟨m0, h3, h4, h5⟩ := h2 d m e
    exact .inr ⟨j, hj, d, m0, h3, h5 a (h4 ▸ ha)⟩
theorem Fr.trans (h : Fr wr σ H ρ Fs σ' H' ρ' Fs') (k : Fr wr' σ' H' ρ' Fs' σ2 H2 ρ2 Fs2) : Fr (wr ++ wr') σ H ρ Fs σ2 H2 ρ2 Fs2 := by
  have back : ∀ i ∈ wr ++ wr', ∀ (d : PyData) (m : Nat), ρ'[i]? = some (some (d, m)) → ∀ a ∈ Mf m (Fs' i), H a = none ∨ ∃ i ∈ wr ++ wr', ∃ d m, ρ[i]? = some (some (d, m)) ∧ a ∈ Mf m (Fs i) := fun i hi d m e a ha => by
    by_cases hw : i ∈ wr
    · exact (h.own i hw d m e a ha).imp id fun ⟨i, hi, q⟩ => ⟨i, List.mem_append_left _ hi, q⟩
    · obtain ⟨_, h2⟩ := h.oth i hw
      obtain ⟨m0, h3, h4, h5⟩ := h2 d m e
      exact .inr ⟨i, hi, d, m0, h3, h5 a (h4 ▸ ha)⟩
  refine ⟨fun a e => h.dom a (k.dom a e), fun a o _ e kk => ?_, fun j hj d m e a ha => ?_, fun j hj => ?_⟩
  · refine k.keep a o (h.keep a o e fun i hi => kk i (List.mem_append_left _ hi)) fun i hi d m e2 ha => ?_
    rcases back i (List.mem_append_right _ hi) d m e2 a ha with z | ⟨l, hl, d', m', z, ma⟩
    · rw [e] at z; cases z
    · exact kk l hl d' m' z ma
  · by_cases hw : j ∈ wr'
    · rcases k.own j hw d m e a ha with z | ⟨i, hi, d', m', z, ma⟩
      · exact .inl (h.dom a z)
      · exact back i (List.mem_append_right _ hi) d' m' z a ma
    · obtain ⟨_, h2⟩ := k.oth j hw
      obtain ⟨m0, h3, h4, h5⟩ := h2 d m e
      exact back j hj d m0 h3 a (h5 a (h4 ▸ ha))
  · obtain ⟨a1, a2⟩ := h.oth j fun z => hj (List.mem_append_left _ z)
    obtain ⟨b1, b2⟩ := k.oth j fun z => hj (List.mem_append_right _ z)
    refine ⟨b1.trans a1, fun d m e => ?_⟩
    obtain ⟨m0, c1, c2, c3⟩ := b2 d m e
    obtain ⟨m1, d1, d2, d3⟩ := a2 d m0 c1
    refine ⟨m1, d1, c2.trans d2, fun a ha => ?_⟩
    rw [d2] at c3
    exact d3 a (c3 a ha)
/-- behind a change of modes alone -/
theorem Fr.less (hρ : ∀ (i : Nat) (d : PyData) (m : Nat), ρ'[i]? = some (some (d, m)) → ∃ m0, ρ[i]? = some (some (d, m0)) ∧ (m = m0 ∨ m = 0)) : Fr wr σ H ρ Fs σ H ρ' Fs := by
  refine ⟨fun a h => h, fun a o _ h _ => h, fun j hj d m e a ha => ?_, fun j hj => ⟨rfl, fun d m e => ?_⟩⟩
  · obtain ⟨m0, h1, h2⟩ := hρ j d m e
    exact .inr ⟨j, hj, d, m0, h1, Mf_le h2 ha⟩
  · obtain ⟨m0, h1, h2⟩ := hρ j d m e
    exact ⟨m0, h1, rfl, fun a ha => Mf_le h2 ha⟩
/-- another start: fewer modes were told there, and less stood -/
theorem Fr.from_ (h : Fr wr σ H' ρ' Fs σ2 H2 ρ2 Fs2) (g : Grow H H') (hρ : ∀ (i : Nat) (d : PyData) (m : Nat), ρ'[i]? = some (some (d, m)) → ∃ m0, ρ[i]? = some (some (d, m0)) ∧ (m = m0 ∨ m = 0)) : Fr wr σ H ρ Fs σ2 H2 ρ2 Fs2 := by
  have := (Fr.grow (wr := wr) (σ := σ) (ρ := ρ) (Fs := Fs) g).trans ((Fr.less (wr := wr) (σ := σ) (H := H') (Fs := Fs) hρ).trans h)
  exact this.mono fun i hi => by simpa using hi
end

/-! ### blocks -/
def sNext : SF := fun ρ => some (.nx ρ)
def sSeq (f g : SF) : SF := fun ρ => (f ρ).bind fun o => match o with
  | .nx ρ' => g ρ'
  | o => some o
def sIf (c : Env → Option Bool) (f g : SF) : SF := fun ρ => (c ρ).bind fun b => if b = true then f ρ else g ρ
def rk : Kd → Nat
  | .mv _ => 2
  | .sp _ => 1
  | .bo _ => 0
def sRet (f : EF) : SF := fun ρ => (f ρ).map fun p => .rt p.1 (rk p.2)
def sRetN : SF := fun _ => some (.rt .none 2)
def sBreak : SF := fun ρ => some (.bk ρ)
def sCont : SF := fun ρ => some (.ct ρ)
def sDrop (f : EF) : SF := fun ρ => (f ρ).map fun _ => .nx ρ
section
variable {K : PySem.W.Frag} {Wx : WxT} {wr wr' : List Nat} {t u : TS} {f g : SF} {te : TE} {fe : EF} {tc : TT} {fc : Env → Option Bool}
theorem vs_next : VS K Wx wr tNext sNext := by
  intro B AF σ H ρ Fs o S e D p
  cases e
  exact p σ H Fs S (Fr.grow (.refl H))
theorem vs_break : VS K Wx wr tBreak sBreak := by
  intro B AF σ H ρ Fs o S e D p
  cases e
  exact p σ H Fs S (Fr.grow (.refl H))
theorem vs_cont : VS K Wx wr tCont sCont := by
  intro B AF σ H ρ Fs o S e D p
  cases e
  exact p σ H Fs S (Fr.grow (.refl H))
theorem Post.mono {B : Hp} {AF : List Addr} {σ : L2.St} {H : Hp} {ρ : Env} {Fs : Nat → List Addr} {D : Ends} {o : Out} (p : Post K Wx B AF wr' σ H ρ Fs D o) (s : ∀ i ∈ wr, i ∈ wr') : Post K Wx B AF wr σ H ρ Fs D o := by
  cases o with
  | nx ρ' => exact fun σ' H' Fs' S F => p σ' H' Fs' S (F.mono s)
  | bk ρ' => exact fun σ' H' Fs' S F => p σ' H' Fs' S (F.mono s)
  | ct ρ' => exact fun σ' H' Fs' S F => p σ' H' Fs' S (F.mono s)
  | rt d r => exact p
  | ex c fs => exact p
theorem VS.mono (h : VS K Wx wr t f) (s : ∀ i ∈ wr, i ∈ wr') : VS K Wx wr' t f := fun B AF σ H ρ Fs o S e D p => h B AF σ H ρ Fs o S e D (p.mono s)
theorem Post.pre {wq : List Nat} {B : Hp} {AF : List Addr} {σ σ1 : L2.St} {H H1 : Hp} {ρ ρ1 : Env} {Fs Fs1 : Nat → List Addr} {D : Ends} {o : Out} (p : Post K Wx B AF wq σ H ρ Fs D o) (F : Fr wr σ H ρ Fs σ1 H1 ρ1 Fs1) (s : ∀ i ∈ wr ++ wr', i ∈ wq) : Post K Wx B AF wr' σ1 H1 ρ1 Fs1 D o := by
  cases o with
  | nx ρ' => exact fun σ' H' Fs' S G => p σ' H' Fs' S ((F.trans G).mono s)
  | bk ρ' => exact fun σ' H' Fs' S G => p σ' H' Fs' S ((F.trans G).mono s)
  | ct ρ' => exact fun σ' H' Fs' S G => p σ' H' Fs' S ((F.trans G).mono s)
  | rt d r => exact p
  | ex c fs => exact p
theorem vs_seq (h1 : VS K Wx wr t f) (h2 : VS K Wx wr' u g) : VS K Wx (wr ++ wr') (tSeq t u) (sSeq f g) := by
  intro B AF σ H ρ Fs o S e D p
  obtain ⟨o1, e1, e2⟩ := Option.bind_eq_some_iff.mp e
  refine h1 B AF σ H ρ Fs o1 S e1 _ ?_
  cases o1 with
  | nx ρ1 => exact fun σ1 H1 Fs1 S1 F1 => h2 B AF σ1 H1 ρ1 Fs1 o S1 e2 D (p.pre F1 fun _ h => h)
  | bk ρ1 => cases e2; exact fun σ1 H1 Fs1 S1 F1 => p σ1 H1 Fs1 S1 (F1.mono fun i hi => List.mem_append_left _ hi)
  | ct ρ1 => cases e2; exact fun σ1 H1 Fs1 S1 F1 => p σ1 H1 Fs1 S1 (F1.mono fun i hi => List.mem_append_left _ hi)
  | rt d r => cases e2; exact p
  | ex c fs => cases e2; exact p
theorem vs_if (hc : VT K tc fc) (h1 : VS K Wx wr t f) (h2 : VS K Wx wr' u g) : VS K Wx (wr ++ wr') (tIfS tc t u) (sIf fc f g) := by
  intro B AF σ H ρ Fs o S e D p
  obtain ⟨b, e1, e2⟩ := Option.bind_eq_some_iff.mp e
  refine hc B AF σ H ρ Fs b S e1 _ fun H1 g1 => ?_
  cases b with
  | true => exact h1 B AF σ H1 ρ Fs o (S.grow g1) e2 D (p.pre (Fr.grow (wr := []) g1) fun i hi => List.mem_append_left _ hi)
  | false => exact h2 B AF σ H1 ρ Fs o (S.grow g1) e2 D (p.pre (Fr.grow (wr := []) g1) fun i hi => List.mem_append_right _ hi)
theorem vs_drop (h : VE K te fe) : VS K Wx wr (tDrop te) (sDrop fe) := by
  intro B AF σ H ρ Fs o S e D p
  obtain ⟨⟨d, k⟩, e1, e2⟩ := Option.map_eq_some_iff.mp e
  subst e2
  exact h B AF σ H ρ Fs d k S e1 _ fun v H1 F g1 r1 o1 => p σ H1 Fs (S.grow g1) (Fr.grow g1)
theorem rok_of {B : Hp} {AF : List Addr} {σ : L2.St} {H : Hp} {ρ : Env} {Fs : Nat → List Addr} {v : V} {F : List Addr} {k : Kd} (S : SR K B AF σ H ρ Fs) (o : KV ρ Fs H v F k) : ROk (rk k) B AF v F := by
  refine ⟨fun a ha => ?_, fun z => ?_, fun z => ?_⟩
  · rcases o.1.any a ha with y | ⟨i, _, ⟨d, m, y⟩, ma⟩
    · exact .inl (S.same.back y)
    · obtain ⟨_, _, _, h3, _⟩ := S.val i d m y
      exact h3 a ma
  · cases k with
    | sp L => cases z
    | bo L => cases z
    | mv L =>
      refine ⟨o.1.1, fun a ha => ?_⟩
      rcases o.1.2 a ha with y | ⟨i, _, ⟨d, y⟩, ma⟩
      · exact S.same.back y
      · obtain ⟨_, _, _, _, h3⟩ := S.val i d 2 y
        exact h3.1 a ma
  · cases k with
    | mv L => cases z
    | bo L => cases z
    | sp L =>
      obtain ⟨p, G, h1, h2, h3, h4⟩ := o.2 L rfl
      exact ⟨p, G, h1, h2, h3, S.same.back h4⟩
theorem vs_ret (h : VE K te fe) : VS K Wx wr (tRet te) (sRet fe) := by
  intro B AF σ H ρ Fs o S e D p
  obtain ⟨⟨d, k⟩, e1, e2⟩ := Option.map_eq_some_iff.mp e
  subst e2
  exact h B AF σ H ρ Fs d k S e1 _ fun v H1 F g1 r1 o1 => p v H1 F (S.same.trans g1).grow r1 (rok_of S o1)
theorem vs_retN : VS K Wx wr tRetN sRetN := by
  intro B AF σ H ρ Fs o S e D p
  cases e
  exact p .non H [] S.same.grow .non ⟨fun a h => (nomatch h), fun _ => ⟨List.nodup_nil, fun a h => (nomatch h)⟩, fun z => nomatch z⟩
end

/-! ### slots given away -/
def kil (L : List Nat) (ρ : Env) : Env := wipeE ρ L
@[simp] def demS : Sl → Sl
  | some (d, _) => some (d, 0)
  | none => none
def dem (L : List Nat) (ρ : Env) : Env := match L with
  | [] => ρ
  | i :: L => (dem L ρ).modify i demS
theorem wipeE_len {ρ : Env} : ∀ vs : List Nat, (wipeE ρ vs).length = ρ.length
  | [] => rfl
  | v :: vs => by
    show ((wipeE ρ vs).set v none).length = _
    rw [List.length_set]
    exact wipeE_len vs
theorem dem_len {ρ : Env} : ∀ L : List Nat, (dem L ρ).length = ρ.length
  | [] => rfl
  | i :: L => by
    show ((dem L ρ).modify i demS).length = _
    rw [List.length_modify]
    exact dem_len L
theorem wipeE_not {ρ : Env} {i : Nat} {s : PyData × Nat} : ∀ {vs : List Nat}, (wipeE ρ vs)[i]? = some (some s) → i ∉ vs
  | [], _ => fun h => nomatch h
  | v :: vs, h => by
    rcases set_some h with ⟨_, z⟩ | ⟨ne, z⟩
    · cases z
    · intro hm
      rcases List.mem_cons.mp hm with rfl | hm
      · exact ne rfl
      · exact wipeE_not z hm
theorem dem_get {ρ : Env} {i : Nat} {d : PyData} {m : Nat} : ∀ {L : List Nat}, (dem L ρ)[i]? = some (some (d, m)) → ∃ m0, ρ[i]? = some (some (d, m0)) ∧ (m = m0 ∨ m = 0) ∧ (i ∈ L → m = 0)
  | [], h => ⟨m, h, .inl rfl, fun z => nomatch z⟩
  | j :: L, h => by
    have h' : ((dem L ρ).modify j demS)[i]? = some (some (d, m)) := h
    rw [List.getElem?_modify] at h'
    obtain ⟨s, e1, e2⟩ := Option.map_eq_some_iff.mp h'
    by_cases e : j = i
    · rw [if_pos e] at e2
      cases s with
      | none => cases e2
      | some p =>
        obtain ⟨d', n⟩ := p
        cases e2
        obtain ⟨m0, h1, _, _⟩ := dem_get (L := L) e1
        exact ⟨m0, h1, .inr rfl, fun _ => rfl⟩
    · rw [if_neg e] at e2
      have e3 : s = some (d, m) := e2
      subst e3
      obtain ⟨m0, h1, h2, h3⟩ := dem_get (L := L) e1
      exact ⟨m0, h1, h2, fun z => h3 ((List.mem_cons.mp z).resolve_left fun q => e q.symm)⟩
end Va

/-! Va7: stores. -/
namespace Va
open PySem L2

/-- a value of the kind k is given to a slot (or into a list): what the other slots have from then on, and its mode -/
def giv (kl : List Nat) (k : Kd) (ρ : Env) : Env × Nat := match k with
  | .mv L => if L.all kl.contains = true then (kil L ρ, 2) else (dem L ρ, 0)
  | .sp L => (dem L ρ, 1)
  | .bo L => (dem L ρ, 0)
structure GivOk (B : Hp) (AF : List Addr) (H : Hp) (ρ : Env) (Fs : Nat → List Addr) (v : V) (F : List Addr) (kl : List Nat) (ρ1 : Env) (m : Nat) : Prop where
  len : ρ1.length = ρ.length
  less : ∀ (i : Nat) (d : PyData) (n : Nat), ρ1[i]? = some (some (d, n)) → ∃ n0, ρ[i]? = some (some (d, n0)) ∧ (n = n0 ∨ n = 0)
  a : ∀ (j : Nat) (e : PyData) (n : Nat), ρ1[j]? = some (some (e, n)) → ∀ a ∈ Mf n (Fs j), a ∉ F
  b : ∀ (j : Nat) (e : PyData) (n : Nat), ρ1[j]? = some (some (e, n)) → ∀ a ∈ Mf m F, a ∉ Fs j
  c : Own B v m F
  d : ∀ a ∈ F, B a = none ∨ a ∈ AF
  e : ∀ a ∈ Mf m F, H a = none ∨ ∃ i ∈ kl, ∃ (d : PyData) (n : Nat), ρ[i]? = some (some (d, n)) ∧ a ∈ Mf n (Fs i)
section
variable {K : PySem.W.Frag} {Wx : WxT} {B : Hp} {AF : List Addr} {σ : L2.St} {H H' : Hp} {ρ : Env} {Fs : Nat → List Addr} {v : V} {F : List Addr} {k : Kd} {kl wr : List Nat}
theorem giv_ok (S : SR K B AF σ H ρ Fs) (o : KV ρ Fs H v F k) : GivOk B AF H ρ Fs v F kl (giv kl k ρ).1 (giv kl k ρ).2 := by
  have hd : ∀ a ∈ F, B a = none ∨ a ∈ AF := (rok_of S o).1
  have noo : ∀ {a : Addr}, H a = none → ∀ (j : Nat) (e : PyData) (n : Nat), ρ[j]? = some (some (e, n)) → a ∉ Fs j := fun z j e n q m => S.there q m z
  -- lenders have nothing of their own left
  have dm : ∀ L, (∀ i ∈ k.src, i ∈ L) → ∀ (j : Nat) (e : PyData) (n : Nat), (dem L ρ)[j]? = some (some (e, n)) → ∀ a ∈ Mf n (Fs j), a ∉ F := fun L hL j e n q a ha hF => by
    obtain ⟨n0, q0, q1, q2⟩ := dem_get q
    rcases o.1.any a hF with z | ⟨l, hl, ⟨d', m', z⟩, ma⟩
    · exact noo z j e n0 q0 (Mf_sub ha)
    · by_cases e' : j = l
      · subst e'
        rw [q2 (hL j hl), Mf0] at ha; cases ha
      · exact S.dis j l e n0 d' m' q0 z e' a (Mf_le q1 ha) ma
  have z0 : GivOk B AF H ρ Fs v F kl (dem k.src ρ) 0 := ⟨dem_len _, fun i d n q => let ⟨n0, q0, q1, _⟩ := dem_get q; ⟨n0, q0, q1⟩, dm k.src fun i hi => hi, fun j e n q a ha => (by rw [Mf0] at ha; cases ha), .zero, hd, fun a ha => (by rw [Mf0] at ha; cases ha)⟩
  cases k with
  | bo L => exact z0
  | sp L =>
    obtain ⟨p, G, h1, h2, h3, h4⟩ := o.2 L rfl
    have e1 : Mf 1 F = [p] := by rw [h2]; rfl
    refine ⟨z0.len, z0.less, z0.a, fun j e n q a ha => ?_, ⟨fun a ha => ?_, fun _ => ⟨p, G, h1, h2, h3⟩, fun z => nomatch z⟩, hd, fun a ha => ?_⟩
    · have ha' : a ∈ Mf 1 F := ha
      rw [e1] at ha'
      obtain rfl := List.mem_singleton.mp ha'
      obtain ⟨n0, q0, _⟩ := dem_get q
      exact noo h4 j e n0 q0
    · have ha' : a ∈ Mf 1 F := ha
      rw [e1] at ha'
      obtain rfl := List.mem_singleton.mp ha'
      exact S.same.back h4
    · have ha' : a ∈ Mf 1 F := ha
      rw [e1] at ha'
      obtain rfl := List.mem_singleton.mp ha'
      exact .inl h4
  | mv L =>
    show GivOk B AF H ρ Fs v F kl (if L.all kl.contains = true then (kil L ρ, 2) else (dem L ρ, 0)).1 (if L.all kl.contains = true then (kil L ρ, 2) else (dem L ρ, 0)).2
    by_cases hk : L.all kl.contains = true
    · rw [if_pos hk]
      have o1 := o.1
      refine ⟨wipeE_len _, fun i d n q => ⟨n, wipeE_get q, .inl rfl⟩, fun j e n q a ha hF => ?_, fun j e n q a ha hj => ?_, ⟨fun a ha => ?_, fun z => (nomatch z), fun _ => o1.1⟩, hd, fun a ha => ?_⟩
      · have q0 := wipeE_get q
        rcases o1.2 a hF with z | ⟨l, hl, ⟨d', z⟩, ma⟩
        · exact noo z j e n q0 (Mf_sub ha)
        · have ne : j ≠ l := fun y => wipeE_not q (y ▸ hl)
          exact S.dis j l e n d' 2 q0 z ne a ha ma
      · have q0 := wipeE_get q
        rcases o1.2 a ha with z | ⟨l, hl, ⟨d', z⟩, ma⟩
        · exact noo z j e n q0 hj
        · have ne : l ≠ j := fun y => wipeE_not q (y ▸ hl)
          exact S.dis l j d' 2 e n z q0 ne a ma hj
      · rcases o1.2 a ha with z | ⟨l, hl, ⟨d', z⟩, ma⟩
        · exact S.same.back z
        · obtain ⟨_, _, _, _, h⟩ := S.val l d' 2 z
          exact h.1 a ma
      · rcases o1.2 a ha with z | ⟨l, hl, ⟨d', z⟩, ma⟩
        · exact .inl z
        · exact .inr ⟨l, List.contains_iff_mem.mp (List.all_eq_true.mp hk l hl), d', 2, z, ma⟩
    · rw [if_neg hk]
      exact z0

/-- name = value -/
def sSet (kl : List Nat) (i : Nat) (f : EF) : SF := fun ρ => (f ρ).bind fun p => if i < ρ.length then some (.nx ((giv kl p.2 ρ).1.set i (some (p.1, (giv kl p.2 ρ).2)))) else none
theorem set_core (kl : List Nat) (i : Nat) {H1 : Hp} {d : PyData} (S : SR K B AF σ H ρ Fs) (g1 : Grow H H1) (r1 : Rp K H1 v d F) (o1 : KV ρ Fs H v F k) (hi : i < ρ.length) :
    SR K B AF (σ.set i (some v)) H1 ((giv kl k ρ).1.set i (some (d, (giv kl k ρ).2))) (upF Fs i F) ∧ Fr (i :: kl) σ H ρ Fs (σ.set i (some v)) H1 ((giv kl k ρ).1.set i (some (d, (giv kl k ρ).2))) (upF Fs i F) := by
  have G := giv_ok (kl := kl) S o1
  have S1 : SR K B AF σ H1 (giv kl k ρ).1 Fs := (S.grow g1).less G.len G.less
  refine ⟨S1.set (by rw [G.len]; exact hi) r1 G.d G.c fun j e n ne q => ⟨G.a j e n q, G.b j e n q⟩, ?_⟩
  refine ⟨fun a z => g1.back z, fun a o _ z _ => g1.st a o z, fun j hj d' m' q a ha => ?_, fun j hj => ?_⟩
  · rcases set_some q with ⟨rfl, z⟩ | ⟨ne, z⟩
    · cases z
      rw [upF_same] at ha
      exact (G.e a ha).imp id fun ⟨l, hl, y⟩ => ⟨l, List.mem_cons_of_mem _ hl, y⟩
    · rw [upF_ne ne] at ha
      obtain ⟨n0, q0, q1⟩ := G.less j d' m' z
      exact .inr ⟨j, hj, d', n0, q0, Mf_le q1 ha⟩
  · have ne : j ≠ i := fun z => hj (by rw [z]; exact List.mem_cons_self ..)
    refine ⟨List.getElem?_set_ne (Ne.symm ne), fun d' m' q => ?_⟩
    rcases set_some q with ⟨z, _⟩ | ⟨_, z⟩
    · exact absurd z ne
    · obtain ⟨n0, q0, q1⟩ := G.less j d' m' z
      exact ⟨n0, q0, upF_ne ne, fun a ha => Mf_le q1 ha⟩
theorem vs_set (kl : List Nat) (i : Nat) {te : TE} {f : EF} (h : VE K te f) : VS K Wx (i :: kl) (tAsg te (gName i)) (sSet kl i f) := by
  intro B AF σ H ρ Fs o S e D p
  obtain ⟨⟨d, k⟩, e1, e2⟩ := Option.bind_eq_some_iff.mp e
  split at e2
  case isFalse => cases e2
  rename_i hi
  cases e2
  refine h B AF σ H ρ Fs d k S e1 _ fun v H1 F g1 r1 o1 => ?_
  obtain ⟨c1, c2⟩ := set_core kl i S g1 r1 o1 hi
  exact p _ H1 (upF Fs i F) c1 c2

/-- the list (or dict) that the slot i alone has at p becomes o -/
theorem SR.write {ρ1 : Env} {G : List Addr} {i : Nat} {d d' : PyData} {m m' : Nat} {p : Addr} {F0 : List Addr} {o : HO} (S : SR K B AF σ H ρ1 Fs) (hi : ρ1[i]? = some (some (d, m))) (hp : Fs i = p :: F0) (hm : p ∈ Mf m (Fs i)) (hσ : σ[i]? = some (some (.ref p)))
    (r : Rp K (upd H p o) (.ref p) d' (p :: G)) (hd : ∀ a ∈ G, B a = none ∨ a ∈ AF) (hw : Own B (.ref p) m' (p :: G))
    (ha : ∀ (j : Nat) (e : PyData) (n : Nat), j ≠ i → ρ1[j]? = some (some (e, n)) → (∀ a ∈ Mf n (Fs j), a ∉ G) ∧ ∀ a ∈ Mf m' (p :: G), a ≠ p → a ∉ Fs j) :
    SR K B AF σ (upd H p o) (ρ1.set i (some (d', m'))) (upF Fs i (p :: G)) := by
  obtain ⟨v, h1, h2, h3, h4⟩ := S.val i d m hi
  have mb : Mb (H p) = true := h2.mb p (by rw [hp]; exact List.mem_cons_self ..)
  have Bp : B p = none := h4.1 p hm
  have pj : ∀ (j : Nat) (e : PyData) (n : Nat), j ≠ i → ρ1[j]? = some (some (e, n)) → p ∉ Fs j := fun j e n ne q => S.dis i j d m e n hi q (Ne.symm ne) p hm
  have li : i < ρ1.length := (List.getElem?_eq_some_iff.mp hi).1
  refine ⟨by rw [List.length_set]; exact S.len, S.same.upd Bp (h2.wr p (by rw [hp]; exact List.mem_cons_self ..)), fun j e n q => ?_, fun j j' e n e' n' q q' ne a hh => ?_⟩
  · rcases set_some q with ⟨rfl, z⟩ | ⟨ne, z⟩
    · cases z
      rw [upF_same]
      refine ⟨.ref p, hσ, r, fun a ha => ?_, hw⟩
      rcases List.mem_cons.mp ha with rfl | ha
      · exact .inl Bp
      · exact hd a ha
    · obtain ⟨u, u1, u2, u3, u4⟩ := S.val j e n z
      rw [upF_ne ne]
      exact ⟨u, u1, u2.kp (.upd mb (pj j e n ne z)), u3, u4⟩
  · rcases set_some q with ⟨rfl, z⟩ | ⟨ne1, z⟩
    · cases z
      rcases set_some q' with ⟨rfl, z'⟩ | ⟨ne2, z'⟩
      · exact absurd rfl ne
      · rw [upF_same] at hh
        rw [upF_ne ne2]
        by_cases e : a = p
        · subst e
          exact pj j' e' n' ne2 z'
        · exact (ha j' e' n' ne2 z').2 a hh e
    · rw [upF_ne ne1] at hh
      rcases set_some q' with ⟨rfl, z'⟩ | ⟨ne2, z'⟩
      · rw [upF_same]
        intro hm
        rcases List.mem_cons.mp hm with rfl | hm
        · exact pj j e n ne1 z (Mf_sub hh)
        · exact (ha j e n ne1 z).1 a hh hm
      · rw [upF_ne ne2]
        exact S.dis j j' e n e' n' z z' ne a hh

/-! ### a list of the slot's own is changed -/
def mutM (m mg : Nat) : Nat := if m = 2 ∧ mg = 2 then 2 else 1
/-- slot i: (d, m) → (d', ..), the value of the kind k put into it -/
def mutE (kl : List Nat) (i : Nat) (k : Kd) (m : Nat) (d' : PyData) (ρ : Env) : Env := (giv kl k ρ).1.set i (some (d', mutM m (giv kl k ρ).2))
theorem giv_keep {i : Nat} {s : PyData × Nat} (h : ρ[i]? = some (some s)) (hn : i ∉ k.src) : (giv kl k ρ).1[i]? = some (some s) := by
  have c : ∀ L : List Nat, i ∉ L → (dem L ρ)[i]? = some (some s) := by
    intro L
    induction L with
    | nil => intro _; exact h
    | cons j L ih =>
      intro hn
      show ((dem L ρ).modify j demS)[i]? = _
      rw [List.getElem?_modify, ih fun z => hn (List.mem_cons_of_mem _ z)]
      have : j ≠ i := fun z => hn (by rw [z]; exact List.mem_cons_self ..)
      simp [this]
  have c2 : ∀ L : List Nat, i ∉ L → (kil L ρ)[i]? = some (some s) := by
    intro L
    induction L with
    | nil => intro _; exact h
    | cons j L ih =>
      intro hn
      show ((wipeE ρ L).set j none)[i]? = _
      have : j ≠ i := fun z => hn (by rw [z]; exact List.mem_cons_self ..)
      rw [List.getElem?_set_ne this]
      exact ih fun z => hn (List.mem_cons_of_mem _ z)
  cases k with
  | bo L => exact c L hn
  | sp L => exact c L hn
  | mv L =>
    show (if L.all kl.contains = true then (kil L ρ, 2) else (dem L ρ, 0)).1[i]? = _
    split
    · exact c2 L hn
    · exact c L hn
theorem mut_ok {H1 : Hp} {i m : Nat} {d d' : PyData} {p : Addr} {F0 G : List Addr} {o : HO} (S : SR K B AF σ H ρ Fs) (g1 : Grow H H1) (ok : KV ρ Fs H v F k) (hi : ρ[i]? = some (some (d, m))) (hm : m = 1 ∨ m = 2) (hn : i ∉ k.src)
    (hp : Fs i = p :: F0) (hσ : σ[i]? = some (some (.ref p))) (r : Rp K (upd H1 p o) (.ref p) d' (p :: G)) (hG : ∀ a ∈ G, a ∈ F0 ∨ a ∈ F) (hN : (F0 ++ F).Nodup → G.Nodup) :
    SR K B AF σ (upd H1 p o) (mutE kl i k m d' ρ) (upF Fs i (p :: G)) ∧ Fr (i :: kl) σ H ρ Fs σ (upd H1 p o) (mutE kl i k m d' ρ) (upF Fs i (p :: G)) := by
  have GO := giv_ok (kl := kl) S ok
  have hi1 := giv_keep (kl := kl) hi hn
  have S1 : SR K B AF σ H1 (giv kl k ρ).1 Fs := (S.grow g1).less GO.len GO.less
  have pm : p ∈ Mf m (Fs i) := by
    rw [hp]
    rcases hm with rfl | rfl
    · exact List.mem_cons_self ..
    · exact List.mem_cons_self ..
  obtain ⟨u, u1, u2, u3, u4⟩ := S.val i d m hi
  have pF0 : p ∉ F0 := by
    rcases hm with rfl | rfl
    · obtain ⟨q, G', _, h2, h3⟩ := u4.2.1 rfl
      rw [hp] at h2
      cases h2
      exact h3
    · have h := u4.2.2 rfl
      rw [hp] at h
      exact (List.nodup_cons.mp h).1
  have pF : p ∉ F := GO.a i d m hi1 p pm
  have pG : p ∉ G := fun z => (hG p z).elim pF0 pF
  have mM : mutM m (giv kl k ρ).2 = 1 ∨ (mutM m (giv kl k ρ).2 = 2 ∧ m = 2 ∧ (giv kl k ρ).2 = 2) := by
    unfold mutM
    split
    · rename_i h
      exact .inr ⟨rfl, h⟩
    · exact .inl rfl
  have F0d : m = 2 → ∀ a ∈ F0, a ∈ Mf 2 (Fs i) := fun _ a ha => by
    show a ∈ Fs i
    rw [hp]
    exact List.mem_cons_of_mem _ ha
  have F0s : ∀ a ∈ F0, a ∈ Fs i := fun a ha => by
    rw [hp]
    exact List.mem_cons_of_mem _ ha
  constructor
  · refine S1.write hi1 hp pm hσ r (fun a ha => ?_) ?_ fun j e n ne q => ⟨fun a ha z => ?_, fun a ha ne' z => ?_⟩
    · rcases hG a ha with ha | ha
      · exact u3 a (F0s a ha)
      · exact GO.d a ha
    · rcases mM with e | ⟨e, rfl, e2⟩
      · rw [e]
        refine ⟨fun a ha => ?_, fun _ => ⟨p, G, rfl, rfl, pG⟩, fun z => nomatch z⟩
        have ha' : a ∈ [p] := ha
        obtain rfl := List.mem_singleton.mp ha'
        exact u4.1 a pm
      · rw [e]
        have nd := u4.2.2 rfl
        rw [hp] at nd
        have GF := GO.c
        rw [e2] at GF
        refine ⟨fun a ha => ?_, fun z => (nomatch z), fun _ => List.nodup_cons.mpr ⟨pG, hN (List.nodup_append.mpr ⟨(List.nodup_cons.mp nd).2, GF.2.2 rfl, fun a ha b hb z => ?_⟩)⟩⟩
        · rcases List.mem_cons.mp (show a ∈ p :: G from ha) with rfl | ha
          · exact u4.1 a pm
          · rcases hG a ha with ha | ha
            · exact u4.1 a (F0d rfl a ha)
            · exact GF.1 a ha
        · subst z
          exact GO.a i d 2 hi1 a (F0d rfl a ha) hb
    · rcases hG a z with z | z
      · exact S1.dis j i e n d m q hi1 ne a ha (F0s a z)
      · exact GO.a j e n q a ha z
    · rcases mM with e' | ⟨e', rfl, e2⟩
      · rw [e'] at ha
        have ha' : a ∈ [p] := ha
        exact ne' (List.mem_singleton.mp ha')
      · rw [e'] at ha
        rcases List.mem_cons.mp (show a ∈ p :: G from ha) with y | y
        · exact ne' y
        · rcases hG a y with y | y
          · exact S1.dis i j d 2 e n hi1 q (Ne.symm ne) a (F0d rfl a y) z
          · exact GO.b j e n q a (by rw [e2]; exact y) z
  · refine ⟨fun a z => ?_, fun a u _ e kk => ?_, fun j hj e n q a ha => ?_, fun j hj => ?_⟩
    · by_cases e : a = p
      · subst e
        rw [upd_same] at z
        cases z
      · rw [upd_ne e] at z
        exact g1.back z
    · have : a ≠ p := fun z => kk i (List.mem_cons_self ..) d m hi (z ▸ pm)
      rw [upd_ne this]
      exact g1.st a u e
    · rcases set_some q with ⟨rfl, z⟩ | ⟨ne, z⟩
      · cases z
        rw [upF_same] at ha
        rcases mM with e' | ⟨e', rfl, e2⟩
        · rw [e'] at ha
          have ha' : a ∈ [p] := ha
          obtain rfl := List.mem_singleton.mp ha'
          exact .inr ⟨j, hj, d, m, hi, pm⟩
        · rw [e'] at ha
          rcases List.mem_cons.mp (show a ∈ p :: G from ha) with rfl | y
          · exact .inr ⟨j, hj, d, 2, hi, pm⟩
          · rcases hG a y with y | y
            · exact .inr ⟨j, hj, d, 2, hi, F0d rfl a y⟩
            · exact (GO.e a (by rw [e2]; exact y)).imp id fun ⟨l, hl, w⟩ => ⟨l, List.mem_cons_of_mem _ hl, w⟩
      · rw [upF_ne ne] at ha
        obtain ⟨n0, q0, q1⟩ := GO.less j e n z
        exact .inr ⟨j, hj, e, n0, q0, Mf_le q1 ha⟩
    · have ne : j ≠ i := fun z => hj (by rw [z]; exact List.mem_cons_self ..)
      refine ⟨rfl, fun e n q => ?_⟩
      rcases set_some q with ⟨z, _⟩ | ⟨_, z⟩
      · exact absurd z ne
      · obtain ⟨n0, q0, q1⟩ := GO.less j e n z
        exact ⟨n0, q0, upF_ne ne, fun a ha => Mf_le q1 ha⟩

/-- slot i, its data and mode, where it has a list of its own -/
def ownL (i : Nat) (k : Kd) (ρ : Env) : Option (List PyData × Nat) := match ρ[i]? with
  | some (some (.list xs, m)) => if (m = 1 ∨ m = 2) ∧ i ∉ k.src then some (xs, m) else none
  | _ => none
theorem ownL_ok {i m : Nat} {xs : List PyData} (S : SR K B AF σ H ρ Fs) (h : ownL i k ρ = some (xs, m)) :
    ρ[i]? = some (some (.list xs, m)) ∧ (m = 1 ∨ m = 2) ∧ i ∉ k.src ∧ ∃ p F0 vs, σ[i]? = some (some (.ref p)) ∧ Fs i = p :: F0 ∧ H p = some (.lst vs) ∧ RpL K H vs xs F0 := by
  unfold ownL at h
  split at h
  · rename_i ys n e
    split at h
    · rename_i hc
      cases h
      obtain ⟨v, h1, h2, _⟩ := S.val i _ _ e
      refine ⟨e, hc.1, hc.2, ?_⟩
      generalize hF : Fs i = F' at h2
      cases h2 with
      | lst ha r => exact ⟨_, _, _, h1, rfl, ha, r⟩
    · cases h
  · cases h
def sMutL (kl : List Nat) (i : Nat) (f : EF) (h : List PyData → PyData → Option (List PyData)) : SF := fun ρ => (f ρ).bind fun p => (ownL i p.2 ρ).bind fun q => (h q.1 p.1).map fun ds => .nx (mutE kl i p.2 q.2 (.list ds) ρ)
/-- xs.append(e) -/
def hApp (xs : List PyData) (d : PyData) : Option (List PyData) := if xs.length < 1000000 then some (xs ++ [d]) else none
theorem vs_append (kl : List Nat) (i : Nat) {te : TE} {f : EF} (h : VE K te f) : VS K Wx (i :: kl) (tDrop (tBM K "list" rAppend (tVar i) (tCons te tNil))) (sMutL kl i f hApp) := by
  intro B AF σ H ρ Fs o S e D p
  obtain ⟨⟨d, k⟩, e1, e2⟩ := Option.bind_eq_some_iff.mp e
  obtain ⟨⟨xs, m⟩, e3, e4⟩ := Option.bind_eq_some_iff.mp e2
  obtain ⟨ds, e5, e6⟩ := Option.map_eq_some_iff.mp e4
  subst e6
  unfold hApp at e5
  split at e5
  case isFalse => cases e5
  rename_i hz
  cases e5
  obtain ⟨hi, hm, hn, a, F0, vs, h1, h2, h3, h4⟩ := ownL_ok S e3
  refine ⟨_, h1, Or.inl ⟨rfl, _, Or.inl (Or.inl h3)⟩, ?_⟩
  refine h B AF σ H ρ Fs d k S e1 _ fun v H1 F g1 r1 o1 => ?_
  refine ⟨a, vs, v, rfl, rfl, g1 _ _ h3, lt_line (by rw [h4.length]; exact hz), ?_⟩
  have aF0 : a ∉ F0 ++ F := by
    intro z
    have GO := giv_ok (kl := kl) S o1
    have hi1 := giv_keep (kl := kl) hi hn
    obtain ⟨u, u1, u2, u3, u4⟩ := S.val i _ m hi
    rcases List.mem_append.mp z with z | z
    · rcases hm with rfl | rfl
      · obtain ⟨q, G', _, w2, w3⟩ := u4.2.1 rfl
        rw [h2] at w2
        cases w2
        exact w3 z
      · have w := u4.2.2 rfl
        rw [h2] at w
        exact (List.nodup_cons.mp w).1 z
    · refine GO.a i _ m hi1 a ?_ z
      rw [h2]
      rcases hm with rfl | rfl <;> exact List.mem_cons_self ..
  have mb : Mb (H1 a) = true := by rw [g1 _ _ h3]; rfl
  obtain ⟨x1, x2⟩ := mut_ok (kl := kl) (H1 := H1) (o := .lst (vs ++ [v])) (d' := .list (xs ++ [d])) (G := F0 ++ F) S g1 o1 hi hm hn h2 h1 (.lst upd_same (((h4.grow g1).snoc r1).kp (.upd mb aF0))) (fun b hb => List.mem_append.mp hb) fun z => z
  exact p _ _ _ x1 x2

/-- xs[j] = e -/
def sIdx (kl : List Nat) (i : Nat) (f g : EF) : SF := fun ρ => (f ρ).bind fun p => (g ρ).bind fun r => match r.1 with
  | .int j => (ownL i p.2 ρ).bind fun q => (ixN q.1.length j).map fun n => .nx (mutE kl i p.2 q.2 (.list (q.1.set n p.1)) ρ)
  | _ => none
theorem RpL.set {K : PySem.W.Frag} {H : Hp} : ∀ {vs : List V} {ds : List PyData} {F0 F : List Addr} {v : V} {d : PyData} (n : Nat), RpL K H vs ds F0 → Rp K H v d F → n < ds.length →
    ∃ A G B, F0 = A ++ (G ++ B) ∧ RpL K H (vs.set n v) (ds.set n d) (A ++ (F ++ B))
  | _, _, _, _, _, _, 0, .cons (F := F) (G := G) e r, h, _ => ⟨[], F, G, rfl, by rw [List.nil_append]; exact .cons h r⟩
  | _, _, _, _, _, _, n + 1, .cons (F := F) (G := G) e r, h, hn => by
    obtain ⟨A, G', B, h1, h2⟩ := RpL.set n r h (Nat.lt_of_succ_lt_succ hn)
    exact ⟨F ++ A, G', B, by rw [h1, List.append_assoc], by rw [List.append_assoc]; exact .cons e h2⟩
theorem own_notin {i m : Nat} {d : PyData} {a : Addr} {F0 : List Addr} (S : SR K B AF σ H ρ Fs) (o1 : KV ρ Fs H v F k) (hi : ρ[i]? = some (some (d, m))) (hm : m = 1 ∨ m = 2) (hn : i ∉ k.src) (h2 : Fs i = a :: F0) : a ∉ F0 ++ F := by
  intro z
  have GO := giv_ok (kl := []) S o1
  have hi1 := giv_keep (kl := []) hi hn
  obtain ⟨u, u1, u2, u3, u4⟩ := S.val i _ m hi
  rcases List.mem_append.mp z with z | z
  · rcases hm with rfl | rfl
    · obtain ⟨q, G', _, w2, w3⟩ := u4.2.1 rfl
      rw [h2] at w2
      cases w2
      exact w3 z
    · have w := u4.2.2 rfl
      rw [h2] at w
      exact (List.nodup_cons.mp w).1 z
  · refine GO.a i _ m hi1 a ?_ z
    rw [h2]
    rcases hm with rfl | rfl <;> exact List.mem_cons_self ..
theorem vs_idx (kl : List Nat) (i : Nat) {te ti : TE} {f g : EF} (h : VE K te f) (hg : VE K ti g) : VS K Wx (i :: kl) (tAsg te (gSub (tVar i) ti rSetL)) (sIdx kl i f g) := by
  intro B AF σ H ρ Fs o S e D p
  obtain ⟨⟨d, k⟩, e1, e2⟩ := Option.bind_eq_some_iff.mp e
  obtain ⟨⟨dj, kj⟩, e3, e4⟩ := Option.bind_eq_some_iff.mp e2
  simp only at e4
  split at e4
  case h_2 => cases e4
  rename_i j
  obtain ⟨⟨xs, m⟩, e5, e6⟩ := Option.bind_eq_some_iff.mp e4
  obtain ⟨n, e7, e8⟩ := Option.map_eq_some_iff.mp e6
  subst e8
  obtain ⟨hi, hm, hn, a, F0, vs, h1, h2, h3, h4⟩ := ownL_ok S e5
  refine h B AF σ H ρ Fs d k S e1 _ fun v H1 F g1 r1 o1 => ?_
  refine ⟨_, h1, hg B AF σ H1 ρ Fs (.int j) kj (S.grow g1) e3 _ fun w H2 F2 g2 r2 o2 => ?_⟩
  cases r2
  have g12 := g1.trans g2
  have lt : n < xs.length := by
    unfold ixN at e7
    simp only at e7
    split at e7
    · split at e7
      · cases e7; omega
      · cases e7
    · split at e7
      · cases e7; omega
      · cases e7
  refine ⟨a, vs, j, n, rfl, rfl, g12 _ _ h3, by rw [h4.length]; exact e7, ?_⟩
  have mb : Mb (H2 a) = true := by rw [g12 _ _ h3]; rfl
  have nin := own_notin S o1 hi hm hn h2
  obtain ⟨A, G, B', hF, hr⟩ := RpL.set n (h4.grow g12) (r1.grow g2) lt
  have aG : a ∉ A ++ (F ++ B') := fun z => nin (by
    rw [hF]
    simp only [List.mem_append] at z ⊢
    rcases z with z | z | z
    · exact .inl (.inl z)
    · exact .inr z
    · exact .inl (.inr (.inr z)))
  obtain ⟨x1, x2⟩ := mut_ok (kl := kl) (H1 := H2) (o := .lst (vs.set n v)) (d' := .list (xs.set n d)) (G := A ++ (F ++ B')) S g12 o1 hi hm hn h2 h1 (.lst upd_same (hr.kp (.upd mb aG))) (fun b hb => by
    rw [hF]
    simp only [List.mem_append] at hb ⊢
    rcases hb with z | z | z
    · exact .inl (.inl z)
    · exact .inr z
    · exact .inl (.inr (.inr z))) fun z => by
      rw [hF] at z
      have s : List.Sublist (A ++ B') (A ++ (G ++ B')) := List.Sublist.append (List.Sublist.refl A) (List.sublist_append_right G B')
      have z2 : ((A ++ B') ++ F).Nodup := z.sublist (s.append (List.Sublist.refl F))
      have pm : List.Perm ((A ++ B') ++ F) (A ++ (F ++ B')) := by
        rw [List.append_assoc]
        exact List.Perm.append_left A List.perm_append_comm
      exact pm.nodup_iff.mp z2
  exact p _ _ _ x1 x2
/-- xs.extend(e), e a new list -/
def sExt (kl : List Nat) (i : Nat) (f : EF) : SF := fun ρ => (f ρ).bind fun p => match p.1 with
  | .list ds => (ownL i p.2 ρ).bind fun q => if q.1.length + ds.length < 1000000 then some (.nx (mutE kl i p.2 q.2 (.list (q.1 ++ ds)) ρ)) else none
  | _ => none
theorem vs_extend (kl : List Nat) (i : Nat) {te : TE} {f : EF} (h : VE K te f) : VS K Wx (i :: kl) (tDrop (tBM K "list" rExtend (tVar i) (tCons te tNil))) (sExt kl i f) := by
  intro B AF σ H ρ Fs o S e D p
  obtain ⟨⟨d, k⟩, e1, e2⟩ := Option.bind_eq_some_iff.mp e
  simp only at e2
  split at e2
  case h_2 => cases e2
  rename_i ds
  obtain ⟨⟨xs, m⟩, e3, e4⟩ := Option.bind_eq_some_iff.mp e2
  split at e4
  case isFalse => cases e4
  rename_i hz
  cases e4
  obtain ⟨hi, hm, hn, a, F0, vs, h1, h2, h3, h4⟩ := ownL_ok S e3
  refine ⟨_, h1, Or.inl ⟨rfl, _, Or.inl (Or.inl h3)⟩, ?_⟩
  refine h B AF σ H ρ Fs _ k S e1 _ fun v H1 F g1 r1 o1 => ?_
  have nin := own_notin S o1 hi hm hn h2
  cases r1 with
  | lst hb rb =>
    rename_i b us F'
    refine ⟨a, b, vs, us, rfl, rfl, g1 _ _ h3, hb, by rw [h4.length, rb.length]; exact Nat.le_of_lt (lt_line hz), ?_⟩
    have aG : a ∉ F0 ++ F' := fun z => nin ((List.mem_append.mp z).elim (fun z => List.mem_append_left _ z) fun z => List.mem_append_right _ (List.mem_cons_of_mem _ z))
    have mb : Mb (H1 a) = true := by rw [g1 _ _ h3]; rfl
    obtain ⟨x1, x2⟩ := mut_ok (kl := kl) (H1 := H1) (o := .lst (vs ++ us)) (d' := .list (xs ++ ds)) (G := F0 ++ F') S g1 o1 hi hm hn h2 h1 (.lst upd_same ((RpL.app (h4.grow g1) rb).kp (.upd mb aG)))
      (fun c hc => (List.mem_append.mp hc).elim .inl fun z => .inr (List.mem_cons_of_mem _ z)) fun z => z.sublist ((List.Sublist.refl F0).append (List.sublist_cons_self ..))
    exact p _ _ _ x1 x2
/-- name op= e, of ints -/
def sAug (i : Nat) (f : EF) (h : Int → Int → Int) : SF := fun ρ => match ρ[i]? with
  | some (some (.int a, _)) => (f ρ).bind fun p => match p.1 with
    | .int b => some (.nx (ρ.set i (some (.int (h a b), 2))))
    | _ => none
  | _ => none
theorem vs_aug (i : Nat) {te : TE} {f : EF} {fn : Int → Int → Int} (h : VE K te f) : VS K Wx [i] (tAug i te (ipI fn)) (sAug i f fn) := by
  intro B AF σ H ρ Fs o S e D p
  unfold sAug at e
  split at e
  case h_2 => cases e
  rename_i x n e0
  obtain ⟨⟨d, k⟩, e1, e2⟩ := Option.bind_eq_some_iff.mp e
  simp only at e2
  split at e2
  case h_2 => cases e2
  rename_i b
  cases e2
  obtain ⟨u, h1, h2, _⟩ := S.val i _ n e0
  have hu : u = .int x := by
    generalize Fs i = F' at h2
    cases h2; rfl
  subst hu
  refine ⟨_, h1, h B AF σ H ρ Fs _ k S e1 _ fun v H1 F g1 r1 o1 => ?_⟩
  cases r1
  refine ⟨x, b, rfl, rfl, p _ _ (upF Fs i []) ((S.grow g1).set (List.getElem?_eq_some_iff.mp e0).1 (.int _) (fun a z => nomatch z) (own02 (K := K) (H := H1) (d := .int (fn x b)) (.int _)).1 fun j e n ne q => ⟨fun a _ z => (nomatch z), fun a z => (nomatch z)⟩) ?_⟩
  refine ⟨fun a z => g1.back z, fun a o _ z _ => g1.st a o z, fun j hj d' m' q a ha => ?_, fun j hj => ?_⟩
  · obtain rfl := List.mem_singleton.mp hj
    rcases set_some q with ⟨_, z⟩ | ⟨ne, _⟩
    · cases z
      rw [upF_same] at ha
      exact nomatch ha
    · exact absurd rfl ne
  · have ne : j ≠ i := fun z => hj (List.mem_singleton.mpr z)
    refine ⟨List.getElem?_set_ne (Ne.symm ne), fun d' m' q => ?_⟩
    rcases set_some q with ⟨z, _⟩ | ⟨_, z⟩
    · exact absurd z ne
    · exact ⟨m', z, upF_ne ne, fun a ha => ha⟩
end
end Va

/-! Va8: loops. -/
namespace Va
open PySem L2

def loopF (st : SG) (fb : SF) (fg : List Nat) : List PyData → SF
  | [], ρ => some (.nx (kil fg ρ))
  | d :: ds, ρ => (st d (kil fg ρ)).bind fun ρ1 => (fb ρ1).bind fun o => match o with
    | .nx ρ2 => loopF st fb fg ds ρ2
    | .ct ρ2 => loopF st fb fg ds ρ2
    | .bk ρ2 => some (.nx (kil fg ρ2))
    | .rt d r => some (.rt d r)
    | .ex c fs => some (.ex c fs)
/-- for target in walked: body; fg: the slots that are told no more between the turns -/
def sFor (fi : IF) (ns : List Nat) (st : SG) (wb : List Nat) (fb : SF) (fg : List Nat) : SF := fun ρ => (fi ρ).bind fun p =>
  loopF st fb fg p.1 (if flatL p.1 = true ∧ apart p.2.src (ns ++ wb) = true then ρ else dem p.2.src ρ)

section
variable {K : PySem.W.Frag} {Wx : WxT} {wi : TI} {g : TG} {tb : TS} {fi : IF} {st : SG} {fb : SF} {ns wb fg : List Nat}
theorem kil_less {ρ : Env} {L : List Nat} : ∀ (i : Nat) (d : PyData) (m : Nat), (kil L ρ)[i]? = some (some (d, m)) → ∃ m0, ρ[i]? = some (some (d, m0)) ∧ (m = m0 ∨ m = 0) := fun i d m h => ⟨m, wipeE_get h, .inl rfl⟩
theorem SR.kil {B : Hp} {AF : List Addr} {σ : L2.St} {H : Hp} {ρ : Env} {Fs : Nat → List Addr} (S : SR K B AF σ H ρ Fs) (L : List Nat) : SR K B AF σ H (Va.kil L ρ) Fs := S.less (wipeE_len _) kil_less
/-- the slots ws alone may not write C -/
def Prot (ws : List Nat) (C : List Addr) (ρ : Env) (Fs : Nat → List Addr) : Prop := ∀ j ∈ ws, ∀ (d : PyData) (m : Nat), ρ[j]? = some (some (d, m)) → ∀ a ∈ Mf m (Fs j), a ∉ C
theorem Prot.less {ws : List Nat} {C : List Addr} {ρ ρ' : Env} {Fs : Nat → List Addr} (h : Prot ws C ρ Fs) (l : ∀ (i : Nat) (d : PyData) (m : Nat), ρ'[i]? = some (some (d, m)) → ∃ m0, ρ[i]? = some (some (d, m0)) ∧ (m = m0 ∨ m = 0)) : Prot ws C ρ' Fs := fun j hj d m q a ha => by
  obtain ⟨m0, q0, q1⟩ := l j d m q
  exact h j hj d m0 q0 a (Mf_le q1 ha)
theorem vs_for (hi : VI K wi fi) (hg : VG K ns g st) (hb : VS K Wx wb tb fb) : VS K Wx (ns ++ wb) (tFor wi g tb) (sFor fi ns st wb fb fg) := by
  intro B AF σ H ρ Fs o S e D p
  obtain ⟨⟨ds, kc⟩, e1, e2⟩ := Option.bind_eq_some_iff.mp e
  simp only at e2
  generalize hρ : (if flatL ds = true ∧ apart kc.src (ns ++ wb) = true then ρ else dem kc.src ρ) = ρ0 at e2
  let ws := ns ++ wb
  refine hi B AF σ H ρ Fs ds kc S e1 _ fun J H1 C g1 ok hC => ?_
  have less0 : ∀ (i : Nat) (d : PyData) (m : Nat), ρ0[i]? = some (some (d, m)) → ∃ m0, ρ[i]? = some (some (d, m0)) ∧ (m = m0 ∨ m = 0) := by
    intro i d m q
    rw [← hρ] at q
    split at q
    · exact ⟨m, q, .inl rfl⟩
    · obtain ⟨m0, q0, q1, _⟩ := dem_get q
      exact ⟨m0, q0, q1⟩
  have len0 : ρ0.length = ρ.length := by
    rw [← hρ]
    split
    · rfl
    · exact dem_len _
  have S0 : SR K B AF σ H1 ρ0 Fs := (S.grow g1).less len0 less0
  -- what may be written is not what is walked
  have cell : ∀ (j : Nat) (d : PyData) (m : Nat), ρ0[j]? = some (some (d, m)) → ∀ a ∈ Mf m (Fs j), a ∈ C → (flatL ds = true ∧ apart kc.src ws = true ∧ j ∈ kc.src) := by
    intro j d m q a ha hc
    obtain ⟨m0, q0, q1⟩ := less0 j d m q
    rcases hC a hc with z | ⟨l, hl, ⟨d', m', z⟩, ma⟩
    · exact absurd z (S.there q0 (Mf_sub ha))
    · by_cases e : j = l
      · subst e
        rw [← hρ] at q
        split at q
        · rename_i h
          exact ⟨h.1, h.2, hl⟩
        · obtain ⟨_, _, _, q2⟩ := dem_get q
          rw [q2 hl, Mf0] at ha
          cases ha
      · exact absurd ma (S.dis j l d m0 d' m' q0 z e a (Mf_le q1 ha))
  have prot0 : Prot ws C ρ0 Fs := fun j hj d m q a ha hc => by
    obtain ⟨_, h2, h3⟩ := cell j d m q a ha hc
    have := List.all_eq_true.mp h2 j h3
    rw [List.contains_iff_mem.mpr hj] at this
    cases this
  let W : Nat → L2.St → Hp → Prop := fun i σ' H' => ∃ ρi Fsi, SR K B AF σ' H' ρi Fsi ∧ loopF st fb fg (ds.drop i) ρi = some o ∧ Fr ws σ H1 ρ0 Fs σ' H' ρi Fsi ∧ Kp C H1 H' ∧ Prot ws C ρi Fsi
  have frm : ∀ {σ' H' ρi Fsi}, Fr ws σ H1 ρ0 Fs σ' H' ρi Fsi → Fr ws σ H ρ Fs σ' H' ρi Fsi := fun h => h.from_ g1 less0
  refine ⟨fun i m σ' H' => m = ds.length - i ∧ i ≤ ds.length ∧ W i σ' H', ⟨ds.length, by simp, Nat.zero_le _, ρ0, Fs, S0, e2, Fr.grow (.refl H1), fun a o h _ => h, prot0⟩, ?_⟩
  rintro i m σ1 H2 ⟨rfl, hil, ρi, Fsi, Si, el, Fi, kp, pr⟩
  by_cases hlt : i < ds.length
  · obtain ⟨dd, hdd⟩ : ∃ dd, ds[i]? = some dd := ⟨ds[i], List.getElem?_eq_getElem hlt⟩
    obtain ⟨go, yl⟩ := ok.go H2 kp i dd hdd
    have edrop : ds.drop i = dd :: ds.drop (i + 1) := by
      rw [List.drop_eq_getElem_cons hlt]
      rw [List.getElem?_eq_getElem hlt] at hdd
      rw [Option.some.inj hdd]
    rw [edrop] at el
    obtain ⟨ρ1, a1, el⟩ := Option.bind_eq_some_iff.mp el
    obtain ⟨ob, a2, el⟩ := Option.bind_eq_some_iff.mp el
    refine .inr ⟨go, W (i + 1), fun σ' H' w => ⟨ds.length - (i + 1), by omega, rfl, by omega, w⟩, fun x H3 hy => ?_⟩
    obtain ⟨g3, G, rx, hG⟩ := yl x H3 hy
    have Sk : SR K B AF σ1 H3 (kil fg ρi) Fsi := (Si.grow g3).kil fg
    have prk : Prot ws C (kil fg ρi) Fsi := pr.less kil_less
    have Fk : Fr ws σ H1 ρ0 Fs σ1 H3 (kil fg ρi) Fsi := ((Fi.trans (Fr.grow (wr := ws) g3)).trans (Fr.less (wr := ws) kil_less)).mono fun j hj => by simpa using hj
    have kp3 : Kp C H1 H3 := fun a o e q => have : Nt o := q.elim Nt.mb (·.2); g3.st a o (kp a o e q)
    have hGB : ∀ a ∈ G, B a = none ∨ a ∈ AF := fun a ha => by
      rcases hC a (hG a ha) with z | ⟨l, _, ⟨d', m', z⟩, ma⟩
      · exact .inl (S.same.back z)
      · obtain ⟨_, _, _, h3, _⟩ := S.val l d' m' z
        exact h3 a ma
    have frG : Free (kil fg ρi) Fsi G := fun j d m q a ha hg => by
      by_cases hj : j ∈ ws
      · exact prk j hj d m q a ha (hG a hg)
      · obtain ⟨_, h2⟩ := Fk.oth j hj
        obtain ⟨m0, h3, h4, h5⟩ := h2 d m q
        rw [h4] at ha
        obtain ⟨hf, _, _⟩ := cell j d m0 h3 a (h5 a ha) (hG a hg)
        have hfd : flat dd = true := by
          have : ∀ (l : List PyData) (n : Nat), flatL l = true → l[n]? = some dd → flat dd = true := by
            intro l
            induction l with
            | nil => intro n _ h; simp at h
            | cons x xs ih =>
              intro n hx h
              simp only [flatL, Bool.and_eq_true] at hx
              cases n with
              | zero => cases h; exact hx.1
              | succ n => exact ih n hx.2 h
          exact this ds i hf hdd
        rw [rx.flat hfd] at hg
        cases hg
    refine hg B AF σ1 H3 (kil fg ρi) ρ1 Fsi x dd G Sk rx hGB frG a1 _ fun σ2 Fs2 S2 T2 => ?_
    have pr2 : Prot ws C ρ1 Fs2 := fun j hj d m q a ha hc => by
      by_cases hn : j ∈ ns
      · rw [(T2.ins j hn d m q).1] at ha; cases ha
      · obtain ⟨_, h2, h3⟩ := T2.out j hn
        rw [h2] at q
        rw [h3] at ha
        exact prk j hj d m q a ha hc
    have FT : Fr ns σ1 H3 (kil fg ρi) Fsi σ2 H3 ρ1 Fs2 := by
      refine ⟨fun a h => h, fun a o _ h _ => h, fun j hj d m q a ha => ?_, fun j hj => ?_⟩
      · rw [(T2.ins j hj d m q).1] at ha
        cases ha
      · obtain ⟨h1, h2, h3⟩ := T2.out j hj
        exact ⟨h1, fun d m q => ⟨m, by rw [← h2]; exact q, h3, fun a ha => ha⟩⟩
    have F2 : Fr ws σ H1 ρ0 Fs σ2 H3 ρ1 Fs2 := (Fk.trans FT).mono fun j hj => by
      rcases List.mem_append.mp hj with h | h
      · exact h
      · exact List.mem_append_left _ h
    have fin : ∀ {σ' H' ρ' Fs'}, Fr wb σ2 H3 ρ1 Fs2 σ' H' ρ' Fs' → Fr ws σ H1 ρ0 Fs σ' H' ρ' Fs' := fun h => (F2.trans h).mono fun j hj => by
      rcases List.mem_append.mp hj with h | h
      · exact h
      · exact List.mem_append_right _ h
    have kpf : ∀ {σ' H' ρ' Fs'}, Fr wb σ2 H3 ρ1 Fs2 σ' H' ρ' Fs' → Kp C H1 H' := fun {σ' H' ρ' Fs'} h a o e q => by
      have e3 := kp3 a o e q
      have : Nt o := q.elim Nt.mb (·.2)
      refine h.keep a o e3 fun j hj d m qq ha => ?_
      rcases q with q | q
      · obtain ⟨_, _, r, _⟩ := S2.val j d m qq
        have := r.mb a (Mf_sub ha)
        rw [e3, q] at this
        cases this
      · exact pr2 j (List.mem_append_right _ hj) d m qq a ha q.1
    have prf : ∀ {σ' H' ρ' Fs'}, Fr wb σ2 H3 ρ1 Fs2 σ' H' ρ' Fs' → Prot ws C ρ' Fs' := fun {σ' H' ρ' Fs'} h j hj d m q a ha hc => by
      have hm : H3 a ≠ none := fun z => by
        have := ok.mb a hc
        rw [Fk.dom a z] at this
        cases this
      by_cases hw : j ∈ wb
      · rcases h.own j hw d m q a ha with z | ⟨l, hl, d', m', z, ma⟩
        · exact hm z
        · exact pr2 l (List.mem_append_right _ hl) d' m' z a ma hc
      · obtain ⟨_, h2⟩ := h.oth j hw
        obtain ⟨m0, h3, h4, h5⟩ := h2 d m q
        rw [h4] at ha
        exact pr2 j hj d m0 h3 a (h5 a ha) hc
    refine hb B AF σ2 H3 ρ1 Fs2 ob S2 a2 _ ?_
    cases ob with
    | nx ρ2 => exact fun σ' H' Fs' S' F' => ⟨ρ2, Fs', S', el, fin F', kpf F', prf F'⟩
    | ct ρ2 => exact fun σ' H' Fs' S' F' => ⟨ρ2, Fs', S', el, fin F', kpf F', prf F'⟩
    | bk ρ2 =>
      cases el
      exact fun σ' H' Fs' S' F' => p σ' H' Fs' (S'.kil fg) (frm (((fin F').trans (Fr.less (wr := ws) kil_less)).mono fun j hj => by simpa using hj))
    | rt d r =>
      cases el
      exact p
    | ex c fs =>
      cases el
      exact p
  · have e3 : i = ds.length := by omega
    subst e3
    rw [List.drop_length] at el
    cases el
    exact .inl ⟨ok.stop H2 kp _ (Nat.le_refl _), p σ1 H2 Fsi (Si.kil fg) (frm ((Fi.trans (Fr.less (wr := ws) kil_less)).mono fun j hj => by simpa using hj))⟩

/-- while: n turns at most -/
def sWhile (c : Env → Option Bool) (fb : SF) (fg : List Nat) : Nat → SF
  | 0, _ => none
  | n + 1, ρ => (c (kil fg ρ)).bind fun b => if b = true then (fb (kil fg ρ)).bind fun o => match o with
      | .nx ρ2 => sWhile c fb fg n ρ2
      | .ct ρ2 => sWhile c fb fg n ρ2
      | .bk ρ2 => some (.nx (kil fg ρ2))
      | .rt d r => some (.rt d r)
      | .ex c fs => some (.ex c fs)
    else some (.nx (kil fg ρ))
theorem vs_while {tc : TT} {fc : Env → Option Bool} (hc : VT K tc fc) (hb : VS K Wx wb tb fb) (n : Nat) : VS K Wx wb (tWhile tc tb) (sWhile fc fb fg n) := by
  intro B AF σ H ρ Fs o S e D p
  refine ⟨fun m σ' H' => ∃ ρi Fsi, SR K B AF σ' H' ρi Fsi ∧ sWhile fc fb fg m ρi = some o ∧ Fr wb σ H ρ Fs σ' H' ρi Fsi, ⟨n, ρ, Fs, S, e, Fr.grow (.refl H)⟩, ?_⟩
  rintro m σ1 H1 ⟨ρi, Fsi, Si, el, Fi⟩
  cases m with
  | zero => cases el
  | succ m =>
    obtain ⟨b, e1, e2⟩ := Option.bind_eq_some_iff.mp el
    have Sk := Si.kil fg
    have tk : Fr wb σ1 H1 ρi Fsi σ1 H1 (kil fg ρi) Fsi := Fr.less kil_less
    have Fk : Fr wb σ H ρ Fs σ1 H1 (kil fg ρi) Fsi := (Fi.trans tk).mono fun j hj => by simpa using hj
    refine hc B AF σ1 H1 (kil fg ρi) Fsi b Sk e1 _ fun H2 g2 => ?_
    have F2 : Fr wb σ H ρ Fs σ1 H2 (kil fg ρi) Fsi := (Fk.trans (Fr.grow (wr := wb) g2)).mono fun j hj => by simpa using hj
    cases b with
    | false =>
      rw [if_neg Bool.false_ne_true] at e2 ⊢
      cases e2
      exact p σ1 H2 Fsi (Sk.grow g2) F2
    | true =>
      rw [if_pos rfl] at e2 ⊢
      obtain ⟨ob, a2, el⟩ := Option.bind_eq_some_iff.mp e2
      have fin : ∀ {σ' H' ρ' Fs'}, Fr wb σ1 H2 (kil fg ρi) Fsi σ' H' ρ' Fs' → Fr wb σ H ρ Fs σ' H' ρ' Fs' := fun h => (F2.trans h).mono fun j hj => by simpa using hj
      refine ⟨fun σ' H' => ∃ ρi Fsi, SR K B AF σ' H' ρi Fsi ∧ sWhile fc fb fg m ρi = some o ∧ Fr wb σ H ρ Fs σ' H' ρi Fsi, fun σ' H' w => ⟨m, Nat.lt_succ_self _, w⟩, ?_⟩
      refine hb B AF σ1 H2 (kil fg ρi) Fsi ob (Sk.grow g2) a2 _ ?_
      cases ob with
      | nx ρ2 => exact fun σ' H' Fs' S' F' => ⟨ρ2, Fs', S', el, fin F'⟩
      | ct ρ2 => exact fun σ' H' Fs' S' F' => ⟨ρ2, Fs', S', el, fin F'⟩
      | bk ρ2 =>
        cases el
        exact fun σ' H' Fs' S' F' => p σ' H' Fs' (S'.kil fg) (((fin F').trans (Fr.less (wr := wb) kil_less)).mono fun j hj => by simpa using hj)
      | rt d r =>
        cases el
        exact p
      | ex c fs =>
        cases el
        exact p
end
end Va

/-! Ve1: enumerate of a tuple. -/
namespace EnT
open PySem PyProof.Rows L2
open Sem (wp)
theorem meets_enum_newT (l : Addr) (items : Array Value) (n : Nat) (dct : Option Addr) (sl : Array (Option Value)) :
    Meets (Builtin.«enumerate.__new__» ⟨[.type "enumerate", .ref l], []⟩) (fun _ R s => s.heap.get? l = some ⟨.type "tuple", dct, .seq items n, sl⟩ ∧
      R (.ok (.ret (.ref (s.heap.push { cls := .type "tuple_iterator", data := .fields #[.ref l, .int 0 0] }).objs.size)))
        { s with heap := (s.heap.push { cls := .type "tuple_iterator", data := .fields #[.ref l, .int 0 0] }).push { cls := .type "enumerate", data := .fields #[.none, .bool false, .ref s.heap.objs.size, rawInt 0, .none, .none] } }) :=
  .of_wp fun prog w A R s h => by
    obtain ⟨hp, g, d, tk, os⟩ := s
    obtain ⟨hl, h⟩ := h
    have hsub := sub_enumerate
    have hL : Heap.IsTuple (Shared.heap ⟨hp, g, d, tk, os⟩) l items := ⟨_, hl, rfl, n, rfl⟩
    wp_walk using wpAny_loadPart' hl
    refine wpAny_stack_any fun st => wpAny_pure ?_
    split
    · rename_i c _ _ _ _ _
      cases (c == Value.type "enumerate")
      · wp_walk using wpAny_loadPart' hl, wpAny_pyIter_tuple hL
        exact ⟨_, rfl, h⟩
      · wp_walk using wpAny_loadPart' hl, wpAny_pyIter_tuple hL
        exact ⟨_, rfl, h⟩
    · wp_walk using wpAny_loadPart' hl, wpAny_pyIter_tuple hL
      exact ⟨_, rfl, h⟩
section
variable {prog : Program} {w : World} {A : Around} {E : Value → Shared → Prop} {s : Shared}
theorem call_enum_tup {l : Addr} {items : Array Value} {Q : Value → Shared → Prop} (hL : s.heap.IsTuple l items)
    (h : ∀ h', IsEnum h' (s.heap.objs.size + 1) s.heap.objs.size 0 .none → h'.IsTupleIter s.heap.objs.size l 0 → h'.objs.size = s.heap.objs.size + 2 →
      (∀ b o, s.heap.get? b = some o → h'.get? b = some o) → Q (.ref (s.heap.objs.size + 1)) { s with heap := h' }) :
    wpAny (model prog w) A (call (.type "enumerate") [.ref l]) Q E s := by
  obtain ⟨⟨c, dct, dt, sl⟩, hl, hc, n, hd⟩ := hL
  replace hc : c = .type "tuple" := hc
  replace hd : dt = .seq items n := hd
  subst hc hd
  refine callType_new F.called_enumerate (by decide) (F.typeCall_enumerate_1 _) (F.newCall_enumerate_1 _) (fun obj => F.args_object_init_2 obj _) F.entry_enumerate_new
    (meets_enum_newT l items n dct sl) ⟨hl, ?_⟩
  have hz : (s.heap.push { cls := .type "tuple_iterator", data := .fields #[.ref l, .int 0 0] }).objs.size = s.heap.objs.size + 1 := Heap.size_push ..
  show _ ∧ _
  rw [hz]
  have he : IsEnum ((s.heap.push { cls := .type "tuple_iterator", data := .fields #[.ref l, .int 0 0] }).push
      { cls := .type "enumerate", data := .fields #[.none, .bool false, .ref s.heap.objs.size, rawInt 0, .none, .none] }) (s.heap.objs.size + 1) s.heap.objs.size 0 .none := by
    have := Heap.get?_push_size (s.heap.push { cls := .type "tuple_iterator", data := .fields #[.ref l, .int 0 0] })
      (o := { cls := .type "enumerate", data := .fields #[.none, .bool false, .ref s.heap.objs.size, rawInt 0, .none, .none] }) rfl
    rw [hz] at this; exact this
  refine ⟨⟨_, he, rfl⟩, h _ he ⟨_, Heap.get?_push_of_some _ (Heap.get?_push_size _ rfl), rfl, rfl⟩ (by rw [Heap.size_push, hz]) fun b o x => Heap.get?_push_of_some _ (Heap.get?_push_of_some _ x)⟩
end
/-- the tuple at a, each item in a new pair -/
def ItET (K : PySem.W.Frag) (a : Addr) : It :=
  ⟨fun i H => ∃ (xs : List V) (x : V), SqT K H a xs ∧ xs[i]? = some x, fun i H v H' => ∃ T x, v = .ref T ∧ H T = none ∧ H' = upd H T (.tup [.int (i : Nat), x]) ∧ ∀ xs, SqT K H a xs → xs[i]? = some x, fun i H => ∃ xs : List V, SqT K H a xs ∧ xs.length ≤ i⟩
theorem turn_enumT {P : Program} {w : World} {K : PySem.W.Frag} {elts : List Expr} {kk : Nat} {tpos : Pos} (a e it : Addr) (hae : a ≠ it) (hea : e ≠ a) :
    Turn P w K (.Tuple elts kk tpos) (ItET K a) [e, it] e (fun i h => (∃ old, IsEnum h e it ((i : Nat) : Int) old) ∧ h.IsTupleIter it a i ∧ e ≠ it) where
  mem := by simp
  obj := fun i h st b hb => by
    obtain ⟨⟨old, he⟩, ⟨o, ho, hc, hd⟩, _⟩ := st
    have e' : b = e ∨ b = it := by simpa using hb
    rcases e' with z | z
    · rw [z]; exact ⟨_, he, fun v q => nomatch q⟩
    · rw [z]; exact ⟨o, ho, fun v q => by rw [hd] at q; cases q⟩
  keep := fun i h h' st k => let ⟨⟨old, he⟩, hi, hne⟩ := st; ⟨⟨old, k e (by simp) _ he⟩, hi.at fun o q => k it (by simp) o q, hne⟩
  item := by
    intro X hP hw hK hc i pins s σ H E I hf st hg
    subst hP hw hK
    obtain ⟨⟨old, he⟩, hit, hne⟩ := st
    obtain ⟨xs, x, hq, hx⟩ := hg
    obtain ⟨its, rv, p, hz⟩ := I.tuple hq
    obtain ⟨u, hu, ru⟩ := rv.get hx
    have hel : e < s.heap.objs.size := Heap.lt_size he
    have hil : it < s.heap.objs.size := by obtain ⟨_, q, _⟩ := hit; exact Heap.lt_size q
    have hlt : i < its.length := (List.getElem?_eq_some_iff.mp hu).1
    have D := Draws.tuple (prog := X.prog) (w := X.w) (A := X.A.in1) (I.ok.hd hc) it a hae its.toArray
    refine wpAny_pyNext_enum_itemD D he ⟨hit, (show s.heap.IsTuple a its.toArray from p)⟩ (by simpa using hlt) hne (by simp [hne, hea]) fun y h' tk hy ho hst' hT hsz hk => ?_
    have hyu : y = u := by
      have hy' : its[i]? = some y := by simpa using hy
      rw [hu] at hy'
      exact (Option.some.inj hy').symm
    subst hyu
    refine ⟨_, rfl, wpAny_letOwnedTupleGo_enum (s := { s with heap := h', toks := tk + 1 }) ho fun h'' he' sb => ?_⟩
    have hT2 : h''.get? s.heap.objs.size = some { cls := .type "tuple", data := .seq #[.int i tk, y] } := (sb.2 _ (Nat.ne_of_gt hel)).trans hT
    have new : ObjOk X.prog X.w (upd H s.heap.objs.size (.tup [.int (i : Nat), x])) h'' s.heap.objs.size (.tup [.int (i : Nat), x]) :=
      ⟨by show 2 ≤ sizeLine; decide, [.int i tk, y], .cons ⟨_, rfl⟩ (.cons ru .nil), ⟨_, hT2, rfl, _, rfl⟩⟩
    have I1 : Inv X pins σ (upd H s.heap.objs.size (.tup [.int (i : Nat), x])) { s with heap := h'', toks := tk + 1 } :=
      I.turnedNew (ch := [e, it]) (fun b ob hb q => (sb.2 b (fun z => hb (by simp [z]))).trans (hk b ob (fun z => hb (by simp [z])) (fun z => hb (by simp [z])) q)) hf (Nat.le_refl _) new
    refine ⟨.ref s.heap.objs.size, _, I1, rfl, ⟨_, x, rfl, I.hok.fresh (Nat.le_refl _), rfl, fun ys hy => by rw [I.tuple_inj hy hq]; exact hx⟩, ⟨⟨y, ?_⟩, hst'.1.at fun o q => (sb.2 it (Ne.symm hne)).trans q, hne⟩, fun b hb => ?_⟩
    · have e1 : ((i + 1 : Nat) : Int) = (i : Int) + 1 := by omega
      rw [e1]; exact he'
    · have hb' : b < s.heap.objs.size := by
        have e' : b = e ∨ b = it := by simpa using hb
        rcases e' with z | z
        · rw [z]; exact hel
        · rw [z]; exact hil
      rw [upd_ne (Nat.ne_of_lt hb')]
      exact (hf b hb).1
  done := by
    intro X hP hw hK hc i pins s σ H E I hf st hg
    subst hP hw hK
    obtain ⟨⟨old, he⟩, hit, hne⟩ := st
    obtain ⟨xs, hq, hx⟩ := hg
    obtain ⟨its, rv, p, hz⟩ := I.tuple hq
    obtain ⟨f0, f1, f2, f3, f4, f5⟩ := hf it (by simp)
    have hl := rv.length
    have D : Draws X.prog X.w X.A.in1 it [it, a] 0 (fun _ _ => True) (fun _ h => h.IsTupleIter it a i ∧ h.IsTuple a its.toArray) := by
      refine ⟨fun _ _ st => let ⟨o, ho, _⟩ := st.1; ⟨o, ho⟩, fun _ _ _ st hk => ⟨st.1.at fun o e => hk it (by simp) o e, st.2.at fun o e => hk a (by simp) o e⟩, fun j _ _ _ hj _ _ => absurd hj (Nat.not_lt_zero _), fun s Q E st hE => ?_⟩
      exact wpAny_nextOf_tuple_end (I.ok.hd hc) st.1 st.2 (by simp; omega) hE
    exact wpAny_pyNext_enum_endD D he ⟨hit, (show s.heap.IsTuple a its.toArray from p)⟩ fun h' eb => ⟨rfl, I.turned (t' := s.toks) (fun b o hb q => eb b o hb q) f0 f1 f3 f4 f5⟩
  self := fun A i s Q E st h => let ⟨⟨_, he⟩, _⟩ := st; wpAny_pyIter_enum he h
/-- of a list or a tuple -/
def iEnumA (K : PySem.W.Frag) (ta : TA) : TI := fun σ H R => ta σ H fun vs H1 => ∃ a xs, vs = [.ref a] ∧ ((SqL K H1 a xs ∧ R (Ite K a) H1) ∨ (SqT K H1 a xs ∧ R (ItET K a) H1))
theorem pi_enumA {X : Cx} {e : Expr} {ta : TA} {p pos tpos : Pos} {elts : List Expr} {kk : Nat} (hg : Gl X "enumerate") (hm : X.mg "enumerate" = none) (ha : PA X [e] ta) (hs : starEach [e] X.env = [(false, eval e X.env)] := by rfl) :
    PI X (.Tuple elts kk tpos) (.Call (.Name "enumerate" p) [e] [] pos) (iEnumA X.K ta) := by
  refine ⟨fun pins s σ H R I h => ?_⟩
  refine Call_ (ld_blt I hg hm boot_enumerate (PyProof.Rows.callWith_type1 (thn (ha.run pos pins s σ H _ I h) fun us s1 ⟨vs, H1, I1, r1, q1⟩ => ?_) hs rfl))
  obtain ⟨a, xs, ex, q⟩ := q1
  subst ex
  cases r1 with
  | cons r rr =>
    cases rr
    cases r
    have fresh : ∀ b, b ∈ [s1.heap.objs.size + 1, s1.heap.objs.size] → FpOk X pins H1 b := fun b hb => by
      have e' : b = s1.heap.objs.size + 1 ∨ b = s1.heap.objs.size := by simpa using hb
      have hle : s1.heap.objs.size ≤ b := by
        rcases e' with z | z
        · rw [z]; exact Nat.le_add_right _ _
        · rw [z]; exact Nat.le_refl _
      exact I1.fpOk hle (I1.hok.fresh hle)
    rcases q with ⟨hq, q⟩ | ⟨hq, q⟩
    · obtain ⟨its, rv, p', hz⟩ := I1.list hq
      refine call_enumerate_list p'.isList fun h' he hit hsz hk => wpAny_pyIter_enum he ?_
      have I2 : Inv X pins σ H1 { s1 with heap := h' } := I1.kept (t' := s1.toks) hk
      exact ⟨s1.heap.objs.size + 1, [s1.heap.objs.size + 1, s1.heap.objs.size], _, _, H1, rfl, I2, turn_enum a (s1.heap.objs.size + 1) s1.heap.objs.size, ⟨⟨.none, he⟩, hit, Nat.succ_ne_self _⟩, fresh, q⟩
    · obtain ⟨its, rv, p', hz⟩ := I1.tuple hq
      have hlt : a < s1.heap.objs.size := by obtain ⟨o, ho, _⟩ := id p'; exact Heap.lt_size ho
      refine call_enum_tup (show s1.heap.IsTuple a its.toArray from p') fun h' he hit hsz hk => wpAny_pyIter_enum he ?_
      have I2 : Inv X pins σ H1 { s1 with heap := h' } := I1.kept (t' := s1.toks) hk
      exact ⟨s1.heap.objs.size + 1, [s1.heap.objs.size + 1, s1.heap.objs.size], _, _, H1, rfl, I2, turn_enumT a (s1.heap.objs.size + 1) s1.heap.objs.size (Nat.ne_of_lt hlt) (Nat.ne_of_gt (Nat.lt_succ_of_lt hlt)), ⟨⟨.none, he⟩, hit, Nat.succ_ne_self _⟩, fresh, q⟩
end EnT

/-! Va9: what is walked besides; what a def does. -/
namespace Va
open PySem L2

def intsFrom (lo : Int) (n : Nat) : List PyData := (List.range n).map fun i => PyData.int (lo + (i : Nat))
theorem intsFrom_get {lo : Int} {n i : Nat} {d : PyData} (h : (intsFrom lo n)[i]? = some d) : i < n ∧ d = .int (lo + (i : Nat)) := by
  unfold intsFrom at h
  rw [List.getElem?_map] at h
  obtain ⟨j, h1, h2⟩ := Option.map_eq_some_iff.mp h
  obtain ⟨h3, h4⟩ := List.getElem?_eq_some_iff.mp h1
  rw [List.length_range] at h3
  rw [List.getElem_range] at h4
  subst h4
  exact ⟨h3, h2.symm⟩
def i62 (i : Int) : Bool := decide (-(2 ^ 62) ≤ i) && decide (i < 2 ^ 62)
def iR1 (f : AFn) : IF := fun ρ => (f ρ).bind fun p => match p.1 with
  | [.int j] => if i62 j = true then some (intsFrom 0 j.toNat, .mv []) else none
  | _ => none
def iR2 (f : AFn) : IF := fun ρ => (f ρ).bind fun p => match p.1 with
  | [.int i, .int j] => if i62 i = true ∧ i62 j = true then some (intsFrom i (j - i).toNat, .mv []) else none
  | _ => none
section
variable {K : PySem.W.Frag} {ta : TA} {fa : AFn}
theorem itOk_range {H : Hp} {lo : Int} {n : Nat} : ItOk K (Itr lo n) H (intsFrom lo n) [] := by
  refine ⟨fun a h => (nomatch h), fun H' _ i d h => ?_, fun H' _ i h => ?_⟩
  · obtain ⟨h1, h2⟩ := intsFrom_get h
    refine ⟨h1, fun x H'' ⟨e1, e2⟩ => ?_⟩
    subst e1 e2 h2
    exact ⟨.refl _, [], .int _, fun a h => nomatch h⟩
  · have : (intsFrom lo n).length = n := by unfold intsFrom; simp
    show n ≤ i
    omega
theorem vi_range1 (h : VA K ta fa) : VI K (iRng1 ta) (iR1 fa) := by
  intro B AF σ H ρ Fs ds k S e R q
  obtain ⟨⟨es, k1⟩, e1, e2⟩ := Option.bind_eq_some_iff.mp e
  simp only at e2
  split at e2
  case h_2 => cases e2
  rename_i j
  split at e2
  case isFalse => cases e2
  rename_i hj
  cases e2
  simp only [i62, Bool.and_eq_true, decide_eq_true_eq] at hj
  refine h B AF σ H ρ Fs _ k1 S e1 _ fun vs H1 F g1 r1 o1 => ?_
  obtain ⟨v, rfl, rv⟩ := r1.one'
  cases rv
  exact ⟨j, rfl, hj.1, hj.2, q _ H1 [] g1 itOk_range fun a h => nomatch h⟩
theorem vi_range2 (h : VA K ta fa) : VI K (iRng2 ta) (iR2 fa) := by
  intro B AF σ H ρ Fs ds k S e R q
  obtain ⟨⟨es, k1⟩, e1, e2⟩ := Option.bind_eq_some_iff.mp e
  simp only at e2
  split at e2
  case h_2 => cases e2
  rename_i i j
  split at e2
  case isFalse => cases e2
  rename_i hj
  cases e2
  simp only [i62, Bool.and_eq_true, decide_eq_true_eq] at hj
  refine h B AF σ H ρ Fs _ k1 S e1 _ fun vs H1 F g1 r1 o1 => ?_
  obtain ⟨v, u, A, B', rfl, rv, ru, _⟩ := r1.two
  cases rv; cases ru
  exact ⟨i, j, rfl, ⟨hj.1.1, hj.1.2, hj.2.1, hj.2.2⟩, q _ H1 [] g1 itOk_range fun a h => nomatch h⟩
/-! ### enumerate -/
def enumD : List PyData → Nat → List PyData
  | [], _ => []
  | d :: ds, n => wrap (.tuple [.int (n : Nat), d]) :: enumD ds (n + 1)
theorem enumD_get : ∀ {ds : List PyData} {n i : Nat} {d : PyData}, (enumD ds n)[i]? = some d → ∃ e, ds[i]? = some e ∧ d = wrap (.tuple [.int ((n + i : Nat) : Int), e])
  | [], _, _, _, h => by simp [enumD] at h
  | e :: ds, n, 0, d, h => by
    simp only [enumD, List.getElem?_cons_zero, Option.some.injEq] at h
    exact ⟨e, rfl, h.symm⟩
  | e :: ds, n, i + 1, d, h => by
    simp only [enumD, List.getElem?_cons_succ] at h
    obtain ⟨e', h1, h2⟩ := enumD_get h
    exact ⟨e', by simpa using h1, by rw [h2, show n + 1 + i = n + (i + 1) by omega]⟩
theorem enumD_len : ∀ (ds : List PyData) (n : Nat), (enumD ds n).length = ds.length
  | [], _ => rfl
  | _ :: ds, n => congrArg Nat.succ (enumD_len ds (n + 1))
def iEn (f : AFn) : IF := fun ρ => (f ρ).bind fun p => match p.1 with
  | [.list ds] => some (enumD ds 0, p.2)
  | [.tuple ds] => some (enumD ds 0, p.2)
  | _ => none
theorem vi_enum (h : VA K ta fa) : VI K (EnT.iEnumA K ta) (iEn fa) := by
  intro B AF σ H ρ Fs ds k S e R q
  obtain ⟨⟨es, k1⟩, e1, e2⟩ := Option.bind_eq_some_iff.mp e
  clear e
  simp only at e2
  split at e2
  · rename_i xs
    cases e2
    refine h B AF σ H ρ Fs _ _ S e1 _ fun vs H1 F g1 r1 o1 => ?_
    obtain ⟨v, rfl, rv⟩ := r1.one'
    cases rv with
    | lst ha rl =>
      rename_i a us F
      refine ⟨a, us, rfl, .inl ⟨.of ha, q _ H1 (a :: F) g1 ⟨fun b hb => ?_, fun H' e i d hd => ?_, fun H' e i hi => ?_⟩ o1.any⟩⟩
      · exact (Rp.lst ha rl).mb b hb
      · obtain ⟨x, h1, rfl⟩ := enumD_get hd
        obtain ⟨w, A, G, B', h2, h3, h4⟩ := rl.get i h1
        have ha' : H' a = some (.lst us) := e _ _ ha (.inr ⟨List.mem_cons_self .., inferInstance⟩)
        refine ⟨⟨us, w, .of ha', h2⟩, fun y H'' ⟨T, x', e1, e2, e3, e4⟩ => ?_⟩
        have := e4 us (.of ha')
        rw [h2] at this
        cases this
        subst e1 e3
        have hw : Rp K H' w x G := h3.kp (e.mono fun b hb => List.mem_cons_of_mem _ (by rw [h4]; exact List.mem_append_right _ (List.mem_append_left _ hb)))
        refine ⟨.new e2, G, ?_, fun b hb => List.mem_cons_of_mem _ (by rw [h4]; exact List.mem_append_right _ (List.mem_append_left _ hb))⟩
        have r2 : RpL K H' [V.int (i : Nat), w] [.int ((0 + i : Nat) : Int), x] ([] ++ (G ++ [])) := .cons (by rw [Nat.zero_add]; exact .int _) (.cons hw .nil)
        rw [List.nil_append, List.append_nil] at r2
        exact rp_pair r2 e2
      · exact ⟨us, .of (e _ _ ha (.inr ⟨List.mem_cons_self .., inferInstance⟩)), by rw [enumD_len] at hi; rw [rl.length]; exact hi⟩
  · rename_i xs
    cases e2
    refine h B AF σ H ρ Fs _ _ S e1 _ fun vs H1 F g1 r1 o1 => ?_
    obtain ⟨v, rfl, rv⟩ := r1.one'
    cases rv with
    | tup ha0 rl =>
      have ha := ha0.1
      rename_i a us
      refine ⟨a, us, rfl, .inr ⟨ha, q _ H1 F g1 ⟨rl.mb, fun H' e i d hd => ?_, fun H' e i hi => ?_⟩ o1.any⟩⟩
      · obtain ⟨x, h1, rfl⟩ := enumD_get hd
        obtain ⟨w, A, G, B', h2, h3, h4⟩ := rl.get i h1
        have ha' := e.sqT ha
        refine ⟨⟨us, w, ha', h2⟩, fun y H'' ⟨T, x', e1, e2, e3, e4⟩ => ?_⟩
        have := e4 us ha'
        rw [h2] at this
        cases this
        subst e1 e3
        have m : ∀ b ∈ G, b ∈ F := fun b hb => by rw [h4]; exact List.mem_append_right _ (List.mem_append_left _ hb)
        have hw : Rp K H' w x G := h3.kp (e.mono m)
        refine ⟨.new e2, G, ?_, m⟩
        have r2 : RpL K H' [V.int (i : Nat), w] [.int ((0 + i : Nat) : Int), x] ([] ++ (G ++ [])) := .cons (by rw [Nat.zero_add]; exact .int _) (.cons hw .nil)
        rw [List.nil_append, List.append_nil] at r2
        exact rp_pair r2 e2
      · exact ⟨us, e.sqT ha, by rw [enumD_len] at hi; rw [rl.length]; exact hi⟩
  · cases e2
/-! ### a def -/
def env0 (n : Nat) (ds : List PyData) : Env := ds.map (fun d => some (d, m02 d)) ++ List.replicate (n - ds.length) none
def mOf (n : Nat) (f : SF) (ds : List PyData) : Option (PyData × Nat) := (f (env0 n ds)).bind fun o => match o with
  | .nx _ => some (.none, 2)
  | .rt d r => some (d, r)
  | _ => none
abbrev MF := List PyData → Option (PyData × Nat)
/-- the promise of a def of n parameters that does m to the data -/
def spOf (K : PySem.W.Frag) (n : Nat) (m : MF) : Sp := fun vs H Q _ => LamX.Tabs TABS H ∧ ∃ ds F d r, ds.length = n ∧ RpL K H vs ds F ∧ m ds = some (d, r) ∧ ∀ v H' G, Grow H H' → Rp K H' v d G → ROk r H F v G → Q v H'
theorem spOf_len {n : Nat} {m : MF} {vs : List V} {H : Hp} {Q : VK} {E : XK} (h : spOf K n m vs H Q E) : vs.length = n := by
  obtain ⟨_, ds, F, d, r, h1, h2, _⟩ := h
  rw [h2.length]; exact h1
theorem RpL.foot {H : Hp} : ∀ {vs : List V} {ds : List PyData} {F : List Addr}, RpL K H vs ds F → ∃ Fs : Nat → List Addr, ∀ (i : Nat) (d : PyData), ds[i]? = some d → ∃ v, vs[i]? = some v ∧ Rp K H v d (Fs i) ∧ ∀ a ∈ Fs i, a ∈ F
  | _, _, _, .nil => ⟨fun _ => [], fun i d h => by simp at h⟩
  | _, _, _, .cons (F := F) e r => by
    obtain ⟨Fs, h⟩ := RpL.foot r
    refine ⟨fun i => match i with
      | 0 => F
      | i + 1 => Fs i, fun i d hd => ?_⟩
    cases i with
    | zero =>
      cases hd
      exact ⟨_, rfl, e, fun a ha => List.mem_append_left _ ha⟩
    | succ i =>
      obtain ⟨v, h1, h2, h3⟩ := h i d hd
      exact ⟨v, h1, h2, fun a ha => List.mem_append_right _ (h3 a ha)⟩
theorem body_of {Wx : WxT} {wr : List Nat} {ts : TS} {f : SF} {N : List Str} {n k : Nat} {vs : List V} {H : Hp} {Q : VK} {E : XK} (h : VS K Wx wr ts f) (hs : spOf K k (mOf n f) vs H Q E) (hn : N.length = n) (hk : k ≤ n) :
    ts { nx := fun _ H' => Q .non H', rt := Q } (L2.start N vs) H := by
  obtain ⟨tb, ds, F, d, r, h1, h2, h3, q⟩ := hs
  obtain ⟨o, h4, h5⟩ := Option.bind_eq_some_iff.mp h3
  obtain ⟨Fs, hF⟩ := h2.foot
  have lv := h2.length
  have live : ∀ (i : Nat) (d : PyData) (m : Nat), (env0 n ds)[i]? = some (some (d, m)) → ds[i]? = some d ∧ m = m02 d := by
    intro i d m q
    unfold env0 at q
    by_cases hi : i < (ds.map fun d => some (d, m02 d)).length
    · rw [List.getElem?_append_left hi, List.getElem?_map] at q
      obtain ⟨d', e1, e2⟩ := Option.map_eq_some_iff.mp q
      cases e2
      exact ⟨e1, rfl⟩
    · rw [List.getElem?_append_right (by omega), List.getElem?_replicate] at q
      split at q <;> cases q
  have S : SR K H F (L2.start N vs) H (env0 n ds) Fs := by
    refine ⟨?_, .refl tb, fun i d m q => ?_, fun i j d m d' m' q q' ne a ha => ?_⟩
    · unfold L2.start env0
      simp only [List.length_append, List.length_map, List.length_replicate]
      omega
    · obtain ⟨e1, rfl⟩ := live i d m q
      obtain ⟨v, e2, e3, e4⟩ := hF i d e1
      refine ⟨v, ?_, e3, fun a ha => .inr (e4 a ha), (own02 e3).1⟩
      unfold L2.start
      have hi : i < (vs.map some).length := by
        rw [List.length_map]
        exact (List.getElem?_eq_some_iff.mp e2).1
      rw [List.getElem?_append_left hi, List.getElem?_map, e2]
      rfl
    · obtain ⟨e1, rfl⟩ := live i d m q
      obtain ⟨v, e2, e3, e4⟩ := hF i d e1
      rw [(own02 (B := H) e3).2] at ha
      cases ha
  refine h H F _ H (env0 n ds) Fs o S h4 _ ?_
  cases o with
  | nx ρ' =>
    cases h5
    exact fun σ' H' Fs' S' _ => q .non H' [] S'.same.grow .non ⟨fun a h => (nomatch h), fun _ => ⟨List.nodup_nil, fun a h => (nomatch h)⟩, fun z => nomatch z⟩
  | bk ρ' => cases h5
  | ct ρ' => cases h5
  | ex c fs => cases h5
  | rt d' r' =>
    cases h5
    exact q
/-! ### a call of it -/
def calK (d : PyData) (r : Nat) (k : Kd) : Kd := if flat d then .mv [] else if r = 2 then .mv [] else if r = 1 then .sp k.src else .bo k.src
def gCall (n : Nat) (m : MF) : Gn := fun ds k => if ds.length = n then (m ds).map fun p => (p.1, calK p.1 p.2 k) else none
theorem vf_call {n : Nat} {m : MF} {E : XK} (ρ : Env) (Fs : Nat → List Addr) (H0 H : Hp) (vs : List V) (ds : List PyData) (F : List Addr) (k : Kd) (d : PyData) (k' : Kd) (tb : LamX.Tabs TABS H) (g : Grow H0 H) (r : RpL K H vs ds F) (o : KO ρ Fs H0 F k) (e : gCall n m ds k = some (d, k')) (Q : VK)
    (q : ∀ v H' G, Grow H H' → Rp K H' v d G → KV ρ Fs H0 v G k' → Q v H') : spOf K n m (vs ++ []) H Q E := by
  unfold gCall at e
  split at e
  case isFalse => cases e
  rename_i hl
  obtain ⟨⟨d', r'⟩, e1, e2⟩ := Option.map_eq_some_iff.mp e
  cases e2
  show spOf K n m (vs ++ []) H Q E
  rw [List.append_nil]
  refine ⟨tb, ds, F, d', r', hl, r, e1, fun v H' G g2 r2 ok => q v H' G g2 r2 ?_⟩
  have bo : ∀ a ∈ G, H0 a = none ∨ Src ρ Fs k.src a := fun a ha => by
    rcases ok.1 a ha with z | z
    · exact .inl (g.back z)
    · exact o.any a z
  show KV ρ Fs H0 v G (calK d' r' k)
  unfold calK
  split
  · rename_i hf
    rw [r2.flat hf]
    exact .nil
  · split
    · rename_i h
      obtain ⟨x1, x2⟩ := ok.2.1 h
      exact .mv ⟨x1, fun a ha => .inl (g.back (x2 a ha))⟩
    · split
      · rename_i h
        obtain ⟨p, G', x1, x2, x3, x4⟩ := ok.2.2 h
        exact ⟨bo, fun _ _ => ⟨p, G', x1, x2, x3, g.back x4⟩⟩
      · exact .bo bo
theorem ve_call {n : Nat} {m : MF} {E : XK} (h : VA K ta fa) : VE K (tCall (spOf K n m) [] E ta) (eApp (gCall n m) fa) := by
  intro B AF σ H ρ Fs d k S e Q q
  obtain ⟨⟨ds, k1⟩, e1, e⟩ := Option.bind_eq_some_iff.mp e
  refine h B AF σ H ρ Fs ds k1 S e1 _ fun vs H1 F g1 r1 o1 => ?_
  exact vf_call ρ Fs H H1 vs ds F k1 d k (S.grow g1).same.tab g1 r1 o1 e Q fun v H2 G g2 r2 o2 => q v H2 G (g1.trans g2) r2 o2
/-- positional values, then keywords in the parameters' order -/
def aApp (f g : AFn) : AFn := fun ρ => (f ρ).bind fun p => (g ρ).bind fun q => some (p.1 ++ q.1, aj p.2 q.2)
theorem ve_callK {n : Nat} {m : MF} {E : XK} {tk : TA} {fk : AFn} (h : VA K ta fa) (hk : VA K tk fk) : VE K (tCallK (spOf K n m) (fun vs zs => vs ++ zs) E ta tk) (eApp (gCall n m) (aApp fa fk)) := by
  intro B AF σ H ρ Fs d k S e Q q
  obtain ⟨⟨ds, k0⟩, e0, e⟩ := Option.bind_eq_some_iff.mp e
  obtain ⟨⟨ds1, k1⟩, e1, e2⟩ := Option.bind_eq_some_iff.mp e0
  obtain ⟨⟨ds2, k2⟩, e3, e4⟩ := Option.bind_eq_some_iff.mp e2
  cases e4
  refine h B AF σ H ρ Fs ds1 k1 S e1 _ fun vs H1 F g1 r1 o1 => ?_
  refine hk B AF σ H1 ρ Fs ds2 k2 (S.grow g1) e3 _ fun zs H2 G g2 r2 o2 => ?_
  have := vf_call (E := E) ρ Fs H H2 (vs ++ zs) (ds1 ++ ds2) (F ++ G) (aj k1 k2) d k (S.grow (g1.trans g2)).same.tab (g1.trans g2) (RpL.app (r1.grow g2) r2) (KO.join S g1 o1 (fun a ha => r1.stn ha) o2) e Q fun v H3 G' g3 r3 o3 => q v H3 G' ((g1.trans g2).trans g3) r3 o3
  simp only [List.append_nil] at this
  exact this
end
end Va

/-! Va10: built-ins, slices, texts. -/
namespace Va
open PySem L2

section
variable {K : PySem.W.Frag} {ta tb tc te : TE} {t : TA} {f g h : EF} {fa : AFn}

/-! ### truth values as values -/
def eAndV (f g : EF) : EF := fun ρ => (f ρ).bind fun p => (bOf p.1).bind fun b => if b = true then (g ρ).map fun q => (q.1, q.2) else some (.bool false, .mv [])
def eOrV (f g : EF) : EF := fun ρ => (f ρ).bind fun p => (bOf p.1).bind fun b => if b = true then some (.bool true, .mv []) else (g ρ).map fun q => (q.1, q.2)
def eNotV (f : EF) : EF := fun ρ => (f ρ).bind fun p => (bOf p.1).map fun b => (.bool (!b), .mv [])
theorem KV.back {ρ : Env} {Fs : Nat → List Addr} {H H' : Hp} {v : V} {F : List Addr} {k : Kd} (o : KV ρ Fs H' v F k) (g : Grow H H') : KV ρ Fs H v F k :=
  ⟨o.1.back g, fun L z => let ⟨p, G, a1, a2, a3, a4⟩ := o.2 L z; ⟨p, G, a1, a2, a3, g.back a4⟩⟩
theorem ve_andV (ha : VE K ta f) (hb : VE K tb g) : VE K (tAndV ta tb) (eAndV f g) := by
  intro B AF σ H ρ Fs d k S e Q q
  obtain ⟨⟨d1, k1⟩, e1, e2⟩ := Option.bind_eq_some_iff.mp e
  obtain ⟨b, e3, e4⟩ := Option.bind_eq_some_iff.mp e2
  cases bOf_eq e3
  refine ha B AF σ H ρ Fs _ k1 S e1 _ fun v H1 F g1 r1 o1 => ⟨b, rp_bool r1, ?_⟩
  cases b with
  | true =>
    rw [if_pos rfl] at e4 ⊢
    obtain ⟨⟨d2, k2⟩, e5, e6⟩ := Option.map_eq_some_iff.mp e4
    cases e6
    exact hb B AF σ H1 ρ Fs _ _ (S.grow g1) e5 Q fun v H2 F g2 r2 o2 => q v H2 F (g1.trans g2) r2 (o2.back g1)
  | false =>
    rw [if_neg Bool.false_ne_true] at e4 ⊢
    cases e4
    exact q _ H1 [] g1 (.bl _) .nil
theorem ve_orV (ha : VE K ta f) (hb : VE K tb g) : VE K (tOrV ta tb) (eOrV f g) := by
  intro B AF σ H ρ Fs d k S e Q q
  obtain ⟨⟨d1, k1⟩, e1, e2⟩ := Option.bind_eq_some_iff.mp e
  obtain ⟨b, e3, e4⟩ := Option.bind_eq_some_iff.mp e2
  cases bOf_eq e3
  refine ha B AF σ H ρ Fs _ k1 S e1 _ fun v H1 F g1 r1 o1 => ⟨b, rp_bool r1, ?_⟩
  cases b with
  | false =>
    rw [if_neg Bool.false_ne_true] at e4 ⊢
    obtain ⟨⟨d2, k2⟩, e5, e6⟩ := Option.map_eq_some_iff.mp e4
    cases e6
    exact hb B AF σ H1 ρ Fs _ _ (S.grow g1) e5 Q fun v H2 F g2 r2 o2 => q v H2 F (g1.trans g2) r2 (o2.back g1)
  | true =>
    rw [if_pos rfl] at e4 ⊢
    cases e4
    exact q _ H1 [] g1 (.bl _) .nil
theorem ve_notV (ha : VE K ta f) : VE K (tNotV ta) (eNotV f) := by
  intro B AF σ H ρ Fs d k S e Q q
  obtain ⟨⟨d1, k1⟩, e1, e2⟩ := Option.bind_eq_some_iff.mp e
  obtain ⟨b, e3, e4⟩ := Option.map_eq_some_iff.mp e2
  cases e4
  cases bOf_eq e3
  exact ha B AF σ H ρ Fs _ k1 S e1 _ fun v H1 F g1 r1 o1 => ⟨b, rp_bool r1, q _ H1 [] g1 (.bl _) .nil⟩
/-! ### a op b op c -/
def eChain (h1 h2 : List PyData → Option PyData) (f g h : EF) : EF := fun ρ => (f ρ).bind fun p => (g ρ).bind fun q => (h1 [p.1, q.1]).bind fun z => (bOf z).bind fun b =>
  if b = true then (h ρ).bind fun r => (h2 [q.1, r.1]).map fun z => (z, .mv []) else some (.bool false, .mv [])
theorem ve_chain {r r' : R2} {h1 h2 : List PyData → Option PyData} (v1 : VFf K (r2l r) h1) (v2 : VFf K (r2l r') h2) (ha : VE K ta f) (hb : VE K tb g) (hc : VE K tc h) : VE K (tChain r r' ta tb tc) (eChain h1 h2 f g h) := by
  intro B AF σ H ρ Fs d k S e Q q
  obtain ⟨⟨d1, k1⟩, e1, e⟩ := Option.bind_eq_some_iff.mp e
  obtain ⟨⟨d2, k2⟩, e2, e⟩ := Option.bind_eq_some_iff.mp e
  obtain ⟨z, e3, e⟩ := Option.bind_eq_some_iff.mp e
  obtain ⟨b, e4, e'⟩ := Option.bind_eq_some_iff.mp e
  have ez := bOf_eq e4
  subst ez
  refine ha B AF σ H ρ Fs d1 k1 S e1 _ fun v H1 F g1 r1 o1 => ?_
  refine hb B AF σ H1 ρ Fs d2 k2 (S.grow g1) e2 _ fun u H2 G g2 r2 o2 => ?_
  have g12 := g1.trans g2
  refine v1 H2 [v, u] [d1, d2] (F ++ (G ++ [])) (.bool b) (.cons (r1.grow g2) (.cons r2 .nil)) e3 _ fun z H3 g3 r3 => ⟨b, rp_bool r3, ?_⟩
  have g13 := g12.trans g3
  cases b with
  | false =>
    rw [if_neg Bool.false_ne_true] at e' ⊢
    cases e'
    exact q _ H3 [] g13 (.bl _) .nil
  | true =>
    rw [if_pos rfl] at e' ⊢
    obtain ⟨⟨d3, k3⟩, e5, e⟩ := Option.bind_eq_some_iff.mp e'
    obtain ⟨z2, e6, e7⟩ := Option.map_eq_some_iff.mp e
    cases e7
    refine hc B AF σ H3 ρ Fs d3 k3 (S.grow g13) e5 _ fun w H4 G2 g4 r4 o4 => ?_
    exact v2 H4 [u, w] [d2, d3] (G ++ (G2 ++ [])) _ (.cons ((r2.grow g3).grow g4) (.cons r4 .nil)) e6 Q fun z H5 g5 r5 => q z H5 [] (g13.trans (g4.trans g5)) r5 .nil
/-! ### slices -/
def VO (K : PySem.W.Frag) (to : TO) (f : Env → Option (Option Int)) : Prop := ∀ (B : Hp) (AF : List Addr) (σ : L2.St) (H : Hp) (ρ : Env) (Fs : Nat → List Addr) (i : Option Int), SR K B AF σ H ρ Fs → f ρ = some i →
  ∀ Q : Option Int → Hp → Prop, (∀ H', Grow H H' → Q i H') → to σ H Q
def oNo : Env → Option (Option Int) := fun _ => some none
def oPart (f : EF) : Env → Option (Option Int) := fun ρ => (f ρ).bind fun p => match p.1 with
  | .int i => some (some i)
  | _ => none
theorem vo_no : VO K tNoPart oNo := by
  intro B AF σ H ρ Fs i S e Q q
  cases e
  exact q H (.refl H)
theorem vo_part (ha : VE K te f) : VO K (tPart te) (oPart f) := by
  intro B AF σ H ρ Fs i S e Q q
  obtain ⟨⟨d, k⟩, e1, e2⟩ := Option.bind_eq_some_iff.mp e
  simp only at e2
  split at e2
  case h_2 => cases e2
  rename_i j
  cases e2
  exact ha B AF σ H ρ Fs _ k S e1 _ fun v H1 F g1 r1 o1 => by
    cases r1
    exact ⟨j, rfl, q H1 g1⟩
def cutD (ds : List PyData) (lo hi : Option Int) : List PyData := (ds.drop (HT.sIx ds.length 0 lo)).take (HT.sIx ds.length ds.length hi - HT.sIx ds.length 0 lo)
def rSlAny (K : PySem.W.Frag) : V → Option Int → Option Int → Hp → VK → Prop := fun x lo hi H Q => rSlL K x lo hi H Q ∨ rSlN K x lo hi H Q ∨ rSlS x lo hi H Q
def slD (d : PyData) (k : Kd) (lo hi : Option Int) : Option (PyData × Kd) := match d with
  | .list ds => some (.list (cutD ds lo hi), lstK (cutD ds lo hi) k)
  | .tuple ds => some (.tuple (cutD ds lo hi), tupK (cutD ds lo hi) k)
  | .str x => if x.length ≤ 1000000 then some (.str (cutS x lo hi), .mv []) else none
  | _ => none
def eSl (f : EF) (lo hi : Env → Option (Option Int)) : EF := fun ρ => (f ρ).bind fun p => (lo ρ).bind fun i => (hi ρ).bind fun j => slD p.1 p.2 i j
theorem rp_cut {H : Hp} {vs : List V} {ds : List PyData} {F : List Addr} (r : RpL K H vs ds F) (lo hi : Option Int) : ∃ G, RpL K H (cutV vs lo hi) (cutD ds lo hi) G ∧ List.Sublist G F := by
  unfold cutV cutD
  rw [r.length]
  obtain ⟨A, B, h1, h2, h3⟩ := r.parts (HT.sIx ds.length 0 lo)
  obtain ⟨A', B', h4, h5, h6⟩ := h3.parts (HT.sIx ds.length ds.length hi - HT.sIx ds.length 0 lo)
  exact ⟨A', h5, by rw [h1, h4]; exact (List.sublist_append_left A' B').trans (List.sublist_append_right A (A' ++ B'))⟩
theorem cutV_whole {us : List V} {i j : Option Int} (w : HT.sIx us.length 0 i = 0 ∧ HT.sIx us.length us.length j = us.length) : cutV us i j = us := by
  unfold cutV
  rw [w.1, w.2, List.drop_zero, Nat.sub_zero, List.take_length]
theorem ve_slice {tl th : TO} {lo hi : Env → Option (Option Int)} (ha : VE K te f) (hl : VO K tl lo) (hh : VO K th hi) : VE K (tSl (rSlAny K) te tl th) (eSl f lo hi) := by
  intro B AF σ H ρ Fs d k S e Q q
  obtain ⟨⟨d1, k1⟩, e1, e⟩ := Option.bind_eq_some_iff.mp e
  obtain ⟨i, e2, e⟩ := Option.bind_eq_some_iff.mp e
  obtain ⟨j, e3, e⟩ := Option.bind_eq_some_iff.mp e
  refine ha B AF σ H ρ Fs d1 k1 S e1 _ fun v H1 F g1 r1 o1 => ?_
  refine hl B AF σ H1 ρ Fs i (S.grow g1) e2 _ fun H2 g2 => ?_
  refine hh B AF σ H2 ρ Fs j ((S.grow g1).grow g2) e3 _ fun H3 g3 => ?_
  have g13 := (g1.trans g2).trans g3
  have rv := (r1.grow g2).grow g3
  unfold slD at e
  cases rv with
  | lst h0 r0 =>
    cases e
    obtain ⟨G, r2, s2⟩ := rp_cut r0 i j
    refine .inl ⟨_, _, rfl, .of h0, fun p hp => q _ _ _ (g13.trans (.new hp)) (rp_lst r2 hp) (kv_lst r2 (o1.1.sub (s2.trans (List.sublist_cons_self ..))) g13 hp)⟩
  | tup h0 r0 =>
    cases e
    obtain ⟨G, r2, s2⟩ := rp_cut r0 i j
    refine .inr (.inl ⟨_, _, rfl, h0.1, fun w => ?_, fun w p ob ho hp => q _ _ _ (g13.trans (.new hp)) (rp_tupN r2 hp ho) (kv_tup r2 (o1.1.sub s2))⟩)
    rw [cutV_whole w] at r2
    exact q _ _ _ g13 (.tup h0 r2) (kv_tup r2 (o1.1.sub s2))
  | str x =>
    simp only at e
    split at e
    · rename_i hz
      cases e
      exact .inr (.inr ⟨x, rfl, le_line hz, q _ _ [] g13 (.str _) .nil⟩)
    · cases e
  | non => cases e
  | bl b => cases e
  | int b => cases e
  | dic a b => cases e
  | pair a b => cases e
  | fn a => cases e
  | vw _ _ _ _ => cases e
  | tag _ => cases e

/-! ### built-ins -/
def hLen : List PyData → Option PyData
  | [.list xs] => some (.int (xs.length : Nat))
  | [.tuple xs] => some (.int (xs.length : Nat))
  | [.str x] => if x.length ≤ 1000000 then some (.int (x.length : Nat)) else none
  | _ => none
theorem vf_len : VFf K (fun xs H Q => ∃ x n, xs = [x] ∧ LenV K x H n ∧ Q (.int n) H) hLen := by
  intro H vs ds F d r e Q q
  unfold hLen at e
  split at e
  · cases e
    obtain ⟨v, rfl, r1⟩ := r.one'
    cases r1 with
    | lst h0 r0 => exact ⟨_, _, rfl, .inl ⟨_, .of h0, rfl⟩, by rw [r0.length]; exact q _ H (.refl H) (.int _)⟩
  · cases e
    obtain ⟨v, rfl, r1⟩ := r.one'
    cases r1 with
    | tup h0 r0 => exact ⟨_, _, rfl, .inr ⟨_, h0.1, rfl⟩, by rw [r0.length]; exact q _ H (.refl H) (.int _)⟩
  · split at e
    · rename_i x hz
      cases e
      obtain ⟨v, rfl, r1⟩ := r.one'
      cases r1
      exact ⟨_, _, rfl, ⟨le_line hz, rfl⟩, q _ H (.refl H) (.int _)⟩
    · cases e
  · cases e
def hInt : List PyData → Option PyData
  | [.int i] => some (.int i)
  | [.bool b] => some (.int (if b then 1 else 0))
  | _ => none
theorem vf_int : VFf K (fun xs H Q => (∃ i, xs = [.int i] ∧ Q (.int i) H) ∨ ∃ k, xs = [.bl k] ∧ Q (.int (if k then 1 else 0)) H) hInt := by
  intro H vs ds F d r e Q q
  unfold hInt at e
  split at e
  · cases e
    obtain ⟨v, rfl, r1⟩ := r.one'
    cases r1
    exact .inl ⟨_, rfl, q _ H (.refl H) (.int _)⟩
  · cases e
    obtain ⟨v, rfl, r1⟩ := r.one'
    cases r1
    exact .inr ⟨_, rfl, q _ H (.refl H) (.int _)⟩
  · cases e
/-- str(an int of a size, a text) -/
def rStrA : List V → Hp → VK → Prop := fun xs H Q => (∃ i, xs = [.int i] ∧ i.natAbs.log2 < 1920 ∧ Q (.str (toString i)) H) ∨ ∃ a, xs = [.str a] ∧ Q (.str a) H
def hStr : List PyData → Option PyData
  | [.int i] => if i.natAbs.log2 < 1920 then some (.str (toString i)) else none
  | [.str x] => some (.str x)
  | _ => none
theorem vf_str : VFf K rStrA hStr := by
  intro H vs ds F d r e Q q
  unfold hStr at e
  split at e
  · split at e
    · rename_i hz
      cases e
      obtain ⟨v, rfl, r1⟩ := r.one'
      cases r1
      exact .inl ⟨_, rfl, hz, q _ H (.refl H) (.str _)⟩
    · cases e
  · cases e
    obtain ⟨v, rfl, r1⟩ := r.one'
    cases r1
    exact .inr ⟨_, rfl, q _ H (.refl H) (.str _)⟩
  · cases e
/-- isinstance(e, T), T a built-in class -/
def tyD : PyData → String
  | .none => "NoneType"
  | .bool _ => "bool"
  | .int _ => "int"
  | .str _ => "str"
  | .list _ => "list"
  | .tuple _ => "tuple"
  | .dict _ => "dict"
def isiD (T : String) (d : PyData) : Bool := (kitB (tyD d) T).getD false
def isiOk (T : String) : Bool := (["NoneType", "bool", "int", "str", "list", "tuple", "dict"].all fun a => (kitB a T).isSome)
def isW : PyData → Bool
  | .dict _ => true
  | _ => false
def eIsi (T : String) (f : EF) : EF := fun ρ => (f ρ).bind fun p => if isW p.1 = true then none else some (.bool (isiD T p.1), .mv [])
theorem rp_ty {H : Hp} {v : V} {d : PyData} {F : List Addr} (r : Rp K H v d F) (hw : isW d = false) : TyX K H v (.type (tyD d)) := by
  cases r with
  | non => exact .base .non
  | bl b => exact .base (.bl b)
  | int b => exact .base (.int b)
  | str b => exact .base (.str b)
  | lst h0 r0 => exact .base (.lst h0)
  | tup h0 r0 =>
    rcases h0.1 with (h0 | ⟨o, h0⟩) | ⟨o, its, n, h1, h2, _⟩
    · exact .base (.tup h0)
    · exact .fTuple h0
    · exact .kTuple h1 h2
  | dic h0 u0 r0 => cases hw
  | pair h0 r0 => cases hw
  | fn a => cases hw
  | vw _ _ _ _ => cases hw
  | tag _ => cases hw
theorem ve_isi (T : String) (hT : isiOk T = true) (ha : VE K te f) : VE K (tCB (rIsi K) (tCons te (tCons (tC (.ty T)) tNil))) (eIsi T f) := by
  intro B AF σ H ρ Fs d k S e Q q
  obtain ⟨⟨d1, k1⟩, e1, e2⟩ := Option.bind_eq_some_iff.mp e
  simp only at e2
  split at e2
  · cases e2
  rename_i hw
  cases e2
  refine ha B AF σ H ρ Fs d1 k1 S e1 _ fun v H1 F g1 r1 o1 => ?_
  have hk : kitB (tyD d1) T = some (isiD T d1) := by
    have h2 : (kitB (tyD d1) T).isSome = true := by
      refine List.all_eq_true.mp hT (tyD d1) ?_
      cases d1 <;> simp [tyD]
    unfold isiD
    obtain ⟨b, hb⟩ := Option.isSome_iff_exists.mp h2
    rw [hb]
    rfl
  exact ⟨v, .ty T, .type (tyD d1), .type T, isiD T d1, rfl, .ty T, rp_ty r1 (by simpa using hw), kit_ty hk, q _ H1 [] g1 (.bl _) .nil⟩
/-! ### lists of ints, of truth values -/
def intsOf : List PyData → Option (List Int)
  | [] => some []
  | .int i :: ds => (intsOf ds).map (i :: ·)
  | _ => none
theorem intsOf_rp {H : Hp} : ∀ {ds : List PyData} {ns : List Int} {vs : List V} {F : List Addr}, intsOf ds = some ns → RpL K H vs ds F → vs = ns.map V.int
  | [], ns, vs, F, h, r => by cases h; cases r; rfl
  | .int i :: ds, ns, vs, F, h, r => by
    obtain ⟨ms, e1, e2⟩ := Option.map_eq_some_iff.mp h
    subst e2
    cases r with
    | cons r0 rs =>
      cases r0
      rw [List.map_cons, intsOf_rp e1 rs]
  | .none :: _, _, _, _, h, _ => by cases h
  | .bool _ :: _, _, _, _, h, _ => by cases h
  | .str _ :: _, _, _, _, h, _ => by cases h
  | .list _ :: _, _, _, _, h, _ => by cases h
  | .tuple _ :: _, _, _, _, h, _ => by cases h
  | .dict _ :: _, _, _, _, h, _ => by cases h
def boolsOf : List PyData → Option (List Bool)
  | [] => some []
  | .bool b :: ds => (boolsOf ds).map (b :: ·)
  | _ => none
theorem boolsOf_rp {H : Hp} : ∀ {ds : List PyData} {ns : List Bool} {vs : List V} {F : List Addr}, boolsOf ds = some ns → RpL K H vs ds F → vs = ns.map V.bl
  | [], ns, vs, F, h, r => by cases h; cases r; rfl
  | .bool i :: ds, ns, vs, F, h, r => by
    obtain ⟨ms, e1, e2⟩ := Option.map_eq_some_iff.mp h
    subst e2
    cases r with
    | cons r0 rs =>
      cases r0
      rw [List.map_cons, boolsOf_rp e1 rs]
  | .none :: _, _, _, _, h, _ => by cases h
  | .int _ :: _, _, _, _, h, _ => by cases h
  | .str _ :: _, _, _, _, h, _ => by cases h
  | .list _ :: _, _, _, _, h, _ => by cases h
  | .tuple _ :: _, _, _, _, h, _ => by cases h
  | .dict _ :: _, _, _, _, h, _ => by cases h
def hSum : List PyData → Option PyData
  | [.list ds] => (intsOf ds).map fun ns => .int ns.sum
  | _ => none
def hAny : List PyData → Option PyData
  | [.list ds] => (boolsOf ds).map fun ns => .bool (ns.any id)
  | _ => none
def hAll : List PyData → Option PyData
  | [.list ds] => (boolsOf ds).map fun ns => .bool (ns.all id)
  | _ => none
theorem vf_sum : VFf K (rSum K) hSum := by
  intro H vs ds F d r e Q q
  unfold hSum at e
  split at e
  · obtain ⟨ns, e1, e2⟩ := Option.map_eq_some_iff.mp e
    cases e2
    obtain ⟨v, rfl, r1⟩ := r.one'
    cases r1 with
    | lst h0 r0 => exact ⟨_, ns, rfl, .of (by rw [← intsOf_rp e1 r0]; exact h0), q _ H (.refl H) (.int _)⟩
  · cases e
theorem vf_any : VFf K (rAny K) hAny := by
  intro H vs ds F d r e Q q
  unfold hAny at e
  split at e
  · obtain ⟨ns, e1, e2⟩ := Option.map_eq_some_iff.mp e
    cases e2
    obtain ⟨v, rfl, r1⟩ := r.one'
    cases r1 with
    | lst h0 r0 => exact ⟨_, ns, rfl, .of (by rw [← boolsOf_rp e1 r0]; exact h0), q _ H (.refl H) (.bl _)⟩
  · cases e
theorem vf_all : VFf K (rAll K) hAll := by
  intro H vs ds F d r e Q q
  unfold hAll at e
  split at e
  · obtain ⟨ns, e1, e2⟩ := Option.map_eq_some_iff.mp e
    cases e2
    obtain ⟨v, rfl, r1⟩ := r.one'
    cases r1 with
    | lst h0 r0 => exact ⟨_, ns, rfl, .of (by rw [← boolsOf_rp e1 r0]; exact h0), q _ H (.refl H) (.bl _)⟩
  · cases e
def maxI : List Int → Int
  | [] => 0
  | n :: ns => ns.foldl max n
def minI : List Int → Int
  | [] => 0
  | n :: ns => ns.foldl min n
theorem foldl_max (ns : List Int) : ∀ n : Int, ns.foldl max n ∈ n :: ns ∧ ∀ y ∈ n :: ns, y ≤ ns.foldl max n := by
  induction ns with
  | nil => intro n; exact ⟨List.mem_cons_self .., fun y hy => by rcases List.mem_singleton.mp hy with rfl; exact Int.le_refl _⟩
  | cons m ms ih =>
    intro n
    obtain ⟨h1, h2⟩ := ih (max n m)
    refine ⟨?_, fun y hy => ?_⟩
    · rcases List.mem_cons.mp h1 with h | h
      · show List.foldl max (max n m) ms ∈ _
        rw [h]
        rcases Int.le_total n m with h3 | h3
        · rw [Int.max_eq_right h3]; exact List.mem_cons_of_mem _ (List.mem_cons_self ..)
        · rw [Int.max_eq_left h3]; exact List.mem_cons_self ..
      · exact List.mem_cons_of_mem _ (List.mem_cons_of_mem _ h)
    · show y ≤ List.foldl max (max n m) ms
      have h0 := h2 (max n m) (List.mem_cons_self ..)
      rcases List.mem_cons.mp hy with rfl | hy
      · exact Int.le_trans (Int.le_max_left ..) h0
      · rcases List.mem_cons.mp hy with rfl | hy
        · exact Int.le_trans (Int.le_max_right ..) h0
        · exact h2 y (List.mem_cons_of_mem _ hy)
theorem foldl_min (ns : List Int) : ∀ n : Int, ns.foldl min n ∈ n :: ns ∧ ∀ y ∈ n :: ns, ns.foldl min n ≤ y := by
  induction ns with
  | nil => intro n; exact ⟨List.mem_cons_self .., fun y hy => by rcases List.mem_singleton.mp hy with rfl; exact Int.le_refl _⟩
  | cons m ms ih =>
    intro n
    obtain ⟨h1, h2⟩ := ih (min n m)
    refine ⟨?_, fun y hy => ?_⟩
    · rcases List.mem_cons.mp h1 with h | h
      · show List.foldl min (min n m) ms ∈ _
        rw [h]
        rcases Int.le_total n m with h3 | h3
        · rw [Int.min_eq_left h3]; exact List.mem_cons_self ..
        · rw [Int.min_eq_right h3]; exact List.mem_cons_of_mem _ (List.mem_cons_self ..)
      · exact List.mem_cons_of_mem _ (List.mem_cons_of_mem _ h)
    · show List.foldl min (min n m) ms ≤ y
      have h0 := h2 (min n m) (List.mem_cons_self ..)
      rcases List.mem_cons.mp hy with rfl | hy
      · exact Int.le_trans h0 (Int.min_le_left ..)
      · rcases List.mem_cons.mp hy with rfl | hy
        · exact Int.le_trans h0 (Int.min_le_right ..)
        · exact h2 y (List.mem_cons_of_mem _ hy)
def hMax : List PyData → Option PyData
  | [.list ds] => (intsOf ds).bind fun ns => if ns.isEmpty then none else some (.int (maxI ns))
  | _ => none
def hMin : List PyData → Option PyData
  | [.list ds] => (intsOf ds).bind fun ns => if ns.isEmpty then none else some (.int (minI ns))
  | _ => none
theorem vf_max : VFf K (rMax K) hMax := by
  intro H vs ds F d r e Q q
  unfold hMax at e
  split at e
  · obtain ⟨ns, e1, e2⟩ := Option.bind_eq_some_iff.mp e
    split at e2
    · cases e2
    · cases e2
      obtain ⟨v, rfl, r1⟩ := r.one'
      cases r1 with
      | lst h0 r0 =>
        cases ns with
        | nil => simp at *
        | cons n ns =>
          refine ⟨_, n :: ns, rfl, .of (by rw [← intsOf_rp e1 r0]; exact h0), Nat.succ_pos _, fun m hm hy => ?_⟩
          obtain ⟨h1, h2⟩ := foldl_max ns n
          have : m = maxI (n :: ns) := Int.le_antisymm (h2 m hm) (hy _ h1)
          subst this
          exact q _ H (.refl H) (.int _)
  · cases e
theorem vf_min : VFf K (rMin K) hMin := by
  intro H vs ds F d r e Q q
  unfold hMin at e
  split at e
  · obtain ⟨ns, e1, e2⟩ := Option.bind_eq_some_iff.mp e
    split at e2
    · cases e2
    · cases e2
      obtain ⟨v, rfl, r1⟩ := r.one'
      cases r1 with
      | lst h0 r0 =>
        cases ns with
        | nil => simp at *
        | cons n ns =>
          refine ⟨_, n :: ns, rfl, .of (by rw [← intsOf_rp e1 r0]; exact h0), Nat.succ_pos _, fun m hm hy => ?_⟩
          obtain ⟨h1, h2⟩ := foldl_min ns n
          have : m = minI (n :: ns) := Int.le_antisymm (hy _ h1) (h2 m hm)
          subst this
          exact q _ H (.refl H) (.int _)
  · cases e
/-! ### list(..), tuple(..) -/
def gList : Gn := fun ds k => match ds with
  | [.list xs] => some (.list xs, lstK xs k)
  | [.tuple xs] => some (.list xs, lstK xs k)
  | _ => none
def gTuple : Gn := fun ds k => match ds with
  | [.list xs] => some (.tuple xs, tupK xs k)
  | [.tuple xs] => some (.tuple xs, tupK xs k)
  | _ => none
theorem vf_list : VF K (fun xs H Q => ∃ p ys, xs = [.ref p] ∧ (SqL K H p ys ∨ SqT K H p ys) ∧ ∀ l, H l = none → Q (.ref l) (upd H l (.lst ys))) gList := by
  intro ρ Fs H0 H vs ds F k d k' g r o e Q q
  unfold gList at e
  split at e
  · cases e
    obtain ⟨v, rfl, r1⟩ := r.one'
    cases r1 with
    | lst h0 r0 => exact ⟨_, _, rfl, .inl (.of h0), fun p hp => q _ _ _ (.new hp) (rp_lst r0 hp) (kv_lst r0 (o.sub (List.sublist_cons_self ..)) g hp)⟩
  · cases e
    obtain ⟨v, rfl, r1⟩ := r.one'
    cases r1 with
    | tup h0 r0 => exact ⟨_, _, rfl, .inr h0.1, fun p hp => q _ _ _ (.new hp) (rp_lst r0 hp) (kv_lst r0 o g hp)⟩
  · cases e
theorem vf_tuple : VF K (fun xs H Q => ∃ p ys, xs = [.ref p] ∧ ((SqL K H p ys ∧ ∀ (l : Addr) (o : Obj), o.dict = none → H l = none → Q (.ref l) (upd H l (.frz o (.tup ys)))) ∨ (SqT K H p ys ∧ Q (.ref p) H))) gTuple := by
  intro ρ Fs H0 H vs ds F k d k' g r o e Q q
  unfold gTuple at e
  split at e
  · cases e
    obtain ⟨v, rfl, r1⟩ := r.one'
    cases r1 with
    | lst h0 r0 => exact ⟨_, _, rfl, .inl ⟨.of h0, fun p ob ho hp => q _ _ _ (.new hp) (rp_tupN r0 hp ho) (kv_tup r0 (o.sub (List.sublist_cons_self ..)))⟩⟩
  · cases e
    obtain ⟨v, rfl, r1⟩ := r.one'
    cases r1 with
    | tup h0 r0 => exact ⟨_, _, rfl, .inr ⟨h0.1, q _ _ _ (.refl H) (.tup h0 r0) (kv_tup r0 o)⟩⟩
  · cases e
/-! ### join -/
def strsOf : List PyData → Option (List Str)
  | [] => some []
  | .str i :: ds => (strsOf ds).map (i :: ·)
  | _ => none
theorem strsOf_rp {H : Hp} : ∀ {ds : List PyData} {ns : List Str} {vs : List V} {F : List Addr}, strsOf ds = some ns → RpL K H vs ds F → vs = ns.map V.str
  | [], ns, vs, F, h, r => by cases h; cases r; rfl
  | .str i :: ds, ns, vs, F, h, r => by
    obtain ⟨ms, e1, e2⟩ := Option.map_eq_some_iff.mp h
    subst e2
    cases r with
    | cons r0 rs =>
      cases r0
      rw [List.map_cons, strsOf_rp e1 rs]
  | .none :: _, _, _, _, h, _ => by cases h
  | .int _ :: _, _, _, _, h, _ => by cases h
  | .bool _ :: _, _, _, _, h, _ => by cases h
  | .list _ :: _, _, _, _, h, _ => by cases h
  | .tuple _ :: _, _, _, _, h, _ => by cases h
  | .dict _ :: _, _, _, _, h, _ => by cases h
def rJoin (K : PySem.W.Frag) : V → List V → Hp → VK → Prop := fun x xs H Q => ∃ a p, ∃ ys : List Str, x = .str a ∧ xs = [.ref p] ∧ (SqL K H p (ys.map V.str) ∨ SqT K H p (ys.map V.str)) ∧
  (ys.map (·.length)).sum + ys.length * a.length ≤ 16777216 ∧ Q (.str (Txt.join a ys)) H
def joinD (a d : PyData) : Option PyData := match a, d with
  | .str a, .list ds => (strsOf ds).bind fun ys => if (ys.map (·.length)).sum + ys.length * a.length ≤ 1000000 then some (.str (Txt.join a ys)) else none
  | _, _ => none
def eM1 (h : PyData → PyData → Option PyData) (f g : EF) : EF := fun ρ => (f ρ).bind fun p => (g ρ).bind fun q => match p.1 with
  | .str _ => (h p.1 q.1).map fun d => (d, .mv [])
  | _ => none
theorem ve_join (ha : VE K ta f) (hb : VE K tb g) : VE K (tM1 (rJoin K) ta tb) (eM1 joinD f g) := by
  intro B AF σ H ρ Fs d k S e Q q
  obtain ⟨⟨d1, k1⟩, e1, e⟩ := Option.bind_eq_some_iff.mp e
  obtain ⟨⟨d2, k2⟩, e2, e⟩ := Option.bind_eq_some_iff.mp e
  simp only at e
  split at e
  case h_2 => cases e
  rename_i a
  obtain ⟨d3, e3, e4⟩ := Option.map_eq_some_iff.mp e
  cases e4
  refine ha B AF σ H ρ Fs _ k1 S e1 _ fun v H1 F g1 r1 o1 => ?_
  cases r1
  refine ⟨⟨_, rfl⟩, hb B AF σ H1 ρ Fs d2 k2 (S.grow g1) e2 _ fun u H2 G g2 r2 o2 => ?_⟩
  unfold joinD at e3
  split at e3
  · rename_i a' ds z
    cases z
    obtain ⟨ys, e5, e6⟩ := Option.bind_eq_some_iff.mp e3
    split at e6
    · rename_i hz
      cases e6
      cases r2 with
      | lst h0 r0 =>
        have := strsOf_rp e5 r0
        subst this
        exact ⟨_, _, ys, rfl, rfl, .inl (.of h0), Nat.le_trans hz (by decide), q _ H2 [] (g1.trans g2) (.str _) .nil⟩
    · cases e6
  · cases e3
/-! ### a star in a display -/
def aStar (f : EF) (g : AFn) : AFn := fun ρ => (f ρ).bind fun p => (g ρ).bind fun q => (iterD p.1).map fun ds => (ds ++ q.1, aj p.2 q.2)
theorem aj_sub {ρ : Env} {Fs : Nat → List Addr} {H : Hp} {F G : List Addr} {k : Kd} (o : KO ρ Fs H G k) (s : List.Sublist F G) : KO ρ Fs H F k := o.sub s
theorem va_star (h1 : VE K te f) (h2 : VA K t fa) : VA K (StX.tStar K te t) (aStar f fa) := by
  intro B AF σ H ρ Fs ds k S e Q q
  obtain ⟨⟨d, k1⟩, e1, e⟩ := Option.bind_eq_some_iff.mp e
  obtain ⟨⟨ds2, k2⟩, e2, e⟩ := Option.bind_eq_some_iff.mp e
  obtain ⟨ds1, e3, e4⟩ := Option.map_eq_some_iff.mp e
  cases e4
  refine h1 B AF σ H ρ Fs d k1 S e1 _ fun v H1 F g1 r1 o1 => ?_
  cases d with
  | list xs =>
    cases e3
    cases r1 with
    | lst h0 r0 =>
      refine ⟨_, _, rfl, .inr (.of h0), h2 B AF σ H1 ρ Fs ds2 k2 (S.grow g1) e2 _ fun vs H2 G g2 r2 o2 => ?_⟩
      exact q _ H2 _ (g1.trans g2) (RpL.app (r0.grow g2) r2) (KO.join S g1 (o1.1.sub (List.sublist_cons_self ..)) (fun a ha => r0.stn ha) o2)
  | tuple xs =>
    cases e3
    cases r1 with
    | tup h0 r0 =>
      refine ⟨_, _, rfl, .inl h0.1, h2 B AF σ H1 ρ Fs ds2 k2 (S.grow g1) e2 _ fun vs H2 G g2 r2 o2 => ?_⟩
      exact q _ H2 _ (g1.trans g2) (RpL.app (r0.grow g2) r2) (KO.join S g1 o1.1 (fun a ha => r0.stn ha) o2)
  | none => cases e3
  | bool _ => cases e3
  | int _ => cases e3
  | str _ => cases e3
  | dict _ => cases e3
end
end Va

/-! Va11: the rules of the syntax that these readings want; calls; repr; the law's end. -/
namespace Va
open PySem L2 PyProof.Rows

section
variable {X : Cx}
theorem op_addA : OpR X (binaryOp .Add) (rAddA X.K) := op_add.or (op_add_str.or (op_cat.or op_catN))
theorem op_mulA : OpR X (binaryOp .Mult) rMulA := op_mul.or op_rep
theorem op_eqA (hu : X.A.units + 64 < cLine) : OpR X (compareOp .Eq) (fun x y H Q => rEqD X.K x y H Q ∨ rEq x y H Q) := (op_eqD hu).or op_eq
theorem op_neA (hu : X.A.units + 64 < cLine) : OpR X (compareOp .NotEq) (fun x y H Q => rNeD X.K x y H Q ∨ rNe x y H Q) := (op_neD hu).or op_ne
theorem sl_any : SlR X (rSlAny X.K) := sl_list.or (sl_tupN.or sl_str)
theorem call_strA : CallR X (.type "str") rStrA := call_str_int.or SkE.call_str_str
theorem pi_any {tg l : Expr} {tl : TE} (hl : PE X l tl) : PI X tg l (iAny X.K tl) :=
  ⟨fun pins s σ H R I h => h.elim ((pi_list hl).run pins s σ H R I) ((pi_tup hl).run pins s σ H R I)⟩
end

/-- the def x: of n parameters, at the level k, does m -/
structure Cl (P : Program) (w : World) (K : PySem.W.Frag) (mg : Str → Option Value) (base : Heap) (x : Str) (k n : Nat) (m : MF) : Prop where
  ex : ∃ (f : Addr) (fd : FuncData) (ps : List Str), FnOk P w K mg base CX0 k f fd ps (spOf K n m) ∧ mg x = some (.ref f) ∧ PySem.W.keepIn K (.ref f) = true ∧ Binds K fd ps []
theorem pe_callC {X : Cx} {x : Str} {k j n : Nat} {m : MF} {e : Expr} {es : List Expr} {t : TA} {p pos : Pos} (C : Cl X.prog X.w X.K X.mg X.base x k n m) (hr : Room j X.A) (hj : k ≤ j) (ha : PA X (e :: es) t)
    (hg : Gl X x := by rfl) (hd : (x == ("__debug__" : Str)) = false := by decide) (he : starEach (e :: es) X.env = (false, eval e X.env) :: starEach es X.env := by rfl)
    (hp : (backTo pos (starEach es X.env)).any (·.1) = false := by rfl) : PE X (.Call (.Name x p) (e :: es) [] pos) (tCall (spOf X.K n m) [] E0 t) := by
  obtain ⟨f, fd, ps, F, h1, h2, h3⟩ := C.ex
  exact pe_call F (hr.mono hj) hg h1 h2 h3 .nil pass0 ha hd he hp

/-! ### repr -/
def rRepr (K : PySem.W.Frag) : List V → Hp → VK → Prop := fun vs H Q => ∃ x d, vs = [x] ∧ Dp K H x d ∧ PyData.showable d = true ∧ PyData.canLay0 d = true ∧ d.depth ≤ 60 ∧ d.shown.length ≤ sizeLine ∧ Q (.str d.shown) H
theorem hasDict_of : ∀ {d : PyData}, PyData.canLay0 d = true → d.hasDict = false := by
  intro d
  refine PyData.rec (motive_1 := fun d => PyData.canLay0 d = true → d.hasDict = false) (motive_2 := fun ds => PyData.canLayAll0 ds = true → PyData.hasDictAll ds = false) (motive_3 := fun _ => True) (motive_4 := fun _ => True) ?_ ?_ ?_ ?_ ?_ ?_ ?_ ?_ ?_ ?_ ?_ ?_ d
  · intro _; rfl
  · intro _ _; rfl
  · intro _ _; rfl
  · intro _ _; rfl
  · intro xs ih h; simp only [PyData.canLay0] at h; simp only [PyData.hasDict]; exact ih h
  · intro xs ih h; simp only [PyData.canLay0] at h; simp only [PyData.hasDict]; exact ih h
  · intro kvs _ h; simp [PyData.canLay0] at h
  · intro _; rfl
  · intro x xs h1 h2 h
    simp only [PyData.canLayAll0, Bool.and_eq_true] at h
    simp only [PyData.hasDictAll, h1 h.1, h2 h.2, Bool.or_self]
  · trivial
  · intros; trivial
  · intros; trivial
theorem cr_repr {X : Cx} (hg : X.A.guards = some []) (hu : X.A.units + 64 < cLine) : CallR X (.builtin "repr") (rRepr X.K) := by
  intro pins s σ H vs us Q I r h
  obtain ⟨x, d, rfl, hd, h1, h2, h3, h4, q⟩ := h
  obtain ⟨u, rfl, rx⟩ := vals1 r
  obtain ⟨as, rd⟩ := Dp.reads I d x u hd rx
  have fin : ∀ h' u' tk, (∀ b o, s.heap.get? b = some o → h'.get? b = some o) → EP X pins σ Q (.str d.shown u') { s with heap := h', toks := tk } := fun h' u' tk hk => ⟨.str d.shown, H, I.kept hk, ⟨u', rfl⟩, q⟩
  have ref : ∀ a, u = .ref a → wpAny (model X.prog X.w) X.A (call (.builtin "repr") [u]) (EP X pins σ Q) X.xe s := fun a e => by
    subst e
    exact repr_of_reads' rd h1 (fun e => by rw [hasDict_of h2] at e; cases e) hg (by omega) (fun _ _ e => e) (fun h' u' tk hk => fin h' u' tk hk) h4
  cases hd with
  | lst h0 r0 => cases rx; exact ref _ rfl
  | tup h0 r0 => cases rx; exact ref _ rfl
  | non => cases rx; exact PySem.P.repr_of_none (fin s.heap _ _ fun _ _ e => e)
  | bl b => cases rx; exact PySem.P.repr_of_bool (fin s.heap _ _ fun _ _ e => e)
  | int i =>
    obtain ⟨t, rfl⟩ := rx
    simp only [PyData.showable, decide_eq_true_eq] at h1
    exact PySem.P.repr_of_int h1 (fin s.heap _ _ fun _ _ e => e)
  | str z =>
    obtain ⟨t, rfl⟩ := rx
    exact PySem.P.repr_of_str (fin s.heap _ _ fun _ _ e => e) h4
def reprOk (d : PyData) : Bool := PyData.showable d && PyData.canLay0 d && decide (d.depth ≤ 60) && decide (d.shown.length ≤ 1000000)
def hRepr : List PyData → Option PyData
  | [d] => if reprOk d = true then some (.str d.shown) else none
  | _ => none
theorem vf_repr {K : PySem.W.Frag} : VFf K (rRepr K) hRepr := by
  intro H vs ds F d r e Q q
  unfold hRepr at e
  split at e
  · split at e
    · rename_i d' h
      cases e
      obtain ⟨v, rfl, r1⟩ := r.one'
      simp only [reprOk, Bool.and_eq_true, decide_eq_true_eq] at h
      exact ⟨v, d', rfl, r1.dp h.1.1.2, h.1.1.1, h.1.1.2, h.1.2, le_line h.2, q _ H (.refl H) (.str _)⟩
    · cases e
  · cases e

/-! ### a law: what it does to a list of ints -/
/-- as FnOk, where no repr runs around -/
structure FnG (P : Program) (w : World) (K : PySem.W.Frag) (mg : Str → Option Value) (base : Heap) (k : Nat) (f : Addr) (fd : FuncData) (ps : List Str) (sp : Sp) : Prop where
  len : ∀ vs H Q E, sp vs H Q E → vs.length = ps.length
  run : ∀ (A : Around) (outer : List PySem.Env) (s : Shared) (H : Hp) (args : Args) (us : List Value) (vs : List V) (Q : VK) (E : XK), A.guards = some [] → Room k A → Env0 P w K mg base A outer s H →
    BindsTo s fd args (ps.zip us) → Vals vs us → sp vs H Q E → codeAny (model P w) A (.call (.ref f) args) (CR CX0 outer P w H s Q E) s

/-- the body of such a def, where it is known that no repr runs around -/
theorem fnG_of {P : Program} {w : World} {K : PySem.W.Frag} {mg : Str → Option Value} {base : Heap} {x qual : Str} {st : Stmt} {f : Addr} {fd : FuncData} {N ps : List Str} {k : Nat} {sp : Sp} (F : Fun K x qual st f fd) (S : FnScope N ps (defScope st)) (len : ∀ vs H Q E, sp vs H Q E → vs.length = ps.length)
    (hbody : ∀ (cdv : Value) (A : Around) (outer : List PySem.Env) (s : Shared) (H : Hp) (vs : List V) (Q : VK) (E : XK), A.guards = some [] → Room k (A.deeper (envOfC qual (defScope st) s.heap.objs.size f cdv)) → sp vs H Q E →
      ∃ t, PSs (cxOf CX0 P w K mg base N qual (defScope st) f cdv A outer s H E).nox (defBody st) t ∧ t { nx := fun _ H' => Q .non H', rt := Q } (L2.start N vs) H) : FnG P w K mg base (k + 1) f fd ps sp := by
  obtain ⟨oc, od, kV, doc, pm, an, cdv, ct, osl, rfl, lk, hcd⟩ := F.ex
  constructor
  · exact len
  intro A outer s H args us vs Q E gd room e0 bd rel hs
  have inn : ∀ b o, base.get? b = some o → s.heap.get? b = some o := fun b o e => (e0.bs b o e).1
  have KX : K.In s.heap := e0.mod.kin.keeps inn
  have lim := e0.mod.nolimit.keeps inn
  have kinds : ∀ y ∈ ps.zip us, (defScope st).names.lookup y.1 = some .local ∨ ((defScope st).names.lookup y.1 = some .cell ∧ ((PySem.cellsFrom (s.heap.objs.size + 1) (defScope st).names []).lookup y.1).isSome = true) := by
    rintro ⟨n, v⟩ hy
    rcases S.par n (List.of_mem_zip hy).1 with z | z
    · exact .inl z
    · exact .inr ⟨z, PySem.W.cellsFrom_some _ _ _ (.inl z)⟩
  refine codeAny_call_function room.depth (KX _ _ lk) rfl S.co S.gen rfl (PySem.W.codeRec_of KX hcd) (bd _ _ _ _ ?_)
  refine wpAny_newFunctionEnv_cells S.kind kinds fun env he s1 x => ?_
  subst he
  refine ⟨lim.keeps x.toInCall.keep, codeAny_func ?_⟩
  obtain ⟨t, ht, hq⟩ := hbody cdv A outer s H vs Q E gd (room.deeper _) hs
  have I := inv_start (CX := CX0) (P := P) (w := w) (K := K) (mg := mg) (base := base) (E := E) S room.hd e0 (len _ _ _ _ hs) rel x
  refine wpAny_mono (ht.nox.run [] s1 _ H _ I hq) (fun fl s' z => ?_) fun _ _ z => z
  cases fl with
  | ret u =>
    obtain ⟨v, σ', H', J, rv, q⟩ := z
    exact ⟨v, H', J.os, J.bare, J.base, J.hok, rv, q⟩
  | next =>
    obtain ⟨σ', H', J, q⟩ := z
    exact ⟨.non, H', J.os, J.bare, J.base, J.hok, rfl, q⟩
  | brk => obtain ⟨_, _, _, q⟩ := z; exact q.elim
  | cont => obtain ⟨_, _, _, q⟩ := z; exact q.elim

/-- the script alone is tracked, as a thing that the model knows -/
def scriptH (K : PySem.W.Frag) (a : Addr) (o : Obj) (vs : List V) : Hp := fun b => if b = a ∧ K.lookup a = none then some (.frz o (.lst vs)) else none
theorem scriptH_some {K : PySem.W.Frag} {a b : Addr} {o : Obj} {vs : List V} {u : HO} (h : scriptH K a o vs b = some u) : b = a ∧ K.lookup a = none ∧ u = .frz o (.lst vs) := by
  unfold scriptH at h
  split at h
  · rename_i hc
    cases h
    exact ⟨hc.1, hc.2, rfl⟩
  · cases h
/-- a def that keeps its promise at the law's entry, called there -/
theorem enter_G {P : Program} {w : World} {K : PySem.W.Frag} {mg mb : Str → Option Value} {k : Nat} {fa a : Addr} {fd : FuncData} {x : Str} {sp : Sp} {s : Shared} {vs : List Value} {ns : List Int}
    (KX : K.In s.heap) (hm : s.heap.Ns mainGlobals mg) (hb : s.heap.Ns builtinsNs mb) (hbb : ∀ y : Str, y ≠ "__name__" → mb y = bootBuiltins y) (lim : s.heap.NoLimit) (hg : s.gens = #[])
    (ha : s.heap.get? a = some { cls := .type "list", data := .seq vs.toArray }) (hi : IntsAre vs ns) (hl : ns.length ≤ sizeLine) (room : Room k callerA)
    (F : ∀ base : Heap, K.In base → base.Ns mainGlobals mg → FnG P w K mg base k fa fd [x] sp) (bd : ∀ (s : Shared) (u : Value), BindsTo s fd ⟨[u], []⟩ [(x, u)])
    (hsp : ∀ H : Hp, SqL K H a (ns.map V.int) → sp [.ref a] H (fun v _ => v = .bl true) fun _ _ _ => False) :
    codeAny (model P w) callerA (.call (.ref fa) ⟨[.ref a], []⟩) (fun r s' => r = .ok (.ret (.bool true)) ∧ OldK s.heap s'.heap ∧ s'.os = s.os ∧ AllBare s'.gens) s := by
  have rel := vals_ints hi
  let o : Obj := { cls := .type "list", data := .seq vs.toArray }
  let H := scriptH K a o (ns.map V.int)
  -- a thing that is tracked is the script
  have only : ∀ {b : Addr} {u : HO}, H b = some u → b = a ∧ K.lookup a = none ∧ u = .frz o (.lst (ns.map V.int)) := fun e => scriptH_some e
  have notd : ∀ {b : Addr} {ob : Obj} {es : Array DictEntry} {n : Nat}, s.heap.get? b = some ob → ob.data = .dict es n → H b = none := fun {b ob es n} e d => by
    cases q : H b with
    | none => rfl
    | some u =>
      obtain ⟨rfl, _, _⟩ := only q
      rw [ha] at e
      cases e
      have d' : Data.seq vs.toArray _ = Data.dict es n := d
      cases d'
  have sqK : SqL K H a (ns.map V.int) := by
    cases hk : K.lookup a with
    | none => exact .inl (.inr ⟨o, if_pos ⟨rfl, hk⟩⟩)
    | some ok =>
      have e := KX a ok hk
      rw [ha] at e
      cases e
      refine .inr ⟨_, vs.toArray, _, hk, rfl, rfl, rfl, ?_, by simpa using rel⟩
      rw [List.size_toArray, hi.length]
      exact hl
  have hok : HOk P w H s.heap := fun b u e => by
    obtain ⟨rfl, _, rfl⟩ := only e
    refine ⟨ha, ?_, vs, _, rel, ha⟩
    rw [List.length_map]
    exact hl
  let base := hidT s.heap H
  have toB : ∀ {b : Addr} {ob : Obj}, s.heap.get? b = some ob → H b = none → base.get? b = some ob := fun e n => hidT_get e n
  have nsB : ∀ {b : Addr} {m : Str → Option Value}, s.heap.Ns b m → base.Ns b m := fun ⟨ob, es, n, e, d, r⟩ => ⟨ob, es, n, toB e (notd e d), d, r⟩
  have KB : K.In base := fun b ob e => toB (KX b ob e) (by
    cases q : H b with
    | none => rfl
    | some u =>
      obtain ⟨rfl, z, _⟩ := only q
      rw [z] at e
      cases e)
  have M : Mod K mg base := ⟨KB, nsB hm, ⟨mb, nsB hb, hbb⟩, lim.elim fun mc z => ⟨mc, nsB z.1, z.2⟩⟩
  have e0 : Env0 P w K mg base callerA [] s H := by
    refine ⟨rfl, M, fun b ob e => of_hidT e, Nat.le_of_eq (hidT_size _ _), trivial, fun b hb => ?_, hok, .of_eq hg⟩
    exact absurd (show b ∈ ([] : List Addr) from hb) List.not_mem_nil
  refine codeAny_mono ((F base KB (nsB hm)).run callerA [] s H ⟨[.ref a], []⟩ [.ref a] [.ref a] _ _ rfl room e0 (bd s (.ref a)) (.cons rfl .nil) (hsp H sqK)) fun r s' z => ?_
  cases r with
  | error e => exact z.elim
  | ok fl =>
    cases fl with
    | next => exact z.elim
    | brk => exact z.elim
    | cont => exact z.elim
    | ret u =>
      obtain ⟨v, H', os, bare, un, hok', rv, q⟩ := z
      have q' : v = .bl true := q
      subst q'
      obtain rfl : u = Value.bool true := rv
      refine ⟨rfl, OldK.of_keep fun b ob e => ?_, os, bare⟩
      cases y : H b with
      | none => exact un.keep b ob e y (fun z => absurd (show b ∈ ([] : List Addr) from z) List.not_mem_nil) List.not_mem_nil
      | some u =>
        obtain ⟨rfl, _, rfl⟩ := only y
        obtain ⟨e1, _⟩ := hok' b _ (un.frzs b o _ y)
        rw [ha] at e
        cases e
        exact e1
/-- what a law is to do: its def, called with a list of at most 63 ints, gives True -/
def spLaw (K : PySem.W.Frag) : Sp := fun vs H Q _ => LamX.Tabs TABS H ∧ ∃ (a : Addr) (ns : List Int), vs = [.ref a] ∧ SqL K H a (ns.map V.int) ∧ ns.length ≤ 63 ∧ ∀ H', Q (.bl true) H'
theorem walk_G {l : PySem.W.OpenLaw} {k : Nat} {q : Program} {loose : List Str} {XP : (Str → Option Value) → Heap → Prop} {YP : World → Heap → Prop} {d : DefRec} {K : Params → PySem.W.Frag} {x : Str}
    (h0 : TABS = []) (hn : l.most = some 63) (hdf : d.params.defaults = []) (room : Room k callerA) (hY : ∀ (w : World) (h : Heap), YP w h → (K w.params).In h)
    (F : ∀ (w : World) (mg : Str → Option Value) (fa : Addr) (h : Heap), (K w.params).In h → h.Ns mainGlobals mg → mg d.name = some (.ref fa) →
      ∃ fd : FuncData, (∀ (s : Shared) (u : Value), BindsTo s fd ⟨[u], []⟩ [(x, u)]) ∧ ∀ base : Heap, (K w.params).In base → base.Ns mainGlobals mg → FnG l.prog w (K w.params) mg base k fa fd [x] (spLaw (K w.params))) :
    PySem.W.WalkO q loose XP YP l.row.toRowW d [] (fun f vs => PySem.call f vs) := by
  refine Att.attach_call hn hdf fun w s0 s1 mg mb fa o pm cd doc a vs ns G Y ho hd hcd hmg hobj hints hlen hg => ?_
  have KX := hY w _ Y
  obtain ⟨fd, hb, hF⟩ := F w mg fa _ KX G.T.g hmg
  exact enter_G KX G.T.g G.T.b G.T.builtins G.T.nolimit hg hobj hints (Nat.le_trans hlen (by rw [sizeLine_eq]; decide)) room hF hb fun H hS => ⟨fun p hp => (by rw [h0] at hp; cases hp), a, ns, rfl, hS, hlen, fun _ => rfl⟩
end Va

/-! Va12: a, b = ..; the laws' draws. -/
namespace Va
open PySem L2

section
variable {K : PySem.W.Frag} {Wx : WxT} {te : TE} {f : EF} {g : TG} {st : SG} {ns : List Nat}
/-- a, b, .. = value -/
def sAsgT (st : SG) (f : EF) : SF := fun ρ => (f ρ).bind fun p => (st p.1 (dem p.2.src ρ)).map .nx
theorem asg_core {B : Hp} {AF : List Addr} {σ : L2.St} {H H1 : Hp} {ρ ρ' : Env} {Fs : Nat → List Addr} {v : V} {F : List Addr} {d : PyData} {k : Kd} {C : L2.St → Hp → Prop} (hg : VG K ns g st) (S : SR K B AF σ H ρ Fs) (g1 : Grow H H1) (r1 : Rp K H1 v d F) (o1 : KV ρ Fs H v F k) (e3 : st d (dem k.src ρ) = some ρ')
    (p : ∀ σ' Fs', SR K B AF σ' H1 ρ' Fs' → Fr ns σ H ρ Fs σ' H1 ρ' Fs' → C σ' H1) : g v σ H1 C := by
  have less : ∀ (i : Nat) (d : PyData) (m : Nat), (dem k.src ρ)[i]? = some (some (d, m)) → ∃ m0, ρ[i]? = some (some (d, m0)) ∧ (m = m0 ∨ m = 0) := fun i d m q => let ⟨m0, q0, q1, _⟩ := dem_get q; ⟨m0, q0, q1⟩
  have S1 : SR K B AF σ H1 (dem k.src ρ) Fs := (S.grow g1).less (dem_len _) less
  have fr : Free (dem k.src ρ) Fs F := fun j e n q a ha hF => by
    obtain ⟨n0, q0, q1, q2⟩ := dem_get q
    rcases o1.1.any a hF with z | ⟨l, hl, ⟨d', m', z⟩, ma⟩
    · exact S.there q0 (Mf_sub ha) z
    · by_cases e' : j = l
      · subst e'
        rw [q2 hl, Mf0] at ha; cases ha
      · exact S.dis j l e n0 d' m' q0 z e' a (Mf_le q1 ha) ma
  refine hg B AF σ H1 _ ρ' Fs v d F S1 r1 (rok_of S o1).1 fr e3 _ fun σ' Fs' S' T => p σ' Fs' S' ?_
  refine Fr.from_ (H' := H1) (ρ' := dem k.src ρ) ?_ g1 less
  refine ⟨fun a h => h, fun a o _ h _ => h, fun j hj d m q a ha => ?_, fun j hj => ?_⟩
  · rw [(T.ins j hj d m q).1] at ha
    cases ha
  · obtain ⟨h1, h2, h3⟩ := T.out j hj
    exact ⟨h1, fun d m q => ⟨m, by rw [← h2]; exact q, h3, fun a ha => ha⟩⟩
theorem vs_asgT (hg : VG K ns g st) (h : VE K te f) : VS K Wx ns (tAsg te g) (sAsgT st f) := by
  intro B AF σ H ρ Fs o S e D p
  obtain ⟨⟨d, k⟩, e1, e2⟩ := Option.bind_eq_some_iff.mp e
  obtain ⟨ρ', e3, e4⟩ := Option.map_eq_some_iff.mp e2
  subst e4
  exact h B AF σ H ρ Fs d k S e1 _ fun v H1 F g1 r1 o1 => asg_core hg S g1 r1 o1 e3 fun σ' Fs' S' F' => p σ' H1 Fs' S' F'
end

/-! ### draws -/
def intsD (ds : List Int) : PyData := .list (ds.map PyData.int)
theorem rp_ints {K : PySem.W.Frag} {H : Hp} : ∀ ns : List Int, RpL K H (ns.map V.int) (ns.map PyData.int) []
  | [] => .nil
  | n :: ns => by
    have := RpL.cons (K := K) (H := H) (.int n) (rp_ints ns)
    exact this
theorem flat_ints : ∀ ns : List Int, flatL (ns.map PyData.int) = true
  | [] => rfl
  | n :: ns => by simp only [List.map_cons, flatL, flat, flat_ints ns, Bool.and_self]
def Drawn (n : Nat) (ds : List Int) : Prop := ds.length = n ∧ ∀ d ∈ ds, 0 ≤ d ∧ d < 1000
/-- the def that draws: from the script and a count a new list of that many ints from 0 to 999 -/
def spDraws (K : PySem.W.Frag) : Sp := fun vs H Q _ => LamX.Tabs TABS H ∧ ∃ (a : Addr) (ns : List Int) (n : Nat), vs = [.ref a, .int n] ∧ SqL K H a (ns.map V.int) ∧ ns.length ≤ 63 ∧ n ≤ 1000 ∧
  ∀ ds : List Int, Drawn n ds → ∀ v H' G, Grow H H' → Rp K H' v (intsD ds) G → ROk 2 H [] v G → Q v H'
/-- [c for c in script] -/
theorem draw_copy {K : PySem.W.Frag} {σ : L2.St} {H : Hp} {a : Addr} {ns : List Int} {c : Nat} {Q : VK} (h0 : σ[0]? = some (some (.ref a))) (hS : SqL K H a (ns.map V.int)) (hl : ns.length ≤ 63) (hc : c < σ.length)
    (q : ∀ D H', Grow H H' → H D = none → H' D = some (.lst (ns.map V.int)) → Q (.ref D) H') : tLc (iList K (tVar 0)) (gName c) tYes (tVar c) [c] σ H Q := by
  refine ⟨_, h0, a, rfl, ⟨_, hS⟩, fun D hD => ?_⟩
  refine lc_list (xs := ns.map V.int) (fun i H' => Grow H H' ∧ H' D = some (.lst ((ns.map V.int).take i))) ⟨.new hD, upd_same⟩ (fun i H' _ w => ?_) (fun i x H' hx w => ⟨?_, ?_⟩) fun H' w => ?_
  · rcases hS with (h | ⟨o, h⟩) | h
    · exact .inl (.inl (w.1 _ _ h))
    · exact .inl (.inr ⟨o, w.1 _ _ h⟩)
    · exact .inr h
  · exact (wipe_set (x := some x) [c] (wipe σ [c]) (List.mem_singleton.mpr rfl)).trans (wipe_sub [c] fun _ h => h)
  · have hx' : ((wipe σ [c]).set c (some x))[c]? = some (some x) := by
      rw [List.getElem?_set_self]
      rw [wipe_length]
      exact hc
    refine ⟨x, hx', (ns.map V.int).take i, w.2, ?_, w.1.upd hD (.lst w.2), ?_⟩
    · have : ((ns.map V.int).take i).length ≤ 63 := by
        rw [List.length_take, List.length_map]
        omega
      exact lt_line (by omega)
    · rw [upd_same]
      obtain ⟨h1, h2⟩ := List.getElem?_eq_some_iff.mp hx
      rw [List.take_succ_eq_append_getElem h1, h2]
  · have e := w.2
    rw [List.take_length] at e
    exact q D H' w.1 hD e
/-- the state with one own list of ints, at i -/
theorem sr_one {K : PySem.W.Frag} {H H' : Hp} {σ : L2.St} {i : Nat} {v : V} {ds : List Int} {G : List Addr} (hi : i < σ.length) (g : Same H H') (r : Rp K H' v (intsD ds) G) (o : ROk 2 H [] v G) :
    SR K H [] (σ.set i (some v)) H' ((List.replicate σ.length none).set i (some (intsD ds, 2))) (fun _ => G) := by
  have live : ∀ (j : Nat) (d : PyData) (m : Nat), ((List.replicate σ.length (none : Sl)).set i (some (intsD ds, 2)))[j]? = some (some (d, m)) → j = i ∧ d = intsD ds ∧ m = 2 := by
    intro j d m q
    rcases set_some q with ⟨h, z⟩ | ⟨_, z⟩
    · cases z; exact ⟨h, rfl, rfl⟩
    · rw [List.getElem?_replicate] at z
      split at z <;> cases z
  refine ⟨by simp, g, fun j d m q => ?_, fun j j' d m d' m' q q' ne a ha => ?_⟩
  · obtain ⟨rfl, rfl, rfl⟩ := live j d m q
    obtain ⟨o1, o2, _⟩ := o
    obtain ⟨n1, n2⟩ := o2 rfl
    exact ⟨v, by rw [List.getElem?_set_self hi], r, fun a ha => .inl (n2 a ha), fun a ha => n2 a ha, fun z => (nomatch z), fun _ => n1⟩
  · obtain ⟨rfl, _, _⟩ := live j d m q
    obtain ⟨rfl, _, _⟩ := live j' d' m' q'
    exact absurd rfl ne
/-- a law that draws n numbers into the slot i and then goes on -/
theorem law_draws {K : PySem.W.Frag} {Wx : WxT} {wr : List Nat} {tr : TS} {f : SF} {N : List Str} {i n : Nat} {vs : List V} {H : Hp} {Q : VK} {E : XK} (h : VS K Wx wr tr f) (hs : spLaw K vs H Q E) (hn : n ≤ 1000) (hi : i < N.length) (h0 : 0 < N.length)
    (hf : ∀ ds : List Int, Drawn n ds → f ((List.replicate N.length none).set i (some (intsD ds, 2))) = some (.rt (.bool true) 2)) :
    tSeq (tAsg (tCall (spDraws K) [] E0 (tCons (tVar 0) (tCons (tC (.int (n : Nat))) tNil))) (gName i)) tr { nx := fun _ H' => Q .non H', rt := Q } (L2.start N vs) H := by
  obtain ⟨tb, a, ns, rfl, hS, hl, q⟩ := hs
  have ln : (L2.start N [V.ref a]).length = N.length := by
    unfold L2.start
    simp only [List.length_append, List.length_map, List.length_replicate, List.length_cons, List.length_nil]
    omega
  refine ⟨_, rfl, tb, a, ns, n, rfl, hS, hl, hn, fun ds hd v H' G g r o => ?_⟩
  have S := sr_one (σ := L2.start N [V.ref a]) (by rw [ln]; exact hi) ⟨g, tb⟩ r o
  rw [ln] at S
  refine h H [] _ H' _ _ _ S (hf ds hd) _ ?_
  intro v' H2 G' g2 r2 _
  rw [rp_bool r2]
  exact q H2
end Va

/-! Va13: calls with keywords; loops by an invariant; the draws. -/
namespace Va
open PySem L2 PyProof.Rows

def noX : WxT := fun _ _ _ _ => True
def eIf (c : Env → Option Bool) (f g : EF) : EF := fun ρ => (c ρ).bind fun x => if x = true then f ρ else g ρ
theorem spDraws_len {K : PySem.W.Frag} {vs : List V} {H : Hp} {Q : VK} {E : XK} (h : spDraws K vs H Q E) : vs.length = 2 := by
  obtain ⟨_, a, ns, n, rfl, _⟩ := h
  rfl
theorem spLaw_len {K : PySem.W.Frag} {vs : List V} {H : Hp} {Q : VK} {E : XK} (h : spLaw K vs H Q E) : vs.length = 1 := by
  obtain ⟨_, a, ns, rfl, _⟩ := h
  rfl
/-! ### calls -/
structure Cd (P : Program) (w : World) (K : PySem.W.Frag) (mg : Str → Option Value) (base : Heap) (x : Str) (k : Nat) : Prop where
  ex : ∃ (f : Addr) (fd : FuncData) (ps : List Str), FnOk P w K mg base CX0 k f fd ps (spDraws K) ∧ mg x = some (.ref f) ∧ PySem.W.keepIn K (.ref f) = true ∧ Binds K fd ps []
theorem pe_callD {X : Cx} {x : Str} {k j : Nat} {e : Expr} {es : List Expr} {t : TA} {p pos : Pos} (C : Cd X.prog X.w X.K X.mg X.base x k) (hr : Room j X.A) (hj : k ≤ j) (ha : PA X (e :: es) t)
    (hg : Gl X x := by rfl) (hd : (x == ("__debug__" : Str)) = false := by decide) (he : starEach (e :: es) X.env = (false, eval e X.env) :: starEach es X.env := by rfl)
    (hp : (backTo pos (starEach es X.env)).any (·.1) = false := by rfl) : PE X (.Call (.Name x p) (e :: es) [] pos) (tCall (spDraws X.K) [] E0 t) := by
  obtain ⟨f, fd, ps, F, h1, h2, h3⟩ := C.ex
  exact pe_call F (hr.mono hj) hg h1 h2 h3 .nil pass0 ha hd he hp
/-- .. with keyword-only parameters, none of them with a default: np positional ones, the keywords ks -/
structure Ck (P : Program) (w : World) (K : PySem.W.Frag) (mg : Str → Option Value) (base : Heap) (x : Str) (k n : Nat) (m : MF) (np : Nat) (ks : List Str) : Prop where
  ex : ∃ (f : Addr) (fd : FuncData) (ps : List Str), FnOk P w K mg base CX0 k f fd ps (spOf K n m) ∧ mg x = some (.ref f) ∧ PySem.W.keepIn K (.ref f) = true ∧ KBn K fd ps np ks (fun us ws => us ++ ws) (fun vs zs => vs ++ zs)
theorem pe_callKC {X : Cx} {x : Str} {k j n np : Nat} {m : MF} {ks : List Str} {e : Expr} {es : List Expr} {kws : List Keyword} {t tk : TA} {p pos : Pos} (C : Ck X.prog X.w X.K X.mg X.base x k n m np ks) (hr : Room j X.A) (hj : k ≤ j) (ha : PA X (e :: es) t) (hk : PK X kws tk)
    (hg : Gl X x := by rfl) (h1 : (backToKw pos (keywordEach kws X.env)).all (·.1.isSome) = true := by rfl) (h2 : (backToKw pos (keywordEach kws X.env)).filterMap (·.1) = ks := by rfl)
    (hd : (x == ("__debug__" : Str)) = false := by decide) (he : starEach (e :: es) X.env = (false, eval e X.env) :: starEach es X.env := by rfl)
    (hp : ((backTo pos (starEach (e :: es) X.env)).any (·.1) || (backToKw pos (keywordEach kws X.env)).any (·.1.isNone)) = false := by rfl) :
    PE X (.Call (.Name x p) (e :: es) kws pos) (tCallN np ks.length (spOf X.K n m) (fun vs zs => vs ++ zs) E0 t tk) := by
  obtain ⟨f, fd, ps, F, a1, a2, a3⟩ := C.ex
  exact pe_callN F (hr.mono hj) hg a1 a2 a3 pass0 ha hk h1 h2 hd he hp
theorem kbinds_of {K : PySem.W.Frag} {x qual : Str} {st : Stmt} {f : Addr} {fd : FuncData} {ps ks : List Str} {np : Nat} (F : Fun K x qual st f fd)
    (h : ∀ (us ws : List Value) (kV doc pm : Value) (an : Option Addr) (cdv ct : Value), us.length = np → ws.length = ks.length → bindArgs (PySem.W.fnOf x qual (defArgs st) (defBody st) (defScope st) .none kV doc pm an cdv ct) ⟨us, ks.zip ws⟩ = pure (ps.zip (us ++ ws))) :
    KBn K fd ps np ks (fun us ws => us ++ ws) (fun vs zs => vs ++ zs) := by
  obtain ⟨oc, od, kV, doc, pm, an, cdv, ct, osl, rfl, lk, hcd⟩ := F.ex
  exact ⟨fun s us ws _ h1 h2 => .of_eq (h us ws kV doc pm an cdv ct h1 h2), fun r1 r2 => r1.append r2⟩
def gCallK (np nk n : Nat) (m : MF) (fa fk : AFn) : EF := fun ρ => (fa ρ).bind fun p => (fk ρ).bind fun q => if p.1.length = np ∧ q.1.length = nk then gCall n m (p.1 ++ q.1) (aj p.2 q.2) else none
theorem ve_callN {K : PySem.W.Frag} {ta tk : TA} {fa fk : AFn} {n np nk : Nat} {m : MF} {E : XK} (h : VA K ta fa) (hk : VA K tk fk) : VE K (tCallN np nk (spOf K n m) (fun vs zs => vs ++ zs) E ta tk) (gCallK np nk n m fa fk) := by
  intro B AF σ H ρ Fs d k S e Q q
  obtain ⟨⟨ds1, k1⟩, e1, e⟩ := Option.bind_eq_some_iff.mp e
  obtain ⟨⟨ds2, k2⟩, e3, e⟩ := Option.bind_eq_some_iff.mp e
  split at e
  case isFalse => cases e
  rename_i hl
  refine h B AF σ H ρ Fs ds1 k1 S e1 _ fun vs H1 F g1 r1 o1 => ?_
  refine hk B AF σ H1 ρ Fs ds2 k2 (S.grow g1) e3 _ fun zs H2 G g2 r2 o2 => ⟨by rw [r1.length]; exact hl.1, by rw [r2.length]; exact hl.2, ?_⟩
  have := vf_call (E := E) ρ Fs H H2 (vs ++ zs) (ds1 ++ ds2) (F ++ G) (aj k1 k2) d k (S.grow (g1.trans g2)).same.tab (g1.trans g2) (RpL.app (r1.grow g2) r2) (KO.join S g1 o1 (fun a ha => r1.stn ha) o2) e Q fun v H3 G' g3 r3 o3 => q v H3 G' ((g1.trans g2).trans g3) r3 o3
  simp only [List.append_nil] at this
  exact this
/-! ### zip -/
def zipD : List PyData → List PyData → List PyData
  | a :: as, b :: bs => wrap (.tuple [a, b]) :: zipD as bs
  | _, _ => []
def iZp (f : AFn) : IF := fun ρ => (f ρ).bind fun p => match p.1 with
  | [.list xs, .list ys] => some (zipD xs ys, p.2)
  | [.tuple xs, .tuple ys] => some (zipD xs ys, p.2)
  | _ => none
/-! ### loops by what holds at their head -/
/-- P i: what holds of the slots behind i items (those that are told no more left out) -/
theorem loopF_P {st : SG} {fb : SF} {fg : List Nat} (P : Nat → Env → Prop) : ∀ (ds : List PyData) (ρ : Env) (n : Nat), (∀ (i : Nat) (d : PyData), ds[i]? = some d → ∀ ρ, P (n + i) ρ → ∃ ρ1 ρ2, st d ρ = some ρ1 ∧ fb ρ1 = some (.nx ρ2) ∧ P (n + i + 1) (kil fg ρ2)) →
    P n (kil fg ρ) → ∃ ρ', loopF st fb fg ds ρ = some (.nx ρ') ∧ P (n + ds.length) ρ'
  | [], ρ, n, _, h0 => ⟨_, rfl, h0⟩
  | d :: ds, ρ, n, hs, h0 => by
    obtain ⟨ρ1, ρ2, e1, e2, h1⟩ := hs 0 d rfl _ h0
    obtain ⟨ρ', e3, h3⟩ := loopF_P P ds ρ2 (n + 1) (fun i d' hd ρ h => by
      have h' : P (n + (i + 1)) ρ := by rw [show n + (i + 1) = n + 1 + i by omega]; exact h
      obtain ⟨a, b, c1, c2, c3⟩ := hs (i + 1) d' (by simpa using hd) ρ h'
      exact ⟨a, b, c1, c2, by rw [show n + 1 + i + 1 = n + (i + 1) + 1 by omega]; exact c3⟩) h1
    refine ⟨ρ', ?_, by rw [show n + (d :: ds).length = n + 1 + ds.length by simp; omega]; exact h3⟩
    show (st d (kil fg ρ)).bind _ = _
    rw [e1]
    show (fb ρ1).bind _ = _
    rw [e2]
    exact e3
end Va

/-! Va14: what is worked out over slots; the laws' draws. -/
namespace Va
open PySem L2 PyProof.Rows

/-! ### working out -/
section
variable {ds : List PyData} {ns : List Int} {ks : List Bool}
@[simp] theorem flat_int {i : Int} : flat (.int i) = true := by simp only [flat]
@[simp] theorem flat_bool {i : Bool} : flat (.bool i) = true := by simp only [flat]
@[simp] theorem flat_str {i : Str} : flat (.str i) = true := by simp only [flat]
@[simp] theorem flat_none : flat .none = true := by simp only [flat]
@[simp] theorem flat_list : flat (.list ds) = false := by simp only [flat]
@[simp] theorem flat_tuple : flat (.tuple ds) = flatL ds := by simp only [flat]
@[simp] theorem flatL_nil : flatL [] = true := by simp only [flatL]
@[simp] theorem flatL_cons {d : PyData} : flatL (d :: ds) = (flat d && flatL ds) := by simp only [flatL]
@[simp] theorem flatL_app {es : List PyData} : flatL (ds ++ es) = (flatL ds && flatL es) := by
  induction ds with
  | nil => simp
  | cons d ds ih => simp [ih, Bool.and_assoc]
theorem flatL_all {α : Type} {f : α → PyData} (h : ∀ x, flat (f x) = true) : ∀ xs : List α, flatL (xs.map f) = true
  | [] => by simp
  | x :: xs => by simp [h, flatL_all h xs]
@[simp] theorem flatL_ints : flatL (ns.map PyData.int) = true := flatL_all (fun _ => by simp) ns
@[simp] theorem flatL_bools : flatL (ks.map PyData.bool) = true := flatL_all (fun _ => by simp) ks
@[simp] theorem intsOf_map : intsOf (ns.map PyData.int) = some ns := by
  induction ns with
  | nil => rfl
  | cons n ns ih => simp [intsOf, ih]
@[simp] theorem boolsOf_map : boolsOf (ks.map PyData.bool) = some ks := by
  induction ks with
  | nil => rfl
  | cons n ns ih => simp [boolsOf, ih]
@[simp] theorem flatL_from {lo : Int} {n : Nat} : flatL (intsFrom lo n) = true := flatL_all (fun _ => by simp) _
theorem atI_nat {α : Type} {xs : List α} {i : Int} (h0 : 0 ≤ i) : atI xs i = xs[i.toNat]? := by
  unfold atI ixN
  by_cases h : i.toNat < xs.length
  · have : i < (xs.length : Int) := by omega
    simp [h0, this, show ¬ i < 0 by omega]
  · have : ¬ i < (xs.length : Int) := by omega
    simp [this, show ¬ i < 0 by omega, List.getElem?_eq_none (Nat.le_of_not_lt h)]
end
section
variable {K : PySem.W.Frag}
theorem ve_int {i : Int} : VE K (tC (.int i)) (eC (.int i)) := ve_c rfl
theorem ve_bl {b : Bool} : VE K (tC (.bl b)) (eC (.bool b)) := ve_c rfl
theorem ve_str {s : Str} : VE K (tC (.str s)) (eC (.str s)) := ve_c rfl
theorem ve_non : VE K (tC .non) (eC .none) := ve_c True.intro
end
/-! ### combinators, worked out from the left -/
def seqK (o : Option Out) (g : SF) : Option Out := o.bind fun o => match o with
  | .nx ρ' => g ρ'
  | o => some o
def ifK (b : Option Bool) (f g : SF) (ρ : Env) : Option Out := b.bind fun b => if b = true then f ρ else g ρ
def retK (p : Option (PyData × Kd)) : Option Out := p.map fun p => .rt p.1 (rk p.2)
def dropK (p : Option (PyData × Kd)) (ρ : Env) : Option Out := p.map fun _ => .nx ρ
def appK (p : Option (List PyData × Kd)) (g : Gn) : Option (PyData × Kd) := p.bind fun p => g p.1 p.2
def consK (p : Option (PyData × Kd)) (q : Option (List PyData × Kd)) : Option (List PyData × Kd) := p.bind fun p => q.bind fun q => some (p.1 :: q.1, aj p.2 q.2)
def starK (p : Option (PyData × Kd)) (q : Option (List PyData × Kd)) : Option (List PyData × Kd) := p.bind fun p => q.bind fun q => (iterD p.1).map fun ds => (ds ++ q.1, aj p.2 q.2)
def varD (d : PyData) (m i : Nat) : Kd := if flat d then .mv [] else if m = 2 then .mv [i] else .bo [i]
def varK (i : Nat) (s : Option Sl) : Option (PyData × Kd) := match s with
  | some (some (d, m)) => some (d, varD d m i)
  | _ => none
def valK (p : Option (PyData × Kd)) : Option Bool := p.bind fun p => bOf p.1
def truK (p : Option (PyData × Kd)) : Option Bool := p.bind fun p => truD p.1
def andK (a : Option Bool) (b : Env → Option Bool) (ρ : Env) : Option Bool := a.bind fun x => if x = true then b ρ else some false
def orK (a : Option Bool) (b : Env → Option Bool) (ρ : Env) : Option Bool := a.bind fun x => if x = true then some true else b ρ
def notK (a : Option Bool) : Option Bool := a.map fun x => !x
def setK (p : Option (PyData × Kd)) (kl : List Nat) (i : Nat) (ρ : Env) : Option Out := p.bind fun p => if i < ρ.length then some (.nx ((giv kl p.2 ρ).1.set i (some (p.1, (giv kl p.2 ρ).2)))) else none
def fK (d : Option PyData) : Option (PyData × Kd) := d.map fun d => (d, .mv [])
def datsK (d : Option PyData) (k : Kd) : Option (PyData × Kd) := d.map fun e => (e, datK e k)
def mutK (kl : List Nat) (i : Nat) (k : Kd) (m : Nat) (ρ : Env) (ds : Option (List PyData)) : Option Out := ds.map fun ds => .nx (mutE kl i k m (.list ds) ρ)
def mutLK (p : Option (PyData × Kd)) (kl : List Nat) (i : Nat) (h : List PyData → PyData → Option (List PyData)) (ρ : Env) : Option Out := p.bind fun p => (ownL i p.2 ρ).bind fun q => (h q.1 p.1).map fun ds => .nx (mutE kl i p.2 q.2 (.list ds) ρ)
def mutQ (q : Option (List PyData × Nat)) (d : PyData) (k : Kd) (kl : List Nat) (i : Nat) (h : List PyData → PyData → Option (List PyData)) (ρ : Env) : Option Out := q.bind fun q => (h q.1 d).map fun ds => .nx (mutE kl i k q.2 (.list ds) ρ)
def mutR (ds : Option (List PyData)) (k : Kd) (m : Nat) (kl : List Nat) (i : Nat) (ρ : Env) : Option Out := ds.map fun ds => .nx (mutE kl i k m (.list ds) ρ)
def extK (p : Option (PyData × Kd)) (kl : List Nat) (i : Nat) (ρ : Env) : Option Out := p.bind fun p => match p.1 with
  | .list ds => (ownL i p.2 ρ).bind fun q => if q.1.length + ds.length < 1000000 then some (.nx (mutE kl i p.2 q.2 (.list (q.1 ++ ds)) ρ)) else none
  | _ => none
def extQ (q : Option (List PyData × Nat)) (ds : List PyData) (k : Kd) (kl : List Nat) (i : Nat) (ρ : Env) : Option Out := q.bind fun q => if q.1.length + ds.length < 1000000 then some (.nx (mutE kl i k q.2 (.list (q.1 ++ ds)) ρ)) else none
def idxK (p r : Option (PyData × Kd)) (kl : List Nat) (i : Nat) (ρ : Env) : Option Out := p.bind fun p => r.bind fun r => match r.1 with
  | .int j => (ownL i p.2 ρ).bind fun q => (ixN q.1.length j).map fun n => .nx (mutE kl i p.2 q.2 (.list (q.1.set n p.1)) ρ)
  | _ => none
def idxQ (q : Option (List PyData × Nat)) (d : PyData) (k : Kd) (j : Int) (kl : List Nat) (i : Nat) (ρ : Env) : Option Out := q.bind fun q => (ixN q.1.length j).map fun n => .nx (mutE kl i k q.2 (.list (q.1.set n d)) ρ)
def idxR (n : Option Nat) (xs : List PyData) (d : PyData) (k : Kd) (m : Nat) (kl : List Nat) (i : Nat) (ρ : Env) : Option Out := n.map fun n => .nx (mutE kl i k m (.list (xs.set n d)) ρ)
def augK (s : Option Sl) (i : Nat) (p : Option (PyData × Kd)) (h : Int → Int → Int) (ρ : Env) : Option Out := match s with
  | some (some (.int a, _)) => p.bind fun p => match p.1 with
    | .int b => some (.nx (ρ.set i (some (.int (h a b), 2))))
    | _ => none
  | _ => none
def forK (p : Option (List PyData × Kd)) (ns : List Nat) (st : SG) (wb : List Nat) (fb : SF) (fg : List Nat) (ρ : Env) : Option Out := p.bind fun p =>
  loopF st fb fg p.1 (if flatL p.1 = true ∧ apart p.2.src (ns ++ wb) = true then ρ else dem p.2.src ρ)
def ifEK (b : Option Bool) (f g : EF) (ρ : Env) : Option (PyData × Kd) := b.bind fun x => if x = true then f ρ else g ρ
def r1K (p : Option (List PyData × Kd)) : Option (List PyData × Kd) := p.bind fun p => match p.1 with
  | [.int j] => if i62 j = true then some (intsFrom 0 j.toNat, .mv []) else none
  | _ => none
def r2K (p : Option (List PyData × Kd)) : Option (List PyData × Kd) := p.bind fun p => match p.1 with
  | [.int i, .int j] => if i62 i = true ∧ i62 j = true then some (intsFrom i (j - i).toNat, .mv []) else none
  | _ => none
def seqIK (p : Option (PyData × Kd)) : Option (List PyData × Kd) := p.bind fun p => (iterD p.1).map fun ds => (ds, p.2)
def enK (p : Option (List PyData × Kd)) : Option (List PyData × Kd) := p.bind fun p => match p.1 with
  | [.list ds] => some (enumD ds 0, p.2)
  | [.tuple ds] => some (enumD ds 0, p.2)
  | _ => none
def zpK (p : Option (List PyData × Kd)) : Option (List PyData × Kd) := p.bind fun p => match p.1 with
  | [.list xs, .list ys] => some (zipD xs ys, p.2)
  | [.tuple xs, .tuple ys] => some (zipD xs ys, p.2)
  | _ => none
def lcK (p : Option (List PyData × Kd)) (ns : List Nat) (st : SG) (ft : Env → Option Bool) (fe : EF) (vs : List Nat) (ρ : Env) : Option (PyData × Kd) := p.bind fun p =>
  if p.1.length ≤ 1000000 then (lcF ns st ft fe (wipeE (zeroE ρ) vs) p.1).map fun q => (.list q.1, if flatL q.1 = true then .mv [] else if q.2.1 = true then .mv [] else .sp (p.2.src ++ q.2.2)) else none
def andVK (p : Option (PyData × Kd)) (g : EF) (ρ : Env) : Option (PyData × Kd) := p.bind fun p => (bOf p.1).bind fun b => if b = true then (g ρ).map fun q => (q.1, q.2) else some (.bool false, .mv [])
def orVK (p : Option (PyData × Kd)) (g : EF) (ρ : Env) : Option (PyData × Kd) := p.bind fun p => (bOf p.1).bind fun b => if b = true then some (.bool true, .mv []) else (g ρ).map fun q => (q.1, q.2)
def idK (p : Option (PyData × Kd)) : Option (PyData × Kd) := p.map fun q => (q.1, q.2)
def notVK (p : Option (PyData × Kd)) : Option (PyData × Kd) := p.bind fun p => (bOf p.1).map fun b => (.bool (!b), .mv [])
def chK (h1 h2 : List PyData → Option PyData) (p q : Option (PyData × Kd)) (h : EF) (ρ : Env) : Option (PyData × Kd) := p.bind fun p => q.bind fun q => (h1 [p.1, q.1]).bind fun z => (bOf z).bind fun b =>
  if b = true then (h ρ).bind fun r => (h2 [q.1, r.1]).map fun z => (z, .mv []) else some (.bool false, .mv [])
def chL (b : Option PyData) (h2 : List PyData → Option PyData) (d : PyData) (h : EF) (ρ : Env) : Option (PyData × Kd) := b.bind fun z => (bOf z).bind fun b => if b = true then (h ρ).bind fun r => (h2 [d, r.1]).map fun z => (z, .mv []) else some (.bool false, .mv [])
def chR (h2 : List PyData → Option PyData) (d : PyData) (r : Option (PyData × Kd)) : Option (PyData × Kd) := r.bind fun r => (h2 [d, r.1]).map fun z => (z, .mv [])
def slK (p : Option (PyData × Kd)) (i j : Option (Option Int)) : Option (PyData × Kd) := p.bind fun p => i.bind fun i => j.bind fun j => slD p.1 p.2 i j
def partK (p : Option (PyData × Kd)) : Option (Option Int) := p.bind fun p => match p.1 with
  | .int i => some (some i)
  | _ => none
def isiK (p : Option (PyData × Kd)) (T : String) : Option (PyData × Kd) := p.bind fun p => if isW p.1 = true then none else some (.bool (isiD T p.1), .mv [])
def m1K (h : PyData → PyData → Option PyData) (p q : Option (PyData × Kd)) : Option (PyData × Kd) := p.bind fun p => q.bind fun q => match p.1 with
  | .str _ => (h p.1 q.1).map fun d => (d, .mv [])
  | _ => none
def asgK (p : Option (PyData × Kd)) (st : SG) (ρ : Env) : Option Out := p.bind fun p => (st p.1 (dem p.2.src ρ)).map .nx
def nxK (p : Option Env) : Option Out := p.map .nx
def tgsK (p : Option Env) (sts : SGs) (ds : List PyData) : Option Env := p.bind (sts ds)
def callK (p : Option (PyData × Nat)) (k : Kd) : Option (PyData × Kd) := p.map fun p => (p.1, calK p.1 p.2 k)
def cKK (np nk n : Nat) (m : MF) (p q : Option (List PyData × Kd)) : Option (PyData × Kd) := p.bind fun p => q.bind fun q => if p.1.length = np ∧ q.1.length = nk then gCall n m (p.1 ++ q.1) (aj p.2 q.2) else none
section
variable {f g h : EF} {a b : AFn} {c c' : Env → Option Bool} {s s' : SF} {ρ ρ' : Env} {gn : Gn} {d e : PyData} {ds es : List PyData} {k l : Kd} {kl fg ns wb vs L M : List Nat} {i j m n r : Nat} {st : SG} {sts : SGs} {fi : IF} {T : String}
  {h1 h2 : List PyData → Option PyData} {ha : List PyData → PyData → Option (List PyData)} {hh : PyData → PyData → Option PyData} {mf : MF} {lo hi : Env → Option (Option Int)} {x y : Int} {hI : Int → Int → Int} {cs : Str}
@[simp] theorem sSeq_eq : sSeq s s' ρ = seqK (s ρ) s' := (rfl)
@[simp] theorem seqK_nx : seqK (some (.nx ρ)) s = s ρ := (rfl)
@[simp] theorem seqK_rt : seqK (some (.rt d r)) s = some (.rt d r) := (rfl)
@[simp] theorem seqK_bk : seqK (some (.bk ρ)) s = some (.bk ρ) := (rfl)
@[simp] theorem seqK_ct : seqK (some (.ct ρ)) s = some (.ct ρ) := (rfl)
@[simp] theorem seqK_ex : seqK (some (.ex cs ds)) s = some (.ex cs ds) := (rfl)
@[simp] theorem sIf_eq : sIf c s s' ρ = ifK (c ρ) s s' ρ := (rfl)
@[simp] theorem ifK_t : ifK (some true) s s' ρ = s ρ := (rfl)
@[simp] theorem ifK_f : ifK (some false) s s' ρ = s' ρ := (rfl)
@[simp] theorem sNext_eq : sNext ρ = some (.nx ρ) := (rfl)
@[simp] theorem sRet_eq : sRet f ρ = retK (f ρ) := (rfl)
@[simp] theorem retK_eq : retK (some (d, k)) = some (.rt d (rk k)) := (rfl)
@[simp] theorem sRetN_eq : sRetN ρ = some (.rt .none 2) := (rfl)
@[simp] theorem sBreak_eq : sBreak ρ = some (.bk ρ) := (rfl)
@[simp] theorem sCont_eq : sCont ρ = some (.ct ρ) := (rfl)
@[simp] theorem sDrop_eq : sDrop f ρ = dropK (f ρ) ρ := (rfl)
@[simp] theorem dropK_eq : dropK (some (d, k)) ρ = some (.nx ρ) := (rfl)
@[simp] theorem eC_eq : eC d ρ = some (d, .mv []) := (rfl)
@[simp] theorem eVar_eq : eVar i ρ = varK i ρ[i]? := by
  unfold eVar varK varD
  rfl
@[simp] theorem varK_eq : varK i (some (some (d, m))) = some (d, varD d m i) := (rfl)
theorem varD_flat (hd : flat d = true) : varD d m i = .mv [] := by unfold varD; rw [if_pos hd]
theorem varD_own (hd : flat d = false) : varD d 2 i = .mv [i] := by unfold varD; rw [hd]; rfl
@[simp] theorem varD_int : varD (.int x) m i = .mv [] := varD_flat (by simp)
@[simp] theorem varD_bool {z : Bool} : varD (.bool z) m i = .mv [] := varD_flat (by simp)
@[simp] theorem varD_str {z : Str} : varD (.str z) m i = .mv [] := varD_flat (by simp)
@[simp] theorem varD_none : varD .none m i = .mv [] := varD_flat (by simp)
@[simp] theorem varD_list2 : varD (.list ds) 2 i = .mv [i] := by unfold varD; simp
@[simp] theorem varD_list1 : varD (.list ds) 1 i = .bo [i] := by unfold varD; simp
@[simp] theorem varD_list0 : varD (.list ds) 0 i = .bo [i] := by unfold varD; simp
@[simp] theorem varD_tuple2 : varD (.tuple ds) 2 i = if flatL ds = true then .mv [] else .mv [i] := by unfold varD; simp
@[simp] theorem varD_tuple0 : varD (.tuple ds) 0 i = if flatL ds = true then .mv [] else .bo [i] := by unfold varD; simp
@[simp] theorem src_m : (Kd.mv L).src = L := (rfl)
@[simp] theorem src_s : (Kd.sp L).src = L := (rfl)
@[simp] theorem src_b : (Kd.bo L).src = L := (rfl)
@[simp] theorem aNil_eq : aNil ρ = some ([], .mv []) := (rfl)
@[simp] theorem aCons_eq : aCons f a ρ = consK (f ρ) (a ρ) := (rfl)
@[simp] theorem consK_eq : consK (some (d, k)) (some (ds, l)) = some (d :: ds, aj k l) := (rfl)
@[simp] theorem aStar_eq : aStar f a ρ = starK (f ρ) (a ρ) := (rfl)
@[simp] theorem starK_l : starK (some (.list es, k)) (some (ds, l)) = some (es ++ ds, aj k l) := (rfl)
@[simp] theorem starK_t : starK (some (.tuple es, k)) (some (ds, l)) = some (es ++ ds, aj k l) := (rfl)
@[simp] theorem aj_nil : aj (.mv []) (.mv M) = .mv M := by simp [aj]
@[simp] theorem aj_nil2 : aj (.mv L) (.mv []) = .mv L := by simp [aj]
@[simp] theorem aj_mm : aj (.mv L) (.mv M) = if apart L M = true then .mv (L ++ M) else .bo (L ++ M) := (rfl)
@[simp] theorem aj_mb : aj (.mv L) (.bo M) = .bo (L ++ M) := (rfl)
@[simp] theorem aj_ms : aj (.mv L) (.sp M) = .bo (L ++ M) := (rfl)
@[simp] theorem aj_b : aj (.bo L) k = .bo (L ++ k.src) := (rfl)
@[simp] theorem aj_s : aj (.sp L) k = .bo (L ++ k.src) := (rfl)
@[simp] theorem eApp_eq : eApp gn a ρ = appK (a ρ) gn := (rfl)
@[simp] theorem appK_eq : appK (some (ds, k)) gn = gn ds k := (rfl)
@[simp] theorem gF_eq : gF h1 ds k = fK (h1 ds) := (rfl)
@[simp] theorem fK_eq : fK (some d) = some (d, .mv []) := (rfl)
@[simp] theorem bOf_eq' {z : Bool} : bOf (.bool z) = some z := (rfl)
@[simp] theorem tVal_eq : tVal f ρ = valK (f ρ) := (rfl)
@[simp] theorem valK_eq {z : Bool} : valK (some (.bool z, k)) = some z := (rfl)
@[simp] theorem tTru_eq : tTru f ρ = truK (f ρ) := (rfl)
@[simp] theorem truK_eq : truK (some (d, k)) = truD d := (rfl)
@[simp] theorem tAndF_eq : tAndF c c' ρ = andK (c ρ) c' ρ := (rfl)
@[simp] theorem andK_t : andK (some true) c ρ = c ρ := (rfl)
@[simp] theorem andK_f : andK (some false) c ρ = some false := (rfl)
@[simp] theorem tOrF_eq : tOrF c c' ρ = orK (c ρ) c' ρ := (rfl)
@[simp] theorem orK_t : orK (some true) c ρ = some true := (rfl)
@[simp] theorem orK_f : orK (some false) c ρ = c ρ := (rfl)
@[simp] theorem tNotF_eq : tNotF c ρ = notK (c ρ) := (rfl)
@[simp] theorem notK_eq {z : Bool} : notK (some z) = some (!z) := (rfl)
@[simp] theorem sSet_eq : sSet kl i f ρ = setK (f ρ) kl i ρ := (rfl)
@[simp] theorem setK_eq : setK (some (d, k)) kl i ρ = if i < ρ.length then some (.nx ((giv kl k ρ).1.set i (some (d, (giv kl k ρ).2)))) else none := (rfl)
@[simp] theorem giv_nil : giv kl (.mv []) ρ = (ρ, 2) := by simp [giv, kil]
@[simp] theorem giv_mv : giv kl (.mv L) ρ = if L.all kl.contains = true then (wipeE ρ L, 2) else (dem L ρ, 0) := by simp [giv, kil]
@[simp] theorem giv_sp : giv kl (.sp L) ρ = (dem L ρ, 1) := (rfl)
@[simp] theorem giv_bo : giv kl (.bo L) ρ = (dem L ρ, 0) := (rfl)
@[simp] theorem dem_nil : dem [] ρ = ρ := (rfl)
@[simp] theorem dem_cons : dem (i :: L) ρ = (dem L ρ).modify i demS := (rfl)
@[simp] theorem kil_eq : kil L ρ = wipeE ρ L := (rfl)
@[simp] theorem rk_m : rk (.mv L) = 2 := (rfl)
@[simp] theorem rk_s : rk (.sp L) = 1 := (rfl)
@[simp] theorem rk_b : rk (.bo L) = 0 := (rfl)
@[simp] theorem isMv_m : isMv (.mv L) = true := (rfl)
@[simp] theorem isMv_s : isMv (.sp L) = false := (rfl)
@[simp] theorem isMv_b : isMv (.bo L) = false := (rfl)
@[simp] theorem sMutL_eq : sMutL kl i f ha ρ = mutLK (f ρ) kl i ha ρ := (rfl)
@[simp] theorem mutLK_eq : mutLK (some (d, k)) kl i ha ρ = mutQ (ownL i k ρ) d k kl i ha ρ := (rfl)
@[simp] theorem mutQ_eq : mutQ (some (ds, m)) d k kl i ha ρ = mutR (ha ds d) k m kl i ρ := (rfl)
@[simp] theorem mutR_eq : mutR (some ds) k m kl i ρ = some (.nx (mutE kl i k m (.list ds) ρ)) := (rfl)
@[simp] theorem sExt_eq : sExt kl i f ρ = extK (f ρ) kl i ρ := (rfl)
@[simp] theorem extK_eq : extK (some (.list ds, k)) kl i ρ = extQ (ownL i k ρ) ds k kl i ρ := (rfl)
@[simp] theorem extQ_eq : extQ (some (es, m)) ds k kl i ρ = if es.length + ds.length < 1000000 then some (.nx (mutE kl i k m (.list (es ++ ds)) ρ)) else none := (rfl)
@[simp] theorem sIdx_eq : sIdx kl i f g ρ = idxK (f ρ) (g ρ) kl i ρ := (rfl)
@[simp] theorem idxK_eq : idxK (some (d, k)) (some (.int x, l)) kl i ρ = idxQ (ownL i k ρ) d k x kl i ρ := (rfl)
@[simp] theorem idxQ_eq : idxQ (some (es, m)) d k x kl i ρ = idxR (ixN es.length x) es d k m kl i ρ := (rfl)
@[simp] theorem idxR_eq : idxR (some n) es d k m kl i ρ = some (.nx (mutE kl i k m (.list (es.set n d)) ρ)) := (rfl)
@[simp] theorem mutE_eq : mutE kl i k m d ρ = (giv kl k ρ).1.set i (some (d, mutM m (giv kl k ρ).2)) := (rfl)
@[simp] theorem mutM_22 : mutM 2 2 = 2 := (rfl)
@[simp] theorem mutM_1 : mutM 1 n = 1 := (rfl)
@[simp] theorem mutM_0 : mutM m 0 = 1 := by simp [mutM]
@[simp] theorem mutM_1' : mutM m 1 = 1 := by simp [mutM]
@[simp] theorem hApp_eq : hApp ds d = if ds.length < 1000000 then some (ds ++ [d]) else none := (rfl)
@[simp] theorem sAug_eq : sAug i f hI ρ = augK ρ[i]? i (f ρ) hI ρ := (rfl)
@[simp] theorem augK_eq : augK (some (some (.int x, m))) i (some (.int y, k)) hI ρ = some (.nx (ρ.set i (some (.int (hI x y), 2)))) := (rfl)
@[simp] theorem sFor_eq {fb : SF} : sFor fi ns st wb fb fg ρ = forK (fi ρ) ns st wb fb fg ρ := (rfl)
theorem forK_flat {fb : SF} (h1 : flatL ds = true) (h2 : apart k.src (ns ++ wb) = true) : forK (some (ds, k)) ns st wb fb fg ρ = loopF st fb fg ds ρ := by
  show loopF st fb fg ds (if _ then _ else _) = _
  rw [if_pos ⟨h1, h2⟩]
theorem forK_eq {fb : SF} : forK (some (ds, k)) ns st wb fb fg ρ = loopF st fb fg ds (if flatL ds = true ∧ apart k.src (ns ++ wb) = true then ρ else dem k.src ρ) := rfl
@[simp] theorem eIf_eq : eIf c f g ρ = ifEK (c ρ) f g ρ := (rfl)
@[simp] theorem ifEK_t : ifEK (some true) f g ρ = f ρ := (rfl)
@[simp] theorem ifEK_f : ifEK (some false) f g ρ = g ρ := (rfl)
@[simp] theorem iR1_eq : iR1 a ρ = r1K (a ρ) := (rfl)
@[simp] theorem r1K_eq : r1K (some ([.int x], k)) = if i62 x = true then some (intsFrom 0 x.toNat, .mv []) else none := (rfl)
@[simp] theorem iR2_eq : iR2 a ρ = r2K (a ρ) := (rfl)
@[simp] theorem r2K_eq : r2K (some ([.int x, .int y], k)) = if i62 x = true ∧ i62 y = true then some (intsFrom x (y - x).toNat, .mv []) else none := (rfl)
@[simp] theorem iSeq_eq : iSeq f ρ = seqIK (f ρ) := (rfl)
@[simp] theorem seqIK_l : seqIK (some (.list ds, k)) = some (ds, k) := (rfl)
@[simp] theorem seqIK_t : seqIK (some (.tuple ds, k)) = some (ds, k) := (rfl)
@[simp] theorem iEn_eq : iEn a ρ = enK (a ρ) := (rfl)
@[simp] theorem enK_eq : enK (some ([.list ds], k)) = some (enumD ds 0, k) := (rfl)
@[simp] theorem enK_t : enK (some ([.tuple ds], k)) = some (enumD ds 0, k) := (rfl)
@[simp] theorem iZp_eq : iZp a ρ = zpK (a ρ) := (rfl)
@[simp] theorem zpK_l : zpK (some ([.list ds, .list es], k)) = some (zipD ds es, k) := (rfl)
@[simp] theorem zpK_t : zpK (some ([.tuple ds, .tuple es], k)) = some (zipD ds es, k) := (rfl)
@[simp] theorem eLc_eq : eLc fi ns st c f vs ρ = lcK (fi ρ) ns st c f vs ρ := (rfl)
theorem lcK_eq : lcK (some (ds, k)) ns st c f vs ρ = if ds.length ≤ 1000000 then (lcF ns st c f (wipeE (zeroE ρ) vs) ds).map fun q => (.list q.1, if flatL q.1 = true then .mv [] else if q.2.1 = true then .mv [] else .sp (k.src ++ q.2.2)) else none := rfl
@[simp] theorem eAndV_eq : eAndV f g ρ = andVK (f ρ) g ρ := (rfl)
@[simp] theorem andVK_t : andVK (some (.bool true, k)) g ρ = idK (g ρ) := (rfl)
@[simp] theorem andVK_f : andVK (some (.bool false, k)) g ρ = some (.bool false, .mv []) := (rfl)
@[simp] theorem eOrV_eq : eOrV f g ρ = orVK (f ρ) g ρ := (rfl)
@[simp] theorem orVK_t : orVK (some (.bool true, k)) g ρ = some (.bool true, .mv []) := (rfl)
@[simp] theorem orVK_f : orVK (some (.bool false, k)) g ρ = idK (g ρ) := (rfl)
@[simp] theorem idK_eq : idK (some (d, k)) = some (d, k) := (rfl)
@[simp] theorem eNotV_eq : eNotV f ρ = notVK (f ρ) := (rfl)
@[simp] theorem notVK_eq {z : Bool} : notVK (some (.bool z, k)) = some (.bool (!z), .mv []) := (rfl)
@[simp] theorem eChain_eq : eChain h1 h2 f g h ρ = chK h1 h2 (f ρ) (g ρ) h ρ := (rfl)
@[simp] theorem chK_eq : chK h1 h2 (some (d, k)) (some (e, l)) h ρ = chL (h1 [d, e]) h2 e h ρ := (rfl)
@[simp] theorem chL_t : chL (some (.bool true)) h2 e h ρ = chR h2 e (h ρ) := (rfl)
@[simp] theorem chL_f : chL (some (.bool false)) h2 e h ρ = some (.bool false, .mv []) := (rfl)
@[simp] theorem chR_eq : chR h2 e (some (d, k)) = fK (h2 [e, d]) := (rfl)
@[simp] theorem eSl_eq : eSl f lo hi ρ = slK (f ρ) (lo ρ) (hi ρ) := (rfl)
@[simp] theorem slK_eq {u v : Option Int} : slK (some (d, k)) (some u) (some v) = slD d k u v := (rfl)
@[simp] theorem oNo_eq : oNo ρ = some none := (rfl)
@[simp] theorem oPart_eq : oPart f ρ = partK (f ρ) := (rfl)
@[simp] theorem partK_eq : partK (some (.int x, k)) = some (some x) := (rfl)
@[simp] theorem eIsi_eq : eIsi T f ρ = isiK (f ρ) T := (rfl)
theorem isiK_eq (hw : isW d = false) : isiK (some (d, k)) T = some (.bool (isiD T d), .mv []) := by unfold isiK; simp [hw]
@[simp] theorem eM1_eq : eM1 hh f g ρ = m1K hh (f ρ) (g ρ) := (rfl)
@[simp] theorem m1K_eq {z : Str} : m1K hh (some (.str z, k)) (some (e, l)) = fK (hh (.str z) e) := (rfl)
@[simp] theorem sAsgT_eq : sAsgT st f ρ = asgK (f ρ) st ρ := (rfl)
@[simp] theorem asgK_eq : asgK (some (d, k)) st ρ = nxK (st d (dem k.src ρ)) := (rfl)
@[simp] theorem nxK_eq : nxK (some ρ) = some (.nx ρ) := (rfl)
@[simp] theorem tgN_eq : tgN i d ρ = if i < ρ.length then some (ρ.set i (some (d, m02 d))) else none := (rfl)
@[simp] theorem tgT_eq : tgT n sts (.tuple ds) ρ = if ds.length = n then sts ds ρ else none := (rfl)
@[simp] theorem tgCons_eq : tgCons st sts (d :: ds) ρ = tgsK (st d ρ) sts ds := (rfl)
@[simp] theorem tgsK_eq : tgsK (some ρ) sts ds = sts ds ρ := (rfl)
@[simp] theorem tgNil_eq : tgNil [] ρ = some ρ := (rfl)
@[simp] theorem gCall_eq : gCall n mf ds k = if ds.length = n then callK (mf ds) k else none := (rfl)
@[simp] theorem callK_eq : callK (some (d, r)) k = some (d, calK d r k) := (rfl)
@[simp] theorem gCallK_eq : gCallK i j n mf a b ρ = cKK i j n mf (a ρ) (b ρ) := (rfl)
@[simp] theorem cKK_eq : cKK i j n mf (some (ds, k)) (some (es, l)) = if ds.length = i ∧ es.length = j then gCall n mf (ds ++ es) (aj k l) else none := (rfl)
@[simp] theorem m02_int : m02 (.int x) = 2 := by simp [m02]
@[simp] theorem m02_bool {z : Bool} : m02 (.bool z) = 2 := by simp [m02]
@[simp] theorem m02_str {z : Str} : m02 (.str z) = 2 := by simp [m02]
@[simp] theorem m02_none : m02 .none = 2 := by simp [m02]
@[simp] theorem m02_list : m02 (.list ds) = 0 := by simp [m02]
@[simp] theorem m02_tuple : m02 (.tuple ds) = if flatL ds = true then 2 else 0 := by simp [m02]
@[simp] theorem demS_s : demS (some (d, m)) = some (d, 0) := (rfl)
@[simp] theorem demS_n : demS none = none := (rfl)
@[simp] theorem calK_2 : calK d 2 k = .mv [] := by unfold calK; simp
@[simp] theorem calK_1 : calK d 1 k = if flat d = true then .mv [] else .sp k.src := by unfold calK; simp
@[simp] theorem calK_0 : calK d 0 k = if flat d = true then .mv [] else .bo k.src := by unfold calK; simp
/-! ### operations -/
@[simp] theorem gnTup_eq : gnTup ds k = if ds.length ≤ 1000000 then some (.tuple ds, tupK ds k) else none := (rfl)
@[simp] theorem gnLst_eq : gnLst ds k = if ds.length ≤ 1000000 then some (.list ds, lstK ds k) else none := (rfl)
@[simp] theorem lstK_m : lstK ds (.mv L) = if flatL ds = true then .mv [] else .mv L := (rfl)
@[simp] theorem lstK_s : lstK ds (.sp L) = if flatL ds = true then .mv [] else .sp L := (rfl)
@[simp] theorem lstK_b : lstK ds (.bo L) = if flatL ds = true then .mv [] else .sp L := (rfl)
@[simp] theorem tupK_m : tupK ds (.mv L) = if flatL ds = true then .mv [] else .mv L := (rfl)
@[simp] theorem tupK_s : tupK ds (.sp L) = if flatL ds = true then .mv [] else .bo L := (rfl)
@[simp] theorem tupK_b : tupK ds (.bo L) = if flatL ds = true then .mv [] else .bo L := (rfl)
@[simp] theorem datK_nil : datK d (.mv []) = .mv [] := by unfold datK; simp
@[simp] theorem datK_m : datK d (.mv L) = if flat d = true then .mv [] else .mv L := (rfl)
@[simp] theorem datK_s : datK d (.sp L) = if flat d = true then .mv [] else .bo L := (rfl)
@[simp] theorem datK_b : datK d (.bo L) = if flat d = true then .mv [] else .bo L := (rfl)
@[simp] theorem hSub_eq : hSub [.int x, .int y] = some (.int (x - y)) := (rfl)
@[simp] theorem hDiv_eq : hDiv [.int x, .int y] = if 0 < y ∧ y.natAbs.log2 < 9000 then some (.int (x / y)) else none := by simp [hDiv, hII, cDivW]
@[simp] theorem hMod_eq : hMod [.int x, .int y] = if 0 < y then some (.int (x % y)) else none := by simp [hMod, hII]
@[simp] theorem hPow_eq : hPow [.int x, .int y] = if 0 ≤ y ∧ y ≤ 1000000 ∧ x.natAbs < 2 ^ 64 then some (.int (x ^ y.toNat)) else none := by simp [hPow, hII, and_assoc]
@[simp] theorem hLt_eq : hLt [.int x, .int y] = some (.bool (decide (x < y))) := (rfl)
@[simp] theorem hLe_eq : hLe [.int x, .int y] = some (.bool (decide (x ≤ y))) := (rfl)
@[simp] theorem hGt_eq : hGt [.int x, .int y] = some (.bool (decide (y < x))) := (rfl)
@[simp] theorem hGe_eq : hGe [.int x, .int y] = some (.bool (decide (y ≤ x))) := (rfl)
@[simp] theorem hNeg_eq : hNeg [.int x] = some (.int (-x)) := (rfl)
@[simp] theorem gMul_eq : gMul [.int x, .int y] k = if mulOk x y = true then some (.int (x * y), .mv []) else none := (rfl)
@[simp] theorem gMul_l : gMul [.list ds, .int y] k = if 0 ≤ y ∧ y ≤ 1000 ∧ ds.length * y.toNat ≤ 1000000 ∧ flatL ds = true then some (.list (List.replicate y.toNat ds).flatten, .mv []) else none := (rfl)
@[simp] theorem gAdd_eq : gAdd [.int x, .int y] k = some (.int (x + y), .mv []) := (rfl)
@[simp] theorem gAdd_l : gAdd [.list ds, .list es] k = if ds.length + es.length ≤ 1000000 then some (.list (ds ++ es), lstK (ds ++ es) k) else none := (rfl)
@[simp] theorem gAdd_t : gAdd [.tuple ds, .tuple es] k = if ds.length + es.length ≤ 1000000 then some (.tuple (ds ++ es), tupK (ds ++ es) k) else none := (rfl)
@[simp] theorem gAdd_s {u v : Str} : gAdd [.str u, .str v] k = if u.length + v.length ≤ 1000000 then some (.str (u ++ v), .mv []) else none := (rfl)
@[simp] theorem shaped_int : SeqAt.shaped (.int x) = true := (rfl)
@[simp] theorem shaped_bool {z : Bool} : SeqAt.shaped (.bool z) = true := (rfl)
@[simp] theorem shaped_none : SeqAt.shaped .none = true := (rfl)
@[simp] theorem eqv_int : PyData.eqv (.int x) (.int y) = (x == y) := by simp only [PyData.eqv]
@[simp] theorem eqv_bool {z w : Bool} : PyData.eqv (.bool z) (.bool w) = (z == w) := by simp only [PyData.eqv]
@[simp] theorem eqv_none : PyData.eqv .none .none = true := by simp only [PyData.eqv]
@[simp] theorem eqv_int_none : PyData.eqv (.int x) .none = false := by simp only [PyData.eqv]
@[simp] theorem eqv_none_int : PyData.eqv .none (.int x) = false := by simp only [PyData.eqv]
@[simp] theorem hEq_eq (h1 : SeqAt.shaped d = true) (h2 : SeqAt.shaped e = true) : hEq [d, e] = some (.bool (PyData.eqv d e)) := by
  unfold hEq
  split
  · rename_i h; cases h; simp only [PyData.eqv]
  · rename_i h; cases h; rw [if_pos ⟨h1, h2⟩]
  · rename_i h; exact absurd rfl (h _ _)
@[simp] theorem hNe_eq (h1 : SeqAt.shaped d = true) (h2 : SeqAt.shaped e = true) : hNe [d, e] = some (.bool (!PyData.eqv d e)) := by
  unfold hNe
  split
  · rename_i h; cases h; simp only [PyData.eqv]
  · rename_i h; cases h; rw [if_pos ⟨h1, h2⟩]
  · rename_i h; exact absurd rfl (h _ _)
@[simp] theorem hEq_str {z w : Str} : hEq [.str z, .str w] = some (.bool (z == w)) := (rfl)
@[simp] theorem hNe_str {z w : Str} : hNe [.str z, .str w] = some (.bool (!(z == w))) := (rfl)
@[simp] theorem isN_none : isN .none = true := (rfl)
@[simp] theorem isN_int : isN (.int x) = false := (rfl)
@[simp] theorem isN_bool {z : Bool} : isN (.bool z) = false := (rfl)
@[simp] theorem isN_str {z : Str} : isN (.str z) = false := (rfl)
@[simp] theorem isN_list : isN (.list ds) = false := (rfl)
@[simp] theorem isN_tuple : isN (.tuple ds) = false := (rfl)
@[simp] theorem hIsN_eq : hIsN [d, .none] = some (.bool (isN d)) := (rfl)
@[simp] theorem hNotN_eq : hNotN [d, .none] = some (.bool (!isN d)) := (rfl)
@[simp] theorem gIx_eq : gIx [d, .int x] k = datsK (dAt d x) k := (rfl)
@[simp] theorem datsK_eq : datsK (some d) k = some (d, datK d k) := (rfl)
@[simp] theorem dAt_l : dAt (.list ds) x = atI ds x := (rfl)
@[simp] theorem dAt_t : dAt (.tuple ds) x = atI ds x := (rfl)
@[simp] theorem hLen_l : hLen [.list ds] = some (.int (ds.length : Nat)) := (rfl)
@[simp] theorem hLen_t : hLen [.tuple ds] = some (.int (ds.length : Nat)) := (rfl)
@[simp] theorem hLen_s {z : Str} : hLen [.str z] = if z.length ≤ 1000000 then some (.int (z.length : Nat)) else none := (rfl)
@[simp] theorem hInt_i : hInt [.int x] = some (.int x) := (rfl)
@[simp] theorem hInt_b {z : Bool} : hInt [.bool z] = some (.int (if z then 1 else 0)) := (rfl)
@[simp] theorem hStr_i : hStr [.int x] = if x.natAbs.log2 < 1920 then some (.str (toString x)) else none := (rfl)
@[simp] theorem hStr_s {z : Str} : hStr [.str z] = some (.str z) := (rfl)
@[simp] theorem gList_l : gList [.list ds] k = some (.list ds, lstK ds k) := (rfl)
@[simp] theorem gList_t : gList [.tuple ds] k = some (.list ds, lstK ds k) := (rfl)
@[simp] theorem gTuple_l : gTuple [.list ds] k = some (.tuple ds, tupK ds k) := (rfl)
@[simp] theorem gTuple_t : gTuple [.tuple ds] k = some (.tuple ds, tupK ds k) := (rfl)
@[simp] theorem slD_l {u v : Option Int} : slD (.list ds) k u v = some (.list (cutD ds u v), lstK (cutD ds u v) k) := (rfl)
@[simp] theorem slD_t {u v : Option Int} : slD (.tuple ds) k u v = some (.tuple (cutD ds u v), tupK (cutD ds u v) k) := (rfl)
@[simp] theorem hRepr_eq : hRepr [d] = if reprOk d = true then some (.str d.shown) else none := (rfl)
@[simp] theorem truD_b {z : Bool} : truD (.bool z) = some z := (rfl)
theorem kitB_str : kitB "str" "str" = some true := by decide +kernel
@[simp] theorem isiD_str {z : Str} : isiD "str" (.str z) = true := by unfold isiD tyD; rw [kitB_str]; rfl
end
/-- a slot's list, where it may be written -/
def ownQ (s : Option Sl) (b : Bool) : Option (List PyData × Nat) := match s with
  | some (some (.list xs, m)) => if (m = 1 ∨ m = 2) ∧ b = false then some (xs, m) else none
  | _ => none
@[simp] theorem ownL_eq {i : Nat} {k : Kd} {ρ : Env} : ownL i k ρ = ownQ ρ[i]? (k.src.contains i) := by
  unfold ownL ownQ
  rcases ρ[i]? with _ | _ | ⟨d, m⟩
  · rfl
  · rfl
  · cases d <;> simp
@[simp] theorem ownQ_2 {xs : List PyData} : ownQ (some (some (.list xs, 2))) false = some (xs, 2) := (rfl)
@[simp] theorem ownQ_1 {xs : List PyData} : ownQ (some (some (.list xs, 1))) false = some (xs, 1) := (rfl)
@[simp] theorem i62_small {x : Int} (h0 : 0 ≤ x) (h1 : x < 4611686018427387904) : i62 x = true := by
  simp only [i62, Bool.and_eq_true, decide_eq_true_eq]
  omega
theorem i62_lit {n : Nat} (h : n < 2 ^ 62) : i62 (n : Int) = true := by
  simp [i62]
  omega
@[simp] theorem log2_9000 {n : Nat} (h : n < 9000) : Nat.log2 n < 9000 := Nat.lt_of_le_of_lt (Nat.log2_le_self n) h
end Va

/-! Va15: the laws' draws. -/
namespace Va
open PySem L2 PyProof.Rows

def fb_draws : SF := (sSeq (sSet [] 5 (eC (.int 0)))
    (sSeq (sIf (tVal (eApp (gF hGt) (aCons (eApp (gF hLen) (aCons (eVar 2) aNil)) (aCons (eC (.int 0)) aNil)))) (sSeq (sSet [] 6 (eApp (gF hMod) (aCons (eApp (gF hInt) (aCons (eVar 4) aNil)) (aCons (eApp (gF hLen) (aCons (eVar 2) aNil)) aNil))))
    (sIf (tVal (eApp (gF hGe) (aCons (eApp gIx (aCons (eVar 2) (aCons (eVar 6) aNil))) (aCons (eApp (gF hPow) (aCons (eC (.int 10)) (aCons (eC (.int 18)) aNil))) aNil)))) (sSeq (sSet [] 5 (eApp (gF hMod) (aCons (eApp (gF hInt) (aCons (eApp gIx (aCons (eVar 2) (aCons (eVar 6) aNil))) aNil)) (aCons (eC (.int 1000)) aNil))))
    (sIdx [6] 2 (eApp (gF hDiv) (aCons (eApp gIx (aCons (eVar 2) (aCons (eVar 6) aNil))) (aCons (eC (.int 1000)) aNil))) (eVar 6))) (sSeq (sSet [4] 7 (eApp (gF hMod) (aCons (eApp (gF hInt) (aCons (eApp (gAdd) (aCons (eApp (gAdd) (aCons (eApp (gMul) (aCons (eApp gIx (aCons (eVar 2) (aCons (eVar 6) aNil))) (aCons (eC (.int 48271)) aNil))) (aCons (eApp (gMul) (aCons (eVar 4) (aCons (eC (.int 69621)) aNil))) aNil))) (aCons (eC (.int 11)) aNil))) aNil)) (aCons (eC (.int 2147483647)) aNil))))
    (sSeq (sSet [6] 7 (eApp (gF hMod) (aCons (eApp (gF hInt) (aCons (eApp (gAdd) (aCons (eApp (gMul) (aCons (eVar 7) (aCons (eC (.int 16807)) aNil))) (aCons (eVar 6) aNil))) aNil)) (aCons (eC (.int 2147483629)) aNil))))
    (sSet [7] 5 (eApp (gF hMod) (aCons (eApp (gF hInt) (aCons (eApp (gF hDiv) (aCons (eVar 7) (aCons (eC (.int 7)) aNil))) aNil)) (aCons (eC (.int 1000)) aNil)))))))) sNext)
    (sMutL [5] 3 (eVar 5) hApp)))
def f_draws : SF := (sSeq (sSet [] 3 (eApp gnLst aNil))
    (sSeq (sFor (iR1 (aCons (eVar 1) aNil)) [4] (tgN 4) [2, 3, 4, 5, 6, 7] fb_draws [0, 1, 4, 5, 6, 7])
    (sRet (eVar 3))))
def drawE (k : Option Int) (rs acc : List Int) : Env := [none, none, some (intsD rs, 2), some (intsD acc, 2), k.map fun k => (.int k, 2), none, none, none, none]
theorem mulOk_48271 {y : Int} : mulOk y 48271 = true := by simp [mulOk]
theorem mulOk_69621 {y : Int} : mulOk y 69621 = true := by simp [mulOk]
theorem mulOk_16807 {y : Int} : mulOk y 16807 = true := by simp [mulOk]
theorem draws_step {k : Int} {rs acc : List Int} (h0 : 0 ≤ k) (hk : k < 1048576) (hr : rs.length ≤ 63) (ha : acc.length < 1000000) :
    ∃ x rs' ρ2, fb_draws (drawE (some k) rs acc) = some (.nx ρ2) ∧ kil [0, 1, 4, 5, 6, 7] ρ2 = drawE none rs' (acc ++ [x]) ∧ rs'.length = rs.length ∧ 0 ≤ x ∧ x < 1000 := by
  by_cases h : rs.length = 0
  · have : rs = [] := List.eq_nil_of_length_eq_zero h
    subst this
    refine ⟨0, [], ?_⟩
    simp [fb_draws, drawE, intsD, ha]
  · have hp : 0 < (rs.length : Int) := by omega
    have hp2 : 0 < rs.length := by omega
    have hm0 : 0 ≤ k % (rs.length : Int) := Int.emod_nonneg _ (by omega)
    have hm1 : k % (rs.length : Int) < rs.length := Int.emod_lt_of_pos _ hp
    have hl : (k % (rs.length : Int)).toNat < rs.length := by omega
    generalize hj : k % (rs.length : Int) = j at hm0 hm1 hl
    have hx : rs[j.toNat]? = some rs[j.toNat] := List.getElem?_eq_getElem hl
    have hix : ixN rs.length j = some j.toNat := by unfold ixN; simp [hm0, hm1]
    generalize rs[j.toNat] = y at hx
    by_cases hy : (1000000000000000000 : Int) ≤ y
    · refine ⟨y % 1000, rs.set j.toNat (y / 1000), ?_⟩
      simp [fb_draws, drawE, intsD, ha, h, hp, hp2, dAt, atI_nat, hj, hm0, hx, hy, hix]
      omega
    · refine ⟨((((y * 48271 + k * 69621 + 11) % 2147483647) * 16807 + j) % 2147483629 / 7) % 1000, rs, ?_⟩
      simp [fb_draws, drawE, intsD, ha, h, hp, hp2, dAt, atI_nat, hj, hm0, hx, hy, hix, mulOk_48271, mulOk_69621, mulOk_16807]
      omega
theorem draws_out (rs : List Int) (n : Nat) (hr : rs.length ≤ 63) (hn : n ≤ 1000) : ∀ (σ0 : Sl) (m : Nat), m ≤ n →
    ∃ ds, Drawn n ds ∧ f_draws [σ0, some (.int (n : Nat), 2), some (intsD rs, 2), none, none, none, none, none, none] = some (.rt (intsD ds) 2) := by
  intro σ0 m _
  have hl := loopF_P (st := tgN 4) (fb := fb_draws) (fg := [0, 1, 4, 5, 6, 7]) (fun i ρ => ∃ rs' acc, ρ = drawE none rs' acc ∧ rs'.length ≤ 63 ∧ Drawn i acc) (intsFrom 0 n) [σ0, some (.int (n : Nat), 2), some (intsD rs, 2), some (.list [], 2), none, none, none, none, none] 0 ?_ ?_
  · obtain ⟨ρ', h1, rs', acc, rfl, h2, h3⟩ := hl
    rw [show 0 + (intsFrom 0 n).length = n by simp [intsFrom]] at h3
    refine ⟨acc, h3, ?_⟩
    have h62 : i62 (n : Int) = true := i62_lit (Nat.lt_of_le_of_lt hn (by decide))
    simp only [intsD] at h1
    simp [f_draws, h62, forK_flat, h1, drawE, intsD]
  · rintro i d hd ρ ⟨rs', acc, rfl, h1, h2⟩
    obtain ⟨hi, rfl⟩ := intsFrom_get hd
    obtain ⟨x, rs2, ρ2, e1, e2, e3, e4, e5⟩ := draws_step (k := (i : Int)) (rs := rs') (acc := acc) (by omega) (by omega) h1 (by have := h2.1; omega)
    refine ⟨drawE (some i) rs' acc, ρ2, by simp [drawE], e1, ?_⟩
    rw [e2]
    refine ⟨rs2, acc ++ [x], rfl, by omega, ?_, ?_⟩
    · rw [List.length_append, h2.1]; rfl
    · intro d hd
      rcases List.mem_append.mp hd with hd | hd
      · exact h2.2 d hd
      · rcases List.mem_singleton.mp hd with rfl; exact ⟨e4, e5⟩
  · exact ⟨rs, [], by simp [drawE, intsD], hr, rfl, fun d h => nomatch h⟩
/-- the body of the def that draws -/
theorem draws_body {K : PySem.W.Frag} {Wx : WxT} {wr : List Nat} {tr : TS} {N : List Str} {vs : List V} {H : Hp} {Q : VK} {E : XK} (h : VS K Wx wr tr f_draws) (hs : spDraws K vs H Q E) (hN : N.length = 9) :
    tSeq (tAsg (tLc (iList K (tVar 0)) (gName 8) tYes (tVar 8) [8]) (gName 2)) tr { nx := fun _ H' => Q .non H', rt := Q } (L2.start N vs) H := by
  obtain ⟨tb, a, ns, n, rfl, hS, hl, hn, q⟩ := hs
  have hst : L2.start N [V.ref a, V.int n] = [some (.ref a), some (.int n), none, none, none, none, none, none, none] := by
    unfold L2.start
    rw [hN]
    rfl
  rw [hst]
  unfold tSeq tAsg
  refine draw_copy (σ := [some (.ref a), some (.int n), none, none, none, none, none, none, none]) (ns := ns) (c := 8) rfl hS hl (by show 8 < 9; decide) fun D H' g hD hD' => ?_
  obtain ⟨ds, h1, h2⟩ := draws_out ns n hl hn none 0 (Nat.zero_le _)
  have S : SR K H [] [some (.ref a), some (.int n), some (.ref D), none, none, none, none, none, none] H' [none, some (.int (n : Nat), 2), some (intsD ns, 2), none, none, none, none, none, none] (fun i => if i = 2 then [D] else []) := by
    refine ⟨rfl, ⟨g, tb⟩, fun i d m q => ?_, fun i j d m d' m' q q' ne b hb => ?_⟩
    · match i, q with
      | 1, q =>
        cases q
        exact ⟨_, rfl, .int _, fun a ha => (nomatch ha), ⟨fun a ha => (nomatch ha), fun z => (nomatch z), fun _ => List.nodup_nil⟩⟩
      | 2, q =>
        cases q
        refine ⟨_, rfl, ?_, fun a ha => ?_, fun a ha => ?_, fun z => (nomatch z), fun _ => ?_⟩
        · exact .lst hD' (rp_ints ns)
        · rcases List.mem_singleton.mp ha with rfl; exact .inl hD
        · rcases List.mem_singleton.mp ha with rfl; exact hD
        · show List.Nodup [D]; simp
      | 0, q => cases q
      | 3, q => cases q
      | 4, q => cases q
      | 5, q => cases q
      | 6, q => cases q
      | 7, q => cases q
      | 8, q => cases q
      | j + 9, q => simp at q
    · match i, q with
      | 1, q => cases q; exact absurd hb (fun z => nomatch z)
      | 2, q =>
        cases q
        match j, q' with
        | 1, q' => cases q'; exact fun z => nomatch z
        | 2, q' => exact absurd rfl ne
        | 0, q' => cases q'
        | 3, q' => cases q'
        | 4, q' => cases q'
        | 5, q' => cases q'
        | 6, q' => cases q'
        | 7, q' => cases q'
        | 8, q' => cases q'
        | j + 9, q' => simp at q'
      | 0, q => cases q
      | 3, q => cases q
      | 4, q => cases q
      | 5, q => cases q
      | 6, q => cases q
      | 7, q => cases q
      | 8, q => cases q
      | j + 9, q => simp at q
  refine h H [] _ H' _ _ _ S h2 _ fun v H2 G g2 r2 o2 => q ds h1 v H2 G g2 r2 o2
end Va

/-! Va16: loops and comprehensions by what they do; sizes. -/
namespace Va
open PySem L2 PyProof.Rows

/-! ### defs -/
def outK (o : Option Out) : Option (PyData × Nat) := o.bind fun o => match o with
  | .nx _ => some (.none, 2)
  | .rt d r => some (d, r)
  | _ => none
@[simp] theorem mOf_eq {n : Nat} {f : SF} {ds : List PyData} : mOf n f ds = outK (f (env0 n ds)) := (rfl)
@[simp] theorem outK_nx {ρ : Env} : outK (some (.nx ρ)) = some (.none, 2) := (rfl)
@[simp] theorem outK_rt {d : PyData} {r : Nat} : outK (some (.rt d r)) = some (d, r) := (rfl)
@[simp] theorem env0_eq {n : Nat} {ds : List PyData} : env0 n ds = ds.map (fun d => some (d, m02 d)) ++ List.replicate (n - ds.length) none := (rfl)
/-! ### loops -/
def bodyK (p : Option Env) (fb : SF) : Option Out := p.bind fb
@[simp] theorem bodyK_eq {ρ : Env} {fb : SF} : bodyK (some ρ) fb = fb ρ := (rfl)
theorem bodyK_some {p : Option Env} {fb : SF} {o : Out} (h : bodyK p fb = some o) : ∃ ρ1, p = some ρ1 ∧ fb ρ1 = some o := Option.bind_eq_some_iff.mp h
theorem intsFrom_len {lo : Int} {n : Nat} : (intsFrom lo n).length = n := by simp [intsFrom]
theorem loop_range {st : SG} {fb : SF} {fg : List Nat} {lo : Int} {n : Nat} {ρ : Env} (P : Nat → Env → Prop)
    (hs : ∀ i : Nat, i < n → ∀ ρ, P i ρ → ∃ ρ2, bodyK (st (.int (lo + (i : Nat))) ρ) fb = some (.nx ρ2) ∧ P (i + 1) (kil fg ρ2)) (h0 : P 0 (kil fg ρ)) :
    ∃ ρ', loopF st fb fg (intsFrom lo n) ρ = some (.nx ρ') ∧ P n ρ' := by
  have := loopF_P (st := st) (fb := fb) (fg := fg) P (intsFrom lo n) ρ 0 (fun i d hd ρ h => by
    obtain ⟨hi, rfl⟩ := intsFrom_get hd
    rw [Nat.zero_add] at h
    obtain ⟨ρ2, hb, h3⟩ := hs i hi ρ h
    obtain ⟨ρ1, h1, h2⟩ := bodyK_some hb
    exact ⟨ρ1, ρ2, h1, h2, by rw [Nat.zero_add]; exact h3⟩) h0
  rw [Nat.zero_add, intsFrom_len] at this
  exact this
/-- a loop over told items -/
theorem loop_items {α : Type} {st : SG} {fb : SF} {fg : List Nat} {e : α → PyData} {xs : List α} {ρ : Env} (P : List α → Env → Prop)
    (hs : ∀ (ys : List α) (x : α), ys ++ [x] <+: xs → ∀ ρ, P ys ρ → ∃ ρ2, bodyK (st (e x) ρ) fb = some (.nx ρ2) ∧ P (ys ++ [x]) (kil fg ρ2)) (h0 : P [] (kil fg ρ)) :
    ∃ ρ', loopF st fb fg (xs.map e) ρ = some (.nx ρ') ∧ P xs ρ' := by
  have := loopF_P (st := st) (fb := fb) (fg := fg) (fun i ρ => P (xs.take i) ρ) (xs.map e) ρ 0 (fun i d hd ρ h => by
    rw [List.getElem?_map] at hd
    obtain ⟨x, hx, rfl⟩ := Option.map_eq_some_iff.mp hd
    rw [Nat.zero_add] at h
    obtain ⟨h1, h2⟩ := List.getElem?_eq_some_iff.mp hx
    have e1 : xs.take (i + 1) = xs.take i ++ [x] := by rw [List.take_succ_eq_append_getElem h1, h2]
    obtain ⟨ρ2, hb, a3⟩ := hs (xs.take i) x (by rw [← e1]; exact List.take_prefix _ _) ρ h
    obtain ⟨ρ1, a1, a2⟩ := bodyK_some hb
    exact ⟨ρ1, ρ2, a1, a2, by rw [Nat.zero_add, e1]; exact a3⟩) (by rw [List.take_zero]; exact h0)
  rw [Nat.zero_add, List.length_map, List.take_length] at this
  exact this
/-- a list comprehension whose items are flat or new -/
theorem lc_map {α : Type} {ns vs : List Nat} {st : SG} {ft : Env → Option Bool} {fe : EF} {e : α → PyData} {g : α → PyData} {c : α → Bool} {xs : List α} {k : Kd} {ρ : Env} (hl : xs.length ≤ 1000000)
    (h : ∀ x ∈ xs, ∃ ρ1, st (e x) (wipeE (zeroE ρ) vs) = some ρ1 ∧ ft ρ1 = some (c x) ∧ (c x = true → ∃ L, fe ρ1 = some (g x, .mv L))) :
    lcK (some (xs.map e, k)) ns st ft fe vs ρ = some (.list ((xs.filter c).map g), .mv []) := by
  have main : ∀ ys : List α, (∀ y ∈ ys, y ∈ xs) → ∃ L, lcF ns st ft fe (wipeE (zeroE ρ) vs) (ys.map e) = some ((ys.filter c).map g, true, L) := by
    intro ys
    induction ys with
    | nil => intro _; exact ⟨[], rfl⟩
    | cons y ys ih =>
      intro hy
      obtain ⟨L, hL⟩ := ih fun z hz => hy z (List.mem_cons_of_mem _ hz)
      obtain ⟨ρ1, e1, e2, e3⟩ := h y (hy y (List.mem_cons_self ..))
      rw [List.map_cons, lcF, e1, Option.bind_some, e2, Option.bind_some]
      cases hc : c y with
      | true =>
        obtain ⟨M, e4⟩ := e3 hc
        rw [if_pos rfl, e4, Option.bind_some, hL, List.filter_cons_of_pos hc]
        exact ⟨_, rfl⟩
      | false =>
        rw [if_neg (by simp), hL, List.filter_cons_of_neg (by simp [hc])]
        exact ⟨_, rfl⟩
  obtain ⟨L, hL⟩ := main xs fun _ h => h
  rw [lcK_eq, if_pos (by rw [List.length_map]; exact hl), hL]
  simp
theorem filter_tt {α : Type} : ∀ xs : List α, xs.filter (fun _ => true) = xs
  | [] => rfl
  | x :: xs => by rw [List.filter_cons_of_pos rfl, filter_tt xs]
theorem lc_map1 {α : Type} {ns vs : List Nat} {st : SG} {fe : EF} {e : α → PyData} {g : α → PyData} {xs : List α} {k : Kd} {ρ : Env} (hl : xs.length ≤ 1000000)
    (h : ∀ x ∈ xs, ∃ ρ1, st (e x) (wipeE (zeroE ρ) vs) = some ρ1 ∧ ∃ L, fe ρ1 = some (g x, .mv L)) :
    lcK (some (xs.map e, k)) ns st (fun _ => some true) fe vs ρ = some (.list (xs.map g), .mv []) := by
  have := lc_map (ns := ns) (vs := vs) (st := st) (ft := fun _ => some true) (fe := fe) (e := e) (g := g) (c := fun _ => true) (k := k) (ρ := ρ) hl fun x hx => by
    obtain ⟨ρ1, h1, h2⟩ := h x hx
    exact ⟨ρ1, h1, rfl, fun _ => h2⟩
  rw [this, filter_tt]
@[simp] theorem zeroE_nil : zeroE [] = [] := (rfl)
@[simp] theorem zeroE_cons {s : Sl} {ρ : Env} : zeroE (s :: ρ) = s.map (fun p => (p.1, 0)) :: zeroE ρ := (rfl)
theorem zeroE_none {ρ : Env} : zeroE (none :: ρ) = none :: zeroE ρ := (rfl)
theorem zeroE_some {d : PyData} {m : Nat} {ρ : Env} : zeroE (some (d, m) :: ρ) = some (d, 0) :: zeroE ρ := (rfl)

/-! ### texts -/
structure TOk (n : Nat) (x : Str) : Prop where
  ok : PyData.strOk x = true
  len : x.length ≤ n
theorem strOk_of (s : String) : PyData.strOk (Str.ofString s) = true := by
  unfold PyData.strOk
  rw [Str.ofString_eq_toList, List.all_toArray, List.all_map, List.all_eq_true]
  intro c _
  have h := c.valid
  simp only [UInt32.isValidChar, Nat.isValidChar] at h
  simp only [Function.comp_apply, decide_eq_true_eq, Char.toNat]
  omega
theorem TOk.lit {n : Nat} (s : String) (h : s.length ≤ n) : TOk n (Str.ofString s) := ⟨strOk_of s, by rw [PySem.ofString_length]; exact h⟩
theorem TOk.mono {n m : Nat} {x : Str} (h : TOk n x) (k : n ≤ m) : TOk m x := ⟨h.1, Nat.le_trans h.2 k⟩
theorem TOk.app {n m : Nat} {x y : Str} (h : TOk n x) (k : TOk m y) : TOk (n + m) (x ++ y) := by
  refine ⟨?_, by rw [Str.length_append]; exact Nat.add_le_add h.2 k.2⟩
  have h1 := h.1
  have h2 := k.1
  unfold PyData.strOk at *
  rw [Str.cps_append, Array.all_append, h1, h2]
  rfl
theorem TOk.empty : TOk 0 Str.empty := ⟨by decide +kernel, Nat.le_refl _⟩
theorem TOk.int {i : Int} (h : i.natAbs < 10 ^ 12) : TOk 13 (Str.ofString (toString i)) := ⟨strOk_of _, by rw [PySem.ofString_length]; exact int_text_length_le10 (k := 12) (by decide) h⟩
theorem TOk.sjoin {n m : Nat} {sep : Str} (hs : TOk m sep) : ∀ {xs : List Str}, (∀ x ∈ xs, TOk n x) → TOk (xs.length * (n + m)) (Str.join sep xs)
  | [], _ => TOk.empty.mono (Nat.zero_le _)
  | [x], h => (h x (List.mem_cons_self ..)).mono (by simp)
  | x :: y :: r, h => by
    have := ((h x (List.mem_cons_self ..)).app hs).app (TOk.sjoin hs (xs := y :: r) fun z hz => h z (List.mem_cons_of_mem _ hz))
    refine TOk.mono this ?_
    rw [List.length_cons (a := x), Nat.succ_mul]
    omega
theorem txt_join (y : Str) (xs : List Str) : Txt.join y xs = Str.join y xs := StrLaws.glued_eq_join y xs
theorem TOk.join {n m k : Nat} {sep : Str} {xs : List Str} (h : ∀ x ∈ xs, TOk n x) (hs : TOk m sep) (hk : xs.length ≤ k) : TOk (k * (n + m)) (Txt.join sep xs) := by
  rw [txt_join]
  exact (TOk.sjoin hs h).mono (Nat.mul_le_mul_right _ hk)
@[simp] theorem strsOf_map {xs : List Str} : strsOf (xs.map PyData.str) = some xs := by
  induction xs with
  | nil => rfl
  | cons n ns ih => simp [strsOf, ih]
theorem sum_le_mul {n : Nat} : ∀ {xs : List Nat}, (∀ x ∈ xs, x ≤ n) → xs.sum ≤ xs.length * n
  | [], _ => by simp
  | x :: xs, h => by
    have := sum_le_mul (xs := xs) fun z hz => h z (List.mem_cons_of_mem _ hz)
    have h0 := h x (List.mem_cons_self ..)
    rw [List.sum_cons, List.length_cons, Nat.succ_mul]
    omega
theorem joinD_ok {n m k : Nat} {sep : Str} {xs : List Str} (h : ∀ x ∈ xs, x.length ≤ n) (hs : sep.length ≤ m) (hk : xs.length ≤ k) (hh : k * (n + m) ≤ 1000000) : joinD (.str sep) (.list (xs.map PyData.str)) = some (.str (Txt.join sep xs)) := by
  have h1 : (xs.map (·.length)).sum ≤ xs.length * n := by
    have := sum_le_mul (n := n) (xs := xs.map (·.length)) fun y hy => by
      obtain ⟨x, hx, rfl⟩ := List.mem_map.mp hy
      exact h x hx
    rwa [List.length_map] at this
  have h2 : xs.length * sep.length ≤ xs.length * m := Nat.mul_le_mul_left _ hs
  have h3 : xs.length * (n + m) ≤ k * (n + m) := Nat.mul_le_mul_right _ hk
  rw [Nat.mul_add] at h3
  unfold joinD
  simp only [strsOf_map, Option.bind_some]
  rw [if_pos (by omega)]

/-! ### what may be shown and compared -/
structure Tame (D W : Nat) (d : PyData) : Prop where
  lay : d.canLay0 = true
  show_ : d.showable = true
  short : d.intsShort 13 = true
  deep : d.depth ≤ D
  heavy : d.weight ≤ W
section
variable {D W D' W' n : Nat} {d : PyData} {ds : List PyData}
theorem Tame.mono (h : Tame D W d) (h1 : D ≤ D') (h2 : W ≤ W') : Tame D' W' d := ⟨h.lay, h.show_, h.short, Nat.le_trans h.deep h1, Nat.le_trans h.heavy h2⟩
theorem Tame.none : Tame 0 0 .none := ⟨rfl, rfl, rfl, Nat.le_refl _, Nat.le_refl _⟩
theorem Tame.bool {b : Bool} : Tame 0 0 (.bool b) := ⟨rfl, rfl, rfl, Nat.le_refl _, Nat.le_refl _⟩
theorem Tame.str {x : Str} (h : TOk W x) : Tame 0 W (.str x) := ⟨by simpa only [PyData.canLay0] using h.ok, rfl, rfl, Nat.le_refl _, h.len⟩
theorem Tame.int {i : Int} (h : i.natAbs < 10 ^ 12) : Tame 0 40 (.int i) := by
  have hl : i.natAbs.log2 < 40 := by
    by_cases h0 : i.natAbs = 0
    · rw [h0]; decide
    · exact (Nat.log2_lt h0).mpr (Nat.lt_of_lt_of_le h (by decide))
  refine ⟨rfl, ?_, ?_, Nat.le_refl _, ?_⟩
  · simp only [PyData.showable, decide_eq_true_eq]
    omega
  · simp only [PyData.intsShort, decide_eq_true_eq]
    exact PyData.shown_int_le h
  · simp only [PyData.weight]
    split <;> omega
theorem tame_all (h : ∀ x ∈ ds, Tame D W x) : PyData.canLayAll0 ds = true ∧ PyData.showableAll ds = true ∧ PyData.intsShortAll 13 ds = true ∧ PyData.depthAll ds ≤ D ∧ PyData.weightAll ds ≤ ds.length * (W + 1) := by
  induction ds with
  | nil => exact ⟨rfl, rfl, rfl, Nat.zero_le _, Nat.zero_le _⟩
  | cons x xs ih =>
    obtain ⟨h1, h2, h3, h4, h5⟩ := ih fun y hy => h y (List.mem_cons_of_mem _ hy)
    have hx := h x (List.mem_cons_self ..)
    refine ⟨?_, ?_, ?_, ?_, ?_⟩
    · simp only [PyData.canLayAll0, hx.lay, h1, Bool.and_self]
    · simp only [PyData.showableAll, hx.show_, h2, Bool.and_self]
    · simp only [PyData.intsShortAll, hx.short, h3, Bool.and_self]
    · simp only [PyData.depthAll]
      exact Nat.max_le.mpr ⟨hx.deep, h4⟩
    · simp only [PyData.weightAll]
      have := hx.heavy
      rw [List.length_cons, Nat.succ_mul]
      omega
theorem Tame.list (h : ∀ x ∈ ds, Tame D W x) (hn : ds.length ≤ n) : Tame (D + 1) (n * (W + 1)) (.list ds) := by
  obtain ⟨h1, h2, h3, h4, h5⟩ := tame_all h
  refine ⟨?_, ?_, ?_, ?_, ?_⟩
  · simpa only [PyData.canLay0] using h1
  · simpa only [PyData.showable] using h2
  · simpa only [PyData.intsShort] using h3
  · simp only [PyData.depth]; omega
  · simp only [PyData.weight]
    exact Nat.le_trans h5 (Nat.mul_le_mul_right _ hn)
theorem Tame.tuple (h : ∀ x ∈ ds, Tame D W x) (hn : ds.length ≤ n) : Tame (D + 1) (n * (W + 1)) (.tuple ds) := by
  obtain ⟨h1, h2, h3, h4, h5⟩ := tame_all h
  refine ⟨?_, ?_, ?_, ?_, ?_⟩
  · simpa only [PyData.canLay0] using h1
  · simpa only [PyData.showable] using h2
  · simpa only [PyData.intsShort] using h3
  · simp only [PyData.depth]; omega
  · simp only [PyData.weight]
    exact Nat.le_trans h5 (Nat.mul_le_mul_right _ hn)
theorem Tame.reprOk (h : Tame D W d) (hD : D ≤ 60) (hW : W ≤ 60000) : reprOk d = true := by
  have hs := PyData.shown_le 13 (by decide) d (PyData.leavesShort_of_canLay0 13 d h.lay h.short)
  have h1 := h.deep
  have h2 := h.heavy
  unfold Va.reprOk
  simp only [Bool.and_eq_true, decide_eq_true_eq]
  exact ⟨⟨⟨h.show_, h.lay⟩, by omega⟩, by omega⟩
theorem Tame.shaped (h : Tame D W d) (hD : D ≤ 64) : SeqAt.shaped d = true := by
  have h1 := h.deep
  unfold SeqAt.shaped
  simp only [Bool.and_eq_true, decide_eq_true_eq]
  exact ⟨h.lay, by omega⟩
theorem Tame.eqv (h : Tame D W d) : PyData.eqv d d = true := SeqAt.eqv_refl d h.lay
end
theorem shaped_str {x : Str} (h : PyData.strOk x = true) : SeqAt.shaped (.str x) = true := by
  unfold SeqAt.shaped
  simp [PyData.canLay0, PyData.depth, h]
end Va

/-! Va17: a list in a slot's list is changed. -/
namespace Va
open PySem L2 PyProof.Rows

section
variable {K : PySem.W.Frag} {Wx : WxT} {B : Hp} {AF : List Addr} {σ : L2.St} {H H' : Hp} {ρ : Env} {Fs : Nat → List Addr} {v : V} {F : List Addr} {k : Kd} {kl wr : List Nat}
/-- the list that the slot i has at q, itself or deep in it, becomes o -/
theorem SR.write2 {ρ1 : Env} {G : List Addr} {i : Nat} {d d' : PyData} {u : V} {q : Addr} {o : HO} (S : SR K B AF σ H ρ1 Fs) (hi : ρ1[i]? = some (some (d, 2))) (hq : q ∈ Fs i) (hσ : σ[i]? = some (some u))
    (r : Rp K (upd H q o) u d' G) (hB : ∀ a ∈ G, B a = none) (hN : G.Nodup)
    (ha : ∀ (j : Nat) (e : PyData) (n : Nat), j ≠ i → ρ1[j]? = some (some (e, n)) → (∀ a ∈ Mf n (Fs j), a ∉ G) ∧ ∀ a ∈ G, a ≠ q → a ∉ Fs j) :
    SR K B AF σ (upd H q o) (ρ1.set i (some (d', 2))) (upF Fs i G) := by
  obtain ⟨v, h1, h2, h3, h4⟩ := S.val i d 2 hi
  have mb : Mb (H q) = true := h2.mb q hq
  have Bq : B q = none := h4.1 q hq
  have pj : ∀ (j : Nat) (e : PyData) (n : Nat), j ≠ i → ρ1[j]? = some (some (e, n)) → q ∉ Fs j := fun j e n ne w => S.dis i j d 2 e n hi w (Ne.symm ne) q hq
  refine ⟨by rw [List.length_set]; exact S.len, S.same.upd Bq (h2.wr q hq), fun j e n w => ?_, fun j j' e n e' n' w w' ne a hh => ?_⟩
  · rcases set_some w with ⟨rfl, z⟩ | ⟨ne, z⟩
    · cases z
      rw [upF_same]
      exact ⟨u, hσ, r, fun a ha => .inl (hB a ha), hB, fun z => (nomatch z), fun _ => hN⟩
    · obtain ⟨u, u1, u2, u3, u4⟩ := S.val j e n z
      rw [upF_ne ne]
      exact ⟨u, u1, u2.kp (.upd mb (pj j e n ne z)), u3, u4⟩
  · rcases set_some w with ⟨rfl, z⟩ | ⟨ne1, z⟩
    · cases z
      rcases set_some w' with ⟨rfl, z'⟩ | ⟨ne2, z'⟩
      · exact absurd rfl ne
      · rw [upF_same] at hh
        rw [upF_ne ne2]
        by_cases e : a = q
        · subst e
          exact pj j' e' n' ne2 z'
        · exact (ha j' e' n' ne2 z').2 a hh e
    · rw [upF_ne ne1] at hh
      rcases set_some w' with ⟨rfl, z'⟩ | ⟨ne2, z'⟩
      · rw [upF_same]
        exact (ha j e n ne1 z).1 a hh
      · rw [upF_ne ne2]
        exact S.dis j j' e n e' n' z z' ne a hh
theorem mut2_ok {H1 : Hp} {i : Nat} {d d' : PyData} {q : Addr} {u : V} {G : List Addr} {o : HO} (S : SR K B AF σ H ρ Fs) (g1 : Grow H H1) (ok : KV ρ Fs H v F k) (hi : ρ[i]? = some (some (d, 2))) (hn : i ∉ k.src) (hg : (giv kl k ρ).2 = 2)
    (hq : q ∈ Fs i) (hσ : σ[i]? = some (some u)) (r : Rp K (upd H1 q o) u d' G) (hG : ∀ a ∈ G, a ∈ Fs i ∨ a ∈ F) (hN : (Fs i ++ F).Nodup → G.Nodup) :
    SR K B AF σ (upd H1 q o) ((giv kl k ρ).1.set i (some (d', 2))) (upF Fs i G) ∧ Fr (i :: kl) σ H ρ Fs σ (upd H1 q o) ((giv kl k ρ).1.set i (some (d', 2))) (upF Fs i G) := by
  have GO := giv_ok (kl := kl) S ok
  have hi1 := giv_keep (kl := kl) hi hn
  have S1 : SR K B AF σ H1 (giv kl k ρ).1 Fs := (S.grow g1).less GO.len GO.less
  obtain ⟨_, _, _, u3, u4⟩ := S.val i d 2 hi
  have GF := GO.c
  rw [hg] at GF
  have nd : (Fs i ++ F).Nodup := List.nodup_append.mpr ⟨u4.2.2 rfl, GF.2.2 rfl, fun a ha b hb z => by
    subst z
    exact GO.a i d 2 hi1 a ha hb⟩
  constructor
  · refine S1.write2 hi1 hq hσ r (fun a ha => ?_) (hN nd) fun j e n ne w => ⟨fun a ha z => ?_, fun a ha _ z => ?_⟩
    · rcases hG a ha with ha | ha
      · exact u4.1 a ha
      · exact GF.1 a ha
    · rcases hG a z with z | z
      · exact S1.dis j i e n d 2 w hi1 ne a ha z
      · exact GO.a j e n w a ha z
    · rcases hG a ha with y | y
      · exact S1.dis i j d 2 e n hi1 w (Ne.symm ne) a y z
      · exact GO.b j e n w a (by rw [hg]; exact y) z
  · refine ⟨fun a z => ?_, fun a w _ e kk => ?_, fun j hj e n w a ha => ?_, fun j hj => ?_⟩
    · by_cases e : a = q
      · subst e
        rw [upd_same] at z
        cases z
      · rw [upd_ne e] at z
        exact g1.back z
    · have : a ≠ q := fun z => kk i (List.mem_cons_self ..) d 2 hi (z ▸ hq)
      rw [upd_ne this]
      exact g1.st a w e
    · rcases set_some w with ⟨rfl, z⟩ | ⟨ne, z⟩
      · cases z
        rw [upF_same] at ha
        rcases hG a ha with y | y
        · exact .inr ⟨j, hj, d, 2, hi, y⟩
        · exact (GO.e a (by rw [hg]; exact y)).imp id fun ⟨l, hl, w⟩ => ⟨l, List.mem_cons_of_mem _ hl, w⟩
      · rw [upF_ne ne] at ha
        obtain ⟨n0, q0, q1⟩ := GO.less j e n z
        exact .inr ⟨j, hj, e, n0, q0, Mf_le q1 ha⟩
    · have ne : j ≠ i := fun z => hj (by rw [z]; exact List.mem_cons_self ..)
      refine ⟨rfl, fun e n w => ?_⟩
      rcases set_some w with ⟨z, _⟩ | ⟨_, z⟩
      · exact absurd z ne
      · obtain ⟨n0, q0, q1⟩ := GO.less j e n z
        exact ⟨n0, q0, upF_ne ne, fun a ha => Mf_le q1 ha⟩
/-! ### an item -/
theorem RpL.put : ∀ {vs : List V} {ds : List PyData} {F : List Addr} (n : Nat) {d : PyData}, RpL K H vs ds F → ds[n]? = some d →
    ∃ A G B w, F = A ++ (G ++ B) ∧ vs[n]? = some w ∧ Rp K H w d G ∧ ∀ (H' : Hp) (d' : PyData) (G' : List Addr), Kp (A ++ B) H H' → Rp K H' w d' G' → RpL K H' vs (ds.set n d') (A ++ (G' ++ B))
  | _, _, _, 0, d, .cons (F := F) (G := G) e r, h => by
    cases h
    exact ⟨[], F, G, _, rfl, rfl, e, fun H' d' G' kp e' => show RpL K H' _ (d' :: _) (G' ++ G) from .cons e' (r.kp (by simpa using kp))⟩
  | _, _, _, n + 1, d, .cons (F := F) (G := G) e r, h => by
    obtain ⟨A, G', B, w, h1, h2, h3, h4⟩ := RpL.put n r (by simpa using h)
    refine ⟨F ++ A, G', B, w, by rw [h1, List.append_assoc], by simpa using h2, h3, fun H' d' G'' kp e' => ?_⟩
    rw [List.append_assoc]
    exact .cons (e.kp (kp.mono fun a ha => by simp [ha])) (h4 H' d' G'' (kp.mono fun a ha => by
      rcases List.mem_append.mp ha with ha | ha <;> simp [ha]) e')
/-- the list at a of a list or tuple: its place there, its items -/
def inner (d : PyData) (a : Int) : Option (Nat × List PyData) := match d with
  | .list xs => (ixN xs.length a).bind fun n => match xs[n]? with
    | some (.list ys) => some (n, ys)
    | _ => none
  | .tuple xs => (ixN xs.length a).bind fun n => match xs[n]? with
    | some (.list ys) => some (n, ys)
    | _ => none
  | _ => none
def putIn (d : PyData) (n : Nat) (e : PyData) : PyData := match d with
  | .list xs => .list (xs.set n e)
  | .tuple xs => .tuple (xs.set n e)
  | d => d
theorem inner_ok {d : PyData} {a : Int} {n : Nat} {ys : List PyData} {u : V} (e : inner d a = some (n, ys)) (r : Rp K H u d F) :
    ∃ (pre A B G0 : List Addr) (q : Addr) (ws : List V), F = pre ++ (A ++ ((q :: G0) ++ B)) ∧ H q = some (.lst ws) ∧ RpL K H ws ys G0 ∧
      (∀ (H' : Hp) (Q : VK), Grow H H' → Q (.ref q) H' → rIx K u (.int a) H' Q) ∧
      ∀ (H' : Hp) (e' : PyData) (G' : List Addr), Kp (pre ++ (A ++ B)) H H' → Rp K H' (.ref q) e' G' → Rp K H' u (putIn d n e') (pre ++ (A ++ (G' ++ B))) := by
  unfold inner at e
  split at e
  · rename_i xs
    obtain ⟨n', e1, e2⟩ := Option.bind_eq_some_iff.mp e
    split at e2
    case h_2 => cases e2
    rename_i ys' e3
    cases e2
    cases r with
    | lst h0 r0 =>
      rename_i p vs F'
      obtain ⟨A, G, B', w, h1, h2, h3, h4⟩ := r0.put n e3
      cases h3 with
      | lst h5 r5 =>
        rename_i q ws G0
        refine ⟨[p], A, B', G0, q, ws, by rw [h1]; rfl, h5, r5, fun H' Q g hq => .inl ⟨_, _, a, _, rfl, rfl, .of (g _ _ h0), ?_, hq⟩, fun H' e' G' kp r' => ?_⟩
        · unfold atI
          rw [r0.length, e1]
          exact h2
        · exact .lst (kp _ _ h0 (.inr ⟨List.mem_cons_self .., inferInstance⟩)) (h4 H' e' G' (kp.mono fun a ha => List.mem_cons_of_mem _ ha) r')
  · rename_i xs
    obtain ⟨n', e1, e2⟩ := Option.bind_eq_some_iff.mp e
    split at e2
    case h_2 => cases e2
    rename_i ys' e3
    cases e2
    cases r with
    | tup h0 r0 =>
      rename_i p vs
      obtain ⟨A, G, B', w, h1, h2, h3, h4⟩ := r0.put n e3
      cases h3 with
      | lst h5 r5 =>
        rename_i q ws G0
        refine ⟨[], A, B', G0, q, ws, by rw [h1]; rfl, h5, r5, fun H' Q g hq => .inr (.inl ⟨_, _, a, _, rfl, rfl, Kp.sqT (F := []) g.kp h0.1, ?_, hq⟩), fun H' e' G' kp r' => ?_⟩
        · unfold atI
          rw [r0.length, e1]
          exact h2
        · exact .tup ⟨kp.sqT h0.1, kp.noD h0.2⟩ (h4 H' e' G' kp r')
  · cases e
/-- slot i, where all lists in it are its own -/
def ownA (i : Nat) (kl : List Nat) (k : Kd) (ρ : Env) : Option PyData := match ρ[i]? with
  | some (some (d, m)) => if m = 2 ∧ i ∉ k.src ∧ (giv kl k ρ).2 = 2 then some d else none
  | _ => none
theorem ownA_ok {i : Nat} {d : PyData} (h : ownA i kl k ρ = some d) : ρ[i]? = some (some (d, 2)) ∧ i ∉ k.src ∧ (giv kl k ρ).2 = 2 := by
  unfold ownA at h
  split at h
  · rename_i d' m e
    split at h
    · rename_i hc
      cases h
      obtain ⟨rfl, h1, h2⟩ := hc
      exact ⟨e, h1, h2⟩
    · cases h
  · cases h
/-- what becomes of x[a], a list -/
def mutIn (i : Nat) (d : PyData) (k : Kd) (kl : List Nat) (n : Nat) (zs : List PyData) (ρ : Env) : Env := (giv kl k ρ).1.set i (some (putIn d n (.list zs), 2))
/-- x[a][b] = e -/
def sIdx2 (kl : List Nat) (i : Nat) (f fa fb : EF) : SF := fun ρ => (f ρ).bind fun p => (fa ρ).bind fun ra => (fb ρ).bind fun rb => match ra.1, rb.1 with
  | .int a, .int b => (ownA i kl p.2 ρ).bind fun d => (inner d a).bind fun w => (ixN w.2.length b).map fun m => .nx (mutIn i d p.2 kl w.1 (w.2.set m p.1) ρ)
  | _, _ => none
theorem perm4 {pre A G0 B F : List Addr} {q : Addr} : List.Perm ((pre ++ (A ++ ((q :: G0) ++ B))) ++ F) (pre ++ (A ++ ((q :: (G0 ++ F)) ++ B))) := by
  rw [List.append_assoc, List.append_assoc]
  refine List.Perm.append_left pre (List.Perm.append_left A ?_)
  show List.Perm (((q :: G0) ++ B) ++ F) (q :: ((G0 ++ F) ++ B))
  show List.Perm (q :: ((G0 ++ B) ++ F)) (q :: ((G0 ++ F) ++ B))
  refine List.Perm.cons q ?_
  rw [List.append_assoc, List.append_assoc]
  exact List.Perm.append_left G0 List.perm_append_comm
/-- the end of a store into x[a] -/
theorem put_end {H1 H3 : Hp} {i n : Nat} {d : PyData} {a : Int} {ys zs : List PyData} {u : V} (S : SR K B AF σ H ρ Fs) (g3 : Grow H H3) (o1 : KV ρ Fs H v F k) (ho : ownA i kl k ρ = some d) (hu : σ[i]? = some (some u))
    {pre A B' G0 G1 : List Addr} {q : Addr} {zv : List V} (hF : Fs i = pre ++ (A ++ ((q :: G0) ++ B'))) (hmb : Mb (H3 q) = true)
    (hput : ∀ (H' : Hp) (e' : PyData) (G' : List Addr), Kp (pre ++ (A ++ B')) H3 H' → Rp K H' (.ref q) e' G' → Rp K H' u (putIn d n e') (pre ++ (A ++ (G' ++ B'))))
    (rz : RpL K H3 zv zs G1) (hG1 : ∀ b ∈ G1, b ∈ G0 ∨ b ∈ F) (hN1 : (G0 ++ F).Nodup → G1.Nodup) {C : L2.St → Hp → Prop}
    (p : PNx K B AF (i :: kl) σ H ρ Fs (mutIn i d k kl n zs ρ) C) : C σ (upd H3 q (.lst zv)) := by
  obtain ⟨hi, hn, hg⟩ := ownA_ok ho
  have GO := giv_ok (kl := kl) S o1
  have GF := GO.c
  rw [hg] at GF
  have hi1 := giv_keep (kl := kl) hi hn
  obtain ⟨_, _, _, _, u4⟩ := S.val i d 2 hi
  have nd : (Fs i ++ F).Nodup := List.nodup_append.mpr ⟨u4.2.2 rfl, GF.2.2 rfl, fun a ha b hb z => by
    subst z
    exact GO.a i d 2 hi1 a ha hb⟩
  have nd0 := nd
  rw [hF] at nd
  have nd2 := perm4.nodup_iff.mp nd
  -- q is nowhere else
  have hd := List.nodup_append.mp nd2
  have hd2 := List.nodup_append.mp hd.2.1
  have hd3 := List.nodup_append.mp hd2.2.1
  have qn : ∀ b ∈ pre ++ (A ++ B'), q ≠ b := fun b hb z => by
    subst z
    rcases List.mem_append.mp hb with hb | hb
    · exact hd.2.2 q hb q (by simp) rfl
    · rcases List.mem_append.mp hb with hb | hb
      · exact hd2.2.2 q hb q (by simp) rfl
      · exact hd3.2.2 q (by simp) q hb rfl
  have q1 : q ∉ G0 ++ F := (List.nodup_cons.mp hd3.1).1
  have qG1 : q ∉ G1 := fun z => q1 (List.mem_append.mpr (hG1 q z))
  have r := hput (upd H3 q (.lst zv)) (.list zs) (q :: G1) (.upd hmb fun z => qn q z rfl) (.lst upd_same (rz.kp (.upd hmb qG1)))
  have mem : ∀ b ∈ pre ++ (A ++ ((q :: G1) ++ B')), b ∈ Fs i ∨ b ∈ F := fun b hb => by
    rw [hF]
    simp only [List.mem_append, List.mem_cons] at hb ⊢
    rcases hb with h | h | (h | h) | h
    · exact .inl (.inl h)
    · exact .inl (.inr (.inl h))
    · exact .inl (.inr (.inr (.inl (.inl h))))
    · rcases hG1 b h with h | h
      · exact .inl (.inr (.inr (.inl (.inr h))))
      · exact .inr h
    · exact .inl (.inr (.inr (.inr h)))
  have G1m : ∀ b ∈ q :: G1, b ∈ q :: (G0 ++ F) := fun b hb => by
    rcases List.mem_cons.mp hb with rfl | hb
    · exact List.mem_cons_self ..
    · exact List.mem_cons_of_mem _ (List.mem_append.mpr (hG1 b hb))
  have ndG : (pre ++ (A ++ ((q :: G1) ++ B'))).Nodup := by
    have s1 : (q :: G1).Nodup := List.nodup_cons.mpr ⟨qG1, hN1 (List.nodup_cons.mp hd3.1).2⟩
    have s2 : ((q :: G1) ++ B').Nodup := List.nodup_append.mpr ⟨s1, hd3.2.1, fun a ha b hb => hd3.2.2 a (G1m a ha) b hb⟩
    have m2 : ∀ b ∈ (q :: G1) ++ B', b ∈ (q :: (G0 ++ F)) ++ B' := fun b hb => (List.mem_append.mp hb).elim (fun h => List.mem_append_left _ (G1m b h)) fun h => List.mem_append_right _ h
    have s3 : (A ++ ((q :: G1) ++ B')).Nodup := List.nodup_append.mpr ⟨hd2.1, s2, fun a ha b hb => hd2.2.2 a ha b (m2 b hb)⟩
    refine List.nodup_append.mpr ⟨hd.1, s3, fun a ha b hb => hd.2.2 a ha b ?_⟩
    exact (List.mem_append.mp hb).elim (fun h => List.mem_append_left _ h) fun h => List.mem_append_right _ (m2 b h)
  obtain ⟨x1, x2⟩ := mut2_ok (kl := kl) (H1 := H3) (o := .lst zv) (d' := putIn d n (.list zs)) S g3 o1 hi hn hg (by rw [hF]; simp) hu r mem fun _ => ndG
  exact p _ _ _ x1 x2
theorem vs_idx2 (kl : List Nat) (i : Nat) {te ta tb : TE} {f fa fb : EF} (h : VE K te f) (ha : VE K ta fa) (hb : VE K tb fb) : VS K Wx (i :: kl) (tAsg te (gSub (tOp (rIx K) (tVar i) ta) tb rSetL)) (sIdx2 kl i f fa fb) := by
  intro B AF σ H ρ Fs o S e D p
  obtain ⟨⟨d, k⟩, e1, ea⟩ := Option.bind_eq_some_iff.mp e
  obtain ⟨⟨da, ka⟩, e2, eb⟩ := Option.bind_eq_some_iff.mp ea
  obtain ⟨⟨db, kb⟩, e3, ec⟩ := Option.bind_eq_some_iff.mp eb
  clear e ea eb
  simp only at ec
  split at ec
  case h_2 => cases ec
  rename_i a b
  obtain ⟨dd, e4, ed⟩ := Option.bind_eq_some_iff.mp ec
  obtain ⟨⟨n, ys⟩, e5, ee⟩ := Option.bind_eq_some_iff.mp ed
  obtain ⟨m, e6, ef⟩ := Option.map_eq_some_iff.mp ee
  subst ef
  obtain ⟨hi, hn, hg⟩ := ownA_ok e4
  obtain ⟨u, h1, h2, h3, h4⟩ := S.val i _ _ hi
  refine h B AF σ H ρ Fs d k S e1 _ fun v H1 F g1 r1 o1 => ?_
  refine ⟨u, h1, ha B AF σ H1 ρ Fs (.int a) ka (S.grow g1) e2 _ fun w H2 F2 g2 r2 o2 => ?_⟩
  cases r2
  have g12 := g1.trans g2
  obtain ⟨pre, A, B', G0, q, ws, hF, hq, rw_, hix, hput⟩ := inner_ok e5 (h2.grow g12)
  refine hix H2 _ (.refl _) ?_
  refine hb B AF σ H2 ρ Fs (.int b) kb (S.grow g12) e3 _ fun z H3 F3 g3 r3 o3 => ?_
  cases r3
  have g123 := g12.trans g3
  have lt : m < ys.length := by
    unfold ixN at e6
    simp only at e6
    split at e6
    · split at e6
      · cases e6; omega
      · cases e6
    · split at e6
      · cases e6; omega
      · cases e6
  refine ⟨q, ws, b, m, rfl, rfl, g3 _ _ hq, by rw [rw_.length]; exact e6, ?_⟩
  obtain ⟨A2, G2, B2, hF2, hr⟩ := RpL.set m (rw_.grow g3) (r1.grow (g2.trans g3)) lt
  refine put_end (H1 := H3) (a := a) (ys := ys) (u := u) (n := n) S g123 o1 e4 h1 hF (by rw [g3 _ _ hq]; rfl) (fun H' e' G' kp r' => hput H' e' G' (fun b o e q => have : Nt o := q.elim Nt.mb (·.2); kp b o (g3.st b o e) q) r') hr (fun b hb => ?_) (fun z => ?_) p
  · rw [hF2]
    simp only [List.mem_append] at hb ⊢
    rcases hb with z | z | z
    · exact .inl (.inl z)
    · exact .inr z
    · exact .inl (.inr (.inr z))
  · rw [hF2] at z
    have s : List.Sublist (A2 ++ B2) (A2 ++ (G2 ++ B2)) := List.Sublist.append (List.Sublist.refl A2) (List.sublist_append_right G2 B2)
    have z2 : ((A2 ++ B2) ++ F).Nodup := z.sublist (s.append (List.Sublist.refl F))
    have pm : List.Perm ((A2 ++ B2) ++ F) (A2 ++ (F ++ B2)) := by
      rw [List.append_assoc]
      exact List.Perm.append_left A2 List.perm_append_comm
    exact pm.nodup_iff.mp z2
/-- x[a].append(e) -/
def sApp2 (kl : List Nat) (i : Nat) (fa f : EF) : SF := fun ρ => (fa ρ).bind fun ra => (f ρ).bind fun p => match ra.1 with
  | .int a => (ownA i kl p.2 ρ).bind fun d => (inner d a).bind fun w => if w.2.length < 1000000 then some (.nx (mutIn i d p.2 kl w.1 (w.2 ++ [p.1]) ρ)) else none
  | _ => none
theorem vs_app2 (kl : List Nat) (i : Nat) {te ta : TE} {f fa : EF} (h : VE K te f) (ha : VE K ta fa) : VS K Wx (i :: kl) (tDrop (tBM K "list" rAppend (tOp (rIx K) (tVar i) ta) (tCons te tNil))) (sApp2 kl i fa f) := by
  intro B AF σ H ρ Fs o S e D p
  obtain ⟨⟨da, ka⟩, e2, ea⟩ := Option.bind_eq_some_iff.mp e
  obtain ⟨⟨d, k⟩, e1, eb⟩ := Option.bind_eq_some_iff.mp ea
  clear e ea
  simp only at eb
  split at eb
  case h_2 => cases eb
  rename_i a
  obtain ⟨dd, e4, ec⟩ := Option.bind_eq_some_iff.mp eb
  obtain ⟨⟨n, ys⟩, e5, ed⟩ := Option.bind_eq_some_iff.mp ec
  split at ed
  case isFalse => cases ed
  rename_i hz
  cases ed
  obtain ⟨hi, hn, hg⟩ := ownA_ok e4
  obtain ⟨u, h1, h2, h3, h4⟩ := S.val i _ _ hi
  refine ⟨u, h1, ha B AF σ H ρ Fs (.int a) ka S e2 _ fun w H1 F1 g1 r1 o1 => ?_⟩
  cases r1
  obtain ⟨pre, A, B', G0, q, ws, hF, hq, rw_, hix, hput⟩ := inner_ok e5 (h2.grow g1)
  refine hix H1 _ (.refl _) ⟨Or.inl ⟨rfl, _, Or.inl (Or.inl hq)⟩, ?_⟩
  refine h B AF σ H1 ρ Fs d k (S.grow g1) e1 _ fun v H2 F g2 r2 o2 => ?_
  refine ⟨q, ws, v, rfl, rfl, g2 _ _ hq, lt_line (by rw [rw_.length]; exact hz), ?_⟩
  have o2' : KV ρ Fs H v F k := ⟨o2.1.back g1, fun L hL => by
    obtain ⟨p, G, w1, w2, w3, w4⟩ := o2.2 L hL
    exact ⟨p, G, w1, w2, w3, g1.back w4⟩⟩
  exact put_end (H1 := H2) (a := a) (ys := ys) (u := u) (n := n) S (g1.trans g2) o2' e4 h1 hF (by rw [g2 _ _ hq]; rfl) (fun H' e' G' kp r' => hput H' e' G' (fun b o e q => have : Nt o := q.elim Nt.mb (·.2); kp b o (g2.st b o e) q) r') ((rw_.grow g2).snoc r2) (fun b hb => List.mem_append.mp hb) (fun z => z) p
/-! ### each list of a list gets one thing more -/
def spoilD (c : PyData) : PyData → PyData
  | .list ys => .list (ys ++ [c])
  | d => d
def shortL : PyData → Bool
  | .list ys => decide (ys.length < 1000000)
  | _ => false
/-- for j in x: j.append(c) -/
def sSpoil (i j : Nat) (c : PyData) : SF := fun ρ => match ρ[i]? with
  | some (some (.list xs, m)) => if m = 2 ∧ xs.all shortL = true ∧ i ≠ j ∧ j < ρ.length then some (.nx ((ρ.set j none).set i (some (.list (xs.map (spoilD c)), 2)))) else none
  | _ => none
theorem vs_spoil (i j : Nat) {c : V} {cd : PyData} (hc : rpC c cd) : VS K Wx [i, j] (tFor (iAny K (tVar i)) (gName j) (tDrop (tBM K "list" rAppend (tVar j) (tCons (tC c) tNil)))) (sSpoil i j cd) := by
  intro B AF σ H ρ Fs o S e D p
  unfold sSpoil at e
  split at e
  case h_2 => cases e
  rename_i xs m hi
  split at e
  case isFalse => cases e
  rename_i hh
  obtain ⟨rfl, hall, hij, hj⟩ := hh
  cases e
  obtain ⟨u, h1, h2, h3, h4⟩ := S.val i _ _ hi
  obtain ⟨a, F0, vs, rfl, hF, ha, hr⟩ : ∃ a F0 vs, u = .ref a ∧ Fs i = a :: F0 ∧ H a = some (.lst vs) ∧ RpL K H vs xs F0 := by
    generalize hF : Fs i = F' at h2
    cases h2 with
    | lst q r => exact ⟨_, _, _, rfl, rfl, q, r⟩
  refine .inl ⟨_, h1, a, rfl, ⟨_, .of ha⟩, ?_⟩
  let zs : Nat → List PyData := fun k => (xs.take k).map (spoilD cd) ++ xs.drop k
  have zlen : ∀ k, k ≤ xs.length → (zs k).length = xs.length := fun k hk => by simp only [zs, List.length_append, List.length_map, List.length_take, List.length_drop]; omega
  let W : Nat → L2.St → Hp → Prop := fun k σ' H' => ∃ Fk, SR K B AF σ' H' ((ρ.set j none).set i (some (.list (zs k), 2))) Fk ∧ σ'[i]? = some (some (.ref a)) ∧ H' a = some (.lst vs) ∧ Fr [i, j] σ H ρ Fs σ' H' ((ρ.set j none).set i (some (.list (zs k), 2))) Fk
  have il : i < ρ.length := (List.getElem?_eq_some_iff.mp hi).1
  have start : W 0 σ H := by
    have hz : zs 0 = xs := by simp [zs]
    have hs : ∀ (l : Nat) (d : PyData) (m : Nat), ((ρ.set j none).set i (some (.list (zs 0), 2)))[l]? = some (some (d, m)) → ∃ m0, ρ[l]? = some (some (d, m0)) ∧ (m = m0 ∨ m = 0) := fun l d m q => by
      rcases set_some q with ⟨rfl, z⟩ | ⟨ne, z⟩
      · cases z
        exact ⟨2, by rw [hz]; exact hi, .inl rfl⟩
      · rcases set_some z with ⟨_, z⟩ | ⟨_, z⟩
        · cases z
        · exact ⟨m, z, .inl rfl⟩
    exact ⟨Fs, S.less (by simp) hs, h1, ha, Fr.less hs⟩
  refine ⟨fun k m σ' H' => m = xs.length - k ∧ k ≤ xs.length ∧ W k σ' H', ⟨xs.length, by simp, Nat.zero_le _, start⟩, ?_⟩
  rintro k m σ1 H1 ⟨rfl, hk, Fk, Sk, hσ, hH, Fr1⟩
  have hi1 : ((ρ.set j none).set i (some (PyData.list (zs k), 2)))[i]? = some (some (.list (zs k), 2)) := List.getElem?_set_self (by simpa using il)
  obtain ⟨u', w1, w2, w3, w4⟩ := Sk.val i _ _ hi1
  rw [hσ] at w1
  cases w1
  obtain ⟨F1, hF1, hr1⟩ : ∃ F1, Fk i = a :: F1 ∧ RpL K H1 vs (zs k) F1 := by
    generalize hF' : Fk i = F' at w2
    cases w2 with
    | lst q r =>
      rw [hH] at q
      cases q
      exact ⟨_, rfl, r⟩
  have vl : vs.length = xs.length := by rw [hr1.length]; exact zlen k hk
  by_cases hlt : k < xs.length
  · have hget : (zs k)[k]? = some xs[k] := by
      simp only [zs]
      rw [List.getElem?_append_right (by simp only [List.length_map, List.length_take]; omega), List.getElem?_drop]
      simp [Nat.min_eq_left (Nat.le_of_lt hlt), List.length_map, List.length_take]
    have hsh : shortL xs[k] = true := List.all_eq_true.mp hall _ (List.getElem_mem hlt)
    obtain ⟨ys, hy, hyl⟩ : ∃ ys, xs[k] = .list ys ∧ ys.length < 1000000 := by
      cases q : xs[k] with
      | list ys =>
        rw [q] at hsh
        exact ⟨ys, rfl, of_decide_eq_true hsh⟩
      | _ => rw [q] at hsh; cases hsh
    rw [hy] at hget
    obtain ⟨A, G, B', w, z1, hx, z3, hput⟩ := hr1.put k hget
    obtain ⟨q, ws, G0, rfl, rfl, hq, rq⟩ : ∃ q ws G0, w = .ref q ∧ G = q :: G0 ∧ H1 q = some (.lst ws) ∧ RpL K H1 ws ys G0 := by
      cases z3 with
      | lst h r => exact ⟨_, _, _, rfl, rfl, h, r⟩
    refine .inr ⟨⟨vs, _, .of hH, hx⟩, W (k + 1), fun σ' H' w => ⟨xs.length - (k + 1), by omega, rfl, hlt, w⟩, fun x H2 hy2 => ?_⟩
    obtain ⟨rfl, hy3⟩ := hy2
    have hx' := hy3 vs (.of hH)
    rw [hx] at hx'
    cases hx'
    have jl : j < σ1.length := by rw [Sk.len]; simpa using hj
    refine ⟨_, List.getElem?_set_self jl, Or.inl ⟨rfl, _, Or.inl (Or.inl hq)⟩, ?_⟩
    refine ⟨q, ws, c, rfl, rfl, hq, lt_line (by rw [rq.length]; exact hyl), ?_⟩
    -- the state behind the turn
    have nd : (a :: F1).Nodup := by
      have := w4.2.2 rfl
      rwa [hF1] at this
    have nd1 := (List.nodup_cons.mp nd).2
    rw [z1] at nd1
    have hd := List.nodup_append.mp nd1
    have hd2 := List.nodup_append.mp hd.2.1
    have qn : ∀ b ∈ A ++ B', q ≠ b := fun b hb z => by
      subst z
      rcases List.mem_append.mp hb with hb | hb
      · exact hd.2.2 q hb q (by simp) rfl
      · exact hd2.2.2 q (by simp) q hb rfl
    have qG0 : q ∉ G0 := (List.nodup_cons.mp hd2.1).1
    have qF1 : q ∈ F1 := by rw [z1]; simp
    have aq : a ≠ q := fun z => (List.nodup_cons.mp nd).1 (z ▸ qF1)
    have qFk : q ∈ Fk i := by rw [hF1]; exact List.mem_cons_of_mem _ qF1
    have mb : Mb (H2 q) = true := by rw [hq]; rfl
    have ez : zs (k + 1) = (zs k).set k (.list (ys ++ [cd])) := by
      simp only [zs]
      rw [List.take_succ_eq_append_getElem hlt, hy, List.map_append, List.drop_eq_getElem_cons hlt, hy]
      rw [List.set_append_right _ _ (by simp only [List.length_map, List.length_take]; omega)]
      simp [Nat.min_eq_left (Nat.le_of_lt hlt), spoilD]
    have rnew : Rp K (upd H2 q (.lst (ws ++ [c]))) (.ref a) (.list (zs (k + 1))) (a :: F1) := by
      refine .lst (by rw [upd_ne aq]; exact hH) ?_
      rw [ez, z1]
      refine hput _ _ _ (.upd mb fun z => qn q z rfl) (.lst upd_same ?_)
      have := (rq.snoc (rp_c (H := H2) hc)).kp (Kp.upd (o := .lst (ws ++ [c])) mb (by simpa using qG0))
      simpa using this
    have jn : ((ρ.set j none).set i (some (PyData.list (zs k), 2)))[j]? = some none := by
      rw [List.getElem?_set_ne hij, List.getElem?_set_self hj]
    have S2 : SR K B AF (σ1.set j (some (V.ref q))) H2 ((ρ.set j none).set i (some (.list (zs k), 2))) Fk := by
      refine ⟨by rw [List.length_set]; exact Sk.len, Sk.same, fun l d m e => ?_, Sk.dis⟩
      have ne : j ≠ l := fun z => by rw [← z, jn] at e; cases e
      rw [List.getElem?_set_ne ne]
      exact Sk.val l d m e
    have S3 := S2.write2 (o := .lst (ws ++ [c])) (d' := .list (zs (k + 1))) (G := a :: F1) hi1 qFk (by rw [List.getElem?_set_ne (Ne.symm hij)]; exact hσ) rnew (fun b hb => w4.1 b (by rw [← hF1] at hb; exact hb)) nd fun l e n ne w => by
      rw [← hF1]
      exact ⟨fun b hb => Sk.dis l i e n _ 2 w hi1 ne b hb, fun b hb _ => Sk.dis i l _ 2 e n hi1 w (Ne.symm ne) b hb⟩
    rw [List.set_set] at S3
    refine ⟨_, S3, by rw [List.getElem?_set_ne (Ne.symm hij)]; exact hσ, by rw [upd_ne aq]; exact hH, ?_⟩
    refine (Fr1.trans (wr' := [i, j]) ?_).mono (fun b hb => (List.mem_append.mp hb).elim id id)
    refine ⟨fun b z => ?_, fun b o _ e kk => ?_, fun l hl e n w b hb => ?_, fun l hl => ?_⟩
    · by_cases e : b = q
      · subst e
        rw [upd_same] at z; cases z
      · rwa [upd_ne e] at z
    · have : b ≠ q := fun z => kk i (List.mem_cons_self ..) _ 2 hi1 (z ▸ qFk)
      rw [upd_ne this]
      exact e
    · rcases set_some w with ⟨rfl, z⟩ | ⟨ne, z⟩
      · cases z
        rw [upF_same] at hb
        exact .inr ⟨l, hl, _, 2, hi1, by rw [hF1]; exact hb⟩
      · rcases set_some z with ⟨_, z⟩ | ⟨nj, _⟩
        · cases z
        · simp only [List.mem_cons, List.not_mem_nil, or_false] at hl
          rcases hl with rfl | rfl
          · exact absurd rfl ne
          · exact absurd rfl nj
    · have n1 : l ≠ i := fun z => hl (by rw [z]; simp)
      have n2 : j ≠ l := fun z => hl (by rw [← z]; simp)
      refine ⟨List.getElem?_set_ne n2, fun e n w => ⟨n, ?_, upF_ne n1, fun b hb => hb⟩⟩
      rw [List.getElem?_set_ne (Ne.symm n1)] at w ⊢
      exact w
  · have hk' : k = xs.length := by omega
    subst hk'
    refine .inl ⟨⟨vs, .of hH, by omega⟩, ?_⟩
    have hz : zs xs.length = xs.map (spoilD cd) := by
      simp only [zs]
      rw [List.take_length, List.drop_length, List.append_nil]
    rw [hz] at Sk Fr1
    exact p σ1 H1 Fk Sk Fr1
end
/-! ### worked out -/
def idx2J (m : Option Nat) (dd d : PyData) (k : Kd) (n : Nat) (ys : List PyData) (kl : List Nat) (i : Nat) (ρ : Env) : Option Out := m.map fun m => .nx (mutIn i dd k kl n (ys.set m d) ρ)
def idx2I (w : Option (Nat × List PyData)) (dd d : PyData) (k : Kd) (b : Int) (kl : List Nat) (i : Nat) (ρ : Env) : Option Out := w.bind fun w => idx2J (ixN w.2.length b) dd d k w.1 w.2 kl i ρ
def idx2O (dd : Option PyData) (d : PyData) (k : Kd) (a b : Int) (kl : List Nat) (i : Nat) (ρ : Env) : Option Out := dd.bind fun dd => idx2I (inner dd a) dd d k b kl i ρ
def idx2K (p ra rb : Option (PyData × Kd)) (kl : List Nat) (i : Nat) (ρ : Env) : Option Out := p.bind fun p => ra.bind fun ra => rb.bind fun rb => match ra.1, rb.1 with
  | .int a, .int b => idx2O (ownA i kl p.2 ρ) p.1 p.2 a b kl i ρ
  | _, _ => none
def app2I (w : Option (Nat × List PyData)) (dd d : PyData) (k : Kd) (kl : List Nat) (i : Nat) (ρ : Env) : Option Out := w.bind fun w => if w.2.length < 1000000 then some (.nx (mutIn i dd k kl w.1 (w.2 ++ [d]) ρ)) else none
def app2O (dd : Option PyData) (d : PyData) (k : Kd) (a : Int) (kl : List Nat) (i : Nat) (ρ : Env) : Option Out := dd.bind fun dd => app2I (inner dd a) dd d k kl i ρ
def app2K (ra p : Option (PyData × Kd)) (kl : List Nat) (i : Nat) (ρ : Env) : Option Out := ra.bind fun ra => p.bind fun p => match ra.1 with
  | .int a => app2O (ownA i kl p.2 ρ) p.1 p.2 a kl i ρ
  | _ => none
def ownAK (s : Option Sl) (b : Bool) (g : Nat) : Option PyData := match s with
  | some (some (d, m)) => if m = 2 ∧ b = false ∧ g = 2 then some d else none
  | _ => none
def innerJ (n : Nat) (y : Option PyData) : Option (Nat × List PyData) := match y with
  | some (.list ys) => some (n, ys)
  | _ => none
def innerK (n : Option Nat) (xs : List PyData) : Option (Nat × List PyData) := n.bind fun n => innerJ n xs[n]?
section
variable {f fa fb : EF} {kl : List Nat} {i j m n g : Nat} {ρ : Env} {d dd e c : PyData} {k k' k'' : Kd} {a b : Int} {xs ys : List PyData}
@[simp] theorem sIdx2_eq : sIdx2 kl i f fa fb ρ = idx2K (f ρ) (fa ρ) (fb ρ) kl i ρ := (rfl)
@[simp] theorem idx2K_eq : idx2K (some (d, k)) (some (.int a, k')) (some (.int b, k'')) kl i ρ = idx2O (ownA i kl k ρ) d k a b kl i ρ := (rfl)
@[simp] theorem idx2O_eq : idx2O (some dd) d k a b kl i ρ = idx2I (inner dd a) dd d k b kl i ρ := (rfl)
@[simp] theorem idx2I_eq : idx2I (some (n, ys)) dd d k b kl i ρ = idx2J (ixN ys.length b) dd d k n ys kl i ρ := (rfl)
@[simp] theorem idx2J_eq : idx2J (some m) dd d k n ys kl i ρ = some (.nx (mutIn i dd k kl n (ys.set m d) ρ)) := (rfl)
@[simp] theorem sApp2_eq : sApp2 kl i fa f ρ = app2K (fa ρ) (f ρ) kl i ρ := (rfl)
@[simp] theorem app2K_eq : app2K (some (.int a, k')) (some (d, k)) kl i ρ = app2O (ownA i kl k ρ) d k a kl i ρ := (rfl)
@[simp] theorem app2O_eq : app2O (some dd) d k a kl i ρ = app2I (inner dd a) dd d k kl i ρ := (rfl)
@[simp] theorem app2I_eq : app2I (some (n, ys)) dd d k kl i ρ = if ys.length < 1000000 then some (.nx (mutIn i dd k kl n (ys ++ [d]) ρ)) else none := (rfl)
@[simp] theorem ownA_eq : ownA i kl k ρ = ownAK ρ[i]? (k.src.contains i) (giv kl k ρ).2 := by
  unfold ownA ownAK
  rcases ρ[i]? with _ | _ | ⟨d, m⟩
  · rfl
  · rfl
  · simp
@[simp] theorem ownAK_eq : ownAK (some (some (d, 2))) false 2 = some d := (rfl)
@[simp] theorem inner_l : inner (.list xs) a = innerK (ixN xs.length a) xs := (rfl)
@[simp] theorem inner_t : inner (.tuple xs) a = innerK (ixN xs.length a) xs := (rfl)
@[simp] theorem innerK_eq : innerK (some n) xs = innerJ n xs[n]? := (rfl)
@[simp] theorem innerJ_eq : innerJ n (some (.list ys)) = some (n, ys) := (rfl)
@[simp] theorem mutIn_eq : mutIn i d k kl n ys ρ = (giv kl k ρ).1.set i (some (putIn d n (.list ys), 2)) := (rfl)
@[simp] theorem putIn_l : putIn (.list xs) n e = .list (xs.set n e) := (rfl)
@[simp] theorem putIn_t : putIn (.tuple xs) n e = .tuple (xs.set n e) := (rfl)
def spoilK (s : Option Sl) (i j : Nat) (c : PyData) (ρ : Env) : Option Out := match s with
  | some (some (.list xs, m)) => if m = 2 ∧ xs.all shortL = true ∧ i ≠ j ∧ j < ρ.length then some (.nx ((ρ.set j none).set i (some (.list (xs.map (spoilD c)), 2)))) else none
  | _ => none
@[simp] theorem sSpoil_eq : sSpoil i j c ρ = spoilK ρ[i]? i j c ρ := (rfl)
@[simp] theorem spoilK_eq : spoilK (some (some (.list xs, 2))) i j c ρ = if xs.all shortL = true ∧ i ≠ j ∧ j < ρ.length then some (.nx ((ρ.set j none).set i (some (.list (xs.map (spoilD c)), 2)))) else none := by
  unfold spoilK
  simp
theorem ixN_nat {n i : Nat} (h : i < n) : ixN n ((i : Nat) : Int) = some i := by
  unfold ixN
  simp [h]
end
end Va

/-! Va18: sorted; < and its like on data. -/
namespace Va
open PySem L2 PyProof.Rows PySem.W PySem.Calls

/-! ### sorted(a tuple) -/
section
variable {prog : Program} {w : World} {A : Around} {E : Value → Shared → Prop} {s : Shared}
theorem collect_tup {l : Addr} {vs : List Value} {Q : List Value → Shared → Prop} (hl : IsTup s.heap l vs.toArray)
    (h : Q vs { s with heap := (s.heap.push (seqObj "list" #[] 0)).update s.heap.objs.size (Obj.mapSeq (· ++ vs.toArray)) }) (hsz : vs.length ≤ sizeLine) :
    wpAny (model prog w) A (collect (.ref l)) Q E s := by
  obtain ⟨o, ho, hc, n, hd⟩ := id hl
  unfold collect
  refine wpAny_bind (wpAny_runValue (codeAny_builtin entry_proto_collect' ?_))
  show wpAny _ _ (do again (.builtin "list.__iadd__" ⟨[← newList [], .ref l], []⟩)) _ _ s
  refine wpAny_bind (wpAny_newList (wpAny_pure ⟨Code.quiet_builtin _ (by decide +kernel), codeAny_builtin entry_list_iadd' ?_⟩))
  show wpAny _ _ (Builtin.List.listExtendWith (.ref s.heap.objs.size) (.ref l) (.ref s.heap.objs.size)) _ _ { s with heap := s.heap.push (seqObj "list" #[] 0) }
  unfold Builtin.List.listExtendWith
  have ho' : (s.heap.push (seqObj "list" #[] 0)).get? l = some o := Heap.get?_push_of_some _ ho
  refine wpAny_bind (wpAny_typeOf (T := "tuple") ⟨o, ho', hc⟩ ?_)
  have ht : (Value.type "tuple" == Value.type "tuple") = true := by rfl
  rw [if_pos (by rw [ht]; simp)]
  refine wpAny_bind (listItems_at ho' hd ?_)
  refine wpAny_bind (listItems_at (xs := #[]) (n := 0) (Heap.get?_push_size _ rfl) rfl ?_)
  rw [if_neg (by simp)]
  refine wpAny_bind (listUpdate_at (xs := #[]) (n := 0) (Heap.get?_push_size _ rfl) rfl ?_ (Nat.zero_le _) (by show (#[] ++ vs.toArray).size ≤ sizeLine + 1; simp only [Array.size_append, List.size_toArray, List.length_nil]; omega))
  refine wpAny_pure ?_
  show wpAny (model prog w) A (do
      let o ← load s.heap.objs.size
      match o.data with
      | .seq xs _ => pure xs.toList
      | _ => unsupported "internal:collect") Q E { s with heap := (s.heap.push (seqObj "list" #[] 0)).update s.heap.objs.size (Obj.mapSeq (· ++ vs.toArray)) }
  refine wpAny_bind (wpAny_load (get?_update_seq (Heap.get?_push_size _ rfl) _) ?_)
  show wpAny _ _ (pure ((#[] : Array Value) ++ vs.toArray).toList) Q E _
  rw [show ((#[] : Array Value) ++ vs.toArray).toList = vs by simp]
  exact wpAny_pure h
theorem sorted_vals_tup {κ : PyProof.Rows.KeyKind} {l : Addr} {vs : List Value} {Q : Value → Shared → Prop} (hl : IsTup s.heap l vs.toArray) (S : SortsAt prog w A.in1.in1 { s with heap := sortingHeap (copyHeap s.heap vs) (s.heap.objs.size + 1) vs } κ vs) (hL : vs.length ≤ sizeLine)
    (h : Q (.ref (s.heap.objs.size + 1)) { s with heap := sortedAll s.heap vs (sortVals κ false vs vs).toArray }) : wpAny (model prog w) A (call (.builtin "sorted") [.ref l]) Q E s := by
  refine call_function_entry_kw kind_sorted plain_sorted entry_sorted (args_sorted1 _) ?_
  unfold Builtin.«sorted»
  refine wpAny_bind (m := checkCount "sorted" 1 1 _) (wpAny_pure ?_)
  refine wpAny_bind (collect_tup hl ?_ hL)
  refine wpAny_bind (wpAny_newList ?_ hL)
  have hsz : ((s.heap.push (seqObj "list" #[] 0)).update s.heap.objs.size (Obj.mapSeq (· ++ vs.toArray))).objs.size = s.heap.objs.size + 1 := by
    rw [Heap.size_update, size_push']
  show wpAny _ _ _ _ _ { s with heap := copyHeap s.heap vs }
  rw [hsz]
  refine wpAny_bind (wpAny_holding (wpAny_call_entry_kw slot_list_sort ⟨_, copyHeap_at s.heap vs, rfl⟩ entry_list_sort ?body (args_list_sort _)))
  case body =>
    show wpAny (model prog w) A.in1.in1 (Builtin.«list.sort» ⟨[.ref (s.heap.objs.size + 1)], []⟩) _ _ _
    refine list_sort_vals (s := { s with heap := copyHeap s.heap vs }) (copyHeap_at s.heap vs) S hL ?_
    exact ⟨_, rfl, wpAny_pure ⟨_, rfl, h⟩⟩
end
/-! ### sorted(data) -/
def leD (a b : PyData) : Bool := !dataLt b a
def rSortedD (K : PySem.W.Frag) : List V → Hp → VK → Prop := fun vs H Q => ∃ (a : Addr) (xs : List V) (ds : List PyData), vs = [.ref a] ∧ (SqL K H a xs ∨ SqT K H a xs) ∧ DpAll K H xs ds ∧ AllAlike ds ∧ Sortable ds ∧ (∀ d ∈ ds, d.depth ≤ 60) ∧
  ∀ p, H p = none → Q (.ref p) (upd H p (.lst (((xs.zip ds).mergeSort (dataLe false Prod.snd)).map (·.1))))
theorem dpAll_len {K : PySem.W.Frag} {H : Hp} : ∀ {xs : List V} {ds : List PyData}, DpAll K H xs ds → xs.length = ds.length
  | _, _, .nil => rfl
  | _, _, .cons _ h => by rw [List.length_cons, List.length_cons, dpAll_len h]
theorem each_rel : ∀ {xs : List V} {ds : List PyData} {vs : List Value}, Vals xs vs → xs.length = ds.length → EachIs (fun v (b : V × PyData) => RelV b.1 v) vs (xs.zip ds)
  | [], _, _, r, _ => by cases r; exact .nil
  | x :: xs, [], _, _, h => by cases h
  | x :: xs, d :: ds, _, r, h => by
    cases r with
    | cons r rs => exact .cons r (each_rel rs (Nat.succ.inj h))
theorem each_reads {X : Cx} {pins : List (Addr × Obj)} {σ : L2.St} {H : Hp} {s : Shared} (I : Inv X pins σ H s) : ∀ {xs : List V} {ds : List PyData} {vs : List Value}, Vals xs vs → DpAll X.K H xs ds → EachIs (fun v (b : V × PyData) => ∃ as, Reads s.heap v b.2 as) vs (xs.zip ds)
  | [], _, _, r, h => by cases r; exact .nil
  | x :: xs, _, _, r, h => by
    cases h with
    | cons hd hs =>
      cases r with
      | cons r rs => exact .cons (Dp.reads I _ _ _ hd r) (each_reads I rs hs)
theorem vals_each : ∀ {vs : List Value} {bs : List (V × PyData)}, EachIs (fun v (b : V × PyData) => RelV b.1 v) vs bs → Vals (bs.map (·.1)) vs
  | _, _, .nil => .nil
  | _, _, .cons r rs => .cons r (vals_each rs)
theorem zip_snd : ∀ {xs : List V} {ds : List PyData}, xs.length = ds.length → (xs.zip ds).map Prod.snd = ds
  | [], [], _ => rfl
  | x :: xs, [], h => by cases h
  | [], d :: ds, h => by cases h
  | x :: xs, d :: ds, h => by rw [List.zip_cons_cons, List.map_cons, zip_snd (Nat.succ.inj h)]
theorem cr_sortedD {X : Cx} (hu : X.A.units + 64 < cLine) : CallR X (.builtin "sorted") (rSortedD X.K) := by
  intro pins s σ H vs us Q I r h
  obtain ⟨a, xs, ds, rfl, hs, hd, hal, hk, hdep, q⟩ := h
  obtain ⟨u, rfl, ru⟩ := vals1 r
  obtain rfl : u = Value.ref a := ru
  have len := dpAll_len hd
  have go : ∀ (its : List Value), Vals xs its → xs.length ≤ sizeLine → (∀ κ : PyProof.Rows.KeyKind, SortsAt X.prog X.w X.A.in1.in1 { s with heap := sortingHeap (copyHeap s.heap its) (s.heap.objs.size + 1) its } κ its → ∀ (Q' : Value → Shared → Prop),
      Q' (.ref (s.heap.objs.size + 1)) { s with heap := sortedAll s.heap its (sortVals κ false its its).toArray } → wpAny (model X.prog X.w) X.A (call (.builtin "sorted") [.ref a]) Q' X.xe s) →
      wpAny (model X.prog X.w) X.A (call (.builtin "sorted") [.ref a]) (EP X pins σ Q) X.xe s := fun its rv hz run => by
    have e : EachIs (fun v (b : V × PyData) => RelV b.1 v) its (xs.zip ds) := each_rel rv len
    have er := each_reads I rv hd
    have er' : EachIs (fun v (b : V × PyData) => ∃ as, Reads (sortingHeap (copyHeap s.heap its) (s.heap.objs.size + 1) its) v b.2 as) its (xs.zip ds) := er.mono fun _ _ ⟨as, r⟩ => ⟨as, PyProof.Rows.Reads.keeps (fun _ _ => sorting_copy_old) r⟩
    have hz2 := zip_snd len
    have hal' : AllAlike ((xs.zip ds).map Prod.snd) := by rw [hz2]; exact hal
    have hk' : Sortable ((xs.zip ds).map Prod.snd) := by rw [hz2]; exact hk
    refine run (dataKind _ ((xs.zip ds).map Prod.snd)) (SortsAt.data (s := { s with heap := sortingHeap (copyHeap s.heap its) (s.heap.objs.size + 1) its }) (each_map (R := fun v d => ∃ as, Reads (sortingHeap (copyHeap s.heap its) (s.heap.objs.size + 1) its) v d as) Prod.snd er') hal' hk' fun d hd => ?_) _ ?_
    · rw [hz2] at hd
      have := hdep d hd
      show X.A.units + 1 + 1 + d.depth < cLine
      omega
    · have out := sortVals_data false e er' hal'
      generalize sortVals (dataKind (sortingHeap (copyHeap s.heap its) (s.heap.objs.size + 1) its) ((xs.zip ds).map Prod.snd)) false its its = o at out
      obtain ⟨ep, he'⟩ := sortedAll_at s.heap its o.toArray
      have hl : (((xs.zip ds).mergeSort (dataLe false Prod.snd)).map (·.1)).length ≤ sizeLine := by
        rw [List.length_map, List.length_mergeSort, List.length_zip]
        omega
      exact ⟨.ref _, upd H (s.heap.objs.size + 1) (.lst (((xs.zip ds).mergeSort (dataLe false Prod.snd)).map (·.1))), I.laid (t' := s.toks) (fun _ _ => sortedAll_old) (Nat.le_succ _) ⟨hl, o, ep, vals_each out, he'⟩, rfl, q _ (I.hok.fresh (Nat.le_succ _))⟩
  rcases hs with hs | hs
  · obtain ⟨its, rv, hl, hz⟩ := I.list hs
    exact go its rv hz fun κ S Q' h => sorted_vals hl.isList S (by rw [← rv.length]; exact hz) h
  · obtain ⟨its, rv, hl, hz⟩ := I.tuple hs
    exact go its rv hz fun κ S Q' h => sorted_vals_tup hl S (by rw [← rv.length]; exact hz) h
theorem room65 {k : Nat} {A : Around} (r : Room k A) : A.units + 65 < cLine := by have := r.un; omega
/-! ### what sorted gives of data -/
def isTup1 : PyData → Bool
  | .tuple (_ :: _) => true
  | _ => false
def noTup : PyData → Bool
  | .tuple _ => false
  | .none => false
  | _ => true
def sortOk (ds : List PyData) : Bool := flatL ds && PyData.canLayAll0 ds && (ds.all fun d => ds.all fun e => alike d e) && (ds.all isTup1 || ds.all noTup) && ds.all fun d => decide (d.depth ≤ 60)
def hSortD (ds : List PyData) : Option PyData := if sortOk ds = true then some (.list (ds.mergeSort leD)) else none
def hSorted : Gn := fun ds _ => match ds with
  | [.list xs] => (hSortD xs).map fun d => (d, .mv [])
  | [.tuple xs] => (hSortD xs).map fun d => (d, .mv [])
  | _ => none
theorem rpl_pairs {K : PySem.W.Frag} {H : Hp} : ∀ {bs : List (V × PyData)}, (∀ b ∈ bs, Rp K H b.1 b.2 []) → RpL K H (bs.map (·.1)) (bs.map (·.2)) []
  | [], _ => .nil
  | b :: bs, h => by
    have := RpL.cons (h b (List.mem_cons_self ..)) (rpl_pairs fun c hc => h c (List.mem_cons_of_mem _ hc))
    exact this
theorem zip_rp {K : PySem.W.Frag} {H : Hp} : ∀ {xs : List V} {ds : List PyData} {F : List Addr}, RpL K H xs ds F → flatL ds = true → ∀ b ∈ xs.zip ds, Rp K H b.1 b.2 []
  | _, _, _, .nil, _, b, hb => nomatch hb
  | _, _, _, .cons r rs, hf, b, hb => by
    simp only [flatL, Bool.and_eq_true] at hf
    rcases List.mem_cons.mp hb with rfl | hb
    · have := r.flat hf.1
      subst this
      exact r
    · exact zip_rp rs hf.2 b hb
theorem vf_sorted {K : PySem.W.Frag} : VF K (rSortedD K) hSorted := by
  intro ρ Fs H0 H vs ds F k d k' g r o e Q q
  have go : ∀ (xs : List PyData) (a : Addr) (us : List V) (F' : List Addr), (SqL K H a us ∨ SqT K H a us) → RpL K H us xs F' → hSortD xs = some d → k' = .mv [] → rSortedD K [.ref a] H Q := fun xs a us F' hs rl hd hk => by
    unfold hSortD at hd
    split at hd
    case isFalse => cases hd
    rename_i hok
    cases hd
    subst hk
    simp only [sortOk, Bool.and_eq_true, Bool.or_eq_true, List.all_eq_true, decide_eq_true_eq] at hok
    obtain ⟨⟨⟨⟨h1, h2⟩, h3⟩, h4⟩, h5⟩ := hok
    have hl : us.length = xs.length := rl.length
    refine ⟨a, us, xs, rfl, hs, rl.dp h2, h3, ?_, h5, fun p hp => ?_⟩
    · rcases h4 with h4 | h4
      · refine .inl fun d hd => ?_
        have := h4 d hd
        cases d with
        | tuple l =>
          cases l with
          | nil => cases this
          | cons x r => exact ⟨x, r, rfl⟩
        | _ => cases this
      · refine .inr fun d hd => ?_
        have := h4 d hd
        refine ⟨fun z => ?_, fun l z => ?_⟩
        · subst z; cases this
        · subst z; cases this
    · have hm : ((us.zip xs).mergeSort (dataLe false Prod.snd)).map Prod.snd = xs.mergeSort leD := by
        rw [List.map_mergeSort (r := dataLe false Prod.snd) (s := leD) (f := Prod.snd) (fun a _ b _ => rfl), zip_snd hl]
      have rp := rpl_pairs (K := K) (H := H) (bs := (us.zip xs).mergeSort (dataLe false Prod.snd)) fun b hb => zip_rp rl h1 b (List.mem_mergeSort.mp hb)
      rw [hm] at rp
      have hfl : H0 p = none := g.back hp
      exact q _ _ [p] (.new hp) (rp_lst rp hp) (.mv ⟨by simp, fun a ha => by rcases List.mem_singleton.mp ha with rfl; exact .inl hfl⟩)
  unfold hSorted at e
  split at e
  · obtain ⟨d', e1, e2⟩ := Option.map_eq_some_iff.mp e
    cases e2
    obtain ⟨v, rfl, r1⟩ := r.one'
    cases r1 with
    | lst h0 r0 => exact go _ _ _ _ (.inl (.of h0)) r0 e1 rfl
  · obtain ⟨d', e1, e2⟩ := Option.map_eq_some_iff.mp e
    cases e2
    obtain ⟨v, rfl, r1⟩ := r.one'
    cases r1 with
    | tup h0 r0 => exact go _ _ _ _ (.inr h0.1) r0 e1 rfl
  · cases e
/-! ### in -/
def inD (d : PyData) : PyData → Option Bool
  | .list ds => if SeqAt.shaped d = true ∧ SeqAt.shaped (.list ds) = true then some (ds.any fun z => PyData.eqv z d) else none
  | .tuple ds => match d, intsOf ds with
    | .int i, some ns => some (ns.any fun n => n == i)
    | _, _ => none
  | _ => none
def hIn : List PyData → Option PyData
  | [d, e] => (inD d e).map .bool
  | _ => none
def hNotIn : List PyData → Option PyData
  | [d, e] => (inD d e).map fun b => .bool (!b)
  | _ => none
def rInA (K : PySem.W.Frag) : R2 := fun x y H Q => rInD K x y H Q ∨ rIn K false x y H Q
def rNotInA (K : PySem.W.Frag) : R2 := fun x y H Q => rNotInD K x y H Q ∨ rIn K true x y H Q
theorem op_inA {X : Cx} (hu : X.A.units + 65 < cLine) : OpR X (compareOp .In) (rInA X.K) := (op_inD hu).or op_in_seq
theorem op_notInA {X : Cx} (hu : X.A.units + 65 < cLine) : OpR X (compareOp .NotIn) (rNotInA X.K) := (op_notInD hu).or op_notIn_seq
theorem flatV_ints {ns : List Int} : (ns.map V.int).all flatV = true := by
  rw [List.all_map, List.all_eq_true]
  intro n _
  rfl
theorem inV_ints {ns : List Int} {i : Int} : inV (.int i) (ns.map V.int) = ns.any fun n => n == i := by
  unfold inV
  rw [List.any_map]
  rfl
theorem vf_in {K : PySem.W.Frag} : VFf K (r2l (rInA K)) hIn := by
  intro H vs ds F d r e Q q
  unfold hIn at e
  split at e
  case h_2 => cases e
  rename_i d1 d2
  obtain ⟨b, e1, e2⟩ := Option.map_eq_some_iff.mp e
  subst e2
  obtain ⟨v, u, A, B, rfl, r1, r2, rfl⟩ := r.two
  unfold inD at e1
  split at e1
  · split at e1
    case isFalse => cases e1
    rename_i hs
    cases e1
    exact .inl ⟨_, _, r1.dp (SeqAt.canLay_of_shaped hs.1), r2.dp (SeqAt.canLay_of_shaped hs.2), hs.1, hs.2, q _ H (.refl H) (.bl _)⟩
  · split at e1
    case h_2 => cases e1
    rename_i i ns hn
    cases e1
    cases r1
    cases r2 with
    | tup h0 r0 =>
      have := intsOf_rp hn r0
      subst this
      refine .inr ⟨_, _, rfl, .inr h0.1, rfl, flatV_ints, ?_⟩
      have := q (.bl (ns.any fun n => n == i)) H (.refl H) (.bl _)
      rwa [← inV_ints] at this
  · cases e1
theorem vf_notIn {K : PySem.W.Frag} : VFf K (r2l (rNotInA K)) hNotIn := by
  intro H vs ds F d r e Q q
  unfold hNotIn at e
  split at e
  case h_2 => cases e
  rename_i d1 d2
  obtain ⟨b, e1, e2⟩ := Option.map_eq_some_iff.mp e
  subst e2
  obtain ⟨v, u, A, B, rfl, r1, r2, rfl⟩ := r.two
  unfold inD at e1
  split at e1
  · split at e1
    case isFalse => cases e1
    rename_i hs
    cases e1
    exact .inl ⟨_, _, r1.dp (SeqAt.canLay_of_shaped hs.1), r2.dp (SeqAt.canLay_of_shaped hs.2), hs.1, hs.2, q _ H (.refl H) (.bl _)⟩
  · split at e1
    case h_2 => cases e1
    rename_i i ns hn
    cases e1
    cases r1
    cases r2 with
    | tup h0 r0 =>
      have := intsOf_rp hn r0
      subst this
      refine .inr ⟨_, _, rfl, .inr h0.1, rfl, flatV_ints, ?_⟩
      have := q (.bl (!ns.any fun n => n == i)) H (.refl H) (.bl _)
      rwa [← inV_ints] at this
  · cases e1
/-! ### < and its like -/
def cmpOk (d e : PyData) : Bool := alike d e && (!isN d) && d.canLay0 && e.canLay0 && decide (d.depth ≤ 60)
def hCmp (c : Int → Int → Bool) (h : PyData → PyData → Bool) : List PyData → Option PyData
  | [.int i, .int j] => some (.bool (c i j))
  | [d, e] => if cmpOk d e = true then some (.bool (h d e)) else none
  | _ => none
def hLtA := hCmp (fun i j => decide (i < j)) fun d e => dataLt d e
def hGtA := hCmp (fun i j => decide (j < i)) fun d e => dataLt e d
def hLeA := hCmp (fun i j => decide (i ≤ j)) fun d e => !dataLt e d
def hGeA := hCmp (fun i j => decide (j ≤ i)) fun d e => !dataLt d e
def rCmpD (K : PySem.W.Frag) (h : PyData → PyData → Bool) : R2 := fun x y H Q => ∃ d e, Dp K H x d ∧ Dp K H y e ∧ alike d e = true ∧ d ≠ .none ∧ d.depth ≤ 60 ∧ Q (.bl (h d e)) H
section
variable {X : Cx}
theorem op_ltD (hu : X.A.units + 64 < cLine) : OpR X (compareOp .Lt) (rCmpD X.K fun d e => dataLt d e) := by
  intro pins s σ H x y v u Q I rx ry h
  obtain ⟨d, e, hd, he, h1, h2, h3, q⟩ := h
  obtain ⟨as, r1⟩ := Dp.reads I d x v hd rx
  obtain ⟨bs, r2⟩ := Dp.reads I e y u he ry
  exact lt_data r1 r2 h1 h2 (by have : min d.depth e.depth ≤ d.depth := Nat.min_le_left ..; omega) ⟨.bl _, H, I, rfl, q⟩
theorem op_gtD (hu : X.A.units + 64 < cLine) : OpR X (compareOp .Gt) (rCmpD X.K fun d e => dataLt e d) := by
  intro pins s σ H x y v u Q I rx ry h
  obtain ⟨d, e, hd, he, h1, h2, h3, q⟩ := h
  obtain ⟨as, r1⟩ := Dp.reads I d x v hd rx
  obtain ⟨bs, r2⟩ := Dp.reads I e y u he ry
  exact gt_data r1 r2 h1 h2 (by have : min d.depth e.depth ≤ d.depth := Nat.min_le_left ..; omega) ⟨.bl _, H, I, rfl, q⟩
theorem op_leD (hu : X.A.units + 64 < cLine) : OpR X (compareOp .LtE) (rCmpD X.K fun d e => !dataLt e d) := by
  intro pins s σ H x y v u Q I rx ry h
  obtain ⟨d, e, hd, he, h1, h2, h3, q⟩ := h
  obtain ⟨as, r1⟩ := Dp.reads I d x v hd rx
  obtain ⟨bs, r2⟩ := Dp.reads I e y u he ry
  exact le_data r1 r2 h1 h2 (by have : min d.depth e.depth ≤ d.depth := Nat.min_le_left ..; omega) ⟨.bl _, H, I, rfl, q⟩
theorem op_geD (hu : X.A.units + 64 < cLine) : OpR X (compareOp .GtE) (rCmpD X.K fun d e => !dataLt d e) := by
  intro pins s σ H x y v u Q I rx ry h
  obtain ⟨d, e, hd, he, h1, h2, h3, q⟩ := h
  obtain ⟨as, r1⟩ := Dp.reads I d x v hd rx
  obtain ⟨bs, r2⟩ := Dp.reads I e y u he ry
  exact ge_data r1 r2 h1 h2 (by have : min d.depth e.depth ≤ d.depth := Nat.min_le_left ..; omega) ⟨.bl _, H, I, rfl, q⟩
theorem op_ltA (hu : X.A.units + 64 < cLine) : OpR X (compareOp .Lt) (fun x y H Q => rI0 (fun i j => .bl (decide (i < j))) x y H Q ∨ rCmpD X.K (fun d e => dataLt d e) x y H Q) := op_lt.or (op_ltD hu)
theorem op_gtA (hu : X.A.units + 64 < cLine) : OpR X (compareOp .Gt) (fun x y H Q => rI0 (fun i j => .bl (decide (j < i))) x y H Q ∨ rCmpD X.K (fun d e => dataLt e d) x y H Q) := op_gt.or (op_gtD hu)
theorem op_leA (hu : X.A.units + 64 < cLine) : OpR X (compareOp .LtE) (fun x y H Q => rI0 (fun i j => .bl (decide (i ≤ j))) x y H Q ∨ rCmpD X.K (fun d e => !dataLt e d) x y H Q) := op_le.or (op_leD hu)
theorem op_geA (hu : X.A.units + 64 < cLine) : OpR X (compareOp .GtE) (fun x y H Q => rI0 (fun i j => .bl (decide (j ≤ i))) x y H Q ∨ rCmpD X.K (fun d e => !dataLt d e) x y H Q) := op_ge.or (op_geD hu)
end
theorem vf_cmp {K : PySem.W.Frag} {c : Int → Int → Bool} {h : PyData → PyData → Bool} : VFf K (r2l fun x y H Q => rI0 (fun i j => .bl (c i j)) x y H Q ∨ rCmpD K h x y H Q) (hCmp c h) := by
  intro H vs ds F d r e Q q
  unfold hCmp at e
  split at e
  · cases e
    obtain ⟨v, u, A, B, rfl, r1, r2, rfl⟩ := r.two
    cases r1; cases r2
    exact .inl ⟨_, _, rfl, rfl, q _ H (.refl H) (.bl _)⟩
  · split at e
    case isFalse => cases e
    rename_i hc
    cases e
    obtain ⟨v, u, A, B, rfl, r1, r2, rfl⟩ := r.two
    simp only [cmpOk, Bool.and_eq_true, decide_eq_true_eq, Bool.not_eq_true'] at hc
    obtain ⟨⟨⟨⟨h1, h2⟩, h3⟩, h4⟩, h5⟩ := hc
    refine .inr ⟨_, _, r1.dp h3, r2.dp h4, h1, fun z => ?_, h5, q _ H (.refl H) (.bl _)⟩
    subst z
    cases h2
  · cases e
theorem vf_ltA {K : PySem.W.Frag} : VFf K (r2l fun x y H Q => rI0 (fun i j => .bl (decide (i < j))) x y H Q ∨ rCmpD K (fun d e => dataLt d e) x y H Q) hLtA := vf_cmp
theorem vf_gtA {K : PySem.W.Frag} : VFf K (r2l fun x y H Q => rI0 (fun i j => .bl (decide (j < i))) x y H Q ∨ rCmpD K (fun d e => dataLt e d) x y H Q) hGtA := vf_cmp
theorem vf_leA {K : PySem.W.Frag} : VFf K (r2l fun x y H Q => rI0 (fun i j => .bl (decide (i ≤ j))) x y H Q ∨ rCmpD K (fun d e => !dataLt e d) x y H Q) hLeA := vf_cmp
theorem vf_geA {K : PySem.W.Frag} : VFf K (r2l fun x y H Q => rI0 (fun i j => .bl (decide (j ≤ i))) x y H Q ∨ rCmpD K (fun d e => !dataLt d e) x y H Q) hGeA := vf_cmp
section
variable {x y : Int} {ds : List PyData} {d e : PyData} {k : Kd} {s : Str}
@[simp] theorem hLtA_int : hLtA [.int x, .int y] = some (.bool (decide (x < y))) := (rfl)
@[simp] theorem hGtA_int : hGtA [.int x, .int y] = some (.bool (decide (y < x))) := (rfl)
@[simp] theorem hLeA_int : hLeA [.int x, .int y] = some (.bool (decide (x ≤ y))) := (rfl)
@[simp] theorem hGeA_int : hGeA [.int x, .int y] = some (.bool (decide (y ≤ x))) := (rfl)
def sortK (d : Option PyData) : Option (PyData × Kd) := d.map fun d => (d, .mv [])
@[simp] theorem sortK_eq : sortK (some d) = some (d, .mv []) := (rfl)
@[simp] theorem hSorted_l : hSorted [.list ds] k = sortK (hSortD ds) := (rfl)
@[simp] theorem hSorted_t : hSorted [.tuple ds] k = sortK (hSortD ds) := (rfl)
def boolK (b : Option Bool) : Option PyData := b.map .bool
def nboolK (b : Option Bool) : Option PyData := b.map fun b => .bool (!b)
@[simp] theorem hIn_eq : hIn [d, e] = boolK (inD d e) := (rfl)
@[simp] theorem hNotIn_eq : hNotIn [d, e] = nboolK (inD d e) := (rfl)
@[simp] theorem boolK_eq {b : Bool} : boolK (some b) = some (.bool b) := (rfl)
@[simp] theorem nboolK_eq {b : Bool} : nboolK (some b) = some (.bool (!b)) := (rfl)
@[simp] theorem inD_t {ns : List Int} : inD (.int x) (.tuple (ns.map PyData.int)) = some (ns.any fun n => n == x) := by
  unfold inD
  simp
theorem inD_l (h1 : SeqAt.shaped d = true) (h2 : SeqAt.shaped (.list ds) = true) : inD d (.list ds) = some (ds.any fun z => PyData.eqv z d) := by
  unfold inD
  simp [h1, h2]
end
/-! ### zip -/
theorem zipD_get : ∀ {as bs : List PyData} {i : Nat} {d : PyData}, (zipD as bs)[i]? = some d → ∃ a b, as[i]? = some a ∧ bs[i]? = some b ∧ d = wrap (.tuple [a, b])
  | [], _, _, _, h => by simp [zipD] at h
  | _ :: _, [], _, _, h => by simp [zipD] at h
  | a :: as, b :: bs, 0, d, h => by
    simp only [zipD, List.getElem?_cons_zero, Option.some.injEq] at h
    exact ⟨a, b, rfl, rfl, h.symm⟩
  | a :: as, b :: bs, i + 1, d, h => by
    simp only [zipD, List.getElem?_cons_succ] at h
    obtain ⟨a', b', h1, h2, h3⟩ := zipD_get h
    exact ⟨a', b', by simpa using h1, by simpa using h2, h3⟩
theorem zipD_len : ∀ {as bs : List PyData}, (zipD as bs).length = min as.length bs.length
  | [], bs => by simp [zipD]
  | a :: as, [] => by simp [zipD]
  | a :: as, b :: bs => by simp only [zipD, List.length_cons, zipD_len (as := as) (bs := bs)]; omega
theorem vi_zip {K : PySem.W.Frag} {ta : TA} {fa : AFn} (h : VA K ta fa) : VI K (RZ.iZipA K ta) (iZp fa) := by
  intro B AF σ H ρ Fs ds k S e R q
  obtain ⟨⟨es, k1⟩, e1, e2⟩ := Option.bind_eq_some_iff.mp e
  clear e
  simp only at e2
  split at e2
  · rename_i xs ys
    cases e2
    refine h B AF σ H ρ Fs _ _ S e1 _ fun vs H1 F g1 r1 o1 => ?_
    obtain ⟨v, u, A, C, rfl, ra, rb, rfl⟩ := r1.two
    cases ra with
    | lst ha rla =>
      rename_i a us Fa
      cases rb with
      | lst hb rlb =>
        rename_i b ws Fb
        refine ⟨a, b, us, ws, rfl, .inl ⟨.of ha, .of hb, q _ H1 ((a :: Fa) ++ (b :: Fb)) g1 ⟨fun c hc => ?_, fun H' e i d hd => ?_, fun H' e i hi => ?_⟩ o1.any⟩⟩
        · rcases List.mem_append.mp hc with hc | hc
          · exact (Rp.lst ha rla).mb c hc
          · exact (Rp.lst hb rlb).mb c hc
        · obtain ⟨x, y, h1, h2, rfl⟩ := zipD_get hd
          obtain ⟨w1, A1, G1, B1, p1, p2, p3⟩ := rla.get i h1
          obtain ⟨w2, A2, G2, B2, p4, p5, p6⟩ := rlb.get i h2
          have ha' : H' a = some (.lst us) := e _ _ ha (.inr ⟨by simp, inferInstance⟩)
          have hb' : H' b = some (.lst ws) := e _ _ hb (.inr ⟨by simp, inferInstance⟩)
          have m1 : ∀ c ∈ G1, c ∈ (a :: Fa) ++ (b :: Fb) := fun c hc => List.mem_append_left _ (List.mem_cons_of_mem _ (by rw [p3]; simp [hc]))
          have m2 : ∀ c ∈ G2, c ∈ (a :: Fa) ++ (b :: Fb) := fun c hc => List.mem_append_right _ (List.mem_cons_of_mem _ (by rw [p6]; simp [hc]))
          refine ⟨⟨us, ws, w1, w2, .of ha', .of hb', p1, p4⟩, fun z H'' ⟨T, x', y', e1, e2, e3, e4, e5⟩ => ?_⟩
          have q1 := e4 us (.of ha')
          have q2 := e5 ws (.of hb')
          rw [p1] at q1
          rw [p4] at q2
          cases q1; cases q2
          subst e1 e3
          have r2 : RpL K H' [w1, w2] [x, y] (G1 ++ (G2 ++ [])) := .cons (p2.kp (e.mono m1)) (.cons (p5.kp (e.mono m2)) .nil)
          rw [List.append_nil] at r2
          exact ⟨.new e2, _, rp_pair r2 e2, fun c hc => (List.mem_append.mp hc).elim (m1 c) (m2 c)⟩
        · refine ⟨us, ws, .of (e _ _ ha (.inr ⟨by simp, inferInstance⟩)), .of (e _ _ hb (.inr ⟨by simp, inferInstance⟩)), ?_⟩
          rw [zipD_len] at hi
          rw [rla.length, rlb.length]
          omega
  · rename_i xs ys
    cases e2
    refine h B AF σ H ρ Fs _ _ S e1 _ fun vs H1 F g1 r1 o1 => ?_
    obtain ⟨v, u, A, C, rfl, ra, rb, rfl⟩ := r1.two
    cases ra with
    | tup ha0 rla =>
      have ha := ha0.1
      rename_i a us
      cases rb with
      | tup hb0 rlb =>
        have hb := hb0.1
        rename_i b ws
        refine ⟨a, b, us, ws, rfl, .inr ⟨ha, hb, q _ H1 (A ++ C) g1 ⟨fun c hc => ?_, fun H' e i d hd => ?_, fun H' e i hi => ?_⟩ o1.any⟩⟩
        · rcases List.mem_append.mp hc with hc | hc
          · exact rla.mb c hc
          · exact rlb.mb c hc
        · obtain ⟨x, y, h1, h2, rfl⟩ := zipD_get hd
          obtain ⟨w1, A1, G1, B1, p1, p2, p3⟩ := rla.get i h1
          obtain ⟨w2, A2, G2, B2, p4, p5, p6⟩ := rlb.get i h2
          have ha' := e.sqT ha
          have hb' := e.sqT hb
          have m1 : ∀ c ∈ G1, c ∈ A ++ C := fun c hc => List.mem_append_left _ (by rw [p3]; simp [hc])
          have m2 : ∀ c ∈ G2, c ∈ A ++ C := fun c hc => List.mem_append_right _ (by rw [p6]; simp [hc])
          refine ⟨⟨us, ws, w1, w2, ha', hb', p1, p4⟩, fun z H'' ⟨T, x', y', e1, e2, e3, e4, e5⟩ => ?_⟩
          have q1 := e4 us ha'
          have q2 := e5 ws hb'
          rw [p1] at q1
          rw [p4] at q2
          cases q1; cases q2
          subst e1 e3
          have r2 : RpL K H' [w1, w2] [x, y] (G1 ++ (G2 ++ [])) := .cons (p2.kp (e.mono m1)) (.cons (p5.kp (e.mono m2)) .nil)
          rw [List.append_nil] at r2
          exact ⟨.new e2, _, rp_pair r2 e2, fun c hc => (List.mem_append.mp hc).elim (m1 c) (m2 c)⟩
        · refine ⟨us, ws, e.sqT ha, e.sqT hb, ?_⟩
          rw [zipD_len] at hi
          rw [rla.length, rlb.length]
          omega
  · cases e2
/-! ### max(a, b), min(a, b) -/
def hMax2 : List PyData → Option PyData
  | [.int i, .int j] => some (.int (if j > i then j else i))
  | _ => none
def hMin2 : List PyData → Option PyData
  | [.int i, .int j] => some (.int (if j < i then j else i))
  | _ => none
theorem vf_max2 {K : PySem.W.Frag} : VFf K (fun xs H Q => ∃ i j, xs = [.int i, .int j] ∧ Q (.int (if j > i then j else i)) H) hMax2 := by
  intro H vs ds F d r e Q q
  unfold hMax2 at e
  split at e
  · cases e
    obtain ⟨v, u, A, B, rfl, r1, r2, rfl⟩ := r.two
    cases r1; cases r2
    exact ⟨_, _, rfl, q _ H (.refl H) (.int _)⟩
  · cases e
theorem vf_min2 {K : PySem.W.Frag} : VFf K (fun xs H Q => ∃ i j, xs = [.int i, .int j] ∧ Q (.int (if j < i then j else i)) H) hMin2 := by
  intro H vs ds F d r e Q q
  unfold hMin2 at e
  split at e
  · cases e
    obtain ⟨v, u, A, B, rfl, r1, r2, rfl⟩ := r.two
    cases r1; cases r2
    exact ⟨_, _, rfl, q _ H (.refl H) (.int _)⟩
  · cases e
@[simp] theorem hMax2_eq {i j : Int} : hMax2 [.int i, .int j] = some (.int (if j > i then j else i)) := (rfl)
@[simp] theorem hMin2_eq {i j : Int} : hMin2 [.int i, .int j] = some (.int (if j < i then j else i)) := (rfl)
end Va

/-! Vn: plain Lean programs, as the walk prints them (lists, optional answers), and what they do. -/
namespace Va
open PySem L2 PyProof.Rows

def letO {α β : Type} (a : α) (f : α → Option β) : Option β := f a
@[simp] theorem letO_eq {α β : Type} {a : α} {f : α → Option β} : letO a f = f a := (rfl)
def chk (p : Bool) : Option Unit := if p = true then some () else none
@[simp] theorem chk_t : chk true = some () := (rfl)
theorem chk_some {p : Bool} {u : Unit} (h : chk p = some u) : p = true := by
  cases p with
  | true => rfl
  | false => cases h
/-- how a turn ends: next, break, continue, return -/
inductive Ctl (σ R : Type) where
  | nx (s : σ) | bk (s : σ) | ct (s : σ) | rt (r : R)
/-- how a loop ends: behind it, or by a return -/
inductive Res (σ R : Type) where
  | on (s : σ) | rt (r : R)
def resK {σ R β : Type} (o : Option (Res σ R)) (f : σ → Option β) (g : R → Option β) : Option β := o.bind fun r => match r with
  | .on s => f s
  | .rt r => g r
@[simp] theorem resK_on {σ R β : Type} {s : σ} {f : σ → Option β} {g : R → Option β} : resK (some (.on s)) f g = f s := (rfl)
@[simp] theorem resK_rt {σ R β : Type} {r : R} {f : σ → Option β} {g : R → Option β} : resK (some (.rt r)) f g = g r := (rfl)
/-- a loop without break or return -/
def loopO {σ α : Type} (f : σ → α → Option σ) : List α → σ → Option σ
  | [], s => some s
  | x :: xs, s => (f s x).bind fun s => loopO f xs s
/-- a loop -/
def loopC {σ α R : Type} (f : σ → α → Option (Ctl σ R)) : List α → σ → Option (Res σ R)
  | [], s => some (.on s)
  | x :: xs, s => (f s x).bind fun c => match c with
    | .nx s => loopC f xs s
    | .ct s => loopC f xs s
    | .bk s => some (.on s)
    | .rt r => some (.rt r)
/-- while, n turns at most -/
def whileO {σ : Type} (c : σ → Option Bool) (f : σ → Option σ) : Nat → σ → Option σ
  | 0, _ => none
  | n + 1, s => (c s).bind fun b => if b = true then (f s).bind fun s => whileO c f n s else some s
def whileC {σ R : Type} (c : σ → Option Bool) (f : σ → Option (Ctl σ R)) : Nat → σ → Option (Res σ R)
  | 0, _ => none
  | n + 1, s => (c s).bind fun b => if b = true then (f s).bind fun o => match o with
      | .nx s => whileC c f n s
      | .ct s => whileC c f n s
      | .bk s => some (.on s)
      | .rt r => some (.rt r)
    else some (.on s)
def mapO {α β : Type} (f : α → Option β) : List α → Option (List β)
  | [] => some []
  | x :: xs => (f x).bind fun y => (mapO f xs).bind fun ys => some (y :: ys)
def filO {α β : Type} (c : α → Option Bool) (f : α → Option β) : List α → Option (List β)
  | [] => some []
  | x :: xs => (c x).bind fun b => if b = true then (f x).bind fun y => (filO c f xs).bind fun ys => some (y :: ys) else filO c f xs
def appO {α : Type} (xs : List α) (x : α) : Option (List α) := if xs.length < 1000000 then some (xs ++ [x]) else none
def extO {α : Type} (xs ys : List α) : Option (List α) := if xs.length + ys.length < 1000000 then some (xs ++ ys) else none
def catO {α : Type} (xs ys : List α) : Option (List α) := if xs.length + ys.length ≤ 1000000 then some (xs ++ ys) else none
def scatO (x y : Str) : Option Str := if x.length + y.length ≤ 1000000 then some (x ++ y) else none
def repO {α : Type} (xs : List α) (n : Int) : Option (List α) := if 0 ≤ n ∧ n ≤ 1000 ∧ xs.length * n.toNat ≤ 1000000 then some (List.replicate n.toNat xs).flatten else none
def setO {α : Type} (xs : List α) (i : Int) (v : α) : Option (List α) := (ixN xs.length i).map fun n => xs.set n v
def rangeI (lo : Int) (n : Nat) : List Int := (List.range n).map fun i => lo + ((i : Nat) : Int)
def range1 (n : Int) : Option (List Int) := if i62 n = true then some (rangeI 0 n.toNat) else none
def range2 (a b : Int) : Option (List Int) := if i62 a = true ∧ i62 b = true then some (rangeI a (b - a).toNat) else none
def divO (x y : Int) : Option Int := if 0 < y ∧ y.natAbs.log2 < 9000 then some (x / y) else none
def modO (x y : Int) : Option Int := if 0 < y then some (x % y) else none
def mulO (x y : Int) : Option Int := if mulOk x y = true then some (x * y) else none
def powO (x y : Int) : Option Int := if 0 ≤ y ∧ y ≤ 1000000 ∧ x.natAbs < 2 ^ 64 then some (x ^ y.toNat) else none
def strO (x : Int) : Option Str := if x.natAbs.log2 < 1920 then some (toString x : Str) else none
def enumI {α : Type} : List α → Int → List (Int × α)
  | [], _ => []
  | x :: xs, i => (i, x) :: enumI xs (i + 1)
def cutI {α : Type} (xs : List α) (lo hi : Option Int) : List α := (xs.drop (HT.sIx xs.length 0 lo)).take (HT.sIx xs.length xs.length hi - HT.sIx xs.length 0 lo)
def memB {α : Type} [DecidableEq α] (x : α) (xs : List α) : Bool := decide (x ∈ xs)
@[simp] theorem memB_iff {α : Type} [DecidableEq α] {x : α} {xs : List α} : memB x xs = true ↔ x ∈ xs := by simp [memB]
theorem memB_false {α : Type} [DecidableEq α] {x : α} {xs : List α} : memB x xs = false ↔ x ∉ xs := by simp [memB]
def maxO : List Int → Option Int
  | [] => none
  | x :: xs => some (maxI (x :: xs))
def minO : List Int → Option Int
  | [] => none
  | x :: xs => some (minI (x :: xs))
def reprO (d : PyData) : Option Str := if reprOk d = true then some d.shown else none
def joinO (s : Str) (xs : List Str) : Option Str := if (xs.map (·.length)).sum + xs.length * s.length ≤ 1000000 then some (Txt.join s xs) else none

/-! ### what they do -/
section
variable {α β σ R : Type}
/-- a loop by an invariant over the items behind -/
theorem loopO_inv {f : σ → α → Option σ} (P : List α → σ → Prop) : ∀ (xs ys : List α) (s : σ), P ys s → (∀ (zs : List α) (x : α) (s : σ), ys ++ xs = zs ++ x :: (xs.drop (zs.length - ys.length + 1)) → ys.length ≤ zs.length → P zs s → ∃ s', f s x = some s' ∧ P (zs ++ [x]) s') →
    ∃ s', loopO f xs s = some s' ∧ P (ys ++ xs) s'
  | [], ys, s, h, _ => ⟨s, rfl, by rwa [List.append_nil]⟩
  | x :: xs, ys, s, h, step => by
    obtain ⟨s1, e1, h1⟩ := step ys x s (by simp) (Nat.le_refl _) h
    obtain ⟨s2, e2, h2⟩ := loopO_inv P xs (ys ++ [x]) s1 h1 fun zs z s he hl hz => by
      refine step zs z s ?_ (by simp at hl; omega) hz
      simp only [List.length_append, List.length_singleton, List.append_assoc, List.singleton_append] at he hl
      rw [he]
      congr 1
      rw [show zs.length - ys.length + 1 = (zs.length - (ys.length + 1) + 1) + 1 by omega, List.drop_succ_cons]
    refine ⟨s2, ?_, by rw [List.append_assoc] at h2; exact h2⟩
    rw [loopO, e1]
    exact e2
/-- .. the items told by a prefix -/
theorem loopO_pre {f : σ → α → Option σ} {xs : List α} {s : σ} (P : List α → σ → Prop) (h0 : P [] s) (step : ∀ (ys : List α) (x : α) (s : σ), ys ++ [x] <+: xs → P ys s → ∃ s', f s x = some s' ∧ P (ys ++ [x]) s') :
    ∃ s', loopO f xs s = some s' ∧ P xs s' := by
  have := loopO_inv P xs [] s h0 fun zs x s he hl hz => step zs x s ⟨_, by rw [List.nil_append] at he; rw [he, List.append_assoc]; rfl⟩ hz
  simpa using this
/-- .. whose turns only need the item to be one of them -/
theorem loopO_mem {f : σ → α → Option σ} {xs : List α} {s : σ} (P : σ → Prop) (h0 : P s) (step : ∀ x ∈ xs, ∀ s, P s → ∃ s', f s x = some s' ∧ P s') : ∃ s', loopO f xs s = some s' ∧ P s' :=
  loopO_pre (fun _ => P) h0 fun ys x s hp h => step x (hp.subset (by simp)) s h
/-- a loop whose turns are all told -/
theorem loopO_fold {f : σ → α → Option σ} {g : σ → α → σ} : ∀ {xs : List α} {s : σ}, (∀ x ∈ xs, ∀ s, f s x = some (g s x)) → loopO f xs s = some (xs.foldl g s)
  | [], s, _ => rfl
  | x :: xs, s, h => by
    rw [loopO, h x (List.mem_cons_self ..) s]
    exact loopO_fold fun y hy s => h y (List.mem_cons_of_mem _ hy) s
theorem loopO_congr {f g : σ → α → Option σ} : ∀ {xs : List α} {s : σ}, (∀ x ∈ xs, ∀ s, f s x = g s x) → loopO f xs s = loopO g xs s
  | [], s, _ => rfl
  | x :: xs, s, h => by
    rw [loopO, loopO, h x (List.mem_cons_self ..) s]
    congr 1
    funext s'
    exact loopO_congr fun y hy s => h y (List.mem_cons_of_mem _ hy) s
theorem loopO_app {f : σ → α → Option σ} : ∀ {xs ys : List α} {s : σ}, loopO f (xs ++ ys) s = (loopO f xs s).bind fun s => loopO f ys s
  | [], ys, s => rfl
  | x :: xs, ys, s => by
    rw [List.cons_append, loopO, loopO, Option.bind_assoc]
    congr 1
    funext s'
    exact loopO_app
/-- a loop with returns, none of which is taken -/
theorem loopC_pre {f : σ → α → Option (Ctl σ R)} {xs : List α} {s : σ} (P : List α → σ → Prop) (h0 : P [] s) (step : ∀ (ys : List α) (x : α) (s : σ), ys ++ [x] <+: xs → P ys s → ∃ s', (f s x = some (.nx s') ∨ f s x = some (.ct s')) ∧ P (ys ++ [x]) s') :
    ∃ s', loopC f xs s = some (.on s') ∧ P xs s' := by
  suffices H : ∀ (zs ys : List α) (s : σ), ys ++ zs = xs → P ys s → ∃ s', loopC f zs s = some (.on s') ∧ P xs s' from H xs [] s rfl h0
  intro zs
  induction zs with
  | nil => intro ys s e h; rw [List.append_nil] at e; exact ⟨s, rfl, e ▸ h⟩
  | cons z zs ih =>
    intro ys s e h
    obtain ⟨s1, e1, h1⟩ := step ys z s ⟨zs, by rw [List.append_assoc]; exact e⟩ h
    obtain ⟨s2, e2, h2⟩ := ih (ys ++ [z]) s1 (by rw [List.append_assoc]; exact e) h1
    refine ⟨s2, ?_, h2⟩
    rw [loopC]
    rcases e1 with e1 | e1 <;> rw [e1] <;> exact e2
theorem loopC_mem {f : σ → α → Option (Ctl σ R)} {xs : List α} {s : σ} (P : σ → Prop) (h0 : P s) (step : ∀ x ∈ xs, ∀ s, P s → ∃ s', (f s x = some (.nx s') ∨ f s x = some (.ct s')) ∧ P s') : ∃ s', loopC f xs s = some (.on s') ∧ P s' :=
  loopC_pre (fun _ => P) h0 fun ys x s hp h => step x (hp.subset (by simp)) s h
/-- a loop that looks for the first item with p -/
theorem loopC_find {f : σ → α → Option (Ctl σ R)} {p : α → Bool} {g : α → R} {s : σ} : ∀ {xs : List α}, (∀ x ∈ xs, f s x = some (if p x = true then .rt (g x) else .nx s)) → loopC f xs s = some (match xs.find? p with | some x => .rt (g x) | none => .on s)
  | [], _ => rfl
  | x :: xs, h => by
    rw [loopC, h x (List.mem_cons_self ..), List.find?_cons]
    cases e : p x with
    | true => rfl
    | false =>
      rw [Option.bind_some, if_neg (by simp)]
      exact loopC_find fun y hy => h y (List.mem_cons_of_mem _ hy)
theorem mapO_map {f : α → Option β} {g : α → β} : ∀ {xs : List α}, (∀ x ∈ xs, f x = some (g x)) → mapO f xs = some (xs.map g)
  | [], _ => rfl
  | x :: xs, h => by
    rw [mapO, h x (List.mem_cons_self ..), mapO_map fun y hy => h y (List.mem_cons_of_mem _ hy)]
    rfl
theorem mapO_len {f : α → Option β} : ∀ {xs : List α} {ys : List β}, mapO f xs = some ys → ys.length = xs.length
  | [], ys, h => by cases h; rfl
  | x :: xs, ys, h => by
    obtain ⟨y, h1, h⟩ := Option.bind_eq_some_iff.mp h
    obtain ⟨zs, h2, h⟩ := Option.bind_eq_some_iff.mp h
    cases h
    rw [List.length_cons, List.length_cons, mapO_len h2]
theorem filO_map {c : α → Option Bool} {f : α → Option β} {p : α → Bool} {g : α → β} : ∀ {xs : List α}, (∀ x ∈ xs, c x = some (p x)) → (∀ x ∈ xs, p x = true → f x = some (g x)) → filO c f xs = some ((xs.filter p).map g)
  | [], _, _ => rfl
  | x :: xs, h, k => by
    rw [filO, h x (List.mem_cons_self ..), filO_map (fun y hy => h y (List.mem_cons_of_mem _ hy)) (fun y hy => k y (List.mem_cons_of_mem _ hy))]
    cases e : p x with
    | true => rw [Option.bind_some, if_pos rfl, k x (List.mem_cons_self ..) e, List.filter_cons_of_pos e]; rfl
    | false => rw [Option.bind_some, if_neg (by simp), List.filter_cons_of_neg (by simp [e])]
theorem appO_lt {xs : List α} {x : α} (h : xs.length < 1000000) : appO xs x = some (xs ++ [x]) := if_pos h
theorem extO_lt {xs ys : List α} (h : xs.length + ys.length < 1000000) : extO xs ys = some (xs ++ ys) := if_pos h
theorem catO_le {xs ys : List α} (h : xs.length + ys.length ≤ 1000000) : catO xs ys = some (xs ++ ys) := if_pos h
theorem range1_small {n : Int} (h : n < 4611686018427387904) (h0 : -4611686018427387904 ≤ n) : range1 n = some (rangeI 0 n.toNat) := by
  unfold range1
  rw [if_pos]
  simp only [i62, Bool.and_eq_true, decide_eq_true_eq]
  omega
theorem range1_nat {n : Nat} (h : n < 4611686018427387904) : range1 (n : Int) = some (rangeI 0 n) := by
  rw [range1_small (by omega) (by omega), Int.toNat_natCast]
theorem range2_small {a b : Int} (h : b < 4611686018427387904) (h0 : -4611686018427387904 ≤ b) (h1 : a < 4611686018427387904) (h2 : -4611686018427387904 ≤ a) : range2 a b = some (rangeI a (b - a).toNat) := by
  unfold range2
  rw [if_pos]
  simp only [i62, Bool.and_eq_true, decide_eq_true_eq]
  omega
theorem mem_rangeI {lo x : Int} {n : Nat} : x ∈ rangeI lo n ↔ lo ≤ x ∧ x < lo + n := by
  unfold rangeI
  rw [List.mem_map]
  constructor
  · rintro ⟨i, hi, rfl⟩
    have := List.mem_range.mp hi
    omega
  · intro h
    exact ⟨(x - lo).toNat, List.mem_range.mpr (by omega), by omega⟩
@[simp] theorem rangeI_len {lo : Int} {n : Nat} : (rangeI lo n).length = n := by simp [rangeI]
theorem rangeI_get {lo : Int} {n i : Nat} (h : i < n) : (rangeI lo n)[i]? = some (lo + (i : Int)) := by simp [rangeI, h]
theorem rangeI_succ {lo : Int} {n : Nat} : rangeI lo (n + 1) = rangeI lo n ++ [lo + (n : Int)] := by simp [rangeI, List.range_succ]
theorem rangeI_zero {lo : Int} : rangeI lo 0 = [] := rfl
theorem mem_pre {xs ys : List α} {x : α} (h : ys ++ [x] <+: xs) : x ∈ xs := h.subset (by simp)
theorem pre_len {xs ys : List α} {x : α} (h : ys ++ [x] <+: xs) : ys.length < xs.length := by
  have := h.length_le
  simp at this
  omega
theorem rangeI_pre {lo x : Int} {n : Nat} {ys : List Int} (h : ys ++ [x] <+: rangeI lo n) : ys = rangeI lo ys.length ∧ x = lo + (ys.length : Int) ∧ ys.length < n := by
  have hl := pre_len h
  rw [rangeI_len] at hl
  obtain ⟨t, ht⟩ := h
  have hx : x = lo + (ys.length : Int) := by
    have h1 := rangeI_get (lo := lo) hl
    rw [← ht] at h1
    simp at h1
    exact h1
  refine ⟨?_, hx, hl⟩
  refine List.ext_getElem? fun i => ?_
  by_cases hi : i < ys.length
  · rw [rangeI_get hi]
    have h1 := rangeI_get (lo := lo) (Nat.lt_trans hi hl)
    rw [← ht, List.append_assoc, List.getElem?_append_left hi] at h1
    exact h1
  · rw [List.getElem?_eq_none (by omega), List.getElem?_eq_none (by rw [rangeI_len]; omega)]
theorem atI_lt {xs : List α} {i : Int} (h0 : 0 ≤ i) (h : i < xs.length) : ∃ x, atI xs i = some x ∧ xs[i.toNat]? = some x ∧ x ∈ xs := by
  rw [atI_nat h0]
  have : i.toNat < xs.length := by omega
  exact ⟨xs[i.toNat], List.getElem?_eq_getElem this, List.getElem?_eq_getElem this, List.getElem_mem this⟩
end
end Va

/-! Vt1: readings at one told state of the slots; loops and comprehensions there. -/
namespace Va
open PySem L2 PyProof.Rows

open Classical in
/-- told at ρ alone -/
noncomputable def pE {β : Type} (ρ : Env) (o : Option β) : Env → Option β := fun ρ' => if ρ' = ρ then o else none
theorem pE_same {β : Type} {ρ : Env} {o : Option β} : pE ρ o ρ = o := if_pos rfl
theorem pE_some {β : Type} {ρ ρ' : Env} {o : Option β} {x : β} (h : pE ρ o ρ' = some x) : ρ' = ρ ∧ o = some x := by
  unfold pE at h
  split at h
  · exact ⟨by assumption, h⟩
  · cases h
section
variable {K : PySem.W.Frag} {Wx : WxT} {wr wr' wb ns : List Nat}
theorem VE.at {te : TE} {f : EF} (h : VE K te f) {ρ : Env} {o : Option (PyData × Kd)} (e : f ρ = o) : VE K te (pE ρ o) := fun B AF σ H ρ' Fs d k S q => by
  obtain ⟨e0, q2⟩ := pE_some q
  subst e0
  exact h B AF σ H _ Fs d k S (e.trans q2)
theorem VA.at {te : TA} {f : AFn} (h : VA K te f) {ρ : Env} {o : Option (List PyData × Kd)} (e : f ρ = o) : VA K te (pE ρ o) := fun B AF σ H ρ' Fs d k S q => by
  obtain ⟨e0, q2⟩ := pE_some q
  subst e0
  exact h B AF σ H _ Fs d k S (e.trans q2)
theorem VT.at {te : TT} {f : Env → Option Bool} (h : VT K te f) {ρ : Env} {o : Option Bool} (e : f ρ = o) : VT K te (pE ρ o) := fun B AF σ H ρ' Fs d S q => by
  obtain ⟨e0, q2⟩ := pE_some q
  subst e0
  exact h B AF σ H _ Fs d S (e.trans q2)
theorem VI.at {te : TI} {f : IF} (h : VI K te f) {ρ : Env} {o : Option (List PyData × Kd)} (e : f ρ = o) : VI K te (pE ρ o) := fun B AF σ H ρ' Fs d k S q => by
  obtain ⟨e0, q2⟩ := pE_some q
  subst e0
  exact h B AF σ H _ Fs d k S (e.trans q2)
theorem VO.at {te : TO} {f : Env → Option (Option Int)} (h : VO K te f) {ρ : Env} {o : Option (Option Int)} (e : f ρ = o) : VO K te (pE ρ o) := fun B AF σ H ρ' Fs d S q => by
  obtain ⟨e0, q2⟩ := pE_some q
  subst e0
  exact h B AF σ H _ Fs d S (e.trans q2)
theorem VS.at {ts : TS} {f : SF} (h : VS K Wx wr ts f) {ρ : Env} {o : Option Out} (e : f ρ = o) : VS K Wx wr ts (pE ρ o) := fun B AF σ H ρ' Fs d S q => by
  obtain ⟨e0, q2⟩ := pE_some q
  subst e0
  exact h B AF σ H _ Fs d S (e.trans q2)

/-! ### modes -/
def isLst : PyData → Bool
  | .list _ => true
  | .dict [(.none, _)] => false
  | .dict _ => true
  | _ => false
def Mle (d : PyData) (m m0 : Nat) : Prop := m = m0 ∨ m = 0 ∨ (m = 1 ∧ m0 = 2 ∧ isLst d = true)
theorem Mle.mf {d : PyData} {m m0 : Nat} {F : List Addr} {a : Addr} (h : Mle d m m0) (ha : a ∈ Mf m F) : a ∈ Mf m0 F := by
  rcases h with rfl | rfl | ⟨rfl, rfl, _⟩
  · exact ha
  · rw [Mf0] at ha; cases ha
  · exact List.mem_of_mem_take ha
theorem rp_isLst {H : Hp} {v : V} {d : PyData} {F : List Addr} (r : Rp K H v d F) (h : isLst d = true) : ∃ p G, v = .ref p ∧ F = p :: G := by
  cases r with
  | lst h0 r0 => exact ⟨_, _, rfl, rfl⟩
  | dic h0 r0 => exact ⟨_, _, rfl, rfl⟩
  | non => cases h
  | bl b => cases h
  | int i => cases h
  | str x => cases h
  | tup h0 r0 => cases h
  | pair h0 r0 => cases h
  | fn a => cases h
  | vw _ _ _ _ => cases h
  | tag _ => cases h
theorem Mle.own {B H : Hp} {v : V} {d : PyData} {m m0 : Nat} {F : List Addr} (h : Mle d m m0) (r : Rp K H v d F) (o : Own B v m0 F) : Own B v m F := by
  rcases h with rfl | rfl | ⟨rfl, rfl, hl⟩
  · exact o
  · exact .zero
  · obtain ⟨p, G, rfl, rfl⟩ := rp_isLst r hl
    obtain ⟨h1, _, h3⟩ := o
    refine ⟨fun a ha => h1 a (List.mem_of_mem_take ha), fun _ => ⟨p, G, rfl, rfl, ?_⟩, fun z => by cases z⟩
    exact (List.nodup_cons.mp (h3 rfl)).1
def LessR (ρ ρ' : Env) : Prop := ∀ (i : Nat) (d : PyData) (m : Nat), ρ'[i]? = some (some (d, m)) → ∃ m0, ρ[i]? = some (some (d, m0)) ∧ Mle d m m0
/-- less is told, or less of it -/
structure LessE (ρ ρ' : Env) : Prop where
  len : ρ'.length = ρ.length
  le : LessR ρ ρ'
theorem LessE.refl {ρ : Env} : LessE ρ ρ := ⟨rfl, fun i d m h => ⟨m, h, .inl rfl⟩⟩
theorem LessE.nil : LessE [] [] := .refl
theorem LessE.cons {ρ ρ' : Env} {s s' : Sl} (h : LessE ρ ρ') (hs : ∀ d m, s' = some (d, m) → ∃ m0, s = some (d, m0) ∧ Mle d m m0) : LessE (s :: ρ) (s' :: ρ') := by
  refine ⟨by simp [h.len], fun i d m e => ?_⟩
  cases i with
  | zero =>
    simp only [List.getElem?_cons_zero, Option.some.injEq] at e ⊢
    exact hs d m e
  | succ i => simpa using h.le i d m (by simpa using e)
theorem LessE.n {ρ ρ' : Env} {s : Sl} (h : LessE ρ ρ') : LessE (s :: ρ) (none :: ρ') := h.cons fun d m e => by cases e
theorem LessE.s {ρ ρ' : Env} {s : Sl} (h : LessE ρ ρ') : LessE (s :: ρ) (s :: ρ') := h.cons fun d m e => ⟨m, e, .inl rfl⟩
theorem LessE.z {ρ ρ' : Env} {d : PyData} {m : Nat} (h : LessE ρ ρ') : LessE (some (d, m) :: ρ) (some (d, 0) :: ρ') := h.cons fun d m e => by cases e; exact ⟨_, rfl, .inr (.inl rfl)⟩
theorem LessE.o {ρ ρ' : Env} {xs : List PyData} (h : LessE ρ ρ') : LessE (some (.list xs, 2) :: ρ) (some (.list xs, 1) :: ρ') := h.cons fun d m e => by cases e; exact ⟨_, rfl, .inr (.inr ⟨rfl, rfl, rfl⟩)⟩
theorem LessE.od {ρ ρ' : Env} {xs : List (PyData × PyData)} (hx : isLst (.dict xs) = true) (h : LessE ρ ρ') : LessE (some (.dict xs, 2) :: ρ) (some (.dict xs, 1) :: ρ') := h.cons fun d m e => by cases e; exact ⟨_, rfl, .inr (.inr ⟨rfl, rfl, hx⟩)⟩
theorem Mle.trans {d : PyData} {a b c : Nat} (h : Mle d a b) (k : Mle d b c) : Mle d a c := by
  unfold Mle at *
  rcases h with rfl | rfl | ⟨rfl, rfl, hl⟩
  · exact k
  · exact .inr (.inl rfl)
  · rcases k with rfl | k | ⟨k, _⟩
    · exact .inr (.inr ⟨rfl, rfl, hl⟩)
    · cases k
    · cases k
theorem LessE.trans {ρ ρ' ρ2 : Env} (h : LessE ρ ρ') (k : LessE ρ' ρ2) : LessE ρ ρ2 := ⟨k.len.trans h.len, fun i d m e => by
  obtain ⟨m0, h1, h2⟩ := k.le i d m e
  obtain ⟨m1, h3, h4⟩ := h.le i d m0 h1
  exact ⟨m1, h3, h2.trans h4⟩⟩
theorem LessE.dem {ρ : Env} {L : List Nat} : LessE ρ (Va.dem L ρ) := ⟨dem_len _, fun i d m e => by
  obtain ⟨m0, q0, q1, _⟩ := dem_get e
  exact ⟨m0, q0, q1.imp id .inl⟩⟩
theorem LessE.kil {ρ : Env} {L : List Nat} : LessE ρ (Va.kil L ρ) := ⟨wipeE_len _, fun i d m e => ⟨m, wipeE_get e, .inl rfl⟩⟩
variable {B : Hp} {AF : List Addr} {σ σ' : L2.St} {H H' : Hp} {ρ ρ' : Env} {Fs Fs' : Nat → List Addr}
theorem SR.lessE (h : SR K B AF σ H ρ Fs) (l : LessE ρ ρ') : SR K B AF σ H ρ' Fs := by
  refine ⟨h.len.trans l.len.symm, h.same, fun i d m q => ?_, fun i j d m d' m' q1 q2 ne a ha => ?_⟩
  · obtain ⟨m0, q0, z⟩ := l.le i d m q
    obtain ⟨v, h1, h2, h3, h4⟩ := h.val i d m0 q0
    exact ⟨v, h1, h2, h3, z.own h2 h4⟩
  · obtain ⟨m0, q0, z⟩ := l.le i d m q1
    obtain ⟨m0', q0', _⟩ := l.le j d' m' q2
    exact h.dis i j d m0 d' m0' q0 q0' ne a (z.mf ha)
theorem Fr.lessR (hρ : LessR ρ ρ') : Fr wr σ H ρ Fs σ H ρ' Fs := by
  refine ⟨fun a h => h, fun a o _ h _ => h, fun j hj d m e a ha => ?_, fun j hj => ⟨rfl, fun d m e => ?_⟩⟩
  · obtain ⟨m0, h1, h2⟩ := hρ j d m e
    exact .inr ⟨j, hj, d, m0, h1, h2.mf ha⟩
  · obtain ⟨m0, h1, h2⟩ := hρ j d m e
    exact ⟨m0, h1, rfl, fun a ha => h2.mf ha⟩
end
/-- what o' tells is less than what o tells -/
def OutLe : Out → Out → Prop
  | .nx ρ, .nx ρ' => LessE ρ ρ'
  | .bk ρ, .bk ρ' => LessE ρ ρ'
  | .ct ρ, .ct ρ' => LessE ρ ρ'
  | o, o' => o = o'
section
variable {K : PySem.W.Frag} {Wx : WxT} {wr wr' wb ns : List Nat} {ts tb : TS} {ρ ρ1 ρ2 : Env} {o o' : Out}
theorem Post.le {B : Hp} {AF : List Addr} {σ : L2.St} {H : Hp} {Fs : Nat → List Addr} {D : Ends} (p : Post K Wx B AF wr σ H ρ Fs D o') (l : OutLe o o') : Post K Wx B AF wr σ H ρ Fs D o := by
  have nx : ∀ {ρ1 ρ2 : Env} {C : L2.St → Hp → Prop}, LessE ρ1 ρ2 → PNx K B AF wr σ H ρ Fs ρ2 C → PNx K B AF wr σ H ρ Fs ρ1 C := fun l p σ' H' Fs' S F =>
    p σ' H' Fs' (S.lessE l) ((F.trans (Fr.lessR (wr := wr) l.le)).mono fun j hj => by simpa using hj)
  cases o <;> cases o' <;> first | exact nx l p | (cases l; exact p) | (cases l)
theorem s_out (h : VS K Wx wr ts (pE ρ (some o))) (l : OutLe o o') : VS K Wx wr ts (pE ρ (some o')) := fun B AF σ H ρ' Fs o1 S e D p => by
  obtain ⟨e0, e2⟩ := pE_some e
  subst e0
  cases e2
  exact h B AF σ H _ Fs o S pE_same D (p.le l)
theorem s_in {o : Option Out} (l : LessE ρ ρ1) (h : VS K Wx wr ts (pE ρ1 o)) : VS K Wx wr ts (pE ρ o) := fun B AF σ H ρ' Fs o1 S e D p => by
  obtain ⟨e0, e2⟩ := pE_some e
  subst e0
  refine h B AF σ H ρ1 Fs o1 (S.lessE l) (pE_same.trans e2) D ?_
  exact p.pre (Fr.lessR (wr := wr) l.le) fun i hi => by simpa using hi

/-! ### told by relations -/
def VSr (K : PySem.W.Frag) (Wx : WxT) (wr : List Nat) (ts : TS) (R : Env → Out → Prop) : Prop := ∀ (B : Hp) (AF : List Addr) (σ : L2.St) (H : Hp) (ρ : Env) (Fs : Nat → List Addr) (o : Out), SR K B AF σ H ρ Fs → R ρ o →
  ∀ D : Ends, Post K Wx B AF wr σ H ρ Fs D o → ts D σ H
def VEr (K : PySem.W.Frag) (te : TE) (R : Env → PyData × Kd → Prop) : Prop := ∀ (B : Hp) (AF : List Addr) (σ : L2.St) (H : Hp) (ρ : Env) (Fs : Nat → List Addr) (d : PyData) (k : Kd), SR K B AF σ H ρ Fs → R ρ (d, k) →
  ∀ Q : VK, (∀ v H' F, Grow H H' → Rp K H' v d F → KV ρ Fs H v F k → Q v H') → te σ H Q
def VTr (K : PySem.W.Frag) (tt : TT) (R : Env → Bool → Prop) : Prop := ∀ (B : Hp) (AF : List Addr) (σ : L2.St) (H : Hp) (ρ : Env) (Fs : Nat → List Addr) (b : Bool), SR K B AF σ H ρ Fs → R ρ b →
  ∀ Q : Bool → Hp → Prop, (∀ H', Grow H H' → Q b H') → tt σ H Q
/-! ### for -/
def LoopR (st : SG) (R : Env → Out → Prop) : List PyData → Env → Out → Prop
  | [], ρ, o => ∃ ρ0, LessE ρ ρ0 ∧ o = .nx ρ0
  | d :: ds, ρ, o => ∃ ρ0 ρ1 ob, LessE ρ ρ0 ∧ st d ρ0 = some ρ1 ∧ R ρ1 ob ∧ (match ob with
    | .nx ρ2 => LoopR st R ds ρ2 o
    | .ct ρ2 => LoopR st R ds ρ2 o
    | .bk ρ2 => o = .nx ρ2
    | ob => o = ob)
theorem Prot.lessR {ws : List Nat} {C : List Addr} {ρ ρ' : Env} {Fs : Nat → List Addr} (h : Prot ws C ρ Fs) (l : LessR ρ ρ') : Prot ws C ρ' Fs := fun j hj d m q a ha => by
  obtain ⟨m0, q0, q1⟩ := l j d m q
  exact h j hj d m0 q0 a (q1.mf ha)
theorem vs_forR {wi : TI} {g : TG} {fi : IF} {st : SG} {R : Env → Out → Prop} (hi : VI K wi fi) (hg : VG K ns g st) (hb : VSr K Wx wb tb R) : VSr K Wx (ns ++ wb) (tFor wi g tb)
    (fun ρ o => ∃ ds k, fi ρ = some (ds, k) ∧ LoopR st R ds (if flatL ds = true ∧ apart k.src (ns ++ wb) = true then ρ else dem k.src ρ) o) := by
  rintro B AF σ H ρ Fs o S ⟨ds, kc, e1, e2⟩ D p
  generalize hρ : (if flatL ds = true ∧ apart kc.src (ns ++ wb) = true then ρ else dem kc.src ρ) = ρ0 at e2
  let ws := ns ++ wb
  refine hi B AF σ H ρ Fs ds kc S e1 _ fun J H1 C g1 ok hC => ?_
  have less0 : ∀ (i : Nat) (d : PyData) (m : Nat), ρ0[i]? = some (some (d, m)) → ∃ m0, ρ[i]? = some (some (d, m0)) ∧ (m = m0 ∨ m = 0) := by
    intro i d m q
    rw [← hρ] at q
    split at q
    · exact ⟨m, q, .inl rfl⟩
    · obtain ⟨m0, q0, q1, _⟩ := dem_get q
      exact ⟨m0, q0, q1⟩
  have len0 : ρ0.length = ρ.length := by
    rw [← hρ]
    split
    · rfl
    · exact dem_len _
  have S0 : SR K B AF σ H1 ρ0 Fs := (S.grow g1).less len0 less0
  have cell : ∀ (j : Nat) (d : PyData) (m : Nat), ρ0[j]? = some (some (d, m)) → ∀ a ∈ Mf m (Fs j), a ∈ C → (flatL ds = true ∧ apart kc.src ws = true ∧ j ∈ kc.src) := by
    intro j d m q a ha hc
    obtain ⟨m0, q0, q1⟩ := less0 j d m q
    rcases hC a hc with z | ⟨l, hl, ⟨d', m', z⟩, ma⟩
    · exact absurd z (S.there q0 (Mf_sub ha))
    · by_cases e : j = l
      · subst e
        rw [← hρ] at q
        split at q
        · rename_i h
          exact ⟨h.1, h.2, hl⟩
        · obtain ⟨_, _, _, q2⟩ := dem_get q
          rw [q2 hl, Mf0] at ha
          cases ha
      · exact absurd ma (S.dis j l d m0 d' m' q0 z e a (Mf_le q1 ha))
  have prot0 : Prot ws C ρ0 Fs := fun j hj d m q a ha hc => by
    obtain ⟨_, h2, h3⟩ := cell j d m q a ha hc
    have := List.all_eq_true.mp h2 j h3
    rw [List.contains_iff_mem.mpr hj] at this
    cases this
  let W : Nat → L2.St → Hp → Prop := fun i σ' H' => ∃ ρi Fsi, SR K B AF σ' H' ρi Fsi ∧ LoopR st R (ds.drop i) ρi o ∧ Fr ws σ H1 ρ0 Fs σ' H' ρi Fsi ∧ Kp C H1 H' ∧ Prot ws C ρi Fsi
  have frm : ∀ {σ' H' ρi Fsi}, Fr ws σ H1 ρ0 Fs σ' H' ρi Fsi → Fr ws σ H ρ Fs σ' H' ρi Fsi := fun h => h.from_ g1 less0
  refine ⟨fun i m σ' H' => m = ds.length - i ∧ i ≤ ds.length ∧ W i σ' H', ⟨ds.length, by simp, Nat.zero_le _, ρ0, Fs, S0, e2, Fr.grow (.refl H1), fun a o h _ => h, prot0⟩, ?_⟩
  rintro i m σ1 H2 ⟨rfl, hil, ρi, Fsi, Si, el, Fi, kp, pr⟩
  by_cases hlt : i < ds.length
  · obtain ⟨dd, hdd⟩ : ∃ dd, ds[i]? = some dd := ⟨ds[i], List.getElem?_eq_getElem hlt⟩
    obtain ⟨go, yl⟩ := ok.go H2 kp i dd hdd
    have edrop : ds.drop i = dd :: ds.drop (i + 1) := by
      rw [List.drop_eq_getElem_cons hlt]
      rw [List.getElem?_eq_getElem hlt] at hdd
      rw [Option.some.inj hdd]
    rw [edrop] at el
    obtain ⟨ρk, ρ1, ob, lk, a1, a2, el⟩ := el
    refine .inr ⟨go, W (i + 1), fun σ' H' w => ⟨ds.length - (i + 1), by omega, rfl, by omega, w⟩, fun x H3 hy => ?_⟩
    obtain ⟨g3, G, rx, hG⟩ := yl x H3 hy
    have Sk : SR K B AF σ1 H3 ρk Fsi := (Si.grow g3).lessE lk
    have prk : Prot ws C ρk Fsi := pr.lessR lk.le
    have Fk : Fr ws σ H1 ρ0 Fs σ1 H3 ρk Fsi := ((Fi.trans (Fr.grow (wr := ws) g3)).trans (Fr.lessR (wr := ws) lk.le)).mono fun j hj => by simpa using hj
    have kp3 : Kp C H1 H3 := fun a o e q => have : Nt o := q.elim Nt.mb (·.2); g3.st a o (kp a o e q)
    have hGB : ∀ a ∈ G, B a = none ∨ a ∈ AF := fun a ha => by
      rcases hC a (hG a ha) with z | ⟨l, _, ⟨d', m', z⟩, ma⟩
      · exact .inl (S.same.back z)
      · obtain ⟨_, _, _, h3, _⟩ := S.val l d' m' z
        exact h3 a ma
    have frG : Free ρk Fsi G := fun j d m q a ha hg => by
      by_cases hj : j ∈ ws
      · exact prk j hj d m q a ha (hG a hg)
      · obtain ⟨_, h2⟩ := Fk.oth j hj
        obtain ⟨m0, h3, h4, h5⟩ := h2 d m q
        rw [h4] at ha
        obtain ⟨hf, _, _⟩ := cell j d m0 h3 a (h5 a ha) (hG a hg)
        have hfd : flat dd = true := by
          have : ∀ (l : List PyData) (n : Nat), flatL l = true → l[n]? = some dd → flat dd = true := by
            intro l
            induction l with
            | nil => intro n _ h; simp at h
            | cons x xs ih =>
              intro n hx h
              simp only [flatL, Bool.and_eq_true] at hx
              cases n with
              | zero => cases h; exact hx.1
              | succ n => exact ih n hx.2 h
          exact this ds i hf hdd
        rw [rx.flat hfd] at hg
        cases hg
    refine hg B AF σ1 H3 ρk ρ1 Fsi x dd G Sk rx hGB frG a1 _ fun σ2 Fs2 S2 T2 => ?_
    have pr2 : Prot ws C ρ1 Fs2 := fun j hj d m q a ha hc => by
      by_cases hn : j ∈ ns
      · rw [(T2.ins j hn d m q).1] at ha; cases ha
      · obtain ⟨_, h2, h3⟩ := T2.out j hn
        rw [h2] at q
        rw [h3] at ha
        exact prk j hj d m q a ha hc
    have FT : Fr ns σ1 H3 ρk Fsi σ2 H3 ρ1 Fs2 := by
      refine ⟨fun a h => h, fun a o _ h _ => h, fun j hj d m q a ha => ?_, fun j hj => ?_⟩
      · rw [(T2.ins j hj d m q).1] at ha
        cases ha
      · obtain ⟨h1, h2, h3⟩ := T2.out j hj
        exact ⟨h1, fun d m q => ⟨m, by rw [← h2]; exact q, h3, fun a ha => ha⟩⟩
    have F2 : Fr ws σ H1 ρ0 Fs σ2 H3 ρ1 Fs2 := (Fk.trans FT).mono fun j hj => by
      rcases List.mem_append.mp hj with h | h
      · exact h
      · exact List.mem_append_left _ h
    have fin : ∀ {σ' H' ρ' Fs'}, Fr wb σ2 H3 ρ1 Fs2 σ' H' ρ' Fs' → Fr ws σ H1 ρ0 Fs σ' H' ρ' Fs' := fun h => (F2.trans h).mono fun j hj => by
      rcases List.mem_append.mp hj with h | h
      · exact h
      · exact List.mem_append_right _ h
    have kpf : ∀ {σ' H' ρ' Fs'}, Fr wb σ2 H3 ρ1 Fs2 σ' H' ρ' Fs' → Kp C H1 H' := fun {σ' H' ρ' Fs'} h a o e q => by
      have e3 := kp3 a o e q
      have : Nt o := q.elim Nt.mb (·.2)
      refine h.keep a o e3 fun j hj d m qq ha => ?_
      rcases q with q | q
      · obtain ⟨_, _, r, _⟩ := S2.val j d m qq
        have := r.mb a (Mf_sub ha)
        rw [e3, q] at this
        cases this
      · exact pr2 j (List.mem_append_right _ hj) d m qq a ha q.1
    have prf : ∀ {σ' H' ρ' Fs'}, Fr wb σ2 H3 ρ1 Fs2 σ' H' ρ' Fs' → Prot ws C ρ' Fs' := fun {σ' H' ρ' Fs'} h j hj d m q a ha hc => by
      have hm : H3 a ≠ none := fun z => by
        have := ok.mb a hc
        rw [Fk.dom a z] at this
        cases this
      by_cases hw : j ∈ wb
      · rcases h.own j hw d m q a ha with z | ⟨l, hl, d', m', z, ma⟩
        · exact hm z
        · exact pr2 l (List.mem_append_right _ hl) d' m' z a ma hc
      · obtain ⟨_, h2⟩ := h.oth j hw
        obtain ⟨m0, h3, h4, h5⟩ := h2 d m q
        rw [h4] at ha
        exact pr2 j hj d m0 h3 a (h5 a ha) hc
    refine hb B AF σ2 H3 ρ1 Fs2 ob S2 a2 _ ?_
    cases ob with
    | nx ρ2 => exact fun σ' H' Fs' S' F' => ⟨ρ2, Fs', S', el, fin F', kpf F', prf F'⟩
    | ct ρ2 => exact fun σ' H' Fs' S' F' => ⟨ρ2, Fs', S', el, fin F', kpf F', prf F'⟩
    | bk ρ2 =>
      cases el
      exact fun σ' H' Fs' S' F' => p σ' H' Fs' S' (frm (fin F'))
    | rt d r =>
      cases el
      exact p
    | ex c fs =>
      cases el
      exact p
  · have e3 : i = ds.length := by omega
    subst e3
    rw [List.drop_length] at el
    obtain ⟨ρk, lk, rfl⟩ := el
    exact .inl ⟨ok.stop H2 kp _ (Nat.le_refl _), p σ1 H2 Fsi (Si.lessE lk) (frm ((Fi.trans (Fr.lessR (wr := ws) lk.le)).mono fun j hj => by simpa using hj))⟩
end
end Va

/-! Vt2: comprehensions, while, kinds. -/
namespace Va
open PySem L2 PyProof.Rows

def LcRel (ns : List Nat) (st : SG) (Rt : Env → Bool → Prop) (Re : Env → PyData × Kd → Prop) (ρ : Env) : List PyData → LcR → Prop
  | [], q => q = ([], true, [])
  | d :: ds, q => ∃ ρ', st d ρ = some ρ' ∧ ∃ b, Rt ρ' b ∧ if b = true then
      ∃ p q', Re ρ' p ∧ LcRel ns st Rt Re ρ ds q' ∧ (p.1 :: q'.1, isMv p.2 && q'.2.1, (p.2.src.filter fun i => !ns.contains i) ++ q'.2.2) = q
    else LcRel ns st Rt Re ρ ds q
section
variable {K : PySem.W.Frag} {wi : TI} {g : TG} {tt : TT} {te : TE} {fi : IF} {st : SG} {Rt : Env → Bool → Prop} {Re : Env → PyData × Kd → Prop} {ns vs : List Nat}
theorem lcRel_len {ρ : Env} : ∀ {ds : List PyData} {q : LcR}, LcRel ns st Rt Re ρ ds q → q.1.length ≤ ds.length
  | [], q, h => by cases h; exact Nat.le_refl _
  | d :: ds, q, h => by
    obtain ⟨ρ', e1, b, e2, h⟩ := h
    cases b with
    | true =>
      rw [if_pos rfl] at h
      obtain ⟨p, q', e3, e4, h⟩ := h
      subst h
      have := lcRel_len e4
      simp only [List.length_cons]
      omega
    | false =>
      rw [if_neg Bool.false_ne_true] at h
      have := lcRel_len h
      simp only [List.length_cons]
      omega
theorem ve_lcR (hi : VI K wi fi) (hg : VG K ns g st) (ht : VTr K tt Rt) (he : VEr K te Re) (hv : ∀ i ∈ ns, i ∈ vs) : VEr K (tLc wi g tt te vs)
    (fun ρ p => ∃ ds kc, fi ρ = some (ds, kc) ∧ ds.length ≤ 1000000 ∧ ∃ q, LcRel ns st Rt Re (wipeE (zeroE ρ) vs) ds q ∧ p = (.list q.1, if flatL q.1 = true then .mv [] else if q.2.1 = true then .mv [] else .sp (kc.src ++ q.2.2))) := by
  intro B AF σ H ρ Fs d k S e Q q
  obtain ⟨ds, kc, e1, hz, ⟨tot, am, L0⟩, e2, e⟩ := e
  cases e
  refine hi B AF σ H ρ Fs ds kc S e1 _ fun J H1 C g1 ok hC D hD => ?_
  have S1 := S.grow g1
  have hD0 : H D = none := g1.back hD
  let L := kc.src ++ L0
  let ρi := wipeE (zeroE ρ) vs
  have Si : ∀ {H2 : Hp}, Grow H1 H2 → SR K B AF (wipe σ vs) H2 ρi Fs := fun g2 => ((S1.grow g2).zero).wipe vs
  have frI : ∀ G : List Addr, Free ρi Fs G := fun G i d m h a ha => by
    obtain ⟨rfl, _⟩ := zero_get (wipeE_get h)
    rw [Mf0] at ha; cases ha
  have inv : ∀ {i : Nat} {H2 : Hp}, Grow (upd H1 D (.lst [])) H2 → Grow H1 H2 := fun h => (Grow.new hD).trans h
  refine ⟨fun i m H' => m = ds.length - i ∧ i ≤ ds.length ∧ ∃ qr, LcRel ns st Rt Re ρi (ds.drop i) qr ∧ LcI K ρ Fs H H1 D tot am L qr H', ⟨ds.length, by simp, Nat.zero_le _, (tot, am, L0), e2, ?_⟩, ?_⟩
  · exact ⟨.new hD, [], [], [], upd_same, .nil, rfl, fun z => (nomatch z), fun z => ⟨z, List.nodup_nil, fun a h => nomatch h⟩, fun i hi => List.mem_append_right _ hi, fun a h => nomatch h⟩
  rintro i m H' ⟨rfl, hil, qr, eq, I⟩
  have kpC : Kp C H1 H' := I.grow.kp
  obtain ⟨acc, out, F, hDa, racc, etot, hDF, ham, hL, hF⟩ := I.ex
  by_cases hlt : i < ds.length
  · obtain ⟨dd, hdd⟩ : ∃ dd, ds[i]? = some dd := ⟨ds[i], List.getElem?_eq_getElem hlt⟩
    obtain ⟨go, yl⟩ := ok.go H' kpC i dd hdd
    have edrop : ds.drop i = dd :: ds.drop (i + 1) := by
      rw [List.drop_eq_getElem_cons hlt]
      rw [List.getElem?_eq_getElem hlt] at hdd
      rw [Option.some.inj hdd]
    rw [edrop] at eq
    obtain ⟨ρ2, a1, b, a2, eq⟩ := eq
    refine .inr ⟨go, fun H2 => ∃ qr, LcRel ns st Rt Re ρi (ds.drop (i + 1)) qr ∧ LcI K ρ Fs H H1 D tot am L qr H2, fun H2 ⟨qr2, b1, b2⟩ => ⟨ds.length - (i + 1), by omega, rfl, by omega, qr2, b1, b2⟩, fun x H2 hy => ?_⟩
    obtain ⟨g2, G, rx, hG⟩ := yl x H2 hy
    have g12 : Grow H1 H2 := I.grow.trans g2
    have tr : ∀ {σ2 : L2.St} {Fs2 : Nat → List Addr}, Tg ns G (wipe σ vs) ρi Fs σ2 ρ2 Fs2 → ∀ {M : List Nat} {a : Addr}, Src ρ2 Fs2 M a → Src ρ Fs (kc.src ++ M.filter fun i => !ns.contains i) a ∨ (H a = none ∧ a ∈ C) := by
      intro σ2 Fs2 T2 M a ⟨j, hj, ⟨d', m', z⟩, ma⟩
      by_cases hn : j ∈ ns
      · rcases hC a (hG a ((T2.ins j hn d' m' z).2 a ma)) with y | y
        · exact .inr ⟨y, hG a ((T2.ins j hn d' m' (by assumption)).2 a ma)⟩
        · exact .inl (y.mono fun i hi => List.mem_append_left _ hi)
      · obtain ⟨_, h2, h3⟩ := T2.out j hn
        rw [h2] at z
        rw [h3] at ma
        obtain ⟨_, n, z⟩ := zero_get (wipeE_get z)
        refine .inl ⟨j, List.mem_append_right _ (List.mem_filter.mpr ⟨hj, by simpa using hn⟩), ⟨d', n, z⟩, ma⟩
    have nw : ∀ {σ2 : L2.St} {Fs2 : Nat → List Addr}, Tg ns G (wipe σ vs) ρi Fs σ2 ρ2 Fs2 → ∀ {M : List Nat} {a : Addr}, Src2 ρ2 Fs2 M a → False := by
      intro σ2 Fs2 T2 M a ⟨j, hj, ⟨d', z⟩, ma⟩
      by_cases hn : j ∈ ns
      · have := (T2.ins j hn d' 2 z).1
        have e : Mf 2 (Fs2 j) = Fs2 j := rfl
        rw [e] at this
        rw [this] at ma
        cases ma
      · obtain ⟨_, h2, h3⟩ := T2.out j hn
        rw [h2] at z
        obtain ⟨z, _⟩ := zero_get (wipeE_get z)
        cases z
    refine hg B AF (wipe σ vs) H2 ρi ρ2 Fs x dd G (Si g12) rx (fun a ha => ?_) (frI G) a1 _ fun σ2 Fs2 S2 T2 => ⟨(T2.wip vs hv).trans (wipe_sub vs fun _ h => h), ?_⟩
    · rcases hC a (hG a ha) with z | ⟨j, hj, ⟨d', m', z⟩, ma⟩
      · exact .inl (S.same.back z)
      · obtain ⟨_, _, _, h3, _⟩ := S.val j d' m' z
        exact h3 a ma
    · refine ht B AF σ2 H2 ρ2 Fs2 b S2 a2 _ fun H3 g3 => ?_
      have g13 := g12.trans g3
      have gp : Grow H' H3 := g2.trans g3
      cases b with
      | false =>
        rw [if_neg Bool.false_ne_true] at eq ⊢
        exact ⟨qr, eq, g13, acc, out, F, gp _ _ hDa, racc.grow gp, etot, hDF, ham, hL, hF⟩
      | true =>
        rw [if_pos rfl] at eq ⊢
        obtain ⟨⟨dy, ky⟩, q2, a3, a4, eq⟩ := eq
        subst eq
        refine he B AF σ2 H3 ρ2 Fs2 dy ky (S2.grow g3) a3 _ fun y H4 Gy g4 ry oy => ?_
        have g14 := g13.trans g4
        have gq : Grow H' H4 := gp.trans g4
        have hD4 : H4 D = some (.lst acc) := gq _ _ hDa
        have hlen : acc.length < sizeLine := by
          have h1 := racc.length
          have h2 : out.length + (1 + q2.1.length) = tot.length := by
            rw [etot, List.length_append, List.length_cons]; omega
          have h3 := lcRel_len e2
          simp only at h3 hz
          exact lt_line (by omega)
        have DGy : D ∉ Gy := fun hm => by
          rcases oy.1.any D hm with z | z
          · rw [gp _ _ hDa] at z
            cases z
          · rcases tr T2 z with ⟨j, _, ⟨d', m', w⟩, ma⟩ | z
            · exact S.there w ma hD0
            · have := ok.mb D z.2
              rw [hD] at this; cases this
        refine ⟨acc, hD4, hlen, q2, a4, g14.upd hD (.lst hD4), acc ++ [y], out ++ [dy], F ++ Gy, upd_same, ?_, by rw [etot, List.append_assoc]; rfl, ?_, ?_, ?_, ?_⟩
        · have mb : Mb (H4 D) = true := by rw [hD4]; rfl
          exact ((racc.grow gq).snoc ry).kp (.upd mb fun z => (List.mem_append.mp z).elim hDF DGy)
        · exact fun z => (List.mem_append.mp z).elim hDF DGy
        · intro z
          obtain ⟨y1, y2, y3⟩ := ham z
          rw [Bool.and_eq_true] at y1
          obtain ⟨y1, y4⟩ := y1
          refine ⟨y4, ?_, ?_⟩
          · cases ky with
            | sp M => cases y1
            | bo M => cases y1
            | mv M =>
              have o1 := oy.1
              refine List.nodup_append.mpr ⟨y2, o1.1, fun a ha b hb z => ?_⟩
              subst z
              rcases o1.2 a hb with z | z
              · exact racc.stn ha (gp.back z)
              · exact nw T2 z
          · cases ky with
            | sp M => cases y1
            | bo M => cases y1
            | mv M =>
              have o1 := oy.1
              intro a ha
              rcases List.mem_append.mp ha with ha | ha
              · exact y3 a ha
              · rcases o1.2 a ha with z | z
                · exact g1.back (g13.back z)
                · exact (nw T2 z).elim
        · exact fun i hi => hL i (List.mem_append_right _ hi)
        · intro a ha
          rcases List.mem_append.mp ha with ha | ha
          · exact hF a ha
          · rcases oy.1.any a ha with z | z
            · exact .inl (g1.back (g13.back z))
            · rcases tr T2 z with w | w
              · refine .inr (w.mono fun i hi => ?_)
                rcases List.mem_append.mp hi with hi | hi
                · exact List.mem_append_left _ hi
                · exact hL i (List.mem_append_left _ hi)
              · exact .inl w.1
  · have e3 : i = ds.length := by omega
    subst e3
    rw [List.drop_length] at eq
    cases eq
    refine .inl ⟨ok.stop H' kpC _ (Nat.le_refl _), ?_⟩
    rw [List.append_nil] at etot
    subst etot
    refine q _ H' (D :: F) (g1.trans I.grow) (.lst hDa racc) ?_
    split
    · rename_i hf
      rw [racc.flat hf]
      exact .mv ⟨by simp, fun a ha => by rcases List.mem_singleton.mp ha with rfl; exact .inl hD0⟩
    · split
      · rename_i hm
        obtain ⟨_, y2, y3⟩ := ham hm
        refine .mv ⟨List.nodup_cons.mpr ⟨hDF, y2⟩, fun a ha => ?_⟩
        rcases List.mem_cons.mp ha with rfl | ha
        · exact .inl hD0
        · exact .inl (y3 a ha)
      · refine ⟨fun a ha => ?_, fun _ _ => ⟨D, F, rfl, rfl, hDF, hD0⟩⟩
        rcases List.mem_cons.mp ha with rfl | ha
        · exact .inl hD0
        · exact hF a ha
end
section
variable {K : PySem.W.Frag} {Wx : WxT} {wb : List Nat}
/-- while: n turns at most -/
def WhileR (Rc : Env → Bool → Prop) (R : Env → Out → Prop) : Nat → Env → Out → Prop
  | 0, _, _ => False
  | n + 1, ρ, o => ∃ ρ0 b, LessE ρ ρ0 ∧ Rc ρ0 b ∧ if b = true then ∃ ob, R ρ0 ob ∧ (match ob with
      | .nx ρ2 => WhileR Rc R n ρ2 o
      | .ct ρ2 => WhileR Rc R n ρ2 o
      | .bk ρ2 => o = .nx ρ2
      | ob => o = ob)
    else o = .nx ρ0
theorem vs_whileR {tc : TT} {tb : TS} {Rc : Env → Bool → Prop} {R : Env → Out → Prop} (hc : VTr K tc Rc) (hb : VSr K Wx wb tb R) : VSr K Wx wb (tWhile tc tb) (fun ρ o => ∃ n, WhileR Rc R n ρ o) := by
  rintro B AF σ H ρ Fs o S ⟨n, e⟩ D p
  refine ⟨fun m σ' H' => ∃ ρi Fsi, SR K B AF σ' H' ρi Fsi ∧ WhileR Rc R m ρi o ∧ Fr wb σ H ρ Fs σ' H' ρi Fsi, ⟨n, ρ, Fs, S, e, Fr.grow (.refl H)⟩, ?_⟩
  rintro m σ1 H1 ⟨ρi, Fsi, Si, el, Fi⟩
  cases m with
  | zero => cases el
  | succ m =>
    obtain ⟨ρk, b, lk, e1, e2⟩ := el
    have Sk := Si.lessE lk
    have tk : Fr wb σ1 H1 ρi Fsi σ1 H1 ρk Fsi := Fr.lessR lk.le
    have Fk : Fr wb σ H ρ Fs σ1 H1 ρk Fsi := (Fi.trans tk).mono fun j hj => by simpa using hj
    refine hc B AF σ1 H1 ρk Fsi b Sk e1 _ fun H2 g2 => ?_
    have F2 : Fr wb σ H ρ Fs σ1 H2 ρk Fsi := (Fk.trans (Fr.grow (wr := wb) g2)).mono fun j hj => by simpa using hj
    cases b with
    | false =>
      rw [if_neg Bool.false_ne_true] at e2 ⊢
      cases e2
      exact p σ1 H2 Fsi (Sk.grow g2) F2
    | true =>
      rw [if_pos rfl] at e2 ⊢
      obtain ⟨ob, a2, el⟩ := e2
      have fin : ∀ {σ' H' ρ' Fs'}, Fr wb σ1 H2 ρk Fsi σ' H' ρ' Fs' → Fr wb σ H ρ Fs σ' H' ρ' Fs' := fun h => (F2.trans h).mono fun j hj => by simpa using hj
      refine ⟨fun σ' H' => ∃ ρi Fsi, SR K B AF σ' H' ρi Fsi ∧ WhileR Rc R m ρi o ∧ Fr wb σ H ρ Fs σ' H' ρi Fsi, fun σ' H' w => ⟨m, Nat.lt_succ_self _, w⟩, ?_⟩
      refine hb B AF σ1 H2 ρk Fsi ob (Sk.grow g2) a2 _ ?_
      cases ob with
      | nx ρ2 => exact fun σ' H' Fs' S' F' => ⟨ρ2, Fs', S', el, fin F'⟩
      | ct ρ2 => exact fun σ' H' Fs' S' F' => ⟨ρ2, Fs', S', el, fin F'⟩
      | bk ρ2 =>
        cases el
        exact fun σ' H' Fs' S' F' => p σ' H' Fs' S' (fin F')
      | rt d r =>
        cases el
        exact p
      | ex c fs =>
        cases el
        exact p
end

/-! ### kinds -/
section
variable {K : PySem.W.Frag} {te : TE} {ρ : Env} {d : PyData} {k k' : Kd} {L M : List Nat}
/-- k tells more than k' -/
inductive KLe (d : PyData) : Kd → Kd → Prop
  | refl {k : Kd} : KLe d k k
  | flat {k k' : Kd} (h : flat d = true) (hk : k' = .mv []) : KLe d k k'
  | mm {L M : List Nat} (h : L.all M.contains = true) : KLe d (.mv L) (.mv M)
  | any {k : Kd} {M : List Nat} (h : k.src.all M.contains = true) : KLe d k (.bo M)
  | ss {L M : List Nat} (h : L.all M.contains = true) : KLe d (.sp L) (.sp M)
  | ms {M : List Nat} (h : isLst d = true) : KLe d (.mv []) (.sp M)
theorem sub_of {L M : List Nat} (h : L.all M.contains = true) : ∀ i ∈ L, i ∈ M := fun i hi => by
  have := List.all_eq_true.mp h i hi
  simpa using this
theorem KLe.kv {Fs : Nat → List Addr} {H H' : Hp} {v : V} {F : List Addr} (l : KLe d k k') (r : Rp K H' v d F) (h : KV ρ Fs H v F k) : KV ρ Fs H v F k' := by
  cases l with
  | refl => exact h
  | flat hf hk => subst hk; rw [r.flat hf]; exact .nil
  | mm hs => exact .mv ⟨h.1.1, fun a ha => (h.1.2 a ha).imp id fun z => z.mono (sub_of hs)⟩
  | any hs => exact .bo fun a ha => (h.1.any a ha).imp id fun z => z.mono (sub_of hs)
  | ss hs => exact ⟨fun a ha => (h.1 a ha).imp id fun z => z.mono (sub_of hs), fun _ _ => h.2 _ rfl⟩
  | ms hl =>
    obtain ⟨p, G, rfl, rfl⟩ := rp_isLst r hl
    have n := h.1.1
    refine ⟨fun a ha => .inl ?_, fun _ _ => ⟨p, G, rfl, rfl, (List.nodup_cons.mp n).1, ?_⟩⟩
    · rcases h.1.2 a ha with z | ⟨i, hi, _⟩
      · exact z
      · cases hi
    · rcases h.1.2 p (List.mem_cons_self ..) with z | ⟨i, hi, _⟩
      · exact z
      · cases hi
/-- an expression's reading at ρ: the data d, of the kind k -/
abbrev PV (K : PySem.W.Frag) (te : TE) (ρ : Env) (d : PyData) (k : Kd) : Prop := VE K te (pE ρ (some (d, k)))
theorem PV.kd (h : PV K te ρ d k) (l : KLe d k k') : PV K te ρ d k' := fun B AF σ H ρ' Fs d1 k1 S e Q q => by
  obtain ⟨e0, e2⟩ := pE_some e
  subst e0
  cases e2
  exact h B AF σ H _ Fs d k S pE_same Q fun v H' F g r o => q v H' F g r (l.kv r o)
theorem PV.flat (h : PV K te ρ d k) (hf : Va.flat d = true) : PV K te ρ d (.mv []) := h.kd (.flat hf rfl)
theorem PV.bo (h : PV K te ρ d k) (M : List Nat) (hs : k.src.all M.contains = true := by decide) : PV K te ρ d (.bo M) := h.kd (.any hs)
end
end Va

/-! Vt3: plain types as data; expressions. -/
namespace Va
open PySem L2 PyProof.Rows PySem.W PySem.Calls

/-! ### plain types as data -/
section
variable {α β γ δ ε : Type}
@[reducible] def EL (e : α → PyData) : List α → PyData := fun xs => .list (xs.map e)
@[reducible] def ET (e : α → PyData) : List α → PyData := fun xs => .tuple (xs.map e)
@[reducible] def EU : Unit → PyData := fun _ => .tuple []
@[reducible] def E1 (a : α → PyData) : α → PyData := fun p => .tuple [a p]
@[reducible] def E2 (a : α → PyData) (b : β → PyData) : α × β → PyData := fun p => .tuple [a p.1, b p.2]
@[reducible] def E3 (a : α → PyData) (b : β → PyData) (c : γ → PyData) : α × β × γ → PyData := fun p => .tuple [a p.1, b p.2.1, c p.2.2]
@[reducible] def E4 (a : α → PyData) (b : β → PyData) (c : γ → PyData) (d : δ → PyData) : α × β × γ × δ → PyData := fun p => .tuple [a p.1, b p.2.1, c p.2.2.1, d p.2.2.2]
@[reducible] def E5 (a : α → PyData) (b : β → PyData) (c : γ → PyData) (d : δ → PyData) (e : ε → PyData) : α × β × γ × δ × ε → PyData := fun p => .tuple [a p.1, b p.2.1, c p.2.2.1, d p.2.2.2.1, e p.2.2.2.2]
/-- a pair that a walk made -/
@[reducible] def EW (e : α → PyData) : α → PyData := fun p => .dict [(.none, e p)]
@[reducible] def EN : Unit → PyData := fun _ => .none
def EO (e : α → PyData) : Option α → PyData
  | none => .none
  | some a => e a
@[simp] theorem EO_none {e : α → PyData} : EO e none = .none := rfl
@[simp] theorem EO_some {e : α → PyData} {a : α} : EO e (some a) = e a := rfl

class Flat (e : α → PyData) : Prop where
  flat : ∀ a, flat (e a) = true
instance : Flat PyData.int := ⟨fun _ => by simp⟩
instance : Flat PyData.bool := ⟨fun _ => by simp⟩
instance : Flat PyData.str := ⟨fun _ => by simp⟩
instance : Flat EN := ⟨fun _ => by simp⟩
instance : Flat EU := ⟨fun _ => by simp⟩
instance {e : α → PyData} [Flat e] : Flat (EO e) := ⟨fun a => by cases a <;> simp [EO, Flat.flat]⟩
instance {e : α → PyData} [Flat e] : Flat (ET e) := ⟨fun a => by simp [flatL_all (f := e) Flat.flat]⟩
instance {a : α → PyData} {b : β → PyData} [Flat a] [Flat b] : Flat (EW (E2 a b)) := ⟨fun _ => by simp [EW, Va.flat, Flat.flat]⟩
instance {a : α → PyData} [Flat a] : Flat (E1 a) := ⟨fun _ => by simp [Flat.flat]⟩
instance {a : α → PyData} {b : β → PyData} [Flat a] [Flat b] : Flat (E2 a b) := ⟨fun _ => by simp [Flat.flat]⟩
instance {a : α → PyData} {b : β → PyData} {c : γ → PyData} [Flat a] [Flat b] [Flat c] : Flat (E3 a b c) := ⟨fun _ => by simp [Flat.flat]⟩
instance {a : α → PyData} {b : β → PyData} {c : γ → PyData} {d : δ → PyData} [Flat a] [Flat b] [Flat c] [Flat d] : Flat (E4 a b c d) := ⟨fun _ => by simp [Flat.flat]⟩
instance {a : α → PyData} {b : β → PyData} {c : γ → PyData} {d : δ → PyData} {e : ε → PyData} [Flat a] [Flat b] [Flat c] [Flat d] [Flat e] : Flat (E5 a b c d e) := ⟨fun _ => by simp [Flat.flat]⟩
theorem flatL_map {e : α → PyData} [Flat e] {xs : List α} : flatL (xs.map e) = true := flatL_all Flat.flat _

class Shp (e : α → PyData) (n : outParam Nat) : Prop where
  lay : ∀ a, (e a).canLay0 = true
  deep : ∀ a, (e a).depth ≤ n
instance : Shp PyData.int 0 := ⟨fun _ => rfl, fun _ => Nat.le_refl _⟩
instance : Shp PyData.bool 0 := ⟨fun _ => rfl, fun _ => Nat.le_refl _⟩
instance : Shp EN 0 := ⟨fun _ => rfl, fun _ => Nat.le_refl _⟩
instance : Shp EU 1 := ⟨fun _ => rfl, fun _ => by simp [PyData.depth, PyData.depthAll]⟩
instance {e : α → PyData} {n : Nat} [Shp e n] : Shp (EO e) n := ⟨fun a => by cases a <;> simp [EO, Shp.lay, PyData.canLay0], fun a => by
  cases a with
  | none => exact Nat.zero_le _
  | some a => exact Shp.deep a⟩
theorem layAll_map {e : α → PyData} {n : Nat} [Shp e n] : ∀ xs : List α, PyData.canLayAll0 (xs.map e) = true
  | [] => rfl
  | x :: xs => by simp only [List.map_cons, PyData.canLayAll0, Shp.lay, layAll_map xs, Bool.and_self]
theorem deepAll_map {e : α → PyData} {n : Nat} [Shp e n] : ∀ xs : List α, PyData.depthAll (xs.map e) ≤ n
  | [] => Nat.zero_le _
  | x :: xs => by
    simp only [List.map_cons, PyData.depthAll]
    exact Nat.max_le.mpr ⟨Shp.deep x, deepAll_map xs⟩
instance {e : α → PyData} {n : Nat} [Shp e n] : Shp (EL e) (n + 1) := ⟨fun a => by simpa only [EL, PyData.canLay0] using layAll_map a, fun a => by
  simp only [EL, PyData.depth]
  have := deepAll_map (e := e) a
  omega⟩
instance {e : α → PyData} {n : Nat} [Shp e n] : Shp (ET e) (n + 1) := ⟨fun a => by simpa only [ET, PyData.canLay0] using layAll_map a, fun a => by
  simp only [ET, PyData.depth]
  have := deepAll_map (e := e) a
  omega⟩
instance {a : α → PyData} {n : Nat} [Shp a n] : Shp (E1 a) (n + 1) := ⟨fun _ => by simp [PyData.canLay0, PyData.canLayAll0, Shp.lay], fun p => by
  have h1 := Shp.deep (e := a) p
  simp only [E1, PyData.depth, PyData.depthAll]
  omega⟩
instance {a : α → PyData} {b : β → PyData} {n m : Nat} [Shp a n] [Shp b m] : Shp (E2 a b) (max n m + 1) := ⟨fun _ => by simp [PyData.canLay0, PyData.canLayAll0, Shp.lay], fun p => by
  have h1 := Shp.deep (e := a) p.1
  have h2 := Shp.deep (e := b) p.2
  simp only [E2, PyData.depth, PyData.depthAll]
  omega⟩
instance {a : α → PyData} {b : β → PyData} {c : γ → PyData} {n m l : Nat} [Shp a n] [Shp b m] [Shp c l] : Shp (E3 a b c) (max n (max m l) + 1) := ⟨fun _ => by simp [PyData.canLay0, PyData.canLayAll0, Shp.lay], fun p => by
  have h1 := Shp.deep (e := a) p.1
  have h2 := Shp.deep (e := b) p.2.1
  have h3 := Shp.deep (e := c) p.2.2
  simp only [E3, PyData.depth, PyData.depthAll]
  omega⟩
instance {a : α → PyData} {b : β → PyData} {c : γ → PyData} {d : δ → PyData} {n m l k : Nat} [Shp a n] [Shp b m] [Shp c l] [Shp d k] : Shp (E4 a b c d) (max (max n m) (max l k) + 1) := ⟨fun _ => by simp [PyData.canLay0, PyData.canLayAll0, Shp.lay], fun p => by
  have h1 := Shp.deep (e := a) p.1
  have h2 := Shp.deep (e := b) p.2.1
  have h3 := Shp.deep (e := c) p.2.2.1
  have h4 := Shp.deep (e := d) p.2.2.2
  simp only [E4, PyData.depth, PyData.depthAll]
  omega⟩
theorem shaped_of {e : α → PyData} {n : Nat} [Shp e n] {a : α} (h : n ≤ 64) : SeqAt.shaped (e a) = true := by
  unfold SeqAt.shaped
  have := Shp.deep (e := e) a
  simp only [Bool.and_eq_true, decide_eq_true_eq]
  exact ⟨Shp.lay a, by omega⟩

/-- no value of it is None -/
class NonN (e : α → PyData) : Prop where
  non : ∀ a, isN (e a) = false
instance : NonN PyData.int := ⟨fun _ => rfl⟩
instance : NonN PyData.bool := ⟨fun _ => rfl⟩
instance : NonN PyData.str := ⟨fun _ => rfl⟩
instance {e : α → PyData} : NonN (EL e) := ⟨fun _ => rfl⟩
instance {e : α → PyData} : NonN (ET e) := ⟨fun _ => rfl⟩
instance {e : α → PyData} : NonN (E1 e) := ⟨fun _ => rfl⟩
instance {e : α → PyData} {f : β → PyData} : NonN (E2 e f) := ⟨fun _ => rfl⟩
instance {e : α → PyData} {f : β → PyData} {g : γ → PyData} : NonN (E3 e f g) := ⟨fun _ => rfl⟩
instance {e : α → PyData} {f : β → PyData} {g : γ → PyData} {h : δ → PyData} : NonN (E4 e f g h) := ⟨fun _ => rfl⟩
theorem isN_EO {e : α → PyData} [NonN e] {o : Option α} : isN (EO e o) = o.isNone := by cases o <;> simp [EO, NonN.non, isN_none]

class EqvE (e : α → PyData) [DecidableEq α] : Prop where
  eqv : ∀ a b, PyData.eqv (e a) (e b) = decide (a = b)
instance : EqvE PyData.int := ⟨fun a b => by rw [eqv_int]; rfl⟩
instance : EqvE PyData.bool := ⟨fun a b => by rw [eqv_bool]; cases a <;> cases b <;> rfl⟩
instance : EqvE PyData.str := ⟨fun a b => by simp only [PyData.eqv]; rfl⟩
instance : EqvE EN := ⟨fun a b => by simp [PyData.eqv]⟩
instance : EqvE EU := ⟨fun a b => by simp [PyData.eqv, PyData.eqvAll]⟩
theorem eqv_non {d : PyData} (h : isN d = false) : PyData.eqv .none d = false ∧ PyData.eqv d .none = false := by
  cases d <;> simp [PyData.eqv] at * <;> cases h
instance {e : α → PyData} [DecidableEq α] [EqvE e] [NonN e] : EqvE (EO e) := ⟨fun a b => by
  cases a <;> cases b <;> simp [EO, EqvE.eqv, PyData.eqv, eqv_non (NonN.non _)]⟩
theorem eqvAll_map {e : α → PyData} [DecidableEq α] [EqvE e] : ∀ xs ys : List α, PyData.eqvAll (xs.map e) (ys.map e) = decide (xs = ys)
  | [], [] => by simp [PyData.eqvAll]
  | [], _ :: _ => by simp [PyData.eqvAll]
  | _ :: _, [] => by simp [PyData.eqvAll]
  | x :: xs, y :: ys => by
    simp only [List.map_cons, PyData.eqvAll, EqvE.eqv, eqvAll_map xs ys]
    simp [Bool.eq_iff_iff]
instance {e : α → PyData} [DecidableEq α] [EqvE e] : EqvE (EL e) := ⟨fun a b => by simp only [EL, PyData.eqv, eqvAll_map]⟩
instance {e : α → PyData} [DecidableEq α] [EqvE e] : EqvE (ET e) := ⟨fun a b => by simp only [ET, PyData.eqv, eqvAll_map]⟩
instance {a : α → PyData} [DecidableEq α] [EqvE a] : EqvE (E1 a) := ⟨fun p q => by
  simp only [E1, PyData.eqv, PyData.eqvAll, EqvE.eqv, Bool.and_true]⟩
instance {a : α → PyData} {b : β → PyData} [DecidableEq α] [DecidableEq β] [EqvE a] [EqvE b] : EqvE (E2 a b) := ⟨fun p q => by
  simp [E2, PyData.eqv, PyData.eqvAll, EqvE.eqv, Prod.ext_iff, Bool.eq_iff_iff]⟩
instance {a : α → PyData} {b : β → PyData} {c : γ → PyData} [DecidableEq α] [DecidableEq β] [DecidableEq γ] [EqvE a] [EqvE b] [EqvE c] : EqvE (E3 a b c) := ⟨fun p q => by
  simp [E3, PyData.eqv, PyData.eqvAll, EqvE.eqv, Prod.ext_iff, Bool.eq_iff_iff]⟩
instance {a : α → PyData} {b : β → PyData} {c : γ → PyData} {d : δ → PyData} [DecidableEq α] [DecidableEq β] [DecidableEq γ] [DecidableEq δ] [EqvE a] [EqvE b] [EqvE c] [EqvE d] : EqvE (E4 a b c d) := ⟨fun p q => by
  simp [E4, PyData.eqv, PyData.eqvAll, EqvE.eqv, Prod.ext_iff, Bool.eq_iff_iff]⟩

/-! ### order -/
def ltI (a b : Int) : Bool := decide (a < b)
def ltL [DecidableEq α] (lt : α → α → Bool) : List α → List α → Bool
  | _, [] => false
  | [], _ :: _ => true
  | a :: as, b :: bs => if a = b then ltL lt as bs else lt a b
def lt2 [DecidableEq α] (f : α → α → Bool) (g : β → β → Bool) (p q : α × β) : Bool := if p.1 = q.1 then g p.2 q.2 else f p.1 q.1
class LtE (e : α → PyData) [DecidableEq α] (lt : outParam (α → α → Bool)) : Prop where
  alk : ∀ a b, alike (e a) (e b) = true
  ltd : ∀ a b, dataLt (e a) (e b) = lt a b
  irr : ∀ a, lt a a = false
instance : LtE PyData.int ltI := ⟨fun _ _ => rfl, fun a b => dataLt_int a b, fun a => by simp [ltI]⟩
def ltS (a b : Str) : Bool := decide (a.cps.toList < b.cps.toList)
instance : LtE PyData.str ltS := ⟨fun _ _ => rfl, fun a b => dataLt_str a b, fun a => by simp [ltS]⟩
theorem alikeAll_map {e : α → PyData} [DecidableEq α] {lt : α → α → Bool} [LtE e lt] : ∀ xs ys : List α, alikeAll (xs.map e) (ys.map e) = true
  | [], _ => by cases ‹List α› <;> rfl
  | _ :: _, [] => rfl
  | x :: xs, y :: ys => by simp only [List.map_cons, alikeAll, LtE.alk, alikeAll_map xs ys, Bool.and_self]
theorem ltL_irr [DecidableEq α] {lt : α → α → Bool} : ∀ xs : List α, ltL lt xs xs = false
  | [] => rfl
  | x :: xs => by simp [ltL, ltL_irr xs]
theorem dataLt_map {e : α → PyData} [DecidableEq α] {lt : α → α → Bool} [LtE e lt] [EqvE e] : ∀ xs ys : List α, PyProof.Rows.lexLt itemOrd (keyToksAll (xs.map e)) (keyToksAll (ys.map e)) = ltL lt xs ys
  | [], [] => by rw [ltL]; exact lex_irrefl _
  | _ :: _, [] => by
    rw [ltL, List.map_cons, List.map_nil]
    rfl
  | [], _ :: _ => by
    rw [ltL, List.map_cons, List.map_nil]
    rfl
  | x :: xs, y :: ys => by
    rw [List.map_cons, List.map_cons, dataLt_cons (LtE.alk x y), dataLt_map xs ys, EqvE.eqv, LtE.ltd, ltL]
    by_cases h : x = y <;> simp [h]
instance {e : α → PyData} [DecidableEq α] {lt : α → α → Bool} [LtE e lt] [EqvE e] : LtE (EL e) (ltL lt) := ⟨fun a b => by simpa only [alike] using alikeAll_map a b, fun a b => by rw [dataLt_list]; exact dataLt_map a b, ltL_irr⟩
instance {e : α → PyData} [DecidableEq α] {lt : α → α → Bool} [LtE e lt] [EqvE e] : LtE (ET e) (ltL lt) := ⟨fun a b => by simpa only [alike] using alikeAll_map a b, fun a b => by rw [dataLt_tuple]; exact dataLt_map a b, ltL_irr⟩
instance {a : α → PyData} {b : β → PyData} [DecidableEq α] [DecidableEq β] {l : α → α → Bool} {m : β → β → Bool} [LtE a l] [LtE b m] [EqvE a] [EqvE b] : LtE (E2 a b) (lt2 l m) := ⟨fun p q => by
  simp only [E2, alike, alikeAll, LtE.alk, Bool.and_self], fun p q => by
  rw [dataLt_pair (LtE.alk _ _) (LtE.alk _ _), EqvE.eqv, EqvE.eqv, LtE.ltd, LtE.ltd, lt2]
  by_cases h : p.1 = q.1
  · by_cases k : p.2 = q.2
    · simp [h, k, LtE.irr (e := b)]
    · simp [h, k]
  · simp [h], fun p => by simp [lt2, LtE.irr (e := b)]⟩
instance {a : α → PyData} {b : β → PyData} {c : γ → PyData} [DecidableEq α] [DecidableEq β] [DecidableEq γ] {l : α → α → Bool} {m : β → β → Bool} {n : γ → γ → Bool} [LtE a l] [LtE b m] [LtE c n] [EqvE a] [EqvE b] [EqvE c] : LtE (E3 a b c) (lt2 l (lt2 m n)) := ⟨fun p q => by
  simp only [E3, alike, alikeAll, LtE.alk, Bool.and_self], fun p q => by
  have e0 : PyProof.Rows.lexLt itemOrd (keyToksAll []) (keyToksAll []) = false := lex_irrefl _
  rw [dataLt_tuple, dataLt_cons (LtE.alk _ _), dataLt_cons (LtE.alk _ _), dataLt_cons (LtE.alk _ _), EqvE.eqv, EqvE.eqv, EqvE.eqv, LtE.ltd, LtE.ltd, LtE.ltd, e0, lt2, lt2]
  by_cases h : p.1 = q.1
  · by_cases k : p.2.1 = q.2.1
    · by_cases j : p.2.2 = q.2.2
      · simp [h, k, j, LtE.irr (e := c)]
      · simp [h, k, j]
    · simp [h, k]
  · simp [h], fun p => by simp [lt2, LtE.irr (e := c)]⟩
/-- what sorted asks of a value -/
class SrtE (e : α → PyData) (ok : outParam (α → Bool)) : Prop where
  srt : ∀ xs : List α, xs.all ok = true → (xs.map e).all isTup1 = true ∨ (xs.map e).all noTup = true
theorem all_map_of {e : α → PyData} {p : PyData → Bool} {ok : α → Bool} (h : ∀ a, ok a = true → p (e a) = true) {xs : List α} (hx : xs.all ok = true) : (xs.map e).all p = true := by
  rw [List.all_map, List.all_eq_true]
  intro x hm
  exact h x (List.all_eq_true.mp hx x hm)
def okT : α → Bool := fun _ => true
instance : SrtE PyData.int okT := ⟨fun xs h => .inr (all_map_of (fun _ _ => rfl) h)⟩
instance : SrtE PyData.str okT := ⟨fun xs h => .inr (all_map_of (fun _ _ => rfl) h)⟩
instance {e : α → PyData} : SrtE (EL e) okT := ⟨fun xs h => .inr (all_map_of (fun _ _ => rfl) h)⟩
def okNE : List α → Bool := fun a => !a.isEmpty
instance {e : α → PyData} : SrtE (ET e) okNE := ⟨fun xs h => .inl (all_map_of (ok := okNE) (fun a ha => by cases a with
  | nil => cases ha
  | cons _ _ => rfl) h)⟩
instance {e : α → PyData} {f : β → PyData} : SrtE (E2 e f) okT := ⟨fun xs h => .inl (all_map_of (fun _ _ => rfl) h)⟩
instance {e : α → PyData} {f : β → PyData} {g : γ → PyData} : SrtE (E3 e f g) okT := ⟨fun xs h => .inl (all_map_of (fun _ _ => rfl) h)⟩
theorem sortOk_map {e : α → PyData} [DecidableEq α] {lt : α → α → Bool} {ok : α → Bool} {n : Nat} [LtE e lt] [Flat e] [Shp e n] [SrtE e ok] {xs : List α} (hn : n ≤ 60) (h : xs.all ok = true) : sortOk (xs.map e) = true := by
  unfold sortOk
  simp only [Bool.and_eq_true, Bool.or_eq_true]
  refine ⟨⟨⟨⟨flatL_map, layAll_map xs⟩, ?_⟩, SrtE.srt xs h⟩, ?_⟩
  · simp [LtE.alk]
  · simp only [List.all_map, List.all_eq_true, Function.comp_apply, decide_eq_true_eq]
    intro x _
    exact Nat.le_trans (Shp.deep x) hn
/-- sorted, plainly -/
def sortI (lt : α → α → Bool) (xs : List α) : List α := xs.mergeSort fun a b => !lt b a
def sortO (lt : α → α → Bool) (ok : α → Bool) (xs : List α) : Option (List α) := if xs.all ok = true then some (sortI lt xs) else none
theorem hSortD_map {e : α → PyData} [DecidableEq α] {lt : α → α → Bool} {ok : α → Bool} {n : Nat} [LtE e lt] [Flat e] [Shp e n] [SrtE e ok] {xs : List α} (hn : n ≤ 60) (h : xs.all ok = true) : hSortD (xs.map e) = some (.list ((sortI lt xs).map e)) := by
  unfold hSortD sortI
  rw [if_pos (sortOk_map hn h)]
  congr 2
  refine (List.map_mergeSort (f := e) fun a ha b hb => ?_).symm
  unfold leD
  rw [LtE.ltd]
end
end Va

/-! Vt4: expressions at told slots. -/
namespace Va
open PySem L2 PyProof.Rows PySem.W PySem.Calls

abbrev PA' (K : PySem.W.Frag) (ta : TA) (ρ : Env) (ds : List PyData) (k : Kd) : Prop := VA K ta (pE ρ (some (ds, k)))
abbrev PT' (K : PySem.W.Frag) (tt : TT) (ρ : Env) (b : Bool) : Prop := VT K tt (pE ρ (some b))
abbrev PI' (K : PySem.W.Frag) (wi : TI) (ρ : Env) (ds : List PyData) (k : Kd) : Prop := VI K wi (pE ρ (some (ds, k)))
abbrev PO' (K : PySem.W.Frag) (to : TO) (ρ : Env) (i : Option Int) : Prop := VO K to (pE ρ (some i))
section
variable {K : PySem.W.Frag} {te ta tb tc : TE} {t : TA} {tt tu : TT} {wi : TI} {to tp : TO} {ρ : Env} {d d1 d2 d3 : PyData} {ds es : List PyData} {k k1 k2 k3 : Kd} {i m : Nat} {L M : List Nat}
  {α β γ : Type} {e : α → PyData}
/-! ### parts that may not be there -/
theorem e_bind {o : Option β} {f : β → Option (PyData × Kd)} (h : ∀ b, o = some b → VE K te (pE ρ (f b))) : VE K te (pE ρ (o.bind f)) := fun B AF σ H ρ' Fs d k S e Q q => by
  obtain ⟨e0, e1⟩ := pE_some e
  subst e0
  obtain ⟨b, e2, e3⟩ := Option.bind_eq_some_iff.mp e1
  exact h b e2 B AF σ H _ Fs d k S (pE_same.trans e3) Q q
theorem c_bind {o : Option β} {f : β → Option Bool} (h : ∀ b, o = some b → VT K tt (pE ρ (f b))) : VT K tt (pE ρ (o.bind f)) := fun B AF σ H ρ' Fs d S e Q q => by
  obtain ⟨e0, e1⟩ := pE_some e
  subst e0
  obtain ⟨b, e2, e3⟩ := Option.bind_eq_some_iff.mp e1
  exact h b e2 B AF σ H _ Fs d S (pE_same.trans e3) Q q
/-- a plain program that gives an expression's data -/
abbrev EV (K : PySem.W.Frag) (te : TE) (ρ : Env) (o : Option α) (e : α → PyData) (k : Kd) : Prop := VE K te (pE ρ (o.map fun a => (e a, k)))
abbrev TV (K : PySem.W.Frag) (tt : TT) (ρ : Env) (o : Option Bool) : Prop := VT K tt (pE ρ o)
theorem ev_bind {o : Option β} {f : β → Option α} (h : ∀ b, o = some b → EV K te ρ (f b) e k) : EV K te ρ (o.bind f) e k := by
  show VE K te (pE ρ ((o.bind f).map _))
  rw [Option.map_bind]
  exact e_bind h
theorem ev_at {o : Option α} {a : α} (h : o = some a) (D : EV K te ρ o e k) : PV K te ρ (e a) k := by
  subst h
  exact D
theorem tv_at {o : Option Bool} {b : Bool} (h : o = some b) (D : TV K tt ρ o) : PT' K tt ρ b := by
  subst h
  exact D
/-! ### names, constants -/
theorem p_varF (h : ρ[i]? = some (some (d, m))) (hf : flat d = true) : PV K (tVar i) ρ d (.mv []) := (ve_var i).at (by unfold eVar; rw [h]; simp only [hf, if_true])
theorem p_var [Flat e] {a : α} (h : ρ[i]? = some (some (e a, m))) : PV K (tVar i) ρ (e a) (.mv []) := p_varF h (Flat.flat a)
theorem p_varM (h : ρ[i]? = some (some (d, 2))) : PV K (tVar i) ρ d (.mv [i]) := by
  cases hf : flat d with
  | true => exact PV.kd (p_varF h hf) (.mm rfl)
  | false => exact (ve_var i).at (by unfold eVar; rw [h]; simp [hf])
theorem p_varB (h : ρ[i]? = some (some (d, m))) : PV K (tVar i) ρ d (.bo [i]) := by
  cases hf : flat d with
  | true => exact PV.kd (p_varF h hf) (.any rfl)
  | false =>
    by_cases h2 : m = 2
    · subst h2
      exact PV.kd (p_varM h) (.any (by simp [Kd.src]))
    · exact (ve_var i).at (by unfold eVar; rw [h]; simp [hf, h2])
theorem p_int {i : Int} : PV K (tC (.int i)) ρ (.int i) (.mv []) := ve_int.at rfl
theorem p_bl {b : Bool} : PV K (tC (.bl b)) ρ (.bool b) (.mv []) := ve_bl.at rfl
theorem p_str {s : Str} : PV K (tC (.str s)) ρ (.str s) (.mv []) := ve_str.at rfl
theorem p_non : PV K (tC .non) ρ .none (.mv []) := ve_non.at rfl
/-! ### arguments -/
theorem a_nil : PA' K tNil ρ [] (.mv []) := va_nil.at rfl
theorem a_cons (h1 : PV K te ρ d k1) (h2 : PA' K t ρ ds k2) : PA' K (tCons te t) ρ (d :: ds) (aj k1 k2) := (va_cons h1 h2).at (by unfold aCons; rw [pE_same, pE_same]; rfl)
theorem a_consF (h1 : PV K te ρ d (.mv [])) (h2 : PA' K t ρ ds (.mv L)) : PA' K (tCons te t) ρ (d :: ds) (.mv L) := (va_cons h1 h2).at (by unfold aCons; rw [pE_same, pE_same]; simp)
theorem a_consB (h1 : PV K te ρ d k1) (h2 : PA' K t ρ ds k2) (M : List Nat) (hs : (k1.src ++ k2.src).all M.contains = true) : PA' K (tCons te t) ρ (d :: ds) (.bo M) := fun B AF σ H ρ' Fs ds' k S e Q q => by
  obtain ⟨e0, e1⟩ := pE_some e
  subst e0
  cases e1
  refine a_cons h1 h2 B AF σ H _ Fs _ _ S pE_same Q fun vs H' F g r o => q vs H' F g r fun a ha => (o.any a ha).imp id fun z => z.mono fun i hi => ?_
  have hs' : (aj k1 k2).src = k1.src ++ k2.src := by
    cases k1 <;> cases k2 <;> try rfl
    rename_i L M
    rw [aj_mm]
    split <;> rfl
  rw [hs'] at hi
  exact sub_of hs i hi
/-- what is moved, from unlike slots -/
theorem a_consM (h1 : PV K te ρ d (.mv L)) (h2 : PA' K t ρ ds (.mv M)) (hs : apart L M = true) : PA' K (tCons te t) ρ (d :: ds) (.mv (L ++ M)) := (va_cons h1 h2).at (by unfold aCons; rw [pE_same, pE_same]; simp only [Option.bind_some, aj_mm, if_pos hs])
theorem a_star (h1 : PV K te ρ d (.mv [])) (h2 : PA' K t ρ ds (.mv L)) (hi : iterD d = some es) : PA' K (StX.tStar K te t) ρ (es ++ ds) (.mv L) := (va_star h1 h2).at (by unfold aStar; rw [pE_same, pE_same]; simp [hi])
/-! ### operations -/
theorem p_opF {r : R2} {h : List PyData → Option PyData} (vf : VFf K (r2l r) h) (h1 : PV K ta ρ d1 k1) (h2 : PV K tb ρ d2 k2) (hg : h [d1, d2] = some d) : PV K (tOp r ta tb) ρ d (.mv []) :=
  (ve_op (vf_f vf) h1 h2).at (by unfold eApp aCons aNil; rw [pE_same, pE_same]; simp [gF, hg])
theorem p_op {r : R2} {gn : Gn} (vf : VF K (r2l r) gn) (h1 : PV K ta ρ d1 k1) (h2 : PV K tb ρ d2 k2) (hg : gn [d1, d2] (aj k1 (aj k2 (.mv []))) = some (d, k)) : PV K (tOp r ta tb) ρ d k :=
  (ve_op vf h1 h2).at (by unfold eApp aCons aNil; rw [pE_same, pE_same]; simpa using hg)
theorem p_neg {x : Int} (h1 : PV K ta ρ (.int x) k1) : PV K (tUn (rU fun i => .int (-i)) ta) ρ (.int (-x)) (.mv []) :=
  (ve_un (vf_f vf_neg) h1).at (by unfold eApp aCons aNil; rw [pE_same]; rfl)
theorem p_add {x y : Int} (h1 : PV K ta ρ (.int x) k1) (h2 : PV K tb ρ (.int y) k2) : PV K (tOp (rAddA K) ta tb) ρ (.int (x + y)) (.mv []) := p_op vf_add h1 h2 rfl
theorem p_mul {x y z : Int} (h1 : PV K ta ρ (.int x) k1) (h2 : PV K tb ρ (.int y) k2) (h : mulO x y = some z) : PV K (tOp rMulA ta tb) ρ (.int z) (.mv []) := p_op vf_mul h1 h2 (by
  unfold mulO at h
  split at h
  · rename_i hm
    cases h
    simp [gMul, hm]
  · cases h)
theorem p_mulN {x y : Int} (h1 : PV K ta ρ (.int x) k1) (h2 : PV K tb ρ (.int y) k2) (h : mulOk x y = true) : PV K (tOp rMulA ta tb) ρ (.int (x * y)) (.mv []) := p_mul h1 h2 (by unfold mulO; rw [if_pos h])
theorem mulOk_l {x y : Int} (h : -(2 ^ 64) < x ∧ x < 2 ^ 64) : mulOk x y = true := by
  unfold mulOk
  simp only [Bool.or_eq_true, Bool.and_eq_true, decide_eq_true_eq]
  omega
theorem mulOk_r {x y : Int} (h : -(2 ^ 64) < y ∧ y < 2 ^ 64) : mulOk x y = true := by
  unfold mulOk
  simp only [Bool.or_eq_true, Bool.and_eq_true, decide_eq_true_eq]
  omega
theorem p_div {x y z : Int} (h1 : PV K ta ρ (.int x) k1) (h2 : PV K tb ρ (.int y) k2) (h : divO x y = some z) : PV K (tOp (rI CDivW fun i j => .int (i / j)) ta tb) ρ (.int z) (.mv []) := p_opF vf_div h1 h2 (by
  unfold divO at h
  split at h
  · rename_i hm
    cases h
    rw [hDiv_eq, if_pos hm]
  · cases h)
theorem p_mod {x y z : Int} (h1 : PV K ta ρ (.int x) k1) (h2 : PV K tb ρ (.int y) k2) (h : modO x y = some z) : PV K (tOp (rI (fun _ j => 0 < j) fun i j => .int (i % j)) ta tb) ρ (.int z) (.mv []) := p_opF vf_mod h1 h2 (by
  unfold modO at h
  split at h
  · rename_i hm
    cases h
    rw [hMod_eq, if_pos hm]
  · cases h)
theorem divN {x y : Int} (h : 0 < y ∧ y.natAbs.log2 < 9000) : divO x y = some (x / y) := if_pos h
theorem modN {x y : Int} (h : 0 < y) : modO x y = some (x % y) := if_pos h
theorem p_pow {x y z : Int} (h1 : PV K ta ρ (.int x) k1) (h2 : PV K tb ρ (.int y) k2) (h : powO x y = some z) : PV K (tOp (rI CPow fun i j => .int (i ^ j.toNat)) ta tb) ρ (.int z) (.mv []) := p_opF vf_pow h1 h2 (by
  unfold powO at h
  split at h
  · rename_i hm
    cases h
    rw [hPow_eq, if_pos hm]
  · cases h)
theorem p_scat {x y z : Str} (h1 : PV K ta ρ (.str x) k1) (h2 : PV K tb ρ (.str y) k2) (h : scatO x y = some z) : PV K (tOp (rAddA K) ta tb) ρ (.str z) (.mv []) := p_op vf_add h1 h2 (by
  unfold scatO at h
  split at h
  · rename_i hm
    cases h
    simp [gAdd, hm]
  · cases h)
/-- of two kinds put together -/
theorem lst_kd {ds : List PyData} {k k' : Kd} (hk : KLe (.list ds) (lstK ds k) k') (h : PV K te ρ (.list ds) (lstK ds k)) : PV K te ρ (.list ds) k' := h.kd hk
theorem catO_of {xs ys zs : List α} (h : catO xs ys = some zs) : xs.length + ys.length ≤ 1000000 ∧ zs = xs ++ ys := by
  unfold catO at h
  split at h
  · cases h; exact ⟨by assumption, rfl⟩
  · cases h
theorem p_cat {xs ys zs : List α} (h1 : PV K ta ρ (.list (xs.map e)) k1) (h2 : PV K tb ρ (.list (ys.map e)) k2) (h : catO xs ys = some zs) : PV K (tOp (rAddA K) ta tb) ρ (.list (zs.map e)) (lstK (zs.map e) (aj k1 (aj k2 (.mv [])))) := by
  obtain ⟨hl, rfl⟩ := catO_of h
  refine p_op vf_add h1 h2 ?_
  simp [gAdd, hl]
theorem p_catF [Flat e] {xs ys zs : List α} (h1 : PV K ta ρ (.list (xs.map e)) k1) (h2 : PV K tb ρ (.list (ys.map e)) k2) (h : catO xs ys = some zs) : PV K (tOp (rAddA K) ta tb) ρ (.list (zs.map e)) (.mv []) := by
  have := p_cat h1 h2 h
  unfold lstK at this
  rwa [if_pos flatL_map] at this
theorem lstK_sp {ds : List PyData} {k : Kd} {M : List Nat} (hs : k.src.all M.contains = true) : KLe (.list ds) (lstK ds k) (.sp M) ∨ ∃ L, k = .mv L ∧ flatL ds = false := by
  unfold lstK
  cases hf : flatL ds with
  | true => exact .inl (.ms rfl)
  | false =>
    cases k with
    | mv L => exact .inr ⟨L, rfl, rfl⟩
    | sp L => exact .inl (.ss hs)
    | bo L => exact .inl (.ss hs)
theorem lstK_mv {ds : List PyData} {L : List Nat} : KLe (.list ds) (lstK ds (.mv L)) (.mv L) := by
  unfold lstK
  cases hf : flatL ds with
  | true => exact .mm rfl
  | false => exact .refl
theorem lstK_bo {ds : List PyData} {L M : List Nat} (hs : L.all M.contains = true) : KLe (.list ds) (lstK ds (.bo L)) (.sp M) := by
  unfold lstK
  cases hf : flatL ds with
  | true => exact .ms rfl
  | false => exact .ss hs
theorem tupK_any {ds : List PyData} {k : Kd} {M : List Nat} (hs : k.src.all M.contains = true) : KLe (.tuple ds) (tupK ds k) (.bo M) := by
  unfold tupK
  cases hf : flatL ds with
  | true => exact .any rfl
  | false => cases k <;> exact .any hs
theorem tupK_mv {ds : List PyData} {L : List Nat} : KLe (.tuple ds) (tupK ds (.mv L)) (.mv L) := by
  unfold tupK
  cases hf : flatL ds with
  | true => exact .mm rfl
  | false => exact .refl
theorem datK_any {d : PyData} {k : Kd} {M : List Nat} (hs : k.src.all M.contains = true) : KLe d (datK d k) (.bo M) := by
  unfold datK
  cases hf : flat d with
  | true => exact .any rfl
  | false => cases k <;> exact .any hs
theorem datK_mv {d : PyData} {L : List Nat} : KLe d (datK d (.mv L)) (.mv L) := by
  unfold datK
  cases hf : flat d with
  | true => exact .mm rfl
  | false => exact .refl
theorem lstS {K : PySem.W.Frag} {te : TE} {ρ : Env} {ds : List PyData} {k : Kd} (M : List Nat) (h : PV K te ρ (.list ds) (lstK ds k)) (hk : ∀ L, k ≠ .mv L) (hs : k.src.all M.contains = true) : PV K te ρ (.list ds) (.sp M) := by
  rcases lstK_sp (ds := ds) hs with z | ⟨L, z, _⟩
  · exact h.kd z
  · exact absurd z (hk L)
/-- lists put together: items of the sources -/
theorem p_catS {xs ys zs : List α} (M : List Nat) (h1 : PV K ta ρ (.list (xs.map e)) k1) (h2 : PV K tb ρ (.list (ys.map e)) k2) (h : catO xs ys = some zs) (hs : (k1.src ++ k2.src).all M.contains = true) : PV K (tOp (rAddA K) ta tb) ρ (.list (zs.map e)) (.sp M) := by
  have h1' := h1.bo k1.src (by simp)
  have h2' := h2.bo k2.src (by simp)
  refine (p_cat h1' h2' h).kd ?_
  simp only [aj, Kd.src, List.append_nil]
  exact lstK_bo hs
theorem p_catM {xs ys zs : List α} (h1 : PV K ta ρ (.list (xs.map e)) (.mv L)) (h2 : PV K tb ρ (.list (ys.map e)) (.mv M)) (h : catO xs ys = some zs) (ha : apart L M = true) : PV K (tOp (rAddA K) ta tb) ρ (.list (zs.map e)) (.mv (L ++ M)) := by
  refine (p_cat h1 h2 h).kd ?_
  have : aj (.mv L) (aj (.mv M) (.mv [])) = .mv (L ++ M) := by rw [aj_nil2, aj_mm, if_pos ha]
  rw [this]
  exact lstK_mv
theorem p_catT {xs ys zs : List α} (h1 : PV K ta ρ (.tuple (xs.map e)) k1) (h2 : PV K tb ρ (.tuple (ys.map e)) k2) (h : catO xs ys = some zs) : PV K (tOp (rAddA K) ta tb) ρ (.tuple (zs.map e)) (tupK (zs.map e) (aj k1 (aj k2 (.mv [])))) := by
  obtain ⟨hl, rfl⟩ := catO_of h
  refine p_op vf_add h1 h2 ?_
  simp [gAdd, hl]
theorem p_catTF [Flat e] {xs ys zs : List α} (h1 : PV K ta ρ (.tuple (xs.map e)) k1) (h2 : PV K tb ρ (.tuple (ys.map e)) k2) (h : catO xs ys = some zs) : PV K (tOp (rAddA K) ta tb) ρ (.tuple (zs.map e)) (.mv []) := by
  have := p_catT h1 h2 h
  unfold tupK at this
  rwa [if_pos flatL_map] at this
theorem p_rep [Flat e] {xs zs : List α} {n : Int} (h1 : PV K ta ρ (.list (xs.map e)) k1) (h2 : PV K tb ρ (.int n) k2) (h : repO xs n = some zs) : PV K (tOp rMulA ta tb) ρ (.list (zs.map e)) (.mv []) := by
  unfold repO at h
  split at h
  · rename_i hc
    cases h
    refine p_op vf_mul h1 h2 ?_
    simp only [gMul, List.length_map]
    rw [if_pos ⟨hc.1, hc.2.1, hc.2.2, flatL_map⟩]
    simp [List.map_flatten]
  · cases h
/-! ### comparisons -/
theorem p_eq [DecidableEq α] {n : Nat} [EqvE e] [Shp e n] {a b : α} (h1 : PV K ta ρ (e a) k1) (h2 : PV K tb ρ (e b) k2) (hn : n ≤ 64) : PV K (tOp (fun x y H Q => rEqD K x y H Q ∨ rEq x y H Q) ta tb) ρ (.bool (decide (a = b))) (.mv []) :=
  p_opF vf_eq h1 h2 (by rw [hEq_eq (shaped_of hn) (shaped_of hn), EqvE.eqv])
theorem p_ne [DecidableEq α] {n : Nat} [EqvE e] [Shp e n] {a b : α} (h1 : PV K ta ρ (e a) k1) (h2 : PV K tb ρ (e b) k2) (hn : n ≤ 64) : PV K (tOp (fun x y H Q => rNeD K x y H Q ∨ rNe x y H Q) ta tb) ρ (.bool (!decide (a = b))) (.mv []) :=
  p_opF vf_ne h1 h2 (by rw [hNe_eq (shaped_of hn) (shaped_of hn), EqvE.eqv])
theorem p_eqS {a b : Str} (h1 : PV K ta ρ (.str a) k1) (h2 : PV K tb ρ (.str b) k2) : PV K (tOp (fun x y H Q => rEqD K x y H Q ∨ rEq x y H Q) ta tb) ρ (.bool (decide (a = b))) (.mv []) :=
  p_opF vf_eq h1 h2 rfl
theorem p_neS {a b : Str} (h1 : PV K ta ρ (.str a) k1) (h2 : PV K tb ρ (.str b) k2) : PV K (tOp (fun x y H Q => rNeD K x y H Q ∨ rNe x y H Q) ta tb) ρ (.bool (!decide (a = b))) (.mv []) :=
  p_opF vf_ne h1 h2 rfl
/-- of data whose texts must be known to be texts -/
def shpO (d : PyData) : Option Unit := if SeqAt.shaped d = true then some () else none
theorem shpO_some {d : PyData} {u : Unit} (h : shpO d = some u) : SeqAt.shaped d = true := by
  unfold shpO at h
  split at h
  · assumption
  · cases h
theorem p_eqG [DecidableEq α] [EqvE e] {a b : α} {u v : Unit} (h1 : PV K ta ρ (e a) k1) (h2 : PV K tb ρ (e b) k2) (ha : shpO (e a) = some u) (hb : shpO (e b) = some v) : PV K (tOp (fun x y H Q => rEqD K x y H Q ∨ rEq x y H Q) ta tb) ρ (.bool (decide (a = b))) (.mv []) := by
  have ha' := shpO_some ha
  have hb' := shpO_some hb
  exact p_opF vf_eq h1 h2 (by rw [hEq_eq ha' hb', EqvE.eqv])
theorem p_neG [DecidableEq α] [EqvE e] {a b : α} {u v : Unit} (h1 : PV K ta ρ (e a) k1) (h2 : PV K tb ρ (e b) k2) (ha : shpO (e a) = some u) (hb : shpO (e b) = some v) : PV K (tOp (fun x y H Q => rNeD K x y H Q ∨ rNe x y H Q) ta tb) ρ (.bool (!decide (a = b))) (.mv []) := by
  have ha' := shpO_some ha
  have hb' := shpO_some hb
  exact p_opF vf_ne h1 h2 (by rw [hNe_eq ha' hb', EqvE.eqv])
theorem p_isN [NonN e] {o : Option α} (h1 : PV K ta ρ (EO e o) k1) (h2 : PV K tb ρ .none k2) : PV K (tOp (fun x y H Q => y = .non ∧ Q (.bl (decide (x = .non))) H) ta tb) ρ (.bool o.isNone) (.mv []) := p_opF vf_isN h1 h2 (by rw [hIsN_eq, isN_EO])
theorem p_notN [NonN e] {o : Option α} (h1 : PV K ta ρ (EO e o) k1) (h2 : PV K tb ρ .none k2) : PV K (tOp (fun x y H Q => y = .non ∧ Q (.bl (!decide (x = .non))) H) ta tb) ρ (.bool o.isSome) (.mv []) := p_opF vf_notN h1 h2 (by rw [hNotN_eq, isN_EO]; cases o <;> rfl)
theorem cmp_of [DecidableEq α] {lt : α → α → Bool} {n : Nat} [LtE e lt] [Shp e n] [NonN e] {a b : α} (hn : n ≤ 60) : cmpOk (e a) (e b) = true := by
  unfold cmpOk
  have := Shp.deep (e := e) a
  simp only [Bool.and_eq_true, decide_eq_true_eq, LtE.alk, Shp.lay, NonN.non, Bool.not_false, true_and]
  omega
theorem hCmp_of {c : Int → Int → Bool} {h : PyData → PyData → Bool} [DecidableEq α] {lt : α → α → Bool} {n : Nat} [LtE e lt] [Shp e n] [NonN e] {a b : α} (hn : n ≤ 60) (hc : ∀ i j, h (.int i) (.int j) = c i j) : hCmp c h [e a, e b] = some (.bool (h (e a) (e b))) := by
  have ho : cmpOk (e a) (e b) = true := cmp_of hn
  generalize e a = x at ho
  generalize e b = y at ho
  unfold hCmp
  split
  · rename_i q
    cases q
    rw [hc]
  · rename_i q
    cases q
    rw [if_pos ho]
  · rename_i q
    exact absurd rfl (q _ _)
theorem p_ltA [DecidableEq α] {lt : α → α → Bool} {n : Nat} [LtE e lt] [Shp e n] [NonN e] {a b : α} (h1 : PV K ta ρ (e a) k1) (h2 : PV K tb ρ (e b) k2) (hn : n ≤ 60) :
    PV K (tOp (fun x y H Q => rI0 (fun i j => .bl (decide (i < j))) x y H Q ∨ rCmpD K (fun d e => dataLt d e) x y H Q) ta tb) ρ (.bool (lt a b)) (.mv []) := p_opF vf_ltA h1 h2 (by
  unfold hLtA; rw [hCmp_of hn fun i j => dataLt_int i j, LtE.ltd])
theorem p_gtA [DecidableEq α] {lt : α → α → Bool} {n : Nat} [LtE e lt] [Shp e n] [NonN e] {a b : α} (h1 : PV K ta ρ (e a) k1) (h2 : PV K tb ρ (e b) k2) (hn : n ≤ 60) :
    PV K (tOp (fun x y H Q => rI0 (fun i j => .bl (decide (j < i))) x y H Q ∨ rCmpD K (fun d e => dataLt e d) x y H Q) ta tb) ρ (.bool (lt b a)) (.mv []) := p_opF vf_gtA h1 h2 (by
  unfold hGtA; rw [hCmp_of hn fun i j => dataLt_int j i, LtE.ltd])
theorem p_leA [DecidableEq α] {lt : α → α → Bool} {n : Nat} [LtE e lt] [Shp e n] [NonN e] {a b : α} (h1 : PV K ta ρ (e a) k1) (h2 : PV K tb ρ (e b) k2) (hn : n ≤ 60) :
    PV K (tOp (fun x y H Q => rI0 (fun i j => .bl (decide (i ≤ j))) x y H Q ∨ rCmpD K (fun d e => !dataLt e d) x y H Q) ta tb) ρ (.bool (!lt b a)) (.mv []) := p_opF vf_leA h1 h2 (by
  unfold hLeA; rw [hCmp_of hn fun i j => by rw [dataLt_int, Bool.eq_iff_iff]; simp, LtE.ltd])
theorem p_geA [DecidableEq α] {lt : α → α → Bool} {n : Nat} [LtE e lt] [Shp e n] [NonN e] {a b : α} (h1 : PV K ta ρ (e a) k1) (h2 : PV K tb ρ (e b) k2) (hn : n ≤ 60) :
    PV K (tOp (fun x y H Q => rI0 (fun i j => .bl (decide (j ≤ i))) x y H Q ∨ rCmpD K (fun d e => !dataLt d e) x y H Q) ta tb) ρ (.bool (!lt a b)) (.mv []) := p_opF vf_geA h1 h2 (by
  unfold hGeA; rw [hCmp_of hn fun i j => by rw [dataLt_int, Bool.eq_iff_iff]; simp, LtE.ltd])
theorem any_eqv [DecidableEq α] [EqvE e] {x : α} {xs : List α} : ((xs.map e).any fun z => PyData.eqv z (e x)) = decide (x ∈ xs) := by
  rw [List.any_map, Bool.eq_iff_iff, List.any_eq_true, decide_eq_true_eq]
  simp only [Function.comp_apply, EqvE.eqv, decide_eq_true_eq]
  exact ⟨fun ⟨y, h1, h2⟩ => h2 ▸ h1, fun h => ⟨x, h, rfl⟩⟩
theorem shaped_list {n : Nat} [Shp e n] {xs : List α} (hn : n ≤ 60) : SeqAt.shaped (.list (xs.map e)) = true := shaped_of (e := EL e) (a := xs) (by omega)
theorem p_in [DecidableEq α] {n : Nat} [EqvE e] [Shp e n] {x : α} {xs : List α} (h1 : PV K ta ρ (e x) k1) (h2 : PV K tb ρ (.list (xs.map e)) k2) (hn : n ≤ 60) : PV K (tOp (rInA K) ta tb) ρ (.bool (memB x xs)) (.mv []) := p_opF vf_in h1 h2 (by
  rw [hIn_eq, inD_l (shaped_of (by omega)) (shaped_list hn), any_eqv, boolK_eq]; rfl)
theorem p_nin [DecidableEq α] {n : Nat} [EqvE e] [Shp e n] {x : α} {xs : List α} (h1 : PV K ta ρ (e x) k1) (h2 : PV K tb ρ (.list (xs.map e)) k2) (hn : n ≤ 60) : PV K (tOp (rNotInA K) ta tb) ρ (.bool (!memB x xs)) (.mv []) := p_opF vf_notIn h1 h2 (by
  rw [hNotIn_eq, inD_l (shaped_of (by omega)) (shaped_list hn), any_eqv, nboolK_eq]; rfl)
theorem any_int {x : Int} {xs : List Int} : (xs.any fun n => n == x) = decide (x ∈ xs) := by
  rw [Bool.eq_iff_iff]
  simp
theorem p_inT {x : Int} {xs : List Int} (h1 : PV K ta ρ (.int x) k1) (h2 : PV K tb ρ (.tuple (xs.map .int)) k2) : PV K (tOp (rInA K) ta tb) ρ (.bool (memB x xs)) (.mv []) := p_opF vf_in h1 h2 (by
  rw [hIn_eq, inD_t, any_int, boolK_eq]; rfl)
theorem p_ninT {x : Int} {xs : List Int} (h1 : PV K ta ρ (.int x) k1) (h2 : PV K tb ρ (.tuple (xs.map .int)) k2) : PV K (tOp (rNotInA K) ta tb) ρ (.bool (!memB x xs)) (.mv []) := p_opF vf_notIn h1 h2 (by
  rw [hNotIn_eq, inD_t, any_int, nboolK_eq]; rfl)
/-! ### and, or, not, if -/
theorem p_andV {a b : Bool} (h1 : PV K ta ρ (.bool a) k1) (h2 : a = true → PV K tb ρ (.bool b) k2) : PV K (tAndV ta tb) ρ (.bool (a && b)) (.mv []) := by
  cases a with
  | true => exact PV.flat (k := k2) ((ve_andV h1 (h2 rfl)).at (by unfold eAndV; rw [pE_same, pE_same]; rfl)) (by simp)
  | false => exact (ve_andV h1 (VE.at (f := fun _ => none) (fun _ _ _ _ _ _ _ _ _ z => by cases z) (ρ := ρ) rfl)).at (by unfold eAndV; rw [pE_same]; rfl)
theorem p_orV {a b : Bool} (h1 : PV K ta ρ (.bool a) k1) (h2 : a = false → PV K tb ρ (.bool b) k2) : PV K (tOrV ta tb) ρ (.bool (a || b)) (.mv []) := by
  cases a with
  | false => exact PV.flat (k := k2) ((ve_orV h1 (h2 rfl)).at (by unfold eOrV; rw [pE_same, pE_same]; rfl)) (by simp)
  | true => exact (ve_orV h1 (VE.at (f := fun _ => none) (fun _ _ _ _ _ _ _ _ _ z => by cases z) (ρ := ρ) rfl)).at (by unfold eOrV; rw [pE_same]; rfl)
theorem e_andV {a : Bool} {ob : Option Bool} (h1 : PV K ta ρ (.bool a) k1) (h2 : a = true → EV K tb ρ ob .bool (.mv [])) : EV K (tAndV ta tb) ρ (if a = true then ob else some false) .bool (.mv []) := by
  cases a with
  | true => exact (ve_andV h1 (h2 rfl)).at (by unfold eAndV; rw [pE_same, pE_same]; cases ob <;> rfl)
  | false => exact (ve_andV h1 (VE.at (f := fun _ => none) (fun _ _ _ _ _ _ _ _ _ z => by cases z) (ρ := ρ) rfl)).at (by unfold eAndV; rw [pE_same]; rfl)
theorem e_orV {a : Bool} {ob : Option Bool} (h1 : PV K ta ρ (.bool a) k1) (h2 : a = false → EV K tb ρ ob .bool (.mv [])) : EV K (tOrV ta tb) ρ (if a = true then some true else ob) .bool (.mv []) := by
  cases a with
  | false => exact (ve_orV h1 (h2 rfl)).at (by unfold eOrV; rw [pE_same, pE_same]; cases ob <;> rfl)
  | true => exact (ve_orV h1 (VE.at (f := fun _ => none) (fun _ _ _ _ _ _ _ _ _ z => by cases z) (ρ := ρ) rfl)).at (by unfold eOrV; rw [pE_same]; rfl)
theorem p_notV {a : Bool} (h1 : PV K ta ρ (.bool a) k1) : PV K (tNotV ta) ρ (.bool (!a)) (.mv []) := (ve_notV h1).at (by unfold eNotV; rw [pE_same]; rfl)
theorem p_if {b : Bool} {x y : α} (ht : PT' K tt ρ b) (ha : b = true → PV K ta ρ (e x) k) (hb : b = false → PV K tb ρ (e y) k) : PV K (tIf tt ta tb) ρ (e (if b = true then x else y)) k := by
  cases b with
  | true => exact (ve_if ht (ha rfl) (VE.at (f := fun _ => none) (fun _ _ _ _ _ _ _ _ _ z => by cases z) (ρ := ρ) rfl)).at (by simp only [pE_same, Option.bind_some, if_true])
  | false => exact (ve_if ht (VE.at (f := fun _ => none) (fun _ _ _ _ _ _ _ _ _ z => by cases z) (ρ := ρ) rfl) (hb rfl)).at (by simp [pE_same])
theorem e_if {b : Bool} {x y : Option α} (ht : PT' K tt ρ b) (ha : b = true → EV K ta ρ x e k) (hb : b = false → EV K tb ρ y e k) : EV K (tIf tt ta tb) ρ (if b = true then x else y) e k := by
  cases b with
  | true => exact (ve_if ht (ha rfl) (VE.at (f := fun _ => none) (fun _ _ _ _ _ _ _ _ _ z => by cases z) (ρ := ρ) rfl)).at (by simp only [pE_same, Option.bind_some, if_true])
  | false => exact (ve_if ht (VE.at (f := fun _ => none) (fun _ _ _ _ _ _ _ _ _ z => by cases z) (ρ := ρ) rfl) (hb rfl)).at (by simp [pE_same])
theorem p_chain {r r' : R2} {h1 h2 : List PyData → Option PyData} {a b : Bool} (v1 : VFf K (r2l r) h1) (v2 : VFf K (r2l r') h2) (ha : PV K ta ρ d1 k1) (hb : PV K tb ρ d2 k2) (hc : PV K tc ρ d3 k3) (e1 : h1 [d1, d2] = some (.bool a)) (e2 : h2 [d2, d3] = some (.bool b)) : PV K (tChain r r' ta tb tc) ρ (.bool (a && b)) (.mv []) :=
  (ve_chain v1 v2 ha hb hc).at (by
    unfold eChain
    rw [pE_same, pE_same, pE_same]
    cases a <;> simp [e1, e2, bOf])
/-! ### tests -/
theorem t_val {b : Bool} (h : PV K te ρ (.bool b) k) : PT' K (tTest te) ρ b := (vt_test h).at (by unfold tVal; rw [pE_same]; rfl)
theorem t_valE {o : Option Bool} (h : EV K te ρ o .bool k) : TV K (tTest te) ρ o := (vt_test h).at (by unfold tVal; rw [pE_same]; cases o <;> rfl)
theorem t_tru {b : Bool} (h : PV K te ρ d k) (hb : truD d = some b) : PT' K (fun σ H Q => te σ H fun x H' => ∃ k, TruV K x H' k ∧ Q k H') ρ b := (vt_tru h).at (by unfold tTru; rw [pE_same]; exact hb)
theorem truL {xs : List α} : truD (.list (xs.map e)) = some (!xs.isEmpty) := by cases xs <;> rfl
theorem truT {xs : List α} : truD (.tuple (xs.map e)) = some (!xs.isEmpty) := by cases xs <;> rfl
theorem t_and {a b : Bool} (h1 : PT' K tt ρ a) (h2 : a = true → PT' K tu ρ b) : PT' K (tAnd tt tu) ρ (a && b) := by
  cases a with
  | true => exact (vt_and h1 (h2 rfl)).at (by unfold tAndF; rw [pE_same, pE_same]; rfl)
  | false => exact (vt_and h1 (VT.at (f := fun _ => none) (fun _ _ _ _ _ _ _ _ z => by cases z) (ρ := ρ) rfl)).at (by unfold tAndF; rw [pE_same]; rfl)
theorem t_or {a b : Bool} (h1 : PT' K tt ρ a) (h2 : a = false → PT' K tu ρ b) : PT' K (tOr tt tu) ρ (a || b) := by
  cases a with
  | false => exact (vt_or h1 (h2 rfl)).at (by unfold tOrF; rw [pE_same, pE_same]; rfl)
  | true => exact (vt_or h1 (VT.at (f := fun _ => none) (fun _ _ _ _ _ _ _ _ z => by cases z) (ρ := ρ) rfl)).at (by unfold tOrF; rw [pE_same]; rfl)
theorem c_and {a : Bool} {ob : Option Bool} (h1 : PT' K tt ρ a) (h2 : a = true → TV K tu ρ ob) : TV K (tAnd tt tu) ρ (if a = true then ob else some false) := by
  cases a with
  | true => exact (vt_and h1 (h2 rfl)).at (by unfold tAndF; rw [pE_same, pE_same]; rfl)
  | false => exact (vt_and h1 (VT.at (f := fun _ => none) (fun _ _ _ _ _ _ _ _ z => by cases z) (ρ := ρ) rfl)).at (by unfold tAndF; rw [pE_same]; rfl)
theorem c_or {a : Bool} {ob : Option Bool} (h1 : PT' K tt ρ a) (h2 : a = false → TV K tu ρ ob) : TV K (tOr tt tu) ρ (if a = true then some true else ob) := by
  cases a with
  | false => exact (vt_or h1 (h2 rfl)).at (by unfold tOrF; rw [pE_same, pE_same]; rfl)
  | true => exact (vt_or h1 (VT.at (f := fun _ => none) (fun _ _ _ _ _ _ _ _ z => by cases z) (ρ := ρ) rfl)).at (by unfold tOrF; rw [pE_same]; rfl)
theorem t_not {a : Bool} (h1 : PT' K tt ρ a) : PT' K (tNot tt) ρ (!a) := (vt_not h1).at (by unfold tNotF; rw [pE_same]; rfl)
theorem c_not {o : Option Bool} (h1 : TV K tt ρ o) : TV K (tNot tt) ρ (o.map fun b => !b) := (vt_not h1).at (by unfold tNotF; rw [pE_same])
/-! ### lists, tuples -/
theorem p_tup (ha : PA' K t ρ ds k) (hl : ds.length ≤ 1000000) : PV K (tTupN t) ρ (.tuple ds) (tupK ds k) := (ve_tup ha).at (by unfold eApp gnTup; rw [pE_same]; simp [hl])
theorem p_tupF (ha : PA' K t ρ ds k) (hf : flatL ds = true) (hl : ds.length ≤ 1000000) : PV K (tTupN t) ρ (.tuple ds) (.mv []) := by
  have := p_tup ha hl
  unfold tupK at this
  rwa [if_pos hf] at this
theorem p_tupM (ha : PA' K t ρ ds (.mv L)) (hl : ds.length ≤ 1000000) : PV K (tTupN t) ρ (.tuple ds) (.mv L) := (p_tup ha hl).kd tupK_mv
theorem p_tupB (M : List Nat) (ha : PA' K t ρ ds k) (hl : ds.length ≤ 1000000) (hs : k.src.all M.contains = true) : PV K (tTupN t) ρ (.tuple ds) (.bo M) := (p_tup ha hl).kd (tupK_any hs)
theorem p_lst (ha : PA' K t ρ ds k) (hl : ds.length ≤ 1000000) : PV K (tLst t) ρ (.list ds) (lstK ds k) := (ve_lst ha).at (by unfold eApp gnLst; rw [pE_same]; simp [hl])
theorem p_lstF (ha : PA' K t ρ ds k) (hf : flatL ds = true) (hl : ds.length ≤ 1000000) : PV K (tLst t) ρ (.list ds) (.mv []) := by
  have := p_lst ha hl
  unfold lstK at this
  rwa [if_pos hf] at this
theorem p_lstM (ha : PA' K t ρ ds (.mv L)) (hl : ds.length ≤ 1000000) : PV K (tLst t) ρ (.list ds) (.mv L) := (p_lst ha hl).kd lstK_mv
theorem p_lstS (ha : PA' K t ρ ds (.bo L)) (hl : ds.length ≤ 1000000) : PV K (tLst t) ρ (.list ds) (.sp L) := (p_lst ha hl).kd (lstK_bo (by simp))
theorem atI_map {xs : List α} {i : Int} {a : α} (h : atI xs i = some a) : atI (xs.map e) i = some (e a) := by
  unfold atI at *
  rw [List.length_map]
  obtain ⟨n, h1, h2⟩ := Option.bind_eq_some_iff.mp h
  rw [h1, Option.bind_some, List.getElem?_map, h2]
  rfl
theorem p_ixD {x : Int} (h1 : PV K ta ρ d1 k1) (h2 : PV K tb ρ (.int x) (.mv [])) (h : dAt d1 x = some d) : PV K (tOp (rIx K) ta tb) ρ d (datK d (aj k1 (.mv []))) := p_op vf_ix h1 h2 (by rw [gIx_eq, h, datsK_eq]; simp)
theorem p_ixF {x : Int} (h1 : PV K ta ρ d1 k1) (h2 : PV K tb ρ (.int x) (.mv [])) (h : dAt d1 x = some d) (hf : flat d = true) : PV K (tOp (rIx K) ta tb) ρ d (.mv []) := (p_ixD h1 h2 h).flat hf
theorem p_ixB {x : Int} (M : List Nat) (h1 : PV K ta ρ d1 k1) (h2 : PV K tb ρ (.int x) (.mv [])) (h : dAt d1 x = some d) (hs : k1.src.all M.contains = true) : PV K (tOp (rIx K) ta tb) ρ d (.bo M) := by
  refine (p_ixD h1 h2 h).kd (datK_any ?_)
  cases k1 <;> simpa [aj, Kd.src] using hs
theorem p_ixM {x : Int} (h1 : PV K ta ρ d1 (.mv L)) (h2 : PV K tb ρ (.int x) (.mv [])) (h : dAt d1 x = some d) : PV K (tOp (rIx K) ta tb) ρ d (.mv L) := by
  have := (p_ixD h1 h2 h)
  rw [aj_nil2] at this
  exact this.kd datK_mv
theorem ixL {xs : List α} {i : Int} {a : α} (h : atI xs i = some a) : dAt (.list (xs.map e)) i = some (e a) := atI_map h
theorem ixT {xs : List α} {i : Int} {a : α} (h : atI xs i = some a) : dAt (.tuple (xs.map e)) i = some (e a) := atI_map h
theorem o_no : PO' K tNoPart ρ none := vo_no.at rfl
theorem o_part {x : Int} (h : PV K te ρ (.int x) k) : PO' K (tPart te) ρ (some x) := (vo_part h).at (by unfold oPart; rw [pE_same]; rfl)
theorem cutD_map {xs : List α} {lo hi : Option Int} : cutD (xs.map e) lo hi = (cutI xs lo hi).map e := by
  unfold cutD cutI
  rw [List.length_map, List.map_take, List.map_drop]
theorem p_slD {lo hi : Option Int} (h1 : PV K ta ρ d1 k1) (h2 : PO' K to ρ lo) (h3 : PO' K tp ρ hi) (h : slD d1 k1 lo hi = some (d, k)) : PV K (tSl (rSlAny K) ta to tp) ρ d k := (ve_slice h1 h2 h3).at (by
  unfold eSl
  rw [pE_same, pE_same, pE_same]
  exact h)
theorem p_slLF [Flat e] {xs : List α} {lo hi : Option Int} (h1 : PV K ta ρ (.list (xs.map e)) k1) (h2 : PO' K to ρ lo) (h3 : PO' K tp ρ hi) : PV K (tSl (rSlAny K) ta to tp) ρ (.list ((cutI xs lo hi).map e)) (.mv []) :=
  p_slD h1 h2 h3 (by rw [slD_l, cutD_map, lstK.eq_def, if_pos flatL_map])
theorem p_slTF [Flat e] {xs : List α} {lo hi : Option Int} (h1 : PV K ta ρ (.tuple (xs.map e)) k1) (h2 : PO' K to ρ lo) (h3 : PO' K tp ρ hi) : PV K (tSl (rSlAny K) ta to tp) ρ (.tuple ((cutI xs lo hi).map e)) (.mv []) :=
  p_slD h1 h2 h3 (by rw [slD_t, cutD_map, tupK.eq_def, if_pos flatL_map])
theorem p_slLS {xs : List α} {lo hi : Option Int} (M : List Nat) (h1 : PV K ta ρ (.list (xs.map e)) k1) (h2 : PO' K to ρ lo) (h3 : PO' K tp ρ hi) (hs : k1.src.all M.contains = true) : PV K (tSl (rSlAny K) ta to tp) ρ (.list ((cutI xs lo hi).map e)) (.sp M) := by
  have h1' := h1.bo k1.src (by simp)
  refine PV.kd (p_slD h1' h2 h3 (by rw [slD_l, cutD_map])) (lstK_bo hs)
/-- a slice of a written tuple -/
theorem p_slW {ds es : List PyData} {lo hi : Option Int} (h1 : PV K ta ρ (.tuple ds) k1) (h2 : PO' K to ρ lo) (h3 : PO' K tp ρ hi) (h : cutD ds lo hi = es) (hf : flatL es = true) : PV K (tSl (rSlAny K) ta to tp) ρ (.tuple es) (.mv []) :=
  p_slD h1 h2 h3 (by rw [slD_t, h, tupK.eq_def, if_pos hf])
theorem p_slS {x : Str} {lo hi : Option Int} (h1 : PV K ta ρ (.str x) k1) (h2 : PO' K to ρ lo) (h3 : PO' K tp ρ hi) (hl : x.length ≤ 1000000) : PV K (tSl (rSlAny K) ta to tp) ρ (.str (cutS x lo hi)) (.mv []) :=
  p_slD h1 h2 h3 (by unfold slD; simp only [if_pos hl])
/-! ### built-ins -/
theorem p_cb {r : List V → Hp → VK → Prop} {h : List PyData → Option PyData} (vf : VFf K r h) (ha : PA' K t ρ ds k) (hg : h ds = some d) : PV K (tCB r t) ρ d (.mv []) := (ve_call_b (vf_f vf) ha).at (by unfold eApp; rw [pE_same]; simp [gF, hg])
theorem p_cg {r : List V → Hp → VK → Prop} {g : Gn} (vf : VF K r g) (ha : PA' K t ρ ds k1) (hg : g ds k1 = some (d, k)) : PV K (tCB r t) ρ d k := (ve_call_b vf ha).at (by unfold eApp; rw [pE_same]; exact hg)
theorem lenL {xs : List α} : hLen [.list (xs.map e)] = some (.int (xs.length : Nat)) := by rw [hLen_l, List.length_map]
theorem lenT {xs : List α} : hLen [.tuple (xs.map e)] = some (.int (xs.length : Nat)) := by rw [hLen_t, List.length_map]
theorem lenS {x : Str} {u : Unit} (h : chk (decide (x.length ≤ 1000000)) = some u) : hLen [.str x] = some (.int (x.length : Nat)) := by rw [hLen_s, if_pos (by simpa using chk_some h)]
theorem sumL {xs : List Int} : hSum [.list (xs.map .int)] = some (.int xs.sum) := by simp [hSum]
theorem anyL {xs : List Bool} : hAny [.list (xs.map .bool)] = some (.bool (xs.any id)) := by simp [hAny]
theorem allL {xs : List Bool} : hAll [.list (xs.map .bool)] = some (.bool (xs.all id)) := by simp [hAll]
theorem maxL {xs : List Int} {z : Int} (h : maxO xs = some z) : hMax [.list (xs.map .int)] = some (.int z) := by
  cases xs with
  | nil => cases h
  | cons x xs =>
    cases h
    simp only [hMax, intsOf_map, Option.bind_some]
    rfl
theorem minL {xs : List Int} {z : Int} (h : minO xs = some z) : hMin [.list (xs.map .int)] = some (.int z) := by
  cases xs with
  | nil => cases h
  | cons x xs =>
    cases h
    simp only [hMin, intsOf_map, Option.bind_some]
    rfl
theorem strI {x : Int} {z : Str} (h : strO x = some z) : hStr [.int x] = some (.str z) := by
  unfold strO at h
  split at h
  · cases h
    rw [hStr_i, if_pos (by assumption)]
  · cases h
theorem reprD {z : Str} (h : reprO d = some z) : hRepr [d] = some (.str z) := by
  unfold reprO at h
  split at h
  · cases h
    rw [hRepr_eq, if_pos (by assumption)]
  · cases h
theorem p_sortL [DecidableEq α] {lt : α → α → Bool} {ok : α → Bool} {n : Nat} [LtE e lt] [Flat e] [Shp e n] [SrtE e ok] {xs zs : List α} (ha : PA' K t ρ [.list (xs.map e)] k) (h : sortO lt ok xs = some zs) (hn : n ≤ 60) : PV K (tCB (rSortedD K) t) ρ (.list (zs.map e)) (.mv []) := by
  unfold sortO at h
  split at h
  · cases h
    exact p_cg vf_sorted ha (by rw [hSorted_l, hSortD_map hn (by assumption), sortK_eq])
  · cases h
theorem p_sortT [DecidableEq α] {lt : α → α → Bool} {ok : α → Bool} {n : Nat} [LtE e lt] [Flat e] [Shp e n] [SrtE e ok] {xs zs : List α} (ha : PA' K t ρ [.tuple (xs.map e)] k) (h : sortO lt ok xs = some zs) (hn : n ≤ 60) : PV K (tCB (rSortedD K) t) ρ (.list (zs.map e)) (.mv []) := by
  unfold sortO at h
  split at h
  · cases h
    exact p_cg vf_sorted ha (by rw [hSorted_t, hSortD_map hn (by assumption), sortK_eq])
  · cases h
/-- where every value may be sorted -/
theorem sortO_all {lt : α → α → Bool} {xs : List α} : sortO lt okT xs = some (sortI lt xs) := if_pos (by simp [okT])
theorem p_listF [Flat e] {xs : List α} (ha : PA' K t ρ [d] k) (hd : iterD d = some (xs.map e)) : PV K (tCB (fun xs H Q => ∃ p ys, xs = [.ref p] ∧ (SqL K H p ys ∨ SqT K H p ys) ∧ ∀ l, H l = none → Q (.ref l) (upd H l (.lst ys))) t) ρ (.list (xs.map e)) (.mv []) := p_cg vf_list ha (by
  cases d <;> cases hd
  · rw [gList_l, lstK.eq_def, if_pos flatL_map]
  · rw [gList_t, lstK.eq_def, if_pos flatL_map])
theorem p_tupleF [Flat e] {xs : List α} (ha : PA' K t ρ [d] k) (hd : iterD d = some (xs.map e)) : PV K (tCB (fun xs H Q => ∃ p ys, xs = [.ref p] ∧ ((SqL K H p ys ∧ ∀ (l : Addr) (o : Obj), o.dict = none → H l = none → Q (.ref l) (upd H l (.frz o (.tup ys)))) ∨ (SqT K H p ys ∧ Q (.ref p) H))) t) ρ (.tuple (xs.map e)) (.mv []) := p_cg vf_tuple ha (by
  cases d <;> cases hd
  · rw [gTuple_l, tupK.eq_def, if_pos flatL_map]
  · rw [gTuple_t, tupK.eq_def, if_pos flatL_map])
theorem p_listM {xs : List α} (ha : PA' K t ρ [d] (.mv L)) (hd : iterD d = some (xs.map e)) : PV K (tCB (fun xs H Q => ∃ p ys, xs = [.ref p] ∧ (SqL K H p ys ∨ SqT K H p ys) ∧ ∀ l, H l = none → Q (.ref l) (upd H l (.lst ys))) t) ρ (.list (xs.map e)) (.mv L) := by
  refine PV.kd (k := lstK (xs.map e) (.mv L)) (p_cg vf_list ha ?_) lstK_mv
  cases d <;> cases hd
  · rw [gList_l]
  · rw [gList_t]
theorem p_listS {xs : List α} (ha : PA' K t ρ [d] (.bo L)) (hd : iterD d = some (xs.map e)) : PV K (tCB (fun xs H Q => ∃ p ys, xs = [.ref p] ∧ (SqL K H p ys ∨ SqT K H p ys) ∧ ∀ l, H l = none → Q (.ref l) (upd H l (.lst ys))) t) ρ (.list (xs.map e)) (.sp L) := by
  refine PV.kd (k := lstK (xs.map e) (.bo L)) (p_cg vf_list ha ?_) (lstK_bo (by simp))
  cases d <;> cases hd
  · rw [gList_l]
  · rw [gList_t]
theorem p_isi (T : String) (hT : isiOk T = true) {b : Bool} (h : PV K te ρ d k) (hb : isiD T d = b) (hw : isW d = false) : PV K (tCB (rIsi K) (tCons te (tCons (tC (.ty T)) tNil))) ρ (.bool b) (.mv []) := (ve_isi T hT h).at (by unfold eIsi; rw [pE_same]; simp [hb, hw])
theorem p_join {s z : Str} {xs : List Str} (h1 : PV K ta ρ (.str s) k1) (h2 : PV K tb ρ (.list (xs.map .str)) k2) (h : joinO s xs = some z) : PV K (tM1 (rJoin K) ta tb) ρ (.str z) (.mv []) := (ve_join h1 h2).at (by
  unfold eM1
  rw [pE_same, pE_same]
  unfold joinO at h
  split at h
  · rename_i hc
    cases h
    simp [joinD, hc]
  · cases h)
/-! ### what is walked -/
theorem i_range1 {n : Int} {xs : List Int} (ha : PA' K t ρ [.int n] k) (h : range1 n = some xs) : PI' K (iRng1 t) ρ (xs.map .int) (.mv []) := (vi_range1 ha).at (by
  unfold iR1
  rw [pE_same]
  unfold range1 at h
  split at h
  · rename_i hc
    cases h
    simp [hc, intsFrom, rangeI]
  · cases h)
theorem i_range2 {a b : Int} {xs : List Int} (ha : PA' K t ρ [.int a, .int b] k) (h : range2 a b = some xs) : PI' K (iRng2 t) ρ (xs.map .int) (.mv []) := (vi_range2 ha).at (by
  unfold iR2
  rw [pE_same]
  unfold range2 at h
  split at h
  · rename_i hc
    cases h
    simp [hc, intsFrom, rangeI]
  · cases h)
theorem i_seq {xs : List α} (h : PV K te ρ d k) (hd : iterD d = some (xs.map e)) : PI' K (iAny K te) ρ (xs.map e) k := (vi_seq h).at (by unfold iSeq; rw [pE_same]; simp [hd])
theorem enumD_map : ∀ {xs : List α} {n : Nat}, enumD (xs.map e) n = (enumI xs (n : Int)).map (EW (E2 PyData.int e))
  | [], _ => rfl
  | x :: xs, n => by
    rw [List.map_cons, enumD, enumD_map (xs := xs) (n := n + 1), enumI]
    simp [E2, EW, wrap]
theorem i_enum {xs : List α} (ha : PA' K t ρ [d] k) (hd : iterD d = some (xs.map e)) : PI' K (EnT.iEnumA K t) ρ ((enumI xs 0).map (EW (E2 PyData.int e))) k := (vi_enum ha).at (by
  unfold iEn
  rw [pE_same]
  have := enumD_map (e := e) (xs := xs) (n := 0)
  cases d <;> cases hd <;> simp only [Option.bind_some] <;> rw [this] <;> rfl)
theorem zipD_map {f : β → PyData} : ∀ {xs : List α} {ys : List β}, zipD (xs.map e) (ys.map f) = (xs.zip ys).map (EW (E2 e f))
  | [], _ => rfl
  | x :: xs, [] => rfl
  | x :: xs, y :: ys => by
    rw [List.map_cons, List.map_cons, zipD, zipD_map, List.zip_cons_cons]
    rfl
theorem i_zipL {f : β → PyData} {xs : List α} {ys : List β} (ha : PA' K t ρ [.list (xs.map e), .list (ys.map f)] k) : PI' K (RZ.iZipA K t) ρ ((xs.zip ys).map (EW (E2 e f))) k := (vi_zip ha).at (by
  unfold iZp
  rw [pE_same]
  simp only [Option.bind_some]
  rw [zipD_map])
theorem i_zipT {f : β → PyData} {xs : List α} {ys : List β} (ha : PA' K t ρ [.tuple (xs.map e), .tuple (ys.map f)] k) : PI' K (RZ.iZipA K t) ρ ((xs.zip ys).map (EW (E2 e f))) k := (vi_zip ha).at (by
  unfold iZp
  rw [pE_same]
  simp only [Option.bind_some]
  rw [zipD_map])
end
end Va

/-! Vt5: statements at told slots; loops; comprehensions; defs. -/
namespace Va
open Classical
open PySem L2 PyProof.Rows PySem.W PySem.Calls

/-- a plain program n tells how the block ends -/
abbrev TB (K : PySem.W.Frag) (Wx : WxT) (wr : List Nat) (ts : TS) (ρ : Env) {β : Type} (n : Option β) (out : β → Out) : Prop := VS K Wx wr ts (pE ρ (n.map out))
section
variable {α β γ τ R : Type}
@[reducible] def oN (E : τ → Env) : τ → Out := fun s => .nx (E s)
@[reducible] def oR (e : R → PyData) (r : Nat) : R → Out := fun x => .rt (e x) r
def oC (E : τ → Env) (e : R → PyData) (r : Nat) : Ctl τ R → Out
  | .nx s => .nx (E s)
  | .bk s => .bk (E s)
  | .ct s => .ct (E s)
  | .rt x => .rt (e x) r
def oS (E : τ → Env) (e : R → PyData) (r : Nat) : Res τ R → Out
  | .on s => .nx (E s)
  | .rt x => .rt (e x) r
def NX : Out → Prop
  | .nx _ => False
  | _ => True
/-- no path of it goes on -/
def NB (n : Option β) (out : β → Out) : Prop := ∀ b, n = some b → NX (out b)
theorem nb_bind {o : Option γ} {f : γ → Option β} {out : β → Out} (h : ∀ c, NB (f c) out) : NB (o.bind f) out := fun b e => by
  obtain ⟨c, _, e2⟩ := Option.bind_eq_some_iff.mp e
  exact h c b e2
theorem nb_let {a : γ} {f : γ → Option β} {out : β → Out} (h : ∀ c, NB (f c) out) : NB (letO a f) out := h a
theorem nb_if {b : Bool} {x y : Option β} {out : β → Out} (h : NB x out) (k : NB y out) : NB (if b = true then x else y) out := by
  cases b
  · exact k
  · exact h
theorem nb_some {b : β} {out : β → Out} (h : NX (out b)) : NB (some b) out := fun c e => by cases e; exact h
theorem nb_rt {n : Option R} {e : R → PyData} {r : Nat} : NB n (oR e r) := fun b _ => trivial
variable {K : PySem.W.Frag} {Wx : WxT} {wr wr' wb ns : List Nat} {ts t u v tb : TS} {te ta ti : TE} {tc : TT} {ρ ρ1 : Env} {out : β → Out} {d : PyData} {k k2 : Kd} {e : α → PyData} {kl : List Nat} {i m : Nat}
/-! ### blocks -/
theorem s_bind {o : Option γ} {f : γ → Option β} (h : ∀ c, o = some c → TB K Wx wr ts ρ (f c) out) : TB K Wx wr ts ρ (o.bind f) out := fun B AF σ H ρ' Fs d S e D p => by
  obtain ⟨e0, e1⟩ := pE_some e
  subst e0
  rw [Option.map_bind] at e1
  obtain ⟨b, e2, e3⟩ := Option.bind_eq_some_iff.mp e1
  exact h b e2 B AF σ H _ Fs d S (pE_same.trans e3) D p
theorem s_let {a : γ} {f : γ → Option β} (h : ∀ x, x = a → TB K Wx wr ts ρ (f x) out) : TB K Wx wr ts ρ (letO a f) out := h a rfl
theorem p_is {x a : α} (hx : x = a) (h : PV K te ρ (e a) k) : PV K te ρ (e x) k := by subst hx; exact h
theorem s_seq {o : Option Out} (h1 : VS K Wx wr t (pE ρ (some (.nx ρ1)))) (h2 : VS K Wx wr' u (pE ρ1 o)) : VS K Wx (wr ++ wr') (tSeq t u) (pE ρ o) := (vs_seq h1 h2).at (by
  unfold sSeq
  rw [pE_same]
  exact pE_same)
theorem s_seqO {c : Option τ} {g : τ → Option β} {E : τ → Env} (h1 : TB K Wx wr t ρ c (oN E)) (h2 : ∀ s, TB K Wx wr' u (E s) (g s) out) : TB K Wx (wr ++ wr') (tSeq t u) ρ (c.bind g) out := by
  cases c with
  | none =>
    intro B AF σ H ρ' Fs d S e D p
    obtain ⟨e0, e1⟩ := pE_some e
    cases e1
  | some s => exact s_seq h1 (h2 s)
theorem s_seqR {c : Option (Res τ R)} {g : τ → Option β} {E : τ → Env} {eR : R → PyData} {r : Nat} {ret : R → Option β} (h1 : TB K Wx wr t ρ c (oS E eR r)) (h2 : ∀ s, TB K Wx wr' u (E s) (g s) out) (hr : ∀ x, (ret x).map out = some (.rt (eR x) r)) : TB K Wx (wr ++ wr') (tSeq t u) ρ (resK c g ret) out := by
  cases c with
  | none =>
    intro B AF σ H ρ' Fs d S e D p
    obtain ⟨e0, e1⟩ := pE_some e
    cases e1
  | some s =>
    cases s with
    | on s => exact s_seq h1 (h2 s)
    | rt x =>
      have h2' : VS K Wx wr' u (fun _ => none) := fun _ _ _ _ _ _ _ _ e => by cases e
      refine (vs_seq h1 h2').at ?_
      unfold sSeq
      rw [pE_same]
      show some (Out.rt (eR x) r) = _
      rw [← hr x]
      rfl
theorem s_if {b : Bool} {n1 n2 : Option β} (hc : PT' K tc ρ b) (h1 : b = true → TB K Wx wr t ρ n1 out) (h2 : b = false → TB K Wx wr' u ρ n2 out) : TB K Wx (wr ++ wr') (tIfS tc t u) ρ (if b = true then n1 else n2) out := by
  have nv : ∀ {w : List Nat} {s : TS}, VS K Wx w s (fun _ => none) := fun _ _ _ _ _ _ _ _ e => by cases e
  cases b with
  | true => exact (vs_if hc (h1 rfl) nv).at (by unfold sIf; rw [pE_same, Option.bind_some, if_pos rfl, pE_same, if_pos rfl])
  | false => exact (vs_if hc nv (h2 rfl)).at (by unfold sIf; rw [pE_same, Option.bind_some, if_neg Bool.false_ne_true, pE_same, if_neg Bool.false_ne_true])
/-- if .. that leaves; then the rest -/
theorem s_exit {n : Option β} (h : TB K Wx wr t ρ n out) (x : NB n out) : TB K Wx (wr ++ wr') (tSeq t u) ρ n out := by
  have nv : VS K Wx wr' u (fun _ => none) := fun _ _ _ _ _ _ _ _ e => by cases e
  refine (vs_seq h nv).at ?_
  unfold sSeq
  rw [pE_same]
  cases n with
  | none => rfl
  | some b =>
    have := x b rfl
    show (match out b with
      | .nx ρ' => _
      | o => some o) = some (out b)
    cases ho : out b with
    | nx ρ' => rw [ho] at this; exact this.elim
    | bk ρ' => rfl
    | ct ρ' => rfl
    | rt d r => rfl
    | ex c fs => rfl
theorem s_ifX {b : Bool} {n1 n2 : Option β} (hc : PT' K tc ρ b) (h1 : b = true → TB K Wx wr t ρ n1 out) (x1 : NB n1 out) (h2 : b = false → TB K Wx wr' (tSeq u v) ρ n2 out) : TB K Wx (wr ++ wr') (tSeq (tIfS tc t u) v) ρ (if b = true then n1 else n2) out := by
  intro B AF σ H ρ' Fs o S e D p
  obtain ⟨e0, e1⟩ := pE_some e
  subst e0
  refine hc B AF σ H _ Fs b S pE_same _ fun H1 g1 => ?_
  cases b with
  | true =>
    rw [if_pos rfl] at e1 ⊢
    exact s_exit (wr' := []) (u := v) (h1 rfl) x1 B AF σ H1 _ Fs o (S.grow g1) (pE_same.trans e1) D (p.pre (Fr.grow (wr := []) g1) fun i hi => by
      simp only [List.nil_append, List.append_nil] at hi
      exact List.mem_append_left _ hi)
  | false =>
    rw [if_neg Bool.false_ne_true] at e1 ⊢
    exact h2 rfl B AF σ H1 _ Fs o (S.grow g1) (pE_same.trans e1) D (p.pre (Fr.grow (wr := []) g1) fun i hi => List.mem_append_right _ (by simpa using hi))
theorem s_ifY {b : Bool} {n1 n2 : Option β} (hc : PT' K tc ρ b) (h1 : b = true → TB K Wx wr (tSeq t v) ρ n1 out) (h2 : b = false → TB K Wx wr' u ρ n2 out) (x2 : NB n2 out) : TB K Wx (wr ++ wr') (tSeq (tIfS tc t u) v) ρ (if b = true then n1 else n2) out := by
  intro B AF σ H ρ' Fs o S e D p
  obtain ⟨e0, e1⟩ := pE_some e
  subst e0
  refine hc B AF σ H _ Fs b S pE_same _ fun H1 g1 => ?_
  cases b with
  | true =>
    rw [if_pos rfl] at e1 ⊢
    exact h1 rfl B AF σ H1 _ Fs o (S.grow g1) (pE_same.trans e1) D (p.pre (Fr.grow (wr := []) g1) fun i hi => List.mem_append_left _ (by simpa using hi))
  | false =>
    rw [if_neg Bool.false_ne_true] at e1 ⊢
    exact s_exit (wr' := []) (u := v) (h2 rfl) x2 B AF σ H1 _ Fs o (S.grow g1) (pE_same.trans e1) D (p.pre (Fr.grow (wr := []) g1) fun i hi => by
      simp only [List.nil_append, List.append_nil] at hi
      exact List.mem_append_right _ hi)
theorem s_skip {o : Option Out} (h : VS K Wx wr u (pE ρ o)) : VS K Wx ([] ++ wr) (tSeq tNext u) (pE ρ o) := s_seq (VS.at vs_next rfl) h
theorem s_next : VS K Wx ([] : List Nat) tNext (pE ρ (some (.nx ρ))) := VS.at vs_next rfl
theorem s_break : VS K Wx ([] : List Nat) tBreak (pE ρ (some (.bk ρ))) := VS.at vs_break rfl
theorem s_cont : VS K Wx ([] : List Nat) tCont (pE ρ (some (.ct ρ))) := VS.at vs_cont rfl
/-! ### statements -/
theorem s_set (kl : List Nat) (i : Nat) (h : PV K te ρ d k) (hi : Nat.blt i ρ.length = true) (hρ : (giv kl k ρ).1.set i (some (d, (giv kl k ρ).2)) = ρ1) : VS K Wx (i :: kl) (tAsg te (gName i)) (pE ρ (some (.nx ρ1))) := (vs_set kl i h).at (by
  unfold sSet
  rw [pE_same, Option.bind_some, if_pos (by simpa using hi), hρ])
theorem s_asgT {g : TG} {st : SG} (hg : VG K ns g st) (h : PV K te ρ d k) (hs : st d (dem k.src ρ) = some ρ1) : VS K Wx ns (tAsg te g) (pE ρ (some (.nx ρ1))) := (vs_asgT hg h).at (by
  unfold sAsgT
  rw [pE_same, Option.bind_some, hs]
  rfl)
theorem own_at {xs : List PyData} (h : ρ[i]? = some (some (.list xs, m))) (hm : m = 1 ∨ m = 2) (hk : k.src.contains i = false) : ownL i k ρ = some (xs, m) := by
  rw [ownL_eq, h, hk]
  unfold ownQ
  simp [hm]
theorem appO_of {xs zs : List α} {x : α} (h : appO xs x = some zs) : xs.length < 1000000 ∧ zs = xs ++ [x] := by
  unfold appO at h
  split at h
  · cases h; exact ⟨by assumption, rfl⟩
  · cases h
theorem s_app (kl : List Nat) (i : Nat) {xs zs : List α} {x : α} (h : PV K te ρ (e x) k) (hx : ρ[i]? = some (some (.list (xs.map e), m))) (hm : m = 1 ∨ m = 2) (hk : k.src.contains i = false) (ha : appO xs x = some zs) (hρ : (giv kl k ρ).1.set i (some (.list (zs.map e), mutM m (giv kl k ρ).2)) = ρ1) :
    VS K Wx (i :: kl) (tDrop (tBM K "list" rAppend (tVar i) (tCons te tNil))) (pE ρ (some (.nx ρ1))) := (vs_append kl i h).at (by
  obtain ⟨hl, rfl⟩ := appO_of ha
  unfold sMutL
  rw [pE_same, Option.bind_some, own_at hx hm hk, Option.bind_some, hApp_eq, List.length_map, if_pos hl, ← hρ]
  simp [mutE])
theorem s_ext (kl : List Nat) (i : Nat) {xs ys zs : List α} (h : PV K te ρ (.list (ys.map e)) k) (hx : ρ[i]? = some (some (.list (xs.map e), m))) (hm : m = 1 ∨ m = 2) (hk : k.src.contains i = false) (ha : extO xs ys = some zs) (hρ : (giv kl k ρ).1.set i (some (.list (zs.map e), mutM m (giv kl k ρ).2)) = ρ1) :
    VS K Wx (i :: kl) (tDrop (tBM K "list" rExtend (tVar i) (tCons te tNil))) (pE ρ (some (.nx ρ1))) := (vs_extend kl i h).at (by
  unfold extO at ha
  split at ha
  case isFalse => cases ha
  rename_i hl
  cases ha
  unfold sExt
  rw [pE_same, Option.bind_some]
  simp only
  rw [own_at hx hm hk, Option.bind_some, List.length_map, List.length_map, if_pos hl, ← hρ]
  simp [mutE])
theorem s_idx (kl : List Nat) (i : Nat) {xs zs : List α} {x : α} {j : Int} (h : PV K te ρ (e x) k) (hj : PV K ti ρ (.int j) k2) (hx : ρ[i]? = some (some (.list (xs.map e), m))) (hm : m = 1 ∨ m = 2) (hk : k.src.contains i = false) (ha : setO xs j x = some zs) (hρ : (giv kl k ρ).1.set i (some (.list (zs.map e), mutM m (giv kl k ρ).2)) = ρ1) :
    VS K Wx (i :: kl) (tAsg te (gSub (tVar i) ti rSetL)) (pE ρ (some (.nx ρ1))) := (vs_idx kl i h hj).at (by
  obtain ⟨n, h1, rfl⟩ := Option.map_eq_some_iff.mp ha
  unfold sIdx
  rw [pE_same, pE_same, Option.bind_some, Option.bind_some]
  simp only
  rw [own_at hx hm hk, Option.bind_some, List.length_map, h1, ← hρ]
  simp [mutE, List.map_set])
def set2O (xs : List (List α)) (a b : Int) (v : α) : Option (List (List α)) := (atI xs a).bind fun ys => (setO ys b v).bind fun zs => setO xs a zs
def ap2O (xs : List (List α)) (a : Int) (v : α) : Option (List (List α)) := (atI xs a).bind fun ys => (appO ys v).bind fun zs => setO xs a zs
theorem ownA_at (h : ρ[i]? = some (some (d, 2))) (hk : k.src.contains i = false) (hg : (giv kl k ρ).2 = 2) : ownA i kl k ρ = some d := by
  unfold ownA
  rw [h]
  simp only
  rw [if_pos ⟨trivial, by simpa using hk, hg⟩]
theorem inner_at {xs : List (List α)} {a : Int} {ys : List α} {n : Nat} (h1 : ixN xs.length a = some n) (h2 : xs[n]? = some ys) : inner (.list (xs.map fun ys => PyData.list (ys.map e))) a = some (n, ys.map e) := by
  unfold inner
  simp only [List.length_map]
  rw [h1]
  simp [h2]
theorem atI_ix {xs : List α} {a : Int} {x : α} (h : atI xs a = some x) : ∃ n, ixN xs.length a = some n ∧ xs[n]? = some x := Option.bind_eq_some_iff.mp h
theorem s_idx2 (kl : List Nat) (i : Nat) {xs zs : List (List α)} {x : α} {a b : Int} (h : PV K te ρ (e x) k) (ha : PV K ta ρ (.int a) k2) (hb : PV K ti ρ (.int b) k3) (hx : ρ[i]? = some (some (.list (xs.map (EL e)), 2))) (hk : k.src.contains i = false) (hg : (giv kl k ρ).2 = 2) (hs : set2O xs a b x = some zs) (hρ : (giv kl k ρ).1.set i (some (.list (zs.map (EL e)), 2)) = ρ1) :
    VS K Wx (i :: kl) (tAsg te (gSub (tOp (rIx K) (tVar i) ta) ti rSetL)) (pE ρ (some (.nx ρ1))) := (vs_idx2 kl i h ha hb).at (by
  obtain ⟨ys, h1, h2⟩ := Option.bind_eq_some_iff.mp hs
  obtain ⟨ws, h3, h4⟩ := Option.bind_eq_some_iff.mp h2
  obtain ⟨n, h5, h6⟩ := atI_ix h1
  obtain ⟨p, h7, rfl⟩ := Option.map_eq_some_iff.mp h3
  obtain ⟨n', h8, rfl⟩ := Option.map_eq_some_iff.mp h4
  rw [h5] at h8
  cases h8
  unfold sIdx2
  rw [pE_same, pE_same, pE_same, Option.bind_some, Option.bind_some, Option.bind_some]
  simp only
  rw [ownA_at hx hk hg, Option.bind_some, inner_at (e := e) h5 h6, Option.bind_some]
  simp only [List.length_map]
  rw [h7, ← hρ]
  simp [mutIn, putIn, List.map_set, EL])
theorem s_app2 (kl : List Nat) (i : Nat) {xs zs : List (List α)} {x : α} {a : Int} (h : PV K te ρ (e x) k) (ha : PV K ta ρ (.int a) k2) (hx : ρ[i]? = some (some (.list (xs.map (EL e)), 2))) (hk : k.src.contains i = false) (hg : (giv kl k ρ).2 = 2) (hs : ap2O xs a x = some zs) (hρ : (giv kl k ρ).1.set i (some (.list (zs.map (EL e)), 2)) = ρ1) :
    VS K Wx (i :: kl) (tDrop (tBM K "list" rAppend (tOp (rIx K) (tVar i) ta) (tCons te tNil))) (pE ρ (some (.nx ρ1))) := (vs_app2 kl i h ha).at (by
  obtain ⟨ys, h1, h2⟩ := Option.bind_eq_some_iff.mp hs
  obtain ⟨ws, h3, h4⟩ := Option.bind_eq_some_iff.mp h2
  obtain ⟨n, h5, h6⟩ := atI_ix h1
  obtain ⟨hl, rfl⟩ := appO_of h3
  obtain ⟨n', h8, rfl⟩ := Option.map_eq_some_iff.mp h4
  rw [h5] at h8
  cases h8
  unfold sApp2
  rw [pE_same, pE_same, Option.bind_some, Option.bind_some]
  simp only
  rw [ownA_at hx hk hg, Option.bind_some, inner_at (e := e) h5 h6, Option.bind_some]
  simp only [List.length_map]
  rw [if_pos hl, ← hρ]
  simp [mutIn, putIn, List.map_set, EL])
/-- .. of a written tuple's list -/
theorem s_app2D (kl : List Nat) (i : Nat) {n : Nat} {ys : List α} {zs : List α} {x : α} {a : Int} (h : PV K te ρ (e x) k) (ha : PV K ta ρ (.int a) k2) (hx : ρ[i]? = some (some (d, 2))) (hk : k.src.contains i = false) (hg : (giv kl k ρ).2 = 2) (hin : inner d a = some (n, ys.map e)) (hs : appO ys x = some zs) (hρ : (giv kl k ρ).1.set i (some (putIn d n (.list (zs.map e)), 2)) = ρ1) :
    VS K Wx (i :: kl) (tDrop (tBM K "list" rAppend (tOp (rIx K) (tVar i) ta) (tCons te tNil))) (pE ρ (some (.nx ρ1))) := (vs_app2 kl i h ha).at (by
  obtain ⟨hl, rfl⟩ := appO_of hs
  unfold sApp2
  rw [pE_same, pE_same, Option.bind_some, Option.bind_some]
  simp only
  rw [ownA_at hx hk hg, Option.bind_some, hin, Option.bind_some]
  simp only [List.length_map]
  rw [if_pos hl, ← hρ]
  simp [mutIn])
theorem s_aug {x y : Int} {fn : Int → Int → Int} (i : Nat) (h : PV K te ρ (.int y) k) (hx : ρ[i]? = some (some (.int x, m))) (hρ : ρ.set i (some (.int (fn x y), 2)) = ρ1) : VS K Wx [i] (tAug i te (ipI fn)) (pE ρ (some (.nx ρ1))) := (vs_aug i h).at (by
  unfold sAug
  rw [hx]
  simp only
  rw [pE_same, Option.bind_some]
  simp only
  rw [hρ])
theorem s_drop (h : PV K te ρ d k) : VS K Wx ([] : List Nat) (tDrop te) (pE ρ (some (.nx ρ))) := (vs_drop h).at (by
  unfold sDrop
  rw [pE_same]
  rfl)
def spoilO (xs : List (List α)) (c : α) : Option (List (List α)) := if xs.all (fun ys => decide (ys.length < 1000000)) = true then some (xs.map fun ys => ys ++ [c]) else none
theorem s_spoil (i j : Nat) {c : V} {x : α} {xs zs : List (List α)} (hc : rpC c (e x)) (hx : ρ[i]? = some (some (.list (xs.map (EL e)), 2))) (hij : i ≠ j) (hj : Nat.blt j ρ.length = true) (hs : spoilO xs x = some zs) (hρ : (ρ.set j none).set i (some (.list (zs.map (EL e)), 2)) = ρ1) :
    VS K Wx [i, j] (tFor (iAny K (tVar i)) (gName j) (tDrop (tBM K "list" rAppend (tVar j) (tCons (tC c) tNil)))) (pE ρ (some (.nx ρ1))) := (vs_spoil i j hc).at (by
  unfold spoilO at hs
  split at hs
  case isFalse => cases hs
  rename_i hl
  cases hs
  unfold sSpoil
  rw [hx]
  simp only
  have hs : (xs.map (EL e)).all shortL = true := by
    rw [List.all_map]
    rw [List.all_eq_true] at hl ⊢
    intro y hy
    have := hl y hy
    simpa [shortL, EL] using this
  rw [if_pos ⟨trivial, hs, hij, by simpa using hj⟩, ← hρ]
  simp [spoilD, EL, Function.comp_def])
theorem s_ret {r : Nat} (h : PV K te ρ d k) (hr : rk k = r) : VS K Wx ([] : List Nat) (tRet te) (pE ρ (some (.rt d r))) := (vs_ret h).at (by
  unfold sRet
  rw [pE_same, ← hr]
  rfl)
theorem s_ret0 (h : PV K te ρ d k) : VS K Wx ([] : List Nat) (tRet te) (pE ρ (some (.rt d 0))) := s_ret (h.bo k.src (by simp)) rfl
theorem s_ret1 (h : PV K te ρ d k) (hk : k = .mv []) (hl : isLst d = true) : VS K Wx ([] : List Nat) (tRet te) (pE ρ (some (.rt d 1))) := s_ret (h.kd (k' := .sp []) (by subst hk; exact .ms hl)) rfl
theorem s_retN : VS K Wx ([] : List Nat) tRetN (pE ρ (some (.rt .none 2))) := VS.at vs_retN rfl
/-! ### loops -/
variable {wi : TI} {g : TG} {st : SG} {kc : Kd} {xs : List α} {E : τ → Env} {s0 : τ}
theorem l_flat [Flat e] {ρ' : Env} (ha : apart kc.src (ns ++ wb) = true) (l : LessE ρ ρ') : LessE (if flatL (xs.map e) = true ∧ apart kc.src (ns ++ wb) = true then ρ else dem kc.src ρ) ρ' := by
  rw [if_pos ⟨flatL_map, ha⟩]
  exact l
theorem l_dem {ds : List PyData} {ρ' : Env} (l : LessE (dem kc.src ρ) ρ') : LessE (if flatL ds = true ∧ apart kc.src (ns ++ wb) = true then ρ else dem kc.src ρ) ρ' := by
  split
  · exact LessE.dem.trans l
  · exact l
theorem s_forO {f : τ → α → Option τ} (E1 : τ → α → Env) (hi : PI' K wi ρ (xs.map e) kc) (hg : VG K ns g st) (h0 : LessE (if flatL (xs.map e) = true ∧ apart kc.src (ns ++ wb) = true then ρ else dem kc.src ρ) (E s0)) (hst : ∀ s x, st (e x) (E s) = some (E1 s x))
    (hb : ∀ s x, x ∈ xs → TB K Wx wb tb (E1 s x) (f s x) (oN E)) : TB K Wx (ns ++ wb) (tFor wi g tb) ρ (loopO f xs s0) (oN E) := by
  let R : Env → Out → Prop := fun ρ' o => ∃ s x, x ∈ xs ∧ ρ' = E1 s x ∧ (f s x).map (oN E) = some o
  have hR : VSr K Wx wb tb R := fun B AF σ H ρ' Fs o S hr D p => by
    obtain ⟨s, x, hx, rfl, eo⟩ := hr
    exact hb s x hx B AF σ H _ Fs o S (pE_same.trans eo) D p
  have main : ∀ (ys : List α), (∀ y ∈ ys, y ∈ xs) → ∀ (s sf : τ) (ρ' : Env), LessE ρ' (E s) → loopO f ys s = some sf → LoopR st R (ys.map e) ρ' (.nx (E sf)) := by
    intro ys
    induction ys with
    | nil => intro _ s sf ρ' l h; cases h; exact ⟨_, l, rfl⟩
    | cons y ys ih =>
      intro hy s sf ρ' l h
      obtain ⟨s1, h1, h2⟩ := Option.bind_eq_some_iff.mp h
      exact ⟨E s, E1 s y, .nx (E s1), l, hst s y, ⟨s, y, hy y (List.mem_cons_self ..), rfl, by rw [h1]; rfl⟩, ih (fun z hz => hy z (List.mem_cons_of_mem _ hz)) s1 sf _ .refl h2⟩
  intro B AF σ H ρ' Fs o S eo D p
  obtain ⟨e0, e1⟩ := pE_some eo
  subst e0
  obtain ⟨sf, h1, rfl⟩ := Option.map_eq_some_iff.mp e1
  exact vs_forR hi hg hR B AF σ H _ Fs _ S ⟨xs.map e, kc, pE_same, main xs (fun _ h => h) s0 sf _ h0 h1⟩ D p
theorem s_forC {f : τ → α → Option (Ctl τ R)} {eR : R → PyData} {r : Nat} (E1 : τ → α → Env) (hi : PI' K wi ρ (xs.map e) kc) (hg : VG K ns g st) (h0 : LessE (if flatL (xs.map e) = true ∧ apart kc.src (ns ++ wb) = true then ρ else dem kc.src ρ) (E s0)) (hst : ∀ s x, st (e x) (E s) = some (E1 s x))
    (hb : ∀ s x, x ∈ xs → TB K Wx wb tb (E1 s x) (f s x) (oC E eR r)) : TB K Wx (ns ++ wb) (tFor wi g tb) ρ (loopC f xs s0) (oS E eR r) := by
  let R' : Env → Out → Prop := fun ρ' o => ∃ s x, x ∈ xs ∧ ρ' = E1 s x ∧ (f s x).map (oC E eR r) = some o
  have hR : VSr K Wx wb tb R' := fun B AF σ H ρ' Fs o S hr D p => by
    obtain ⟨s, x, hx, rfl, eo⟩ := hr
    exact hb s x hx B AF σ H _ Fs o S (pE_same.trans eo) D p
  have main : ∀ (ys : List α), (∀ y ∈ ys, y ∈ xs) → ∀ (s : τ) (sf : Res τ R) (ρ' : Env), LessE ρ' (E s) → loopC f ys s = some sf → LoopR st R' (ys.map e) ρ' (oS E eR r sf) := by
    intro ys
    induction ys with
    | nil => intro _ s sf ρ' l h; cases h; exact ⟨_, l, rfl⟩
    | cons y ys ih =>
      intro hy s sf ρ' l h
      obtain ⟨s1, h1, h2⟩ := Option.bind_eq_some_iff.mp h
      refine ⟨E s, E1 s y, oC E eR r s1, l, hst s y, ⟨s, y, hy y (List.mem_cons_self ..), rfl, by rw [h1]; rfl⟩, ?_⟩
      have hy' : ∀ z ∈ ys, z ∈ xs := fun z hz => hy z (List.mem_cons_of_mem _ hz)
      cases s1 with
      | nx s1 => exact ih hy' s1 sf _ .refl h2
      | ct s1 => exact ih hy' s1 sf _ .refl h2
      | bk s1 => cases h2; rfl
      | rt x => cases h2; rfl
  intro B AF σ H ρ' Fs o S eo D p
  obtain ⟨e0, e1⟩ := pE_some eo
  subst e0
  obtain ⟨sf, h1, rfl⟩ := Option.map_eq_some_iff.mp e1
  exact vs_forR hi hg hR B AF σ H _ Fs _ S ⟨xs.map e, kc, pE_same, main xs (fun _ h => h) s0 sf _ h0 h1⟩ D p
theorem s_whileO {c : τ → Option Bool} {f : τ → Option τ} (n : Nat) (h0 : LessE ρ (E s0)) (hc : ∀ s, TV K tc (E s) (c s)) (hb : ∀ s, TB K Wx wb tb (E s) (f s) (oN E)) : TB K Wx wb (tWhile tc tb) ρ (whileO c f n s0) (oN E) := by
  let Rc : Env → Bool → Prop := fun ρ' b => ∃ s, ρ' = E s ∧ c s = some b
  let R' : Env → Out → Prop := fun ρ' o => ∃ s, ρ' = E s ∧ (f s).map (oN E) = some o
  have hcR : VTr K tc Rc := fun B AF σ H ρ' Fs b S hr Q q => by
    obtain ⟨s, rfl, eo⟩ := hr
    exact hc s B AF σ H _ Fs b S (pE_same.trans eo) Q q
  have hR : VSr K Wx wb tb R' := fun B AF σ H ρ' Fs o S hr D p => by
    obtain ⟨s, rfl, eo⟩ := hr
    exact hb s B AF σ H _ Fs o S (pE_same.trans eo) D p
  have main : ∀ (n : Nat) (s sf : τ) (ρ' : Env), LessE ρ' (E s) → whileO c f n s = some sf → WhileR Rc R' n ρ' (.nx (E sf)) := by
    intro n
    induction n with
    | zero => intro s sf ρ' l h; cases h
    | succ n ih =>
      intro s sf ρ' l h
      obtain ⟨b, h1, h2⟩ := Option.bind_eq_some_iff.mp h
      refine ⟨E s, b, l, ⟨s, rfl, h1⟩, ?_⟩
      cases b with
      | true =>
        rw [if_pos rfl] at h2 ⊢
        obtain ⟨s1, h3, h4⟩ := Option.bind_eq_some_iff.mp h2
        exact ⟨.nx (E s1), ⟨s, rfl, by rw [h3]; rfl⟩, ih s1 sf _ .refl h4⟩
      | false =>
        rw [if_neg Bool.false_ne_true] at h2 ⊢
        cases h2
        rfl
  intro B AF σ H ρ' Fs o S eo D p
  obtain ⟨e0, e1⟩ := pE_some eo
  subst e0
  obtain ⟨sf, h1, rfl⟩ := Option.map_eq_some_iff.mp e1
  exact vs_whileR hcR hR B AF σ H _ Fs _ S ⟨n, main n s0 sf _ h0 h1⟩ D p
theorem s_whileC {c : τ → Option Bool} {f : τ → Option (Ctl τ R)} {eR : R → PyData} {r : Nat} (n : Nat) (h0 : LessE ρ (E s0)) (hc : ∀ s, TV K tc (E s) (c s)) (hb : ∀ s, TB K Wx wb tb (E s) (f s) (oC E eR r)) : TB K Wx wb (tWhile tc tb) ρ (whileC c f n s0) (oS E eR r) := by
  let Rc : Env → Bool → Prop := fun ρ' b => ∃ s, ρ' = E s ∧ c s = some b
  let R' : Env → Out → Prop := fun ρ' o => ∃ s, ρ' = E s ∧ (f s).map (oC E eR r) = some o
  have hcR : VTr K tc Rc := fun B AF σ H ρ' Fs b S hr Q q => by
    obtain ⟨s, rfl, eo⟩ := hr
    exact hc s B AF σ H _ Fs b S (pE_same.trans eo) Q q
  have hR : VSr K Wx wb tb R' := fun B AF σ H ρ' Fs o S hr D p => by
    obtain ⟨s, rfl, eo⟩ := hr
    exact hb s B AF σ H _ Fs o S (pE_same.trans eo) D p
  have main : ∀ (n : Nat) (s : τ) (sf : Res τ R) (ρ' : Env), LessE ρ' (E s) → whileC c f n s = some sf → WhileR Rc R' n ρ' (oS E eR r sf) := by
    intro n
    induction n with
    | zero => intro s sf ρ' l h; cases h
    | succ n ih =>
      intro s sf ρ' l h
      obtain ⟨b, h1, h2⟩ := Option.bind_eq_some_iff.mp h
      refine ⟨E s, b, l, ⟨s, rfl, h1⟩, ?_⟩
      cases b with
      | true =>
        rw [if_pos rfl] at h2 ⊢
        obtain ⟨s1, h3, h4⟩ := Option.bind_eq_some_iff.mp h2
        refine ⟨oC E eR r s1, ⟨s, rfl, by rw [h3]; rfl⟩, ?_⟩
        cases s1 with
        | nx s1 => exact ih s1 sf _ .refl h4
        | ct s1 => exact ih s1 sf _ .refl h4
        | bk s1 => cases h4; rfl
        | rt x => cases h4; rfl
      | false =>
        rw [if_neg Bool.false_ne_true] at h2 ⊢
        cases h2
        rfl
  intro B AF σ H ρ' Fs o S eo D p
  obtain ⟨e0, e1⟩ := pE_some eo
  subst e0
  obtain ⟨sf, h1, rfl⟩ := Option.map_eq_some_iff.mp e1
  exact vs_whileR hcR hR B AF σ H _ Fs _ S ⟨n, main n s0 sf _ h0 h1⟩ D p
/-! ### comprehensions -/
theorem lc_run {e' : β → PyData} {c : α → Option Bool} {f : α → Option β} {E1 : α → Env} {ke : Kd} {vs : List Nat} {Rt : Env → Bool → Prop} {Re : Env → PyData × Kd → Prop} {ρi : Env} (hst : ∀ x, st (e x) ρi = some (E1 x)) (ht : ∀ x b, c x = some b → Rt (E1 x) b) (he : ∀ x y, f x = some y → Re (E1 x) (e' y, ke)) :
    ∀ (xs : List α) (ys : List β), filO c f xs = some ys → ∃ am L, LcRel ns st Rt Re ρi (xs.map e) (ys.map e', am, L) ∧ (isMv ke = true → am = true) ∧ ∀ i ∈ L, i ∈ ke.src.filter fun i => !ns.contains i
  | [], ys, h => by cases h; exact ⟨true, [], rfl, fun _ => rfl, fun i hi => nomatch hi⟩
  | x :: xs, ys, h => by
    obtain ⟨b, h1, h2⟩ := Option.bind_eq_some_iff.mp h
    cases b with
    | false =>
      rw [if_neg Bool.false_ne_true] at h2
      obtain ⟨am, L, a1, a2, a3⟩ := lc_run (ke := ke) (vs := vs) hst ht he xs ys h2
      exact ⟨am, L, ⟨E1 x, hst x, false, ht x _ h1, a1⟩, a2, a3⟩
    | true =>
      rw [if_pos rfl] at h2
      obtain ⟨y, h3, h4⟩ := Option.bind_eq_some_iff.mp h2
      obtain ⟨zs, h5, h6⟩ := Option.bind_eq_some_iff.mp h4
      cases h6
      obtain ⟨am, L, a1, a2, a3⟩ := lc_run (ke := ke) (vs := vs) hst ht he xs zs h5
      refine ⟨isMv ke && am, (ke.src.filter fun i => !ns.contains i) ++ L, ⟨E1 x, hst x, true, ht x _ h1, ?_⟩, fun z => by rw [z, a2 z]; rfl, fun i hi => (List.mem_append.mp hi).elim id (a3 i)⟩
      rw [if_pos rfl]
      exact ⟨_, _, he x y h3, a1, rfl⟩
theorem p_lcG {e' : β → PyData} {c : α → Option Bool} {f : α → Option β} {ys : List β} {ke : Kd} {vs : List Nat} {tt : TT} {un : Unit} (E1 : α → Env) (hi : PI' K wi ρ (xs.map e) kc) (hg : VG K ns g st) (hst : ∀ x, st (e x) (wipeE (zeroE ρ) vs) = some (E1 x)) (ht : ∀ x, x ∈ xs → TV K tt (E1 x) (c x)) (he : ∀ x, x ∈ xs → EV K te (E1 x) (f x) e' ke)
    (hl : chk (decide (xs.length ≤ 1000000)) = some un) (h : filO c f xs = some ys) (hv : ∀ i ∈ ns, i ∈ vs) {kr : Kd} (hk : ∀ (am : Bool) (L : List Nat), (isMv ke = true → am = true) → (∀ i ∈ L, i ∈ ke.src.filter fun i => !ns.contains i) → KLe (.list (ys.map e')) (if flatL (ys.map e') = true then .mv [] else if am = true then .mv [] else .sp (kc.src ++ L)) kr) : PV K (tLc wi g tt te vs) ρ (.list (ys.map e')) kr := by
  let Rt : Env → Bool → Prop := fun ρ' b => ∃ x, x ∈ xs ∧ ρ' = E1 x ∧ c x = some b
  let Re : Env → PyData × Kd → Prop := fun ρ' p => ∃ x, x ∈ xs ∧ ρ' = E1 x ∧ (f x).map (fun a => (e' a, ke)) = some p
  have htR : VTr K tt Rt := fun B AF σ H ρ' Fs b S hr Q q => by
    obtain ⟨x, hx, rfl, eo⟩ := hr
    exact ht x hx B AF σ H _ Fs b S (pE_same.trans eo) Q q
  have heR : VEr K te Re := fun B AF σ H ρ' Fs d k S hr Q q => by
    obtain ⟨x, hx, rfl, eo⟩ := hr
    exact he x hx B AF σ H _ Fs d k S (pE_same.trans eo) Q q
  have hmem : ∀ (zs : List α), (∀ z ∈ zs, z ∈ xs) → ∀ (ys : List β), filO c f zs = some ys → ∃ am L, LcRel ns st Rt Re (wipeE (zeroE ρ) vs) (zs.map e) (ys.map e', am, L) ∧ (isMv ke = true → am = true) ∧ ∀ i ∈ L, i ∈ ke.src.filter fun i => !ns.contains i := by
    intro zs
    induction zs with
    | nil => intro _ ys h; cases h; exact ⟨true, [], rfl, fun _ => rfl, fun i hi => nomatch hi⟩
    | cons x zs ih =>
      intro hz ys h
      have hx := hz x (List.mem_cons_self ..)
      have hz' : ∀ z ∈ zs, z ∈ xs := fun z q => hz z (List.mem_cons_of_mem _ q)
      obtain ⟨b, h1, h2⟩ := Option.bind_eq_some_iff.mp h
      cases b with
      | false =>
        rw [if_neg Bool.false_ne_true] at h2
        obtain ⟨am, L, a1, a2, a3⟩ := ih hz' ys h2
        exact ⟨am, L, ⟨E1 x, hst x, false, ⟨x, hx, rfl, h1⟩, a1⟩, a2, a3⟩
      | true =>
        rw [if_pos rfl] at h2
        obtain ⟨y, h3, h4⟩ := Option.bind_eq_some_iff.mp h2
        obtain ⟨ws, h5, h6⟩ := Option.bind_eq_some_iff.mp h4
        cases h6
        obtain ⟨am, L, a1, a2, a3⟩ := ih hz' ws h5
        refine ⟨isMv ke && am, (ke.src.filter fun i => !ns.contains i) ++ L, ⟨E1 x, hst x, true, ⟨x, hx, rfl, h1⟩, ?_⟩, fun z => by rw [z, a2 z]; rfl, fun i hi => (List.mem_append.mp hi).elim id (a3 i)⟩
        rw [if_pos rfl]
        exact ⟨_, _, ⟨x, hx, rfl, by rw [h3]; rfl⟩, a1, rfl⟩
  obtain ⟨am, L, a1, a2, a3⟩ := hmem xs (fun _ q => q) ys h
  have hl' : xs.length ≤ 1000000 := by simpa using chk_some hl
  intro B AF σ H ρ' Fs d k S eo Q q
  obtain ⟨e0, e1⟩ := pE_some eo
  subst e0
  cases e1
  refine ve_lcR hi hg htR heR hv B AF σ H _ Fs _ _ S ⟨xs.map e, kc, pE_same, by rw [List.length_map]; exact hl', _, a1, rfl⟩ Q fun v H' F gr r o => q v H' F gr r ((hk am L a2 a3).kv r o)
theorem lk_flat {e' : β → PyData} [Flat e'] {ys : List β} {P : Bool → List Nat → Kd} {am : Bool} {L : List Nat} : KLe (.list (ys.map e')) (if flatL (ys.map e') = true then .mv [] else P am L) (.mv []) := by
  rw [if_pos flatL_map]
  exact .refl
section
variable {e' : β → PyData} {c : α → Option Bool} {f : α → Option β} {ys : List β} {ke : Kd} {vs : List Nat} {tt : TT} {un : Unit}
theorem p_lcF [Flat e'] (E1 : α → Env) (hi : PI' K wi ρ (xs.map e) kc) (hg : VG K ns g st) (hst : ∀ x, st (e x) (wipeE (zeroE ρ) vs) = some (E1 x)) (ht : ∀ x, x ∈ xs → TV K tt (E1 x) (c x)) (he : ∀ x, x ∈ xs → EV K te (E1 x) (f x) e' ke)
    (hl : chk (decide (xs.length ≤ 1000000)) = some un) (h : filO c f xs = some ys) (hv : ∀ i ∈ ns, i ∈ vs) : PV K (tLc wi g tt te vs) ρ (.list (ys.map e')) (.mv []) :=
  p_lcG E1 hi hg hst ht he hl h hv fun am L _ _ => by rw [if_pos flatL_map]; exact .refl
theorem p_lcM {Lm : List Nat} (E1 : α → Env) (hi : PI' K wi ρ (xs.map e) kc) (hg : VG K ns g st) (hst : ∀ x, st (e x) (wipeE (zeroE ρ) vs) = some (E1 x)) (ht : ∀ x, x ∈ xs → TV K tt (E1 x) (c x)) (he : ∀ x, x ∈ xs → EV K te (E1 x) (f x) e' (.mv Lm))
    (hl : chk (decide (xs.length ≤ 1000000)) = some un) (h : filO c f xs = some ys) (hv : ∀ i ∈ ns, i ∈ vs) : PV K (tLc wi g tt te vs) ρ (.list (ys.map e')) (.mv []) :=
  p_lcG E1 hi hg hst ht he hl h hv fun am L a _ => by
    split
    · exact .refl
    · rw [if_pos (a rfl)]; exact .refl
theorem p_lcS (M : List Nat) (E1 : α → Env) (hi : PI' K wi ρ (xs.map e) kc) (hg : VG K ns g st) (hst : ∀ x, st (e x) (wipeE (zeroE ρ) vs) = some (E1 x)) (ht : ∀ x, x ∈ xs → TV K tt (E1 x) (c x)) (he : ∀ x, x ∈ xs → EV K te (E1 x) (f x) e' ke)
    (hl : chk (decide (xs.length ≤ 1000000)) = some un) (h : filO c f xs = some ys) (hv : ∀ i ∈ ns, i ∈ vs) (hs : (kc.src ++ ke.src.filter fun i => !ns.contains i).all M.contains = true) : PV K (tLc wi g tt te vs) ρ (.list (ys.map e')) (.sp M) :=
  p_lcG E1 hi hg hst ht he hl h hv fun am L _ a => by
    split
    · exact .ms rfl
    · split
      · exact .ms rfl
      · refine .ss ?_
        rw [List.all_eq_true] at hs ⊢
        intro i hi
        refine hs i ?_
        rcases List.mem_append.mp hi with z | z
        · exact List.mem_append_left _ z
        · exact List.mem_append_right _ (a i z)
theorem filO_yes : filO (fun _ => some true) f xs = mapO f xs := by
  induction xs with
  | nil => rfl
  | cons x xs ih => simp only [filO, mapO, Option.bind_some, if_true, ih]
theorem filO_map1 {p : α → Bool} {g : α → β} : filO (fun x => some (p x)) (fun x => some (g x)) xs = some ((xs.filter p).map g) := filO_map (fun _ _ => rfl) (fun _ _ _ => rfl)
theorem mapO_map1 {g : α → β} : mapO (fun x => some (g x)) xs = some (xs.map g) := mapO_map fun _ _ => rfl
theorem filO_all {g : α → β} : filO (fun _ => some true) (fun x => some (g x)) xs = some (xs.map g) := filO_yes.trans mapO_map1
theorem t_yes : TV K tYes ρ (some true) := vt_yes.at rfl
end
/-! ### defs -/
/-- the promise of a def, told by a relation -/
def spR (K : PySem.W.Frag) (n : Nat) (R : List PyData → PyData × Nat → Prop) : Sp := fun vs H Q _ => LamX.Tabs TABS H ∧ ∃ ds F d r, ds.length = n ∧ RpL K H vs ds F ∧ R ds (d, r) ∧ ∀ v H' G, Grow H H' → Rp K H' v d G → ROk r H F v G → Q v H'
theorem spR_len {n : Nat} {R : List PyData → PyData × Nat → Prop} {vs : List V} {H : Hp} {Q : VK} {E : XK} (h : spR K n R vs H Q E) : vs.length = n := by
  obtain ⟨_, ds, F, d, r, h1, h2, _⟩ := h
  rw [h2.length]; exact h1
theorem spR_of {n : Nat} {R : List PyData → PyData × Nat → Prop} {vs : List V} {H : Hp} {Q : VK} {E : XK} (h : spR K n R vs H Q E) : ∃ ds p, R ds p ∧ spOf K n (fun ds' => if ds' = ds then some p else none) vs H Q E := by
  obtain ⟨tb, ds, F, d, r, h1, h2, h3, q⟩ := h
  exact ⟨ds, (d, r), h3, tb, ds, F, d, r, h1, h2, if_pos rfl, q⟩
end
section
variable {A Rt : Type} {K : PySem.W.Frag}
/-- what a plain program L tells of the arguments encs a -/
def RelT (encs : A → List PyData) (L : A → Option Rt) (e : Rt → PyData) (r : Nat) : List PyData → PyData × Nat → Prop := fun ds p => ∃ a x, ds = encs a ∧ L a = some x ∧ p = (e x, r)
structure Clr (P : Program) (w : World) (K : PySem.W.Frag) (mg : Str → Option Value) (base : Heap) (x : Str) (k n : Nat) (R : List PyData → PyData × Nat → Prop) : Prop where
  ex : ∃ (f : Addr) (fd : FuncData) (ps : List Str), FnOk P w K mg base CX0 k f fd ps (spR K n R) ∧ mg x = some (.ref f) ∧ PySem.W.keepIn K (.ref f) = true ∧ Binds K fd ps []
theorem pe_callR {X : Cx} {x : Str} {k j n : Nat} {m : List PyData → PyData × Nat → Prop} {e : Expr} {es : List Expr} {t : TA} {p pos : Pos} (C : Clr X.prog X.w X.K X.mg X.base x k n m) (hr : Room j X.A) (hj : k ≤ j) (ha : PA X (e :: es) t)
    (hg : Gl X x := by rfl) (hd : (x == ("__debug__" : Str)) = false := by decide) (he : starEach (e :: es) X.env = (false, eval e X.env) :: starEach es X.env := by rfl)
    (hp : (backTo pos (starEach es X.env)).any (·.1) = false := by rfl) : PE X (.Call (.Name x p) (e :: es) [] pos) (tCall (spR X.K n m) [] L2.E0 t) := by
  obtain ⟨f, fd, ps, F, h1, h2, h3⟩ := C.ex
  exact pe_call F (hr.mono hj) hg h1 h2 h3 .nil pass0 ha hd he hp
structure Ckr (P : Program) (w : World) (K : PySem.W.Frag) (mg : Str → Option Value) (base : Heap) (x : Str) (k n : Nat) (m : List PyData → PyData × Nat → Prop) (np : Nat) (ks : List Str) : Prop where
  ex : ∃ (f : Addr) (fd : FuncData) (ps : List Str), FnOk P w K mg base CX0 k f fd ps (spR K n m) ∧ mg x = some (.ref f) ∧ PySem.W.keepIn K (.ref f) = true ∧ KBn K fd ps np ks (fun us ws => us ++ ws) (fun vs zs => vs ++ zs)
theorem pe_callKR {X : Cx} {x : Str} {k j n np : Nat} {m : List PyData → PyData × Nat → Prop} {ks : List Str} {e : Expr} {es : List Expr} {kws : List Keyword} {t tk : TA} {p pos : Pos} (C : Ckr X.prog X.w X.K X.mg X.base x k n m np ks) (hr : Room j X.A) (hj : k ≤ j) (ha : PA X (e :: es) t) (hk : PK X kws tk)
    (hg : Gl X x := by rfl) (h1 : (backToKw pos (keywordEach kws X.env)).all (·.1.isSome) = true := by rfl) (h2 : (backToKw pos (keywordEach kws X.env)).filterMap (·.1) = ks := by rfl)
    (hd : (x == ("__debug__" : Str)) = false := by decide) (he : starEach (e :: es) X.env = (false, eval e X.env) :: starEach es X.env := by rfl)
    (hp : ((backTo pos (starEach (e :: es) X.env)).any (·.1) || (backToKw pos (keywordEach kws X.env)).any (·.1.isNone)) = false := by rfl) :
    PE X (.Call (.Name x p) (e :: es) kws pos) (tCallN np ks.length (spR X.K n m) (fun vs zs => vs ++ zs) L2.E0 t tk) := by
  obtain ⟨f, fd, ps, F, a1, a2, a3⟩ := C.ex
  exact pe_callN F (hr.mono hj) hg a1 a2 a3 pass0 ha hk h1 h2 hd he hp
variable {t tk : TA} {ρ : Env} {d : PyData} {ds es : List PyData} {k k2 : Kd} {n np nk : Nat} {encs : A → List PyData} {L : A → Option Rt} {e : Rt → PyData} {r : Nat} {E : XK}
theorem spOf_R {m : MF} {R : List PyData → PyData × Nat → Prop} (h : ∀ ds p, m ds = some p → R ds p) {vs : List V} {H : Hp} {Q : VK} (hs : spOf K n m vs H Q E) : spR K n R vs H Q E := by
  obtain ⟨tb, ds, F, d, r, h1, h2, h3, q⟩ := hs
  exact ⟨tb, ds, F, d, r, h1, h2, h _ _ h3, q⟩
theorem relT_one {a : A} {x : Rt} (hL : L a = some x) (hds : ds = encs a) : ∀ ds' p, (if ds' = ds then some (e x, r) else none) = some p → RelT encs L e r ds' p := by
  intro ds' p hp
  split at hp
  · rename_i q
    cases hp
    exact ⟨a, x, q.trans hds, hL, rfl⟩
  · cases hp
theorem p_callG {a : A} {x : Rt} (hL : L a = some x) (ha : PA' K t ρ ds k) (hds : ds = encs a) (hn : ds.length = n) : PV K (tCall (spR K n (RelT encs L e r)) [] E t) ρ (e x) (calK (e x) r k) := by
  intro B AF σ H ρ' Fs d k' S eo Q q
  obtain ⟨e0, e1⟩ := pE_some eo
  subst e0
  cases e1
  refine ha B AF σ H _ Fs ds k S pE_same _ fun vs H1 F g1 r1 o1 => ?_
  have := vf_call (n := n) (m := fun ds' => if ds' = ds then some (e x, r) else none) (E := E) _ Fs H H1 vs ds F k (e x) (calK (e x) r k) (S.grow g1).same.tab g1 r1 o1 (by simp [gCall, hn]) Q fun v H3 G' g3 r3 o3 => q v H3 G' (g1.trans g3) r3 o3
  exact spOf_R (relT_one hL hds) this
theorem p_callNG {a : A} {x : Rt} (hL : L a = some x) (ha : PA' K t ρ ds k) (hk : PA' K tk ρ es k2) (hds : ds ++ es = encs a) (hp : ds.length = np) (hq : es.length = nk) (hn : (ds ++ es).length = n) : PV K (tCallN np nk (spR K n (RelT encs L e r)) (fun vs zs => vs ++ zs) E t tk) ρ (e x) (calK (e x) r (aj k k2)) := by
  intro B AF σ H ρ' Fs d k' S eo Q q
  obtain ⟨e0, e1⟩ := pE_some eo
  subst e0
  cases e1
  refine ha B AF σ H _ Fs ds k S pE_same _ fun vs H1 F g1 r1 o1 => ?_
  refine hk B AF σ H1 _ Fs es k2 (S.grow g1) pE_same _ fun zs H2 G g2 r2 o2 => ⟨by rw [r1.length]; exact hp, by rw [r2.length]; exact hq, ?_⟩
  have := vf_call (n := n) (m := fun ds' => if ds' = ds ++ es then some (e x, r) else none) (E := E) _ Fs H H2 (vs ++ zs) (ds ++ es) (F ++ G) (aj k k2) (e x) (calK (e x) r (aj k k2)) (S.grow (g1.trans g2)).same.tab (g1.trans g2) (RpL.app (r1.grow g2) r2) (KO.join S g1 o1 (fun a ha => r1.stn ha) o2) (by
    simp only [gCall, hn, if_true, Option.map_some]) Q fun v H3 G' g3 r3 o3 => q v H3 G' ((g1.trans g2).trans g3) r3 o3
  simp only [List.append_nil] at this
  exact spOf_R (relT_one hL hds) this
/-- a flat answer -/
theorem p_callF [Flat e] {a : A} {x : Rt} (hL : L a = some x) (ha : PA' K t ρ ds k) (hds : ds = encs a) (hn : ds.length = n) : PV K (tCall (spR K n (RelT encs L e r)) [] E t) ρ (e x) (.mv []) := (p_callG hL ha hds hn).flat (Flat.flat x)
theorem p_callNF [Flat e] {a : A} {x : Rt} (hL : L a = some x) (ha : PA' K t ρ ds k) (hk : PA' K tk ρ es k2) (hds : ds ++ es = encs a) (hp : ds.length = np) (hq : es.length = nk) (hn : (ds ++ es).length = n) : PV K (tCallN np nk (spR K n (RelT encs L e r)) (fun vs zs => vs ++ zs) E t tk) ρ (e x) (.mv []) := (p_callNG hL ha hk hds hp hq hn).flat (Flat.flat x)
theorem calK2 {d : PyData} {k : Kd} : calK d 2 k = .mv [] := by unfold calK; simp
/-- a new answer -/
theorem p_call2 {a : A} {x : Rt} (hL : L a = some x) (ha : PA' K t ρ ds k) (hds : ds = encs a) (hn : ds.length = n) : PV K (tCall (spR K n (RelT encs L e 2)) [] E t) ρ (e x) (.mv []) := by
  have := p_callG (r := 2) (e := e) (E := E) hL ha hds hn
  rwa [calK2] at this
theorem p_callN2 {a : A} {x : Rt} (hL : L a = some x) (ha : PA' K t ρ ds k) (hk : PA' K tk ρ es k2) (hds : ds ++ es = encs a) (hp : ds.length = np) (hq : es.length = nk) (hn : (ds ++ es).length = n) : PV K (tCallN np nk (spR K n (RelT encs L e 2)) (fun vs zs => vs ++ zs) E t tk) ρ (e x) (.mv []) := by
  have := p_callNG (r := 2) (e := e) (E := E) hL ha hk hds hp hq hn
  rwa [calK2] at this
theorem calK_any {d : PyData} {r : Nat} {k : Kd} {M : List Nat} (hs : k.src.all M.contains = true) : KLe d (calK d r k) (.bo M) := by
  unfold calK
  split
  · exact .any rfl
  · split
    · exact .any rfl
    · split <;> exact .any hs
theorem calK1 {d : PyData} {k : Kd} {M : List Nat} (hl : isLst d = true) (hs : k.src.all M.contains = true) : KLe d (calK d 1 k) (.sp M) := by
  unfold calK
  split
  · exact .ms hl
  · simp only [if_neg (show ¬ (1 = 2) by decide), if_true]
    exact .ss hs
theorem p_call1 {a : A} {x : Rt} (M : List Nat) (hL : L a = some x) (ha : PA' K t ρ ds k) (hds : ds = encs a) (hn : ds.length = n) (hl : isLst (e x) = true) (hs : k.src.all M.contains = true) : PV K (tCall (spR K n (RelT encs L e 1)) [] E t) ρ (e x) (.sp M) := (p_callG hL ha hds hn).kd (calK1 hl hs)
theorem p_call0 {a : A} {x : Rt} (M : List Nat) (hL : L a = some x) (ha : PA' K t ρ ds k) (hds : ds = encs a) (hn : ds.length = n) (hs : k.src.all M.contains = true) : PV K (tCall (spR K n (RelT encs L e r)) [] E t) ρ (e x) (.bo M) := (p_callG hL ha hds hn).kd (calK_any hs)
theorem aj_src' {k l : Kd} : (aj k l).src = k.src ++ l.src := by
  cases k <;> cases l <;> try rfl
  rw [aj_mm]
  split <;> rfl
theorem p_callN1 {a : A} {x : Rt} (M : List Nat) (hL : L a = some x) (ha : PA' K t ρ ds k) (hk : PA' K tk ρ es k2) (hds : ds ++ es = encs a) (hp : ds.length = np) (hq : es.length = nk) (hn : (ds ++ es).length = n) (hl : isLst (e x) = true) (hs : (k.src ++ k2.src).all M.contains = true) : PV K (tCallN np nk (spR K n (RelT encs L e 1)) (fun vs zs => vs ++ zs) E t tk) ρ (e x) (.sp M) := (p_callNG hL ha hk hds hp hq hn).kd (calK1 hl (by rw [aj_src']; exact hs))
theorem p_callN0 {a : A} {x : Rt} (M : List Nat) (hL : L a = some x) (ha : PA' K t ρ ds k) (hk : PA' K tk ρ es k2) (hds : ds ++ es = encs a) (hp : ds.length = np) (hq : es.length = nk) (hn : (ds ++ es).length = n) (hs : (k.src ++ k2.src).all M.contains = true) : PV K (tCallN np nk (spR K n (RelT encs L e r)) (fun vs zs => vs ++ zs) E t tk) ρ (e x) (.bo M) := (p_callNG hL ha hk hds hp hq hn).kd (calK_any (by rw [aj_src']; exact hs))
/-- a def's body -/
theorem body_T {Wx : WxT} {wr : List Nat} {ts : TS} {N : List Str} {m : Nat} {vs : List V} {H : Hp} {Q : VK} {E1 : A → Env} (h : ∀ a, TB K Wx wr ts (E1 a) (L a) (oR e r)) (hl : ∀ a, LessE (env0 m (encs a)) (E1 a)) (hs : spR K n (RelT encs L e r) vs H Q E) (hN : N.length = m) (hk : n ≤ m) :
    ts { nx := fun _ H' => Q .non H', rt := Q } (L2.start N vs) H := by
  obtain ⟨ds, p, ⟨a, x, rfl, h1, rfl⟩, hs⟩ := spR_of hs
  refine body_of (E := E) (f := pE (env0 m (encs a)) ((L a).map (oR e r))) (s_in (hl a) (h a)) (n := m) (k := n) ?_ hN hk
  obtain ⟨tb, ds, F, d, r', h2, h3, h4, q⟩ := hs
  simp only at h4
  split at h4
  case isFalse => cases h4
  rename_i hd
  subst hd
  refine ⟨tb, _, F, d, r', h2, h3, ?_, q⟩
  unfold mOf
  rw [pE_same, h1, ← h4]
  rfl
theorem law_T {Wx : WxT} {wr : List Nat} {tr : TS} {N : List Str} {i n : Nat} {vs : List V} {H : Hp} {Q : VK} {E1 : List Int → Env} {LL : List Int → Option Bool} (h : ∀ ds, TB K Wx wr tr (E1 ds) (LL ds) (oR PyData.bool 2)) (hs : spLaw K vs H Q E) (hn : n ≤ 1000) (hi : i < N.length) (h0 : 0 < N.length)
    (hl : ∀ ds, LessE ((List.replicate N.length none).set i (some (intsD ds, 2))) (E1 ds)) (hf : ∀ ds : List Int, Drawn n ds → LL ds = some true) :
    tSeq (tAsg (tCall (spDraws K) [] L2.E0 (tCons (tVar 0) (tCons (tC (.int (n : Nat))) tNil))) (gName i)) tr { nx := fun _ H' => Q .non H', rt := Q } (L2.start N vs) H := by
  refine law_draws (Wx := Wx) (wr := wr) (f := fun ρ => if ∃ ds, Drawn n ds ∧ ρ = (List.replicate N.length none).set i (some (intsD ds, 2)) then some (.rt (.bool true) 2) else none) ?_ hs hn hi h0 fun ds hd => if_pos ⟨ds, hd, rfl⟩
  intro B AF σ H ρ Fs o S eo D p
  simp only at eo
  split at eo
  case isFalse => cases eo
  rename_i hx
  obtain ⟨ds, hd, rfl⟩ := hx
  cases eo
  exact s_in (hl ds) (h ds) B AF σ H _ Fs _ S (by rw [pE_same, hf ds hd]; rfl) D p
theorem spR_none {n : Nat} {encs : A → List PyData} {L : A → Option Rt} {e : Rt → PyData} {r : Nat} {vs : List V} {H : Hp} {Q : VK} {E : XK} (h : spR K n (RelT encs L e r) vs H Q E) (h0 : ∀ a, L a = none) : False := by
  obtain ⟨_, ds, F, d, r', _, _, ⟨a, x, _, h1, _⟩, _⟩ := h
  rw [h0] at h1
  cases h1
end
end Va

/-! Vt6: targets; more of blocks. -/
namespace Va
open PySem L2 PyProof.Rows PySem.W PySem.Calls

/-- the target takes d: from ρ (or what tells more) to ρ' (or what tells more) -/
def TgJ (st : SG) (d : PyData) (ρ ρ' : Env) : Prop := ∀ ρ0, LessE ρ0 ρ → ∃ ρ1, st d ρ0 = some ρ1 ∧ LessE ρ1 ρ'
def TgJs (st : SGs) (ds : List PyData) (ρ ρ' : Env) : Prop := ∀ ρ0, LessE ρ0 ρ → ∃ ρ1, st ds ρ0 = some ρ1 ∧ LessE ρ1 ρ'
theorem LessE.set {ρ ρ' : Env} {i : Nat} {d : PyData} {m m' : Nat} (h : LessE ρ ρ') (hm : Mle d m' m) : LessE (ρ.set i (some (d, m))) (ρ'.set i (some (d, m'))) := by
  refine ⟨by simp [h.len], fun j e n q => ?_⟩
  rw [List.getElem?_set] at q
  split at q
  · rename_i hij
    subst hij
    split at q
    · rename_i hl
      cases q
      exact ⟨m, by rw [List.getElem?_set_self (by rw [← h.len]; exact hl)], hm⟩
    · cases q
  · rename_i hij
    obtain ⟨m0, h1, h2⟩ := h.le j e n q
    exact ⟨m0, by rw [List.getElem?_set_ne hij]; exact h1, h2⟩
section
variable {α : Type} {e : α → PyData} {st : SG} {sts : SGs} {d : PyData} {ds : List PyData} {ρ ρ1 ρ2 : Env} {i n : Nat}
theorem tj_n {m : Nat} (hm : m = 0 ∨ (m = 2 ∧ flat d = true)) (hi : Nat.blt i ρ.length = true) (h : ρ.set i (some (d, m)) = ρ1) : TgJ (tgN i) d ρ ρ1 := fun ρ0 l => by
  have hi' : i < ρ0.length := by rw [← l.len]; simpa using hi
  refine ⟨ρ0.set i (some (d, m02 d)), by rw [tgN_eq, if_pos hi'], ?_⟩
  rw [← h]
  refine l.set ?_
  rcases hm with rfl | ⟨rfl, hf⟩
  · exact .inr (.inl rfl)
  · unfold m02
    rw [if_pos hf]
    exact .inl rfl
theorem tj_0 (hi : Nat.blt i ρ.length = true) (h : ρ.set i (some (d, 0)) = ρ1) : TgJ (tgN i) d ρ ρ1 := tj_n (.inl rfl) hi h
theorem tj_2 [Flat e] {a : α} (hi : Nat.blt i ρ.length = true) (h : ρ.set i (some (e a, 2)) = ρ1) : TgJ (tgN i) (e a) ρ ρ1 := tj_n (.inr ⟨rfl, Flat.flat a⟩) hi h
theorem tj_T (h : TgJs sts ds ρ ρ1) (hn : ds.length = n) : TgJ (tgT n sts) (.tuple ds) ρ ρ1 := fun ρ0 l => by
  obtain ⟨ρ2, h1, h2⟩ := h ρ0 l
  exact ⟨ρ2, by rw [tgT_eq, if_pos hn]; exact h1, h2⟩
theorem tj_W (h : TgJs sts ds ρ ρ1) (hn : ds.length = n) : TgJ (tgT n sts) (.dict [(.none, .tuple ds)]) ρ ρ1 := fun ρ0 l => by
  obtain ⟨ρ2, h1, h2⟩ := h ρ0 l
  exact ⟨ρ2, by unfold tgT; simp only [if_pos hn]; exact h1, h2⟩
theorem tj_nil : TgJs tgNil [] ρ ρ := fun ρ0 l => ⟨ρ0, rfl, l⟩
theorem tj_cons (h1 : TgJ st d ρ ρ1) (h2 : TgJs sts ds ρ1 ρ2) : TgJs (tgCons st sts) (d :: ds) ρ ρ2 := fun ρ0 l => by
  obtain ⟨a, a1, a2⟩ := h1 ρ0 l
  obtain ⟨b, b1, b2⟩ := h2 a a2
  exact ⟨b, by rw [tgCons_eq, a1]; exact b1, b2⟩
theorem LessE.zero {ρ ρ' : Env} (l : LessE ρ ρ') : LessE (zeroE ρ) (zeroE ρ') := by
  refine ⟨by simp [zeroE, l.len], fun j e n q => ?_⟩
  obtain ⟨rfl, m, q⟩ := zero_get q
  obtain ⟨m0, h1, _⟩ := l.le j e m q
  refine ⟨0, ?_, .inl rfl⟩
  unfold zeroE
  rw [List.getElem?_map, h1]
  rfl
end
section
variable {α β τ R : Type} {K : PySem.W.Frag} {Wx : WxT} {wr wr' wb ns : List Nat} {ts t u v tb : TS} {te : TE} {tc : TT} {ρ ρ1 : Env} {out : β → Out} {d : PyData} {k : Kd} {e : α → PyData} {g : TG} {st : SG} {wi : TI} {kc : Kd} {xs : List α} {E : τ → Env} {s0 : τ}
theorem s_asgJ (hg : VG K ns g st) (h : PV K te ρ d k) (hs : TgJ st d (dem k.src ρ) ρ1) : VS K Wx ns (tAsg te g) (pE ρ (some (.nx ρ1))) := by
  obtain ⟨ρ2, h1, h2⟩ := hs _ .refl
  exact s_out (s_asgT hg h h1) h2
/-- if .. in the middle: the rest behind both ways -/
theorem s_ifD {b : Bool} {n1 n2 : Option β} (hc : PT' K tc ρ b) (h1 : b = true → TB K Wx wr (tSeq t v) ρ n1 out) (h2 : b = false → TB K Wx wr' (tSeq u v) ρ n2 out) : TB K Wx (wr ++ wr') (tSeq (tIfS tc t u) v) ρ (if b = true then n1 else n2) out := by
  intro B AF σ H ρ' Fs o S e D p
  obtain ⟨e0, e1⟩ := pE_some e
  subst e0
  refine hc B AF σ H _ Fs b S pE_same _ fun H1 g1 => ?_
  cases b with
  | true =>
    rw [if_pos rfl] at e1 ⊢
    exact h1 rfl B AF σ H1 _ Fs o (S.grow g1) (pE_same.trans e1) D (p.pre (Fr.grow (wr := []) g1) fun i hi => List.mem_append_left _ (by simpa using hi))
  | false =>
    rw [if_neg Bool.false_ne_true] at e1 ⊢
    exact h2 rfl B AF σ H1 _ Fs o (S.grow g1) (pE_same.trans e1) D (p.pre (Fr.grow (wr := []) g1) fun i hi => List.mem_append_right _ (by simpa using hi))
theorem s_assoc {o : Option Out} (h : VS K Wx wr (tSeq t (tSeq u v)) (pE ρ o)) : VS K Wx wr (tSeq (tSeq t u) v) (pE ρ o) := h
theorem s_forO' {f : τ → α → Option τ} (E1 : τ → α → Env) (hi : PI' K wi ρ (xs.map e) kc) (hg : VG K ns g st) (h0 : LessE (if flatL (xs.map e) = true ∧ apart kc.src (ns ++ wb) = true then ρ else dem kc.src ρ) (E s0)) (hst : ∀ s x, TgJ st (e x) (E s) (E1 s x))
    (hb : ∀ s x, x ∈ xs → TB K Wx wb tb (E1 s x) (f s x) (oN E)) : TB K Wx (ns ++ wb) (tFor wi g tb) ρ (loopO f xs s0) (oN E) := by
  have hF : ∀ s x, ∃ ρ1, st (e x) (E s) = some ρ1 ∧ LessE ρ1 (E1 s x) := fun s x => hst s x _ .refl
  exact s_forO (fun s x => Classical.choose (hF s x)) hi hg h0 (fun s x => (Classical.choose_spec (hF s x)).1) fun s x hx => s_in (Classical.choose_spec (hF s x)).2 (hb s x hx)
theorem s_forC' {f : τ → α → Option (Ctl τ R)} {eR : R → PyData} {r : Nat} (E1 : τ → α → Env) (hi : PI' K wi ρ (xs.map e) kc) (hg : VG K ns g st) (h0 : LessE (if flatL (xs.map e) = true ∧ apart kc.src (ns ++ wb) = true then ρ else dem kc.src ρ) (E s0)) (hst : ∀ s x, TgJ st (e x) (E s) (E1 s x))
    (hb : ∀ s x, x ∈ xs → TB K Wx wb tb (E1 s x) (f s x) (oC E eR r)) : TB K Wx (ns ++ wb) (tFor wi g tb) ρ (loopC f xs s0) (oS E eR r) := by
  have hF : ∀ s x, ∃ ρ1, st (e x) (E s) = some ρ1 ∧ LessE ρ1 (E1 s x) := fun s x => hst s x _ .refl
  exact s_forC (fun s x => Classical.choose (hF s x)) hi hg h0 (fun s x => (Classical.choose_spec (hF s x)).1) fun s x hx => s_in (Classical.choose_spec (hF s x)).2 (hb s x hx)
theorem LessE.kv {ρ ρ' : Env} {Fs : Nat → List Addr} {H : Hp} {v : V} {F : List Addr} {k : Kd} (l : LessE ρ ρ') (h : KV ρ' Fs H v F k) : KV ρ Fs H v F k := by
  have s1 : ∀ {L : List Nat} {a : Addr}, Src ρ' Fs L a → Src ρ Fs L a := fun ⟨i, hi, ⟨d, m, q⟩, ma⟩ => by
    obtain ⟨m0, h1, _⟩ := l.le i d m q
    exact ⟨i, hi, ⟨d, m0, h1⟩, ma⟩
  have s2 : ∀ {L : List Nat} {a : Addr}, Src2 ρ' Fs L a → Src2 ρ Fs L a := fun ⟨i, hi, ⟨d, q⟩, ma⟩ => by
    obtain ⟨m0, h1, h2⟩ := l.le i d 2 q
    rcases h2 with rfl | z | ⟨z, _⟩
    · exact ⟨i, hi, ⟨d, h1⟩, ma⟩
    · cases z
    · cases z
  refine ⟨?_, h.2⟩
  cases k with
  | mv L => exact ⟨h.1.1, fun a ha => (h.1.2 a ha).imp id s2⟩
  | sp L => exact fun a ha => (h.1 a ha).imp id s1
  | bo L => exact fun a ha => (h.1 a ha).imp id s1
theorem e_in {ρ ρ' : Env} {o : Option (PyData × Kd)} (l : LessE ρ ρ') (h : VE K te (pE ρ' o)) : VE K te (pE ρ o) := fun B AF σ H ρ0 Fs d k S eo Q q => by
  obtain ⟨e0, e1⟩ := pE_some eo
  subst e0
  exact h B AF σ H _ Fs d k (S.lessE l) (pE_same.trans e1) Q fun v H' F g r kv => q v H' F g r (l.kv kv)
theorem c_in {ρ ρ' : Env} {o : Option Bool} (l : LessE ρ ρ') (h : VT K tc (pE ρ' o)) : VT K tc (pE ρ o) := fun B AF σ H ρ0 Fs b S eo Q q => by
  obtain ⟨e0, e1⟩ := pE_some eo
  subst e0
  exact h B AF σ H _ Fs b (S.lessE l) (pE_same.trans e1) Q q
section
variable {e' : β → PyData} {c : α → Option Bool} {f : α → Option β} {ys : List β} {ke : Kd} {vs : List Nat} {tt : TT} {un : Unit} {Lm : List Nat}
theorem q_lcF [Flat e'] (E1 : α → Env) (hi : PI' K wi ρ (xs.map e) kc) (hg : VG K ns g st) (hst : ∀ x, TgJ st (e x) (wipeE (zeroE ρ) vs) (E1 x)) (ht : ∀ x, x ∈ xs → TV K tt (E1 x) (c x)) (he : ∀ x, x ∈ xs → EV K te (E1 x) (f x) e' ke)
    (hl : chk (decide (xs.length ≤ 1000000)) = some un) (h : filO c f xs = some ys) (hv : ∀ i ∈ ns, i ∈ vs) : PV K (tLc wi g tt te vs) ρ (.list (ys.map e')) (.mv []) := by
  have hF : ∀ x, ∃ ρ1, st (e x) (wipeE (zeroE ρ) vs) = some ρ1 ∧ LessE ρ1 (E1 x) := fun x => hst x _ .refl
  exact p_lcF (fun x => Classical.choose (hF x)) hi hg (fun x => (Classical.choose_spec (hF x)).1) (fun x hx => c_in (Classical.choose_spec (hF x)).2 (ht x hx)) (fun x hx => e_in (Classical.choose_spec (hF x)).2 (he x hx)) hl h hv
theorem q_lcM (E1 : α → Env) (hi : PI' K wi ρ (xs.map e) kc) (hg : VG K ns g st) (hst : ∀ x, TgJ st (e x) (wipeE (zeroE ρ) vs) (E1 x)) (ht : ∀ x, x ∈ xs → TV K tt (E1 x) (c x)) (he : ∀ x, x ∈ xs → EV K te (E1 x) (f x) e' (.mv Lm))
    (hl : chk (decide (xs.length ≤ 1000000)) = some un) (h : filO c f xs = some ys) (hv : ∀ i ∈ ns, i ∈ vs) : PV K (tLc wi g tt te vs) ρ (.list (ys.map e')) (.mv []) := by
  have hF : ∀ x, ∃ ρ1, st (e x) (wipeE (zeroE ρ) vs) = some ρ1 ∧ LessE ρ1 (E1 x) := fun x => hst x _ .refl
  exact p_lcM (fun x => Classical.choose (hF x)) hi hg (fun x => (Classical.choose_spec (hF x)).1) (fun x hx => c_in (Classical.choose_spec (hF x)).2 (ht x hx)) (fun x hx => e_in (Classical.choose_spec (hF x)).2 (he x hx)) hl h hv
theorem q_lcS (M : List Nat) (E1 : α → Env) (hi : PI' K wi ρ (xs.map e) kc) (hg : VG K ns g st) (hst : ∀ x, TgJ st (e x) (wipeE (zeroE ρ) vs) (E1 x)) (ht : ∀ x, x ∈ xs → TV K tt (E1 x) (c x)) (he : ∀ x, x ∈ xs → EV K te (E1 x) (f x) e' ke)
    (hl : chk (decide (xs.length ≤ 1000000)) = some un) (h : filO c f xs = some ys) (hv : ∀ i ∈ ns, i ∈ vs) (hs : (kc.src ++ ke.src.filter fun i => !ns.contains i).all M.contains = true) : PV K (tLc wi g tt te vs) ρ (.list (ys.map e')) (.sp M) := by
  have hF : ∀ x, ∃ ρ1, st (e x) (wipeE (zeroE ρ) vs) = some ρ1 ∧ LessE ρ1 (E1 x) := fun x => hst x _ .refl
  exact p_lcS M (fun x => Classical.choose (hF x)) hi hg (fun x => (Classical.choose_spec (hF x)).1) (fun x hx => c_in (Classical.choose_spec (hF x)).2 (ht x hx)) (fun x hx => e_in (Classical.choose_spec (hF x)).2 (he x hx)) hl h hv hs
end
end
section
variable {α β τ R : Type} {K : PySem.W.Frag} {Wx : WxT} {wr : List Nat} {ts : TS} {te : TE} {ρ : Env} {out : β → Out} {k : Kd} {e : α → PyData} {E E2 : τ → Env} {eR : R → PyData} {r : Nat}
theorem p_unO {o : Option α} {v : α} (h : o = some v) (D : PV K te ρ (EO e o) k) : PV K te ρ (e v) k := by
  subst h
  exact D
theorem fl_cons [Flat e] {a : α} {ds : List PyData} (h : flatL ds = true) : flatL (e a :: ds) = true := by simp [h, Flat.flat]
theorem s_lastO {c : Option τ} {n : τ → Option β} (h : TB K Wx wr ts ρ c (oN E)) (l : ∀ s, LessE (E s) (E2 s)) (hn : ∀ s, (n s).map out = some (.nx (E2 s)) := by intros; rfl) : TB K Wx wr ts ρ (c.bind n) out := by
  cases c with
  | none => exact h
  | some s =>
    show VS K Wx wr ts (pE ρ ((n s).map out))
    rw [hn s]
    exact s_out h (l s)
theorem s_lastR {c : Option (Res τ R)} {n : τ → Option β} {ret : R → Option β} (h : TB K Wx wr ts ρ c (oS E eR r)) (l : ∀ s, LessE (E s) (E2 s)) (hr : ∀ x, (ret x).map out = some (.rt (eR x) r)) (hn : ∀ s, (n s).map out = some (.nx (E2 s)) := by intros; rfl) : TB K Wx wr ts ρ (resK c n ret) out := by
  cases c with
  | none => exact h
  | some s =>
    cases s with
    | on s =>
      show VS K Wx wr ts (pE ρ ((n s).map out))
      rw [hn s]
      exact s_out h (l s)
    | rt x =>
      show VS K Wx wr ts (pE ρ ((ret x).map out))
      rw [hr x]
      exact h
/-- a loop that only a return leaves, at the end -/
theorem s_endR {c : Option (Res τ R)} (h : TB K Wx wr ts ρ c (oS E eR r)) : TB K Wx wr ts ρ (resK c (fun _ => none) some) (oR eR r) := by
  cases c with
  | none => exact h
  | some s =>
    cases s with
    | on s =>
      intro B AF σ H ρ' Fs d S eo D p
      obtain ⟨e0, e1⟩ := pE_some eo
      cases e1
    | rt x => exact h
theorem nb_res {c : Option (Res τ R)} {f : τ → Option β} {g : R → Option β} (h : ∀ s, NB (f s) out) (k : ∀ x, NB (g x) out) : NB (resK c f g) out := nb_bind fun x => by
  cases x with
  | on s => exact h s
  | rt y => exact k y
theorem LessE.f2 [Flat e] {a : α} {ρ ρ' : Env} (h : LessE ρ ρ') : LessE (some (e a, m02 (e a)) :: ρ) (some (e a, 2) :: ρ') := by
  unfold m02
  rw [if_pos (Flat.flat a)]
  exact h.s
end
end Va

/-! Vs1: t.index(x), sorted(set(t)), for tuples of ints. -/
namespace L2
open PySem PySem.Spec PyProof.Rows
section
variable {X : Cx} {o e : Expr} {es : List Expr} {to : TE} {t : TA} {name : Str} {apos cpos : Pos} {id : String} {r : V → List V → Hp → VK → Prop}
def tBMT (K : PySem.W.Frag) (r : V → List V → Hp → VK → Prop) (to : TE) (t : TA) : TE := fun σ H Q => to σ H fun x H1 => (∃ p xs, x = .ref p ∧ SqT K H1 p xs ∧ Va.NoD K H1 p) ∧ t σ H1 fun xs H2 => r x xs H2 Q
theorem pe_bmT (slot : Slot "tuple" name id) (hty : typeOf (.builtin id) = pure (.type "method_descriptor")) (hm : MtR X id r) (ho : PE X o to) (ha : PA X (e :: es) t)
    (hbase : attributeBase o name X.env (eval o X.env) = eval o X.env := by rfl)
    (hfew : ((backTo cpos (starEach (e :: es) X.env)).all (fun x => !x.1) && (backToKw cpos (keywordEach [] X.env)).all (fun x => x.1.isSome)
      && decide ((e :: es).length + ([] : List Keyword).length + (if ([] : List Keyword).isEmpty then 0 else 1) < 30)) = true := by rfl)
    (hline : (apos.endLine == cpos.line) = true := by rfl) (hs : starEach (e :: es) X.env = (false, eval e X.env) :: starEach es X.env := by rfl) (hplain : (backTo cpos (starEach es X.env)).any (·.1) = false := by rfl) :
    PE X (.Call (.Attribute o name apos) (e :: es) [] cpos) (tBMT X.K r to t) := by
  refine ⟨fun pins s σ H Q I h => ?_⟩
  refine wpAny_Call_method_late hbase hfew hline rfl (thn (ho.run pins s σ H _ I h) fun v s1 ⟨x, H1, I1, r1, ty, q1⟩ => ?_)
  obtain ⟨p, xs, rfl, hq, hn⟩ := ty
  cases r1
  obtain ⟨its, _, pt, _⟩ := I1.tuple hq
  have h1 : s1.TypeIs (.ref p) "tuple" := let ⟨o, ho, hc, _⟩ := pt; ⟨o, ho, hc⟩
  have h2 : ∀ a, Value.ref p = .ref a → ∃ ob, s1.heap.get? a = some ob ∧ ob.dict = none := fun a ea => by
    cases ea
    rcases hn with ⟨ob, u, e1, e2⟩ | ⟨ob, e1, e2⟩
    · exact ⟨ob, (I1.hok p _ e1).1, e2⟩
    · exact ⟨ob, I1.kIn p ob e1, e2⟩
  refine ⟨"tuple", id, PySem.F.plainAttrs_tuple, slot, hty, h1, h2, ?_⟩
  have hA := ha.run cpos pins s1 σ H1 _ I1 q1
  rw [hs] at hA ⊢
  refine Calls.callWith_builtin (by show (false || (backTo cpos (starEach es X.env)).any (·.1)) = false; rw [hplain] <;> rfl) (Calls.evalArgs_plain ?_)
  exact thn hA fun us s2 ⟨vs, H2, I2, r2, q2⟩ => hm pins s2 σ H2 (.ref p) vs (.ref p) us Q I2 rfl r2 q2
theorem flat_ints (ys : List Int) : (ys.map V.int).all flatV = true := by
  rw [List.all_map]
  exact List.all_eq_true.mpr fun _ _ => rfl
def rIdxI (K : PySem.W.Frag) : V → List V → Hp → VK → Prop := fun x xs H Q => ∃ p, ∃ ys : List Int, ∃ z j, x = .ref p ∧ xs = [.int z] ∧ SqT K H p (ys.map V.int) ∧ ys[j]? = some z ∧ (∀ m, m < j → ys[m]? ≠ some z) ∧ Q (.int (j : Nat)) H
theorem mt_tup_indexI : MtR X "tuple.index" (rIdxI X.K) := by
  intro pins s σ H x xs v us Q I rx rs h
  obtain ⟨p, ys, z, j, rfl, rfl, hq, hy, hno, q⟩ := h
  cases rx
  obtain ⟨u, rfl, t, rfl⟩ := vals1 rs
  obtain ⟨its, r, pl, hz⟩ := I.tuple hq
  obtain ⟨⟨cls, dd, dt, sl⟩, ho, hc, n, hd⟩ := pl
  simp only at hc hd
  subst hc
  subst hd
  have hl : its.toArray.size = ys.length := by rw [List.size_toArray, ← r.length, List.length_map]
  have hj : j < its.toArray.size := by rw [hl]; exact (List.getElem?_eq_some_iff.mp hy).1
  have at' : ∀ (m : Nat) (hm : m < its.toArray.size), ∃ y t', ys[m]? = some y ∧ its.toArray[m] = Value.int y t' := fun m hm => by
    have hm' : m < ys.length := by rw [← hl]; exact hm
    obtain ⟨w, hw, t', hw'⟩ := r.get (i := m) (x := .int ys[m]) (by simp [hm'])
    refine ⟨ys[m], t', List.getElem?_eq_getElem hm', ?_⟩
    have e := (List.getElem?_eq_some_iff.mp hw).2
    rw [← hw', ← e]
    simp
  refine call_meets PySem.F.slot_tuple_index ⟨_, ho, rfl⟩ PySem.F.entry_tuple_index (PySem.F.args_tuple_index_2 _ _) (TI.tuple_indexAt p its.toArray n dd sl (.int z t) (eqU (.int z)) j hj ?_ ?_)
    ⟨ho, fun w hw => mem_eqAt (x := .int z) ⟨t, rfl⟩ rfl r (flat_ints ys) w (by simpa using hw), ⟨.int (j : Nat), H, I.tok _, ⟨_, rfl⟩, q⟩⟩
  · obtain ⟨y, t', h1, h2⟩ := at' j hj
    rw [hy] at h1
    cases h1
    rw [h2]
    show (z == z) = true
    exact beq_self_eq_true z
  · intro m hm hmj
    obtain ⟨y, t', h1, h2⟩ := at' m hm
    rw [h2]
    show (y == z) = false
    exact beq_eq_false_iff_ne.mpr fun e => hno m hmj (e ▸ h1)
/-- set(t), t a tuple of ints -/
def rSetTI (K : PySem.W.Frag) (w : World) : List V → Hp → VK → Prop := fun xs H Q => ∃ (p : Addr) (ns : List Int), xs = [.ref p] ∧ SqT K H p (ns.map V.int) ∧ ns.length ≤ 1000 ∧
  ∀ (q : Addr) (c : Nat), H q = none → c ≤ ns.length → Q (.ref q) (upd H q (SetO w q (fun j => decide (j ∈ ns)) c))
theorem cr_setTI (hc : X.calm = true) : CallR X (.type "set") (rSetTI X.K X.w) := by
  intro pins s σ H xs us Q I r h
  obtain ⟨p, ns, rfl, hq, hl, q⟩ := h
  obtain ⟨u, rfl, rx⟩ := vals1 r
  cases rx
  obtain ⟨its, rv, pt, hz⟩ := I.tuple hq
  have hi : IntsAre its.toArray.toList ns := ints_of_vals rv
  refine call_set_tupI ns (I.ok.hd hc) (show s.heap.IsTuple p its.toArray from pt) hi (by unfold scanBound; omega) fun h' tk c R1 hcn k => ?_
  exact ⟨.ref _, upd H s.heap.objs.size (SetO X.w s.heap.objs.size (fun j => decide (j ∈ ns)) c), I.laid (t' := tk) (fun b u e => k b u e) (Nat.le_refl _) (setO_new R1), rfl, q _ _ (I.hok.fresh (Nat.le_refl _)) hcn⟩
end
end L2
namespace Va
open PySem L2 PyProof.Rows PySem.W PySem.Calls
def idxO (xs : List Int) (x : Int) : Option Int := match xs with
  | [] => none
  | y :: ys => if y = x then some 0 else (idxO ys x).map fun i => i + 1
theorem idxO_some : ∀ {xs : List Int} {x i : Int}, idxO xs x = some i → ∃ j : Nat, i = j ∧ xs[j]? = some x ∧ ∀ m, m < j → xs[m]? ≠ some x
  | [], x, i, h => by cases h
  | y :: ys, x, i, h => by
    unfold idxO at h
    split at h
    · rename_i e
      cases h
      exact ⟨0, rfl, by rw [e]; rfl, fun m hm => absurd hm (Nat.not_lt_zero _)⟩
    · rename_i e
      obtain ⟨i', h1, rfl⟩ := Option.map_eq_some_iff.mp h
      obtain ⟨j, rfl, h2, h3⟩ := idxO_some h1
      refine ⟨j + 1, by omega, by simpa using h2, fun m hm => ?_⟩
      cases m with
      | zero => simpa using e
      | succ m => simpa using h3 m (by omega)
def dedupI : List Int → List Int
  | [] => []
  | x :: xs => if x ∈ dedupI xs then dedupI xs else x :: dedupI xs
theorem mem_dedupI {y : Int} : ∀ {xs : List Int}, y ∈ dedupI xs ↔ y ∈ xs
  | [] => by simp [dedupI]
  | x :: xs => by
    unfold dedupI
    split
    · rename_i h
      rw [mem_dedupI, List.mem_cons]
      constructor
      · exact .inr
      · rintro (rfl | h')
        · exact mem_dedupI.mp h
        · exact h'
    · rw [List.mem_cons, List.mem_cons, mem_dedupI]
theorem nodup_dedupI : ∀ xs : List Int, (dedupI xs).Nodup
  | [] => List.nodup_nil
  | x :: xs => by
    unfold dedupI
    split
    · exact nodup_dedupI xs
    · rename_i h
      exact List.nodup_cons.mpr ⟨h, nodup_dedupI xs⟩
/-- sorted(set(xs)) -/
def setO' (xs : List Int) : List Int := sortI ltI (dedupI xs)
theorem sorted_one {xs ys : List Int} (h1 : xs.Pairwise (· < ·)) (h2 : ys.Pairwise (· < ·)) (h : ∀ k, k ∈ xs ↔ k ∈ ys) : xs = ys := by
  have n1 : xs.Nodup := h1.imp fun q e => by subst e; exact Int.lt_irrefl _ q
  have n2 : ys.Nodup := h2.imp fun q e => by subst e; exact Int.lt_irrefl _ q
  have p : xs.Perm ys := (List.perm_ext_iff_of_nodup n1 n2).mpr h
  exact p.eq_of_pairwise (le := fun a b => a < b) (fun a b _ _ x y => absurd x (Int.lt_asymm y)) h1 h2
theorem setO'_lt (xs : List Int) : (setO' xs).Pairwise (· < ·) := by
  have p : (setO' xs).Perm (dedupI xs) := List.mergeSort_perm _ _
  have n : (setO' xs).Nodup := p.nodup_iff.mpr (nodup_dedupI xs)
  have s : (setO' xs).Pairwise fun a b => (!ltI b a) = true := List.pairwise_mergeSort (le := fun a b => !ltI b a) (fun a b c h k => by simp [ltI] at *; omega) (fun a b => by simp [ltI]; omega) _
  exact (List.Pairwise.and n s).imp fun {a b} ⟨h1, h2⟩ => by simp [ltI] at h2; omega
theorem mem_setO' {xs : List Int} {k : Int} : k ∈ setO' xs ↔ k ∈ xs := by
  have p : (setO' xs).Perm (dedupI xs) := List.mergeSort_perm _ _
  rw [p.mem_iff, mem_dedupI]
section
variable {K : PySem.W.Frag} {te ta : TE} {ρ : Env} {k k2 : Kd}
theorem p_idxT {xs : List Int} {x i : Int} (h1 : PV K te ρ (.tuple (xs.map .int)) k) (h2 : PV K ta ρ (.int x) k2) (h : idxO xs x = some i) : PV K (tBMT K (rIdxI K) te (tCons ta tNil)) ρ (.int i) (.mv []) := by
  obtain ⟨j, rfl, hj, hno⟩ := idxO_some h
  intro B AF σ H ρ' Fs d k' S eo Q q
  obtain ⟨e0, e1⟩ := pE_some eo
  subst e0
  cases e1
  refine h1 B AF σ H _ Fs _ _ S pE_same _ fun v H1 F g1 r1 o1 => ?_
  cases r1 with
  | tup ht rl =>
    have ev : ∀ {vs : List V} {ys : List Int} {F : List Addr}, RpL K H1 vs (ys.map PyData.int) F → vs = ys.map V.int := by
      intro vs ys
      induction ys generalizing vs with
      | nil => intro F r; cases r; rfl
      | cons y ys ih => intro F r; cases r with
        | cons a b => cases a; rw [ih b]; rfl
    have := ev rl
    subst this
    refine ⟨⟨_, _, rfl, ht.1, ht.2⟩, h2 B AF σ H1 _ Fs _ _ (S.grow g1) pE_same _ fun u H2 F2 g2 r2 o2 => ?_⟩
    cases r2
    exact ⟨_, xs, x, j, rfl, rfl, g2.sqT ht.1, hj, hno, q _ H2 [] (g1.trans g2) (.int _) .nil⟩
theorem p_sortedSet {w : World} {xs : List Int} {u : Unit} (h1 : PV K te ρ (.tuple (xs.map .int)) k) (h : chk (decide (xs.length < 64)) = some u) : PV K (tCB (rSortedSet w) (tCons (tCB (rSetTI K w) (tCons te tNil)) tNil)) ρ (.list ((setO' xs).map .int)) (.mv []) := by
  have hl : xs.length < 64 := by simpa using chk_some h
  intro B AF σ H ρ' Fs d k' S eo Q q
  obtain ⟨e0, e1⟩ := pE_some eo
  subst e0
  cases e1
  refine h1 B AF σ H _ Fs _ _ S pE_same _ fun v H1 F g1 r1 o1 => ?_
  cases r1 with
  | tup ht rl =>
    have ev : ∀ {vs : List V} {ys : List Int} {F : List Addr}, RpL K H1 vs (ys.map PyData.int) F → vs = ys.map V.int := by
      intro vs ys
      induction ys generalizing vs with
      | nil => intro F r; cases r; rfl
      | cons y ys ih => intro F r; cases r with
        | cons a b => cases a; rw [ih b]; rfl
    have := ev rl
    subst this
    refine ⟨_, xs, rfl, ht.1, by omega, fun q' c hq' hc => ?_⟩
    refine ⟨q', _, c, rfl, upd_same, by omega, fun ns p hp hmem hlen hp0 => ?_⟩
    have e : ns = setO' xs := sorted_one hp (setO'_lt xs) fun k => by rw [hmem k, mem_setO', decide_eq_true_eq]
    subst e
    have hHp : H p = none := by
      have := hp0
      by_cases hpq : p = q'
      · subst hpq; rw [upd_same] at this; cases this
      · rw [upd_ne hpq] at this; exact g1.back this
    refine q _ _ [p] ((g1.trans (.new hq')).trans (.new hp0)) ?_ (.mv ⟨by simp, fun a ha => by rcases List.mem_singleton.mp ha with rfl; exact .inl hHp⟩)
    have := Rp.lst (K := K) (H := upd (upd H1 q' (SetO w q' (fun j => decide (j ∈ xs)) c)) p (.lst ((setO' xs).map V.int))) upd_same (rp_ints (setO' xs))
    exact this
end
end Va

/-! Vs2: one of two defs as a value; calls of it. -/
namespace Va
open Classical
open PySem L2 PyProof.Rows PySem.W PySem.Calls
@[reducible] def fnD (a : Addr) : PyData := .dict [(.none, .int (a : Nat))]
@[reducible] def EFn (f1 f2 : Addr) : Bool → PyData := fun b => fnD (if b = true then f1 else f2)
instance {f1 f2 : Addr} : Flat (EFn f1 f2) := ⟨fun b => by simp [EFn, fnD, Va.flat]⟩
noncomputable def S2 (f1 f2 : Addr) (s1 s2 : Sp) : Addr → Option Sp := fun f => if f = f1 then some s1 else if f = f2 then some s2 else none
theorem held2 {P : Program} {w : World} {K : PySem.W.Frag} {mg : Str → Option Value} {base : Heap} {x1 x2 : Str} {k1 k2 k n : Nat} {R1 R2 : List PyData → PyData × Nat → Prop} {f1 f2 : Addr}
    (c1 : Clr P w K mg base x1 k1 n R1) (c2 : Clr P w K mg base x2 k2 n R2) (g1 : mg x1 = some (.ref f1)) (g2 : mg x2 = some (.ref f2)) (h1 : k1 ≤ k) (h2 : k2 ≤ k) :
    ∀ f sp, S2 f1 f2 (spR K n R1) (spR K n R2) f = some sp → Held P w K mg base k f sp := by
  intro f sp h
  unfold S2 at h
  split at h
  · rename_i e
    subst e
    cases h
    obtain ⟨f', fd, ps, F, a1, a2, a3⟩ := c1.ex
    rw [g1] at a1
    cases a1
    exact ⟨fd, ps, F.mono h1, a2, a3⟩
  · split at h
    · rename_i e
      subst e
      cases h
      obtain ⟨f', fd, ps, F, a1, a2, a3⟩ := c2.ex
      rw [g2] at a1
      cases a1
      exact ⟨fd, ps, F.mono h2, a2, a3⟩
    · cases h
section
variable {A Rt : Type} {K : PySem.W.Frag} {t : TA} {tt : TT} {ρ : Env} {ds : List PyData} {k : Kd} {n i m r : Nat} {encs : A → List PyData} {L1 L2 : A → Option Rt} {e : Rt → PyData} {f1 f2 : Addr} {b : Bool}
theorem p_fnIf (ht : PT' K tt ρ b) : PV K (tIf tt (tC (.ref f1)) (tC (.ref f2))) ρ (EFn f1 f2 b) (.mv []) := by
  have one : ∀ f : Addr, VE K (tC (.ref f)) (fun _ => some (fnD f, .mv [])) := fun f B AF σ H ρ' Fs d k S eo Q q => by
    cases eo
    exact q _ H [] (.refl H) (.fn f) .nil
  refine (ve_if ht (one f1) (one f2)).at ?_
  rw [pE_same, Option.bind_some]
  cases b <;> rfl
theorem p_callAG {a : A} {x : Rt} (hne : f1 ≠ f2) (h : ρ[i]? = some (some (EFn f1 f2 b, m))) (hL : (if b = true then L1 a else L2 a) = some x) (ha : PA' K t ρ ds k) (hds : ds = encs a) (hn : ds.length = n) :
    PV K (tCallA i (S2 f1 f2 (spR K n (RelT encs L1 e r)) (spR K n (RelT encs L2 e r))) t) ρ (e x) (calK (e x) r k) := by
  intro B AF σ H ρ' Fs d k' S eo Q q
  obtain ⟨e0, e1⟩ := pE_some eo
  subst e0
  cases e1
  obtain ⟨v, hv, rv, _⟩ := S.val i _ m h
  obtain ⟨a', rfl, ea, _⟩ := rv.fn_inv
  have ea' : (if b = true then f1 else f2) = a' := by exact_mod_cast ea
  subst ea'
  have main : ∀ (LL : A → Option Rt), LL a = some x → t σ H fun vs H1 => spR K n (RelT encs LL e r) vs H1 Q fun _ _ _ => False := fun LL hl => by
    refine ha B AF σ H _ Fs ds k S pE_same _ fun vs H1 F g1 r1 o1 => ?_
    have := vf_call (n := n) (m := fun ds' => if ds' = ds then some (e x, r) else none) (E := fun _ _ _ => False) _ Fs H H1 vs ds F k (e x) (calK (e x) r k) (S.grow g1).same.tab g1 r1 o1 (by simp [gCall, hn]) Q fun v H3 G' g3 r3 o3 => q v H3 G' (g1.trans g3) r3 o3
    simp only [List.append_nil] at this
    exact spOf_R (relT_one hl hds) this
  cases b with
  | true =>
    rw [if_pos rfl] at hL hv
    exact ⟨f1, _, hv, if_pos rfl, main L1 hL⟩
  | false =>
    rw [if_neg Bool.false_ne_true] at hL hv
    refine ⟨f2, _, hv, ?_, main L2 hL⟩
    unfold S2
    rw [if_neg hne.symm, if_pos rfl]
theorem p_callA2 {a : A} {x : Rt} (hne : f1 ≠ f2) (h : ρ[i]? = some (some (EFn f1 f2 b, m))) (hL : (if b = true then L1 a else L2 a) = some x) (ha : PA' K t ρ ds k) (hds : ds = encs a) (hn : ds.length = n) :
    PV K (tCallA i (S2 f1 f2 (spR K n (RelT encs L1 e 2)) (spR K n (RelT encs L2 e 2))) t) ρ (e x) (.mv []) := by
  have := p_callAG (r := 2) (e := e) hne h hL ha hds hn
  rwa [calK2] at this
end
end Va

/-! Vs3: more expression rules. -/
namespace Va
open PySem L2 PyProof.Rows PySem.W PySem.Calls
section
variable {α : Type} {e : α → PyData} {K : PySem.W.Frag} {te : TE} {ρ : Env} {k : Kd}
theorem mapO_id : ∀ {xs : List (Option α)} {ys : List α}, mapO id xs = some ys → xs = ys.map some
  | [], ys, h => by cases h; rfl
  | x :: xs, ys, h => by
    rw [mapO] at h
    obtain ⟨y, h1, h2⟩ := Option.bind_eq_some_iff.mp h
    obtain ⟨zs, h3, h4⟩ := Option.bind_eq_some_iff.mp h2
    cases h4
    rw [List.map_cons, ← mapO_id h3, show x = some y from h1]
theorem p_unL {xs : List (Option α)} {ys : List α} (h : mapO id xs = some ys) (D : PV K te ρ (EL (EO e) xs) k) : PV K te ρ (EL e ys) k := by
  have : EL (EO e) xs = EL e ys := by
    rw [mapO_id h]
    show PyData.list _ = PyData.list _
    rw [List.map_map]
    rfl
  rwa [this] at D
end
end Va

/-! Vd1: what is asked of a dict, and what is stored in it. -/
namespace Va
open PySem L2 PyProof.Rows
/-! ### keys -/
mutual
def noTx : NestedKey → Bool
  | .none => true
  | .num _ => true
  | .text _ => false
  | .tup ks => noTxs ks
def noTxs : List NestedKey → Bool
  | [] => true
  | k :: ks => noTx k && noTxs ks
end
mutual
theorem Rp.nk {K : PySem.W.Frag} {H : Hp} : ∀ {v : V} (k : NestedKey) {F : List Addr}, Rp K H v k.data F → noTx k = true → NK K H v k
  | _, .none, _, r, _ => by
    generalize hd : NestedKey.none.data = d at r
    cases r <;> first | exact .non | (simp [NestedKey.data] at hd)
  | _, .num i, _, r, _ => by
    generalize hd : (NestedKey.num i).data = d at r
    cases r <;> first | (simp only [NestedKey.data, PyData.int.injEq] at hd; subst hd; exact .int _) | (simp [NestedKey.data] at hd)
  | _, .text x, _, r, h => by simp [noTx] at h
  | _, .tup ks, _, r, h => by
    generalize hd : (NestedKey.tup ks).data = d at r
    cases r with
    | tup ht rl =>
      simp only [NestedKey.data, PyData.tuple.injEq] at hd
      subst hd
      exact .tup ht (RpL.nk ks rl (by simpa [noTx] using h))
    | _ => simp [NestedKey.data] at hd
theorem RpL.nk {K : PySem.W.Frag} {H : Hp} : ∀ {vs : List V} (ks : List NestedKey) {F : List Addr}, RpL K H vs (NestedKey.datas ks) F → noTxs ks = true → NKL K H vs ks
  | _, [], _, r, _ => by
    generalize hd : NestedKey.datas [] = d at r
    cases r with
    | nil => exact .nil
    | cons _ _ => simp [NestedKey.datas] at hd
  | _, k :: ks, _, r, h => by
    generalize hd : NestedKey.datas (k :: ks) = d at r
    cases r with
    | nil => simp [NestedKey.datas] at hd
    | cons a b =>
      simp only [NestedKey.datas, List.cons.injEq] at hd
      obtain ⟨rfl, rfl⟩ := hd
      simp only [noTxs, Bool.and_eq_true] at h
      exact .cons (Rp.nk k a h.1) (RpL.nk ks b h.2)
end
mutual
theorem data_inj : ∀ (a b : NestedKey), a.data = b.data → a = b
  | .none, .none, _ => rfl
  | .num a, .num b, h => by simp [NestedKey.data] at h; rw [h]
  | .text a, .text b, h => by simp [NestedKey.data] at h; rw [h]
  | .tup a, .tup b, h => by simp only [NestedKey.data, PyData.tuple.injEq] at h; rw [datas_inj a b h]
  | .none, .num _, h | .none, .text _, h | .none, .tup _, h => by simp [NestedKey.data] at h
  | .num _, .none, h | .num _, .text _, h | .num _, .tup _, h => by simp [NestedKey.data] at h
  | .text _, .none, h | .text _, .num _, h | .text _, .tup _, h => by simp [NestedKey.data] at h
  | .tup _, .none, h | .tup _, .num _, h | .tup _, .text _, h => by simp [NestedKey.data] at h
theorem datas_inj : ∀ (a b : List NestedKey), NestedKey.datas a = NestedKey.datas b → a = b
  | [], [], _ => rfl
  | a :: as, b :: bs, h => by
    simp only [NestedKey.datas, List.cons.injEq] at h
    rw [data_inj a b h.1, datas_inj as bs h.2]
  | [], _ :: _, h => by simp [NestedKey.datas] at h
  | _ :: _, [], h => by simp [NestedKey.datas] at h
end
theorem datas_map : ∀ ks : List NestedKey, NestedKey.datas ks = ks.map NestedKey.data
  | [] => rfl
  | k :: ks => by rw [NestedKey.datas, datas_map ks]; rfl
/-- where the key x stands -/
def posL {α : Type} [DecidableEq α] (ks : List α) (x : α) : Option Nat := ks.findIdx? fun k => decide (k = x)
/-- one operation of a dict: at a the keys ks, the values us; v is the key kd, at the place i -/
def DOp (K : PySem.W.Frag) (H : Hp) (v : V) (a : Addr) (kd : PyData) (ks : List PyData) (us : List Value) (i : Option Nat) : Prop :=
  (∃ o xs k b, v = .ref b ∧ NK K H v k ∧ k.depth ≤ 8 ∧ DX K H a o xs ∧ kd = k.data ∧ ks = xs.map (fun q => q.1.data) ∧ us = xs.map (·.2.2) ∧ i = posL (xs.map (·.1)) k) ∨
  (∃ o kvs j, v = .int j ∧ DI H a o kvs ∧ kd = .int j ∧ ks = kvs.map (fun q => PyData.int q.1) ∧ us = kvs.map (·.2) ∧ i = posL (kvs.map (·.1)) j)
section
variable {α β : Type} [DecidableEq α]
theorem posL_map {γ : Type} [DecidableEq γ] {f : α → γ} (hf : ∀ a b, f a = f b → a = b) {ks : List α} {x : α} : posL (ks.map f) (f x) = posL ks x := by
  unfold posL
  rw [List.findIdx?_map]
  congr 1
  funext k
  by_cases h : k = x
  · simp [h]
  · have : ¬ f k = f x := fun z => h (hf _ _ z)
    simp [h, this]
theorem posL_none {ks : List α} {x : α} : posL ks x = none ↔ x ∉ ks := by
  unfold posL
  rw [List.findIdx?_eq_none_iff]
  constructor
  · intro h z; simpa using h x z
  · intro h k hk; simp; rintro rfl; exact h hk
theorem posL_some {ks : List α} {x : α} {i : Nat} (h : posL ks x = some i) : ks[i]? = some x := by
  unfold posL at h
  obtain ⟨h1, h2, _⟩ := List.findIdx?_eq_some_iff_getElem.mp h
  simp only [decide_eq_true_eq] at h2
  rw [List.getElem?_eq_getElem h1, h2]
theorem find_pos {xs : List (α × β)} {x : α} : (xs.find? fun q => decide (q.1 = x)) = (posL (xs.map (·.1)) x).bind fun i => xs[i]? := by
  unfold posL
  induction xs with
  | nil => rfl
  | cons q xs ih =>
    rw [List.find?_cons, List.map_cons, List.findIdx?_cons]
    by_cases h : q.1 = x
    · simp [h]
    · simp only [h, decide_false, Bool.false_eq_true, if_false]
      rw [ih]
      cases List.findIdx? (fun k => decide (k = x)) (xs.map (·.1)) <;> simp
theorem put_set {xs : List (α × β)} {x : α} {y : β} {i : Nat} (hn : (xs.map (·.1)).Nodup) (h : posL (xs.map (·.1)) x = some i) {g : α × β → α × β} (hg : ∀ q, g q = if q.1 = x then (q.1, y) else q) : xs.map g = xs.set i (x, y) := by
  induction xs generalizing i with
  | nil => rfl
  | cons q xs ih =>
    rw [List.map_cons, List.nodup_cons] at hn
    unfold posL at h
    rw [List.map_cons, List.findIdx?_cons] at h
    by_cases e : q.1 = x
    · simp only [e, decide_true, if_true] at h
      cases h
      rw [List.map_cons, List.set_cons_zero, hg, if_pos e, e]
      congr 1
      refine (List.map_congr_left fun r hr => ?_).trans (List.map_id _)
      rw [hg, if_neg]
      · rfl
      · intro z
        exact hn.1 (e ▸ z ▸ List.mem_map_of_mem hr)
    · simp only [e, decide_false, Bool.false_eq_true, if_false] at h
      obtain ⟨j, hj, rfl⟩ := Option.map_eq_some_iff.mp h
      rw [List.map_cons, List.set_cons_succ, hg, if_neg e, ih hn.2 hj]
theorem del_erase {xs : List (α × β)} {x : α} {i : Nat} (hn : (xs.map (·.1)).Nodup) (h : posL (xs.map (·.1)) x = some i) : (xs.filter fun q => decide (q.1 ≠ x)) = xs.eraseIdx i := by
  induction xs generalizing i with
  | nil => rfl
  | cons q xs ih =>
    rw [List.map_cons, List.nodup_cons] at hn
    unfold posL at h
    rw [List.map_cons, List.findIdx?_cons] at h
    by_cases e : q.1 = x
    · simp only [e, decide_true, if_true] at h
      cases h
      rw [List.filter_cons, if_neg (by simp [e]), List.eraseIdx_cons_zero]
      refine List.filter_eq_self.mpr fun r hr => ?_
      simp only [ne_eq, decide_not, Bool.not_eq_true', decide_eq_false_iff_not]
      intro z
      exact hn.1 (e ▸ z ▸ List.mem_map_of_mem hr)
    · simp only [e, decide_false, Bool.false_eq_true, if_false] at h
      obtain ⟨j, hj, rfl⟩ := Option.map_eq_some_iff.mp h
      rw [List.filter_cons, if_pos (by simp [e]), List.eraseIdx_cons_succ, ih hn.2 hj]
end
/-! ### the operations -/
theorem atKey_pos {xs : List Ent} {k : NestedKey} : atKey xs k = (posL (xs.map (·.1)) k).bind fun i => xs[i]?.map (·.2) := by
  unfold atKey
  rw [find_pos]
  cases posL (xs.map (·.1)) k <;> rfl
theorem valueAt_pos {xs : List (Int × Value)} {k : Int} : valueAt xs k = (posL (xs.map (·.1)) k).bind fun i => xs[i]?.map (·.2) := by
  unfold valueAt
  rw [find_pos]
  cases posL (xs.map (·.1)) k <;> rfl
theorem pos_get {α β : Type} [DecidableEq α] {xs : List (α × β)} {k : α} {i : Nat} (h : posL (xs.map (·.1)) k = some i) : ∃ b, xs[i]? = some (k, b) := by
  have := posL_some h
  rw [List.getElem?_map] at this
  obtain ⟨q, h1, h2⟩ := Option.map_eq_some_iff.mp this
  exact ⟨q.2, by rw [h1, ← h2]⟩
theorem atKey_isSome {xs : List Ent} {k : NestedKey} : (atKey xs k).isSome = (posL (xs.map (·.1)) k).isSome := by
  rw [atKey_pos]
  cases h : posL (xs.map (·.1)) k with
  | none => rfl
  | some i => obtain ⟨b, hb⟩ := pos_get h; simp [hb]
theorem valueAt_isSome {xs : List (Int × Value)} {k : Int} : (valueAt xs k).isSome = (posL (xs.map (·.1)) k).isSome := by
  rw [valueAt_pos]
  cases h : posL (xs.map (·.1)) k with
  | none => rfl
  | some i => obtain ⟨b, hb⟩ := pos_get h; simp [hb]
def rInD (K : PySem.W.Frag) : R2 := fun x y H Q => ∃ a kd ks us i, y = .ref a ∧ DOp K H x a kd ks us i ∧ Q (.bl i.isSome) H
def rNinD (K : PySem.W.Frag) : R2 := fun x y H Q => ∃ a kd ks us i, y = .ref a ∧ DOp K H x a kd ks us i ∧ Q (.bl (!i.isSome)) H
def rGetD (K : PySem.W.Frag) : R2 := fun x y H Q => ∃ a kd ks us i vs v, x = .ref a ∧ DOp K H y a kd ks us (some i) ∧ Vals vs us ∧ vs[i]? = some v ∧ Q v H
/-- what stands in it behind a store -/
def keysPut (ks : List PyData) (kd : PyData) : Option Nat → List PyData
  | some _ => ks
  | none => ks ++ [kd]
def valsPut {α : Type} (us : List α) (u : α) : Option Nat → List α
  | some i => us.set i u
  | none => us ++ [u]
def rSetD (K : PySem.W.Frag) : TSet := fun o i v H Q => ∃ a kd ks us j, o = .ref a ∧ DOp K H i a kd ks us j ∧ us.length < 1000000 ∧ ∀ ob u, RelV v u → DicAt K (upd H a (dX a ob)) a (keysPut ks kd j) (valsPut us u j) → Q (upd H a (dX a ob))
theorem stH_keys {xs : List Ent} {k : NestedKey} {b : Addr} {u : Value} : keysPut (xs.map fun q => q.1.data) k.data (posL (xs.map (·.1)) k) = (storedH xs k b u).map fun q => q.1.data := by
  unfold storedH
  rw [atKey_isSome]
  cases hp : posL (xs.map (·.1)) k with
  | none => simp [keysPut]
  | some i =>
    show xs.map (fun q => q.1.data) = (if true = true then xs.map (putAt k u) else _).map _
    rw [if_pos rfl, List.map_map]
    refine List.map_congr_left fun q _ => ?_
    show q.1.data = (putAt k u q).1.data
    unfold putAt
    split <;> rfl
theorem map_set_snd {α β : Type} {xs : List (α × β)} {i : Nat} {p : α × β} : (xs.set i p).map (·.2) = (xs.map (·.2)).set i p.2 := List.map_set
theorem stH_vals {xs : List Ent} {k : NestedKey} {b : Addr} {u : Value} (hn : (xs.map (·.1)).Nodup) : valsPut (xs.map (·.2.2)) u (posL (xs.map (·.1)) k) = (storedH xs k b u).map (·.2.2) := by
  unfold storedH
  rw [atKey_isSome]
  cases hp : posL (xs.map (·.1)) k with
  | none => simp [valsPut]
  | some i =>
    show (xs.map (·.2.2)).set i u = (if true = true then xs.map (putAt k u) else _).map _
    rw [if_pos rfl]
    have e1 : (xs.map fun q : Ent => (q.1, q.2.2)).map (·.1) = xs.map (·.1) := by rw [List.map_map]; rfl
    have h := put_set (xs := xs.map fun q : Ent => (q.1, q.2.2)) (x := k) (y := u) (i := i) (by rw [e1]; exact hn) (by rw [e1]; exact hp) (g := fun q => if q.1 = k then (q.1, u) else q) (fun _ => rfl)
    have h2 := congrArg (List.map (·.2)) h
    rw [map_set_snd, List.map_map, List.map_map, List.map_map] at h2
    rw [List.map_map]
    refine Eq.trans ?_ (h2.symm.trans ?_)
    · rfl
    · refine List.map_congr_left fun q _ => ?_
      show (if q.1 = k then (q.1, u) else (q.1, q.2.2)).2 = (putAt k u q).2.2
      unfold putAt
      split <;> rfl
theorem any_pos {xs : List (Int × Value)} {k : Int} : (xs.any fun kv => decide (kv.1 = k)) = (posL (xs.map (·.1)) k).isSome := by
  rw [← valueAt_isSome]
  unfold valueAt
  rw [Option.isSome_map]
  induction xs with
  | nil => rfl
  | cons q xs ih =>
    rw [List.any_cons, List.find?_cons]
    by_cases h : q.1 = k
    · simp [h]
    · simp only [h, decide_false, Bool.false_or]
      exact ih
theorem st_keys {xs : List (Int × Value)} {k : Int} {u : Value} : keysPut (xs.map fun q => PyData.int q.1) (.int k) (posL (xs.map (·.1)) k) = (stored xs k u).map fun q => PyData.int q.1 := by
  unfold stored
  rw [any_pos]
  cases hp : posL (xs.map (·.1)) k with
  | none => simp [keysPut]
  | some i =>
    show xs.map (fun q => PyData.int q.1) = (if true = true then xs.map _ else _).map _
    rw [if_pos rfl, List.map_map]
    refine List.map_congr_left fun q _ => ?_
    show PyData.int q.1 = PyData.int (if q.1 = k then (q.1, u) else q).1
    split <;> rfl
theorem st_vals {xs : List (Int × Value)} {k : Int} {u : Value} (hn : (xs.map (·.1)).Nodup) : valsPut (xs.map (·.2)) u (posL (xs.map (·.1)) k) = (stored xs k u).map (·.2) := by
  unfold stored
  rw [any_pos]
  cases hp : posL (xs.map (·.1)) k with
  | none => simp [valsPut]
  | some i =>
    show (xs.map (·.2)).set i u = (if true = true then xs.map (fun kv => if kv.1 = k then (kv.1, u) else kv) else _).map _
    rw [if_pos rfl, put_set hn hp (fun _ => rfl), map_set_snd]
section
variable {X : Cx}
theorem op_inDc (hu : X.A.units + 65 < cLine) : OpR X (compareOp .In) (rInD X.K) := by
  intro pins s σ H x y v u Q I rx ry h
  obtain ⟨a, kd, ks, us, i, rfl, d, q⟩ := h
  cases (show u = Value.ref a from ry)
  rcases d with ⟨o, xs, k, b, rfl, hk, hd, dd, _, _, _, rfl⟩ | ⟨o, kvs, j, rfl, dd, _, _, _, rfl⟩
  · cases (show v = Value.ref b from rx)
    refine t_in hu I dd hk hd fun s' I' => ⟨.bl _, H, I', rfl, ?_⟩
    rw [atKey_isSome]
    exact q
  · refine i_in I dd rx fun s' I' => ⟨.bl _, H, I', rfl, ?_⟩
    rw [valueAt_isSome]
    exact q
theorem op_ninDc (hu : X.A.units + 65 < cLine) : OpR X (compareOp .NotIn) (rNinD X.K) := by
  intro pins s σ H x y v u Q I rx ry h
  obtain ⟨a, kd, ks, us, i, rfl, d, q⟩ := h
  cases (show u = Value.ref a from ry)
  rcases d with ⟨o, xs, k, b, rfl, hk, hd, dd, _, _, _, rfl⟩ | ⟨o, kvs, j, rfl, dd, _, _, _, rfl⟩
  · cases (show v = Value.ref b from rx)
    refine t_notIn hu I dd hk hd fun s' I' => ⟨.bl _, H, I', rfl, ?_⟩
    rw [atKey_isSome]
    exact q
  · refine i_notIn I dd rx fun s' I' => ⟨.bl _, H, I', rfl, ?_⟩
    rw [valueAt_isSome]
    exact q
theorem ix_dc (hu : X.A.units + 65 < cLine) : IxR X (rGetD X.K) := by
  intro value slice pins s σ H x y v u Q I rx ry h hs
  obtain ⟨a, kd, ks, us, i, vs, z, rfl, d, hv, hz, q⟩ := h
  cases (show v = Value.ref a from rx)
  obtain ⟨w, hw, rw'⟩ := hv.get hz
  have fin : ∀ s', Inv X pins σ H s' → EP X pins σ Q w s' := fun s' I' => ⟨z, H, I', rw', q⟩
  rcases d with ⟨o, xs, k, b, rfl, hk, hd, dd, _, _, rfl, hi⟩ | ⟨o, kvs, j, rfl, dd, _, _, rfl, hi⟩
  · cases (show u = Value.ref b from ry)
    obtain ⟨p, hp⟩ := pos_get hi.symm
    have e : atKey xs k = some p := by rw [atKey_pos, ← hi]; simp [hp]
    have ew : p.2 = w := by
      rw [List.getElem?_map, hp] at hw
      exact Option.some.inj hw
    exact subscriptTail_builtinR (x := w) (dd.of I).typeIs PySem.F.slot_dict_getitem.lookup (t_get (Q := fun r s' => r = w ∧ EP X pins σ Q r s') hu I dd hk hd e fun s' I' => ⟨ew, ew ▸ fin s' I'⟩) hs
  · obtain ⟨p, hp⟩ := pos_get hi.symm
    have e : valueAt kvs j = some p := by rw [valueAt_pos, ← hi]; simp [hp]
    have ew : p = w := by
      rw [List.getElem?_map, hp] at hw
      exact Option.some.inj hw
    exact subscriptTail_builtinR (x := w) (dd.of I).typeIs PySem.F.slot_dict_getitem.lookup (i_get (Q := fun r s' => r = w ∧ EP X pins σ Q r s') I dd ry e fun s' I' => ⟨ew, ew ▸ fin s' I'⟩) hs
theorem set_dc (hu : X.A.units + 65 < cLine) : PSet X (rSetD X.K) := by
  intro pins s σ H o i v ov iv u Q I ro ri rv h
  obtain ⟨a, kd, ks, us, j, rfl, d, hl, q⟩ := h
  cases (show ov = Value.ref a from ro)
  rcases d with ⟨o, xs, k, b, rfl, hk, hd, dd, rfl, rfl, rfl, rfl⟩ | ⟨o, kvs, n, rfl, dd, rfl, rfl, rfl, rfl⟩
  · cases (show iv = Value.ref b from ri)
    refine t_set hu I dd hk hd (by simpa using hl) fun s' o' I' dd' => ⟨_, I', q o' u rv ?_⟩
    exact .inl ⟨o', _, dd', stH_keys, stH_vals dd.td.nd⟩
  · refine i_set I dd ri (by simpa using hl) fun s' o' I' dd' => ⟨_, I', q o' u rv ?_⟩
    exact .inr ⟨o', _, dd', st_keys, st_vals dd.id.nd⟩
end
end Va

/-! Vd2: {}, del, len, walks of dicts. -/
namespace L2
open PySem PySem.Spec PyProof.Rows
/-- the items of a dict's walk: vs, while the dict at a is the object o -/
def ItDX (a : Addr) (o : Obj) (vs : List V) : It := ⟨fun i H => H a = some (dX a o) ∧ i < vs.length, fun i H x H' => H' = H ∧ vs[i]? = some x, fun i H => H a = some (dX a o) ∧ vs.length ≤ i⟩
/-- the pairs -/
def ItDP (a : Addr) (o : Obj) (ks vs : List V) : It := ⟨fun i H => H a = some (dX a o) ∧ i < ks.length, fun i H x H' => ∃ T k v, ks[i]? = some k ∧ vs[i]? = some v ∧ x = .ref T ∧ H T = none ∧ H' = upd H T (.tup [k, v]), fun i H => H a = some (dX a o) ∧ ks.length ≤ i⟩
section
variable {P : Program} {w : World} {K : PySem.W.Frag} {tg : Expr} {a : Addr} {o : Obj} {es : Array DictEntry} {ep : Nat} {vs ks : List V}
theorem dx_raw {X : Cx} {pins : List (Addr × Obj)} {σ : St} {H : Hp} {s : Shared} (I : Inv X pins σ H s) (e : H a = some (dX a o)) (hc : o.ExactDict) (hd : o.data = .dict es ep) : s.heap.DictRaw a es ep := ⟨o, dX_at I e, hc, hd⟩
theorem es_at {f : DictEntry → Value} (hv : Vals vs (es.toList.map f)) {i : Nat} (hi : i < es.size) : ∃ v, vs[i]? = some v ∧ RelV v (f es[i]) := by
  have hl : vs.length = es.size := by
    have := Vals.length hv
    rwa [List.length_map, Array.length_toList] at this
  obtain ⟨v, hv'⟩ : ∃ v, vs[i]? = some v := ⟨vs[i], List.getElem?_eq_getElem (by omega)⟩
  obtain ⟨u, hu, ru⟩ := hv.get hv'
  rw [List.getElem?_map, Array.getElem?_toList, Array.getElem?_eq_getElem hi] at hu
  cases hu
  exact ⟨v, hv', ru⟩
theorem turn_dk (it : Addr) (hc : o.ExactDict) (hd : o.data = .dict es ep) (hv : Vals vs (es.toList.map (·.key))) : Turn P w K tg (ItDX a o vs) [it] it (fun i h => h.IsKeyIter it a i es.size ep) where
  mem := by simp
  obj := fun i h st b hb => by
    have e : b = it := by simpa using hb
    subst e
    obtain ⟨oi, e, c, dd⟩ := st
    exact ⟨oi, e, fun v z => by rw [dd] at z; cases z⟩
  keep := fun i h h' st k => st.at fun oi e => k it (by simp) oi e
  item := by
    intro X hP hw hK hcalm i pins s σ H E I hf st hg
    subst hP hw hK
    obtain ⟨ha, hi⟩ := hg
    have hl : vs.length = es.size := (Vals.length hv).trans (by rw [List.length_map, Array.length_toList])
    obtain ⟨f0, f1, f2, f3, f4, f5⟩ := hf it (by simp)
    have hi' : i < es.size := by omega
    obtain ⟨v, h1, h2⟩ := es_at hv hi'
    refine wpAny_pyNext_keys_item_raw st (dx_raw I ha hc hd) hi' fun h' st' sb => ?_
    have I1 : Inv X pins σ H { s with heap := h' } := I.turned (t' := s.toks) (fun b ob hb e => (sb.2 b hb).trans e) f0 f1 f3 f4 f5
    obtain ⟨oi, e, c, dd⟩ := id st'
    exact ⟨_, rfl, go_of (s := { s with heap := h' }) e c dd (by decide) ⟨v, H, I1, h2, ⟨rfl, h1⟩, st', fun b hb => (hf b hb).1⟩⟩
  done := by
    intro X hP hw hK hcalm i pins s σ H E I hf st hg
    subst hP hw hK
    obtain ⟨ha, hi⟩ := hg
    have hl : vs.length = es.size := (Vals.length hv).trans (by rw [List.length_map, Array.length_toList])
    obtain ⟨f0, f1, f2, f3, f4, f5⟩ := hf it (by simp)
    exact wpAny_pyNext_keys_end_raw (I.ok.hd hcalm) st (dx_raw I ha hc hd) (by omega) fun h' eb => ⟨rfl, I.turned (t' := s.toks) (fun b ob hb e => eb b ob hb e) f0 f1 f3 f4 f5⟩
  self := fun A i s Q E st h => by
    refine wpAny_pyIter_slot st.typeIs PySem.F.slot_dict_keyiterator_iter (wpAny_call_entry PySem.F.slot_dict_keyiterator_iter st.typeIs PySem.F.entry_dict_keyiterator_iter ?_ (PySem.F.args_dict_keyiterator_iter_1 _))
    show wpAny _ _ (ret (.ref it)) _ _ s
    exact wpAny_pure ⟨_, rfl, "dict_keyiterator", _, st.typeIs, PySem.F.slot_dict_keyiterator_next.lookup, h⟩
theorem turn_dv (it : Addr) (hc : o.ExactDict) (hd : o.data = .dict es ep) (hv : Vals vs (es.toList.map (·.val))) : Turn P w K tg (ItDX a o vs) [it] it (fun i h => h.IsValIter it a i es.size ep) where
  mem := by simp
  obj := fun i h st b hb => by
    have e : b = it := by simpa using hb
    subst e
    obtain ⟨oi, e, c, dd⟩ := st
    exact ⟨oi, e, fun v z => by rw [dd] at z; cases z⟩
  keep := fun i h h' st k => st.at fun oi e => k it (by simp) oi e
  item := by
    intro X hP hw hK hcalm i pins s σ H E I hf st hg
    subst hP hw hK
    obtain ⟨ha, hi⟩ := hg
    have hl : vs.length = es.size := (Vals.length hv).trans (by rw [List.length_map, Array.length_toList])
    obtain ⟨f0, f1, f2, f3, f4, f5⟩ := hf it (by simp)
    have hi' : i < es.size := by omega
    obtain ⟨v, h1, h2⟩ := es_at hv hi'
    refine wpAny_pyNext_values_item_raw st (dx_raw I ha hc hd) hi' fun h' st' sb => ?_
    have I1 : Inv X pins σ H { s with heap := h' } := I.turned (t' := s.toks) (fun b ob hb e => (sb.2 b hb).trans e) f0 f1 f3 f4 f5
    obtain ⟨oi, e, c, dd⟩ := id st'
    exact ⟨_, rfl, go_of (s := { s with heap := h' }) e c dd (by decide) ⟨v, H, I1, h2, ⟨rfl, h1⟩, st', fun b hb => (hf b hb).1⟩⟩
  done := by
    intro X hP hw hK hcalm i pins s σ H E I hf st hg
    subst hP hw hK
    obtain ⟨ha, hi⟩ := hg
    have hl : vs.length = es.size := (Vals.length hv).trans (by rw [List.length_map, Array.length_toList])
    obtain ⟨f0, f1, f2, f3, f4, f5⟩ := hf it (by simp)
    exact wpAny_pyNext_values_end_raw (I.ok.hd hcalm) st (dx_raw I ha hc hd) (by omega) fun h' eb => ⟨rfl, I.turned (t' := s.toks) (fun b ob hb e => eb b ob hb e) f0 f1 f3 f4 f5⟩
  self := fun A i s Q E st h => wpAny_pyIter_valiter st h
theorem turn_dp {elts : List Expr} {kk : Nat} {tpos : Pos} (it : Addr) (hc : o.ExactDict) (hd : o.data = .dict es ep) (hk : Vals ks (es.toList.map (·.key))) (hv : Vals vs (es.toList.map (·.val))) :
    Turn P w K (.Tuple elts kk tpos) (ItDP a o ks vs) [it] it (fun i h => ∃ ok ov, IsItemIter h it a i es.size ep ok ov) where
  mem := by simp
  obj := fun i h st b hb => by
    have e : b = it := by simpa using hb
    subst e
    obtain ⟨ok, ov, e⟩ := st
    exact ⟨_, e, fun v z => nomatch z⟩
  keep := fun i h h' st k => let ⟨ok, ov, e⟩ := st; ⟨ok, ov, k it (by simp) _ e⟩
  item := by
    intro X hP hw hK hcalm i pins s σ H E I hf st hg
    subst hP hw hK
    obtain ⟨ha, hi⟩ := hg
    have hl : ks.length = es.size := (Vals.length hk).trans (by rw [List.length_map, Array.length_toList])
    have hi' : i < es.size := by omega
    obtain ⟨k, k1, k2⟩ := es_at hk hi'
    obtain ⟨v, h1, h2⟩ := es_at hv hi'
    obtain ⟨ok, ov, he⟩ := st
    have hlt : it < s.heap.objs.size := Heap.lt_size he
    refine wpAny_pyNext_items_item_raw he (dx_raw I ha hc hd) hi' fun h' ho hT hz hkk => ?_
    refine ⟨_, rfl, wpAny_letOwnedTupleGo_items (s := { s with heap := h' }) ho fun h'' he' sb => ?_⟩
    have hT2 : h''.get? s.heap.objs.size = some { cls := .type "tuple", data := .seq #[es[i].key, es[i].val] } := (sb.2 _ (Nat.ne_of_gt hlt)).trans hT
    have new : ObjOk X.prog X.w (upd H s.heap.objs.size (.tup [k, v])) h'' s.heap.objs.size (.tup [k, v]) :=
      ⟨by show 2 ≤ sizeLine; decide, [es[i].key, es[i].val], .cons k2 (.cons h2 .nil), ⟨_, hT2, rfl, _, rfl⟩⟩
    have I1 : Inv X pins σ (upd H s.heap.objs.size (.tup [k, v])) { s with heap := h'' } :=
      I.turnedNew (t' := s.toks) (ch := [it]) (fun b ob hb e => (sb.2 b (by simpa using hb)).trans (hkk b ob (by simpa using hb) e)) hf (Nat.le_refl _) new
    refine ⟨.ref s.heap.objs.size, _, I1, rfl, ⟨_, k, v, k1, h1, rfl, I.hok.fresh (Nat.le_refl _), rfl⟩, ⟨_, _, he'⟩, fun b hb => ?_⟩
    have e : b = it := by simpa using hb
    rw [e, upd_ne (Nat.ne_of_lt hlt)]
    exact (hf it (by simp)).1
  done := by
    intro X hP hw hK hcalm i pins s σ H E I hf st hg
    subst hP hw hK
    obtain ⟨ha, hi⟩ := hg
    have hl : ks.length = es.size := (Vals.length hk).trans (by rw [List.length_map, Array.length_toList])
    obtain ⟨f0, f1, f2, f3, f4, f5⟩ := hf it (by simp)
    obtain ⟨ok, ov, he⟩ := st
    exact wpAny_pyNext_items_end_raw (I.ok.hd hcalm) he (dx_raw I ha hc hd) (by omega) fun h' eb => ⟨rfl, I.turned (t' := s.toks) (fun b ob hb e => eb b ob hb e) f0 f1 f3 f4 f5⟩
  self := fun A i s Q E st h => let ⟨_, _, e⟩ := st; PySem.W.kcp_self e h
end
/-- a dict that may be walked: the keys ks, the values vs -/
structure DWk (K : PySem.W.Frag) (H : Hp) (a : Addr) (o : Obj) (ks vs : List V) : Prop where
  at_ : H a = some (dX a o)
  ns : (a == sysModules) = false
  ex : ∃ es ep, o.ExactDict ∧ o.data = .dict es ep ∧ Vals ks (es.toList.map (·.key)) ∧ Vals vs (es.toList.map (·.val))
def iDK (K : PySem.W.Frag) (td : TE) : TI := fun σ H R => td σ H fun x H1 => ∃ a o ks vs, x = .ref a ∧ DWk K H1 a o ks vs ∧ R (ItDX a o ks) H1
def iDV (K : PySem.W.Frag) (td : TE) : TI := fun σ H R => td σ H fun x H1 => ∃ a o ks vs, x = .ref a ∧ DWk K H1 a o ks vs ∧ R (ItDX a o vs) H1
def iDP (K : PySem.W.Frag) (td : TE) : TI := fun σ H R => td σ H fun x H1 => ∃ a o ks vs, x = .ref a ∧ DWk K H1 a o ks vs ∧ R (ItDP a o ks vs) H1
section
variable {X : Cx} {tg e : Expr} {td : TE} {apos cpos : Pos}
theorem pi_dk (he : PE X e td) : PI X tg e (iDK X.K td) := by
  refine ⟨fun pins s σ H R I h => ?_⟩
  refine thn (he.run pins s σ H _ I h) fun u s1 ⟨x, H1, I1, rx, a, o, ks, vs, ex, W, q⟩ => ?_
  subst ex
  obtain rfl : u = Value.ref a := rx
  obtain ⟨es, ep, hc, hd, hk, hv⟩ := W.ex
  exact wpAny_pyIter_dict_raw W.ns (dx_raw I1 W.at_ hc hd) (pi_one (tk := s1.toks) I1 _ (turn_dk _ hc hd hk) ⟨_, Heap.get?_push_size _ rfl, rfl, rfl⟩ q)
theorem pi_dv (he : PE X e td) (hbase : attributeBase e "values" X.env (eval e X.env) = eval e X.env := by rfl) (hline : (apos.endLine == cpos.line) = true := by rfl) : PI X tg (.Call (.Attribute e "values" apos) [] [] cpos) (iDV X.K td) := by
  refine ⟨fun pins s σ H R I h => ?_⟩
  refine wpAny_Call_method (T := "dict") (id := "dict.values") hbase rfl hline PySem.F.plainAttrs_dict PySem.F.slot_dict_values PySem.F.type_dict_values (thn (he.run pins s σ H _ I h) fun u s1 ⟨x, H1, I1, rx, a, o, ks, vs, ex, W, q⟩ => ?_)
  subst ex
  obtain rfl : u = Value.ref a := rx
  obtain ⟨es, ep, hc, hd, hk, hv⟩ := W.ex
  have raw := dx_raw I1 W.at_ hc hd
  refine ⟨raw.typeIs, fun b hb => by cases hb; exact ⟨o, dX_at I1 W.at_, hc.2.1⟩, ?_⟩
  have I2 : Inv X pins σ H1 { s1 with heap := s1.heap.push { cls := .type "dict_values", data := .fields #[.ref a] } } := I1.kept (t' := s1.toks) fun b ob q => Heap.get?_push_of_some _ q
  have fin : wpAny (model X.prog X.w) X.A (pyIter (.ref s1.heap.objs.size)) (PIE X pins σ tg R) X.xe { s1 with heap := s1.heap.push { cls := .type "dict_values", data := .fields #[.ref a] } } :=
    wpAny_pyIter_values_raw (d := a) ⟨_, Heap.get?_push_size _ rfl, rfl, rfl⟩ (raw.at fun ob q => Heap.get?_push_of_some _ q) (pi_one (tk := s1.toks) I2 _ (turn_dv _ hc hd hv) ⟨_, Heap.get?_push_size _ rfl, rfl, rfl⟩ q)
  show wpAny _ _ (callWith cpos (.builtin "dict.values") [.ref a] [] []) _ X.xe s1
  exact method_meetsIn PySem.F.slot_dict_values PySem.F.entry_dict_values rfl (PySem.evalArgs_none ⟨rfl, raw.typeIs, PySem.F.args_dict_values_1 _, _, meets_dict_values_raw a W.ns, ⟨es, ep, raw⟩, fin⟩)
theorem pi_di {elts : List Expr} {kk : Nat} {tpos : Pos} (he : PE X e td) (hbase : attributeBase e "items" X.env (eval e X.env) = eval e X.env := by rfl) (hline : (apos.endLine == cpos.line) = true := by rfl) :
    PI X (.Tuple elts kk tpos) (.Call (.Attribute e "items" apos) [] [] cpos) (iDP X.K td) := by
  refine ⟨fun pins s σ H R I h => ?_⟩
  refine wpAny_Call_method (T := "dict") (id := "dict.items") hbase rfl hline PySem.F.plainAttrs_dict PySem.F.slot_dict_items PySem.F.type_dict_items (thn (he.run pins s σ H _ I h) fun u s1 ⟨x, H1, I1, rx, a, o, ks, vs, ex, W, q⟩ => ?_)
  subst ex
  obtain rfl : u = Value.ref a := rx
  obtain ⟨es, ep, hc, hd, hk, hv⟩ := W.ex
  have raw := dx_raw I1 W.at_ hc hd
  refine ⟨raw.typeIs, fun b hb => by cases hb; exact ⟨o, dX_at I1 W.at_, hc.2.1⟩, ?_⟩
  have I2 : Inv X pins σ H1 { s1 with heap := s1.heap.push { cls := .type "dict_items", data := .fields #[.ref a] } } := I1.kept (t' := s1.toks) fun b ob q => Heap.get?_push_of_some _ q
  have fin : wpAny (model X.prog X.w) X.A (pyIter (.ref s1.heap.objs.size)) (PIE X pins σ (.Tuple elts kk tpos) R) X.xe { s1 with heap := s1.heap.push { cls := .type "dict_items", data := .fields #[.ref a] } } :=
    wpAny_pyIter_items_raw (d := a) ⟨_, Heap.get?_push_size _ rfl, rfl, rfl⟩ (raw.at fun ob q => Heap.get?_push_of_some _ q) (pi_one (tk := s1.toks) I2 _ (turn_dp _ hc hd hk hv) ⟨.none, .none, Heap.get?_push_size _ rfl⟩ q)
  show wpAny _ _ (callWith cpos (.builtin "dict.items") [.ref a] [] []) _ X.xe s1
  exact method_meetsIn PySem.F.slot_dict_items PySem.F.entry_dict_items rfl (PySem.evalArgs_none ⟨rfl, raw.typeIs, PySem.F.args_dict_items_1 _, _, meets_dict_items_raw a W.ns, ⟨es, ep, raw⟩, fin⟩)
end
end L2
namespace Va
open PySem L2 PyProof.Rows
/-- {} -/
def tDNew (K : PySem.W.Frag) : TE := fun _ H Q => ∀ p o, H p = none → DicAt K (upd H p (dX p o)) p [] [] → Q (.ref p) (upd H p (dX p o))
def tDelD (K : PySem.W.Frag) (to ti : TE) : TS := fun D σ H => to σ H fun x H1 => ti σ H1 fun y H2 => ∃ a kd ks us i, x = .ref a ∧ DOp K H2 y a kd ks us (some i) ∧ ∀ ob, DicAt K (upd H2 a (dX a ob)) a (ks.eraseIdx i) (us.eraseIdx i) → D.nx σ (upd H2 a (dX a ob))
def rLenD (K : PySem.W.Frag) : List V → Hp → VK → Prop := fun xs H Q => ∃ a ks us, xs = [.ref a] ∧ DicAt K H a ks us ∧ Q (.int us.length) H
section
variable {X : Cx} {o i e : Expr} {pos tpos : Pos} {to ti : TE}
theorem pe_dnew : PE X (.Dict [] [] pos) (tDNew X.K) := ⟨fun pins s σ H Q I h => by
  have hf := I.hok.fresh (Nat.le_refl s.heap.objs.size)
  refine wpAny_Dict_empty ⟨.ref s.heap.objs.size, _, I.laid (a := s.heap.objs.size) (o := dX s.heap.objs.size { cls := .type "dict", data := .dict #[] }) (t' := s.toks) (fun _ _ q => Heap.get?_push_of_some _ q) (Nat.le_refl _) (dX_ok (Heap.get?_push_size _ rfl)), rfl, h _ _ hf ?_⟩
  refine .inl ⟨_, [], ⟨upd_same, beq_eq_false_iff_ne.mpr (Ne.symm (Nat.ne_of_lt I.big)), ⟨⟨rfl, rfl, rfl⟩, ⟨#[], 0, rfl, fun _ => rfl⟩, List.nodup_nil, Nat.zero_le _, fun _ h => nomatch h⟩⟩, rfl, rfl⟩⟩
theorem er_map {α β : Type} {f : α → β} {xs : List α} {i : Nat} : (xs.map f).eraseIdx i = (xs.eraseIdx i).map f := by
  induction xs generalizing i with
  | nil => rfl
  | cons x xs ih => cases i with
    | zero => rfl
    | succ i => rw [List.map_cons, List.eraseIdx_cons_succ, List.eraseIdx_cons_succ, ih, List.map_cons]
theorem ps_delD (hu : X.A.units + 65 < cLine) (ho : PE X o to) (hi : PE X i ti) : PS X (.Delete [.Subscript o i tpos] pos) (tDelD X.K to ti) := by
  refine ⟨fun pins s σ H D I h => ?_⟩
  refine wpAny_Delete (wpAny_deleteEach_cons (wpAny_delete_Subscript (thn (ho.run pins s σ H _ I h) fun u s1 ⟨x, H1, I1, rx, q1⟩ => thn (hi.run pins s1 σ H1 _ I1 q1) fun iv s2 ⟨y, H2, I2, ry, a, kd, ks, us, j, ex, d, q2⟩ => ?_)))
  subst ex
  obtain rfl : u = Value.ref a := rx
  rcases d with ⟨o, xs, k, b, rfl, hk, hd, dd, rfl, rfl, rfl, hj⟩ | ⟨o, kvs, n, rfl, dd, rfl, rfl, rfl, hj⟩
  · cases (show iv = Value.ref b from ry)
    obtain ⟨p, hp⟩ := pos_get hj.symm
    have e : atKey xs k = some p := by rw [atKey_pos, ← hj]; simp [hp]
    refine t_del hu I2 dd hk hd e fun s3 o' I3 d3 => wpAny_deleteEach_nil ⟨σ, _, I3, q2 o' ?_⟩
    have ew : withoutH xs k = xs.eraseIdx j := del_erase dd.td.nd hj.symm
    rw [ew] at d3
    exact .inl ⟨o', _, d3, er_map, er_map⟩
  · have e : (valueAt kvs n).isSome = true := by rw [valueAt_isSome, ← hj]; rfl
    refine i_del I2 dd ry e fun s3 o' I3 d3 => wpAny_deleteEach_nil ⟨σ, _, I3, q2 o' ?_⟩
    have ew : without kvs n = kvs.eraseIdx j := del_erase dd.id.nd hj.symm
    rw [ew] at d3
    exact .inr ⟨o', _, d3, er_map, er_map⟩
def w0 : World := ⟨fun _ _ => 0, { strHash := fun _ => 0, shareClass := fun _ => 0, mergeTok := fun t => t, idOf := fun _ => 0, idOfShared := fun _ _ => 0, followText := fun _ => false, idOfImm := fun _ => 0 }⟩
theorem rp_nk {K : PySem.W.Frag} {H : Hp} : ∀ {v : V} {k : NestedKey}, NK K H v k → Rp K H v k.data [] := by
  intro v k h
  exact NK.rec (motive_1 := fun v k _ => Rp K H v k.data []) (motive_2 := fun vs ks _ => RpL K H vs (NestedKey.datas ks) []) .non (fun i => .int i) (fun h _ r => by rw [NestedKey.data]; exact .tup h r) (by rw [NestedKey.datas]; exact .nil) (fun _ _ r1 r2 => by rw [NestedKey.datas]; exact .cons r1 r2) h
theorem rpl_all {K : PySem.W.Frag} {H : Hp} {α : Type} {f : α → V} {g : α → PyData} : ∀ {xs : List α}, (∀ x ∈ xs, Rp K H (f x) (g x) []) → RpL K H (xs.map f) (xs.map g) []
  | [], _ => .nil
  | x :: xs, h => .cons (h x (List.mem_cons_self ..)) (rpl_all fun y hy => h y (List.mem_cons_of_mem _ hy))
theorem vals_all {α : Type} {f : α → V} {g : α → Value} : ∀ {xs : List α}, (∀ x ∈ xs, RelV (f x) (g x)) → Vals (xs.map f) (xs.map g)
  | [], _ => .nil
  | x :: xs, h => .cons (h x (List.mem_cons_self ..)) (vals_all fun y hy => h y (List.mem_cons_of_mem _ hy))
theorem pairs_keys {P : Program} {w : World} : ∀ {es : List DictEntry} {kvs : List (Int × Value)}, Pairs (PySem.intKind P w) es kvs → Vals (kvs.map fun q => V.int q.1) (es.map (·.key)) ∧ es.map (·.val) = kvs.map (·.2)
  | _, _, .nil => ⟨.nil, rfl⟩
  | _, _, .cons (e := e) (kv := kv) h e' r => by
    obtain ⟨a, b⟩ := pairs_keys r
    refine ⟨.cons ?_ a, by rw [List.map_cons, List.map_cons, b, e']⟩
    obtain ⟨t, ht⟩ := Value.isInt_shape (show Value.isInt kv.1 e.key = true from h)
    exact ⟨t, ht⟩
theorem DicAt.wk {K : PySem.W.Frag} {H : Hp} {a : Addr} {ks : List PyData} {us : List Value} {vs : List V} (d : DicAt K H a ks us) (hv : Vals vs us) : ∃ o kvs, DWk K H a o kvs vs ∧ RpL K H kvs ks [] := by
  rcases d with ⟨o, xs, d, rfl, rfl⟩ | ⟨o, xs, d, rfl, rfl⟩
  · obtain ⟨es, ep, hd, he⟩ := d.td.dat
    have e0 := he w0
    refine ⟨o, xs.map fun x => V.ref x.2.1, ⟨d.at_, d.ns, es, ep, d.td.cls, hd, ?_, ?_⟩, rpl_all fun x hx => rp_nk (d.td.key x hx).1⟩
    · rw [e0, List.map_map]
      exact vals_all fun x _ => rfl
    · rw [e0, List.map_map]
      exact hv
  · obtain ⟨es, ep, hd, he⟩ := d.id.dat
    obtain ⟨h1, h2⟩ := pairs_keys (he default w0).2
    refine ⟨o, xs.map fun q => V.int q.1, ⟨d.at_, d.ns, es, ep, d.id.cls, hd, h1, by rw [h2]; exact hv⟩, rpl_all fun x _ => .int _⟩
theorem cr_lenD : CallR X (.builtin "len") (rLenD X.K) := by
  intro pins s σ H xs us Q I r h
  obtain ⟨a, ks, ws, rfl, d, q⟩ := h
  obtain ⟨u, rfl, rx⟩ := vals1 r
  cases (show u = Value.ref a from rx)
  rcases d with ⟨o, ys, d, rfl, rfl⟩ | ⟨o, ys, d, rfl, rfl⟩
  · rw [List.length_map] at q
    refine call_len_dictH d.ns (d.of I) (by have := d.td.len; omega) ⟨.int _, H, I.tok _, ⟨_, rfl⟩, q⟩
  · rw [List.length_map] at q
    refine call_len_dict d.ns (d.of I) (by have := d.id.len; omega) ⟨.int _, H, I.tok _, ⟨_, rfl⟩, q⟩
end
end Va

/-! Vd3: dicts, typed: what is asked of them, stores, deletions. -/
namespace Va
open Classical
open PySem L2 PyProof.Rows PySem.W PySem.Calls
/-! ### keys -/
class NPart {α : Type} (e : α → PyData) (n : outParam Nat) where
  nk : α → NestedKey
  data : ∀ a, (nk a).data = e a
  ntx : ∀ a, noTx (nk a) = true
  dep : ∀ a, (nk a).depth ≤ n
  inj : ∀ a b, nk a = nk b → a = b
instance : NPart PyData.int 0 := ⟨.num, fun _ => rfl, fun _ => rfl, fun _ => Nat.le_refl _, fun a b h => by cases h; rfl⟩
section
variable {α β : Type} {e : α → PyData} {f : β → PyData} {n m : Nat}
theorem noTxs_map [p : NPart e n] : ∀ xs : List α, noTxs (xs.map p.nk) = true
  | [] => rfl
  | x :: xs => by rw [List.map_cons, noTxs, p.ntx, noTxs_map xs]; rfl
theorem depAll_map [p : NPart e n] : ∀ xs : List α, NestedKey.depthAll (xs.map p.nk) ≤ n
  | [] => Nat.zero_le _
  | x :: xs => by rw [List.map_cons, NestedKey.depthAll]; exact Nat.max_le.mpr ⟨p.dep x, depAll_map xs⟩
theorem map_inj {γ : Type} {g : α → γ} (h : ∀ a b, g a = g b → a = b) : ∀ {xs ys : List α}, xs.map g = ys.map g → xs = ys
  | [], [], _ => rfl
  | x :: xs, y :: ys, q => by
    rw [List.map_cons, List.map_cons] at q
    rw [h x y (List.cons.inj q).1, map_inj h (List.cons.inj q).2]
  | [], _ :: _, q => by simp at q
  | _ :: _, [], q => by simp at q
instance [p : NPart e n] : NPart (ET e) (n + 1) where
  nk := fun xs => .tup (xs.map p.nk)
  data := fun xs => by
    rw [NestedKey.data, datas_map, List.map_map]
    show PyData.tuple _ = PyData.tuple _
    congr 1
    exact List.map_congr_left fun x _ => p.data x
  ntx := fun xs => by rw [noTx]; exact noTxs_map xs
  dep := fun xs => by rw [NestedKey.depth]; exact Nat.succ_le_succ (depAll_map xs)
  inj := fun a b h => by
    simp only [NestedKey.tup.injEq] at h
    exact map_inj p.inj h
instance [p : NPart e n] [q : NPart f m] : NPart (E2 e f) (max n m + 1) where
  nk := fun x => .tup [p.nk x.1, q.nk x.2]
  data := fun x => by
    rw [NestedKey.data, datas_map]
    show PyData.tuple [_, _] = PyData.tuple [_, _]
    rw [p.data, q.data]
  ntx := fun x => by rw [noTx, noTxs, noTxs, noTxs, p.ntx, q.ntx]; rfl
  dep := fun x => by
    rw [NestedKey.depth, NestedKey.depthAll, NestedKey.depthAll, NestedKey.depthAll]
    have := p.dep x.1
    have := q.dep x.2
    omega
  inj := fun a b h => by
    simp only [NestedKey.tup.injEq, List.cons.injEq, and_true] at h
    exact Prod.ext (p.inj _ _ h.1) (q.inj _ _ h.2)
end
theorem ID.empty {o : Obj} (h : ∃ es ep, o.ExactDict ∧ o.data = .dict es ep ∧ es.toList = []) : ID o [] := by
  obtain ⟨es, ep, h1, h2, h3⟩ := h
  have : es = #[] := by
    cases es
    simpa using h3
  subst this
  exact ⟨h1, ⟨#[], ep, h2, fun P w => ⟨fun e he => by simp at he, .nil⟩⟩, List.nodup_nil, Nat.zero_le _⟩
theorem TD.empty {K : PySem.W.Frag} {H : Hp} {o : Obj} (h : ∃ es ep, o.ExactDict ∧ o.data = .dict es ep ∧ es.toList = []) : TD K H o [] := by
  obtain ⟨es, ep, h1, h2, h3⟩ := h
  exact ⟨h1, ⟨es, ep, h2, fun w => h3⟩, List.nodup_nil, Nat.zero_le _, fun _ h => nomatch h⟩
/-- data that are a dict's keys -/
class DKey {α : Type} [DecidableEq α] (e : α → PyData) : Prop where
  op : ∀ {K : PySem.W.Frag} {H : Hp} {a : Addr} {ks : List α} {us : List Value} {v : V} {x : α} {F : List Addr}, DicAt K H a (ks.map e) us → Rp K H v (e x) F → DOp K H v a (e x) (ks.map e) us (posL ks x)
  ne : ∀ x, e x ≠ .none
  fl : ∀ x, flat (e x) = true
theorem DicAt.len {K : PySem.W.Frag} {H : Hp} {a : Addr} {ks : List PyData} {us : List Value} (d : DicAt K H a ks us) : ks.length = us.length := by
  rcases d with ⟨o, xs, d, rfl, rfl⟩ | ⟨o, xs, d, rfl, rfl⟩ <;> simp
instance : DKey PyData.int where
  ne := fun x h => by cases h
  fl := fun x => rfl
  op := by
    intro K H a ks us v x F d r
    cases r
    rcases d with ⟨o, xs, d, e1, e2⟩ | ⟨o, xs, d, e1, e2⟩
    · have hx : xs = [] := by
        match xs, ks, e1 with
        | [], _, _ => rfl
        | q :: xs, [], e1 => simp at e1
        | q :: xs, k :: ks, e1 =>
          have := (d.td.key q (List.mem_cons_self ..)).1
          rw [List.map_cons, List.map_cons] at e1
          have e3 := (List.cons.inj e1).1
          generalize q.1 = kk at this e3
          cases this with
          | tup _ _ => simp [NestedKey.data] at e3
      subst hx
      have hk : ks = [] := by simpa using e1
      subst hk
      obtain ⟨es, ep, hd, he⟩ := d.td.dat
      exact .inr ⟨o, [], x, rfl, ⟨d.at_, d.ns, ID.empty ⟨es, ep, d.td.cls, hd, by rw [he w0]; rfl⟩⟩, rfl, rfl, e2, rfl⟩
    · have hk : ks = xs.map (·.1) := by
        rw [show (xs.map fun q => PyData.int q.1) = (xs.map (·.1)).map PyData.int by rw [List.map_map]; rfl] at e1
        exact map_inj (fun a b h => by cases h; rfl) e1
      subst hk
      exact .inr ⟨o, xs, x, rfl, d, rfl, e1, e2, rfl⟩
theorem dkey_of {α : Type} [DecidableEq α] {e : α → PyData} {n : Nat} [p : NPart e n] (hn : n ≤ 8) (ht : ∀ a, ∃ ks, p.nk a = .tup ks) (hf : ∀ a, flat (e a) = true) : DKey e where
  ne := fun x h => by
    obtain ⟨ks, hk⟩ := ht x
    rw [← p.data, hk, NestedKey.data] at h
    cases h
  fl := hf
  op := by
    intro K H a ks us v x F d r
    have nk : NK K H v (p.nk x) := Rp.nk (p.nk x) (by rw [p.data]; exact r) (p.ntx x)
    obtain ⟨kk, hk⟩ := ht x
    obtain ⟨b, rfl⟩ : ∃ b, v = .ref b := by
      rw [hk] at nk
      cases nk with
      | tup _ _ => exact ⟨_, rfl⟩
    have pk : ∀ {xs : List NestedKey}, xs = ks.map p.nk → posL ks x = posL xs (p.nk x) := fun h => by rw [h, posL_map p.inj]
    rcases d with ⟨o, xs, d, e1, e2⟩ | ⟨o, xs, d, e1, e2⟩
    · have hks : xs.map (·.1) = ks.map p.nk := by
        refine map_inj data_inj ?_
        rw [List.map_map, List.map_map]
        refine Eq.trans ?_ (e1.symm.trans ?_)
        · rfl
        · exact List.map_congr_left fun y _ => (p.data y).symm
      exact .inl ⟨o, xs, p.nk x, b, rfl, nk, Nat.le_trans (p.dep x) hn, d, (p.data x).symm, e1, e2, pk hks⟩
    · have hx : xs = [] := by
        match xs, ks, e1 with
        | [], _, _ => rfl
        | q :: xs, [], e1 => simp at e1
        | q :: xs, k :: ks, e1 =>
          rw [List.map_cons, List.map_cons] at e1
          have e3 := (List.cons.inj e1).1
          obtain ⟨kk', hk'⟩ := ht k
          rw [← p.data, hk', NestedKey.data] at e3
          cases e3
      subst hx
      have hk0 : ks = [] := by simpa using e1
      subst hk0
      obtain ⟨es, ep, hd, he⟩ := d.id.dat
      refine .inl ⟨o, [], p.nk x, b, rfl, nk, Nat.le_trans (p.dep x) hn, ⟨d.at_, d.ns, TD.empty ⟨es, ep, d.id.cls, hd, ?_⟩⟩, (p.data x).symm, rfl, e2, rfl⟩
      have := (he default w0).2
      generalize es.toList = l at this
      cases this
      rfl
instance {α : Type} [DecidableEq α] {e : α → PyData} [NPart e 0] [Flat e] : DKey (ET e) := dkey_of (by decide) (fun a => ⟨_, rfl⟩) fun a => Flat.flat (e := ET e) a
instance {α β : Type} [DecidableEq α] [DecidableEq β] {e : α → PyData} {f : β → PyData} [NPart e 0] [NPart f 0] [Flat e] [Flat f] : DKey (ET (E2 e f)) := dkey_of (by decide) (fun a => ⟨_, rfl⟩) fun a => Flat.flat (e := ET (E2 e f)) a
instance {α β : Type} [DecidableEq α] [DecidableEq β] {e : α → PyData} {f : β → PyData} [NPart e 0] [NPart f 0] [Flat e] [Flat f] : DKey (E2 e f) := dkey_of (by decide) (fun a => ⟨_, rfl⟩) fun a => Flat.flat (e := E2 e f) a
instance {α β : Type} [DecidableEq α] [DecidableEq β] {e : α → PyData} {f : β → PyData} [NPart e 0] [NPart f 1] [Flat e] [Flat f] : DKey (E2 e f) := dkey_of (by decide) (fun a => ⟨_, rfl⟩) fun a => Flat.flat (e := E2 e f) a
instance {α β : Type} [DecidableEq α] [DecidableEq β] {e : α → PyData} {f : β → PyData} [NPart e 1] [NPart f 0] [Flat e] [Flat f] : DKey (E2 e f) := dkey_of (by decide) (fun a => ⟨_, rfl⟩) fun a => Flat.flat (e := E2 e f) a
/-! ### dicts as lists of pairs -/
abbrev ED {α β : Type} (e : α → PyData) (f : β → PyData) : List (α × β) → PyData := fun kvs => .dict (kvs.map fun p => (e p.1, f p.2))
section
variable {α β : Type} [DecidableEq α]
def posD (kvs : List (α × β)) (x : α) : Option Nat := posL (kvs.map (·.1)) x
def getD (kvs : List (α × β)) (x : α) : Option β := (posD kvs x).bind fun i => kvs[i]?.map (·.2)
def hasD (x : α) (kvs : List (α × β)) : Bool := (posD kvs x).isSome
def putD (kvs : List (α × β)) (x : α) (y : β) : List (α × β) := match posD kvs x with
  | some i => kvs.set i (x, y)
  | none => kvs ++ [(x, y)]
def putO (kvs : List (α × β)) (x : α) (y : β) : Option (List (α × β)) := if kvs.length < 1000000 then some (putD kvs x y) else none
def delO (kvs : List (α × β)) (x : α) : Option (List (α × β)) := (posD kvs x).map fun i => kvs.eraseIdx i
end
section
variable {α β : Type} [DecidableEq α] {e : α → PyData} {f : β → PyData} {K : PySem.W.Frag} {H : Hp}
theorem zip_split {kvs : List (α × β)} {ks ds : List PyData} (h : (kvs.map fun p => (e p.1, f p.2)) = ks.zip ds) (hl : ks.length = ds.length) : ks = (kvs.map (·.1)).map e ∧ ds = (kvs.map (·.2)).map f := by
  have h1 := congrArg (List.map (·.1)) h
  have h2 := congrArg (List.map (·.2)) h
  rw [List.map_map, List.map_fst_zip (by omega)] at h1
  rw [List.map_map, List.map_snd_zip (by omega)] at h2
  exact ⟨by rw [← h1, List.map_map]; rfl, by rw [← h2, List.map_map]; rfl⟩
theorem dic_inv [DKey e] {kvs : List (α × β)} {v : V} {F : List Addr} (r : Rp K H v (ED e f kvs) F) : ∃ a us vs F', v = .ref a ∧ DicAt K H a ((kvs.map (·.1)).map e) us ∧ Vals vs us ∧ RpL K H vs ((kvs.map (·.2)).map f) F' ∧ F = a :: F' := by
  generalize hd : ED e f kvs = d at r
  cases r with
  | dic h u r =>
    have hd' := PyData.dict.inj hd
    have hl : _ := h.len
    have hu := Vals.length u
    have hr := r.length
    obtain ⟨rfl, rfl⟩ := zip_split hd' (by omega)
    exact ⟨_, _, _, _, rfl, h, u, r, rfl⟩
  | pair h r =>
    exfalso
    have hd' := PyData.dict.inj hd
    match kvs, hd' with
    | [q], hd' =>
      simp only [List.map_cons, List.map_nil, List.cons.injEq, Prod.mk.injEq, and_true] at hd'
      exact DKey.ne q.1 hd'.1
    | _ :: _ :: _, hd' => simp at hd'
  | fn a =>
    exfalso
    have hd' := PyData.dict.inj hd
    match kvs, hd' with
    | [q], hd' =>
      simp only [List.map_cons, List.map_nil, List.cons.injEq, Prod.mk.injEq, and_true] at hd'
      exact DKey.ne q.1 hd'.1
    | _ :: _ :: _, hd' => simp at hd'
  | vw _ _ _ _ =>
    exfalso
    have hd' := PyData.dict.inj hd
    match kvs, hd' with
    | [q], hd' =>
      simp only [List.map_cons, List.map_nil, List.cons.injEq, Prod.mk.injEq, and_true] at hd'
      exact DKey.ne q.1 hd'.1
    | _ :: _ :: _, hd' => simp at hd'
  | tag _ =>
    exfalso
    have hd' := PyData.dict.inj hd
    match kvs, hd' with
    | [q], hd' =>
      simp only [List.map_cons, List.map_nil, List.cons.injEq, Prod.mk.injEq, and_true] at hd'
      exact DKey.ne q.1 hd'.1
    | _ :: _ :: _, hd' => simp at hd'
  | _ => cases hd
theorem dic_mk {ks : List α} {bs : List β} {kvs : List (α × β)} {a : Addr} {us : List Value} {vs : List V} {F : List Addr} (h : DicAt K H a (ks.map e) us) (u : Vals vs us) (r : RpL K H vs (bs.map f) F) (h1 : ks = kvs.map (·.1)) (h2 : bs = kvs.map (·.2)) : Rp K H (.ref a) (ED e f kvs) (a :: F) := by
  have := Rp.dic h u r
  have e1 : (ks.map e).zip (bs.map f) = kvs.map fun p => (e p.1, f p.2) := by
    subst h1 h2
    induction kvs with
    | nil => rfl
    | cons q kvs ih =>
      simp only [List.map_cons, List.zip_cons_cons, List.cons.injEq, true_and]
      have := zip_map_self kvs
      exact this
  rw [e1] at this
  exact this
where zip_map_self : ∀ kvs : List (α × β), ((kvs.map (·.1)).map e).zip ((kvs.map (·.2)).map f) = kvs.map fun p => (e p.1, f p.2)
  | [] => rfl
  | q :: kvs => by
    simp only [List.map_cons, List.zip_cons_cons, List.cons.injEq, true_and]
    exact zip_map_self kvs
end
end Va

/-! Vd4: the rules for dicts. -/
namespace Va
open Classical
open PySem L2 PyProof.Rows PySem.W PySem.Calls
theorem DicAt.grow {K : PySem.W.Frag} {H H' : Hp} {a : Addr} {ks : List PyData} {us : List Value} (d : DicAt K H a ks us) (g : Grow H H') : DicAt K H' a ks us := d.keep (fun o z n => have := n; g.st _ _ z) fun _ _ z => ⟨g.sqT z.1, g.noD z.2⟩
section
variable {α β : Type} [DecidableEq α] {e : α → PyData} {f : β → PyData} [DKey e] {K : PySem.W.Frag} {ta tb : TE} {t : TA} {ρ : Env} {k k1 k2 : Kd} {kvs : List (α × β)} {x : α} {y : β}
theorem hasD_iff : hasD x kvs = true ↔ x ∈ kvs.map (·.1) := by
  unfold hasD posD
  cases h : posL (kvs.map (·.1)) x with
  | none => simp only [Option.isSome_none, Bool.false_eq_true, false_iff]; exact posL_none.mp h
  | some i => simp only [Option.isSome_some, true_iff]; exact List.mem_of_getElem? (posL_some h)
theorem p_inDc (h1 : PV K ta ρ (e x) k1) (h2 : PV K tb ρ (ED e f kvs) k2) : PV K (tOp (rInD K) ta tb) ρ (.bool (hasD x kvs)) (.mv []) := by
  intro B AF σ H ρ' Fs d k' S eo Q q
  obtain ⟨e0, e1⟩ := pE_some eo
  subst e0
  cases e1
  refine h1 B AF σ H _ Fs _ _ S pE_same _ fun v H1 F g1 r1 o1 => ?_
  refine h2 B AF σ H1 _ Fs _ _ (S.grow g1) pE_same _ fun u H2 F2 g2 r2 o2 => ?_
  obtain ⟨a, us, vs, F', rfl, hd, hv, rl, rfl⟩ := dic_inv r2
  exact ⟨a, _, _, _, _, rfl, DKey.op hd (r1.grow g2), q _ H2 [] (g1.trans g2) (.bl _) .nil⟩
theorem p_ninDc (h1 : PV K ta ρ (e x) k1) (h2 : PV K tb ρ (ED e f kvs) k2) : PV K (tOp (rNinD K) ta tb) ρ (.bool (!hasD x kvs)) (.mv []) := by
  intro B AF σ H ρ' Fs d k' S eo Q q
  obtain ⟨e0, e1⟩ := pE_some eo
  subst e0
  cases e1
  refine h1 B AF σ H _ Fs _ _ S pE_same _ fun v H1 F g1 r1 o1 => ?_
  refine h2 B AF σ H1 _ Fs _ _ (S.grow g1) pE_same _ fun u H2 F2 g2 r2 o2 => ?_
  obtain ⟨a, us, vs, F', rfl, hd, hv, rl, rfl⟩ := dic_inv r2
  exact ⟨a, _, _, _, _, rfl, DKey.op hd (r1.grow g2), q _ H2 [] (g1.trans g2) (.bl _) .nil⟩
theorem getDc_some (h : getD kvs x = some y) : ∃ i, posD kvs x = some i ∧ (kvs.map (·.2))[i]? = some y := by
  obtain ⟨i, h1, h2⟩ := Option.bind_eq_some_iff.mp h
  exact ⟨i, h1, by rw [List.getElem?_map]; exact h2⟩
theorem p_getD (h1 : PV K ta ρ (ED e f kvs) k1) (h2 : PV K tb ρ (e x) (.mv [])) (h : getD kvs x = some y) : PV K (tOp (rGetD K) ta tb) ρ (f y) (datK (f y) k1) := by
  obtain ⟨i, hi, hy⟩ := getDc_some h
  intro B AF σ H ρ' Fs d k' S eo Q q
  obtain ⟨e0, e1⟩ := pE_some eo
  subst e0
  cases e1
  refine h1 B AF σ H _ Fs _ _ S pE_same _ fun v H1 F g1 r1 o1 => ?_
  obtain ⟨a, us, vs, F', rfl, hd, hv, rl, rfl⟩ := dic_inv r1
  refine h2 B AF σ H1 _ Fs _ _ (S.grow g1) pE_same _ fun u H2 F2 g2 r2 o2 => ?_
  have op := DKey.op (hd.grow g2) r2
  have hy' : ((kvs.map (·.2)).map f)[i]? = some (f y) := by rw [List.getElem?_map, hy]; rfl
  obtain ⟨z, A, G, B', z1, z2, z3⟩ := rl.get i hy'
  rw [show posL (kvs.map (·.1)) x = some i from hi] at op
  refine ⟨a, _, _, us, i, vs, z, rfl, op, hv, z1, q _ H2 G (g1.trans g2) (z2.grow g2) (kv_dat (z2.grow g2) (o1.1.sub ?_))⟩
  rw [z3]
  exact sub3.trans (List.sublist_cons_self ..)
theorem p_getF (h1 : PV K ta ρ (ED e f kvs) k1) (h2 : PV K tb ρ (e x) (.mv [])) (h : getD kvs x = some y) (hf : flat (f y) = true) : PV K (tOp (rGetD K) ta tb) ρ (f y) (.mv []) := (p_getD h1 h2 h).flat hf
theorem p_getB (M : List Nat) (h1 : PV K ta ρ (ED e f kvs) k1) (h2 : PV K tb ρ (e x) (.mv [])) (h : getD kvs x = some y) (hs : k1.src.all M.contains = true) : PV K (tOp (rGetD K) ta tb) ρ (f y) (.bo M) := (p_getD h1 h2 h).kd (datK_any hs)
theorem p_getM {L : List Nat} (h1 : PV K ta ρ (ED e f kvs) (.mv L)) (h2 : PV K tb ρ (e x) (.mv [])) (h : getD kvs x = some y) : PV K (tOp (rGetD K) ta tb) ρ (f y) (.mv L) := (p_getD h1 h2 h).kd datK_mv
theorem p_dnew : PV K (tDNew K) ρ (ED e f []) (.mv []) := by
  intro B AF σ H ρ' Fs d k' S eo Q q
  obtain ⟨e0, e1⟩ := pE_some eo
  subst e0
  cases e1
  intro p o hp hd
  exact q _ _ [p] (.new hp) (.dic hd .nil .nil) (.mv ⟨by simp, fun a ha => by rcases List.mem_singleton.mp ha with rfl; exact .inl hp⟩)
theorem p_lenD (ha : PA' K t ρ [ED e f kvs] k) : PV K (tCB (rLenD K) t) ρ (.int (kvs.length : Int)) (.mv []) := by
  intro B AF σ H ρ' Fs d k' S eo Q q
  obtain ⟨e0, e1⟩ := pE_some eo
  subst e0
  cases e1
  refine ha B AF σ H _ Fs _ _ S pE_same _ fun vs H1 F g1 r1 o1 => ?_
  obtain ⟨v, rfl, rv⟩ := r1.one'
  obtain ⟨a, us, ws, F', rfl, hd, hv, rl, rfl⟩ := dic_inv rv
  have hl : us.length = kvs.length := by
    have := hd.len
    simpa using this.symm
  refine ⟨a, _, us, rfl, hd, ?_⟩
  rw [hl]
  exact q _ H1 [] g1 (.int _) .nil
/-! ### stores -/
theorem vals_put {vs : List V} {us : List Value} {v : V} {u : Value} (h : Vals vs us) (r : RelV v u) (j : Option Nat) : Vals (valsPut vs v j) (valsPut us u j) := by
  cases j with
  | none => exact h.append (.cons r .nil)
  | some i =>
    show Vals (vs.set i v) (us.set i u)
    induction h generalizing i with
    | nil => exact .nil
    | cons a b ih => cases i with
      | zero => exact .cons r b
      | succ i => exact .cons a (ih i)
theorem rpl_put {H : Hp} {vs : List V} {ds : List PyData} {F0 F : List Addr} {v : V} {d : PyData} (h : RpL K H vs ds F0) (r : Rp K H v d F) {j : Option Nat} (hj : ∀ i, j = some i → i < ds.length) :
    ∃ G, RpL K H (valsPut vs v j) (valsPut ds d j) G ∧ (∀ b ∈ G, b ∈ F0 ∨ b ∈ F) ∧ ((F0 ++ F).Nodup → G.Nodup) := by
  cases j with
  | none => exact ⟨F0 ++ F, h.app (.one r), fun b hb => List.mem_append.mp hb, id⟩
  | some i =>
    obtain ⟨A, G, B', hF, hr⟩ := RpL.set i h r (hj i rfl)
    refine ⟨A ++ (F ++ B'), hr, fun b hb => ?_, fun z => ?_⟩
    · rw [hF]
      simp only [List.mem_append] at hb ⊢
      rcases hb with z | z | z
      · exact .inl (.inl z)
      · exact .inr z
      · exact .inl (.inr (.inr z))
    · rw [hF] at z
      have s : List.Sublist (A ++ B') (A ++ (G ++ B')) := List.Sublist.append (List.Sublist.refl A) (List.sublist_append_right G B')
      have z2 : ((A ++ B') ++ F).Nodup := z.sublist (s.append (List.Sublist.refl F))
      have pm : List.Perm ((A ++ B') ++ F) (A ++ (F ++ B')) := by
        rw [List.append_assoc]
        exact List.Perm.append_left A List.perm_append_comm
      exact pm.nodup_iff.mp z2
theorem put_fst : (putD kvs x y).map (·.1) = match posD kvs x with | some _ => kvs.map (·.1) | none => kvs.map (·.1) ++ [x] := by
  unfold putD
  cases h : posD kvs x with
  | none => simp
  | some i =>
    simp only [List.map_set]
    have := posL_some h
    refine List.ext_getElem? fun j => ?_
    rw [List.getElem?_set]
    split
    · rename_i e
      subst e
      split
      · exact this.symm
      · rw [List.getElem?_eq_none (by omega)]
    · rfl
theorem put_snd : (putD kvs x y).map (·.2) = valsPut (kvs.map (·.2)) y (posD kvs x) := by
  unfold putD
  cases h : posD kvs x with
  | none => simp [valsPut]
  | some i => simp [valsPut, List.map_set]
theorem s_putD {Wx : WxT} {te ti : TE} {ρ1 : Env} {m : Nat} {zs : List (α × β)} (kl : List Nat) (i : Nat) (h : PV K te ρ (f y) k) (hj : PV K ti ρ (e x) k2) (hx : ρ[i]? = some (some (ED e f kvs, m))) (hm : m = 1 ∨ m = 2) (hk : k.src.contains i = false) (ha : putO kvs x y = some zs)
    (hρ : (giv kl k ρ).1.set i (some (ED e f zs, mutM m (giv kl k ρ).2)) = ρ1) : VS K Wx (i :: kl) (tAsg te (gSub (tVar i) ti (rSetD K))) (pE ρ (some (.nx ρ1))) := by
  unfold putO at ha
  split at ha
  case isFalse => cases ha
  rename_i hlen
  cases ha
  subst hρ
  intro B AF σ H ρ' Fs o S eo D p
  obtain ⟨e0, e1⟩ := pE_some eo
  subst e0
  cases e1
  have hn : i ∉ k.src := by simpa using hk
  obtain ⟨v0, h1, h2, _⟩ := S.val i _ m hx
  generalize hF : Fs i = Fi at h2
  obtain ⟨a, us, vs, F0, rfl, hd, hv, rl, rfl⟩ := dic_inv h2
  refine h B AF σ H _ Fs _ k S pE_same _ fun v H1 F g1 r1 o1 => ?_
  refine ⟨_, h1, hj B AF σ H1 _ Fs _ k2 (S.grow g1) pE_same _ fun w H2 F2 g2 r2 o2 => ?_⟩
  have g12 := g1.trans g2
  have op := DKey.op (hd.grow g12) r2
  have hl : us.length = kvs.length := by
    have := hd.len
    simpa using this.symm
  refine ⟨a, _, _, us, _, rfl, op, by omega, fun ob u ru dn => ?_⟩
  have nin := own_notin S o1 hx hm hn hF
  obtain ⟨G, hG1, hG2, hG3⟩ := rpl_put (rl.grow g12) (r1.grow g2) (j := posL (kvs.map (·.1)) x) (fun j hj => by
    have := (List.getElem?_eq_some_iff.mp (posL_some hj)).1
    simpa using this)
  have aG : a ∉ G := fun z => nin (List.mem_append.mpr (hG2 a z))
  have mb : Mb (H2 a) = true := (hd.grow g12).mb
  have rp : Rp K (upd H2 a (dX a ob)) (.ref a) (ED e f (putD kvs x y)) (a :: G) := by
    refine dic_mk (ks := (putD kvs x y).map (·.1)) (bs := (putD kvs x y).map (·.2)) (us := valsPut us u (posL (kvs.map (·.1)) x)) (vs := valsPut vs v (posL (kvs.map (·.1)) x)) ?_ (vals_put hv ru _) ?_ rfl rfl
    · have : ((putD kvs x y).map (·.1)).map e = keysPut ((kvs.map (·.1)).map e) (e x) (posL (kvs.map (·.1)) x) := by
        rw [put_fst]
        show _ = keysPut _ _ (posD kvs x)
        cases posD kvs x <;> simp [keysPut]
      rw [this]
      exact dn
    · have : ((putD kvs x y).map (·.2)).map f = valsPut ((kvs.map (·.2)).map f) (f y) (posL (kvs.map (·.1)) x) := by
        rw [put_snd]
        show _ = valsPut _ _ (posD kvs x)
        cases posD kvs x <;> simp [valsPut, List.map_set]
      rw [this]
      exact hG1.kp (.upd mb aG)
  obtain ⟨x1, x2⟩ := mut_ok (kl := kl) (H1 := H2) (d' := ED e f (putD kvs x y)) (G := G) S g12 o1 hx hm hn hF h1 rp hG2 hG3
  exact p _ _ _ x1 x2
theorem rpl_erase {H : Hp} : ∀ {vs : List V} {ds : List PyData} {F0 : List Addr} (i : Nat), RpL K H vs ds F0 → ∃ G, RpL K H (vs.eraseIdx i) (ds.eraseIdx i) G ∧ List.Sublist G F0
  | _, _, _, i, .nil => ⟨[], by simpa using RpL.nil, .refl _⟩
  | _, _, _, 0, .cons (F := F) (G := G) a b => ⟨G, b, List.sublist_append_right F G⟩
  | _, _, _, i + 1, .cons (F := F) (G := G) a b => by
    obtain ⟨G', h1, h2⟩ := rpl_erase i b
    exact ⟨F ++ G', .cons a h1, (List.Sublist.refl F).append h2⟩
theorem vals_erase : ∀ {vs : List V} {us : List Value} (i : Nat), Vals vs us → Vals (vs.eraseIdx i) (us.eraseIdx i)
  | _, _, i, .nil => by simpa using Paired.nil
  | _, _, 0, .cons a b => b
  | _, _, i + 1, .cons a b => .cons a (vals_erase i b)
theorem s_delD {Wx : WxT} {ti : TE} {ρ1 : Env} {m : Nat} {zs : List (α × β)} (i : Nat) (hj : PV K ti ρ (e x) k2) (hx : ρ[i]? = some (some (ED e f kvs, m))) (hm : m = 1 ∨ m = 2) (ha : delO kvs x = some zs)
    (hρ : ρ.set i (some (ED e f zs, m)) = ρ1) : VS K Wx [i] (tDelD K (tVar i) ti) (pE ρ (some (.nx ρ1))) := by
  obtain ⟨j, hj', rfl⟩ := Option.map_eq_some_iff.mp ha
  intro B AF σ H ρ' Fs o S eo D p
  obtain ⟨e0, e1⟩ := pE_some eo
  subst e0
  cases e1
  obtain ⟨v0, h1, h2, _⟩ := S.val i _ m hx
  generalize hF : Fs i = Fi at h2
  obtain ⟨a, us, vs, F0, rfl, hd, hv, rl, rfl⟩ := dic_inv h2
  refine ⟨_, h1, hj B AF σ H _ Fs _ k2 S pE_same _ fun w H2 F2 g2 r2 o2 => ?_⟩
  have op := DKey.op (hd.grow g2) r2
  rw [show posL (kvs.map (·.1)) x = some j from hj'] at op
  refine ⟨a, _, _, us, j, rfl, op, fun ob dn => ?_⟩
  obtain ⟨G, hG1, hG2⟩ := rpl_erase j (rl.grow g2)
  have o0 : KV ρ' Fs H V.non [] (.mv []) := .mv ⟨List.nodup_nil, fun a ha => nomatch ha⟩
  have nin := own_notin (k := .mv []) (F := []) S o0 hx hm (by simp [Kd.src]) hF
  have aG : a ∉ G := fun z => nin (List.mem_append_left _ (hG2.subset z))
  have mb : Mb (H2 a) = true := (hd.grow g2).mb
  have rp : Rp K (upd H2 a (dX a ob)) (.ref a) (ED e f (kvs.eraseIdx j)) (a :: G) := by
    refine dic_mk (ks := (kvs.eraseIdx j).map (·.1)) (bs := (kvs.eraseIdx j).map (·.2)) ?_ (vals_erase j hv) ?_ rfl rfl
    · rw [← er_map, ← er_map]; exact dn
    · rw [← er_map, ← er_map]; exact hG1.kp (.upd mb aG)
  obtain ⟨x1, x2⟩ := mut_ok (kl := []) (k := .mv []) (F := []) (H1 := H2) (d' := ED e f (kvs.eraseIdx j)) (G := G) S g2 o0 hx hm (by simp [Kd.src]) hF h1 rp (fun b hb => .inl (hG2.subset hb)) (fun z => z.sublist (by rw [List.append_nil]; exact hG2))
  have em : mutE [] i (.mv []) m (ED e f (kvs.eraseIdx j)) ρ' = ρ'.set i (some (ED e f (kvs.eraseIdx j), m)) := by
    unfold mutE mutM giv
    rcases hm with rfl | rfl <;> simp [kil]
  rw [em] at x1 x2
  subst hρ
  exact p _ _ _ x1 x2
end
end Va

/-! Vd5: walks of dicts. -/
namespace Va
open Classical
open PySem L2 PyProof.Rows PySem.W PySem.Calls
section
variable {α β : Type} [DecidableEq α] {e : α → PyData} {f : β → PyData} [DKey e] {K : PySem.W.Frag} {td : TE} {ρ : Env} {k : Kd} {kvs : List (α × β)}
theorem rpl_nilF {H : Hp} {vs : List V} {ds : List PyData} (r : RpL K H vs ds []) {i : Nat} {d : PyData} (h : ds[i]? = some d) : ∃ v, vs[i]? = some v ∧ Rp K H v d [] := by
  obtain ⟨v, A, G, B, h1, h2, h3⟩ := r.get i h
  have : G = [] := by
    have := h3.symm
    simp only [List.append_eq_nil_iff] at this
    exact this.2.1
  subst this
  exact ⟨v, h1, h2⟩
theorem i_dk (h : PV K td ρ (ED e f kvs) k) : PI' K (iDK K td) ρ ((kvs.map (·.1)).map e) k := by
  intro B AF σ H ρ' Fs ds k' S eo R q
  obtain ⟨e0, e1⟩ := pE_some eo
  subst e0
  cases e1
  refine h B AF σ H _ Fs _ _ S pE_same _ fun v H1 F g1 r1 o1 => ?_
  have hmb := r1.mb
  obtain ⟨a, us, vs, F', rfl, hd, hv, rl, rfl⟩ := dic_inv r1
  obtain ⟨o, kv, W, rk⟩ := hd.wk hv
  have at_ : ∀ H', Kp (a :: F') H1 H' → H' a = some (dX a o) := fun H' z => z _ _ W.at_ (.inr ⟨List.mem_cons_self .., inferInstance⟩)
  have hlen := rk.length
  refine ⟨a, o, kv, vs, rfl, W, q _ H1 (a :: F') g1 ⟨hmb, fun H' z i d hd' => ?_, fun H' z i hi => ⟨at_ H' z, by rw [hlen]; exact hi⟩⟩ o1.1.any⟩
  obtain ⟨w, h1, h2⟩ := rpl_nilF rk hd'
  refine ⟨⟨at_ H' z, (List.getElem?_eq_some_iff.mp h1).1⟩, fun x H'' ⟨q1, q2⟩ => ?_⟩
  subst q1
  rw [h1] at q2
  cases q2
  exact ⟨.refl _, [], h2.kp (z.mono fun b hb => nomatch hb), fun b hb => nomatch hb⟩
theorem i_dv (h : PV K td ρ (ED e f kvs) k) : PI' K (iDV K td) ρ ((kvs.map (·.2)).map f) k := by
  intro B AF σ H ρ' Fs ds k' S eo R q
  obtain ⟨e0, e1⟩ := pE_some eo
  subst e0
  cases e1
  refine h B AF σ H _ Fs _ _ S pE_same _ fun v H1 F g1 r1 o1 => ?_
  have hmb := r1.mb
  obtain ⟨a, us, vs, F', rfl, hd, hv, rl, rfl⟩ := dic_inv r1
  obtain ⟨o, kv, W, rk⟩ := hd.wk hv
  have at_ : ∀ H', Kp (a :: F') H1 H' → H' a = some (dX a o) := fun H' z => z _ _ W.at_ (.inr ⟨List.mem_cons_self .., inferInstance⟩)
  have hlen := rl.length
  refine ⟨a, o, kv, vs, rfl, W, q _ H1 (a :: F') g1 ⟨hmb, fun H' z i d hd' => ?_, fun H' z i hi => ⟨at_ H' z, by rw [hlen]; exact hi⟩⟩ o1.1.any⟩
  obtain ⟨w, A, G, B', h1, h2, h3⟩ := rl.get i hd'
  refine ⟨⟨at_ H' z, (List.getElem?_eq_some_iff.mp h1).1⟩, fun x H'' ⟨q1, q2⟩ => ?_⟩
  subst q1
  rw [h1] at q2
  cases q2
  refine ⟨.refl _, G, h2.kp (z.mono fun b hb => List.mem_cons_of_mem _ ?_), fun b hb => List.mem_cons_of_mem _ ?_⟩ <;>
  · rw [h3]
    exact List.mem_append_right _ (List.mem_append_left _ hb)
theorem i_dp (h : PV K td ρ (ED e f kvs) k) : PI' K (iDP K td) ρ (kvs.map (EW (E2 e f))) k := by
  intro B AF σ H ρ' Fs ds k' S eo R q
  obtain ⟨e0, e1⟩ := pE_some eo
  subst e0
  cases e1
  refine h B AF σ H _ Fs _ _ S pE_same _ fun v H1 F g1 r1 o1 => ?_
  have hmb := r1.mb
  obtain ⟨a, us, vs, F', rfl, hd, hv, rl, rfl⟩ := dic_inv r1
  obtain ⟨o, kv, W, rk⟩ := hd.wk hv
  have at_ : ∀ H', Kp (a :: F') H1 H' → H' a = some (dX a o) := fun H' z => z _ _ W.at_ (.inr ⟨List.mem_cons_self .., inferInstance⟩)
  have hlen : kv.length = kvs.length := by have := rk.length; simpa using this
  refine ⟨a, o, kv, vs, rfl, W, q _ H1 (a :: F') g1 ⟨hmb, fun H' z i d hd' => ?_, fun H' z i hi => ⟨at_ H' z, by rw [hlen]; simpa using hi⟩⟩ o1.1.any⟩
  rw [List.getElem?_map] at hd'
  obtain ⟨p, hp, rfl⟩ := Option.map_eq_some_iff.mp hd'
  obtain ⟨u, u1, u2⟩ := rpl_nilF rk (i := i) (d := e p.1) (by rw [List.getElem?_map, List.getElem?_map, hp]; rfl)
  obtain ⟨w, A, G, B', h1, h2, h3⟩ := rl.get i (d := f p.2) (by rw [List.getElem?_map, List.getElem?_map, hp]; rfl)
  refine ⟨⟨at_ H' z, (List.getElem?_eq_some_iff.mp u1).1⟩, fun x H'' ⟨T, y1, y2, q1, q2, q3, q4, q5⟩ => ?_⟩
  rw [u1] at q1
  cases q1
  rw [h1] at q2
  cases q2
  subst q3 q5
  have hw : Rp K H' w (f p.2) G := h2.kp (z.mono fun b hb => List.mem_cons_of_mem _ (by rw [h3]; exact List.mem_append_right _ (List.mem_append_left _ hb)))
  have hu : Rp K H' u (e p.1) [] := u2.kp (z.mono fun b hb => nomatch hb)
  refine ⟨.new q4, G, ?_, fun b hb => List.mem_cons_of_mem _ (by rw [h3]; exact List.mem_append_right _ (List.mem_append_left _ hb))⟩
  have r2 : RpL K H' [u, w] [e p.1, f p.2] ([] ++ (G ++ [])) := .cons hu (.cons hw .nil)
  rw [List.nil_append, List.append_nil] at r2
  exact rp_pair r2 q4
end
end Va

/-! Vd6: sorted(d), list(d). -/
namespace Va
open Classical
open PySem L2 PyProof.Rows PySem.W PySem.Calls
section
variable {prog : Program} {w : World} {A : Around} {E : Value → Shared → Prop} {s : Shared}
theorem kdl_raw {d : Addr} {es : Array DictEntry} {ep : Nat} (lo : (d == sysModules) = false) : KdlSrc prog w "dict" d d es.size (fun i v => ∃ hi : i < es.size, v = es[i].key) (fun h => h.DictRaw d es ep) where
  type := fun _ hm => hm.typeIs
  there := fun _ hm => let ⟨_, ho, _⟩ := hm; ⟨Heap.lt_size ho, Heap.lt_size ho⟩
  keep := fun _ _ hm hk => hm.at fun o e => hk d (.inl rfl) o e
  notList := by decide
  notTuple := by decide
  hint := fun _ _ _ _ hm hq => kdl_hint_dict hm.typeIs hq
  iter := fun A s hh hm => by
    have hlt : d < s.heap.objs.size := let ⟨_, ho, _⟩ := hm; Heap.lt_size ho
    exact ⟨_, _, (fun _ _ hq => wpAny_pyIter_dict_raw lo hm hq), (Walks.rawKeys hh _ d (Nat.ne_of_lt hlt) es ep), ⟨⟨_, Heap.get?_push_size _ rfl, rfl, rfl⟩, hm.at fun o e => Heap.get?_push_of_some _ e⟩⟩
end
def rSortedK (K : PySem.W.Frag) : List V → Hp → VK → Prop := fun vs H Q => ∃ (a : Addr) (o : Obj) (xs zs : List V) (ds : List PyData), vs = [.ref a] ∧ DWk K H a o xs zs ∧ DpAll K H xs ds ∧ AllAlike ds ∧ Sortable ds ∧ (∀ d ∈ ds, d.depth ≤ 60) ∧ xs.length ≤ 1000000 ∧
  ∀ p, H p = none → Q (.ref p) (upd H p (.lst (((xs.zip ds).mergeSort (dataLe false Prod.snd)).map (·.1))))
theorem items_list {es : Array DictEntry} {acc : Array Value} (h : ItemsOf (fun i v => ∃ hi : i < es.size, v = es[i].key) acc es.size) : acc.toList = es.toList.map (·.key) := by
  refine List.ext_getElem? fun i => ?_
  rw [List.getElem?_map, Array.getElem?_toList, Array.getElem?_toList]
  by_cases hi : i < es.size
  · obtain ⟨v, hv⟩ : ∃ v, acc[i]? = some v := ⟨acc[i]'(by rw [h.1]; exact hi), Array.getElem?_eq_getElem _⟩
    obtain ⟨_, rfl⟩ := h.2 i v hv
    rw [hv, Array.getElem?_eq_getElem hi]
    rfl
  · rw [Array.getElem?_eq_none (by rw [h.1]; omega), Array.getElem?_eq_none (by omega)]
    rfl
theorem cr_sortedK {X : Cx} (hc : X.calm = true) (hu : X.A.units + 64 < cLine) : CallR X (.builtin "sorted") (rSortedK X.K) := by
  intro pins s σ H vs us Q I r h
  obtain ⟨a, o, xs, zs, ds, rfl, W, hd, hal, hk, hdep, hxl, q⟩ := h
  obtain ⟨u, rfl, ru⟩ := vals1 r
  obtain rfl : u = Value.ref a := ru
  have len := dpAll_len hd
  obtain ⟨es, ep, hex, hdt, hks, _⟩ := W.ex
  have raw := dx_raw I W.at_ hex hdt
  have hxe : xs.length = es.size := (Vals.length hks).trans (by rw [List.length_map, Array.length_toList])
  have hn : es.size ≤ sizeLine := Nat.le_trans (by omega) line_ge
  refine call_function_entry_kw kind_sorted plain_sorted entry_sorted (args_sorted1 _) ?_
  unfold Builtin.«sorted»
  refine wpAny_bind (m := checkCount "sorted" 1 1 _) (wpAny_pure ?_)
  refine wpAny_bind (kdu_collect (A := X.A.in1) (Va.kdl_raw W.ns) (I.ok.hd hc) raw hn fun h' tk acc hkk hacc => ?_)
  have hits := items_list hacc
  generalize acc.toList = its at hits
  have rv : Vals xs its := by rw [hits]; exact hks
  have hil : its.length ≤ sizeLine := by rw [← Vals.length rv, hxe]; exact hn
  have I1 : Inv X pins σ H { s with heap := h', toks := tk } := I.kept hkk
  refine wpAny_bind (wpAny_newList ?_ hil)
  have hat : (h'.push (seqObj "list" its.toArray 0)).get? h'.objs.size = some (seqObj "list" its.toArray 0) := Heap.get?_push_size _ rfl
  have e : EachIs (fun v (b : V × PyData) => RelV b.1 v) its (xs.zip ds) := each_rel rv len
  have er := each_reads I1 rv hd
  have old : ∀ {b : Addr} {ob : Obj}, h'.get? b = some ob → (sortingHeap (h'.push (seqObj "list" its.toArray 0)) h'.objs.size its).get? b = some ob := fun hb => sortingHeap_old (Nat.ne_of_lt (Heap.lt_size hb)) (Heap.get?_push_of_some _ hb)
  have er' : EachIs (fun v (b : V × PyData) => ∃ as, Reads (sortingHeap (h'.push (seqObj "list" its.toArray 0)) h'.objs.size its) v b.2 as) its (xs.zip ds) := er.mono fun _ _ ⟨as, r⟩ => ⟨as, PyProof.Rows.Reads.keeps (fun _ _ => old) r⟩
  have hz2 := zip_snd len
  have hal' : AllAlike ((xs.zip ds).map Prod.snd) := by rw [hz2]; exact hal
  have hk' : Sortable ((xs.zip ds).map Prod.snd) := by rw [hz2]; exact hk
  refine wpAny_bind (wpAny_holding (wpAny_call_entry_kw slot_list_sort ⟨_, hat, rfl⟩ entry_list_sort ?body (args_list_sort _)))
  case body =>
    show wpAny (model X.prog X.w) X.A.in1.in1 (Builtin.«list.sort» ⟨[.ref h'.objs.size], []⟩) _ _ { s with heap := h'.push (seqObj "list" its.toArray 0), toks := tk }
    refine list_sort_vals (s := { s with heap := h'.push (seqObj "list" its.toArray 0), toks := tk }) (κ := dataKind _ ((xs.zip ds).map Prod.snd)) hat (SortsAt.data (s := { s with heap := sortingHeap (h'.push (seqObj "list" its.toArray 0)) h'.objs.size its, toks := tk }) (each_map (R := fun v d => ∃ as, Reads (sortingHeap (h'.push (seqObj "list" its.toArray 0)) h'.objs.size its) v d as) Prod.snd er') hal' hk' fun d hd => ?_) hil ?_
    · rw [hz2] at hd
      have := hdep d hd
      show X.A.units + 1 + 1 + d.depth < cLine
      omega
    · refine ⟨_, rfl, wpAny_pure ⟨_, rfl, ?_⟩⟩
      have out := sortVals_data false e er' hal'
      generalize sortVals (dataKind (sortingHeap (h'.push (seqObj "list" its.toArray 0)) h'.objs.size its) ((xs.zip ds).map Prod.snd)) false its its = o' at out
      obtain ⟨ep', he'⟩ := sortedHeap_at (out := o'.toArray) hat
      have hl : (((xs.zip ds).mergeSort (dataLe false Prod.snd)).map (·.1)).length ≤ sizeLine := by
        rw [List.length_map, List.length_mergeSort, List.length_zip]
        omega
      have kp : ∀ b ob, h'.get? b = some ob → (sortedHeap (h'.push (seqObj "list" its.toArray 0)) h'.objs.size its o'.toArray).get? b = some ob := fun b ob hb => by
        rw [sortedHeap_old (Nat.ne_of_lt (Heap.lt_size hb)) (by rw [size_push']; exact Nat.lt_succ_of_lt (Heap.lt_size hb))]
        exact Heap.get?_push_of_some _ hb
      exact ⟨.ref _, upd H h'.objs.size (.lst (((xs.zip ds).mergeSort (dataLe false Prod.snd)).map (·.1))), I1.laid (t' := tk) kp (Nat.le_refl _) ⟨hl, o', ep', vals_each out, he'⟩, rfl, q _ (I1.hok.fresh (Nat.le_refl _))⟩
end Va

/-! Vd7: sorted(d), typed. -/
namespace Va
open Classical
open PySem L2 PyProof.Rows PySem.W PySem.Calls
theorem DicAt.small {K : PySem.W.Frag} {H : Hp} {a : Addr} {ks : List PyData} {us : List Value} (d : DicAt K H a ks us) : us.length ≤ 1000000 := by
  rcases d with ⟨o, xs, d, rfl, rfl⟩ | ⟨o, xs, d, rfl, rfl⟩
  · rw [List.length_map]; exact d.td.len
  · rw [List.length_map]; exact d.id.len
section
variable {α β : Type} [DecidableEq α] {e : α → PyData} {f : β → PyData} [DKey e] {K : PySem.W.Frag} {t : TA} {ρ : Env} {k : Kd} {kvs : List (α × β)}
theorem p_sortK {lt : α → α → Bool} {ok : α → Bool} {n : Nat} [LtE e lt] [Flat e] [Shp e n] [SrtE e ok] {zs : List α} (ha : PA' K t ρ [ED e f kvs] k) (h : sortO lt ok (kvs.map (·.1)) = some zs) (hn : n ≤ 60) : PV K (tCB (rSortedK K) t) ρ (.list (zs.map e)) (.mv []) := by
  unfold sortO at h
  split at h
  case isFalse => cases h
  rename_i hall
  cases h
  have hs := hSortD_map (e := e) (lt := lt) hn hall
  intro B AF σ H ρ' Fs d k' S eo Q q
  obtain ⟨e0, e1⟩ := pE_some eo
  subst e0
  cases e1
  refine ha B AF σ H _ Fs _ _ S pE_same _ fun vs H1 F g1 r1 o1 => ?_
  obtain ⟨v, rfl, rv⟩ := r1.one'
  obtain ⟨a, us, ws, F', rfl, hd, hv, rl, rfl⟩ := dic_inv rv
  obtain ⟨o, kv, W, rk⟩ := hd.wk hv
  have hsm := hd.small
  have hdl := hd.len
  unfold hSortD at hs
  split at hs
  case isFalse => cases hs
  rename_i hok
  have hs' := PyData.list.inj (Option.some.inj hs)
  simp only [sortOk, Bool.and_eq_true, Bool.or_eq_true, List.all_eq_true, decide_eq_true_eq] at hok
  obtain ⟨⟨⟨⟨h1, h2⟩, h3⟩, h4⟩, h5⟩ := hok
  have hl : kv.length = ((kvs.map (·.1)).map e).length := rk.length
  refine ⟨a, o, kv, ws, _, rfl, W, rk.dp h2, h3, ?_, h5, by omega, fun p hp => ?_⟩
  · rcases h4 with h4 | h4
    · refine .inl fun d hd => ?_
      have := h4 d hd
      cases d with
      | tuple l =>
        cases l with
        | nil => cases this
        | cons x r => exact ⟨x, r, rfl⟩
      | _ => cases this
    · refine .inr fun d hd => ?_
      have := h4 d hd
      refine ⟨fun z => ?_, fun l z => ?_⟩
      · subst z; cases this
      · subst z; cases this
  · have hm : ((kv.zip ((kvs.map (·.1)).map e)).mergeSort (dataLe false Prod.snd)).map Prod.snd = ((kvs.map (·.1)).map e).mergeSort leD := by
      rw [List.map_mergeSort (r := dataLe false Prod.snd) (s := leD) (f := Prod.snd) (fun a _ b _ => rfl), zip_snd hl]
    have rp := rpl_pairs (K := K) (H := H1) (bs := (kv.zip ((kvs.map (·.1)).map e)).mergeSort (dataLe false Prod.snd)) fun b hb => zip_rp rk h1 b (List.mem_mergeSort.mp hb)
    rw [hm, hs'] at rp
    have hfl : H p = none := g1.back hp
    exact q _ _ [p] (g1.trans (.new hp)) (rp_lst rp hp) (.mv ⟨by simp, fun a ha => by rcases List.mem_singleton.mp ha with rfl; exact .inl hfl⟩)
end
end Va

/-! Vd8: dict comprehensions (under way): the store, the reading. -/
namespace Va
open Classical
open PySem L2 PyProof.Rows PySem.W PySem.Calls
section
variable {X : Cx}
/-- a store into a dict that a comprehension makes -/
theorem dset_dc (hu : X.A.units + 65 < cLine) {pins : List (Addr × Obj)} {s : Shared} {σ : L2.St} {H : Hp} {D : Addr} {y z : V} {u r : Value} {Q' : Hp → Prop} {Q : Unit → Shared → Prop} {E : Value → Shared → Prop} (I : Inv X pins σ H s) (ry : RelV y u) (rz : RelV z r)
    (h : rSetD X.K (.ref D) y z H Q') (fin : ∀ s' H', Inv X pins σ H' s' → Q' H' → Q () s') : wpAny (model X.prog X.w) X.A (dictSet D u r) Q E s := by
  obtain ⟨a, kd, ks, us, j, ea, d, hl, q⟩ := h
  cases ea
  rcases d with ⟨o, xs, k, b, rfl, hk, hd, dd, rfl, rfl, rfl, rfl⟩ | ⟨o, kvs, n, rfl, dd, rfl, rfl, rfl, rfl⟩
  · cases (show u = Value.ref b from ry)
    have hr : (nestedKind X.prog X.w).room X.A := by
      show X.A.units + 8 < cLine
      omega
    refine wpAny_dictSet_heap (knd := nestedKind X.prog X.w) (hsz := Nat.le_trans dd.td.len line_ge) hr ⟨hk.is I rfl, hd⟩ (dd.of I) fun h' dd' hs => ?_
    have h1 : ∀ x ∈ storedH xs k b r, NK X.K H (.ref x.2.1) x.1 ∧ x.1.depth ≤ 8 := fun x hx => by
      unfold storedH at hx
      split at hx
      · obtain ⟨y, hy, rfl⟩ := List.mem_map.mp hx
        unfold putAt
        split
        · exact dd.td.key y hy
        · exact dd.td.key y hy
      · rcases List.mem_append.mp hx with hx | hx
        · exact dd.td.key x hx
        · rw [List.mem_singleton.mp hx]; exact ⟨hk, hd⟩
    have h2 : (storedH xs k b r).length ≤ 1000000 := by
      unfold storedH
      split
      · rw [List.length_map]; exact dd.td.len
      · rw [List.length_append, List.length_singleton]
        rw [List.length_map] at hl
        omega
    obtain ⟨o', I', d'⟩ := dd.write (t' := s.toks + (nestedKind X.prog X.w).draws k) I dd' hs h1 h2
    exact fin _ _ I' (q o' r rz (.inl ⟨o', _, d', stH_keys, stH_vals dd.td.nd⟩))
  · refine wpAny_dictSet_pairs (knd := PySem.intKind X.prog X.w) (hsz := Nat.le_trans dd.id.len line_ge) (int_is ry) (dd.of I) fun h' dd' hs => ?_
    obtain ⟨o', I', d'⟩ := dd.write (t' := s.toks + 1) I dd' hs (stored_len (by rw [List.length_map] at hl; exact hl))
    exact fin _ _ I' (q o' r rz (.inr ⟨o', _, d', st_keys, st_vals dd.id.nd⟩))
end
/-- {k: v for target in iter if ..} -/
def tDcX (K : PySem.W.Frag) (wi : TI) (g : TG) (tt : TT) (tk tv : TE) (vs : List Nat) : TE := fun σ H Q => wi σ H fun J H1 => ∀ D o, H1 D = none → DicAt K (upd H1 D (dX D o)) D [] [] → ∃ W : Nat → Nat → Hp → Prop, (∃ m, W 0 m (upd H1 D (dX D o))) ∧
  ∀ i m H, W i m H → (J.stop i H ∧ Q (.ref D) H) ∨ (J.go i H ∧ ∃ Nx : Hp → Prop, (∀ H', Nx H' → ∃ m', m' < m ∧ W (i + 1) m' H') ∧ ∀ x H', J.yld i H x H' → g x (wipe σ vs) H' fun σ2 H2 => wipe σ2 vs = wipe σ vs ∧ tt σ2 H2 fun b H3 =>
    if b = true then tk σ2 H3 fun y H4 => tv σ2 H4 fun z H5 => rSetD K (.ref D) y z H5 Nx else Nx H3)
section
variable {X : Cx} {kx vx tg iter : Expr} {ifs : List Expr} {scope : Scope} {own : List (Str × Nat)} {pos : Pos} {wi : TI} {g : TG} {tt : TT} {tk tv : TE}
theorem pe_dcx (hu : X.A.units + 65 < cLine) (hc : X.calm = true) (hN : X.N.Nodup) (hi : PI X tg iter wi) (ok : BlkOk X.N X.env.scope scope own)
    (hg : ∀ (s : Shared) (H : Hp) (C : Addr) (cl : List (Str × Addr)) (fp : List Addr), PG (X.blk s H scope (compEnvC scope cl C X.env) fp) tg g) (ht : ∀ (s : Shared) (H : Hp) (C : Addr) (cl : List (Str × Addr)) (fp : List Addr), PTs (X.blk s H scope (compEnvC scope cl C X.env) fp) ifs tt)
    (hk : ∀ (s : Shared) (H : Hp) (C : Addr) (cl : List (Str × Addr)) (fp : List Addr), PE (X.blk s H scope (compEnvC scope cl C X.env) fp) kx tk) (hv : ∀ (s : Shared) (H : Hp) (C : Addr) (cl : List (Str × Addr)) (fp : List Addr), PE (X.blk s H scope (compEnvC scope cl C X.env) fp) vx tv)
    (hs : ∀ x, foldedSetIterable iter X.env x = pure x := by intro _; rfl) : PE X (.DictComp kx vx [⟨tg, iter, ifs, 0⟩] scope pos) (tDcX X.K wi g tt tk tv (own.map (·.2))) := by
  refine ⟨fun pins s σ H Q I h => ?_⟩
  rw [arm_eval_DictComp]
  have clos : ∀ y ∈ scope.names, y.2 = .free → ∃ c, X.env.cells.lookup y.1 = some c := fun y hy e => (ok.free y hy e).elim (fun z => I.ok.has _ (.inl z)) fun z => I.ok.has _ (.inr z)
  refine wpAny_comprehension_free (use := none) rfl hs (closure_ok clos) ok.kind (fun y hy e => by rw [ok.uniq y hy, e]) (thn (hi.run pins s σ H _ I h) fun _ _ hit => thn hit fun _ s2 ⟨it, fp, tn, J, H2, ei, I2, T, st, hf, q⟩ => ?_)
  subst ei
  refine wpAny_newObj_type (newEnv_comp ?_)
  obtain ⟨D, hD⟩ : ∃ D, D = s2.heap.objs.size := ⟨_, rfl⟩
  obtain ⟨o0, ho0⟩ : ∃ o0 : Obj, o0 = { cls := .type "dict", data := .dict #[] } := ⟨_, rfl⟩
  obtain ⟨s3, hs3⟩ : ∃ s3 : Shared, s3 = { s2 with heap := s2.heap.push o0 } := ⟨_, rfl⟩
  have keep3 : ∀ b o, s2.heap.get? b = some o → s3.heap.get? b = some o := fun b o e => by rw [hs3]; exact Heap.get?_push_of_some _ e
  have atD : s3.heap.get? D = some o0 := by rw [hs3, hD]; exact Heap.get?_push_size _ (by rw [ho0]; rfl)
  have hDn : H2 D = none := I2.hok.fresh (Nat.le_of_eq hD.symm)
  obtain ⟨H3, hH3⟩ : ∃ H3, H3 = upd H2 D (dX D o0) := ⟨_, rfl⟩
  have d0 : DicAt X.K H3 D [] [] := by
    refine .inl ⟨o0, [], ⟨by rw [hH3]; exact upd_same, ?_, ?_⟩, rfl, rfl⟩
    · rw [hD]; exact beq_eq_false_iff_ne.mpr (Ne.symm (Nat.ne_of_lt I2.big))
    · rw [ho0]; exact ⟨⟨rfl, rfl, rfl⟩, ⟨#[], 0, rfl, fun _ => rfl⟩, List.nodup_nil, Nat.zero_le _, fun _ h => nomatch h⟩
  obtain ⟨W, ⟨m0, w0'⟩, turn⟩ := q D o0 hDn (by rw [← hH3]; exact d0)
  rw [← hH3] at w0'
  have I3 : Inv X pins σ H3 s3 := by
    rw [hH3, hs3]
    exact I2.laid (t' := s2.toks) (fun b o e => Heap.get?_push_of_some _ e) (Nat.le_of_eq hD.symm) (dX_ok (by rw [hD]; exact Heap.get?_push_size _ (by rw [ho0]; rfl)))
  have lt3 : ∀ b ∈ fp, b < s2.heap.objs.size := fun b hb => let ⟨_, e, _⟩ := T.obj _ _ st b hb; Heap.lt_size e
  have hf3 : ∀ b ∈ fp, FpOk X pins H3 b ∧ b < s3.heap.objs.size := fun b hb => by
    refine ⟨⟨?_, (hf b hb).2⟩, by rw [hs3, Heap.size_push]; exact Nat.lt_succ_of_lt (lt3 b hb)⟩
    rw [hH3, upd_ne (by rw [hD]; exact Nat.ne_of_lt (lt3 b hb))]
    exact (hf b hb).1
  have st3 : tn 0 s3.heap := T.keep _ _ _ st fun b _ o e => keep3 b o e
  have I4 := block_start I3 ok hN hf3
  have pg := fun C cl => hg s3 H3 C cl fp
  have pt := fun C cl => ht s3 H3 C cl fp
  have pk := fun C cl => hk s3 H3 C cl fp
  have pv := fun C cl => hv s3 H3 C cl fp
  obtain ⟨ce, hce⟩ : ∃ ce, ce = compEnvC scope (cellsFrom (s3.heap.objs.size + 1) scope.names (cloFrom X.env.cells scope.names [])) s3.heap.objs.size X.env := ⟨_, rfl⟩
  have cL : ce.locals = s3.heap.objs.size := by rw [hce]; rfl
  have pg' : PG (X.blk s3 H3 scope ce fp) tg g := by rw [hce]; exact pg _ _
  have pt' : PTs (X.blk s3 H3 scope ce fp) ifs tt := by rw [hce]; exact pt _ _
  have pk' : PE (X.blk s3 H3 scope ce fp) kx tk := by rw [hce]; exact pk _ _
  have pv' : PE (X.blk s3 H3 scope ce fp) vx tv := by rw [hce]; exact pv _ _
  rw [← hce] at I4
  obtain ⟨s4, hs4⟩ : ∃ s4 : Shared, s4 = { s3 with heap := pushCells (s3.heap.push { cls := .type "dict", data := .dict #[] }) scope.names } := ⟨_, rfl⟩
  rw [← hs4] at I4
  have st4 : tn 0 s4.heap := T.keep _ _ _ st3 fun b _ o e => by rw [hs4]; exact pushCells_keeps _ _ _ _ (Heap.get?_push_of_some _ e)
  have goal : codeAny (model X.prog X.w) X.A (.compStart (.DictComp kx vx [⟨tg, iter, ifs, 0⟩] scope pos) 0 (.ref it) (.ref D) ce) (compPost (model X.prog X.w) X.A X.xe none (EP X pins σ Q) (.ref D) s3.heap.objs.size) s4 := by
    have fpB : ∀ {σ' : L2.St} {H' : Hp} {s' : Shared}, Inv (X.blk s3 H3 scope ce fp) [] σ' H' s' → (∀ b ∈ fp, H' b = none) → ∀ b ∈ fp, FpOk (X.blk s3 H3 scope ce fp) [] H' b := fun {σ' H' s'} IB nb b hb =>
      ⟨nb b hb, (IB.ok.exf b hb).1, IB.ok.exfs b hb, .inl hb, (IB.ok.exf b hb).2, fun p hp => by simp at hp⟩
    have huB : (X.blk s3 H3 scope ce fp).A.units + 65 < cLine := hu
    have lp : codeAny (model X.prog X.w) X.A (.compLoop (.DictComp kx vx [⟨tg, iter, ifs, 0⟩] scope pos) 0 (.ref it) (.ref D) ce) (compPost (model X.prog X.w) X.A X.xe none (EP X pins σ Q) (.ref D) s3.heap.objs.size) s4 := by
      refine compLoop_anyD (fun n s' => ∃ i H', Inv (X.blk s3 H3 scope ce fp) [] (wipe σ (own.map (·.2))) H' s' ∧ tn i s'.heap ∧ (∀ b ∈ fp, H' b = none) ∧ W i n H') ?_ m0 ⟨0, H3, I4, st4, fun b hb => (hf3 b hb).1.1, w0'⟩
      rintro n s5 ⟨i, H5, I5, st5, n5, w5⟩
      rcases turn i n H5 w5 with ⟨stop, done⟩ | ⟨go, Nx, hNx, step⟩
      · refine thnF (T.done (X.blk s3 H3 scope ce fp) rfl rfl rfl hc i [] s5 _ H5 (fun _ _ => False) I5 (fpB I5 n5) st5 stop) fun r s6 ⟨er, I6⟩ => ?_
        subst er
        have I7 : Inv X pins σ H5 s6 := I3.call' (ch := fp) I6.os I6.base I6.hok I6.bare fun b hb => ⟨(hf3 b hb).1.2.2.2.1, (hf3 b hb).1.2.1, (hf3 b hb).1.2.2.2.2.1, (hf3 b hb).1.2.2.2.2.2⟩
        have nC : H5 s3.heap.objs.size = none := by
          have z : H5 ce.locals = none := I6.free
          rwa [cL] at z
        obtain ⟨m, hm, _⟩ := I6.loc
        have hm' : s6.heap.Ns ce.locals m := hm
        rw [cL] at hm'
        obtain ⟨f0, f1, f2, f3, f4, f5⟩ := I3.fpOk (Nat.le_refl _) nC
        exact ⟨m, hm', fun h'' sb => ⟨.ref D, H5, I7.turned (t' := s6.toks) (fun b o hb e => (sb.2 b hb).trans e) f0 f1 f3 f4 f5, rfl, done⟩⟩
      · refine thnF (T.item (X.blk s3 H3 scope ce fp) rfl rfl rfl hc i [] s5 _ H5 (fun _ _ => False) I5 (fpB I5 n5) st5 go) fun r s6 ⟨u, er, more⟩ => ?_
        subst er
        refine thnF more fun _ s7 ⟨x, H7, I7, r7, y7, st7, n7⟩ => ?_
        have I7' := I7.pinned (fpB I7 n7) (T.obj _ _ st7)
        refine thnF (pg'.run _ s7 _ H7 x u _ I7' r7 (step x H7 y7)) fun _ s8 ⟨σ8, H8, I8, hw, q8⟩ => ?_
        refine thnF (pt'.run _ s8 σ8 H8 _ I8 q8) fun b s9 ⟨H9, I9, q9⟩ => ?_
        have next : ∀ {s' : Shared} {H' : Hp}, Inv (X.blk s3 H3 scope ce fp) ([] ++ pinsAt fp s7.heap) σ8 H' s' → Nx H' → ∃ m, m < n ∧ ∃ i H', Inv (X.blk s3 H3 scope ce fp) [] (wipe σ (own.map (·.2))) H' s' ∧ tn i s'.heap ∧ (∀ b ∈ fp, H' b = none) ∧ W i m H' := fun {s' H'} IB nx => by
          obtain ⟨m', lt, w'⟩ := hNx H' nx
          have pinned : ∀ b ∈ fp, ∀ o, s7.heap.get? b = some o → s'.heap.get? b = some o ∧ H' b = none := fun b hb o e =>
            let z := IB.pin (b, o) (List.mem_append_right _ (List.mem_append_right _ (mem_pinsAt hb e)))
            ⟨z.1, z.2.1⟩
          refine ⟨m', lt, i + 1, H', (IB.unpinned (pins := [])).weak (by rw [← hw, wipe_length]) (fun j v e => (wipe_some (by rw [← hw] at e; exact e)).1), T.keep _ _ _ st7 fun b hb o e => (pinned b hb o e).1, fun b hb => ?_, w'⟩
          obtain ⟨o, e, _⟩ := T.obj _ _ st7 b hb
          exact (pinned b hb o e).2
        cases b with
        | false =>
          simp only [Bool.false_eq_true, if_false] at q9 ⊢
          exact next I9 q9
        | true =>
          simp only [if_true] at q9 ⊢
          refine thnF (pk'.run _ s9 σ8 H9 _ I9 q9) fun _ s10 ⟨y, H10, I10, r10, q10⟩ => ?_
          refine thnF (pv'.run _ s10 σ8 H10 _ I10 q10) fun _ s11 ⟨z, H11, I11, r11, q11⟩ => ?_
          exact dset_dc (X := X.blk s3 H3 scope ce fp) huB I11 r10 r11 q11 fun s12 H12 I12 nx => next I12 nx
    exact codeAny_compStart_dict lp (T.self X.A 0 _ _ _ st4 lp)
  rw [hs4, hce, hs3, ho0, hD] at goal
  exact goal
end
end Va

/-! Vd9: dict comprehensions, typed (values new or flat). -/
namespace Va
open Classical
open PySem L2 PyProof.Rows PySem.W PySem.Calls
def dcO {γ α β : Type} [DecidableEq α] (c : γ → Option Bool) (fk : γ → Option α) (fv : γ → Option β) : List γ → List (α × β) → Option (List (α × β))
  | [], acc => some acc
  | x :: xs, acc => (c x).bind fun b => if b = true then (fk x).bind fun k => (fv x).bind fun y => (putO acc k y).bind fun acc => dcO c fk fv xs acc else dcO c fk fv xs acc
section
variable {γ α β : Type} [DecidableEq α] {ei : γ → PyData} {e : α → PyData} {f : β → PyData} [DKey e] {K : PySem.W.Frag} {wi : TI} {g : TG} {st : PyData → Env → Option Env} {ns vs : List Nat} {tt : TT} {tk tv : TE} {ρ : Env} {kc : Kd} {xs : List γ} {kvs : List (α × β)}
  {c : γ → Option Bool} {fk : γ → Option α} {fv : γ → Option β}
theorem q_dc (E1 : γ → Env) (hi : PI' K wi ρ (xs.map ei) kc) (hg : VG K ns g st) (hst : ∀ x, TgJ st (ei x) (wipeE (zeroE ρ) vs) (E1 x)) (ht : ∀ x, x ∈ xs → TV K tt (E1 x) (c x)) (hk : ∀ x, x ∈ xs → EV K tk (E1 x) (fk x) e (.mv [])) (hv : ∀ x, x ∈ xs → EV K tv (E1 x) (fv x) f (.mv []))
    (h : dcO c fk fv xs [] = some kvs) (hn : ∀ i ∈ ns, i ∈ vs) : PV K (tDcX K wi g tt tk tv vs) ρ (ED e f kvs) (.mv []) := by
  intro B AF σ H ρ' Fs d k S eo Q q
  obtain ⟨e0, e1⟩ := pE_some eo
  subst e0
  cases e1
  refine hi B AF σ H _ Fs _ kc S pE_same _ fun J H1 C g1 ok hC D o hD d0 => ?_
  have S1 := S.grow g1
  have hD0 : H D = none := g1.back hD
  have Si : ∀ {H2 : Hp}, Grow H1 H2 → SR K B AF (wipe σ vs) H2 (wipeE (zeroE ρ') vs) Fs := fun g2 => ((S1.grow g2).zero).wipe vs
  have frI : ∀ G : List Addr, Free (wipeE (zeroE ρ') vs) Fs G := fun G i d m h a ha => by
    obtain ⟨rfl, _⟩ := zero_get (wipeE_get h)
    rw [Mf0] at ha; cases ha
  refine ⟨fun i m H' => m = xs.length - i ∧ i ≤ xs.length ∧ ∃ acc, dcO c fk fv (xs.drop i) acc = some kvs ∧ Grow H1 H' ∧ ∃ F, Rp K H' (.ref D) (ED e f acc) (D :: F) ∧ (∀ a ∈ F, H a = none) ∧ D ∉ F ∧ F.Nodup,
    ⟨xs.length, by simp, Nat.zero_le _, [], h, .new hD, [], .dic d0 .nil .nil, fun a ha => (nomatch ha), fun ha => (nomatch ha), List.nodup_nil⟩, ?_⟩
  rintro i m H' ⟨rfl, hil, acc, eq, gr, F, rD, hF, hDF, hN⟩
  have kpC : Kp C H1 H' := gr.kp
  by_cases hlt : i < xs.length
  · obtain ⟨x, hx⟩ : ∃ x, xs[i]? = some x := ⟨xs[i], List.getElem?_eq_getElem hlt⟩
    have hm : x ∈ xs := List.mem_of_getElem? hx
    obtain ⟨go, yl⟩ := ok.go H' kpC i (ei x) (by rw [List.getElem?_map, hx]; rfl)
    have edrop : xs.drop i = x :: xs.drop (i + 1) := by
      rw [List.drop_eq_getElem_cons hlt]
      rw [List.getElem?_eq_getElem hlt] at hx
      rw [Option.some.inj hx]
    rw [edrop, dcO] at eq
    obtain ⟨b, hb, eq⟩ := Option.bind_eq_some_iff.mp eq
    refine .inr ⟨go, fun H2 => ∃ acc, dcO c fk fv (xs.drop (i + 1)) acc = some kvs ∧ Grow H1 H2 ∧ ∃ F, Rp K H2 (.ref D) (ED e f acc) (D :: F) ∧ (∀ a ∈ F, H a = none) ∧ D ∉ F ∧ F.Nodup, fun H2 ⟨acc2, b1, b2⟩ => ⟨xs.length - (i + 1), by omega, rfl, by omega, acc2, b1, b2⟩, fun y H2 hy => ?_⟩
    obtain ⟨g2, G, rx, hG⟩ := yl y H2 hy
    have g12 : Grow H1 H2 := gr.trans g2
    obtain ⟨ρ2, a1, l2⟩ := hst x _ .refl
    refine hg B AF (wipe σ vs) H2 _ ρ2 Fs y (ei x) G (Si g12) rx (fun a ha => ?_) (frI G) a1 _ fun σ2 Fs2 S2 T2 => ⟨(T2.wip vs hn).trans (wipe_sub vs fun _ h => h), ?_⟩
    · rcases hC a (hG a ha) with z | ⟨j, hj, ⟨d', m', z⟩, ma⟩
      · exact .inl (S.same.back z)
      · obtain ⟨_, _, _, h3, _⟩ := S.val j d' m' z
        exact h3 a ma
    · refine c_in l2 (ht x hm) B AF σ2 H2 ρ2 Fs2 b S2 (pE_same.trans hb) _ fun H3 g3 => ?_
      cases b with
      | false =>
        rw [if_neg Bool.false_ne_true] at eq ⊢
        exact ⟨acc, eq, g12.trans g3, F, rD.grow (g2.trans g3), hF, hDF, hN⟩
      | true =>
        rw [if_pos rfl] at eq ⊢
        obtain ⟨kx, k1, eq⟩ := Option.bind_eq_some_iff.mp eq
        obtain ⟨yv, y1, eq⟩ := Option.bind_eq_some_iff.mp eq
        obtain ⟨acc', p1, eq⟩ := Option.bind_eq_some_iff.mp eq
        refine e_in l2 (hk x hm) B AF σ2 H3 ρ2 Fs2 _ _ (S2.grow g3) (pE_same.trans (by rw [k1]; rfl)) _ fun u H4 Gk g4 rk ok4 => ?_
        refine e_in l2 (hv x hm) B AF σ2 H4 ρ2 Fs2 _ _ (S2.grow (g3.trans g4)) (pE_same.trans (by rw [y1]; rfl)) _ fun z H5 Gz g5 rz oz => ?_
        have hz : ∀ a ∈ Gz, H4 a = none := fun a ha => (oz.1.2 a ha).resolve_right fun ⟨i, hi, _⟩ => nomatch hi
        have g25 : Grow H' H5 := g2.trans (g3.trans (g4.trans g5))
        have g24 : Grow H' H4 := g2.trans (g3.trans g4)
        obtain ⟨a, us, ws, F', ea, hd, hvv, rl, eF⟩ := dic_inv (rD.grow g25)
        cases ea
        cases eF
        unfold putO at p1
        split at p1
        case isFalse => cases p1
        rename_i hlen
        cases p1
        have hl : us.length = acc.length := by
          have := hd.len
          simpa using this.symm
        have rD4 := rD.grow g24
        have dGz : ∀ a ∈ Gz, a ∉ D :: F := fun a ha hm' => rD4.stn hm' (hz a ha)
        have nGz : Gz.Nodup := oz.1.1
        have nd : (F ++ Gz).Nodup := List.nodup_append.mpr ⟨hN, nGz, fun a ha b hb hab => dGz b hb (hab ▸ List.mem_cons_of_mem _ ha)⟩
        obtain ⟨G', hG1, hG2, hG3⟩ := rpl_put rl rz (j := posL (acc.map (·.1)) kx) (fun j hj => by
          have := (List.getElem?_eq_some_iff.mp (posL_some hj)).1
          simpa using this)
        have DG : D ∉ G' := fun hm' => (hG2 D hm').elim hDF fun w => dGz D w (List.mem_cons_self ..)
        refine ⟨D, _, _, us, _, rfl, DKey.op hd (rk.grow g5), by omega, fun ob uu ru dn => ⟨_, eq, (gr.trans g25).upd hD hd.wr, G', ?_, fun b hb' => ?_, DG, hG3 nd⟩⟩
        · refine dic_mk (ks := (putD acc kx yv).map (·.1)) (bs := (putD acc kx yv).map (·.2)) (us := valsPut us uu (posL (acc.map (·.1)) kx)) (vs := valsPut ws z (posL (acc.map (·.1)) kx)) ?_ (vals_put hvv ru _) ?_ rfl rfl
          · have : ((putD acc kx yv).map (·.1)).map e = keysPut ((acc.map (·.1)).map e) (e kx) (posL (acc.map (·.1)) kx) := by
              rw [put_fst]
              show _ = keysPut _ _ (posD acc kx)
              cases posD acc kx <;> simp [keysPut]
            rw [this]
            exact dn
          · have : ((putD acc kx yv).map (·.2)).map f = valsPut ((acc.map (·.2)).map f) (f yv) (posL (acc.map (·.1)) kx) := by
              rw [put_snd]
              show _ = valsPut _ _ (posD acc kx)
              cases posD acc kx <;> simp [valsPut, List.map_set]
            rw [this]
            exact hG1.kp (.upd hd.mb DG)
        · rcases hG2 b hb' with w | w
          · exact hF b w
          · have : Grow H H4 := g1.trans (gr.trans g24)
            exact this.back (hz b w)
  · have ei' : i = xs.length := by omega
    subst ei'
    rw [List.drop_length, dcO] at eq
    cases eq
    refine .inl ⟨ok.stop H' kpC _ (by rw [List.length_map]; exact Nat.le_refl _), q _ H' (D :: F) (g1.trans gr) rD (.mv ⟨List.nodup_cons.mpr ⟨hDF, hN⟩, fun a ha => ?_⟩)⟩
    rcases List.mem_cons.mp ha with rfl | ha
    · exact .inl hD0
    · exact .inl (hF a ha)
end
end Va

/-! Vg1: list comprehensions with two fors, typed (items of the inner walk and of the list flat); x or y by truth. -/
namespace Va
open Classical
open PySem L2 PyProof.Rows PySem.W PySem.Calls
def lc2O {α β δ : Type} (c : α → Option Bool) (l : α → Option (List δ)) (c1 : α → δ → Option Bool) (f : α → δ → Option β) : List α → Option (List β)
  | [] => some []
  | x :: xs => (c x).bind fun b => if b = true then (l x).bind fun ys => (filO (c1 x) (f x) ys).bind fun r => (lc2O c l c1 f xs).bind fun rs => some (r ++ rs) else lc2O c l c1 f xs
/-- a walk over a list that may not be there -/
def IV {δ : Type} (K : PySem.W.Frag) (wi : TI) (ρ : Env) (o : Option (List δ)) (e : δ → PyData) (k : Kd) : Prop := ∀ l, o = some l → PI' K wi ρ (l.map e) k
theorem LessE.unset {ρ ρ' : Env} (h : LessE ρ ρ') (i : Nat) : LessE (ρ.set i none) (ρ'.set i none) := by
  refine ⟨by simp [h.len], fun j e n q => ?_⟩
  rw [List.getElem?_set] at q ⊢
  split at q
  · split at q <;> cases q
  · rename_i hj
    rw [if_neg hj]
    exact h.le j e n q
theorem LessE.wipe {ρ ρ' : Env} (h : LessE ρ ρ') : ∀ vs : List Nat, LessE (wipeE ρ vs) (wipeE ρ' vs)
  | [] => h
  | v :: vs => (h.wipe vs).unset v
theorem i_in {K : PySem.W.Frag} {wi : TI} {ρ ρ' : Env} {ds : List PyData} {k : Kd} (l : LessE ρ ρ') (h : PI' K wi ρ' ds k) : PI' K wi ρ ds k := fun B AF σ H ρ0 Fs ds' k' S eo R q => by
  obtain ⟨e0, e1⟩ := pE_some eo
  subst e0
  refine h B AF σ H _ Fs ds' k' (S.lessE l) (pE_same.trans e1) R fun J H' C g ok hC => q J H' C g ok fun a ha => (hC a ha).imp id fun ⟨i, hi, ⟨d, m, z⟩, ma⟩ => ?_
  obtain ⟨m0, h1, _⟩ := l.le i d m z
  exact ⟨i, hi, ⟨d, m0, h1⟩, ma⟩
section
variable {α β δ γ : Type} {K : PySem.W.Frag} {wi wi1 : TI} {g g1 : TG} {st st1 : SG} {ns ns1 vs vs1 : List Nat} {tt tt1 : TT} {te : TE} {ρ : Env} {kc kc1 : Kd} {xs : List α} {e : α → PyData} {e1 : δ → PyData} {e' : β → PyData}
  {c : α → Option Bool} {l : α → Option (List δ)} {c1 : α → δ → Option Bool} {f : α → δ → Option β} {zs : List β}
theorem iv_some {ys : List δ} (h : PI' K wi ρ (ys.map e1) kc) : IV K wi ρ (some ys) e1 kc := fun _ q => by cases q; exact h
theorem iv_bind {o : Option γ} {f : γ → Option (List δ)} (h : ∀ v, o = some v → IV K wi ρ (f v) e1 kc) : IV K wi ρ (o.bind f) e1 kc := fun l q => by
  obtain ⟨v, a, b⟩ := Option.bind_eq_some_iff.mp q
  exact h v a l b
/-- what stands in the list so far -/
def L2I (K : PySem.W.Frag) (H1 : Hp) (D : Addr) (e' : β → PyData) (zs : List β) (rest : List β) (H' : Hp) : Prop :=
  Grow H1 H' ∧ ∃ us out, H' D = some (.lst us) ∧ RpL K H' us (out.map e') [] ∧ out ++ rest = zs
theorem L2I.grow {H1 H2 H3 : Hp} {D : Addr} {rest : List β} (h : L2I K H1 D e' zs rest H2) (gr : Grow H2 H3) : L2I K H1 D e' zs rest H3 := by
  obtain ⟨a, us, out, b, c, d⟩ := h
  exact ⟨a.trans gr, us, out, gr _ _ b, c.grow gr, d⟩
theorem L2I.push [Flat e'] {H1 H2 : Hp} {D : Addr} {rest : List β} {y : β} {v : V} {G : List Addr} (hD : H1 D = none) (h : L2I K H1 D e' zs (y :: rest) H2) (r : Rp K H2 v (e' y) G) (hz : zs.length ≤ 1000000) : ∃ acc, H2 D = some (.lst acc) ∧ acc.length < sizeLine ∧ L2I K H1 D e' zs rest (upd H2 D (.lst (acc ++ [v]))) := by
  obtain ⟨a, us, out, b, c, d⟩ := h
  have hG : G = [] := r.flat (Flat.flat (e := e') y)
  subst hG
  have hl : us.length = out.length := by rw [c.length, List.length_map]
  refine ⟨us, b, lt_line ?_, a.upd hD (.lst b), us ++ [v], out ++ [y], upd_same, ?_, by rw [List.append_assoc]; exact d⟩
  · rw [hl]
    have := congrArg List.length d
    simp at this
    omega
  · rw [List.map_append]
    exact (c.snoc r).kp (.upd (by rw [b]; rfl) (fun h => nomatch h))
theorem q_lc2F [Flat e1] [Flat e'] {un : Unit} (E1 : α → Env) (E2 : α → δ → Env) (hi : PI' K wi ρ (xs.map e) kc) (hg : VG K ns g st) (hst : ∀ x, TgJ st (e x) (wipeE (zeroE ρ) vs) (E1 x)) (ht : ∀ x, x ∈ xs → TV K tt (E1 x) (c x))
    (hi1 : ∀ x, x ∈ xs → IV K wi1 (E1 x) (l x) e1 kc1) (hg1 : VG K ns1 g1 st1) (hst1 : ∀ x y, TgJ st1 (e1 y) (wipeE (E1 x) vs1) (E2 x y)) (ht1 : ∀ x y, x ∈ xs → TV K tt1 (E2 x y) (c1 x y)) (he : ∀ x y, x ∈ xs → EV K te (E2 x y) (f x y) e' (.mv []))
    (h : lc2O c l c1 f xs = some zs) (hl : chk (decide (zs.length ≤ 1000000)) = some un) (hn : ∀ i ∈ ns, i ∈ vs) (hn1 : ∀ i ∈ ns1, i ∈ vs1) : PV K (tLc2 wi g tt wi1 g1 tt1 te vs vs1) ρ (.list (zs.map e')) (.mv []) := by
  have hz : zs.length ≤ 1000000 := by simpa using chk_some hl
  intro B AF σ H ρ' Fs d k S eo Q q
  obtain ⟨e0, e3⟩ := pE_some eo
  subst e0
  cases e3
  refine hi B AF σ H _ Fs _ kc S pE_same _ fun J H1 C gr0 ok hC D hD => ?_
  have S1 := S.grow gr0
  have hD0 : H D = none := gr0.back hD
  have Si : ∀ {H2 : Hp}, Grow H1 H2 → SR K B AF (L2.wipe σ vs) H2 (wipeE (zeroE ρ') vs) Fs := fun g2 => ((S1.grow g2).zero).wipe vs
  have frI : ∀ G : List Addr, Free (wipeE (zeroE ρ') vs) Fs G := fun G i d m h a ha => by
    obtain ⟨rfl, _⟩ := zero_get (wipeE_get h)
    rw [Mf0] at ha; cases ha
  have DC : D ∉ C := fun hm => by
    have := ok.mb D hm
    rw [hD] at this
    cases this
  refine ⟨fun i m H' => m = xs.length - i ∧ i ≤ xs.length ∧ ∃ rest, lc2O c l c1 f (xs.drop i) = some rest ∧ L2I K H1 D e' zs rest H', ⟨xs.length, by simp, Nat.zero_le _, zs, h, .new hD, [], [], upd_same, .nil, rfl⟩, ?_⟩
  rintro i m H' ⟨rfl, hil, rest, eq, I⟩
  have kpC : Kp C H1 H' := I.1.kp
  by_cases hlt : i < xs.length
  · obtain ⟨x, hx⟩ : ∃ x, xs[i]? = some x := ⟨xs[i], List.getElem?_eq_getElem hlt⟩
    have hm : x ∈ xs := List.mem_of_getElem? hx
    obtain ⟨go, yl⟩ := ok.go H' kpC i (e x) (by rw [List.getElem?_map, hx]; rfl)
    have edrop : xs.drop i = x :: xs.drop (i + 1) := by
      rw [List.drop_eq_getElem_cons hlt]
      rw [List.getElem?_eq_getElem hlt] at hx
      rw [Option.some.inj hx]
    rw [edrop, lc2O] at eq
    obtain ⟨b, hb, eq⟩ := Option.bind_eq_some_iff.mp eq
    refine .inr ⟨go, fun H2 => ∃ rest, lc2O c l c1 f (xs.drop (i + 1)) = some rest ∧ L2I K H1 D e' zs rest H2, fun H2 ⟨r2, b1, b2⟩ => ⟨xs.length - (i + 1), by omega, rfl, by omega, r2, b1, b2⟩, fun y H2 hy => ?_⟩
    obtain ⟨g2, G, rx, hG⟩ := yl y H2 hy
    have I2 := I.grow g2
    obtain ⟨ρ2, a1, l2⟩ := hst x _ .refl
    refine hg B AF (L2.wipe σ vs) H2 _ ρ2 Fs y (e x) G (Si I2.1) rx (fun a ha => ?_) (frI G) a1 _ fun σ2 Fs2 S2 T2 => ⟨(T2.wip vs hn).trans (wipe_sub vs fun _ h => h), ?_⟩
    · rcases hC a (hG a ha) with z | ⟨j, hj, ⟨d', m', z⟩, ma⟩
      · exact .inl (S.same.back z)
      · obtain ⟨_, _, _, h3, _⟩ := S.val j d' m' z
        exact h3 a ma
    · refine c_in l2 (ht x hm) B AF σ2 H2 ρ2 Fs2 b S2 (pE_same.trans hb) _ fun H3 g3 => ?_
      have I3 := I2.grow g3
      cases b with
      | false =>
        rw [if_neg Bool.false_ne_true] at eq ⊢
        exact ⟨rest, eq, I3⟩
      | true =>
        rw [if_pos rfl] at eq ⊢
        obtain ⟨ys, y1, eq⟩ := Option.bind_eq_some_iff.mp eq
        obtain ⟨r, r1, eq⟩ := Option.bind_eq_some_iff.mp eq
        obtain ⟨rs, r2, eq⟩ := Option.bind_eq_some_iff.mp eq
        cases eq
        refine i_in l2 (hi1 x hm ys y1) B AF σ2 H3 ρ2 Fs2 _ kc1 (S2.grow g3) pE_same _ fun J1 H4 C1 g4 ok1 hC1 => ?_
        have I4 := I3.grow g4
        have DC1 : D ∉ C1 := fun hm1 => by
          rcases hC1 D hm1 with z | ⟨j, hj, ⟨d', m', z⟩, ma⟩
          · obtain ⟨_, us, _, w, _⟩ := I3
            rw [z] at w
            cases w
          · by_cases hjn : j ∈ ns
            · exact DC (hG D ((T2.ins j hjn d' m' z).2 D ma))
            · obtain ⟨_, h2, h3⟩ := T2.out j hjn
              rw [h2] at z
              rw [h3] at ma
              obtain ⟨_, n, z⟩ := zero_get (wipeE_get z)
              exact S.there z ma hD0
        refine ⟨fun j k H' => k = ys.length - j ∧ j ≤ ys.length ∧ Grow (upd H4 D (.lst [])) (upd H' D (.lst [])) ∧ ∃ r, filO (c1 x) (f x) (ys.drop j) = some r ∧ L2I K H1 D e' zs (r ++ rs) H', ⟨ys.length, by simp, Nat.zero_le _, .refl _, r, r1, I4⟩, ?_⟩
        rintro j k H5 ⟨rfl, hjl, gd, r', eq', I5⟩
        have kp1 : Kp C1 H4 H5 := fun a o ha hq => by
          have : Nt o := hq.elim Nt.mb (·.2)
          by_cases had : a = D
          · subst had
            rcases hq with hq | hq
            · obtain ⟨_, us, _, w, _⟩ := I4
              rw [w] at ha
              cases ha
              cases hq
            · exact absurd hq.1 DC1
          · have := gd.st a o (by rw [upd_ne had]; exact ha)
            rwa [upd_ne had] at this
        have gdt : ∀ {H6 : Hp}, Grow H5 H6 → Grow (upd H4 D (.lst [])) (upd H6 D (.lst [])) := fun {H6} g6 => by
          obtain ⟨_, us, _, w, _⟩ := I5
          exact gd.trans (g6.updL (.lst (g6 _ _ w)))
        by_cases hlt1 : j < ys.length
        · obtain ⟨w, hw⟩ : ∃ w, ys[j]? = some w := ⟨ys[j], List.getElem?_eq_getElem hlt1⟩
          obtain ⟨go1, yl1⟩ := ok1.go H5 kp1 j (e1 w) (by rw [List.getElem?_map, hw]; rfl)
          have edrop1 : ys.drop j = w :: ys.drop (j + 1) := by
            rw [List.drop_eq_getElem_cons hlt1]
            rw [List.getElem?_eq_getElem hlt1] at hw
            rw [Option.some.inj hw]
          rw [edrop1, filO] at eq'
          obtain ⟨b1, hb1, eq'⟩ := Option.bind_eq_some_iff.mp eq'
          refine .inr ⟨go1, fun H6 => Grow (upd H4 D (.lst [])) (upd H6 D (.lst [])) ∧ ∃ r, filO (c1 x) (f x) (ys.drop (j + 1)) = some r ∧ L2I K H1 D e' zs (r ++ rs) H6, fun H6 ⟨q0, r2, b1, b2⟩ => ⟨ys.length - (j + 1), by omega, rfl, by omega, q0, r2, b1, b2⟩, fun u H6 hu => ?_⟩
          obtain ⟨g6, G1, rw1, hG1⟩ := yl1 u H6 hu
          have hG10 : G1 = [] := rw1.flat (Flat.flat (e := e1) w)
          subst hG10
          have I6 := I5.grow g6
          obtain ⟨ρ3, a3, l3⟩ := hst1 x w _ (l2.wipe vs1)
          have S6 : SR K B AF (L2.wipe σ2 vs1) H6 (wipeE ρ2 vs1) Fs2 := by
            refine SR.wipe ?_ vs1
            refine ⟨S2.len, S.same.trans (gr0.trans I6.1), fun i' d' m' z => ?_, S2.dis⟩
            obtain ⟨v', q1, q2, q3⟩ := S2.val i' d' m' z
            refine ⟨v', q1, ?_, q3⟩
            have hDF : D ∉ Fs2 i' := fun hm2 => by
              by_cases hjn : i' ∈ ns
              · exact DC (hG D ((T2.ins i' hjn d' m' z).2 D hm2))
              · obtain ⟨_, h2, h3⟩ := T2.out i' hjn
                rw [h2] at z
                rw [h3] at hm2
                obtain ⟨_, n, z⟩ := zero_get (wipeE_get z)
                exact S.there z hm2 hD0
            have q4 := q2.grow (g3.trans g4)
            refine q4.kp fun a o ha hq => ?_
            have : Nt o := hq.elim Nt.mb (·.2)
            by_cases had : a = D
            · subst had
              rcases hq with hq | hq
              · obtain ⟨_, us, _, w', _⟩ := I4
                rw [w'] at ha
                cases ha
                cases hq
              · exact absurd hq.1 hDF
            · have := (gdt g6).st a o (by rw [upd_ne had]; exact ha)
              rwa [upd_ne had] at this
          refine hg1 B AF (L2.wipe σ2 vs1) H6 _ ρ3 Fs2 u (e1 w) [] S6 rw1 (fun a ha => nomatch ha) (fun _ _ _ _ a _ ha => nomatch ha) a3 _ fun σ3 Fs3 S3 T3 => ⟨(T3.wip vs1 hn1).trans (wipe_sub vs1 fun _ h => h), ?_⟩
          refine c_in l3 (ht1 x w hm) B AF σ3 H6 ρ3 Fs3 b1 S3 (pE_same.trans hb1) _ fun H7 g7 => ?_
          have I7 := I6.grow g7
          cases b1 with
          | false =>
            rw [if_neg Bool.false_ne_true] at eq' ⊢
            exact ⟨gdt (g6.trans g7), r', eq', I7⟩
          | true =>
            rw [if_pos rfl] at eq' ⊢
            obtain ⟨y', y2, eq'⟩ := Option.bind_eq_some_iff.mp eq'
            obtain ⟨r3, r4, eq'⟩ := Option.bind_eq_some_iff.mp eq'
            cases eq'
            refine e_in l3 (he x w hm) B AF σ3 H7 ρ3 Fs3 _ _ (S3.grow g7) (pE_same.trans (by rw [y2]; rfl)) _ fun v H8 G8 g8 r8 _ => ?_
            have I8 := I7.grow g8
            obtain ⟨acc, p1, p2, p3⟩ := L2I.push (rest := r3 ++ rs) hD I8 r8 hz
            refine ⟨acc, p1, p2, ?_, r3, r4, p3⟩
            rw [upd_upd]
            exact gdt (g6.trans (g7.trans g8))
        · have ej : j = ys.length := by omega
          subst ej
          rw [List.drop_length] at eq'
          cases eq'
          exact .inl ⟨ok1.stop H5 kp1 _ (by rw [List.length_map]; exact Nat.le_refl _), rs, r2, I5⟩
  · have ei' : i = xs.length := by omega
    subst ei'
    rw [List.drop_length] at eq
    cases eq
    obtain ⟨gr, us, out, hDa, racc, etot⟩ := I
    rw [List.append_nil] at etot
    subst etot
    exact .inl ⟨ok.stop H' kpC _ (by rw [List.length_map]; exact Nat.le_refl _), q _ H' [D] (gr0.trans gr) (.lst hDa racc) (.mv ⟨by simp, fun a ha => .inl (by rw [List.mem_singleton.mp ha]; exact hD0)⟩)⟩
end
theorem filO_id1 {α : Type} {p : α → Bool} {xs : List α} : filO (fun x => some (p x)) (fun x => some x) xs = some (xs.filter p) := by
  rw [filO_map (p := p) (g := fun x => x) (fun _ _ => rfl) (fun _ _ _ => rfl), List.map_id']
/-- a list of things as a list of things or None -/
theorem p_upL {α : Type} {K : PySem.W.Frag} {te : TE} {ρ : Env} {k : Kd} {e : α → PyData} {xs : List α} (h : PV K te ρ (EL e xs) k) : PV K te ρ (EL (EO e) (xs.map some)) k := by
  have : EL (EO e) (xs.map some) = EL e xs := by
    unfold EL
    rw [List.map_map]
    rfl
  rw [this]
  exact h
/-! ### x or y, by truth -/
theorem rp_tru {K : PySem.W.Frag} {H : Hp} {v : V} {d : PyData} {F : List Addr} {b : Bool} (r : Rp K H v d F) (e : truD d = some b) : TruV K v H b := by
  have h : VE K (fun (_ : L2.St) H' Q => Q v H') (pE (([] : Env)) (some (d, Kd.bo []))) → True := fun _ => trivial
  cases r with
  | non => exact (Option.some.inj e).symm
  | bl c => exact (Option.some.inj e).symm
  | int i => exact (Option.some.inj e).symm
  | str x =>
    simp only [truD] at e
    split at e
    · rename_i hx
      exact ⟨le_line hx, (Option.some.inj e).symm⟩
    · cases e
  | tup ht r =>
    have e3 := Option.some.inj e
    refine .inr (.inl ⟨_, ht.1, ?_⟩)
    rw [← e3, isEmpty_len r.length]
  | lst ht r =>
    have e3 := Option.some.inj e
    refine .inl ⟨_, .of ht, ?_⟩
    rw [← e3, isEmpty_len r.length]
  | dic ht r => cases e
  | pair ht r => cases e
  | fn a => cases e
  | vw _ _ _ _ => cases e
  | tag _ => cases e
section
variable {K : PySem.W.Frag} {ta tb : TE} {ρ : Env} {d d2 : PyData} {k k2 : Kd}
theorem p_orT1 (h : PV K ta ρ d k) (ht : truD d = some true) : PV K (tOrT K ta tb) ρ d k := by
  intro B AF σ H ρ' Fs d' k' S eo Q q
  obtain ⟨e0, e3⟩ := pE_some eo
  subst e0
  cases e3
  refine h B AF σ H _ Fs _ _ S pE_same _ fun v H1 F g1 r1 o1 => ⟨true, rp_tru r1 ht, ?_⟩
  rw [if_pos rfl]
  exact q v H1 F g1 r1 o1
theorem p_orT2 (h : PV K ta ρ d k) (ht : truD d = some false) (h2 : PV K tb ρ d2 k2) : PV K (tOrT K ta tb) ρ d2 k2 := by
  intro B AF σ H ρ' Fs d' k' S eo Q q
  obtain ⟨e0, e3⟩ := pE_some eo
  subst e0
  cases e3
  refine h B AF σ H _ Fs _ _ S pE_same _ fun v H1 F g1 r1 o1 => ⟨false, rp_tru r1 ht, ?_⟩
  rw [if_neg Bool.false_ne_true]
  exact h2 B AF σ H1 _ Fs _ _ (S.grow g1) pE_same _ fun v H2 F g2 r2 o2 => q v H2 F (g1.trans g2) r2 (o2.back g1)
def orO (o : Option Int) (n : Int) : Int := match o with
  | some v => if v = 0 then n else v
  | none => n
theorem p_orO {o : Option Int} {n : Int} (h : PV K ta ρ (EO PyData.int o) k) (h2 : PV K tb ρ (.int n) k2) : PV K (tOrT K ta tb) ρ (.int (orO o n)) (.mv []) := by
  cases o with
  | none => exact PV.flat (p_orT2 h rfl h2) rfl
  | some v =>
    by_cases e : v = 0
    · rw [show orO (some v) n = n from if_pos e]
      exact PV.flat (p_orT2 h (by subst e; rfl) h2) rfl
    · rw [show orO (some v) n = v from if_neg e]
      exact PV.flat (p_orT1 h (by show some (v != 0) = some true; simp [e])) rfl
end
end Va

/-! Vg2: dict displays. -/
namespace Va
open Classical
open PySem L2 PyProof.Rows PySem.W PySem.Calls
def tStores (K : PySem.W.Frag) (D : Addr) : List (V × V) → Hp → (Hp → Prop) → Prop
  | [], H, R => R H
  | p :: ps, H, R => rSetD K (.ref D) p.1 p.2 H fun H1 => tStores K D ps H1 R
/-- {k: v, ..}; the new dict stands empty while the pairs are made -/
def tDispX (K : PySem.W.Frag) (trs : List (TE × TE)) : TE := fun σ H Q => ∀ D o, H D = none → DicAt K (upd H D (dX D o)) D [] [] → tPairs trs σ (upd H D (dX D o)) fun ps H2 => tStores K D ps H2 fun H3 => Q (.ref D) H3
section
variable {X : Cx} {pos : Pos} {keys : List (Option Expr)} {values : List Expr} {trs : List (TE × TE)}
theorem stores_ok (hu : X.A.units + 65 < cLine) {pins : List (Addr × Obj)} {σ : L2.St} {D : Addr} {Q : PUnit → Shared → Prop} {E : Value → Shared → Prop} : ∀ {ps : List (V × V)} {vs : List (Value × Value)} {s : Shared} {H : Hp} {R : Hp → Prop}, VV ps vs → Inv X pins σ H s → tStores X.K D ps H R →
    (∀ s' H', Inv X pins σ H' s' → R H' → Q PUnit.unit s') → wpAny (model X.prog X.w) X.A (storeAll D vs) Q E s := by
  intro ps
  induction ps with
  | nil =>
    intro vs s H R r I h fin
    cases r
    unfold storeAll
    rw [List.forIn_nil]
    exact wpAny_pure (fin _ _ I h)
  | cons p ps ih =>
    intro vs s H R r I h fin
    cases r with
    | cons hp ht =>
      unfold storeAll
      rw [List.forIn_cons]
      refine wpAny_bind (wpAny_bind (dset_dc hu I hp.1 hp.2 h fun s' H' I' h' => wpAny_pure ?_))
      exact ih ht I' h' fin
theorem pe_dispx (hu : X.A.units + 65 < cLine) (h : PPs X pos keys values trs) (hall : keys.all (·.isSome) = true) (hl : keys.length = values.length) (h0 : keys ≠ []) (h15 : keys.length ≤ 15) : PE X (.Dict keys values pos) (tDispX X.K trs) := by
  refine ⟨fun pins s σ H Q I q => ?_⟩
  obtain ⟨o0, ho0⟩ : ∃ o0 : Obj, o0 = { cls := .type "dict", data := .dict #[] } := ⟨_, rfl⟩
  obtain ⟨D, hD⟩ : ∃ D, D = s.heap.objs.size := ⟨_, rfl⟩
  have hn : H D = none := I.hok.fresh (Nat.le_of_eq hD.symm)
  have atD : (s.heap.push o0).get? D = some o0 := by rw [hD]; exact Heap.get?_push_size _ (by rw [ho0]; rfl)
  have I1 : Inv X pins σ (upd H D (dX D o0)) { s with heap := s.heap.push o0 } := I.laid (t' := s.toks) (fun b o e => Heap.get?_push_of_some _ e) (Nat.le_of_eq hD.symm) (dX_ok atD)
  have d0 : DicAt X.K (upd H D (dX D o0)) D [] [] := by
    refine .inl ⟨o0, [], ⟨upd_same, ?_, ?_⟩, rfl, rfl⟩
    · rw [hD]; exact beq_eq_false_iff_ne.mpr (Ne.symm (Nat.ne_of_lt I.big))
    · rw [ho0]; exact ⟨⟨rfl, rfl, rfl⟩, ⟨#[], 0, rfl, fun _ => rfl⟩, List.nodup_nil, Nat.zero_le _, fun _ h => nomatch h⟩
  refine wpAny_Dict_any hall hl h0 h15 ?_
  rw [← ho0, ← hD]
  refine thn (h.run pins _ σ _ _ I1 (q D o0 hn d0)) fun vs s2 ⟨ps, H2, I2, rel, h2⟩ => ?_
  exact stores_ok hu rel I2 h2 fun s' H' I' h' => ⟨.ref D, H', I', rfl, h'⟩
end
section
variable {α β : Type} [DecidableEq α] {e : α → PyData} {f : β → PyData} [DKey e] {K : PySem.W.Frag} {tk tv : TE} {ρ : Env} {x : α} {y : β} {k : Kd}
theorem p_disp1 (hk : PV K tk ρ (e x) k) (hv : PV K tv ρ (f y) (.mv [])) : PV K (tDispX K [(tk, tv)]) ρ (ED e f [(x, y)]) (.mv []) := by
  intro B AF σ H ρ' Fs d k' S eo Q q
  obtain ⟨e0, e1⟩ := pE_some eo
  subst e0
  cases e1
  intro D o hD d0
  have g1 : Grow H (upd H D (dX D o)) := .new hD
  refine hk B AF σ _ _ Fs _ _ (S.grow g1) pE_same _ fun u H4 Gk g4 rk ok4 => ?_
  refine hv B AF σ H4 _ Fs _ _ (S.grow (g1.trans g4)) pE_same _ fun z H5 Gz g5 rz oz => ?_
  have hz : ∀ a ∈ Gz, H4 a = none := fun a ha => (oz.1.2 a ha).resolve_right fun ⟨i, hi, _⟩ => nomatch hi
  have rD : Rp K (upd H D (dX D o)) (.ref D) (ED e f []) [D] := .dic d0 .nil .nil
  obtain ⟨a, us, ws, F', ea, hd, hvv, rl, eF⟩ := dic_inv (rD.grow (g4.trans g5))
  cases ea
  cases eF
  have hl : us.length = 0 := by
    have := hd.len
    simpa using this.symm
  have rD4 := rD.grow g4
  have dGz : D ∉ Gz := fun hm => rD4.stn (List.mem_cons_self ..) (hz D hm)
  have nGz : Gz.Nodup := oz.1.1
  show rSetD K (.ref D) u z H5 _
  cases rl
  have hu0 : us = [] := List.length_eq_zero_iff.mp hl
  subst hu0
  refine ⟨D, _, _, [], _, rfl, DKey.op hd (rk.grow g5), by simp, fun ob uu ru dn => ?_⟩
  refine q (.ref D) _ (D :: Gz) ((g1.trans (g4.trans g5)).upd hD hd.wr) ?_ (.mv ⟨List.nodup_cons.mpr ⟨dGz, nGz⟩, fun b hb => ?_⟩)
  · refine dic_mk (ks := [x]) (bs := [y]) (us := [uu]) (vs := [z]) dn (.cons ru .nil) ?_ rfl rfl
    have := (RpL.one rz).kp (.upd (o := dX D ob) hd.mb dGz)
    exact this
  · rcases List.mem_cons.mp hb with rfl | hb
    · exact .inl hD
    · exact .inl ((g1.trans g4).back (hz b hb))
end
end Va

/-! Vg3: range with the step -1; a, b = c, d; d.get(k, x); d[a][b] = v; an append to what is not read again. -/
namespace Va
open Classical
open PySem L2 PyProof.Rows PySem.W PySem.Calls
/-! ### range(a, b, -1) -/
def downI (a : Int) (n : Nat) : List Int := (List.range n).map fun i => a - ((i : Nat) : Int)
def range3 (a b : Int) : Option (List Int) := if i62 a = true ∧ i62 b = true then some (downI a (a - b).toNat) else none
theorem itOk_rangeC {K : PySem.W.Frag} {H : Hp} {lo c : Int} {n : Nat} : ItOk K (Itc lo c n) H ((List.range n).map fun i => PyData.int (lo + ((i : Nat) : Int) * c)) [] := by
  refine ⟨(fun a h => nomatch h), fun H' _ i d hd => ?_, fun H' _ i hi => (by rw [List.length_map, List.length_range] at hi; exact hi)⟩
  rw [List.getElem?_map] at hd
  obtain ⟨j, hj, rfl⟩ := Option.map_eq_some_iff.mp hd
  obtain ⟨hlt, rfl⟩ := List.getElem?_eq_some_iff.mp hj
  rw [List.length_range] at hlt
  refine ⟨hlt, fun x H'' ⟨e1, e2⟩ => ?_⟩
  subst e1 e2
  exact ⟨.refl _, [], by rw [List.getElem_range]; exact .int _, fun a h => nomatch h⟩
theorem i_range3 {K : PySem.W.Frag} {t : TA} {ρ : Env} {k : Kd} {a b : Int} {xs : List Int} (ha : PA' K t ρ [.int a, .int b, .int (-1)] k) (h : range3 a b = some xs) : PI' K (iRng3 t) ρ (xs.map .int) (.mv []) := by
  unfold range3 at h
  split at h
  case isFalse => cases h
  rename_i hc
  cases h
  simp only [i62, Bool.and_eq_true, decide_eq_true_eq] at hc
  intro B AF σ H ρ' Fs ds k' S eo R q
  obtain ⟨e0, e1⟩ := pE_some eo
  subst e0
  cases e1
  refine ha B AF σ H _ Fs _ k S pE_same _ fun vs H1 F g1 r1 o1 => ?_
  cases r1 with
  | cons r rr => cases rr with
    | cons r' rr => cases rr with
      | cons r'' rr =>
        cases rr
        cases r; cases r'; cases r''
        refine ⟨a, b, -1, (a - b).toNat, rfl, RgC.neg (by omega) (by omega) (by omega) (by omega), q _ H1 [] g1 ?_ fun a h => nomatch h⟩
        have : (downI a (a - b).toNat).map PyData.int = (List.range (a - b).toNat).map fun i => PyData.int (a + ((i : Nat) : Int) * (-1)) := by
          unfold downI
          rw [List.map_map]
          refine List.map_congr_left fun i _ => ?_
          simp only [Function.comp]
          congr 1
          omega
        rw [this]
        exact itOk_rangeC
/-! ### a, b = c, d: all of them new -/
section
variable {K : PySem.W.Frag} {Wx : WxT} {ρ ρ1 : Env} {t : TA}
theorem SR.putN {B : Hp} {AF : List Addr} {σ : L2.St} {H H1 : Hp} {Fs : Nat → List Addr} {i : Nat} {v : V} {d : PyData} {F : List Addr} (S : SR K B AF σ H1 ρ Fs) (g : Grow B H) (hi : i < ρ.length) (r : Rp K H1 v d F) (hn : F.Nodup) (hf : ∀ a ∈ F, H a = none) (ht : ∀ j e n, ρ[j]? = some (some (e, n)) → ∀ a ∈ Fs j, a ∉ F) :
    SR K B AF (σ.set i (some v)) H1 (ρ.set i (some (d, 2))) (upF Fs i F) := by
  have own : ∀ a ∈ F, B a = none := fun a ha => g.back (hf a ha)
  refine S.set hi r (fun a ha => .inl (own a ha)) ⟨fun a ha => own a ?_, (fun z => by cases z), fun _ => hn⟩ fun j e n ne q => ⟨fun a ha => ht j e n q a ?_, fun a ha ha2 => ht j e n q a ha2 ?_⟩
  · exact Mf_sub ha
  · exact Mf_sub ha
  · exact Mf_sub ha
theorem s_par (i j : Nat) {d1 d2 : PyData} (h : PA' K t ρ [d1, d2] (.mv [])) (hi : Nat.blt i ρ.length = true) (hj : Nat.blt j ρ.length = true) (hij : i ≠ j) (hρ : (ρ.set i (some (d1, 2))).set j (some (d2, 2)) = ρ1) : VS K Wx [i, j] (tPar i j t) (pE ρ (some (.nx ρ1))) := by
  subst hρ
  intro B AF σ H ρ' Fs o S eo D p
  obtain ⟨e0, e1⟩ := pE_some eo
  subst e0
  cases e1
  have hi : i < ρ'.length := by simpa using hi
  have hj : j < ρ'.length := by simpa using hj
  refine h B AF σ H _ Fs _ _ S pE_same _ fun vs H1 F g1 r1 o1 => ?_
  cases r1 with
  | cons r rr => cases rr with
    | cons r' rr =>
      cases rr
      rename_i v1 F1 v2 F2
      have hnew : ∀ a ∈ F1 ++ (F2 ++ []), H a = none := fun a ha => (o1.2 a ha).resolve_right fun ⟨i, hi, _⟩ => nomatch hi
      have nd := List.nodup_append.mp o1.1
      have nd2 := (List.nodup_append.mp nd.2.1).1
      have h1 : ∀ a ∈ F1, H a = none := fun a ha => hnew a (List.mem_append_left _ ha)
      have h2 : ∀ a ∈ F2, H a = none := fun a ha => hnew a (List.mem_append_right _ (List.mem_append_left _ ha))
      have there : ∀ j e n, ρ'[j]? = some (some (e, n)) → ∀ a ∈ Fs j, H a ≠ none := fun j e n q a ha => S.there q ha
      have S1 : SR K B AF (σ.set i (some v1)) H1 (ρ'.set i (some (d1, 2))) (upF Fs i F1) := (S.grow g1).putN S.same.grow hi r nd.1 h1 fun j e n q a ha z => there j e n q a ha (h1 a z)
      have S2 : SR K B AF ((σ.set i (some v1)).set j (some v2)) H1 ((ρ'.set i (some (d1, 2))).set j (some (d2, 2))) (upF (upF Fs i F1) j F2) := by
        refine S1.putN S.same.grow (by rw [List.length_set]; exact hj) r' nd2 h2 fun l e n q a ha z => ?_
        rcases set_some q with ⟨rfl, _⟩ | ⟨ne, q⟩
        · rw [upF_same] at ha
          exact nd.2.2 a ha a (List.mem_append_left _ z) rfl
        · rw [upF_ne ne] at ha
          exact there l e n q a ha (h2 a z)
      refine ⟨v1, v2, rfl, p _ H1 _ S2 ⟨fun a z => g1.back z, fun a o _ z _ => g1.st a o z, fun l hl d' m' q a ha => ?_, fun l hl => ?_⟩⟩
      · rcases set_some q with ⟨rfl, z⟩ | ⟨ne, q⟩
        · rw [upF_same] at ha
          exact .inl (h2 a (Mf_sub ha))
        · rcases set_some q with ⟨rfl, z⟩ | ⟨ne2, q⟩
          · rw [upF_ne ne, upF_same] at ha
            exact .inl (h1 a (Mf_sub ha))
          · rcases List.mem_cons.mp hl with rfl | hl
            · exact absurd rfl ne2
            · rw [List.mem_singleton.mp hl] at ne
              exact absurd rfl ne
      · have n1 : l ≠ i := fun z => hl (by rw [z]; simp)
        have n2 : l ≠ j := fun z => hl (by rw [z]; simp)
        refine ⟨by rw [List.getElem?_set_ne (Ne.symm n2), List.getElem?_set_ne (Ne.symm n1)], fun d' m' q => ?_⟩
        rw [List.getElem?_set_ne (Ne.symm n2), List.getElem?_set_ne (Ne.symm n1)] at q
        exact ⟨m', q, by rw [upF_ne n2, upF_ne n1], fun a ha => ha⟩
end
/-! ### an append to a list that is not read again -/
section
variable {K : PySem.W.Frag} {Wx : WxT} {ρ ρ1 : Env} {te : TE} {k : Kd} {m : Nat}
theorem s_appX (kl : List Nat) (i : Nat) {xs : List PyData} {x : PyData} {u : Unit} (h : PV K te ρ x k) (hx : ρ[i]? = some (some (.list xs, m))) (hm : m = 1 ∨ m = 2) (hk : k.src.contains i = false) (ha : chk (decide (xs.length < 1000000)) = some u) (hρ : (giv kl k ρ).1.set i (some (.list (xs ++ [x]), mutM m (giv kl k ρ).2)) = ρ1) :
    VS K Wx (i :: kl) (tDrop (tBM K "list" rAppend (tVar i) (tCons te tNil))) (pE ρ (some (.nx ρ1))) := (vs_append kl i h).at (by
  have hl : xs.length < 1000000 := by simpa using chk_some ha
  unfold sMutL
  rw [pE_same, Option.bind_some, own_at hx hm hk, Option.bind_some, hApp_eq, if_pos hl, ← hρ]
  simp [mutE])
end
/-! ### d.get(k, x) -/
def tGetX (K : PySem.W.Frag) (td ty tx : TE) : TE := fun σ H Q => td σ H fun x H1 => ∃ a ks0 us0, x = .ref a ∧ DicAt K H1 a ks0 us0 ∧ ty σ H1 fun y H2 => tx σ H2 fun z H3 => ∃ kd ks us i vs, DOp K H3 y a kd ks us i ∧ Vals vs us ∧ Q ((i.bind fun i => vs[i]?).getD z) H3
theorem vals_get2 : ∀ {vs : List V} {us : List Value} {i : Nat} {u : Value}, Vals vs us → us[i]? = some u → ∃ v, vs[i]? = some v ∧ RelV v u
  | _, _, _, _, .nil, h => by simp at h
  | _, _, 0, _, .cons a b, h => by simp at h; subst h; exact ⟨_, rfl, a⟩
  | _, _, i + 1, _, .cons a b, h => by
    obtain ⟨v, h1, h2⟩ := vals_get2 b (by simpa using h)
    exact ⟨v, by simpa using h1, h2⟩
section
variable {X : Cx} {o e f : Expr} {apos cpos : Pos} {td ty tx : TE}
theorem pe_getx (hu : X.A.units + 65 < cLine) (ho : PE X o td) (he : PE X e ty) (hf : PE X f tx) (m : M2 X o "get" apos e f cpos) : PE X (.Call (.Attribute o "get" apos) [e, f] [] cpos) (tGetX X.K td ty tx) := by
  refine ⟨fun pins s σ H Q I h => ?_⟩
  refine wpAny_Call_method m.base m.few m.line PySem.F.plainAttrs_dict PySem.F.slot_dict_get PySem.F.type_dict_get (thn (ho.run pins s σ H _ I h) fun u s1 ⟨x, H1, I1, rx, a, ks0, us0, ex, d0, q1⟩ => ?_)
  subst ex
  obtain rfl : u = Value.ref a := rx
  have ty0 : s1.TypeIs (.ref a) "dict" ∧ ∃ ob, s1.heap.get? a = some ob ∧ ob.dict = none := by
    rcases d0 with ⟨o, xs, dd, _, _⟩ | ⟨o, kvs, dd, _, _⟩
    · have e := dX_at I1 dd.at_
      have := dd.td.cls
      exact ⟨⟨o, e, this.1⟩, o, e, this.2.1⟩
    · have e := dX_at I1 dd.at_
      have := dd.id.cls
      exact ⟨⟨o, e, this.1⟩, o, e, this.2.1⟩
  refine ⟨ty0.1, fun b hb => by cases hb; exact ty0.2, ?_⟩
  rw [m.trees]
  refine Calls.callWith_builtin rfl (Calls.evalArgs_plain (Calls.spliced_cons (thn (he.run pins s1 σ H1 _ I1 q1) fun iv s2 ⟨y, H2, I2, ry, q2⟩ =>
    Calls.spliced_cons (thn (hf.run pins s2 σ H2 _ I2 q2) fun fv s3 ⟨z, H3, I3, rz, kd, ks, us, i, vs, d, hv, q3⟩ => Calls.spliced_nil ?_))))
  rcases d with ⟨o, xs, k, b, rfl, hk, hd, dd, _, _, rfl, hi⟩ | ⟨o, kvs, j, rfl, dd, _, _, rfl, hi⟩
  · cases (show iv = Value.ref b from ry)
    have hr : (nestedKind X.prog X.w).room X.A.in1 := by
      show X.A.in1.units + 8 < cLine
      show X.A.units + 1 + 8 < cLine
      omega
    refine call_meetsIn PySem.F.slot_dict_get (dd.of I3).typeIs PySem.F.entry_dict_get (PySem.F.args_dict_get_3 _ _ _) (meetsH_dict_get_default (nestedKind X.prog X.w) a b dd.ns fv) ⟨hr, k, xs, ⟨hk.is I3 rfl, hd⟩, dd.of I3, ?_⟩
    refine ⟨_, H3, I3.tok _, ?_, q3⟩
    rw [atKey_pos, ← hi]
    cases i with
    | none => exact rz
    | some i =>
      obtain ⟨p, hp⟩ := pos_get hi.symm
      obtain ⟨w, hw, rw'⟩ := vals_get2 hv (show (xs.map (·.2.2))[i]? = some p.2 by rw [List.getElem?_map, hp]; rfl)
      simp only [Option.bind_some, hp, hw, Option.map_some, Option.getD_some]
      exact rw'
  · refine call_meetsIn PySem.F.slot_dict_get (dd.of I3).typeIs PySem.F.entry_dict_get (PySem.F.args_dict_get_3 _ _ _) (meets_dict_get_default (PySem.intKind X.prog X.w) a (int_is ry) dd.ns fv) ⟨_, (dd.of I3).mapOf, ?_⟩
    refine ⟨_, H3, I3.tok _, ?_, q3⟩
    rw [valueAt_pos, ← hi]
    cases i with
    | none => exact rz
    | some i =>
      obtain ⟨p, hp⟩ := pos_get hi.symm
      obtain ⟨w, hw, rw'⟩ := vals_get2 hv (show (kvs.map (·.2))[i]? = some p by rw [List.getElem?_map, hp]; rfl)
      simp only [Option.bind_some, hp, hw, Option.map_some, Option.getD_some]
      exact rw'
end
end Va

/-! Vg4: d.get(k, x), typed; d[a][b] = v; max(d.values(), default=x), max(t, default=x). -/
namespace Va
open Classical
open PySem L2 PyProof.Rows PySem.W PySem.Calls
section
variable {α β γ : Type} [DecidableEq α] [DecidableEq γ] {e : α → PyData} {f : β → PyData} {g : γ → PyData} [DKey e] [DKey g] {K : PySem.W.Frag} {Wx : WxT} {ρ ρ1 : Env} {td ty tx te ta tb : TE} {kvs : List (α × β)} {x : α} {y0 y : β} {k k1 k2 k3 : Kd}
theorem p_getX [Flat f] (h1 : PV K td ρ (ED e f kvs) k1) (h2 : PV K ty ρ (e x) k2) (h3 : PV K tx ρ (f y0) k3) : PV K (tGetX K td ty tx) ρ (f ((getD kvs x).getD y0)) (.mv []) := by
  intro B AF σ H ρ' Fs d k' S eo Q q
  obtain ⟨e0, e1⟩ := pE_some eo
  subst e0
  cases e1
  refine h1 B AF σ H _ Fs _ _ S pE_same _ fun v H1 F g1 r1 o1 => ?_
  obtain ⟨a, us, vs, F', rfl, hd, hv, rl, rfl⟩ := dic_inv r1
  refine ⟨a, _, _, rfl, hd, h2 B AF σ H1 _ Fs _ _ (S.grow g1) pE_same _ fun u H2 F2 g2 r2 o2 => ?_⟩
  refine h3 B AF σ H2 _ Fs _ _ (S.grow (g1.trans g2)) pE_same _ fun z H3 F3 g3 r3 o3 => ?_
  have op := DKey.op (hd.grow (g2.trans g3)) (r2.grow g3)
  have g123 := g1.trans (g2.trans g3)
  refine ⟨_, _, us, _, vs, op, hv, ?_⟩
  cases hi : posL (kvs.map (·.1)) x with
  | none =>
    have hg : getD kvs x = none := by unfold getD posD; rw [hi]; rfl
    rw [hg, Option.getD_none] at q
    have e3 : F3 = [] := r3.flat (Flat.flat (e := f) y0)
    subst e3
    exact q z H3 [] g123 r3 (.mv ⟨List.nodup_nil, fun a h => nomatch h⟩)
  | some i =>
    have hi' := (List.getElem?_eq_some_iff.mp (posL_some hi)).1
    have hlt : i < kvs.length := by simpa using hi'
    have hp : kvs[i]? = some kvs[i] := List.getElem?_eq_getElem hlt
    have hg : getD kvs x = some kvs[i].2 := by unfold getD posD; rw [hi, Option.bind_some, hp]; rfl
    have hy' : ((kvs.map (·.2)).map f)[i]? = some (f kvs[i].2) := by rw [List.getElem?_map, List.getElem?_map, hp]; rfl
    obtain ⟨w, A, G, B', z1, z2, z3⟩ := rl.get i hy'
    have e3 : G = [] := z2.flat (Flat.flat (e := f) _)
    subst e3
    rw [hg, Option.getD_some] at q
    rw [Option.bind_some, z1, Option.getD_some]
    exact q w H3 [] g123 (z2.grow (g2.trans g3)) (.mv ⟨List.nodup_nil, fun a h => nomatch h⟩)
/-! ### d[a][b] = v -/
def put2O (kvs : List (α × List (γ × β))) (x : α) (z : γ) (y : β) : Option (List (α × List (γ × β))) := (posD kvs x).bind fun i => kvs[i]?.bind fun p => (putO p.2 z y).map fun q => kvs.set i (p.1, q)
/-- the end of a store into a part of slot i -/
theorem put_endX {B : Hp} {AF : List Addr} {σ : L2.St} {H H3 : Hp} {Fs : Nat → List Addr} {kl : List Nat} {i : Nat} {d d' : PyData} {u v : V} {F : List Addr} {o : HO} (S : SR K B AF σ H ρ Fs) (g3 : Grow H H3) (o1 : KV ρ Fs H v F k) (hi : ρ[i]? = some (some (d, 2))) (hn : i ∉ k.src) (hg : (giv kl k ρ).2 = 2) (hu : σ[i]? = some (some u))
    {pre A B' G0 G1 : List Addr} {q : Addr} (hF : Fs i = pre ++ (A ++ ((q :: G0) ++ B'))) (hG1 : ∀ b ∈ G1, b ∈ G0 ∨ b ∈ F) (hN1 : (G0 ++ F).Nodup → G1.Nodup)
    (r : q ∉ G1 → (∀ b ∈ pre ++ (A ++ B'), q ≠ b) → Rp K (upd H3 q o) u d' (pre ++ (A ++ ((q :: G1) ++ B')))) {C : L2.St → Hp → Prop}
    (p : PNx K B AF (i :: kl) σ H ρ Fs ((giv kl k ρ).1.set i (some (d', 2))) C) : C σ (upd H3 q o) := by
  have GO := giv_ok (kl := kl) S o1
  have GF := GO.c
  rw [hg] at GF
  have hi1 := giv_keep (kl := kl) hi hn
  obtain ⟨_, _, _, _, u4⟩ := S.val i d 2 hi
  have nd : (Fs i ++ F).Nodup := List.nodup_append.mpr ⟨u4.2.2 rfl, GF.2.2 rfl, fun a ha b hb z => by
    subst z
    exact GO.a i d 2 hi1 a ha hb⟩
  rw [hF] at nd
  have nd2 := perm4.nodup_iff.mp nd
  have hd := List.nodup_append.mp nd2
  have hd2 := List.nodup_append.mp hd.2.1
  have hd3 := List.nodup_append.mp hd2.2.1
  have qn : ∀ b ∈ pre ++ (A ++ B'), q ≠ b := fun b hb z => by
    subst z
    rcases List.mem_append.mp hb with hb | hb
    · exact hd.2.2 q hb q (by simp) rfl
    · rcases List.mem_append.mp hb with hb | hb
      · exact hd2.2.2 q hb q (by simp) rfl
      · exact hd3.2.2 q (by simp) q hb rfl
  have q1 : q ∉ G0 ++ F := (List.nodup_cons.mp hd3.1).1
  have qG1 : q ∉ G1 := fun z => q1 (List.mem_append.mpr (hG1 q z))
  have mem : ∀ b ∈ pre ++ (A ++ ((q :: G1) ++ B')), b ∈ Fs i ∨ b ∈ F := fun b hb => by
    rw [hF]
    simp only [List.mem_append, List.mem_cons] at hb ⊢
    rcases hb with h | h | (h | h) | h
    · exact .inl (.inl h)
    · exact .inl (.inr (.inl h))
    · exact .inl (.inr (.inr (.inl (.inl h))))
    · rcases hG1 b h with h | h
      · exact .inl (.inr (.inr (.inl (.inr h))))
      · exact .inr h
    · exact .inl (.inr (.inr (.inr h)))
  have G1m : ∀ b ∈ q :: G1, b ∈ q :: (G0 ++ F) := fun b hb => by
    rcases List.mem_cons.mp hb with rfl | hb
    · exact List.mem_cons_self ..
    · exact List.mem_cons_of_mem _ (List.mem_append.mpr (hG1 b hb))
  have ndG : (pre ++ (A ++ ((q :: G1) ++ B'))).Nodup := by
    have s1 : (q :: G1).Nodup := List.nodup_cons.mpr ⟨qG1, hN1 (List.nodup_cons.mp hd3.1).2⟩
    have s2 : ((q :: G1) ++ B').Nodup := List.nodup_append.mpr ⟨s1, hd3.2.1, fun a ha b hb => hd3.2.2 a (G1m a ha) b hb⟩
    have m2 : ∀ b ∈ (q :: G1) ++ B', b ∈ (q :: (G0 ++ F)) ++ B' := fun b hb => (List.mem_append.mp hb).elim (fun h => List.mem_append_left _ (G1m b h)) fun h => List.mem_append_right _ h
    have s3 : (A ++ ((q :: G1) ++ B')).Nodup := List.nodup_append.mpr ⟨hd2.1, s2, fun a ha b hb => hd2.2.2 a ha b (m2 b hb)⟩
    refine List.nodup_append.mpr ⟨hd.1, s3, fun a ha b hb => hd.2.2 a ha b ?_⟩
    exact (List.mem_append.mp hb).elim (fun h => List.mem_append_left _ h) fun h => List.mem_append_right _ (m2 b h)
  obtain ⟨x1, x2⟩ := mut2_ok (kl := kl) (H1 := H3) (o := o) (d' := d') S g3 o1 hi hn hg (by rw [hF]; simp) hu (r qG1 qn) mem fun _ => ndG
  exact p _ _ _ x1 x2
theorem s_putDD {kvs : List (α × List (γ × β))} {zs : List (α × List (γ × β))} {z : γ} (kl : List Nat) (i : Nat) (h : PV K te ρ (f y) k) (ha : PV K ta ρ (e x) k2) (hb : PV K tb ρ (g z) k3) (hx : ρ[i]? = some (some (ED e (ED g f) kvs, 2))) (hk : k.src.contains i = false) (hg : (giv kl k ρ).2 = 2) (hz : put2O kvs x z y = some zs)
    (hρ : (giv kl k ρ).1.set i (some (ED e (ED g f) zs, 2)) = ρ1) : VS K Wx (i :: kl) (tAsg te (gSub (tOp (rGetD K) (tVar i) ta) tb (rSetD K))) (pE ρ (some (.nx ρ1))) := by
  subst hρ
  obtain ⟨n, hn, hz⟩ := Option.bind_eq_some_iff.mp hz
  obtain ⟨p, hp, hz⟩ := Option.bind_eq_some_iff.mp hz
  obtain ⟨w, hw, hz⟩ := Option.map_eq_some_iff.mp hz
  subst hz
  unfold putO at hw
  split at hw
  case isFalse => cases hw
  rename_i hlen
  cases hw
  intro B AF σ H ρ' Fs o S eo D pp
  obtain ⟨e0, e1⟩ := pE_some eo
  subst e0
  cases e1
  have hki : i ∉ k.src := by simpa using hk
  obtain ⟨v0, h1, h2, _⟩ := S.val i _ 2 hx
  generalize hF : Fs i = Fi at h2
  obtain ⟨a, us, vs, F0, rfl, hd, hv, rl, rfl⟩ := dic_inv h2
  have hp' : ((kvs.map (·.2)).map (ED g f))[n]? = some (ED g f p.2) := by rw [List.getElem?_map, List.getElem?_map, hp]; rfl
  obtain ⟨A, Gi, B', wv, hF0, hvn, rin, hput⟩ := rl.put n hp'
  refine h B AF σ H _ Fs _ k S pE_same _ fun v H1 F g1 r1 o1 => ?_
  refine ⟨_, h1, ha B AF σ H1 _ Fs _ k2 (S.grow g1) pE_same _ fun xv H2 F2 g2 r2 o2 => ?_⟩
  have g12 := g1.trans g2
  have op := DKey.op (hd.grow g12) r2
  rw [show posL (kvs.map (·.1)) x = some n from hn] at op
  refine ⟨a, _, _, us, n, vs, wv, rfl, op, hv, hvn, ?_⟩
  refine hb B AF σ H2 _ Fs _ k3 (S.grow g12) pE_same _ fun zv H3 F3 g3 r3 o3 => ?_
  have g123 := g12.trans g3
  obtain ⟨q, us2, vs2, G0, rfl, hd2, hv2, rl2, rfl⟩ := dic_inv (rin.grow g123)
  have op2 := DKey.op hd2 r3
  have hl2 : us2.length = p.2.length := by
    have := hd2.len
    simpa using this.symm
  refine ⟨q, _, _, us2, _, rfl, op2, by omega, fun ob uu ru dn => ?_⟩
  obtain ⟨G1, hG1, hG2, hG3⟩ := rpl_put rl2 (r1.grow (g2.trans g3)) (j := posL (p.2.map (·.1)) z) (fun j hj => by
    have := (List.getElem?_eq_some_iff.mp (posL_some hj)).1
    simpa using this)
  refine put_endX (pre := [a]) (A := A) (B' := B') (G0 := G0) (G1 := G1) (u := .ref a) S g123 o1 hx hki hg h1 (by rw [hF, hF0]; rfl) hG2 hG3 (fun qG1 qn => ?_) pp
  have mb : Mb (H3 q) = true := hd2.mb
  have rin' : Rp K (upd H3 q (dX q ob)) (.ref q) (ED g f (putD p.2 z y)) (q :: G1) := by
    refine dic_mk (ks := (putD p.2 z y).map (·.1)) (bs := (putD p.2 z y).map (·.2)) (us := valsPut us2 uu (posL (p.2.map (·.1)) z)) (vs := valsPut vs2 v (posL (p.2.map (·.1)) z)) ?_ (vals_put hv2 ru _) ?_ rfl rfl
    · have : ((putD p.2 z y).map (·.1)).map g = keysPut ((p.2.map (·.1)).map g) (g z) (posL (p.2.map (·.1)) z) := by
        rw [put_fst]
        show _ = keysPut _ _ (posD p.2 z)
        cases posD p.2 z <;> simp [keysPut]
      rw [this]
      exact dn
    · have : ((putD p.2 z y).map (·.2)).map f = valsPut ((p.2.map (·.2)).map f) (f y) (posL (p.2.map (·.1)) z) := by
        rw [put_snd]
        show _ = valsPut _ _ (posD p.2 z)
        cases posD p.2 z <;> simp [valsPut, List.map_set]
      rw [this]
      exact hG1.kp (.upd mb qG1)
  have kp : Kp ([a] ++ (A ++ B')) H (upd H3 q (dX q ob)) := fun b ob' hb hq => by
    have : Nt ob' := hq.elim Nt.mb (·.2)
    have hb3 := g123 _ _ hb
    by_cases hbq : b = q
    · subst hbq
      rcases hq with hq | hq
      · rw [hb3] at mb
        rw [hq] at mb
        cases mb
      · exact absurd rfl (qn b hq.1)
    · rw [upd_ne hbq]
      exact hb3
  have rl' := hput (upd H3 q (dX q ob)) (ED g f (putD p.2 z y)) (q :: G1) (kp.mono fun b hb => List.mem_append_right _ hb) rin'
  have hset : ((kvs.set n (p.1, putD p.2 z y)).map (·.1)) = kvs.map (·.1) := by
    rw [List.map_set]
    refine List.ext_getElem? fun m => ?_
    rw [List.getElem?_set]
    split
    · rename_i hm
      subst hm
      split
      · rw [List.getElem?_map, hp]; rfl
      · rename_i hm; rw [List.getElem?_eq_none (by omega)]
    · rfl
  refine dic_mk (ks := kvs.map (·.1)) (bs := (kvs.set n (p.1, putD p.2 z y)).map (·.2)) (us := us) (vs := vs) ?_ hv ?_ hset.symm rfl
  · exact hd.keep (fun o' e' n => kp a o' e' (.inr ⟨by simp, n⟩)) fun b ys h' => ⟨kp.sqT h'.1, kp.noD h'.2⟩
  · rw [List.map_set, List.map_set]
    exact rl'
end
end Va

/-! Vg5: max(d.values(), default=x), max(t, default=x) of ints. -/
namespace L2
open PySem PySem.Spec PyProof.Rows PySem.W PySem.Calls Va
def bestI : List Int → Int → Int
  | [], d => d
  | x :: xs, _ => xs.foldl (fun a y => if decide (a < y) = true then y else a) x
/-- d.values(), the view itself -/
def tDValsX (K : PySem.W.Frag) (td : TE) : TE := fun σ H Q => td σ H fun x H1 => ∃ a ks us, x = .ref a ∧ DicAt K H1 a ks us ∧ ∀ w, H1 w = none → Q (.ref w) (upd H1 w (dX w (viewV a)))
def rMaxDV (K : PySem.W.Frag) : List V → List V → Hp → VK → Prop := fun vs zs H Q => ∃ w a ks us ns d, vs = [.ref w] ∧ zs = [.int d] ∧ H w = some (dX w (viewV a)) ∧ DicAt K H a ks us ∧ Vals (ns.map V.int) us ∧ Q (.int (bestI ns d)) H
def rMaxTV (K : PySem.W.Frag) : List V → List V → Hp → VK → Prop := fun vs zs H Q => ∃ a ns d, vs = [.ref a] ∧ zs = [.int d] ∧ (SqT K H a (ns.map V.int) ∨ SqL K H a (ns.map V.int)) ∧ Q (.int (bestI ns d)) H
section
variable {X : Cx} {e : Expr} {apos cpos : Pos} {td : TE}
theorem dic_obj {K : PySem.W.Frag} {H : Hp} {a : Addr} {ks : List PyData} {us : List Value} (d : DicAt K H a ks us) : ∃ o es ep, H a = some (dX a o) ∧ (a == sysModules) = false ∧ o.ExactDict ∧ o.data = .dict es ep ∧ us = es.toList.map (·.val) := by
  rcases d with ⟨o, xs, d, rfl, rfl⟩ | ⟨o, xs, d, rfl, rfl⟩
  · obtain ⟨es, ep, hd, he⟩ := d.td.dat
    refine ⟨o, es, ep, d.at_, d.ns, d.td.cls, hd, ?_⟩
    rw [he w0, List.map_map]
    rfl
  · obtain ⟨es, ep, hd, he⟩ := d.id.dat
    exact ⟨o, es, ep, d.at_, d.ns, d.id.cls, hd, (pairs_keys (he default w0).2).2.symm⟩
theorem pe_dvalsx (he : PE X e td) (hbase : attributeBase e "values" X.env (eval e X.env) = eval e X.env := by rfl) (hline : (apos.endLine == cpos.line) = true := by rfl) : PE X (.Call (.Attribute e "values" apos) [] [] cpos) (tDValsX X.K td) := by
  refine ⟨fun pins s σ H Q I h => ?_⟩
  refine wpAny_Call_method (T := "dict") (id := "dict.values") hbase rfl hline PySem.F.plainAttrs_dict PySem.F.slot_dict_values PySem.F.type_dict_values (thn (he.run pins s σ H _ I h) fun u s1 ⟨x, H1, I1, rx, a, ks, us, ex, d, q⟩ => ?_)
  subst ex
  obtain rfl : u = Value.ref a := rx
  obtain ⟨o, es, ep, ha, hns, hc, hd, _⟩ := dic_obj d
  have raw := dx_raw I1 ha hc hd
  refine ⟨raw.typeIs, fun b hb => by cases hb; exact ⟨o, dX_at I1 ha, hc.2.1⟩, ?_⟩
  have fin : EP X pins σ Q (.ref s1.heap.objs.size) { s1 with heap := s1.heap.push { cls := .type "dict_values", data := .fields #[.ref a] } } :=
    ⟨.ref s1.heap.objs.size, _, I1.laid (a := s1.heap.objs.size) (o := dX s1.heap.objs.size (viewV a)) (t' := s1.toks) (fun _ _ q => Heap.get?_push_of_some _ q) (Nat.le_refl _) (dX_ok (Heap.get?_push_size _ rfl)), rfl, q _ (I1.hok.fresh (Nat.le_refl _))⟩
  show wpAny _ _ (callWith cpos (.builtin "dict.values") [.ref a] [] []) _ X.xe s1
  exact method_meetsIn PySem.F.slot_dict_values PySem.F.entry_dict_values rfl (PySem.evalArgs_none ⟨rfl, raw.typeIs, PySem.F.args_dict_values_1 _, _, meets_dict_values_raw a hns, ⟨es, ep, raw⟩, fin⟩)
theorem cmp_ints {P : Program} {w : World} {A : Around} {H : Heap} {Pv : Nat → Value → Prop} (ns : List Int) (hv : ∀ i v, Pv i v → ∃ t, v = .int (ns.getD i 0) t) : CmpIn P w A .Gt H Pv (fun i j => decide (ns.getD j 0 < ns.getD i 0)) := fun i j vi vj s Q E _ hi hj h => by
  obtain ⟨t, rfl⟩ := hv i vi hi
  obtain ⟨u, rfl⟩ := hv j vj hj
  exact richCompare_gives (op := .Gt) (typeIs_int s _ t) (typeIs_int s _ u) F.slot_int_gt F.entry_int_gt (F.args_int_gt_2 _ _) (gives_int_gt _ _ t u) (fun x => nomatch x) h
theorem best_at (ns : List Int) (d : Int) (h : ns ≠ []) : ns.getD (argBest (fun i j => decide (ns.getD j 0 < ns.getD i 0)) (ns.length - 1)) 0 = bestI ns d := by
  cases ns with
  | nil => exact absurd rfl h
  | cons x xs =>
    have e := (argBest_fold (fun a b => decide (b < a)) (0 : Int) x xs xs.length (Nat.le_refl _)).2
    rw [List.take_length] at e
    show (x :: xs).getD (argBest (fun i j => decide ((x :: xs).getD j 0 < (x :: xs).getD i 0)) xs.length) 0 = _
    rw [e]
    rfl
theorem vals_int {ns : List Int} : ∀ {us : List Value}, Vals (ns.map V.int) us → ∀ (i : Nat) v, us[i]? = some v → ∃ t, v = .int (ns.getD i 0) t := by
  intro us r i v hv
  obtain ⟨x, hx, rx⟩ := vals_get2 r hv
  rw [List.getElem?_map] at hx
  obtain ⟨n, hn, rfl⟩ := Option.map_eq_some_iff.mp hx
  obtain ⟨t, rfl⟩ := rx
  exact ⟨t, by rw [List.getD_eq_getElem?_getD, hn]; rfl⟩
theorem cr_maxDV (hc : X.calm = true) : CallRK X (.builtin "max") [Str.ofString "default"] (rMaxDV X.K) := by
  intro pins s σ H xs zs us ws Q I r rz h
  obtain ⟨w, a, ks, vs, ns, d, rfl, rfl, hw, da, hv, q⟩ := h
  rw [Vals.ref1 r]
  obtain ⟨t, rfl⟩ : ∃ t, ws = [.int d t] := by
    cases rz with
    | cons r1 r2 => cases r2; obtain ⟨t, rfl⟩ := r1; exact ⟨t, rfl⟩
  obtain ⟨o, es, ep, ha, hns, hcl, hd, rfl⟩ := dic_obj da
  have hh : X.A.in1.handled = none := I.ok.hd hc
  have hlen : es.size = ns.length := by
    have := Vals.length hv
    simpa using this.symm
  have oa := dX_at I ha
  have alt : a < s.heap.objs.size := Heap.lt_size oa
  refine call_max_walkD (DSub.iter_vals (a := a) (es := es) (ep := ep) (dX_at I hw) oa hd ?_)
  have W := (DSub.walksVal (A := X.A.in1) (prog := X.prog) (w := X.w) (I := s.heap.objs.size) (a := a) (es := es) (ep := ep) (P := fun i v => (es.toList.map (·.val))[i]? = some v) hh (Nat.ne_of_lt alt) hd fun i e he => by
    rw [List.getElem?_map, Array.getElem?_toList, he]; rfl).toS
  refine ⟨_, _, _, _, _, _, _, s.heap, fun i j => decide (ns.getD j 0 < ns.getD i 0), rfl, W, ⟨Heap.get?_push_size _ rfl, Heap.get?_push_of_some _ oa⟩, fun b hb => ?_, fun b ob e hb => ?_, fun b ob e => Heap.get?_push_of_some _ e, fun hz s' m => ?_, fun hp => ⟨cmp_ints ns (vals_int hv), fun v s' hP m => ?_⟩⟩
  · show b < (s.heap.push _).objs.size
    rw [Heap.size_push]
    rcases List.mem_cons.mp hb with rfl | hb
    · exact Nat.lt_succ_self _
    · rw [List.mem_singleton.mp hb]
      exact Nat.lt_succ_of_lt alt
  · exact absurd (Heap.lt_size e) ((List.mem_singleton.mp hb) ▸ Nat.lt_irrefl _)
  · obtain ⟨h', tk, rfl, hk⟩ := moved_old rfl rfl m
    have : ns = [] := List.eq_nil_of_length_eq_zero (by omega)
    subst this
    exact ⟨.int d, H, I.kept hk, (show L2.RelV (.int d) (.int d t) from ⟨t, rfl⟩), q⟩
  · obtain ⟨h', tk, rfl, hk⟩ := moved_old rfl rfl m
    obtain ⟨t', rfl⟩ := vals_int hv _ v hP
    refine ⟨.int (bestI ns d), H, I.kept hk, ?_, q⟩
    rw [hlen, best_at ns d (fun z => by rw [z, List.length_nil] at hlen; omega)]; exact ⟨t', rfl⟩
theorem cr_maxTV (hc : X.calm = true) : CallRK X (.builtin "max") [Str.ofString "default"] (rMaxTV X.K) := by
  intro pins s σ H xs zs us ws Q I r rz h
  obtain ⟨a, ns, d, rfl, rfl, hs, q⟩ := h
  rw [Vals.ref1 r]
  obtain ⟨t, rfl⟩ : ∃ t, ws = [.int d t] := by
    cases rz with
    | cons r1 r2 => cases r2; obtain ⟨t, rfl⟩ := r1; exact ⟨t, rfl⟩
  have hh : X.A.in1.handled = none := I.ok.hd hc
  have main : ∀ {s2 : Shared} {its : List Value} {ob : Obj}, Vals (ns.map V.int) its → s2 = { s with heap := s.heap.push ob } → ∀ {fp : List Addr} {St : Nat → Shared → Prop}, WalksS X.prog X.w X.A.in1 s.heap.objs.size fp [s.heap.objs.size] (fun a b => b = a) its.toArray.size (fun i v => its.toArray[i]? = some v) St → St 0 s2 → (∀ b ∈ fp, b < s2.heap.objs.size) →
      (∀ b o, s.heap.get? b = some o → b ∉ [s.heap.objs.size]) → (∀ b o, s.heap.get? b = some o → s2.heap.get? b = some o) →
      ∃ I' fp wr G n P St H0 bt, (Value.ref s.heap.objs.size) = .ref I' ∧ WalksS X.prog X.w X.A.in1 I' fp wr G n P St ∧ St 0 s2 ∧ (∀ b ∈ fp, b < s2.heap.objs.size) ∧
      (∀ b o, H0.get? b = some o → b ∉ wr) ∧ (∀ b o, H0.get? b = some o → s2.heap.get? b = some o) ∧ (n = 0 → ∀ s', Moved wr G s2 s' → EP X pins σ Q (.int d t) s') ∧
      (0 < n → CmpIn X.prog X.w X.A.in1 .Gt H0 P bt ∧ ∀ v s', P (argBest bt (n - 1)) v → Moved wr G s2 s' → EP X pins σ Q v s') := by
    intro s2 its ob hv e fp St W st hfp hw hk
    have hlen : its.toArray.size = ns.length := by
      have := Vals.length hv
      simpa using this.symm
    have hvi : ∀ (i : Nat) (v : Value), its.toArray[i]? = some v → ∃ t, v = .int (ns.getD i 0) t := fun i v hP => vals_int hv i v (by simpa using hP)
    refine ⟨_, _, _, _, _, _, _, s.heap, fun i j => decide (ns.getD j 0 < ns.getD i 0), rfl, W, st, hfp, hw, hk, fun hz s' m => ?_, fun hp => ⟨cmp_ints ns hvi, fun v s' hP m => ?_⟩⟩
    · obtain ⟨h', tk, rfl, hk'⟩ := moved_old e rfl m
      have : ns = [] := List.eq_nil_of_length_eq_zero (by omega)
      subst this
      exact ⟨.int d, H, I.kept hk', (show L2.RelV (.int d) (.int d t) from ⟨t, rfl⟩), q⟩
    · obtain ⟨h', tk, rfl, hk'⟩ := moved_old e rfl m
      obtain ⟨t', rfl⟩ := hvi _ v hP
      refine ⟨.int (bestI ns d), H, I.kept hk', ?_, q⟩
      rw [hlen, best_at ns d (fun z => by rw [z, List.length_nil] at hlen; omega)]; exact ⟨t', rfl⟩
  rcases hs with hs | hs
  · obtain ⟨its, hv, ht, _⟩ := I.tuple hs
    exact call_max_walkD (iter_tupleW (A := X.A.in1) hh ht fun s2 e W st hfp hw hk => main hv e W st hfp hw hk)
  · obtain ⟨its, hv, ht, _⟩ := I.list hs
    exact call_max_walkD (iter_listW (A := X.A.in1) hh ht.isList fun s2 e W st hfp hw hk => main hv e W st hfp hw hk)
end
end L2
namespace Va
open Classical
open PySem L2 PyProof.Rows PySem.W PySem.Calls
section
variable {α : Type} [DecidableEq α] {e : α → PyData} [DKey e] {K : PySem.W.Frag} {ρ : Env} {td tx : TE} {kvs : List (α × Int)} {ns : List Int} {d : Int} {k k2 : Kd}
theorem rpl_ints {H : Hp} : ∀ {vs : List V} {ns : List Int} {F : List Addr}, RpL K H vs (ns.map PyData.int) F → vs = ns.map V.int
  | vs, [], F, r => by cases r; rfl
  | vs, n :: ns, F, r => by
    rw [List.map_cons] at r
    cases r with
    | cons a b =>
      cases a
      rw [rpl_ints b]
      rfl
theorem p_maxDV (h1 : PV K td ρ (ED e PyData.int kvs) k) (h2 : PV K tx ρ (.int d) k2) : PV K (tCKw (rMaxDV K) (tCons (tDValsX K td) tNil) (tCons tx tNil)) ρ (.int (bestI (kvs.map (·.2)) d)) (.mv []) := by
  intro B AF σ H ρ' Fs o k' S eo Q q
  obtain ⟨e0, e1⟩ := pE_some eo
  subst e0
  cases e1
  refine h1 B AF σ H _ Fs _ _ S pE_same _ fun v H1 F g1 r1 o1 => ?_
  obtain ⟨a, us, vs, F', rfl, hd, hv, rl, rfl⟩ := dic_inv r1
  refine ⟨a, _, _, rfl, hd, fun w hw => ?_⟩
  have g2 : Grow H1 (upd H1 w (dX w (viewV a))) := .new hw
  refine h2 B AF σ _ _ Fs _ _ (S.grow (g1.trans g2)) pE_same _ fun z H3 F3 g3 r3 o3 => ?_
  cases r3
  have hvs := rpl_ints rl
  subst hvs
  exact ⟨w, a, _, us, kvs.map (·.2), d, rfl, rfl, g3 _ _ upd_same, hd.grow (g2.trans g3), hv, q _ H3 [] (g1.trans (g2.trans g3)) (.int _) (.mv ⟨List.nodup_nil, fun a h => nomatch h⟩)⟩
theorem p_maxTV (h1 : PV K td ρ (ET PyData.int ns) k) (h2 : PV K tx ρ (.int d) k2) : PV K (tCKw (rMaxTV K) (tCons td tNil) (tCons tx tNil)) ρ (.int (bestI ns d)) (.mv []) := by
  intro B AF σ H ρ' Fs o k' S eo Q q
  obtain ⟨e0, e1⟩ := pE_some eo
  subst e0
  cases e1
  refine h1 B AF σ H _ Fs _ _ S pE_same _ fun v H1 F g1 r1 o1 => ?_
  cases r1 with
  | tup ha rl =>
    refine h2 B AF σ _ _ Fs _ _ (S.grow g1) pE_same _ fun z H3 F3 g3 r3 o3 => ?_
    cases r3
    have hvs := rpl_ints rl
    subst hvs
    exact ⟨_, ns, d, rfl, rfl, .inl (Kp.sqT (F := []) g3.kp ha.1), q _ H3 [] (g1.trans g3) (.int _) (.mv ⟨List.nodup_nil, fun a h => nomatch h⟩)⟩
theorem p_maxLV (h1 : PV K td ρ (EL PyData.int ns) k) (h2 : PV K tx ρ (.int d) k2) : PV K (tCKw (rMaxTV K) (tCons td tNil) (tCons tx tNil)) ρ (.int (bestI ns d)) (.mv []) := by
  intro B AF σ H ρ' Fs o k' S eo Q q
  obtain ⟨e0, e1⟩ := pE_some eo
  subst e0
  cases e1
  refine h1 B AF σ H _ Fs _ _ S pE_same _ fun v H1 F g1 r1 o1 => ?_
  cases r1 with
  | lst ha rl =>
    refine h2 B AF σ _ _ Fs _ _ (S.grow g1) pE_same _ fun z H3 F3 g3 r3 o3 => ?_
    cases r3
    have hvs := rpl_ints rl
    subst hvs
    exact ⟨_, ns, d, rfl, rfl, .inr (.of (g3 _ _ ha)), q _ H3 [] (g1.trans g3) (.int _) (.mv ⟨List.nodup_nil, fun a h => nomatch h⟩)⟩
end
end Va
namespace Va
open Classical
open PySem L2 PyProof.Rows PySem.W PySem.Calls
theorem s_appY {α : Type} {e : α → PyData} {K : PySem.W.Frag} {Wx : WxT} {ρ ρ1 : Env} {te : TE} {k : Kd} {m : Nat} (kl : List Nat) (i : Nat) {xs : List α} {x : PyData} {u : Unit} (h : PV K te ρ x k) (hx : ρ[i]? = some (some (.list (xs.map e), m))) (hm : m = 1 ∨ m = 2) (hk : k.src.contains i = false) (ha : chk (decide (xs.length < 1000000)) = some u) (hρ : (giv kl k ρ).1.set i (some (.list (xs.map e ++ [x]), mutM m (giv kl k ρ).2)) = ρ1) :
    VS K Wx (i :: kl) (tDrop (tBM K "list" rAppend (tVar i) (tCons te tNil))) (pE ρ (some (.nx ρ1))) := s_appX kl i h hx hm hk (by rw [List.length_map]; exact ha) hρ
end Va

/-! Vg6: d.values() as a value, and walked. -/
namespace L2
open PySem PySem.Spec PyProof.Rows PySem.W PySem.Calls Va
def iVW (K : PySem.W.Frag) (te : TE) : TI := fun σ H R => te σ H fun x H1 => ∃ w a o ks vs, x = .ref w ∧ H1 w = some (dX w (viewV a)) ∧ DWk K H1 a o ks vs ∧ R (ItDX a o vs) H1
theorem pi_vw {X : Cx} {tg e : Expr} {te : TE} (he : PE X e te) : PI X tg e (iVW X.K te) := by
  refine ⟨fun pins s σ H R I h => ?_⟩
  refine thn (he.run pins s σ H _ I h) fun u s1 ⟨x, H1, I1, rx, w, a, o, ks, vs, ex, hw, W, q⟩ => ?_
  subst ex
  obtain rfl : u = Value.ref w := rx
  obtain ⟨es, ep, hc, hd, hk, hv⟩ := W.ex
  have raw := dx_raw I1 W.at_ hc hd
  exact wpAny_pyIter_values_raw (d := a) ⟨_, dX_at I1 hw, rfl, rfl⟩ raw (pi_one (tk := s1.toks) I1 _ (turn_dv _ hc hd hv) ⟨_, Heap.get?_push_size _ rfl, rfl, rfl⟩ q)
end L2
namespace Va
open Classical
open PySem L2 PyProof.Rows PySem.W PySem.Calls
/-- the values of a dict, as a view -/
def EVw {β : Type} (f : β → PyData) (xs : List β) : PyData := .dict [(.none, .list (xs.map f))]
section
variable {α β : Type} [DecidableEq α] {e : α → PyData} {f : β → PyData} [DKey e] {K : PySem.W.Frag} {td te : TE} {ρ : Env} {k : Kd} {kvs : List (α × β)} {xs : List β}
theorem p_dvals (M : List Nat) (h : PV K td ρ (ED e f kvs) k) (hs : k.src.all M.contains = true) : PV K (tDValsX K td) ρ (EVw f (kvs.map (·.2))) (.bo M) := by
  intro B AF σ H ρ' Fs d k' S eo Q q
  obtain ⟨e0, e1⟩ := pE_some eo
  subst e0
  cases e1
  refine h B AF σ H _ Fs _ _ S pE_same _ fun v H1 F g1 r1 o1 => ?_
  have hmb := r1.mb
  have hany := o1.1.any
  obtain ⟨a, us, vs, F', rfl, hd, hv, rl, rfl⟩ := dic_inv r1
  refine ⟨a, _, _, rfl, hd, fun w hw => ?_⟩
  have g2 : Grow H1 (upd H1 w (dX w (viewV a))) := .new hw
  refine q (.ref w) _ (w :: a :: F') (g1.trans g2) (.vw upd_same (hd.grow g2) hv (rl.grow g2)) (.bo fun b hb => ?_)
  rcases List.mem_cons.mp hb with rfl | hb
  · exact .inl (g1.back hw)
  · refine (hany b hb).imp id fun z => z.mono fun i hi => ?_
    have := List.all_eq_true.mp hs i hi
    simpa using this
theorem i_vw (h : PV K te ρ (EVw f xs) k) : PI' K (iVW K te) ρ (xs.map f) k := by
  intro B AF σ H ρ' Fs ds k' S eo R q
  obtain ⟨e0, e1⟩ := pE_some eo
  subst e0
  cases e1
  refine h B AF σ H _ Fs _ _ S pE_same _ fun v H1 F g1 r1 o1 => ?_
  have hmb := r1.mb
  obtain ⟨w, a, ks, us, vs, F', rfl, hw, hd, hv, rl, rfl⟩ := Rp.vw_inv r1
  obtain ⟨o, kv, W, rk⟩ := hd.wk hv
  have at_ : ∀ H', Kp (w :: a :: F') H1 H' → H' a = some (dX a o) := fun H' z => z _ _ W.at_ (.inr ⟨by simp, inferInstance⟩)
  have hlen := rl.length
  refine ⟨w, a, o, kv, vs, rfl, hw, W, q _ H1 (w :: a :: F') g1 ⟨hmb, fun H' z i d hd' => ?_, fun H' z i hi => ⟨at_ H' z, by rw [hlen]; exact hi⟩⟩ o1.1.any⟩
  obtain ⟨x, A, G, B', h1, h2, h3⟩ := rl.get i hd'
  refine ⟨⟨at_ H' z, (List.getElem?_eq_some_iff.mp h1).1⟩, fun y H'' ⟨q1, q2⟩ => ?_⟩
  subst q1
  rw [h1] at q2
  cases q2
  refine ⟨.refl _, G, h2.kp (z.mono fun b hb => List.mem_cons_of_mem _ (List.mem_cons_of_mem _ ?_)), fun b hb => List.mem_cons_of_mem _ (List.mem_cons_of_mem _ ?_)⟩ <;>
  · rw [h3]
    exact List.mem_append_right _ (List.mem_append_left _ hb)
end
end Va
namespace Va
open PySem L2 PyProof.Rows
/-- True, or a thing -/
def EQ {α : Type} (e : α → PyData) : Option α → PyData
  | none => .bool true
  | some x => e x
def truQ {α : Type} : Option (List α) → Bool
  | none => true
  | some xs => !xs.isEmpty
theorem truQL {α : Type} {e : α → PyData} {o : Option (List α)} : truD (EQ (EL e) o) = some (truQ o) := by
  cases o with
  | none => rfl
  | some xs => exact truL
end Va
namespace Va
open PySem L2 PyProof.Rows PySem.W PySem.Calls
/-- a call with keywords, within a comprehension too -/
theorem pe_callKX {X : L2.Cx} {P : Program} {w : World} {K : PySem.W.Frag} {mg : Str → Option Value} {base : Heap} {A : Around} {x : Str} {k j n np : Nat} {m : List PyData → PyData × Nat → Prop} {ks : List Str} {e : Expr} {es : List Expr} {kws : List Keyword} {t tk : TA} {p pos : Pos} (C : Ckr P w K mg base x k n m np ks) (hr : Room j A) (hj : k ≤ j) (ha : PA X (e :: es) t) (hk : PK X kws tk)
    (e1 : X.prog = P := by rfl) (e2 : X.w = w := by rfl) (e3 : X.K = K := by rfl) (e4 : X.mg = mg := by rfl) (e5 : X.base = base := by rfl) (e6 : X.A = A := by rfl)
    (hg : Gl X x := by rfl) (h1 : (backToKw pos (keywordEach kws X.env)).all (·.1.isSome) = true := by rfl) (h2 : (backToKw pos (keywordEach kws X.env)).filterMap (·.1) = ks := by rfl)
    (hd : (x == ("__debug__" : Str)) = false := by decide) (he : starEach (e :: es) X.env = (false, eval e X.env) :: starEach es X.env := by rfl)
    (hp : ((backTo pos (starEach (e :: es) X.env)).any (·.1) || (backToKw pos (keywordEach kws X.env)).any (·.1.isNone)) = false := by rfl) :
    PE X (.Call (.Name x p) (e :: es) kws pos) (tCallN np ks.length (spR K n m) (fun vs zs => vs ++ zs) L2.E0 t tk) := by
  subst e1 e2 e3 e4 e5 e6
  exact pe_callKR C hr hj ha hk hg h1 h2 hd he hp
end Va

/-! Vh1: xs.index(x), xs[::-1], min of a list of tuples, list(d), order of tuples of four, isinstance of an Option, `is True`, raise. -/
namespace L2
open PySem PySem.Spec PyProof.Rows PySem.W PySem.Calls Va
/-- min of a list of data of any depth: the item itself -/
def rMinG (K : PySem.W.Frag) : List V → Hp → VK → Prop := fun vs H Q => ∃ (a : Addr) (xs : List V) (d : PyData) (ds : List PyData), vs = [.ref a] ∧ SqL K H a xs ∧ DpAll K H xs (d :: ds) ∧ AlikeAll (d :: ds) ∧ PyData.depthAll (d :: ds) ≤ 60 ∧ ∀ v, xs[argBest (fun i j => dataLt ((d :: ds).getD i .none) ((d :: ds).getD j .none)) ds.length]? = some v → Q v H
theorem cr_minG {X : Cx} (hc : X.calm = true) (hu : X.A.units + 64 < cLine) : CallR X (.builtin "min") (rMinG X.K) := by
  intro pins s σ H vs us Q I r h
  obtain ⟨a, xs, d, ds, rfl, hs, hd, hA, hD, q⟩ := h
  rw [Vals.ref1 r]
  obtain ⟨its, rv, hl, _⟩ := I.list hs
  obtain ⟨as, h4⟩ := Dp.readsAll I _ _ its hd rv
  have hr : ReadsAll s.heap its.toArray.toList (d :: ds) as := h4
  have hn : its.toArray.size = ds.length + 1 := readsAll_len hr
  have hh : X.A.in1.handled = none := I.ok.hd hc
  refine call_min_walkH (iter_listW (A := X.A.in1) hh hl.isList fun s₂ e W st hfp hw hk => ?_)
  refine ⟨_, _, _, _, _, _, _, s.heap, _, rfl, W, st, hfp, by omega, hw, hk, cmpIn_lt (A := X.A.in1) hr hA (by show X.A.units + 1 + _ < _; omega), fun v s' hP m => ?_⟩
  obtain ⟨h', tk, rfl, hk'⟩ := moved_old e rfl m
  have e1 : its.toArray.size - 1 = ds.length := by omega
  rw [e1] at hP
  obtain ⟨x, hx, rx⟩ := vals_get2 rv (i := argBest (fun i j => dataLt ((d :: ds).getD i .none) ((d :: ds).getD j .none)) ds.length) (u := v) (by simpa using hP)
  exact ⟨x, H, I.kept hk', rx, q x hx⟩
/-- list(d): its keys -/
def rListK (K : PySem.W.Frag) : List V → Hp → VK → Prop := fun vs H Q => ∃ (a : Addr) (o : Obj) (xs zs : List V), vs = [.ref a] ∧ DWk K H a o xs zs ∧ xs.length ≤ 1000000 ∧ ∀ p, H p = none → Q (.ref p) (upd H p (.lst xs))
theorem cr_listK {X : Cx} (hc : X.calm = true) : CallR X (.type "list") (rListK X.K) := by
  intro pins s σ H vs us Q I r h
  obtain ⟨a, o, xs, zs, rfl, W, hxl, q⟩ := h
  obtain ⟨u, rfl, ru⟩ := vals1 r
  obtain rfl : u = Value.ref a := ru
  obtain ⟨es, ep, hex, hdt, hks, _⟩ := W.ex
  have raw := dx_raw I W.at_ hex hdt
  have hxe : xs.length = es.size := (Vals.length hks).trans (by rw [List.length_map, Array.length_toList])
  have hn : es.size ≤ sizeLine := Nat.le_trans (by omega) line_ge
  refine PySem.W.kdl_call (Va.kdl_raw W.ns) (I.ok.hd hc) raw hn fun h' tk acc c' hk hD hacc => ?_
  have hits := items_list hacc
  have rv : Vals xs acc.toList := by rw [hits]; exact hks
  exact ⟨.ref s.heap.objs.size, upd H s.heap.objs.size (.lst xs), I.laid (t' := tk) hk (Nat.le_refl _) (show ObjOk X.prog X.w _ _ _ (.lst xs) from ⟨by omega, acc.toList, c', rv, by rw [Array.toArray_toList]; exact hD⟩), rfl, q _ (I.hok.fresh (Nat.le_refl _))⟩
end L2
namespace Va
open Classical
open PySem L2 PyProof.Rows PySem.W PySem.Calls
variable {α β γ δ : Type} {K : PySem.W.Frag} {ρ : Env} {td te ta tb : TE} {t : TA} {k k1 k2 : Kd} {Wx : WxT}
/-! ### raise -/
theorem s_raise : VS K Wx ([] : List Nat) tNever (pE ρ none) := by
  intro B AF σ H ρ' Fs o S eo
  unfold pE at eo
  split at eo <;> cases eo
/-! ### order -/
def ltBo (a b : Bool) : Bool := !a && b
instance : LtE PyData.bool ltBo := ⟨fun _ _ => rfl, fun a b => by cases a <;> cases b <;> decide +kernel, fun a => by cases a <;> rfl⟩
instance {a : α → PyData} {b : β → PyData} {c : γ → PyData} {d : δ → PyData} [DecidableEq α] [DecidableEq β] [DecidableEq γ] [DecidableEq δ] {l : α → α → Bool} {m : β → β → Bool} {n : γ → γ → Bool} {o : δ → δ → Bool} [LtE a l] [LtE b m] [LtE c n] [LtE d o] [EqvE a] [EqvE b] [EqvE c] [EqvE d] : LtE (E4 a b c d) (lt2 l (lt2 m (lt2 n o))) := ⟨fun p q => by
  simp only [E4, alike, alikeAll, LtE.alk, Bool.and_self], fun p q => by
  have e0 : PyProof.Rows.lexLt itemOrd (keyToksAll []) (keyToksAll []) = false := lex_irrefl _
  rw [dataLt_tuple, dataLt_cons (LtE.alk _ _), dataLt_cons (LtE.alk _ _), dataLt_cons (LtE.alk _ _), dataLt_cons (LtE.alk _ _), EqvE.eqv, EqvE.eqv, EqvE.eqv, EqvE.eqv, LtE.ltd, LtE.ltd, LtE.ltd, LtE.ltd, e0, lt2, lt2, lt2]
  by_cases h : p.1 = q.1
  · by_cases k : p.2.1 = q.2.1
    · by_cases j : p.2.2.1 = q.2.2.1
      · by_cases i : p.2.2.2 = q.2.2.2
        · simp [h, k, j, i, LtE.irr (e := d)]
        · simp [h, k, j, i]
      · simp [h, k, j]
    · simp [h, k]
  · simp [h], fun p => by simp [lt2, LtE.irr (e := d)]⟩
/-! ### min of a list of tuples -/
def minG (lt : α → α → Bool) : List α → Option α
  | [] => none
  | x :: xs => some (xs.foldl (fun a y => if lt y a = true then y else a) x)
theorem p_minG [DecidableEq α] {e : α → PyData} {lt : α → α → Bool} {n : Nat} [LtE e lt] [Flat e] [Shp e n] [NonN e] {xs : List α} {z : α} (ha : PA' K t ρ [.list (xs.map e)] k) (h : minG lt xs = some z) (hn : n ≤ 60) : PV K (tCB (rMinG K) t) ρ (e z) (.mv []) := by
  cases xs with
  | nil => cases h
  | cons x xs =>
    cases h
    intro B AF σ H ρ' Fs d k' S eo Q q
    obtain ⟨e0, e1⟩ := pE_some eo
    subst e0
    cases e1
    refine ha B AF σ H _ Fs _ _ S pE_same _ fun vs H1 F g1 r1 o1 => ?_
    obtain ⟨v, rfl, rv⟩ := r1.one'
    cases rv with
    | lst hl rl =>
      rename_i a ys G
      refine ⟨a, ys, e x, xs.map e, rfl, .of hl, rl.dp (layAll_map (x :: xs)), ⟨?_, ?_⟩, ?_, fun v hv => ?_⟩
      · intro u hu w hw
        obtain ⟨u', _, rfl⟩ := List.mem_map.mp (show u ∈ (x :: xs).map e from hu)
        obtain ⟨w', _, rfl⟩ := List.mem_map.mp (show w ∈ (x :: xs).map e from hw)
        exact LtE.alk _ _
      · intro u hu
        obtain ⟨u', _, rfl⟩ := List.mem_map.mp (show u ∈ (x :: xs).map e from hu)
        intro z
        have := NonN.non (e := e) u'
        rw [z] at this
        cases this
      · exact Nat.le_trans (deepAll_map (e := e) (x :: xs)) hn
      · obtain ⟨i, hi⟩ : ∃ i, i = argBest (fun i j => dataLt ((e x :: xs.map e).getD i .none) ((e x :: xs.map e).getD j .none)) (xs.map e).length := ⟨_, rfl⟩
        rw [← hi] at hv
        have fold := (argBest_fold dataLt PyData.none (e x) (xs.map e) (xs.map e).length (Nat.le_refl _)).2
        rw [← hi, List.take_length] at fold
        have hlen := rl.length
        have hiv := (List.getElem?_eq_some_iff.mp hv).1
        have hget : (e x :: xs.map e)[i]? = some ((e x :: xs.map e).getD i .none) := by
          rw [List.getD_eq_getElem?_getD]
          have : i < (e x :: xs.map e).length := by
            have h2 : ys.length = (e x :: xs.map e).length := hlen
            omega
          rw [List.getElem?_eq_getElem this]
          rfl
        have main : ∀ (ws : List α) (y : α), (ws.map e).foldl (fun a y => if dataLt y a = true then y else a) (e y) = e (ws.foldl (fun a y => if lt y a = true then y else a) y) := by
          intro ws
          induction ws with
          | nil => intro y; rfl
          | cons w ws ih =>
            intro y
            rw [List.map_cons, List.foldl_cons, List.foldl_cons, LtE.ltd]
            by_cases hc : lt w y = true
            · rw [if_pos hc, if_pos hc]; exact ih w
            · rw [if_neg hc, if_neg hc]; exact ih y
        rw [fold, main] at hget
        obtain ⟨v', A, G', B', h1, h2, h3⟩ := rl.get i hget
        rw [hv] at h1
        cases h1
        have hG : G' = [] := h2.flat (Flat.flat _)
        subst hG
        exact q v H1 [] g1 h2 (.mv ⟨List.nodup_nil, fun a h => nomatch h⟩)
/-! ### list(d) -/
theorem p_listK [DecidableEq α] {e : α → PyData} {f : β → PyData} [DKey e] [Flat e] {kvs : List (α × β)} (ha : PA' K t ρ [ED e f kvs] k) : PV K (tCB (rListK K) t) ρ (.list ((kvs.map (·.1)).map e)) (.mv []) := by
  intro B AF σ H ρ' Fs d k' S eo Q q
  obtain ⟨e0, e1⟩ := pE_some eo
  subst e0
  cases e1
  refine ha B AF σ H _ Fs _ _ S pE_same _ fun vs H1 F g1 r1 o1 => ?_
  obtain ⟨v, rfl, rv⟩ := r1.one'
  obtain ⟨a, us, ws, F', rfl, hd, hv, rl, rfl⟩ := dic_inv rv
  obtain ⟨o, kv, W, rk⟩ := hd.wk hv
  have hsm := hd.small
  have hdl := hd.len
  have hl : kv.length = ((kvs.map (·.1)).map e).length := rk.length
  refine ⟨a, o, kv, ws, rfl, W, by omega, fun p hp => ?_⟩
  have hfl : H p = none := g1.back hp
  exact q _ _ [p] (g1.trans (.new hp)) (rp_lst rk hp) (.mv ⟨by simp, fun a ha => by rcases List.mem_singleton.mp ha with rfl; exact .inl hfl⟩)
/-! ### xs.index(x) -/
def idxG [DecidableEq α] (xs : List α) (x : α) : Option Int := match xs with
  | [] => none
  | y :: ys => if y = x then some 0 else (idxG ys x).map fun i => i + 1
theorem idxG_some [DecidableEq α] : ∀ {xs : List α} {x : α} {i : Int}, idxG xs x = some i → ∃ j : Nat, i = j ∧ xs[j]? = some x ∧ ∀ m, m < j → xs[m]? ≠ some x
  | [], x, i, h => by cases h
  | y :: ys, x, i, h => by
    unfold idxG at h
    split at h
    · rename_i e
      cases h
      exact ⟨0, rfl, by rw [e]; rfl, fun m hm => absurd hm (Nat.not_lt_zero _)⟩
    · rename_i e
      obtain ⟨i', h1, rfl⟩ := Option.map_eq_some_iff.mp h
      obtain ⟨j, rfl, h2, h3⟩ := idxG_some h1
      refine ⟨j + 1, by omega, by simpa using h2, fun m hm => ?_⟩
      cases m with
      | zero => simpa using e
      | succ m => simpa using h3 m (by omega)
theorem p_idxL [DecidableEq α] {e : α → PyData} {n : Nat} [EqvE e] [Shp e n] {xs : List α} {x : α} {i : Int} (h1 : PV K te ρ (.list (xs.map e)) k) (h2 : PV K ta ρ (e x) k2) (h : idxG xs x = some i) (hn : n ≤ 60) : PV K (tBM K "list" (rIndexD K) te (tCons ta tNil)) ρ (.int i) (.mv []) := by
  obtain ⟨j, rfl, hj, hno⟩ := idxG_some h
  intro B AF σ H ρ' Fs d k' S eo Q q
  obtain ⟨e0, e1⟩ := pE_some eo
  subst e0
  cases e1
  refine h1 B AF σ H _ Fs _ _ S pE_same _ fun v H1 F g1 r1 o1 => ?_
  cases r1 with
  | lst ht rl =>
    rename_i a ys G
    refine ⟨.inl ⟨rfl, _, .of ht⟩, ?_⟩
    refine h2 B AF σ _ _ Fs _ _ (S.grow g1) pE_same _ fun z H3 F3 g3 r3 o3 => ?_
    have hl := (Rp.lst ht rl).grow g3
    refine ⟨a, z, e x, xs.map e, j, e x, rfl, rfl, hl.dp ?_, r3.dp (Shp.lay x), shaped_list hn, shaped_of (by omega), by rw [List.getElem?_map, hj]; rfl, by rw [EqvE.eqv]; simp, fun m z' hm hz' => ?_, ?_⟩
    · exact SeqAt.canLay_of_shaped (shaped_list hn)
    · rw [List.getElem?_map] at hz'
      obtain ⟨y, hy, rfl⟩ := Option.map_eq_some_iff.mp hz'
      rw [EqvE.eqv]
      refine decide_eq_false fun e => hno m hm (e ▸ hy)
    · exact q _ H3 [] (g1.trans g3) (.int _) (.mv ⟨List.nodup_nil, fun a h => nomatch h⟩)
/-! ### xs[::-1] -/
theorem RpL.rev {H : Hp} : ∀ {vs : List V} {ds : List PyData}, RpL K H vs ds [] → RpL K H vs.reverse ds.reverse []
  | _, _, h => by
    generalize hF : ([] : List Addr) = F at h
    induction ‹List V› generalizing ‹List PyData› F with
    | nil => cases h; exact .nil
    | cons v vs ih =>
      cases h with
      | cons a b =>
        rename_i d ds F1 G1
        have e := List.append_eq_nil_iff.mp hF.symm
        obtain ⟨rfl, rfl⟩ := e
        rw [List.reverse_cons, List.reverse_cons]
        have := RpL.app (ih _ _ rfl b) (RpL.one a)
        simpa using this
theorem p_revF {e : α → PyData} [Flat e] {xs : List α} (h1 : PV K te ρ (.list (xs.map e)) k) : PV K (tRevL K te) ρ (.list (xs.reverse.map e)) (.mv []) := by
  intro B AF σ H ρ' Fs d k' S eo Q q
  obtain ⟨e0, e1⟩ := pE_some eo
  subst e0
  cases e1
  refine h1 B AF σ H _ Fs _ _ S pE_same _ fun v H1 F g1 r1 o1 => ?_
  cases r1 with
  | lst ht rl =>
    rename_i a ys G
    have hG : G = [] := rl.flat flatL_map
    subst hG
    refine ⟨a, ys, rfl, .of ht, fun p hp => ?_⟩
    have hfl : H p = none := g1.back hp
    have rr := RpL.rev rl
    rw [← List.map_reverse] at rr
    exact q _ _ [p] (g1.trans (.new hp)) (rp_lst rr hp) (.mv ⟨by simp, fun a ha => by rcases List.mem_singleton.mp ha with rfl; exact .inl hfl⟩)
/-! ### isinstance of an Option, is True -/
theorem p_isiO {e : α → PyData} {o : Option α} (T : String) (hT : isiOk T = true) (h0 : isiD T .none = false) (h1 : ∀ a, isiD T (e a) = true) (h2 : ∀ a, isW (e a) = false) (h : PV K te ρ (EO e o) k) : PV K (tCB (rIsi K) (tCons te (tCons (tC (.ty T)) tNil))) ρ (.bool o.isSome) (.mv []) := by
  cases o with
  | none => exact p_isi T hT h h0 rfl
  | some a => exact p_isi T hT h (h1 a) (h2 a)
def hBB (g : Bool → Bool → Bool) : List PyData → Option PyData
  | [.bool a, .bool b] => some (.bool (g a b))
  | _ => none
theorem vf_isB {g : Bool → Bool → Bool} : VFf K (r2l fun x y H' Q => ∃ a b, x = .bl a ∧ y = .bl b ∧ Q (.bl (g a b)) H') (hBB g) := by
  intro H vs ds F d r e Q q
  unfold hBB at e
  split at e
  case h_2 => cases e
  cases e
  obtain ⟨v, u, A, B, rfl, r1, r2, rfl⟩ := r.two
  cases r1; cases r2
  exact ⟨_, _, rfl, rfl, q _ H (.refl H) (.bl _)⟩
theorem p_isB {a b : Bool} (h1 : PV K ta ρ (.bool a) k1) (h2 : PV K tb ρ (.bool b) k2) : PV K (tOp (fun x y H Q => ∃ a b, x = .bl a ∧ y = .bl b ∧ Q (.bl (decide (a = b))) H) ta tb) ρ (.bool (decide (a = b))) (.mv []) := p_opF (vf_isB (g := fun a b => decide (a = b))) h1 h2 rfl
theorem p_notB {a b : Bool} (h1 : PV K ta ρ (.bool a) k1) (h2 : PV K tb ρ (.bool b) k2) : PV K (tOp (fun x y H Q => ∃ a b, x = .bl a ∧ y = .bl b ∧ Q (.bl (!decide (a = b))) H) ta tb) ρ (.bool (!decide (a = b))) (.mv []) := p_opF (vf_isB (g := fun a b => !decide (a = b))) h1 h2 rfl
end Va

/-! Vh2: append to a list that may be None, append of another kind to a part of a tuple. -/
namespace Va
open Classical
open PySem L2 PyProof.Rows PySem.W PySem.Calls
variable {α β τ : Type} {K : PySem.W.Frag} {ρ ρ1 : Env} {td te ta tb : TE} {t : TA} {k k1 k2 : Kd} {Wx : WxT} {e : α → PyData} {m : Nat} {ds : List PyData}
theorem PA'.bo (ha : PA' K t ρ ds k) (M : List Nat) (hs : k.src.all M.contains = true) : PA' K t ρ ds (.bo M) := fun B AF σ H ρ' Fs ds' k' S e Q q => by
  obtain ⟨e0, e1⟩ := pE_some e
  subst e0
  cases e1
  refine ha B AF σ H _ Fs _ _ S pE_same Q fun vs H' F g r o => q vs H' F g r fun a ha => (o.any a ha).imp id fun z => z.mono fun i hi => ?_
  have := List.all_eq_true.mp hs i hi
  simpa using this
/-- append to a list that may be None -/
theorem s_appO (kl : List Nat) (i : Nat) {o : Option (List α)} {xs zs : List α} {x : α} (h0 : o = some xs) (h : PV K te ρ (e x) k) (hx : ρ[i]? = some (some (EO (EL e) o, m))) (hm : m = 1 ∨ m = 2) (hk : k.src.contains i = false) (ha : appO xs x = some zs) (hρ : (giv kl k ρ).1.set i (some (.list (zs.map e), mutM m (giv kl k ρ).2)) = ρ1) :
    VS K Wx (i :: kl) (tDrop (tBM K "list" rAppend (tVar i) (tCons te tNil))) (pE ρ (some (.nx ρ1))) := by
  subst h0
  exact s_app kl i h hx hm hk ha hρ
/-- append of another kind to a list that may be None and is not read again -/
theorem s_appOY (kl : List Nat) (i : Nat) {o : Option (List α)} {xs : List α} {x : PyData} {u : Unit} (h0 : o = some xs) (h : PV K te ρ x k) (hx : ρ[i]? = some (some (EO (EL e) o, m))) (hm : m = 1 ∨ m = 2) (hk : k.src.contains i = false) (ha : chk (decide (xs.length < 1000000)) = some u) (hρ : (giv kl k ρ).1.set i (some (.list (xs.map e ++ [x]), mutM m (giv kl k ρ).2)) = ρ1) :
    VS K Wx (i :: kl) (tDrop (tBM K "list" rAppend (tVar i) (tCons te tNil))) (pE ρ (some (.nx ρ1))) := by
  subst h0
  exact s_appY kl i h hx hm hk ha hρ
/-- append of another kind to a part of a thing that may be None and is not read again -/
theorem s_app2R (kl : List Nat) (i : Nat) {d : PyData} {n : Nat} {ys : List PyData} {x : PyData} {a : Int} {u : Unit} (h : PV K te ρ x k) (ha : PV K ta ρ (.int a) k2) (hx : ρ[i]? = some (some (d, 2))) (hk : k.src.contains i = false) (hg : (giv kl k ρ).2 = 2) (hin : inner d a = some (n, ys)) (hs : chk (decide (ys.length < 1000000)) = some u) (hρ : (giv kl k ρ).1.set i (some (putIn d n (.list (ys ++ [x])), 2)) = ρ1) :
    VS K Wx (i :: kl) (tDrop (tBM K "list" rAppend (tOp (rIx K) (tVar i) ta) (tCons te tNil))) (pE ρ (some (.nx ρ1))) := (vs_app2 kl i h ha).at (by
  have hl : ys.length < 1000000 := by simpa using chk_some hs
  unfold sApp2
  rw [pE_same, pE_same, Option.bind_some, Option.bind_some]
  simp only
  rw [ownA_at hx hk hg, Option.bind_some, hin, Option.bind_some]
  simp only
  rw [if_pos hl, ← hρ]
  simp [mutIn])
end Va
namespace Va
open PySem L2 PyProof.Rows PySem.W PySem.Calls
/-- a call, as an argument of a call with keywords within a comprehension -/
theorem pe_callRX {X : L2.Cx} {P : Program} {w : World} {K : PySem.W.Frag} {mg : Str → Option Value} {base : Heap} {A : Around} {x : Str} {k j n : Nat} {m : List PyData → PyData × Nat → Prop} {e : Expr} {es : List Expr} {t : TA} {p pos : Pos} (C : Clr P w K mg base x k n m) (hr : Room j A) (hj : k ≤ j) (ha : PA X (e :: es) t)
    (e1 : X.prog = P := by rfl) (e2 : X.w = w := by rfl) (e3 : X.K = K := by rfl) (e4 : X.mg = mg := by rfl) (e5 : X.base = base := by rfl) (e6 : X.A = A := by rfl)
    (hg : Gl X x := by rfl) (hd : (x == ("__debug__" : Str)) = false := by decide) (he : starEach (e :: es) X.env = (false, eval e X.env) :: starEach es X.env := by rfl)
    (hp : (backTo pos (starEach es X.env)).any (·.1) = false := by rfl) : PE X (.Call (.Name x p) (e :: es) [] pos) (tCall (spR K n m) [] L2.E0 t) := by
  subst e1 e2 e3 e4 e5 e6
  exact pe_callR C hr hj ha hg hd he hp
end Va

/-! Vh3: d[a].append(x). -/
namespace Va
open Classical
open PySem L2 PyProof.Rows PySem.W PySem.Calls
section
variable {α β : Type} [DecidableEq α] {e : α → PyData} {f : β → PyData} [DKey e] {K : PySem.W.Frag} {Wx : WxT} {ρ ρ1 : Env} {te ta : TE} {k k2 : Kd} {x : α} {y : β}
def apDO (kvs : List (α × List β)) (x : α) (y : β) : Option (List (α × List β)) := (posD kvs x).bind fun i => kvs[i]?.bind fun p => (appO p.2 y).map fun q => kvs.set i (p.1, q)
theorem s_appD {kvs zs : List (α × List β)} (kl : List Nat) (i : Nat) (h : PV K te ρ (f y) k) (ha : PV K ta ρ (e x) k2) (hx : ρ[i]? = some (some (ED e (EL f) kvs, 2))) (hk : k.src.contains i = false) (hg : (giv kl k ρ).2 = 2) (hz : apDO kvs x y = some zs)
    (hρ : (giv kl k ρ).1.set i (some (ED e (EL f) zs, 2)) = ρ1) : VS K Wx (i :: kl) (tDrop (tBM K "list" rAppend (tOp (rGetD K) (tVar i) ta) (tCons te tNil))) (pE ρ (some (.nx ρ1))) := by
  subst hρ
  obtain ⟨n, hn, hz⟩ := Option.bind_eq_some_iff.mp hz
  obtain ⟨p, hp, hz⟩ := Option.bind_eq_some_iff.mp hz
  obtain ⟨w, hw, hz⟩ := Option.map_eq_some_iff.mp hz
  subst hz
  obtain ⟨hlen, rfl⟩ := appO_of hw
  intro B AF σ H ρ' Fs o S eo D pp
  obtain ⟨e0, e1⟩ := pE_some eo
  subst e0
  cases e1
  have hki : i ∉ k.src := by simpa using hk
  obtain ⟨v0, h1, h2, _⟩ := S.val i _ 2 hx
  generalize hF : Fs i = Fi at h2
  obtain ⟨a, us, vs, F0, rfl, hd, hv, rl, rfl⟩ := dic_inv h2
  have hp' : ((kvs.map (·.2)).map (EL f))[n]? = some (EL f p.2) := by rw [List.getElem?_map, List.getElem?_map, hp]; rfl
  obtain ⟨A, Gi, B', wv, hF0, hvn, rin, hput⟩ := rl.put n hp'
  refine ⟨_, h1, ha B AF σ H _ Fs _ k2 S pE_same _ fun xv H1 F1 g1 r1 o1 => ?_⟩
  have op := DKey.op (hd.grow g1) r1
  rw [show posL (kvs.map (·.1)) x = some n from hn] at op
  refine ⟨a, _, _, us, n, vs, wv, rfl, op, hv, hvn, ?_⟩
  have rin1 := rin.grow g1
  cases rin1 with
  | lst hq rl2 =>
    rename_i q ws G0
    refine ⟨.inl ⟨rfl, _, .of hq⟩, ?_⟩
    refine h B AF σ H1 _ Fs _ k (S.grow g1) pE_same _ fun v H2 F g2 r2 o2 => ?_
    have g12 := g1.trans g2
    have hwl : ws.length = p.2.length := by
      have := rl2.length
      simpa using this
    refine ⟨q, ws, v, rfl, rfl, g2 _ _ hq, lt_line (by omega), ?_⟩
    have o2' : KV _ Fs H v F k := ⟨o2.1.back g1, fun L hL => by
      obtain ⟨p, G, w1, w2, w3, w4⟩ := o2.2 L hL
      exact ⟨p, G, w1, w2, w3, g1.back w4⟩⟩
    refine put_endX (pre := [a]) (A := A) (B' := B') (G0 := G0) (G1 := G0 ++ F) (u := .ref a) (d' := ED e (EL f) (kvs.set n (p.1, p.2 ++ [y]))) S g12 o2' hx hki hg h1 (by rw [hF, hF0]; rfl) (fun b hb => List.mem_append.mp hb) (fun z => z) (fun qG1 qn => ?_) pp
    have mb : Mb (H2 q) = true := by rw [g2 _ _ hq]; rfl
    have rin' : Rp K (upd H2 q (.lst (ws ++ [v]))) (.ref q) (EL f (p.2 ++ [y])) (q :: (G0 ++ F)) := by
      have hs := (RpL.app (rl2.grow g2) (RpL.one r2)).kp (.upd (o := .lst (ws ++ [v])) mb qG1)
      have e' : EL f (p.2 ++ [y]) = .list (p.2.map f ++ [f y]) := by unfold EL; rw [List.map_append]; rfl
      rw [e']
      exact .lst upd_same hs
    have kp : Kp ([a] ++ (A ++ B')) H (upd H2 q (.lst (ws ++ [v]))) := fun b ob' hb hq' => by
      have : Nt ob' := hq'.elim Nt.mb (·.2)
      have hb3 := g12 _ _ hb
      by_cases hbq : b = q
      · subst hbq
        rcases hq' with hq' | hq'
        · rw [hb3] at mb
          rw [hq'] at mb
          cases mb
        · exact absurd rfl (qn b hq'.1)
      · rw [upd_ne hbq]
        exact hb3
    have rl' := hput (upd H2 q (.lst (ws ++ [v]))) (EL f (p.2 ++ [y])) (q :: (G0 ++ F)) (kp.mono fun b hb => List.mem_append_right _ hb) rin'
    have hset : ((kvs.set n (p.1, p.2 ++ [y])).map (·.1)) = kvs.map (·.1) := by
      rw [List.map_set]
      refine List.ext_getElem? fun m => ?_
      rw [List.getElem?_set]
      split
      · rename_i hm
        subst hm
        split
        · rw [List.getElem?_map, hp]; rfl
        · rename_i hm; rw [List.getElem?_eq_none (by omega)]
      · rfl
    refine dic_mk (ks := kvs.map (·.1)) (bs := (kvs.set n (p.1, p.2 ++ [y])).map (·.2)) (us := us) (vs := vs) ?_ hv ?_ hset.symm rfl
    · exact hd.keep (fun o' e' n => kp a o' e' (.inr ⟨by simp, n⟩)) fun b ys h' => ⟨kp.sqT h'.1, kp.noD h'.2⟩
    · rw [List.map_set, List.map_set]
      exact rl'
end
end Va

/-! Vh4: dict(xs), xs a list of pairs with keys all unlike. -/
namespace L2
open PySem PySem.Spec PyProof.Rows PySem.W PySem.Calls Va
abbrev PEnt := NestedKey × Addr × V × Addr
def rDictP (K : PySem.W.Frag) : List V → Hp → VK → Prop := fun vs H Q => ∃ (a : Addr) (ps : List PEnt), vs = [.ref a] ∧ SqL K H a (ps.map fun p => V.ref p.2.2.2) ∧ (∀ p ∈ ps, SqT K H p.2.2.2 [.ref p.2.1, p.2.2.1] ∧ NK K H (.ref p.2.1) p.1 ∧ p.1.depth ≤ 8) ∧ (ps.map (·.1)).Nodup ∧ ps.length ≤ 1000000 ∧
  ∀ D o us, H D = none → Vals (ps.map (·.2.2.1)) us → DicAt K (upd H D (dX D o)) D (ps.map fun p => p.1.data) us → Q (.ref D) (upd H D (dX D o))
section
variable {X : Cx} {pins : List (Addr × Obj)} {σ : St} {H : Hp} {s : Shared}
theorem pairsX (I : Inv X pins σ H s) : ∀ {ps : List PEnt}, (∀ p ∈ ps, SqT X.K H p.2.2.2 [.ref p.2.1, p.2.2.1]) → ∃ us, Vals (ps.map (·.2.2.1)) us ∧ us.length = ps.length ∧ ∀ (j : Nat) p u, ps[j]? = some p → us[j]? = some u → s.heap.IsTuple p.2.2.2 #[.ref p.2.1, u]
  | [], _ => ⟨[], .nil, rfl, fun j p u h => by simp at h⟩
  | p :: ps, h => by
    obtain ⟨us, r, hl, ht⟩ := pairsX I (ps := ps) fun q hq => h q (List.mem_cons_of_mem _ hq)
    obtain ⟨its, rv, ⟨o, ho, hc, n, hd⟩, _⟩ := I.tuple (h p (List.mem_cons_self ..))
    obtain ⟨u, y, ei, ru, ry⟩ := vals2 rv
    subst ei
    obtain rfl : u = .ref p.2.1 := ru
    refine ⟨y :: us, .cons ry r, by simp [hl], fun j q u h1 h2 => ?_⟩
    cases j with
    | zero =>
      simp at h1 h2
      subst h1 h2
      exact ⟨o, ho, hc, n, by simpa using hd⟩
    | succ j => exact ht j q u (by simpa using h1) (by simpa using h2)
theorem storedAll_new {K : Type} [DecidableEq K] : ∀ {ps xs : List (K × Addr × Value)}, (xs.map (·.1) ++ ps.map (·.1)).Nodup → storedAllH xs ps = xs ++ ps
  | [], xs, _ => by simp [storedAllH]
  | p :: ps, xs, h => by
    rw [List.map_cons] at h
    have hx : p.1 ∉ xs.map (·.1) := fun hx => (List.nodup_append.mp h).2.2 p.1 hx p.1 (List.mem_cons_self ..) rfl
    have hn : atKey xs p.1 = none := atKey_none_of_get fun j q hq => hx (List.mem_map.mpr ⟨_, List.mem_of_getElem? hq, rfl⟩)
    have e : storedAllH xs (p :: ps) = storedAllH (xs ++ [p]) ps := by
      unfold storedAllH
      rw [List.foldl_cons, storedH_new hn]
    rw [e, storedAll_new (by rw [List.map_append, List.append_assoc]; exact h), List.append_assoc]
    rfl
theorem cr_dictP (hc : X.calm = true) (hu : X.A.units + 65 < cLine) : CallR X (.type "dict") (rDictP X.K) := by
  intro pins s σ H vs us0 Q I r h
  obtain ⟨a, ps, rfl, hs, hp, hnd, hlen, q⟩ := h
  obtain ⟨u0, rfl, ru⟩ := vals1 r
  obtain rfl : u0 = Value.ref a := ru
  obtain ⟨its, rv, pl, hz⟩ := I.list hs
  obtain ⟨us, hvals, hul, htup⟩ := pairsX I (fun p hm => (hp p hm).1)
  have hil : its.length = ps.length := by
    have := Vals.length rv
    simpa using this.symm
  have hit : ∀ (j : Nat) p, ps[j]? = some p → its[j]? = some (.ref p.2.2.2) := fun j p hj => by
    have hjl : j < its.length := by rw [hil]; exact (List.getElem?_eq_some_iff.mp hj).1
    obtain ⟨x, hx, rx⟩ := vals_get2 rv (List.getElem?_eq_getElem hjl)
    rw [List.getElem?_map, hj] at hx
    cases hx
    rw [List.getElem?_eq_getElem hjl]
    exact congrArg some rx
  obtain ⟨dp, hdp⟩ : ∃ dp : PEnt, dp = (.none, 0, .non, 0) := ⟨_, rfl⟩
  let prs : List (Value × Value) := (ps.zip us).map fun z => (Value.ref z.1.2.1, z.2)
  let ents : List Ent := (ps.zip us).map fun z => (z.1.1, z.1.2.1, z.2)
  have hzl : (ps.zip us).length = ps.length := by rw [List.length_zip, hul, Nat.min_self]
  have hget : ∀ (j : Nat) z, (ps.zip us)[j]? = some z → ps[j]? = some z.1 ∧ us[j]? = some z.2 := fun j z hz => by
    have := List.getElem?_zip_eq_some.mp hz
    exact this
  have hents1 : ents.map (·.1) = ps.map (·.1) := by
    show ((ps.zip us).map _).map _ = _
    rw [List.map_map]
    have : (ps.zip us).map Prod.fst = ps := List.map_fst_zip (by omega)
    conv => rhs; rw [← this]
    rw [List.map_map]
    rfl
  have hents2 : ents.map (·.2.2) = us := by
    show ((ps.zip us).map _).map _ = _
    rw [List.map_map]
    have : (ps.zip us).map Prod.snd = us := List.map_snd_zip (by omega)
    conv => rhs; rw [← this]
    rfl
  have hel : ents.length = ps.length := by show ((ps.zip us).map _).length = _; rw [List.length_map, hzl]
  have hmem : ∀ x ∈ ents, ∃ p ∈ ps, x.1 = p.1 ∧ x.2.1 = p.2.1 := fun x hx => by
    obtain ⟨z, hz, rfl⟩ := List.mem_map.mp hx
    exact ⟨z.1, (List.of_mem_zip hz).1, rfl, rfl⟩
  have okP : PlainSeq "list" s.heap a its.toArray ∧ PairItems s.heap its.toArray (fun j => (ps.getD j dp).2.2.2) prs := by
    obtain ⟨⟨cls, dd, data, sls⟩, n, ho, hc, hdn, hdt⟩ := pl
    refine ⟨⟨_, n, ho, hc, hdn, hdt⟩, ?_, fun j k v hj => ?_⟩
    · show its.toArray.size = ((ps.zip us).map _).length
      rw [List.length_map, hzl, List.size_toArray, hil]
    · have hj' : ((ps.zip us).map fun z => (Value.ref z.1.2.1, z.2))[j]? = some (k, v) := hj
      rw [List.getElem?_map] at hj'
      obtain ⟨z, hz, ez⟩ := Option.map_eq_some_iff.mp hj'
      cases ez
      obtain ⟨h1, h2⟩ := hget j z hz
      have ed : (ps.getD j dp) = z.1 := by rw [List.getD_eq_getElem?_getD, h1]; rfl
      simp only
      rw [ed]
      refine ⟨?_, .inl (htup j z.1 z.2 h1 h2)⟩
      rw [← Array.getElem?_toList]
      exact hit j z.1 h1
  have hnd2 : (([] : List Ent).map (·.1) ++ ents.map (·.1)).Nodup := by rw [hents1]; simpa using hnd
  refine call_dict_pairsH (knd := nestedKind X.prog X.w) (ps := ents) (PairArg.list a its.toArray (fun j => (ps.getD j dp).2.2.2) prs) (I.ok.hd hc) ?_ okP ⟨?_, fun i key v hrel => ?_⟩ ?_ ?_ fun h' tk hd hk => ?_
  · show X.A.in1.in1.units + 8 < cLine
    have : X.A.in1.in1.units = X.A.units + 1 + 1 := rfl
    omega
  · show ((ps.zip us).map _).length = ((ps.zip us).map _).length
    rw [List.length_map, List.length_map]
  · have hj' : ((ps.zip us).map fun z => (Value.ref z.1.2.1, z.2))[i]? = some (key, v) := hrel
    rw [List.getElem?_map] at hj'
    obtain ⟨z, hz, ez⟩ := Option.map_eq_some_iff.mp hj'
    cases ez
    refine ⟨z.1.1, z.1.2.1, ?_, rfl⟩
    show ((ps.zip us).map fun z => (z.1.1, z.1.2.1, z.2))[i]? = _
    rw [List.getElem?_map, hz]
    rfl
  · intro h' hk x hx
    obtain ⟨p, hpm, e1, e2⟩ := hmem x hx
    have I' : Inv X pins σ H { s with heap := h' } := I.kept (t' := s.toks) fun b o e => hk b o (Nat.ne_of_lt (Heap.lt_size e)) (fun z => nomatch z) e
    obtain ⟨_, h2, h3⟩ := hp p hpm
    rw [e1, e2]
    exact ⟨h2.is I' rfl, h3⟩
  · show ((ps.zip us).map _).length ≤ sizeLine
    rw [List.length_map, hzl]
    exact Nat.le_trans hlen line_ge
  · rw [storedAll_new hnd2, List.nil_append] at hd
    have hD : H s.heap.objs.size = none := I.hok.fresh (Nat.le_refl _)
    obtain ⟨o', ho', td⟩ := TD.back (K := X.K) (H' := H) hd (fun x hx => by
      obtain ⟨p, hpm, e1, e2⟩ := hmem x hx
      obtain ⟨_, h2, h3⟩ := hp p hpm
      rw [e1, e2]
      exact ⟨h2, h3⟩) (by omega)
    have I1 : Inv X pins σ (upd H s.heap.objs.size (dX s.heap.objs.size o')) { s with heap := h', toks := tk } := I.laid (t' := tk) (fun b o e => hk b o (fun z => nomatch z) e) (Nat.le_refl _) (dX_ok ho')
    have gr : Grow H (upd H s.heap.objs.size (dX s.heap.objs.size o')) := .new hD
    have td' := td.kp (H' := upd H s.heap.objs.size (dX s.heap.objs.size o')) (fun b ys z => ⟨gr.sqT z.1, gr.noD z.2⟩)
    refine ⟨.ref s.heap.objs.size, _, I1, rfl, q _ o' us hD hvals (.inl ⟨o', ents, ⟨upd_same, ?_, td'⟩, ?_, hents2.symm⟩)⟩
    · exact beq_eq_false_iff_ne.mpr (Ne.symm (Nat.ne_of_lt I.big))
    · show _ = ents.map fun q => q.1.data
      rw [show (ps.map fun p => p.1.data) = (ps.map (·.1)).map NestedKey.data by rw [List.map_map]; rfl, ← hents1, List.map_map]
      rfl
end
end L2
namespace Va
open Classical
open PySem L2 PyProof.Rows PySem.W PySem.Calls
section
variable {α β : Type} [DecidableEq α] {e : α → PyData} {f : β → PyData} {K : PySem.W.Frag} {t : TA} {ρ : Env} {k : Kd}
theorem nodup_inj {γ δ : Type} {g : γ → δ} (h : ∀ a b, g a = g b → a = b) : ∀ {xs : List γ}, xs.Nodup → (xs.map g).Nodup
  | [], _ => List.nodup_nil
  | x :: xs, hn => by
    obtain ⟨h1, h2⟩ := List.nodup_cons.mp hn
    rw [List.map_cons]
    refine List.nodup_cons.mpr ⟨fun hm => ?_, nodup_inj h h2⟩
    obtain ⟨y, hy, e⟩ := List.mem_map.mp hm
    exact h1 (h _ _ e ▸ hy)
/-- a dict of pairs with keys all unlike -/
def dpO {κ : Type} [DecidableEq κ] (xs : List (κ × β)) : Option (List (κ × β)) := if (xs.map (·.1)).Nodup ∧ xs.length ≤ 1000000 then some xs else none
theorem pair_rp {H : Hp} {v : V} {x : List α} {y : β} {F : List Addr} [Flat e] [Flat f] (r : Rp K H v (E2 (ET e) f (x, y)) F) : ∃ T b w, v = .ref T ∧ SqT K H T [.ref b, w] ∧ Rp K H (.ref b) (ET e x) [] ∧ Rp K H w (f y) [] := by
  unfold E2 at r
  cases r with
  | tup hs rl =>
    rename_i T ys
    cases rl with
    | cons a bb =>
      rename_i v1 vs1 F1 G1
      cases bb with
      | cons c d =>
        rename_i v2 vs2 F2 G2
        cases d
        have h1 := a.flat (Flat.flat (e := ET e) x)
        have h2 := c.flat (Flat.flat (e := f) y)
        subst h1 h2
        obtain ⟨b, rfl⟩ : ∃ b, v1 = .ref b := by
          unfold ET at a
          cases a with
          | tup h _ => exact ⟨_, rfl⟩
        exact ⟨T, b, v2, rfl, hs.1, a, c⟩
theorem pairs_rp {H : Hp} [NPart e 0] [Flat e] [Flat f] : ∀ {xs : List (List α × β)} {vs : List V} {F : List Addr}, RpL K H vs (xs.map (E2 (ET e) f)) F → ∃ ps : List PEnt, vs = ps.map (fun p => V.ref p.2.2.2) ∧ (∀ p ∈ ps, SqT K H p.2.2.2 [.ref p.2.1, p.2.2.1] ∧ NK K H (.ref p.2.1) p.1 ∧ p.1.depth ≤ 8) ∧ ps.map (·.1) = xs.map (fun x => NPart.nk (e := ET e) x.1) ∧ RpL K H (ps.map (·.2.2.1)) (xs.map fun x => f x.2) []
  | [], vs, F, r => by
    cases r
    exact ⟨[], rfl, (fun _ h => by cases h), rfl, .nil⟩
  | x :: xs, vs, F, r => by
    rw [List.map_cons] at r
    cases r with
    | cons a b =>
      obtain ⟨x1, x2⟩ := x
      obtain ⟨T, bb, w, rfl, h1, h2, h3⟩ := pair_rp a
      obtain ⟨ps, rfl, p1, p2, p3⟩ := pairs_rp b
      have nk : NK K H (.ref bb) (NPart.nk (e := ET e) x1) := Rp.nk _ (by rw [NPart.data (e := ET e)]; exact h2) (NPart.ntx (e := ET e) x1)
      have dp := NPart.dep (e := ET e) x1
      refine ⟨(NPart.nk (e := ET e) x1, bb, w, T) :: ps, rfl, fun p hp => ?_, by rw [List.map_cons, p2]; rfl, ?_⟩
      · rcases List.mem_cons.mp hp with rfl | hp
        · exact ⟨h1, nk, Nat.le_trans dp (by decide)⟩
        · exact p1 p hp
      · have := RpL.cons h3 p3
        exact this
theorem p_dictP [NPart e 0] [Flat e] [Flat f] {xs zs : List (List α × β)} (ha : PA' K t ρ [.list (xs.map (E2 (ET e) f))] k) (h : dpO xs = some zs) : PV K (tCB (rDictP K) t) ρ (ED (ET e) f zs) (.mv []) := by
  unfold dpO at h
  split at h
  case isFalse => cases h
  rename_i hc
  cases h
  intro B AF σ H ρ' Fs d k' S eo Q q
  obtain ⟨e0, e1⟩ := pE_some eo
  subst e0
  cases e1
  refine ha B AF σ H _ Fs _ _ S pE_same _ fun vs H1 F g1 r1 o1 => ?_
  obtain ⟨v, rfl, rv⟩ := r1.one'
  cases rv with
  | lst hl rl =>
    rename_i a ys G
    obtain ⟨ps, rfl, p1, p2, p3⟩ := pairs_rp rl
    have hpl : ps.length = xs.length := by
      have := congrArg List.length p2
      simpa using this
    refine ⟨a, ps, rfl, .of hl, p1, ?_, by omega, fun D o us hD hv dA => ?_⟩
    · rw [p2, show (xs.map fun x => NPart.nk (e := ET e) x.1) = (xs.map (·.1)).map (NPart.nk (e := ET e)) by rw [List.map_map]; rfl]
      exact nodup_inj (NPart.inj (e := ET e)) hc.1
    · have hfl : H D = none := g1.back hD
      have gr : Grow H1 (upd H1 D (dX D o)) := .new hD
      have hk : (ps.map fun p => p.1.data) = (xs.map (·.1)).map (ET e) := by
        rw [show (ps.map fun p => p.1.data) = (ps.map (·.1)).map NestedKey.data by rw [List.map_map]; rfl, p2, List.map_map, List.map_map]
        exact List.map_congr_left fun x _ => NPart.data (e := ET e) x.1
      rw [hk] at dA
      have := dic_mk (ks := xs.map (·.1)) (bs := xs.map (·.2)) (kvs := xs) dA hv (by rw [List.map_map]; exact p3.grow gr) rfl rfl
      exact q _ _ [D] (g1.trans gr) this (.mv ⟨by simp, fun b hb => by rw [List.mem_singleton.mp hb]; exact .inl hfl⟩)
end
end Va

/-! Vh5: calls that leave a keyword to its default. -/
namespace Va
open Classical
open PySem L2 PyProof.Rows PySem.W PySem.Calls
structure Cld (P : Program) (w : World) (K : PySem.W.Frag) (mg : Str → Option Value) (base : Heap) (x : Str) (k n : Nat) (R : List PyData → PyData × Nat → Prop) (dvs : List V) : Prop where
  ex : ∃ (f : Addr) (fd : FuncData) (ps : List Str) (ds : List Value), FnOk P w K mg base CX0 k f fd ps (spR K n R) ∧ mg x = some (.ref f) ∧ PySem.W.keepIn K (.ref f) = true ∧ Binds K fd ps ds ∧ Vals dvs ds
theorem pe_callDf {X : Cx} {x : Str} {k j n : Nat} {m : List PyData → PyData × Nat → Prop} {dvs : List V} {e : Expr} {es : List Expr} {t : TA} {p pos : Pos} (C : Cld X.prog X.w X.K X.mg X.base x k n m dvs) (hr : Room j X.A) (hj : k ≤ j) (ha : PA X (e :: es) t)
    (hg : Gl X x := by rfl) (hd : (x == ("__debug__" : Str)) = false := by decide) (he : starEach (e :: es) X.env = (false, eval e X.env) :: starEach es X.env := by rfl)
    (hp : (backTo pos (starEach es X.env)).any (·.1) = false := by rfl) : PE X (.Call (.Name x p) (e :: es) [] pos) (tCall (spR X.K n m) dvs L2.E0 t) := by
  obtain ⟨f, fd, ps, ds, F, h1, h2, h3, h4⟩ := C.ex
  exact pe_call F (hr.mono hj) hg h1 h2 h3 h4 pass0 ha hd he hp
/-- the arguments and an int behind them -/
def tDfl (t : TA) (i : Int) : TA := fun σ H Q => t σ H fun vs H1 => Q (vs ++ [V.int i]) H1
variable {K : PySem.W.Frag} {ρ : Env} {t : TA} {k : Kd} {ds : List PyData} {d : PyData}
theorem a_dfl (ha : PA' K t ρ ds k) (i : Int) : PA' K (tDfl t i) ρ (ds ++ [.int i]) k := fun B AF σ H ρ' Fs ds' k' S e Q q => by
  obtain ⟨e0, e1⟩ := pE_some e
  subst e0
  cases e1
  refine ha B AF σ H _ Fs _ _ S pE_same _ fun vs H' F g r o => ?_
  have r' := RpL.app r (RpL.one (Rp.int i))
  rw [List.append_nil] at r'
  exact q _ H' F g r' o
theorem p_dfl {sp : Sp} {E : XK} {i : Int} (h : PV K (tCall sp [] E (tDfl t i)) ρ d k) : PV K (tCall sp [V.int i] E t) ρ d k := by
  have e : tCall sp [V.int i] E t = tCall sp [] E (tDfl t i) := by
    funext σ H Q
    show (t σ H fun vs H1 => sp (vs ++ [V.int i]) H1 Q E) = (t σ H fun vs H1 => sp ((vs ++ [V.int i]) ++ []) H1 Q E)
    simp only [List.append_nil]
  rw [e]
  exact h
end Va

/-! Vi1: sorted(set(xs)) for a list of ints; list(range(..)). -/
namespace L2
open PySem PySem.Spec PyProof.Rows
section
variable {P : Program} {w : World} {A : Around} {E : Value → Shared → Prop} {s : Shared}
/-- the set as it is made -/
abbrev newSet (w : World) : Obj := { cls := .type "set", dict := none, data := .set #[] 0 (.fresh 0 0 (!w.params.followText "set-order")) }
abbrev SetDone (w : World) (s : Shared) (ns : List Int) (s₂ : Shared) : Prop := ∃ h' tk c, s₂ = { s with heap := h', toks := tk } ∧ SetR w h' s.heap.objs.size (fun j => decide (j ∈ ns)) c ∧ c ≤ ns.length ∧ ∀ b o, s.heap.get? b = some o → h'.get? b = some o
set_option maxRecDepth 100000 in
theorem call_set_lstI {l : Addr} {items : Array Value} (ns : List Int) {Q : Value → Shared → Prop} (hh : A.handled = none) (hl : s.heap.IsList l items) (hit : IntsAre items.toList ns) (hb : ns.length + 1 < scanBound)
    (h : ∀ s₂, SetDone w s ns s₂ → Q (.ref s.heap.objs.size) s₂) :
    wpAny (model P w) A (call (.type "set") [.ref l]) Q E s := by
  have hsz : items.size = ns.length := by
    have q := IntsAre.length hit
    rwa [Array.length_toList] at q
  obtain ⟨c, tl, hmro⟩ := F.called_set.mro
  have hmade := F.called_set.made
  have hsub := F.called_set.sub
  have h1 := F.called_set.notType
  have h2 := F.called_set.canCreate
  have hct := F.typeCall_set_1 (.ref l)
  have h0 : (s.heap.push (newSet w)).get? s.heap.objs.size = some (newSet w) := Heap.get?_push_size _ rfl
  refine wpAny_call (codeAny_of_tree ?_)
  show wpAny _ _ (callAny (.type "set") _) _ _ _
  refine wpAny_pure ⟨Code.quiet_builtin _ (by decide +kernel), codeAny_builtin F.entry_type_call ?_⟩
  rw [Around.under_plain (weight_type_call_type "set" [.ref l] []) rfl]
  repeat (any_goals (first | assumption | wp_step))
  refine codeAny_mono (code_set_led1 (.ref l) (E := E) (Q₁ := fun obj s₁ => obj = .ref s.heap.objs.size ∧ s₁ = { s with heap := s.heap.push (newSet w) }) ⟨rfl, rfl⟩) fun r s₁ hr => ?_
  cases r with
  | error e => exact hr
  | ok fl =>
    cases fl with
    | ret obj =>
      obtain ⟨rfl, rfl⟩ := hr
      have hT : Shared.TypeIs { s with heap := s.heap.push (newSet w) } (.ref s.heap.objs.size) "set" := ⟨_, h0, rfl⟩
      have hli := F.called_set.init.lookup
      have hbi := F.called_set.init.bind (.ref s.heap.objs.size)
      repeat (any_goals (first | assumption | wp_step))
      refine codeAny_mono (codeAny_call_builtin (R := wants (fun r s₂ => r = .none ∧ SetDone w s ns s₂) E) F.called_set.init.plain F.entry_set_init (check_set_init_1 hT ?_)) fun r₂ s₂ hr₂ => ?_
      · obtain ⟨⟨c0, d0, dt, sl⟩, hol, hcl, nl, hdl⟩ := hl
        simp only at hcl hdl
        subst hcl; subst hdl
        have hlt : l < s.heap.objs.size := Heap.lt_size hol
        have hsls := F.sub_list_set
        have hslf := F.sub_list_frozenset
        have hne : (Value.type "list" == Value.type "dict") = false := by decide
        have hol' : (s.heap.push (newSet w)).get? l = some { cls := .type "list", dict := d0, data := .seq items nl, slots := sl } := Heap.get?_push_of_some _ hol
        have hl1 : (s.heap.push (newSet w)).IsList l items := ⟨_, hol', rfl, nl, rfl⟩
        have hps : (s.heap.push (newSet w)).objs.size = s.heap.objs.size + 1 := Heap.size_push ..
        have a1 : l ≠ s.heap.objs.size + 1 := Nat.ne_of_lt (Nat.lt_succ_of_lt hlt)
        have a2 : s.heap.objs.size ≠ s.heap.objs.size + 1 := Nat.ne_of_lt (Nat.lt_succ_self _)
        have a3 : s.heap.objs.size ≠ l := Nat.ne_of_gt hlt
        have hh3 : A.in1.in1.in1.handled = none := by simp [hh]
        unfold Builtin.«set.__init__» noKeywords Builtin.Frozenset.updateFrom
        generalize hPI : pyIter = PI
        wp_walk
        subst hPI
        refine wpAny_pyIter_list hl1 ?_
        refine wpAny_bind (wpAny_runValue ?_)
        refine set_update_ints ((Walks.list hh3 _ l (by rw [hps]; exact a1) items).toS) s.heap.objs.size (by
            rw [hps]
            simp only [List.mem_cons, List.not_mem_nil, or_false, not_or]
            exact ⟨a2, a3⟩) ns hsz hb (fun i v hv => by
            have hi : i < ns.length := by rw [← hsz]; exact (Array.getElem?_eq_some_iff.mp hv).1
            obtain ⟨t, e⟩ := IntsAre.int_at hit i v (by rw [Array.getElem?_toList]; exact hv)
            refine ⟨ns[i], t, List.getElem?_eq_getElem hi, ?_⟩
            rw [e, List.getD_eq_getElem?_getD, List.getElem?_eq_getElem hi] <;> rfl) (items.size - 0) 0 _ (by omega) (Nat.zero_le _)
          ⟨⟨_, Heap.get?_push_size _ rfl, rfl, rfl⟩, hl1.push _⟩ ⟨0, Nat.le_refl 0, setR_new_at (Heap.get?_push_of_some _ h0)⟩ ?_
        rintro ⟨h', g2, d', tk', os'⟩ c' hm hc' hS'
        have eg : g2 = s.gens := hm.gens
        have ed : d' = s.drawn := hm.drawn
        have eo : os' = s.os := hm.os
        subst eg ed eo
        show wpAny _ _ _ _ _ _
        refine wpAny_pure ?_
        show wpAny _ _ (ret Value.none) _ _ _
        rw [hsz] at hc'
        refine wpAny_pure ⟨rfl, h', tk', c', rfl, hS', hc', fun b o e => ?_⟩
        have hb0 : b < s.heap.objs.size := Heap.lt_size e
        exact hm.heap b o (by
          rw [hps]
          simp only [List.mem_cons, List.not_mem_nil, or_false, not_or]
          exact ⟨Nat.ne_of_lt hb0, Nat.ne_of_lt (Nat.lt_succ_of_lt hb0)⟩) (Heap.get?_push_of_some _ (Heap.get?_push_of_some _ e))
      · cases r₂ with
        | error e => exact hr₂
        | ok fl₂ =>
          cases fl₂ with
          | ret r =>
            obtain ⟨rfl, hd⟩ := hr₂
            repeat (any_goals (first | assumption | wp_step))
            exact h _ hd
          | _ => exact hr₂.elim
    | _ => exact hr.elim
end
variable {X : Cx}
/-- set(xs), xs a list of ints -/
def rSetLI (K : PySem.W.Frag) (w : World) : List V → Hp → VK → Prop := fun xs H Q => ∃ (p : Addr) (ns : List Int), xs = [.ref p] ∧ SqL K H p (ns.map V.int) ∧ ns.length ≤ 1000 ∧
  ∀ (q : Addr) (c : Nat), H q = none → c ≤ ns.length → Q (.ref q) (upd H q (SetO w q (fun j => decide (j ∈ ns)) c))
theorem cr_setLI (hc : X.calm = true) : CallR X (.type "set") (rSetLI X.K X.w) := by
  intro pins s σ H xs us Q I r h
  obtain ⟨p, ns, rfl, hq, hl, q⟩ := h
  obtain ⟨u, rfl, rx⟩ := vals1 r
  cases rx
  obtain ⟨its, rv, ⟨⟨cls, dd, data, sl⟩, n, ho, hc', hdn, hd⟩, hlen⟩ := I.list hq
  simp only at hc' hd
  subst hc' hd
  have hi : IntsAre its.toArray.toList ns := ints_of_vals rv
  refine call_set_lstI ns (I.ok.hd hc) (show s.heap.IsList p its.toArray from ⟨_, ho, rfl, n, rfl⟩) hi (by unfold scanBound; omega) fun s2 ⟨h', tk, c, e2, R1, hcn, k⟩ => ?_
  subst e2
  exact ⟨.ref _, upd H s.heap.objs.size (SetO X.w s.heap.objs.size (fun j => decide (j ∈ ns)) c), I.laid (t' := tk) (fun b u e => k b u e) (Nat.le_refl _) (setO_new R1), rfl, q _ _ (I.hok.fresh (Nat.le_refl _)) hcn⟩
end L2
namespace Va
open PySem L2 PyProof.Rows PySem.W PySem.Calls
section
variable {K : PySem.W.Frag} {te ta : TE} {ρ : Env} {k k2 : Kd}
theorem rpL_ints {H : Hp} : ∀ {ys : List Int} {vs : List V} {F : List Addr}, RpL K H vs (ys.map PyData.int) F → vs = ys.map V.int
  | [], vs, F, r => by cases r; rfl
  | y :: ys, vs, F, r => by
    cases r with
    | cons a b => cases a; rw [rpL_ints b]; rfl
theorem p_sortedSetL {w : World} {xs : List Int} {u : Unit} (h1 : PV K te ρ (.list (xs.map .int)) k) (h : chk (decide (xs.length < 64)) = some u) : PV K (tCB (rSortedSet w) (tCons (tCB (rSetLI K w) (tCons te tNil)) tNil)) ρ (.list ((setO' xs).map .int)) (.mv []) := by
  have hl : xs.length < 64 := by simpa using chk_some h
  intro B AF σ H ρ' Fs d k' S eo Q q
  obtain ⟨e0, e1⟩ := pE_some eo
  subst e0
  cases e1
  refine h1 B AF σ H _ Fs _ _ S pE_same _ fun v H1 F g1 r1 o1 => ?_
  cases r1 with
  | lst ht rl =>
    have := rpL_ints rl
    subst this
    refine ⟨_, xs, rfl, .of ht, by omega, fun q' c hq' hc => ?_⟩
    refine ⟨q', _, c, rfl, upd_same, by omega, fun ns p hp hmem hlen hp0 => ?_⟩
    have e : ns = setO' xs := sorted_one hp (setO'_lt xs) fun k => by rw [hmem k, mem_setO', decide_eq_true_eq]
    subst e
    have hHp : H p = none := by
      have := hp0
      by_cases hpq : p = q'
      · subst hpq; rw [upd_same] at this; cases this
      · rw [upd_ne hpq] at this; exact g1.back this
    refine q _ _ [p] ((g1.trans (.new hq')).trans (.new hp0)) ?_ (.mv ⟨by simp, fun a ha => by rcases List.mem_singleton.mp ha with rfl; exact .inl hHp⟩)
    have := Rp.lst (K := K) (H := upd (upd H1 q' (SetO w q' (fun j => decide (j ∈ xs)) c)) p (.lst ((setO' xs).map V.int))) upd_same (rp_ints (setO' xs))
    exact this
/-- a list of things as a list of what encodes alike -/
theorem p_upM {α β : Type} {e : α → PyData} {e' : β → PyData} {g : α → β} {xs : List α} (hg : ∀ x, e' (g x) = e x) (h : PV K te ρ (EL e xs) k) : PV K te ρ (EL e' (xs.map g)) k := by
  have : EL e' (xs.map g) = EL e xs := by
    unfold EL
    rw [List.map_map]
    exact congrArg PyData.list (List.map_congr_left fun x _ => hg x)
  rw [this]
  exact h
/-- list(range(a, b)) -/
def lrgO (a b : Int) : Option (List Int) := if 0 ≤ a ∧ a ≤ 16777216 ∧ 0 ≤ b ∧ b ≤ 16777216 then some (rangeI a (b - a).toNat) else none
theorem rgV_range {a b : Int} : rgV a b = (rangeI a (b - a).toNat).map V.int := by
  unfold rgV rangeI
  rw [List.map_map]
  rfl
theorem p_listRg1 {b : Int} {zs : List Int} (h1 : PV K te ρ (.int b) k) (h : lrgO 0 b = some zs) : PV K (tLstRg (tRg1 te)) ρ (.list (zs.map .int)) (.mv []) := by
  unfold lrgO at h
  split at h
  · rename_i hb
    cases h
    intro B AF σ H ρ' Fs d k' S eo Q q
    obtain ⟨e0, e1⟩ := pE_some eo
    subst e0
    cases e1
    refine h1 B AF σ H _ Fs _ _ S pE_same _ fun v H1 F g1 r1 o1 => ?_
    cases r1
    refine ⟨b, rfl, RgOk.of_le (by omega) (by omega) (by omega) (by omega), fun p hp0 => ?_⟩
    rw [rgV_range]
    refine q _ _ [p] (g1.trans (.new hp0)) (Rp.lst upd_same (rp_ints _)) (.mv ⟨by simp, fun a ha => by rcases List.mem_singleton.mp ha with rfl; exact .inl (g1.back hp0)⟩)
  · cases h
theorem p_listRg2 {a b : Int} {zs : List Int} (h1 : PV K te ρ (.int a) k) (h2 : PV K ta ρ (.int b) k2) (h : lrgO a b = some zs) : PV K (tLstRg (tRg2 te ta)) ρ (.list (zs.map .int)) (.mv []) := by
  unfold lrgO at h
  split at h
  · rename_i hb
    cases h
    intro B AF σ H ρ' Fs d k' S eo Q q
    obtain ⟨e0, e1⟩ := pE_some eo
    subst e0
    cases e1
    refine h1 B AF σ H _ Fs _ _ S pE_same _ fun v H1 F g1 r1 o1 => ?_
    cases r1
    refine h2 B AF σ H1 _ Fs _ _ (S.grow g1) pE_same _ fun v2 H2 F2 g2 r2 o2 => ?_
    cases r2
    refine ⟨a, b, rfl, rfl, RgOk.of_le (by omega) (by omega) (by omega) (by omega), fun p hp0 => ?_⟩
    rw [rgV_range]
    refine q _ _ [p] ((g1.trans g2).trans (.new hp0)) (Rp.lst upd_same (rp_ints _)) (.mv ⟨by simp, fun a ha => by rcases List.mem_singleton.mp ha with rfl; exact .inl ((g1.trans g2).back hp0)⟩)
  · cases h
end
end Va

/-! Vi2: abs, gcd, tuples of a module. -/
namespace Va
open PySem L2 PyProof.Rows PySem.W PySem.Calls
section
variable {K : PySem.W.Frag} {t ta tb : TA} {te te2 : TE} {ρ : Env} {k k2 : Kd}
def hAbs : List PyData → Option PyData
  | [.int i] => some (.int (if i < 0 then -i else i))
  | _ => none
theorem vf_abs : VFf K (fun xs H Q => ∃ i, xs = [.int i] ∧ Q (.int (if i < 0 then -i else i)) H) hAbs := by
  intro H vs ds F d r e Q q
  unfold hAbs at e
  split at e
  · cases e
    cases r with
    | cons a b => cases a; cases b; exact ⟨_, rfl, q _ H (.refl H) (.int _)⟩
  · cases e
def gcdI (a b : Int) : Int := ((Nat.gcd a.natAbs b.natAbs : Nat) : Int)
def hGcd : List PyData → Option PyData
  | [.int i, .int j] => some (.int (gcdI i j))
  | _ => none
theorem vf_gcd : VFf K rGcd hGcd := by
  intro H vs ds F d r e Q q
  unfold hGcd at e
  split at e
  · cases e
    cases r with
    | cons a b =>
      cases a
      cases b with
      | cons a b => cases a; cases b; exact ⟨_, _, rfl, q _ H (.refl H) (.int _)⟩
  · cases e
/-- products of great numbers -/
def mulW (x y : Int) : Option Int := if x.natAbs.log2 + y.natAbs.log2 < 1000000 then some (x * y) else none
def hMulW : List PyData → Option PyData := hII (fun i j => decide (i.natAbs.log2 + j.natAbs.log2 < 1000000)) fun i j => .int (i * j)
theorem vf_mulW : VFf K (r2l (rI CMulW fun i j => .int (i * j))) hMulW := vf_II (fun i j h => show i.natAbs.log2 + j.natAbs.log2 < 1000000 from of_decide_eq_true h) fun _ _ => rfl
theorem p_mulW {x y z : Int} (h1 : PV K te ρ (.int x) k) (h2 : PV K te2 ρ (.int y) k2) (h : mulW x y = some z) : PV K (tOp (rI CMulW fun i j => .int (i * j)) te te2) ρ (.int z) (.mv []) := p_opF vf_mulW h1 h2 (by
  unfold mulW at h
  split at h
  · rename_i hm
    cases h
    unfold hMulW hII
    simp [hm]
  · cases h)
theorem mulW_of {x y : Int} {a b : Nat} (hx : x.natAbs < 2 ^ a) (hy : y.natAbs < 2 ^ b) (h : a + b ≤ 1000000) (ha : 0 < a) (hb : 0 < b) : mulW x y = some (x * y) := if_pos (wide_mul hx hy ha hb h)
/-- a tuple of ints that a module holds -/
def TupC (K : PySem.W.Frag) (a : Addr) (ns : List Int) : Prop := ∃ (o : Obj) (its : Array Value) (n : Nat), K.lookup a = some o ∧ o.cls = .type "tuple" ∧ o.dict = none ∧ o.data = .seq its n ∧ its.size ≤ sizeLine ∧ Vals (ns.map V.int) its.toList
theorem p_gtup {a : Addr} {ns : List Int} (h : TupC K a ns) : PV K (tC (.ref a)) ρ (.tuple (ns.map .int)) (.mv []) := by
  intro B AF σ H ρ' Fs d k' S eo Q q
  obtain ⟨e0, e1⟩ := pE_some eo
  subst e0
  cases e1
  obtain ⟨o, its, n, h1, h2, h3, h4, h5, h6⟩ := h
  exact q _ H [] (.refl H) (.tup ⟨.inr ⟨o, its, n, h1, h2, h4, h5, h6⟩, .inr ⟨o, h1, h3⟩⟩ (rp_ints ns)) .nil
theorem tupC2 {a : Addr} {i j : Int} {t1 t2 : Tok} {n : Nat} {sl : Array (Option Value)} (h : K.lookup a = some ⟨.type "tuple", none, .seq #[.int i t1, .int j t2] n, sl⟩) : TupC K a [i, j] :=
  ⟨_, _, n, h, rfl, rfl, rfl, (by show 2 ≤ sizeLine; decide), .cons ⟨t1, rfl⟩ (.cons ⟨t2, rfl⟩ .nil)⟩
end
end Va

/-! Vi3: name = {k: v for ..} on one line, the name a local. -/
namespace Va
open Classical
open PySem L2 PyProof.Rows PySem.W PySem.Calls
section
variable {X : Cx} {kx vx tg iter : Expr} {ifs : List Expr} {scope : Scope} {own : List (Str × Nat)} {pos : Pos} {wi : TI} {g : TG} {tt : TT} {tk tv : TE}
theorem dc_core {pins : List (Addr × Obj)} {s : Shared} {σ : L2.St} {H : Hp} {Q : VK} {pos' : Pos} {use : Option (Value → Sem Unit)} {Qf : Value → Shared → Prop} (hu : X.A.units + 65 < cLine) (hc : X.calm = true) (hN : X.N.Nodup) (I : Inv X pins σ H s) (hi : PI X tg iter wi) (ok : BlkOk X.N X.env.scope scope own)
    (hg : ∀ (s : Shared) (H : Hp) (C : Addr) (cl : List (Str × Addr)) (fp : List Addr), PG (X.blk s H scope (compEnvC scope cl C X.env) fp) tg g) (ht : ∀ (s : Shared) (H : Hp) (C : Addr) (cl : List (Str × Addr)) (fp : List Addr), PTs (X.blk s H scope (compEnvC scope cl C X.env) fp) ifs tt)
    (hk : ∀ (s : Shared) (H : Hp) (C : Addr) (cl : List (Str × Addr)) (fp : List Addr), PE (X.blk s H scope (compEnvC scope cl C X.env) fp) kx tk) (hv : ∀ (s : Shared) (H : Hp) (C : Addr) (cl : List (Str × Addr)) (fp : List Addr), PE (X.blk s H scope (compEnvC scope cl C X.env) fp) vx tv)
    (hs : ∀ x, foldedSetIterable iter X.env x = pure x) (h : tDcX X.K wi g tt tk tv (own.map (·.2)) σ H Q)
    (hRR : ∀ D C s' m H', Inv X pins σ H' s' → Q (.ref D) H' → s'.heap.Ns C m → FpOk X pins H' C → compPost (model X.prog X.w) X.A X.xe use Qf (.ref D) C (.ok .next) s') :
    wpAny (model X.prog X.w) X.A (comprehension (.DictComp kx vx [⟨tg, iter, ifs, 0⟩] scope pos) scope X.env pos' newDict false (eval iter X.env) use) Qf X.xe s := by
  have clos : ∀ y ∈ scope.names, y.2 = .free → ∃ c, X.env.cells.lookup y.1 = some c := fun y hy e => (ok.free y hy e).elim (fun z => I.ok.has _ (.inl z)) fun z => I.ok.has _ (.inr z)
  refine wpAny_comprehension_free (use := use) rfl hs (closure_ok clos) ok.kind (fun y hy e => by rw [ok.uniq y hy, e]) (thn (hi.run pins s σ H _ I h) fun _ _ hit => thn hit fun _ s2 ⟨it, fp, tn, J, H2, ei, I2, T, st, hf, q⟩ => ?_)
  subst ei
  refine wpAny_newObj_type (newEnv_comp ?_)
  obtain ⟨D, hD⟩ : ∃ D, D = s2.heap.objs.size := ⟨_, rfl⟩
  obtain ⟨o0, ho0⟩ : ∃ o0 : Obj, o0 = { cls := .type "dict", data := .dict #[] } := ⟨_, rfl⟩
  obtain ⟨s3, hs3⟩ : ∃ s3 : Shared, s3 = { s2 with heap := s2.heap.push o0 } := ⟨_, rfl⟩
  have keep3 : ∀ b o, s2.heap.get? b = some o → s3.heap.get? b = some o := fun b o e => by rw [hs3]; exact Heap.get?_push_of_some _ e
  have atD : s3.heap.get? D = some o0 := by rw [hs3, hD]; exact Heap.get?_push_size _ (by rw [ho0]; rfl)
  have hDn : H2 D = none := I2.hok.fresh (Nat.le_of_eq hD.symm)
  obtain ⟨H3, hH3⟩ : ∃ H3, H3 = upd H2 D (dX D o0) := ⟨_, rfl⟩
  have d0 : DicAt X.K H3 D [] [] := by
    refine .inl ⟨o0, [], ⟨by rw [hH3]; exact upd_same, ?_, ?_⟩, rfl, rfl⟩
    · rw [hD]; exact beq_eq_false_iff_ne.mpr (Ne.symm (Nat.ne_of_lt I2.big))
    · rw [ho0]; exact ⟨⟨rfl, rfl, rfl⟩, ⟨#[], 0, rfl, fun _ => rfl⟩, List.nodup_nil, Nat.zero_le _, fun _ h => nomatch h⟩
  obtain ⟨W, ⟨m0, w0'⟩, turn⟩ := q D o0 hDn (by rw [← hH3]; exact d0)
  rw [← hH3] at w0'
  have I3 : Inv X pins σ H3 s3 := by
    rw [hH3, hs3]
    exact I2.laid (t' := s2.toks) (fun b o e => Heap.get?_push_of_some _ e) (Nat.le_of_eq hD.symm) (dX_ok (by rw [hD]; exact Heap.get?_push_size _ (by rw [ho0]; rfl)))
  have lt3 : ∀ b ∈ fp, b < s2.heap.objs.size := fun b hb => let ⟨_, e, _⟩ := T.obj _ _ st b hb; Heap.lt_size e
  have hf3 : ∀ b ∈ fp, FpOk X pins H3 b ∧ b < s3.heap.objs.size := fun b hb => by
    refine ⟨⟨?_, (hf b hb).2⟩, by rw [hs3, Heap.size_push]; exact Nat.lt_succ_of_lt (lt3 b hb)⟩
    rw [hH3, upd_ne (by rw [hD]; exact Nat.ne_of_lt (lt3 b hb))]
    exact (hf b hb).1
  have st3 : tn 0 s3.heap := T.keep _ _ _ st fun b _ o e => keep3 b o e
  have I4 := block_start I3 ok hN hf3
  have pg := fun C cl => hg s3 H3 C cl fp
  have pt := fun C cl => ht s3 H3 C cl fp
  have pk := fun C cl => hk s3 H3 C cl fp
  have pv := fun C cl => hv s3 H3 C cl fp
  obtain ⟨ce, hce⟩ : ∃ ce, ce = compEnvC scope (cellsFrom (s3.heap.objs.size + 1) scope.names (cloFrom X.env.cells scope.names [])) s3.heap.objs.size X.env := ⟨_, rfl⟩
  have cL : ce.locals = s3.heap.objs.size := by rw [hce]; rfl
  have pg' : PG (X.blk s3 H3 scope ce fp) tg g := by rw [hce]; exact pg _ _
  have pt' : PTs (X.blk s3 H3 scope ce fp) ifs tt := by rw [hce]; exact pt _ _
  have pk' : PE (X.blk s3 H3 scope ce fp) kx tk := by rw [hce]; exact pk _ _
  have pv' : PE (X.blk s3 H3 scope ce fp) vx tv := by rw [hce]; exact pv _ _
  rw [← hce] at I4
  obtain ⟨s4, hs4⟩ : ∃ s4 : Shared, s4 = { s3 with heap := pushCells (s3.heap.push { cls := .type "dict", data := .dict #[] }) scope.names } := ⟨_, rfl⟩
  rw [← hs4] at I4
  have st4 : tn 0 s4.heap := T.keep _ _ _ st3 fun b _ o e => by rw [hs4]; exact pushCells_keeps _ _ _ _ (Heap.get?_push_of_some _ e)
  have goal : codeAny (model X.prog X.w) X.A (.compStart (.DictComp kx vx [⟨tg, iter, ifs, 0⟩] scope pos) 0 (.ref it) (.ref D) ce) (compPost (model X.prog X.w) X.A X.xe use Qf (.ref D) s3.heap.objs.size) s4 := by
    have fpB : ∀ {σ' : L2.St} {H' : Hp} {s' : Shared}, Inv (X.blk s3 H3 scope ce fp) [] σ' H' s' → (∀ b ∈ fp, H' b = none) → ∀ b ∈ fp, FpOk (X.blk s3 H3 scope ce fp) [] H' b := fun {σ' H' s'} IB nb b hb =>
      ⟨nb b hb, (IB.ok.exf b hb).1, IB.ok.exfs b hb, .inl hb, (IB.ok.exf b hb).2, fun p hp => by simp at hp⟩
    have huB : (X.blk s3 H3 scope ce fp).A.units + 65 < cLine := hu
    have lp : codeAny (model X.prog X.w) X.A (.compLoop (.DictComp kx vx [⟨tg, iter, ifs, 0⟩] scope pos) 0 (.ref it) (.ref D) ce) (compPost (model X.prog X.w) X.A X.xe use Qf (.ref D) s3.heap.objs.size) s4 := by
      refine compLoop_anyD (fun n s' => ∃ i H', Inv (X.blk s3 H3 scope ce fp) [] (wipe σ (own.map (·.2))) H' s' ∧ tn i s'.heap ∧ (∀ b ∈ fp, H' b = none) ∧ W i n H') ?_ m0 ⟨0, H3, I4, st4, fun b hb => (hf3 b hb).1.1, w0'⟩
      rintro n s5 ⟨i, H5, I5, st5, n5, w5⟩
      rcases turn i n H5 w5 with ⟨stop, done⟩ | ⟨go, Nx, hNx, step⟩
      · refine thnF (T.done (X.blk s3 H3 scope ce fp) rfl rfl rfl hc i [] s5 _ H5 (fun _ _ => False) I5 (fpB I5 n5) st5 stop) fun r s6 ⟨er, I6⟩ => ?_
        subst er
        have I7 : Inv X pins σ H5 s6 := I3.call' (ch := fp) I6.os I6.base I6.hok I6.bare fun b hb => ⟨(hf3 b hb).1.2.2.2.1, (hf3 b hb).1.2.1, (hf3 b hb).1.2.2.2.2.1, (hf3 b hb).1.2.2.2.2.2⟩
        have nC : H5 s3.heap.objs.size = none := by
          have z : H5 ce.locals = none := I6.free
          rwa [cL] at z
        obtain ⟨m, hm, _⟩ := I6.loc
        have hm' : s6.heap.Ns ce.locals m := hm
        rw [cL] at hm'
        exact hRR D s3.heap.objs.size s6 m H5 I7 done hm' (I3.fpOk (Nat.le_refl _) nC)
      · refine thnF (T.item (X.blk s3 H3 scope ce fp) rfl rfl rfl hc i [] s5 _ H5 (fun _ _ => False) I5 (fpB I5 n5) st5 go) fun r s6 ⟨u, er, more⟩ => ?_
        subst er
        refine thnF more fun _ s7 ⟨x, H7, I7, r7, y7, st7, n7⟩ => ?_
        have I7' := I7.pinned (fpB I7 n7) (T.obj _ _ st7)
        refine thnF (pg'.run _ s7 _ H7 x u _ I7' r7 (step x H7 y7)) fun _ s8 ⟨σ8, H8, I8, hw, q8⟩ => ?_
        refine thnF (pt'.run _ s8 σ8 H8 _ I8 q8) fun b s9 ⟨H9, I9, q9⟩ => ?_
        have next : ∀ {s' : Shared} {H' : Hp}, Inv (X.blk s3 H3 scope ce fp) ([] ++ pinsAt fp s7.heap) σ8 H' s' → Nx H' → ∃ m, m < n ∧ ∃ i H', Inv (X.blk s3 H3 scope ce fp) [] (wipe σ (own.map (·.2))) H' s' ∧ tn i s'.heap ∧ (∀ b ∈ fp, H' b = none) ∧ W i m H' := fun {s' H'} IB nx => by
          obtain ⟨m', lt, w'⟩ := hNx H' nx
          have pinned : ∀ b ∈ fp, ∀ o, s7.heap.get? b = some o → s'.heap.get? b = some o ∧ H' b = none := fun b hb o e =>
            let z := IB.pin (b, o) (List.mem_append_right _ (List.mem_append_right _ (mem_pinsAt hb e)))
            ⟨z.1, z.2.1⟩
          refine ⟨m', lt, i + 1, H', (IB.unpinned (pins := [])).weak (by rw [← hw, wipe_length]) (fun j v e => (wipe_some (by rw [← hw] at e; exact e)).1), T.keep _ _ _ st7 fun b hb o e => (pinned b hb o e).1, fun b hb => ?_, w'⟩
          obtain ⟨o, e, _⟩ := T.obj _ _ st7 b hb
          exact (pinned b hb o e).2
        cases b with
        | false =>
          simp only [Bool.false_eq_true, if_false] at q9 ⊢
          exact next I9 q9
        | true =>
          simp only [if_true] at q9 ⊢
          refine thnF (pk'.run _ s9 σ8 H9 _ I9 q9) fun _ s10 ⟨y, H10, I10, r10, q10⟩ => ?_
          refine thnF (pv'.run _ s10 σ8 H10 _ I10 q10) fun _ s11 ⟨z, H11, I11, r11, q11⟩ => ?_
          exact dset_dc (X := X.blk s3 H3 scope ce fp) huB I11 r10 r11 q11 fun s12 H12 I12 nx => next I12 nx
    exact codeAny_compStart_dict lp (T.self X.A 0 _ _ _ st4 lp)
  rw [hs4, hce, hs3, ho0, hD] at goal
  exact goal
theorem ps_setDcx {i : Nat} {y : Str} {py spos : Pos} (hu : X.A.units + 65 < cLine) (hc : X.calm = true) (hN : X.N.Nodup) (hy : X.N[i]? = some y) (hyl : X.env.scope.names.lookup y = some .local)
    (hsw : swapsWith (.DictComp kx vx [⟨tg, iter, ifs, 0⟩] scope pos) (some (.Name y py)) spos.line X.env = pure true) (hi : PI X tg iter wi) (ok : BlkOk X.N X.env.scope scope own)
    (hg : ∀ (s : Shared) (H : Hp) (C : Addr) (cl : List (Str × Addr)) (fp : List Addr), PG (X.blk s H scope (compEnvC scope cl C X.env) fp) tg g) (ht : ∀ (s : Shared) (H : Hp) (C : Addr) (cl : List (Str × Addr)) (fp : List Addr), PTs (X.blk s H scope (compEnvC scope cl C X.env) fp) ifs tt)
    (hk : ∀ (s : Shared) (H : Hp) (C : Addr) (cl : List (Str × Addr)) (fp : List Addr), PE (X.blk s H scope (compEnvC scope cl C X.env) fp) kx tk) (hv : ∀ (s : Shared) (H : Hp) (C : Addr) (cl : List (Str × Addr)) (fp : List Addr), PE (X.blk s H scope (compEnvC scope cl C X.env) fp) vx tv)
    (hs : ∀ x, foldedSetIterable iter X.env x = pure x := by intro _; rfl) :
    PS X (.Assign [.Name y py] (.DictComp kx vx [⟨tg, iter, ifs, 0⟩] scope pos) spos) (tAsg (tDcX X.K wi g tt tk tv (own.map (·.2))) (gName i)) := by
  refine ⟨fun pins s σ H D I h => ?_⟩
  rw [exec_Assign_Name_used _ _ _ _ hsw]
  refine wpAny_bind (wpAny_standAt (wpAny_bind ?_))
  show wpAny _ X.A (do let _ ← comprehension (.DictComp kx vx [⟨tg, iter, ifs, 0⟩] scope pos) scope X.env (firstIterPos [⟨tg, iter, ifs, 0⟩] pos) newDict false (eval iter X.env) (some (assign (.Name y py) X.env))) _ _ s
  have h : tDcX X.K wi g tt tk tv (own.map (·.2)) σ H (fun x H1 => gName i x σ H1 D.nx) := h
  refine wpAny_bind (thn (dc_core (Qf := fun _ s' => SP X pins D .next s') hu hc hN I hi ok hg ht hk hv hs h fun L C s' m H' I' q hn f => ?_) fun _ s' hq => wpAny_pure (wpAny_pure hq))
  show wpAny _ _ (assign (.Name y py) X.env (.ref L)) _ _ _
  refine wpAny_assign_Name (store_ok2 (v := V.ref L) I' hN hy (.inl hyl) rfl (fun s2 I2 ⟨a, sb, ha⟩ => ?_) (.inr hyl))
  obtain ⟨f0, f1, f2, f3, f4, f5⟩ := f
  have haC : C ≠ a := by
    rcases ha with z | z
    · rw [z]; exact f1
    · exact fun e => f4 y a z e.symm
  refine ⟨m, hn.sameBut sb haC, fun h3 sb3 => ?_⟩
  exact ⟨_, H', I2.turned (t' := s2.toks) (fun b o hb e => (sb3.2 b hb).trans e) f0 f1 f3 f4 f5, q⟩
theorem sw_trueD {kx vx : Expr} {gs : List Comprehension} {scope : Scope} {pos py : Pos} {y : Str} {l : Nat} {env : PySem.Env} (hk : env.scope.kind = .function) (hy : env.scope.names.lookup y = some .local) (hl : (py.line == pos.line) = true)
    (ha : (scope.names.any fun (n, k) => n == y && (k == .local || k == .cell)) = false) : swapsWith (.DictComp kx vx gs scope pos) (some (.Name y py)) l env = pure true := by
  have ky : env.kindOf y = some .local := hy
  have hb : env.blockKind = .function := by unfold Env.blockKind; rw [hk]; rfl
  unfold swapsWith
  simp only [hb, ky, ha, Expr.pos, hl]
  rfl
end
end Va

/-! Vm1: texts: split, signs one by one, s[i], c in s, int(s). -/
namespace Va
open Classical
open PySem L2 PyProof.Rows PySem.W PySem.Calls
/-- the signs of a text -/
def chrs (a : Str) : List Str := a.cps.toList.map fun c => ⟨#[c]⟩
def splitO (a b : Str) : Option (List Str) := if (b.length == 0) = false ∧ a.length + 2 ≤ 1000000 then some (Txt.split a b) else none
def atS (z : Str) (i : Int) : Option Str := if 0 ≤ i ∧ i < 2 ^ 63 ∧ i < z.length then z.cps[i.toNat]?.map fun c => ⟨#[c]⟩ else none
/-- is the sign in the text -/
def inS (x z : Str) : Option Bool := if x.cps.size = 1 then x.cps[0]?.map fun c => decide (c ∈ z.cps.toList) else none
def intS (a : Str) : Option Int := if a.length ≤ 640 then PySem.intText? a else none
section
variable {K : PySem.W.Frag} {ρ : Env} {ta tb te to : TE} {t : TA} {k k1 k2 : Kd} {a b : Str}
theorem str_inv {H : Hp} {v : V} {F : List Addr} (r : Rp K H v (.str a) F) : v = .str a ∧ F = [] := by
  cases r
  exact ⟨rfl, rfl⟩
theorem int_inv {H : Hp} {v : V} {F : List Addr} {i : Int} (r : Rp K H v (.int i) F) : v = .int i ∧ F = [] := by
  cases r
  exact ⟨rfl, rfl⟩
theorem rpl_strs {H : Hp} : ∀ {xs : List Str}, RpL K H (xs.map V.str) (xs.map PyData.str) []
  | [] => .nil
  | x :: xs => by
    have := RpL.cons (K := K) (H := H) (Rp.str x) (rpl_strs (xs := xs))
    exact this
theorem p_split {zs : List Str} (h1 : PV K to ρ (.str a) k1) (h2 : PV K te ρ (.str b) k2) (h : splitO a b = some zs) :
    PV K (tM1 (fun x xs H Q => ∃ a b, x = .str a ∧ xs = [.str b] ∧ (b.length == 0) = false ∧ a.length + 2 ≤ sizeLine ∧ rNewStrs (Txt.split a b) H Q) to te) ρ (.list (zs.map PyData.str)) (.mv []) := by
  unfold splitO at h
  split at h
  case isFalse => cases h
  rename_i hc
  cases h
  intro B AF σ H ρ' Fs d k' S eo Q q
  obtain ⟨e0, e1⟩ := pE_some eo
  subst e0
  cases e1
  refine h1 B AF σ H _ Fs _ _ S pE_same _ fun v H1 F g1 r1 o1 => ?_
  obtain ⟨rfl, rfl⟩ := str_inv r1
  refine ⟨⟨_, rfl⟩, h2 B AF σ H1 _ Fs _ _ (S.grow g1) pE_same _ fun w H2 F2 g2 r2 o2 => ?_⟩
  obtain ⟨rfl, rfl⟩ := str_inv r2
  refine ⟨a, b, rfl, rfl, hc.1, Nat.le_trans hc.2 line_ge, fun p hp => ?_⟩
  have g12 := g1.trans g2
  exact q _ _ [p] (g12.trans (.new hp)) (.lst upd_same rpl_strs) (.mv ⟨by simp, fun c hc => by rw [List.mem_singleton.mp hc]; exact .inl (g12.back hp)⟩)
theorem i_str (h : PV K te ρ (.str a) k) : PI' K (iStr te) ρ ((chrs a).map PyData.str) (.mv []) := by
  intro B AF σ H ρ' Fs ds k' S eo R q
  obtain ⟨e0, e1⟩ := pE_some eo
  subst e0
  cases e1
  refine h B AF σ H _ Fs _ _ S pE_same _ fun v H1 F g1 r1 o1 => ?_
  obtain ⟨rfl, rfl⟩ := str_inv r1
  refine ⟨a, rfl, q (Its a) H1 [] g1 ⟨fun c hc => (nomatch hc), fun H' e i d hd => ?_, fun H' e i hi => ?_⟩ fun c hc => (nomatch hc)⟩
  · have hd' : ((chrs a)[i]?).map PyData.str = some d := by rw [← List.getElem?_map]; exact hd
    obtain ⟨x, hx, rfl⟩ := Option.map_eq_some_iff.mp hd'
    unfold chrs at hx
    rw [List.getElem?_map] at hx
    obtain ⟨c, hc, rfl⟩ := Option.map_eq_some_iff.mp hx
    have hlt : i < a.cps.size := by
      have := (List.getElem?_eq_some_iff.mp hc).1
      simpa using this
    refine ⟨hlt, fun y H'' ⟨e1, c', hc', e2⟩ => ?_⟩
    subst e1 e2
    have : c' = c := by
      rw [← Array.getElem?_toList, hc] at hc'
      exact (Option.some.inj hc').symm
    subst this
    exact ⟨.refl _, [], .str _, fun c hc => (nomatch hc)⟩
  · show a.cps.size ≤ i
    unfold chrs at hi
    simpa using hi
theorem p_atS {i : Int} {z : Str} (h1 : PV K ta ρ (.str a) k1) (h2 : PV K tb ρ (.int i) k2) (h : atS a i = some z) :
    PV K (tOp (fun x y H Q => ∃ z i c, x = .str z ∧ y = .int i ∧ 0 ≤ i ∧ i < 2 ^ 63 ∧ i < z.length ∧ z.cps[i.toNat]? = some c ∧ Q (.str ⟨#[c]⟩) H) ta tb) ρ (.str z) (.mv []) := by
  unfold atS at h
  split at h
  case isFalse => cases h
  rename_i hc
  obtain ⟨c, h5, rfl⟩ := Option.map_eq_some_iff.mp h
  intro B AF σ H ρ' Fs d k' S eo Q q
  obtain ⟨e0, e1⟩ := pE_some eo
  subst e0
  cases e1
  refine h1 B AF σ H _ Fs _ _ S pE_same _ fun v H1 F g1 r1 o1 => ?_
  obtain ⟨rfl, rfl⟩ := str_inv r1
  refine h2 B AF σ H1 _ Fs _ _ (S.grow g1) pE_same _ fun w H2 F2 g2 r2 o2 => ?_
  obtain ⟨rfl, rfl⟩ := int_inv r2
  exact ⟨a, i, c, rfl, rfl, hc.1, hc.2.1, hc.2.2, h5, q _ H2 [] (g1.trans g2) (.str _) (.mv ⟨List.nodup_nil, fun c hc => nomatch hc⟩)⟩
theorem p_inS {x : Bool} (h1 : PV K ta ρ (.str a) k1) (h2 : PV K tb ρ (.str b) k2) (h : inS a b = some x) :
    PV K (tOp (fun x y H Q => ∃ (c : Nat) (z : Str), x = .str ⟨#[c]⟩ ∧ y = .str z ∧ Q (.bl (decide (c ∈ z.cps.toList))) H) ta tb) ρ (.bool x) (.mv []) := by
  unfold inS at h
  split at h
  case isFalse => cases h
  rename_i hc
  obtain ⟨c, h5, rfl⟩ := Option.map_eq_some_iff.mp h
  intro B AF σ H ρ' Fs d k' S eo Q q
  obtain ⟨e0, e1⟩ := pE_some eo
  subst e0
  cases e1
  refine h1 B AF σ H _ Fs _ _ S pE_same _ fun v H1 F g1 r1 o1 => ?_
  obtain ⟨rfl, rfl⟩ := str_inv r1
  refine h2 B AF σ H1 _ Fs _ _ (S.grow g1) pE_same _ fun w H2 F2 g2 r2 o2 => ?_
  obtain ⟨rfl, rfl⟩ := str_inv r2
  have ea : a = ⟨#[c]⟩ := by
    obtain ⟨cs⟩ := a
    have : cs = #[c] := by
      refine Array.ext (by simpa using hc) fun i h1 h2 => ?_
      have hi : i = 0 := by simp at h2; omega
      subst hi
      have := (Array.getElem?_eq_some_iff.mp h5).2
      simpa using this
    rw [this]
  exact ⟨c, b, by rw [ea], rfl, q _ H2 [] (g1.trans g2) (.bl _) (.mv ⟨List.nodup_nil, fun c hc => nomatch hc⟩)⟩
theorem p_intS {i : Int} (h1 : PA' K t ρ [.str a] k1) (h : intS a = some i) : PV K (tCB (fun xs H Q => ∃ a n, xs = [.str a] ∧ PySem.intText? a = some n ∧ a.length ≤ 640 ∧ Q (.int n) H) t) ρ (.int i) (.mv []) := by
  unfold intS at h
  split at h
  case isFalse => cases h
  rename_i hc
  intro B AF σ H ρ' Fs d k' S eo Q q
  obtain ⟨e0, e1⟩ := pE_some eo
  subst e0
  cases e1
  refine h1 B AF σ H _ Fs _ _ S pE_same _ fun vs H1 F g1 r1 o1 => ?_
  obtain ⟨v, rfl, rv⟩ := r1.one'
  obtain ⟨rfl, rfl⟩ := str_inv rv
  exact ⟨a, i, rfl, h, hc, q _ H1 [] g1 (.int _) (.mv ⟨List.nodup_nil, fun c hc => nomatch hc⟩)⟩
/-- a tuple of three -/
def un3 {α : Type} (xs : List α) : Option (α × α × α) := match xs with
  | [a, b, c] => some (a, b, c)
  | _ => none
theorem p_un3 {α : Type} {e : α → PyData} {xs : List α} {z : α × α × α} (h : PV K te ρ (ET e xs) k) (hz : un3 xs = some z) : PV K te ρ (E3 e e e z) k := by
  match xs, hz with
  | [a, b, c], hz =>
    cases hz
    exact h
end
end Va

/-! Vm2: words (texts or ints), stars in lists; defs that fall off their end. -/
namespace Va
open Classical
open PySem L2 PyProof.Rows PySem.W PySem.Calls
/-- a text or an int -/
@[reducible] def EWd : Str ⊕ Int → PyData
  | .inl s => .str s
  | .inr i => .int i
instance : Flat EWd := ⟨fun w => by cases w <;> rfl⟩
def strU (w : Str ⊕ Int) : Option Str := match w with
  | .inl s => some s
  | .inr i => strO i
section
variable {α : Type} {K : PySem.W.Frag} {ρ : Env} {te : TE} {t : TA} {k k1 k2 : Kd} {e : α → PyData}
theorem strUh {w : Str ⊕ Int} {z : Str} (h : strU w = some z) : hStr [EWd w] = some (.str z) := by
  cases w with
  | inl s => cases h; rfl
  | inr i => exact strI h
theorem a_starF [Flat e] {d : PyData} {xs : List α} {ds : List PyData} (h1 : PV K te ρ d k1) (hd : iterD d = some (xs.map e)) (h2 : PA' K t ρ ds k2) : PA' K (StX.tStar K te t) ρ (xs.map e ++ ds) (aj k1 k2) := (va_star h1 h2).at (by
  unfold aStar
  rw [pE_same, pE_same]
  simp [hd])
theorem p_lstU {xs : List (Str ⊕ Int)} {ds : List PyData} {u : Unit} (h : PA' K t ρ ds k) (he : ds = xs.map EWd) (hl : chk (decide (xs.length ≤ 1000000)) = some u) : PV K (tLst t) ρ (.list (xs.map EWd)) (.mv []) := by
  subst he
  exact p_lstF h flatL_map (by rw [List.length_map]; simpa using chk_some hl)
/-- a def's body that falls off its end -/
theorem body_TN {A : Type} {E : XK} {encs : A → List PyData} {L : A → Option Unit} {n : Nat} {Wx : WxT} {wr : List Nat} {ts : TS} {N : List Str} {m : Nat} {vs : List V} {H : Hp} {Q : VK} {E1 E2 : A → Env} (h : ∀ a, TB K Wx wr ts (E1 a) (L a) (fun _ => .nx (E2 a))) (hl : ∀ a, LessE (env0 m (encs a)) (E1 a)) (hs : spR K n (RelT encs L EN 2) vs H Q E) (hN : N.length = m) (hk : n ≤ m) :
    ts { nx := fun _ H' => Q .non H', rt := Q } (L2.start N vs) H := by
  obtain ⟨ds, p, ⟨a, x, rfl, h1, rfl⟩, hs⟩ := spR_of hs
  refine body_of (E := E) (f := pE (env0 m (encs a)) ((L a).map fun _ => .nx (E2 a))) (s_in (hl a) (h a)) (n := m) (k := n) ?_ hN hk
  obtain ⟨tb, ds, F, d, r', h2, h3, h4, q⟩ := hs
  simp only at h4
  split at h4
  case isFalse => cases h4
  rename_i hd
  subst hd
  refine ⟨tb, _, F, d, r', h2, h3, ?_, q⟩
  unfold mOf
  rw [pE_same, h1, ← h4]
  rfl
end
end Va

/-! Vm3: a dict of the module with text keys. -/
namespace Va
open Classical
open PySem L2 PyProof.Rows PySem.W PySem.Calls
/-- ints by text keys, written at the module's top -/
structure DicC (K : PySem.W.Frag) (w : World) (a : Addr) (kvs : List (Str × Int)) : Prop where
  ex : ∃ es n, KDict K w a es n
  at_ : ∀ (z : Str) (i : Int), (kvs.find? fun p => decide (p.1 = z)).map (·.2) = some i → ∃ u0, PySem.W.nsIn K a z = some (some u0) ∧ L2.RelV (.int i) u0
def lookS (kvs : List (Str × Int)) (z : Str) : Option Int := (kvs.find? fun p => decide (p.1 = z)).map (·.2)
def rIxC (K : PySem.W.Frag) (d : Addr) : R2 := fun x y H Q => ∃ (z : Str) (u0 : Value) (v0 : V), x = .ref d ∧ y = .str z ∧ PySem.W.nsIn K d z = some (some u0) ∧ RelV v0 u0 ∧ Q v0 H
theorem ix_kd {X : Cx} {d : Addr} {kvs : List (Str × Int)} (D : DicC X.K X.w d kvs) : IxR X (rIxC X.K d) := by
  intro value slice pins s σ H x y v u Q I rx ry h hs
  obtain ⟨es, n, D⟩ := D.ex
  obtain ⟨z, u0, v0, rfl, rfl, e, r, q⟩ := h
  cases (show v = Value.ref d from rx)
  have h1 := op_item_kd D pins s σ H (V.ref d) (V.str z) (Value.ref d) u Q I rfl ry ⟨z, u0, v0, rfl, rfl, e, r, q⟩
  exact tail_any (kd_type D I) PySem.F.slot_dict_getitem.lookup h1 hs
theorem p_ixC {K : PySem.W.Frag} {w : World} {ρ : Env} {te : TE} {k : Kd} {d : Addr} {kvs : List (Str × Int)} {z : Str} {i : Int} (D : DicC K w d kvs) (h1 : PV K te ρ (.str z) k) (h : lookS kvs z = some i) : PV K (tOp (rIxC K d) (tC (.ref d)) te) ρ (.int i) (.mv []) := by
  intro B AF σ H ρ' Fs d' k' S eo Q q
  obtain ⟨e0, e1⟩ := pE_some eo
  subst e0
  cases e1
  refine h1 B AF σ H _ Fs _ _ S pE_same _ fun v H1 F g1 r1 o1 => ?_
  obtain ⟨rfl, rfl⟩ := str_inv r1
  obtain ⟨u0, a1, a2⟩ := D.at_ z i h
  exact ⟨z, u0, .int i, rfl, rfl, a1, a2, q _ H1 [] g1 (.int _) (.mv ⟨List.nodup_nil, fun c hc => nomatch hc⟩)⟩
end Va
namespace Va
open Classical
open PySem L2 PyProof.Rows PySem.W PySem.Calls
theorem dicC_mk {K : PySem.W.Frag} {w : World} {a : Addr} {kvs : List (Str × Int)} {es : Array DictEntry} {n : Nat} (h1 : K.lookup a = some ⟨.type "dict", none, .dict es n, #[]⟩) (h2 : PySem.W.KeysLit w.params es.toList) (h3 : (a == sysModules) = false) (h4 : ∀ p ∈ kvs, ∃ t : Tok, PySem.W.nsIn K a p.1 = some (some (.int p.2 t))) : DicC K w a kvs := by
  refine ⟨⟨es, n, h1, h2, h3⟩, fun z i h => ?_⟩
  obtain ⟨p, hp, rfl⟩ := Option.map_eq_some_iff.mp h
  obtain ⟨t, ht⟩ := h4 p (List.mem_of_find?_eq_some hp)
  have hz := List.find?_some hp
  rw [← of_decide_eq_true hz]
  exact ⟨_, ht, ⟨t, rfl⟩⟩
end Va

/-! Nb1: walks over roads; least lengths. -/
namespace Va
/-- a walk of a road at least, all places between of p -/
inductive Wk (E : Nat → Nat → Nat → Prop) (p : Nat → Prop) : Nat → Nat → Nat → Prop
  | one {i j l : Nat} : E i j l → Wk E p i j l
  | step {i x j l L : Nat} : E i x l → p x → Wk E p x j L → Wk E p i j (l + L)
section
variable {E : Nat → Nat → Nat → Prop} {p q : Nat → Prop} {i j k x y L L1 L2 : Nat}
theorem Wk.mono (h : Wk E p i j L) (s : ∀ x, p x → q x) : Wk E q i j L := by
  induction h with
  | one e => exact .one e
  | step e hx _ ih => exact .step e (s _ hx) ih
theorem Wk.app (h : Wk E p i x L1) (hx : p x) (k : Wk E p x j L2) : Wk E p i j (L1 + L2) := by
  induction h with
  | one e => exact .step e hx k
  | step e hy _ ih => rw [Nat.add_assoc]; exact .step e hy (ih hx k)
/-- behind the last time at x -/
theorem Wk.last (h : Wk E q y j L) (s : ∀ z, q z → p z ∨ z = x) : Wk E p y j L ∨ ∃ L2, L2 ≤ L ∧ Wk E p x j L2 := by
  induction h with
  | one e => exact .inl (.one e)
  | @step i z j l L e hz _ ih =>
    rcases ih with h | ⟨L2, h1, h2⟩
    · rcases s z hz with hz | rfl
      · exact .inl (.step e hz h)
      · exact .inr ⟨L, Nat.le_add_left .., h⟩
    · exact .inr ⟨L2, Nat.le_trans h1 (Nat.le_add_left ..), h2⟩
/-- over k, or not -/
theorem Wk.split (h : Wk E q i j L) (s : ∀ z, q z → p z ∨ z = k) : Wk E p i j L ∨ ∃ L1 L2, Wk E p i k L1 ∧ Wk E p k j L2 ∧ L1 + L2 ≤ L := by
  induction h with
  | one e => exact .inl (.one e)
  | @step i z j l L e hz _ ih =>
    rcases s z hz with hz | rfl
    · rcases ih with h | ⟨L1, L2, h1, h2, h3⟩
      · exact .inl (.step e hz h)
      · exact .inr ⟨l + L1, L2, .step e hz h1, h2, by omega⟩
    · rcases ih with h | ⟨L1, L2, h1, h2, h3⟩
      · exact .inr ⟨l, L, .one e, h, Nat.le_refl _⟩
      · exact .inr ⟨l, L2, .one e, h2, by omega⟩
/-- a walk of t roads -/
inductive Wt (E : Nat → Nat → Nat → Prop) : Nat → Nat → Nat → Nat → Prop
  | nil {i : Nat} : Wt E 0 i i 0
  | snoc {t i x j L l : Nat} : Wt E t i x L → E x j l → Wt E (t + 1) i j (L + l)
theorem Wt.cons {t l : Nat} (e : E i x l) (h : Wt E t x j L) : Wt E (t + 1) i j (l + L) := by
  induction h with
  | nil =>
    have := Wt.snoc (Wt.nil (i := i)) e
    simpa using this
  | snoc _ e' ih => rw [← Nat.add_assoc]; exact .snoc (ih e) e'
theorem Wk.few : ∀ (m : Nat) {S : List Nat} {i j L : Nat}, S.length ≤ m → Wk E (· ∈ S) i j L → ∃ L' t, L' ≤ L ∧ t ≤ m + 1 ∧ Wt E t i j L'
  | m, S, i, j, _, hm, .one (l := L) e => ⟨L, 1, Nat.le_refl _, by omega, by have := Wt.cons e (.nil (E := E)); simpa using this⟩
  | m, S, i, j, _, hm, .step (x := x) (l := l) (L := L) e hx w => by
    have hl : (S.erase x).length = S.length - 1 := List.length_erase_of_mem hx
    have hp : 0 < S.length := List.length_pos_of_mem hx
    match m, hm with
    | 0, hm => omega
    | m + 1, hm =>
      have h : ∃ L2, L2 ≤ L ∧ Wk E (· ∈ S.erase x) x j L2 := by
        rcases w.last (p := (· ∈ S.erase x)) (x := x) (fun z hz => by
          by_cases e : z = x
          · exact .inr e
          · exact .inl ((List.mem_erase_of_ne e).mpr hz)) with h | h
        · exact ⟨L, Nat.le_refl _, h⟩
        · exact h
      obtain ⟨L2, h1, h2⟩ := h
      obtain ⟨L3, t, h3, h4, h5⟩ := Wk.few m (S := S.erase x) (by omega) h2
      exact ⟨l + L3, t + 1, by omega, by omega, h5.cons e⟩
/-- of all walks from i over places below n one with n roads at most is no longer -/
theorem Wk.short {n : Nat} (hi : i < n) (h : Wk E (· < n) i j L) : ∃ L' t, L' ≤ L ∧ t ≤ n ∧ Wt E t i j L' := by
  have h1 : ∃ L2, L2 ≤ L ∧ Wk E (· ∈ (List.range n).erase i) i j L2 := by
    rcases h.last (p := (· ∈ (List.range n).erase i)) (x := i) (fun z hz => by
      by_cases e : z = i
      · exact .inr e
      · exact .inl ((List.mem_erase_of_ne e).mpr (List.mem_range.mpr hz))) with h | h
    · exact ⟨L, Nat.le_refl _, h⟩
    · exact h
  obtain ⟨L2, a, b⟩ := h1
  obtain ⟨L3, t, c, d, e⟩ := Wk.few (n - 1) (S := (List.range n).erase i) (by rw [List.length_erase_of_mem (List.mem_range.mpr hi), List.length_range]; omega) b
  exact ⟨L3, t, by omega, by omega, e⟩
end
/-! ### least lengths -/
abbrev Rds := List (Nat × Nat × Nat)
def Ed (rs : Rds) (i j l : Nat) : Prop := (i, j, l) ∈ rs ∨ (j, i, l) ∈ rs
structure Dst (rs : Rds) (n i j : Nat) (o : Option Nat) : Prop where
  real : ∀ v, o = some v → (i = j ∧ v = 0) ∨ Wk (Ed rs) (· < n) i j v
  least : ∀ L, Wk (Ed rs) (· < n) i j L → ∃ v, o = some v ∧ v ≤ L
  self : i = j → o = some 0
theorem Dst.uniq {rs : Rds} {n i j : Nat} {o o' : Option Nat} (h : Dst rs n i j o) (h' : Dst rs n i j o') : o = o' := by
  by_cases e : i = j
  · rw [h.self e, h'.self e]
  · have le : ∀ {a b : Option Nat}, Dst rs n i j a → Dst rs n i j b → ∀ v, a = some v → ∃ u, b = some u ∧ u ≤ v := fun ha hb v hv => by
      rcases ha.real v hv with ⟨z, _⟩ | w
      · exact absurd z e
      · exact hb.least v w
    cases o with
    | none =>
      cases o' with
      | none => rfl
      | some v => obtain ⟨u, q, _⟩ := le h' h v rfl; cases q
    | some v =>
      obtain ⟨u, q, k⟩ := le h h' v rfl
      obtain ⟨w, q', k'⟩ := le h' h u q
      cases q'
      rw [q, Nat.le_antisymm k k']
/-! ### steps to less -/
def oadd : Option Nat → Option Nat → Option Nat
  | some a, some b => some (a + b)
  | _, _ => none
def rlx (c t : Option Nat) : Option Nat := match t with
  | none => c
  | some t => match c with
    | none => some t
    | some c => if t < c then some t else some c
/-- at most, none being without bound -/
def ole (a b : Option Nat) : Prop := ∀ v, b = some v → ∃ u, a = some u ∧ u ≤ v
section
variable {a b c d t : Option Nat}
theorem ole.refl : ole a a := fun v h => ⟨v, h, Nat.le_refl _⟩
theorem ole.trans (h : ole a b) (k : ole b c) : ole a c := fun v e => by
  obtain ⟨u, e1, l1⟩ := k v e
  obtain ⟨w, e2, l2⟩ := h u e1
  exact ⟨w, e2, Nat.le_trans l2 l1⟩
theorem ole_add (h : ole a b) (k : ole c d) : ole (oadd a c) (oadd b d) := fun v e => by
  cases b with
  | none => cases e
  | some b =>
    cases d with
    | none => cases e
    | some d =>
      cases e
      obtain ⟨u, rfl, l1⟩ := h b rfl
      obtain ⟨w, rfl, l2⟩ := k d rfl
      exact ⟨u + w, rfl, Nat.add_le_add l1 l2⟩
theorem rlx_l : ole (rlx c t) c := fun v e => by
  cases e
  cases t with
  | none => exact ⟨v, rfl, Nat.le_refl _⟩
  | some t =>
    unfold rlx
    simp only
    split
    · exact ⟨t, rfl, by omega⟩
    · exact ⟨v, rfl, Nat.le_refl _⟩
theorem rlx_r : ole (rlx c t) t := fun v e => by
  cases e
  unfold rlx
  cases c with
  | none => exact ⟨v, rfl, Nat.le_refl _⟩
  | some c =>
    simp only
    split
    · exact ⟨v, rfl, Nat.le_refl _⟩
    · exact ⟨c, rfl, by omega⟩
theorem rlx_or : rlx c t = c ∨ rlx c t = t := by
  unfold rlx
  cases t with
  | none => exact .inl rfl
  | some t =>
    cases c with
    | none => exact .inr rfl
    | some c =>
      simp only
      split
      · exact .inr rfl
      · exact .inl rfl
end
def upd1 (g : Nat → Option Nat) (j : Nat) (v : Option Nat) : Nat → Option Nat := fun k => if k = j then v else g k
def upd2 (G : Nat → Nat → Option Nat) (i j : Nat) (v : Option Nat) : Nat → Nat → Option Nat := fun a b => if a = i ∧ b = j then v else G a b
theorem upd2_row {G : Nat → Nat → Option Nat} {i j a : Nat} {v : Option Nat} : upd2 G i j v a = if a = i then upd1 (G i) j v else G a := by
  funext b
  unfold upd2 upd1
  by_cases h : a = i
  · subst h; simp
  · simp [h]
/-! ### all ways at once, place by place -/
section
variable {rs : Rds} {n m : Nat} {G G0 : Nat → Nat → Option Nat}
def Real2 (rs : Rds) (n : Nat) (G : Nat → Nat → Option Nat) : Prop := ∀ i j v, i < n → j < n → G i j = some v → (i = j ∧ v = 0) ∨ Wk (Ed rs) (· < n) i j v
structure Fw (rs : Rds) (n m : Nat) (G : Nat → Nat → Option Nat) : Prop where
  real : Real2 rs n G
  least : ∀ i j L, i < n → j < n → Wk (Ed rs) (· < m) i j L → ∃ v, G i j = some v ∧ v ≤ L
  self : ∀ i, i < n → G i i = some 0
/-- in the turn of the place m: behind the pairs ahead of (i, j) -/
structure FwIn (rs : Rds) (n m : Nat) (G0 : Nat → Nat → Option Nat) (i j : Nat) (G : Nat → Nat → Option Nat) : Prop where
  real : Real2 rs n G
  less : ∀ a b, a < n → b < n → ole (G a b) (G0 a b)
  done : ∀ a b, a < n → b < n → (a < i ∨ (a = i ∧ b < j)) → ole (G a b) (oadd (G0 a m) (G0 m b))
theorem Fw.into (h : Fw rs n m G) : FwIn rs n m G 0 0 G := ⟨h.real, fun _ _ _ _ => .refl, fun a b _ _ h => by omega⟩
theorem FwIn.step {i j : Nat} (h : FwIn rs n m G0 i j G) (hm : m < n) (hi : i < n) (hj : j < n) : FwIn rs n m G0 i (j + 1) (upd2 G i j (rlx (G i j) (oadd (G i m) (G m j)))) := by
  have le : ∀ a b, ole (upd2 G i j (rlx (G i j) (oadd (G i m) (G m j))) a b) (G a b) := fun a b => by
    unfold upd2
    split
    · rename_i e
      rw [e.1, e.2]
      exact rlx_l
    · exact .refl
  refine ⟨fun a b v ha hb e => ?_, fun a b ha hb => (le a b).trans (h.less a b ha hb), fun a b ha hb hd => ?_⟩
  · unfold upd2 at e
    split at e
    · rename_i q
      obtain ⟨rfl, rfl⟩ := q
      rcases rlx_or (c := G a b) (t := oadd (G a m) (G m b)) with z | z
      · exact h.real a b v ha hb (z ▸ e)
      · rw [z] at e
        cases e1 : G a m with
        | none => rw [e1] at e; cases e
        | some u =>
          cases e2 : G m b with
          | none => rw [e1, e2] at e; cases e
          | some w =>
            rw [e1, e2] at e
            cases e
            rcases h.real a m u ha hm e1 with ⟨rfl, rfl⟩ | w1
            · rw [Nat.zero_add]
              exact h.real a b w ha hb e2
            · rcases h.real m b w hm hb e2 with ⟨rfl, rfl⟩ | w2
              · exact .inr w1
              · exact .inr (w1.app hm w2)
    · exact h.real a b v ha hb e
  · by_cases q : a = i ∧ b = j
    · obtain ⟨rfl, rfl⟩ := q
      unfold upd2
      rw [if_pos ⟨rfl, rfl⟩]
      exact rlx_r.trans (ole_add (h.less a m ha hm) (h.less m b hm hb))
    · exact (le a b).trans (h.done a b ha hb (by omega))
theorem FwIn.row {i : Nat} (h : FwIn rs n m G0 i n G) : FwIn rs n m G0 (i + 1) 0 G := ⟨h.real, h.less, fun a b ha hb hd => h.done a b ha hb (by omega)⟩
theorem FwIn.out (h0 : Fw rs n m G0) (h : FwIn rs n m G0 n 0 G) (hm : m < n) : Fw rs n (m + 1) G := by
  refine ⟨h.real, fun i j L hi hj w => ?_, fun i hi => ?_⟩
  · rcases w.split (p := (· < m)) (k := m) (fun z hz => by omega) with w | ⟨L1, L2, w1, w2, hl⟩
    · obtain ⟨v, e, l⟩ := h0.least i j L hi hj w
      obtain ⟨u, e', l'⟩ := h.less i j hi hj v e
      exact ⟨u, e', by omega⟩
    · obtain ⟨v1, e1, l1⟩ := h0.least i m L1 hi hm w1
      obtain ⟨v2, e2, l2⟩ := h0.least m j L2 hm hj w2
      obtain ⟨u, e', l'⟩ := h.done i j hi hj (.inl hi) (v1 + v2) (by rw [e1, e2]; rfl)
      exact ⟨u, e', by omega⟩
  · obtain ⟨u, e, l⟩ := h.less i i hi hi 0 (h0.self i hi)
    rw [e, Nat.le_zero.mp l]
theorem Fw.dst (h : Fw rs n n G) {i j : Nat} (hi : i < n) (hj : j < n) : Dst rs n i j (G i j) := ⟨fun v e => h.real i j v hi hj e, fun L w => h.least i j L hi hj w, fun e => by subst e; exact h.self i hi⟩
end
/-! ### from one place, road by road -/
section
variable {rs : Rds} {n s t : Nat} {g g0 : Nat → Option Nat}
def Real1 (rs : Rds) (n s : Nat) (g : Nat → Option Nat) : Prop := ∀ j v, j < n → g j = some v → (s = j ∧ v = 0) ∨ Wk (Ed rs) (· < n) s j v
structure Bf (rs : Rds) (n s t : Nat) (g : Nat → Option Nat) : Prop where
  real : Real1 rs n s g
  least : ∀ t' j L, t' ≤ t → j < n → Wt (Ed rs) t' s j L → ∃ v, g j = some v ∧ v ≤ L
/-- in a turn: behind the roads D -/
structure BfIn (rs : Rds) (n s : Nat) (g0 : Nat → Option Nat) (D : List (Nat × Nat × Nat)) (g : Nat → Option Nat) : Prop where
  real : Real1 rs n s g
  less : ∀ a, a < n → ole (g a) (g0 a)
  done : ∀ d ∈ D, ole (g d.2.1) (oadd (g0 d.1) (some d.2.2))
theorem Bf.into (h : Bf rs n s t g) : BfIn rs n s g [] g := ⟨h.real, fun _ _ => .refl, fun d h => nomatch h⟩
theorem Real1.step {a b l : Nat} (h : Real1 rs n s g) (ha : a < n) (e : Ed rs a b l) {v : Nat} (hv : oadd (g a) (some l) = some v) : (s = b ∧ v = 0) ∨ Wk (Ed rs) (· < n) s b v := by
  cases e1 : g a with
  | none => rw [e1] at hv; cases hv
  | some u =>
    rw [e1] at hv
    cases hv
    rcases h a u ha e1 with ⟨rfl, rfl⟩ | w
    · rw [Nat.zero_add]; exact .inr (.one e)
    · exact .inr (w.app ha (.one e))
theorem BfIn.step {D : List (Nat × Nat × Nat)} {a b l : Nat} (h : BfIn rs n s g0 D g) (ha : a < n) (hb : b < n) (e : Ed rs a b l) : BfIn rs n s g0 (D ++ [(a, b, l)]) (upd1 g b (rlx (g b) (oadd (g a) (some l)))) := by
  have le : ∀ c, ole (upd1 g b (rlx (g b) (oadd (g a) (some l))) c) (g c) := fun c => by
    unfold upd1
    split
    · rename_i q
      rw [q]
      exact rlx_l
    · exact .refl
  refine ⟨fun j v hj q => ?_, fun c hc => (le c).trans (h.less c hc), fun d hd => ?_⟩
  · unfold upd1 at q
    split at q
    · rename_i z
      subst z
      rcases rlx_or (c := g j) (t := oadd (g a) (some l)) with z | z
      · exact h.real j v hj (z ▸ q)
      · rw [z] at q
        exact h.real.step ha e q
    · exact h.real j v hj q
  · rcases List.mem_append.mp hd with hd | hd
    · exact (le _).trans (h.done d hd)
    · rcases List.mem_singleton.mp hd with rfl
      show ole (upd1 g b _ b) (oadd (g0 a) (some l))
      unfold upd1
      rw [if_pos rfl]
      exact rlx_r.trans (ole_add (h.less a ha) .refl)
theorem BfIn.out {D : List (Nat × Nat × Nat)} (h0 : Bf rs n s t g0) (h : BfIn rs n s g0 D g) (hb : ∀ i j l, Ed rs i j l → i < n ∧ j < n) (hD : ∀ i j l, Ed rs i j l → (i, j, l) ∈ D) : Bf rs n s (t + 1) g := by
  refine ⟨h.real, fun t' j L ht hj w => ?_⟩
  rcases Nat.lt_or_eq_of_le ht with ht | rfl
  · obtain ⟨v, e, l⟩ := h0.least t' j L (by omega) hj w
    obtain ⟨u, e', l'⟩ := h.less j hj v e
    exact ⟨u, e', by omega⟩
  · cases w with
    | @snoc t i x j L l w e =>
      obtain ⟨v, e1, l1⟩ := h0.least t x L (Nat.le_refl _) (hb _ _ _ e).1 w
      obtain ⟨u, e', l'⟩ := h.done _ (hD _ _ _ e) (v + l) (by rw [e1]; rfl)
      exact ⟨u, e', by omega⟩
theorem Bf.dst (h : Bf rs n s n g) (hs : s < n) {j : Nat} (hj : j < n) : Dst rs n s j (g j) := by
  refine ⟨fun v e => h.real j v hj e, fun L w => ?_, fun e => ?_⟩
  · obtain ⟨L', t, h1, h2, h3⟩ := w.short hs
    obtain ⟨v, e, l⟩ := h.least t j L' h2 hj h3
    exact ⟨v, e, by omega⟩
  · subst e
    obtain ⟨v, e, l⟩ := h.least 0 s 0 (Nat.zero_le _) hj .nil
    rw [e, Nat.le_zero.mp l]
end
end Va

/-! Nt1: towns and ways, as plain programs. -/
namespace Va
open PySem L2 PyProof.Rows PySem.W PySem.Calls
def L_law_town_b1 (law_draws_here : (List Int)) (law_first : Int) (law_roads : (List (Int × Int × Int))) (law_k : Int) (law_second : Int) : Option ((List (Int × Int × Int)) × Int) := (atI law_draws_here law_k).bind fun x => (if decide ((x % (5 : Int)) < (3 : Int)) = true then (atI law_draws_here law_k).bind fun x2 => (atI law_draws_here law_k).bind fun x3 => (atI ([(3 : Int), (9 : Int)] : (List Int)) ((x3 / (45 : Int)) % (2 : Int))).bind fun x4 => (modO (x2 / (5 : Int)) x4).bind fun n => (appO law_roads (law_first, law_second, ((1 : Int) + n))).bind fun law_roads2 => some law_roads2 else some law_roads).bind fun law_roads3 => letO (law_k + (1 : Int)) fun law_k2 => some (law_roads3, law_k2)
def L_law_town_b2 (law_draws_here : (List Int)) (law_places : Int) (law_k : Int) (law_roads : (List (Int × Int × Int))) (law_first : Int) : Option (Int × (List (Int × Int × Int))) := (range2 (law_first + (1 : Int)) law_places).bind fun l => (loopO (fun s x => L_law_town_b1 law_draws_here law_first s.1 s.2 x) l (law_roads, law_k)).bind fun s2 => some (s2.2, s2.1)
def L_law_town (law_draws_here : (List Int)) (law_most : Int) : Option (Int × (List (Int × Int × Int))) := (atI law_draws_here (0 : Int)).bind fun x => (modO x law_most).bind fun n => letO ((1 : Int) + n) fun law_places => letO ([] : (List (Int × Int × Int))) fun law_roads => (range1 law_places).bind fun l => (loopO (fun s x2 => L_law_town_b2 law_draws_here law_places s.1 s.2 x2) l ((1 : Int), law_roads)).bind fun s4 => some (law_places, s4.2)
abbrev R_law_town : List PyData → PyData × Nat → Prop := RelT (fun (a : ((List Int) × Int)) => [(EL PyData.int) a.1, PyData.int a.2]) (fun a => L_law_town a.1 a.2) (E2 PyData.int (EL (E3 PyData.int PyData.int PyData.int))) 2
def L_ways_b1 (found : (List (List (Option Int)))) (first : Int) (second : Int) (length : Int) : Option (List (List (Option Int))) := (set2O found first second (some length)).bind fun found2 => (set2O found2 second first (some length)).bind fun found3 => some found3
def L_ways_b2 (first : Int) (middle : Int) (found : (List (List (Option Int)))) (second : Int) : Option (List (List (Option Int))) := (atI found first).bind fun x => (atI x middle).bind fun x2 => (if x2.isSome = true then (atI found middle).bind fun x3 => (atI x3 second).bind fun x4 => some x4.isSome else some false).bind fun b => if b = true then (atI found first).bind fun x5 => (atI x5 middle).bind fun x6 => (x6).bind fun v => (atI found middle).bind fun x7 => (atI x7 second).bind fun x8 => (x8).bind fun v2 => letO (v + v2) fun through2 => (atI found first).bind fun x9 => (atI x9 second).bind fun x10 => (if x10.isNone = true then some true else (atI found first).bind fun x11 => (atI x11 second).bind fun x12 => (x12).bind fun v3 => some (decide (through2 < v3))).bind fun b2 => if b2 = true then (set2O found first second (some through2)).bind fun found2 => some found2 else some found else some found
def L_ways_b3 (places : Int) (middle : Int) (found : (List (List (Option Int)))) (first : Int) : Option (List (List (Option Int))) := (range1 places).bind fun l => (loopO (fun s x => L_ways_b2 first middle s x) l found).bind fun s2 => some s2
def L_ways_b4 (places : Int) (found : (List (List (Option Int)))) (middle : Int) : Option (List (List (Option Int))) := (range1 places).bind fun l => (loopO (fun s x => L_ways_b3 places middle s x) l found).bind fun s4 => some s4
def L_ways (town : (Int × (List (Int × Int × Int)))) : Option (List (List (Option Int))) := (range1 town.1).bind fun l => (chk (decide (l.length ≤ 1000000))).bind fun u2 => (mapO (fun x => (range1 town.1).bind fun l2 => (chk (decide (l2.length ≤ 1000000))).bind fun u => some (l2.map fun x2 => (if decide (x = x2) = true then (some (0 : Int)) else (none : (Option Int))))) l).bind fun l3 => (loopO (fun s x3 => L_ways_b1 s x3.1 x3.2.1 x3.2.2) town.2 l3).bind fun s2 => (range1 town.1).bind fun l4 => (loopO (fun s3 x4 => L_ways_b4 town.1 s3 x4) l4 s2).bind fun s8 => some s8
abbrev R_ways : List PyData → PyData × Nat → Prop := RelT (fun (a : (Int × (List (Int × Int × Int)))) => [(E2 PyData.int (EL (E3 PyData.int PyData.int PyData.int))) a]) (fun a => L_ways a) (EL (EL (EO PyData.int))) 2
def L_law_ways_b1 (law_length : Int) (law_row : (List (Option Int))) (law_one : Int) (law_other : Int) : Option (List (Option Int)) := (atI law_row law_one).bind fun x => (if x.isSome = true then (atI law_row law_other).bind fun x2 => (if x2.isNone = true then some true else (atI law_row law_one).bind fun x3 => (x3).bind fun v => (atI law_row law_other).bind fun x4 => (x4).bind fun v2 => some (decide ((v + law_length) < v2))).bind fun b => some b else some false).bind fun b2 => if b2 = true then (atI law_row law_one).bind fun x5 => (x5).bind fun v3 => (setO law_row law_other (some (v3 + law_length))).bind fun law_row2 => some law_row2 else some law_row
def L_law_ways_b2 (law_row : (List (Option Int))) (law_first : Int) (law_second : Int) (law_length : Int) : Option (List (Option Int)) := (loopO (fun s x => L_law_ways_b1 law_length s x.1 x.2) ([(law_first, law_second), (law_second, law_first)] : (List (Int × Int))) law_row).bind fun s2 => some s2
def L_law_ways_b3 (law_roads : (List (Int × Int × Int))) (law_row : (List (Option Int))) (law_turn : Int) : Option (List (Option Int)) := (loopO (fun s x => L_law_ways_b2 s x.1 x.2.1 x.2.2) law_roads law_row).bind fun s4 => some s4
def L_law_ways_b4 (law_places : Int) (law_roads : (List (Int × Int × Int))) (law_rows : (List (List (Option Int)))) (law_start : Int) : Option (List (List (Option Int))) := (repO ([(none : (Option Int))] : (List (Option Int))) law_places).bind fun l => (setO l law_start (some (0 : Int))).bind fun law_row2 => (range1 law_places).bind fun l2 => (loopO (fun s x => L_law_ways_b3 law_roads s x) l2 law_row2).bind fun s6 => (appO law_rows s6).bind fun law_rows2 => some law_rows2
def L_law_ways (law_town_here : (Int × (List (Int × Int × Int)))) : Option (List (List (Option Int))) := letO ([] : (List (List (Option Int)))) fun law_rows => (range1 law_town_here.1).bind fun l => (loopO (fun s x => L_law_ways_b4 law_town_here.1 law_town_here.2 s x) l law_rows).bind fun s8 => some s8
abbrev R_law_ways : List PyData → PyData × Nat → Prop := RelT (fun (a : (Int × (List (Int × Int × Int)))) => [(E2 PyData.int (EL (E3 PyData.int PyData.int PyData.int))) a]) (fun a => L_law_ways a) (EL (EL (EO PyData.int))) 2
/-! ### loops over numbers -/
theorem loop_nat {σ : Type} {f : σ → Int → Option σ} {lo : Int} {n : Nat} {s : σ} (P : Nat → σ → Prop) (h0 : P 0 s) (step : ∀ (i : Nat) (s : σ), i < n → P i s → ∃ s', f s (lo + (i : Int)) = some s' ∧ P (i + 1) s') :
    ∃ s', loopO f (rangeI lo n) s = some s' ∧ P n s' := by
  have := loopO_pre (f := f) (xs := rangeI lo n) (s := s) (fun ys s => P ys.length s) h0 fun ys x s hp h => by
    obtain ⟨_, rfl, hl⟩ := rangeI_pre hp
    obtain ⟨s', e1, e2⟩ := step ys.length s hl h
    exact ⟨s', e1, by simpa using e2⟩
  simpa using this
theorem loop_nat0 {σ : Type} {f : σ → Int → Option σ} {n : Nat} {s : σ} (P : Nat → σ → Prop) (h0 : P 0 s) (step : ∀ (i : Nat) (s : σ), i < n → P i s → ∃ s', f s (i : Int) = some s' ∧ P (i + 1) s') :
    ∃ s', loopO f (rangeI 0 n) s = some s' ∧ P n s' := loop_nat P h0 fun i s hi h => by rw [Int.zero_add]; exact step i s hi h
/-- over told items -/
theorem loop_to {σ α β : Type} {f : σ → β → Option σ} {e : α → β} {xs : List α} {s : σ} (P : List α → σ → Prop) (h0 : P [] s) (step : ∀ (ys : List α) (x : α) (s : σ), ys ++ [x] <+: xs → P ys s → ∃ s', f s (e x) = some s' ∧ P (ys ++ [x]) s') :
    ∃ s', loopO f (xs.map e) s = some s' ∧ P xs s' := by
  suffices H : ∀ (zs ys : List α) (s : σ), ys ++ zs = xs → P ys s → ∃ s', loopO f (zs.map e) s = some s' ∧ P xs s' from H xs [] s rfl h0
  intro zs
  induction zs with
  | nil => intro ys s q h; rw [List.append_nil] at q; exact ⟨s, rfl, q ▸ h⟩
  | cons z zs ih =>
    intro ys s q h
    obtain ⟨s1, e1, h1⟩ := step ys z s ⟨zs, by rw [List.append_assoc]; exact q⟩ h
    obtain ⟨s2, e2, h2⟩ := ih (ys ++ [z]) s1 (by rw [List.append_assoc]; exact q) h1
    refine ⟨s2, ?_, h2⟩
    rw [List.map_cons, loopO, e1]
    exact e2
theorem atI_ofNat {α : Type} {xs : List α} {i : Nat} : atI xs (i : Int) = xs[i]? := by rw [atI_nat (by omega), Int.toNat_natCast]
theorem ixN_ofNat {n i : Nat} (h : i < n) : ixN n (i : Int) = some i := by
  unfold ixN
  have : (i : Int) < (n : Int) := by omega
  simp [this, show ¬ (i : Int) < 0 by omega]
theorem setO_ofNat {α : Type} {xs : List α} {i : Nat} {v : α} (h : i < xs.length) : setO xs (i : Int) v = some (xs.set i v) := by
  unfold setO
  rw [ixN_ofNat h]
  rfl
theorem chk_le {n m : Nat} (h : n ≤ m) : chk (decide (n ≤ m)) = some () := by simp [chk, h]
/-! ### towns -/
structure Town (n : Nat) (rs : Rds) : Prop where
  pos : 1 ≤ n
  road : ∀ r ∈ rs, r.1 < r.2.1 ∧ r.2.1 < n ∧ 1 ≤ r.2.2 ∧ r.2.2 ≤ 9
  asc : rs.Pairwise fun r s => r.1 < s.1 ∨ (r.1 = s.1 ∧ r.2.1 < s.2.1)
def roadI (r : Nat × Nat × Nat) : Int × Int × Int := ((r.1 : Int), (r.2.1 : Int), (r.2.2 : Int))
def townI (n : Nat) (rs : Rds) : Int × List (Int × Int × Int) := ((n : Int), rs.map roadI)
def pairs (n : Nat) : Nat → Nat
  | 0 => 0
  | i + 1 => pairs n i + (n - 1 - i)
theorem pairs_le {n i : Nat} : ∀ {m : Nat}, i ≤ m → pairs n i ≤ pairs n m
  | 0, h => by rw [Nat.le_zero.mp h]; exact Nat.le_refl _
  | m + 1, h => by
    rcases Nat.lt_or_eq_of_le h with h | h
    · exact Nat.le_trans (pairs_le (Nat.le_of_lt_succ h)) (Nat.le_add_right _ _)
    · rw [h]; exact Nat.le_refl _
theorem draw_at {N : Nat} {ds : List Int} (hd : Drawn N ds) {k : Nat} (hk : k < N) : ∃ x : Nat, ds[k]? = some (x : Int) ∧ x < 1000 := by
  obtain ⟨h1, h2⟩ := hd
  have hk' : k < ds.length := by omega
  have hx := h2 ds[k] (List.getElem_mem hk')
  exact ⟨ds[k].toNat, by rw [List.getElem?_eq_getElem hk']; congr 1; omega, by omega⟩
theorem draw_I {N : Nat} {ds : List Int} (hd : Drawn N ds) {k : Nat} (hk : k < N) : ∃ x : Nat, atI ds (k : Int) = some (x : Int) ∧ x < 1000 := by
  rw [atI_ofNat]
  exact draw_at hd hk
def TownTo (n i j : Nat) (rs : Rds) : Prop :=
  (∀ r ∈ rs, r.1 < r.2.1 ∧ r.2.1 < n ∧ 1 ≤ r.2.2 ∧ r.2.2 ≤ 9 ∧ (r.1 < i ∨ (r.1 = i ∧ r.2.1 < j))) ∧ rs.Pairwise (fun r s => r.1 < s.1 ∨ (r.1 = s.1 ∧ r.2.1 < s.2.1))
theorem townTo_step {n i j l : Nat} {rs : List (Nat × Nat × Nat)} (h : TownTo n i j rs) (hij : i < j) (hj : j < n) (h1 : 1 ≤ l) (h9 : l ≤ 9) : TownTo n i (j + 1) (rs ++ [(i, j, l)]) := by
  refine ⟨fun r hr => ?_, ?_⟩
  · rcases List.mem_append.mp hr with hr | hr
    · obtain ⟨a, b, c, d, e⟩ := h.1 r hr
      exact ⟨a, b, c, d, by omega⟩
    · rcases List.mem_singleton.mp hr with rfl
      exact ⟨hij, hj, h1, h9, .inr ⟨rfl, Nat.lt_succ_self _⟩⟩
  · refine List.pairwise_append.mpr ⟨h.2, List.pairwise_singleton _ _, fun r hr s hs => ?_⟩
    rcases List.mem_singleton.mp hs with rfl
    obtain ⟨a, b, c, d, e⟩ := h.1 r hr
    omega
theorem townTo_skip {n i j i' j' : Nat} {rs : List (Nat × Nat × Nat)} (h : TownTo n i j rs) (hh : i < i' ∨ (i = i' ∧ j ≤ j')) : TownTo n i' j' rs :=
  ⟨fun r hr => by
    obtain ⟨a, b, c, d, e⟩ := h.1 r hr
    exact ⟨a, b, c, d, by omega⟩, h.2⟩
theorem town_b1 {N : Nat} {ds : List Int} (hd : Drawn N ds) {k i j : Nat} {rs : Rds} (hk : k < N) (hr : rs.length < 1000000) :
    ∃ rs', L_law_town_b1 ds (i : Int) (rs.map roadI) (k : Int) (j : Int) = some (rs'.map roadI, ((k + 1 : Nat) : Int)) ∧ (rs' = rs ∨ ∃ l, rs' = rs ++ [(i, j, l)] ∧ 1 ≤ l ∧ l ≤ 9) := by
  obtain ⟨x, hx, hx1⟩ := draw_I hd hk
  have e5 : ((x : Int) % 5 < 3) ↔ x % 5 < 3 := by omega
  by_cases h : x % 5 < 3
  · have e2 : x / 45 % 2 = 0 ∨ x / 45 % 2 = 1 := by omega
    obtain ⟨m, hm, hm1⟩ : ∃ m : Nat, atI [(3 : Int), 9] ((x : Int) / 45 % 2) = some (m : Int) ∧ (m = 3 ∨ m = 9) := by
      rcases e2 with e | e
      · exact ⟨3, by rw [show ((x : Int) / 45 % 2) = ((0 : Nat) : Int) by omega, atI_ofNat]; rfl, .inl rfl⟩
      · exact ⟨9, by rw [show ((x : Int) / 45 % 2) = ((1 : Nat) : Int) by omega, atI_ofNat]; rfl, .inr rfl⟩
    have hmod : modO ((x : Int) / 5) (m : Int) = some (((x / 5 % m : Nat) : Int)) := by
      unfold modO
      rw [if_pos (by omega)]
      simp
    refine ⟨rs ++ [(i, j, 1 + x / 5 % m)], ?_, .inr ⟨_, rfl, by omega, ?_⟩⟩
    · simp [L_law_town_b1, hx, e5, h, hm, hmod, appO, hr, roadI]
    · have := Nat.mod_lt (x / 5) (show 0 < m by omega)
      omega
  · exact ⟨rs, by simp [L_law_town_b1, hx, e5, h], .inl rfl⟩
theorem town_b2 {N : Nat} {ds : List Int} (hd : Drawn N ds) {n i : Nat} {rs : Rds} (hN : 1 + pairs n n ≤ N) (hn : n ≤ 1000) (hi : i < n) (hr : rs.length ≤ 1000 * i) (ht : TownTo n i 0 rs) :
    ∃ rs', L_law_town_b2 ds (n : Int) ((1 + pairs n i : Nat) : Int) (rs.map roadI) (i : Int) = some (((1 + pairs n (i + 1) : Nat) : Int), rs'.map roadI) ∧ rs'.length ≤ 1000 * (i + 1) ∧ TownTo n (i + 1) 0 rs' := by
  have hp := pairs_le (n := n) (i := i + 1) (m := n) (by omega)
  have hl := loop_nat (f := fun s x => L_law_town_b1 ds (i : Int) s.1 s.2 x) (lo := (i : Int) + 1) (n := n - 1 - i) (s := (rs.map roadI, ((1 + pairs n i : Nat) : Int)))
    (fun j s => ∃ rs', s = (rs'.map roadI, ((1 + pairs n i + j : Nat) : Int)) ∧ rs'.length ≤ 1000 * i + j ∧ TownTo n i (i + 1 + j) rs') ⟨rs, rfl, by omega, townTo_skip ht (by omega)⟩ ?_
  · obtain ⟨s, e1, rs', rfl, e2, e3⟩ := hl
    refine ⟨rs', ?_, by omega, townTo_skip e3 (by omega)⟩
    unfold L_law_town_b2
    rw [range2_small (by omega) (by omega) (by omega) (by omega), Option.bind_some, show ((n : Int) - ((i : Int) + 1)).toNat = n - 1 - i by omega, e1]
    rw [Option.bind_some]
    rw [Nat.add_assoc]
    rfl
  · rintro j s hj ⟨rs', rfl, e1, e2⟩
    have hps : pairs n (i + 1) = pairs n i + (n - 1 - i) := rfl
    obtain ⟨rs2, q1, q2⟩ := town_b1 hd (k := 1 + pairs n i + j) (i := i) (j := i + 1 + j) (rs := rs') (by omega) (by omega)
    refine ⟨_, by rw [show (i : Int) + 1 + (j : Int) = ((i + 1 + j : Nat) : Int) by omega]; exact q1, rs2, by rw [Nat.add_assoc], ?_, ?_⟩
    · rcases q2 with rfl | ⟨l, rfl, _, _⟩
      · omega
      · rw [List.length_append, List.length_singleton]; omega
    · rcases q2 with rfl | ⟨l, rfl, l1, l2⟩
      · exact townTo_skip e2 (by omega)
      · exact townTo_step (j := i + 1 + j) e2 (by omega) (by omega) l1 l2
/-- the town that is drawn -/
theorem town_I {N : Nat} {ds : List Int} (hd : Drawn N ds) {most : Nat} (h1 : 1 ≤ most) (h2 : most ≤ 1000) (hN : ∀ n, n ≤ most → 1 + pairs n n ≤ N) :
    ∃ n rs, Town n rs ∧ n ≤ most ∧ L_law_town ds (most : Int) = some (townI n rs) := by
  obtain ⟨x, hx, hx1⟩ := draw_I hd (k := 0) (by have := hN 0 (by omega); omega)
  have hm : x % most < most := Nat.mod_lt _ h1
  have hmod : modO (x : Int) (most : Int) = some ((x % most : Nat) : Int) := by
    unfold modO
    rw [if_pos (by omega)]
    simp
  generalize hn : 1 + x % most = n at *
  have hl := loop_nat0 (f := fun s x => L_law_town_b2 ds (n : Int) s.1 s.2 x) (n := n) (s := ((1 : Int), ([] : List (Int × Int × Int))))
    (fun i s => ∃ rs', s = (((1 + pairs n i : Nat) : Int), rs'.map roadI) ∧ rs'.length ≤ 1000 * i ∧ TownTo n i 0 rs') ⟨[], rfl, by simp, fun r hr => (nomatch hr), List.Pairwise.nil⟩ ?_
  · obtain ⟨s, e1, rs, rfl, e2, e3⟩ := hl
    refine ⟨n, rs, ⟨by omega, fun r hr => ?_, e3.2⟩, by omega, ?_⟩
    · obtain ⟨a, b, c, d, _⟩ := e3.1 r hr
      exact ⟨a, b, c, d⟩
    · have hx' : atI ds 0 = some (x : Int) := hx
      unfold L_law_town
      rw [hx', Option.bind_some, hmod, Option.bind_some]
      simp only [letO_eq]
      rw [show (1 : Int) + ((x % most : Nat) : Int) = (n : Int) by omega, range1_nat (by omega), Option.bind_some, e1]
      rfl
  · rintro i s hi ⟨rs', rfl, e1, e2⟩
    obtain ⟨rs2, q1, q2, q3⟩ := town_b2 hd (n := n) (i := i) (rs := rs') (hN n (by omega)) (by omega) hi e1 e2
    exact ⟨_, q1, rs2, rfl, q2, q3⟩
end Va

/-! Nt2: ways, as plain programs. -/
namespace Va
open PySem L2 PyProof.Rows PySem.W PySem.Calls
/-! ### tables -/
def optI (o : Option Nat) : Option Int := o.map fun v => (v : Int)
@[simp] theorem optI_none : optI none = none := rfl
@[simp] theorem optI_some {v : Nat} : optI (some v) = some (v : Int) := rfl
@[simp] theorem optI_isSome {o : Option Nat} : (optI o).isSome = o.isSome := by cases o <;> rfl
@[simp] theorem optI_isNone {o : Option Nat} : (optI o).isNone = o.isNone := by cases o <;> rfl
def rowI (n : Nat) (g : Nat → Option Nat) : List (Option Int) := (List.range n).map fun j => optI (g j)
def matI (n : Nat) (G : Nat → Nat → Option Nat) : List (List (Option Int)) := (List.range n).map fun i => rowI n (G i)
section
variable {n i j m : Nat} {g : Nat → Option Nat} {G : Nat → Nat → Option Nat} {v o : Option Nat} {k : Nat}
@[simp] theorem rowI_len : (rowI n g).length = n := by simp [rowI]
@[simp] theorem matI_len : (matI n G).length = n := by simp [matI]
theorem rowI_get (h : j < n) : (rowI n g)[j]? = some (optI (g j)) := by simp [rowI, h]
theorem matI_get (h : i < n) : (matI n G)[i]? = some (rowI n (G i)) := by simp [matI, h]
theorem rowI_at (h : j < n) : atI (rowI n g) (j : Int) = some (optI (g j)) := by rw [atI_ofNat, rowI_get h]
theorem matI_at (h : i < n) : atI (matI n G) (i : Int) = some (rowI n (G i)) := by rw [atI_ofNat, matI_get h]
theorem rowI_set (h : j < n) : setO (rowI n g) (j : Int) (optI v) = some (rowI n (upd1 g j v)) := by
  rw [setO_ofNat (by rw [rowI_len]; exact h)]
  congr 1
  refine List.ext_getElem? fun a => ?_
  rw [List.getElem?_set]
  by_cases ha : a < n
  · by_cases e : j = a
    · subst e
      simp [rowI, ha, upd1]
    · simp [rowI, ha, upd1, e, Ne.symm e]
  · simp [rowI, ha]
    omega
theorem matI_set (hi : i < n) (hj : j < n) : set2O (matI n G) (i : Int) (j : Int) (optI v) = some (matI n (upd2 G i j v)) := by
  unfold set2O
  rw [matI_at hi, Option.bind_some, rowI_set hj, Option.bind_some, setO_ofNat (by rw [matI_len]; exact hi)]
  congr 1
  refine List.ext_getElem? fun a => ?_
  rw [List.getElem?_set]
  by_cases ha : a < n
  · by_cases e : i = a
    · subst e
      simp [matI, ha, upd2_row]
    · simp [matI, ha, upd2_row, e, Ne.symm e]
  · simp [matI, ha]
    omega
theorem upd2_same : upd2 G i j (G i j) = G := by
  funext a b
  unfold upd2
  split
  · rename_i h; rw [h.1, h.2]
  · rfl
theorem upd1_same : upd1 g j (g j) = g := by
  funext a
  unfold upd1
  split
  · rename_i h; rw [h]
  · rfl

/-- behind the roads ys -/
structure Rw (n : Nat) (ys : Rds) (G : Nat → Nat → Option Nat) : Prop where
  real : ∀ i j v, G i j = some v → (i = j ∧ v = 0) ∨ Ed ys i j v
  road : ∀ i j l, Ed ys i j l → G i j = some l
  self : ∀ i, G i i = some 0
theorem Town.mem_of {n : Nat} {rs : Rds} (T : Town n rs) {ys : Rds} (hy : ys <+: rs) {r : Nat × Nat × Nat} (h : r ∈ ys) : r ∈ rs := hy.subset h
theorem Town.fresh {n : Nat} {rs : Rds} (T : Town n rs) {ys : Rds} {r : Nat × Nat × Nat} (hy : ys ++ [r] <+: rs) : ∀ i j l, Ed ys i j l → ¬ (i = r.1 ∧ j = r.2.1) ∧ ¬ (i = r.2.1 ∧ j = r.1) := by
  have key : ∀ s ∈ ys, ¬ (s.1 = r.1 ∧ s.2.1 = r.2.1) ∧ s.1 < s.2.1 := fun s hs => by
    have hp := (T.asc.sublist hy.sublist)
    have := (List.pairwise_append.mp hp).2.2 s hs r (by simp)
    exact ⟨by omega, (T.road s (hy.subset (List.mem_append_left _ hs))).1⟩
  have hr := (T.road r (hy.subset (by simp))).1
  intro i j l e
  rcases e with e | e
  · have := key _ e
    simp only at this
    omega
  · have := key _ e
    simp only at this
    omega
theorem Rw.step {n : Nat} {rs : Rds} (T : Town n rs) {ys : Rds} {r : Nat × Nat × Nat} (hy : ys ++ [r] <+: rs) {G : Nat → Nat → Option Nat} (h : Rw n ys G) :
    Rw n (ys ++ [r]) (upd2 (upd2 G r.1 r.2.1 (some r.2.2)) r.2.1 r.1 (some r.2.2)) := by
  have hr := (T.road r (hy.subset (by simp))).1
  have fr := T.fresh hy
  refine ⟨fun i j v e => ?_, fun i j l e => ?_, fun i => ?_⟩
  · unfold upd2 at e
    split at e
    · rename_i q
      cases e
      exact .inr (.inr (by rw [q.1, q.2]; simp))
    · split at e
      · rename_i q
        cases e
        exact .inr (.inl (by rw [q.1, q.2]; simp))
      · rcases h.real i j v e with z | z
        · exact .inl z
        · exact .inr (z.imp (List.mem_append_left _) (List.mem_append_left _))
  · unfold upd2
    have hc : Ed ys i j l ∨ ((i, j, l) = r ∨ (j, i, l) = r) := by
      rcases e with e | e <;> rcases List.mem_append.mp e with e | e
      · exact .inl (.inl e)
      · exact .inr (.inl (List.mem_singleton.mp e))
      · exact .inl (.inr e)
      · exact .inr (.inr (List.mem_singleton.mp e))
    rcases hc with hc | hc | hc
    · obtain ⟨f1, f2⟩ := fr i j l hc
      rw [if_neg f2, if_neg f1]
      exact h.road i j l hc
    · subst hc
      simp only at hr ⊢
      rw [if_neg (by omega), if_pos ⟨trivial, trivial⟩]
    · subst hc
      simp only at hr ⊢
      rw [if_pos ⟨trivial, trivial⟩]
  · unfold upd2
    rw [if_neg (by omega), if_neg (by omega)]
    exact h.self i
theorem Rw.fw {n : Nat} {rs : Rds} {G : Nat → Nat → Option Nat} (h : Rw n rs G) : Fw rs n 0 G := by
  refine ⟨fun i j v _ _ e => (h.real i j v e).imp id fun z => .one z, fun i j L _ _ w => ?_, fun i _ => h.self i⟩
  cases w with
  | one e => exact ⟨L, h.road i j L e, Nat.le_refl _⟩
  | step e hx _ => exact absurd hx (Nat.not_lt_zero _)
def start2 (i j : Nat) : Option Nat := if i = j then some 0 else none
theorem rw_start {n : Nat} : Rw n [] start2 := by
  refine ⟨fun i j v e => ?_, fun i j l e => ?_, fun i => ?_⟩
  · unfold start2 at e
    split at e
    · rename_i q
      cases e
      exact .inl ⟨q, rfl⟩
    · cases e
  · rcases e with e | e <;> cases e
  · unfold start2
    rw [if_pos rfl]

/-! ### the program's ways -/
theorem ways_b1 {n : Nat} {r : Nat × Nat × Nat} {G : Nat → Nat → Option Nat} (h1 : r.1 < n) (h2 : r.2.1 < n) :
    L_ways_b1 (matI n G) (r.1 : Int) (r.2.1 : Int) (r.2.2 : Int) = some (matI n (upd2 (upd2 G r.1 r.2.1 (some r.2.2)) r.2.1 r.1 (some r.2.2))) := by
  have e1 := matI_set (G := G) (v := some r.2.2) h1 h2
  have e2 := matI_set (G := upd2 G r.1 r.2.1 (some r.2.2)) (v := some r.2.2) h2 h1
  rw [optI_some] at e1 e2
  unfold L_ways_b1
  rw [e1, Option.bind_some, e2, Option.bind_some]
theorem ways_b2 {n i j m : Nat} {G : Nat → Nat → Option Nat} (hi : i < n) (hj : j < n) (hm : m < n) :
    L_ways_b2 (i : Int) (m : Int) (matI n G) (j : Int) = some (matI n (upd2 G i j (rlx (G i j) (oadd (G i m) (G m j))))) := by
  have hu := upd2_same (G := G) (i := i) (j := j)
  cases e1 : G i m with
  | none => simp [L_ways_b2, matI_at, rowI_at, hi, hj, hm, e1, oadd, rlx, hu]
  | some a =>
    cases e2 : G m j with
    | none => simp [L_ways_b2, matI_at, rowI_at, hi, hj, hm, e1, e2, oadd, rlx, hu]
    | some b =>
      have hs := matI_set (G := G) (v := some (a + b)) hi hj
      simp only [optI_some, Int.natCast_add] at hs
      cases e3 : G i j with
      | none => simp [L_ways_b2, matI_at, rowI_at, hi, hj, hm, e1, e2, e3, oadd, rlx, hs]
      | some c =>
        rw [e3] at hu
        by_cases hc : a + b < c
        · have hc' : (a : Int) + (b : Int) < (c : Int) := by omega
          simp [L_ways_b2, matI_at, rowI_at, hi, hj, hm, e1, e2, e3, oadd, rlx, hc, hc', hs]
        · have hc' : ¬ (a : Int) + (b : Int) < (c : Int) := by omega
          simp [L_ways_b2, matI_at, rowI_at, hi, hj, hm, e1, e2, e3, oadd, rlx, hc, hc', hu]
theorem ways_b3 {rs : Rds} {n i m : Nat} {G0 G : Nat → Nat → Option Nat} (hn : n ≤ 1000) (hi : i < n) (hm : m < n) (h : FwIn rs n m G0 i 0 G) :
    ∃ G', L_ways_b3 (n : Int) (m : Int) (matI n G) (i : Int) = some (matI n G') ∧ FwIn rs n m G0 (i + 1) 0 G' := by
  obtain ⟨s, e1, G', rfl, h2⟩ := loop_nat0 (f := fun s x => L_ways_b2 (i : Int) (m : Int) s x) (n := n) (s := matI n G) (fun j s => ∃ G', s = matI n G' ∧ FwIn rs n m G0 i j G') ⟨G, rfl, h⟩ (by
    rintro j s hj ⟨G', rfl, h1⟩
    exact ⟨_, ways_b2 hi hj hm, _, rfl, h1.step hm hi hj⟩)
  refine ⟨G', ?_, h2.row⟩
  unfold L_ways_b3
  rw [range1_nat (by omega), Option.bind_some, e1]
  rfl
theorem ways_b4 {rs : Rds} {n m : Nat} {G : Nat → Nat → Option Nat} (hn : n ≤ 1000) (hm : m < n) (h : Fw rs n m G) :
    ∃ G', L_ways_b4 (n : Int) (matI n G) (m : Int) = some (matI n G') ∧ Fw rs n (m + 1) G' := by
  obtain ⟨s, e1, G', rfl, h2⟩ := loop_nat0 (f := fun s x => L_ways_b3 (n : Int) (m : Int) s x) (n := n) (s := matI n G) (fun i s => ∃ G', s = matI n G' ∧ FwIn rs n m G i 0 G') ⟨G, rfl, h.into⟩ (by
    rintro i s hi ⟨G', rfl, h1⟩
    obtain ⟨G2, q1, q2⟩ := ways_b3 hn hi hm h1
    exact ⟨_, q1, G2, rfl, q2⟩)
  refine ⟨G', ?_, h2.out h hm⟩
  unfold L_ways_b4
  rw [range1_nat (by omega), Option.bind_some, e1]
  rfl
theorem rangeI_nat {n : Nat} : rangeI 0 n = (List.range n).map fun i => ((i : Nat) : Int) := by simp [rangeI]
theorem ways_init {n : Nat} (hn : n ≤ 1000) : mapO (fun x => (range1 (n : Int)).bind fun l2 => (chk (decide (l2.length ≤ 1000000))).bind fun u => some (l2.map fun x2 => (if decide (x = x2) = true then (some (0 : Int)) else (none : (Option Int))))) (rangeI 0 n) = some (matI n start2) := by
  rw [range1_nat (by omega)]
  rw [mapO_map (g := fun x => (rangeI 0 n).map fun x2 => if x = x2 then some (0 : Int) else none) (fun x _ => by
    rw [Option.bind_some, rangeI_len, chk_le (by omega), Option.bind_some]
    simp)]
  congr 1
  simp only [rangeI_nat, matI, rowI, List.map_map]
  refine List.map_congr_left fun i hi => ?_
  simp only [Function.comp_apply, List.map_map]
  refine List.map_congr_left fun j hj => ?_
  simp only [Function.comp_apply, start2]
  by_cases e : i = j
  · subst e; simp
  · have : ¬ (i : Int) = (j : Int) := by omega
    simp [e, this]
theorem ways_I {n : Nat} {rs : Rds} (T : Town n rs) (hn : n ≤ 1000) : ∃ G, L_ways (townI n rs) = some (matI n G) ∧ ∀ i j, i < n → j < n → Dst rs n i j (G i j) := by
  obtain ⟨s1, e1, G1, rfl, r1⟩ := loop_to (f := fun s x3 => L_ways_b1 s x3.1 x3.2.1 x3.2.2) (e := roadI) (xs := rs) (s := matI n start2) (fun ys s => ∃ G, s = matI n G ∧ Rw n ys G) ⟨_, rfl, rw_start⟩ (by
    rintro ys r s hy ⟨G, rfl, h1⟩
    obtain ⟨a, b, c, d⟩ := T.road r (hy.subset (by simp))
    exact ⟨_, ways_b1 (r := r) (by omega) b, _, rfl, h1.step T hy⟩)
  obtain ⟨s2, e2, G2, rfl, r2⟩ := loop_nat0 (f := fun s3 x4 => L_ways_b4 (n : Int) s3 x4) (n := n) (s := matI n G1) (fun m s => ∃ G, s = matI n G ∧ Fw rs n m G) ⟨_, rfl, r1.fw⟩ (by
    rintro m s hm ⟨G, rfl, h1⟩
    obtain ⟨G', q1, q2⟩ := ways_b4 hn hm h1
    exact ⟨_, q1, G', rfl, q2⟩)
  refine ⟨G2, ?_, fun i j hi hj => r2.dst hi hj⟩
  unfold L_ways townI
  simp only
  have hr : range1 (n : Int) = some (rangeI 0 n) := range1_nat (by omega)
  have hi := ways_init hn
  rw [hr] at hi ⊢
  rw [Option.bind_some, rangeI_len, chk_le (by omega), Option.bind_some, hi, Option.bind_some, e1, Option.bind_some, Option.bind_some, e2]
  rfl
/-! ### the law's ways -/
def relax (g : Nat → Option Nat) (a b l : Nat) : Nat → Option Nat := upd1 g b (rlx (g b) (oadd (g a) (some l)))
theorem lw_b1 {n a b l : Nat} {g : Nat → Option Nat} (ha : a < n) (hb : b < n) : L_law_ways_b1 (l : Int) (rowI n g) (a : Int) (b : Int) = some (rowI n (relax g a b l)) := by
  have hu := upd1_same (g := g) (j := b)
  cases e1 : g a with
  | none => simp [L_law_ways_b1, rowI_at, ha, hb, e1, oadd, rlx, relax, hu]
  | some x =>
    have hs := rowI_set (g := g) (v := some (x + l)) hb
    simp only [optI_some, Int.natCast_add] at hs
    cases e2 : g b with
    | none => simp [L_law_ways_b1, rowI_at, ha, hb, e1, e2, oadd, rlx, relax, hs]
    | some y =>
      rw [e2] at hu
      by_cases hc : x + l < y
      · have hc' : (x : Int) + (l : Int) < (y : Int) := by omega
        simp [L_law_ways_b1, rowI_at, ha, hb, e1, e2, oadd, rlx, relax, hc, hc', hs]
      · have hc' : ¬ (x : Int) + (l : Int) < (y : Int) := by omega
        simp [L_law_ways_b1, rowI_at, ha, hb, e1, e2, oadd, rlx, relax, hc, hc', hu]
def dirs (r : Nat × Nat × Nat) : Rds := [(r.1, r.2.1, r.2.2), (r.2.1, r.1, r.2.2)]

theorem lw_b2 {n s : Nat} {rs : Rds} {g0 g : Nat → Option Nat} {D : Rds} {r : Nat × Nat × Nat} (h : BfIn rs n s g0 D g) (h1 : r.1 < n) (h2 : r.2.1 < n) (hr : r ∈ rs) :
    ∃ g', L_law_ways_b2 (rowI n g) (r.1 : Int) (r.2.1 : Int) (r.2.2 : Int) = some (rowI n g') ∧ BfIn rs n s g0 (D ++ dirs r) g' := by
  refine ⟨relax (relax g r.1 r.2.1 r.2.2) r.2.1 r.1 r.2.2, ?_, ?_⟩
  · unfold L_law_ways_b2
    simp only [loopO, lw_b1 h1 h2, lw_b1 h2 h1, Option.bind_some]
  · have a := h.step h1 h2 (l := r.2.2) (.inl hr)
    have b := a.step h2 h1 (l := r.2.2) (.inr hr)
    rw [List.append_assoc] at b
    exact b
theorem lw_b3 {n s t : Nat} {rs : Rds} (T : Town n rs) {g : Nat → Option Nat} {z : Int} (h : Bf rs n s t g) :
    ∃ g', L_law_ways_b3 (rs.map roadI) (rowI n g) z = some (rowI n g') ∧ Bf rs n s (t + 1) g' := by
  obtain ⟨s1, e1, g', rfl, r1⟩ := loop_to (f := fun s x => L_law_ways_b2 s x.1 x.2.1 x.2.2) (e := roadI) (xs := rs) (s := rowI n g) (fun ys st => ∃ g', st = rowI n g' ∧ BfIn rs n s g (ys.flatMap dirs) g') ⟨_, rfl, h.into⟩ (by
    rintro ys r st hy ⟨g', rfl, h1⟩
    have hr : r ∈ rs := hy.subset (by simp)
    obtain ⟨a, b, _⟩ := T.road r hr
    obtain ⟨g2, q1, q2⟩ := lw_b2 h1 (by omega) b hr
    exact ⟨_, q1, g2, rfl, by rw [List.flatMap_append]; simpa using q2⟩)
  refine ⟨g', ?_, r1.out h (fun i j l e => ?_) fun i j l e => ?_⟩
  · unfold L_law_ways_b3
    rw [e1]
    rfl
  · rcases e with e | e
    · obtain ⟨a, b, _⟩ := T.road _ e
      simp only at a b
      omega
    · obtain ⟨a, b, _⟩ := T.road _ e
      simp only at a b
      omega
  · rcases e with e | e
    · exact List.mem_flatMap.mpr ⟨_, e, by simp [dirs]⟩
    · exact List.mem_flatMap.mpr ⟨_, e, by simp [dirs]⟩
theorem bf_start {rs : Rds} {n s : Nat} : Bf rs n s 0 (start2 s) := by
  refine ⟨fun j v hj e => ?_, fun t' j L ht hj w => ?_⟩
  · unfold start2 at e
    split at e
    · rename_i q
      cases e
      exact .inl ⟨q, rfl⟩
    · cases e
  · cases Nat.le_zero.mp ht
    cases w
    exact ⟨0, by unfold start2; rw [if_pos rfl], Nat.le_refl _⟩
theorem upd_none {s : Nat} : upd1 (fun _ => none) s (some 0) = start2 s := by
  funext j
  unfold upd1 start2
  by_cases h : j = s
  · subst h; simp
  · simp [h, Ne.symm h]

theorem nones {n : Nat} : (List.replicate n [(none : Option Int)]).flatten = rowI n (fun _ => none) := by
  induction n with
  | zero => rfl
  | succ n ih =>
    rw [List.replicate_succ', List.flatten_append, ih]
    simp [rowI, List.range_succ]
theorem lw_b4 {n s : Nat} {rs : Rds} (T : Town n rs) (hn : n ≤ 1000) (hs : s < n) {G : Nat → Nat → Option Nat} :
    ∃ g, L_law_ways_b4 (n : Int) (rs.map roadI) ((List.range s).map fun s => rowI n (G s)) (s : Int) = some (((List.range s).map fun s => rowI n (G s)) ++ [rowI n g]) ∧ Bf rs n s n g := by
  obtain ⟨s1, e1, g, rfl, r1⟩ := loop_nat0 (f := fun s x => L_law_ways_b3 (rs.map roadI) s x) (n := n) (s := rowI n (start2 s)) (fun t st => ∃ g, st = rowI n g ∧ Bf rs n s t g) ⟨_, rfl, bf_start⟩ (by
    rintro t st ht ⟨g, rfl, h1⟩
    obtain ⟨g2, q1, q2⟩ := lw_b3 T (z := (t : Int)) h1
    exact ⟨_, q1, g2, rfl, q2⟩)
  refine ⟨g, ?_, r1⟩
  have hr : repO [(none : Option Int)] (n : Int) = some (rowI n fun _ => none) := by
    unfold repO
    rw [if_pos ⟨by omega, by omega, by simp; omega⟩, Int.toNat_natCast, nones]
  have hs' := rowI_set (g := fun _ => none) (v := some 0) hs
  rw [upd_none] at hs'
  unfold L_law_ways_b4
  rw [hr, Option.bind_some]
  have h0 : (some (0 : Int)) = optI (some 0) := rfl
  rw [h0, hs', Option.bind_some, range1_nat (by omega), Option.bind_some, e1, Option.bind_some, appO_lt (by simp; omega)]
  rfl
theorem law_ways_I {n : Nat} {rs : Rds} (T : Town n rs) (hn : n ≤ 1000) : ∃ G, L_law_ways (townI n rs) = some (matI n G) ∧ ∀ i j, i < n → j < n → Dst rs n i j (G i j) := by
  obtain ⟨s1, e1, G, rfl, r1⟩ := loop_nat0 (f := fun s x => L_law_ways_b4 (n : Int) (rs.map roadI) s x) (n := n) (s := []) (fun i st => ∃ G, st = ((List.range i).map fun s => rowI n (G s)) ∧ ∀ j, j < i → Bf rs n j n (G j)) ⟨fun _ _ => none, rfl, fun j hj => by omega⟩ (by
    rintro i st hi ⟨G, rfl, h1⟩
    obtain ⟨g, q1, q2⟩ := lw_b4 T hn hi (G := G)
    refine ⟨_, q1, fun j => if j = i then g else G j, ?_, fun j hj => ?_⟩
    · rw [List.range_succ, List.map_append, List.map_singleton]
      simp only [if_true]
      congr 1
      refine List.map_congr_left fun j hj => ?_
      have := List.mem_range.mp hj
      rw [if_neg (by omega)]
    · simp only
      split
      · rename_i e; subst e; exact q2
      · exact h1 j (by omega))
  refine ⟨G, ?_, fun i j hi hj => (r1 i hi).dst hi hj⟩
  unfold L_law_ways townI
  simp only [letO_eq]
  rw [range1_nat (by omega), Option.bind_some, e1]
  rfl
/-- both tell the same table -/
theorem matI_congr {n : Nat} {G G' : Nat → Nat → Option Nat} (h : ∀ i j, i < n → j < n → G i j = G' i j) : matI n G = matI n G' := by
  refine List.map_congr_left fun i hi => List.map_congr_left fun j hj => ?_
  rw [h i j (List.mem_range.mp hi) (List.mem_range.mp hj)]
theorem ways_both {n : Nat} {rs : Rds} (T : Town n rs) (hn : n ≤ 1000) : ∃ G, L_ways (townI n rs) = some (matI n G) ∧ L_law_ways (townI n rs) = some (matI n G) ∧ ∀ i j, i < n → j < n → Dst rs n i j (G i j) := by
  obtain ⟨G, h1, h2⟩ := ways_I T hn
  obtain ⟨G', k1, k2⟩ := law_ways_I T hn
  refine ⟨G, h1, ?_, h2⟩
  rw [k1, matI_congr fun i j hi hj => ((h2 i j hi hj).uniq (k2 i j hi hj)).symm]
end
end Va

/-! Nm1: order, slices, what may be shown: plain lemmas. -/
namespace Va
open PySem L2 PyProof.Rows PySem.W PySem.Calls
/-! ### order -/
structure OrdL {α : Type} (lt : α → α → Bool) : Prop where
  irr : ∀ a, lt a a = false
  tr : ∀ a b c, lt a b = true → lt b c = true → lt a c = true
  tri : ∀ a b, lt a b = true ∨ a = b ∨ lt b a = true
section
variable {α β : Type} {lt : α → α → Bool} {m : β → β → Bool}
theorem OrdL.asym (O : OrdL lt) {a b : α} (h : lt a b = true) : lt b a = false := by
  cases e : lt b a with
  | false => rfl
  | true => have := O.tr a b a h e; rw [O.irr] at this; cases this
theorem OrdL.eq_of (O : OrdL lt) {a b : α} (h : lt a b = false) (k : lt b a = false) : a = b := by
  rcases O.tri a b with z | z | z
  · rw [h] at z; cases z
  · exact z
  · rw [k] at z; cases z
theorem OrdL.le_tr (O : OrdL lt) (a b c : α) (h : (!lt b a) = true) (k : (!lt c b) = true) : (!lt c a) = true := by
  simp only [Bool.not_eq_true'] at *
  cases e : lt c a with
  | false => rfl
  | true =>
    rcases O.tri a b with z | z | z
    · have := O.tr c a b e z; rw [k] at this; cases this
    · subst z; rw [k] at e; cases e
    · rw [h] at z; cases z
theorem OrdL.le_tot (O : OrdL lt) (a b : α) : ((!lt b a) || (!lt a b)) = true := by
  cases e : lt b a with
  | false => rfl
  | true => rw [O.asym e]; rfl
theorem sortI_perm' (xs : List α) : (sortI lt xs).Perm xs := List.mergeSort_perm _ _
@[simp] theorem mem_sortI {xs : List α} {x : α} : x ∈ sortI lt xs ↔ x ∈ xs := (sortI_perm' xs).mem_iff
@[simp] theorem sortI_len {xs : List α} : (sortI lt xs).length = xs.length := (sortI_perm' xs).length_eq
theorem sortI_sorted (O : OrdL lt) (xs : List α) : (sortI lt xs).Pairwise fun a b => lt b a = false := by
  have := List.pairwise_mergeSort (le := fun a b => !lt b a) (fun a b c h k => O.le_tr a b c h k) (fun a b => O.le_tot a b) xs
  exact this.imp fun h => by simpa using h
/-- a sorted permutation is the sorted list -/
theorem sortI_of (O : OrdL lt) {xs ys : List α} (h : ys.Perm xs) (s : ys.Pairwise fun a b => lt b a = false) : sortI lt xs = ys := by
  refine ((sortI_perm' xs).trans h.symm).eq_of_pairwise (le := fun a b => lt b a = false) ?_ (sortI_sorted O xs) s
  intro a b _ _ h1 h2
  exact O.eq_of h2 h1
theorem sortI_perm (O : OrdL lt) {xs ys : List α} (h : xs.Perm ys) : sortI lt xs = sortI lt ys := sortI_of O ((sortI_perm' ys).trans h.symm) (sortI_sorted O ys)
theorem sortI_id (O : OrdL lt) {xs : List α} (s : xs.Pairwise fun a b => lt b a = false) : sortI lt xs = xs := sortI_of O (.refl _) s
/-- where none stands twice: strictly rising -/
theorem sortI_lt (O : OrdL lt) {xs : List α} (h : xs.Nodup) : (sortI lt xs).Pairwise fun a b => lt a b = true := by
  have n : (sortI lt xs).Nodup := (sortI_perm' xs).nodup_iff.mpr h
  have s := sortI_sorted O xs
  exact (List.Pairwise.and n s).imp fun {a b} ⟨h1, h2⟩ => by
    rcases O.tri a b with z | z | z
    · exact z
    · exact absurd z h1
    · rw [h2] at z; cases z
/-- two rising lists with the same items are one -/
theorem rising_eq (O : OrdL lt) {xs ys : List α} (hx : xs.Pairwise fun a b => lt a b = true) (hy : ys.Pairwise fun a b => lt a b = true) (h : ∀ a, a ∈ xs ↔ a ∈ ys) : xs = ys := by
  have ne : ∀ {zs : List α}, zs.Pairwise (fun a b => lt a b = true) → zs.Nodup := fun hz => hz.imp fun {a b} q e => by subst e; rw [O.irr] at q; cases q
  have p : xs.Perm ys := (List.perm_ext_iff_of_nodup (ne hx) (ne hy)).mpr h
  have w : ∀ {zs : List α}, zs.Pairwise (fun a b => lt a b = true) → zs.Pairwise fun a b => lt b a = false := fun hz => hz.imp fun q => O.asym q
  rw [← sortI_id O (w hx), ← sortI_id O (w hy), sortI_perm O p]
theorem ordI : OrdL ltI := ⟨fun a => by simp [ltI], fun a b c h k => by simp only [ltI, decide_eq_true_eq] at *; omega, fun a b => by simp only [ltI, decide_eq_true_eq]; omega⟩
theorem ord2 [DecidableEq α] (O : OrdL lt) (Q : OrdL m) : OrdL (lt2 lt m) := by
  refine ⟨fun a => by simp [lt2, Q.irr], fun a b c h k => ?_, fun a b => ?_⟩
  · unfold lt2 at *
    by_cases e : a.1 = b.1
    · by_cases f : b.1 = c.1
      · rw [if_pos e] at h; rw [if_pos f] at k; rw [if_pos (e.trans f)]; exact Q.tr _ _ _ h k
      · rw [if_neg f] at k; rw [if_neg (by rw [e]; exact f), e]; exact k
    · rw [if_neg e] at h
      by_cases f : b.1 = c.1
      · rw [if_neg (by rw [← f]; exact e), ← f]; exact h
      · rw [if_neg f] at k
        have := O.tr _ _ _ h k
        rw [if_neg (by intro z; rw [z, O.irr] at this; cases this)]
        exact this
  · unfold lt2
    by_cases e : a.1 = b.1
    · rw [if_pos e, if_pos e.symm]
      rcases Q.tri a.2 b.2 with z | z | z
      · exact .inl z
      · exact .inr (.inl (Prod.ext e z))
      · exact .inr (.inr z)
    · rw [if_neg e, if_neg (fun z => e z.symm)]
      rcases O.tri a.1 b.1 with z | z | z
      · exact .inl z
      · exact absurd z e
      · exact .inr (.inr z)
theorem ordL [DecidableEq α] (O : OrdL lt) : OrdL (ltL lt) := by
  refine ⟨ltL_irr, ?_, ?_⟩
  · intro a
    induction a with
    | nil => intro b c h k; cases c with
      | nil => cases b <;> simp [ltL] at k
      | cons => rfl
    | cons x a ih =>
      intro b c h k
      cases b with
      | nil => simp [ltL] at h
      | cons y b =>
        cases c with
        | nil => simp [ltL] at k
        | cons z c =>
          simp only [ltL] at *
          by_cases e : x = y
          · by_cases f : y = z
            · rw [if_pos e] at h; rw [if_pos f] at k; rw [if_pos (e.trans f)]; exact ih _ _ h k
            · rw [if_neg f] at k; rw [if_neg (by rw [e]; exact f), e]; exact k
          · rw [if_neg e] at h
            by_cases f : y = z
            · rw [if_neg (by rw [← f]; exact e), ← f]; exact h
            · rw [if_neg f] at k
              have := O.tr _ _ _ h k
              rw [if_neg (by intro z; rw [z, O.irr] at this; cases this)]
              exact this
  · intro a
    induction a with
    | nil => intro b; cases b with
      | nil => exact .inr (.inl rfl)
      | cons => exact .inl rfl
    | cons x a ih =>
      intro b
      cases b with
      | nil => exact .inr (.inr rfl)
      | cons y b =>
        simp only [ltL]
        by_cases e : x = y
        · rw [if_pos e, if_pos e.symm]
          rcases ih b with z | z | z
          · exact .inl z
          · exact .inr (.inl (by rw [e, z]))
          · exact .inr (.inr z)
        · rw [if_neg e, if_neg (fun z => e z.symm)]
          rcases O.tri x y with z | z | z
          · exact .inl z
          · exact absurd z e
          · exact .inr (.inr z)
end
/-! ### slices -/
section
variable {α β σ : Type}
theorem cutI_to {xs : List α} {k : Nat} : cutI xs none (some (k : Int)) = xs.take k := by
  unfold cutI
  rw [HT.sIx_nat, HT.sIx_none, List.drop_zero, Nat.sub_zero]
  rcases Nat.le_total k xs.length with h | h
  · rw [Nat.min_eq_left h]
  · rw [Nat.min_eq_right h, List.take_length, List.take_of_length_le h]
theorem cutI_from {xs : List α} {k : Nat} : cutI xs (some (k : Int)) none = xs.drop k := by
  unfold cutI
  rw [HT.sIx_nat, HT.sIx_none]
  rcases Nat.le_total k xs.length with h | h
  · rw [Nat.min_eq_left h, List.take_of_length_le (by simp)]
  · rw [Nat.min_eq_right h, Nat.sub_self, List.take_zero, List.drop_of_length_le h]
theorem cutI_mid {xs : List α} {a b : Nat} : cutI xs (some (a : Int)) (some (b : Int)) = (xs.drop a).take (b - a) := by
  unfold cutI
  rw [HT.sIx_nat, HT.sIx_nat]
  rcases Nat.le_total a xs.length with h | h
  · rw [Nat.min_eq_left h]
    rcases Nat.le_total b xs.length with k | k
    · rw [Nat.min_eq_left k]
    · rw [Nat.min_eq_right k, List.take_of_length_le (by simp), List.take_of_length_le (by simp; omega)]
  · rw [Nat.min_eq_right h, List.drop_length, List.drop_of_length_le h, List.take_nil, List.take_nil]
theorem enumI_len : ∀ {xs : List α} {k : Int}, (enumI xs k).length = xs.length
  | [], _ => rfl
  | x :: xs, k => by rw [enumI, List.length_cons, List.length_cons, enumI_len]
/-- a loop over enumerate -/
theorem loop_enum {f : σ → Int × α → Option σ} {xs : List α} {s : σ} (P : Nat → σ → Prop) (h0 : P 0 s) (step : ∀ (i : Nat) (x : α) (s : σ), xs[i]? = some x → P i s → ∃ s', f s ((i : Int), x) = some s' ∧ P (i + 1) s') :
    ∃ s', loopO f (enumI xs 0) s = some s' ∧ P xs.length s' := by
  suffices H : ∀ (ys : List α) (k : Nat) (s : σ), xs.drop k = ys → P k s → ∃ s', loopO f (enumI ys (k : Int)) s = some s' ∧ P (k + ys.length) s' by
    have := H xs 0 s rfl h0
    simpa using this
  intro ys
  induction ys with
  | nil => intro k s _ h; exact ⟨s, rfl, h⟩
  | cons y ys ih =>
    intro k s e h
    have hk : xs[k]? = some y := by rw [← List.head?_drop, e]; rfl
    obtain ⟨s1, e1, h1⟩ := step k y s hk h
    obtain ⟨s2, e2, h2⟩ := ih (k + 1) s1 (by rw [← List.drop_drop, e]; rfl) h1
    refine ⟨s2, ?_, by rw [List.length_cons, show k + (ys.length + 1) = k + 1 + ys.length by omega]; exact h2⟩
    rw [enumI, loopO, e1]
    exact e2
end
/-! ### what may be shown -/
theorem reprO_of {d : PyData} {D W : Nat} (h : Tame D W d) (hD : D ≤ 60) (hW : W ≤ 60000) : reprO d = some d.shown := if_pos (h.reprOk hD hW)
section
variable {α β γ δ : Type} {a : α → PyData} {b : β → PyData} {c : γ → PyData} {D W n : Nat}
theorem Tame.L {xs : List α} (h : ∀ x ∈ xs, Tame D W (a x)) (hn : xs.length ≤ n) : Tame (D + 1) (n * (W + 1)) (EL a xs) := Tame.list (fun d hd => by
  obtain ⟨x, hx, rfl⟩ := List.mem_map.mp hd
  exact h x hx) (by rw [List.length_map]; exact hn)
theorem Tame.T {xs : List α} (h : ∀ x ∈ xs, Tame D W (a x)) (hn : xs.length ≤ n) : Tame (D + 1) (n * (W + 1)) (ET a xs) := Tame.tuple (fun d hd => by
  obtain ⟨x, hx, rfl⟩ := List.mem_map.mp hd
  exact h x hx) (by rw [List.length_map]; exact hn)
theorem Tame.p2 {p : α × β} (h1 : Tame D W (a p.1)) (h2 : Tame D W (b p.2)) : Tame (D + 1) (2 * (W + 1)) (E2 a b p) := Tame.tuple (fun d hd => by
  simp only [List.mem_cons, List.not_mem_nil, or_false] at hd
  rcases hd with rfl | rfl
  · exact h1
  · exact h2) (Nat.le_refl _)
theorem Tame.p3 {p : α × β × γ} (h1 : Tame D W (a p.1)) (h2 : Tame D W (b p.2.1)) (h3 : Tame D W (c p.2.2)) : Tame (D + 1) (3 * (W + 1)) (E3 a b c p) := Tame.tuple (fun d hd => by
  simp only [List.mem_cons, List.not_mem_nil, or_false] at hd
  rcases hd with rfl | rfl | rfl
  · exact h1
  · exact h2
  · exact h3) (Nat.le_refl _)
theorem Tame.o {p : Option α} (h : ∀ x, p = some x → Tame D W (a x)) : Tame D W (EO a p) := by
  cases p with
  | none => exact Tame.none.mono (Nat.zero_le _) (Nat.zero_le _)
  | some x => exact h x rfl
end
theorem Tame.i {x : Int} (h0 : -1000000 ≤ x) (h1 : x ≤ 1000000) : Tame 0 40 (.int x) := Tame.int (by omega)
theorem asc_len : ∀ {xs : List Nat} {lo m : Nat}, xs.Pairwise (· < ·) → (∀ x ∈ xs, lo ≤ x ∧ x < m) → xs.length ≤ m - lo
  | [], _, _, _, _ => Nat.zero_le _
  | x :: xs, lo, m, h, hb => by
    have h0 := hb x (List.mem_cons_self ..)
    have := asc_len (xs := xs) (lo := x + 1) (m := m) (List.pairwise_cons.mp h).2 fun y hy => ⟨(List.pairwise_cons.mp h).1 y hy, (hb y (List.mem_cons_of_mem _ hy)).2⟩
    rw [List.length_cons]
    omega
theorem Town.len {n : Nat} {rs : Rds} (T : Town n rs) : rs.length ≤ n * n := by
  have h := asc_len (xs := rs.map fun r => r.1 * n + r.2.1) (lo := 0) (m := n * n) ?_ ?_
  · rwa [List.length_map] at h
  · refine List.pairwise_map.mpr (T.asc.imp_of_mem fun {r s} hr hs h => ?_)
    obtain ⟨a, b, _⟩ := T.road r hr
    obtain ⟨c, d, _⟩ := T.road s hs
    rcases h with h | ⟨h, k⟩
    · have : (r.1 + 1) * n ≤ s.1 * n := Nat.mul_le_mul_right _ h
      rw [Nat.succ_mul] at this
      omega
    · rw [h]; omega
  · intro x hx
    obtain ⟨r, hr, rfl⟩ := List.mem_map.mp hx
    obtain ⟨a, b, _⟩ := T.road r hr
    refine ⟨Nat.zero_le _, ?_⟩
    have : (r.1 + 1) * n ≤ n * n := Nat.mul_le_mul_right _ (by omega)
    rw [Nat.succ_mul] at this
    omega
abbrev ETown : Int × List (Int × Int × Int) → PyData := E2 PyData.int (EL (E3 PyData.int PyData.int PyData.int))
theorem Town.tame {n : Nat} {rs : Rds} (T : Town n rs) (hn : n ≤ 9) : Tame 3 20090 (ETown (townI n rs)) := by
  refine Tame.p2 (D := 2) (W := 10044) ((Tame.i (by simp only [townI]; omega) (by simp only [townI]; omega)).mono (by omega) (by omega)) ?_
  refine Tame.L (D := 1) (W := 123) (n := 81) (fun x hx => ?_) ?_
  · obtain ⟨r, hr, rfl⟩ := List.mem_map.mp hx
    obtain ⟨a, b, c, d⟩ := T.road r hr
    exact Tame.p3 (D := 0) (W := 40) (Tame.i (by simp only [roadI]; omega) (by simp only [roadI]; omega)) (Tame.i (by simp only [roadI]; omega) (by simp only [roadI]; omega)) (Tame.i (by simp only [roadI]; omega) (by simp only [roadI]; omega))
  · have h1 := T.len
    have h2 : n * n ≤ 9 * 9 := Nat.mul_le_mul hn hn
    simp only [townI, List.length_map]
    omega
end Va

/-! Nz1: words, lines, texts: written and cut again. -/
namespace Va
open PySem L2 PyProof.Rows PySem.W PySem.Calls
def L_law_text (law_lines_here : (List (List Str))) : Option Str := (chk (decide (law_lines_here.length ≤ 1000000))).bind fun u => (mapO (fun x => (joinO (" " : Str) x).bind fun s => (scatO s ("\n" : Str)).bind fun s2 => some s2) law_lines_here).bind fun l => (joinO ("" : Str) l).bind fun s3 => some s3
def L_lines_of (text : Str) : Option ((List Str) × Bool) := (splitO text ("\n" : Str)).bind fun l => (atI l (-(1 : Int))).bind fun x => if decide (x = ("" : Str)) = true then some ((cutI l none (some (-(1 : Int)))), true) else some (l, false)
def L_written (words : (List (Str ⊕ Int))) : Option Str := (chk (decide (words.length ≤ 1000000))).bind fun u => (mapO (fun x => (strU x).bind fun s => some s) words).bind fun l => (joinO (" " : Str) l).bind fun s2 => (scatO s2 ("\n" : Str)).bind fun s3 => some s3
def L_read_number (word : Str) : Option (Option Int) := (chk (decide (word.length ≤ 1000000))).bind fun u => (if (!(decide ((1 : Int) ≤ (word.length : Int)) && decide ((word.length : Int) ≤ (3 : Int)))) = true then some true else (chk (decide ((chrs word).length ≤ 1000000))).bind fun u2 => (mapO (fun x => (inS x ("0123456789" : Str)).bind fun b => some b) (chrs word)).bind fun l => some (!(l.all id))).bind fun b2 => if b2 = true then some (none : (Option Int)) else (atS word (0 : Int)).bind fun s => (if decide (s = ("0" : Str)) = true then (chk (decide (word.length ≤ 1000000))).bind fun u3 => some (decide ((1 : Int) < (word.length : Int))) else some false).bind fun b3 => if b3 = true then some (none : (Option Int)) else (intS word).bind fun n => some (some n)
/-- a word: no blank, no end of line, short -/
structure Wo (x : Str) : Prop where
  sp : 32 ∉ TL.tl x
  nl : 10 ∉ TL.tl x
  len : x.length ≤ 20
def numT (n : Nat) : Str := (toString (n : Int) : Str)
theorem wo_num {n : Nat} (h : n < 10 ^ 20) : Wo (numT n) := by
  refine ⟨?_, ?_, ?_⟩
  · rw [numT, TL.tl_num]; exact TL.numL_free (by omega)
  · rw [numT, TL.tl_num]; exact TL.numL_free (by omega)
  · rw [TL.len_tl, numT, TL.tl_num]; exact TL.numL_len (by omega) h
theorem tl_sp : TL.tl (" " : Str) = [32] := by decide +kernel
theorem tl_nl : TL.tl ("\n" : Str) = [10] := by decide +kernel
theorem tl_no : TL.tl ("" : Str) = [] := by decide +kernel
/-! ### joined -/
theorem joinL_len {S : List Nat} : ∀ {ps : List (List Nat)} {m : Nat}, (∀ p ∈ ps, p.length ≤ m) → (TL.joinL S ps).length ≤ ps.length * (m + S.length)
  | [], m, _ => Nat.zero_le _
  | [p], m, h => by
    have := h p (List.mem_singleton.mpr rfl)
    simp only [TL.joinL, List.length_singleton, Nat.one_mul]
    omega
  | p :: q :: r, m, h => by
    have h1 := h p (List.mem_cons_self ..)
    have h2 := joinL_len (S := S) (ps := q :: r) (m := m) fun z hz => h z (List.mem_cons_of_mem _ hz)
    rw [TL.joinL, List.length_append, List.length_append, List.length_cons (a := p), Nat.succ_mul]
    omega
theorem joinL_mem {S : List Nat} {c : Nat} (hS : c ∉ S) : ∀ {ps : List (List Nat)}, (∀ p ∈ ps, c ∉ p) → c ∉ TL.joinL S ps
  | [], _ => fun h => nomatch h
  | [p], h => h p (List.mem_singleton.mpr rfl)
  | p :: q :: r, h => by
    have h1 := h p (List.mem_cons_self ..)
    have h2 := joinL_mem hS (ps := q :: r) fun z hz => h z (List.mem_cons_of_mem _ hz)
    rw [TL.joinL]
    simp only [List.mem_append, not_or]
    exact ⟨h1, hS, h2⟩
theorem tl_joined (y : Str) (ps : List Str) : TL.tl (Txt.join y ps) = TL.joinL (TL.tl y) (ps.map TL.tl) := by rw [TL.join_eq, TL.tl_join]
theorem sum_le {m : Nat} : ∀ {xs : List Str}, (∀ x ∈ xs, x.length ≤ m) → (xs.map (·.length)).sum ≤ xs.length * m
  | [], _ => Nat.zero_le _
  | x :: xs, h => by
    have h1 := h x (List.mem_cons_self ..)
    have h2 := sum_le (m := m) (xs := xs) fun z hz => h z (List.mem_cons_of_mem _ hz)
    rw [List.map_cons, List.sum_cons, List.length_cons, Nat.succ_mul]
    omega
theorem joinO_ok {y : Str} {xs : List Str} {m k : Nat} (h : ∀ x ∈ xs, x.length ≤ m) (hk : xs.length ≤ k) (hm : k * m + k * y.length ≤ 1000000) : joinO y xs = some (Txt.join y xs) := by
  unfold joinO
  rw [if_pos]
  have h1 := sum_le h
  have h2 : xs.length * m ≤ k * m := Nat.mul_le_mul_right _ hk
  have h3 : xs.length * y.length ≤ k * y.length := Nat.mul_le_mul_right _ hk
  omega
theorem join_len {y : Str} {xs : List Str} {m k : Nat} (h : ∀ x ∈ xs, x.length ≤ m) (hk : xs.length ≤ k) : (Txt.join y xs).length ≤ k * (m + y.length) := by
  rw [TL.len_tl, tl_joined]
  refine Nat.le_trans (joinL_len (m := m) fun p hp => ?_) ?_
  · obtain ⟨x, hx, rfl⟩ := List.mem_map.mp hp
    rw [← TL.len_tl]
    exact h x hx
  · rw [List.length_map, ← TL.len_tl]
    exact Nat.mul_le_mul_right _ hk
/-! ### lines -/
def lineT (ws : List Str) : Str := Txt.join " " ws
theorem lineT_len {ws : List Str} {k : Nat} (h : ∀ x ∈ ws, Wo x) (hk : ws.length ≤ k) : (lineT ws).length ≤ k * 21 := by
  have := join_len (y := " ") (m := 20) (fun x hx => (h x hx).len) hk
  rw [TL.len_tl (" "), tl_sp] at this
  exact this
theorem lineT_nl {ws : List Str} (h : ∀ x ∈ ws, Wo x) : 10 ∉ TL.tl (lineT ws) := by
  rw [lineT, tl_joined, tl_sp]
  refine joinL_mem (by decide) fun p hp => ?_
  obtain ⟨x, hx, rfl⟩ := List.mem_map.mp hp
  exact (h x hx).nl
theorem lineT_split {ws : List Str} (h : ∀ x ∈ ws, Wo x) (hne : ws ≠ []) (hk : ws.length ≤ 1000) : splitO (lineT ws) " " = some ws := by
  unfold splitO
  rw [if_pos]
  · rw [lineT, TL.split_join (y := " ") (s := 32) (S := []) tl_sp (by decide +kernel) hne fun p hp => (h p hp).sp]
  · refine ⟨by decide +kernel, ?_⟩
    have := lineT_len h hk
    omega
theorem line_O {ws : List Str} (h : ∀ x ∈ ws, Wo x) (hk : ws.length ≤ 1000) : joinO " " ws = some (lineT ws) := joinO_ok (m := 20) (fun x hx => (h x hx).len) hk (by rw [TL.len_tl (" "), tl_sp]; decide)
theorem nl_len : ("\n" : Str).length = 1 := by rw [TL.len_tl, tl_nl]; rfl
theorem line_nlO {ws : List Str} (h : ∀ x ∈ ws, Wo x) (hk : ws.length ≤ 1000) : scatO (lineT ws) "\n" = some (lineT ws ++ "\n") := by
  unfold scatO
  rw [if_pos]
  have := lineT_len h hk
  rw [nl_len]
  omega
/-! ### texts -/
def textT (ls : List Str) : Str := Txt.join "" (ls.map fun l => l ++ ("\n" : Str))
theorem joinL_text : ∀ (ps : List (List Nat)), TL.joinL [] (ps.map fun p => p ++ [10]) = TL.joinL [10] (ps ++ [[]])
  | [] => rfl
  | [p] => by simp [TL.joinL]
  | p :: q :: r => by
    have := joinL_text (q :: r)
    simp only [List.map_cons, List.cons_append, TL.joinL, List.nil_append] at this ⊢
    rw [this, List.append_assoc]
    rfl
theorem textT_eq (ls : List Str) : textT ls = Txt.join "\n" (ls ++ [("" : Str)]) := by
  refine TL.ext_tl ?_
  have := joinL_text (ls.map TL.tl)
  rw [textT, tl_joined, tl_joined, tl_no, tl_nl, List.map_map, List.map_append, List.map_singleton, tl_no, ← this, List.map_map]
  refine congrArg _ (List.map_congr_left fun x _ => ?_)
  show TL.tl (x ++ "\n") = TL.tl x ++ [10]
  rw [TL.tl_append, tl_nl]
theorem textT_len {ls : List Str} {m k : Nat} (h : ∀ x ∈ ls, x.length ≤ m) (hk : ls.length ≤ k) : (textT ls).length ≤ k * (m + 1) := by
  have := join_len (y := "") (xs := ls.map fun l => l ++ ("\n" : Str)) (m := m + 1) (k := k) (fun x hx => by
    obtain ⟨z, hz, rfl⟩ := List.mem_map.mp hx
    rw [Str.length_append, nl_len]
    have := h z hz
    omega) (by rw [List.length_map]; exact hk)
  rw [TL.len_tl (""), tl_no] at this
  exact this
theorem text_O {ls : List Str} (h : ∀ x ∈ ls, x.length ≤ 1000) (hk : ls.length ≤ 500) : joinO "" (ls.map fun l => l ++ ("\n" : Str)) = some (textT ls) :=
  joinO_ok (m := 1001) (k := 500) (fun x hx => by
    obtain ⟨z, hz, rfl⟩ := List.mem_map.mp hx
    rw [Str.length_append, nl_len]
    have := h z hz
    omega) (by rw [List.length_map]; exact hk) (by rw [TL.len_tl (""), tl_no]; decide)
theorem split_nl {ls : List Str} (h : ∀ x ∈ ls, 10 ∉ TL.tl x) (hne : ls ≠ []) (hl : (Txt.join "\n" ls).length + 2 ≤ 1000000) : splitO (Txt.join "\n" ls) "\n" = some ls := by
  unfold splitO
  rw [if_pos ⟨by decide +kernel, hl⟩, TL.split_join (y := "\n") (s := 10) (S := []) tl_nl (by decide +kernel) hne h]
theorem atI_last {α : Type} {xs : List α} {x : α} (hl : xs.length < 1000000) : atI (xs ++ [x]) (-(1 : Int)) = some x := by
  have e : (xs ++ [x]).length = xs.length + 1 := by simp
  have h1 : ixN (xs.length + 1) (-(1 : Int)) = some xs.length := by
    unfold ixN
    simp
    omega
  unfold atI
  rw [e, h1]
  simp
theorem cutI_last {α : Type} {xs : List α} {x : α} : cutI (xs ++ [x]) none (some (-(1 : Int))) = xs := by
  unfold cutI
  simp only [HT.sIx, List.length_append, List.length_singleton]
  have e : ((xs ++ [x]).drop 0) = xs ++ [x] := rfl
  simp
  rw [show (-1 + ((xs.length : Int) + 1)).toNat = xs.length by omega]
  simp
theorem lines_of_text {ls : List Str} (h : ∀ x ∈ ls, 10 ∉ TL.tl x) (hl : ∀ x ∈ ls, x.length ≤ 1000) (hk : ls.length ≤ 500) : L_lines_of (textT ls) = some (ls, true) := by
  have h1 := textT_len hl hk
  have h2 := split_nl (ls := ls ++ [("" : Str)]) (fun x hx => by
    rcases List.mem_append.mp hx with hx | hx
    · exact h x hx
    · rw [List.mem_singleton.mp hx, tl_no]
      exact fun h => nomatch h) (by simp) (by rw [← textT_eq]; omega)
  rw [← textT_eq] at h2
  unfold L_lines_of
  rw [h2, Option.bind_some, atI_last (by omega), Option.bind_some, cutI_last]
  rfl
theorem mapO_fun {α β : Type} {f : α → Option β} {g : α → β} : ∀ {xs : List α}, (∀ x ∈ xs, f x = some (g x)) → mapO f xs = some (xs.map g)
  | [], _ => rfl
  | x :: xs, h => by
    rw [mapO, h x (List.mem_cons_self ..), Option.bind_some, mapO_fun (xs := xs) fun z hz => h z (List.mem_cons_of_mem _ hz)]
    rfl
theorem law_text_ok {lss : List (List Str)} (h : ∀ ws ∈ lss, (∀ x ∈ ws, Wo x) ∧ ws.length ≤ 40) (hk : lss.length ≤ 500) : L_law_text lss = some (textT (lss.map lineT)) := by
  have e : mapO (fun x => (joinO (" " : Str) x).bind fun s => (scatO s ("\n" : Str)).bind fun s2 => some s2) lss = some ((lss.map lineT).map fun l => l ++ ("\n" : Str)) := by
    rw [List.map_map]
    refine mapO_fun fun ws hw => ?_
    obtain ⟨h1, h2⟩ := h ws hw
    rw [line_O h1 (by omega), Option.bind_some, line_nlO h1 (by omega)]
    rfl
  unfold L_law_text
  rw [chk_le (by omega), Option.bind_some, e, Option.bind_some, text_O (fun x hx => ?_) (by rw [List.length_map]; exact hk)]
  · rfl
  · obtain ⟨ws, hw, rfl⟩ := List.mem_map.mp hx
    have := lineT_len (h ws hw).1 (h ws hw).2
    omega
theorem strO_nat {n : Nat} (h : n < 1000000) : strO (n : Int) = some (numT n) := by
  unfold strO
  rw [if_pos]
  · rfl
  · have h1 : Nat.log2 n ≤ n := Nat.log2_le_self n
    rw [Int.natAbs_natCast]
    by_cases h0 : n = 0
    · subst h0; decide
    · rw [Nat.log2_lt h0]
      exact Nat.lt_of_lt_of_le h (by decide +kernel)
def wdT : Str ⊕ Int → Str
  | .inl s => s
  | .inr i => (toString i : Str)
theorem written_ok {ws : List (Str ⊕ Int)} (hs : ∀ w ∈ ws, strU w = some (wdT w)) (h : ∀ w ∈ ws, Wo (wdT w)) (hk : ws.length ≤ 40) : L_written ws = some (lineT (ws.map wdT) ++ "\n") := by
  have h1 : ∀ x ∈ ws.map wdT, Wo x := fun x hx => by
    obtain ⟨w, hw, rfl⟩ := List.mem_map.mp hx
    exact h w hw
  unfold L_written
  rw [chk_le (by omega), Option.bind_some, mapO_fun (g := wdT) (fun x hx => by rw [hs x hx]; rfl), Option.bind_some, line_O h1 (by rw [List.length_map]; omega), Option.bind_some, line_nlO h1 (by rw [List.length_map]; omega)]
  rfl
/-! ### numbers -/
theorem numT_one {n : Nat} (h : n < 10) : numT n = ⟨#[48 + n]⟩ := TL.ext_tl (by rw [numT, TL.tl_num, TL.numL_lt h])
theorem read_small : ∀ n, n < 10 → L_read_number ⟨#[48 + n]⟩ = some (some (n : Int)) := by decide +kernel
theorem read_num {n : Nat} (h : n < 10) : L_read_number (numT n) = some (some (n : Int)) := by rw [numT_one h, read_small n h]
end Va

/-! Lt11: law k11. -/
namespace Va
open PySem L2 PyProof.Rows PySem.W PySem.Calls
def L_law_lines (law_town_here : (Int × (List (Int × Int × Int)))) : Option (List (List Str)) := (strO law_town_here.1).bind fun s => (chk (decide (law_town_here.2.length ≤ 1000000))).bind fun u2 => (mapO (fun x => (chk (decide (([x.1, x.2.1, x.2.2] : (List Int)).length ≤ 1000000))).bind fun u => (mapO (fun x2 => (strO x2).bind fun s2 => some s2) ([x.1, x.2.1, x.2.2] : (List Int))).bind fun l => (catO ([("road" : Str)] : (List Str)) l).bind fun l2 => some l2) law_town_here.2).bind fun l3 => (catO ([([("places" : Str), s] : (List Str))] : (List (List Str))) l3).bind fun l4 => some l4
def L_is_within (value : Int) (low : Int) (high : Int) : Option Bool := some (true && ((!false) && (decide (low ≤ value) && decide (value ≤ high))))
def L_is_road (places : Int) (road : (List Int)) : Option Bool := (un3 road).bind fun z => (L_is_within z.1 (0 : Int) (places - (1 : Int))).bind fun r => (if (!r) = true then some true else (L_is_within z.2.1 (0 : Int) (places - (1 : Int))).bind fun r2 => some (!r2)).bind fun b => if b = true then some false else (if decide (z.1 < z.2.1) = true then (L_is_within z.2.2 (1 : Int) (9 : Int)).bind fun r3 => some r3 else some false).bind fun b2 => some b2
def L_check_town_b1 (places : Int) (roads : (List (List Int))) (at_ : Int) (road : (List Int)) : Option Unit := (L_is_road places road).bind fun r => (if (!r) = true then some true else (if decide ((0 : Int) < at_) = true then (atI roads (at_ - (1 : Int))).bind fun x => some (!(ltL ltI) (cutI x none (some (2 : Int))) (cutI road none (some (2 : Int)))) else some false).bind fun b => some b).bind fun b2 => if b2 = true then none else some ()
def L_check_town (town : (Int × (List (List Int)))) : Option Unit := (L_is_within town.1 (1 : Int) (7 : Int)).bind fun r => (if (!r) = true then none else some ()).bind fun j => (loopO (fun s x => L_check_town_b1 town.1 town.2 x.1 x.2) (enumI town.2 0) ()).bind fun s2 => some ()
def L_read_line_b1 (many : Int) (found : (List Int)) (column : Int) (word : Str) : Option (Ctl ((List Int) × Int) (List Int)) := (L_read_number word).bind fun r => if (r.isNone || (true && decide ((found.length : Int) = many))) = true then none else (r).bind fun v => (appO found v).bind fun found2 => (chk (decide (word.length ≤ 1000000))).bind fun u => some (.nx (found2, (column + ((word.length : Int) + (1 : Int)))))
def L_read_line (line : Str) (number : Int) (head : Str) (many : Int) : Option (List Int) := (splitO line (" " : Str)).bind fun l => (atI l (0 : Int)).bind fun x => if (!decide (x = head)) = true then none else letO ([] : (List Int)) fun found => (chk (decide (head.length ≤ 1000000))).bind fun u => letO ((head.length : Int) + (2 : Int)) fun column => resK (loopC (fun s x2 => L_read_line_b1 many s.1 s.2 x2) (cutI l (some (1 : Int)) none) (found, column)) (fun s2 => if (true && decide ((s2.1.length : Int) < many)) = true then none else some s2.1) (some)
def L_read_town_b1 (rows : (List (List Int))) (place : Int) (line : Str) : Option (List (List Int)) := letO (if decide ((0 : Int) < place) = true then ("road" : Str) else ("places" : Str)) fun head2 => (lookS ([(("places" : Str), (1 : Int)), (("road" : Str), (3 : Int))] : List (Str × Int)) head2).bind fun n => (L_read_line line (place + (1 : Int)) head2 n).bind fun r => (appO rows r).bind fun rows2 => some rows2
def L_read_town (text : Str) : Option (Int × (List (List Int))) := (L_lines_of text).bind fun r => letO ([] : (List (List Int))) fun rows => (loopO (fun s x => L_read_town_b1 s x.1 x.2) (enumI r.1 0) rows).bind fun s2 => if (!r.2) = true then none else if (!(!s2.isEmpty)) = true then none else (atI s2 (0 : Int)).bind fun x2 => (atI x2 (0 : Int)).bind fun x3 => (chk (decide ((cutI s2 (some (1 : Int)) none).length ≤ 1000000))).bind fun u => letO (x3, ((cutI s2 (some (1 : Int)) none).map fun x4 => x4)) fun town => (L_check_town town).bind fun r3 => some town
def L_write_town (town : (Int × (List (List Int)))) : Option Str := (L_written ([(Sum.inl ("places" : Str) : Str ⊕ Int), (Sum.inr town.1 : Str ⊕ Int)] : (List (Str ⊕ Int)))).bind fun r => (chk (decide (town.2.length ≤ 1000000))).bind fun u2 => (mapO (fun x => (chk (decide (([(Sum.inl ("road" : Str) : Str ⊕ Int)] ++ (x.map Sum.inr) : List (Str ⊕ Int)).length ≤ 1000000))).bind fun u => (L_written ([(Sum.inl ("road" : Str) : Str ⊕ Int)] ++ (x.map Sum.inr) : List (Str ⊕ Int))).bind fun r2 => some r2) town.2).bind fun l => (catO ([r] : (List Str)) l).bind fun l2 => (joinO ("" : Str) l2).bind fun s => some s
def L_law_b1 (law_town_here : (Int × (List (Int × Int × Int)))) (law_text_here : Str) (law_turn : Int) : Option (Ctl Unit Bool) := (L_read_town law_text_here).bind fun r => (reprO ((E2 PyData.int (EL (ET PyData.int))) r)).bind fun s => (reprO ((E2 PyData.int (EL (E3 PyData.int PyData.int PyData.int))) law_town_here)).bind fun s2 => (if (!decide (s = s2)) = true then some true else (L_write_town r).bind fun r2 => some (!decide (r2 = law_text_here))).bind fun b => if b = true then some (.rt false) else (chk (decide (r.2.length < 1000000))).bind fun u => some (.nx ())
def L_law (ds : List Int) : Option Bool := (L_law_town ds (7 : Int)).bind fun r => (L_law_lines r).bind fun r2 => (L_law_text r2).bind fun r3 => (range1 (2 : Int)).bind fun l => resK (loopC (fun s x => L_law_b1 r r3 x) l ()) (fun s4 => some true) (some)
def rowN (r : Nat × Nat × Nat) : List Nat := [r.1, r.2.1, r.2.2]
def rowR (r : Nat × Nat × Nat) : List Int := [(r.1 : Int), (r.2.1 : Int), (r.2.2 : Int)]
theorem rowR_eq {r : Nat × Nat × Nat} : rowR r = (rowN r).map fun n => ((n : Nat) : Int) := rfl
def roadW (r : Nat × Nat × Nat) : List Str := ("road" : Str) :: (rowN r).map numT
def townW (n : Nat) (rs : Rds) : List (List Str) := [("places" : Str), numT n] :: rs.map roadW
theorem wo_road : Wo ("road" : Str) := ⟨by decide +kernel, by decide +kernel, by decide +kernel⟩
theorem wo_places : Wo ("places" : Str) := ⟨by decide +kernel, by decide +kernel, by decide +kernel⟩
theorem wo_small {n : Nat} (h : n < 10) : Wo (numT n) := wo_num (by omega)
section
variable {n : Nat} {rs : Rds}
theorem Town.small (T : Town n rs) (hn : n ≤ 7) {r : Nat × Nat × Nat} (hr : r ∈ rs) : ∀ x ∈ rowN r, x < 10 := by
  obtain ⟨a, b, c, d⟩ := T.road r hr
  intro x hx
  simp only [rowN, List.mem_cons, List.not_mem_nil, or_false] at hx
  omega
theorem roadW_ok (T : Town n rs) (hn : n ≤ 7) {r : Nat × Nat × Nat} (hr : r ∈ rs) : ∀ x ∈ roadW r, Wo x := by
  intro x hx
  rcases List.mem_cons.mp hx with rfl | hx
  · exact wo_road
  · obtain ⟨m, hm, rfl⟩ := List.mem_map.mp hx
    exact wo_small (T.small hn hr m hm)
theorem townW_ok (T : Town n rs) (hn : n ≤ 7) : ∀ ws ∈ townW n rs, (∀ x ∈ ws, Wo x) ∧ ws.length ≤ 40 := by
  intro ws hw
  rcases List.mem_cons.mp hw with rfl | hw
  · refine ⟨fun x hx => ?_, by simp⟩
    simp only [List.mem_cons, List.not_mem_nil, or_false] at hx
    rcases hx with rfl | rfl
    · exact wo_places
    · exact wo_small (by omega)
  · obtain ⟨r, hr, rfl⟩ := List.mem_map.mp hw
    exact ⟨roadW_ok T hn hr, by simp [roadW, rowN]⟩
theorem Town.len49 (T : Town n rs) (hn : n ≤ 7) : rs.length ≤ 49 := by
  have h1 := T.len
  have h2 : n * n ≤ 7 * 7 := Nat.mul_le_mul hn hn
  omega
theorem townW_len (T : Town n rs) (hn : n ≤ 7) : (townW n rs).length ≤ 50 := by
  have := T.len49 hn
  simp [townW]
  omega
theorem law_lines_ok (T : Town n rs) (hn : n ≤ 7) : L_law_lines (townI n rs) = some (townW n rs) := by
  have h49 := T.len49 hn
  have e : mapO (fun x => (chk (decide (([x.1, x.2.1, x.2.2] : (List Int)).length ≤ 1000000))).bind fun u => (mapO (fun x2 => (strO x2).bind fun s2 => some s2) ([x.1, x.2.1, x.2.2] : (List Int))).bind fun l => (catO ([("road" : Str)] : (List Str)) l).bind fun l2 => some l2) (rs.map roadI) = some (rs.map roadW) := by
    have : ∀ zs : Rds, (∀ r ∈ zs, r ∈ rs) → mapO (fun x => (chk (decide (([x.1, x.2.1, x.2.2] : (List Int)).length ≤ 1000000))).bind fun u => (mapO (fun x2 => (strO x2).bind fun s2 => some s2) ([x.1, x.2.1, x.2.2] : (List Int))).bind fun l => (catO ([("road" : Str)] : (List Str)) l).bind fun l2 => some l2) (zs.map roadI) = some (zs.map roadW) := by
      intro zs
      induction zs with
      | nil => exact fun _ => rfl
      | cons r zs ih =>
        intro h
        have hr := T.small hn (h r (List.mem_cons_self ..))
        have h1 := hr r.1 (by simp [rowN])
        have h2 := hr r.2.1 (by simp [rowN])
        have h3 := hr r.2.2 (by simp [rowN])
        rw [List.map_cons, mapO, ih fun z hz => h z (List.mem_cons_of_mem _ hz)]
        have e0 : mapO (fun x2 => (strO x2).bind fun s2 => some s2) ([(roadI r).1, (roadI r).2.1, (roadI r).2.2] : (List Int)) = some ((rowN r).map numT) := by
          simp only [roadI, mapO, strO_nat (show r.1 < 1000000 by omega), strO_nat (show r.2.1 < 1000000 by omega), strO_nat (show r.2.2 < 1000000 by omega), Option.bind_some]
          rfl
        rw [e0]
        rfl
    exact this rs fun r h => h
  have hc : chk (decide ((townI n rs).2.length ≤ 1000000)) = some () := chk_le (by simp only [townI, List.length_map]; omega)
  unfold L_law_lines
  rw [show strO (townI n rs).1 = some (numT n) from strO_nat (by omega), Option.bind_some, hc, Option.bind_some, show (townI n rs).2 = rs.map roadI from rfl, e, Option.bind_some]
  unfold catO
  rw [if_pos (by simp; omega)]
  rfl
def townT (n : Nat) (rs : Rds) : Str := textT ((townW n rs).map lineT)
theorem law_text_town (T : Town n rs) (hn : n ≤ 7) : L_law_text (townW n rs) = some (townT n rs) := law_text_ok (townW_ok T hn) (by have := townW_len T hn; omega)
/-! ### read -/
theorem line_loop {m : Nat} (hm : m ≤ 1000) : ∀ (ns : List Nat) (found : List Int) (column : Int), (∀ x ∈ ns, x < 10) → found.length + ns.length ≤ m →
    ∃ c, loopC (fun s x2 => L_read_line_b1 (m : Int) s.1 s.2 x2) (ns.map numT) (found, column) = some (.on (found ++ ns.map (fun n => ((n : Nat) : Int)), c))
  | [], found, column, _, _ => ⟨column, by simp [loopC]⟩
  | x :: ns, found, column, h, hl => by
    have hx := h x (List.mem_cons_self ..)
    rw [List.length_cons] at hl
    obtain ⟨c, hc⟩ := line_loop hm ns (found ++ [(x : Int)]) (column + (((numT x).length : Int) + 1)) (fun z hz => h z (List.mem_cons_of_mem _ hz)) (by rw [List.length_append, List.length_singleton]; omega)
    have e : L_read_line_b1 (m : Int) found column (numT x) = some (.nx (found ++ [(x : Int)], column + (((numT x).length : Int) + 1))) := by
      have h1 : ¬ ((found.length : Int) = (m : Int)) := by omega
      have h2 := (wo_small hx).len
      unfold L_read_line_b1
      rw [read_num hx, Option.bind_some, if_neg (by simp [h1]), Option.bind_some, appO, if_pos (by omega), Option.bind_some, chk_le (by omega), Option.bind_some]
    refine ⟨c, ?_⟩
    rw [List.map_cons, loopC, e, Option.bind_some]
    show loopC _ _ _ = _
    rw [hc]
    simp
theorem at_0 {α : Type} {x : α} {xs : List α} : atI (x :: xs) (0 : Int) = some x := atI_ofNat (xs := x :: xs) (i := 0)
theorem cut_tail {α : Type} {x : α} {xs : List α} : cutI (x :: xs) (some (1 : Int)) none = xs := by
  have := cutI_from (xs := x :: xs) (k := 1)
  exact this
theorem read_line_ok {head : Str} {ns : List Nat} {k : Int} (hw : Wo head) (hn : ∀ x ∈ ns, x < 10) (hl : ns.length ≤ 10) : L_read_line (lineT (head :: ns.map numT)) k head (ns.length : Int) = some (ns.map fun n => ((n : Nat) : Int)) := by
  have hws : ∀ x ∈ head :: ns.map numT, Wo x := fun x hx => by
    rcases List.mem_cons.mp hx with rfl | hx
    · exact hw
    · obtain ⟨m, hm, rfl⟩ := List.mem_map.mp hx
      exact wo_small (hn m hm)
  have h2 := hw.len
  unfold L_read_line
  rw [lineT_split hws (by simp) (by simp; omega), Option.bind_some, at_0, Option.bind_some, if_neg (by simp), letO, chk_le (by omega), Option.bind_some, letO, cut_tail]
  obtain ⟨c, hc⟩ := line_loop (m := ns.length) (by omega) ns [] ((head.length : Int) + 2) hn (by simp)
  rw [hc, resK_on, List.nil_append, if_neg (by simp)]
theorem look_road : lookS ([(("places" : Str), (1 : Int)), (("road" : Str), (3 : Int))] : List (Str × Int)) ("road" : Str) = some 3 := by decide +kernel
theorem look_places : lookS ([(("places" : Str), (1 : Int)), (("road" : Str), (3 : Int))] : List (Str × Int)) ("places" : Str) = some 1 := by decide +kernel
theorem rows_loop (T : Town n rs) (hn : n ≤ 7) : ∀ (zs : Rds) (k : Nat) (rows : List (List Int)), (∀ r ∈ zs, r ∈ rs) → 0 < k → rows.length + zs.length ≤ 1000 →
    loopO (fun s x => L_read_town_b1 s x.1 x.2) (enumI (zs.map fun r => lineT (roadW r)) (k : Int)) rows = some (rows ++ zs.map rowR)
  | [], k, rows, _, _, _ => by simp [enumI, loopO]
  | r :: zs, k, rows, h, hk, hl => by
    rw [List.length_cons] at hl
    have e : L_read_town_b1 rows (k : Int) (lineT (roadW r)) = some (rows ++ [rowR r]) := by
      have e1 := read_line_ok (ns := rowN r) (k := (k : Int) + 1) wo_road (T.small hn (h r (List.mem_cons_self ..))) (by simp [rowN])
      unfold L_read_town_b1
      rw [if_pos (by simp; omega), letO, look_road, Option.bind_some]
      rw [show L_read_line (lineT (roadW r)) ((k : Int) + 1) ("road" : Str) 3 = some (rowR r) from e1, Option.bind_some, appO, if_pos (by omega)]
      rfl
    have e2 := rows_loop T hn zs (k + 1) (rows ++ [rowR r]) (fun z hz => h z (List.mem_cons_of_mem _ hz)) (by omega) (by rw [List.length_append, List.length_singleton]; omega)
    rw [List.map_cons, enumI, loopO, e, Option.bind_some, show ((k : Int) + 1) = ((k + 1 : Nat) : Int) by omega, e2]
    simp
theorem is_within_ok {a b c : Int} (h1 : b ≤ a) (h2 : a ≤ c) : L_is_within a b c = some true := by simp [L_is_within, h1, h2]
theorem is_road_ok (T : Town n rs) {r : Nat × Nat × Nat} (hr : r ∈ rs) : L_is_road (n : Int) (rowR r) = some true := by
  obtain ⟨a, b, c, d⟩ := T.road r hr
  have w1 : L_is_within (r.1 : Int) 0 ((n : Int) - 1) = some true := is_within_ok (by omega) (by omega)
  have w2 : L_is_within (r.2.1 : Int) 0 ((n : Int) - 1) = some true := is_within_ok (by omega) (by omega)
  have w3 : L_is_within (r.2.2 : Int) 1 9 = some true := is_within_ok (by omega) (by omega)
  unfold L_is_road
  rw [show un3 (rowR r) = some ((r.1 : Int), (r.2.1 : Int), (r.2.2 : Int)) from rfl, Option.bind_some, w1, Option.bind_some, if_neg (by simp), w2, Option.bind_some, Option.bind_some, if_neg (by simp), if_pos (by simp; omega), w3]
  rfl
theorem check_town_ok (T : Town n rs) (hn : n ≤ 7) : L_check_town ((n : Int), rs.map rowR) = some () := by
  have hpos := T.pos
  unfold L_check_town
  rw [is_within_ok (by omega) (by omega), Option.bind_some, if_neg (by simp), Option.bind_some]
  obtain ⟨s, e, _⟩ := loop_enum (f := fun (s : Unit) x => L_check_town_b1 (n : Int) (rs.map rowR) x.1 x.2) (xs := rs.map rowR) (s := ()) (fun _ _ => True) trivial (fun i x s hx _ => by
    refine ⟨(), ?_, trivial⟩
    rw [List.getElem?_map] at hx
    obtain ⟨r, hr, rfl⟩ := Option.map_eq_some_iff.mp hx
    unfold L_check_town_b1
    rw [is_road_ok T (List.mem_of_getElem? hr), Option.bind_some, if_neg (by simp)]
    cases i with
    | zero =>
      rw [if_neg (by simp)]
      rfl
    | succ i =>
      rw [if_pos (by simp), show (((i + 1 : Nat) : Int) - 1) = ((i : Nat) : Int) by omega, atI_ofNat, List.getElem?_map]
      obtain ⟨hlt, hre⟩ := List.getElem?_eq_some_iff.mp hr
      rw [List.getElem?_eq_getElem (show i < rs.length by omega), Option.map_some, Option.bind_some, Option.bind_some, Option.bind_some]
      have ha := List.pairwise_iff_getElem.mp T.asc i (i + 1) (by omega) hlt (by omega)
      rw [hre] at ha
      generalize rs[i] = q at *
      have e1 : cutI (rowR q) none (some (2 : Int)) = [(q.1 : Int), (q.2.1 : Int)] := cutI_to (xs := rowR q) (k := 2)
      have e2 : cutI (rowR r) none (some (2 : Int)) = [(r.1 : Int), (r.2.1 : Int)] := cutI_to (xs := rowR r) (k := 2)
      rw [e1, e2, if_neg]
      have : ltL ltI [(q.1 : Int), (q.2.1 : Int)] [(r.1 : Int), (r.2.1 : Int)] = true := by
        simp only [ltL, ltI]
        rcases ha with ha | ⟨ha, hb⟩
        · simp [show (q.1 : Int) < (r.1 : Int) by omega]
          omega
        · simp [ha, show (q.2.1 : Int) < (r.2.1 : Int) by omega]
          omega
      rw [this]
      simp)
  rw [e]
  rfl
theorem read_town_ok (T : Town n rs) (hn : n ≤ 7) : L_read_town (townT n rs) = some ((n : Int), rs.map rowR) := by
  have h49 := T.len49 hn
  have h50 := townW_len T hn
  have hW := townW_ok T hn
  have e1 := lines_of_text (ls := (townW n rs).map lineT) (fun x hx => by
    obtain ⟨ws, hw, rfl⟩ := List.mem_map.mp hx
    exact lineT_nl (hW ws hw).1) (fun x hx => by
    obtain ⟨ws, hw, rfl⟩ := List.mem_map.mp hx
    have := lineT_len (hW ws hw).1 (hW ws hw).2
    omega) (by rw [List.length_map]; omega)
  have e2 := rows_loop T hn rs 1 [[(n : Int)]] (fun r h => h) (by omega) (by simp; omega)
  have e3 : L_read_town_b1 [] (0 : Int) (lineT [("places" : Str), numT n]) = some [[(n : Int)]] := by
    have q := read_line_ok (ns := [n]) (k := (0 : Int) + 1) wo_places (fun x hx => by rw [List.mem_singleton.mp hx]; omega) (by simp)
    unfold L_read_town_b1
    rw [if_neg (by simp), letO, look_places, Option.bind_some]
    rw [show L_read_line (lineT [("places" : Str), numT n]) ((0 : Int) + 1) ("places" : Str) 1 = some [(n : Int)] from q, Option.bind_some, appO, if_pos (by simp)]
    rfl
  have e4 : loopO (fun s x => L_read_town_b1 s x.1 x.2) (enumI ((townW n rs).map lineT) 0) [] = some ([(n : Int)] :: rs.map rowR) := by
    rw [townW, List.map_cons, enumI, loopO, e3, Option.bind_some, List.map_map]
    exact e2
  unfold L_read_town
  rw [show L_lines_of (townT n rs) = some ((townW n rs).map lineT, true) from e1, Option.bind_some, letO, e4, Option.bind_some, if_neg (by simp), if_neg (by simp), at_0, Option.bind_some, at_0, Option.bind_some, cut_tail, List.length_map, chk_le (by omega), Option.bind_some, letO]
  rw [show ((rs.map rowR).map fun x4 => x4) = rs.map rowR from List.map_id' _, check_town_ok T hn]
  rfl
/-! ### written -/
theorem write_town_ok (T : Town n rs) (hn : n ≤ 7) : L_write_town ((n : Int), rs.map rowR) = some (townT n rs) := by
  have h49 := T.len49 hn
  have h50 := townW_len T hn
  have hW := townW_ok T hn
  have su : ∀ m : Nat, m < 10 → strU (.inr (m : Int)) = some (numT m) := fun m hm => strO_nat (by omega)
  have e1 : L_written ([(Sum.inl ("places" : Str) : Str ⊕ Int), (Sum.inr (n : Int) : Str ⊕ Int)]) = some (lineT [("places" : Str), numT n] ++ ("\n" : Str)) := by
    refine written_ok (fun w hw => ?_) (fun w hw => ?_) (by simp)
    · simp only [List.mem_cons, List.not_mem_nil, or_false] at hw
      rcases hw with rfl | rfl
      · rfl
      · exact su n (by omega)
    · simp only [List.mem_cons, List.not_mem_nil, or_false] at hw
      rcases hw with rfl | rfl
      · exact wo_places
      · exact wo_small (by omega)
  have e2 : ∀ r ∈ rs, L_written ([(Sum.inl ("road" : Str) : Str ⊕ Int)] ++ ((rowR r).map Sum.inr) : List (Str ⊕ Int)) = some (lineT (roadW r) ++ ("\n" : Str)) := by
    intro r hr
    have hs := T.small hn hr
    have h1 := hs r.1 (by simp [rowN])
    have h2 := hs r.2.1 (by simp [rowN])
    have h3 := hs r.2.2 (by simp [rowN])
    refine written_ok (ws := [(Sum.inl ("road" : Str) : Str ⊕ Int), .inr (r.1 : Int), .inr (r.2.1 : Int), .inr (r.2.2 : Int)]) (fun w hw => ?_) (fun w hw => ?_) (by simp)
    · simp only [List.mem_cons, List.not_mem_nil, or_false] at hw
      rcases hw with rfl | rfl | rfl | rfl
      · rfl
      · exact su _ h1
      · exact su _ h2
      · exact su _ h3
    · simp only [List.mem_cons, List.not_mem_nil, or_false] at hw
      rcases hw with rfl | rfl | rfl | rfl
      · exact wo_road
      · exact wo_small h1
      · exact wo_small h2
      · exact wo_small h3
  have e3 : ∀ zs : Rds, (∀ r ∈ zs, r ∈ rs) → mapO (fun x => (chk (decide (([(Sum.inl ("road" : Str) : Str ⊕ Int)] ++ (x.map Sum.inr) : List (Str ⊕ Int)).length ≤ 1000000))).bind fun u => (L_written ([(Sum.inl ("road" : Str) : Str ⊕ Int)] ++ (x.map Sum.inr) : List (Str ⊕ Int))).bind fun r2 => some r2) (zs.map rowR) = some (zs.map fun r => lineT (roadW r) ++ ("\n" : Str)) := by
    intro zs
    induction zs with
    | nil => exact fun _ => rfl
    | cons r zs ih =>
      intro h
      rw [List.map_cons, mapO, ih fun z hz => h z (List.mem_cons_of_mem _ hz), e2 r (h r (List.mem_cons_self ..)), chk_le (by simp [rowR])]
      rfl
  unfold L_write_town
  rw [e1, Option.bind_some, List.length_map, chk_le (by omega), Option.bind_some, e3 rs fun r h => h, Option.bind_some, catO, if_pos (by simp; omega), Option.bind_some]
  have e4 := text_O (ls := (townW n rs).map lineT) (fun x hx => by
    obtain ⟨ws, hw, rfl⟩ := List.mem_map.mp hx
    have := lineT_len (hW ws hw).1 (hW ws hw).2
    omega) (by rw [List.length_map]; omega)
  have e5 : ([lineT [("places" : Str), numT n] ++ ("\n" : Str)] ++ rs.map fun r => lineT (roadW r) ++ ("\n" : Str)) = ((townW n rs).map lineT).map fun l => l ++ ("\n" : Str) := by
    simp [townW, List.map_map, Function.comp_def]
  rw [e5, e4]
  rfl
end
theorem math_law (ds : List Int) (hd : Drawn 30 ds) : L_law ds = some true := by
  obtain ⟨n, rs, T, hn, e⟩ := town_I hd (most := 7) (by omega) (by omega) (by decide)
  have h49 := T.len49 hn
  have eD : (E2 PyData.int (EL (ET PyData.int))) ((n : Int), rs.map rowR) = ETown (townI n rs) := by
    show PyData.tuple [.int (n : Int), .list ((rs.map rowR).map (ET PyData.int))] = PyData.tuple [.int (n : Int), .list ((rs.map roadI).map (E3 PyData.int PyData.int PyData.int))]
    rw [List.map_map, List.map_map]
    rfl
  obtain ⟨rp, hrp⟩ : ∃ rp, reprO (ETown (townI n rs)) = some rp := ⟨_, reprO_of (T.tame (by omega)) (by omega) (by omega)⟩
  have eb : ∀ t, L_law_b1 (townI n rs) (townT n rs) t = some (.nx ()) := by
    intro t
    unfold L_law_b1
    rw [read_town_ok T hn, Option.bind_some, eD, hrp, Option.bind_some, Option.bind_some, if_neg (by simp), write_town_ok T hn, Option.bind_some, Option.bind_some, if_neg (by simp)]
    rw [show chk (decide ((((n : Int), rs.map rowR) : Int × List (List Int)).2.length < 1000000)) = some () by simp [chk]; omega]
    rfl
  have er : range1 (2 : Int) = some [0, 1] := by decide +kernel
  unfold L_law
  rw [show (7 : Int) = ((7 : Nat) : Int) from rfl, e, Option.bind_some, law_lines_ok T hn, Option.bind_some, law_text_town T hn, Option.bind_some, er, Option.bind_some]
  simp only [loopC, eb, Option.bind_some, resK_on]
end Va

namespace Va
open PySem L2 PyProof.Rows PySem.W PySem.Calls
abbrev R_law_text : List PyData → PyData × Nat → Prop := RelT (fun (a : (List (List Str))) => [(EL (EL PyData.str)) a]) (fun a => L_law_text a) PyData.str 2
abbrev R_law_lines : List PyData → PyData × Nat → Prop := RelT (fun (a : (Int × (List (Int × Int × Int)))) => [(E2 PyData.int (EL (E3 PyData.int PyData.int PyData.int))) a]) (fun a => L_law_lines a) (EL (EL PyData.str)) 2
abbrev R_lines_of : List PyData → PyData × Nat → Prop := RelT (fun (a : Str) => [PyData.str a]) (fun a => L_lines_of a) (E2 (EL PyData.str) PyData.bool) 2
abbrev R_is_within : List PyData → PyData × Nat → Prop := RelT (fun (a : (Int × Int × Int)) => [PyData.int a.1, PyData.int a.2.1, PyData.int a.2.2]) (fun a => L_is_within a.1 a.2.1 a.2.2) PyData.bool 2
abbrev R_is_road : List PyData → PyData × Nat → Prop := RelT (fun (a : (Int × (List Int))) => [PyData.int a.1, (ET PyData.int) a.2]) (fun a => L_is_road a.1 a.2) PyData.bool 2
abbrev R_check_town : List PyData → PyData × Nat → Prop := RelT (fun (a : (Int × (List (List Int)))) => [(E2 PyData.int (EL (ET PyData.int))) a]) (fun a => L_check_town a) EN 2
abbrev R_read_number : List PyData → PyData × Nat → Prop := RelT (fun (a : Str) => [PyData.str a]) (fun a => L_read_number a) (EO PyData.int) 2
abbrev R_read_line : List PyData → PyData × Nat → Prop := RelT (fun (a : (Str × Int × Str × Int)) => [PyData.str a.1, PyData.int a.2.1, PyData.str a.2.2.1, PyData.int a.2.2.2]) (fun a => L_read_line a.1 a.2.1 a.2.2.1 a.2.2.2) (EL PyData.int) 2
abbrev R_read_town : List PyData → PyData × Nat → Prop := RelT (fun (a : Str) => [PyData.str a]) (fun a => L_read_town a) (E2 PyData.int (EL (ET PyData.int))) 2
abbrev R_written : List PyData → PyData × Nat → Prop := RelT (fun (a : (List (Str ⊕ Int))) => [(EL EWd) a]) (fun a => L_written a) PyData.str 2
abbrev R_write_town : List PyData → PyData × Nat → Prop := RelT (fun (a : (Int × (List (List Int)))) => [(E2 PyData.int (EL (ET PyData.int))) a]) (fun a => L_write_town a) PyData.str 2
end Va
namespace Kk
open PySem L2 Va PyProof.Rows
/-! ### the text -/
def topS (i : Nat) : Stmt := PySem.Challenge.pw_evernear_k11_towns_read_back.main.body.getD i (.Pass ⟨0, 0, 0, 0⟩)
abbrev s_law_draws : Stmt := topS 21
abbrev s_law_town : Stmt := topS 22
abbrev s_law_text : Stmt := topS 24
abbrev s_law_lines : Stmt := topS 23
abbrev s_lines_of : Stmt := topS 16
abbrev s_is_within : Stmt := topS 8
abbrev s_is_road : Stmt := topS 9
abbrev s_check_town : Stmt := topS 10
abbrev s_read_number : Stmt := topS 14
abbrev s_read_line : Stmt := topS 15
abbrev s_read_town : Stmt := topS 17
abbrev s_written : Stmt := topS 18
abbrev s_write_town : Stmt := topS 19
abbrev s_law : Stmt := topS 25
section
variable {P : Program} {w : World} {K : PySem.W.Frag} {mg : Str → Option Value} {base : Heap}
theorem sc_law_draws : FnScope ["_law_script", "_law_count", "_law_rests", "_law_draws_here", "_law_k", "_law_value", "_law_at", "_law_mixed", "_law_cell"] ["_law_script", "_law_count"] (defScope s_law_draws) := ⟨rfl, rfl, rfl, by decide +kernel, rfl, by decide +kernel, by decide +kernel⟩
theorem ok_law_draws {f : Addr} {fd : FuncData} (F : Fun K "_law_draws" "_law_draws" s_law_draws f fd) (gx : mg "_law_draws" = some (.ref f)) (b_range : mg "range" = none) (b_len : mg "len" = none) (b_int : mg "int" = none) : Cd P w K mg base "_law_draws" 1 :=
  ⟨f, fd, _, F.ok sc_law_draws (fun vs H Q E h => spDraws_len h) (fun cdv A outer s H vs Q E hr h => ⟨_, pss_cons (ps_setLc (i := 2) (own := [("_law_cell", 8)]) rfl sc_law_draws.nd rfl rfl (sw_true rfl rfl rfl (by decide +kernel)) (pi_list (pv 0)) (blkOk_by (by kernel_rfl)) (fun _ _ _ _ _ => (pg_name (i := 8) sc_law_draws.nd rfl (by first | exact Or.inl rfl | exact Or.inr rfl))) (fun _ _ _ _ _ => pts_nil) (fun _ _ _ _ _ => (pv 8)))
    (pss_cons (ps_set (i := 3) sc_law_draws.nd rfl (by first | exact Or.inl rfl | exact Or.inr rfl) (pe_lst pa_nil))
    (pss_cons (ps_for PassesOwn.never rfl (pi_range1 rfl b_range (pa_cons (pv 1) pa_nil)) (pg_name (i := 4) sc_law_draws.nd rfl (by first | exact Or.inl rfl | exact Or.inr rfl)) (pss_cons (ps_set (i := 5) sc_law_draws.nd rfl (by first | exact Or.inl rfl | exact Or.inr rfl) pe_int)
    (pss_cons (ps_if (pt_cmpR op_gt (pe_callB call_len (by rfl) b_len (by decide +kernel) (pa_cons (pv 2) pa_nil)) pe_int (nomark _)) (pss_cons (ps_set (i := 6) sc_law_draws.nd rfl (by first | exact Or.inl rfl | exact Or.inr rfl) (pe_op op_mod (pe_callTy call_int1 (by rfl) b_int (by decide +kernel) (pa_cons (pv 4) pa_nil)) (pe_callB call_len (by rfl) b_len (by decide +kernel) (pa_cons (pv 2) pa_nil))))
    (pss_one (ps_if (pt_cmpR op_ge (pe_ix ix_seq (pv 2) (pv 6) (fun _ _ => rfl)) (pe_op op_pow pe_int pe_int) (nomark _)) (pss_cons (ps_set (i := 5) sc_law_draws.nd rfl (by first | exact Or.inl rfl | exact Or.inr rfl) (pe_op op_mod (pe_callTy call_int1 (by rfl) b_int (by decide +kernel) (pa_cons (pe_ix ix_seq (pv 2) (pv 6) (fun _ _ => rfl)) pa_nil)) pe_int))
    (pss_one (ps_asg (pe_op op_fdivW (pe_ix ix_seq (pv 2) (pv 6) (fun _ _ => rfl)) pe_int) (pg_sub (pv 2) (pv 6) set_list)))) (pss_cons (ps_set (i := 7) sc_law_draws.nd rfl (by first | exact Or.inl rfl | exact Or.inr rfl) (pe_op op_mod (pe_callTy call_int1 (by rfl) b_int (by decide +kernel) (pa_cons (pe_op op_addA (pe_op op_addA (pe_op op_mulA (pe_ix ix_seq (pv 2) (pv 6) (fun _ _ => rfl)) pe_int) (pe_op op_mulA (pv 4) pe_int)) pe_int) pa_nil)) pe_int))
    (pss_cons (ps_set (i := 7) sc_law_draws.nd rfl (by first | exact Or.inl rfl | exact Or.inr rfl) (pe_op op_mod (pe_callTy call_int1 (by rfl) b_int (by decide +kernel) (pa_cons (pe_op op_addA (pe_op op_mulA (pv 7) pe_int) (pv 6)) pa_nil)) pe_int))
    (pss_one (ps_set (i := 5) sc_law_draws.nd rfl (by first | exact Or.inl rfl | exact Or.inr rfl) (pe_op op_mod (pe_callTy call_int1 (by rfl) b_int (by decide +kernel) (pa_cons (pe_op op_fdivW (pv 7) pe_int) pa_nil)) pe_int)))))))) pss_nil)
    (pss_one (ps_expr (pe_bm PySem.F.plainAttrs_list PySem.F.slot_list_append PySem.F.type_list_append mt_append (pv 3) (pa_cons (pv 5) pa_nil)))))))
    (pss_one (ps_ret (pv 3))))), draws_body (Wx := noX)
    (vs_seq (vs_set [] 3 (ve_lst va_nil))
    (vs_seq (vs_for (wb := [2, 3, 4, 5, 6, 7]) (fg := [0, 1, 4, 5, 6, 7]) (vi_range1 (va_cons (ve_var 1) va_nil)) (vg_name 4) (VS.mono (vs_seq (vs_set [] 5 ve_int)
    (vs_seq (vs_if (vt_test (ve_op (vf_f vf_gt) (ve_call_b (vf_f vf_len) (va_cons (ve_var 2) va_nil)) ve_int)) (vs_seq (vs_set [] 6 (ve_op (vf_f vf_mod) (ve_call_b (vf_f vf_int) (va_cons (ve_var 4) va_nil)) (ve_call_b (vf_f vf_len) (va_cons (ve_var 2) va_nil))))
    (vs_if (vt_test (ve_op (vf_f vf_ge) (ve_op vf_ix (ve_var 2) (ve_var 6)) (ve_op (vf_f vf_pow) ve_int ve_int))) (vs_seq (vs_set [] 5 (ve_op (vf_f vf_mod) (ve_call_b (vf_f vf_int) (va_cons (ve_op vf_ix (ve_var 2) (ve_var 6)) va_nil)) ve_int))
    (vs_idx [6] 2 (ve_op (vf_f vf_div) (ve_op vf_ix (ve_var 2) (ve_var 6)) ve_int) (ve_var 6))) (vs_seq (vs_set [4] 7 (ve_op (vf_f vf_mod) (ve_call_b (vf_f vf_int) (va_cons (ve_op (vf_add) (ve_op (vf_add) (ve_op (vf_mul) (ve_op vf_ix (ve_var 2) (ve_var 6)) ve_int) (ve_op (vf_mul) (ve_var 4) ve_int)) ve_int) va_nil)) ve_int))
    (vs_seq (vs_set [6] 7 (ve_op (vf_f vf_mod) (ve_call_b (vf_f vf_int) (va_cons (ve_op (vf_add) (ve_op (vf_mul) (ve_var 7) ve_int) (ve_var 6)) va_nil)) ve_int))
    (vs_set [7] 5 (ve_op (vf_f vf_mod) (ve_call_b (vf_f vf_int) (va_cons (ve_op (vf_f vf_div) (ve_var 7) ve_int) va_nil)) ve_int)))))) (vs_next (wr := [])))
    (vs_append [5] 3 (ve_var 5)))) (by decide)))
    (vs_ret (wr := []) (ve_var 3)))) h rfl⟩), gx, F.kp, F.binds fun _ _ _ _ _ _ us hl => match us, hl with | [_, _], _ => rfl⟩
theorem sc_law_town : FnScope ["_law_draws_here", "_law_most", "_law_places", "_law_roads", "_law_k", "_law_first", "_law_second"] ["_law_draws_here", "_law_most"] (defScope s_law_town) := ⟨rfl, rfl, rfl, by decide +kernel, rfl, by decide +kernel, by decide +kernel⟩
theorem ok_law_town {f : Addr} {fd : FuncData} (F : Fun K "_law_town" "_law_town" s_law_town f fd) (gx : mg "_law_town" = some (.ref f)) (b_int : mg "int" = none) (b_range : mg "range" = none) : Clr P w K mg base "_law_town" 1 2 R_law_town :=
  ⟨f, fd, _, F.ok sc_law_town (fun vs H Q E h => spR_len h) (fun cdv A outer s H vs Q E hr h => ⟨_, (pss_cons (ps_set (i := 2) sc_law_town.nd rfl (by first | exact Or.inl rfl | exact Or.inr rfl) (pe_op op_addA pe_int (pe_op op_mod (pe_callTy call_int1 (by rfl) b_int (by decide +kernel) (pa_cons (pe_ix ix_seq (pv 0) pe_int (fun _ _ => rfl)) pa_nil)) (pv 1))))
    (pss_cons (ps_set (i := 3) sc_law_town.nd rfl (by first | exact Or.inl rfl | exact Or.inr rfl) (pe_lst pa_nil))
    (pss_cons (ps_set (i := 4) sc_law_town.nd rfl (by first | exact Or.inl rfl | exact Or.inr rfl) pe_int)
    (pss_cons (ps_for PassesOwn.never rfl (pi_range1 rfl b_range (pa_cons (pv 2) pa_nil)) (pg_name (i := 5) sc_law_town.nd rfl (by first | exact Or.inl rfl | exact Or.inr rfl)) (pss_one (ps_for PassesOwn.never rfl (pi_range2 rfl b_range (pa_cons (pe_op op_addA (pv 5) pe_int) (pa_cons (pv 2) pa_nil))) (pg_name (i := 6) sc_law_town.nd rfl (by first | exact Or.inl rfl | exact Or.inr rfl)) (pss_cons (ps_if (pt_cmpR op_lt (pe_op op_mod (pe_callTy call_int1 (by rfl) b_int (by decide +kernel) (pa_cons (pe_ix ix_seq (pv 0) (pv 4) (fun _ _ => rfl)) pa_nil)) pe_int) pe_int (nomark _)) (pss_one (ps_expr (pe_bm PySem.F.plainAttrs_list PySem.F.slot_list_append PySem.F.type_list_append mt_append (pv 3) (pa_cons (pe_tupN (pa_cons (pv 5) (pa_cons (pv 6) (pa_cons (pe_op op_addA pe_int (pe_op op_mod (pe_callTy call_int1 (by rfl) b_int (by decide +kernel) (pa_cons (pe_op op_fdivW (pe_ix ix_seq (pv 0) (pv 4) (fun _ _ => rfl)) pe_int) pa_nil)) (pe_ix ix_seq (pe_lst (pa_cons pe_int (pa_cons pe_int pa_nil))) (pe_op op_mod (pe_callTy call_int1 (by rfl) b_int (by decide +kernel) (pa_cons (pe_op op_fdivW (pe_ix ix_seq (pv 0) (pv 4) (fun _ _ => rfl)) pe_int) pa_nil)) pe_int) (fun _ _ => rfl)))) pa_nil)))) pa_nil)))) pss_nil)
    (pss_one (ps_set (i := 4) sc_law_town.nd rfl (by first | exact Or.inl rfl | exact Or.inr rfl) (pe_op op_addA (pv 4) pe_int)))))))
    (pss_one (ps_ret (pe_tupN (pa_cons (pv 2) (pa_cons (pv 3) pa_nil))))))))), body_T (A := ((List Int) × Int)) (encs := fun a => [(EL PyData.int) a.1, PyData.int a.2]) (L := fun a => L_law_town a.1 a.2) (e := (E2 PyData.int (EL (E3 PyData.int PyData.int PyData.int)))) (r := 2) (Wx := noX) (m := 7) (n := 2) (E1 := fun a => [some ((EL PyData.int) a.1, 0), some (PyData.int a.2, 2), none, none, none, none, none]) (fun a =>
    (s_bind fun x h1 => (s_bind fun n h2 => (s_let fun law_places h3 => (s_seq (ρ1 := [some ((EL PyData.int) a.1, 0), some (PyData.int a.2, 2), some (PyData.int law_places, 2), none, none, none, none]) (s_set [1] 2 (p_is (e := PyData.int) h3 (p_add p_int (p_mod (p_cb vf_int (a_consF (p_ixF (d := PyData.int x) (p_varB (d := (EL PyData.int) a.1) (i := 0) (m := 0) rfl) p_int (ixL (e := PyData.int) h1) (Flat.flat (e := PyData.int) _)) a_nil) rfl) (p_var (e := PyData.int) (a := a.2) (i := 1) (m := 2) rfl) h2))) rfl rfl)
    (s_let fun law_roads h4 => (s_seq (ρ1 := [some ((EL PyData.int) a.1, 0), some (PyData.int a.2, 2), some (PyData.int law_places, 2), some ((EL (E3 PyData.int PyData.int PyData.int)) law_roads, 2), none, none, none]) (s_set [] 3 (p_is (e := (EL (E3 PyData.int PyData.int PyData.int))) h4 (p_lstF (ds := []) a_nil flatL_nil (Nat.le_of_ble_eq_true rfl))) rfl rfl)
    (s_seq (ρ1 := [some ((EL PyData.int) a.1, 0), some (PyData.int a.2, 2), some (PyData.int law_places, 2), some ((EL (E3 PyData.int PyData.int PyData.int)) law_roads, 2), some (PyData.int (1 : Int), 2), none, none]) (s_set [] 4 p_int rfl rfl)
    (s_bind fun l h5 => (s_seqO (s_forO' (wb := [3, 4, 6]) (e := PyData.int) (xs := l) (f := (fun s x2 => L_law_town_b2 a.1 law_places s.1 s.2 x2)) (s0 := ((1 : Int), law_roads)) (E := (fun (s : (Int × (List (Int × Int × Int)))) => [some ((EL PyData.int) a.1, 0), none, some (PyData.int law_places, 2), some ((EL (E3 PyData.int PyData.int PyData.int)) s.2, 2), some (PyData.int s.1, 2), none, none])) (fun (s : (Int × (List (Int × Int × Int)))) x2 => [some ((EL PyData.int) a.1, 0), none, some (PyData.int law_places, 2), some ((EL (E3 PyData.int PyData.int PyData.int)) s.2, 2), some (PyData.int s.1, 2), some (PyData.int x2, 2), none]) (i_range1 (a_consF (p_var (e := PyData.int) (a := law_places) (i := 2) (m := 2) rfl) a_nil) h5) (vg_name 5) (l_flat (e := PyData.int) rfl (LessE.s (LessE.n (LessE.s (LessE.s (LessE.s (LessE.s (LessE.s LessE.nil)))))))) (fun s x2 => (tj_2 (e := PyData.int) (a := x2) rfl rfl))
    (fun s x2 _ => VS.mono (s_bind fun l2 h6 => (s_lastO (s_forO' (wb := [3, 4, 6]) (e := PyData.int) (xs := l2) (f := (fun s2 x3 => L_law_town_b1 a.1 x2 s2.1 s2.2 x3)) (s0 := (s.2, s.1)) (E := (fun (s2 : ((List (Int × Int × Int)) × Int)) => [some ((EL PyData.int) a.1, 0), none, some (PyData.int law_places, 2), some ((EL (E3 PyData.int PyData.int PyData.int)) s2.1, 2), some (PyData.int s2.2, 2), some (PyData.int x2, 2), none])) (fun (s2 : ((List (Int × Int × Int)) × Int)) x3 => [some ((EL PyData.int) a.1, 0), none, some (PyData.int law_places, 2), some ((EL (E3 PyData.int PyData.int PyData.int)) s2.1, 2), some (PyData.int s2.2, 2), some (PyData.int x2, 2), some (PyData.int x3, 2)]) (i_range2 (a_consF (p_add (p_var (e := PyData.int) (a := x2) (i := 5) (m := 2) rfl) p_int) (a_consF (p_var (e := PyData.int) (a := law_places) (i := 2) (m := 2) rfl) a_nil)) h6) (vg_name 6) (l_flat (e := PyData.int) rfl (LessE.s (LessE.s (LessE.s (LessE.s (LessE.s (LessE.s (LessE.s LessE.nil)))))))) (fun s2 x3 => (tj_2 (e := PyData.int) (a := x3) rfl rfl))
    (fun s2 x3 _ => VS.mono (s_bind fun x4 h7 => (s_seqO (τ := (List (Int × Int × Int))) (E := fun law_roads3 => [some ((EL PyData.int) a.1, 0), none, some (PyData.int law_places, 2), some ((EL (E3 PyData.int PyData.int PyData.int)) law_roads3, 2), some (PyData.int s2.2, 2), some (PyData.int x2, 2), some (PyData.int x3, 2)]) (s_if (t_val (p_opF vf_lt (p_mod (p_cb vf_int (a_consF (p_ixF (d := PyData.int x4) (p_varB (d := (EL PyData.int) a.1) (i := 0) (m := 0) rfl) (p_var (e := PyData.int) (a := s2.2) (i := 4) (m := 2) rfl) (ixL (e := PyData.int) h7) (Flat.flat (e := PyData.int) _)) a_nil) rfl) p_int (modN (by decide))) p_int rfl)) (fun _ => (s_bind fun x5 h8 => (s_bind fun x6 h9 => (s_bind fun x7 h10 => (s_bind fun n2 h11 => (s_bind fun law_roads2 h12 => (s_out (s_app [6] 3 (k := .mv []) (e := (E3 PyData.int PyData.int PyData.int)) (xs := s2.1) (x := (x2, x3, ((1 : Int) + n2))) (p_tupF (ds := [PyData.int x2, PyData.int x3, PyData.int ((1 : Int) + n2)]) (a_consF (p_var (e := PyData.int) (a := x2) (i := 5) (m := 2) rfl) (a_consF (p_var (e := PyData.int) (a := x3) (i := 6) (m := 2) rfl) (a_consF (p_add p_int (p_mod (p_cb vf_int (a_consF (p_div (p_ixF (d := PyData.int x5) (p_varB (d := (EL PyData.int) a.1) (i := 0) (m := 0) rfl) (p_var (e := PyData.int) (a := s2.2) (i := 4) (m := 2) rfl) (ixL (e := PyData.int) h8) (Flat.flat (e := PyData.int) _)) p_int (divN (by decide))) a_nil) rfl) (p_ixF (d := PyData.int x7) (p_lstF (ds := [PyData.int (3 : Int), PyData.int (9 : Int)]) (a_consF p_int (a_consF p_int a_nil)) (fl_cons (e := PyData.int) (fl_cons (e := PyData.int) flatL_nil)) (Nat.le_of_ble_eq_true rfl)) (p_mod (p_cb vf_int (a_consF (p_div (p_ixF (d := PyData.int x6) (p_varB (d := (EL PyData.int) a.1) (i := 0) (m := 0) rfl) (p_var (e := PyData.int) (a := s2.2) (i := 4) (m := 2) rfl) (ixL (e := PyData.int) h9) (Flat.flat (e := PyData.int) _)) p_int (divN (by decide))) a_nil) rfl) p_int (modN (by decide))) (ixL (e := PyData.int) h10) (Flat.flat (e := PyData.int) _)) h11)) a_nil))) (fl_cons (e := PyData.int) (fl_cons (e := PyData.int) (fl_cons (e := PyData.int) flatL_nil))) (Nat.le_of_ble_eq_true rfl)) rfl (.inr rfl) rfl h12 rfl) (LessE.s (LessE.s (LessE.s (LessE.s (LessE.s (LessE.s (LessE.s LessE.nil)))))))))))))) (fun _ => (s_out s_next (LessE.s (LessE.s (LessE.s (LessE.s (LessE.s (LessE.s (LessE.s LessE.nil)))))))))) (fun law_roads3 => (s_let fun law_k h13 => (s_out (s_set [] 4 (p_is (e := PyData.int) h13 (p_add (p_var (e := PyData.int) (a := s2.2) (i := 4) (m := 2) rfl) p_int)) rfl rfl) (LessE.s (LessE.s (LessE.s (LessE.s (LessE.s (LessE.s (LessE.n LessE.nil)))))))))))) (by decide))) (fun s3 => (LessE.s (LessE.s (LessE.s (LessE.s (LessE.s (LessE.n (LessE.s LessE.nil)))))))))) (by decide))) (fun s4 => (s_ret (p_tupM (ds := [PyData.int law_places, (EL (E3 PyData.int PyData.int PyData.int)) s4.2]) (a_consF (p_var (e := PyData.int) (a := law_places) (i := 2) (m := 2) rfl) (a_consM (p_varM (d := (EL (E3 PyData.int PyData.int PyData.int)) s4.2) (i := 3) rfl) a_nil rfl)) (Nat.le_of_ble_eq_true rfl)) rfl)))))))))))) (fun a => (LessE.z (LessE.f2 (e := PyData.int) LessE.refl))) h rfl (by decide)⟩), gx, F.kp, F.binds fun _ _ _ _ _ _ us hl => match us, hl with | [_, _], _ => rfl⟩
theorem sc_law_text : FnScope ["_law_lines_here", "_law_words"] ["_law_lines_here"] (defScope s_law_text) := ⟨rfl, rfl, rfl, by decide +kernel, rfl, by decide +kernel, by decide +kernel⟩
theorem ok_law_text {f : Addr} {fd : FuncData} (F : Fun K "_law_text" "_law_text" s_law_text f fd) (gx : mg "_law_text" = some (.ref f))  : Clr P w K mg base "_law_text" 1 1 R_law_text :=
  ⟨f, fd, _, F.ok sc_law_text (fun vs H Q E h => spR_len h) (fun cdv A outer s H vs Q E hr h => ⟨_, (pss_one (ps_ret (pe_join pe_str (pe_lc (own := [("_law_words", 1)]) rfl sc_law_text.nd (pi_any (pv 0)) (blkOk_by (by kernel_rfl)) (fun _ _ _ _ _ => (pg_name (i := 1) sc_law_text.nd rfl (by first | exact Or.inl rfl | exact Or.inr rfl))) (fun _ _ _ _ _ => pts_nil) (fun _ _ _ _ _ => (pe_op op_addA (pe_join pe_str (pv 1)) pe_str)))))), body_T (A := (List (List Str))) (encs := fun a => [(EL (EL PyData.str)) a]) (L := fun a => L_law_text a) (e := PyData.str) (r := 2) (Wx := noX) (m := 2) (n := 1) (E1 := fun a => [some ((EL (EL PyData.str)) a, 0), none]) (fun a =>
    (s_bind fun u h3 => (s_bind fun l h4 => (s_bind fun s3 h5 => (s_ret (p_join p_str (q_lcF (e := (EL PyData.str)) (xs := a) (e' := PyData.str) (c := fun _ => some true) (f := fun x => (joinO (" " : Str) x).bind fun s => (scatO s ("\n" : Str)).bind fun s2 => some s2) (fun x => [some ((EL (EL PyData.str)) a, 0), some ((EL PyData.str) x, 0)]) (i_seq (e := (EL PyData.str)) (xs := a) (p_varB (d := (EL (EL PyData.str)) a) (i := 0) (m := 0) rfl) rfl) (vg_name 1) (fun x => (tj_0 rfl rfl)) (fun x _ => t_yes) (fun x _ => (ev_bind fun s h1 => (ev_bind fun s2 h2 => (p_scat (p_join p_str (p_varB (d := (EL PyData.str) x) (i := 1) (m := 0) rfl) h1) p_str h2)))) h3 (filO_yes.trans h4) (by decide)) h5) rfl))))) (fun a => (LessE.z LessE.refl)) h rfl (by decide)⟩), gx, F.kp, F.binds fun _ _ _ _ _ _ us hl => match us, hl with | [_], _ => rfl⟩
theorem sc_law_lines : FnScope ["_law_town_here", "_law_road", "_law_number"] ["_law_town_here"] (defScope s_law_lines) := ⟨rfl, rfl, rfl, by decide +kernel, rfl, by decide +kernel, by decide +kernel⟩
theorem ok_law_lines {f : Addr} {fd : FuncData} (F : Fun K "_law_lines" "_law_lines" s_law_lines f fd) (gx : mg "_law_lines" = some (.ref f)) (b_str : mg "str" = none) : Clr P w K mg base "_law_lines" 1 1 R_law_lines :=
  ⟨f, fd, _, F.ok sc_law_lines (fun vs H Q E h => spR_len h) (fun cdv A outer s H vs Q E hr h => ⟨_, (pss_one (ps_ret (pe_op op_addA (pe_lst (pa_cons (pe_lst (pa_cons pe_str (pa_cons (pe_callTy call_strA (by rfl) b_str (by decide +kernel) (pa_cons (pe_ix ix_seq (pv 0) pe_int (fun _ _ => rfl)) pa_nil)) pa_nil))) pa_nil)) (pe_lc (own := [("_law_road", 1)]) rfl sc_law_lines.nd (pi_any (pe_ix ix_seq (pv 0) pe_int (fun _ _ => rfl))) (blkOk_by (by kernel_rfl)) (fun _ _ _ _ _ => (pg_name (i := 1) sc_law_lines.nd rfl (by first | exact Or.inl rfl | exact Or.inr rfl))) (fun _ _ _ _ _ => pts_nil) (fun _ _ _ _ _ => (pe_op op_addA (pe_lst (pa_cons pe_str pa_nil)) (pe_lc (own := [("_law_number", 2)]) rfl sc_law_lines.nd (pi_any (pv 1)) (blkOk_by (by kernel_rfl)) (fun _ _ _ _ _ => (pg_name (i := 2) sc_law_lines.nd rfl (by first | exact Or.inl rfl | exact Or.inr rfl))) (fun _ _ _ _ _ => pts_nil) (fun _ _ _ _ _ => (pe_callTy call_strA (by rfl) b_str (by decide +kernel) (pa_cons (pv 2) pa_nil)))))))))), body_T (A := (Int × (List (Int × Int × Int)))) (encs := fun a => [(E2 PyData.int (EL (E3 PyData.int PyData.int PyData.int))) a]) (L := fun a => L_law_lines a) (e := (EL (EL PyData.str))) (r := 2) (Wx := noX) (m := 3) (n := 1) (E1 := fun a => [some ((E2 PyData.int (EL (E3 PyData.int PyData.int PyData.int))) a, 0), none, none]) (fun a =>
    (s_bind fun s h1 => (s_bind fun u2 h6 => (s_bind fun l3 h7 => (s_bind fun l4 h8 => (s_ret (p_catM (e := (EL PyData.str)) (xs := ([([("places" : Str), s] : (List Str))] : (List (List Str)))) (ys := l3) (p_lstM (ds := [(EL PyData.str) ([("places" : Str), s] : (List Str))]) (a_consM (p_lstF (ds := [PyData.str ("places" : Str), PyData.str s]) (a_consF p_str (a_consF (p_cb vf_str (a_consF (p_ixF (d := PyData.int a.1) (p_varB (d := (E2 PyData.int (EL (E3 PyData.int PyData.int PyData.int))) a) (i := 0) (m := 0) rfl) p_int rfl (Flat.flat (e := PyData.int) _)) a_nil) (strI h1)) a_nil)) (fl_cons (e := PyData.str) (fl_cons (e := PyData.str) flatL_nil)) (Nat.le_of_ble_eq_true rfl)) a_nil rfl) (Nat.le_of_ble_eq_true rfl)) (q_lcM (e := (E3 PyData.int PyData.int PyData.int)) (xs := a.2) (e' := (EL PyData.str)) (c := fun _ => some true) (f := fun x => (chk (decide (([x.1, x.2.1, x.2.2] : (List Int)).length ≤ 1000000))).bind fun u => (mapO (fun x2 => (strO x2).bind fun s2 => some s2) ([x.1, x.2.1, x.2.2] : (List Int))).bind fun l => (catO ([("road" : Str)] : (List Str)) l).bind fun l2 => some l2) (fun x => [some ((E2 PyData.int (EL (E3 PyData.int PyData.int PyData.int))) a, 0), some ((E3 PyData.int PyData.int PyData.int) x, 2), none]) (i_seq (e := (E3 PyData.int PyData.int PyData.int)) (xs := a.2) (p_ixB (d := (EL (E3 PyData.int PyData.int PyData.int)) a.2) [0] (p_varB (d := (E2 PyData.int (EL (E3 PyData.int PyData.int PyData.int))) a) (i := 0) (m := 0) rfl) p_int rfl rfl) rfl) (vg_name 1) (fun x => (tj_2 (e := (E3 PyData.int PyData.int PyData.int)) (a := x) rfl rfl)) (fun x _ => t_yes) (fun x _ => (ev_bind fun u h3 => (ev_bind fun l h4 => (ev_bind fun l2 h5 => (p_catF (e := PyData.str) (xs := ([("road" : Str)] : (List Str))) (ys := l) (p_lstF (ds := [PyData.str ("road" : Str)]) (a_consF p_str a_nil) (fl_cons (e := PyData.str) flatL_nil) (Nat.le_of_ble_eq_true rfl)) (q_lcF (e := PyData.int) (xs := ([x.1, x.2.1, x.2.2] : (List Int))) (e' := PyData.str) (c := fun _ => some true) (f := fun x2 => (strO x2).bind fun s2 => some s2) (fun x2 => [some ((E2 PyData.int (EL (E3 PyData.int PyData.int PyData.int))) a, 0), some ((E3 PyData.int PyData.int PyData.int) x, 0), some (PyData.int x2, 2)]) (i_seq (e := PyData.int) (xs := ([x.1, x.2.1, x.2.2] : (List Int))) (p_var (e := (E3 PyData.int PyData.int PyData.int)) (a := x) (i := 1) (m := 2) rfl) rfl) (vg_name 2) (fun x2 => (tj_2 (e := PyData.int) (a := x2) rfl rfl)) (fun x2 _ => t_yes) (fun x2 _ => (ev_bind fun s2 h2 => (p_cb vf_str (a_consF (p_var (e := PyData.int) (a := x2) (i := 2) (m := 2) rfl) a_nil) (strI h2)))) h3 (filO_yes.trans h4) (by decide)) h5))))) h6 (filO_yes.trans h7) (by decide)) h8 rfl) rfl)))))) (fun a => (LessE.z LessE.refl)) h rfl (by decide)⟩), gx, F.kp, F.binds fun _ _ _ _ _ _ us hl => match us, hl with | [_], _ => rfl⟩
theorem sc_lines_of : FnScope ["text", "lines"] ["text"] (defScope s_lines_of) := ⟨rfl, rfl, rfl, by decide +kernel, rfl, by decide +kernel, by decide +kernel⟩
theorem ok_lines_of {f : Addr} {fd : FuncData} (F : Fun K "lines_of" "lines_of" s_lines_of f fd) (gx : mg "lines_of" = some (.ref f))  : Clr P w K mg base "lines_of" 1 1 R_lines_of :=
  ⟨f, fd, _, F.ok sc_lines_of (fun vs H Q E h => spR_len h) (fun cdv A outer s H vs Q E hr h => ⟨_, (pss_cons (ps_set (i := 1) sc_lines_of.nd rfl (by first | exact Or.inl rfl | exact Or.inr rfl) (pe_split (pv 0) pe_str))
    (pss_cons (ps_if (pt_cmpR (op_eqA hr.units) (pe_ix ix_seq (pv 1) (pe_un un_neg pe_int) (fun _ _ => rfl)) pe_str (nomark _)) (pss_one (ps_ret (pe_tupN (pa_cons (pe_slice sl_any (pv 1) po_none (po_some (pe_un un_neg pe_int))) (pa_cons pe_bl pa_nil))))) pss_nil)
    (pss_one (ps_ret (pe_tupN (pa_cons (pv 1) (pa_cons pe_bl pa_nil))))))), body_T (A := Str) (encs := fun a => [PyData.str a]) (L := fun a => L_lines_of a) (e := (E2 (EL PyData.str) PyData.bool)) (r := 2) (Wx := noX) (m := 2) (n := 1) (E1 := fun a => [some (PyData.str a, 2), none]) (fun a =>
    (s_bind fun l h1 => (s_seq (ρ1 := [some (PyData.str a, 2), some ((EL PyData.str) l, 2)]) (s_set [0] 1 (p_split (p_var (e := PyData.str) (a := a) (i := 0) (m := 2) rfl) p_str h1) rfl rfl)
    (s_bind fun x h2 => (s_ifX (t_val (p_eqS (p_ixF (d := PyData.str x) (p_varM (d := (EL PyData.str) l) (i := 1) rfl) (p_neg p_int) (ixL (e := PyData.str) h2) (Flat.flat (e := PyData.str) _)) p_str)) (fun _ => (s_ret (p_tupM (ds := [(EL PyData.str) (cutI l none (some (-(1 : Int)))), PyData.bool true]) (a_consM (p_slLF (e := PyData.str) (xs := l) (p_varM (d := (EL PyData.str) l) (i := 1) rfl) o_no (o_part (p_neg p_int))) (a_consF p_bl a_nil) rfl) (Nat.le_of_ble_eq_true rfl)) rfl)) nb_rt (fun _ => s_skip (s_ret (p_tupM (ds := [(EL PyData.str) l, PyData.bool false]) (a_consM (p_varM (d := (EL PyData.str) l) (i := 1) rfl) (a_consF p_bl a_nil) rfl) (Nat.le_of_ble_eq_true rfl)) rfl))))))) (fun a => (LessE.f2 (e := PyData.str) LessE.refl)) h rfl (by decide)⟩), gx, F.kp, F.binds fun _ _ _ _ _ _ us hl => match us, hl with | [_], _ => rfl⟩
theorem sc_is_within : FnScope ["value", "low", "high"] ["value", "low", "high"] (defScope s_is_within) := ⟨rfl, rfl, rfl, by decide +kernel, rfl, by decide +kernel, by decide +kernel⟩
theorem ok_is_within {f : Addr} {fd : FuncData} (F : Fun K "is_within" "is_within" s_is_within f fd) (gx : mg "is_within" = some (.ref f)) (b_isinstance : mg "isinstance" = none) (b_int : mg "int" = none) (b_bool : mg "bool" = none) : Clr P w K mg base "is_within" 1 3 R_is_within :=
  ⟨f, fd, _, F.ok sc_is_within (fun vs H Q E h => spR_len h) (fun cdv A outer s H vs Q E hr h => ⟨_, (pss_one (ps_ret (pe_and (pe_callB call_isi (by rfl) b_isinstance (by decide +kernel) (pa_cons (pv 0) (pa_cons (pe_bltn (v := .ty "int") (by rfl) b_int (by decide +kernel) rfl) pa_nil))) (pe_and (pe_not (pe_callB call_isi (by rfl) b_isinstance (by decide +kernel) (pa_cons (pv 0) (pa_cons (pe_bltn (v := .ty "bool") (by rfl) b_bool (by decide +kernel) rfl) pa_nil)))) (pe_one (pe_chain op_le op_le (pv 1) (pv 0) (pv 2))))))), body_T (A := (Int × Int × Int)) (encs := fun a => [PyData.int a.1, PyData.int a.2.1, PyData.int a.2.2]) (L := fun a => L_is_within a.1 a.2.1 a.2.2) (e := PyData.bool) (r := 2) (Wx := noX) (m := 3) (n := 3) (E1 := fun a => [some (PyData.int a.1, 2), some (PyData.int a.2.1, 2), some (PyData.int a.2.2, 2)]) (fun a =>
    (s_ret (p_andV (p_isi "int" (by decide +kernel) (p_var (e := PyData.int) (a := a.1) (i := 0) (m := 2) rfl) (by first | rfl | (unfold isiD tyD; decide +kernel)) rfl) fun _ => (p_andV (p_notV (p_isi "bool" (by decide +kernel) (p_var (e := PyData.int) (a := a.1) (i := 0) (m := 2) rfl) (by first | rfl | (unfold isiD tyD; decide +kernel)) rfl)) fun _ => (p_chain vf_le vf_le (p_var (e := PyData.int) (a := a.2.1) (i := 1) (m := 2) rfl) (p_var (e := PyData.int) (a := a.1) (i := 0) (m := 2) rfl) (p_var (e := PyData.int) (a := a.2.2) (i := 2) (m := 2) rfl) rfl rfl))) rfl)) (fun a => (LessE.f2 (e := PyData.int) (LessE.f2 (e := PyData.int) (LessE.f2 (e := PyData.int) LessE.refl)))) h rfl (by decide)⟩), gx, F.kp, F.binds fun _ _ _ _ _ _ us hl => match us, hl with | [_, _, _], _ => rfl⟩
theorem sc_is_road : FnScope ["places", "road", "first", "second", "length"] ["places", "road"] (defScope s_is_road) := ⟨rfl, rfl, rfl, by decide +kernel, rfl, by decide +kernel, by decide +kernel⟩
theorem ok_is_road {f : Addr} {fd : FuncData} {t_LONGEST : Tok} (F : Fun K "is_road" "is_road" s_is_road f fd) (gx : mg "is_road" = some (.ref f)) (k_LONGEST : mg "LONGEST" = some (.int 9 t_LONGEST)) (c_is_within : Clr P w K mg base "is_within" 1 3 R_is_within) : Clr P w K mg base "is_road" 2 2 R_is_road :=
  ⟨f, fd, _, F.ok sc_is_road (fun vs H Q E h => spR_len h) (fun cdv A outer s H vs Q E hr h => ⟨_, (pss_cons (ps_asg (pv 1) (pg_tup (n := 3) (by rfl) (pgs_cons (pg_name (i := 2) sc_is_road.nd rfl (by first | exact Or.inl rfl | exact Or.inr rfl)) (pgs_cons (pg_name (i := 3) sc_is_road.nd rfl (by first | exact Or.inl rfl | exact Or.inr rfl)) (pgs_cons (pg_name (i := 4) sc_is_road.nd rfl (by first | exact Or.inl rfl | exact Or.inr rfl)) pgs_nil)))))
    (pss_cons (ps_if (PW.pt (pw_or (pt_not (pt_truth (pe_callR c_is_within hr (by decide) (pa_cons (pv 2) (pa_cons pe_int (pa_cons (pe_op op_sub (pv 0) pe_int) pa_nil)))) (by intro _; rfl))) (pw_or1 (pt_not (pt_truth (pe_callR c_is_within hr (by decide) (pa_cons (pv 3) (pa_cons pe_int (pa_cons (pe_op op_sub (pv 0) pe_int) pa_nil)))) (by intro _; rfl)))))) (pss_one (ps_ret pe_bl)) pss_nil)
    (pss_one (ps_ret (pe_and (pe_cmpR op_lt (pv 2) (pv 3) (nomark _)) (pe_one (pe_callR c_is_within hr (by decide) (pa_cons (pv 4) (pa_cons pe_int (pa_cons (pe_glob (by rfl) k_LONGEST (show L2.RelV (.int 9) (.int 9 t_LONGEST) from ⟨_, rfl⟩)) pa_nil)))))))))), body_T (A := (Int × (List Int))) (encs := fun a => [PyData.int a.1, (ET PyData.int) a.2]) (L := fun a => L_is_road a.1 a.2) (e := PyData.bool) (r := 2) (Wx := noX) (m := 5) (n := 2) (E1 := fun a => [some (PyData.int a.1, 2), some ((ET PyData.int) a.2, 2), none, none, none]) (fun a =>
    (s_bind fun z h1 => (s_seq (ρ1 := [some (PyData.int a.1, 2), some ((ET PyData.int) a.2, 2), some (PyData.int z.1, 2), some (PyData.int z.2.1, 2), some (PyData.int z.2.2, 2)]) (s_asgJ (vg_tup (vgs_cons (vg_name 2) (vgs_cons (vg_name 3) (vgs_cons (vg_name 4) vgs_nil)))) (p_un3 (p_var (e := (ET PyData.int)) (a := a.2) (i := 1) (m := 2) rfl) h1) (tj_T (tj_cons (tj_2 (e := PyData.int) (a := z.1) rfl rfl) (tj_cons (tj_2 (e := PyData.int) (a := z.2.1) rfl rfl) (tj_cons (tj_2 (e := PyData.int) (a := z.2.2) rfl rfl) tj_nil))) rfl))
    (s_bind fun r h2 => (s_bind fun b h4 => (s_ifX (tv_at h4 (c_or (t_not (t_tru (p_callF (e := PyData.bool) (L := fun (a : (Int × Int × Int)) => L_is_within a.1 a.2.1 a.2.2) (a := (z.1, (0 : Int), (a.1 - (1 : Int)))) h2 (a_consF (p_var (e := PyData.int) (a := z.1) (i := 2) (m := 2) rfl) (a_consF p_int (a_consF (p_opF vf_sub (p_var (e := PyData.int) (a := a.1) (i := 0) (m := 2) rfl) p_int rfl) a_nil))) rfl rfl) rfl)) fun _ => (c_bind fun r2 h3 => (t_not (t_tru (p_callF (e := PyData.bool) (L := fun (a : (Int × Int × Int)) => L_is_within a.1 a.2.1 a.2.2) (a := (z.2.1, (0 : Int), (a.1 - (1 : Int)))) h3 (a_consF (p_var (e := PyData.int) (a := z.2.1) (i := 3) (m := 2) rfl) (a_consF p_int (a_consF (p_opF vf_sub (p_var (e := PyData.int) (a := a.1) (i := 0) (m := 2) rfl) p_int rfl) a_nil))) rfl rfl) rfl))))) (fun _ => (s_ret p_bl rfl)) nb_rt (fun _ => s_skip (s_bind fun b2 h6 => (s_ret (ev_at (e := PyData.bool) h6 (e_andV (p_opF vf_lt (p_var (e := PyData.int) (a := z.1) (i := 2) (m := 2) rfl) (p_var (e := PyData.int) (a := z.2.1) (i := 3) (m := 2) rfl) rfl) fun _ => (ev_bind fun r3 h5 => (p_callF (e := PyData.bool) (L := fun (a : (Int × Int × Int)) => L_is_within a.1 a.2.1 a.2.2) (a := (z.2.2, (1 : Int), (9 : Int))) h5 (a_consF (p_var (e := PyData.int) (a := z.2.2) (i := 4) (m := 2) rfl) (a_consF p_int (a_consF p_int a_nil))) rfl rfl)))) rfl))))))))) (fun a => (LessE.f2 (e := PyData.int) (LessE.f2 (e := (ET PyData.int)) LessE.refl))) h rfl (by decide)⟩), gx, F.kp, F.binds fun _ _ _ _ _ _ us hl => match us, hl with | [_, _], _ => rfl⟩
theorem sc_check_town : FnScope ["town", "places", "roads", "at", "road"] ["town"] (defScope s_check_town) := ⟨rfl, rfl, rfl, by decide +kernel, rfl, by decide +kernel, by decide +kernel⟩
theorem ok_check_town {f : Addr} {fd : FuncData} {t_MOST : Tok} (F : Fun K "check_town" "check_town" s_check_town f fd) (gx : mg "check_town" = some (.ref f)) (b_enumerate : mg "enumerate" = none) (k_MOST : mg "MOST" = some (.int 7 t_MOST)) (c_is_within : Clr P w K mg base "is_within" 1 3 R_is_within) (c_is_road : Clr P w K mg base "is_road" 2 2 R_is_road) : Clr P w K mg base "check_town" 3 1 R_check_town :=
  ⟨f, fd, _, F.ok sc_check_town (fun vs H Q E h => spR_len h) (fun cdv A outer s H vs Q E hr h => ⟨_, (pss_cons (ps_asg (pv 0) (pg_tup (n := 2) (by rfl) (pgs_cons (pg_name (i := 1) sc_check_town.nd rfl (by first | exact Or.inl rfl | exact Or.inr rfl)) (pgs_cons (pg_name (i := 2) sc_check_town.nd rfl (by first | exact Or.inl rfl | exact Or.inr rfl)) pgs_nil))))
    (pss_cons (ps_if (pt_not (pt_truth (pe_callR c_is_within hr (by decide) (pa_cons (pv 1) (pa_cons pe_int (pa_cons (pe_glob (by rfl) k_MOST (show L2.RelV (.int 7) (.int 7 t_MOST) from ⟨_, rfl⟩)) pa_nil)))) (by intro _; rfl))) (pss_one ps_never) pss_nil)
    (pss_one (ps_for PassesOwn.never rfl (EnT.pi_enumA rfl b_enumerate (pa_cons (pv 2) pa_nil)) (pg_tup (n := 2) (by rfl) (pgs_cons (pg_name (i := 3) sc_check_town.nd rfl (by first | exact Or.inl rfl | exact Or.inr rfl)) (pgs_cons (pg_name (i := 4) sc_check_town.nd rfl (by first | exact Or.inl rfl | exact Or.inr rfl)) pgs_nil))) (pss_one (ps_if (PW.pt (pw_or (pt_not (pt_truth (pe_callR c_is_road hr (by decide) (pa_cons (pv 1) (pa_cons (pv 4) pa_nil))) (by intro _; rfl))) (pw_or1 (PW.pt (pw_and (pt_cmpR op_gt (pv 3) pe_int (nomark _)) (pw_and1 (pt_cmpR (op_geA hr.units) (pe_slice sl_any (pe_ix ix_seq (pv 2) (pe_op op_sub (pv 3) pe_int) (fun _ _ => rfl)) po_none (po_some pe_int)) (pe_slice sl_any (pv 4) po_none (po_some pe_int)) (nomark _)))))))) (pss_one ps_never) pss_nil)))))), body_TN (A := (Int × (List (List Int)))) (encs := fun a => [(E2 PyData.int (EL (ET PyData.int))) a]) (L := fun a => L_check_town a) (Wx := noX) (m := 5) (n := 1) (E1 := fun a => [some ((E2 PyData.int (EL (ET PyData.int))) a, 0), none, none, none, none]) (fun a =>
    (s_seq (ρ1 := [some ((E2 PyData.int (EL (ET PyData.int))) a, 0), some (PyData.int a.1, 2), some ((EL (ET PyData.int)) a.2, 0), none, none]) (s_asgJ (vg_tup (vgs_cons (vg_name 1) (vgs_cons (vg_name 2) vgs_nil))) (p_varB (d := (E2 PyData.int (EL (ET PyData.int))) a) (i := 0) (m := 0) rfl) (tj_T (tj_cons (tj_2 (e := PyData.int) (a := a.1) rfl rfl) (tj_cons (tj_0 rfl rfl) tj_nil)) rfl))
    (s_bind fun r h1 => (s_seqO (τ := Unit) (E := fun j => [some ((E2 PyData.int (EL (ET PyData.int))) a, 0), some (PyData.int a.1, 2), some ((EL (ET PyData.int)) a.2, 0), none, none]) (s_if (t_not (t_tru (p_callF (e := PyData.bool) (L := fun (a : (Int × Int × Int)) => L_is_within a.1 a.2.1 a.2.2) (a := (a.1, (1 : Int), (7 : Int))) h1 (a_consF (p_var (e := PyData.int) (a := a.1) (i := 1) (m := 2) rfl) (a_consF p_int (a_consF p_int a_nil))) rfl rfl) rfl)) (fun _ => s_raise) (fun _ => (s_out s_next (LessE.s (LessE.s (LessE.s (LessE.s (LessE.s LessE.nil)))))))) (fun j => (s_lastO (s_forO' (wb := []) (e := (EW (E2 PyData.int (ET PyData.int)))) (xs := (enumI a.2 0)) (f := (fun s x => L_check_town_b1 a.1 a.2 x.1 x.2)) (s0 := ()) (E := (fun (s : Unit) => [none, some (PyData.int a.1, 2), some ((EL (ET PyData.int)) a.2, 0), none, none])) (fun (s : Unit) x => [none, some (PyData.int a.1, 2), some ((EL (ET PyData.int)) a.2, 0), some (PyData.int x.1, 2), some ((ET PyData.int) x.2, 2)]) (i_enum (e := (ET PyData.int)) (xs := a.2) (a_consB (p_varB (d := (EL (ET PyData.int)) a.2) (i := 2) (m := 0) rfl) a_nil [2] rfl) rfl) (vg_tup (vgs_cons (vg_name 3) (vgs_cons (vg_name 4) vgs_nil))) (l_flat (e := (EW (E2 PyData.int (ET PyData.int)))) rfl (LessE.n (LessE.s (LessE.s (LessE.s (LessE.s LessE.nil)))))) (fun s x => (tj_W (tj_cons (tj_2 (e := PyData.int) (a := x.1) rfl rfl) (tj_cons (tj_2 (e := (ET PyData.int)) (a := x.2) rfl rfl) tj_nil)) rfl))
    (fun s x _ => VS.mono (s_bind fun r2 h2 => (s_bind fun b2 h5 => (s_if (tv_at h5 (c_or (t_not (t_tru (p_callF (e := PyData.bool) (L := fun (a : (Int × (List Int))) => L_is_road a.1 a.2) (a := (a.1, x.2)) h2 (a_consF (p_var (e := PyData.int) (a := a.1) (i := 1) (m := 2) rfl) (a_consF (p_var (e := (ET PyData.int)) (a := x.2) (i := 4) (m := 2) rfl) a_nil)) rfl rfl) rfl)) fun _ => (c_bind fun b h4 => (tv_at h4 (c_and (t_val (p_opF vf_gt (p_var (e := PyData.int) (a := x.1) (i := 3) (m := 2) rfl) p_int rfl)) fun _ => (c_bind fun x2 h3 => (t_val (p_geA (e := (ET PyData.int)) (a := (cutI x2 none (some (2 : Int)))) (b := (cutI x.2 none (some (2 : Int)))) (p_slTF (e := PyData.int) (xs := x2) (p_ixF (d := (ET PyData.int) x2) (p_varB (d := (EL (ET PyData.int)) a.2) (i := 2) (m := 0) rfl) (p_opF vf_sub (p_var (e := PyData.int) (a := x.1) (i := 3) (m := 2) rfl) p_int rfl) (ixL (e := (ET PyData.int)) h3) (Flat.flat (e := (ET PyData.int)) _)) o_no (o_part p_int)) (p_slTF (e := PyData.int) (xs := x.2) (p_var (e := (ET PyData.int)) (a := x.2) (i := 4) (m := 2) rfl) o_no (o_part p_int)) (by decide))))))))) (fun _ => s_raise) (fun _ => (s_out s_next (LessE.s (LessE.s (LessE.s (LessE.n (LessE.n LessE.nil)))))))))) (by decide))) (fun s2 => (LessE.s (LessE.n (LessE.n (LessE.s (LessE.s LessE.nil)))))))))))) (fun a => (LessE.z LessE.refl)) h rfl (by decide)⟩), gx, F.kp, F.binds fun _ _ _ _ _ _ us hl => match us, hl with | [_], _ => rfl⟩
theorem sc_read_number : FnScope ["word", "sign"] ["word"] (defScope s_read_number) := ⟨rfl, rfl, rfl, by decide +kernel, rfl, by decide +kernel, by decide +kernel⟩
theorem ok_read_number {f : Addr} {fd : FuncData} {t_DIGITS : Tok} (F : Fun K "read_number" "read_number" s_read_number f fd) (gx : mg "read_number" = some (.ref f)) (b_len : mg "len" = none) (b_all : mg "all" = none) (b_int : mg "int" = none) (k_DIGITS : mg "DIGITS" = some (.str "0123456789" t_DIGITS)) : Clr P w K mg base "read_number" 1 1 R_read_number :=
  ⟨f, fd, _, F.ok sc_read_number (fun vs H Q E h => spR_len h) (fun cdv A outer s H vs Q E hr h => ⟨_, (pss_cons (ps_if (PW.pt (pw_or (pt_not (pt_chain op_le op_le pe_int (pe_callB call_len (by rfl) b_len (by decide +kernel) (pa_cons (pv 0) pa_nil)) pe_int)) (pw_or1 (pt_not (pt_truth (pe_callB (cr_all rfl) (by rfl) b_all (by decide +kernel) (pa_cons (pe_lc (own := [("sign", 1)]) rfl sc_read_number.nd (pi_str (pv 0)) (blkOk_by (by kernel_rfl)) (fun _ _ _ _ _ => (pg_name (i := 1) sc_read_number.nd rfl (by first | exact Or.inl rfl | exact Or.inr rfl))) (fun _ _ _ _ _ => pts_nil) (fun _ _ _ _ _ => (pe_cmpR op_in_sign (pv 1) (pe_glob (by rfl) k_DIGITS (show L2.RelV (.str "0123456789") (.str "0123456789" t_DIGITS) from ⟨_, rfl⟩)) (by rfl)))) pa_nil)) (by intro _; rfl)))))) (pss_one (ps_ret pe_non)) pss_nil)
    (pss_cons (ps_if (PW.pt (pw_and (pt_cmpR (op_eqA hr.units) (pe_item_str (pv 0) pe_int (fun _ _ => rfl)) pe_str (nomark _)) (pw_and1 (pt_cmpR op_gt (pe_callB call_len (by rfl) b_len (by decide +kernel) (pa_cons (pv 0) pa_nil)) pe_int (nomark _))))) (pss_one (ps_ret pe_non)) pss_nil)
    (pss_one (ps_ret (pe_callTy call_int_str (by rfl) b_int (by decide +kernel) (pa_cons (pv 0) pa_nil)))))), body_T (A := Str) (encs := fun a => [PyData.str a]) (L := fun a => L_read_number a) (e := (EO PyData.int)) (r := 2) (Wx := noX) (m := 2) (n := 1) (E1 := fun a => [some (PyData.str a, 2), none]) (fun a =>
    (s_bind fun u h1 => (s_bind fun b2 h5 => (s_ifX (tv_at h5 (c_or (t_not (t_val (p_chain vf_le vf_le p_int (p_cb vf_len (a_consF (p_var (e := PyData.str) (a := a) (i := 0) (m := 2) rfl) a_nil) (lenS h1)) p_int rfl rfl))) fun _ => (c_bind fun u2 h3 => (c_bind fun l h4 => (t_not (t_tru (p_cb vf_all (a_consM (q_lcF (e := PyData.str) (xs := (chrs a)) (e' := PyData.bool) (c := fun _ => some true) (f := fun x => (inS x ("0123456789" : Str)).bind fun b => some b) (fun x => [some (PyData.str a, 0), some (PyData.str x, 2)]) (i_str (p_var (e := PyData.str) (a := a) (i := 0) (m := 2) rfl)) (vg_name 1) (fun x => (tj_2 (e := PyData.str) (a := x) rfl rfl)) (fun x _ => t_yes) (fun x _ => (ev_bind fun b h2 => (p_inS (p_var (e := PyData.str) (a := x) (i := 1) (m := 2) rfl) p_str h2))) h3 (filO_yes.trans h4) (by decide)) a_nil rfl) allL) rfl)))))) (fun _ => (s_ret p_non rfl)) nb_rt (fun _ => s_skip (s_bind fun s h6 => (s_bind fun b3 h8 => (s_ifX (tv_at h8 (c_and (t_val (p_eqS (p_atS (p_var (e := PyData.str) (a := a) (i := 0) (m := 2) rfl) p_int h6) p_str)) fun _ => (c_bind fun u3 h7 => (t_val (p_opF vf_gt (p_cb vf_len (a_consF (p_var (e := PyData.str) (a := a) (i := 0) (m := 2) rfl) a_nil) (lenS h7)) p_int rfl))))) (fun _ => (s_ret p_non rfl)) nb_rt (fun _ => s_skip (s_bind fun n h9 => (s_ret (p_intS (a_consF (p_var (e := PyData.str) (a := a) (i := 0) (m := 2) rfl) a_nil) h9) rfl))))))))))) (fun a => (LessE.f2 (e := PyData.str) LessE.refl)) h rfl (by decide)⟩), gx, F.kp, F.binds fun _ _ _ _ _ _ us hl => match us, hl with | [_], _ => rfl⟩
theorem sc_read_line : FnScope ["line", "number", "head", "many", "words", "found", "column", "word", "value"] ["line", "number", "head", "many"] (defScope s_read_line) := ⟨rfl, rfl, rfl, by decide +kernel, rfl, by decide +kernel, by decide +kernel⟩
theorem ok_read_line {f : Addr} {fd : FuncData} (F : Fun K "read_line" "read_line" s_read_line f fd) (gx : mg "read_line" = some (.ref f)) (b_len : mg "len" = none) (c_read_number : Clr P w K mg base "read_number" 1 1 R_read_number) : Clr P w K mg base "read_line" 2 4 R_read_line :=
  ⟨f, fd, _, F.ok sc_read_line (fun vs H Q E h => spR_len h) (fun cdv A outer s H vs Q E hr h => ⟨_, (pss_cons (ps_set (i := 4) sc_read_line.nd rfl (by first | exact Or.inl rfl | exact Or.inr rfl) (pe_split (pv 0) pe_str))
    (pss_cons (ps_if (pt_cmpR (op_neA hr.units) (pe_ix ix_seq (pv 4) pe_int (fun _ _ => rfl)) (pv 2) (nomark _)) (pss_one ps_never) pss_nil)
    (pss_cons (ps_set (i := 5) sc_read_line.nd rfl (by first | exact Or.inl rfl | exact Or.inr rfl) (pe_lst pa_nil))
    (pss_cons (ps_set (i := 6) sc_read_line.nd rfl (by first | exact Or.inl rfl | exact Or.inr rfl) (pe_op op_addA (pe_callB call_len (by rfl) b_len (by decide +kernel) (pa_cons (pv 2) pa_nil)) pe_int))
    (pss_cons (ps_for PassesOwn.never rfl (pi_any (pe_slice sl_any (pv 4) (po_some pe_int) po_none)) (pg_name (i := 7) sc_read_line.nd rfl (by first | exact Or.inl rfl | exact Or.inr rfl)) (pss_cons (ps_set (i := 8) sc_read_line.nd rfl (by first | exact Or.inl rfl | exact Or.inr rfl) (pe_callR c_read_number hr (by decide) (pa_cons (pv 7) pa_nil)))
    (pss_cons (ps_if (PW.pt (pw_or (pt_cmpR op_isN (pv 8) pe_non (nomark _)) (pw_or1 (PW.pt (pw_and (pt_cmpR op_notN (pv 3) pe_non (nomark _)) (pw_and1 (pt_cmpR (op_eqA hr.units) (pe_callB call_len (by rfl) b_len (by decide +kernel) (pa_cons (pv 5) pa_nil)) (pv 3) (nomark _)))))))) (pss_one ps_never) pss_nil)
    (pss_cons (ps_expr (pe_bm PySem.F.plainAttrs_list PySem.F.slot_list_append PySem.F.type_list_append mt_append (pv 5) (pa_cons (pv 8) pa_nil)))
    (pss_one (ps_aug (i := 6) sc_read_line.nd rfl (by first | exact Or.inl rfl | exact Or.inr rfl) (pe_op op_addA (pe_callB call_len (by rfl) b_len (by decide +kernel) (pa_cons (pv 7) pa_nil)) pe_int) ip_add))))))
    (pss_cons (ps_if (PW.pt (pw_and (pt_cmpR op_notN (pv 3) pe_non (nomark _)) (pw_and1 (pt_cmpR op_lt (pe_callB call_len (by rfl) b_len (by decide +kernel) (pa_cons (pv 5) pa_nil)) (pv 3) (nomark _))))) (pss_one ps_never) pss_nil)
    (pss_one (ps_ret (pv 5))))))))), body_T (A := (Str × Int × Str × Int)) (encs := fun a => [PyData.str a.1, PyData.int a.2.1, PyData.str a.2.2.1, PyData.int a.2.2.2]) (L := fun a => L_read_line a.1 a.2.1 a.2.2.1 a.2.2.2) (e := (EL PyData.int)) (r := 2) (Wx := noX) (m := 9) (n := 4) (E1 := fun a => [some (PyData.str a.1, 2), some (PyData.int a.2.1, 2), some (PyData.str a.2.2.1, 2), some (PyData.int a.2.2.2, 2), none, none, none, none, none]) (fun a =>
    (s_bind fun l h1 => (s_seq (ρ1 := [some (PyData.str a.1, 2), some (PyData.int a.2.1, 2), some (PyData.str a.2.2.1, 2), some (PyData.int a.2.2.2, 2), some ((EL PyData.str) l, 2), none, none, none, none]) (s_set [0] 4 (p_split (p_var (e := PyData.str) (a := a.1) (i := 0) (m := 2) rfl) p_str h1) rfl rfl)
    (s_bind fun x h2 => (s_ifX (t_val (p_neS (p_ixF (d := PyData.str x) (p_varM (d := (EL PyData.str) l) (i := 4) rfl) p_int (ixL (e := PyData.str) h2) (Flat.flat (e := PyData.str) _)) (p_var (e := PyData.str) (a := a.2.2.1) (i := 2) (m := 2) rfl))) (fun _ => s_raise) nb_rt (fun _ => s_skip (s_let fun found h3 => (s_seq (ρ1 := [some (PyData.str a.1, 2), some (PyData.int a.2.1, 2), some (PyData.str a.2.2.1, 2), some (PyData.int a.2.2.2, 2), some ((EL PyData.str) l, 2), some ((EL PyData.int) found, 2), none, none, none]) (s_set [] 5 (p_is (e := (EL PyData.int)) h3 (p_lstF (ds := []) a_nil flatL_nil (Nat.le_of_ble_eq_true rfl))) rfl rfl)
    (s_bind fun u h4 => (s_let fun column h5 => (s_seq (ρ1 := [some (PyData.str a.1, 2), some (PyData.int a.2.1, 2), some (PyData.str a.2.2.1, 2), some (PyData.int a.2.2.2, 2), some ((EL PyData.str) l, 2), some ((EL PyData.int) found, 2), some (PyData.int column, 2), none, none]) (s_set [2] 6 (p_is (e := PyData.int) h5 (p_add (p_cb vf_len (a_consF (p_var (e := PyData.str) (a := a.2.2.1) (i := 2) (m := 2) rfl) a_nil) (lenS h4)) p_int)) rfl rfl)
    (s_seqR (s_forC' (wb := [5, 6, 7, 8]) (e := PyData.str) (xs := (cutI l (some (1 : Int)) none)) (f := (fun s x2 => L_read_line_b1 a.2.2.2 s.1 s.2 x2)) (s0 := (found, column)) (E := (fun (s : ((List Int) × Int)) => [none, none, none, some (PyData.int a.2.2.2, 2), none, some ((EL PyData.int) s.1, 2), some (PyData.int s.2, 2), none, none])) (eR := (EL PyData.int)) (r := 2) (fun (s : ((List Int) × Int)) x2 => [none, none, none, some (PyData.int a.2.2.2, 2), none, some ((EL PyData.int) s.1, 2), some (PyData.int s.2, 2), some (PyData.str x2, 2), none]) (i_seq (e := PyData.str) (xs := (cutI l (some (1 : Int)) none)) (p_slLF (e := PyData.str) (xs := l) (p_varM (d := (EL PyData.str) l) (i := 4) rfl) (o_part p_int) o_no) rfl) (vg_name 7) (l_flat (e := PyData.str) rfl (LessE.n (LessE.n (LessE.n (LessE.s (LessE.n (LessE.s (LessE.s (LessE.s (LessE.s LessE.nil)))))))))) (fun s x2 => (tj_2 (e := PyData.str) (a := x2) rfl rfl))
    (fun s x2 _ => VS.mono (s_bind fun r h6 => (s_seq (ρ1 := [none, none, none, some (PyData.int a.2.2.2, 2), none, some ((EL PyData.int) s.1, 2), some (PyData.int s.2, 2), some (PyData.str x2, 2), some ((EO PyData.int) r, 2)]) (s_set [] 8 (p_callF (e := (EO PyData.int)) (L := fun (a : Str) => L_read_number a) (a := x2) h6 (a_consF (p_var (e := PyData.str) (a := x2) (i := 7) (m := 2) rfl) a_nil) rfl rfl) rfl rfl)
    (s_ifX (t_or (t_val (p_isN (e := PyData.int) (o := r) (p_var (e := (EO PyData.int)) (a := r) (i := 8) (m := 2) rfl) p_non)) fun _ => (t_and (t_val (p_opF vf_notN (p_var (e := PyData.int) (a := a.2.2.2) (i := 3) (m := 2) rfl) p_non rfl)) fun _ => (t_val (p_eq (e := PyData.int) (a := (s.1.length : Int)) (b := a.2.2.2) (p_cb vf_len (a_consM (p_varM (d := (EL PyData.int) s.1) (i := 5) rfl) a_nil rfl) lenL) (p_var (e := PyData.int) (a := a.2.2.2) (i := 3) (m := 2) rfl) (by decide))))) (fun _ => s_raise) (by repeat (first | exact nb_some trivial | exact (fun _ h => nomatch h) | refine nb_if ?_ ?_ | (refine nb_bind ?_; intro _) | (refine nb_res ?_ ?_ <;> intro _) | (refine nb_let ?_; intro _))) (fun _ => s_skip (s_bind fun v h7 => (s_bind fun found2 h8 => (s_seq (ρ1 := [none, none, none, some (PyData.int a.2.2.2, 2), none, some ((EL PyData.int) found2, 2), some (PyData.int s.2, 2), some (PyData.str x2, 2), some ((EO PyData.int) r, 2)]) (s_app [8] 5 (k := .mv []) (e := PyData.int) (xs := s.1) (x := v) (p_unO (e := PyData.int) h7 (p_var (e := (EO PyData.int)) (a := r) (i := 8) (m := 2) rfl)) rfl (.inr rfl) rfl h8 rfl)
    (s_bind fun u2 h9 => (s_out (s_aug (x := s.2) (y := ((x2.length : Int) + (1 : Int))) (fn := (fun i j => i + j)) 6 (p_add (p_cb vf_len (a_consF (p_var (e := PyData.str) (a := x2) (i := 7) (m := 2) rfl) a_nil) (lenS h9)) p_int) rfl rfl) (LessE.s (LessE.s (LessE.s (LessE.s (LessE.s (LessE.s (LessE.s (LessE.n (LessE.n LessE.nil)))))))))))))))))) (by decide))) (fun s2 => (s_ifX (t_and (t_val (p_opF vf_notN (p_var (e := PyData.int) (a := a.2.2.2) (i := 3) (m := 2) rfl) p_non rfl)) fun _ => (t_val (p_opF vf_lt (p_cb vf_len (a_consM (p_varM (d := (EL PyData.int) s2.1) (i := 5) rfl) a_nil rfl) lenL) (p_var (e := PyData.int) (a := a.2.2.2) (i := 3) (m := 2) rfl) rfl))) (fun _ => s_raise) nb_rt (fun _ => s_skip (s_ret (p_varM (d := (EL PyData.int) s2.1) (i := 5) rfl) rfl)))) (fun _ => rfl))))))))))))) (fun a => (LessE.f2 (e := PyData.str) (LessE.f2 (e := PyData.int) (LessE.f2 (e := PyData.str) (LessE.f2 (e := PyData.int) LessE.refl))))) h rfl (by decide)⟩), gx, F.kp, F.binds fun _ _ _ _ _ _ us hl => match us, hl with | [_, _, _, _], _ => rfl⟩
theorem sc_read_town : FnScope ["text", "lines", "is_ended", "rows", "place", "line", "head", "town", "row"] ["text"] (defScope s_read_town) := ⟨rfl, rfl, rfl, by decide +kernel, rfl, by decide +kernel, by decide +kernel⟩
theorem ok_read_town {f : Addr} {fd : FuncData} {g_COUNTS : Addr} (F : Fun K "read_town" "read_town" s_read_town f fd) (gx : mg "read_town" = some (.ref f)) (b_enumerate : mg "enumerate" = none) (b_tuple : mg "tuple" = none) (k_COUNTS : mg "COUNTS" = some (.ref g_COUNTS)) (q_COUNTS : DicC K w g_COUNTS [(("places" : Str), (1 : Int)), (("road" : Str), (3 : Int))]) (c_lines_of : Clr P w K mg base "lines_of" 1 1 R_lines_of) (c_check_town : Clr P w K mg base "check_town" 3 1 R_check_town) (c_read_line : Clr P w K mg base "read_line" 2 4 R_read_line) : Clr P w K mg base "read_town" 4 1 R_read_town :=
  ⟨f, fd, _, F.ok sc_read_town (fun vs H Q E h => spR_len h) (fun cdv A outer s H vs Q E hr h => ⟨_, (pss_cons (ps_asg (pe_callR c_lines_of hr (by decide) (pa_cons (pv 0) pa_nil)) (pg_tup (n := 2) (by rfl) (pgs_cons (pg_name (i := 1) sc_read_town.nd rfl (by first | exact Or.inl rfl | exact Or.inr rfl)) (pgs_cons (pg_name (i := 2) sc_read_town.nd rfl (by first | exact Or.inl rfl | exact Or.inr rfl)) pgs_nil))))
    (pss_cons (ps_set (i := 3) sc_read_town.nd rfl (by first | exact Or.inl rfl | exact Or.inr rfl) (pe_lst pa_nil))
    (pss_cons (ps_for PassesOwn.never rfl (EnT.pi_enumA rfl b_enumerate (pa_cons (pv 1) pa_nil)) (pg_tup (n := 2) (by rfl) (pgs_cons (pg_name (i := 4) sc_read_town.nd rfl (by first | exact Or.inl rfl | exact Or.inr rfl)) (pgs_cons (pg_name (i := 5) sc_read_town.nd rfl (by first | exact Or.inl rfl | exact Or.inr rfl)) pgs_nil))) (pss_cons (ps_set (i := 6) sc_read_town.nd rfl (by first | exact Or.inl rfl | exact Or.inr rfl) (pe_ifExp (pt_cmpR op_gt (pv 4) pe_int (nomark _)) pe_str pe_str))
    (pss_one (ps_expr (pe_bm PySem.F.plainAttrs_list PySem.F.slot_list_append PySem.F.type_list_append mt_append (pv 3) (pa_cons (pe_callR c_read_line hr (by decide) (pa_cons (pv 5) (pa_cons (pe_op op_addA (pv 4) pe_int) (pa_cons (pv 6) (pa_cons (pe_ix (ix_kd q_COUNTS) (pe_glob (by rfl) k_COUNTS (show L2.RelV (.ref g_COUNTS) (.ref g_COUNTS) from rfl)) (pv 6) (fun _ _ => rfl)) pa_nil))))) pa_nil))))))
    (pss_cons (ps_if (pt_not (pt_truth (pv 2) (by intro _; rfl))) (pss_one ps_never) pss_nil)
    (pss_cons (ps_if (pt_not (pt_truth (pv 3) (by intro _; rfl))) (pss_one ps_never) pss_nil)
    (pss_cons (ps_set (i := 7) sc_read_town.nd rfl (by first | exact Or.inl rfl | exact Or.inr rfl) (pe_tupN (pa_cons (pe_ix ix_seq (pe_ix ix_seq (pv 3) pe_int (fun _ _ => rfl)) pe_int (fun _ _ => rfl)) (pa_cons (pe_lc (own := [("row", 8)]) rfl sc_read_town.nd (pi_any (pe_slice sl_any (pv 3) (po_some pe_int) po_none)) (blkOk_by (by kernel_rfl)) (fun _ _ _ _ _ => (pg_name (i := 8) sc_read_town.nd rfl (by first | exact Or.inl rfl | exact Or.inr rfl))) (fun _ _ _ _ _ => pts_nil) (fun _ _ _ _ _ => (pe_callTy call_tuple_ofN (by rfl) b_tuple (by decide +kernel) (pa_cons (pv 8) pa_nil)))) pa_nil))))
    (pss_cons (ps_expr (pe_callR c_check_town hr (by decide) (pa_cons (pv 7) pa_nil)))
    (pss_one (ps_ret (pv 7)))))))))), body_T (A := Str) (encs := fun a => [PyData.str a]) (L := fun a => L_read_town a) (e := (E2 PyData.int (EL (ET PyData.int)))) (r := 2) (Wx := noX) (m := 9) (n := 1) (E1 := fun a => [some (PyData.str a, 2), none, none, none, none, none, none, none, none]) (fun a =>
    (s_bind fun r h1 => (s_seq (ρ1 := [some (PyData.str a, 2), some ((EL PyData.str) r.1, 0), some (PyData.bool r.2, 2), none, none, none, none, none, none]) (s_asgJ (vg_tup (vgs_cons (vg_name 1) (vgs_cons (vg_name 2) vgs_nil))) (p_call2 (e := (E2 (EL PyData.str) PyData.bool)) (L := fun (a : Str) => L_lines_of a) (a := a) h1 (a_consF (p_var (e := PyData.str) (a := a) (i := 0) (m := 2) rfl) a_nil) rfl rfl) (tj_T (tj_cons (tj_0 rfl rfl) (tj_cons (tj_2 (e := PyData.bool) (a := r.2) rfl rfl) tj_nil)) rfl))
    (s_let fun rows h2 => (s_seq (ρ1 := [some (PyData.str a, 2), some ((EL PyData.str) r.1, 0), some (PyData.bool r.2, 2), some ((EL (EL PyData.int)) rows, 2), none, none, none, none, none]) (s_set [] 3 (p_is (e := (EL (EL PyData.int))) h2 (p_lstM (ds := []) a_nil (Nat.le_of_ble_eq_true rfl))) rfl rfl)
    (s_seqO (s_forO' (wb := [3, 4, 5, 6]) (e := (EW (E2 PyData.int PyData.str))) (xs := (enumI r.1 0)) (f := (fun s x => L_read_town_b1 s x.1 x.2)) (s0 := rows) (E := (fun (s : (List (List Int))) => [none, none, some (PyData.bool r.2, 2), some ((EL (EL PyData.int)) s, 2), none, none, none, none, none])) (fun (s : (List (List Int))) x => [none, none, some (PyData.bool r.2, 2), some ((EL (EL PyData.int)) s, 2), some (PyData.int x.1, 2), some (PyData.str x.2, 2), none, none, none]) (i_enum (e := PyData.str) (xs := r.1) (a_consB (p_varB (d := (EL PyData.str) r.1) (i := 1) (m := 0) rfl) a_nil [1] rfl) rfl) (vg_tup (vgs_cons (vg_name 4) (vgs_cons (vg_name 5) vgs_nil))) (l_flat (e := (EW (E2 PyData.int PyData.str))) rfl (LessE.n (LessE.n (LessE.s (LessE.s (LessE.s (LessE.s (LessE.s (LessE.s (LessE.s LessE.nil)))))))))) (fun s x => (tj_W (tj_cons (tj_2 (e := PyData.int) (a := x.1) rfl rfl) (tj_cons (tj_2 (e := PyData.str) (a := x.2) rfl rfl) tj_nil)) rfl))
    (fun s x _ => VS.mono (s_let fun head h3 => (s_seq (ρ1 := [none, none, some (PyData.bool r.2, 2), some ((EL (EL PyData.int)) s, 2), some (PyData.int x.1, 2), some (PyData.str x.2, 2), some (PyData.str head, 2), none, none]) (s_set [] 6 (p_is (e := PyData.str) h3 (p_if (e := PyData.str) (x := ("road" : Str)) (y := ("places" : Str)) (t_val (p_opF vf_gt (p_var (e := PyData.int) (a := x.1) (i := 4) (m := 2) rfl) p_int rfl)) (fun _ => p_str) (fun _ => p_str))) rfl rfl)
    (s_bind fun n h4 => (s_bind fun r2 h5 => (s_bind fun rows2 h6 => (s_out (s_app [4, 5, 6] 3 (k := .mv []) (e := (EL PyData.int)) (xs := s) (x := r2) (p_call2 (e := (EL PyData.int)) (L := fun (a : (Str × Int × Str × Int)) => L_read_line a.1 a.2.1 a.2.2.1 a.2.2.2) (a := (x.2, (x.1 + (1 : Int)), head, n)) h5 (a_consF (p_var (e := PyData.str) (a := x.2) (i := 5) (m := 2) rfl) (a_consF (p_add (p_var (e := PyData.int) (a := x.1) (i := 4) (m := 2) rfl) p_int) (a_consF (p_var (e := PyData.str) (a := head) (i := 6) (m := 2) rfl) (a_consF (p_ixC q_COUNTS (p_var (e := PyData.str) (a := head) (i := 6) (m := 2) rfl) h4) a_nil)))) rfl rfl) rfl (.inr rfl) rfl h6 rfl) (LessE.s (LessE.s (LessE.s (LessE.s (LessE.n (LessE.n (LessE.n (LessE.s (LessE.s LessE.nil))))))))))))))) (by decide))) (fun s2 => (s_ifX (t_not (t_tru (p_var (e := PyData.bool) (a := r.2) (i := 2) (m := 2) rfl) rfl)) (fun _ => s_raise) nb_rt (fun _ => s_skip (s_ifX (t_not (t_tru (p_varM (d := (EL (EL PyData.int)) s2) (i := 3) rfl) truL)) (fun _ => s_raise) nb_rt (fun _ => s_skip (s_bind fun x2 h7 => (s_bind fun x3 h8 => (s_bind fun u h9 => (s_let fun town h10 => (s_seq (ρ1 := [none, none, some (PyData.bool r.2, 2), some ((EL (EL PyData.int)) s2, 2), none, none, none, some ((E2 PyData.int (EL (ET PyData.int))) town, 2), none]) (s_set [3] 7 (p_is (e := (E2 PyData.int (EL (ET PyData.int)))) h10 (p_tupM (ds := [PyData.int x3, (EL (ET PyData.int)) ((cutI s2 (some (1 : Int)) none).map fun x4 => x4)]) (a_consF (p_ixF (d := PyData.int x3) (p_ixM (d := (EL PyData.int) x2) (p_varM (d := (EL (EL PyData.int)) s2) (i := 3) rfl) p_int (ixL (e := (EL PyData.int)) h7)) p_int (ixL (e := PyData.int) h8) (Flat.flat (e := PyData.int) _)) (a_consM (q_lcF (e := (EL PyData.int)) (xs := (cutI s2 (some (1 : Int)) none)) (e' := (ET PyData.int)) (c := fun _ => some true) (f := fun x4 => some x4) (fun x4 => [none, none, some (PyData.bool r.2, 0), some ((EL (EL PyData.int)) s2, 0), none, none, none, none, some ((EL PyData.int) x4, 0)]) (i_seq (e := (EL PyData.int)) (xs := (cutI s2 (some (1 : Int)) none)) (p_slLS (e := (EL PyData.int)) (xs := s2) [3] (p_varM (d := (EL (EL PyData.int)) s2) (i := 3) rfl) (o_part p_int) o_no rfl) rfl) (vg_name 8) (fun x4 => (tj_0 rfl rfl)) (fun x4 _ => t_yes) (fun x4 _ => (p_tupleF (e := PyData.int) (xs := x4) (a_consB (p_varB (d := (EL PyData.int) x4) (i := 8) (m := 0) rfl) a_nil [8] rfl) rfl)) h9 filO_all (by decide)) a_nil rfl)) (Nat.le_of_ble_eq_true rfl))) rfl rfl)
    (s_bind fun r3 h11 => (s_seq (ρ1 := [none, none, some (PyData.bool r.2, 2), some ((EL (EL PyData.int)) s2, 2), none, none, none, some ((E2 PyData.int (EL (ET PyData.int))) town, 2), none]) (s_drop (p_callF (e := EN) (L := fun (a : (Int × (List (List Int)))) => L_check_town a) (a := town) h11 (a_consM (p_varM (d := (E2 PyData.int (EL (ET PyData.int))) town) (i := 7) rfl) a_nil rfl) rfl rfl))
    (s_ret (p_varM (d := (E2 PyData.int (EL (ET PyData.int))) town) (i := 7) rfl) rfl))))))))))))))))))) (fun a => (LessE.f2 (e := PyData.str) LessE.refl)) h rfl (by decide)⟩), gx, F.kp, F.binds fun _ _ _ _ _ _ us hl => match us, hl with | [_], _ => rfl⟩
theorem sc_written : FnScope ["words", "word"] ["words"] (defScope s_written) := ⟨rfl, rfl, rfl, by decide +kernel, rfl, by decide +kernel, by decide +kernel⟩
theorem ok_written {f : Addr} {fd : FuncData} (F : Fun K "written" "written" s_written f fd) (gx : mg "written" = some (.ref f)) (b_str : mg "str" = none) : Clr P w K mg base "written" 1 1 R_written :=
  ⟨f, fd, _, F.ok sc_written (fun vs H Q E h => spR_len h) (fun cdv A outer s H vs Q E hr h => ⟨_, (pss_one (ps_ret (pe_op op_addA (pe_join pe_str (pe_lc (own := [("word", 1)]) rfl sc_written.nd (pi_any (pv 0)) (blkOk_by (by kernel_rfl)) (fun _ _ _ _ _ => (pg_name (i := 1) sc_written.nd rfl (by first | exact Or.inl rfl | exact Or.inr rfl))) (fun _ _ _ _ _ => pts_nil) (fun _ _ _ _ _ => (pe_callTy call_strA (by rfl) b_str (by decide +kernel) (pa_cons (pv 1) pa_nil))))) pe_str))), body_T (A := (List (Str ⊕ Int))) (encs := fun a => [(EL EWd) a]) (L := fun a => L_written a) (e := PyData.str) (r := 2) (Wx := noX) (m := 2) (n := 1) (E1 := fun a => [some ((EL EWd) a, 0), none]) (fun a =>
    (s_bind fun u h2 => (s_bind fun l h3 => (s_bind fun s2 h4 => (s_bind fun s3 h5 => (s_ret (p_scat (p_join p_str (q_lcF (e := EWd) (xs := a) (e' := PyData.str) (c := fun _ => some true) (f := fun x => (strU x).bind fun s => some s) (fun x => [some ((EL EWd) a, 0), some (EWd x, 2)]) (i_seq (e := EWd) (xs := a) (p_varB (d := (EL EWd) a) (i := 0) (m := 0) rfl) rfl) (vg_name 1) (fun x => (tj_2 (e := EWd) (a := x) rfl rfl)) (fun x _ => t_yes) (fun x _ => (ev_bind fun s h1 => (p_cb vf_str (a_consF (p_var (e := EWd) (a := x) (i := 1) (m := 2) rfl) a_nil) (strUh h1)))) h2 (filO_yes.trans h3) (by decide)) h4) p_str h5) rfl)))))) (fun a => (LessE.z LessE.refl)) h rfl (by decide)⟩), gx, F.kp, F.binds fun _ _ _ _ _ _ us hl => match us, hl with | [_], _ => rfl⟩
theorem sc_write_town : FnScope ["town", "places", "roads", "road"] ["town"] (defScope s_write_town) := ⟨rfl, rfl, rfl, by decide +kernel, rfl, by decide +kernel, by decide +kernel⟩
theorem ok_write_town {f : Addr} {fd : FuncData} (F : Fun K "write_town" "write_town" s_write_town f fd) (gx : mg "write_town" = some (.ref f)) (c_written : Clr P w K mg base "written" 1 1 R_written) : Clr P w K mg base "write_town" 2 1 R_write_town :=
  ⟨f, fd, _, F.ok sc_write_town (fun vs H Q E h => spR_len h) (fun cdv A outer s H vs Q E hr h => ⟨_, (pss_cons (ps_asg (pv 0) (pg_tup (n := 2) (by rfl) (pgs_cons (pg_name (i := 1) sc_write_town.nd rfl (by first | exact Or.inl rfl | exact Or.inr rfl)) (pgs_cons (pg_name (i := 2) sc_write_town.nd rfl (by first | exact Or.inl rfl | exact Or.inr rfl)) pgs_nil))))
    (pss_one (ps_ret (pe_join pe_str (pe_op op_addA (pe_lst (pa_cons (pe_callR c_written hr (by decide) (pa_cons (pe_lst (pa_cons pe_str (pa_cons (pv 1) pa_nil))) pa_nil)) pa_nil)) (pe_lc (own := [("road", 3)]) rfl sc_write_town.nd (pi_any (pv 2)) (blkOk_by (by kernel_rfl)) (fun _ _ _ _ _ => (pg_name (i := 3) sc_write_town.nd rfl (by first | exact Or.inl rfl | exact Or.inr rfl))) (fun _ _ _ _ _ => pts_nil) (fun _ _ _ _ _ => (pe_callR c_written hr (by decide) (pa_cons (pe_lst (pa_cons pe_str (StX.pa_star (pv 3) pa_nil))) pa_nil))))))))), body_T (A := (Int × (List (List Int)))) (encs := fun a => [(E2 PyData.int (EL (ET PyData.int))) a]) (L := fun a => L_write_town a) (e := PyData.str) (r := 2) (Wx := noX) (m := 4) (n := 1) (E1 := fun a => [some ((E2 PyData.int (EL (ET PyData.int))) a, 0), none, none, none]) (fun a =>
    (s_seq (ρ1 := [some ((E2 PyData.int (EL (ET PyData.int))) a, 0), some (PyData.int a.1, 2), some ((EL (ET PyData.int)) a.2, 0), none]) (s_asgJ (vg_tup (vgs_cons (vg_name 1) (vgs_cons (vg_name 2) vgs_nil))) (p_varB (d := (E2 PyData.int (EL (ET PyData.int))) a) (i := 0) (m := 0) rfl) (tj_T (tj_cons (tj_2 (e := PyData.int) (a := a.1) rfl rfl) (tj_cons (tj_0 rfl rfl) tj_nil)) rfl))
    (s_bind fun r h1 => (s_bind fun u2 h4 => (s_bind fun l h5 => (s_bind fun l2 h6 => (s_bind fun s h7 => (s_ret (p_join p_str (p_catF (e := PyData.str) (xs := ([r] : (List Str))) (ys := l) (p_lstF (ds := [PyData.str r]) (a_consF (p_callF (e := PyData.str) (L := fun (a : (List (Str ⊕ Int))) => L_written a) (a := ([(Sum.inl ("places" : Str) : Str ⊕ Int), (Sum.inr a.1 : Str ⊕ Int)] : (List (Str ⊕ Int)))) h1 (a_consM (p_lstF (ds := [EWd (Sum.inl ("places" : Str) : Str ⊕ Int), EWd (Sum.inr a.1 : Str ⊕ Int)]) (a_consF p_str (a_consF (p_var (e := PyData.int) (a := a.1) (i := 1) (m := 2) rfl) a_nil)) (fl_cons (e := EWd) (fl_cons (e := EWd) flatL_nil)) (Nat.le_of_ble_eq_true rfl)) a_nil rfl) rfl rfl) a_nil) (fl_cons (e := PyData.str) flatL_nil) (Nat.le_of_ble_eq_true rfl)) (q_lcF (e := (ET PyData.int)) (xs := a.2) (e' := PyData.str) (c := fun _ => some true) (f := fun x => (chk (decide (([(Sum.inl ("road" : Str) : Str ⊕ Int)] ++ (x.map Sum.inr) : List (Str ⊕ Int)).length ≤ 1000000))).bind fun u => (L_written ([(Sum.inl ("road" : Str) : Str ⊕ Int)] ++ (x.map Sum.inr) : List (Str ⊕ Int))).bind fun r2 => some r2) (fun x => [some ((E2 PyData.int (EL (ET PyData.int))) a, 0), some (PyData.int a.1, 0), some ((EL (ET PyData.int)) a.2, 0), some ((ET PyData.int) x, 2)]) (i_seq (e := (ET PyData.int)) (xs := a.2) (p_varB (d := (EL (ET PyData.int)) a.2) (i := 2) (m := 0) rfl) rfl) (vg_name 3) (fun x => (tj_2 (e := (ET PyData.int)) (a := x) rfl rfl)) (fun x _ => t_yes) (fun x _ => (ev_bind fun u h2 => (ev_bind fun r2 h3 => (p_callF (e := PyData.str) (L := fun (a : (List (Str ⊕ Int))) => L_written a) (a := ([(Sum.inl ("road" : Str) : Str ⊕ Int)] ++ (x.map Sum.inr) : List (Str ⊕ Int))) h3 (a_consM (p_lstU (xs := ([(Sum.inl ("road" : Str) : Str ⊕ Int)] ++ (x.map Sum.inr) : List (Str ⊕ Int))) (ds := (EWd (Sum.inl ("road" : Str) : Str ⊕ Int) :: (x.map PyData.int ++ []))) (a_consF p_str (a_star (es := x.map PyData.int) (p_var (e := (ET PyData.int)) (a := x) (i := 3) (m := 2) rfl) a_nil rfl)) (by simp [EWd, List.map_map]; try rfl) h2) a_nil rfl) rfl rfl)))) h4 (filO_yes.trans h5) (by decide)) h6) h7) rfl)))))))) (fun a => (LessE.z LessE.refl)) h rfl (by decide)⟩), gx, F.kp, F.binds fun _ _ _ _ _ _ us hl => match us, hl with | [_], _ => rfl⟩
theorem sc_law : FnScope ["_law_script", "_law_draws_here", "_law_town_here", "_law_text_here", "_law_turn", "_law_told"] ["_law_script"] (defScope s_law) := ⟨rfl, rfl, rfl, by decide +kernel, rfl, by decide +kernel, by decide +kernel⟩
theorem ok_law {f : Addr} {fd : FuncData} (F : Fun K "law" "law" s_law f fd) (gx : mg "law" = some (.ref f)) (b_range : mg "range" = none) (b_repr : mg "repr" = none) (c_law_draws : Cd P w K mg base "_law_draws" 1) (c_law_town : Clr P w K mg base "_law_town" 1 2 R_law_town) (c_law_text : Clr P w K mg base "_law_text" 1 1 R_law_text) (c_law_lines : Clr P w K mg base "_law_lines" 1 1 R_law_lines) (c_read_town : Clr P w K mg base "read_town" 4 1 R_read_town) (c_write_town : Clr P w K mg base "write_town" 2 1 R_write_town) : FnG P w K mg base 5 f fd ["_law_script"] (spLaw K) :=
  fnG_of F sc_law (fun vs H Q E h => spLaw_len h) (fun cdv A outer s H vs Q E gd hr h => ⟨_, pss_cons (ps_set (i := 1) sc_law.nd rfl (by first | exact Or.inl rfl | exact Or.inr rfl) (pe_callD c_law_draws hr (by decide) (pa_cons (pv 0) (pa_cons pe_int pa_nil))))
    (pss_cons (ps_set (i := 2) sc_law.nd rfl (by first | exact Or.inl rfl | exact Or.inr rfl) (pe_callR c_law_town hr (by decide) (pa_cons (pv 1) (pa_cons pe_int pa_nil))))
    (pss_cons (ps_set (i := 3) sc_law.nd rfl (by first | exact Or.inl rfl | exact Or.inr rfl) (pe_callR c_law_text hr (by decide) (pa_cons (pe_callR c_law_lines hr (by decide) (pa_cons (pv 2) pa_nil)) pa_nil)))
    (pss_cons (ps_for PassesOwn.never rfl (pi_range1 rfl b_range (pa_cons pe_int pa_nil)) (pg_name (i := 4) sc_law.nd rfl (by first | exact Or.inl rfl | exact Or.inr rfl)) (pss_cons (ps_set (i := 5) sc_law.nd rfl (by first | exact Or.inl rfl | exact Or.inr rfl) (pe_callR c_read_town hr (by decide) (pa_cons (pv 3) pa_nil)))
    (pss_cons (ps_if (PW.pt (pw_or (pt_cmpR (op_neA hr.units) (pe_callB (cr_repr gd hr.units) (by rfl) b_repr (by decide +kernel) (pa_cons (pv 5) pa_nil)) (pe_callB (cr_repr gd hr.units) (by rfl) b_repr (by decide +kernel) (pa_cons (pv 2) pa_nil)) (nomark _)) (pw_or1 (pt_cmpR (op_neA hr.units) (pe_callR c_write_town hr (by decide) (pa_cons (pv 5) pa_nil)) (pv 3) (nomark _))))) (pss_one (ps_ret pe_bl)) pss_nil)
    (pss_one (ps_expr (pe_bm PySem.F.plainAttrs_list PySem.F.slot_list_append PySem.F.type_list_append mt_append (pe_ix ix_seq (pv 5) pe_int (fun _ _ => rfl)) (pa_cons pe_int pa_nil)))))))
    (pss_one (ps_ret pe_bl))))), law_T (Wx := noX) (n := 30) (E1 := fun ds => [none, some ((EL PyData.int) ds, 2), none, none, none, none]) (LL := L_law) (fun ds =>
    (s_bind fun r h1 => (s_seq (ρ1 := [none, some ((EL PyData.int) ds, 2), some ((E2 PyData.int (EL (E3 PyData.int PyData.int PyData.int))) r, 2), none, none, none]) (s_set [1] 2 (p_call2 (e := (E2 PyData.int (EL (E3 PyData.int PyData.int PyData.int)))) (L := fun (a : ((List Int) × Int)) => L_law_town a.1 a.2) (a := (ds, (7 : Int))) h1 (a_consM (p_varM (d := (EL PyData.int) ds) (i := 1) rfl) (a_consF p_int a_nil) rfl) rfl rfl) rfl rfl)
    (s_bind fun r2 h2 => (s_bind fun r3 h3 => (s_seq (ρ1 := [none, some ((EL PyData.int) ds, 2), some ((E2 PyData.int (EL (E3 PyData.int PyData.int PyData.int))) r, 2), some (PyData.str r3, 2), none, none]) (s_set [] 3 (p_callF (e := PyData.str) (L := fun (a : (List (List Str))) => L_law_text a) (a := r2) h3 (a_consM (p_call2 (e := (EL (EL PyData.str))) (L := fun (a : (Int × (List (Int × Int × Int)))) => L_law_lines a) (a := r) h2 (a_consM (p_varM (d := (E2 PyData.int (EL (E3 PyData.int PyData.int PyData.int))) r) (i := 2) rfl) a_nil rfl) rfl rfl) a_nil rfl) rfl rfl) rfl rfl)
    (s_bind fun l h4 => (s_seqR (s_forC' (wb := [5]) (e := PyData.int) (xs := l) (f := (fun s x => L_law_b1 r r3 x)) (s0 := ()) (E := (fun (s : Unit) => [none, none, some ((E2 PyData.int (EL (E3 PyData.int PyData.int PyData.int))) r, 2), some (PyData.str r3, 2), none, none])) (eR := PyData.bool) (r := 2) (fun (s : Unit) x => [none, none, some ((E2 PyData.int (EL (E3 PyData.int PyData.int PyData.int))) r, 2), some (PyData.str r3, 2), some (PyData.int x, 2), none]) (i_range1 (a_consF p_int a_nil) h4) (vg_name 4) (l_flat (e := PyData.int) rfl (LessE.s (LessE.n (LessE.s (LessE.s (LessE.s (LessE.s LessE.nil))))))) (fun s x => (tj_2 (e := PyData.int) (a := x) rfl rfl))
    (fun s x _ => VS.mono (s_bind fun r4 h5 => (s_seq (ρ1 := [none, none, some ((E2 PyData.int (EL (E3 PyData.int PyData.int PyData.int))) r, 2), some (PyData.str r3, 2), some (PyData.int x, 2), some ((E2 PyData.int (EL (ET PyData.int))) r4, 2)]) (s_set [] 5 (p_call2 (e := (E2 PyData.int (EL (ET PyData.int)))) (L := fun (a : Str) => L_read_town a) (a := r3) h5 (a_consF (p_var (e := PyData.str) (a := r3) (i := 3) (m := 2) rfl) a_nil) rfl rfl) rfl rfl)
    (s_bind fun s2 h6 => (s_bind fun s3 h7 => (s_bind fun b h9 => (s_ifX (tv_at h9 (c_or (t_val (p_neS (p_cb vf_repr (a_consM (p_varM (d := (E2 PyData.int (EL (ET PyData.int))) r4) (i := 5) rfl) a_nil rfl) (reprD h6)) (p_cb vf_repr (a_consM (p_varM (d := (E2 PyData.int (EL (E3 PyData.int PyData.int PyData.int))) r) (i := 2) rfl) a_nil rfl) (reprD h7)))) fun _ => (c_bind fun r5 h8 => (t_val (p_neS (p_callF (e := PyData.str) (L := fun (a : (Int × (List (List Int)))) => L_write_town a) (a := r4) h8 (a_consM (p_varM (d := (E2 PyData.int (EL (ET PyData.int))) r4) (i := 5) rfl) a_nil rfl) rfl rfl) (p_var (e := PyData.str) (a := r3) (i := 3) (m := 2) rfl)))))) (fun _ => (s_ret p_bl rfl)) (by repeat (first | exact nb_some trivial | exact (fun _ h => nomatch h) | refine nb_if ?_ ?_ | (refine nb_bind ?_; intro _) | (refine nb_res ?_ ?_ <;> intro _) | (refine nb_let ?_; intro _))) (fun _ => s_skip (s_bind fun u h10 => (s_out (s_app2R [] 5 (d := ((E2 PyData.int (EL (ET PyData.int))) r4)) (n := 1) (ys := (r4.2.map (ET PyData.int))) (x := (PyData.int (0 : Int))) p_int p_int rfl rfl rfl rfl (by rw [List.length_map]; exact h10) rfl) (LessE.s (LessE.s (LessE.s (LessE.s (LessE.n (LessE.n LessE.nil))))))))))))))) (by decide))) (fun s4 => (s_ret p_bl rfl)) (fun _ => rfl))))))))) h (by decide) (by decide) (by decide) (fun _ => LessE.refl) (fun ds hd => math_law ds hd)⟩)
end
theorem all_mk {P : Program} {w : World} {K : PySem.W.Frag} {h : Heap} {mg : Str → Option Value} {fa f1 f2 f3 f4 f5 f6 f7 f8 f9 f10 f11 f12 f13 f14 : Addr} (X : K.In h) (G : h.Ns mainGlobals mg) (hfa : mg "law" = some (.ref fa))
    {od1 an1 od2 an2 od3 an3 od4 an4 od5 an5 od6 an6 od7 an7 od8 an8 od9 an9 od10 an10 od11 an11 od12 an12 od13 an13 od14 an14 : Option Addr} {sl1 sl2 sl3 sl4 sl5 sl6 sl7 sl8 sl9 sl10 sl11 sl12 sl13 sl14 : Array (Option Value)} {oc1 kV1 dc1 pm1 cd1 ct1 oc2 kV2 dc2 pm2 cd2 ct2 oc3 kV3 dc3 pm3 cd3 ct3 oc4 kV4 dc4 pm4 cd4 ct4 oc5 kV5 dc5 pm5 cd5 ct5 oc6 kV6 dc6 pm6 cd6 ct6 oc7 kV7 dc7 pm7 cd7 ct7 oc8 kV8 dc8 pm8 cd8 ct8 oc9 kV9 dc9 pm9 cd9 ct9 oc10 kV10 dc10 pm10 cd10 ct10 oc11 kV11 dc11 pm11 cd11 ct11 oc12 kV12 dc12 pm12 cd12 ct12 oc13 kV13 dc13 pm13 cd13 ct13 oc14 kV14 dc14 pm14 cd14 ct14 : Value} {g_COUNTS : Addr} {es_COUNTS : Array DictEntry} {n_COUNTS : Nat} {t_COUNTS_0 : Tok} {t_COUNTS_1 : Tok} {t_LONGEST : Tok} {t_MOST : Tok} {t_DIGITS : Tok}
    (a1 : PySem.W.nsIn K mainGlobals "_law_draws" = some (some (.ref f1))) (l1 : K.lookup f1 = some ⟨oc1, od1, .func (PySem.W.fnOf "_law_draws" "_law_draws" (defArgs s_law_draws) (defBody s_law_draws) (defScope s_law_draws) .none kV1 dc1 pm1 an1 cd1 ct1), sl1⟩) (c1 : PySem.W.codeIn K cd1 "_law_draws" = true) (k1 : PySem.W.keepIn K (.ref f1) = true)
    (a2 : PySem.W.nsIn K mainGlobals "_law_town" = some (some (.ref f2))) (l2 : K.lookup f2 = some ⟨oc2, od2, .func (PySem.W.fnOf "_law_town" "_law_town" (defArgs s_law_town) (defBody s_law_town) (defScope s_law_town) .none kV2 dc2 pm2 an2 cd2 ct2), sl2⟩) (c2 : PySem.W.codeIn K cd2 "_law_town" = true) (k2 : PySem.W.keepIn K (.ref f2) = true)
    (a3 : PySem.W.nsIn K mainGlobals "_law_text" = some (some (.ref f3))) (l3 : K.lookup f3 = some ⟨oc3, od3, .func (PySem.W.fnOf "_law_text" "_law_text" (defArgs s_law_text) (defBody s_law_text) (defScope s_law_text) .none kV3 dc3 pm3 an3 cd3 ct3), sl3⟩) (c3 : PySem.W.codeIn K cd3 "_law_text" = true) (k3 : PySem.W.keepIn K (.ref f3) = true)
    (a4 : PySem.W.nsIn K mainGlobals "_law_lines" = some (some (.ref f4))) (l4 : K.lookup f4 = some ⟨oc4, od4, .func (PySem.W.fnOf "_law_lines" "_law_lines" (defArgs s_law_lines) (defBody s_law_lines) (defScope s_law_lines) .none kV4 dc4 pm4 an4 cd4 ct4), sl4⟩) (c4 : PySem.W.codeIn K cd4 "_law_lines" = true) (k4 : PySem.W.keepIn K (.ref f4) = true)
    (a5 : PySem.W.nsIn K mainGlobals "lines_of" = some (some (.ref f5))) (l5 : K.lookup f5 = some ⟨oc5, od5, .func (PySem.W.fnOf "lines_of" "lines_of" (defArgs s_lines_of) (defBody s_lines_of) (defScope s_lines_of) .none kV5 dc5 pm5 an5 cd5 ct5), sl5⟩) (c5 : PySem.W.codeIn K cd5 "lines_of" = true) (k5 : PySem.W.keepIn K (.ref f5) = true)
    (a6 : PySem.W.nsIn K mainGlobals "is_within" = some (some (.ref f6))) (l6 : K.lookup f6 = some ⟨oc6, od6, .func (PySem.W.fnOf "is_within" "is_within" (defArgs s_is_within) (defBody s_is_within) (defScope s_is_within) .none kV6 dc6 pm6 an6 cd6 ct6), sl6⟩) (c6 : PySem.W.codeIn K cd6 "is_within" = true) (k6 : PySem.W.keepIn K (.ref f6) = true)
    (a7 : PySem.W.nsIn K mainGlobals "is_road" = some (some (.ref f7))) (l7 : K.lookup f7 = some ⟨oc7, od7, .func (PySem.W.fnOf "is_road" "is_road" (defArgs s_is_road) (defBody s_is_road) (defScope s_is_road) .none kV7 dc7 pm7 an7 cd7 ct7), sl7⟩) (c7 : PySem.W.codeIn K cd7 "is_road" = true) (k7 : PySem.W.keepIn K (.ref f7) = true)
    (a8 : PySem.W.nsIn K mainGlobals "check_town" = some (some (.ref f8))) (l8 : K.lookup f8 = some ⟨oc8, od8, .func (PySem.W.fnOf "check_town" "check_town" (defArgs s_check_town) (defBody s_check_town) (defScope s_check_town) .none kV8 dc8 pm8 an8 cd8 ct8), sl8⟩) (c8 : PySem.W.codeIn K cd8 "check_town" = true) (k8 : PySem.W.keepIn K (.ref f8) = true)
    (a9 : PySem.W.nsIn K mainGlobals "read_number" = some (some (.ref f9))) (l9 : K.lookup f9 = some ⟨oc9, od9, .func (PySem.W.fnOf "read_number" "read_number" (defArgs s_read_number) (defBody s_read_number) (defScope s_read_number) .none kV9 dc9 pm9 an9 cd9 ct9), sl9⟩) (c9 : PySem.W.codeIn K cd9 "read_number" = true) (k9 : PySem.W.keepIn K (.ref f9) = true)
    (a10 : PySem.W.nsIn K mainGlobals "read_line" = some (some (.ref f10))) (l10 : K.lookup f10 = some ⟨oc10, od10, .func (PySem.W.fnOf "read_line" "read_line" (defArgs s_read_line) (defBody s_read_line) (defScope s_read_line) .none kV10 dc10 pm10 an10 cd10 ct10), sl10⟩) (c10 : PySem.W.codeIn K cd10 "read_line" = true) (k10 : PySem.W.keepIn K (.ref f10) = true)
    (a11 : PySem.W.nsIn K mainGlobals "read_town" = some (some (.ref f11))) (l11 : K.lookup f11 = some ⟨oc11, od11, .func (PySem.W.fnOf "read_town" "read_town" (defArgs s_read_town) (defBody s_read_town) (defScope s_read_town) .none kV11 dc11 pm11 an11 cd11 ct11), sl11⟩) (c11 : PySem.W.codeIn K cd11 "read_town" = true) (k11 : PySem.W.keepIn K (.ref f11) = true)
    (a12 : PySem.W.nsIn K mainGlobals "written" = some (some (.ref f12))) (l12 : K.lookup f12 = some ⟨oc12, od12, .func (PySem.W.fnOf "written" "written" (defArgs s_written) (defBody s_written) (defScope s_written) .none kV12 dc12 pm12 an12 cd12 ct12), sl12⟩) (c12 : PySem.W.codeIn K cd12 "written" = true) (k12 : PySem.W.keepIn K (.ref f12) = true)
    (a13 : PySem.W.nsIn K mainGlobals "write_town" = some (some (.ref f13))) (l13 : K.lookup f13 = some ⟨oc13, od13, .func (PySem.W.fnOf "write_town" "write_town" (defArgs s_write_town) (defBody s_write_town) (defScope s_write_town) .none kV13 dc13 pm13 an13 cd13 ct13), sl13⟩) (c13 : PySem.W.codeIn K cd13 "write_town" = true) (k13 : PySem.W.keepIn K (.ref f13) = true)
    (a14 : PySem.W.nsIn K mainGlobals "law" = some (some (.ref f14))) (l14 : K.lookup f14 = some ⟨oc14, od14, .func (PySem.W.fnOf "law" "law" (defArgs s_law) (defBody s_law) (defScope s_law) .none kV14 dc14 pm14 an14 cd14 ct14), sl14⟩) (c14 : PySem.W.codeIn K cd14 "law" = true) (k14 : PySem.W.keepIn K (.ref f14) = true)
    (z_range : PySem.W.nsIn K mainGlobals "range" = some none)    (z_len : PySem.W.nsIn K mainGlobals "len" = some none)    (z_int : PySem.W.nsIn K mainGlobals "int" = some none)    (z_str : PySem.W.nsIn K mainGlobals "str" = some none)    (z_isinstance : PySem.W.nsIn K mainGlobals "isinstance" = some none)    (z_bool : PySem.W.nsIn K mainGlobals "bool" = some none)    (z_enumerate : PySem.W.nsIn K mainGlobals "enumerate" = some none)    (z_all : PySem.W.nsIn K mainGlobals "all" = some none)    (z_tuple : PySem.W.nsIn K mainGlobals "tuple" = some none)    (z_repr : PySem.W.nsIn K mainGlobals "repr" = some none)    (y_LONGEST : PySem.W.nsIn K mainGlobals "LONGEST" = some (some (.int 9 t_LONGEST)))    (y_MOST : PySem.W.nsIn K mainGlobals "MOST" = some (some (.int 7 t_MOST)))    (y_DIGITS : PySem.W.nsIn K mainGlobals "DIGITS" = some (some (.str "0123456789" t_DIGITS)))    (y_COUNTS : PySem.W.nsIn K mainGlobals "COUNTS" = some (some (.ref g_COUNTS))) (u_COUNTS : K.lookup g_COUNTS = some ⟨.type "dict", none, .dict es_COUNTS n_COUNTS, #[]⟩) (v_COUNTS : PySem.W.KeysLit w.params es_COUNTS.toList) (w_COUNTS : (g_COUNTS == sysModules) = false) (s_COUNTS_0 : PySem.W.nsIn K g_COUNTS "places" = some (some (.int 1 t_COUNTS_0))) (s_COUNTS_1 : PySem.W.nsIn K g_COUNTS "road" = some (some (.int 3 t_COUNTS_1)))
 :
    ∃ fd : FuncData, (∀ (s : Shared) (u : Value), BindsTo s fd ⟨[u], []⟩ [("_law_script", u)]) ∧ ∀ base : Heap, K.In base → base.Ns mainGlobals mg → FnG P w K mg base 5 fa fd ["_law_script"] (spLaw K) := by
  have e := hfa.symm.trans (PySem.W.mg_of X G a14)
  cases e
  refine ⟨PySem.W.fnOf "law" "law" (defArgs s_law) (defBody s_law) (defScope s_law) .none kV14 dc14 pm14 an14 cd14 ct14, fun s v => .of_eq rfl, fun base _ _ => ?_⟩
  have b_range := PySem.W.mg_none_of X G z_range
  have b_len := PySem.W.mg_none_of X G z_len
  have b_int := PySem.W.mg_none_of X G z_int
  have b_str := PySem.W.mg_none_of X G z_str
  have b_isinstance := PySem.W.mg_none_of X G z_isinstance
  have b_bool := PySem.W.mg_none_of X G z_bool
  have b_enumerate := PySem.W.mg_none_of X G z_enumerate
  have b_all := PySem.W.mg_none_of X G z_all
  have b_tuple := PySem.W.mg_none_of X G z_tuple
  have b_repr := PySem.W.mg_none_of X G z_repr
  have k_LONGEST := PySem.W.mg_of X G y_LONGEST
  have k_MOST := PySem.W.mg_of X G y_MOST
  have k_DIGITS := PySem.W.mg_of X G y_DIGITS
  have c_law_draws := ok_law_draws (P := P) (w := w) (base := base) (fun_mk (st := s_law_draws) l1 c1 k1) (PySem.W.mg_of X G a1) b_range b_len b_int
  have c_law_town := ok_law_town (P := P) (w := w) (base := base) (fun_mk (st := s_law_town) l2 c2 k2) (PySem.W.mg_of X G a2) b_int b_range
  have c_law_text := ok_law_text (P := P) (w := w) (base := base) (fun_mk (st := s_law_text) l3 c3 k3) (PySem.W.mg_of X G a3) 
  have c_law_lines := ok_law_lines (P := P) (w := w) (base := base) (fun_mk (st := s_law_lines) l4 c4 k4) (PySem.W.mg_of X G a4) b_str
  have c_lines_of := ok_lines_of (P := P) (w := w) (base := base) (fun_mk (st := s_lines_of) l5 c5 k5) (PySem.W.mg_of X G a5) 
  have c_is_within := ok_is_within (P := P) (w := w) (base := base) (fun_mk (st := s_is_within) l6 c6 k6) (PySem.W.mg_of X G a6) b_isinstance b_int b_bool
  have c_is_road := ok_is_road (P := P) (w := w) (base := base) (fun_mk (st := s_is_road) l7 c7 k7) (PySem.W.mg_of X G a7) k_LONGEST c_is_within
  have c_check_town := ok_check_town (P := P) (w := w) (base := base) (fun_mk (st := s_check_town) l8 c8 k8) (PySem.W.mg_of X G a8) b_enumerate k_MOST c_is_within c_is_road
  have c_read_number := ok_read_number (P := P) (w := w) (base := base) (fun_mk (st := s_read_number) l9 c9 k9) (PySem.W.mg_of X G a9) b_len b_all b_int k_DIGITS
  have c_read_line := ok_read_line (P := P) (w := w) (base := base) (fun_mk (st := s_read_line) l10 c10 k10) (PySem.W.mg_of X G a10) b_len c_read_number
  have c_read_town := ok_read_town (P := P) (w := w) (base := base) (fun_mk (st := s_read_town) l11 c11 k11) (PySem.W.mg_of X G a11) b_enumerate b_tuple (PySem.W.mg_of X G y_COUNTS) (dicC_mk u_COUNTS v_COUNTS w_COUNTS (fun p hp => by simp only [List.mem_cons, List.not_mem_nil, or_false] at hp; rcases hp with rfl | rfl <;> first | exact ⟨_, s_COUNTS_0⟩ | exact ⟨_, s_COUNTS_1⟩)) c_lines_of c_check_town c_read_line
  have c_written := ok_written (P := P) (w := w) (base := base) (fun_mk (st := s_written) l12 c12 k12) (PySem.W.mg_of X G a12) b_str
  have c_write_town := ok_write_town (P := P) (w := w) (base := base) (fun_mk (st := s_write_town) l13 c13 k13) (PySem.W.mg_of X G a13) c_written
  exact ok_law (fun_mk (st := s_law) l14 c14 k14) (PySem.W.mg_of X G a14) b_range b_repr c_law_draws c_law_town c_law_text c_law_lines c_read_town c_write_town
end Kk
open PySem PySem.W PyProof.Rows in
set_option maxRecDepth 100000 in
set_option maxHeartbeats 0 in
theorem PySem.Challenge.cw_evernear_k11_towns_read_back_holds : PySem.Challenge.rw_evernear_k11_towns_read_back.Holds := by
  w_on; o_law; k_head; (case hw => w_witness2)
  k_fill
  refine Va.walk_G (l := PySem.Challenge.rw_evernear_k11_towns_read_back) (k := 5) (x := "_law_script") rfl rfl rfl ⟨rfl, by decide, by decide⟩ (fun w h Y => PySem.W.kIn_of Y) ?F
  case F =>
    intro w mg fa h KX G hmg
    refine' Kk.all_mk KX G hmg ?a1 ?l1 ?c1 ?k1 ?a2 ?l2 ?c2 ?k2 ?a3 ?l3 ?c3 ?k3 ?a4 ?l4 ?c4 ?k4 ?a5 ?l5 ?c5 ?k5 ?a6 ?l6 ?c6 ?k6 ?a7 ?l7 ?c7 ?k7 ?a8 ?l8 ?c8 ?k8 ?a9 ?l9 ?c9 ?k9 ?a10 ?l10 ?c10 ?k10 ?a11 ?l11 ?c11 ?k11 ?a12 ?l12 ?c12 ?k12 ?a13 ?l13 ?c13 ?k13 ?a14 ?l14 ?c14 ?k14 ?z_range ?z_len ?z_int ?z_str ?z_isinstance ?z_bool ?z_enumerate ?z_all ?z_tuple ?z_repr ?y_LONGEST ?y_MOST ?y_DIGITS ?y_COUNTS ?u_COUNTS ?v_COUNTS ?w_COUNTS ?s_COUNTS_0 ?s_COUNTS_1
    (case a1 => k_is)
    (case l1 => k_is)
    (case c1 => k_is)
    (case k1 => k_is)
    (case a2 => k_is)
    (case l2 => k_is)
    (case c2 => k_is)
    (case k2 => k_is)
    (case a3 => k_is)
    (case l3 => k_is)
    (case c3 => k_is)
    (case k3 => k_is)
    (case a4 => k_is)
    (case l4 => k_is)
    (case c4 => k_is)
    (case k4 => k_is)
    (case a5 => k_is)
    (case l5 => k_is)
    (case c5 => k_is)
    (case k5 => k_is)
    (case a6 => k_is)
    (case l6 => k_is)
    (case c6 => k_is)
    (case k6 => k_is)
    (case a7 => k_is)
    (case l7 => k_is)
    (case c7 => k_is)
    (case k7 => k_is)
    (case a8 => k_is)
    (case l8 => k_is)
    (case c8 => k_is)
    (case k8 => k_is)
    (case a9 => k_is)
    (case l9 => k_is)
    (case c9 => k_is)
    (case k9 => k_is)
    (case a10 => k_is)
    (case l10 => k_is)
    (case c10 => k_is)
    (case k10 => k_is)
    (case a11 => k_is)
    (case l11 => k_is)
    (case c11 => k_is)
    (case k11 => k_is)
    (case a12 => k_is)
    (case l12 => k_is)
    (case c12 => k_is)
    (case k12 => k_is)
    (case a13 => k_is)
    (case l13 => k_is)
    (case c13 => k_is)
    (case k13 => k_is)
    (case a14 => k_is)
    (case l14 => k_is)
    (case c14 => k_is)
    (case k14 => k_is)
    (case z_range => k_is)
    (case z_len => k_is)
    (case z_int => k_is)
    (case z_str => k_is)
    (case z_isinstance => k_is)
    (case z_bool => k_is)
    (case z_enumerate => k_is)
    (case z_all => k_is)
    (case z_tuple => k_is)
    (case z_repr => k_is)
    (case y_LONGEST => k_is)
    (case y_MOST => k_is)
    (case y_DIGITS => k_is)
    (case y_COUNTS => k_is)
    (case u_COUNTS => k_is)
    (case v_COUNTS => exact ⟨⟨_, _, rfl, rfl⟩, ⟨⟨_, _, rfl, rfl⟩, True.intro⟩⟩)
    (case w_COUNTS => decide +kernel)
    (case s_COUNTS_0 => k_is)
    (case s_COUNTS_1 => k_is)

