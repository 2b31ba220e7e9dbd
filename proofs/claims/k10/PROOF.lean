import PyProof.Rows.All
import Wide.All
import OpenK.AllK
import Wide.FinOn
import HandS.ForMost
import HandS.TupAny
import HandS.Wide
import HandS.WideBits
import HandS.Deep
import HandS.Zip
import HandS.IsInst
import HandS.RaiseMore
import HandS.Star
import HandS.EndBits
import HandS.Defaults
import PySem.Challenge.RW_evernear_k10_towns_are_written
set_option Elab.async false
set_option linter.all false
set_option maxRecDepth 100000
set_option maxHeartbeats 4000000
/-! Va1: values as trees. What an expression or a statement does to the data that the slots hold. -/
namespace Va
open PySem L2

/-- a tracked thing that may be written -/
def Mb : Option HO → Bool
  | some (.lst _) => true
  | some (.dK _) => true
  | some (.dT _) => true
  | _ => false
/-- all that stands, stands -/
def Grow (H H' : Hp) : Prop := ∀ a o, H a = some o → H' a = some o
/-- what cannot be written stands, and what stands at F -/
def Kp (F : List Addr) (H H' : Hp) : Prop := ∀ a o, H a = some o → Mb (some o) = false ∨ a ∈ F → H' a = some o

theorem Grow.refl (H : Hp) : Grow H H := fun _ _ h => h
theorem Grow.trans {H H1 H2 : Hp} (a : Grow H H1) (b : Grow H1 H2) : Grow H H2 := fun x o h => b x o (a x o h)
theorem Grow.new {H : Hp} {p : Addr} {o : HO} (h : H p = none) : Grow H (upd H p o) := fun a u e => by
  rw [upd_ne (ne_of_none e h)]; exact e
theorem Grow.back {H H' : Hp} {p : Addr} (e : Grow H H') (h : H' p = none) : H p = none := by
  cases q : H p with
  | none => rfl
  | some o => rw [e p o q] at h; cases h
theorem Grow.kp {H H' : Hp} {F : List Addr} (e : Grow H H') : Kp F H H' := fun a o h _ => e a o h
theorem Grow.sqT {K : PySem.W.Frag} {H H' : Hp} {a : Addr} {xs : List V} (e : Grow H H') (h : SqT K H a xs) : SqT K H' a xs := by
  rcases h with (h | ⟨o, h⟩) | h
  · exact .inl (.inl (e _ _ h))
  · exact .inl (.inr ⟨o, e _ _ h⟩)
  · exact .inr h
theorem Kp.sqT {K : PySem.W.Frag} {H H' : Hp} {F : List Addr} {a : Addr} {xs : List V} (e : Kp F H H') (h : SqT K H a xs) : SqT K H' a xs := by
  rcases h with (h | ⟨o, h⟩) | h
  · exact .inl (.inl (e _ _ h (.inl rfl)))
  · exact .inl (.inr ⟨o, e _ _ h (.inl rfl)⟩)
  · exact .inr h
theorem Kp.mono {F G : List Addr} {H H' : Hp} (h : Kp G H H') (s : ∀ a ∈ F, a ∈ G) : Kp F H H' := fun a o e q => h a o e (q.imp id (s a))
/-- a store at p keeps all else -/
theorem Kp.upd {H : Hp} {p : Addr} {o : HO} {F : List Addr} (hm : Mb (H p) = true) (hp : p ∉ F) : Kp F H (upd H p o) := fun a u e q => by
  have : a ≠ p := by
    rintro rfl
    rcases q with q | q
    · rw [e] at hm; rw [hm] at q; cases q
    · exact hp q
  rw [upd_ne this]; exact e

def keyD : Key → PyData
  | .inl i => .int i
  | .inr s => .str s
/-- a dict at a: its keys as data, its values -/
def DicAt (H : Hp) (a : Addr) (ks : List PyData) (vs : List V) : Prop :=
  (∃ kvs : List (Key × V), H a = some (.dK kvs) ∧ ks = kvs.map (fun q => keyD q.1) ∧ vs = kvs.map (·.2)) ∨
  (∃ kvs : List (List Key × V), H a = some (.dT kvs) ∧ ks = kvs.map (fun q => PyData.tuple (q.1.map keyD)) ∧ vs = kvs.map (·.2))

mutual
/-- v stands for the data d; F: the lists and dicts in it -/
inductive Rp (K : PySem.W.Frag) (H : Hp) : V → PyData → List Addr → Prop
  | non : Rp K H .non .none []
  | bl (b : Bool) : Rp K H (.bl b) (.bool b) []
  | int (i : Int) : Rp K H (.int i) (.int i) []
  | str (x : Str) : Rp K H (.str x) (.str x) []
  | tup {a : Addr} {xs : List V} {ds : List PyData} {F : List Addr} : SqT K H a xs → RpL K H xs ds F → Rp K H (.ref a) (.tuple ds) F
  | lst {a : Addr} {xs : List V} {ds : List PyData} {F : List Addr} : H a = some (.lst xs) → RpL K H xs ds F → Rp K H (.ref a) (.list ds) (a :: F)
  | dic {a : Addr} {ks : List PyData} {vs : List V} {ds : List PyData} {F : List Addr} : DicAt H a ks vs → RpL K H vs ds F → Rp K H (.ref a) (.dict (ks.zip ds)) (a :: F)
inductive RpL (K : PySem.W.Frag) (H : Hp) : List V → List PyData → List Addr → Prop
  | nil : RpL K H [] [] []
  | cons {v : V} {vs : List V} {d : PyData} {ds : List PyData} {F G : List Addr} : Rp K H v d F → RpL K H vs ds G → RpL K H (v :: vs) (d :: ds) (F ++ G)
end

theorem DicAt.keep {H H' : Hp} {a : Addr} {ks : List PyData} {vs : List V} (h : DicAt H a ks vs) (e : ∀ o, H a = some o → H' a = some o) : DicAt H' a ks vs := by
  rcases h with ⟨kvs, h, q⟩ | ⟨kvs, h, q⟩
  · exact .inl ⟨kvs, e _ h, q⟩
  · exact .inr ⟨kvs, e _ h, q⟩
theorem DicAt.mb {H : Hp} {a : Addr} {ks : List PyData} {vs : List V} (h : DicAt H a ks vs) : Mb (H a) = true := by
  rcases h with ⟨kvs, h, q⟩ | ⟨kvs, h, q⟩ <;> rw [h] <;> rfl

section
variable {K : PySem.W.Frag} {H H' : Hp}
mutual
theorem Rp.kp : ∀ {v : V} {d : PyData} {F : List Addr}, Rp K H v d F → Kp F H H' → Rp K H' v d F
  | _, _, _, .non, _ => .non
  | _, _, _, .bl b, _ => .bl b
  | _, _, _, .int b, _ => .int b
  | _, _, _, .str b, _ => .str b
  | _, _, _, .tup h r, e => .tup (e.sqT h) (RpL.kp r e)
  | _, _, _, .lst h r, e => .lst (e _ _ h (.inr (List.mem_cons_self ..))) (RpL.kp r (e.mono fun _ q => List.mem_cons_of_mem _ q))
  | _, _, _, .dic h r, e => .dic (h.keep fun o q => e _ o q (.inr (List.mem_cons_self ..))) (RpL.kp r (e.mono fun _ q => List.mem_cons_of_mem _ q))
theorem RpL.kp : ∀ {vs : List V} {ds : List PyData} {F : List Addr}, RpL K H vs ds F → Kp F H H' → RpL K H' vs ds F
  | _, _, _, .nil, _ => .nil
  | _, _, _, .cons h r, e => .cons (Rp.kp h (e.mono fun _ q => List.mem_append_left _ q)) (RpL.kp r (e.mono fun _ q => List.mem_append_right _ q))
end
theorem Rp.grow {v : V} {d : PyData} {F : List Addr} (h : Rp K H v d F) (e : Grow H H') : Rp K H' v d F := h.kp e.kp
theorem RpL.grow {v : List V} {d : List PyData} {F : List Addr} (h : RpL K H v d F) (e : Grow H H') : RpL K H' v d F := h.kp e.kp
mutual
theorem Rp.mb : ∀ {v : V} {d : PyData} {F : List Addr}, Rp K H v d F → ∀ a ∈ F, Mb (H a) = true
  | _, _, _, .non, _, h => nomatch h
  | _, _, _, .bl b, _, h => nomatch h
  | _, _, _, .int b, _, h => nomatch h
  | _, _, _, .str b, _, h => nomatch h
  | _, _, _, .tup _ r, a, h => RpL.mb r a h
  | _, _, _, .lst e r, a, h => by
    rcases List.mem_cons.mp h with rfl | h
    · rw [e]; rfl
    · exact RpL.mb r a h
  | _, _, _, .dic e r, a, h => by
    rcases List.mem_cons.mp h with rfl | h
    · exact e.mb
    · exact RpL.mb r a h
theorem RpL.mb : ∀ {vs : List V} {ds : List PyData} {F : List Addr}, RpL K H vs ds F → ∀ a ∈ F, Mb (H a) = true
  | _, _, _, .nil, _, h => nomatch h
  | _, _, _, .cons e r, a, h => (List.mem_append.mp h).elim (Rp.mb e a) (RpL.mb r a)
end
theorem Rp.stn {v : V} {d : PyData} {F : List Addr} (h : Rp K H v d F) {a : Addr} (m : a ∈ F) : H a ≠ none := fun e => by
  have := h.mb a m; rw [e] at this; cases this
theorem RpL.stn {v : List V} {d : List PyData} {F : List Addr} (h : RpL K H v d F) {a : Addr} (m : a ∈ F) : H a ≠ none := fun e => by
  have := h.mb a m; rw [e] at this; cases this
theorem RpL.length : ∀ {vs : List V} {ds : List PyData} {F : List Addr}, RpL K H vs ds F → vs.length = ds.length
  | _, _, _, .nil => rfl
  | _, _, _, .cons _ r => congrArg Nat.succ r.length
theorem RpL.app : ∀ {vs us : List V} {ds es : List PyData} {F G : List Addr}, RpL K H vs ds F → RpL K H us es G → RpL K H (vs ++ us) (ds ++ es) (F ++ G)
  | _, _, _, _, _, _, .nil, s => s
  | _, _, _, _, _, _, .cons e r, s => by rw [List.append_assoc]; exact .cons e (RpL.app r s)
theorem RpL.one {v : V} {d : PyData} {F : List Addr} (h : Rp K H v d F) : RpL K H [v] [d] F := by
  have := RpL.cons h .nil; rwa [List.append_nil] at this
/-- the item at a place: a part of the footprint -/
theorem RpL.get : ∀ {vs : List V} {ds : List PyData} {F : List Addr} (i : Nat) {d : PyData}, RpL K H vs ds F → ds[i]? = some d → ∃ v A G B, vs[i]? = some v ∧ Rp K H v d G ∧ F = A ++ (G ++ B)
  | _, _, _, 0, d, .cons (F := F) (G := G) e r, h => by
    cases h
    exact ⟨_, [], F, G, rfl, e, rfl⟩
  | _, _, _, i + 1, d, .cons (F := F) (G := G) e r, h => by
    obtain ⟨v, A, G', B, h1, h2, h3⟩ := RpL.get i r h
    exact ⟨v, F ++ A, G', B, h1, h2, by rw [h3, List.append_assoc]⟩
theorem RpL.getV : ∀ {vs : List V} {ds : List PyData} {F : List Addr} (i : Nat) {v : V}, RpL K H vs ds F → vs[i]? = some v → ∃ d, ds[i]? = some d
  | _, ds, _, i, v, h, e => by
    have l := h.length
    have := (List.getElem?_eq_some_iff.mp e).1
    exact ⟨ds[i], List.getElem?_eq_getElem (by omega)⟩
theorem RpL.parts : ∀ {vs : List V} {ds : List PyData} {F : List Addr} (n : Nat), RpL K H vs ds F → ∃ A B, F = A ++ B ∧ RpL K H (vs.take n) (ds.take n) A ∧ RpL K H (vs.drop n) (ds.drop n) B
  | _, _, F, 0, h => ⟨[], F, rfl, .nil, h⟩
  | _, _, _, _ + 1, .nil => ⟨[], [], rfl, .nil, .nil⟩
  | _, _, _, n + 1, .cons (F := F) (G := G) e r => by
    obtain ⟨A, B, h1, h2, h3⟩ := RpL.parts n r
    exact ⟨F ++ A, B, by rw [h1, List.append_assoc], .cons e h2, h3⟩
end

mutual
/-- no list and no dict in it -/
def flat : PyData → Bool
  | .list _ => false
  | .dict _ => false
  | .tuple ds => flatL ds
  | _ => true
def flatL : List PyData → Bool
  | [] => true
  | d :: ds => flat d && flatL ds
end
mutual
theorem Rp.flat {K : PySem.W.Frag} {H : Hp} : ∀ {v : V} {d : PyData} {F : List Addr}, Rp K H v d F → Va.flat d = true → F = []
  | _, _, _, .non, _ => rfl
  | _, _, _, .bl b, _ => rfl
  | _, _, _, .int b, _ => rfl
  | _, _, _, .str b, _ => rfl
  | _, _, _, .tup _ r, h => RpL.flat r (by simpa only [Va.flat] using h)
  | _, _, _, .lst e r, h => by simp [Va.flat] at h
  | _, _, _, .dic e r, h => by simp [Va.flat] at h
theorem RpL.flat {K : PySem.W.Frag} {H : Hp} : ∀ {v : List V} {d : List PyData} {F : List Addr}, RpL K H v d F → Va.flatL d = true → F = []
  | _, _, _, .nil, _ => rfl
  | _, _, _, .cons e r, h => by
    simp only [Va.flatL, Bool.and_eq_true] at h
    rw [Rp.flat e h.1, RpL.flat r h.2, List.append_nil]
end

/-! ### what the slots hold -/
/-- a slot: its data, and how far it is the slot's own: 0 shared, 1 the list itself, 2 all lists in it -/
abbrev Sl := Option (PyData × Nat)
abbrev Env := List Sl
/-- what the slot alone may write -/
def Mf (m : Nat) (F : List Addr) : List Addr := if m = 2 then F else if m = 1 then F.take 1 else []
theorem Mf_sub {m : Nat} {F : List Addr} {a : Addr} (h : a ∈ Mf m F) : a ∈ F := by
  unfold Mf at h
  split at h
  · exact h
  · split at h
    · exact List.mem_of_mem_take h
    · cases h
theorem Mf0 (F : List Addr) : Mf 0 F = [] := rfl
/-- what a slot with the mode m has: the wish about its footprint -/
def Own (B : Hp) (v : V) (m : Nat) (F : List Addr) : Prop := (∀ a ∈ Mf m F, B a = none) ∧ (m = 1 → ∃ p G, v = .ref p ∧ F = p :: G ∧ p ∉ G) ∧ (m = 2 → F.Nodup)
theorem Own.zero {B : Hp} {v : V} {F : List Addr} : Own B v 0 F := ⟨fun a h => (by rw [Mf0] at h; cases h), fun z => (by cases z), fun z => (by cases z)⟩
structure SR (K : PySem.W.Frag) (B : Hp) (AF : List Addr) (σ : L2.St) (H : Hp) (ρ : Env) (Fs : Nat → List Addr) : Prop where
  len : σ.length = ρ.length
  same : Grow B H
  val : ∀ i d m, ρ[i]? = some (some (d, m)) → ∃ v, σ[i]? = some (some v) ∧ Rp K H v d (Fs i) ∧ (∀ a ∈ Fs i, B a = none ∨ a ∈ AF) ∧ Own B v m (Fs i)
  dis : ∀ i j d m d' m', ρ[i]? = some (some (d, m)) → ρ[j]? = some (some (d', m')) → i ≠ j → ∀ a ∈ Mf m (Fs i), a ∉ Fs j

section
variable {K : PySem.W.Frag} {B : Hp} {AF : List Addr} {σ σ' : L2.St} {H H' : Hp} {ρ ρ' : Env} {Fs Fs' : Nat → List Addr}
theorem SR.grow (h : SR K B AF σ H ρ Fs) (e : Grow H H') : SR K B AF σ H' ρ Fs :=
  ⟨h.len, h.same.trans e, fun i d m q => by
    obtain ⟨v, h1, h2, h3⟩ := h.val i d m q
    exact ⟨v, h1, h2.grow e, h3⟩, h.dis⟩
theorem SR.there (h : SR K B AF σ H ρ Fs) {i : Nat} {d : PyData} {m : Nat} (q : ρ[i]? = some (some (d, m))) {a : Addr} (ha : a ∈ Fs i) : H a ≠ none := by
  obtain ⟨v, h1, h2, h3⟩ := h.val i d m q
  exact h2.stn ha
/-- fewer slots are told, or less of them -/
theorem SR.less (h : SR K B AF σ H ρ Fs) (hl : ρ'.length = ρ.length) (e : ∀ (i : Nat) (d : PyData) (m : Nat), ρ'[i]? = some (some (d, m)) → ∃ m0, ρ[i]? = some (some (d, m0)) ∧ (m = m0 ∨ m = 0)) : SR K B AF σ H ρ' Fs := by
  refine ⟨h.len.trans hl.symm, h.same, fun i d m q => ?_, fun i j d m d' m' q1 q2 ne a ha => ?_⟩
  · obtain ⟨m0, q0, z⟩ := e i d m q
    obtain ⟨v, h1, h2, h3, h4⟩ := h.val i d m0 q0
    rcases z with rfl | rfl
    · exact ⟨v, h1, h2, h3, h4⟩
    · exact ⟨v, h1, h2, h3, .zero⟩
  · obtain ⟨m0, q0, z⟩ := e i d m q1
    obtain ⟨m0', q0', _⟩ := e j d' m' q2
    rcases z with rfl | rfl
    · exact h.dis i j d m d' m0' q0 q0' ne a ha
    · rw [Mf0] at ha; cases ha
end
end Va

/-! Va2: expressions over trees. -/
namespace Va
open PySem L2

/-- whose lists a value holds: mv: new ones, and all of the slots L that own theirs; sp: the top one is new, the others are new or of the slots L; bo: new or of the slots L -/
inductive Kd where
  | mv (L : List Nat) | sp (L : List Nat) | bo (L : List Nat)
def Kd.src : Kd → List Nat
  | .mv L => L
  | .sp L => L
  | .bo L => L
@[simp] def apart (L M : List Nat) : Bool := L.all fun i => !M.contains i
def aj : Kd → Kd → Kd
  | .mv L, .mv M => if apart L M then .mv (L ++ M) else .bo (L ++ M)
  | k, l => .bo (k.src ++ l.src)
def Src (ρ : Env) (Fs : Nat → List Addr) (L : List Nat) (a : Addr) : Prop := ∃ i ∈ L, (∃ d m, ρ[i]? = some (some (d, m))) ∧ a ∈ Fs i
def Src2 (ρ : Env) (Fs : Nat → List Addr) (L : List Nat) (a : Addr) : Prop := ∃ i ∈ L, (∃ d, ρ[i]? = some (some (d, 2))) ∧ a ∈ Fs i
def KO (ρ : Env) (Fs : Nat → List Addr) (H : Hp) (F : List Addr) : Kd → Prop
  | .mv L => F.Nodup ∧ ∀ a ∈ F, H a = none ∨ Src2 ρ Fs L a
  | .sp L => ∀ a ∈ F, H a = none ∨ Src ρ Fs L a
  | .bo L => ∀ a ∈ F, H a = none ∨ Src ρ Fs L a
/-- of a value's footprint -/
def KV (ρ : Env) (Fs : Nat → List Addr) (H : Hp) (v : V) (F : List Addr) (k : Kd) : Prop :=
  KO ρ Fs H F k ∧ ∀ L, k = .sp L → ∃ p G, v = .ref p ∧ F = p :: G ∧ p ∉ G ∧ H p = none

section
variable {ρ : Env} {Fs : Nat → List Addr} {H H' : Hp} {F G : List Addr} {k l : Kd} {L M : List Nat} {a : Addr} {v : V}
theorem Src2.src (h : Src2 ρ Fs L a) : Src ρ Fs L a := by
  obtain ⟨i, hi, ⟨d, e⟩, m⟩ := h
  exact ⟨i, hi, ⟨d, 2, e⟩, m⟩
theorem Src.mono (h : Src ρ Fs L a) (s : ∀ i ∈ L, i ∈ M) : Src ρ Fs M a := by
  obtain ⟨i, hi, e, m⟩ := h
  exact ⟨i, s i hi, e, m⟩
theorem Src2.mono (h : Src2 ρ Fs L a) (s : ∀ i ∈ L, i ∈ M) : Src2 ρ Fs M a := by
  obtain ⟨i, hi, e, m⟩ := h
  exact ⟨i, s i hi, e, m⟩
theorem KO.any (h : KO ρ Fs H F k) : ∀ a ∈ F, H a = none ∨ Src ρ Fs k.src a := by
  cases k with
  | mv L => exact fun a ha => (h.2 a ha).imp id Src2.src
  | sp L => exact h
  | bo L => exact h
theorem KO.bo (h : KO ρ Fs H F k) (s : ∀ i ∈ k.src, i ∈ M) : KO ρ Fs H F (.bo M) := fun a ha => (h.any a ha).imp id fun q => q.mono s
theorem KO.nil : KO ρ Fs H [] (.mv []) := ⟨List.nodup_nil, fun a h => nomatch h⟩
theorem KO.nilK : KO ρ Fs H [] k := by
  cases k with
  | mv L => exact ⟨List.nodup_nil, fun a h => nomatch h⟩
  | sp L => exact fun a h => nomatch h
  | bo L => exact fun a h => nomatch h
theorem KO.back (h : KO ρ Fs H' F k) (e : Grow H H') : KO ρ Fs H F k := by
  cases k with
  | mv L => exact ⟨h.1, fun a ha => (h.2 a ha).imp e.back id⟩
  | sp L => exact fun a ha => (h a ha).imp e.back id
  | bo L => exact fun a ha => (h a ha).imp e.back id
theorem KO.sub (h : KO ρ Fs H F k) (s : List.Sublist G F) : KO ρ Fs H G k := by
  cases k with
  | mv L => exact ⟨h.1.sublist s, fun a ha => h.2 a (s.subset ha)⟩
  | sp L => exact fun a ha => h a (s.subset ha)
  | bo L => exact fun a ha => h a (s.subset ha)
theorem KV.of (h : KO ρ Fs H F k) (n : ∀ L, k ≠ .sp L) : KV ρ Fs H v F k := ⟨h, fun L e => absurd e (n L)⟩
theorem KV.nil : KV ρ Fs H v [] (.mv []) := .of .nil fun _ e => by cases e
theorem KV.mv (h : KO ρ Fs H F (.mv L)) : KV ρ Fs H v F (.mv L) := .of h fun _ e => by cases e
theorem KV.bo (h : KO ρ Fs H F (.bo L)) : KV ρ Fs H v F (.bo L) := .of h fun _ e => by cases e
/-- two footprints, one made behind the other -/
theorem KO.join {K : PySem.W.Frag} {B : Hp} {AF : List Addr} {σ : L2.St} (S : SR K B AF σ H ρ Fs) (e : Grow H H') (h1 : KO ρ Fs H F k) (hF : ∀ a ∈ F, H' a ≠ none) (h2 : KO ρ Fs H' G l) : KO ρ Fs H (F ++ G) (aj k l) := by
  have bo : ∀ M, (∀ i ∈ k.src, i ∈ M) → (∀ i ∈ l.src, i ∈ M) → KO ρ Fs H (F ++ G) (.bo M) := fun M s1 s2 a ha => by
    rcases List.mem_append.mp ha with ha | ha
    · exact (h1.any a ha).imp id fun q => q.mono s1
    · exact (h2.any a ha).imp e.back fun q => q.mono s2
  have all : KO ρ Fs H (F ++ G) (.bo (k.src ++ l.src)) := bo _ (fun i hi => List.mem_append_left _ hi) (fun i hi => List.mem_append_right _ hi)
  cases k with
  | sp L => exact all
  | bo L => exact all
  | mv L =>
    cases l with
    | sp M => exact all
    | bo M => exact all
    | mv M =>
      show KO ρ Fs H (F ++ G) (if apart L M then .mv (L ++ M) else .bo (L ++ M))
      by_cases hd : apart L M = true
      · rw [if_pos hd]
        refine ⟨List.nodup_append.mpr ⟨h1.1, h2.1, fun a ha b hb z => ?_⟩, fun a ha => ?_⟩
        · subst z
          rcases h2.2 a hb with q | ⟨j, hj, ⟨d', ej⟩, mj⟩
          · exact hF a ha q
          · rcases h1.2 a ha with q | ⟨i, hi, ⟨d, ei⟩, mi⟩
            · exact S.there ej mj q
            · have ne : i ≠ j := by
                rintro rfl
                have := List.all_eq_true.mp hd i hi
                rw [List.contains_iff_mem.mpr hj] at this
                cases this
              exact S.dis i j d 2 d' 2 ei ej ne a mi mj
        · rcases List.mem_append.mp ha with ha | ha
          · exact (h1.2 a ha).imp id fun q => q.mono fun i hi => List.mem_append_left _ hi
          · exact (h2.2 a ha).imp e.back fun q => q.mono fun i hi => List.mem_append_right _ hi
      · rw [if_neg hd]
        exact all
end

abbrev EF := Env → Option (PyData × Kd)
abbrev AFn := Env → Option (List PyData × Kd)
abbrev Gn := List PyData → Kd → Option (PyData × Kd)

/-- an expression's reading gives the data that f tells -/
def VE (K : PySem.W.Frag) (te : TE) (f : EF) : Prop := ∀ (B : Hp) (AF : List Addr) (σ : L2.St) (H : Hp) (ρ : Env) (Fs : Nat → List Addr) (d : PyData) (k : Kd), SR K B AF σ H ρ Fs → f ρ = some (d, k) →
  ∀ Q : VK, (∀ v H' F, Grow H H' → Rp K H' v d F → KV ρ Fs H v F k → Q v H') → te σ H Q
def VA (K : PySem.W.Frag) (ta : TA) (f : AFn) : Prop := ∀ (B : Hp) (AF : List Addr) (σ : L2.St) (H : Hp) (ρ : Env) (Fs : Nat → List Addr) (ds : List PyData) (k : Kd), SR K B AF σ H ρ Fs → f ρ = some (ds, k) →
  ∀ Q : List V → Hp → Prop, (∀ vs H' F, Grow H H' → RpL K H' vs ds F → KO ρ Fs H F k → Q vs H') → ta σ H Q
def VT (K : PySem.W.Frag) (tt : TT) (f : Env → Option Bool) : Prop := ∀ (B : Hp) (AF : List Addr) (σ : L2.St) (H : Hp) (ρ : Env) (Fs : Nat → List Addr) (b : Bool), SR K B AF σ H ρ Fs → f ρ = some b →
  ∀ Q : Bool → Hp → Prop, (∀ H', Grow H H' → Q b H') → tt σ H Q
/-- an operation on values gives what g tells of the data -/
def VF (K : PySem.W.Frag) (r : List V → Hp → VK → Prop) (g : Gn) : Prop := ∀ (ρ : Env) (Fs : Nat → List Addr) (H0 H : Hp) (vs : List V) (ds : List PyData) (F : List Addr) (k : Kd) (d : PyData) (k' : Kd), Grow H0 H → RpL K H vs ds F → KO ρ Fs H0 F k → g ds k = some (d, k') →
  ∀ Q : VK, (∀ v H' G, Grow H H' → Rp K H' v d G → KV ρ Fs H0 v G k' → Q v H') → r vs H Q

def eVar (i : Nat) : EF := fun ρ => match ρ[i]? with
  | some (some (d, m)) => some (d, if flat d then .mv [] else if m = 2 then .mv [i] else .bo [i])
  | _ => none
def eC (d : PyData) : EF := fun _ => some (d, .mv [])
def aNil : AFn := fun _ => some ([], .mv [])
def aCons (f : EF) (g : AFn) : AFn := fun ρ => (f ρ).bind fun p => (g ρ).bind fun q => some (p.1 :: q.1, aj p.2 q.2)
def eApp (g : Gn) (f : AFn) : EF := fun ρ => (f ρ).bind fun p => g p.1 p.2

section
variable {K : PySem.W.Frag} {ta tb te : TE} {t : TA} {tt tu : TT} {f g : EF} {fa : AFn}
theorem ve_var (i : Nat) : VE K (tVar i) (eVar i) := by
  intro B AF σ H ρ Fs d k S h Q q
  unfold eVar at h
  split at h
  · rename_i d' m e
    injection h with h
    injection h with h1 h2
    subst h1
    obtain ⟨v, h3, h4, h5, h6⟩ := S.val i d' m e
    refine ⟨v, h3, q v H (Fs i) (.refl H) h4 ?_⟩
    split at h2
    · rename_i hf
      subst h2
      rw [h4.flat hf]
      exact .nil
    · split at h2
      · rename_i hm
        subst hm h2
        refine .mv ⟨h6.2.2 rfl, fun a ha => .inr ⟨i, List.mem_singleton.mpr rfl, ⟨d', e⟩, ha⟩⟩
      · subst h2
        exact .bo fun a ha => .inr ⟨i, List.mem_singleton.mpr rfl, ⟨d', m, e⟩, ha⟩
  · cases h
/-- constants -/
def rpC : V → PyData → Prop
  | .non, .none => True
  | .bl b, .bool c => b = c
  | .int i, .int j => i = j
  | .str x, .str y => x = y
  | _, _ => False
theorem rp_c {H : Hp} {v : V} {d : PyData} (h : rpC v d) : Rp K H v d [] := by
  cases v <;> cases d <;> first | exact h.elim | (cases h; constructor)
theorem ve_c {v : V} {d : PyData} (h : rpC v d) : VE K (tC v) (eC d) := by
  intro B AF σ H ρ Fs d' k S e Q q
  cases e
  exact q v H [] (.refl H) (rp_c h) .nil
theorem va_nil : VA K tNil aNil := by
  intro B AF σ H ρ Fs ds k S e Q q
  cases e
  exact q [] H [] (.refl H) .nil .nil
theorem va_cons (h1 : VE K te f) (h2 : VA K t fa) : VA K (tCons te t) (aCons f fa) := by
  intro B AF σ H ρ Fs ds k S e Q q
  obtain ⟨⟨d, k1⟩, e1, e⟩ := Option.bind_eq_some_iff.mp e
  obtain ⟨⟨ds2, k2⟩, e2, e⟩ := Option.bind_eq_some_iff.mp e
  cases e
  refine h1 B AF σ H ρ Fs d k1 S e1 _ fun v H1 F g1 r1 o1 => ?_
  refine h2 B AF σ H1 ρ Fs ds2 k2 (S.grow g1) e2 _ fun vs H2 G g2 r2 o2 => ?_
  exact q _ H2 _ (g1.trans g2) (.cons (r1.grow g2) r2) (KO.join S g1 o1.1 (fun a ha => r1.stn ha) o2)
theorem ve_appR {r : List V → Hp → VK → Prop} {gn : Gn} (h1 : VA K t fa) (h2 : VF K r gn) : VE K (fun σ H Q => t σ H fun vs H1 => r vs H1 Q) (eApp gn fa) := by
  intro B AF σ H ρ Fs d k S e Q q
  obtain ⟨⟨ds, k1⟩, e1, e⟩ := Option.bind_eq_some_iff.mp e
  refine h1 B AF σ H ρ Fs ds k1 S e1 _ fun vs H1 F g1 r1 o1 => ?_
  exact h2 ρ Fs H H1 vs ds F k1 d k g1 r1 o1 e Q fun v H2 G g2 r2 o2 => q v H2 G (g1.trans g2) r2 o2
theorem ve_call_b {r : List V → Hp → VK → Prop} {gn : Gn} (h2 : VF K r gn) (h1 : VA K t fa) : VE K (tCB r t) (eApp gn fa) := ve_appR h1 h2
/-- a two-place operation -/
def r2l (r : R2) : List V → Hp → VK → Prop := fun vs H Q => match vs with
  | [x, y] => r x y H Q
  | _ => False
def r1l (r : V → Hp → VK → Prop) : List V → Hp → VK → Prop := fun vs H Q => match vs with
  | [x] => r x H Q
  | _ => False
theorem ve_op {r : R2} {gn : Gn} (h2 : VF K (r2l r) gn) (ha : VE K ta f) (hb : VE K tb g) : VE K (tOp r ta tb) (eApp gn (aCons f (aCons g aNil))) :=
  ve_appR (t := tCons ta (tCons tb tNil)) (va_cons ha (va_cons hb va_nil)) h2
theorem ve_un {r : V → Hp → VK → Prop} {gn : Gn} (h2 : VF K (r1l r) gn) (ha : VE K ta f) : VE K (tUn r ta) (eApp gn (aCons f aNil)) :=
  ve_appR (t := tCons ta tNil) (va_cons ha va_nil) h2
end

/-! ### tests -/
def bOf : PyData → Option Bool
  | .bool b => some b
  | _ => none
def tVal (f : EF) : Env → Option Bool := fun ρ => (f ρ).bind fun p => bOf p.1
def tAndF (a b : Env → Option Bool) : Env → Option Bool := fun ρ => (a ρ).bind fun x => if x = true then b ρ else some false
def tOrF (a b : Env → Option Bool) : Env → Option Bool := fun ρ => (a ρ).bind fun x => if x = true then some true else b ρ
def tNotF (a : Env → Option Bool) : Env → Option Bool := fun ρ => (a ρ).map fun x => !x
def truD : PyData → Option Bool
  | .none => some false
  | .bool b => some b
  | .int i => some (i != 0)
  | .str x => if x.length ≤ 1000000 then some ((x.length : Int) != 0) else none
  | .list xs => some (!xs.isEmpty)
  | .tuple xs => some (!xs.isEmpty)
  | .dict _ => Option.none
def tTru (f : EF) : Env → Option Bool := fun ρ => (f ρ).bind fun p => truD p.1
section
variable {K : PySem.W.Frag} {ta tb te : TE} {t : TA} {tt tu : TT} {f g : EF} {fa : AFn} {ft fu : Env → Option Bool}
theorem bOf_eq {d : PyData} {b : Bool} (h : bOf d = some b) : d = .bool b := by
  cases d <;> simp [bOf] at h
  rw [h]
theorem rp_bool {H : Hp} {v : V} {b : Bool} {F : List Addr} (h : Rp K H v (.bool b) F) : v = .bl b := by cases h; rfl
theorem vt_test (h : VE K te f) : VT K (tTest te) (tVal f) := by
  intro B AF σ H ρ Fs b S e Q q
  obtain ⟨⟨d, k⟩, e1, e2⟩ := Option.bind_eq_some_iff.mp e
  cases bOf_eq e2
  exact h B AF σ H ρ Fs _ k S e1 _ fun v H1 F g1 r1 o1 => ⟨b, rp_bool r1, q H1 g1⟩
theorem vt_B (h : VE K te f) : VT K (tB te) (tVal f) := by
  intro B AF σ H ρ Fs b S e Q q
  obtain ⟨⟨d, k⟩, e1, e2⟩ := Option.bind_eq_some_iff.mp e
  cases bOf_eq e2
  exact h B AF σ H ρ Fs _ k S e1 _ fun v H1 F g1 r1 o1 => ⟨b, rp_bool r1, q H1 g1⟩
theorem vt_and (h1 : VT K tt ft) (h2 : VT K tu fu) : VT K (tAnd tt tu) (tAndF ft fu) := by
  intro B AF σ H ρ Fs b S e Q q
  obtain ⟨x, e1, e2⟩ := Option.bind_eq_some_iff.mp e
  refine h1 B AF σ H ρ Fs x S e1 _ fun H1 g1 => ?_
  cases x with
  | true => exact h2 B AF σ H1 ρ Fs b (S.grow g1) e2 Q fun H2 g2 => q H2 (g1.trans g2)
  | false => cases e2; exact q H1 g1
theorem vt_or (h1 : VT K tt ft) (h2 : VT K tu fu) : VT K (tOr tt tu) (tOrF ft fu) := by
  intro B AF σ H ρ Fs b S e Q q
  obtain ⟨x, e1, e2⟩ := Option.bind_eq_some_iff.mp e
  refine h1 B AF σ H ρ Fs x S e1 _ fun H1 g1 => ?_
  cases x with
  | true => cases e2; exact q H1 g1
  | false => exact h2 B AF σ H1 ρ Fs b (S.grow g1) e2 Q fun H2 g2 => q H2 (g1.trans g2)
theorem vt_not (h1 : VT K tt ft) : VT K (tNot tt) (tNotF ft) := by
  intro B AF σ H ρ Fs b S e Q q
  obtain ⟨x, e1, e2⟩ := Option.map_eq_some_iff.mp e
  subst e2
  exact h1 B AF σ H ρ Fs x S e1 _ fun H1 g1 => q H1 g1
theorem vt_yes : VT K tYes (fun _ => some true) := by
  intro B AF σ H ρ Fs b S e Q q
  cases e
  exact q H (.refl H)
theorem le_line {n : Nat} (h : n ≤ 1000000) : n ≤ sizeLine := Nat.le_trans h (by rw [sizeLine_eq]; decide)
theorem lt_line {n : Nat} (h : n < 1000000) : n < sizeLine := Nat.lt_of_lt_of_le h (by rw [sizeLine_eq]; decide)
theorem isEmpty_len {α β : Type} : ∀ {xs : List α} {ys : List β}, xs.length = ys.length → xs.isEmpty = ys.isEmpty
  | [], [], _ => rfl
  | _ :: _, _ :: _, _ => rfl
theorem vt_tru (h : VE K te f) : VT K (fun σ H Q => te σ H fun x H' => ∃ k, TruV K x H' k ∧ Q k H') (tTru f) := by
  intro B AF σ H ρ Fs b S e Q q
  obtain ⟨⟨d, k⟩, e1, e2⟩ := Option.bind_eq_some_iff.mp e
  refine h B AF σ H ρ Fs _ k S e1 _ fun v H1 F g1 r1 o1 => ⟨b, ?_, q H1 g1⟩
  cases r1 with
  | non => exact (Option.some.inj e2).symm
  | bl c => exact (Option.some.inj e2).symm
  | int i => exact (Option.some.inj e2).symm
  | str x =>
    simp only [truD] at e2
    split at e2
    · rename_i hx
      exact ⟨le_line hx, (Option.some.inj e2).symm⟩
    · cases e2
  | tup ht r =>
    have e3 := Option.some.inj e2
    refine .inr (.inl ⟨_, ht, ?_⟩)
    rw [← e3, isEmpty_len r.length]
  | lst ht r =>
    have e3 := Option.some.inj e2
    refine .inl ⟨_, .of ht, ?_⟩
    rw [← e3, isEmpty_len r.length]
  | dic ht r => cases e2
theorem ve_if (ht : VT K tt ft) (ha : VE K ta f) (hb : VE K tb g) : VE K (tIf tt ta tb) (fun ρ => (ft ρ).bind fun x => if x = true then f ρ else g ρ) := by
  intro B AF σ H ρ Fs d k S e Q q
  obtain ⟨x, e1, e2⟩ := Option.bind_eq_some_iff.mp e
  refine ht B AF σ H ρ Fs x S e1 _ fun H1 g1 => ?_
  cases x with
  | true => exact ha B AF σ H1 ρ Fs d k (S.grow g1) e2 Q fun v H2 F g2 r2 o2 => q v H2 F (g1.trans g2) r2 ⟨o2.1.back g1, fun L z => let ⟨p, G, a1, a2, a3, a4⟩ := o2.2 L z; ⟨p, G, a1, a2, a3, g1.back a4⟩⟩
  | false => exact hb B AF σ H1 ρ Fs d k (S.grow g1) e2 Q fun v H2 F g2 r2 o2 => q v H2 F (g1.trans g2) r2 ⟨o2.1.back g1, fun L z => let ⟨p, G, a1, a2, a3, a4⟩ := o2.2 L z; ⟨p, G, a1, a2, a3, g1.back a4⟩⟩
end
end Va

/-! Va3: operations. -/
namespace Va
open PySem L2

/-! ### kinds of results -/
def lstK (ds : List PyData) (k : Kd) : Kd := if flatL ds then .mv [] else match k with
  | .mv L => .mv L
  | .sp L => .sp L
  | .bo L => .sp L
def tupK (ds : List PyData) (k : Kd) : Kd := if flatL ds then .mv [] else match k with
  | .mv L => .mv L
  | .sp L => .bo L
  | .bo L => .bo L
def datK (d : PyData) (k : Kd) : Kd := if flat d then .mv [] else match k with
  | .mv L => .mv L
  | .sp L => .bo L
  | .bo L => .bo L
section
variable {K : PySem.W.Frag} {ρ : Env} {Fs : Nat → List Addr} {H0 H H' : Hp} {F G : List Addr} {k : Kd} {ds : List PyData} {d : PyData} {vs : List V} {v : V} {p : Addr}
theorem kv_dat (r : Rp K H v d F) (o : KO ρ Fs H0 F k) : KV ρ Fs H0 v F (datK d k) := by
  unfold datK
  split
  · rename_i h
    rw [r.flat h]; exact .nil
  · cases k with
    | mv L => exact .mv o
    | sp L => exact .bo o
    | bo L => exact .bo o
theorem kv_tup (r : RpL K H vs ds F) (o : KO ρ Fs H0 F k) : KV ρ Fs H0 v F (tupK ds k) := by
  unfold tupK
  split
  · rename_i h
    rw [r.flat h]; exact .nil
  · cases k with
    | mv L => exact .mv o
    | sp L => exact .bo o
    | bo L => exact .bo o
theorem kv_lst (r : RpL K H vs ds F) (o : KO ρ Fs H0 F k) (g : Grow H0 H) (hp : H p = none) : KV ρ Fs H0 (.ref p) (p :: F) (lstK ds k) := by
  have h0 : H0 p = none := g.back hp
  have hn : p ∉ F := fun m => r.stn m hp
  unfold lstK
  split
  · rename_i h
    rw [r.flat h]
    exact .mv ⟨by simp, fun a ha => by rcases List.mem_singleton.mp ha with rfl; exact .inl h0⟩
  · have sp : ∀ L, KO ρ Fs H0 F (.bo L) → KV ρ Fs H0 (.ref p) (p :: F) (.sp L) := fun L o => by
      refine ⟨fun a ha => ?_, fun _ _ => ⟨p, F, rfl, rfl, hn, h0⟩⟩
      rcases List.mem_cons.mp ha with rfl | ha
      · exact .inl h0
      · exact o a ha
    cases k with
    | mv L =>
      refine .mv ⟨List.nodup_cons.mpr ⟨hn, o.1⟩, fun a ha => ?_⟩
      rcases List.mem_cons.mp ha with rfl | ha
      · exact .inl h0
      · exact o.2 a ha
    | sp L => exact sp L o
    | bo L => exact sp L o
theorem rp_lst (r : RpL K H vs ds F) (hp : H p = none) : Rp K (upd H p (.lst vs)) (.ref p) (.list ds) (p :: F) := .lst upd_same (r.grow (.new hp))
theorem rp_tup (r : RpL K H vs ds F) (hp : H p = none) : Rp K (upd H p (.tup vs)) (.ref p) (.tuple ds) F := .tup (.of upd_same) (r.grow (.new hp))
theorem RpL.one' {d : PyData} (r : RpL K H vs [d] F) : ∃ v, vs = [v] ∧ Rp K H v d F := by
  cases r with
  | cons h t =>
    cases t
    exact ⟨_, rfl, by rw [List.append_nil]; exact h⟩
theorem RpL.two {d e : PyData} (r : RpL K H vs [d, e] F) : ∃ v u A B, vs = [v, u] ∧ Rp K H v d A ∧ Rp K H u e B ∧ F = A ++ B := by
  cases r with
  | cons h t =>
    obtain ⟨u, rfl, h2⟩ := t.one'
    exact ⟨_, _, _, _, rfl, h, h2, rfl⟩
theorem RpL.three {d e f : PyData} (r : RpL K H vs [d, e, f] F) : ∃ v u w A B C, vs = [v, u, w] ∧ Rp K H v d A ∧ Rp K H u e B ∧ Rp K H w f C ∧ F = A ++ (B ++ C) := by
  cases r with
  | cons h t =>
    obtain ⟨u, w, A, B, rfl, h2, h3, rfl⟩ := t.two
    exact ⟨_, _, _, _, _, _, rfl, h, h2, h3, rfl⟩
end

/-! ### displays -/
def gnTup : Gn := fun ds k => if ds.length ≤ 1000000 then some (.tuple ds, tupK ds k) else none
def gnLst : Gn := fun ds k => if ds.length ≤ 1000000 then some (.list ds, lstK ds k) else none
section
variable {K : PySem.W.Frag} {ta tb te : TE} {t : TA} {tt tu : TT} {f g : EF} {fa : AFn}
theorem vf_tup : VF K (fun xs H1 Q => xs.length ≤ sizeLine ∧ ∀ p, H1 p = none → Q (.ref p) (upd H1 p (.tup xs))) gnTup := by
  intro ρ Fs H0 H vs ds F k d k' g r o e Q q
  unfold gnTup at e
  split at e
  · rename_i hl
    cases e
    exact ⟨le_line (by rw [r.length]; exact hl), fun p hp => q _ _ F (.new hp) (rp_tup r hp) (kv_tup r o)⟩
  · cases e
theorem vf_lst : VF K (fun xs H1 Q => xs.length ≤ sizeLine ∧ ∀ p, H1 p = none → Q (.ref p) (upd H1 p (.lst xs))) gnLst := by
  intro ρ Fs H0 H vs ds F k d k' g r o e Q q
  unfold gnLst at e
  split at e
  · rename_i hl
    cases e
    exact ⟨le_line (by rw [r.length]; exact hl), fun p hp => q _ _ _ (.new hp) (rp_lst r hp) (kv_lst r o g hp)⟩
  · cases e
theorem ve_tup (h : VA K t fa) : VE K (tTup t) (eApp gnTup fa) := ve_appR h vf_tup
theorem ve_lst (h : VA K t fa) : VE K (tLst t) (eApp gnLst fa) := ve_appR h vf_lst
end

/-! ### operations that give flat data -/
def VFf (K : PySem.W.Frag) (r : List V → Hp → VK → Prop) (h : List PyData → Option PyData) : Prop := ∀ (H : Hp) (vs : List V) (ds : List PyData) (F : List Addr) (d : PyData), RpL K H vs ds F → h ds = some d →
  ∀ Q : VK, (∀ v H', Grow H H' → Rp K H' v d [] → Q v H') → r vs H Q
def gF (h : List PyData → Option PyData) : Gn := fun ds _ => (h ds).map fun d => (d, .mv [])
theorem vf_f {K : PySem.W.Frag} {r : List V → Hp → VK → Prop} {h : List PyData → Option PyData} (hr : VFf K r h) : VF K r (gF h) := by
  intro ρ Fs H0 H vs ds F k d k' g r o e Q q
  obtain ⟨d', e1, e2⟩ := Option.map_eq_some_iff.mp e
  cases e2
  exact hr H vs ds F d r e1 Q fun v H' g' r' => q v H' [] g' r' .nil

/-- two ints -/
def hII (c : Int → Int → Bool) (h : Int → Int → PyData) : List PyData → Option PyData
  | [.int i, .int j] => if c i j = true then some (h i j) else none
  | _ => none
@[simp] def yesI : Int → Int → Bool := fun _ _ => true
theorem vf_II {K : PySem.W.Frag} {C : Int → Int → Prop} {g : Int → Int → V} {c : Int → Int → Bool} {h : Int → Int → PyData} (hc : ∀ i j, c i j = true → C i j) (hg : ∀ i j, rpC (g i j) (h i j)) : VFf K (r2l (rI C g)) (hII c h) := by
  intro H vs ds F d r e Q q
  unfold hII at e
  split at e
  · rename_i i j
    split at e
    · rename_i hi
      cases e
      obtain ⟨v, u, A, B, rfl, r1, r2, rfl⟩ := r.two
      cases r1; cases r2
      exact ⟨i, j, rfl, rfl, hc i j hi, q _ H (.refl H) (rp_c (hg i j))⟩
    · cases e
  · cases e
theorem vf_II0 {K : PySem.W.Frag} {g : Int → Int → V} {h : Int → Int → PyData} (hg : ∀ i j, rpC (g i j) (h i j)) : VFf K (r2l (rI0 g)) (hII yesI h) := by
  intro H vs ds F d r e Q q
  unfold hII at e
  split at e
  · rename_i i j
    split at e
    · cases e
      obtain ⟨v, u, A, B, rfl, r1, r2, rfl⟩ := r.two
      cases r1; cases r2
      exact ⟨i, j, rfl, rfl, q _ H (.refl H) (rp_c (hg i j))⟩
    · cases e
  · cases e
def hSub := hII yesI fun i j => .int (i - j)
def cDivW (i j : Int) : Bool := decide (0 < j) && decide (j.natAbs.log2 < 9000)
def hDiv := hII cDivW fun i j => .int (i / j)
def hMod := hII (fun _ j => decide (0 < j)) fun i j => .int (i % j)
def hPow := hII (fun i j => decide (0 ≤ j) && decide (j ≤ 1000000) && decide (i.natAbs < 2 ^ 64)) fun i j => .int (i ^ j.toNat)
theorem vf_sub {K : PySem.W.Frag} : VFf K (r2l (rI0 fun i j => .int (i - j))) hSub := vf_II0 fun _ _ => rfl
theorem vf_div {K : PySem.W.Frag} : VFf K (r2l (rI CDivW fun i j => .int (i / j))) hDiv := vf_II (fun i j h => by simp only [cDivW, Bool.and_eq_true, decide_eq_true_eq] at h; exact h) fun _ _ => rfl
theorem vf_mod {K : PySem.W.Frag} : VFf K (r2l (rI (fun _ j => 0 < j) fun i j => .int (i % j))) hMod := vf_II (fun i j h => by simpa using h) fun _ _ => rfl
theorem vf_pow {K : PySem.W.Frag} : VFf K (r2l (rI CPow fun i j => .int (i ^ j.toNat))) hPow := vf_II (fun i j h => by simp only [Bool.and_eq_true, decide_eq_true_eq] at h; exact ⟨h.1.1, h.1.2, h.2⟩) fun _ _ => rfl
def hLt := hII yesI fun i j => .bool (decide (i < j))
def hLe := hII yesI fun i j => .bool (decide (i ≤ j))
def hGt := hII yesI fun i j => .bool (decide (j < i))
def hGe := hII yesI fun i j => .bool (decide (j ≤ i))
theorem vf_lt {K : PySem.W.Frag} : VFf K (r2l (rI0 fun i j => .bl (decide (i < j)))) hLt := vf_II0 fun _ _ => rfl
theorem vf_le {K : PySem.W.Frag} : VFf K (r2l (rI0 fun i j => .bl (decide (i ≤ j)))) hLe := vf_II0 fun _ _ => rfl
theorem vf_gt {K : PySem.W.Frag} : VFf K (r2l (rI0 fun i j => .bl (decide (j < i)))) hGt := vf_II0 fun _ _ => rfl
theorem vf_ge {K : PySem.W.Frag} : VFf K (r2l (rI0 fun i j => .bl (decide (j ≤ i)))) hGe := vf_II0 fun _ _ => rfl
def hNeg : List PyData → Option PyData
  | [.int i] => some (.int (-i))
  | _ => none
theorem vf_neg {K : PySem.W.Frag} : VFf K (r1l (rU fun i => .int (-i))) hNeg := by
  intro H vs ds F d r e Q q
  unfold hNeg at e
  split at e
  · cases e
    obtain ⟨v, rfl, r1⟩ := r.one'
    cases r1
    exact ⟨_, rfl, q _ H (.refl H) (.int _)⟩
  · cases e

/-! ### * -/
def mulOk (i j : Int) : Bool := (decide (-(2 ^ 64) < i) && decide (i < 2 ^ 64)) || (decide (-(2 ^ 64) < j) && decide (j < 2 ^ 64))
def rMulA : R2 := fun x y H Q => rI CMul (fun i j => .int (i * j)) x y H Q ∨ rRep x y H Q
def gMul : Gn := fun ds k => match ds with
  | [.int i, .int j] => if mulOk i j = true then some (.int (i * j), .mv []) else none
  | [.list xs, .int j] => if 0 ≤ j ∧ j ≤ 1000 ∧ xs.length * j.toNat ≤ 1000000 ∧ flatL xs = true then some (.list (List.replicate j.toNat xs).flatten, .mv []) else none
  | _ => none
section
variable {K : PySem.W.Frag} {H : Hp}
theorem rep_flat {ys : List V} {ds : List PyData} (r : RpL K H ys ds []) : ∀ n : Nat, RpL K H (List.replicate n ys).flatten (List.replicate n ds).flatten []
  | 0 => .nil
  | n + 1 => by
    rw [List.replicate_succ, List.replicate_succ, List.flatten_cons, List.flatten_cons]
    exact RpL.app r (rep_flat r n)
theorem vf_mul : VF K (r2l rMulA) gMul := by
  intro ρ Fs H0 H vs ds F k d k' g r o e Q q
  unfold gMul at e
  split at e
  · rename_i i j
    split at e
    · rename_i hm
      cases e
      obtain ⟨v, u, A, B, rfl, r1, r2, rfl⟩ := r.two
      cases r1; cases r2
      refine .inl ⟨i, j, rfl, rfl, ?_, q _ H [] (.refl H) (.int _) .nil⟩
      simp only [mulOk, Bool.or_eq_true, Bool.and_eq_true, decide_eq_true_eq] at hm
      exact hm
    · cases e
  · rename_i xs j
    split at e
    · rename_i hm
      obtain ⟨h0, h1, h2, h3⟩ := hm
      cases e
      obtain ⟨v, u, A, B, rfl, r1, r2, rfl⟩ := r.two
      cases r2
      cases r1 with
      | lst ha rl =>
        rename_i a ys G
        obtain rfl := rl.flat h3
        refine .inr ⟨_, j, _, rfl, rfl, ha, by omega, by omega, le_line (by rw [rl.length]; exact h2), fun p hp => ?_⟩
        refine q _ _ _ (.new hp) (rp_lst (rep_flat rl _) hp) ?_
        have h := kv_lst (ρ := ρ) (Fs := Fs) (k := .mv []) (rep_flat rl j.toNat) .nil g hp
        unfold lstK at h
        split at h <;> exact h
    · cases e
  · cases e

/-! ### + -/
def rAddA (K : PySem.W.Frag) : R2 := fun x y H Q => rI0 (fun i j => .int (i + j)) x y H Q ∨ (∃ i j, x = .str i ∧ y = .str j ∧ i.length + j.length ≤ sizeLine ∧ Q (.str (i ++ j)) H) ∨ rCat x y H Q ∨ rCatA K x y H Q
def gAdd : Gn := fun ds k => match ds with
  | [.int i, .int j] => some (.int (i + j), .mv [])
  | [.str x, .str y] => if x.length + y.length ≤ 1000000 then some (.str (x ++ y), .mv []) else none
  | [.list xs, .list ys] => if xs.length + ys.length ≤ 1000000 then some (.list (xs ++ ys), lstK (xs ++ ys) k) else none
  | [.tuple xs, .tuple ys] => if xs.length + ys.length ≤ 1000000 then some (.tuple (xs ++ ys), tupK (xs ++ ys) k) else none
  | _ => none
theorem sub2 {a b : Addr} {A B : List Addr} : List.Sublist (A ++ B) ((a :: A) ++ (b :: B)) := List.Sublist.append (List.sublist_cons_self ..) (List.sublist_cons_self ..)
theorem vf_add : VF K (r2l (rAddA K)) gAdd := by
  intro ρ Fs H0 H vs ds F k d k' g r o e Q q
  unfold gAdd at e
  split at e
  · rename_i i j
    cases e
    obtain ⟨v, u, A, B, rfl, r1, r2, rfl⟩ := r.two
    cases r1; cases r2
    exact .inl ⟨i, j, rfl, rfl, q _ H [] (.refl H) (.int _) .nil⟩
  · rename_i x y
    split at e
    · rename_i hz
      cases e
      obtain ⟨v, u, A, B, rfl, r1, r2, rfl⟩ := r.two
      cases r1; cases r2
      exact .inr (.inl ⟨x, y, rfl, rfl, le_line hz, q _ H [] (.refl H) (.str _) .nil⟩)
    · cases e
  · rename_i xs ys
    split at e
    · rename_i hz
      cases e
      obtain ⟨v, u, A, B, rfl, r1, r2, rfl⟩ := r.two
      cases r1 with
      | lst ha ra =>
        cases r2 with
        | lst hb rb =>
          have rr := RpL.app ra rb
          refine .inr (.inr (.inl ⟨_, _, _, _, rfl, rfl, ha, hb, le_line (by rw [ra.length, rb.length]; exact hz), fun p hp => ?_⟩))
          exact q _ _ _ (.new hp) (rp_lst rr hp) (kv_lst rr (o.sub sub2) g hp)
    · cases e
  · rename_i xs ys
    split at e
    · rename_i hz
      cases e
      obtain ⟨v, u, A, B, rfl, r1, r2, rfl⟩ := r.two
      cases r1 with
      | tup ha ra =>
        cases r2 with
        | tup hb rb =>
          have rr := RpL.app ra rb
          refine .inr (.inr (.inr ⟨_, _, _, _, rfl, rfl, ha, hb, le_line (by rw [ra.length, rb.length]; exact hz), fun ex => ?_, fun ex ey => ?_, fun ex ey p hp => ?_⟩))
          · subst ex
            cases ra
            exact q _ _ _ (.refl H) (.tup hb rb) (kv_tup rb o)
          · subst ey
            cases rb
            have o' : KO ρ Fs H0 A k := o.sub (List.sublist_append_left _ _)
            rw [List.append_nil] at q
            exact q _ _ _ (.refl H) (.tup ha ra) (kv_tup ra o')
          · exact q _ _ _ (.new hp) (rp_tup rr hp) (kv_tup rr o)
    · cases e
  · cases e
end

/-! ### == -/
section
variable {K : PySem.W.Frag} {H : Hp}
mutual
theorem Rp.dp : ∀ {v : V} {d : PyData} {F : List Addr}, Rp K H v d F → PyData.canLay0 d = true → Dp K H v d
  | _, _, _, .non, _ => .non
  | _, _, _, .bl b, _ => .bl b
  | _, _, _, .int b, _ => .int b
  | _, _, _, .str b, _ => .str b
  | _, _, _, .tup h r, e => .tup h (RpL.dp r (by simpa only [PyData.canLay0] using e))
  | _, _, _, .lst h r, e => .lst (.of h) (RpL.dp r (by simpa only [PyData.canLay0] using e))
  | _, _, _, .dic h r, e => by simp [PyData.canLay0] at e
theorem RpL.dp : ∀ {v : List V} {d : List PyData} {F : List Addr}, RpL K H v d F → PyData.canLayAll0 d = true → DpAll K H v d
  | _, _, _, .nil, _ => .nil
  | _, _, _, .cons h r, e => by
    simp only [PyData.canLayAll0, Bool.and_eq_true] at e
    exact .cons (Rp.dp h e.1) (RpL.dp r e.2)
end
def hEq : List PyData → Option PyData
  | [.str x, .str y] => some (.bool (x == y))
  | [d, e] => if SeqAt.shaped d = true ∧ SeqAt.shaped e = true then some (.bool (PyData.eqv d e)) else none
  | _ => none
def hNe : List PyData → Option PyData
  | [.str x, .str y] => some (.bool (!(x == y)))
  | [d, e] => if SeqAt.shaped d = true ∧ SeqAt.shaped e = true then some (.bool (!PyData.eqv d e)) else none
  | _ => none
theorem vf_eq : VFf K (r2l fun x y H Q => rEqD K x y H Q ∨ rEq x y H Q) hEq := by
  intro H vs ds F d r e Q q
  unfold hEq at e
  split at e
  · cases e
    obtain ⟨v, u, A, B, rfl, r1, r2, rfl⟩ := r.two
    cases r1; cases r2
    exact .inr ⟨rfl, by rw [dec_str]; exact q _ H (.refl H) (.bl _)⟩
  · split at e
    · rename_i hs
      cases e
      obtain ⟨v, u, A, B, rfl, r1, r2, rfl⟩ := r.two
      exact .inl ⟨_, _, r1.dp (SeqAt.canLay_of_shaped hs.1), r2.dp (SeqAt.canLay_of_shaped hs.2), hs.1, hs.2, q _ H (.refl H) (.bl _)⟩
    · cases e
  · cases e
theorem vf_ne : VFf K (r2l fun x y H Q => rNeD K x y H Q ∨ rNe x y H Q) hNe := by
  intro H vs ds F d r e Q q
  unfold hNe at e
  split at e
  · cases e
    obtain ⟨v, u, A, B, rfl, r1, r2, rfl⟩ := r.two
    cases r1; cases r2
    exact .inr ⟨rfl, by rw [dec_str]; exact q _ H (.refl H) (.bl _)⟩
  · split at e
    · rename_i hs
      cases e
      obtain ⟨v, u, A, B, rfl, r1, r2, rfl⟩ := r.two
      exact .inl ⟨_, _, r1.dp (SeqAt.canLay_of_shaped hs.1), r2.dp (SeqAt.canLay_of_shaped hs.2), hs.1, hs.2, q _ H (.refl H) (.bl _)⟩
    · cases e
  · cases e
/-! ### is None -/
def isN : PyData → Bool
  | .none => true
  | _ => false
def hIsN : List PyData → Option PyData
  | [d, .none] => some (.bool (isN d))
  | _ => none
def hNotN : List PyData → Option PyData
  | [d, .none] => some (.bool (!isN d))
  | _ => none
theorem isN_eq {v : V} {d : PyData} {F : List Addr} (r : Rp K H v d F) : decide (v = .non) = isN d := by
  cases r <;> rfl
theorem vf_isN : VFf K (r2l fun x y H Q => y = .non ∧ Q (.bl (decide (x = .non))) H) hIsN := by
  intro H vs ds F d r e Q q
  unfold hIsN at e
  split at e
  · cases e
    obtain ⟨v, u, A, B, rfl, r1, r2, rfl⟩ := r.two
    cases r2
    exact ⟨rfl, by rw [isN_eq r1]; exact q _ H (.refl H) (.bl _)⟩
  · cases e
theorem vf_notN : VFf K (r2l fun x y H Q => y = .non ∧ Q (.bl (!decide (x = .non))) H) hNotN := by
  intro H vs ds F d r e Q q
  unfold hNotN at e
  split at e
  · cases e
    obtain ⟨v, u, A, B, rfl, r1, r2, rfl⟩ := r.two
    cases r2
    exact ⟨rfl, by rw [isN_eq r1]; exact q _ H (.refl H) (.bl _)⟩
  · cases e
/-! ### subscripts -/
def dAt (d : PyData) (i : Int) : Option PyData := match d with
  | .list xs => atI xs i
  | .tuple xs => atI xs i
  | .str x => if x.length ≤ 1000000 then (atI x.cps.toList i).map fun c => .str ⟨#[c]⟩ else none
  | _ => none
def gIx : Gn := fun ds k => match ds with
  | [d, .int i] => (dAt d i).map fun e => (e, datK e k)
  | _ => none
theorem atI_at {α : Type} {xs : List α} {i : Int} {x : α} (h : atI xs i = some x) : ∃ j, ixN xs.length i = some j ∧ xs[j]? = some x := by
  unfold atI at h
  obtain ⟨j, h1, h2⟩ := Option.bind_eq_some_iff.mp h
  exact ⟨j, h1, h2⟩
theorem atI_rp {vs : List V} {ds : List PyData} {F : List Addr} {i : Int} {d : PyData} (r : RpL K H vs ds F) (h : atI ds i = some d) : ∃ v A G B, atI vs i = some v ∧ Rp K H v d G ∧ F = A ++ (G ++ B) := by
  obtain ⟨j, h1, h2⟩ := atI_at h
  obtain ⟨v, A, G, B, h3, h4, h5⟩ := r.get j h2
  exact ⟨v, A, G, B, by unfold atI; rw [r.length, h1]; exact h3, h4, h5⟩
theorem sub3 {A G B : List Addr} : List.Sublist G (A ++ (G ++ B)) := (List.sublist_append_left G B).trans (List.sublist_append_right A (G ++ B))
theorem vf_ix : VF K (r2l (rIx K)) gIx := by
  intro ρ Fs H0 H vs ds F k d k' g r o e Q q
  unfold gIx at e
  split at e
  · rename_i dd i
    obtain ⟨d', e1, e2⟩ := Option.map_eq_some_iff.mp e
    cases e2
    obtain ⟨v, u, A, B, rfl, r1, r2, rfl⟩ := r.two
    cases r2
    rw [List.append_nil] at o
    cases r1 with
    | lst ha ra =>
      obtain ⟨v, A', G, B', h1, h2, h3⟩ := atI_rp ra e1
      refine .inl ⟨_, _, i, v, rfl, rfl, .of ha, h1, q v H G (.refl H) h2 (kv_dat h2 (o.sub ?_))⟩
      rw [h3]
      exact sub3.trans (List.sublist_cons_self ..)
    | tup ha ra =>
      obtain ⟨v, A', G, B', h1, h2, h3⟩ := atI_rp ra e1
      refine .inr (.inl ⟨_, _, i, v, rfl, rfl, ha, h1, q v H G (.refl H) h2 (kv_dat h2 (o.sub ?_))⟩)
      rw [h3]
      exact sub3
    | str x =>
      unfold dAt at e1
      simp only at e1
      split at e1
      · rename_i hz
        obtain ⟨c, h1, h2⟩ := Option.map_eq_some_iff.mp e1
        subst h2
        exact .inr (.inr ⟨x, i, c, rfl, rfl, le_line hz, h1, q _ H [] (.refl H) (.str _) (kv_dat (K := K) (H := H) (.str _) KO.nilK)⟩)
      · cases e1
    | non => cases e1
    | bl b => cases e1
    | int b => cases e1
    | dic ha ra => cases e1
  · cases e
end
end Va

/-! Va4: targets, what is walked, comprehensions. -/
namespace Va
open PySem L2

/-! ### slots changed -/
def upF (Fs : Nat → List Addr) (i : Nat) (F : List Addr) : Nat → List Addr := fun j => if j = i then F else Fs j
theorem upF_same {Fs : Nat → List Addr} {i : Nat} {F : List Addr} : upF Fs i F i = F := if_pos rfl
theorem upF_ne {Fs : Nat → List Addr} {i j : Nat} {F : List Addr} (h : j ≠ i) : upF Fs i F j = Fs j := if_neg h
/-- what the slots alone may write -/
def Free (ρ : Env) (Fs : Nat → List Addr) (G : List Addr) : Prop := ∀ i d m, ρ[i]? = some (some (d, m)) → ∀ a ∈ Mf m (Fs i), a ∉ G
section
variable {K : PySem.W.Frag} {B : Hp} {AF : List Addr} {σ : L2.St} {H H' : Hp} {ρ : Env} {Fs : Nat → List Addr}
theorem set_some {α : Type} {l : List (Option α)} {i j : Nat} {x : Option α} {y : α} (h : (l.set i x)[j]? = some (some y)) : (j = i ∧ x = some y) ∨ (j ≠ i ∧ l[j]? = some (some y)) := by
  by_cases e : j = i
  · subst e
    rw [List.getElem?_set] at h
    rw [if_pos rfl] at h
    split at h
    · exact .inl ⟨rfl, Option.some.inj h⟩
    · cases h
  · rw [List.getElem?_set_ne (Ne.symm e)] at h
    exact .inr ⟨e, h⟩
/-- a slot takes a value that no slot may write -/
theorem SR.set (S : SR K B AF σ H ρ Fs) {i : Nat} {v : V} {d : PyData} {m : Nat} {F : List Addr} (hi : i < ρ.length) (r : Rp K H v d F) (h1 : ∀ a ∈ F, B a = none ∨ a ∈ AF) (o : Own B v m F)
    (hf : ∀ j e n, j ≠ i → ρ[j]? = some (some (e, n)) → (∀ a ∈ Mf n (Fs j), a ∉ F) ∧ ∀ a ∈ Mf m F, a ∉ Fs j) :
    SR K B AF (σ.set i (some v)) H (ρ.set i (some (d, m))) (upF Fs i F) := by
  refine ⟨by rw [List.length_set, List.length_set]; exact S.len, S.same, fun j e n q => ?_, fun j j' e n e' n' q q' ne a ha => ?_⟩
  · rcases set_some q with ⟨rfl, z⟩ | ⟨ne, z⟩
    · cases z
      rw [upF_same]
      refine ⟨v, ?_, r, h1, o⟩
      rw [List.getElem?_set_self]
      rw [S.len]
      exact hi
    · obtain ⟨u, h1, h2⟩ := S.val j e n z
      refine ⟨u, ?_, ?_⟩
      · rw [List.getElem?_set_ne (Ne.symm ne)]
        exact h1
      · rw [upF_ne ne]
        exact h2
  · rcases set_some q with ⟨rfl, z⟩ | ⟨ne1, z⟩
    · cases z
      rcases set_some q' with ⟨rfl, z'⟩ | ⟨ne2, z'⟩
      · exact absurd rfl ne
      · rw [upF_same] at ha
        rw [upF_ne ne2]
        exact (hf j' e' n' ne2 z').2 a ha
    · rw [upF_ne ne1] at ha
      rcases set_some q' with ⟨rfl, z'⟩ | ⟨ne2, z'⟩
      · rw [upF_same]
        exact (hf j e n ne1 z).1 a ha
      · rw [upF_ne ne2]
        exact S.dis j j' e n e' n' z z' ne a ha
def m02 (d : PyData) : Nat := if flat d then 2 else 0
theorem own02 {v : V} {d : PyData} {F : List Addr} (r : Rp K H v d F) : Own B v (m02 d) F ∧ Mf (m02 d) F = [] := by
  unfold m02
  split
  · rename_i h
    rw [r.flat h]
    exact ⟨⟨fun a h => (by cases h), fun z => (by cases z), fun _ => List.nodup_nil⟩, rfl⟩
  · exact ⟨.zero, rfl⟩
/-- .. shared (or flat) -/
theorem SR.set0 (S : SR K B AF σ H ρ Fs) {i : Nat} {v : V} {d : PyData} {F : List Addr} (hi : i < ρ.length) (r : Rp K H v d F) (h1 : ∀ a ∈ F, B a = none ∨ a ∈ AF) (hf : Free ρ Fs F) :
    SR K B AF (σ.set i (some v)) H (ρ.set i (some (d, m02 d))) (upF Fs i F) :=
  S.set hi r h1 (own02 r).1 fun j e n ne q => ⟨hf j e n q, fun a ha => by rw [(own02 (B := B) r).2] at ha; cases ha⟩
theorem Free.mono {F G : List Addr} (h : Free ρ Fs G) (s : ∀ a ∈ F, a ∈ G) : Free ρ Fs F := fun i d m q a ha z => h i d m q a ha (s a z)
theorem Free.set {v : V} {d : PyData} {F G : List Addr} {i : Nat} (h : Free ρ Fs G) (r : Rp K H v d F) : Free (ρ.set i (some (d, m02 d))) (upF Fs i F) G := fun j e n q a ha => by
  rcases set_some q with ⟨rfl, z⟩ | ⟨ne, z⟩
  · cases z
    rw [upF_same, (own02 (B := fun _ => none) r).2] at ha
    cases ha
  · rw [upF_ne ne] at ha
    exact h j e n z a ha
end

/-! ### targets -/
/-- what a target leaves: only the slots ns changed; theirs are parts of G -/
structure Tg (ns : List Nat) (G : List Addr) (σ : L2.St) (ρ : Env) (Fs : Nat → List Addr) (σ' : L2.St) (ρ' : Env) (Fs' : Nat → List Addr) : Prop where
  out : ∀ i : Nat, i ∉ ns → σ'[i]? = σ[i]? ∧ ρ'[i]? = ρ[i]? ∧ Fs' i = Fs i
  ins : ∀ (i : Nat), i ∈ ns → ∀ (d : PyData) (m : Nat), ρ'[i]? = some (some (d, m)) → Mf m (Fs' i) = [] ∧ ∀ a ∈ Fs' i, a ∈ G
  wip : ∀ vs : List Nat, (∀ i ∈ ns, i ∈ vs) → wipe σ' vs = wipe σ vs
  len : ρ'.length = ρ.length
abbrev SG := PyData → Env → Option Env
abbrev SGs := List PyData → Env → Option Env
def VG (K : PySem.W.Frag) (ns : List Nat) (g : TG) (st : SG) : Prop := ∀ (B : Hp) (AF : List Addr) (σ : L2.St) (H : Hp) (ρ ρ' : Env) (Fs : Nat → List Addr) (v : V) (d : PyData) (G : List Addr), SR K B AF σ H ρ Fs → Rp K H v d G →
  (∀ a ∈ G, B a = none ∨ a ∈ AF) → Free ρ Fs G → st d ρ = some ρ' → ∀ Q : L2.St → Hp → Prop, (∀ σ' Fs', SR K B AF σ' H ρ' Fs' → Tg ns G σ ρ Fs σ' ρ' Fs' → Q σ' H) → g v σ H Q
def VGs (K : PySem.W.Frag) (ns : List Nat) (g : TGs) (st : SGs) : Prop := ∀ (B : Hp) (AF : List Addr) (σ : L2.St) (H : Hp) (ρ ρ' : Env) (Fs : Nat → List Addr) (vs : List V) (ds : List PyData) (G : List Addr), SR K B AF σ H ρ Fs → RpL K H vs ds G →
  (∀ a ∈ G, B a = none ∨ a ∈ AF) → Free ρ Fs G → st ds ρ = some ρ' → ∀ Q : L2.St → Hp → Prop, (∀ σ' Fs', SR K B AF σ' H ρ' Fs' → Tg ns G σ ρ Fs σ' ρ' Fs' → Q σ' H) → g vs σ H Q
def tgN (i : Nat) : SG := fun d ρ => if i < ρ.length then some (ρ.set i (some (d, m02 d))) else none
def tgNil : SGs := fun ds ρ => match ds with
  | [] => some ρ
  | _ => none
def tgCons (st : SG) (sts : SGs) : SGs := fun ds ρ => match ds with
  | [] => none
  | d :: ds => (st d ρ).bind (sts ds)
def tgT (n : Nat) (sts : SGs) : SG := fun d ρ => match d with
  | .tuple ds => if ds.length = n then sts ds ρ else none
  | _ => none
section
variable {K : PySem.W.Frag} {ns ms : List Nat}
theorem wipe_set {x : Option V} : ∀ (vs : List Nat) (σ : L2.St) {i : Nat}, i ∈ vs → wipe (σ.set i x) vs = wipe σ vs
  | [], _, _, h => nomatch h
  | v :: vs, σ, i, h => by
    show (wipe (σ.set i x) vs).set v none = (wipe σ vs).set v none
    by_cases e : i ∈ vs
    · rw [wipe_set vs σ e]
    · rcases List.mem_cons.mp h with rfl | h
      · have c : ∀ (vs : List Nat) (σ : L2.St), i ∉ vs → wipe (σ.set i x) vs = (wipe σ vs).set i x := fun vs => by
          induction vs with
          | nil => intro σ _; rfl
          | cons u us ih =>
            intro σ hn
            show (wipe (σ.set i x) us).set u none = ((wipe σ us).set u none).set i x
            rw [ih σ fun z => hn (List.mem_cons_of_mem _ z)]
            exact List.set_comm _ _ fun z => hn (by rw [z]; exact List.mem_cons_self ..)
        rw [c vs σ e, List.set_set]
      · exact absurd h e
theorem vg_name (i : Nat) : VG K [i] (gName i) (tgN i) := by
  intro B AF σ H ρ ρ' Fs v d G S r h1 hf e Q q
  unfold tgN at e
  split at e
  · rename_i hi
    cases e
    refine q _ (upF Fs i G) (S.set0 hi r h1 hf) ⟨fun j hj => ?_, fun j hj e n z => ?_, fun vs hv => wipe_set vs σ (hv i (List.mem_singleton.mpr rfl)), List.length_set⟩
    · have ne : j ≠ i := fun z => hj (List.mem_singleton.mpr z)
      exact ⟨List.getElem?_set_ne (Ne.symm ne), List.getElem?_set_ne (Ne.symm ne), upF_ne ne⟩
    · obtain rfl := List.mem_singleton.mp hj
      rcases set_some z with ⟨_, z⟩ | ⟨ne, z⟩
      · cases z
        rw [upF_same]
        exact ⟨(own02 (B := B) r).2, fun a h => h⟩
      · exact absurd rfl ne
  · cases e
theorem vgs_nil : VGs K [] gNil tgNil := by
  intro B AF σ H ρ ρ' Fs vs ds G S r h1 hf e Q q
  unfold tgNil at e
  split at e
  · cases e
    cases r
    exact ⟨rfl, q σ Fs S ⟨fun _ _ => ⟨rfl, rfl, rfl⟩, fun _ h => (nomatch h), fun _ _ => rfl, rfl⟩⟩
  · cases e
theorem Tg.free {G F : List Addr} {σ σ' : L2.St} {ρ ρ' : Env} {Fs Fs' : Nat → List Addr} (T : Tg ns G σ ρ Fs σ' ρ' Fs') (h : Free ρ Fs F) : Free ρ' Fs' F := fun i d m q a ha => by
  by_cases hi : i ∈ ns
  · rw [(T.ins i hi d m q).1] at ha; cases ha
  · obtain ⟨_, h2, h3⟩ := T.out i hi
    rw [h2] at q
    rw [h3] at ha
    exact h i d m q a ha
theorem vgs_cons {g : TG} {gs : TGs} {st : SG} {sts : SGs} (h1 : VG K ns g st) (h2 : VGs K ms gs sts) : VGs K (ns ++ ms) (gCons g gs) (tgCons st sts) := by
  intro B AF σ H ρ ρ' Fs vs ds G S r hB hf e Q q
  unfold tgCons at e
  split at e
  · cases e
  · rename_i d ds
    obtain ⟨ρ1, e1, e2⟩ := Option.bind_eq_some_iff.mp e
    cases r with
    | cons rv rs =>
      refine ⟨_, _, rfl, h1 B AF σ H ρ ρ1 Fs _ d _ S rv (fun a ha => hB a (List.mem_append_left _ ha)) (hf.mono fun a ha => List.mem_append_left _ ha) e1 _ fun σ1 Fs1 S1 T1 => ?_⟩
      refine h2 B AF σ1 H ρ1 ρ' Fs1 _ ds _ S1 rs (fun a ha => hB a (List.mem_append_right _ ha)) ((T1.free hf).mono fun a ha => List.mem_append_right _ ha) e2 Q fun σ2 Fs2 S2 T2 => ?_
      refine q σ2 Fs2 S2 ⟨fun i hi => ?_, fun i hi d m z => ?_, fun vs hv => ?_, T2.len.trans T1.len⟩
      · obtain ⟨a1, a2, a3⟩ := T1.out i fun z => hi (List.mem_append_left _ z)
        obtain ⟨b1, b2, b3⟩ := T2.out i fun z => hi (List.mem_append_right _ z)
        exact ⟨b1.trans a1, b2.trans a2, b3.trans a3⟩
      · by_cases h2 : i ∈ ms
        · obtain ⟨x, y⟩ := T2.ins i h2 d m z
          exact ⟨x, fun a ha => List.mem_append_right _ (y a ha)⟩
        · obtain ⟨b1, b2, b3⟩ := T2.out i h2
          have h3 : i ∈ ns := (List.mem_append.mp hi).resolve_right h2
          rw [b2] at z
          rw [b3]
          obtain ⟨x, y⟩ := T1.ins i h3 d m z
          exact ⟨x, fun a ha => List.mem_append_left _ (y a ha)⟩
      · rw [T2.wip vs fun i hi => hv i (List.mem_append_right _ hi), T1.wip vs fun i hi => hv i (List.mem_append_left _ hi)]
theorem vg_tup {gs : TGs} {sts : SGs} {n : Nat} (h : VGs K ns gs sts) : VG K ns (L2.gTup K n gs) (tgT n sts) := by
  intro B AF σ H ρ ρ' Fs v d G S r hB hf e Q q
  unfold tgT at e
  split at e
  · split at e
    · rename_i hl
      cases r with
      | tup ha rl => exact ⟨_, _, rfl, ha, by rw [rl.length]; exact hl, h B AF σ H ρ ρ' Fs _ _ G S rl hB hf e Q q⟩
    · cases e
  · cases e
end

/-! ### what is walked -/
/-- the turns of J give the items ds, as long as the things at C and at F stand -/
structure ItOk (K : PySem.W.Frag) (J : It) (H : Hp) (ds : List PyData) (C : List Addr) : Prop where
  mb : ∀ a ∈ C, Mb (H a) = true
  go : ∀ H', Kp C H H' → ∀ (i : Nat) (d : PyData), ds[i]? = some d → J.go i H' ∧ ∀ x H'', J.yld i H' x H'' → Grow H' H'' ∧ ∃ G, Rp K H'' x d G ∧ ∀ a ∈ G, a ∈ C
  stop : ∀ H', Kp C H H' → ∀ i : Nat, ds.length ≤ i → J.stop i H'
abbrev IF := Env → Option (List PyData × Kd)
def VI (K : PySem.W.Frag) (wi : TI) (f : IF) : Prop := ∀ (B : Hp) (AF : List Addr) (σ : L2.St) (H : Hp) (ρ : Env) (Fs : Nat → List Addr) (ds : List PyData) (k : Kd), SR K B AF σ H ρ Fs → f ρ = some (ds, k) →
  ∀ R : It → Hp → Prop, (∀ J H' C, Grow H H' → ItOk K J H' ds C → (∀ a ∈ C, H a = none ∨ Src ρ Fs k.src a) → R J H') → wi σ H R
/-- over a list, a tuple -/
def iterD : PyData → Option (List PyData)
  | .list ds => some ds
  | .tuple ds => some ds
  | _ => none
def iSeq (f : EF) : IF := fun ρ => (f ρ).bind fun p => (iterD p.1).map fun ds => (ds, p.2)
/-- the reading of a walk over a list or a tuple -/
def iAny (K : PySem.W.Frag) (tl : TE) : TI := fun σ H R => iList K tl σ H R ∨ iTup K tl σ H R
section
variable {K : PySem.W.Frag} {te : TE} {f : EF}
theorem itOk_list {H : Hp} {a : Addr} {xs : List V} {ds : List PyData} {F : List Addr} (h : H a = some (.lst xs)) (r : RpL K H xs ds F) : ItOk K (Itl K a) H ds (a :: F) := by
  have at_ : ∀ H', Kp (a :: F) H H' → H' a = some (.lst xs) := fun H' e => e _ _ h (.inr (List.mem_cons_self ..))
  refine ⟨fun b hb => ?_, fun H' e i d hd => ?_, fun H' e i hi => ⟨xs, .of (at_ H' e), by rw [r.length]; exact hi⟩⟩
  · rcases List.mem_cons.mp hb with rfl | hb
    · rw [h]; rfl
    · exact r.mb b hb
  · obtain ⟨v, A, G, B, h1, h2, h3⟩ := r.get i hd
    refine ⟨⟨xs, v, .of (at_ H' e), h1⟩, fun x H'' ⟨e1, e2⟩ => ?_⟩
    subst e1
    have e3 := e2 xs (.of (at_ _ e))
    rw [h1] at e3
    cases e3
    refine ⟨.refl _, G, h2.kp (e.mono fun b hb => List.mem_cons_of_mem _ ?_), fun b hb => List.mem_cons_of_mem _ ?_⟩ <;>
    · rw [h3]
      exact List.mem_append_right _ (List.mem_append_left _ hb)
theorem itOk_tup {H : Hp} {a : Addr} {xs : List V} {ds : List PyData} {F : List Addr} (h : SqT K H a xs) (r : RpL K H xs ds F) : ItOk K (Itt K a) H ds F := by
  refine ⟨r.mb, fun H' e i d hd => ?_, fun H' e i hi => ⟨xs, e.sqT h, by rw [r.length]; exact hi⟩⟩
  obtain ⟨v, A, G, B, h1, h2, h3⟩ := r.get i hd
  refine ⟨⟨xs, v, e.sqT h, h1⟩, fun x H'' ⟨e1, e2⟩ => ?_⟩
  subst e1
  have e3 := e2 xs (e.sqT h)
  rw [h1] at e3
  cases e3
  refine ⟨.refl _, G, h2.kp (e.mono fun b hb => ?_), fun b hb => ?_⟩ <;>
  · rw [h3]
    exact List.mem_append_right _ (List.mem_append_left _ hb)
theorem vi_seq (h : VE K te f) : VI K (iAny K te) (iSeq f) := by
  intro B AF σ H ρ Fs ds k S e R q
  obtain ⟨⟨d, k1⟩, e1, e2⟩ := Option.bind_eq_some_iff.mp e
  obtain ⟨ds', e3, e4⟩ := Option.map_eq_some_iff.mp e2
  cases e4
  cases d with
  | list xs =>
    cases e3
    refine .inl (h B AF σ H ρ Fs _ _ S e1 _ fun v H1 F g1 r1 o1 => ?_)
    cases r1 with
    | lst ha rl => exact ⟨_, rfl, ⟨_, .of ha⟩, q _ H1 _ g1 (itOk_list ha rl) o1.1.any⟩
  | tuple xs =>
    cases e3
    refine .inr (h B AF σ H ρ Fs _ _ S e1 _ fun v H1 F g1 r1 o1 => ?_)
    cases r1 with
    | tup ha rl => exact ⟨_, rfl, ⟨_, ha⟩, q _ H1 _ g1 (itOk_tup ha rl) o1.1.any⟩
  | none => cases e3
  | bool _ => cases e3
  | int _ => cases e3
  | str _ => cases e3
  | dict _ => cases e3
end
end Va

/-! Va5: list comprehensions. -/
namespace Va
open PySem L2

def zeroE (ρ : Env) : Env := ρ.map fun s => s.map fun p => (p.1, 0)
@[simp] def wipeE (ρ : Env) : List Nat → Env
  | [] => ρ
  | v :: vs => (wipeE ρ vs).set v none
def isMv : Kd → Bool
  | .mv _ => true
  | _ => false
section
variable {K : PySem.W.Frag} {B : Hp} {AF : List Addr} {σ : L2.St} {H : Hp} {ρ : Env} {Fs : Nat → List Addr}
theorem zero_get {i : Nat} {d : PyData} {m : Nat} (h : (zeroE ρ)[i]? = some (some (d, m))) : m = 0 ∧ ∃ n, ρ[i]? = some (some (d, n)) := by
  unfold zeroE at h
  rw [List.getElem?_map] at h
  obtain ⟨s, e1, e2⟩ := Option.map_eq_some_iff.mp h
  cases s with
  | none => cases e2
  | some p =>
    obtain ⟨d', n⟩ := p
    have e3 := Option.some.inj e2
    cases e3
    exact ⟨rfl, n, e1⟩
theorem SR.zero (S : SR K B AF σ H ρ Fs) : SR K B AF σ H (zeroE ρ) Fs := S.less (by unfold zeroE; exact List.length_map ..) fun i d m h => by
  obtain ⟨rfl, n, e⟩ := zero_get h
  exact ⟨n, e, .inr rfl⟩
theorem SR.unset (S : SR K B AF σ H ρ Fs) (i : Nat) {x : Option V} : SR K B AF (σ.set i x) H (ρ.set i none) Fs := by
  refine ⟨by rw [List.length_set, List.length_set]; exact S.len, S.same, fun j e n q => ?_, fun j j' e n e' n' q q' ne a ha => ?_⟩
  · rcases set_some q with ⟨_, z⟩ | ⟨ne, z⟩
    · cases z
    · rw [List.getElem?_set_ne (Ne.symm ne)]
      exact S.val j e n z
  · rcases set_some q with ⟨_, z⟩ | ⟨_, z⟩
    · cases z
    · rcases set_some q' with ⟨_, z'⟩ | ⟨_, z'⟩
      · cases z'
      · exact S.dis j j' e n e' n' z z' ne a ha
theorem SR.wipe (S : SR K B AF σ H ρ Fs) : ∀ vs : List Nat, SR K B AF (L2.wipe σ vs) H (wipeE ρ vs) Fs
  | [] => S
  | v :: vs => (S.wipe vs).unset v
theorem wipeE_get {i : Nat} {s : PyData × Nat} : ∀ {vs : List Nat}, (wipeE ρ vs)[i]? = some (some s) → ρ[i]? = some (some s)
  | [], h => h
  | v :: vs, h => by
    rcases set_some h with ⟨_, z⟩ | ⟨_, z⟩
    · cases z
    · exact wipeE_get z
end

abbrev LcR := List PyData × Bool × List Nat
def lcF (ns : List Nat) (st : SG) (ft : Env → Option Bool) (fe : EF) (ρ : Env) : List PyData → Option LcR
  | [] => some ([], true, [])
  | d :: ds => (st d ρ).bind fun ρ' => (ft ρ').bind fun b => if b = true then
      (fe ρ').bind fun p => (lcF ns st ft fe ρ ds).map fun q => (p.1 :: q.1, isMv p.2 && q.2.1, (p.2.src.filter fun i => !ns.contains i) ++ q.2.2)
    else lcF ns st ft fe ρ ds
def eLc (fi : IF) (ns : List Nat) (st : SG) (ft : Env → Option Bool) (fe : EF) (vs : List Nat) : EF := fun ρ => (fi ρ).bind fun p =>
  if p.1.length ≤ 1000000 then (lcF ns st ft fe (wipeE (zeroE ρ) vs) p.1).map fun q => (.list q.1, if flatL q.1 = true then .mv [] else if q.2.1 = true then .mv [] else .sp (p.2.src ++ q.2.2)) else none

section
variable {K : PySem.W.Frag} {wi : TI} {g : TG} {tt : TT} {te : TE} {fi : IF} {st : SG} {ft : Env → Option Bool} {fe : EF} {ns vs : List Nat}
theorem RpL.snoc {K : PySem.W.Frag} {H : Hp} {us : List V} {ds : List PyData} {F G : List Addr} {v : V} {d : PyData} (r : RpL K H us ds F) (h : Rp K H v d G) : RpL K H (us ++ [v]) (ds ++ [d]) (F ++ G) := by
  have := RpL.app r (.one h)
  exact this
theorem lcF_len {ρ : Env} : ∀ {ds : List PyData} {q : LcR}, lcF ns st ft fe ρ ds = some q → q.1.length ≤ ds.length
  | [], q, h => by cases h; exact Nat.le_refl _
  | d :: ds, q, h => by
    obtain ⟨ρ', e1, h⟩ := Option.bind_eq_some_iff.mp h
    obtain ⟨b, e2, h⟩ := Option.bind_eq_some_iff.mp h
    cases b with
    | true =>
      rw [if_pos rfl] at h
      obtain ⟨p, e3, h⟩ := Option.bind_eq_some_iff.mp h
      obtain ⟨q', e4, h⟩ := Option.map_eq_some_iff.mp h
      subst h
      have := lcF_len e4
      simp only [List.length_cons]
      omega
    | false =>
      rw [if_neg Bool.false_ne_true] at h
      have := lcF_len h
      simp only [List.length_cons]
      omega
/-- the state of a comprehension behind some items: acc made so far; the rest q of what is to come -/
structure LcI (K : PySem.W.Frag) (ρ : Env) (Fs : Nat → List Addr) (H H1 : Hp) (D : Addr) (tot : List PyData) (am : Bool) (L : List Nat) (q : LcR) (H' : Hp) : Prop where
  grow : Grow H1 H'
  ex : ∃ acc out F, H' D = some (.lst acc) ∧ RpL K H' acc out F ∧ tot = out ++ q.1 ∧ D ∉ F ∧ (am = true → q.2.1 = true ∧ F.Nodup ∧ ∀ a ∈ F, H a = none) ∧ (∀ i ∈ q.2.2, i ∈ L) ∧ ∀ a ∈ F, H a = none ∨ Src ρ Fs L a
theorem wipe_sub {σ : L2.St} {vs : List Nat} : ∀ us : List Nat, (∀ i ∈ us, i ∈ vs) → wipe (wipe σ us) vs = wipe σ vs
  | [], _ => rfl
  | u :: us, h => by
    show wipe ((wipe σ us).set u none) vs = wipe σ vs
    rw [wipe_set vs _ (h u (List.mem_cons_self ..))]
    exact wipe_sub us fun i hi => h i (List.mem_cons_of_mem _ hi)
theorem ve_lc (hi : VI K wi fi) (hg : VG K ns g st) (ht : VT K tt ft) (he : VE K te fe) (hv : ∀ i ∈ ns, i ∈ vs) : VE K (tLc wi g tt te vs) (eLc fi ns st ft fe vs) := by
  intro B AF σ H ρ Fs d k S e Q q
  obtain ⟨⟨ds, kc⟩, e1, e⟩ := Option.bind_eq_some_iff.mp e
  split at e
  case isFalse => cases e
  rename_i hz
  obtain ⟨⟨tot, am, L0⟩, e2, e⟩ := Option.map_eq_some_iff.mp e
  cases e
  refine hi B AF σ H ρ Fs ds kc S e1 _ fun J H1 C g1 ok hC D hD => ?_
  have S1 := S.grow g1
  have hD0 : H D = none := g1.back hD
  let L := kc.src ++ L0
  let ρi := wipeE (zeroE ρ) vs
  have Si : ∀ {H2 : Hp}, Grow H1 H2 → SR K B AF (wipe σ vs) H2 ρi Fs := fun g2 => ((S1.grow g2).zero).wipe vs
  have frI : ∀ G : List Addr, Free ρi Fs G := fun G i d m h a ha => by
    obtain ⟨rfl, _⟩ := zero_get (wipeE_get h)
    rw [Mf0] at ha; cases ha
  have inv : ∀ {i : Nat} {H2 : Hp}, Grow (upd H1 D (.lst [])) H2 → Grow H1 H2 := fun h => (Grow.new hD).trans h
  refine ⟨fun i m H' => m = ds.length - i ∧ i ≤ ds.length ∧ ∃ qr, lcF ns st ft fe ρi (ds.drop i) = some qr ∧ LcI K ρ Fs H H1 D tot am L qr H', ⟨ds.length, by simp, Nat.zero_le _, (tot, am, L0), e2, ?_⟩, ?_⟩
  · exact ⟨.new hD, [], [], [], upd_same, .nil, rfl, fun z => (nomatch z), fun z => ⟨z, List.nodup_nil, fun a h => nomatch h⟩, fun i hi => List.mem_append_right _ hi, fun a h => nomatch h⟩
  rintro i m H' ⟨rfl, hil, qr, eq, I⟩
  have kpC : Kp C H1 H' := I.grow.kp
  obtain ⟨acc, out, F, hDa, racc, etot, hDF, ham, hL, hF⟩ := I.ex
  by_cases hlt : i < ds.length
  · obtain ⟨dd, hdd⟩ : ∃ dd, ds[i]? = some dd := ⟨ds[i], List.getElem?_eq_getElem hlt⟩
    obtain ⟨go, yl⟩ := ok.go H' kpC i dd hdd
    have edrop : ds.drop i = dd :: ds.drop (i + 1) := by
      rw [List.drop_eq_getElem_cons hlt]
      rw [List.getElem?_eq_getElem hlt] at hdd
      rw [Option.some.inj hdd]
    rw [edrop] at eq
    obtain ⟨ρ2, a1, eq⟩ := Option.bind_eq_some_iff.mp eq
    obtain ⟨b, a2, eq⟩ := Option.bind_eq_some_iff.mp eq
    refine .inr ⟨go, fun H2 => ∃ qr, lcF ns st ft fe ρi (ds.drop (i + 1)) = some qr ∧ LcI K ρ Fs H H1 D tot am L qr H2, fun H2 ⟨qr2, b1, b2⟩ => ⟨ds.length - (i + 1), by omega, rfl, by omega, qr2, b1, b2⟩, fun x H2 hy => ?_⟩
    obtain ⟨g2, G, rx, hG⟩ := yl x H2 hy
    have g12 : Grow H1 H2 := I.grow.trans g2
    have tr : ∀ {σ2 : L2.St} {Fs2 : Nat → List Addr}, Tg ns G (wipe σ vs) ρi Fs σ2 ρ2 Fs2 → ∀ {M : List Nat} {a : Addr}, Src ρ2 Fs2 M a → Src ρ Fs (kc.src ++ M.filter fun i => !ns.contains i) a ∨ (H a = none ∧ a ∈ C) := by
      intro σ2 Fs2 T2 M a ⟨j, hj, ⟨d', m', z⟩, ma⟩
      by_cases hn : j ∈ ns
      · rcases hC a (hG a ((T2.ins j hn d' m' z).2 a ma)) with y | y
        · exact .inr ⟨y, hG a ((T2.ins j hn d' m' (by assumption)).2 a ma)⟩
        · exact .inl (y.mono fun i hi => List.mem_append_left _ hi)
      · obtain ⟨_, h2, h3⟩ := T2.out j hn
        rw [h2] at z
        rw [h3] at ma
        obtain ⟨_, n, z⟩ := zero_get (wipeE_get z)
        refine .inl ⟨j, List.mem_append_right _ (List.mem_filter.mpr ⟨hj, by simpa using hn⟩), ⟨d', n, z⟩, ma⟩
    have nw : ∀ {σ2 : L2.St} {Fs2 : Nat → List Addr}, Tg ns G (wipe σ vs) ρi Fs σ2 ρ2 Fs2 → ∀ {M : List Nat} {a : Addr}, Src2 ρ2 Fs2 M a → False := by
      intro σ2 Fs2 T2 M a ⟨j, hj, ⟨d', z⟩, ma⟩
      by_cases hn : j ∈ ns
      · have := (T2.ins j hn d' 2 z).1
        have e : Mf 2 (Fs2 j) = Fs2 j := rfl
        rw [e] at this
        rw [this] at ma
        cases ma
      · obtain ⟨_, h2, h3⟩ := T2.out j hn
        rw [h2] at z
        obtain ⟨z, _⟩ := zero_get (wipeE_get z)
        cases z
    refine hg B AF (wipe σ vs) H2 ρi ρ2 Fs x dd G (Si g12) rx (fun a ha => ?_) (frI G) a1 _ fun σ2 Fs2 S2 T2 => ⟨(T2.wip vs hv).trans (wipe_sub vs fun _ h => h), ?_⟩
    · rcases hC a (hG a ha) with z | ⟨j, hj, ⟨d', m', z⟩, ma⟩
      · exact .inl (S.same.back z)
      · obtain ⟨_, _, _, h3, _⟩ := S.val j d' m' z
        exact h3 a ma
    · refine ht B AF σ2 H2 ρ2 Fs2 b S2 a2 _ fun H3 g3 => ?_
      have g13 := g12.trans g3
      have gp : Grow H' H3 := g2.trans g3
      cases b with
      | false =>
        rw [if_neg Bool.false_ne_true] at eq ⊢
        exact ⟨qr, eq, g13, acc, out, F, gp _ _ hDa, racc.grow gp, etot, hDF, ham, hL, hF⟩
      | true =>
        rw [if_pos rfl] at eq ⊢
        obtain ⟨⟨dy, ky⟩, a3, eq⟩ := Option.bind_eq_some_iff.mp eq
        obtain ⟨q2, a4, eq⟩ := Option.map_eq_some_iff.mp eq
        subst eq
        refine he B AF σ2 H3 ρ2 Fs2 dy ky (S2.grow g3) a3 _ fun y H4 Gy g4 ry oy => ?_
        have g14 := g13.trans g4
        have gq : Grow H' H4 := gp.trans g4
        have hD4 : H4 D = some (.lst acc) := gq _ _ hDa
        have hlen : acc.length < sizeLine := by
          have h1 := racc.length
          have h2 : out.length + (1 + q2.1.length) = tot.length := by
            rw [etot, List.length_append, List.length_cons]; omega
          have h3 := lcF_len e2
          simp only at h3 hz
          exact lt_line (by omega)
        have DGy : D ∉ Gy := fun hm => by
          rcases oy.1.any D hm with z | z
          · rw [gp _ _ hDa] at z
            cases z
          · rcases tr T2 z with ⟨j, _, ⟨d', m', w⟩, ma⟩ | z
            · exact S.there w ma hD0
            · have := ok.mb D z.2
              rw [hD] at this; cases this
        refine ⟨acc, hD4, hlen, q2, a4, fun c o ho => ?_, acc ++ [y], out ++ [dy], F ++ Gy, upd_same, ?_, by rw [etot, List.append_assoc]; rfl, ?_, ?_, ?_, ?_⟩
        · have : c ≠ D := by
            rintro rfl
            rw [hD] at ho; cases ho
          rw [upd_ne this]
          exact g14 _ _ ho
        · have mb : Mb (H4 D) = true := by rw [hD4]; rfl
          exact ((racc.grow gq).snoc ry).kp (.upd mb fun z => (List.mem_append.mp z).elim hDF DGy)
        · exact fun z => (List.mem_append.mp z).elim hDF DGy
        · intro z
          obtain ⟨y1, y2, y3⟩ := ham z
          rw [Bool.and_eq_true] at y1
          obtain ⟨y1, y4⟩ := y1
          refine ⟨y4, ?_, ?_⟩
          · cases ky with
            | sp M => cases y1
            | bo M => cases y1
            | mv M =>
              have o1 := oy.1
              refine List.nodup_append.mpr ⟨y2, o1.1, fun a ha b hb z => ?_⟩
              subst z
              rcases o1.2 a hb with z | z
              · exact racc.stn ha (gp.back z)
              · exact nw T2 z
          · cases ky with
            | sp M => cases y1
            | bo M => cases y1
            | mv M =>
              have o1 := oy.1
              intro a ha
              rcases List.mem_append.mp ha with ha | ha
              · exact y3 a ha
              · rcases o1.2 a ha with z | z
                · exact g1.back (g13.back z)
                · exact (nw T2 z).elim
        · exact fun i hi => hL i (List.mem_append_right _ hi)
        · intro a ha
          rcases List.mem_append.mp ha with ha | ha
          · exact hF a ha
          · rcases oy.1.any a ha with z | z
            · exact .inl (g1.back (g13.back z))
            · rcases tr T2 z with w | w
              · refine .inr (w.mono fun i hi => ?_)
                rcases List.mem_append.mp hi with hi | hi
                · exact List.mem_append_left _ hi
                · exact hL i (List.mem_append_left _ hi)
              · exact .inl w.1
  · have e3 : i = ds.length := by omega
    subst e3
    rw [List.drop_length] at eq
    cases eq
    refine .inl ⟨ok.stop H' kpC _ (Nat.le_refl _), ?_⟩
    rw [List.append_nil] at etot
    subst etot
    refine q _ H' (D :: F) (g1.trans I.grow) (.lst hDa racc) ?_
    split
    · rename_i hf
      rw [racc.flat hf]
      exact .mv ⟨by simp, fun a ha => by rcases List.mem_singleton.mp ha with rfl; exact .inl hD0⟩
    · split
      · rename_i hm
        obtain ⟨_, y2, y3⟩ := ham hm
        refine .mv ⟨List.nodup_cons.mpr ⟨hDF, y2⟩, fun a ha => ?_⟩
        rcases List.mem_cons.mp ha with rfl | ha
        · exact .inl hD0
        · exact .inl (y3 a ha)
      · refine ⟨fun a ha => ?_, fun _ _ => ⟨D, F, rfl, rfl, hDF, hD0⟩⟩
        rcases List.mem_cons.mp ha with rfl | ha
        · exact .inl hD0
        · exact hF a ha
end
end Va

/-! Va6: statements. -/
namespace Va
open PySem L2

inductive Out where
  | nx (ρ : Env) | rt (d : PyData) (r : Nat) | bk (ρ : Env) | ct (ρ : Env) | ex (c : Str) (fs : List PyData)
abbrev SF := Env → Option Out
/-- what changed: only what the slots wr alone could write, and what is new -/
structure Fr (wr : List Nat) (σ : L2.St) (H : Hp) (ρ : Env) (Fs : Nat → List Addr) (σ' : L2.St) (H' : Hp) (ρ' : Env) (Fs' : Nat → List Addr) : Prop where
  dom : ∀ a, H' a = none → H a = none
  keep : ∀ a o, H a = some o → (∀ i ∈ wr, ∀ d m, ρ[i]? = some (some (d, m)) → a ∉ Mf m (Fs i)) → H' a = some o
  own : ∀ (j : Nat), j ∈ wr → ∀ (d : PyData) (m : Nat), ρ'[j]? = some (some (d, m)) → ∀ a ∈ Mf m (Fs' j), H a = none ∨ ∃ i ∈ wr, ∃ d m, ρ[i]? = some (some (d, m)) ∧ a ∈ Mf m (Fs i)
  oth : ∀ j : Nat, j ∉ wr → σ'[j]? = σ[j]? ∧ ∀ (d : PyData) (m : Nat), ρ'[j]? = some (some (d, m)) → ∃ m0, ρ[j]? = some (some (d, m0)) ∧ Fs' j = Fs j ∧ ∀ a ∈ Mf m (Fs j), a ∈ Mf m0 (Fs j)
/-- how a returned value lies: r = 2 all its lists are new, 1 the top one is -/
def ROk (r : Nat) (B : Hp) (AF : List Addr) (v : V) (G : List Addr) : Prop :=
  (∀ a ∈ G, B a = none ∨ a ∈ AF) ∧ (r = 2 → G.Nodup ∧ ∀ a ∈ G, B a = none) ∧ (r = 1 → ∃ p G', v = .ref p ∧ G = p :: G' ∧ p ∉ G' ∧ B p = none)
abbrev WxT := Str → List PyData → L2.St → Hp → Prop
def PNx (K : PySem.W.Frag) (B : Hp) (AF : List Addr) (wr : List Nat) (σ : L2.St) (H : Hp) (ρ : Env) (Fs : Nat → List Addr) (ρ' : Env) (C : L2.St → Hp → Prop) : Prop :=
  ∀ σ' H' Fs', SR K B AF σ' H' ρ' Fs' → Fr wr σ H ρ Fs σ' H' ρ' Fs' → C σ' H'
def Post (K : PySem.W.Frag) (Wx : WxT) (B : Hp) (AF : List Addr) (wr : List Nat) (σ : L2.St) (H : Hp) (ρ : Env) (Fs : Nat → List Addr) (D : Ends) : Out → Prop
  | .nx ρ' => PNx K B AF wr σ H ρ Fs ρ' D.nx
  | .bk ρ' => PNx K B AF wr σ H ρ Fs ρ' D.bk
  | .ct ρ' => PNx K B AF wr σ H ρ Fs ρ' D.ct
  | .rt d r => ∀ v H' G, Grow B H' → Rp K H' v d G → ROk r B AF v G → D.rt v H'
  | .ex c fs => ∀ σ' H', Grow B H' → Wx c fs σ' H'
/-- a statement's reading does what f tells -/
def VS (K : PySem.W.Frag) (Wx : WxT) (wr : List Nat) (ts : TS) (f : SF) : Prop := ∀ (B : Hp) (AF : List Addr) (σ : L2.St) (H : Hp) (ρ : Env) (Fs : Nat → List Addr) (o : Out), SR K B AF σ H ρ Fs → f ρ = some o →
  ∀ D : Ends, Post K Wx B AF wr σ H ρ Fs D o → ts D σ H

theorem Mf_le {m m0 : Nat} {F : List Addr} {a : Addr} (h : m = m0 ∨ m = 0) (ha : a ∈ Mf m F) : a ∈ Mf m0 F := by
  rcases h with rfl | rfl
  · exact ha
  · rw [Mf0] at ha; cases ha
section
variable {K : PySem.W.Frag} {Wx : WxT} {B : Hp} {AF : List Addr} {wr wr' : List Nat} {σ σ' σ2 : L2.St} {H H' H2 : Hp} {ρ ρ' ρ2 : Env} {Fs Fs' Fs2 : Nat → List Addr}
theorem Fr.grow (g : Grow H H') : Fr wr σ H ρ Fs σ H' ρ Fs :=
  ⟨fun a h => g.back h, fun a o h _ => g a o h, fun j hj d m h a ha => .inr ⟨j, hj, d, m, h, ha⟩, fun j hj => ⟨rfl, fun d m h => ⟨m, h, rfl, fun _ h => h⟩⟩⟩
theorem Fr.mono (h : Fr wr σ H ρ Fs σ' H' ρ' Fs') (s : ∀ i ∈ wr, i ∈ wr') : Fr wr' σ H ρ Fs σ' H' ρ' Fs' := by
  refine ⟨h.dom, fun a o e k => h.keep a o e fun i hi => k i (s i hi), fun j hj d m e a ha => ?_, fun j hj => h.oth j fun z => hj (s j z)⟩
  by_cases hw : j ∈ wr
  · exact (h.own j hw d m e a ha).imp id fun ⟨i, hi, q⟩ => ⟨i, s i hi, q⟩
  · obtain ⟨_, h2⟩ := h.oth j hw
    obtain ⟨m0, h3, h4, h5⟩ := h2 d m e
    exact .inr ⟨j, hj, d, m0, h3, h5 a (h4 ▸ ha)⟩
theorem Fr.trans (h : Fr wr σ H ρ Fs σ' H' ρ' Fs') (k : Fr wr' σ' H' ρ' Fs' σ2 H2 ρ2 Fs2) : Fr (wr ++ wr') σ H ρ Fs σ2 H2 ρ2 Fs2 := by
  have back : ∀ i ∈ wr ++ wr', ∀ (d : PyData) (m : Nat), ρ'[i]? = some (some (d, m)) → ∀ a ∈ Mf m (Fs' i), H a = none ∨ ∃ i ∈ wr ++ wr', ∃ d m, ρ[i]? = some (some (d, m)) ∧ a ∈ Mf m (Fs i) := fun i hi d m e a ha => by
    by_cases hw : i ∈ wr
    · exact (h.own i hw d m e a ha).imp id fun ⟨i, hi, q⟩ => ⟨i, List.mem_append_left _ hi, q⟩
    · obtain ⟨_, h2⟩ := h.oth i hw
      obtain ⟨m0, h3, h4, h5⟩ := h2 d m e
      exact .inr ⟨i, hi, d, m0, h3, h5 a (h4 ▸ ha)⟩
  refine ⟨fun a e => h.dom a (k.dom a e), fun a o e kk => ?_, fun j hj d m e a ha => ?_, fun j hj => ?_⟩
  · refine k.keep a o (h.keep a o e fun i hi => kk i (List.mem_append_left _ hi)) fun i hi d m e2 ha => ?_
    rcases back i (List.mem_append_right _ hi) d m e2 a ha with z | ⟨l, hl, d', m', z, ma⟩
    · rw [e] at z; cases z
    · exact kk l hl d' m' z ma
  · by_cases hw : j ∈ wr'
    · rcases k.own j hw d m e a ha with z | ⟨i, hi, d', m', z, ma⟩
      · exact .inl (h.dom a z)
      · exact back i (List.mem_append_right _ hi) d' m' z a ma
    · obtain ⟨_, h2⟩ := k.oth j hw
      obtain ⟨m0, h3, h4, h5⟩ := h2 d m e
      exact back j hj d m0 h3 a (h5 a (h4 ▸ ha))
  · obtain ⟨a1, a2⟩ := h.oth j fun z => hj (List.mem_append_left _ z)
    obtain ⟨b1, b2⟩ := k.oth j fun z => hj (List.mem_append_right _ z)
    refine ⟨b1.trans a1, fun d m e => ?_⟩
    obtain ⟨m0, c1, c2, c3⟩ := b2 d m e
    obtain ⟨m1, d1, d2, d3⟩ := a2 d m0 c1
    refine ⟨m1, d1, c2.trans d2, fun a ha => ?_⟩
    rw [d2] at c3
    exact d3 a (c3 a ha)
/-- behind a change of modes alone -/
theorem Fr.less (hρ : ∀ (i : Nat) (d : PyData) (m : Nat), ρ'[i]? = some (some (d, m)) → ∃ m0, ρ[i]? = some (some (d, m0)) ∧ (m = m0 ∨ m = 0)) : Fr wr σ H ρ Fs σ H ρ' Fs := by
  refine ⟨fun a h => h, fun a o h _ => h, fun j hj d m e a ha => ?_, fun j hj => ⟨rfl, fun d m e => ?_⟩⟩
  · obtain ⟨m0, h1, h2⟩ := hρ j d m e
    exact .inr ⟨j, hj, d, m0, h1, Mf_le h2 ha⟩
  · obtain ⟨m0, h1, h2⟩ := hρ j d m e
    exact ⟨m0, h1, rfl, fun a ha => Mf_le h2 ha⟩
/-- another start: fewer modes were told there, and less stood -/
theorem Fr.from_ (h : Fr wr σ H' ρ' Fs σ2 H2 ρ2 Fs2) (g : Grow H H') (hρ : ∀ (i : Nat) (d : PyData) (m : Nat), ρ'[i]? = some (some (d, m)) → ∃ m0, ρ[i]? = some (some (d, m0)) ∧ (m = m0 ∨ m = 0)) : Fr wr σ H ρ Fs σ2 H2 ρ2 Fs2 := by
  have := (Fr.grow (wr := wr) (σ := σ) (ρ := ρ) (Fs := Fs) g).trans ((Fr.less (wr := wr) (σ := σ) (H := H') (Fs := Fs) hρ).trans h)
  exact this.mono fun i hi => by simpa using hi
end

/-! ### blocks -/
def sNext : SF := fun ρ => some (.nx ρ)
def sSeq (f g : SF) : SF := fun ρ => (f ρ).bind fun o => match o with
  | .nx ρ' => g ρ'
  | o => some o
def sIf (c : Env → Option Bool) (f g : SF) : SF := fun ρ => (c ρ).bind fun b => if b = true then f ρ else g ρ
def rk : Kd → Nat
  | .mv _ => 2
  | .sp _ => 1
  | .bo _ => 0
def sRet (f : EF) : SF := fun ρ => (f ρ).map fun p => .rt p.1 (rk p.2)
def sRetN : SF := fun _ => some (.rt .none 2)
def sBreak : SF := fun ρ => some (.bk ρ)
def sCont : SF := fun ρ => some (.ct ρ)
def sDrop (f : EF) : SF := fun ρ => (f ρ).map fun _ => .nx ρ
section
variable {K : PySem.W.Frag} {Wx : WxT} {wr wr' : List Nat} {t u : TS} {f g : SF} {te : TE} {fe : EF} {tc : TT} {fc : Env → Option Bool}
theorem vs_next : VS K Wx wr tNext sNext := by
  intro B AF σ H ρ Fs o S e D p
  cases e
  exact p σ H Fs S (Fr.grow (.refl H))
theorem vs_break : VS K Wx wr tBreak sBreak := by
  intro B AF σ H ρ Fs o S e D p
  cases e
  exact p σ H Fs S (Fr.grow (.refl H))
theorem vs_cont : VS K Wx wr tCont sCont := by
  intro B AF σ H ρ Fs o S e D p
  cases e
  exact p σ H Fs S (Fr.grow (.refl H))
theorem Post.mono {B : Hp} {AF : List Addr} {σ : L2.St} {H : Hp} {ρ : Env} {Fs : Nat → List Addr} {D : Ends} {o : Out} (p : Post K Wx B AF wr' σ H ρ Fs D o) (s : ∀ i ∈ wr, i ∈ wr') : Post K Wx B AF wr σ H ρ Fs D o := by
  cases o with
  | nx ρ' => exact fun σ' H' Fs' S F => p σ' H' Fs' S (F.mono s)
  | bk ρ' => exact fun σ' H' Fs' S F => p σ' H' Fs' S (F.mono s)
  | ct ρ' => exact fun σ' H' Fs' S F => p σ' H' Fs' S (F.mono s)
  | rt d r => exact p
  | ex c fs => exact p
theorem VS.mono (h : VS K Wx wr t f) (s : ∀ i ∈ wr, i ∈ wr') : VS K Wx wr' t f := fun B AF σ H ρ Fs o S e D p => h B AF σ H ρ Fs o S e D (p.mono s)
theorem Post.pre {wq : List Nat} {B : Hp} {AF : List Addr} {σ σ1 : L2.St} {H H1 : Hp} {ρ ρ1 : Env} {Fs Fs1 : Nat → List Addr} {D : Ends} {o : Out} (p : Post K Wx B AF wq σ H ρ Fs D o) (F : Fr wr σ H ρ Fs σ1 H1 ρ1 Fs1) (s : ∀ i ∈ wr ++ wr', i ∈ wq) : Post K Wx B AF wr' σ1 H1 ρ1 Fs1 D o := by
  cases o with
  | nx ρ' => exact fun σ' H' Fs' S G => p σ' H' Fs' S ((F.trans G).mono s)
  | bk ρ' => exact fun σ' H' Fs' S G => p σ' H' Fs' S ((F.trans G).mono s)
  | ct ρ' => exact fun σ' H' Fs' S G => p σ' H' Fs' S ((F.trans G).mono s)
  | rt d r => exact p
  | ex c fs => exact p
theorem vs_seq (h1 : VS K Wx wr t f) (h2 : VS K Wx wr' u g) : VS K Wx (wr ++ wr') (tSeq t u) (sSeq f g) := by
  intro B AF σ H ρ Fs o S e D p
  obtain ⟨o1, e1, e2⟩ := Option.bind_eq_some_iff.mp e
  refine h1 B AF σ H ρ Fs o1 S e1 _ ?_
  cases o1 with
  | nx ρ1 => exact fun σ1 H1 Fs1 S1 F1 => h2 B AF σ1 H1 ρ1 Fs1 o S1 e2 D (p.pre F1 fun _ h => h)
  | bk ρ1 => cases e2; exact fun σ1 H1 Fs1 S1 F1 => p σ1 H1 Fs1 S1 (F1.mono fun i hi => List.mem_append_left _ hi)
  | ct ρ1 => cases e2; exact fun σ1 H1 Fs1 S1 F1 => p σ1 H1 Fs1 S1 (F1.mono fun i hi => List.mem_append_left _ hi)
  | rt d r => cases e2; exact p
  | ex c fs => cases e2; exact p
theorem vs_if (hc : VT K tc fc) (h1 : VS K Wx wr t f) (h2 : VS K Wx wr' u g) : VS K Wx (wr ++ wr') (tIfS tc t u) (sIf fc f g) := by
  intro B AF σ H ρ Fs o S e D p
  obtain ⟨b, e1, e2⟩ := Option.bind_eq_some_iff.mp e
  refine hc B AF σ H ρ Fs b S e1 _ fun H1 g1 => ?_
  cases b with
  | true => exact h1 B AF σ H1 ρ Fs o (S.grow g1) e2 D (p.pre (Fr.grow (wr := []) g1) fun i hi => List.mem_append_left _ hi)
  | false => exact h2 B AF σ H1 ρ Fs o (S.grow g1) e2 D (p.pre (Fr.grow (wr := []) g1) fun i hi => List.mem_append_right _ hi)
theorem vs_drop (h : VE K te fe) : VS K Wx wr (tDrop te) (sDrop fe) := by
  intro B AF σ H ρ Fs o S e D p
  obtain ⟨⟨d, k⟩, e1, e2⟩ := Option.map_eq_some_iff.mp e
  subst e2
  exact h B AF σ H ρ Fs d k S e1 _ fun v H1 F g1 r1 o1 => p σ H1 Fs (S.grow g1) (Fr.grow g1)
theorem rok_of {B : Hp} {AF : List Addr} {σ : L2.St} {H : Hp} {ρ : Env} {Fs : Nat → List Addr} {v : V} {F : List Addr} {k : Kd} (S : SR K B AF σ H ρ Fs) (o : KV ρ Fs H v F k) : ROk (rk k) B AF v F := by
  refine ⟨fun a ha => ?_, fun z => ?_, fun z => ?_⟩
  · rcases o.1.any a ha with y | ⟨i, _, ⟨d, m, y⟩, ma⟩
    · exact .inl (S.same.back y)
    · obtain ⟨_, _, _, h3, _⟩ := S.val i d m y
      exact h3 a ma
  · cases k with
    | sp L => cases z
    | bo L => cases z
    | mv L =>
      refine ⟨o.1.1, fun a ha => ?_⟩
      rcases o.1.2 a ha with y | ⟨i, _, ⟨d, y⟩, ma⟩
      · exact S.same.back y
      · obtain ⟨_, _, _, _, h3⟩ := S.val i d 2 y
        exact h3.1 a ma
  · cases k with
    | mv L => cases z
    | bo L => cases z
    | sp L =>
      obtain ⟨p, G, h1, h2, h3, h4⟩ := o.2 L rfl
      exact ⟨p, G, h1, h2, h3, S.same.back h4⟩
theorem vs_ret (h : VE K te fe) : VS K Wx wr (tRet te) (sRet fe) := by
  intro B AF σ H ρ Fs o S e D p
  obtain ⟨⟨d, k⟩, e1, e2⟩ := Option.map_eq_some_iff.mp e
  subst e2
  exact h B AF σ H ρ Fs d k S e1 _ fun v H1 F g1 r1 o1 => p v H1 F (S.same.trans g1) r1 (rok_of S o1)
theorem vs_retN : VS K Wx wr tRetN sRetN := by
  intro B AF σ H ρ Fs o S e D p
  cases e
  exact p .non H [] S.same .non ⟨fun a h => (nomatch h), fun _ => ⟨List.nodup_nil, fun a h => (nomatch h)⟩, fun z => nomatch z⟩
end

/-! ### slots given away -/
def kil (L : List Nat) (ρ : Env) : Env := wipeE ρ L
@[simp] def demS : Sl → Sl
  | some (d, _) => some (d, 0)
  | none => none
def dem (L : List Nat) (ρ : Env) : Env := match L with
  | [] => ρ
  | i :: L => (dem L ρ).modify i demS
theorem wipeE_len {ρ : Env} : ∀ vs : List Nat, (wipeE ρ vs).length = ρ.length
  | [] => rfl
  | v :: vs => by
    show ((wipeE ρ vs).set v none).length = _
    rw [List.length_set]
    exact wipeE_len vs
theorem dem_len {ρ : Env} : ∀ L : List Nat, (dem L ρ).length = ρ.length
  | [] => rfl
  | i :: L => by
    show ((dem L ρ).modify i demS).length = _
    rw [List.length_modify]
    exact dem_len L
theorem wipeE_not {ρ : Env} {i : Nat} {s : PyData × Nat} : ∀ {vs : List Nat}, (wipeE ρ vs)[i]? = some (some s) → i ∉ vs
  | [], _ => fun h => nomatch h
  | v :: vs, h => by
    rcases set_some h with ⟨_, z⟩ | ⟨ne, z⟩
    · cases z
    · intro hm
      rcases List.mem_cons.mp hm with rfl | hm
      · exact ne rfl
      · exact wipeE_not z hm
theorem dem_get {ρ : Env} {i : Nat} {d : PyData} {m : Nat} : ∀ {L : List Nat}, (dem L ρ)[i]? = some (some (d, m)) → ∃ m0, ρ[i]? = some (some (d, m0)) ∧ (m = m0 ∨ m = 0) ∧ (i ∈ L → m = 0)
  | [], h => ⟨m, h, .inl rfl, fun z => nomatch z⟩
  | j :: L, h => by
    have h' : ((dem L ρ).modify j demS)[i]? = some (some (d, m)) := h
    rw [List.getElem?_modify] at h'
    obtain ⟨s, e1, e2⟩ := Option.map_eq_some_iff.mp h'
    by_cases e : j = i
    · rw [if_pos e] at e2
      cases s with
      | none => cases e2
      | some p =>
        obtain ⟨d', n⟩ := p
        cases e2
        obtain ⟨m0, h1, _, _⟩ := dem_get (L := L) e1
        exact ⟨m0, h1, .inr rfl, fun _ => rfl⟩
    · rw [if_neg e] at e2
      have e3 : s = some (d, m) := e2
      subst e3
      obtain ⟨m0, h1, h2, h3⟩ := dem_get (L := L) e1
      exact ⟨m0, h1, h2, fun z => h3 ((List.mem_cons.mp z).resolve_left fun q => e q.symm)⟩
end Va

/-! Va7: stores. -/
namespace Va
open PySem L2

/-- a value of the kind k is given to a slot (or into a list): what the other slots have from then on, and its mode -/
def giv (kl : List Nat) (k : Kd) (ρ : Env) : Env × Nat := match k with
  | .mv L => if L.all kl.contains = true then (kil L ρ, 2) else (dem L ρ, 0)
  | .sp L => (dem L ρ, 1)
  | .bo L => (dem L ρ, 0)
structure GivOk (B : Hp) (AF : List Addr) (H : Hp) (ρ : Env) (Fs : Nat → List Addr) (v : V) (F : List Addr) (kl : List Nat) (ρ1 : Env) (m : Nat) : Prop where
  len : ρ1.length = ρ.length
  less : ∀ (i : Nat) (d : PyData) (n : Nat), ρ1[i]? = some (some (d, n)) → ∃ n0, ρ[i]? = some (some (d, n0)) ∧ (n = n0 ∨ n = 0)
  a : ∀ (j : Nat) (e : PyData) (n : Nat), ρ1[j]? = some (some (e, n)) → ∀ a ∈ Mf n (Fs j), a ∉ F
  b : ∀ (j : Nat) (e : PyData) (n : Nat), ρ1[j]? = some (some (e, n)) → ∀ a ∈ Mf m F, a ∉ Fs j
  c : Own B v m F
  d : ∀ a ∈ F, B a = none ∨ a ∈ AF
  e : ∀ a ∈ Mf m F, H a = none ∨ ∃ i ∈ kl, ∃ (d : PyData) (n : Nat), ρ[i]? = some (some (d, n)) ∧ a ∈ Mf n (Fs i)
section
variable {K : PySem.W.Frag} {Wx : WxT} {B : Hp} {AF : List Addr} {σ : L2.St} {H H' : Hp} {ρ : Env} {Fs : Nat → List Addr} {v : V} {F : List Addr} {k : Kd} {kl wr : List Nat}
theorem giv_ok (S : SR K B AF σ H ρ Fs) (o : KV ρ Fs H v F k) : GivOk B AF H ρ Fs v F kl (giv kl k ρ).1 (giv kl k ρ).2 := by
  have hd : ∀ a ∈ F, B a = none ∨ a ∈ AF := (rok_of S o).1
  have noo : ∀ {a : Addr}, H a = none → ∀ (j : Nat) (e : PyData) (n : Nat), ρ[j]? = some (some (e, n)) → a ∉ Fs j := fun z j e n q m => S.there q m z
  -- lenders have nothing of their own left
  have dm : ∀ L, (∀ i ∈ k.src, i ∈ L) → ∀ (j : Nat) (e : PyData) (n : Nat), (dem L ρ)[j]? = some (some (e, n)) → ∀ a ∈ Mf n (Fs j), a ∉ F := fun L hL j e n q a ha hF => by
    obtain ⟨n0, q0, q1, q2⟩ := dem_get q
    rcases o.1.any a hF with z | ⟨l, hl, ⟨d', m', z⟩, ma⟩
    · exact noo z j e n0 q0 (Mf_sub ha)
    · by_cases e' : j = l
      · subst e'
        rw [q2 (hL j hl), Mf0] at ha; cases ha
      · exact S.dis j l e n0 d' m' q0 z e' a (Mf_le q1 ha) ma
  have z0 : GivOk B AF H ρ Fs v F kl (dem k.src ρ) 0 := ⟨dem_len _, fun i d n q => let ⟨n0, q0, q1, _⟩ := dem_get q; ⟨n0, q0, q1⟩, dm k.src fun i hi => hi, fun j e n q a ha => (by rw [Mf0] at ha; cases ha), .zero, hd, fun a ha => (by rw [Mf0] at ha; cases ha)⟩
  cases k with
  | bo L => exact z0
  | sp L =>
    obtain ⟨p, G, h1, h2, h3, h4⟩ := o.2 L rfl
    have e1 : Mf 1 F = [p] := by rw [h2]; rfl
    refine ⟨z0.len, z0.less, z0.a, fun j e n q a ha => ?_, ⟨fun a ha => ?_, fun _ => ⟨p, G, h1, h2, h3⟩, fun z => nomatch z⟩, hd, fun a ha => ?_⟩
    · have ha' : a ∈ Mf 1 F := ha
      rw [e1] at ha'
      obtain rfl := List.mem_singleton.mp ha'
      obtain ⟨n0, q0, _⟩ := dem_get q
      exact noo h4 j e n0 q0
    · have ha' : a ∈ Mf 1 F := ha
      rw [e1] at ha'
      obtain rfl := List.mem_singleton.mp ha'
      exact S.same.back h4
    · have ha' : a ∈ Mf 1 F := ha
      rw [e1] at ha'
      obtain rfl := List.mem_singleton.mp ha'
      exact .inl h4
  | mv L =>
    show GivOk B AF H ρ Fs v F kl (if L.all kl.contains = true then (kil L ρ, 2) else (dem L ρ, 0)).1 (if L.all kl.contains = true then (kil L ρ, 2) else (dem L ρ, 0)).2
    by_cases hk : L.all kl.contains = true
    · rw [if_pos hk]
      have o1 := o.1
      refine ⟨wipeE_len _, fun i d n q => ⟨n, wipeE_get q, .inl rfl⟩, fun j e n q a ha hF => ?_, fun j e n q a ha hj => ?_, ⟨fun a ha => ?_, fun z => (nomatch z), fun _ => o1.1⟩, hd, fun a ha => ?_⟩
      · have q0 := wipeE_get q
        rcases o1.2 a hF with z | ⟨l, hl, ⟨d', z⟩, ma⟩
        · exact noo z j e n q0 (Mf_sub ha)
        · have ne : j ≠ l := fun y => wipeE_not q (y ▸ hl)
          exact S.dis j l e n d' 2 q0 z ne a ha ma
      · have q0 := wipeE_get q
        rcases o1.2 a ha with z | ⟨l, hl, ⟨d', z⟩, ma⟩
        · exact noo z j e n q0 hj
        · have ne : l ≠ j := fun y => wipeE_not q (y ▸ hl)
          exact S.dis l j d' 2 e n z q0 ne a ma hj
      · rcases o1.2 a ha with z | ⟨l, hl, ⟨d', z⟩, ma⟩
        · exact S.same.back z
        · obtain ⟨_, _, _, _, h⟩ := S.val l d' 2 z
          exact h.1 a ma
      · rcases o1.2 a ha with z | ⟨l, hl, ⟨d', z⟩, ma⟩
        · exact .inl z
        · exact .inr ⟨l, List.contains_iff_mem.mp (List.all_eq_true.mp hk l hl), d', 2, z, ma⟩
    · rw [if_neg hk]
      exact z0

/-- name = value -/
def sSet (kl : List Nat) (i : Nat) (f : EF) : SF := fun ρ => (f ρ).bind fun p => if i < ρ.length then some (.nx ((giv kl p.2 ρ).1.set i (some (p.1, (giv kl p.2 ρ).2)))) else none
theorem vs_set (kl : List Nat) (i : Nat) {te : TE} {f : EF} (h : VE K te f) : VS K Wx (i :: kl) (tAsg te (gName i)) (sSet kl i f) := by
  intro B AF σ H ρ Fs o S e D p
  obtain ⟨⟨d, k⟩, e1, e2⟩ := Option.bind_eq_some_iff.mp e
  split at e2
  case isFalse => cases e2
  rename_i hi
  cases e2
  refine h B AF σ H ρ Fs d k S e1 _ fun v H1 F g1 r1 o1 => ?_
  have G := giv_ok (kl := kl) S o1
  have S1 : SR K B AF σ H1 (giv kl k ρ).1 Fs := (S.grow g1).less G.len G.less
  refine p _ H1 (upF Fs i F) (S1.set (by rw [G.len]; exact hi) r1 G.d G.c fun j e n ne q => ⟨G.a j e n q, G.b j e n q⟩) ?_
  refine ⟨fun a z => g1.back z, fun a o z _ => g1 a o z, fun j hj d' m' q a ha => ?_, fun j hj => ?_⟩
  · rcases set_some q with ⟨rfl, z⟩ | ⟨ne, z⟩
    · cases z
      rw [upF_same] at ha
      exact (G.e a ha).imp id fun ⟨l, hl, y⟩ => ⟨l, List.mem_cons_of_mem _ hl, y⟩
    · rw [upF_ne ne] at ha
      obtain ⟨n0, q0, q1⟩ := G.less j d' m' z
      exact .inr ⟨j, hj, d', n0, q0, Mf_le q1 ha⟩
  · have ne : j ≠ i := fun z => hj (by rw [z]; exact List.mem_cons_self ..)
    refine ⟨List.getElem?_set_ne (Ne.symm ne), fun d' m' q => ?_⟩
    rcases set_some q with ⟨z, _⟩ | ⟨_, z⟩
    · exact absurd z ne
    · obtain ⟨n0, q0, q1⟩ := G.less j d' m' z
      exact ⟨n0, q0, upF_ne ne, fun a ha => Mf_le q1 ha⟩

/-- the list (or dict) that the slot i alone has at p becomes o -/
theorem SR.write {ρ1 : Env} {G : List Addr} {i : Nat} {d d' : PyData} {m m' : Nat} {p : Addr} {F0 : List Addr} {o : HO} (S : SR K B AF σ H ρ1 Fs) (hi : ρ1[i]? = some (some (d, m))) (hp : Fs i = p :: F0) (hm : p ∈ Mf m (Fs i)) (hσ : σ[i]? = some (some (.ref p)))
    (r : Rp K (upd H p o) (.ref p) d' (p :: G)) (hd : ∀ a ∈ G, B a = none ∨ a ∈ AF) (hw : Own B (.ref p) m' (p :: G))
    (ha : ∀ (j : Nat) (e : PyData) (n : Nat), j ≠ i → ρ1[j]? = some (some (e, n)) → (∀ a ∈ Mf n (Fs j), a ∉ G) ∧ ∀ a ∈ Mf m' (p :: G), a ≠ p → a ∉ Fs j) :
    SR K B AF σ (upd H p o) (ρ1.set i (some (d', m'))) (upF Fs i (p :: G)) := by
  obtain ⟨v, h1, h2, h3, h4⟩ := S.val i d m hi
  have mb : Mb (H p) = true := h2.mb p (by rw [hp]; exact List.mem_cons_self ..)
  have Bp : B p = none := h4.1 p hm
  have pj : ∀ (j : Nat) (e : PyData) (n : Nat), j ≠ i → ρ1[j]? = some (some (e, n)) → p ∉ Fs j := fun j e n ne q => S.dis i j d m e n hi q (Ne.symm ne) p hm
  have li : i < ρ1.length := (List.getElem?_eq_some_iff.mp hi).1
  refine ⟨by rw [List.length_set]; exact S.len, fun a u e => ?_, fun j e n q => ?_, fun j j' e n e' n' q q' ne a hh => ?_⟩
  · have : a ≠ p := fun z => by rw [z, Bp] at e; cases e
    rw [upd_ne this]
    exact S.same a u e
  · rcases set_some q with ⟨rfl, z⟩ | ⟨ne, z⟩
    · cases z
      rw [upF_same]
      refine ⟨.ref p, hσ, r, fun a ha => ?_, hw⟩
      rcases List.mem_cons.mp ha with rfl | ha
      · exact .inl Bp
      · exact hd a ha
    · obtain ⟨u, u1, u2, u3, u4⟩ := S.val j e n z
      rw [upF_ne ne]
      exact ⟨u, u1, u2.kp (.upd mb (pj j e n ne z)), u3, u4⟩
  · rcases set_some q with ⟨rfl, z⟩ | ⟨ne1, z⟩
    · cases z
      rcases set_some q' with ⟨rfl, z'⟩ | ⟨ne2, z'⟩
      · exact absurd rfl ne
      · rw [upF_same] at hh
        rw [upF_ne ne2]
        by_cases e : a = p
        · subst e
          exact pj j' e' n' ne2 z'
        · exact (ha j' e' n' ne2 z').2 a hh e
    · rw [upF_ne ne1] at hh
      rcases set_some q' with ⟨rfl, z'⟩ | ⟨ne2, z'⟩
      · rw [upF_same]
        intro hm
        rcases List.mem_cons.mp hm with rfl | hm
        · exact pj j e n ne1 z (Mf_sub hh)
        · exact (ha j e n ne1 z).1 a hh hm
      · rw [upF_ne ne2]
        exact S.dis j j' e n e' n' z z' ne a hh

/-! ### a list of the slot's own is changed -/
def mutM (m mg : Nat) : Nat := if m = 2 ∧ mg = 2 then 2 else 1
/-- slot i: (d, m) → (d', ..), the value of the kind k put into it -/
def mutE (kl : List Nat) (i : Nat) (k : Kd) (m : Nat) (d' : PyData) (ρ : Env) : Env := (giv kl k ρ).1.set i (some (d', mutM m (giv kl k ρ).2))
theorem giv_keep {i : Nat} {s : PyData × Nat} (h : ρ[i]? = some (some s)) (hn : i ∉ k.src) : (giv kl k ρ).1[i]? = some (some s) := by
  have c : ∀ L : List Nat, i ∉ L → (dem L ρ)[i]? = some (some s) := by
    intro L
    induction L with
    | nil => intro _; exact h
    | cons j L ih =>
      intro hn
      show ((dem L ρ).modify j demS)[i]? = _
      rw [List.getElem?_modify, ih fun z => hn (List.mem_cons_of_mem _ z)]
      have : j ≠ i := fun z => hn (by rw [z]; exact List.mem_cons_self ..)
      simp [this]
  have c2 : ∀ L : List Nat, i ∉ L → (kil L ρ)[i]? = some (some s) := by
    intro L
    induction L with
    | nil => intro _; exact h
    | cons j L ih =>
      intro hn
      show ((wipeE ρ L).set j none)[i]? = _
      have : j ≠ i := fun z => hn (by rw [z]; exact List.mem_cons_self ..)
      rw [List.getElem?_set_ne this]
      exact ih fun z => hn (List.mem_cons_of_mem _ z)
  cases k with
  | bo L => exact c L hn
  | sp L => exact c L hn
  | mv L =>
    show (if L.all kl.contains = true then (kil L ρ, 2) else (dem L ρ, 0)).1[i]? = _
    split
    · exact c2 L hn
    · exact c L hn
theorem mut_ok {H1 : Hp} {i m : Nat} {d d' : PyData} {p : Addr} {F0 G : List Addr} {o : HO} (S : SR K B AF σ H ρ Fs) (g1 : Grow H H1) (ok : KV ρ Fs H v F k) (hi : ρ[i]? = some (some (d, m))) (hm : m = 1 ∨ m = 2) (hn : i ∉ k.src)
    (hp : Fs i = p :: F0) (hσ : σ[i]? = some (some (.ref p))) (r : Rp K (upd H1 p o) (.ref p) d' (p :: G)) (hG : ∀ a ∈ G, a ∈ F0 ∨ a ∈ F) (hN : (F0 ++ F).Nodup → G.Nodup) :
    SR K B AF σ (upd H1 p o) (mutE kl i k m d' ρ) (upF Fs i (p :: G)) ∧ Fr (i :: kl) σ H ρ Fs σ (upd H1 p o) (mutE kl i k m d' ρ) (upF Fs i (p :: G)) := by
  have GO := giv_ok (kl := kl) S ok
  have hi1 := giv_keep (kl := kl) hi hn
  have S1 : SR K B AF σ H1 (giv kl k ρ).1 Fs := (S.grow g1).less GO.len GO.less
  have pm : p ∈ Mf m (Fs i) := by
    rw [hp]
    rcases hm with rfl | rfl
    · exact List.mem_cons_self ..
    · exact List.mem_cons_self ..
  obtain ⟨u, u1, u2, u3, u4⟩ := S.val i d m hi
  have pF0 : p ∉ F0 := by
    rcases hm with rfl | rfl
    · obtain ⟨q, G', _, h2, h3⟩ := u4.2.1 rfl
      rw [hp] at h2
      cases h2
      exact h3
    · have h := u4.2.2 rfl
      rw [hp] at h
      exact (List.nodup_cons.mp h).1
  have pF : p ∉ F := GO.a i d m hi1 p pm
  have pG : p ∉ G := fun z => (hG p z).elim pF0 pF
  have mM : mutM m (giv kl k ρ).2 = 1 ∨ (mutM m (giv kl k ρ).2 = 2 ∧ m = 2 ∧ (giv kl k ρ).2 = 2) := by
    unfold mutM
    split
    · rename_i h
      exact .inr ⟨rfl, h⟩
    · exact .inl rfl
  have F0d : m = 2 → ∀ a ∈ F0, a ∈ Mf 2 (Fs i) := fun _ a ha => by
    show a ∈ Fs i
    rw [hp]
    exact List.mem_cons_of_mem _ ha
  have F0s : ∀ a ∈ F0, a ∈ Fs i := fun a ha => by
    rw [hp]
    exact List.mem_cons_of_mem _ ha
  constructor
  · refine S1.write hi1 hp pm hσ r (fun a ha => ?_) ?_ fun j e n ne q => ⟨fun a ha z => ?_, fun a ha ne' z => ?_⟩
    · rcases hG a ha with ha | ha
      · exact u3 a (F0s a ha)
      · exact GO.d a ha
    · rcases mM with e | ⟨e, rfl, e2⟩
      · rw [e]
        refine ⟨fun a ha => ?_, fun _ => ⟨p, G, rfl, rfl, pG⟩, fun z => nomatch z⟩
        have ha' : a ∈ [p] := ha
        obtain rfl := List.mem_singleton.mp ha'
        exact u4.1 a pm
      · rw [e]
        have nd := u4.2.2 rfl
        rw [hp] at nd
        have GF := GO.c
        rw [e2] at GF
        refine ⟨fun a ha => ?_, fun z => (nomatch z), fun _ => List.nodup_cons.mpr ⟨pG, hN (List.nodup_append.mpr ⟨(List.nodup_cons.mp nd).2, GF.2.2 rfl, fun a ha b hb z => ?_⟩)⟩⟩
        · rcases List.mem_cons.mp (show a ∈ p :: G from ha) with rfl | ha
          · exact u4.1 a pm
          · rcases hG a ha with ha | ha
            · exact u4.1 a (F0d rfl a ha)
            · exact GF.1 a ha
        · subst z
          exact GO.a i d 2 hi1 a (F0d rfl a ha) hb
    · rcases hG a z with z | z
      · exact S1.dis j i e n d m q hi1 ne a ha (F0s a z)
      · exact GO.a j e n q a ha z
    · rcases mM with e' | ⟨e', rfl, e2⟩
      · rw [e'] at ha
        have ha' : a ∈ [p] := ha
        exact ne' (List.mem_singleton.mp ha')
      · rw [e'] at ha
        rcases List.mem_cons.mp (show a ∈ p :: G from ha) with y | y
        · exact ne' y
        · rcases hG a y with y | y
          · exact S1.dis i j d 2 e n hi1 q (Ne.symm ne) a (F0d rfl a y) z
          · exact GO.b j e n q a (by rw [e2]; exact y) z
  · refine ⟨fun a z => ?_, fun a u e kk => ?_, fun j hj e n q a ha => ?_, fun j hj => ?_⟩
    · by_cases e : a = p
      · subst e
        rw [upd_same] at z
        cases z
      · rw [upd_ne e] at z
        exact g1.back z
    · have : a ≠ p := fun z => kk i (List.mem_cons_self ..) d m hi (z ▸ pm)
      rw [upd_ne this]
      exact g1 a u e
    · rcases set_some q with ⟨rfl, z⟩ | ⟨ne, z⟩
      · cases z
        rw [upF_same] at ha
        rcases mM with e' | ⟨e', rfl, e2⟩
        · rw [e'] at ha
          have ha' : a ∈ [p] := ha
          obtain rfl := List.mem_singleton.mp ha'
          exact .inr ⟨j, hj, d, m, hi, pm⟩
        · rw [e'] at ha
          rcases List.mem_cons.mp (show a ∈ p :: G from ha) with rfl | y
          · exact .inr ⟨j, hj, d, 2, hi, pm⟩
          · rcases hG a y with y | y
            · exact .inr ⟨j, hj, d, 2, hi, F0d rfl a y⟩
            · exact (GO.e a (by rw [e2]; exact y)).imp id fun ⟨l, hl, w⟩ => ⟨l, List.mem_cons_of_mem _ hl, w⟩
      · rw [upF_ne ne] at ha
        obtain ⟨n0, q0, q1⟩ := GO.less j e n z
        exact .inr ⟨j, hj, e, n0, q0, Mf_le q1 ha⟩
    · have ne : j ≠ i := fun z => hj (by rw [z]; exact List.mem_cons_self ..)
      refine ⟨rfl, fun e n q => ?_⟩
      rcases set_some q with ⟨z, _⟩ | ⟨_, z⟩
      · exact absurd z ne
      · obtain ⟨n0, q0, q1⟩ := GO.less j e n z
        exact ⟨n0, q0, upF_ne ne, fun a ha => Mf_le q1 ha⟩

/-- slot i, its data and mode, where it has a list of its own -/
def ownL (i : Nat) (k : Kd) (ρ : Env) : Option (List PyData × Nat) := match ρ[i]? with
  | some (some (.list xs, m)) => if (m = 1 ∨ m = 2) ∧ i ∉ k.src then some (xs, m) else none
  | _ => none
theorem ownL_ok {i m : Nat} {xs : List PyData} (S : SR K B AF σ H ρ Fs) (h : ownL i k ρ = some (xs, m)) :
    ρ[i]? = some (some (.list xs, m)) ∧ (m = 1 ∨ m = 2) ∧ i ∉ k.src ∧ ∃ p F0 vs, σ[i]? = some (some (.ref p)) ∧ Fs i = p :: F0 ∧ H p = some (.lst vs) ∧ RpL K H vs xs F0 := by
  unfold ownL at h
  split at h
  · rename_i ys n e
    split at h
    · rename_i hc
      cases h
      obtain ⟨v, h1, h2, _⟩ := S.val i _ _ e
      refine ⟨e, hc.1, hc.2, ?_⟩
      generalize hF : Fs i = F' at h2
      cases h2 with
      | lst ha r => exact ⟨_, _, _, h1, rfl, ha, r⟩
    · cases h
  · cases h
def sMutL (kl : List Nat) (i : Nat) (f : EF) (h : List PyData → PyData → Option (List PyData)) : SF := fun ρ => (f ρ).bind fun p => (ownL i p.2 ρ).bind fun q => (h q.1 p.1).map fun ds => .nx (mutE kl i p.2 q.2 (.list ds) ρ)
/-- xs.append(e) -/
def hApp (xs : List PyData) (d : PyData) : Option (List PyData) := if xs.length < 1000000 then some (xs ++ [d]) else none
theorem vs_append (kl : List Nat) (i : Nat) {te : TE} {f : EF} (h : VE K te f) : VS K Wx (i :: kl) (tDrop (tBM K "list" rAppend (tVar i) (tCons te tNil))) (sMutL kl i f hApp) := by
  intro B AF σ H ρ Fs o S e D p
  obtain ⟨⟨d, k⟩, e1, e2⟩ := Option.bind_eq_some_iff.mp e
  obtain ⟨⟨xs, m⟩, e3, e4⟩ := Option.bind_eq_some_iff.mp e2
  obtain ⟨ds, e5, e6⟩ := Option.map_eq_some_iff.mp e4
  subst e6
  unfold hApp at e5
  split at e5
  case isFalse => cases e5
  rename_i hz
  cases e5
  obtain ⟨hi, hm, hn, a, F0, vs, h1, h2, h3, h4⟩ := ownL_ok S e3
  refine ⟨_, h1, Or.inl ⟨rfl, _, Or.inl (Or.inl h3)⟩, ?_⟩
  refine h B AF σ H ρ Fs d k S e1 _ fun v H1 F g1 r1 o1 => ?_
  refine ⟨a, vs, v, rfl, rfl, g1 _ _ h3, lt_line (by rw [h4.length]; exact hz), ?_⟩
  have aF0 : a ∉ F0 ++ F := by
    intro z
    have GO := giv_ok (kl := kl) S o1
    have hi1 := giv_keep (kl := kl) hi hn
    obtain ⟨u, u1, u2, u3, u4⟩ := S.val i _ m hi
    rcases List.mem_append.mp z with z | z
    · rcases hm with rfl | rfl
      · obtain ⟨q, G', _, w2, w3⟩ := u4.2.1 rfl
        rw [h2] at w2
        cases w2
        exact w3 z
      · have w := u4.2.2 rfl
        rw [h2] at w
        exact (List.nodup_cons.mp w).1 z
    · refine GO.a i _ m hi1 a ?_ z
      rw [h2]
      rcases hm with rfl | rfl <;> exact List.mem_cons_self ..
  have mb : Mb (H1 a) = true := by rw [g1 _ _ h3]; rfl
  obtain ⟨x1, x2⟩ := mut_ok (kl := kl) (H1 := H1) (o := .lst (vs ++ [v])) (d' := .list (xs ++ [d])) (G := F0 ++ F) S g1 o1 hi hm hn h2 h1 (.lst upd_same (((h4.grow g1).snoc r1).kp (.upd mb aF0))) (fun b hb => List.mem_append.mp hb) fun z => z
  exact p _ _ _ x1 x2

/-- xs[j] = e -/
def sIdx (kl : List Nat) (i : Nat) (f g : EF) : SF := fun ρ => (f ρ).bind fun p => (g ρ).bind fun r => match r.1 with
  | .int j => (ownL i p.2 ρ).bind fun q => (ixN q.1.length j).map fun n => .nx (mutE kl i p.2 q.2 (.list (q.1.set n p.1)) ρ)
  | _ => none
theorem RpL.set {K : PySem.W.Frag} {H : Hp} : ∀ {vs : List V} {ds : List PyData} {F0 F : List Addr} {v : V} {d : PyData} (n : Nat), RpL K H vs ds F0 → Rp K H v d F → n < ds.length →
    ∃ A G B, F0 = A ++ (G ++ B) ∧ RpL K H (vs.set n v) (ds.set n d) (A ++ (F ++ B))
  | _, _, _, _, _, _, 0, .cons (F := F) (G := G) e r, h, _ => ⟨[], F, G, rfl, by rw [List.nil_append]; exact .cons h r⟩
  | _, _, _, _, _, _, n + 1, .cons (F := F) (G := G) e r, h, hn => by
    obtain ⟨A, G', B, h1, h2⟩ := RpL.set n r h (Nat.lt_of_succ_lt_succ hn)
    exact ⟨F ++ A, G', B, by rw [h1, List.append_assoc], by rw [List.append_assoc]; exact .cons e h2⟩
theorem own_notin {i m : Nat} {d : PyData} {a : Addr} {F0 : List Addr} (S : SR K B AF σ H ρ Fs) (o1 : KV ρ Fs H v F k) (hi : ρ[i]? = some (some (d, m))) (hm : m = 1 ∨ m = 2) (hn : i ∉ k.src) (h2 : Fs i = a :: F0) : a ∉ F0 ++ F := by
  intro z
  have GO := giv_ok (kl := []) S o1
  have hi1 := giv_keep (kl := []) hi hn
  obtain ⟨u, u1, u2, u3, u4⟩ := S.val i _ m hi
  rcases List.mem_append.mp z with z | z
  · rcases hm with rfl | rfl
    · obtain ⟨q, G', _, w2, w3⟩ := u4.2.1 rfl
      rw [h2] at w2
      cases w2
      exact w3 z
    · have w := u4.2.2 rfl
      rw [h2] at w
      exact (List.nodup_cons.mp w).1 z
  · refine GO.a i _ m hi1 a ?_ z
    rw [h2]
    rcases hm with rfl | rfl <;> exact List.mem_cons_self ..
theorem vs_idx (kl : List Nat) (i : Nat) {te ti : TE} {f g : EF} (h : VE K te f) (hg : VE K ti g) : VS K Wx (i :: kl) (tAsg te (gSub (tVar i) ti rSetL)) (sIdx kl i f g) := by
  intro B AF σ H ρ Fs o S e D p
  obtain ⟨⟨d, k⟩, e1, e2⟩ := Option.bind_eq_some_iff.mp e
  obtain ⟨⟨dj, kj⟩, e3, e4⟩ := Option.bind_eq_some_iff.mp e2
  simp only at e4
  split at e4
  case h_2 => cases e4
  rename_i j
  obtain ⟨⟨xs, m⟩, e5, e6⟩ := Option.bind_eq_some_iff.mp e4
  obtain ⟨n, e7, e8⟩ := Option.map_eq_some_iff.mp e6
  subst e8
  obtain ⟨hi, hm, hn, a, F0, vs, h1, h2, h3, h4⟩ := ownL_ok S e5
  refine h B AF σ H ρ Fs d k S e1 _ fun v H1 F g1 r1 o1 => ?_
  refine ⟨_, h1, hg B AF σ H1 ρ Fs (.int j) kj (S.grow g1) e3 _ fun w H2 F2 g2 r2 o2 => ?_⟩
  cases r2
  have g12 := g1.trans g2
  have lt : n < xs.length := by
    unfold ixN at e7
    simp only at e7
    split at e7
    · split at e7
      · cases e7; omega
      · cases e7
    · split at e7
      · cases e7; omega
      · cases e7
  refine ⟨a, vs, j, n, rfl, rfl, g12 _ _ h3, by rw [h4.length]; exact e7, ?_⟩
  have mb : Mb (H2 a) = true := by rw [g12 _ _ h3]; rfl
  have nin := own_notin S o1 hi hm hn h2
  obtain ⟨A, G, B', hF, hr⟩ := RpL.set n (h4.grow g12) (r1.grow g2) lt
  have aG : a ∉ A ++ (F ++ B') := fun z => nin (by
    rw [hF]
    simp only [List.mem_append] at z ⊢
    rcases z with z | z | z
    · exact .inl (.inl z)
    · exact .inr z
    · exact .inl (.inr (.inr z)))
  obtain ⟨x1, x2⟩ := mut_ok (kl := kl) (H1 := H2) (o := .lst (vs.set n v)) (d' := .list (xs.set n d)) (G := A ++ (F ++ B')) S g12 o1 hi hm hn h2 h1 (.lst upd_same (hr.kp (.upd mb aG))) (fun b hb => by
    rw [hF]
    simp only [List.mem_append] at hb ⊢
    rcases hb with z | z | z
    · exact .inl (.inl z)
    · exact .inr z
    · exact .inl (.inr (.inr z))) fun z => by
      rw [hF] at z
      have s : List.Sublist (A ++ B') (A ++ (G ++ B')) := List.Sublist.append (List.Sublist.refl A) (List.sublist_append_right G B')
      have z2 : ((A ++ B') ++ F).Nodup := z.sublist (s.append (List.Sublist.refl F))
      have pm : List.Perm ((A ++ B') ++ F) (A ++ (F ++ B')) := by
        rw [List.append_assoc]
        exact List.Perm.append_left A List.perm_append_comm
      exact pm.nodup_iff.mp z2
  exact p _ _ _ x1 x2
/-- xs.extend(e), e a new list -/
def sExt (kl : List Nat) (i : Nat) (f : EF) : SF := fun ρ => (f ρ).bind fun p => match p.1 with
  | .list ds => (ownL i p.2 ρ).bind fun q => if q.1.length + ds.length < 1000000 then some (.nx (mutE kl i p.2 q.2 (.list (q.1 ++ ds)) ρ)) else none
  | _ => none
theorem vs_extend (kl : List Nat) (i : Nat) {te : TE} {f : EF} (h : VE K te f) : VS K Wx (i :: kl) (tDrop (tBM K "list" rExtend (tVar i) (tCons te tNil))) (sExt kl i f) := by
  intro B AF σ H ρ Fs o S e D p
  obtain ⟨⟨d, k⟩, e1, e2⟩ := Option.bind_eq_some_iff.mp e
  simp only at e2
  split at e2
  case h_2 => cases e2
  rename_i ds
  obtain ⟨⟨xs, m⟩, e3, e4⟩ := Option.bind_eq_some_iff.mp e2
  split at e4
  case isFalse => cases e4
  rename_i hz
  cases e4
  obtain ⟨hi, hm, hn, a, F0, vs, h1, h2, h3, h4⟩ := ownL_ok S e3
  refine ⟨_, h1, Or.inl ⟨rfl, _, Or.inl (Or.inl h3)⟩, ?_⟩
  refine h B AF σ H ρ Fs _ k S e1 _ fun v H1 F g1 r1 o1 => ?_
  have nin := own_notin S o1 hi hm hn h2
  cases r1 with
  | lst hb rb =>
    rename_i b us F'
    refine ⟨a, b, vs, us, rfl, rfl, g1 _ _ h3, hb, by rw [h4.length, rb.length]; exact Nat.le_of_lt (lt_line hz), ?_⟩
    have aG : a ∉ F0 ++ F' := fun z => nin ((List.mem_append.mp z).elim (fun z => List.mem_append_left _ z) fun z => List.mem_append_right _ (List.mem_cons_of_mem _ z))
    have mb : Mb (H1 a) = true := by rw [g1 _ _ h3]; rfl
    obtain ⟨x1, x2⟩ := mut_ok (kl := kl) (H1 := H1) (o := .lst (vs ++ us)) (d' := .list (xs ++ ds)) (G := F0 ++ F') S g1 o1 hi hm hn h2 h1 (.lst upd_same ((RpL.app (h4.grow g1) rb).kp (.upd mb aG)))
      (fun c hc => (List.mem_append.mp hc).elim .inl fun z => .inr (List.mem_cons_of_mem _ z)) fun z => z.sublist ((List.Sublist.refl F0).append (List.sublist_cons_self ..))
    exact p _ _ _ x1 x2
/-- name op= e, of ints -/
def sAug (i : Nat) (f : EF) (h : Int → Int → Int) : SF := fun ρ => match ρ[i]? with
  | some (some (.int a, _)) => (f ρ).bind fun p => match p.1 with
    | .int b => some (.nx (ρ.set i (some (.int (h a b), 2))))
    | _ => none
  | _ => none
theorem vs_aug (i : Nat) {te : TE} {f : EF} {fn : Int → Int → Int} (h : VE K te f) : VS K Wx [i] (tAug i te (ipI fn)) (sAug i f fn) := by
  intro B AF σ H ρ Fs o S e D p
  unfold sAug at e
  split at e
  case h_2 => cases e
  rename_i x n e0
  obtain ⟨⟨d, k⟩, e1, e2⟩ := Option.bind_eq_some_iff.mp e
  simp only at e2
  split at e2
  case h_2 => cases e2
  rename_i b
  cases e2
  obtain ⟨u, h1, h2, _⟩ := S.val i _ n e0
  have hu : u = .int x := by
    generalize Fs i = F' at h2
    cases h2; rfl
  subst hu
  refine ⟨_, h1, h B AF σ H ρ Fs _ k S e1 _ fun v H1 F g1 r1 o1 => ?_⟩
  cases r1
  refine ⟨x, b, rfl, rfl, p _ _ (upF Fs i []) ((S.grow g1).set (List.getElem?_eq_some_iff.mp e0).1 (.int _) (fun a z => nomatch z) (own02 (K := K) (H := H1) (d := .int (fn x b)) (.int _)).1 fun j e n ne q => ⟨fun a _ z => (nomatch z), fun a z => (nomatch z)⟩) ?_⟩
  refine ⟨fun a z => g1.back z, fun a o z _ => g1 a o z, fun j hj d' m' q a ha => ?_, fun j hj => ?_⟩
  · obtain rfl := List.mem_singleton.mp hj
    rcases set_some q with ⟨_, z⟩ | ⟨ne, _⟩
    · cases z
      rw [upF_same] at ha
      exact nomatch ha
    · exact absurd rfl ne
  · have ne : j ≠ i := fun z => hj (List.mem_singleton.mpr z)
    refine ⟨List.getElem?_set_ne (Ne.symm ne), fun d' m' q => ?_⟩
    rcases set_some q with ⟨z, _⟩ | ⟨_, z⟩
    · exact absurd z ne
    · exact ⟨m', z, upF_ne ne, fun a ha => ha⟩
end
end Va

/-! Va8: loops. -/
namespace Va
open PySem L2

def loopF (st : SG) (fb : SF) (fg : List Nat) : List PyData → SF
  | [], ρ => some (.nx (kil fg ρ))
  | d :: ds, ρ => (st d (kil fg ρ)).bind fun ρ1 => (fb ρ1).bind fun o => match o with
    | .nx ρ2 => loopF st fb fg ds ρ2
    | .ct ρ2 => loopF st fb fg ds ρ2
    | .bk ρ2 => some (.nx (kil fg ρ2))
    | .rt d r => some (.rt d r)
    | .ex c fs => some (.ex c fs)
/-- for target in walked: body; fg: the slots that are told no more between the turns -/
def sFor (fi : IF) (ns : List Nat) (st : SG) (wb : List Nat) (fb : SF) (fg : List Nat) : SF := fun ρ => (fi ρ).bind fun p =>
  loopF st fb fg p.1 (if flatL p.1 = true ∧ apart p.2.src (ns ++ wb) = true then ρ else dem p.2.src ρ)

section
variable {K : PySem.W.Frag} {Wx : WxT} {wi : TI} {g : TG} {tb : TS} {fi : IF} {st : SG} {fb : SF} {ns wb fg : List Nat}
theorem kil_less {ρ : Env} {L : List Nat} : ∀ (i : Nat) (d : PyData) (m : Nat), (kil L ρ)[i]? = some (some (d, m)) → ∃ m0, ρ[i]? = some (some (d, m0)) ∧ (m = m0 ∨ m = 0) := fun i d m h => ⟨m, wipeE_get h, .inl rfl⟩
theorem SR.kil {B : Hp} {AF : List Addr} {σ : L2.St} {H : Hp} {ρ : Env} {Fs : Nat → List Addr} (S : SR K B AF σ H ρ Fs) (L : List Nat) : SR K B AF σ H (Va.kil L ρ) Fs := S.less (wipeE_len _) kil_less
/-- the slots ws alone may not write C -/
def Prot (ws : List Nat) (C : List Addr) (ρ : Env) (Fs : Nat → List Addr) : Prop := ∀ j ∈ ws, ∀ (d : PyData) (m : Nat), ρ[j]? = some (some (d, m)) → ∀ a ∈ Mf m (Fs j), a ∉ C
theorem Prot.less {ws : List Nat} {C : List Addr} {ρ ρ' : Env} {Fs : Nat → List Addr} (h : Prot ws C ρ Fs) (l : ∀ (i : Nat) (d : PyData) (m : Nat), ρ'[i]? = some (some (d, m)) → ∃ m0, ρ[i]? = some (some (d, m0)) ∧ (m = m0 ∨ m = 0)) : Prot ws C ρ' Fs := fun j hj d m q a ha => by
  obtain ⟨m0, q0, q1⟩ := l j d m q
  exact h j hj d m0 q0 a (Mf_le q1 ha)
theorem vs_for (hi : VI K wi fi) (hg : VG K ns g st) (hb : VS K Wx wb tb fb) : VS K Wx (ns ++ wb) (tFor wi g tb) (sFor fi ns st wb fb fg) := by
  intro B AF σ H ρ Fs o S e D p
  obtain ⟨⟨ds, kc⟩, e1, e2⟩ := Option.bind_eq_some_iff.mp e
  simp only at e2
  generalize hρ : (if flatL ds = true ∧ apart kc.src (ns ++ wb) = true then ρ else dem kc.src ρ) = ρ0 at e2
  let ws := ns ++ wb
  refine hi B AF σ H ρ Fs ds kc S e1 _ fun J H1 C g1 ok hC => ?_
  have less0 : ∀ (i : Nat) (d : PyData) (m : Nat), ρ0[i]? = some (some (d, m)) → ∃ m0, ρ[i]? = some (some (d, m0)) ∧ (m = m0 ∨ m = 0) := by
    intro i d m q
    rw [← hρ] at q
    split at q
    · exact ⟨m, q, .inl rfl⟩
    · obtain ⟨m0, q0, q1, _⟩ := dem_get q
      exact ⟨m0, q0, q1⟩
  have len0 : ρ0.length = ρ.length := by
    rw [← hρ]
    split
    · rfl
    · exact dem_len _
  have S0 : SR K B AF σ H1 ρ0 Fs := (S.grow g1).less len0 less0
  -- what may be written is not what is walked
  have cell : ∀ (j : Nat) (d : PyData) (m : Nat), ρ0[j]? = some (some (d, m)) → ∀ a ∈ Mf m (Fs j), a ∈ C → (flatL ds = true ∧ apart kc.src ws = true ∧ j ∈ kc.src) := by
    intro j d m q a ha hc
    obtain ⟨m0, q0, q1⟩ := less0 j d m q
    rcases hC a hc with z | ⟨l, hl, ⟨d', m', z⟩, ma⟩
    · exact absurd z (S.there q0 (Mf_sub ha))
    · by_cases e : j = l
      · subst e
        rw [← hρ] at q
        split at q
        · rename_i h
          exact ⟨h.1, h.2, hl⟩
        · obtain ⟨_, _, _, q2⟩ := dem_get q
          rw [q2 hl, Mf0] at ha
          cases ha
      · exact absurd ma (S.dis j l d m0 d' m' q0 z e a (Mf_le q1 ha))
  have prot0 : Prot ws C ρ0 Fs := fun j hj d m q a ha hc => by
    obtain ⟨_, h2, h3⟩ := cell j d m q a ha hc
    have := List.all_eq_true.mp h2 j h3
    rw [List.contains_iff_mem.mpr hj] at this
    cases this
  let W : Nat → L2.St → Hp → Prop := fun i σ' H' => ∃ ρi Fsi, SR K B AF σ' H' ρi Fsi ∧ loopF st fb fg (ds.drop i) ρi = some o ∧ Fr ws σ H1 ρ0 Fs σ' H' ρi Fsi ∧ Kp C H1 H' ∧ Prot ws C ρi Fsi
  have frm : ∀ {σ' H' ρi Fsi}, Fr ws σ H1 ρ0 Fs σ' H' ρi Fsi → Fr ws σ H ρ Fs σ' H' ρi Fsi := fun h => h.from_ g1 less0
  refine ⟨fun i m σ' H' => m = ds.length - i ∧ i ≤ ds.length ∧ W i σ' H', ⟨ds.length, by simp, Nat.zero_le _, ρ0, Fs, S0, e2, Fr.grow (.refl H1), fun a o h _ => h, prot0⟩, ?_⟩
  rintro i m σ1 H2 ⟨rfl, hil, ρi, Fsi, Si, el, Fi, kp, pr⟩
  by_cases hlt : i < ds.length
  · obtain ⟨dd, hdd⟩ : ∃ dd, ds[i]? = some dd := ⟨ds[i], List.getElem?_eq_getElem hlt⟩
    obtain ⟨go, yl⟩ := ok.go H2 kp i dd hdd
    have edrop : ds.drop i = dd :: ds.drop (i + 1) := by
      rw [List.drop_eq_getElem_cons hlt]
      rw [List.getElem?_eq_getElem hlt] at hdd
      rw [Option.some.inj hdd]
    rw [edrop] at el
    obtain ⟨ρ1, a1, el⟩ := Option.bind_eq_some_iff.mp el
    obtain ⟨ob, a2, el⟩ := Option.bind_eq_some_iff.mp el
    refine .inr ⟨go, W (i + 1), fun σ' H' w => ⟨ds.length - (i + 1), by omega, rfl, by omega, w⟩, fun x H3 hy => ?_⟩
    obtain ⟨g3, G, rx, hG⟩ := yl x H3 hy
    have Sk : SR K B AF σ1 H3 (kil fg ρi) Fsi := (Si.grow g3).kil fg
    have prk : Prot ws C (kil fg ρi) Fsi := pr.less kil_less
    have Fk : Fr ws σ H1 ρ0 Fs σ1 H3 (kil fg ρi) Fsi := ((Fi.trans (Fr.grow (wr := ws) g3)).trans (Fr.less (wr := ws) kil_less)).mono fun j hj => by simpa using hj
    have kp3 : Kp C H1 H3 := fun a o e q => g3 a o (kp a o e q)
    have hGB : ∀ a ∈ G, B a = none ∨ a ∈ AF := fun a ha => by
      rcases hC a (hG a ha) with z | ⟨l, _, ⟨d', m', z⟩, ma⟩
      · exact .inl (S.same.back z)
      · obtain ⟨_, _, _, h3, _⟩ := S.val l d' m' z
        exact h3 a ma
    have frG : Free (kil fg ρi) Fsi G := fun j d m q a ha hg => by
      by_cases hj : j ∈ ws
      · exact prk j hj d m q a ha (hG a hg)
      · obtain ⟨_, h2⟩ := Fk.oth j hj
        obtain ⟨m0, h3, h4, h5⟩ := h2 d m q
        rw [h4] at ha
        obtain ⟨hf, _, _⟩ := cell j d m0 h3 a (h5 a ha) (hG a hg)
        have hfd : flat dd = true := by
          have : ∀ (l : List PyData) (n : Nat), flatL l = true → l[n]? = some dd → flat dd = true := by
            intro l
            induction l with
            | nil => intro n _ h; simp at h
            | cons x xs ih =>
              intro n hx h
              simp only [flatL, Bool.and_eq_true] at hx
              cases n with
              | zero => cases h; exact hx.1
              | succ n => exact ih n hx.2 h
          exact this ds i hf hdd
        rw [rx.flat hfd] at hg
        cases hg
    refine hg B AF σ1 H3 (kil fg ρi) ρ1 Fsi x dd G Sk rx hGB frG a1 _ fun σ2 Fs2 S2 T2 => ?_
    have pr2 : Prot ws C ρ1 Fs2 := fun j hj d m q a ha hc => by
      by_cases hn : j ∈ ns
      · rw [(T2.ins j hn d m q).1] at ha; cases ha
      · obtain ⟨_, h2, h3⟩ := T2.out j hn
        rw [h2] at q
        rw [h3] at ha
        exact prk j hj d m q a ha hc
    have FT : Fr ns σ1 H3 (kil fg ρi) Fsi σ2 H3 ρ1 Fs2 := by
      refine ⟨fun a h => h, fun a o h _ => h, fun j hj d m q a ha => ?_, fun j hj => ?_⟩
      · rw [(T2.ins j hj d m q).1] at ha
        cases ha
      · obtain ⟨h1, h2, h3⟩ := T2.out j hj
        exact ⟨h1, fun d m q => ⟨m, by rw [← h2]; exact q, h3, fun a ha => ha⟩⟩
    have F2 : Fr ws σ H1 ρ0 Fs σ2 H3 ρ1 Fs2 := (Fk.trans FT).mono fun j hj => by
      rcases List.mem_append.mp hj with h | h
      · exact h
      · exact List.mem_append_left _ h
    have fin : ∀ {σ' H' ρ' Fs'}, Fr wb σ2 H3 ρ1 Fs2 σ' H' ρ' Fs' → Fr ws σ H1 ρ0 Fs σ' H' ρ' Fs' := fun h => (F2.trans h).mono fun j hj => by
      rcases List.mem_append.mp hj with h | h
      · exact h
      · exact List.mem_append_right _ h
    have kpf : ∀ {σ' H' ρ' Fs'}, Fr wb σ2 H3 ρ1 Fs2 σ' H' ρ' Fs' → Kp C H1 H' := fun {σ' H' ρ' Fs'} h a o e q => by
      have e3 := kp3 a o e q
      refine h.keep a o e3 fun j hj d m qq ha => ?_
      rcases q with q | q
      · obtain ⟨_, _, r, _⟩ := S2.val j d m qq
        have := r.mb a (Mf_sub ha)
        rw [e3, q] at this
        cases this
      · exact pr2 j (List.mem_append_right _ hj) d m qq a ha q
    have prf : ∀ {σ' H' ρ' Fs'}, Fr wb σ2 H3 ρ1 Fs2 σ' H' ρ' Fs' → Prot ws C ρ' Fs' := fun {σ' H' ρ' Fs'} h j hj d m q a ha hc => by
      have hm : H3 a ≠ none := fun z => by
        have := ok.mb a hc
        cases y : H1 a with
        | none => rw [y] at this; cases this
        | some u =>
          rw [kp3 a u y (.inr hc)] at z
          cases z
      by_cases hw : j ∈ wb
      · rcases h.own j hw d m q a ha with z | ⟨l, hl, d', m', z, ma⟩
        · exact hm z
        · exact pr2 l (List.mem_append_right _ hl) d' m' z a ma hc
      · obtain ⟨_, h2⟩ := h.oth j hw
        obtain ⟨m0, h3, h4, h5⟩ := h2 d m q
        rw [h4] at ha
        exact pr2 j hj d m0 h3 a (h5 a ha) hc
    refine hb B AF σ2 H3 ρ1 Fs2 ob S2 a2 _ ?_
    cases ob with
    | nx ρ2 => exact fun σ' H' Fs' S' F' => ⟨ρ2, Fs', S', el, fin F', kpf F', prf F'⟩
    | ct ρ2 => exact fun σ' H' Fs' S' F' => ⟨ρ2, Fs', S', el, fin F', kpf F', prf F'⟩
    | bk ρ2 =>
      cases el
      exact fun σ' H' Fs' S' F' => p σ' H' Fs' (S'.kil fg) (frm (((fin F').trans (Fr.less (wr := ws) kil_less)).mono fun j hj => by simpa using hj))
    | rt d r =>
      cases el
      exact p
    | ex c fs =>
      cases el
      exact p
  · have e3 : i = ds.length := by omega
    subst e3
    rw [List.drop_length] at el
    cases el
    exact .inl ⟨ok.stop H2 kp _ (Nat.le_refl _), p σ1 H2 Fsi (Si.kil fg) (frm ((Fi.trans (Fr.less (wr := ws) kil_less)).mono fun j hj => by simpa using hj))⟩

/-- while: n turns at most -/
def sWhile (c : Env → Option Bool) (fb : SF) (fg : List Nat) : Nat → SF
  | 0, _ => none
  | n + 1, ρ => (c (kil fg ρ)).bind fun b => if b = true then (fb (kil fg ρ)).bind fun o => match o with
      | .nx ρ2 => sWhile c fb fg n ρ2
      | .ct ρ2 => sWhile c fb fg n ρ2
      | .bk ρ2 => some (.nx (kil fg ρ2))
      | .rt d r => some (.rt d r)
      | .ex c fs => some (.ex c fs)
    else some (.nx (kil fg ρ))
theorem vs_while {tc : TT} {fc : Env → Option Bool} (hc : VT K tc fc) (hb : VS K Wx wb tb fb) (n : Nat) : VS K Wx wb (tWhile tc tb) (sWhile fc fb fg n) := by
  intro B AF σ H ρ Fs o S e D p
  refine ⟨fun m σ' H' => ∃ ρi Fsi, SR K B AF σ' H' ρi Fsi ∧ sWhile fc fb fg m ρi = some o ∧ Fr wb σ H ρ Fs σ' H' ρi Fsi, ⟨n, ρ, Fs, S, e, Fr.grow (.refl H)⟩, ?_⟩
  rintro m σ1 H1 ⟨ρi, Fsi, Si, el, Fi⟩
  cases m with
  | zero => cases el
  | succ m =>
    obtain ⟨b, e1, e2⟩ := Option.bind_eq_some_iff.mp el
    have Sk := Si.kil fg
    have tk : Fr wb σ1 H1 ρi Fsi σ1 H1 (kil fg ρi) Fsi := Fr.less kil_less
    have Fk : Fr wb σ H ρ Fs σ1 H1 (kil fg ρi) Fsi := (Fi.trans tk).mono fun j hj => by simpa using hj
    refine hc B AF σ1 H1 (kil fg ρi) Fsi b Sk e1 _ fun H2 g2 => ?_
    have F2 : Fr wb σ H ρ Fs σ1 H2 (kil fg ρi) Fsi := (Fk.trans (Fr.grow (wr := wb) g2)).mono fun j hj => by simpa using hj
    cases b with
    | false =>
      rw [if_neg Bool.false_ne_true] at e2 ⊢
      cases e2
      exact p σ1 H2 Fsi (Sk.grow g2) F2
    | true =>
      rw [if_pos rfl] at e2 ⊢
      obtain ⟨ob, a2, el⟩ := Option.bind_eq_some_iff.mp e2
      have fin : ∀ {σ' H' ρ' Fs'}, Fr wb σ1 H2 (kil fg ρi) Fsi σ' H' ρ' Fs' → Fr wb σ H ρ Fs σ' H' ρ' Fs' := fun h => (F2.trans h).mono fun j hj => by simpa using hj
      refine ⟨fun σ' H' => ∃ ρi Fsi, SR K B AF σ' H' ρi Fsi ∧ sWhile fc fb fg m ρi = some o ∧ Fr wb σ H ρ Fs σ' H' ρi Fsi, fun σ' H' w => ⟨m, Nat.lt_succ_self _, w⟩, ?_⟩
      refine hb B AF σ1 H2 (kil fg ρi) Fsi ob (Sk.grow g2) a2 _ ?_
      cases ob with
      | nx ρ2 => exact fun σ' H' Fs' S' F' => ⟨ρ2, Fs', S', el, fin F'⟩
      | ct ρ2 => exact fun σ' H' Fs' S' F' => ⟨ρ2, Fs', S', el, fin F'⟩
      | bk ρ2 =>
        cases el
        exact fun σ' H' Fs' S' F' => p σ' H' Fs' (S'.kil fg) (((fin F').trans (Fr.less (wr := wb) kil_less)).mono fun j hj => by simpa using hj)
      | rt d r =>
        cases el
        exact p
      | ex c fs =>
        cases el
        exact p
end
end Va

/-! Va9: what is walked besides; what a def does. -/
namespace Va
open PySem L2

def intsFrom (lo : Int) (n : Nat) : List PyData := (List.range n).map fun i => PyData.int (lo + (i : Nat))
theorem intsFrom_get {lo : Int} {n i : Nat} {d : PyData} (h : (intsFrom lo n)[i]? = some d) : i < n ∧ d = .int (lo + (i : Nat)) := by
  unfold intsFrom at h
  rw [List.getElem?_map] at h
  obtain ⟨j, h1, h2⟩ := Option.map_eq_some_iff.mp h
  obtain ⟨h3, h4⟩ := List.getElem?_eq_some_iff.mp h1
  rw [List.length_range] at h3
  rw [List.getElem_range] at h4
  subst h4
  exact ⟨h3, h2.symm⟩
def i62 (i : Int) : Bool := decide (-(2 ^ 62) ≤ i) && decide (i < 2 ^ 62)
def iR1 (f : AFn) : IF := fun ρ => (f ρ).bind fun p => match p.1 with
  | [.int j] => if i62 j = true then some (intsFrom 0 j.toNat, .mv []) else none
  | _ => none
def iR2 (f : AFn) : IF := fun ρ => (f ρ).bind fun p => match p.1 with
  | [.int i, .int j] => if i62 i = true ∧ i62 j = true then some (intsFrom i (j - i).toNat, .mv []) else none
  | _ => none
section
variable {K : PySem.W.Frag} {ta : TA} {fa : AFn}
theorem itOk_range {H : Hp} {lo : Int} {n : Nat} : ItOk K (Itr lo n) H (intsFrom lo n) [] := by
  refine ⟨fun a h => (nomatch h), fun H' _ i d h => ?_, fun H' _ i h => ?_⟩
  · obtain ⟨h1, h2⟩ := intsFrom_get h
    refine ⟨h1, fun x H'' ⟨e1, e2⟩ => ?_⟩
    subst e1 e2 h2
    exact ⟨.refl _, [], .int _, fun a h => nomatch h⟩
  · have : (intsFrom lo n).length = n := by unfold intsFrom; simp
    show n ≤ i
    omega
theorem vi_range1 (h : VA K ta fa) : VI K (iRng1 ta) (iR1 fa) := by
  intro B AF σ H ρ Fs ds k S e R q
  obtain ⟨⟨es, k1⟩, e1, e2⟩ := Option.bind_eq_some_iff.mp e
  simp only at e2
  split at e2
  case h_2 => cases e2
  rename_i j
  split at e2
  case isFalse => cases e2
  rename_i hj
  cases e2
  simp only [i62, Bool.and_eq_true, decide_eq_true_eq] at hj
  refine h B AF σ H ρ Fs _ k1 S e1 _ fun vs H1 F g1 r1 o1 => ?_
  obtain ⟨v, rfl, rv⟩ := r1.one'
  cases rv
  exact ⟨j, rfl, hj.1, hj.2, q _ H1 [] g1 itOk_range fun a h => nomatch h⟩
theorem vi_range2 (h : VA K ta fa) : VI K (iRng2 ta) (iR2 fa) := by
  intro B AF σ H ρ Fs ds k S e R q
  obtain ⟨⟨es, k1⟩, e1, e2⟩ := Option.bind_eq_some_iff.mp e
  simp only at e2
  split at e2
  case h_2 => cases e2
  rename_i i j
  split at e2
  case isFalse => cases e2
  rename_i hj
  cases e2
  simp only [i62, Bool.and_eq_true, decide_eq_true_eq] at hj
  refine h B AF σ H ρ Fs _ k1 S e1 _ fun vs H1 F g1 r1 o1 => ?_
  obtain ⟨v, u, A, B', rfl, rv, ru, _⟩ := r1.two
  cases rv; cases ru
  exact ⟨i, j, rfl, ⟨hj.1.1, hj.1.2, hj.2.1, hj.2.2⟩, q _ H1 [] g1 itOk_range fun a h => nomatch h⟩
/-! ### enumerate -/
def enumD : List PyData → Nat → List PyData
  | [], _ => []
  | d :: ds, n => .tuple [.int (n : Nat), d] :: enumD ds (n + 1)
theorem enumD_get : ∀ {ds : List PyData} {n i : Nat} {d : PyData}, (enumD ds n)[i]? = some d → ∃ e, ds[i]? = some e ∧ d = .tuple [.int ((n + i : Nat) : Int), e]
  | [], _, _, _, h => by simp [enumD] at h
  | e :: ds, n, 0, d, h => by
    simp only [enumD, List.getElem?_cons_zero, Option.some.injEq] at h
    exact ⟨e, rfl, h.symm⟩
  | e :: ds, n, i + 1, d, h => by
    simp only [enumD, List.getElem?_cons_succ] at h
    obtain ⟨e', h1, h2⟩ := enumD_get h
    exact ⟨e', by simpa using h1, by rw [h2, show n + 1 + i = n + (i + 1) by omega]⟩
theorem enumD_len : ∀ (ds : List PyData) (n : Nat), (enumD ds n).length = ds.length
  | [], _ => rfl
  | _ :: ds, n => congrArg Nat.succ (enumD_len ds (n + 1))
def iEn (f : AFn) : IF := fun ρ => (f ρ).bind fun p => match p.1 with
  | [.list ds] => some (enumD ds 0, p.2)
  | _ => none
theorem vi_enum (h : VA K ta fa) : VI K (iEnum K ta) (iEn fa) := by
  intro B AF σ H ρ Fs ds k S e R q
  obtain ⟨⟨es, k1⟩, e1, e2⟩ := Option.bind_eq_some_iff.mp e
  simp only at e2
  split at e2
  case h_2 => cases e2
  rename_i xs
  cases e2
  refine h B AF σ H ρ Fs _ _ S e1 _ fun vs H1 F g1 r1 o1 => ?_
  obtain ⟨v, rfl, rv⟩ := r1.one'
  cases rv with
  | lst ha rl =>
    rename_i a us F
    refine ⟨a, us, rfl, .of ha, q _ H1 (a :: F) g1 ⟨fun b hb => ?_, fun H' e i d hd => ?_, fun H' e i hi => ?_⟩ o1.any⟩
    · exact (Rp.lst ha rl).mb b hb
    · obtain ⟨x, h1, rfl⟩ := enumD_get hd
      obtain ⟨w, A, G, B', h2, h3, h4⟩ := rl.get i h1
      have ha' : H' a = some (.lst us) := e _ _ ha (.inr (List.mem_cons_self ..))
      refine ⟨⟨us, w, .of ha', h2⟩, fun y H'' ⟨T, x', e1, e2, e3, e4⟩ => ?_⟩
      have := e4 us (.of ha')
      rw [h2] at this
      cases this
      subst e1 e3
      have hw : Rp K H' w x G := h3.kp (e.mono fun b hb => List.mem_cons_of_mem _ (by rw [h4]; exact List.mem_append_right _ (List.mem_append_left _ hb)))
      refine ⟨.new e2, G, ?_, fun b hb => List.mem_cons_of_mem _ (by rw [h4]; exact List.mem_append_right _ (List.mem_append_left _ hb))⟩
      have r2 : RpL K H' [V.int (i : Nat), w] [.int ((0 + i : Nat) : Int), x] ([] ++ (G ++ [])) := .cons (by rw [Nat.zero_add]; exact .int _) (.cons hw .nil)
      rw [List.nil_append, List.append_nil] at r2
      exact rp_tup r2 e2
    · exact ⟨us, .of (e _ _ ha (.inr (List.mem_cons_self ..))), by rw [enumD_len] at hi; rw [rl.length]; exact hi⟩
/-! ### a def -/
def env0 (n : Nat) (ds : List PyData) : Env := ds.map (fun d => some (d, m02 d)) ++ List.replicate (n - ds.length) none
def mOf (n : Nat) (f : SF) (ds : List PyData) : Option (PyData × Nat) := (f (env0 n ds)).bind fun o => match o with
  | .nx _ => some (.none, 2)
  | .rt d r => some (d, r)
  | _ => none
abbrev MF := List PyData → Option (PyData × Nat)
/-- the promise of a def of n parameters that does m to the data -/
def spOf (K : PySem.W.Frag) (n : Nat) (m : MF) : Sp := fun vs H Q _ => ∃ ds F d r, ds.length = n ∧ RpL K H vs ds F ∧ m ds = some (d, r) ∧ ∀ v H' G, Grow H H' → Rp K H' v d G → ROk r H F v G → Q v H'
theorem spOf_len {n : Nat} {m : MF} {vs : List V} {H : Hp} {Q : VK} {E : XK} (h : spOf K n m vs H Q E) : vs.length = n := by
  obtain ⟨ds, F, d, r, h1, h2, _⟩ := h
  rw [h2.length]; exact h1
theorem RpL.foot {H : Hp} : ∀ {vs : List V} {ds : List PyData} {F : List Addr}, RpL K H vs ds F → ∃ Fs : Nat → List Addr, ∀ (i : Nat) (d : PyData), ds[i]? = some d → ∃ v, vs[i]? = some v ∧ Rp K H v d (Fs i) ∧ ∀ a ∈ Fs i, a ∈ F
  | _, _, _, .nil => ⟨fun _ => [], fun i d h => by simp at h⟩
  | _, _, _, .cons (F := F) e r => by
    obtain ⟨Fs, h⟩ := RpL.foot r
    refine ⟨fun i => match i with
      | 0 => F
      | i + 1 => Fs i, fun i d hd => ?_⟩
    cases i with
    | zero =>
      cases hd
      exact ⟨_, rfl, e, fun a ha => List.mem_append_left _ ha⟩
    | succ i =>
      obtain ⟨v, h1, h2, h3⟩ := h i d hd
      exact ⟨v, h1, h2, fun a ha => List.mem_append_right _ (h3 a ha)⟩
theorem body_of {Wx : WxT} {wr : List Nat} {ts : TS} {f : SF} {N : List Str} {n k : Nat} {vs : List V} {H : Hp} {Q : VK} {E : XK} (h : VS K Wx wr ts f) (hs : spOf K k (mOf n f) vs H Q E) (hn : N.length = n) (hk : k ≤ n) :
    ts { nx := fun _ H' => Q .non H', rt := Q } (L2.start N vs) H := by
  obtain ⟨ds, F, d, r, h1, h2, h3, q⟩ := hs
  obtain ⟨o, h4, h5⟩ := Option.bind_eq_some_iff.mp h3
  obtain ⟨Fs, hF⟩ := h2.foot
  have lv := h2.length
  have live : ∀ (i : Nat) (d : PyData) (m : Nat), (env0 n ds)[i]? = some (some (d, m)) → ds[i]? = some d ∧ m = m02 d := by
    intro i d m q
    unfold env0 at q
    by_cases hi : i < (ds.map fun d => some (d, m02 d)).length
    · rw [List.getElem?_append_left hi, List.getElem?_map] at q
      obtain ⟨d', e1, e2⟩ := Option.map_eq_some_iff.mp q
      cases e2
      exact ⟨e1, rfl⟩
    · rw [List.getElem?_append_right (by omega), List.getElem?_replicate] at q
      split at q <;> cases q
  have S : SR K H F (L2.start N vs) H (env0 n ds) Fs := by
    refine ⟨?_, .refl H, fun i d m q => ?_, fun i j d m d' m' q q' ne a ha => ?_⟩
    · unfold L2.start env0
      simp only [List.length_append, List.length_map, List.length_replicate]
      omega
    · obtain ⟨e1, rfl⟩ := live i d m q
      obtain ⟨v, e2, e3, e4⟩ := hF i d e1
      refine ⟨v, ?_, e3, fun a ha => .inr (e4 a ha), (own02 e3).1⟩
      unfold L2.start
      have hi : i < (vs.map some).length := by
        rw [List.length_map]
        exact (List.getElem?_eq_some_iff.mp e2).1
      rw [List.getElem?_append_left hi, List.getElem?_map, e2]
      rfl
    · obtain ⟨e1, rfl⟩ := live i d m q
      obtain ⟨v, e2, e3, e4⟩ := hF i d e1
      rw [(own02 (B := H) e3).2] at ha
      cases ha
  refine h H F _ H (env0 n ds) Fs o S h4 _ ?_
  cases o with
  | nx ρ' =>
    cases h5
    exact fun σ' H' Fs' S' _ => q .non H' [] S'.same .non ⟨fun a h => (nomatch h), fun _ => ⟨List.nodup_nil, fun a h => (nomatch h)⟩, fun z => nomatch z⟩
  | bk ρ' => cases h5
  | ct ρ' => cases h5
  | ex c fs => cases h5
  | rt d' r' =>
    cases h5
    exact q
/-! ### a call of it -/
def calK (d : PyData) (r : Nat) (k : Kd) : Kd := if flat d then .mv [] else if r = 2 then .mv [] else if r = 1 then .sp k.src else .bo k.src
def gCall (n : Nat) (m : MF) : Gn := fun ds k => if ds.length = n then (m ds).map fun p => (p.1, calK p.1 p.2 k) else none
theorem vf_call {n : Nat} {m : MF} {E : XK} : VF K (fun vs H Q => spOf K n m (vs ++ []) H Q E) (gCall n m) := by
  intro ρ Fs H0 H vs ds F k d k' g r o e Q q
  unfold gCall at e
  split at e
  case isFalse => cases e
  rename_i hl
  obtain ⟨⟨d', r'⟩, e1, e2⟩ := Option.map_eq_some_iff.mp e
  cases e2
  show spOf K n m (vs ++ []) H Q E
  rw [List.append_nil]
  refine ⟨ds, F, d', r', hl, r, e1, fun v H' G g2 r2 ok => q v H' G g2 r2 ?_⟩
  have bo : ∀ a ∈ G, H0 a = none ∨ Src ρ Fs k.src a := fun a ha => by
    rcases ok.1 a ha with z | z
    · exact .inl (g.back z)
    · exact o.any a z
  show KV ρ Fs H0 v G (calK d' r' k)
  unfold calK
  split
  · rename_i hf
    rw [r2.flat hf]
    exact .nil
  · split
    · rename_i h
      obtain ⟨x1, x2⟩ := ok.2.1 h
      exact .mv ⟨x1, fun a ha => .inl (g.back (x2 a ha))⟩
    · split
      · rename_i h
        obtain ⟨p, G', x1, x2, x3, x4⟩ := ok.2.2 h
        exact ⟨bo, fun _ _ => ⟨p, G', x1, x2, x3, g.back x4⟩⟩
      · exact .bo bo
theorem ve_call {n : Nat} {m : MF} {E : XK} (h : VA K ta fa) : VE K (tCall (spOf K n m) [] E ta) (eApp (gCall n m) fa) := ve_appR h vf_call
/-- positional values, then keywords in the parameters' order -/
def aApp (f g : AFn) : AFn := fun ρ => (f ρ).bind fun p => (g ρ).bind fun q => some (p.1 ++ q.1, aj p.2 q.2)
theorem ve_callK {n : Nat} {m : MF} {E : XK} {tk : TA} {fk : AFn} (h : VA K ta fa) (hk : VA K tk fk) : VE K (tCallK (spOf K n m) (fun vs zs => vs ++ zs) E ta tk) (eApp (gCall n m) (aApp fa fk)) := by
  intro B AF σ H ρ Fs d k S e Q q
  obtain ⟨⟨ds, k0⟩, e0, e⟩ := Option.bind_eq_some_iff.mp e
  obtain ⟨⟨ds1, k1⟩, e1, e2⟩ := Option.bind_eq_some_iff.mp e0
  obtain ⟨⟨ds2, k2⟩, e3, e4⟩ := Option.bind_eq_some_iff.mp e2
  cases e4
  refine h B AF σ H ρ Fs ds1 k1 S e1 _ fun vs H1 F g1 r1 o1 => ?_
  refine hk B AF σ H1 ρ Fs ds2 k2 (S.grow g1) e3 _ fun zs H2 G g2 r2 o2 => ?_
  have := vf_call (E := E) ρ Fs H H2 (vs ++ zs) (ds1 ++ ds2) (F ++ G) (aj k1 k2) d k (g1.trans g2) (RpL.app (r1.grow g2) r2) (KO.join S g1 o1 (fun a ha => r1.stn ha) o2) e Q fun v H3 G' g3 r3 o3 => q v H3 G' ((g1.trans g2).trans g3) r3 o3
  simp only [List.append_nil] at this
  exact this
end
end Va

/-! Va10: built-ins, slices, texts. -/
namespace Va
open PySem L2

section
variable {K : PySem.W.Frag} {ta tb tc te : TE} {t : TA} {f g h : EF} {fa : AFn}

/-! ### truth values as values -/
def eAndV (f g : EF) : EF := fun ρ => (f ρ).bind fun p => (bOf p.1).bind fun b => if b = true then (g ρ).map fun q => (q.1, q.2) else some (.bool false, .mv [])
def eOrV (f g : EF) : EF := fun ρ => (f ρ).bind fun p => (bOf p.1).bind fun b => if b = true then some (.bool true, .mv []) else (g ρ).map fun q => (q.1, q.2)
def eNotV (f : EF) : EF := fun ρ => (f ρ).bind fun p => (bOf p.1).map fun b => (.bool (!b), .mv [])
theorem KV.back {ρ : Env} {Fs : Nat → List Addr} {H H' : Hp} {v : V} {F : List Addr} {k : Kd} (o : KV ρ Fs H' v F k) (g : Grow H H') : KV ρ Fs H v F k :=
  ⟨o.1.back g, fun L z => let ⟨p, G, a1, a2, a3, a4⟩ := o.2 L z; ⟨p, G, a1, a2, a3, g.back a4⟩⟩
theorem ve_andV (ha : VE K ta f) (hb : VE K tb g) : VE K (tAndV ta tb) (eAndV f g) := by
  intro B AF σ H ρ Fs d k S e Q q
  obtain ⟨⟨d1, k1⟩, e1, e2⟩ := Option.bind_eq_some_iff.mp e
  obtain ⟨b, e3, e4⟩ := Option.bind_eq_some_iff.mp e2
  cases bOf_eq e3
  refine ha B AF σ H ρ Fs _ k1 S e1 _ fun v H1 F g1 r1 o1 => ⟨b, rp_bool r1, ?_⟩
  cases b with
  | true =>
    rw [if_pos rfl] at e4 ⊢
    obtain ⟨⟨d2, k2⟩, e5, e6⟩ := Option.map_eq_some_iff.mp e4
    cases e6
    exact hb B AF σ H1 ρ Fs _ _ (S.grow g1) e5 Q fun v H2 F g2 r2 o2 => q v H2 F (g1.trans g2) r2 (o2.back g1)
  | false =>
    rw [if_neg Bool.false_ne_true] at e4 ⊢
    cases e4
    exact q _ H1 [] g1 (.bl _) .nil
theorem ve_orV (ha : VE K ta f) (hb : VE K tb g) : VE K (tOrV ta tb) (eOrV f g) := by
  intro B AF σ H ρ Fs d k S e Q q
  obtain ⟨⟨d1, k1⟩, e1, e2⟩ := Option.bind_eq_some_iff.mp e
  obtain ⟨b, e3, e4⟩ := Option.bind_eq_some_iff.mp e2
  cases bOf_eq e3
  refine ha B AF σ H ρ Fs _ k1 S e1 _ fun v H1 F g1 r1 o1 => ⟨b, rp_bool r1, ?_⟩
  cases b with
  | false =>
    rw [if_neg Bool.false_ne_true] at e4 ⊢
    obtain ⟨⟨d2, k2⟩, e5, e6⟩ := Option.map_eq_some_iff.mp e4
    cases e6
    exact hb B AF σ H1 ρ Fs _ _ (S.grow g1) e5 Q fun v H2 F g2 r2 o2 => q v H2 F (g1.trans g2) r2 (o2.back g1)
  | true =>
    rw [if_pos rfl] at e4 ⊢
    cases e4
    exact q _ H1 [] g1 (.bl _) .nil
theorem ve_notV (ha : VE K ta f) : VE K (tNotV ta) (eNotV f) := by
  intro B AF σ H ρ Fs d k S e Q q
  obtain ⟨⟨d1, k1⟩, e1, e2⟩ := Option.bind_eq_some_iff.mp e
  obtain ⟨b, e3, e4⟩ := Option.map_eq_some_iff.mp e2
  cases e4
  cases bOf_eq e3
  exact ha B AF σ H ρ Fs _ k1 S e1 _ fun v H1 F g1 r1 o1 => ⟨b, rp_bool r1, q _ H1 [] g1 (.bl _) .nil⟩
/-! ### a op b op c -/
def eChain (h1 h2 : List PyData → Option PyData) (f g h : EF) : EF := fun ρ => (f ρ).bind fun p => (g ρ).bind fun q => (h1 [p.1, q.1]).bind fun z => (bOf z).bind fun b =>
  if b = true then (h ρ).bind fun r => (h2 [q.1, r.1]).map fun z => (z, .mv []) else some (.bool false, .mv [])
theorem ve_chain {r r' : R2} {h1 h2 : List PyData → Option PyData} (v1 : VFf K (r2l r) h1) (v2 : VFf K (r2l r') h2) (ha : VE K ta f) (hb : VE K tb g) (hc : VE K tc h) : VE K (tChain r r' ta tb tc) (eChain h1 h2 f g h) := by
  intro B AF σ H ρ Fs d k S e Q q
  obtain ⟨⟨d1, k1⟩, e1, e⟩ := Option.bind_eq_some_iff.mp e
  obtain ⟨⟨d2, k2⟩, e2, e⟩ := Option.bind_eq_some_iff.mp e
  obtain ⟨z, e3, e⟩ := Option.bind_eq_some_iff.mp e
  obtain ⟨b, e4, e'⟩ := Option.bind_eq_some_iff.mp e
  have ez := bOf_eq e4
  subst ez
  refine ha B AF σ H ρ Fs d1 k1 S e1 _ fun v H1 F g1 r1 o1 => ?_
  refine hb B AF σ H1 ρ Fs d2 k2 (S.grow g1) e2 _ fun u H2 G g2 r2 o2 => ?_
  have g12 := g1.trans g2
  refine v1 H2 [v, u] [d1, d2] (F ++ (G ++ [])) (.bool b) (.cons (r1.grow g2) (.cons r2 .nil)) e3 _ fun z H3 g3 r3 => ⟨b, rp_bool r3, ?_⟩
  have g13 := g12.trans g3
  cases b with
  | false =>
    rw [if_neg Bool.false_ne_true] at e' ⊢
    cases e'
    exact q _ H3 [] g13 (.bl _) .nil
  | true =>
    rw [if_pos rfl] at e' ⊢
    obtain ⟨⟨d3, k3⟩, e5, e⟩ := Option.bind_eq_some_iff.mp e'
    obtain ⟨z2, e6, e7⟩ := Option.map_eq_some_iff.mp e
    cases e7
    refine hc B AF σ H3 ρ Fs d3 k3 (S.grow g13) e5 _ fun w H4 G2 g4 r4 o4 => ?_
    exact v2 H4 [u, w] [d2, d3] (G ++ (G2 ++ [])) _ (.cons ((r2.grow g3).grow g4) (.cons r4 .nil)) e6 Q fun z H5 g5 r5 => q z H5 [] (g13.trans (g4.trans g5)) r5 .nil
/-! ### slices -/
def VO (K : PySem.W.Frag) (to : TO) (f : Env → Option (Option Int)) : Prop := ∀ (B : Hp) (AF : List Addr) (σ : L2.St) (H : Hp) (ρ : Env) (Fs : Nat → List Addr) (i : Option Int), SR K B AF σ H ρ Fs → f ρ = some i →
  ∀ Q : Option Int → Hp → Prop, (∀ H', Grow H H' → Q i H') → to σ H Q
def oNo : Env → Option (Option Int) := fun _ => some none
def oPart (f : EF) : Env → Option (Option Int) := fun ρ => (f ρ).bind fun p => match p.1 with
  | .int i => some (some i)
  | _ => none
theorem vo_no : VO K tNoPart oNo := by
  intro B AF σ H ρ Fs i S e Q q
  cases e
  exact q H (.refl H)
theorem vo_part (ha : VE K te f) : VO K (tPart te) (oPart f) := by
  intro B AF σ H ρ Fs i S e Q q
  obtain ⟨⟨d, k⟩, e1, e2⟩ := Option.bind_eq_some_iff.mp e
  simp only at e2
  split at e2
  case h_2 => cases e2
  rename_i j
  cases e2
  exact ha B AF σ H ρ Fs _ k S e1 _ fun v H1 F g1 r1 o1 => by
    cases r1
    exact ⟨j, rfl, q H1 g1⟩
def cutD (ds : List PyData) (lo hi : Option Int) : List PyData := (ds.drop (HT.sIx ds.length 0 lo)).take (HT.sIx ds.length ds.length hi - HT.sIx ds.length 0 lo)
def rSlAny (K : PySem.W.Frag) : V → Option Int → Option Int → Hp → VK → Prop := fun x lo hi H Q => rSlL K x lo hi H Q ∨ rSlA K x lo hi H Q ∨ rSlS x lo hi H Q
def slD (d : PyData) (k : Kd) (lo hi : Option Int) : Option (PyData × Kd) := match d with
  | .list ds => some (.list (cutD ds lo hi), lstK (cutD ds lo hi) k)
  | .tuple ds => some (.tuple (cutD ds lo hi), tupK (cutD ds lo hi) k)
  | .str x => if x.length ≤ 1000000 then some (.str (cutS x lo hi), .mv []) else none
  | _ => none
def eSl (f : EF) (lo hi : Env → Option (Option Int)) : EF := fun ρ => (f ρ).bind fun p => (lo ρ).bind fun i => (hi ρ).bind fun j => slD p.1 p.2 i j
theorem rp_cut {H : Hp} {vs : List V} {ds : List PyData} {F : List Addr} (r : RpL K H vs ds F) (lo hi : Option Int) : ∃ G, RpL K H (cutV vs lo hi) (cutD ds lo hi) G ∧ List.Sublist G F := by
  unfold cutV cutD
  rw [r.length]
  obtain ⟨A, B, h1, h2, h3⟩ := r.parts (HT.sIx ds.length 0 lo)
  obtain ⟨A', B', h4, h5, h6⟩ := h3.parts (HT.sIx ds.length ds.length hi - HT.sIx ds.length 0 lo)
  exact ⟨A', h5, by rw [h1, h4]; exact (List.sublist_append_left A' B').trans (List.sublist_append_right A (A' ++ B'))⟩
theorem cutV_whole {us : List V} {i j : Option Int} (w : HT.sIx us.length 0 i = 0 ∧ HT.sIx us.length us.length j = us.length) : cutV us i j = us := by
  unfold cutV
  rw [w.1, w.2, List.drop_zero, Nat.sub_zero, List.take_length]
theorem ve_slice {tl th : TO} {lo hi : Env → Option (Option Int)} (ha : VE K te f) (hl : VO K tl lo) (hh : VO K th hi) : VE K (tSl (rSlAny K) te tl th) (eSl f lo hi) := by
  intro B AF σ H ρ Fs d k S e Q q
  obtain ⟨⟨d1, k1⟩, e1, e⟩ := Option.bind_eq_some_iff.mp e
  obtain ⟨i, e2, e⟩ := Option.bind_eq_some_iff.mp e
  obtain ⟨j, e3, e⟩ := Option.bind_eq_some_iff.mp e
  refine ha B AF σ H ρ Fs d1 k1 S e1 _ fun v H1 F g1 r1 o1 => ?_
  refine hl B AF σ H1 ρ Fs i (S.grow g1) e2 _ fun H2 g2 => ?_
  refine hh B AF σ H2 ρ Fs j ((S.grow g1).grow g2) e3 _ fun H3 g3 => ?_
  have g13 := (g1.trans g2).trans g3
  have rv := (r1.grow g2).grow g3
  unfold slD at e
  cases rv with
  | lst h0 r0 =>
    cases e
    obtain ⟨G, r2, s2⟩ := rp_cut r0 i j
    refine .inl ⟨_, _, rfl, .of h0, fun p hp => q _ _ _ (g13.trans (.new hp)) (rp_lst r2 hp) (kv_lst r2 (o1.1.sub (s2.trans (List.sublist_cons_self ..))) g13 hp)⟩
  | tup h0 r0 =>
    cases e
    obtain ⟨G, r2, s2⟩ := rp_cut r0 i j
    refine .inr (.inl ⟨_, _, rfl, h0, fun w => ?_, fun w p hp => q _ _ _ (g13.trans (.new hp)) (rp_tup r2 hp) (kv_tup r2 (o1.1.sub s2))⟩)
    rw [cutV_whole w] at r2
    exact q _ _ _ g13 (.tup h0 r2) (kv_tup r2 (o1.1.sub s2))
  | str x =>
    simp only at e
    split at e
    · rename_i hz
      cases e
      exact .inr (.inr ⟨x, rfl, le_line hz, q _ _ [] g13 (.str _) .nil⟩)
    · cases e
  | non => cases e
  | bl b => cases e
  | int b => cases e
  | dic a b => cases e

/-! ### built-ins -/
def hLen : List PyData → Option PyData
  | [.list xs] => some (.int (xs.length : Nat))
  | [.tuple xs] => some (.int (xs.length : Nat))
  | [.str x] => if x.length ≤ 1000000 then some (.int (x.length : Nat)) else none
  | _ => none
theorem vf_len : VFf K (fun xs H Q => ∃ x n, xs = [x] ∧ LenV K x H n ∧ Q (.int n) H) hLen := by
  intro H vs ds F d r e Q q
  unfold hLen at e
  split at e
  · cases e
    obtain ⟨v, rfl, r1⟩ := r.one'
    cases r1 with
    | lst h0 r0 => exact ⟨_, _, rfl, .inl ⟨_, .of h0, rfl⟩, by rw [r0.length]; exact q _ H (.refl H) (.int _)⟩
  · cases e
    obtain ⟨v, rfl, r1⟩ := r.one'
    cases r1 with
    | tup h0 r0 => exact ⟨_, _, rfl, .inr ⟨_, h0, rfl⟩, by rw [r0.length]; exact q _ H (.refl H) (.int _)⟩
  · split at e
    · rename_i x hz
      cases e
      obtain ⟨v, rfl, r1⟩ := r.one'
      cases r1
      exact ⟨_, _, rfl, ⟨le_line hz, rfl⟩, q _ H (.refl H) (.int _)⟩
    · cases e
  · cases e
def hInt : List PyData → Option PyData
  | [.int i] => some (.int i)
  | [.bool b] => some (.int (if b then 1 else 0))
  | _ => none
theorem vf_int : VFf K (fun xs H Q => (∃ i, xs = [.int i] ∧ Q (.int i) H) ∨ ∃ k, xs = [.bl k] ∧ Q (.int (if k then 1 else 0)) H) hInt := by
  intro H vs ds F d r e Q q
  unfold hInt at e
  split at e
  · cases e
    obtain ⟨v, rfl, r1⟩ := r.one'
    cases r1
    exact .inl ⟨_, rfl, q _ H (.refl H) (.int _)⟩
  · cases e
    obtain ⟨v, rfl, r1⟩ := r.one'
    cases r1
    exact .inr ⟨_, rfl, q _ H (.refl H) (.int _)⟩
  · cases e
/-- str(an int of a size, a text) -/
def rStrA : List V → Hp → VK → Prop := fun xs H Q => (∃ i, xs = [.int i] ∧ i.natAbs.log2 < 1920 ∧ Q (.str (toString i)) H) ∨ ∃ a, xs = [.str a] ∧ Q (.str a) H
def hStr : List PyData → Option PyData
  | [.int i] => if i.natAbs.log2 < 1920 then some (.str (toString i)) else none
  | [.str x] => some (.str x)
  | _ => none
theorem vf_str : VFf K rStrA hStr := by
  intro H vs ds F d r e Q q
  unfold hStr at e
  split at e
  · split at e
    · rename_i hz
      cases e
      obtain ⟨v, rfl, r1⟩ := r.one'
      cases r1
      exact .inl ⟨_, rfl, hz, q _ H (.refl H) (.str _)⟩
    · cases e
  · cases e
    obtain ⟨v, rfl, r1⟩ := r.one'
    cases r1
    exact .inr ⟨_, rfl, q _ H (.refl H) (.str _)⟩
  · cases e
/-- isinstance(e, T), T a built-in class -/
def tyD : PyData → String
  | .none => "NoneType"
  | .bool _ => "bool"
  | .int _ => "int"
  | .str _ => "str"
  | .list _ => "list"
  | .tuple _ => "tuple"
  | .dict _ => "dict"
def isiD (T : String) (d : PyData) : Bool := (kitB (tyD d) T).getD false
def isiOk (T : String) : Bool := (["NoneType", "bool", "int", "str", "list", "tuple", "dict"].all fun a => (kitB a T).isSome)
def eIsi (T : String) (f : EF) : EF := fun ρ => (f ρ).map fun p => (.bool (isiD T p.1), .mv [])
theorem rp_ty {H : Hp} {v : V} {d : PyData} {F : List Addr} (r : Rp K H v d F) : TyX K H v (.type (tyD d)) := by
  cases r with
  | non => exact .base .non
  | bl b => exact .base (.bl b)
  | int b => exact .base (.int b)
  | str b => exact .base (.str b)
  | lst h0 r0 => exact .base (.lst h0)
  | tup h0 r0 =>
    rcases h0 with (h0 | ⟨o, h0⟩) | ⟨o, its, n, h1, h2, _⟩
    · exact .base (.tup h0)
    · exact .fTuple h0
    · exact .kTuple h1 h2
  | dic h0 r0 =>
    rcases h0 with ⟨kvs, h0, _⟩ | ⟨kvs, h0, _⟩
    · exact .base (.dK h0)
    · exact .base (.dT h0)
theorem ve_isi (T : String) (hT : isiOk T = true) (ha : VE K te f) : VE K (tCB (rIsi K) (tCons te (tCons (tC (.ty T)) tNil))) (eIsi T f) := by
  intro B AF σ H ρ Fs d k S e Q q
  obtain ⟨⟨d1, k1⟩, e1, e2⟩ := Option.map_eq_some_iff.mp e
  cases e2
  refine ha B AF σ H ρ Fs d1 k1 S e1 _ fun v H1 F g1 r1 o1 => ?_
  have hk : kitB (tyD d1) T = some (isiD T d1) := by
    have h2 : (kitB (tyD d1) T).isSome = true := by
      refine List.all_eq_true.mp hT (tyD d1) ?_
      cases d1 <;> simp [tyD]
    unfold isiD
    obtain ⟨b, hb⟩ := Option.isSome_iff_exists.mp h2
    rw [hb]
    rfl
  exact ⟨v, .ty T, .type (tyD d1), .type T, isiD T d1, rfl, .ty T, rp_ty r1, kit_ty hk, q _ H1 [] g1 (.bl _) .nil⟩
/-! ### lists of ints, of truth values -/
def intsOf : List PyData → Option (List Int)
  | [] => some []
  | .int i :: ds => (intsOf ds).map (i :: ·)
  | _ => none
theorem intsOf_rp {H : Hp} : ∀ {ds : List PyData} {ns : List Int} {vs : List V} {F : List Addr}, intsOf ds = some ns → RpL K H vs ds F → vs = ns.map V.int
  | [], ns, vs, F, h, r => by cases h; cases r; rfl
  | .int i :: ds, ns, vs, F, h, r => by
    obtain ⟨ms, e1, e2⟩ := Option.map_eq_some_iff.mp h
    subst e2
    cases r with
    | cons r0 rs =>
      cases r0
      rw [List.map_cons, intsOf_rp e1 rs]
  | .none :: _, _, _, _, h, _ => by cases h
  | .bool _ :: _, _, _, _, h, _ => by cases h
  | .str _ :: _, _, _, _, h, _ => by cases h
  | .list _ :: _, _, _, _, h, _ => by cases h
  | .tuple _ :: _, _, _, _, h, _ => by cases h
  | .dict _ :: _, _, _, _, h, _ => by cases h
def boolsOf : List PyData → Option (List Bool)
  | [] => some []
  | .bool b :: ds => (boolsOf ds).map (b :: ·)
  | _ => none
theorem boolsOf_rp {H : Hp} : ∀ {ds : List PyData} {ns : List Bool} {vs : List V} {F : List Addr}, boolsOf ds = some ns → RpL K H vs ds F → vs = ns.map V.bl
  | [], ns, vs, F, h, r => by cases h; cases r; rfl
  | .bool i :: ds, ns, vs, F, h, r => by
    obtain ⟨ms, e1, e2⟩ := Option.map_eq_some_iff.mp h
    subst e2
    cases r with
    | cons r0 rs =>
      cases r0
      rw [List.map_cons, boolsOf_rp e1 rs]
  | .none :: _, _, _, _, h, _ => by cases h
  | .int _ :: _, _, _, _, h, _ => by cases h
  | .str _ :: _, _, _, _, h, _ => by cases h
  | .list _ :: _, _, _, _, h, _ => by cases h
  | .tuple _ :: _, _, _, _, h, _ => by cases h
  | .dict _ :: _, _, _, _, h, _ => by cases h
def hSum : List PyData → Option PyData
  | [.list ds] => (intsOf ds).map fun ns => .int ns.sum
  | _ => none
def hAny : List PyData → Option PyData
  | [.list ds] => (boolsOf ds).map fun ns => .bool (ns.any id)
  | _ => none
def hAll : List PyData → Option PyData
  | [.list ds] => (boolsOf ds).map fun ns => .bool (ns.all id)
  | _ => none
theorem vf_sum : VFf K (rSum K) hSum := by
  intro H vs ds F d r e Q q
  unfold hSum at e
  split at e
  · obtain ⟨ns, e1, e2⟩ := Option.map_eq_some_iff.mp e
    cases e2
    obtain ⟨v, rfl, r1⟩ := r.one'
    cases r1 with
    | lst h0 r0 => exact ⟨_, ns, rfl, .of (by rw [← intsOf_rp e1 r0]; exact h0), q _ H (.refl H) (.int _)⟩
  · cases e
theorem vf_any : VFf K (rAny K) hAny := by
  intro H vs ds F d r e Q q
  unfold hAny at e
  split at e
  · obtain ⟨ns, e1, e2⟩ := Option.map_eq_some_iff.mp e
    cases e2
    obtain ⟨v, rfl, r1⟩ := r.one'
    cases r1 with
    | lst h0 r0 => exact ⟨_, ns, rfl, .of (by rw [← boolsOf_rp e1 r0]; exact h0), q _ H (.refl H) (.bl _)⟩
  · cases e
theorem vf_all : VFf K (rAll K) hAll := by
  intro H vs ds F d r e Q q
  unfold hAll at e
  split at e
  · obtain ⟨ns, e1, e2⟩ := Option.map_eq_some_iff.mp e
    cases e2
    obtain ⟨v, rfl, r1⟩ := r.one'
    cases r1 with
    | lst h0 r0 => exact ⟨_, ns, rfl, .of (by rw [← boolsOf_rp e1 r0]; exact h0), q _ H (.refl H) (.bl _)⟩
  · cases e
def maxI : List Int → Int
  | [] => 0
  | n :: ns => ns.foldl max n
def minI : List Int → Int
  | [] => 0
  | n :: ns => ns.foldl min n
theorem foldl_max (ns : List Int) : ∀ n : Int, ns.foldl max n ∈ n :: ns ∧ ∀ y ∈ n :: ns, y ≤ ns.foldl max n := by
  induction ns with
  | nil => intro n; exact ⟨List.mem_cons_self .., fun y hy => by rcases List.mem_singleton.mp hy with rfl; exact Int.le_refl _⟩
  | cons m ms ih =>
    intro n
    obtain ⟨h1, h2⟩ := ih (max n m)
    refine ⟨?_, fun y hy => ?_⟩
    · rcases List.mem_cons.mp h1 with h | h
      · show List.foldl max (max n m) ms ∈ _
        rw [h]
        rcases Int.le_total n m with h3 | h3
        · rw [Int.max_eq_right h3]; exact List.mem_cons_of_mem _ (List.mem_cons_self ..)
        · rw [Int.max_eq_left h3]; exact List.mem_cons_self ..
      · exact List.mem_cons_of_mem _ (List.mem_cons_of_mem _ h)
    · show y ≤ List.foldl max (max n m) ms
      have h0 := h2 (max n m) (List.mem_cons_self ..)
      rcases List.mem_cons.mp hy with rfl | hy
      · exact Int.le_trans (Int.le_max_left ..) h0
      · rcases List.mem_cons.mp hy with rfl | hy
        · exact Int.le_trans (Int.le_max_right ..) h0
        · exact h2 y (List.mem_cons_of_mem _ hy)
theorem foldl_min (ns : List Int) : ∀ n : Int, ns.foldl min n ∈ n :: ns ∧ ∀ y ∈ n :: ns, ns.foldl min n ≤ y := by
  induction ns with
  | nil => intro n; exact ⟨List.mem_cons_self .., fun y hy => by rcases List.mem_singleton.mp hy with rfl; exact Int.le_refl _⟩
  | cons m ms ih =>
    intro n
    obtain ⟨h1, h2⟩ := ih (min n m)
    refine ⟨?_, fun y hy => ?_⟩
    · rcases List.mem_cons.mp h1 with h | h
      · show List.foldl min (min n m) ms ∈ _
        rw [h]
        rcases Int.le_total n m with h3 | h3
        · rw [Int.min_eq_left h3]; exact List.mem_cons_self ..
        · rw [Int.min_eq_right h3]; exact List.mem_cons_of_mem _ (List.mem_cons_self ..)
      · exact List.mem_cons_of_mem _ (List.mem_cons_of_mem _ h)
    · show List.foldl min (min n m) ms ≤ y
      have h0 := h2 (min n m) (List.mem_cons_self ..)
      rcases List.mem_cons.mp hy with rfl | hy
      · exact Int.le_trans h0 (Int.min_le_left ..)
      · rcases List.mem_cons.mp hy with rfl | hy
        · exact Int.le_trans h0 (Int.min_le_right ..)
        · exact h2 y (List.mem_cons_of_mem _ hy)
def hMax : List PyData → Option PyData
  | [.list ds] => (intsOf ds).bind fun ns => if ns.isEmpty then none else some (.int (maxI ns))
  | _ => none
def hMin : List PyData → Option PyData
  | [.list ds] => (intsOf ds).bind fun ns => if ns.isEmpty then none else some (.int (minI ns))
  | _ => none
theorem vf_max : VFf K (rMax K) hMax := by
  intro H vs ds F d r e Q q
  unfold hMax at e
  split at e
  · obtain ⟨ns, e1, e2⟩ := Option.bind_eq_some_iff.mp e
    split at e2
    · cases e2
    · cases e2
      obtain ⟨v, rfl, r1⟩ := r.one'
      cases r1 with
      | lst h0 r0 =>
        cases ns with
        | nil => simp at *
        | cons n ns =>
          refine ⟨_, n :: ns, rfl, .of (by rw [← intsOf_rp e1 r0]; exact h0), Nat.succ_pos _, fun m hm hy => ?_⟩
          obtain ⟨h1, h2⟩ := foldl_max ns n
          have : m = maxI (n :: ns) := Int.le_antisymm (h2 m hm) (hy _ h1)
          subst this
          exact q _ H (.refl H) (.int _)
  · cases e
theorem vf_min : VFf K (rMin K) hMin := by
  intro H vs ds F d r e Q q
  unfold hMin at e
  split at e
  · obtain ⟨ns, e1, e2⟩ := Option.bind_eq_some_iff.mp e
    split at e2
    · cases e2
    · cases e2
      obtain ⟨v, rfl, r1⟩ := r.one'
      cases r1 with
      | lst h0 r0 =>
        cases ns with
        | nil => simp at *
        | cons n ns =>
          refine ⟨_, n :: ns, rfl, .of (by rw [← intsOf_rp e1 r0]; exact h0), Nat.succ_pos _, fun m hm hy => ?_⟩
          obtain ⟨h1, h2⟩ := foldl_min ns n
          have : m = minI (n :: ns) := Int.le_antisymm (hy _ h1) (h2 m hm)
          subst this
          exact q _ H (.refl H) (.int _)
  · cases e
/-! ### list(..), tuple(..) -/
def gList : Gn := fun ds k => match ds with
  | [.list xs] => some (.list xs, lstK xs k)
  | [.tuple xs] => some (.list xs, lstK xs k)
  | _ => none
def gTuple : Gn := fun ds k => match ds with
  | [.list xs] => some (.tuple xs, tupK xs k)
  | [.tuple xs] => some (.tuple xs, tupK xs k)
  | _ => none
theorem vf_list : VF K (fun xs H Q => ∃ p ys, xs = [.ref p] ∧ (SqL K H p ys ∨ SqT K H p ys) ∧ ∀ l, H l = none → Q (.ref l) (upd H l (.lst ys))) gList := by
  intro ρ Fs H0 H vs ds F k d k' g r o e Q q
  unfold gList at e
  split at e
  · cases e
    obtain ⟨v, rfl, r1⟩ := r.one'
    cases r1 with
    | lst h0 r0 => exact ⟨_, _, rfl, .inl (.of h0), fun p hp => q _ _ _ (.new hp) (rp_lst r0 hp) (kv_lst r0 (o.sub (List.sublist_cons_self ..)) g hp)⟩
  · cases e
    obtain ⟨v, rfl, r1⟩ := r.one'
    cases r1 with
    | tup h0 r0 => exact ⟨_, _, rfl, .inr h0, fun p hp => q _ _ _ (.new hp) (rp_lst r0 hp) (kv_lst r0 o g hp)⟩
  · cases e
theorem vf_tuple : VF K (fun xs H Q => ∃ p ys, xs = [.ref p] ∧ ((SqL K H p ys ∧ ∀ l, H l = none → Q (.ref l) (upd H l (.tup ys))) ∨ (SqT K H p ys ∧ Q (.ref p) H))) gTuple := by
  intro ρ Fs H0 H vs ds F k d k' g r o e Q q
  unfold gTuple at e
  split at e
  · cases e
    obtain ⟨v, rfl, r1⟩ := r.one'
    cases r1 with
    | lst h0 r0 => exact ⟨_, _, rfl, .inl ⟨.of h0, fun p hp => q _ _ _ (.new hp) (rp_tup r0 hp) (kv_tup r0 (o.sub (List.sublist_cons_self ..)))⟩⟩
  · cases e
    obtain ⟨v, rfl, r1⟩ := r.one'
    cases r1 with
    | tup h0 r0 => exact ⟨_, _, rfl, .inr ⟨h0, q _ _ _ (.refl H) (.tup h0 r0) (kv_tup r0 o)⟩⟩
  · cases e
/-! ### join -/
def strsOf : List PyData → Option (List Str)
  | [] => some []
  | .str i :: ds => (strsOf ds).map (i :: ·)
  | _ => none
theorem strsOf_rp {H : Hp} : ∀ {ds : List PyData} {ns : List Str} {vs : List V} {F : List Addr}, strsOf ds = some ns → RpL K H vs ds F → vs = ns.map V.str
  | [], ns, vs, F, h, r => by cases h; cases r; rfl
  | .str i :: ds, ns, vs, F, h, r => by
    obtain ⟨ms, e1, e2⟩ := Option.map_eq_some_iff.mp h
    subst e2
    cases r with
    | cons r0 rs =>
      cases r0
      rw [List.map_cons, strsOf_rp e1 rs]
  | .none :: _, _, _, _, h, _ => by cases h
  | .int _ :: _, _, _, _, h, _ => by cases h
  | .bool _ :: _, _, _, _, h, _ => by cases h
  | .list _ :: _, _, _, _, h, _ => by cases h
  | .tuple _ :: _, _, _, _, h, _ => by cases h
  | .dict _ :: _, _, _, _, h, _ => by cases h
def rJoin (K : PySem.W.Frag) : V → List V → Hp → VK → Prop := fun x xs H Q => ∃ a p, ∃ ys : List Str, x = .str a ∧ xs = [.ref p] ∧ (SqL K H p (ys.map V.str) ∨ SqT K H p (ys.map V.str)) ∧
  (ys.map (·.length)).sum + ys.length * a.length ≤ 16777216 ∧ Q (.str (Txt.join a ys)) H
def joinD (a d : PyData) : Option PyData := match a, d with
  | .str a, .list ds => (strsOf ds).bind fun ys => if (ys.map (·.length)).sum + ys.length * a.length ≤ 1000000 then some (.str (Txt.join a ys)) else none
  | _, _ => none
def eM1 (h : PyData → PyData → Option PyData) (f g : EF) : EF := fun ρ => (f ρ).bind fun p => (g ρ).bind fun q => match p.1 with
  | .str _ => (h p.1 q.1).map fun d => (d, .mv [])
  | _ => none
theorem ve_join (ha : VE K ta f) (hb : VE K tb g) : VE K (tM1 (rJoin K) ta tb) (eM1 joinD f g) := by
  intro B AF σ H ρ Fs d k S e Q q
  obtain ⟨⟨d1, k1⟩, e1, e⟩ := Option.bind_eq_some_iff.mp e
  obtain ⟨⟨d2, k2⟩, e2, e⟩ := Option.bind_eq_some_iff.mp e
  simp only at e
  split at e
  case h_2 => cases e
  rename_i a
  obtain ⟨d3, e3, e4⟩ := Option.map_eq_some_iff.mp e
  cases e4
  refine ha B AF σ H ρ Fs _ k1 S e1 _ fun v H1 F g1 r1 o1 => ?_
  cases r1
  refine ⟨⟨_, rfl⟩, hb B AF σ H1 ρ Fs d2 k2 (S.grow g1) e2 _ fun u H2 G g2 r2 o2 => ?_⟩
  unfold joinD at e3
  split at e3
  · rename_i a' ds z
    cases z
    obtain ⟨ys, e5, e6⟩ := Option.bind_eq_some_iff.mp e3
    split at e6
    · rename_i hz
      cases e6
      cases r2 with
      | lst h0 r0 =>
        have := strsOf_rp e5 r0
        subst this
        exact ⟨_, _, ys, rfl, rfl, .inl (.of h0), Nat.le_trans hz (by decide), q _ H2 [] (g1.trans g2) (.str _) .nil⟩
    · cases e6
  · cases e3
/-! ### a star in a display -/
def aStar (f : EF) (g : AFn) : AFn := fun ρ => (f ρ).bind fun p => (g ρ).bind fun q => (iterD p.1).map fun ds => (ds ++ q.1, aj p.2 q.2)
theorem aj_sub {ρ : Env} {Fs : Nat → List Addr} {H : Hp} {F G : List Addr} {k : Kd} (o : KO ρ Fs H G k) (s : List.Sublist F G) : KO ρ Fs H F k := o.sub s
theorem va_star (h1 : VE K te f) (h2 : VA K t fa) : VA K (StX.tStar K te t) (aStar f fa) := by
  intro B AF σ H ρ Fs ds k S e Q q
  obtain ⟨⟨d, k1⟩, e1, e⟩ := Option.bind_eq_some_iff.mp e
  obtain ⟨⟨ds2, k2⟩, e2, e⟩ := Option.bind_eq_some_iff.mp e
  obtain ⟨ds1, e3, e4⟩ := Option.map_eq_some_iff.mp e
  cases e4
  refine h1 B AF σ H ρ Fs d k1 S e1 _ fun v H1 F g1 r1 o1 => ?_
  cases d with
  | list xs =>
    cases e3
    cases r1 with
    | lst h0 r0 =>
      refine ⟨_, _, rfl, .inr (.of h0), h2 B AF σ H1 ρ Fs ds2 k2 (S.grow g1) e2 _ fun vs H2 G g2 r2 o2 => ?_⟩
      exact q _ H2 _ (g1.trans g2) (RpL.app (r0.grow g2) r2) (KO.join S g1 (o1.1.sub (List.sublist_cons_self ..)) (fun a ha => r0.stn ha) o2)
  | tuple xs =>
    cases e3
    cases r1 with
    | tup h0 r0 =>
      refine ⟨_, _, rfl, .inl h0, h2 B AF σ H1 ρ Fs ds2 k2 (S.grow g1) e2 _ fun vs H2 G g2 r2 o2 => ?_⟩
      exact q _ H2 _ (g1.trans g2) (RpL.app (r0.grow g2) r2) (KO.join S g1 o1.1 (fun a ha => r0.stn ha) o2)
  | none => cases e3
  | bool _ => cases e3
  | int _ => cases e3
  | str _ => cases e3
  | dict _ => cases e3
end
end Va

/-! Va11: the rules of the syntax that these readings want; calls; repr; the law's end. -/
namespace Va
open PySem L2 PyProof.Rows

section
variable {X : Cx}
theorem op_addA : OpR X (binaryOp .Add) (rAddA X.K) := op_add.or (op_add_str.or (op_cat.or op_catA))
theorem op_mulA : OpR X (binaryOp .Mult) rMulA := op_mul.or op_rep
theorem op_eqA (hu : X.A.units + 64 < cLine) : OpR X (compareOp .Eq) (fun x y H Q => rEqD X.K x y H Q ∨ rEq x y H Q) := (op_eqD hu).or op_eq
theorem op_neA (hu : X.A.units + 64 < cLine) : OpR X (compareOp .NotEq) (fun x y H Q => rNeD X.K x y H Q ∨ rNe x y H Q) := (op_neD hu).or op_ne
theorem sl_any : SlR X (rSlAny X.K) := sl_list.or (sl_tupA.or sl_str)
theorem call_strA : CallR X (.type "str") rStrA := call_str_int.or SkE.call_str_str
theorem pi_any {tg l : Expr} {tl : TE} (hl : PE X l tl) : PI X tg l (iAny X.K tl) :=
  ⟨fun pins s σ H R I h => h.elim ((pi_list hl).run pins s σ H R I) ((pi_tup hl).run pins s σ H R I)⟩
end

/-- the def x: of n parameters, at the level k, does m -/
structure Cl (P : Program) (w : World) (K : PySem.W.Frag) (mg : Str → Option Value) (base : Heap) (x : Str) (k n : Nat) (m : MF) : Prop where
  ex : ∃ (f : Addr) (fd : FuncData) (ps : List Str), FnOk P w K mg base CX0 k f fd ps (spOf K n m) ∧ mg x = some (.ref f) ∧ PySem.W.keepIn K (.ref f) = true ∧ Binds K fd ps []
theorem pe_callC {X : Cx} {x : Str} {k j n : Nat} {m : MF} {e : Expr} {es : List Expr} {t : TA} {p pos : Pos} (C : Cl X.prog X.w X.K X.mg X.base x k n m) (hr : Room j X.A) (hj : k ≤ j) (ha : PA X (e :: es) t)
    (hg : Gl X x := by rfl) (hd : (x == ("__debug__" : Str)) = false := by decide) (he : starEach (e :: es) X.env = (false, eval e X.env) :: starEach es X.env := by rfl)
    (hp : (backTo pos (starEach es X.env)).any (·.1) = false := by rfl) : PE X (.Call (.Name x p) (e :: es) [] pos) (tCall (spOf X.K n m) [] E0 t) := by
  obtain ⟨f, fd, ps, F, h1, h2, h3⟩ := C.ex
  exact pe_call F (hr.mono hj) hg h1 h2 h3 .nil pass0 ha hd he hp

/-! ### repr -/
def rRepr (K : PySem.W.Frag) : List V → Hp → VK → Prop := fun vs H Q => ∃ x d, vs = [x] ∧ Dp K H x d ∧ PyData.showable d = true ∧ PyData.canLay0 d = true ∧ d.depth ≤ 60 ∧ d.shown.length ≤ sizeLine ∧ Q (.str d.shown) H
theorem hasDict_of : ∀ {d : PyData}, PyData.canLay0 d = true → d.hasDict = false := by
  intro d
  refine PyData.rec (motive_1 := fun d => PyData.canLay0 d = true → d.hasDict = false) (motive_2 := fun ds => PyData.canLayAll0 ds = true → PyData.hasDictAll ds = false) (motive_3 := fun _ => True) (motive_4 := fun _ => True) ?_ ?_ ?_ ?_ ?_ ?_ ?_ ?_ ?_ ?_ ?_ ?_ d
  · intro _; rfl
  · intro _ _; rfl
  · intro _ _; rfl
  · intro _ _; rfl
  · intro xs ih h; simp only [PyData.canLay0] at h; simp only [PyData.hasDict]; exact ih h
  · intro xs ih h; simp only [PyData.canLay0] at h; simp only [PyData.hasDict]; exact ih h
  · intro kvs _ h; simp [PyData.canLay0] at h
  · intro _; rfl
  · intro x xs h1 h2 h
    simp only [PyData.canLayAll0, Bool.and_eq_true] at h
    simp only [PyData.hasDictAll, h1 h.1, h2 h.2, Bool.or_self]
  · trivial
  · intros; trivial
  · intros; trivial
theorem cr_repr {X : Cx} (hg : X.A.guards = some []) (hu : X.A.units + 64 < cLine) : CallR X (.builtin "repr") (rRepr X.K) := by
  intro pins s σ H vs us Q I r h
  obtain ⟨x, d, rfl, hd, h1, h2, h3, h4, q⟩ := h
  obtain ⟨u, rfl, rx⟩ := vals1 r
  obtain ⟨as, rd⟩ := Dp.reads I d x u hd rx
  have fin : ∀ h' u' tk, (∀ b o, s.heap.get? b = some o → h'.get? b = some o) → EP X pins σ Q (.str d.shown u') { s with heap := h', toks := tk } := fun h' u' tk hk => ⟨.str d.shown, H, I.kept hk, ⟨u', rfl⟩, q⟩
  have ref : ∀ a, u = .ref a → wpAny (model X.prog X.w) X.A (call (.builtin "repr") [u]) (EP X pins σ Q) X.xe s := fun a e => by
    subst e
    exact repr_of_reads' rd h1 (fun e => by rw [hasDict_of h2] at e; cases e) hg (by omega) (fun _ _ e => e) (fun h' u' tk hk => fin h' u' tk hk) h4
  cases hd with
  | lst h0 r0 => cases rx; exact ref _ rfl
  | tup h0 r0 => cases rx; exact ref _ rfl
  | non => cases rx; exact PySem.P.repr_of_none (fin s.heap _ _ fun _ _ e => e)
  | bl b => cases rx; exact PySem.P.repr_of_bool (fin s.heap _ _ fun _ _ e => e)
  | int i =>
    obtain ⟨t, rfl⟩ := rx
    simp only [PyData.showable, decide_eq_true_eq] at h1
    exact PySem.P.repr_of_int h1 (fin s.heap _ _ fun _ _ e => e)
  | str z =>
    obtain ⟨t, rfl⟩ := rx
    exact PySem.P.repr_of_str (fin s.heap _ _ fun _ _ e => e) h4
def reprOk (d : PyData) : Bool := PyData.showable d && PyData.canLay0 d && decide (d.depth ≤ 60) && decide (d.shown.length ≤ 1000000)
def hRepr : List PyData → Option PyData
  | [d] => if reprOk d = true then some (.str d.shown) else none
  | _ => none
theorem vf_repr {K : PySem.W.Frag} : VFf K (rRepr K) hRepr := by
  intro H vs ds F d r e Q q
  unfold hRepr at e
  split at e
  · split at e
    · rename_i d' h
      cases e
      obtain ⟨v, rfl, r1⟩ := r.one'
      simp only [reprOk, Bool.and_eq_true, decide_eq_true_eq] at h
      exact ⟨v, d', rfl, r1.dp h.1.1.2, h.1.1.1, h.1.1.2, h.1.2, le_line h.2, q _ H (.refl H) (.str _)⟩
    · cases e
  · cases e

/-! ### a law: what it does to a list of ints -/
/-- as FnOk, where no repr runs around -/
structure FnG (P : Program) (w : World) (K : PySem.W.Frag) (mg : Str → Option Value) (base : Heap) (k : Nat) (f : Addr) (fd : FuncData) (ps : List Str) (sp : Sp) : Prop where
  len : ∀ vs H Q E, sp vs H Q E → vs.length = ps.length
  run : ∀ (A : Around) (outer : List PySem.Env) (s : Shared) (H : Hp) (args : Args) (us : List Value) (vs : List V) (Q : VK) (E : XK), A.guards = some [] → Room k A → Env0 P w K mg base A outer s H →
    BindsTo s fd args (ps.zip us) → Vals vs us → sp vs H Q E → codeAny (model P w) A (.call (.ref f) args) (CR CX0 outer P w H s Q E) s

/-- the body of such a def, where it is known that no repr runs around -/
theorem fnG_of {P : Program} {w : World} {K : PySem.W.Frag} {mg : Str → Option Value} {base : Heap} {x qual : Str} {st : Stmt} {f : Addr} {fd : FuncData} {N ps : List Str} {k : Nat} {sp : Sp} (F : Fun K x qual st f fd) (S : FnScope N ps (defScope st)) (len : ∀ vs H Q E, sp vs H Q E → vs.length = ps.length)
    (hbody : ∀ (cdv : Value) (A : Around) (outer : List PySem.Env) (s : Shared) (H : Hp) (vs : List V) (Q : VK) (E : XK), A.guards = some [] → Room k (A.deeper (envOfC qual (defScope st) s.heap.objs.size f cdv)) → sp vs H Q E →
      ∃ t, PSs (cxOf CX0 P w K mg base N qual (defScope st) f cdv A outer s H E).nox (defBody st) t ∧ t { nx := fun _ H' => Q .non H', rt := Q } (L2.start N vs) H) : FnG P w K mg base (k + 1) f fd ps sp := by
  obtain ⟨oc, od, kV, doc, pm, an, cdv, ct, osl, rfl, lk, hcd⟩ := F.ex
  constructor
  · exact len
  intro A outer s H args us vs Q E gd room e0 bd rel hs
  have inn : ∀ b o, base.get? b = some o → s.heap.get? b = some o := fun b o e => (e0.bs b o e).1
  have KX : K.In s.heap := e0.mod.kin.keeps inn
  have lim := e0.mod.nolimit.keeps inn
  have kinds : ∀ y ∈ ps.zip us, (defScope st).names.lookup y.1 = some .local ∨ ((defScope st).names.lookup y.1 = some .cell ∧ ((PySem.cellsFrom (s.heap.objs.size + 1) (defScope st).names []).lookup y.1).isSome = true) := by
    rintro ⟨n, v⟩ hy
    rcases S.par n (List.of_mem_zip hy).1 with z | z
    · exact .inl z
    · exact .inr ⟨z, PySem.W.cellsFrom_some _ _ _ (.inl z)⟩
  refine codeAny_call_function room.depth (KX _ _ lk) rfl S.co S.gen rfl (PySem.W.codeRec_of KX hcd) (bd _ _ _ _ ?_)
  refine wpAny_newFunctionEnv_cells S.kind kinds fun env he s1 x => ?_
  subst he
  refine ⟨lim.keeps x.toInCall.keep, codeAny_func ?_⟩
  obtain ⟨t, ht, hq⟩ := hbody cdv A outer s H vs Q E gd (room.deeper _) hs
  have I := inv_start (CX := CX0) (P := P) (w := w) (K := K) (mg := mg) (base := base) (E := E) S room.hd e0 (len _ _ _ _ hs) rel x
  refine wpAny_mono (ht.nox.run [] s1 _ H _ I hq) (fun fl s' z => ?_) fun _ _ z => z
  cases fl with
  | ret u =>
    obtain ⟨v, σ', H', J, rv, q⟩ := z
    exact ⟨v, H', J.os, J.bare, J.base, J.hok, rv, q⟩
  | next =>
    obtain ⟨σ', H', J, q⟩ := z
    exact ⟨.non, H', J.os, J.bare, J.base, J.hok, rfl, q⟩
  | brk => obtain ⟨_, _, _, q⟩ := z; exact q.elim
  | cont => obtain ⟨_, _, _, q⟩ := z; exact q.elim

/-- the script alone is tracked, as a thing that the model knows -/
def scriptH (K : PySem.W.Frag) (a : Addr) (o : Obj) (vs : List V) : Hp := fun b => if b = a ∧ K.lookup a = none then some (.frz o (.lst vs)) else none
theorem scriptH_some {K : PySem.W.Frag} {a b : Addr} {o : Obj} {vs : List V} {u : HO} (h : scriptH K a o vs b = some u) : b = a ∧ K.lookup a = none ∧ u = .frz o (.lst vs) := by
  unfold scriptH at h
  split at h
  · rename_i hc
    cases h
    exact ⟨hc.1, hc.2, rfl⟩
  · cases h
/-- a def that keeps its promise at the law's entry, called there -/
theorem enter_G {P : Program} {w : World} {K : PySem.W.Frag} {mg mb : Str → Option Value} {k : Nat} {fa a : Addr} {fd : FuncData} {x : Str} {sp : Sp} {s : Shared} {vs : List Value} {ns : List Int}
    (KX : K.In s.heap) (hm : s.heap.Ns mainGlobals mg) (hb : s.heap.Ns builtinsNs mb) (hbb : ∀ y : Str, y ≠ "__name__" → mb y = bootBuiltins y) (lim : s.heap.NoLimit) (hg : s.gens = #[])
    (ha : s.heap.get? a = some { cls := .type "list", data := .seq vs.toArray }) (hi : IntsAre vs ns) (hl : ns.length ≤ sizeLine) (room : Room k callerA)
    (F : ∀ base : Heap, K.In base → base.Ns mainGlobals mg → FnG P w K mg base k fa fd [x] sp) (bd : ∀ (s : Shared) (u : Value), BindsTo s fd ⟨[u], []⟩ [(x, u)])
    (hsp : ∀ H : Hp, SqL K H a (ns.map V.int) → sp [.ref a] H (fun v _ => v = .bl true) fun _ _ _ => False) :
    codeAny (model P w) callerA (.call (.ref fa) ⟨[.ref a], []⟩) (fun r s' => r = .ok (.ret (.bool true)) ∧ OldK s.heap s'.heap ∧ s'.os = s.os ∧ AllBare s'.gens) s := by
  have rel := vals_ints hi
  let o : Obj := { cls := .type "list", data := .seq vs.toArray }
  let H := scriptH K a o (ns.map V.int)
  -- a thing that is tracked is the script
  have only : ∀ {b : Addr} {u : HO}, H b = some u → b = a ∧ K.lookup a = none ∧ u = .frz o (.lst (ns.map V.int)) := fun e => scriptH_some e
  have notd : ∀ {b : Addr} {ob : Obj} {es : Array DictEntry} {n : Nat}, s.heap.get? b = some ob → ob.data = .dict es n → H b = none := fun {b ob es n} e d => by
    cases q : H b with
    | none => rfl
    | some u =>
      obtain ⟨rfl, _, _⟩ := only q
      rw [ha] at e
      cases e
      have d' : Data.seq vs.toArray _ = Data.dict es n := d
      cases d'
  have sqK : SqL K H a (ns.map V.int) := by
    cases hk : K.lookup a with
    | none => exact .inl (.inr ⟨o, if_pos ⟨rfl, hk⟩⟩)
    | some ok =>
      have e := KX a ok hk
      rw [ha] at e
      cases e
      refine .inr ⟨_, vs.toArray, _, hk, rfl, rfl, rfl, ?_, by simpa using rel⟩
      rw [List.size_toArray, hi.length]
      exact hl
  have hok : HOk P w H s.heap := fun b u e => by
    obtain ⟨rfl, _, rfl⟩ := only e
    refine ⟨ha, ?_, vs, _, rel, ha⟩
    rw [List.length_map]
    exact hl
  let base := hidT s.heap H
  have toB : ∀ {b : Addr} {ob : Obj}, s.heap.get? b = some ob → H b = none → base.get? b = some ob := fun e n => hidT_get e n
  have nsB : ∀ {b : Addr} {m : Str → Option Value}, s.heap.Ns b m → base.Ns b m := fun ⟨ob, es, n, e, d, r⟩ => ⟨ob, es, n, toB e (notd e d), d, r⟩
  have KB : K.In base := fun b ob e => toB (KX b ob e) (by
    cases q : H b with
    | none => rfl
    | some u =>
      obtain ⟨rfl, z, _⟩ := only q
      rw [z] at e
      cases e)
  have M : Mod K mg base := ⟨KB, nsB hm, ⟨mb, nsB hb, hbb⟩, lim.elim fun mc z => ⟨mc, nsB z.1, z.2⟩⟩
  have e0 : Env0 P w K mg base callerA [] s H := by
    refine ⟨rfl, M, fun b ob e => of_hidT e, Nat.le_of_eq (hidT_size _ _), trivial, fun b hb => ?_, hok, .of_eq hg⟩
    exact absurd (show b ∈ ([] : List Addr) from hb) List.not_mem_nil
  refine codeAny_mono ((F base KB (nsB hm)).run callerA [] s H ⟨[.ref a], []⟩ [.ref a] [.ref a] _ _ rfl room e0 (bd s (.ref a)) (.cons rfl .nil) (hsp H sqK)) fun r s' z => ?_
  cases r with
  | error e => exact z.elim
  | ok fl =>
    cases fl with
    | next => exact z.elim
    | brk => exact z.elim
    | cont => exact z.elim
    | ret u =>
      obtain ⟨v, H', os, bare, un, hok', rv, q⟩ := z
      have q' : v = .bl true := q
      subst q'
      obtain rfl : u = Value.bool true := rv
      refine ⟨rfl, OldK.of_keep fun b ob e => ?_, os, bare⟩
      cases y : H b with
      | none => exact un.keep b ob e y (fun z => absurd (show b ∈ ([] : List Addr) from z) List.not_mem_nil) List.not_mem_nil
      | some u =>
        obtain ⟨rfl, _, rfl⟩ := only y
        obtain ⟨e1, _⟩ := hok' b _ (un.frzs b o _ y)
        rw [ha] at e
        cases e
        exact e1
/-- what a law is to do: its def, called with a list of at most 63 ints, gives True -/
def spLaw (K : PySem.W.Frag) : Sp := fun vs H Q _ => ∃ (a : Addr) (ns : List Int), vs = [.ref a] ∧ SqL K H a (ns.map V.int) ∧ ns.length ≤ 63 ∧ ∀ H', Q (.bl true) H'
theorem walk_G {l : PySem.W.OpenLaw} {k : Nat} {q : Program} {loose : List Str} {XP : (Str → Option Value) → Heap → Prop} {YP : World → Heap → Prop} {d : DefRec} {K : Params → PySem.W.Frag} {x : Str}
    (hn : l.most = some 63) (hdf : d.params.defaults = []) (room : Room k callerA) (hY : ∀ (w : World) (h : Heap), YP w h → (K w.params).In h)
    (F : ∀ (w : World) (mg : Str → Option Value) (fa : Addr) (h : Heap), (K w.params).In h → h.Ns mainGlobals mg → mg d.name = some (.ref fa) →
      ∃ fd : FuncData, (∀ (s : Shared) (u : Value), BindsTo s fd ⟨[u], []⟩ [(x, u)]) ∧ ∀ base : Heap, (K w.params).In base → base.Ns mainGlobals mg → FnG l.prog w (K w.params) mg base k fa fd [x] (spLaw (K w.params))) :
    PySem.W.WalkO q loose XP YP l.row.toRowW d [] (fun f vs => PySem.call f vs) := by
  refine Att.attach_call hn hdf fun w s0 s1 mg mb fa o pm cd doc a vs ns G Y ho hd hcd hmg hobj hints hlen hg => ?_
  have KX := hY w _ Y
  obtain ⟨fd, hb, hF⟩ := F w mg fa _ KX G.T.g hmg
  exact enter_G KX G.T.g G.T.b G.T.builtins G.T.nolimit hg hobj hints (Nat.le_trans hlen (by rw [sizeLine_eq]; decide)) room hF hb fun H hS => ⟨a, ns, rfl, hS, hlen, fun _ => rfl⟩
end Va

/-! Va12: a, b = ..; the laws' draws. -/
namespace Va
open PySem L2

section
variable {K : PySem.W.Frag} {Wx : WxT} {te : TE} {f : EF} {g : TG} {st : SG} {ns : List Nat}
/-- a, b, .. = value -/
def sAsgT (st : SG) (f : EF) : SF := fun ρ => (f ρ).bind fun p => (st p.1 (dem p.2.src ρ)).map .nx
theorem vs_asgT (hg : VG K ns g st) (h : VE K te f) : VS K Wx ns (tAsg te g) (sAsgT st f) := by
  intro B AF σ H ρ Fs o S e D p
  obtain ⟨⟨d, k⟩, e1, e2⟩ := Option.bind_eq_some_iff.mp e
  obtain ⟨ρ', e3, e4⟩ := Option.map_eq_some_iff.mp e2
  subst e4
  refine h B AF σ H ρ Fs d k S e1 _ fun v H1 F g1 r1 o1 => ?_
  have less : ∀ (i : Nat) (d : PyData) (m : Nat), (dem k.src ρ)[i]? = some (some (d, m)) → ∃ m0, ρ[i]? = some (some (d, m0)) ∧ (m = m0 ∨ m = 0) := fun i d m q => let ⟨m0, q0, q1, _⟩ := dem_get q; ⟨m0, q0, q1⟩
  have S1 : SR K B AF σ H1 (dem k.src ρ) Fs := (S.grow g1).less (dem_len _) less
  have fr : Free (dem k.src ρ) Fs F := fun j e n q a ha hF => by
    obtain ⟨n0, q0, q1, q2⟩ := dem_get q
    rcases o1.1.any a hF with z | ⟨l, hl, ⟨d', m', z⟩, ma⟩
    · exact S.there q0 (Mf_sub ha) z
    · by_cases e' : j = l
      · subst e'
        rw [q2 hl, Mf0] at ha; cases ha
      · exact S.dis j l e n0 d' m' q0 z e' a (Mf_le q1 ha) ma
  refine hg B AF σ H1 _ ρ' Fs v d F S1 r1 (rok_of S o1).1 fr e3 _ fun σ' Fs' S' T => p σ' H1 Fs' S' ?_
  refine Fr.from_ (H' := H1) (ρ' := dem k.src ρ) ?_ g1 less
  refine ⟨fun a h => h, fun a o h _ => h, fun j hj d m q a ha => ?_, fun j hj => ?_⟩
  · rw [(T.ins j hj d m q).1] at ha
    cases ha
  · obtain ⟨h1, h2, h3⟩ := T.out j hj
    exact ⟨h1, fun d m q => ⟨m, by rw [← h2]; exact q, h3, fun a ha => ha⟩⟩
end

/-! ### draws -/
def intsD (ds : List Int) : PyData := .list (ds.map PyData.int)
theorem rp_ints {K : PySem.W.Frag} {H : Hp} : ∀ ns : List Int, RpL K H (ns.map V.int) (ns.map PyData.int) []
  | [] => .nil
  | n :: ns => by
    have := RpL.cons (K := K) (H := H) (.int n) (rp_ints ns)
    exact this
theorem flat_ints : ∀ ns : List Int, flatL (ns.map PyData.int) = true
  | [] => rfl
  | n :: ns => by simp only [List.map_cons, flatL, flat, flat_ints ns, Bool.and_self]
def Drawn (n : Nat) (ds : List Int) : Prop := ds.length = n ∧ ∀ d ∈ ds, 0 ≤ d ∧ d < 1000
/-- the def that draws: from the script and a count a new list of that many ints from 0 to 999 -/
def spDraws (K : PySem.W.Frag) : Sp := fun vs H Q _ => ∃ (a : Addr) (ns : List Int) (n : Nat), vs = [.ref a, .int n] ∧ SqL K H a (ns.map V.int) ∧ ns.length ≤ 63 ∧ n ≤ 1000 ∧
  ∀ ds : List Int, Drawn n ds → ∀ v H' G, Grow H H' → Rp K H' v (intsD ds) G → ROk 2 H [] v G → Q v H'
/-- [c for c in script] -/
theorem draw_copy {K : PySem.W.Frag} {σ : L2.St} {H : Hp} {a : Addr} {ns : List Int} {c : Nat} {Q : VK} (h0 : σ[0]? = some (some (.ref a))) (hS : SqL K H a (ns.map V.int)) (hl : ns.length ≤ 63) (hc : c < σ.length)
    (q : ∀ D H', Grow H H' → H D = none → H' D = some (.lst (ns.map V.int)) → Q (.ref D) H') : tLc (iList K (tVar 0)) (gName c) tYes (tVar c) [c] σ H Q := by
  refine ⟨_, h0, a, rfl, ⟨_, hS⟩, fun D hD => ?_⟩
  refine lc_list (xs := ns.map V.int) (fun i H' => Grow H H' ∧ H' D = some (.lst ((ns.map V.int).take i))) ⟨.new hD, upd_same⟩ (fun i H' _ w => ?_) (fun i x H' hx w => ⟨?_, ?_⟩) fun H' w => ?_
  · rcases hS with (h | ⟨o, h⟩) | h
    · exact .inl (.inl (w.1 _ _ h))
    · exact .inl (.inr ⟨o, w.1 _ _ h⟩)
    · exact .inr h
  · exact (wipe_set (x := some x) [c] (wipe σ [c]) (List.mem_singleton.mpr rfl)).trans (wipe_sub [c] fun _ h => h)
  · have hx' : ((wipe σ [c]).set c (some x))[c]? = some (some x) := by
      rw [List.getElem?_set_self]
      rw [wipe_length]
      exact hc
    refine ⟨x, hx', (ns.map V.int).take i, w.2, ?_, fun b o e => ?_, ?_⟩
    · have : ((ns.map V.int).take i).length ≤ 63 := by
        rw [List.length_take, List.length_map]
        omega
      exact lt_line (by omega)
    · have : b ≠ D := by
        rintro rfl
        rw [hD] at e; cases e
      rw [upd_ne this]
      exact w.1 b o e
    · rw [upd_same]
      obtain ⟨h1, h2⟩ := List.getElem?_eq_some_iff.mp hx
      rw [List.take_succ_eq_append_getElem h1, h2]
  · have e := w.2
    rw [List.take_length] at e
    exact q D H' w.1 hD e
/-- the state with one own list of ints, at i -/
theorem sr_one {K : PySem.W.Frag} {H H' : Hp} {σ : L2.St} {i : Nat} {v : V} {ds : List Int} {G : List Addr} (hi : i < σ.length) (g : Grow H H') (r : Rp K H' v (intsD ds) G) (o : ROk 2 H [] v G) :
    SR K H [] (σ.set i (some v)) H' ((List.replicate σ.length none).set i (some (intsD ds, 2))) (fun _ => G) := by
  have live : ∀ (j : Nat) (d : PyData) (m : Nat), ((List.replicate σ.length (none : Sl)).set i (some (intsD ds, 2)))[j]? = some (some (d, m)) → j = i ∧ d = intsD ds ∧ m = 2 := by
    intro j d m q
    rcases set_some q with ⟨h, z⟩ | ⟨_, z⟩
    · cases z; exact ⟨h, rfl, rfl⟩
    · rw [List.getElem?_replicate] at z
      split at z <;> cases z
  refine ⟨by simp, g, fun j d m q => ?_, fun j j' d m d' m' q q' ne a ha => ?_⟩
  · obtain ⟨rfl, rfl, rfl⟩ := live j d m q
    obtain ⟨o1, o2, _⟩ := o
    obtain ⟨n1, n2⟩ := o2 rfl
    exact ⟨v, by rw [List.getElem?_set_self hi], r, fun a ha => .inl (n2 a ha), fun a ha => n2 a ha, fun z => (nomatch z), fun _ => n1⟩
  · obtain ⟨rfl, _, _⟩ := live j d m q
    obtain ⟨rfl, _, _⟩ := live j' d' m' q'
    exact absurd rfl ne
/-- a law that draws n numbers into the slot i and then goes on -/
theorem law_draws {K : PySem.W.Frag} {Wx : WxT} {wr : List Nat} {tr : TS} {f : SF} {N : List Str} {i n : Nat} {vs : List V} {H : Hp} {Q : VK} {E : XK} (h : VS K Wx wr tr f) (hs : spLaw K vs H Q E) (hn : n ≤ 1000) (hi : i < N.length) (h0 : 0 < N.length)
    (hf : ∀ ds : List Int, Drawn n ds → f ((List.replicate N.length none).set i (some (intsD ds, 2))) = some (.rt (.bool true) 2)) :
    tSeq (tAsg (tCall (spDraws K) [] E0 (tCons (tVar 0) (tCons (tC (.int (n : Nat))) tNil))) (gName i)) tr { nx := fun _ H' => Q .non H', rt := Q } (L2.start N vs) H := by
  obtain ⟨a, ns, rfl, hS, hl, q⟩ := hs
  have ln : (L2.start N [V.ref a]).length = N.length := by
    unfold L2.start
    simp only [List.length_append, List.length_map, List.length_replicate, List.length_cons, List.length_nil]
    omega
  refine ⟨_, rfl, a, ns, n, rfl, hS, hl, hn, fun ds hd v H' G g r o => ?_⟩
  have S := sr_one (σ := L2.start N [V.ref a]) (by rw [ln]; exact hi) g r o
  rw [ln] at S
  refine h H [] _ H' _ _ _ S (hf ds hd) _ ?_
  intro v' H2 G' g2 r2 _
  rw [rp_bool r2]
  exact q H2
end Va

/-! Va13: calls with keywords; loops by an invariant; the draws. -/
namespace Va
open PySem L2 PyProof.Rows

def noX : WxT := fun _ _ _ _ => True
def eIf (c : Env → Option Bool) (f g : EF) : EF := fun ρ => (c ρ).bind fun x => if x = true then f ρ else g ρ
theorem spDraws_len {K : PySem.W.Frag} {vs : List V} {H : Hp} {Q : VK} {E : XK} (h : spDraws K vs H Q E) : vs.length = 2 := by
  obtain ⟨a, ns, n, rfl, _⟩ := h
  rfl
theorem spLaw_len {K : PySem.W.Frag} {vs : List V} {H : Hp} {Q : VK} {E : XK} (h : spLaw K vs H Q E) : vs.length = 1 := by
  obtain ⟨a, ns, rfl, _⟩ := h
  rfl
/-! ### calls -/
structure Cd (P : Program) (w : World) (K : PySem.W.Frag) (mg : Str → Option Value) (base : Heap) (x : Str) (k : Nat) : Prop where
  ex : ∃ (f : Addr) (fd : FuncData) (ps : List Str), FnOk P w K mg base CX0 k f fd ps (spDraws K) ∧ mg x = some (.ref f) ∧ PySem.W.keepIn K (.ref f) = true ∧ Binds K fd ps []
theorem pe_callD {X : Cx} {x : Str} {k j : Nat} {e : Expr} {es : List Expr} {t : TA} {p pos : Pos} (C : Cd X.prog X.w X.K X.mg X.base x k) (hr : Room j X.A) (hj : k ≤ j) (ha : PA X (e :: es) t)
    (hg : Gl X x := by rfl) (hd : (x == ("__debug__" : Str)) = false := by decide) (he : starEach (e :: es) X.env = (false, eval e X.env) :: starEach es X.env := by rfl)
    (hp : (backTo pos (starEach es X.env)).any (·.1) = false := by rfl) : PE X (.Call (.Name x p) (e :: es) [] pos) (tCall (spDraws X.K) [] E0 t) := by
  obtain ⟨f, fd, ps, F, h1, h2, h3⟩ := C.ex
  exact pe_call F (hr.mono hj) hg h1 h2 h3 .nil pass0 ha hd he hp
/-- .. with keyword-only parameters, none of them with a default: np positional ones, the keywords ks -/
structure Ck (P : Program) (w : World) (K : PySem.W.Frag) (mg : Str → Option Value) (base : Heap) (x : Str) (k n : Nat) (m : MF) (np : Nat) (ks : List Str) : Prop where
  ex : ∃ (f : Addr) (fd : FuncData) (ps : List Str), FnOk P w K mg base CX0 k f fd ps (spOf K n m) ∧ mg x = some (.ref f) ∧ PySem.W.keepIn K (.ref f) = true ∧ KBn K fd ps np ks (fun us ws => us ++ ws) (fun vs zs => vs ++ zs)
theorem pe_callKC {X : Cx} {x : Str} {k j n np : Nat} {m : MF} {ks : List Str} {e : Expr} {es : List Expr} {kws : List Keyword} {t tk : TA} {p pos : Pos} (C : Ck X.prog X.w X.K X.mg X.base x k n m np ks) (hr : Room j X.A) (hj : k ≤ j) (ha : PA X (e :: es) t) (hk : PK X kws tk)
    (hg : Gl X x := by rfl) (h1 : (backToKw pos (keywordEach kws X.env)).all (·.1.isSome) = true := by rfl) (h2 : (backToKw pos (keywordEach kws X.env)).filterMap (·.1) = ks := by rfl)
    (hd : (x == ("__debug__" : Str)) = false := by decide) (he : starEach (e :: es) X.env = (false, eval e X.env) :: starEach es X.env := by rfl)
    (hp : ((backTo pos (starEach (e :: es) X.env)).any (·.1) || (backToKw pos (keywordEach kws X.env)).any (·.1.isNone)) = false := by rfl) :
    PE X (.Call (.Name x p) (e :: es) kws pos) (tCallN np ks.length (spOf X.K n m) (fun vs zs => vs ++ zs) E0 t tk) := by
  obtain ⟨f, fd, ps, F, a1, a2, a3⟩ := C.ex
  exact pe_callN F (hr.mono hj) hg a1 a2 a3 pass0 ha hk h1 h2 hd he hp
theorem kbinds_of {K : PySem.W.Frag} {x qual : Str} {st : Stmt} {f : Addr} {fd : FuncData} {ps ks : List Str} {np : Nat} (F : Fun K x qual st f fd)
    (h : ∀ (us ws : List Value) (kV doc pm : Value) (an : Option Addr) (cdv ct : Value), us.length = np → ws.length = ks.length → bindArgs (PySem.W.fnOf x qual (defArgs st) (defBody st) (defScope st) .none kV doc pm an cdv ct) ⟨us, ks.zip ws⟩ = pure (ps.zip (us ++ ws))) :
    KBn K fd ps np ks (fun us ws => us ++ ws) (fun vs zs => vs ++ zs) := by
  obtain ⟨oc, od, kV, doc, pm, an, cdv, ct, osl, rfl, lk, hcd⟩ := F.ex
  exact ⟨fun s us ws _ h1 h2 => .of_eq (h us ws kV doc pm an cdv ct h1 h2), fun r1 r2 => r1.append r2⟩
def gCallK (np nk n : Nat) (m : MF) (fa fk : AFn) : EF := fun ρ => (fa ρ).bind fun p => (fk ρ).bind fun q => if p.1.length = np ∧ q.1.length = nk then gCall n m (p.1 ++ q.1) (aj p.2 q.2) else none
theorem ve_callN {K : PySem.W.Frag} {ta tk : TA} {fa fk : AFn} {n np nk : Nat} {m : MF} {E : XK} (h : VA K ta fa) (hk : VA K tk fk) : VE K (tCallN np nk (spOf K n m) (fun vs zs => vs ++ zs) E ta tk) (gCallK np nk n m fa fk) := by
  intro B AF σ H ρ Fs d k S e Q q
  obtain ⟨⟨ds1, k1⟩, e1, e⟩ := Option.bind_eq_some_iff.mp e
  obtain ⟨⟨ds2, k2⟩, e3, e⟩ := Option.bind_eq_some_iff.mp e
  split at e
  case isFalse => cases e
  rename_i hl
  refine h B AF σ H ρ Fs ds1 k1 S e1 _ fun vs H1 F g1 r1 o1 => ?_
  refine hk B AF σ H1 ρ Fs ds2 k2 (S.grow g1) e3 _ fun zs H2 G g2 r2 o2 => ⟨by rw [r1.length]; exact hl.1, by rw [r2.length]; exact hl.2, ?_⟩
  have := vf_call (E := E) ρ Fs H H2 (vs ++ zs) (ds1 ++ ds2) (F ++ G) (aj k1 k2) d k (g1.trans g2) (RpL.app (r1.grow g2) r2) (KO.join S g1 o1 (fun a ha => r1.stn ha) o2) e Q fun v H3 G' g3 r3 o3 => q v H3 G' ((g1.trans g2).trans g3) r3 o3
  simp only [List.append_nil] at this
  exact this
/-! ### zip -/
def zipD : List PyData → List PyData → List PyData
  | a :: as, b :: bs => .tuple [a, b] :: zipD as bs
  | _, _ => []
def iZp (f : AFn) : IF := fun ρ => (f ρ).bind fun p => match p.1 with
  | [.list xs, .list ys] => some (zipD xs ys, p.2)
  | [.tuple xs, .tuple ys] => some (zipD xs ys, p.2)
  | _ => none
/-! ### loops by what holds at their head -/
/-- P i: what holds of the slots behind i items (those that are told no more left out) -/
theorem loopF_P {st : SG} {fb : SF} {fg : List Nat} (P : Nat → Env → Prop) : ∀ (ds : List PyData) (ρ : Env) (n : Nat), (∀ (i : Nat) (d : PyData), ds[i]? = some d → ∀ ρ, P (n + i) ρ → ∃ ρ1 ρ2, st d ρ = some ρ1 ∧ fb ρ1 = some (.nx ρ2) ∧ P (n + i + 1) (kil fg ρ2)) →
    P n (kil fg ρ) → ∃ ρ', loopF st fb fg ds ρ = some (.nx ρ') ∧ P (n + ds.length) ρ'
  | [], ρ, n, _, h0 => ⟨_, rfl, h0⟩
  | d :: ds, ρ, n, hs, h0 => by
    obtain ⟨ρ1, ρ2, e1, e2, h1⟩ := hs 0 d rfl _ h0
    obtain ⟨ρ', e3, h3⟩ := loopF_P P ds ρ2 (n + 1) (fun i d' hd ρ h => by
      have h' : P (n + (i + 1)) ρ := by rw [show n + (i + 1) = n + 1 + i by omega]; exact h
      obtain ⟨a, b, c1, c2, c3⟩ := hs (i + 1) d' (by simpa using hd) ρ h'
      exact ⟨a, b, c1, c2, by rw [show n + 1 + i + 1 = n + (i + 1) + 1 by omega]; exact c3⟩) h1
    refine ⟨ρ', ?_, by rw [show n + (d :: ds).length = n + 1 + ds.length by simp; omega]; exact h3⟩
    show (st d (kil fg ρ)).bind _ = _
    rw [e1]
    show (fb ρ1).bind _ = _
    rw [e2]
    exact e3
end Va

/-! Va14: what is worked out over slots; the laws' draws. -/
namespace Va
open PySem L2 PyProof.Rows

/-! ### working out -/
section
variable {ds : List PyData} {ns : List Int} {ks : List Bool}
@[simp] theorem flat_int {i : Int} : flat (.int i) = true := by simp only [flat]
@[simp] theorem flat_bool {i : Bool} : flat (.bool i) = true := by simp only [flat]
@[simp] theorem flat_str {i : Str} : flat (.str i) = true := by simp only [flat]
@[simp] theorem flat_none : flat .none = true := by simp only [flat]
@[simp] theorem flat_list : flat (.list ds) = false := by simp only [flat]
@[simp] theorem flat_tuple : flat (.tuple ds) = flatL ds := by simp only [flat]
@[simp] theorem flatL_nil : flatL [] = true := by simp only [flatL]
@[simp] theorem flatL_cons {d : PyData} : flatL (d :: ds) = (flat d && flatL ds) := by simp only [flatL]
@[simp] theorem flatL_app {es : List PyData} : flatL (ds ++ es) = (flatL ds && flatL es) := by
  induction ds with
  | nil => simp
  | cons d ds ih => simp [ih, Bool.and_assoc]
theorem flatL_all {α : Type} {f : α → PyData} (h : ∀ x, flat (f x) = true) : ∀ xs : List α, flatL (xs.map f) = true
  | [] => by simp
  | x :: xs => by simp [h, flatL_all h xs]
@[simp] theorem flatL_ints : flatL (ns.map PyData.int) = true := flatL_all (fun _ => by simp) ns
@[simp] theorem flatL_bools : flatL (ks.map PyData.bool) = true := flatL_all (fun _ => by simp) ks
@[simp] theorem intsOf_map : intsOf (ns.map PyData.int) = some ns := by
  induction ns with
  | nil => rfl
  | cons n ns ih => simp [intsOf, ih]
@[simp] theorem boolsOf_map : boolsOf (ks.map PyData.bool) = some ks := by
  induction ks with
  | nil => rfl
  | cons n ns ih => simp [boolsOf, ih]
@[simp] theorem flatL_from {lo : Int} {n : Nat} : flatL (intsFrom lo n) = true := flatL_all (fun _ => by simp) _
theorem atI_nat {α : Type} {xs : List α} {i : Int} (h0 : 0 ≤ i) : atI xs i = xs[i.toNat]? := by
  unfold atI ixN
  by_cases h : i.toNat < xs.length
  · have : i < (xs.length : Int) := by omega
    simp [h0, this, show ¬ i < 0 by omega]
  · have : ¬ i < (xs.length : Int) := by omega
    simp [this, show ¬ i < 0 by omega, List.getElem?_eq_none (Nat.le_of_not_lt h)]
end
section
variable {K : PySem.W.Frag}
theorem ve_int {i : Int} : VE K (tC (.int i)) (eC (.int i)) := ve_c rfl
theorem ve_bl {b : Bool} : VE K (tC (.bl b)) (eC (.bool b)) := ve_c rfl
theorem ve_str {s : Str} : VE K (tC (.str s)) (eC (.str s)) := ve_c rfl
theorem ve_non : VE K (tC .non) (eC .none) := ve_c True.intro
end
/-! ### combinators, worked out from the left -/
def seqK (o : Option Out) (g : SF) : Option Out := o.bind fun o => match o with
  | .nx ρ' => g ρ'
  | o => some o
def ifK (b : Option Bool) (f g : SF) (ρ : Env) : Option Out := b.bind fun b => if b = true then f ρ else g ρ
def retK (p : Option (PyData × Kd)) : Option Out := p.map fun p => .rt p.1 (rk p.2)
def dropK (p : Option (PyData × Kd)) (ρ : Env) : Option Out := p.map fun _ => .nx ρ
def appK (p : Option (List PyData × Kd)) (g : Gn) : Option (PyData × Kd) := p.bind fun p => g p.1 p.2
def consK (p : Option (PyData × Kd)) (q : Option (List PyData × Kd)) : Option (List PyData × Kd) := p.bind fun p => q.bind fun q => some (p.1 :: q.1, aj p.2 q.2)
def starK (p : Option (PyData × Kd)) (q : Option (List PyData × Kd)) : Option (List PyData × Kd) := p.bind fun p => q.bind fun q => (iterD p.1).map fun ds => (ds ++ q.1, aj p.2 q.2)
def varD (d : PyData) (m i : Nat) : Kd := if flat d then .mv [] else if m = 2 then .mv [i] else .bo [i]
def varK (i : Nat) (s : Option Sl) : Option (PyData × Kd) := match s with
  | some (some (d, m)) => some (d, varD d m i)
  | _ => none
def valK (p : Option (PyData × Kd)) : Option Bool := p.bind fun p => bOf p.1
def truK (p : Option (PyData × Kd)) : Option Bool := p.bind fun p => truD p.1
def andK (a : Option Bool) (b : Env → Option Bool) (ρ : Env) : Option Bool := a.bind fun x => if x = true then b ρ else some false
def orK (a : Option Bool) (b : Env → Option Bool) (ρ : Env) : Option Bool := a.bind fun x => if x = true then some true else b ρ
def notK (a : Option Bool) : Option Bool := a.map fun x => !x
def setK (p : Option (PyData × Kd)) (kl : List Nat) (i : Nat) (ρ : Env) : Option Out := p.bind fun p => if i < ρ.length then some (.nx ((giv kl p.2 ρ).1.set i (some (p.1, (giv kl p.2 ρ).2)))) else none
def fK (d : Option PyData) : Option (PyData × Kd) := d.map fun d => (d, .mv [])
def datsK (d : Option PyData) (k : Kd) : Option (PyData × Kd) := d.map fun e => (e, datK e k)
def mutK (kl : List Nat) (i : Nat) (k : Kd) (m : Nat) (ρ : Env) (ds : Option (List PyData)) : Option Out := ds.map fun ds => .nx (mutE kl i k m (.list ds) ρ)
def mutLK (p : Option (PyData × Kd)) (kl : List Nat) (i : Nat) (h : List PyData → PyData → Option (List PyData)) (ρ : Env) : Option Out := p.bind fun p => (ownL i p.2 ρ).bind fun q => (h q.1 p.1).map fun ds => .nx (mutE kl i p.2 q.2 (.list ds) ρ)
def mutQ (q : Option (List PyData × Nat)) (d : PyData) (k : Kd) (kl : List Nat) (i : Nat) (h : List PyData → PyData → Option (List PyData)) (ρ : Env) : Option Out := q.bind fun q => (h q.1 d).map fun ds => .nx (mutE kl i k q.2 (.list ds) ρ)
def mutR (ds : Option (List PyData)) (k : Kd) (m : Nat) (kl : List Nat) (i : Nat) (ρ : Env) : Option Out := ds.map fun ds => .nx (mutE kl i k m (.list ds) ρ)
def extK (p : Option (PyData × Kd)) (kl : List Nat) (i : Nat) (ρ : Env) : Option Out := p.bind fun p => match p.1 with
  | .list ds => (ownL i p.2 ρ).bind fun q => if q.1.length + ds.length < 1000000 then some (.nx (mutE kl i p.2 q.2 (.list (q.1 ++ ds)) ρ)) else none
  | _ => none
def extQ (q : Option (List PyData × Nat)) (ds : List PyData) (k : Kd) (kl : List Nat) (i : Nat) (ρ : Env) : Option Out := q.bind fun q => if q.1.length + ds.length < 1000000 then some (.nx (mutE kl i k q.2 (.list (q.1 ++ ds)) ρ)) else none
def idxK (p r : Option (PyData × Kd)) (kl : List Nat) (i : Nat) (ρ : Env) : Option Out := p.bind fun p => r.bind fun r => match r.1 with
  | .int j => (ownL i p.2 ρ).bind fun q => (ixN q.1.length j).map fun n => .nx (mutE kl i p.2 q.2 (.list (q.1.set n p.1)) ρ)
  | _ => none
def idxQ (q : Option (List PyData × Nat)) (d : PyData) (k : Kd) (j : Int) (kl : List Nat) (i : Nat) (ρ : Env) : Option Out := q.bind fun q => (ixN q.1.length j).map fun n => .nx (mutE kl i k q.2 (.list (q.1.set n d)) ρ)
def idxR (n : Option Nat) (xs : List PyData) (d : PyData) (k : Kd) (m : Nat) (kl : List Nat) (i : Nat) (ρ : Env) : Option Out := n.map fun n => .nx (mutE kl i k m (.list (xs.set n d)) ρ)
def augK (s : Option Sl) (i : Nat) (p : Option (PyData × Kd)) (h : Int → Int → Int) (ρ : Env) : Option Out := match s with
  | some (some (.int a, _)) => p.bind fun p => match p.1 with
    | .int b => some (.nx (ρ.set i (some (.int (h a b), 2))))
    | _ => none
  | _ => none
def forK (p : Option (List PyData × Kd)) (ns : List Nat) (st : SG) (wb : List Nat) (fb : SF) (fg : List Nat) (ρ : Env) : Option Out := p.bind fun p =>
  loopF st fb fg p.1 (if flatL p.1 = true ∧ apart p.2.src (ns ++ wb) = true then ρ else dem p.2.src ρ)
def ifEK (b : Option Bool) (f g : EF) (ρ : Env) : Option (PyData × Kd) := b.bind fun x => if x = true then f ρ else g ρ
def r1K (p : Option (List PyData × Kd)) : Option (List PyData × Kd) := p.bind fun p => match p.1 with
  | [.int j] => if i62 j = true then some (intsFrom 0 j.toNat, .mv []) else none
  | _ => none
def r2K (p : Option (List PyData × Kd)) : Option (List PyData × Kd) := p.bind fun p => match p.1 with
  | [.int i, .int j] => if i62 i = true ∧ i62 j = true then some (intsFrom i (j - i).toNat, .mv []) else none
  | _ => none
def seqIK (p : Option (PyData × Kd)) : Option (List PyData × Kd) := p.bind fun p => (iterD p.1).map fun ds => (ds, p.2)
def enK (p : Option (List PyData × Kd)) : Option (List PyData × Kd) := p.bind fun p => match p.1 with
  | [.list ds] => some (enumD ds 0, p.2)
  | _ => none
def zpK (p : Option (List PyData × Kd)) : Option (List PyData × Kd) := p.bind fun p => match p.1 with
  | [.list xs, .list ys] => some (zipD xs ys, p.2)
  | [.tuple xs, .tuple ys] => some (zipD xs ys, p.2)
  | _ => none
def lcK (p : Option (List PyData × Kd)) (ns : List Nat) (st : SG) (ft : Env → Option Bool) (fe : EF) (vs : List Nat) (ρ : Env) : Option (PyData × Kd) := p.bind fun p =>
  if p.1.length ≤ 1000000 then (lcF ns st ft fe (wipeE (zeroE ρ) vs) p.1).map fun q => (.list q.1, if flatL q.1 = true then .mv [] else if q.2.1 = true then .mv [] else .sp (p.2.src ++ q.2.2)) else none
def andVK (p : Option (PyData × Kd)) (g : EF) (ρ : Env) : Option (PyData × Kd) := p.bind fun p => (bOf p.1).bind fun b => if b = true then (g ρ).map fun q => (q.1, q.2) else some (.bool false, .mv [])
def orVK (p : Option (PyData × Kd)) (g : EF) (ρ : Env) : Option (PyData × Kd) := p.bind fun p => (bOf p.1).bind fun b => if b = true then some (.bool true, .mv []) else (g ρ).map fun q => (q.1, q.2)
def idK (p : Option (PyData × Kd)) : Option (PyData × Kd) := p.map fun q => (q.1, q.2)
def notVK (p : Option (PyData × Kd)) : Option (PyData × Kd) := p.bind fun p => (bOf p.1).map fun b => (.bool (!b), .mv [])
def chK (h1 h2 : List PyData → Option PyData) (p q : Option (PyData × Kd)) (h : EF) (ρ : Env) : Option (PyData × Kd) := p.bind fun p => q.bind fun q => (h1 [p.1, q.1]).bind fun z => (bOf z).bind fun b =>
  if b = true then (h ρ).bind fun r => (h2 [q.1, r.1]).map fun z => (z, .mv []) else some (.bool false, .mv [])
def chL (b : Option PyData) (h2 : List PyData → Option PyData) (d : PyData) (h : EF) (ρ : Env) : Option (PyData × Kd) := b.bind fun z => (bOf z).bind fun b => if b = true then (h ρ).bind fun r => (h2 [d, r.1]).map fun z => (z, .mv []) else some (.bool false, .mv [])
def chR (h2 : List PyData → Option PyData) (d : PyData) (r : Option (PyData × Kd)) : Option (PyData × Kd) := r.bind fun r => (h2 [d, r.1]).map fun z => (z, .mv [])
def slK (p : Option (PyData × Kd)) (i j : Option (Option Int)) : Option (PyData × Kd) := p.bind fun p => i.bind fun i => j.bind fun j => slD p.1 p.2 i j
def partK (p : Option (PyData × Kd)) : Option (Option Int) := p.bind fun p => match p.1 with
  | .int i => some (some i)
  | _ => none
def isiK (p : Option (PyData × Kd)) (T : String) : Option (PyData × Kd) := p.map fun p => (.bool (isiD T p.1), .mv [])
def m1K (h : PyData → PyData → Option PyData) (p q : Option (PyData × Kd)) : Option (PyData × Kd) := p.bind fun p => q.bind fun q => match p.1 with
  | .str _ => (h p.1 q.1).map fun d => (d, .mv [])
  | _ => none
def asgK (p : Option (PyData × Kd)) (st : SG) (ρ : Env) : Option Out := p.bind fun p => (st p.1 (dem p.2.src ρ)).map .nx
def nxK (p : Option Env) : Option Out := p.map .nx
def tgsK (p : Option Env) (sts : SGs) (ds : List PyData) : Option Env := p.bind (sts ds)
def callK (p : Option (PyData × Nat)) (k : Kd) : Option (PyData × Kd) := p.map fun p => (p.1, calK p.1 p.2 k)
def cKK (np nk n : Nat) (m : MF) (p q : Option (List PyData × Kd)) : Option (PyData × Kd) := p.bind fun p => q.bind fun q => if p.1.length = np ∧ q.1.length = nk then gCall n m (p.1 ++ q.1) (aj p.2 q.2) else none
section
variable {f g h : EF} {a b : AFn} {c c' : Env → Option Bool} {s s' : SF} {ρ ρ' : Env} {gn : Gn} {d e : PyData} {ds es : List PyData} {k l : Kd} {kl fg ns wb vs L M : List Nat} {i j m n r : Nat} {st : SG} {sts : SGs} {fi : IF} {T : String}
  {h1 h2 : List PyData → Option PyData} {ha : List PyData → PyData → Option (List PyData)} {hh : PyData → PyData → Option PyData} {mf : MF} {lo hi : Env → Option (Option Int)} {x y : Int} {hI : Int → Int → Int} {cs : Str}
@[simp] theorem sSeq_eq : sSeq s s' ρ = seqK (s ρ) s' := (rfl)
@[simp] theorem seqK_nx : seqK (some (.nx ρ)) s = s ρ := (rfl)
@[simp] theorem seqK_rt : seqK (some (.rt d r)) s = some (.rt d r) := (rfl)
@[simp] theorem seqK_bk : seqK (some (.bk ρ)) s = some (.bk ρ) := (rfl)
@[simp] theorem seqK_ct : seqK (some (.ct ρ)) s = some (.ct ρ) := (rfl)
@[simp] theorem seqK_ex : seqK (some (.ex cs ds)) s = some (.ex cs ds) := (rfl)
@[simp] theorem sIf_eq : sIf c s s' ρ = ifK (c ρ) s s' ρ := (rfl)
@[simp] theorem ifK_t : ifK (some true) s s' ρ = s ρ := (rfl)
@[simp] theorem ifK_f : ifK (some false) s s' ρ = s' ρ := (rfl)
@[simp] theorem sNext_eq : sNext ρ = some (.nx ρ) := (rfl)
@[simp] theorem sRet_eq : sRet f ρ = retK (f ρ) := (rfl)
@[simp] theorem retK_eq : retK (some (d, k)) = some (.rt d (rk k)) := (rfl)
@[simp] theorem sRetN_eq : sRetN ρ = some (.rt .none 2) := (rfl)
@[simp] theorem sBreak_eq : sBreak ρ = some (.bk ρ) := (rfl)
@[simp] theorem sCont_eq : sCont ρ = some (.ct ρ) := (rfl)
@[simp] theorem sDrop_eq : sDrop f ρ = dropK (f ρ) ρ := (rfl)
@[simp] theorem dropK_eq : dropK (some (d, k)) ρ = some (.nx ρ) := (rfl)
@[simp] theorem eC_eq : eC d ρ = some (d, .mv []) := (rfl)
@[simp] theorem eVar_eq : eVar i ρ = varK i ρ[i]? := by
  unfold eVar varK varD
  rfl
@[simp] theorem varK_eq : varK i (some (some (d, m))) = some (d, varD d m i) := (rfl)
theorem varD_flat (hd : flat d = true) : varD d m i = .mv [] := by unfold varD; rw [if_pos hd]
theorem varD_own (hd : flat d = false) : varD d 2 i = .mv [i] := by unfold varD; rw [hd]; rfl
@[simp] theorem varD_int : varD (.int x) m i = .mv [] := varD_flat (by simp)
@[simp] theorem varD_bool {z : Bool} : varD (.bool z) m i = .mv [] := varD_flat (by simp)
@[simp] theorem varD_str {z : Str} : varD (.str z) m i = .mv [] := varD_flat (by simp)
@[simp] theorem varD_none : varD .none m i = .mv [] := varD_flat (by simp)
@[simp] theorem varD_list2 : varD (.list ds) 2 i = .mv [i] := by unfold varD; simp
@[simp] theorem varD_list1 : varD (.list ds) 1 i = .bo [i] := by unfold varD; simp
@[simp] theorem varD_list0 : varD (.list ds) 0 i = .bo [i] := by unfold varD; simp
@[simp] theorem varD_tuple2 : varD (.tuple ds) 2 i = if flatL ds = true then .mv [] else .mv [i] := by unfold varD; simp
@[simp] theorem varD_tuple0 : varD (.tuple ds) 0 i = if flatL ds = true then .mv [] else .bo [i] := by unfold varD; simp
@[simp] theorem src_m : (Kd.mv L).src = L := (rfl)
@[simp] theorem src_s : (Kd.sp L).src = L := (rfl)
@[simp] theorem src_b : (Kd.bo L).src = L := (rfl)
@[simp] theorem aNil_eq : aNil ρ = some ([], .mv []) := (rfl)
@[simp] theorem aCons_eq : aCons f a ρ = consK (f ρ) (a ρ) := (rfl)
@[simp] theorem consK_eq : consK (some (d, k)) (some (ds, l)) = some (d :: ds, aj k l) := (rfl)
@[simp] theorem aStar_eq : aStar f a ρ = starK (f ρ) (a ρ) := (rfl)
@[simp] theorem starK_l : starK (some (.list es, k)) (some (ds, l)) = some (es ++ ds, aj k l) := (rfl)
@[simp] theorem starK_t : starK (some (.tuple es, k)) (some (ds, l)) = some (es ++ ds, aj k l) := (rfl)
@[simp] theorem aj_nil : aj (.mv []) (.mv M) = .mv M := by simp [aj]
@[simp] theorem aj_nil2 : aj (.mv L) (.mv []) = .mv L := by simp [aj]
@[simp] theorem aj_mm : aj (.mv L) (.mv M) = if apart L M = true then .mv (L ++ M) else .bo (L ++ M) := (rfl)
@[simp] theorem aj_mb : aj (.mv L) (.bo M) = .bo (L ++ M) := (rfl)
@[simp] theorem aj_ms : aj (.mv L) (.sp M) = .bo (L ++ M) := (rfl)
@[simp] theorem aj_b : aj (.bo L) k = .bo (L ++ k.src) := (rfl)
@[simp] theorem aj_s : aj (.sp L) k = .bo (L ++ k.src) := (rfl)
@[simp] theorem eApp_eq : eApp gn a ρ = appK (a ρ) gn := (rfl)
@[simp] theorem appK_eq : appK (some (ds, k)) gn = gn ds k := (rfl)
@[simp] theorem gF_eq : gF h1 ds k = fK (h1 ds) := (rfl)
@[simp] theorem fK_eq : fK (some d) = some (d, .mv []) := (rfl)
@[simp] theorem bOf_eq' {z : Bool} : bOf (.bool z) = some z := (rfl)
@[simp] theorem tVal_eq : tVal f ρ = valK (f ρ) := (rfl)
@[simp] theorem valK_eq {z : Bool} : valK (some (.bool z, k)) = some z := (rfl)
@[simp] theorem tTru_eq : tTru f ρ = truK (f ρ) := (rfl)
@[simp] theorem truK_eq : truK (some (d, k)) = truD d := (rfl)
@[simp] theorem tAndF_eq : tAndF c c' ρ = andK (c ρ) c' ρ := (rfl)
@[simp] theorem andK_t : andK (some true) c ρ = c ρ := (rfl)
@[simp] theorem andK_f : andK (some false) c ρ = some false := (rfl)
@[simp] theorem tOrF_eq : tOrF c c' ρ = orK (c ρ) c' ρ := (rfl)
@[simp] theorem orK_t : orK (some true) c ρ = some true := (rfl)
@[simp] theorem orK_f : orK (some false) c ρ = c ρ := (rfl)
@[simp] theorem tNotF_eq : tNotF c ρ = notK (c ρ) := (rfl)
@[simp] theorem notK_eq {z : Bool} : notK (some z) = some (!z) := (rfl)
@[simp] theorem sSet_eq : sSet kl i f ρ = setK (f ρ) kl i ρ := (rfl)
@[simp] theorem setK_eq : setK (some (d, k)) kl i ρ = if i < ρ.length then some (.nx ((giv kl k ρ).1.set i (some (d, (giv kl k ρ).2)))) else none := (rfl)
@[simp] theorem giv_nil : giv kl (.mv []) ρ = (ρ, 2) := by simp [giv, kil]
@[simp] theorem giv_mv : giv kl (.mv L) ρ = if L.all kl.contains = true then (wipeE ρ L, 2) else (dem L ρ, 0) := by simp [giv, kil]
@[simp] theorem giv_sp : giv kl (.sp L) ρ = (dem L ρ, 1) := (rfl)
@[simp] theorem giv_bo : giv kl (.bo L) ρ = (dem L ρ, 0) := (rfl)
@[simp] theorem dem_nil : dem [] ρ = ρ := (rfl)
@[simp] theorem dem_cons : dem (i :: L) ρ = (dem L ρ).modify i demS := (rfl)
@[simp] theorem kil_eq : kil L ρ = wipeE ρ L := (rfl)
@[simp] theorem rk_m : rk (.mv L) = 2 := (rfl)
@[simp] theorem rk_s : rk (.sp L) = 1 := (rfl)
@[simp] theorem rk_b : rk (.bo L) = 0 := (rfl)
@[simp] theorem isMv_m : isMv (.mv L) = true := (rfl)
@[simp] theorem isMv_s : isMv (.sp L) = false := (rfl)
@[simp] theorem isMv_b : isMv (.bo L) = false := (rfl)
@[simp] theorem sMutL_eq : sMutL kl i f ha ρ = mutLK (f ρ) kl i ha ρ := (rfl)
@[simp] theorem mutLK_eq : mutLK (some (d, k)) kl i ha ρ = mutQ (ownL i k ρ) d k kl i ha ρ := (rfl)
@[simp] theorem mutQ_eq : mutQ (some (ds, m)) d k kl i ha ρ = mutR (ha ds d) k m kl i ρ := (rfl)
@[simp] theorem mutR_eq : mutR (some ds) k m kl i ρ = some (.nx (mutE kl i k m (.list ds) ρ)) := (rfl)
@[simp] theorem sExt_eq : sExt kl i f ρ = extK (f ρ) kl i ρ := (rfl)
@[simp] theorem extK_eq : extK (some (.list ds, k)) kl i ρ = extQ (ownL i k ρ) ds k kl i ρ := (rfl)
@[simp] theorem extQ_eq : extQ (some (es, m)) ds k kl i ρ = if es.length + ds.length < 1000000 then some (.nx (mutE kl i k m (.list (es ++ ds)) ρ)) else none := (rfl)
@[simp] theorem sIdx_eq : sIdx kl i f g ρ = idxK (f ρ) (g ρ) kl i ρ := (rfl)
@[simp] theorem idxK_eq : idxK (some (d, k)) (some (.int x, l)) kl i ρ = idxQ (ownL i k ρ) d k x kl i ρ := (rfl)
@[simp] theorem idxQ_eq : idxQ (some (es, m)) d k x kl i ρ = idxR (ixN es.length x) es d k m kl i ρ := (rfl)
@[simp] theorem idxR_eq : idxR (some n) es d k m kl i ρ = some (.nx (mutE kl i k m (.list (es.set n d)) ρ)) := (rfl)
@[simp] theorem mutE_eq : mutE kl i k m d ρ = (giv kl k ρ).1.set i (some (d, mutM m (giv kl k ρ).2)) := (rfl)
@[simp] theorem mutM_22 : mutM 2 2 = 2 := (rfl)
@[simp] theorem mutM_1 : mutM 1 n = 1 := (rfl)
@[simp] theorem mutM_0 : mutM m 0 = 1 := by simp [mutM]
@[simp] theorem mutM_1' : mutM m 1 = 1 := by simp [mutM]
@[simp] theorem hApp_eq : hApp ds d = if ds.length < 1000000 then some (ds ++ [d]) else none := (rfl)
@[simp] theorem sAug_eq : sAug i f hI ρ = augK ρ[i]? i (f ρ) hI ρ := (rfl)
@[simp] theorem augK_eq : augK (some (some (.int x, m))) i (some (.int y, k)) hI ρ = some (.nx (ρ.set i (some (.int (hI x y), 2)))) := (rfl)
@[simp] theorem sFor_eq {fb : SF} : sFor fi ns st wb fb fg ρ = forK (fi ρ) ns st wb fb fg ρ := (rfl)
theorem forK_flat {fb : SF} (h1 : flatL ds = true) (h2 : apart k.src (ns ++ wb) = true) : forK (some (ds, k)) ns st wb fb fg ρ = loopF st fb fg ds ρ := by
  show loopF st fb fg ds (if _ then _ else _) = _
  rw [if_pos ⟨h1, h2⟩]
theorem forK_eq {fb : SF} : forK (some (ds, k)) ns st wb fb fg ρ = loopF st fb fg ds (if flatL ds = true ∧ apart k.src (ns ++ wb) = true then ρ else dem k.src ρ) := rfl
@[simp] theorem eIf_eq : eIf c f g ρ = ifEK (c ρ) f g ρ := (rfl)
@[simp] theorem ifEK_t : ifEK (some true) f g ρ = f ρ := (rfl)
@[simp] theorem ifEK_f : ifEK (some false) f g ρ = g ρ := (rfl)
@[simp] theorem iR1_eq : iR1 a ρ = r1K (a ρ) := (rfl)
@[simp] theorem r1K_eq : r1K (some ([.int x], k)) = if i62 x = true then some (intsFrom 0 x.toNat, .mv []) else none := (rfl)
@[simp] theorem iR2_eq : iR2 a ρ = r2K (a ρ) := (rfl)
@[simp] theorem r2K_eq : r2K (some ([.int x, .int y], k)) = if i62 x = true ∧ i62 y = true then some (intsFrom x (y - x).toNat, .mv []) else none := (rfl)
@[simp] theorem iSeq_eq : iSeq f ρ = seqIK (f ρ) := (rfl)
@[simp] theorem seqIK_l : seqIK (some (.list ds, k)) = some (ds, k) := (rfl)
@[simp] theorem seqIK_t : seqIK (some (.tuple ds, k)) = some (ds, k) := (rfl)
@[simp] theorem iEn_eq : iEn a ρ = enK (a ρ) := (rfl)
@[simp] theorem enK_eq : enK (some ([.list ds], k)) = some (enumD ds 0, k) := (rfl)
@[simp] theorem iZp_eq : iZp a ρ = zpK (a ρ) := (rfl)
@[simp] theorem zpK_l : zpK (some ([.list ds, .list es], k)) = some (zipD ds es, k) := (rfl)
@[simp] theorem zpK_t : zpK (some ([.tuple ds, .tuple es], k)) = some (zipD ds es, k) := (rfl)
@[simp] theorem eLc_eq : eLc fi ns st c f vs ρ = lcK (fi ρ) ns st c f vs ρ := (rfl)
theorem lcK_eq : lcK (some (ds, k)) ns st c f vs ρ = if ds.length ≤ 1000000 then (lcF ns st c f (wipeE (zeroE ρ) vs) ds).map fun q => (.list q.1, if flatL q.1 = true then .mv [] else if q.2.1 = true then .mv [] else .sp (k.src ++ q.2.2)) else none := rfl
@[simp] theorem eAndV_eq : eAndV f g ρ = andVK (f ρ) g ρ := (rfl)
@[simp] theorem andVK_t : andVK (some (.bool true, k)) g ρ = idK (g ρ) := (rfl)
@[simp] theorem andVK_f : andVK (some (.bool false, k)) g ρ = some (.bool false, .mv []) := (rfl)
@[simp] theorem eOrV_eq : eOrV f g ρ = orVK (f ρ) g ρ := (rfl)
@[simp] theorem orVK_t : orVK (some (.bool true, k)) g ρ = some (.bool true, .mv []) := (rfl)
@[simp] theorem orVK_f : orVK (some (.bool false, k)) g ρ = idK (g ρ) := (rfl)
@[simp] theorem idK_eq : idK (some (d, k)) = some (d, k) := (rfl)
@[simp] theorem eNotV_eq : eNotV f ρ = notVK (f ρ) := (rfl)
@[simp] theorem notVK_eq {z : Bool} : notVK (some (.bool z, k)) = some (.bool (!z), .mv []) := (rfl)
@[simp] theorem eChain_eq : eChain h1 h2 f g h ρ = chK h1 h2 (f ρ) (g ρ) h ρ := (rfl)
@[simp] theorem chK_eq : chK h1 h2 (some (d, k)) (some (e, l)) h ρ = chL (h1 [d, e]) h2 e h ρ := (rfl)
@[simp] theorem chL_t : chL (some (.bool true)) h2 e h ρ = chR h2 e (h ρ) := (rfl)
@[simp] theorem chL_f : chL (some (.bool false)) h2 e h ρ = some (.bool false, .mv []) := (rfl)
@[simp] theorem chR_eq : chR h2 e (some (d, k)) = fK (h2 [e, d]) := (rfl)
@[simp] theorem eSl_eq : eSl f lo hi ρ = slK (f ρ) (lo ρ) (hi ρ) := (rfl)
@[simp] theorem slK_eq {u v : Option Int} : slK (some (d, k)) (some u) (some v) = slD d k u v := (rfl)
@[simp] theorem oNo_eq : oNo ρ = some none := (rfl)
@[simp] theorem oPart_eq : oPart f ρ = partK (f ρ) := (rfl)
@[simp] theorem partK_eq : partK (some (.int x, k)) = some (some x) := (rfl)
@[simp] theorem eIsi_eq : eIsi T f ρ = isiK (f ρ) T := (rfl)
@[simp] theorem isiK_eq : isiK (some (d, k)) T = some (.bool (isiD T d), .mv []) := (rfl)
@[simp] theorem eM1_eq : eM1 hh f g ρ = m1K hh (f ρ) (g ρ) := (rfl)
@[simp] theorem m1K_eq {z : Str} : m1K hh (some (.str z, k)) (some (e, l)) = fK (hh (.str z) e) := (rfl)
@[simp] theorem sAsgT_eq : sAsgT st f ρ = asgK (f ρ) st ρ := (rfl)
@[simp] theorem asgK_eq : asgK (some (d, k)) st ρ = nxK (st d (dem k.src ρ)) := (rfl)
@[simp] theorem nxK_eq : nxK (some ρ) = some (.nx ρ) := (rfl)
@[simp] theorem tgN_eq : tgN i d ρ = if i < ρ.length then some (ρ.set i (some (d, m02 d))) else none := (rfl)
@[simp] theorem tgT_eq : tgT n sts (.tuple ds) ρ = if ds.length = n then sts ds ρ else none := (rfl)
@[simp] theorem tgCons_eq : tgCons st sts (d :: ds) ρ = tgsK (st d ρ) sts ds := (rfl)
@[simp] theorem tgsK_eq : tgsK (some ρ) sts ds = sts ds ρ := (rfl)
@[simp] theorem tgNil_eq : tgNil [] ρ = some ρ := (rfl)
@[simp] theorem gCall_eq : gCall n mf ds k = if ds.length = n then callK (mf ds) k else none := (rfl)
@[simp] theorem callK_eq : callK (some (d, r)) k = some (d, calK d r k) := (rfl)
@[simp] theorem gCallK_eq : gCallK i j n mf a b ρ = cKK i j n mf (a ρ) (b ρ) := (rfl)
@[simp] theorem cKK_eq : cKK i j n mf (some (ds, k)) (some (es, l)) = if ds.length = i ∧ es.length = j then gCall n mf (ds ++ es) (aj k l) else none := (rfl)
@[simp] theorem m02_int : m02 (.int x) = 2 := by simp [m02]
@[simp] theorem m02_bool {z : Bool} : m02 (.bool z) = 2 := by simp [m02]
@[simp] theorem m02_str {z : Str} : m02 (.str z) = 2 := by simp [m02]
@[simp] theorem m02_none : m02 .none = 2 := by simp [m02]
@[simp] theorem m02_list : m02 (.list ds) = 0 := by simp [m02]
@[simp] theorem m02_tuple : m02 (.tuple ds) = if flatL ds = true then 2 else 0 := by simp [m02]
@[simp] theorem demS_s : demS (some (d, m)) = some (d, 0) := (rfl)
@[simp] theorem demS_n : demS none = none := (rfl)
@[simp] theorem calK_2 : calK d 2 k = .mv [] := by unfold calK; simp
@[simp] theorem calK_1 : calK d 1 k = if flat d = true then .mv [] else .sp k.src := by unfold calK; simp
@[simp] theorem calK_0 : calK d 0 k = if flat d = true then .mv [] else .bo k.src := by unfold calK; simp
/-! ### operations -/
@[simp] theorem gnTup_eq : gnTup ds k = if ds.length ≤ 1000000 then some (.tuple ds, tupK ds k) else none := (rfl)
@[simp] theorem gnLst_eq : gnLst ds k = if ds.length ≤ 1000000 then some (.list ds, lstK ds k) else none := (rfl)
@[simp] theorem lstK_m : lstK ds (.mv L) = if flatL ds = true then .mv [] else .mv L := (rfl)
@[simp] theorem lstK_s : lstK ds (.sp L) = if flatL ds = true then .mv [] else .sp L := (rfl)
@[simp] theorem lstK_b : lstK ds (.bo L) = if flatL ds = true then .mv [] else .sp L := (rfl)
@[simp] theorem tupK_m : tupK ds (.mv L) = if flatL ds = true then .mv [] else .mv L := (rfl)
@[simp] theorem tupK_s : tupK ds (.sp L) = if flatL ds = true then .mv [] else .bo L := (rfl)
@[simp] theorem tupK_b : tupK ds (.bo L) = if flatL ds = true then .mv [] else .bo L := (rfl)
@[simp] theorem datK_nil : datK d (.mv []) = .mv [] := by unfold datK; simp
@[simp] theorem datK_m : datK d (.mv L) = if flat d = true then .mv [] else .mv L := (rfl)
@[simp] theorem datK_s : datK d (.sp L) = if flat d = true then .mv [] else .bo L := (rfl)
@[simp] theorem datK_b : datK d (.bo L) = if flat d = true then .mv [] else .bo L := (rfl)
@[simp] theorem hSub_eq : hSub [.int x, .int y] = some (.int (x - y)) := (rfl)
@[simp] theorem hDiv_eq : hDiv [.int x, .int y] = if 0 < y ∧ y.natAbs.log2 < 9000 then some (.int (x / y)) else none := by simp [hDiv, hII, cDivW]
@[simp] theorem hMod_eq : hMod [.int x, .int y] = if 0 < y then some (.int (x % y)) else none := by simp [hMod, hII]
@[simp] theorem hPow_eq : hPow [.int x, .int y] = if 0 ≤ y ∧ y ≤ 1000000 ∧ x.natAbs < 2 ^ 64 then some (.int (x ^ y.toNat)) else none := by simp [hPow, hII, and_assoc]
@[simp] theorem hLt_eq : hLt [.int x, .int y] = some (.bool (decide (x < y))) := (rfl)
@[simp] theorem hLe_eq : hLe [.int x, .int y] = some (.bool (decide (x ≤ y))) := (rfl)
@[simp] theorem hGt_eq : hGt [.int x, .int y] = some (.bool (decide (y < x))) := (rfl)
@[simp] theorem hGe_eq : hGe [.int x, .int y] = some (.bool (decide (y ≤ x))) := (rfl)
@[simp] theorem hNeg_eq : hNeg [.int x] = some (.int (-x)) := (rfl)
@[simp] theorem gMul_eq : gMul [.int x, .int y] k = if mulOk x y = true then some (.int (x * y), .mv []) else none := (rfl)
@[simp] theorem gMul_l : gMul [.list ds, .int y] k = if 0 ≤ y ∧ y ≤ 1000 ∧ ds.length * y.toNat ≤ 1000000 ∧ flatL ds = true then some (.list (List.replicate y.toNat ds).flatten, .mv []) else none := (rfl)
@[simp] theorem gAdd_eq : gAdd [.int x, .int y] k = some (.int (x + y), .mv []) := (rfl)
@[simp] theorem gAdd_l : gAdd [.list ds, .list es] k = if ds.length + es.length ≤ 1000000 then some (.list (ds ++ es), lstK (ds ++ es) k) else none := (rfl)
@[simp] theorem gAdd_t : gAdd [.tuple ds, .tuple es] k = if ds.length + es.length ≤ 1000000 then some (.tuple (ds ++ es), tupK (ds ++ es) k) else none := (rfl)
@[simp] theorem gAdd_s {u v : Str} : gAdd [.str u, .str v] k = if u.length + v.length ≤ 1000000 then some (.str (u ++ v), .mv []) else none := (rfl)
@[simp] theorem shaped_int : SeqAt.shaped (.int x) = true := (rfl)
@[simp] theorem shaped_bool {z : Bool} : SeqAt.shaped (.bool z) = true := (rfl)
@[simp] theorem shaped_none : SeqAt.shaped .none = true := (rfl)
@[simp] theorem eqv_int : PyData.eqv (.int x) (.int y) = (x == y) := by simp only [PyData.eqv]
@[simp] theorem eqv_bool {z w : Bool} : PyData.eqv (.bool z) (.bool w) = (z == w) := by simp only [PyData.eqv]
@[simp] theorem eqv_none : PyData.eqv .none .none = true := by simp only [PyData.eqv]
@[simp] theorem eqv_int_none : PyData.eqv (.int x) .none = false := by simp only [PyData.eqv]
@[simp] theorem eqv_none_int : PyData.eqv .none (.int x) = false := by simp only [PyData.eqv]
@[simp] theorem hEq_eq (h1 : SeqAt.shaped d = true) (h2 : SeqAt.shaped e = true) : hEq [d, e] = some (.bool (PyData.eqv d e)) := by
  unfold hEq
  split
  · rename_i h; cases h; simp only [PyData.eqv]
  · rename_i h; cases h; rw [if_pos ⟨h1, h2⟩]
  · rename_i h; exact absurd rfl (h _ _)
@[simp] theorem hNe_eq (h1 : SeqAt.shaped d = true) (h2 : SeqAt.shaped e = true) : hNe [d, e] = some (.bool (!PyData.eqv d e)) := by
  unfold hNe
  split
  · rename_i h; cases h; simp only [PyData.eqv]
  · rename_i h; cases h; rw [if_pos ⟨h1, h2⟩]
  · rename_i h; exact absurd rfl (h _ _)
@[simp] theorem hEq_str {z w : Str} : hEq [.str z, .str w] = some (.bool (z == w)) := (rfl)
@[simp] theorem hNe_str {z w : Str} : hNe [.str z, .str w] = some (.bool (!(z == w))) := (rfl)
@[simp] theorem isN_none : isN .none = true := (rfl)
@[simp] theorem isN_int : isN (.int x) = false := (rfl)
@[simp] theorem isN_bool {z : Bool} : isN (.bool z) = false := (rfl)
@[simp] theorem isN_str {z : Str} : isN (.str z) = false := (rfl)
@[simp] theorem isN_list : isN (.list ds) = false := (rfl)
@[simp] theorem isN_tuple : isN (.tuple ds) = false := (rfl)
@[simp] theorem hIsN_eq : hIsN [d, .none] = some (.bool (isN d)) := (rfl)
@[simp] theorem hNotN_eq : hNotN [d, .none] = some (.bool (!isN d)) := (rfl)
@[simp] theorem gIx_eq : gIx [d, .int x] k = datsK (dAt d x) k := (rfl)
@[simp] theorem datsK_eq : datsK (some d) k = some (d, datK d k) := (rfl)
@[simp] theorem dAt_l : dAt (.list ds) x = atI ds x := (rfl)
@[simp] theorem dAt_t : dAt (.tuple ds) x = atI ds x := (rfl)
@[simp] theorem hLen_l : hLen [.list ds] = some (.int (ds.length : Nat)) := (rfl)
@[simp] theorem hLen_t : hLen [.tuple ds] = some (.int (ds.length : Nat)) := (rfl)
@[simp] theorem hLen_s {z : Str} : hLen [.str z] = if z.length ≤ 1000000 then some (.int (z.length : Nat)) else none := (rfl)
@[simp] theorem hInt_i : hInt [.int x] = some (.int x) := (rfl)
@[simp] theorem hInt_b {z : Bool} : hInt [.bool z] = some (.int (if z then 1 else 0)) := (rfl)
@[simp] theorem hStr_i : hStr [.int x] = if x.natAbs.log2 < 1920 then some (.str (toString x)) else none := (rfl)
@[simp] theorem hStr_s {z : Str} : hStr [.str z] = some (.str z) := (rfl)
@[simp] theorem gList_l : gList [.list ds] k = some (.list ds, lstK ds k) := (rfl)
@[simp] theorem gList_t : gList [.tuple ds] k = some (.list ds, lstK ds k) := (rfl)
@[simp] theorem gTuple_l : gTuple [.list ds] k = some (.tuple ds, tupK ds k) := (rfl)
@[simp] theorem gTuple_t : gTuple [.tuple ds] k = some (.tuple ds, tupK ds k) := (rfl)
@[simp] theorem slD_l {u v : Option Int} : slD (.list ds) k u v = some (.list (cutD ds u v), lstK (cutD ds u v) k) := (rfl)
@[simp] theorem slD_t {u v : Option Int} : slD (.tuple ds) k u v = some (.tuple (cutD ds u v), tupK (cutD ds u v) k) := (rfl)
@[simp] theorem hRepr_eq : hRepr [d] = if reprOk d = true then some (.str d.shown) else none := (rfl)
@[simp] theorem truD_b {z : Bool} : truD (.bool z) = some z := (rfl)
theorem kitB_str : kitB "str" "str" = some true := by decide +kernel
@[simp] theorem isiD_str {z : Str} : isiD "str" (.str z) = true := by unfold isiD tyD; rw [kitB_str]; rfl
end
/-- a slot's list, where it may be written -/
def ownQ (s : Option Sl) (b : Bool) : Option (List PyData × Nat) := match s with
  | some (some (.list xs, m)) => if (m = 1 ∨ m = 2) ∧ b = false then some (xs, m) else none
  | _ => none
@[simp] theorem ownL_eq {i : Nat} {k : Kd} {ρ : Env} : ownL i k ρ = ownQ ρ[i]? (k.src.contains i) := by
  unfold ownL ownQ
  rcases ρ[i]? with _ | _ | ⟨d, m⟩
  · rfl
  · rfl
  · cases d <;> simp
@[simp] theorem ownQ_2 {xs : List PyData} : ownQ (some (some (.list xs, 2))) false = some (xs, 2) := (rfl)
@[simp] theorem ownQ_1 {xs : List PyData} : ownQ (some (some (.list xs, 1))) false = some (xs, 1) := (rfl)
@[simp] theorem i62_small {x : Int} (h0 : 0 ≤ x) (h1 : x < 4611686018427387904) : i62 x = true := by
  simp only [i62, Bool.and_eq_true, decide_eq_true_eq]
  omega
theorem i62_lit {n : Nat} (h : n < 2 ^ 62) : i62 (n : Int) = true := by
  simp [i62]
  omega
@[simp] theorem log2_9000 {n : Nat} (h : n < 9000) : Nat.log2 n < 9000 := Nat.lt_of_le_of_lt (Nat.log2_le_self n) h
end Va

/-! Va15: the laws' draws. -/
namespace Va
open PySem L2 PyProof.Rows

def fb_draws : SF := (sSeq (sSet [] 5 (eC (.int 0)))
    (sSeq (sIf (tVal (eApp (gF hGt) (aCons (eApp (gF hLen) (aCons (eVar 2) aNil)) (aCons (eC (.int 0)) aNil)))) (sSeq (sSet [] 6 (eApp (gF hMod) (aCons (eApp (gF hInt) (aCons (eVar 4) aNil)) (aCons (eApp (gF hLen) (aCons (eVar 2) aNil)) aNil))))
    (sIf (tVal (eApp (gF hGe) (aCons (eApp gIx (aCons (eVar 2) (aCons (eVar 6) aNil))) (aCons (eApp (gF hPow) (aCons (eC (.int 10)) (aCons (eC (.int 18)) aNil))) aNil)))) (sSeq (sSet [] 5 (eApp (gF hMod) (aCons (eApp (gF hInt) (aCons (eApp gIx (aCons (eVar 2) (aCons (eVar 6) aNil))) aNil)) (aCons (eC (.int 1000)) aNil))))
    (sIdx [6] 2 (eApp (gF hDiv) (aCons (eApp gIx (aCons (eVar 2) (aCons (eVar 6) aNil))) (aCons (eC (.int 1000)) aNil))) (eVar 6))) (sSeq (sSet [4] 7 (eApp (gF hMod) (aCons (eApp (gF hInt) (aCons (eApp (gAdd) (aCons (eApp (gAdd) (aCons (eApp (gMul) (aCons (eApp gIx (aCons (eVar 2) (aCons (eVar 6) aNil))) (aCons (eC (.int 48271)) aNil))) (aCons (eApp (gMul) (aCons (eVar 4) (aCons (eC (.int 69621)) aNil))) aNil))) (aCons (eC (.int 11)) aNil))) aNil)) (aCons (eC (.int 2147483647)) aNil))))
    (sSeq (sSet [6] 7 (eApp (gF hMod) (aCons (eApp (gF hInt) (aCons (eApp (gAdd) (aCons (eApp (gMul) (aCons (eVar 7) (aCons (eC (.int 16807)) aNil))) (aCons (eVar 6) aNil))) aNil)) (aCons (eC (.int 2147483629)) aNil))))
    (sSet [7] 5 (eApp (gF hMod) (aCons (eApp (gF hInt) (aCons (eApp (gF hDiv) (aCons (eVar 7) (aCons (eC (.int 7)) aNil))) aNil)) (aCons (eC (.int 1000)) aNil)))))))) sNext)
    (sMutL [5] 3 (eVar 5) hApp)))
def f_draws : SF := (sSeq (sSet [] 3 (eApp gnLst aNil))
    (sSeq (sFor (iR1 (aCons (eVar 1) aNil)) [4] (tgN 4) [2, 3, 4, 5, 6, 7] fb_draws [0, 1, 4, 5, 6, 7])
    (sRet (eVar 3))))
def drawE (k : Option Int) (rs acc : List Int) : Env := [none, none, some (intsD rs, 2), some (intsD acc, 2), k.map fun k => (.int k, 2), none, none, none, none]
theorem mulOk_48271 {y : Int} : mulOk y 48271 = true := by simp [mulOk]
theorem mulOk_69621 {y : Int} : mulOk y 69621 = true := by simp [mulOk]
theorem mulOk_16807 {y : Int} : mulOk y 16807 = true := by simp [mulOk]
theorem draws_step {k : Int} {rs acc : List Int} (h0 : 0 ≤ k) (hk : k < 1048576) (hr : rs.length ≤ 63) (ha : acc.length < 1000000) :
    ∃ x rs' ρ2, fb_draws (drawE (some k) rs acc) = some (.nx ρ2) ∧ kil [0, 1, 4, 5, 6, 7] ρ2 = drawE none rs' (acc ++ [x]) ∧ rs'.length = rs.length ∧ 0 ≤ x ∧ x < 1000 := by
  by_cases h : rs.length = 0
  · have : rs = [] := List.eq_nil_of_length_eq_zero h
    subst this
    refine ⟨0, [], ?_⟩
    simp [fb_draws, drawE, intsD, ha]
  · have hp : 0 < (rs.length : Int) := by omega
    have hp2 : 0 < rs.length := by omega
    have hm0 : 0 ≤ k % (rs.length : Int) := Int.emod_nonneg _ (by omega)
    have hm1 : k % (rs.length : Int) < rs.length := Int.emod_lt_of_pos _ hp
    have hl : (k % (rs.length : Int)).toNat < rs.length := by omega
    generalize hj : k % (rs.length : Int) = j at hm0 hm1 hl
    have hx : rs[j.toNat]? = some rs[j.toNat] := List.getElem?_eq_getElem hl
    have hix : ixN rs.length j = some j.toNat := by unfold ixN; simp [hm0, hm1]
    generalize rs[j.toNat] = y at hx
    by_cases hy : (1000000000000000000 : Int) ≤ y
    · refine ⟨y % 1000, rs.set j.toNat (y / 1000), ?_⟩
      simp [fb_draws, drawE, intsD, ha, h, hp, hp2, dAt, atI_nat, hj, hm0, hx, hy, hix]
      omega
    · refine ⟨((((y * 48271 + k * 69621 + 11) % 2147483647) * 16807 + j) % 2147483629 / 7) % 1000, rs, ?_⟩
      simp [fb_draws, drawE, intsD, ha, h, hp, hp2, dAt, atI_nat, hj, hm0, hx, hy, hix, mulOk_48271, mulOk_69621, mulOk_16807]
      omega
theorem draws_out (rs : List Int) (n : Nat) (hr : rs.length ≤ 63) (hn : n ≤ 1000) : ∀ (σ0 : Sl) (m : Nat), m ≤ n →
    ∃ ds, Drawn n ds ∧ f_draws [σ0, some (.int (n : Nat), 2), some (intsD rs, 2), none, none, none, none, none, none] = some (.rt (intsD ds) 2) := by
  intro σ0 m _
  have hl := loopF_P (st := tgN 4) (fb := fb_draws) (fg := [0, 1, 4, 5, 6, 7]) (fun i ρ => ∃ rs' acc, ρ = drawE none rs' acc ∧ rs'.length ≤ 63 ∧ Drawn i acc) (intsFrom 0 n) [σ0, some (.int (n : Nat), 2), some (intsD rs, 2), some (.list [], 2), none, none, none, none, none] 0 ?_ ?_
  · obtain ⟨ρ', h1, rs', acc, rfl, h2, h3⟩ := hl
    rw [show 0 + (intsFrom 0 n).length = n by simp [intsFrom]] at h3
    refine ⟨acc, h3, ?_⟩
    have h62 : i62 (n : Int) = true := i62_lit (Nat.lt_of_le_of_lt hn (by decide))
    simp only [intsD] at h1
    simp [f_draws, h62, forK_flat, h1, drawE, intsD]
  · rintro i d hd ρ ⟨rs', acc, rfl, h1, h2⟩
    obtain ⟨hi, rfl⟩ := intsFrom_get hd
    obtain ⟨x, rs2, ρ2, e1, e2, e3, e4, e5⟩ := draws_step (k := (i : Int)) (rs := rs') (acc := acc) (by omega) (by omega) h1 (by have := h2.1; omega)
    refine ⟨drawE (some i) rs' acc, ρ2, by simp [drawE], e1, ?_⟩
    rw [e2]
    refine ⟨rs2, acc ++ [x], rfl, by omega, ?_, ?_⟩
    · rw [List.length_append, h2.1]; rfl
    · intro d hd
      rcases List.mem_append.mp hd with hd | hd
      · exact h2.2 d hd
      · rcases List.mem_singleton.mp hd with rfl; exact ⟨e4, e5⟩
  · exact ⟨rs, [], by simp [drawE, intsD], hr, rfl, fun d h => nomatch h⟩
/-- the body of the def that draws -/
theorem draws_body {K : PySem.W.Frag} {Wx : WxT} {wr : List Nat} {tr : TS} {N : List Str} {vs : List V} {H : Hp} {Q : VK} {E : XK} (h : VS K Wx wr tr f_draws) (hs : spDraws K vs H Q E) (hN : N.length = 9) :
    tSeq (tAsg (tLc (iList K (tVar 0)) (gName 8) tYes (tVar 8) [8]) (gName 2)) tr { nx := fun _ H' => Q .non H', rt := Q } (L2.start N vs) H := by
  obtain ⟨a, ns, n, rfl, hS, hl, hn, q⟩ := hs
  have hst : L2.start N [V.ref a, V.int n] = [some (.ref a), some (.int n), none, none, none, none, none, none, none] := by
    unfold L2.start
    rw [hN]
    rfl
  rw [hst]
  unfold tSeq tAsg
  refine draw_copy (σ := [some (.ref a), some (.int n), none, none, none, none, none, none, none]) (ns := ns) (c := 8) rfl hS hl (by show 8 < 9; decide) fun D H' g hD hD' => ?_
  obtain ⟨ds, h1, h2⟩ := draws_out ns n hl hn none 0 (Nat.zero_le _)
  have S : SR K H [] [some (.ref a), some (.int n), some (.ref D), none, none, none, none, none, none] H' [none, some (.int (n : Nat), 2), some (intsD ns, 2), none, none, none, none, none, none] (fun i => if i = 2 then [D] else []) := by
    refine ⟨rfl, g, fun i d m q => ?_, fun i j d m d' m' q q' ne b hb => ?_⟩
    · match i, q with
      | 1, q =>
        cases q
        exact ⟨_, rfl, .int _, fun a ha => (nomatch ha), ⟨fun a ha => (nomatch ha), fun z => (nomatch z), fun _ => List.nodup_nil⟩⟩
      | 2, q =>
        cases q
        refine ⟨_, rfl, ?_, fun a ha => ?_, fun a ha => ?_, fun z => (nomatch z), fun _ => ?_⟩
        · exact .lst hD' (rp_ints ns)
        · rcases List.mem_singleton.mp ha with rfl; exact .inl hD
        · rcases List.mem_singleton.mp ha with rfl; exact hD
        · show List.Nodup [D]; simp
      | 0, q => cases q
      | 3, q => cases q
      | 4, q => cases q
      | 5, q => cases q
      | 6, q => cases q
      | 7, q => cases q
      | 8, q => cases q
      | j + 9, q => simp at q
    · match i, q with
      | 1, q => cases q; exact absurd hb (fun z => nomatch z)
      | 2, q =>
        cases q
        match j, q' with
        | 1, q' => cases q'; exact fun z => nomatch z
        | 2, q' => exact absurd rfl ne
        | 0, q' => cases q'
        | 3, q' => cases q'
        | 4, q' => cases q'
        | 5, q' => cases q'
        | 6, q' => cases q'
        | 7, q' => cases q'
        | 8, q' => cases q'
        | j + 9, q' => simp at q'
      | 0, q => cases q
      | 3, q => cases q
      | 4, q => cases q
      | 5, q => cases q
      | 6, q => cases q
      | 7, q => cases q
      | 8, q => cases q
      | j + 9, q => simp at q
  refine h H [] _ H' _ _ _ S h2 _ fun v H2 G g2 r2 o2 => q ds h1 v H2 G g2 r2 o2
end Va

/-! Va16: loops and comprehensions by what they do; sizes. -/
namespace Va
open PySem L2 PyProof.Rows

/-! ### defs -/
def outK (o : Option Out) : Option (PyData × Nat) := o.bind fun o => match o with
  | .nx _ => some (.none, 2)
  | .rt d r => some (d, r)
  | _ => none
@[simp] theorem mOf_eq {n : Nat} {f : SF} {ds : List PyData} : mOf n f ds = outK (f (env0 n ds)) := (rfl)
@[simp] theorem outK_nx {ρ : Env} : outK (some (.nx ρ)) = some (.none, 2) := (rfl)
@[simp] theorem outK_rt {d : PyData} {r : Nat} : outK (some (.rt d r)) = some (d, r) := (rfl)
@[simp] theorem env0_eq {n : Nat} {ds : List PyData} : env0 n ds = ds.map (fun d => some (d, m02 d)) ++ List.replicate (n - ds.length) none := (rfl)
/-! ### loops -/
def bodyK (p : Option Env) (fb : SF) : Option Out := p.bind fb
@[simp] theorem bodyK_eq {ρ : Env} {fb : SF} : bodyK (some ρ) fb = fb ρ := (rfl)
theorem bodyK_some {p : Option Env} {fb : SF} {o : Out} (h : bodyK p fb = some o) : ∃ ρ1, p = some ρ1 ∧ fb ρ1 = some o := Option.bind_eq_some_iff.mp h
theorem intsFrom_len {lo : Int} {n : Nat} : (intsFrom lo n).length = n := by simp [intsFrom]
theorem loop_range {st : SG} {fb : SF} {fg : List Nat} {lo : Int} {n : Nat} {ρ : Env} (P : Nat → Env → Prop)
    (hs : ∀ i : Nat, i < n → ∀ ρ, P i ρ → ∃ ρ2, bodyK (st (.int (lo + (i : Nat))) ρ) fb = some (.nx ρ2) ∧ P (i + 1) (kil fg ρ2)) (h0 : P 0 (kil fg ρ)) :
    ∃ ρ', loopF st fb fg (intsFrom lo n) ρ = some (.nx ρ') ∧ P n ρ' := by
  have := loopF_P (st := st) (fb := fb) (fg := fg) P (intsFrom lo n) ρ 0 (fun i d hd ρ h => by
    obtain ⟨hi, rfl⟩ := intsFrom_get hd
    rw [Nat.zero_add] at h
    obtain ⟨ρ2, hb, h3⟩ := hs i hi ρ h
    obtain ⟨ρ1, h1, h2⟩ := bodyK_some hb
    exact ⟨ρ1, ρ2, h1, h2, by rw [Nat.zero_add]; exact h3⟩) h0
  rw [Nat.zero_add, intsFrom_len] at this
  exact this
/-- a loop over told items -/
theorem loop_items {α : Type} {st : SG} {fb : SF} {fg : List Nat} {e : α → PyData} {xs : List α} {ρ : Env} (P : List α → Env → Prop)
    (hs : ∀ (ys : List α) (x : α), ys ++ [x] <+: xs → ∀ ρ, P ys ρ → ∃ ρ2, bodyK (st (e x) ρ) fb = some (.nx ρ2) ∧ P (ys ++ [x]) (kil fg ρ2)) (h0 : P [] (kil fg ρ)) :
    ∃ ρ', loopF st fb fg (xs.map e) ρ = some (.nx ρ') ∧ P xs ρ' := by
  have := loopF_P (st := st) (fb := fb) (fg := fg) (fun i ρ => P (xs.take i) ρ) (xs.map e) ρ 0 (fun i d hd ρ h => by
    rw [List.getElem?_map] at hd
    obtain ⟨x, hx, rfl⟩ := Option.map_eq_some_iff.mp hd
    rw [Nat.zero_add] at h
    obtain ⟨h1, h2⟩ := List.getElem?_eq_some_iff.mp hx
    have e1 : xs.take (i + 1) = xs.take i ++ [x] := by rw [List.take_succ_eq_append_getElem h1, h2]
    obtain ⟨ρ2, hb, a3⟩ := hs (xs.take i) x (by rw [← e1]; exact List.take_prefix _ _) ρ h
    obtain ⟨ρ1, a1, a2⟩ := bodyK_some hb
    exact ⟨ρ1, ρ2, a1, a2, by rw [Nat.zero_add, e1]; exact a3⟩) (by rw [List.take_zero]; exact h0)
  rw [Nat.zero_add, List.length_map, List.take_length] at this
  exact this
/-- a list comprehension whose items are flat or new -/
theorem lc_map {α : Type} {ns vs : List Nat} {st : SG} {ft : Env → Option Bool} {fe : EF} {e : α → PyData} {g : α → PyData} {c : α → Bool} {xs : List α} {k : Kd} {ρ : Env} (hl : xs.length ≤ 1000000)
    (h : ∀ x ∈ xs, ∃ ρ1, st (e x) (wipeE (zeroE ρ) vs) = some ρ1 ∧ ft ρ1 = some (c x) ∧ (c x = true → ∃ L, fe ρ1 = some (g x, .mv L))) :
    lcK (some (xs.map e, k)) ns st ft fe vs ρ = some (.list ((xs.filter c).map g), .mv []) := by
  have main : ∀ ys : List α, (∀ y ∈ ys, y ∈ xs) → ∃ L, lcF ns st ft fe (wipeE (zeroE ρ) vs) (ys.map e) = some ((ys.filter c).map g, true, L) := by
    intro ys
    induction ys with
    | nil => intro _; exact ⟨[], rfl⟩
    | cons y ys ih =>
      intro hy
      obtain ⟨L, hL⟩ := ih fun z hz => hy z (List.mem_cons_of_mem _ hz)
      obtain ⟨ρ1, e1, e2, e3⟩ := h y (hy y (List.mem_cons_self ..))
      rw [List.map_cons, lcF, e1, Option.bind_some, e2, Option.bind_some]
      cases hc : c y with
      | true =>
        obtain ⟨M, e4⟩ := e3 hc
        rw [if_pos rfl, e4, Option.bind_some, hL, List.filter_cons_of_pos hc]
        exact ⟨_, rfl⟩
      | false =>
        rw [if_neg (by simp), hL, List.filter_cons_of_neg (by simp [hc])]
        exact ⟨_, rfl⟩
  obtain ⟨L, hL⟩ := main xs fun _ h => h
  rw [lcK_eq, if_pos (by rw [List.length_map]; exact hl), hL]
  simp
theorem filter_tt {α : Type} : ∀ xs : List α, xs.filter (fun _ => true) = xs
  | [] => rfl
  | x :: xs => by rw [List.filter_cons_of_pos rfl, filter_tt xs]
theorem lc_map1 {α : Type} {ns vs : List Nat} {st : SG} {fe : EF} {e : α → PyData} {g : α → PyData} {xs : List α} {k : Kd} {ρ : Env} (hl : xs.length ≤ 1000000)
    (h : ∀ x ∈ xs, ∃ ρ1, st (e x) (wipeE (zeroE ρ) vs) = some ρ1 ∧ ∃ L, fe ρ1 = some (g x, .mv L)) :
    lcK (some (xs.map e, k)) ns st (fun _ => some true) fe vs ρ = some (.list (xs.map g), .mv []) := by
  have := lc_map (ns := ns) (vs := vs) (st := st) (ft := fun _ => some true) (fe := fe) (e := e) (g := g) (c := fun _ => true) (k := k) (ρ := ρ) hl fun x hx => by
    obtain ⟨ρ1, h1, h2⟩ := h x hx
    exact ⟨ρ1, h1, rfl, fun _ => h2⟩
  rw [this, filter_tt]
@[simp] theorem zeroE_nil : zeroE [] = [] := (rfl)
@[simp] theorem zeroE_none {ρ : Env} : zeroE (none :: ρ) = none :: zeroE ρ := (rfl)
@[simp] theorem zeroE_some {d : PyData} {m : Nat} {ρ : Env} : zeroE (some (d, m) :: ρ) = some (d, 0) :: zeroE ρ := (rfl)

/-! ### texts -/
structure TOk (n : Nat) (x : Str) : Prop where
  ok : PyData.strOk x = true
  len : x.length ≤ n
theorem strOk_of (s : String) : PyData.strOk (Str.ofString s) = true := by
  unfold PyData.strOk
  rw [Str.ofString_eq_toList, List.all_toArray, List.all_map, List.all_eq_true]
  intro c _
  have h := c.valid
  simp only [UInt32.isValidChar, Nat.isValidChar] at h
  simp only [Function.comp_apply, decide_eq_true_eq, Char.toNat]
  omega
theorem TOk.lit {n : Nat} (s : String) (h : s.length ≤ n) : TOk n (Str.ofString s) := ⟨strOk_of s, by rw [PySem.ofString_length]; exact h⟩
theorem TOk.mono {n m : Nat} {x : Str} (h : TOk n x) (k : n ≤ m) : TOk m x := ⟨h.1, Nat.le_trans h.2 k⟩
theorem TOk.app {n m : Nat} {x y : Str} (h : TOk n x) (k : TOk m y) : TOk (n + m) (x ++ y) := by
  refine ⟨?_, by rw [Str.length_append]; exact Nat.add_le_add h.2 k.2⟩
  have h1 := h.1
  have h2 := k.1
  unfold PyData.strOk at *
  rw [Str.cps_append, Array.all_append, h1, h2]
  rfl
theorem TOk.empty : TOk 0 Str.empty := ⟨by decide +kernel, Nat.le_refl _⟩
theorem TOk.int {i : Int} (h : i.natAbs < 10 ^ 12) : TOk 13 (Str.ofString (toString i)) := ⟨strOk_of _, by rw [PySem.ofString_length]; exact int_text_length_le10 (k := 12) (by decide) h⟩
theorem TOk.sjoin {n m : Nat} {sep : Str} (hs : TOk m sep) : ∀ {xs : List Str}, (∀ x ∈ xs, TOk n x) → TOk (xs.length * (n + m)) (Str.join sep xs)
  | [], _ => TOk.empty.mono (Nat.zero_le _)
  | [x], h => (h x (List.mem_cons_self ..)).mono (by simp)
  | x :: y :: r, h => by
    have := ((h x (List.mem_cons_self ..)).app hs).app (TOk.sjoin hs (xs := y :: r) fun z hz => h z (List.mem_cons_of_mem _ hz))
    refine TOk.mono this ?_
    rw [List.length_cons (a := x), Nat.succ_mul]
    omega
theorem txt_join (y : Str) (xs : List Str) : Txt.join y xs = Str.join y xs := StrLaws.glued_eq_join y xs
theorem TOk.join {n m k : Nat} {sep : Str} {xs : List Str} (h : ∀ x ∈ xs, TOk n x) (hs : TOk m sep) (hk : xs.length ≤ k) : TOk (k * (n + m)) (Txt.join sep xs) := by
  rw [txt_join]
  exact (TOk.sjoin hs h).mono (Nat.mul_le_mul_right _ hk)
@[simp] theorem strsOf_map {xs : List Str} : strsOf (xs.map PyData.str) = some xs := by
  induction xs with
  | nil => rfl
  | cons n ns ih => simp [strsOf, ih]
theorem sum_le_mul {n : Nat} : ∀ {xs : List Nat}, (∀ x ∈ xs, x ≤ n) → xs.sum ≤ xs.length * n
  | [], _ => by simp
  | x :: xs, h => by
    have := sum_le_mul (xs := xs) fun z hz => h z (List.mem_cons_of_mem _ hz)
    have h0 := h x (List.mem_cons_self ..)
    rw [List.sum_cons, List.length_cons, Nat.succ_mul]
    omega
theorem joinD_ok {n m k : Nat} {sep : Str} {xs : List Str} (h : ∀ x ∈ xs, x.length ≤ n) (hs : sep.length ≤ m) (hk : xs.length ≤ k) (hh : k * (n + m) ≤ 1000000) : joinD (.str sep) (.list (xs.map PyData.str)) = some (.str (Txt.join sep xs)) := by
  have h1 : (xs.map (·.length)).sum ≤ xs.length * n := by
    have := sum_le_mul (n := n) (xs := xs.map (·.length)) fun y hy => by
      obtain ⟨x, hx, rfl⟩ := List.mem_map.mp hy
      exact h x hx
    rwa [List.length_map] at this
  have h2 : xs.length * sep.length ≤ xs.length * m := Nat.mul_le_mul_left _ hs
  have h3 : xs.length * (n + m) ≤ k * (n + m) := Nat.mul_le_mul_right _ hk
  rw [Nat.mul_add] at h3
  unfold joinD
  simp only [strsOf_map, Option.bind_some]
  rw [if_pos (by omega)]

/-! ### what may be shown and compared -/
structure Tame (D W : Nat) (d : PyData) : Prop where
  lay : d.canLay0 = true
  show_ : d.showable = true
  short : d.intsShort 13 = true
  deep : d.depth ≤ D
  heavy : d.weight ≤ W
section
variable {D W D' W' n : Nat} {d : PyData} {ds : List PyData}
theorem Tame.mono (h : Tame D W d) (h1 : D ≤ D') (h2 : W ≤ W') : Tame D' W' d := ⟨h.lay, h.show_, h.short, Nat.le_trans h.deep h1, Nat.le_trans h.heavy h2⟩
theorem Tame.none : Tame 0 0 .none := ⟨rfl, rfl, rfl, Nat.le_refl _, Nat.le_refl _⟩
theorem Tame.bool {b : Bool} : Tame 0 0 (.bool b) := ⟨rfl, rfl, rfl, Nat.le_refl _, Nat.le_refl _⟩
theorem Tame.str {x : Str} (h : TOk W x) : Tame 0 W (.str x) := ⟨by simpa only [PyData.canLay0] using h.ok, rfl, rfl, Nat.le_refl _, h.len⟩
theorem Tame.int {i : Int} (h : i.natAbs < 10 ^ 12) : Tame 0 40 (.int i) := by
  have hl : i.natAbs.log2 < 40 := by
    by_cases h0 : i.natAbs = 0
    · rw [h0]; decide
    · exact (Nat.log2_lt h0).mpr (Nat.lt_of_lt_of_le h (by decide))
  refine ⟨rfl, ?_, ?_, Nat.le_refl _, ?_⟩
  · simp only [PyData.showable, decide_eq_true_eq]
    omega
  · simp only [PyData.intsShort, decide_eq_true_eq]
    exact PyData.shown_int_le h
  · simp only [PyData.weight]
    split <;> omega
theorem tame_all (h : ∀ x ∈ ds, Tame D W x) : PyData.canLayAll0 ds = true ∧ PyData.showableAll ds = true ∧ PyData.intsShortAll 13 ds = true ∧ PyData.depthAll ds ≤ D ∧ PyData.weightAll ds ≤ ds.length * (W + 1) := by
  induction ds with
  | nil => exact ⟨rfl, rfl, rfl, Nat.zero_le _, Nat.zero_le _⟩
  | cons x xs ih =>
    obtain ⟨h1, h2, h3, h4, h5⟩ := ih fun y hy => h y (List.mem_cons_of_mem _ hy)
    have hx := h x (List.mem_cons_self ..)
    refine ⟨?_, ?_, ?_, ?_, ?_⟩
    · simp only [PyData.canLayAll0, hx.lay, h1, Bool.and_self]
    · simp only [PyData.showableAll, hx.show_, h2, Bool.and_self]
    · simp only [PyData.intsShortAll, hx.short, h3, Bool.and_self]
    · simp only [PyData.depthAll]
      exact Nat.max_le.mpr ⟨hx.deep, h4⟩
    · simp only [PyData.weightAll]
      have := hx.heavy
      rw [List.length_cons, Nat.succ_mul]
      omega
theorem Tame.list (h : ∀ x ∈ ds, Tame D W x) (hn : ds.length ≤ n) : Tame (D + 1) (n * (W + 1)) (.list ds) := by
  obtain ⟨h1, h2, h3, h4, h5⟩ := tame_all h
  refine ⟨?_, ?_, ?_, ?_, ?_⟩
  · simpa only [PyData.canLay0] using h1
  · simpa only [PyData.showable] using h2
  · simpa only [PyData.intsShort] using h3
  · simp only [PyData.depth]; omega
  · simp only [PyData.weight]
    exact Nat.le_trans h5 (Nat.mul_le_mul_right _ hn)
theorem Tame.tuple (h : ∀ x ∈ ds, Tame D W x) (hn : ds.length ≤ n) : Tame (D + 1) (n * (W + 1)) (.tuple ds) := by
  obtain ⟨h1, h2, h3, h4, h5⟩ := tame_all h
  refine ⟨?_, ?_, ?_, ?_, ?_⟩
  · simpa only [PyData.canLay0] using h1
  · simpa only [PyData.showable] using h2
  · simpa only [PyData.intsShort] using h3
  · simp only [PyData.depth]; omega
  · simp only [PyData.weight]
    exact Nat.le_trans h5 (Nat.mul_le_mul_right _ hn)
theorem Tame.reprOk (h : Tame D W d) (hD : D ≤ 60) (hW : W ≤ 60000) : reprOk d = true := by
  have hs := PyData.shown_le 13 (by decide) d (PyData.leavesShort_of_canLay0 13 d h.lay h.short)
  have h1 := h.deep
  have h2 := h.heavy
  unfold Va.reprOk
  simp only [Bool.and_eq_true, decide_eq_true_eq]
  exact ⟨⟨⟨h.show_, h.lay⟩, by omega⟩, by omega⟩
theorem Tame.shaped (h : Tame D W d) (hD : D ≤ 64) : SeqAt.shaped d = true := by
  have h1 := h.deep
  unfold SeqAt.shaped
  simp only [Bool.and_eq_true, decide_eq_true_eq]
  exact ⟨h.lay, by omega⟩
theorem Tame.eqv (h : Tame D W d) : PyData.eqv d d = true := SeqAt.eqv_refl d h.lay
end
theorem shaped_str {x : Str} (h : PyData.strOk x = true) : SeqAt.shaped (.str x) = true := by
  unfold SeqAt.shaped
  simp [PyData.canLay0, PyData.depth, h]
end Va

/-! Ma1: towns, made of draws. -/
namespace Va
open PySem L2 PyProof.Rows
def b1_law_town : SF := (sSeq (sIf (tVal (eApp (gF hLt) (aCons (eApp (gF hMod) (aCons (eApp (gF hInt) (aCons (eApp gIx (aCons (eVar 0) (aCons (eVar 4) aNil))) aNil)) (aCons (eC (.int 5)) aNil))) (aCons (eC (.int 3)) aNil)))) (sMutL [6] 3 (eApp gnTup (aCons (eVar 5) (aCons (eVar 6) (aCons (eApp (gAdd) (aCons (eC (.int 1)) (aCons (eApp (gF hMod) (aCons (eApp (gF hInt) (aCons (eApp (gF hDiv) (aCons (eApp gIx (aCons (eVar 0) (aCons (eVar 4) aNil))) (aCons (eC (.int 5)) aNil))) aNil)) (aCons (eApp gIx (aCons (eApp gnLst (aCons (eC (.int 3)) (aCons (eC (.int 9)) aNil))) (aCons (eApp (gF hMod) (aCons (eApp (gF hInt) (aCons (eApp (gF hDiv) (aCons (eApp gIx (aCons (eVar 0) (aCons (eVar 4) aNil))) (aCons (eC (.int 45)) aNil))) aNil)) (aCons (eC (.int 2)) aNil))) aNil))) aNil))) aNil))) aNil)))) hApp) sNext) (sSet [] 4 (eApp (gAdd) (aCons (eVar 4) (aCons (eC (.int 1)) aNil)))))
def b2_law_town : SF := (sFor (iR2 (aCons (eApp (gAdd) (aCons (eVar 5) (aCons (eC (.int 1)) aNil))) (aCons (eVar 2) aNil))) [6] (tgN 6) [3, 4, 6] b1_law_town [1, 6])
def f_law_town : SF := (sSeq (sSet [1] 2 (eApp (gAdd) (aCons (eC (.int 1)) (aCons (eApp (gF hMod) (aCons (eApp (gF hInt) (aCons (eApp gIx (aCons (eVar 0) (aCons (eC (.int 0)) aNil))) aNil)) (aCons (eVar 1) aNil))) aNil)))) (sSeq (sSet [] 3 (eApp gnLst aNil)) (sSeq (sSet [] 4 (eC (.int 1))) (sSeq (sFor (iR1 (aCons (eVar 2) aNil)) [5] (tgN 5) [3, 4, 6] b2_law_town [1, 5, 6]) (sRet (eApp gnTup (aCons (eVar 2) (aCons (eVar 3) aNil))))))))
def m_law_town : MF := mOf 7 f_law_town
structure Town (n : Nat) (rs : List (Nat × Nat × Nat)) : Prop where
  pos : 1 ≤ n
  road : ∀ r ∈ rs, r.1 < r.2.1 ∧ r.2.1 < n ∧ 1 ≤ r.2.2 ∧ r.2.2 ≤ 9
  asc : rs.Pairwise fun r s => r.1 < s.1 ∨ (r.1 = s.1 ∧ r.2.1 < s.2.1)
def roadD (r : Nat × Nat × Nat) : PyData := .tuple [.int (r.1 : Nat), .int (r.2.1 : Nat), .int (r.2.2 : Nat)]
def townD (n : Nat) (rs : List (Nat × Nat × Nat)) : PyData := .tuple [.int (n : Nat), .list (rs.map roadD)]
/-- pairs of places whose first is below i -/
def pairs (n : Nat) : Nat → Nat
  | 0 => 0
  | i + 1 => pairs n i + (n - 1 - i)
theorem pairs_le {n i : Nat} : ∀ {m : Nat}, i ≤ m → pairs n i ≤ pairs n m
  | 0, h => by rw [Nat.le_zero.mp h]; exact Nat.le_refl _
  | m + 1, h => by
    rcases Nat.lt_or_eq_of_le h with h | h
    · exact Nat.le_trans (pairs_le (Nat.le_of_lt_succ h)) (Nat.le_add_right _ _)
    · rw [h]; exact Nat.le_refl _
@[simp] theorem flat_road {r : Nat × Nat × Nat} : flat (roadD r) = true := by simp [roadD]
@[simp] theorem flatL_roads {rs : List (Nat × Nat × Nat)} : flatL (rs.map roadD) = true := flatL_all (fun _ => by simp) rs
def townE (ds : List Int) (n : Nat) (rs : List (Nat × Nat × Nat)) (k : Nat) (i j : Option Nat) : Env :=
  [some (intsD ds, 0), none, some (.int (n : Nat), 2), some (.list (rs.map roadD), 2), some (.int (k : Nat), 2), i.map fun i => (.int (i : Nat), 2), j.map fun j => (.int (j : Nat), 2)]
theorem draw_at {N : Nat} {ds : List Int} (hd : Drawn N ds) {k : Nat} (hk : k < N) : ∃ x : Nat, ds[k]? = some (x : Int) ∧ x < 1000 := by
  obtain ⟨h1, h2⟩ := hd
  have hk' : k < ds.length := by omega
  have hx := h2 ds[k] (List.getElem_mem hk')
  exact ⟨ds[k].toNat, by rw [List.getElem?_eq_getElem hk']; congr 1; omega, by omega⟩
theorem town_step {N : Nat} {ds : List Int} (hd : Drawn N ds) {n k i j : Nat} {rs : List (Nat × Nat × Nat)} (hk : k < N) (hr : rs.length < 1000000) :
    ∃ rs' ρ2, b1_law_town (townE ds n rs k (some i) (some j)) = some (.nx ρ2) ∧ kil [1, 6] ρ2 = townE ds n rs' (k + 1) (some i) none ∧ (rs' = rs ∨ ∃ l, rs' = rs ++ [(i, j, l)] ∧ 1 ≤ l ∧ l ≤ 9) := by
  obtain ⟨x, hx, hx1⟩ := draw_at hd hk
  have e5 : ((x : Int) % 5 < 3) ↔ x % 5 < 3 := by omega
  by_cases h : x % 5 < 3
  · have h' : (x : Int) % 5 < 3 := by omega
    by_cases h2 : (x : Int) / 45 % 2 = 0
    · refine ⟨rs ++ [(i, j, 1 + x / 5 % 3)], ?_⟩
      simp [b1_law_town, townE, intsD, atI_nat, hx, h', h2, hr, roadD]
      omega
    · have h3 : (x : Int) / 45 % 2 = 1 := by omega
      refine ⟨rs ++ [(i, j, 1 + x / 5 % 9)], ?_⟩
      simp [b1_law_town, townE, intsD, atI_nat, hx, h', h3, hr, roadD]
      omega
  · have h' : ¬ (x : Int) % 5 < 3 := by omega
    refine ⟨rs, ?_⟩
    simp [b1_law_town, townE, intsD, atI_nat, hx, h', hr]
/-- what stands of the town behind the pairs ahead of (i, j) -/
def TownTo (n i j : Nat) (rs : List (Nat × Nat × Nat)) : Prop :=
  (∀ r ∈ rs, r.1 < r.2.1 ∧ r.2.1 < n ∧ 1 ≤ r.2.2 ∧ r.2.2 ≤ 9 ∧ (r.1 < i ∨ (r.1 = i ∧ r.2.1 < j))) ∧ rs.Pairwise (fun r s => r.1 < s.1 ∨ (r.1 = s.1 ∧ r.2.1 < s.2.1))
theorem townTo_step {n i j l : Nat} {rs : List (Nat × Nat × Nat)} (h : TownTo n i j rs) (hij : i < j) (hj : j < n) (h1 : 1 ≤ l) (h9 : l ≤ 9) : TownTo n i (j + 1) (rs ++ [(i, j, l)]) := by
  refine ⟨fun r hr => ?_, ?_⟩
  · rcases List.mem_append.mp hr with hr | hr
    · obtain ⟨a, b, c, d, e⟩ := h.1 r hr
      exact ⟨a, b, c, d, by omega⟩
    · rcases List.mem_singleton.mp hr with rfl
      exact ⟨hij, hj, h1, h9, .inr ⟨rfl, Nat.lt_succ_self _⟩⟩
  · refine List.pairwise_append.mpr ⟨h.2, List.pairwise_singleton _ _, fun r hr s hs => ?_⟩
    rcases List.mem_singleton.mp hs with rfl
    obtain ⟨a, b, c, d, e⟩ := h.1 r hr
    omega
theorem townTo_skip {n i j i' j' : Nat} {rs : List (Nat × Nat × Nat)} (h : TownTo n i j rs) (hh : i < i' ∨ (i = i' ∧ j ≤ j')) : TownTo n i' j' rs :=
  ⟨fun r hr => by
    obtain ⟨a, b, c, d, e⟩ := h.1 r hr
    exact ⟨a, b, c, d, by omega⟩, h.2⟩
theorem town_row {N : Nat} {ds : List Int} (hd : Drawn N ds) {n i : Nat} {rs : List (Nat × Nat × Nat)} (hN : 1 + pairs n n ≤ N) (hn : n ≤ 1000) (hi : i < n) (hr : rs.length ≤ 1000 * i) (ht : TownTo n i 0 rs) :
    ∃ rs', b2_law_town (townE ds n rs (1 + pairs n i) (some i) none) = some (.nx (townE ds n rs' (1 + pairs n (i + 1)) (some i) none)) ∧ rs'.length ≤ 1000 * (i + 1) ∧ TownTo n (i + 1) 0 rs' := by
  have hl := loop_range (st := tgN 6) (fb := b1_law_town) (fg := [1, 6]) (lo := (i : Int) + 1) (n := n - 1 - i) (ρ := townE ds n rs (1 + pairs n i) (some i) none)
    (fun j ρ => ∃ rs', ρ = townE ds n rs' (1 + pairs n i + j) (some i) none ∧ rs'.length ≤ 1000 * i + j ∧ TownTo n i (i + 1 + j) rs') ?_ ?_
  · obtain ⟨ρ', h1, rs', rfl, h2, h3⟩ := hl
    refine ⟨rs', ?_, by omega, townTo_skip h3 (by omega)⟩
    have a1 : i62 ((i : Int) + 1) = true := i62_lit (n := i + 1) (by omega)
    have a2 : i62 (n : Int) = true := i62_lit (by omega)
    have e : ((n : Int) - ((i : Int) + 1)).toNat = n - 1 - i := by omega
    rw [show 1 + pairs n i + (n - 1 - i) = 1 + pairs n (i + 1) by simp only [pairs]; omega] at h1
    simp only [townE, Option.map_some, Option.map_none] at h1
    push_cast at h1
    simp only [b2_law_town, townE, Option.map_some, Option.map_none]
    simp [a1, a2, e, forK_flat, h1]
  · rintro j hj ρ ⟨rs', rfl, h1, h2⟩
    have hk : 1 + pairs n i + j < N := by
      have := pairs_le (n := n) (i := i + 1) (m := n) (by omega)
      simp only [pairs] at this
      omega
    obtain ⟨rs2, ρ2, e1, e2, e3⟩ := town_step hd (n := n) (k := 1 + pairs n i + j) (i := i) (j := i + 1 + j) (rs := rs') hk (by omega)
    have e0 : tgN 6 (.int ((i : Int) + 1 + (j : Nat))) (townE ds n rs' (1 + pairs n i + j) (some i) none) = some (townE ds n rs' (1 + pairs n i + j) (some i) (some (i + 1 + j))) := by simp [townE]
    refine ⟨ρ2, by rw [e0, bodyK_eq]; exact e1, rs2, e2, ?_, ?_⟩
    · rcases e3 with rfl | ⟨l, rfl, _, _⟩
      · omega
      · rw [List.length_append, List.length_singleton]; omega
    · rcases e3 with rfl | ⟨l, rfl, l1, l2⟩
      · exact townTo_skip h2 (by omega)
      · have q := townTo_step (j := i + 1 + j) h2 (by omega) (by omega) l1 l2
        exact q
  · exact ⟨rs, by simp [townE], by omega, townTo_skip ht (by omega)⟩
theorem town_ok {N : Nat} {ds : List Int} (hd : Drawn N ds) {most : Nat} (h1 : 1 ≤ most) (h2 : most ≤ 1000) (hN : ∀ n, n ≤ most → 1 + pairs n n ≤ N) :
    ∃ n rs, Town n rs ∧ n ≤ most ∧ m_law_town [intsD ds, .int (most : Nat)] = some (townD n rs, 2) := by
  obtain ⟨x, hx, hx1⟩ := draw_at hd (k := 0) (by have := hN 0 (by omega); omega)
  have hm : x % most < most := Nat.mod_lt _ h1
  generalize hn : 1 + x % most = n at *
  have hn2 : n ≤ most := by omega
  have hl := loop_range (st := tgN 5) (fb := b2_law_town) (fg := [1, 5, 6]) (lo := 0) (n := n) (ρ := [some (intsD ds, 0), some (.int (most : Nat), 2), some (.int (n : Nat), 2), some (.list [], 2), some (.int 1, 2), none, none])
    (fun i ρ => ∃ rs', ρ = townE ds n rs' (1 + pairs n i) none none ∧ rs'.length ≤ 1000 * i ∧ TownTo n i 0 rs') ?_ ?_
  · obtain ⟨ρ', e1, rs, rfl, e2, e3⟩ := hl
    refine ⟨n, rs, ⟨by omega, fun r hr => ?_, e3.2⟩, hn2, ?_⟩
    · obtain ⟨a, b, c, d, _⟩ := e3.1 r hr
      exact ⟨a, b, c, d⟩
    · have a2 : i62 (n : Int) = true := i62_lit (by omega)
      have e : (1 : Int) + (x : Int) % (most : Int) = (n : Nat) := by omega
      have h0 : (0 : Int) < most := by omega
      simp only [townE, Option.map_none, pairs, List.map_nil, Nat.add_zero] at e1
      have hp : 0 < most := h1
      simp only [intsD] at e1
      simp [m_law_town, f_law_town, intsD, atI_nat, hx, e, hp, forK_flat, a2, e1, townD]
  · rintro i hi ρ ⟨rs', rfl, e1, e2⟩
    obtain ⟨rs2, q1, q2, q3⟩ := town_row hd (n := n) (i := i) (rs := rs') (hN n hn2) (by omega) hi e1 e2
    have e0 : tgN 5 (.int (0 + (i : Nat))) (townE ds n rs' (1 + pairs n i) none none) = some (townE ds n rs' (1 + pairs n i) (some i) none) := by simp [townE]
    exact ⟨townE ds n rs2 (1 + pairs n (i + 1)) (some i) none, by rw [e0, bodyK_eq]; exact q1, rs2, by simp [townE], q2, q3⟩
  · exact ⟨[], by simp [townE, pairs], by simp, fun r hr => (nomatch hr), List.Pairwise.nil⟩
/-! ### what every town has -/
theorem asc_len : ∀ {xs : List Nat} {lo m : Nat}, xs.Pairwise (· < ·) → (∀ x ∈ xs, lo ≤ x ∧ x < m) → xs.length ≤ m - lo
  | [], _, _, _, _ => Nat.zero_le _
  | x :: xs, lo, m, h, hb => by
    have h0 := hb x (List.mem_cons_self ..)
    obtain ⟨h1, h2⟩ := List.pairwise_cons.mp h
    have := asc_len (lo := x + 1) (m := m) h2 fun y hy => ⟨h1 y hy, (hb y (List.mem_cons_of_mem _ hy)).2⟩
    rw [List.length_cons]
    omega
section
variable {n : Nat} {rs : List (Nat × Nat × Nat)} (T : Town n rs)
include T
theorem Town.len : rs.length ≤ n * n := by
  have h := asc_len (xs := rs.map fun r => r.1 * n + r.2.1) (lo := 0) (m := n * n) ?_ ?_
  · rwa [List.length_map] at h
  · refine List.pairwise_map.mpr (T.asc.imp_of_mem fun {r s} hr hs h => ?_)
    obtain ⟨_, h2, _⟩ := T.road r hr
    obtain ⟨_, k2, _⟩ := T.road s hs
    rcases h with h | ⟨h, h'⟩
    · have : (r.1 + 1) * n ≤ s.1 * n := Nat.mul_le_mul_right _ h
      rw [Nat.succ_mul] at this
      omega
    · rw [h]; omega
  · intro x hx
    obtain ⟨r, hr, rfl⟩ := List.mem_map.mp hx
    obtain ⟨h1, h2, _⟩ := T.road r hr
    have : (r.1 + 1) * n ≤ n * n := Nat.mul_le_mul_right _ (by omega)
    rw [Nat.succ_mul] at this
    exact ⟨Nat.zero_le _, by omega⟩
theorem Town.roadTame (hn : n ≤ 1000) : ∀ r ∈ rs, Tame 1 123 (roadD r) := fun r hr => by
  obtain ⟨h1, h2, h3, h4⟩ := T.road r hr
  refine Tame.tuple (D := 0) (W := 40) (n := 3) (fun x hx => ?_) (Nat.le_refl _)
  simp only [List.mem_cons, List.not_mem_nil, or_false] at hx
  rcases hx with rfl | rfl | rfl <;> exact Tame.int (by omega)
theorem Town.tame (hn : n ≤ 9) : Tame 3 20090 (townD n rs) := by
  refine Tame.tuple (D := 2) (W := 10044) (n := 2) (fun x hx => ?_) (Nat.le_refl _)
  simp only [List.mem_cons, List.not_mem_nil, or_false] at hx
  rcases hx with rfl | rfl
  · exact (Tame.int (by omega)).mono (by omega) (by omega)
  · refine Tame.list (D := 1) (W := 123) (n := 81) (fun x hx => ?_) ?_
    · obtain ⟨r, hr, rfl⟩ := List.mem_map.mp hx
      exact T.roadTame (by omega) r hr
    · rw [List.length_map]
      exact Nat.le_trans T.len (Nat.mul_le_mul hn hn)
end
@[simp] theorem flat_town {n : Nat} {rs : List (Nat × Nat × Nat)} : flat (townD n rs) = false := by simp [townD]
end Va

/-! Ma2: towns, written. -/
namespace Va
open PySem L2 PyProof.Rows
def e1_written : EF := (eApp (gF hStr) (aCons (eVar 1) aNil))
def f_written : SF := (sRet (eApp (gAdd) (aCons (eM1 joinD (eC (.str " ")) (eLc (iSeq (eVar 0)) [1] (tgN 1) (fun _ => some true) e1_written [1])) (aCons (eC (.str "\n")) aNil))))
def m_written : MF := mOf 2 f_written
def e1_write_town : EF := (eApp (gCall 1 m_written) (aCons (eApp gnLst (aCons (eC (.str "road")) (aStar (eVar 3) aNil))) aNil))
def f_write_town : SF := (sSeq (sAsgT (tgT 2 (tgCons (tgN 1) (tgCons (tgN 2) tgNil))) (eVar 0)) (sRet (eM1 joinD (eC (.str "")) (eApp (gAdd) (aCons (eApp gnLst (aCons (eApp (gCall 1 m_written) (aCons (eApp gnLst (aCons (eC (.str "places")) (aCons (eVar 1) aNil))) aNil)) aNil)) (aCons (eLc (iSeq (eVar 2)) [3] (tgN 3) (fun _ => some true) e1_write_town [3]) aNil))))))
def m_write_town : MF := mOf 4 f_write_town
def e1_law_text : EF := (eApp (gAdd) (aCons (eM1 joinD (eC (.str " ")) (eVar 1)) (aCons (eC (.str "\n")) aNil)))
def f_law_text : SF := (sRet (eM1 joinD (eC (.str "")) (eLc (iSeq (eVar 0)) [1] (tgN 1) (fun _ => some true) e1_law_text [1])))
def m_law_text : MF := mOf 2 f_law_text
def e1_law_lines : EF := (eApp (gF hStr) (aCons (eVar 2) aNil))
def e2_law_lines : EF := (eApp (gAdd) (aCons (eApp gnLst (aCons (eC (.str "road")) aNil)) (aCons (eLc (iSeq (eVar 1)) [2] (tgN 2) (fun _ => some true) e1_law_lines [2]) aNil)))
def f_law_lines : SF := (sRet (eApp (gAdd) (aCons (eApp gnLst (aCons (eApp gnLst (aCons (eC (.str "places")) (aCons (eApp (gF hStr) (aCons (eApp gIx (aCons (eVar 0) (aCons (eC (.int 0)) aNil))) aNil)) aNil))) aNil)) (aCons (eLc (iSeq (eApp gIx (aCons (eVar 0) (aCons (eC (.int 1)) aNil)))) [1] (tgN 1) (fun _ => some true) e2_law_lines [1]) aNil))))
def m_law_lines : MF := mOf 3 f_law_lines
/-! ### words -/
def numT (n : Nat) : Str := Str.ofString (toString (n : Int))
inductive Wd where
  | t (x : Str) | n (k : Nat)
def Wd.d : Wd → PyData
  | .t x => .str x
  | .n k => .int (k : Nat)
def Wd.s : Wd → Str
  | .t x => x
  | .n k => numT k
def Wd.Ok : Wd → Prop
  | .t x => TOk 20 x
  | .n k => k < 1000000
theorem Wd.Ok.tok {w : Wd} (h : w.Ok) : TOk 20 w.s := by
  cases w with
  | t x => exact h
  | n k =>
    have h : k < 1000000 := h
    exact (TOk.int (i := (k : Int)) (by omega)).mono (by omega)
theorem log2_1920 {n : Nat} (h : n < 1000000) : Nat.log2 n < 1920 := by
  by_cases h0 : n = 0
  · rw [h0]; decide
  · exact Nat.lt_of_lt_of_le ((Nat.log2_lt (k := 20) h0).mpr (by omega)) (by decide)
theorem hStr_wd {w : Wd} (h : w.Ok) : hStr [w.d] = some (.str w.s) := by
  cases w with
  | t x => rfl
  | n k =>
    have h : k < 1000000 := h
    simp [Wd.d, Wd.s, log2_1920 h, numT]
@[simp] theorem flat_wd {w : Wd} : flat w.d = true := by cases w <;> simp [Wd.d]
theorem varD_wd {w : Wd} {m i : Nat} : varD w.d m i = .mv [] := varD_flat flat_wd
@[simp] theorem flatL_wds {ws : List Wd} : flatL (ws.map Wd.d) = true := flatL_all (fun _ => by simp) ws
@[simp] theorem flatL_strs {xs : List Str} : flatL (xs.map PyData.str) = true := flatL_all (fun _ => by simp) xs
/-- the text of a line -/
def lineT (xs : List Str) : Str := Txt.join " " xs ++ "\n"
theorem line_tok {xs : List Str} (h : ∀ x ∈ xs, TOk 20 x) (hl : xs.length ≤ 10) : TOk 220 (lineT xs) := by
  have h1 := TOk.join (n := 20) (m := 1) (k := 10) h (TOk.lit " " (by decide)) hl
  exact (h1.app (TOk.lit (n := 1) "\n" (by decide))).mono (by omega)
theorem m_written_ok {ws : List Wd} (h : ∀ w ∈ ws, w.Ok) (hl : ws.length ≤ 10) : m_written [.list (ws.map Wd.d)] = some (.str (lineT (ws.map Wd.s)), 2) := by
  have h1 : ∀ x ∈ ws.map Wd.s, x.length ≤ 20 := fun x hx => by
    obtain ⟨w, hw, rfl⟩ := List.mem_map.mp hx
    exact (h w hw).tok.len
  have hj := joinD_ok (n := 20) (m := 1) (k := 10) (sep := " ") h1 (TOk.lit " " (by decide)).len (by simpa using hl) (by decide)
  have hc := lc_map1 (ns := [1]) (vs := [1]) (st := tgN 1) (fe := e1_written) (e := Wd.d) (g := fun w => .str w.s) (xs := ws) (k := .bo [0]) (ρ := [some (.list (ws.map Wd.d), 0), none]) (by omega) fun w hw => ⟨[some (.list (ws.map Wd.d), 0), some (w.d, 2)], by simp [m02], [], by
    simp [e1_written, varD_wd, hStr_wd (h w hw)]⟩
  have ht := (line_tok (xs := ws.map Wd.s) (fun x hx => by
    obtain ⟨w, hw, rfl⟩ := List.mem_map.mp hx
    exact (h w hw).tok) (by simpa using hl)).len
  simp only [List.map_map, Function.comp_def] at hj
  have hw : (Txt.join " " (ws.map Wd.s)).length + Str.length "\n" ≤ 1000000 := by
    have e : (lineT (ws.map Wd.s)).length = (Txt.join " " (ws.map Wd.s)).length + Str.length "\n" := Str.length_append _ _
    omega
  simp [m_written, f_written, hc, hj, hw, lineT]
/-- the lines of a town, by their words -/
def townW (n : Nat) (rs : List (Nat × Nat × Nat)) : List (List Wd) := [.t "places", .n n] :: rs.map fun r => [.t "road", .n r.1, .n r.2.1, .n r.2.2]
def townT (n : Nat) (rs : List (Nat × Nat × Nat)) : Str := Txt.join "" ((townW n rs).map fun ws => lineT (ws.map Wd.s))
theorem townW_ok {n : Nat} {rs : List (Nat × Nat × Nat)} (T : Town n rs) (hn : n ≤ 9) : (∀ ws ∈ townW n rs, (∀ w ∈ ws, w.Ok) ∧ ws.length ≤ 10) ∧ (townW n rs).length ≤ 82 := by
  refine ⟨fun ws hws => ?_, ?_⟩
  · rcases List.mem_cons.mp hws with rfl | hws
    · refine ⟨fun w hw => ?_, by simp⟩
      simp only [List.mem_cons, List.not_mem_nil, or_false] at hw
      rcases hw with rfl | rfl
      · exact TOk.lit "places" (by decide)
      · show n < 1000000
        omega
    · obtain ⟨r, hr, rfl⟩ := List.mem_map.mp hws
      obtain ⟨h1, h2, h3, h4⟩ := T.road r hr
      refine ⟨fun w hw => ?_, by simp⟩
      simp only [List.mem_cons, List.not_mem_nil, or_false] at hw
      rcases hw with rfl | rfl | rfl | rfl
      · exact TOk.lit "road" (by decide)
      · show r.1 < 1000000
        omega
      · show r.2.1 < 1000000
        omega
      · show r.2.2 < 1000000
        omega
  · have := Nat.le_trans T.len (Nat.mul_le_mul hn hn)
    simp only [townW, List.length_cons, List.length_map]
    omega
theorem townT_tok {n : Nat} {rs : List (Nat × Nat × Nat)} (T : Town n rs) (hn : n ≤ 9) : TOk 18040 (townT n rs) := by
  obtain ⟨h1, h2⟩ := townW_ok T hn
  refine (TOk.join (n := 220) (m := 0) (k := 82) (fun x hx => ?_) (TOk.lit "" (by decide)) (by simpa using h2)).mono (by omega)
  obtain ⟨ws, hws, rfl⟩ := List.mem_map.mp hx
  exact line_tok (fun y hy => by
    obtain ⟨w, hw, rfl⟩ := List.mem_map.mp hy
    exact ((h1 ws hws).1 w hw).tok) (by simpa using (h1 ws hws).2)
theorem townT_join {n : Nat} {rs : List (Nat × Nat × Nat)} (T : Town n rs) (hn : n ≤ 9) : joinD (.str "") (.list ((townW n rs).map fun ws => .str (lineT (ws.map Wd.s)))) = some (.str (townT n rs)) := by
  obtain ⟨h1, h2⟩ := townW_ok T hn
  have := joinD_ok (n := 220) (m := 0) (k := 82) (sep := "") (xs := (townW n rs).map fun ws => lineT (ws.map Wd.s)) (fun x hx => by
    obtain ⟨ws, hws, rfl⟩ := List.mem_map.mp hx
    exact (line_tok (fun y hy => by
      obtain ⟨w, hw, rfl⟩ := List.mem_map.mp hy
      exact ((h1 ws hws).1 w hw).tok) (by simpa using (h1 ws hws).2)).len) (TOk.lit "" (by decide)).len (by simpa using h2) (by decide)
  rw [List.map_map] at this
  exact this
theorem m_write_town_ok {n : Nat} {rs : List (Nat × Nat × Nat)} (T : Town n rs) (hn : n ≤ 9) : m_write_town [townD n rs] = some (.str (townT n rs), 2) := by
  obtain ⟨h1, h2⟩ := townW_ok T hn
  have hl : rs.length ≤ 81 := Nat.le_trans T.len (Nat.mul_le_mul hn hn)
  have hp : m_written [.list [.str "places", .int (n : Nat)]] = _ := m_written_ok (ws := [.t "places", .n n]) (h1 _ (List.mem_cons_self ..)).1 (by simp)
  have hc := lc_map1 (ns := [3]) (vs := [3]) (st := tgN 3) (fe := e1_write_town) (e := roadD) (g := fun r => .str (lineT ["road", numT r.1, numT r.2.1, numT r.2.2])) (xs := rs) (k := .bo [2]) (ρ := [some (townD n rs, 0), some (.int (n : Nat), 2), some (.list (rs.map roadD), 0), none]) (by omega) fun r hr =>
    ⟨[some (townD n rs, 0), some (.int (n : Nat), 0), some (.list (rs.map roadD), 0), some (roadD r, 2)], by simp [m02], [], by
      have hw : m_written [.list [.str "road", .int (r.1 : Nat), .int (r.2.1 : Nat), .int (r.2.2 : Nat)]] = _ := m_written_ok (ws := [.t "road", .n r.1, .n r.2.1, .n r.2.2]) (h1 _ (List.mem_cons_of_mem _ (List.mem_map.mpr ⟨r, hr, rfl⟩))).1 (by simp)
      simp [e1_write_town, roadD, hw, Wd.s]⟩
  have hj := townT_join T hn
  simp only [townW, List.map_cons, List.map_map, Function.comp_def, List.map_nil, Wd.s] at hj hp
  have hl2 : 1 + rs.length ≤ 1000000 := by omega
  simp [m_write_town, f_write_town, townD, hp, hl2]
  simp [townD] at hc
  simp [hc, hl2, hj]
def strsD (xs : List Str) : PyData := .list (xs.map PyData.str)
theorem hStr_nat {n : Nat} (h : n < 1000000) : Nat.log2 n < 1920 := log2_1920 h
theorem m_law_lines_ok {n : Nat} {rs : List (Nat × Nat × Nat)} (T : Town n rs) (hn : n ≤ 9) : m_law_lines [townD n rs] = some (.list ((townW n rs).map fun ws => strsD (ws.map Wd.s)), 2) := by
  have hl : rs.length ≤ 81 := Nat.le_trans T.len (Nat.mul_le_mul hn hn)
  have inner : ∀ r ∈ rs, ∀ k, lcK (some ([PyData.int (r.1 : Nat), .int (r.2.1 : Nat), .int (r.2.2 : Nat)], k)) [2] (tgN 2) (fun _ => some true) e1_law_lines [2] [some (townD n rs, 0), some (roadD r, 2), none] = some (.list [.str (numT r.1), .str (numT r.2.1), .str (numT r.2.2)], .mv []) := fun r hr k => by
    obtain ⟨h1, h2, h3, h4⟩ := T.road r hr
    have := lc_map1 (ns := [2]) (vs := [2]) (st := tgN 2) (fe := e1_law_lines) (e := fun k : Nat => PyData.int (k : Nat)) (g := fun k => .str (numT k)) (xs := [r.1, r.2.1, r.2.2]) (k := k) (ρ := [some (townD n rs, 0), some (roadD r, 2), none]) (by simp) fun x hx =>
      ⟨[some (townD n rs, 0), some (roadD r, 0), some (.int (x : Nat), 2)], by simp, [], by
        have : x < 1000000 := by
          simp only [List.mem_cons, List.not_mem_nil, or_false] at hx
          omega
        simp [e1_law_lines, log2_1920 this, numT]⟩
    exact this
  have hc := lc_map1 (ns := [1]) (vs := [1]) (st := tgN 1) (fe := e2_law_lines) (e := roadD) (g := fun r => strsD ["road", numT r.1, numT r.2.1, numT r.2.2]) (xs := rs) (k := .bo [0]) (ρ := [some (townD n rs, 0), none, none]) (by omega) fun r hr =>
    ⟨[some (townD n rs, 0), some (roadD r, 2), none], by simp [m02], [], by
      have h := inner r hr
      simp only [roadD] at h
      simp [e2_law_lines, roadD, h, strsD]⟩
  have hn2 : n < 1000000 := by omega
  have hl2 : 1 + rs.length ≤ 1000000 := by omega
  simp [townD] at hc
  simp [m_law_lines, f_law_lines, townD, atI_nat, log2_1920 hn2, hc, hl2, townW, strsD, Wd.s, numT]
theorem m_law_text_ok {n : Nat} {rs : List (Nat × Nat × Nat)} (T : Town n rs) (hn : n ≤ 9) : m_law_text [.list ((townW n rs).map fun ws => strsD (ws.map Wd.s))] = some (.str (townT n rs), 2) := by
  obtain ⟨h1, h2⟩ := townW_ok T hn
  have hc := lc_map1 (ns := [1]) (vs := [1]) (st := tgN 1) (fe := e1_law_text) (e := fun ws => strsD (ws.map Wd.s)) (g := fun ws => .str (lineT (ws.map Wd.s))) (xs := townW n rs) (k := .bo [0]) (ρ := [some (.list ((townW n rs).map fun ws => strsD (ws.map Wd.s)), 0), none]) (by omega) fun ws hws =>
    ⟨[some (.list ((townW n rs).map fun ws => strsD (ws.map Wd.s)), 0), some (strsD (ws.map Wd.s), 0)], by simp [strsD], [], by
      have hx : ∀ x ∈ ws.map Wd.s, TOk 20 x := fun x hx => by
        obtain ⟨w, hw, rfl⟩ := List.mem_map.mp hx
        exact ((h1 ws hws).1 w hw).tok
      have hj := joinD_ok (n := 20) (m := 1) (k := 10) (sep := " ") (xs := ws.map Wd.s) (fun x h => (hx x h).len) (TOk.lit " " (by decide)).len (by simpa using (h1 ws hws).2) (by decide)
      have hw : (Txt.join " " (ws.map Wd.s)).length + Str.length "\n" ≤ 1000000 := by
        have e : (lineT (ws.map Wd.s)).length = (Txt.join " " (ws.map Wd.s)).length + Str.length "\n" := Str.length_append _ _
        have := (line_tok hx (by simpa using (h1 ws hws).2)).len
        omega
      simp only [List.map_map] at hj
      simp [e1_law_text, strsD, hj, hw, lineT]⟩
  have hj := townT_join T hn
  simp [m_law_text, f_law_text, hc, hj]
end Va

/-! Law10: towns are written. -/
namespace Va
open PySem L2 PyProof.Rows
def b1_law : SF := (sSeq (sSet [] 5 (eApp (gCall 1 m_write_town) (aCons (eVar 2) aNil))) (sIf (tOrF (tNotF (tTru (eIsi "str" (eVar 5)))) (tVal (eApp (gF hNe) (aCons (eVar 5) (aCons (eApp (gCall 1 m_law_text) (aCons (eApp (gCall 1 m_law_lines) (aCons (eVar 2) aNil)) aNil)) aNil))))) (sRet (eC (.bool false))) sNext))
def f_law : SF := (sSeq (sSet [1] 2 (eApp (gCall 2 m_law_town) (aCons (eVar 1) (aCons (eC (.int 7)) aNil)))) (sSeq (sSet [] 3 (eApp (gF hRepr) (aCons (eVar 2) aNil))) (sSeq (sFor (iR1 (aCons (eC (.int 2)) aNil)) [4] (tgN 4) [5] b1_law [0, 1, 4, 5]) (sRet (eApp (gF hEq) (aCons (eApp (gF hRepr) (aCons (eVar 2) aNil)) (aCons (eVar 3) aNil)))))))
def MathLaw : Prop := ∀ ds : List Int, Drawn 30 ds → f_law ((List.replicate 6 none).set 1 (some (intsD ds, 2))) = some (.rt (.bool true) 2)
theorem math_law : MathLaw := by
  intro ds hd
  obtain ⟨n, rs, T, hn, ht⟩ := town_ok hd (most := 7) (by omega) (by omega) (by decide)
  have h9 : n ≤ 9 := by omega
  have hw := m_write_town_ok T h9
  have hL := m_law_lines_ok T h9
  have hT := m_law_text_ok T h9
  have hr := (T.tame h9).reprOk (by omega) (by omega)
  have hl := loop_range (st := tgN 4) (fb := b1_law) (fg := [0, 1, 4, 5]) (lo := 0) (n := 2) (ρ := [none, some (intsD ds, 2), some (townD n rs, 2), some (.str (townD n rs).shown, 2), none, none])
    (fun i ρ => ρ = [none, none, some (townD n rs, 2), some (.str (townD n rs).shown, 2), none, none]) ?_ ?_
  · obtain ⟨ρ', h1, rfl⟩ := hl
    simp [intsD] at h1 ht
    simp [f_law, intsD, ht, hr, forK_flat, h1]
  · rintro i hi ρ rfl
    simp [b1_law, hw, hL, hT]
  · simp
end Va

namespace Kk
open PySem L2 Va PyProof.Rows
/-! ### the text -/
def topS (i : Nat) : Stmt := PySem.Challenge.pw_evernear_k10_towns_are_written.main.body.getD i (.Pass ⟨0, 0, 0, 0⟩)
abbrev s_law_draws : Stmt := topS 4
abbrev s_law_town : Stmt := topS 5
abbrev s_written : Stmt := topS 1
abbrev s_write_town : Stmt := topS 2
abbrev s_law_text : Stmt := topS 7
abbrev s_law_lines : Stmt := topS 6
abbrev s_law : Stmt := topS 8
section
variable {P : Program} {w : World} {K : PySem.W.Frag} {mg : Str → Option Value} {base : Heap}
theorem sc_law_draws : FnScope ["_law_script", "_law_count", "_law_rests", "_law_draws_here", "_law_k", "_law_value", "_law_at", "_law_mixed", "_law_cell"] ["_law_script", "_law_count"] (defScope s_law_draws) := ⟨rfl, rfl, rfl, by decide +kernel, rfl, by decide +kernel, by decide +kernel⟩
theorem ok_law_draws {f : Addr} {fd : FuncData} (F : Fun K "_law_draws" "_law_draws" s_law_draws f fd) (gx : mg "_law_draws" = some (.ref f)) (b_range : mg "range" = none) (b_len : mg "len" = none) (b_int : mg "int" = none) : Cd P w K mg base "_law_draws" 1 :=
  ⟨f, fd, _, F.ok sc_law_draws (fun vs H Q E h => spDraws_len h) (fun cdv A outer s H vs Q E hr h => ⟨_, pss_cons (ps_setLc (i := 2) (own := [("_law_cell", 8)]) rfl sc_law_draws.nd rfl rfl (sw_true rfl rfl rfl (by decide +kernel)) (pi_list (pv 0)) (blkOk_by (by kernel_rfl)) (fun _ _ _ _ _ => (pg_name (i := 8) sc_law_draws.nd rfl (by first | exact Or.inl rfl | exact Or.inr rfl))) (fun _ _ _ _ _ => pts_nil) (fun _ _ _ _ _ => (pv 8)))
    (pss_cons (ps_set (i := 3) sc_law_draws.nd rfl (by first | exact Or.inl rfl | exact Or.inr rfl) (pe_lst pa_nil))
    (pss_cons (ps_for PassesOwn.never rfl (pi_range1 rfl b_range (pa_cons (pv 1) pa_nil)) (pg_name (i := 4) sc_law_draws.nd rfl (by first | exact Or.inl rfl | exact Or.inr rfl)) (pss_cons (ps_set (i := 5) sc_law_draws.nd rfl (by first | exact Or.inl rfl | exact Or.inr rfl) pe_int)
    (pss_cons (ps_if (pt_cmpR op_gt (pe_callB call_len (by rfl) b_len (by decide +kernel) (pa_cons (pv 2) pa_nil)) pe_int (nomark _)) (pss_cons (ps_set (i := 6) sc_law_draws.nd rfl (by first | exact Or.inl rfl | exact Or.inr rfl) (pe_op op_mod (pe_callTy call_int1 (by rfl) b_int (by decide +kernel) (pa_cons (pv 4) pa_nil)) (pe_callB call_len (by rfl) b_len (by decide +kernel) (pa_cons (pv 2) pa_nil))))
    (pss_one (ps_if (pt_cmpR op_ge (pe_ix ix_seq (pv 2) (pv 6) (fun _ _ => rfl)) (pe_op op_pow pe_int pe_int) (nomark _)) (pss_cons (ps_set (i := 5) sc_law_draws.nd rfl (by first | exact Or.inl rfl | exact Or.inr rfl) (pe_op op_mod (pe_callTy call_int1 (by rfl) b_int (by decide +kernel) (pa_cons (pe_ix ix_seq (pv 2) (pv 6) (fun _ _ => rfl)) pa_nil)) pe_int))
    (pss_one (ps_asg (pe_op op_fdivW (pe_ix ix_seq (pv 2) (pv 6) (fun _ _ => rfl)) pe_int) (pg_sub (pv 2) (pv 6) set_list)))) (pss_cons (ps_set (i := 7) sc_law_draws.nd rfl (by first | exact Or.inl rfl | exact Or.inr rfl) (pe_op op_mod (pe_callTy call_int1 (by rfl) b_int (by decide +kernel) (pa_cons (pe_op op_addA (pe_op op_addA (pe_op op_mulA (pe_ix ix_seq (pv 2) (pv 6) (fun _ _ => rfl)) pe_int) (pe_op op_mulA (pv 4) pe_int)) pe_int) pa_nil)) pe_int))
    (pss_cons (ps_set (i := 7) sc_law_draws.nd rfl (by first | exact Or.inl rfl | exact Or.inr rfl) (pe_op op_mod (pe_callTy call_int1 (by rfl) b_int (by decide +kernel) (pa_cons (pe_op op_addA (pe_op op_mulA (pv 7) pe_int) (pv 6)) pa_nil)) pe_int))
    (pss_one (ps_set (i := 5) sc_law_draws.nd rfl (by first | exact Or.inl rfl | exact Or.inr rfl) (pe_op op_mod (pe_callTy call_int1 (by rfl) b_int (by decide +kernel) (pa_cons (pe_op op_fdivW (pv 7) pe_int) pa_nil)) pe_int)))))))) pss_nil)
    (pss_one (ps_expr (pe_bm PySem.F.plainAttrs_list PySem.F.slot_list_append PySem.F.type_list_append mt_append (pv 3) (pa_cons (pv 5) pa_nil)))))))
    (pss_one (ps_ret (pv 3))))), draws_body (Wx := noX)
    (vs_seq (vs_set [] 3 (ve_lst va_nil))
    (vs_seq (vs_for (wb := [2, 3, 4, 5, 6, 7]) (fg := [0, 1, 4, 5, 6, 7]) (vi_range1 (va_cons (ve_var 1) va_nil)) (vg_name 4) (VS.mono (vs_seq (vs_set [] 5 ve_int)
    (vs_seq (vs_if (vt_test (ve_op (vf_f vf_gt) (ve_call_b (vf_f vf_len) (va_cons (ve_var 2) va_nil)) ve_int)) (vs_seq (vs_set [] 6 (ve_op (vf_f vf_mod) (ve_call_b (vf_f vf_int) (va_cons (ve_var 4) va_nil)) (ve_call_b (vf_f vf_len) (va_cons (ve_var 2) va_nil))))
    (vs_if (vt_test (ve_op (vf_f vf_ge) (ve_op vf_ix (ve_var 2) (ve_var 6)) (ve_op (vf_f vf_pow) ve_int ve_int))) (vs_seq (vs_set [] 5 (ve_op (vf_f vf_mod) (ve_call_b (vf_f vf_int) (va_cons (ve_op vf_ix (ve_var 2) (ve_var 6)) va_nil)) ve_int))
    (vs_idx [6] 2 (ve_op (vf_f vf_div) (ve_op vf_ix (ve_var 2) (ve_var 6)) ve_int) (ve_var 6))) (vs_seq (vs_set [4] 7 (ve_op (vf_f vf_mod) (ve_call_b (vf_f vf_int) (va_cons (ve_op (vf_add) (ve_op (vf_add) (ve_op (vf_mul) (ve_op vf_ix (ve_var 2) (ve_var 6)) ve_int) (ve_op (vf_mul) (ve_var 4) ve_int)) ve_int) va_nil)) ve_int))
    (vs_seq (vs_set [6] 7 (ve_op (vf_f vf_mod) (ve_call_b (vf_f vf_int) (va_cons (ve_op (vf_add) (ve_op (vf_mul) (ve_var 7) ve_int) (ve_var 6)) va_nil)) ve_int))
    (vs_set [7] 5 (ve_op (vf_f vf_mod) (ve_call_b (vf_f vf_int) (va_cons (ve_op (vf_f vf_div) (ve_var 7) ve_int) va_nil)) ve_int)))))) (vs_next (wr := [])))
    (vs_append [5] 3 (ve_var 5)))) (by decide)))
    (vs_ret (wr := []) (ve_var 3)))) h rfl⟩), gx, F.kp, F.binds fun _ _ _ _ _ _ us hl => match us, hl with | [_, _], _ => rfl⟩
theorem sc_law_town : FnScope ["_law_draws_here", "_law_most", "_law_places", "_law_roads", "_law_k", "_law_first", "_law_second"] ["_law_draws_here", "_law_most"] (defScope s_law_town) := ⟨rfl, rfl, rfl, by decide +kernel, rfl, by decide +kernel, by decide +kernel⟩
theorem ok_law_town {f : Addr} {fd : FuncData} (F : Fun K "_law_town" "_law_town" s_law_town f fd) (gx : mg "_law_town" = some (.ref f)) (b_int : mg "int" = none) (b_range : mg "range" = none) : Cl P w K mg base "_law_town" 1 2 m_law_town :=
  ⟨f, fd, _, F.ok sc_law_town (fun vs H Q E h => spOf_len h) (fun cdv A outer s H vs Q E hr h => ⟨_, (pss_cons (ps_set (i := 2) sc_law_town.nd rfl (by first | exact Or.inl rfl | exact Or.inr rfl) (pe_op op_addA pe_int (pe_op op_mod (pe_callTy call_int1 (by rfl) b_int (by decide +kernel) (pa_cons (pe_ix ix_seq (pv 0) pe_int (fun _ _ => rfl)) pa_nil)) (pv 1))))
    (pss_cons (ps_set (i := 3) sc_law_town.nd rfl (by first | exact Or.inl rfl | exact Or.inr rfl) (pe_lst pa_nil))
    (pss_cons (ps_set (i := 4) sc_law_town.nd rfl (by first | exact Or.inl rfl | exact Or.inr rfl) pe_int)
    (pss_cons (ps_for PassesOwn.never rfl (pi_range1 rfl b_range (pa_cons (pv 2) pa_nil)) (pg_name (i := 5) sc_law_town.nd rfl (by first | exact Or.inl rfl | exact Or.inr rfl)) (pss_one (ps_for PassesOwn.never rfl (pi_range2 rfl b_range (pa_cons (pe_op op_addA (pv 5) pe_int) (pa_cons (pv 2) pa_nil))) (pg_name (i := 6) sc_law_town.nd rfl (by first | exact Or.inl rfl | exact Or.inr rfl)) (pss_cons (ps_if (pt_cmpR op_lt (pe_op op_mod (pe_callTy call_int1 (by rfl) b_int (by decide +kernel) (pa_cons (pe_ix ix_seq (pv 0) (pv 4) (fun _ _ => rfl)) pa_nil)) pe_int) pe_int (nomark _)) (pss_one (ps_expr (pe_bm PySem.F.plainAttrs_list PySem.F.slot_list_append PySem.F.type_list_append mt_append (pv 3) (pa_cons (pe_tup (pa_cons (pv 5) (pa_cons (pv 6) (pa_cons (pe_op op_addA pe_int (pe_op op_mod (pe_callTy call_int1 (by rfl) b_int (by decide +kernel) (pa_cons (pe_op op_fdivW (pe_ix ix_seq (pv 0) (pv 4) (fun _ _ => rfl)) pe_int) pa_nil)) (pe_ix ix_seq (pe_lst (pa_cons pe_int (pa_cons pe_int pa_nil))) (pe_op op_mod (pe_callTy call_int1 (by rfl) b_int (by decide +kernel) (pa_cons (pe_op op_fdivW (pe_ix ix_seq (pv 0) (pv 4) (fun _ _ => rfl)) pe_int) pa_nil)) pe_int) (fun _ _ => rfl)))) pa_nil)))) pa_nil)))) pss_nil)
    (pss_one (ps_set (i := 4) sc_law_town.nd rfl (by first | exact Or.inl rfl | exact Or.inr rfl) (pe_op op_addA (pv 4) pe_int)))))))
    (pss_one (ps_ret (pe_tup (pa_cons (pv 2) (pa_cons (pv 3) pa_nil))))))))), body_of (Wx := noX)
    (vs_seq (vs_set [1] 2 (ve_op (vf_add) ve_int (ve_op (vf_f vf_mod) (ve_call_b (vf_f vf_int) (va_cons (ve_op vf_ix (ve_var 0) ve_int) va_nil)) (ve_var 1))))
    (vs_seq (vs_set [] 3 (ve_lst va_nil))
    (vs_seq (vs_set [] 4 ve_int)
    (vs_seq (vs_for (wb := [3, 4, 6]) (fg := [1, 5, 6]) (vi_range1 (va_cons (ve_var 2) va_nil)) (vg_name 5) (VS.mono (vs_for (wb := [3, 4, 6]) (fg := [1, 6]) (vi_range2 (va_cons (ve_op (vf_add) (ve_var 5) ve_int) (va_cons (ve_var 2) va_nil))) (vg_name 6) (VS.mono (vs_seq (vs_if (vt_test (ve_op (vf_f vf_lt) (ve_op (vf_f vf_mod) (ve_call_b (vf_f vf_int) (va_cons (ve_op vf_ix (ve_var 0) (ve_var 4)) va_nil)) ve_int) ve_int)) (vs_append [6] 3 (ve_tup (va_cons (ve_var 5) (va_cons (ve_var 6) (va_cons (ve_op (vf_add) ve_int (ve_op (vf_f vf_mod) (ve_call_b (vf_f vf_int) (va_cons (ve_op (vf_f vf_div) (ve_op vf_ix (ve_var 0) (ve_var 4)) ve_int) va_nil)) (ve_op vf_ix (ve_lst (va_cons ve_int (va_cons ve_int va_nil))) (ve_op (vf_f vf_mod) (ve_call_b (vf_f vf_int) (va_cons (ve_op (vf_f vf_div) (ve_op vf_ix (ve_var 0) (ve_var 4)) ve_int) va_nil)) ve_int)))) va_nil))))) (vs_next (wr := [])))
    (vs_set [] 4 (ve_op (vf_add) (ve_var 4) ve_int))) (by decide))) (by decide)))
    (vs_ret (wr := []) (ve_tup (va_cons (ve_var 2) (va_cons (ve_var 3) va_nil)))))))) h rfl (by decide)⟩), gx, F.kp, F.binds fun _ _ _ _ _ _ us hl => match us, hl with | [_, _], _ => rfl⟩
theorem sc_written : FnScope ["words", "word"] ["words"] (defScope s_written) := ⟨rfl, rfl, rfl, by decide +kernel, rfl, by decide +kernel, by decide +kernel⟩
theorem ok_written {f : Addr} {fd : FuncData} (F : Fun K "written" "written" s_written f fd) (gx : mg "written" = some (.ref f)) (b_str : mg "str" = none) : Cl P w K mg base "written" 1 1 m_written :=
  ⟨f, fd, _, F.ok sc_written (fun vs H Q E h => spOf_len h) (fun cdv A outer s H vs Q E hr h => ⟨_, (pss_one (ps_ret (pe_op op_addA (pe_join pe_str (pe_lc (own := [("word", 1)]) rfl sc_written.nd (pi_any (pv 0)) (blkOk_by (by kernel_rfl)) (fun _ _ _ _ _ => (pg_name (i := 1) sc_written.nd rfl (by first | exact Or.inl rfl | exact Or.inr rfl))) (fun _ _ _ _ _ => pts_nil) (fun _ _ _ _ _ => (pe_callTy call_strA (by rfl) b_str (by decide +kernel) (pa_cons (pv 1) pa_nil))))) pe_str))), body_of (Wx := noX)
    (vs_ret (wr := []) (ve_op (vf_add) (ve_join ve_str (ve_lc (vi_seq (ve_var 0)) (vg_name 1) vt_yes (ve_call_b (vf_f vf_str) (va_cons (ve_var 1) va_nil)) (by decide))) ve_str)) h rfl (by decide)⟩), gx, F.kp, F.binds fun _ _ _ _ _ _ us hl => match us, hl with | [_], _ => rfl⟩
theorem sc_write_town : FnScope ["town", "places", "roads", "road"] ["town"] (defScope s_write_town) := ⟨rfl, rfl, rfl, by decide +kernel, rfl, by decide +kernel, by decide +kernel⟩
theorem ok_write_town {f : Addr} {fd : FuncData} (F : Fun K "write_town" "write_town" s_write_town f fd) (gx : mg "write_town" = some (.ref f)) (c_written : Cl P w K mg base "written" 1 1 m_written) : Cl P w K mg base "write_town" 2 1 m_write_town :=
  ⟨f, fd, _, F.ok sc_write_town (fun vs H Q E h => spOf_len h) (fun cdv A outer s H vs Q E hr h => ⟨_, (pss_cons (ps_asg (pv 0) (pg_tup (by rfl) (pgs_cons (pg_name (i := 1) sc_write_town.nd rfl (by first | exact Or.inl rfl | exact Or.inr rfl)) (pgs_cons (pg_name (i := 2) sc_write_town.nd rfl (by first | exact Or.inl rfl | exact Or.inr rfl)) pgs_nil))))
    (pss_one (ps_ret (pe_join pe_str (pe_op op_addA (pe_lst (pa_cons (pe_callC c_written hr (by decide) (pa_cons (pe_lst (pa_cons pe_str (pa_cons (pv 1) pa_nil))) pa_nil)) pa_nil)) (pe_lc (own := [("road", 3)]) rfl sc_write_town.nd (pi_any (pv 2)) (blkOk_by (by kernel_rfl)) (fun _ _ _ _ _ => (pg_name (i := 3) sc_write_town.nd rfl (by first | exact Or.inl rfl | exact Or.inr rfl))) (fun _ _ _ _ _ => pts_nil) (fun _ _ _ _ _ => (pe_callC c_written hr (by decide) (pa_cons (pe_lst (pa_cons pe_str (StX.pa_star (pv 3) pa_nil))) pa_nil))))))))), body_of (Wx := noX)
    (vs_seq (vs_asgT (vg_tup (vgs_cons (vg_name 1) (vgs_cons (vg_name 2) vgs_nil))) (ve_var 0))
    (vs_ret (wr := []) (ve_join ve_str (ve_op (vf_add) (ve_lst (va_cons (ve_call (va_cons (ve_lst (va_cons ve_str (va_cons (ve_var 1) va_nil))) va_nil)) va_nil)) (ve_lc (vi_seq (ve_var 2)) (vg_name 3) vt_yes (ve_call (va_cons (ve_lst (va_cons ve_str (va_star (ve_var 3) va_nil))) va_nil)) (by decide)))))) h rfl (by decide)⟩), gx, F.kp, F.binds fun _ _ _ _ _ _ us hl => match us, hl with | [_], _ => rfl⟩
theorem sc_law_text : FnScope ["_law_lines_here", "_law_words"] ["_law_lines_here"] (defScope s_law_text) := ⟨rfl, rfl, rfl, by decide +kernel, rfl, by decide +kernel, by decide +kernel⟩
theorem ok_law_text {f : Addr} {fd : FuncData} (F : Fun K "_law_text" "_law_text" s_law_text f fd) (gx : mg "_law_text" = some (.ref f))  : Cl P w K mg base "_law_text" 1 1 m_law_text :=
  ⟨f, fd, _, F.ok sc_law_text (fun vs H Q E h => spOf_len h) (fun cdv A outer s H vs Q E hr h => ⟨_, (pss_one (ps_ret (pe_join pe_str (pe_lc (own := [("_law_words", 1)]) rfl sc_law_text.nd (pi_any (pv 0)) (blkOk_by (by kernel_rfl)) (fun _ _ _ _ _ => (pg_name (i := 1) sc_law_text.nd rfl (by first | exact Or.inl rfl | exact Or.inr rfl))) (fun _ _ _ _ _ => pts_nil) (fun _ _ _ _ _ => (pe_op op_addA (pe_join pe_str (pv 1)) pe_str)))))), body_of (Wx := noX)
    (vs_ret (wr := []) (ve_join ve_str (ve_lc (vi_seq (ve_var 0)) (vg_name 1) vt_yes (ve_op (vf_add) (ve_join ve_str (ve_var 1)) ve_str) (by decide)))) h rfl (by decide)⟩), gx, F.kp, F.binds fun _ _ _ _ _ _ us hl => match us, hl with | [_], _ => rfl⟩
theorem sc_law_lines : FnScope ["_law_town_here", "_law_road", "_law_number"] ["_law_town_here"] (defScope s_law_lines) := ⟨rfl, rfl, rfl, by decide +kernel, rfl, by decide +kernel, by decide +kernel⟩
theorem ok_law_lines {f : Addr} {fd : FuncData} (F : Fun K "_law_lines" "_law_lines" s_law_lines f fd) (gx : mg "_law_lines" = some (.ref f)) (b_str : mg "str" = none) : Cl P w K mg base "_law_lines" 1 1 m_law_lines :=
  ⟨f, fd, _, F.ok sc_law_lines (fun vs H Q E h => spOf_len h) (fun cdv A outer s H vs Q E hr h => ⟨_, (pss_one (ps_ret (pe_op op_addA (pe_lst (pa_cons (pe_lst (pa_cons pe_str (pa_cons (pe_callTy call_strA (by rfl) b_str (by decide +kernel) (pa_cons (pe_ix ix_seq (pv 0) pe_int (fun _ _ => rfl)) pa_nil)) pa_nil))) pa_nil)) (pe_lc (own := [("_law_road", 1)]) rfl sc_law_lines.nd (pi_any (pe_ix ix_seq (pv 0) pe_int (fun _ _ => rfl))) (blkOk_by (by kernel_rfl)) (fun _ _ _ _ _ => (pg_name (i := 1) sc_law_lines.nd rfl (by first | exact Or.inl rfl | exact Or.inr rfl))) (fun _ _ _ _ _ => pts_nil) (fun _ _ _ _ _ => (pe_op op_addA (pe_lst (pa_cons pe_str pa_nil)) (pe_lc (own := [("_law_number", 2)]) rfl sc_law_lines.nd (pi_any (pv 1)) (blkOk_by (by kernel_rfl)) (fun _ _ _ _ _ => (pg_name (i := 2) sc_law_lines.nd rfl (by first | exact Or.inl rfl | exact Or.inr rfl))) (fun _ _ _ _ _ => pts_nil) (fun _ _ _ _ _ => (pe_callTy call_strA (by rfl) b_str (by decide +kernel) (pa_cons (pv 2) pa_nil)))))))))), body_of (Wx := noX)
    (vs_ret (wr := []) (ve_op (vf_add) (ve_lst (va_cons (ve_lst (va_cons ve_str (va_cons (ve_call_b (vf_f vf_str) (va_cons (ve_op vf_ix (ve_var 0) ve_int) va_nil)) va_nil))) va_nil)) (ve_lc (vi_seq (ve_op vf_ix (ve_var 0) ve_int)) (vg_name 1) vt_yes (ve_op (vf_add) (ve_lst (va_cons ve_str va_nil)) (ve_lc (vi_seq (ve_var 1)) (vg_name 2) vt_yes (ve_call_b (vf_f vf_str) (va_cons (ve_var 2) va_nil)) (by decide))) (by decide)))) h rfl (by decide)⟩), gx, F.kp, F.binds fun _ _ _ _ _ _ us hl => match us, hl with | [_], _ => rfl⟩
theorem sc_law : FnScope ["_law_script", "_law_draws_here", "_law_town_here", "_law_kept", "_law_turn", "_law_told"] ["_law_script"] (defScope s_law) := ⟨rfl, rfl, rfl, by decide +kernel, rfl, by decide +kernel, by decide +kernel⟩
theorem ok_law {f : Addr} {fd : FuncData} (F : Fun K "law" "law" s_law f fd) (gx : mg "law" = some (.ref f)) (b_repr : mg "repr" = none) (b_range : mg "range" = none) (b_isinstance : mg "isinstance" = none) (b_str : mg "str" = none) (c_law_draws : Cd P w K mg base "_law_draws" 1) (c_law_town : Cl P w K mg base "_law_town" 1 2 m_law_town) (c_write_town : Cl P w K mg base "write_town" 2 1 m_write_town) (c_law_text : Cl P w K mg base "_law_text" 1 1 m_law_text) (c_law_lines : Cl P w K mg base "_law_lines" 1 1 m_law_lines) : FnG P w K mg base 3 f fd ["_law_script"] (spLaw K) :=
  fnG_of F sc_law (fun vs H Q E h => spLaw_len h) (fun cdv A outer s H vs Q E gd hr h => ⟨_, pss_cons (ps_set (i := 1) sc_law.nd rfl (by first | exact Or.inl rfl | exact Or.inr rfl) (pe_callD c_law_draws hr (by decide) (pa_cons (pv 0) (pa_cons pe_int pa_nil))))
    (pss_cons (ps_set (i := 2) sc_law.nd rfl (by first | exact Or.inl rfl | exact Or.inr rfl) (pe_callC c_law_town hr (by decide) (pa_cons (pv 1) (pa_cons pe_int pa_nil))))
    (pss_cons (ps_set (i := 3) sc_law.nd rfl (by first | exact Or.inl rfl | exact Or.inr rfl) (pe_callB (cr_repr gd hr.units) (by rfl) b_repr (by decide +kernel) (pa_cons (pv 2) pa_nil)))
    (pss_cons (ps_for PassesOwn.never rfl (pi_range1 rfl b_range (pa_cons pe_int pa_nil)) (pg_name (i := 4) sc_law.nd rfl (by first | exact Or.inl rfl | exact Or.inr rfl)) (pss_cons (ps_set (i := 5) sc_law.nd rfl (by first | exact Or.inl rfl | exact Or.inr rfl) (pe_callC c_write_town hr (by decide) (pa_cons (pv 2) pa_nil)))
    (pss_one (ps_if (PW.pt (pw_or (pt_not (pt_truth (pe_callB call_isi (by rfl) b_isinstance (by decide +kernel) (pa_cons (pv 5) (pa_cons (pe_bltn (v := .ty "str") (by rfl) b_str (by decide +kernel) rfl) pa_nil))) (by intro _; rfl))) (pw_or1 (pt_cmpR (op_neA hr.units) (pv 5) (pe_callC c_law_text hr (by decide) (pa_cons (pe_callC c_law_lines hr (by decide) (pa_cons (pv 2) pa_nil)) pa_nil)) (nomark _))))) (pss_one (ps_ret pe_bl)) pss_nil))))
    (pss_one (ps_ret (pe_cmpR (op_eqA hr.units) (pe_callB (cr_repr gd hr.units) (by rfl) b_repr (by decide +kernel) (pa_cons (pv 2) pa_nil)) (pv 3) (nomark _))))))), law_draws (Wx := noX) (n := 30)
    (vs_seq (vs_set [1] 2 (ve_call (va_cons (ve_var 1) (va_cons ve_int va_nil))))
    (vs_seq (vs_set [] 3 (ve_call_b (vf_f vf_repr) (va_cons (ve_var 2) va_nil)))
    (vs_seq (vs_for (wb := [5]) (fg := [0, 1, 4, 5]) (vi_range1 (va_cons ve_int va_nil)) (vg_name 4) (VS.mono (vs_seq (vs_set [] 5 (ve_call (va_cons (ve_var 2) va_nil)))
    (vs_if (vt_or (vt_not (vt_tru (ve_isi "str" (by decide +kernel) (ve_var 5)))) (vt_test (ve_op (vf_f vf_ne) (ve_var 5) (ve_call (va_cons (ve_call (va_cons (ve_var 2) va_nil)) va_nil))))) (vs_ret (wr := []) ve_bl) (vs_next (wr := [])))) (by decide)))
    (vs_ret (wr := []) (ve_op (vf_f vf_eq) (ve_call_b (vf_f vf_repr) (va_cons (ve_var 2) va_nil)) (ve_var 3)))))) h (by decide) (by decide) (by decide) (fun ds hd => math_law ds hd)⟩)
end
theorem all_mk {P : Program} {w : World} {K : PySem.W.Frag} {h : Heap} {mg : Str → Option Value} {fa f1 f2 f3 f4 f5 f6 f7 : Addr} (X : K.In h) (G : h.Ns mainGlobals mg) (hfa : mg "law" = some (.ref fa))
    {od1 an1 od2 an2 od3 an3 od4 an4 od5 an5 od6 an6 od7 an7 : Option Addr} {sl1 sl2 sl3 sl4 sl5 sl6 sl7 : Array (Option Value)} {oc1 kV1 dc1 pm1 cd1 ct1 oc2 kV2 dc2 pm2 cd2 ct2 oc3 kV3 dc3 pm3 cd3 ct3 oc4 kV4 dc4 pm4 cd4 ct4 oc5 kV5 dc5 pm5 cd5 ct5 oc6 kV6 dc6 pm6 cd6 ct6 oc7 kV7 dc7 pm7 cd7 ct7 : Value}
    (a1 : PySem.W.nsIn K mainGlobals "_law_draws" = some (some (.ref f1))) (l1 : K.lookup f1 = some ⟨oc1, od1, .func (PySem.W.fnOf "_law_draws" "_law_draws" (defArgs s_law_draws) (defBody s_law_draws) (defScope s_law_draws) .none kV1 dc1 pm1 an1 cd1 ct1), sl1⟩) (c1 : PySem.W.codeIn K cd1 "_law_draws" = true) (k1 : PySem.W.keepIn K (.ref f1) = true)
    (a2 : PySem.W.nsIn K mainGlobals "_law_town" = some (some (.ref f2))) (l2 : K.lookup f2 = some ⟨oc2, od2, .func (PySem.W.fnOf "_law_town" "_law_town" (defArgs s_law_town) (defBody s_law_town) (defScope s_law_town) .none kV2 dc2 pm2 an2 cd2 ct2), sl2⟩) (c2 : PySem.W.codeIn K cd2 "_law_town" = true) (k2 : PySem.W.keepIn K (.ref f2) = true)
    (a3 : PySem.W.nsIn K mainGlobals "written" = some (some (.ref f3))) (l3 : K.lookup f3 = some ⟨oc3, od3, .func (PySem.W.fnOf "written" "written" (defArgs s_written) (defBody s_written) (defScope s_written) .none kV3 dc3 pm3 an3 cd3 ct3), sl3⟩) (c3 : PySem.W.codeIn K cd3 "written" = true) (k3 : PySem.W.keepIn K (.ref f3) = true)
    (a4 : PySem.W.nsIn K mainGlobals "write_town" = some (some (.ref f4))) (l4 : K.lookup f4 = some ⟨oc4, od4, .func (PySem.W.fnOf "write_town" "write_town" (defArgs s_write_town) (defBody s_write_town) (defScope s_write_town) .none kV4 dc4 pm4 an4 cd4 ct4), sl4⟩) (c4 : PySem.W.codeIn K cd4 "write_town" = true) (k4 : PySem.W.keepIn K (.ref f4) = true)
    (a5 : PySem.W.nsIn K mainGlobals "_law_text" = some (some (.ref f5))) (l5 : K.lookup f5 = some ⟨oc5, od5, .func (PySem.W.fnOf "_law_text" "_law_text" (defArgs s_law_text) (defBody s_law_text) (defScope s_law_text) .none kV5 dc5 pm5 an5 cd5 ct5), sl5⟩) (c5 : PySem.W.codeIn K cd5 "_law_text" = true) (k5 : PySem.W.keepIn K (.ref f5) = true)
    (a6 : PySem.W.nsIn K mainGlobals "_law_lines" = some (some (.ref f6))) (l6 : K.lookup f6 = some ⟨oc6, od6, .func (PySem.W.fnOf "_law_lines" "_law_lines" (defArgs s_law_lines) (defBody s_law_lines) (defScope s_law_lines) .none kV6 dc6 pm6 an6 cd6 ct6), sl6⟩) (c6 : PySem.W.codeIn K cd6 "_law_lines" = true) (k6 : PySem.W.keepIn K (.ref f6) = true)
    (a7 : PySem.W.nsIn K mainGlobals "law" = some (some (.ref f7))) (l7 : K.lookup f7 = some ⟨oc7, od7, .func (PySem.W.fnOf "law" "law" (defArgs s_law) (defBody s_law) (defScope s_law) .none kV7 dc7 pm7 an7 cd7 ct7), sl7⟩) (c7 : PySem.W.codeIn K cd7 "law" = true) (k7 : PySem.W.keepIn K (.ref f7) = true)
    (z_range : PySem.W.nsIn K mainGlobals "range" = some none)    (z_len : PySem.W.nsIn K mainGlobals "len" = some none)    (z_int : PySem.W.nsIn K mainGlobals "int" = some none)    (z_str : PySem.W.nsIn K mainGlobals "str" = some none)    (z_repr : PySem.W.nsIn K mainGlobals "repr" = some none)    (z_isinstance : PySem.W.nsIn K mainGlobals "isinstance" = some none) :
    ∃ fd : FuncData, (∀ (s : Shared) (u : Value), BindsTo s fd ⟨[u], []⟩ [("_law_script", u)]) ∧ ∀ base : Heap, K.In base → base.Ns mainGlobals mg → FnG P w K mg base 3 fa fd ["_law_script"] (spLaw K) := by
  have e := hfa.symm.trans (PySem.W.mg_of X G a7)
  cases e
  refine ⟨PySem.W.fnOf "law" "law" (defArgs s_law) (defBody s_law) (defScope s_law) .none kV7 dc7 pm7 an7 cd7 ct7, fun s v => .of_eq rfl, fun base _ _ => ?_⟩
  have b_range := PySem.W.mg_none_of X G z_range
  have b_len := PySem.W.mg_none_of X G z_len
  have b_int := PySem.W.mg_none_of X G z_int
  have b_str := PySem.W.mg_none_of X G z_str
  have b_repr := PySem.W.mg_none_of X G z_repr
  have b_isinstance := PySem.W.mg_none_of X G z_isinstance
  have c_law_draws := ok_law_draws (P := P) (w := w) (base := base) (fun_mk (st := s_law_draws) l1 c1 k1) (PySem.W.mg_of X G a1) b_range b_len b_int
  have c_law_town := ok_law_town (P := P) (w := w) (base := base) (fun_mk (st := s_law_town) l2 c2 k2) (PySem.W.mg_of X G a2) b_int b_range
  have c_written := ok_written (P := P) (w := w) (base := base) (fun_mk (st := s_written) l3 c3 k3) (PySem.W.mg_of X G a3) b_str
  have c_write_town := ok_write_town (P := P) (w := w) (base := base) (fun_mk (st := s_write_town) l4 c4 k4) (PySem.W.mg_of X G a4) c_written
  have c_law_text := ok_law_text (P := P) (w := w) (base := base) (fun_mk (st := s_law_text) l5 c5 k5) (PySem.W.mg_of X G a5) 
  have c_law_lines := ok_law_lines (P := P) (w := w) (base := base) (fun_mk (st := s_law_lines) l6 c6 k6) (PySem.W.mg_of X G a6) b_str
  exact ok_law (fun_mk (st := s_law) l7 c7 k7) (PySem.W.mg_of X G a7) b_repr b_range b_isinstance b_str c_law_draws c_law_town c_write_town c_law_text c_law_lines
end Kk
open PySem PySem.W PyProof.Rows in
set_option maxRecDepth 100000 in
set_option maxHeartbeats 0 in
theorem PySem.Challenge.cw_evernear_k10_towns_are_written_holds : PySem.Challenge.rw_evernear_k10_towns_are_written.Holds := by
  w_on; o_law; k_head; (case hw => w_witness2)
  k_fill
  refine Va.walk_G (l := PySem.Challenge.rw_evernear_k10_towns_are_written) (k := 3) (x := "_law_script") rfl rfl ⟨rfl, by decide, by decide⟩ (fun w h Y => PySem.W.kIn_of Y) ?F
  case F =>
    intro w mg fa h KX G hmg
    refine' Kk.all_mk KX G hmg ?a1 ?l1 ?c1 ?k1 ?a2 ?l2 ?c2 ?k2 ?a3 ?l3 ?c3 ?k3 ?a4 ?l4 ?c4 ?k4 ?a5 ?l5 ?c5 ?k5 ?a6 ?l6 ?c6 ?k6 ?a7 ?l7 ?c7 ?k7 ?z_range ?z_len ?z_int ?z_str ?z_repr ?z_isinstance
    (case a1 => k_is)
    (case l1 => k_is)
    (case c1 => k_is)
    (case k1 => k_is)
    (case a2 => k_is)
    (case l2 => k_is)
    (case c2 => k_is)
    (case k2 => k_is)
    (case a3 => k_is)
    (case l3 => k_is)
    (case c3 => k_is)
    (case k3 => k_is)
    (case a4 => k_is)
    (case l4 => k_is)
    (case c4 => k_is)
    (case k4 => k_is)
    (case a5 => k_is)
    (case l5 => k_is)
    (case c5 => k_is)
    (case k5 => k_is)
    (case a6 => k_is)
    (case l6 => k_is)
    (case c6 => k_is)
    (case k6 => k_is)
    (case a7 => k_is)
    (case l7 => k_is)
    (case c7 => k_is)
    (case k7 => k_is)
    (case z_range => k_is)
    (case z_len => k_is)
    (case z_int => k_is)
    (case z_str => k_is)
    (case z_repr => k_is)
    (case z_isinstance => k_is)

