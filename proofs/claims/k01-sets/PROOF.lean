import PyProof.Rows.All
import HandS.ForMost
import HandS.ForExc
import HandS.IsInst
import HandS.Flow
import HandS.Wide
import HandS.Deep
import HandS.Style
import HandS.SortInts
import HandS.Zip
import HandS.WordsDict
import HandS.SetFor
import HandS.Strs
import HandS.More
import HandS.ExcOwn
import PyProof.TupleOfSeq
import HandS.Conv
import HandS.Small
import HandS.Ends
import HandS.Words
import HandS.WordsExc
import PySem.Challenge.RW_twofree_k01_sets
set_option Elab.async false
set_option linter.all false
set_option maxRecDepth 100000
/-! the pure layer, part A: values without a heap, how they lie in a heap -/
namespace Z
open PySem L2

inductive PV where
  | non | bl (b : Bool) | int (i : Int) | str (x : Str)
  | tup (xs : List PV) | lst (xs : List PV) | dct (t : Bool) (kvs : List (PV × PV)) | set (xs : List PV)
  | obj (c : String) (fs : List (String × PV))

/-- the written part, and where each class of the text stands -/
structure Tb where
  K : PySem.W.Frag
  cl : String → Option Addr

def kP : Key → PV
  | .inl i => .int i
  | .inr x => .str x

/-- a dict at a: its pairs, the keys as pure values -/
def DctAt (F : Hp) (a : Addr) : Bool → List (PV × V) → Prop
  | false, ks => ∃ es : List (Key × V), F a = some (.dK es) ∧ ks = es.map fun p => (kP p.1, p.2)
  | true, ks => ∃ es : List (List Key × V), F a = some (.dT es) ∧ ks = es.map fun p => (.tup (p.1.map kP), p.2)
/-- a set of ints at a -/
def SetAt (F : Hp) (a : Addr) (xs : List PV) : Prop :=
  ∃ (ns : List Int) (S : Int → Bool), xs = ns.map PV.int ∧ ns.Nodup ∧ F a = some (.set S ns.length) ∧ ∀ i, S i = true ↔ i ∈ ns

mutual
def Rp (T : Tb) (F : Hp) : PV → V → Prop
  | .non, v => v = .non
  | .bl b, v => v = .bl b
  | .int i, v => v = .int i
  | .str x, v => v = .str x
  | .tup xs, v => ∃ a vs, v = .ref a ∧ F a = some (.tup vs) ∧ RpL T F xs vs
  | .lst xs, v => ∃ a vs, v = .ref a ∧ Rd F a (.lst vs) ∧ RpL T F xs vs
  | .dct t kvs, v => ∃ a ks, v = .ref a ∧ DctAt F a t ks ∧ RpD T F kvs ks
  | .set xs, v => ∃ a, v = .ref a ∧ SetAt F a xs
  | .obj c fs, v => ∃ a C dx vs, v = .ref a ∧ T.cl c = some C ∧ F a = some (.ins C dx vs) ∧ RpF T F fs vs
def RpL (T : Tb) (F : Hp) : List PV → List V → Prop
  | [], vs => vs = []
  | x :: xs, vs => ∃ v ws, vs = v :: ws ∧ Rp T F x v ∧ RpL T F xs ws
def RpD (T : Tb) (F : Hp) : List (PV × PV) → List (PV × V) → Prop
  | [], vs => vs = []
  | (k, x) :: xs, vs => ∃ v ws, vs = (k, v) :: ws ∧ Rp T F x v ∧ RpD T F xs ws
def RpF (T : Tb) (F : Hp) : List (String × PV) → List (Str × V) → Prop
  | [], vs => vs = []
  | (f, x) :: xs, vs => ∃ v ws, vs = (Str.ofString f, v) :: ws ∧ Rp T F x v ∧ RpF T F xs ws
end

theorem rd_mono {F F' : Hp} {a : Addr} {u : HO} (e : Same F F') (h : Rd F a u) : Rd F' a u := by
  rcases h with h | ⟨o, h⟩
  · exact .inl (e _ _ h)
  · exact .inr ⟨o, e _ _ h⟩
theorem seqL_mono {K : PySem.W.Frag} {F F' : Hp} {a : Addr} {vs : List V} (e : Same F F') (h : SqL K F a vs) : SqL K F' a vs := e.seq h
theorem seqT_mono {K : PySem.W.Frag} {F F' : Hp} {a : Addr} {vs : List V} (e : Same F F') (h : SqT K F a vs) : SqT K F' a vs := by
  rcases h with (h | ⟨o, h⟩) | h
  · exact .inl (.inl (e _ _ h))
  · exact .inl (.inr ⟨o, e _ _ h⟩)
  · exact .inr h
theorem DctAt.mono {F F' : Hp} {a : Addr} {t ks} (e : ∀ o, F a = some o → F' a = some o) (h : DctAt F a t ks) : DctAt F' a t ks := by
  cases t <;> obtain ⟨es, h, r⟩ := h <;> exact ⟨es, e _ h, r⟩
theorem SetAt.mono {F F' : Hp} {a : Addr} {xs} (e : ∀ o, F a = some o → F' a = some o) (h : SetAt F a xs) : SetAt F' a xs := by
  obtain ⟨ns, S, r, nd, h, m⟩ := h
  exact ⟨ns, S, r, nd, e _ h, m⟩
mutual
theorem Rp.mono {T : Tb} {F F' : Hp} (e : Same F F') : (x : PV) → (v : V) → Rp T F x v → Rp T F' x v
  | .non, _, h => by simpa [Rp] using h
  | .bl b, _, h => by simpa [Rp] using h
  | .int i, _, h => by simpa [Rp] using h
  | .str x, _, h => by simpa [Rp] using h
  | .tup xs, _, h => by
    simp only [Rp] at h ⊢
    obtain ⟨a, vs, r, s, l⟩ := h
    exact ⟨a, vs, r, e _ _ s, RpL.mono e xs vs l⟩
  | .lst xs, _, h => by
    simp only [Rp] at h ⊢
    obtain ⟨a, vs, r, s, l⟩ := h
    exact ⟨a, vs, r, rd_mono e s, RpL.mono e xs vs l⟩
  | .dct t kvs, _, h => by
    simp only [Rp] at h ⊢
    obtain ⟨a, ks, r, s, l⟩ := h
    exact ⟨a, ks, r, s.mono (e a), RpD.mono e kvs ks l⟩
  | .set xs, _, h => by
    simp only [Rp] at h ⊢
    obtain ⟨a, r, s⟩ := h
    exact ⟨a, r, s.mono (e a)⟩
  | .obj c fs, _, h => by
    simp only [Rp] at h ⊢
    obtain ⟨a, C, dx, vs, r, s, q, l⟩ := h
    exact ⟨a, C, dx, vs, r, s, e _ _ q, RpF.mono e fs vs l⟩
theorem RpL.mono {T : Tb} {F F' : Hp} (e : Same F F') : (xs : List PV) → (vs : List V) → RpL T F xs vs → RpL T F' xs vs
  | [], _, h => by simpa [RpL] using h
  | x :: xs, _, h => by
    simp only [RpL] at h ⊢
    obtain ⟨v, ws, r, p, q⟩ := h
    exact ⟨v, ws, r, Rp.mono e x v p, RpL.mono e xs ws q⟩
theorem RpD.mono {T : Tb} {F F' : Hp} (e : Same F F') : (xs : List (PV × PV)) → (vs : List (PV × V)) → RpD T F xs vs → RpD T F' xs vs
  | [], _, h => by simpa [RpD] using h
  | (k, x) :: xs, _, h => by
    simp only [RpD] at h ⊢
    obtain ⟨v, ws, r, p, q⟩ := h
    exact ⟨v, ws, r, Rp.mono e x v p, RpD.mono e xs ws q⟩
theorem RpF.mono {T : Tb} {F F' : Hp} (e : Same F F') : (xs : List (String × PV)) → (vs : List (Str × V)) → RpF T F xs vs → RpF T F' xs vs
  | [], _, h => by simpa [RpF] using h
  | (k, x) :: xs, _, h => by
    simp only [RpF] at h ⊢
    obtain ⟨v, ws, r, p, q⟩ := h
    exact ⟨v, ws, r, Rp.mono e x v p, RpF.mono e xs ws q⟩
end

/-! ### lists of values -/
theorem RpL.length {T : Tb} {F : Hp} : ∀ {xs : List PV} {vs : List V}, RpL T F xs vs → vs.length = xs.length
  | [], _, h => by simp only [RpL] at h; subst h; rfl
  | x :: xs, _, h => by
    simp only [RpL] at h
    obtain ⟨v, ws, rfl, _, q⟩ := h
    simp [RpL.length q]
theorem RpL.nil {T : Tb} {F : Hp} : RpL T F [] [] := by simp [RpL]
theorem RpL.cons {T : Tb} {F : Hp} {x v xs vs} (h : Rp T F x v) (t : RpL T F xs vs) : RpL T F (x :: xs) (v :: vs) := by
  simp only [RpL]; exact ⟨v, vs, rfl, h, t⟩
theorem RpL.uncons {T : Tb} {F : Hp} {x v xs vs} (h : RpL T F (x :: xs) (v :: vs)) : Rp T F x v ∧ RpL T F xs vs := by
  simp only [RpL] at h
  obtain ⟨_, _, e, p, q⟩ := h
  cases e
  exact ⟨p, q⟩
theorem RpL.append {T : Tb} {F : Hp} : ∀ {xs : List PV} {vs : List V} {ys ws}, RpL T F xs vs → RpL T F ys ws → RpL T F (xs ++ ys) (vs ++ ws)
  | [], _, _, _, h, t => by simp only [RpL] at h; subst h; exact t
  | x :: xs, _, _, _, h, t => by
    simp only [RpL] at h
    obtain ⟨v, ws, rfl, p, q⟩ := h
    exact RpL.cons p (RpL.append q t)
theorem RpL.get {T : Tb} {F : Hp} : ∀ {xs : List PV} {vs : List V} {i : Nat} {x}, RpL T F xs vs → xs[i]? = some x → ∃ v, vs[i]? = some v ∧ Rp T F x v
  | [], _, _, _, _, e => by simp at e
  | x :: xs, _, 0, _, h, e => by
    simp only [RpL] at h
    obtain ⟨v, ws, rfl, p, q⟩ := h
    simp at e; subst e
    exact ⟨v, by simp, p⟩
  | x :: xs, _, i + 1, _, h, e => by
    simp only [RpL] at h
    obtain ⟨v, ws, rfl, p, q⟩ := h
    obtain ⟨u, h1, h2⟩ := RpL.get (i := i) q (by simpa using e)
    exact ⟨u, by simpa using h1, h2⟩
theorem RpL.getV {T : Tb} {F : Hp} : ∀ {xs : List PV} {vs : List V} {i : Nat} {v}, RpL T F xs vs → vs[i]? = some v → ∃ x, xs[i]? = some x ∧ Rp T F x v
  | [], _, _, _, h, e => by simp only [RpL] at h; subst h; simp at e
  | x :: xs, _, 0, _, h, e => by
    simp only [RpL] at h
    obtain ⟨v, ws, rfl, p, q⟩ := h
    simp at e; subst e
    exact ⟨x, by simp, p⟩
  | x :: xs, _, i + 1, _, h, e => by
    simp only [RpL] at h
    obtain ⟨v, ws, rfl, p, q⟩ := h
    obtain ⟨u, h1, h2⟩ := RpL.getV (i := i) q (by simpa using e)
    exact ⟨u, by simpa using h1, h2⟩
theorem RpL.take {T : Tb} {F : Hp} : ∀ {xs : List PV} {vs : List V} (n : Nat), RpL T F xs vs → RpL T F (xs.take n) (vs.take n)
  | _, _, 0, _ => by simpa using RpL.nil
  | [], _, n + 1, h => by simp only [RpL] at h; subst h; simpa using RpL.nil
  | x :: xs, _, n + 1, h => by
    simp only [RpL] at h
    obtain ⟨v, ws, rfl, p, q⟩ := h
    exact RpL.cons p (RpL.take n q)
theorem RpL.drop {T : Tb} {F : Hp} : ∀ {xs : List PV} {vs : List V} (n : Nat), RpL T F xs vs → RpL T F (xs.drop n) (vs.drop n)
  | _, _, 0, h => h
  | [], _, n + 1, h => by simp only [RpL] at h; subst h; simpa using RpL.nil
  | x :: xs, _, n + 1, h => by
    simp only [RpL] at h
    obtain ⟨v, ws, rfl, p, q⟩ := h
    exact RpL.drop n q
theorem RpL.set {T : Tb} {F : Hp} : ∀ {xs : List PV} {vs : List V} (n : Nat) {x v}, RpL T F xs vs → Rp T F x v → RpL T F (xs.set n x) (vs.set n v)
  | [], _, n, _, _, h, _ => by simp only [RpL] at h; subst h; simpa using RpL.nil
  | x :: xs, _, 0, _, _, h, r => by
    simp only [RpL] at h
    obtain ⟨v, ws, rfl, p, q⟩ := h
    exact RpL.cons r q
  | x :: xs, _, n + 1, _, _, h, r => by
    simp only [RpL] at h
    obtain ⟨v, ws, rfl, p, q⟩ := h
    exact RpL.cons p (RpL.set n q r)
theorem RpL.eraseIdx {T : Tb} {F : Hp} : ∀ {xs : List PV} {vs : List V} (n : Nat), RpL T F xs vs → RpL T F (xs.eraseIdx n) (vs.eraseIdx n)
  | [], _, n, h => by simp only [RpL] at h; subst h; simpa using RpL.nil
  | x :: xs, _, 0, h => by
    simp only [RpL] at h
    obtain ⟨v, ws, rfl, p, q⟩ := h
    exact q
  | x :: xs, _, n + 1, h => by
    simp only [RpL] at h
    obtain ⟨v, ws, rfl, p, q⟩ := h
    exact RpL.cons p (RpL.eraseIdx n q)
theorem RpL.reverse {T : Tb} {F : Hp} {xs : List PV} {vs : List V} (h : RpL T F xs vs) : RpL T F xs.reverse vs.reverse := by
  induction xs generalizing vs with
  | nil => simp only [RpL] at h; subst h; exact RpL.nil
  | cons x xs ih =>
    simp only [RpL] at h
    obtain ⟨v, ws, rfl, p, q⟩ := h
    simp only [List.reverse_cons]
    exact (ih q).append (RpL.cons p RpL.nil)
theorem RpL.dropLast {T : Tb} {F : Hp} {xs : List PV} {vs : List V} (h : RpL T F xs vs) : RpL T F xs.dropLast vs.dropLast := by
  rw [List.dropLast_eq_take, List.dropLast_eq_take, h.length]
  exact h.take _
/-- ints, read off -/
theorem RpL.ints {T : Tb} {F : Hp} : ∀ {ns : List Int} {vs : List V}, RpL T F (ns.map PV.int) vs → vs = ns.map V.int
  | [], _, h => by simp only [List.map_nil, RpL] at h; exact h
  | n :: ns, _, h => by
    simp only [List.map_cons, RpL] at h
    obtain ⟨v, ws, rfl, p, q⟩ := h
    simp only [Rp] at p
    subst p
    rw [RpL.ints q]; rfl
theorem RpL.ofInts {T : Tb} {F : Hp} : ∀ ns : List Int, RpL T F (ns.map PV.int) (ns.map V.int)
  | [] => RpL.nil
  | n :: ns => RpL.cons (by simp [Rp]) (RpL.ofInts ns)
theorem RpL.bls {T : Tb} {F : Hp} : ∀ {ns : List Bool} {vs : List V}, RpL T F (ns.map PV.bl) vs → vs = ns.map V.bl
  | [], _, h => by simp only [List.map_nil, RpL] at h; exact h
  | n :: ns, _, h => by
    simp only [List.map_cons, RpL] at h
    obtain ⟨v, ws, rfl, p, q⟩ := h
    simp only [Rp] at p
    subst p
    rw [RpL.bls q]; rfl
theorem RpL.strs {T : Tb} {F : Hp} : ∀ {ns : List Str} {vs : List V}, RpL T F (ns.map PV.str) vs → vs = ns.map V.str
  | [], _, h => by simp only [List.map_nil, RpL] at h; exact h
  | n :: ns, _, h => by
    simp only [List.map_cons, RpL] at h
    obtain ⟨v, ws, rfl, p, q⟩ := h
    simp only [Rp] at p
    subst p
    rw [RpL.strs q]; rfl
end Z
/-! the pure layer, part B: what a frame owns, the slots, how the heap grows -/
namespace Z
open PySem L2

/-- who holds a value: fz: shared and never changed; ow: this frame's own list, dict, set; ob: its own instance, by its fields -/
inductive Md where
  | fz | ow | ob (ms : List Md)

mutual
/-- v is the value x, held so; A: the addresses that the frame owns of it -/
def OwM (T : Tb) (F H : Hp) : Md → PV → V → List Addr → Prop
  | .fz, x, v, A => Rp T F x v ∧ A = []
  | .ow, x, v, A => ∃ a, v = .ref a ∧ A = [a] ∧ (match x with
    | .lst xs => ∃ vs, H a = some (.lst vs) ∧ RpL T F xs vs
    | .dct t kvs => ∃ ks, DctAt H a t ks ∧ RpD T F kvs ks
    | .set xs => SetAt H a xs
    | _ => False)
  | .ob ms, x, v, A => ∃ a C dx vs A', v = .ref a ∧ A = a :: A' ∧ H a = some (.ins C dx vs) ∧ (match x with
    | .obj c fs => T.cl c = some C ∧ OwF T F H ms fs vs A'
    | _ => False)
def OwF (T : Tb) (F H : Hp) : List Md → List (String × PV) → List (Str × V) → List Addr → Prop
  | [], fs, vs, A => fs = [] ∧ vs = [] ∧ A = []
  | m :: ms, fs, vs, A => ∃ f x fs' v vs' A1 A2, fs = (f, x) :: fs' ∧ vs = (Str.ofString f, v) :: vs' ∧ A = A1 ++ A2 ∧ OwM T F H m x v A1 ∧ OwF T F H ms fs' vs' A2
end

theorem DctAt.dom {F : Hp} {a : Addr} {t ks} (h : DctAt F a t ks) : ∃ o, F a = some o := by
  cases t <;> obtain ⟨es, h, _⟩ := h <;> exact ⟨_, h⟩
theorem SetAt.dom {F : Hp} {a : Addr} {xs} (h : SetAt F a xs) : ∃ o, F a = some o := by
  obtain ⟨_, _, _, _, h, _⟩ := h
  exact ⟨_, h⟩
mutual
theorem OwM.dom {T : Tb} {F H : Hp} : (m : Md) → ∀ {x v A}, OwM T F H m x v A → ∀ a ∈ A, ∃ o, H a = some o
  | .fz, x, v, A, h, a, ha => by simp only [OwM] at h; rw [h.2] at ha; simp at ha
  | .ow, x, v, A, h, a, ha => by
    simp only [OwM] at h
    obtain ⟨b, rfl, rfl, h⟩ := h
    obtain rfl : a = b := by simpa using ha
    cases x <;> first | exact h.elim | skip
    · obtain ⟨vs, h, _⟩ := h; exact ⟨_, h⟩
    · obtain ⟨ks, h, _⟩ := h; exact h.dom
    · exact SetAt.dom h
  | .ob ms, x, v, A, h, a, ha => by
    simp only [OwM] at h
    obtain ⟨b, C, dx, vs, A', rfl, rfl, hb, h⟩ := h
    cases x <;> first | exact h.elim | skip
    rcases List.mem_cons.mp ha with rfl | ha
    · exact ⟨_, hb⟩
    · exact OwF.dom ms h.2 a ha
theorem OwF.dom {T : Tb} {F H : Hp} : (ms : List Md) → ∀ {fs vs A}, OwF T F H ms fs vs A → ∀ a ∈ A, ∃ o, H a = some o
  | [], fs, vs, A, h, a, ha => by simp only [OwF] at h; rw [h.2.2] at ha; simp at ha
  | m :: ms, fs, vs, A, h, a, ha => by
    simp only [OwF] at h
    obtain ⟨f, x, fs', v, vs', A1, A2, rfl, rfl, rfl, h1, h2⟩ := h
    rcases List.mem_append.mp ha with ha | ha
    · exact OwM.dom m h1 a ha
    · exact OwF.dom ms h2 a ha
end
mutual
theorem OwM.mono {T : Tb} {F F' H H' : Hp} (e : Same F F') : (m : Md) → ∀ {x v A}, OwM T F H m x v A → (∀ a ∈ A, ∀ o, H a = some o → H' a = some o) → OwM T F' H' m x v A
  | .fz, x, v, A, h, k => by simp only [OwM] at h ⊢; exact ⟨h.1.mono e, h.2⟩
  | .ow, x, v, A, h, k => by
    simp only [OwM] at h ⊢
    obtain ⟨b, rfl, rfl, h⟩ := h
    refine ⟨b, rfl, rfl, ?_⟩
    have kb := k b (by simp)
    cases x <;> first | exact h.elim | skip
    · obtain ⟨vs, h, r⟩ := h; exact ⟨vs, kb _ h, RpL.mono e _ _ r⟩
    · obtain ⟨ks, h, r⟩ := h; exact ⟨ks, h.mono kb, RpD.mono e _ _ r⟩
    · exact SetAt.mono kb h
  | .ob ms, x, v, A, h, k => by
    simp only [OwM] at h ⊢
    obtain ⟨b, C, dx, vs, A', rfl, rfl, hb, h⟩ := h
    refine ⟨b, C, dx, vs, A', rfl, rfl, k b (by simp) _ hb, ?_⟩
    cases x <;> first | exact h.elim | skip
    exact ⟨h.1, OwF.mono e ms h.2 fun a ha => k a (List.mem_cons_of_mem _ ha)⟩
theorem OwF.mono {T : Tb} {F F' H H' : Hp} (e : Same F F') : (ms : List Md) → ∀ {fs vs A}, OwF T F H ms fs vs A → (∀ a ∈ A, ∀ o, H a = some o → H' a = some o) → OwF T F' H' ms fs vs A
  | [], fs, vs, A, h, k => by simp only [OwF] at h ⊢; exact h
  | m :: ms, fs, vs, A, h, k => by
    simp only [OwF] at h ⊢
    obtain ⟨f, x, fs', v, vs', A1, A2, rfl, rfl, rfl, h1, h2⟩ := h
    exact ⟨f, x, fs', v, vs', A1, A2, rfl, rfl, rfl, OwM.mono e m h1 fun a ha => k a (List.mem_append_left _ ha), OwF.mono e ms h2 fun a ha => k a (List.mem_append_right _ ha)⟩
end

/-! ### freezing -/
/-- F, and what stands in H at the addresses A -/
def frz (F H : Hp) (A : List Addr) : Hp := fun a => if a ∈ A then H a else F a
theorem frz_same {F H : Hp} {A : List Addr} (d : ∀ a ∈ A, F a = none) : Same F (frz F H A) := fun a o h => by
  unfold frz
  rw [if_neg (fun ha => by rw [d a ha] at h; cases h)]
  exact h
theorem frz_sub {F H : Hp} {A : List Addr} (s : Same F H) : Same (frz F H A) H := fun a o h => by
  unfold frz at h
  split at h
  · exact h
  · exact s a o h
theorem frz_at {F H : Hp} {A : List Addr} {a : Addr} {o : HO} (ha : a ∈ A) (h : H a = some o) : frz F H A a = some o := by
  unfold frz; rw [if_pos ha]; exact h
theorem frz_out {F H : Hp} {A : List Addr} {a : Addr} (ha : a ∉ A) : frz F H A a = F a := by
  unfold frz; rw [if_neg ha]
mutual
theorem OwM.freeze {T : Tb} {F F' H : Hp} (e : Same F F') : (m : Md) → ∀ {x v A}, OwM T F H m x v A → (∀ a ∈ A, ∀ o, H a = some o → F' a = some o) → Rp T F' x v
  | .fz, x, v, A, h, k => by simp only [OwM] at h; exact h.1.mono e
  | .ow, x, v, A, h, k => by
    simp only [OwM] at h
    obtain ⟨b, rfl, rfl, h⟩ := h
    have kb := k b (by simp)
    cases x <;> first | exact h.elim | skip
    · obtain ⟨vs, h, r⟩ := h; simp only [Rp]; exact ⟨b, vs, rfl, .inl (kb _ h), RpL.mono e _ _ r⟩
    · obtain ⟨ks, h, r⟩ := h; simp only [Rp]; exact ⟨b, ks, rfl, h.mono kb, RpD.mono e _ _ r⟩
    · simp only [Rp]; exact ⟨b, rfl, SetAt.mono kb h⟩
  | .ob ms, x, v, A, h, k => by
    simp only [OwM] at h
    obtain ⟨b, C, dx, vs, A', rfl, rfl, hb, h⟩ := h
    cases x <;> first | exact h.elim | skip
    simp only [Rp]
    exact ⟨b, C, dx, vs, rfl, h.1, k b (by simp) _ hb, OwF.freeze e ms h.2 fun a ha => k a (List.mem_cons_of_mem _ ha)⟩
theorem OwF.freeze {T : Tb} {F F' H : Hp} (e : Same F F') : (ms : List Md) → ∀ {fs vs A}, OwF T F H ms fs vs A → (∀ a ∈ A, ∀ o, H a = some o → F' a = some o) → RpF T F' fs vs
  | [], fs, vs, A, h, k => by simp only [OwF] at h; rw [h.1, h.2.1]; simp [RpF]
  | m :: ms, fs, vs, A, h, k => by
    simp only [OwF] at h
    obtain ⟨f, x, fs', v, vs', A1, A2, rfl, rfl, rfl, h1, h2⟩ := h
    simp only [RpF]
    exact ⟨v, vs', rfl, OwM.freeze e m h1 fun a ha => k a (List.mem_append_left _ ha), OwF.freeze e ms h2 fun a ha => k a (List.mem_append_right _ ha)⟩
end

/-! ### the slots -/
inductive Sl where
  | un | sl (m : Md) (x : PV)
abbrev Env := List Sl
def OwE (T : Tb) (F H : Hp) : Env → St → List Addr → Prop
  | [], σ, A => σ = [] ∧ A = []
  | .un :: γ, σ, A => ∃ w σ', σ = w :: σ' ∧ OwE T F H γ σ' A
  | .sl m x :: γ, σ, A => ∃ v σ' A1 A2, σ = some v :: σ' ∧ A = A1 ++ A2 ∧ OwM T F H m x v A1 ∧ OwE T F H γ σ' A2
structure Rel (T : Tb) (F : Hp) (A : List Addr) (σ : St) (H : Hp) (γ : Env) : Prop where
  sub : Same F H
  env : OwE T F H γ σ A
  nd : A.Nodup
  dis : ∀ a ∈ A, F a = none

/-- the heap has grown; nothing that stood has changed -/
structure Ext (F H F' H' : Hp) : Prop where
  sub : Same F' H'
  fle : Same F F'
  hle : Same H H'
  new : ∀ a o, F' a = some o → F a = some o ∨ H a = none
theorem Ext.refl {F H : Hp} (s : Same F H) : Ext F H F H := ⟨s, Same.refl _, Same.refl _, fun _ _ h => .inl h⟩
theorem Ext.trans {F H F1 H1 F2 H2 : Hp} (a : Ext F H F1 H1) (b : Ext F1 H1 F2 H2) : Ext F H F2 H2 :=
  ⟨b.sub, a.fle.trans b.fle, a.hle.trans b.hle, fun x o h => by
    rcases b.new x o h with h | h
    · exact a.new x o h
    · exact .inr (a.hle.free h)⟩
/-- a new object at p, frozen at once -/
theorem Ext.newF {F H : Hp} {p : Addr} {o : HO} (s : Same F H) (np : H p = none) : Ext F H (upd F p o) (upd H p o) := by
  have nf : F p = none := s.free np
  refine ⟨fun a u h => ?_, fun a u h => ?_, fun a u h => ?_, fun a u h => ?_⟩
  · by_cases e : a = p
    · subst e; rw [upd_same] at h ⊢; exact h
    · rw [upd_ne e] at h ⊢; exact s a u h
  · rw [upd_ne (ne_of_none h nf)]; exact h
  · rw [upd_ne (ne_of_none h np)]; exact h
  · by_cases e : a = p
    · subst e; exact .inr np
    · rw [upd_ne e] at h; exact .inl h
/-- a new object at p, not frozen -/
theorem Ext.newO {F H : Hp} {p : Addr} {o : HO} (s : Same F H) (np : H p = none) : Ext F H F (upd H p o) := by
  refine ⟨fun a u h => ?_, Same.refl _, fun a u h => ?_, fun a u h => .inl h⟩
  · rw [upd_ne (ne_of_none (s a u h) np)]; exact s a u h
  · rw [upd_ne (ne_of_none h np)]; exact h

theorem OwE.dom {T : Tb} {F H : Hp} : (γ : Env) → ∀ {σ A}, OwE T F H γ σ A → ∀ a ∈ A, ∃ o, H a = some o
  | [], σ, A, h, a, ha => by simp only [OwE] at h; rw [h.2] at ha; simp at ha
  | .un :: γ, σ, A, h, a, ha => by
    simp only [OwE] at h
    obtain ⟨w, σ', rfl, h⟩ := h
    exact OwE.dom γ h a ha
  | .sl m x :: γ, σ, A, h, a, ha => by
    simp only [OwE] at h
    obtain ⟨v, σ', A1, A2, rfl, rfl, h1, h2⟩ := h
    rcases List.mem_append.mp ha with ha | ha
    · exact OwM.dom m h1 a ha
    · exact OwE.dom γ h2 a ha
theorem OwE.mono {T : Tb} {F F' H H' : Hp} (e : Same F F') : (γ : Env) → ∀ {σ A}, OwE T F H γ σ A → (∀ a ∈ A, ∀ o, H a = some o → H' a = some o) → OwE T F' H' γ σ A
  | [], σ, A, h, k => by simpa only [OwE] using h
  | .un :: γ, σ, A, h, k => by
    simp only [OwE] at h ⊢
    obtain ⟨w, σ', rfl, h⟩ := h
    exact ⟨w, σ', rfl, OwE.mono e γ h k⟩
  | .sl m x :: γ, σ, A, h, k => by
    simp only [OwE] at h ⊢
    obtain ⟨v, σ', A1, A2, rfl, rfl, h1, h2⟩ := h
    exact ⟨v, σ', A1, A2, rfl, rfl, OwM.mono e m h1 fun a ha => k a (List.mem_append_left _ ha), OwE.mono e γ h2 fun a ha => k a (List.mem_append_right _ ha)⟩
theorem OwE.length {T : Tb} {F H : Hp} : (γ : Env) → ∀ {σ A}, OwE T F H γ σ A → σ.length = γ.length
  | [], σ, A, h => by simp only [OwE] at h; rw [h.1]; rfl
  | .un :: γ, σ, A, h => by
    simp only [OwE] at h
    obtain ⟨w, σ', rfl, h⟩ := h
    simp [OwE.length γ h]
  | .sl m x :: γ, σ, A, h => by
    simp only [OwE] at h
    obtain ⟨v, σ', A1, A2, rfl, rfl, h1, h2⟩ := h
    simp [OwE.length γ h2]
theorem Rel.ext {T : Tb} {F F' H H' : Hp} {A σ γ} (R : Rel T F A σ H γ) (e : Ext F H F' H') : Rel T F' A σ H' γ := by
  refine ⟨e.sub, OwE.mono e.fle γ R.env fun a _ o h => e.hle a o h, R.nd, fun a ha => ?_⟩
  cases q : F' a with
  | none => rfl
  | some o =>
    obtain ⟨u, hu⟩ := OwE.dom γ R.env a ha
    rcases e.new a o q with z | z
    · rw [R.dis a ha] at z; cases z
    · rw [hu] at z; cases z
/-- a slot read -/
theorem OwE.get {T : Tb} {F H : Hp} : (γ : Env) → ∀ {σ A} {i : Nat} {m x}, OwE T F H γ σ A → γ[i]? = some (.sl m x) → ∃ v Ai, σ[i]? = some (some v) ∧ OwM T F H m x v Ai ∧ ∀ a ∈ Ai, a ∈ A
  | [], σ, A, i, m, x, h, e => by simp at e
  | .un :: γ, σ, A, 0, m, x, h, e => by simp at e
  | .un :: γ, σ, A, i + 1, m, x, h, e => by
    simp only [OwE] at h
    obtain ⟨w, σ', rfl, h⟩ := h
    obtain ⟨v, Ai, h1, h2, h3⟩ := OwE.get γ h (by simpa using e)
    exact ⟨v, Ai, by simpa using h1, h2, h3⟩
  | .sl m' x' :: γ, σ, A, 0, m, x, h, e => by
    simp only [OwE] at h
    obtain ⟨v, σ', A1, A2, rfl, rfl, h1, h2⟩ := h
    simp at e
    obtain ⟨rfl, rfl⟩ := e
    exact ⟨v, A1, by simp, h1, fun a ha => List.mem_append_left _ ha⟩
  | .sl m' x' :: γ, σ, A, i + 1, m, x, h, e => by
    simp only [OwE] at h
    obtain ⟨v, σ', A1, A2, rfl, rfl, h1, h2⟩ := h
    obtain ⟨v, Ai, h1, h2, h3⟩ := OwE.get γ h2 (by simpa using e)
    exact ⟨v, Ai, by simpa using h1, h2, fun a ha => List.mem_append_right _ (h3 a ha)⟩
/-- a slot stored: what it held is dropped, the new value owns Ar -/
theorem OwE.put {T : Tb} {F H : Hp} : (γ : Env) → ∀ {σ A} {i : Nat} {m x v Ar}, OwE T F H γ σ A → i < γ.length → OwM T F H m x v Ar →
    A.Nodup → Ar.Nodup → (∀ a ∈ Ar, a ∉ A) → ∃ A', OwE T F H (γ.set i (.sl m x)) (σ.set i (some v)) A' ∧ A'.Nodup ∧ ∀ a ∈ A', a ∈ A ∨ a ∈ Ar
  | [], σ, A, i, m, x, v, Ar, h, l, r, n, nr, d => by simp at l
  | .un :: γ, σ, A, 0, m, x, v, Ar, h, l, r, n, nr, d => by
    simp only [OwE] at h
    obtain ⟨w, σ', rfl, h⟩ := h
    refine ⟨Ar ++ A, ?_, ?_, fun a ha => ?_⟩
    · simp only [List.set_cons_zero, OwE]
      exact ⟨v, σ', Ar, A, rfl, rfl, r, h⟩
    · exact List.nodup_append.mpr ⟨nr, n, fun a ha b hb e => d a ha (e ▸ hb)⟩
    · rcases List.mem_append.mp ha with z | z
      · exact .inr z
      · exact .inl z
  | .sl m' x' :: γ, σ, A, 0, m, x, v, Ar, h, l, r, n, nr, d => by
    simp only [OwE] at h
    obtain ⟨v', σ', A1, A2, rfl, rfl, h1, h2⟩ := h
    refine ⟨Ar ++ A2, ?_, ?_, fun a ha => ?_⟩
    · simp only [List.set_cons_zero, OwE]
      exact ⟨v, σ', Ar, A2, rfl, rfl, r, h2⟩
    · exact List.nodup_append.mpr ⟨nr, (List.nodup_append.mp n).2.1, fun a ha b hb e => d a ha (List.mem_append_right _ (e ▸ hb))⟩
    · rcases List.mem_append.mp ha with z | z
      · exact .inr z
      · exact .inl (List.mem_append_right _ z)
  | .un :: γ, σ, A, i + 1, m, x, v, Ar, h, l, r, n, nr, d => by
    simp only [OwE] at h
    obtain ⟨w, σ', rfl, h⟩ := h
    obtain ⟨A', h1, h2, h3⟩ := OwE.put γ h (by simpa using l) r n nr d
    refine ⟨A', ?_, h2, h3⟩
    simp only [List.set_cons_succ, OwE]
    exact ⟨w, _, rfl, h1⟩
  | .sl m' x' :: γ, σ, A, i + 1, m, x, v, Ar, h, l, r, n, nr, d => by
    simp only [OwE] at h
    obtain ⟨v', σ', A1, A2, rfl, rfl, h1, h2⟩ := h
    obtain ⟨n1, n2, n3⟩ := List.nodup_append.mp n
    obtain ⟨A', k1, k2, k3⟩ := OwE.put γ h2 (by simpa using l) r n2 nr fun a ha z => d a ha (List.mem_append_right _ z)
    refine ⟨A1 ++ A', ?_, ?_, fun a ha => ?_⟩
    · simp only [List.set_cons_succ, OwE]
      exact ⟨v', _, A1, A', rfl, rfl, h1, k1⟩
    · refine List.nodup_append.mpr ⟨n1, k2, fun a ha b hb e => ?_⟩
      rcases k3 b hb with z | z
      · exact n3 a ha b z e
      · exact d b z (List.mem_append_left _ (e ▸ ha))
    · rcases List.mem_append.mp ha with z | z
      · exact .inl (List.mem_append_left _ z)
      · rcases k3 a z with z | z
        · exact .inl (List.mem_append_right _ z)
        · exact .inr z
/-- a slot forgotten (its value anything) -/
theorem OwE.wipe {T : Tb} {F H : Hp} : (γ : Env) → ∀ {σ A} (i : Nat) (w : Option V), OwE T F H γ σ A → A.Nodup → ∃ A', OwE T F H (γ.set i .un) (σ.set i w) A' ∧ A'.Nodup ∧ ∀ a ∈ A', a ∈ A
  | [], σ, A, i, w, h, n => by
    simp only [OwE] at h
    exact ⟨[], by simp [OwE, h.1], by simp, by simp⟩
  | .un :: γ, σ, A, 0, w, h, n => by
    simp only [OwE] at h
    obtain ⟨w', σ', rfl, h⟩ := h
    exact ⟨A, by simp only [List.set_cons_zero, OwE]; exact ⟨w, σ', rfl, h⟩, n, fun _ h => h⟩
  | .sl m' x' :: γ, σ, A, 0, w, h, n => by
    simp only [OwE] at h
    obtain ⟨v', σ', A1, A2, rfl, rfl, h1, h2⟩ := h
    exact ⟨A2, by simp only [List.set_cons_zero, OwE]; exact ⟨w, σ', rfl, h2⟩, (List.nodup_append.mp n).2.1, fun a ha => List.mem_append_right _ ha⟩
  | .un :: γ, σ, A, i + 1, w, h, n => by
    simp only [OwE] at h
    obtain ⟨w', σ', rfl, h⟩ := h
    obtain ⟨A', h1, h2, h3⟩ := OwE.wipe γ i w h n
    exact ⟨A', by simp only [List.set_cons_succ, OwE]; exact ⟨w', _, rfl, h1⟩, h2, h3⟩
  | .sl m' x' :: γ, σ, A, i + 1, w, h, n => by
    simp only [OwE] at h
    obtain ⟨v', σ', A1, A2, rfl, rfl, h1, h2⟩ := h
    obtain ⟨n1, n2, n3⟩ := List.nodup_append.mp n
    obtain ⟨A', k1, k2, k3⟩ := OwE.wipe γ i w h2 n2
    refine ⟨A1 ++ A', by simp only [List.set_cons_succ, OwE]; exact ⟨v', _, A1, A', rfl, rfl, h1, k1⟩, ?_, fun a ha => ?_⟩
    · exact List.nodup_append.mpr ⟨n1, k2, fun a ha b hb e => n3 a ha b (k3 b hb) e⟩
    · rcases List.mem_append.mp ha with z | z
      · exact List.mem_append_left _ z
      · exact List.mem_append_right _ (k3 a z)
/-- slot i's own addresses, and the rest -/
theorem OwE.split {T : Tb} {F H : Hp} : (γ : Env) → ∀ {σ A} {i : Nat} {m x}, OwE T F H γ σ A → γ[i]? = some (.sl m x) → ∃ v P Ai S, σ[i]? = some (some v) ∧ A = P ++ Ai ++ S ∧ OwM T F H m x v Ai ∧
    ∀ m' x' F' H' A', Same F F' → (∀ a ∈ P ++ S, ∀ o, H a = some o → H' a = some o) → OwM T F' H' m' x' v A' → OwE T F' H' (γ.set i (.sl m' x')) σ (P ++ A' ++ S)
  | [], σ, A, i, m, x, h, e => by simp at e
  | .un :: γ, σ, A, 0, m, x, h, e => by simp at e
  | .un :: γ, σ, A, i + 1, m, x, h, e => by
    simp only [OwE] at h
    obtain ⟨w, σ', rfl, h⟩ := h
    obtain ⟨v, P, Ai, S, h1, h2, h3, h4⟩ := OwE.split γ h (by simpa using e)
    refine ⟨v, P, Ai, S, by simpa using h1, h2, h3, fun m' x' F' H' A' s k r => ?_⟩
    simp only [List.set_cons_succ, OwE]
    exact ⟨w, σ', rfl, h4 m' x' F' H' A' s k r⟩
  | .sl m0 x0 :: γ, σ, A, 0, m, x, h, e => by
    simp only [OwE] at h
    obtain ⟨v, σ', A1, A2, rfl, rfl, h1, h2⟩ := h
    simp at e
    obtain ⟨rfl, rfl⟩ := e
    refine ⟨v, [], A1, A2, by simp, by simp, h1, fun m' x' F' H' A' s k r => ?_⟩
    simp only [List.set_cons_zero, OwE]
    exact ⟨v, σ', A', A2, rfl, by simp, r, OwE.mono s γ h2 fun a ha => k a (by simpa using ha)⟩
  | .sl m0 x0 :: γ, σ, A, i + 1, m, x, h, e => by
    simp only [OwE] at h
    obtain ⟨v0, σ', A1, A2, rfl, rfl, h1, h2⟩ := h
    obtain ⟨v, P, Ai, S, k1, k2, k3, k4⟩ := OwE.split γ h2 (by simpa using e)
    refine ⟨v, A1 ++ P, Ai, S, by simpa using k1, by rw [k2]; simp, k3, fun m' x' F' H' A' s k r => ?_⟩
    simp only [List.set_cons_succ, OwE]
    refine ⟨v0, σ', A1, P ++ A' ++ S, rfl, by simp, OwM.mono s m0 h1 fun a ha => k a ?_, k4 m' x' F' H' A' s (fun a ha => k a ?_) r⟩
    · simp [ha]
    · simp only [List.append_assoc, List.mem_append] at ha ⊢
      rcases ha with z | z
      · exact .inr (.inl z)
      · exact .inr (.inr z)
end Z
/-! the pure layer, part C: what an expression is worth by the slots, and that it is so -/
namespace Z
open PySem L2

/-- an exception: its class, its own attributes -/
structure Xc where
  c : String
  fs : List (String × PV)
inductive R (α : Type) where
  | ok (a : α) | er (e : Xc) | no
namespace R
def bind {α β : Type} : R α → (α → R β) → R β
  | .ok a, f => f a
  | .er e, _ => .er e
  | .no, _ => .no
def map {α β : Type} (f : α → β) : R α → R β
  | .ok a => .ok (f a)
  | .er e => .er e
  | .no => .no
@[simp] theorem bind_ok {α β : Type} (a : α) (f : α → R β) : (R.ok a).bind f = f a := rfl
@[simp] theorem bind_er {α β : Type} (e : Xc) (f : α → R β) : (R.er e : R α).bind f = .er e := rfl
@[simp] theorem bind_no {α β : Type} (f : α → R β) : (R.no : R α).bind f = .no := rfl
instance : Monad R where
  pure := .ok
  bind := bind
end R
/-- a value: fr: its own; pk: one that a slot holds, looked at -/
inductive Vl where
  | fr (m : Md) (x : PV) | pk (m : Md) (x : PV)
def Vl.x : Vl → PV
  | .fr _ x => x
  | .pk _ x => x
@[simp] theorem Vl.x_fr (m x) : (Vl.fr m x).x = x := rfl
@[simp] theorem Vl.x_pk (m x) : (Vl.pk m x).x = x := rfl
abbrev Vl.z (x : PV) : Vl := .fr .fz x

/-- v can be read as x -/
def Rv (T : Tb) (F H : Hp) (x : PV) (v : V) : Prop := ∃ m A, OwM T F H m x v A
def VlN (T : Tb) (F' H' H : Hp) : Vl → V → Prop
  | .fr m x, v => ∃ Ar, OwM T F' H' m x v Ar ∧ Ar.Nodup ∧ ∀ a ∈ Ar, H a = none ∧ F' a = none
  | .pk _ _, _ => False
def VlR (T : Tb) (F' H' H : Hp) (A : List Addr) : Vl → V → Prop
  | .fr m x, v => ∃ Ar, OwM T F' H' m x v Ar ∧ Ar.Nodup ∧ ∀ a ∈ Ar, H a = none ∧ F' a = none
  | .pk m x, v => ∃ Ai, OwM T F' H' m x v Ai ∧ ∀ a ∈ Ai, a ∈ A
def RvL (T : Tb) (F H : Hp) : List PV → List V → Prop
  | [], vs => vs = []
  | x :: xs, vs => ∃ v ws, vs = v :: ws ∧ Rv T F H x v ∧ RvL T F H xs ws
/-- how an exception lies: its own dict d (none, where it has no attributes) -/
def XcR (T : Tb) (F : Hp) (e : Xc) (cls : Value) (d : Option Addr) : Prop :=
  ∃ C, T.cl e.c = some C ∧ cls = .ref C ∧ ((e.fs = [] ∧ d = none) ∨ ∃ dx vs, d = some dx ∧ F dx = some (.xd vs) ∧ RpF T F e.fs vs)

theorem VlN.r {T : Tb} {F' H' H H0 : Hp} {A l v} (h : VlN T F' H' H l v) (s : Same H0 H) : VlR T F' H' H0 A l v := by
  cases l with
  | fr m x => obtain ⟨Ar, h1, h2, h3⟩ := h; exact ⟨Ar, h1, h2, fun a ha => ⟨s.free (h3 a ha).1, (h3 a ha).2⟩⟩
  | pk m x => exact h.elim
theorem VlR.rv {T : Tb} {F' H' H : Hp} {A l v} (h : VlR T F' H' H A l v) : Rv T F' H' l.x v := by
  cases l with
  | fr m x => obtain ⟨Ar, h1, _⟩ := h; exact ⟨m, Ar, h1⟩
  | pk m x => obtain ⟨Ar, h1, _⟩ := h; exact ⟨m, Ar, h1⟩
theorem Rv.ext {T : Tb} {F F' H H' : Hp} {x v} (h : Rv T F H x v) (e : Ext F H F' H') : Rv T F' H' x v := by
  obtain ⟨m, A, h⟩ := h
  exact ⟨m, A, OwM.mono e.fle m h fun a _ o q => e.hle a o q⟩
theorem Rv.of {T : Tb} {F H : Hp} {x v} (h : Rp T F x v) : Rv T F H x v := ⟨.fz, [], by simp only [OwM]; exact ⟨h, trivial⟩⟩
theorem OwM.fz_of {T : Tb} {F H : Hp} {x v} (h : Rp T F x v) : OwM T F H .fz x v [] := by simp only [OwM]; exact ⟨h, trivial⟩
theorem VlN.z {T : Tb} {F' H' H : Hp} {x v} (h : Rp T F' x v) : VlN T F' H' H (.z x) v := ⟨[], OwM.fz_of h, by simp, by simp⟩
theorem VlR.zz {T : Tb} {F' H' H : Hp} {A x v} (h : Rp T F' x v) : VlR T F' H' H A (.z x) v := ⟨[], OwM.fz_of h, by simp, by simp⟩
/-- behind a further growth -/
theorem VlR.ext {T : Tb} {F H F1 H1 F2 H2 : Hp} {A l v} (h : VlR T F1 H1 H A l v) (d : ∀ a ∈ A, ∃ o, H a = some o) (e1 : Ext F H F1 H1) (e : Ext F1 H1 F2 H2) : VlR T F2 H2 H A l v := by
  cases l with
  | fr m x =>
    obtain ⟨Ar, h1, h2, h3⟩ := h
    refine ⟨Ar, OwM.mono e.fle m h1 fun a _ o q => e.hle a o q, h2, fun a ha => ⟨(h3 a ha).1, ?_⟩⟩
    cases q : F2 a with
    | none => rfl
    | some o =>
      rcases e.new a o q with z | z
      · rw [(h3 a ha).2] at z; cases z
      · obtain ⟨u, hu⟩ := OwM.dom m h1 a ha
        rw [hu] at z; cases z
  | pk m x =>
    obtain ⟨Ar, h1, h2⟩ := h
    exact ⟨Ar, OwM.mono e.fle m h1 fun a _ o q => e.hle a o q, h2⟩

theorem RvL.ext {T : Tb} {F F' H H' : Hp} (e : Ext F H F' H') : ∀ {xs : List PV} {vs}, RvL T F H xs vs → RvL T F' H' xs vs
  | [], _, h => h
  | x :: xs, _, h => by
    obtain ⟨v, ws, r, p, q⟩ := h
    exact ⟨v, ws, r, p.ext e, RvL.ext e q⟩

/-! ### the judgements -/
abbrev Ex := Env → R Vl
def tq (K : PySem.W.Frag) (cl : String → Option Addr) (W : WX) (f : Ex) : TE := fun σ H Q => ∃ F A γ, Rel ⟨K, cl⟩ F A σ H γ ∧ match f γ with
  | .ok l => ∀ F' H' v, Ext F H F' H' → VlR ⟨K, cl⟩ F' H' H A l v → Q v H'
  | .er e => ∀ F' H' c d, Ext F H F' H' → XcR ⟨K, cl⟩ F' e c d → W c d σ H'
  | .no => False
structure QE (cl : String → Option Addr) (X : Cx) (W : WX) (f : Ex) (e : Expr) : Prop where
  pe : PE X e (tq X.K cl W f)
def tqT (K : PySem.W.Frag) (cl : String → Option Addr) (W : WX) (f : Env → R Bool) : TT := fun σ H Q => ∃ F A γ, Rel ⟨K, cl⟩ F A σ H γ ∧ match f γ with
  | .ok b => ∀ F' H', Ext F H F' H' → Q b H'
  | .er e => ∀ F' H' c d, Ext F H F' H' → XcR ⟨K, cl⟩ F' e c d → W c d σ H'
  | .no => False
structure QT (cl : String → Option Addr) (X : Cx) (W : WX) (f : Env → R Bool) (e : Expr) : Prop where
  pt : PT X e (tqT X.K cl W f)
structure QW (cl : String → Option Addr) (X : Cx) (W : WX) (f : Env → R Bool) (e : Expr) : Prop where
  pw : PW X e (tqT X.K cl W f)
/-- arguments that are looked at -/
def tqA (K : PySem.W.Frag) (cl : String → Option Addr) (W : WX) (f : Env → R (List PV)) : TA := fun σ H Q => ∃ F A γ, Rel ⟨K, cl⟩ F A σ H γ ∧ match f γ with
  | .ok xs => ∀ F' H' vs, Ext F H F' H' → RvL ⟨K, cl⟩ F' H' xs vs → Q vs H'
  | .er e => ∀ F' H' c d, Ext F H F' H' → XcR ⟨K, cl⟩ F' e c d → W c d σ H'
  | .no => False
structure QA (cl : String → Option Addr) (X : Cx) (W : WX) (f : Env → R (List PV)) (es : List Expr) : Prop where
  pa : PA X es (tqA X.K cl W f)
/-- arguments that are kept: frozen -/
def tqZ (K : PySem.W.Frag) (cl : String → Option Addr) (W : WX) (f : Env → R (List PV)) : TA := fun σ H Q => ∃ F A γ, Rel ⟨K, cl⟩ F A σ H γ ∧ match f γ with
  | .ok xs => ∀ F' H' vs, Ext F H F' H' → RpL ⟨K, cl⟩ F' xs vs → Q vs H'
  | .er e => ∀ F' H' c d, Ext F H F' H' → XcR ⟨K, cl⟩ F' e c d → W c d σ H'
  | .no => False
structure QZ (cl : String → Option Addr) (X : Cx) (W : WX) (f : Env → R (List PV)) (es : List Expr) : Prop where
  pa : PA X es (tqZ X.K cl W f)

theorem _root_.L2.PE.imp {X : Cx} {e : Expr} {t t' : TE} (h : PE X e t) (k : ∀ σ H Q, t' σ H Q → t σ H Q) : PE X e t' := ⟨fun pins s σ H Q I q => h.run pins s σ H Q I (k σ H Q q)⟩
theorem _root_.L2.PT.imp {X : Cx} {e : Expr} {t t' : TT} (h : PT X e t) (k : ∀ σ H Q, t' σ H Q → t σ H Q) : PT X e t' := ⟨fun pins s σ H Q I q => h.run pins s σ H Q I (k σ H Q q)⟩
theorem _root_.L2.PW.imp {X : Cx} {e : Expr} {t t' : TT} (h : PW X e t) (k : ∀ σ H Q, t' σ H Q → t σ H Q) : PW X e t' := ⟨fun wh pins s σ H Q I q => h.run wh pins s σ H Q I (k σ H Q q)⟩
theorem _root_.L2.PA.imp {X : Cx} {es : List Expr} {t t' : TA} (h : PA X es t) (k : ∀ σ H Q, t' σ H Q → t σ H Q) : PA X es t' := ⟨fun pos pins s σ H Q I q => h.run pos pins s σ H Q I (k σ H Q q)⟩

section
variable {X : Cx} {cl : String → Option Addr} {W : WX}

/-- the answer of an operation by values: what its reading must be good for -/
def Post (T : Tb) (F H : Hp) (r : R Vl) (Q : VK) : Prop := match r with
  | .ok l => ∀ F' H' v, Ext F H F' H' → VlN T F' H' H l v → Q v H'
  | _ => False
theorem Post.of {T : Tb} {F H : Hp} {x : PV} {v : V} {Q : VK} (s : Same F H) (h : Post T F H (.ok (.z x)) Q) (r : Rp T F x v) : Q v H := h F H v (Ext.refl s) (VlN.z r)

/-- one operand: f's value taken on by k (which may be Post, or a further reading) -/
theorem tq.bind {f : Ex} {σ : St} {H : Hp} {Q : VK} {g : Vl → Env → R Vl} (h : tq X.K cl W (fun γ => (f γ).bind fun l => g l γ) σ H Q) {R1 : VK}
    (k : ∀ F A γ l F1 H1 v, Rel ⟨X.K, cl⟩ F A σ H γ → f γ = .ok l → Ext F H F1 H1 → VlR ⟨X.K, cl⟩ F1 H1 H A l v →
      (match g l γ with
        | .ok l' => ∀ F' H' v', Ext F1 H1 F' H' → VlR ⟨X.K, cl⟩ F' H' H A l' v' → Q v' H'
        | .er e => ∀ F' H' c d, Ext F1 H1 F' H' → XcR ⟨X.K, cl⟩ F' e c d → W c d σ H'
        | .no => False) → R1 v H1) : tq X.K cl W f σ H R1 := by
  obtain ⟨F, A, γ, rel, h⟩ := h
  dsimp only at h
  refine ⟨F, A, γ, rel, ?_⟩
  cases e : f γ with
  | no => rw [e] at h; exact h
  | er x => rw [e] at h; exact h
  | ok l =>
    rw [e] at h
    simp only [R.bind_ok] at h
    intro F1 H1 v e1 r1
    refine k F A γ l F1 H1 v rel e e1 r1 ?_
    cases e' : g l γ with
    | no => rw [e'] at h; exact h
    | er x => rw [e'] at h; exact fun F' H' c d ex => h F' H' c d (e1.trans ex)
    | ok l' => rw [e'] at h; exact fun F' H' v' ex r => h F' H' v' (e1.trans ex) r

/-! ### names, constants -/
def xVar (i : Nat) : Ex := fun γ => match γ[i]? with
  | some (.sl m x) => .ok (.pk m x)
  | _ => .no
theorem q_var (i : Nat) {x : Str} {pos : Pos} (hN : X.N[i]? = some x := by rfl) (hv : Vis X.env.scope x := by first | exact Or.inl rfl | exact Or.inr (Or.inl rfl) | exact Or.inr (Or.inr rfl))
    (hd : (x == ("__debug__" : Str)) = false := by decide) (hcd : (x == ("__classdict__" : Str)) = false := by decide) : QE cl X W (xVar i) (.Name x pos) := by
  refine ⟨(pe_var (i := i) hN hv hd hcd).imp fun σ H Q h => ?_⟩
  obtain ⟨F, A, γ, rel, h⟩ := h
  unfold xVar at h
  cases e : γ[i]? with
  | none => rw [e] at h; exact h.elim
  | some sl =>
    rw [e] at h
    cases sl with
    | un => exact h.elim
    | sl m x =>
      obtain ⟨v, Ai, h1, h2, h3⟩ := OwE.get γ rel.env e
      exact ⟨v, h1, h F H v (Ext.refl rel.sub) ⟨Ai, h2, h3⟩⟩
def xC (x : PV) : Ex := fun _ => .ok (.z x)
theorem q_c {e : Expr} {x : PV} {v : V} (h : PE X e (tC v)) (r : ∀ F, Rp ⟨X.K, cl⟩ F x v) : QE cl X W (xC x) e := by
  refine ⟨h.imp fun σ H Q h => ?_⟩
  obtain ⟨F, A, γ, rel, h⟩ := h
  exact h F H v (Ext.refl rel.sub) (VlR.zz (r F))
theorem q_int {i j pos} : QE cl X W (xC (.int i)) (.Constant (.int i) j pos) := q_c pe_int fun _ => by simp [Rp]
theorem q_bl {b j pos} : QE cl X W (xC (.bl b)) (.Constant (.bool b) j pos) := q_c pe_bl fun _ => by simp [Rp]
theorem q_non {j pos} : QE cl X W (xC .non) (.Constant .none j pos) := q_c pe_non fun _ => by simp [Rp]
theorem q_str {x j pos} : QE cl X W (xC (.str x)) (.Constant (.str x) j pos) := q_c pe_str fun _ => by simp [Rp]
/-- a module's constant -/
theorem q_con {x : Str} {p : PV} {v : V} {u : Value} {pos : Pos} (hg : Gl X x) (hm : X.mg x = some u) (r : RelV v u) (rp : ∀ F, Rp ⟨X.K, cl⟩ F p v) (hd : (x == ("__debug__" : Str)) = false := by decide) : QE cl X W (xC p) (.Name x pos) :=
  q_c (pe_glob hg hm r hd) rp

/-! ### operators by values -/
def Op2 (X : Cx) (cl : String → Option Addr) (p : PV → PV → R Vl) (r : R2) : Prop :=
  ∀ F H x y v u Q, Same F H → Rv ⟨X.K, cl⟩ F H x v → Rv ⟨X.K, cl⟩ F H y u → Post ⟨X.K, cl⟩ F H (p x y) Q → r v u H Q
def Op1 (X : Cx) (cl : String → Option Addr) (p : PV → R Vl) (r : V → Hp → VK → Prop) : Prop :=
  ∀ F H x v Q, Same F H → Rv ⟨X.K, cl⟩ F H x v → Post ⟨X.K, cl⟩ F H (p x) Q → r v H Q
def x2 (p : PV → PV → R Vl) (f g : Ex) : Ex := fun γ => (f γ).bind fun l => (g γ).bind fun k => p l.x k.x
def x1 (p : PV → R Vl) (f : Ex) : Ex := fun γ => (f γ).bind fun l => p l.x
/-- p lets nothing out -/
def NoEr2 (p : PV → PV → R Vl) : Prop := ∀ x y e, p x y ≠ .er e
def NoEr1 (p : PV → R Vl) : Prop := ∀ x e, p x ≠ .er e
theorem tq2 {p : PV → PV → R Vl} {r : R2} {f g : Ex} (ne : NoEr2 p) (o : Op2 X cl p r) {σ H Q} (h : tq X.K cl W (x2 p f g) σ H Q) : tOp r (tq X.K cl W f) (tq X.K cl W g) σ H Q := by
  refine tq.bind (g := fun l γ => (g γ).bind fun k => p l.x k.x) h fun F A γ l F1 H1 v rel e e1 r1 h => ?_
  refine ⟨F1, A, γ, rel.ext e1, ?_⟩
  cases e' : g γ with
  | no => rw [e'] at h; exact h
  | er x => rw [e'] at h; exact h
  | ok k =>
    rw [e'] at h
    simp only [R.bind_ok] at h
    intro F2 H2 u ex2 r2
    refine o F2 H2 l.x k.x v u Q ex2.sub (r1.rv.ext ex2) r2.rv ?_
    cases e'' : p l.x k.x with
    | no => rw [e''] at h; exact h
    | er x => exact (ne _ _ _ e'').elim
    | ok l' =>
      rw [e''] at h
      exact fun F' H' w ex n => h F' H' w (ex2.trans ex) (n.r (e1.trans ex2).hle)
theorem tq1 {p : PV → R Vl} {r : V → Hp → VK → Prop} {f : Ex} (ne : NoEr1 p) (o : Op1 X cl p r) {σ H Q} (h : tq X.K cl W (x1 p f) σ H Q) : tUn r (tq X.K cl W f) σ H Q := by
  refine tq.bind (g := fun l γ => p l.x) h fun F A γ l F1 H1 v rel e e1 r1 h => ?_
  refine o F1 H1 l.x v Q e1.sub r1.rv ?_
  cases e'' : p l.x with
  | no => rw [e''] at h; exact h
  | er x => exact (ne _ _ e'').elim
  | ok l' =>
    rw [e''] at h
    exact fun F' H' w ex n => h F' H' w ex (n.r e1.hle)
theorem q_op {op : Operator} {p : PV → PV → R Vl} {r : R2} {a b : Expr} {pos : Pos} {f g : Ex} (ho : OpR X (binaryOp op) r) (ne : NoEr2 p) (o : Op2 X cl p r) (ha : QE cl X W f a) (hb : QE cl X W g b) :
    QE cl X W (x2 p f g) (.BinOp a op b pos) := ⟨(pe_op ho ha.pe hb.pe).imp fun σ H Q h => tq2 ne o h⟩
theorem q_cmp {op : CmpOp} {p : PV → PV → R Vl} {r : R2} {a b : Expr} {pos : Pos} {f g : Ex} (ho : OpR X (compareOp op) r) (ne : NoEr2 p) (o : Op2 X cl p r) (ha : QE cl X W f a) (hb : QE cl X W g b)
    (hm : behindInMarks op b = false := by rfl) : QE cl X W (x2 p f g) (.Compare a [op] [b] pos) := ⟨(pe_cmpR ho ha.pe hb.pe hm).imp fun σ H Q h => tq2 ne o h⟩
theorem q_un {op : UnaryOp} {p : PV → R Vl} {r : V → Hp → VK → Prop} {a : Expr} {pos : Pos} {f : Ex} (ho : UnR X (unaryOp op) r) (ne : NoEr1 p) (o : Op1 X cl p r) (ha : QE cl X W f a) :
    QE cl X W (x1 p f) (.UnaryOp op a pos) := ⟨(pe_un ho ha.pe).imp fun σ H Q h => tq1 ne o h⟩
theorem q_ix {p : PV → PV → R Vl} {r : R2} {a b : Expr} {pos : Pos} {f g : Ex} (ho : IxR X r) (ne : NoEr2 p) (o : Op2 X cl p r) (ha : QE cl X W f a) (hb : QE cl X W g b) (hs : PlainIx b := by exact fun _ _ => rfl) :
    QE cl X W (x2 p f g) (.Subscript a b pos) := ⟨(pe_ix ho ha.pe hb.pe hs).imp fun σ H Q h => tq2 ne o h⟩

/-! ### tests -/
/-- the truth of a value -/
def pTru : PV → R Bool
  | .non => .ok false
  | .bl b => .ok b
  | .int i => .ok (i != 0)
  | .str y => if y.length ≤ sizeLine then .ok ((y.length : Int) != 0) else .no
  | .lst xs => .ok (!xs.isEmpty)
  | .tup xs => .ok (!xs.isEmpty)
  | _ => .no
theorem RpL.isEmpty {T : Tb} {F : Hp} {xs : List PV} {vs : List V} (h : RpL T F xs vs) : vs.isEmpty = xs.isEmpty := by
  cases xs with
  | nil => simp only [RpL] at h; subst h; rfl
  | cons x xs => simp only [RpL] at h; obtain ⟨v, ws, rfl, _⟩ := h; rfl
/-- readable lists, tuples -/
theorem Rv.lst {T : Tb} {F H : Hp} {xs : List PV} {v : V} (h : Rv T F H (.lst xs) v) (s : Same F H) : ∃ a vs, v = .ref a ∧ SqL T.K H a vs ∧ RpL T F xs vs := by
  obtain ⟨m, A, h⟩ := h
  cases m with
  | fz =>
    simp only [OwM, Rp] at h
    obtain ⟨⟨a, vs, rfl, q, r⟩, _⟩ := h
    exact ⟨a, vs, rfl, .inl (rd_mono s q), r⟩
  | ow =>
    simp only [OwM] at h
    obtain ⟨a, rfl, _, vs, q, r⟩ := h
    exact ⟨a, vs, rfl, SqL.of q, r⟩
  | ob ms => simp [OwM] at h
theorem Rv.tup {T : Tb} {F H : Hp} {xs : List PV} {v : V} (h : Rv T F H (.tup xs) v) (s : Same F H) : ∃ a vs, v = .ref a ∧ H a = some (.tup vs) ∧ RpL T F xs vs := by
  obtain ⟨m, A, h⟩ := h
  cases m with
  | fz =>
    simp only [OwM, Rp] at h
    obtain ⟨⟨a, vs, rfl, q, r⟩, _⟩ := h
    exact ⟨a, vs, rfl, s _ _ q, r⟩
  | ow => simp [OwM] at h
  | ob ms => simp [OwM] at h
theorem Rv.dct {T : Tb} {F H : Hp} {t kvs} {v : V} (h : Rv T F H (.dct t kvs) v) (s : Same F H) : ∃ a ks, v = .ref a ∧ DctAt H a t ks ∧ RpD T F kvs ks := by
  obtain ⟨m, A, h⟩ := h
  cases m with
  | fz =>
    simp only [OwM, Rp] at h
    obtain ⟨⟨a, vs, rfl, q, r⟩, _⟩ := h
    exact ⟨a, vs, rfl, q.mono (s a), r⟩
  | ow =>
    simp only [OwM] at h
    obtain ⟨a, rfl, _, vs, q, r⟩ := h
    exact ⟨a, vs, rfl, q, r⟩
  | ob ms => simp [OwM] at h
theorem Rv.set {T : Tb} {F H : Hp} {xs} {v : V} (h : Rv T F H (.set xs) v) (s : Same F H) : ∃ a, v = .ref a ∧ SetAt H a xs := by
  obtain ⟨m, A, h⟩ := h
  cases m with
  | fz =>
    simp only [OwM, Rp] at h
    obtain ⟨⟨a, rfl, q⟩, _⟩ := h
    exact ⟨a, rfl, SetAt.mono (s a) q⟩
  | ow =>
    simp only [OwM] at h
    obtain ⟨a, rfl, _, q⟩ := h
    exact ⟨a, rfl, q⟩
  | ob ms => simp [OwM] at h
theorem Rv.obj {T : Tb} {F H : Hp} {c fs} {v : V} (h : Rv T F H (.obj c fs) v) (s : Same F H) : ∃ a C dx vs, v = .ref a ∧ T.cl c = some C ∧ H a = some (.ins C dx vs) := by
  obtain ⟨m, A, h⟩ := h
  cases m with
  | fz =>
    simp only [OwM, Rp] at h
    obtain ⟨⟨a, C, dx, vs, rfl, q, r, _⟩, _⟩ := h
    exact ⟨a, C, dx, vs, rfl, q, s _ _ r⟩
  | ow => simp [OwM] at h
  | ob ms =>
    simp only [OwM] at h
    obtain ⟨a, C, dx, vs, _, rfl, _, q, r, _⟩ := h
    exact ⟨a, C, dx, vs, rfl, r, q⟩
/-- scalars -/
theorem Rv.non {T : Tb} {F H : Hp} {v : V} (h : Rv T F H .non v) : v = .non := by
  obtain ⟨m, A, h⟩ := h
  cases m <;> simp [OwM, Rp] at h; exact h.1
theorem Rv.bl {T : Tb} {F H : Hp} {v : V} {b} (h : Rv T F H (.bl b) v) : v = .bl b := by
  obtain ⟨m, A, h⟩ := h
  cases m <;> simp [OwM, Rp] at h; exact h.1
theorem Rv.int {T : Tb} {F H : Hp} {v : V} {b} (h : Rv T F H (.int b) v) : v = .int b := by
  obtain ⟨m, A, h⟩ := h
  cases m <;> simp [OwM, Rp] at h; exact h.1
theorem Rv.str {T : Tb} {F H : Hp} {v : V} {b} (h : Rv T F H (.str b) v) : v = .str b := by
  obtain ⟨m, A, h⟩ := h
  cases m <;> simp [OwM, Rp] at h; exact h.1
theorem pTru_ok {F H : Hp} {x : PV} {v : V} {b : Bool} (s : Same F H) (h : Rv ⟨X.K, cl⟩ F H x v) (e : pTru x = .ok b) : TruV X.K v H b := by
  cases x with
  | non => rw [h.non]; simp only [pTru, R.ok.injEq] at e; exact e.symm
  | bl c => rw [h.bl]; simp only [pTru, R.ok.injEq] at e; exact e.symm
  | int c => rw [h.int]; simp only [pTru, R.ok.injEq] at e; exact e.symm
  | str c =>
    rw [h.str]
    simp only [pTru] at e
    split at e
    · simp only [R.ok.injEq] at e; exact ⟨by assumption, e.symm⟩
    · cases e
  | lst xs =>
    obtain ⟨a, vs, rfl, q, r⟩ := h.lst s
    simp only [pTru, R.ok.injEq] at e
    exact .inl ⟨vs, q, by rw [r.isEmpty]; exact e.symm⟩
  | tup xs =>
    obtain ⟨a, vs, rfl, q, r⟩ := h.tup s
    simp only [pTru, R.ok.injEq] at e
    exact .inr (.inl ⟨vs, SqT.of q, by rw [r.isEmpty]; exact e.symm⟩)
  | _ => simp [pTru] at e
def xT (f : Ex) : Env → R Bool := fun γ => (f γ).bind fun l => pTru l.x
theorem pTru_ne (x : PV) (e : Xc) : pTru x ≠ .er e := by
  cases x <;> simp [pTru]
  split <;> simp
/-- an expression of any kind as a test -/
theorem qt_val {e : Expr} {f : Ex} (h : QE cl X W f e) (he : ∀ whole, isTrue e X.env whole = (do let v ← whole; standAt e.pos; holding [v] (truthy v)) := by intro _; rfl) : QT cl X W (xT f) e := by
  refine ⟨(pt_truth h.pe he).imp fun σ H Q h => ?_⟩
  obtain ⟨F, A, γ, rel, h⟩ := h
  refine ⟨F, A, γ, rel, ?_⟩
  unfold xT at h
  cases e : f γ with
  | no => rw [e] at h; exact h
  | er x => rw [e] at h; exact h
  | ok l =>
    rw [e] at h
    simp only [R.bind_ok] at h
    intro F1 H1 v e1 r1
    cases e' : pTru l.x with
    | no => rw [e'] at h; exact h.elim
    | er x => exact (pTru_ne _ _ e').elim
    | ok b =>
      rw [e'] at h
      exact ⟨b, pTru_ok e1.sub r1.rv e', h F1 H1 e1⟩
end
end Z
/-! the pure layer, part D: arguments, displays, and/or/not, if-expressions, chains, operators -/
namespace Z
open PySem L2
def sm (n : Nat) : Bool := decide (n ≤ 16777216)
theorem sm_le {n : Nat} (h : sm n = true) : n ≤ sizeLine := by
  rw [sizeLine_eq]; exact of_decide_eq_true h
theorem RvL.length {T : Tb} {F H : Hp} : ∀ {xs : List PV} {vs : List V}, RvL T F H xs vs → vs.length = xs.length
  | [], _, h => by simp only [RvL] at h; subst h; rfl
  | x :: xs, _, h => by
    simp only [RvL] at h
    obtain ⟨v, ws, rfl, _, q⟩ := h
    simp [RvL.length q]
theorem RvL.one {T : Tb} {F H : Hp} {x : PV} {vs : List V} (h : RvL T F H [x] vs) : ∃ v, vs = [v] ∧ Rv T F H x v := by
  simp only [RvL] at h
  obtain ⟨v, ws, rfl, p, rfl⟩ := h
  exact ⟨v, rfl, p⟩
theorem RvL.two {T : Tb} {F H : Hp} {x y : PV} {vs : List V} (h : RvL T F H [x, y] vs) : ∃ v w, vs = [v, w] ∧ Rv T F H x v ∧ Rv T F H y w := by
  simp only [RvL] at h
  obtain ⟨v, ws, rfl, p, w, ws', rfl, q, rfl⟩ := h
  exact ⟨v, w, rfl, p, q⟩

/-- what may be kept -/
def Vl.keep : Vl → R PV
  | .fr _ x => .ok x
  | .pk .fz x => .ok x
  | .pk _ _ => .no
@[simp] theorem Vl.keep_fr (m x) : (Vl.fr m x).keep = .ok x := rfl
@[simp] theorem Vl.keep_fz (x) : (Vl.pk .fz x).keep = .ok x := rfl
theorem Vl.keep_ne (l : Vl) (e : Xc) : l.keep ≠ .er e := by
  cases l with
  | fr m x => simp [Vl.keep]
  | pk m x => cases m <;> simp [Vl.keep]
/-- kept: frozen -/
theorem keep_ok {T : Tb} {F H F1 H1 : Hp} {A : List Addr} {l : Vl} {v : V} {x : PV} (r : VlR T F1 H1 H A l v) (e1 : Ext F H F1 H1) (e : l.keep = .ok x) : ∃ F2, Ext F H F2 H1 ∧ Same F1 F2 ∧ Rp T F2 x v := by
  cases l with
  | fr m y =>
    simp only [Vl.keep_fr, R.ok.injEq] at e
    subst e
    obtain ⟨Ar, h1, h2, h3⟩ := r
    have d : ∀ a ∈ Ar, F1 a = none := fun a ha => (h3 a ha).2
    refine ⟨frz F1 H1 Ar, ⟨frz_sub e1.sub, e1.fle.trans (frz_same d), e1.hle, fun a o h => ?_⟩, frz_same d, OwM.freeze (frz_same d) m h1 fun a ha o h => frz_at ha h⟩
    by_cases ha : a ∈ Ar
    · exact .inr (h3 a ha).1
    · rw [frz_out ha] at h; exact e1.new a o h
  | pk m y =>
    cases m with
    | fz =>
      simp only [Vl.keep_fz, R.ok.injEq] at e
      subst e
      obtain ⟨Ai, h1, _⟩ := r
      simp only [OwM] at h1
      exact ⟨F1, e1, Same.refl _, h1.1⟩
    | ow => simp [Vl.keep] at e
    | ob ms => simp [Vl.keep] at e

section
variable {X : Cx} {cl : String → Option Addr} {W : WX}

/-! ### argument lists -/
def aNil : Env → R (List PV) := fun _ => .ok []
def aCons (f : Ex) (fs : Env → R (List PV)) : Env → R (List PV) := fun γ => (f γ).bind fun l => (fs γ).bind fun xs => .ok (l.x :: xs)
def zCons (f : Ex) (fs : Env → R (List PV)) : Env → R (List PV) := fun γ => (f γ).bind fun l => l.keep.bind fun x => (fs γ).bind fun xs => .ok (x :: xs)
theorem qa_nil : QA cl X W aNil [] := ⟨pa_nil.imp fun σ H Q h => by
  obtain ⟨F, A, γ, rel, h⟩ := h
  exact h F H [] (Ext.refl rel.sub) rfl⟩
theorem qz_nil : QZ cl X W aNil [] := ⟨pa_nil.imp fun σ H Q h => by
  obtain ⟨F, A, γ, rel, h⟩ := h
  exact h F H [] (Ext.refl rel.sub) RpL.nil⟩
theorem qa_cons {f fs} {e : Expr} {es : List Expr} (he : QE cl X W f e) (ht : QA cl X W fs es) (hs : starEach (e :: es) X.env = (false, eval e X.env) :: starEach es X.env := by rfl) : QA cl X W (aCons f fs) (e :: es) := by
  refine ⟨(pa_cons he.pe ht.pa hs).imp fun σ H Q h => ?_⟩
  obtain ⟨F, A, γ, rel, h⟩ := h
  refine ⟨F, A, γ, rel, ?_⟩
  unfold aCons at h
  cases e : f γ with
  | no => rw [e] at h; exact h
  | er x => rw [e] at h; exact h
  | ok l =>
    rw [e] at h
    simp only [R.bind_ok] at h
    intro F1 H1 v e1 r1
    refine ⟨F1, A, γ, rel.ext e1, ?_⟩
    cases e' : fs γ with
    | no => rw [e'] at h; exact h
    | er x => rw [e'] at h; exact fun F' H' c d ex => h F' H' c d (e1.trans ex)
    | ok xs =>
      rw [e'] at h
      simp only [R.bind_ok] at h
      intro F2 H2 vs e2 r2
      exact h F2 H2 (v :: vs) (e1.trans e2) ⟨v, vs, rfl, r1.rv.ext e2, r2⟩
theorem qz_cons {f fs} {e : Expr} {es : List Expr} (he : QE cl X W f e) (ht : QZ cl X W fs es) (hs : starEach (e :: es) X.env = (false, eval e X.env) :: starEach es X.env := by rfl) : QZ cl X W (zCons f fs) (e :: es) := by
  refine ⟨(pa_cons he.pe ht.pa hs).imp fun σ H Q h => ?_⟩
  obtain ⟨F, A, γ, rel, h⟩ := h
  refine ⟨F, A, γ, rel, ?_⟩
  unfold zCons at h
  cases e : f γ with
  | no => rw [e] at h; exact h
  | er x => rw [e] at h; exact h
  | ok l =>
    rw [e] at h
    simp only [R.bind_ok] at h
    intro F1 H1 v e1 r1
    cases ek : l.keep with
    | no => rw [ek] at h; exact h.elim
    | er x => exact (l.keep_ne _ ek).elim
    | ok x =>
      rw [ek] at h
      simp only [R.bind_ok] at h
      obtain ⟨F2, e2, s2, rx⟩ := keep_ok r1 e1 ek
      refine ⟨F2, A, γ, rel.ext e2, ?_⟩
      cases e' : fs γ with
      | no => rw [e'] at h; exact h
      | er x => rw [e'] at h; exact fun F' H' c d ex => h F' H' c d (e2.trans ex)
      | ok xs =>
        rw [e'] at h
        simp only [R.bind_ok] at h
        intro F3 H3 vs e3 r3
        exact h F3 H3 (v :: vs) (e2.trans e3) (RpL.cons (rx.mono e3.fle) r3)

/-! ### displays -/
def xTup (fs : Env → R (List PV)) : Ex := fun γ => (fs γ).bind fun xs => if sm xs.length then .ok (.z (.tup xs)) else .no
def xLst (fs : Env → R (List PV)) : Ex := fun γ => (fs γ).bind fun xs => if sm xs.length then .ok (.fr .ow (.lst xs)) else .no
theorem new_tup {T : Tb} {F H : Hp} {xs : List PV} {vs : List V} {p : Addr} (s : Same F H) (np : H p = none) (r : RpL T F xs vs) : Rp T (upd F p (.tup vs)) (.tup xs) (.ref p) := by
  have nf : F p = none := s.free np
  simp only [Rp]
  exact ⟨p, vs, rfl, upd_same, RpL.mono (fun a o h => by rw [upd_ne (ne_of_none h nf)]; exact h) xs vs r⟩
theorem new_lst {T : Tb} {F H : Hp} {xs : List PV} {vs : List V} {p : Addr} (s : Same F H) (np : H p = none) (r : RpL T F xs vs) : OwM T F (upd H p (.lst vs)) .ow (.lst xs) (.ref p) [p] := by
  simp only [OwM]
  exact ⟨p, rfl, rfl, vs, upd_same, r⟩
theorem vlN_lst {T : Tb} {F H : Hp} {xs : List PV} {vs : List V} {p : Addr} (s : Same F H) (np : H p = none) (r : RpL T F xs vs) : VlN T F (upd H p (.lst vs)) H (.fr .ow (.lst xs)) (.ref p) :=
  ⟨[p], new_lst s np r, by simp, fun a ha => by
    obtain rfl : a = p := by simpa using ha
    exact ⟨np, s.free np⟩⟩
/-- a new tuple, a new list as answers -/
theorem Post.tup {T : Tb} {F H : Hp} {xs : List PV} {vs : List V} {Q : VK} {p : Addr} (s : Same F H) (np : H p = none) (r : RpL T F xs vs) (h : Post T F H (.ok (.z (.tup xs))) Q) : Q (.ref p) (upd H p (.tup vs)) :=
  h _ _ _ (Ext.newF s np) (VlN.z (new_tup s np r))
theorem Post.lst {T : Tb} {F H : Hp} {xs : List PV} {vs : List V} {Q : VK} {p : Addr} (s : Same F H) (np : H p = none) (r : RpL T F xs vs) (h : Post T F H (.ok (.fr .ow (.lst xs))) Q) : Q (.ref p) (upd H p (.lst vs)) :=
  h _ _ _ (Ext.newO s np) (vlN_lst s np r)
theorem q_tup {fs} {es : List Expr} {x1} {pos : Pos} (h : QZ cl X W fs es) : QE cl X W (xTup fs) (.Tuple es x1 pos) := by
  refine ⟨(pe_tup h.pa).imp fun σ H Q h => ?_⟩
  obtain ⟨F, A, γ, rel, h⟩ := h
  refine ⟨F, A, γ, rel, ?_⟩
  unfold xTup at h
  cases e : fs γ with
  | no => rw [e] at h; exact h
  | er x => rw [e] at h; exact h
  | ok xs =>
    rw [e] at h
    simp only [R.bind_ok] at h
    intro F1 H1 vs e1 r1
    cases z : sm xs.length with
    | false => rw [z] at h; exact h.elim
    | true =>
      rw [z] at h
      refine ⟨by rw [r1.length]; exact sm_le z, fun p np => ?_⟩
      exact h _ _ _ (e1.trans (Ext.newF e1.sub np)) (VlR.zz (new_tup e1.sub np r1))
theorem q_lst {fs} {es : List Expr} {pos : Pos} (h : QZ cl X W fs es) : QE cl X W (xLst fs) (.List es pos) := by
  refine ⟨(pe_lst h.pa).imp fun σ H Q h => ?_⟩
  obtain ⟨F, A, γ, rel, h⟩ := h
  refine ⟨F, A, γ, rel, ?_⟩
  unfold xLst at h
  cases e : fs γ with
  | no => rw [e] at h; exact h
  | er x => rw [e] at h; exact h
  | ok xs =>
    rw [e] at h
    simp only [R.bind_ok] at h
    intro F1 H1 vs e1 r1
    cases z : sm xs.length with
    | false => rw [z] at h; exact h.elim
    | true =>
      rw [z] at h
      refine ⟨by rw [r1.length]; exact sm_le z, fun p np => ?_⟩
      exact h _ _ _ (e1.trans (Ext.newO e1.sub np)) ((vlN_lst e1.sub np r1).r e1.hle)

/-! ### and, or, not by truth -/
def xOr (f g : Ex) : Ex := fun γ => (f γ).bind fun l => (pTru l.x).bind fun b => if b then .ok l else g γ
def xAnd (f g : Ex) : Ex := fun γ => (f γ).bind fun l => (pTru l.x).bind fun b => if b then g γ else .ok l
def xNot (f : Ex) : Ex := fun γ => (f γ).bind fun l => (pTru l.x).bind fun b => .ok (.z (.bl (!b)))
theorem q_one {op} {f} {a : Expr} {pos : Pos} (h : QE cl X W f a) : QE cl X W f (.BoolOp op [a] pos) := ⟨pe_one h.pe⟩
theorem tqG {f : Ex} {σ : St} {H : Hp} {F : Hp} {A : List Addr} {γ : Env} {Q : VK} {F1 H1} (rel : Rel ⟨X.K, cl⟩ F A σ H γ) (e1 : Ext F H F1 H1)
    (h : match f γ with
      | .ok l => ∀ F' H' v, Ext F H F' H' → VlR ⟨X.K, cl⟩ F' H' H A l v → Q v H'
      | .er e => ∀ F' H' c d, Ext F H F' H' → XcR ⟨X.K, cl⟩ F' e c d → W c d σ H'
      | .no => False) : tq X.K cl W f σ H1 Q := by
  refine ⟨F1, A, γ, rel.ext e1, ?_⟩
  cases e' : f γ with
  | no => rw [e'] at h; exact h
  | er x => rw [e'] at h; exact fun F' H' c d ex => h F' H' c d (e1.trans ex)
  | ok k =>
    rw [e'] at h
    intro F2 H2 u e2 r2
    refine h F2 H2 u (e1.trans e2) ?_
    cases k with
    | fr m x => obtain ⟨Ar, h1, h2, h3⟩ := r2; exact ⟨Ar, h1, h2, fun a ha => ⟨e1.hle.free (h3 a ha).1, (h3 a ha).2⟩⟩
    | pk m x => exact r2
theorem q_or {f g} {a b : Expr} {rest : List Expr} {pos : Pos} (ha : QE cl X W f a) (hb : QE cl X W g (.BoolOp .Or (b :: rest) pos)) : QE cl X W (xOr f g) (.BoolOp .Or (a :: b :: rest) pos) := by
  refine ⟨(pe_orT ha.pe hb.pe).imp fun σ H Q h => ?_⟩
  obtain ⟨F, A, γ, rel, h⟩ := h
  refine ⟨F, A, γ, rel, ?_⟩
  unfold xOr at h
  cases e : f γ with
  | no => rw [e] at h; exact h
  | er x => rw [e] at h; exact h
  | ok l =>
    rw [e] at h
    simp only [R.bind_ok] at h
    intro F1 H1 v e1 r1
    cases et : pTru l.x with
    | no => rw [et] at h; exact h.elim
    | er x => exact (pTru_ne _ _ et).elim
    | ok b =>
      rw [et] at h
      simp only [R.bind_ok] at h
      refine ⟨b, pTru_ok e1.sub r1.rv et, ?_⟩
      cases b with
      | true => exact h F1 H1 v e1 r1
      | false => exact tqG rel e1 h
theorem q_and {f g} {a b : Expr} {rest : List Expr} {pos : Pos} (ha : QE cl X W f a) (hb : QE cl X W g (.BoolOp .And (b :: rest) pos)) : QE cl X W (xAnd f g) (.BoolOp .And (a :: b :: rest) pos) := by
  refine ⟨(pe_andT ha.pe hb.pe).imp fun σ H Q h => ?_⟩
  obtain ⟨F, A, γ, rel, h⟩ := h
  refine ⟨F, A, γ, rel, ?_⟩
  unfold xAnd at h
  cases e : f γ with
  | no => rw [e] at h; exact h
  | er x => rw [e] at h; exact h
  | ok l =>
    rw [e] at h
    simp only [R.bind_ok] at h
    intro F1 H1 v e1 r1
    cases et : pTru l.x with
    | no => rw [et] at h; exact h.elim
    | er x => exact (pTru_ne _ _ et).elim
    | ok b =>
      rw [et] at h
      simp only [R.bind_ok] at h
      refine ⟨b, pTru_ok e1.sub r1.rv et, ?_⟩
      cases b with
      | false => exact h F1 H1 v e1 r1
      | true => exact tqG rel e1 h
theorem q_not {f} {a : Expr} {pos : Pos} (ha : QE cl X W f a) : QE cl X W (xNot f) (.UnaryOp .Not a pos) := by
  refine ⟨(pe_notT ha.pe).imp fun σ H Q h => ?_⟩
  obtain ⟨F, A, γ, rel, h⟩ := h
  refine ⟨F, A, γ, rel, ?_⟩
  unfold xNot at h
  cases e : f γ with
  | no => rw [e] at h; exact h
  | er x => rw [e] at h; exact h
  | ok l =>
    rw [e] at h
    simp only [R.bind_ok] at h
    intro F1 H1 v e1 r1
    cases et : pTru l.x with
    | no => rw [et] at h; exact h.elim
    | er x => exact (pTru_ne _ _ et).elim
    | ok b =>
      rw [et] at h
      exact ⟨b, pTru_ok e1.sub r1.rv et, h F1 H1 _ e1 (VlR.zz (by simp [Rp]))⟩

/-! ### tests: and, or, not -/
def tAndF (t u : Env → R Bool) : Env → R Bool := fun γ => (t γ).bind fun b => if b then u γ else .ok false
def tOrF (t u : Env → R Bool) : Env → R Bool := fun γ => (t γ).bind fun b => if b then .ok true else u γ
def tNotF (t : Env → R Bool) : Env → R Bool := fun γ => (t γ).bind fun b => .ok (!b)
theorem tqTG {f : Env → R Bool} {σ : St} {H : Hp} {F : Hp} {A : List Addr} {γ : Env} {Q : Bool → Hp → Prop} {F1 H1} (rel : Rel ⟨X.K, cl⟩ F A σ H γ) (e1 : Ext F H F1 H1)
    (h : match f γ with
      | .ok b => ∀ F' H', Ext F H F' H' → Q b H'
      | .er e => ∀ F' H' c d, Ext F H F' H' → XcR ⟨X.K, cl⟩ F' e c d → W c d σ H'
      | .no => False) : tqT X.K cl W f σ H1 Q := by
  refine ⟨F1, A, γ, rel.ext e1, ?_⟩
  cases e' : f γ with
  | no => rw [e'] at h; exact h
  | er x => rw [e'] at h; exact fun F' H' c d ex => h F' H' c d (e1.trans ex)
  | ok k => rw [e'] at h; exact fun F2 H2 e2 => h F2 H2 (e1.trans e2)
theorem qw_pt {t} {e : Expr} (h : QW cl X W t e) : QT cl X W t e := ⟨h.pw.pt⟩
theorem qw_and1 {t} {a : Expr} {pos : Pos} (h : QT cl X W t a) : QW cl X W t (.BoolOp .And [a] pos) := ⟨pw_and1 h.pt⟩
theorem qw_or1 {t} {a : Expr} {pos : Pos} (h : QT cl X W t a) : QW cl X W t (.BoolOp .Or [a] pos) := ⟨pw_or1 h.pt⟩
theorem qw_and {t u} {a b : Expr} {rest : List Expr} {pos : Pos} (ha : QT cl X W t a) (hb : QW cl X W u (.BoolOp .And (b :: rest) pos)) : QW cl X W (tAndF t u) (.BoolOp .And (a :: b :: rest) pos) := by
  refine ⟨(pw_and ha.pt hb.pw).imp fun σ H Q h => ?_⟩
  obtain ⟨F, A, γ, rel, h⟩ := h
  refine ⟨F, A, γ, rel, ?_⟩
  unfold tAndF at h
  cases e : t γ with
  | no => rw [e] at h; exact h
  | er x => rw [e] at h; exact h
  | ok l =>
    rw [e] at h
    simp only [R.bind_ok] at h
    intro F1 H1 e1
    cases l with
    | false => exact h F1 H1 e1
    | true => exact tqTG rel e1 h
theorem qw_or {t u} {a b : Expr} {rest : List Expr} {pos : Pos} (ha : QT cl X W t a) (hb : QW cl X W u (.BoolOp .Or (b :: rest) pos)) : QW cl X W (tOrF t u) (.BoolOp .Or (a :: b :: rest) pos) := by
  refine ⟨(pw_or ha.pt hb.pw).imp fun σ H Q h => ?_⟩
  obtain ⟨F, A, γ, rel, h⟩ := h
  refine ⟨F, A, γ, rel, ?_⟩
  unfold tOrF at h
  cases e : t γ with
  | no => rw [e] at h; exact h
  | er x => rw [e] at h; exact h
  | ok l =>
    rw [e] at h
    simp only [R.bind_ok] at h
    intro F1 H1 e1
    cases l with
    | true => exact h F1 H1 e1
    | false => exact tqTG rel e1 h
theorem qt_not {t} {a : Expr} {pos : Pos} (ha : QT cl X W t a) : QT cl X W (tNotF t) (.UnaryOp .Not a pos) := by
  refine ⟨(pt_not ha.pt).imp fun σ H Q h => ?_⟩
  obtain ⟨F, A, γ, rel, h⟩ := h
  refine ⟨F, A, γ, rel, ?_⟩
  unfold tNotF at h
  cases e : t γ with
  | no => rw [e] at h; exact h
  | er x => rw [e] at h; exact h
  | ok l => rw [e] at h; exact h
def xIf (t : Env → R Bool) (f g : Ex) : Ex := fun γ => (t γ).bind fun b => if b then f γ else g γ
theorem q_if {t f g} {c a b : Expr} {pos : Pos} (hc : QT cl X W t c) (ha : QE cl X W f a) (hb : QE cl X W g b) : QE cl X W (xIf t f g) (.IfExp c a b pos) := by
  refine ⟨(pe_ifExp hc.pt ha.pe hb.pe).imp fun σ H Q h => ?_⟩
  obtain ⟨F, A, γ, rel, h⟩ := h
  refine ⟨F, A, γ, rel, ?_⟩
  unfold xIf at h
  cases e : t γ with
  | no => rw [e] at h; exact h
  | er x => rw [e] at h; exact h
  | ok l =>
    rw [e] at h
    simp only [R.bind_ok] at h
    intro F1 H1 e1
    cases l with
    | true => exact tqG rel e1 h
    | false => exact tqG rel e1 h

/-! ### comparisons, chains -/
def pb (p : PV → PV → R Bool) : PV → PV → R Vl := fun x y => (p x y).map fun b => .z (.bl b)
def NoErB (p : PV → PV → R Bool) : Prop := ∀ x y e, p x y ≠ .er e
theorem pb_ne {p} (h : NoErB p) : NoEr2 (pb p) := fun x y e z => by
  unfold pb at z
  cases q : p x y with
  | ok b => rw [q] at z; cases z
  | no => rw [q] at z; cases z
  | er e' => exact h x y e' q
def xChain (p p' : PV → PV → R Bool) (f g h : Ex) : Ex := fun γ => (f γ).bind fun l => (g γ).bind fun k => (p l.x k.x).bind fun b => if b then (h γ).bind fun j => pb p' k.x j.x else .ok (.z (.bl false))
theorem tqChain {p p' : PV → PV → R Bool} {r r' : R2} {f g h : Ex} (n : NoErB p) (n' : NoErB p') (o : Op2 X cl (pb p) r) (o' : Op2 X cl (pb p') r') {σ : L2.St} {H : Hp} {Q : VK} (hh : tq X.K cl W (xChain p p' f g h) σ H Q) : tChain r r' (tq X.K cl W f) (tq X.K cl W g) (tq X.K cl W h) σ H Q := by
  refine tq.bind (g := fun l γ => (g γ).bind fun k => (p l.x k.x).bind fun b => if b then (h γ).bind fun j => pb p' k.x j.x else .ok (.z (.bl false))) hh fun F A γ l F1 H1 v rel e e1 r1 hh => ?_
  refine ⟨F1, A, γ, rel.ext e1, ?_⟩
  cases e' : g γ with
  | no => rw [e'] at hh; exact hh
  | er x => rw [e'] at hh; exact hh
  | ok k =>
    rw [e'] at hh
    simp only [R.bind_ok] at hh
    intro F2 H2 u e2 r2
    refine o F2 H2 l.x k.x v u _ e2.sub (r1.rv.ext e2) r2.rv ?_
    cases e3 : p l.x k.x with
    | no => rw [e3] at hh; exact hh.elim
    | er x => exact (n _ _ _ e3).elim
    | ok b =>
      rw [e3] at hh
      simp only [pb, e3, R.map]
      simp only [R.bind_ok] at hh
      intro F3 H3 w e4 rw'
      have ew : w = .bl b := by
        obtain ⟨Ar, q, _⟩ := rw'
        simp [OwM, Rp] at q
        exact q.1
      refine ⟨b, ew, ?_⟩
      cases b with
      | false => exact hh F3 H3 _ (e2.trans e4) (VlR.zz (by simp [Rp]))
      | true =>
        refine ⟨F3, A, γ, (rel.ext e1).ext (e2.trans e4), ?_⟩
        cases e5 : h γ with
        | no => rw [e5] at hh; exact hh
        | er x => rw [e5] at hh; exact fun F' H' c d ex => hh F' H' c d ((e2.trans e4).trans ex)
        | ok j =>
          rw [e5] at hh
          simp only [R.bind_ok] at hh
          intro F5 H5 z e6 r6
          refine o' F5 H5 k.x j.x u z Q e6.sub (r2.rv.ext (e4.trans e6)) r6.rv ?_
          simp only [↓reduceIte, R.bind_ok] at hh
          cases e7 : pb p' k.x j.x with
          | no => rw [e7] at hh; exact hh
          | er x => exact (pb_ne n' _ _ _ e7).elim
          | ok l' =>
            rw [e7] at hh
            exact fun F' H' w ex nn => hh F' H' w ((e2.trans e4).trans (e6.trans ex)) (nn.r ((e1.trans (e2.trans e4)).hle.trans e6.hle))

theorem q_chain {op op' : CmpOp} {p p' : PV → PV → R Bool} {r r' : R2} {a b c : Expr} {pos : Pos} {f g h : Ex} (ho : OpR X (compareOp op) r) (ho' : OpR X (compareOp op') r') (n : NoErB p) (n' : NoErB p') (o : Op2 X cl (pb p) r) (o' : Op2 X cl (pb p') r')
    (ha : QE cl X W f a) (hb : QE cl X W g b) (hc : QE cl X W h c) (k : PE X (.Compare a [op, op'] [b, c] pos) (tChain r r' (tq X.K cl W f) (tq X.K cl W g) (tq X.K cl W h))) : QE cl X W (xChain p p' f g h) (.Compare a [op, op'] [b, c] pos) := ⟨k.imp fun σ H Q hh => tqChain n n' o o' hh⟩
/-! ### built-ins by values -/
def OpL (X : Cx) (cl : String → Option Addr) (p : List PV → R Vl) (r : List V → Hp → VK → Prop) : Prop :=
  ∀ F H xs vs Q, Same F H → RvL ⟨X.K, cl⟩ F H xs vs → Post ⟨X.K, cl⟩ F H (p xs) Q → r vs H Q
def NoErL (p : List PV → R Vl) : Prop := ∀ x e, p x ≠ .er e
def xB (p : List PV → R Vl) (fs : Env → R (List PV)) : Ex := fun γ => (fs γ).bind p
theorem tqB {p : List PV → R Vl} {r} {fs} (n : NoErL p) (o : OpL X cl p r) {σ H Q} (h : tq X.K cl W (xB p fs) σ H Q) : tCB r (tqA X.K cl W fs) σ H Q := by
  obtain ⟨F, A, γ, rel, h⟩ := h
  refine ⟨F, A, γ, rel, ?_⟩
  unfold xB at h
  cases e : fs γ with
  | no => rw [e] at h; exact h
  | er x => rw [e] at h; exact h
  | ok l =>
    rw [e] at h
    simp only [R.bind_ok] at h
    intro F1 H1 vs e1 r1
    refine o F1 H1 l vs Q e1.sub r1 ?_
    cases e' : p l with
    | no => rw [e'] at h; exact h
    | er x => exact (n _ _ e').elim
    | ok l' =>
      rw [e'] at h
      exact fun F' H' w ex nn => h F' H' w (e1.trans ex) (nn.r e1.hle)
theorem q_callB {x : Str} {id : String} {p : List PV → R Vl} {r} {fs} {e : Expr} {es : List Expr} {p1 pos : Pos} (hc : CallR X (.builtin id) r) (n : NoErL p) (o : OpL X cl p r) (hv : bootBuiltins x = some (.builtin id)) (hg : Gl X x) (hm : X.mg x = none)
    (ha : QA cl X W fs (e :: es)) (hn : x ≠ "__name__" := by decide) (hdb : (x == ("__debug__" : Str)) = false := by decide)
    (he : starEach (e :: es) X.env = (false, eval e X.env) :: starEach es X.env := by rfl) (hpl : (backTo pos (starEach es X.env)).any (·.1) = false := by rfl) : QE cl X W (xB p fs) (.Call (.Name x p1) (e :: es) [] pos) :=
  ⟨(pe_callB hc hg hm hv ha.pa hn hdb he hpl).imp fun _ _ _ h => tqB n o h⟩
theorem q_callTy {x : Str} {id : String} {p : List PV → R Vl} {r} {fs} {e : Expr} {es : List Expr} {p1 pos : Pos} (hc : CallR X (.type id) r) (n : NoErL p) (o : OpL X cl p r) (hv : bootBuiltins x = some (.type id)) (hg : Gl X x) (hm : X.mg x = none)
    (ha : QA cl X W fs (e :: es)) (hn : x ≠ "__name__" := by decide) (hdb : (x == ("__debug__" : Str)) = false := by decide)
    (he : starEach (e :: es) X.env = (false, eval e X.env) :: starEach es X.env := by rfl) (hpl : (backTo pos (starEach es X.env)).any (·.1) = false := by rfl) : QE cl X W (xB p fs) (.Call (.Name x p1) (e :: es) [] pos) :=
  ⟨(pe_callTy hc hg hm hv ha.pa hn hdb he hpl).imp fun _ _ _ h => tqB n o h⟩
end
end Z
/-! the pure layer, part E: the operators by values -/
namespace Z
open PySem L2

/-! ### equality of data -/
mutual
def peq : PV → PV → Bool
  | .non, .non => true
  | .bl a, .bl b => a == b
  | .bl a, .int b => (if a then 1 else 0) == b
  | .int a, .bl b => a == (if b then 1 else 0)
  | .int a, .int b => a == b
  | .str a, .str b => a == b
  | .tup xs, .tup ys => peqL xs ys
  | .lst xs, .lst ys => peqL xs ys
  | _, _ => false
def peqL : List PV → List PV → Bool
  | [], [] => true
  | x :: xs, y :: ys => peq x y && peqL xs ys
  | _, _ => false
end
mutual
def toD : PV → PyData
  | .bl b => .bool b
  | .int i => .int i
  | .str x => .str x
  | .tup xs => .tuple (toDL xs)
  | .lst xs => .list (toDL xs)
  | _ => .none
def toDL : List PV → List PyData
  | [] => []
  | x :: xs => toD x :: toDL xs
end
mutual
/-- data of a depth: no dicts, sets, instances in it -/
def isD : Nat → PV → Bool
  | _, .non => true
  | _, .bl _ => true
  | _, .int _ => true
  | _, .str x => PyData.strOk x
  | n, .tup xs => isDL n xs
  | n, .lst xs => isDL n xs
  | _, _ => false
def isDL : Nat → List PV → Bool
  | 0, _ => false
  | _ + 1, [] => true
  | n + 1, x :: xs => isD n x && isDL (n + 1) xs
end
mutual
theorem dp_of {T : Tb} {F H : Hp} (s : Same F H) : (x : PV) → ∀ {n v}, Rp T F x v → isD n x = true → Dp T.K H v (toD x) ∧ (toD x).canLay0 = true ∧ (toD x).depth ≤ n
  | .non, n, v, h, d => by simp only [Rp] at h; subst h; exact ⟨.non, by simp [toD, PyData.canLay0], by simp [toD, PyData.depth]⟩
  | .bl b, n, v, h, d => by simp only [Rp] at h; subst h; exact ⟨.bl b, by simp [toD, PyData.canLay0], by simp [toD, PyData.depth]⟩
  | .int b, n, v, h, d => by simp only [Rp] at h; subst h; exact ⟨.int b, by simp [toD, PyData.canLay0], by simp [toD, PyData.depth]⟩
  | .str b, n, v, h, d => by
    simp only [Rp] at h; subst h
    simp only [isD] at d
    exact ⟨.str b, by simpa [toD, PyData.canLay0] using d, by simp [toD, PyData.depth]⟩
  | .tup xs, n, v, h, d => by
    simp only [Rp] at h
    obtain ⟨a, vs, rfl, q, r⟩ := h
    simp only [isD] at d
    obtain ⟨h1, h2, h3⟩ := dpL_of s xs r d
    refine ⟨.tup (SqT.of (s _ _ q)) h1, by simpa [toD, PyData.canLay0] using h2, ?_⟩
    simp only [toD, PyData.depth]
    exact h3
  | .lst xs, n, v, h, d => by
    simp only [Rp] at h
    obtain ⟨a, vs, rfl, q, r⟩ := h
    simp only [isD] at d
    obtain ⟨h1, h2, h3⟩ := dpL_of s xs r d
    refine ⟨.lst (.inl (rd_mono s q)) h1, by simpa [toD, PyData.canLay0] using h2, ?_⟩
    simp only [toD, PyData.depth]
    exact h3
  | .dct _ _, n, v, h, d => by simp [isD] at d
  | .set _, n, v, h, d => by simp [isD] at d
  | .obj _ _, n, v, h, d => by simp [isD] at d
theorem dpL_of {T : Tb} {F H : Hp} (s : Same F H) : (xs : List PV) → ∀ {n vs}, RpL T F xs vs → isDL n xs = true → DpAll T.K H vs (toDL xs) ∧ PyData.canLayAll0 (toDL xs) = true ∧ PyData.depthAll (toDL xs) + 1 ≤ n
  | [], n, vs, h, d => by
    simp only [RpL] at h; subst h
    refine ⟨.nil, by simp [toDL, PyData.canLayAll0], ?_⟩
    cases n with
    | zero => simp [isDL] at d
    | succ n => simp [toDL, PyData.depthAll]
  | x :: xs, n, vs, h, d => by
    simp only [RpL] at h
    obtain ⟨v, ws, rfl, p, q⟩ := h
    cases n with
    | zero => simp [isDL] at d
    | succ n =>
      simp only [isDL, Bool.and_eq_true] at d
      obtain ⟨h1, h2, h3⟩ := dp_of s x p d.1
      obtain ⟨k1, k2, k3⟩ := dpL_of s xs q d.2
      refine ⟨.cons h1 k1, by simp [toDL, PyData.canLayAll0, h2, k2], ?_⟩
      simp only [toDL, PyData.depthAll]
      omega
end
mutual
theorem eqv_toD : (x y : PV) → ∀ {n m}, isD n x = true → isD m y = true → PyData.eqv (toD x) (toD y) = peq x y
  | .tup xs, y, n, m, h, k => by
    simp only [isD] at h
    cases y <;> simp_all [toD, peq, isD, PyData.eqv]
    exact eqvL_toD xs _ h k
  | .lst xs, y, n, m, h, k => by
    simp only [isD] at h
    cases y <;> simp_all [toD, peq, isD, PyData.eqv]
    exact eqvL_toD xs _ h k
  | .non, y, n, m, h, k => by cases y <;> simp_all [toD, peq, isD, PyData.eqv]
  | .bl b, y, n, m, h, k => by cases y <;> simp_all [toD, peq, isD, PyData.eqv]
  | .int b, y, n, m, h, k => by cases y <;> simp_all [toD, peq, isD, PyData.eqv]
  | .str b, y, n, m, h, k => by cases y <;> simp_all [toD, peq, isD, PyData.eqv]
  | .dct _ _, y, n, m, h, k => by simp [isD] at h
  | .set _, y, n, m, h, k => by simp [isD] at h
  | .obj _ _, y, n, m, h, k => by simp [isD] at h
theorem eqvL_toD : (xs ys : List PV) → ∀ {n m}, isDL n xs = true → isDL m ys = true → PyData.eqvAll (toDL xs) (toDL ys) = peqL xs ys
  | [], ys, n, m, h, k => by cases ys <;> simp [toDL, peqL, PyData.eqvAll]
  | x :: xs, [], n, m, h, k => by simp [toDL, peqL, PyData.eqvAll]
  | x :: xs, y :: ys, n, m, h, k => by
    cases n with
    | zero => simp [isDL] at h
    | succ n =>
      cases m with
      | zero => simp [isDL] at k
      | succ m =>
        simp only [isDL, Bool.and_eq_true] at h k
        simp only [toDL, peqL, PyData.eqvAll]
        rw [eqv_toD x y h.1 k.1, eqvL_toD xs ys h.2 k.2]
end
theorem dp_rv {T : Tb} {F H : Hp} (s : Same F H) {x : PV} {v : V} {n : Nat} (h : Rv T F H x v) (d : isD n x = true) (hn : n ≤ 64) : Dp T.K H v (toD x) ∧ SeqAt.shaped (toD x) = true := by
  have fin : ∀ {k : PyData}, k.canLay0 = true → k.depth ≤ n → SeqAt.shaped k = true := fun c e => by
    unfold SeqAt.shaped
    rw [c, Bool.true_and]
    exact decide_eq_true (Nat.le_trans e hn)
  obtain ⟨m, A, hm⟩ := h
  cases m with
  | fz =>
    simp only [OwM] at hm
    obtain ⟨h1, h2, h3⟩ := dp_of s x hm.1 d
    exact ⟨h1, fin h2 h3⟩
  | ow =>
    simp only [OwM] at hm
    obtain ⟨a, rfl, _, hm⟩ := hm
    cases x with
    | lst xs =>
      obtain ⟨vs, q, r⟩ := hm
      simp only [isD] at d
      obtain ⟨h1, h2, h3⟩ := dpL_of s xs r d
      refine ⟨.lst (SqL.of q) h1, fin ?_ ?_⟩
      · simpa [toD, PyData.canLay0] using h2
      · simp only [toD, PyData.depth]; exact h3
    | dct _ _ => simp [isD] at d
    | set _ => simp [isD] at d
    | _ => exact hm.elim
  | ob ms =>
    simp only [OwM] at hm
    obtain ⟨a, C, dx, vs, A', _, _, _, hm⟩ := hm
    cases x <;> first | exact hm.elim | simp [isD] at d

def pEq (x y : PV) : R Bool := if isD 60 x && isD 60 y then .ok (peq x y) else .no
def pNe (x y : PV) : R Bool := if isD 60 x && isD 60 y then .ok (!peq x y) else .no
theorem pEq_ne : NoErB pEq := fun x y e h => by unfold pEq at h; split at h <;> cases h
theorem pNe_ne : NoErB pNe := fun x y e h => by unfold pNe at h; split at h <;> cases h

section
variable {X : Cx} {cl : String → Option Addr} {W : WX}
theorem Post.bl {T : Tb} {F H : Hp} {b : Bool} {Q : VK} (s : Same F H) (h : Post T F H (.ok (.z (.bl b))) Q) : Q (.bl b) H := h.of s (by simp [Rp])
theorem Post.int {T : Tb} {F H : Hp} {b : Int} {Q : VK} (s : Same F H) (h : Post T F H (.ok (.z (.int b))) Q) : Q (.int b) H := h.of s (by simp [Rp])
theorem Post.str {T : Tb} {F H : Hp} {b : Str} {Q : VK} (s : Same F H) (h : Post T F H (.ok (.z (.str b))) Q) : Q (.str b) H := h.of s (by simp [Rp])
theorem o_eq : Op2 X cl (pb pEq) (rEqD X.K) := by
  intro F H x y v u Q s rx ry h
  unfold pb pEq at h
  split at h
  · rename_i d
    rw [Bool.and_eq_true] at d
    obtain ⟨d1, s1⟩ := dp_rv s rx d.1 (by decide)
    obtain ⟨d2, s2⟩ := dp_rv s ry d.2 (by decide)
    refine ⟨_, _, d1, d2, s1, s2, ?_⟩
    rw [eqv_toD x y d.1 d.2]
    exact Post.bl s h
  · exact h.elim
theorem o_ne : Op2 X cl (pb pNe) (rNeD X.K) := by
  intro F H x y v u Q s rx ry h
  unfold pb pNe at h
  split at h
  · rename_i d
    rw [Bool.and_eq_true] at d
    obtain ⟨d1, s1⟩ := dp_rv s rx d.1 (by decide)
    obtain ⟨d2, s2⟩ := dp_rv s ry d.2 (by decide)
    refine ⟨_, _, d1, d2, s1, s2, ?_⟩
    rw [eqv_toD x y d.1 d.2]
    exact Post.bl s h
  · exact h.elim

/-! ### numbers -/
def i2 (p : Int → Int → R PV) : PV → PV → R Vl := fun x y => match x, y with
  | .int i, .int j => (p i j).map .z
  | _, _ => .no
theorem i2_ne {p : Int → Int → R PV} (h : ∀ i j e, p i j ≠ .er e) : NoEr2 (i2 p) := fun x y e z => by
  unfold i2 at z
  split at z
  · rename_i i j
    cases q : p i j with
    | ok b => rw [q] at z; cases z
    | no => rw [q] at z; cases z
    | er e' => exact h i j e' q
  · cases z
theorem o_i0 {g : Int → Int → PV} {g' : Int → Int → V} (hg : ∀ F i j, Rp ⟨X.K, cl⟩ F (g i j) (g' i j)) : Op2 X cl (i2 fun i j => .ok (g i j)) (rI0 g') := by
  intro F H x y v u Q s rx ry h
  unfold i2 at h
  split at h
  · rename_i i j
    exact ⟨i, j, rx.int, ry.int, h.of s (hg F i j)⟩
  · exact h.elim
theorem o_i {C : Int → Int → Prop} {c : Int → Int → Bool} {g : Int → Int → PV} {g' : Int → Int → V} (hc : ∀ i j, c i j = true → C i j) (hg : ∀ F i j, Rp ⟨X.K, cl⟩ F (g i j) (g' i j)) : Op2 X cl (i2 fun i j => if c i j then .ok (g i j) else .no) (rI C g') := by
  intro F H x y v u Q s rx ry h
  unfold i2 at h
  split at h
  · rename_i i j
    cases z : c i j with
    | false => simp [z, R.map, Post] at h
    | true => simp only [z, if_true, R.map] at h; exact ⟨i, j, rx.int, ry.int, hc i j z, h.of s (hg F i j)⟩
  · exact h.elim
theorem ite_ne {α : Type} {c : Bool} {a : α} {e : Xc} : (if c then R.ok a else R.no) ≠ .er e := by cases c <;> simp

def cMul (i j : Int) : Bool := (decide (-(2 ^ 64) < i) && decide (i < 2 ^ 64)) || (decide (-(2 ^ 64) < j) && decide (j < 2 ^ 64))
def cPow (i j : Int) : Bool := decide (0 ≤ j) && decide (j ≤ 1000000) && decide (i.natAbs < 2 ^ 64)
def cDiv (_ j : Int) : Bool := decide (0 < j) && decide (j.natAbs.log2 < 9000)
def pAddI : PV → PV → R Vl := i2 fun i j => .ok (.int (i + j))
def pSub : PV → PV → R Vl := i2 fun i j => .ok (.int (i - j))
def pMulI : PV → PV → R Vl := i2 fun i j => if cMul i j then .ok (.int (i * j)) else .no
def pMod : PV → PV → R Vl := i2 fun i j => if decide (0 < j) then .ok (.int (i % j)) else .no
def pDiv : PV → PV → R Vl := i2 fun i j => if cDiv i j then .ok (.int (i / j)) else .no
def pPow : PV → PV → R Vl := i2 fun i j => if cPow i j then .ok (.int (i ^ j.toNat)) else .no
def pShl : PV → PV → R Vl := i2 fun i j => if cPow i j then .ok (.int (i * 2 ^ j.toNat)) else .no
def pShr : PV → PV → R Vl := i2 fun i j => if decide (0 ≤ j) then .ok (.int (i / 2 ^ j.toNat)) else .no
def pAnd2 : PV → PV → R Vl := i2 fun i j => .ok (.int (Builtin.bitAnd i j))
theorem q_sub {a b : Expr} {pos : Pos} {f g : Ex} (ha : QE cl X W f a) (hb : QE cl X W g b) : QE cl X W (x2 pSub f g) (.BinOp a .Sub b pos) := q_op op_sub (i2_ne fun _ _ _ h => by cases h) (o_i0 fun _ _ _ => by simp [Rp]) ha hb
theorem q_mod {a b : Expr} {pos : Pos} {f g : Ex} (ha : QE cl X W f a) (hb : QE cl X W g b) : QE cl X W (x2 pMod f g) (.BinOp a .Mod b pos) := q_op op_mod (i2_ne fun _ _ _ => ite_ne) (o_i (fun _ _ h => of_decide_eq_true h) fun _ _ _ => by simp [Rp]) ha hb
theorem q_div {a b : Expr} {pos : Pos} {f g : Ex} (ha : QE cl X W f a) (hb : QE cl X W g b) : QE cl X W (x2 pDiv f g) (.BinOp a .FloorDiv b pos) := q_op op_fdivW (i2_ne fun _ _ _ => ite_ne) (o_i (fun i j h => by
  simp only [cDiv, Bool.and_eq_true, decide_eq_true_eq] at h; exact h) fun _ _ _ => by simp [Rp]) ha hb
theorem q_pow {a b : Expr} {pos : Pos} {f g : Ex} (ha : QE cl X W f a) (hb : QE cl X W g b) : QE cl X W (x2 pPow f g) (.BinOp a .Pow b pos) := q_op op_pow (i2_ne fun _ _ _ => ite_ne) (o_i (fun i j h => by
  simp only [cPow, Bool.and_eq_true, decide_eq_true_eq] at h; exact ⟨h.1.1, h.1.2, h.2⟩) fun _ _ _ => by simp [Rp]) ha hb
theorem q_shl {a b : Expr} {pos : Pos} {f g : Ex} (ha : QE cl X W f a) (hb : QE cl X W g b) : QE cl X W (x2 pShl f g) (.BinOp a .LShift b pos) := q_op op_shl (i2_ne fun _ _ _ => ite_ne) (o_i (fun i j h => by
  simp only [cPow, Bool.and_eq_true, decide_eq_true_eq] at h; exact ⟨h.1.1, h.1.2, h.2⟩) fun _ _ _ => by simp [Rp]) ha hb
theorem q_shr {a b : Expr} {pos : Pos} {f g : Ex} (ha : QE cl X W f a) (hb : QE cl X W g b) : QE cl X W (x2 pShr f g) (.BinOp a .RShift b pos) := q_op op_shr (i2_ne fun _ _ _ => ite_ne) (o_i (fun _ _ h => of_decide_eq_true h) fun _ _ _ => by simp [Rp]) ha hb
theorem q_bitand {a b : Expr} {pos : Pos} {f g : Ex} (ha : QE cl X W f a) (hb : QE cl X W g b) : QE cl X W (x2 pAnd2 f g) (.BinOp a .BitAnd b pos) := q_op op_and (i2_ne fun _ _ _ h => by cases h) (o_i0 fun _ _ _ => by simp [Rp]) ha hb
def pNeg : PV → R Vl
  | .int i => .ok (.z (.int (-i)))
  | _ => .no
theorem q_neg {a : Expr} {pos : Pos} {f : Ex} (ha : QE cl X W f a) : QE cl X W (x1 pNeg f) (.UnaryOp .USub a pos) := by
  refine q_un un_neg (fun x e h => by cases x <;> simp [pNeg] at h) (fun F H x v Q s rx h => ?_) ha
  cases x <;> first | exact h.elim | skip
  exact ⟨_, rx.int, h.int s⟩

/-! ### + and * of more than numbers -/
theorem OpR.imp {f : Value → Value → Sem Value} {r r' : R2} (h : OpR X f r) (k : ∀ x y H Q, r' x y H Q → r x y H Q) : OpR X f r' := fun pins s σ H x y v u Q I rx ry q => h pins s σ H x y v u Q I rx ry (k x y H Q q)
/-- lists, also locked ones -/
theorem _root_.L2.Inv.lstR {pins : List (Addr × Obj)} {σ : St} {H : Hp} {s : Shared} {l : Addr} {xs : List V} (I : Inv X pins σ H s) (hH : Rd H l (.lst xs)) : xs.length ≤ sizeLine ∧ ∃ (its : List Value) (n : Nat), Vals xs its ∧ xs.length = its.length ∧ s.heap.get? l = some { cls := .type "list", data := .seq its.toArray n } := by
  obtain ⟨z, its, n, r, e⟩ := hH.ok I.hok
  exact ⟨z, its, n, r, r.length, e⟩
def rCatR : R2 := fun x y H Q => ∃ l b xs zs, x = .ref l ∧ y = .ref b ∧ Rd H l (.lst xs) ∧ Rd H b (.lst zs) ∧ xs.length + zs.length ≤ sizeLine ∧ ∀ p, H p = none → Q (.ref p) (upd H p (.lst (xs ++ zs)))
theorem op_catR : OpR X (binaryOp .Add) rCatR := by
  intro pins s σ H x y v u Q I rx ry h
  obtain ⟨l, b, xs, zs, rfl, rfl, hH, hB, hz, q⟩ := h
  cases rx
  cases ry
  obtain ⟨z, its, n, r, hl, e⟩ := I.lstR hH
  obtain ⟨z2, its2, n2, r2, hl2, e2⟩ := I.lstR hB
  refine PySem.P.add_list e e2 ?_ (by rw [List.size_toArray, List.size_toArray]; omega)
  have ea : its.toArray ++ its2.toArray = (its ++ its2).toArray := by simp
  rw [ea]
  exact ⟨.ref _, _, I.lnew (t' := s.toks) (r.append r2) (by rw [List.length_append]; omega), rfl, q _ I.fresh⟩
/-- t + u of tuples; one of both empty: the other one itself -/
def rCatU : R2 := fun x y H Q => ∃ a b xs ys, x = .ref a ∧ y = .ref b ∧ H a = some (.tup xs) ∧ H b = some (.tup ys) ∧ xs.length + ys.length ≤ sizeLine ∧
  (xs = [] → Q (.ref b) H) ∧ (xs ≠ [] → ys = [] → Q (.ref a) H) ∧ (xs ≠ [] → ys ≠ [] → ∀ p, H p = none → Q (.ref p) (upd H p (.tup (xs ++ ys))))
theorem op_catU : OpR X (binaryOp .Add) rCatU := by
  intro pins s σ H x y v u Q I rx ry h
  obtain ⟨a, b, xs, ys, rfl, rfl, ha, hb, hz, q0, q1, q2⟩ := h
  by_cases hx : xs = []
  · cases rx
    cases ry
    obtain ⟨its, r1, p1, _⟩ := I.tuple (SqT.of ha)
    obtain ⟨its2, r2, p2, _⟩ := I.tuple (SqT.of hb)
    obtain ⟨⟨cls, dd, data, sl⟩, ho, hc, n, hd⟩ := id p1
    obtain ⟨⟨cls2, dd2, data2, sl2⟩, ho2, hc2, n2, hd2⟩ := id p2
    simp only at hc hd hc2 hd2
    subst hc hd hc2 hd2
    have e0 : its.toArray.isEmpty = true := by
      have : its = [] := r1.nil_iff.mpr hx
      simp [this]
    exact PySem.concat_meets ⟨_, ho, rfl⟩ ⟨_, ho2, rfl⟩ PySem.noFill_tuple_add PySem.seq_tuple_add PySem.F.slot_tuple_add PySem.F.entry_tuple_add (PySem.F.args_tuple_add_2 _ _)
      (PyProof.Rows.tuple_addW0 a b its.toArray its2.toArray n n2 dd dd2 sl sl2 e0) ⟨ho, ho2, ⟨.ref b, H, I, rfl, q0 hx⟩⟩
  · exact op_catT pins s σ H _ _ v u Q I rx ry ⟨a, b, xs, ys, rfl, rfl, SqT.of ha, SqT.of hb, hx, hz, q1 hx, q2 hx⟩
def pAdd : PV → PV → R Vl := fun x y => match x, y with
  | .int i, .int j => .ok (.z (.int (i + j)))
  | .str i, .str j => if sm (i.length + j.length) then .ok (.z (.str (i ++ j))) else .no
  | .lst xs, .lst ys => if sm (xs.length + ys.length) then .ok (.fr .ow (.lst (xs ++ ys))) else .no
  | .tup xs, .tup ys => if sm (xs.length + ys.length) then .ok (.z (.tup (xs ++ ys))) else .no
  | _, _ => .no
theorem pAdd_ne : NoEr2 pAdd := fun x y e h => by
  unfold pAdd at h
  split at h <;> first | (split at h <;> cases h) | cases h
def rAddAll : R2 := fun x y H Q => rI0 (fun i j => .int (i + j)) x y H Q ∨ (∃ i j, x = .str i ∧ y = .str j ∧ i.length + j.length ≤ sizeLine ∧ Q (.str (i ++ j)) H) ∨ rCatR x y H Q ∨ rCatU x y H Q
theorem op_addAll : OpR X (binaryOp .Add) rAddAll := OpR.or op_add (OpR.or op_add_str (OpR.or op_catR op_catU))
theorem RpL.nil_iff {T : Tb} {F : Hp} {xs : List PV} {vs : List V} (r : RpL T F xs vs) : vs = [] ↔ xs = [] := by
  have e := r.length
  constructor
  · rintro rfl; exact List.length_eq_zero_iff.mp e.symm
  · rintro rfl; exact List.length_eq_zero_iff.mp e
theorem Rv.lstR {T : Tb} {F H : Hp} {xs : List PV} {v : V} (h : Rv T F H (.lst xs) v) (s : Same F H) : ∃ a vs, v = .ref a ∧ Rd H a (.lst vs) ∧ RpL T F xs vs := by
  obtain ⟨m, A, h⟩ := h
  cases m with
  | fz =>
    simp only [OwM, Rp] at h
    obtain ⟨⟨a, vs, rfl, q, r⟩, _⟩ := h
    exact ⟨a, vs, rfl, rd_mono s q, r⟩
  | ow =>
    simp only [OwM] at h
    obtain ⟨a, rfl, _, vs, q, r⟩ := h
    exact ⟨a, vs, rfl, .inl q, r⟩
  | ob ms => simp [OwM] at h
theorem Rv.tupF {T : Tb} {F H : Hp} {xs : List PV} {v : V} (h : Rv T F H (.tup xs) v) : Rp T F (.tup xs) v := by
  obtain ⟨m, A, h⟩ := h
  cases m with
  | fz => simp only [OwM] at h; exact h.1
  | ow => simp [OwM] at h
  | ob ms => simp [OwM] at h
theorem o_add : Op2 X cl pAdd rAddAll := by
  intro F H x y v u Q s rx ry h
  unfold pAdd at h
  split at h
  · exact .inl ⟨_, _, rx.int, ry.int, h.int s⟩
  · rename_i i j
    cases z : sm (i.length + j.length) with
    | false => rw [z] at h; exact h.elim
    | true => rw [z] at h; exact .inr (.inl ⟨_, _, rx.str, ry.str, sm_le z, h.str s⟩)
  · rename_i xs ys
    cases z : sm (xs.length + ys.length) with
    | false => rw [z] at h; exact h.elim
    | true =>
      rw [z] at h
      obtain ⟨a, vs, rfl, q, r⟩ := rx.lstR s
      obtain ⟨b, us, rfl, q', r'⟩ := ry.lstR s
      exact .inr (.inr (.inl ⟨a, b, vs, us, rfl, rfl, q, q', by rw [r.length, r'.length]; exact sm_le z, fun p np => Post.lst s np (r.append r') h⟩))
  · rename_i xs ys
    cases z : sm (xs.length + ys.length) with
    | false => rw [z] at h; exact h.elim
    | true =>
      rw [z] at h
      have fx := rx.tupF
      have fy := ry.tupF
      obtain ⟨a, vs, rfl, q, r⟩ := rx.tup s
      obtain ⟨b, us, rfl, q', r'⟩ := ry.tup s
      refine .inr (.inr (.inr ⟨a, b, vs, us, rfl, rfl, q, q', by rw [r.length, r'.length]; exact sm_le z, fun e => ?_, fun _ e => ?_, fun _ _ p np => Post.tup s np (r.append r') h⟩))
      · have ex : xs = [] := r.nil_iff.mp e
        subst ex
        exact h.of s (by simpa using fy)
      · have ey : ys = [] := r'.nil_iff.mp e
        subst ey
        exact h.of s (by simpa using fx)
  · exact h.elim
theorem q_add {a b : Expr} {pos : Pos} {f g : Ex} (ha : QE cl X W f a) (hb : QE cl X W g b) : QE cl X W (x2 pAdd f g) (.BinOp a .Add b pos) := q_op op_addAll pAdd_ne o_add ha hb
def rRepR : R2 := fun x y H Q => ∃ l k xs, x = .ref l ∧ y = .int k ∧ H l = some (.lst xs) ∧ -(2 ^ 63) ≤ k ∧ k < 2 ^ 63 ∧ xs.length * k.toNat ≤ sizeLine ∧
  ∀ p, H p = none → Q (.ref p) (upd H p (.lst (List.replicate k.toNat xs).flatten))
def pMul : PV → PV → R Vl := fun x y => match x, y with
  | .int i, .int j => if cMul i j then .ok (.z (.int (i * j))) else .no
  | _, _ => .no
theorem pMul_ne : NoEr2 pMul := fun x y e h => by
  unfold pMul at h
  split at h <;> first | (split at h <;> cases h) | cases h
theorem o_mul : Op2 X cl pMul (rI CMul fun i j => .int (i * j)) := by
  intro F H x y v u Q s rx ry h
  unfold pMul at h
  split at h
  · rename_i i j
    cases z : cMul i j with
    | false => rw [z] at h; exact h.elim
    | true =>
      rw [z] at h
      refine ⟨_, _, rx.int, ry.int, ?_, h.int s⟩
      simp only [cMul, Bool.or_eq_true, Bool.and_eq_true, decide_eq_true_eq] at z
      exact z
  · exact h.elim
theorem q_mul {a b : Expr} {pos : Pos} {f g : Ex} (ha : QE cl X W f a) (hb : QE cl X W g b) : QE cl X W (x2 pMul f g) (.BinOp a .Mult b pos) := q_op op_mul pMul_ne o_mul ha hb

/-! ### comparisons -/
theorem q_eq {a b : Expr} {pos : Pos} {f g : Ex} (hu : X.A.units + 64 < cLine) (ha : QE cl X W f a) (hb : QE cl X W g b) : QE cl X W (x2 (pb pEq) f g) (.Compare a [.Eq] [b] pos) := q_cmp (op_eqD hu) (pb_ne pEq_ne) o_eq ha hb (nomark _)
theorem q_ne {a b : Expr} {pos : Pos} {f g : Ex} (hu : X.A.units + 64 < cLine) (ha : QE cl X W f a) (hb : QE cl X W g b) : QE cl X W (x2 (pb pNe) f g) (.Compare a [.NotEq] [b] pos) := q_cmp (op_neD hu) (pb_ne pNe_ne) o_ne ha hb (nomark _)
def iB (p : Int → Int → Bool) : PV → PV → R Bool := fun x y => match x, y with
  | .int i, .int j => .ok (p i j)
  | _, _ => .no
theorem iB_ne {p} : NoErB (iB p) := fun x y e h => by unfold iB at h; split at h <;> cases h
theorem o_iB {p : Int → Int → Bool} : Op2 X cl (pb (iB p)) (rI0 fun i j => .bl (p i j)) := by
  intro F H x y v u Q s rx ry h
  unfold pb iB at h
  split at h
  · exact ⟨_, _, rx.int, ry.int, h.bl s⟩
  · exact h.elim
def pLt : PV → PV → R Bool := iB fun i j => decide (i < j)
def pLe : PV → PV → R Bool := iB fun i j => decide (i ≤ j)
def pGt : PV → PV → R Bool := iB fun i j => decide (j < i)
def pGe : PV → PV → R Bool := iB fun i j => decide (j ≤ i)
theorem q_lt {a b : Expr} {pos : Pos} {f g : Ex} (ha : QE cl X W f a) (hb : QE cl X W g b) : QE cl X W (x2 (pb pLt) f g) (.Compare a [.Lt] [b] pos) := q_cmp op_lt (pb_ne iB_ne) o_iB ha hb (nomark _)
theorem q_le {a b : Expr} {pos : Pos} {f g : Ex} (ha : QE cl X W f a) (hb : QE cl X W g b) : QE cl X W (x2 (pb pLe) f g) (.Compare a [.LtE] [b] pos) := q_cmp op_le (pb_ne iB_ne) o_iB ha hb (nomark _)
theorem q_gt {a b : Expr} {pos : Pos} {f g : Ex} (ha : QE cl X W f a) (hb : QE cl X W g b) : QE cl X W (x2 (pb pGt) f g) (.Compare a [.Gt] [b] pos) := q_cmp op_gt (pb_ne iB_ne) o_iB ha hb (nomark _)
theorem q_ge {a b : Expr} {pos : Pos} {f g : Ex} (ha : QE cl X W f a) (hb : QE cl X W g b) : QE cl X W (x2 (pb pGe) f g) (.Compare a [.GtE] [b] pos) := q_cmp op_ge (pb_ne iB_ne) o_iB ha hb (nomark _)
theorem q_lele {a b c : Expr} {pos : Pos} {f g h : Ex} (ha : QE cl X W f a) (hb : QE cl X W g b) (hc : QE cl X W h c) (hm : lastMarks [CmpOp.LtE, CmpOp.LtE] [b, c] = false := by with_unfolding_all rfl) : QE cl X W (xChain pLe pLe f g h) (.Compare a [.LtE, .LtE] [b, c] pos) := q_chain op_le op_le iB_ne iB_ne o_iB o_iB ha hb hc (pe_chain op_le op_le ha.pe hb.pe hc.pe hm)
theorem q_lelt {a b c : Expr} {pos : Pos} {f g h : Ex} (ha : QE cl X W f a) (hb : QE cl X W g b) (hc : QE cl X W h c) (hm : lastMarks [CmpOp.LtE, CmpOp.Lt] [b, c] = false := by with_unfolding_all rfl) : QE cl X W (xChain pLe pLt f g h) (.Compare a [.LtE, .Lt] [b, c] pos) := q_chain op_le op_lt iB_ne iB_ne o_iB o_iB ha hb hc (pe_chain op_le op_lt ha.pe hb.pe hc.pe hm)
/-- is None -/
def isNon : PV → Bool
  | .non => true
  | _ => false
theorem rv_non {T : Tb} {F H : Hp} {x : PV} {v : V} (s : Same F H) (h : Rv T F H x v) : decide (v = .non) = isNon x := by
  cases x with
  | non => rw [h.non]; rfl
  | bl b => rw [h.bl]; rfl
  | int b => rw [h.int]; rfl
  | str b => rw [h.str]; rfl
  | tup xs => obtain ⟨a, _, rfl, _⟩ := h.tup s; rfl
  | lst xs => obtain ⟨a, _, rfl, _⟩ := h.lst s; rfl
  | dct t xs => obtain ⟨a, _, rfl, _⟩ := h.dct s; rfl
  | set xs => obtain ⟨a, rfl, _⟩ := h.set s; rfl
  | obj c fs => obtain ⟨a, _, _, _, rfl, _⟩ := h.obj s; rfl
def xIsN (f : Ex) : Ex := x1 (fun x => .ok (.z (.bl (isNon x)))) f
def xNotN (f : Ex) : Ex := x1 (fun x => .ok (.z (.bl (!isNon x)))) f
theorem q_isN {a : Expr} {pos pos' : Pos} {j} {f : Ex} (ha : QE cl X W f a) : QE cl X W (xIsN f) (.Compare a [.Is] [.Constant .none j pos'] pos) := by
  refine ⟨(pe_cmp (pc_isN ha.pe)).imp fun σ H Q h => ?_⟩
  refine tq1 (r := fun x H1 Q => Q (.bl (decide (x = .non))) H1) (fun _ _ h => by cases h) (fun F H x v Q s rx h => ?_) h
  show Q (.bl (decide (v = .non))) H
  rw [rv_non s rx]
  exact h.bl s
theorem q_notN {a : Expr} {pos pos' : Pos} {j} {f : Ex} (ha : QE cl X W f a) : QE cl X W (xNotN f) (.Compare a [.IsNot] [.Constant .none j pos'] pos) := by
  refine ⟨(pe_cmp (pc_notN ha.pe)).imp fun σ H Q h => ?_⟩
  refine tq1 (r := fun x H1 Q => Q (.bl (!decide (x = .non))) H1) (fun _ _ h => by cases h) (fun F H x v Q s rx h => ?_) h
  show Q (.bl (!decide (v = .non))) H
  rw [rv_non s rx]
  exact h.bl s
end
end Z
/-! the pure layer, part F: subscripts, slices, in, dicts looked at -/
namespace PyProof.Rows
open PySem HT
theorem getItem_tuple_whole {prog : Program} {w : World} {A : Around} {E : Value → Shared → Prop} {s : Shared} {t sl : Addr} {items : Array Value} {vl vu : Value} {lo hi : Option Int} {Q : Value → Shared → Prop} (ht : IsTup s.heap t items) (hs : s.heap.IsSliceOf sl vl vu .none) (pl : IsPart vl lo) (pu : IsPart vu hi)
    (hw : HT.sIx items.size 0 lo = 0 ∧ HT.sIx items.size items.size hi = items.size) (h : Q (.ref t) s) : wpAny (model prog w) A (getItem (.ref t) (.ref sl)) Q E s := by
  obtain ⟨os, hos, hcs, hds⟩ := id hs
  have hTs : s.TypeIs (.ref sl) "slice" := ⟨os, hos, hcs⟩
  unfold getItem
  try with_reducible refine wpAny_holding ?_
  first | refine wpAny_bind (wpAny_pure ?_) | skip
  refine wpAny_bind (wpAny_sequenceKey ht.typeIs (by decide) ?_)
  refine wpAny_bind (wpAny_callSpecial?_slot (name := Str.ofString "__getitem__") ht.typeIs PyProof.Rows.slot_tuple_getitem
    (wpAny_call_entry PyProof.Rows.slot_tuple_getitem ht.typeIs entry_tuple_getitem ?_ (args_tuple_getitem _ _)))
  show wpAny _ _ (Builtin.Tuple.tupleItemsOf (.ref t) >>= _) _ _ s
  refine wpAny_bind (tupleItemsOf_ ht ?_)
  refine wpAny_bind (wpAny_typeOf hTs ?_)
  rw [if_pos (by decide)]
  refine wpAny_bind (HT.sliceApplied_gen hs pl pu ?_)
  have hyes : (((HT.sIx items.size 0 lo : Nat) : Int) == 0 && (1 : Int) == 1 && (HT.sIx items.size items.size hi - HT.sIx items.size 0 lo) == items.size) = true := by
    rw [hw.1, hw.2]; simp
  show wpAny _ _ (if (((HT.sIx items.size 0 lo : Nat) : Int) == 0 && (1 : Int) == 1 && (HT.sIx items.size items.size hi - HT.sIx items.size 0 lo) == items.size) = true then _ else _) _ _ s
  rw [if_pos hyes]
  unfold Builtin.Tuple.tupleIsExact
  refine wpAny_bind (wpAny_bind (wpAny_typeOf ht.typeIs (wpAny_pure ?_)))
  rw [if_pos (by decide)]
  refine wpAny_bind (wpAny_rule ?_)
  first
    | exact wpAny_pure ⟨_, rfl, wpAny_pure h⟩
    | exact wpAny_bind (wpAny_pure ⟨_, rfl, wpAny_pure h⟩)
    | exact wpAny_bind (wpAny_pure (wpAny_pure ⟨_, rfl, wpAny_pure h⟩))
    | exact wpAny_pure (wpAny_pure ⟨_, rfl, wpAny_pure h⟩)
end PyProof.Rows
namespace Z
open PySem L2
section
variable {X : Cx} {cl : String → Option Addr} {W : WX}
/-- t[lo:hi] of a tuple, the whole too -/
def rSlU : V → Option Int → Option Int → Hp → VK → Prop := fun x lo hi H Q => ∃ a xs, x = .ref a ∧ H a = some (.tup xs) ∧ (cutV xs lo hi = xs → Q (.ref a) H) ∧ ∀ p, H p = none → Q (.ref p) (upd H p (.tup (cutV xs lo hi)))
theorem sl_tupU : SlR X rSlU := by
  intro pins s σ H x v vl vu lo hi sl Q I rx hs pl pu h
  obtain ⟨a, xs, rfl, hx, q0, q⟩ := h
  by_cases hw : HT.sIx xs.length 0 lo = 0 ∧ HT.sIx xs.length xs.length hi = xs.length
  · cases rx
    obtain ⟨its, r, ht, hz⟩ := I.tuple (SqT.of (K := X.K) hx)
    have hlen : its.toArray.size = xs.length := by rw [List.size_toArray]; exact r.length.symm
    refine ⟨"tuple", _, PyProof.Rows.slot_tuple_getitem.lookup, ht.typeIs, ?_⟩
    refine PyProof.Rows.getItem_tuple_whole ht hs pl pu (by rw [hlen]; exact hw) ⟨.ref a, H, I, rfl, q0 ?_⟩
    unfold cutV
    rw [hw.1, hw.2]
    simp
  · exact sl_tup pins s σ H _ v vl vu lo hi sl Q I rx hs pl pu ⟨a, xs, rfl, SqT.of hx, hw, q⟩

/-! ### slices -/
def pcut (xs : List PV) (lo hi : Option Int) : List PV := (xs.drop (HT.sIx xs.length 0 lo)).take (HT.sIx xs.length xs.length hi - HT.sIx xs.length 0 lo)
theorem RpL.cut {T : Tb} {F : Hp} {xs : List PV} {vs : List V} (r : RpL T F xs vs) (lo hi : Option Int) : RpL T F (pcut xs lo hi) (cutV vs lo hi) := by
  unfold pcut cutV
  rw [r.length]
  exact (r.drop _).take _
def pSl (x : PV) (lo hi : Option Int) : R Vl := match x with
  | .lst xs => .ok (.fr .ow (.lst (pcut xs lo hi)))
  | .tup xs => .ok (.z (.tup (pcut xs lo hi)))
  | .str z => if sm z.length then .ok (.z (.str (cutS z lo hi))) else .no
  | _ => .no
theorem pSl_ne (x : PV) (a b : Option Int) (e : Xc) : pSl x a b ≠ .er e := by
  cases x <;> simp [pSl]
  split <;> simp
def rSlAll (K : PySem.W.Frag) : V → Option Int → Option Int → Hp → VK → Prop := fun x lo hi H Q => rSlL K x lo hi H Q ∨ rSlU x lo hi H Q ∨ rSlS x lo hi H Q
theorem sl_all : SlR X (rSlAll X.K) := SlR.or sl_list (SlR.or sl_tupU sl_str)
theorem o_sl {F H : Hp} {x : PV} {v : V} {lo hi : Option Int} {Q : VK} (s : Same F H) (rx : Rv ⟨X.K, cl⟩ F H x v) (h : Post ⟨X.K, cl⟩ F H (pSl x lo hi) Q) : rSlAll X.K v lo hi H Q := by
  cases x <;> first | exact h.elim | skip
  · rename_i z
    simp only [pSl] at h
    cases e : sm z.length with
    | false => rw [e] at h; exact h.elim
    | true => rw [e] at h; exact .inr (.inr ⟨z, rx.str, sm_le e, h.str s⟩)
  · rename_i xs
    have fx := rx.tupF
    obtain ⟨a, vs, rfl, q, r⟩ := rx.tup s
    refine .inr (.inl ⟨a, vs, rfl, q, fun e => ?_, fun p np => Post.tup s np (r.cut lo hi) h⟩)
    refine h.of s ?_
    simp only [Rp] at fx ⊢
    obtain ⟨a', vs', e1, e2, e3⟩ := fx
    have e4 := s _ _ e2
    cases e1
    rw [q] at e4
    cases e4
    refine ⟨a, vs, rfl, e2, ?_⟩
    have := e3.cut lo hi
    rwa [e] at this
  · obtain ⟨a, vs, rfl, q, r⟩ := rx.lst s
    exact .inl ⟨a, vs, rfl, q, fun p np => Post.lst s np (r.cut lo hi) h⟩
/-- a part of a slice -/
def xNoP : Env → R (Option Int) := fun _ => .ok none
def pPart : PV → R (Option Int)
  | .int i => .ok (some i)
  | _ => .no
def xP (f : Ex) : Env → R (Option Int) := fun γ => (f γ).bind fun l => pPart l.x
def tqO (K : PySem.W.Frag) (cl : String → Option Addr) (W : WX) (f : Env → R (Option Int)) : TO := fun σ H Q => ∃ F A γ, Rel ⟨K, cl⟩ F A σ H γ ∧ match f γ with
  | .ok b => ∀ F' H', Ext F H F' H' → Q b H'
  | .er e => ∀ F' H' c d, Ext F H F' H' → XcR ⟨K, cl⟩ F' e c d → W c d σ H'
  | .no => False
structure QO (cl : String → Option Addr) (X : Cx) (W : WX) (f : Env → R (Option Int)) (e : Option Expr) : Prop where
  po : PO X e (tqO X.K cl W f)
theorem _root_.L2.PO.imp {X : Cx} {e : Option Expr} {t t' : TO} (h : PO X e t) (k : ∀ σ H Q, t' σ H Q → t σ H Q) : PO X e t' := ⟨fun pins s σ H Q I q => h.run pins s σ H Q I (k σ H Q q)⟩
theorem qo_none : QO cl X W xNoP none := ⟨po_none.imp fun σ H Q h => by
  obtain ⟨F, A, γ, rel, h⟩ := h
  exact h F H (Ext.refl rel.sub)⟩
theorem qo_some {f} {e : Expr} (he : QE cl X W f e) : QO cl X W (xP f) (some e) := ⟨(po_some he.pe).imp fun σ H Q h => by
  obtain ⟨F, A, γ, rel, h⟩ := h
  refine ⟨F, A, γ, rel, ?_⟩
  unfold xP at h
  cases e : f γ with
  | no => rw [e] at h; exact h
  | er x => rw [e] at h; exact h
  | ok l =>
    rw [e] at h
    simp only [R.bind_ok] at h
    intro F1 H1 v e1 r1
    have rv := r1.rv
    cases ei : l.x with
    | int i =>
      rw [ei] at rv h
      exact ⟨i, rv.int, h F1 H1 e1⟩
    | _ => rw [ei] at h; exact h.elim⟩
def xSl (f : Ex) (lo hi : Env → R (Option Int)) : Ex := fun γ => (f γ).bind fun l => (lo γ).bind fun a => (hi γ).bind fun b => pSl l.x a b
theorem q_slice {f lo hi} {e : Expr} {l u : Option Expr} {p2 pos : Pos} (he : QE cl X W f e) (hl : QO cl X W lo l) (hu : QO cl X W hi u) : QE cl X W (xSl f lo hi) (.Subscript e (.Slice l u none p2) pos) := by
  refine ⟨(pe_slice sl_all he.pe hl.po hu.po).imp fun σ H Q h => ?_⟩
  refine tq.bind (g := fun l γ => (lo γ).bind fun a => (hi γ).bind fun b => pSl l.x a b) h fun F A γ l F1 H1 v rel e e1 r1 h => ?_
  refine ⟨F1, A, γ, rel.ext e1, ?_⟩
  cases ea : lo γ with
  | no => rw [ea] at h; exact h
  | er x => rw [ea] at h; exact h
  | ok a =>
    rw [ea] at h
    simp only [R.bind_ok] at h
    intro F2 H2 e2
    refine ⟨F2, A, γ, (rel.ext e1).ext e2, ?_⟩
    cases eb : hi γ with
    | no => rw [eb] at h; exact h
    | er x => rw [eb] at h; exact fun F' H' c d ex => h F' H' c d (e2.trans ex)
    | ok b =>
      rw [eb] at h
      simp only [R.bind_ok] at h
      intro F3 H3 e3
      refine o_sl (cl := cl) e3.sub (r1.rv.ext (e2.trans e3)) ?_
      cases ep : pSl l.x a b with
      | no => rw [ep] at h; exact h
      | er x => exact (pSl_ne _ _ _ _ ep).elim
      | ok l' => rw [ep] at h; exact fun F' H' w ex nn => h F' H' w ((e2.trans e3).trans ex) (nn.r ((e1.trans (e2.trans e3)).hle))
/-- xs[::-1] of a list -/
def pRev : PV → R Vl
  | .lst xs => .ok (.fr .ow (.lst xs.reverse))
  | _ => .no
theorem q_rev {f} {e : Expr} {k : Nat} {p1 p2 p3 pos : Pos} (he : QE cl X W f e) : QE cl X W (x1 pRev f) (.Subscript e (.Slice none none (some (.UnaryOp .USub (.Constant (.int 1) k p1) p2)) p3) pos) := by
  refine ⟨(pe_revL he.pe).imp fun σ H Q h => ?_⟩
  refine tq1 (r := fun x H1 Q => ∃ a xs, x = .ref a ∧ SqL X.K H1 a xs ∧ ∀ p, H1 p = none → Q (.ref p) (upd H1 p (.lst xs.reverse))) (fun x e h => by cases x <;> cases h) (fun F H x v Q s rx h => ?_) h
  cases x <;> first | exact h.elim | skip
  obtain ⟨a, vs, rfl, q, r⟩ := rx.lst s
  exact ⟨a, vs, rfl, q, fun p np => Post.lst s np r.reverse h⟩

/-! ### keys -/
def keyOf : PV → Option Key
  | .int i => some (.inl i)
  | .str x => some (.inr x)
  | _ => none
def keysOf : List PV → Option (List Key)
  | [] => some []
  | x :: xs => match keyOf x, keysOf xs with
    | some k, some ks => some (k :: ks)
    | _, _ => none
theorem keyOf_eq {x : PV} {k : Key} (h : keyOf x = some k) : x = kP k := by
  cases x <;> simp [keyOf] at h <;> subst h <;> rfl
theorem keysOf_eq : ∀ {xs : List PV} {ks : List Key}, keysOf xs = some ks → xs = ks.map kP
  | [], ks, h => by simp [keysOf] at h; subst h; rfl
  | x :: xs, ks, h => by
    unfold keysOf at h
    split at h
    · rename_i k ks' h1 h2
      cases h
      rw [keyOf_eq h1, keysOf_eq h2]; rfl
    · cases h
theorem rp_kP {T : Tb} {F : Hp} {k : Key} {v : V} (h : Rp T F (kP k) v) : v = kV k := by
  cases k <;> simpa [kP, Rp, kV] using h
theorem rv_kP {T : Tb} {F H : Hp} {k : Key} {v : V} (h : Rv T F H (kP k) v) : v = kV k := by
  cases k with
  | inl i => exact h.int
  | inr x => exact h.str
theorem rpL_kP {T : Tb} {F : Hp} : ∀ {ks : List Key} {vs : List V}, RpL T F (ks.map kP) vs → vs = ks.map kV
  | [], _, h => by simpa [RpL] using h
  | k :: ks, _, h => by
    simp only [List.map_cons, RpL] at h
    obtain ⟨v, ws, rfl, p, q⟩ := h
    rw [rp_kP p, rpL_kP q]; rfl
theorem peq_kP (a b : Key) : peq (kP a) (kP b) = decide (a = b) := by
  cases a <;> cases b <;> simp [kP, peq]
  all_goals (rw [Bool.eq_iff_iff]; simp)
theorem peqL_kP : ∀ a b : List Key, peqL (a.map kP) (b.map kP) = decide (a = b)
  | [], [] => by simp [peqL]
  | [], _ :: _ => by simp [peqL]
  | _ :: _, [] => by simp [peqL]
  | a :: as, b :: bs => by
    simp only [List.map_cons, peqL, peq_kP, peqL_kP as bs, List.cons.injEq]
    rw [Bool.eq_iff_iff]; simp
/-- what a dict holds at a key -/
def dFind (kvs : List (PV × PV)) (k : PV) : Option PV := (kvs.find? fun p => peq p.1 k).map (·.2)
def keyOk (t : Bool) (k : PV) : Bool := match t, k with
  | false, .int _ => true
  | false, .str _ => true
  | true, .tup xs => (keysOf xs).isSome
  | _, _ => false
/-- None or a value, alike on both sides -/
def RpO (T : Tb) (F : Hp) : Option PV → Option V → Prop
  | some x, some v => Rp T F x v
  | none, none => True
  | _, _ => False
theorem dFind_k {T : Tb} {F : Hp} (k : Key) : ∀ {es : List (Key × V)} {kvs : List (PV × PV)}, RpD T F kvs (es.map fun p => (kP p.1, p.2)) → RpO T F (dFind kvs (kP k)) (valV es k)
  | [], [], _ => trivial
  | [], (a, b) :: r, h => by simp [RpD] at h
  | e :: es, [], h => by simp [RpD] at h
  | (j, u) :: es, (a, b) :: r, h => by
    simp only [List.map_cons, RpD, List.cons.injEq, Prod.mk.injEq] at h
    obtain ⟨v, ws, ⟨⟨rfl, rfl⟩, rfl⟩, p, q⟩ := h
    unfold dFind
    by_cases e : j = k
    · subst e
      rw [valV_pos rfl, List.find?_cons]
      simp only [peq_kP, decide_true]
      exact p
    · rw [valV_neg e, List.find?_cons]
      simp only [peq_kP, e, decide_false]
      exact dFind_k k q
theorem dFind_t {T : Tb} {F : Hp} (k : List Key) : ∀ {es : List (List Key × V)} {kvs : List (PV × PV)}, RpD T F kvs (es.map fun p => (.tup (p.1.map kP), p.2)) → RpO T F (dFind kvs (.tup (k.map kP))) (valV es k)
  | [], [], _ => trivial
  | [], (a, b) :: r, h => by simp [RpD] at h
  | e :: es, [], h => by simp [RpD] at h
  | (j, u) :: es, (a, b) :: r, h => by
    simp only [List.map_cons, RpD, List.cons.injEq, Prod.mk.injEq] at h
    obtain ⟨v, ws, ⟨⟨rfl, rfl⟩, rfl⟩, p, q⟩ := h
    unfold dFind
    by_cases e : j = k
    · subst e
      rw [valV_pos rfl, List.find?_cons]
      simp only [peq, peqL_kP, decide_true]
      exact p
    · rw [valV_neg e, List.find?_cons]
      simp only [peq, peqL_kP, e, decide_false]
      exact dFind_t k q
/-- the dict at a, asked at a key -/
theorem dget_of {T : Tb} {F H : Hp} {a : Addr} {t ks kvs k y} (s : Same F H) (d : DctAt H a t ks) (r : RpD T F kvs ks) (kk : keyOk t k = true) (ry : Rv T F H k y) : ∃ o, DGet H a y o ∧ RpO T F (dFind kvs k) o := by
  cases t with
  | false =>
    obtain ⟨es, he, rfl⟩ := d
    cases k <;> simp [keyOk] at kk
    · rename_i i
      exact ⟨_, .inl ⟨es, .inl i, .inl he, ry.int, rfl⟩, dFind_k (.inl i) r⟩
    · rename_i i
      exact ⟨_, .inl ⟨es, .inr i, .inl he, ry.str, rfl⟩, dFind_k (.inr i) r⟩
  | true =>
    obtain ⟨es, he, rfl⟩ := d
    cases k <;> simp [keyOk] at kk
    rename_i xs
    obtain ⟨jk, hk⟩ := Option.isSome_iff_exists.mp kk
    have ex := keysOf_eq hk
    subst ex
    obtain ⟨b, vs, rfl, hb, rl⟩ := ry.tup s
    have ev := rpL_kP rl
    subst ev
    exact ⟨_, .inr ⟨es, jk, b, .inl he, rfl, hb, rfl⟩, dFind_t jk r⟩

/-! ### xs[i] -/
theorem ix_dict (hu : X.A.units + 1 < cLine) : IxR X (fun x y H Q => ∃ a v, x = .ref a ∧ DGet H a y (some v) ∧ Q v H) := by
  intro value slice pins s σ H x y v u Q I rx ry h hs
  obtain ⟨a, w, rfl, g, q⟩ := h
  obtain rfl : v = Value.ref a := rx
  have hT := dict_typeIs I g
  unfold PyProof.Rows.subscriptTail
  refine wpAny_bind ?_
  rw [PySem.getitemInPython_of_ne hT.not_modules]
  refine wpAny_bind (wpAny_specialOf hT PySem.F.slot_dict_getitem.lookup ?_)
  have fin : wpAny (model X.prog X.w) X.A (subscripted slice false (.ref a) u) (fun r s₃ => wpAny (model X.prog X.w) X.A (letTemporaryGo value (.ref a) r >>= fun _ => pure r) (EP X pins σ Q) X.xe s₃) X.xe s := by
    rw [hs]
    exact wpAny_operating (wpAny_mono (d_getItem hu I g ry fun w' s3 I3 rw' => (⟨w, H, I3, rw', q⟩ : EP X pins σ Q w' s3)) (fun r s₃ h₃ => wpAny_bind (wpAny_letTemporaryGo (wpAny_pure h₃))) fun _ _ x => x)
  first
    | exact wpAny_pure (wpAny_bind fin)
    | exact wpAny_bind (wpAny_pure (wpAny_bind fin))
    | exact wpAny_bind fin
def pIx (x i : PV) : R Vl := match x, i with
  | .lst xs, .int i => match atI xs i with
    | some v => .ok (.z v)
    | none => .no
  | .tup xs, .int i => match atI xs i with
    | some v => .ok (.z v)
    | none => .no
  | .str z, .int i => match atI z.cps.toList i with
    | some c => if sm z.length then .ok (.z (.str ⟨#[c]⟩)) else .no
    | none => .no
  | .dct t kvs, k => if keyOk t k then (match dFind kvs k with
    | some v => .ok (.z v)
    | none => .no) else .no
  | _, _ => .no
theorem pIx_ne : NoEr2 pIx := fun x y e h => by
  unfold pIx at h
  split at h
  · split at h <;> cases h
  · split at h <;> cases h
  · split at h
    · split at h <;> cases h
    · cases h
  · split at h
    · split at h <;> cases h
    · cases h
  · cases h
theorem RpL.atI {T : Tb} {F : Hp} {xs : List PV} {vs : List V} {i : Int} {x : PV} (r : RpL T F xs vs) (e : atI xs i = some x) : ∃ v, atI vs i = some v ∧ Rp T F x v := by
  unfold L2.atI at e ⊢
  rw [r.length]
  cases h : ixN xs.length i with
  | none => rw [h] at e; cases e
  | some j =>
    rw [h] at e
    exact RpL.get r e
def rIxAll (K : PySem.W.Frag) : R2 := fun x y H Q => rIx K x y H Q ∨ ∃ a v, x = .ref a ∧ DGet H a y (some v) ∧ Q v H
theorem o_ix : Op2 X cl pIx (rIxAll X.K) := by
  intro F H x y v u Q s rx ry h
  cases x <;> try exact h.elim
  case str z =>
    cases y <;> try exact h.elim
    rename_i i
    simp only [pIx] at h
    cases e : atI z.cps.toList i with
    | none => rw [e] at h; exact h.elim
    | some c =>
      rw [e] at h
      simp only at h
      cases k : sm z.length with
      | false => rw [k] at h; exact h.elim
      | true => rw [k] at h; exact .inl (.inr (.inr ⟨z, i, c, rx.str, ry.int, sm_le k, e, h.str s⟩))
  case tup xs =>
    cases y <;> try exact h.elim
    rename_i i
    simp only [pIx] at h
    cases e : atI xs i with
    | none => rw [e] at h; exact h.elim
    | some w =>
      rw [e] at h
      obtain ⟨a, vs, rfl, q, r⟩ := rx.tup s
      obtain ⟨z, e2, rz⟩ := r.atI e
      exact .inl (.inr (.inl ⟨a, vs, i, z, rfl, ry.int, SqT.of q, e2, h.of s rz⟩))
  case lst xs =>
    cases y <;> try exact h.elim
    rename_i i
    simp only [pIx] at h
    cases e : atI xs i with
    | none => rw [e] at h; exact h.elim
    | some w =>
      rw [e] at h
      obtain ⟨a, vs, rfl, q, r⟩ := rx.lst s
      obtain ⟨z, e2, rz⟩ := r.atI e
      exact .inl (.inl ⟨a, vs, i, z, rfl, ry.int, q, e2, h.of s rz⟩)
  case dct t kvs =>
    have h' : Post ⟨X.K, cl⟩ F H (if keyOk t y then (match dFind kvs y with
      | some v => .ok (.z v)
      | none => .no) else .no) Q := by
      cases y <;> exact h
    cases kk : keyOk t y with
    | false => rw [kk] at h'; exact h'.elim
    | true =>
      rw [kk] at h'
      simp only [if_true] at h'
      obtain ⟨a, ks, rfl, d, r⟩ := rx.dct s
      obtain ⟨o, g, ro⟩ := dget_of s d r kk ry
      cases e : dFind kvs y with
      | none => rw [e] at h'; exact h'.elim
      | some w =>
        rw [e] at h' ro
        cases o with
        | none => exact ro.elim
        | some z => exact .inr ⟨a, z, rfl, g, h'.of s ro⟩
theorem q_sub_ix {a b : Expr} {pos : Pos} {f g : Ex} (hu : X.A.units + 1 < cLine) (ha : QE cl X W f a) (hb : QE cl X W g b) (hs : PlainIx b := by exact fun _ _ => rfl) : QE cl X W (x2 pIx f g) (.Subscript a b pos) :=
  q_ix (ix_seq.or (ix_dict hu)) pIx_ne o_ix ha hb hs

/-! ### in -/
def isFl : PV → Bool
  | .non => true
  | .bl _ => true
  | .int _ => true
  | .str _ => true
  | _ => false
theorem rp_fl {T : Tb} {F : Hp} {x : PV} {v : V} (h : Rp T F x v) (f : isFl x = true) : flatV v = true := by
  cases x <;> simp [isFl] at f <;> simp only [Rp] at h <;> subst h <;> rfl
theorem eqV_peq {T : Tb} {F : Hp} {x y : PV} {v u : V} (h : Rp T F x v) (k : Rp T F y u) (f : isFl x = true) (g : isFl y = true) : eqV v u = peq x y := by
  cases x <;> simp [isFl] at f <;> cases y <;> simp [isFl] at g <;> simp only [Rp] at h k <;> subst h <;> subst k <;> rfl
theorem rv_fl {T : Tb} {F H : Hp} {x : PV} {v : V} (h : Rv T F H x v) (f : isFl x = true) : Rp T F x v := by
  cases x <;> simp [isFl] at f
  · rw [h.non]; simp [Rp]
  · rw [h.bl]; simp [Rp]
  · rw [h.int]; simp [Rp]
  · rw [h.str]; simp [Rp]
theorem rpL_fl {T : Tb} {F : Hp} {x : PV} {v : V} (h : Rp T F x v) (f : isFl x = true) : ∀ {xs : List PV} {vs : List V}, RpL T F xs vs → xs.all isFl = true → vs.all flatV = true ∧ inV v vs = xs.any fun y => peq y x
  | [], _, r, _ => by simp only [RpL] at r; subst r; exact ⟨rfl, rfl⟩
  | y :: ys, _, r, g => by
    simp only [RpL] at r
    obtain ⟨u, us, rfl, p, q⟩ := r
    simp only [List.all_cons, Bool.and_eq_true] at g
    obtain ⟨h1, h2⟩ := rpL_fl h f q g.2
    refine ⟨by simp [rp_fl p g.1, h1], ?_⟩
    show (eqV u v || inV v us) = _
    rw [h2, eqV_peq p h g.1 f, List.any_cons]
def pIn (x y : PV) : R Bool := match y with
  | .lst ys => if isFl x && ys.all isFl then .ok (ys.any fun z => peq z x) else if isD 60 x && isD 60 y then .ok (ys.any fun z => peq z x) else .no
  | .tup ys => if isFl x && ys.all isFl then .ok (ys.any fun z => peq z x) else .no
  | .str z => match x with
    | .str i => .ok (!(Builtin.Str.occurrences z i 0 z.length 1).isEmpty)
    | _ => .no
  | .dct t kvs => if keyOk t x then .ok (dFind kvs x).isSome else .no
  | _ => .no
theorem pIn_ne : NoErB pIn := fun x y e h => by
  unfold pIn at h
  split at h
  · split at h
    · cases h
    · split at h <;> cases h
  · split at h <;> cases h
  · split at h <;> cases h
  · split at h <;> cases h
  · cases h
def pNotIn (x y : PV) : R Bool := (pIn x y).map (!·)
theorem pNotIn_ne : NoErB pNotIn := fun x y e h => by
  unfold pNotIn at h
  cases q : pIn x y with
  | ok b => rw [q] at h; cases h
  | no => rw [q] at h; cases h
  | er e' => exact pIn_ne x y e' q
def rInStr (neg : Bool) : R2 := fun x y H Q => ∃ i j, x = .str i ∧ y = .str j ∧ Q (.bl (if neg then !(!(Builtin.Str.occurrences j i 0 j.length 1).isEmpty) else !(Builtin.Str.occurrences j i 0 j.length 1).isEmpty)) H
def rInDct (neg : Bool) : R2 := fun x y H Q => ∃ a o, y = .ref a ∧ DGet H a x o ∧ Q (.bl (if neg then !o.isSome else o.isSome)) H
def rInAll (K : PySem.W.Frag) : R2 := fun x y H Q => rIn K false x y H Q ∨ rInD K x y H Q ∨ rInStr false x y H Q ∨ rInDct false x y H Q
def rNotInAll (K : PySem.W.Frag) : R2 := fun x y H Q => rIn K true x y H Q ∨ rNotInD K x y H Q ∨ rInStr true x y H Q ∨ rInDct true x y H Q
theorem op_inDct (hu : X.A.units + 1 < cLine) : OpR X (compareOp .In) (rInDct false) := by
  intro pins s σ H x y v u Q I rx ry h
  obtain ⟨a, o, rfl, g, q⟩ := h
  obtain rfl : u = Value.ref a := ry
  exact d_in hu I g rx fun s3 I3 => ⟨.bl o.isSome, H, I3, rfl, q⟩
theorem op_notInDct (hu : X.A.units + 1 < cLine) : OpR X (compareOp .NotIn) (rInDct true) := by
  intro pins s σ H x y v u Q I rx ry h
  obtain ⟨a, o, rfl, g, q⟩ := h
  obtain rfl : u = Value.ref a := ry
  exact d_notIn hu I g rx fun s3 I3 => ⟨.bl (!o.isSome), H, I3, rfl, q⟩
theorem op_inAll (hu : X.A.units + 65 < cLine) : OpR X (compareOp .In) (rInAll X.K) := OpR.or op_in_seq (OpR.or (op_inD hu) (OpR.or op_in_str (op_inDct (by omega))))
theorem op_notInAll (hu : X.A.units + 65 < cLine) : OpR X (compareOp .NotIn) (rNotInAll X.K) := OpR.or op_notIn_seq (OpR.or (op_notInD hu) (OpR.or op_notin_str (op_notInDct (by omega))))
theorem any_toD {x : PV} (d : isD 60 x = true) : ∀ {ys : List PV}, isDL 60 ys = true → ((toDL ys).any fun z => PyData.eqv z (toD x)) = ys.any fun z => peq z x
  | [], _ => rfl
  | y :: ys, h => by
    simp only [isDL, Bool.and_eq_true] at h
    simp only [toDL, List.any_cons]
    rw [any_toD d h.2, eqv_toD y x h.1 d]
theorem o_in : Op2 X cl (pb pIn) (rInAll X.K) := by
  intro F H x y v u Q s rx ry h
  unfold pb pIn at h
  split at h
  · rename_i ys
    split at h
    · rename_i f
      rw [Bool.and_eq_true] at f
      obtain ⟨a, vs, rfl, q, r⟩ := ry.lst s
      have px := rv_fl rx f.1
      obtain ⟨h1, h2⟩ := rpL_fl px f.1 r f.2
      refine .inl ⟨a, vs, rfl, .inl q, rp_fl px f.1, h1, ?_⟩
      simp only [Bool.false_eq_true, ↓reduceIte]
      rw [h2]
      exact Post.bl s h
    · split at h
      · rename_i d
        rw [Bool.and_eq_true] at d
        obtain ⟨d1, s1⟩ := dp_rv s rx d.1 (by decide)
        obtain ⟨d2, s2⟩ := dp_rv s ry d.2 (by decide)
        have dl := d.2
        simp only [isD] at dl
        refine .inr (.inl ⟨_, toDL ys, d1, by simpa [toD] using d2, s1, by simpa [toD] using s2, ?_⟩)
        rw [any_toD d.1 dl]
        exact Post.bl s h
      · exact h.elim
  · rename_i ys
    split at h
    · rename_i f
      rw [Bool.and_eq_true] at f
      obtain ⟨a, vs, rfl, q, r⟩ := ry.tup s
      have px := rv_fl rx f.1
      obtain ⟨h1, h2⟩ := rpL_fl px f.1 r f.2
      refine .inl ⟨a, vs, rfl, .inr (SqT.of q), rp_fl px f.1, h1, ?_⟩
      simp only [Bool.false_eq_true, ↓reduceIte]
      rw [h2]
      exact Post.bl s h
    · exact h.elim
  · rename_i z
    split at h
    · exact .inr (.inr (.inl ⟨_, _, rx.str, ry.str, Post.bl s h⟩))
    · exact h.elim
  · rename_i t kvs
    cases kk : keyOk t x with
    | false => rw [kk] at h; exact h.elim
    | true =>
      rw [kk] at h
      obtain ⟨a, ks, rfl, d, r⟩ := ry.dct s
      obtain ⟨o, g, ro⟩ := dget_of s d r kk rx
      refine .inr (.inr (.inr ⟨a, o, rfl, g, ?_⟩))
      have eo : o.isSome = (dFind kvs x).isSome := by
        cases o <;> cases e : dFind kvs x <;> rw [e] at ro <;> first | rfl | exact ro.elim
      simp only [Bool.false_eq_true, ↓reduceIte]
      rw [eo]
      exact Post.bl s h
  · exact h.elim
theorem o_notIn : Op2 X cl (pb pNotIn) (rNotInAll X.K) := by
  intro F H x y v u Q s rx ry h
  unfold pb pNotIn pIn at h
  split at h
  · rename_i ys
    split at h
    · rename_i f
      rw [Bool.and_eq_true] at f
      obtain ⟨a, vs, rfl, q, r⟩ := ry.lst s
      have px := rv_fl rx f.1
      obtain ⟨h1, h2⟩ := rpL_fl px f.1 r f.2
      refine .inl ⟨a, vs, rfl, .inl q, rp_fl px f.1, h1, ?_⟩
      simp only [↓reduceIte]
      rw [h2]
      exact Post.bl s h
    · split at h
      · rename_i d
        rw [Bool.and_eq_true] at d
        obtain ⟨d1, s1⟩ := dp_rv s rx d.1 (by decide)
        obtain ⟨d2, s2⟩ := dp_rv s ry d.2 (by decide)
        have dl := d.2
        simp only [isD] at dl
        refine .inr (.inl ⟨_, toDL ys, d1, by simpa [toD] using d2, s1, by simpa [toD] using s2, ?_⟩)
        rw [any_toD d.1 dl]
        exact Post.bl s h
      · exact h.elim
  · rename_i ys
    split at h
    · rename_i f
      rw [Bool.and_eq_true] at f
      obtain ⟨a, vs, rfl, q, r⟩ := ry.tup s
      have px := rv_fl rx f.1
      obtain ⟨h1, h2⟩ := rpL_fl px f.1 r f.2
      refine .inl ⟨a, vs, rfl, .inr (SqT.of q), rp_fl px f.1, h1, ?_⟩
      simp only [↓reduceIte]
      rw [h2]
      exact Post.bl s h
    · exact h.elim
  · rename_i z
    split at h
    · exact .inr (.inr (.inl ⟨_, _, rx.str, ry.str, Post.bl s h⟩))
    · exact h.elim
  · rename_i t kvs
    cases kk : keyOk t x with
    | false => rw [kk] at h; exact h.elim
    | true =>
      rw [kk] at h
      obtain ⟨a, ks, rfl, d, r⟩ := ry.dct s
      obtain ⟨o, g, ro⟩ := dget_of s d r kk rx
      refine .inr (.inr (.inr ⟨a, o, rfl, g, ?_⟩))
      have eo : o.isSome = (dFind kvs x).isSome := by
        cases o <;> cases e : dFind kvs x <;> rw [e] at ro <;> first | rfl | exact ro.elim
      simp only [↓reduceIte]
      rw [eo]
      exact Post.bl s h
  · exact h.elim
theorem q_in {a b : Expr} {pos : Pos} {f g : Ex} (hu : X.A.units + 65 < cLine) (ha : QE cl X W f a) (hb : QE cl X W g b) (hm : behindInMarks .In b = false := by rfl) : QE cl X W (x2 (pb pIn) f g) (.Compare a [.In] [b] pos) := q_cmp (op_inAll hu) (pb_ne pIn_ne) o_in ha hb hm
theorem q_notIn {a b : Expr} {pos : Pos} {f g : Ex} (hu : X.A.units + 65 < cLine) (ha : QE cl X W f a) (hb : QE cl X W g b) (hm : behindInMarks .NotIn b = false := by rfl) : QE cl X W (x2 (pb pNotIn) f g) (.Compare a [.NotIn] [b] pos) := q_cmp (op_notInAll hu) (pb_ne pNotIn_ne) o_notIn ha hb hm
/-- is, of truths -/
def pIsB (x y : PV) : R Bool := match x, y with
  | .bl a, .bl b => .ok (decide (a = b))
  | _, _ => .no
def pNotB (x y : PV) : R Bool := match x, y with
  | .bl a, .bl b => .ok (!decide (a = b))
  | _, _ => .no
theorem q_isB {a b : Expr} {pos : Pos} {f g : Ex} (ha : QE cl X W f a) (hb : QE cl X W g b) : QE cl X W (x2 (pb pIsB) f g) (.Compare a [.Is] [b] pos) :=
  q_cmp op_isBl (pb_ne fun x y e h => by unfold pIsB at h; split at h <;> cases h) (fun F H x y v u Q s rx ry h => by
    unfold pb pIsB at h
    split at h
    · exact ⟨_, _, rx.bl, ry.bl, Post.bl s h⟩
    · exact h.elim) ha hb (nomark _)
theorem q_notB {a b : Expr} {pos : Pos} {f g : Ex} (ha : QE cl X W f a) (hb : QE cl X W g b) : QE cl X W (x2 (pb pNotB) f g) (.Compare a [.IsNot] [b] pos) :=
  q_cmp op_notBl (pb_ne fun x y e h => by unfold pNotB at h; split at h <;> cases h) (fun F H x y v u Q s rx ry h => by
    unfold pb pNotB at h
    split at h
    · exact ⟨_, _, rx.bl, ry.bl, Post.bl s h⟩
    · exact h.elim) ha hb (nomark _)
end
end Z
/-! the pure layer, part G: statements, loops, comprehensions -/
namespace Z
open PySem L2
/-- where a statement leads -/
inductive Os where
  | nx (γ : Env) | rt (x : PV) (γ : Env) | bk (γ : Env) | ct (γ : Env) | er (e : Xc) (γ : Env) | no
structure Step (F : Hp) (A : List Addr) (H F' : Hp) (A' : List Addr) (H' : Hp) : Prop where
  fle : Same F F'
  keep : ∀ a o, a ∉ A → H a = some o → H' a = some o
  own : ∀ a ∈ A', a ∈ A ∨ H a = none
  new : ∀ a o, F' a = some o → F a = some o ∨ a ∈ A ∨ H a = none
theorem Step.refl {F A H} : Step F A H F A H := ⟨Same.refl _, fun _ _ _ h => h, fun _ h => .inl h, fun _ _ h => .inl h⟩
theorem Step.trans {F A H F1 A1 H1 F2 A2 H2} (a : Step F A H F1 A1 H1) (b : Step F1 A1 H1 F2 A2 H2) : Step F A H F2 A2 H2 := by
  have back : ∀ x, H1 x = none → x ∈ A ∨ H x = none := fun x h => by
    by_cases hx : x ∈ A
    · exact .inl hx
    · cases q : H x with
      | none => exact .inr rfl
      | some o => rw [a.keep x o hx q] at h; cases h
  refine ⟨a.fle.trans b.fle, fun x o hx h => b.keep x o (fun z => ?_) (a.keep x o hx h), fun x hx => ?_, fun x o h => ?_⟩
  · rcases a.own x z with q | q
    · exact hx q
    · rw [q] at h; cases h
  · rcases b.own x hx with q | q
    · exact a.own x q
    · exact back x q
  · rcases b.new x o h with q | q | q
    · exact a.new x o q
    · rcases a.own x q with r | r
      · exact .inr (.inl r)
      · exact .inr (.inr r)
    · exact .inr (back x q)
theorem Step.ext {F A H F1 H1} (e : Ext F H F1 H1) : Step F A H F1 A H1 := ⟨e.fle, fun a o _ h => e.hle a o h, fun _ h => .inl h, fun a o h => (e.new a o h).elim .inl fun z => .inr (.inr z)⟩
theorem Step.ext' {F A A' H F1 H1} (e : Ext F H F1 H1) (h : ∀ a ∈ A', a ∈ A ∨ H a = none) : Step F A H F1 A' H1 := ⟨e.fle, fun a o _ h => e.hle a o h, h, fun a o h => (e.new a o h).elim .inl fun z => .inr (.inr z)⟩

section
variable (X : Cx) (cl : String → Option Addr) (W : WX)
def Fin (D : Ends) (F : Hp) (A : List Addr) (H : Hp) : Os → Prop
  | .nx γ' => ∀ F' A' σ' H', Step F A H F' A' H' → Rel ⟨X.K, cl⟩ F' A' σ' H' γ' → D.nx σ' H'
  | .bk γ' => ∀ F' A' σ' H', Step F A H F' A' H' → Rel ⟨X.K, cl⟩ F' A' σ' H' γ' → D.bk σ' H'
  | .ct γ' => ∀ F' A' σ' H', Step F A H F' A' H' → Rel ⟨X.K, cl⟩ F' A' σ' H' γ' → D.ct σ' H'
  | .rt x γ' => ∀ F' A' σ' H' v, Step F A H F' A' H' → Rel ⟨X.K, cl⟩ F' A' σ' H' γ' → Rp ⟨X.K, cl⟩ F' x v → D.rt v H'
  | .er e γ' => ∀ F' A' σ' H' c d, Step F A H F' A' H' → Rel ⟨X.K, cl⟩ F' A' σ' H' γ' → XcR ⟨X.K, cl⟩ F' e c d → W c d σ' H'
  | .no => False
def tqS (g : Env → Os) : TS := fun D σ H => ∃ F A γ, Rel ⟨X.K, cl⟩ F A σ H γ ∧ Fin X cl W D F A H (g γ)
end
structure QS (cl : String → Option Addr) (X : Cx) (W : WX) (g : Env → Os) (st : Stmt) : Prop where
  ps : PS X st (tqS X cl W g)
structure QSs (cl : String → Option Addr) (X : Cx) (W : WX) (g : Env → Os) (st : List Stmt) : Prop where
  ps : PSs X st (tqS X cl W g)
theorem _root_.L2.PS.imp {X : Cx} {e : Stmt} {t t' : TS} (h : PS X e t) (k : ∀ D σ H, t' D σ H → t D σ H) : PS X e t' := ⟨fun pins s σ H D I q => h.run pins s σ H D I (k D σ H q)⟩
theorem _root_.L2.PSs.imp {X : Cx} {e : List Stmt} {t t' : TS} (h : PSs X e t) (k : ∀ D σ H, t' D σ H → t D σ H) : PSs X e t' := ⟨fun pins s σ H D I q => h.run pins s σ H D I (k D σ H q)⟩
section
variable {X : Cx} {cl : String → Option Addr} {W : WX}
theorem Fin.step {D : Ends} {F A H F1 A1 H1} {o : Os} (h : Fin X cl W D F A H o) (s : Step F A H F1 A1 H1) : Fin X cl W D F1 A1 H1 o := by
  cases o with
  | nx γ => exact fun F' A' σ' H' st r => h F' A' σ' H' (s.trans st) r
  | bk γ => exact fun F' A' σ' H' st r => h F' A' σ' H' (s.trans st) r
  | ct γ => exact fun F' A' σ' H' st r => h F' A' σ' H' (s.trans st) r
  | rt x γ => exact fun F' A' σ' H' v st r p => h F' A' σ' H' v (s.trans st) r p
  | er x γ => exact fun F' A' σ' H' c d st r p => h F' A' σ' H' c d (s.trans st) r p
  | no => exact h

/-! ### blocks -/
def sNx : Env → Os := .nx
def sSeq (g h : Env → Os) : Env → Os := fun γ => match g γ with
  | .nx γ' => h γ'
  | o => o
theorem qs_nil : QSs cl X W sNx [] := ⟨pss_nil.imp fun D σ H h => by
  obtain ⟨F, A, γ, rel, h⟩ := h
  exact h F A σ H Step.refl rel⟩
theorem qs_cons {g h} {st : Stmt} {rest : List Stmt} (h1 : QS cl X W g st) (h2 : QSs cl X W h rest) : QSs cl X W (sSeq g h) (st :: rest) := ⟨(pss_cons h1.ps h2.ps).imp fun D σ H hh => by
  obtain ⟨F, A, γ, rel, hh⟩ := hh
  refine ⟨F, A, γ, rel, ?_⟩
  unfold sSeq at hh
  cases e : g γ with
  | nx γ' => rw [e] at hh; exact fun F' A' σ' H' st r => ⟨F', A', γ', r, hh.step st⟩
  | rt x γ' => rw [e] at hh; exact hh
  | bk γ' => rw [e] at hh; exact hh
  | ct γ' => rw [e] at hh; exact hh
  | er x γ' => rw [e] at hh; exact hh
  | no => rw [e] at hh; exact hh⟩
theorem qs_one {g} {st : Stmt} (h1 : QS cl X W g st) : QSs cl X W g [st] := ⟨pss_one h1.ps⟩
theorem qs_pass {pos} : QS cl X W sNx (.Pass pos) := ⟨ps_pass.imp fun D σ H h => by
  obtain ⟨F, A, γ, rel, h⟩ := h
  exact h F A σ H Step.refl rel⟩
theorem qs_break {pos} : QS cl X W .bk (.Break pos) := ⟨ps_break.imp fun D σ H h => by
  obtain ⟨F, A, γ, rel, h⟩ := h
  exact h F A σ H Step.refl rel⟩
theorem qs_continue {pos} : QS cl X W .ct (.Continue pos) := ⟨ps_continue.imp fun D σ H h => by
  obtain ⟨F, A, γ, rel, h⟩ := h
  exact h F A σ H Step.refl rel⟩

/-! ### name = e -/
def stow (i : Nat) (l : Vl) (γ : Env) : Os := match l with
  | .fr m x => .nx (γ.set i (.sl m x))
  | .pk .fz x => .nx (γ.set i (.sl .fz x))
  | .pk _ _ => .no
def sSet (i : Nat) (f : Ex) : Env → Os := fun γ => match f γ with
  | .ok l => stow i l γ
  | .er e => .er e γ
  | .no => .no
theorem Rel.put {T : Tb} {F H : Hp} {A σ γ} {i : Nat} {m x v Ar} (rel : Rel T F A σ H γ) (r : OwM T F H m x v Ar) (nr : Ar.Nodup) (d : ∀ a ∈ Ar, a ∉ A ∧ F a = none) : ∃ A', Rel T F A' (σ.set i (some v)) H (γ.set i (.sl m x)) ∧ ∀ a ∈ A', a ∈ A ∨ a ∈ Ar := by
  by_cases l : i < γ.length
  · obtain ⟨A', h1, h2, h3⟩ := OwE.put γ rel.env l r rel.nd nr fun a ha => (d a ha).1
    refine ⟨A', ⟨rel.sub, h1, h2, fun a ha => ?_⟩, h3⟩
    rcases h3 a ha with z | z
    · exact rel.dis a z
    · exact (d a z).2
  · refine ⟨A, ⟨rel.sub, ?_, rel.nd, rel.dis⟩, fun a ha => .inl ha⟩
    rw [List.set_eq_of_length_le (by omega), List.set_eq_of_length_le (by rw [OwE.length γ rel.env]; omega)]
    exact rel.env
/-- a value stored in a slot -/
theorem stow_ok {D : Ends} {F A H γ σ F1 H1 l v} {i : Nat} (rel : Rel ⟨X.K, cl⟩ F A σ H γ) (e1 : Ext F H F1 H1) (r : VlR ⟨X.K, cl⟩ F1 H1 H A l v) (h : Fin X cl W D F A H (stow i l γ)) : D.nx (σ.set i (some v)) H1 := by
  have rel1 := rel.ext e1
  cases l with
  | fr m x =>
    obtain ⟨Ar, h1, h2, h3⟩ := r
    have hd : ∀ a ∈ Ar, a ∉ A := fun a ha z => by
      obtain ⟨o, q⟩ := OwE.dom γ rel.env a z
      rw [(h3 a ha).1] at q
      cases q
    obtain ⟨A', ra, ha⟩ := rel1.put (i := i) h1 h2 fun a ha => ⟨hd a ha, (h3 a ha).2⟩
    exact h F1 A' _ H1 (Step.ext' e1 fun a z => (ha a z).elim .inl fun q => .inr (h3 a q).1) ra
  | pk m x =>
    cases m with
    | fz =>
      obtain ⟨Ai, h1, _⟩ := r
      simp only [OwM] at h1
      obtain ⟨A', ra, ha⟩ := rel1.put (i := i) (OwM.fz_of h1.1) (by simp) (by simp)
      exact h F1 A' _ H1 (Step.ext' e1 fun a z => (ha a z).elim .inl fun q => by simp at q) ra
    | ow => exact h.elim
    | ob ms => exact h.elim
theorem qs_set {i : Nat} {x : Str} {f} {e : Expr} {pos pos' : Pos} (hN : X.N.Nodup) (he : QE cl X W f e) (hi : X.N[i]? = some x := by rfl) (hx : Loc X.env.scope x := by first | exact Or.inl rfl | exact Or.inr rfl) (hs : swapsWith e (some (.Name x pos')) pos.line X.env = pure false := by rfl)
    (hf : X.fn x = true ∨ X.env.scope.names.lookup x = some .local := by first | exact .inl rfl | exact .inr rfl | assumption) : QS cl X W (sSet i f) (.Assign [.Name x pos'] e pos) := ⟨(ps_set (i := i) hN hi hx he.pe hs hf).imp fun D σ H h => by
  obtain ⟨F, A, γ, rel, h⟩ := h
  refine ⟨F, A, γ, rel, ?_⟩
  unfold sSet at h
  cases e : f γ with
  | no => rw [e] at h; exact h
  | er x => rw [e] at h; exact fun F' H' c d ex r => h F' A σ H' c d (Step.ext ex) (rel.ext ex) r
  | ok l => rw [e] at h; exact fun F' H' v ex r => stow_ok rel ex r h⟩

/-! ### an expression alone, if, return -/
def sEx (f : Ex) : Env → Os := fun γ => match f γ with
  | .ok _ => .nx γ
  | .er e => .er e γ
  | .no => .no
theorem qs_expr {f} {e : Expr} {pos : Pos} (he : QE cl X W f e) (hs : swapsWith e none pos.line X.env = pure false := by rfl) : QS cl X W (sEx f) (.Expr e pos) := ⟨(ps_expr he.pe hs).imp fun D σ H h => by
  obtain ⟨F, A, γ, rel, h⟩ := h
  refine ⟨F, A, γ, rel, ?_⟩
  unfold sEx at h
  cases e : f γ with
  | no => rw [e] at h; exact h
  | er x => rw [e] at h; exact fun F' H' c d ex r => h F' A σ H' c d (Step.ext ex) (rel.ext ex) r
  | ok l => rw [e] at h; exact fun F' H' v ex r => h F' A σ H' (Step.ext ex) (rel.ext ex)⟩
def sIf (t : Env → R Bool) (g h : Env → Os) : Env → Os := fun γ => match t γ with
  | .ok b => if b then g γ else h γ
  | .er e => .er e γ
  | .no => .no
theorem qs_if {t g h} {c : Expr} {a b : List Stmt} {pos : Pos} (hc : QT cl X W t c) (ha : QSs cl X W g a) (hb : QSs cl X W h b) : QS cl X W (sIf t g h) (.If c a b pos) := ⟨(ps_if hc.pt ha.ps hb.ps).imp fun D σ H hh => by
  obtain ⟨F, A, γ, rel, hh⟩ := hh
  refine ⟨F, A, γ, rel, ?_⟩
  unfold sIf at hh
  cases e : t γ with
  | no => rw [e] at hh; exact hh
  | er x => rw [e] at hh; exact fun F' H' c d ex r => hh F' A σ H' c d (Step.ext ex) (rel.ext ex) r
  | ok l =>
    rw [e] at hh
    intro F' H' ex
    cases l with
    | true => exact ⟨F', A, γ, rel.ext ex, Fin.step hh (Step.ext ex)⟩
    | false => exact ⟨F', A, γ, rel.ext ex, Fin.step hh (Step.ext ex)⟩⟩
/-- all slots forgotten -/
def unE (γ : Env) : Env := γ.map fun _ => .un
theorem unE_rel {T : Tb} {F H : Hp} (s : Same F H) : ∀ (γ : Env) {σ : St}, σ.length = γ.length → OwE T F H (unE γ) σ []
  | [], σ, h => by
    have : σ = [] := List.length_eq_zero_iff.mp h
    subst this
    simp [unE, OwE]
  | sl :: γ, σ, h => by
    cases σ with
    | nil => simp at h
    | cons w σ =>
      simp only [unE, List.map_cons, OwE]
      exact ⟨w, σ, rfl, unE_rel s γ (by simpa using h)⟩
/-- return e: whatever it is, frozen; the slots are forgotten -/
def sRet (f : Ex) : Env → Os := fun γ => match f γ with
  | .ok l => .rt l.x (unE γ)
  | .er e => .er e γ
  | .no => .no
theorem qs_ret {f} {e : Expr} {pos : Pos} (he : QE cl X W f e) : QS cl X W (sRet f) (.Return (some e) pos) := ⟨(ps_ret he.pe).imp fun D σ H h => by
  obtain ⟨F, A, γ, rel, h⟩ := h
  refine ⟨F, A, γ, rel, ?_⟩
  unfold sRet at h
  cases e : f γ with
  | no => rw [e] at h; exact h
  | er x => rw [e] at h; exact fun F' H' c d ex r => h F' A σ H' c d (Step.ext ex) (rel.ext ex) r
  | ok l =>
    rw [e] at h
    intro F1 H1 v e1 r
    have go : ∀ Ar : List Addr, (∀ a ∈ Ar, (a ∈ A ∨ H a = none) ∧ F1 a = none) → (∀ a ∈ Ar, ∃ o, H1 a = some o) → (∀ F2, Same F1 F2 → (∀ a ∈ Ar, ∀ o, H1 a = some o → F2 a = some o) → Rp ⟨X.K, cl⟩ F2 l.x v) → D.rt v H1 := fun Ar h1 hd h2 => by
      have d : ∀ a ∈ Ar, F1 a = none := fun a ha => (h1 a ha).2
      refine h (frz F1 H1 Ar) [] σ H1 v ⟨e1.fle.trans (frz_same d), fun a o _ q => e1.hle a o q, by simp, fun a o q => ?_⟩ ⟨frz_sub e1.sub, unE_rel (frz_sub e1.sub) γ (OwE.length γ rel.env), by simp, by simp⟩ (h2 _ (frz_same d) fun a ha o q => frz_at ha q)
      by_cases ha : a ∈ Ar
      · exact .inr (h1 a ha).1
      · rw [frz_out ha] at q
        exact (e1.new a o q).elim .inl fun z => .inr (.inr z)
    cases l with
    | fr m x =>
      obtain ⟨Ar, k1, _, k3⟩ := r
      exact go Ar (fun a ha => ⟨.inr (k3 a ha).1, (k3 a ha).2⟩) (OwM.dom m k1) fun F2 s2 k => OwM.freeze s2 m k1 k
    | pk m x =>
      obtain ⟨Ai, k1, k2⟩ := r
      exact go Ai (fun a ha => ⟨.inl (k2 a ha), (rel.ext e1).dis a (k2 a ha)⟩) (OwM.dom m k1) fun F2 s2 k => OwM.freeze s2 m k1 k⟩
def sRetN : Env → Os := fun γ => .rt .non γ
theorem qs_retN {pos : Pos} : QS cl X W sRetN (.Return none pos) := ⟨ps_retN.imp fun D σ H h => by
  obtain ⟨F, A, γ, rel, h⟩ := h
  exact h F A σ H .non Step.refl rel (by simp [Rp])⟩

/-! ### targets -/
abbrev Tg := PV → Env → Option Env
/-- js: the slots that it may store to -/
def tqGt (K : PySem.W.Frag) (cl : String → Option Addr) (js : List Nat) (g : Tg) : TG := fun v σ H Q => ∃ F A γ x, Rel ⟨K, cl⟩ F A σ H γ ∧ Rp ⟨K, cl⟩ F x v ∧ match g x γ with
  | some γ' => ∀ A' σ', Rel ⟨K, cl⟩ F A' σ' H γ' → (∀ a ∈ A', a ∈ A) → (∀ vs : List Nat, (∀ j ∈ js, j ∈ vs) → wipe σ' vs = wipe σ vs) → Q σ' H
  | none => False
structure QG (cl : String → Option Addr) (X : Cx) (js : List Nat) (g : Tg) (e : Expr) : Prop where
  pg : PG X e (tqGt X.K cl js g)
theorem _root_.L2.PG.imp {X : Cx} {e : Expr} {t t' : TG} (h : PG X e t) (k : ∀ v σ H Q, t' v σ H Q → t v σ H Q) : PG X e t' := ⟨fun pins s σ H v u Q I r q => h.run pins s σ H v u Q I r (k v σ H Q q)⟩
theorem wipe_at {vs : List Nat} {j k : Nat} (σ : St) : (wipe σ vs)[k]? = if k ∈ vs then (if k < σ.length then some none else none) else σ[k]? := by
  induction vs with
  | nil => simp [wipe]
  | cons v vs ih =>
    unfold wipe
    rw [List.getElem?_set]
    by_cases hv : v = k
    · subst hv
      rw [if_pos rfl, if_pos List.mem_cons_self, wipe_length]
    · rw [if_neg hv, ih]
      by_cases hk : k ∈ vs
      · rw [if_pos hk, if_pos (List.mem_cons_of_mem _ hk)]
      · rw [if_neg hk, if_neg]
        intro z
        rcases List.mem_cons.mp z with q | q
        · exact hv q.symm
        · exact hk q
theorem wipe_set {vs : List Nat} {j : Nat} (σ : St) (w : Option V) (h : j ∈ vs) : wipe (σ.set j w) vs = wipe σ vs := by
  apply List.ext_getElem?
  intro k
  rw [wipe_at (j := 0), wipe_at (j := 0), List.length_set, List.getElem?_set]
  by_cases hk : k ∈ vs
  · rw [if_pos hk, if_pos hk]
  · rw [if_neg hk, if_neg hk, if_neg]
    rintro rfl
    exact hk h
def tgN (i : Nat) : Tg := fun x γ => some (γ.set i (.sl .fz x))
theorem qg_name {i : Nat} {x : Str} {pos : Pos} (hN : X.N.Nodup) (hi : X.N[i]? = some x := by rfl) (hx : Loc X.env.scope x := by first | exact Or.inl rfl | exact Or.inr rfl) (hf : X.fn x = true ∨ X.env.scope.names.lookup x = some .local := by first | exact .inl rfl | exact .inr rfl | assumption) : QG cl X [i] (tgN i) (.Name x pos) := ⟨(pg_name (i := i) hN hi hx hf).imp fun v σ H Q h => by
  obtain ⟨F, A, γ, y, rel, r, h⟩ := h
  obtain ⟨A', ra, ha⟩ := rel.put (i := i) (OwM.fz_of r) (by simp) (by simp)
  exact h A' _ ra (fun a z => (ha a z).elim id fun q => by simp at q) fun vs hv => wipe_set σ _ (hv i (by simp))⟩
abbrev Tgs := List PV → Env → Option Env
def tqGs (K : PySem.W.Frag) (cl : String → Option Addr) (js : List Nat) (g : Tgs) : TGs := fun vs σ H Q => ∃ F A γ xs, Rel ⟨K, cl⟩ F A σ H γ ∧ RpL ⟨K, cl⟩ F xs vs ∧ match g xs γ with
  | some γ' => ∀ A' σ', Rel ⟨K, cl⟩ F A' σ' H γ' → (∀ a ∈ A', a ∈ A) → (∀ vs : List Nat, (∀ j ∈ js, j ∈ vs) → wipe σ' vs = wipe σ vs) → Q σ' H
  | none => False
structure QGs (cl : String → Option Addr) (X : Cx) (js : List Nat) (g : Tgs) (e : List Expr) : Prop where
  pg : PGs X e (tqGs X.K cl js g)
theorem _root_.L2.PGs.imp {X : Cx} {e : List Expr} {t t' : TGs} (h : PGs X e t) (k : ∀ v σ H Q, t' v σ H Q → t v σ H Q) : PGs X e t' := ⟨fun pins s σ H v u Q I r q => h.run pins s σ H v u Q I r (k v σ H Q q)⟩
def tgNil : Tgs := fun xs γ => match xs with
  | [] => some γ
  | _ => none
def tgCons (g : Tg) (gs : Tgs) : Tgs := fun xs γ => match xs with
  | x :: r => (g x γ).bind fun γ' => gs r γ'
  | [] => none
theorem qgs_nil : QGs cl X [] tgNil [] := ⟨pgs_nil.imp fun vs σ H Q h => by
  obtain ⟨F, A, γ, xs, rel, r, h⟩ := h
  cases xs with
  | nil =>
    simp only [RpL] at r
    exact ⟨r, h A σ rel (fun _ q => q) fun _ _ => rfl⟩
  | cons x xs => exact h.elim⟩
theorem qgs_cons {js ks : List Nat} {g gs} {e : Expr} {es : List Expr} (h1 : QG cl X js g e) (h2 : QGs cl X ks gs es) (hs : (assignEach (e :: es) X.env).map (·.2) = assign e X.env :: (assignEach es X.env).map (·.2) := by rfl) : QGs cl X (js ++ ks) (tgCons g gs) (e :: es) := ⟨(pgs_cons h1.pg h2.pg hs).imp fun vs σ H Q h => by
  obtain ⟨F, A, γ, xs, rel, r, h⟩ := h
  cases xs with
  | nil => exact h.elim
  | cons x xs =>
    simp only [RpL] at r
    obtain ⟨v, ws, rfl, p, q⟩ := r
    refine ⟨v, ws, rfl, F, A, γ, x, rel, p, ?_⟩
    simp only [tgCons] at h
    cases e : g x γ with
    | none => rw [e] at h; exact h.elim
    | some γ1 =>
      rw [e] at h
      simp only [Option.bind_some] at h
      intro A1 σ1 rel1 a1 w1
      refine ⟨F, A1, γ1, xs, rel1, q, ?_⟩
      cases e2 : gs xs γ1 with
      | none => rw [e2] at h; exact h.elim
      | some γ2 =>
        rw [e2] at h
        exact fun A2 σ2 rel2 a2 w2 => h A2 σ2 rel2 (fun a z => a1 a (a2 a z)) fun vs hv => (w2 vs fun j hj => hv j (List.mem_append_right _ hj)).trans (w1 vs fun j hj => hv j (List.mem_append_left _ hj))⟩
def tgT (gs : Tgs) : Tg := fun x γ => match x with
  | .tup xs => gs xs γ
  | _ => none
theorem qg_tup {js : List Nat} {gs} {es : List Expr} {k : Nat} {n : Nat} {pos : Pos} (hc : X.calm = true) (h : QGs cl X js gs es) (hl : ∀ xs γ γ', gs xs γ = some γ' → xs.length = n) (hn : (assignEach es X.env).length = n := by rfl) (hst : (assignEach es X.env).findIdx? (·.1) = none := by rfl) :
    QG cl X js (tgT gs) (.Tuple es k pos) := ⟨(pg_tup hc h.pg hn hst).imp fun v σ H Q hh => by
  obtain ⟨F, A, γ, x, rel, r, hh⟩ := hh
  cases x <;> try exact hh.elim
  rename_i xs
  simp only [Rp] at r
  obtain ⟨a, vs, rfl, q, r⟩ := r
  refine ⟨a, vs, rfl, SqT.of (rel.sub _ _ q), ?_, F, A, γ, xs, rel, r, ?_⟩
  · rw [r.length]
    simp only [tgT] at hh
    cases e : gs xs γ with
    | none => rw [e] at hh; exact hh.elim
    | some γ' => exact hl xs γ γ' e
  · exact hh⟩
theorem tgl_nil : ∀ xs γ γ', tgNil xs γ = some γ' → xs.length = 0 := fun xs γ γ' h => by
  cases xs <;> simp [tgNil] at h <;> rfl
theorem tgl_cons {g : Tg} {gs : Tgs} {n : Nat} (h : ∀ xs γ γ', gs xs γ = some γ' → xs.length = n) : ∀ xs γ γ', tgCons g gs xs γ = some γ' → xs.length = n + 1 := fun xs γ γ' e => by
  cases xs with
  | nil => simp [tgCons] at e
  | cons x xs =>
    simp only [tgCons] at e
    cases e1 : g x γ with
    | none => rw [e1] at e; cases e
    | some γ1 => rw [e1] at e; simp [h xs γ1 γ' e]
/-- a, b = e (e any tuple) -/
def sTg (f : Ex) (g : Tg) : Env → Os := fun γ => match f γ with
  | .ok l => match l.keep with
    | .ok x => match g x γ with
      | some γ' => .nx γ'
      | none => .no
    | _ => .no
  | .er e => .er e γ
  | .no => .no
theorem qs_asgT {js f g} {tg e : Expr} {pos : Pos} (he : QE cl X W f e) (hg : QG cl X js g tg) (hs : swapsWithSole [tg] e pos.line X.env = pure false := by rfl) (hw : swappedStores [tg] e X.env = pure none := by rfl)
    (h1 : (assignEach [tg] X.env).map (·.2) = [assign tg X.env] := by rfl) : QS cl X W (sTg f g) (.Assign [tg] e pos) := ⟨(ps_asg he.pe hg.pg hs hw h1).imp fun D σ H h => by
  obtain ⟨F, A, γ, rel, h⟩ := h
  refine ⟨F, A, γ, rel, ?_⟩
  unfold sTg at h
  cases e : f γ with
  | no => rw [e] at h; exact h
  | er x => rw [e] at h; exact fun F' H' c d ex r => h F' A σ H' c d (Step.ext ex) (rel.ext ex) r
  | ok l =>
    rw [e] at h
    simp only at h
    intro F1 H1 v e1 r1
    cases ek : l.keep with
    | no => rw [ek] at h; exact h.elim
    | er x => exact (l.keep_ne _ ek).elim
    | ok x =>
      rw [ek] at h
      simp only at h
      obtain ⟨F2, e2, s2, rx⟩ := keep_ok r1 e1 ek
      refine ⟨F2, A, γ, x, rel.ext e2, rx, ?_⟩
      cases eg : g x γ with
      | none => rw [eg] at h; exact h.elim
      | some γ' => rw [eg] at h; exact fun A' σ' ra ha _ => h F2 A' σ' H1 (Step.ext' e2 fun a z => .inl (ha a z)) ra⟩

/-! ### what is walked -/
structure ItOk (T : Tb) (J : It) (F0 : Hp) (items : List PV) : Prop where
  go : ∀ F H i x, Same F0 F → Same F H → items[i]? = some x → J.go i H ∧ ∀ v H', J.yld i H v H' → ∃ F', Ext F H F' H' ∧ Rp T F' x v
  stop : ∀ F H, Same F0 F → Same F H → J.stop items.length H
def tqI (K : PySem.W.Frag) (cl : String → Option Addr) (W : WX) (f : Env → R (List PV)) : TI := fun σ H Rr => ∃ F A γ, Rel ⟨K, cl⟩ F A σ H γ ∧ match f γ with
  | .ok items => ∀ F' H' J, Ext F H F' H' → ItOk ⟨K, cl⟩ J F' items → Rr J H'
  | .er e => ∀ F' H' c d, Ext F H F' H' → XcR ⟨K, cl⟩ F' e c d → W c d σ H'
  | .no => False
structure QI (cl : String → Option Addr) (X : Cx) (W : WX) (f : Env → R (List PV)) (tg e : Expr) : Prop where
  pi : PI X tg e (tqI X.K cl W f)
theorem _root_.L2.PI.imp {X : Cx} {tg e : Expr} {t t' : TI} (h : PI X tg e t) (k : ∀ σ H Q, t' σ H Q → t σ H Q) : PI X tg e t' := ⟨fun pins s σ H Q I q => h.run pins s σ H Q I (k σ H Q q)⟩
theorem _root_.L2.SqL.inj {P : Program} {w : World} {K : PySem.W.Frag} {H : Hp} {a : Addr} {xs ys : List V} (h : H a = some (.lst xs)) (k : Rd H a (.lst ys)) : xs = ys := by
  rcases k with k | ⟨o, k⟩
  · rw [h] at k; cases k; rfl
  · rw [h] at k; cases k
/-- items that may be walked: kept -/
def Vl.items (l : Vl) : R (List PV) := l.keep.bind fun x => match x with
  | .lst xs => .ok xs
  | .tup xs => .ok xs
  | _ => .no
theorem itl_ok {T : Tb} {F0 : Hp} {a : Addr} {xs : List PV} {vs : List V} (q : Rd F0 a (.lst vs)) (r : RpL T F0 xs vs) : ItOk T (Itl T.K a) F0 xs := by
  refine ⟨fun F H i x s0 s e => ?_, fun F H s0 s => ⟨vs, .inl (rd_mono (s0.trans s) q), by rw [r.length]; exact Nat.le_refl _⟩⟩
  obtain ⟨v, hv, rv⟩ := r.get e
  have qh : SqL T.K H a vs := .inl (rd_mono (s0.trans s) q)
  refine ⟨⟨vs, v, qh, hv⟩, fun u H' y => ?_⟩
  obtain ⟨e1, y⟩ := y
  subst e1
  have := y vs qh
  rw [hv] at this
  cases this
  exact ⟨F, Ext.refl s, rv.mono s0⟩
theorem itt_ok {T : Tb} {F0 : Hp} {a : Addr} {xs : List PV} {vs : List V} (q : F0 a = some (.tup vs)) (r : RpL T F0 xs vs) : ItOk T (Itt T.K a) F0 xs := by
  refine ⟨fun F H i x s0 s e => ?_, fun F H s0 s => ⟨vs, SqT.of (s _ _ (s0 _ _ q)), by rw [r.length]; exact Nat.le_refl _⟩⟩
  obtain ⟨v, hv, rv⟩ := r.get e
  have qh : SqT T.K H a vs := SqT.of (s _ _ (s0 _ _ q))
  refine ⟨⟨vs, v, qh, hv⟩, fun u H' y => ?_⟩
  obtain ⟨e1, y⟩ := y
  subst e1
  have := y vs qh
  rw [hv] at this
  cases this
  exact ⟨F, Ext.refl s, rv.mono s0⟩
/-- a list or a tuple, walked -/
theorem pi_seq {tg l : Expr} {tl : TE} (hl : PE X l tl) : PI X tg l (fun σ H Rr => tl σ H fun x H1 => ∃ a, x = .ref a ∧ ((∃ xs, SqL X.K H1 a xs ∧ Rr (Itl X.K a) H1) ∨ ∃ xs, SqT X.K H1 a xs ∧ Rr (Itt X.K a) H1)) := by
  refine ⟨fun pins s σ H Rr I h => ?_⟩
  refine thn (hl.run pins s σ H _ I h) fun v s1 ⟨x, H1, I1, r1, q1⟩ => ?_
  obtain ⟨a, e, q1⟩ := q1
  subst e
  cases r1
  rcases q1 with ⟨xs, hq, q⟩ | ⟨xs, hq, q⟩
  · obtain ⟨its, rv, p, hz⟩ := I1.list hq
    refine PySem.wpAny_pyIter_list p.isList ?_
    refine ⟨s1.heap.objs.size, [s1.heap.objs.size], _, _, H1, rfl, I1.kept (t' := s1.toks) fun b o e => Heap.get?_push_of_some _ e, turn_list a _, ⟨_, Heap.get?_push_size _ rfl, rfl, rfl⟩, fun b hb => ?_, q⟩
    have e : b = s1.heap.objs.size := by simpa using hb
    subst e
    exact I1.fpOk (Nat.le_refl _) (I1.hok.fresh (Nat.le_refl _))
  · obtain ⟨its, rv, p, hz⟩ := I1.tuple hq
    refine PySem.wpAny_pyIter_tuple (show s1.heap.IsTuple a its.toArray from p) ?_
    refine ⟨s1.heap.objs.size, [s1.heap.objs.size], _, _, H1, rfl, I1.kept (t' := s1.toks) fun b o e => Heap.get?_push_of_some _ e, turn_tuple a _, ⟨_, Heap.get?_push_size _ rfl, rfl, rfl⟩, fun b hb => ?_, q⟩
    have e : b = s1.heap.objs.size := by simpa using hb
    subst e
    exact I1.fpOk (Nat.le_refl _) (I1.hok.fresh (Nat.le_refl _))
def iSeq (f : Ex) : Env → R (List PV) := fun γ => (f γ).bind Vl.items
theorem qi_seq {f} {tg e : Expr} (he : QE cl X W f e) : QI cl X W (iSeq f) tg e := ⟨(pi_seq he.pe).imp fun σ H Rr h => by
  obtain ⟨F, A, γ, rel, h⟩ := h
  refine ⟨F, A, γ, rel, ?_⟩
  unfold iSeq at h
  cases e : f γ with
  | no => rw [e] at h; exact h
  | er x => rw [e] at h; exact h
  | ok l =>
    rw [e] at h
    simp only [R.bind_ok, Vl.items] at h
    intro F1 H1 v e1 r1
    cases ek : l.keep with
    | no => rw [ek] at h; exact h.elim
    | er x => exact (l.keep_ne _ ek).elim
    | ok x =>
      rw [ek] at h
      simp only [R.bind_ok] at h
      obtain ⟨F2, e2, s2, rx⟩ := keep_ok r1 e1 ek
      cases x <;> try exact h.elim
      · rename_i xs
        simp only [Rp] at rx
        obtain ⟨a, vs, rfl, q, r⟩ := rx
        exact ⟨a, rfl, .inr ⟨vs, SqT.of (e2.sub _ _ q), h F2 H1 _ e2 (itt_ok q r)⟩⟩
      · rename_i xs
        simp only [Rp] at rx
        obtain ⟨a, vs, rfl, q, r⟩ := rx
        exact ⟨a, rfl, .inl ⟨vs, .inl (rd_mono e2.sub q), h F2 H1 _ e2 (itl_ok q r)⟩⟩⟩
/-- ranges -/
def rngL (lo : Int) (n : Nat) : List PV := (List.range n).map fun (k : Nat) => PV.int (lo + (k : Int))
theorem itr_ok {T : Tb} {F0 : Hp} {lo : Int} {n : Nat} : ItOk T (Itr lo n) F0 (rngL lo n) := by
  refine ⟨fun F H i x s0 s e => ?_, fun F H s0 s => by simp [rngL, Itr]⟩
  simp only [rngL, List.getElem?_map] at e
  cases h : (List.range n)[i]? with
  | none => rw [h] at e; cases e
  | some k =>
    rw [h] at e
    have hi : i < n := by simpa using (List.getElem?_eq_some_iff.mp h).1
    have hk : k = i := by
      have := (List.getElem?_eq_some_iff.mp h).2
      simpa using this.symm
    subst hk
    simp at e
    subst e
    refine ⟨hi, fun u H' y => ?_⟩
    obtain ⟨e1, rfl⟩ := y
    subst e1
    exact ⟨F, Ext.refl s, by simp [Rp]⟩
def cRng (i : Int) : Bool := decide (-(2 ^ 62) ≤ i) && decide (i < 2 ^ 62)
theorem cRng_of {i : Int} (h : cRng i = true) : -(2 ^ 62) ≤ i ∧ i < 2 ^ 62 := by simpa [cRng] using h
def pRng : List PV → R (List PV)
  | [.int j] => if cRng j then .ok (rngL 0 j.toNat) else .no
  | [.int i, .int j] => if cRng i && cRng j then .ok (rngL i (j - i).toNat) else .no
  | _ => .no
def iRng (fs : Env → R (List PV)) : Env → R (List PV) := fun γ => (fs γ).bind pRng
theorem pRng_ok {xs items : List PV} (h : pRng xs = .ok items) : (∃ j, xs = [.int j] ∧ cRng j = true ∧ items = rngL 0 j.toNat) ∨ ∃ i j, xs = [.int i, .int j] ∧ cRng i = true ∧ cRng j = true ∧ items = rngL i (j - i).toNat := by
  unfold pRng at h
  split at h
  · split at h
    · cases h; exact .inl ⟨_, rfl, by assumption, rfl⟩
    · cases h
  · split at h
    · rename_i c
      rw [Bool.and_eq_true] at c
      cases h; exact .inr ⟨_, _, rfl, c.1, c.2, rfl⟩
    · cases h
  · cases h
theorem pRng_ne (xs : List PV) (e : Xc) : pRng xs ≠ .er e := fun h => by
  unfold pRng at h
  split at h
  · split at h <;> cases h
  · split at h <;> cases h
  · cases h
theorem qi_range1 {fs} {tg a : Expr} {p pos : Pos} (hm : X.mg "range" = none) (ha : QA cl X W fs [a]) (h1 : ∀ γ xs, fs γ = .ok xs → xs.length = 1) (hg : Gl X "range" := by rfl) (hs : starEach [a] X.env = [(false, eval a X.env)] := by rfl) : QI cl X W (iRng fs) tg (.Call (.Name "range" p) [a] [] pos) := ⟨(pi_range1 hg hm ha.pa hs).imp fun σ H Rr h => by
  obtain ⟨F, A, γ, rel, h⟩ := h
  refine ⟨F, A, γ, rel, ?_⟩
  unfold iRng at h
  cases e : fs γ with
  | no => rw [e] at h; exact h
  | er x => rw [e] at h; exact h
  | ok xs =>
    rw [e] at h
    simp only [R.bind_ok] at h
    intro F1 H1 vs e1 r1
    cases e' : pRng xs with
    | no => rw [e'] at h; exact h.elim
    | er x => exact (pRng_ne _ _ e').elim
    | ok items =>
      rw [e'] at h
      rcases pRng_ok e' with ⟨j, rfl, cj, rfl⟩ | ⟨i, j, rfl, ci, cj, rfl⟩
      · obtain ⟨v, rfl, rv⟩ := r1.one
        have c := cRng_of cj
        exact ⟨j, by rw [rv.int], c.1, c.2, h F1 H1 _ e1 itr_ok⟩
      · have := h1 γ _ e; simp at this⟩
theorem qi_range2 {fs} {tg a b : Expr} {p pos : Pos} (hm : X.mg "range" = none) (ha : QA cl X W fs [a, b]) (h1 : ∀ γ xs, fs γ = .ok xs → xs.length = 2) (hg : Gl X "range" := by rfl) (hs : starEach [a, b] X.env = [(false, eval a X.env), (false, eval b X.env)] := by rfl) (hs2 : starEach [b] X.env = [(false, eval b X.env)] := by rfl) : QI cl X W (iRng fs) tg (.Call (.Name "range" p) [a, b] [] pos) := ⟨(pi_range2 hg hm ha.pa hs hs2).imp fun σ H Rr h => by
  obtain ⟨F, A, γ, rel, h⟩ := h
  refine ⟨F, A, γ, rel, ?_⟩
  unfold iRng at h
  cases e : fs γ with
  | no => rw [e] at h; exact h
  | er x => rw [e] at h; exact h
  | ok xs =>
    rw [e] at h
    simp only [R.bind_ok] at h
    intro F1 H1 vs e1 r1
    cases e' : pRng xs with
    | no => rw [e'] at h; exact h.elim
    | er x => exact (pRng_ne _ _ e').elim
    | ok items =>
      rw [e'] at h
      rcases pRng_ok e' with ⟨j, rfl, cj, rfl⟩ | ⟨i, j, rfl, ci, cj, rfl⟩
      · have := h1 γ _ e; simp at this
      · obtain ⟨v, w, rfl, rv, rw'⟩ := r1.two
        have c := cRng_of ci
        have d := cRng_of cj
        exact ⟨i, j, by rw [rv.int, rw'.int], ⟨c.1, c.2, d.1, d.2⟩, h F1 H1 _ e1 itr_ok⟩⟩
theorem al_nil : ∀ γ xs, aNil γ = .ok xs → xs.length = 0 := fun γ xs h => by cases h; rfl
theorem al_cons {f : Ex} {fs : Env → R (List PV)} {n : Nat} (h : ∀ γ xs, fs γ = .ok xs → xs.length = n) : ∀ γ xs, aCons f fs γ = .ok xs → xs.length = n + 1 := fun γ xs e => by
  unfold aCons at e
  cases e1 : f γ with
  | no => rw [e1] at e; cases e
  | er x => rw [e1] at e; cases e
  | ok l =>
    rw [e1] at e
    simp only [R.bind_ok] at e
    cases e2 : fs γ with
    | no => rw [e2] at e; cases e
    | er x => rw [e2] at e; cases e
    | ok ys => rw [e2] at e; cases e; simp [h γ ys e2]
/-- enumerate(xs) of a list; the items are pairs -/
def enumL (k : Nat) : List PV → List PV
  | [] => []
  | x :: xs => .tup [.int (k : Int), x] :: enumL (k + 1) xs
theorem enumL_get : ∀ (xs : List PV) (k i : Nat), (enumL k xs)[i]? = (xs[i]?).map fun x => .tup [.int ((k + i : Nat) : Int), x]
  | [], k, i => by simp [enumL]
  | x :: xs, k, 0 => by simp [enumL]
  | x :: xs, k, i + 1 => by
    simp only [enumL, List.getElem?_cons_succ, enumL_get xs (k + 1) i]
    rw [show k + 1 + i = k + (i + 1) by omega]
theorem enumL_length : ∀ (xs : List PV) (k : Nat), (enumL k xs).length = xs.length
  | [], k => rfl
  | x :: xs, k => by simp [enumL, enumL_length xs (k + 1)]
theorem ite_ok {T : Tb} {F0 : Hp} {a : Addr} {xs : List PV} {vs : List V} (q : Rd F0 a (.lst vs)) (r : RpL T F0 xs vs) : ItOk T (Ite T.K a) F0 (enumL 0 xs) := by
  refine ⟨fun F H i x s0 s e => ?_, fun F H s0 s => ⟨vs, .inl (rd_mono (s0.trans s) q), by rw [enumL_length, r.length]; exact Nat.le_refl _⟩⟩
  rw [enumL_get] at e
  cases ei : xs[i]? with
  | none => rw [ei] at e; cases e
  | some y =>
    rw [ei] at e
    simp at e
    obtain ⟨v, hv, rv⟩ := r.get ei
    have qh : SqL T.K H a vs := .inl (rd_mono (s0.trans s) q)
    refine ⟨⟨vs, v, qh, hv⟩, fun u H' yl => ?_⟩
    obtain ⟨Ta, w, rfl, nT, rfl, h4⟩ := yl
    have := h4 vs qh
    rw [hv] at this
    cases this
    refine ⟨_, Ext.newF s nT, ?_⟩
    rw [← e]
    exact new_tup s nT (RpL.cons (by simp [Rp]) (RpL.cons (rv.mono s0) RpL.nil))
def iEnu (f : Ex) : Env → R (List PV) := fun γ => (f γ).bind fun l => l.keep.bind fun x => match x with
  | .lst xs => .ok (enumL 0 xs)
  | _ => .no
theorem qi_enum {f} {e : Expr} {p pos tpos : Pos} {elts : List Expr} {kk : Nat} (hm : X.mg "enumerate" = none) (he : QE cl X W f e) (hg : Gl X "enumerate" := by rfl) (hs : starEach [e] X.env = [(false, eval e X.env)] := by rfl)
    (hs2 : starEach [e] X.env = (false, eval e X.env) :: starEach [] X.env := by rfl) : QI cl X W (iEnu f) (.Tuple elts kk tpos) (.Call (.Name "enumerate" p) [e] [] pos) := ⟨(pi_enum hg hm (pa_cons he.pe pa_nil hs2) hs).imp fun σ H Rr h => by
  obtain ⟨F, A, γ, rel, h⟩ := h
  refine ⟨F, A, γ, rel, ?_⟩
  unfold iEnu at h
  cases e : f γ with
  | no => rw [e] at h; exact h
  | er x => rw [e] at h; exact h
  | ok l =>
    rw [e] at h
    simp only [R.bind_ok] at h
    intro F1 H1 v e1 r1
    cases ek : l.keep with
    | no => rw [ek] at h; exact h.elim
    | er x => exact (l.keep_ne _ ek).elim
    | ok x =>
      rw [ek] at h
      simp only [R.bind_ok] at h
      obtain ⟨F2, e2, s2, rx⟩ := keep_ok r1 e1 ek
      cases x <;> try exact h.elim
      rename_i xs
      simp only [Rp] at rx
      obtain ⟨a, vs, rfl, q, r⟩ := rx
      exact ⟨a, vs, rfl, .inl (rd_mono e2.sub q), h F2 H1 _ e2 (ite_ok q r)⟩⟩
/-- zip of two lists, or of two tuples -/
def zipL : List PV → List PV → List PV
  | x :: xs, y :: ys => .tup [x, y] :: zipL xs ys
  | _, _ => []
theorem zipL_get : ∀ (xs ys : List PV) (i : Nat), (zipL xs ys)[i]? = (xs[i]?).bind fun x => (ys[i]?).map fun y => .tup [x, y]
  | [], _, i => by simp [zipL]
  | _ :: _, [], i => by simp [zipL]
  | x :: xs, y :: ys, 0 => by simp [zipL]
  | x :: xs, y :: ys, i + 1 => by simp only [zipL, List.getElem?_cons_succ, zipL_get xs ys i]
theorem zipL_length : ∀ (xs ys : List PV), (zipL xs ys).length = min xs.length ys.length
  | [], _ => by simp [zipL]
  | _ :: _, [] => by simp [zipL]
  | x :: xs, y :: ys => by simp only [zipL, List.length_cons, zipL_length xs ys]; omega
theorem itz_ok {T : Tb} {F0 : Hp} {a b : Addr} {xs ys : List PV} {vs us : List V} (q : Rd F0 a (.lst vs)) (r : RpL T F0 xs vs) (q' : Rd F0 b (.lst us)) (r' : RpL T F0 ys us) : ItOk T (Itz T.K a b) F0 (zipL xs ys) := by
  refine ⟨fun F H i x s0 s e => ?_, fun F H s0 s => ⟨vs, us, .inl (rd_mono (s0.trans s) q), .inl (rd_mono (s0.trans s) q'), by rw [zipL_length, r.length, r'.length]; omega⟩⟩
  rw [zipL_get] at e
  cases ei : xs[i]? with
  | none => rw [ei] at e; cases e
  | some y =>
    cases ej : ys[i]? with
    | none => rw [ei, ej] at e; cases e
    | some z =>
      rw [ei, ej] at e
      simp at e
      obtain ⟨v, hv, rv⟩ := r.get ei
      obtain ⟨u, hu, ru⟩ := r'.get ej
      have qh : SqL T.K H a vs := .inl (rd_mono (s0.trans s) q)
      have qh' : SqL T.K H b us := .inl (rd_mono (s0.trans s) q')
      refine ⟨⟨vs, us, v, u, qh, qh', hv, hu⟩, fun w H' yl => ?_⟩
      obtain ⟨Ta, x1, y1, rfl, nT, rfl, h4, h5⟩ := yl
      have e1 := h4 vs qh
      have e2 := h5 us qh'
      rw [hv] at e1; cases e1
      rw [hu] at e2; cases e2
      refine ⟨_, Ext.newF s nT, ?_⟩
      rw [← e]
      exact new_tup s nT (RpL.cons (rv.mono s0) (RpL.cons (ru.mono s0) RpL.nil))
theorem itzT_ok {T : Tb} {F0 : Hp} {a b : Addr} {xs ys : List PV} {vs us : List V} (q : F0 a = some (.tup vs)) (r : RpL T F0 xs vs) (q' : F0 b = some (.tup us)) (r' : RpL T F0 ys us) : ItOk T (RZ.ItzT T.K a b) F0 (zipL xs ys) := by
  refine ⟨fun F H i x s0 s e => ?_, fun F H s0 s => ⟨vs, us, SqT.of (s _ _ (s0 _ _ q)), SqT.of (s _ _ (s0 _ _ q')), by rw [zipL_length, r.length, r'.length]; omega⟩⟩
  rw [zipL_get] at e
  cases ei : xs[i]? with
  | none => rw [ei] at e; cases e
  | some y =>
    cases ej : ys[i]? with
    | none => rw [ei, ej] at e; cases e
    | some z =>
      rw [ei, ej] at e
      simp at e
      obtain ⟨v, hv, rv⟩ := r.get ei
      obtain ⟨u, hu, ru⟩ := r'.get ej
      have qh : SqT T.K H a vs := SqT.of (s _ _ (s0 _ _ q))
      have qh' : SqT T.K H b us := SqT.of (s _ _ (s0 _ _ q'))
      refine ⟨⟨vs, us, v, u, qh, qh', hv, hu⟩, fun w H' yl => ?_⟩
      obtain ⟨Ta, x1, y1, rfl, nT, rfl, h4, h5⟩ := yl
      have e1 := h4 vs qh
      have e2 := h5 us qh'
      rw [hv] at e1; cases e1
      rw [hu] at e2; cases e2
      refine ⟨_, Ext.newF s nT, ?_⟩
      rw [← e]
      exact new_tup s nT (RpL.cons (rv.mono s0) (RpL.cons (ru.mono s0) RpL.nil))
def pZip (xs : List PV) : R (List PV) := match xs with
  | [.lst xs, .lst ys] => .ok (zipL xs ys)
  | [.tup xs, .tup ys] => .ok (zipL xs ys)
  | _ => .no
theorem pZip_ok {l items : List PV} (h : pZip l = .ok items) : ∃ xs ys, items = zipL xs ys ∧ (l = [.lst xs, .lst ys] ∨ l = [.tup xs, .tup ys]) := by
  unfold pZip at h
  split at h <;> cases h
  · exact ⟨_, _, rfl, .inl rfl⟩
  · exact ⟨_, _, rfl, .inr rfl⟩
theorem pZip_ne (l : List PV) (e : Xc) : pZip l ≠ .er e := fun h => by
  unfold pZip at h
  split at h <;> cases h
def iZp (fs : Env → R (List PV)) : Env → R (List PV) := fun γ => (fs γ).bind pZip
theorem qi_zip {fs} {e e2 : Expr} {p pos tpos : Pos} {elts : List Expr} {kk : Nat} (hm : X.mg "zip" = none) (ha : QZ cl X W fs [e, e2]) (hg : Gl X "zip" := by rfl)
    (hs : starEach [e, e2] X.env = (false, eval e X.env) :: starEach [e2] X.env := by rfl) (hpl : (backTo pos (starEach [e2] X.env)).any (·.1) = false := by rfl) : QI cl X W (iZp fs) (.Tuple elts kk tpos) (.Call (.Name "zip" p) [e, e2] [] pos) := ⟨(RZ.pi_zipA hg hm ha.pa hs hpl).imp fun σ H Rr h => by
  obtain ⟨F, A, γ, rel, h⟩ := h
  refine ⟨F, A, γ, rel, ?_⟩
  unfold iZp at h
  cases e : fs γ with
  | no => rw [e] at h; exact h
  | er x => rw [e] at h; exact h
  | ok l =>
    rw [e] at h
    simp only [R.bind_ok] at h
    intro F1 H1 vs e1 r1
    cases e' : pZip l with
    | no => rw [e'] at h; exact h.elim
    | er x => exact (pZip_ne _ _ e').elim
    | ok items =>
      rw [e'] at h
      obtain ⟨xs, ys, rfl, rfl | rfl⟩ := pZip_ok e'
      · simp only [RpL, Rp] at r1
        obtain ⟨v, ws, rfl, ⟨a, us, rfl, q, r⟩, w', ws', rfl, ⟨b, us', rfl, q', r'⟩, rfl⟩ := r1
        exact ⟨a, b, us, us', rfl, .inl ⟨.inl (rd_mono e1.sub q), .inl (rd_mono e1.sub q'), h F1 H1 _ e1 (itz_ok q r q' r')⟩⟩
      · simp only [RpL, Rp] at r1
        obtain ⟨v, ws, rfl, ⟨a, us, rfl, q, r⟩, w', ws', rfl, ⟨b, us', rfl, q', r'⟩, rfl⟩ := r1
        exact ⟨a, b, us, us', rfl, .inr ⟨SqT.of (e1.sub _ _ q), SqT.of (e1.sub _ _ q'), h F1 H1 _ e1 (itzT_ok q r q' r')⟩⟩⟩
end
end Z
/-! the pure layer, part H: for, while, comprehensions, stores into own lists and dicts -/
namespace Z
open PySem L2
/-! ### for -/
def forL (tg : Tg) (body : Env → Os) : List PV → Env → Os
  | [], γ => .nx γ
  | x :: xs, γ => match tg x γ with
    | none => .no
    | some γ1 => match body γ1 with
      | .nx γ2 => forL tg body xs γ2
      | .ct γ2 => forL tg body xs γ2
      | .bk γ2 => .nx γ2
      | .rt y γ2 => .rt y γ2
      | .er e γ2 => .er e γ2
      | .no => .no
def sFor (it : Env → R (List PV)) (tg : Tg) (body : Env → Os) : Env → Os := fun γ => match it γ with
  | .ok items => forL tg body items γ
  | .er e => .er e γ
  | .no => .no
section
variable {X : Cx} {cl : String → Option Addr} {W : WX}
theorem qs_for {js it tg body} {t iter : Expr} {b : List Stmt} {pos : Pos} (hp : PassesOwn (model X.prog X.w) X.A X.env X.xe) (hc : X.calm = true) (hi : QI cl X W it t iter) (hg : QG cl X js tg t) (hb : QSs cl X W body b)
    (hs : ∀ x, foldedSetIterable iter X.env x = pure x := by intro _; rfl) : QS cl X W (sFor it tg body) (.For t iter b [] pos) := ⟨(ps_for hp hc hi.pi hg.pg hb.ps hs).imp fun D σ H h => by
  obtain ⟨F, A, γ, rel, h⟩ := h
  refine ⟨F, A, γ, rel, ?_⟩
  unfold sFor at h
  cases e : it γ with
  | no => rw [e] at h; exact h
  | er x => rw [e] at h; exact fun F' H' c d ex r => h F' A σ H' c d (Step.ext ex) (rel.ext ex) r
  | ok items =>
    rw [e] at h
    simp only at h
    intro F0 H0 J e0 ok
    refine ⟨fun i m σ H => m = items.length - i ∧ i ≤ items.length ∧ ∃ F A γ, Same F0 F ∧ Rel ⟨X.K, cl⟩ F A σ H γ ∧ Fin X cl W D F A H (forL tg body (items.drop i) γ), ⟨items.length, by simp, Nat.zero_le _, F0, A, γ, Same.refl _, rel.ext e0, by
      rw [List.drop_zero]
      exact h.step (Step.ext e0)⟩, ?_⟩
    rintro i m σ1 H1 ⟨rfl, hi, F1, A1, γ1, s1, rel1, h1⟩
    by_cases hlt : i < items.length
    · obtain ⟨x, ex⟩ : ∃ x, items[i]? = some x := ⟨items[i], by simp [hlt]⟩
      obtain ⟨hgo, hy⟩ := ok.go F1 H1 i x s1 rel1.sub ex
      refine .inr ⟨hgo, fun σ2 H2 => items.length - (i + 1) = items.length - (i + 1) ∧ i + 1 ≤ items.length ∧ ∃ F A γ, Same F0 F ∧ Rel ⟨X.K, cl⟩ F A σ2 H2 γ ∧ Fin X cl W D F A H2 (forL tg body (items.drop (i + 1)) γ), fun σ' H' n => ⟨items.length - (i + 1), by omega, n⟩, fun v H' y => ?_⟩
      obtain ⟨F2, e2, rx⟩ := hy v H' y
      refine ⟨F2, A1, γ1, x, rel1.ext e2, rx, ?_⟩
      have hd : items.drop i = x :: items.drop (i + 1) := by
        rw [List.drop_eq_getElem_cons hlt]
        have := (List.getElem?_eq_some_iff.mp ex).2
        rw [this]
      rw [hd] at h1
      simp only [forL] at h1
      cases et : tg x γ1 with
      | none => rw [et] at h1; exact h1.elim
      | some γ2 =>
        rw [et] at h1
        simp only at h1
        intro A2 σ2 rel2 a2 _
        refine ⟨F2, A2, γ2, rel2, ?_⟩
        have st : Step F1 A1 H1 F2 A2 H' := Step.ext' e2 fun a z => .inl (a2 a z)
        cases eb : body γ2 with
        | no => rw [eb] at h1; exact h1
        | nx γ3 =>
          rw [eb] at h1
          exact fun F' A' σ' H'' st2 r => ⟨rfl, hlt, F', A', γ3, s1.trans (e2.fle.trans st2.fle), r, h1.step (st.trans st2)⟩
        | ct γ3 =>
          rw [eb] at h1
          exact fun F' A' σ' H'' st2 r => ⟨rfl, hlt, F', A', γ3, s1.trans (e2.fle.trans st2.fle), r, h1.step (st.trans st2)⟩
        | bk γ3 => rw [eb] at h1; exact fun F' A' σ' H'' st2 r => h1 F' A' σ' H'' (st.trans st2) r
        | rt y γ3 => rw [eb] at h1; exact fun F' A' σ' H'' v st2 r p => h1 F' A' σ' H'' v (st.trans st2) r p
        | er y γ3 => rw [eb] at h1; exact fun F' A' σ' H'' c d st2 r p => h1 F' A' σ' H'' c d (st.trans st2) r p
    · have ei : i = items.length := by omega
      subst ei
      rw [List.drop_length] at h1
      exact .inl ⟨ok.stop F1 H1 s1 rel1.sub, h1 F1 A1 σ1 H1 Step.refl rel1⟩⟩

/-! ### while -/
def whileF (c : Env → R Bool) (body : Env → Os) : Nat → Env → Os
  | 0, _ => .no
  | n + 1, γ => match c γ with
    | .ok true => match body γ with
      | .nx γ2 => whileF c body n γ2
      | .ct γ2 => whileF c body n γ2
      | .bk γ2 => .nx γ2
      | .rt y γ2 => .rt y γ2
      | .er e γ2 => .er e γ2
      | .no => .no
    | .ok false => .nx γ
    | .er e => .er e γ
    | .no => .no
theorem qs_while {c body} {t : Expr} {b : List Stmt} {pos : Pos} (n : Nat) (hp : PassesOwn (model X.prog X.w) X.A X.env X.xe) (hc : QT cl X W c t) (hb : QSs cl X W body b) : QS cl X W (whileF c body n) (.While t b [] pos) := ⟨(ps_while hp hc.pt hb.ps).imp fun D σ H h => by
  obtain ⟨F, A, γ, rel, h⟩ := h
  refine ⟨fun m σ H => ∃ F A γ, Rel ⟨X.K, cl⟩ F A σ H γ ∧ Fin X cl W D F A H (whileF c body m γ), ⟨n, F, A, γ, rel, h⟩, ?_⟩
  rintro m σ1 H1 ⟨F1, A1, γ1, rel1, h1⟩
  refine ⟨F1, A1, γ1, rel1, ?_⟩
  cases m with
  | zero => exact h1.elim
  | succ m =>
    simp only [whileF] at h1
    cases ec : c γ1 with
    | no => rw [ec] at h1; exact h1
    | er x => rw [ec] at h1; exact fun F' H' c d ex r => h1 F' A1 σ1 H' c d (Step.ext ex) (rel1.ext ex) r
    | ok k =>
      rw [ec] at h1
      intro F2 H2 e2
      cases k with
      | false =>
        rw [if_neg Bool.false_ne_true]
        exact h1 F2 A1 σ1 H2 (Step.ext e2) (rel1.ext e2)
      | true =>
        rw [if_pos rfl]
        refine ⟨fun σ' H' => ∃ F A γ, Rel ⟨X.K, cl⟩ F A σ' H' γ ∧ Fin X cl W D F A H' (whileF c body m γ), fun σ' H' q => ⟨m, by omega, q⟩, F2, A1, γ1, rel1.ext e2, ?_⟩
        simp only at h1
        have st : Step F1 A1 H1 F2 A1 H2 := Step.ext e2
        cases eb : body γ1 with
        | no => rw [eb] at h1; exact h1
        | nx γ3 => rw [eb] at h1; exact fun F' A' σ' H'' st2 r => ⟨F', A', γ3, r, h1.step (st.trans st2)⟩
        | ct γ3 => rw [eb] at h1; exact fun F' A' σ' H'' st2 r => ⟨F', A', γ3, r, h1.step (st.trans st2)⟩
        | bk γ3 => rw [eb] at h1; exact fun F' A' σ' H'' st2 r => h1 F' A' σ' H'' (st.trans st2) r
        | rt y γ3 => rw [eb] at h1; exact fun F' A' σ' H'' v st2 r p => h1 F' A' σ' H'' v (st.trans st2) r p
        | er y γ3 => rw [eb] at h1; exact fun F' A' σ' H'' c d st2 r p => h1 F' A' σ' H'' c d (st.trans st2) r p⟩

/-! ### comprehensions -/
def wipeE (γ : Env) : List Nat → Env
  | [] => γ
  | v :: vs => (wipeE γ vs).set v .un
theorem Rel.wipe {T : Tb} {F H : Hp} {A σ γ} (rel : Rel T F A σ H γ) : ∀ vs : List Nat, ∃ A', Rel T F A' (L2.wipe σ vs) H (wipeE γ vs) ∧ ∀ a ∈ A', a ∈ A
  | [] => ⟨A, rel, fun _ h => h⟩
  | v :: vs => by
    obtain ⟨A1, r1, h1⟩ := rel.wipe vs
    obtain ⟨A2, h2, n2, k2⟩ := OwE.wipe _ v none r1.env r1.nd
    exact ⟨A2, ⟨r1.sub, h2, n2, fun a ha => r1.dis a (k2 a ha)⟩, fun a ha => h1 a (k2 a ha)⟩
/-- one turn: none where the test is not met -/
def lcT (tg : Tg) (c : Env → R Bool) (f : Ex) (γ : Env) (x : PV) : R (Option PV) := match tg x γ with
  | none => .no
  | some γ1 => (c γ1).bind fun b => if b then (f γ1).bind fun l => l.keep.bind fun y => .ok (some y) else .ok none
def lcL (tg : Tg) (c : Env → R Bool) (f : Ex) (γ : Env) : List PV → R (List PV)
  | [] => .ok []
  | x :: xs => (lcT tg c f γ x).bind fun o => (lcL tg c f γ xs).bind fun ys => .ok (match o with
    | some y => y :: ys
    | none => ys)
def tYesF : Env → R Bool := fun _ => .ok true
def xLc (it : Env → R (List PV)) (tg : Tg) (c : Env → R Bool) (f : Ex) (vs : List Nat) : Ex := fun γ => (it γ).bind fun items => if sm items.length then (match lcL tg c f (wipeE γ vs) items with | .ok ys => .ok (.fr .ow (.lst ys)) | _ => .no) else .no
abbrev W0 : WX := fun _ _ _ _ => False
structure QTs (cl : String → Option Addr) (X : Cx) (W : WX) (f : Env → R Bool) (es : List Expr) : Prop where
  pt : PTs X es (tqT X.K cl W f)
theorem _root_.L2.PTs.imp {X : Cx} {e : List Expr} {t t' : TT} (h : PTs X e t) (k : ∀ σ H Q, t' σ H Q → t σ H Q) : PTs X e t' := ⟨fun pins s σ H Q I q => h.run pins s σ H Q I (k σ H Q q)⟩
theorem qts_nil : QTs cl X W tYesF [] := ⟨pts_nil.imp fun σ H Q h => by
  obtain ⟨F, A, γ, rel, h⟩ := h
  exact h F H (Ext.refl rel.sub)⟩
theorem qts_one {f} {e : Expr} (h : QT cl X W f e) : QTs cl X W f [e] := ⟨pts_one h.pt⟩
theorem lcL_split (tg : Tg) (c : Env → R Bool) (f : Ex) (γ : Env) : ∀ (xs : List PV) (i : Nat) (zs : List PV), lcL tg c f γ (xs.drop i) = .ok zs → ∀ x, xs[i]? = some x →
    ∃ o zs', lcT tg c f γ x = .ok o ∧ lcL tg c f γ (xs.drop (i + 1)) = .ok zs' ∧ zs = (match o with
      | some y => y :: zs'
      | none => zs') := fun xs i zs h x ex => by
  have hlt : i < xs.length := (List.getElem?_eq_some_iff.mp ex).1
  have hd : xs.drop i = x :: xs.drop (i + 1) := by
    rw [List.drop_eq_getElem_cons hlt, (List.getElem?_eq_some_iff.mp ex).2]
  rw [hd] at h
  simp only [lcL] at h
  cases e : lcT tg c f γ x with
  | no => rw [e] at h; cases h
  | er x => rw [e] at h; cases h
  | ok o =>
    rw [e] at h
    simp only [R.bind_ok] at h
    cases e' : lcL tg c f γ (xs.drop (i + 1)) with
    | no => rw [e'] at h; cases h
    | er x => rw [e'] at h; cases h
    | ok zs' => rw [e'] at h; cases h; exact ⟨o, zs', rfl, rfl, rfl⟩
theorem lcL_len (tg : Tg) (c : Env → R Bool) (f : Ex) (γ : Env) : ∀ (xs zs : List PV), lcL tg c f γ xs = .ok zs → zs.length ≤ xs.length
  | [], zs, h => by cases h; simp
  | x :: xs, zs, h => by
    obtain ⟨o, zs', h1, h2, h3⟩ := lcL_split tg c f γ (x :: xs) 0 zs (by simpa using h) x (by simp)
    have := lcL_len tg c f γ xs zs' (by simpa using h2)
    subst h3
    cases o <;> simp <;> omega
/-- no exception leaves a comprehension here -/
def NoX (r : R (List PV)) : Prop := ∀ e, r ≠ .er e
theorem lc_read {K : PySem.W.Frag} {it tg c f} {js vs : List Nat} (hj : ∀ j ∈ js, j ∈ vs) {σ : St} {H : Hp} {Q : VK} (h : tq K cl W (xLc it tg c f vs) σ H Q) :
    tLc (tqI K cl W it) (tqGt K cl js tg) (tqT K cl W0 c) (tq K cl W0 f) vs σ H Q := by
  obtain ⟨F, A, γ, rel, h⟩ := h
  refine ⟨F, A, γ, rel, ?_⟩
  unfold xLc at h
  cases e : it γ with
  | no => rw [e] at h; exact h
  | er x => rw [e] at h; exact h
  | ok items =>
    rw [e] at h
    simp only [R.bind_ok] at h
    cases es : sm items.length with
    | false => rw [es] at h; exact h.elim
    | true =>
      rw [es] at h
      simp only [if_true] at h
      cases el : lcL tg c f (wipeE γ vs) items with
      | no => rw [el] at h; exact h.elim
      | er x => rw [el] at h; exact h.elim
      | ok zs =>
        rw [el] at h
        simp only at h
        intro F0 H0 J e0 itok D nD
        have rel0 := rel.ext e0
        obtain ⟨Aw, relw, haw⟩ := rel0.wipe vs
        have nFD : ∀ F, Same F H0 → F D = none := fun F s => s.free nD
        have hlen := sm_le es
        refine ⟨fun i m H => m = items.length - i ∧ i ≤ items.length ∧ ∃ F ys zs' acc, Same F0 F ∧ Same F H ∧ F D = none ∧ H D = some (.lst acc) ∧ RpL ⟨K, cl⟩ F ys acc ∧ ys.length ≤ i ∧ lcL tg c f (wipeE γ vs) (items.drop i) = .ok zs' ∧ zs = ys ++ zs' ∧ Same H0 H ∧
          (∀ a o, F a = some o → F0 a = some o ∨ H0 a = none), ⟨items.length, by simp, Nat.zero_le _, F0, [], zs, [], Same.refl _, ?_, nFD F0 e0.sub, upd_same, RpL.nil, Nat.le_refl _, by simpa using el, rfl, ?_, fun a o h => .inl h⟩, ?_⟩
        · exact fun a o q => by rw [upd_ne (ne_of_none (e0.sub a o q) nD)]; exact e0.sub a o q
        · exact fun a o q => by rw [upd_ne (ne_of_none q nD)]; exact q
        rintro i m H1 ⟨rfl, hi1, F1, ys, zs', acc, s01, s1, nF1, hD, ry, hy, hl, hz, sH, hnew⟩
        have rel1 : Rel ⟨K, cl⟩ F1 Aw (wipe σ vs) H1 (wipeE γ vs) := by
          refine ⟨s1, OwE.mono s01 _ relw.env fun a _ o q => sH a o q, relw.nd, fun a ha => ?_⟩
          cases q : F1 a with
          | none => rfl
          | some o =>
            obtain ⟨u, hu⟩ := OwE.dom _ relw.env a ha
            rcases hnew a o q with z | z
            · rw [relw.dis a ha] at z; cases z
            · rw [hu] at z; cases z
        by_cases hlt : i < items.length
        · obtain ⟨x, ex⟩ : ∃ x, items[i]? = some x := ⟨items[i], by simp [hlt]⟩
          obtain ⟨hgo, hyl⟩ := itok.go F1 H1 i x s01 s1 ex
          obtain ⟨o, zs1, k1, k2, k3⟩ := lcL_split tg c f _ items i zs' hl x ex
          refine .inr ⟨hgo, fun H => ∃ F ys zs' acc, Same F0 F ∧ Same F H ∧ F D = none ∧ H D = some (.lst acc) ∧ RpL ⟨K, cl⟩ F ys acc ∧ ys.length ≤ i + 1 ∧ lcL tg c f (wipeE γ vs) (items.drop (i + 1)) = .ok zs' ∧ zs = ys ++ zs' ∧ Same H0 H ∧ (∀ a o, F a = some o → F0 a = some o ∨ H0 a = none),
            fun H' q => ⟨items.length - (i + 1), by omega, rfl, hlt, q⟩, fun v H2 yl => ?_⟩
          obtain ⟨F2, e2, rx⟩ := hyl v H2 yl
          refine ⟨F2, Aw, wipeE γ vs, x, rel1.ext e2, rx, ?_⟩
          unfold lcT at k1
          cases et : tg x (wipeE γ vs) with
          | none => rw [et] at k1; cases k1
          | some γ2 =>
            rw [et] at k1
            simp only at k1
            intro A3 σ3 rel3 a3 w3
            have ew : wipe σ3 vs = wipe σ vs := by
              rw [w3 _ hj]
              apply List.ext_getElem?
              intro k
              rw [wipe_at (j := 0), wipe_at (j := 0), wipe_length]
              split
              · rfl
              · rfl
            refine ⟨ew, F2, A3, γ2, rel3, ?_⟩
            have nF2 : F2 D = none := by
              cases q : F2 D with
              | none => rfl
              | some o =>
                rcases e2.new D o q with z | z
                · rw [nF1] at z; cases z
                · rw [hD] at z; cases z
            have new2 : ∀ a o, F2 a = some o → F0 a = some o ∨ H0 a = none := fun a o q => by
              rcases e2.new a o q with z | z
              · exact hnew a o z
              · exact .inr (sH.free z)
            cases ec : c γ2 with
            | no => rw [ec] at k1; cases k1
            | er x => rw [ec] at k1; cases k1
            | ok b =>
              rw [ec] at k1
              simp only [R.bind_ok] at k1
              intro F3 H3 e3
              have hD3 : H3 D = some (.lst acc) := e3.hle _ _ (e2.hle _ _ hD)
              have nF3 : F3 D = none := by
                cases q : F3 D with
                | none => rfl
                | some o =>
                  rcases e3.new D o q with z | z
                  · rw [nF2] at z; cases z
                  · rw [e2.hle _ _ hD] at z; cases z
              have new3 : ∀ a o, F3 a = some o → F0 a = some o ∨ H0 a = none := fun a o q => by
                rcases e3.new a o q with z | z
                · exact new2 a o z
                · exact .inr ((sH.trans e2.hle).free z)
              cases b with
              | false =>
                simp only [Bool.false_eq_true, ↓reduceIte, R.ok.injEq] at k1
                subst k1
                rw [if_neg Bool.false_ne_true]
                exact ⟨F3, ys, zs1, acc, (s01.trans e2.fle).trans e3.fle, e3.sub, nF3, hD3, RpL.mono (e2.fle.trans e3.fle) _ _ ry, Nat.le_succ_of_le hy, k2, by rw [hz, k3], (sH.trans e2.hle).trans e3.hle, new3⟩
              | true =>
                simp only [↓reduceIte] at k1
                rw [if_pos rfl]
                refine ⟨F3, A3, γ2, rel3.ext e3, ?_⟩
                cases ef : f γ2 with
                | no => rw [ef] at k1; cases k1
                | er x => rw [ef] at k1; cases k1
                | ok l =>
                  rw [ef] at k1
                  simp only [R.bind_ok] at k1
                  intro F4 H4 w4 e4 r4
                  cases ek : l.keep with
                  | no => rw [ek] at k1; cases k1
                  | er x => rw [ek] at k1; cases k1
                  | ok y =>
                    rw [ek] at k1
                    simp only [R.bind_ok, R.ok.injEq] at k1
                    subst k1
                    obtain ⟨F5, e5, s5, ry5⟩ := keep_ok r4 e4 ek
                    have hD4 : H4 D = some (.lst acc) := e5.hle _ _ hD3
                    have nF5 : F5 D = none := by
                      cases q : F5 D with
                      | none => rfl
                      | some o =>
                        rcases e5.new D o q with z | z
                        · rw [nF3] at z; cases z
                        · rw [hD3] at z; cases z
                    have new5 : ∀ a o, F5 a = some o → F0 a = some o ∨ H0 a = none := fun a o q => by
                      rcases e5.new a o q with z | z
                      · exact new3 a o z
                      · exact .inr (((sH.trans e2.hle).trans e3.hle).free z)
                    have f05 : Same F1 F5 := (e2.fle.trans e3.fle).trans e5.fle
                    have ralen := ry.length
                    refine ⟨acc, hD4, by omega, F5, ys ++ [y], zs1, acc ++ [w4], s01.trans f05, fun a o q => ?_, nF5, upd_same, (RpL.mono f05 _ _ ry).append (RpL.cons ry5 RpL.nil), by simp; omega, k2, by rw [hz, k3]; simp, fun a o q => ?_, new5⟩
                    · have na : a ≠ D := fun z => by subst z; rw [nF5] at q; cases q
                      rw [upd_ne na]
                      exact e5.sub a o q
                    · have na : a ≠ D := ne_of_none q nD
                      rw [upd_ne na]
                      exact ((sH.trans e2.hle).trans (e3.hle.trans e5.hle)) a o q
        · have ei : i = items.length := by omega
          subst ei
          rw [List.drop_length] at hl
          cases hl
          refine .inl ⟨itok.stop F1 H1 s01 s1, ?_⟩
          have ex : Ext F H F1 H1 := ⟨s1, e0.fle.trans s01, e0.hle.trans sH, fun a o q => by
            rcases hnew a o q with z | z
            · exact e0.new a o z
            · exact .inr (e0.hle.free z)⟩
          refine h F1 H1 (.ref D) ex ⟨[D], ?_, by simp, fun a ha => ?_⟩
          · simp only [OwM]
            refine ⟨D, rfl, rfl, acc, hD, ?_⟩
            rw [hz, List.append_nil]
            exact ry
          · obtain rfl : a = D := by simpa using ha
            exact ⟨e0.hle.free nD, nF1⟩
theorem q_lc {it tg c f} {js : List Nat} {elt t iter : Expr} {ifs : List Expr} {scope : Scope} {own : List (Str × Nat)} {pos : Pos} (hc : X.calm = true) (hN : X.N.Nodup) (ok : BlkOk X.N X.env.scope scope own) (hj : ∀ j ∈ js, j ∈ own.map (·.2)) (hi : QI cl X W it t iter)
    (hg : ∀ (s : Shared) (H : Hp) (C : Addr) (cls : List (Str × Addr)) (fp : List Addr), QG cl (X.blk s H scope (compEnvC scope cls C X.env) fp) js tg t) (ht : ∀ (s : Shared) (H : Hp) (C : Addr) (cls : List (Str × Addr)) (fp : List Addr), QTs cl (X.blk s H scope (compEnvC scope cls C X.env) fp) W0 c ifs)
    (he : ∀ (s : Shared) (H : Hp) (C : Addr) (cls : List (Str × Addr)) (fp : List Addr), QE cl (X.blk s H scope (compEnvC scope cls C X.env) fp) W0 f elt) (hs : ∀ x, foldedSetIterable iter X.env x = pure x := by intro _; rfl) :
    QE cl X W (xLc it tg c f (own.map (·.2))) (.ListComp elt [⟨t, iter, ifs, 0⟩] scope pos) :=
  ⟨(pe_lc (g := tqGt X.K cl js tg) (tt := tqT X.K cl W0 c) (te := tq X.K cl W0 f) hc hN hi.pi ok (fun s H C cls fp => (hg s H C cls fp).pg) (fun s H C cls fp => (ht s H C cls fp).pt) (fun s H C cls fp => (he s H C cls fp).pe) hs).imp fun σ H Q h => lc_read hj h⟩
/-- name = [..], the name a local that no block reads -/
theorem qs_setLc {i : Nat} {y : Str} {py : Pos} {it tg c f} {js : List Nat} {elt t iter : Expr} {ifs : List Expr} {scope : Scope} {own : List (Str × Nat)} {pos spos : Pos} (hc : X.calm = true) (hN : X.N.Nodup) (ok : BlkOk X.N X.env.scope scope own) (hj : ∀ j ∈ js, j ∈ own.map (·.2))
    (hsw : swapsWith (.ListComp elt [⟨t, iter, ifs, 0⟩] scope pos) (some (.Name y py)) spos.line X.env = pure true) (hi : QI cl X W it t iter)
    (hg : ∀ (s : Shared) (H : Hp) (C : Addr) (cls : List (Str × Addr)) (fp : List Addr), QG cl (X.blk s H scope (compEnvC scope cls C X.env) fp) js tg t) (ht : ∀ (s : Shared) (H : Hp) (C : Addr) (cls : List (Str × Addr)) (fp : List Addr), QTs cl (X.blk s H scope (compEnvC scope cls C X.env) fp) W0 c ifs)
    (he : ∀ (s : Shared) (H : Hp) (C : Addr) (cls : List (Str × Addr)) (fp : List Addr), QE cl (X.blk s H scope (compEnvC scope cls C X.env) fp) W0 f elt) (hy : X.N[i]? = some y := by rfl) (hyl : X.env.scope.names.lookup y = some .local := by rfl) (hs : ∀ x, foldedSetIterable iter X.env x = pure x := by intro _; rfl) :
    QS cl X W (sSet i (xLc it tg c f (own.map (·.2)))) (.Assign [.Name y py] (.ListComp elt [⟨t, iter, ifs, 0⟩] scope pos) spos) :=
  ⟨(ps_setLc (i := i) (g := tqGt X.K cl js tg) (tt := tqT X.K cl W0 c) (te := tq X.K cl W0 f) hc hN hy hyl hsw hi.pi ok (fun s H C cls fp => (hg s H C cls fp).pg) (fun s H C cls fp => (ht s H C cls fp).pt) (fun s H C cls fp => (he s H C cls fp).pe) hs).imp fun D σ H h => by
    refine lc_read hj (Q := fun x H1 => gName i x σ H1 D.nx) ?_
    obtain ⟨F, A, γ, rel, h⟩ := h
    refine ⟨F, A, γ, rel, ?_⟩
    unfold sSet at h
    cases e : xLc it tg c f (own.map (·.2)) γ with
    | no => rw [e] at h; exact h
    | er x => rw [e] at h; exact fun F' H' c d ex r => h F' A σ H' c d (Step.ext ex) (rel.ext ex) r
    | ok l => rw [e] at h; exact fun F' H' v ex r => stow_ok rel ex r h⟩
end
end Z
/-! the pure layer, part I: defs, their calls, isinstance, the first built-ins -/
namespace Z
open PySem L2
/-! ### a def's promise -/
def spQ (K : PySem.W.Frag) (cl : String → Option Addr) (f : List PV → R PV) : Sp := fun vs H Q E => ∃ F xs, Same F H ∧ RpL ⟨K, cl⟩ F xs vs ∧ match f xs with
  | .ok x => ∀ F' H' v, Ext F H F' H' → Rp ⟨K, cl⟩ F' x v → Q v H'
  | .er e => ∀ F' H' c d, Ext F H F' H' → XcR ⟨K, cl⟩ F' e c d → E c d H'
  | .no => False
/-- .. of a def that lets nothing out -/
def spQ0 (K : PySem.W.Frag) (cl : String → Option Addr) (f : List PV → R PV) : Sp := fun vs H Q _ => spQ K cl f vs H Q fun _ _ _ => False
/-- np parameters, nl names in all -/
def outOf : Os → R PV
  | .rt x _ => .ok x
  | .nx _ => .ok .non
  | .er e _ => .er e
  | _ => .no
def frame (nl : Nat) (xs : List PV) : Env := xs.map (.sl .fz) ++ List.replicate (nl - xs.length) .un
def run (np nl : Nat) (body : Env → Os) (xs : List PV) : R PV := if xs.length = np then outOf (body (frame nl xs)) else .no
theorem start_ok {T : Tb} {F H : Hp} : ∀ {xs : List PV} {vs : List V} (n : Nat), RpL T F xs vs → OwE T F H (xs.map (.sl .fz) ++ List.replicate n .un) (vs.map some ++ List.replicate n none) []
  | [], vs, n, h => by
    simp only [RpL] at h; subst h
    simp only [List.map_nil, List.nil_append]
    induction n with
    | zero => simp [OwE]
    | succ n ih => simp only [List.replicate_succ, OwE]; exact ⟨none, _, rfl, ih⟩
  | x :: xs, vs, n, h => by
    simp only [RpL] at h
    obtain ⟨v, ws, rfl, p, q⟩ := h
    simp only [List.map_cons, List.cons_append, OwE]
    exact ⟨v, _, [], [], rfl, rfl, OwM.fz_of p, start_ok n q⟩
theorem body_ok {K : PySem.W.Frag} {cl : String → Option Addr} {X : Cx} {body : Env → Os} {N : List Str} {np : Nat} {vs : List V} {H : Hp} {Q : VK} {E : XK} {W : WX} (hK : X.K = K) (hW : ∀ c d σ H, E c d H → W c d σ H) (h : spQ K cl (run np N.length body) vs H Q E) :
    tqS X cl W body { nx := fun _ H' => Q .non H', rt := Q } (L2.start N vs) H := by
  obtain ⟨F, xs, s, r, h⟩ := h
  subst hK
  unfold run at h
  by_cases hl : ¬ xs.length = np
  · rw [if_neg hl] at h; exact h.elim
  replace hl := Decidable.not_not.mp hl
  rw [if_pos hl] at h
  refine ⟨F, [], frame N.length xs, ⟨s, ?_, by simp, by simp⟩, ?_⟩
  · unfold frame L2.start
    rw [r.length]
    exact start_ok _ r
  have ex : ∀ {F' A' σ' H' γ'}, Step F [] H F' A' H' → Rel ⟨X.K, cl⟩ F' A' σ' H' γ' → Ext F H F' H' := fun st rel => ⟨rel.sub, st.fle, fun a o q => st.keep a o (by simp) q, fun a o q => by
    rcases st.new a o q with z | z | z
    · exact .inl z
    · simp at z
    · exact .inr z⟩
  cases e : body (frame N.length xs) with
  | nx γ' => rw [e] at h; exact fun F' A' σ' H' st rel => h F' H' .non (ex st rel) (by simp [Rp])
  | rt x γ' => rw [e] at h; exact fun F' A' σ' H' v st rel rv => h F' H' v (ex st rel) rv
  | er x γ' => rw [e] at h; exact fun F' A' σ' H' c d st rel rv => hW _ _ _ _ (h F' H' c d (ex st rel) rv)
  | bk γ' => rw [e] at h; exact h.elim
  | ct γ' => rw [e] at h; exact h.elim
  | no => rw [e] at h; exact h.elim
theorem spQ_len {K : PySem.W.Frag} {cl : String → Option Addr} {np nl body vs H Q E} (h : spQ K cl (run np nl body) vs H Q E) : vs.length = np := by
  obtain ⟨F, xs, s, r, h⟩ := h
  unfold run at h
  by_cases hl : xs.length = np
  · rw [r.length]; exact hl
  · rw [if_neg hl] at h; exact h.elim
section
variable {P : Program} {w : World} {K : PySem.W.Frag} {mg : Str → Option Value} {base : Heap}
/-- a def that lets nothing out -/
theorem q_fun0 {cl : String → Option Addr} {x qual : Str} {st : Stmt} {f : Addr} {fd : FuncData} {N ps : List Str} {k : Nat} {body : Env → Os} (Fn : Fun K x qual st f fd) (S : FnScope N ps (defScope st))
    (hb : ∀ (cdv : Value) (A : Around) (outer : List PySem.Env) (s : Shared) (H : Hp) (E : XK), Room k (A.deeper (PyProof.Rows.envOfC qual (defScope st) s.heap.objs.size f cdv)) → QSs cl (cxOf L2.CX0 P w K mg base N qual (defScope st) f cdv A outer s H E).nox W0 body (defBody st)) :
    FnOk P w K mg base L2.CX0 (k + 1) f fd ps (spQ0 K cl (run ps.length N.length body)) :=
  Fn.ok S (fun vs H Q E h => spQ_len h) fun cdv A outer s H vs Q E hr h => ⟨_, (hb cdv A outer s H E hr).ps, body_ok rfl (fun _ _ _ _ z => z.elim) h⟩
/-- a def that may raise -/
theorem q_funX {cl : String → Option Addr} {x qual : Str} {st : Stmt} {f : Addr} {fd : FuncData} {N ps : List Str} {k : Nat} {body : Env → Os} (Fn : Fun K x qual st f fd) (S : FnScope N ps (defScope st))
    (hb : ∀ (cdv : Value) (A : Around) (outer : List PySem.Env) (s : Shared) (H : Hp) (E : XK), Room k (A.deeper (PyProof.Rows.envOfC qual (defScope st) s.heap.objs.size f cdv)) →
      Takes (cxOf (L2.CX P w) P w K mg base N qual (defScope st) f cdv A outer s H E) (fun cls d _ H => E cls d H) → QSs cl (cxOf (L2.CX P w) P w K mg base N qual (defScope st) f cdv A outer s H E) (fun cls d _ H => E cls d H) body (defBody st)) :
    FnOk P w K mg base (L2.CX P w) (k + 1) f fd ps (spQ K cl (run ps.length N.length body)) :=
  Fn.okX S (fun vs H Q E h => spQ_len h) fun cdv A outer s H vs Q E hr h => ⟨_, (hb cdv A outer s H E hr (takes_of rfl rfl rfl rfl)).ps, body_ok rfl (fun _ _ _ _ z => z) h⟩
end

/-! ### calls -/
def R.noer {α : Type} : R α → R α
  | .er _ => .no
  | r => r
@[simp] theorem R.noer_ok {α : Type} (a : α) : (R.ok a).noer = .ok a := rfl
def xCall0 (g : List PV → R PV) (fs : Env → R (List PV)) : Ex := fun γ => (fs γ).bind fun xs => ((g xs).noer).map .z
def xCall (g : List PV → R PV) (fs : Env → R (List PV)) : Ex := fun γ => (fs γ).bind fun xs => (g xs).map .z
@[simp] theorem R.map_ok {α β : Type} (f : α → β) (a : α) : (R.ok a).map f = .ok (f a) := rfl
@[simp] theorem R.map_er {α β : Type} (f : α → β) (e : Xc) : (R.er e : R α).map f = .er e := rfl
@[simp] theorem R.map_no {α β : Type} (f : α → β) : (R.no : R α).map f = .no := rfl
section
variable {X : Cx} {cl : String → Option Addr} {W : WX}
theorem tqCall0 {K} {g fs} {σ : St} {H : Hp} {Q : VK} (h : tq K cl W (xCall0 g fs) σ H Q) : tqZ K cl W fs σ H fun vs H1 => spQ0 K cl g vs H1 Q E0 := by
  obtain ⟨F, A, γ, rel, h⟩ := h
  refine ⟨F, A, γ, rel, ?_⟩
  unfold xCall0 at h
  cases e : fs γ with
  | no => rw [e] at h; exact h
  | er x => rw [e] at h; exact h
  | ok xs =>
    rw [e] at h
    simp only [R.bind_ok] at h
    intro F1 H1 vs e1 r1
    refine ⟨F1, xs, e1.sub, r1, ?_⟩
    cases e' : g xs with
    | no => rw [e'] at h; exact h
    | er x => rw [e'] at h; exact h.elim
    | ok x => rw [e'] at h; exact fun F' H' v ex rv => h F' H' v (e1.trans ex) (VlR.zz rv)
theorem q_call0 {x : Str} {k : Nat} {f : Addr} {fd : FuncData} {ps : List Str} {g fs} {e : Expr} {es : List Expr} {p pos : Pos} (Fo : FnOk X.prog X.w X.K X.mg X.base L2.CX0 k f fd ps (spQ0 X.K cl g)) (hr : Room k X.A) (hm : X.mg x = some (.ref f)) (hk : PySem.W.keepIn X.K (.ref f) = true) (hb : Binds X.K fd ps [])
    (ha : QZ cl X W fs (e :: es)) (hg : Gl X x := by rfl) (hdb : (x == ("__debug__" : Str)) = false := by decide) (he : starEach (e :: es) X.env = (false, eval e X.env) :: starEach es X.env := by rfl) (hpl : (backTo pos (starEach es X.env)).any (·.1) = false := by rfl) :
    QE cl X W (xCall0 g fs) (.Call (.Name x p) (e :: es) [] pos) := ⟨(pe_call Fo hr hg hm hk hb .nil pass0 ha.pa hdb he hpl).imp fun σ H Q h => by
  have q := tqCall0 h
  simpa only [tCall, List.append_nil] using q⟩
theorem tqCall {K} {g fs} {σ : St} {H : Hp} {Q : VK} (h : tq K cl W (xCall g fs) σ H Q) : tqZ K cl W fs σ H fun vs H1 => spQ K cl g vs H1 Q (WE W σ) := by
  obtain ⟨F, A, γ, rel, h⟩ := h
  refine ⟨F, A, γ, rel, ?_⟩
  unfold xCall at h
  cases e : fs γ with
  | no => rw [e] at h; exact h
  | er x => rw [e] at h; exact h
  | ok xs =>
    rw [e] at h
    simp only [R.bind_ok] at h
    intro F1 H1 vs e1 r1
    refine ⟨F1, xs, e1.sub, r1, ?_⟩
    cases e' : g xs with
    | no => rw [e'] at h; exact h
    | er x => rw [e'] at h; exact fun F' H' c d ex rv => h F' H' c d (e1.trans ex) rv
    | ok x => rw [e'] at h; exact fun F' H' v ex rv => h F' H' v (e1.trans ex) (VlR.zz rv)
theorem q_call {x : Str} {k : Nat} {f : Addr} {fd : FuncData} {ps : List Str} {g fs} {e : Expr} {es : List Expr} {p pos : Pos} (tk : Takes X W) (Fo : FnOk X.prog X.w X.K X.mg X.base (L2.CX X.prog X.w) k f fd ps (spQ X.K cl g)) (hr : Room k X.A) (hm : X.mg x = some (.ref f)) (hk : PySem.W.keepIn X.K (.ref f) = true) (hb : Binds X.K fd ps [])
    (ha : QZ cl X W fs (e :: es)) (hg : Gl X x := by rfl) (hdb : (x == ("__debug__" : Str)) = false := by decide) (he : starEach (e :: es) X.env = (false, eval e X.env) :: starEach es X.env := by rfl) (hpl : (backTo pos (starEach es X.env)).any (·.1) = false := by rfl) :
    QE cl X W (xCall g fs) (.Call (.Name x p) (e :: es) [] pos) := ⟨(pe_callS Fo hr hg hm hk hb (fun σ => passAt tk σ) ha.pa hdb he hpl).imp fun σ H Q h => tqCall h⟩

/-! ### isinstance -/
def tyN : PV → String
  | .non => "NoneType"
  | .bl _ => "bool"
  | .int _ => "int"
  | .str _ => "str"
  | .tup _ => "tuple"
  | .lst _ => "list"
  | .dct _ _ => "dict"
  | .set _ => "set"
  | .obj _ _ => "object"
def isObj' : PV → Bool
  | .obj _ _ => true
  | _ => false
/-- what isinstance asks of an own class -/
structure ClsI (K : PySem.W.Frag) (C : Addr) : Prop where
  cl : Cls K C
  ha : PySem.W.findIn K (.ref C) "__class__" = some (some (.builtin "object.__class__"))
  hn : PySem.W.specialIn K (.builtin "object.__class__") "__get__" = some (some (.builtin "getset_descriptor.__get__"))
  htk : PySem.W.takesIn K (.builtin "object.__class__") = some true
  hm : PySem.W.mroIn K C (.type "object") = some true
theorem rv_ty {T : Tb} {F H : Hp} {x : PV} {v : V} (s : Same F H) (h : Rv T F H x v) (ho : isObj' x = false) : TyX T.K H v (.type (tyN x)) := by
  cases x with
  | non => rw [h.non]; exact .base .non
  | bl b => rw [h.bl]; exact .base (.bl b)
  | int b => rw [h.int]; exact .base (.int b)
  | str b => rw [h.str]; exact .base (.str b)
  | tup xs => obtain ⟨a, vs, rfl, q, _⟩ := h.tup s; exact .base (.tup q)
  | lst xs =>
    obtain ⟨a, vs, rfl, q, _⟩ := h.lstR s
    rcases q with q | ⟨o, q⟩
    · exact .base (.lst q)
    · exact .base (.frz q)
  | dct t xs =>
    obtain ⟨a, ks, rfl, q, _⟩ := h.dct s
    cases t with
    | false => obtain ⟨es, q, _⟩ := q; exact .base (.dK q)
    | true => obtain ⟨es, q, _⟩ := q; exact .base (.dT q)
  | set xs =>
    obtain ⟨a, rfl, ns, S, _, _, q, _⟩ := h.set s
    exact .set q
  | obj c fs => simp [isObj'] at ho
def isTy (n : String) (t : String) : Bool := t == n || (n == "int" && t == "bool")
def pIsi (n : String) (x : PV) : R Vl := .ok (.z (.bl (!isObj' x && isTy n (tyN x))))
def xIsi (n : String) (f : Ex) : Ex := x1 (pIsi n) f
theorem q_isi {n : String} {f} {e : Expr} {p p2 pos : Pos} (hO : ∀ c C, cl c = some C → ClsI X.K C ∧ PySem.W.kitOne X.K (.ref C) (.type n) = some false) (hm : X.mg "isinstance" = none) (hm2 : X.mg (Str.ofString n) = none)
    (hv2 : bootBuiltins (Str.ofString n) = some (.type n)) (hk : ∀ t ∈ ["NoneType", "bool", "int", "str", "tuple", "list", "dict", "set"], kitB t n = some (isTy n t)) (he : QE cl X W f e) (hg : Gl X "isinstance" := by rfl) (hg2 : Gl X (Str.ofString n) := by rfl)
    (hn2 : Str.ofString n ≠ "__name__" := by decide) (hd2 : (Str.ofString n == ("__debug__" : Str)) = false := by decide)
    (hs1 : starEach (e :: [.Name (Str.ofString n) p2]) X.env = (false, eval e X.env) :: starEach [.Name (Str.ofString n) p2] X.env := by rfl) (hs2 : starEach [.Name (Str.ofString n) p2] X.env = (false, eval (.Name (Str.ofString n) p2) X.env) :: starEach [] X.env := by rfl)
    (hpl : (backTo pos (starEach [.Name (Str.ofString n) p2] X.env)).any (·.1) = false := by rfl) : QE cl X W (xIsi n f) (.Call (.Name "isinstance" p) [e, .Name (Str.ofString n) p2] [] pos) := by
  refine ⟨(pe_callB call_isi hg hm (by decide +kernel) (pa_cons he.pe (pa_cons (pe_bltn (v := .ty n) hg2 hm2 hv2 rfl hn2 hd2) pa_nil hs2) hs1) (by decide) (by decide) hs1 hpl).imp fun σ H Q h => ?_⟩
  refine tq1 (r := fun x H1 Q => rIsi X.K [x, .ty n] H1 Q) (fun _ _ h => by cases h) (fun F H x v Q s rx h => ?_) h
  unfold pIsi at h
  cases ho : isObj' x with
  | false =>
    rw [ho] at h
    refine ⟨v, .ty n, .type (tyN x), .type n, isTy n (tyN x), rfl, .ty n, rv_ty s rx ho, kit_ty (hk _ ?_), by simpa using h.bl s⟩
    cases x <;> simp [tyN] at * <;> simp [isObj'] at ho
  | true =>
    rw [ho] at h
    cases x <;> simp [isObj'] at ho
    rename_i c fs
    obtain ⟨a, C, dx, vs, rfl, hc, q⟩ := rx.obj s
    obtain ⟨ci, kf⟩ := hO c C hc
    exact ⟨.ref a, .ty n, .ref C, .type n, false, rfl, .ty n, .base (.ins q ci.cl ci.ha ci.hn ci.htk ci.hm), kf, by simpa using h.bl s⟩
theorem kitT_int : ∀ t ∈ ["NoneType", "bool", "int", "str", "tuple", "list", "dict", "set"], kitB t "int" = some (isTy "int" t) := by decide +kernel
theorem kitT_bool : ∀ t ∈ ["NoneType", "bool", "int", "str", "tuple", "list", "dict", "set"], kitB t "bool" = some (isTy "bool" t) := by decide +kernel
theorem kitT_str : ∀ t ∈ ["NoneType", "bool", "int", "str", "tuple", "list", "dict", "set"], kitB t "str" = some (isTy "str" t) := by decide +kernel
theorem kitT_tuple : ∀ t ∈ ["NoneType", "bool", "int", "str", "tuple", "list", "dict", "set"], kitB t "tuple" = some (isTy "tuple" t) := by decide +kernel
theorem kitT_list : ∀ t ∈ ["NoneType", "bool", "int", "str", "tuple", "list", "dict", "set"], kitB t "list" = some (isTy "list" t) := by decide +kernel
theorem kitT_dict : ∀ t ∈ ["NoneType", "bool", "int", "str", "tuple", "list", "dict", "set"], kitB t "dict" = some (isTy "dict" t) := by decide +kernel
end
end Z
/-! the pure layer, part S: set(xs) of a list of ints, as SetFor has it of a tuple -/
namespace SetL
open PySem PySem.Spec PyProof.Rows L2
abbrev nso (w : World) : Obj := { cls := .type "set", dict := none, data := .set #[] 0 (.fresh 0 0 (!w.params.followText "set-order")) }
set_option maxHeartbeats 4000000 in
theorem set_of_list {P : Program} {w : World} {A : Around} {E : Value → Shared → Prop} {s : Shared} {l : Addr} {items : Array Value} (ns : List Int) {Q : Value → Shared → Prop}
    (hh : A.handled = none) (hl : s.heap.IsList l items) (hit : IntsAre items.toList ns) (hb : ns.length + 1 < scanBound)
    (fin : ∀ (h' : Heap) (tk c : Nat), SetR w h' s.heap.objs.size (fun j => decide (j ∈ ns)) c → c ≤ ns.length → (∀ b o, s.heap.get? b = some o → h'.get? b = some o) → Q (.ref s.heap.objs.size) { s with heap := h', toks := tk }) :
    wpAny (model P w) A (call (.type "set") [.ref l]) Q E s := by
  have sz : items.size = ns.length := by have q := IntsAre.length hit; rwa [Array.length_toList] at q
  obtain ⟨c, tl, hmro⟩ := F.called_set.mro
  have m1 := F.called_set.made
  have m2 := F.called_set.sub
  have m3 := F.called_set.notType
  have m4 := F.called_set.canCreate
  have m5 := F.typeCall_set_1 (.ref l)
  have ilk := F.called_set.init.lookup
  have ibd := F.called_set.init.bind (.ref s.heap.objs.size)
  apply wpAny_call
  apply codeAny_of_tree
  show wpAny _ _ (callAny (.type "set") _) _ _ _
  refine wpAny_pure ⟨Code.quiet_builtin _ (by decide +kernel), codeAny_builtin F.entry_type_call ?_⟩
  rw [Around.under_plain (weight_type_call_type "set" [.ref l] []) rfl]
  repeat (any_goals (first | assumption | wp_step))
  refine codeAny_mono (code_set_led1 (.ref l) (E := E) (Q₁ := fun o1 s₁ => o1 = .ref s.heap.objs.size ∧ s₁ = { s with heap := s.heap.push (nso w) }) ⟨rfl, rfl⟩) fun r s₁ hr => ?_
  cases r with
  | error _ => exact hr
  | ok fl =>
    cases fl with
    | next => exact hr
    | brk => exact hr
    | cont => exact hr
    | ret o1 =>
      obtain ⟨rfl, rfl⟩ := hr
      have gS : (s.heap.push (nso w)).get? s.heap.objs.size = some (nso w) := Heap.get?_push_size _ rfl
      have tS : Shared.TypeIs { s with heap := s.heap.push (nso w) } (.ref s.heap.objs.size) "set" := ⟨_, gS, rfl⟩
      repeat (any_goals (first | assumption | wp_step))
      refine codeAny_mono (codeAny_call_builtin (R := wants (fun r s₂ => r = .none ∧ ∃ h' tk c, s₂ = { s with heap := h', toks := tk } ∧ SetR w h' s.heap.objs.size (fun j => decide (j ∈ ns)) c ∧ c ≤ ns.length ∧ ∀ b o, s.heap.get? b = some o → h'.get? b = some o) E)
        F.called_set.init.plain F.entry_set_init (check_set_init_1 tS ?_)) fun r₂ s₂ hr₂ => ?_
      · obtain ⟨⟨oc, od, odt, osl⟩, hol, hcl, nl, hdl⟩ := id hl
        simp only at hcl hdl
        subst hcl; subst hdl
        have k0 : (s.heap.push (nso w)).get? l = some { cls := .type "list", dict := od, data := .seq items nl, slots := osl } := Heap.get?_push_of_some _ hol
        have b1 := F.sub_list_set
        have b2 := F.sub_list_frozenset
        have b3 : (Value.type "list" == Value.type "dict") = false := by decide
        have k1 : (s.heap.push (nso w)).IsList l items := ⟨_, k0, rfl, nl, rfl⟩
        unfold Builtin.«set.__init__» noKeywords Builtin.Frozenset.updateFrom
        generalize hPI : pyIter = PI
        wp_walk
        subst hPI
        refine wpAny_pyIter_list k1 (wpAny_bind (wpAny_runValue ?_))
        have lt : l < s.heap.objs.size := Heap.lt_size hol
        have zI : (s.heap.push (nso w)).objs.size = s.heap.objs.size + 1 := Heap.size_push ..
        have nI : l ≠ (s.heap.push (nso w)).objs.size := by rw [zI]; exact Nat.ne_of_lt (Nat.lt_succ_of_lt lt)
        have nfp : s.heap.objs.size ∉ [(s.heap.push (nso w)).objs.size, l] := by
          rw [zI]
          simp only [List.mem_cons, List.not_mem_nil, or_false, not_or]
          exact ⟨Nat.ne_of_lt (Nat.lt_succ_self _), Nat.ne_of_gt lt⟩
        have val : ∀ (i : Nat) (v : Value), items[i]? = some v → ∃ k t, ns[i]? = some k ∧ v = .int k t := fun i v hv => by
          have hi : i < ns.length := by rw [← sz]; exact (Array.getElem?_eq_some_iff.mp hv).1
          obtain ⟨t, e⟩ := IntsAre.int_at hit i v (by rw [Array.getElem?_toList]; exact hv)
          exact ⟨ns[i], t, List.getElem?_eq_getElem hi, by rw [e, List.getD_eq_getElem?_getD, List.getElem?_eq_getElem hi] <;> rfl⟩
        refine set_update_ints ((Walks.list (by simp [hh]) _ l nI items).toS) s.heap.objs.size nfp ns sz hb val (items.size - 0) 0 _ (by omega) (Nat.zero_le _) ⟨⟨_, Heap.get?_push_size _ rfl, rfl, rfl⟩, k1.push _⟩
          ⟨0, Nat.le_refl 0, setR_new_at (Heap.get?_push_of_some _ gS)⟩ ?_
        intro s' c' hm hc' hS'
        obtain ⟨h', g2, d', tk', os'⟩ := s'
        obtain rfl : g2 = s.gens := hm.gens
        obtain rfl : d' = s.drawn := hm.drawn
        obtain rfl : os' = s.os := hm.os
        rw [sz] at hc'
        show wpAny _ _ _ _ _ _
        apply wpAny_pure
        show wpAny _ _ (ret Value.none) _ _ _
        refine wpAny_pure ⟨rfl, h', tk', c', rfl, hS', hc', fun b o e => hm.heap b o ?_ (Heap.get?_push_of_some _ (Heap.get?_push_of_some _ e))⟩
        have lb := Heap.lt_size e
        simp only [List.mem_cons, List.not_mem_nil, or_false, not_or]
        rw [zI]
        exact ⟨Nat.ne_of_lt lb, Nat.ne_of_lt (Nat.lt_succ_of_lt lb)⟩
      · cases r₂ with
        | error _ => exact hr₂
        | ok fl =>
          cases fl with
          | next => exact hr₂
          | brk => exact hr₂
          | cont => exact hr₂
          | ret v =>
            obtain ⟨rfl, h', tk, c', rfl, hS', hc', kk⟩ := hr₂
            repeat (any_goals (first | assumption | wp_step))
            exact fin _ _ _ hS' hc' kk
end SetL
/-! the pure layer, part T: sorted(x) of a list or a tuple of ints, at the library's level -/
namespace SrtZ
open PySem PySem.Spec PyProof.Rows L2 SrtO
section
variable {prog : Program} {w : World} {A : Around} {E : Value → Shared → Prop} {s : Shared}
/-- sorted of a list or a tuple by any order of its items: the answer is a new list -/
theorem sorted_seq {l : Addr} {T : String} {o : Obj} {vs : List Value} {n : Nat} {ltv : Value → Value → Bool} {Q : Value → Shared → Prop} (O : Swo ltv) (hT : T = "list" ∨ T = "tuple") (ho : s.heap.get? l = some o) (hc : o.cls = .type T) (hd : o.data = .seq vs.toArray n) (hz : vs.length ≤ sizeLine)
    (hS : 2 ≤ vs.length → ∀ (h₁ : Heap) (a : Addr), h₁.get? a = some (seqObj "list" vs.toArray 0) → (∀ b u, s.heap.get? b = some u → b ≠ a ∧ h₁.get? b = some u) → SortableO prog w A.in1.in1 { s with heap := h₁ } a vs ltv)
    (fin : ∀ (out : List Value) (p : Addr) (e : Nat) (h' : Heap), Srtd ltv out → Stb ltv out vs → s.heap.get? p = none → h'.get? p = some (seqObj "list" out.toArray e) → (∀ b u, s.heap.get? b = some u → h'.get? b = some u) → Q (.ref p) { s with heap := h' }) :
    wpAny (model prog w) A (call (.builtin "sorted") [.ref l]) Q E s := by
  apply Calls.call_function_entry kind_sorted plain_sorted entry_sorted (args_sorted1 _)
  unfold Builtin.«sorted»
  refine wpAny_bind (m := checkCount "sorted" 1 1 _) (wpAny_pure ?_)
  refine wpAny_bind (wpAny_collect_seq l hT ho hc hd (fun h1 k1 => ?_) (by rw [List.size_toArray]; exact hz))
  have fresh : ∀ b u, s.heap.get? b = some u → b < h1.objs.size := fun b u q => Heap.lt_size (k1 b u q)
  refine wpAny_bind (wpAny_newList ?_ hz)
  have at1 : (h1.push (seqObj "list" vs.toArray 0)).get? h1.objs.size = some (seqObj "list" vs.toArray 0) := Heap.get?_push_size _ rfl
  have k2 : ∀ b u, s.heap.get? b = some u → b ≠ h1.objs.size ∧ (h1.push (seqObj "list" vs.toArray 0)).get? b = some u := fun b u q => ⟨Nat.ne_of_lt (fresh b u q), Heap.get?_push_of_some _ (k1 b u q)⟩
  show wpAny _ _ _ _ _ { s with heap := h1.push (seqObj "list" vs.toArray 0) }
  refine wpAny_bind (wpAny_holding (wpAny_call_entry slot_list_sort ⟨_, at1, rfl⟩ entry_list_sort (list_sort_ord O at1 hz (fun h2 => hS h2 _ _ at1 k2) fun out hs hb => ⟨_, rfl, ?_⟩) (args_list_sort _)))
  obtain ⟨e, he⟩ := sortedHeap_at (vs := vs) (out := out.toArray) (n := 0) at1
  refine wpAny_pure ⟨_, rfl, fin out _ e _ hs hb ?_ he fun b u q => ?_⟩
  · cases q : s.heap.get? h1.objs.size with
    | none => rfl
    | some u => exact absurd (fresh _ u q) (Nat.lt_irrefl _)
  · have lt : b < (h1.push (seqObj "list" vs.toArray 0)).objs.size := Heap.lt_size (k2 b u q).2
    rw [sortedHeap_old (k2 b u q).1 lt]
    exact (k2 b u q).2
end
end SrtZ
namespace L2
open PySem PySem.Spec PyProof.Rows
/-- a new object laid at a place that held none -/
theorem Inv.laidN {X : Cx} {pins : List (Addr × Obj)} {σ : St} {H : Hp} {s : Shared} {h' : Heap} {a : Addr} {o : HO} {t' : Nat} (I : Inv X pins σ H s) (k : ∀ b u, s.heap.get? b = some u → h'.get? b = some u) (hp : s.heap.get? a = none) (new : ObjOk X.prog X.w (upd H a o) h' a o) :
    Inv X pins σ (upd H a o) { s with heap := h', toks := t' } := by
  have nH : H a = none := I.hok.gone hp
  have na : ∀ b u, s.heap.get? b = some u → b ≠ a := fun b u q z => by rw [z, hp] at q; cases q
  refine I.un ⟨fun b u q _ _ _ => k b u q, fun b u q _ _ _ => ⟨u.slots, k b u q⟩, fun b u q n _ => by rw [upd_ne (na b u q)]; exact n, fun b u q _ => ⟨u, k b u q⟩,
    fun b xs q => by rw [upd_ne (ne_of_none q nH)]; exact q, fun b ob xs q => by rw [upd_ne (ne_of_none q nH)]; exact q, fun b ps q => ⟨#[], by rw [upd_ne (ne_of_none q nH), q]; simp⟩⟩ fun b u e => ?_
  by_cases hb : b = a
  · subst hb; rw [upd_same] at e; cases e; exact new
  · rw [upd_ne hb] at e
    exact (I.hok b u e).stay (fun c v _ q => k c v q) (fun c q => by rw [upd_ne (ne_of_none q nH)]; exact q) fun c xs q => by rw [upd_ne (ne_of_none q nH)]; exact q
end L2
/-! the pure layer, part J: built-ins -/
namespace Z
open PySem L2
/-! ### lists of ints: sorted, sorted without repetition -/
def ins (x : Int) : List Int → List Int
  | [] => [x]
  | y :: ys => if x ≤ y then x :: y :: ys else y :: ins x ys
def isort : List Int → List Int
  | [] => []
  | x :: xs => ins x (isort xs)
theorem ins_perm (x : Int) : ∀ ys, (ins x ys).Perm (x :: ys)
  | [] => .refl _
  | y :: ys => by
    unfold ins
    split
    · exact .refl _
    · exact ((ins_perm x ys).cons y).trans (.swap x y ys)
theorem isort_perm : ∀ xs, (isort xs).Perm xs
  | [] => .refl _
  | x :: xs => (ins_perm x _).trans ((isort_perm xs).cons x)
theorem ins_sorted (x : Int) : ∀ {ys : List Int}, ys.Pairwise (· ≤ ·) → (ins x ys).Pairwise (· ≤ ·)
  | [], _ => by simp [ins]
  | y :: ys, h => by
    unfold ins
    split
    · rename_i hxy
      refine List.pairwise_cons.mpr ⟨fun z hz => ?_, h⟩
      rcases List.mem_cons.mp hz with rfl | hz
      · exact hxy
      · exact Int.le_trans hxy ((List.pairwise_cons.mp h).1 z hz)
    · rename_i hxy
      refine List.pairwise_cons.mpr ⟨fun z hz => ?_, ins_sorted x (List.pairwise_cons.mp h).2⟩
      rcases List.mem_cons.mp ((ins_perm x ys).mem_iff.mp hz) with rfl | hz
      · omega
      · exact (List.pairwise_cons.mp h).1 z hz
theorem isort_sorted : ∀ xs : List Int, (isort xs).Pairwise (· ≤ ·)
  | [] => .nil
  | x :: xs => ins_sorted x (isort_sorted xs)
/-- two rising arrangements of the same are one -/
theorem sorted_uniq : ∀ {xs ys : List Int}, xs.Perm ys → xs.Pairwise (· ≤ ·) → ys.Pairwise (· ≤ ·) → xs = ys
  | [], ys, p, _, _ => (List.nil_perm.mp p).symm
  | x :: xs, [], p, _, _ => absurd (List.perm_nil.mp p) (by simp)
  | x :: xs, y :: ys, p, hx, hy => by
    have e : x = y := by
      have h1 : x ∈ y :: ys := p.mem_iff.mp List.mem_cons_self
      have h2 : y ∈ x :: xs := p.mem_iff.mpr List.mem_cons_self
      rcases List.mem_cons.mp h1 with e | h1
      · exact e
      · rcases List.mem_cons.mp h2 with e | h2
        · exact e.symm
        · exact Int.le_antisymm ((List.pairwise_cons.mp hx).1 y h2) ((List.pairwise_cons.mp hy).1 x h1)
    subst e
    rw [sorted_uniq (List.Perm.cons_inv p) (List.pairwise_cons.mp hx).2 (List.pairwise_cons.mp hy).2]
theorem isort_uniq {xs ys : List Int} (p : ys.Perm xs) (h : ys.Pairwise (· ≤ ·)) : ys = isort xs := sorted_uniq (p.trans (isort_perm xs).symm) h (isort_sorted xs)
def dedup : List Int → List Int
  | [] => []
  | x :: xs => if x ∈ dedup xs then dedup xs else x :: dedup xs
theorem mem_dedup {k : Int} : ∀ {xs : List Int}, k ∈ dedup xs ↔ k ∈ xs
  | [] => by simp [dedup]
  | x :: xs => by
    unfold dedup
    split
    · rename_i h
      rw [mem_dedup (xs := xs), List.mem_cons]
      constructor
      · exact .inr
      · rintro (rfl | h2)
        · exact mem_dedup.mp h
        · exact h2
    · rw [List.mem_cons, mem_dedup (xs := xs), List.mem_cons]
theorem nodup_dedup : ∀ xs : List Int, (dedup xs).Nodup
  | [] => by simp [dedup]
  | x :: xs => by
    unfold dedup
    split
    · exact nodup_dedup xs
    · rename_i h; exact List.nodup_cons.mpr ⟨h, nodup_dedup xs⟩
/-- sorted, each once -/
def sdd (xs : List Int) : List Int := isort (dedup xs)
theorem mem_sdd {k : Int} {xs : List Int} : k ∈ sdd xs ↔ k ∈ xs := (isort_perm _).mem_iff.trans mem_dedup
theorem sdd_lt (xs : List Int) : (sdd xs).Pairwise (· < ·) := by
  have h1 := isort_sorted (dedup xs)
  have h2 : (isort (dedup xs)).Nodup := (isort_perm _).nodup_iff.mpr (nodup_dedup xs)
  refine (h1.and h2).imp fun {a b} h => ?_
  obtain ⟨h, k⟩ := h
  omega
theorem lt_uniq {xs ys : List Int} (h : ∀ k, k ∈ xs ↔ k ∈ ys) (hx : xs.Pairwise (· < ·)) (hy : ys.Pairwise (· < ·)) : xs = ys := by
  refine sorted_uniq ?_ (hx.imp fun h => Int.le_of_lt h) (hy.imp fun h => Int.le_of_lt h)
  exact (List.perm_ext_iff_of_nodup (hx.imp fun {a b} h => by omega) (hy.imp fun {a b} h => by omega)).mpr h
theorem sdd_uniq {xs ys : List Int} (h : ∀ k, k ∈ ys ↔ k ∈ xs) (hy : ys.Pairwise (· < ·)) : ys = sdd xs := lt_uniq (fun k => (h k).trans mem_sdd.symm) hy (sdd_lt xs)
theorem dedup_len_le (xs : List Int) : (dedup xs).length ≤ xs.length := by
  induction xs with
  | nil => simp [dedup]
  | cons x xs ih => unfold dedup; split <;> simp <;> omega
theorem sdd_len (xs : List Int) : (sdd xs).length = (dedup xs).length := (isort_perm _).length_eq

/-- the ints of a list -/
def intsOf : List PV → Option (List Int)
  | [] => some []
  | .int i :: xs => (intsOf xs).map (i :: ·)
  | _ :: _ => none
theorem intsOf_eq : ∀ {xs : List PV} {ns : List Int}, intsOf xs = some ns → xs = ns.map PV.int
  | [], ns, h => by cases h; rfl
  | x :: xs, ns, h => by
    cases x <;> simp [intsOf] at h
    rename_i i
    obtain ⟨ms, h1, rfl⟩ := h
    rw [intsOf_eq h1]; rfl
@[simp] theorem intsOf_map : ∀ ns : List Int, intsOf (ns.map PV.int) = some ns
  | [] => rfl
  | n :: ns => by simp [intsOf, intsOf_map ns]
def blsOf : List PV → Option (List Bool)
  | [] => some []
  | .bl i :: xs => (blsOf xs).map (i :: ·)
  | _ :: _ => none
theorem blsOf_eq : ∀ {xs : List PV} {ns : List Bool}, blsOf xs = some ns → xs = ns.map PV.bl
  | [], ns, h => by cases h; rfl
  | x :: xs, ns, h => by
    cases x <;> simp [blsOf] at h
    rename_i i
    obtain ⟨ms, h1, rfl⟩ := h
    rw [blsOf_eq h1]; rfl
@[simp] theorem blsOf_map : ∀ ns : List Bool, blsOf (ns.map PV.bl) = some ns
  | [] => rfl
  | n :: ns => by simp [blsOf, blsOf_map ns]

section
variable {X : Cx} {cl : String → Option Addr} {W : WX}
theorem CallR.imp {f : Value} {r r'} (h : CallR X f r) (k : ∀ xs H Q, r' xs H Q → r xs H Q) : CallR X f r' := fun pins s σ H xs us Q I rx q => h pins s σ H xs us Q I rx (k xs H Q q)

/-! ### len -/
def pLen : List PV → R Vl
  | [.lst xs] => .ok (.z (.int xs.length))
  | [.tup xs] => .ok (.z (.int xs.length))
  | [.dct false kvs] => .ok (.z (.int kvs.length))
  | [.str z] => if sm z.length then .ok (.z (.int z.length)) else .no
  | _ => .no
theorem pLen_ne : NoErL pLen := fun x e h => by
  unfold pLen at h
  split at h <;> first | (split at h <;> cases h) | cases h
theorem RpD.length {T : Tb} {F : Hp} : ∀ {kvs : List (PV × PV)} {ks : List (PV × V)}, RpD T F kvs ks → ks.length = kvs.length
  | [], _, h => by simp only [RpD] at h; subst h; rfl
  | (k, x) :: r, _, h => by
    simp only [RpD] at h
    obtain ⟨v, ws, rfl, _, q⟩ := h
    simp [RpD.length q]
theorem o_len : OpL X cl pLen (fun xs H Q => (∃ x n, xs = [x] ∧ LenV X.K x H n ∧ Q (.int n) H) ∨ (∃ a kvs, xs = [V.ref a] ∧ H a = some (.dK kvs) ∧ Q (.int kvs.length) H)) := by
  intro F H xs vs Q s r h
  unfold pLen at h
  split at h
  · obtain ⟨v, rfl, rv⟩ := r.one
    obtain ⟨a, us, rfl, q, rl⟩ := rv.lst s
    exact .inl ⟨_, us.length, rfl, .inl ⟨us, q, rfl⟩, by rw [rl.length]; exact h.int s⟩
  · obtain ⟨v, rfl, rv⟩ := r.one
    obtain ⟨a, us, rfl, q, rl⟩ := rv.tup s
    exact .inl ⟨_, us.length, rfl, .inr ⟨us, SqT.of q, rfl⟩, by rw [rl.length]; exact h.int s⟩
  · obtain ⟨v, rfl, rv⟩ := r.one
    obtain ⟨a, ks, rfl, ⟨es, q, rfl⟩, rl⟩ := rv.dct s
    refine .inr ⟨a, es, rfl, q, ?_⟩
    have e := rl.length
    rw [List.length_map] at e
    rw [e]
    exact h.int s
  · rename_i z
    obtain ⟨v, rfl, rv⟩ := r.one
    cases e : sm z.length with
    | false => rw [e] at h; exact h.elim
    | true => rw [e] at h; exact .inl ⟨_, z.length, rfl, by rw [rv.str]; exact ⟨sm_le e, rfl⟩, h.int s⟩
  · exact h.elim
theorem q_len {fs} {e : Expr} {p pos : Pos} (hm : X.mg "len" = none) (ha : QA cl X W fs [e]) (hg : Gl X "len" := by rfl) (he : starEach (e :: []) X.env = (false, eval e X.env) :: starEach [] X.env := by rfl) (hpl : (backTo pos (starEach [] X.env)).any (·.1) = false := by rfl) :
    QE cl X W (xB pLen fs) (.Call (.Name "len" p) [e] [] pos) := q_callB (CallR.or call_len call_lenD) pLen_ne o_len PySem.boot_len hg hm ha (by decide) (by decide) he hpl

/-! ### all, any, sum, max, min -/
def pAll : List PV → R Vl
  | [.lst xs] => match blsOf xs with
    | some bs => .ok (.z (.bl (bs.all id)))
    | none => .no
  | _ => .no
def pAny : List PV → R Vl
  | [.lst xs] => match blsOf xs with
    | some bs => .ok (.z (.bl (bs.any id)))
    | none => .no
  | _ => .no
def pSum : List PV → R Vl
  | [.lst xs] => match intsOf xs with
    | some ns => .ok (.z (.int ns.sum))
    | none => .no
  | _ => .no
theorem q_all {fs} {e : Expr} {p pos : Pos} (hm : X.mg "all" = none) (hc : X.calm = true) (ha : QA cl X W fs [e]) (hg : Gl X "all" := by rfl) (he : starEach (e :: []) X.env = (false, eval e X.env) :: starEach [] X.env := by rfl) (hpl : (backTo pos (starEach [] X.env)).any (·.1) = false := by rfl) :
    QE cl X W (xB pAll fs) (.Call (.Name "all" p) [e] [] pos) := by
  refine q_callB (cr_all hc) (fun x e h => ?_) (fun F H xs vs Q s r h => ?_) (by decide +kernel) hg hm ha (by decide) (by decide) he hpl
  · unfold pAll at h
    split at h <;> first | (split at h <;> cases h) | cases h
  · unfold pAll at h
    split at h
    · rename_i xs
      obtain ⟨v, rfl, rv⟩ := r.one
      obtain ⟨a, us, rfl, q, rl⟩ := rv.lst s
      cases e : blsOf xs with
      | none => rw [e] at h; exact h.elim
      | some bs =>
        rw [e] at h
        rw [blsOf_eq e] at rl
        exact ⟨a, bs, rfl, by rw [← rl.bls]; exact q, h.bl s⟩
    · exact h.elim
theorem q_any {fs} {e : Expr} {p pos : Pos} (hm : X.mg "any" = none) (hc : X.calm = true) (ha : QA cl X W fs [e]) (hg : Gl X "any" := by rfl) (he : starEach (e :: []) X.env = (false, eval e X.env) :: starEach [] X.env := by rfl) (hpl : (backTo pos (starEach [] X.env)).any (·.1) = false := by rfl) :
    QE cl X W (xB pAny fs) (.Call (.Name "any" p) [e] [] pos) := by
  refine q_callB (cr_any hc) (fun x e h => ?_) (fun F H xs vs Q s r h => ?_) (by decide +kernel) hg hm ha (by decide) (by decide) he hpl
  · unfold pAny at h
    split at h <;> first | (split at h <;> cases h) | cases h
  · unfold pAny at h
    split at h
    · rename_i xs
      obtain ⟨v, rfl, rv⟩ := r.one
      obtain ⟨a, us, rfl, q, rl⟩ := rv.lst s
      cases e : blsOf xs with
      | none => rw [e] at h; exact h.elim
      | some bs =>
        rw [e] at h
        rw [blsOf_eq e] at rl
        exact ⟨a, bs, rfl, by rw [← rl.bls]; exact q, h.bl s⟩
    · exact h.elim
theorem q_sum {fs} {e : Expr} {p pos : Pos} (hm : X.mg "sum" = none) (hc : X.calm = true) (ha : QA cl X W fs [e]) (hg : Gl X "sum" := by rfl) (he : starEach (e :: []) X.env = (false, eval e X.env) :: starEach [] X.env := by rfl) (hpl : (backTo pos (starEach [] X.env)).any (·.1) = false := by rfl) :
    QE cl X W (xB pSum fs) (.Call (.Name "sum" p) [e] [] pos) := by
  refine q_callB (cr_sum hc) (fun x e h => ?_) (fun F H xs vs Q s r h => ?_) (by decide +kernel) hg hm ha (by decide) (by decide) he hpl
  · unfold pSum at h
    split at h <;> first | (split at h <;> cases h) | cases h
  · unfold pSum at h
    split at h
    · rename_i xs
      obtain ⟨v, rfl, rv⟩ := r.one
      obtain ⟨a, us, rfl, q, rl⟩ := rv.lst s
      cases e : intsOf xs with
      | none => rw [e] at h; exact h.elim
      | some bs =>
        rw [e] at h
        rw [intsOf_eq e] at rl
        exact ⟨a, bs, rfl, by rw [← rl.ints]; exact q, h.int s⟩
    · exact h.elim
def pMax2 : List PV → R Vl
  | [.int i, .int j] => .ok (.z (.int (if j > i then j else i)))
  | _ => .no
def pMin2 : List PV → R Vl
  | [.int i, .int j] => .ok (.z (.int (if j < i then j else i)))
  | _ => .no
theorem q_max2 {fs} {a b : Expr} {p pos : Pos} (hm : X.mg "max" = none) (hc : X.calm = true) (ha : QA cl X W fs [a, b]) (hg : Gl X "max" := by rfl) (he : starEach (a :: [b]) X.env = (false, eval a X.env) :: starEach [b] X.env := by rfl) (hpl : (backTo pos (starEach [b] X.env)).any (·.1) = false := by rfl) :
    QE cl X W (xB pMax2 fs) (.Call (.Name "max" p) [a, b] [] pos) := by
  refine q_callB (call_max2 hc) (fun x e h => ?_) (fun F H xs vs Q s r h => ?_) (by decide +kernel) hg hm ha (by decide) (by decide) he hpl
  · unfold pMax2 at h
    split at h <;> cases h
  · unfold pMax2 at h
    split at h
    · obtain ⟨v, u, rfl, rv, ru⟩ := r.two
      exact ⟨_, _, by rw [rv.int, ru.int], h.int s⟩
    · exact h.elim
theorem q_min2 {fs} {a b : Expr} {p pos : Pos} (hm : X.mg "min" = none) (hc : X.calm = true) (ha : QA cl X W fs [a, b]) (hg : Gl X "min" := by rfl) (he : starEach (a :: [b]) X.env = (false, eval a X.env) :: starEach [b] X.env := by rfl) (hpl : (backTo pos (starEach [b] X.env)).any (·.1) = false := by rfl) :
    QE cl X W (xB pMin2 fs) (.Call (.Name "min" p) [a, b] [] pos) := by
  refine q_callB (call_min2 hc) (fun x e h => ?_) (fun F H xs vs Q s r h => ?_) (by decide +kernel) hg hm ha (by decide) (by decide) he hpl
  · unfold pMin2 at h
    split at h <;> cases h
  · unfold pMin2 at h
    split at h
    · obtain ⟨v, u, rfl, rv, ru⟩ := r.two
      exact ⟨_, _, by rw [rv.int, ru.int], h.int s⟩
    · exact h.elim
/-- int(n), int(flag) -/
def pInt : List PV → R Vl
  | [.int i] => .ok (.z (.int i))
  | [.bl k] => .ok (.z (.int (if k then 1 else 0)))
  | _ => .no
theorem q_int1 {fs} {a : Expr} {p pos : Pos} (hm : X.mg "int" = none) (ha : QA cl X W fs [a]) (hg : Gl X "int" := by rfl) (he : starEach (a :: []) X.env = (false, eval a X.env) :: starEach [] X.env := by rfl) (hpl : (backTo pos (starEach [] X.env)).any (·.1) = false := by rfl) :
    QE cl X W (xB pInt fs) (.Call (.Name "int" p) [a] [] pos) := by
  refine q_callTy call_int1 (fun x e h => ?_) (fun F H xs vs Q s r h => ?_) (by decide +kernel) hg hm ha (by decide) (by decide) he hpl
  · unfold pInt at h
    split at h <;> cases h
  · unfold pInt at h
    split at h
    · obtain ⟨v, rfl, rv⟩ := r.one
      exact .inl ⟨_, by rw [rv.int], h.int s⟩
    · obtain ⟨v, rfl, rv⟩ := r.one
      exact .inr ⟨_, by rw [rv.bl], h.int s⟩
    · exact h.elim

/-! ### list, tuple -/
def pLst : List PV → R Vl
  | [.lst xs] => .ok (.fr .ow (.lst xs))
  | [.tup xs] => .ok (.fr .ow (.lst xs))
  | _ => .no
def pTup : List PV → R Vl
  | [.lst xs] => .ok (.z (.tup xs))
  | [.tup xs] => .ok (.z (.tup xs))
  | _ => .no
theorem q_list {fs} {a : Expr} {p pos : Pos} (hm : X.mg "list" = none) (ha : QA cl X W fs [a]) (hg : Gl X "list" := by rfl) (he : starEach (a :: []) X.env = (false, eval a X.env) :: starEach [] X.env := by rfl) (hpl : (backTo pos (starEach [] X.env)).any (·.1) = false := by rfl) :
    QE cl X W (xB pLst fs) (.Call (.Name "list" p) [a] [] pos) := by
  refine q_callTy call_list_of (fun x e h => ?_) (fun F H xs vs Q s r h => ?_) (by decide +kernel) hg hm ha (by decide) (by decide) he hpl
  · unfold pLst at h
    split at h <;> cases h
  · unfold pLst at h
    split at h
    · obtain ⟨v, rfl, rv⟩ := r.one
      obtain ⟨a, us, rfl, q, rl⟩ := rv.lst s
      exact ⟨a, us, rfl, .inl q, fun l nl => Post.lst s nl rl h⟩
    · obtain ⟨v, rfl, rv⟩ := r.one
      obtain ⟨a, us, rfl, q, rl⟩ := rv.tup s
      exact ⟨a, us, rfl, .inr (SqT.of q), fun l nl => Post.lst s nl rl h⟩
    · exact h.elim
theorem q_tuple {fs} {a : Expr} {p pos : Pos} (hm : X.mg "tuple" = none) (ha : QA cl X W fs [a]) (hg : Gl X "tuple" := by rfl) (he : starEach (a :: []) X.env = (false, eval a X.env) :: starEach [] X.env := by rfl) (hpl : (backTo pos (starEach [] X.env)).any (·.1) = false := by rfl) :
    QE cl X W (xB pTup fs) (.Call (.Name "tuple" p) [a] [] pos) := by
  refine q_callTy call_tuple_of (fun x e h => ?_) (fun F H xs vs Q s r h => ?_) (by decide +kernel) hg hm ha (by decide) (by decide) he hpl
  · unfold pTup at h
    split at h <;> cases h
  · unfold pTup at h
    split at h
    · obtain ⟨v, rfl, rv⟩ := r.one
      obtain ⟨a, us, rfl, q, rl⟩ := rv.lst s
      exact ⟨a, us, rfl, .inl ⟨q, fun l nl => Post.tup s nl rl h⟩⟩
    · obtain ⟨v, rfl, rv⟩ := r.one
      have fx := rv.tupF
      obtain ⟨a, us, rfl, q, rl⟩ := rv.tup s
      exact ⟨a, us, rfl, .inr ⟨SqT.of q, h.of s fx⟩⟩
    · exact h.elim
/-- list(range(..)), tuple(range(..)) -/
def tqR (K : PySem.W.Frag) (cl : String → Option Addr) (W : WX) (f : Env → R (Int × Int)) : L2.St → Hp → (Int → Int → Hp → Prop) → Prop := fun σ H Q => ∃ F A γ, Rel ⟨K, cl⟩ F A σ H γ ∧ match f γ with
  | .ok b => ∀ F' H', Ext F H F' H' → Q b.1 b.2 H'
  | .er e => ∀ F' H' c d, Ext F H F' H' → XcR ⟨K, cl⟩ F' e c d → W c d σ H'
  | .no => False
def r1 (f : Ex) : Env → R (Int × Int) := fun γ => (f γ).bind fun l => match l.x with
  | .int j => .ok (0, j)
  | _ => .no
def r2 (f g : Ex) : Env → R (Int × Int) := fun γ => (f γ).bind fun l => (g γ).bind fun k => match l.x, k.x with
  | .int i, .int j => .ok (i, j)
  | _, _ => .no
structure QR (cl : String → Option Addr) (X : Cx) (W : WX) (f : Env → R (Int × Int)) (e : Expr) : Prop where
  pr : PRg X e (tqR X.K cl W f)
theorem _root_.L2.PRg.imp {X : Cx} {e : Expr} {t t'} (h : PRg X e t) (k : ∀ σ H Q, t' σ H Q → t σ H Q) : PRg X e t' := fun pins s σ H Q I q => h pins s σ H Q I (k σ H Q q)
theorem qr_1 {f} {a : Expr} {p pos : Pos} (hm : X.mg "range" = none) (ha : QE cl X W f a) (hg : Gl X "range" := by rfl) (na : starEach [a] X.env = (false, eval a X.env) :: starEach [] X.env := by rfl) : QR cl X W (r1 f) (.Call (.Name "range" p) [a] [] pos) := ⟨(prg_1 hg hm ha.pe na).imp fun σ H Q h => by
  obtain ⟨F, A, γ, rel, h⟩ := h
  refine ⟨F, A, γ, rel, ?_⟩
  unfold r1 at h
  cases e : f γ with
  | no => rw [e] at h; exact h
  | er x => rw [e] at h; exact h
  | ok l =>
    rw [e] at h
    simp only [R.bind_ok] at h
    intro F1 H1 v e1 q1
    have rv := q1.rv
    cases ei : l.x with
    | int i =>
      rw [ei] at rv h
      exact ⟨i, rv.int, h F1 H1 e1⟩
    | _ => rw [ei] at h; exact h.elim⟩
theorem qr_2 {f g} {a b : Expr} {p pos : Pos} (hm : X.mg "range" = none) (ha : QE cl X W f a) (hb : QE cl X W g b) (hg : Gl X "range" := by rfl) (na : starEach [a, b] X.env = (false, eval a X.env) :: starEach [b] X.env := by rfl)
    (nb : starEach [b] X.env = (false, eval b X.env) :: starEach [] X.env := by rfl) (hpl : (backTo pos (starEach [b] X.env)).any (·.1) = false := by rfl) : QR cl X W (r2 f g) (.Call (.Name "range" p) [a, b] [] pos) := ⟨(prg_2 hg hm ha.pe hb.pe na nb hpl).imp fun σ H Q h => by
  obtain ⟨F, A, γ, rel, h⟩ := h
  refine ⟨F, A, γ, rel, ?_⟩
  unfold r2 at h
  cases e : f γ with
  | no => rw [e] at h; exact h
  | er x => rw [e] at h; exact h
  | ok l =>
    rw [e] at h
    simp only [R.bind_ok] at h
    intro F1 H1 v e1 q1
    refine ⟨F1, A, γ, rel.ext e1, ?_⟩
    cases e' : g γ with
    | no => rw [e'] at h; exact h
    | er x => rw [e'] at h; exact fun F' H' c d ex => h F' H' c d (e1.trans ex)
    | ok k =>
      rw [e'] at h
      simp only [R.bind_ok] at h
      intro F2 H2 u e2 q2
      have rv := q1.rv
      have ru := q2.rv
      cases ei : l.x with
      | int i =>
        cases ej : k.x with
        | int j =>
          rw [ei, ej] at h
          rw [ei] at rv
          rw [ej] at ru
          exact ⟨i, j, rv.int, ru.int, h F2 H2 (e1.trans e2)⟩
        | _ => rw [ei, ej] at h; exact h.elim
      | _ => rw [ei] at h; exact h.elim⟩
def cRg (a b : Int) : Bool := cRng a && cRng b && sm (b - a).toNat
theorem cRg_of {a b : Int} (h : cRg a b = true) : RgOk a b := by
  simp only [cRg, Bool.and_eq_true] at h
  have h1 := cRng_of h.1.1
  have h2 := cRng_of h.1.2
  exact ⟨h1.1, h1.2, h2.1, h2.2, of_decide_eq_true h.2⟩
theorem rgV_rp {T : Tb} {F : Hp} (a b : Int) : RpL T F (rngL a (b - a).toNat) (rgV a b) := by
  unfold rngL rgV
  generalize (b - a).toNat = n
  have : ∀ l : List Nat, RpL T F (l.map fun (k : Nat) => PV.int (a + (k : Int))) (l.map fun i => V.int (a + (i : Nat))) := fun l => by
    induction l with
    | nil => exact RpL.nil
    | cons k l ih => exact RpL.cons (by simp [Rp]) ih
  exact this _
def xLstR (f : Env → R (Int × Int)) : Ex := fun γ => (f γ).bind fun p => if cRg p.1 p.2 then .ok (.fr .ow (.lst (rngL p.1 (p.2 - p.1).toNat))) else .no
def xTupR (f : Env → R (Int × Int)) : Ex := fun γ => (f γ).bind fun p => if cRg p.1 p.2 then .ok (.z (.tup (rngL p.1 (p.2 - p.1).toNat))) else .no
theorem q_listR {f} {e : Expr} {p pos : Pos} (hm : X.mg "list" = none) (hc : X.calm = true) (he : QR cl X W f e) (hg : Gl X "list" := by rfl) (na : starEach [e] X.env = (false, eval e X.env) :: starEach [] X.env := by rfl) : QE cl X W (xLstR f) (.Call (.Name "list" p) [e] [] pos) := ⟨(pe_listRg hc hg hm he.pr na).imp fun σ H Q h => by
  obtain ⟨F, A, γ, rel, h⟩ := h
  refine ⟨F, A, γ, rel, ?_⟩
  unfold xLstR at h
  cases e : f γ with
  | no => rw [e] at h; exact h
  | er x => rw [e] at h; exact h
  | ok l =>
    rw [e] at h
    simp only [R.bind_ok] at h
    intro F1 H1 e1
    cases k : cRg l.1 l.2 with
    | false => rw [k] at h; exact h.elim
    | true =>
      rw [k] at h
      exact ⟨cRg_of k, fun q nq => h _ _ _ (e1.trans (Ext.newO e1.sub nq)) ((vlN_lst e1.sub nq (rgV_rp _ _)).r e1.hle)⟩⟩
theorem q_tupleR {f} {e : Expr} {p pos : Pos} (hm : X.mg "tuple" = none) (hc : X.calm = true) (he : QR cl X W f e) (hg : Gl X "tuple" := by rfl) (na : starEach [e] X.env = (false, eval e X.env) :: starEach [] X.env := by rfl) : QE cl X W (xTupR f) (.Call (.Name "tuple" p) [e] [] pos) := ⟨(pe_tupRg hc hg hm he.pr na).imp fun σ H Q h => by
  obtain ⟨F, A, γ, rel, h⟩ := h
  refine ⟨F, A, γ, rel, ?_⟩
  unfold xTupR at h
  cases e : f γ with
  | no => rw [e] at h; exact h
  | er x => rw [e] at h; exact h
  | ok l =>
    rw [e] at h
    simp only [R.bind_ok] at h
    intro F1 H1 e1
    cases k : cRg l.1 l.2 with
    | false => rw [k] at h; exact h.elim
    | true =>
      rw [k] at h
      exact ⟨cRg_of k, fun q nq => h _ _ _ (e1.trans (Ext.newF e1.sub nq)) (VlR.zz (new_tup e1.sub nq (rgV_rp _ _)))⟩⟩

/-! ### sorted of ints -/
def rSortZ (K : PySem.W.Frag) : List V → Hp → VK → Prop := fun vs H Q => ∃ (a : Addr) (ns : List Int), vs = [V.ref a] ∧ (Rd H a (.lst (ns.map V.int)) ∨ H a = some (.tup (ns.map V.int))) ∧
  ∀ p, H p = none → Q (.ref p) (upd H p (.lst ((isort ns).map V.int)))
theorem cr_sortZ : CallR X (.builtin "sorted") (rSortZ X.K) := by
  intro pins s σ H vs us Q I r h
  obtain ⟨a, ns, rfl, hs, q⟩ := h
  obtain ⟨u, rfl, ru⟩ := vals1 r
  obtain rfl : u = Value.ref a := ru
  have go : ∀ (T : String) (o : Obj) (its : List Value) (n : Nat), (T = "list" ∨ T = "tuple") → Vals (ns.map V.int) its → s.heap.get? a = some o → o.cls = .type T → o.data = .seq its.toArray n → its.length ≤ sizeLine →
      wpAny (model X.prog X.w) X.A (call (.builtin "sorted") [.ref a]) (EP X pins σ Q) X.xe s := fun T o its n hT rv ho hc hd hz => by
    have hi := rv.ints
    refine SrtZ.sorted_seq SrtO.swo_int hT ho hc hd hz (fun h2 h₁ a' _ _ => SrtO.ints_sortable hi h2) fun out p e h' h1 h2 hp he k => ?_
    obtain ⟨k1, k2, k3⟩ := SrtO.ints_out hi h1 h2
    have eu := isort_uniq k2 k3
    rw [eu] at k1
    have hlen : ((isort ns).map V.int).length ≤ sizeLine := by
      rw [List.length_map, (isort_perm ns).length_eq]
      have := rv.length
      rw [List.length_map] at this
      omega
    exact ⟨.ref p, _, I.laidN (o := .lst ((isort ns).map V.int)) (t' := s.toks) k hp ⟨hlen, out, e, vals_of_ints k1, he⟩, rfl, q p (I.hok.gone hp)⟩
  rcases hs with hs | hs
  · obtain ⟨z, its, n, rv, hl, e⟩ := I.lstR hs
    exact go "list" _ its n (.inl rfl) rv e rfl rfl (by rw [← hl]; exact z)
  · obtain ⟨its, rv, ⟨o, ho, hc, n, hd⟩, hz⟩ := I.tuple (SqT.of (K := X.K) hs)
    exact go "tuple" o its n (.inr rfl) rv ho hc hd (by rw [← rv.length]; exact hz)
def pSrt : List PV → R Vl
  | [.lst xs] => match intsOf xs with
    | some ns => .ok (.fr .ow (.lst ((isort ns).map .int)))
    | none => .no
  | [.tup xs] => match intsOf xs with
    | some ns => .ok (.fr .ow (.lst ((isort ns).map .int)))
    | none => .no
  | _ => .no
theorem q_sorted {fs} {a : Expr} {p pos : Pos} (hm : X.mg "sorted" = none) (ha : QA cl X W fs [a]) (hg : Gl X "sorted" := by rfl) (he : starEach (a :: []) X.env = (false, eval a X.env) :: starEach [] X.env := by rfl) (hpl : (backTo pos (starEach [] X.env)).any (·.1) = false := by rfl) :
    QE cl X W (xB pSrt fs) (.Call (.Name "sorted" p) [a] [] pos) := by
  refine q_callB cr_sortZ (fun x e h => ?_) (fun F H xs vs Q s r h => ?_) (by decide +kernel) hg hm ha (by decide) (by decide) he hpl
  · unfold pSrt at h
    split at h <;> first | (split at h <;> cases h) | cases h
  · unfold pSrt at h
    split at h
    · rename_i xs
      obtain ⟨v, rfl, rv⟩ := r.one
      obtain ⟨a, us, rfl, q, rl⟩ := rv.lstR s
      cases e : intsOf xs with
      | none => rw [e] at h; exact h.elim
      | some ns =>
        rw [e] at h
        rw [intsOf_eq e] at rl
        exact ⟨a, ns, rfl, .inl (by rw [← rl.ints]; exact q), fun p np => Post.lst s np (RpL.ofInts _) h⟩
    · rename_i xs
      obtain ⟨v, rfl, rv⟩ := r.one
      obtain ⟨a, us, rfl, q, rl⟩ := rv.tup s
      cases e : intsOf xs with
      | none => rw [e] at h; exact h.elim
      | some ns =>
        rw [e] at h
        rw [intsOf_eq e] at rl
        exact ⟨a, ns, rfl, .inr (by rw [← rl.ints]; exact q), fun p np => Post.lst s np (RpL.ofInts _) h⟩
    · exact h.elim

/-! ### set(x) of ints, under sorted and len -/
def rSetZ (K : PySem.W.Frag) (w : World) : List V → Hp → VK → Prop := fun vs H Q => ∃ (a : Addr) (ns : List Int), vs = [V.ref a] ∧ (Rd H a (.lst (ns.map V.int)) ∨ H a = some (.tup (ns.map V.int))) ∧ ns.length + 1 < scanBound ∧
  ∀ p c, H p = none → c = (dedup ns).length → Q (.ref p) (upd H p (SetO w p (fun j => decide (j ∈ ns)) c))
theorem setR_card {w : World} {h : Heap} {a : Addr} {ns : List Int} {c : Nat} (R : SetR w h a (fun j => decide (j ∈ ns)) c) : c = (dedup ns).length := by
  obtain ⟨o, es, ep, t, _, _, _, _, nd, hm, _, _, hn, _⟩ := R
  have p : (es.toList.map L2.keyOf).Perm (dedup ns) := by
    refine (List.perm_ext_iff_of_nodup nd (nodup_dedup ns)).mpr fun k => ?_
    rw [← hm k, mem_dedup]
    simp
  have := p.length_eq
  rw [List.length_map, Array.length_toList] at this
  omega
end
end Z
/-! the pure layer, part K: sets of ints under sorted and len -/
namespace Z
open PySem L2
section
variable {X : Cx} {cl : String → Option Addr} {W : WX}
theorem dedup_le_len {c : Nat} {ns : List Int} (h : c = (dedup ns).length) : c ≤ ns.length := h ▸ dedup_len_le ns
theorem cr_setZ (hc : X.calm = true) : CallR X (.type "set") (rSetZ X.K X.w) := by
  intro pins s σ H vs us Q I r h
  obtain ⟨a, ns, rfl, hs, hb, q⟩ := h
  rw [Vals.ref1 r]
  have fin : ∀ (h' : Heap) (tk c : Nat), SetR X.w h' s.heap.objs.size (fun j => decide (j ∈ ns)) c → c ≤ ns.length → (∀ b o, s.heap.get? b = some o → h'.get? b = some o) →
      EP X pins σ Q (.ref s.heap.objs.size) { s with heap := h', toks := tk } := fun h' tk c R _ k => by
    have hp : s.heap.objs.size ≤ s.heap.objs.size := Nat.le_refl _
    have hn : H s.heap.objs.size = none := I.hok.fresh hp
    have J : Inv X pins σ (upd H s.heap.objs.size (SetO X.w s.heap.objs.size (fun j => decide (j ∈ ns)) c)) { s with heap := h', toks := tk } :=
      I.call (ch := []) (Un.laid k hp hn) (I.hok.laid k hp (setO_new R)) (by exact I.bare) (fun _ z => nomatch z)
    exact ⟨.ref s.heap.objs.size, _, J, rfl, q _ c hn (setR_card R)⟩
  rcases hs with hs | hs
  · obtain ⟨z, its, n, rv, hl, e⟩ := I.lstR hs
    exact SetL.set_of_list ns (I.ok.hd hc) ⟨_, e, rfl, n, rfl⟩ (by simpa using RZ.intsAre_vals rv) hb fin
  · obtain ⟨its, rv, ht, hz⟩ := I.tuple (SqT.of (K := X.K) hs)
    exact call_set_tupI ns (I.ok.hd hc) ht (by simpa using RZ.intsAre_vals rv) hb fin
def rLenSet (w : World) : List V → Hp → VK → Prop := fun vs H Q => ∃ (a : Addr) (S : Int → Bool) (n : Nat), vs = [V.ref a] ∧ H a = some (SetO w a S n) ∧ n ≤ 16777216 ∧ Q (.int (n : Nat)) H
theorem cr_lenSetZ : CallR X (.builtin "len") (rLenSet X.w) := by
  intro pins s σ H vs us Q I r h
  obtain ⟨a, S, n, rfl, ha, hn64, q⟩ := h
  rw [Vals.ref1 r]
  obtain ⟨o, es, ep, t, ho, hex, hd, _, _, _, hf, hn⟩ := (setO_get I ha).setOf (P := X.prog)
  exact PySem.call_len_set ho hex hd hf (by rw [hn]; omega) ⟨.int n, H, I.tok _, ⟨_, by rw [hn]⟩, q⟩
def pSetInts : List PV → R (List Int)
  | [.lst xs] => match intsOf xs with
    | some ns => if ns.length < 4000 then .ok ns else .no
    | none => .no
  | [.tup xs] => match intsOf xs with
    | some ns => if ns.length < 4000 then .ok ns else .no
    | none => .no
  | _ => .no
theorem setInts_ok {T : Tb} {F H : Hp} {xs : List PV} {vs : List V} {ns : List Int} (s : Same F H) (r : RvL T F H xs vs) (h : pSetInts xs = .ok ns) :
    ∃ a : Addr, vs = [V.ref a] ∧ (Rd H a (.lst (ns.map V.int)) ∨ H a = some (.tup (ns.map V.int))) ∧ ns.length < 4000 := by
  unfold pSetInts at h
  split at h
  · rename_i xs
    obtain ⟨v, rfl, rv⟩ := r.one
    obtain ⟨a, us, rfl, q, rl⟩ := rv.lstR s
    cases e : intsOf xs with
    | none => rw [e] at h; cases h
    | some ms =>
      rw [e] at h
      rw [intsOf_eq e] at rl
      dsimp only at h
      split at h
      · cases h; exact ⟨a, rfl, .inl (by rw [← rl.ints]; exact q), by assumption⟩
      · cases h
  · rename_i xs
    obtain ⟨v, rfl, rv⟩ := r.one
    obtain ⟨a, us, rfl, q, rl⟩ := rv.tup s
    cases e : intsOf xs with
    | none => rw [e] at h; cases h
    | some ms =>
      rw [e] at h
      rw [intsOf_eq e] at rl
      dsimp only at h
      split at h
      · cases h; exact ⟨a, rfl, .inr (by rw [← rl.ints]; exact q), by assumption⟩
      · cases h
  · cases h
theorem setInts_ne (xs : List PV) (e : Xc) : pSetInts xs ≠ .er e := by
  unfold pSetInts
  intro h
  split at h <;> first | (split at h <;> first | (split at h <;> cases h) | cases h) | cases h
def pLenSet (xs : List PV) : R Vl := (pSetInts xs).bind fun ns => .ok (.z (.int (dedup ns).length))
def pSrtSet (xs : List PV) : R Vl := (pSetInts xs).bind fun ns => if (dedup ns).length < 64 then .ok (.fr .ow (.lst ((sdd ns).map .int))) else .no
theorem q_lenSet {fs} {a : Expr} {p p2 q pos : Pos} (hm : X.mg "len" = none) (hm2 : X.mg "set" = none) (hc : X.calm = true) (ha : QA cl X W fs [a]) (hg : Gl X "len" := by rfl) (hg2 : Gl X "set" := by rfl)
    (he : starEach [a] X.env = (false, eval a X.env) :: starEach [] X.env := by rfl) (he2 : starEach [Expr.Call (.Name "set" p2) [a] [] q] X.env = (false, eval (Expr.Call (.Name "set" p2) [a] [] q) X.env) :: starEach [] X.env := by rfl)
    (hpl : (backTo q (starEach [] X.env)).any (·.1) = false := by rfl) (hpl2 : (backTo pos (starEach [] X.env)).any (·.1) = false := by rfl) :
    QE cl X W (xB pLenSet fs) (.Call (.Name "len" p) [.Call (.Name "set" p2) [a] [] q] [] pos) := by
  have h1 : PE X (.Call (.Name "set" p2) [a] [] q) _ := pe_callTy (cr_setZ hc) hg2 hm2 (by decide +kernel) ha.pa (by decide) (by decide) he hpl
  have h2 : PA X [.Call (.Name "set" p2) [a] [] q] _ := pa_cons h1 pa_nil he2
  refine ⟨(pe_callB cr_lenSetZ hg hm PySem.boot_len h2 (by decide) (by decide) he2 hpl2).imp fun σ H Q h => ?_⟩
  obtain ⟨F, A, γ, rel, h⟩ := h
  refine ⟨F, A, γ, rel, ?_⟩
  unfold xB at h
  cases e : fs γ with
  | no => rw [e] at h; exact h
  | er x => rw [e] at h; exact h
  | ok l =>
    rw [e] at h
    simp only [R.bind_ok] at h
    intro F1 H1 vs e1 r1
    unfold pLenSet at h
    cases e2 : pSetInts l with
    | no => rw [e2] at h; exact h.elim
    | er x => exact absurd e2 (setInts_ne _ _)
    | ok ns =>
      rw [e2] at h
      simp only [R.bind_ok] at h
      obtain ⟨a', rfl, hs, hl⟩ := setInts_ok e1.sub r1 e2
      refine ⟨a', ns, rfl, hs, by unfold scanBound; omega, fun p c hp hcc => ?_⟩
      have hcl := dedup_le_len hcc
      refine ⟨p, _, c, rfl, upd_same, by omega, ?_⟩
      rw [hcc]
      exact h _ _ _ (e1.trans (Ext.newO e1.sub hp)) (VlR.zz (by simp [Rp]))
theorem q_sortedSet {fs} {a : Expr} {p p2 q pos : Pos} (hm : X.mg "sorted" = none) (hm2 : X.mg "set" = none) (hc : X.calm = true) (ha : QA cl X W fs [a]) (hg : Gl X "sorted" := by rfl) (hg2 : Gl X "set" := by rfl)
    (he : starEach [a] X.env = (false, eval a X.env) :: starEach [] X.env := by rfl) (he2 : starEach [Expr.Call (.Name "set" p2) [a] [] q] X.env = (false, eval (Expr.Call (.Name "set" p2) [a] [] q) X.env) :: starEach [] X.env := by rfl)
    (hpl : (backTo q (starEach [] X.env)).any (·.1) = false := by rfl) (hpl2 : (backTo pos (starEach [] X.env)).any (·.1) = false := by rfl) :
    QE cl X W (xB pSrtSet fs) (.Call (.Name "sorted" p) [.Call (.Name "set" p2) [a] [] q] [] pos) := by
  have h1 : PE X (.Call (.Name "set" p2) [a] [] q) _ := pe_callTy (cr_setZ hc) hg2 hm2 (by decide +kernel) ha.pa (by decide) (by decide) he hpl
  have h2 : PA X [.Call (.Name "set" p2) [a] [] q] _ := pa_cons h1 pa_nil he2
  refine ⟨(pe_callB (cr_sortedSet hc) hg hm (by decide +kernel) h2 (by decide) (by decide) he2 hpl2).imp fun σ H Q h => ?_⟩
  obtain ⟨F, A, γ, rel, h⟩ := h
  refine ⟨F, A, γ, rel, ?_⟩
  unfold xB at h
  cases e : fs γ with
  | no => rw [e] at h; exact h
  | er x => rw [e] at h; exact h
  | ok l =>
    rw [e] at h
    simp only [R.bind_ok] at h
    intro F1 H1 vs e1 r1
    unfold pSrtSet at h
    cases e2 : pSetInts l with
    | no => rw [e2] at h; exact h.elim
    | er x => exact absurd e2 (setInts_ne _ _)
    | ok ns =>
      rw [e2] at h
      simp only [R.bind_ok] at h
      obtain ⟨a', rfl, hs, hl⟩ := setInts_ok e1.sub r1 e2
      refine ⟨a', ns, rfl, hs, by unfold scanBound; omega, fun p c hp hcc => ?_⟩
      have hcl := dedup_le_len hcc
      by_cases h64 : (dedup ns).length < 64
      · rw [if_pos h64] at h
        refine ⟨p, _, c, rfl, upd_same, by omega, fun ms p' hs' hm' hl' np' => ?_⟩
        have em : ms = sdd ns := sdd_uniq (fun k => (hm' k).trans (by simp)) hs'
        subst em
        have e3 := e1.trans (Ext.newO (o := SetO X.w p (fun j => decide (j ∈ ns)) c) e1.sub hp)
        exact h _ _ _ (e3.trans (Ext.newO e3.sub np')) ((vlN_lst e3.sub np' (RpL.ofInts _)).r e3.hle)
      · rw [if_neg h64] at h; exact h.elim
end
end Z
/-! the pure layer, part L: own slots written -/
namespace Z
open PySem L2
/-- slot i changed in place -/
theorem Rel.mut {T : Tb} {F H : Hp} {A σ γ} {i : Nat} {m x} (rel : Rel T F A σ H γ) (e : γ[i]? = some (.sl m x)) : ∃ v Ai, σ[i]? = some (some v) ∧ OwM T F H m x v Ai ∧ (∀ a ∈ Ai, a ∈ A) ∧
    ∀ m' x' F' H' A', Same F F' → (∀ a o, a ∉ Ai → H a = some o → H' a = some o) → Same F' H' → OwM T F' H' m' x' v A' → A'.Nodup → (∀ a ∈ A', a ∈ Ai ∨ H a = none) → (∀ a ∈ A', F' a = none) → (∀ a o, F' a = some o → F a = some o ∨ a ∈ Ai ∨ H a = none) →
      ∃ A2, Rel T F' A2 σ H' (γ.set i (.sl m' x')) ∧ Step F A H F' A2 H' := by
  obtain ⟨v, P, Ai, S, h1, rfl, h3, h4⟩ := OwE.split γ rel.env e
  obtain ⟨n12, nS, dS⟩ := List.nodup_append.mp rel.nd
  obtain ⟨nP, nAi, dP⟩ := List.nodup_append.mp n12
  have hd := OwE.dom γ rel.env
  refine ⟨v, Ai, h1, h3, fun a ha => by simp [ha], fun m' x' F' H' A' s k sub r na own d new => ⟨P ++ A' ++ S, ⟨sub, h4 m' x' F' H' A' s (fun a ha o q => k a o ?_ q) r, ?_, fun a ha => ?_⟩, ⟨s, fun a o ha q => k a o (fun z => ha (by simp [z])) q, fun a ha => ?_, fun a o q => ?_⟩⟩⟩
  · intro z
    rcases List.mem_append.mp ha with q | q
    · exact dP a q a z rfl
    · exact dS a (List.mem_append_right _ z) a q rfl
  · have live : ∀ a, (a ∈ P ∨ a ∈ S) → a ∉ A' := fun a ha z => by
      rcases own a z with q | q
      · rcases ha with w | w
        · exact dP a w a q rfl
        · exact dS a (List.mem_append_right _ q) a w rfl
      · obtain ⟨o, ho⟩ := hd a (by rcases ha with w | w <;> simp [w])
        rw [q] at ho; cases ho
    refine List.nodup_append.mpr ⟨List.nodup_append.mpr ⟨nP, na, fun a ha b hb e => live a (.inl ha) (e ▸ hb)⟩, nS, fun a ha b hb e => ?_⟩
    subst e
    rcases List.mem_append.mp ha with q | q
    · exact dS a (List.mem_append_left _ q) a hb rfl
    · exact live a (.inr hb) q
  · have out : (a ∈ P ∨ a ∈ S) → F' a = none := fun ha => by
      have hA : a ∈ P ++ Ai ++ S := by rcases ha with w | w <;> simp [w]
      cases q : F' a with
      | none => rfl
      | some o =>
        rcases new a o q with z | z | z
        · rw [rel.dis a hA] at z; cases z
        · rcases ha with w | w
          · exact absurd rfl (dP a w a z)
          · exact absurd rfl (dS a (List.mem_append_right _ z) a w)
        · obtain ⟨u, hu⟩ := hd a hA
          rw [z] at hu; cases hu
    simp only [List.mem_append] at ha
    rcases ha with (w | w) | w
    · exact out (.inl w)
    · exact d a w
    · exact out (.inr w)
  · simp only [List.mem_append] at ha
    rcases ha with (w | w) | w
    · exact .inl (by simp [w])
    · rcases own a w with q | q
      · exact .inl (by simp [q])
      · exact .inr q
    · exact .inl (by simp [w])
  · rcases new a o q with z | z | z
    · exact .inl z
    · exact .inr (.inl (by simp [z]))
    · exact .inr (.inr z)
/-- an own list, dict or set in slot i, after growth: its object written anew -/
theorem Rel.mut1 {T : Tb} {F H F1 H1 : Hp} {A σ γ} {i : Nat} {x} (rel : Rel T F A σ H γ) (e : γ[i]? = some (.sl .ow x)) (e1 : Ext F H F1 H1) : ∃ a, σ[i]? = some (some (.ref a)) ∧ OwM T F1 H1 .ow x (.ref a) [a] ∧
    ∀ x' o, OwM T F1 (upd H1 a o) .ow x' (.ref a) [a] → ∃ A2, Rel T F1 A2 σ (upd H1 a o) (γ.set i (.sl .ow x')) ∧ Step F A H F1 A2 (upd H1 a o) := by
  have rel1 := rel.ext e1
  obtain ⟨v, Ai, h1, h2, h3, h4⟩ := rel1.mut e
  have h2' := h2
  simp only [OwM] at h2'
  obtain ⟨a, rfl, rfl, h5⟩ := h2'
  have fa : F1 a = none := rel1.dis a (h3 a (by simp))
  refine ⟨a, h1, h2, fun x' o r => ?_⟩
  obtain ⟨A2, r2, s2⟩ := h4 .ow x' F1 (upd H1 a o) [a] (Same.refl _) (fun b u hb q => by rw [upd_ne (by simpa using hb)]; exact q) (fun b u q => by
    rw [upd_ne (ne_of_none q fa)]; exact rel1.sub b u q) r (by simp) (fun b hb => .inl hb) (fun b hb => by rw [List.mem_singleton.mp hb]; exact fa) (fun b u q => .inl q)
  exact ⟨A2, r2, (Step.ext e1).trans s2⟩

section
variable {X : Cx} {cl : String → Option Addr} {W : WX}
/-! ### xs.append(e) -/
def appL (xs : List PV) : List PV → Option PV
  | [y] => if sm (xs.length + 1) then some (.lst (xs ++ [y])) else none
  | _ => none
theorem appL_ok {xs ys : List PV} {z} (h : appL xs ys = some z) : ∃ y, ys = [y] ∧ sm (xs.length + 1) = true ∧ z = .lst (xs ++ [y]) := by
  unfold appL at h
  split at h
  · split at h
    · cases h; exact ⟨_, rfl, by assumption, rfl⟩
    · cases h
  · cases h
def toO (γ : Env) (i : Nat) (z : Option PV) : Os := match z with
  | some x' => .nx (γ.set i (.sl .ow x'))
  | none => .no
def sApp (i : Nat) (fs : Env → R (List PV)) : Env → Os := fun γ => match γ[i]? with
  | some (.sl .ow (.lst xs)) => match fs γ with
    | .no => .no
    | .er e => .er e γ
    | .ok ys => toO γ i (appL xs ys)
  | _ => .no
theorem qs_append {i : Nat} {x : Str} {fs} {e : Expr} {p1 apos cpos pos : Pos} (he : QZ cl X W fs [e]) (hN : X.N[i]? = some x := by rfl) (hv : Vis X.env.scope x := by first | exact Or.inl rfl | exact Or.inr (Or.inl rfl) | exact Or.inr (Or.inr rfl))
    (hd : (x == ("__debug__" : Str)) = false := by decide) (hcd : (x == ("__classdict__" : Str)) = false := by decide)
    (hbase : attributeBase (.Name x p1) "append" X.env (eval (.Name x p1) X.env) = eval (.Name x p1) X.env := by rfl)
    (hfew : ((backTo cpos (starEach (e :: []) X.env)).all (fun x => !x.1) && (backToKw cpos (keywordEach [] X.env)).all (fun x => x.1.isSome)
      && decide ((e :: []).length + ([] : List Keyword).length + (if ([] : List Keyword).isEmpty then 0 else 1) < 30)) = true := by rfl)
    (hline : (apos.endLine == cpos.line) = true := by rfl) (hs : starEach (e :: []) X.env = (false, eval e X.env) :: starEach [] X.env := by rfl) (hplain : (backTo cpos (starEach [] X.env)).any (·.1) = false := by rfl)
    (hsw : swapsWith (.Call (.Attribute (.Name x p1) "append" apos) [e] [] cpos) none pos.line X.env = pure false := by rfl) :
    QS cl X W (sApp i fs) (.Expr (.Call (.Attribute (.Name x p1) "append" apos) [e] [] cpos) pos) := by
  have h0 : PE X (.Call (.Attribute (.Name x p1) "append" apos) [e] [] cpos) _ := pe_bm PySem.F.plainAttrs_list PySem.F.slot_list_append PySem.F.type_list_append mt_append (pe_var (i := i) hN hv hd hcd) he.pa hbase hfew hline hs hplain
  refine ⟨(ps_expr h0 hsw).imp fun D σ H h => ?_⟩
  obtain ⟨F, A, γ, rel, h⟩ := h
  unfold sApp at h
  split at h
  · rename_i xs hg
    obtain ⟨a, ha, o1, _⟩ := rel.mut1 hg (Ext.refl rel.sub)
    simp only [OwM] at o1
    obtain ⟨a', ea, _, vs, hvs, rv⟩ := o1
    cases ea
    refine ⟨.ref a, ha, .inl ⟨rfl, vs, .inl (.inl hvs)⟩, F, A, γ, rel, ?_⟩
    cases e : fs γ with
    | no => rw [e] at h; exact h.elim
    | er z =>
      rw [e] at h
      exact fun F' H' c d ex r => h F' A σ H' c d (Step.ext ex) (rel.ext ex) r
    | ok ys =>
      rw [e] at h
      intro F1 H1 ws e1 rs
      dsimp only at h
      cases ez : appL xs ys with
      | none => rw [ez] at h; exact h.elim
      | some z =>
        rw [ez] at h
        obtain ⟨y, rfl, hz, rfl⟩ := appL_ok ez
        obtain ⟨b, hb, o1, k⟩ := rel.mut1 hg e1
        rw [ha] at hb
        cases hb
        simp only [OwM] at o1
        obtain ⟨b, eb, _, us, hus, ru⟩ := o1
        cases eb
        simp only [RpL] at rs
        obtain ⟨w, ws', rfl, rw1, rfl⟩ := rs
        obtain ⟨A2, r2, s2⟩ := k (.lst (xs ++ [y])) (.lst (us ++ [w])) (by
          simp only [OwM]
          exact ⟨a, rfl, rfl, us ++ [w], upd_same, RpL.append ru (RpL.cons rw1 RpL.nil)⟩)
        refine ⟨a, us, w, rfl, rfl, hus, ?_, h _ _ _ _ s2 r2⟩
        have := sm_le hz
        rw [ru.length]
        omega
  · exact h.elim

/-! ### xs[i] = v, d[k] = v -/
def dPut (kvs : List (PV × PV)) (k v : PV) : List (PV × PV) := if (kvs.any fun p => peq p.1 k) = true then kvs.map (fun p => if peq p.1 k = true then (p.1, v) else p) else kvs ++ [(k, v)]
theorem RpD.append {T : Tb} {F : Hp} : ∀ {xs ys : List (PV × PV)} {vs ws}, RpD T F xs vs → RpD T F ys ws → RpD T F (xs ++ ys) (vs ++ ws)
  | [], _, _, _, h, t => by simp only [RpD] at h; subst h; exact t
  | (k, x) :: xs, _, _, _, h, t => by
    simp only [RpD] at h
    obtain ⟨v, ws, rfl, p, q⟩ := h
    simp only [List.cons_append, RpD]
    exact ⟨v, _, rfl, p, RpD.append q t⟩
section
variable {κ : Type} [DecidableEq κ] (kk : κ → PV) (hk : ∀ a b, peq (kk a) (kk b) = decide (a = b))
include hk
theorem any_put (k : κ) {T : Tb} {F : Hp} : ∀ {es : List (κ × V)} {kvs : List (PV × PV)}, RpD T F kvs (es.map fun p => (kk p.1, p.2)) → (kvs.any fun p => peq p.1 (kk k)) = es.any fun kv => decide (kv.1 = k)
  | [], [], _ => rfl
  | [], (a, b) :: r, h => by simp [RpD] at h
  | e :: es, [], h => by simp [RpD] at h
  | (j, u) :: es, (a, b) :: r, h => by
    simp only [List.map_cons, RpD, List.cons.injEq, Prod.mk.injEq] at h
    obtain ⟨v, ws, ⟨⟨rfl, rfl⟩, rfl⟩, p, q⟩ := h
    simp only [List.any_cons, hk, any_put k q]
theorem map_put (k : κ) {T : Tb} {F : Hp} {y : PV} {w : V} (ry : Rp T F y w) : ∀ {es : List (κ × V)} {kvs : List (PV × PV)}, RpD T F kvs (es.map fun p => (kk p.1, p.2)) →
    RpD T F (kvs.map fun p => if peq p.1 (kk k) = true then (p.1, y) else p) ((es.map fun kv => if kv.1 = k then (kv.1, w) else kv).map fun p => (kk p.1, p.2))
  | [], [], _ => by simp [RpD]
  | [], (a, b) :: r, h => by simp [RpD] at h
  | e :: es, [], h => by simp [RpD] at h
  | (j, u) :: es, (a, b) :: r, h => by
    simp only [List.map_cons, RpD, List.cons.injEq, Prod.mk.injEq] at h
    obtain ⟨v, ws, ⟨⟨rfl, rfl⟩, rfl⟩, p, q⟩ := h
    have ih := map_put k ry q
    simp only [List.map_cons, hk]
    by_cases e : j = k
    · subst e
      simp only [decide_true, if_true, RpD]
      exact ⟨w, _, rfl, ry, ih⟩
    · simp only [e, decide_false, Bool.false_eq_true, if_false, RpD]
      exact ⟨_, _, rfl, p, ih⟩
theorem dPut_ok (k : κ) {T : Tb} {F : Hp} {y : PV} {w : V} (ry : Rp T F y w) {es : List (κ × V)} {kvs : List (PV × PV)} (h : RpD T F kvs (es.map fun p => (kk p.1, p.2))) : RpD T F (dPut kvs (kk k) y) ((putK es k w).map fun p => (kk p.1, p.2)) := by
  unfold dPut putK
  rw [any_put kk hk k h]
  split
  · exact map_put kk hk k ry h
  · rw [List.map_append]
    refine RpD.append h ?_
    simp only [List.map_cons, List.map_nil, RpD]
    exact ⟨w, [], rfl, ry, rfl⟩
end
def setP (x i y : PV) : Option PV := match x, i with
  | .lst xs, .int i => (ixN xs.length i).map fun j => .lst (xs.set j y)
  | .dct t kvs, k => if keyOk t k && sm (kvs.length + 1) then some (.dct t (dPut kvs k y)) else none
  | _, _ => none
def sSub (i : Nat) (f g : Ex) : Env → Os := fun γ => match f γ with
  | .ok l => match l.keep with
    | .ok y => match γ[i]? with
      | some (.sl .ow x) => match g γ with
        | .ok k => toO γ i (setP x k.x y)
        | .er e => .er e γ
        | .no => .no
      | _ => .no
    | _ => .no
  | .er e => .er e γ
  | .no => .no
/-- both kinds of store -/
def rSetA : TSet := fun o i v H Q => rSetL o i v H Q ∨ rSetD o i v H Q
theorem set_any (hu : X.A.units + 1 < cLine) : PSet X rSetA := fun pins s σ H o i v ov iv u Q I ro ri rv h => h.elim (set_list pins s σ H o i v ov iv u Q I ro ri rv) (set_dict hu pins s σ H o i v ov iv u Q I ro ri rv)
theorem qs_sub {i : Nat} {x : Str} {f g} {e k : Expr} {p1 pos apos : Pos} (hu : X.A.units + 1 < cLine) (he : QE cl X W f e) (hk : QE cl X W g k) (hN : X.N[i]? = some x := by rfl) (hv : Vis X.env.scope x := by first | exact Or.inl rfl | exact Or.inr (Or.inl rfl) | exact Or.inr (Or.inr rfl))
    (hd : (x == ("__debug__" : Str)) = false := by decide) (hcd : (x == ("__classdict__" : Str)) = false := by decide)
    (ha : ∀ v, assign (.Subscript (.Name x p1) k apos) X.env v = (do
      let ov ← holding [v] (eval (.Name x p1) X.env)
      let iv ← holding [v, ov] (eval k X.env)
      standAt apos
      holding [v, ov, iv] (setItem ov iv v)
      release [v, ov, iv] []) := by intro _; rfl)
    (hs : swapsWithSole [.Subscript (.Name x p1) k apos] e pos.line X.env = pure false := by rfl) (hw : swappedStores [.Subscript (.Name x p1) k apos] e X.env = pure none := by rfl)
    (h1 : (assignEach [.Subscript (.Name x p1) k apos] X.env).map (·.2) = [assign (.Subscript (.Name x p1) k apos) X.env] := by rfl) :
    QS cl X W (sSub i f g) (.Assign [.Subscript (.Name x p1) k apos] e pos) := ⟨(ps_asg he.pe (pg_sub (pe_var (i := i) hN hv hd hcd) hk.pe (set_any hu) ha) hs hw h1).imp fun D σ H h => by
  obtain ⟨F, A, γ, rel, h⟩ := h
  refine ⟨F, A, γ, rel, ?_⟩
  unfold sSub at h
  cases e : f γ with
  | no => rw [e] at h; exact h
  | er x => rw [e] at h; exact fun F' H' c d ex r => h F' A σ H' c d (Step.ext ex) (rel.ext ex) r
  | ok l =>
    rw [e] at h
    simp only at h
    intro F1 H1 v e1 r1
    cases ek : l.keep with
    | no => rw [ek] at h; exact h.elim
    | er x => exact (l.keep_ne _ ek).elim
    | ok y =>
      rw [ek] at h
      simp only at h
      obtain ⟨F2, e2, s2, ry⟩ := keep_ok r1 e1 ek
      split at h
      · rename_i xo hg
        obtain ⟨a, ha', jk0⟩ := rel.mut1 hg (Ext.refl rel.sub)
        clear jk0
        refine ⟨.ref a, ha', F2, A, γ, rel.ext e2, ?_⟩
        cases eg : g γ with
        | no => rw [eg] at h; exact h.elim
        | er x => rw [eg] at h; exact fun F' H' c d ex r => h F' A σ H' c d (Step.ext (e2.trans ex)) (rel.ext (e2.trans ex)) r
        | ok kl =>
          rw [eg] at h
          simp only at h
          intro F3 H3 kv e3 r3
          have rk := r3.rv
          have e23 := e2.trans e3
          obtain ⟨b, hb, o1, kont⟩ := rel.mut1 hg e23
          rw [ha'] at hb
          cases hb
          cases ez : setP xo kl.x y with
          | none => rw [ez] at h; exact h.elim
          | some z =>
            rw [ez] at h
            have ry3 := ry.mono e3.fle
            unfold setP at ez
            split at ez
            · rename_i xs ii exx
              simp only [OwM] at o1
              obtain ⟨b, eb, _, vs, hvs, rvs⟩ := o1
              cases eb
              cases ej : ixN xs.length ii with
              | none => rw [ej] at ez; cases ez
              | some j =>
                rw [ej] at ez
                cases ez
                rw [exx] at rk
                obtain ⟨A2, r2, st⟩ := kont (.lst (xs.set j y)) (.lst (vs.set j v)) (by
                  simp only [OwM]
                  exact ⟨a, rfl, rfl, _, upd_same, RpL.set j rvs ry3⟩)
                exact .inl ⟨a, vs, ii, j, rfl, rk.int, hvs, by rw [rvs.length]; exact ej, h _ _ _ _ st r2⟩
            · rename_i t kvs
              split at ez
              · rename_i hc
                cases ez
                simp only [Bool.and_eq_true] at hc
                have hz := sm_le hc.2
                simp only [OwM] at o1
                obtain ⟨b, eb, _, ks, hks, rks⟩ := o1
                cases eb
                cases t with
                | false =>
                  obtain ⟨es, hes, rfl⟩ := hks
                  have hl := rks.length
                  rw [List.length_map] at hl
                  have go : ∀ q : Key, kl.x = kP q → kv = kV q → (rSetA (.ref a) kv v H3 fun H4 => D.nx σ H4) := fun q eq ev => by
                    obtain ⟨A2, r2, st⟩ := kont (.dct false (dPut kvs kl.x y)) (.dK (putK es q v)) (by
                      simp only [OwM]
                      refine ⟨a, rfl, rfl, _, ⟨_, upd_same, rfl⟩, ?_⟩
                      rw [eq]
                      exact dPut_ok kP peq_kP q ry3 rks)
                    exact .inr ⟨a, _, rfl, by rw [ev]; exact DPut.k hes (by omega), h _ _ _ _ st r2⟩
                  cases ekx : kl.x <;> rw [ekx] at hc rk <;> simp [keyOk] at hc
                  · exact go (.inl _) ekx rk.int
                  · exact go (.inr _) ekx rk.str
                | true =>
                  obtain ⟨es, hes, rfl⟩ := hks
                  have hl := rks.length
                  rw [List.length_map] at hl
                  cases ekx : kl.x <;> rw [ekx] at hc rk <;> simp [keyOk] at hc
                  rename_i tks
                  obtain ⟨jk, hjk⟩ := Option.isSome_iff_exists.mp hc.1
                  have exx := keysOf_eq hjk
                  subst exx
                  obtain ⟨tb, us, rfl, htb, rl⟩ := rk.tup e23.sub
                  have ev := rpL_kP rl
                  subst ev
                  obtain ⟨A2, r2, st⟩ := kont (.dct true (dPut kvs kl.x y)) (.dT (putK es jk v)) (by
                      simp only [OwM]
                      refine ⟨a, rfl, rfl, _, ⟨_, upd_same, rfl⟩, ?_⟩
                      rw [ekx]
                      exact dPut_ok (fun q => .tup (q.map kP)) (fun a b => by simp only [peq]; exact peqL_kP a b) jk ry3 rks)
                  exact .inr ⟨a, _, rfl, DPut.t hes htb (by omega), h _ _ _ _ st r2⟩
              · cases ez
            · cases ez
      · exact h.elim⟩
/-! ### {} -/
def xDct (t : Bool) : Ex := fun _ => .ok (.fr .ow (.dct t []))
theorem q_dctK {pos : Pos} : QE cl X W (xDct false) (.Dict [] [] pos) := ⟨pe_dnewK.imp fun σ H Q h => by
  obtain ⟨F, A, γ, rel, h⟩ := h
  exact fun p np => h _ _ _ (Ext.newO rel.sub np) ⟨[p], by simp only [OwM]; exact ⟨p, rfl, rfl, [], ⟨[], upd_same, rfl⟩, by simp [RpD]⟩, by simp, fun a ha => by
    rw [List.mem_singleton.mp ha]; exact ⟨np, rel.sub.free np⟩⟩⟩
theorem q_dctT {pos : Pos} : QE cl X W (xDct true) (.Dict [] [] pos) := ⟨pe_dnewT.imp fun σ H Q h => by
  obtain ⟨F, A, γ, rel, h⟩ := h
  exact fun p np => h _ _ _ (Ext.newO rel.sub np) ⟨[p], by simp only [OwM]; exact ⟨p, rfl, rfl, [], ⟨[], upd_same, rfl⟩, by simp [RpD]⟩, by simp, fun a ha => by
    rw [List.mem_singleton.mp ha]; exact ⟨np, rel.sub.free np⟩⟩⟩
/-! ### x += e, x -= e on ints -/
def sAug (op : Int → Int → Int) (i : Nat) (f : Ex) : Env → Os := fun γ => match γ[i]? with
  | some (.sl .fz (.int a)) => match f γ with
    | .ok l => match l.x with
      | .int b => .nx (γ.set i (.sl .fz (.int (op a b))))
      | _ => .no
    | .er e => .er e γ
    | .no => .no
  | _ => .no
theorem qs_aug {i : Nat} {x : Str} {f} {e : Expr} {op : Operator} {g : Int → Int → Int} {pos pos' : Pos} (ho : PIp X op (ipI g)) (hN : X.N.Nodup) (he : QE cl X W f e) (hi : X.N[i]? = some x := by rfl) (hx : Loc X.env.scope x := by first | exact Or.inl rfl | exact Or.inr rfl)
    (hf : X.fn x = true ∨ X.env.scope.names.lookup x = some .local := by first | exact .inl rfl | exact .inr rfl | assumption) : QS cl X W (sAug g i f) (.AugAssign (.Name x pos') op e pos) := ⟨(ps_aug (i := i) hN hi hx he.pe ho hf).imp fun D σ H h => by
  obtain ⟨F, A, γ, rel, h⟩ := h
  unfold sAug at h
  split at h
  · rename_i a hg
    obtain ⟨v, Ai, h1, h2, h3⟩ := OwE.get γ rel.env hg
    simp only [OwM, Rp] at h2
    obtain ⟨rfl, _⟩ := h2
    refine ⟨_, h1, F, A, γ, rel, ?_⟩
    cases e : f γ with
    | no => rw [e] at h; exact h
    | er x => rw [e] at h; exact fun F' H' c d ex r => h F' A σ H' c d (Step.ext ex) (rel.ext ex) r
    | ok l =>
      rw [e] at h
      simp only at h
      intro F1 H1 w e1 r1
      have rw1 := r1.rv
      cases el : l.x with
      | int b =>
        rw [el] at h rw1
        refine ⟨a, b, rfl, rw1.int, ?_⟩
        obtain ⟨A', ra, ha⟩ := (rel.ext e1).put (i := i) (m := .fz) (x := .int (g a b)) (v := .int (g a b)) (Ar := []) (OwM.fz_of (by simp [Rp])) (by simp) (by simp)
        exact h F1 A' _ H1 (Step.ext' e1 fun a z => (ha a z).elim .inl fun q => by simp at q) ra
      | _ => rw [el] at h; exact h.elim
  · exact h.elim⟩
theorem qs_add {i : Nat} {x : Str} {f} {e : Expr} {pos pos' : Pos} (hN : X.N.Nodup) (he : QE cl X W f e) (hi : X.N[i]? = some x := by rfl) (hx : Loc X.env.scope x := by first | exact Or.inl rfl | exact Or.inr rfl)
    (hf : X.fn x = true ∨ X.env.scope.names.lookup x = some .local := by first | exact .inl rfl | exact .inr rfl | assumption) : QS cl X W (sAug (· + ·) i f) (.AugAssign (.Name x pos') .Add e pos) := qs_aug ip_add hN he hi hx hf
end
end Z
/-! the pure layer, part M: the ends of a law -/
namespace Z
open PySem L2
structure Dfn (K : PySem.W.Frag) (mg : Str → Option Value) (x : Str) (st : Stmt) (ps : List Str) (a : Addr) (fd : FuncData) : Prop where
  fn : Fun K x x st a fd
  mgx : mg x = some (.ref a)
  bd : Binds K fd ps []
theorem hu1_of {k : Nat} {A : Around} (r : Room k A) : A.units + 1 < cLine := by have := r.units; omega
theorem hu65_of {k : Nat} {A : Around} (r : Room k A) : A.units + 65 < cLine := by have := r.un; omega
section
variable {P : Program} {w : World} {K : PySem.W.Frag} {mg : Str → Option Value} {base : Heap}
theorem q_def0 {cl : String → Option Addr} {x qual : Str} {st : Stmt} {f : Addr} {fd : FuncData} {N ps : List Str} {k : Nat} {body : Z.Env → Os} {np nl : Nat} {g : List PV → R PV} (hg : g = run np nl body) (Fn : Fun K x qual st f fd) (S : FnScope N ps (defScope st)) (hp : ps.length = np) (hl : N.length = nl)
    (hb : ∀ (cdv : Value) (A : Around) (outer : List PySem.Env) (s : Shared) (H : Hp) (E : XK), Room k (A.deeper (PyProof.Rows.envOfC qual (defScope st) s.heap.objs.size f cdv)) → QSs cl (cxOf L2.CX0 P w K mg base N qual (defScope st) f cdv A outer s H E).nox W0 body (defBody st)) :
    FnOk P w K mg base L2.CX0 (k + 1) f fd ps (spQ0 K cl g) := by
  subst hp hl hg
  exact q_fun0 Fn S hb
end
def noCl : String → Option Addr := fun _ => none
/-- the written part holds no list of its own -/
def noLst (K : PySem.W.Frag) : Bool := K.all fun p => match p.2.cls with
  | .type s => s != "list"
  | _ => true
theorem lookup_mem {K : PySem.W.Frag} {a : Addr} {o : Obj} (h : K.lookup a = some o) : (a, o) ∈ K := by
  induction K with
  | nil => cases h
  | cons p K ih =>
    obtain ⟨b, u⟩ := p
    rw [List.lookup_cons] at h
    split at h
    · rename_i e
      cases h
      rw [eq_of_beq e]
      exact List.mem_cons_self
    · exact List.mem_cons_of_mem _ (ih h)
theorem rd_of {K : PySem.W.Frag} {H : Hp} {a : Addr} {xs : List V} (n : noLst K = true) (h : SqL K H a xs) : Rd H a (.lst xs) := by
  rcases h with h | ⟨o, arr, c, hk, hc, _⟩
  · exact h
  · have := List.all_eq_true.mp n _ (lookup_mem hk)
    rw [hc] at this
    simp at this
/-- what is to be shown of the law's pure meaning -/
def LawOk (f : List PV → R PV) (n : Nat) : Prop := ∀ ns : List Int, ns.length ≤ n → f [.lst (ns.map .int)] = .ok (.bl true)
theorem law_sp {K : PySem.W.Frag} {cl : String → Option Addr} {f : List PV → R PV} {n : Nat} (h : LawOk f n) (nl : noLst K = true) (H : Hp) (a : Addr) (ns : List Int) (hl : ns.length ≤ n) (hS : SqL K H a (ns.map V.int)) :
    spQ K cl f [.ref a] H (fun v _ => v = .bl true) fun _ _ _ => False := by
  refine ⟨H, [.lst (ns.map .int)], Same.refl _, ?_, ?_⟩
  · refine RpL.cons ?_ RpL.nil
    simp only [Rp]
    exact ⟨a, _, rfl, rd_of nl hS, RpL.ofInts _⟩
  · rw [h ns hl]
    intro F' H' v _ r
    simpa [Rp] using r
theorem walk0 {l : PySem.W.OpenLaw} {n k : Nat} {q : Program} {loose : List Str} {XP : (Str → Option Value) → Heap → Prop} {YP : World → Heap → Prop} {d : PySem.DefRec} {K : Params → PySem.W.Frag} {x : Str} {f : List PV → R PV} {cl : PySem.W.Frag → String → Option Addr}
    (hn : l.most = some n) (hn2 : n ≤ sizeLine) (hdf : d.params.defaults = []) (hr : Room k callerA)
    (hY : ∀ (w : World) (h : Heap), YP w h → (K w.params).In h) (nl : ∀ w : World, noLst (K w.params) = true)
    (F : ∀ (w : World) (mg : Str → Option Value) (fa : Addr) (h : Heap), (K w.params).In h → h.Ns mainGlobals mg → mg d.name = some (.ref fa) →
      ∃ fd : FuncData, (∀ (s : Shared) (u : Value), BindsTo s fd ⟨[u], []⟩ [(x, u)]) ∧
        ∀ base : Heap, (K w.params).In base → base.Ns mainGlobals mg → FnOk l.prog w (K w.params) mg base CX0 k fa fd [x] (spQ0 (K w.params) (cl (K w.params)) f))
    (hL : LawOk f n) :
    PySem.W.WalkO q loose XP YP l.row.toRowW d [] (fun f vs => PySem.call f vs) :=
  L2.walk_of (n := n) (k := k) (x := x) (CX := fun _ => CX0) (sp := fun w => spQ0 (K w.params) (cl (K w.params)) f) hn hn2 hdf hr hY F (fun w H a ns hl _ hS => law_sp hL (nl w) H a ns hl hS) fun _ _ _ _ _ z => z
end Z
/-! the pure layer, part N: comparisons as tests -/
namespace Z
open PySem L2
section
variable {X : Cx} {cl : String → Option Addr} {W : WX}
theorem isTrue_cmp {a b : Expr} {op : CmpOp} {pos : Pos} {env : PySem.Env} {whole : Sem Value} : PySem.isTrue (.Compare a [op] [b] pos) env whole = (do let c ← eval (.Compare a [op] [b] pos) env; holding [c] (truthy c)) := by
  rw [isTrue_Compare1, eval_Compare1]
  simp only [bind_assoc]
theorem tqT_tq {f : Ex} {σ : L2.St} {H : Hp} {Q : Bool → Hp → Prop} (h : tqT X.K cl W (xT f) σ H Q) : tq X.K cl W f σ H fun x H' => ∃ k, TruV X.K x H' k ∧ Q k H' := by
  obtain ⟨F, A, γ, rel, h⟩ := h
  refine ⟨F, A, γ, rel, ?_⟩
  unfold xT at h
  cases e : f γ with
  | no => rw [e] at h; exact h
  | er x => rw [e] at h; exact h
  | ok l =>
    rw [e] at h
    simp only [R.bind_ok] at h
    intro F1 H1 v e1 r1
    cases e' : pTru l.x with
    | no => rw [e'] at h; exact h.elim
    | er x => exact (pTru_ne _ _ e').elim
    | ok b =>
      rw [e'] at h
      exact ⟨b, pTru_ok e1.sub r1.rv e', h F1 H1 e1⟩
theorem qt_cmp {f : Ex} {a b : Expr} {op : CmpOp} {pos : Pos} (h : QE cl X W f (.Compare a [op] [b] pos)) : QT cl X W (xT f) (.Compare a [op] [b] pos) := by
  refine ⟨⟨fun pins s σ H Q I h' => ?_⟩⟩
  rw [isTrue_cmp]
  refine PySem.wpAny_bind (thn (h.pe.run pins s σ H _ I (tqT_tq h')) fun v s1 ⟨x, H1, I1, r1, k, t, q1⟩ => PySem.wpAny_holding (tru_ok pins s1 σ H1 x v Q I1 r1 ⟨k, t, q1⟩))
theorem tqT_bl {f : Ex} (hb : ∀ γ l, f γ = .ok l → ∃ b, l = .z (.bl b)) {σ : L2.St} {H : Hp} {Q : Bool → Hp → Prop} (h : tqT X.K cl W (xT f) σ H Q) : tq X.K cl W f σ H fun x H' => ∃ k, x = .bl k ∧ Q k H' := by
  obtain ⟨F, A, γ, rel, h⟩ := h
  refine ⟨F, A, γ, rel, ?_⟩
  unfold xT at h
  cases e : f γ with
  | no => rw [e] at h; exact h
  | er x => rw [e] at h; exact h
  | ok l =>
    obtain ⟨b, rfl⟩ := hb γ l e
    rw [e] at h
    simp only [R.bind_ok] at h
    exact fun F1 H1 v e1 r1 => ⟨b, r1.rv.bl, h F1 H1 e1⟩
theorem pb_bl {p : PV → PV → R Bool} {x y : PV} {l : Vl} (h : pb p x y = .ok l) : ∃ b, l = .z (.bl b) := by
  unfold pb at h
  cases e : p x y with
  | ok b => rw [e] at h; cases h; exact ⟨b, rfl⟩
  | er x => rw [e] at h; cases h
  | no => rw [e] at h; cases h
theorem chain_bl {p p' : PV → PV → R Bool} {f g h : Ex} : ∀ γ l, xChain p p' f g h γ = .ok l → ∃ b, l = .z (.bl b) := by
  intro γ l e
  unfold xChain at e
  cases e1 : f γ with
  | no => rw [e1] at e; cases e
  | er x => rw [e1] at e; cases e
  | ok a =>
    rw [e1] at e
    simp only [R.bind_ok] at e
    cases e2 : g γ with
    | no => rw [e2] at e; cases e
    | er x => rw [e2] at e; cases e
    | ok b =>
      rw [e2] at e
      simp only [R.bind_ok] at e
      cases e3 : p a.x b.x with
      | no => rw [e3] at e; cases e
      | er x => rw [e3] at e; cases e
      | ok c =>
        rw [e3] at e
        simp only [R.bind_ok] at e
        cases c with
        | false => simp only [Bool.false_eq_true, ↓reduceIte, R.ok.injEq] at e; exact ⟨false, e.symm⟩
        | true =>
          simp only [↓reduceIte] at e
          cases e4 : h γ with
          | no => rw [e4] at e; cases e
          | er x => rw [e4] at e; cases e
          | ok d => rw [e4] at e; exact pb_bl e
theorem qt_chain {op op' : CmpOp} {p p' : PV → PV → R Bool} {r r' : R2} {a b c : Expr} {pos : Pos} {f g h : Ex} (ho : OpR X (compareOp op) r) (ho' : OpR X (compareOp op') r') (n : NoErB p) (n' : NoErB p') (o : Op2 X cl (pb p) r) (o' : Op2 X cl (pb p') r')
    (ha : QE cl X W f a) (hb : QE cl X W g b) (hc : QE cl X W h c) (hm : lastMarks [op, op'] [b, c] = false) : QT cl X W (xT (xChain p p' f g h)) (.Compare a [op, op'] [b, c] pos) :=
  ⟨(pt_chain ho ho' ha.pe hb.pe hc.pe hm).imp fun σ H Q hh => tqChain n n' o o' (tqT_bl chain_bl hh)⟩
theorem qt_lele {a b c : Expr} {pos : Pos} {f g h : Ex} (ha : QE cl X W f a) (hb : QE cl X W g b) (hc : QE cl X W h c) (hm : lastMarks [CmpOp.LtE, CmpOp.LtE] [b, c] = false := by with_unfolding_all rfl) : QT cl X W (xT (xChain pLe pLe f g h)) (.Compare a [.LtE, .LtE] [b, c] pos) := qt_chain op_le op_le iB_ne iB_ne o_iB o_iB ha hb hc hm
theorem qt_lelt {a b c : Expr} {pos : Pos} {f g h : Ex} (ha : QE cl X W f a) (hb : QE cl X W g b) (hc : QE cl X W h c) (hm : lastMarks [CmpOp.LtE, CmpOp.Lt] [b, c] = false := by with_unfolding_all rfl) : QT cl X W (xT (xChain pLe pLt f g h)) (.Compare a [.LtE, .Lt] [b, c] pos) := qt_chain op_le op_lt iB_ne iB_ne o_iB o_iB ha hb hc hm
end
end Z
/-! the pure layer, part O: reckoning with pure meanings -/
namespace Z
open PySem L2
/-! ### the meanings, applied -/
@[simp] theorem a_xVar {i : Nat} {γ : Z.Env} : xVar i γ = (match γ[i]? with | some (.sl m x) => .ok (.pk m x) | _ => .no) := rfl
@[simp] theorem a_x2 {p : PV → PV → R Vl} {f g : Ex} {γ : Z.Env} : x2 p f g γ = (f γ).bind fun l => (g γ).bind fun k => p l.x k.x := rfl
@[simp] theorem a_x1 {p : PV → R Vl} {f : Ex} {γ : Z.Env} : x1 p f γ = (f γ).bind fun l => p l.x := rfl
@[simp] theorem a_xC {x : PV} {γ : Z.Env} : xC x γ = .ok (.z x) := rfl
@[simp] theorem a_pb {p : PV → PV → R Bool} {x y : PV} : pb p x y = (p x y).map fun b => .z (.bl b) := rfl
@[simp] theorem a_pSub {i j : Int} : pSub (.int i) (.int j) = .ok (.z (.int (i - j))) := rfl
@[simp] theorem a_pMulI {i j : Int} : pMulI (.int i) (.int j) = if cMul i j then .ok (.z (.int (i * j))) else .no := by unfold pMulI i2; simp only []; split <;> rfl
@[simp] theorem a_pMod {i j : Int} : pMod (.int i) (.int j) = if decide (0 < j) then .ok (.z (.int (i % j))) else .no := by unfold pMod i2; simp only []; split <;> rfl
@[simp] theorem a_pDiv {i j : Int} : pDiv (.int i) (.int j) = if cDiv i j then .ok (.z (.int (i / j))) else .no := by unfold pDiv i2; simp only []; split <;> rfl
@[simp] theorem a_pPow {i j : Int} : pPow (.int i) (.int j) = if cPow i j then .ok (.z (.int (i ^ j.toNat))) else .no := by unfold pPow i2; simp only []; split <;> rfl
@[simp] theorem a_pShl {i j : Int} : pShl (.int i) (.int j) = if cPow i j then .ok (.z (.int (i * 2 ^ j.toNat))) else .no := by unfold pShl i2; simp only []; split <;> rfl
@[simp] theorem a_pShr {i j : Int} : pShr (.int i) (.int j) = if decide (0 ≤ j) then .ok (.z (.int (i / 2 ^ j.toNat))) else .no := by unfold pShr i2; simp only []; split <;> rfl
@[simp] theorem a_pAnd2 {i j : Int} : pAnd2 (.int i) (.int j) = .ok (.z (.int (Builtin.bitAnd i j))) := rfl
@[simp] theorem a_pAddI {i j : Int} : pAdd (.int i) (.int j) = .ok (.z (.int (i + j))) := rfl
@[simp] theorem a_pMul {i j : Int} : pMul (.int i) (.int j) = if cMul i j then .ok (.z (.int (i * j))) else .no := rfl
@[simp] theorem a_pAdd_lst {xs ys : List PV} : pAdd (.lst xs) (.lst ys) = if sm (xs.length + ys.length) then .ok (.fr .ow (.lst (xs ++ ys))) else .no := rfl
@[simp] theorem a_pAdd_tup {xs ys : List PV} : pAdd (.tup xs) (.tup ys) = if sm (xs.length + ys.length) then .ok (.z (.tup (xs ++ ys))) else .no := rfl
@[simp] theorem a_pNeg {i : Int} : pNeg (.int i) = .ok (.z (.int (-i))) := rfl
@[simp] theorem a_pLt {i j : Int} : pLt (.int i) (.int j) = .ok (decide (i < j)) := rfl
@[simp] theorem a_pLe {i j : Int} : pLe (.int i) (.int j) = .ok (decide (i ≤ j)) := rfl
@[simp] theorem a_pGt {i j : Int} : pGt (.int i) (.int j) = .ok (decide (j < i)) := rfl
@[simp] theorem a_pGe {i j : Int} : pGe (.int i) (.int j) = .ok (decide (j ≤ i)) := rfl
@[simp] theorem a_sSeq {g h : Z.Env → Os} {γ : Z.Env} : sSeq g h γ = (match g γ with | .nx γ' => h γ' | o => o) := rfl
@[simp] theorem a_sSet {i : Nat} {f : Ex} {γ : Z.Env} : sSet i f γ = (match f γ with | .ok l => stow i l γ | .er e => .er e γ | .no => .no) := rfl
@[simp] theorem a_stow_fr {i : Nat} {m : Md} {x : PV} {γ : Z.Env} : stow i (.fr m x) γ = .nx (γ.set i (.sl m x)) := rfl
@[simp] theorem a_stow_fz {i : Nat} {x : PV} {γ : Z.Env} : stow i (.pk .fz x) γ = .nx (γ.set i (.sl .fz x)) := rfl
@[simp] theorem a_sIf {t : Z.Env → R Bool} {g h : Z.Env → Os} {γ : Z.Env} : sIf t g h γ = (match t γ with | .ok b => if b then g γ else h γ | .er e => .er e γ | .no => .no) := rfl
@[simp] theorem a_sRet {f : Ex} {γ : Z.Env} : sRet f γ = (match f γ with | .ok l => .rt l.x (unE γ) | .er e => .er e γ | .no => .no) := rfl
@[simp] theorem a_sRetN {γ : Z.Env} : sRetN γ = .rt .non γ := rfl
@[simp] theorem a_sNx {γ : Z.Env} : sNx γ = .nx γ := rfl
@[simp] theorem a_aNil {γ : Z.Env} : aNil γ = .ok [] := rfl
@[simp] theorem a_aCons {f : Ex} {fs : Z.Env → R (List PV)} {γ : Z.Env} : aCons f fs γ = (f γ).bind fun l => (fs γ).bind fun xs => .ok (l.x :: xs) := rfl
@[simp] theorem a_zCons {f : Ex} {fs : Z.Env → R (List PV)} {γ : Z.Env} : zCons f fs γ = (f γ).bind fun l => l.keep.bind fun x => (fs γ).bind fun xs => .ok (x :: xs) := rfl
@[simp] theorem a_xB {p : List PV → R Vl} {fs : Z.Env → R (List PV)} {γ : Z.Env} : xB p fs γ = (fs γ).bind p := rfl
@[simp] theorem a_tAndF {t u : Z.Env → R Bool} {γ : Z.Env} : tAndF t u γ = (t γ).bind fun b => if b then u γ else .ok false := rfl
@[simp] theorem a_tOrF {t u : Z.Env → R Bool} {γ : Z.Env} : tOrF t u γ = (t γ).bind fun b => if b then .ok true else u γ := rfl
@[simp] theorem a_tNotF {t : Z.Env → R Bool} {γ : Z.Env} : tNotF t γ = (t γ).bind fun b => .ok (!b) := rfl
@[simp] theorem a_xT {f : Ex} {γ : Z.Env} : xT f γ = (f γ).bind fun l => pTru l.x := rfl
@[simp] theorem a_pTru_bl {b : Bool} : pTru (.bl b) = .ok b := rfl
@[simp] theorem a_pTru_lst {xs : List PV} : pTru (.lst xs) = .ok (!xs.isEmpty) := rfl
@[simp] theorem a_pTru_tup {xs : List PV} : pTru (.tup xs) = .ok (!xs.isEmpty) := rfl
@[simp] theorem a_pTru_int {i : Int} : pTru (.int i) = .ok (i != 0) := rfl
@[simp] theorem a_pTru_non : pTru .non = .ok false := rfl
@[simp] theorem a_xLst {fs : Z.Env → R (List PV)} {γ : Z.Env} : xLst fs γ = (fs γ).bind fun xs => if sm xs.length then .ok (.fr .ow (.lst xs)) else .no := rfl
@[simp] theorem a_xTup {fs : Z.Env → R (List PV)} {γ : Z.Env} : xTup fs γ = (fs γ).bind fun xs => if sm xs.length then .ok (.z (.tup xs)) else .no := rfl
@[simp] theorem a_sm {n : Nat} : sm n = decide (n ≤ 16777216) := rfl
@[simp] theorem a_outOf_rt {x : PV} {γ : Z.Env} : outOf (.rt x γ) = .ok x := rfl
@[simp] theorem a_outOf_nx {γ : Z.Env} : outOf (.nx γ) = .ok .non := rfl
@[simp] theorem a_xIsi {n : String} {f : Ex} {γ : Z.Env} : xIsi n f γ = (f γ).bind fun l => .ok (.z (.bl (!isObj' l.x && isTy n (tyN l.x)))) := rfl
@[simp] theorem a_xNot {f : Ex} {γ : Z.Env} : xNot f γ = (f γ).bind fun l => (pTru l.x).bind fun b => .ok (.z (.bl (!b))) := rfl
@[simp] theorem a_xAnd {f g : Ex} {γ : Z.Env} : xAnd f g γ = (f γ).bind fun l => (pTru l.x).bind fun b => if b then g γ else .ok l := rfl
@[simp] theorem a_xOr {f g : Ex} {γ : Z.Env} : xOr f g γ = (f γ).bind fun l => (pTru l.x).bind fun b => if b then .ok l else g γ := rfl
@[simp] theorem a_xIf {t : Z.Env → R Bool} {f g : Ex} {γ : Z.Env} : xIf t f g γ = (t γ).bind fun b => if b then f γ else g γ := rfl
@[simp] theorem a_xCall0 {g : List PV → R PV} {fs : Z.Env → R (List PV)} {γ : Z.Env} : xCall0 g fs γ = (fs γ).bind fun xs => ((g xs).noer).map .z := rfl
@[simp] theorem a_xChain {p p' : PV → PV → R Bool} {f g h : Ex} {γ : Z.Env} : xChain p p' f g h γ = (f γ).bind fun l => (g γ).bind fun k => (p l.x k.x).bind fun b => if b then (h γ).bind fun j => pb p' k.x j.x else .ok (.z (.bl false)) := rfl
@[simp] theorem a_xIsN {f : Ex} {γ : Z.Env} : xIsN f γ = (f γ).bind fun l => .ok (.z (.bl (isNon l.x))) := rfl
@[simp] theorem a_xNotN {f : Ex} {γ : Z.Env} : xNotN f γ = (f γ).bind fun l => .ok (.z (.bl (!isNon l.x))) := rfl
@[simp] theorem a_iSeq {f : Ex} {γ : Z.Env} : iSeq f γ = (f γ).bind Vl.items := rfl
@[simp] theorem a_items_tup {xs : List PV} {m : Md} : (Vl.fr m (.tup xs)).items = .ok xs := rfl
@[simp] theorem a_items_lst {xs : List PV} {m : Md} : (Vl.fr m (.lst xs)).items = .ok xs := rfl
@[simp] theorem a_items_ptup {xs : List PV} : (Vl.pk .fz (.tup xs)).items = .ok xs := rfl
@[simp] theorem a_items_plst {xs : List PV} : (Vl.pk .fz (.lst xs)).items = .ok xs := rfl
@[simp] theorem a_xSl {f : Ex} {lo hi : Z.Env → R (Option Int)} {γ : Z.Env} : xSl f lo hi γ = (f γ).bind fun l => (lo γ).bind fun a => (hi γ).bind fun b => pSl l.x a b := rfl
@[simp] theorem a_xP {f : Ex} {γ : Z.Env} : xP f γ = (f γ).bind fun l => pPart l.x := rfl
@[simp] theorem a_xNoP {γ : Z.Env} : xNoP γ = .ok none := rfl
@[simp] theorem a_pPart {i : Int} : pPart (.int i) = .ok (some i) := rfl
@[simp] theorem a_pSl_lst {xs : List PV} {a b : Option Int} : pSl (.lst xs) a b = .ok (.fr .ow (.lst (pcut xs a b))) := rfl
@[simp] theorem a_pSl_tup {xs : List PV} {a b : Option Int} : pSl (.tup xs) a b = .ok (.z (.tup (pcut xs a b))) := rfl
@[simp] theorem a_sTg {f : Ex} {g : Tg} {γ : Z.Env} : sTg f g γ = (match f γ with | .ok l => (match l.keep with | .ok x => (match g x γ with | some γ' => .nx γ' | none => .no) | _ => .no) | .er e => .er e γ | .no => .no) := rfl
@[simp] theorem a_tgN {i : Nat} {x : PV} {γ : Z.Env} : tgN i x γ = some (γ.set i (.sl .fz x)) := rfl
@[simp] theorem a_tgT {gs : Tgs} {xs : List PV} {γ : Z.Env} : tgT gs (.tup xs) γ = gs xs γ := rfl
@[simp] theorem a_tgCons {g : Tg} {gs : Tgs} {x : PV} {r : List PV} {γ : Z.Env} : tgCons g gs (x :: r) γ = (g x γ).bind fun γ' => gs r γ' := rfl
@[simp] theorem a_tgNil {γ : Z.Env} : tgNil [] γ = some γ := rfl
@[simp] theorem a_tYesF {γ : Z.Env} : tYesF γ = .ok true := rfl
@[simp] theorem a_xDct {t : Bool} {γ : Z.Env} : xDct t γ = .ok (.fr .ow (.dct t [])) := rfl
@[simp] theorem a_pLen_lst {xs : List PV} : pLen [.lst xs] = .ok (.z (.int xs.length)) := rfl
@[simp] theorem a_pLen_tup {xs : List PV} : pLen [.tup xs] = .ok (.z (.int xs.length)) := rfl
@[simp] theorem a_map_ok' {α β : Type} {f : α → β} {a : α} : (R.ok a).map f = .ok (f a) := rfl
@[simp] theorem a_lcT {tg : Tg} {c : Z.Env → R Bool} {f : Ex} {γ : Z.Env} {x : PV} : lcT tg c f γ x = (match tg x γ with | none => .no | some γ1 => (c γ1).bind fun b => if b then (f γ1).bind fun l => l.keep.bind fun y => .ok (some y) else .ok none) := rfl
@[simp] theorem u_unE {γ : Z.Env} : unE γ = γ.map fun _ => .un := rfl
@[simp] theorem u_pMax2 {i j : Int} : pMax2 [.int i, .int j] = .ok (.z (.int (if j > i then j else i))) := rfl
@[simp] theorem u_pMin2 {i j : Int} : pMin2 [.int i, .int j] = .ok (.z (.int (if j < i then j else i))) := rfl
@[simp] theorem u_iRng {fs : Z.Env → R (List PV)} {γ : Z.Env} : iRng fs γ = (fs γ).bind pRng := rfl
@[simp] theorem u_cPow {i j : Int} : cPow i j = (decide (0 ≤ j) && decide (j ≤ 1000000) && decide (i.natAbs < 2 ^ 64)) := rfl
@[simp] theorem u_cMul {i j : Int} : cMul i j = ((decide (-(2 ^ 64) < i) && decide (i < 2 ^ 64)) || (decide (-(2 ^ 64) < j) && decide (j < 2 ^ 64))) := rfl
@[simp] theorem u_cDiv {i j : Int} : cDiv i j = (decide (0 < j) && decide (j.natAbs.log2 < 9000)) := rfl
@[simp] theorem u_sApp {i : Nat} {fs : Z.Env → R (List PV)} {γ : Z.Env} : sApp i fs γ = (match γ[i]? with
  | some (.sl .ow (.lst xs)) => match fs γ with
    | .no => .no
    | .er e => .er e γ
    | .ok ys => toO γ i (appL xs ys)
  | _ => .no) := rfl
@[simp] theorem u_appL {xs : List PV} {y : PV} : appL xs [y] = if sm (xs.length + 1) then some (.lst (xs ++ [y])) else none := rfl
@[simp] theorem u_toO_some {γ : Z.Env} {i : Nat} {x : PV} : toO γ i (some x) = .nx (γ.set i (.sl .ow x)) := rfl
@[simp] theorem u_pIx_lst {xs : List PV} {i : Int} : pIx (.lst xs) (.int i) = (match L2.atI xs i with | some v => .ok (.z v) | none => .no) := rfl
@[simp] theorem u_pIx_tup {xs : List PV} {i : Int} : pIx (.tup xs) (.int i) = (match L2.atI xs i with | some v => .ok (.z v) | none => .no) := rfl
@[simp] theorem u_run {np nl : Nat} {b : Z.Env → Os} {xs : List PV} : Z.run np nl b xs = if xs.length = np then outOf (b (frame nl xs)) else .no := rfl
@[simp] theorem u_frame {nl : Nat} {xs : List PV} : frame nl xs = xs.map (.sl .fz) ++ List.replicate (nl - xs.length) .un := rfl
@[simp] theorem u_isTy {n t : String} : isTy n t = (t == n || (n == "int" && t == "bool")) := rfl
@[simp] theorem u_tyN_non  : tyN (.non) = "NoneType" := rfl
@[simp] theorem u_isO_non  : isObj' (.non) = false := rfl
@[simp] theorem u_tyN_bl {b : Bool} : tyN (.bl b) = "bool" := rfl
@[simp] theorem u_isO_bl {b : Bool} : isObj' (.bl b) = false := rfl
@[simp] theorem u_tyN_int {b : Int} : tyN (.int b) = "int" := rfl
@[simp] theorem u_isO_int {b : Int} : isObj' (.int b) = false := rfl
@[simp] theorem u_tyN_str {b : Str} : tyN (.str b) = "str" := rfl
@[simp] theorem u_isO_str {b : Str} : isObj' (.str b) = false := rfl
@[simp] theorem u_tyN_tup {b : List PV} : tyN (.tup b) = "tuple" := rfl
@[simp] theorem u_isO_tup {b : List PV} : isObj' (.tup b) = false := rfl
@[simp] theorem u_tyN_lst {b : List PV} : tyN (.lst b) = "list" := rfl
@[simp] theorem u_isO_lst {b : List PV} : isObj' (.lst b) = false := rfl
@[simp] theorem u_tyN_dct {t : Bool} {b : List (PV × PV)} : tyN (.dct t b) = "dict" := rfl
@[simp] theorem u_isO_dct {t : Bool} {b : List (PV × PV)} : isObj' (.dct t b) = false := rfl
@[simp] theorem u_tyN_set {b : List PV} : tyN (.set b) = "set" := rfl
@[simp] theorem u_isO_set {b : List PV} : isObj' (.set b) = false := rfl
@[simp] theorem u_tyN_obj {t : String} {b : List (String × PV)} : tyN (.obj t b) = "object" := rfl
@[simp] theorem u_isO_obj {t : String} {b : List (String × PV)} : isObj' (.obj t b) = true := rfl
/-! ### loops -/
theorem forL_inv {tg : Tg} {body : Z.Env → Os} (Inv : Nat → Z.Env → Prop) : ∀ (items : List PV) (n : Nat) (γ : Z.Env), Inv n γ →
    (∀ i x γ, items[i]? = some x → Inv (n + i) γ → ∃ γ1 γ', tg x γ = some γ1 ∧ (body γ1 = .nx γ' ∨ body γ1 = .ct γ') ∧ Inv (n + i + 1) γ') →
    ∃ γ', forL tg body items γ = .nx γ' ∧ Inv (n + items.length) γ'
  | [], n, γ, h, _ => ⟨γ, rfl, h⟩
  | x :: xs, n, γ, h, k => by
    obtain ⟨γ1, γ', e1, e2, h2⟩ := k 0 x γ rfl h
    obtain ⟨γ2, e3, h3⟩ := forL_inv Inv xs (n + 1) γ' h2 (fun i y γ hy hi => by
      obtain ⟨a, b, c, d, e⟩ := k (i + 1) y γ (by simpa using hy) (by rw [show n + (i + 1) = n + 1 + i by omega]; exact hi)
      exact ⟨a, b, c, d, by rw [show n + 1 + i + 1 = n + (i + 1) + 1 by omega]; exact e⟩)
    refine ⟨γ2, ?_, by rw [List.length_cons, show n + (xs.length + 1) = n + 1 + xs.length by omega]; exact h3⟩
    unfold forL
    rw [e1]
    rcases e2 with e2 | e2 <;> simp only [e2] <;> exact e3
/-- a loop that may end by a return -/
theorem forL_ret {tg : Tg} {body : Z.Env → Os} (Inv : Nat → Z.Env → Prop) (Stop : Nat → Os → Prop) : ∀ (items : List PV) (n : Nat) (γ : Z.Env), Inv n γ →
    (∀ i x γ, items[i]? = some x → Inv (n + i) γ → ∃ γ1, tg x γ = some γ1 ∧ ((∃ γ', (body γ1 = .nx γ' ∨ body γ1 = .ct γ') ∧ Inv (n + i + 1) γ') ∨ ∃ y γ', body γ1 = .rt y γ' ∧ Stop (n + i) (.rt y γ'))) →
    (∃ γ', forL tg body items γ = .nx γ' ∧ Inv (n + items.length) γ') ∨ ∃ i y γ', i < items.length ∧ forL tg body items γ = .rt y γ' ∧ Stop (n + i) (.rt y γ')
  | [], n, γ, h, _ => .inl ⟨γ, rfl, h⟩
  | x :: xs, n, γ, h, k => by
    obtain ⟨γ1, e1, h1⟩ := k 0 x γ rfl h
    rcases h1 with ⟨γ', e2, h2⟩ | ⟨y, γ', e2, h2⟩
    · have e4 : forL tg body (x :: xs) γ = forL tg body xs γ' := by
        rw [forL, e1]
        rcases e2 with e2 | e2 <;> simp only [e2]
      rw [e4]
      rcases forL_ret Inv Stop xs (n + 1) γ' h2 (fun i y γ hy hi => by
        obtain ⟨a, b, c⟩ := k (i + 1) y γ (by simpa using hy) (by rw [show n + (i + 1) = n + 1 + i by omega]; exact hi)
        rw [show n + (i + 1) = n + 1 + i by omega] at c
        exact ⟨a, b, c⟩) with ⟨γ2, e3, h3⟩ | ⟨i, y, γ2, hi, e3, h3⟩
      · exact .inl ⟨γ2, e3, by rw [List.length_cons, show n + (xs.length + 1) = n + 1 + xs.length by omega]; exact h3⟩
      · exact .inr ⟨i + 1, y, γ2, by simp; omega, e3, by rw [show n + (i + 1) = n + 1 + i by omega]; exact h3⟩
    · exact .inr ⟨0, y, γ', by simp, by rw [forL, e1]; simp only [e2], h2⟩
theorem atI_nat {α : Type} {xs : List α} {i : Nat} (h : i < xs.length) : atI xs (i : Int) = xs[i]? := by
  unfold L2.atI ixN
  rw [if_pos (by omega), if_pos (by omega)]
  simp
theorem rngL_get {lo : Int} {n i : Nat} {x : PV} (h : (rngL lo n)[i]? = some x) : i < n ∧ x = .int (lo + i) := by
  simp only [rngL, List.getElem?_map] at h
  cases e : (List.range n)[i]? with
  | none => rw [e] at h; cases h
  | some k =>
    rw [e] at h
    obtain ⟨h1, h2⟩ := List.getElem?_eq_some_iff.mp e
    simp at h1 h2 h
    subst h2
    exact ⟨h1, h.symm⟩
theorem rngL_get0 {n i : Nat} {x : PV} (h : (rngL 0 n)[i]? = some x) : i < n ∧ x = .int i := by simpa using rngL_get h
@[simp] theorem rngL_len {lo : Int} {n : Nat} : (rngL lo n).length = n := by simp [rngL]
/-- bounds, place by place -/
def Below : List Int → List Int → Prop
  | [], [] => True
  | d :: ds, z :: zs => (0 ≤ d ∧ d < z) ∧ Below ds zs
  | _, _ => False
theorem Below.append : ∀ {ds zs es ys}, Below ds zs → Below es ys → Below (ds ++ es) (zs ++ ys)
  | [], [], _, _, _, h => h
  | _ :: _, _ :: _, _, _, h, k => ⟨h.1, Below.append h.2 k⟩
  | [], _ :: _, _, _, h, _ => h.elim
  | _ :: _, [], _, _, h, _ => h.elim
theorem Below.length : ∀ {ds zs}, Below ds zs → ds.length = zs.length
  | [], [], _ => rfl
  | _ :: _, _ :: _, h => by simp [Below.length h.2]
  | [], _ :: _, h => h.elim
  | _ :: _, [], h => h.elim
theorem cRng_nat {n : Nat} (h : n ≤ 1000000000) : cRng (n : Int) = true := by
  unfold cRng
  have h1 : -(2 ^ 62 : Int) ≤ (n : Int) := by omega
  have h2 : (n : Int) < 2 ^ 62 := by omega
  rw [decide_eq_true h1, decide_eq_true h2]; rfl
theorem pRng_nat {n : Nat} (h : n ≤ 1000000000) : pRng [.int (n : Int)] = .ok (rngL 0 n) := by
  show (if cRng (n : Int) = true then R.ok (rngL 0 (n : Int).toNat) else R.no) = _
  rw [if_pos (cRng_nat h)]; simp
theorem run_of {np nl : Nat} {b : Z.Env → Os} {xs : List PV} (h : xs.length = np) : run np nl b xs = outOf (b (frame nl xs)) := by unfold run; rw [if_pos h]
theorem sFor_ok {it : Z.Env → R (List PV)} {tg : Tg} {body : Z.Env → Os} {γ : Z.Env} {items : List PV} {o : Os} (h : it γ = .ok items) (h2 : forL tg body items γ = o) : sFor it tg body γ = o := by unfold sFor; rw [h]; exact h2
theorem iRng_ok {fs : Z.Env → R (List PV)} {γ : Z.Env} {xs items : List PV} (h : fs γ = .ok xs) (h2 : pRng xs = .ok items) : iRng fs γ = .ok items := by unfold iRng; rw [h]; exact h2
theorem sSeq_nx {g h : Z.Env → Os} {γ γ' : Z.Env} (e : g γ = .nx γ') : sSeq g h γ = h γ' := by unfold sSeq; rw [e]
def num_body : Z.Env → Os := sIf (tAndF (xT (x2 (pb pGe) (xVar 3) (x2 pPow (xC (.int 10)) (xC (.int 18))))) (xT (x2 (pb pGt) (xVar 4) (xC (.int 0))))) (sSeq (sApp 5 (zCons (x2 pMod (xVar 4) (x2 pIx (xVar 2) (xVar 6))) (aNil))) (sSet 4 (x2 pDiv (xVar 4) (x2 pIx (xVar 2) (xVar 6))))) (sSeq (sSet 7 (x2 pMod (x2 pPow (x2 pAdd (x2 pAdd (x2 pMod (xVar 3) (xC (.int 2147483629))) (x2 pMul (xC (.int 7919)) (xVar 1))) (xC (.int 1))) (xC (.int 3))) (xC (.int 2147483647)))) (sSeq (sSet 7 (x2 pMod (x2 pMul (x2 pAdd (xVar 7) (x2 pMul (xC (.int 104729)) (x2 pAdd (xVar 6) (xC (.int 1))))) (x2 pAdd (xVar 6) (xC (.int 3)))) (xC (.int 2147483629)))) (sSeq (sSet 7 (x2 pMod (x2 pMul (x2 pMod (x2 pPow (xVar 7) (xC (.int 5))) (xC (.int 2147483647))) (xC (.int 48271))) (xC (.int 2147483629)))) (sApp 5 (zCons (x2 pMod (x2 pDiv (xVar 7) (xC (.int 16))) (x2 pIx (xVar 2) (xVar 6))) (aNil))))))

theorem num_step {c s N L : Int} {zs ds : List Int} {i : Nat} {z : Int} {w : Sl} (hs : -(2 ^ 40) < s ∧ s < 2 ^ 40) (hN : 0 ≤ N) (hL : 0 ≤ L) (hz : zs[i]? = some z) (hz1 : 0 < z ∧ z < 2 ^ 40) (hi : i < 1000) (hl : ds.length ≤ 1000) :
    ∃ L' d w', num_body [.sl .fz (.int c), .sl .fz (.int s), .sl .fz (.lst (zs.map .int)), .sl .fz (.int N), .sl .fz (.int L), .sl .ow (.lst (ds.map .int)), .sl .fz (.int i), w] =
      .nx [.sl .fz (.int c), .sl .fz (.int s), .sl .fz (.lst (zs.map .int)), .sl .fz (.int N), .sl .fz (.int L'), .sl .ow (.lst ((ds ++ [d]).map .int)), .sl .fz (.int i), w'] ∧ 0 ≤ L' ∧ 0 ≤ d ∧ d < z := by
  have hlt : i < zs.length := (List.getElem?_eq_some_iff.mp hz).1
  have hat : L2.atI (zs.map PV.int) (i : Int) = some (.int z) := by
    rw [atI_nat (by simpa using hlt), List.getElem?_map, hz]; rfl
  have hlg : z.natAbs.log2 < 9000 := by
    have h1 : z.natAbs < 2 ^ 40 := by omega
    have h2 : z.natAbs ≠ 0 := by omega
    have := (Nat.log2_lt h2).mpr h1
    omega
  have hlen : ds.length + 1 ≤ 16777216 := by omega
  have m1 : ∀ a b : Int, 0 < b → 0 ≤ a % b ∧ a % b < b := fun a b h => ⟨Int.emod_nonneg _ (by omega), Int.emod_lt_of_pos _ h⟩
  by_cases hc : (1000000000000000000 : Int) ≤ N ∧ 0 < L
  · refine ⟨L / z, L % z, w, ?_, Int.ediv_nonneg hL (by omega), (m1 L z hz1.1).1, (m1 L z hz1.1).2⟩
    unfold num_body
    simp [hat, hc.1, hc.2, hz1.1, hlg, hlen]
  · have hA : (N % 2147483629 + 7919 * s + 1).natAbs < 18446744073709551616 := by
      have := m1 N 2147483629 (by decide)
      omega
    have hB := m1 ((N % 2147483629 + 7919 * s + 1) ^ 3) 2147483647 (by decide)
    generalize hb : (N % 2147483629 + 7919 * s + 1) ^ 3 % 2147483647 = b at hB
    have hC := m1 ((b + 104729 * ((i : Int) + 1)) * ((i : Int) + 3)) 2147483629 (by decide)
    generalize hcc : (b + 104729 * ((i : Int) + 1)) * ((i : Int) + 3) % 2147483629 = e at hC
    refine ⟨L, e ^ 5 % 2147483647 * 48271 % 2147483629 / 16 % z, .sl .fz (.int (e ^ 5 % 2147483647 * 48271 % 2147483629)), ?_, hL, (m1 _ z hz1.1).1, (m1 _ z hz1.1).2⟩
    have hE : e.natAbs < 18446744073709551616 := by omega
    have hI : (i : Int) + 3 < 18446744073709551616 := by omega
    have hI' : -18446744073709551616 < (i : Int) + 3 := by omega
    have ht : (xT (x2 (pb pGe) (xVar 3) (x2 pPow (xC (.int 10)) (xC (.int 18)))) [.sl .fz (.int c), .sl .fz (.int s), .sl .fz (.lst (zs.map .int)), .sl .fz (.int N), .sl .fz (.int L), .sl .ow (.lst (ds.map .int)), .sl .fz (.int i), w]) = .ok (decide ((1000000000000000000 : Int) ≤ N)) := by simp
    have h16 : Nat.log2 16 < 9000 := by decide +kernel
    unfold num_body
    by_cases h1 : (1000000000000000000 : Int) ≤ N
    · have h2 : ¬ 0 < L := fun h => hc ⟨h1, h⟩
      simp [hat, h1, h2, hA, hb, hcc, hE, hI, hI', hz1.1, hlg, hlen, h16]
    · simp [hat, h1, hA, hb, hcc, hE, hI, hI', hz1.1, hlg, hlen, h16]

def num_main : Z.Env → Os := sSeq (sSet 3 (xB pMax2 (aCons (xVar 0) (aCons (x2 pSub (x1 pNeg (xC (.int 1))) (xVar 0)) (aNil))))) (sSeq (sSet 4 (xVar 3)) (sSeq (sSet 5 (xLst (aNil))) (sSeq (sFor (iRng (aCons (xB pLen (aCons (xVar 2) (aNil))) (aNil))) (tgN 6) num_body) (sRet (xVar 5)))))
def numF : List PV → R PV := run 3 8 num_main
theorem Below.take_succ {ds zs : List Int} {i : Nat} {d z : Int} (h : Below ds (zs.take i)) (hz : zs[i]? = some z) (hd : 0 ≤ d ∧ d < z) : Below (ds ++ [d]) (zs.take (i + 1)) := by
  rw [List.take_add_one, hz]
  exact h.append ⟨hd, trivial⟩
theorem nums_loop {c s N : Int} {zs : List Int} (hs : -(2 ^ 40) < s ∧ s < 2 ^ 40) (hN : 0 ≤ N) (hz : ∀ z ∈ zs, 0 < z ∧ z < 2 ^ 40) (hl : zs.length ≤ 1000) :
    ∃ w w' L' ds, forL (tgN 6) num_body (rngL 0 zs.length) [.sl .fz (.int c), .sl .fz (.int s), .sl .fz (.lst (zs.map .int)), .sl .fz (.int N), .sl .fz (.int N), .sl .ow (.lst []), .un, .un] = .nx [.sl .fz (.int c), .sl .fz (.int s), .sl .fz (.lst (zs.map .int)), .sl .fz (.int N), .sl .fz (.int L'), .sl .ow (.lst (List.map PV.int ds)), w, w'] ∧ Below ds zs := by
  obtain ⟨γ', e1, w, w', L', ds, e2, hL', hB⟩ := forL_inv (tg := tgN 6) (body := num_body) (fun k γ => ∃ w6 w7 L ds, γ = [.sl .fz (.int c), .sl .fz (.int s), .sl .fz (.lst (zs.map .int)), .sl .fz (.int N), .sl .fz (.int L), .sl .ow (.lst (List.map PV.int ds)), w6, w7] ∧ 0 ≤ L ∧ Below ds (zs.take k))
    (rngL 0 zs.length) 0 [.sl .fz (.int c), .sl .fz (.int s), .sl .fz (.lst (zs.map .int)), .sl .fz (.int N), .sl .fz (.int N), .sl .ow (.lst []), .un, .un] ⟨.un, .un, N, [], rfl, hN, by simp [Below]⟩ (by
      rintro i x γ hx ⟨w6, w7, L, ds, rfl, hL, hB⟩
      rw [Nat.zero_add] at hB ⊢
      obtain ⟨hi, rfl⟩ := rngL_get0 hx
      have hz' := List.getElem?_eq_getElem hi
      have hdl : ds.length ≤ 1000 := by rw [hB.length]; simp; omega
      obtain ⟨L', d, w', e, h1, h2, h3⟩ := num_step (c := c) (s := s) (N := N) (w := w7) hs hN hL hz' (hz _ (List.getElem_mem hi)) (by omega) hdl
      refine ⟨_, _, rfl, .inl e, .sl .fz (.int i), w', L', ds ++ [d], rfl, h1, hB.take_succ hz' ⟨h2, h3⟩⟩
      )
  have hB : Below ds zs := by simpa using hB
  subst e2
  exact ⟨w, w', L', ds, e1, hB⟩
theorem nums_ok (c s : Int) (zs : List Int) (hs : -(2 ^ 40) < s ∧ s < 2 ^ 40) (hz : ∀ z ∈ zs, 0 < z ∧ z < 2 ^ 40) (hl : zs.length ≤ 1000) : ∃ ds : List Int, numF [.int c, .int s, .lst (zs.map .int)] = .ok (.lst (ds.map .int)) ∧ Below ds zs := by
  have hN : 0 ≤ (if -1 - c > c then -1 - c else c) := by split <;> omega
  generalize hNN : (if -1 - c > c then -1 - c else c) = N at hN
  obtain ⟨w, w', L', ds, e1, hB⟩ := nums_loop (c := c) hs hN hz hl
  refine ⟨ds, ?_, hB⟩
  have hr : pRng [.int (zs.length : Int)] = .ok (rngL 0 zs.length) := pRng_nat (by omega)
  have s1 : sSet 3 (xB pMax2 (aCons (xVar 0) (aCons (x2 pSub (x1 pNeg (xC (.int 1))) (xVar 0)) (aNil)))) (frame 8 [.int c, .int s, .lst (zs.map .int)]) = .nx [.sl .fz (.int c), .sl .fz (.int s), .sl .fz (.lst (zs.map .int)), .sl .fz (.int N), .un, .un, .un, .un] := by
    rw [← hNN]; rfl
  unfold numF num_main
  refine (run_of rfl).trans ?_
  rw [sSeq_nx s1]
  rw [sSeq_nx (g := sSet 4 (xVar 3)) (γ' := [.sl .fz (.int c), .sl .fz (.int s), .sl .fz (.lst (zs.map .int)), .sl .fz (.int N), .sl .fz (.int N), .un, .un, .un]) rfl]
  rw [sSeq_nx (g := sSet 5 (xLst aNil)) (γ' := [.sl .fz (.int c), .sl .fz (.int s), .sl .fz (.lst (zs.map .int)), .sl .fz (.int N), .sl .fz (.int N), .sl .ow (.lst []), .un, .un]) rfl]
  rw [sSeq_nx (γ' := [.sl .fz (.int c), .sl .fz (.int s), .sl .fz (.lst (zs.map .int)), .sl .fz (.int N), .sl .fz (.int L'), .sl .ow (.lst (List.map PV.int ds)), w, w']) ?_]
  · rfl
  · exact sFor_ok (iRng_ok (xs := [.int (zs.length : Int)]) (by simp) hr) e1
end Z
/-! the pure layer, part P: whole numbers, sets, as the programs ask for them -/
namespace Z
open PySem L2
theorem pcut_from {xs : List PV} {k : Nat} : pcut xs (some (k : Int)) none = xs.drop k := by
  unfold pcut
  rw [HT.sIx_nat, HT.sIx_none]
  rw [List.take_of_length_le (by rw [List.length_drop]; omega)]
  by_cases h : k ≤ xs.length
  · rw [Nat.min_eq_left h]
  · rw [Nat.min_eq_right (by omega), List.drop_length, List.drop_of_length_le (by omega)]
theorem pcut_to {xs : List PV} {k : Nat} : pcut xs none (some (k : Int)) = xs.take k := by
  unfold pcut
  rw [HT.sIx_nat, HT.sIx_none, List.drop_zero, Nat.sub_zero]
  by_cases h : k ≤ xs.length
  · rw [Nat.min_eq_left h]
  · rw [Nat.min_eq_right (by omega), List.take_length, List.take_of_length_le (by omega)]
theorem pcut_mid {xs : List PV} {k n : Nat} : pcut xs (some (k : Int)) (some ((k + n : Nat) : Int)) = (xs.drop k).take n := by
  unfold pcut
  rw [HT.sIx_nat, HT.sIx_nat]
  by_cases h : k ≤ xs.length
  · rw [Nat.min_eq_left h]
    by_cases h2 : k + n ≤ xs.length
    · rw [Nat.min_eq_left h2, Nat.add_sub_cancel_left]
    · rw [Nat.min_eq_right (by omega), List.take_of_length_le (by rw [List.length_drop]; omega), List.take_of_length_le (by rw [List.length_drop]; omega)]
  · rw [Nat.min_eq_right (by omega), Nat.min_eq_right (by omega), List.drop_length, List.drop_of_length_le (by omega)]; simp
/-- a comprehension whose every turn answers -/
theorem lcL_map {tg : Tg} {c : Z.Env → R Bool} {f : Ex} {γ : Z.Env} (g : PV → PV) : ∀ {items : List PV}, (∀ x ∈ items, lcT tg c f γ x = .ok (some (g x))) → lcL tg c f γ items = .ok (items.map g)
  | [], _ => rfl
  | x :: xs, h => by
    unfold lcL
    rw [h x List.mem_cons_self, lcL_map g fun y hy => h y (List.mem_cons_of_mem _ hy)]
    rfl
theorem xLc_map {it : Z.Env → R (List PV)} {tg : Tg} {c : Z.Env → R Bool} {f : Ex} {vs : List Nat} {γ : Z.Env} {items : List PV} (g : PV → PV) (hi : it γ = .ok items) (hs : items.length ≤ 16777216) (h : ∀ x ∈ items, lcT tg c f (wipeE γ vs) x = .ok (some (g x))) :
    xLc it tg c f vs γ = .ok (.fr .ow (.lst (items.map g))) := by
  unfold xLc
  rw [hi, R.bind_ok, if_pos (by unfold sm; exact decide_eq_true hs), lcL_map g h]
/-- a comprehension with a test -/
theorem lcL_filt {tg : Tg} {c : Z.Env → R Bool} {f : Ex} {γ : Z.Env} (g : PV → Option PV) : ∀ {items : List PV}, (∀ x ∈ items, lcT tg c f γ x = .ok (g x)) → lcL tg c f γ items = .ok (items.filterMap g)
  | [], _ => rfl
  | x :: xs, h => by
    unfold lcL
    rw [h x List.mem_cons_self, lcL_filt g fun y hy => h y (List.mem_cons_of_mem _ hy), List.filterMap_cons]
    cases g x <;> rfl
theorem xLc_filt {it : Z.Env → R (List PV)} {tg : Tg} {c : Z.Env → R Bool} {f : Ex} {vs : List Nat} {γ : Z.Env} {items : List PV} (g : PV → Option PV) (hi : it γ = .ok items) (hs : items.length ≤ 16777216) (h : ∀ x ∈ items, lcT tg c f (wipeE γ vs) x = .ok (g x)) :
    xLc it tg c f vs γ = .ok (.fr .ow (.lst (items.filterMap g))) := by
  unfold xLc
  rw [hi, R.bind_ok, if_pos (by unfold sm; exact decide_eq_true hs), lcL_filt g h]
/-! is_whole -/
def wholeF : List PV → R PV := run 1 1 (sRet (xAnd (xIsi "int" (xVar 0)) (xNot (xIsi "bool" (xVar 0)))))
def isI : PV → Bool
  | .int _ => true
  | _ => false
theorem whole_ok (x : PV) : wholeF [x] = .ok (.bl (isI x)) := by
  unfold wholeF
  cases x <;> simp [isI]
/-! is_within -/
def withinF : List PV → R PV := run 3 3 (sRet (xAnd (xCall0 wholeF (zCons (xVar 0) (aNil))) (xChain pLe pLe (xVar 1) (xVar 0) (xVar 2))))
def isW (a b : Int) : PV → Bool
  | .int i => decide (a ≤ i) && decide (i ≤ b)
  | _ => false
theorem within_ok (x : PV) (a b : Int) : withinF [x, .int a, .int b] = .ok (.bl (isW a b x)) := by
  unfold withinF
  cases x <;> simp [isW, whole_ok, isI]
  rename_i i
  by_cases h : a ≤ i <;> simp [h]
/-! is_rising -/
def risingF : List PV → R PV := run 1 3 (sRet (xB pAll (aCons (xLc (iZp (zCons (xVar 0) (zCons (xSl (xVar 0) (xP (xC (.int 1))) (xNoP)) (aNil)))) (tgT (tgCons (tgN 1) (tgCons (tgN 2) (tgNil)))) (tYesF) (x2 (pb pLt) (xVar 1) (xVar 2)) [1, 2]) (aNil))))
def ris : List Int → Bool
  | [] => true
  | [_] => true
  | x :: y :: r => decide (x < y) && ris (y :: r)
def ltP : PV → PV
  | .tup [.int i, .int j] => .bl (decide (i < j))
  | x => x
def ltB : List Int → List Bool
  | x :: y :: r => decide (x < y) :: ltB (y :: r)
  | _ => []
theorem zip_ris : ∀ ns : List Int, (zipL (ns.map .int) ((ns.map PV.int).drop 1)).map ltP = (ltB ns).map PV.bl
  | [] => rfl
  | [x] => rfl
  | x :: y :: r => by
    have ih := zip_ris (y :: r)
    simp only [List.map_cons, List.drop_succ_cons, List.drop_zero, zipL, ltB] at ih ⊢
    rw [ih]; rfl
theorem ltB_all : ∀ ns : List Int, (ltB ns).all id = ris ns
  | [] => rfl
  | [x] => rfl
  | x :: y :: r => by
    have ih := ltB_all (y :: r)
    simp only [ltB, List.all_cons, ris, ih, id]
theorem rising_ok (ns : List Int) (h : ns.length ≤ 16777216) : risingF [.tup (ns.map .int)] = .ok (.bl (ris ns)) := by
  have e : xLc (iZp (zCons (xVar 0) (zCons (xSl (xVar 0) (xP (xC (.int 1))) (xNoP)) (aNil)))) (tgT (tgCons (tgN 1) (tgCons (tgN 2) (tgNil)))) (tYesF) (x2 (pb pLt) (xVar 1) (xVar 2)) [1, 2] [.sl .fz (.tup (ns.map .int)), .un, .un] = .ok (.fr .ow (.lst ((zipL (ns.map .int) ((ns.map PV.int).drop 1)).map ltP))) := by
    refine xLc_map ltP ?_ (by rw [zipL_length]; simp; omega) fun x hx => ?_
    · have h1 : pcut (ns.map PV.int) (some 1) none = (ns.map PV.int).drop 1 := pcut_from (k := 1)
      simp [iZp, pZip, h1]
    · obtain ⟨i, hi⟩ := List.mem_iff_getElem?.mp hx
      rw [zipL_get] at hi
      simp only [List.getElem?_map, List.getElem?_drop] at hi
      cases e1 : ns[i]? with
      | none => rw [e1] at hi; simp at hi
      | some a =>
        cases e2 : ns[1 + i]? with
        | none => rw [e1, e2] at hi; simp at hi
        | some b =>
          rw [e1, e2] at hi
          simp at hi
          subst hi
          simp [wipeE, ltP]
  unfold risingF
  rw [zip_ris] at e
  simp [e, pAll, ltB_all]
end Z
namespace Z
open PySem L2
/-! is_set -/
def setF : List PV → R PV := run 2 3 (sSeq (sIf (tOrF (tNotF (xT (xIsi "tuple" (xVar 1)))) (tNotF (xT (xB pAll (aCons (xLc (iSeq (xVar 1)) (tgN 2) (tYesF) (xCall0 withinF (zCons (xVar 2) (zCons (xC (.int 0)) (zCons (x2 pSub (xVar 0) (xC (.int 1))) (aNil))))) [2]) (aNil)))))) (sRet (xC (.bl false))) (sNx)) (sRet (xCall0 risingF (zCons (xVar 1) (aNil)))))
/-- a rising tuple of whole numbers from 0 to below m -/
def isSet (m : Int) : PV → Bool
  | .tup xs => match intsOf xs with
    | some ns => ns.all (fun i => decide (0 ≤ i) && decide (i ≤ m - 1)) && ris ns
    | none => false
  | _ => false
theorem all_within (m : Int) : ∀ xs : List PV, xs.all (isW 0 (m - 1)) = (match intsOf xs with
    | some ns => ns.all (fun i => decide (0 ≤ i) && decide (i ≤ m - 1))
    | none => false)
  | [] => rfl
  | x :: xs => by
    have ih := all_within m xs
    rw [List.all_cons, ih]
    cases x <;> simp only [intsOf, isW, Bool.false_and]
    cases intsOf xs <;> simp
def small : PV → Prop
  | .tup xs => xs.length ≤ 16777216
  | _ => True
theorem set_ok (m : Int) (t : PV) (h : small t) : setF [.int m, t] = .ok (.bl (isSet m t)) := by
  unfold setF
  cases t with
  | tup xs =>
    obtain ⟨bs, e, e3⟩ : ∃ bs : List Bool, xLc (iSeq (xVar 1)) (tgN 2) (tYesF) (xCall0 withinF (zCons (xVar 2) (zCons (xC (.int 0)) (zCons (x2 pSub (xVar 0) (xC (.int 1))) (aNil))))) [2] [.sl .fz (.int m), .sl .fz (.tup xs), .un] = .ok (.fr .ow (.lst (bs.map PV.bl))) ∧ bs.all id = xs.all (isW 0 (m - 1)) := by
      refine ⟨xs.map (isW 0 (m - 1)), ?_, by simp [List.all_map]⟩
      rw [show (xs.map (isW 0 (m - 1))).map PV.bl = xs.map fun x => .bl (isW 0 (m - 1) x) by simp]
      exact xLc_map _ (by simp) h fun x hx => by simp [wipeE, within_ok]
    simp only [isSet]
    have aw := all_within m xs
    rw [← e3] at aw
    cases ei : intsOf xs with
    | none =>
      rw [ei] at aw
      have aw : bs.all id = false := aw
      simp [e, pAll, aw]
    | some ns =>
      rw [ei] at aw
      have aw : bs.all id = ns.all (fun i => decide (0 ≤ i) && decide (i ≤ m - 1)) := aw
      have ex := intsOf_eq ei
      dsimp only
      rw [← aw]
      cases hb : bs.all id with
      | false => simp [e, pAll, hb]
      | true =>
        have r := rising_ok ns (by have : xs.length ≤ 16777216 := h; rw [ex] at this; simpa using this)
        rw [← ex] at r
        simp [e, pAll, hb, r]
  | _ => simp [isSet]
end Z
section
set_option maxHeartbeats 4000000
namespace K01
open PySem L2 Z
def top (i : Nat) : Stmt := PySem.Challenge.pw_twofree_k01_sets.main.body.getD i (.Pass ⟨0, 0, 0, 0⟩)
abbrev s__law_numbers : Stmt := top 7
abbrev N__law_numbers : List Str := ["_law_cell", "_law_salt", "_law_sizes", "_law_number", "_law_left", "_law_found", "_law_k", "_law_one"]
theorem sc__law_numbers : FnScope N__law_numbers ["_law_cell", "_law_salt", "_law_sizes"] (defScope s__law_numbers) := ⟨rfl, rfl, rfl, by decide +kernel, rfl, by decide +kernel, by decide +kernel⟩
abbrev b__law_numbers_0 : Z.Env → Os := sIf (tAndF (xT (x2 (pb pGe) (xVar 3) (x2 pPow (xC (.int 10)) (xC (.int 18))))) (xT (x2 (pb pGt) (xVar 4) (xC (.int 0))))) (sSeq (sApp 5 (zCons (x2 pMod (xVar 4) (x2 pIx (xVar 2) (xVar 6))) (aNil))) (sSet 4 (x2 pDiv (xVar 4) (x2 pIx (xVar 2) (xVar 6))))) (sSeq (sSet 7 (x2 pMod (x2 pPow (x2 pAdd (x2 pAdd (x2 pMod (xVar 3) (xC (.int 2147483629))) (x2 pMul (xC (.int 7919)) (xVar 1))) (xC (.int 1))) (xC (.int 3))) (xC (.int 2147483647)))) (sSeq (sSet 7 (x2 pMod (x2 pMul (x2 pAdd (xVar 7) (x2 pMul (xC (.int 104729)) (x2 pAdd (xVar 6) (xC (.int 1))))) (x2 pAdd (xVar 6) (xC (.int 3)))) (xC (.int 2147483629)))) (sSeq (sSet 7 (x2 pMod (x2 pMul (x2 pMod (x2 pPow (xVar 7) (xC (.int 5))) (xC (.int 2147483647))) (xC (.int 48271))) (xC (.int 2147483629)))) (sApp 5 (zCons (x2 pMod (x2 pDiv (xVar 7) (xC (.int 16))) (x2 pIx (xVar 2) (xVar 6))) (aNil))))))
abbrev m__law_numbers : Z.Env → Os := sSeq (sSet 3 (xB pMax2 (aCons (xVar 0) (aCons (x2 pSub (x1 pNeg (xC (.int 1))) (xVar 0)) (aNil))))) (sSeq (sSet 4 (xVar 3)) (sSeq (sSet 5 (xLst (aNil))) (sSeq (sFor (iRng (aCons (xB pLen (aCons (xVar 2) (aNil))) (aNil))) (tgN 6) b__law_numbers_0) (sRet (xVar 5)))))
def f__law_numbers : List PV → R PV := run 3 8 m__law_numbers
theorem e__law_numbers : f__law_numbers = run 3 8 m__law_numbers := rfl
abbrev s__law_things : Stmt := top 10
abbrev N__law_things : List Str := ["_law_digits", "_law_many", "_law_some", "_law_found", "_law_at", "_law_odd_here", "_law_digit"]
theorem sc__law_things : FnScope N__law_things ["_law_digits", "_law_many"] (defScope s__law_things) := ⟨rfl, rfl, rfl, by decide +kernel, rfl, by decide +kernel, by decide +kernel⟩
abbrev m__law_things : Z.Env → Os := sSeq (sSet 2 (xLc (iSeq (xSl (xVar 0) (xP (xC (.int 3))) (xP (x2 pAdd (xC (.int 3)) (x2 pIx (xVar 0) (xC (.int 1))))))) (tgN 6) (tYesF) (x2 pSub (xVar 6) (xC (.int 1))) [6])) (sSeq (sSet 3 (xLst (zCons (xB pTup (aCons (xVar 2) (aNil))) (zCons (xB pTup (aCons (xB pSrt (aCons (xVar 2) (aNil))) (aNil))) (zCons (xB pTup (aCons (xB pSrtSet (aCons (xVar 2) (aNil))) (aNil))) (zCons (xB pLst (aCons (xB pSrtSet (aCons (xVar 2) (aNil))) (aNil))) (aNil))))))) (sSeq (sSet 4 (x2 pMod (x2 pIx (xVar 0) (xC (.int 2))) (x2 pAdd (xB pLen (aCons (xVar 2) (aNil))) (xC (.int 1))))) (sSeq (sSet 5 (x2 pIx (xLst (zCons (xC .non) (zCons (xC (.bl true)) (zCons (xC (.str "1")) (zCons (xTup (zCons (xC (.int 1)) (aNil))) (zCons (xLst (zCons (xC (.int 1)) (aNil))) (zCons (x2 pPow (xC (.int 10)) (xC (.int 40))) (zCons (x1 pNeg (xC (.int 1))) (zCons (xVar 1) (aNil)))))))))) (x2 pIx (xVar 0) (xC (.int 8))))) (sRet (x2 pAdd (xVar 3) (xLst (zCons (xB pTup (aCons (x2 pAdd (x2 pAdd (xSl (xVar 2) (xNoP) (xP (xVar 4))) (xLst (zCons (xVar 5) (aNil)))) (xSl (xVar 2) (xP (xVar 4)) (xNoP))) (aNil))) (zCons (xTupR (r1 (xVar 1))) (aNil)))))))))
def f__law_things : List PV → R PV := run 2 7 m__law_things
theorem e__law_things : f__law_things = run 2 7 m__law_things := rfl
abbrev s_is_rising : Stmt := top 3
abbrev N_is_rising : List Str := ["things", "one", "other"]
theorem sc_is_rising : FnScope N_is_rising ["things"] (defScope s_is_rising) := ⟨rfl, rfl, rfl, by decide +kernel, rfl, by decide +kernel, by decide +kernel⟩
abbrev m_is_rising : Z.Env → Os := sRet (xB pAll (aCons (xLc (iZp (zCons (xVar 0) (zCons (xSl (xVar 0) (xP (xC (.int 1))) (xNoP)) (aNil)))) (tgT (tgCons (tgN 1) (tgCons (tgN 2) (tgNil)))) (tYesF) (x2 (pb pLt) (xVar 1) (xVar 2)) [1, 2]) (aNil)))
def f_is_rising : List PV → R PV := run 1 3 m_is_rising
theorem e_is_rising : f_is_rising = run 1 3 m_is_rising := rfl
abbrev s_is_whole : Stmt := top 1
abbrev N_is_whole : List Str := ["thing"]
theorem sc_is_whole : FnScope N_is_whole ["thing"] (defScope s_is_whole) := ⟨rfl, rfl, rfl, by decide +kernel, rfl, by decide +kernel, by decide +kernel⟩
abbrev m_is_whole : Z.Env → Os := sRet (xAnd (xIsi "int" (xVar 0)) (xNot (xIsi "bool" (xVar 0))))
def f_is_whole : List PV → R PV := run 1 1 m_is_whole
theorem e_is_whole : f_is_whole = run 1 1 m_is_whole := rfl
abbrev s_is_within : Stmt := top 2
abbrev N_is_within : List Str := ["thing", "least", "most"]
theorem sc_is_within : FnScope N_is_within ["thing", "least", "most"] (defScope s_is_within) := ⟨rfl, rfl, rfl, by decide +kernel, rfl, by decide +kernel, by decide +kernel⟩
abbrev m_is_within : Z.Env → Os := sRet (xAnd (xCall0 f_is_whole (zCons (xVar 0) (aNil))) (xChain pLe pLe (xVar 1) (xVar 0) (xVar 2)))
def f_is_within : List PV → R PV := run 3 3 m_is_within
theorem e_is_within : f_is_within = run 3 3 m_is_within := rfl
abbrev s_is_set : Stmt := top 4
abbrev N_is_set : List Str := ["many", "thing", "one"]
theorem sc_is_set : FnScope N_is_set ["many", "thing"] (defScope s_is_set) := ⟨rfl, rfl, rfl, by decide +kernel, rfl, by decide +kernel, by decide +kernel⟩
abbrev m_is_set : Z.Env → Os := sSeq (sIf (tOrF (tNotF (xT (xIsi "tuple" (xVar 1)))) (tNotF (xT (xB pAll (aCons (xLc (iSeq (xVar 1)) (tgN 2) (tYesF) (xCall0 f_is_within (zCons (xVar 2) (zCons (xC (.int 0)) (zCons (x2 pSub (xVar 0) (xC (.int 1))) (aNil))))) [2]) (aNil)))))) (sRet (xC (.bl false))) (sNx)) (sRet (xCall0 f_is_rising (zCons (xVar 1) (aNil))))
def f_is_set : List PV → R PV := run 2 3 m_is_set
theorem e_is_set : f_is_set = run 2 3 m_is_set := rfl
abbrev s__law_odd : Stmt := top 8
abbrev N__law_odd : List Str := ["_law_digit", "_law_many", "_law_some"]
theorem sc__law_odd : FnScope N__law_odd ["_law_digit", "_law_many"] (defScope s__law_odd) := ⟨rfl, rfl, rfl, by decide +kernel, rfl, by decide +kernel, by decide +kernel⟩
abbrev m__law_odd : Z.Env → Os := sSeq (sSet 2 (xLst (zCons (xC .non) (zCons (xLst (aNil)) (zCons (xLst (zCons (xC (.int 0)) (aNil))) (zCons (xC (.str "")) (zCons (xC (.int 0)) (zCons (xC (.bl true)) (zCons (xTup (zCons (xC (.bl true)) (aNil))) (zCons (xTup (zCons (xVar 1) (aNil))) (zCons (xTup (zCons (x1 pNeg (xC (.int 1))) (aNil))) (zCons (xTup (zCons (xC (.int 1)) (zCons (xC (.int 0)) (aNil)))) (zCons (xTup (zCons (xC (.int 0)) (zCons (xC (.int 0)) (aNil)))) (zCons (xTup (zCons (xTup (zCons (xC (.int 0)) (aNil))) (aNil))) (zCons (xTup (zCons (xC (.str "0")) (aNil))) (zCons (xDct false) (zCons (xTup (zCons (xC (.int 0)) (zCons (xC .non) (aNil)))) (aNil)))))))))))))))))) (sRet (x2 pIx (x2 pAdd (xVar 2) (xLst (zCons (xLst (zCons (xC (.int 0)) (zCons (xC (.int 1)) (aNil)))) (zCons (xTup (zCons (x2 pPow (xC (.int 10)) (xC (.int 30))) (aNil))) (aNil))))) (x2 pMod (xVar 0) (xC (.int 17)))))
def f__law_odd : List PV → R PV := run 2 3 m__law_odd
theorem e__law_odd : f__law_odd = run 2 3 m__law_odd := rfl
abbrev s__law_is_set : Stmt := top 9
abbrev N__law_is_set : List Str := ["_law_many", "_law_thing", "_law_last", "_law_one"]
theorem sc__law_is_set : FnScope N__law_is_set ["_law_many", "_law_thing"] (defScope s__law_is_set) := ⟨rfl, rfl, rfl, by decide +kernel, rfl, by decide +kernel, by decide +kernel⟩
abbrev b__law_is_set_0 : Z.Env → Os := sSeq (sIf (tOrF (tNotF (xT (xIsi "int" (xVar 3)))) (tOrF (xT (xIsi "bool" (xVar 3))) (tOrF (xT (x2 (pb pLe) (xVar 3) (xVar 2))) (xT (x2 (pb pGe) (xVar 3) (xVar 0)))))) (sRet (xC (.bl false))) (sNx)) (sSet 2 (xVar 3))
abbrev m__law_is_set : Z.Env → Os := sSeq (sIf (tNotF (xT (xIsi "tuple" (xVar 1)))) (sRet (xC (.bl false))) (sNx)) (sSeq (sSet 2 (x1 pNeg (xC (.int 1)))) (sSeq (sFor (iSeq (xVar 1)) (tgN 3) b__law_is_set_0) (sRet (xC (.bl true)))))
def f__law_is_set : List PV → R PV := run 2 4 m__law_is_set
theorem e__law_is_set : f__law_is_set = run 2 4 m__law_is_set := rfl
abbrev s_law : Stmt := top 11
abbrev N_law : List Str := ["_law_script", "_law_k", "_law_cell", "_law_digits", "_law_many", "_law_thing", "_law_found"]
theorem sc_law : FnScope N_law ["_law_script"] (defScope s_law) := ⟨rfl, rfl, rfl, by decide +kernel, rfl, by decide +kernel, by decide +kernel⟩
abbrev b_law_1 : Z.Env → Os := sSeq (sSet 6 (xCall0 f_is_set (zCons (xVar 4) (zCons (xVar 5) (aNil))))) (sIf (tOrF (tNotF (xT (xIsi "bool" (xVar 6)))) (xT (x2 (pb pNe) (xVar 6) (xCall0 f__law_is_set (zCons (xVar 4) (zCons (xVar 5) (aNil))))))) (sRet (xC (.bl false))) (sNx))
abbrev b_law_2 : Z.Env → Os := sIf (xT (x2 (pb pNotB) (xCall0 f_is_set (zCons (xVar 4) (zCons (xVar 5) (aNil)))) (xC (.bl false)))) (sRet (xC (.bl false))) (sNx)
abbrev b_law_0 : Z.Env → Os := sSeq (sSet 3 (xCall0 f__law_numbers (zCons (xVar 2) (zCons (x2 pAdd (xC (.int 100)) (xVar 1)) (zCons (xLst (zCons (xC (.int 17)) (zCons (xC (.int 6)) (zCons (xC (.int 6)) (zCons (xC (.int 18)) (zCons (xC (.int 18)) (zCons (xC (.int 18)) (zCons (xC (.int 18)) (zCons (xC (.int 18)) (zCons (xC (.int 8)) (zCons (xC (.int 17)) (aNil)))))))))))) (aNil)))))) (sSeq (sSet 4 (x2 pIx (xVar 3) (xC (.int 0)))) (sSeq (sFor (iSeq (x2 pAdd (xCall0 f__law_things (zCons (xVar 3) (zCons (xVar 4) (aNil)))) (xLst (zCons (xCall0 f__law_odd (zCons (x2 pIx (xVar 3) (xC (.int 9))) (zCons (xVar 4) (aNil)))) (aNil))))) (tgN 5) b_law_1) (sFor (iSeq (xLst (zCons (xTup (zCons (xLst (zCons (xC (.int 0)) (aNil))) (aNil))) (zCons (xTup (zCons (xDct false) (aNil))) (zCons (xTup (zCons (xC (.int 0)) (zCons (xLst (zCons (xC (.int 1)) (aNil))) (aNil)))) (zCons (xTup (zCons (xC (.int 0)) (zCons (xDct false) (aNil)))) (zCons (xTup (zCons (xTup (aNil)) (zCons (xC (.int 1)) (aNil)))) (aNil)))))))) (tgN 5) b_law_2)))
abbrev m_law : Z.Env → Os := sSeq (sFor (iEnu (x2 pAdd (xLst (zCons (xC (.int 4)) (aNil))) (xSl (xVar 0) (xNoP) (xP (xC (.int 40)))))) (tgT (tgCons (tgN 1) (tgCons (tgN 2) (tgNil)))) b_law_0) (sRet (xC (.bl true)))
def f_law : List PV → R PV := run 1 7 m_law
theorem e_law : f_law = run 1 7 m_law := rfl
structure Txt (K : PySem.W.Frag) (mg : Str → Option Value) (cl : String → Option Addr) : Prop where
  d__law_numbers : ∃ a fd, Dfn K mg "_law_numbers" s__law_numbers ["_law_cell", "_law_salt", "_law_sizes"] a fd
  d__law_things : ∃ a fd, Dfn K mg "_law_things" s__law_things ["_law_digits", "_law_many"] a fd
  d_is_rising : ∃ a fd, Dfn K mg "is_rising" s_is_rising ["things"] a fd
  d_is_whole : ∃ a fd, Dfn K mg "is_whole" s_is_whole ["thing"] a fd
  d_is_within : ∃ a fd, Dfn K mg "is_within" s_is_within ["thing", "least", "most"] a fd
  d_is_set : ∃ a fd, Dfn K mg "is_set" s_is_set ["many", "thing"] a fd
  d__law_odd : ∃ a fd, Dfn K mg "_law_odd" s__law_odd ["_law_digit", "_law_many"] a fd
  d__law_is_set : ∃ a fd, Dfn K mg "_law_is_set" s__law_is_set ["_law_many", "_law_thing"] a fd
  d_law : ∃ a fd, Dfn K mg "law" s_law ["_law_script"] a fd
  b_all : mg "all" = none
  b_bool : mg "bool" = none
  b_enumerate : mg "enumerate" = none
  b_int : mg "int" = none
  b_isinstance : mg "isinstance" = none
  b_len : mg "len" = none
  b_list : mg "list" = none
  b_max : mg "max" = none
  b_range : mg "range" = none
  b_set : mg "set" = none
  b_sorted : mg "sorted" = none
  b_tuple : mg "tuple" = none
  b_zip : mg "zip" = none
  i_bool : ∀ c C, cl c = some C → ClsI K C ∧ PySem.W.kitOne K (.ref C) (.type "bool") = some false
  i_int : ∀ c C, cl c = some C → ClsI K C ∧ PySem.W.kitOne K (.ref C) (.type "int") = some false
  i_tuple : ∀ c C, cl c = some C → ClsI K C ∧ PySem.W.kitOne K (.ref C) (.type "tuple") = some false
section
variable {P : Program} {w : World} {K : PySem.W.Frag} {mg : Str → Option Value} {base : Heap} {cl : String → Option Addr}
include P w K mg base cl
theorem ok__law_numbers (T : Txt K mg cl) {a : Addr} {fd : FuncData} (D : Dfn K mg "_law_numbers" s__law_numbers ["_law_cell", "_law_salt", "_law_sizes"] a fd) : FnOk P w K mg base CX0 1 a fd ["_law_cell", "_law_salt", "_law_sizes"] (spQ0 K cl f__law_numbers) := by
  refine q_def0 (k := 0) (e__law_numbers) D.fn sc__law_numbers rfl rfl fun cdv A outer s H E hr => ?_
  have hu65 := hu65_of hr
  have hu64 := hr.units
  have hu1 := hu1_of hr
  exact (qs_cons (qs_set (i := 3) sc__law_numbers.nd (q_max2 T.b_max rfl (qa_cons (q_var 0) (qa_cons (q_sub (q_neg q_int) (q_var 0)) qa_nil)))) (qs_cons (qs_set (i := 4) sc__law_numbers.nd (q_var 3)) (qs_cons (qs_set (i := 5) sc__law_numbers.nd (q_lst qz_nil)) (qs_cons (qs_for (body := b__law_numbers_0) .never rfl (qi_range1 T.b_range (qa_cons (q_len T.b_len (qa_cons (q_var 2) qa_nil)) qa_nil) (al_cons al_nil)) (qg_name (i := 6) sc__law_numbers.nd) (qs_one (qs_if (qw_pt (qw_and (qt_cmp (q_ge (q_var 3) (q_pow q_int q_int))) (qw_and1 (qt_cmp (q_gt (q_var 4) q_int))))) (qs_cons (qs_append (i := 5) (qz_cons (q_mod (q_var 4) (q_sub_ix hu1 (q_var 2) (q_var 6))) qz_nil)) (qs_one (qs_set (i := 4) sc__law_numbers.nd (q_div (q_var 4) (q_sub_ix hu1 (q_var 2) (q_var 6)))))) (qs_cons (qs_set (i := 7) sc__law_numbers.nd (q_mod (q_pow (q_add (q_add (q_mod (q_var 3) q_int) (q_mul q_int (q_var 1))) q_int) q_int) q_int)) (qs_cons (qs_set (i := 7) sc__law_numbers.nd (q_mod (q_mul (q_add (q_var 7) (q_mul q_int (q_add (q_var 6) q_int))) (q_add (q_var 6) q_int)) q_int)) (qs_cons (qs_set (i := 7) sc__law_numbers.nd (q_mod (q_mul (q_mod (q_pow (q_var 7) q_int) q_int) q_int) q_int)) (qs_one (qs_append (i := 5) (qz_cons (q_mod (q_div (q_var 7) q_int) (q_sub_ix hu1 (q_var 2) (q_var 6))) qz_nil))))))))) (qs_one (qs_ret (q_var 5)))))))
theorem ok__law_things (T : Txt K mg cl) {a : Addr} {fd : FuncData} (D : Dfn K mg "_law_things" s__law_things ["_law_digits", "_law_many"] a fd) : FnOk P w K mg base CX0 1 a fd ["_law_digits", "_law_many"] (spQ0 K cl f__law_things) := by
  refine q_def0 (k := 0) (e__law_things) D.fn sc__law_things rfl rfl fun cdv A outer s H E hr => ?_
  have hu65 := hu65_of hr
  have hu64 := hr.units
  have hu1 := hu1_of hr
  exact (qs_cons (qs_setLc (i := 2) (own := [("_law_digit", 6)]) rfl sc__law_things.nd (show BlkOk N__law_things (defScope s__law_things) _ _ from ⟨rfl, by decide +kernel, by decide +kernel, by decide +kernel, by decide +kernel⟩) (by decide) rfl (qi_seq (q_slice (q_var 0) (qo_some q_int) (qo_some (q_add q_int (q_sub_ix hu1 (q_var 0) q_int))))) (fun _ _ _ _ _ => (qg_name (i := 6) sc__law_things.nd)) (fun _ _ _ _ _ => qts_nil) (fun _ _ _ _ _ => (q_sub (q_var 6) q_int))) (qs_cons (qs_set (i := 3) sc__law_things.nd (q_lst (qz_cons (q_tuple T.b_tuple (qa_cons (q_var 2) qa_nil)) (qz_cons (q_tuple T.b_tuple (qa_cons (q_sorted T.b_sorted (qa_cons (q_var 2) qa_nil)) qa_nil)) (qz_cons (q_tuple T.b_tuple (qa_cons (q_sortedSet T.b_sorted T.b_set rfl (qa_cons (q_var 2) qa_nil)) qa_nil)) (qz_cons (q_list T.b_list (qa_cons (q_sortedSet T.b_sorted T.b_set rfl (qa_cons (q_var 2) qa_nil)) qa_nil)) qz_nil)))))) (qs_cons (qs_set (i := 4) sc__law_things.nd (q_mod (q_sub_ix hu1 (q_var 0) q_int) (q_add (q_len T.b_len (qa_cons (q_var 2) qa_nil)) q_int))) (qs_cons (qs_set (i := 5) sc__law_things.nd (q_sub_ix hu1 (q_lst (qz_cons q_non (qz_cons q_bl (qz_cons q_str (qz_cons (q_tup (qz_cons q_int qz_nil)) (qz_cons (q_lst (qz_cons q_int qz_nil)) (qz_cons (q_pow q_int q_int) (qz_cons (q_neg q_int) (qz_cons (q_var 1) qz_nil))))))))) (q_sub_ix hu1 (q_var 0) q_int))) (qs_one (qs_ret (q_add (q_var 3) (q_lst (qz_cons (q_tuple T.b_tuple (qa_cons (q_add (q_add (q_slice (q_var 2) qo_none (qo_some (q_var 4))) (q_lst (qz_cons (q_var 5) qz_nil))) (q_slice (q_var 2) (qo_some (q_var 4)) qo_none)) qa_nil)) (qz_cons (q_tupleR T.b_tuple rfl (qr_1 T.b_range (q_var 1))) qz_nil))))))))))
theorem ok_is_rising (T : Txt K mg cl) {a : Addr} {fd : FuncData} (D : Dfn K mg "is_rising" s_is_rising ["things"] a fd) : FnOk P w K mg base CX0 1 a fd ["things"] (spQ0 K cl f_is_rising) := by
  refine q_def0 (k := 0) (e_is_rising) D.fn sc_is_rising rfl rfl fun cdv A outer s H E hr => ?_
  have hu65 := hu65_of hr
  have hu64 := hr.units
  have hu1 := hu1_of hr
  exact (qs_one (qs_ret (q_all T.b_all rfl (qa_cons (q_lc (own := [("one", 1), ("other", 2)]) rfl sc_is_rising.nd (show BlkOk N_is_rising (defScope s_is_rising) _ _ from ⟨rfl, by decide +kernel, by decide +kernel, by decide +kernel, by decide +kernel⟩) (by decide) (qi_zip T.b_zip (qz_cons (q_var 0) (qz_cons (q_slice (q_var 0) (qo_some q_int) qo_none) qz_nil))) (fun _ _ _ _ _ => (qg_tup (n := 2) rfl (qgs_cons (qg_name (i := 1) sc_is_rising.nd) (qgs_cons (qg_name (i := 2) sc_is_rising.nd) qgs_nil)) (tgl_cons (tgl_cons tgl_nil)))) (fun _ _ _ _ _ => qts_nil) (fun _ _ _ _ _ => (q_lt (q_var 1) (q_var 2)))) qa_nil))))
theorem ok_is_whole (T : Txt K mg cl) {a : Addr} {fd : FuncData} (D : Dfn K mg "is_whole" s_is_whole ["thing"] a fd) : FnOk P w K mg base CX0 1 a fd ["thing"] (spQ0 K cl f_is_whole) := by
  refine q_def0 (k := 0) (e_is_whole) D.fn sc_is_whole rfl rfl fun cdv A outer s H E hr => ?_
  have hu65 := hu65_of hr
  have hu64 := hr.units
  have hu1 := hu1_of hr
  exact (qs_one (qs_ret (q_and (q_isi (n := "int") T.i_int T.b_isinstance T.b_int (by decide +kernel) kitT_int (q_var 0)) (q_one (q_not (q_isi (n := "bool") T.i_bool T.b_isinstance T.b_bool (by decide +kernel) kitT_bool (q_var 0)))))))
theorem ok_is_within (T : Txt K mg cl) {a : Addr} {fd : FuncData} (D : Dfn K mg "is_within" s_is_within ["thing", "least", "most"] a fd) : FnOk P w K mg base CX0 2 a fd ["thing", "least", "most"] (spQ0 K cl f_is_within) := by
  obtain ⟨a_is_whole, fd_is_whole, D_is_whole⟩ := T.d_is_whole
  have C_is_whole : FnOk P w K mg base CX0 1 a_is_whole fd_is_whole ["thing"] (spQ0 K cl f_is_whole) := ok_is_whole T D_is_whole
  refine q_def0 (k := 1) (e_is_within) D.fn sc_is_within rfl rfl fun cdv A outer s H E hr => ?_
  have hu65 := hu65_of hr
  have hu64 := hr.units
  have hu1 := hu1_of hr
  have hr_is_whole := hr.mono (show 1 ≤ 1 by decide)
  exact (qs_one (qs_ret (q_and (q_call0 C_is_whole hr_is_whole D_is_whole.mgx D_is_whole.fn.kp D_is_whole.bd (qz_cons (q_var 0) qz_nil)) (q_one (q_lele (q_var 1) (q_var 0) (q_var 2))))))
theorem ok_is_set (T : Txt K mg cl) {a : Addr} {fd : FuncData} (D : Dfn K mg "is_set" s_is_set ["many", "thing"] a fd) : FnOk P w K mg base CX0 3 a fd ["many", "thing"] (spQ0 K cl f_is_set) := by
  obtain ⟨a_is_within, fd_is_within, D_is_within⟩ := T.d_is_within
  have C_is_within : FnOk P w K mg base CX0 2 a_is_within fd_is_within ["thing", "least", "most"] (spQ0 K cl f_is_within) := ok_is_within T D_is_within
  obtain ⟨a_is_rising, fd_is_rising, D_is_rising⟩ := T.d_is_rising
  have C_is_rising : FnOk P w K mg base CX0 1 a_is_rising fd_is_rising ["things"] (spQ0 K cl f_is_rising) := ok_is_rising T D_is_rising
  refine q_def0 (k := 2) (e_is_set) D.fn sc_is_set rfl rfl fun cdv A outer s H E hr => ?_
  have hu65 := hu65_of hr
  have hu64 := hr.units
  have hu1 := hu1_of hr
  have hr_is_within := hr.mono (show 2 ≤ 2 by decide)
  have hr_is_rising := hr.mono (show 1 ≤ 2 by decide)
  exact (qs_cons (qs_if (qw_pt (qw_or (qt_not (qt_val (q_isi (n := "tuple") T.i_tuple T.b_isinstance T.b_tuple (by decide +kernel) kitT_tuple (q_var 1)))) (qw_or1 (qt_not (qt_val (q_all T.b_all rfl (qa_cons (q_lc (own := [("one", 2)]) rfl sc_is_set.nd (show BlkOk N_is_set (defScope s_is_set) _ _ from ⟨rfl, by decide +kernel, by decide +kernel, by decide +kernel, by decide +kernel⟩) (by decide) (qi_seq (q_var 1)) (fun _ _ _ _ _ => (qg_name (i := 2) sc_is_set.nd)) (fun _ _ _ _ _ => qts_nil) (fun _ _ _ _ _ => (q_call0 C_is_within hr_is_within D_is_within.mgx D_is_within.fn.kp D_is_within.bd (qz_cons (q_var 2) (qz_cons q_int (qz_cons (q_sub (q_var 0) q_int) qz_nil)))))) qa_nil))))))) (qs_one (qs_ret q_bl)) qs_nil) (qs_one (qs_ret (q_call0 C_is_rising hr_is_rising D_is_rising.mgx D_is_rising.fn.kp D_is_rising.bd (qz_cons (q_var 1) qz_nil)))))
theorem ok__law_odd (T : Txt K mg cl) {a : Addr} {fd : FuncData} (D : Dfn K mg "_law_odd" s__law_odd ["_law_digit", "_law_many"] a fd) : FnOk P w K mg base CX0 1 a fd ["_law_digit", "_law_many"] (spQ0 K cl f__law_odd) := by
  refine q_def0 (k := 0) (e__law_odd) D.fn sc__law_odd rfl rfl fun cdv A outer s H E hr => ?_
  have hu65 := hu65_of hr
  have hu64 := hr.units
  have hu1 := hu1_of hr
  exact (qs_cons (qs_set (i := 2) sc__law_odd.nd (q_lst (qz_cons q_non (qz_cons (q_lst qz_nil) (qz_cons (q_lst (qz_cons q_int qz_nil)) (qz_cons q_str (qz_cons q_int (qz_cons q_bl (qz_cons (q_tup (qz_cons q_bl qz_nil)) (qz_cons (q_tup (qz_cons (q_var 1) qz_nil)) (qz_cons (q_tup (qz_cons (q_neg q_int) qz_nil)) (qz_cons (q_tup (qz_cons q_int (qz_cons q_int qz_nil))) (qz_cons (q_tup (qz_cons q_int (qz_cons q_int qz_nil))) (qz_cons (q_tup (qz_cons (q_tup (qz_cons q_int qz_nil)) qz_nil)) (qz_cons (q_tup (qz_cons q_str qz_nil)) (qz_cons q_dctK (qz_cons (q_tup (qz_cons q_int (qz_cons q_non qz_nil))) qz_nil))))))))))))))))) (qs_one (qs_ret (q_sub_ix hu1 (q_add (q_var 2) (q_lst (qz_cons (q_lst (qz_cons q_int (qz_cons q_int qz_nil))) (qz_cons (q_tup (qz_cons (q_pow q_int q_int) qz_nil)) qz_nil)))) (q_mod (q_var 0) q_int)))))
theorem ok__law_is_set (T : Txt K mg cl) {a : Addr} {fd : FuncData} (D : Dfn K mg "_law_is_set" s__law_is_set ["_law_many", "_law_thing"] a fd) : FnOk P w K mg base CX0 1 a fd ["_law_many", "_law_thing"] (spQ0 K cl f__law_is_set) := by
  refine q_def0 (k := 0) (e__law_is_set) D.fn sc__law_is_set rfl rfl fun cdv A outer s H E hr => ?_
  have hu65 := hu65_of hr
  have hu64 := hr.units
  have hu1 := hu1_of hr
  exact (qs_cons (qs_if (qt_not (qt_val (q_isi (n := "tuple") T.i_tuple T.b_isinstance T.b_tuple (by decide +kernel) kitT_tuple (q_var 1)))) (qs_one (qs_ret q_bl)) qs_nil) (qs_cons (qs_set (i := 2) sc__law_is_set.nd (q_neg q_int)) (qs_cons (qs_for (body := b__law_is_set_0) .never rfl (qi_seq (q_var 1)) (qg_name (i := 3) sc__law_is_set.nd) (qs_cons (qs_if (qw_pt (qw_or (qt_not (qt_val (q_isi (n := "int") T.i_int T.b_isinstance T.b_int (by decide +kernel) kitT_int (q_var 3)))) (qw_or (qt_val (q_isi (n := "bool") T.i_bool T.b_isinstance T.b_bool (by decide +kernel) kitT_bool (q_var 3))) (qw_or (qt_cmp (q_le (q_var 3) (q_var 2))) (qw_or1 (qt_cmp (q_ge (q_var 3) (q_var 0)))))))) (qs_one (qs_ret q_bl)) qs_nil) (qs_one (qs_set (i := 2) sc__law_is_set.nd (q_var 3))))) (qs_one (qs_ret q_bl)))))
theorem ok_law (T : Txt K mg cl) {a : Addr} {fd : FuncData} (D : Dfn K mg "law" s_law ["_law_script"] a fd) : FnOk P w K mg base CX0 4 a fd ["_law_script"] (spQ0 K cl f_law) := by
  obtain ⟨a__law_numbers, fd__law_numbers, D__law_numbers⟩ := T.d__law_numbers
  have C__law_numbers : FnOk P w K mg base CX0 1 a__law_numbers fd__law_numbers ["_law_cell", "_law_salt", "_law_sizes"] (spQ0 K cl f__law_numbers) := ok__law_numbers T D__law_numbers
  obtain ⟨a__law_things, fd__law_things, D__law_things⟩ := T.d__law_things
  have C__law_things : FnOk P w K mg base CX0 1 a__law_things fd__law_things ["_law_digits", "_law_many"] (spQ0 K cl f__law_things) := ok__law_things T D__law_things
  obtain ⟨a__law_odd, fd__law_odd, D__law_odd⟩ := T.d__law_odd
  have C__law_odd : FnOk P w K mg base CX0 1 a__law_odd fd__law_odd ["_law_digit", "_law_many"] (spQ0 K cl f__law_odd) := ok__law_odd T D__law_odd
  obtain ⟨a_is_set, fd_is_set, D_is_set⟩ := T.d_is_set
  have C_is_set : FnOk P w K mg base CX0 3 a_is_set fd_is_set ["many", "thing"] (spQ0 K cl f_is_set) := ok_is_set T D_is_set
  obtain ⟨a__law_is_set, fd__law_is_set, D__law_is_set⟩ := T.d__law_is_set
  have C__law_is_set : FnOk P w K mg base CX0 1 a__law_is_set fd__law_is_set ["_law_many", "_law_thing"] (spQ0 K cl f__law_is_set) := ok__law_is_set T D__law_is_set
  refine q_def0 (k := 3) (e_law) D.fn sc_law rfl rfl fun cdv A outer s H E hr => ?_
  have hu65 := hu65_of hr
  have hu64 := hr.units
  have hu1 := hu1_of hr
  have hr__law_numbers := hr.mono (show 1 ≤ 3 by decide)
  have hr__law_things := hr.mono (show 1 ≤ 3 by decide)
  have hr__law_odd := hr.mono (show 1 ≤ 3 by decide)
  have hr_is_set := hr.mono (show 3 ≤ 3 by decide)
  have hr__law_is_set := hr.mono (show 1 ≤ 3 by decide)
  exact (qs_cons (qs_for (body := b_law_0) .never rfl (qi_enum T.b_enumerate (q_add (q_lst (qz_cons q_int qz_nil)) (q_slice (q_var 0) qo_none (qo_some q_int)))) (qg_tup (n := 2) rfl (qgs_cons (qg_name (i := 1) sc_law.nd) (qgs_cons (qg_name (i := 2) sc_law.nd) qgs_nil)) (tgl_cons (tgl_cons tgl_nil))) (qs_cons (qs_set (i := 3) sc_law.nd (q_call0 C__law_numbers hr__law_numbers D__law_numbers.mgx D__law_numbers.fn.kp D__law_numbers.bd (qz_cons (q_var 2) (qz_cons (q_add q_int (q_var 1)) (qz_cons (q_lst (qz_cons q_int (qz_cons q_int (qz_cons q_int (qz_cons q_int (qz_cons q_int (qz_cons q_int (qz_cons q_int (qz_cons q_int (qz_cons q_int (qz_cons q_int qz_nil))))))))))) qz_nil))))) (qs_cons (qs_set (i := 4) sc_law.nd (q_sub_ix hu1 (q_var 3) q_int)) (qs_cons (qs_for (body := b_law_1) .never rfl (qi_seq (q_add (q_call0 C__law_things hr__law_things D__law_things.mgx D__law_things.fn.kp D__law_things.bd (qz_cons (q_var 3) (qz_cons (q_var 4) qz_nil))) (q_lst (qz_cons (q_call0 C__law_odd hr__law_odd D__law_odd.mgx D__law_odd.fn.kp D__law_odd.bd (qz_cons (q_sub_ix hu1 (q_var 3) q_int) (qz_cons (q_var 4) qz_nil))) qz_nil)))) (qg_name (i := 5) sc_law.nd) (qs_cons (qs_set (i := 6) sc_law.nd (q_call0 C_is_set hr_is_set D_is_set.mgx D_is_set.fn.kp D_is_set.bd (qz_cons (q_var 4) (qz_cons (q_var 5) qz_nil)))) (qs_one (qs_if (qw_pt (qw_or (qt_not (qt_val (q_isi (n := "bool") T.i_bool T.b_isinstance T.b_bool (by decide +kernel) kitT_bool (q_var 6)))) (qw_or1 (qt_cmp (q_ne hu64 (q_var 6) (q_call0 C__law_is_set hr__law_is_set D__law_is_set.mgx D__law_is_set.fn.kp D__law_is_set.bd (qz_cons (q_var 4) (qz_cons (q_var 5) qz_nil)))))))) (qs_one (qs_ret q_bl)) qs_nil)))) (qs_one (qs_for (body := b_law_2) .never rfl (qi_seq (q_lst (qz_cons (q_tup (qz_cons (q_lst (qz_cons q_int qz_nil)) qz_nil)) (qz_cons (q_tup (qz_cons q_dctK qz_nil)) (qz_cons (q_tup (qz_cons q_int (qz_cons (q_lst (qz_cons q_int qz_nil)) qz_nil))) (qz_cons (q_tup (qz_cons q_int (qz_cons q_dctK qz_nil))) (qz_cons (q_tup (qz_cons (q_tup qz_nil) (qz_cons q_int qz_nil))) qz_nil))))))) (qg_name (i := 5) sc_law.nd) (qs_one (qs_if (qt_cmp (q_notB (q_call0 C_is_set hr_is_set D_is_set.mgx D_is_set.fn.kp D_is_set.bd (qz_cons (q_var 4) (qz_cons (q_var 5) qz_nil))) q_bl)) (qs_one (qs_ret q_bl)) qs_nil)))))))) (qs_one (qs_ret q_bl)))
end
theorem all_mk {l : PySem.W.OpenLaw} {w : World} {K : PySem.W.Frag} {h : Heap} {mg : Str → Option Value} {fa : Addr} (X : K.In h) (G : h.Ns mainGlobals mg) (hfa : mg "law" = some (.ref fa))
    {oc0 kV0 dc0 pm0 cd0 ct0 : Value} {od0 an0 : Option Addr} {sl0 : Array (Option Value)} {f0 : Addr}
    (a0 : PySem.W.nsIn K mainGlobals "_law_numbers" = some (some (.ref f0))) (l0 : K.lookup f0 = some ⟨oc0, od0, .func (PySem.W.fnOf "_law_numbers" "_law_numbers" (defArgs s__law_numbers) (defBody s__law_numbers) (defScope s__law_numbers) .none kV0 dc0 pm0 an0 cd0 ct0), sl0⟩) (c0 : PySem.W.codeIn K cd0 "_law_numbers" = true) (k0 : PySem.W.keepIn K (.ref f0) = true)
    {oc1 kV1 dc1 pm1 cd1 ct1 : Value} {od1 an1 : Option Addr} {sl1 : Array (Option Value)} {f1 : Addr}
    (a1 : PySem.W.nsIn K mainGlobals "_law_things" = some (some (.ref f1))) (l1 : K.lookup f1 = some ⟨oc1, od1, .func (PySem.W.fnOf "_law_things" "_law_things" (defArgs s__law_things) (defBody s__law_things) (defScope s__law_things) .none kV1 dc1 pm1 an1 cd1 ct1), sl1⟩) (c1 : PySem.W.codeIn K cd1 "_law_things" = true) (k1 : PySem.W.keepIn K (.ref f1) = true)
    {oc2 kV2 dc2 pm2 cd2 ct2 : Value} {od2 an2 : Option Addr} {sl2 : Array (Option Value)} {f2 : Addr}
    (a2 : PySem.W.nsIn K mainGlobals "is_rising" = some (some (.ref f2))) (l2 : K.lookup f2 = some ⟨oc2, od2, .func (PySem.W.fnOf "is_rising" "is_rising" (defArgs s_is_rising) (defBody s_is_rising) (defScope s_is_rising) .none kV2 dc2 pm2 an2 cd2 ct2), sl2⟩) (c2 : PySem.W.codeIn K cd2 "is_rising" = true) (k2 : PySem.W.keepIn K (.ref f2) = true)
    {oc3 kV3 dc3 pm3 cd3 ct3 : Value} {od3 an3 : Option Addr} {sl3 : Array (Option Value)} {f3 : Addr}
    (a3 : PySem.W.nsIn K mainGlobals "is_whole" = some (some (.ref f3))) (l3 : K.lookup f3 = some ⟨oc3, od3, .func (PySem.W.fnOf "is_whole" "is_whole" (defArgs s_is_whole) (defBody s_is_whole) (defScope s_is_whole) .none kV3 dc3 pm3 an3 cd3 ct3), sl3⟩) (c3 : PySem.W.codeIn K cd3 "is_whole" = true) (k3 : PySem.W.keepIn K (.ref f3) = true)
    {oc4 kV4 dc4 pm4 cd4 ct4 : Value} {od4 an4 : Option Addr} {sl4 : Array (Option Value)} {f4 : Addr}
    (a4 : PySem.W.nsIn K mainGlobals "is_within" = some (some (.ref f4))) (l4 : K.lookup f4 = some ⟨oc4, od4, .func (PySem.W.fnOf "is_within" "is_within" (defArgs s_is_within) (defBody s_is_within) (defScope s_is_within) .none kV4 dc4 pm4 an4 cd4 ct4), sl4⟩) (c4 : PySem.W.codeIn K cd4 "is_within" = true) (k4 : PySem.W.keepIn K (.ref f4) = true)
    {oc5 kV5 dc5 pm5 cd5 ct5 : Value} {od5 an5 : Option Addr} {sl5 : Array (Option Value)} {f5 : Addr}
    (a5 : PySem.W.nsIn K mainGlobals "is_set" = some (some (.ref f5))) (l5 : K.lookup f5 = some ⟨oc5, od5, .func (PySem.W.fnOf "is_set" "is_set" (defArgs s_is_set) (defBody s_is_set) (defScope s_is_set) .none kV5 dc5 pm5 an5 cd5 ct5), sl5⟩) (c5 : PySem.W.codeIn K cd5 "is_set" = true) (k5 : PySem.W.keepIn K (.ref f5) = true)
    {oc6 kV6 dc6 pm6 cd6 ct6 : Value} {od6 an6 : Option Addr} {sl6 : Array (Option Value)} {f6 : Addr}
    (a6 : PySem.W.nsIn K mainGlobals "_law_odd" = some (some (.ref f6))) (l6 : K.lookup f6 = some ⟨oc6, od6, .func (PySem.W.fnOf "_law_odd" "_law_odd" (defArgs s__law_odd) (defBody s__law_odd) (defScope s__law_odd) .none kV6 dc6 pm6 an6 cd6 ct6), sl6⟩) (c6 : PySem.W.codeIn K cd6 "_law_odd" = true) (k6 : PySem.W.keepIn K (.ref f6) = true)
    {oc7 kV7 dc7 pm7 cd7 ct7 : Value} {od7 an7 : Option Addr} {sl7 : Array (Option Value)} {f7 : Addr}
    (a7 : PySem.W.nsIn K mainGlobals "_law_is_set" = some (some (.ref f7))) (l7 : K.lookup f7 = some ⟨oc7, od7, .func (PySem.W.fnOf "_law_is_set" "_law_is_set" (defArgs s__law_is_set) (defBody s__law_is_set) (defScope s__law_is_set) .none kV7 dc7 pm7 an7 cd7 ct7), sl7⟩) (c7 : PySem.W.codeIn K cd7 "_law_is_set" = true) (k7 : PySem.W.keepIn K (.ref f7) = true)
    {oc8 kV8 dc8 pm8 cd8 ct8 : Value} {od8 an8 : Option Addr} {sl8 : Array (Option Value)} {f8 : Addr}
    (a8 : PySem.W.nsIn K mainGlobals "law" = some (some (.ref f8))) (l8 : K.lookup f8 = some ⟨oc8, od8, .func (PySem.W.fnOf "law" "law" (defArgs s_law) (defBody s_law) (defScope s_law) .none kV8 dc8 pm8 an8 cd8 ct8), sl8⟩) (c8 : PySem.W.codeIn K cd8 "law" = true) (k8 : PySem.W.keepIn K (.ref f8) = true)
    (z_all : PySem.W.nsIn K mainGlobals "all" = some none)
    (z_bool : PySem.W.nsIn K mainGlobals "bool" = some none)
    (z_enumerate : PySem.W.nsIn K mainGlobals "enumerate" = some none)
    (z_int : PySem.W.nsIn K mainGlobals "int" = some none)
    (z_isinstance : PySem.W.nsIn K mainGlobals "isinstance" = some none)
    (z_len : PySem.W.nsIn K mainGlobals "len" = some none)
    (z_list : PySem.W.nsIn K mainGlobals "list" = some none)
    (z_max : PySem.W.nsIn K mainGlobals "max" = some none)
    (z_range : PySem.W.nsIn K mainGlobals "range" = some none)
    (z_set : PySem.W.nsIn K mainGlobals "set" = some none)
    (z_sorted : PySem.W.nsIn K mainGlobals "sorted" = some none)
    (z_tuple : PySem.W.nsIn K mainGlobals "tuple" = some none)
    (z_zip : PySem.W.nsIn K mainGlobals "zip" = some none)
    : ∃ fd : FuncData, (∀ (s : Shared) (v : Value), BindsTo s fd ⟨[v], []⟩ [("_law_script", v)]) ∧ ∀ base : Heap, K.In base → base.Ns mainGlobals mg → FnOk l.prog w K mg base CX0 4 fa fd ["_law_script"] (spQ0 K noCl f_law) := by
  have e := hfa.symm.trans (PySem.W.mg_of X G a8)
  cases e
  have F0 := fun_mk (st := s__law_numbers) l0 c0 k0
  have D0 : Dfn K mg "_law_numbers" s__law_numbers ["_law_cell", "_law_salt", "_law_sizes"] _ _ := ⟨F0, PySem.W.mg_of X G a0, F0.binds (ps := ["_law_cell", "_law_salt", "_law_sizes"]) fun _ _ _ _ _ _ us hl => match us, hl with | [_, _, _], _ => rfl⟩
  have F1 := fun_mk (st := s__law_things) l1 c1 k1
  have D1 : Dfn K mg "_law_things" s__law_things ["_law_digits", "_law_many"] _ _ := ⟨F1, PySem.W.mg_of X G a1, F1.binds (ps := ["_law_digits", "_law_many"]) fun _ _ _ _ _ _ us hl => match us, hl with | [_, _], _ => rfl⟩
  have F2 := fun_mk (st := s_is_rising) l2 c2 k2
  have D2 : Dfn K mg "is_rising" s_is_rising ["things"] _ _ := ⟨F2, PySem.W.mg_of X G a2, F2.binds (ps := ["things"]) fun _ _ _ _ _ _ us hl => match us, hl with | [_], _ => rfl⟩
  have F3 := fun_mk (st := s_is_whole) l3 c3 k3
  have D3 : Dfn K mg "is_whole" s_is_whole ["thing"] _ _ := ⟨F3, PySem.W.mg_of X G a3, F3.binds (ps := ["thing"]) fun _ _ _ _ _ _ us hl => match us, hl with | [_], _ => rfl⟩
  have F4 := fun_mk (st := s_is_within) l4 c4 k4
  have D4 : Dfn K mg "is_within" s_is_within ["thing", "least", "most"] _ _ := ⟨F4, PySem.W.mg_of X G a4, F4.binds (ps := ["thing", "least", "most"]) fun _ _ _ _ _ _ us hl => match us, hl with | [_, _, _], _ => rfl⟩
  have F5 := fun_mk (st := s_is_set) l5 c5 k5
  have D5 : Dfn K mg "is_set" s_is_set ["many", "thing"] _ _ := ⟨F5, PySem.W.mg_of X G a5, F5.binds (ps := ["many", "thing"]) fun _ _ _ _ _ _ us hl => match us, hl with | [_, _], _ => rfl⟩
  have F6 := fun_mk (st := s__law_odd) l6 c6 k6
  have D6 : Dfn K mg "_law_odd" s__law_odd ["_law_digit", "_law_many"] _ _ := ⟨F6, PySem.W.mg_of X G a6, F6.binds (ps := ["_law_digit", "_law_many"]) fun _ _ _ _ _ _ us hl => match us, hl with | [_, _], _ => rfl⟩
  have F7 := fun_mk (st := s__law_is_set) l7 c7 k7
  have D7 : Dfn K mg "_law_is_set" s__law_is_set ["_law_many", "_law_thing"] _ _ := ⟨F7, PySem.W.mg_of X G a7, F7.binds (ps := ["_law_many", "_law_thing"]) fun _ _ _ _ _ _ us hl => match us, hl with | [_, _], _ => rfl⟩
  have F8 := fun_mk (st := s_law) l8 c8 k8
  have D8 : Dfn K mg "law" s_law ["_law_script"] _ _ := ⟨F8, PySem.W.mg_of X G a8, F8.binds (ps := ["_law_script"]) fun _ _ _ _ _ _ us hl => match us, hl with | [_], _ => rfl⟩
  have T : Txt K mg noCl := {
    d__law_numbers := ⟨_, _, D0⟩
    d__law_things := ⟨_, _, D1⟩
    d_is_rising := ⟨_, _, D2⟩
    d_is_whole := ⟨_, _, D3⟩
    d_is_within := ⟨_, _, D4⟩
    d_is_set := ⟨_, _, D5⟩
    d__law_odd := ⟨_, _, D6⟩
    d__law_is_set := ⟨_, _, D7⟩
    d_law := ⟨_, _, D8⟩
    b_all := PySem.W.mg_none_of X G z_all
    b_bool := PySem.W.mg_none_of X G z_bool
    b_enumerate := PySem.W.mg_none_of X G z_enumerate
    b_int := PySem.W.mg_none_of X G z_int
    b_isinstance := PySem.W.mg_none_of X G z_isinstance
    b_len := PySem.W.mg_none_of X G z_len
    b_list := PySem.W.mg_none_of X G z_list
    b_max := PySem.W.mg_none_of X G z_max
    b_range := PySem.W.mg_none_of X G z_range
    b_set := PySem.W.mg_none_of X G z_set
    b_sorted := PySem.W.mg_none_of X G z_sorted
    b_tuple := PySem.W.mg_none_of X G z_tuple
    b_zip := PySem.W.mg_none_of X G z_zip
    i_bool := fun _ _ h => by cases h
    i_int := fun _ _ h => by cases h
    i_tuple := fun _ _ h => by cases h
  }
  exact ⟨PySem.W.fnOf "law" "law" (defArgs s_law) (defBody s_law) (defScope s_law) .none kV8 dc8 pm8 an8 cd8 ct8, fun s v => .of_eq rfl, fun base _ _ => ok_law T D8⟩
end K01
end
namespace K01
open PySem L2 Z
def chk (m last : Int) : List PV → Bool
  | [] => true
  | .int i :: r => if i ≤ last ∨ m ≤ i then false else chk m i r
  | _ :: _ => false
theorem lis_loop (m : Int) (t : PV) : ∀ (xs : List PV) (last : Int) (w : Sl),
    (chk m last xs = true → ∃ γ', forL (tgN 3) b__law_is_set_0 xs [.sl .fz (.int m), .sl .fz t, .sl .fz (.int last), w] = .nx γ') ∧
    (chk m last xs = false → ∃ γ', forL (tgN 3) b__law_is_set_0 xs [.sl .fz (.int m), .sl .fz t, .sl .fz (.int last), w] = .rt (.bl false) γ')
  | [], last, w => ⟨fun _ => ⟨_, rfl⟩, fun h => by simp [chk] at h⟩
  | x :: xs, last, w => by
    have nope : ∀ γ', b__law_is_set_0 [.sl .fz (.int m), .sl .fz t, .sl .fz (.int last), .sl .fz x] = .rt (.bl false) γ' → forL (tgN 3) b__law_is_set_0 (x :: xs) [.sl .fz (.int m), .sl .fz t, .sl .fz (.int last), w] = .rt (.bl false) γ' := fun γ' h => by
      rw [forL, a_tgN]
      show (match b__law_is_set_0 [.sl .fz (.int m), .sl .fz t, .sl .fz (.int last), .sl .fz x] with | .nx γ2 => forL (tgN 3) b__law_is_set_0 xs γ2 | .ct γ2 => forL (tgN 3) b__law_is_set_0 xs γ2 | .bk γ2 => .nx γ2 | .rt y γ2 => .rt y γ2 | .er e γ2 => .er e γ2 | .no => .no) = _
      rw [h]
    cases x with
    | int i =>
      by_cases h : i ≤ last ∨ m ≤ i
      · have hb : b__law_is_set_0 [.sl .fz (.int m), .sl .fz t, .sl .fz (.int last), .sl .fz (.int i)] = .rt (.bl false) [.un, .un, .un, .un] := by
          unfold b__law_is_set_0
          by_cases h1 : i ≤ last
          · simp [h1]
          · have h2 : m ≤ i := h.resolve_left h1
            simp [h1, h2]
        refine ⟨fun hc => ?_, fun _ => ⟨_, nope _ hb⟩⟩
        simp [chk, h] at hc
      · have hb : b__law_is_set_0 [.sl .fz (.int m), .sl .fz t, .sl .fz (.int last), .sl .fz (.int i)] = .nx [.sl .fz (.int m), .sl .fz t, .sl .fz (.int i), .sl .fz (.int i)] := by
          unfold b__law_is_set_0
          have h1 : ¬ i ≤ last := fun z => h (.inl z)
          have h2 : ¬ m ≤ i := fun z => h (.inr z)
          simp [h1, h2]
        have e : forL (tgN 3) b__law_is_set_0 (.int i :: xs) [.sl .fz (.int m), .sl .fz t, .sl .fz (.int last), w] = forL (tgN 3) b__law_is_set_0 xs [.sl .fz (.int m), .sl .fz t, .sl .fz (.int i), .sl .fz (.int i)] := by
          rw [forL, a_tgN]
          show (match b__law_is_set_0 [.sl .fz (.int m), .sl .fz t, .sl .fz (.int last), .sl .fz (.int i)] with | .nx γ2 => forL (tgN 3) b__law_is_set_0 xs γ2 | .ct γ2 => forL (tgN 3) b__law_is_set_0 xs γ2 | .bk γ2 => .nx γ2 | .rt y γ2 => .rt y γ2 | .er e γ2 => .er e γ2 | .no => .no) = _
          rw [hb]
        rw [e]
        simp only [chk, h, if_false]
        exact lis_loop m t xs i _
    | _ => exact ⟨fun hc => by simp [chk] at hc, fun _ => ⟨_, nope [.un, .un, .un, .un] (by simp [b__law_is_set_0])⟩⟩
def hd (last : Int) : List Int → Bool
  | [] => true
  | i :: _ => decide (last < i)
theorem hd_cons (last i : Int) (ns : List Int) : hd last (i :: ns) = decide (last < i) := rfl
theorem ris_cons (i : Int) : ∀ ns, ris (i :: ns) = (hd i ns && ris ns)
  | [] => rfl
  | _ :: _ => rfl
theorem chk_eq (m : Int) : ∀ (xs : List PV) (last : Int), -1 ≤ last → chk m last xs = (match intsOf xs with
    | some ns => ns.all (fun i => decide (0 ≤ i) && decide (i ≤ m - 1)) && ris ns && hd last ns
    | none => false)
  | [], _, _ => rfl
  | x :: xs, last, hl => by
    cases x <;> try (simp [chk, intsOf]; done)
    rename_i i
    by_cases h : i ≤ last ∨ m ≤ i
    · simp only [chk, h, if_true, intsOf]
      cases intsOf xs with
      | none => rfl
      | some ns =>
        simp only [Option.map_some, List.all_cons, hd]
        have : ¬ (i ≤ m - 1 ∧ last < i) := by omega
        by_cases h1 : i ≤ m - 1
        · have h2 : ¬ last < i := fun z => this ⟨h1, z⟩
          simp [h2]
        · simp [h1]
    · simp only [chk, h, if_false, intsOf]
      rw [chk_eq m xs i (by omega)]
      cases intsOf xs with
      | none => rfl
      | some ns =>
        have h1 : i ≤ m - 1 := by omega
        have h2 : last < i := by omega
        have h3 : 0 ≤ i := by omega
        simp only [Option.map_some, List.all_cons, ris_cons, hd_cons, h1, h2, h3, decide_true, Bool.true_and, Bool.and_true]
        rw [Bool.and_assoc, Bool.and_comm (ris ns)]
theorem lis_ok (m : Int) (t : PV) : f__law_is_set [.int m, t] = .ok (.bl (isSet m t)) := by
  unfold f__law_is_set
  refine (run_of rfl).trans ?_
  cases t with
  | tup xs =>
    have ec : chk m (-1) xs = isSet m (.tup xs) := by
      rw [chk_eq m xs (-1) (by omega)]
      simp only [isSet]
      cases ei : intsOf xs with
      | none => rfl
      | some ns =>
        simp only
        cases ns with
        | nil => rfl
        | cons i ns =>
          simp only [hd, List.all_cons]
          by_cases h : 0 ≤ i
          · simp [show (-1 : Int) < i by omega]
          · simp [h]
    have l := lis_loop m (.tup xs) xs (-1) .un
    have e1 : frame 4 [.int m, .tup xs] = [.sl .fz (.int m), .sl .fz (.tup xs), .un, .un] := rfl
    unfold m__law_is_set
    rw [e1, sSeq_nx (γ' := [.sl .fz (.int m), .sl .fz (.tup xs), .un, .un]) (by simp), sSeq_nx (γ' := [.sl .fz (.int m), .sl .fz (.tup xs), .sl .fz (.int (-1)), .un]) (by simp)]
    cases eb : chk m (-1) xs with
    | true =>
      obtain ⟨γ', e⟩ := l.1 eb
      rw [← ec, eb, sSeq_nx (sFor_ok (items := xs) (by simp) e)]
      simp
    | false =>
      obtain ⟨γ', e⟩ := l.2 eb
      have e2 := sFor_ok (it := iSeq (xVar 1)) (items := xs) (by simp) e
      rw [← ec, eb, a_sSeq, e2]
      rfl
  | _ => simp [m__law_is_set, isSet]
end K01
namespace K01
open PySem L2 Z
theorem atI_mem {xs : List PV} {i : Int} (h0 : 0 ≤ i) (h : i < xs.length) : ∃ t ∈ xs, L2.atI xs i = some t := by
  obtain ⟨n, rfl⟩ := Int.eq_ofNat_of_zero_le h0
  have hn : n < xs.length := by omega
  exact ⟨xs[n], List.getElem_mem hn, by rw [Z.atI_nat hn, List.getElem?_eq_getElem hn]⟩
theorem odd_ok (d m : Int) : ∃ t, f__law_odd [.int d, .int m] = .ok t ∧ small t := by
  have h0 : 0 ≤ d % 17 := Int.emod_nonneg _ (by decide)
  have h1 : d % 17 < 17 := Int.emod_lt_of_pos _ (by decide)
  let xs : List PV := [.non, .lst [], .lst [.int 0], .str "", .int 0, .bl true, .tup [.bl true], .tup [.int m], .tup [.int (-1)], .tup [.int 1, .int 0], .tup [.int 0, .int 0], .tup [.tup [.int 0]], .tup [.str "0"], .dct false [], .tup [.int 0, .non], .lst [.int 0, .int 1], .tup [.int 1000000000000000000000000000000]]
  obtain ⟨t, ht, e⟩ := atI_mem (xs := xs) h0 h1
  refine ⟨t, ?_, ?_⟩
  · unfold f__law_odd m__law_odd
    simp [cPow, pIx, xs] at e ⊢
    rw [e]
    simp
  · simp only [xs, List.mem_cons, List.not_mem_nil, or_false] at ht
    rcases ht with rfl | rfl | rfl | rfl | rfl | rfl | rfl | rfl | rfl | rfl | rfl | rfl | rfl | rfl | rfl | rfl | rfl <;> simp [small]

theorem dedup_lt {so : List Int} (h : so.length ≤ 5) : (dedup so).length < 64 := by have := dedup_len_le so; omega
theorem things_ok {d0 d1 d2 d3 d4 d5 d6 d7 d8 d9 : Int} (h0 : 0 ≤ d0 ∧ d0 < 17) (h1 : 0 ≤ d1 ∧ d1 < 6) (h2 : 0 ≤ d2 ∧ d2 < 6) (h8 : 0 ≤ d8 ∧ d8 < 8) :
    ∃ ts, f__law_things [.lst [.int d0, .int d1, .int d2, .int d3, .int d4, .int d5, .int d6, .int d7, .int d8, .int d9], .int d0] = .ok (.lst ts) ∧ (∀ t ∈ ts, small t) ∧ ts.length ≤ 10 := by
  obtain ⟨n1, rfl⟩ := Int.eq_ofNat_of_zero_le h1.1
  have hn1 : n1 < 6 := by omega
  generalize hds : ([.int d0, .int n1, .int d2, .int d3, .int d4, .int d5, .int d6, .int d7, .int d8, .int d9] : List PV) = ds
  -- the numbers
  have hso : ∃ so : List Int, (pcut ds (some 3) (some (3 + (n1 : Int)))).map (fun x => match x with | .int i => PV.int (i - 1) | x => x) = so.map PV.int ∧ so.length ≤ 5 ∧ ∀ x ∈ pcut ds (some 3) (some (3 + (n1 : Int))), ∃ i, x = .int i := by
    have e : pcut ds (some 3) (some (3 + (n1 : Int))) = (([d3, d4, d5, d6, d7, d8, d9] : List Int).take n1).map PV.int := by
      have := pcut_mid (xs := ds) (k := 3) (n := n1)
      rw [show ((3 + n1 : Nat) : Int) = 3 + (n1 : Int) by omega] at this
      rw [show ((3 : Nat) : Int) = 3 from rfl] at this
      rw [this, ← hds, List.map_take]
      rfl
    rw [e]
    refine ⟨(([d3, d4, d5, d6, d7, d8, d9] : List Int).take n1).map (· - 1), by simp, by simp; omega, fun x hx => ?_⟩
    obtain ⟨i, _, rfl⟩ := List.mem_map.mp hx
    exact ⟨i, rfl⟩
  obtain ⟨so, e1, hl, hall⟩ := hso
  have hat : ∀ (k : Nat) (v : Int), ds[k]? = some (.int v) → k < 10 → L2.atI ds (k : Int) = some (.int v) := fun k v h hk => by
    rw [Z.atI_nat (by rw [← hds]; simpa using hk)]; exact h
  have a1 : L2.atI ds 1 = some (.int n1) := hat 1 n1 (by rw [← hds]; rfl) (by decide)
  have a2 : L2.atI ds 2 = some (.int d2) := hat 2 d2 (by rw [← hds]; rfl) (by decide)
  have a8 : L2.atI ds 8 = some (.int d8) := hat 8 d8 (by rw [← hds]; rfl) (by decide)
  have s1 : sSet 2 (xLc (iSeq (xSl (xVar 0) (xP (xC (.int 3))) (xP (x2 pAdd (xC (.int 3)) (x2 pIx (xVar 0) (xC (.int 1))))))) (tgN 6) (tYesF) (x2 pSub (xVar 6) (xC (.int 1))) [6]) (frame 7 [.lst ds, .int d0]) = .nx [.sl .fz (.lst ds), .sl .fz (.int d0), .sl .ow (.lst (so.map PV.int)), .un, .un, .un, .un] := by
    have : xLc (iSeq (xSl (xVar 0) (xP (xC (.int 3))) (xP (x2 pAdd (xC (.int 3)) (x2 pIx (xVar 0) (xC (.int 1))))))) (tgN 6) (tYesF) (x2 pSub (xVar 6) (xC (.int 1))) [6] [.sl .fz (.lst ds), .sl .fz (.int d0), .un, .un, .un, .un, .un] = .ok (.fr .ow (.lst (so.map PV.int))) := by
      rw [← e1]
      refine xLc_map _ (by simp [pIx, a1]) ?_ fun x hx => ?_
      · have := congrArg List.length e1
        simp at this
        omega
      · obtain ⟨i, rfl⟩ := hall x hx
        simp [wipeE]
    rw [show frame 7 [.lst ds, .int d0] = [.sl .fz (.lst ds), .sl .fz (.int d0), .un, .un, .un, .un, .un] from rfl, a_sSet, this]
    rfl
  have hd := dedup_lt hl
  let fs : List PV := [.tup (so.map .int), .tup ((isort so).map .int), .tup ((sdd so).map .int), .lst ((sdd so).map .int)]
  have s2 : sSet 3 (xLst (zCons (xB pTup (aCons (xVar 2) (aNil))) (zCons (xB pTup (aCons (xB pSrt (aCons (xVar 2) (aNil))) (aNil))) (zCons (xB pTup (aCons (xB pSrtSet (aCons (xVar 2) (aNil))) (aNil))) (zCons (xB pLst (aCons (xB pSrtSet (aCons (xVar 2) (aNil))) (aNil))) (aNil)))))) [.sl .fz (.lst ds), .sl .fz (.int d0), .sl .ow (.lst (so.map PV.int)), .un, .un, .un, .un] =
      .nx [.sl .fz (.lst ds), .sl .fz (.int d0), .sl .ow (.lst (so.map PV.int)), .sl .ow (.lst fs), .un, .un, .un] := by
    have h4 : so.length < 4000 := by omega
    simp [pTup, pSrt, pSrtSet, pSetInts, pLst, hd, h4, fs]
  obtain ⟨o, ho, eo⟩ := atI_mem (xs := [.non, .bl true, .str "1", .tup [.int 1], .lst [.int 1], .int 10000000000000000000000000000000000000000, .int (-1), .int d0]) (i := d8) h8.1 h8.2
  generalize hat2 : d2 % ((so.length : Int) + 1) = at2
  have hat3 : 0 ≤ at2 := by rw [← hat2]; exact Int.emod_nonneg _ (by omega)
  have s3 : sSet 4 (x2 pMod (x2 pIx (xVar 0) (xC (.int 2))) (x2 pAdd (xB pLen (aCons (xVar 2) (aNil))) (xC (.int 1)))) [.sl .fz (.lst ds), .sl .fz (.int d0), .sl .ow (.lst (so.map PV.int)), .sl .ow (.lst fs), .un, .un, .un] = .nx [.sl .fz (.lst ds), .sl .fz (.int d0), .sl .ow (.lst (so.map PV.int)), .sl .ow (.lst fs), .sl .fz (.int at2), .un, .un] := by
    have : (0 : Int) < (so.length : Int) + 1 := by omega
    simp [pIx, a2, this, hat2]
  have s4 : sSet 5 (x2 pIx (xLst (zCons (xC .non) (zCons (xC (.bl true)) (zCons (xC (.str "1")) (zCons (xTup (zCons (xC (.int 1)) (aNil))) (zCons (xLst (zCons (xC (.int 1)) (aNil))) (zCons (x2 pPow (xC (.int 10)) (xC (.int 40))) (zCons (x1 pNeg (xC (.int 1))) (zCons (xVar 1) (aNil)))))))))) (x2 pIx (xVar 0) (xC (.int 8)))) [.sl .fz (.lst ds), .sl .fz (.int d0), .sl .ow (.lst (so.map PV.int)), .sl .ow (.lst fs), .sl .fz (.int at2), .un, .un] =
      .nx [.sl .fz (.lst ds), .sl .fz (.int d0), .sl .ow (.lst (so.map PV.int)), .sl .ow (.lst fs), .sl .fz (.int at2), .sl .fz o, .un] := by
    simp [pIx, a8, cPow, eo]
  have hc : cRg 0 d0 = true := by
    simp [cRg, cRng]
    omega
  obtain ⟨k, rfl⟩ := Int.eq_ofNat_of_zero_le hat3
  refine ⟨fs ++ [.tup ((so.map PV.int).take k ++ [o] ++ (so.map PV.int).drop k), .tup (rngL 0 d0.toNat)], ?_, ?_, by simp [fs]⟩
  · unfold f__law_things
    refine (run_of rfl).trans ?_
    unfold m__law_things
    rw [sSeq_nx s1, sSeq_nx s2, sSeq_nx s3, sSeq_nx s4]
    have c1 : min k so.length + 1 ≤ 16777216 := by omega
    have c2 : min k so.length + 1 + (so.length - k) ≤ 16777216 := by omega
    simp [pTup, pcut_to, pcut_from, xTupR, Z.r1, hc, fs, c1, c2]
  · intro t ht
    simp only [fs, List.cons_append, List.nil_append, List.mem_cons, List.not_mem_nil, or_false] at ht
    have l2 : (isort so).length = so.length := (isort_perm so).length_eq
    have l3 := sdd_len so
    rcases ht with rfl | rfl | rfl | rfl | rfl | rfl <;> simp [small] <;> omega
end K01
namespace K01
open PySem L2 Z
theorem is_set_eq : f_is_set = setF := rfl
theorem nums_eq : f__law_numbers = numF := rfl
theorem turn1 (m : Int) (t : PV) (h : small t) (w0 w1 w2 w3 w6 : Sl) : ∃ w6', b_law_1 [w0, w1, w2, w3, .sl .fz (.int m), .sl .fz t, w6] = .nx [w0, w1, w2, w3, .sl .fz (.int m), .sl .fz t, w6'] := by
  refine ⟨.sl .fz (.bl (isSet m t)), ?_⟩
  unfold b_law_1
  rw [is_set_eq]
  simp [set_ok m t h, lis_ok, pNe, isD, peq]
theorem turn2 (m : Int) (t : PV) (h : small t) (hf : isSet m t = false) (w0 w1 w2 w3 w6 : Sl) : b_law_2 [w0, w1, w2, w3, .sl .fz (.int m), .sl .fz t, w6] = .nx [w0, w1, w2, w3, .sl .fz (.int m), .sl .fz t, w6] := by
  unfold b_law_2
  rw [is_set_eq]
  simp [set_ok m t h, hf, pNotB]

theorem turn0 (k : Nat) (hk : k ≤ 1000) (c : Int) (w0 w3 w4 w5 w6 : Sl) : ∃ w3' w4' w5' w6', b_law_0 [w0, .sl .fz (.int k), .sl .fz (.int c), w3, w4, w5, w6] = .nx [w0, .sl .fz (.int k), .sl .fz (.int c), w3', w4', w5', w6'] := by
  obtain ⟨ds, e0, hB⟩ := nums_ok c (100 + k) [17, 6, 6, 18, 18, 18, 18, 18, 8, 17] (by omega) (by intro z hz; simp at hz; omega) (by decide)
  obtain ⟨d0, d1, d2, d3, d4, d5, d6, d7, d8, d9, rfl⟩ : ∃ d0 d1 d2 d3 d4 d5 d6 d7 d8 d9, ds = [d0, d1, d2, d3, d4, d5, d6, d7, d8, d9] := by
    match ds, hB.length with
    | [d0, d1, d2, d3, d4, d5, d6, d7, d8, d9], _ => exact ⟨_, _, _, _, _, _, _, _, _, _, rfl⟩
  obtain ⟨h0, h1, h2, h3, h4, h5, h6, h7, h8, h9, _⟩ := hB
  obtain ⟨ts, et, hts, htl⟩ := things_ok (d3 := d3) (d4 := d4) (d5 := d5) (d6 := d6) (d7 := d7) (d9 := d9) h0 h1 h2 h8
  obtain ⟨o, eo, ho⟩ := odd_ok d9 d0
  generalize hdd : [PV.int d0, .int d1, .int d2, .int d3, .int d4, .int d5, .int d6, .int d7, .int d8, .int d9] = dl at et
  have hdl : ([d0, d1, d2, d3, d4, d5, d6, d7, d8, d9] : List Int).map PV.int = dl := hdd
  rw [hdl] at e0
  have a0 : L2.atI dl 0 = some (.int d0) := by rw [← hdd]; rfl
  have a9 : L2.atI dl 9 = some (.int d9) := by rw [← hdd]; rfl
  -- the first loop
  obtain ⟨γ1, f1, w5', w6', rfl⟩ := forL_inv (tg := tgN 5) (body := b_law_1) (fun _ γ => ∃ w5 w6, γ = [w0, .sl .fz (.int k), .sl .fz (.int c), .sl .fz (.lst dl), .sl .fz (.int d0), w5, w6]) (ts ++ [o]) 0 [w0, .sl .fz (.int k), .sl .fz (.int c), .sl .fz (.lst dl), .sl .fz (.int d0), w5, w6] ⟨_, _, rfl⟩ (by
    rintro i t γ ht ⟨w5, w6, rfl⟩
    have hs : small t := by
      rcases List.mem_append.mp (List.mem_of_getElem? ht) with z | z
      · exact hts t z
      · rw [List.mem_singleton.mp z]; exact ho
    obtain ⟨w6', e⟩ := turn1 d0 t hs w0 (.sl .fz (.int k)) (.sl .fz (.int c)) (.sl .fz (.lst dl)) w6
    exact ⟨_, _, rfl, .inl e, _, _, rfl⟩)
  let us : List PV := [.tup [.lst [.int 0]], .tup [.dct false []], .tup [.int 0, .lst [.int 1]], .tup [.int 0, .dct false []], .tup [.tup [], .int 1]]
  obtain ⟨γ2, f2, w5'', w6'', rfl⟩ := forL_inv (tg := tgN 5) (body := b_law_2) (fun _ γ => ∃ w5 w6, γ = [w0, .sl .fz (.int k), .sl .fz (.int c), .sl .fz (.lst dl), .sl .fz (.int d0), w5, w6]) us 0 [w0, .sl .fz (.int k), .sl .fz (.int c), .sl .fz (.lst dl), .sl .fz (.int d0), w5', w6'] ⟨_, _, rfl⟩ (by
    rintro i t γ ht ⟨w5, w6, rfl⟩
    have hs : small t ∧ isSet d0 t = false := by
      have hm := List.mem_of_getElem? ht
      simp only [us, List.mem_cons, List.not_mem_nil, or_false] at hm
      rcases hm with rfl | rfl | rfl | rfl | rfl <;> simp [small, isSet, intsOf]
    exact ⟨_, _, rfl, .inl (turn2 d0 t hs.1 hs.2 w0 (.sl .fz (.int k)) (.sl .fz (.int c)) (.sl .fz (.lst dl)) w6), _, _, rfl⟩)
  refine ⟨.sl .fz (.lst dl), .sl .fz (.int d0), w5'', w6'', ?_⟩
  unfold b_law_0
  rw [nums_eq]
  have e0' : numF [.int c, .int (100 + (k : Int)), .lst [.int 17, .int 6, .int 6, .int 18, .int 18, .int 18, .int 18, .int 18, .int 8, .int 17]] = .ok (.lst dl) := e0
  rw [sSeq_nx (γ' := [w0, .sl .fz (.int k), .sl .fz (.int c), .sl .fz (.lst dl), w4, w5, w6]) (by simp [e0'])]
  rw [sSeq_nx (γ' := [w0, .sl .fz (.int k), .sl .fz (.int c), .sl .fz (.lst dl), .sl .fz (.int d0), w5, w6]) (by simp [pIx, a0])]
  have htl' : ts.length + 1 ≤ 16777216 := by omega
  rw [sSeq_nx (sFor_ok (items := ts ++ [o]) (by simp [pIx, a9, et, eo, htl']) f1)]
  exact sFor_ok (items := us) (by simp [us]) f2
theorem law_true : LawOk f_law 63 := by
  intro ns hl
  let cs : List Int := 4 :: ns.take 40
  have hcs : cs.length ≤ 41 := by simp [cs]; omega
  obtain ⟨γ, f, _⟩ := forL_inv (tg := tgT (tgCons (tgN 1) (tgCons (tgN 2) (tgNil)))) (body := b_law_0) (fun _ γ => ∃ w1 w2 w3 w4 w5 w6, γ = [.sl .fz (.lst (ns.map .int)), w1, w2, w3, w4, w5, w6]) (enumL 0 (cs.map .int)) 0 [.sl .fz (.lst (ns.map .int)), .un, .un, .un, .un, .un, .un] ⟨_, _, _, _, _, _, rfl⟩ (by
    rintro i x γ hx ⟨w1, w2, w3, w4, w5, w6, rfl⟩
    rw [enumL_get, List.getElem?_map] at hx
    cases e : cs[i]? with
    | none => rw [e] at hx; cases hx
    | some c =>
      rw [e] at hx
      have hi : i < cs.length := (List.getElem?_eq_some_iff.mp e).1
      simp at hx
      subst hx
      obtain ⟨w3', w4', w5', w6', e2⟩ := turn0 i (by omega) c (.sl .fz (.lst (ns.map .int))) w3 w4 w5 w6
      exact ⟨_, _, rfl, .inl e2, _, _, _, _, _, _, rfl⟩)
  unfold f_law
  refine (run_of rfl).trans ?_
  unfold m_law
  have e1 : iEnu (x2 pAdd (xLst (zCons (xC (.int 4)) (aNil))) (xSl (xVar 0) (xNoP) (xP (xC (.int 40))))) (frame 7 [.lst (ns.map .int)]) = .ok (enumL 0 (cs.map .int)) := by
    have hp : pcut (ns.map PV.int) none (some 40) = (ns.take 40).map PV.int := by
      have := pcut_to (xs := ns.map PV.int) (k := 40)
      rw [show ((40 : Nat) : Int) = 40 from rfl] at this
      rw [this, List.map_take]
    have hz : 1 + min 40 ns.length ≤ 16777216 := by omega
    simp [iEnu, hp, cs, hz]
  rw [sSeq_nx (sFor_ok e1 f)]
  simp
end K01
open PySem PySem.W PyProof.Rows in
set_option maxRecDepth 100000 in
set_option maxHeartbeats 0 in
theorem PySem.Challenge.cw_twofree_k01_sets_holds : PySem.Challenge.rw_twofree_k01_sets.Holds := by
  w_on; o_law; k_head; (case hw => w_witness2)
  k_fill
  refine Z.walk0 (l := PySem.Challenge.rw_twofree_k01_sets) (n := 63) (k := 4) (x := "_law_script") (f := K01.f_law) (cl := fun _ => Z.noCl) rfl (by decide) rfl ⟨rfl, by decide, by decide⟩ (fun w h Y => PySem.W.kIn_of Y) (fun w => ?nl) ?F K01.law_true
  case nl => exact rfl
  case F =>
    intro w mg fa h KX G hmg
    refine' K01.all_mk KX G hmg ?a0 ?l0 ?c0 ?k0 ?a1 ?l1 ?c1 ?k1 ?a2 ?l2 ?c2 ?k2 ?a3 ?l3 ?c3 ?k3 ?a4 ?l4 ?c4 ?k4 ?a5 ?l5 ?c5 ?k5 ?a6 ?l6 ?c6 ?k6 ?a7 ?l7 ?c7 ?k7 ?a8 ?l8 ?c8 ?k8 ?z_all ?z_bool ?z_enumerate ?z_int ?z_isinstance ?z_len ?z_list ?z_max ?z_range ?z_set ?z_sorted ?z_tuple ?z_zip
    (case a0 => k_is)
    (case l0 => k_is)
    (case c0 => k_is)
    (case k0 => k_is)
    (case a1 => k_is)
    (case l1 => k_is)
    (case c1 => k_is)
    (case k1 => k_is)
    (case a2 => k_is)
    (case l2 => k_is)
    (case c2 => k_is)
    (case k2 => k_is)
    (case a3 => k_is)
    (case l3 => k_is)
    (case c3 => k_is)
    (case k3 => k_is)
    (case a4 => k_is)
    (case l4 => k_is)
    (case c4 => k_is)
    (case k4 => k_is)
    (case a5 => k_is)
    (case l5 => k_is)
    (case c5 => k_is)
    (case k5 => k_is)
    (case a6 => k_is)
    (case l6 => k_is)
    (case c6 => k_is)
    (case k6 => k_is)
    (case a7 => k_is)
    (case l7 => k_is)
    (case c7 => k_is)
    (case k7 => k_is)
    (case a8 => k_is)
    (case l8 => k_is)
    (case c8 => k_is)
    (case k8 => k_is)
    (case z_all => k_is)
    (case z_bool => k_is)
    (case z_enumerate => k_is)
    (case z_int => k_is)
    (case z_isinstance => k_is)
    (case z_len => k_is)
    (case z_list => k_is)
    (case z_max => k_is)
    (case z_range => k_is)
    (case z_set => k_is)
    (case z_sorted => k_is)
    (case z_tuple => k_is)
    (case z_zip => k_is)
#print axioms PySem.Challenge.cw_twofree_k01_sets_holds
