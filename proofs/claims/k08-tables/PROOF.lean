import PyProof.Rows.All
import HandS.ForMost
import HandS.ForExc
import HandS.IsInst
import HandS.Flow
import HandS.Wide
import HandS.Deep
import HandS.Style
import HandS.SortInts
import HandS.Zip
import HandS.ExcIs
import HandS.ExcField
import HandS.WordsDict
import HandS.SetFor
import HandS.Strs
import HandS.More
import HandS.ExcOwn
import PyProof.TupleOfSeq
import HandS.Conv
import HandS.Small
import HandS.Ends
import HandS.Words
import HandS.WordsExc
import HandS.TupMul
import HandS.MakeKwOnly
import HandS.Defaults
import HandS.ClsMeth
import HandS.Iter
import PyProof.ReprRoads
import PyProof.FactsAll.dict_1
import PyProof.EqKinds
import PyProof.Rows.StrJoinMade
import HandS.ExcInit
import KE.KExcInit
import KE.KExcLine
import KE.RegKIsAll
import KE.RegKTryMore
import HandS.OwnEq
import HandS.SlotsOwn
import PySem.Challenge.RW_twofree_k08_tables_made_or_not
set_option Elab.async false
set_option linter.all false
set_option maxRecDepth 100000
/-! the pure layer, part A: values without a heap, how they lie in a heap -/
namespace Z
open PySem L2

inductive PV where
  | non | bl (b : Bool) | int (i : Int) | str (x : Str)
  | tup (xs : List PV) | lst (xs : List PV) | dct (t : Bool) (kvs : List (PV × PV)) | set (xs : List PV)
  | obj (c : String) (fs : List (String × PV)) | exc (c : String) (fs : List (String × PV))

/-- the written part, and where each class of the text stands -/
structure Cl where
  i : String → Option Addr
  e : String → Option Addr
  /-- the value that a slot .me holds -/
  r0 : V
structure Tb where
  K : PySem.W.Frag
  cl : Cl

def kP : Key → PV
  | .inl i => .int i
  | .inr x => .str x

/-- a dict at a: its pairs, the keys as pure values -/
def DctAt (F : Hp) (a : Addr) : Bool → List (PV × V) → Prop
  | false, ks => ∃ es : List (Key × V), Rd F a (.dK es) ∧ ks = es.map fun p => (kP p.1, p.2)
  | true, ks => ∃ es : List (List Key × V), F a = some (.dT es) ∧ ks = es.map fun p => (.tup (p.1.map kP), p.2)
/-- .. not locked -/
def DctO (F : Hp) (a : Addr) : Bool → List (PV × V) → Prop
  | false, ks => ∃ es : List (Key × V), F a = some (.dK es) ∧ ks = es.map fun p => (kP p.1, p.2)
  | true, ks => ∃ es : List (List Key × V), F a = some (.dT es) ∧ ks = es.map fun p => (.tup (p.1.map kP), p.2)
theorem DctO.at {F : Hp} {a : Addr} {t ks} (h : DctO F a t ks) : DctAt F a t ks := by
  cases t <;> obtain ⟨es, h, r⟩ := h
  · exact ⟨es, .inl h, r⟩
  · exact ⟨es, h, r⟩
/-- a set of ints at a -/
def SetAt (F : Hp) (a : Addr) (xs : List PV) : Prop :=
  ∃ (ns : List Int) (S : Int → Bool), xs = ns.map PV.int ∧ ns.Nodup ∧ F a = some (.set S ns.length) ∧ ∀ i, S i = true ↔ i ∈ ns

/-- an exception of the class at C, its dict d -/
def ExV (a C : Addr) (d : Option Addr) : HO := .ext fun h => ∃ (oe : Obj) (vs : Array Value), h.get? a = some oe ∧ Zc (.ref C) d oe ∧ oe.data = .fields vs
/-- .. its attributes -/
def ExD (F : Hp) (d : Option Addr) (vs : List (Str × V)) : Prop := (d = none ∧ vs = []) ∨ ∃ dx, d = some dx ∧ F dx = some (.xd vs)
theorem ExD.mono {F F' : Hp} {d vs} (e : ∀ a o, F a = some o → F' a = some o) (h : ExD F d vs) : ExD F' d vs := h.elim .inl fun ⟨dx, p, q⟩ => .inr ⟨dx, p, e _ _ q⟩
mutual
def Rp (T : Tb) (F : Hp) : PV → V → Prop
  | .non, v => v = .non
  | .bl b, v => v = .bl b
  | .int i, v => v = .int i
  | .str x, v => v = .str x
  | .tup xs, v => ∃ a vs, v = .ref a ∧ F a = some (.tup vs) ∧ RpL T F xs vs
  | .lst xs, v => ∃ a vs, v = .ref a ∧ Rd F a (.lst vs) ∧ RpL T F xs vs
  | .dct t kvs, v => ∃ a ks, v = .ref a ∧ DctAt F a t ks ∧ RpD T F kvs ks
  | .set xs, v => ∃ a, v = .ref a ∧ SetAt F a xs
  | .obj c fs, v => ∃ a C dx vs, v = .ref a ∧ T.cl.i c = some C ∧ F a = some (.ins C dx vs) ∧ RpF T F fs vs
  | .exc c fs, v => ∃ a C d vs, v = .ref a ∧ T.cl.e c = some C ∧ F a = some (ExV a C d) ∧ ExD F d vs ∧ RpF T F fs vs
def RpL (T : Tb) (F : Hp) : List PV → List V → Prop
  | [], vs => vs = []
  | x :: xs, vs => ∃ v ws, vs = v :: ws ∧ Rp T F x v ∧ RpL T F xs ws
def RpD (T : Tb) (F : Hp) : List (PV × PV) → List (PV × V) → Prop
  | [], vs => vs = []
  | (k, x) :: xs, vs => ∃ v ws, vs = (k, v) :: ws ∧ Rp T F x v ∧ RpD T F xs ws
def RpF (T : Tb) (F : Hp) : List (String × PV) → List (Str × V) → Prop
  | [], vs => vs = []
  | (f, x) :: xs, vs => ∃ v ws, vs = (Str.ofString f, v) :: ws ∧ Rp T F x v ∧ RpF T F xs ws
end

theorem rd_mono {F F' : Hp} {a : Addr} {u : HO} (e : Same F F') (h : Rd F a u) : Rd F' a u := by
  rcases h with h | ⟨o, h⟩
  · exact .inl (e _ _ h)
  · exact .inr ⟨o, e _ _ h⟩
theorem seqL_mono {K : PySem.W.Frag} {F F' : Hp} {a : Addr} {vs : List V} (e : Same F F') (h : SqL K F a vs) : SqL K F' a vs := e.seq h
theorem seqT_mono {K : PySem.W.Frag} {F F' : Hp} {a : Addr} {vs : List V} (e : Same F F') (h : SqT K F a vs) : SqT K F' a vs := by
  rcases h with (h | ⟨o, h⟩) | h
  · exact .inl (.inl (e _ _ h))
  · exact .inl (.inr ⟨o, e _ _ h⟩)
  · exact .inr h
theorem DctAt.mono {F F' : Hp} {a : Addr} {t ks} (e : ∀ o, F a = some o → F' a = some o) (h : DctAt F a t ks) : DctAt F' a t ks := by
  cases t <;> obtain ⟨es, h, r⟩ := h
  · exact ⟨es, h.elim (fun h => .inl (e _ h)) (fun ⟨o, h⟩ => .inr ⟨o, e _ h⟩), r⟩
  · exact ⟨es, e _ h, r⟩
theorem DctO.mono {F F' : Hp} {a : Addr} {t ks} (e : ∀ o, F a = some o → F' a = some o) (h : DctO F a t ks) : DctO F' a t ks := by
  cases t <;> obtain ⟨es, h, r⟩ := h <;> exact ⟨es, e _ h, r⟩
theorem SetAt.mono {F F' : Hp} {a : Addr} {xs} (e : ∀ o, F a = some o → F' a = some o) (h : SetAt F a xs) : SetAt F' a xs := by
  obtain ⟨ns, S, r, nd, h, m⟩ := h
  exact ⟨ns, S, r, nd, e _ h, m⟩
mutual
theorem Rp.mono {T : Tb} {F F' : Hp} (e : Same F F') : (x : PV) → (v : V) → Rp T F x v → Rp T F' x v
  | .non, _, h => by simpa [Rp] using h
  | .bl b, _, h => by simpa [Rp] using h
  | .int i, _, h => by simpa [Rp] using h
  | .str x, _, h => by simpa [Rp] using h
  | .tup xs, _, h => by
    simp only [Rp] at h ⊢
    obtain ⟨a, vs, r, s, l⟩ := h
    exact ⟨a, vs, r, e _ _ s, RpL.mono e xs vs l⟩
  | .lst xs, _, h => by
    simp only [Rp] at h ⊢
    obtain ⟨a, vs, r, s, l⟩ := h
    exact ⟨a, vs, r, rd_mono e s, RpL.mono e xs vs l⟩
  | .dct t kvs, _, h => by
    simp only [Rp] at h ⊢
    obtain ⟨a, ks, r, s, l⟩ := h
    exact ⟨a, ks, r, s.mono (e a), RpD.mono e kvs ks l⟩
  | .set xs, _, h => by
    simp only [Rp] at h ⊢
    obtain ⟨a, r, s⟩ := h
    exact ⟨a, r, s.mono (e a)⟩
  | .obj c fs, _, h => by
    simp only [Rp] at h ⊢
    obtain ⟨a, C, dx, vs, r, s, q, l⟩ := h
    exact ⟨a, C, dx, vs, r, s, e _ _ q, RpF.mono e fs vs l⟩
  | .exc c fs, _, h => by
    simp only [Rp] at h ⊢
    obtain ⟨a, C, d, vs, r, s, q, x, l⟩ := h
    exact ⟨a, C, d, vs, r, s, e _ _ q, x.mono e, RpF.mono e fs vs l⟩
theorem RpL.mono {T : Tb} {F F' : Hp} (e : Same F F') : (xs : List PV) → (vs : List V) → RpL T F xs vs → RpL T F' xs vs
  | [], _, h => by simpa [RpL] using h
  | x :: xs, _, h => by
    simp only [RpL] at h ⊢
    obtain ⟨v, ws, r, p, q⟩ := h
    exact ⟨v, ws, r, Rp.mono e x v p, RpL.mono e xs ws q⟩
theorem RpD.mono {T : Tb} {F F' : Hp} (e : Same F F') : (xs : List (PV × PV)) → (vs : List (PV × V)) → RpD T F xs vs → RpD T F' xs vs
  | [], _, h => by simpa [RpD] using h
  | (k, x) :: xs, _, h => by
    simp only [RpD] at h ⊢
    obtain ⟨v, ws, r, p, q⟩ := h
    exact ⟨v, ws, r, Rp.mono e x v p, RpD.mono e xs ws q⟩
theorem RpF.mono {T : Tb} {F F' : Hp} (e : Same F F') : (xs : List (String × PV)) → (vs : List (Str × V)) → RpF T F xs vs → RpF T F' xs vs
  | [], _, h => by simpa [RpF] using h
  | (k, x) :: xs, _, h => by
    simp only [RpF] at h ⊢
    obtain ⟨v, ws, r, p, q⟩ := h
    exact ⟨v, ws, r, Rp.mono e x v p, RpF.mono e xs ws q⟩
end

/-! ### lists of values -/
theorem RpL.length {T : Tb} {F : Hp} : ∀ {xs : List PV} {vs : List V}, RpL T F xs vs → vs.length = xs.length
  | [], _, h => by simp only [RpL] at h; subst h; rfl
  | x :: xs, _, h => by
    simp only [RpL] at h
    obtain ⟨v, ws, rfl, _, q⟩ := h
    simp [RpL.length q]
theorem RpL.nil {T : Tb} {F : Hp} : RpL T F [] [] := by simp [RpL]
theorem RpL.cons {T : Tb} {F : Hp} {x v xs vs} (h : Rp T F x v) (t : RpL T F xs vs) : RpL T F (x :: xs) (v :: vs) := by
  simp only [RpL]; exact ⟨v, vs, rfl, h, t⟩
theorem RpL.uncons {T : Tb} {F : Hp} {x v xs vs} (h : RpL T F (x :: xs) (v :: vs)) : Rp T F x v ∧ RpL T F xs vs := by
  simp only [RpL] at h
  obtain ⟨_, _, e, p, q⟩ := h
  cases e
  exact ⟨p, q⟩
theorem RpL.append {T : Tb} {F : Hp} : ∀ {xs : List PV} {vs : List V} {ys ws}, RpL T F xs vs → RpL T F ys ws → RpL T F (xs ++ ys) (vs ++ ws)
  | [], _, _, _, h, t => by simp only [RpL] at h; subst h; exact t
  | x :: xs, _, _, _, h, t => by
    simp only [RpL] at h
    obtain ⟨v, ws, rfl, p, q⟩ := h
    exact RpL.cons p (RpL.append q t)
theorem RpL.get {T : Tb} {F : Hp} : ∀ {xs : List PV} {vs : List V} {i : Nat} {x}, RpL T F xs vs → xs[i]? = some x → ∃ v, vs[i]? = some v ∧ Rp T F x v
  | [], _, _, _, _, e => by simp at e
  | x :: xs, _, 0, _, h, e => by
    simp only [RpL] at h
    obtain ⟨v, ws, rfl, p, q⟩ := h
    simp at e; subst e
    exact ⟨v, by simp, p⟩
  | x :: xs, _, i + 1, _, h, e => by
    simp only [RpL] at h
    obtain ⟨v, ws, rfl, p, q⟩ := h
    obtain ⟨u, h1, h2⟩ := RpL.get (i := i) q (by simpa using e)
    exact ⟨u, by simpa using h1, h2⟩
theorem RpL.getV {T : Tb} {F : Hp} : ∀ {xs : List PV} {vs : List V} {i : Nat} {v}, RpL T F xs vs → vs[i]? = some v → ∃ x, xs[i]? = some x ∧ Rp T F x v
  | [], _, _, _, h, e => by simp only [RpL] at h; subst h; simp at e
  | x :: xs, _, 0, _, h, e => by
    simp only [RpL] at h
    obtain ⟨v, ws, rfl, p, q⟩ := h
    simp at e; subst e
    exact ⟨x, by simp, p⟩
  | x :: xs, _, i + 1, _, h, e => by
    simp only [RpL] at h
    obtain ⟨v, ws, rfl, p, q⟩ := h
    obtain ⟨u, h1, h2⟩ := RpL.getV (i := i) q (by simpa using e)
    exact ⟨u, by simpa using h1, h2⟩
theorem RpL.take {T : Tb} {F : Hp} : ∀ {xs : List PV} {vs : List V} (n : Nat), RpL T F xs vs → RpL T F (xs.take n) (vs.take n)
  | _, _, 0, _ => by simpa using RpL.nil
  | [], _, n + 1, h => by simp only [RpL] at h; subst h; simpa using RpL.nil
  | x :: xs, _, n + 1, h => by
    simp only [RpL] at h
    obtain ⟨v, ws, rfl, p, q⟩ := h
    exact RpL.cons p (RpL.take n q)
theorem RpL.drop {T : Tb} {F : Hp} : ∀ {xs : List PV} {vs : List V} (n : Nat), RpL T F xs vs → RpL T F (xs.drop n) (vs.drop n)
  | _, _, 0, h => h
  | [], _, n + 1, h => by simp only [RpL] at h; subst h; simpa using RpL.nil
  | x :: xs, _, n + 1, h => by
    simp only [RpL] at h
    obtain ⟨v, ws, rfl, p, q⟩ := h
    exact RpL.drop n q
theorem RpL.set {T : Tb} {F : Hp} : ∀ {xs : List PV} {vs : List V} (n : Nat) {x v}, RpL T F xs vs → Rp T F x v → RpL T F (xs.set n x) (vs.set n v)
  | [], _, n, _, _, h, _ => by simp only [RpL] at h; subst h; simpa using RpL.nil
  | x :: xs, _, 0, _, _, h, r => by
    simp only [RpL] at h
    obtain ⟨v, ws, rfl, p, q⟩ := h
    exact RpL.cons r q
  | x :: xs, _, n + 1, _, _, h, r => by
    simp only [RpL] at h
    obtain ⟨v, ws, rfl, p, q⟩ := h
    exact RpL.cons p (RpL.set n q r)
theorem RpL.eraseIdx {T : Tb} {F : Hp} : ∀ {xs : List PV} {vs : List V} (n : Nat), RpL T F xs vs → RpL T F (xs.eraseIdx n) (vs.eraseIdx n)
  | [], _, n, h => by simp only [RpL] at h; subst h; simpa using RpL.nil
  | x :: xs, _, 0, h => by
    simp only [RpL] at h
    obtain ⟨v, ws, rfl, p, q⟩ := h
    exact q
  | x :: xs, _, n + 1, h => by
    simp only [RpL] at h
    obtain ⟨v, ws, rfl, p, q⟩ := h
    exact RpL.cons p (RpL.eraseIdx n q)
theorem RpL.reverse {T : Tb} {F : Hp} {xs : List PV} {vs : List V} (h : RpL T F xs vs) : RpL T F xs.reverse vs.reverse := by
  induction xs generalizing vs with
  | nil => simp only [RpL] at h; subst h; exact RpL.nil
  | cons x xs ih =>
    simp only [RpL] at h
    obtain ⟨v, ws, rfl, p, q⟩ := h
    simp only [List.reverse_cons]
    exact (ih q).append (RpL.cons p RpL.nil)
theorem RpL.dropLast {T : Tb} {F : Hp} {xs : List PV} {vs : List V} (h : RpL T F xs vs) : RpL T F xs.dropLast vs.dropLast := by
  rw [List.dropLast_eq_take, List.dropLast_eq_take, h.length]
  exact h.take _
/-- ints, read off -/
theorem RpL.ints {T : Tb} {F : Hp} : ∀ {ns : List Int} {vs : List V}, RpL T F (ns.map PV.int) vs → vs = ns.map V.int
  | [], _, h => by simp only [List.map_nil, RpL] at h; exact h
  | n :: ns, _, h => by
    simp only [List.map_cons, RpL] at h
    obtain ⟨v, ws, rfl, p, q⟩ := h
    simp only [Rp] at p
    subst p
    rw [RpL.ints q]; rfl
theorem RpL.ofInts {T : Tb} {F : Hp} : ∀ ns : List Int, RpL T F (ns.map PV.int) (ns.map V.int)
  | [] => RpL.nil
  | n :: ns => RpL.cons (by simp [Rp]) (RpL.ofInts ns)
theorem RpL.bls {T : Tb} {F : Hp} : ∀ {ns : List Bool} {vs : List V}, RpL T F (ns.map PV.bl) vs → vs = ns.map V.bl
  | [], _, h => by simp only [List.map_nil, RpL] at h; exact h
  | n :: ns, _, h => by
    simp only [List.map_cons, RpL] at h
    obtain ⟨v, ws, rfl, p, q⟩ := h
    simp only [Rp] at p
    subst p
    rw [RpL.bls q]; rfl
theorem RpL.strs {T : Tb} {F : Hp} : ∀ {ns : List Str} {vs : List V}, RpL T F (ns.map PV.str) vs → vs = ns.map V.str
  | [], _, h => by simp only [List.map_nil, RpL] at h; exact h
  | n :: ns, _, h => by
    simp only [List.map_cons, RpL] at h
    obtain ⟨v, ws, rfl, p, q⟩ := h
    simp only [Rp] at p
    subst p
    rw [RpL.strs q]; rfl
end Z
/-! the pure layer, part B: what a frame owns, the slots, how the heap grows -/
namespace Z
open PySem L2

/-- who holds a value: fz: shared and never changed; ow: this frame's own list, dict, set; ob: its own instance, by its fields -/
inductive Md where
  | fz | ow | ob (ms : List Md) | lk

mutual
/-- v is the value x, held so; A: the addresses that the frame owns of it -/
def OwM (T : Tb) (F H : Hp) : Md → PV → V → List Addr → Prop
  | .fz, x, v, A => Rp T F x v ∧ A = []
  | .ow, x, v, A => ∃ a, v = .ref a ∧ A = [a] ∧ (match x with
    | .lst xs => ∃ vs, H a = some (.lst vs) ∧ RpL T F xs vs
    | .dct t kvs => ∃ ks, DctO H a t ks ∧ RpD T F kvs ks
    | .set xs => SetAt H a xs
    | _ => False)
  | .ob ms, x, v, A => ∃ a C dx vs A', v = .ref a ∧ A = a :: A' ∧ H a = some (.ins C dx vs) ∧ (match x with
    | .obj c fs => T.cl.i c = some C ∧ OwF T F H ms fs vs A'
    | _ => False)
  | .lk, x, v, A => ∃ d od es kvs, x = .dct false kvs ∧ v = .ref d ∧ A = [] ∧ F d = some (.frz od (.dK es)) ∧ RpD T F kvs (es.map fun p => (kP p.1, p.2))
def OwF (T : Tb) (F H : Hp) : List Md → List (String × PV) → List (Str × V) → List Addr → Prop
  | [], fs, vs, A => fs = [] ∧ vs = [] ∧ A = []
  | m :: ms, fs, vs, A => ∃ f x fs' v vs' A1 A2, fs = (f, x) :: fs' ∧ vs = (Str.ofString f, v) :: vs' ∧ A = A1 ++ A2 ∧ OwM T F H m x v A1 ∧ OwF T F H ms fs' vs' A2
end

theorem DctO.dom {F : Hp} {a : Addr} {t ks} (h : DctO F a t ks) : ∃ o, F a = some o := by
  cases t <;> obtain ⟨es, h, _⟩ := h <;> exact ⟨_, h⟩
theorem SetAt.dom {F : Hp} {a : Addr} {xs} (h : SetAt F a xs) : ∃ o, F a = some o := by
  obtain ⟨_, _, _, _, h, _⟩ := h
  exact ⟨_, h⟩
mutual
theorem OwM.dom {T : Tb} {F H : Hp} : (m : Md) → ∀ {x v A}, OwM T F H m x v A → ∀ a ∈ A, ∃ o, H a = some o
  | .fz, x, v, A, h, a, ha => by simp only [OwM] at h; rw [h.2] at ha; simp at ha
  | .ow, x, v, A, h, a, ha => by
    simp only [OwM] at h
    obtain ⟨b, rfl, rfl, h⟩ := h
    obtain rfl : a = b := by simpa using ha
    cases x <;> first | exact h.elim | skip
    · obtain ⟨vs, h, _⟩ := h; exact ⟨_, h⟩
    · obtain ⟨ks, h, _⟩ := h; exact h.dom
    · exact SetAt.dom h
  | .ob ms, x, v, A, h, a, ha => by
    simp only [OwM] at h
    obtain ⟨b, C, dx, vs, A', rfl, rfl, hb, h⟩ := h
    cases x <;> first | exact h.elim | skip
    rcases List.mem_cons.mp ha with rfl | ha
    · exact ⟨_, hb⟩
    · exact OwF.dom ms h.2 a ha
  | .lk, x, v, A, h, a, ha => by
    simp only [OwM] at h
    obtain ⟨_, _, _, _, _, _, rfl, _⟩ := h
    simp at ha
theorem OwF.dom {T : Tb} {F H : Hp} : (ms : List Md) → ∀ {fs vs A}, OwF T F H ms fs vs A → ∀ a ∈ A, ∃ o, H a = some o
  | [], fs, vs, A, h, a, ha => by simp only [OwF] at h; rw [h.2.2] at ha; simp at ha
  | m :: ms, fs, vs, A, h, a, ha => by
    simp only [OwF] at h
    obtain ⟨f, x, fs', v, vs', A1, A2, rfl, rfl, rfl, h1, h2⟩ := h
    rcases List.mem_append.mp ha with ha | ha
    · exact OwM.dom m h1 a ha
    · exact OwF.dom ms h2 a ha
end
mutual
theorem OwM.mono {T : Tb} {F F' H H' : Hp} (e : Same F F') : (m : Md) → ∀ {x v A}, OwM T F H m x v A → (∀ a ∈ A, ∀ o, H a = some o → H' a = some o) → OwM T F' H' m x v A
  | .fz, x, v, A, h, k => by simp only [OwM] at h ⊢; exact ⟨h.1.mono e, h.2⟩
  | .ow, x, v, A, h, k => by
    simp only [OwM] at h ⊢
    obtain ⟨b, rfl, rfl, h⟩ := h
    refine ⟨b, rfl, rfl, ?_⟩
    have kb := k b (by simp)
    cases x <;> first | exact h.elim | skip
    · obtain ⟨vs, h, r⟩ := h; exact ⟨vs, kb _ h, RpL.mono e _ _ r⟩
    · obtain ⟨ks, h, r⟩ := h; exact ⟨ks, h.mono kb, RpD.mono e _ _ r⟩
    · exact SetAt.mono kb h
  | .ob ms, x, v, A, h, k => by
    simp only [OwM] at h ⊢
    obtain ⟨b, C, dx, vs, A', rfl, rfl, hb, h⟩ := h
    refine ⟨b, C, dx, vs, A', rfl, rfl, k b (by simp) _ hb, ?_⟩
    cases x <;> first | exact h.elim | skip
    exact ⟨h.1, OwF.mono e ms h.2 fun a ha => k a (List.mem_cons_of_mem _ ha)⟩
  | .lk, x, v, A, h, k => by
    simp only [OwM] at h ⊢
    obtain ⟨d, od, es, kvs, r1, r2, r3, r4, r5⟩ := h
    exact ⟨d, od, es, kvs, r1, r2, r3, e _ _ r4, RpD.mono e _ _ r5⟩
theorem OwF.mono {T : Tb} {F F' H H' : Hp} (e : Same F F') : (ms : List Md) → ∀ {fs vs A}, OwF T F H ms fs vs A → (∀ a ∈ A, ∀ o, H a = some o → H' a = some o) → OwF T F' H' ms fs vs A
  | [], fs, vs, A, h, k => by simp only [OwF] at h ⊢; exact h
  | m :: ms, fs, vs, A, h, k => by
    simp only [OwF] at h ⊢
    obtain ⟨f, x, fs', v, vs', A1, A2, rfl, rfl, rfl, h1, h2⟩ := h
    exact ⟨f, x, fs', v, vs', A1, A2, rfl, rfl, rfl, OwM.mono e m h1 fun a ha => k a (List.mem_append_left _ ha), OwF.mono e ms h2 fun a ha => k a (List.mem_append_right _ ha)⟩
end

/-! ### freezing -/
/-- F, and what stands in H at the addresses A -/
def frz (F H : Hp) (A : List Addr) : Hp := fun a => if a ∈ A then H a else F a
theorem frz_same {F H : Hp} {A : List Addr} (d : ∀ a ∈ A, F a = none) : Same F (frz F H A) := fun a o h => by
  unfold frz
  rw [if_neg (fun ha => by rw [d a ha] at h; cases h)]
  exact h
theorem frz_sub {F H : Hp} {A : List Addr} (s : Same F H) : Same (frz F H A) H := fun a o h => by
  unfold frz at h
  split at h
  · exact h
  · exact s a o h
theorem frz_at {F H : Hp} {A : List Addr} {a : Addr} {o : HO} (ha : a ∈ A) (h : H a = some o) : frz F H A a = some o := by
  unfold frz; rw [if_pos ha]; exact h
theorem frz_out {F H : Hp} {A : List Addr} {a : Addr} (ha : a ∉ A) : frz F H A a = F a := by
  unfold frz; rw [if_neg ha]
mutual
theorem OwM.freeze {T : Tb} {F F' H : Hp} (e : Same F F') : (m : Md) → ∀ {x v A}, OwM T F H m x v A → (∀ a ∈ A, ∀ o, H a = some o → F' a = some o) → Rp T F' x v
  | .fz, x, v, A, h, k => by simp only [OwM] at h; exact h.1.mono e
  | .ow, x, v, A, h, k => by
    simp only [OwM] at h
    obtain ⟨b, rfl, rfl, h⟩ := h
    have kb := k b (by simp)
    cases x <;> first | exact h.elim | skip
    · obtain ⟨vs, h, r⟩ := h; simp only [Rp]; exact ⟨b, vs, rfl, .inl (kb _ h), RpL.mono e _ _ r⟩
    · obtain ⟨ks, h, r⟩ := h; simp only [Rp]; exact ⟨b, ks, rfl, (h.mono kb).at, RpD.mono e _ _ r⟩
    · simp only [Rp]; exact ⟨b, rfl, SetAt.mono kb h⟩
  | .ob ms, x, v, A, h, k => by
    simp only [OwM] at h
    obtain ⟨b, C, dx, vs, A', rfl, rfl, hb, h⟩ := h
    cases x <;> first | exact h.elim | skip
    simp only [Rp]
    exact ⟨b, C, dx, vs, rfl, h.1, k b (by simp) _ hb, OwF.freeze e ms h.2 fun a ha => k a (List.mem_cons_of_mem _ ha)⟩
  | .lk, x, v, A, h, k => by
    simp only [OwM] at h
    obtain ⟨d, od, es, kvs, rfl, rfl, rfl, r4, r5⟩ := h
    simp only [Rp]
    exact ⟨d, _, rfl, ⟨es, .inr ⟨od, e _ _ r4⟩, rfl⟩, RpD.mono e _ _ r5⟩
theorem OwF.freeze {T : Tb} {F F' H : Hp} (e : Same F F') : (ms : List Md) → ∀ {fs vs A}, OwF T F H ms fs vs A → (∀ a ∈ A, ∀ o, H a = some o → F' a = some o) → RpF T F' fs vs
  | [], fs, vs, A, h, k => by simp only [OwF] at h; rw [h.1, h.2.1]; simp [RpF]
  | m :: ms, fs, vs, A, h, k => by
    simp only [OwF] at h
    obtain ⟨f, x, fs', v, vs', A1, A2, rfl, rfl, rfl, h1, h2⟩ := h
    simp only [RpF]
    exact ⟨v, vs', rfl, OwM.freeze e m h1 fun a ha => k a (List.mem_append_left _ ha), OwF.freeze e ms h2 fun a ha => k a (List.mem_append_right _ ha)⟩
end

/-! ### the slots -/
inductive Sl where
  | un | sl (m : Md) (x : PV) | me (m : Md) (x : PV)
abbrev Env := List Sl
def OwE (T : Tb) (F H : Hp) : Env → St → List Addr → Prop
  | [], σ, A => σ = [] ∧ A = []
  | .un :: γ, σ, A => ∃ w σ', σ = w :: σ' ∧ OwE T F H γ σ' A
  | .sl m x :: γ, σ, A => ∃ v σ' A1 A2, σ = some v :: σ' ∧ A = A1 ++ A2 ∧ OwM T F H m x v A1 ∧ OwE T F H γ σ' A2
  | .me m x :: γ, σ, A => ∃ v σ' A1 A2, σ = some v :: σ' ∧ A = A1 ++ A2 ∧ (OwM T F H m x v A1 ∧ v = T.cl.r0) ∧ OwE T F H γ σ' A2
structure Rel (T : Tb) (F : Hp) (A : List Addr) (σ : St) (H : Hp) (γ : Env) : Prop where
  sub : Same F H
  env : OwE T F H γ σ A
  nd : A.Nodup
  dis : ∀ a ∈ A, F a = none

/-- the heap has grown; nothing that stood has changed -/
structure Ext (F H F' H' : Hp) : Prop where
  sub : Same F' H'
  fle : Same F F'
  hle : Same H H'
  new : ∀ a o, F' a = some o → F a = some o ∨ H a = none
theorem Ext.refl {F H : Hp} (s : Same F H) : Ext F H F H := ⟨s, Same.refl _, Same.refl _, fun _ _ h => .inl h⟩
theorem Ext.trans {F H F1 H1 F2 H2 : Hp} (a : Ext F H F1 H1) (b : Ext F1 H1 F2 H2) : Ext F H F2 H2 :=
  ⟨b.sub, a.fle.trans b.fle, a.hle.trans b.hle, fun x o h => by
    rcases b.new x o h with h | h
    · exact a.new x o h
    · exact .inr (a.hle.free h)⟩
/-- a new object at p, frozen at once -/
theorem Ext.newF {F H : Hp} {p : Addr} {o : HO} (s : Same F H) (np : H p = none) : Ext F H (upd F p o) (upd H p o) := by
  have nf : F p = none := s.free np
  refine ⟨fun a u h => ?_, fun a u h => ?_, fun a u h => ?_, fun a u h => ?_⟩
  · by_cases e : a = p
    · subst e; rw [upd_same] at h ⊢; exact h
    · rw [upd_ne e] at h ⊢; exact s a u h
  · rw [upd_ne (ne_of_none h nf)]; exact h
  · rw [upd_ne (ne_of_none h np)]; exact h
  · by_cases e : a = p
    · subst e; exact .inr np
    · rw [upd_ne e] at h; exact .inl h
/-- a new object at p, not frozen -/
theorem Ext.newO {F H : Hp} {p : Addr} {o : HO} (s : Same F H) (np : H p = none) : Ext F H F (upd H p o) := by
  refine ⟨fun a u h => ?_, Same.refl _, fun a u h => ?_, fun a u h => .inl h⟩
  · rw [upd_ne (ne_of_none (s a u h) np)]; exact s a u h
  · rw [upd_ne (ne_of_none h np)]; exact h

theorem OwE.dom {T : Tb} {F H : Hp} : (γ : Env) → ∀ {σ A}, OwE T F H γ σ A → ∀ a ∈ A, ∃ o, H a = some o
  | [], σ, A, h, a, ha => by simp only [OwE] at h; rw [h.2] at ha; simp at ha
  | .un :: γ, σ, A, h, a, ha => by
    simp only [OwE] at h
    obtain ⟨w, σ', rfl, h⟩ := h
    exact OwE.dom γ h a ha
  | .sl m x :: γ, σ, A, h, a, ha => by
    simp only [OwE] at h
    obtain ⟨v, σ', A1, A2, rfl, rfl, h1, h2⟩ := h
    rcases List.mem_append.mp ha with ha | ha
    · exact OwM.dom m h1 a ha
    · exact OwE.dom γ h2 a ha
  | .me m x :: γ, σ, A, h, a, ha => by
    simp only [OwE] at h
    obtain ⟨v, σ', A1, A2, rfl, rfl, ⟨h1, _⟩, h2⟩ := h
    rcases List.mem_append.mp ha with ha | ha
    · exact OwM.dom m h1 a ha
    · exact OwE.dom γ h2 a ha
theorem OwE.mono {T : Tb} {F F' H H' : Hp} (e : Same F F') : (γ : Env) → ∀ {σ A}, OwE T F H γ σ A → (∀ a ∈ A, ∀ o, H a = some o → H' a = some o) → OwE T F' H' γ σ A
  | [], σ, A, h, k => by simpa only [OwE] using h
  | .un :: γ, σ, A, h, k => by
    simp only [OwE] at h ⊢
    obtain ⟨w, σ', rfl, h⟩ := h
    exact ⟨w, σ', rfl, OwE.mono e γ h k⟩
  | .sl m x :: γ, σ, A, h, k => by
    simp only [OwE] at h ⊢
    obtain ⟨v, σ', A1, A2, rfl, rfl, h1, h2⟩ := h
    exact ⟨v, σ', A1, A2, rfl, rfl, OwM.mono e m h1 fun a ha => k a (List.mem_append_left _ ha), OwE.mono e γ h2 fun a ha => k a (List.mem_append_right _ ha)⟩
  | .me m x :: γ, σ, A, h, k => by
    simp only [OwE] at h ⊢
    obtain ⟨v, σ', A1, A2, rfl, rfl, ⟨h1, h0⟩, h2⟩ := h
    exact ⟨v, σ', A1, A2, rfl, rfl, ⟨OwM.mono e m h1 fun a ha => k a (List.mem_append_left _ ha), h0⟩, OwE.mono e γ h2 fun a ha => k a (List.mem_append_right _ ha)⟩
theorem OwE.length {T : Tb} {F H : Hp} : (γ : Env) → ∀ {σ A}, OwE T F H γ σ A → σ.length = γ.length
  | [], σ, A, h => by simp only [OwE] at h; rw [h.1]; rfl
  | .un :: γ, σ, A, h => by
    simp only [OwE] at h
    obtain ⟨w, σ', rfl, h⟩ := h
    simp [OwE.length γ h]
  | .sl m x :: γ, σ, A, h => by
    simp only [OwE] at h
    obtain ⟨v, σ', A1, A2, rfl, rfl, h1, h2⟩ := h
    simp [OwE.length γ h2]
  | .me m x :: γ, σ, A, h => by
    simp only [OwE] at h
    obtain ⟨v, σ', A1, A2, rfl, rfl, h1, h2⟩ := h
    simp [OwE.length γ h2]
theorem Rel.ext {T : Tb} {F F' H H' : Hp} {A σ γ} (R : Rel T F A σ H γ) (e : Ext F H F' H') : Rel T F' A σ H' γ := by
  refine ⟨e.sub, OwE.mono e.fle γ R.env fun a _ o h => e.hle a o h, R.nd, fun a ha => ?_⟩
  cases q : F' a with
  | none => rfl
  | some o =>
    obtain ⟨u, hu⟩ := OwE.dom γ R.env a ha
    rcases e.new a o q with z | z
    · rw [R.dis a ha] at z; cases z
    · rw [hu] at z; cases z
/-- a slot read -/
theorem OwE.get {T : Tb} {F H : Hp} : (γ : Env) → ∀ {σ A} {i : Nat} {m x}, OwE T F H γ σ A → γ[i]? = some (.sl m x) → ∃ v Ai, σ[i]? = some (some v) ∧ OwM T F H m x v Ai ∧ ∀ a ∈ Ai, a ∈ A
  | [], σ, A, i, m, x, h, e => by simp at e
  | .un :: γ, σ, A, 0, m, x, h, e => by simp at e
  | .un :: γ, σ, A, i + 1, m, x, h, e => by
    simp only [OwE] at h
    obtain ⟨w, σ', rfl, h⟩ := h
    obtain ⟨v, Ai, h1, h2, h3⟩ := OwE.get γ h (by simpa using e)
    exact ⟨v, Ai, by simpa using h1, h2, h3⟩
  | .sl m' x' :: γ, σ, A, 0, m, x, h, e => by
    simp only [OwE] at h
    obtain ⟨v, σ', A1, A2, rfl, rfl, h1, h2⟩ := h
    simp at e
    obtain ⟨rfl, rfl⟩ := e
    exact ⟨v, A1, by simp, h1, fun a ha => List.mem_append_left _ ha⟩
  | .sl m' x' :: γ, σ, A, i + 1, m, x, h, e => by
    simp only [OwE] at h
    obtain ⟨v, σ', A1, A2, rfl, rfl, h1, h2⟩ := h
    obtain ⟨v, Ai, h1, h2, h3⟩ := OwE.get γ h2 (by simpa using e)
    exact ⟨v, Ai, by simpa using h1, h2, fun a ha => List.mem_append_right _ (h3 a ha)⟩
  | .me m' x' :: γ, σ, A, 0, m, x, h, e => by simp at e
  | .me m' x' :: γ, σ, A, i + 1, m, x, h, e => by
    simp only [OwE] at h
    obtain ⟨v, σ', A1, A2, rfl, rfl, h1, h2⟩ := h
    obtain ⟨v, Ai, h1, h2, h3⟩ := OwE.get γ h2 (by simpa using e)
    exact ⟨v, Ai, by simpa using h1, h2, fun a ha => List.mem_append_right _ (h3 a ha)⟩
/-- a slot stored: what it held is dropped, the new value owns Ar -/
theorem OwE.put {T : Tb} {F H : Hp} : (γ : Env) → ∀ {σ A} {i : Nat} {m x v Ar}, OwE T F H γ σ A → i < γ.length → OwM T F H m x v Ar →
    A.Nodup → Ar.Nodup → (∀ a ∈ Ar, a ∉ A) → ∃ A', OwE T F H (γ.set i (.sl m x)) (σ.set i (some v)) A' ∧ A'.Nodup ∧ ∀ a ∈ A', a ∈ A ∨ a ∈ Ar
  | [], σ, A, i, m, x, v, Ar, h, l, r, n, nr, d => by simp at l
  | .un :: γ, σ, A, 0, m, x, v, Ar, h, l, r, n, nr, d => by
    simp only [OwE] at h
    obtain ⟨w, σ', rfl, h⟩ := h
    refine ⟨Ar ++ A, ?_, ?_, fun a ha => ?_⟩
    · simp only [List.set_cons_zero, OwE]
      exact ⟨v, σ', Ar, A, rfl, rfl, r, h⟩
    · exact List.nodup_append.mpr ⟨nr, n, fun a ha b hb e => d a ha (e ▸ hb)⟩
    · rcases List.mem_append.mp ha with z | z
      · exact .inr z
      · exact .inl z
  | .sl m' x' :: γ, σ, A, 0, m, x, v, Ar, h, l, r, n, nr, d => by
    simp only [OwE] at h
    obtain ⟨v', σ', A1, A2, rfl, rfl, h1, h2⟩ := h
    refine ⟨Ar ++ A2, ?_, ?_, fun a ha => ?_⟩
    · simp only [List.set_cons_zero, OwE]
      exact ⟨v, σ', Ar, A2, rfl, rfl, r, h2⟩
    · exact List.nodup_append.mpr ⟨nr, (List.nodup_append.mp n).2.1, fun a ha b hb e => d a ha (List.mem_append_right _ (e ▸ hb))⟩
    · rcases List.mem_append.mp ha with z | z
      · exact .inr z
      · exact .inl (List.mem_append_right _ z)
  | .un :: γ, σ, A, i + 1, m, x, v, Ar, h, l, r, n, nr, d => by
    simp only [OwE] at h
    obtain ⟨w, σ', rfl, h⟩ := h
    obtain ⟨A', h1, h2, h3⟩ := OwE.put γ h (by simpa using l) r n nr d
    refine ⟨A', ?_, h2, h3⟩
    simp only [List.set_cons_succ, OwE]
    exact ⟨w, _, rfl, h1⟩
  | .sl m' x' :: γ, σ, A, i + 1, m, x, v, Ar, h, l, r, n, nr, d => by
    simp only [OwE] at h
    obtain ⟨v', σ', A1, A2, rfl, rfl, h1, h2⟩ := h
    obtain ⟨n1, n2, n3⟩ := List.nodup_append.mp n
    obtain ⟨A', k1, k2, k3⟩ := OwE.put γ h2 (by simpa using l) r n2 nr fun a ha z => d a ha (List.mem_append_right _ z)
    refine ⟨A1 ++ A', ?_, ?_, fun a ha => ?_⟩
    · simp only [List.set_cons_succ, OwE]
      exact ⟨v', _, A1, A', rfl, rfl, h1, k1⟩
    · refine List.nodup_append.mpr ⟨n1, k2, fun a ha b hb e => ?_⟩
      rcases k3 b hb with z | z
      · exact n3 a ha b z e
      · exact d b z (List.mem_append_left _ (e ▸ ha))
    · rcases List.mem_append.mp ha with z | z
      · exact .inl (List.mem_append_left _ z)
      · rcases k3 a z with z | z
        · exact .inl (List.mem_append_right _ z)
        · exact .inr z
  | .me m' x' :: γ, σ, A, 0, m, x, v, Ar, h, l, r, n, nr, d => by
    simp only [OwE] at h
    obtain ⟨v', σ', A1, A2, rfl, rfl, h1, h2⟩ := h
    refine ⟨Ar ++ A2, ?_, ?_, fun a ha => ?_⟩
    · simp only [List.set_cons_zero, OwE]
      exact ⟨v, σ', Ar, A2, rfl, rfl, r, h2⟩
    · exact List.nodup_append.mpr ⟨nr, (List.nodup_append.mp n).2.1, fun a ha b hb e => d a ha (List.mem_append_right _ (e ▸ hb))⟩
    · rcases List.mem_append.mp ha with z | z
      · exact .inr z
      · exact .inl (List.mem_append_right _ z)
  | .me m' x' :: γ, σ, A, i + 1, m, x, v, Ar, h, l, r, n, nr, d => by
    simp only [OwE] at h
    obtain ⟨v', σ', A1, A2, rfl, rfl, h1, h2⟩ := h
    obtain ⟨n1, n2, n3⟩ := List.nodup_append.mp n
    obtain ⟨A', k1, k2, k3⟩ := OwE.put γ h2 (by simpa using l) r n2 nr fun a ha z => d a ha (List.mem_append_right _ z)
    refine ⟨A1 ++ A', ?_, ?_, fun a ha => ?_⟩
    · simp only [List.set_cons_succ, OwE]
      exact ⟨v', _, A1, A', rfl, rfl, h1, k1⟩
    · refine List.nodup_append.mpr ⟨n1, k2, fun a ha b hb e => ?_⟩
      rcases k3 b hb with z | z
      · exact n3 a ha b z e
      · exact d b z (List.mem_append_left _ (e ▸ ha))
    · rcases List.mem_append.mp ha with z | z
      · exact .inl (List.mem_append_left _ z)
      · rcases k3 a z with z | z
        · exact .inl (List.mem_append_right _ z)
        · exact .inr z
/-- a slot forgotten (its value anything) -/
theorem OwE.wipe {T : Tb} {F H : Hp} : (γ : Env) → ∀ {σ A} (i : Nat) (w : Option V), OwE T F H γ σ A → A.Nodup → ∃ A', OwE T F H (γ.set i .un) (σ.set i w) A' ∧ A'.Nodup ∧ ∀ a ∈ A', a ∈ A
  | [], σ, A, i, w, h, n => by
    simp only [OwE] at h
    exact ⟨[], by simp [OwE, h.1], by simp, by simp⟩
  | .un :: γ, σ, A, 0, w, h, n => by
    simp only [OwE] at h
    obtain ⟨w', σ', rfl, h⟩ := h
    exact ⟨A, by simp only [List.set_cons_zero, OwE]; exact ⟨w, σ', rfl, h⟩, n, fun _ h => h⟩
  | .sl m' x' :: γ, σ, A, 0, w, h, n => by
    simp only [OwE] at h
    obtain ⟨v', σ', A1, A2, rfl, rfl, h1, h2⟩ := h
    exact ⟨A2, by simp only [List.set_cons_zero, OwE]; exact ⟨w, σ', rfl, h2⟩, (List.nodup_append.mp n).2.1, fun a ha => List.mem_append_right _ ha⟩
  | .un :: γ, σ, A, i + 1, w, h, n => by
    simp only [OwE] at h
    obtain ⟨w', σ', rfl, h⟩ := h
    obtain ⟨A', h1, h2, h3⟩ := OwE.wipe γ i w h n
    exact ⟨A', by simp only [List.set_cons_succ, OwE]; exact ⟨w', _, rfl, h1⟩, h2, h3⟩
  | .sl m' x' :: γ, σ, A, i + 1, w, h, n => by
    simp only [OwE] at h
    obtain ⟨v', σ', A1, A2, rfl, rfl, h1, h2⟩ := h
    obtain ⟨n1, n2, n3⟩ := List.nodup_append.mp n
    obtain ⟨A', k1, k2, k3⟩ := OwE.wipe γ i w h2 n2
    refine ⟨A1 ++ A', by simp only [List.set_cons_succ, OwE]; exact ⟨v', _, A1, A', rfl, rfl, h1, k1⟩, ?_, fun a ha => ?_⟩
    · exact List.nodup_append.mpr ⟨n1, k2, fun a ha b hb e => n3 a ha b (k3 b hb) e⟩
    · rcases List.mem_append.mp ha with z | z
      · exact List.mem_append_left _ z
      · exact List.mem_append_right _ (k3 a z)
  | .me m' x' :: γ, σ, A, 0, w, h, n => by
    simp only [OwE] at h
    obtain ⟨v', σ', A1, A2, rfl, rfl, h1, h2⟩ := h
    exact ⟨A2, by simp only [List.set_cons_zero, OwE]; exact ⟨w, σ', rfl, h2⟩, (List.nodup_append.mp n).2.1, fun a ha => List.mem_append_right _ ha⟩
  | .me m' x' :: γ, σ, A, i + 1, w, h, n => by
    simp only [OwE] at h
    obtain ⟨v', σ', A1, A2, rfl, rfl, h1, h2⟩ := h
    obtain ⟨n1, n2, n3⟩ := List.nodup_append.mp n
    obtain ⟨A', k1, k2, k3⟩ := OwE.wipe γ i w h2 n2
    refine ⟨A1 ++ A', by simp only [List.set_cons_succ, OwE]; exact ⟨v', _, A1, A', rfl, rfl, h1, k1⟩, ?_, fun a ha => ?_⟩
    · exact List.nodup_append.mpr ⟨n1, k2, fun a ha b hb e => n3 a ha b (k3 b hb) e⟩
    · rcases List.mem_append.mp ha with z | z
      · exact List.mem_append_left _ z
      · exact List.mem_append_right _ (k3 a z)
/-- slot i's own addresses, and the rest -/
theorem OwE.split {T : Tb} {F H : Hp} : (γ : Env) → ∀ {σ A} {i : Nat} {m x}, OwE T F H γ σ A → γ[i]? = some (.sl m x) → ∃ v P Ai S, σ[i]? = some (some v) ∧ A = P ++ Ai ++ S ∧ OwM T F H m x v Ai ∧
    ∀ m' x' F' H' A', Same F F' → (∀ a ∈ P ++ S, ∀ o, H a = some o → H' a = some o) → OwM T F' H' m' x' v A' → OwE T F' H' (γ.set i (.sl m' x')) σ (P ++ A' ++ S)
  | [], σ, A, i, m, x, h, e => by simp at e
  | .un :: γ, σ, A, 0, m, x, h, e => by simp at e
  | .un :: γ, σ, A, i + 1, m, x, h, e => by
    simp only [OwE] at h
    obtain ⟨w, σ', rfl, h⟩ := h
    obtain ⟨v, P, Ai, S, h1, h2, h3, h4⟩ := OwE.split γ h (by simpa using e)
    refine ⟨v, P, Ai, S, by simpa using h1, h2, h3, fun m' x' F' H' A' s k r => ?_⟩
    simp only [List.set_cons_succ, OwE]
    exact ⟨w, σ', rfl, h4 m' x' F' H' A' s k r⟩
  | .sl m0 x0 :: γ, σ, A, 0, m, x, h, e => by
    simp only [OwE] at h
    obtain ⟨v, σ', A1, A2, rfl, rfl, h1, h2⟩ := h
    simp at e
    obtain ⟨rfl, rfl⟩ := e
    refine ⟨v, [], A1, A2, by simp, by simp, h1, fun m' x' F' H' A' s k r => ?_⟩
    simp only [List.set_cons_zero, OwE]
    exact ⟨v, σ', A', A2, rfl, by simp, r, OwE.mono s γ h2 fun a ha => k a (by simpa using ha)⟩
  | .sl m0 x0 :: γ, σ, A, i + 1, m, x, h, e => by
    simp only [OwE] at h
    obtain ⟨v0, σ', A1, A2, rfl, rfl, h1, h2⟩ := h
    obtain ⟨v, P, Ai, S, k1, k2, k3, k4⟩ := OwE.split γ h2 (by simpa using e)
    refine ⟨v, A1 ++ P, Ai, S, by simpa using k1, by rw [k2]; simp, k3, fun m' x' F' H' A' s k r => ?_⟩
    simp only [List.set_cons_succ, OwE]
    refine ⟨v0, σ', A1, P ++ A' ++ S, rfl, by simp, OwM.mono s m0 h1 fun a ha => k a ?_, k4 m' x' F' H' A' s (fun a ha => k a ?_) r⟩
    · simp [ha]
    · simp only [List.append_assoc, List.mem_append] at ha ⊢
      rcases ha with z | z
      · exact .inr (.inl z)
      · exact .inr (.inr z)
  | .me m0 x0 :: γ, σ, A, 0, m, x, h, e => by simp at e
  | .me m0 x0 :: γ, σ, A, i + 1, m, x, h, e => by
    simp only [OwE] at h
    obtain ⟨v0, σ', A1, A2, rfl, rfl, h1, h2⟩ := h
    obtain ⟨v, P, Ai, S, k1, k2, k3, k4⟩ := OwE.split γ h2 (by simpa using e)
    refine ⟨v, A1 ++ P, Ai, S, by simpa using k1, by rw [k2]; simp, k3, fun m' x' F' H' A' s k r => ?_⟩
    simp only [List.set_cons_succ, OwE]
    refine ⟨v0, σ', A1, P ++ A' ++ S, rfl, by simp, ⟨OwM.mono s m0 h1.1 fun a ha => k a ?_, h1.2⟩, k4 m' x' F' H' A' s (fun a ha => k a ?_) r⟩
    · simp [ha]
    · simp only [List.append_assoc, List.mem_append] at ha ⊢
      rcases ha with z | z
      · exact .inr (.inl z)
      · exact .inr (.inr z)
/-- the slot .me read: its own addresses, and the rest -/
theorem OwE.splitMe {T : Tb} {F H : Hp} : (γ : Env) → ∀ {σ A} {m x}, OwE T F H (.me m x :: γ) σ A → ∃ Ai S, σ[0]? = some (some T.cl.r0) ∧ A = Ai ++ S ∧ OwM T F H m x T.cl.r0 Ai ∧
    ∀ m' x' F' H' A', Same F F' → (∀ a ∈ S, ∀ o, H a = some o → H' a = some o) → OwM T F' H' m' x' T.cl.r0 A' → OwE T F' H' (.me m' x' :: γ) σ (A' ++ S) := fun γ {σ A m x h} => by
  simp only [OwE] at h
  obtain ⟨v, σ', A1, A2, rfl, rfl, ⟨h1, rfl⟩, h2⟩ := h
  refine ⟨A1, A2, by simp, rfl, h1, fun m' x' F' H' A' s k r => ?_⟩
  simp only [OwE]
  exact ⟨_, σ', A', A2, rfl, rfl, ⟨r, rfl⟩, OwE.mono s γ h2 k⟩
end Z
/-! the pure layer, part C: what an expression is worth by the slots, and that it is so -/
namespace Z
open PySem L2

/-- an exception: its class, its own attributes -/
structure Xc where
  c : String
  fs : List (String × PV)
inductive R (α : Type) where
  | ok (a : α) | er (e : Xc) | no
namespace R
def bind {α β : Type} : R α → (α → R β) → R β
  | .ok a, f => f a
  | .er e, _ => .er e
  | .no, _ => .no
def map {α β : Type} (f : α → β) : R α → R β
  | .ok a => .ok (f a)
  | .er e => .er e
  | .no => .no
@[simp] theorem bind_ok {α β : Type} (a : α) (f : α → R β) : (R.ok a).bind f = f a := (rfl)
@[simp] theorem bind_er {α β : Type} (e : Xc) (f : α → R β) : (R.er e : R α).bind f = .er e := (rfl)
@[simp] theorem bind_no {α β : Type} (f : α → R β) : (R.no : R α).bind f = .no := (rfl)
instance : Monad R where
  pure := .ok
  bind := bind
end R
/-- a value: fr: its own; pk: one that a slot holds, looked at -/
inductive Vl where
  | fr (m : Md) (x : PV) | pk (m : Md) (x : PV)
def Vl.x : Vl → PV
  | .fr _ x => x
  | .pk _ x => x
@[simp] theorem Vl.x_fr (m x) : (Vl.fr m x).x = x := (rfl)
@[simp] theorem Vl.x_pk (m x) : (Vl.pk m x).x = x := (rfl)
abbrev Vl.z (x : PV) : Vl := .fr .fz x

/-- v can be read as x -/
def Rv (T : Tb) (F H : Hp) (x : PV) (v : V) : Prop := ∃ m A, OwM T F H m x v A
def VlN (T : Tb) (F' H' H : Hp) : Vl → V → Prop
  | .fr m x, v => ∃ Ar, OwM T F' H' m x v Ar ∧ Ar.Nodup ∧ ∀ a ∈ Ar, H a = none ∧ F' a = none
  | .pk _ _, _ => False
def VlR (T : Tb) (F' H' H : Hp) (A : List Addr) : Vl → V → Prop
  | .fr m x, v => ∃ Ar, OwM T F' H' m x v Ar ∧ Ar.Nodup ∧ ∀ a ∈ Ar, H a = none ∧ F' a = none
  | .pk m x, v => ∃ Ai, OwM T F' H' m x v Ai ∧ ∀ a ∈ Ai, a ∈ A
def RvL (T : Tb) (F H : Hp) : List PV → List V → Prop
  | [], vs => vs = []
  | x :: xs, vs => ∃ v ws, vs = v :: ws ∧ Rv T F H x v ∧ RvL T F H xs ws
/-- how an exception lies: its own dict d (none, where it has no attributes) -/
def XcR (T : Tb) (F : Hp) (e : Xc) (cls : Value) (d : Option Addr) : Prop :=
  ∃ C vs, T.cl.e e.c = some C ∧ cls = .ref C ∧ ExD F d vs ∧ RpF T F e.fs vs

theorem VlN.r {T : Tb} {F' H' H H0 : Hp} {A l v} (h : VlN T F' H' H l v) (s : Same H0 H) : VlR T F' H' H0 A l v := by
  cases l with
  | fr m x => obtain ⟨Ar, h1, h2, h3⟩ := h; exact ⟨Ar, h1, h2, fun a ha => ⟨s.free (h3 a ha).1, (h3 a ha).2⟩⟩
  | pk m x => exact h.elim
theorem VlR.rv {T : Tb} {F' H' H : Hp} {A l v} (h : VlR T F' H' H A l v) : Rv T F' H' l.x v := by
  cases l with
  | fr m x => obtain ⟨Ar, h1, _⟩ := h; exact ⟨m, Ar, h1⟩
  | pk m x => obtain ⟨Ar, h1, _⟩ := h; exact ⟨m, Ar, h1⟩
theorem Rv.ext {T : Tb} {F F' H H' : Hp} {x v} (h : Rv T F H x v) (e : Ext F H F' H') : Rv T F' H' x v := by
  obtain ⟨m, A, h⟩ := h
  exact ⟨m, A, OwM.mono e.fle m h fun a _ o q => e.hle a o q⟩
theorem Rv.of {T : Tb} {F H : Hp} {x v} (h : Rp T F x v) : Rv T F H x v := ⟨.fz, [], by simp only [OwM]; exact ⟨h, trivial⟩⟩
theorem OwM.fz_of {T : Tb} {F H : Hp} {x v} (h : Rp T F x v) : OwM T F H .fz x v [] := by simp only [OwM]; exact ⟨h, trivial⟩
theorem VlN.z {T : Tb} {F' H' H : Hp} {x v} (h : Rp T F' x v) : VlN T F' H' H (.z x) v := ⟨[], OwM.fz_of h, by simp, by simp⟩
theorem VlR.zz {T : Tb} {F' H' H : Hp} {A x v} (h : Rp T F' x v) : VlR T F' H' H A (.z x) v := ⟨[], OwM.fz_of h, by simp, by simp⟩
/-- behind a further growth -/
theorem VlR.ext {T : Tb} {F H F1 H1 F2 H2 : Hp} {A l v} (h : VlR T F1 H1 H A l v) (d : ∀ a ∈ A, ∃ o, H a = some o) (e1 : Ext F H F1 H1) (e : Ext F1 H1 F2 H2) : VlR T F2 H2 H A l v := by
  cases l with
  | fr m x =>
    obtain ⟨Ar, h1, h2, h3⟩ := h
    refine ⟨Ar, OwM.mono e.fle m h1 fun a _ o q => e.hle a o q, h2, fun a ha => ⟨(h3 a ha).1, ?_⟩⟩
    cases q : F2 a with
    | none => rfl
    | some o =>
      rcases e.new a o q with z | z
      · rw [(h3 a ha).2] at z; cases z
      · obtain ⟨u, hu⟩ := OwM.dom m h1 a ha
        rw [hu] at z; cases z
  | pk m x =>
    obtain ⟨Ar, h1, h2⟩ := h
    exact ⟨Ar, OwM.mono e.fle m h1 fun a _ o q => e.hle a o q, h2⟩

theorem RvL.ext {T : Tb} {F F' H H' : Hp} (e : Ext F H F' H') : ∀ {xs : List PV} {vs}, RvL T F H xs vs → RvL T F' H' xs vs
  | [], _, h => h
  | x :: xs, _, h => by
    obtain ⟨v, ws, r, p, q⟩ := h
    exact ⟨v, ws, r, p.ext e, RvL.ext e q⟩

/-! ### the judgements -/
abbrev Ex := Env → R Vl
def tq (K : PySem.W.Frag) (cl : Cl) (W : WX) (f : Ex) : TE := fun σ H Q => ∃ F A γ, Rel ⟨K, cl⟩ F A σ H γ ∧ match f γ with
  | .ok l => ∀ F' H' v, Ext F H F' H' → VlR ⟨K, cl⟩ F' H' H A l v → Q v H'
  | .er e => ∀ F' H' c d, Ext F H F' H' → XcR ⟨K, cl⟩ F' e c d → W c d σ H'
  | .no => False
structure QE (cl : Cl) (X : Cx) (W : WX) (f : Ex) (e : Expr) : Prop where
  pe : PE X e (tq X.K cl W f)
def tqT (K : PySem.W.Frag) (cl : Cl) (W : WX) (f : Env → R Bool) : TT := fun σ H Q => ∃ F A γ, Rel ⟨K, cl⟩ F A σ H γ ∧ match f γ with
  | .ok b => ∀ F' H', Ext F H F' H' → Q b H'
  | .er e => ∀ F' H' c d, Ext F H F' H' → XcR ⟨K, cl⟩ F' e c d → W c d σ H'
  | .no => False
structure QT (cl : Cl) (X : Cx) (W : WX) (f : Env → R Bool) (e : Expr) : Prop where
  pt : PT X e (tqT X.K cl W f)
structure QW (cl : Cl) (X : Cx) (W : WX) (f : Env → R Bool) (e : Expr) : Prop where
  pw : PW X e (tqT X.K cl W f)
/-- arguments that are looked at -/
def tqA (K : PySem.W.Frag) (cl : Cl) (W : WX) (f : Env → R (List PV)) : TA := fun σ H Q => ∃ F A γ, Rel ⟨K, cl⟩ F A σ H γ ∧ match f γ with
  | .ok xs => ∀ F' H' vs, Ext F H F' H' → RvL ⟨K, cl⟩ F' H' xs vs → Q vs H'
  | .er e => ∀ F' H' c d, Ext F H F' H' → XcR ⟨K, cl⟩ F' e c d → W c d σ H'
  | .no => False
structure QA (cl : Cl) (X : Cx) (W : WX) (f : Env → R (List PV)) (es : List Expr) : Prop where
  pa : PA X es (tqA X.K cl W f)
/-- arguments that are kept: frozen -/
def tqZ (K : PySem.W.Frag) (cl : Cl) (W : WX) (f : Env → R (List PV)) : TA := fun σ H Q => ∃ F A γ, Rel ⟨K, cl⟩ F A σ H γ ∧ match f γ with
  | .ok xs => ∀ F' H' vs, Ext F H F' H' → RpL ⟨K, cl⟩ F' xs vs → Q vs H'
  | .er e => ∀ F' H' c d, Ext F H F' H' → XcR ⟨K, cl⟩ F' e c d → W c d σ H'
  | .no => False
structure QZ (cl : Cl) (X : Cx) (W : WX) (f : Env → R (List PV)) (es : List Expr) : Prop where
  pa : PA X es (tqZ X.K cl W f)

theorem _root_.L2.PE.imp {X : Cx} {e : Expr} {t t' : TE} (h : PE X e t) (k : ∀ σ H Q, t' σ H Q → t σ H Q) : PE X e t' := ⟨fun pins s σ H Q I q => h.run pins s σ H Q I (k σ H Q q)⟩
theorem _root_.L2.PT.imp {X : Cx} {e : Expr} {t t' : TT} (h : PT X e t) (k : ∀ σ H Q, t' σ H Q → t σ H Q) : PT X e t' := ⟨fun pins s σ H Q I q => h.run pins s σ H Q I (k σ H Q q)⟩
theorem _root_.L2.PW.imp {X : Cx} {e : Expr} {t t' : TT} (h : PW X e t) (k : ∀ σ H Q, t' σ H Q → t σ H Q) : PW X e t' := ⟨fun wh pins s σ H Q I q => h.run wh pins s σ H Q I (k σ H Q q)⟩
theorem _root_.L2.PA.imp {X : Cx} {es : List Expr} {t t' : TA} (h : PA X es t) (k : ∀ σ H Q, t' σ H Q → t σ H Q) : PA X es t' := ⟨fun pos pins s σ H Q I q => h.run pos pins s σ H Q I (k σ H Q q)⟩

section
variable {X : Cx} {cl : Cl} {W : WX}

/-- the answer of an operation by values: what its reading must be good for -/
def Post (T : Tb) (F H : Hp) (r : R Vl) (Q : VK) : Prop := match r with
  | .ok l => ∀ F' H' v, Ext F H F' H' → VlN T F' H' H l v → Q v H'
  | _ => False
theorem Post.of {T : Tb} {F H : Hp} {x : PV} {v : V} {Q : VK} (s : Same F H) (h : Post T F H (.ok (.z x)) Q) (r : Rp T F x v) : Q v H := h F H v (Ext.refl s) (VlN.z r)

/-- one operand: f's value taken on by k (which may be Post, or a further reading) -/
theorem tq.bind {f : Ex} {σ : St} {H : Hp} {Q : VK} {g : Vl → Env → R Vl} (h : tq X.K cl W (fun γ => (f γ).bind fun l => g l γ) σ H Q) {R1 : VK}
    (k : ∀ F A γ l F1 H1 v, Rel ⟨X.K, cl⟩ F A σ H γ → f γ = .ok l → Ext F H F1 H1 → VlR ⟨X.K, cl⟩ F1 H1 H A l v →
      (match g l γ with
        | .ok l' => ∀ F' H' v', Ext F1 H1 F' H' → VlR ⟨X.K, cl⟩ F' H' H A l' v' → Q v' H'
        | .er e => ∀ F' H' c d, Ext F1 H1 F' H' → XcR ⟨X.K, cl⟩ F' e c d → W c d σ H'
        | .no => False) → R1 v H1) : tq X.K cl W f σ H R1 := by
  obtain ⟨F, A, γ, rel, h⟩ := h
  dsimp only at h
  refine ⟨F, A, γ, rel, ?_⟩
  cases e : f γ with
  | no => rw [e] at h; exact h
  | er x => rw [e] at h; exact h
  | ok l =>
    rw [e] at h
    simp only [R.bind_ok] at h
    intro F1 H1 v e1 r1
    refine k F A γ l F1 H1 v rel e e1 r1 ?_
    cases e' : g l γ with
    | no => rw [e'] at h; exact h
    | er x => rw [e'] at h; exact fun F' H' c d ex => h F' H' c d (e1.trans ex)
    | ok l' => rw [e'] at h; exact fun F' H' v' ex r => h F' H' v' (e1.trans ex) r

/-! ### names, constants -/
def xVar (i : Nat) : Ex := fun γ => match γ[i]? with
  | some (.sl m x) => .ok (.pk m x)
  | some (.me m x) => .ok (.pk m x)
  | _ => .no
theorem OwE.getMe {T : Tb} {F H : Hp} : (γ : Env) → ∀ {σ A} {i : Nat} {m x}, OwE T F H γ σ A → γ[i]? = some (.me m x) → ∃ v Ai, σ[i]? = some (some v) ∧ OwM T F H m x v Ai ∧ ∀ a ∈ Ai, a ∈ A
  | [], σ, A, i, m, x, h, e => by simp at e
  | .un :: γ, σ, A, 0, m, x, h, e => by simp at e
  | .sl _ _ :: γ, σ, A, 0, m, x, h, e => by simp at e
  | .me m' x' :: γ, σ, A, 0, m, x, h, e => by
    simp only [OwE] at h
    obtain ⟨v, σ', A1, A2, rfl, rfl, ⟨h1, _⟩, h2⟩ := h
    simp at e
    obtain ⟨rfl, rfl⟩ := e
    exact ⟨v, A1, by simp, h1, fun a ha => List.mem_append_left _ ha⟩
  | .un :: γ, σ, A, i + 1, m, x, h, e => by
    simp only [OwE] at h
    obtain ⟨w, σ', rfl, h⟩ := h
    obtain ⟨v, Ai, h1, h2, h3⟩ := OwE.getMe γ h (by simpa using e)
    exact ⟨v, Ai, by simpa using h1, h2, h3⟩
  | .sl _ _ :: γ, σ, A, i + 1, m, x, h, e => by
    simp only [OwE] at h
    obtain ⟨v, σ', A1, A2, rfl, rfl, h1, h2⟩ := h
    obtain ⟨v, Ai, h1, h2, h3⟩ := OwE.getMe γ h2 (by simpa using e)
    exact ⟨v, Ai, by simpa using h1, h2, fun a ha => List.mem_append_right _ (h3 a ha)⟩
  | .me _ _ :: γ, σ, A, i + 1, m, x, h, e => by
    simp only [OwE] at h
    obtain ⟨v, σ', A1, A2, rfl, rfl, h1, h2⟩ := h
    obtain ⟨v, Ai, h1, h2, h3⟩ := OwE.getMe γ h2 (by simpa using e)
    exact ⟨v, Ai, by simpa using h1, h2, fun a ha => List.mem_append_right _ (h3 a ha)⟩
theorem q_var (i : Nat) {x : Str} {pos : Pos} (hN : X.N[i]? = some x := by rfl) (hv : Vis X.env.scope x := by first | exact Or.inl rfl | exact Or.inr (Or.inl rfl) | exact Or.inr (Or.inr rfl))
    (hd : (x == ("__debug__" : Str)) = false := by decide) (hcd : (x == ("__classdict__" : Str)) = false := by decide) : QE cl X W (xVar i) (.Name x pos) := by
  refine ⟨(pe_var (i := i) hN hv hd hcd).imp fun σ H Q h => ?_⟩
  obtain ⟨F, A, γ, rel, h⟩ := h
  unfold xVar at h
  cases e : γ[i]? with
  | none => rw [e] at h; exact h.elim
  | some sl =>
    rw [e] at h
    cases sl with
    | un => exact h.elim
    | sl m x =>
      obtain ⟨v, Ai, h1, h2, h3⟩ := OwE.get γ rel.env e
      exact ⟨v, h1, h F H v (Ext.refl rel.sub) ⟨Ai, h2, h3⟩⟩
    | me m x =>
      obtain ⟨v, Ai, h1, h2, h3⟩ := OwE.getMe γ rel.env e
      exact ⟨v, h1, h F H v (Ext.refl rel.sub) ⟨Ai, h2, h3⟩⟩
def xC (x : PV) : Ex := fun _ => .ok (.z x)
theorem q_c {e : Expr} {x : PV} {v : V} (h : PE X e (tC v)) (r : ∀ F, Rp ⟨X.K, cl⟩ F x v) : QE cl X W (xC x) e := by
  refine ⟨h.imp fun σ H Q h => ?_⟩
  obtain ⟨F, A, γ, rel, h⟩ := h
  exact h F H v (Ext.refl rel.sub) (VlR.zz (r F))
theorem q_int {i j pos} : QE cl X W (xC (.int i)) (.Constant (.int i) j pos) := q_c pe_int fun _ => by simp [Rp]
theorem q_bl {b j pos} : QE cl X W (xC (.bl b)) (.Constant (.bool b) j pos) := q_c pe_bl fun _ => by simp [Rp]
theorem q_non {j pos} : QE cl X W (xC .non) (.Constant .none j pos) := q_c pe_non fun _ => by simp [Rp]
theorem q_str {x j pos} : QE cl X W (xC (.str x)) (.Constant (.str x) j pos) := q_c pe_str fun _ => by simp [Rp]
/-- a module's constant -/
theorem q_con {x : Str} {p : PV} {v : V} {u : Value} {pos : Pos} (hg : Gl X x) (hm : X.mg x = some u) (r : RelV v u) (rp : ∀ F, Rp ⟨X.K, cl⟩ F p v) (hd : (x == ("__debug__" : Str)) = false := by decide) : QE cl X W (xC p) (.Name x pos) :=
  q_c (pe_glob hg hm r hd) rp

/-! ### operators by values -/
def Op2 (X : Cx) (cl : Cl) (p : PV → PV → R Vl) (r : R2) : Prop :=
  ∀ F H x y v u Q, Same F H → Rv ⟨X.K, cl⟩ F H x v → Rv ⟨X.K, cl⟩ F H y u → Post ⟨X.K, cl⟩ F H (p x y) Q → r v u H Q
def Op1 (X : Cx) (cl : Cl) (p : PV → R Vl) (r : V → Hp → VK → Prop) : Prop :=
  ∀ F H x v Q, Same F H → Rv ⟨X.K, cl⟩ F H x v → Post ⟨X.K, cl⟩ F H (p x) Q → r v H Q
def x2 (p : PV → PV → R Vl) (f g : Ex) : Ex := fun γ => (f γ).bind fun l => (g γ).bind fun k => p l.x k.x
def x1 (p : PV → R Vl) (f : Ex) : Ex := fun γ => (f γ).bind fun l => p l.x
/-- p lets nothing out -/
def NoEr2 (p : PV → PV → R Vl) : Prop := ∀ x y e, p x y ≠ .er e
def NoEr1 (p : PV → R Vl) : Prop := ∀ x e, p x ≠ .er e
theorem tq2 {p : PV → PV → R Vl} {r : R2} {f g : Ex} (ne : NoEr2 p) (o : Op2 X cl p r) {σ H Q} (h : tq X.K cl W (x2 p f g) σ H Q) : tOp r (tq X.K cl W f) (tq X.K cl W g) σ H Q := by
  refine tq.bind (g := fun l γ => (g γ).bind fun k => p l.x k.x) h fun F A γ l F1 H1 v rel e e1 r1 h => ?_
  refine ⟨F1, A, γ, rel.ext e1, ?_⟩
  cases e' : g γ with
  | no => rw [e'] at h; exact h
  | er x => rw [e'] at h; exact h
  | ok k =>
    rw [e'] at h
    simp only [R.bind_ok] at h
    intro F2 H2 u ex2 r2
    refine o F2 H2 l.x k.x v u Q ex2.sub (r1.rv.ext ex2) r2.rv ?_
    cases e'' : p l.x k.x with
    | no => rw [e''] at h; exact h
    | er x => exact (ne _ _ _ e'').elim
    | ok l' =>
      rw [e''] at h
      exact fun F' H' w ex n => h F' H' w (ex2.trans ex) (n.r (e1.trans ex2).hle)
theorem tq1 {p : PV → R Vl} {r : V → Hp → VK → Prop} {f : Ex} (ne : NoEr1 p) (o : Op1 X cl p r) {σ H Q} (h : tq X.K cl W (x1 p f) σ H Q) : tUn r (tq X.K cl W f) σ H Q := by
  refine tq.bind (g := fun l γ => p l.x) h fun F A γ l F1 H1 v rel e e1 r1 h => ?_
  refine o F1 H1 l.x v Q e1.sub r1.rv ?_
  cases e'' : p l.x with
  | no => rw [e''] at h; exact h
  | er x => exact (ne _ _ e'').elim
  | ok l' =>
    rw [e''] at h
    exact fun F' H' w ex n => h F' H' w ex (n.r e1.hle)
theorem q_op {op : Operator} {p : PV → PV → R Vl} {r : R2} {a b : Expr} {pos : Pos} {f g : Ex} (ho : OpR X (binaryOp op) r) (ne : NoEr2 p) (o : Op2 X cl p r) (ha : QE cl X W f a) (hb : QE cl X W g b) :
    QE cl X W (x2 p f g) (.BinOp a op b pos) := ⟨(pe_op ho ha.pe hb.pe).imp fun σ H Q h => tq2 ne o h⟩
theorem q_cmp {op : CmpOp} {p : PV → PV → R Vl} {r : R2} {a b : Expr} {pos : Pos} {f g : Ex} (ho : OpR X (compareOp op) r) (ne : NoEr2 p) (o : Op2 X cl p r) (ha : QE cl X W f a) (hb : QE cl X W g b)
    (hm : behindInMarks op b = false := by rfl) : QE cl X W (x2 p f g) (.Compare a [op] [b] pos) := ⟨(pe_cmpR ho ha.pe hb.pe hm).imp fun σ H Q h => tq2 ne o h⟩
theorem q_un {op : UnaryOp} {p : PV → R Vl} {r : V → Hp → VK → Prop} {a : Expr} {pos : Pos} {f : Ex} (ho : UnR X (unaryOp op) r) (ne : NoEr1 p) (o : Op1 X cl p r) (ha : QE cl X W f a) :
    QE cl X W (x1 p f) (.UnaryOp op a pos) := ⟨(pe_un ho ha.pe).imp fun σ H Q h => tq1 ne o h⟩
theorem q_ix {p : PV → PV → R Vl} {r : R2} {a b : Expr} {pos : Pos} {f g : Ex} (ho : IxR X r) (ne : NoEr2 p) (o : Op2 X cl p r) (ha : QE cl X W f a) (hb : QE cl X W g b) (hs : PlainIx b := by exact fun _ _ => rfl) :
    QE cl X W (x2 p f g) (.Subscript a b pos) := ⟨(pe_ix ho ha.pe hb.pe hs).imp fun σ H Q h => tq2 ne o h⟩

/-! ### tests -/
/-- the truth of a value -/
def pTru : PV → R Bool
  | .non => .ok false
  | .bl b => .ok b
  | .int i => .ok (i != 0)
  | .str y => if y.length ≤ sizeLine then .ok ((y.length : Int) != 0) else .no
  | .lst xs => .ok (!xs.isEmpty)
  | .tup xs => .ok (!xs.isEmpty)
  | _ => .no
theorem RpL.isEmpty {T : Tb} {F : Hp} {xs : List PV} {vs : List V} (h : RpL T F xs vs) : vs.isEmpty = xs.isEmpty := by
  cases xs with
  | nil => simp only [RpL] at h; subst h; rfl
  | cons x xs => simp only [RpL] at h; obtain ⟨v, ws, rfl, _⟩ := h; rfl
/-- readable lists, tuples -/
theorem Rv.lst {T : Tb} {F H : Hp} {xs : List PV} {v : V} (h : Rv T F H (.lst xs) v) (s : Same F H) : ∃ a vs, v = .ref a ∧ SqL T.K H a vs ∧ RpL T F xs vs := by
  obtain ⟨m, A, h⟩ := h
  cases m with
  | fz =>
    simp only [OwM, Rp] at h
    obtain ⟨⟨a, vs, rfl, q, r⟩, _⟩ := h
    exact ⟨a, vs, rfl, .inl (rd_mono s q), r⟩
  | ow =>
    simp only [OwM] at h
    obtain ⟨a, rfl, _, vs, q, r⟩ := h
    exact ⟨a, vs, rfl, SqL.of q, r⟩
  | ob ms => simp [OwM] at h
  | lk => simp [OwM] at h
theorem Rv.tup {T : Tb} {F H : Hp} {xs : List PV} {v : V} (h : Rv T F H (.tup xs) v) (s : Same F H) : ∃ a vs, v = .ref a ∧ H a = some (.tup vs) ∧ RpL T F xs vs := by
  obtain ⟨m, A, h⟩ := h
  cases m with
  | fz =>
    simp only [OwM, Rp] at h
    obtain ⟨⟨a, vs, rfl, q, r⟩, _⟩ := h
    exact ⟨a, vs, rfl, s _ _ q, r⟩
  | ow => simp [OwM] at h
  | ob ms => simp [OwM] at h
  | lk => simp [OwM] at h
theorem Rv.dct {T : Tb} {F H : Hp} {t kvs} {v : V} (h : Rv T F H (.dct t kvs) v) (s : Same F H) : ∃ a ks, v = .ref a ∧ DctAt H a t ks ∧ RpD T F kvs ks := by
  obtain ⟨m, A, h⟩ := h
  cases m with
  | fz =>
    simp only [OwM, Rp] at h
    obtain ⟨⟨a, vs, rfl, q, r⟩, _⟩ := h
    exact ⟨a, vs, rfl, q.mono (s a), r⟩
  | ow =>
    simp only [OwM] at h
    obtain ⟨a, rfl, _, vs, q, r⟩ := h
    exact ⟨a, vs, rfl, q.at, r⟩
  | ob ms => simp [OwM] at h
  | lk =>
    simp only [OwM] at h
    obtain ⟨d, od, es, kvs', e, rfl, rfl, r4, r5⟩ := h
    cases e
    exact ⟨d, _, rfl, ⟨es, .inr ⟨od, s _ _ r4⟩, rfl⟩, r5⟩
theorem Rv.set {T : Tb} {F H : Hp} {xs} {v : V} (h : Rv T F H (.set xs) v) (s : Same F H) : ∃ a, v = .ref a ∧ SetAt H a xs := by
  obtain ⟨m, A, h⟩ := h
  cases m with
  | fz =>
    simp only [OwM, Rp] at h
    obtain ⟨⟨a, rfl, q⟩, _⟩ := h
    exact ⟨a, rfl, SetAt.mono (s a) q⟩
  | ow =>
    simp only [OwM] at h
    obtain ⟨a, rfl, _, q⟩ := h
    exact ⟨a, rfl, q⟩
  | ob ms => simp [OwM] at h
  | lk => simp [OwM] at h
theorem Rv.obj {T : Tb} {F H : Hp} {c fs} {v : V} (h : Rv T F H (.obj c fs) v) (s : Same F H) : ∃ a C dx vs, v = .ref a ∧ T.cl.i c = some C ∧ H a = some (.ins C dx vs) := by
  obtain ⟨m, A, h⟩ := h
  cases m with
  | fz =>
    simp only [OwM, Rp] at h
    obtain ⟨⟨a, C, dx, vs, rfl, q, r, _⟩, _⟩ := h
    exact ⟨a, C, dx, vs, rfl, q, s _ _ r⟩
  | ow => simp [OwM] at h
  | ob ms =>
    simp only [OwM] at h
    obtain ⟨a, C, dx, vs, _, rfl, _, q, r, _⟩ := h
    exact ⟨a, C, dx, vs, rfl, r, q⟩
  | lk => simp [OwM] at h
theorem Rv.exc {T : Tb} {F H : Hp} {c fs} {v : V} (h : Rv T F H (.exc c fs) v) (s : Same F H) : ∃ a C d vs, v = .ref a ∧ T.cl.e c = some C ∧ F a = some (ExV a C d) ∧ H a = some (ExV a C d) ∧ ExD F d vs ∧ RpF T F fs vs := by
  obtain ⟨m, A, h⟩ := h
  cases m with
  | fz =>
    simp only [OwM, Rp] at h
    obtain ⟨⟨a, C, d, vs, rfl, q, r, x, l⟩, _⟩ := h
    exact ⟨a, C, d, vs, rfl, q, r, s _ _ r, x, l⟩
  | ow => simp [OwM] at h
  | ob ms => simp [OwM] at h
  | lk => simp [OwM] at h
/-- scalars -/
theorem Rv.non {T : Tb} {F H : Hp} {v : V} (h : Rv T F H .non v) : v = .non := by
  obtain ⟨m, A, h⟩ := h
  cases m <;> simp [OwM, Rp] at h; exact h.1
theorem Rv.bl {T : Tb} {F H : Hp} {v : V} {b} (h : Rv T F H (.bl b) v) : v = .bl b := by
  obtain ⟨m, A, h⟩ := h
  cases m <;> simp [OwM, Rp] at h; exact h.1
theorem Rv.int {T : Tb} {F H : Hp} {v : V} {b} (h : Rv T F H (.int b) v) : v = .int b := by
  obtain ⟨m, A, h⟩ := h
  cases m <;> simp [OwM, Rp] at h; exact h.1
theorem Rv.str {T : Tb} {F H : Hp} {v : V} {b} (h : Rv T F H (.str b) v) : v = .str b := by
  obtain ⟨m, A, h⟩ := h
  cases m <;> simp [OwM, Rp] at h; exact h.1
theorem pTru_ok {F H : Hp} {x : PV} {v : V} {b : Bool} (s : Same F H) (h : Rv ⟨X.K, cl⟩ F H x v) (e : pTru x = .ok b) : TruV X.K v H b := by
  cases x with
  | non => rw [h.non]; simp only [pTru, R.ok.injEq] at e; exact e.symm
  | bl c => rw [h.bl]; simp only [pTru, R.ok.injEq] at e; exact e.symm
  | int c => rw [h.int]; simp only [pTru, R.ok.injEq] at e; exact e.symm
  | str c =>
    rw [h.str]
    simp only [pTru] at e
    split at e
    · simp only [R.ok.injEq] at e; exact ⟨by assumption, e.symm⟩
    · cases e
  | lst xs =>
    obtain ⟨a, vs, rfl, q, r⟩ := h.lst s
    simp only [pTru, R.ok.injEq] at e
    exact .inl ⟨vs, q, by rw [r.isEmpty]; exact e.symm⟩
  | tup xs =>
    obtain ⟨a, vs, rfl, q, r⟩ := h.tup s
    simp only [pTru, R.ok.injEq] at e
    exact .inr (.inl ⟨vs, SqT.of q, by rw [r.isEmpty]; exact e.symm⟩)
  | _ => simp [pTru] at e
def xT (f : Ex) : Env → R Bool := fun γ => (f γ).bind fun l => pTru l.x
theorem pTru_ne (x : PV) (e : Xc) : pTru x ≠ .er e := by
  cases x <;> simp [pTru]
  split <;> simp
/-- an expression of any kind as a test -/
theorem qt_val {e : Expr} {f : Ex} (h : QE cl X W f e) (he : ∀ whole, isTrue e X.env whole = (do let v ← whole; standAt e.pos; holding [v] (truthy v)) := by intro _; rfl) : QT cl X W (xT f) e := by
  refine ⟨(pt_truth h.pe he).imp fun σ H Q h => ?_⟩
  obtain ⟨F, A, γ, rel, h⟩ := h
  refine ⟨F, A, γ, rel, ?_⟩
  unfold xT at h
  cases e : f γ with
  | no => rw [e] at h; exact h
  | er x => rw [e] at h; exact h
  | ok l =>
    rw [e] at h
    simp only [R.bind_ok] at h
    intro F1 H1 v e1 r1
    cases e' : pTru l.x with
    | no => rw [e'] at h; exact h.elim
    | er x => exact (pTru_ne _ _ e').elim
    | ok b =>
      rw [e'] at h
      exact ⟨b, pTru_ok e1.sub r1.rv e', h F1 H1 e1⟩
end
end Z
/-! the pure layer, part D: arguments, displays, and/or/not, if-expressions, chains, operators -/
namespace Z
open PySem L2
def sm (n : Nat) : Bool := decide (n ≤ 16777216)
theorem sm_le {n : Nat} (h : sm n = true) : n ≤ sizeLine := by
  rw [sizeLine_eq]; exact of_decide_eq_true h
theorem RvL.length {T : Tb} {F H : Hp} : ∀ {xs : List PV} {vs : List V}, RvL T F H xs vs → vs.length = xs.length
  | [], _, h => by simp only [RvL] at h; subst h; rfl
  | x :: xs, _, h => by
    simp only [RvL] at h
    obtain ⟨v, ws, rfl, _, q⟩ := h
    simp [RvL.length q]
theorem RvL.one {T : Tb} {F H : Hp} {x : PV} {vs : List V} (h : RvL T F H [x] vs) : ∃ v, vs = [v] ∧ Rv T F H x v := by
  simp only [RvL] at h
  obtain ⟨v, ws, rfl, p, rfl⟩ := h
  exact ⟨v, rfl, p⟩
theorem RvL.two {T : Tb} {F H : Hp} {x y : PV} {vs : List V} (h : RvL T F H [x, y] vs) : ∃ v w, vs = [v, w] ∧ Rv T F H x v ∧ Rv T F H y w := by
  simp only [RvL] at h
  obtain ⟨v, ws, rfl, p, w, ws', rfl, q, rfl⟩ := h
  exact ⟨v, w, rfl, p, q⟩

/-- what may be kept -/
def Vl.keep : Vl → R PV
  | .fr _ x => .ok x
  | .pk .fz x => .ok x
  | .pk _ _ => .no
@[simp] theorem Vl.keep_fr (m x) : (Vl.fr m x).keep = .ok x := (rfl)
@[simp] theorem Vl.keep_fz (x) : (Vl.pk .fz x).keep = .ok x := (rfl)
theorem Vl.keep_ne (l : Vl) (e : Xc) : l.keep ≠ .er e := by
  cases l with
  | fr m x => simp [Vl.keep]
  | pk m x => cases m <;> simp [Vl.keep]
/-- kept: frozen -/
theorem keep_ok {T : Tb} {F H F1 H1 : Hp} {A : List Addr} {l : Vl} {v : V} {x : PV} (r : VlR T F1 H1 H A l v) (e1 : Ext F H F1 H1) (e : l.keep = .ok x) : ∃ F2, Ext F H F2 H1 ∧ Same F1 F2 ∧ Rp T F2 x v := by
  cases l with
  | fr m y =>
    simp only [Vl.keep_fr, R.ok.injEq] at e
    subst e
    obtain ⟨Ar, h1, h2, h3⟩ := r
    have d : ∀ a ∈ Ar, F1 a = none := fun a ha => (h3 a ha).2
    refine ⟨frz F1 H1 Ar, ⟨frz_sub e1.sub, e1.fle.trans (frz_same d), e1.hle, fun a o h => ?_⟩, frz_same d, OwM.freeze (frz_same d) m h1 fun a ha o h => frz_at ha h⟩
    by_cases ha : a ∈ Ar
    · exact .inr (h3 a ha).1
    · rw [frz_out ha] at h; exact e1.new a o h
  | pk m y =>
    cases m with
    | fz =>
      simp only [Vl.keep_fz, R.ok.injEq] at e
      subst e
      obtain ⟨Ai, h1, _⟩ := r
      simp only [OwM] at h1
      exact ⟨F1, e1, Same.refl _, h1.1⟩
    | ow => simp [Vl.keep] at e
    | ob ms => simp [Vl.keep] at e
    | lk => simp [Vl.keep] at e

section
variable {X : Cx} {cl : Cl} {W : WX}

/-! ### argument lists -/
def aNil : Env → R (List PV) := fun _ => .ok []
def aCons (f : Ex) (fs : Env → R (List PV)) : Env → R (List PV) := fun γ => (f γ).bind fun l => (fs γ).bind fun xs => .ok (l.x :: xs)
def zCons (f : Ex) (fs : Env → R (List PV)) : Env → R (List PV) := fun γ => (f γ).bind fun l => l.keep.bind fun x => (fs γ).bind fun xs => .ok (x :: xs)
theorem qa_nil : QA cl X W aNil [] := ⟨pa_nil.imp fun σ H Q h => by
  obtain ⟨F, A, γ, rel, h⟩ := h
  exact h F H [] (Ext.refl rel.sub) rfl⟩
theorem qz_nil : QZ cl X W aNil [] := ⟨pa_nil.imp fun σ H Q h => by
  obtain ⟨F, A, γ, rel, h⟩ := h
  exact h F H [] (Ext.refl rel.sub) RpL.nil⟩
theorem qa_cons {f fs} {e : Expr} {es : List Expr} (he : QE cl X W f e) (ht : QA cl X W fs es) (hs : starEach (e :: es) X.env = (false, eval e X.env) :: starEach es X.env := by rfl) : QA cl X W (aCons f fs) (e :: es) := by
  refine ⟨(pa_cons he.pe ht.pa hs).imp fun σ H Q h => ?_⟩
  obtain ⟨F, A, γ, rel, h⟩ := h
  refine ⟨F, A, γ, rel, ?_⟩
  unfold aCons at h
  cases e : f γ with
  | no => rw [e] at h; exact h
  | er x => rw [e] at h; exact h
  | ok l =>
    rw [e] at h
    simp only [R.bind_ok] at h
    intro F1 H1 v e1 r1
    refine ⟨F1, A, γ, rel.ext e1, ?_⟩
    cases e' : fs γ with
    | no => rw [e'] at h; exact h
    | er x => rw [e'] at h; exact fun F' H' c d ex => h F' H' c d (e1.trans ex)
    | ok xs =>
      rw [e'] at h
      simp only [R.bind_ok] at h
      intro F2 H2 vs e2 r2
      exact h F2 H2 (v :: vs) (e1.trans e2) ⟨v, vs, rfl, r1.rv.ext e2, r2⟩
theorem qz_cons {f fs} {e : Expr} {es : List Expr} (he : QE cl X W f e) (ht : QZ cl X W fs es) (hs : starEach (e :: es) X.env = (false, eval e X.env) :: starEach es X.env := by rfl) : QZ cl X W (zCons f fs) (e :: es) := by
  refine ⟨(pa_cons he.pe ht.pa hs).imp fun σ H Q h => ?_⟩
  obtain ⟨F, A, γ, rel, h⟩ := h
  refine ⟨F, A, γ, rel, ?_⟩
  unfold zCons at h
  cases e : f γ with
  | no => rw [e] at h; exact h
  | er x => rw [e] at h; exact h
  | ok l =>
    rw [e] at h
    simp only [R.bind_ok] at h
    intro F1 H1 v e1 r1
    cases ek : l.keep with
    | no => rw [ek] at h; exact h.elim
    | er x => exact (l.keep_ne _ ek).elim
    | ok x =>
      rw [ek] at h
      simp only [R.bind_ok] at h
      obtain ⟨F2, e2, s2, rx⟩ := keep_ok r1 e1 ek
      refine ⟨F2, A, γ, rel.ext e2, ?_⟩
      cases e' : fs γ with
      | no => rw [e'] at h; exact h
      | er x => rw [e'] at h; exact fun F' H' c d ex => h F' H' c d (e2.trans ex)
      | ok xs =>
        rw [e'] at h
        simp only [R.bind_ok] at h
        intro F3 H3 vs e3 r3
        exact h F3 H3 (v :: vs) (e2.trans e3) (RpL.cons (rx.mono e3.fle) r3)

/-! ### displays -/
def xTup (fs : Env → R (List PV)) : Ex := fun γ => (fs γ).bind fun xs => if sm xs.length then .ok (.z (.tup xs)) else .no
def xLst (fs : Env → R (List PV)) : Ex := fun γ => (fs γ).bind fun xs => if sm xs.length then .ok (.fr .ow (.lst xs)) else .no
theorem new_tup {T : Tb} {F H : Hp} {xs : List PV} {vs : List V} {p : Addr} (s : Same F H) (np : H p = none) (r : RpL T F xs vs) : Rp T (upd F p (.tup vs)) (.tup xs) (.ref p) := by
  have nf : F p = none := s.free np
  simp only [Rp]
  exact ⟨p, vs, rfl, upd_same, RpL.mono (fun a o h => by rw [upd_ne (ne_of_none h nf)]; exact h) xs vs r⟩
theorem new_lst {T : Tb} {F H : Hp} {xs : List PV} {vs : List V} {p : Addr} (s : Same F H) (np : H p = none) (r : RpL T F xs vs) : OwM T F (upd H p (.lst vs)) .ow (.lst xs) (.ref p) [p] := by
  simp only [OwM]
  exact ⟨p, rfl, rfl, vs, upd_same, r⟩
theorem vlN_lst {T : Tb} {F H : Hp} {xs : List PV} {vs : List V} {p : Addr} (s : Same F H) (np : H p = none) (r : RpL T F xs vs) : VlN T F (upd H p (.lst vs)) H (.fr .ow (.lst xs)) (.ref p) :=
  ⟨[p], new_lst s np r, by simp, fun a ha => by
    obtain rfl : a = p := by simpa using ha
    exact ⟨np, s.free np⟩⟩
/-- a new tuple, a new list as answers -/
theorem Post.tup {T : Tb} {F H : Hp} {xs : List PV} {vs : List V} {Q : VK} {p : Addr} (s : Same F H) (np : H p = none) (r : RpL T F xs vs) (h : Post T F H (.ok (.z (.tup xs))) Q) : Q (.ref p) (upd H p (.tup vs)) :=
  h _ _ _ (Ext.newF s np) (VlN.z (new_tup s np r))
theorem Post.lst {T : Tb} {F H : Hp} {xs : List PV} {vs : List V} {Q : VK} {p : Addr} (s : Same F H) (np : H p = none) (r : RpL T F xs vs) (h : Post T F H (.ok (.fr .ow (.lst xs))) Q) : Q (.ref p) (upd H p (.lst vs)) :=
  h _ _ _ (Ext.newO s np) (vlN_lst s np r)
theorem q_tup {fs} {es : List Expr} {x1} {pos : Pos} (h : QZ cl X W fs es) : QE cl X W (xTup fs) (.Tuple es x1 pos) := by
  refine ⟨(pe_tup h.pa).imp fun σ H Q h => ?_⟩
  obtain ⟨F, A, γ, rel, h⟩ := h
  refine ⟨F, A, γ, rel, ?_⟩
  unfold xTup at h
  cases e : fs γ with
  | no => rw [e] at h; exact h
  | er x => rw [e] at h; exact h
  | ok xs =>
    rw [e] at h
    simp only [R.bind_ok] at h
    intro F1 H1 vs e1 r1
    cases z : sm xs.length with
    | false => rw [z] at h; exact h.elim
    | true =>
      rw [z] at h
      refine ⟨by rw [r1.length]; exact sm_le z, fun p np => ?_⟩
      exact h _ _ _ (e1.trans (Ext.newF e1.sub np)) (VlR.zz (new_tup e1.sub np r1))
theorem q_lst {fs} {es : List Expr} {pos : Pos} (h : QZ cl X W fs es) : QE cl X W (xLst fs) (.List es pos) := by
  refine ⟨(pe_lst h.pa).imp fun σ H Q h => ?_⟩
  obtain ⟨F, A, γ, rel, h⟩ := h
  refine ⟨F, A, γ, rel, ?_⟩
  unfold xLst at h
  cases e : fs γ with
  | no => rw [e] at h; exact h
  | er x => rw [e] at h; exact h
  | ok xs =>
    rw [e] at h
    simp only [R.bind_ok] at h
    intro F1 H1 vs e1 r1
    cases z : sm xs.length with
    | false => rw [z] at h; exact h.elim
    | true =>
      rw [z] at h
      refine ⟨by rw [r1.length]; exact sm_le z, fun p np => ?_⟩
      exact h _ _ _ (e1.trans (Ext.newO e1.sub np)) ((vlN_lst e1.sub np r1).r e1.hle)

/-! ### and, or, not by truth -/
def xOr (f g : Ex) : Ex := fun γ => (f γ).bind fun l => (pTru l.x).bind fun b => if b then .ok l else g γ
def xAnd (f g : Ex) : Ex := fun γ => (f γ).bind fun l => (pTru l.x).bind fun b => if b then g γ else .ok l
def xNot (f : Ex) : Ex := fun γ => (f γ).bind fun l => (pTru l.x).bind fun b => .ok (.z (.bl (!b)))
theorem q_one {op} {f} {a : Expr} {pos : Pos} (h : QE cl X W f a) : QE cl X W f (.BoolOp op [a] pos) := ⟨pe_one h.pe⟩
theorem tqG {f : Ex} {σ : St} {H : Hp} {F : Hp} {A : List Addr} {γ : Env} {Q : VK} {F1 H1} (rel : Rel ⟨X.K, cl⟩ F A σ H γ) (e1 : Ext F H F1 H1)
    (h : match f γ with
      | .ok l => ∀ F' H' v, Ext F H F' H' → VlR ⟨X.K, cl⟩ F' H' H A l v → Q v H'
      | .er e => ∀ F' H' c d, Ext F H F' H' → XcR ⟨X.K, cl⟩ F' e c d → W c d σ H'
      | .no => False) : tq X.K cl W f σ H1 Q := by
  refine ⟨F1, A, γ, rel.ext e1, ?_⟩
  cases e' : f γ with
  | no => rw [e'] at h; exact h
  | er x => rw [e'] at h; exact fun F' H' c d ex => h F' H' c d (e1.trans ex)
  | ok k =>
    rw [e'] at h
    intro F2 H2 u e2 r2
    refine h F2 H2 u (e1.trans e2) ?_
    cases k with
    | fr m x => obtain ⟨Ar, h1, h2, h3⟩ := r2; exact ⟨Ar, h1, h2, fun a ha => ⟨e1.hle.free (h3 a ha).1, (h3 a ha).2⟩⟩
    | pk m x => exact r2
theorem q_or {f g} {a b : Expr} {rest : List Expr} {pos : Pos} (ha : QE cl X W f a) (hb : QE cl X W g (.BoolOp .Or (b :: rest) pos)) : QE cl X W (xOr f g) (.BoolOp .Or (a :: b :: rest) pos) := by
  refine ⟨(pe_orT ha.pe hb.pe).imp fun σ H Q h => ?_⟩
  obtain ⟨F, A, γ, rel, h⟩ := h
  refine ⟨F, A, γ, rel, ?_⟩
  unfold xOr at h
  cases e : f γ with
  | no => rw [e] at h; exact h
  | er x => rw [e] at h; exact h
  | ok l =>
    rw [e] at h
    simp only [R.bind_ok] at h
    intro F1 H1 v e1 r1
    cases et : pTru l.x with
    | no => rw [et] at h; exact h.elim
    | er x => exact (pTru_ne _ _ et).elim
    | ok b =>
      rw [et] at h
      simp only [R.bind_ok] at h
      refine ⟨b, pTru_ok e1.sub r1.rv et, ?_⟩
      cases b with
      | true => exact h F1 H1 v e1 r1
      | false => exact tqG rel e1 h
theorem q_and {f g} {a b : Expr} {rest : List Expr} {pos : Pos} (ha : QE cl X W f a) (hb : QE cl X W g (.BoolOp .And (b :: rest) pos)) : QE cl X W (xAnd f g) (.BoolOp .And (a :: b :: rest) pos) := by
  refine ⟨(pe_andT ha.pe hb.pe).imp fun σ H Q h => ?_⟩
  obtain ⟨F, A, γ, rel, h⟩ := h
  refine ⟨F, A, γ, rel, ?_⟩
  unfold xAnd at h
  cases e : f γ with
  | no => rw [e] at h; exact h
  | er x => rw [e] at h; exact h
  | ok l =>
    rw [e] at h
    simp only [R.bind_ok] at h
    intro F1 H1 v e1 r1
    cases et : pTru l.x with
    | no => rw [et] at h; exact h.elim
    | er x => exact (pTru_ne _ _ et).elim
    | ok b =>
      rw [et] at h
      simp only [R.bind_ok] at h
      refine ⟨b, pTru_ok e1.sub r1.rv et, ?_⟩
      cases b with
      | false => exact h F1 H1 v e1 r1
      | true => exact tqG rel e1 h
theorem q_not {f} {a : Expr} {pos : Pos} (ha : QE cl X W f a) : QE cl X W (xNot f) (.UnaryOp .Not a pos) := by
  refine ⟨(pe_notT ha.pe).imp fun σ H Q h => ?_⟩
  obtain ⟨F, A, γ, rel, h⟩ := h
  refine ⟨F, A, γ, rel, ?_⟩
  unfold xNot at h
  cases e : f γ with
  | no => rw [e] at h; exact h
  | er x => rw [e] at h; exact h
  | ok l =>
    rw [e] at h
    simp only [R.bind_ok] at h
    intro F1 H1 v e1 r1
    cases et : pTru l.x with
    | no => rw [et] at h; exact h.elim
    | er x => exact (pTru_ne _ _ et).elim
    | ok b =>
      rw [et] at h
      exact ⟨b, pTru_ok e1.sub r1.rv et, h F1 H1 _ e1 (VlR.zz (by simp [Rp]))⟩

/-! ### tests: and, or, not -/
def tAndF (t u : Env → R Bool) : Env → R Bool := fun γ => (t γ).bind fun b => if b then u γ else .ok false
def tOrF (t u : Env → R Bool) : Env → R Bool := fun γ => (t γ).bind fun b => if b then .ok true else u γ
def tNotF (t : Env → R Bool) : Env → R Bool := fun γ => (t γ).bind fun b => .ok (!b)
theorem tqTG {f : Env → R Bool} {σ : St} {H : Hp} {F : Hp} {A : List Addr} {γ : Env} {Q : Bool → Hp → Prop} {F1 H1} (rel : Rel ⟨X.K, cl⟩ F A σ H γ) (e1 : Ext F H F1 H1)
    (h : match f γ with
      | .ok b => ∀ F' H', Ext F H F' H' → Q b H'
      | .er e => ∀ F' H' c d, Ext F H F' H' → XcR ⟨X.K, cl⟩ F' e c d → W c d σ H'
      | .no => False) : tqT X.K cl W f σ H1 Q := by
  refine ⟨F1, A, γ, rel.ext e1, ?_⟩
  cases e' : f γ with
  | no => rw [e'] at h; exact h
  | er x => rw [e'] at h; exact fun F' H' c d ex => h F' H' c d (e1.trans ex)
  | ok k => rw [e'] at h; exact fun F2 H2 e2 => h F2 H2 (e1.trans e2)
theorem qw_pt {t} {e : Expr} (h : QW cl X W t e) : QT cl X W t e := ⟨h.pw.pt⟩
theorem qw_and1 {t} {a : Expr} {pos : Pos} (h : QT cl X W t a) : QW cl X W t (.BoolOp .And [a] pos) := ⟨pw_and1 h.pt⟩
theorem qw_or1 {t} {a : Expr} {pos : Pos} (h : QT cl X W t a) : QW cl X W t (.BoolOp .Or [a] pos) := ⟨pw_or1 h.pt⟩
theorem qw_and {t u} {a b : Expr} {rest : List Expr} {pos : Pos} (ha : QT cl X W t a) (hb : QW cl X W u (.BoolOp .And (b :: rest) pos)) : QW cl X W (tAndF t u) (.BoolOp .And (a :: b :: rest) pos) := by
  refine ⟨(pw_and ha.pt hb.pw).imp fun σ H Q h => ?_⟩
  obtain ⟨F, A, γ, rel, h⟩ := h
  refine ⟨F, A, γ, rel, ?_⟩
  unfold tAndF at h
  cases e : t γ with
  | no => rw [e] at h; exact h
  | er x => rw [e] at h; exact h
  | ok l =>
    rw [e] at h
    simp only [R.bind_ok] at h
    intro F1 H1 e1
    cases l with
    | false => exact h F1 H1 e1
    | true => exact tqTG rel e1 h
theorem qw_or {t u} {a b : Expr} {rest : List Expr} {pos : Pos} (ha : QT cl X W t a) (hb : QW cl X W u (.BoolOp .Or (b :: rest) pos)) : QW cl X W (tOrF t u) (.BoolOp .Or (a :: b :: rest) pos) := by
  refine ⟨(pw_or ha.pt hb.pw).imp fun σ H Q h => ?_⟩
  obtain ⟨F, A, γ, rel, h⟩ := h
  refine ⟨F, A, γ, rel, ?_⟩
  unfold tOrF at h
  cases e : t γ with
  | no => rw [e] at h; exact h
  | er x => rw [e] at h; exact h
  | ok l =>
    rw [e] at h
    simp only [R.bind_ok] at h
    intro F1 H1 e1
    cases l with
    | true => exact h F1 H1 e1
    | false => exact tqTG rel e1 h
theorem qt_not {t} {a : Expr} {pos : Pos} (ha : QT cl X W t a) : QT cl X W (tNotF t) (.UnaryOp .Not a pos) := by
  refine ⟨(pt_not ha.pt).imp fun σ H Q h => ?_⟩
  obtain ⟨F, A, γ, rel, h⟩ := h
  refine ⟨F, A, γ, rel, ?_⟩
  unfold tNotF at h
  cases e : t γ with
  | no => rw [e] at h; exact h
  | er x => rw [e] at h; exact h
  | ok l => rw [e] at h; exact h
def xIf (t : Env → R Bool) (f g : Ex) : Ex := fun γ => (t γ).bind fun b => if b then f γ else g γ
theorem q_if {t f g} {c a b : Expr} {pos : Pos} (hc : QT cl X W t c) (ha : QE cl X W f a) (hb : QE cl X W g b) : QE cl X W (xIf t f g) (.IfExp c a b pos) := by
  refine ⟨(pe_ifExp hc.pt ha.pe hb.pe).imp fun σ H Q h => ?_⟩
  obtain ⟨F, A, γ, rel, h⟩ := h
  refine ⟨F, A, γ, rel, ?_⟩
  unfold xIf at h
  cases e : t γ with
  | no => rw [e] at h; exact h
  | er x => rw [e] at h; exact h
  | ok l =>
    rw [e] at h
    simp only [R.bind_ok] at h
    intro F1 H1 e1
    cases l with
    | true => exact tqG rel e1 h
    | false => exact tqG rel e1 h

/-! ### comparisons, chains -/
def pb (p : PV → PV → R Bool) : PV → PV → R Vl := fun x y => (p x y).map fun b => .z (.bl b)
def NoErB (p : PV → PV → R Bool) : Prop := ∀ x y e, p x y ≠ .er e
theorem pb_ne {p} (h : NoErB p) : NoEr2 (pb p) := fun x y e z => by
  unfold pb at z
  cases q : p x y with
  | ok b => rw [q] at z; cases z
  | no => rw [q] at z; cases z
  | er e' => exact h x y e' q
def xChain (p p' : PV → PV → R Bool) (f g h : Ex) : Ex := fun γ => (f γ).bind fun l => (g γ).bind fun k => (p l.x k.x).bind fun b => if b then (h γ).bind fun j => pb p' k.x j.x else .ok (.z (.bl false))
theorem tqChain {p p' : PV → PV → R Bool} {r r' : R2} {f g h : Ex} (n : NoErB p) (n' : NoErB p') (o : Op2 X cl (pb p) r) (o' : Op2 X cl (pb p') r') {σ : L2.St} {H : Hp} {Q : VK} (hh : tq X.K cl W (xChain p p' f g h) σ H Q) : tChain r r' (tq X.K cl W f) (tq X.K cl W g) (tq X.K cl W h) σ H Q := by
  refine tq.bind (g := fun l γ => (g γ).bind fun k => (p l.x k.x).bind fun b => if b then (h γ).bind fun j => pb p' k.x j.x else .ok (.z (.bl false))) hh fun F A γ l F1 H1 v rel e e1 r1 hh => ?_
  refine ⟨F1, A, γ, rel.ext e1, ?_⟩
  cases e' : g γ with
  | no => rw [e'] at hh; exact hh
  | er x => rw [e'] at hh; exact hh
  | ok k =>
    rw [e'] at hh
    simp only [R.bind_ok] at hh
    intro F2 H2 u e2 r2
    refine o F2 H2 l.x k.x v u _ e2.sub (r1.rv.ext e2) r2.rv ?_
    cases e3 : p l.x k.x with
    | no => rw [e3] at hh; exact hh.elim
    | er x => exact (n _ _ _ e3).elim
    | ok b =>
      rw [e3] at hh
      simp only [pb, e3, R.map]
      simp only [R.bind_ok] at hh
      intro F3 H3 w e4 rw'
      have ew : w = .bl b := by
        obtain ⟨Ar, q, _⟩ := rw'
        simp [OwM, Rp] at q
        exact q.1
      refine ⟨b, ew, ?_⟩
      cases b with
      | false => exact hh F3 H3 _ (e2.trans e4) (VlR.zz (by simp [Rp]))
      | true =>
        refine ⟨F3, A, γ, (rel.ext e1).ext (e2.trans e4), ?_⟩
        cases e5 : h γ with
        | no => rw [e5] at hh; exact hh
        | er x => rw [e5] at hh; exact fun F' H' c d ex => hh F' H' c d ((e2.trans e4).trans ex)
        | ok j =>
          rw [e5] at hh
          simp only [R.bind_ok] at hh
          intro F5 H5 z e6 r6
          refine o' F5 H5 k.x j.x u z Q e6.sub (r2.rv.ext (e4.trans e6)) r6.rv ?_
          simp only [↓reduceIte, R.bind_ok] at hh
          cases e7 : pb p' k.x j.x with
          | no => rw [e7] at hh; exact hh
          | er x => exact (pb_ne n' _ _ _ e7).elim
          | ok l' =>
            rw [e7] at hh
            exact fun F' H' w ex nn => hh F' H' w ((e2.trans e4).trans (e6.trans ex)) (nn.r ((e1.trans (e2.trans e4)).hle.trans e6.hle))

theorem q_chain {op op' : CmpOp} {p p' : PV → PV → R Bool} {r r' : R2} {a b c : Expr} {pos : Pos} {f g h : Ex} (ho : OpR X (compareOp op) r) (ho' : OpR X (compareOp op') r') (n : NoErB p) (n' : NoErB p') (o : Op2 X cl (pb p) r) (o' : Op2 X cl (pb p') r')
    (ha : QE cl X W f a) (hb : QE cl X W g b) (hc : QE cl X W h c) (k : PE X (.Compare a [op, op'] [b, c] pos) (tChain r r' (tq X.K cl W f) (tq X.K cl W g) (tq X.K cl W h))) : QE cl X W (xChain p p' f g h) (.Compare a [op, op'] [b, c] pos) := ⟨k.imp fun σ H Q hh => tqChain n n' o o' hh⟩
/-! ### built-ins by values -/
def OpL (X : Cx) (cl : Cl) (p : List PV → R Vl) (r : List V → Hp → VK → Prop) : Prop :=
  ∀ F H xs vs Q, Same F H → RvL ⟨X.K, cl⟩ F H xs vs → Post ⟨X.K, cl⟩ F H (p xs) Q → r vs H Q
def NoErL (p : List PV → R Vl) : Prop := ∀ x e, p x ≠ .er e
def xB (p : List PV → R Vl) (fs : Env → R (List PV)) : Ex := fun γ => (fs γ).bind p
theorem tqB {p : List PV → R Vl} {r} {fs} (n : NoErL p) (o : OpL X cl p r) {σ H Q} (h : tq X.K cl W (xB p fs) σ H Q) : tCB r (tqA X.K cl W fs) σ H Q := by
  obtain ⟨F, A, γ, rel, h⟩ := h
  refine ⟨F, A, γ, rel, ?_⟩
  unfold xB at h
  cases e : fs γ with
  | no => rw [e] at h; exact h
  | er x => rw [e] at h; exact h
  | ok l =>
    rw [e] at h
    simp only [R.bind_ok] at h
    intro F1 H1 vs e1 r1
    refine o F1 H1 l vs Q e1.sub r1 ?_
    cases e' : p l with
    | no => rw [e'] at h; exact h
    | er x => exact (n _ _ e').elim
    | ok l' =>
      rw [e'] at h
      exact fun F' H' w ex nn => h F' H' w (e1.trans ex) (nn.r e1.hle)
theorem q_callB {x : Str} {id : String} {p : List PV → R Vl} {r} {fs} {e : Expr} {es : List Expr} {p1 pos : Pos} (hc : CallR X (.builtin id) r) (n : NoErL p) (o : OpL X cl p r) (hv : bootBuiltins x = some (.builtin id)) (hg : Gl X x) (hm : X.mg x = none)
    (ha : QA cl X W fs (e :: es)) (hn : x ≠ "__name__" := by decide) (hdb : (x == ("__debug__" : Str)) = false := by decide)
    (he : starEach (e :: es) X.env = (false, eval e X.env) :: starEach es X.env := by rfl) (hpl : (backTo pos (starEach es X.env)).any (·.1) = false := by rfl) : QE cl X W (xB p fs) (.Call (.Name x p1) (e :: es) [] pos) :=
  ⟨(pe_callB hc hg hm hv ha.pa hn hdb he hpl).imp fun _ _ _ h => tqB n o h⟩
theorem q_callTy {x : Str} {id : String} {p : List PV → R Vl} {r} {fs} {e : Expr} {es : List Expr} {p1 pos : Pos} (hc : CallR X (.type id) r) (n : NoErL p) (o : OpL X cl p r) (hv : bootBuiltins x = some (.type id)) (hg : Gl X x) (hm : X.mg x = none)
    (ha : QA cl X W fs (e :: es)) (hn : x ≠ "__name__" := by decide) (hdb : (x == ("__debug__" : Str)) = false := by decide)
    (he : starEach (e :: es) X.env = (false, eval e X.env) :: starEach es X.env := by rfl) (hpl : (backTo pos (starEach es X.env)).any (·.1) = false := by rfl) : QE cl X W (xB p fs) (.Call (.Name x p1) (e :: es) [] pos) :=
  ⟨(pe_callTy hc hg hm hv ha.pa hn hdb he hpl).imp fun _ _ _ h => tqB n o h⟩
end
end Z
/-! the pure layer, part E: the operators by values -/
namespace Z
open PySem L2

/-! ### equality of data -/
mutual
def peq : PV → PV → Bool
  | .non, .non => true
  | .bl a, .bl b => a == b
  | .bl a, .int b => (if a then 1 else 0) == b
  | .int a, .bl b => a == (if b then 1 else 0)
  | .int a, .int b => a == b
  | .str a, .str b => a == b
  | .tup xs, .tup ys => peqL xs ys
  | .lst xs, .lst ys => peqL xs ys
  | _, _ => false
def peqL : List PV → List PV → Bool
  | [], [] => true
  | x :: xs, y :: ys => peq x y && peqL xs ys
  | _, _ => false
end
mutual
def toD : PV → PyData
  | .bl b => .bool b
  | .int i => .int i
  | .str x => .str x
  | .tup xs => .tuple (toDL xs)
  | .lst xs => .list (toDL xs)
  | _ => .none
def toDL : List PV → List PyData
  | [] => []
  | x :: xs => toD x :: toDL xs
end
mutual
/-- data of a depth: no dicts, sets, instances in it -/
def isD : Nat → PV → Bool
  | _, .non => true
  | _, .bl _ => true
  | _, .int _ => true
  | _, .str x => PyData.strOk x
  | n, .tup xs => isDL n xs
  | n, .lst xs => isDL n xs
  | _, _ => false
def isDL : Nat → List PV → Bool
  | 0, _ => false
  | _ + 1, [] => true
  | n + 1, x :: xs => isD n x && isDL (n + 1) xs
end
mutual
theorem dp_of {T : Tb} {F H : Hp} (s : Same F H) : (x : PV) → ∀ {n v}, Rp T F x v → isD n x = true → Dp T.K H v (toD x) ∧ (toD x).canLay0 = true ∧ (toD x).depth ≤ n
  | .non, n, v, h, d => by simp only [Rp] at h; subst h; exact ⟨.non, by simp [toD, PyData.canLay0], by simp [toD, PyData.depth]⟩
  | .bl b, n, v, h, d => by simp only [Rp] at h; subst h; exact ⟨.bl b, by simp [toD, PyData.canLay0], by simp [toD, PyData.depth]⟩
  | .int b, n, v, h, d => by simp only [Rp] at h; subst h; exact ⟨.int b, by simp [toD, PyData.canLay0], by simp [toD, PyData.depth]⟩
  | .str b, n, v, h, d => by
    simp only [Rp] at h; subst h
    simp only [isD] at d
    exact ⟨.str b, by simpa [toD, PyData.canLay0] using d, by simp [toD, PyData.depth]⟩
  | .tup xs, n, v, h, d => by
    simp only [Rp] at h
    obtain ⟨a, vs, rfl, q, r⟩ := h
    simp only [isD] at d
    obtain ⟨h1, h2, h3⟩ := dpL_of s xs r d
    refine ⟨.tup (SqT.of (s _ _ q)) h1, by simpa [toD, PyData.canLay0] using h2, ?_⟩
    simp only [toD, PyData.depth]
    exact h3
  | .lst xs, n, v, h, d => by
    simp only [Rp] at h
    obtain ⟨a, vs, rfl, q, r⟩ := h
    simp only [isD] at d
    obtain ⟨h1, h2, h3⟩ := dpL_of s xs r d
    refine ⟨.lst (.inl (rd_mono s q)) h1, by simpa [toD, PyData.canLay0] using h2, ?_⟩
    simp only [toD, PyData.depth]
    exact h3
  | .dct _ _, n, v, h, d => by simp [isD] at d
  | .set _, n, v, h, d => by simp [isD] at d
  | .obj _ _, n, v, h, d => by simp [isD] at d
theorem dpL_of {T : Tb} {F H : Hp} (s : Same F H) : (xs : List PV) → ∀ {n vs}, RpL T F xs vs → isDL n xs = true → DpAll T.K H vs (toDL xs) ∧ PyData.canLayAll0 (toDL xs) = true ∧ PyData.depthAll (toDL xs) + 1 ≤ n
  | [], n, vs, h, d => by
    simp only [RpL] at h; subst h
    refine ⟨.nil, by simp [toDL, PyData.canLayAll0], ?_⟩
    cases n with
    | zero => simp [isDL] at d
    | succ n => simp [toDL, PyData.depthAll]
  | x :: xs, n, vs, h, d => by
    simp only [RpL] at h
    obtain ⟨v, ws, rfl, p, q⟩ := h
    cases n with
    | zero => simp [isDL] at d
    | succ n =>
      simp only [isDL, Bool.and_eq_true] at d
      obtain ⟨h1, h2, h3⟩ := dp_of s x p d.1
      obtain ⟨k1, k2, k3⟩ := dpL_of s xs q d.2
      refine ⟨.cons h1 k1, by simp [toDL, PyData.canLayAll0, h2, k2], ?_⟩
      simp only [toDL, PyData.depthAll]
      omega
end
mutual
theorem eqv_toD : (x y : PV) → ∀ {n m}, isD n x = true → isD m y = true → PyData.eqv (toD x) (toD y) = peq x y
  | .tup xs, y, n, m, h, k => by
    simp only [isD] at h
    cases y <;> simp_all [toD, peq, isD, PyData.eqv]
    exact eqvL_toD xs _ h k
  | .lst xs, y, n, m, h, k => by
    simp only [isD] at h
    cases y <;> simp_all [toD, peq, isD, PyData.eqv]
    exact eqvL_toD xs _ h k
  | .non, y, n, m, h, k => by cases y <;> simp_all [toD, peq, isD, PyData.eqv]
  | .bl b, y, n, m, h, k => by cases y <;> simp_all [toD, peq, isD, PyData.eqv]
  | .int b, y, n, m, h, k => by cases y <;> simp_all [toD, peq, isD, PyData.eqv]
  | .str b, y, n, m, h, k => by cases y <;> simp_all [toD, peq, isD, PyData.eqv]
  | .dct _ _, y, n, m, h, k => by simp [isD] at h
  | .set _, y, n, m, h, k => by simp [isD] at h
  | .obj _ _, y, n, m, h, k => by simp [isD] at h
theorem eqvL_toD : (xs ys : List PV) → ∀ {n m}, isDL n xs = true → isDL m ys = true → PyData.eqvAll (toDL xs) (toDL ys) = peqL xs ys
  | [], ys, n, m, h, k => by cases ys <;> simp [toDL, peqL, PyData.eqvAll]
  | x :: xs, [], n, m, h, k => by simp [toDL, peqL, PyData.eqvAll]
  | x :: xs, y :: ys, n, m, h, k => by
    cases n with
    | zero => simp [isDL] at h
    | succ n =>
      cases m with
      | zero => simp [isDL] at k
      | succ m =>
        simp only [isDL, Bool.and_eq_true] at h k
        simp only [toDL, peqL, PyData.eqvAll]
        rw [eqv_toD x y h.1 k.1, eqvL_toD xs ys h.2 k.2]
end
theorem dp_rv {T : Tb} {F H : Hp} (s : Same F H) {x : PV} {v : V} {n : Nat} (h : Rv T F H x v) (d : isD n x = true) (hn : n ≤ 64) : Dp T.K H v (toD x) ∧ SeqAt.shaped (toD x) = true := by
  have fin : ∀ {k : PyData}, k.canLay0 = true → k.depth ≤ n → SeqAt.shaped k = true := fun c e => by
    unfold SeqAt.shaped
    rw [c, Bool.true_and]
    exact decide_eq_true (Nat.le_trans e hn)
  obtain ⟨m, A, hm⟩ := h
  cases m with
  | fz =>
    simp only [OwM] at hm
    obtain ⟨h1, h2, h3⟩ := dp_of s x hm.1 d
    exact ⟨h1, fin h2 h3⟩
  | ow =>
    simp only [OwM] at hm
    obtain ⟨a, rfl, _, hm⟩ := hm
    cases x with
    | lst xs =>
      obtain ⟨vs, q, r⟩ := hm
      simp only [isD] at d
      obtain ⟨h1, h2, h3⟩ := dpL_of s xs r d
      refine ⟨.lst (SqL.of q) h1, fin ?_ ?_⟩
      · simpa [toD, PyData.canLay0] using h2
      · simp only [toD, PyData.depth]; exact h3
    | dct _ _ => simp [isD] at d
    | set _ => simp [isD] at d
    | _ => exact hm.elim
  | ob ms =>
    simp only [OwM] at hm
    obtain ⟨a, C, dx, vs, A', _, _, _, hm⟩ := hm
    cases x <;> first | exact hm.elim | simp [isD] at d
  | lk =>
    simp only [OwM] at hm
    obtain ⟨_, _, _, _, rfl, _⟩ := hm
    simp [isD] at d

@[simp] def bothStr : PV → PV → Bool
  | .str _, .str _ => true
  | _, _ => false
theorem bothStr_eq {x y : PV} (h : bothStr x y = true) : ∃ a b, x = .str a ∧ y = .str b := by
  cases x <;> cases y <;> simp at h
  exact ⟨_, _, rfl, rfl⟩
def pEq (x y : PV) : R Bool := if bothStr x y || (isD 60 x && isD 60 y) then .ok (peq x y) else .no
def pNe (x y : PV) : R Bool := if bothStr x y || (isD 60 x && isD 60 y) then .ok (!peq x y) else .no
theorem pEq_ne : NoErB pEq := fun x y e h => by unfold pEq at h; split at h <;> cases h
theorem pNe_ne : NoErB pNe := fun x y e h => by unfold pNe at h; split at h <;> cases h

section
variable {X : Cx} {cl : Cl} {W : WX}
theorem Post.bl {T : Tb} {F H : Hp} {b : Bool} {Q : VK} (s : Same F H) (h : Post T F H (.ok (.z (.bl b))) Q) : Q (.bl b) H := h.of s (by simp [Rp])
theorem Post.int {T : Tb} {F H : Hp} {b : Int} {Q : VK} (s : Same F H) (h : Post T F H (.ok (.z (.int b))) Q) : Q (.int b) H := h.of s (by simp [Rp])
theorem Post.str {T : Tb} {F H : Hp} {b : Str} {Q : VK} (s : Same F H) (h : Post T F H (.ok (.z (.str b))) Q) : Q (.str b) H := h.of s (by simp [Rp])
theorem o_eq : Op2 X cl (pb pEq) (fun x y H Q => rEq x y H Q ∨ rEqD X.K x y H Q) := by
  intro F H x y v u Q s rx ry h
  unfold pb pEq at h
  split at h
  · rename_i d
    rw [Bool.or_eq_true, Bool.and_eq_true] at d
    rcases d with d | d
    · obtain ⟨a, b, rfl, rfl⟩ := bothStr_eq d
      have e1 := rx.str
      have e2 := ry.str
      subst e1 e2
      refine .inl ⟨rfl, ?_⟩
      rw [show decide (V.str a = V.str b) = peq (.str a) (.str b) by rw [Bool.eq_iff_iff]; simp [peq]]
      exact Post.bl s h
    · obtain ⟨d1, s1⟩ := dp_rv s rx d.1 (by decide)
      obtain ⟨d2, s2⟩ := dp_rv s ry d.2 (by decide)
      refine .inr ⟨_, _, d1, d2, s1, s2, ?_⟩
      rw [eqv_toD x y d.1 d.2]
      exact Post.bl s h
  · exact h.elim
theorem o_ne : Op2 X cl (pb pNe) (fun x y H Q => rNe x y H Q ∨ rNeD X.K x y H Q) := by
  intro F H x y v u Q s rx ry h
  unfold pb pNe at h
  split at h
  · rename_i d
    rw [Bool.or_eq_true, Bool.and_eq_true] at d
    rcases d with d | d
    · obtain ⟨a, b, rfl, rfl⟩ := bothStr_eq d
      have e1 := rx.str
      have e2 := ry.str
      subst e1 e2
      refine .inl ⟨rfl, ?_⟩
      rw [show decide (V.str a = V.str b) = peq (.str a) (.str b) by rw [Bool.eq_iff_iff]; simp [peq]]
      exact Post.bl s h
    · obtain ⟨d1, s1⟩ := dp_rv s rx d.1 (by decide)
      obtain ⟨d2, s2⟩ := dp_rv s ry d.2 (by decide)
      refine .inr ⟨_, _, d1, d2, s1, s2, ?_⟩
      rw [eqv_toD x y d.1 d.2]
      exact Post.bl s h
  · exact h.elim

/-! ### numbers -/
def i2 (p : Int → Int → R PV) : PV → PV → R Vl := fun x y => match x, y with
  | .int i, .int j => (p i j).map .z
  | _, _ => .no
theorem i2_ne {p : Int → Int → R PV} (h : ∀ i j e, p i j ≠ .er e) : NoEr2 (i2 p) := fun x y e z => by
  unfold i2 at z
  split at z
  · rename_i i j
    cases q : p i j with
    | ok b => rw [q] at z; cases z
    | no => rw [q] at z; cases z
    | er e' => exact h i j e' q
  · cases z
theorem o_i0 {g : Int → Int → PV} {g' : Int → Int → V} (hg : ∀ F i j, Rp ⟨X.K, cl⟩ F (g i j) (g' i j)) : Op2 X cl (i2 fun i j => .ok (g i j)) (rI0 g') := by
  intro F H x y v u Q s rx ry h
  unfold i2 at h
  split at h
  · rename_i i j
    exact ⟨i, j, rx.int, ry.int, h.of s (hg F i j)⟩
  · exact h.elim
theorem o_i {C : Int → Int → Prop} {c : Int → Int → Bool} {g : Int → Int → PV} {g' : Int → Int → V} (hc : ∀ i j, c i j = true → C i j) (hg : ∀ F i j, Rp ⟨X.K, cl⟩ F (g i j) (g' i j)) : Op2 X cl (i2 fun i j => if c i j then .ok (g i j) else .no) (rI C g') := by
  intro F H x y v u Q s rx ry h
  unfold i2 at h
  split at h
  · rename_i i j
    cases z : c i j with
    | false => simp [z, R.map, Post] at h
    | true => simp only [z, if_true, R.map] at h; exact ⟨i, j, rx.int, ry.int, hc i j z, h.of s (hg F i j)⟩
  · exact h.elim
theorem ite_ne {α : Type} {c : Bool} {a : α} {e : Xc} : (if c then R.ok a else R.no) ≠ .er e := by cases c <;> simp

def cMul (i j : Int) : Bool := (decide (-(2 ^ 64) < i) && decide (i < 2 ^ 64)) || (decide (-(2 ^ 64) < j) && decide (j < 2 ^ 64))
def cPow (i j : Int) : Bool := decide (0 ≤ j) && decide (j ≤ 1000000) && decide (i.natAbs < 2 ^ 64)
def cDiv (_ j : Int) : Bool := decide (0 < j) && decide (j.natAbs.log2 < 9000)
def pAddI : PV → PV → R Vl := i2 fun i j => .ok (.int (i + j))
def pSub : PV → PV → R Vl := i2 fun i j => .ok (.int (i - j))
def pMulI : PV → PV → R Vl := i2 fun i j => if cMul i j then .ok (.int (i * j)) else .no
def pMod : PV → PV → R Vl := i2 fun i j => if decide (0 < j) then .ok (.int (i % j)) else .no
def pDiv : PV → PV → R Vl := i2 fun i j => if cDiv i j then .ok (.int (i / j)) else .no
def pPow : PV → PV → R Vl := i2 fun i j => if cPow i j then .ok (.int (i ^ j.toNat)) else .no
def pShl : PV → PV → R Vl := i2 fun i j => if cPow i j then .ok (.int (i * 2 ^ j.toNat)) else .no
def pShr : PV → PV → R Vl := i2 fun i j => if decide (0 ≤ j) then .ok (.int (i / 2 ^ j.toNat)) else .no
def pAnd2 : PV → PV → R Vl := i2 fun i j => .ok (.int (Builtin.bitAnd i j))
theorem q_sub {a b : Expr} {pos : Pos} {f g : Ex} (ha : QE cl X W f a) (hb : QE cl X W g b) : QE cl X W (x2 pSub f g) (.BinOp a .Sub b pos) := q_op op_sub (i2_ne fun _ _ _ h => by cases h) (o_i0 fun _ _ _ => by simp [Rp]) ha hb
theorem q_mod {a b : Expr} {pos : Pos} {f g : Ex} (ha : QE cl X W f a) (hb : QE cl X W g b) : QE cl X W (x2 pMod f g) (.BinOp a .Mod b pos) := q_op op_mod (i2_ne fun _ _ _ => ite_ne) (o_i (fun _ _ h => of_decide_eq_true h) fun _ _ _ => by simp [Rp]) ha hb
theorem q_div {a b : Expr} {pos : Pos} {f g : Ex} (ha : QE cl X W f a) (hb : QE cl X W g b) : QE cl X W (x2 pDiv f g) (.BinOp a .FloorDiv b pos) := q_op op_fdivW (i2_ne fun _ _ _ => ite_ne) (o_i (fun i j h => by
  simp only [cDiv, Bool.and_eq_true, decide_eq_true_eq] at h; exact h) fun _ _ _ => by simp [Rp]) ha hb
theorem q_pow {a b : Expr} {pos : Pos} {f g : Ex} (ha : QE cl X W f a) (hb : QE cl X W g b) : QE cl X W (x2 pPow f g) (.BinOp a .Pow b pos) := q_op op_pow (i2_ne fun _ _ _ => ite_ne) (o_i (fun i j h => by
  simp only [cPow, Bool.and_eq_true, decide_eq_true_eq] at h; exact ⟨h.1.1, h.1.2, h.2⟩) fun _ _ _ => by simp [Rp]) ha hb
theorem q_shl {a b : Expr} {pos : Pos} {f g : Ex} (ha : QE cl X W f a) (hb : QE cl X W g b) : QE cl X W (x2 pShl f g) (.BinOp a .LShift b pos) := q_op op_shl (i2_ne fun _ _ _ => ite_ne) (o_i (fun i j h => by
  simp only [cPow, Bool.and_eq_true, decide_eq_true_eq] at h; exact ⟨h.1.1, h.1.2, h.2⟩) fun _ _ _ => by simp [Rp]) ha hb
theorem q_shr {a b : Expr} {pos : Pos} {f g : Ex} (ha : QE cl X W f a) (hb : QE cl X W g b) : QE cl X W (x2 pShr f g) (.BinOp a .RShift b pos) := q_op op_shr (i2_ne fun _ _ _ => ite_ne) (o_i (fun _ _ h => of_decide_eq_true h) fun _ _ _ => by simp [Rp]) ha hb
theorem q_bitand {a b : Expr} {pos : Pos} {f g : Ex} (ha : QE cl X W f a) (hb : QE cl X W g b) : QE cl X W (x2 pAnd2 f g) (.BinOp a .BitAnd b pos) := q_op op_and (i2_ne fun _ _ _ h => by cases h) (o_i0 fun _ _ _ => by simp [Rp]) ha hb
def pNeg : PV → R Vl
  | .int i => .ok (.z (.int (-i)))
  | _ => .no
theorem q_neg {a : Expr} {pos : Pos} {f : Ex} (ha : QE cl X W f a) : QE cl X W (x1 pNeg f) (.UnaryOp .USub a pos) := by
  refine q_un un_neg (fun x e h => by cases x <;> simp [pNeg] at h) (fun F H x v Q s rx h => ?_) ha
  cases x <;> first | exact h.elim | skip
  exact ⟨_, rx.int, h.int s⟩

/-! ### + and * of more than numbers -/
theorem OpR.imp {f : Value → Value → Sem Value} {r r' : R2} (h : OpR X f r) (k : ∀ x y H Q, r' x y H Q → r x y H Q) : OpR X f r' := fun pins s σ H x y v u Q I rx ry q => h pins s σ H x y v u Q I rx ry (k x y H Q q)
/-- lists, also locked ones -/
theorem _root_.L2.Inv.lstR {pins : List (Addr × Obj)} {σ : St} {H : Hp} {s : Shared} {l : Addr} {xs : List V} (I : Inv X pins σ H s) (hH : Rd H l (.lst xs)) : xs.length ≤ sizeLine ∧ ∃ (its : List Value) (n : Nat), Vals xs its ∧ xs.length = its.length ∧ s.heap.get? l = some { cls := .type "list", data := .seq its.toArray n } := by
  obtain ⟨z, its, n, r, e⟩ := hH.ok I.hok
  exact ⟨z, its, n, r, r.length, e⟩
def rCatR : R2 := fun x y H Q => ∃ l b xs zs, x = .ref l ∧ y = .ref b ∧ Rd H l (.lst xs) ∧ Rd H b (.lst zs) ∧ xs.length + zs.length ≤ sizeLine ∧ ∀ p, H p = none → Q (.ref p) (upd H p (.lst (xs ++ zs)))
theorem op_catR : OpR X (binaryOp .Add) rCatR := by
  intro pins s σ H x y v u Q I rx ry h
  obtain ⟨l, b, xs, zs, rfl, rfl, hH, hB, hz, q⟩ := h
  cases rx
  cases ry
  obtain ⟨z, its, n, r, hl, e⟩ := I.lstR hH
  obtain ⟨z2, its2, n2, r2, hl2, e2⟩ := I.lstR hB
  refine PySem.P.add_list e e2 ?_ (by rw [List.size_toArray, List.size_toArray]; omega)
  have ea : its.toArray ++ its2.toArray = (its ++ its2).toArray := by simp
  rw [ea]
  exact ⟨.ref _, _, I.lnew (t' := s.toks) (r.append r2) (by rw [List.length_append]; omega), rfl, q _ I.fresh⟩
/-- t + u of tuples; one of both empty: the other one itself -/
def rCatU : R2 := fun x y H Q => ∃ a b xs ys, x = .ref a ∧ y = .ref b ∧ H a = some (.tup xs) ∧ H b = some (.tup ys) ∧ xs.length + ys.length ≤ sizeLine ∧
  (xs = [] → Q (.ref b) H) ∧ (xs ≠ [] → ys = [] → Q (.ref a) H) ∧ (xs ≠ [] → ys ≠ [] → ∀ p, H p = none → Q (.ref p) (upd H p (.tup (xs ++ ys))))
theorem op_catU : OpR X (binaryOp .Add) rCatU := by
  intro pins s σ H x y v u Q I rx ry h
  obtain ⟨a, b, xs, ys, rfl, rfl, ha, hb, hz, q0, q1, q2⟩ := h
  by_cases hx : xs = []
  · cases rx
    cases ry
    obtain ⟨its, r1, p1, _⟩ := I.tuple (SqT.of ha)
    obtain ⟨its2, r2, p2, _⟩ := I.tuple (SqT.of hb)
    obtain ⟨⟨cls, dd, data, sl⟩, ho, hc, n, hd⟩ := id p1
    obtain ⟨⟨cls2, dd2, data2, sl2⟩, ho2, hc2, n2, hd2⟩ := id p2
    simp only at hc hd hc2 hd2
    subst hc hd hc2 hd2
    have e0 : its.toArray.isEmpty = true := by
      have : its = [] := r1.nil_iff.mpr hx
      simp [this]
    exact PySem.concat_meets ⟨_, ho, rfl⟩ ⟨_, ho2, rfl⟩ PySem.noFill_tuple_add PySem.seq_tuple_add PySem.F.slot_tuple_add PySem.F.entry_tuple_add (PySem.F.args_tuple_add_2 _ _)
      (PyProof.Rows.tuple_addW0 a b its.toArray its2.toArray n n2 dd dd2 sl sl2 e0) ⟨ho, ho2, ⟨.ref b, H, I, rfl, q0 hx⟩⟩
  · exact op_catT pins s σ H _ _ v u Q I rx ry ⟨a, b, xs, ys, rfl, rfl, SqT.of ha, SqT.of hb, hx, hz, q1 hx, q2 hx⟩
def pAdd : PV → PV → R Vl := fun x y => match x, y with
  | .int i, .int j => .ok (.z (.int (i + j)))
  | .str i, .str j => if sm (i.length + j.length) then .ok (.z (.str (i ++ j))) else .no
  | .lst xs, .lst ys => if sm (xs.length + ys.length) then .ok (.fr .ow (.lst (xs ++ ys))) else .no
  | .tup xs, .tup ys => if sm (xs.length + ys.length) then .ok (.z (.tup (xs ++ ys))) else .no
  | _, _ => .no
theorem pAdd_ne : NoEr2 pAdd := fun x y e h => by
  unfold pAdd at h
  split at h <;> first | (split at h <;> cases h) | cases h
def rAddAll : R2 := fun x y H Q => rI0 (fun i j => .int (i + j)) x y H Q ∨ (∃ i j, x = .str i ∧ y = .str j ∧ i.length + j.length ≤ sizeLine ∧ Q (.str (i ++ j)) H) ∨ rCatR x y H Q ∨ rCatU x y H Q
theorem op_addAll : OpR X (binaryOp .Add) rAddAll := OpR.or op_add (OpR.or op_add_str (OpR.or op_catR op_catU))
theorem RpL.nil_iff {T : Tb} {F : Hp} {xs : List PV} {vs : List V} (r : RpL T F xs vs) : vs = [] ↔ xs = [] := by
  have e := r.length
  constructor
  · rintro rfl; exact List.length_eq_zero_iff.mp e.symm
  · rintro rfl; exact List.length_eq_zero_iff.mp e
theorem Rv.lstR {T : Tb} {F H : Hp} {xs : List PV} {v : V} (h : Rv T F H (.lst xs) v) (s : Same F H) : ∃ a vs, v = .ref a ∧ Rd H a (.lst vs) ∧ RpL T F xs vs := by
  obtain ⟨m, A, h⟩ := h
  cases m with
  | fz =>
    simp only [OwM, Rp] at h
    obtain ⟨⟨a, vs, rfl, q, r⟩, _⟩ := h
    exact ⟨a, vs, rfl, rd_mono s q, r⟩
  | ow =>
    simp only [OwM] at h
    obtain ⟨a, rfl, _, vs, q, r⟩ := h
    exact ⟨a, vs, rfl, .inl q, r⟩
  | ob ms => simp [OwM] at h
  | lk => simp [OwM] at h
theorem Rv.tupF {T : Tb} {F H : Hp} {xs : List PV} {v : V} (h : Rv T F H (.tup xs) v) : Rp T F (.tup xs) v := by
  obtain ⟨m, A, h⟩ := h
  cases m with
  | fz => simp only [OwM] at h; exact h.1
  | ow => simp [OwM] at h
  | ob ms => simp [OwM] at h
  | lk => simp [OwM] at h
theorem o_add : Op2 X cl pAdd rAddAll := by
  intro F H x y v u Q s rx ry h
  unfold pAdd at h
  split at h
  · exact .inl ⟨_, _, rx.int, ry.int, h.int s⟩
  · rename_i i j
    cases z : sm (i.length + j.length) with
    | false => rw [z] at h; exact h.elim
    | true => rw [z] at h; exact .inr (.inl ⟨_, _, rx.str, ry.str, sm_le z, h.str s⟩)
  · rename_i xs ys
    cases z : sm (xs.length + ys.length) with
    | false => rw [z] at h; exact h.elim
    | true =>
      rw [z] at h
      obtain ⟨a, vs, rfl, q, r⟩ := rx.lstR s
      obtain ⟨b, us, rfl, q', r'⟩ := ry.lstR s
      exact .inr (.inr (.inl ⟨a, b, vs, us, rfl, rfl, q, q', by rw [r.length, r'.length]; exact sm_le z, fun p np => Post.lst s np (r.append r') h⟩))
  · rename_i xs ys
    cases z : sm (xs.length + ys.length) with
    | false => rw [z] at h; exact h.elim
    | true =>
      rw [z] at h
      have fx := rx.tupF
      have fy := ry.tupF
      obtain ⟨a, vs, rfl, q, r⟩ := rx.tup s
      obtain ⟨b, us, rfl, q', r'⟩ := ry.tup s
      refine .inr (.inr (.inr ⟨a, b, vs, us, rfl, rfl, q, q', by rw [r.length, r'.length]; exact sm_le z, fun e => ?_, fun _ e => ?_, fun _ _ p np => Post.tup s np (r.append r') h⟩))
      · have ex : xs = [] := r.nil_iff.mp e
        subst ex
        exact h.of s (by simpa using fy)
      · have ey : ys = [] := r'.nil_iff.mp e
        subst ey
        exact h.of s (by simpa using fx)
  · exact h.elim
theorem q_add {a b : Expr} {pos : Pos} {f g : Ex} (ha : QE cl X W f a) (hb : QE cl X W g b) : QE cl X W (x2 pAdd f g) (.BinOp a .Add b pos) := q_op op_addAll pAdd_ne o_add ha hb
def rRepR : R2 := fun x y H Q => ∃ l k xs, x = .ref l ∧ y = .int k ∧ H l = some (.lst xs) ∧ -(2 ^ 63) ≤ k ∧ k < 2 ^ 63 ∧ xs.length * k.toNat ≤ sizeLine ∧
  ∀ p, H p = none → Q (.ref p) (upd H p (.lst (List.replicate k.toNat xs).flatten))
def pMul : PV → PV → R Vl := fun x y => match x, y with
  | .int i, .int j => if cMul i j then .ok (.z (.int (i * j))) else .no
  | _, _ => .no
theorem pMul_ne : NoEr2 pMul := fun x y e h => by
  unfold pMul at h
  split at h <;> first | (split at h <;> cases h) | cases h
theorem o_mul : Op2 X cl pMul (rI CMul fun i j => .int (i * j)) := by
  intro F H x y v u Q s rx ry h
  unfold pMul at h
  split at h
  · rename_i i j
    cases z : cMul i j with
    | false => rw [z] at h; exact h.elim
    | true =>
      rw [z] at h
      refine ⟨_, _, rx.int, ry.int, ?_, h.int s⟩
      simp only [cMul, Bool.or_eq_true, Bool.and_eq_true, decide_eq_true_eq] at z
      exact z
  · exact h.elim
theorem q_mul {a b : Expr} {pos : Pos} {f g : Ex} (ha : QE cl X W f a) (hb : QE cl X W g b) : QE cl X W (x2 pMul f g) (.BinOp a .Mult b pos) := q_op op_mul pMul_ne o_mul ha hb

/-! ### comparisons -/
theorem q_eq {a b : Expr} {pos : Pos} {f g : Ex} (hu : X.A.units + 64 < cLine) (ha : QE cl X W f a) (hb : QE cl X W g b) : QE cl X W (x2 (pb pEq) f g) (.Compare a [.Eq] [b] pos) := q_cmp (OpR.or op_eq (op_eqD hu)) (pb_ne pEq_ne) o_eq ha hb (nomark _)
theorem q_ne {a b : Expr} {pos : Pos} {f g : Ex} (hu : X.A.units + 64 < cLine) (ha : QE cl X W f a) (hb : QE cl X W g b) : QE cl X W (x2 (pb pNe) f g) (.Compare a [.NotEq] [b] pos) := q_cmp (OpR.or op_ne (op_neD hu)) (pb_ne pNe_ne) o_ne ha hb (nomark _)
def iB (p : Int → Int → Bool) : PV → PV → R Bool := fun x y => match x, y with
  | .int i, .int j => .ok (p i j)
  | _, _ => .no
theorem iB_ne {p} : NoErB (iB p) := fun x y e h => by unfold iB at h; split at h <;> cases h
theorem o_iB {p : Int → Int → Bool} : Op2 X cl (pb (iB p)) (rI0 fun i j => .bl (p i j)) := by
  intro F H x y v u Q s rx ry h
  unfold pb iB at h
  split at h
  · exact ⟨_, _, rx.int, ry.int, h.bl s⟩
  · exact h.elim
def pLt : PV → PV → R Bool := iB fun i j => decide (i < j)
def pLe : PV → PV → R Bool := iB fun i j => decide (i ≤ j)
def pGt : PV → PV → R Bool := iB fun i j => decide (j < i)
def pGe : PV → PV → R Bool := iB fun i j => decide (j ≤ i)
theorem q_lt {a b : Expr} {pos : Pos} {f g : Ex} (ha : QE cl X W f a) (hb : QE cl X W g b) : QE cl X W (x2 (pb pLt) f g) (.Compare a [.Lt] [b] pos) := q_cmp op_lt (pb_ne iB_ne) o_iB ha hb (nomark _)
theorem q_le {a b : Expr} {pos : Pos} {f g : Ex} (ha : QE cl X W f a) (hb : QE cl X W g b) : QE cl X W (x2 (pb pLe) f g) (.Compare a [.LtE] [b] pos) := q_cmp op_le (pb_ne iB_ne) o_iB ha hb (nomark _)
theorem q_gt {a b : Expr} {pos : Pos} {f g : Ex} (ha : QE cl X W f a) (hb : QE cl X W g b) : QE cl X W (x2 (pb pGt) f g) (.Compare a [.Gt] [b] pos) := q_cmp op_gt (pb_ne iB_ne) o_iB ha hb (nomark _)
theorem q_ge {a b : Expr} {pos : Pos} {f g : Ex} (ha : QE cl X W f a) (hb : QE cl X W g b) : QE cl X W (x2 (pb pGe) f g) (.Compare a [.GtE] [b] pos) := q_cmp op_ge (pb_ne iB_ne) o_iB ha hb (nomark _)
theorem q_lele {a b c : Expr} {pos : Pos} {f g h : Ex} (ha : QE cl X W f a) (hb : QE cl X W g b) (hc : QE cl X W h c) (hm : lastMarks [CmpOp.LtE, CmpOp.LtE] [b, c] = false := by with_unfolding_all rfl) : QE cl X W (xChain pLe pLe f g h) (.Compare a [.LtE, .LtE] [b, c] pos) := q_chain op_le op_le iB_ne iB_ne o_iB o_iB ha hb hc (pe_chain op_le op_le ha.pe hb.pe hc.pe hm)
theorem q_lelt {a b c : Expr} {pos : Pos} {f g h : Ex} (ha : QE cl X W f a) (hb : QE cl X W g b) (hc : QE cl X W h c) (hm : lastMarks [CmpOp.LtE, CmpOp.Lt] [b, c] = false := by with_unfolding_all rfl) : QE cl X W (xChain pLe pLt f g h) (.Compare a [.LtE, .Lt] [b, c] pos) := q_chain op_le op_lt iB_ne iB_ne o_iB o_iB ha hb hc (pe_chain op_le op_lt ha.pe hb.pe hc.pe hm)
/-- is None -/
def isNon : PV → Bool
  | .non => true
  | _ => false
theorem rv_non {T : Tb} {F H : Hp} {x : PV} {v : V} (s : Same F H) (h : Rv T F H x v) : decide (v = .non) = isNon x := by
  cases x with
  | non => rw [h.non]; rfl
  | bl b => rw [h.bl]; rfl
  | int b => rw [h.int]; rfl
  | str b => rw [h.str]; rfl
  | tup xs => obtain ⟨a, _, rfl, _⟩ := h.tup s; rfl
  | lst xs => obtain ⟨a, _, rfl, _⟩ := h.lst s; rfl
  | dct t xs => obtain ⟨a, _, rfl, _⟩ := h.dct s; rfl
  | set xs => obtain ⟨a, rfl, _⟩ := h.set s; rfl
  | obj c fs => obtain ⟨a, _, _, _, rfl, _⟩ := h.obj s; rfl
  | exc c fs => obtain ⟨a, _, _, _, rfl, _⟩ := h.exc s; rfl
def xIsN (f : Ex) : Ex := x1 (fun x => .ok (.z (.bl (isNon x)))) f
def xNotN (f : Ex) : Ex := x1 (fun x => .ok (.z (.bl (!isNon x)))) f
theorem q_isN {a : Expr} {pos pos' : Pos} {j} {f : Ex} (ha : QE cl X W f a) : QE cl X W (xIsN f) (.Compare a [.Is] [.Constant .none j pos'] pos) := by
  refine ⟨(pe_cmp (pc_isN ha.pe)).imp fun σ H Q h => ?_⟩
  refine tq1 (r := fun x H1 Q => Q (.bl (decide (x = .non))) H1) (fun _ _ h => by cases h) (fun F H x v Q s rx h => ?_) h
  show Q (.bl (decide (v = .non))) H
  rw [rv_non s rx]
  exact h.bl s
theorem q_notN {a : Expr} {pos pos' : Pos} {j} {f : Ex} (ha : QE cl X W f a) : QE cl X W (xNotN f) (.Compare a [.IsNot] [.Constant .none j pos'] pos) := by
  refine ⟨(pe_cmp (pc_notN ha.pe)).imp fun σ H Q h => ?_⟩
  refine tq1 (r := fun x H1 Q => Q (.bl (!decide (x = .non))) H1) (fun _ _ h => by cases h) (fun F H x v Q s rx h => ?_) h
  show Q (.bl (!decide (v = .non))) H
  rw [rv_non s rx]
  exact h.bl s
end
end Z
/-! the pure layer, part F: subscripts, slices, in, dicts looked at -/
namespace PyProof.Rows
open PySem HT
theorem getItem_tuple_whole {prog : Program} {w : World} {A : Around} {E : Value → Shared → Prop} {s : Shared} {t sl : Addr} {items : Array Value} {vl vu : Value} {lo hi : Option Int} {Q : Value → Shared → Prop} (ht : IsTup s.heap t items) (hs : s.heap.IsSliceOf sl vl vu .none) (pl : IsPart vl lo) (pu : IsPart vu hi)
    (hw : HT.sIx items.size 0 lo = 0 ∧ HT.sIx items.size items.size hi = items.size) (h : Q (.ref t) s) : wpAny (model prog w) A (getItem (.ref t) (.ref sl)) Q E s := by
  obtain ⟨os, hos, hcs, hds⟩ := id hs
  have hTs : s.TypeIs (.ref sl) "slice" := ⟨os, hos, hcs⟩
  unfold getItem
  try with_reducible refine wpAny_holding ?_
  first | refine wpAny_bind (wpAny_pure ?_) | skip
  refine wpAny_bind (wpAny_sequenceKey ht.typeIs (by decide) ?_)
  refine wpAny_bind (wpAny_callSpecial?_slot (name := Str.ofString "__getitem__") ht.typeIs PyProof.Rows.slot_tuple_getitem
    (wpAny_call_entry PyProof.Rows.slot_tuple_getitem ht.typeIs entry_tuple_getitem ?_ (args_tuple_getitem _ _)))
  show wpAny _ _ (Builtin.Tuple.tupleItemsOf (.ref t) >>= _) _ _ s
  refine wpAny_bind (tupleItemsOf_ ht ?_)
  refine wpAny_bind (wpAny_typeOf hTs ?_)
  rw [if_pos (by decide)]
  refine wpAny_bind (HT.sliceApplied_gen hs pl pu ?_)
  have hyes : (((HT.sIx items.size 0 lo : Nat) : Int) == 0 && (1 : Int) == 1 && (HT.sIx items.size items.size hi - HT.sIx items.size 0 lo) == items.size) = true := by
    rw [hw.1, hw.2]; simp
  show wpAny _ _ (if (((HT.sIx items.size 0 lo : Nat) : Int) == 0 && (1 : Int) == 1 && (HT.sIx items.size items.size hi - HT.sIx items.size 0 lo) == items.size) = true then _ else _) _ _ s
  rw [if_pos hyes]
  unfold Builtin.Tuple.tupleIsExact
  refine wpAny_bind (wpAny_bind (wpAny_typeOf ht.typeIs (wpAny_pure ?_)))
  rw [if_pos (by decide)]
  refine wpAny_bind (wpAny_rule ?_)
  first
    | exact wpAny_pure ⟨_, rfl, wpAny_pure h⟩
    | exact wpAny_bind (wpAny_pure ⟨_, rfl, wpAny_pure h⟩)
    | exact wpAny_bind (wpAny_pure (wpAny_pure ⟨_, rfl, wpAny_pure h⟩))
    | exact wpAny_pure (wpAny_pure ⟨_, rfl, wpAny_pure h⟩)
end PyProof.Rows
namespace Z
open PySem L2
section
variable {X : Cx} {cl : Cl} {W : WX}
/-- t[lo:hi] of a tuple, the whole too -/
def rSlU : V → Option Int → Option Int → Hp → VK → Prop := fun x lo hi H Q => ∃ a xs, x = .ref a ∧ H a = some (.tup xs) ∧ (cutV xs lo hi = xs → Q (.ref a) H) ∧ ∀ p, H p = none → Q (.ref p) (upd H p (.tup (cutV xs lo hi)))
theorem sl_tupU : SlR X rSlU := by
  intro pins s σ H x v vl vu lo hi sl Q I rx hs pl pu h
  obtain ⟨a, xs, rfl, hx, q0, q⟩ := h
  by_cases hw : HT.sIx xs.length 0 lo = 0 ∧ HT.sIx xs.length xs.length hi = xs.length
  · cases rx
    obtain ⟨its, r, ht, hz⟩ := I.tuple (SqT.of (K := X.K) hx)
    have hlen : its.toArray.size = xs.length := by rw [List.size_toArray]; exact r.length.symm
    refine ⟨"tuple", _, PyProof.Rows.slot_tuple_getitem.lookup, ht.typeIs, ?_⟩
    refine PyProof.Rows.getItem_tuple_whole ht hs pl pu (by rw [hlen]; exact hw) ⟨.ref a, H, I, rfl, q0 ?_⟩
    unfold cutV
    rw [hw.1, hw.2]
    simp
  · exact sl_tup pins s σ H _ v vl vu lo hi sl Q I rx hs pl pu ⟨a, xs, rfl, SqT.of hx, hw, q⟩

/-! ### slices -/
def pcut (xs : List PV) (lo hi : Option Int) : List PV := (xs.drop (HT.sIx xs.length 0 lo)).take (HT.sIx xs.length xs.length hi - HT.sIx xs.length 0 lo)
theorem RpL.cut {T : Tb} {F : Hp} {xs : List PV} {vs : List V} (r : RpL T F xs vs) (lo hi : Option Int) : RpL T F (pcut xs lo hi) (cutV vs lo hi) := by
  unfold pcut cutV
  rw [r.length]
  exact (r.drop _).take _
def pSl (x : PV) (lo hi : Option Int) : R Vl := match x with
  | .lst xs => .ok (.fr .ow (.lst (pcut xs lo hi)))
  | .tup xs => .ok (.z (.tup (pcut xs lo hi)))
  | .str z => if sm z.length then .ok (.z (.str (cutS z lo hi))) else .no
  | _ => .no
theorem pSl_ne (x : PV) (a b : Option Int) (e : Xc) : pSl x a b ≠ .er e := by
  cases x <;> simp [pSl]
  split <;> simp
def rSlAll (K : PySem.W.Frag) : V → Option Int → Option Int → Hp → VK → Prop := fun x lo hi H Q => rSlL K x lo hi H Q ∨ rSlU x lo hi H Q ∨ rSlS x lo hi H Q
theorem sl_all : SlR X (rSlAll X.K) := SlR.or sl_list (SlR.or sl_tupU sl_str)
theorem o_sl {F H : Hp} {x : PV} {v : V} {lo hi : Option Int} {Q : VK} (s : Same F H) (rx : Rv ⟨X.K, cl⟩ F H x v) (h : Post ⟨X.K, cl⟩ F H (pSl x lo hi) Q) : rSlAll X.K v lo hi H Q := by
  cases x <;> first | exact h.elim | skip
  · rename_i z
    simp only [pSl] at h
    cases e : sm z.length with
    | false => rw [e] at h; exact h.elim
    | true => rw [e] at h; exact .inr (.inr ⟨z, rx.str, sm_le e, h.str s⟩)
  · rename_i xs
    have fx := rx.tupF
    obtain ⟨a, vs, rfl, q, r⟩ := rx.tup s
    refine .inr (.inl ⟨a, vs, rfl, q, fun e => ?_, fun p np => Post.tup s np (r.cut lo hi) h⟩)
    refine h.of s ?_
    simp only [Rp] at fx ⊢
    obtain ⟨a', vs', e1, e2, e3⟩ := fx
    have e4 := s _ _ e2
    cases e1
    rw [q] at e4
    cases e4
    refine ⟨a, vs, rfl, e2, ?_⟩
    have := e3.cut lo hi
    rwa [e] at this
  · obtain ⟨a, vs, rfl, q, r⟩ := rx.lst s
    exact .inl ⟨a, vs, rfl, q, fun p np => Post.lst s np (r.cut lo hi) h⟩
/-- a part of a slice -/
def xNoP : Env → R (Option Int) := fun _ => .ok none
def pPart : PV → R (Option Int)
  | .int i => .ok (some i)
  | _ => .no
def xP (f : Ex) : Env → R (Option Int) := fun γ => (f γ).bind fun l => pPart l.x
def tqO (K : PySem.W.Frag) (cl : Cl) (W : WX) (f : Env → R (Option Int)) : TO := fun σ H Q => ∃ F A γ, Rel ⟨K, cl⟩ F A σ H γ ∧ match f γ with
  | .ok b => ∀ F' H', Ext F H F' H' → Q b H'
  | .er e => ∀ F' H' c d, Ext F H F' H' → XcR ⟨K, cl⟩ F' e c d → W c d σ H'
  | .no => False
structure QO (cl : Cl) (X : Cx) (W : WX) (f : Env → R (Option Int)) (e : Option Expr) : Prop where
  po : PO X e (tqO X.K cl W f)
theorem _root_.L2.PO.imp {X : Cx} {e : Option Expr} {t t' : TO} (h : PO X e t) (k : ∀ σ H Q, t' σ H Q → t σ H Q) : PO X e t' := ⟨fun pins s σ H Q I q => h.run pins s σ H Q I (k σ H Q q)⟩
theorem qo_none : QO cl X W xNoP none := ⟨po_none.imp fun σ H Q h => by
  obtain ⟨F, A, γ, rel, h⟩ := h
  exact h F H (Ext.refl rel.sub)⟩
theorem qo_some {f} {e : Expr} (he : QE cl X W f e) : QO cl X W (xP f) (some e) := ⟨(po_some he.pe).imp fun σ H Q h => by
  obtain ⟨F, A, γ, rel, h⟩ := h
  refine ⟨F, A, γ, rel, ?_⟩
  unfold xP at h
  cases e : f γ with
  | no => rw [e] at h; exact h
  | er x => rw [e] at h; exact h
  | ok l =>
    rw [e] at h
    simp only [R.bind_ok] at h
    intro F1 H1 v e1 r1
    have rv := r1.rv
    cases ei : l.x with
    | int i =>
      rw [ei] at rv h
      exact ⟨i, rv.int, h F1 H1 e1⟩
    | _ => rw [ei] at h; exact h.elim⟩
def xSl (f : Ex) (lo hi : Env → R (Option Int)) : Ex := fun γ => (f γ).bind fun l => (lo γ).bind fun a => (hi γ).bind fun b => pSl l.x a b
theorem q_slice {f lo hi} {e : Expr} {l u : Option Expr} {p2 pos : Pos} (he : QE cl X W f e) (hl : QO cl X W lo l) (hu : QO cl X W hi u) : QE cl X W (xSl f lo hi) (.Subscript e (.Slice l u none p2) pos) := by
  refine ⟨(pe_slice sl_all he.pe hl.po hu.po).imp fun σ H Q h => ?_⟩
  refine tq.bind (g := fun l γ => (lo γ).bind fun a => (hi γ).bind fun b => pSl l.x a b) h fun F A γ l F1 H1 v rel e e1 r1 h => ?_
  refine ⟨F1, A, γ, rel.ext e1, ?_⟩
  cases ea : lo γ with
  | no => rw [ea] at h; exact h
  | er x => rw [ea] at h; exact h
  | ok a =>
    rw [ea] at h
    simp only [R.bind_ok] at h
    intro F2 H2 e2
    refine ⟨F2, A, γ, (rel.ext e1).ext e2, ?_⟩
    cases eb : hi γ with
    | no => rw [eb] at h; exact h
    | er x => rw [eb] at h; exact fun F' H' c d ex => h F' H' c d (e2.trans ex)
    | ok b =>
      rw [eb] at h
      simp only [R.bind_ok] at h
      intro F3 H3 e3
      refine o_sl (cl := cl) e3.sub (r1.rv.ext (e2.trans e3)) ?_
      cases ep : pSl l.x a b with
      | no => rw [ep] at h; exact h
      | er x => exact (pSl_ne _ _ _ _ ep).elim
      | ok l' => rw [ep] at h; exact fun F' H' w ex nn => h F' H' w ((e2.trans e3).trans ex) (nn.r ((e1.trans (e2.trans e3)).hle))
/-- xs[::-1] of a list -/
def pRev : PV → R Vl
  | .lst xs => .ok (.fr .ow (.lst xs.reverse))
  | _ => .no
theorem q_rev {f} {e : Expr} {k : Nat} {p1 p2 p3 pos : Pos} (he : QE cl X W f e) : QE cl X W (x1 pRev f) (.Subscript e (.Slice none none (some (.UnaryOp .USub (.Constant (.int 1) k p1) p2)) p3) pos) := by
  refine ⟨(pe_revL he.pe).imp fun σ H Q h => ?_⟩
  refine tq1 (r := fun x H1 Q => ∃ a xs, x = .ref a ∧ SqL X.K H1 a xs ∧ ∀ p, H1 p = none → Q (.ref p) (upd H1 p (.lst xs.reverse))) (fun x e h => by cases x <;> cases h) (fun F H x v Q s rx h => ?_) h
  cases x <;> first | exact h.elim | skip
  obtain ⟨a, vs, rfl, q, r⟩ := rx.lst s
  exact ⟨a, vs, rfl, q, fun p np => Post.lst s np r.reverse h⟩

/-! ### keys -/
def keyOf : PV → Option Key
  | .int i => some (.inl i)
  | .str x => some (.inr x)
  | _ => none
def keysOf : List PV → Option (List Key)
  | [] => some []
  | x :: xs => match keyOf x, keysOf xs with
    | some k, some ks => some (k :: ks)
    | _, _ => none
theorem keyOf_eq {x : PV} {k : Key} (h : keyOf x = some k) : x = kP k := by
  cases x <;> simp [keyOf] at h <;> subst h <;> rfl
theorem keysOf_eq : ∀ {xs : List PV} {ks : List Key}, keysOf xs = some ks → xs = ks.map kP
  | [], ks, h => by simp [keysOf] at h; subst h; rfl
  | x :: xs, ks, h => by
    unfold keysOf at h
    split at h
    · rename_i k ks' h1 h2
      cases h
      rw [keyOf_eq h1, keysOf_eq h2]; rfl
    · cases h
theorem rp_kP {T : Tb} {F : Hp} {k : Key} {v : V} (h : Rp T F (kP k) v) : v = kV k := by
  cases k <;> simpa [kP, Rp, kV] using h
theorem rv_kP {T : Tb} {F H : Hp} {k : Key} {v : V} (h : Rv T F H (kP k) v) : v = kV k := by
  cases k with
  | inl i => exact h.int
  | inr x => exact h.str
theorem rpL_kP {T : Tb} {F : Hp} : ∀ {ks : List Key} {vs : List V}, RpL T F (ks.map kP) vs → vs = ks.map kV
  | [], _, h => by simpa [RpL] using h
  | k :: ks, _, h => by
    simp only [List.map_cons, RpL] at h
    obtain ⟨v, ws, rfl, p, q⟩ := h
    rw [rp_kP p, rpL_kP q]; rfl
theorem peq_kP (a b : Key) : peq (kP a) (kP b) = decide (a = b) := by
  cases a <;> cases b <;> simp [kP, peq]
  all_goals (rw [Bool.eq_iff_iff]; simp)
theorem peqL_kP : ∀ a b : List Key, peqL (a.map kP) (b.map kP) = decide (a = b)
  | [], [] => by simp [peqL]
  | [], _ :: _ => by simp [peqL]
  | _ :: _, [] => by simp [peqL]
  | a :: as, b :: bs => by
    simp only [List.map_cons, peqL, peq_kP, peqL_kP as bs, List.cons.injEq]
    rw [Bool.eq_iff_iff]; simp
/-- what a dict holds at a key -/
def dFind (kvs : List (PV × PV)) (k : PV) : Option PV := (kvs.find? fun p => peq p.1 k).map (·.2)
def keyOk (t : Bool) (k : PV) : Bool := match t, k with
  | false, .int _ => true
  | false, .str _ => true
  | true, .tup xs => (keysOf xs).isSome
  | _, _ => false
/-- None or a value, alike on both sides -/
def RpO (T : Tb) (F : Hp) : Option PV → Option V → Prop
  | some x, some v => Rp T F x v
  | none, none => True
  | _, _ => False
theorem dFind_k {T : Tb} {F : Hp} (k : Key) : ∀ {es : List (Key × V)} {kvs : List (PV × PV)}, RpD T F kvs (es.map fun p => (kP p.1, p.2)) → RpO T F (dFind kvs (kP k)) (valV es k)
  | [], [], _ => trivial
  | [], (a, b) :: r, h => by simp [RpD] at h
  | e :: es, [], h => by simp [RpD] at h
  | (j, u) :: es, (a, b) :: r, h => by
    simp only [List.map_cons, RpD, List.cons.injEq, Prod.mk.injEq] at h
    obtain ⟨v, ws, ⟨⟨rfl, rfl⟩, rfl⟩, p, q⟩ := h
    unfold dFind
    by_cases e : j = k
    · subst e
      rw [valV_pos rfl, List.find?_cons]
      simp only [peq_kP, decide_true]
      exact p
    · rw [valV_neg e, List.find?_cons]
      simp only [peq_kP, e, decide_false]
      exact dFind_k k q
theorem dFind_t {T : Tb} {F : Hp} (k : List Key) : ∀ {es : List (List Key × V)} {kvs : List (PV × PV)}, RpD T F kvs (es.map fun p => (.tup (p.1.map kP), p.2)) → RpO T F (dFind kvs (.tup (k.map kP))) (valV es k)
  | [], [], _ => trivial
  | [], (a, b) :: r, h => by simp [RpD] at h
  | e :: es, [], h => by simp [RpD] at h
  | (j, u) :: es, (a, b) :: r, h => by
    simp only [List.map_cons, RpD, List.cons.injEq, Prod.mk.injEq] at h
    obtain ⟨v, ws, ⟨⟨rfl, rfl⟩, rfl⟩, p, q⟩ := h
    unfold dFind
    by_cases e : j = k
    · subst e
      rw [valV_pos rfl, List.find?_cons]
      simp only [peq, peqL_kP, decide_true]
      exact p
    · rw [valV_neg e, List.find?_cons]
      simp only [peq, peqL_kP, e, decide_false]
      exact dFind_t k q
/-- the dict at a, asked at a key -/
theorem dget_of {T : Tb} {F H : Hp} {a : Addr} {t ks kvs k y} (s : Same F H) (d : DctAt H a t ks) (r : RpD T F kvs ks) (kk : keyOk t k = true) (ry : Rv T F H k y) : ∃ o, DGet H a y o ∧ RpO T F (dFind kvs k) o := by
  cases t with
  | false =>
    obtain ⟨es, he, rfl⟩ := d
    cases k <;> simp [keyOk] at kk
    · rename_i i
      exact ⟨_, .inl ⟨es, .inl i, he, ry.int, rfl⟩, dFind_k (.inl i) r⟩
    · rename_i i
      exact ⟨_, .inl ⟨es, .inr i, he, ry.str, rfl⟩, dFind_k (.inr i) r⟩
  | true =>
    obtain ⟨es, he, rfl⟩ := d
    cases k <;> simp [keyOk] at kk
    rename_i xs
    obtain ⟨jk, hk⟩ := Option.isSome_iff_exists.mp kk
    have ex := keysOf_eq hk
    subst ex
    obtain ⟨b, vs, rfl, hb, rl⟩ := ry.tup s
    have ev := rpL_kP rl
    subst ev
    exact ⟨_, .inr ⟨es, jk, b, .inl he, rfl, hb, rfl⟩, dFind_t jk r⟩

/-! ### xs[i] -/
theorem ix_dict (hu : X.A.units + 1 < cLine) : IxR X (fun x y H Q => ∃ a v, x = .ref a ∧ DGet H a y (some v) ∧ Q v H) := by
  intro value slice pins s σ H x y v u Q I rx ry h hs
  obtain ⟨a, w, rfl, g, q⟩ := h
  obtain rfl : v = Value.ref a := rx
  have hT := dict_typeIs I g
  unfold PyProof.Rows.subscriptTail
  refine wpAny_bind ?_
  rw [PySem.getitemInPython_of_ne hT.not_modules]
  refine wpAny_bind (wpAny_specialOf hT PySem.F.slot_dict_getitem.lookup ?_)
  have fin : wpAny (model X.prog X.w) X.A (subscripted slice false (.ref a) u) (fun r s₃ => wpAny (model X.prog X.w) X.A (letTemporaryGo value (.ref a) r >>= fun _ => pure r) (EP X pins σ Q) X.xe s₃) X.xe s := by
    rw [hs]
    exact wpAny_operating (wpAny_mono (d_getItem hu I g ry fun w' s3 I3 rw' => (⟨w, H, I3, rw', q⟩ : EP X pins σ Q w' s3)) (fun r s₃ h₃ => wpAny_bind (wpAny_letTemporaryGo (wpAny_pure h₃))) fun _ _ x => x)
  first
    | exact wpAny_pure (wpAny_bind fin)
    | exact wpAny_bind (wpAny_pure (wpAny_bind fin))
    | exact wpAny_bind fin
def pIx (x i : PV) : R Vl := match x, i with
  | .lst xs, .int i => match atI xs i with
    | some v => .ok (.z v)
    | none => .no
  | .tup xs, .int i => match atI xs i with
    | some v => .ok (.z v)
    | none => .no
  | .str z, .int i => match atI z.cps.toList i with
    | some c => if sm z.length then .ok (.z (.str ⟨#[c]⟩)) else .no
    | none => .no
  | .dct t kvs, k => if keyOk t k then (match dFind kvs k with
    | some v => .ok (.z v)
    | none => .no) else .no
  | _, _ => .no
theorem pIx_ne : NoEr2 pIx := fun x y e h => by
  unfold pIx at h
  split at h
  · split at h <;> cases h
  · split at h <;> cases h
  · split at h
    · split at h <;> cases h
    · cases h
  · split at h
    · split at h <;> cases h
    · cases h
  · cases h
theorem RpL.atI {T : Tb} {F : Hp} {xs : List PV} {vs : List V} {i : Int} {x : PV} (r : RpL T F xs vs) (e : atI xs i = some x) : ∃ v, atI vs i = some v ∧ Rp T F x v := by
  unfold L2.atI at e ⊢
  rw [r.length]
  cases h : ixN xs.length i with
  | none => rw [h] at e; cases e
  | some j =>
    rw [h] at e
    exact RpL.get r e
def rIxAll (K : PySem.W.Frag) : R2 := fun x y H Q => rIx K x y H Q ∨ ∃ a v, x = .ref a ∧ DGet H a y (some v) ∧ Q v H
theorem o_ix : Op2 X cl pIx (rIxAll X.K) := by
  intro F H x y v u Q s rx ry h
  cases x <;> try exact h.elim
  case str z =>
    cases y <;> try exact h.elim
    rename_i i
    simp only [pIx] at h
    cases e : atI z.cps.toList i with
    | none => rw [e] at h; exact h.elim
    | some c =>
      rw [e] at h
      simp only at h
      cases k : sm z.length with
      | false => rw [k] at h; exact h.elim
      | true => rw [k] at h; exact .inl (.inr (.inr ⟨z, i, c, rx.str, ry.int, sm_le k, e, h.str s⟩))
  case tup xs =>
    cases y <;> try exact h.elim
    rename_i i
    simp only [pIx] at h
    cases e : atI xs i with
    | none => rw [e] at h; exact h.elim
    | some w =>
      rw [e] at h
      obtain ⟨a, vs, rfl, q, r⟩ := rx.tup s
      obtain ⟨z, e2, rz⟩ := r.atI e
      exact .inl (.inr (.inl ⟨a, vs, i, z, rfl, ry.int, SqT.of q, e2, h.of s rz⟩))
  case lst xs =>
    cases y <;> try exact h.elim
    rename_i i
    simp only [pIx] at h
    cases e : atI xs i with
    | none => rw [e] at h; exact h.elim
    | some w =>
      rw [e] at h
      obtain ⟨a, vs, rfl, q, r⟩ := rx.lst s
      obtain ⟨z, e2, rz⟩ := r.atI e
      exact .inl (.inl ⟨a, vs, i, z, rfl, ry.int, q, e2, h.of s rz⟩)
  case dct t kvs =>
    have h' : Post ⟨X.K, cl⟩ F H (if keyOk t y then (match dFind kvs y with
      | some v => .ok (.z v)
      | none => .no) else .no) Q := by
      cases y <;> exact h
    cases kk : keyOk t y with
    | false => rw [kk] at h'; exact h'.elim
    | true =>
      rw [kk] at h'
      simp only [if_true] at h'
      obtain ⟨a, ks, rfl, d, r⟩ := rx.dct s
      obtain ⟨o, g, ro⟩ := dget_of s d r kk ry
      cases e : dFind kvs y with
      | none => rw [e] at h'; exact h'.elim
      | some w =>
        rw [e] at h' ro
        cases o with
        | none => exact ro.elim
        | some z => exact .inr ⟨a, z, rfl, g, h'.of s ro⟩
theorem q_sub_ix {a b : Expr} {pos : Pos} {f g : Ex} (hu : X.A.units + 1 < cLine) (ha : QE cl X W f a) (hb : QE cl X W g b) (hs : PlainIx b := by exact fun _ _ => rfl) : QE cl X W (x2 pIx f g) (.Subscript a b pos) :=
  q_ix (ix_seq.or (ix_dict hu)) pIx_ne o_ix ha hb hs

/-! ### in -/
def isFl : PV → Bool
  | .non => true
  | .bl _ => true
  | .int _ => true
  | .str _ => true
  | _ => false
theorem rp_fl {T : Tb} {F : Hp} {x : PV} {v : V} (h : Rp T F x v) (f : isFl x = true) : flatV v = true := by
  cases x <;> simp [isFl] at f <;> simp only [Rp] at h <;> subst h <;> rfl
theorem eqV_peq {T : Tb} {F : Hp} {x y : PV} {v u : V} (h : Rp T F x v) (k : Rp T F y u) (f : isFl x = true) (g : isFl y = true) : eqV v u = peq x y := by
  cases x <;> simp [isFl] at f <;> cases y <;> simp [isFl] at g <;> simp only [Rp] at h k <;> subst h <;> subst k <;> rfl
theorem rv_fl {T : Tb} {F H : Hp} {x : PV} {v : V} (h : Rv T F H x v) (f : isFl x = true) : Rp T F x v := by
  cases x <;> simp [isFl] at f
  · rw [h.non]; simp [Rp]
  · rw [h.bl]; simp [Rp]
  · rw [h.int]; simp [Rp]
  · rw [h.str]; simp [Rp]
theorem rpL_fl {T : Tb} {F : Hp} {x : PV} {v : V} (h : Rp T F x v) (f : isFl x = true) : ∀ {xs : List PV} {vs : List V}, RpL T F xs vs → xs.all isFl = true → vs.all flatV = true ∧ inV v vs = xs.any fun y => peq y x
  | [], _, r, _ => by simp only [RpL] at r; subst r; exact ⟨rfl, rfl⟩
  | y :: ys, _, r, g => by
    simp only [RpL] at r
    obtain ⟨u, us, rfl, p, q⟩ := r
    simp only [List.all_cons, Bool.and_eq_true] at g
    obtain ⟨h1, h2⟩ := rpL_fl h f q g.2
    refine ⟨by simp [rp_fl p g.1, h1], ?_⟩
    show (eqV u v || inV v us) = _
    rw [h2, eqV_peq p h g.1 f, List.any_cons]
def pIn (x y : PV) : R Bool := match y with
  | .lst ys => if isFl x && ys.all isFl then .ok (ys.any fun z => peq z x) else if isD 60 x && isD 60 y then .ok (ys.any fun z => peq z x) else .no
  | .tup ys => if isFl x && ys.all isFl then .ok (ys.any fun z => peq z x) else .no
  | .str z => match x with
    | .str i => .ok (!(Builtin.Str.occurrences z i 0 z.length 1).isEmpty)
    | _ => .no
  | .dct t kvs => if keyOk t x then .ok (dFind kvs x).isSome else .no
  | _ => .no
theorem pIn_ne : NoErB pIn := fun x y e h => by
  unfold pIn at h
  split at h
  · split at h
    · cases h
    · split at h <;> cases h
  · split at h <;> cases h
  · split at h <;> cases h
  · split at h <;> cases h
  · cases h
def pNotIn (x y : PV) : R Bool := (pIn x y).map (!·)
theorem pNotIn_ne : NoErB pNotIn := fun x y e h => by
  unfold pNotIn at h
  cases q : pIn x y with
  | ok b => rw [q] at h; cases h
  | no => rw [q] at h; cases h
  | er e' => exact pIn_ne x y e' q
def rInStr (neg : Bool) : R2 := fun x y H Q => ∃ i j, x = .str i ∧ y = .str j ∧ Q (.bl (if neg then !(!(Builtin.Str.occurrences j i 0 j.length 1).isEmpty) else !(Builtin.Str.occurrences j i 0 j.length 1).isEmpty)) H
def rInDct (neg : Bool) : R2 := fun x y H Q => ∃ a o, y = .ref a ∧ DGet H a x o ∧ Q (.bl (if neg then !o.isSome else o.isSome)) H
def rInAll (K : PySem.W.Frag) : R2 := fun x y H Q => rIn K false x y H Q ∨ rInD K x y H Q ∨ rInStr false x y H Q ∨ rInDct false x y H Q
def rNotInAll (K : PySem.W.Frag) : R2 := fun x y H Q => rIn K true x y H Q ∨ rNotInD K x y H Q ∨ rInStr true x y H Q ∨ rInDct true x y H Q
theorem op_inDct (hu : X.A.units + 1 < cLine) : OpR X (compareOp .In) (rInDct false) := by
  intro pins s σ H x y v u Q I rx ry h
  obtain ⟨a, o, rfl, g, q⟩ := h
  obtain rfl : u = Value.ref a := ry
  exact d_in hu I g rx fun s3 I3 => ⟨.bl o.isSome, H, I3, rfl, q⟩
theorem op_notInDct (hu : X.A.units + 1 < cLine) : OpR X (compareOp .NotIn) (rInDct true) := by
  intro pins s σ H x y v u Q I rx ry h
  obtain ⟨a, o, rfl, g, q⟩ := h
  obtain rfl : u = Value.ref a := ry
  exact d_notIn hu I g rx fun s3 I3 => ⟨.bl (!o.isSome), H, I3, rfl, q⟩
theorem op_inAll (hu : X.A.units + 65 < cLine) : OpR X (compareOp .In) (rInAll X.K) := OpR.or op_in_seq (OpR.or (op_inD hu) (OpR.or op_in_str (op_inDct (by omega))))
theorem op_notInAll (hu : X.A.units + 65 < cLine) : OpR X (compareOp .NotIn) (rNotInAll X.K) := OpR.or op_notIn_seq (OpR.or (op_notInD hu) (OpR.or op_notin_str (op_notInDct (by omega))))
theorem any_toD {x : PV} (d : isD 60 x = true) : ∀ {ys : List PV}, isDL 60 ys = true → ((toDL ys).any fun z => PyData.eqv z (toD x)) = ys.any fun z => peq z x
  | [], _ => rfl
  | y :: ys, h => by
    simp only [isDL, Bool.and_eq_true] at h
    simp only [toDL, List.any_cons]
    rw [any_toD d h.2, eqv_toD y x h.1 d]
theorem o_in : Op2 X cl (pb pIn) (rInAll X.K) := by
  intro F H x y v u Q s rx ry h
  unfold pb pIn at h
  split at h
  · rename_i ys
    split at h
    · rename_i f
      rw [Bool.and_eq_true] at f
      obtain ⟨a, vs, rfl, q, r⟩ := ry.lst s
      have px := rv_fl rx f.1
      obtain ⟨h1, h2⟩ := rpL_fl px f.1 r f.2
      refine .inl ⟨a, vs, rfl, .inl q, rp_fl px f.1, h1, ?_⟩
      simp only [Bool.false_eq_true, ↓reduceIte]
      rw [h2]
      exact Post.bl s h
    · split at h
      · rename_i d
        rw [Bool.and_eq_true] at d
        obtain ⟨d1, s1⟩ := dp_rv s rx d.1 (by decide)
        obtain ⟨d2, s2⟩ := dp_rv s ry d.2 (by decide)
        have dl := d.2
        simp only [isD] at dl
        refine .inr (.inl ⟨_, toDL ys, d1, by simpa [toD] using d2, s1, by simpa [toD] using s2, ?_⟩)
        rw [any_toD d.1 dl]
        exact Post.bl s h
      · exact h.elim
  · rename_i ys
    split at h
    · rename_i f
      rw [Bool.and_eq_true] at f
      obtain ⟨a, vs, rfl, q, r⟩ := ry.tup s
      have px := rv_fl rx f.1
      obtain ⟨h1, h2⟩ := rpL_fl px f.1 r f.2
      refine .inl ⟨a, vs, rfl, .inr (SqT.of q), rp_fl px f.1, h1, ?_⟩
      simp only [Bool.false_eq_true, ↓reduceIte]
      rw [h2]
      exact Post.bl s h
    · exact h.elim
  · rename_i z
    split at h
    · exact .inr (.inr (.inl ⟨_, _, rx.str, ry.str, Post.bl s h⟩))
    · exact h.elim
  · rename_i t kvs
    cases kk : keyOk t x with
    | false => rw [kk] at h; exact h.elim
    | true =>
      rw [kk] at h
      obtain ⟨a, ks, rfl, d, r⟩ := ry.dct s
      obtain ⟨o, g, ro⟩ := dget_of s d r kk rx
      refine .inr (.inr (.inr ⟨a, o, rfl, g, ?_⟩))
      have eo : o.isSome = (dFind kvs x).isSome := by
        cases o <;> cases e : dFind kvs x <;> rw [e] at ro <;> first | rfl | exact ro.elim
      simp only [Bool.false_eq_true, ↓reduceIte]
      rw [eo]
      exact Post.bl s h
  · exact h.elim
theorem o_notIn : Op2 X cl (pb pNotIn) (rNotInAll X.K) := by
  intro F H x y v u Q s rx ry h
  unfold pb pNotIn pIn at h
  split at h
  · rename_i ys
    split at h
    · rename_i f
      rw [Bool.and_eq_true] at f
      obtain ⟨a, vs, rfl, q, r⟩ := ry.lst s
      have px := rv_fl rx f.1
      obtain ⟨h1, h2⟩ := rpL_fl px f.1 r f.2
      refine .inl ⟨a, vs, rfl, .inl q, rp_fl px f.1, h1, ?_⟩
      simp only [↓reduceIte]
      rw [h2]
      exact Post.bl s h
    · split at h
      · rename_i d
        rw [Bool.and_eq_true] at d
        obtain ⟨d1, s1⟩ := dp_rv s rx d.1 (by decide)
        obtain ⟨d2, s2⟩ := dp_rv s ry d.2 (by decide)
        have dl := d.2
        simp only [isD] at dl
        refine .inr (.inl ⟨_, toDL ys, d1, by simpa [toD] using d2, s1, by simpa [toD] using s2, ?_⟩)
        rw [any_toD d.1 dl]
        exact Post.bl s h
      · exact h.elim
  · rename_i ys
    split at h
    · rename_i f
      rw [Bool.and_eq_true] at f
      obtain ⟨a, vs, rfl, q, r⟩ := ry.tup s
      have px := rv_fl rx f.1
      obtain ⟨h1, h2⟩ := rpL_fl px f.1 r f.2
      refine .inl ⟨a, vs, rfl, .inr (SqT.of q), rp_fl px f.1, h1, ?_⟩
      simp only [↓reduceIte]
      rw [h2]
      exact Post.bl s h
    · exact h.elim
  · rename_i z
    split at h
    · exact .inr (.inr (.inl ⟨_, _, rx.str, ry.str, Post.bl s h⟩))
    · exact h.elim
  · rename_i t kvs
    cases kk : keyOk t x with
    | false => rw [kk] at h; exact h.elim
    | true =>
      rw [kk] at h
      obtain ⟨a, ks, rfl, d, r⟩ := ry.dct s
      obtain ⟨o, g, ro⟩ := dget_of s d r kk rx
      refine .inr (.inr (.inr ⟨a, o, rfl, g, ?_⟩))
      have eo : o.isSome = (dFind kvs x).isSome := by
        cases o <;> cases e : dFind kvs x <;> rw [e] at ro <;> first | rfl | exact ro.elim
      simp only [↓reduceIte]
      rw [eo]
      exact Post.bl s h
  · exact h.elim
theorem q_in {a b : Expr} {pos : Pos} {f g : Ex} (hu : X.A.units + 65 < cLine) (ha : QE cl X W f a) (hb : QE cl X W g b) (hm : behindInMarks .In b = false := by rfl) : QE cl X W (x2 (pb pIn) f g) (.Compare a [.In] [b] pos) := q_cmp (op_inAll hu) (pb_ne pIn_ne) o_in ha hb hm
theorem q_notIn {a b : Expr} {pos : Pos} {f g : Ex} (hu : X.A.units + 65 < cLine) (ha : QE cl X W f a) (hb : QE cl X W g b) (hm : behindInMarks .NotIn b = false := by rfl) : QE cl X W (x2 (pb pNotIn) f g) (.Compare a [.NotIn] [b] pos) := q_cmp (op_notInAll hu) (pb_ne pNotIn_ne) o_notIn ha hb hm
/-- is, of truths -/
def pIsB (x y : PV) : R Bool := match x, y with
  | .bl a, .bl b => .ok (decide (a = b))
  | _, _ => .no
def pNotB (x y : PV) : R Bool := match x, y with
  | .bl a, .bl b => .ok (!decide (a = b))
  | _, _ => .no
theorem q_isB {a b : Expr} {pos : Pos} {f g : Ex} (ha : QE cl X W f a) (hb : QE cl X W g b) : QE cl X W (x2 (pb pIsB) f g) (.Compare a [.Is] [b] pos) :=
  q_cmp op_isBl (pb_ne fun x y e h => by unfold pIsB at h; split at h <;> cases h) (fun F H x y v u Q s rx ry h => by
    unfold pb pIsB at h
    split at h
    · exact ⟨_, _, rx.bl, ry.bl, Post.bl s h⟩
    · exact h.elim) ha hb (nomark _)
theorem q_notB {a b : Expr} {pos : Pos} {f g : Ex} (ha : QE cl X W f a) (hb : QE cl X W g b) : QE cl X W (x2 (pb pNotB) f g) (.Compare a [.IsNot] [b] pos) :=
  q_cmp op_notBl (pb_ne fun x y e h => by unfold pNotB at h; split at h <;> cases h) (fun F H x y v u Q s rx ry h => by
    unfold pb pNotB at h
    split at h
    · exact ⟨_, _, rx.bl, ry.bl, Post.bl s h⟩
    · exact h.elim) ha hb (nomark _)
end
end Z
/-! the pure layer, part G: statements, loops, comprehensions -/
namespace Z
open PySem L2
/-- where a statement leads -/
inductive Os where
  | nx (γ : Env) | rt (x : PV) (γ : Env) | bk (γ : Env) | ct (γ : Env) | er (e : Xc) (γ : Env) | no
structure Step (F : Hp) (A : List Addr) (H F' : Hp) (A' : List Addr) (H' : Hp) : Prop where
  fle : Same F F'
  keep : ∀ a o, a ∉ A → H a = some o → H' a = some o
  own : ∀ a ∈ A', a ∈ A ∨ H a = none
  new : ∀ a o, F' a = some o → F a = some o ∨ a ∈ A ∨ H a = none
theorem Step.refl {F A H} : Step F A H F A H := ⟨Same.refl _, fun _ _ _ h => h, fun _ h => .inl h, fun _ _ h => .inl h⟩
theorem Step.trans {F A H F1 A1 H1 F2 A2 H2} (a : Step F A H F1 A1 H1) (b : Step F1 A1 H1 F2 A2 H2) : Step F A H F2 A2 H2 := by
  have back : ∀ x, H1 x = none → x ∈ A ∨ H x = none := fun x h => by
    by_cases hx : x ∈ A
    · exact .inl hx
    · cases q : H x with
      | none => exact .inr rfl
      | some o => rw [a.keep x o hx q] at h; cases h
  refine ⟨a.fle.trans b.fle, fun x o hx h => b.keep x o (fun z => ?_) (a.keep x o hx h), fun x hx => ?_, fun x o h => ?_⟩
  · rcases a.own x z with q | q
    · exact hx q
    · rw [q] at h; cases h
  · rcases b.own x hx with q | q
    · exact a.own x q
    · exact back x q
  · rcases b.new x o h with q | q | q
    · exact a.new x o q
    · rcases a.own x q with r | r
      · exact .inr (.inl r)
      · exact .inr (.inr r)
    · exact .inr (back x q)
theorem Step.ext {F A H F1 H1} (e : Ext F H F1 H1) : Step F A H F1 A H1 := ⟨e.fle, fun a o _ h => e.hle a o h, fun _ h => .inl h, fun a o h => (e.new a o h).elim .inl fun z => .inr (.inr z)⟩
theorem Step.ext' {F A A' H F1 H1} (e : Ext F H F1 H1) (h : ∀ a ∈ A', a ∈ A ∨ H a = none) : Step F A H F1 A' H1 := ⟨e.fle, fun a o _ h => e.hle a o h, h, fun a o h => (e.new a o h).elim .inl fun z => .inr (.inr z)⟩

section
variable (X : Cx) (cl : Cl) (W : WX)
def Fin (D : Ends) (F : Hp) (A : List Addr) (H : Hp) : Os → Prop
  | .nx γ' => ∀ F' A' σ' H', Step F A H F' A' H' → Rel ⟨X.K, cl⟩ F' A' σ' H' γ' → D.nx σ' H'
  | .bk γ' => ∀ F' A' σ' H', Step F A H F' A' H' → Rel ⟨X.K, cl⟩ F' A' σ' H' γ' → D.bk σ' H'
  | .ct γ' => ∀ F' A' σ' H', Step F A H F' A' H' → Rel ⟨X.K, cl⟩ F' A' σ' H' γ' → D.ct σ' H'
  | .rt x γ' => ∀ F' A' σ' H' v, Step F A H F' A' H' → Rel ⟨X.K, cl⟩ F' A' σ' H' γ' → Rp ⟨X.K, cl⟩ F' x v → D.rt v H'
  | .er e γ' => ∀ F' A' σ' H' c d, Step F A H F' A' H' → Rel ⟨X.K, cl⟩ F' A' σ' H' γ' → XcR ⟨X.K, cl⟩ F' e c d → W c d σ' H'
  | .no => False
def tqS (g : Env → Os) : TS := fun D σ H => ∃ F A γ, Rel ⟨X.K, cl⟩ F A σ H γ ∧ Fin X cl W D F A H (g γ)
end
structure QS (cl : Cl) (X : Cx) (W : WX) (g : Env → Os) (st : Stmt) : Prop where
  ps : PS X st (tqS X cl W g)
structure QSs (cl : Cl) (X : Cx) (W : WX) (g : Env → Os) (st : List Stmt) : Prop where
  ps : PSs X st (tqS X cl W g)
theorem _root_.L2.PS.imp {X : Cx} {e : Stmt} {t t' : TS} (h : PS X e t) (k : ∀ D σ H, t' D σ H → t D σ H) : PS X e t' := ⟨fun pins s σ H D I q => h.run pins s σ H D I (k D σ H q)⟩
theorem _root_.L2.PSs.imp {X : Cx} {e : List Stmt} {t t' : TS} (h : PSs X e t) (k : ∀ D σ H, t' D σ H → t D σ H) : PSs X e t' := ⟨fun pins s σ H D I q => h.run pins s σ H D I (k D σ H q)⟩
section
variable {X : Cx} {cl : Cl} {W : WX}
theorem Fin.step {D : Ends} {F A H F1 A1 H1} {o : Os} (h : Fin X cl W D F A H o) (s : Step F A H F1 A1 H1) : Fin X cl W D F1 A1 H1 o := by
  cases o with
  | nx γ => exact fun F' A' σ' H' st r => h F' A' σ' H' (s.trans st) r
  | bk γ => exact fun F' A' σ' H' st r => h F' A' σ' H' (s.trans st) r
  | ct γ => exact fun F' A' σ' H' st r => h F' A' σ' H' (s.trans st) r
  | rt x γ => exact fun F' A' σ' H' v st r p => h F' A' σ' H' v (s.trans st) r p
  | er x γ => exact fun F' A' σ' H' c d st r p => h F' A' σ' H' c d (s.trans st) r p
  | no => exact h

/-! ### blocks -/
def sNx : Env → Os := .nx
def sSeq (g h : Env → Os) : Env → Os := fun γ => match g γ with
  | .nx γ' => h γ'
  | o => o
theorem qs_nil : QSs cl X W sNx [] := ⟨pss_nil.imp fun D σ H h => by
  obtain ⟨F, A, γ, rel, h⟩ := h
  exact h F A σ H Step.refl rel⟩
theorem qs_cons {g h} {st : Stmt} {rest : List Stmt} (h1 : QS cl X W g st) (h2 : QSs cl X W h rest) : QSs cl X W (sSeq g h) (st :: rest) := ⟨(pss_cons h1.ps h2.ps).imp fun D σ H hh => by
  obtain ⟨F, A, γ, rel, hh⟩ := hh
  refine ⟨F, A, γ, rel, ?_⟩
  unfold sSeq at hh
  cases e : g γ with
  | nx γ' => rw [e] at hh; exact fun F' A' σ' H' st r => ⟨F', A', γ', r, hh.step st⟩
  | rt x γ' => rw [e] at hh; exact hh
  | bk γ' => rw [e] at hh; exact hh
  | ct γ' => rw [e] at hh; exact hh
  | er x γ' => rw [e] at hh; exact hh
  | no => rw [e] at hh; exact hh⟩
theorem qs_one {g} {st : Stmt} (h1 : QS cl X W g st) : QSs cl X W g [st] := ⟨pss_one h1.ps⟩
theorem qs_pass {pos} : QS cl X W sNx (.Pass pos) := ⟨ps_pass.imp fun D σ H h => by
  obtain ⟨F, A, γ, rel, h⟩ := h
  exact h F A σ H Step.refl rel⟩
theorem qs_break {pos} : QS cl X W .bk (.Break pos) := ⟨ps_break.imp fun D σ H h => by
  obtain ⟨F, A, γ, rel, h⟩ := h
  exact h F A σ H Step.refl rel⟩
theorem qs_continue {pos} : QS cl X W .ct (.Continue pos) := ⟨ps_continue.imp fun D σ H h => by
  obtain ⟨F, A, γ, rel, h⟩ := h
  exact h F A σ H Step.refl rel⟩

/-! ### name = e -/
def stow (i : Nat) (l : Vl) (γ : Env) : Os := match l with
  | .fr m x => .nx (γ.set i (.sl m x))
  | .pk .fz x => .nx (γ.set i (.sl .fz x))
  | .pk _ _ => .no
def sSet (i : Nat) (f : Ex) : Env → Os := fun γ => match f γ with
  | .ok l => stow i l γ
  | .er e => .er e γ
  | .no => .no
theorem Rel.put {T : Tb} {F H : Hp} {A σ γ} {i : Nat} {m x v Ar} (rel : Rel T F A σ H γ) (r : OwM T F H m x v Ar) (nr : Ar.Nodup) (d : ∀ a ∈ Ar, a ∉ A ∧ F a = none) : ∃ A', Rel T F A' (σ.set i (some v)) H (γ.set i (.sl m x)) ∧ ∀ a ∈ A', a ∈ A ∨ a ∈ Ar := by
  by_cases l : i < γ.length
  · obtain ⟨A', h1, h2, h3⟩ := OwE.put γ rel.env l r rel.nd nr fun a ha => (d a ha).1
    refine ⟨A', ⟨rel.sub, h1, h2, fun a ha => ?_⟩, h3⟩
    rcases h3 a ha with z | z
    · exact rel.dis a z
    · exact (d a z).2
  · refine ⟨A, ⟨rel.sub, ?_, rel.nd, rel.dis⟩, fun a ha => .inl ha⟩
    rw [List.set_eq_of_length_le (by omega), List.set_eq_of_length_le (by rw [OwE.length γ rel.env]; omega)]
    exact rel.env
/-- a value stored in a slot -/
theorem stow_ok {D : Ends} {F A H γ σ F1 H1 l v} {i : Nat} (rel : Rel ⟨X.K, cl⟩ F A σ H γ) (e1 : Ext F H F1 H1) (r : VlR ⟨X.K, cl⟩ F1 H1 H A l v) (h : Fin X cl W D F A H (stow i l γ)) : D.nx (σ.set i (some v)) H1 := by
  have rel1 := rel.ext e1
  cases l with
  | fr m x =>
    obtain ⟨Ar, h1, h2, h3⟩ := r
    have hd : ∀ a ∈ Ar, a ∉ A := fun a ha z => by
      obtain ⟨o, q⟩ := OwE.dom γ rel.env a z
      rw [(h3 a ha).1] at q
      cases q
    obtain ⟨A', ra, ha⟩ := rel1.put (i := i) h1 h2 fun a ha => ⟨hd a ha, (h3 a ha).2⟩
    exact h F1 A' _ H1 (Step.ext' e1 fun a z => (ha a z).elim .inl fun q => .inr (h3 a q).1) ra
  | pk m x =>
    cases m with
    | fz =>
      obtain ⟨Ai, h1, _⟩ := r
      simp only [OwM] at h1
      obtain ⟨A', ra, ha⟩ := rel1.put (i := i) (OwM.fz_of h1.1) (by simp) (by simp)
      exact h F1 A' _ H1 (Step.ext' e1 fun a z => (ha a z).elim .inl fun q => by simp at q) ra
    | ow => exact h.elim
    | ob ms => exact h.elim
    | lk => exact h.elim
theorem qs_set {i : Nat} {x : Str} {f} {e : Expr} {pos pos' : Pos} (hN : X.N.Nodup) (he : QE cl X W f e) (hi : X.N[i]? = some x := by rfl) (hx : Loc X.env.scope x := by first | exact Or.inl rfl | exact Or.inr rfl) (hs : swapsWith e (some (.Name x pos')) pos.line X.env = pure false := by rfl)
    (hf : X.fn x = true ∨ X.env.scope.names.lookup x = some .local := by first | exact .inl rfl | exact .inr rfl | assumption) : QS cl X W (sSet i f) (.Assign [.Name x pos'] e pos) := ⟨(ps_set (i := i) hN hi hx he.pe hs hf).imp fun D σ H h => by
  obtain ⟨F, A, γ, rel, h⟩ := h
  refine ⟨F, A, γ, rel, ?_⟩
  unfold sSet at h
  cases e : f γ with
  | no => rw [e] at h; exact h
  | er x => rw [e] at h; exact fun F' H' c d ex r => h F' A σ H' c d (Step.ext ex) (rel.ext ex) r
  | ok l => rw [e] at h; exact fun F' H' v ex r => stow_ok rel ex r h⟩

/-! ### an expression alone, if, return -/
def sEx (f : Ex) : Env → Os := fun γ => match f γ with
  | .ok _ => .nx γ
  | .er e => .er e γ
  | .no => .no
theorem qs_expr {f} {e : Expr} {pos : Pos} (he : QE cl X W f e) (hs : swapsWith e none pos.line X.env = pure false := by rfl) : QS cl X W (sEx f) (.Expr e pos) := ⟨(ps_expr he.pe hs).imp fun D σ H h => by
  obtain ⟨F, A, γ, rel, h⟩ := h
  refine ⟨F, A, γ, rel, ?_⟩
  unfold sEx at h
  cases e : f γ with
  | no => rw [e] at h; exact h
  | er x => rw [e] at h; exact fun F' H' c d ex r => h F' A σ H' c d (Step.ext ex) (rel.ext ex) r
  | ok l => rw [e] at h; exact fun F' H' v ex r => h F' A σ H' (Step.ext ex) (rel.ext ex)⟩
def sIf (t : Env → R Bool) (g h : Env → Os) : Env → Os := fun γ => match t γ with
  | .ok b => if b then g γ else h γ
  | .er e => .er e γ
  | .no => .no
theorem qs_if {t g h} {c : Expr} {a b : List Stmt} {pos : Pos} (hc : QT cl X W t c) (ha : QSs cl X W g a) (hb : QSs cl X W h b) : QS cl X W (sIf t g h) (.If c a b pos) := ⟨(ps_if hc.pt ha.ps hb.ps).imp fun D σ H hh => by
  obtain ⟨F, A, γ, rel, hh⟩ := hh
  refine ⟨F, A, γ, rel, ?_⟩
  unfold sIf at hh
  cases e : t γ with
  | no => rw [e] at hh; exact hh
  | er x => rw [e] at hh; exact fun F' H' c d ex r => hh F' A σ H' c d (Step.ext ex) (rel.ext ex) r
  | ok l =>
    rw [e] at hh
    intro F' H' ex
    cases l with
    | true => exact ⟨F', A, γ, rel.ext ex, Fin.step hh (Step.ext ex)⟩
    | false => exact ⟨F', A, γ, rel.ext ex, Fin.step hh (Step.ext ex)⟩⟩
/-- all slots forgotten -/
def unE (γ : Env) : Env := γ.map fun _ => .un
theorem unE_rel {T : Tb} {F H : Hp} (s : Same F H) : ∀ (γ : Env) {σ : St}, σ.length = γ.length → OwE T F H (unE γ) σ []
  | [], σ, h => by
    have : σ = [] := List.length_eq_zero_iff.mp h
    subst this
    simp [unE, OwE]
  | sl :: γ, σ, h => by
    cases σ with
    | nil => simp at h
    | cons w σ =>
      simp only [unE, List.map_cons, OwE]
      exact ⟨w, σ, rfl, unE_rel s γ (by simpa using h)⟩
/-- return e: whatever it is, frozen; the slots are forgotten -/
def sRet (f : Ex) : Env → Os := fun γ => match f γ with
  | .ok l => .rt l.x (unE γ)
  | .er e => .er e γ
  | .no => .no
theorem qs_ret {f} {e : Expr} {pos : Pos} (he : QE cl X W f e) : QS cl X W (sRet f) (.Return (some e) pos) := ⟨(ps_ret he.pe).imp fun D σ H h => by
  obtain ⟨F, A, γ, rel, h⟩ := h
  refine ⟨F, A, γ, rel, ?_⟩
  unfold sRet at h
  cases e : f γ with
  | no => rw [e] at h; exact h
  | er x => rw [e] at h; exact fun F' H' c d ex r => h F' A σ H' c d (Step.ext ex) (rel.ext ex) r
  | ok l =>
    rw [e] at h
    intro F1 H1 v e1 r
    have go : ∀ Ar : List Addr, (∀ a ∈ Ar, (a ∈ A ∨ H a = none) ∧ F1 a = none) → (∀ a ∈ Ar, ∃ o, H1 a = some o) → (∀ F2, Same F1 F2 → (∀ a ∈ Ar, ∀ o, H1 a = some o → F2 a = some o) → Rp ⟨X.K, cl⟩ F2 l.x v) → D.rt v H1 := fun Ar h1 hd h2 => by
      have d : ∀ a ∈ Ar, F1 a = none := fun a ha => (h1 a ha).2
      refine h (frz F1 H1 Ar) [] σ H1 v ⟨e1.fle.trans (frz_same d), fun a o _ q => e1.hle a o q, by simp, fun a o q => ?_⟩ ⟨frz_sub e1.sub, unE_rel (frz_sub e1.sub) γ (OwE.length γ rel.env), by simp, by simp⟩ (h2 _ (frz_same d) fun a ha o q => frz_at ha q)
      by_cases ha : a ∈ Ar
      · exact .inr (h1 a ha).1
      · rw [frz_out ha] at q
        exact (e1.new a o q).elim .inl fun z => .inr (.inr z)
    cases l with
    | fr m x =>
      obtain ⟨Ar, k1, _, k3⟩ := r
      exact go Ar (fun a ha => ⟨.inr (k3 a ha).1, (k3 a ha).2⟩) (OwM.dom m k1) fun F2 s2 k => OwM.freeze s2 m k1 k
    | pk m x =>
      obtain ⟨Ai, k1, k2⟩ := r
      exact go Ai (fun a ha => ⟨.inl (k2 a ha), (rel.ext e1).dis a (k2 a ha)⟩) (OwM.dom m k1) fun F2 s2 k => OwM.freeze s2 m k1 k⟩
def sRetN : Env → Os := fun γ => .rt .non γ
theorem qs_retN {pos : Pos} : QS cl X W sRetN (.Return none pos) := ⟨ps_retN.imp fun D σ H h => by
  obtain ⟨F, A, γ, rel, h⟩ := h
  exact h F A σ H .non Step.refl rel (by simp [Rp])⟩

/-! ### targets -/
abbrev Tg := PV → Env → Option Env
/-- js: the slots that it may store to -/
def tqGt (K : PySem.W.Frag) (cl : Cl) (js : List Nat) (g : Tg) : TG := fun v σ H Q => ∃ F A γ x, Rel ⟨K, cl⟩ F A σ H γ ∧ Rp ⟨K, cl⟩ F x v ∧ match g x γ with
  | some γ' => ∀ A' σ', Rel ⟨K, cl⟩ F A' σ' H γ' → (∀ a ∈ A', a ∈ A) → (∀ vs : List Nat, (∀ j ∈ js, j ∈ vs) → wipe σ' vs = wipe σ vs) → Q σ' H
  | none => False
structure QG (cl : Cl) (X : Cx) (js : List Nat) (g : Tg) (e : Expr) : Prop where
  pg : PG X e (tqGt X.K cl js g)
theorem _root_.L2.PG.imp {X : Cx} {e : Expr} {t t' : TG} (h : PG X e t) (k : ∀ v σ H Q, t' v σ H Q → t v σ H Q) : PG X e t' := ⟨fun pins s σ H v u Q I r q => h.run pins s σ H v u Q I r (k v σ H Q q)⟩
theorem wipe_at {vs : List Nat} {j k : Nat} (σ : St) : (wipe σ vs)[k]? = if k ∈ vs then (if k < σ.length then some none else none) else σ[k]? := by
  induction vs with
  | nil => simp [wipe]
  | cons v vs ih =>
    unfold wipe
    rw [List.getElem?_set]
    by_cases hv : v = k
    · subst hv
      rw [if_pos rfl, if_pos List.mem_cons_self, wipe_length]
    · rw [if_neg hv, ih]
      by_cases hk : k ∈ vs
      · rw [if_pos hk, if_pos (List.mem_cons_of_mem _ hk)]
      · rw [if_neg hk, if_neg]
        intro z
        rcases List.mem_cons.mp z with q | q
        · exact hv q.symm
        · exact hk q
theorem wipe_set {vs : List Nat} {j : Nat} (σ : St) (w : Option V) (h : j ∈ vs) : wipe (σ.set j w) vs = wipe σ vs := by
  apply List.ext_getElem?
  intro k
  rw [wipe_at (j := 0), wipe_at (j := 0), List.length_set, List.getElem?_set]
  by_cases hk : k ∈ vs
  · rw [if_pos hk, if_pos hk]
  · rw [if_neg hk, if_neg hk, if_neg]
    rintro rfl
    exact hk h
def tgN (i : Nat) : Tg := fun x γ => some (γ.set i (.sl .fz x))
theorem qg_name {i : Nat} {x : Str} {pos : Pos} (hN : X.N.Nodup) (hi : X.N[i]? = some x := by rfl) (hx : Loc X.env.scope x := by first | exact Or.inl rfl | exact Or.inr rfl) (hf : X.fn x = true ∨ X.env.scope.names.lookup x = some .local := by first | exact .inl rfl | exact .inr rfl | assumption) : QG cl X [i] (tgN i) (.Name x pos) := ⟨(pg_name (i := i) hN hi hx hf).imp fun v σ H Q h => by
  obtain ⟨F, A, γ, y, rel, r, h⟩ := h
  obtain ⟨A', ra, ha⟩ := rel.put (i := i) (OwM.fz_of r) (by simp) (by simp)
  exact h A' _ ra (fun a z => (ha a z).elim id fun q => by simp at q) fun vs hv => wipe_set σ _ (hv i (by simp))⟩
abbrev Tgs := List PV → Env → Option Env
def tqGs (K : PySem.W.Frag) (cl : Cl) (js : List Nat) (g : Tgs) : TGs := fun vs σ H Q => ∃ F A γ xs, Rel ⟨K, cl⟩ F A σ H γ ∧ RpL ⟨K, cl⟩ F xs vs ∧ match g xs γ with
  | some γ' => ∀ A' σ', Rel ⟨K, cl⟩ F A' σ' H γ' → (∀ a ∈ A', a ∈ A) → (∀ vs : List Nat, (∀ j ∈ js, j ∈ vs) → wipe σ' vs = wipe σ vs) → Q σ' H
  | none => False
structure QGs (cl : Cl) (X : Cx) (js : List Nat) (g : Tgs) (e : List Expr) : Prop where
  pg : PGs X e (tqGs X.K cl js g)
theorem _root_.L2.PGs.imp {X : Cx} {e : List Expr} {t t' : TGs} (h : PGs X e t) (k : ∀ v σ H Q, t' v σ H Q → t v σ H Q) : PGs X e t' := ⟨fun pins s σ H v u Q I r q => h.run pins s σ H v u Q I r (k v σ H Q q)⟩
def tgNil : Tgs := fun xs γ => match xs with
  | [] => some γ
  | _ => none
def tgCons (g : Tg) (gs : Tgs) : Tgs := fun xs γ => match xs with
  | x :: r => (g x γ).bind fun γ' => gs r γ'
  | [] => none
theorem qgs_nil : QGs cl X [] tgNil [] := ⟨pgs_nil.imp fun vs σ H Q h => by
  obtain ⟨F, A, γ, xs, rel, r, h⟩ := h
  cases xs with
  | nil =>
    simp only [RpL] at r
    exact ⟨r, h A σ rel (fun _ q => q) fun _ _ => rfl⟩
  | cons x xs => exact h.elim⟩
theorem qgs_cons {js ks : List Nat} {g gs} {e : Expr} {es : List Expr} (h1 : QG cl X js g e) (h2 : QGs cl X ks gs es) (hs : (assignEach (e :: es) X.env).map (·.2) = assign e X.env :: (assignEach es X.env).map (·.2) := by rfl) : QGs cl X (js ++ ks) (tgCons g gs) (e :: es) := ⟨(pgs_cons h1.pg h2.pg hs).imp fun vs σ H Q h => by
  obtain ⟨F, A, γ, xs, rel, r, h⟩ := h
  cases xs with
  | nil => exact h.elim
  | cons x xs =>
    simp only [RpL] at r
    obtain ⟨v, ws, rfl, p, q⟩ := r
    refine ⟨v, ws, rfl, F, A, γ, x, rel, p, ?_⟩
    simp only [tgCons] at h
    cases e : g x γ with
    | none => rw [e] at h; exact h.elim
    | some γ1 =>
      rw [e] at h
      simp only [Option.bind_some] at h
      intro A1 σ1 rel1 a1 w1
      refine ⟨F, A1, γ1, xs, rel1, q, ?_⟩
      cases e2 : gs xs γ1 with
      | none => rw [e2] at h; exact h.elim
      | some γ2 =>
        rw [e2] at h
        exact fun A2 σ2 rel2 a2 w2 => h A2 σ2 rel2 (fun a z => a1 a (a2 a z)) fun vs hv => (w2 vs fun j hj => hv j (List.mem_append_right _ hj)).trans (w1 vs fun j hj => hv j (List.mem_append_left _ hj))⟩
def tgT (gs : Tgs) : Tg := fun x γ => match x with
  | .tup xs => gs xs γ
  | .lst xs => gs xs γ
  | _ => none
theorem _root_.L2.PG.or {X : Cx} {e : Expr} {t t' : TG} (h : PG X e t) (h' : PG X e t') : PG X e (fun v σ H Q => t v σ H Q ∨ t' v σ H Q) := ⟨fun pins s σ H v u Q I r q => q.elim (h.run pins s σ H v u Q I r) (h'.run pins s σ H v u Q I r)⟩
/-- a, b, .. = a list of that length, also a locked one -/
def gRd (n : Nat) (t : TGs) : TG := fun v σ H Q => ∃ a xs, v = .ref a ∧ Rd H a (.lst xs) ∧ xs.length = n ∧ t xs σ H Q
theorem pg_rd {es : List Expr} {k : Nat} {t : TGs} {n : Nat} {pos : Pos} (hc : X.calm = true) (h : PGs X es t)
    (hn : (assignEach es X.env).length = n := by rfl) (hst : (assignEach es X.env).findIdx? (·.1) = none := by rfl) : PG X (.Tuple es k pos) (gRd n t) := by
  refine ⟨fun pins s σ H v u Q I r hw => ?_⟩
  obtain ⟨a, xs, e1, hq, hl, hw⟩ := hw
  subst e1
  cases r
  obtain ⟨hz, its, m, rv, _, e⟩ := I.lstR hq
  have hl' : s.heap.IsList a its.toArray := ⟨_, e, rfl, m, rfl⟩
  have hsz : (assignEach es X.env).length = its.toArray.size := by simp [hn, ← hl, rv.length]
  rw [PyProof.Rows.assign_Tuple]
  refine PySem.wpAny_bind (PySem.wpAny_standAt ?_)
  unfold unpack
  rw [hsz, hst]
  refine PySem.wpAny_bind (PySem.wpAny_holding (PySem.W.kun_itemsOf (I.ok.hd hc) hl' fun h' hx => ?_))
  have I1 : Inv X pins σ H { s with heap := h' } := I.kept (t' := s.toks) fun b o e => hx b o (Nat.ne_of_lt (Heap.lt_size e)) e
  exact h.run pins _ σ H xs _ Q I1 (by simpa using rv) hw
theorem qg_tup {js : List Nat} {gs} {es : List Expr} {k : Nat} {n : Nat} {pos : Pos} (hc : X.calm = true) (h : QGs cl X js gs es) (hl : ∀ xs γ γ', gs xs γ = some γ' → xs.length = n) (hn : (assignEach es X.env).length = n := by rfl) (hst : (assignEach es X.env).findIdx? (·.1) = none := by rfl) :
    QG cl X js (tgT gs) (.Tuple es k pos) := ⟨((pg_tup hc h.pg hn hst).or (pg_rd hc h.pg hn hst)).imp fun v σ H Q hh => by
  obtain ⟨F, A, γ, x, rel, r, hh⟩ := hh
  cases x <;> try exact hh.elim
  · rename_i xs
    simp only [Rp] at r
    obtain ⟨a, vs, rfl, q, r⟩ := r
    refine .inl ⟨a, vs, rfl, SqT.of (rel.sub _ _ q), ?_, F, A, γ, xs, rel, r, ?_⟩
    · rw [r.length]
      simp only [tgT] at hh
      cases e : gs xs γ with
      | none => rw [e] at hh; exact hh.elim
      | some γ' => exact hl xs γ γ' e
    · exact hh
  · rename_i xs
    simp only [Rp] at r
    obtain ⟨a, vs, rfl, q, r⟩ := r
    refine .inr ⟨a, vs, rfl, rd_mono rel.sub q, ?_, F, A, γ, xs, rel, r, ?_⟩
    · rw [r.length]
      simp only [tgT] at hh
      cases e : gs xs γ with
      | none => rw [e] at hh; exact hh.elim
      | some γ' => exact hl xs γ γ' e
    · exact hh⟩
theorem tgl_nil : ∀ xs γ γ', tgNil xs γ = some γ' → xs.length = 0 := fun xs γ γ' h => by
  cases xs <;> simp [tgNil] at h <;> rfl
theorem tgl_cons {g : Tg} {gs : Tgs} {n : Nat} (h : ∀ xs γ γ', gs xs γ = some γ' → xs.length = n) : ∀ xs γ γ', tgCons g gs xs γ = some γ' → xs.length = n + 1 := fun xs γ γ' e => by
  cases xs with
  | nil => simp [tgCons] at e
  | cons x xs =>
    simp only [tgCons] at e
    cases e1 : g x γ with
    | none => rw [e1] at e; cases e
    | some γ1 => rw [e1] at e; simp [h xs γ1 γ' e]
/-- a, b = e (e any tuple) -/
def sTg (f : Ex) (g : Tg) : Env → Os := fun γ => match f γ with
  | .ok l => match l.keep with
    | .ok x => match g x γ with
      | some γ' => .nx γ'
      | none => .no
    | _ => .no
  | .er e => .er e γ
  | .no => .no
theorem qs_asgT {js f g} {tg e : Expr} {pos : Pos} (he : QE cl X W f e) (hg : QG cl X js g tg) (hs : swapsWithSole [tg] e pos.line X.env = pure false := by rfl) (hw : swappedStores [tg] e X.env = pure none := by rfl)
    (h1 : (assignEach [tg] X.env).map (·.2) = [assign tg X.env] := by rfl) : QS cl X W (sTg f g) (.Assign [tg] e pos) := ⟨(ps_asg he.pe hg.pg hs hw h1).imp fun D σ H h => by
  obtain ⟨F, A, γ, rel, h⟩ := h
  refine ⟨F, A, γ, rel, ?_⟩
  unfold sTg at h
  cases e : f γ with
  | no => rw [e] at h; exact h
  | er x => rw [e] at h; exact fun F' H' c d ex r => h F' A σ H' c d (Step.ext ex) (rel.ext ex) r
  | ok l =>
    rw [e] at h
    simp only at h
    intro F1 H1 v e1 r1
    cases ek : l.keep with
    | no => rw [ek] at h; exact h.elim
    | er x => exact (l.keep_ne _ ek).elim
    | ok x =>
      rw [ek] at h
      simp only at h
      obtain ⟨F2, e2, s2, rx⟩ := keep_ok r1 e1 ek
      refine ⟨F2, A, γ, x, rel.ext e2, rx, ?_⟩
      cases eg : g x γ with
      | none => rw [eg] at h; exact h.elim
      | some γ' => rw [eg] at h; exact fun A' σ' ra ha _ => h F2 A' σ' H1 (Step.ext' e2 fun a z => .inl (ha a z)) ra⟩

/-! ### what is walked -/
structure ItOk (T : Tb) (J : It) (F0 : Hp) (items : List PV) : Prop where
  go : ∀ F H i x, Same F0 F → Same F H → items[i]? = some x → J.go i H ∧ ∀ v H', J.yld i H v H' → ∃ F', Ext F H F' H' ∧ Rp T F' x v
  stop : ∀ F H, Same F0 F → Same F H → J.stop items.length H
def tqI (K : PySem.W.Frag) (cl : Cl) (W : WX) (f : Env → R (List PV)) : TI := fun σ H Rr => ∃ F A γ, Rel ⟨K, cl⟩ F A σ H γ ∧ match f γ with
  | .ok items => ∀ F' H' J, Ext F H F' H' → ItOk ⟨K, cl⟩ J F' items → Rr J H'
  | .er e => ∀ F' H' c d, Ext F H F' H' → XcR ⟨K, cl⟩ F' e c d → W c d σ H'
  | .no => False
structure QI (cl : Cl) (X : Cx) (W : WX) (f : Env → R (List PV)) (tg e : Expr) : Prop where
  pi : PI X tg e (tqI X.K cl W f)
theorem _root_.L2.PI.imp {X : Cx} {tg e : Expr} {t t' : TI} (h : PI X tg e t) (k : ∀ σ H Q, t' σ H Q → t σ H Q) : PI X tg e t' := ⟨fun pins s σ H Q I q => h.run pins s σ H Q I (k σ H Q q)⟩
theorem _root_.L2.SqL.inj {P : Program} {w : World} {K : PySem.W.Frag} {H : Hp} {a : Addr} {xs ys : List V} (h : H a = some (.lst xs)) (k : Rd H a (.lst ys)) : xs = ys := by
  rcases k with k | ⟨o, k⟩
  · rw [h] at k; cases k; rfl
  · rw [h] at k; cases k
/-- items that may be walked: kept -/
def Vl.items (l : Vl) : R (List PV) := l.keep.bind fun x => match x with
  | .lst xs => .ok xs
  | .tup xs => .ok xs
  | _ => .no
theorem itl_ok {T : Tb} {F0 : Hp} {a : Addr} {xs : List PV} {vs : List V} (q : Rd F0 a (.lst vs)) (r : RpL T F0 xs vs) : ItOk T (Itl T.K a) F0 xs := by
  refine ⟨fun F H i x s0 s e => ?_, fun F H s0 s => ⟨vs, .inl (rd_mono (s0.trans s) q), by rw [r.length]; exact Nat.le_refl _⟩⟩
  obtain ⟨v, hv, rv⟩ := r.get e
  have qh : SqL T.K H a vs := .inl (rd_mono (s0.trans s) q)
  refine ⟨⟨vs, v, qh, hv⟩, fun u H' y => ?_⟩
  obtain ⟨e1, y⟩ := y
  subst e1
  have := y vs qh
  rw [hv] at this
  cases this
  exact ⟨F, Ext.refl s, rv.mono s0⟩
theorem itt_ok {T : Tb} {F0 : Hp} {a : Addr} {xs : List PV} {vs : List V} (q : F0 a = some (.tup vs)) (r : RpL T F0 xs vs) : ItOk T (Itt T.K a) F0 xs := by
  refine ⟨fun F H i x s0 s e => ?_, fun F H s0 s => ⟨vs, SqT.of (s _ _ (s0 _ _ q)), by rw [r.length]; exact Nat.le_refl _⟩⟩
  obtain ⟨v, hv, rv⟩ := r.get e
  have qh : SqT T.K H a vs := SqT.of (s _ _ (s0 _ _ q))
  refine ⟨⟨vs, v, qh, hv⟩, fun u H' y => ?_⟩
  obtain ⟨e1, y⟩ := y
  subst e1
  have := y vs qh
  rw [hv] at this
  cases this
  exact ⟨F, Ext.refl s, rv.mono s0⟩
/-- a list or a tuple, walked -/
theorem pi_seq {tg l : Expr} {tl : TE} (hl : PE X l tl) : PI X tg l (fun σ H Rr => tl σ H fun x H1 => ∃ a, x = .ref a ∧ ((∃ xs, SqL X.K H1 a xs ∧ Rr (Itl X.K a) H1) ∨ ∃ xs, SqT X.K H1 a xs ∧ Rr (Itt X.K a) H1)) := by
  refine ⟨fun pins s σ H Rr I h => ?_⟩
  refine thn (hl.run pins s σ H _ I h) fun v s1 ⟨x, H1, I1, r1, q1⟩ => ?_
  obtain ⟨a, e, q1⟩ := q1
  subst e
  cases r1
  rcases q1 with ⟨xs, hq, q⟩ | ⟨xs, hq, q⟩
  · obtain ⟨its, rv, p, hz⟩ := I1.list hq
    refine PySem.wpAny_pyIter_list p.isList ?_
    refine ⟨s1.heap.objs.size, [s1.heap.objs.size], _, _, H1, rfl, I1.kept (t' := s1.toks) fun b o e => Heap.get?_push_of_some _ e, turn_list a _, ⟨_, Heap.get?_push_size _ rfl, rfl, rfl⟩, fun b hb => ?_, q⟩
    have e : b = s1.heap.objs.size := by simpa using hb
    subst e
    exact I1.fpOk (Nat.le_refl _) (I1.hok.fresh (Nat.le_refl _))
  · obtain ⟨its, rv, p, hz⟩ := I1.tuple hq
    refine PySem.wpAny_pyIter_tuple (show s1.heap.IsTuple a its.toArray from p) ?_
    refine ⟨s1.heap.objs.size, [s1.heap.objs.size], _, _, H1, rfl, I1.kept (t' := s1.toks) fun b o e => Heap.get?_push_of_some _ e, turn_tuple a _, ⟨_, Heap.get?_push_size _ rfl, rfl, rfl⟩, fun b hb => ?_, q⟩
    have e : b = s1.heap.objs.size := by simpa using hb
    subst e
    exact I1.fpOk (Nat.le_refl _) (I1.hok.fresh (Nat.le_refl _))
def iSeq (f : Ex) : Env → R (List PV) := fun γ => (f γ).bind Vl.items
theorem qi_seq {f} {tg e : Expr} (he : QE cl X W f e) : QI cl X W (iSeq f) tg e := ⟨(pi_seq he.pe).imp fun σ H Rr h => by
  obtain ⟨F, A, γ, rel, h⟩ := h
  refine ⟨F, A, γ, rel, ?_⟩
  unfold iSeq at h
  cases e : f γ with
  | no => rw [e] at h; exact h
  | er x => rw [e] at h; exact h
  | ok l =>
    rw [e] at h
    simp only [R.bind_ok, Vl.items] at h
    intro F1 H1 v e1 r1
    cases ek : l.keep with
    | no => rw [ek] at h; exact h.elim
    | er x => exact (l.keep_ne _ ek).elim
    | ok x =>
      rw [ek] at h
      simp only [R.bind_ok] at h
      obtain ⟨F2, e2, s2, rx⟩ := keep_ok r1 e1 ek
      cases x <;> try exact h.elim
      · rename_i xs
        simp only [Rp] at rx
        obtain ⟨a, vs, rfl, q, r⟩ := rx
        exact ⟨a, rfl, .inr ⟨vs, SqT.of (e2.sub _ _ q), h F2 H1 _ e2 (itt_ok q r)⟩⟩
      · rename_i xs
        simp only [Rp] at rx
        obtain ⟨a, vs, rfl, q, r⟩ := rx
        exact ⟨a, rfl, .inl ⟨vs, .inl (rd_mono e2.sub q), h F2 H1 _ e2 (itl_ok q r)⟩⟩⟩
/-- ranges -/
def rngL (lo : Int) (n : Nat) : List PV := (List.range n).map fun (k : Nat) => PV.int (lo + (k : Int))
theorem itr_ok {T : Tb} {F0 : Hp} {lo : Int} {n : Nat} : ItOk T (Itr lo n) F0 (rngL lo n) := by
  refine ⟨fun F H i x s0 s e => ?_, fun F H s0 s => by simp [rngL, Itr]⟩
  simp only [rngL, List.getElem?_map] at e
  cases h : (List.range n)[i]? with
  | none => rw [h] at e; cases e
  | some k =>
    rw [h] at e
    have hi : i < n := by simpa using (List.getElem?_eq_some_iff.mp h).1
    have hk : k = i := by
      have := (List.getElem?_eq_some_iff.mp h).2
      simpa using this.symm
    subst hk
    simp at e
    subst e
    refine ⟨hi, fun u H' y => ?_⟩
    obtain ⟨e1, rfl⟩ := y
    subst e1
    exact ⟨F, Ext.refl s, by simp [Rp]⟩
def cRng (i : Int) : Bool := decide (-(2 ^ 62) ≤ i) && decide (i < 2 ^ 62)
theorem cRng_of {i : Int} (h : cRng i = true) : -(2 ^ 62) ≤ i ∧ i < 2 ^ 62 := by simpa [cRng] using h
def pRng : List PV → R (List PV)
  | [.int j] => if cRng j then .ok (rngL 0 j.toNat) else .no
  | [.int i, .int j] => if cRng i && cRng j then .ok (rngL i (j - i).toNat) else .no
  | _ => .no
def iRng (fs : Env → R (List PV)) : Env → R (List PV) := fun γ => (fs γ).bind pRng
theorem pRng_ok {xs items : List PV} (h : pRng xs = .ok items) : (∃ j, xs = [.int j] ∧ cRng j = true ∧ items = rngL 0 j.toNat) ∨ ∃ i j, xs = [.int i, .int j] ∧ cRng i = true ∧ cRng j = true ∧ items = rngL i (j - i).toNat := by
  unfold pRng at h
  split at h
  · split at h
    · cases h; exact .inl ⟨_, rfl, by assumption, rfl⟩
    · cases h
  · split at h
    · rename_i c
      rw [Bool.and_eq_true] at c
      cases h; exact .inr ⟨_, _, rfl, c.1, c.2, rfl⟩
    · cases h
  · cases h
theorem pRng_ne (xs : List PV) (e : Xc) : pRng xs ≠ .er e := fun h => by
  unfold pRng at h
  split at h
  · split at h <;> cases h
  · split at h <;> cases h
  · cases h
theorem qi_range1 {fs} {tg a : Expr} {p pos : Pos} (hm : X.mg "range" = none) (ha : QA cl X W fs [a]) (h1 : ∀ γ xs, fs γ = .ok xs → xs.length = 1) (hg : Gl X "range" := by rfl) (hs : starEach [a] X.env = [(false, eval a X.env)] := by rfl) : QI cl X W (iRng fs) tg (.Call (.Name "range" p) [a] [] pos) := ⟨(pi_range1 hg hm ha.pa hs).imp fun σ H Rr h => by
  obtain ⟨F, A, γ, rel, h⟩ := h
  refine ⟨F, A, γ, rel, ?_⟩
  unfold iRng at h
  cases e : fs γ with
  | no => rw [e] at h; exact h
  | er x => rw [e] at h; exact h
  | ok xs =>
    rw [e] at h
    simp only [R.bind_ok] at h
    intro F1 H1 vs e1 r1
    cases e' : pRng xs with
    | no => rw [e'] at h; exact h.elim
    | er x => exact (pRng_ne _ _ e').elim
    | ok items =>
      rw [e'] at h
      rcases pRng_ok e' with ⟨j, rfl, cj, rfl⟩ | ⟨i, j, rfl, ci, cj, rfl⟩
      · obtain ⟨v, rfl, rv⟩ := r1.one
        have c := cRng_of cj
        exact ⟨j, by rw [rv.int], c.1, c.2, h F1 H1 _ e1 itr_ok⟩
      · have := h1 γ _ e; simp at this⟩
theorem qi_range2 {fs} {tg a b : Expr} {p pos : Pos} (hm : X.mg "range" = none) (ha : QA cl X W fs [a, b]) (h1 : ∀ γ xs, fs γ = .ok xs → xs.length = 2) (hg : Gl X "range" := by rfl) (hs : starEach [a, b] X.env = [(false, eval a X.env), (false, eval b X.env)] := by rfl) (hs2 : starEach [b] X.env = [(false, eval b X.env)] := by rfl) : QI cl X W (iRng fs) tg (.Call (.Name "range" p) [a, b] [] pos) := ⟨(pi_range2 hg hm ha.pa hs hs2).imp fun σ H Rr h => by
  obtain ⟨F, A, γ, rel, h⟩ := h
  refine ⟨F, A, γ, rel, ?_⟩
  unfold iRng at h
  cases e : fs γ with
  | no => rw [e] at h; exact h
  | er x => rw [e] at h; exact h
  | ok xs =>
    rw [e] at h
    simp only [R.bind_ok] at h
    intro F1 H1 vs e1 r1
    cases e' : pRng xs with
    | no => rw [e'] at h; exact h.elim
    | er x => exact (pRng_ne _ _ e').elim
    | ok items =>
      rw [e'] at h
      rcases pRng_ok e' with ⟨j, rfl, cj, rfl⟩ | ⟨i, j, rfl, ci, cj, rfl⟩
      · have := h1 γ _ e; simp at this
      · obtain ⟨v, w, rfl, rv, rw'⟩ := r1.two
        have c := cRng_of ci
        have d := cRng_of cj
        exact ⟨i, j, by rw [rv.int, rw'.int], ⟨c.1, c.2, d.1, d.2⟩, h F1 H1 _ e1 itr_ok⟩⟩
theorem al_nil : ∀ γ xs, aNil γ = .ok xs → xs.length = 0 := fun γ xs h => by cases h; rfl
theorem al_cons {f : Ex} {fs : Env → R (List PV)} {n : Nat} (h : ∀ γ xs, fs γ = .ok xs → xs.length = n) : ∀ γ xs, aCons f fs γ = .ok xs → xs.length = n + 1 := fun γ xs e => by
  unfold aCons at e
  cases e1 : f γ with
  | no => rw [e1] at e; cases e
  | er x => rw [e1] at e; cases e
  | ok l =>
    rw [e1] at e
    simp only [R.bind_ok] at e
    cases e2 : fs γ with
    | no => rw [e2] at e; cases e
    | er x => rw [e2] at e; cases e
    | ok ys => rw [e2] at e; cases e; simp [h γ ys e2]
/-- enumerate(xs) of a list; the items are pairs -/
def enumL (k : Nat) : List PV → List PV
  | [] => []
  | x :: xs => .tup [.int (k : Int), x] :: enumL (k + 1) xs
theorem enumL_get : ∀ (xs : List PV) (k i : Nat), (enumL k xs)[i]? = (xs[i]?).map fun x => .tup [.int ((k + i : Nat) : Int), x]
  | [], k, i => by simp [enumL]
  | x :: xs, k, 0 => by simp [enumL]
  | x :: xs, k, i + 1 => by
    simp only [enumL, List.getElem?_cons_succ, enumL_get xs (k + 1) i]
    rw [show k + 1 + i = k + (i + 1) by omega]
theorem enumL_length : ∀ (xs : List PV) (k : Nat), (enumL k xs).length = xs.length
  | [], k => rfl
  | x :: xs, k => by simp [enumL, enumL_length xs (k + 1)]
theorem ite_ok {T : Tb} {F0 : Hp} {a : Addr} {xs : List PV} {vs : List V} (q : Rd F0 a (.lst vs)) (r : RpL T F0 xs vs) : ItOk T (Ite T.K a) F0 (enumL 0 xs) := by
  refine ⟨fun F H i x s0 s e => ?_, fun F H s0 s => ⟨vs, .inl (rd_mono (s0.trans s) q), by rw [enumL_length, r.length]; exact Nat.le_refl _⟩⟩
  rw [enumL_get] at e
  cases ei : xs[i]? with
  | none => rw [ei] at e; cases e
  | some y =>
    rw [ei] at e
    simp at e
    obtain ⟨v, hv, rv⟩ := r.get ei
    have qh : SqL T.K H a vs := .inl (rd_mono (s0.trans s) q)
    refine ⟨⟨vs, v, qh, hv⟩, fun u H' yl => ?_⟩
    obtain ⟨Ta, w, rfl, nT, rfl, h4⟩ := yl
    have := h4 vs qh
    rw [hv] at this
    cases this
    refine ⟨_, Ext.newF s nT, ?_⟩
    rw [← e]
    exact new_tup s nT (RpL.cons (by simp [Rp]) (RpL.cons (rv.mono s0) RpL.nil))
def iEnu (f : Ex) : Env → R (List PV) := fun γ => (f γ).bind fun l => l.keep.bind fun x => match x with
  | .lst xs => .ok (enumL 0 xs)
  | _ => .no
theorem qi_enum {f} {e : Expr} {p pos tpos : Pos} {elts : List Expr} {kk : Nat} (hm : X.mg "enumerate" = none) (he : QE cl X W f e) (hg : Gl X "enumerate" := by rfl) (hs : starEach [e] X.env = [(false, eval e X.env)] := by rfl)
    (hs2 : starEach [e] X.env = (false, eval e X.env) :: starEach [] X.env := by rfl) : QI cl X W (iEnu f) (.Tuple elts kk tpos) (.Call (.Name "enumerate" p) [e] [] pos) := ⟨(pi_enum hg hm (pa_cons he.pe pa_nil hs2) hs).imp fun σ H Rr h => by
  obtain ⟨F, A, γ, rel, h⟩ := h
  refine ⟨F, A, γ, rel, ?_⟩
  unfold iEnu at h
  cases e : f γ with
  | no => rw [e] at h; exact h
  | er x => rw [e] at h; exact h
  | ok l =>
    rw [e] at h
    simp only [R.bind_ok] at h
    intro F1 H1 v e1 r1
    cases ek : l.keep with
    | no => rw [ek] at h; exact h.elim
    | er x => exact (l.keep_ne _ ek).elim
    | ok x =>
      rw [ek] at h
      simp only [R.bind_ok] at h
      obtain ⟨F2, e2, s2, rx⟩ := keep_ok r1 e1 ek
      cases x <;> try exact h.elim
      rename_i xs
      simp only [Rp] at rx
      obtain ⟨a, vs, rfl, q, r⟩ := rx
      exact ⟨a, vs, rfl, .inl (rd_mono e2.sub q), h F2 H1 _ e2 (ite_ok q r)⟩⟩
/-- zip of two lists, or of two tuples -/
def zipL : List PV → List PV → List PV
  | x :: xs, y :: ys => .tup [x, y] :: zipL xs ys
  | _, _ => []
theorem zipL_get : ∀ (xs ys : List PV) (i : Nat), (zipL xs ys)[i]? = (xs[i]?).bind fun x => (ys[i]?).map fun y => .tup [x, y]
  | [], _, i => by simp [zipL]
  | _ :: _, [], i => by simp [zipL]
  | x :: xs, y :: ys, 0 => by simp [zipL]
  | x :: xs, y :: ys, i + 1 => by simp only [zipL, List.getElem?_cons_succ, zipL_get xs ys i]
theorem zipL_length : ∀ (xs ys : List PV), (zipL xs ys).length = min xs.length ys.length
  | [], _ => by simp [zipL]
  | _ :: _, [] => by simp [zipL]
  | x :: xs, y :: ys => by simp only [zipL, List.length_cons, zipL_length xs ys]; omega
theorem itz_ok {T : Tb} {F0 : Hp} {a b : Addr} {xs ys : List PV} {vs us : List V} (q : Rd F0 a (.lst vs)) (r : RpL T F0 xs vs) (q' : Rd F0 b (.lst us)) (r' : RpL T F0 ys us) : ItOk T (Itz T.K a b) F0 (zipL xs ys) := by
  refine ⟨fun F H i x s0 s e => ?_, fun F H s0 s => ⟨vs, us, .inl (rd_mono (s0.trans s) q), .inl (rd_mono (s0.trans s) q'), by rw [zipL_length, r.length, r'.length]; omega⟩⟩
  rw [zipL_get] at e
  cases ei : xs[i]? with
  | none => rw [ei] at e; cases e
  | some y =>
    cases ej : ys[i]? with
    | none => rw [ei, ej] at e; cases e
    | some z =>
      rw [ei, ej] at e
      simp at e
      obtain ⟨v, hv, rv⟩ := r.get ei
      obtain ⟨u, hu, ru⟩ := r'.get ej
      have qh : SqL T.K H a vs := .inl (rd_mono (s0.trans s) q)
      have qh' : SqL T.K H b us := .inl (rd_mono (s0.trans s) q')
      refine ⟨⟨vs, us, v, u, qh, qh', hv, hu⟩, fun w H' yl => ?_⟩
      obtain ⟨Ta, x1, y1, rfl, nT, rfl, h4, h5⟩ := yl
      have e1 := h4 vs qh
      have e2 := h5 us qh'
      rw [hv] at e1; cases e1
      rw [hu] at e2; cases e2
      refine ⟨_, Ext.newF s nT, ?_⟩
      rw [← e]
      exact new_tup s nT (RpL.cons (rv.mono s0) (RpL.cons (ru.mono s0) RpL.nil))
theorem itzT_ok {T : Tb} {F0 : Hp} {a b : Addr} {xs ys : List PV} {vs us : List V} (q : F0 a = some (.tup vs)) (r : RpL T F0 xs vs) (q' : F0 b = some (.tup us)) (r' : RpL T F0 ys us) : ItOk T (RZ.ItzT T.K a b) F0 (zipL xs ys) := by
  refine ⟨fun F H i x s0 s e => ?_, fun F H s0 s => ⟨vs, us, SqT.of (s _ _ (s0 _ _ q)), SqT.of (s _ _ (s0 _ _ q')), by rw [zipL_length, r.length, r'.length]; omega⟩⟩
  rw [zipL_get] at e
  cases ei : xs[i]? with
  | none => rw [ei] at e; cases e
  | some y =>
    cases ej : ys[i]? with
    | none => rw [ei, ej] at e; cases e
    | some z =>
      rw [ei, ej] at e
      simp at e
      obtain ⟨v, hv, rv⟩ := r.get ei
      obtain ⟨u, hu, ru⟩ := r'.get ej
      have qh : SqT T.K H a vs := SqT.of (s _ _ (s0 _ _ q))
      have qh' : SqT T.K H b us := SqT.of (s _ _ (s0 _ _ q'))
      refine ⟨⟨vs, us, v, u, qh, qh', hv, hu⟩, fun w H' yl => ?_⟩
      obtain ⟨Ta, x1, y1, rfl, nT, rfl, h4, h5⟩ := yl
      have e1 := h4 vs qh
      have e2 := h5 us qh'
      rw [hv] at e1; cases e1
      rw [hu] at e2; cases e2
      refine ⟨_, Ext.newF s nT, ?_⟩
      rw [← e]
      exact new_tup s nT (RpL.cons (rv.mono s0) (RpL.cons (ru.mono s0) RpL.nil))
def pZip (xs : List PV) : R (List PV) := match xs with
  | [.lst xs, .lst ys] => .ok (zipL xs ys)
  | [.tup xs, .tup ys] => .ok (zipL xs ys)
  | _ => .no
theorem pZip_ok {l items : List PV} (h : pZip l = .ok items) : ∃ xs ys, items = zipL xs ys ∧ (l = [.lst xs, .lst ys] ∨ l = [.tup xs, .tup ys]) := by
  unfold pZip at h
  split at h <;> cases h
  · exact ⟨_, _, rfl, .inl rfl⟩
  · exact ⟨_, _, rfl, .inr rfl⟩
theorem pZip_ne (l : List PV) (e : Xc) : pZip l ≠ .er e := fun h => by
  unfold pZip at h
  split at h <;> cases h
def iZp (fs : Env → R (List PV)) : Env → R (List PV) := fun γ => (fs γ).bind pZip
theorem qi_zip {fs} {e e2 : Expr} {p pos tpos : Pos} {elts : List Expr} {kk : Nat} (hm : X.mg "zip" = none) (ha : QZ cl X W fs [e, e2]) (hg : Gl X "zip" := by rfl)
    (hs : starEach [e, e2] X.env = (false, eval e X.env) :: starEach [e2] X.env := by rfl) (hpl : (backTo pos (starEach [e2] X.env)).any (·.1) = false := by rfl) : QI cl X W (iZp fs) (.Tuple elts kk tpos) (.Call (.Name "zip" p) [e, e2] [] pos) := ⟨(RZ.pi_zipA hg hm ha.pa hs hpl).imp fun σ H Rr h => by
  obtain ⟨F, A, γ, rel, h⟩ := h
  refine ⟨F, A, γ, rel, ?_⟩
  unfold iZp at h
  cases e : fs γ with
  | no => rw [e] at h; exact h
  | er x => rw [e] at h; exact h
  | ok l =>
    rw [e] at h
    simp only [R.bind_ok] at h
    intro F1 H1 vs e1 r1
    cases e' : pZip l with
    | no => rw [e'] at h; exact h.elim
    | er x => exact (pZip_ne _ _ e').elim
    | ok items =>
      rw [e'] at h
      obtain ⟨xs, ys, rfl, rfl | rfl⟩ := pZip_ok e'
      · simp only [RpL, Rp] at r1
        obtain ⟨v, ws, rfl, ⟨a, us, rfl, q, r⟩, w', ws', rfl, ⟨b, us', rfl, q', r'⟩, rfl⟩ := r1
        exact ⟨a, b, us, us', rfl, .inl ⟨.inl (rd_mono e1.sub q), .inl (rd_mono e1.sub q'), h F1 H1 _ e1 (itz_ok q r q' r')⟩⟩
      · simp only [RpL, Rp] at r1
        obtain ⟨v, ws, rfl, ⟨a, us, rfl, q, r⟩, w', ws', rfl, ⟨b, us', rfl, q', r'⟩, rfl⟩ := r1
        exact ⟨a, b, us, us', rfl, .inr ⟨SqT.of (e1.sub _ _ q), SqT.of (e1.sub _ _ q'), h F1 H1 _ e1 (itzT_ok q r q' r')⟩⟩⟩
end
end Z
/-! the pure layer, part H: for, while, comprehensions, stores into own lists and dicts -/
namespace Z
open PySem L2
/-! ### for -/
def forL (tg : Tg) (body : Env → Os) : List PV → Env → Os
  | [], γ => .nx γ
  | x :: xs, γ => match tg x γ with
    | none => .no
    | some γ1 => match body γ1 with
      | .nx γ2 => forL tg body xs γ2
      | .ct γ2 => forL tg body xs γ2
      | .bk γ2 => .nx γ2
      | .rt y γ2 => .rt y γ2
      | .er e γ2 => .er e γ2
      | .no => .no
def sFor (it : Env → R (List PV)) (tg : Tg) (body : Env → Os) : Env → Os := fun γ => match it γ with
  | .ok items => forL tg body items γ
  | .er e => .er e γ
  | .no => .no
section
variable {X : Cx} {cl : Cl} {W : WX}
theorem qs_for {js it tg body} {t iter : Expr} {b : List Stmt} {pos : Pos} (hp : PassesOwn (model X.prog X.w) X.A X.env X.xe) (hc : X.calm = true) (hi : QI cl X W it t iter) (hg : QG cl X js tg t) (hb : QSs cl X W body b)
    (hs : ∀ x, foldedSetIterable iter X.env x = pure x := by intro _; rfl) : QS cl X W (sFor it tg body) (.For t iter b [] pos) := ⟨(ps_for hp hc hi.pi hg.pg hb.ps hs).imp fun D σ H h => by
  obtain ⟨F, A, γ, rel, h⟩ := h
  refine ⟨F, A, γ, rel, ?_⟩
  unfold sFor at h
  cases e : it γ with
  | no => rw [e] at h; exact h
  | er x => rw [e] at h; exact fun F' H' c d ex r => h F' A σ H' c d (Step.ext ex) (rel.ext ex) r
  | ok items =>
    rw [e] at h
    simp only at h
    intro F0 H0 J e0 ok
    refine ⟨fun i m σ H => m = items.length - i ∧ i ≤ items.length ∧ ∃ F A γ, Same F0 F ∧ Rel ⟨X.K, cl⟩ F A σ H γ ∧ Fin X cl W D F A H (forL tg body (items.drop i) γ), ⟨items.length, by simp, Nat.zero_le _, F0, A, γ, Same.refl _, rel.ext e0, by
      rw [List.drop_zero]
      exact h.step (Step.ext e0)⟩, ?_⟩
    rintro i m σ1 H1 ⟨rfl, hi, F1, A1, γ1, s1, rel1, h1⟩
    by_cases hlt : i < items.length
    · obtain ⟨x, ex⟩ : ∃ x, items[i]? = some x := ⟨items[i], by simp [hlt]⟩
      obtain ⟨hgo, hy⟩ := ok.go F1 H1 i x s1 rel1.sub ex
      refine .inr ⟨hgo, fun σ2 H2 => items.length - (i + 1) = items.length - (i + 1) ∧ i + 1 ≤ items.length ∧ ∃ F A γ, Same F0 F ∧ Rel ⟨X.K, cl⟩ F A σ2 H2 γ ∧ Fin X cl W D F A H2 (forL tg body (items.drop (i + 1)) γ), fun σ' H' n => ⟨items.length - (i + 1), by omega, n⟩, fun v H' y => ?_⟩
      obtain ⟨F2, e2, rx⟩ := hy v H' y
      refine ⟨F2, A1, γ1, x, rel1.ext e2, rx, ?_⟩
      have hd : items.drop i = x :: items.drop (i + 1) := by
        rw [List.drop_eq_getElem_cons hlt]
        have := (List.getElem?_eq_some_iff.mp ex).2
        rw [this]
      rw [hd] at h1
      simp only [forL] at h1
      cases et : tg x γ1 with
      | none => rw [et] at h1; exact h1.elim
      | some γ2 =>
        rw [et] at h1
        simp only at h1
        intro A2 σ2 rel2 a2 _
        refine ⟨F2, A2, γ2, rel2, ?_⟩
        have st : Step F1 A1 H1 F2 A2 H' := Step.ext' e2 fun a z => .inl (a2 a z)
        cases eb : body γ2 with
        | no => rw [eb] at h1; exact h1
        | nx γ3 =>
          rw [eb] at h1
          exact fun F' A' σ' H'' st2 r => ⟨rfl, hlt, F', A', γ3, s1.trans (e2.fle.trans st2.fle), r, h1.step (st.trans st2)⟩
        | ct γ3 =>
          rw [eb] at h1
          exact fun F' A' σ' H'' st2 r => ⟨rfl, hlt, F', A', γ3, s1.trans (e2.fle.trans st2.fle), r, h1.step (st.trans st2)⟩
        | bk γ3 => rw [eb] at h1; exact fun F' A' σ' H'' st2 r => h1 F' A' σ' H'' (st.trans st2) r
        | rt y γ3 => rw [eb] at h1; exact fun F' A' σ' H'' v st2 r p => h1 F' A' σ' H'' v (st.trans st2) r p
        | er y γ3 => rw [eb] at h1; exact fun F' A' σ' H'' c d st2 r p => h1 F' A' σ' H'' c d (st.trans st2) r p
    · have ei : i = items.length := by omega
      subst ei
      rw [List.drop_length] at h1
      exact .inl ⟨ok.stop F1 H1 s1 rel1.sub, h1 F1 A1 σ1 H1 Step.refl rel1⟩⟩

/-! ### while -/
def whileF (c : Env → R Bool) (body : Env → Os) : Nat → Env → Os
  | 0, _ => .no
  | n + 1, γ => match c γ with
    | .ok true => match body γ with
      | .nx γ2 => whileF c body n γ2
      | .ct γ2 => whileF c body n γ2
      | .bk γ2 => .nx γ2
      | .rt y γ2 => .rt y γ2
      | .er e γ2 => .er e γ2
      | .no => .no
    | .ok false => .nx γ
    | .er e => .er e γ
    | .no => .no
theorem qs_while {c body} {t : Expr} {b : List Stmt} {pos : Pos} (n : Nat) (hp : PassesOwn (model X.prog X.w) X.A X.env X.xe) (hc : QT cl X W c t) (hb : QSs cl X W body b) : QS cl X W (whileF c body n) (.While t b [] pos) := ⟨(ps_while hp hc.pt hb.ps).imp fun D σ H h => by
  obtain ⟨F, A, γ, rel, h⟩ := h
  refine ⟨fun m σ H => ∃ F A γ, Rel ⟨X.K, cl⟩ F A σ H γ ∧ Fin X cl W D F A H (whileF c body m γ), ⟨n, F, A, γ, rel, h⟩, ?_⟩
  rintro m σ1 H1 ⟨F1, A1, γ1, rel1, h1⟩
  refine ⟨F1, A1, γ1, rel1, ?_⟩
  cases m with
  | zero => exact h1.elim
  | succ m =>
    simp only [whileF] at h1
    cases ec : c γ1 with
    | no => rw [ec] at h1; exact h1
    | er x => rw [ec] at h1; exact fun F' H' c d ex r => h1 F' A1 σ1 H' c d (Step.ext ex) (rel1.ext ex) r
    | ok k =>
      rw [ec] at h1
      intro F2 H2 e2
      cases k with
      | false =>
        rw [if_neg Bool.false_ne_true]
        exact h1 F2 A1 σ1 H2 (Step.ext e2) (rel1.ext e2)
      | true =>
        rw [if_pos rfl]
        refine ⟨fun σ' H' => ∃ F A γ, Rel ⟨X.K, cl⟩ F A σ' H' γ ∧ Fin X cl W D F A H' (whileF c body m γ), fun σ' H' q => ⟨m, by omega, q⟩, F2, A1, γ1, rel1.ext e2, ?_⟩
        simp only at h1
        have st : Step F1 A1 H1 F2 A1 H2 := Step.ext e2
        cases eb : body γ1 with
        | no => rw [eb] at h1; exact h1
        | nx γ3 => rw [eb] at h1; exact fun F' A' σ' H'' st2 r => ⟨F', A', γ3, r, h1.step (st.trans st2)⟩
        | ct γ3 => rw [eb] at h1; exact fun F' A' σ' H'' st2 r => ⟨F', A', γ3, r, h1.step (st.trans st2)⟩
        | bk γ3 => rw [eb] at h1; exact fun F' A' σ' H'' st2 r => h1 F' A' σ' H'' (st.trans st2) r
        | rt y γ3 => rw [eb] at h1; exact fun F' A' σ' H'' v st2 r p => h1 F' A' σ' H'' v (st.trans st2) r p
        | er y γ3 => rw [eb] at h1; exact fun F' A' σ' H'' c d st2 r p => h1 F' A' σ' H'' c d (st.trans st2) r p⟩

/-! ### comprehensions -/
def wipeE (γ : Env) : List Nat → Env
  | [] => γ
  | v :: vs => (wipeE γ vs).set v .un
theorem Rel.wipe {T : Tb} {F H : Hp} {A σ γ} (rel : Rel T F A σ H γ) : ∀ vs : List Nat, ∃ A', Rel T F A' (L2.wipe σ vs) H (wipeE γ vs) ∧ ∀ a ∈ A', a ∈ A
  | [] => ⟨A, rel, fun _ h => h⟩
  | v :: vs => by
    obtain ⟨A1, r1, h1⟩ := rel.wipe vs
    obtain ⟨A2, h2, n2, k2⟩ := OwE.wipe _ v none r1.env r1.nd
    exact ⟨A2, ⟨r1.sub, h2, n2, fun a ha => r1.dis a (k2 a ha)⟩, fun a ha => h1 a (k2 a ha)⟩
/-- one turn: none where the test is not met -/
def lcT (tg : Tg) (c : Env → R Bool) (f : Ex) (γ : Env) (x : PV) : R (Option PV) := match tg x γ with
  | none => .no
  | some γ1 => (c γ1).bind fun b => if b then (f γ1).bind fun l => l.keep.bind fun y => .ok (some y) else .ok none
def lcL (tg : Tg) (c : Env → R Bool) (f : Ex) (γ : Env) : List PV → R (List PV)
  | [] => .ok []
  | x :: xs => (lcT tg c f γ x).bind fun o => (lcL tg c f γ xs).bind fun ys => .ok (match o with
    | some y => y :: ys
    | none => ys)
def tYesF : Env → R Bool := fun _ => .ok true
def xLc (it : Env → R (List PV)) (tg : Tg) (c : Env → R Bool) (f : Ex) (vs : List Nat) : Ex := fun γ => (it γ).bind fun items => if sm items.length then (match lcL tg c f (wipeE γ vs) items with | .ok ys => .ok (.fr .ow (.lst ys)) | _ => .no) else .no
abbrev W0 : WX := fun _ _ _ _ => False
structure QTs (cl : Cl) (X : Cx) (W : WX) (f : Env → R Bool) (es : List Expr) : Prop where
  pt : PTs X es (tqT X.K cl W f)
theorem _root_.L2.PTs.imp {X : Cx} {e : List Expr} {t t' : TT} (h : PTs X e t) (k : ∀ σ H Q, t' σ H Q → t σ H Q) : PTs X e t' := ⟨fun pins s σ H Q I q => h.run pins s σ H Q I (k σ H Q q)⟩
theorem qts_nil : QTs cl X W tYesF [] := ⟨pts_nil.imp fun σ H Q h => by
  obtain ⟨F, A, γ, rel, h⟩ := h
  exact h F H (Ext.refl rel.sub)⟩
theorem qts_one {f} {e : Expr} (h : QT cl X W f e) : QTs cl X W f [e] := ⟨pts_one h.pt⟩
theorem lcL_split (tg : Tg) (c : Env → R Bool) (f : Ex) (γ : Env) : ∀ (xs : List PV) (i : Nat) (zs : List PV), lcL tg c f γ (xs.drop i) = .ok zs → ∀ x, xs[i]? = some x →
    ∃ o zs', lcT tg c f γ x = .ok o ∧ lcL tg c f γ (xs.drop (i + 1)) = .ok zs' ∧ zs = (match o with
      | some y => y :: zs'
      | none => zs') := fun xs i zs h x ex => by
  have hlt : i < xs.length := (List.getElem?_eq_some_iff.mp ex).1
  have hd : xs.drop i = x :: xs.drop (i + 1) := by
    rw [List.drop_eq_getElem_cons hlt, (List.getElem?_eq_some_iff.mp ex).2]
  rw [hd] at h
  simp only [lcL] at h
  cases e : lcT tg c f γ x with
  | no => rw [e] at h; cases h
  | er x => rw [e] at h; cases h
  | ok o =>
    rw [e] at h
    simp only [R.bind_ok] at h
    cases e' : lcL tg c f γ (xs.drop (i + 1)) with
    | no => rw [e'] at h; cases h
    | er x => rw [e'] at h; cases h
    | ok zs' => rw [e'] at h; cases h; exact ⟨o, zs', rfl, rfl, rfl⟩
theorem lcL_len (tg : Tg) (c : Env → R Bool) (f : Ex) (γ : Env) : ∀ (xs zs : List PV), lcL tg c f γ xs = .ok zs → zs.length ≤ xs.length
  | [], zs, h => by cases h; simp
  | x :: xs, zs, h => by
    obtain ⟨o, zs', h1, h2, h3⟩ := lcL_split tg c f γ (x :: xs) 0 zs (by simpa using h) x (by simp)
    have := lcL_len tg c f γ xs zs' (by simpa using h2)
    subst h3
    cases o <;> simp <;> omega
/-- no exception leaves a comprehension here -/
def NoX (r : R (List PV)) : Prop := ∀ e, r ≠ .er e
theorem lc_read {K : PySem.W.Frag} {it tg c f} {js vs : List Nat} (hj : ∀ j ∈ js, j ∈ vs) {σ : St} {H : Hp} {Q : VK} (h : tq K cl W (xLc it tg c f vs) σ H Q) :
    tLc (tqI K cl W it) (tqGt K cl js tg) (tqT K cl W0 c) (tq K cl W0 f) vs σ H Q := by
  obtain ⟨F, A, γ, rel, h⟩ := h
  refine ⟨F, A, γ, rel, ?_⟩
  unfold xLc at h
  cases e : it γ with
  | no => rw [e] at h; exact h
  | er x => rw [e] at h; exact h
  | ok items =>
    rw [e] at h
    simp only [R.bind_ok] at h
    cases es : sm items.length with
    | false => rw [es] at h; exact h.elim
    | true =>
      rw [es] at h
      simp only [if_true] at h
      cases el : lcL tg c f (wipeE γ vs) items with
      | no => rw [el] at h; exact h.elim
      | er x => rw [el] at h; exact h.elim
      | ok zs =>
        rw [el] at h
        simp only at h
        intro F0 H0 J e0 itok D nD
        have rel0 := rel.ext e0
        obtain ⟨Aw, relw, haw⟩ := rel0.wipe vs
        have nFD : ∀ F, Same F H0 → F D = none := fun F s => s.free nD
        have hlen := sm_le es
        refine ⟨fun i m H => m = items.length - i ∧ i ≤ items.length ∧ ∃ F ys zs' acc, Same F0 F ∧ Same F H ∧ F D = none ∧ H D = some (.lst acc) ∧ RpL ⟨K, cl⟩ F ys acc ∧ ys.length ≤ i ∧ lcL tg c f (wipeE γ vs) (items.drop i) = .ok zs' ∧ zs = ys ++ zs' ∧ Same H0 H ∧
          (∀ a o, F a = some o → F0 a = some o ∨ H0 a = none), ⟨items.length, by simp, Nat.zero_le _, F0, [], zs, [], Same.refl _, ?_, nFD F0 e0.sub, upd_same, RpL.nil, Nat.le_refl _, by simpa using el, rfl, ?_, fun a o h => .inl h⟩, ?_⟩
        · exact fun a o q => by rw [upd_ne (ne_of_none (e0.sub a o q) nD)]; exact e0.sub a o q
        · exact fun a o q => by rw [upd_ne (ne_of_none q nD)]; exact q
        rintro i m H1 ⟨rfl, hi1, F1, ys, zs', acc, s01, s1, nF1, hD, ry, hy, hl, hz, sH, hnew⟩
        have rel1 : Rel ⟨K, cl⟩ F1 Aw (wipe σ vs) H1 (wipeE γ vs) := by
          refine ⟨s1, OwE.mono s01 _ relw.env fun a _ o q => sH a o q, relw.nd, fun a ha => ?_⟩
          cases q : F1 a with
          | none => rfl
          | some o =>
            obtain ⟨u, hu⟩ := OwE.dom _ relw.env a ha
            rcases hnew a o q with z | z
            · rw [relw.dis a ha] at z; cases z
            · rw [hu] at z; cases z
        by_cases hlt : i < items.length
        · obtain ⟨x, ex⟩ : ∃ x, items[i]? = some x := ⟨items[i], by simp [hlt]⟩
          obtain ⟨hgo, hyl⟩ := itok.go F1 H1 i x s01 s1 ex
          obtain ⟨o, zs1, k1, k2, k3⟩ := lcL_split tg c f _ items i zs' hl x ex
          refine .inr ⟨hgo, fun H => ∃ F ys zs' acc, Same F0 F ∧ Same F H ∧ F D = none ∧ H D = some (.lst acc) ∧ RpL ⟨K, cl⟩ F ys acc ∧ ys.length ≤ i + 1 ∧ lcL tg c f (wipeE γ vs) (items.drop (i + 1)) = .ok zs' ∧ zs = ys ++ zs' ∧ Same H0 H ∧ (∀ a o, F a = some o → F0 a = some o ∨ H0 a = none),
            fun H' q => ⟨items.length - (i + 1), by omega, rfl, hlt, q⟩, fun v H2 yl => ?_⟩
          obtain ⟨F2, e2, rx⟩ := hyl v H2 yl
          refine ⟨F2, Aw, wipeE γ vs, x, rel1.ext e2, rx, ?_⟩
          unfold lcT at k1
          cases et : tg x (wipeE γ vs) with
          | none => rw [et] at k1; cases k1
          | some γ2 =>
            rw [et] at k1
            simp only at k1
            intro A3 σ3 rel3 a3 w3
            have ew : wipe σ3 vs = wipe σ vs := by
              rw [w3 _ hj]
              apply List.ext_getElem?
              intro k
              rw [wipe_at (j := 0), wipe_at (j := 0), wipe_length]
              split
              · rfl
              · rfl
            refine ⟨ew, F2, A3, γ2, rel3, ?_⟩
            have nF2 : F2 D = none := by
              cases q : F2 D with
              | none => rfl
              | some o =>
                rcases e2.new D o q with z | z
                · rw [nF1] at z; cases z
                · rw [hD] at z; cases z
            have new2 : ∀ a o, F2 a = some o → F0 a = some o ∨ H0 a = none := fun a o q => by
              rcases e2.new a o q with z | z
              · exact hnew a o z
              · exact .inr (sH.free z)
            cases ec : c γ2 with
            | no => rw [ec] at k1; cases k1
            | er x => rw [ec] at k1; cases k1
            | ok b =>
              rw [ec] at k1
              simp only [R.bind_ok] at k1
              intro F3 H3 e3
              have hD3 : H3 D = some (.lst acc) := e3.hle _ _ (e2.hle _ _ hD)
              have nF3 : F3 D = none := by
                cases q : F3 D with
                | none => rfl
                | some o =>
                  rcases e3.new D o q with z | z
                  · rw [nF2] at z; cases z
                  · rw [e2.hle _ _ hD] at z; cases z
              have new3 : ∀ a o, F3 a = some o → F0 a = some o ∨ H0 a = none := fun a o q => by
                rcases e3.new a o q with z | z
                · exact new2 a o z
                · exact .inr ((sH.trans e2.hle).free z)
              cases b with
              | false =>
                simp only [Bool.false_eq_true, ↓reduceIte, R.ok.injEq] at k1
                subst k1
                rw [if_neg Bool.false_ne_true]
                exact ⟨F3, ys, zs1, acc, (s01.trans e2.fle).trans e3.fle, e3.sub, nF3, hD3, RpL.mono (e2.fle.trans e3.fle) _ _ ry, Nat.le_succ_of_le hy, k2, by rw [hz, k3], (sH.trans e2.hle).trans e3.hle, new3⟩
              | true =>
                simp only [↓reduceIte] at k1
                rw [if_pos rfl]
                refine ⟨F3, A3, γ2, rel3.ext e3, ?_⟩
                cases ef : f γ2 with
                | no => rw [ef] at k1; cases k1
                | er x => rw [ef] at k1; cases k1
                | ok l =>
                  rw [ef] at k1
                  simp only [R.bind_ok] at k1
                  intro F4 H4 w4 e4 r4
                  cases ek : l.keep with
                  | no => rw [ek] at k1; cases k1
                  | er x => rw [ek] at k1; cases k1
                  | ok y =>
                    rw [ek] at k1
                    simp only [R.bind_ok, R.ok.injEq] at k1
                    subst k1
                    obtain ⟨F5, e5, s5, ry5⟩ := keep_ok r4 e4 ek
                    have hD4 : H4 D = some (.lst acc) := e5.hle _ _ hD3
                    have nF5 : F5 D = none := by
                      cases q : F5 D with
                      | none => rfl
                      | some o =>
                        rcases e5.new D o q with z | z
                        · rw [nF3] at z; cases z
                        · rw [hD3] at z; cases z
                    have new5 : ∀ a o, F5 a = some o → F0 a = some o ∨ H0 a = none := fun a o q => by
                      rcases e5.new a o q with z | z
                      · exact new3 a o z
                      · exact .inr (((sH.trans e2.hle).trans e3.hle).free z)
                    have f05 : Same F1 F5 := (e2.fle.trans e3.fle).trans e5.fle
                    have ralen := ry.length
                    refine ⟨acc, hD4, by omega, F5, ys ++ [y], zs1, acc ++ [w4], s01.trans f05, fun a o q => ?_, nF5, upd_same, (RpL.mono f05 _ _ ry).append (RpL.cons ry5 RpL.nil), by simp; omega, k2, by rw [hz, k3]; simp, fun a o q => ?_, new5⟩
                    · have na : a ≠ D := fun z => by subst z; rw [nF5] at q; cases q
                      rw [upd_ne na]
                      exact e5.sub a o q
                    · have na : a ≠ D := ne_of_none q nD
                      rw [upd_ne na]
                      exact ((sH.trans e2.hle).trans (e3.hle.trans e5.hle)) a o q
        · have ei : i = items.length := by omega
          subst ei
          rw [List.drop_length] at hl
          cases hl
          refine .inl ⟨itok.stop F1 H1 s01 s1, ?_⟩
          have ex : Ext F H F1 H1 := ⟨s1, e0.fle.trans s01, e0.hle.trans sH, fun a o q => by
            rcases hnew a o q with z | z
            · exact e0.new a o z
            · exact .inr (e0.hle.free z)⟩
          refine h F1 H1 (.ref D) ex ⟨[D], ?_, by simp, fun a ha => ?_⟩
          · simp only [OwM]
            refine ⟨D, rfl, rfl, acc, hD, ?_⟩
            rw [hz, List.append_nil]
            exact ry
          · obtain rfl : a = D := by simpa using ha
            exact ⟨e0.hle.free nD, nF1⟩
theorem q_lc {it tg c f} {js : List Nat} {elt t iter : Expr} {ifs : List Expr} {scope : Scope} {own : List (Str × Nat)} {pos : Pos} (hc : X.calm = true) (hN : X.N.Nodup) (ok : BlkOk X.N X.env.scope scope own) (hj : ∀ j ∈ js, j ∈ own.map (·.2)) (hi : QI cl X W it t iter)
    (hg : ∀ (s : Shared) (H : Hp) (C : Addr) (cls : List (Str × Addr)) (fp : List Addr), QG cl (X.blk s H scope (compEnvC scope cls C X.env) fp) js tg t) (ht : ∀ (s : Shared) (H : Hp) (C : Addr) (cls : List (Str × Addr)) (fp : List Addr), QTs cl (X.blk s H scope (compEnvC scope cls C X.env) fp) W0 c ifs)
    (he : ∀ (s : Shared) (H : Hp) (C : Addr) (cls : List (Str × Addr)) (fp : List Addr), QE cl (X.blk s H scope (compEnvC scope cls C X.env) fp) W0 f elt) (hs : ∀ x, foldedSetIterable iter X.env x = pure x := by intro _; rfl) :
    QE cl X W (xLc it tg c f (own.map (·.2))) (.ListComp elt [⟨t, iter, ifs, 0⟩] scope pos) :=
  ⟨(pe_lc (g := tqGt X.K cl js tg) (tt := tqT X.K cl W0 c) (te := tq X.K cl W0 f) hc hN hi.pi ok (fun s H C cls fp => (hg s H C cls fp).pg) (fun s H C cls fp => (ht s H C cls fp).pt) (fun s H C cls fp => (he s H C cls fp).pe) hs).imp fun σ H Q h => lc_read hj h⟩
/-- name = [..], the name a local that no block reads -/
theorem qs_setLc {i : Nat} {y : Str} {py : Pos} {it tg c f} {js : List Nat} {elt t iter : Expr} {ifs : List Expr} {scope : Scope} {own : List (Str × Nat)} {pos spos : Pos} (hc : X.calm = true) (hN : X.N.Nodup) (ok : BlkOk X.N X.env.scope scope own) (hj : ∀ j ∈ js, j ∈ own.map (·.2))
    (hsw : swapsWith (.ListComp elt [⟨t, iter, ifs, 0⟩] scope pos) (some (.Name y py)) spos.line X.env = pure true) (hi : QI cl X W it t iter)
    (hg : ∀ (s : Shared) (H : Hp) (C : Addr) (cls : List (Str × Addr)) (fp : List Addr), QG cl (X.blk s H scope (compEnvC scope cls C X.env) fp) js tg t) (ht : ∀ (s : Shared) (H : Hp) (C : Addr) (cls : List (Str × Addr)) (fp : List Addr), QTs cl (X.blk s H scope (compEnvC scope cls C X.env) fp) W0 c ifs)
    (he : ∀ (s : Shared) (H : Hp) (C : Addr) (cls : List (Str × Addr)) (fp : List Addr), QE cl (X.blk s H scope (compEnvC scope cls C X.env) fp) W0 f elt) (hy : X.N[i]? = some y := by rfl) (hyl : X.env.scope.names.lookup y = some .local := by rfl) (hs : ∀ x, foldedSetIterable iter X.env x = pure x := by intro _; rfl) :
    QS cl X W (sSet i (xLc it tg c f (own.map (·.2)))) (.Assign [.Name y py] (.ListComp elt [⟨t, iter, ifs, 0⟩] scope pos) spos) :=
  ⟨(ps_setLc (i := i) (g := tqGt X.K cl js tg) (tt := tqT X.K cl W0 c) (te := tq X.K cl W0 f) hc hN hy hyl hsw hi.pi ok (fun s H C cls fp => (hg s H C cls fp).pg) (fun s H C cls fp => (ht s H C cls fp).pt) (fun s H C cls fp => (he s H C cls fp).pe) hs).imp fun D σ H h => by
    refine lc_read hj (Q := fun x H1 => gName i x σ H1 D.nx) ?_
    obtain ⟨F, A, γ, rel, h⟩ := h
    refine ⟨F, A, γ, rel, ?_⟩
    unfold sSet at h
    cases e : xLc it tg c f (own.map (·.2)) γ with
    | no => rw [e] at h; exact h
    | er x => rw [e] at h; exact fun F' H' c d ex r => h F' A σ H' c d (Step.ext ex) (rel.ext ex) r
    | ok l => rw [e] at h; exact fun F' H' v ex r => stow_ok rel ex r h⟩
end
end Z
/-! the pure layer, part V: exceptions as values: isinstance, attributes -/
namespace Z
open PySem L2
section
open PySem.W PySem.Calls PyProof.Rows PySem.Spec
variable {prog : Program} {w : World} {A : Around} {E : Value → Shared → Prop} {s : Shared} {K : Frag} {x D : Addr} {ox : Obj} {od : Option Obj}
theorem findObj_dataX {C : Addr} {name : Str} {a g : Value} (hc : (clsIn K C).isSome = true) (ha : findIn K (.ref C) name = some (some a)) (hg : specialIn K a "__get__" = some (some g)) (ht : takesIn K a = some true) : findObj K C od name = some (.bind g a) := by
  obtain ⟨cd, hc⟩ := Option.isSome_iff_exists.mp hc
  cases od <;> (unfold findObj; rw [hc, Option.bind_some, ha, Option.bind_some]; simp [hg, ht])
theorem exc_class {Q : Option Value → Shared → Prop} (C : ExcC K D) (X : K.In s.heap) (I : InstAt s.heap x ox D od) (h : Q (some (.ref D)) { s with toks := s.toks + 1 }) : wpAny (model prog w) A (getAttr? (.ref x) "__class__") Q E s := by
  have hc : (clsIn K D).isSome = true := by obtain ⟨cd, hc, _⟩ := any_some C.hd; rw [hc]; rfl
  have hf := findObj_dataX (od := od) hc C.ha C.hn C.ht
  obtain ⟨hp, g, d, t, os⟩ := s
  have isC := I.type (M := model prog w)
  have isE : Looks (model prog w) hp (isInstance (.ref x) (.type "BaseException")) true := isC.andThen (looks_subIn X C.hs)
  have no2 : (Value.builtin "BaseException.__getattribute__" == Value.builtin "object.__getattribute__") = false := by decide +kernel
  have no1 : (onTheHeap (Value.ref D) && Value.builtin "BaseException.__getattribute__" == Value.builtin "object.__getattribute__") = false := by rw [no2]; rfl
  unfold getAttr? getAttrBy? getAttrBy
  refine wpAny_bind (wpAny_mkText (wpAny_bind (wpAny_attempt (wpAny_holding (wpAny_bind (isC.at (wpAny_bind ((looks_findIn X C.hg).at ?_))))))))
  show wpAny _ _ (if (onTheHeap (Value.ref D) && Value.builtin "BaseException.__getattribute__" == Value.builtin "object.__getattribute__") = true then _ else _) _ _ _
  rw [no1, if_neg Bool.false_ne_true]
  unfold getAttrByItsOwn hookBefore
  refine wpAny_bind ?_
  rw [if_pos (show onTheHeap (Value.ref D) = true from rfl)]
  refine (looks_findIn X C.hk).at (wpAny_bind (wpAny_attempt (wpAny_holding ?_)))
  unfold callGetattribute
  rw [show (false && onTheHeap (Value.builtin "BaseException.__getattribute__")) = false from rfl, if_neg Bool.false_ne_true]
  unfold boundAndCalled
  rw [PySem.F.excAttr_ValueError.ga.bind (.ref x)]
  refine wpAny_bind (wpAny_pure ?_)
  show wpAny _ _ (call (.builtin "BaseException.__getattribute__") [.ref x, .str "__class__" t]) _ _ _
  refine wpAny_call (codeAny_call_builtin PySem.F.excAttr_ValueError.ga.plain PySem.F.entry_bexc_ga ?_)
  refine @check_slot (model prog w) _ _ ⟨hp, g, d, t + 1, os⟩ "BaseException.__getattribute__" "BaseException" "__getattribute__" (.ref x) [.str "__class__" t] [] _ (by decide +kernel) (by decide +kernel) isE (PySem.F.args_bexc_ga (.ref x) (.str "__class__" t)) ?_
  unfold Builtin.«object.__getattribute__»
  refine wpAny_bind (wpAny_of_eq (a := ((Value.ref x : Value), [Value.str "__class__" t])) (by first | rfl | (simp only [slotArgs]; rfl)) ?_)
  refine wpAny_bind (wpAny_pure (wpAny_bind (isC.at (wpAny_bind ((looks_find X I hf).at ?_)))))
  show wpAny _ _ (holding [Value.builtin "object.__class__"] (call (.builtin "getset_descriptor.__get__") [.builtin "object.__class__", .ref x, .ref D]) >>= ret) _ _ _
  refine wpAny_bind (wpAny_holding (wpAny_call (class_get (s := ⟨hp, g, d, t + 1, os⟩) (ox := ox) (od := od) X I C.hm (wpAny_pure ?_))))
  show wpAny _ _ (handedOut (.ref D)) _ _ _
  rw [handedOut_of (v := .ref D) rfl]
  first
    | exact wpAny_pure (wpAny_pure h)
    | exact wpAny_pure h
    | exact wpAny_pure (wpAny_bind (wpAny_pure (wpAny_pure h)))
theorem cls_at (hd : hasDictIn K D = true) : ∃ o cd, K.lookup D = some o ∧ o.data = .cls cd := by
  obtain ⟨cd, hc, _⟩ := any_some hd
  unfold clsIn at hc
  split at hc
  · rename_i ho; exact ⟨_, _, ho, rfl⟩
  · cases hc
theorem kitx_exc (C : ExcC K D) : KitX K (.ref x) (.ref D) (fun h => ∃ ox od, InstAt h x ox D od) where
  ty := fun _ _ _ ⟨_, _, I⟩ => I.type
  it := fun _ _ X _ => by
    obtain ⟨⟨oc, odd, da, sl⟩, cd, ho, hd⟩ := cls_at C.hd
    dsimp only at hd
    subst hd
    intro A' Q' E' s' k q
    unfold isType loadHead
    exact wpAny_bind (wpAny_loadPart (k _ _ (X _ _ ho)) (wpAny_pure q))
  ne := fun h tp dd its n sl X htp => by
    obtain ⟨o, cd, ho, hd⟩ := cls_at C.hd
    refine Bool.eq_false_iff.mpr fun q => ?_
    obtain rfl : D = tp := Value.ref.inj (beq_iff_eq.mp q)
    have z := (X _ _ ho).symm.trans htp
    cases z
    cases hd
  ca := fun X ⟨_, _, I⟩ k => exc_class C X I k
end
/-- an exception object, in the heap itself -/
theorem exV_at {P : Program} {w : World} {H : Hp} {h : Heap} {a C : Addr} {d : Option Addr} {vs : List (Str × V)} (ok : HOk P w H h) (e : H a = some (ExV a C d)) (x : ExD H d vs) : ∃ oe od, PySem.W.InstAt h a oe C od ∧
    ∀ (K : PySem.W.Frag) f v, PySem.W.hasDictIn K C = true → PySem.W.findIn K (.ref C) f = some none → vs.lookup f = some v → ∃ u, PySem.W.findObj K C od f = some (.value u) ∧ RelV v u := by
  have ho := ok a _ e
  obtain ⟨⟨oe, fs, ha, hz, hd⟩, _, _⟩ := ho
  rcases x with ⟨rfl, rfl⟩ | ⟨dx, rfl, hx⟩
  · refine ⟨oe, none, ⟨ha, hz.1, by unfold PySem.W.notCls; rw [hd] <;> rfl, by rw [hz.2]; trivial⟩, fun K f v _ _ l => by cases l⟩
  · obtain ⟨mA, hns, hr⟩ := (show ObjOk P w H h dx (.xd vs) from ok dx _ hx)
    obtain ⟨od, ho, hl⟩ := lookIn_ns hns
    refine ⟨oe, some od, ⟨ha, hz.1, by unfold PySem.W.notCls; rw [hd] <;> rfl, by rw [hz.2]; exact ho⟩, fun K f v hdC hno l => ?_⟩
    obtain ⟨u, hu, ru⟩ := RelO.some_of (v := v) (o := mA f) (by rw [← l]; exact hr f)
    exact ⟨u, PySem.W.findObj_own hdC hno rfl (by rw [hl, hu]), ru⟩
/-- a value's type, exceptions too -/
def TyZ (K : PySem.W.Frag) (H : Hp) (x : V) (t : Value) : Prop := TyX K H x t ∨ ∃ a C d vs, x = .ref a ∧ t = .ref C ∧ H a = some (ExV a C d) ∧ ExD H d vs ∧ ExcC K C
theorem TyZ.kit {X : Cx} {pins : List (Addr × Obj)} {σ : L2.St} {H : Hp} {s : Shared} {x : V} {u t : Value} (I : Inv X pins σ H s) (rx : RelV x u) (ty : TyZ X.K H x t) : ∃ P : Heap → Prop, PySem.W.KitX X.K u t P ∧ P s.heap ∧ u ≠ .builtin "__main__.__loader__#opaque" := by
  rcases ty with ty | ⟨a, C, d, vs, rfl, rfl, ea, x, ec⟩
  · exact kit_of I rx ty
  · obtain rfl : u = Value.ref a := rx
    obtain ⟨oe, od, J, _⟩ := exV_at I.hok ea x
    exact ⟨_, kitx_exc ec, ⟨_, _, J⟩, fun z => nomatch z⟩
/-- isinstance(x, c); isinstance(x, (c, ..)), the tuple just laid -/
def rIsZ (K : PySem.W.Frag) : List V → Hp → VK → Prop := fun xs H Q => ∃ (x c : V) (t u : Value) (b : Bool), xs = [x, c] ∧ ClsV c u ∧ TyZ K H x t ∧ PySem.W.kitOne K t u = some b ∧ Q (.bl b) H
def rIsTZ (K : PySem.W.Frag) : List V → Hp → VK → Prop := fun xs H Q => ∃ (x : V) (tp : Addr) (cs : List V) (t : Value) (us : List Value) (b : Bool), xs = [x, .ref tp] ∧ H tp = some (.tup cs) ∧ Paired ClsV cs us ∧ TyZ K H x t ∧ PySem.W.kitAny K t us = some b ∧ Q (.bl b) H
theorem call_isZ {X : Cx} : CallR X (.builtin "isinstance") (rIsZ X.K) := by
  rintro pins s σ H xs us Q I r ⟨x, c, t, u, b, rfl, k, ty, e, q⟩
  obtain ⟨u1, u2, rfl, r1, r2⟩ := vals2 r
  obtain rfl := k.eq r2
  obtain ⟨P, Z, p, hx⟩ := ty.kit I r1
  exact PySem.W.kia_one Z I.kIn p e hx fun tk => ⟨.bl b, H, I.tok tk, rfl, q⟩
theorem call_isTZ {X : Cx} : CallR X (.builtin "isinstance") (rIsTZ X.K) := by
  rintro pins s σ H xs us Q I r ⟨x, tp, cs, t, ws, b, rfl, hT, k, ty, e, q⟩
  obtain ⟨u1, u2, rfl, r1, r2⟩ := vals2 r
  obtain rfl : u2 = Value.ref tp := r2
  obtain ⟨P, Z, p, hx⟩ := ty.kit I r1
  obtain ⟨_, its, rv, ⟨oc, od, dt, sl⟩, h1, h2, n, h3⟩ := (show ObjOk X.prog X.w H s.heap tp (.tup cs) from I.hok tp _ hT)
  obtain rfl := ClsV.all k rv
  simp only at h2 h3
  subst h2 h3
  exact PySem.W.kia_tup Z I.kIn p h1 e hx fun tk => ⟨.bl b, H, I.tok tk, rfl, q⟩
/-- e.f, e an exception that is kept -/
def tXF (K : PySem.W.Frag) (f : Str) (te : TE) : TE := fun σ H Q => te σ H fun x H1 => ∃ a C d vs v, x = .ref a ∧ H1 a = some (ExV a C d) ∧ ExD H1 d vs ∧ XfC K C ∧ PySem.W.findIn K (.ref C) f = some none ∧ vs.lookup f = some v ∧ Q v H1
theorem pe_xF {X : Cx} {e : Expr} {te : TE} {pos : Pos} {n : Str} (he : PE X e te) (hb : attributeBase e n X.env (eval e X.env) = eval e X.env := by rfl) : PE X (.Attribute e n pos) (tXF X.K n te) := by
  refine ⟨fun pins s σ H Q I h => attr_of hb (thn (he.run pins s σ H _ I h) ?_)⟩
  rintro u s1 ⟨_, H1, I1, rx, a, C, d, vs, v, rfl, ea, x, T, hno, l, q⟩
  obtain rfl : u = Value.ref a := rx
  obtain ⟨oe, od, J, g⟩ := exV_at I1.hok ea x
  obtain ⟨y, hy, ry⟩ := g X.K n v T.hdC hno l
  exact HandSPX.exc_get I1.kIn J T.ga T.gg T.exC hy (handed_of ry) ⟨v, H1, I1.tok _, ry, q⟩
end Z
/-! the pure layer, part I: defs, their calls, isinstance, the first built-ins -/
namespace Z
open PySem L2
/-! ### a def's promise -/
def spQ (K : PySem.W.Frag) (cl : Cl) (f : List PV → R PV) : Sp := fun vs H Q E => ∃ F xs, Same F H ∧ RpL ⟨K, cl⟩ F xs vs ∧ match f xs with
  | .ok x => ∀ F' H' v, Ext F H F' H' → Rp ⟨K, cl⟩ F' x v → Q v H'
  | .er e => ∀ F' H' c d, Ext F H F' H' → XcR ⟨K, cl⟩ F' e c d → E c d H'
  | .no => False
/-- .. of a def that lets nothing out -/
def spQ0 (K : PySem.W.Frag) (cl : Cl) (f : List PV → R PV) : Sp := fun vs H Q _ => spQ K cl f vs H Q fun _ _ _ => False
/-- np parameters, nl names in all -/
def outOf : Os → R PV
  | .rt x _ => .ok x
  | .nx _ => .ok .non
  | .er e _ => .er e
  | _ => .no
def frame (nl : Nat) (xs : List PV) : Env := xs.map (.sl .fz) ++ List.replicate (nl - xs.length) .un
def run (np nl : Nat) (body : Env → Os) (xs : List PV) : R PV := if xs.length = np then outOf (body (frame nl xs)) else .no
theorem start_ok {T : Tb} {F H : Hp} : ∀ {xs : List PV} {vs : List V} (n : Nat), RpL T F xs vs → OwE T F H (xs.map (.sl .fz) ++ List.replicate n .un) (vs.map some ++ List.replicate n none) []
  | [], vs, n, h => by
    simp only [RpL] at h; subst h
    simp only [List.map_nil, List.nil_append]
    induction n with
    | zero => simp [OwE]
    | succ n ih => simp only [List.replicate_succ, OwE]; exact ⟨none, _, rfl, ih⟩
  | x :: xs, vs, n, h => by
    simp only [RpL] at h
    obtain ⟨v, ws, rfl, p, q⟩ := h
    simp only [List.map_cons, List.cons_append, OwE]
    exact ⟨v, _, [], [], rfl, rfl, OwM.fz_of p, start_ok n q⟩
theorem body_ok {K : PySem.W.Frag} {cl : Cl} {X : Cx} {body : Env → Os} {N : List Str} {np : Nat} {vs : List V} {H : Hp} {Q : VK} {E : XK} {W : WX} (hK : X.K = K) (hW : ∀ c d σ H, E c d H → W c d σ H) (h : spQ K cl (run np N.length body) vs H Q E) :
    tqS X cl W body { nx := fun _ H' => Q .non H', rt := Q } (L2.start N vs) H := by
  obtain ⟨F, xs, s, r, h⟩ := h
  subst hK
  unfold run at h
  by_cases hl : ¬ xs.length = np
  · rw [if_neg hl] at h; exact h.elim
  replace hl := Decidable.not_not.mp hl
  rw [if_pos hl] at h
  refine ⟨F, [], frame N.length xs, ⟨s, ?_, by simp, by simp⟩, ?_⟩
  · unfold frame L2.start
    rw [r.length]
    exact start_ok _ r
  have ex : ∀ {F' A' σ' H' γ'}, Step F [] H F' A' H' → Rel ⟨X.K, cl⟩ F' A' σ' H' γ' → Ext F H F' H' := fun st rel => ⟨rel.sub, st.fle, fun a o q => st.keep a o (by simp) q, fun a o q => by
    rcases st.new a o q with z | z | z
    · exact .inl z
    · simp at z
    · exact .inr z⟩
  cases e : body (frame N.length xs) with
  | nx γ' => rw [e] at h; exact fun F' A' σ' H' st rel => h F' H' .non (ex st rel) (by simp [Rp])
  | rt x γ' => rw [e] at h; exact fun F' A' σ' H' v st rel rv => h F' H' v (ex st rel) rv
  | er x γ' => rw [e] at h; exact fun F' A' σ' H' c d st rel rv => hW _ _ _ _ (h F' H' c d (ex st rel) rv)
  | bk γ' => rw [e] at h; exact h.elim
  | ct γ' => rw [e] at h; exact h.elim
  | no => rw [e] at h; exact h.elim
theorem spQ_len {K : PySem.W.Frag} {cl : Cl} {np nl body vs H Q E} (h : spQ K cl (run np nl body) vs H Q E) : vs.length = np := by
  obtain ⟨F, xs, s, r, h⟩ := h
  unfold run at h
  by_cases hl : xs.length = np
  · rw [r.length]; exact hl
  · rw [if_neg hl] at h; exact h.elim
section
variable {P : Program} {w : World} {K : PySem.W.Frag} {mg : Str → Option Value} {base : Heap}
/-- a def that lets nothing out -/
theorem q_fun0 {cl : Cl} {x qual : Str} {st : Stmt} {f : Addr} {fd : FuncData} {N ps : List Str} {k : Nat} {body : Env → Os} (Fn : Fun K x qual st f fd) (S : FnScope N ps (defScope st))
    (hb : ∀ (cdv : Value) (A : Around) (outer : List PySem.Env) (s : Shared) (H : Hp) (E : XK), Room k (A.deeper (PyProof.Rows.envOfC qual (defScope st) s.heap.objs.size f cdv)) → QSs cl (cxOf L2.CX0 P w K mg base N qual (defScope st) f cdv A outer s H E).nox W0 body (defBody st)) :
    FnOk P w K mg base L2.CX0 (k + 1) f fd ps (spQ0 K cl (run ps.length N.length body)) :=
  Fn.ok S (fun vs H Q E h => spQ_len h) fun cdv A outer s H vs Q E hr h => ⟨_, (hb cdv A outer s H E hr).ps, body_ok rfl (fun _ _ _ _ z => z.elim) h⟩
/-- a def that may raise -/
theorem q_funX {cl : Cl} {x qual : Str} {st : Stmt} {f : Addr} {fd : FuncData} {N ps : List Str} {k : Nat} {body : Env → Os} (Fn : Fun K x qual st f fd) (S : FnScope N ps (defScope st))
    (hb : ∀ (cdv : Value) (A : Around) (outer : List PySem.Env) (s : Shared) (H : Hp) (E : XK), Room k (A.deeper (PyProof.Rows.envOfC qual (defScope st) s.heap.objs.size f cdv)) →
      Takes (cxOf (L2.CX P w) P w K mg base N qual (defScope st) f cdv A outer s H E) (fun cls d _ H => E cls d H) → QSs cl (cxOf (L2.CX P w) P w K mg base N qual (defScope st) f cdv A outer s H E) (fun cls d _ H => E cls d H) body (defBody st)) :
    FnOk P w K mg base (L2.CX P w) (k + 1) f fd ps (spQ K cl (run ps.length N.length body)) :=
  Fn.okX S (fun vs H Q E h => spQ_len h) fun cdv A outer s H vs Q E hr h => ⟨_, (hb cdv A outer s H E hr (takes_of rfl rfl rfl rfl)).ps, body_ok rfl (fun _ _ _ _ z => z) h⟩
end

/-! ### calls -/
def R.noer {α : Type} : R α → R α
  | .er _ => .no
  | r => r
@[simp] theorem R.noer_ok {α : Type} (a : α) : (R.ok a).noer = .ok a := (rfl)
def xCall0 (g : List PV → R PV) (fs : Env → R (List PV)) : Ex := fun γ => (fs γ).bind fun xs => ((g xs).noer).map .z
def xCall (g : List PV → R PV) (fs : Env → R (List PV)) : Ex := fun γ => (fs γ).bind fun xs => (g xs).map .z
@[simp] theorem R.map_ok {α β : Type} (f : α → β) (a : α) : (R.ok a).map f = .ok (f a) := (rfl)
@[simp] theorem R.map_er {α β : Type} (f : α → β) (e : Xc) : (R.er e : R α).map f = .er e := (rfl)
@[simp] theorem R.map_no {α β : Type} (f : α → β) : (R.no : R α).map f = .no := (rfl)
section
variable {X : Cx} {cl : Cl} {W : WX}
theorem tqCall0 {K} {g fs} {σ : St} {H : Hp} {Q : VK} (h : tq K cl W (xCall0 g fs) σ H Q) : tqZ K cl W fs σ H fun vs H1 => spQ0 K cl g vs H1 Q E0 := by
  obtain ⟨F, A, γ, rel, h⟩ := h
  refine ⟨F, A, γ, rel, ?_⟩
  unfold xCall0 at h
  cases e : fs γ with
  | no => rw [e] at h; exact h
  | er x => rw [e] at h; exact h
  | ok xs =>
    rw [e] at h
    simp only [R.bind_ok] at h
    intro F1 H1 vs e1 r1
    refine ⟨F1, xs, e1.sub, r1, ?_⟩
    cases e' : g xs with
    | no => rw [e'] at h; exact h
    | er x => rw [e'] at h; exact h.elim
    | ok x => rw [e'] at h; exact fun F' H' v ex rv => h F' H' v (e1.trans ex) (VlR.zz rv)
theorem q_call0 {x : Str} {k : Nat} {f : Addr} {fd : FuncData} {ps : List Str} {g fs} {e : Expr} {es : List Expr} {p pos : Pos} (Fo : FnOk X.prog X.w X.K X.mg X.base L2.CX0 k f fd ps (spQ0 X.K cl g)) (hr : Room k X.A) (hm : X.mg x = some (.ref f)) (hk : PySem.W.keepIn X.K (.ref f) = true) (hb : Binds X.K fd ps [])
    (ha : QZ cl X W fs (e :: es)) (hg : Gl X x := by rfl) (hdb : (x == ("__debug__" : Str)) = false := by decide) (he : starEach (e :: es) X.env = (false, eval e X.env) :: starEach es X.env := by rfl) (hpl : (backTo pos (starEach es X.env)).any (·.1) = false := by rfl) :
    QE cl X W (xCall0 g fs) (.Call (.Name x p) (e :: es) [] pos) := ⟨(pe_call Fo hr hg hm hk hb .nil pass0 ha.pa hdb he hpl).imp fun σ H Q h => by
  have q := tqCall0 h
  simpa only [tCall, List.append_nil] using q⟩
theorem tqCall {K} {g fs} {σ : St} {H : Hp} {Q : VK} (h : tq K cl W (xCall g fs) σ H Q) : tqZ K cl W fs σ H fun vs H1 => spQ K cl g vs H1 Q (WE W σ) := by
  obtain ⟨F, A, γ, rel, h⟩ := h
  refine ⟨F, A, γ, rel, ?_⟩
  unfold xCall at h
  cases e : fs γ with
  | no => rw [e] at h; exact h
  | er x => rw [e] at h; exact h
  | ok xs =>
    rw [e] at h
    simp only [R.bind_ok] at h
    intro F1 H1 vs e1 r1
    refine ⟨F1, xs, e1.sub, r1, ?_⟩
    cases e' : g xs with
    | no => rw [e'] at h; exact h
    | er x => rw [e'] at h; exact fun F' H' c d ex rv => h F' H' c d (e1.trans ex) rv
    | ok x => rw [e'] at h; exact fun F' H' v ex rv => h F' H' v (e1.trans ex) (VlR.zz rv)
theorem q_call {x : Str} {k : Nat} {f : Addr} {fd : FuncData} {ps : List Str} {g fs} {e : Expr} {es : List Expr} {p pos : Pos} (tk : Takes X W) (Fo : FnOk X.prog X.w X.K X.mg X.base (L2.CX X.prog X.w) k f fd ps (spQ X.K cl g)) (hr : Room k X.A) (hm : X.mg x = some (.ref f)) (hk : PySem.W.keepIn X.K (.ref f) = true) (hb : Binds X.K fd ps [])
    (ha : QZ cl X W fs (e :: es)) (hg : Gl X x := by rfl) (hdb : (x == ("__debug__" : Str)) = false := by decide) (he : starEach (e :: es) X.env = (false, eval e X.env) :: starEach es X.env := by rfl) (hpl : (backTo pos (starEach es X.env)).any (·.1) = false := by rfl) :
    QE cl X W (xCall g fs) (.Call (.Name x p) (e :: es) [] pos) := ⟨(pe_callS Fo hr hg hm hk hb (fun σ => passAt tk σ) ha.pa hdb he hpl).imp fun σ H Q h => tqCall h⟩

/-! ### isinstance -/
def tyN : PV → String
  | .non => "NoneType"
  | .bl _ => "bool"
  | .int _ => "int"
  | .str _ => "str"
  | .tup _ => "tuple"
  | .lst _ => "list"
  | .dct _ _ => "dict"
  | .set _ => "set"
  | .obj c _ => c
  | .exc c _ => c
def tys : List String := ["NoneType", "bool", "int", "str", "tuple", "list", "dict", "set"]
def isObj' : PV → Bool
  | .obj _ _ => true
  | .exc _ _ => true
  | _ => false
/-- what isinstance asks of an own class -/
structure ClsI (K : PySem.W.Frag) (C : Addr) : Prop where
  cl : Cls K C
  ha : PySem.W.findIn K (.ref C) "__class__" = some (some (.builtin "object.__class__"))
  hn : PySem.W.specialIn K (.builtin "object.__class__") "__get__" = some (some (.builtin "getset_descriptor.__get__"))
  htk : PySem.W.takesIn K (.builtin "object.__class__") = some true
  hm : PySem.W.mroIn K C (.type "object") = some true
/-- what is known of the classes of the text: clO: of every class, in whatever role -/
structure ClOk (K : PySem.W.Frag) (cl : Cl) : Prop where
  i : ∀ c C, cl.i c = some C → ClsI K C
  e : ∀ c C, cl.e c = some C → ExcC K C
/-- the class value u has as instances: the built-in types ts, the own classes cs -/
structure KitOk (K : PySem.W.Frag) (cl : Cl) (u : Value) (g : PV → Bool) : Prop where
  b : ∀ x, isObj' x = false → PySem.W.kitOne K (.type (tyN x)) u = some (g x)
  i : ∀ c fs C, cl.i c = some C → PySem.W.kitOne K (.ref C) u = some (g (.obj c fs))
  e : ∀ c fs C, cl.e c = some C → PySem.W.kitOne K (.ref C) u = some (g (.exc c fs))
theorem tyN_mem {x : PV} (h : isObj' x = false) : tyN x ∈ tys := by
  cases x <;> simp [tyN, tys] <;> simp [isObj'] at h
/-- the type of a value, as isinstance takes it -/
def tyV (cl : Cl) (x : PV) (t : Value) : Prop := match x with
  | .obj c _ => ∃ C, cl.i c = some C ∧ t = .ref C
  | .exc c _ => ∃ C, cl.e c = some C ∧ t = .ref C
  | x => t = .type (tyN x)
theorem rv_ty {T : Tb} {F H : Hp} {x : PV} {v : V} (O : ClOk T.K T.cl) (s : Same F H) (h : Rv T F H x v) : ∃ t, tyV T.cl x t ∧ TyZ T.K H v t := by
  cases x with
  | non => rw [h.non]; exact ⟨_, rfl, .inl (.base .non)⟩
  | bl b => rw [h.bl]; exact ⟨_, rfl, .inl (.base (.bl b))⟩
  | int b => rw [h.int]; exact ⟨_, rfl, .inl (.base (.int b))⟩
  | str b => rw [h.str]; exact ⟨_, rfl, .inl (.base (.str b))⟩
  | tup xs => obtain ⟨a, vs, rfl, q, _⟩ := h.tup s; exact ⟨_, rfl, .inl (.base (.tup q))⟩
  | lst xs =>
    obtain ⟨a, vs, rfl, q, _⟩ := h.lstR s
    rcases q with q | ⟨o, q⟩
    · exact ⟨_, rfl, .inl (.base (.lst q))⟩
    · exact ⟨_, rfl, .inl (.base (.frz q))⟩
  | dct t xs =>
    obtain ⟨a, ks, rfl, q, _⟩ := h.dct s
    cases t with
    | false =>
      obtain ⟨es, q, _⟩ := q
      rcases q with q | ⟨o, q⟩
      · exact ⟨_, rfl, .inl (.base (.dK q))⟩
      · exact ⟨_, rfl, .inl (.fDict q)⟩
    | true => obtain ⟨es, q, _⟩ := q; exact ⟨_, rfl, .inl (.base (.dT q))⟩
  | set xs =>
    obtain ⟨a, rfl, ns, S, _, _, q, _⟩ := h.set s
    exact ⟨_, rfl, .inl (.set q)⟩
  | obj c fs =>
    obtain ⟨a, C, dx, vs, rfl, hc, q⟩ := h.obj s
    have ci := O.i c C hc
    exact ⟨_, ⟨C, hc, rfl⟩, .inl (.base (.ins q ci.cl ci.ha ci.hn ci.htk ci.hm))⟩
  | exc c fs =>
    obtain ⟨a, C, d, vs, rfl, hc, _, q, x, _⟩ := h.exc s
    exact ⟨_, ⟨C, hc, rfl⟩, .inr ⟨a, C, d, vs, rfl, rfl, q, x.mono s, O.e c C hc⟩⟩
theorem KitOk.at {K : PySem.W.Frag} {cl : Cl} {u t : Value} {g : PV → Bool} (k : KitOk K cl u g) {x : PV} (h : tyV cl x t) : PySem.W.kitOne K t u = some (g x) := by
  cases x with
  | obj c fs => obtain ⟨C, hc, rfl⟩ := h; exact k.i c fs C hc
  | exc c fs => obtain ⟨C, hc, rfl⟩ := h; exact k.e c fs C hc
  | _ => cases h; exact k.b _ rfl
/-- isinstance(e, c), the class's look g -/
def xIs (g : PV → Bool) (f : Ex) : Ex := x1 (fun x => .ok (.z (.bl (g x)))) f
theorem q_is {u : Value} {cv : V} {g : PV → Bool} {f} {e ce : Expr} {p pos : Pos} (O : ClOk X.K cl) (k : KitOk X.K cl u g) (cu : ClsV cv u) (hm : X.mg "isinstance" = none) (hc : PE X ce (tC cv)) (he : QE cl X W f e) (hg : Gl X "isinstance" := by rfl)
    (hs1 : starEach (e :: [ce]) X.env = (false, eval e X.env) :: starEach [ce] X.env := by rfl) (hs2 : starEach [ce] X.env = (false, eval ce X.env) :: starEach [] X.env := by rfl)
    (hpl : (backTo pos (starEach [ce] X.env)).any (·.1) = false := by rfl) : QE cl X W (xIs g f) (.Call (.Name "isinstance" p) [e, ce] [] pos) := by
  refine ⟨(pe_callB call_isZ hg hm (by decide +kernel) (pa_cons he.pe (pa_cons hc pa_nil hs2) hs1) (by decide) (by decide) hs1 hpl).imp fun σ H Q h => ?_⟩
  refine tq1 (r := fun x H1 Q => rIsZ X.K [x, cv] H1 Q) (fun _ _ h => by cases h) (fun F H x v Q s rx h => ?_) h
  obtain ⟨t, tx, ty⟩ := rv_ty O s rx
  exact ⟨v, cv, t, u, g x, rfl, cu, ty, k.at tx, by simpa using h.bl s⟩
/-- isinstance(e, (c, ..)) -/
theorem kitAny_at {K : PySem.W.Frag} {cl : Cl} {t : Value} {x : PV} (h : tyV cl x t) : ∀ {us : List Value} {gs : List (PV → Bool)}, Paired (KitOk K cl) us gs → PySem.W.kitAny K t us = some (gs.any fun g => g x)
  | _, _, .nil => rfl
  | _, _, .cons k r => by
    have e := k.at h
    have ih := kitAny_at h r
    unfold PySem.W.kitAny
    rw [e]
    simp only [List.any_cons]
    split
    · rename_i z; rw [Option.some.inj z]; rfl
    · rename_i z; rw [Option.some.inj z, ih]; rfl
    · rename_i z; cases z
theorem q_isT {us : List Value} {cvs : List V} {gs : List (PV → Bool)} {f} {e : Expr} {ces : List Expr} {t : TA} {k : Nat} {p pos pos2 : Pos} (O : ClOk X.K cl) (ks : Paired (KitOk X.K cl) us gs) (cu : Paired ClsV cvs us) (hl : cvs.length ≤ 100) (hm : X.mg "isinstance" = none)
    (hc : PA X ces t) (hct : ∀ σ H (Q : List V → Hp → Prop), Q cvs H → t σ H Q) (he : QE cl X W f e) (hg : Gl X "isinstance" := by rfl)
    (hs1 : starEach (e :: [.Tuple ces k pos2]) X.env = (false, eval e X.env) :: starEach [.Tuple ces k pos2] X.env := by rfl) (hs2 : starEach [.Tuple ces k pos2] X.env = (false, eval (.Tuple ces k pos2) X.env) :: starEach [] X.env := by rfl)
    (hpl : (backTo pos (starEach [.Tuple ces k pos2] X.env)).any (·.1) = false := by rfl) : QE cl X W (xIs (fun x => gs.any fun g => g x) f) (.Call (.Name "isinstance" p) [e, .Tuple ces k pos2] [] pos) := by
  refine ⟨(pe_callB call_isTZ hg hm (by decide +kernel) (pa_cons he.pe (pa_cons (pe_tup hc) pa_nil hs2) hs1) (by decide) (by decide) hs1 hpl).imp fun σ H Q h => ?_⟩
  refine tq.bind (g := fun l γ => .ok (.z (.bl (gs.any fun g => g l.x)))) h fun F A γ l F1 H1 v rel ef e1 r1 h => ?_
  refine hct σ H1 _ ⟨by rw [sizeLine_eq]; omega, fun q nq => ?_⟩
  obtain ⟨t, tx, ty⟩ := rv_ty O e1.sub r1.rv
  have e2 : Ext F1 H1 F1 (upd H1 q (.tup cvs)) := Ext.newO e1.sub nq
  obtain ⟨t2, tx2, ty2⟩ := rv_ty O e2.sub (r1.rv.ext e2)
  exact ⟨v, q, cvs, t2, us, _, rfl, upd_same, cu, ty2, kitAny_at tx2 ks, h F1 _ _ e2 (VlR.zz (by simp [Rp]))⟩
/-- a built-in type -/
def isTy (n : String) (t : String) : Bool := t == n || (n == "int" && t == "bool")
def isB (n : String) (x : PV) : Bool := !isObj' x && isTy n (tyN x)
def xIsi (n : String) (f : Ex) : Ex := xIs (isB n) f
theorem kit_b {K : PySem.W.Frag} {cl : Cl} {n : String} (hk : ∀ t ∈ tys, kitB t n = some (isTy n t)) (hi : ∀ c C, cl.i c = some C → PySem.W.kitOne K (.ref C) (.type n) = some false) (he : ∀ c C, cl.e c = some C → PySem.W.kitOne K (.ref C) (.type n) = some false) : KitOk K cl (.type n) (isB n) :=
  ⟨fun x h => by rw [isB, h]; exact kit_ty (hk _ (tyN_mem h)), fun c fs C h => hi c C h, fun c fs C h => he c C h⟩
/-- an own class: the names of its own kind and what stands under it -/
def isC (cs : List String) (x : PV) : Bool := isObj' x && cs.contains (tyN x)
theorem kit_c {K : PySem.W.Frag} {cl : Cl} {D : Addr} {cs : List String} (hk : ∀ t ∈ tys, PySem.W.kitOne K (.type t) (.ref D) = some false) (hi : ∀ c C, cl.i c = some C → PySem.W.kitOne K (.ref C) (.ref D) = some (cs.contains c)) (he : ∀ c C, cl.e c = some C → PySem.W.kitOne K (.ref C) (.ref D) = some (cs.contains c)) : KitOk K cl (.ref D) (isC cs) :=
  ⟨fun x h => by rw [isC, h]; exact hk _ (tyN_mem h), fun c fs C h => hi c C h, fun c fs C h => he c C h⟩
theorem q_isi {n : String} {f} {e : Expr} {p p2 pos : Pos} (O : ClOk X.K cl) (k : KitOk X.K cl (.type n) (isB n)) (hm : X.mg "isinstance" = none) (hm2 : X.mg (Str.ofString n) = none)
    (hv2 : bootBuiltins (Str.ofString n) = some (.type n)) (he : QE cl X W f e) (hg : Gl X "isinstance" := by rfl) (hg2 : Gl X (Str.ofString n) := by rfl)
    (hn2 : Str.ofString n ≠ "__name__" := by decide) (hd2 : (Str.ofString n == ("__debug__" : Str)) = false := by decide)
    (hs1 : starEach (e :: [.Name (Str.ofString n) p2]) X.env = (false, eval e X.env) :: starEach [.Name (Str.ofString n) p2] X.env := by rfl) (hs2 : starEach [.Name (Str.ofString n) p2] X.env = (false, eval (.Name (Str.ofString n) p2) X.env) :: starEach [] X.env := by rfl)
    (hpl : (backTo pos (starEach [.Name (Str.ofString n) p2] X.env)).any (·.1) = false := by rfl) : QE cl X W (xIsi n f) (.Call (.Name "isinstance" p) [e, .Name (Str.ofString n) p2] [] pos) :=
  q_is O k (.ty n) hm (pe_bltn (v := .ty n) hg2 hm2 hv2 rfl hn2 hd2) he hg hs1 hs2 hpl
theorem kitT_int : ∀ t ∈ tys, kitB t "int" = some (isTy "int" t) := by decide +kernel
theorem kitT_bool : ∀ t ∈ tys, kitB t "bool" = some (isTy "bool" t) := by decide +kernel
theorem kitT_str : ∀ t ∈ tys, kitB t "str" = some (isTy "str" t) := by decide +kernel
theorem kitT_tuple : ∀ t ∈ tys, kitB t "tuple" = some (isTy "tuple" t) := by decide +kernel
theorem kitT_list : ∀ t ∈ tys, kitB t "list" = some (isTy "list" t) := by decide +kernel
theorem kitT_dict : ∀ t ∈ tys, kitB t "dict" = some (isTy "dict" t) := by decide +kernel
end
end Z
/-! the pure layer, part S: set(xs) of a list of ints, as SetFor has it of a tuple -/
namespace SetL
open PySem PySem.Spec PyProof.Rows L2
abbrev nso (w : World) : Obj := { cls := .type "set", dict := none, data := .set #[] 0 (.fresh 0 0 (!w.params.followText "set-order")) }
set_option maxHeartbeats 4000000 in
theorem set_of_list {P : Program} {w : World} {A : Around} {E : Value → Shared → Prop} {s : Shared} {l : Addr} {items : Array Value} (ns : List Int) {Q : Value → Shared → Prop}
    (hh : A.handled = none) (hl : s.heap.IsList l items) (hit : IntsAre items.toList ns) (hb : ns.length + 1 < scanBound)
    (fin : ∀ (h' : Heap) (tk c : Nat), SetR w h' s.heap.objs.size (fun j => decide (j ∈ ns)) c → c ≤ ns.length → (∀ b o, s.heap.get? b = some o → h'.get? b = some o) → Q (.ref s.heap.objs.size) { s with heap := h', toks := tk }) :
    wpAny (model P w) A (call (.type "set") [.ref l]) Q E s := by
  have sz : items.size = ns.length := by have q := IntsAre.length hit; rwa [Array.length_toList] at q
  obtain ⟨c, tl, hmro⟩ := F.called_set.mro
  have m1 := F.called_set.made
  have m2 := F.called_set.sub
  have m3 := F.called_set.notType
  have m4 := F.called_set.canCreate
  have m5 := F.typeCall_set_1 (.ref l)
  have ilk := F.called_set.init.lookup
  have ibd := F.called_set.init.bind (.ref s.heap.objs.size)
  apply wpAny_call
  apply codeAny_of_tree
  show wpAny _ _ (callAny (.type "set") _) _ _ _
  refine wpAny_pure ⟨Code.quiet_builtin _ (by decide +kernel), codeAny_builtin F.entry_type_call ?_⟩
  rw [Around.under_plain (weight_type_call_type "set" [.ref l] []) rfl]
  repeat (any_goals (first | assumption | wp_step))
  refine codeAny_mono (code_set_led1 (.ref l) (E := E) (Q₁ := fun o1 s₁ => o1 = .ref s.heap.objs.size ∧ s₁ = { s with heap := s.heap.push (nso w) }) ⟨rfl, rfl⟩) fun r s₁ hr => ?_
  cases r with
  | error _ => exact hr
  | ok fl =>
    cases fl with
    | next => exact hr
    | brk => exact hr
    | cont => exact hr
    | ret o1 =>
      obtain ⟨rfl, rfl⟩ := hr
      have gS : (s.heap.push (nso w)).get? s.heap.objs.size = some (nso w) := Heap.get?_push_size _ rfl
      have tS : Shared.TypeIs { s with heap := s.heap.push (nso w) } (.ref s.heap.objs.size) "set" := ⟨_, gS, rfl⟩
      repeat (any_goals (first | assumption | wp_step))
      refine codeAny_mono (codeAny_call_builtin (R := wants (fun r s₂ => r = .none ∧ ∃ h' tk c, s₂ = { s with heap := h', toks := tk } ∧ SetR w h' s.heap.objs.size (fun j => decide (j ∈ ns)) c ∧ c ≤ ns.length ∧ ∀ b o, s.heap.get? b = some o → h'.get? b = some o) E)
        F.called_set.init.plain F.entry_set_init (check_set_init_1 tS ?_)) fun r₂ s₂ hr₂ => ?_
      · obtain ⟨⟨oc, od, odt, osl⟩, hol, hcl, nl, hdl⟩ := id hl
        simp only at hcl hdl
        subst hcl; subst hdl
        have k0 : (s.heap.push (nso w)).get? l = some { cls := .type "list", dict := od, data := .seq items nl, slots := osl } := Heap.get?_push_of_some _ hol
        have b1 := F.sub_list_set
        have b2 := F.sub_list_frozenset
        have b3 : (Value.type "list" == Value.type "dict") = false := by decide
        have k1 : (s.heap.push (nso w)).IsList l items := ⟨_, k0, rfl, nl, rfl⟩
        unfold Builtin.«set.__init__» noKeywords Builtin.Frozenset.updateFrom
        generalize hPI : pyIter = PI
        wp_walk
        subst hPI
        refine wpAny_pyIter_list k1 (wpAny_bind (wpAny_runValue ?_))
        have lt : l < s.heap.objs.size := Heap.lt_size hol
        have zI : (s.heap.push (nso w)).objs.size = s.heap.objs.size + 1 := Heap.size_push ..
        have nI : l ≠ (s.heap.push (nso w)).objs.size := by rw [zI]; exact Nat.ne_of_lt (Nat.lt_succ_of_lt lt)
        have nfp : s.heap.objs.size ∉ [(s.heap.push (nso w)).objs.size, l] := by
          rw [zI]
          simp only [List.mem_cons, List.not_mem_nil, or_false, not_or]
          exact ⟨Nat.ne_of_lt (Nat.lt_succ_self _), Nat.ne_of_gt lt⟩
        have val : ∀ (i : Nat) (v : Value), items[i]? = some v → ∃ k t, ns[i]? = some k ∧ v = .int k t := fun i v hv => by
          have hi : i < ns.length := by rw [← sz]; exact (Array.getElem?_eq_some_iff.mp hv).1
          obtain ⟨t, e⟩ := IntsAre.int_at hit i v (by rw [Array.getElem?_toList]; exact hv)
          exact ⟨ns[i], t, List.getElem?_eq_getElem hi, by rw [e, List.getD_eq_getElem?_getD, List.getElem?_eq_getElem hi] <;> rfl⟩
        refine set_update_ints ((Walks.list (by simp [hh]) _ l nI items).toS) s.heap.objs.size nfp ns sz hb val (items.size - 0) 0 _ (by omega) (Nat.zero_le _) ⟨⟨_, Heap.get?_push_size _ rfl, rfl, rfl⟩, k1.push _⟩
          ⟨0, Nat.le_refl 0, setR_new_at (Heap.get?_push_of_some _ gS)⟩ ?_
        intro s' c' hm hc' hS'
        obtain ⟨h', g2, d', tk', os'⟩ := s'
        obtain rfl : g2 = s.gens := hm.gens
        obtain rfl : d' = s.drawn := hm.drawn
        obtain rfl : os' = s.os := hm.os
        rw [sz] at hc'
        show wpAny _ _ _ _ _ _
        apply wpAny_pure
        show wpAny _ _ (ret Value.none) _ _ _
        refine wpAny_pure ⟨rfl, h', tk', c', rfl, hS', hc', fun b o e => hm.heap b o ?_ (Heap.get?_push_of_some _ (Heap.get?_push_of_some _ e))⟩
        have lb := Heap.lt_size e
        simp only [List.mem_cons, List.not_mem_nil, or_false, not_or]
        rw [zI]
        exact ⟨Nat.ne_of_lt lb, Nat.ne_of_lt (Nat.lt_succ_of_lt lb)⟩
      · cases r₂ with
        | error _ => exact hr₂
        | ok fl =>
          cases fl with
          | next => exact hr₂
          | brk => exact hr₂
          | cont => exact hr₂
          | ret v =>
            obtain ⟨rfl, h', tk, c', rfl, hS', hc', kk⟩ := hr₂
            repeat (any_goals (first | assumption | wp_step))
            exact fin _ _ _ hS' hc' kk
end SetL
/-! the pure layer, part T: sorted(x) of a list or a tuple of ints, at the library's level -/
namespace SrtZ
open PySem PySem.Spec PyProof.Rows L2 SrtO
section
variable {prog : Program} {w : World} {A : Around} {E : Value → Shared → Prop} {s : Shared}
/-- sorted of a list or a tuple by any order of its items: the answer is a new list -/
theorem sorted_seq {l : Addr} {T : String} {o : Obj} {vs : List Value} {n : Nat} {ltv : Value → Value → Bool} {Q : Value → Shared → Prop} (O : Swo ltv) (hT : T = "list" ∨ T = "tuple") (ho : s.heap.get? l = some o) (hc : o.cls = .type T) (hd : o.data = .seq vs.toArray n) (hz : vs.length ≤ sizeLine)
    (hS : 2 ≤ vs.length → ∀ (h₁ : Heap) (a : Addr), h₁.get? a = some (seqObj "list" vs.toArray 0) → (∀ b u, s.heap.get? b = some u → b ≠ a ∧ h₁.get? b = some u) → SortableO prog w A.in1.in1 { s with heap := h₁ } a vs ltv)
    (fin : ∀ (out : List Value) (p : Addr) (e : Nat) (h' : Heap), Srtd ltv out → Stb ltv out vs → s.heap.get? p = none → h'.get? p = some (seqObj "list" out.toArray e) → (∀ b u, s.heap.get? b = some u → h'.get? b = some u) → Q (.ref p) { s with heap := h' }) :
    wpAny (model prog w) A (call (.builtin "sorted") [.ref l]) Q E s := by
  apply Calls.call_function_entry kind_sorted plain_sorted entry_sorted (args_sorted1 _)
  unfold Builtin.«sorted»
  refine wpAny_bind (m := checkCount "sorted" 1 1 _) (wpAny_pure ?_)
  refine wpAny_bind (wpAny_collect_seq l hT ho hc hd (fun h1 k1 => ?_) (by rw [List.size_toArray]; exact hz))
  have fresh : ∀ b u, s.heap.get? b = some u → b < h1.objs.size := fun b u q => Heap.lt_size (k1 b u q)
  refine wpAny_bind (wpAny_newList ?_ hz)
  have at1 : (h1.push (seqObj "list" vs.toArray 0)).get? h1.objs.size = some (seqObj "list" vs.toArray 0) := Heap.get?_push_size _ rfl
  have k2 : ∀ b u, s.heap.get? b = some u → b ≠ h1.objs.size ∧ (h1.push (seqObj "list" vs.toArray 0)).get? b = some u := fun b u q => ⟨Nat.ne_of_lt (fresh b u q), Heap.get?_push_of_some _ (k1 b u q)⟩
  show wpAny _ _ _ _ _ { s with heap := h1.push (seqObj "list" vs.toArray 0) }
  refine wpAny_bind (wpAny_holding (wpAny_call_entry slot_list_sort ⟨_, at1, rfl⟩ entry_list_sort (list_sort_ord O at1 hz (fun h2 => hS h2 _ _ at1 k2) fun out hs hb => ⟨_, rfl, ?_⟩) (args_list_sort _)))
  obtain ⟨e, he⟩ := sortedHeap_at (vs := vs) (out := out.toArray) (n := 0) at1
  refine wpAny_pure ⟨_, rfl, fin out _ e _ hs hb ?_ he fun b u q => ?_⟩
  · cases q : s.heap.get? h1.objs.size with
    | none => rfl
    | some u => exact absurd (fresh _ u q) (Nat.lt_irrefl _)
  · have lt : b < (h1.push (seqObj "list" vs.toArray 0)).objs.size := Heap.lt_size (k2 b u q).2
    rw [sortedHeap_old (k2 b u q).1 lt]
    exact (k2 b u q).2
end
end SrtZ
namespace L2
open PySem PySem.Spec PyProof.Rows
/-- a new object laid at a place that held none -/
theorem Inv.laidN {X : Cx} {pins : List (Addr × Obj)} {σ : St} {H : Hp} {s : Shared} {h' : Heap} {a : Addr} {o : HO} {t' : Nat} (I : Inv X pins σ H s) (k : ∀ b u, s.heap.get? b = some u → h'.get? b = some u) (hp : s.heap.get? a = none) (new : ObjOk X.prog X.w (upd H a o) h' a o) :
    Inv X pins σ (upd H a o) { s with heap := h', toks := t' } := by
  have nH : H a = none := I.hok.gone hp
  have na : ∀ b u, s.heap.get? b = some u → b ≠ a := fun b u q z => by rw [z, hp] at q; cases q
  refine I.un ⟨fun b u q _ _ _ => k b u q, fun b u q _ _ _ => ⟨u.slots, k b u q⟩, fun b u q n _ => by rw [upd_ne (na b u q)]; exact n, fun b u q _ => ⟨u, k b u q⟩,
    fun b xs q => by rw [upd_ne (ne_of_none q nH)]; exact q, fun b ob xs q => by rw [upd_ne (ne_of_none q nH)]; exact q, fun b ps q => ⟨#[], by rw [upd_ne (ne_of_none q nH), q]; simp⟩⟩ fun b u e => ?_
  by_cases hb : b = a
  · subst hb; rw [upd_same] at e; cases e; exact new
  · rw [upd_ne hb] at e
    exact (I.hok b u e).stay (fun c v _ q => k c v q) (fun c q => by rw [upd_ne (ne_of_none q nH)]; exact q) fun c xs q => by rw [upd_ne (ne_of_none q nH)]; exact q
end L2
/-! the pure layer, part J: built-ins -/
namespace Z
open PySem L2
/-! ### lists of ints: sorted, sorted without repetition -/
def ins (x : Int) : List Int → List Int
  | [] => [x]
  | y :: ys => if x ≤ y then x :: y :: ys else y :: ins x ys
def isort : List Int → List Int
  | [] => []
  | x :: xs => ins x (isort xs)
theorem ins_perm (x : Int) : ∀ ys, (ins x ys).Perm (x :: ys)
  | [] => .refl _
  | y :: ys => by
    unfold ins
    split
    · exact .refl _
    · exact ((ins_perm x ys).cons y).trans (.swap x y ys)
theorem isort_perm : ∀ xs, (isort xs).Perm xs
  | [] => .refl _
  | x :: xs => (ins_perm x _).trans ((isort_perm xs).cons x)
theorem ins_sorted (x : Int) : ∀ {ys : List Int}, ys.Pairwise (· ≤ ·) → (ins x ys).Pairwise (· ≤ ·)
  | [], _ => by simp [ins]
  | y :: ys, h => by
    unfold ins
    split
    · rename_i hxy
      refine List.pairwise_cons.mpr ⟨fun z hz => ?_, h⟩
      rcases List.mem_cons.mp hz with rfl | hz
      · exact hxy
      · exact Int.le_trans hxy ((List.pairwise_cons.mp h).1 z hz)
    · rename_i hxy
      refine List.pairwise_cons.mpr ⟨fun z hz => ?_, ins_sorted x (List.pairwise_cons.mp h).2⟩
      rcases List.mem_cons.mp ((ins_perm x ys).mem_iff.mp hz) with rfl | hz
      · omega
      · exact (List.pairwise_cons.mp h).1 z hz
theorem isort_sorted : ∀ xs : List Int, (isort xs).Pairwise (· ≤ ·)
  | [] => .nil
  | x :: xs => ins_sorted x (isort_sorted xs)
/-- two rising arrangements of the same are one -/
theorem sorted_uniq : ∀ {xs ys : List Int}, xs.Perm ys → xs.Pairwise (· ≤ ·) → ys.Pairwise (· ≤ ·) → xs = ys
  | [], ys, p, _, _ => (List.nil_perm.mp p).symm
  | x :: xs, [], p, _, _ => absurd (List.perm_nil.mp p) (by simp)
  | x :: xs, y :: ys, p, hx, hy => by
    have e : x = y := by
      have h1 : x ∈ y :: ys := p.mem_iff.mp List.mem_cons_self
      have h2 : y ∈ x :: xs := p.mem_iff.mpr List.mem_cons_self
      rcases List.mem_cons.mp h1 with e | h1
      · exact e
      · rcases List.mem_cons.mp h2 with e | h2
        · exact e.symm
        · exact Int.le_antisymm ((List.pairwise_cons.mp hx).1 y h2) ((List.pairwise_cons.mp hy).1 x h1)
    subst e
    rw [sorted_uniq (List.Perm.cons_inv p) (List.pairwise_cons.mp hx).2 (List.pairwise_cons.mp hy).2]
theorem isort_uniq {xs ys : List Int} (p : ys.Perm xs) (h : ys.Pairwise (· ≤ ·)) : ys = isort xs := sorted_uniq (p.trans (isort_perm xs).symm) h (isort_sorted xs)
def dedup : List Int → List Int
  | [] => []
  | x :: xs => if x ∈ dedup xs then dedup xs else x :: dedup xs
theorem mem_dedup {k : Int} : ∀ {xs : List Int}, k ∈ dedup xs ↔ k ∈ xs
  | [] => by simp [dedup]
  | x :: xs => by
    unfold dedup
    split
    · rename_i h
      rw [mem_dedup (xs := xs), List.mem_cons]
      constructor
      · exact .inr
      · rintro (rfl | h2)
        · exact mem_dedup.mp h
        · exact h2
    · rw [List.mem_cons, mem_dedup (xs := xs), List.mem_cons]
theorem nodup_dedup : ∀ xs : List Int, (dedup xs).Nodup
  | [] => by simp [dedup]
  | x :: xs => by
    unfold dedup
    split
    · exact nodup_dedup xs
    · rename_i h; exact List.nodup_cons.mpr ⟨h, nodup_dedup xs⟩
/-- sorted, each once -/
def sdd (xs : List Int) : List Int := isort (dedup xs)
theorem mem_sdd {k : Int} {xs : List Int} : k ∈ sdd xs ↔ k ∈ xs := (isort_perm _).mem_iff.trans mem_dedup
theorem sdd_lt (xs : List Int) : (sdd xs).Pairwise (· < ·) := by
  have h1 := isort_sorted (dedup xs)
  have h2 : (isort (dedup xs)).Nodup := (isort_perm _).nodup_iff.mpr (nodup_dedup xs)
  refine (h1.and h2).imp fun {a b} h => ?_
  obtain ⟨h, k⟩ := h
  omega
theorem lt_uniq {xs ys : List Int} (h : ∀ k, k ∈ xs ↔ k ∈ ys) (hx : xs.Pairwise (· < ·)) (hy : ys.Pairwise (· < ·)) : xs = ys := by
  refine sorted_uniq ?_ (hx.imp fun h => Int.le_of_lt h) (hy.imp fun h => Int.le_of_lt h)
  exact (List.perm_ext_iff_of_nodup (hx.imp fun {a b} h => by omega) (hy.imp fun {a b} h => by omega)).mpr h
theorem sdd_uniq {xs ys : List Int} (h : ∀ k, k ∈ ys ↔ k ∈ xs) (hy : ys.Pairwise (· < ·)) : ys = sdd xs := lt_uniq (fun k => (h k).trans mem_sdd.symm) hy (sdd_lt xs)
theorem dedup_len_le (xs : List Int) : (dedup xs).length ≤ xs.length := by
  induction xs with
  | nil => simp [dedup]
  | cons x xs ih => unfold dedup; split <;> simp <;> omega
theorem sdd_len (xs : List Int) : (sdd xs).length = (dedup xs).length := (isort_perm _).length_eq

/-- the ints of a list -/
def intsOf : List PV → Option (List Int)
  | [] => some []
  | .int i :: xs => (intsOf xs).map (i :: ·)
  | _ :: _ => none
theorem intsOf_eq : ∀ {xs : List PV} {ns : List Int}, intsOf xs = some ns → xs = ns.map PV.int
  | [], ns, h => by cases h; rfl
  | x :: xs, ns, h => by
    cases x <;> simp [intsOf] at h
    rename_i i
    obtain ⟨ms, h1, rfl⟩ := h
    rw [intsOf_eq h1]; rfl
@[simp] theorem intsOf_map : ∀ ns : List Int, intsOf (ns.map PV.int) = some ns
  | [] => rfl
  | n :: ns => by simp [intsOf, intsOf_map ns]
def blsOf : List PV → Option (List Bool)
  | [] => some []
  | .bl i :: xs => (blsOf xs).map (i :: ·)
  | _ :: _ => none
theorem blsOf_eq : ∀ {xs : List PV} {ns : List Bool}, blsOf xs = some ns → xs = ns.map PV.bl
  | [], ns, h => by cases h; rfl
  | x :: xs, ns, h => by
    cases x <;> simp [blsOf] at h
    rename_i i
    obtain ⟨ms, h1, rfl⟩ := h
    rw [blsOf_eq h1]; rfl
@[simp] theorem blsOf_map : ∀ ns : List Bool, blsOf (ns.map PV.bl) = some ns
  | [] => rfl
  | n :: ns => by simp [blsOf, blsOf_map ns]

section
variable {X : Cx} {cl : Cl} {W : WX}
theorem CallR.imp {f : Value} {r r'} (h : CallR X f r) (k : ∀ xs H Q, r' xs H Q → r xs H Q) : CallR X f r' := fun pins s σ H xs us Q I rx q => h pins s σ H xs us Q I rx (k xs H Q q)

/-! ### len -/
theorem call_lenDR : CallR X (.builtin "len") (fun xs H Q => ∃ a kvs, xs = [V.ref a] ∧ Rd H a (.dK kvs) ∧ Q (.int kvs.length) H) := by
  intro pins s σ H xs us Q I r h
  obtain ⟨a, kvs, rfl, ha, q⟩ := h
  rw [Vals.ref1 r]
  exact d_len I ha fun t s' I' => ⟨.int kvs.length, H, I', ⟨t, rfl⟩, q⟩
def pLen : List PV → R Vl
  | [.lst xs] => .ok (.z (.int xs.length))
  | [.tup xs] => .ok (.z (.int xs.length))
  | [.dct false kvs] => .ok (.z (.int kvs.length))
  | [.str z] => if sm z.length then .ok (.z (.int z.length)) else .no
  | _ => .no
theorem pLen_ne : NoErL pLen := fun x e h => by
  unfold pLen at h
  split at h <;> first | (split at h <;> cases h) | cases h
theorem RpD.length {T : Tb} {F : Hp} : ∀ {kvs : List (PV × PV)} {ks : List (PV × V)}, RpD T F kvs ks → ks.length = kvs.length
  | [], _, h => by simp only [RpD] at h; subst h; rfl
  | (k, x) :: r, _, h => by
    simp only [RpD] at h
    obtain ⟨v, ws, rfl, _, q⟩ := h
    simp [RpD.length q]
theorem o_len : OpL X cl pLen (fun xs H Q => (∃ x n, xs = [x] ∧ LenV X.K x H n ∧ Q (.int n) H) ∨ (∃ a kvs, xs = [V.ref a] ∧ Rd H a (.dK kvs) ∧ Q (.int kvs.length) H)) := by
  intro F H xs vs Q s r h
  unfold pLen at h
  split at h
  · obtain ⟨v, rfl, rv⟩ := r.one
    obtain ⟨a, us, rfl, q, rl⟩ := rv.lst s
    exact .inl ⟨_, us.length, rfl, .inl ⟨us, q, rfl⟩, by rw [rl.length]; exact h.int s⟩
  · obtain ⟨v, rfl, rv⟩ := r.one
    obtain ⟨a, us, rfl, q, rl⟩ := rv.tup s
    exact .inl ⟨_, us.length, rfl, .inr ⟨us, SqT.of q, rfl⟩, by rw [rl.length]; exact h.int s⟩
  · obtain ⟨v, rfl, rv⟩ := r.one
    obtain ⟨a, ks, rfl, ⟨es, q, rfl⟩, rl⟩ := rv.dct s
    refine .inr ⟨a, es, rfl, q, ?_⟩
    have e := rl.length
    rw [List.length_map] at e
    rw [e]
    exact h.int s
  · rename_i z
    obtain ⟨v, rfl, rv⟩ := r.one
    cases e : sm z.length with
    | false => rw [e] at h; exact h.elim
    | true => rw [e] at h; exact .inl ⟨_, z.length, rfl, by rw [rv.str]; exact ⟨sm_le e, rfl⟩, h.int s⟩
  · exact h.elim
theorem q_len {fs} {e : Expr} {p pos : Pos} (hm : X.mg "len" = none) (ha : QA cl X W fs [e]) (hg : Gl X "len" := by rfl) (he : starEach (e :: []) X.env = (false, eval e X.env) :: starEach [] X.env := by rfl) (hpl : (backTo pos (starEach [] X.env)).any (·.1) = false := by rfl) :
    QE cl X W (xB pLen fs) (.Call (.Name "len" p) [e] [] pos) := q_callB (CallR.or call_len call_lenDR) pLen_ne o_len PySem.boot_len hg hm ha (by decide) (by decide) he hpl

/-! ### all, any, sum, max, min -/
def pAll : List PV → R Vl
  | [.lst xs] => match blsOf xs with
    | some bs => .ok (.z (.bl (bs.all id)))
    | none => .no
  | _ => .no
def pAny : List PV → R Vl
  | [.lst xs] => match blsOf xs with
    | some bs => .ok (.z (.bl (bs.any id)))
    | none => .no
  | _ => .no
def pSum : List PV → R Vl
  | [.lst xs] => match intsOf xs with
    | some ns => .ok (.z (.int ns.sum))
    | none => .no
  | _ => .no
theorem q_all {fs} {e : Expr} {p pos : Pos} (hm : X.mg "all" = none) (hc : X.calm = true) (ha : QA cl X W fs [e]) (hg : Gl X "all" := by rfl) (he : starEach (e :: []) X.env = (false, eval e X.env) :: starEach [] X.env := by rfl) (hpl : (backTo pos (starEach [] X.env)).any (·.1) = false := by rfl) :
    QE cl X W (xB pAll fs) (.Call (.Name "all" p) [e] [] pos) := by
  refine q_callB (cr_all hc) (fun x e h => ?_) (fun F H xs vs Q s r h => ?_) (by decide +kernel) hg hm ha (by decide) (by decide) he hpl
  · unfold pAll at h
    split at h <;> first | (split at h <;> cases h) | cases h
  · unfold pAll at h
    split at h
    · rename_i xs
      obtain ⟨v, rfl, rv⟩ := r.one
      obtain ⟨a, us, rfl, q, rl⟩ := rv.lst s
      cases e : blsOf xs with
      | none => rw [e] at h; exact h.elim
      | some bs =>
        rw [e] at h
        rw [blsOf_eq e] at rl
        exact ⟨a, bs, rfl, by rw [← rl.bls]; exact q, h.bl s⟩
    · exact h.elim
theorem q_any {fs} {e : Expr} {p pos : Pos} (hm : X.mg "any" = none) (hc : X.calm = true) (ha : QA cl X W fs [e]) (hg : Gl X "any" := by rfl) (he : starEach (e :: []) X.env = (false, eval e X.env) :: starEach [] X.env := by rfl) (hpl : (backTo pos (starEach [] X.env)).any (·.1) = false := by rfl) :
    QE cl X W (xB pAny fs) (.Call (.Name "any" p) [e] [] pos) := by
  refine q_callB (cr_any hc) (fun x e h => ?_) (fun F H xs vs Q s r h => ?_) (by decide +kernel) hg hm ha (by decide) (by decide) he hpl
  · unfold pAny at h
    split at h <;> first | (split at h <;> cases h) | cases h
  · unfold pAny at h
    split at h
    · rename_i xs
      obtain ⟨v, rfl, rv⟩ := r.one
      obtain ⟨a, us, rfl, q, rl⟩ := rv.lst s
      cases e : blsOf xs with
      | none => rw [e] at h; exact h.elim
      | some bs =>
        rw [e] at h
        rw [blsOf_eq e] at rl
        exact ⟨a, bs, rfl, by rw [← rl.bls]; exact q, h.bl s⟩
    · exact h.elim
theorem q_sum {fs} {e : Expr} {p pos : Pos} (hm : X.mg "sum" = none) (hc : X.calm = true) (ha : QA cl X W fs [e]) (hg : Gl X "sum" := by rfl) (he : starEach (e :: []) X.env = (false, eval e X.env) :: starEach [] X.env := by rfl) (hpl : (backTo pos (starEach [] X.env)).any (·.1) = false := by rfl) :
    QE cl X W (xB pSum fs) (.Call (.Name "sum" p) [e] [] pos) := by
  refine q_callB (cr_sum hc) (fun x e h => ?_) (fun F H xs vs Q s r h => ?_) (by decide +kernel) hg hm ha (by decide) (by decide) he hpl
  · unfold pSum at h
    split at h <;> first | (split at h <;> cases h) | cases h
  · unfold pSum at h
    split at h
    · rename_i xs
      obtain ⟨v, rfl, rv⟩ := r.one
      obtain ⟨a, us, rfl, q, rl⟩ := rv.lst s
      cases e : intsOf xs with
      | none => rw [e] at h; exact h.elim
      | some bs =>
        rw [e] at h
        rw [intsOf_eq e] at rl
        exact ⟨a, bs, rfl, by rw [← rl.ints]; exact q, h.int s⟩
    · exact h.elim
def pMax2 : List PV → R Vl
  | [.int i, .int j] => .ok (.z (.int (if j > i then j else i)))
  | _ => .no
def pMin2 : List PV → R Vl
  | [.int i, .int j] => .ok (.z (.int (if j < i then j else i)))
  | _ => .no
theorem q_max2 {fs} {a b : Expr} {p pos : Pos} (hm : X.mg "max" = none) (hc : X.calm = true) (ha : QA cl X W fs [a, b]) (hg : Gl X "max" := by rfl) (he : starEach (a :: [b]) X.env = (false, eval a X.env) :: starEach [b] X.env := by rfl) (hpl : (backTo pos (starEach [b] X.env)).any (·.1) = false := by rfl) :
    QE cl X W (xB pMax2 fs) (.Call (.Name "max" p) [a, b] [] pos) := by
  refine q_callB (call_max2 hc) (fun x e h => ?_) (fun F H xs vs Q s r h => ?_) (by decide +kernel) hg hm ha (by decide) (by decide) he hpl
  · unfold pMax2 at h
    split at h <;> cases h
  · unfold pMax2 at h
    split at h
    · obtain ⟨v, u, rfl, rv, ru⟩ := r.two
      exact ⟨_, _, by rw [rv.int, ru.int], h.int s⟩
    · exact h.elim
theorem q_min2 {fs} {a b : Expr} {p pos : Pos} (hm : X.mg "min" = none) (hc : X.calm = true) (ha : QA cl X W fs [a, b]) (hg : Gl X "min" := by rfl) (he : starEach (a :: [b]) X.env = (false, eval a X.env) :: starEach [b] X.env := by rfl) (hpl : (backTo pos (starEach [b] X.env)).any (·.1) = false := by rfl) :
    QE cl X W (xB pMin2 fs) (.Call (.Name "min" p) [a, b] [] pos) := by
  refine q_callB (call_min2 hc) (fun x e h => ?_) (fun F H xs vs Q s r h => ?_) (by decide +kernel) hg hm ha (by decide) (by decide) he hpl
  · unfold pMin2 at h
    split at h <;> cases h
  · unfold pMin2 at h
    split at h
    · obtain ⟨v, u, rfl, rv, ru⟩ := r.two
      exact ⟨_, _, by rw [rv.int, ru.int], h.int s⟩
    · exact h.elim
/-- int(n), int(flag) -/
def pInt : List PV → R Vl
  | [.int i] => .ok (.z (.int i))
  | [.bl k] => .ok (.z (.int (if k then 1 else 0)))
  | _ => .no
theorem q_int1 {fs} {a : Expr} {p pos : Pos} (hm : X.mg "int" = none) (ha : QA cl X W fs [a]) (hg : Gl X "int" := by rfl) (he : starEach (a :: []) X.env = (false, eval a X.env) :: starEach [] X.env := by rfl) (hpl : (backTo pos (starEach [] X.env)).any (·.1) = false := by rfl) :
    QE cl X W (xB pInt fs) (.Call (.Name "int" p) [a] [] pos) := by
  refine q_callTy call_int1 (fun x e h => ?_) (fun F H xs vs Q s r h => ?_) (by decide +kernel) hg hm ha (by decide) (by decide) he hpl
  · unfold pInt at h
    split at h <;> cases h
  · unfold pInt at h
    split at h
    · obtain ⟨v, rfl, rv⟩ := r.one
      exact .inl ⟨_, by rw [rv.int], h.int s⟩
    · obtain ⟨v, rfl, rv⟩ := r.one
      exact .inr ⟨_, by rw [rv.bl], h.int s⟩
    · exact h.elim

/-! ### list, tuple -/
def pLst : List PV → R Vl
  | [.lst xs] => .ok (.fr .ow (.lst xs))
  | [.tup xs] => .ok (.fr .ow (.lst xs))
  | _ => .no
def pTup : List PV → R Vl
  | [.lst xs] => .ok (.z (.tup xs))
  | [.tup xs] => .ok (.z (.tup xs))
  | _ => .no
theorem q_list {fs} {a : Expr} {p pos : Pos} (hm : X.mg "list" = none) (ha : QA cl X W fs [a]) (hg : Gl X "list" := by rfl) (he : starEach (a :: []) X.env = (false, eval a X.env) :: starEach [] X.env := by rfl) (hpl : (backTo pos (starEach [] X.env)).any (·.1) = false := by rfl) :
    QE cl X W (xB pLst fs) (.Call (.Name "list" p) [a] [] pos) := by
  refine q_callTy call_list_of (fun x e h => ?_) (fun F H xs vs Q s r h => ?_) (by decide +kernel) hg hm ha (by decide) (by decide) he hpl
  · unfold pLst at h
    split at h <;> cases h
  · unfold pLst at h
    split at h
    · obtain ⟨v, rfl, rv⟩ := r.one
      obtain ⟨a, us, rfl, q, rl⟩ := rv.lst s
      exact ⟨a, us, rfl, .inl q, fun l nl => Post.lst s nl rl h⟩
    · obtain ⟨v, rfl, rv⟩ := r.one
      obtain ⟨a, us, rfl, q, rl⟩ := rv.tup s
      exact ⟨a, us, rfl, .inr (SqT.of q), fun l nl => Post.lst s nl rl h⟩
    · exact h.elim
theorem q_tuple {fs} {a : Expr} {p pos : Pos} (hm : X.mg "tuple" = none) (ha : QA cl X W fs [a]) (hg : Gl X "tuple" := by rfl) (he : starEach (a :: []) X.env = (false, eval a X.env) :: starEach [] X.env := by rfl) (hpl : (backTo pos (starEach [] X.env)).any (·.1) = false := by rfl) :
    QE cl X W (xB pTup fs) (.Call (.Name "tuple" p) [a] [] pos) := by
  refine q_callTy call_tuple_of (fun x e h => ?_) (fun F H xs vs Q s r h => ?_) (by decide +kernel) hg hm ha (by decide) (by decide) he hpl
  · unfold pTup at h
    split at h <;> cases h
  · unfold pTup at h
    split at h
    · obtain ⟨v, rfl, rv⟩ := r.one
      obtain ⟨a, us, rfl, q, rl⟩ := rv.lst s
      exact ⟨a, us, rfl, .inl ⟨q, fun l nl => Post.tup s nl rl h⟩⟩
    · obtain ⟨v, rfl, rv⟩ := r.one
      have fx := rv.tupF
      obtain ⟨a, us, rfl, q, rl⟩ := rv.tup s
      exact ⟨a, us, rfl, .inr ⟨SqT.of q, h.of s fx⟩⟩
    · exact h.elim
/-- list(range(..)), tuple(range(..)) -/
def tqR (K : PySem.W.Frag) (cl : Cl) (W : WX) (f : Env → R (Int × Int)) : L2.St → Hp → (Int → Int → Hp → Prop) → Prop := fun σ H Q => ∃ F A γ, Rel ⟨K, cl⟩ F A σ H γ ∧ match f γ with
  | .ok b => ∀ F' H', Ext F H F' H' → Q b.1 b.2 H'
  | .er e => ∀ F' H' c d, Ext F H F' H' → XcR ⟨K, cl⟩ F' e c d → W c d σ H'
  | .no => False
def r1 (f : Ex) : Env → R (Int × Int) := fun γ => (f γ).bind fun l => match l.x with
  | .int j => .ok (0, j)
  | _ => .no
def r2 (f g : Ex) : Env → R (Int × Int) := fun γ => (f γ).bind fun l => (g γ).bind fun k => match l.x, k.x with
  | .int i, .int j => .ok (i, j)
  | _, _ => .no
structure QR (cl : Cl) (X : Cx) (W : WX) (f : Env → R (Int × Int)) (e : Expr) : Prop where
  pr : PRg X e (tqR X.K cl W f)
theorem _root_.L2.PRg.imp {X : Cx} {e : Expr} {t t'} (h : PRg X e t) (k : ∀ σ H Q, t' σ H Q → t σ H Q) : PRg X e t' := fun pins s σ H Q I q => h pins s σ H Q I (k σ H Q q)
theorem qr_1 {f} {a : Expr} {p pos : Pos} (hm : X.mg "range" = none) (ha : QE cl X W f a) (hg : Gl X "range" := by rfl) (na : starEach [a] X.env = (false, eval a X.env) :: starEach [] X.env := by rfl) : QR cl X W (r1 f) (.Call (.Name "range" p) [a] [] pos) := ⟨(prg_1 hg hm ha.pe na).imp fun σ H Q h => by
  obtain ⟨F, A, γ, rel, h⟩ := h
  refine ⟨F, A, γ, rel, ?_⟩
  unfold r1 at h
  cases e : f γ with
  | no => rw [e] at h; exact h
  | er x => rw [e] at h; exact h
  | ok l =>
    rw [e] at h
    simp only [R.bind_ok] at h
    intro F1 H1 v e1 q1
    have rv := q1.rv
    cases ei : l.x with
    | int i =>
      rw [ei] at rv h
      exact ⟨i, rv.int, h F1 H1 e1⟩
    | _ => rw [ei] at h; exact h.elim⟩
theorem qr_2 {f g} {a b : Expr} {p pos : Pos} (hm : X.mg "range" = none) (ha : QE cl X W f a) (hb : QE cl X W g b) (hg : Gl X "range" := by rfl) (na : starEach [a, b] X.env = (false, eval a X.env) :: starEach [b] X.env := by rfl)
    (nb : starEach [b] X.env = (false, eval b X.env) :: starEach [] X.env := by rfl) (hpl : (backTo pos (starEach [b] X.env)).any (·.1) = false := by rfl) : QR cl X W (r2 f g) (.Call (.Name "range" p) [a, b] [] pos) := ⟨(prg_2 hg hm ha.pe hb.pe na nb hpl).imp fun σ H Q h => by
  obtain ⟨F, A, γ, rel, h⟩ := h
  refine ⟨F, A, γ, rel, ?_⟩
  unfold r2 at h
  cases e : f γ with
  | no => rw [e] at h; exact h
  | er x => rw [e] at h; exact h
  | ok l =>
    rw [e] at h
    simp only [R.bind_ok] at h
    intro F1 H1 v e1 q1
    refine ⟨F1, A, γ, rel.ext e1, ?_⟩
    cases e' : g γ with
    | no => rw [e'] at h; exact h
    | er x => rw [e'] at h; exact fun F' H' c d ex => h F' H' c d (e1.trans ex)
    | ok k =>
      rw [e'] at h
      simp only [R.bind_ok] at h
      intro F2 H2 u e2 q2
      have rv := q1.rv
      have ru := q2.rv
      cases ei : l.x with
      | int i =>
        cases ej : k.x with
        | int j =>
          rw [ei, ej] at h
          rw [ei] at rv
          rw [ej] at ru
          exact ⟨i, j, rv.int, ru.int, h F2 H2 (e1.trans e2)⟩
        | _ => rw [ei, ej] at h; exact h.elim
      | _ => rw [ei] at h; exact h.elim⟩
def cRg (a b : Int) : Bool := cRng a && cRng b && sm (b - a).toNat
theorem cRg_of {a b : Int} (h : cRg a b = true) : RgOk a b := by
  simp only [cRg, Bool.and_eq_true] at h
  have h1 := cRng_of h.1.1
  have h2 := cRng_of h.1.2
  exact ⟨h1.1, h1.2, h2.1, h2.2, of_decide_eq_true h.2⟩
theorem rgV_rp {T : Tb} {F : Hp} (a b : Int) : RpL T F (rngL a (b - a).toNat) (rgV a b) := by
  unfold rngL rgV
  generalize (b - a).toNat = n
  have : ∀ l : List Nat, RpL T F (l.map fun (k : Nat) => PV.int (a + (k : Int))) (l.map fun i => V.int (a + (i : Nat))) := fun l => by
    induction l with
    | nil => exact RpL.nil
    | cons k l ih => exact RpL.cons (by simp [Rp]) ih
  exact this _
def xLstR (f : Env → R (Int × Int)) : Ex := fun γ => (f γ).bind fun p => if cRg p.1 p.2 then .ok (.fr .ow (.lst (rngL p.1 (p.2 - p.1).toNat))) else .no
def xTupR (f : Env → R (Int × Int)) : Ex := fun γ => (f γ).bind fun p => if cRg p.1 p.2 then .ok (.z (.tup (rngL p.1 (p.2 - p.1).toNat))) else .no
theorem q_listR {f} {e : Expr} {p pos : Pos} (hm : X.mg "list" = none) (hc : X.calm = true) (he : QR cl X W f e) (hg : Gl X "list" := by rfl) (na : starEach [e] X.env = (false, eval e X.env) :: starEach [] X.env := by rfl) : QE cl X W (xLstR f) (.Call (.Name "list" p) [e] [] pos) := ⟨(pe_listRg hc hg hm he.pr na).imp fun σ H Q h => by
  obtain ⟨F, A, γ, rel, h⟩ := h
  refine ⟨F, A, γ, rel, ?_⟩
  unfold xLstR at h
  cases e : f γ with
  | no => rw [e] at h; exact h
  | er x => rw [e] at h; exact h
  | ok l =>
    rw [e] at h
    simp only [R.bind_ok] at h
    intro F1 H1 e1
    cases k : cRg l.1 l.2 with
    | false => rw [k] at h; exact h.elim
    | true =>
      rw [k] at h
      exact ⟨cRg_of k, fun q nq => h _ _ _ (e1.trans (Ext.newO e1.sub nq)) ((vlN_lst e1.sub nq (rgV_rp _ _)).r e1.hle)⟩⟩
theorem q_tupleR {f} {e : Expr} {p pos : Pos} (hm : X.mg "tuple" = none) (hc : X.calm = true) (he : QR cl X W f e) (hg : Gl X "tuple" := by rfl) (na : starEach [e] X.env = (false, eval e X.env) :: starEach [] X.env := by rfl) : QE cl X W (xTupR f) (.Call (.Name "tuple" p) [e] [] pos) := ⟨(pe_tupRg hc hg hm he.pr na).imp fun σ H Q h => by
  obtain ⟨F, A, γ, rel, h⟩ := h
  refine ⟨F, A, γ, rel, ?_⟩
  unfold xTupR at h
  cases e : f γ with
  | no => rw [e] at h; exact h
  | er x => rw [e] at h; exact h
  | ok l =>
    rw [e] at h
    simp only [R.bind_ok] at h
    intro F1 H1 e1
    cases k : cRg l.1 l.2 with
    | false => rw [k] at h; exact h.elim
    | true =>
      rw [k] at h
      exact ⟨cRg_of k, fun q nq => h _ _ _ (e1.trans (Ext.newF e1.sub nq)) (VlR.zz (new_tup e1.sub nq (rgV_rp _ _)))⟩⟩

/-! ### sorted of ints -/
def rSortZ (K : PySem.W.Frag) : List V → Hp → VK → Prop := fun vs H Q => ∃ (a : Addr) (ns : List Int), vs = [V.ref a] ∧ (Rd H a (.lst (ns.map V.int)) ∨ H a = some (.tup (ns.map V.int))) ∧
  ∀ p, H p = none → Q (.ref p) (upd H p (.lst ((isort ns).map V.int)))
theorem cr_sortZ : CallR X (.builtin "sorted") (rSortZ X.K) := by
  intro pins s σ H vs us Q I r h
  obtain ⟨a, ns, rfl, hs, q⟩ := h
  obtain ⟨u, rfl, ru⟩ := vals1 r
  obtain rfl : u = Value.ref a := ru
  have go : ∀ (T : String) (o : Obj) (its : List Value) (n : Nat), (T = "list" ∨ T = "tuple") → Vals (ns.map V.int) its → s.heap.get? a = some o → o.cls = .type T → o.data = .seq its.toArray n → its.length ≤ sizeLine →
      wpAny (model X.prog X.w) X.A (call (.builtin "sorted") [.ref a]) (EP X pins σ Q) X.xe s := fun T o its n hT rv ho hc hd hz => by
    have hi := rv.ints
    refine SrtZ.sorted_seq SrtO.swo_int hT ho hc hd hz (fun h2 h₁ a' _ _ => SrtO.ints_sortable hi h2) fun out p e h' h1 h2 hp he k => ?_
    obtain ⟨k1, k2, k3⟩ := SrtO.ints_out hi h1 h2
    have eu := isort_uniq k2 k3
    rw [eu] at k1
    have hlen : ((isort ns).map V.int).length ≤ sizeLine := by
      rw [List.length_map, (isort_perm ns).length_eq]
      have := rv.length
      rw [List.length_map] at this
      omega
    exact ⟨.ref p, _, I.laidN (o := .lst ((isort ns).map V.int)) (t' := s.toks) k hp ⟨hlen, out, e, vals_of_ints k1, he⟩, rfl, q p (I.hok.gone hp)⟩
  rcases hs with hs | hs
  · obtain ⟨z, its, n, rv, hl, e⟩ := I.lstR hs
    exact go "list" _ its n (.inl rfl) rv e rfl rfl (by rw [← hl]; exact z)
  · obtain ⟨its, rv, ⟨o, ho, hc, n, hd⟩, hz⟩ := I.tuple (SqT.of (K := X.K) hs)
    exact go "tuple" o its n (.inr rfl) rv ho hc hd (by rw [← rv.length]; exact hz)
def pSrt : List PV → R Vl
  | [.lst xs] => match intsOf xs with
    | some ns => .ok (.fr .ow (.lst ((isort ns).map .int)))
    | none => .no
  | [.tup xs] => match intsOf xs with
    | some ns => .ok (.fr .ow (.lst ((isort ns).map .int)))
    | none => .no
  | _ => .no
theorem q_sorted {fs} {a : Expr} {p pos : Pos} (hm : X.mg "sorted" = none) (ha : QA cl X W fs [a]) (hg : Gl X "sorted" := by rfl) (he : starEach (a :: []) X.env = (false, eval a X.env) :: starEach [] X.env := by rfl) (hpl : (backTo pos (starEach [] X.env)).any (·.1) = false := by rfl) :
    QE cl X W (xB pSrt fs) (.Call (.Name "sorted" p) [a] [] pos) := by
  refine q_callB cr_sortZ (fun x e h => ?_) (fun F H xs vs Q s r h => ?_) (by decide +kernel) hg hm ha (by decide) (by decide) he hpl
  · unfold pSrt at h
    split at h <;> first | (split at h <;> cases h) | cases h
  · unfold pSrt at h
    split at h
    · rename_i xs
      obtain ⟨v, rfl, rv⟩ := r.one
      obtain ⟨a, us, rfl, q, rl⟩ := rv.lstR s
      cases e : intsOf xs with
      | none => rw [e] at h; exact h.elim
      | some ns =>
        rw [e] at h
        rw [intsOf_eq e] at rl
        exact ⟨a, ns, rfl, .inl (by rw [← rl.ints]; exact q), fun p np => Post.lst s np (RpL.ofInts _) h⟩
    · rename_i xs
      obtain ⟨v, rfl, rv⟩ := r.one
      obtain ⟨a, us, rfl, q, rl⟩ := rv.tup s
      cases e : intsOf xs with
      | none => rw [e] at h; exact h.elim
      | some ns =>
        rw [e] at h
        rw [intsOf_eq e] at rl
        exact ⟨a, ns, rfl, .inr (by rw [← rl.ints]; exact q), fun p np => Post.lst s np (RpL.ofInts _) h⟩
    · exact h.elim

/-! ### set(x) of ints, under sorted and len -/
def rSetZ (K : PySem.W.Frag) (w : World) : List V → Hp → VK → Prop := fun vs H Q => ∃ (a : Addr) (ns : List Int), vs = [V.ref a] ∧ (Rd H a (.lst (ns.map V.int)) ∨ H a = some (.tup (ns.map V.int))) ∧ ns.length + 1 < scanBound ∧
  ∀ p c, H p = none → c = (dedup ns).length → Q (.ref p) (upd H p (SetO w p (fun j => decide (j ∈ ns)) c))
theorem setR_card {w : World} {h : Heap} {a : Addr} {ns : List Int} {c : Nat} (R : SetR w h a (fun j => decide (j ∈ ns)) c) : c = (dedup ns).length := by
  obtain ⟨o, es, ep, t, _, _, _, _, nd, hm, _, _, hn, _⟩ := R
  have p : (es.toList.map L2.keyOf).Perm (dedup ns) := by
    refine (List.perm_ext_iff_of_nodup nd (nodup_dedup ns)).mpr fun k => ?_
    rw [← hm k, mem_dedup]
    simp
  have := p.length_eq
  rw [List.length_map, Array.length_toList] at this
  omega
end
end Z
/-! the pure layer, part K: sets of ints under sorted and len -/
namespace Z
open PySem L2
section
variable {X : Cx} {cl : Cl} {W : WX}
theorem dedup_le_len {c : Nat} {ns : List Int} (h : c = (dedup ns).length) : c ≤ ns.length := h ▸ dedup_len_le ns
theorem cr_setZ (hc : X.calm = true) : CallR X (.type "set") (rSetZ X.K X.w) := by
  intro pins s σ H vs us Q I r h
  obtain ⟨a, ns, rfl, hs, hb, q⟩ := h
  rw [Vals.ref1 r]
  have fin : ∀ (h' : Heap) (tk c : Nat), SetR X.w h' s.heap.objs.size (fun j => decide (j ∈ ns)) c → c ≤ ns.length → (∀ b o, s.heap.get? b = some o → h'.get? b = some o) →
      EP X pins σ Q (.ref s.heap.objs.size) { s with heap := h', toks := tk } := fun h' tk c R _ k => by
    have hp : s.heap.objs.size ≤ s.heap.objs.size := Nat.le_refl _
    have hn : H s.heap.objs.size = none := I.hok.fresh hp
    have J : Inv X pins σ (upd H s.heap.objs.size (SetO X.w s.heap.objs.size (fun j => decide (j ∈ ns)) c)) { s with heap := h', toks := tk } :=
      I.call (ch := []) (Un.laid k hp hn) (I.hok.laid k hp (setO_new R)) (by exact I.bare) (fun _ z => nomatch z)
    exact ⟨.ref s.heap.objs.size, _, J, rfl, q _ c hn (setR_card R)⟩
  rcases hs with hs | hs
  · obtain ⟨z, its, n, rv, hl, e⟩ := I.lstR hs
    exact SetL.set_of_list ns (I.ok.hd hc) ⟨_, e, rfl, n, rfl⟩ (by simpa using RZ.intsAre_vals rv) hb fin
  · obtain ⟨its, rv, ht, hz⟩ := I.tuple (SqT.of (K := X.K) hs)
    exact call_set_tupI ns (I.ok.hd hc) ht (by simpa using RZ.intsAre_vals rv) hb fin
def rLenSet (w : World) : List V → Hp → VK → Prop := fun vs H Q => ∃ (a : Addr) (S : Int → Bool) (n : Nat), vs = [V.ref a] ∧ H a = some (SetO w a S n) ∧ n ≤ 16777216 ∧ Q (.int (n : Nat)) H
theorem cr_lenSetZ : CallR X (.builtin "len") (rLenSet X.w) := by
  intro pins s σ H vs us Q I r h
  obtain ⟨a, S, n, rfl, ha, hn64, q⟩ := h
  rw [Vals.ref1 r]
  obtain ⟨o, es, ep, t, ho, hex, hd, _, _, _, hf, hn⟩ := (setO_get I ha).setOf (P := X.prog)
  exact PySem.call_len_set ho hex hd hf (by rw [hn]; omega) ⟨.int n, H, I.tok _, ⟨_, by rw [hn]⟩, q⟩
def pSetInts : List PV → R (List Int)
  | [.lst xs] => match intsOf xs with
    | some ns => if ns.length < 4000 then .ok ns else .no
    | none => .no
  | [.tup xs] => match intsOf xs with
    | some ns => if ns.length < 4000 then .ok ns else .no
    | none => .no
  | _ => .no
theorem setInts_ok {T : Tb} {F H : Hp} {xs : List PV} {vs : List V} {ns : List Int} (s : Same F H) (r : RvL T F H xs vs) (h : pSetInts xs = .ok ns) :
    ∃ a : Addr, vs = [V.ref a] ∧ (Rd H a (.lst (ns.map V.int)) ∨ H a = some (.tup (ns.map V.int))) ∧ ns.length < 4000 := by
  unfold pSetInts at h
  split at h
  · rename_i xs
    obtain ⟨v, rfl, rv⟩ := r.one
    obtain ⟨a, us, rfl, q, rl⟩ := rv.lstR s
    cases e : intsOf xs with
    | none => rw [e] at h; cases h
    | some ms =>
      rw [e] at h
      rw [intsOf_eq e] at rl
      dsimp only at h
      split at h
      · cases h; exact ⟨a, rfl, .inl (by rw [← rl.ints]; exact q), by assumption⟩
      · cases h
  · rename_i xs
    obtain ⟨v, rfl, rv⟩ := r.one
    obtain ⟨a, us, rfl, q, rl⟩ := rv.tup s
    cases e : intsOf xs with
    | none => rw [e] at h; cases h
    | some ms =>
      rw [e] at h
      rw [intsOf_eq e] at rl
      dsimp only at h
      split at h
      · cases h; exact ⟨a, rfl, .inr (by rw [← rl.ints]; exact q), by assumption⟩
      · cases h
  · cases h
theorem setInts_ne (xs : List PV) (e : Xc) : pSetInts xs ≠ .er e := by
  unfold pSetInts
  intro h
  split at h <;> first | (split at h <;> first | (split at h <;> cases h) | cases h) | cases h
def pLenSet (xs : List PV) : R Vl := (pSetInts xs).bind fun ns => .ok (.z (.int (dedup ns).length))
def pSrtSet (xs : List PV) : R Vl := (pSetInts xs).bind fun ns => if (dedup ns).length < 64 then .ok (.fr .ow (.lst ((sdd ns).map .int))) else .no
theorem q_lenSet {fs} {a : Expr} {p p2 q pos : Pos} (hm : X.mg "len" = none) (hm2 : X.mg "set" = none) (hc : X.calm = true) (ha : QA cl X W fs [a]) (hg : Gl X "len" := by rfl) (hg2 : Gl X "set" := by rfl)
    (he : starEach [a] X.env = (false, eval a X.env) :: starEach [] X.env := by rfl) (he2 : starEach [Expr.Call (.Name "set" p2) [a] [] q] X.env = (false, eval (Expr.Call (.Name "set" p2) [a] [] q) X.env) :: starEach [] X.env := by rfl)
    (hpl : (backTo q (starEach [] X.env)).any (·.1) = false := by rfl) (hpl2 : (backTo pos (starEach [] X.env)).any (·.1) = false := by rfl) :
    QE cl X W (xB pLenSet fs) (.Call (.Name "len" p) [.Call (.Name "set" p2) [a] [] q] [] pos) := by
  have h1 : PE X (.Call (.Name "set" p2) [a] [] q) _ := pe_callTy (cr_setZ hc) hg2 hm2 (by decide +kernel) ha.pa (by decide) (by decide) he hpl
  have h2 : PA X [.Call (.Name "set" p2) [a] [] q] _ := pa_cons h1 pa_nil he2
  refine ⟨(pe_callB cr_lenSetZ hg hm PySem.boot_len h2 (by decide) (by decide) he2 hpl2).imp fun σ H Q h => ?_⟩
  obtain ⟨F, A, γ, rel, h⟩ := h
  refine ⟨F, A, γ, rel, ?_⟩
  unfold xB at h
  cases e : fs γ with
  | no => rw [e] at h; exact h
  | er x => rw [e] at h; exact h
  | ok l =>
    rw [e] at h
    simp only [R.bind_ok] at h
    intro F1 H1 vs e1 r1
    unfold pLenSet at h
    cases e2 : pSetInts l with
    | no => rw [e2] at h; exact h.elim
    | er x => exact absurd e2 (setInts_ne _ _)
    | ok ns =>
      rw [e2] at h
      simp only [R.bind_ok] at h
      obtain ⟨a', rfl, hs, hl⟩ := setInts_ok e1.sub r1 e2
      refine ⟨a', ns, rfl, hs, by unfold scanBound; omega, fun p c hp hcc => ?_⟩
      have hcl := dedup_le_len hcc
      refine ⟨p, _, c, rfl, upd_same, by omega, ?_⟩
      rw [hcc]
      exact h _ _ _ (e1.trans (Ext.newO e1.sub hp)) (VlR.zz (by simp [Rp]))
theorem q_sortedSet {fs} {a : Expr} {p p2 q pos : Pos} (hm : X.mg "sorted" = none) (hm2 : X.mg "set" = none) (hc : X.calm = true) (ha : QA cl X W fs [a]) (hg : Gl X "sorted" := by rfl) (hg2 : Gl X "set" := by rfl)
    (he : starEach [a] X.env = (false, eval a X.env) :: starEach [] X.env := by rfl) (he2 : starEach [Expr.Call (.Name "set" p2) [a] [] q] X.env = (false, eval (Expr.Call (.Name "set" p2) [a] [] q) X.env) :: starEach [] X.env := by rfl)
    (hpl : (backTo q (starEach [] X.env)).any (·.1) = false := by rfl) (hpl2 : (backTo pos (starEach [] X.env)).any (·.1) = false := by rfl) :
    QE cl X W (xB pSrtSet fs) (.Call (.Name "sorted" p) [.Call (.Name "set" p2) [a] [] q] [] pos) := by
  have h1 : PE X (.Call (.Name "set" p2) [a] [] q) _ := pe_callTy (cr_setZ hc) hg2 hm2 (by decide +kernel) ha.pa (by decide) (by decide) he hpl
  have h2 : PA X [.Call (.Name "set" p2) [a] [] q] _ := pa_cons h1 pa_nil he2
  refine ⟨(pe_callB (cr_sortedSet hc) hg hm (by decide +kernel) h2 (by decide) (by decide) he2 hpl2).imp fun σ H Q h => ?_⟩
  obtain ⟨F, A, γ, rel, h⟩ := h
  refine ⟨F, A, γ, rel, ?_⟩
  unfold xB at h
  cases e : fs γ with
  | no => rw [e] at h; exact h
  | er x => rw [e] at h; exact h
  | ok l =>
    rw [e] at h
    simp only [R.bind_ok] at h
    intro F1 H1 vs e1 r1
    unfold pSrtSet at h
    cases e2 : pSetInts l with
    | no => rw [e2] at h; exact h.elim
    | er x => exact absurd e2 (setInts_ne _ _)
    | ok ns =>
      rw [e2] at h
      simp only [R.bind_ok] at h
      obtain ⟨a', rfl, hs, hl⟩ := setInts_ok e1.sub r1 e2
      refine ⟨a', ns, rfl, hs, by unfold scanBound; omega, fun p c hp hcc => ?_⟩
      have hcl := dedup_le_len hcc
      by_cases h64 : (dedup ns).length < 64
      · rw [if_pos h64] at h
        refine ⟨p, _, c, rfl, upd_same, by omega, fun ms p' hs' hm' hl' np' => ?_⟩
        have em : ms = sdd ns := sdd_uniq (fun k => (hm' k).trans (by simp)) hs'
        subst em
        have e3 := e1.trans (Ext.newO (o := SetO X.w p (fun j => decide (j ∈ ns)) c) e1.sub hp)
        exact h _ _ _ (e3.trans (Ext.newO e3.sub np')) ((vlN_lst e3.sub np' (RpL.ofInts _)).r e3.hle)
      · rw [if_neg h64] at h; exact h.elim
end
end Z
/-! the pure layer, part L: own slots written -/
namespace Z
open PySem L2
/-- slot i changed in place -/
theorem Rel.mut {T : Tb} {F H : Hp} {A σ γ} {i : Nat} {m x} (rel : Rel T F A σ H γ) (e : γ[i]? = some (.sl m x)) : ∃ v Ai, σ[i]? = some (some v) ∧ OwM T F H m x v Ai ∧ (∀ a ∈ Ai, a ∈ A) ∧
    ∀ m' x' F' H' A', Same F F' → (∀ a o, a ∉ Ai → H a = some o → H' a = some o) → Same F' H' → OwM T F' H' m' x' v A' → A'.Nodup → (∀ a ∈ A', a ∈ Ai ∨ H a = none) → (∀ a ∈ A', F' a = none) → (∀ a o, F' a = some o → F a = some o ∨ a ∈ Ai ∨ H a = none) →
      ∃ A2, Rel T F' A2 σ H' (γ.set i (.sl m' x')) ∧ Step F A H F' A2 H' := by
  obtain ⟨v, P, Ai, S, h1, rfl, h3, h4⟩ := OwE.split γ rel.env e
  obtain ⟨n12, nS, dS⟩ := List.nodup_append.mp rel.nd
  obtain ⟨nP, nAi, dP⟩ := List.nodup_append.mp n12
  have hd := OwE.dom γ rel.env
  refine ⟨v, Ai, h1, h3, fun a ha => by simp [ha], fun m' x' F' H' A' s k sub r na own d new => ⟨P ++ A' ++ S, ⟨sub, h4 m' x' F' H' A' s (fun a ha o q => k a o ?_ q) r, ?_, fun a ha => ?_⟩, ⟨s, fun a o ha q => k a o (fun z => ha (by simp [z])) q, fun a ha => ?_, fun a o q => ?_⟩⟩⟩
  · intro z
    rcases List.mem_append.mp ha with q | q
    · exact dP a q a z rfl
    · exact dS a (List.mem_append_right _ z) a q rfl
  · have live : ∀ a, (a ∈ P ∨ a ∈ S) → a ∉ A' := fun a ha z => by
      rcases own a z with q | q
      · rcases ha with w | w
        · exact dP a w a q rfl
        · exact dS a (List.mem_append_right _ q) a w rfl
      · obtain ⟨o, ho⟩ := hd a (by rcases ha with w | w <;> simp [w])
        rw [q] at ho; cases ho
    refine List.nodup_append.mpr ⟨List.nodup_append.mpr ⟨nP, na, fun a ha b hb e => live a (.inl ha) (e ▸ hb)⟩, nS, fun a ha b hb e => ?_⟩
    subst e
    rcases List.mem_append.mp ha with q | q
    · exact dS a (List.mem_append_left _ q) a hb rfl
    · exact live a (.inr hb) q
  · have out : (a ∈ P ∨ a ∈ S) → F' a = none := fun ha => by
      have hA : a ∈ P ++ Ai ++ S := by rcases ha with w | w <;> simp [w]
      cases q : F' a with
      | none => rfl
      | some o =>
        rcases new a o q with z | z | z
        · rw [rel.dis a hA] at z; cases z
        · rcases ha with w | w
          · exact absurd rfl (dP a w a z)
          · exact absurd rfl (dS a (List.mem_append_right _ z) a w)
        · obtain ⟨u, hu⟩ := hd a hA
          rw [z] at hu; cases hu
    simp only [List.mem_append] at ha
    rcases ha with (w | w) | w
    · exact out (.inl w)
    · exact d a w
    · exact out (.inr w)
  · simp only [List.mem_append] at ha
    rcases ha with (w | w) | w
    · exact .inl (by simp [w])
    · rcases own a w with q | q
      · exact .inl (by simp [q])
      · exact .inr q
    · exact .inl (by simp [w])
  · rcases new a o q with z | z | z
    · exact .inl z
    · exact .inr (.inl (by simp [z]))
    · exact .inr (.inr z)
/-- an own list, dict or set in slot i, after growth: its object written anew -/
theorem Rel.mut1 {T : Tb} {F H F1 H1 : Hp} {A σ γ} {i : Nat} {x} (rel : Rel T F A σ H γ) (e : γ[i]? = some (.sl .ow x)) (e1 : Ext F H F1 H1) : ∃ a, σ[i]? = some (some (.ref a)) ∧ OwM T F1 H1 .ow x (.ref a) [a] ∧
    ∀ x' o, OwM T F1 (upd H1 a o) .ow x' (.ref a) [a] → ∃ A2, Rel T F1 A2 σ (upd H1 a o) (γ.set i (.sl .ow x')) ∧ Step F A H F1 A2 (upd H1 a o) := by
  have rel1 := rel.ext e1
  obtain ⟨v, Ai, h1, h2, h3, h4⟩ := rel1.mut e
  have h2' := h2
  simp only [OwM] at h2'
  obtain ⟨a, rfl, rfl, h5⟩ := h2'
  have fa : F1 a = none := rel1.dis a (h3 a (by simp))
  refine ⟨a, h1, h2, fun x' o r => ?_⟩
  obtain ⟨A2, r2, s2⟩ := h4 .ow x' F1 (upd H1 a o) [a] (Same.refl _) (fun b u hb q => by rw [upd_ne (by simpa using hb)]; exact q) (fun b u q => by
    rw [upd_ne (ne_of_none q fa)]; exact rel1.sub b u q) r (by simp) (fun b hb => .inl hb) (fun b hb => by rw [List.mem_singleton.mp hb]; exact fa) (fun b u q => .inl q)
  exact ⟨A2, r2, (Step.ext e1).trans s2⟩

section
variable {X : Cx} {cl : Cl} {W : WX}
/-! ### xs.append(e) -/
def appL (xs : List PV) : List PV → Option PV
  | [y] => if sm (xs.length + 1) then some (.lst (xs ++ [y])) else none
  | _ => none
theorem appL_ok {xs ys : List PV} {z} (h : appL xs ys = some z) : ∃ y, ys = [y] ∧ sm (xs.length + 1) = true ∧ z = .lst (xs ++ [y]) := by
  unfold appL at h
  split at h
  · split at h
    · cases h; exact ⟨_, rfl, by assumption, rfl⟩
    · cases h
  · cases h
def toO (γ : Env) (i : Nat) (z : Option PV) : Os := match z with
  | some x' => .nx (γ.set i (.sl .ow x'))
  | none => .no
def sApp (i : Nat) (fs : Env → R (List PV)) : Env → Os := fun γ => match γ[i]? with
  | some (.sl .ow (.lst xs)) => match fs γ with
    | .no => .no
    | .er e => .er e γ
    | .ok ys => toO γ i (appL xs ys)
  | _ => .no
theorem qs_append {i : Nat} {x : Str} {fs} {e : Expr} {p1 apos cpos pos : Pos} (he : QZ cl X W fs [e]) (hN : X.N[i]? = some x := by rfl) (hv : Vis X.env.scope x := by first | exact Or.inl rfl | exact Or.inr (Or.inl rfl) | exact Or.inr (Or.inr rfl))
    (hd : (x == ("__debug__" : Str)) = false := by decide) (hcd : (x == ("__classdict__" : Str)) = false := by decide)
    (hbase : attributeBase (.Name x p1) "append" X.env (eval (.Name x p1) X.env) = eval (.Name x p1) X.env := by rfl)
    (hfew : ((backTo cpos (starEach (e :: []) X.env)).all (fun x => !x.1) && (backToKw cpos (keywordEach [] X.env)).all (fun x => x.1.isSome)
      && decide ((e :: []).length + ([] : List Keyword).length + (if ([] : List Keyword).isEmpty then 0 else 1) < 30)) = true := by rfl)
    (hline : (apos.endLine == cpos.line) = true := by rfl) (hs : starEach (e :: []) X.env = (false, eval e X.env) :: starEach [] X.env := by rfl) (hplain : (backTo cpos (starEach [] X.env)).any (·.1) = false := by rfl)
    (hsw : swapsWith (.Call (.Attribute (.Name x p1) "append" apos) [e] [] cpos) none pos.line X.env = pure false := by rfl) :
    QS cl X W (sApp i fs) (.Expr (.Call (.Attribute (.Name x p1) "append" apos) [e] [] cpos) pos) := by
  have h0 : PE X (.Call (.Attribute (.Name x p1) "append" apos) [e] [] cpos) _ := pe_bm PySem.F.plainAttrs_list PySem.F.slot_list_append PySem.F.type_list_append mt_append (pe_var (i := i) hN hv hd hcd) he.pa hbase hfew hline hs hplain
  refine ⟨(ps_expr h0 hsw).imp fun D σ H h => ?_⟩
  obtain ⟨F, A, γ, rel, h⟩ := h
  unfold sApp at h
  split at h
  · rename_i xs hg
    obtain ⟨a, ha, o1, _⟩ := rel.mut1 hg (Ext.refl rel.sub)
    simp only [OwM] at o1
    obtain ⟨a', ea, _, vs, hvs, rv⟩ := o1
    cases ea
    refine ⟨.ref a, ha, .inl ⟨rfl, vs, .inl (.inl hvs)⟩, F, A, γ, rel, ?_⟩
    cases e : fs γ with
    | no => rw [e] at h; exact h.elim
    | er z =>
      rw [e] at h
      exact fun F' H' c d ex r => h F' A σ H' c d (Step.ext ex) (rel.ext ex) r
    | ok ys =>
      rw [e] at h
      intro F1 H1 ws e1 rs
      dsimp only at h
      cases ez : appL xs ys with
      | none => rw [ez] at h; exact h.elim
      | some z =>
        rw [ez] at h
        obtain ⟨y, rfl, hz, rfl⟩ := appL_ok ez
        obtain ⟨b, hb, o1, k⟩ := rel.mut1 hg e1
        rw [ha] at hb
        cases hb
        simp only [OwM] at o1
        obtain ⟨b, eb, _, us, hus, ru⟩ := o1
        cases eb
        simp only [RpL] at rs
        obtain ⟨w, ws', rfl, rw1, rfl⟩ := rs
        obtain ⟨A2, r2, s2⟩ := k (.lst (xs ++ [y])) (.lst (us ++ [w])) (by
          simp only [OwM]
          exact ⟨a, rfl, rfl, us ++ [w], upd_same, RpL.append ru (RpL.cons rw1 RpL.nil)⟩)
        refine ⟨a, us, w, rfl, rfl, hus, ?_, h _ _ _ _ s2 r2⟩
        have := sm_le hz
        rw [ru.length]
        omega
  · exact h.elim

/-! ### xs[i] = v, d[k] = v -/
def dPut (kvs : List (PV × PV)) (k v : PV) : List (PV × PV) := if (kvs.any fun p => peq p.1 k) = true then kvs.map (fun p => if peq p.1 k = true then (p.1, v) else p) else kvs ++ [(k, v)]
theorem RpD.append {T : Tb} {F : Hp} : ∀ {xs ys : List (PV × PV)} {vs ws}, RpD T F xs vs → RpD T F ys ws → RpD T F (xs ++ ys) (vs ++ ws)
  | [], _, _, _, h, t => by simp only [RpD] at h; subst h; exact t
  | (k, x) :: xs, _, _, _, h, t => by
    simp only [RpD] at h
    obtain ⟨v, ws, rfl, p, q⟩ := h
    simp only [List.cons_append, RpD]
    exact ⟨v, _, rfl, p, RpD.append q t⟩
section
variable {κ : Type} [DecidableEq κ] (kk : κ → PV) (hk : ∀ a b, peq (kk a) (kk b) = decide (a = b))
include hk
theorem any_put (k : κ) {T : Tb} {F : Hp} : ∀ {es : List (κ × V)} {kvs : List (PV × PV)}, RpD T F kvs (es.map fun p => (kk p.1, p.2)) → (kvs.any fun p => peq p.1 (kk k)) = es.any fun kv => decide (kv.1 = k)
  | [], [], _ => rfl
  | [], (a, b) :: r, h => by simp [RpD] at h
  | e :: es, [], h => by simp [RpD] at h
  | (j, u) :: es, (a, b) :: r, h => by
    simp only [List.map_cons, RpD, List.cons.injEq, Prod.mk.injEq] at h
    obtain ⟨v, ws, ⟨⟨rfl, rfl⟩, rfl⟩, p, q⟩ := h
    simp only [List.any_cons, hk, any_put k q]
theorem map_put (k : κ) {T : Tb} {F : Hp} {y : PV} {w : V} (ry : Rp T F y w) : ∀ {es : List (κ × V)} {kvs : List (PV × PV)}, RpD T F kvs (es.map fun p => (kk p.1, p.2)) →
    RpD T F (kvs.map fun p => if peq p.1 (kk k) = true then (p.1, y) else p) ((es.map fun kv => if kv.1 = k then (kv.1, w) else kv).map fun p => (kk p.1, p.2))
  | [], [], _ => by simp [RpD]
  | [], (a, b) :: r, h => by simp [RpD] at h
  | e :: es, [], h => by simp [RpD] at h
  | (j, u) :: es, (a, b) :: r, h => by
    simp only [List.map_cons, RpD, List.cons.injEq, Prod.mk.injEq] at h
    obtain ⟨v, ws, ⟨⟨rfl, rfl⟩, rfl⟩, p, q⟩ := h
    have ih := map_put k ry q
    simp only [List.map_cons, hk]
    by_cases e : j = k
    · subst e
      simp only [decide_true, if_true, RpD]
      exact ⟨w, _, rfl, ry, ih⟩
    · simp only [e, decide_false, Bool.false_eq_true, if_false, RpD]
      exact ⟨_, _, rfl, p, ih⟩
theorem dPut_ok (k : κ) {T : Tb} {F : Hp} {y : PV} {w : V} (ry : Rp T F y w) {es : List (κ × V)} {kvs : List (PV × PV)} (h : RpD T F kvs (es.map fun p => (kk p.1, p.2))) : RpD T F (dPut kvs (kk k) y) ((putK es k w).map fun p => (kk p.1, p.2)) := by
  unfold dPut putK
  rw [any_put kk hk k h]
  split
  · exact map_put kk hk k ry h
  · rw [List.map_append]
    refine RpD.append h ?_
    simp only [List.map_cons, List.map_nil, RpD]
    exact ⟨w, [], rfl, ry, rfl⟩
end
def setP (x i y : PV) : Option PV := match x, i with
  | .lst xs, .int i => (ixN xs.length i).map fun j => .lst (xs.set j y)
  | .dct t kvs, k => if keyOk t k && sm (kvs.length + 1) then some (.dct t (dPut kvs k y)) else none
  | _, _ => none
def sSub (i : Nat) (f g : Ex) : Env → Os := fun γ => match f γ with
  | .ok l => match l.keep with
    | .ok y => match γ[i]? with
      | some (.sl .ow x) => match g γ with
        | .ok k => toO γ i (setP x k.x y)
        | .er e => .er e γ
        | .no => .no
      | _ => .no
    | _ => .no
  | .er e => .er e γ
  | .no => .no
/-- both kinds of store -/
def rSetA : TSet := fun o i v H Q => rSetL o i v H Q ∨ rSetD o i v H Q
theorem set_any (hu : X.A.units + 1 < cLine) : PSet X rSetA := fun pins s σ H o i v ov iv u Q I ro ri rv h => h.elim (set_list pins s σ H o i v ov iv u Q I ro ri rv) (set_dict hu pins s σ H o i v ov iv u Q I ro ri rv)
theorem qs_sub {i : Nat} {x : Str} {f g} {e k : Expr} {p1 pos apos : Pos} (hu : X.A.units + 1 < cLine) (he : QE cl X W f e) (hk : QE cl X W g k) (hN : X.N[i]? = some x := by rfl) (hv : Vis X.env.scope x := by first | exact Or.inl rfl | exact Or.inr (Or.inl rfl) | exact Or.inr (Or.inr rfl))
    (hd : (x == ("__debug__" : Str)) = false := by decide) (hcd : (x == ("__classdict__" : Str)) = false := by decide)
    (ha : ∀ v, assign (.Subscript (.Name x p1) k apos) X.env v = (do
      let ov ← holding [v] (eval (.Name x p1) X.env)
      let iv ← holding [v, ov] (eval k X.env)
      standAt apos
      holding [v, ov, iv] (setItem ov iv v)
      release [v, ov, iv] []) := by intro _; rfl)
    (hs : swapsWithSole [.Subscript (.Name x p1) k apos] e pos.line X.env = pure false := by rfl) (hw : swappedStores [.Subscript (.Name x p1) k apos] e X.env = pure none := by rfl)
    (h1 : (assignEach [.Subscript (.Name x p1) k apos] X.env).map (·.2) = [assign (.Subscript (.Name x p1) k apos) X.env] := by rfl) :
    QS cl X W (sSub i f g) (.Assign [.Subscript (.Name x p1) k apos] e pos) := ⟨(ps_asg he.pe (pg_sub (pe_var (i := i) hN hv hd hcd) hk.pe (set_any hu) ha) hs hw h1).imp fun D σ H h => by
  obtain ⟨F, A, γ, rel, h⟩ := h
  refine ⟨F, A, γ, rel, ?_⟩
  unfold sSub at h
  cases e : f γ with
  | no => rw [e] at h; exact h
  | er x => rw [e] at h; exact fun F' H' c d ex r => h F' A σ H' c d (Step.ext ex) (rel.ext ex) r
  | ok l =>
    rw [e] at h
    simp only at h
    intro F1 H1 v e1 r1
    cases ek : l.keep with
    | no => rw [ek] at h; exact h.elim
    | er x => exact (l.keep_ne _ ek).elim
    | ok y =>
      rw [ek] at h
      simp only at h
      obtain ⟨F2, e2, s2, ry⟩ := keep_ok r1 e1 ek
      split at h
      · rename_i xo hg
        obtain ⟨a, ha', jk0⟩ := rel.mut1 hg (Ext.refl rel.sub)
        clear jk0
        refine ⟨.ref a, ha', F2, A, γ, rel.ext e2, ?_⟩
        cases eg : g γ with
        | no => rw [eg] at h; exact h.elim
        | er x => rw [eg] at h; exact fun F' H' c d ex r => h F' A σ H' c d (Step.ext (e2.trans ex)) (rel.ext (e2.trans ex)) r
        | ok kl =>
          rw [eg] at h
          simp only at h
          intro F3 H3 kv e3 r3
          have rk := r3.rv
          have e23 := e2.trans e3
          obtain ⟨b, hb, o1, kont⟩ := rel.mut1 hg e23
          rw [ha'] at hb
          cases hb
          cases ez : setP xo kl.x y with
          | none => rw [ez] at h; exact h.elim
          | some z =>
            rw [ez] at h
            have ry3 := ry.mono e3.fle
            unfold setP at ez
            split at ez
            · rename_i xs ii exx
              simp only [OwM] at o1
              obtain ⟨b, eb, _, vs, hvs, rvs⟩ := o1
              cases eb
              cases ej : ixN xs.length ii with
              | none => rw [ej] at ez; cases ez
              | some j =>
                rw [ej] at ez
                cases ez
                rw [exx] at rk
                obtain ⟨A2, r2, st⟩ := kont (.lst (xs.set j y)) (.lst (vs.set j v)) (by
                  simp only [OwM]
                  exact ⟨a, rfl, rfl, _, upd_same, RpL.set j rvs ry3⟩)
                exact .inl ⟨a, vs, ii, j, rfl, rk.int, hvs, by rw [rvs.length]; exact ej, h _ _ _ _ st r2⟩
            · rename_i t kvs
              split at ez
              · rename_i hc
                cases ez
                simp only [Bool.and_eq_true] at hc
                have hz := sm_le hc.2
                simp only [OwM] at o1
                obtain ⟨b, eb, _, ks, hks, rks⟩ := o1
                cases eb
                cases t with
                | false =>
                  obtain ⟨es, hes, rfl⟩ := hks
                  have hl := rks.length
                  rw [List.length_map] at hl
                  have go : ∀ q : Key, kl.x = kP q → kv = kV q → (rSetA (.ref a) kv v H3 fun H4 => D.nx σ H4) := fun q eq ev => by
                    obtain ⟨A2, r2, st⟩ := kont (.dct false (dPut kvs kl.x y)) (.dK (putK es q v)) (by
                      simp only [OwM]
                      refine ⟨a, rfl, rfl, _, ⟨_, upd_same, rfl⟩, ?_⟩
                      rw [eq]
                      exact dPut_ok kP peq_kP q ry3 rks)
                    exact .inr ⟨a, _, rfl, by rw [ev]; exact DPut.k hes (by omega), h _ _ _ _ st r2⟩
                  cases ekx : kl.x <;> rw [ekx] at hc rk <;> simp [keyOk] at hc
                  · exact go (.inl _) ekx rk.int
                  · exact go (.inr _) ekx rk.str
                | true =>
                  obtain ⟨es, hes, rfl⟩ := hks
                  have hl := rks.length
                  rw [List.length_map] at hl
                  cases ekx : kl.x <;> rw [ekx] at hc rk <;> simp [keyOk] at hc
                  rename_i tks
                  obtain ⟨jk, hjk⟩ := Option.isSome_iff_exists.mp hc.1
                  have exx := keysOf_eq hjk
                  subst exx
                  obtain ⟨tb, us, rfl, htb, rl⟩ := rk.tup e23.sub
                  have ev := rpL_kP rl
                  subst ev
                  obtain ⟨A2, r2, st⟩ := kont (.dct true (dPut kvs kl.x y)) (.dT (putK es jk v)) (by
                      simp only [OwM]
                      refine ⟨a, rfl, rfl, _, ⟨_, upd_same, rfl⟩, ?_⟩
                      rw [ekx]
                      exact dPut_ok (fun q => .tup (q.map kP)) (fun a b => by simp only [peq]; exact peqL_kP a b) jk ry3 rks)
                  exact .inr ⟨a, _, rfl, DPut.t hes htb (by omega), h _ _ _ _ st r2⟩
              · cases ez
            · cases ez
      · exact h.elim⟩
/-! ### {} -/
def xDct (t : Bool) : Ex := fun _ => .ok (.fr .ow (.dct t []))
theorem q_dctK {pos : Pos} : QE cl X W (xDct false) (.Dict [] [] pos) := ⟨pe_dnewK.imp fun σ H Q h => by
  obtain ⟨F, A, γ, rel, h⟩ := h
  exact fun p np => h _ _ _ (Ext.newO rel.sub np) ⟨[p], by simp only [OwM]; exact ⟨p, rfl, rfl, [], ⟨[], upd_same, rfl⟩, by simp [RpD]⟩, by simp, fun a ha => by
    rw [List.mem_singleton.mp ha]; exact ⟨np, rel.sub.free np⟩⟩⟩
theorem q_dctT {pos : Pos} : QE cl X W (xDct true) (.Dict [] [] pos) := ⟨pe_dnewT.imp fun σ H Q h => by
  obtain ⟨F, A, γ, rel, h⟩ := h
  exact fun p np => h _ _ _ (Ext.newO rel.sub np) ⟨[p], by simp only [OwM]; exact ⟨p, rfl, rfl, [], ⟨[], upd_same, rfl⟩, by simp [RpD]⟩, by simp, fun a ha => by
    rw [List.mem_singleton.mp ha]; exact ⟨np, rel.sub.free np⟩⟩⟩
/-! ### x += e, x -= e on ints -/
def sAug (op : Int → Int → Int) (i : Nat) (f : Ex) : Env → Os := fun γ => match γ[i]? with
  | some (.sl .fz (.int a)) => match f γ with
    | .ok l => match l.x with
      | .int b => .nx (γ.set i (.sl .fz (.int (op a b))))
      | _ => .no
    | .er e => .er e γ
    | .no => .no
  | _ => .no
theorem qs_aug {i : Nat} {x : Str} {f} {e : Expr} {op : Operator} {g : Int → Int → Int} {pos pos' : Pos} (ho : PIp X op (ipI g)) (hN : X.N.Nodup) (he : QE cl X W f e) (hi : X.N[i]? = some x := by rfl) (hx : Loc X.env.scope x := by first | exact Or.inl rfl | exact Or.inr rfl)
    (hf : X.fn x = true ∨ X.env.scope.names.lookup x = some .local := by first | exact .inl rfl | exact .inr rfl | assumption) : QS cl X W (sAug g i f) (.AugAssign (.Name x pos') op e pos) := ⟨(ps_aug (i := i) hN hi hx he.pe ho hf).imp fun D σ H h => by
  obtain ⟨F, A, γ, rel, h⟩ := h
  unfold sAug at h
  split at h
  · rename_i a hg
    obtain ⟨v, Ai, h1, h2, h3⟩ := OwE.get γ rel.env hg
    simp only [OwM, Rp] at h2
    obtain ⟨rfl, _⟩ := h2
    refine ⟨_, h1, F, A, γ, rel, ?_⟩
    cases e : f γ with
    | no => rw [e] at h; exact h
    | er x => rw [e] at h; exact fun F' H' c d ex r => h F' A σ H' c d (Step.ext ex) (rel.ext ex) r
    | ok l =>
      rw [e] at h
      simp only at h
      intro F1 H1 w e1 r1
      have rw1 := r1.rv
      cases el : l.x with
      | int b =>
        rw [el] at h rw1
        refine ⟨a, b, rfl, rw1.int, ?_⟩
        obtain ⟨A', ra, ha⟩ := (rel.ext e1).put (i := i) (m := .fz) (x := .int (g a b)) (v := .int (g a b)) (Ar := []) (OwM.fz_of (by simp [Rp])) (by simp) (by simp)
        exact h F1 A' _ H1 (Step.ext' e1 fun a z => (ha a z).elim .inl fun q => by simp at q) ra
      | _ => rw [el] at h; exact h.elim
  · exact h.elim⟩
theorem qs_add {i : Nat} {x : Str} {f} {e : Expr} {pos pos' : Pos} (hN : X.N.Nodup) (he : QE cl X W f e) (hi : X.N[i]? = some x := by rfl) (hx : Loc X.env.scope x := by first | exact Or.inl rfl | exact Or.inr rfl)
    (hf : X.fn x = true ∨ X.env.scope.names.lookup x = some .local := by first | exact .inl rfl | exact .inr rfl | assumption) : QS cl X W (sAug (· + ·) i f) (.AugAssign (.Name x pos') .Add e pos) := qs_aug ip_add hN he hi hx hf
end
end Z
/-! the pure layer, part M: the ends of a law -/
namespace Z
open PySem L2
structure Dfn (K : PySem.W.Frag) (mg : Str → Option Value) (x : Str) (st : Stmt) (ps : List Str) (a : Addr) (fd : FuncData) : Prop where
  fn : Fun K x x st a fd
  mgx : mg x = some (.ref a)
  bd : Binds K fd ps []
theorem hu1_of {k : Nat} {A : Around} (r : Room k A) : A.units + 1 < cLine := by have := r.units; omega
theorem hu65_of {k : Nat} {A : Around} (r : Room k A) : A.units + 65 < cLine := by have := r.un; omega
section
variable {P : Program} {w : World} {K : PySem.W.Frag} {mg : Str → Option Value} {base : Heap}
theorem q_def0 {cl : Cl} {x qual : Str} {st : Stmt} {f : Addr} {fd : FuncData} {N ps : List Str} {k : Nat} {body : Z.Env → Os} {np nl : Nat} {g : List PV → R PV} (hg : g = run np nl body) (Fn : Fun K x qual st f fd) (S : FnScope N ps (defScope st)) (hp : ps.length = np) (hl : N.length = nl)
    (hb : ∀ (cdv : Value) (A : Around) (outer : List PySem.Env) (s : Shared) (H : Hp) (E : XK), Room k (A.deeper (PyProof.Rows.envOfC qual (defScope st) s.heap.objs.size f cdv)) → QSs cl (cxOf L2.CX0 P w K mg base N qual (defScope st) f cdv A outer s H E).nox W0 body (defBody st)) :
    FnOk P w K mg base L2.CX0 (k + 1) f fd ps (spQ0 K cl g) := by
  subst hp hl hg
  exact q_fun0 Fn S hb
end
def noCl : Cl := ⟨fun _ => none, fun _ => none, .non⟩
/-- the written part holds no list of its own -/
def noLst (K : PySem.W.Frag) : Bool := K.all fun p => match p.2.cls with
  | .type s => s != "list"
  | _ => true
theorem lookup_mem {K : PySem.W.Frag} {a : Addr} {o : Obj} (h : K.lookup a = some o) : (a, o) ∈ K := by
  induction K with
  | nil => cases h
  | cons p K ih =>
    obtain ⟨b, u⟩ := p
    rw [List.lookup_cons] at h
    split at h
    · rename_i e
      cases h
      rw [eq_of_beq e]
      exact List.mem_cons_self
    · exact List.mem_cons_of_mem _ (ih h)
theorem rd_of {K : PySem.W.Frag} {H : Hp} {a : Addr} {xs : List V} (n : noLst K = true) (h : SqL K H a xs) : Rd H a (.lst xs) := by
  rcases h with h | ⟨o, arr, c, hk, hc, _⟩
  · exact h
  · have := List.all_eq_true.mp n _ (lookup_mem hk)
    rw [hc] at this
    simp at this
/-- what is to be shown of the law's pure meaning -/
def LawOk (f : List PV → R PV) (n : Nat) : Prop := ∀ ns : List Int, ns.length ≤ n → f [.lst (ns.map .int)] = .ok (.bl true)
theorem law_sp {K : PySem.W.Frag} {cl : Cl} {f : List PV → R PV} {n : Nat} (h : LawOk f n) (nl : noLst K = true) (H : Hp) (a : Addr) (ns : List Int) (hl : ns.length ≤ n) (hS : SqL K H a (ns.map V.int)) :
    spQ K cl f [.ref a] H (fun v _ => v = .bl true) fun _ _ _ => False := by
  refine ⟨H, [.lst (ns.map .int)], Same.refl _, ?_, ?_⟩
  · refine RpL.cons ?_ RpL.nil
    simp only [Rp]
    exact ⟨a, _, rfl, rd_of nl hS, RpL.ofInts _⟩
  · rw [h ns hl]
    intro F' H' v _ r
    simpa [Rp] using r
theorem walk0 {l : PySem.W.OpenLaw} {n k : Nat} {q : Program} {loose : List Str} {XP : (Str → Option Value) → Heap → Prop} {YP : World → Heap → Prop} {d : PySem.DefRec} {K : Params → PySem.W.Frag} {x : Str} {f : List PV → R PV} {cl : PySem.W.Frag → Cl}
    (hn : l.most = some n) (hn2 : n ≤ sizeLine) (hdf : d.params.defaults = []) (hr : Room k callerA)
    (hY : ∀ (w : World) (h : Heap), YP w h → (K w.params).In h) (nl : ∀ w : World, noLst (K w.params) = true)
    (F : ∀ (w : World) (mg : Str → Option Value) (fa : Addr) (h : Heap), (K w.params).In h → h.Ns mainGlobals mg → mg d.name = some (.ref fa) →
      ∃ fd : FuncData, (∀ (s : Shared) (u : Value), BindsTo s fd ⟨[u], []⟩ [(x, u)]) ∧
        ∀ base : Heap, (K w.params).In base → base.Ns mainGlobals mg → FnOk l.prog w (K w.params) mg base CX0 k fa fd [x] (spQ0 (K w.params) (cl (K w.params)) f))
    (hL : LawOk f n) :
    PySem.W.WalkO q loose XP YP l.row.toRowW d [] (fun f vs => PySem.call f vs) :=
  L2.walk_of (n := n) (k := k) (x := x) (CX := fun _ => CX0) (sp := fun w => spQ0 (K w.params) (cl (K w.params)) f) hn hn2 hdf hr hY F (fun w H a ns hl _ hS => law_sp hL (nl w) H a ns hl hS) fun _ _ _ _ _ z => z
end Z
/-! the pure layer, part N: comparisons as tests -/
namespace Z
open PySem L2
section
variable {X : Cx} {cl : Cl} {W : WX}
theorem isTrue_cmp {a b : Expr} {op : CmpOp} {pos : Pos} {env : PySem.Env} {whole : Sem Value} : PySem.isTrue (.Compare a [op] [b] pos) env whole = (do let c ← eval (.Compare a [op] [b] pos) env; holding [c] (truthy c)) := by
  rw [isTrue_Compare1, eval_Compare1]
  simp only [bind_assoc]
theorem tqT_tq {f : Ex} {σ : L2.St} {H : Hp} {Q : Bool → Hp → Prop} (h : tqT X.K cl W (xT f) σ H Q) : tq X.K cl W f σ H fun x H' => ∃ k, TruV X.K x H' k ∧ Q k H' := by
  obtain ⟨F, A, γ, rel, h⟩ := h
  refine ⟨F, A, γ, rel, ?_⟩
  unfold xT at h
  cases e : f γ with
  | no => rw [e] at h; exact h
  | er x => rw [e] at h; exact h
  | ok l =>
    rw [e] at h
    simp only [R.bind_ok] at h
    intro F1 H1 v e1 r1
    cases e' : pTru l.x with
    | no => rw [e'] at h; exact h.elim
    | er x => exact (pTru_ne _ _ e').elim
    | ok b =>
      rw [e'] at h
      exact ⟨b, pTru_ok e1.sub r1.rv e', h F1 H1 e1⟩
theorem qt_cmp {f : Ex} {a b : Expr} {op : CmpOp} {pos : Pos} (h : QE cl X W f (.Compare a [op] [b] pos)) : QT cl X W (xT f) (.Compare a [op] [b] pos) := by
  refine ⟨⟨fun pins s σ H Q I h' => ?_⟩⟩
  rw [isTrue_cmp]
  refine PySem.wpAny_bind (thn (h.pe.run pins s σ H _ I (tqT_tq h')) fun v s1 ⟨x, H1, I1, r1, k, t, q1⟩ => PySem.wpAny_holding (tru_ok pins s1 σ H1 x v Q I1 r1 ⟨k, t, q1⟩))
theorem tqT_bl {f : Ex} (hb : ∀ γ l, f γ = .ok l → ∃ b, l = .z (.bl b)) {σ : L2.St} {H : Hp} {Q : Bool → Hp → Prop} (h : tqT X.K cl W (xT f) σ H Q) : tq X.K cl W f σ H fun x H' => ∃ k, x = .bl k ∧ Q k H' := by
  obtain ⟨F, A, γ, rel, h⟩ := h
  refine ⟨F, A, γ, rel, ?_⟩
  unfold xT at h
  cases e : f γ with
  | no => rw [e] at h; exact h
  | er x => rw [e] at h; exact h
  | ok l =>
    obtain ⟨b, rfl⟩ := hb γ l e
    rw [e] at h
    simp only [R.bind_ok] at h
    exact fun F1 H1 v e1 r1 => ⟨b, r1.rv.bl, h F1 H1 e1⟩
theorem pb_bl {p : PV → PV → R Bool} {x y : PV} {l : Vl} (h : pb p x y = .ok l) : ∃ b, l = .z (.bl b) := by
  unfold pb at h
  cases e : p x y with
  | ok b => rw [e] at h; cases h; exact ⟨b, rfl⟩
  | er x => rw [e] at h; cases h
  | no => rw [e] at h; cases h
theorem chain_bl {p p' : PV → PV → R Bool} {f g h : Ex} : ∀ γ l, xChain p p' f g h γ = .ok l → ∃ b, l = .z (.bl b) := by
  intro γ l e
  unfold xChain at e
  cases e1 : f γ with
  | no => rw [e1] at e; cases e
  | er x => rw [e1] at e; cases e
  | ok a =>
    rw [e1] at e
    simp only [R.bind_ok] at e
    cases e2 : g γ with
    | no => rw [e2] at e; cases e
    | er x => rw [e2] at e; cases e
    | ok b =>
      rw [e2] at e
      simp only [R.bind_ok] at e
      cases e3 : p a.x b.x with
      | no => rw [e3] at e; cases e
      | er x => rw [e3] at e; cases e
      | ok c =>
        rw [e3] at e
        simp only [R.bind_ok] at e
        cases c with
        | false => simp only [Bool.false_eq_true, ↓reduceIte, R.ok.injEq] at e; exact ⟨false, e.symm⟩
        | true =>
          simp only [↓reduceIte] at e
          cases e4 : h γ with
          | no => rw [e4] at e; cases e
          | er x => rw [e4] at e; cases e
          | ok d => rw [e4] at e; exact pb_bl e
theorem qt_chain {op op' : CmpOp} {p p' : PV → PV → R Bool} {r r' : R2} {a b c : Expr} {pos : Pos} {f g h : Ex} (ho : OpR X (compareOp op) r) (ho' : OpR X (compareOp op') r') (n : NoErB p) (n' : NoErB p') (o : Op2 X cl (pb p) r) (o' : Op2 X cl (pb p') r')
    (ha : QE cl X W f a) (hb : QE cl X W g b) (hc : QE cl X W h c) (hm : lastMarks [op, op'] [b, c] = false) : QT cl X W (xT (xChain p p' f g h)) (.Compare a [op, op'] [b, c] pos) :=
  ⟨(pt_chain ho ho' ha.pe hb.pe hc.pe hm).imp fun σ H Q hh => tqChain n n' o o' (tqT_bl chain_bl hh)⟩
theorem qt_lele {a b c : Expr} {pos : Pos} {f g h : Ex} (ha : QE cl X W f a) (hb : QE cl X W g b) (hc : QE cl X W h c) (hm : lastMarks [CmpOp.LtE, CmpOp.LtE] [b, c] = false := by with_unfolding_all rfl) : QT cl X W (xT (xChain pLe pLe f g h)) (.Compare a [.LtE, .LtE] [b, c] pos) := qt_chain op_le op_le iB_ne iB_ne o_iB o_iB ha hb hc hm
theorem qt_lelt {a b c : Expr} {pos : Pos} {f g h : Ex} (ha : QE cl X W f a) (hb : QE cl X W g b) (hc : QE cl X W h c) (hm : lastMarks [CmpOp.LtE, CmpOp.Lt] [b, c] = false := by with_unfolding_all rfl) : QT cl X W (xT (xChain pLe pLt f g h)) (.Compare a [.LtE, .Lt] [b, c] pos) := qt_chain op_le op_lt iB_ne iB_ne o_iB o_iB ha hb hc hm
end
end Z
/-! the pure layer, part O: reckoning with pure meanings -/
namespace Z
open PySem L2
/-! ### the meanings, applied -/
@[simp] theorem a_xVar {i : Nat} {γ : Z.Env} : xVar i γ = (match γ[i]? with | some (.sl m x) => .ok (.pk m x) | some (.me m x) => .ok (.pk m x) | _ => .no) := (rfl)
@[simp] theorem a_x2 {p : PV → PV → R Vl} {f g : Ex} {γ : Z.Env} : x2 p f g γ = (f γ).bind fun l => (g γ).bind fun k => p l.x k.x := (rfl)
@[simp] theorem a_x1 {p : PV → R Vl} {f : Ex} {γ : Z.Env} : x1 p f γ = (f γ).bind fun l => p l.x := (rfl)
@[simp] theorem a_xC {x : PV} {γ : Z.Env} : xC x γ = .ok (.z x) := (rfl)
@[simp] theorem a_pb {p : PV → PV → R Bool} {x y : PV} : pb p x y = (p x y).map fun b => .z (.bl b) := (rfl)
@[simp] theorem a_pSub {i j : Int} : pSub (.int i) (.int j) = .ok (.z (.int (i - j))) := (rfl)
@[simp] theorem a_pMulI {i j : Int} : pMulI (.int i) (.int j) = if cMul i j then .ok (.z (.int (i * j))) else .no := by unfold pMulI i2; simp only []; split <;> rfl
@[simp] theorem a_pMod {i j : Int} : pMod (.int i) (.int j) = if decide (0 < j) then .ok (.z (.int (i % j))) else .no := by unfold pMod i2; simp only []; split <;> rfl
@[simp] theorem a_pDiv {i j : Int} : pDiv (.int i) (.int j) = if cDiv i j then .ok (.z (.int (i / j))) else .no := by unfold pDiv i2; simp only []; split <;> rfl
@[simp] theorem a_pPow {i j : Int} : pPow (.int i) (.int j) = if cPow i j then .ok (.z (.int (i ^ j.toNat))) else .no := by unfold pPow i2; simp only []; split <;> rfl
@[simp] theorem a_pShl {i j : Int} : pShl (.int i) (.int j) = if cPow i j then .ok (.z (.int (i * 2 ^ j.toNat))) else .no := by unfold pShl i2; simp only []; split <;> rfl
@[simp] theorem a_pShr {i j : Int} : pShr (.int i) (.int j) = if decide (0 ≤ j) then .ok (.z (.int (i / 2 ^ j.toNat))) else .no := by unfold pShr i2; simp only []; split <;> rfl
@[simp] theorem a_pAnd2 {i j : Int} : pAnd2 (.int i) (.int j) = .ok (.z (.int (Builtin.bitAnd i j))) := (rfl)
@[simp] theorem a_pAddI {i j : Int} : pAdd (.int i) (.int j) = .ok (.z (.int (i + j))) := (rfl)
@[simp] theorem a_pMul {i j : Int} : pMul (.int i) (.int j) = if cMul i j then .ok (.z (.int (i * j))) else .no := (rfl)
@[simp] theorem a_pAdd_lst {xs ys : List PV} : pAdd (.lst xs) (.lst ys) = if sm (xs.length + ys.length) then .ok (.fr .ow (.lst (xs ++ ys))) else .no := (rfl)
@[simp] theorem a_pAdd_tup {xs ys : List PV} : pAdd (.tup xs) (.tup ys) = if sm (xs.length + ys.length) then .ok (.z (.tup (xs ++ ys))) else .no := (rfl)
@[simp] theorem a_pNeg {i : Int} : pNeg (.int i) = .ok (.z (.int (-i))) := (rfl)
@[simp] theorem a_pLt {i j : Int} : pLt (.int i) (.int j) = .ok (decide (i < j)) := (rfl)
@[simp] theorem a_pLe {i j : Int} : pLe (.int i) (.int j) = .ok (decide (i ≤ j)) := (rfl)
@[simp] theorem a_pGt {i j : Int} : pGt (.int i) (.int j) = .ok (decide (j < i)) := (rfl)
@[simp] theorem a_pGe {i j : Int} : pGe (.int i) (.int j) = .ok (decide (j ≤ i)) := (rfl)
@[simp] theorem a_sSeq {g h : Z.Env → Os} {γ : Z.Env} : sSeq g h γ = (match g γ with | .nx γ' => h γ' | o => o) := (rfl)
@[simp] theorem a_sSet {i : Nat} {f : Ex} {γ : Z.Env} : sSet i f γ = (match f γ with | .ok l => stow i l γ | .er e => .er e γ | .no => .no) := (rfl)
@[simp] theorem a_stow_fr {i : Nat} {m : Md} {x : PV} {γ : Z.Env} : stow i (.fr m x) γ = .nx (γ.set i (.sl m x)) := (rfl)
@[simp] theorem a_stow_fz {i : Nat} {x : PV} {γ : Z.Env} : stow i (.pk .fz x) γ = .nx (γ.set i (.sl .fz x)) := (rfl)
@[simp] theorem a_sIf {t : Z.Env → R Bool} {g h : Z.Env → Os} {γ : Z.Env} : sIf t g h γ = (match t γ with | .ok b => if b then g γ else h γ | .er e => .er e γ | .no => .no) := (rfl)
@[simp] theorem a_sRet {f : Ex} {γ : Z.Env} : sRet f γ = (match f γ with | .ok l => .rt l.x (unE γ) | .er e => .er e γ | .no => .no) := (rfl)
@[simp] theorem a_sRetN {γ : Z.Env} : sRetN γ = .rt .non γ := (rfl)
@[simp] theorem a_sNx {γ : Z.Env} : sNx γ = .nx γ := (rfl)
@[simp] theorem a_aNil {γ : Z.Env} : aNil γ = .ok [] := (rfl)
@[simp] theorem a_aCons {f : Ex} {fs : Z.Env → R (List PV)} {γ : Z.Env} : aCons f fs γ = (f γ).bind fun l => (fs γ).bind fun xs => .ok (l.x :: xs) := (rfl)
@[simp] theorem a_zCons {f : Ex} {fs : Z.Env → R (List PV)} {γ : Z.Env} : zCons f fs γ = (f γ).bind fun l => l.keep.bind fun x => (fs γ).bind fun xs => .ok (x :: xs) := (rfl)
@[simp] theorem a_xB {p : List PV → R Vl} {fs : Z.Env → R (List PV)} {γ : Z.Env} : xB p fs γ = (fs γ).bind p := (rfl)
@[simp] theorem a_tAndF {t u : Z.Env → R Bool} {γ : Z.Env} : tAndF t u γ = (t γ).bind fun b => if b then u γ else .ok false := (rfl)
@[simp] theorem a_tOrF {t u : Z.Env → R Bool} {γ : Z.Env} : tOrF t u γ = (t γ).bind fun b => if b then .ok true else u γ := (rfl)
@[simp] theorem a_tNotF {t : Z.Env → R Bool} {γ : Z.Env} : tNotF t γ = (t γ).bind fun b => .ok (!b) := (rfl)
@[simp] theorem a_xT {f : Ex} {γ : Z.Env} : xT f γ = (f γ).bind fun l => pTru l.x := (rfl)
@[simp] theorem a_pTru_bl {b : Bool} : pTru (.bl b) = .ok b := (rfl)
@[simp] theorem a_pTru_lst {xs : List PV} : pTru (.lst xs) = .ok (!xs.isEmpty) := (rfl)
@[simp] theorem a_pTru_tup {xs : List PV} : pTru (.tup xs) = .ok (!xs.isEmpty) := (rfl)
@[simp] theorem a_pTru_int {i : Int} : pTru (.int i) = .ok (i != 0) := (rfl)
@[simp] theorem a_pTru_non : pTru .non = .ok false := (rfl)
@[simp] theorem a_xLst {fs : Z.Env → R (List PV)} {γ : Z.Env} : xLst fs γ = (fs γ).bind fun xs => if sm xs.length then .ok (.fr .ow (.lst xs)) else .no := (rfl)
@[simp] theorem a_xTup {fs : Z.Env → R (List PV)} {γ : Z.Env} : xTup fs γ = (fs γ).bind fun xs => if sm xs.length then .ok (.z (.tup xs)) else .no := (rfl)
@[simp] theorem a_sm {n : Nat} : sm n = decide (n ≤ 16777216) := (rfl)
@[simp] theorem a_outOf_rt {x : PV} {γ : Z.Env} : outOf (.rt x γ) = .ok x := (rfl)
@[simp] theorem a_outOf_nx {γ : Z.Env} : outOf (.nx γ) = .ok .non := (rfl)
@[simp] theorem a_xIsi {n : String} {f : Ex} {γ : Z.Env} : xIsi n f γ = (f γ).bind fun l => .ok (.z (.bl (!isObj' l.x && isTy n (tyN l.x)))) := (rfl)
@[simp] theorem a_xNot {f : Ex} {γ : Z.Env} : xNot f γ = (f γ).bind fun l => (pTru l.x).bind fun b => .ok (.z (.bl (!b))) := (rfl)
@[simp] theorem a_xAnd {f g : Ex} {γ : Z.Env} : xAnd f g γ = (f γ).bind fun l => (pTru l.x).bind fun b => if b then g γ else .ok l := (rfl)
@[simp] theorem a_xOr {f g : Ex} {γ : Z.Env} : xOr f g γ = (f γ).bind fun l => (pTru l.x).bind fun b => if b then .ok l else g γ := (rfl)
@[simp] theorem a_xIf {t : Z.Env → R Bool} {f g : Ex} {γ : Z.Env} : xIf t f g γ = (t γ).bind fun b => if b then f γ else g γ := (rfl)
@[simp] theorem a_xCall0 {g : List PV → R PV} {fs : Z.Env → R (List PV)} {γ : Z.Env} : xCall0 g fs γ = (fs γ).bind fun xs => ((g xs).noer).map .z := (rfl)
@[simp] theorem a_xChain {p p' : PV → PV → R Bool} {f g h : Ex} {γ : Z.Env} : xChain p p' f g h γ = (f γ).bind fun l => (g γ).bind fun k => (p l.x k.x).bind fun b => if b then (h γ).bind fun j => pb p' k.x j.x else .ok (.z (.bl false)) := (rfl)
@[simp] theorem a_xIsN {f : Ex} {γ : Z.Env} : xIsN f γ = (f γ).bind fun l => .ok (.z (.bl (isNon l.x))) := (rfl)
@[simp] theorem a_xNotN {f : Ex} {γ : Z.Env} : xNotN f γ = (f γ).bind fun l => .ok (.z (.bl (!isNon l.x))) := (rfl)
@[simp] theorem a_iSeq {f : Ex} {γ : Z.Env} : iSeq f γ = (f γ).bind Vl.items := (rfl)
@[simp] theorem a_items_tup {xs : List PV} {m : Md} : (Vl.fr m (.tup xs)).items = .ok xs := (rfl)
@[simp] theorem a_items_lst {xs : List PV} {m : Md} : (Vl.fr m (.lst xs)).items = .ok xs := (rfl)
@[simp] theorem a_items_ptup {xs : List PV} : (Vl.pk .fz (.tup xs)).items = .ok xs := (rfl)
@[simp] theorem a_items_plst {xs : List PV} : (Vl.pk .fz (.lst xs)).items = .ok xs := (rfl)
@[simp] theorem a_xSl {f : Ex} {lo hi : Z.Env → R (Option Int)} {γ : Z.Env} : xSl f lo hi γ = (f γ).bind fun l => (lo γ).bind fun a => (hi γ).bind fun b => pSl l.x a b := (rfl)
@[simp] theorem a_xP {f : Ex} {γ : Z.Env} : xP f γ = (f γ).bind fun l => pPart l.x := (rfl)
@[simp] theorem a_xNoP {γ : Z.Env} : xNoP γ = .ok none := (rfl)
@[simp] theorem a_pPart {i : Int} : pPart (.int i) = .ok (some i) := (rfl)
@[simp] theorem a_pSl_lst {xs : List PV} {a b : Option Int} : pSl (.lst xs) a b = .ok (.fr .ow (.lst (pcut xs a b))) := (rfl)
@[simp] theorem a_pSl_tup {xs : List PV} {a b : Option Int} : pSl (.tup xs) a b = .ok (.z (.tup (pcut xs a b))) := (rfl)
@[simp] theorem a_sTg {f : Ex} {g : Tg} {γ : Z.Env} : sTg f g γ = (match f γ with | .ok l => (match l.keep with | .ok x => (match g x γ with | some γ' => .nx γ' | none => .no) | _ => .no) | .er e => .er e γ | .no => .no) := (rfl)
@[simp] theorem a_tgN {i : Nat} {x : PV} {γ : Z.Env} : tgN i x γ = some (γ.set i (.sl .fz x)) := (rfl)
@[simp] theorem a_tgT {gs : Tgs} {xs : List PV} {γ : Z.Env} : tgT gs (.tup xs) γ = gs xs γ := (rfl)
@[simp] theorem a_tgCons {g : Tg} {gs : Tgs} {x : PV} {r : List PV} {γ : Z.Env} : tgCons g gs (x :: r) γ = (g x γ).bind fun γ' => gs r γ' := (rfl)
@[simp] theorem a_tgNil {γ : Z.Env} : tgNil [] γ = some γ := (rfl)
@[simp] theorem a_tYesF {γ : Z.Env} : tYesF γ = .ok true := (rfl)
@[simp] theorem a_xDct {t : Bool} {γ : Z.Env} : xDct t γ = .ok (.fr .ow (.dct t [])) := (rfl)
@[simp] theorem a_pLen_lst {xs : List PV} : pLen [.lst xs] = .ok (.z (.int xs.length)) := (rfl)
@[simp] theorem a_pLen_tup {xs : List PV} : pLen [.tup xs] = .ok (.z (.int xs.length)) := (rfl)
@[simp] theorem a_map_ok' {α β : Type} {f : α → β} {a : α} : (R.ok a).map f = .ok (f a) := (rfl)
@[simp] theorem a_lcT {tg : Tg} {c : Z.Env → R Bool} {f : Ex} {γ : Z.Env} {x : PV} : lcT tg c f γ x = (match tg x γ with | none => .no | some γ1 => (c γ1).bind fun b => if b then (f γ1).bind fun l => l.keep.bind fun y => .ok (some y) else .ok none) := (rfl)
@[simp] theorem u_unE {γ : Z.Env} : unE γ = γ.map fun _ => .un := (rfl)
@[simp] theorem u_pMax2 {i j : Int} : pMax2 [.int i, .int j] = .ok (.z (.int (if j > i then j else i))) := (rfl)
@[simp] theorem u_pMin2 {i j : Int} : pMin2 [.int i, .int j] = .ok (.z (.int (if j < i then j else i))) := (rfl)
@[simp] theorem u_iRng {fs : Z.Env → R (List PV)} {γ : Z.Env} : iRng fs γ = (fs γ).bind pRng := (rfl)
@[simp] theorem u_cPow {i j : Int} : cPow i j = (decide (0 ≤ j) && decide (j ≤ 1000000) && decide (i.natAbs < 2 ^ 64)) := (rfl)
@[simp] theorem u_cMul {i j : Int} : cMul i j = ((decide (-(2 ^ 64) < i) && decide (i < 2 ^ 64)) || (decide (-(2 ^ 64) < j) && decide (j < 2 ^ 64))) := (rfl)
@[simp] theorem u_cDiv {i j : Int} : cDiv i j = (decide (0 < j) && decide (j.natAbs.log2 < 9000)) := (rfl)
@[simp] theorem u_sApp {i : Nat} {fs : Z.Env → R (List PV)} {γ : Z.Env} : sApp i fs γ = (match γ[i]? with
  | some (.sl .ow (.lst xs)) => match fs γ with
    | .no => .no
    | .er e => .er e γ
    | .ok ys => toO γ i (appL xs ys)
  | _ => .no) := rfl
@[simp] theorem u_appL {xs : List PV} {y : PV} : appL xs [y] = if sm (xs.length + 1) then some (.lst (xs ++ [y])) else none := (rfl)
@[simp] theorem u_toO_some {γ : Z.Env} {i : Nat} {x : PV} : toO γ i (some x) = .nx (γ.set i (.sl .ow x)) := (rfl)
@[simp] theorem u_pIx_lst {xs : List PV} {i : Int} : pIx (.lst xs) (.int i) = (match L2.atI xs i with | some v => .ok (.z v) | none => .no) := (rfl)
@[simp] theorem u_pIx_tup {xs : List PV} {i : Int} : pIx (.tup xs) (.int i) = (match L2.atI xs i with | some v => .ok (.z v) | none => .no) := (rfl)
@[simp] theorem u_run {np nl : Nat} {b : Z.Env → Os} {xs : List PV} : Z.run np nl b xs = if xs.length = np then outOf (b (frame nl xs)) else .no := (rfl)
@[simp] theorem u_frame {nl : Nat} {xs : List PV} : frame nl xs = xs.map (.sl .fz) ++ List.replicate (nl - xs.length) .un := (rfl)
@[simp] theorem u_isTy {n t : String} : isTy n t = (t == n || (n == "int" && t == "bool")) := (rfl)
@[simp] theorem u_tyN_non  : tyN (.non) = "NoneType" := (rfl)
@[simp] theorem u_isO_non  : isObj' (.non) = false := (rfl)
@[simp] theorem u_tyN_bl {b : Bool} : tyN (.bl b) = "bool" := (rfl)
@[simp] theorem u_isO_bl {b : Bool} : isObj' (.bl b) = false := (rfl)
@[simp] theorem u_tyN_int {b : Int} : tyN (.int b) = "int" := (rfl)
@[simp] theorem u_isO_int {b : Int} : isObj' (.int b) = false := (rfl)
@[simp] theorem u_tyN_str {b : Str} : tyN (.str b) = "str" := (rfl)
@[simp] theorem u_isO_str {b : Str} : isObj' (.str b) = false := (rfl)
@[simp] theorem u_tyN_tup {b : List PV} : tyN (.tup b) = "tuple" := (rfl)
@[simp] theorem u_isO_tup {b : List PV} : isObj' (.tup b) = false := (rfl)
@[simp] theorem u_tyN_lst {b : List PV} : tyN (.lst b) = "list" := (rfl)
@[simp] theorem u_isO_lst {b : List PV} : isObj' (.lst b) = false := (rfl)
@[simp] theorem u_tyN_dct {t : Bool} {b : List (PV × PV)} : tyN (.dct t b) = "dict" := (rfl)
@[simp] theorem u_isO_dct {t : Bool} {b : List (PV × PV)} : isObj' (.dct t b) = false := (rfl)
@[simp] theorem u_tyN_set {b : List PV} : tyN (.set b) = "set" := (rfl)
@[simp] theorem u_isO_set {b : List PV} : isObj' (.set b) = false := (rfl)
@[simp] theorem u_tyN_obj {c : String} {b : List (String × PV)} : tyN (.obj c b) = c := (rfl)
@[simp] theorem u_tyN_exc {c : String} {b : List (String × PV)} : tyN (.exc c b) = c := (rfl)
@[simp] theorem u_isO_exc {c : String} {b : List (String × PV)} : isObj' (.exc c b) = true := (rfl)
@[simp] theorem u_isO_obj {t : String} {b : List (String × PV)} : isObj' (.obj t b) = true := (rfl)
/-! ### loops -/
theorem forL_inv {tg : Tg} {body : Z.Env → Os} (Inv : Nat → Z.Env → Prop) : ∀ (items : List PV) (n : Nat) (γ : Z.Env), Inv n γ →
    (∀ i x γ, items[i]? = some x → Inv (n + i) γ → ∃ γ1 γ', tg x γ = some γ1 ∧ (body γ1 = .nx γ' ∨ body γ1 = .ct γ') ∧ Inv (n + i + 1) γ') →
    ∃ γ', forL tg body items γ = .nx γ' ∧ Inv (n + items.length) γ'
  | [], n, γ, h, _ => ⟨γ, rfl, h⟩
  | x :: xs, n, γ, h, k => by
    obtain ⟨γ1, γ', e1, e2, h2⟩ := k 0 x γ rfl h
    obtain ⟨γ2, e3, h3⟩ := forL_inv Inv xs (n + 1) γ' h2 (fun i y γ hy hi => by
      obtain ⟨a, b, c, d, e⟩ := k (i + 1) y γ (by simpa using hy) (by rw [show n + (i + 1) = n + 1 + i by omega]; exact hi)
      exact ⟨a, b, c, d, by rw [show n + 1 + i + 1 = n + (i + 1) + 1 by omega]; exact e⟩)
    refine ⟨γ2, ?_, by rw [List.length_cons, show n + (xs.length + 1) = n + 1 + xs.length by omega]; exact h3⟩
    unfold forL
    rw [e1]
    rcases e2 with e2 | e2 <;> simp only [e2] <;> exact e3
/-- a loop that may end by a return -/
theorem forL_ret {tg : Tg} {body : Z.Env → Os} (Inv : Nat → Z.Env → Prop) (Stop : Nat → Os → Prop) : ∀ (items : List PV) (n : Nat) (γ : Z.Env), Inv n γ →
    (∀ i x γ, items[i]? = some x → Inv (n + i) γ → ∃ γ1, tg x γ = some γ1 ∧ ((∃ γ', (body γ1 = .nx γ' ∨ body γ1 = .ct γ') ∧ Inv (n + i + 1) γ') ∨ ∃ y γ', body γ1 = .rt y γ' ∧ Stop (n + i) (.rt y γ'))) →
    (∃ γ', forL tg body items γ = .nx γ' ∧ Inv (n + items.length) γ') ∨ ∃ i y γ', i < items.length ∧ forL tg body items γ = .rt y γ' ∧ Stop (n + i) (.rt y γ')
  | [], n, γ, h, _ => .inl ⟨γ, rfl, h⟩
  | x :: xs, n, γ, h, k => by
    obtain ⟨γ1, e1, h1⟩ := k 0 x γ rfl h
    rcases h1 with ⟨γ', e2, h2⟩ | ⟨y, γ', e2, h2⟩
    · have e4 : forL tg body (x :: xs) γ = forL tg body xs γ' := by
        rw [forL, e1]
        rcases e2 with e2 | e2 <;> simp only [e2]
      rw [e4]
      rcases forL_ret Inv Stop xs (n + 1) γ' h2 (fun i y γ hy hi => by
        obtain ⟨a, b, c⟩ := k (i + 1) y γ (by simpa using hy) (by rw [show n + (i + 1) = n + 1 + i by omega]; exact hi)
        rw [show n + (i + 1) = n + 1 + i by omega] at c
        exact ⟨a, b, c⟩) with ⟨γ2, e3, h3⟩ | ⟨i, y, γ2, hi, e3, h3⟩
      · exact .inl ⟨γ2, e3, by rw [List.length_cons, show n + (xs.length + 1) = n + 1 + xs.length by omega]; exact h3⟩
      · exact .inr ⟨i + 1, y, γ2, by simp; omega, e3, by rw [show n + (i + 1) = n + 1 + i by omega]; exact h3⟩
    · exact .inr ⟨0, y, γ', by simp, by rw [forL, e1]; simp only [e2], h2⟩
theorem atI_nat {α : Type} {xs : List α} {i : Nat} (h : i < xs.length) : atI xs (i : Int) = xs[i]? := by
  unfold L2.atI ixN
  rw [if_pos (by omega), if_pos (by omega)]
  simp
theorem rngL_get {lo : Int} {n i : Nat} {x : PV} (h : (rngL lo n)[i]? = some x) : i < n ∧ x = .int (lo + i) := by
  simp only [rngL, List.getElem?_map] at h
  cases e : (List.range n)[i]? with
  | none => rw [e] at h; cases h
  | some k =>
    rw [e] at h
    obtain ⟨h1, h2⟩ := List.getElem?_eq_some_iff.mp e
    simp at h1 h2 h
    subst h2
    exact ⟨h1, h.symm⟩
theorem rngL_get0 {n i : Nat} {x : PV} (h : (rngL 0 n)[i]? = some x) : i < n ∧ x = .int i := by simpa using rngL_get h
@[simp] theorem rngL_len {lo : Int} {n : Nat} : (rngL lo n).length = n := by simp [rngL]
/-- bounds, place by place -/
def Below : List Int → List Int → Prop
  | [], [] => True
  | d :: ds, z :: zs => (0 ≤ d ∧ d < z) ∧ Below ds zs
  | _, _ => False
theorem Below.append : ∀ {ds zs es ys}, Below ds zs → Below es ys → Below (ds ++ es) (zs ++ ys)
  | [], [], _, _, _, h => h
  | _ :: _, _ :: _, _, _, h, k => ⟨h.1, Below.append h.2 k⟩
  | [], _ :: _, _, _, h, _ => h.elim
  | _ :: _, [], _, _, h, _ => h.elim
theorem Below.length : ∀ {ds zs}, Below ds zs → ds.length = zs.length
  | [], [], _ => rfl
  | _ :: _, _ :: _, h => by simp [Below.length h.2]
  | [], _ :: _, h => h.elim
  | _ :: _, [], h => h.elim
theorem cRng_nat {n : Nat} (h : n ≤ 1000000000) : cRng (n : Int) = true := by
  unfold cRng
  have h1 : -(2 ^ 62 : Int) ≤ (n : Int) := by omega
  have h2 : (n : Int) < 2 ^ 62 := by omega
  rw [decide_eq_true h1, decide_eq_true h2]; rfl
theorem pRng_nat {n : Nat} (h : n ≤ 1000000000) : pRng [.int (n : Int)] = .ok (rngL 0 n) := by
  show (if cRng (n : Int) = true then R.ok (rngL 0 (n : Int).toNat) else R.no) = _
  rw [if_pos (cRng_nat h)]; simp
theorem run_of {np nl : Nat} {b : Z.Env → Os} {xs : List PV} (h : xs.length = np) : run np nl b xs = outOf (b (frame nl xs)) := by unfold run; rw [if_pos h]
theorem sFor_ok {it : Z.Env → R (List PV)} {tg : Tg} {body : Z.Env → Os} {γ : Z.Env} {items : List PV} {o : Os} (h : it γ = .ok items) (h2 : forL tg body items γ = o) : sFor it tg body γ = o := by unfold sFor; rw [h]; exact h2
theorem iRng_ok {fs : Z.Env → R (List PV)} {γ : Z.Env} {xs items : List PV} (h : fs γ = .ok xs) (h2 : pRng xs = .ok items) : iRng fs γ = .ok items := by unfold iRng; rw [h]; exact h2
theorem sSeq_nx {g h : Z.Env → Os} {γ γ' : Z.Env} (e : g γ = .nx γ') : sSeq g h γ = h γ' := by unfold sSeq; rw [e]
def num_body : Z.Env → Os := sIf (tAndF (xT (x2 (pb pGe) (xVar 3) (x2 pPow (xC (.int 10)) (xC (.int 18))))) (xT (x2 (pb pGt) (xVar 4) (xC (.int 0))))) (sSeq (sApp 5 (zCons (x2 pMod (xVar 4) (x2 pIx (xVar 2) (xVar 6))) (aNil))) (sSet 4 (x2 pDiv (xVar 4) (x2 pIx (xVar 2) (xVar 6))))) (sSeq (sSet 7 (x2 pMod (x2 pPow (x2 pAdd (x2 pAdd (x2 pMod (xVar 3) (xC (.int 2147483629))) (x2 pMul (xC (.int 7919)) (xVar 1))) (xC (.int 1))) (xC (.int 3))) (xC (.int 2147483647)))) (sSeq (sSet 7 (x2 pMod (x2 pMul (x2 pAdd (xVar 7) (x2 pMul (xC (.int 104729)) (x2 pAdd (xVar 6) (xC (.int 1))))) (x2 pAdd (xVar 6) (xC (.int 3)))) (xC (.int 2147483629)))) (sSeq (sSet 7 (x2 pMod (x2 pMul (x2 pMod (x2 pPow (xVar 7) (xC (.int 5))) (xC (.int 2147483647))) (xC (.int 48271))) (xC (.int 2147483629)))) (sApp 5 (zCons (x2 pMod (x2 pDiv (xVar 7) (xC (.int 16))) (x2 pIx (xVar 2) (xVar 6))) (aNil))))))

theorem num_step {c s N L : Int} {zs ds : List Int} {i : Nat} {z : Int} {w : Sl} (hs : -(2 ^ 40) < s ∧ s < 2 ^ 40) (hN : 0 ≤ N) (hL : 0 ≤ L) (hz : zs[i]? = some z) (hz1 : 0 < z ∧ z < 2 ^ 40) (hi : i < 1000) (hl : ds.length ≤ 1000) :
    ∃ L' d w', num_body [.sl .fz (.int c), .sl .fz (.int s), .sl .fz (.lst (zs.map .int)), .sl .fz (.int N), .sl .fz (.int L), .sl .ow (.lst (ds.map .int)), .sl .fz (.int i), w] =
      .nx [.sl .fz (.int c), .sl .fz (.int s), .sl .fz (.lst (zs.map .int)), .sl .fz (.int N), .sl .fz (.int L'), .sl .ow (.lst ((ds ++ [d]).map .int)), .sl .fz (.int i), w'] ∧ 0 ≤ L' ∧ 0 ≤ d ∧ d < z := by
  have hlt : i < zs.length := (List.getElem?_eq_some_iff.mp hz).1
  have hat : L2.atI (zs.map PV.int) (i : Int) = some (.int z) := by
    rw [atI_nat (by simpa using hlt), List.getElem?_map, hz]; rfl
  have hlg : z.natAbs.log2 < 9000 := by
    have h1 : z.natAbs < 2 ^ 40 := by omega
    have h2 : z.natAbs ≠ 0 := by omega
    have := (Nat.log2_lt h2).mpr h1
    omega
  have hlen : ds.length + 1 ≤ 16777216 := by omega
  have m1 : ∀ a b : Int, 0 < b → 0 ≤ a % b ∧ a % b < b := fun a b h => ⟨Int.emod_nonneg _ (by omega), Int.emod_lt_of_pos _ h⟩
  by_cases hc : (1000000000000000000 : Int) ≤ N ∧ 0 < L
  · refine ⟨L / z, L % z, w, ?_, Int.ediv_nonneg hL (by omega), (m1 L z hz1.1).1, (m1 L z hz1.1).2⟩
    unfold num_body
    simp [hat, hc.1, hc.2, hz1.1, hlg, hlen]
  · have hA : (N % 2147483629 + 7919 * s + 1).natAbs < 18446744073709551616 := by
      have := m1 N 2147483629 (by decide)
      omega
    have hB := m1 ((N % 2147483629 + 7919 * s + 1) ^ 3) 2147483647 (by decide)
    generalize hb : (N % 2147483629 + 7919 * s + 1) ^ 3 % 2147483647 = b at hB
    have hC := m1 ((b + 104729 * ((i : Int) + 1)) * ((i : Int) + 3)) 2147483629 (by decide)
    generalize hcc : (b + 104729 * ((i : Int) + 1)) * ((i : Int) + 3) % 2147483629 = e at hC
    refine ⟨L, e ^ 5 % 2147483647 * 48271 % 2147483629 / 16 % z, .sl .fz (.int (e ^ 5 % 2147483647 * 48271 % 2147483629)), ?_, hL, (m1 _ z hz1.1).1, (m1 _ z hz1.1).2⟩
    have hE : e.natAbs < 18446744073709551616 := by omega
    have hI : (i : Int) + 3 < 18446744073709551616 := by omega
    have hI' : -18446744073709551616 < (i : Int) + 3 := by omega
    have ht : (xT (x2 (pb pGe) (xVar 3) (x2 pPow (xC (.int 10)) (xC (.int 18)))) [.sl .fz (.int c), .sl .fz (.int s), .sl .fz (.lst (zs.map .int)), .sl .fz (.int N), .sl .fz (.int L), .sl .ow (.lst (ds.map .int)), .sl .fz (.int i), w]) = .ok (decide ((1000000000000000000 : Int) ≤ N)) := by simp
    have h16 : Nat.log2 16 < 9000 := by decide +kernel
    unfold num_body
    by_cases h1 : (1000000000000000000 : Int) ≤ N
    · have h2 : ¬ 0 < L := fun h => hc ⟨h1, h⟩
      simp [hat, h1, h2, hA, hb, hcc, hE, hI, hI', hz1.1, hlg, hlen, h16]
    · simp [hat, h1, hA, hb, hcc, hE, hI, hI', hz1.1, hlg, hlen, h16]

def num_main : Z.Env → Os := sSeq (sSet 3 (xB pMax2 (aCons (xVar 0) (aCons (x2 pSub (x1 pNeg (xC (.int 1))) (xVar 0)) (aNil))))) (sSeq (sSet 4 (xVar 3)) (sSeq (sSet 5 (xLst (aNil))) (sSeq (sFor (iRng (aCons (xB pLen (aCons (xVar 2) (aNil))) (aNil))) (tgN 6) num_body) (sRet (xVar 5)))))
def numF : List PV → R PV := run 3 8 num_main
theorem Below.take_succ {ds zs : List Int} {i : Nat} {d z : Int} (h : Below ds (zs.take i)) (hz : zs[i]? = some z) (hd : 0 ≤ d ∧ d < z) : Below (ds ++ [d]) (zs.take (i + 1)) := by
  rw [List.take_add_one, hz]
  exact h.append ⟨hd, trivial⟩
theorem nums_loop {c s N : Int} {zs : List Int} (hs : -(2 ^ 40) < s ∧ s < 2 ^ 40) (hN : 0 ≤ N) (hz : ∀ z ∈ zs, 0 < z ∧ z < 2 ^ 40) (hl : zs.length ≤ 1000) :
    ∃ w w' L' ds, forL (tgN 6) num_body (rngL 0 zs.length) [.sl .fz (.int c), .sl .fz (.int s), .sl .fz (.lst (zs.map .int)), .sl .fz (.int N), .sl .fz (.int N), .sl .ow (.lst []), .un, .un] = .nx [.sl .fz (.int c), .sl .fz (.int s), .sl .fz (.lst (zs.map .int)), .sl .fz (.int N), .sl .fz (.int L'), .sl .ow (.lst (List.map PV.int ds)), w, w'] ∧ Below ds zs := by
  obtain ⟨γ', e1, w, w', L', ds, e2, hL', hB⟩ := forL_inv (tg := tgN 6) (body := num_body) (fun k γ => ∃ w6 w7 L ds, γ = [.sl .fz (.int c), .sl .fz (.int s), .sl .fz (.lst (zs.map .int)), .sl .fz (.int N), .sl .fz (.int L), .sl .ow (.lst (List.map PV.int ds)), w6, w7] ∧ 0 ≤ L ∧ Below ds (zs.take k))
    (rngL 0 zs.length) 0 [.sl .fz (.int c), .sl .fz (.int s), .sl .fz (.lst (zs.map .int)), .sl .fz (.int N), .sl .fz (.int N), .sl .ow (.lst []), .un, .un] ⟨.un, .un, N, [], rfl, hN, by simp [Below]⟩ (by
      rintro i x γ hx ⟨w6, w7, L, ds, rfl, hL, hB⟩
      rw [Nat.zero_add] at hB ⊢
      obtain ⟨hi, rfl⟩ := rngL_get0 hx
      have hz' := List.getElem?_eq_getElem hi
      have hdl : ds.length ≤ 1000 := by rw [hB.length]; simp; omega
      obtain ⟨L', d, w', e, h1, h2, h3⟩ := num_step (c := c) (s := s) (N := N) (w := w7) hs hN hL hz' (hz _ (List.getElem_mem hi)) (by omega) hdl
      refine ⟨_, _, rfl, .inl e, .sl .fz (.int i), w', L', ds ++ [d], rfl, h1, hB.take_succ hz' ⟨h2, h3⟩⟩
      )
  have hB : Below ds zs := by simpa using hB
  subst e2
  exact ⟨w, w', L', ds, e1, hB⟩
theorem nums_ok (c s : Int) (zs : List Int) (hs : -(2 ^ 40) < s ∧ s < 2 ^ 40) (hz : ∀ z ∈ zs, 0 < z ∧ z < 2 ^ 40) (hl : zs.length ≤ 1000) : ∃ ds : List Int, numF [.int c, .int s, .lst (zs.map .int)] = .ok (.lst (ds.map .int)) ∧ Below ds zs := by
  have hN : 0 ≤ (if -1 - c > c then -1 - c else c) := by split <;> omega
  generalize hNN : (if -1 - c > c then -1 - c else c) = N at hN
  obtain ⟨w, w', L', ds, e1, hB⟩ := nums_loop (c := c) hs hN hz hl
  refine ⟨ds, ?_, hB⟩
  have hr : pRng [.int (zs.length : Int)] = .ok (rngL 0 zs.length) := pRng_nat (by omega)
  have s1 : sSet 3 (xB pMax2 (aCons (xVar 0) (aCons (x2 pSub (x1 pNeg (xC (.int 1))) (xVar 0)) (aNil)))) (frame 8 [.int c, .int s, .lst (zs.map .int)]) = .nx [.sl .fz (.int c), .sl .fz (.int s), .sl .fz (.lst (zs.map .int)), .sl .fz (.int N), .un, .un, .un, .un] := by
    rw [← hNN]; rfl
  unfold numF num_main
  refine (run_of rfl).trans ?_
  rw [sSeq_nx s1]
  rw [sSeq_nx (g := sSet 4 (xVar 3)) (γ' := [.sl .fz (.int c), .sl .fz (.int s), .sl .fz (.lst (zs.map .int)), .sl .fz (.int N), .sl .fz (.int N), .un, .un, .un]) rfl]
  rw [sSeq_nx (g := sSet 5 (xLst aNil)) (γ' := [.sl .fz (.int c), .sl .fz (.int s), .sl .fz (.lst (zs.map .int)), .sl .fz (.int N), .sl .fz (.int N), .sl .ow (.lst []), .un, .un]) rfl]
  rw [sSeq_nx (γ' := [.sl .fz (.int c), .sl .fz (.int s), .sl .fz (.lst (zs.map .int)), .sl .fz (.int N), .sl .fz (.int L'), .sl .ow (.lst (List.map PV.int ds)), w, w']) ?_]
  · rfl
  · exact sFor_ok (iRng_ok (xs := [.int (zs.length : Int)]) (by simp) hr) e1
end Z
/-! the pure layer, part P: whole numbers, sets, as the programs ask for them -/
namespace Z
open PySem L2
theorem pcut_from {xs : List PV} {k : Nat} : pcut xs (some (k : Int)) none = xs.drop k := by
  unfold pcut
  rw [HT.sIx_nat, HT.sIx_none]
  rw [List.take_of_length_le (by rw [List.length_drop]; omega)]
  by_cases h : k ≤ xs.length
  · rw [Nat.min_eq_left h]
  · rw [Nat.min_eq_right (by omega), List.drop_length, List.drop_of_length_le (by omega)]
theorem pcut_to {xs : List PV} {k : Nat} : pcut xs none (some (k : Int)) = xs.take k := by
  unfold pcut
  rw [HT.sIx_nat, HT.sIx_none, List.drop_zero, Nat.sub_zero]
  by_cases h : k ≤ xs.length
  · rw [Nat.min_eq_left h]
  · rw [Nat.min_eq_right (by omega), List.take_length, List.take_of_length_le (by omega)]
theorem pcut_mid {xs : List PV} {k n : Nat} : pcut xs (some (k : Int)) (some ((k + n : Nat) : Int)) = (xs.drop k).take n := by
  unfold pcut
  rw [HT.sIx_nat, HT.sIx_nat]
  by_cases h : k ≤ xs.length
  · rw [Nat.min_eq_left h]
    by_cases h2 : k + n ≤ xs.length
    · rw [Nat.min_eq_left h2, Nat.add_sub_cancel_left]
    · rw [Nat.min_eq_right (by omega), List.take_of_length_le (by rw [List.length_drop]; omega), List.take_of_length_le (by rw [List.length_drop]; omega)]
  · rw [Nat.min_eq_right (by omega), Nat.min_eq_right (by omega), List.drop_length, List.drop_of_length_le (by omega)]; simp
/-- a comprehension whose every turn answers -/
theorem lcL_map {tg : Tg} {c : Z.Env → R Bool} {f : Ex} {γ : Z.Env} (g : PV → PV) : ∀ {items : List PV}, (∀ x ∈ items, lcT tg c f γ x = .ok (some (g x))) → lcL tg c f γ items = .ok (items.map g)
  | [], _ => rfl
  | x :: xs, h => by
    unfold lcL
    rw [h x List.mem_cons_self, lcL_map g fun y hy => h y (List.mem_cons_of_mem _ hy)]
    rfl
theorem xLc_map {it : Z.Env → R (List PV)} {tg : Tg} {c : Z.Env → R Bool} {f : Ex} {vs : List Nat} {γ : Z.Env} {items : List PV} (g : PV → PV) (hi : it γ = .ok items) (hs : items.length ≤ 16777216) (h : ∀ x ∈ items, lcT tg c f (wipeE γ vs) x = .ok (some (g x))) :
    xLc it tg c f vs γ = .ok (.fr .ow (.lst (items.map g))) := by
  unfold xLc
  rw [hi, R.bind_ok, if_pos (by unfold sm; exact decide_eq_true hs), lcL_map g h]
/-- a comprehension with a test -/
theorem lcL_filt {tg : Tg} {c : Z.Env → R Bool} {f : Ex} {γ : Z.Env} (g : PV → Option PV) : ∀ {items : List PV}, (∀ x ∈ items, lcT tg c f γ x = .ok (g x)) → lcL tg c f γ items = .ok (items.filterMap g)
  | [], _ => rfl
  | x :: xs, h => by
    unfold lcL
    rw [h x List.mem_cons_self, lcL_filt g fun y hy => h y (List.mem_cons_of_mem _ hy), List.filterMap_cons]
    cases g x <;> rfl
theorem xLc_filt {it : Z.Env → R (List PV)} {tg : Tg} {c : Z.Env → R Bool} {f : Ex} {vs : List Nat} {γ : Z.Env} {items : List PV} (g : PV → Option PV) (hi : it γ = .ok items) (hs : items.length ≤ 16777216) (h : ∀ x ∈ items, lcT tg c f (wipeE γ vs) x = .ok (g x)) :
    xLc it tg c f vs γ = .ok (.fr .ow (.lst (items.filterMap g))) := by
  unfold xLc
  rw [hi, R.bind_ok, if_pos (by unfold sm; exact decide_eq_true hs), lcL_filt g h]
/-! is_whole -/
def wholeF : List PV → R PV := run 1 1 (sRet (xAnd (xIsi "int" (xVar 0)) (xNot (xIsi "bool" (xVar 0)))))
def isI : PV → Bool
  | .int _ => true
  | _ => false
theorem whole_ok (x : PV) : wholeF [x] = .ok (.bl (isI x)) := by
  unfold wholeF
  cases x <;> simp [isI]
/-! is_within -/
def withinF : List PV → R PV := run 3 3 (sRet (xAnd (xCall0 wholeF (zCons (xVar 0) (aNil))) (xChain pLe pLe (xVar 1) (xVar 0) (xVar 2))))
def isW (a b : Int) : PV → Bool
  | .int i => decide (a ≤ i) && decide (i ≤ b)
  | _ => false
theorem within_ok (x : PV) (a b : Int) : withinF [x, .int a, .int b] = .ok (.bl (isW a b x)) := by
  unfold withinF
  cases x <;> simp [isW, whole_ok, isI]
  rename_i i
  by_cases h : a ≤ i <;> simp [h]
/-! is_rising -/
def risingF : List PV → R PV := run 1 3 (sRet (xB pAll (aCons (xLc (iZp (zCons (xVar 0) (zCons (xSl (xVar 0) (xP (xC (.int 1))) (xNoP)) (aNil)))) (tgT (tgCons (tgN 1) (tgCons (tgN 2) (tgNil)))) (tYesF) (x2 (pb pLt) (xVar 1) (xVar 2)) [1, 2]) (aNil))))
def ris : List Int → Bool
  | [] => true
  | [_] => true
  | x :: y :: r => decide (x < y) && ris (y :: r)
def ltP : PV → PV
  | .tup [.int i, .int j] => .bl (decide (i < j))
  | x => x
def ltB : List Int → List Bool
  | x :: y :: r => decide (x < y) :: ltB (y :: r)
  | _ => []
theorem zip_ris : ∀ ns : List Int, (zipL (ns.map .int) ((ns.map PV.int).drop 1)).map ltP = (ltB ns).map PV.bl
  | [] => rfl
  | [x] => rfl
  | x :: y :: r => by
    have ih := zip_ris (y :: r)
    simp only [List.map_cons, List.drop_succ_cons, List.drop_zero, zipL, ltB] at ih ⊢
    rw [ih]; rfl
theorem ltB_all : ∀ ns : List Int, (ltB ns).all id = ris ns
  | [] => rfl
  | [x] => rfl
  | x :: y :: r => by
    have ih := ltB_all (y :: r)
    simp only [ltB, List.all_cons, ris, ih, id]
theorem rising_ok (ns : List Int) (h : ns.length ≤ 16777216) : risingF [.tup (ns.map .int)] = .ok (.bl (ris ns)) := by
  have e : xLc (iZp (zCons (xVar 0) (zCons (xSl (xVar 0) (xP (xC (.int 1))) (xNoP)) (aNil)))) (tgT (tgCons (tgN 1) (tgCons (tgN 2) (tgNil)))) (tYesF) (x2 (pb pLt) (xVar 1) (xVar 2)) [1, 2] [.sl .fz (.tup (ns.map .int)), .un, .un] = .ok (.fr .ow (.lst ((zipL (ns.map .int) ((ns.map PV.int).drop 1)).map ltP))) := by
    refine xLc_map ltP ?_ (by rw [zipL_length]; simp; omega) fun x hx => ?_
    · have h1 : pcut (ns.map PV.int) (some 1) none = (ns.map PV.int).drop 1 := pcut_from (k := 1)
      simp [iZp, pZip, h1]
    · obtain ⟨i, hi⟩ := List.mem_iff_getElem?.mp hx
      rw [zipL_get] at hi
      simp only [List.getElem?_map, List.getElem?_drop] at hi
      cases e1 : ns[i]? with
      | none => rw [e1] at hi; simp at hi
      | some a =>
        cases e2 : ns[1 + i]? with
        | none => rw [e1, e2] at hi; simp at hi
        | some b =>
          rw [e1, e2] at hi
          simp at hi
          subst hi
          simp [wipeE, ltP]
  unfold risingF
  rw [zip_ris] at e
  simp [e, pAll, ltB_all]
end Z
namespace Z
open PySem L2
/-! is_set -/
def setF : List PV → R PV := run 2 3 (sSeq (sIf (tOrF (tNotF (xT (xIsi "tuple" (xVar 1)))) (tNotF (xT (xB pAll (aCons (xLc (iSeq (xVar 1)) (tgN 2) (tYesF) (xCall0 withinF (zCons (xVar 2) (zCons (xC (.int 0)) (zCons (x2 pSub (xVar 0) (xC (.int 1))) (aNil))))) [2]) (aNil)))))) (sRet (xC (.bl false))) (sNx)) (sRet (xCall0 risingF (zCons (xVar 1) (aNil)))))
/-- a rising tuple of whole numbers from 0 to below m -/
def isSet (m : Int) : PV → Bool
  | .tup xs => match intsOf xs with
    | some ns => ns.all (fun i => decide (0 ≤ i) && decide (i ≤ m - 1)) && ris ns
    | none => false
  | _ => false
theorem all_within (m : Int) : ∀ xs : List PV, xs.all (isW 0 (m - 1)) = (match intsOf xs with
    | some ns => ns.all (fun i => decide (0 ≤ i) && decide (i ≤ m - 1))
    | none => false)
  | [] => rfl
  | x :: xs => by
    have ih := all_within m xs
    rw [List.all_cons, ih]
    cases x <;> simp only [intsOf, isW, Bool.false_and]
    cases intsOf xs <;> simp
def small : PV → Prop
  | .tup xs => xs.length ≤ 16777216
  | _ => True
theorem set_ok (m : Int) (t : PV) (h : small t) : setF [.int m, t] = .ok (.bl (isSet m t)) := by
  unfold setF
  cases t with
  | tup xs =>
    obtain ⟨bs, e, e3⟩ : ∃ bs : List Bool, xLc (iSeq (xVar 1)) (tgN 2) (tYesF) (xCall0 withinF (zCons (xVar 2) (zCons (xC (.int 0)) (zCons (x2 pSub (xVar 0) (xC (.int 1))) (aNil))))) [2] [.sl .fz (.int m), .sl .fz (.tup xs), .un] = .ok (.fr .ow (.lst (bs.map PV.bl))) ∧ bs.all id = xs.all (isW 0 (m - 1)) := by
      refine ⟨xs.map (isW 0 (m - 1)), ?_, by simp [List.all_map]⟩
      rw [show (xs.map (isW 0 (m - 1))).map PV.bl = xs.map fun x => .bl (isW 0 (m - 1) x) by simp]
      exact xLc_map _ (by simp) h fun x hx => by simp [wipeE, within_ok]
    simp only [isSet]
    have aw := all_within m xs
    rw [← e3] at aw
    cases ei : intsOf xs with
    | none =>
      rw [ei] at aw
      have aw : bs.all id = false := aw
      simp [e, pAll, aw]
    | some ns =>
      rw [ei] at aw
      have aw : bs.all id = ns.all (fun i => decide (0 ≤ i) && decide (i ≤ m - 1)) := aw
      have ex := intsOf_eq ei
      dsimp only
      rw [← aw]
      cases hb : bs.all id with
      | false => simp [e, pAll, hb]
      | true =>
        have r := rising_ok ns (by have : xs.length ≤ 16777216 := h; rw [ex] at this; simpa using this)
        rw [← ex] at r
        simp [e, pAll, hb, r]
  | _ => simp [isSet]
end Z
/-! the pure layer, part Q: what is never reached; lists and tuples times a number -/
namespace Z
open PySem L2
section
variable {X : Cx} {cl : Cl} {W : WX}
/-- a statement that no run reaches -/
def sNo : Z.Env → Os := fun _ => .no
theorem qs_no {st : Stmt} : QS cl X W sNo st := ⟨⟨fun pins s σ H D I h => by obtain ⟨F, A, γ, rel, h⟩ := h; exact h.elim⟩⟩
theorem qs_nos {st : List Stmt} : QSs cl X W sNo st := ⟨⟨fun pins s σ H D I h => by obtain ⟨F, A, γ, rel, h⟩ := h; exact h.elim⟩⟩
/-- an expression that no run reaches -/
def xNever : Ex := fun _ => .no
theorem q_never {e : Expr} : QE cl X W xNever e := ⟨⟨fun pins s σ H Q I h => by obtain ⟨F, A, γ, rel, h⟩ := h; exact h.elim⟩⟩
/-- a fresh list times a number -/
def cRep (n : Nat) (j : Int) : Bool := decide (-(2 ^ 63) ≤ j) && decide (j < 2 ^ 63) && sm (n * j.toNat)
def pRepL (l : Vl) (k : PV) : R Vl := match l, k with
  | .fr .ow (.lst xs), .int j => if cRep xs.length j then .ok (.fr .ow (.lst (List.replicate j.toNat xs).flatten)) else .no
  | _, _ => .no
def xRep (f g : Ex) : Ex := fun γ => (f γ).bind fun l => (g γ).bind fun k => pRepL l k.x
theorem pRepL_ok {l : Vl} {k : PV} {l' : Vl} (h : pRepL l k = .ok l') : ∃ xs j, l = .fr .ow (.lst xs) ∧ k = .int j ∧ cRep xs.length j = true ∧ l' = .fr .ow (.lst (List.replicate j.toNat xs).flatten) := by
  unfold pRepL at h
  split at h
  · split at h
    · cases h; exact ⟨_, _, rfl, rfl, by assumption, rfl⟩
    · cases h
  · cases h
theorem pRepL_ne {l : Vl} {k : PV} {e : Xc} (h : pRepL l k = .er e) : False := by
  unfold pRepL at h
  split at h
  · split at h <;> cases h
  · cases h
theorem RpL.rep {T : Tb} {F : Hp} {xs : List PV} {vs : List V} (h : RpL T F xs vs) : ∀ n : Nat, RpL T F (List.replicate n xs).flatten (List.replicate n vs).flatten
  | 0 => by simpa using RpL.nil
  | n + 1 => by
    rw [List.replicate_succ, List.replicate_succ, List.flatten_cons, List.flatten_cons]
    exact h.append (RpL.rep h n)
theorem q_rep {f g} {a b : Expr} {pos : Pos} (ha : QE cl X W f a) (hb : QE cl X W g b) : QE cl X W (xRep f g) (.BinOp a .Mult b pos) := by
  refine ⟨(pe_op op_rep ha.pe hb.pe).imp fun σ H Q h => ?_⟩
  refine tq.bind (g := fun l γ => (g γ).bind fun k => pRepL l k.x) h fun F A γ l F1 H1 v rel e e1 r1 h => ?_
  refine ⟨F1, A, γ, rel.ext e1, ?_⟩
  cases e' : g γ with
  | no => rw [e'] at h; exact h
  | er x => rw [e'] at h; exact h
  | ok k =>
    rw [e'] at h
    simp only [R.bind_ok] at h
    intro F2 H2 u e2 r2
    have ru := r2.rv
    cases er : pRepL l k.x with
    | no => rw [er] at h; exact h.elim
    | er x => exact (pRepL_ne er).elim
    | ok l' =>
      rw [er] at h
      obtain ⟨xs, j, rfl, ek, hc, rfl⟩ := pRepL_ok er
      rw [ek] at ru
      simp only [cRep, Bool.and_eq_true, decide_eq_true_eq] at hc
      obtain ⟨Ar, o1, _, o3⟩ := r1
      simp only [OwM] at o1
      obtain ⟨p, rfl, rfl, vs, hp, rl⟩ := o1
      refine ⟨p, j, vs, rfl, ru.int, e2.hle _ _ hp, hc.1.1, hc.1.2, ?_, fun q nq => ?_⟩
      · rw [rl.length]; exact sm_le hc.2
      · exact h _ _ _ (e2.trans (Ext.newO e2.sub nq)) ((vlN_lst e2.sub nq (RpL.rep (RpL.mono e2.fle _ _ rl) _)).r (e1.trans e2).hle)
@[simp] theorem u_xRep {f g : Ex} {γ : Z.Env} : xRep f g γ = (f γ).bind fun l => (g γ).bind fun k => pRepL l k.x := (rfl)
@[simp] theorem u_pRepL {xs : List PV} {j : Int} : pRepL (.fr .ow (.lst xs)) (.int j) = if cRep xs.length j then .ok (.fr .ow (.lst (List.replicate j.toNat xs).flatten)) else .no := (rfl)
end
end Z
/-! the pure layer, part R: a def's promise where no repr runs around it; calls -/
namespace Z
open PySem L2 PySem.Spec PyProof.Rows

/-- as L2.FnOk, asked only where nothing is being shown -/
structure FnG (P : Program) (w : World) (K : PySem.W.Frag) (mg : Str → Option Value) (base : Heap) (k : Nat) (f : Addr) (fd : FuncData) (ps : List Str) (sp : Sp) : Prop where
  len : ∀ vs H Q E, sp vs H Q E → vs.length = ps.length
  run : ∀ (A : Around) (outer : List PySem.Env) (s : Shared) (H : Hp) (args : Args) (us : List Value) (vs : List V) (Q : VK) (E : XK), Room k A → A.guards = some [] → Env0 P w K mg base A outer s H →
    BindsTo s fd args (ps.zip us) → Vals vs us → sp vs H Q E → codeAny (model P w) A (.call (.ref f) args) (CR (L2.CX P w) outer P w H s Q E) s
theorem FnG.mono {P w K mg base j k f fd ps sp} (F : FnG P w K mg base j f fd ps sp) (h : j ≤ k) : FnG P w K mg base k f fd ps sp :=
  ⟨F.len, fun A outer s H args us vs Q E hr => F.run A outer s H args us vs Q E (hr.mono h)⟩
theorem FnG.imp {P w K mg base k f fd ps sp sp'} (F : FnG P w K mg base k f fd ps sp) (h : ∀ vs H Q E, sp' vs H Q E → sp vs H Q E) : FnG P w K mg base k f fd ps sp' :=
  ⟨fun vs H Q E q => F.len vs H Q E (h _ _ _ _ q), fun A outer s H args us vs Q E hr hg he hb hv hs => F.run A outer s H args us vs Q E hr hg he hb hv (h _ _ _ _ hs)⟩
theorem fnG_of {P : Program} {w : World} {K : PySem.W.Frag} {mg : Str → Option Value} {base : Heap} {k : Nat} {f : Addr} {name qual : Str} {params : Arguments} {body : List Stmt} {scope : Scope} {dV kV doc pm cdv ct oc : Value} {an od : Option Addr}
    {osl : Array (Option Value)} {N ps : List Str} {sp : Sp} (lk : K.lookup f = some ⟨oc, od, .func (PySem.W.fnOf name qual params body scope dV kV doc pm an cdv ct), osl⟩) (hcd : PySem.W.codeIn K cdv qual = true) (S : FnScope N ps scope)
    (len : ∀ vs H Q E, sp vs H Q E → vs.length = ps.length)
    (hbody : ∀ (A : Around) (outer : List PySem.Env) (s : Shared) (H : Hp) (vs : List V) (Q : VK) (E : XK), Room k (A.deeper (envOfC qual scope s.heap.objs.size f cdv)) → A.guards = some [] → sp vs H Q E →
      ∃ t, PSs (cxOf (L2.CX P w) P w K mg base N qual scope f cdv A outer s H E) body t ∧ t { nx := fun _ H' => Q .non H', rt := Q } (L2.start N vs) H) :
    FnG P w K mg base (k + 1) f (PySem.W.fnOf name qual params body scope dV kV doc pm an cdv ct) ps sp := by
  refine ⟨len, fun A outer s H args us vs Q E hr hg e0 hb r hsp => ?_⟩
  have atB : ∀ b o, base.get? b = some o → s.heap.get? b = some o := fun b o e => (e0.bs b o e).1
  have KX : K.In s.heap := e0.mod.kin.keeps atB
  have par : ∀ y ∈ ps.zip us, scope.names.lookup y.1 = some .local ∨ (scope.names.lookup y.1 = some .cell ∧ ((cellsFrom (s.heap.objs.size + 1) scope.names []).lookup y.1).isSome = true) := by
    rintro ⟨n, v⟩ hy
    exact (S.par n (List.of_mem_zip hy).1).imp id fun q => ⟨q, PySem.W.cellsFrom_some _ _ _ (.inl q)⟩
  refine codeAny_call_function hr.depth (KX _ _ lk) rfl S.co S.gen rfl (PySem.W.codeRec_of KX hcd) (hb _ _ _ _ (wpAny_newFunctionEnv_cells S.kind par ?_))
  rintro env rfl s1 x
  refine ⟨(e0.mod.nolimit.keeps atB).keeps x.toInCall.keep, codeAny_func ?_⟩
  obtain ⟨t, ht, hq⟩ := hbody A outer s H vs Q E (hr.deeper _) hg hsp
  refine wpAny_mono (ht.run [] s1 _ H _ (inv_start S hr.hd e0 (len _ _ _ _ hsp) r x) hq) (fun fl s' hs => ?_) fun e s' hs => hs
  have fin : ∀ {σ' : L2.St} {H' : Hp} {v : V} {u : Value}, Inv (cxOf (L2.CX P w) P w K mg base N qual scope f cdv A outer s H E) [] σ' H' s' → RelV v u → Q v H' → CE outer P w H s Q u s' :=
    fun {σ' H' v u} J rv q => ⟨v, H', J.os, J.bare, J.base, J.hok, rv, q⟩
  cases fl with
  | ret u => obtain ⟨v, σ', H', J, rv, q⟩ := hs; exact fin J rv q
  | next => obtain ⟨σ', H', J, q⟩ := hs; exact fin (v := V.non) (u := Value.none) J rfl q
  | brk => obtain ⟨_, _, _, q⟩ := hs; exact q.elim
  | cont => obtain ⟨_, _, _, q⟩ := hs; exact q.elim
/-- a def of the text that stands at f -/
theorem Fun.okG {P : Program} {w : World} {K : PySem.W.Frag} {mg : Str → Option Value} {base : Heap} {x qual : Str} {st : Stmt} {f : Addr} {fd : FuncData} {N ps : List Str} {k : Nat} {sp : Sp}
    (F : ∃ (oc : Value) (od : Option Addr) (dV kV doc pm : Value) (an : Option Addr) (cdv ct : Value) (osl : Array (Option Value)),
      fd = PySem.W.fnOf x qual (defArgs st) (defBody st) (defScope st) dV kV doc pm an cdv ct ∧ K.lookup f = some ⟨oc, od, .func fd, osl⟩ ∧ PySem.W.codeIn K cdv qual = true) (S : FnScope N ps (defScope st)) (len : ∀ vs H Q E, sp vs H Q E → vs.length = ps.length)
    (hbody : ∀ (cdv : Value) (A : Around) (outer : List PySem.Env) (s : Shared) (H : Hp) (vs : List V) (Q : VK) (E : XK), Room k (A.deeper (envOfC qual (defScope st) s.heap.objs.size f cdv)) → A.guards = some [] → sp vs H Q E →
      ∃ t, PSs (cxOf (L2.CX P w) P w K mg base N qual (defScope st) f cdv A outer s H E) (defBody st) t ∧ t { nx := fun _ H' => Q .non H', rt := Q } (L2.start N vs) H) : FnG P w K mg base (k + 1) f fd ps sp := by
  obtain ⟨oc, od, dV, kV, doc, pm, an, cdv, ct, osl, rfl, lk, hcd⟩ := F
  exact fnG_of lk hcd S len fun A outer s H vs Q E hr hg hsp => hbody cdv A outer s H vs Q E hr hg hsp

section
variable {X : Cx} {k : Nat} {f C : Addr} {fd : FuncData} {ps ks : List Str} {sp : Sp} {dvs : List V} {ds : List Value} {E : L2.St → XK} {x m : Str} {p pos apos : Pos} {e o : Expr} {es : List Expr} {ta : TE} {t tk : TA}
/-- the callee's end, taken on -/
theorem end_of {pins : List (Addr × Obj)} {σ : L2.St} {H : Hp} {s : Shared} {Q : VK} {E : XK} {c : Code} (hx : PassesAt (L2.CX X.prog X.w) X σ E) (I : Inv X pins σ H s)
    {us : List Value} {kw : List (Str × Value)} (h : codeAny (model X.prog X.w) X.A (.call (.ref f) ⟨us, kw⟩) (CR (L2.CX X.prog X.w) X.stack X.prog X.w H s Q E) s) : wpAny (model X.prog X.w) X.A (call (.ref f) us kw) (EP X pins σ Q) X.xe s := by
  refine wpAny_call (codeAny_mono h fun r s' hq => ?_)
  cases r with
  | error e => exact hx pins H s e s' I hq
  | ok fl =>
    cases fl with
    | ret u => exact I.after hq
    | next => exact hq.elim
    | brk => exact hq.elim
    | cont => exact hq.elim
theorem runG {pins : List (Addr × Obj)} {σ : L2.St} {H : Hp} {s : Shared} {Q : VK} {us : List Value} {vs : List V} {E : XK} (F : FnG X.prog X.w X.K X.mg X.base k f fd ps sp) (hr : Room k X.A) (hG : X.A.guards = some []) (hb : Binds X.K fd ps ds) (hd : Vals dvs ds) (hx : PassesAt (L2.CX X.prog X.w) X σ E)
    (I : Inv X pins σ H s) (r : Vals vs us) (h : sp (vs ++ dvs) H Q E) : wpAny (model X.prog X.w) X.A (call (.ref f) us) (EP X pins σ Q) X.xe s := by
  have r2 := r.append hd
  exact end_of (c := .call (.ref f) ⟨us, []⟩) hx I (F.run X.A X.stack s H ⟨us, []⟩ _ _ Q E hr hG I.env0 (hb s us I.kIn (by rw [← r2.length]; exact F.len _ _ _ _ h)) r2 h)
theorem runKG {pins : List (Addr × Obj)} {σ : L2.St} {H : Hp} {s : Shared} {Q : VK} {us ws : List Value} {vs zs : List V} {E : XK} {g : List Value → List Value → List Value} {gV : List V → List V → List V} (F : FnG X.prog X.w X.K X.mg X.base k f fd ps sp) (hr : Room k X.A) (hG : X.A.guards = some []) (hb : KBinds X.K fd ps ks g gV) (hx : PassesAt (L2.CX X.prog X.w) X σ E)
    (I : Inv X pins σ H s) (r : Vals vs us) (rz : Vals zs ws) (h : sp (gV vs zs) H Q E) : wpAny (model X.prog X.w) X.A (call (.ref f) us (ks.zip ws)) (EP X pins σ Q) X.xe s := by
  have r2 := hb.rel r rz
  exact end_of (c := .call (.ref f) ⟨us, ks.zip ws⟩) hx I (F.run X.A X.stack s H ⟨us, ks.zip ws⟩ _ _ Q E hr hG I.env0 (hb.to s us ws I.kIn (by rw [← r2.length]; exact F.len _ _ _ _ h)) r2 h)
/-- f(e, ..), the defaults dvs behind -/
theorem pe_callG (F : FnG X.prog X.w X.K X.mg X.base k f fd ps sp) (hr : Room k X.A) (hG : X.A.guards = some []) (hg : Gl X x) (hm : X.mg x = some (.ref f)) (hk : PySem.W.keepIn X.K (.ref f) = true) (hb : Binds X.K fd ps ds) (hd : Vals dvs ds) (hx : ∀ σ, PassesAt (L2.CX X.prog X.w) X σ (E σ))
    (ha : PA X (e :: es) t) (hdb : (x == ("__debug__" : Str)) = false := by decide) (he : starEach (e :: es) X.env = (false, eval e X.env) :: starEach es X.env := by rfl) (hpl : (backTo pos (starEach es X.env)).any (·.1) = false := by rfl) :
    PE X (.Call (.Name x p) (e :: es) [] pos) (fun σ H Q => t σ H fun vs H1 => sp (vs ++ dvs) H1 Q (E σ)) :=
  ⟨fun pins s σ H Q I h => wpAny_Call_Name_kw (ld_glob I hg hm (PySem.W.callWith_K (h₀ := X.base) I.ok.mod.kin hk (thn (ha.run pos pins s σ H _ I h) fun us s1 ⟨vs, H1, I1, r, q⟩ => ⟨I1.kIn, runG F hr hG hb hd (hx σ) I1 r q⟩) he hpl) hdb)⟩
/-- f() -/
theorem pe_callG0 (F : FnG X.prog X.w X.K X.mg X.base k f fd ps sp) (hr : Room k X.A) (hG : X.A.guards = some []) (hg : Gl X x) (hm : X.mg x = some (.ref f)) (hk : PySem.W.keepIn X.K (.ref f) = true) (hb : Binds X.K fd ps ds) (hd : Vals dvs ds) (hx : ∀ σ, PassesAt (L2.CX X.prog X.w) X σ (E σ))
    (hdb : (x == ("__debug__" : Str)) = false := by decide) : PE X (.Call (.Name x p) [] [] pos) (fun σ H Q => sp dvs H Q (E σ)) :=
  ⟨fun pins s σ H Q I h => wpAny_Call_Name_kw (ld_glob I hg hm (PySem.W.callWith_K0 I.kIn hk (runG (us := []) (vs := []) F hr hG hb hd (hx σ) I .nil h)) hdb)⟩
/-- f(e, .., k = v, ..) -/
theorem pe_callKG {kws : List Keyword} {g : List Value → List Value → List Value} {gV : List V → List V → List V} (F : FnG X.prog X.w X.K X.mg X.base k f fd ps sp) (hr : Room k X.A) (hG : X.A.guards = some []) (hg : Gl X x) (hm : X.mg x = some (.ref f)) (hk : PySem.W.keepIn X.K (.ref f) = true) (hb : KBinds X.K fd ps ks g gV) (hx : ∀ σ, PassesAt (L2.CX X.prog X.w) X σ (E σ))
    (ha : PA X (e :: es) t) (hkw : PK X kws tk) (hall : (backToKw pos (keywordEach kws X.env)).all (·.1.isSome) = true := by rfl) (hks : (backToKw pos (keywordEach kws X.env)).filterMap (·.1) = ks := by rfl)
    (hdb : (x == ("__debug__" : Str)) = false := by decide) (he : starEach (e :: es) X.env = (false, eval e X.env) :: starEach es X.env := by rfl)
    (hpl : ((backTo pos (starEach (e :: es) X.env)).any (·.1) || (backToKw pos (keywordEach kws X.env)).any (·.1.isNone)) = false := by rfl) :
    PE X (.Call (.Name x p) (e :: es) kws pos) (fun σ H Q => t σ H fun vs H1 => tk σ H1 fun zs H2 => sp (gV vs zs) H2 Q (E σ)) := by
  refine ⟨fun pins s σ H Q I h => wpAny_Call_Name_kw (ld_glob I hg hm ?_ hdb)⟩
  refine PySem.W.callWith_KW (h₀ := X.base) I.ok.mod.kin hk hall (thn (ha.run pos pins s σ H _ I h) fun us s1 ⟨vs, H1, I1, r, q⟩ => ?_) hpl he
  refine thn (hkw.run pos pins s1 σ H1 _ I1 q) fun ws s2 ⟨zs, H2, I2, rz, q2⟩ => ⟨I2.kIn, ?_⟩
  rw [hks]
  exact runKG F hr hG hb (hx σ) I2 r rz q2

/-- what a method call asks of the instance's class -/
structure MetG (X : Cx) (C : Addr) (m : Str) (sp : Sp) (ds : List Value) : Prop where
  ex : ∃ (k : Nat) (f : Addr) (fd : FuncData) (ps : List Str), Cls X.K C ∧ Meth X.K C m f ∧ FnG X.prog X.w X.K X.mg X.base k f fd ps sp ∧ Room k X.A ∧ Binds X.K fd ps ds
/-- o.m(e, ..), the class found on the way -/
def tMetG (X : Cx) (m : Str) (dvs : List V) (ds : List Value) (E : L2.St → XK) (ta : TE) (t : TA) : TE := fun σ H Q => ta σ H fun x H1 => ∃ a C dx fs sp, x = .ref a ∧ H1 a = some (.ins C dx fs) ∧ fs.lookup m = none ∧ MetG X C m sp ds ∧
  t σ H1 fun vs H2 => sp (x :: (vs ++ dvs)) H2 Q (E σ)
theorem pe_methG {pl : Sem Bool} (he : PE X o ta) (hG : X.A.guards = some []) (hd : Vals dvs ds) (hx : ∀ σ, PassesAt (L2.CX X.prog X.w) X σ (E σ)) (ha : PA X (e :: es) t)
    (hst : starEach (e :: es) X.env = (false, eval e X.env) :: starEach es X.env := by rfl) (hpl : (backTo pos (starEach es X.env)).any (·.1) = false := by rfl)
    (ht : eval (.Call (.Attribute o m apos) (e :: es) [] pos) X.env = (do
      let ov ← eval o X.env
      standAt apos.atName
      let (f, first) ← holding [ov] (getMethod ov m pl)
      callWith pos f first (backTo pos (starEach (e :: es) X.env)) (backToKw pos (keywordEach [] X.env))) := by rfl) :
    PE X (.Call (.Attribute o m apos) (e :: es) [] pos) (tMetG X m dvs ds E ta t) := by
  refine ⟨fun pins s σ H Q I h => PySem.W.methodCall_KW (pl := pl) (thn (he.run pins s σ H _ I h) ?_) ht⟩
  rintro u s1 ⟨_, H1, I1, rx, a, C, dx, fs, sp, rfl, ea, l, ⟨k, f, fd, ps, c, hm, F, hr, hb⟩, q⟩
  obtain rfl : u = Value.ref a := rx
  refine getmeth_ok I1 ea c hm l (PySem.W.callWith_K (first := [.ref a]) (h₀ := X.base) I.ok.mod.kin hm.kp (thn (ha.run pos pins s1 σ H1 _ I1 q) fun us s2 ⟨vs, H2, I2, r, q2⟩ => ⟨I2.kIn, ?_⟩) hst hpl)
  exact runG (us := .ref a :: us) (vs := .ref a :: vs) F hr hG hb hd (hx σ) I2 (.cons rfl r) q2
theorem pe_methG0 {pl : Sem Bool} (he : PE X o ta) (hG : X.A.guards = some []) (hd : Vals dvs ds) (hx : ∀ σ, PassesAt (L2.CX X.prog X.w) X σ (E σ))
    (ht : eval (.Call (.Attribute o m apos) [] [] pos) X.env = (do
      let ov ← eval o X.env
      standAt apos.atName
      let (f, first) ← holding [ov] (getMethod ov m pl)
      callWith pos f first (backTo pos (starEach [] X.env)) (backToKw pos (keywordEach [] X.env))) := by rfl) :
    PE X (.Call (.Attribute o m apos) [] [] pos) (tMetG X m dvs ds E ta tNil) := by
  refine ⟨fun pins s σ H Q I h => PySem.W.methodCall_KW (pl := pl) (thn (he.run pins s σ H _ I h) ?_) ht⟩
  rintro u s1 ⟨_, H1, I1, rx, a, C, dx, fs, sp, rfl, ea, l, ⟨k, f, fd, ps, c, hm, F, hr, hb⟩, q⟩
  obtain rfl : u = Value.ref a := rx
  exact getmeth_ok I1 ea c hm l (PySem.W.callWith_K0 (first := [.ref a]) I1.kIn hm.kp (runG (us := [.ref a]) (vs := [.ref a]) F hr hG hb hd (hx σ) I1 (.cons rfl .nil) q))
end
end Z
/-! the pure layer, part U: defs, their calls, fields, methods that change nothing -/
namespace Z
open PySem L2
/-! ### the class tables, but for the slot .me -/
abbrev Cl.at (c : Cl) (v : V) : Cl := { c with r0 := v }
mutual
theorem Rp.re {K : PySem.W.Frag} {c : Cl} {u w : V} {F : Hp} : (x : PV) → (v : V) → Rp ⟨K, c.at u⟩ F x v → Rp ⟨K, c.at w⟩ F x v
  | .non, _, h => by simpa [Rp] using h
  | .bl b, _, h => by simpa [Rp] using h
  | .int i, _, h => by simpa [Rp] using h
  | .str x, _, h => by simpa [Rp] using h
  | .tup xs, _, h => by
    simp only [Rp] at h ⊢
    obtain ⟨a, vs, r, s, l⟩ := h
    exact ⟨a, vs, r, s, RpL.re xs vs l⟩
  | .lst xs, _, h => by
    simp only [Rp] at h ⊢
    obtain ⟨a, vs, r, s, l⟩ := h
    exact ⟨a, vs, r, s, RpL.re xs vs l⟩
  | .dct t kvs, _, h => by
    simp only [Rp] at h ⊢
    obtain ⟨a, ks, r, s, l⟩ := h
    exact ⟨a, ks, r, s, RpD.re kvs ks l⟩
  | .set xs, _, h => by
    simp only [Rp] at h ⊢
    exact h
  | .obj c fs, _, h => by
    simp only [Rp] at h ⊢
    obtain ⟨a, C, dx, vs, r, s, q, l⟩ := h
    exact ⟨a, C, dx, vs, r, s, q, RpF.re fs vs l⟩
  | .exc c fs, _, h => by
    simp only [Rp] at h ⊢
    obtain ⟨a, C, d, vs, r, s, q, x, l⟩ := h
    exact ⟨a, C, d, vs, r, s, q, x, RpF.re fs vs l⟩
theorem RpL.re {K : PySem.W.Frag} {c : Cl} {u w : V} {F : Hp} : (xs : List PV) → (vs : List V) → RpL ⟨K, c.at u⟩ F xs vs → RpL ⟨K, c.at w⟩ F xs vs
  | [], _, h => by simpa [RpL] using h
  | x :: xs, _, h => by
    simp only [RpL] at h ⊢
    obtain ⟨v, ws, r, p, q⟩ := h
    exact ⟨v, ws, r, Rp.re x v p, RpL.re xs ws q⟩
theorem RpD.re {K : PySem.W.Frag} {c : Cl} {u w : V} {F : Hp} : (xs : List (PV × PV)) → (vs : List (PV × V)) → RpD ⟨K, c.at u⟩ F xs vs → RpD ⟨K, c.at w⟩ F xs vs
  | [], _, h => by simpa [RpD] using h
  | (k, x) :: xs, _, h => by
    simp only [RpD] at h ⊢
    obtain ⟨v, ws, r, p, q⟩ := h
    exact ⟨v, ws, r, Rp.re x v p, RpD.re xs ws q⟩
theorem RpF.re {K : PySem.W.Frag} {c : Cl} {u w : V} {F : Hp} : (xs : List (String × PV)) → (vs : List (Str × V)) → RpF ⟨K, c.at u⟩ F xs vs → RpF ⟨K, c.at w⟩ F xs vs
  | [], _, h => by simpa [RpF] using h
  | (k, x) :: xs, _, h => by
    simp only [RpF] at h ⊢
    obtain ⟨v, ws, r, p, q⟩ := h
    exact ⟨v, ws, r, Rp.re x v p, RpF.re xs ws q⟩
end
mutual
theorem OwM.re {K : PySem.W.Frag} {c : Cl} {u w : V} {F H : Hp} : (m : Md) → ∀ {x v A}, OwM ⟨K, c.at u⟩ F H m x v A → OwM ⟨K, c.at w⟩ F H m x v A
  | .fz, x, v, A, h => by simp only [OwM] at h ⊢; exact ⟨Rp.re _ _ h.1, h.2⟩
  | .ow, x, v, A, h => by
    simp only [OwM] at h ⊢
    obtain ⟨b, rfl, rfl, h⟩ := h
    refine ⟨b, rfl, rfl, ?_⟩
    cases x <;> first | exact h.elim | skip
    · obtain ⟨vs, h, r⟩ := h; exact ⟨vs, h, RpL.re _ _ r⟩
    · obtain ⟨ks, h, r⟩ := h; exact ⟨ks, h, RpD.re _ _ r⟩
    · exact h
  | .ob ms, x, v, A, h => by
    simp only [OwM] at h ⊢
    obtain ⟨b, C, dx, vs, A', rfl, rfl, hb, h⟩ := h
    refine ⟨b, C, dx, vs, A', rfl, rfl, hb, ?_⟩
    cases x <;> first | exact h.elim | skip
    exact ⟨h.1, OwF.re ms h.2⟩
  | .lk, x, v, A, h => by
    simp only [OwM] at h ⊢
    obtain ⟨d, od, es, kvs, r1, r2, r3, r4, r5⟩ := h
    exact ⟨d, od, es, kvs, r1, r2, r3, r4, RpD.re _ _ r5⟩
theorem OwF.re {K : PySem.W.Frag} {c : Cl} {u w : V} {F H : Hp} : (ms : List Md) → ∀ {fs vs A}, OwF ⟨K, c.at u⟩ F H ms fs vs A → OwF ⟨K, c.at w⟩ F H ms fs vs A
  | [], fs, vs, A, h => by simp only [OwF] at h ⊢; exact h
  | m :: ms, fs, vs, A, h => by
    simp only [OwF] at h ⊢
    obtain ⟨f, x, fs', v, vs', A1, A2, rfl, rfl, rfl, h1, h2⟩ := h
    exact ⟨f, x, fs', v, vs', A1, A2, rfl, rfl, rfl, OwM.re m h1, OwF.re ms h2⟩
end
theorem XcR.re {K : PySem.W.Frag} {c : Cl} {u w : V} {F : Hp} {e cls d} (h : XcR ⟨K, c.at u⟩ F e cls d) : XcR ⟨K, c.at w⟩ F e cls d := by
  obtain ⟨C, vs, a, b, x, r⟩ := h
  exact ⟨C, vs, a, b, x, RpF.re _ _ r⟩
theorem spQ.re {K : PySem.W.Frag} {c : Cl} {f : List PV → R PV} (u w : V) {vs H Q E} (h : spQ K (c.at u) f vs H Q E) : spQ K (c.at w) f vs H Q E := by
  obtain ⟨F, xs, s, r, h⟩ := h
  refine ⟨F, xs, s, RpL.re _ _ r, ?_⟩
  cases e : f xs with
  | ok x => rw [e] at h; exact fun F' H' v ex rv => h F' H' v ex (Rp.re _ _ rv)
  | er x => rw [e] at h; exact fun F' H' c d ex rv => h F' H' c d ex rv.re
  | no => rw [e] at h; exact h
/-! ### names of fields -/
theorem ofString_inj {s t : String} (h : Str.ofString s = Str.ofString t) : s = t := by
  rw [PySem.Str.ofString_eq_toList, PySem.Str.ofString_eq_toList] at h
  have h1 : (s.toList.map Char.toNat) = (t.toList.map Char.toNat) := by
    have := congrArg (fun x : Str => x.cps.toList) h
    simpa using this
  have h2 : s.toList = t.toList := by
    have inj : ∀ {a b : List Char}, a.map Char.toNat = b.map Char.toNat → a = b := fun {a} => by
      induction a with
      | nil => intro b e; cases b <;> simp at e ⊢
      | cons x xs ih =>
        intro b e
        cases b with
        | nil => simp at e
        | cons y ys =>
          simp only [List.map_cons, List.cons.injEq] at e
          rw [ih e.2, Char.toNat_inj.mp e.1]
    exact inj h1
  exact String.toList_inj.mp h2
theorem RpF.look {T : Tb} {F : Hp} {n : String} : ∀ {fs : List (String × PV)} {vs : List (Str × V)}, RpF T F fs vs → (match fs.lookup n with
    | some x => ∃ v, vs.lookup (Str.ofString n) = some v ∧ Rp T F x v
    | none => vs.lookup (Str.ofString n) = none)
  | [], _, h => by simp only [RpF] at h; subst h; rfl
  | (f, x) :: fs, _, h => by
    simp only [RpF] at h
    obtain ⟨v, ws, rfl, p, q⟩ := h
    by_cases e : n = f
    · subst e
      simp only [List.lookup, BEq.rfl]
      exact ⟨v, rfl, p⟩
    · have e1 : (n == f) = false := by simpa using e
      have e2 : (Str.ofString n == Str.ofString f) = false := by
        refine Bool.eq_false_iff.mpr fun z => e (ofString_inj (eq_of_beq z))
      simp only [List.lookup, e1, e2]
      exact RpF.look q

/-! ### a def's promise, by its body -/
section
variable {P : Program} {w : World} {K : PySem.W.Frag} {mg : Str → Option Value} {base : Heap}
/-- a def of the text that stands at f -/
structure FnAt (K : PySem.W.Frag) (x qual : Str) (st : Stmt) (f : Addr) (fd : FuncData) : Prop where
  ex : ∃ (oc : Value) (od : Option Addr) (dV kV doc pm : Value) (an : Option Addr) (cdv ct : Value) (osl : Array (Option Value)),
    fd = PySem.W.fnOf x qual (defArgs st) (defBody st) (defScope st) dV kV doc pm an cdv ct ∧ K.lookup f = some ⟨oc, od, .func fd, osl⟩ ∧ PySem.W.codeIn K cdv qual = true
  kp : PySem.W.keepIn K (.ref f) = true
theorem q_funG {cl : Cl} {x qual : Str} {st : Stmt} {f : Addr} {fd : FuncData} {N ps : List Str} {k : Nat} {body : Env → Os} {np nl : Nat} {g : List PV → R PV} (hg : g = run np nl body) (Fn : FnAt K x qual st f fd) (S : FnScope N ps (defScope st)) (hp : ps.length = np) (hl : N.length = nl)
    (hb : ∀ (cdv : Value) (A : Around) (outer : List PySem.Env) (s : Shared) (H : Hp) (E : XK), Room k (A.deeper (PyProof.Rows.envOfC qual (defScope st) s.heap.objs.size f cdv)) → A.guards = some [] →
      Takes (cxOf (L2.CX P w) P w K mg base N qual (defScope st) f cdv A outer s H E) (fun cls d _ H => E cls d H) → QSs cl (cxOf (L2.CX P w) P w K mg base N qual (defScope st) f cdv A outer s H E) (fun cls d _ H => E cls d H) body (defBody st)) :
    FnG P w K mg base (k + 1) f fd ps (spQ K cl g) := by
  subst hg hp hl
  exact Fun.okG Fn.ex S (fun vs H Q E h => spQ_len h) fun cdv A outer s H vs Q E hr hg h => ⟨_, (hb cdv A outer s H E hr hg (takes_of rfl rfl rfl rfl)).ps, body_ok rfl (fun _ _ _ _ z => z) h⟩
end
/-! ### calls -/
/-- the arguments, then defaults -/
def zDf (fs : Env → R (List PV)) (ds : List PV) : Env → R (List PV) := fun γ => (fs γ).bind fun xs => .ok (xs ++ ds)
section
variable {X : Cx} {cl : Cl} {W : WX}
theorem tqCallN {g fs} {dp : List PV} {dv : List V} (rd : ∀ F, RpL ⟨X.K, cl⟩ F dp dv) {σ : L2.St} {H : Hp} {Q : VK} (h : tq X.K cl W (xCall0 g (zDf fs dp)) σ H Q) : tqZ X.K cl W fs σ H fun vs H1 => spQ X.K cl g (vs ++ dv) H1 Q E0 := by
  obtain ⟨F, A, γ, rel, h⟩ := h
  refine ⟨F, A, γ, rel, ?_⟩
  unfold xCall0 zDf at h
  cases e : fs γ with
  | no => rw [e] at h; exact h
  | er x => rw [e] at h; exact h
  | ok xs =>
    rw [e] at h
    simp only [R.bind_ok] at h
    intro F1 H1 vs e1 r1
    refine ⟨F1, xs ++ dp, e1.sub, r1.append (rd F1), ?_⟩
    cases e' : g (xs ++ dp) with
    | no => rw [e'] at h; exact h
    | er x => rw [e'] at h; exact h.elim
    | ok x => rw [e'] at h; exact fun F' H' v ex rv => h F' H' v (e1.trans ex) (VlR.zz rv)
theorem tqCallX {g fs} {dp : List PV} {dv : List V} (rd : ∀ F, RpL ⟨X.K, cl⟩ F dp dv) {σ : L2.St} {H : Hp} {Q : VK} (h : tq X.K cl W (xCall g (zDf fs dp)) σ H Q) : tqZ X.K cl W fs σ H fun vs H1 => spQ X.K cl g (vs ++ dv) H1 Q (WE W σ) := by
  obtain ⟨F, A, γ, rel, h⟩ := h
  refine ⟨F, A, γ, rel, ?_⟩
  unfold xCall zDf at h
  cases e : fs γ with
  | no => rw [e] at h; exact h
  | er x => rw [e] at h; exact h
  | ok xs =>
    rw [e] at h
    simp only [R.bind_ok] at h
    intro F1 H1 vs e1 r1
    refine ⟨F1, xs ++ dp, e1.sub, r1.append (rd F1), ?_⟩
    cases e' : g (xs ++ dp) with
    | no => rw [e'] at h; exact h
    | er x => rw [e'] at h; exact fun F' H' c d ex rv => h F' H' c d (e1.trans ex) rv
    | ok x => rw [e'] at h; exact fun F' H' v ex rv => h F' H' v (e1.trans ex) (VlR.zz rv)
theorem zDf_nil (fs : Env → R (List PV)) : zDf fs [] = fs := by
  funext γ
  unfold zDf
  cases fs γ <;> simp
theorem pas0 (σ : L2.St) : PassesAt (L2.CX X.prog X.w) X σ ((fun _ => E0) σ) := fun pins H s e s' I c => passL pins σ H s e s' I c
/-- what a call asks of the def -/
structure CalG (X : Cx) (cl : Cl) (x : Str) (g : List PV → R PV) (ds : List Value) : Prop where
  ex : ∃ (k : Nat) (f : Addr) (fd : FuncData) (ps : List Str), FnG X.prog X.w X.K X.mg X.base k f fd ps (spQ X.K cl g) ∧ Room k X.A ∧ X.mg x = some (.ref f) ∧ PySem.W.keepIn X.K (.ref f) = true ∧ L2.Binds X.K fd ps ds
theorem q_cN {x : Str} {g fs} {e : Expr} {es : List Expr} {p pos : Pos} (C : CalG X cl x g []) (hG : X.A.guards = some []) (ha : QZ cl X W fs (e :: es)) (hg : Gl X x := by rfl) (hdb : (x == ("__debug__" : Str)) = false := by decide)
    (he : starEach (e :: es) X.env = (false, eval e X.env) :: starEach es X.env := by rfl) (hpl : (backTo pos (starEach es X.env)).any (·.1) = false := by rfl) : QE cl X W (xCall0 g fs) (.Call (.Name x p) (e :: es) [] pos) := by
  obtain ⟨k, f, fd, ps, F, hr, hm, hk, hb⟩ := C.ex
  refine ⟨(pe_callG F hr hG hg hm hk hb .nil pas0 ha.pa hdb he hpl).imp fun σ H Q h => ?_⟩
  rw [← zDf_nil fs] at h
  exact tqCallN (dp := []) (dv := []) (fun F => RpL.nil) h
theorem q_cX {x : Str} {g fs} {e : Expr} {es : List Expr} {p pos : Pos} (tk : Takes X W) (C : CalG X cl x g []) (hG : X.A.guards = some []) (ha : QZ cl X W fs (e :: es)) (hg : Gl X x := by rfl) (hdb : (x == ("__debug__" : Str)) = false := by decide)
    (he : starEach (e :: es) X.env = (false, eval e X.env) :: starEach es X.env := by rfl) (hpl : (backTo pos (starEach es X.env)).any (·.1) = false := by rfl) : QE cl X W (xCall g fs) (.Call (.Name x p) (e :: es) [] pos) := by
  obtain ⟨k, f, fd, ps, F, hr, hm, hk, hb⟩ := C.ex
  refine ⟨(pe_callG F hr hG hg hm hk hb .nil (fun σ => passAt tk σ) ha.pa hdb he hpl).imp fun σ H Q h => ?_⟩
  rw [← zDf_nil fs] at h
  exact tqCallX (dp := []) (dv := []) (fun F => RpL.nil) h
/-- f(e, ..), defaults behind -/
theorem q_cND {x : Str} {g fs} {e : Expr} {es : List Expr} {p pos : Pos} {ds : List Value} {dv : List V} {dp : List PV} (C : CalG X cl x g ds) (hd : Vals dv ds) (rd : ∀ F, RpL ⟨X.K, cl⟩ F dp dv) (hG : X.A.guards = some []) (ha : QZ cl X W fs (e :: es)) (hg : Gl X x := by rfl) (hdb : (x == ("__debug__" : Str)) = false := by decide)
    (he : starEach (e :: es) X.env = (false, eval e X.env) :: starEach es X.env := by rfl) (hpl : (backTo pos (starEach es X.env)).any (·.1) = false := by rfl) : QE cl X W (xCall0 g (zDf fs dp)) (.Call (.Name x p) (e :: es) [] pos) := by
  obtain ⟨k, f, fd, ps, F, hr, hm, hk, hb⟩ := C.ex
  exact ⟨(pe_callG F hr hG hg hm hk hb hd pas0 ha.pa hdb he hpl).imp fun σ H Q h => tqCallN rd h⟩
theorem q_cXD {x : Str} {g fs} {e : Expr} {es : List Expr} {p pos : Pos} {ds : List Value} {dv : List V} {dp : List PV} (tk : Takes X W) (C : CalG X cl x g ds) (hd : Vals dv ds) (rd : ∀ F, RpL ⟨X.K, cl⟩ F dp dv) (hG : X.A.guards = some []) (ha : QZ cl X W fs (e :: es)) (hg : Gl X x := by rfl) (hdb : (x == ("__debug__" : Str)) = false := by decide)
    (he : starEach (e :: es) X.env = (false, eval e X.env) :: starEach es X.env := by rfl) (hpl : (backTo pos (starEach es X.env)).any (·.1) = false := by rfl) : QE cl X W (xCall g (zDf fs dp)) (.Call (.Name x p) (e :: es) [] pos) := by
  obtain ⟨k, f, fd, ps, F, hr, hm, hk, hb⟩ := C.ex
  exact ⟨(pe_callG F hr hG hg hm hk hb hd (fun σ => passAt tk σ) ha.pa hdb he hpl).imp fun σ H Q h => tqCallX rd h⟩
/-- f() -/
theorem q_cN0 {x : Str} {g} {p pos : Pos} {ds : List Value} {dv : List V} {dp : List PV} (C : CalG X cl x g ds) (hd : Vals dv ds) (rd : ∀ F, RpL ⟨X.K, cl⟩ F dp dv) (hG : X.A.guards = some []) (hg : Gl X x := by rfl) (hdb : (x == ("__debug__" : Str)) = false := by decide) :
    QE cl X W (xCall0 g (zDf aNil dp)) (.Call (.Name x p) [] [] pos) := by
  obtain ⟨k, f, fd, ps, F, hr, hm, hk, hb⟩ := C.ex
  refine ⟨(pe_callG0 F hr hG hg hm hk hb hd pas0 hdb).imp fun σ H Q h => ?_⟩
  obtain ⟨F1, A, γ, rel, q⟩ := tqCallN rd h
  simpa using q F1 H [] (Ext.refl rel.sub) RpL.nil

/-! ### fields -/
/-- a field of an instance: what it holds, how it holds it -/
def fldM (n : String) : List Md → List (String × PV) → R Vl
  | m :: ms, (f, x) :: fs => if n == f then .ok (.pk m x) else fldM n ms fs
  | _, _ => .no
def fldF (n : String) (fs : List (String × PV)) : R Vl := match fs.lookup n with
  | some x => .ok (.z x)
  | none => .no
def pFld (n : String) : Vl → R Vl
  | .pk (.ob ms) (.obj _ fs) => fldM n ms fs
  | l => match l.keep with
    | .ok (.obj _ fs) => fldF n fs
    | _ => .no
def xFld (n : String) (f : Ex) : Ex := fun γ => (f γ).bind (pFld n)
theorem fldM_ok {T : Tb} {F H : Hp} {n : String} : ∀ {ms : List Md} {fs : List (String × PV)} {vs : List (Str × V)} {A : List Addr} {l : Vl}, OwF T F H ms fs vs A → fldM n ms fs = .ok l → ∃ v m x Ai, l = .pk m x ∧ vs.lookup (Str.ofString n) = some v ∧ OwM T F H m x v Ai ∧ ∀ a ∈ Ai, a ∈ A
  | [], fs, vs, A, l, h, e => by simp [fldM] at e
  | m :: ms, [], vs, A, l, h, e => by simp [fldM] at e
  | m :: ms, (f, x) :: fs, vs, A, l, h, e => by
    simp only [OwF] at h
    obtain ⟨f', x', fs', v, vs', A1, A2, e1, rfl, rfl, h1, h2⟩ := h
    cases e1
    simp only [fldM] at e
    by_cases q : n = f
    · subst q
      rw [if_pos (by simp)] at e
      cases e
      exact ⟨v, m, x, A1, rfl, by simp [List.lookup], h1, fun a ha => List.mem_append_left _ ha⟩
    · rw [if_neg (by simpa using q)] at e
      obtain ⟨v', m', x', Ai, r1, r2, r3, r4⟩ := fldM_ok h2 e
      refine ⟨v', m', x', Ai, r1, ?_, r3, fun a ha => List.mem_append_right _ (r4 a ha)⟩
      have e2 : (Str.ofString n == Str.ofString f) = false := Bool.eq_false_iff.mpr fun z => q (ofString_inj (eq_of_beq z))
      simp only [List.lookup, e2]
      exact r2
theorem fldM_ne {n : String} {e : Xc} : ∀ {ms : List Md} {fs : List (String × PV)}, fldM n ms fs = .er e → False
  | [], fs, h => by simp [fldM] at h
  | m :: ms, [], h => by simp [fldM] at h
  | m :: ms, (f, x) :: fs, h => by
    simp only [fldM] at h
    split at h
    · cases h
    · exact fldM_ne h
theorem q_fld {n : String} {f : Ex} {o : Expr} {pos : Pos} (O : ClOk X.K cl) (na : ∀ c C, cl.i c = some C → NoAttr X.K C (Str.ofString n)) (ho : QE cl X W f o) (hb : attributeBase o (Str.ofString n) X.env (eval o X.env) = eval o X.env := by rfl) :
    QE cl X W (xFld n f) (.Attribute o (Str.ofString n) pos) := by
  refine ⟨(pe_fld ho.pe hb).imp fun σ H Q h => ?_⟩
  obtain ⟨F, A, γ, rel, h⟩ := h
  refine ⟨F, A, γ, rel, ?_⟩
  unfold xFld at h
  cases e : f γ with
  | no => rw [e] at h; exact h
  | er x => rw [e] at h; exact h
  | ok l =>
    rw [e] at h
    simp only [R.bind_ok] at h
    intro F1 H1 v e1 r1
    have frozen : pFld n l = (match l.keep with
        | .ok (.obj _ fs) => fldF n fs
        | _ => (.no : R Vl)) → ∃ a C dx fs v0, v = .ref a ∧ H1 a = some (.ins C dx fs) ∧ Cls X.K C ∧ NoAttr X.K C (Str.ofString n) ∧ fs.lookup (Str.ofString n) = some v0 ∧ Q v0 H1 := fun ep => by
      rw [ep] at h
      cases ek : l.keep with
      | no => rw [ek] at h; exact h.elim
      | er x => exact (l.keep_ne _ ek).elim
      | ok x =>
        rw [ek] at h
        cases x <;> try exact h.elim
        rename_i c fs
        obtain ⟨F2, e2, s2, rx⟩ := keep_ok r1 e1 ek
        simp only [Rp] at rx
        obtain ⟨a, C, dx, vs, rfl, hc, ha, rf⟩ := rx
        have lk := rf.look (n := n)
        simp only [fldF] at h
        cases el : fs.lookup n with
        | none => rw [el] at h; exact h.elim
        | some y =>
          rw [el] at h lk
          obtain ⟨v0, hv, rv⟩ := lk
          exact ⟨a, C, dx, vs, v0, rfl, e2.sub _ _ ha, (O.i c C hc).cl, na c C hc, hv, h F2 H1 v0 e2 (VlR.zz rv)⟩
    cases l with
    | fr m x => exact frozen rfl
    | pk m x =>
      cases m with
      | fz => exact frozen rfl
      | ow => exact frozen rfl
      | lk => exact frozen rfl
      | ob ms =>
        cases x <;> try exact frozen rfl
        rename_i c fs
        obtain ⟨Ai, o1, o2⟩ := r1
        simp only [OwM] at o1
        obtain ⟨a, C, dx, vs, A', rfl, rfl, ha, hc, of⟩ := o1
        simp only [pFld] at h
        cases el : fldM n ms fs with
        | no => rw [el] at h; exact h.elim
        | er x => exact (fldM_ne el).elim
        | ok l =>
          rw [el] at h
          obtain ⟨v0, m', x', A'', rfl, hv, ow, hA⟩ := fldM_ok of el
          exact ⟨a, C, dx, vs, v0, rfl, ha, (O.i c C hc).cl, na c C hc, hv, h F1 H1 v0 e1 ⟨A'', ow, fun b hb => o2 b (List.mem_cons_of_mem _ (hA b hb))⟩⟩
/-! ### methods of a thing that they don't change -/
/-- the def that the thing's class has for a method: tbl by the class's name -/
def mlook (tbl : List (String × (List PV → R PV))) (m : String) : PV → R (List PV → R PV)
  | .obj c fs => match fs.lookup m with
    | some _ => .no
    | none => match tbl.lookup c with
      | some g => .ok g
      | none => .no
  | _ => .no
def xMeth0 (m : String) (tbl : List (String × (List PV → R PV))) (f : Ex) (fs : Env → R (List PV)) : Ex := fun γ => (f γ).bind fun l => l.keep.bind fun x => (mlook tbl m x).bind fun g => (fs γ).bind fun xs => ((g (x :: xs)).noer).map .z
def xMeth (m : String) (tbl : List (String × (List PV → R PV))) (f : Ex) (fs : Env → R (List PV)) : Ex := fun γ => (f γ).bind fun l => l.keep.bind fun x => (mlook tbl m x).bind fun g => (fs γ).bind fun xs => (g (x :: xs)).map .z
/-- what a method call asks of the classes in the table -/
structure MetT (X : Cx) (cl : Cl) (m : String) (tbl : List (String × (List PV → R PV))) (ds : List Value) : Prop where
  at_ : ∀ c g C, tbl.lookup c = some g → cl.i c = some C → MetG X C (Str.ofString m) (spQ X.K cl g) ds
theorem mlook_ok {tbl : List (String × (List PV → R PV))} {m : String} {x : PV} {g} (h : mlook tbl m x = .ok g) : ∃ c fs, x = .obj c fs ∧ fs.lookup m = none ∧ tbl.lookup c = some g := by
  cases x <;> try (simp [mlook] at h; done)
  rename_i c fs
  simp only [mlook] at h
  cases e : fs.lookup m with
  | some y => rw [e] at h; cases h
  | none =>
    rw [e] at h
    cases e2 : tbl.lookup c with
    | none => rw [e2] at h; cases h
    | some g' => rw [e2] at h; cases h; exact ⟨c, fs, rfl, e, e2⟩
theorem mlook_ne {tbl : List (String × (List PV → R PV))} {m : String} {x : PV} {e} (h : mlook tbl m x = .er e) : False := by
  cases x <;> try (simp [mlook] at h; done)
  simp only [mlook] at h
  split at h
  · cases h
  · split at h <;> cases h
theorem tq_meth {m : String} {tbl : List (String × (List PV → R PV))} {ds : List Value} {dp : List PV} {dv : List V} (rd : ∀ F, RpL ⟨X.K, cl⟩ F dp dv) {E : L2.St → XK} {f : Ex} {fs : Env → R (List PV)} {kk : R PV → R Vl} (M : MetT X cl m tbl ds) (σ : L2.St) (H : Hp) (Q : VK)
    (hk : ∀ (F H : Hp) (r : R PV), (match kk r with
      | .ok l => ∀ F' H' v, Ext F H F' H' → VlR ⟨X.K, cl⟩ F' H' H [] l v → Q v H'
      | .er e => ∀ F' H' c d, Ext F H F' H' → XcR ⟨X.K, cl⟩ F' e c d → W c d σ H'
      | .no => False) → (match r with
      | .ok x => ∀ F' H' v, Ext F H F' H' → Rp ⟨X.K, cl⟩ F' x v → Q v H'
      | .er e => ∀ F' H' c d, Ext F H F' H' → XcR ⟨X.K, cl⟩ F' e c d → E σ c d H'
      | .no => False))
    (hz : ∀ r l, kk r = .ok l → ∃ x, l = .z x)
    (h : tq X.K cl W (fun γ => (f γ).bind fun l => l.keep.bind fun x => (mlook tbl m x).bind fun g => (zDf fs dp γ).bind fun xs => kk (g (x :: xs))) σ H Q) : tMetG X (Str.ofString m) dv ds E (tq X.K cl W f) (tqZ X.K cl W fs) σ H Q := by
  obtain ⟨F, A, γ, rel, h⟩ := h
  dsimp only at h
  refine ⟨F, A, γ, rel, ?_⟩
  cases e : f γ with
  | no => rw [e] at h; exact h
  | er x => rw [e] at h; exact h
  | ok l =>
    rw [e] at h
    simp only [R.bind_ok] at h
    intro F1 H1 v e1 r1
    cases ek : l.keep with
    | no => rw [ek] at h; exact h.elim
    | er x => exact (l.keep_ne _ ek).elim
    | ok x =>
      rw [ek] at h
      simp only [R.bind_ok] at h
      obtain ⟨F2, e2, s2, rx⟩ := keep_ok r1 e1 ek
      cases eg : mlook tbl m x with
      | no => rw [eg] at h; exact h.elim
      | er x => exact (mlook_ne eg).elim
      | ok g =>
        rw [eg] at h
        simp only [R.bind_ok] at h
        obtain ⟨c, fl, rfl, nl, tl⟩ := mlook_ok eg
        have rx' := rx
        simp only [Rp] at rx'
        obtain ⟨a, C, dx, vs, rfl, hc, ha, rf⟩ := rx'
        have lk := rf.look (n := m)
        rw [nl] at lk
        refine ⟨a, C, dx, vs, _, rfl, e2.sub _ _ ha, lk, M.at_ c g C tl hc, F2, A, γ, rel.ext e2, ?_⟩
        unfold zDf at h
        cases ea : fs γ with
        | no => rw [ea] at h; exact h
        | er x => rw [ea] at h; exact fun F' H' c d ex r => h F' H' c d (e2.trans ex) r
        | ok xs =>
          rw [ea] at h
          simp only [R.bind_ok] at h
          intro F3 H3 ws e3 r3
          refine ⟨F3, .obj c fl :: (xs ++ dp), e3.sub, RpL.cons (rx.mono e3.fle) (r3.append (rd F3)), ?_⟩
          refine hk F3 H3 (g (.obj c fl :: (xs ++ dp))) ?_
          cases er : kk (g (.obj c fl :: (xs ++ dp))) with
          | no => rw [er] at h; exact h
          | er y => rw [er] at h; exact fun F' H' c d ex r => h F' H' c d ((e2.trans e3).trans ex) r
          | ok l' =>
            rw [er] at h
            obtain ⟨y, rfl⟩ := hz _ _ er
            intro F' H' u ex ru
            obtain ⟨Ar, o1, _, _⟩ := ru
            simp only [OwM] at o1
            exact h F' H' u ((e2.trans e3).trans ex) (VlR.zz o1.1)
theorem hk0 {σ : L2.St} {Q : VK} (F H : Hp) (r : R PV) : (match (r.noer).map .z with
      | .ok l => ∀ F' H' v, Ext F H F' H' → VlR ⟨X.K, cl⟩ F' H' H [] l v → Q v H'
      | .er e => ∀ F' H' c d, Ext F H F' H' → XcR ⟨X.K, cl⟩ F' e c d → W c d σ H'
      | .no => False) → (match r with
      | .ok x => ∀ F' H' v, Ext F H F' H' → Rp ⟨X.K, cl⟩ F' x v → Q v H'
      | .er e => ∀ F' H' c d, Ext F H F' H' → XcR ⟨X.K, cl⟩ F' e c d → (fun _ => E0) σ c d H'
      | .no => False) := by
  intro h
  cases r with
  | ok x => exact fun F' H' v ex r => h F' H' v ex (VlR.zz r)
  | er x => exact h.elim
  | no => exact h
theorem hkX {σ : L2.St} {Q : VK} (F H : Hp) (r : R PV) : (match r.map .z with
      | .ok l => ∀ F' H' v, Ext F H F' H' → VlR ⟨X.K, cl⟩ F' H' H [] l v → Q v H'
      | .er e => ∀ F' H' c d, Ext F H F' H' → XcR ⟨X.K, cl⟩ F' e c d → W c d σ H'
      | .no => False) → (match r with
      | .ok x => ∀ F' H' v, Ext F H F' H' → Rp ⟨X.K, cl⟩ F' x v → Q v H'
      | .er e => ∀ F' H' c d, Ext F H F' H' → XcR ⟨X.K, cl⟩ F' e c d → WE W σ c d H'
      | .no => False) := by
  intro h
  cases r with
  | ok x => exact fun F' H' v ex r => h F' H' v ex (VlR.zz r)
  | er x => exact h
  | no => exact h
theorem hz0 (r : R PV) (l : Vl) (h : (r.noer).map .z = .ok l) : ∃ x, l = .z x := by cases r <;> cases h; exact ⟨_, rfl⟩
theorem hzX (r : R PV) (l : Vl) (h : r.map .z = .ok l) : ∃ x, l = .z x := by cases r <;> cases h; exact ⟨_, rfl⟩
variable {m : String} {tbl : List (String × (List PV → R PV))} {f : Ex} {fs : Env → R (List PV)} {o e : Expr} {es : List Expr} {apos pos : Pos} {pl : Sem Bool} {ds : List Value} {dp : List PV} {dv : List V}
theorem q_mN (M : MetT X cl m tbl []) (hG : X.A.guards = some []) (ho : QE cl X W f o) (ha : QZ cl X W fs (e :: es))
    (hst : starEach (e :: es) X.env = (false, eval e X.env) :: starEach es X.env := by rfl) (hpl : (backTo pos (starEach es X.env)).any (·.1) = false := by rfl)
    (ht : eval (.Call (.Attribute o (Str.ofString m) apos) (e :: es) [] pos) X.env = (do
      let ov ← eval o X.env
      standAt apos.atName
      let (f, first) ← holding [ov] (getMethod ov (Str.ofString m) pl)
      callWith pos f first (backTo pos (starEach (e :: es) X.env)) (backToKw pos (keywordEach [] X.env))) := by rfl) :
    QE cl X W (xMeth0 m tbl f fs) (.Call (.Attribute o (Str.ofString m) apos) (e :: es) [] pos) :=
  ⟨(pe_methG ho.pe hG .nil pas0 ha.pa hst hpl ht).imp fun σ H Q h => tq_meth (dp := []) (dv := []) (kk := fun r => (r.noer).map .z) (fun F => RpL.nil) M σ H Q hk0 hz0 (by unfold xMeth0 at h; rwa [zDf_nil fs])⟩
theorem q_mX (tk : Takes X W) (M : MetT X cl m tbl []) (hG : X.A.guards = some []) (ho : QE cl X W f o) (ha : QZ cl X W fs (e :: es))
    (hst : starEach (e :: es) X.env = (false, eval e X.env) :: starEach es X.env := by rfl) (hpl : (backTo pos (starEach es X.env)).any (·.1) = false := by rfl)
    (ht : eval (.Call (.Attribute o (Str.ofString m) apos) (e :: es) [] pos) X.env = (do
      let ov ← eval o X.env
      standAt apos.atName
      let (f, first) ← holding [ov] (getMethod ov (Str.ofString m) pl)
      callWith pos f first (backTo pos (starEach (e :: es) X.env)) (backToKw pos (keywordEach [] X.env))) := by rfl) :
    QE cl X W (xMeth m tbl f fs) (.Call (.Attribute o (Str.ofString m) apos) (e :: es) [] pos) :=
  ⟨(pe_methG ho.pe hG .nil (fun σ => passAt tk σ) ha.pa hst hpl ht).imp fun σ H Q h => tq_meth (dp := []) (dv := []) (kk := fun r => r.map .z) (fun F => RpL.nil) M σ H Q hkX hzX (by unfold xMeth at h; rwa [zDf_nil fs])⟩
/-- o.m(), defaults behind -/
theorem tMet_nil {E : L2.St → XK} {σ : L2.St} {H : Hp} {Q : VK} (h : tMetG X (Str.ofString m) dv ds E (tq X.K cl W f) (tqZ X.K cl W aNil) σ H Q) : tMetG X (Str.ofString m) dv ds E (tq X.K cl W f) tNil σ H Q := by
  obtain ⟨F, A, γ, rel, h⟩ := h
  refine ⟨F, A, γ, rel, ?_⟩
  cases e : f γ with
  | no => rw [e] at h; exact h
  | er x => rw [e] at h; exact h
  | ok l =>
    rw [e] at h
    intro F1 H1 v e1 r1
    obtain ⟨a, C, dx, fs, sp, r, ha, nl, M, F2, A2, γ2, rel2, q⟩ := h F1 H1 v e1 r1
    exact ⟨a, C, dx, fs, sp, r, ha, nl, M, q F2 H1 [] (Ext.refl rel2.sub) RpL.nil⟩
theorem q_mN0 (M : MetT X cl m tbl ds) (hd : Vals dv ds) (rd : ∀ F, RpL ⟨X.K, cl⟩ F dp dv) (hG : X.A.guards = some []) (ho : QE cl X W f o)
    (ht : eval (.Call (.Attribute o (Str.ofString m) apos) [] [] pos) X.env = (do
      let ov ← eval o X.env
      standAt apos.atName
      let (f, first) ← holding [ov] (getMethod ov (Str.ofString m) pl)
      callWith pos f first (backTo pos (starEach [] X.env)) (backToKw pos (keywordEach [] X.env))) := by rfl) :
    QE cl X W (xMeth0 m tbl f (zDf aNil dp)) (.Call (.Attribute o (Str.ofString m) apos) [] [] pos) :=
  ⟨(pe_methG0 ho.pe hG hd pas0 ht).imp fun σ H Q h => tMet_nil (tq_meth (kk := fun r => (r.noer).map .z) rd M σ H Q hk0 hz0 (by unfold xMeth0 at h; exact h))⟩
theorem q_mX0 (tk : Takes X W) (M : MetT X cl m tbl ds) (hd : Vals dv ds) (rd : ∀ F, RpL ⟨X.K, cl⟩ F dp dv) (hG : X.A.guards = some []) (ho : QE cl X W f o)
    (ht : eval (.Call (.Attribute o (Str.ofString m) apos) [] [] pos) X.env = (do
      let ov ← eval o X.env
      standAt apos.atName
      let (f, first) ← holding [ov] (getMethod ov (Str.ofString m) pl)
      callWith pos f first (backTo pos (starEach [] X.env)) (backToKw pos (keywordEach [] X.env))) := by rfl) :
    QE cl X W (xMeth m tbl f (zDf aNil dp)) (.Call (.Attribute o (Str.ofString m) apos) [] [] pos) :=
  ⟨(pe_methG0 ho.pe hG hd (fun σ => passAt tk σ) ht).imp fun σ H Q h => tMet_nil (tq_meth (kk := fun r => r.map .z) rd M σ H Q hkX hzX (by unfold xMeth at h; exact h))⟩
end
end Z
/-! the pure layer, part W: methods of an own thing, instances made -/
namespace Z
open PySem L2
/-! ### what a method makes of its thing -/
inductive RM where
  | ok (r : PV) (m : Md) (x : PV) | er (e : Xc) (m : Md) (x : PV) | no
abbrev MF := Md → PV → List PV → RM
def spM (K : PySem.W.Frag) (cl : Cl) (g : MF) : Sp := fun vs H Q E => ∃ F m x v0 A xs vs', vs = v0 :: vs' ∧ Same F H ∧ OwM ⟨K, cl⟩ F H m x v0 A ∧ A.Nodup ∧ (∀ a ∈ A, F a = none) ∧ RpL ⟨K, cl⟩ F xs vs' ∧ match g m x xs with
  | .ok r m' x' => ∀ F' A' H' v, Step F A H F' A' H' → Same F' H' → OwM ⟨K, cl⟩ F' H' m' x' v0 A' → A'.Nodup → (∀ a ∈ A', F' a = none) → Rp ⟨K, cl⟩ F' r v → Q v H'
  | .er e m' x' => ∀ F' A' H' c d, Step F A H F' A' H' → Same F' H' → OwM ⟨K, cl⟩ F' H' m' x' v0 A' → A'.Nodup → (∀ a ∈ A', F' a = none) → XcR ⟨K, cl⟩ F' e c d → E c d H'
  | .no => False
theorem spM.re {K : PySem.W.Frag} {c : Cl} {g : MF} (u w : V) {vs H Q E} (h : spM K (c.at u) g vs H Q E) : spM K (c.at w) g vs H Q E := by
  obtain ⟨F, m, x, v0, A, xs, vs', e, s, o, nd, d, r, h⟩ := h
  refine ⟨F, m, x, v0, A, xs, vs', e, s, o.re, nd, d, RpL.re _ _ r, ?_⟩
  cases e : g m x xs with
  | ok y m' x' => rw [e] at h; exact fun F' A' H' v st sb ow nd' d' rv => h F' A' H' v st sb ow.re nd' d' (Rp.re _ _ rv)
  | er y m' x' => rw [e] at h; exact fun F' A' H' c d st sb ow nd' d' rv => h F' A' H' c d st sb ow.re nd' d' rv.re
  | no => rw [e] at h; exact h
def outM : Os → RM
  | .rt r (.me m x :: _) => .ok r m x
  | .nx (.me m x :: _) => .ok .non m x
  | .er e (.me m x :: _) => .er e m x
  | _ => .no
def frameM (nl : Nat) (m : Md) (x : PV) (xs : List PV) : Env := .me m x :: (xs.map (.sl .fz) ++ List.replicate (nl - (xs.length + 1)) .un)
def runM (np nl : Nat) (body : Env → Os) : MF := fun m x xs => if xs.length + 1 = np then outM (body (frameM nl m x xs)) else .no
theorem spM_len {K : PySem.W.Frag} {cl : Cl} {np nl body vs H Q E} (h : spM K cl (runM np nl body) vs H Q E) : vs.length = np := by
  obtain ⟨F, m, x, v0, A, xs, vs', rfl, s, o, nd, d, r, h⟩ := h
  unfold runM at h
  by_cases hl : xs.length + 1 = np
  · rw [List.length_cons, r.length]; exact hl
  · rw [if_neg hl] at h; exact h.elim
theorem Step.sub {F A H F1 A1 A2 H1} (s : Step F A H F1 A1 H1) (h : ∀ a ∈ A2, a ∈ A1) : Step F A H F1 A2 H1 := ⟨s.fle, s.keep, fun a ha => s.own a (h a ha), s.new⟩
/-- slot .me at the end -/
theorem Rel.me {K : PySem.W.Frag} {cl : Cl} {F H : Hp} {A σ m x γ} (rel : Rel ⟨K, cl⟩ F A σ H (.me m x :: γ)) : ∃ A1, OwM ⟨K, cl⟩ F H m x cl.r0 A1 ∧ A1.Nodup ∧ (∀ a ∈ A1, a ∈ A) := by
  obtain ⟨A1, S, _, rfl, o, _⟩ := OwE.splitMe γ rel.env
  exact ⟨A1, o, (List.nodup_append.mp rel.nd).1, fun a ha => List.mem_append_left _ ha⟩
theorem body_okM {K : PySem.W.Frag} {cl : Cl} {X : Cx} {body : Env → Os} {N : List Str} {np : Nat} {v0 : V} {vs : List V} {H : Hp} {Q : VK} {E : XK} {W : WX} (hK : X.K = K) (hW : ∀ c d σ H, E c d H → W c d σ H) (h : spM K cl (runM np N.length body) (v0 :: vs) H Q E) :
    tqS X (cl.at v0) W body { nx := fun _ H' => Q .non H', rt := Q } (L2.start N (v0 :: vs)) H := by
  replace h : spM K (cl.at cl.r0) (runM np N.length body) (v0 :: vs) H Q E := h
  replace h := spM.re cl.r0 v0 h
  obtain ⟨F, m, x, v0', A, xs, vs', e, s, o, nd, d, r, h⟩ := h
  obtain ⟨rfl, rfl⟩ := List.cons.inj e
  subst hK
  unfold runM at h
  by_cases hl : ¬ xs.length + 1 = np
  · rw [if_neg hl] at h; exact h.elim
  replace hl := Decidable.not_not.mp hl
  rw [if_pos hl] at h
  refine ⟨F, A, frameM N.length m x xs, ⟨s, ?_, nd, d⟩, ?_⟩
  · unfold frameM L2.start
    simp only [List.map_cons, List.cons_append, OwE]
    refine ⟨v0, _, A, [], rfl, (by simp), ⟨o, rfl⟩, ?_⟩
    rw [List.length_cons, r.length]
    exact start_ok _ r
  have fin : ∀ {F' A' σ' H' m' x' γ'}, Step F A H F' A' H' → Rel ⟨X.K, cl.at v0⟩ F' A' σ' H' (.me m' x' :: γ') → ∃ A1, Step F A H F' A1 H' ∧ Same F' H' ∧ OwM ⟨X.K, cl.at v0⟩ F' H' m' x' v0 A1 ∧ A1.Nodup ∧ ∀ a ∈ A1, F' a = none := fun st rel => by
    obtain ⟨A1, o1, n1, s1⟩ := rel.me
    exact ⟨A1, st.sub s1, rel.sub, o1, n1, fun a ha => rel.dis a (s1 a ha)⟩
  cases e : body (frameM N.length m x xs) with
  | nx γ' =>
    rw [e] at h
    cases γ' with
    | nil => exact h.elim
    | cons sl γ' =>
      cases sl with
      | un => exact h.elim
      | sl _ _ => exact h.elim
      | me m' x' => exact fun F' A' σ' H' st rel => let ⟨A1, a, b, c, d, e⟩ := fin st rel; h F' A1 H' .non a b c d e (by simp [Rp])
  | rt y γ' =>
    rw [e] at h
    cases γ' with
    | nil => exact h.elim
    | cons sl γ' =>
      cases sl with
      | un => exact h.elim
      | sl _ _ => exact h.elim
      | me m' x' => exact fun F' A' σ' H' v st rel rv => let ⟨A1, a, b, c, d, e⟩ := fin st rel; h F' A1 H' v a b c d e rv
  | er y γ' =>
    rw [e] at h
    cases γ' with
    | nil => exact h.elim
    | cons sl γ' =>
      cases sl with
      | un => exact h.elim
      | sl _ _ => exact h.elim
      | me m' x' => exact fun F' A' σ' H' c d st rel rv => let ⟨A1, a, b, c', d', e⟩ := fin st rel; hW _ _ _ _ (h F' A1 H' c d a b c' d' e rv)
  | bk γ' => rw [e] at h; exact h.elim
  | ct γ' => rw [e] at h; exact h.elim
  | no => rw [e] at h; exact h.elim
section
variable {P : Program} {w : World} {K : PySem.W.Frag} {mg : Str → Option Value} {base : Heap}
theorem q_funM {cl : Cl} {x qual : Str} {st : Stmt} {f : Addr} {fd : FuncData} {N ps : List Str} {k : Nat} {body : Env → Os} {np nl : Nat} {g : MF} (hg : g = runM np nl body) (Fn : FnAt K x qual st f fd) (S : FnScope N ps (defScope st)) (hp : ps.length = np) (hl : N.length = nl)
    (hb : ∀ (v0 : V) (cdv : Value) (A : Around) (outer : List PySem.Env) (s : Shared) (H : Hp) (E : XK), Room k (A.deeper (PyProof.Rows.envOfC qual (defScope st) s.heap.objs.size f cdv)) → A.guards = some [] →
      Takes (cxOf (L2.CX P w) P w K mg base N qual (defScope st) f cdv A outer s H E) (fun cls d _ H => E cls d H) → QSs (cl.at v0) (cxOf (L2.CX P w) P w K mg base N qual (defScope st) f cdv A outer s H E) (fun cls d _ H => E cls d H) body (defBody st)) :
    FnG P w K mg base (k + 1) f fd ps (spM K cl g) := by
  subst hg hp hl
  refine Fun.okG Fn.ex S (fun vs H Q E h => spM_len h) fun cdv A outer s H vs Q E hr hg h => ?_
  have h' := h
  obtain ⟨F, m, x, v0, A', xs, vs', rfl, _⟩ := h'
  exact ⟨_, (hb v0 cdv A outer s H E hr hg (takes_of rfl rfl rfl rfl)).ps, body_okM rfl (fun _ _ _ _ z => z) h⟩
end

section
variable {X : Cx} {cl : Cl} {W : WX}
/-! ### ghost steps: a slot frozen -/
def frzE (i : Nat) (γ : Env) : Env := match γ[i]? with
  | some (.sl _ x) => γ.set i (.sl .fz x)
  | _ => γ
theorem Rel.frz {T : Tb} {F H : Hp} {A σ γ} {i : Nat} (rel : Rel T F A σ H γ) : ∃ F' A', Rel T F' A' σ H (frzE i γ) ∧ Step F A H F' A' H := by
  unfold frzE
  split
  · rename_i m x e
    obtain ⟨v, Ai, h1, h2, h3, h4⟩ := rel.mut e
    have d : ∀ a ∈ Ai, F a = none := fun a ha => rel.dis a (h3 a ha)
    obtain ⟨A2, r, s⟩ := h4 .fz x (Z.frz F H Ai) H [] (frz_same d) (fun _ _ _ q => q) (frz_sub rel.sub) (OwM.fz_of (OwM.freeze (frz_same d) m h2 fun a ha o h => frz_at ha h)) (by simp) (by simp) (by simp) (fun a o q => by
      by_cases ha : a ∈ Ai
      · exact .inr (.inl ha)
      · rw [frz_out ha] at q; exact .inl q)
    exact ⟨_, A2, r, s⟩
  · exact ⟨F, A, rel, Step.refl⟩
theorem qs_frz {i : Nat} {g : Env → Os} {st : Stmt} (h : QS cl X W g st) : QS cl X W (fun γ => g (frzE i γ)) st := ⟨h.ps.imp fun D σ H q => by
  obtain ⟨F, A, γ, rel, q⟩ := q
  obtain ⟨F', A', r, s⟩ := rel.frz (i := i)
  exact ⟨F', A', _, r, Fin.step q s⟩⟩
/-! ### return in a method -/
def sRetM (f : Ex) : Env → Os := fun γ => match f γ with
  | .ok l => match l.keep with
    | .ok x => .rt x γ
    | _ => .no
  | .er e => .er e γ
  | .no => .no
theorem qs_retM {f} {e : Expr} {pos : Pos} (he : QE cl X W f e) : QS cl X W (sRetM f) (.Return (some e) pos) := ⟨(ps_ret he.pe).imp fun D σ H h => by
  obtain ⟨F, A, γ, rel, h⟩ := h
  refine ⟨F, A, γ, rel, ?_⟩
  unfold sRetM at h
  cases e : f γ with
  | no => rw [e] at h; exact h
  | er x => rw [e] at h; exact fun F' H' c d ex r => h F' A σ H' c d (Step.ext ex) (rel.ext ex) r
  | ok l =>
    rw [e] at h
    simp only at h
    intro F1 H1 v e1 r
    cases ek : l.keep with
    | no => rw [ek] at h; exact h.elim
    | er x => exact (l.keep_ne _ ek).elim
    | ok x =>
      rw [ek] at h
      obtain ⟨F2, e2, s2, rx⟩ := keep_ok r e1 ek
      exact h F2 A σ H1 v (Step.ext e2) (rel.ext e2) rx⟩
/-! ### self.f = e -/
def put2 (n : String) (m : Md) (y : PV) : List Md → List (String × PV) → List Md × List (String × PV)
  | m0 :: ms, (f, x) :: fs => if f = n then (m :: ms, (n, y) :: fs) else let r := put2 n m y ms fs; (m0 :: r.1, (f, x) :: r.2)
  | _, _ => ([m], [(n, y)])
theorem put2_ok {T : Tb} {F H : Hp} {n : String} {m : Md} {y : PV} {v : V} {Ar : List Addr} (hv : OwM T F H m y v Ar) (nr : Ar.Nodup) : ∀ {ms : List Md} {fs : List (String × PV)} {vs : List (Str × V)} {A : List Addr}, OwF T F H ms fs vs A → A.Nodup → (∀ a ∈ Ar, a ∉ A) →
    ∃ A', OwF T F H (put2 n m y ms fs).1 (put2 n m y ms fs).2 (putF (Str.ofString n) v vs) A' ∧ A'.Nodup ∧ ∀ a ∈ A', a ∈ A ∨ a ∈ Ar
  | [], fs, vs, A, h, nd, dj => by
    simp only [OwF] at h
    obtain ⟨rfl, rfl, rfl⟩ := h
    refine ⟨Ar, ?_, nr, fun a ha => .inr ha⟩
    simp only [put2, putF, OwF]
    exact ⟨n, y, [], v, [], Ar, [], rfl, rfl, by simp, hv, rfl, rfl, rfl⟩
  | m0 :: ms, fs, vs, A, h, nd, dj => by
    simp only [OwF] at h
    obtain ⟨f, x, fs', u, vs', A1, A2, rfl, rfl, rfl, h1, h2⟩ := h
    obtain ⟨n1, n2, n3⟩ := List.nodup_append.mp nd
    by_cases e : f = n
    · subst e
      refine ⟨Ar ++ A2, ?_, List.nodup_append.mpr ⟨nr, n2, fun a ha b hb e => dj a ha (List.mem_append_right _ (e ▸ hb))⟩, fun a ha => ?_⟩
      · simp only [put2, putF, if_true, OwF]
        exact ⟨f, y, fs', v, vs', Ar, A2, rfl, rfl, rfl, hv, h2⟩
      · rcases List.mem_append.mp ha with z | z
        · exact .inr z
        · exact .inl (List.mem_append_right _ z)
    · have e2 : ¬ Str.ofString f = Str.ofString n := fun z => e (ofString_inj z)
      obtain ⟨A', q1, q2, q3⟩ := put2_ok hv nr h2 n2 fun a ha z => dj a ha (List.mem_append_right _ z)
      refine ⟨A1 ++ A', ?_, List.nodup_append.mpr ⟨n1, q2, fun a ha b hb e => ?_⟩, fun a ha => ?_⟩
      · simp only [put2, putF, e, e2, if_false, OwF]
        exact ⟨f, x, _, u, _, A1, A', rfl, rfl, rfl, h1, q1⟩
      · subst e
        rcases q3 a hb with z | z
        · exact n3 a ha a z rfl
        · exact dj a z (List.mem_append_left _ ha)
      · rcases List.mem_append.mp ha with z | z
        · exact .inl (List.mem_append_left _ z)
        · rcases q3 a z with y | y
          · exact .inl (List.mem_append_right _ y)
          · exact .inr y
/-- a value to be held: how -/
def Vl.hold : Vl → Option (Md × PV)
  | .fr m x => some (m, x)
  | .pk .fz x => some (.fz, x)
  | _ => none
def sFst (n : String) (f : Ex) : Env → Os := fun γ => match f γ with
  | .ok l => match l.hold, γ with
    | some (m, y), .me (.ob ms) (.obj c fs) :: γ' => if fs.length < 900 then .nx (.me (.ob (put2 n m y ms fs).1) (.obj c (put2 n m y ms fs).2) :: γ') else .no
    | _, _ => .no
  | .er e => .er e γ
  | .no => .no
theorem OwF.len {T : Tb} {F H : Hp} : ∀ {ms : List Md} {fs : List (String × PV)} {vs : List (Str × V)} {A : List Addr}, OwF T F H ms fs vs A → vs.length = fs.length
  | [], fs, vs, A, h => by simp only [OwF] at h; rw [h.1, h.2.1]; rfl
  | m :: ms, fs, vs, A, h => by
    simp only [OwF] at h
    obtain ⟨f, x, fs', u, vs', A1, A2, rfl, rfl, rfl, h1, h2⟩ := h
    simp [OwF.len h2]
theorem hold_ok {T : Tb} {H F1 H1 : Hp} {A : List Addr} {l : Vl} {v : V} {m y} (r : VlR T F1 H1 H A l v) (h : l.hold = some (m, y)) : ∃ Ar, OwM T F1 H1 m y v Ar ∧ Ar.Nodup ∧ ∀ a ∈ Ar, H a = none ∧ F1 a = none := by
  cases l with
  | fr m' x => simp [Vl.hold] at h; obtain ⟨rfl, rfl⟩ := h; exact r
  | pk m' x =>
    cases m' <;> simp [Vl.hold] at h
    obtain ⟨rfl, rfl⟩ := h
    obtain ⟨Ai, h1, _⟩ := r
    simp only [OwM] at h1
    exact ⟨[], OwM.fz_of h1.1, by simp, by simp⟩
/-- the thing in slot .me: its root, its fields; and a new object there -/
theorem Rel.root {K : PySem.W.Frag} {cl : Cl} {F H : Hp} {A σ ms c fs γ} (rel : Rel ⟨K, cl⟩ F A σ H (.me (.ob ms) (.obj c fs) :: γ)) : ∃ a C dx vs A', σ[0]? = some (some (.ref a)) ∧ H a = some (.ins C dx vs) ∧ cl.i c = some C ∧ OwF ⟨K, cl⟩ F H ms fs vs A' ∧ a ∈ A ∧ a ∉ A' ∧ A'.Nodup ∧ (∀ b ∈ A', b ∈ A) ∧
    ∀ F1 H1 ms' fs' vs' A1, Ext F H F1 H1 → OwF ⟨K, cl⟩ F1 H1 ms' fs' vs' A1 → A1.Nodup → (∀ b ∈ A1, b ∈ A' ∨ (H b = none ∧ F1 b = none)) →
      ∃ A2, Rel ⟨K, cl⟩ F1 A2 σ (upd H1 a (.ins C dx vs')) (.me (.ob ms') (.obj c fs') :: γ) ∧ Step F A H F1 A2 (upd H1 a (.ins C dx vs')) := by
  obtain ⟨Ai, S, h1, rfl, h3, h4⟩ := OwE.splitMe γ rel.env
  have h3' := h3
  simp only [OwM] at h3'
  obtain ⟨a, C, dx, vs, A', er, rfl, ha, hc, of⟩ := h3'
  obtain ⟨n1, nS, dS⟩ := List.nodup_append.mp rel.nd
  obtain ⟨na, n2⟩ := List.nodup_cons.mp n1
  rw [er] at h1
  refine ⟨a, C, dx, vs, A', h1, ha, hc, of, by simp, na, n2, fun b hb => by simp [hb], fun F1 H1 ms' fs' vs' A1 e1 of' nd1 own => ?_⟩
  have rel1 := rel.ext e1
  have naF : F1 a = none := rel1.dis a (by simp)
  have live : ∀ b, b ∈ a :: A' ++ S → ∃ o, H b = some o := OwE.dom _ rel.env
  have naA : a ∉ A1 := fun z => by
    rcases own a z with q | q
    · exact na q
    · rw [ha] at q; cases q.1
  have up : ∀ b, b ≠ a → ∀ o, H1 b = some o → upd H1 a (.ins C dx vs') b = some o := fun b hb o q => by rw [upd_ne hb]; exact q
  have ofU : OwF ⟨K, cl⟩ F1 (upd H1 a (.ins C dx vs')) ms' fs' vs' A1 := OwF.mono (Same.refl _) ms' of' fun b hb o q => up b (fun z => naA (z ▸ hb)) o q
  have nSa : a ∉ S := fun z => dS a (by simp) a z rfl
  refine ⟨a :: A1 ++ S, ⟨fun b o q => ?_, ?_, ?_, fun b hb => ?_⟩, ⟨e1.fle, fun b o hb q => ?_, fun b hb => ?_, fun b o q => (e1.new b o q).elim .inl fun z => .inr (.inr z)⟩⟩
  · exact up b (fun z => by subst z; rw [naF] at q; cases q) o (e1.sub b o q)
  · refine h4 (.ob ms') (.obj c fs') F1 (upd H1 a (.ins C dx vs')) (a :: A1) e1.fle (fun b hb o q => up b (fun z => nSa (z ▸ hb)) o (e1.hle b o q)) ?_
    simp only [OwM]
    exact ⟨a, C, dx, vs', A1, er, rfl, upd_same, hc, ofU⟩
  · refine List.nodup_append.mpr ⟨List.nodup_cons.mpr ⟨naA, nd1⟩, nS, fun b hb b' hb' e => ?_⟩
    subst e
    rcases List.mem_cons.mp hb with z | z
    · exact nSa (z ▸ hb')
    · rcases own b z with q | q
      · exact dS b (List.mem_cons_of_mem _ q) b hb' rfl
      · obtain ⟨o, ho⟩ := live b (by simp [hb'])
        rw [q.1] at ho; cases ho
  · simp only [List.cons_append, List.mem_cons, List.mem_append] at hb
    rcases hb with z | z | z
    · subst z; exact naF
    · rcases own b z with q | q
      · exact rel1.dis b (by simp [q])
      · exact q.2
    · exact rel1.dis b (by simp [z])
  · exact up b (fun z => hb (by simp [z])) o (e1.hle b o q)
  · simp only [List.cons_append, List.mem_cons, List.mem_append] at hb
    rcases hb with z | z | z
    · exact .inl (by simp [z])
    · rcases own b z with q | q
      · exact .inl (by simp [q])
      · exact .inr q.1
    · exact .inl (by simp [z])
theorem qs_fst {n : String} {x : Str} {f} {e : Expr} {p p' pos : Pos} (O : ClOk X.K cl) (na : ∀ c C, cl.i c = some C → NoAttr X.K C (Str.ofString n)) (he : QE cl X W f e) (hN : X.N[0]? = some x := by rfl) (hv : Vis X.env.scope x := by first | exact Or.inl rfl | exact Or.inr (Or.inl rfl) | exact Or.inr (Or.inr rfl))
    (hd : (x == ("__debug__" : Str)) = false := by decide) (hcd : (x == ("__classdict__" : Str)) = false := by decide) (hs : swapsWith e (some (.Attribute (.Name x p) (Str.ofString n) p')) pos.line X.env = pure false := by rfl) :
    QS cl X W (sFst n f) (.Assign [.Attribute (.Name x p) (Str.ofString n) p'] e pos) := ⟨(ps_fld (pe_var (i := 0) hN hv hd hcd) he.pe hs).imp fun D σ H h => by
  obtain ⟨F, A, γ, rel, h⟩ := h
  refine ⟨F, A, γ, rel, ?_⟩
  unfold sFst at h
  cases e : f γ with
  | no => rw [e] at h; exact h
  | er x => rw [e] at h; exact fun F' H' c d ex r => h F' A σ H' c d (Step.ext ex) (rel.ext ex) r
  | ok l =>
    rw [e] at h
    dsimp only at h
    intro F1 H1 v e1 r1
    split at h
    · rename_i m y ms c fs γ' hh
      split at h
      · rename_i hl
        obtain ⟨Ar, o1, n1, f1⟩ := hold_ok r1 hh
        obtain ⟨a, C, dx, vs, A', h0, ha, hc, of, aA, aA', nA', sA', k⟩ := rel.root
        have of1 := OwF.mono e1.fle ms of fun b _ o q => e1.hle b o q
        obtain ⟨A2, q1, q2, q3⟩ := put2_ok (n := n) o1 n1 of1 nA' fun b hb z => by
          obtain ⟨o, ho⟩ := OwF.dom ms of b z
          rw [(f1 b hb).1] at ho; cases ho
        obtain ⟨A3, r3, s3⟩ := k F1 H1 _ _ _ A2 e1 q1 q2 fun b hb => (q3 b hb).imp id (f1 b)
        exact ⟨_, h0, a, C, dx, vs, rfl, e1.hle _ _ ha, (O.i c C hc).cl, na c C hc, by rw [of.len]; omega, h F1 A3 σ _ s3 r3⟩
      · exact h.elim
    · exact h.elim⟩
theorem _root_.Z.FnG.at {P w K mg base k f fd ps} {cl : Cl} {g : List PV → R PV} (F : FnG P w K mg base k f fd ps (spQ K cl g)) (v : V) : FnG P w K mg base k f fd ps (spQ K (cl.at v) g) := F.imp fun _ _ _ _ h => spQ.re v cl.r0 h
theorem _root_.Z.FnG.atM {P w K mg base k f fd ps} {cl : Cl} {g : MF} (F : FnG P w K mg base k f fd ps (spM K cl g)) (v : V) : FnG P w K mg base k f fd ps (spM K (cl.at v) g) := F.imp fun _ _ _ _ h => spM.re v cl.r0 h
/-! ### expressions that change an own thing -/
inductive RE where
  | ok (r : PV) (γ : Env) | er (e : Xc) (γ : Env) | no
def tqE (K : PySem.W.Frag) (cl : Cl) (W : WX) (f : Env → RE) : TE := fun σ H Q => ∃ F A γ, Rel ⟨K, cl⟩ F A σ H γ ∧ match f γ with
  | .ok r γ' => ∀ F' A' H' v, Step F A H F' A' H' → Rel ⟨K, cl⟩ F' A' σ H' γ' → Rp ⟨K, cl⟩ F' r v → Q v H'
  | .er e γ' => ∀ F' A' H' c d, Step F A H F' A' H' → Rel ⟨K, cl⟩ F' A' σ H' γ' → XcR ⟨K, cl⟩ F' e c d → W c d σ H'
  | .no => False
structure QM (cl : Cl) (X : Cx) (W : WX) (f : Env → RE) (e : Expr) : Prop where
  pe : PE X e (tqE X.K cl W f)
def sExE (f : Env → RE) : Env → Os := fun γ => match f γ with
  | .ok _ γ' => .nx γ'
  | .er e γ' => .er e γ'
  | .no => .no
theorem qs_exprE {f} {e : Expr} {pos : Pos} (he : QM cl X W f e) (hs : swapsWith e none pos.line X.env = pure false := by rfl) : QS cl X W (sExE f) (.Expr e pos) := ⟨(ps_expr he.pe hs).imp fun D σ H h => by
  obtain ⟨F, A, γ, rel, h⟩ := h
  refine ⟨F, A, γ, rel, ?_⟩
  unfold sExE at h
  cases e : f γ with
  | no => rw [e] at h; exact h
  | er x γ' => rw [e] at h; exact fun F' A' H' c d st r rx => h F' A' σ H' c d st r rx
  | ok l γ' => rw [e] at h; exact fun F' A' H' v st r rx => h F' A' σ H' st r⟩
def sSetE (i : Nat) (f : Env → RE) : Env → Os := fun γ => match f γ with
  | .ok r γ' => .nx (γ'.set i (.sl .fz r))
  | .er e γ' => .er e γ'
  | .no => .no
theorem qs_setE {i : Nat} {x : Str} {f} {e : Expr} {pos pos' : Pos} (hN : X.N.Nodup) (he : QM cl X W f e) (hi : X.N[i]? = some x := by rfl) (hx : Loc X.env.scope x := by first | exact Or.inl rfl | exact Or.inr rfl) (hs : swapsWith e (some (.Name x pos')) pos.line X.env = pure false := by rfl)
    (hf : X.fn x = true ∨ X.env.scope.names.lookup x = some .local := by first | exact .inl rfl | exact .inr rfl | assumption) : QS cl X W (sSetE i f) (.Assign [.Name x pos'] e pos) := ⟨(ps_set (i := i) hN hi hx he.pe hs hf).imp fun D σ H h => by
  obtain ⟨F, A, γ, rel, h⟩ := h
  refine ⟨F, A, γ, rel, ?_⟩
  unfold sSetE at h
  cases e : f γ with
  | no => rw [e] at h; exact h
  | er x γ' => rw [e] at h; exact fun F' A' H' c d st r rx => h F' A' σ H' c d st r rx
  | ok y γ' =>
    rw [e] at h
    intro F' A' H' v st r rx
    obtain ⟨A2, r2, s2⟩ := r.put (i := i) (OwM.fz_of rx) (by simp) (by simp)
    exact h F' A2 _ H' (st.sub fun a ha => (s2 a ha).elim id fun z => by simp at z) r2⟩
def sRetE (f : Env → RE) : Env → Os := fun γ => match f γ with
  | .ok r γ' => .rt r γ'
  | .er e γ' => .er e γ'
  | .no => .no
theorem qs_retE {f} {e : Expr} {pos : Pos} (he : QM cl X W f e) : QS cl X W (sRetE f) (.Return (some e) pos) := ⟨(ps_ret he.pe).imp fun D σ H h => by
  obtain ⟨F, A, γ, rel, h⟩ := h
  refine ⟨F, A, γ, rel, ?_⟩
  unfold sRetE at h
  cases e : f γ with
  | no => rw [e] at h; exact h
  | er x γ' => rw [e] at h; exact fun F' A' H' c d st r rx => h F' A' σ H' c d st r rx
  | ok y γ' => rw [e] at h; exact fun F' A' H' v st r rx => h F' A' σ H' v st r rx⟩
/-- an own thing in slot i (or slot .me): how, what -/
def thing (i : Nat) (γ : Env) : Option (Md × PV) := match γ[i]? with
  | some (.sl (.ob ms) x) => some (.ob ms, x)
  | some (.me m x) => some (m, x)
  | _ => none
def setT (i : Nat) (m : Md) (x : PV) (γ : Env) : Env := match γ[i]? with
  | some (.me _ _) => γ.set i (.me m x)
  | _ => γ.set i (.sl m x)
/-- slot .me changed in place -/
theorem OwE.splitMeI {T : Tb} {F H : Hp} : (γ : Env) → ∀ {σ A} {i : Nat} {m x}, OwE T F H γ σ A → γ[i]? = some (.me m x) → ∃ P Ai S, σ[i]? = some (some T.cl.r0) ∧ A = P ++ Ai ++ S ∧ OwM T F H m x T.cl.r0 Ai ∧
    ∀ m' x' F' H' A', Same F F' → (∀ a ∈ P ++ S, ∀ o, H a = some o → H' a = some o) → OwM T F' H' m' x' T.cl.r0 A' → OwE T F' H' (γ.set i (.me m' x')) σ (P ++ A' ++ S)
  | [], σ, A, i, m, x, h, e => by simp at e
  | .un :: γ, σ, A, 0, m, x, h, e => by simp at e
  | .sl _ _ :: γ, σ, A, 0, m, x, h, e => by simp at e
  | .me m0 x0 :: γ, σ, A, 0, m, x, h, e => by
    simp at e
    obtain ⟨rfl, rfl⟩ := e
    obtain ⟨A1, S, h1, rfl, h3, h4⟩ := OwE.splitMe γ h
    exact ⟨[], A1, S, h1, by simp, h3, fun m' x' F' H' A' s k r => by simpa using h4 m' x' F' H' A' s (fun a ha => k a (by simpa using ha)) r⟩
  | .un :: γ, σ, A, i + 1, m, x, h, e => by
    simp only [OwE] at h
    obtain ⟨w, σ', rfl, h⟩ := h
    obtain ⟨P, Ai, S, h1, h2, h3, h4⟩ := OwE.splitMeI γ h (by simpa using e)
    refine ⟨P, Ai, S, by simpa using h1, h2, h3, fun m' x' F' H' A' s k r => ?_⟩
    simp only [List.set_cons_succ, OwE]
    exact ⟨w, σ', rfl, h4 m' x' F' H' A' s k r⟩
  | .sl m0 x0 :: γ, σ, A, i + 1, m, x, h, e => by
    simp only [OwE] at h
    obtain ⟨v0, σ', A1, A2, rfl, rfl, h1, h2⟩ := h
    obtain ⟨P, Ai, S, k1, k2, k3, k4⟩ := OwE.splitMeI γ h2 (by simpa using e)
    refine ⟨A1 ++ P, Ai, S, by simpa using k1, by rw [k2]; simp, k3, fun m' x' F' H' A' s k r => ?_⟩
    simp only [List.set_cons_succ, OwE]
    refine ⟨v0, σ', A1, P ++ A' ++ S, rfl, by simp, OwM.mono s m0 h1 fun a ha => k a (by simp [ha]), k4 m' x' F' H' A' s (fun a ha => k a ?_) r⟩
    simp only [List.append_assoc, List.mem_append] at ha ⊢
    exact .inr ha
  | .me m0 x0 :: γ, σ, A, i + 1, m, x, h, e => by
    simp only [OwE] at h
    obtain ⟨v0, σ', A1, A2, rfl, rfl, ⟨h1, h0⟩, h2⟩ := h
    obtain ⟨P, Ai, S, k1, k2, k3, k4⟩ := OwE.splitMeI γ h2 (by simpa using e)
    refine ⟨A1 ++ P, Ai, S, by simpa using k1, by rw [k2]; simp, k3, fun m' x' F' H' A' s k r => ?_⟩
    simp only [List.set_cons_succ, OwE]
    refine ⟨v0, σ', A1, P ++ A' ++ S, rfl, by simp, ⟨OwM.mono s m0 h1 fun a ha => k a (by simp [ha]), h0⟩, k4 m' x' F' H' A' s (fun a ha => k a ?_) r⟩
    simp only [List.append_assoc, List.mem_append] at ha ⊢
    exact .inr ha
/-- what Rel.mut says, from the split of the slots alone -/
theorem mut_of {T : Tb} {F H : Hp} {P Ai S : List Addr} {σ : L2.St} {γ : Env} (rel : Rel T F (P ++ Ai ++ S) σ H γ) {v : V} {up : Md → PV → Env}
    (h4 : ∀ m' x' F' H' A', Same F F' → (∀ a ∈ P ++ S, ∀ o, H a = some o → H' a = some o) → OwM T F' H' m' x' v A' → OwE T F' H' (up m' x') σ (P ++ A' ++ S)) :
    ∀ m' x' F' H' A', Step F Ai H F' A' H' → Same F' H' → OwM T F' H' m' x' v A' → A'.Nodup → (∀ a ∈ A', F' a = none) → ∃ A2, Rel T F' A2 σ H' (up m' x') ∧ Step F (P ++ Ai ++ S) H F' A2 H' := by
  obtain ⟨n12, nS, dS⟩ := List.nodup_append.mp rel.nd
  obtain ⟨nP, nAi, dP⟩ := List.nodup_append.mp n12
  have hd := OwE.dom γ rel.env
  intro m' x' F' H' A' st sub r na d
  have notAi : ∀ a, a ∈ P ∨ a ∈ S → a ∉ Ai := fun a ha z => by
    rcases ha with q | q
    · exact dP a q a z rfl
    · exact dS a (List.mem_append_right _ z) a q rfl
  have live : ∀ a, (a ∈ P ∨ a ∈ S) → a ∉ A' := fun a ha z => by
    rcases st.own a z with q | q
    · exact notAi a ha q
    · obtain ⟨o, ho⟩ := hd a (by rcases ha with w | w <;> simp [w])
      rw [q] at ho; cases ho
  refine ⟨P ++ A' ++ S, ⟨sub, h4 m' x' F' H' A' st.fle (fun a ha o q => st.keep a o (notAi a (List.mem_append.mp ha)) q) r, ?_, fun a ha => ?_⟩, ⟨st.fle, fun a o ha q => st.keep a o (fun z => ha (by simp [z])) q, fun a ha => ?_, fun a o q => ?_⟩⟩
  · refine List.nodup_append.mpr ⟨List.nodup_append.mpr ⟨nP, na, fun a ha b hb e => live a (.inl ha) (e ▸ hb)⟩, nS, fun a ha b hb e => ?_⟩
    subst e
    rcases List.mem_append.mp ha with q | q
    · exact dS a (List.mem_append_left _ q) a hb rfl
    · exact live a (.inr hb) q
  · have out : (a ∈ P ∨ a ∈ S) → F' a = none := fun ha => by
      have hA : a ∈ P ++ Ai ++ S := by rcases ha with w | w <;> simp [w]
      cases q : F' a with
      | none => rfl
      | some o =>
        rcases st.new a o q with z | z | z
        · rw [rel.dis a hA] at z; cases z
        · exact absurd z (notAi a ha)
        · obtain ⟨u, hu⟩ := hd a hA
          rw [z] at hu; cases hu
    simp only [List.mem_append] at ha
    rcases ha with (w | w) | w
    · exact out (.inl w)
    · exact d a w
    · exact out (.inr w)
  · simp only [List.mem_append] at ha
    rcases ha with (w | w) | w
    · exact .inl (by simp [w])
    · rcases st.own a w with q | q
      · exact .inl (by simp [q])
      · exact .inr q
    · exact .inl (by simp [w])
  · rcases st.new a o q with z | z | z
    · exact .inl z
    · exact .inr (.inl (by simp [z]))
    · exact .inr (.inr z)
theorem Rel.thing {T : Tb} {F H : Hp} {A σ γ} {i : Nat} {m x} (rel : Rel T F A σ H γ) (e : thing i γ = some (m, x)) : ∃ v Ai, σ[i]? = some (some v) ∧ OwM T F H m x v Ai ∧ Ai.Nodup ∧ (∀ a ∈ Ai, F a = none) ∧
    ∀ m' x' F' H' A', Step F Ai H F' A' H' → Same F' H' → OwM T F' H' m' x' v A' → A'.Nodup → (∀ a ∈ A', F' a = none) → ∃ A2, Rel T F' A2 σ H' (setT i m' x' γ) ∧ Step F A H F' A2 H' := by
  unfold Z.thing at e
  unfold Z.setT
  cases hg : γ[i]? with
  | none => rw [hg] at e; cases e
  | some sl =>
    rw [hg] at e
    cases sl with
    | un => cases e
    | sl m0 x0 =>
      cases m0 with
      | fz => cases e
      | ow => cases e
      | lk => cases e
      | ob ms =>
        cases e
        obtain ⟨v, P, Ai, S, h1, rfl, h3, h4⟩ := OwE.split γ rel.env hg
        exact ⟨v, Ai, h1, h3, (List.nodup_append.mp (List.nodup_append.mp rel.nd).1).2.1, fun a ha => rel.dis a (by simp [ha]), mut_of rel h4⟩
    | me m0 x0 =>
      cases e
      obtain ⟨P, Ai, S, h1, rfl, h3, h4⟩ := OwE.splitMeI γ rel.env hg
      exact ⟨_, Ai, h1, h3, (List.nodup_append.mp (List.nodup_append.mp rel.nd).1).2.1, fun a ha => rel.dis a (by simp [ha]), mut_of rel h4⟩
/-- a method's answer, put into the slots -/
def putR (i : Nat) (γ : Env) : RM → RE
  | .ok r m x => .ok r (setT i m x γ)
  | .er e m x => .er e (setT i m x γ)
  | .no => .no
/-- g called on the own thing in slot i -/
def eOwn (i : Nat) (pick : PV → Option MF) (fs : Env → R (List PV)) : Env → RE := fun γ => match thing i γ with
  | some (m, x) => match pick x with
    | some g => match fs γ with
      | .ok xs => putR i γ (g m x xs)
      | .er e => .er e γ
      | .no => .no
    | none => .no
  | none => .no
/-- the arguments are there: the call -/
theorem own_call {i : Nat} {γ : Env} {m : Md} {x : PV} {v : V} {g : MF} {xs : List PV} {ws : List V} {σ : L2.St} {F F1 H H1 : Hp} {A : List Addr} {Q : VK} {E : XK} (hE : ∀ c d H, W c d σ H → E c d H) (rel : Rel ⟨X.K, cl⟩ F A σ H γ) (e1 : Ext F H F1 H1) (et : thing i γ = some (m, x)) (hv : σ[i]? = some (some v)) (r1 : RpL ⟨X.K, cl⟩ F1 xs ws)
    (h : match putR i γ (g m x xs) with
      | .ok r γ' => ∀ F' A' H' v, Step F A H F' A' H' → Rel ⟨X.K, cl⟩ F' A' σ H' γ' → Rp ⟨X.K, cl⟩ F' r v → Q v H'
      | .er e γ' => ∀ F' A' H' c d, Step F A H F' A' H' → Rel ⟨X.K, cl⟩ F' A' σ H' γ' → XcR ⟨X.K, cl⟩ F' e c d → W c d σ H'
      | .no => False) : spM X.K cl g (v :: ws) H1 Q E := by
  have rel1 := rel.ext e1
  obtain ⟨v', Ai, h1, h2, h3, h4, h5⟩ := rel1.thing et
  rw [hv] at h1
  cases h1
  refine ⟨F1, m, x, v, Ai, xs, ws, rfl, e1.sub, h2, h3, h4, r1, ?_⟩
  cases e : g m x xs with
  | ok r m' x' =>
    rw [e] at h
    intro F' A' H' u st sb ow nd d rv
    obtain ⟨A2, r2, s2⟩ := h5 m' x' F' H' A' st sb ow nd d
    exact h F' A2 H' u ((Step.ext e1).trans s2) r2 rv
  | er r m' x' =>
    rw [e] at h
    intro F' A' H' c d' st sb ow nd d rv
    obtain ⟨A2, r2, s2⟩ := h5 m' x' F' H' A' st sb ow nd d
    exact hE _ _ _ (h F' A2 H' c d' ((Step.ext e1).trans s2) r2 rv)
  | no => rw [e] at h; exact h
/-- the def that the thing's class has for a method that changes it -/
def mpick (tbl : List (String × MF)) (m : String) : PV → Option MF
  | .obj c fs => match fs.lookup m with
    | some _ => none
    | none => tbl.lookup c
  | _ => none
structure MetM (X : Cx) (cl : Cl) (m : String) (tbl : List (String × MF)) : Prop where
  at_ : ∀ c g C, tbl.lookup c = some g → cl.i c = some C → MetG X C (Str.ofString m) (spM X.K cl g) []
theorem OwF.look {T : Tb} {F H : Hp} {n : String} : ∀ {ms : List Md} {fs : List (String × PV)} {vs : List (Str × V)} {A : List Addr}, OwF T F H ms fs vs A → fs.lookup n = none → vs.lookup (Str.ofString n) = none
  | [], fs, vs, A, h, e => by simp only [OwF] at h; rw [h.2.1]; rfl
  | m :: ms, fs, vs, A, h, e => by
    simp only [OwF] at h
    obtain ⟨f, x, fs', u, vs', A1, A2, rfl, rfl, rfl, h1, h2⟩ := h
    by_cases q : n = f
    · subst q; simp [List.lookup] at e
    · have e1 : (n == f) = false := by simpa using q
      have e2 : (Str.ofString n == Str.ofString f) = false := Bool.eq_false_iff.mpr fun z => q (ofString_inj (eq_of_beq z))
      simp only [List.lookup, e1] at e
      simp only [List.lookup, e2]
      exact OwF.look h2 e
/-- an own thing's class -/
theorem OwM.inst {T : Tb} {F H : Hp} {m : Md} {c : String} {fs : List (String × PV)} {v : V} {A : List Addr} {n : String} (s : Same F H) (h : OwM T F H m (.obj c fs) v A) (hn : fs.lookup n = none) : ∃ a C dx vs, v = .ref a ∧ T.cl.i c = some C ∧ H a = some (.ins C dx vs) ∧ vs.lookup (Str.ofString n) = none := by
  cases m with
  | fz =>
    simp only [OwM, Rp] at h
    obtain ⟨⟨a, C, dx, vs, rfl, hc, ha, rf⟩, _⟩ := h
    have lk := rf.look (n := n)
    rw [hn] at lk
    exact ⟨a, C, dx, vs, rfl, hc, s _ _ ha, lk⟩
  | ow => simp [OwM] at h
  | lk => simp [OwM] at h
  | ob ms =>
    simp only [OwM] at h
    obtain ⟨a, C, dx, vs, A', rfl, rfl, ha, hc, of⟩ := h
    exact ⟨a, C, dx, vs, rfl, hc, ha, of.look hn⟩
theorem tq_own {i : Nat} {m : String} {tbl : List (String × MF)} {fs : Env → R (List PV)} {E : L2.St → XK} (M : MetM X cl m tbl) (σ : L2.St) (H : Hp) (Q : VK) (hE : ∀ c d H, W c d σ H → E σ c d H) (h : tqE X.K cl W (eOwn i (mpick tbl m) fs) σ H Q) : tMetG X (Str.ofString m) [] [] E (tVar i) (tqZ X.K cl W fs) σ H Q := by
  obtain ⟨F, A, γ, rel, h⟩ := h
  unfold eOwn at h
  cases et : thing i γ with
  | none => rw [et] at h; exact h.elim
  | some mx =>
    obtain ⟨md, x⟩ := mx
    rw [et] at h
    dsimp only at h
    cases ep : mpick tbl m x with
    | none => rw [ep] at h; exact h.elim
    | some g =>
      rw [ep] at h
      dsimp only at h
      cases x <;> try (simp [mpick] at ep; done)
      rename_i c fl
      simp only [mpick] at ep
      cases nl : fl.lookup m with
      | some y => rw [nl] at ep; cases ep
      | none =>
        rw [nl] at ep
        obtain ⟨v, Ai, hv, ho, _⟩ := rel.thing et
        obtain ⟨a, C, dx, vs, rfl, hc, ha, lk⟩ := ho.inst rel.sub nl
        refine ⟨.ref a, hv, a, C, dx, vs, _, rfl, ha, lk, M.at_ c g C ep hc, F, A, γ, rel, ?_⟩
        cases ef : fs γ with
        | no => rw [ef] at h; exact h
        | er y => rw [ef] at h; exact fun F' H' c d ex r => h F' A H' c d (Step.ext ex) (rel.ext ex) r
        | ok xs =>
          rw [ef] at h
          intro F1 H1 ws e1 r1
          rw [List.append_nil]
          exact own_call (W := W) hE rel e1 et hv r1 h
theorem q_own {i : Nat} {m : String} {tbl : List (String × MF)} {fs : Env → R (List PV)} {x : Str} {p apos pos : Pos} {e : Expr} {es : List Expr} {pl : Sem Bool} (tk : Takes X W) (M : MetM X cl m tbl) (hG : X.A.guards = some []) (ha : QZ cl X W fs (e :: es)) (hN : X.N[i]? = some x := by rfl) (hv : Vis X.env.scope x := by first | exact Or.inl rfl | exact Or.inr (Or.inl rfl) | exact Or.inr (Or.inr rfl))
    (hd : (x == ("__debug__" : Str)) = false := by decide) (hcd : (x == ("__classdict__" : Str)) = false := by decide)
    (hst : starEach (e :: es) X.env = (false, eval e X.env) :: starEach es X.env := by rfl) (hpl : (backTo pos (starEach es X.env)).any (·.1) = false := by rfl)
    (ht : eval (.Call (.Attribute (.Name x p) (Str.ofString m) apos) (e :: es) [] pos) X.env = (do
      let ov ← eval (.Name x p) X.env
      standAt apos.atName
      let (f, first) ← holding [ov] (getMethod ov (Str.ofString m) pl)
      callWith pos f first (backTo pos (starEach (e :: es) X.env)) (backToKw pos (keywordEach [] X.env))) := by rfl) :
    QM cl X W (eOwn i (mpick tbl m) fs) (.Call (.Attribute (.Name x p) (Str.ofString m) apos) (e :: es) [] pos) :=
  ⟨(pe_methG (pe_var (i := i) hN hv hd hcd) hG .nil (fun σ => passAt tk σ) ha.pa hst hpl ht).imp fun σ H Q h => tq_own M σ H Q (fun _ _ _ z => z) h⟩
theorem q_own0 {i : Nat} {m : String} {tbl : List (String × MF)} {x : Str} {p apos pos : Pos} {pl : Sem Bool} (tk : Takes X W) (M : MetM X cl m tbl) (hG : X.A.guards = some []) (hN : X.N[i]? = some x := by rfl) (hv : Vis X.env.scope x := by first | exact Or.inl rfl | exact Or.inr (Or.inl rfl) | exact Or.inr (Or.inr rfl))
    (hd : (x == ("__debug__" : Str)) = false := by decide) (hcd : (x == ("__classdict__" : Str)) = false := by decide)
    (ht : eval (.Call (.Attribute (.Name x p) (Str.ofString m) apos) [] [] pos) X.env = (do
      let ov ← eval (.Name x p) X.env
      standAt apos.atName
      let (f, first) ← holding [ov] (getMethod ov (Str.ofString m) pl)
      callWith pos f first (backTo pos (starEach [] X.env)) (backToKw pos (keywordEach [] X.env))) := by rfl) :
    QM cl X W (eOwn i (mpick tbl m) aNil) (.Call (.Attribute (.Name x p) (Str.ofString m) apos) [] [] pos) :=
  ⟨(pe_methG0 (pe_var (i := i) hN hv hd hcd) hG .nil (fun σ => passAt tk σ) ht).imp fun σ H Q h => by
    obtain ⟨v, hv, a, C, dx, fs, sp, r, ha, nl, M', F2, A2, γ2, rel2, q⟩ := tq_own (E := WE W) M σ H Q (fun _ _ _ z => z) h
    exact ⟨v, hv, a, C, dx, fs, sp, r, ha, nl, M', q F2 H [] (Ext.refl rel2.sub) RpL.nil⟩⟩
end
end Z
/-! the pure layer, part X: instances made, C.__init__(self, ..), things that live within an expression -/
namespace Z
open PySem L2 PySem.Spec PyProof.Rows
theorem under_guards {A : Around} {C : Addr} {us : List Value} {kw : List (Str × Value)} (h : A.guards = some []) : (A.under (.builtin "type.__call__" ⟨.ref C :: us, kw⟩)).guards = some [] := by
  unfold Around.under
  simp only [h]
  first
    | rfl
    | decide
    | simp [pushGuards, Code.guards, Code.isGuard, guardIds]
section
variable {X : Cx} {k : Nat} {f C : Addr} {fd : FuncData} {ps ks : List Str} {sp : Sp} {dvs : List V} {ds : List Value} {E : L2.St → XK} {x m : Str} {p pos apos : Pos} {e o : Expr} {es : List Expr} {ta : TE} {t tk : TA}
theorem runMakeG {pins : List (Addr × Obj)} {σ : L2.St} {H : Hp} {s : Shared} {Q : VK} {us ws : List Value} {vs zs : List V} {E : XK} {g : List Value → List Value → List Value} {gV : List V → List V → List V} (M : Mk X.K C f) (F : FnG X.prog X.w X.K X.mg X.base k f fd ps sp) (hr : Room (k + 1) X.A) (hG : X.A.guards = some []) (hx : PassesAt (L2.CX X.prog X.w) X σ E) (I : Inv X pins σ H s)
    (hb : ∀ (s' : Shared) (y : Value), X.K.In s'.heap → (g (y :: us) ws).length = ps.length → BindsTo s' fd ⟨y :: us, ks.zip ws⟩ (ps.zip (g (y :: us) ws))) (hv : ∀ (y : V) (y' : Value), RelV y y' → Vals (gV (y :: vs) zs) (g (y' :: us) ws))
    (h : ∀ x dx, H x = none → H dx = none → dx ≠ x → sp (gV (.ref x :: vs) zs) (upd (upd H dx (.own x)) x (.ins C dx [])) (fun v H2 => v = .non ∧ Q (.ref x) H2) E) :
    wpAny (model X.prog X.w) X.A (call (.ref C) us (ks.zip ws)) (EP X pins σ Q) X.xe s := by
  have hq := h (s.heap.objs.size + 1) s.heap.objs.size (I.hok.fresh (Nat.le_succ _)) (I.hok.fresh (Nat.le_refl _)) (Nat.ne_of_lt (Nat.lt_succ_self _))
  have I2 := Inv.made (C := C) I
  have r2 := hv (V.ref (s.heap.objs.size + 1)) (Value.ref (s.heap.objs.size + 1)) rfl
  refine wpAny_call (make_map (f := f) I.kIn M.makes M.init (beq_iff_eq.mp M.fn) (codeAny_mono (F.run _ X.stack _ _ ⟨Value.ref (s.heap.objs.size + 1) :: us, ks.zip ws⟩ (g (Value.ref (s.heap.objs.size + 1) :: us) ws) _ _ E (hr.make C us (ks.zip ws)) (under_guards hG)
    (I2.env0.make C us (ks.zip ws)) (hb _ _ I2.kIn (by rw [← r2.length]; exact F.len _ _ _ _ hq)) r2 hq) fun r s' hq' => ?_))
  cases r with
  | error e =>
    obtain ⟨a, B, H', cls, d, eu, fl, ok, ub, na, os, ag, w⟩ := hq'
    exact hx pins _ s e s' I ⟨a, B, H', cls, d, eu, fl, ok, ⟨fun b o z n hb => ub.keep b o (by
        have := Heap.lt_size z
        exact Heap.get?_push_of_some _ (Heap.get?_push_of_some _ z)) (by
        have lt := Heap.lt_size z
        rw [upd_ne (Nat.ne_of_lt (Nat.lt_succ_of_lt lt)), upd_ne (Nat.ne_of_lt lt)]; exact n) hb,
      fun b o z hb => ub.slot b o (Heap.get?_push_of_some _ (Heap.get?_push_of_some _ z)) hb,
      fun b o z n => ub.free b o (Heap.get?_push_of_some _ (Heap.get?_push_of_some _ z)) (by
        have lt := Heap.lt_size z
        rw [upd_ne (Nat.ne_of_lt (Nat.lt_succ_of_lt lt)), upd_ne (Nat.ne_of_lt lt)]; exact n),
      fun b o z hb => ub.there b o (Heap.get?_push_of_some _ (Heap.get?_push_of_some _ z)) hb,
      fun b xs z => ub.tups b xs (by
        have lt := (I.hok b _ z).lt
        rw [upd_ne (Nat.ne_of_lt (Nat.lt_succ_of_lt lt)), upd_ne (Nat.ne_of_lt lt)]; exact z),
      fun b o u z => ub.frzs b o u (by
        have lt := (I.hok b _ z).lt
        rw [upd_ne (Nat.ne_of_lt (Nat.lt_succ_of_lt lt)), upd_ne (Nat.ne_of_lt lt)]; exact z),
      fun b ps z => ub.tbls b ps (by
        have lt := (I.hok b _ z).lt
        rw [upd_ne (Nat.ne_of_lt (Nat.lt_succ_of_lt lt)), upd_ne (Nat.ne_of_lt lt)]; exact z)⟩, na, os, ag, w⟩
  | ok fl =>
    cases fl with
    | ret u =>
      obtain ⟨v, H', I3, rv, ev, q3⟩ := I2.after hq'
      subst ev
      exact ⟨rv, ⟨V.ref (s.heap.objs.size + 1), H', I3, rfl, q3⟩⟩
    | next => exact hq'.elim
    | brk => exact hq'.elim
    | cont => exact hq'.elim
def tMkG (C : Addr) (sp : Sp) (dvs : List V) (E : L2.St → XK) (t : TA) : TE := fun σ H Q => t σ H fun vs H1 => ∀ x dx, H1 x = none → H1 dx = none → dx ≠ x →
  sp (.ref x :: (vs ++ dvs)) (upd (upd H1 dx (.own x)) x (.ins C dx [])) (fun v H2 => v = .non ∧ Q (.ref x) H2) (E σ)
theorem pe_makeG (M : Mk X.K C f) (F : FnG X.prog X.w X.K X.mg X.base k f fd ps sp) (hr : Room (k + 1) X.A) (hG : X.A.guards = some []) (hg : Gl X x) (hm : X.mg x = some (.ref C)) (hb : L2.Binds X.K fd ps ds) (hd : Vals dvs ds) (hx : ∀ σ, PassesAt (L2.CX X.prog X.w) X σ (E σ))
    (ha : PA X (e :: es) t) (hdb : (x == ("__debug__" : Str)) = false := by decide) (he : starEach (e :: es) X.env = (false, eval e X.env) :: starEach es X.env := by rfl) (hpl : (backTo pos (starEach es X.env)).any (·.1) = false := by rfl) :
    PE X (.Call (.Name x p) (e :: es) [] pos) (tMkG C sp dvs E t) := by
  refine ⟨fun pins s σ H Q I h => wpAny_Call_Name_kw (ld_glob I hg hm (PySem.W.callWith_K (h₀ := X.base) I.ok.mod.kin M.kp (thn (ha.run pos pins s σ H _ I h) fun us s1 ⟨vs, H1, I1, r, q⟩ => ⟨I1.kIn, ?_⟩) he hpl) hdb)⟩
  exact runMakeG (ks := []) (us := us) (ws := []) (vs := vs) (zs := []) (g := fun us _ => us ++ ds) (gV := fun vs _ => vs ++ dvs) M F hr hG (hx σ) I1 (fun s' y X' hl => hb s' (y :: us) X' hl) (fun y y' ry => (Vals.append (.cons ry r) hd)) q
theorem pe_makeG0 (M : Mk X.K C f) (F : FnG X.prog X.w X.K X.mg X.base k f fd ps sp) (hr : Room (k + 1) X.A) (hG : X.A.guards = some []) (hg : Gl X x) (hm : X.mg x = some (.ref C)) (hb : L2.Binds X.K fd ps ds) (hd : Vals dvs ds) (hx : ∀ σ, PassesAt (L2.CX X.prog X.w) X σ (E σ))
    (hdb : (x == ("__debug__" : Str)) = false := by decide) : PE X (.Call (.Name x p) [] [] pos) (tMkG C sp dvs E tNil) := by
  refine ⟨fun pins s σ H Q I h => wpAny_Call_Name_kw (ld_glob I hg hm (PySem.W.callWith_K0 I.kIn M.kp ?_) hdb)⟩
  exact runMakeG (ks := []) (us := []) (ws := []) (vs := []) (zs := []) (g := fun us _ => us ++ ds) (gV := fun vs _ => vs ++ dvs) M F hr hG (hx σ) I (fun s' y X' hl => hb s' [y] X' hl) (fun y y' ry => (Vals.append (.cons ry .nil) hd)) h
/-- C(e, .., k = v, ..) -/
def tMkKG (C : Addr) (n m : Nat) (sp : Sp) (gV : List V → List V → List V) (E : L2.St → XK) (t tk : TA) : TE := fun σ H Q => t σ H fun vs H1 => tk σ H1 fun zs H2 => vs.length = n ∧ zs.length = m ∧ ∀ x dx, H2 x = none → H2 dx = none → dx ≠ x →
  sp (gV (.ref x :: vs) zs) (upd (upd H2 dx (.own x)) x (.ins C dx [])) (fun v H3 => v = .non ∧ Q (.ref x) H3) (E σ)
theorem pe_makeKG {n : Nat} {kws : List Keyword} {g : List Value → List Value → List Value} {gV : List V → List V → List V} (M : Mk X.K C f) (F : FnG X.prog X.w X.K X.mg X.base k f fd ps sp) (hr : Room (k + 1) X.A) (hG : X.A.guards = some []) (hg : Gl X x) (hm : X.mg x = some (.ref C)) (hb : KBn X.K fd ps (n + 1) ks g gV) (hx : ∀ σ, PassesAt (L2.CX X.prog X.w) X σ (E σ))
    (ha : PA X (e :: es) t) (hkw : PK X kws tk) (hall : (backToKw pos (keywordEach kws X.env)).all (·.1.isSome) = true := by rfl) (hks : (backToKw pos (keywordEach kws X.env)).filterMap (·.1) = ks := by rfl)
    (hdb : (x == ("__debug__" : Str)) = false := by decide) (he : starEach (e :: es) X.env = (false, eval e X.env) :: starEach es X.env := by rfl)
    (hpl : ((backTo pos (starEach (e :: es) X.env)).any (·.1) || (backToKw pos (keywordEach kws X.env)).any (·.1.isNone)) = false := by rfl) :
    PE X (.Call (.Name x p) (e :: es) kws pos) (tMkKG C n ks.length sp gV E t tk) := by
  refine ⟨fun pins s σ H Q I h => wpAny_Call_Name_kw (ld_glob I hg hm (PySem.W.callWith_KW (h₀ := X.base) I.ok.mod.kin M.kp hall (thn (ha.run pos pins s σ H _ I h) fun us s1 ⟨vs, H1, I1, r, q⟩ => ?_) hpl he) hdb)⟩
  refine thn (hkw.run pos pins s1 σ H1 _ I1 q) fun ws s2 ⟨zs, H2, I2, rz, l1, l2, q2⟩ => ⟨I2.kIn, ?_⟩
  rw [hks]
  exact runMakeG (ks := ks) (us := us) (ws := ws) (vs := vs) (zs := zs) (g := g) (gV := gV) M F hr hG (hx σ) I2 (fun s' y X' hl => hb.to s' (y :: us) ws X' (by rw [List.length_cons, ← r.length, l1]) (rz.length.symm.trans l2)) (fun y y' ry => hb.rel (.cons ry r) rz) q2
/-- C.m(e, ..): the def itself, read off the class -/
structure ClsFn (K : PySem.W.Frag) (C : Addr) (m : Str) (f : Addr) : Prop where
  ex : ∃ mc, ClX.CRead K C mc ∧ PySem.W.findCls K (.ref C) mc m = some (.val (.ref f))
  kp : PySem.W.keepIn K (.ref f) = true
theorem pe_clsfn {p1 p2 : Pos} {pl : Sem Bool} (F : FnG X.prog X.w X.K X.mg X.base k f fd ps sp) (hr : Room k X.A) (hG : X.A.guards = some []) (hg : Gl X x) (hm : X.mg x = some (.ref C)) (cf : ClsFn X.K C m f) (hb : L2.Binds X.K fd ps []) (hx : ∀ σ, PassesAt (L2.CX X.prog X.w) X σ (E σ))
    (ha : PA X (e :: es) t) (hdb : (x == ("__debug__" : Str)) = false := by decide)
    (hc : eval (.Call (.Attribute (.Name x p1) m p2) (e :: es) [] pos) X.env = (do
      let ov ← eval (.Name x p1) X.env
      standAt p2.atName
      let (f, first) ← holding [ov] (getMethod ov m pl)
      callWith pos f first (backTo pos (starEach (e :: es) X.env)) (backToKw pos (keywordEach [] X.env))) := by rfl)
    (he : starEach (e :: es) X.env = (false, eval e X.env) :: starEach es X.env := by rfl) (hpl : (backTo pos (starEach es X.env)).any (·.1) = false := by rfl) :
    PE X (.Call (.Attribute (.Name x p1) m p2) (e :: es) [] pos) (fun σ H Q => t σ H fun vs H1 => sp vs H1 Q (E σ)) := by
  obtain ⟨mc, r, k'⟩ := cf.ex
  refine ⟨fun pins s σ H Q I h => PySem.W.methodCall_KW (ld_glob I hg hm ?_ hdb) hc⟩
  refine PySem.W.method_cls I.kIn r.ga (PySem.W.cls_value I.kIn r.rd k' (by rfl) ?_)
  refine PySem.W.callWith_K (h₀ := X.base) I.ok.mod.kin cf.kp (thn (ha.run pos pins _ σ H _ (I.tok _) h) fun us s1 ⟨vs, H1, I1, r1, q⟩ => ⟨I1.kIn, ?_⟩) he hpl
  exact runG F hr hG hb .nil (hx σ) I1 r1 (by rw [List.append_nil]; exact q)
end
section
variable {X : Cx} {cl : Cl} {W : WX}
/-! ### C(e, ..) -/
def mkV : RM → R Vl
  | .ok .non m x => .ok (.fr m x)
  | .er e _ _ => .er e
  | _ => .no
def mkV0 : RM → R Vl
  | .ok .non m x => .ok (.fr m x)
  | _ => .no
def xMake (c : String) (g : MF) (fs : Env → R (List PV)) : Ex := fun γ => (fs γ).bind fun xs => mkV (g (.ob []) (.obj c []) xs)
def xMake0 (c : String) (g : MF) (fs : Env → R (List PV)) : Ex := fun γ => (fs γ).bind fun xs => mkV0 (g (.ob []) (.obj c []) xs)
/-- a new instance handed to its __init__ -/
theorem make_sp {c : String} {C : Addr} {g : MF} {xs : List PV} {vs : List V} {σ : L2.St} {F F1 H H1 : Hp} {A : List Addr} {Q : VK} {E : XK} {kk : RM → R Vl} (hc : cl.i c = some C) (e1 : Ext F H F1 H1) (r1 : RpL ⟨X.K, cl⟩ F1 xs vs)
    (hk : ∀ r : RM, match r with
      | .ok .non m x => kk r = .ok (.fr m x)
      | .ok _ _ _ => kk r = .no
      | .er e _ _ => kk r = .no ∨ (kk r = .er e ∧ ∀ c d H, W c d σ H → E c d H)
      | .no => kk r = .no)
    (h : match kk (g (.ob []) (.obj c []) xs) with
      | .ok l => ∀ F' H' v, Ext F H F' H' → VlR ⟨X.K, cl⟩ F' H' H A l v → Q v H'
      | .er e => ∀ F' H' c d, Ext F H F' H' → XcR ⟨X.K, cl⟩ F' e c d → W c d σ H'
      | .no => False) :
    ∀ x dx, H1 x = none → H1 dx = none → dx ≠ x → spM X.K cl g (.ref x :: vs) (upd (upd H1 dx (.own x)) x (.ins C dx [])) (fun v H2 => v = .non ∧ Q (.ref x) H2) E := by
  intro x dx nx ndx nex
  have nxF : F1 x = none := e1.sub.free nx
  have s2 : Same F1 (upd (upd H1 dx (.own x)) x (.ins C dx [])) := fun a o q => by
    rw [upd_ne (ne_of_none (e1.sub a o q) nx), upd_ne (ne_of_none (e1.sub a o q) ndx)]; exact e1.sub a o q
  refine ⟨F1, .ob [], .obj c [], .ref x, [x], xs, vs, rfl, s2, ?_, by simp, fun a ha => by rw [List.mem_singleton.mp ha]; exact nxF, r1, ?_⟩
  · simp only [OwM, OwF]
    exact ⟨x, C, dx, [], [], rfl, by first | rfl | trivial, upd_same, hc, by simp⟩
  have ext : ∀ {F' A' H'}, Step F1 [x] (upd (upd H1 dx (.own x)) x (.ins C dx [])) F' A' H' → Same F' H' → Ext F H F' H' := fun {F' A' H'} st sb => e1.trans ⟨sb, st.fle, fun a o q => by
      refine st.keep a o (fun z => ?_) ?_
      · rw [List.mem_singleton.mp z, nx] at q; cases q
      · rw [upd_ne (ne_of_none q nx), upd_ne (ne_of_none q ndx)]; exact q, fun a o q => by
      rcases st.new a o q with z | z | z
      · exact .inl z
      · rw [List.mem_singleton.mp z]; exact .inr nx
      · by_cases ax : a = x
        · rw [ax]; exact .inr nx
        · rw [upd_ne ax] at z
          by_cases ad : a = dx
          · rw [ad]; exact .inr ndx
          · rw [upd_ne ad] at z; exact .inr z⟩
  have hk' := hk (g (.ob []) (.obj c []) xs)
  cases e : g (.ob []) (.obj c []) xs with
  | no => rw [e] at h hk'; rw [hk'] at h; exact h
  | er y m' x' =>
    rw [e] at h hk'
    rcases hk' with z | ⟨z, hE⟩
    · rw [z] at h; exact h.elim
    · rw [z] at h
      exact fun F' A' H' c d st sb ow nd d' rx => hE _ _ _ (h F' H' c d (ext st sb) rx)
  | ok y m' x' =>
    rw [e] at h hk'
    cases y <;> try (simp only at hk'; rw [hk'] at h; exact h.elim)
    simp only at hk'
    rw [hk'] at h
    intro F' A' H' v st sb ow nd d' rv
    simp only [Rp] at rv
    refine ⟨rv, h F' H' (.ref x) (ext st sb) ⟨A', ow, nd, fun a ha => ⟨?_, d' a ha⟩⟩⟩
    rcases st.own a ha with z | z
    · rw [List.mem_singleton.mp z]; exact e1.hle.free nx
    · by_cases ax : a = x
      · rw [ax]; exact e1.hle.free nx
      · rw [upd_ne ax] at z
        by_cases ad : a = dx
        · rw [ad]; exact e1.hle.free ndx
        · rw [upd_ne ad] at z; exact e1.hle.free z
/-- what C(..) asks of the class -/
structure MakG (X : Cx) (cl : Cl) (x : Str) (c : String) (g : MF) (ds : List Value) : Prop where
  ex : ∃ (k : Nat) (f C : Addr) (fd : FuncData) (ps : List Str), Mk X.K C f ∧ FnG X.prog X.w X.K X.mg X.base k f fd ps (spM X.K cl g) ∧ Room (k + 1) X.A ∧ X.mg x = some (.ref C) ∧ cl.i c = some C ∧ L2.Binds X.K fd ps ds
theorem hkV0 {σ : L2.St} : ∀ r : RM, match r with
      | .ok .non m x => mkV0 r = .ok (.fr m x)
      | .ok _ _ _ => mkV0 r = .no
      | .er e _ _ => mkV0 r = .no ∨ (mkV0 r = .er e ∧ ∀ c d H, W c d σ H → (fun _ => E0) σ c d H)
      | .no => mkV0 r = .no := fun r => by
  cases r with
  | ok y m x => cases y <;> rfl
  | er e m x => exact .inl rfl
  | no => rfl
theorem hkV {σ : L2.St} : ∀ r : RM, match r with
      | .ok .non m x => mkV r = .ok (.fr m x)
      | .ok _ _ _ => mkV r = .no
      | .er e _ _ => mkV r = .no ∨ (mkV r = .er e ∧ ∀ c d H, W c d σ H → WE W σ c d H)
      | .no => mkV r = .no := fun r => by
  cases r with
  | ok y m x => cases y <;> rfl
  | er e m x => exact .inr ⟨rfl, fun _ _ _ z => z⟩
  | no => rfl
theorem tq_make {c : String} {C : Addr} {g : MF} {fs : Env → R (List PV)} {dp : List PV} {dv : List V} {kk : RM → R Vl} {E : L2.St → XK} (rd : ∀ F, RpL ⟨X.K, cl⟩ F dp dv) (hc : cl.i c = some C) {σ : L2.St} {H : Hp} {Q : VK}
    (hk : ∀ r : RM, match r with
      | .ok .non m x => kk r = .ok (.fr m x)
      | .ok _ _ _ => kk r = .no
      | .er e _ _ => kk r = .no ∨ (kk r = .er e ∧ ∀ c d H, W c d σ H → E σ c d H)
      | .no => kk r = .no)
    (h : tq X.K cl W (fun γ => (zDf fs dp γ).bind fun xs => kk (g (.ob []) (.obj c []) xs)) σ H Q) : tMkG C (spM X.K cl g) dv E (tqZ X.K cl W fs) σ H Q := by
  obtain ⟨F, A, γ, rel, h⟩ := h
  dsimp only at h
  refine ⟨F, A, γ, rel, ?_⟩
  unfold zDf at h
  cases e : fs γ with
  | no => rw [e] at h; exact h
  | er x => rw [e] at h; exact h
  | ok xs =>
    rw [e] at h
    simp only [R.bind_ok] at h
    intro F1 H1 vs e1 r1
    exact make_sp (W := W) hc e1 (r1.append (rd F1)) hk h
variable {x : Str} {c : String} {g : MF} {fs : Env → R (List PV)} {e : Expr} {es : List Expr} {p pos : Pos} {ds : List Value} {dp : List PV} {dv : List V}
theorem q_makeN (M : MakG X cl x c g []) (hG : X.A.guards = some []) (ha : QZ cl X W fs (e :: es)) (hg : Gl X x := by rfl) (hdb : (x == ("__debug__" : Str)) = false := by decide) (he : starEach (e :: es) X.env = (false, eval e X.env) :: starEach es X.env := by rfl) (hpl : (backTo pos (starEach es X.env)).any (·.1) = false := by rfl) :
    QE cl X W (xMake0 c g fs) (.Call (.Name x p) (e :: es) [] pos) := by
  obtain ⟨k, f, C, fd, ps, M, F, hr, hm, hc, hb⟩ := M.ex
  refine ⟨(pe_makeG M F hr hG hg hm hb .nil pas0 ha.pa hdb he hpl).imp fun σ H Q h => tq_make (dp := []) (kk := mkV0) (fun F => RpL.nil) hc hkV0 ?_⟩
  rw [zDf_nil fs]; exact h
theorem q_makeX (tk : Takes X W) (M : MakG X cl x c g []) (hG : X.A.guards = some []) (ha : QZ cl X W fs (e :: es)) (hg : Gl X x := by rfl) (hdb : (x == ("__debug__" : Str)) = false := by decide) (he : starEach (e :: es) X.env = (false, eval e X.env) :: starEach es X.env := by rfl) (hpl : (backTo pos (starEach es X.env)).any (·.1) = false := by rfl) :
    QE cl X W (xMake c g fs) (.Call (.Name x p) (e :: es) [] pos) := by
  obtain ⟨k, f, C, fd, ps, M, F, hr, hm, hc, hb⟩ := M.ex
  refine ⟨(pe_makeG M F hr hG hg hm hb .nil (fun σ => passAt tk σ) ha.pa hdb he hpl).imp fun σ H Q h => tq_make (dp := []) (kk := mkV) (fun F => RpL.nil) hc hkV ?_⟩
  rw [zDf_nil fs]; exact h
theorem q_makeND (M : MakG X cl x c g ds) (hd : Vals dv ds) (rd : ∀ F, RpL ⟨X.K, cl⟩ F dp dv) (hG : X.A.guards = some []) (ha : QZ cl X W fs (e :: es)) (hg : Gl X x := by rfl) (hdb : (x == ("__debug__" : Str)) = false := by decide) (he : starEach (e :: es) X.env = (false, eval e X.env) :: starEach es X.env := by rfl) (hpl : (backTo pos (starEach es X.env)).any (·.1) = false := by rfl) :
    QE cl X W (xMake0 c g (zDf fs dp)) (.Call (.Name x p) (e :: es) [] pos) := by
  obtain ⟨k, f, C, fd, ps, M, F, hr, hm, hc, hb⟩ := M.ex
  exact ⟨(pe_makeG M F hr hG hg hm hb hd pas0 ha.pa hdb he hpl).imp fun σ H Q h => tq_make (kk := mkV0) rd hc hkV0 h⟩
theorem q_makeXD (tk : Takes X W) (M : MakG X cl x c g ds) (hd : Vals dv ds) (rd : ∀ F, RpL ⟨X.K, cl⟩ F dp dv) (hG : X.A.guards = some []) (ha : QZ cl X W fs (e :: es)) (hg : Gl X x := by rfl) (hdb : (x == ("__debug__" : Str)) = false := by decide) (he : starEach (e :: es) X.env = (false, eval e X.env) :: starEach es X.env := by rfl) (hpl : (backTo pos (starEach es X.env)).any (·.1) = false := by rfl) :
    QE cl X W (xMake c g (zDf fs dp)) (.Call (.Name x p) (e :: es) [] pos) := by
  obtain ⟨k, f, C, fd, ps, M, F, hr, hm, hc, hb⟩ := M.ex
  exact ⟨(pe_makeG M F hr hG hg hm hb hd (fun σ => passAt tk σ) ha.pa hdb he hpl).imp fun σ H Q h => tq_make (kk := mkV) rd hc hkV h⟩
/-! ### C.m(self, ..) -/
/-- what C.m(..) asks of the class -/
structure ClsG (X : Cx) (cl : Cl) (x m : Str) (g : MF) : Prop where
  ex : ∃ (k : Nat) (f C : Addr) (fd : FuncData) (ps : List Str), ClsFn X.K C m f ∧ FnG X.prog X.w X.K X.mg X.base k f fd ps (spM X.K cl g) ∧ Room k X.A ∧ X.mg x = some (.ref C) ∧ L2.Binds X.K fd ps []
theorem q_cls {i : Nat} {y m : Str} {p1 p2 p3 : Pos} {pl : Sem Bool} (tk : Takes X W) (M : ClsG X cl x m g) (hG : X.A.guards = some []) (ha : QZ cl X W fs es) (hN : X.N[i]? = some y := by rfl) (hv : Vis X.env.scope y := by first | exact Or.inl rfl | exact Or.inr (Or.inl rfl) | exact Or.inr (Or.inr rfl))
    (hd : (y == ("__debug__" : Str)) = false := by decide) (hcd : (y == ("__classdict__" : Str)) = false := by decide) (hg : Gl X x := by rfl) (hdb : (x == ("__debug__" : Str)) = false := by decide)
    (hc : eval (.Call (.Attribute (.Name x p1) m p2) (.Name y p3 :: es) [] pos) X.env = (do
      let ov ← eval (.Name x p1) X.env
      standAt p2.atName
      let (f, first) ← holding [ov] (getMethod ov m pl)
      callWith pos f first (backTo pos (starEach (.Name y p3 :: es) X.env)) (backToKw pos (keywordEach [] X.env))) := by rfl)
    (he : starEach (.Name y p3 :: es) X.env = (false, eval (.Name y p3) X.env) :: starEach es X.env := by rfl) (hpl : (backTo pos (starEach es X.env)).any (·.1) = false := by rfl) :
    QM cl X W (eOwn i (fun _ => some g) fs) (.Call (.Attribute (.Name x p1) m p2) (.Name y p3 :: es) [] pos) := by
  obtain ⟨k, f, C, fd, ps, cf, F, hr, hm, hb⟩ := M.ex
  refine ⟨(pe_clsfn F hr hG hg hm cf hb (fun σ => passAt tk σ) (pa_cons (pe_var (i := i) hN hv hd hcd) ha.pa he) hdb hc he hpl).imp fun σ H Q h => ?_⟩
  obtain ⟨F, A, γ, rel, h⟩ := h
  unfold eOwn at h
  cases et : thing i γ with
  | none => rw [et] at h; exact h.elim
  | some mx =>
    obtain ⟨md, y⟩ := mx
    rw [et] at h
    dsimp only at h
    obtain ⟨v, Ai, hvv, ho, _⟩ := rel.thing et
    refine ⟨v, hvv, F, A, γ, rel, ?_⟩
    cases ef : fs γ with
    | no => rw [ef] at h; exact h
    | er y => rw [ef] at h; exact fun F' H' c d ex r => h F' A H' c d (Step.ext ex) (rel.ext ex) r
    | ok xs =>
      rw [ef] at h
      intro F1 H1 ws e1 r1
      exact own_call (W := W) (fun _ _ _ z => z) rel e1 et hvv r1 h
/-! ### a method of a thing that lives within the expression -/
theorem Ext.trans' {F H F1 H1 F2 H2 : Hp} {A A2 : List Addr} (a : Ext F H F1 H1) (st : Step F1 A H1 F2 A2 H2) (sb : Same F2 H2) (na : ∀ b ∈ A, H b = none) : Ext F H F2 H2 :=
  ⟨sb, a.fle.trans st.fle, fun b o q => st.keep b o (fun z => by rw [na b z] at q; cases q) (a.hle b o q), fun b o q => by
    rcases st.new b o q with z | z | z
    · exact a.new b o z
    · exact .inr (na b z)
    · exact .inr (a.hle.free z)⟩
def tmpV : RM → R Vl
  | .ok r _ _ => .ok (.z r)
  | .er e _ _ => .er e
  | .no => .no
def tmpV0 : RM → R Vl
  | .ok r _ _ => .ok (.z r)
  | _ => .no
def xTmp (kk : RM → R Vl) (tbl : List (String × MF)) (m : String) (f : Ex) (fs : Env → R (List PV)) : Ex := fun γ => (f γ).bind fun l => match l with
  | .fr md x => match mpick tbl m x with
    | some g => (fs γ).bind fun xs => kk (g md x xs)
    | none => .no
  | _ => .no
theorem tq_tmp {m : String} {tbl : List (String × MF)} {kk : RM → R Vl} {f : Ex} {fs : Env → R (List PV)} {E : L2.St → XK} (M : MetM X cl m tbl) (σ : L2.St) (H : Hp) (Q : VK)
    (hk : ∀ r : RM, match r with
      | .ok y _ _ => kk r = .ok (.z y)
      | .er e _ _ => kk r = .no ∨ (kk r = .er e ∧ ∀ c d H, W c d σ H → E σ c d H)
      | .no => kk r = .no)
    (h : tq X.K cl W (xTmp kk tbl m f fs) σ H Q) : tMetG X (Str.ofString m) [] [] E (tq X.K cl W f) (tqZ X.K cl W fs) σ H Q := by
  obtain ⟨F, A, γ, rel, h⟩ := h
  refine ⟨F, A, γ, rel, ?_⟩
  unfold xTmp at h
  cases e : f γ with
  | no => rw [e] at h; exact h
  | er x => rw [e] at h; exact h
  | ok l =>
    rw [e] at h
    simp only [R.bind_ok] at h
    intro F1 H1 v e1 r1
    cases l with
    | pk md x => exact h.elim
    | fr md x =>
      dsimp only at h
      cases ep : mpick tbl m x with
      | none => rw [ep] at h; exact h.elim
      | some g =>
        rw [ep] at h
        dsimp only at h
        cases x <;> try (simp [mpick] at ep; done)
        rename_i c fl
        simp only [mpick] at ep
        cases nl : fl.lookup m with
        | some y => rw [nl] at ep; cases ep
        | none =>
          rw [nl] at ep
          obtain ⟨Ar, o1, o2, o3⟩ := r1
          obtain ⟨a, C, dx, vs, rfl, hc, ha, lk⟩ := o1.inst e1.sub nl
          refine ⟨a, C, dx, vs, _, rfl, ha, lk, M.at_ c g C ep hc, F1, A, γ, rel.ext e1, ?_⟩
          cases ef : fs γ with
          | no => rw [ef] at h; exact h
          | er y => rw [ef] at h; exact fun F' H' c d ex r => h F' H' c d (e1.trans ex) r
          | ok xs =>
            rw [ef] at h
            simp only [R.bind_ok] at h
            intro F2 H2 ws e2 r2
            rw [List.append_nil]
            have d2 : ∀ b ∈ Ar, F2 b = none := fun b hb => by
              cases q : F2 b with
              | none => rfl
              | some o =>
                rcases e2.new b o q with z | z
                · rw [(o3 b hb).2] at z; cases z
                · obtain ⟨u, hu⟩ := OwM.dom md o1 b hb
                  rw [hu] at z; cases z
            refine ⟨F2, md, _, .ref a, Ar, xs, ws, rfl, e2.sub, OwM.mono e2.fle md o1 fun b _ o q => e2.hle b o q, o2, d2, r2, ?_⟩
            have ext : ∀ {F' A' H'}, Step F2 Ar H2 F' A' H' → Same F' H' → Ext F H F' H' := fun {F' A' H'} st sb => (e1.trans ⟨e2.sub, e2.fle, e2.hle, e2.new⟩).trans' st sb (fun b hb => (o3 b hb).1)
            have hk' := hk (g md (.obj c fl) xs)
            cases er : g md (.obj c fl) xs with
            | no => rw [er] at h hk'; rw [hk'] at h; exact h
            | er y m' x' =>
              rw [er] at h hk'
              rcases hk' with z | ⟨z, hE⟩
              · rw [z] at h; exact h.elim
              · rw [z] at h
                exact fun F' A' H' c d st sb ow nd d' rx => hE _ _ _ (h F' H' c d (ext st sb) rx)
            | ok y m' x' =>
              rw [er] at h hk'
              rw [hk'] at h
              exact fun F' A' H' v st sb ow nd d' rv => h F' H' v (ext st sb) (VlR.zz rv)
end
end Z
/-! the pure layer, part Y: repr, == (), tuples turned about, written dicts -/
namespace Z
open PySem L2
/-! ### the model's level -/
section
open PySem.Spec PyProof.Rows HT
variable {prog : Program} {w : World} {A : Around} {E : Value → Shared → Prop} {s : Shared}
theorem places_back (n : Nat) : Builtin.Slice.slicePlaces ((n : Int) - 1) (-1) (-1) = n := by
  unfold Builtin.Slice.slicePlaces
  simp only [show ¬ ((-1 : Int) > 0) by omega, if_false, show -(-1 : Int) = 1 by omega, Int.ediv_one]
  split <;> omega
theorem pick_back (xs : Array Value) : ((List.range xs.size).filterMap fun (m : Nat) => xs[(((xs.size : Int) - 1) + (m : Int) * (-1)).toNat]?).toArray = xs.toList.reverse.toArray := by
  congr 1
  apply List.ext_getElem?
  intro i
  by_cases hi : i < xs.size
  · have key : ∀ n, n ≤ xs.size → (List.range n).filterMap (fun (m : Nat) => xs[(((xs.size : Int) - 1) + (m : Int) * (-1)).toNat]?) = (xs.toList.reverse).take n := by
      intro n
      induction n with
      | zero => intro _; simp
      | succ n ih =>
        intro hn
        have hr : ((xs.size : Int) - 1 + (n : Int) * (-1)).toNat = xs.size - 1 - n := by omega
        have hb : xs.size - 1 - n < xs.size := by omega
        rw [List.range_succ, List.filterMap_append, ih (by omega)]
        have h2 : (xs.toList.reverse).take (n + 1) = (xs.toList.reverse).take n ++ [xs[xs.size - 1 - n]] := by
          rw [List.take_add_one]
          congr 1
          rw [List.getElem?_reverse (by simpa using (by omega : n < xs.size))]
          simp [Array.getElem?_eq_getElem hb, hb]
        rw [h2]
        simp only [List.filterMap_cons, hr, Array.getElem?_eq_getElem hb, List.filterMap_nil]
    rw [key xs.size (Nat.le_refl _), List.take_of_length_le (by simp)]
  · have l1 : ((List.range xs.size).filterMap fun (m : Nat) => xs[(((xs.size : Int) - 1) + (m : Int) * (-1)).toNat]?).length ≤ xs.size := by
      have := List.length_filterMap_le (fun (m : Nat) => xs[(((xs.size : Int) - 1) + (m : Int) * (-1)).toNat]?) (List.range xs.size)
      simpa using this
    rw [List.getElem?_eq_none (by omega), List.getElem?_eq_none (by simp; omega)]
theorem getItem_tuple_back {t sl : Addr} {items : Array Value} {vs : Value} {Q : Value → Shared → Prop} (ht : IsTup s.heap t items) (hs : s.heap.IsSliceOf sl .none .none vs) (ps : IsPart vs (some (-1)))
    (h : Q (.ref s.heap.objs.size) { s with heap := s.heap.push { cls := .type "tuple", data := .seq items.toList.reverse.toArray } })
    (hsz : items.size ≤ sizeLine) : wpAny (model prog w) A (getItem (.ref t) (.ref sl)) Q E s := by
  have htake : sizeOk (.seq items.toList.reverse.toArray) := by
    show items.toList.reverse.toArray.size ≤ sizeLine
    rw [List.size_toArray, List.length_reverse, Array.length_toList]
    exact hsz
  obtain ⟨os, hos, hcs, hds⟩ := id hs
  have hTs : s.TypeIs (.ref sl) "slice" := ⟨os, hos, hcs⟩
  unfold getItem
  try with_reducible refine wpAny_holding ?_
  first | refine wpAny_bind (wpAny_pure ?_) | skip
  refine wpAny_bind (wpAny_sequenceKey ht.typeIs (by decide) ?_)
  refine wpAny_bind (wpAny_callSpecial?_slot (name := Str.ofString "__getitem__") ht.typeIs PyProof.Rows.slot_tuple_getitem
    (wpAny_call_entry PyProof.Rows.slot_tuple_getitem ht.typeIs entry_tuple_getitem ?_ (args_tuple_getitem _ _)))
  show wpAny _ _ (Builtin.Tuple.tupleItemsOf (.ref t) >>= _) _ _ s
  refine wpAny_bind (tupleItemsOf_ ht ?_)
  refine wpAny_bind (wpAny_typeOf hTs ?_)
  rw [if_pos (by decide)]
  refine wpAny_bind (m := Builtin.Slice.sliceApplied (.ref sl) _) ?_
  unfold Builtin.Slice.sliceApplied Builtin.Slice.sliceFields
  refine wpAny_bind (wpAny_bind (wpAny_field hos hds (x := .none) rfl (wpAny_bind (wpAny_field hos hds (x := .none) rfl (wpAny_bind (wpAny_field hos hds (x := vs) rfl (wpAny_pure ?_)))))))
  refine wpAny_bind (slicePart_ ps ?_)
  show wpAny _ _ (if ((-1 : Int) == 0) = true then _ else _) _ _ s
  rw [if_neg (by decide)]
  refine wpAny_bind (slicePart_none (wpAny_bind (slicePart_none (wpAny_bind (wpAny_pure ?_)))))
  show wpAny _ _ (pure (((items.size : Int) - 1), (-1 : Int), Builtin.Slice.slicePlaces ((items.size : Int) - 1) (-1) (-1))) _ _ s
  rw [places_back]
  refine wpAny_pure ?_
  show wpAny _ _ (if (((items.size : Int) - 1) == 0 && (-1 : Int) == 1 && items.size == items.size) = true then _ else _) _ _ s
  rw [if_neg (by simp), pick_back]
  first
    | exact wpAny_bind (m := Builtin.Tuple.tupleExact _) (wpAny_newObj_type (wpAny_pure ⟨_, rfl, wpAny_pure h⟩) htake)
end
section
variable {X : Cx} {cl : Cl} {W : WX}
/-! ### t[::-1] of a tuple, xs[::-1] of a list -/
def tRevU (K : PySem.W.Frag) (te : TE) : TE := fun σ H Q => te σ H fun x H1 => ∃ a xs, x = .ref a ∧ SqT K H1 a xs ∧ ∀ p, H1 p = none → Q (.ref p) (upd H1 p (.tup xs.reverse))
theorem pe_revU {e : Expr} {te : TE} {k : Nat} {p1 p2 p3 pos : Pos} (he : PE X e te) : PE X (.Subscript e (.Slice none none (some (.UnaryOp .USub (.Constant (.int 1) k p1) p2)) p3) pos) (tRevU X.K te) := by
  refine ⟨fun pins s σ H Q I h => PyProof.Rows.Subscript_ (thn (he.run pins s σ H _ I h) ?_)⟩
  rintro v s1 ⟨_, H1, I1, r1, a, xs, rfl, hx, q⟩
  obtain rfl : v = Value.ref a := r1
  have hst : PO X (some (.UnaryOp .USub (.Constant (.int 1) k p1) p2)) (tPart (tUn (rU fun i => .int (-i)) (tC (.int 1)))) := po_some (pe_un un_neg pe_int)
  refine PySem.wpAny_Slice (thn (po_none.run pins s1 σ H1 (fun o H2 => o = none ∧ H2 = H1) I1 ⟨rfl, rfl⟩) ?_)
  rintro vl s2 ⟨l, H2, I2, pl, rfl, rfl⟩
  refine thn (po_none.run pins s2 σ H2 (fun o H3 => o = none ∧ H3 = H2) I2 ⟨rfl, rfl⟩) ?_
  rintro vu s3 ⟨u, H3, I3, pu, rfl, rfl⟩
  refine thn (hst.run pins s3 σ H3 (fun o H4 => o = some (-1) ∧ H4 = H3) I3 ⟨1, rfl, -1, rfl, rfl, rfl⟩) ?_
  rintro vs s4 ⟨o, H4, I4, ps, rfl, rfl⟩
  have I5 : Inv X pins σ H4 { s4 with heap := s4.heap.push { cls := .type "slice", data := .fields #[vl, vu, vs] } } := I4.kept (t' := s4.toks) fun b ob q => Heap.get?_push_of_some _ q
  cases pl
  cases pu
  obtain ⟨its, r, ht, hz⟩ := I5.tuple hx
  have hlen := r.length
  show wpAny (model X.prog X.w) X.A (PyProof.Rows.subscriptTail e (.Slice none none (some (.UnaryOp .USub (.Constant (.int 1) k p1) p2)) p3) (.ref a) (.ref s4.heap.objs.size)) (EP X pins σ Q) X.xe { s4 with heap := s4.heap.push { cls := .type "slice", data := .fields #[.none, .none, vs] } }
  refine PyProof.Rows.tail_any (ops := [.ref a, .ref s4.heap.objs.size]) ht.typeIs (PyProof.Rows.slot_tuple_getitem.lookup) ?_ (by with_unfolding_all rfl)
  refine getItem_tuple_back ht (Heap.IsSliceOf.new _ .none .none vs) ps ?_ (by rw [List.size_toArray]; omega)
  refine ⟨.ref _, _, I5.laid (t' := s4.toks) (o := .tup xs.reverse) (fun b ob q => Heap.get?_push_of_some _ q) (Nat.le_refl _) ?_, rfl, q _ (I5.hok.fresh (Nat.le_refl _))⟩
  exact ⟨by rw [List.length_reverse]; exact hz, _, r.reverse, ⟨_, Heap.get?_push_size _ rfl, rfl, 0, by simp⟩⟩
theorem _root_.L2.PE.or {X : Cx} {e : Expr} {t u : TE} (h : PE X e t) (k : PE X e u) : PE X e (fun σ H Q => t σ H Q ∨ u σ H Q) := ⟨fun pins s σ H Q I q => q.elim (h.run pins s σ H Q I) (k.run pins s σ H Q I)⟩
def pRevA : PV → R Vl
  | .lst xs => .ok (.fr .ow (.lst xs.reverse))
  | .tup xs => .ok (.z (.tup xs.reverse))
  | _ => .no
theorem q_revA {f} {e : Expr} {k : Nat} {p1 p2 p3 pos : Pos} (he : QE cl X W f e) : QE cl X W (x1 pRevA f) (.Subscript e (.Slice none none (some (.UnaryOp .USub (.Constant (.int 1) k p1) p2)) p3) pos) := by
  refine ⟨((pe_revL he.pe).or (pe_revU he.pe)).imp fun σ H Q h => ?_⟩
  obtain ⟨F, A, γ, rel, h⟩ := h
  unfold x1 at h
  cases e : f γ with
  | no => rw [e] at h; exact h.elim
  | er x => rw [e] at h; exact .inl ⟨F, A, γ, rel, by rw [e]; exact h⟩
  | ok l =>
    rw [e] at h
    simp only [R.bind_ok] at h
    cases ex : l.x <;> rw [ex] at h <;> try exact h.elim
    · rename_i xs
      refine .inr ⟨F, A, γ, rel, ?_⟩
      rw [e]
      intro F1 H1 v e1 r1
      have rv := r1.rv
      rw [ex] at rv
      obtain ⟨a, vs, rfl, q, r⟩ := rv.tup e1.sub
      exact ⟨a, vs, rfl, SqT.of q, fun p np => h _ _ _ (e1.trans (Ext.newF e1.sub np)) (VlR.zz (new_tup e1.sub np r.reverse))⟩
    · rename_i xs
      refine .inl ⟨F, A, γ, rel, ?_⟩
      rw [e]
      intro F1 H1 v e1 r1
      have rv := r1.rv
      rw [ex] at rv
      obtain ⟨a, vs, rfl, q, r⟩ := rv.lst e1.sub
      exact ⟨a, vs, rfl, q, fun p np => h _ _ _ (e1.trans (Ext.newO e1.sub np)) ((vlN_lst e1.sub np r.reverse).r e1.hle)⟩
/-! ### a written dict of one pair -/
def dispK (k : PV) : Bool := match k with
  | .int _ => true
  | .str _ => true
  | _ => false
def xDisp1 (f g : Ex) : Ex := fun γ => (f γ).bind fun k => if dispK k.x then (g γ).bind fun l => l.keep.bind fun y => .ok (.fr .ow (.dct false [(k.x, y)])) else .no
theorem q_disp1 {f g} {k v : Expr} {pos : Pos} (hk : QE cl X W f k) (hv : QE cl X W g v) (h : PPs X pos [some k] [v] [(tq X.K cl W f, tq X.K cl W g)]) : QE cl X W (xDisp1 f g) (.Dict [some k] [v] pos) := by
  refine ⟨(pe_disp h rfl rfl (by simp) (by show 1 ≤ 15; decide)).imp fun σ H Q h => ?_⟩
  intro p np
  obtain ⟨F, A, γ, rel, h⟩ := h
  have e0 : Ext F H F (upd H p (.dK [])) := Ext.newO rel.sub np
  have nF := rel.sub.free np
  refine ⟨F, A, γ, rel.ext e0, ?_⟩
  unfold xDisp1 at h
  cases e : f γ with
  | no => rw [e] at h; exact h
  | er x => rw [e] at h; exact fun F' H' c d ex r => h F' H' c d (e0.trans ex) r
  | ok l =>
    rw [e] at h
    simp only [R.bind_ok] at h
    intro F1 H1 kv e1 r1
    have rk := r1.rv
    cases ek : dispK l.x with
    | false => rw [ek] at h; exact h.elim
    | true =>
      rw [ek] at h
      simp only [if_true] at h
      refine ⟨F1, A, γ, (rel.ext e0).ext e1, ?_⟩
      cases e' : g γ with
      | no => rw [e'] at h; exact h
      | er x => rw [e'] at h; exact fun F' H' c d ex r => h F' H' c d ((e0.trans e1).trans ex) r
      | ok y =>
        rw [e'] at h
        simp only [R.bind_ok] at h
        intro F2 H2 w e2 r2
        cases ey : y.keep with
        | no => rw [ey] at h; exact h.elim
        | er x => exact (y.keep_ne _ ey).elim
        | ok z =>
          rw [ey] at h
          simp only [R.bind_ok] at h
          obtain ⟨F3, e3, s3, rz⟩ := keep_ok r2 e2 ey
          have hp : H2 p = some (.dK []) := e3.hle _ _ (e1.hle _ _ upd_same)
          have nF3 : F3 p = none := by
            cases q : F3 p with
            | none => rfl
            | some o =>
              rcases (e1.trans e3).new p o q with q | q
              · rw [nF] at q; cases q
              · rw [upd_same] at q; cases q
          have go : ∀ j : Key, l.x = kP j → kv = kV j → H2 p = some (.dK []) ∧ ∃ kvs : List (Key × V), [(kv, w)] = kvs.map (fun kv => (kV kv.1, kv.2)) ∧ kvs.length ≤ 15 ∧ Q (.ref p) (upd H2 p (.dK (mergeK [] kvs))) := fun j hj ej => by
            refine ⟨hp, [(j, w)], by rw [ej]; rfl, by simp, ?_⟩
            have em : mergeK [] [(j, w)] = [(j, w)] := rfl
            rw [em]
            have ex : Ext F H F3 (upd H2 p (.dK [(j, w)])) := by
              have e03 := (e0.trans e1).trans e3
              refine ⟨fun a o q => ?_, e03.fle, fun a o q => ?_, fun a o q => ?_⟩
              · rw [upd_ne (ne_of_none q nF3)]; exact e03.sub a o q
              · rw [upd_ne (ne_of_none q np)]; exact (e1.trans e3).hle a o (by rw [upd_ne (ne_of_none q np)]; exact q)
              · exact e03.new a o q
            refine h F3 _ (.ref p) ex ⟨[p], ?_, by simp, fun a ha => by rw [List.mem_singleton.mp ha]; exact ⟨np, nF3⟩⟩
            simp only [OwM]
            refine ⟨p, rfl, rfl, _, ⟨[(j, w)], upd_same, rfl⟩, ?_⟩
            simp only [List.map_cons, List.map_nil, RpD]
            exact ⟨w, [], by rw [hj], rz, rfl⟩
          cases ekx : l.x <;> rw [ekx] at ek rk <;> simp [dispK] at ek
          · exact go (.inl _) ekx rk.int
          · exact go (.inr _) ekx rk.str
end
end Z
/-! the pure layer, part Z: repr of data, == (), the end of a law that shows -/
namespace Z
open PySem L2
/-! ### data as they are shown -/
mutual
def toR : PV → PyData
  | .bl b => .bool b
  | .int i => .int i
  | .str x => .str x
  | .tup xs => .tuple (toRL xs)
  | .lst xs => .list (toRL xs)
  | .dct _ _ => .dict []
  | _ => .none
def toRL : List PV → List PyData
  | [] => []
  | x :: xs => toR x :: toRL xs
end
mutual
/-- data of a depth; of dicts, the empty one; ints that can be shown -/
def rD : Nat → PV → Bool
  | _, .non => true
  | _, .bl _ => true
  | _, .int i => decide (i.natAbs.log2 < 1900)
  | _, .str _ => true
  | n, .tup xs => rDL n xs
  | n, .lst xs => rDL n xs
  | n, .dct _ kvs => kvs.isEmpty && decide (0 < n)
  | _, _ => false
def rDL : Nat → List PV → Bool
  | 0, _ => false
  | _ + 1, [] => true
  | n + 1, x :: xs => rD n x && rDL (n + 1) xs
end
mutual
/-- no shorter than what is shown -/
def shW : PV → Nat
  | .non => 4
  | .bl _ => 5
  | .int _ => 700
  | .str x => (reprText x).length
  | .tup xs => 4 + shWL xs
  | .lst xs => 4 + shWL xs
  | _ => 4
def shWL : List PV → Nat
  | [] => 0
  | x :: xs => shW x + 2 + shWL xs
end
theorem int_shown (i : Int) (h : i.natAbs.log2 < 1900) : (PySem.Str.ofString (toString i)).length ≤ 700 := by
  have hlt : i.natAbs < 2 ^ 1900 := by
    by_cases z : i.natAbs = 0
    · rw [z]; exact Nat.two_pow_pos _
    · exact (Nat.log2_lt z).mp h
  have big : (2 : Nat) ^ 1900 ≤ 10 ^ 600 := by decide +kernel
  have n0 : ∀ n : Nat, n < 2 ^ 1900 → (PySem.Str.ofString (toString (n : Int))).length ≤ 600 := fun n hn =>
    PyProof.Rows.toString_length_le (by omega) (by decide) (by
      have : n < 10 ^ 600 := Nat.lt_of_lt_of_le hn big
      exact_mod_cast this)
  cases i with
  | ofNat n => exact Nat.le_trans (n0 n (by simpa using hlt)) (by decide)
  | negSucc n =>
    have e : toString (Int.negSucc n) = "-" ++ toString ((n + 1 : Nat) : Int) := rfl
    rw [e, PyProof.Rows.ofString_length, String.toList_append, List.length_append]
    have := n0 (n + 1) (by simpa using hlt)
    rw [PyProof.Rows.ofString_length] at this
    have l1 : "-".toList.length = 1 := by decide
    omega
theorem listText_le (ts : List Str) : (listText ts).length ≤ piled ts + 4 := by
  cases ts with
  | nil => rw [listText_nil]; decide
  | cons t r =>
    have h := textFrom_length_pos r 1 (("[" : Str) ++ (if (0 : Nat) > 0 then ", " else "" : String) ++ t) (Nat.succ_pos 0)
    have e : ((("[" : Str) ++ (if (0 : Nat) > 0 then ", " else "" : String) ++ t)).length = 1 + t.length := by
      rw [strLen_append, strLen_append]; rfl
    have hX : (listText (t :: r)).length = (textFrom 0 "[" (t :: r)).length + 1 := by
      show (textFrom 0 "[" (t :: r) ++ "]").length = _
      rw [strLen_append]; rfl
    have hY : (textFrom 0 "[" (t :: r)).length = (textFrom 1 (("[" : Str) ++ (if (0 : Nat) > 0 then ", " else "" : String) ++ t) r).length := rfl
    rw [hX, hY, h, e, piled_cons]; omega
theorem tupleText_le (ts : List Str) : (tupleText ts).length ≤ piled ts + 4 := by
  unfold tupleText
  rw [strLen_append, strLen_append]
  have e1 : ((("(" : String) : Str)).length = 1 := rfl
  have e3 : (((if ts.length == 1 then ",)" else ")" : String) : Str)).length ≤ 2 := by split <;> decide
  have e2 : (Str.join ", " ts).length ≤ piled ts := by
    by_cases h : ts = []
    · subst h; decide
    · have := join_length_add ts h; omega
  omega
mutual
theorem shown_le : (x : PV) → ∀ {n}, rD n x = true → (toR x).shown.length ≤ shW x
  | .non, n, h => by simp only [toR, PyData.shown, shW]; decide
  | .bl b, n, h => by simp only [toR, PyData.shown, shW]; cases b <;> decide
  | .int i, n, h => by simp only [rD, decide_eq_true_eq] at h; simp only [toR, PyData.shown, shW]; exact int_shown i h
  | .str x, n, h => by simp only [toR, PyData.shown, shW]; exact Nat.le_refl _
  | .tup xs, n, h => by
    simp only [rD] at h
    simp only [toR, PyData.shown, shW]
    have := shownL_le xs h
    have := tupleText_le (PyData.shownAll (toRL xs))
    omega
  | .lst xs, n, h => by
    simp only [rD] at h
    simp only [toR, PyData.shown, shW]
    have := shownL_le xs h
    have := listText_le (PyData.shownAll (toRL xs))
    omega
  | .dct _ kvs, n, h => by simp only [toR, PyData.shown, PyData.shownKv, shW]; decide
  | .set _, n, h => by simp [rD] at h
  | .obj _ _, n, h => by simp [rD] at h
  | .exc _ _, n, h => by simp [rD] at h
theorem shownL_le : (xs : List PV) → ∀ {n}, rDL n xs = true → piled (PyData.shownAll (toRL xs)) ≤ shWL xs
  | [], n, h => by simp [toRL, PyData.shownAll, shWL, piled]
  | x :: xs, n, h => by
    cases n with
    | zero => simp [rDL] at h
    | succ n =>
      simp only [rDL, Bool.and_eq_true] at h
      simp only [toRL, PyData.shownAll, shWL, piled_cons]
      have := shown_le x h.1
      have := shownL_le xs h.2
      omega
end
mutual
theorem show_ok : (x : PV) → ∀ {n}, rD n x = true → (toR x).showable = true ∧ (toR x).depth ≤ n
  | .non, n, h => ⟨by simp [toR, PyData.showable], by simp [toR, PyData.depth]⟩
  | .bl b, n, h => ⟨by simp [toR, PyData.showable], by simp [toR, PyData.depth]⟩
  | .int i, n, h => ⟨by simp only [rD, decide_eq_true_eq] at h; simp [toR, PyData.showable]; omega, by simp [toR, PyData.depth]⟩
  | .str x, n, h => ⟨by simp [toR, PyData.showable], by simp [toR, PyData.depth]⟩
  | .tup xs, n, h => by
    simp only [rD] at h
    obtain ⟨a, b⟩ := showL_ok xs h
    exact ⟨by simpa [toR, PyData.showable] using a, by simpa only [toR, PyData.depth] using b⟩
  | .lst xs, n, h => by
    simp only [rD] at h
    obtain ⟨a, b⟩ := showL_ok xs h
    exact ⟨by simpa [toR, PyData.showable] using a, by simpa only [toR, PyData.depth] using b⟩
  | .dct _ kvs, n, h => by
    simp only [rD, Bool.and_eq_true, decide_eq_true_eq] at h
    exact ⟨by simp [toR, PyData.showable, PyData.showableKv], by simp only [toR, PyData.depth, PyData.depthKv]; omega⟩
  | .set _, n, h => by simp [rD] at h
  | .obj _ _, n, h => by simp [rD] at h
  | .exc _ _, n, h => by simp [rD] at h
theorem showL_ok : (xs : List PV) → ∀ {n}, rDL n xs = true → PyData.showableAll (toRL xs) = true ∧ PyData.depthAll (toRL xs) + 1 ≤ n
  | [], n, h => by
    cases n with
    | zero => simp [rDL] at h
    | succ n => simp [toRL, PyData.showableAll, PyData.depthAll]
  | x :: xs, n, h => by
    cases n with
    | zero => simp [rDL] at h
    | succ n =>
      simp only [rDL, Bool.and_eq_true] at h
      obtain ⟨a, b⟩ := show_ok x h.1
      obtain ⟨c, d⟩ := showL_ok xs h.2
      refine ⟨by simp [toRL, PyData.showableAll, a, c], ?_⟩
      simp only [toRL, PyData.depthAll]
      omega
end
section
variable {X : Cx} {cl : Cl} {W : WX}
/-- nothing that is tracked is the table of the modules -/
def SysB (base : Heap) : Prop := ∃ mm, base.Ns sysModules mm
theorem not_sys {pins : List (Addr × Obj)} {σ : L2.St} {H : Hp} {s : Shared} (I : Inv X pins σ H s) (hS : SysB X.base) {a : Addr} {o : HO} (h : H a = some o) : a ≠ sysModules := fun e => by
  obtain ⟨mm, ob, _, _, hb, _⟩ := hS
  have := (I.bs _ _ hb).2
  rw [e, this] at h
  cases h
mutual
theorem reads_of {pins : List (Addr × Obj)} {σ : L2.St} {F H : Hp} {s : Shared} (I : Inv X pins σ H s) (hS : SysB X.base) (e : Same F H) : (x : PV) → ∀ {n v u}, Rp ⟨X.K, cl⟩ F x v → RelV v u → rD n x = true → ∃ as, Reads s.heap u (toR x) as ∧ sysModules ∉ as
  | .non, n, v, u, h, r, d => by simp only [Rp] at h; subst h; cases r; exact ⟨_, .none, by simp⟩
  | .bl b, n, v, u, h, r, d => by simp only [Rp] at h; subst h; cases r; exact ⟨_, .bool b, by simp⟩
  | .int b, n, v, u, h, r, d => by simp only [Rp] at h; subst h; obtain ⟨t, rfl⟩ := r; exact ⟨_, .int b t, by simp⟩
  | .str b, n, v, u, h, r, d => by simp only [Rp] at h; subst h; obtain ⟨t, rfl⟩ := r; exact ⟨_, .str b t, by simp⟩
  | .tup xs, n, v, u, h, r, d => by
    simp only [Rp] at h
    obtain ⟨a, vs, rfl, q, rl⟩ := h
    cases r
    simp only [rD] at d
    obtain ⟨its, rv, ⟨o, ho, hc, m, hd⟩, _⟩ := I.tuple (SqT.of (e _ _ q))
    obtain ⟨as, hr, hn⟩ := readsL_of I hS e xs rl rv d
    exact ⟨as, .tuple ho hc hd hr, hn⟩
  | .lst xs, n, v, u, h, r, d => by
    simp only [Rp] at h
    obtain ⟨a, vs, rfl, q, rl⟩ := h
    cases r
    simp only [rD] at d
    obtain ⟨its, rv, ⟨o, m, ho, hc, _, hd⟩, _⟩ := I.list (.inl (rd_mono e q))
    obtain ⟨as, hr, hn⟩ := readsL_of I hS e xs rl rv d
    have ha : a ≠ sysModules := by
      rcases rd_mono e q with z | ⟨o, z⟩
      · exact not_sys I hS z
      · exact not_sys I hS z
    refine ⟨a :: as, .list ho hc hd hr, fun z => ?_⟩
    rcases List.mem_cons.mp z with z | z
    · exact ha z.symm
    · exact hn z
  | .dct t kvs, n, v, u, h, r, d => by
    simp only [Rp] at h
    obtain ⟨a, ks, rfl, q, rl⟩ := h
    cases r
    simp only [rD, Bool.and_eq_true, List.isEmpty_iff] at d
    obtain ⟨rfl, _⟩ := d
    simp only [RpD] at rl
    subst rl
    have q := q.mono (F' := H) (e a)
    have fin : ∀ {o : Obj} {es : Array DictEntry} {ep : Nat}, s.heap.get? a = some o → o.ExactDict → o.data = .dict es ep → es.toList = [] → (∃ u, H a = some u) → ∃ as, Reads s.heap (.ref a) (toR (.dct t [])) as ∧ sysModules ∉ as := fun {o es ep} ho hx hd he hu => by
      obtain ⟨u, hu⟩ := hu
      refine ⟨_, .dict (kvs := []) ho hx.1 hd (by rw [he]; exact .nil) (by rw [he]; exact .nil), fun z => ?_⟩
      have z : sysModules = a := by simpa using z
      exact not_sys I hS hu z.symm
    cases t with
    | false =>
      obtain ⟨es, hd, e0⟩ := q
      obtain rfl : es = [] := List.map_eq_nil_iff.mp e0.symm
      obtain ⟨_, _, vs, kv, o, ea, ep, ho, hx, hdt, _, hes, _⟩ := dk_rd I.hok hd
      obtain rfl : vs = [] := by cases kv; rfl
      exact fin ho hx hdt (by generalize ea.toList = l at hes; cases hes; rfl) (hd.elim (fun z => ⟨_, z⟩) fun ⟨o, z⟩ => ⟨_, z⟩)
    | true =>
      obtain ⟨es, hd, e0⟩ := q
      obtain rfl : es = [] := List.map_eq_nil_iff.mp e0.symm
      obtain ⟨_, _, xs, kt, o, ea, ep, ho, hx, hdt, hes, _⟩ := (show ObjOk X.prog X.w H s.heap a (.dT []) from I.hok a _ hd)
      obtain rfl : xs = [] := by cases kt; rfl
      exact fin ho hx hdt (by simpa using hes) ⟨_, hd⟩
  | .set _, n, v, u, h, r, d => by simp [rD] at d
  | .obj _ _, n, v, u, h, r, d => by simp [rD] at d
  | .exc _ _, n, v, u, h, r, d => by simp [rD] at d
theorem readsL_of {pins : List (Addr × Obj)} {σ : L2.St} {F H : Hp} {s : Shared} (I : Inv X pins σ H s) (hS : SysB X.base) (e : Same F H) : (xs : List PV) → ∀ {n vs us}, RpL ⟨X.K, cl⟩ F xs vs → Vals vs us → rDL n xs = true → ∃ as, ReadsAll s.heap us (toRL xs) as ∧ sysModules ∉ as
  | [], n, vs, us, h, r, d => by simp only [RpL] at h; subst h; cases r; exact ⟨_, .nil, by simp⟩
  | x :: xs, n, vs, us, h, r, d => by
    simp only [RpL] at h
    obtain ⟨v, ws, rfl, p, q⟩ := h
    cases n with
    | zero => simp [rDL] at d
    | succ n =>
      simp only [rDL, Bool.and_eq_true] at d
      cases r with
      | cons r1 r2 =>
        obtain ⟨as, h1, n1⟩ := reads_of I hS e x p r1 d.1
        obtain ⟨bs, h2, n2⟩ := readsL_of I hS e xs q r2 d.2
        exact ⟨_, .cons h1 h2, fun z => (List.mem_append.mp z).elim n1 n2⟩
end
/-- an own list is as good as a frozen one, to be read -/
theorem rv_reads {pins : List (Addr × Obj)} {σ : L2.St} {F H : Hp} {s : Shared} (I : Inv X pins σ H s) (hS : SysB X.base) (e : Same F H) {x : PV} {n v u} (h : Rv ⟨X.K, cl⟩ F H x v) (r : RelV v u) (d : rD n x = true) : ∃ as, Reads s.heap u (toR x) as ∧ sysModules ∉ as := by
  obtain ⟨m, A, h⟩ := h
  -- freeze what is owned: F and H at A
  have hF : Rp ⟨X.K, cl⟩ H x v := OwM.freeze e m h fun a _ o q => q
  exact reads_of I hS (Same.refl H) x hF r d
def pRepr (x : PV) : R Vl := if rD 50 x && decide (shW x ≤ 16000000) then .ok (.z (.str (toR x).shown)) else .no
def pReprL : List PV → R Vl
  | [x] => pRepr x
  | _ => .no
def rRepr (X : Cx) (cl : Cl) : List V → Hp → VK → Prop := fun vs H Q => ∃ F x v, vs = [v] ∧ Same F H ∧ Rv ⟨X.K, cl⟩ F H x v ∧ rD 50 x = true ∧ shW x ≤ 16000000 ∧ Q (.str (toR x).shown) H
theorem call_repr (hG : X.A.guards = some []) (hS : SysB X.base) (hu : X.A.units + 64 < cLine) : CallR X (.builtin "repr") (rRepr X cl) := by
  rintro pins s σ H xs us Q I r ⟨F, x, v, rfl, e, rx, d, hw, q⟩
  obtain ⟨u, rfl, ru⟩ := vals1 r
  obtain ⟨as, hr, hn⟩ := rv_reads I hS e rx ru d
  obtain ⟨sh, dp⟩ := show_ok x d
  have hz : (toR x).shown.length ≤ sizeLine := by have := shown_le x d; rw [sizeLine_eq]; omega
  have fin : ∀ h' tk u', (∀ b o, s.heap.get? b = some o → h'.get? b = some o) → EP X pins σ Q (.str (toR x).shown u') { s with heap := h', toks := tk } := fun h' tk u' k => ⟨.str _, H, I.kept k, ⟨_, rfl⟩, q⟩
  generalize toR x = dd at *
  cases hr with
  | none => exact PySem.P.repr_of_none (fin s.heap _ _ fun _ _ z => z)
  | bool b => exact PySem.P.repr_of_bool (fin s.heap _ _ fun _ _ z => z)
  | int i t => exact PySem.P.repr_of_int (by simpa [PyData.showable] using sh) (fin s.heap _ _ fun _ _ z => z)
  | str z t => exact PySem.P.repr_of_str (fin s.heap _ _ fun _ _ z => z) (by simpa only [PyData.shown] using hz)
  | list h1 h2 h3 h4 => exact repr_of_reads' (.list h1 h2 h3 h4) sh (fun _ => hn) hG (by omega) (fun _ _ z => z) (fun h' u tk k => fin h' tk u k) hz
  | tuple h1 h2 h3 h4 => exact repr_of_reads' (.tuple h1 h2 h3 h4) sh (fun _ => hn) hG (by omega) (fun _ _ z => z) (fun h' u tk k => fin h' tk u k) hz
  | dict h1 h2 h3 h4 h5 => exact repr_of_reads' (.dict h1 h2 h3 h4 h5) sh (fun _ => hn) hG (by omega) (fun _ _ z => z) (fun h' u tk k => fin h' tk u k) hz
theorem q_repr {fs} {e : Expr} {p pos : Pos} (hG : X.A.guards = some []) (hS : SysB X.base) (hu : X.A.units + 64 < cLine) (hm : X.mg "repr" = none) (ha : QA cl X W fs [e]) (hg : Gl X "repr" := by rfl) (he : starEach (e :: []) X.env = (false, eval e X.env) :: starEach [] X.env := by rfl) (hpl : (backTo pos (starEach [] X.env)).any (·.1) = false := by rfl) :
    QE cl X W (xB pReprL fs) (.Call (.Name "repr" p) [e] [] pos) := by
  refine q_callB (call_repr (cl := cl) hG hS hu) (fun x e h => ?_) (fun F H xs vs Q s r h => ?_) (by decide +kernel) hg hm ha (by decide) (by decide) he hpl
  · unfold pReprL pRepr at h
    split at h
    · split at h <;> cases h
    · cases h
  · unfold pReprL at h
    split at h
    · rename_i x
      obtain ⟨v, rfl, rv⟩ := r.one
      unfold pRepr at h
      split at h
      · rename_i c
        simp only [Bool.and_eq_true, decide_eq_true_eq] at c
        exact ⟨F, x, v, rfl, s, rv, c.1, c.2, h.of s (by simp [Rp])⟩
      · exact h.elim
    · exact h.elim
end
/-! ### x == () -/
section
open PySem.Spec PyProof.Rows
theorem dict_eq_declines_tuple (l b : Addr) (es : Array DictEntry) (items2 : Array Value) (n n2 : Nat) (dd dd2 : Option Addr) (sl sl2 : Array (Option Value)) :
    Meets (Builtin.«dict.__eq__» ⟨[.ref l, .ref b], []⟩) (fun _ R s => s.heap.get? l = some { cls := .type "dict", dict := dd, data := .dict es n, slots := sl } ∧ s.heap.get? b = some { cls := .type "tuple", dict := dd2, data := .seq items2 n2, slots := sl2 } ∧ R (.ok (.ret .notImplemented)) s) :=
  .of_wp fun prog w A R s h => by obtain ⟨hp, g, d, tk, os⟩ := s; obtain ⟨hl, hb, h⟩ := h; have f1 := F.sub_tuple_dict; wp_walk using wpAny_loadPart' hl, wpAny_loadPart' hb; exact ⟨_, rfl, h⟩
end
section
open PySem.Spec PyProof.Rows
theorem tuple_eq_declines_dict (l b : Addr) (items : Array Value) (es : Array DictEntry) (n n2 : Nat) (dd dd2 : Option Addr) (sl sl2 : Array (Option Value)) :
    Meets (Builtin.«tuple.__eq__» ⟨[.ref l, .ref b], []⟩) (fun _ R s => s.heap.get? l = some { cls := .type "tuple", dict := dd, data := .seq items n, slots := sl } ∧ s.heap.get? b = some { cls := .type "dict", dict := dd2, data := .dict es n2, slots := sl2 } ∧ R (.ok (.ret .notImplemented)) s) :=
  .of_wp fun prog w A R s h => by obtain ⟨hp, g, d, tk, os⟩ := s; obtain ⟨hl, hb, h⟩ := h; have f1 := F.sub_dict_tuple; wp_walk using wpAny_loadPart' hl, wpAny_loadPart' hb; exact ⟨_, rfl, h⟩
theorem rc_dict_tuple {A : Around} {s : Shared} {l b : Addr} {o : Obj} {es : Array DictEntry} {n : Nat} {items : Array Value} (ho : s.heap.get? l = some o) (hx : o.ExactDict) (hd : o.data = .dict es n) (hb : s.heap.IsTuple b items) (hu : A.units < cLine) : SeqAt.RcAt A s (.ref l) (.ref b) false := fun prog w E Q h => by
  obtain ⟨⟨cls2, dd2, data2, sl2⟩, ho2, hc2, n2, hd2⟩ := id hb
  obtain ⟨cls, dd, data, sl⟩ := o
  obtain ⟨hc, _, _⟩ := hx
  simp only at hc hd hc2 hd2
  subst hc hd hc2 hd2
  have hne : l ≠ b := fun e => by
    subst e
    rw [ho] at ho2
    have z := congrArg Obj.cls (Option.some.inj ho2)
    exact absurd z (by simp)
  exact (SeqAt.rc_eq_decline_or (k := false) ⟨_, ho, rfl⟩ ⟨_, ho2, rfl⟩ (by decide) F.sub_tuple_dict PySem.F.slot_dict_eq F.slot_tuple_eq_refl
    (fun _ hq => call_meets PySem.F.slot_dict_eq ⟨_, ho, rfl⟩ PySem.F.entry_dict_eq (PySem.F.args_dict_eq_2 _ _) (dict_eq_declines_tuple l b es items n n2 dd dd2 sl sl2) ⟨ho, ho2, hq⟩)
    (fun _ hq => call_meets F.slot_tuple_eq_refl ⟨_, ho2, rfl⟩ F.entry_tuple_eq (F.args_tuple_eq_2 _ _) (tuple_eq_declines_dict b l items es n2 n dd2 dd sl2 sl) ⟨ho2, ho, hq⟩)
    (fun _ hq => wpAny_isSame_ref_other hne ho ho2 (by simp) hq) (.inr hu) h)
end
section
variable {X : Cx} {cl : Cl} {W : WX}
/-- x == () -/
def pEqU : PV → R Bool
  | .tup xs => .ok xs.isEmpty
  | .lst _ => .ok false
  | .dct _ _ => .ok false
  | .non => .ok false
  | .bl _ => .ok false
  | .int _ => .ok false
  | .str _ => .ok false
  | _ => .no
def rEqU (X : Cx) (cl : Cl) : R2 := fun x y H Q => ∃ F p b k, Same F H ∧ Rv ⟨X.K, cl⟩ F H p x ∧ y = .ref b ∧ SqT X.K H b [] ∧ pEqU p = .ok k ∧ Q (.bl k) H
theorem op_eqU (hu : X.A.units < cLine) : OpR X (compareOp .Eq) (rEqU X cl) := by
  rintro pins s σ H x y v u Q I rx ry ⟨F, p, b, k, e, rp, rfl, hb, hp, q⟩
  obtain rfl : u = Value.ref b := ry
  obtain ⟨its2, rv2, ht2, _⟩ := I.tuple hb
  cases rv2
  have fin : ∀ {c : Bool}, SeqAt.RcAt X.A s v (.ref b) c → c = k → wpAny (model X.prog X.w) X.A (compareOp .Eq v (.ref b)) (EP X pins σ Q) X.xe s := fun {c} r ec => r X.prog X.w X.xe _ ⟨.bl c, H, I, rfl, by rw [ec]; exact q⟩
  cases p with
  | non => rw [rp.non] at rx; cases rx; cases hp; exact fin (.none_tuple ht2 hu) rfl
  | bl c => rw [rp.bl] at rx; cases rx; cases hp; exact fin (.bool_tuple c ht2 hu) rfl
  | int i => rw [rp.int] at rx; obtain ⟨t, rfl⟩ := rx; cases hp; exact fin (.int_tuple i t ht2 hu) rfl
  | str i => rw [rp.str] at rx; obtain ⟨t, rfl⟩ := rx; cases hp; exact fin (.str_tuple i t ht2 hu) rfl
  | tup xs =>
    obtain ⟨a, vs, rfl, hq, rl⟩ := rp.tup e
    obtain rfl : v = Value.ref a := rx
    obtain ⟨its, rv, ht, _⟩ := I.tuple (SqT.of hq)
    simp only [pEqU, R.ok.injEq] at hp
    refine fin (.tuples (e := fun _ => true) ht ht2 hu fun j h1 h2 => by simp at h2) ?_
    rw [← hp, ← rl.isEmpty]
    have hl := rv.length
    cases vs with
    | nil =>
      have : its = [] := List.length_eq_zero_iff.mp hl.symm
      subst this
      simp
    | cons y ys =>
      cases its with
      | nil => simp at hl
      | cons z zs => simp
  | lst xs =>
    obtain ⟨a, vs, rfl, hq, rl⟩ := rp.lst e
    obtain rfl : v = Value.ref a := rx
    obtain ⟨its, rv, ht, _⟩ := I.list hq
    cases hp
    exact fin (.list_tuple ht.isList ht2 hu) rfl
  | dct t kvs =>
    obtain ⟨a, ks, rfl, hd, rl⟩ := rp.dct e
    obtain rfl : v = Value.ref a := rx
    cases hp
    cases t with
    | false =>
      obtain ⟨es, hd, _⟩ := hd
      obtain ⟨_, _, vs, kv, o, ea, ep, ho, hx, hdt, _⟩ := dk_rd I.hok hd
      exact fin (rc_dict_tuple ho hx hdt ht2 hu) rfl
    | true =>
      obtain ⟨es, hd, _⟩ := hd
      obtain ⟨_, _, xs, kt, o, ea, ep, ho, hx, hdt, _⟩ := (show ObjOk X.prog X.w H s.heap a (.dT es) from I.hok a _ hd)
      exact fin (rc_dict_tuple ho hx hdt ht2 hu) rfl
  | set _ => cases hp
  | obj _ _ => cases hp
  | exc _ _ => cases hp
def xEqU (f : Ex) : Ex := x1 (fun x => (pEqU x).map fun b => .z (.bl b)) f
theorem pEqU_ne (x : PV) (e : Xc) : pEqU x ≠ .er e := by cases x <;> simp [pEqU]
theorem q_eqU {a : Expr} {x1' : _} {p pos : Pos} {f : Ex} (hu : X.A.units < cLine) (ha : QE cl X W f a) : QE cl X W (xEqU f) (.Compare a [.Eq] [.Tuple [] x1' p] pos) := by
  refine ⟨(pe_cmpR (op_eqU (cl := cl) hu) ha.pe (pe_tup pa_nil) (nomark _)).imp fun σ H Q h => ?_⟩
  refine tq.bind (g := fun l γ => (pEqU l.x).map fun b => .z (.bl b)) h fun F A γ l F1 H1 v rel e e1 r1 h => ?_
  refine ⟨by show 0 ≤ sizeLine; omega, fun p np => ?_⟩
  have e2 := Ext.newO (F := F1) (o := .tup []) e1.sub np
  have rv := r1.rv.ext e2
  cases ep : pEqU l.x with
  | no => rw [ep] at h; exact h.elim
  | er x => exact (pEqU_ne _ _ ep).elim
  | ok k =>
    rw [ep] at h
    exact ⟨F1, l.x, p, k, e2.sub, rv, rfl, SqT.of upd_same, ep, h F1 _ _ e2 (VlR.zz (by simp [Rp]))⟩
end
/-! ### the end of a law -/
/-- what the law's def promises -/
def spLaw (K : PySem.W.Frag) (n : Nat) : Sp := fun vs H Q _ => ∃ (a : Addr) (ns : List Int), vs = [.ref a] ∧ ns.length ≤ n ∧ SqL K H a (ns.map V.int) ∧ ∀ H', Q (.bl true) H'
theorem spLaw_of {K : PySem.W.Frag} {cl : Cl} {f : List PV → R PV} {n : Nat} (h : LawOk f n) (nl : noLst K = true) {vs H Q E} (q : spLaw K n vs H Q E) : spQ K cl f vs H Q E := by
  obtain ⟨a, ns, rfl, hl, hS, q⟩ := q
  refine ⟨H, [.lst (ns.map .int)], Same.refl _, RpL.cons ?_ RpL.nil, ?_⟩
  · simp only [Rp]
    exact ⟨a, _, rfl, rd_of nl hS, RpL.ofInts _⟩
  · rw [h ns hl]
    intro F' H' v _ r
    simp only [Rp] at r
    subst r
    exact q H'
section
open PySem.Spec PyProof.Rows
theorem law_callG {P : Program} {w : World} {K : PySem.W.Frag} {mg mb : Str → Option Value} {k n : Nat} {fa a : Addr} {fd : FuncData} {x : Str} {s₁ : Shared} {vs : List Value} {ns : List Int}
    (KX : K.In s₁.heap) (hns : s₁.heap.Ns mainGlobals mg) (hb : s₁.heap.Ns builtinsNs mb) (hbb : ∀ x : Str, x ≠ "__name__" → mb x = bootBuiltins x) (hlim : s₁.heap.NoLimit) (hsys : ∃ mm, s₁.heap.Ns sysModules mm) (hg : s₁.gens = #[])
    (ha : s₁.heap.get? a = some { cls := .type "list", data := .seq vs.toArray }) (hi : IntsAre vs ns) (hl : ns.length ≤ sizeLine) (hln : ns.length ≤ n) (hr : Room k callerA)
    (F : ∀ base : Heap, K.In base → base.Ns mainGlobals mg → SysB base → FnG P w K mg base k fa fd [x] (spLaw K n)) (hbind : ∀ (s : Shared) (u : Value), BindsTo s fd ⟨[u], []⟩ [(x, u)]) :
    codeAny (model P w) callerA (.call (.ref fa) ⟨[.ref a], []⟩) (fun r s' => r = .ok (.ret (.bool true)) ∧ OldK s₁.heap s'.heap ∧ s'.os = s₁.os ∧ AllBare s'.gens) s₁ := by
  have rv := vals_ints hi
  have core : ∀ H : Hp, Only H → SqL K H a (ns.map V.int) → HOk P w H s₁.heap → (∀ b, H b ≠ none → b = a) → (H a ≠ none → K.lookup a = none) →
      codeAny (model P w) callerA (.call (.ref fa) ⟨[.ref a], []⟩) (fun r s' => r = .ok (.ret (.bool true)) ∧ OldK s₁.heap s'.heap ∧ s'.os = s₁.os ∧ AllBare s'.gens) s₁ := by
    intro H hO hS hok hA hK
    have only : ∀ {b : Addr}, b ≠ a → H b = none := fun {b} hb => Classical.byContradiction fun z => hb (hA b z)
    have into : ∀ {b : Addr} {o : Obj} {es : Array DictEntry} {ep : Nat}, s₁.heap.get? b = some o → o.data = .dict es ep → (hidT s₁.heap H).get? b = some o := fun {b o es ep} e d => hidT_get e (only fun z => by
      subst z
      rw [ha] at e
      cases e
      have z2 : Data.seq vs.toArray _ = Data.dict es ep := d
      cases z2)
    have nsK : ∀ {b : Addr} {m : Str → Option Value}, s₁.heap.Ns b m → (hidT s₁.heap H).Ns b m := fun {b m} ⟨o, es, ep, e, d, r⟩ => ⟨o, es, ep, into e d, d, r⟩
    have hKb : K.In (hidT s₁.heap H) := fun b o e => hidT_get (KX b o e) (Classical.byContradiction fun z => by
      have z2 := hA b z
      subst z2
      rw [hK z] at e
      cases e)
    have hM : Mod K mg (hidT s₁.heap H) := ⟨hKb, nsK hns, ⟨mb, nsK hb, hbb⟩, let ⟨mc, h1, h2⟩ := hlim; ⟨mc, nsK h1, h2⟩⟩
    have e0 : Env0 P w K mg (hidT s₁.heap H) callerA [] s₁ H := ⟨rfl, hM, fun b o e => of_hidT e, Nat.le_of_eq (hidT_size _ _), trivial, fun b hb => absurd (show b ∈ ([] : List Addr) from hb) (by simp), hok, .of_eq hg⟩
    refine codeAny_mono ((F _ hKb (nsK hns) (let ⟨mm, h⟩ := hsys; ⟨mm, nsK h⟩)).run callerA [] s₁ H ⟨[.ref a], []⟩ [.ref a] [.ref a] (fun v _ => v = .bl true) (fun _ _ _ => False) hr rfl e0 (hbind s₁ (.ref a)) (.cons rfl .nil) ⟨a, ns, rfl, hln, hS, fun _ => rfl⟩) fun r s' h => ?_
    cases r with
    | error e =>
      obtain ⟨_, _, _, _, _, _, _, _, _, _, _, _, z⟩ := h
      exact z.elim
    | ok fl =>
      cases fl with
      | next => exact h.elim
      | brk => exact h.elim
      | cont => exact h.elim
      | ret u =>
        obtain ⟨v, H', os, bare, un, hok', r', q⟩ := h
        have q' : v = .bl true := q
        subst q'
        obtain rfl : u = Value.bool true := r'
        refine ⟨rfl, OldK.of_keep fun b o e => ?_, os, bare⟩
        rcases hO b with z | ⟨ob, xs, z⟩
        · exact un.keep b o e z (by intro y; exact absurd (show b ∈ ([] : List Addr) from y) (by simp)) (by simp)
        · obtain ⟨e1, _⟩ := hok b _ z
          obtain ⟨e2, _⟩ := hok' b _ (un.frzs b ob _ z)
          rw [e] at e1
          cases e1
          exact e2
  have lenV := hi.length
  cases hk : K.lookup a with
  | some o =>
    have e := KX a o hk
    rw [ha] at e
    cases e
    exact core (fun _ => none) (fun _ => .inl rfl) (.inr ⟨_, vs.toArray, _, hk, rfl, rfl, rfl, by rw [List.size_toArray, lenV]; exact hl, by simpa using rv⟩) (fun b u z => by have z' : (none : Option HO) = some u := z; cases z') (fun b z => absurd rfl z) fun z => absurd rfl z
  | none =>
    have at_ : ∀ {b : Addr}, b ≠ a → (if b = a then some (HO.frz { cls := .type "list", data := .seq vs.toArray } (.lst (ns.map V.int))) else none) = none := fun {b} hb => if_neg hb
    refine core (fun b => if b = a then some (.frz { cls := .type "list", data := .seq vs.toArray } (.lst (ns.map V.int))) else none) (fun b => ?_) (.inl (.inr ⟨{ cls := .type "list", data := .seq vs.toArray }, if_pos rfl⟩)) (fun b u z => ?_) (fun b z => Classical.byContradiction fun hb => z (at_ hb)) fun _ => hk
    · by_cases hb : b = a
      · exact .inr ⟨_, _, if_pos hb⟩
      · exact .inl (at_ hb)
    · by_cases hb : b = a
      · have z' := (if_pos hb).symm.trans z
        cases z'
        subst hb
        exact ⟨ha, by rw [List.length_map]; exact hl, vs, _, rv, ha⟩
      · have z' := (at_ hb).symm.trans z
        cases z'
end
theorem walkG {l : PySem.W.OpenLaw} {n k : Nat} {q : Program} {loose : List Str} {XP : (Str → Option Value) → Heap → Prop} {YP : World → Heap → Prop} {d : PySem.DefRec} {K : Params → PySem.W.Frag} {x : Str}
    (hn : l.most = some n) (hn2 : n ≤ sizeLine) (hdf : d.params.defaults = []) (hr : Room k callerA) (hi : PyProof.Rows.importsNone q = true)
    (hY : ∀ (w : World) (h : Heap), YP w h → (K w.params).In h)
    (F : ∀ (w : World) (mg : Str → Option Value) (fa : Addr) (h : Heap), (K w.params).In h → h.Ns mainGlobals mg → mg d.name = some (.ref fa) →
      ∃ fd : FuncData, (∀ (s : Shared) (u : Value), BindsTo s fd ⟨[u], []⟩ [(x, u)]) ∧
        ∀ base : Heap, (K w.params).In base → base.Ns mainGlobals mg → SysB base → FnG l.prog w (K w.params) mg base k fa fd [x] (spLaw (K w.params) n)) :
    PySem.W.WalkO q loose XP YP l.row.toRowW d [] (fun f vs => PySem.call f vs) := by
  refine Att.attach_call hn hdf fun w s₀ s₁ mg mb fa o pm cd doc a vs ns G Y ho hd hcd hmg hobj hints hlen hg => ?_
  obtain ⟨fd, hb, hF⟩ := F w mg fa _ (hY w _ Y) G.T.g hmg
  exact law_callG (hY w _ Y) G.T.g G.T.b G.T.builtins G.T.nolimit (let ⟨mm, h, _⟩ := (G.T.seer hi).mods; ⟨mm, h⟩) hg hobj hints (Nat.le_trans hlen hn2) hlen hr hF hb
end Z
/-! the pure layer, second row, part A: dicts that are walked -/
namespace Z
open PySem L2
/-! ### one dict of the frozen heap stands otherwise (locked, unlocked) -/
structure Swap (F F' : Hp) (d : Addr) : Prop where
  at_ : ∃ es, Rd F d (.dK es) ∧ Rd F' d (.dK es)
  off : ∀ a o, a ≠ d → F a = some o → F' a = some o
theorem Swap.ne {F F' : Hp} {d a : Addr} {o : HO} (s : Swap F F' d) (h : F a = some o) (hk : ∀ es, o ≠ .dK es) (hf : ∀ od es, o ≠ .frz od (.dK es)) : F' a = some o := by
  refine s.off a o (fun e => ?_) h
  subst e
  obtain ⟨es, r, _⟩ := s.at_
  rcases r with r | ⟨od, r⟩
  · rw [h] at r; exact hk es (Option.some.inj r)
  · rw [h] at r; exact hf od es (Option.some.inj r)
mutual
theorem Rp.swap {T : Tb} {F F' : Hp} {d : Addr} (s : Swap F F' d) : (x : PV) → (v : V) → Rp T F x v → Rp T F' x v
  | .non, _, h => by simpa [Rp] using h
  | .bl b, _, h => by simpa [Rp] using h
  | .int i, _, h => by simpa [Rp] using h
  | .str x, _, h => by simpa [Rp] using h
  | .tup xs, _, h => by
    simp only [Rp] at h ⊢
    obtain ⟨a, vs, r, q, l⟩ := h
    exact ⟨a, vs, r, s.ne q (by simp) (by simp), RpL.swap s xs vs l⟩
  | .lst xs, _, h => by
    simp only [Rp] at h ⊢
    obtain ⟨a, vs, r, q, l⟩ := h
    refine ⟨a, vs, r, ?_, RpL.swap s xs vs l⟩
    rcases q with q | ⟨o, q⟩
    · exact .inl (s.ne q (by simp) (by simp))
    · exact .inr ⟨o, s.ne q (by simp) (by simp)⟩
  | .dct t kvs, _, h => by
    simp only [Rp] at h ⊢
    obtain ⟨a, ks, r, q, l⟩ := h
    refine ⟨a, ks, r, ?_, RpD.swap s kvs ks l⟩
    cases t with
    | false =>
      obtain ⟨es, q, e⟩ := q
      refine ⟨es, ?_, e⟩
      by_cases ha : a = d
      · subst ha
        obtain ⟨es', r1, r2⟩ := s.at_
        have : es' = es := by
          rcases q with q | ⟨o, q⟩ <;> rcases r1 with r1 | ⟨o', r1⟩ <;> rw [q] at r1 <;> cases r1 <;> rfl
        rw [← this]; exact r2
      · rcases q with q | ⟨o, q⟩
        · exact .inl (s.off a _ ha q)
        · exact .inr ⟨o, s.off a _ ha q⟩
    | true =>
      obtain ⟨es, q, e⟩ := q
      exact ⟨es, s.ne q (by simp) (by simp), e⟩
  | .set xs, _, h => by
    simp only [Rp] at h ⊢
    obtain ⟨a, r, ns, S, e, nd, q, m⟩ := h
    exact ⟨a, r, ns, S, e, nd, s.ne q (by simp) (by simp), m⟩
  | .obj c fs, _, h => by
    simp only [Rp] at h ⊢
    obtain ⟨a, C, dx, vs, r, hc, q, l⟩ := h
    exact ⟨a, C, dx, vs, r, hc, s.ne q (by simp) (by simp), RpF.swap s fs vs l⟩
  | .exc c fs, _, h => by
    simp only [Rp] at h ⊢
    obtain ⟨a, C, dd, vs, r, hc, q, x, l⟩ := h
    refine ⟨a, C, dd, vs, r, hc, s.ne q (by simp [ExV]) (by simp [ExV]), ?_, RpF.swap s fs vs l⟩
    rcases x with x | ⟨dx, e, x⟩
    · exact .inl x
    · exact .inr ⟨dx, e, s.ne x (by simp) (by simp)⟩
theorem RpL.swap {T : Tb} {F F' : Hp} {d : Addr} (s : Swap F F' d) : (xs : List PV) → (vs : List V) → RpL T F xs vs → RpL T F' xs vs
  | [], _, h => by simpa [RpL] using h
  | x :: xs, _, h => by
    simp only [RpL] at h ⊢
    obtain ⟨v, ws, r, p, q⟩ := h
    exact ⟨v, ws, r, Rp.swap s x v p, RpL.swap s xs ws q⟩
theorem RpD.swap {T : Tb} {F F' : Hp} {d : Addr} (s : Swap F F' d) : (xs : List (PV × PV)) → (vs : List (PV × V)) → RpD T F xs vs → RpD T F' xs vs
  | [], _, h => by simpa [RpD] using h
  | (k, x) :: xs, _, h => by
    simp only [RpD] at h ⊢
    obtain ⟨v, ws, r, p, q⟩ := h
    exact ⟨v, ws, r, Rp.swap s x v p, RpD.swap s xs ws q⟩
theorem RpF.swap {T : Tb} {F F' : Hp} {d : Addr} (s : Swap F F' d) : (xs : List (String × PV)) → (vs : List (Str × V)) → RpF T F xs vs → RpF T F' xs vs
  | [], _, h => by simpa [RpF] using h
  | (k, x) :: xs, _, h => by
    simp only [RpF] at h ⊢
    obtain ⟨v, ws, r, p, q⟩ := h
    exact ⟨v, ws, r, Rp.swap s x v p, RpF.swap s xs ws q⟩
end
/-- no slot, no field says that a dict is locked -/
def Md.noLk : Md → Bool
  | .lk => false
  | .ob ms => ms.attach.all fun ⟨m, _⟩ => m.noLk
  | _ => true
mutual
theorem OwM.swap {T : Tb} {F F' H H' : Hp} {d : Addr} (s : Swap F F' d) (off : ∀ a o, a ≠ d → H a = some o → H' a = some o) : (m : Md) → ∀ {x v A}, OwM T F H m x v A → (∀ a ∈ A, a ≠ d) → (∀ od es, F d = some (.frz od (.dK es)) → F' d = some (.frz od (.dK es)) ∨ m.noLk = true) → OwM T F' H' m x v A
  | .fz, x, v, A, h, k, nl => by simp only [OwM] at h ⊢; exact ⟨Rp.swap s _ _ h.1, h.2⟩
  | .ow, x, v, A, h, k, nl => by
    simp only [OwM] at h ⊢
    obtain ⟨b, rfl, rfl, h⟩ := h
    have kb := off b
    have nb := k b (by simp)
    refine ⟨b, rfl, rfl, ?_⟩
    cases x <;> first | exact h.elim | skip
    · obtain ⟨vs, h, r⟩ := h; exact ⟨vs, kb _ nb h, RpL.swap s _ _ r⟩
    · obtain ⟨ks, h, r⟩ := h; exact ⟨ks, h.mono fun o q => kb o nb q, RpD.swap s _ _ r⟩
    · exact SetAt.mono (fun o q => kb o nb q) h
  | .ob ms, x, v, A, h, k, nl => by
    simp only [OwM] at h ⊢
    obtain ⟨b, C, dx, vs, A', rfl, rfl, hb, h⟩ := h
    refine ⟨b, C, dx, vs, A', rfl, rfl, off b _ (k b (by simp)) hb, ?_⟩
    cases x <;> first | exact h.elim | skip
    exact ⟨h.1, OwF.swap s off ms h.2 (fun a ha => k a (List.mem_cons_of_mem _ ha)) fun od es q => (nl od es q).imp id fun z m hm => by
      simp only [Md.noLk, List.all_eq_true] at z
      exact z ⟨m, hm⟩ (List.mem_attach _ _)⟩
  | .lk, x, v, A, h, k, nl => by
    simp only [OwM] at h ⊢
    obtain ⟨b, od, es, kvs, r1, r2, r3, r4, r5⟩ := h
    refine ⟨b, od, es, kvs, r1, r2, r3, ?_, RpD.swap s _ _ r5⟩
    by_cases e : b = d
    · subst e
      rcases nl od es r4 with z | z
      · exact z
      · exact absurd z (by simp [Md.noLk])
    · exact s.off b _ e r4
theorem OwF.swap {T : Tb} {F F' H H' : Hp} {d : Addr} (s : Swap F F' d) (off : ∀ a o, a ≠ d → H a = some o → H' a = some o) : (ms : List Md) → ∀ {fs vs A}, OwF T F H ms fs vs A → (∀ a ∈ A, a ≠ d) → (∀ od es, F d = some (.frz od (.dK es)) → F' d = some (.frz od (.dK es)) ∨ ∀ m ∈ ms, m.noLk = true) → OwF T F' H' ms fs vs A
  | [], fs, vs, A, h, k, nl => by simp only [OwF] at h ⊢; exact h
  | m :: ms, fs, vs, A, h, k, nl => by
    simp only [OwF] at h ⊢
    obtain ⟨f, x, fs', v, vs', A1, A2, rfl, rfl, rfl, h1, h2⟩ := h
    exact ⟨f, x, fs', v, vs', A1, A2, rfl, rfl, rfl, OwM.swap s off m h1 (fun a ha => k a (List.mem_append_left _ ha)) fun od es q => (nl od es q).imp id fun z => z m List.mem_cons_self,
      OwF.swap s off ms h2 (fun a ha => k a (List.mem_append_right _ ha)) fun od es q => (nl od es q).imp id fun z m' hm => z m' (List.mem_cons_of_mem _ hm)⟩
end
/-- locking: F d is the unlocked dict, so no slot speaks of it as locked -/
theorem OwE.lock {T : Tb} {F F' H H' : Hp} {d : Addr} {es : List (Key × V)} (s : Swap F F' d) (hF : F d = some (.dK es)) (off : ∀ a o, a ≠ d → H a = some o → H' a = some o) : (γ : Env) → ∀ {σ A}, OwE T F H γ σ A → (∀ a ∈ A, a ≠ d) → OwE T F' H' γ σ A
  | [], σ, A, h, k => by simpa only [OwE] using h
  | .un :: γ, σ, A, h, k => by
    simp only [OwE] at h ⊢
    obtain ⟨w, σ', rfl, h⟩ := h
    exact ⟨w, σ', rfl, OwE.lock s hF off γ h k⟩
  | .sl m x :: γ, σ, A, h, k => by
    simp only [OwE] at h ⊢
    obtain ⟨v, σ', A1, A2, rfl, rfl, h1, h2⟩ := h
    exact ⟨v, σ', A1, A2, rfl, rfl, OwM.swap s off m h1 (fun a ha => k a (List.mem_append_left _ ha)) (fun od es q => by rw [hF] at q; cases q), OwE.lock s hF off γ h2 fun a ha => k a (List.mem_append_right _ ha)⟩
  | .me m x :: γ, σ, A, h, k => by
    simp only [OwE] at h ⊢
    obtain ⟨v, σ', A1, A2, rfl, rfl, ⟨h1, h0⟩, h2⟩ := h
    exact ⟨v, σ', A1, A2, rfl, rfl, ⟨OwM.swap s off m h1 (fun a ha => k a (List.mem_append_left _ ha)) (fun od es q => by rw [hF] at q; cases q), h0⟩, OwE.lock s hF off γ h2 fun a ha => k a (List.mem_append_right _ ha)⟩
theorem swap_upd {F : Hp} {d : Addr} {es : List (Key × V)} {u : HO} (h : Rd F d (.dK es)) (hu : u = .dK es ∨ ∃ od, u = .frz od (.dK es)) : Swap F (upd F d u) d :=
  ⟨⟨es, h, by
    rcases hu with rfl | ⟨od, rfl⟩
    · exact .inl upd_same
    · exact .inr ⟨od, upd_same⟩⟩, fun a o ha q => by rw [upd_ne ha]; exact q⟩
/-- while the frozen dict in slot i is locked: the slot says so -/
def lkE (i : Nat) (γ : Env) : Env := match γ[i]? with
  | some (.sl .fz (.dct false kvs)) => γ.set i (.sl .lk (.dct false kvs))
  | _ => γ
theorem OwE.setLk {T : Tb} {F H : Hp} : (γ : Env) → ∀ {σ A} {i : Nat} {kvs v d od es}, OwE T F H γ σ A → γ[i]? = some (.sl .fz (.dct false kvs)) → σ[i]? = some (some v) → v = .ref d → F d = some (.frz od (.dK es)) → RpD T F kvs (es.map fun p => (kP p.1, p.2)) → OwE T F H (γ.set i (.sl .lk (.dct false kvs))) σ A
  | [], σ, A, i, kvs, v, d, od, es, h, e, hv, ev, hF, r => by simp at e
  | .un :: γ, σ, A, 0, kvs, v, d, od, es, h, e, hv, ev, hF, r => by simp at e
  | .me _ _ :: γ, σ, A, 0, kvs, v, d, od, es, h, e, hv, ev, hF, r => by simp at e
  | .sl m x :: γ, σ, A, 0, kvs, v, d, od, es, h, e, hv, ev, hF, r => by
    simp only [OwE] at h
    obtain ⟨w, σ', A1, A2, rfl, rfl, h1, h2⟩ := h
    simp at e hv
    obtain ⟨rfl, rfl⟩ := e
    subst hv ev
    simp only [OwM] at h1
    obtain ⟨_, rfl⟩ := h1
    simp only [List.set_cons_zero, OwE]
    refine ⟨_, σ', [], A2, rfl, by simp, ?_, h2⟩
    simp only [OwM]
    exact ⟨d, od, es, kvs, rfl, rfl, by first | trivial | rfl, hF, r⟩
  | .un :: γ, σ, A, i + 1, kvs, v, d, od, es, h, e, hv, ev, hF, r => by
    simp only [OwE] at h
    obtain ⟨w, σ', rfl, h⟩ := h
    simp only [List.set_cons_succ, OwE]
    exact ⟨w, σ', rfl, OwE.setLk γ h (by simpa using e) (by simpa using hv) ev hF r⟩
  | .sl _ _ :: γ, σ, A, i + 1, kvs, v, d, od, es, h, e, hv, ev, hF, r => by
    simp only [OwE] at h
    obtain ⟨w, σ', A1, A2, rfl, rfl, h1, h2⟩ := h
    simp only [List.set_cons_succ, OwE]
    exact ⟨w, σ', A1, A2, rfl, rfl, h1, OwE.setLk γ h2 (by simpa using e) (by simpa using hv) ev hF r⟩
  | .me _ _ :: γ, σ, A, i + 1, kvs, v, d, od, es, h, e, hv, ev, hF, r => by
    simp only [OwE] at h
    obtain ⟨w, σ', A1, A2, rfl, rfl, h1, h2⟩ := h
    simp only [List.set_cons_succ, OwE]
    exact ⟨w, σ', A1, A2, rfl, rfl, h1, OwE.setLk γ h2 (by simpa using e) (by simpa using hv) ev hF r⟩
section
variable {X : Cx} {cl : Cl} {W : WX}
/-- an expression that walks the frozen dict in slot i; its value a new list -/
def xLock (i : Nat) (f : Ex) : Ex := fun γ => match γ[i]? with
  | some (.sl .fz (.dct false _)) => match f (lkE i γ) with
    | .ok (.fr .ow (.lst xs)) => .ok (.fr .ow (.lst xs))
    | _ => .no
  | _ => .no
theorem tq_lock {i : Nat} {f : Ex} {σ : L2.St} {H : Hp} {Q : VK} (h : tq X.K cl W (xLock i f) σ H Q) : tLockE (tq X.K cl W f) σ H Q ∨ tq X.K cl W f σ H Q := by
  obtain ⟨F, A, γ, rel, h⟩ := h
  unfold xLock at h
  cases hg : γ[i]? with
  | none => rw [hg] at h; exact h.elim
  | some sl =>
    rw [hg] at h
    cases sl <;> try exact h.elim
    rename_i m x
    cases m <;> try exact h.elim
    cases x <;> try exact h.elim
    rename_i t kvs
    cases t <;> try exact h.elim
    simp only at h
    have elk : lkE i γ = γ.set i (.sl .lk (.dct false kvs)) := by unfold lkE; rw [hg]
    rw [elk] at h
    cases ef : f (γ.set i (.sl .lk (.dct false kvs))) with
    | no => rw [ef] at h; exact h.elim
    | er x => rw [ef] at h; exact h.elim
    | ok l =>
      rw [ef] at h
      cases l <;> try exact h.elim
      rename_i m x
      cases m <;> try exact h.elim
      cases x <;> try exact h.elim
      rename_i xs
      simp only at h
      obtain ⟨v, Ai, hv, ho, _⟩ := OwE.get γ rel.env hg
      simp only [OwM, Rp] at ho
      obtain ⟨⟨d, ks, rfl, ⟨es, hd, rfl⟩, rd⟩, _⟩ := ho
      rcases hd with hd | ⟨od, hd⟩
      · -- to be locked
        refine .inl ⟨d, .dK es, rel.sub _ _ hd, trivial, fun od => ?_⟩
        have hA : ∀ a ∈ A, a ≠ d := fun a ha e => by subst e; rw [rel.dis a ha] at hd; cases hd
        have s1 := swap_upd (u := .frz od (.dK es)) (.inl hd) (.inr ⟨od, rfl⟩)
        have off : ∀ a o, a ≠ d → H a = some o → upd H d (.frz od (.dK es)) a = some o := fun a o ha q => by rw [upd_ne ha]; exact q
        have sub1 : Same (upd F d (.frz od (.dK es))) (upd H d (.frz od (.dK es))) := fun a o q => by
          by_cases ha : a = d
          · subst ha; rw [upd_same] at q ⊢; exact q
          · rw [upd_ne ha] at q ⊢; exact rel.sub a o q
        have env1 := OwE.lock s1 hd off γ rel.env hA
        have env2 := OwE.setLk (d := d) (od := od) (es := es) γ env1 hg hv rfl upd_same (RpD.swap s1 _ _ rd)
        refine ⟨_, A, _, ⟨sub1, env2, rel.nd, fun a ha => by rw [upd_ne (hA a ha)]; exact rel.dis a ha⟩, ?_⟩
        rw [ef]
        intro F' H' w ex rw'
        have hd' : F' d = some (.frz od (.dK es)) := ex.fle _ _ upd_same
        refine ⟨ex.hle _ _ upd_same, ?_⟩
        obtain ⟨Ar, o1, o2, o3⟩ := rw'
        have nAr : ∀ a ∈ Ar, a ≠ d := fun a ha e => by subst e; rw [(o3 a ha).2] at hd'; cases hd'
        have s2 := swap_upd (F := F') (u := .dK es) (.inr ⟨od, hd'⟩) (.inl rfl)
        refine h (upd F' d (.dK es)) (upd H' d (.dK es)) w ⟨fun a o q => ?_, fun a o q => ?_, fun a o q => ?_, fun a o q => ?_⟩ ⟨Ar, ?_, o2, fun a ha => ?_⟩
        · by_cases ha : a = d
          · subst ha; rw [upd_same] at q ⊢; exact q
          · rw [upd_ne ha] at q ⊢; exact ex.sub a o q
        · by_cases ha : a = d
          · subst ha; rw [hd] at q; cases q; exact upd_same
          · rw [upd_ne ha]; exact ex.fle a o (by rw [upd_ne ha]; exact q)
        · by_cases ha : a = d
          · subst ha; rw [rel.sub _ _ hd] at q; cases q; exact upd_same
          · rw [upd_ne ha]; exact ex.hle a o (by rw [upd_ne ha]; exact q)
        · by_cases ha : a = d
          · subst ha; rw [upd_same] at q; cases q; exact .inl hd
          · rw [upd_ne ha] at q
            rcases ex.new a o q with z | z
            · rw [upd_ne ha] at z; exact .inl z
            · rw [upd_ne ha] at z; exact .inr z
        · simp only [OwM] at o1 ⊢
          obtain ⟨b, rfl, rfl, vs, hb, rl⟩ := o1
          exact ⟨b, rfl, rfl, vs, by rw [upd_ne (nAr b (by simp))]; exact hb, RpL.swap s2 _ _ rl⟩
        · have := o3 a ha
          rw [upd_ne (nAr a ha)] at this
          exact ⟨this.1, by rw [upd_ne (nAr a ha)]; exact this.2⟩
      · -- locked already
        refine .inr ⟨F, A, _, ⟨rel.sub, OwE.setLk (d := d) (od := od) (es := es) γ rel.env hg hv rfl hd rd, rel.nd, rel.dis⟩, ?_⟩
        rw [ef]
        exact h
theorem q_lock {i : Nat} {f : Ex} {e : Expr} (h : QE cl X W f e) : QE cl X W (xLock i f) e := ⟨((pe_lock h.pe).or h.pe).imp fun σ H Q q => tq_lock q⟩
/-! ### what of a locked dict is walked -/
def iDct (i : Nat) (g : PV × PV → PV) : Env → R (List PV) := fun γ => match γ[i]? with
  | some (.sl .lk (.dct false kvs)) => .ok (kvs.map g)
  | _ => .no
theorem iDct_ok {i : Nat} {g : PV × PV → PV} {γ : Env} {items : List PV} (h : iDct i g γ = .ok items) : ∃ kvs, γ[i]? = some (.sl .lk (.dct false kvs)) ∧ items = kvs.map g := by
  unfold iDct at h
  split at h
  · cases h; exact ⟨_, by assumption, rfl⟩
  · cases h
theorem iDct_ne {i : Nat} {g : PV × PV → PV} {γ : Env} {e : Xc} (h : iDct i g γ = .er e) : False := by
  unfold iDct at h
  split at h <;> cases h
theorem RpD.get {T : Tb} {F : Hp} : ∀ {kvs : List (PV × PV)} {es : List (PV × V)} {i : Nat} {p : PV × PV}, RpD T F kvs es → kvs[i]? = some p → ∃ v, es[i]? = some (p.1, v) ∧ Rp T F p.2 v
  | [], _, _, _, _, e => by simp at e
  | (k, x) :: r, _, 0, _, h, e => by
    simp only [RpD] at h
    obtain ⟨v, ws, rfl, p, q⟩ := h
    simp at e; subst e
    exact ⟨v, by simp, p⟩
  | (k, x) :: r, _, i + 1, _, h, e => by
    simp only [RpD] at h
    obtain ⟨v, ws, rfl, p, q⟩ := h
    obtain ⟨u, h1, h2⟩ := RpD.get (i := i) q (by simpa using e)
    exact ⟨u, by simpa using h1, h2⟩
theorem rp_kV {T : Tb} {F : Hp} (k : Key) : Rp T F (kP k) (kV k) := by cases k <;> simp [kP, kV, Rp]
theorem lk_at {F A σ H γ} {i : Nat} {kvs} (rel : Rel ⟨X.K, cl⟩ F A σ H γ) (hg : γ[i]? = some (.sl .lk (.dct false kvs))) : ∃ d od es, σ[i]? = some (some (.ref d)) ∧ F d = some (.frz od (.dK es)) ∧ RpD ⟨X.K, cl⟩ F kvs (es.map fun p => (kP p.1, p.2)) := by
  obtain ⟨v, Ai, hv, ho, _⟩ := OwE.get γ rel.env hg
  simp only [OwM] at ho
  obtain ⟨d, od, es, kvs', e, rfl, _, hd, r⟩ := ho
  cases e
  exact ⟨d, od, es, hv, hd, r⟩
theorem dct_len {T : Tb} {F : Hp} {kvs : List (PV × PV)} {es : List (Key × V)} (r : RpD T F kvs (es.map fun p => (kP p.1, p.2))) : es.length = kvs.length := by
  have := r.length; simpa using this
theorem dct_get {T : Tb} {F : Hp} {kvs : List (PV × PV)} {es : List (Key × V)} {n : Nat} {p : PV × PV} (r : RpD T F kvs (es.map fun p => (kP p.1, p.2))) (e : kvs[n]? = some p) : ∃ k v, es[n]? = some (k, v) ∧ p.1 = kP k ∧ Rp T F p.2 v := by
  obtain ⟨v, h1, h2⟩ := r.get e
  rw [List.getElem?_map] at h1
  cases q : es[n]? with
  | none => rw [q] at h1; cases h1
  | some kv =>
    rw [q] at h1
    simp only [Option.map_some, Option.some.injEq, Prod.mk.injEq] at h1
    exact ⟨kv.1, kv.2, rfl, h1.1.symm, by rw [h1.2]; exact h2⟩
variable {i : Nat} {x : Str} {tg : Expr} {p apos cpos : Pos}
theorem qi_values (hN : X.N[i]? = some x := by rfl) (hv : Vis X.env.scope x := by first | exact Or.inl rfl | exact Or.inr (Or.inl rfl) | exact Or.inr (Or.inr rfl)) (hd : (x == ("__debug__" : Str)) = false := by decide) (hcd : (x == ("__classdict__" : Str)) = false := by decide)
    (hbase : attributeBase (.Name x p) "values" X.env (eval (.Name x p) X.env) = eval (.Name x p) X.env := by rfl) (hline : (apos.endLine == cpos.line) = true := by rfl) : QI cl X W (iDct i (·.2)) tg (.Call (.Attribute (.Name x p) "values" apos) [] [] cpos) := ⟨(pi_values (pe_var (i := i) hN hv hd hcd) hbase hline).imp fun σ H Rr h => by
  obtain ⟨F, A, γ, rel, h⟩ := h
  refine (?_ : (fun σ H Rr => ∃ F A γ, Rel ⟨X.K, cl⟩ F A σ H γ ∧ ∃ kvs, γ[i]? = some (.sl .lk (.dct false kvs)) ∧ ∀ F' H' J, Ext F H F' H' → ItOk ⟨X.K, cl⟩ J F' (kvs.map (fun p : PV × PV => p.2)) → Rr J H') σ H Rr → _) (by
    cases e : iDct i (fun p : PV × PV => p.2) γ with
    | no => rw [e] at h; exact h.elim
    | er x => exact (iDct_ne e).elim
    | ok items =>
      rw [e] at h
      obtain ⟨kvs, hg, rfl⟩ := iDct_ok e
      exact ⟨F, A, γ, rel, kvs, hg, h⟩)
  · rintro ⟨F, A, γ, rel, kvs, hg, h⟩
    obtain ⟨d, od, es, hs, hF, r⟩ := lk_at rel hg
    refine ⟨.ref d, hs, d, od, es, rfl, rel.sub _ _ hF, h F H _ (Ext.refl rel.sub) ⟨fun F' H' n y s0 s e => ?_, fun F' H' s0 s => ⟨s _ _ (s0 _ _ hF), by rw [dct_len r, List.length_map]; exact Nat.le_refl _⟩⟩⟩
    rw [List.getElem?_map] at e
    cases q : kvs[n]? with
    | none => rw [q] at e; cases e
    | some kv =>
      rw [q] at e
      simp only [Option.map_some, Option.some.injEq] at e
      obtain ⟨k, v, h1, _, h3⟩ := dct_get r q
      refine ⟨⟨s _ _ (s0 _ _ hF), (List.getElem?_eq_some_iff.mp h1).1⟩, fun u H'' yl => ?_⟩
      obtain ⟨rfl, k', h4⟩ := yl
      rw [h1] at h4
      cases h4
      exact ⟨F', Ext.refl s, by rw [← e]; exact h3.mono s0⟩⟩
theorem qi_keys (hN : X.N[i]? = some x := by rfl) (hv : Vis X.env.scope x := by first | exact Or.inl rfl | exact Or.inr (Or.inl rfl) | exact Or.inr (Or.inr rfl)) (hd : (x == ("__debug__" : Str)) = false := by decide) (hcd : (x == ("__classdict__" : Str)) = false := by decide) : QI cl X W (iDct i (·.1)) tg (.Name x p) := ⟨(pi_keys (pe_var (i := i) hN hv hd hcd)).imp fun σ H Rr h => by
  obtain ⟨F, A, γ, rel, h⟩ := h
  refine (?_ : (fun σ H Rr => ∃ F A γ, Rel ⟨X.K, cl⟩ F A σ H γ ∧ ∃ kvs, γ[i]? = some (.sl .lk (.dct false kvs)) ∧ ∀ F' H' J, Ext F H F' H' → ItOk ⟨X.K, cl⟩ J F' (kvs.map (fun p : PV × PV => p.1)) → Rr J H') σ H Rr → _) (by
    cases e : iDct i (fun p : PV × PV => p.1) γ with
    | no => rw [e] at h; exact h.elim
    | er x => exact (iDct_ne e).elim
    | ok items =>
      rw [e] at h
      obtain ⟨kvs, hg, rfl⟩ := iDct_ok e
      exact ⟨F, A, γ, rel, kvs, hg, h⟩)
  · rintro ⟨F, A, γ, rel, kvs, hg, h⟩
    obtain ⟨d, od, es, hs, hF, r⟩ := lk_at rel hg
    refine ⟨.ref d, hs, d, od, rfl, .inl ⟨es, rel.sub _ _ hF, h F H _ (Ext.refl rel.sub) ⟨fun F' H' n y s0 s e => ?_, fun F' H' s0 s => ⟨s _ _ (s0 _ _ hF), by rw [dct_len r, List.length_map]; exact Nat.le_refl _⟩⟩⟩⟩
    rw [List.getElem?_map] at e
    cases q : kvs[n]? with
    | none => rw [q] at e; cases e
    | some kv =>
      rw [q] at e
      simp only [Option.map_some, Option.some.injEq] at e
      obtain ⟨k, v, h1, h2, h3⟩ := dct_get r q
      refine ⟨⟨s _ _ (s0 _ _ hF), (List.getElem?_eq_some_iff.mp h1).1⟩, fun u H'' yl => ?_⟩
      obtain ⟨rfl, k', v', h4, rfl⟩ := yl
      rw [h1] at h4
      cases h4
      exact ⟨F', Ext.refl s, by rw [← e, h2]; exact rp_kV k⟩
⟩
theorem qi_items {elts : List Expr} {kk : Nat} {tpos : Pos} (hN : X.N[i]? = some x := by rfl) (hv : Vis X.env.scope x := by first | exact Or.inl rfl | exact Or.inr (Or.inl rfl) | exact Or.inr (Or.inr rfl)) (hd : (x == ("__debug__" : Str)) = false := by decide) (hcd : (x == ("__classdict__" : Str)) = false := by decide)
    (hbase : attributeBase (.Name x p) "items" X.env (eval (.Name x p) X.env) = eval (.Name x p) X.env := by rfl) (hline : (apos.endLine == cpos.line) = true := by rfl) : QI cl X W (iDct i fun p => .tup [p.1, p.2]) (.Tuple elts kk tpos) (.Call (.Attribute (.Name x p) "items" apos) [] [] cpos) := ⟨(pi_items (pe_var (i := i) hN hv hd hcd) hbase hline).imp fun σ H Rr h => by
  obtain ⟨F, A, γ, rel, h⟩ := h
  refine (?_ : (fun σ H Rr => ∃ F A γ, Rel ⟨X.K, cl⟩ F A σ H γ ∧ ∃ kvs, γ[i]? = some (.sl .lk (.dct false kvs)) ∧ ∀ F' H' J, Ext F H F' H' → ItOk ⟨X.K, cl⟩ J F' (kvs.map (fun p : PV × PV => PV.tup [p.1, p.2])) → Rr J H') σ H Rr → _) (by
    cases e : iDct i (fun p : PV × PV => PV.tup [p.1, p.2]) γ with
    | no => rw [e] at h; exact h.elim
    | er x => exact (iDct_ne e).elim
    | ok items =>
      rw [e] at h
      obtain ⟨kvs, hg, rfl⟩ := iDct_ok e
      exact ⟨F, A, γ, rel, kvs, hg, h⟩)
  · rintro ⟨F, A, γ, rel, kvs, hg, h⟩
    obtain ⟨d, od, es, hs, hF, r⟩ := lk_at rel hg
    refine ⟨.ref d, hs, d, od, es, rfl, rel.sub _ _ hF, h F H _ (Ext.refl rel.sub) ⟨fun F' H' n y s0 s e => ?_, fun F' H' s0 s => ⟨s _ _ (s0 _ _ hF), by rw [dct_len r, List.length_map]; exact Nat.le_refl _⟩⟩⟩
    rw [List.getElem?_map] at e
    cases q : kvs[n]? with
    | none => rw [q] at e; cases e
    | some kv =>
      rw [q] at e
      simp only [Option.map_some, Option.some.injEq] at e
      obtain ⟨k, v, h1, h2, h3⟩ := dct_get r q
      refine ⟨⟨s _ _ (s0 _ _ hF), (List.getElem?_eq_some_iff.mp h1).1⟩, fun u H'' yl => ?_⟩
      obtain ⟨Ta, k', v', h4, rfl, nT, rfl⟩ := yl
      rw [h1] at h4
      cases h4
      exact ⟨_, Ext.newF s nT, by rw [← e]; exact new_tup s nT (RpL.cons (by rw [h2]; exact rp_kV k) (RpL.cons (h3.mono s0) RpL.nil))⟩
⟩
end
/-! ### what the printed texts use -/
def sFrz (i : Nat) (g : Env → Os) : Env → Os := fun γ => g (frzE i γ)
theorem qs_frzS {X : Cx} {cl : Cl} {W : WX} {i : Nat} {g : Env → Os} {st : Stmt} (h : QS cl X W g st) : QS cl X W (sFrz i g) st := qs_frz h
theorem FnAt.ofFun {K : PySem.W.Frag} {x qual : Str} {st : Stmt} {f : Addr} {fd : FuncData} (F : Fun K x qual st f fd) : FnAt K x qual st f fd := by
  obtain ⟨oc, od, kV, doc, pm, an, cdv, ct, osl, e, l, c⟩ := F.ex
  exact ⟨⟨oc, od, .none, kV, doc, pm, an, cdv, ct, osl, e, l, c⟩, F.kp⟩
structure DfG (K : PySem.W.Frag) (mg : Str → Option Value) (x : Str) (st : Stmt) (ps : List Str) (a : Addr) (fd : FuncData) : Prop where
  fn : FnAt K x x st a fd
  mgx : mg x = some (.ref a)
  bd : L2.Binds K fd ps []
theorem lookup_all {α β : Type} [BEq α] [LawfulBEq α] {P : α → β → Prop} : ∀ {l : List (α × β)}, (∀ p ∈ l, P p.1 p.2) → ∀ a b, l.lookup a = some b → P a b
  | [], _, a, b, h => by cases h
  | (k, v) :: r, hp, a, b, h => by
    rw [List.lookup_cons] at h
    split at h
    · rename_i e
      cases h
      rw [eq_of_beq e]
      exact hp (k, v) List.mem_cons_self
    · exact lookup_all (fun p hm => hp p (List.mem_cons_of_mem _ hm)) a b h
theorem q_conI {X : Cx} {cl : Cl} {W : WX} {x : Str} {i : Int} {t : Tok} {pos : Pos} (hm : X.mg x = some (.int i t)) (hg : Gl X x := by rfl) (hd : (x == ("__debug__" : Str)) = false := by decide) : QE cl X W (xC (.int i)) (.Name x pos) :=
  q_con (v := .int i) hg hm ⟨t, rfl⟩ (fun _ => by simp [Rp]) hd
end Z
/-! the pure layer: a block in a block -/
namespace Z
open PySem L2 PySem.Spec PyProof.Rows
theorem relabel_names {names : List (Str × NameKind)} {env : PySem.Env} {x : Str} (h : names.lookup x = some .cell ∨ names.lookup x = some .free) :
    (names.map fun (n, k) => if (k == NameKind.free && env.scope.kind == .function && env.kindOf n == some .cell) then (n, NameKind.cell) else (n, k)).lookup x = some .cell ∨
    (names.map fun (n, k) => if (k == NameKind.free && env.scope.kind == .function && env.kindOf n == some .cell) then (n, NameKind.cell) else (n, k)).lookup x = some .free := by
  induction names with
  | nil => simp at h
  | cons p r ih =>
    obtain ⟨n, k⟩ := p
    by_cases e : x = n
    · subst e
      simp only [List.lookup_cons, beq_self_eq_true, Option.some.injEq] at h
      simp only [List.map_cons]
      rcases h with h | h
      · subst h
        left
        simp [List.lookup_cons]
      · subst h
        split
        · left; simp [List.lookup_cons]
        · right; simp [List.lookup_cons]
    · have b : (x == n) = false := by simpa using e
      simp only [List.lookup_cons, b] at h
      have := ih h
      simp only [List.map_cons]
      split <;> simpa only [List.lookup_cons, b] using this
theorem BlkOk.rel {N : List Str} {sc scope : Scope} {own : List (Str × Nat)} {env : PySem.Env} (h : L2.BlkOk N sc scope own) : L2.BlkOk N (relabel sc env) scope own :=
  ⟨h.kind, h.uniq, h.ix, fun y hy e => relabel_names (h.free y hy e), h.own⟩
end Z
/-! the pure layer: more reckoning: while loops, texts, digits, ints in rows -/
namespace Z
open PySem L2
theorem whileF_inv {c : Z.Env → R Bool} {body : Z.Env → Os} (Inv : Nat → Z.Env → Prop) (Done : Z.Env → Prop) (B : Nat)
    (hb : ∀ k γ, Inv k γ → k ≤ B) (h : ∀ k γ, Inv k γ → (c γ = .ok false ∧ Done γ) ∨ (c γ = .ok true ∧ ∃ γ', (body γ = .nx γ' ∨ body γ = .ct γ') ∧ Inv (k + 1) γ')) :
    ∀ (n k : Nat) (γ : Z.Env), Inv k γ → B < n + k → ∃ γ', whileF c body n γ = .nx γ' ∧ Done γ'
  | 0, k, γ, i, l => by have := hb k γ i; omega
  | n + 1, k, γ, i, l => by
    unfold whileF
    rcases h k γ i with ⟨e, d⟩ | ⟨e, γ', e2, i2⟩
    · rw [e]; exact ⟨γ, rfl, d⟩
    · rw [e]
      obtain ⟨γ2, e3, d⟩ := whileF_inv Inv Done B hb h n (k + 1) γ' i2 (by omega)
      refine ⟨γ2, ?_, d⟩
      rcases e2 with e2 | e2 <;> simp only [e2] <;> exact e3
theorem repr_ok {x : PV} (h1 : rD 50 x = true) (h2 : shW x ≤ 16000000) : pReprL [x] = .ok (.z (.str (toR x).shown)) := by
  show pRepr x = _
  unfold pRepr
  rw [h1, decide_eq_true h2]; rfl
@[simp] theorem repr_bl {b : Bool} : pReprL [.bl b] = .ok (.z (.str (toR (.bl b)).shown)) := repr_ok (by simp [rD]) (by simp [shW])
@[simp] theorem isD_str {n : Nat} {x : Str} : isD n (.str x) = PyData.strOk x := by cases n <;> rfl
@[simp] theorem isD_int {n : Nat} {x : Int} : isD n (.int x) = true := by cases n <;> rfl
@[simp] theorem isD_bl {n : Nat} {x : Bool} : isD n (.bl x) = true := by cases n <;> rfl
@[simp] theorem isD_non {n : Nat} : isD n .non = true := by cases n <;> rfl
@[simp] theorem isD_tup {n : Nat} {xs : List PV} : isD n (.tup xs) = isDL n xs := by cases n <;> rfl
@[simp] theorem isD_lst {n : Nat} {xs : List PV} : isD n (.lst xs) = isDL n xs := by cases n <;> rfl
theorem isDL_all {n : Nat} {xs : List PV} : isDL (n + 1) xs = xs.all (isD n) := by
  induction xs with
  | nil => rfl
  | cons x xs ih => simp only [isDL, ih, List.all_cons]
@[simp] theorem isDL_ints {n : Nat} {ns : List Int} : isDL (n + 1) (ns.map .int) = true := by rw [isDL_all]; simp
@[simp] theorem peqL_ints : ∀ {xs ys : List Int}, peqL (xs.map .int) (ys.map .int) = decide (xs = ys)
  | [], [] => by simp [peqL]
  | [], _ :: _ => by simp [peqL]
  | _ :: _, [] => by simp [peqL]
  | x :: xs, y :: ys => by
    simp only [List.map_cons, peqL, peq, peqL_ints (xs := xs) (ys := ys), List.cons.injEq]
    by_cases h : x = y <;> by_cases h2 : xs = ys <;> simp [h, h2]
theorem any_peq_int {ns : List Int} {k : Int} : ((ns.map PV.int).any fun z => peq z (.int k)) = decide (k ∈ ns) := by
  induction ns with
  | nil => rfl
  | cons x xs ih =>
    simp only [List.map_cons, List.any_cons, ih, peq, List.mem_cons]
    by_cases h : x = k
    · simp [h]
    · have h2 : ¬ k = x := fun e => h e.symm
      have h3 : (x == k) = false := by simpa using h
      simp [h2, h3]
@[simp] theorem pIn_ints_tup {ns : List Int} {k : Int} : pIn (.int k) (.tup (ns.map .int)) = .ok (decide (k ∈ ns)) := by
  unfold pIn
  have : (ns.map PV.int).all isFl = true := by simp [isFl]
  simp only [isFl, this, Bool.and_true, if_true, any_peq_int]
@[simp] theorem pIn_ints_lst {ns : List Int} {k : Int} : pIn (.int k) (.lst (ns.map .int)) = .ok (decide (k ∈ ns)) := by
  unfold pIn
  have : (ns.map PV.int).all isFl = true := by simp [isFl]
  simp only [isFl, this, Bool.and_true, if_true, any_peq_int]
@[simp] theorem a_pNotIn {x y : PV} : pNotIn x y = (pIn x y).map (!·) := (rfl)
/-- a row that rises -/
theorem inc_len : ∀ {xs : List Int} {lo hi : Int}, xs.Pairwise (· < ·) → (∀ x ∈ xs, lo ≤ x ∧ x < hi) → lo ≤ hi → (xs.length : Int) ≤ hi - lo
  | [], _, _, _, _, h => by simp; omega
  | x :: xs, lo, hi, p, b, h => by
    rw [List.pairwise_cons] at p
    have hx := b x List.mem_cons_self
    have := inc_len (lo := x + 1) (hi := hi) p.2 (fun y hy => ⟨by have := p.1 y hy; omega, (b y (List.mem_cons_of_mem _ hy)).2⟩) (by omega)
    simp only [List.length_cons]; omega
theorem inc_full : ∀ {xs : List Int} {lo hi : Int}, xs.Pairwise (· < ·) → (∀ x ∈ xs, lo ≤ x ∧ x < hi) → lo ≤ hi → hi - lo ≤ (xs.length : Int) → ∀ k, lo ≤ k → k < hi → k ∈ xs
  | [], _, _, _, _, h, l, k, h1, h2 => by simp at l; omega
  | x :: xs, lo, hi, p, b, h, l, k, h1, h2 => by
    rw [List.pairwise_cons] at p
    have hx := b x List.mem_cons_self
    have hb : ∀ y ∈ xs, x + 1 ≤ y ∧ y < hi := fun y hy => ⟨by have := p.1 y hy; omega, (b y (List.mem_cons_of_mem _ hy)).2⟩
    have hl := inc_len (lo := x + 1) (hi := hi) p.2 hb (by omega)
    simp only [List.length_cons] at l
    by_cases e : k = x
    · rw [e]; exact List.mem_cons_self
    · exact List.mem_cons_of_mem _ (inc_full (lo := x + 1) p.2 hb (by omega) (by omega) k (by omega) h2)
theorem dedup_nodup {xs : List Int} (h : xs.Nodup) : dedup xs = xs := by
  induction xs with
  | nil => rfl
  | cons x xs ih =>
    rw [List.nodup_cons] at h
    simp [dedup, ih h.2, h.1]
theorem nodup_len {xs : List Int} {hi : Int} (h : xs.Nodup) (b : ∀ x ∈ xs, 0 ≤ x ∧ x < hi) (h0 : 0 ≤ hi) : (xs.length : Int) ≤ hi := by
  have := inc_len (lo := 0) (hi := hi) (sdd_lt xs) (fun x hx => b x (mem_sdd.mp hx)) h0
  rw [sdd_len, dedup_nodup h] at this
  omega
theorem nodup_full {xs : List Int} {hi : Int} (h : xs.Nodup) (b : ∀ x ∈ xs, 0 ≤ x ∧ x < hi) (h0 : 0 ≤ hi) (l : hi ≤ (xs.length : Int)) (k : Int) (h1 : 0 ≤ k) (h2 : k < hi) : k ∈ xs := by
  have e := sdd_len xs
  rw [dedup_nodup h] at e
  exact mem_sdd.mp (inc_full (lo := 0) (hi := hi) (sdd_lt xs) (fun x hx => b x (mem_sdd.mp hx)) h0 (by omega) k h1 h2)
theorem pairwise_ris : ∀ ns : List Int, ris ns = true ↔ ns.Pairwise (· < ·)
  | [] => by simp [ris]
  | [x] => by simp [ris]
  | x :: y :: r => by
    have ih := pairwise_ris (y :: r)
    simp only [ris, Bool.and_eq_true, decide_eq_true_eq, ih]
    rw [List.pairwise_cons (a := x)]
    constructor
    · rintro ⟨h1, h2⟩
      refine ⟨fun z hz => ?_, h2⟩
      rcases List.mem_cons.mp hz with rfl | hz
      · exact h1
      · have := (List.pairwise_cons.mp h2).1 z hz; omega
    · rintro ⟨h1, h2⟩
      exact ⟨h1 y List.mem_cons_self, h2⟩
theorem sdd_ris (ns : List Int) : decide (ns = sdd ns) = ris ns := by
  by_cases h : ris ns = true
  · rw [h]; exact decide_eq_true (sdd_uniq (fun _ => .rfl) ((pairwise_ris ns).mp h))
  · rw [Bool.not_eq_true] at h
    rw [h]
    refine decide_eq_false fun e => ?_
    have := sdd_lt ns
    rw [← e] at this
    rw [(pairwise_ris ns).mpr this] at h
    cases h
theorem Below.get : ∀ {ds zs : List Int}, Below ds zs → ∀ {i : Nat} {z : Int}, zs[i]? = some z → ∃ d, ds[i]? = some d ∧ 0 ≤ d ∧ d < z
  | [], [], _, i, z, h => by simp at h
  | d :: ds, y :: zs, h, 0, z, e => by simp at e; subst e; exact ⟨d, rfl, h.1⟩
  | d :: ds, y :: zs, h, i + 1, z, e => by simpa using Below.get h.2 (by simpa using e)
  | [], _ :: _, h, _, _, _ => h.elim
  | _ :: _, [], h, _, _, _ => h.elim
@[simp] theorem pAll_bls {bs : List Bool} : pAll [.lst (bs.map .bl)] = .ok (.z (.bl (bs.all id))) := by
  unfold pAll
  simp
theorem lcAll {it : Z.Env → R (List PV)} {tg : Tg} {c : Z.Env → R Bool} {f : Ex} {vs : List Nat} {γ : Z.Env} {items : List PV} (g : PV → Bool) (hi : it γ = .ok items) (hs : items.length ≤ 16777216) (h : ∀ x ∈ items, lcT tg c f (wipeE γ vs) x = .ok (some (.bl (g x)))) :
    ∃ bs : List Bool, xLc it tg c f vs γ = .ok (.fr .ow (.lst (bs.map .bl))) ∧ bs.all id = items.all g := by
  refine ⟨items.map g, ?_, by simp [List.all_map]⟩
  rw [show (items.map g).map PV.bl = items.map fun x => .bl (g x) by simp]
  exact xLc_map _ hi hs h
theorem pLt_int {i j : Int} : pb pLt (.int i) (.int j) = .ok (.z (.bl (decide (i < j)))) := rfl
/-! the cells of a script -/
def cells (N : Nat) (ns : List Int) : List Int := ns.take N ++ if ns = [] then [7] else []
theorem cells_len {N : Nat} {ns : List Int} : (cells N ns).length ≤ N + 1 := by
  simp only [cells, List.length_append, List.length_take]
  split <;> simp <;> omega
theorem cells_ok {ns : List Int} {N : Nat} {γ : Z.Env} (h0 : γ[0]? = some (.sl .fz (.lst (ns.map .int)))) (hl : ns.length ≤ 1000) :
    iEnu (x2 pAdd (xSl (xVar 0) (xNoP) (xP (xC (.int (N : Int))))) (xRep (xLst (zCons (xC (.int 7)) (aNil))) (xB pInt (aCons (x2 (pb pEq) (xVar 0) (xLst (aNil))) (aNil))))) γ = .ok (enumL 0 ((cells N ns).map .int)) := by
  have hv : xVar 0 γ = .ok (.pk .fz (.lst (ns.map .int))) := by rw [a_xVar, h0]
  have hp := pcut_to (xs := ns.map PV.int) (k := N)
  cases ns with
  | nil =>
    have he : pEq (.lst []) (.lst []) = .ok true := rfl
    have hp : pcut [] none (some (N : Int)) = [] := by simpa using hp
    simp [-a_xVar, iEnu, hv, hp, cells, xRep, pRepL, cRep, pInt, he]
  | cons n ns =>
    have he : pEq (.lst ((n :: ns).map .int)) (.lst []) = .ok false := by
      simp [pEq, peq, peqL, isDL, isDL_all]
    have hm : min N (ns.length + 1) ≤ 16777216 := by simp at hl; omega
    rw [← List.map_take] at hp
    rw [List.map_cons] at hp he hv
    simp [-a_xVar, iEnu, hv, hp, cells, xRep, pRepL, cRep, pInt, he, hm]
end Z
set_option maxHeartbeats 4000000
/-! exceptions of own classes over any built-in one, whose __init__ is a def -/
namespace Z
open PySem L2 PySem.Spec PyProof.Rows PySem.W

/-- what the written part says of an own exception class over the built-in B -/
structure OxC (K : PySem.W.Frag) (C : Addr) (B newId initId : String) (bmB : List Value) : Prop where
  F : ExcBaseFacts B newId initId bmB
  SF : StoreFacts B bmB "object.__setattr__" "object"
  q : PySem.W.excInitIn K C bmB newId = true
  hd : PySem.W.hasDictIn K C = true
  ov : PySem.W.excOver K C bmB = true
  sa : PySem.W.findIn K (.ref C) "__setattr__" = some (some (.builtin "object.__setattr__"))
  exC : PySem.W.subIn K (.ref C) (.type "BaseException") = some true
  tyC : PySem.W.typeIn K (.ref C) = some (.type "type")
  kC : PySem.W.keepIn K (.ref C) = true
section
open Builtin Builtin.ObjectAttr
variable {prog : Program} {w : World} {A : Around} {R : Result → Shared → Prop} {hp : Heap} {g : Array GenState} {d : Drawn} {t : Nat} {os : OsState} {K : PySem.W.Frag} {C x : Addr} {cd : ClassData} {fv : Array Value} {name : Str} {v : Value} {tk : Tok} {bmB : List Value} {B : String}
/-- the way of a store on an exception up to its dict -/
theorem ox_store {od : Option Addr} {oD : Option Obj} (SB : StoreFacts B bmB "object.__setattr__" "object") (X : K.In hp) (I : PySem.W.InstAt hp x { cls := .ref C, dict := od, data := .fields fv } C oD) (hcd : PySem.W.clsIn K C = some cd)
    (ht : PySem.W.excTail bmB cd.mro = true) (hm : cd.mro.isEmpty = false) (ha : PySem.W.findIn K (.ref C) name = some none)
    (h : wpAny (model prog w) A.in1 (storeInOwnDict (.ref x) (.ref C) (.str name tk) name v false)
      (fun fin s' => match fin with | .done f => R (.ok f) s' | .again c' => c'.quiet = true ∧ codeAny (model prog w) A c' R s') (fun e s' => R (.error e) s') ⟨hp, g, d, t, os⟩) :
    codeAny (model prog w) A (.call (.builtin "object.__setattr__") ⟨[.ref x, .str name tk, v], []⟩) R ⟨hp, g, d, t, os⟩ := by
  have S0 := F.store_object
  have top : cd.mro.contains (.type "object") = true := by rw [PySem.W.excTail_contains "object" _ ht]; exact SB.hasOwner
  have inst : PySem.W.Looks (model prog w) hp (isInstance (.ref x) (.type "object")) true :=
    I.type.andThen (PySem.W.looks_mroIn X (by unfold PySem.W.mroIn; simp only [hcd, Option.bind_some, hm, top]; rfl))
  have lm : PySem.W.Looks (model prog w) hp (mroOf (.ref C)) cd.mro := (PySem.W.looks_clsIn X hcd).andThen .now
  have lt : PySem.W.Looks (model prog w) hp (storeTaker? none) none := .now
  refine codeAny_call_builtin S0.slot.plain S0.entry ?_
  refine @PySem.W.check_slot (model prog w) _ _ ⟨hp, g, d, t, os⟩ "object.__setattr__" "object" "__setattr__" (.ref x) [.str name tk, v] [] _ S0.kind S0.split inst (S0.args (.ref x) (.str name tk) v) ?_
  rw [PySem.W.osa_eq, refuse_eq]
  refine wpAny_bind (wpAny_bind ?_)
  refine I.type.at ?_
  refine wpAny_bind (lm.at ?_)
  rw [PySem.W.excTail_pass _ (SB.passes _) _ ht]
  refine wpAny_pure (wpAny_bind ?_)
  refine I.type.at (wpAny_bind ?_)
  refine (PySem.W.looks_findIn X ha).at (wpAny_bind ?_)
  exact lt.at h
/-- the first field -/
theorem ox_first (SB : StoreFacts B bmB "object.__setattr__" "object") (X : K.In hp) (hx : hp.get? x = some { cls := .ref C, data := .fields fv }) (hcd : PySem.W.clsIn K C = some cd) (ht : PySem.W.excTail bmB cd.mro = true) (hm : cd.mro.isEmpty = false) (hh : cd.hasDict = true)
    (ha : PySem.W.findIn K (.ref C) name = some none)
    (hq : ∀ h' tk' dx, (∀ b o, b ≠ x → hp.get? b = some o → h'.get? b = some o) → hp.objs.size ≤ dx → dx ≠ x → h'.get? x = some { cls := .ref C, dict := some dx, data := .fields fv } →
      h'.Ns1 dx (fun y => if y = name then some v else none) → R (.ok (.ret .none)) ⟨h', g, d, tk', os⟩) :
    codeAny (model prog w) A (.call (.builtin "object.__setattr__") ⟨[.ref x, .str name tk, v], []⟩) R ⟨hp, g, d, t, os⟩ := by
  refine ox_store (od := none) (oD := none) SB X ⟨hx, rfl, rfl, trivial⟩ hcd ht hm ha ?_
  have nx : x ≠ hp.objs.size := Nat.ne_of_lt (Heap.lt_size hx)
  have lc : PySem.W.Looks (model prog w) hp (classData C) cd := PySem.W.looks_clsIn X hcd
  obtain ⟨nm, bs, mro, ns, qn, hd, sn, sb, ab, col, del⟩ := cd
  dsimp only at hh
  subst hh
  unfold storeInOwnDict ownDictForStores
  repeat (first | with_reducible refine PySem.HandSPX.store_in_new ?_ ?_ | with_reducible refine wpAny_loadPart_at hx ?_ | with_reducible refine lc.at ?_ | wp_step)
  · exact ⟨_, #[], _, (Heap.get?_update_ne _ _ _ _ nx.symm).trans (Heap.get?_push_at rfl rfl), rfl, fun e he => absurd he (by simp), fun _ => rfl⟩
  · intro h' tk' hn' hs
    have px : (hp.push { cls := .type "dict", data := .dict #[] }).get? x = some { cls := .ref C, data := .fields fv } := Heap.get?_push_of_some _ hx
    refine hq h' tk' hp.objs.size (fun b o hb ho => ?_) (Nat.le_refl _) nx.symm ?_ hn'
    · rw [hs.2 b (Nat.ne_of_lt (Heap.lt_size ho)), Heap.get?_update_ne _ _ _ _ hb]
      exact Heap.get?_push_of_some _ ho
    · rw [hs.2 x nx]
      exact Heap.get?_update_self _ px rfl
/-- a further field -/
theorem ox_more {dx : Addr} {m0 : Str → Option Value} {nl : List Str} (SB : StoreFacts B bmB "object.__setattr__" "object") (X : K.In hp) (hx : hp.get? x = some { cls := .ref C, dict := some dx, data := .fields fv }) (hns : hp.Ns1 dx m0) (hw : Within m0 nl) (hz : nl.length ≤ 1000)
    (hcd : PySem.W.clsIn K C = some cd) (ht : PySem.W.excTail bmB cd.mro = true) (hm : cd.mro.isEmpty = false) (hh : cd.hasDict = true) (ha : PySem.W.findIn K (.ref C) name = some none)
    (hq : ∀ h' tk', (∀ b o, b ≠ dx → hp.get? b = some o → h'.get? b = some o) → h'.Ns1 dx (fun y => if y = name then some v else m0 y) → R (.ok (.ret .none)) ⟨h', g, d, tk', os⟩) :
    codeAny (model prog w) A (.call (.builtin "object.__setattr__") ⟨[.ref x, .str name tk, v], []⟩) R ⟨hp, g, d, t, os⟩ := by
  obtain ⟨oD, _, _, hoD, _, _⟩ := hns.count hw
  refine ox_store (od := some dx) (oD := some oD) SB X ⟨hx, rfl, rfl, hoD⟩ hcd ht hm ha ?_
  have lc : PySem.W.Looks (model prog w) hp (classData C) cd := PySem.W.looks_clsIn X hcd
  obtain ⟨nm, bs, mro, ns, qn, hd, sn, sb, ab, col, del⟩ := cd
  dsimp only at hh
  subst hh
  unfold storeInOwnDict ownDictForStores
  repeat (first | with_reducible refine PySem.OEX.store_in_old hns hw hz ?_ | with_reducible refine wpAny_loadPart_at hx ?_ | with_reducible refine lc.at ?_ | wp_step)
  intro h' tk' hn' hs
  exact hq h' tk' (fun b o hb ho => (hs.2 b hb).trans ho) hn'
end
section
variable {X : Cx} {pins : List (Addr × Obj)} {σ : L2.St} {H : Hp} {s : Shared} {a C dx : Addr} {f : Str} {y : V} {u : Value} {fs : List (Str × V)} {Q : Unit → Shared → Prop} {E : Value → Shared → Prop} {A : Around} {B newId initId : String} {bmB : List Value}
theorem OxC.cd (T : OxC X.K C B newId initId bmB) : ∃ cd, PySem.W.clsIn X.K C = some cd ∧ PySem.W.excTail bmB cd.mro = true ∧ cd.hasDict = true ∧ cd.mro.isEmpty = false := by
  have h := T.ov
  have h2 := T.hd
  unfold PySem.W.excOver at h
  unfold PySem.W.hasDictIn at h2
  cases e : PySem.W.clsIn X.K C with
  | none => rw [e] at h; cases h
  | some cd =>
    rw [e] at h h2
    simp only [Option.any_some] at h
    refine ⟨cd, rfl, ?_⟩
    split at h
    · rename_i C' bm hm
      rw [Bool.and_eq_true] at h
      rw [hm]
      exact ⟨h.2, by simpa using h2, rfl⟩
    · cases h
theorem oxs_new (T : OxC X.K C B newId initId bmB) (I : Inv X pins σ H s) (e : H a = some (exo a C none)) (hno : PySem.W.findIn X.K (.ref C) f = some none) (ry : RelV y u)
    (h : ∀ dx s', H dx = none → dx ≠ a → Inv X pins σ (upd (upd H dx (exd dx [(f, y)])) a (exo a C (some dx))) s' → Q () s') : wpAny (model X.prog X.w) A (setAttr (.ref a) f u) Q E s := by
  obtain ⟨cd, hcl, ht, hhd, hm⟩ := T.cd
  obtain ⟨t1, ho⟩ := exo_at I.hok e
  obtain ⟨hp, g, d, t, os⟩ := s
  refine PySem.W.set_plain I.kIn (ox := { cls := .ref C, dict := none, data := .fields #[.ref t1, .none, .none, .none, .bool false, .none] }) (od := none) ⟨ho, rfl, rfl, trivial⟩ T.sa ?_
  refine ox_first T.SF I.kIn ho hcl ht hm hhd hno fun h' tk' dx k dn dne hx hn => ?_
  have hnd : H dx = none := I.hok.fresh dn
  have nd : ∀ {b : Addr} {o : Obj}, hp.get? b = some o → b ≠ dx := fun {b o} q => Nat.ne_of_lt (Nat.lt_of_lt_of_le (Heap.lt_size q) dn)
  have na : ∀ {b : Addr}, H b = none → b ≠ a := fun {b} n z => by rw [z, e] at n; cases n
  have U : Un X.fs [] H (upd (upd H dx (exd dx [(f, y)])) a (exo a C (some dx))) hp h' :=
    ⟨fun b o q n _ _ => k b o (na n) q, fun b o q n _ _ => ⟨o.slots, k b o (na n) q⟩, fun b o q n _ => by rw [upd_ne (na n), upd_ne (nd q)]; exact n,
     fun b o q _ => Classical.byCases (p := b = a) (fun hb => ⟨_, hb ▸ hx⟩) (fun hb => ⟨o, k b o hb q⟩),
     fun b xs q => by rw [upd_ne (at_ne e q exo_tup), upd_ne (ne_of_none q hnd)]; exact q,
     fun b o v q => by rw [upd_ne (at_ne e q exo_frz), upd_ne (ne_of_none q hnd)]; exact q,
     fun b ps q => ⟨#[], by rw [upd_ne (at_ne e q exo_tbl), upd_ne (ne_of_none q hnd), q]; simp⟩⟩
  refine h dx _ hnd dne (I.un (t' := tk') U fun b o q => ?_)
  by_cases hb : b = a
  · subst hb
    rw [upd_same] at q
    cases q
    exact exo_ok hx
  · rw [upd_ne hb] at q
    by_cases hd : b = dx
    · subst hd
      rw [upd_same] at q
      cases q
      exact exd_ok hn (relO_put (fs := []) ry fun g => True.intro)
    · rw [upd_ne hd] at q
      refine (I.hok b o q).stay (fun c v hc z => k c v ?_ z) (fun c hc => ?_) fun c xs hc => ?_
      · rcases hc with hc | hc
        · rw [hc]; exact hb
        · exact at_ne e hc exo_own
      · rw [upd_ne (at_ne e hc exo_own), upd_ne (ne_of_none hc hnd)]; exact hc
      · rw [upd_ne (at_ne e hc exo_tup), upd_ne (ne_of_none hc hnd)]; exact hc
theorem oxs_old (T : OxC X.K C B newId initId bmB) (I : Inv X pins σ H s) (e : H a = some (exo a C (some dx))) (ed : H dx = some (exd dx fs)) (hl : fs.length ≤ 900) (hno : PySem.W.findIn X.K (.ref C) f = some none) (ry : RelV y u)
    (h : ∀ s', Inv X pins σ (upd H dx (exd dx ((f, y) :: fs))) s' → Q () s') : wpAny (model X.prog X.w) A (setAttr (.ref a) f u) Q E s := by
  obtain ⟨cd, hcl, ht, hhd, hm⟩ := T.cd
  obtain ⟨t1, ho⟩ := exo_at I.hok e
  obtain ⟨mA, hns, rel⟩ := exd_at I.hok ed
  have hw := within_of rel
  obtain ⟨hp, g, d, t, os⟩ := s
  obtain ⟨oD, _, _, hoD, _, _⟩ := hns.count hw
  refine PySem.W.set_plain I.kIn (ox := { cls := .ref C, dict := some dx, data := .fields #[.ref t1, .none, .none, .none, .bool false, .none] }) (od := some oD) ⟨ho, rfl, rfl, hoD⟩ T.sa ?_
  refine ox_more T.SF I.kIn ho hns hw (by rw [List.length_map]; omega) hcl ht hm hhd hno fun h' tk' k hn => ?_
  obtain ⟨o2, _, _, e2, _⟩ := id hn
  exact h _ (I.write (t' := tk') (x := dx) (e := dx) (o := exd dx ((f, y) :: fs)) (by rw [ed]; exact True.intro) (.inl rfl) k ⟨o2, e2⟩ (exd_ok hn (relO_put ry rel)))
/-- B.__init__(self, ..): nothing of it is told -/
theorem oxi_ok {us : List Value} {Q : Value → Shared → Prop} (T : OxC X.K C B newId initId bmB) (I : Inv X pins σ H s) (e : H a = some (exo a C none)) (hl : us.length ≤ sizeLine) (h : ∀ s', Inv X pins σ H s' → Q .none s') :
    wpAny (model X.prog X.w) A (call (.builtin initId) (.ref a :: us)) Q E s := by
  obtain ⟨nm, N, q, bs, bm, hdct, sn, sub, ab, col, dd, k0, k1, k2, k3, k5, hC, hT⟩ := PySem.W.excInit_of I.kIn T.q
  obtain ⟨t1, ho⟩ := exo_at I.hok e
  obtain ⟨hp, g, d, t, os⟩ := s
  refine wpAny_call (PySem.HandSPX.init_base T.F hT hC ho hl fun h' t2 k hx => ?_)
  have J := I.write (t' := t) (x := a) (e := a) (o := exo a C none) (by rw [e]; exact True.intro) (.inl rfl) k ⟨_, hx⟩ (exo_ok hx)
  have eu : upd H a (exo a C none) = H := funext fun b => by
    by_cases hb : b = a
    · rw [hb, upd_same, e]
    · rw [upd_ne hb]
  rw [eu] at J
  exact h _ J
end
end Z
set_option maxHeartbeats 4000000
/-! own exceptions raised -/
namespace Z
open PySem L2 PySem.Spec PyProof.Rows
/-- B.__init__(self, ..), B an own class that has it from a built-in -/
def tOxI (K : PySem.W.Frag) (initId : String) (ta : TA) : TE := fun σ H Q => ta σ H fun vs H1 => ∃ (a C : Addr) (ws : List V) (B newId : String) (bmB : List Value), vs = .ref a :: ws ∧ ws.length ≤ 1000 ∧ OxC K C B newId initId bmB ∧ H1 a = some (exo a C none) ∧ Q .non H1
/-- self.f = e of an exception -/
def tOxS (K : PySem.W.Frag) (f : Str) (to te : TE) : TS := fun D σ H => te σ H fun y H1 => to σ H1 fun x H2 => ∃ (a C : Addr) (B newId initId : String) (bmB : List Value), x = .ref a ∧ OxC K C B newId initId bmB ∧ PySem.W.findIn K (.ref C) f = some none ∧
  ((H2 a = some (exo a C none) ∧ ∀ dx, H2 dx = none → dx ≠ a → D.nx σ (upd (upd H2 dx (exd dx [(f, y)])) a (exo a C (some dx)))) ∨
    ∃ (dx : Addr) (fs : List (Str × V)), H2 a = some (exo a C (some dx)) ∧ H2 dx = some (exd dx fs) ∧ fs.length ≤ 900 ∧ D.nx σ (upd H2 dx (exd dx ((f, y) :: fs))))
/-- C(e, ..) -/
def tMkX (C : Addr) (sp : Sp) (ta : TA) : L2.St → Hp → XK → Prop := fun σ H Q => ta σ H fun vs H1 => vs.length ≤ 1000 ∧ ∀ a, H1 a = none → sp (.ref a :: vs) (upd H1 a (exo a C none))
  (fun v H2 => v = .non ∧ ∃ (d : Addr) (fs : List (Str × V)), H2 a = some (exo a C (some d)) ∧ H2 d = some (exd d fs) ∧ H1 d = none ∧ Q (.ref C) (some d) (upd (del H2 a) d (.xd fs))) (fun _ _ _ => False)
section
variable {X : Cx} {o e : Expr} {es : List Expr} {to te : TE} {ta : TA} {f x : Str} {p p' p1 p2 pos : Pos} {k : Nat} {fI Cb C : Addr} {fd : FuncData} {ps : List Str} {sp : Sp}
theorem pe_oxinit {pl : Sem Bool} {initId : String} {mc} (hg : Gl X x) (hm : X.mg x = some (.ref Cb)) (r : ClX.CRead X.K Cb mc) (k' : PySem.W.findCls X.K (.ref Cb) mc "__init__" = some (.val (.builtin initId))) (ha : PA X (e :: es) ta) (hdb : (x == ("__debug__" : Str)) = false := by decide)
    (hc : eval (.Call (.Attribute (.Name x p1) "__init__" p2) (e :: es) [] pos) X.env = (do
      let ov ← eval (.Name x p1) X.env
      standAt p2.atName
      let (f, first) ← holding [ov] (getMethod ov "__init__" pl)
      callWith pos f first (backTo pos (starEach (e :: es) X.env)) (backToKw pos (keywordEach [] X.env))) := by rfl)
    (he : starEach (e :: es) X.env = (false, eval e X.env) :: starEach es X.env := by rfl) (hpl : (backTo pos (starEach es X.env)).any (·.1) = false := by rfl) (hh : PySem.W.handedIn (.builtin initId) = true := by decide +kernel) :
    PE X (.Call (.Attribute (.Name x p1) "__init__" p2) (e :: es) [] pos) (tOxI X.K initId ta) := by
  refine ⟨fun pins s σ H Q I h => PySem.W.methodCall_KW (ld_glob I hg hm ?_ hdb) hc⟩
  refine PySem.W.method_cls I.kIn r.ga (PySem.W.cls_value I.kIn r.rd k' hh ?_)
  show wpAny _ _ (callWith pos (Value.builtin initId) [] (backTo pos (starEach (e :: es) X.env)) []) _ _ _
  refine PyProof.Rows.callWith_method1 (thn (ha.run pos pins _ σ H _ (I.tok _) h) fun us s1 hu => ?_) he hpl
  obtain ⟨vs, H1, I1, r1, a, C, ws, B, newId, bmB, rfl, hl, T, ea, q⟩ := hu
  cases r1 with
  | @cons _ u0 _ ur ra rw' =>
    obtain rfl : u0 = Value.ref a := ra
    refine oxi_ok T I1 ea ?_ fun s' J => ⟨.non, H1, J, rfl, q⟩
    rw [← Paired.length rw', sizeLine_eq]
    omega
theorem ps_oxs (ho : PE X o to) (he : PE X e te) (hs : swapsWith e (some (.Attribute o f p')) pos.line X.env = pure false := by rfl) : PS X (.Assign [.Attribute o f p'] e pos) (tOxS X.K f to te) := by
  refine ⟨fun pins s σ H D I h => plainObj_wpAny_Assign_Attribute (thn (he.run pins s σ H _ I h) fun v s1 h1 => ?_) hs⟩
  obtain ⟨y, H1, I1, r1, q1⟩ := h1
  refine thn (ho.run pins s1 σ H1 _ I1 q1) fun u s2 h2 => ?_
  obtain ⟨x, H2, I2, r2, a, C, B, newId, initId, bmB, rfl, T, hno, q⟩ := h2
  obtain rfl : u = Value.ref a := r2
  rcases q with ⟨ea, q⟩ | ⟨dx, fs, ea, ed, hl, q⟩
  · exact oxs_new T I2 ea hno r1 fun dx s' n ne J => ⟨σ, _, J, q dx n ne⟩
  · exact oxs_old T I2 ea ed hl hno r1 fun s' J => ⟨σ, _, J, q⟩
theorem pmk_ox {B newId initId : String} {bmB : List Value} (T : OxC X.K C B newId initId bmB) (iC : PySem.W.findIn X.K (.ref C) "__init__" = some (some (.ref fI))) (tI : PySem.W.typeIn X.K (.ref fI) = some (.type "function"))
    (F1 : FnG X.prog X.w X.K X.mg X.base k fI fd ps sp) (hr : Room (k + 1) X.A) (hG : X.A.guards = some []) (hb : L2.Binds X.K fd ps []) (hx : ∀ σ, PassesAt (L2.CX X.prog X.w) X σ (fun _ _ _ => False)) (hg : Gl X x) (hm : X.mg x = some (.ref C)) (ha : PA X (e :: es) ta)
    (hdb : (x == ("__debug__" : Str)) = false := by decide) (he : starEach (e :: es) X.env = (false, eval e X.env) :: starEach es X.env := by rfl) (hpl : (backTo pos (starEach es X.env)).any (·.1) = false := by rfl) :
    PMk X (.Call (.Name x p) (e :: es) [] pos) (tMkX C sp ta) := by
  intro pins s σ H Q I h
  refine wpAny_Call_Name_kw (ld_glob I hg hm ?_ hdb)
  refine PySem.W.callWith_K (h₀ := X.base) I.ok.mod.kin T.kC (thn (ha.run pos pins s σ H _ I h) fun us s1 hu => ?_) he hpl
  obtain ⟨vs, H1, I1, r1, hz, q1⟩ := hu
  refine ⟨I1.kIn, ?_⟩
  show wpAny _ _ (call (.ref C) us) _ _ _
  obtain ⟨nm, N, q, bs, bm, hdct, sn, sub, ab, col, dd, k0, k1, k2, k3, k5, hC, hT⟩ := PySem.W.excInit_of I1.kIn T.q
  obtain ⟨hp, g, dr, tk, os⟩ := s1
  have hsz : hp.objs.size ≤ hp.objs.size + 1 := Nat.le_succ _
  have hn : H1 (hp.objs.size + 1) = none := I1.hok.fresh hsz
  have hq := q1 (hp.objs.size + 1) hn
  let hp2 := (hp.push (PySem.W.kdv_tup us)).push (PySem.HandSPX.excO C hp.objs.size)
  have kk : ∀ b o, hp.get? b = some o → hp2.get? b = some o := fun b o e => Heap.get?_push_of_some _ (Heap.get?_push_of_some _ e)
  have hget : hp2.get? (hp.objs.size + 1) = some (PySem.HandSPX.excO C hp.objs.size) := by heap_get
  have I2 : Inv X pins σ (upd H1 (hp.objs.size + 1) (exo (hp.objs.size + 1) C none)) ⟨hp2, g, dr, tk, os⟩ := I1.laid (t' := tk) (a := hp.objs.size + 1) (o := exo (hp.objs.size + 1) C none) (h' := hp2) kk hsz (exo_ok hget)
  have r2 : Vals (V.ref (hp.objs.size + 1) :: vs) (Value.ref (hp.objs.size + 1) :: us) := .cons rfl r1
  have hl : (Value.ref (hp.objs.size + 1) :: us).length = ps.length := by rw [← r2.length]; exact F1.len _ _ _ _ hq
  have hus : us.length ≤ sizeLine := by
    rw [← Paired.length r1, sizeLine_eq]
    omega
  have hbb := hb ⟨hp2, g, dr, tk, os⟩ (Value.ref (hp.objs.size + 1) :: us) I2.kIn (by rw [List.append_nil]; exact hl)
  rw [List.append_nil] at hbb
  refine wpAny_call (PySem.HandSPX.call_own T.F hT hC (PySem.W.looks_findIn I1.kIn iC) (fun self => PySem.W.bind_fn I1.kIn self tI) hus ?_)
  refine codeAny_mono (F1.run _ X.stack _ _ ⟨Value.ref (hp.objs.size + 1) :: us, []⟩ (Value.ref (hp.objs.size + 1) :: us) _ _ (fun _ _ _ => False) (hr.make C us []) (under_guards hG) (I2.env0.make C us []) hbb r2 hq) fun rs s' hq' => ?_
  cases rs with
  | error er => exact hx σ pins _ _ er s' I2 hq'
  | ok fl =>
    cases fl with
    | ret u =>
      obtain ⟨v, H2, os2, bare2, un2, hok2, rv, ev, d, fs, ea, ed, hd1, q2⟩ := hq'
      subst ev
      obtain ⟨h2, g2, d2, t2, os'⟩ := s'
      obtain ⟨t0, G, J, kG, ge, hoe, na⟩ := mk_end0 (d2 := d2) (t2 := t2) I1 hsz kk un2 hok2 os2 bare2 ea ed hd1
      exact ⟨rv, _, _, _, ⟨G, g2, d2, t2, os'⟩, _, .ref C, some d, rfl, J, kG, ge, hoe, ⟨rfl, rfl⟩, rfl, rfl, na, rfl, bare2, raises_own T.exC T.tyC, q2⟩
    | next => exact False.elim hq'
    | brk => exact False.elim hq'
    | cont => exact False.elim hq'
end
/-! ### what an __init__ of an exception does -/
/-- ws -> the fields, the last stored first -/
def spI (C : Addr) (n : Nat) (fl : List V → List (Str × V)) : Sp := fun vs H Q _ => ∃ a ws, vs = .ref a :: ws ∧ ws.length = n ∧ H a = some (exo a C none) ∧
  ∀ d H2, d ≠ a → H d = none → H2 a = some (exo a C (some d)) → H2 d = some (exd d (fl ws)) → (∀ b, b ≠ a → b ≠ d → H2 b = H b) → Q .non H2
/-- what raise C(..) asks of the class -/
structure RsG (X : Cx) (cl : Cl) (x : Str) (c : String) (n : Nat) (fl : List V → List (Str × V)) : Prop where
  ex : ∃ (B newId initId : String) (bmB : List Value) (k : Nat) (fI C : Addr) (fd : FuncData) (ps : List Str), OxC X.K C B newId initId bmB ∧ PySem.W.findIn X.K (.ref C) "__init__" = some (some (.ref fI)) ∧ PySem.W.typeIn X.K (.ref fI) = some (.type "function") ∧
    FnG X.prog X.w X.K X.mg X.base k fI fd ps (spI C n fl) ∧ Room (k + 1) X.A ∧ L2.Binds X.K fd ps [] ∧ X.mg x = some (.ref C) ∧ cl.e c = some C
def sRse (c : String) (n : Nat) (pf : List PV → List (String × PV)) (fs : Env → R (List PV)) : Env → Os := fun γ => match fs γ with
  | .ok xs => if xs.length = n then .er ⟨c, pf xs⟩ γ else .no
  | .er e => .er e γ
  | .no => .no
theorem RpL.len {T : Tb} {F : Hp} : ∀ {xs : List PV} {vs : List V}, RpL T F xs vs → vs.length = xs.length
  | [], vs, h => by cases vs with | nil => rfl | cons _ _ => simp [RpL] at h
  | x :: xs, vs, h => by
    cases vs with
    | nil => simp [RpL] at h
    | cons v vs =>
      simp only [RpL] at h
      obtain ⟨a, b, e, _, h2⟩ := h
      cases e
      simp [RpL.len h2]
section
variable {X : Cx} {cl : Cl} {W : WX} {fs : Env → R (List PV)} {e : Expr} {es : List Expr} {x : Str} {p p1 pos : Pos} {c : String} {n : Nat} {fl : List V → List (Str × V)} {pf : List PV → List (String × PV)}
theorem qs_raise (tk : Takes X W) (R : RsG X cl x c n fl) (hG : X.A.guards = some []) (hpf : ∀ (T : Tb) (F : Hp) (xs : List PV) (vs : List V), xs.length = n → RpL T F xs vs → RpF T F (pf xs) (fl vs)) (hn : n ≤ 1000) (hc : X.calm = true) (ha : QZ cl X W fs (e :: es)) (hg : Gl X x := by rfl)
    (hdb : (x == ("__debug__" : Str)) = false := by decide) (he : starEach (e :: es) X.env = (false, eval e X.env) :: starEach es X.env := by rfl) (hpl : (backTo p1 (starEach es X.env)).any (·.1) = false := by rfl) :
    QS cl X W (sRse c n pf fs) (.Raise (some (.Call (.Name x p) (e :: es) [] p1)) none pos) := by
  obtain ⟨B, newId, initId, bmB, k, fI, C, fd, ps, T, iC, tI, F1, hr, hb, hm, hcl⟩ := R.ex
  have hx : ∀ σ, PassesAt (L2.CX X.prog X.w) X σ (fun _ _ _ => False) := fun σ pins H s e s' I q => by
    obtain ⟨_, _, _, _, _, _, _, _, _, _, _, _, z⟩ := q
    exact z.elim
  refine ⟨(ps_raise hc tk (pmk_ox T iC tI F1 hr hG hb hx hg hm ha.pa hdb he hpl)).imp fun D σ H h => ?_⟩
  obtain ⟨F, A, γ, rel, h⟩ := h
  refine ⟨F, A, γ, rel, ?_⟩
  unfold sRse at h
  cases ef : fs γ with
  | no => rw [ef] at h; exact h.elim
  | er e => rw [ef] at h; exact fun F' H' c d ex r => h F' A σ H' c d (Step.ext ex) (rel.ext ex) r
  | ok xs =>
    rw [ef] at h
    dsimp only at h
    split at h
    · rename_i hlen
      intro F1 H1 vs ex r
      have hvl : vs.length = n := by rw [RpL.len r]; exact hlen
      refine ⟨by rw [hvl]; exact hn, fun a na => ⟨a, vs, rfl, hvl, upd_same, fun d H2 nd hd ea ed oth => ⟨rfl, d, fl vs, ea, ed, ?_, ?_⟩⟩⟩
      · rw [upd_ne nd] at hd; exact hd
      · have nd1 : H1 d = none := by rw [upd_ne nd] at hd; exact hd
        have eq : upd (del H2 a) d (.xd (fl vs)) = upd H1 d (.xd (fl vs)) := funext fun b => by
          by_cases hbd : b = d
          · rw [hbd, upd_same, upd_same]
          · rw [upd_ne hbd, upd_ne hbd]
            by_cases hba : b = a
            · rw [hba, del_same, na]
            · rw [del_ne hba, oth b hba hbd, upd_ne hba]
        rw [eq]
        have nF : F1 d = none := ex.sub.free nd1
        have ex2 : Ext F H (upd F1 d (.xd (fl vs))) (upd H1 d (.xd (fl vs))) := ex.trans (Ext.newF ex.sub nd1)
        refine h _ A σ _ (.ref C) (some d) (Step.ext ex2) (rel.ext ex2) ⟨C, fl vs, hcl, rfl, .inr ⟨d, rfl, upd_same⟩, hpf _ _ _ _ hlen (r.mono fun b o z => ?_)⟩
        rw [upd_ne (ne_of_none z nF)]; exact z
    · exact h.elim
end
end Z
set_option maxHeartbeats 4000000
/-! try: .. except C as e: .., the exception a value in the suite -/
namespace Z
open PySem L2 PySem.Spec PyProof.Rows
section
variable {X : Cx} {pins : List (Addr × Obj)} {σ : L2.St} {H : Hp} {sI s s' : Shared} {B : Heap}
theorem Inv.landedT {a : Addr} {o : HO} (I : Inv X pins σ H sI) (nb : ∀ b o, sI.heap.get? b = some o → b ∉ frs X.stack → B.get? b = some o) (st : B.StaysIn s'.heap) (up : sI.heap.UpToSlots s'.heap) (os : s'.os = sI.os) (ag : AllBare s'.gens)
    (hn : H a = none) (hB : B.get? a = none) (hf : a ∉ frs X.stack) (new : ObjOk X.prog X.w (upd H a o) s'.heap a o) : Inv X pins σ (upd H a o) s' := by
  have na : ∀ b u, sI.heap.get? b = some u → b ≠ a := fun b u e z => by
    subst z
    rw [nb b u e hf] at hB
    cases hB
  have slots : ∀ b ∈ frs X.stack, ∀ u, sI.heap.get? b = some u → ∃ sl, s'.heap.get? b = some { u with slots := sl } := fun b hb u e => by
    obtain ⟨_, o2, e2, hd⟩ := I.stack.mem hb
    rw [e] at e2
    cases e2
    exact up b u e hd
  have k0 : HOk X.prog X.w H s'.heap := (I.inGround nb).kept st
  refine I.call' (ch := []) os ⟨fun b u e _ hb _ => st b u (nb b u e hb), fun b u e _ hb _ => slots b hb u e, fun b u e n _ => by rw [upd_ne (na b u e)]; exact n, fun b u e _ => ?_, fun b xs e => by rw [upd_ne (ne_of_none e hn)]; exact e,
    fun b u xs e => by rw [upd_ne (ne_of_none e hn)]; exact e, fun b qs e => ⟨#[], by rw [upd_ne (ne_of_none e hn), e]; simp⟩⟩ (fun b u e => ?_) ag fun b z => nomatch z
  · by_cases hb : b ∈ frs X.stack
    · obtain ⟨sl, q⟩ := slots b hb u e
      exact ⟨_, q⟩
    · exact ⟨u, st b u (nb b u e hb)⟩
  · by_cases hb : b = a
    · subst hb
      rw [upd_same] at e
      cases e
      exact new
    · rw [upd_ne hb] at e
      exact (k0 b u e).stay (fun c v _ q => q) (fun c q => by rw [upd_ne (ne_of_none q hn)]; exact q) fun c xs q => by rw [upd_ne (ne_of_none q hn)]; exact q
theorem Inv.inSuite (I : Inv X pins σ H s) (a : Addr) : Inv (X.suite a (X.pn ++ pins)) [] σ H s :=
  ⟨I.ok.suite _ _, I.os, I.bare, I.base, I.loc, I.cell, I.free, I.freeC, fun p hp => I.pin p (by rwa [List.append_nil] at hp), I.hok, I.len⟩
theorem Inv.outSuite {a : Addr} {pn' : List (Addr × Obj)} (I : Inv (X.suite a (X.pn ++ pins)) pn' σ H s) (ok : X.Ok) : Inv X pins σ H s :=
  ⟨ok, I.os, I.bare, I.base, I.loc, I.cell, I.free, I.freeC, fun p hp => I.pin p (List.mem_append_left _ hp), I.hok, I.len⟩
end
theorem exV_ok {P : Program} {w : World} {H : Hp} {h : Heap} {a C : Addr} {d : Option Addr} {oe : Obj} {vs : Array Value} (e : h.get? a = some oe) (z : Zc (.ref C) d oe) (q : oe.data = .fields vs) : ObjOk P w H h a (ExV a C d) :=
  ⟨⟨oe, vs, e, z, q⟩, ⟨oe, e⟩, fun _ _ ⟨o, v, x, r⟩ k => ⟨o, v, k o x, r⟩⟩
/-- the ends of the suite: its name is gone then -/
def goneD (i : Nat) (D : Ends) : Ends := { nx := fun σ' H' => D.nx (σ'.set i none) H', rt := D.rt, bk := fun σ' H' => D.bk (σ'.set i none) H', ct := fun σ' H' => D.ct (σ'.set i none) H' }
def wTry (K : PySem.W.Frag) (c : Value) (i : Nat) (ts : TS) (Wout : WX) (D : Ends) : WX := fun cls d σ H =>
  ∃ C b, cls = .ref C ∧ PySem.W.exmOne K cls c = some b ∧ (b = true → ∀ a, H a = none → ts (goneD i D) (σ.set i (some (.ref a))) (upd H a (ExV a C d))) ∧ (b = false → Wout cls d σ H)
section
variable {X : Cx} {x n : Str} {c : Value} {i : Nat} {body suite : List Stmt} {b₀ : Stmt} {np pos pos' : Pos} {tb : WX → TS} {ts : TS} {Wout : WX}
theorem ps_tryX (hs : X.stack = X.env :: X.outer) (hf : X.env.frame = some X.env.locals) (hN : X.N.Nodup) (hi : X.N[i]? = some n) (hln : X.env.kindOf n = some .local) (hc : Names X x c) (tk : Takes X Wout)
    (hb : ∀ (W : WX) (pn : List (Addr × Obj)) (xe : Value → Shared → Prop), Takes (X.tr pn xe) W → PassesOwn (model X.prog X.w) X.A X.env xe → PSs (X.tr pn xe) body (tb W))
    (hsu : ∀ (a : Addr) (pn : List (Addr × Obj)), PSs (X.suite a pn) (b₀ :: suite) ts) :
    PS X (.Try body [.ExceptHandler (some (.Name x np)) (some n) (b₀ :: suite) pos'] [] [] pos) (fun D σ H => tb (wTry X.K c i ts Wout D) D σ H) := by
  refine ⟨fun pins s σ H D I h => wpAny_Try_except ?_⟩
  have ok := I.ok
  have frames : X.A.frames = some (X.env :: X.outer) := by rw [ok.frames, hs]
  let catch_ : Value → Shared → Prop := fun e s₁ => wpAny (model X.prog X.w) X.A (noteFrame e X.env) (fun _ s₂ => wpAny (model X.prog X.w) X.A (setFlight e none) (fun _ s₃ =>
    wpAny (model X.prog X.w) X.A (handleBy e X.env [.ExceptHandler (some (.Name x np)) (some n) (b₀ :: suite) pos']) (SP X pins D) X.xe s₃) X.xe s₂) X.xe s₁
  have takes : Takes (X.tr (X.pn ++ pins) catch_) (wTry X.K c i ts Wout D) := fun u s' xx => by
    obtain ⟨a, B, sI, pins', σ', H', cls, d, rfl, J', nb, up, sky, na, os, ag, C, b, rfl, hb1, hyes, hno⟩ := xx
    have J : Inv X pins σ' H' sI := J'.ofTry ok
    have sky' : Sky B (X.env :: X.outer) a (Zc (.ref C) d) X.env.locals s'.heap := hs ▸ sky
    show wpAny (model X.prog X.w) X.A (noteFrame (.ref a) X.env) _ _ _
    refine Sky.land Zc.steady frames hf sky' fun h3 fl3 up3 => ?_
    have nfr : a ∉ frs X.stack := fun hm => by
      obtain ⟨oe, vs, he, _, hd⟩ := fl3.there
      obtain ⟨_, o2, e2, hnf⟩ := fl3.2.2.1.mem (by rw [hs] at hm; exact hm)
      rw [he] at e2
      cases e2
      exact hnf _ hd
    have landed : ∀ h4, HandSPX.FlyingZ B (X.env :: X.outer) a (Zc (.ref C) d) h4 → h3.UpToSlots h4 → Inv X pins σ' (upd H' a (ExV a C d)) { s' with heap := h4 } := fun h4 fl4 up4 => by
      obtain ⟨oe4, vs4, he4, hz4, hd4⟩ := fl4.there
      exact Inv.landedT (s' := { s' with heap := h4 }) J nb fl4.1 ((up.trans up3).trans up4) os ag na fl4.2.1 nfr (exV_ok he4 hz4 hd4)
    have J3 := landed h3 fl3 (Heap.UpToSlots.refl _)
    have S3 := Inv.inSuite J3 a
    obtain ⟨oe3, vs3, he3, hz3, hd3⟩ := fl3.there
    refine wpAny_handleBy_cons (codeAny_handlers_test ?_) (by intro q; cases q)
    have typ : PySem.W.Looks (model X.prog X.w) h3 (typeOf (.ref a)) (.ref C) := fun A Q E s k q => wpAny_typeOf_ref (k _ _ he3) (by rw [hz3.1]; exact q)
    have asks := PySem.W.exm_one (M := model X.prog X.w) J3.kIn typ hb1
    have named : ∀ {Q : Value → Shared → Prop} {E : Value → Shared → Prop}, Q c { s' with heap := h3 } → wpAny (model X.prog X.w) (X.A.mark (some (.ref a))) (eval (.Name x np) X.env) Q E { s' with heap := h3 } := fun {Q E} q => by
      obtain ⟨hg, hdbg, hm | ⟨hm, hv, hnn⟩⟩ := hc
      · exact ld_glob (X := X.suite a (X.pn ++ pins)) S3 hg hm q hdbg
      · exact ld_blt (X := X.suite a (X.pn ++ pins)) S3 hg hm hv q hnn hdbg
    refine named (asks.here ?_)
    cases b with
    | true =>
      refine codeAny_handlers_suite_as (HandSPX.lands_againZ fl3 fun h4 fl4 up4 => ?_)
      have S4 := Inv.inSuite (landed h4 fl4 up4) a
      refine store_ok (X := X.suite a (X.pn ++ pins)) (v := .ref a) S4 hN hi (.inl hln) rfl (fun s5 S5 => ?_) (.inr hln)
      refine wpAny_mono ((hsu a (X.pn ++ pins)).run [] s5 _ _ (goneD i D) S5 (hyes rfl a na)) (fun f s6 hsp => ?_) fun _ _ z => False.elim z
      have fin : ∀ {σ6 : L2.St} {H6 : Hp} {Q : Shared → Prop}, Inv (X.suite a (X.pn ++ pins)) [] σ6 H6 s6 → (∀ s7, Inv X pins (σ6.set i none) H6 s7 → Q s7) →
          wpAny (model X.prog X.w) X.A (do bindName X.env n .none; unbindBehindTheSuite X.env n pos') (fun _ s7 => Q s7) X.xe s6 := fun {σ6 H6 Q} S6 hq => gone_ok (Inv.outSuite S6 ok) hN hi hln hq
      cases f with
      | ret u =>
        obtain ⟨v6, σ6, H6, S6, r6, q6⟩ := hsp
        exact fin S6 fun s7 J7 => ⟨_, _, _, J7, r6, q6⟩
      | next => obtain ⟨σ6, H6, S6, q6⟩ := hsp; exact fin S6 fun s7 J7 => ⟨_, _, J7, q6⟩
      | brk => obtain ⟨σ6, H6, S6, q6⟩ := hsp; exact fin S6 fun s7 J7 => ⟨_, _, J7, q6⟩
      | cont => obtain ⟨σ6, H6, S6, q6⟩ := hsp; exact fin S6 fun s7 J7 => ⟨_, _, J7, q6⟩
    | false =>
      show wpAny _ X.A (handleBy (.ref a) X.env []) _ _ _
      refine wpAny_handleBy_nil ?_
      obtain ⟨_, _, _, oe, vs, T, oT, _, he, _, hd, h1, _⟩ := id fl3
      unfold PySem.passOn
      refine wpAny_bind (wpAny_field he hd h1 ?_)
      rw [if_neg (show ¬ ((Value.ref T == Value.none) = true) by simp)]
      have fin : wpAny (model X.prog X.w) X.A (setFlight (.ref a) X.env.frame) (fun _ s4 => wpAny (model X.prog X.w) X.A (throw (.ref a) : Sem Flow) (SP X pins D) X.xe s4) X.xe { s' with heap := h3 } := by
        rw [hf]
        exact HandSPX.setFlight_upZ fl3 fun h4 hh4 up4 => wpAny_throw (tk _ _ ⟨a, B, sI, pins, σ', H', .ref C, d, rfl, J, nb, (up.trans up3).trans up4, .inr (.inr (hs ▸ hh4)), na, os, ag, hno rfl⟩)
      first
        | exact wpAny_bind (wpAny_pure (wpAny_bind fin))
        | exact wpAny_bind fin
  refine wpAny_mono ((hb (wTry X.K c i ts Wout D) (X.pn ++ pins) catch_ takes PassesOwn.looking).run [] s σ H D (I.toTry _) h) (fun f s1 hsp => ?_) fun e s1 he => he
  cases f with
  | next => obtain ⟨σ', H', J', q⟩ := hsp; exact wpAny_execs_nil ⟨σ', H', J'.ofTry ok, q⟩
  | brk => obtain ⟨σ', H', J', q⟩ := hsp; exact ⟨σ', H', J'.ofTry ok, q⟩
  | cont => obtain ⟨σ', H', J', q⟩ := hsp; exact ⟨σ', H', J'.ofTry ok, q⟩
  | ret u => obtain ⟨v, σ', H', J', r, q⟩ := hsp; exact ⟨v, σ', H', J'.ofTry ok, r, q⟩
end
end Z
set_option maxHeartbeats 4000000
/-! the pure layer: try; the __init__ of exceptions -/
namespace Z
open PySem L2 PySem.Spec PyProof.Rows
/-- the class that an except clause names catches those of g -/
def ExmOk (K : PySem.W.Frag) (cl : Cl) (c : Value) (g : String → Bool) : Prop := ∀ n C, cl.e n = some C → PySem.W.exmOne K (.ref C) c = some (g n)
def endTry (i : Nat) : Os → Os
  | .nx γ => .nx (γ.set i .un)
  | .bk γ => .bk (γ.set i .un)
  | .ct γ => .ct (γ.set i .un)
  | .rt x γ => .rt x γ
  | .er _ _ => .no
  | .no => .no
def sTry (b : Env → Os) (g : String → Bool) (i : Nat) (s : Env → Os) : Env → Os := fun γ => match b γ with
  | .er e γ1 => if g e.c then endTry i (s (γ1.set i (.sl .fz (.exc e.c e.fs)))) else .er e γ1
  | o => o
section
variable {X : Cx} {cl : Cl} {W : WX} {x n : Str} {c : Value} {i : Nat} {body suite : List Stmt} {b₀ : Stmt} {np pos pos' : Pos} {b s : Env → Os} {g : String → Bool}
theorem qs_try (hs : X.stack = X.env :: X.outer) (hf : X.env.frame = some X.env.locals) (hN : X.N.Nodup) (hc : Names X x c) (hg : ExmOk X.K cl c g) (tk : Takes X W)
    (hb : ∀ (W' : WX) (pn : List (Addr × Obj)) (xe : Value → Shared → Prop), Takes (X.tr pn xe) W' → PassesOwn (model X.prog X.w) X.A X.env xe → QSs cl (X.tr pn xe) W' b body)
    (hsu : ∀ (a : Addr) (pn : List (Addr × Obj)), QSs cl (X.suite a pn) W0 s (b₀ :: suite)) (hi : X.N[i]? = some n := by rfl) (hln : X.env.kindOf n = some .local := by rfl) :
    QS cl X W (sTry b g i s) (.Try body [.ExceptHandler (some (.Name x np)) (some n) (b₀ :: suite) pos'] [] [] pos) := by
  refine ⟨(ps_tryX (tb := fun W' => tqS X cl W' b) (ts := tqS X cl W0 s) (Wout := W) hs hf hN hi hln hc tk (fun W' pn xe t p => (hb W' pn xe t p).ps) (fun a pn => (hsu a pn).ps)).imp fun D σ H h => ?_⟩
  obtain ⟨F, A, γ, rel, h⟩ := h
  refine ⟨F, A, γ, rel, ?_⟩
  unfold sTry at h
  cases eb : b γ with
  | nx γ1 => rw [eb] at h; exact h
  | bk γ1 => rw [eb] at h; exact h
  | ct γ1 => rw [eb] at h; exact h
  | rt y γ1 => rw [eb] at h; exact h
  | no => rw [eb] at h; exact h.elim
  | er e γ1 =>
    rw [eb] at h
    dsimp only at h
    intro F' A' σ' H' cls d st rel1 xr
    obtain ⟨C, vs, hC, rfl, xd, rf⟩ := xr
    refine ⟨C, g e.c, rfl, hg _ _ hC, fun hy a na => ?_, fun hy => ?_⟩
    · rw [hy, if_pos rfl] at h
      have ex : Ext F' H' (upd F' a (ExV a C d)) (upd H' a (ExV a C d)) := Ext.newF rel1.sub na
      have r2 := rel1.ext ex
      have nF : F' a = none := rel1.sub.free na
      have up : ∀ b o, F' b = some o → upd F' a (ExV a C d) b = some o := fun b o z => by rw [upd_ne (ne_of_none z nF)]; exact z
      have rp : Rp ⟨X.K, cl⟩ (upd F' a (ExV a C d)) (.exc e.c e.fs) (.ref a) := by
        simp only [Rp]
        exact ⟨a, C, d, vs, rfl, hC, upd_same, xd.mono up, rf.mono up⟩
      obtain ⟨A2, r3, hA2⟩ := r2.put (i := i) (m := .fz) (x := .exc e.c e.fs) (v := .ref a) (Ar := []) (by simpa only [OwM, and_true] using rp) (by simp) (by simp)
      refine ⟨_, A2, _, r3, ?_⟩
      have st2 : Step F A H (upd F' a (ExV a C d)) A2 (upd H' a (ExV a C d)) := (st.trans (Step.ext ex)).sub fun b hb => (hA2 b hb).elim id fun z => by cases z
      have wip : ∀ {F6 A6 σ6 H6 γ2}, Step (upd F' a (ExV a C d)) A2 (upd H' a (ExV a C d)) F6 A6 H6 → Rel ⟨X.K, cl⟩ F6 A6 σ6 H6 γ2 → ∃ A7, Step F A H F6 A7 H6 ∧ Rel ⟨X.K, cl⟩ F6 A7 (σ6.set i none) H6 (γ2.set i .un) := fun {F6 A6 σ6 H6 γ2} s6 r6 => by
        obtain ⟨A7, r7, h7⟩ := r6.wipe [i]
        exact ⟨A7, (st2.trans s6).sub h7, r7⟩
      cases es : s (γ1.set i (.sl .fz (.exc e.c e.fs))) with
      | nx γ2 =>
        rw [es] at h
        intro F6 A6 σ6 H6 s6 r6
        obtain ⟨A7, s7, r7⟩ := wip s6 r6
        exact h _ _ _ _ s7 r7
      | bk γ2 =>
        rw [es] at h
        intro F6 A6 σ6 H6 s6 r6
        obtain ⟨A7, s7, r7⟩ := wip s6 r6
        exact h _ _ _ _ s7 r7
      | ct γ2 =>
        rw [es] at h
        intro F6 A6 σ6 H6 s6 r6
        obtain ⟨A7, s7, r7⟩ := wip s6 r6
        exact h _ _ _ _ s7 r7
      | rt y γ2 =>
        rw [es] at h
        exact fun F6 A6 σ6 H6 v s6 r6 p => h F6 A6 σ6 H6 v (st2.trans s6) r6 p
      | er e2 γ2 => rw [es] at h; exact h.elim
      | no => rw [es] at h; exact h.elim
    · rw [hy] at h
      exact h F' A' σ' H' _ d st rel1 ⟨C, vs, hC, rfl, xd, rf⟩
end
/-! ### the readings of the __init__ of exceptions -/
section
variable {K : PySem.W.Frag} {C : Addr} {B newId initId : String} {bmB : List Value} {N : List Str} {vs : List V} {H : Hp} {Q : VK} {E : XK} {n i j : Nat} {f f' : Str} {m : Str}
theorem start_get {a : V} {ws : List V} (k : Nat) (h : k < (a :: ws).length) : (L2.start N (a :: ws))[k]? = some (some ((a :: ws)[k])) := by
  unfold L2.start
  rw [List.getElem?_append_left (by simpa using h), List.getElem?_map, List.getElem?_eq_getElem h]
  rfl
theorem spI_len {fl} (h : spI C n fl vs H Q E) : vs.length = n + 1 := by
  obtain ⟨a, ws, rfl, hl, _⟩ := h
  simp [hl]
theorem init1 (T : OxC K C B newId initId bmB) (h1 : PySem.W.findIn K (.ref C) f = some none) (hi : i < n) (hn : n ≤ 900) (h : spI C n (fun ws => [(f, ws[i]?.getD .non)]) vs H Q E) :
    tSeq (tDrop (tOxI K initId (tCons (tVar 0) (tCons (tC (.str m)) tNil)))) (tOxS K f (tVar 0) (tVar (i + 1))) { nx := fun _ H' => Q .non H', rt := Q } (L2.start N vs) H := by
  obtain ⟨a, ws, rfl, hl, ha, h⟩ := h
  have g0 := start_get (N := N) (a := V.ref a) (ws := ws) 0 (by simp)
  have gi := start_get (N := N) (a := V.ref a) (ws := ws) (i + 1) (by simp; omega)
  refine ⟨_, g0, a, C, [V.str m], B, newId, bmB, rfl, by simp, T, ha, ?_⟩
  refine ⟨_, gi, _, g0, a, C, B, newId, initId, bmB, rfl, T, h1, .inl ⟨ha, fun dx nd ne => ?_⟩⟩
  refine h dx _ ne nd upd_same ?_ fun b hb hd => by rw [upd_ne hb, upd_ne hd]
  rw [upd_ne ne, upd_same]
  have hw : ws[i]? = some (ws[i]'(by omega)) := List.getElem?_eq_getElem (by omega)
  simp [hw]
theorem init2 (T : OxC K C B newId initId bmB) (h1 : PySem.W.findIn K (.ref C) f = some none) (h2 : PySem.W.findIn K (.ref C) f' = some none) (hi : i < n) (hj : j < n) (hn : n ≤ 900) (h : spI C n (fun ws => [(f', ws[j]?.getD .non), (f, ws[i]?.getD .non)]) vs H Q E) :
    tSeq (tDrop (tOxI K initId (tCons (tVar 0) (tCons (tC (.str m)) tNil)))) (tSeq (tOxS K f (tVar 0) (tVar (i + 1))) (tOxS K f' (tVar 0) (tVar (j + 1)))) { nx := fun _ H' => Q .non H', rt := Q } (L2.start N vs) H := by
  obtain ⟨a, ws, rfl, hl, ha, h⟩ := h
  have g0 := start_get (N := N) (a := V.ref a) (ws := ws) 0 (by simp)
  have gi := start_get (N := N) (a := V.ref a) (ws := ws) (i + 1) (by simp; omega)
  have gj := start_get (N := N) (a := V.ref a) (ws := ws) (j + 1) (by simp; omega)
  refine ⟨_, g0, a, C, [V.str m], B, newId, bmB, rfl, by simp, T, ha, ?_⟩
  refine ⟨_, gi, _, g0, a, C, B, newId, initId, bmB, rfl, T, h1, .inl ⟨ha, fun dx nd ne => ?_⟩⟩
  refine ⟨_, gj, _, g0, a, C, B, newId, initId, bmB, rfl, T, h2, .inr ⟨dx, _, upd_same, by rw [upd_ne ne, upd_same], by simp, ?_⟩⟩
  refine h dx _ ne nd (by rw [upd_ne (Ne.symm ne), upd_same]) ?_ fun b hb hd => by rw [upd_ne hd, upd_ne hb, upd_ne hd]
  rw [upd_same]
  have hw : ws[i]? = some (ws[i]'(by omega)) := List.getElem?_eq_getElem (by omega)
  have hw2 : ws[j]? = some (ws[j]'(by omega)) := List.getElem?_eq_getElem (by omega)
  simp [hw, hw2]
end
theorem rp_at {i n : Nat} (hi : i < n) {T : Tb} {F : Hp} {xs : List PV} {vs : List V} (hl : xs.length = n) (r : RpL T F xs vs) : Rp T F (xs[i]?.getD .non) (vs[i]?.getD .non) := by
  have h1 : xs[i]? = some (xs[i]'(by omega)) := List.getElem?_eq_getElem (by omega)
  obtain ⟨v, h2, h3⟩ := r.get h1
  simp only [h1, h2, Option.getD_some]
  exact h3
theorem pf1 {f : String} {i n : Nat} (hi : i < n) (T : Tb) (F : Hp) (xs : List PV) (vs : List V) (hl : xs.length = n) (r : RpL T F xs vs) : RpF T F [(f, xs[i]?.getD .non)] [(PySem.Str.ofString f, vs[i]?.getD .non)] := by
  simp only [RpF]
  exact ⟨_, _, rfl, rp_at hi hl r, rfl⟩
theorem pf2 {f f' : String} {i j n : Nat} (hi : i < n) (hj : j < n) (T : Tb) (F : Hp) (xs : List PV) (vs : List V) (hl : xs.length = n) (r : RpL T F xs vs) :
    RpF T F [(f', xs[j]?.getD .non), (f, xs[i]?.getD .non)] [(PySem.Str.ofString f', vs[j]?.getD .non), (PySem.Str.ofString f, vs[i]?.getD .non)] := by
  simp only [RpF]
  exact ⟨_, _, rfl, rp_at hj hl r, _, _, rfl, rp_at hi hl r, rfl⟩
end Z
/-! what the text says of its classes -/
namespace Z
open PySem L2 PySem.Spec PyProof.Rows
def clsBody (s : Stmt) : List Stmt := match s with
  | .ClassDef (body := b) .. => b
  | _ => []
def clsSt (s : Stmt) (j : Nat) : Stmt := (clsBody s).getD j (.Pass ⟨0, 0, 0, 0⟩)
theorem ClOk.re {K : PySem.W.Frag} {cl : Cl} (O : ClOk K cl) (v : V) : ClOk K (cl.at v) := ⟨O.i, O.e⟩
theorem KitOk.re {K : PySem.W.Frag} {cl : Cl} {u : Value} {g : PV → Bool} (k : KitOk K cl u g) (v : V) : KitOk K (cl.at v) u g := ⟨k.b, k.i, k.e⟩
theorem ExmOk.re {K : PySem.W.Frag} {cl : Cl} {c : Value} {g : String → Bool} (k : ExmOk K cl c g) (v : V) : ExmOk K (cl.at v) c g := k
/-- an own class that is called: its __init__ -/
structure MkF (K : PySem.W.Frag) (mg : Str → Option Value) (cl : Cl) (c : String) (qual : Str) (st : Stmt) (ps : List Str) (C a : Addr) (fd : FuncData) : Prop where
  mks : Mk K C a
  mgx : mg (PySem.Str.ofString c) = some (.ref C)
  ci : cl.i c = some C
  fn : FnAt K "__init__" qual st a fd
  bd : L2.Binds K fd ps []
/-- a def of a class, read off the class -/
structure ClF (K : PySem.W.Frag) (mg : Str → Option Value) (x m qual : Str) (st : Stmt) (ps : List Str) (C a : Addr) (fd : FuncData) : Prop where
  cf : ClsFn K C m a
  mgx : mg x = some (.ref C)
  fn : FnAt K m qual st a fd
  bd : L2.Binds K fd ps []
/-- an own exception class with an __init__ -/
structure ExF (K : PySem.W.Frag) (mg : Str → Option Value) (cl : Cl) (c : String) (base qual : Str) (B newId initId : String) (bmB : List Value) (st : Stmt) (ps : List Str) (C a Cb : Addr) (mc : Value) (fd : FuncData) : Prop where
  ox : OxC K C B newId initId bmB
  iC : PySem.W.findIn K (.ref C) "__init__" = some (some (.ref a))
  tI : PySem.W.typeIn K (.ref a) = some (.type "function")
  mgx : mg (PySem.Str.ofString c) = some (.ref C)
  ce : cl.e c = some C
  fn : FnAt K "__init__" qual st a fd
  bd : L2.Binds K fd ps []
  mgb : mg base = some (.ref Cb)
  rd : ClX.CRead K Cb mc
  fb : PySem.W.findCls K (.ref Cb) mc "__init__" = some (.val (.builtin initId))
/-- the init of an exception -/
theorem q_funI {P : Program} {w : World} {K : PySem.W.Frag} {mg : Str → Option Value} {base : Heap} {qual : Str} {st : Stmt} {f C : Addr} {fd : FuncData} {N ps : List Str} {n : Nat} {fl : List V → List (Str × V)} (Fn : FnAt K "__init__" qual st f fd) (S : FnScope N ps (defScope st)) (hp : ps.length = n + 1)
    (hb : ∀ (cdv : Value) (A : Around) (outer : List PySem.Env) (s : Shared) (H : Hp) (vs : List V) (Q : VK) (E : XK), spI C n fl vs H Q E →
      ∃ t, PSs (cxOf (L2.CX P w) P w K mg base N qual (defScope st) f cdv A outer s H E) (defBody st) t ∧ t { nx := fun _ H' => Q .non H', rt := Q } (L2.start N vs) H) :
    FnG P w K mg base 1 f fd ps (spI C n fl) :=
  Fun.okG (k := 0) Fn.ex S (fun vs H Q E h => by rw [spI_len h, hp]) fun cdv A outer s H vs Q E hr hg h => hb cdv A outer s H vs Q E h
end Z
/-! e.f of an own instance or of an exception -/
namespace Z
open PySem L2 PySem.Spec PyProof.Rows
def pFldX (n : String) (l : Vl) : R Vl := match l.keep with
  | .ok (.exc _ fs) => fldF n fs
  | _ => pFld n l
def xFldX (n : String) (f : Ex) : Ex := fun γ => (f γ).bind (pFldX n)
section
variable {X : Cx} {cl : Cl} {W : WX}
theorem xfc_of {K : PySem.W.Frag} {C : Addr} (E : ExcC K C) : XfC K C := ⟨E.hg, E.hk, E.hs, E.hd⟩
theorem q_fldX {n : String} {f : Ex} {o : Expr} {pos : Pos} (O : ClOk X.K cl) (na : ∀ c C, cl.i c = some C → NoAttr X.K C (Str.ofString n)) (nx : ∀ c C, cl.e c = some C → PySem.W.findIn X.K (.ref C) (Str.ofString n) = some none) (ho : QE cl X W f o) (hb : attributeBase o (Str.ofString n) X.env (eval o X.env) = eval o X.env := by rfl) :
    QE cl X W (xFldX n f) (.Attribute o (Str.ofString n) pos) := by
  refine ⟨((q_fld (n := n) O na ho hb).pe.or (pe_xF (n := Str.ofString n) ho.pe hb)).imp fun σ H Q h => ?_⟩
  obtain ⟨F, A, γ, rel, h⟩ := h
  unfold xFldX at h
  cases e : f γ with
  | no => rw [e] at h; exact h.elim
  | er x =>
    rw [e] at h
    refine .inl ⟨F, A, γ, rel, ?_⟩
    unfold xFld
    rw [e]
    exact h
  | ok l =>
    rw [e] at h
    simp only [R.bind_ok] at h
    by_cases hx : ∃ c fs, l.keep = .ok (.exc c fs)
    · obtain ⟨c, fs, hk⟩ := hx
      refine .inr ⟨F, A, γ, rel, ?_⟩
      rw [e]
      intro F1 H1 v e1 r1
      obtain ⟨F2, e2, s2, rx⟩ := keep_ok r1 e1 hk
      simp only [Rp] at rx
      obtain ⟨a, C, d, vs, rfl, hc, ha, xd, rf⟩ := rx
      have lk := rf.look (n := n)
      simp only [pFldX, hk, fldF] at h
      cases el : fs.lookup n with
      | none => rw [el] at h; exact h.elim
      | some y =>
        rw [el] at h lk
        obtain ⟨v0, hv, rv⟩ := lk
        exact ⟨a, C, d, vs, v0, rfl, e2.sub _ _ ha, xd.mono e2.sub, xfc_of (O.e c C hc), nx c C hc, hv, h F2 H1 v0 e2 (VlR.zz rv)⟩
    · refine .inl ⟨F, A, γ, rel, ?_⟩
      have hp : pFldX n l = pFld n l := by
        unfold pFldX
        split
        · rename_i c fs hk
          exact absurd ⟨c, fs, hk⟩ hx
        · rfl
      unfold xFld
      rw [e, R.bind_ok, ← hp]
      exact h
end
end Z
/-! the pure layer: reckoning with methods and ranges -/
namespace Z
open PySem L2
theorem runM_of {np nl : Nat} {b : Z.Env → Os} {m : Md} {x : PV} {xs : List PV} (h : xs.length + 1 = np) : runM np nl b m x xs = outM (b (frameM nl m x xs)) := by unfold runM; rw [if_pos h]
theorem cRg_nat {n : Nat} (hn : n ≤ 1000) : cRg 0 (n : Int) = true := by
  unfold cRg
  have h1 : cRng 0 = true := by decide
  have h2 : cRng (n : Int) = true := cRng_nat (by omega)
  have h3 : sm ((n : Int) - 0).toNat = true := by
    rw [show ((n : Int) - 0).toNat = n by omega]
    exact decide_eq_true (by omega)
  rw [h1, h2, h3]
  rfl
theorem tupR_nat {n : Nat} (hn : n ≤ 1000) {γ : Z.Env} {i : Nat} (hg : xVar i γ = .ok (.pk .fz (.int n))) : xTupR (r1 (xVar i)) γ = .ok (.z (.tup (rngL 0 n))) := by
  have hcr := cRg_nat hn
  have e1 : Z.r1 (xVar i) γ = .ok (0, (n : Int)) := by
    unfold Z.r1
    rw [hg]
    rfl
  have e2 : ((n : Int) - 0).toNat = n := by omega
  unfold xTupR
  rw [e1, R.bind_ok]
  dsimp only
  rw [hcr, e2]
  rfl
theorem fst_ok {n : String} {f : Ex} {γ' : Z.Env} {ms : List Md} {c : String} {fs : List (String × PV)} {m : Md} {y : PV} {l : Vl} (hf : f (.me (.ob ms) (.obj c fs) :: γ') = .ok l) (hl : l.hold = some (m, y)) (hs : fs.length < 900) : sFst n f (.me (.ob ms) (.obj c fs) :: γ') = .nx (.me (.ob (put2 n m y ms fs).1) (.obj c (put2 n m y ms fs).2) :: γ') := by
  unfold sFst
  rw [hf]
  simp only [hl]
  rw [if_pos hs]
theorem own_ok {i : Nat} {pick : PV → Option MF} {fs : Z.Env → R (List PV)} {γ : Z.Env} {m m' : Md} {x x' r : PV} {g : MF} {xs : List PV} (ht : thing i γ = some (m, x)) (hp : pick x = some g) (hf : fs γ = .ok xs) (hg : g m x xs = .ok r m' x') : sExE (eOwn i pick fs) γ = .nx (setT i m' x' γ) := by
  unfold sExE eOwn
  rw [ht]
  simp only [hp, hf, hg, putR]
@[simp] theorem a_outOf_er {e : Xc} {γ : Z.Env} : outOf (.er e γ) = .er e := (rfl)
end Z
/-! the pure layer: reckoning step by step; what stands behind a step is applied only when the step has answered -/
namespace Z
open PySem L2
def Os.andThen (o : Os) (h : Z.Env → Os) : Os := match o with
  | .nx γ => h γ
  | o => o
@[simp] theorem andThen_nx {γ : Z.Env} {h : Z.Env → Os} : (Os.nx γ).andThen h = h γ := (rfl)
@[simp] theorem andThen_rt {x : PV} {γ : Z.Env} {h : Z.Env → Os} : (Os.rt x γ).andThen h = .rt x γ := (rfl)
@[simp] theorem andThen_er {x : Xc} {γ : Z.Env} {h : Z.Env → Os} : (Os.er x γ).andThen h = .er x γ := (rfl)
@[simp] theorem andThen_bk {γ : Z.Env} {h : Z.Env → Os} : (Os.bk γ).andThen h = .bk γ := (rfl)
@[simp] theorem andThen_ct {γ : Z.Env} {h : Z.Env → Os} : (Os.ct γ).andThen h = .ct γ := (rfl)
@[simp] theorem andThen_no {h : Z.Env → Os} : (Os.no).andThen h = .no := (rfl)
@[simp high] theorem e_sSeq {g h : Z.Env → Os} {γ : Z.Env} : sSeq g h γ = (g γ).andThen h := (rfl)
def Os.setR (r : R Vl) (i : Nat) (γ : Z.Env) : Os := match r with
  | .ok l => stow i l γ
  | .er e => .er e γ
  | .no => .no
@[simp] theorem setR_ok {l : Vl} {i : Nat} {γ : Z.Env} : Os.setR (.ok l) i γ = stow i l γ := (rfl)
@[simp] theorem setR_er {e : Xc} {i : Nat} {γ : Z.Env} : Os.setR (.er e) i γ = .er e γ := (rfl)
@[simp] theorem setR_no {i : Nat} {γ : Z.Env} : Os.setR .no i γ = .no := (rfl)
@[simp high] theorem e_sSet {i : Nat} {f : Ex} {γ : Z.Env} : sSet i f γ = Os.setR (f γ) i γ := by unfold sSet Os.setR; cases f γ <;> rfl
def Os.ifR (r : R Bool) (g h : Z.Env → Os) (γ : Z.Env) : Os := match r with
  | .ok true => g γ
  | .ok false => h γ
  | .er e => .er e γ
  | .no => .no
@[simp] theorem ifR_t {g h : Z.Env → Os} {γ : Z.Env} : Os.ifR (.ok true) g h γ = g γ := (rfl)
@[simp] theorem ifR_f {g h : Z.Env → Os} {γ : Z.Env} : Os.ifR (.ok false) g h γ = h γ := (rfl)
@[simp] theorem ifR_er {e : Xc} {g h : Z.Env → Os} {γ : Z.Env} : Os.ifR (.er e) g h γ = .er e γ := (rfl)
@[simp] theorem ifR_no {g h : Z.Env → Os} {γ : Z.Env} : Os.ifR .no g h γ = .no := (rfl)
theorem ifR_if {b : Bool} {g h : Z.Env → Os} {γ : Z.Env} : Os.ifR (.ok b) g h γ = if b then g γ else h γ := by cases b <;> rfl
@[simp high] theorem e_sIf {t : Z.Env → R Bool} {g h : Z.Env → Os} {γ : Z.Env} : sIf t g h γ = Os.ifR (t γ) g h γ := by
  unfold sIf Os.ifR; cases t γ <;> try rfl
  rename_i b; cases b <;> rfl
def Os.retR (r : R Vl) (γ : Z.Env) : Os := match r with
  | .ok l => .rt l.x (unE γ)
  | .er e => .er e γ
  | .no => .no
@[simp] theorem retR_ok {l : Vl} {γ : Z.Env} : Os.retR (.ok l) γ = .rt l.x (unE γ) := (rfl)
@[simp] theorem retR_er {e : Xc} {γ : Z.Env} : Os.retR (.er e) γ = .er e γ := (rfl)
@[simp] theorem retR_no {γ : Z.Env} : Os.retR .no γ = .no := (rfl)
@[simp high] theorem e_sRet {f : Ex} {γ : Z.Env} : sRet f γ = Os.retR (f γ) γ := by unfold sRet Os.retR; cases f γ <;> rfl
def Os.exR (r : R Vl) (γ : Z.Env) : Os := match r with
  | .ok _ => .nx γ
  | .er e => .er e γ
  | .no => .no
@[simp] theorem exR_ok {l : Vl} {γ : Z.Env} : Os.exR (.ok l) γ = .nx γ := (rfl)
@[simp] theorem exR_er {e : Xc} {γ : Z.Env} : Os.exR (.er e) γ = .er e γ := (rfl)
@[simp] theorem exR_no {γ : Z.Env} : Os.exR .no γ = .no := (rfl)
@[simp] theorem e_sEx {f : Ex} {γ : Z.Env} : sEx f γ = Os.exR (f γ) γ := by unfold sEx Os.exR; cases f γ <;> rfl
def R.andT (r : R Bool) (u : Z.Env → R Bool) (γ : Z.Env) : R Bool := match r with
  | .ok true => u γ
  | .ok false => .ok false
  | .er e => .er e
  | .no => .no
@[simp] theorem andT_t {u : Z.Env → R Bool} {γ : Z.Env} : R.andT (.ok true) u γ = u γ := (rfl)
@[simp] theorem andT_f {u : Z.Env → R Bool} {γ : Z.Env} : R.andT (.ok false) u γ = .ok false := (rfl)
@[simp] theorem andT_er {e : Xc} {u : Z.Env → R Bool} {γ : Z.Env} : R.andT (.er e) u γ = .er e := (rfl)
@[simp] theorem andT_no {u : Z.Env → R Bool} {γ : Z.Env} : R.andT .no u γ = .no := (rfl)
@[simp high] theorem e_tAndF {t u : Z.Env → R Bool} {γ : Z.Env} : tAndF t u γ = R.andT (t γ) u γ := by
  unfold tAndF R.andT; cases t γ <;> try rfl
  rename_i b; cases b <;> rfl
def R.orT (r : R Bool) (u : Z.Env → R Bool) (γ : Z.Env) : R Bool := match r with
  | .ok true => .ok true
  | .ok false => u γ
  | .er e => .er e
  | .no => .no
@[simp] theorem orT_t {u : Z.Env → R Bool} {γ : Z.Env} : R.orT (.ok true) u γ = .ok true := (rfl)
@[simp] theorem orT_f {u : Z.Env → R Bool} {γ : Z.Env} : R.orT (.ok false) u γ = u γ := (rfl)
@[simp] theorem orT_er {e : Xc} {u : Z.Env → R Bool} {γ : Z.Env} : R.orT (.er e) u γ = .er e := (rfl)
@[simp] theorem orT_no {u : Z.Env → R Bool} {γ : Z.Env} : R.orT .no u γ = .no := (rfl)
@[simp high] theorem e_tOrF {t u : Z.Env → R Bool} {γ : Z.Env} : tOrF t u γ = R.orT (t γ) u γ := by
  unfold tOrF R.orT; cases t γ <;> try rfl
  rename_i b; cases b <;> rfl
/-- a value and its truth -/
def R.vT (r : R Vl) : R (Vl × Bool) := r.bind fun l => (pTru l.x).bind fun b => .ok (l, b)
@[simp] theorem vT_ok {l : Vl} : R.vT (.ok l) = (pTru l.x).bind fun b => .ok (l, b) := (rfl)
@[simp] theorem vT_er {e : Xc} : R.vT (.er e) = .er e := (rfl)
@[simp] theorem vT_no : R.vT .no = .no := (rfl)
def R.andV (r : R (Vl × Bool)) (g : Ex) (γ : Z.Env) : R Vl := match r with
  | .ok (l, true) => g γ
  | .ok (l, false) => .ok l
  | .er e => .er e
  | .no => .no
@[simp] theorem andV_t {l : Vl} {g : Ex} {γ : Z.Env} : R.andV (.ok (l, true)) g γ = g γ := (rfl)
@[simp] theorem andV_f {l : Vl} {g : Ex} {γ : Z.Env} : R.andV (.ok (l, false)) g γ = .ok l := (rfl)
@[simp] theorem andV_er {e : Xc} {g : Ex} {γ : Z.Env} : R.andV (.er e) g γ = .er e := (rfl)
@[simp] theorem andV_no {g : Ex} {γ : Z.Env} : R.andV .no g γ = .no := (rfl)
@[simp high] theorem e_xAnd {f g : Ex} {γ : Z.Env} : xAnd f g γ = R.andV (R.vT (f γ)) g γ := by
  unfold xAnd R.andV R.vT; cases f γ <;> try rfl
  simp only [R.bind_ok]
  cases pTru _ <;> try rfl
  rename_i b; cases b <;> rfl
def R.orV (r : R (Vl × Bool)) (g : Ex) (γ : Z.Env) : R Vl := match r with
  | .ok (l, true) => .ok l
  | .ok (l, false) => g γ
  | .er e => .er e
  | .no => .no
@[simp] theorem orV_t {l : Vl} {g : Ex} {γ : Z.Env} : R.orV (.ok (l, true)) g γ = .ok l := (rfl)
@[simp] theorem orV_f {l : Vl} {g : Ex} {γ : Z.Env} : R.orV (.ok (l, false)) g γ = g γ := (rfl)
@[simp] theorem orV_er {e : Xc} {g : Ex} {γ : Z.Env} : R.orV (.er e) g γ = .er e := (rfl)
@[simp] theorem orV_no {g : Ex} {γ : Z.Env} : R.orV .no g γ = .no := (rfl)
@[simp high] theorem e_xOr {f g : Ex} {γ : Z.Env} : xOr f g γ = R.orV (R.vT (f γ)) g γ := by
  unfold xOr R.orV R.vT; cases f γ <;> try rfl
  simp only [R.bind_ok]
  cases pTru _ <;> try rfl
  rename_i b; cases b <;> rfl
def R.ifV (r : R Bool) (f g : Ex) (γ : Z.Env) : R Vl := match r with
  | .ok true => f γ
  | .ok false => g γ
  | .er e => .er e
  | .no => .no
@[simp] theorem ifV_t {f g : Ex} {γ : Z.Env} : R.ifV (.ok true) f g γ = f γ := (rfl)
@[simp] theorem ifV_f {f g : Ex} {γ : Z.Env} : R.ifV (.ok false) f g γ = g γ := (rfl)
@[simp] theorem ifV_er {e : Xc} {f g : Ex} {γ : Z.Env} : R.ifV (.er e) f g γ = .er e := (rfl)
@[simp] theorem ifV_no {f g : Ex} {γ : Z.Env} : R.ifV .no f g γ = .no := (rfl)
theorem ifV_if {b : Bool} {f g : Ex} {γ : Z.Env} : R.ifV (.ok b) f g γ = if b then f γ else g γ := by cases b <;> rfl
@[simp high] theorem e_xIf {t : Z.Env → R Bool} {f g : Ex} {γ : Z.Env} : xIf t f g γ = R.ifV (t γ) f g γ := by
  unfold xIf R.ifV; cases t γ <;> try rfl
  rename_i b; cases b <;> rfl
def R.chV (r : R Bool) (p' : PV → PV → R Bool) (k : Vl) (h : Ex) (γ : Z.Env) : R Vl := match r with
  | .ok true => (h γ).bind fun j => pb p' k.x j.x
  | .ok false => .ok (.z (.bl false))
  | .er e => .er e
  | .no => .no
@[simp] theorem chV_t {p' : PV → PV → R Bool} {k : Vl} {h : Ex} {γ : Z.Env} : R.chV (.ok true) p' k h γ = (h γ).bind fun j => pb p' k.x j.x := (rfl)
@[simp] theorem chV_f {p' : PV → PV → R Bool} {k : Vl} {h : Ex} {γ : Z.Env} : R.chV (.ok false) p' k h γ = .ok (.z (.bl false)) := (rfl)
@[simp high] theorem e_xChain {p p' : PV → PV → R Bool} {f g h : Ex} {γ : Z.Env} : xChain p p' f g h γ = (f γ).bind fun l => (g γ).bind fun k => R.chV (p l.x k.x) p' k h γ := by
  unfold xChain R.chV; cases f γ <;> try rfl
  simp only [R.bind_ok]
  cases g γ <;> try rfl
  simp only [R.bind_ok]
  cases p _ _ <;> try rfl
  rename_i b; cases b <;> rfl
def Os.tgR (r : R PV) (g : Tg) (γ : Z.Env) : Os := match r with
  | .ok x => match g x γ with
    | some γ' => .nx γ'
    | none => .no
  | .er e => .er e γ
  | .no => .no
@[simp] theorem tgR_ok {x : PV} {g : Tg} {γ : Z.Env} : Os.tgR (.ok x) g γ = (match g x γ with | some γ' => .nx γ' | none => .no) := (rfl)
@[simp] theorem tgR_er {e : Xc} {g : Tg} {γ : Z.Env} : Os.tgR (.er e) g γ = .er e γ := (rfl)
@[simp] theorem tgR_no {g : Tg} {γ : Z.Env} : Os.tgR .no g γ = .no := (rfl)
def R.noerZ (r : R PV) : R PV := match r with
  | .er _ => .no
  | r => r
@[simp high] theorem e_sTg {f : Ex} {g : Tg} {γ : Z.Env} : sTg f g γ = Os.tgR ((f γ).bind Vl.keep) g γ := by
  unfold sTg Os.tgR
  cases f γ with
  | ok l =>
    simp only [R.bind_ok]
    cases h : l.keep with
    | ok x => rfl
    | er e => exact (l.keep_ne _ h).elim
    | no => rfl
  | er e => rfl
  | no => rfl
def Os.forR (r : R (List PV)) (tg : Tg) (body : Z.Env → Os) (γ : Z.Env) : Os := match r with
  | .ok items => forL tg body items γ
  | .er e => .er e γ
  | .no => .no
@[simp] theorem forR_ok {items : List PV} {tg : Tg} {body : Z.Env → Os} {γ : Z.Env} : Os.forR (.ok items) tg body γ = forL tg body items γ := (rfl)
@[simp] theorem e_sFor {it : Z.Env → R (List PV)} {tg : Tg} {body : Z.Env → Os} {γ : Z.Env} : sFor it tg body γ = Os.forR (it γ) tg body γ := by unfold sFor Os.forR; cases it γ <;> rfl
def Os.rseR (r : R (List PV)) (c : String) (n : Nat) (pf : List PV → List (String × PV)) (γ : Z.Env) : Os := match r with
  | .ok xs => if xs.length = n then .er ⟨c, pf xs⟩ γ else .no
  | .er e => .er e γ
  | .no => .no
@[simp] theorem rseR_ok {xs : List PV} {c : String} {n : Nat} {pf : List PV → List (String × PV)} {γ : Z.Env} : Os.rseR (.ok xs) c n pf γ = if xs.length = n then .er ⟨c, pf xs⟩ γ else .no := (rfl)
@[simp] theorem e_sRse {c : String} {n : Nat} {pf : List PV → List (String × PV)} {fs : Z.Env → R (List PV)} {γ : Z.Env} : sRse c n pf fs γ = Os.rseR (fs γ) c n pf γ := by unfold sRse Os.rseR; cases fs γ <;> rfl
def Os.tryE (o : Os) (g : String → Bool) (i : Nat) (s : Z.Env → Os) : Os := match o with
  | .er e γ1 => if g e.c then endTry i (s (γ1.set i (.sl .fz (.exc e.c e.fs)))) else .er e γ1
  | o => o
@[simp] theorem tryE_nx {γ : Z.Env} {g i s} : (Os.nx γ).tryE g i s = .nx γ := (rfl)
@[simp] theorem tryE_rt {x} {γ : Z.Env} {g i s} : (Os.rt x γ).tryE g i s = .rt x γ := (rfl)
@[simp] theorem tryE_er {e : Xc} {γ : Z.Env} {g i s} : (Os.er e γ).tryE g i s = if g e.c then endTry i (s (γ.set i (.sl .fz (.exc e.c e.fs)))) else .er e γ := (rfl)
@[simp] theorem e_sTry {b : Z.Env → Os} {g : String → Bool} {i : Nat} {s : Z.Env → Os} {γ : Z.Env} : sTry b g i s γ = (b γ).tryE g i s := by unfold sTry Os.tryE; cases b γ <;> rfl
@[simp] theorem e_xCall {g : List PV → R PV} {fs : Z.Env → R (List PV)} {γ : Z.Env} : xCall g fs γ = (fs γ).bind fun xs => (g xs).map .z := (rfl)
end Z
/-! the pure layer: what can be shown; ranges -/
namespace Z
open PySem L2
theorem rngL_map (n : Nat) : rngL 0 n = ((List.range n).map fun n : Nat => (n : Int)).map PV.int := by simp [rngL]
theorem filterMap_ints {ns : List Int} {t : Int → Bool} : (ns.map PV.int).filterMap (fun x => match x with | .int k => if t k then some (PV.int k) else none | _ => none) = (ns.filter t).map PV.int := by
  induction ns with
  | nil => rfl
  | cons n ns ih =>
    simp only [List.map_cons, List.filterMap_cons, ih, List.filter_cons]
    cases t n <;> simp
theorem rDL_all {n : Nat} {xs : List PV} : rDL (n + 1) xs = xs.all (rD n) := by
  induction xs with
  | nil => rfl
  | cons x xs ih => simp only [rDL, ih, List.all_cons]
theorem shWL_le {c : Nat} : ∀ {xs : List PV}, (∀ x ∈ xs, shW x + 2 ≤ c) → shWL xs ≤ c * xs.length
  | [], _ => by simp [shWL]
  | x :: xs, h => by
    have h1 := h x List.mem_cons_self
    have h2 := shWL_le (c := c) (xs := xs) fun y hy => h y (List.mem_cons_of_mem _ hy)
    simp only [shWL, List.length_cons, Nat.mul_add, Nat.mul_one]
    omega
theorem log2_small {i : Int} (h : -1000000 ≤ i ∧ i ≤ 1000000) : i.natAbs.log2 < 1900 := by
  by_cases z : i.natAbs = 0
  · rw [z]; decide
  · have h1 : i.natAbs < 2 ^ 20 := by omega
    have := (Nat.log2_lt z).mpr h1
    omega
@[simp] theorem rD_int {n : Nat} {i : Int} : rD n (.int i) = decide (i.natAbs.log2 < 1900) := by cases n <;> rfl
@[simp] theorem rD_tup {n : Nat} {xs : List PV} : rD n (.tup xs) = rDL n xs := by cases n <;> rfl
@[simp] theorem rD_lst {n : Nat} {xs : List PV} : rD n (.lst xs) = rDL n xs := by cases n <;> rfl
@[simp] theorem rD_bl {n : Nat} {b : Bool} : rD n (.bl b) = true := by cases n <;> rfl
@[simp] theorem rD_non {n : Nat} : rD n .non = true := by cases n <;> rfl
@[simp] theorem rD_str {n : Nat} {x : Str} : rD n (.str x) = true := by cases n <;> rfl
@[simp] theorem rD_dct {n : Nat} {t : Bool} {kvs : List (PV × PV)} : rD n (.dct t kvs) = (kvs.isEmpty && decide (0 < n)) := by cases n <;> rfl
/-- a thing that can be shown within a list, and is short -/
def showy (t : PV) : Prop := rD 49 t = true ∧ shW t ≤ 1000000
theorem showy_ints {ns : List Int} (hl : ns.length < 1000) (h : ∀ n ∈ ns, -1000000 ≤ n ∧ n ≤ 1000000) : showy (.tup (ns.map .int)) := by
  refine ⟨?_, ?_⟩
  · rw [rD_tup, rDL_all, List.all_eq_true]
    intro x hx
    obtain ⟨n, hn, rfl⟩ := List.mem_map.mp hx
    simpa using log2_small (h n hn)
  · simp only [shW]
    have := shWL_le (c := 702) (xs := ns.map .int) fun x hx => by obtain ⟨n, hn, rfl⟩ := List.mem_map.mp hx; simp [shW]
    simp at this
    omega
end Z
/-! the pure layer: len of own things -/
namespace Z
open PySem L2 PySem.Spec PyProof.Rows
structure LenG (X : Cx) (C : Addr) (sp : Sp) : Prop where
  ex : ∃ (k : Nat) (f : Addr) (fd : FuncData) (ps : List Str), PySem.W.findIn X.K (.ref C) "__len__" = some (some (.ref f)) ∧ PySem.W.isFn X.K (.ref f) = true ∧ FnG X.prog X.w X.K X.mg X.base k f fd ps sp ∧ Room (k + 1) X.A ∧ L2.Binds X.K fd ps []
def rLenG (X : Cx) : List V → Hp → VK → Prop := fun xs H Q => ∃ a C dx fs sp, xs = [.ref a] ∧ H a = some (.ins C dx fs) ∧ LenG X C sp ∧ sp [.ref a] H (fun z H' => ∃ n : Int, z = .int n ∧ (0 ≤ n ∧ n < 2 ^ 63) ∧ Q (.int n) H') E0
theorem call_lenG {X : Cx} (hG : X.A.guards = some []) : CallR X (.builtin "len") (rLenG X) := by
  intro pins s σ H xs us Q I r h
  obtain ⟨a, C, dx, fs, sp, rfl, ea, ⟨k, f, fd, ps, hs, hf, F, hr, hb⟩, q⟩ := h
  obtain ⟨u, rfl, ru⟩ := r.one
  cases (show u = Value.ref a from ru)
  obtain ⟨mA, J, _⟩ := ins_get I.hok ea
  obtain ⟨od, J, _⟩ := J.look
  obtain ⟨m, hF⟩ := I.fr
  have hl := F.len _ _ _ _ q
  have r2 : Vals [V.ref a] [Value.ref a] := .cons rfl .nil
  refine PySem.W.len_K hF I.ok.mod.kin J hs hf (wpAny_mono (wpAny_call (codeAny_mono (F.run X.A.in1 X.stack s H ⟨[.ref a], []⟩ [.ref a] [.ref a] _ E0 hr.in1 hG I.env0.in1 (by
    have := hb s [.ref a] I.kIn (by simpa using hl)
    simpa using this) r2 q) fun r s' hq => ?_)) (fun w s' z => z) fun _ _ x => x)
  cases r with
  | error e => exact pas0 σ pins H s e s' I hq
  | ok fl =>
    cases fl with
    | ret w =>
      obtain ⟨z, H', I', rz, n, rfl, hn, q'⟩ := I.after hq
      obtain ⟨t, e⟩ := (show ∃ t, w = Value.int n t from rz)
      cases e
      exact ⟨hn, .int n, H', I'.tok _, ⟨_, rfl⟩, q'⟩
    | next => exact False.elim hq
    | brk => exact False.elim hq
    | cont => exact False.elim hq
structure LenT (X : Cx) (cl : Cl) (tbl : List (String × (List PV → R PV))) : Prop where
  at_ : ∀ c g C, tbl.lookup c = some g → cl.i c = some C → LenG X C (spQ X.K cl g)
def lenBack : R PV → R Vl
  | .ok (.int n) => if decide (0 ≤ n) && decide (n ≤ 16777216) then .ok (.z (.int n)) else .no
  | _ => .no
def tlook (tbl : List (String × (List PV → R PV))) : PV → R (List PV → R PV)
  | .obj c _ => match tbl.lookup c with
    | some g => .ok g
    | none => .no
  | _ => .no
def lenV (tbl : List (String × (List PV → R PV))) (l : Vl) : R Vl := match isObj' l.x with
  | true => l.keep.bind fun x => (tlook tbl x).bind fun g => lenBack (g [x])
  | false => pLen [l.x]
def xLenO (tbl : List (String × (List PV → R PV))) (f : Ex) : Ex := fun γ => (f γ).bind (lenV tbl)
theorem tlook_ok {tbl : List (String × (List PV → R PV))} {x : PV} {g} (h : tlook tbl x = .ok g) : ∃ c fs, x = .obj c fs ∧ tbl.lookup c = some g := by
  cases x <;> try (simp [tlook] at h; done)
  rename_i c fs
  simp only [tlook] at h
  cases e : tbl.lookup c with
  | none => rw [e] at h; cases h
  | some g' => rw [e] at h; cases h; exact ⟨c, fs, rfl, e⟩
theorem tlook_ne {tbl : List (String × (List PV → R PV))} {x : PV} {e} (h : tlook tbl x = .er e) : False := by
  cases x <;> try (simp [tlook] at h; done)
  simp only [tlook] at h
  split at h <;> cases h
theorem lenBack_ok {r : R PV} {l : Vl} (h : lenBack r = .ok l) : ∃ n : Int, r = .ok (.int n) ∧ l = .z (.int n) ∧ 0 ≤ n ∧ n ≤ 16777216 := by
  unfold lenBack at h
  split at h
  · split at h
    · rename_i n hn
      cases h
      simp at hn
      exact ⟨n, rfl, rfl, hn⟩
    · cases h
  · cases h
theorem lenBack_ne {r : R PV} {e} (h : lenBack r = .er e) : False := by
  unfold lenBack at h
  split at h <;> first | (split at h <;> cases h) | cases h
/-- a def of a class that its things are asked by; cs: the classes that have it -/
structure MeF (K : PySem.W.Frag) (cl : Cl) (cs : List String) (m : Str) (qual : Str) (st : Stmt) (ps : List Str) (a : Addr) (fd : FuncData) : Prop where
  me : ∀ c C, c ∈ cs → cl.i c = some C → Meth K C m a
  fn : FnAt K m qual st a fd
  bd : L2.Binds K fd ps []
theorem metT_of {X : Cx} {cl : Cl} {m : String} {tbl : List (String × (List PV → R PV))} (h : ∀ p ∈ tbl, ∀ C, cl.i p.1 = some C → MetG X C (PySem.Str.ofString m) (spQ X.K cl p.2) []) : MetT X cl m tbl [] :=
  ⟨fun c g C hl hc => lookup_all (P := fun c g => ∀ C, cl.i c = some C → MetG X C (PySem.Str.ofString m) (spQ X.K cl g) []) h c g hl C hc⟩
theorem lenT_of {X : Cx} {cl : Cl} {tbl : List (String × (List PV → R PV))} (h : ∀ p ∈ tbl, ∀ C, cl.i p.1 = some C → LenG X C (spQ X.K cl p.2)) : LenT X cl tbl :=
  ⟨fun c g C hl hc => lookup_all (P := fun c g => ∀ C, cl.i c = some C → LenG X C (spQ X.K cl g)) h c g hl C hc⟩
theorem met1 {X : Cx} {cl : Cl} {m qual : Str} {st : Stmt} {cs : List String} {ps : List Str} {a : Addr} {fd : FuncData} {c : String} {k : Nat} {sp : Sp} (O : ClOk X.K cl) (W : MeF X.K cl cs m qual st ps a fd) (hm : c ∈ cs) (G : FnG X.prog X.w X.K X.mg X.base k a fd ps sp) (hr : Room k X.A) :
    ∀ C, cl.i c = some C → MetG X C m sp [] := fun C hC => ⟨⟨k, a, fd, ps, (O.i c C hC).cl, W.me c C hm hC, G, hr, W.bd⟩⟩
theorem len1 {X : Cx} {cl : Cl} {qual : Str} {st : Stmt} {cs : List String} {ps : List Str} {a : Addr} {fd : FuncData} {c : String} {k : Nat} {sp : Sp} (W : MeF X.K cl cs "__len__" qual st ps a fd) (hm : c ∈ cs) (G : FnG X.prog X.w X.K X.mg X.base k a fd ps sp) (hr : Room (k + 1) X.A) :
    ∀ C, cl.i c = some C → LenG X C sp := fun C hC => ⟨⟨k, a, fd, ps, (W.me c C hm hC).at_, (W.me c C hm hC).fn, G, hr, W.bd⟩⟩
section
variable {X : Cx} {cl : Cl} {W : WX}
theorem q_lenO {tbl : List (String × (List PV → R PV))} {f} {e : Expr} {p pos : Pos} (M : LenT X cl tbl) (hG : X.A.guards = some []) (hm : X.mg "len" = none) (ha : QE cl X W f e) (hg : Gl X "len" := by rfl) (he : starEach (e :: []) X.env = (false, eval e X.env) :: starEach [] X.env := by rfl) (hpl : (backTo pos (starEach [] X.env)).any (·.1) = false := by rfl) :
    QE cl X W (xLenO tbl f) (.Call (.Name "len" p) [e] [] pos) := ⟨(pe_callB (CallR.or (call_lenG hG) (CallR.or call_len call_lenDR)) hg hm PySem.boot_len (pa_cons ha.pe pa_nil he) (by decide) (by decide) he hpl).imp fun σ H Q h => by
  obtain ⟨F, A, γ, rel, h⟩ := h
  refine ⟨F, A, γ, rel, ?_⟩
  unfold xLenO at h
  cases ef : f γ with
  | no => rw [ef] at h; exact h
  | er x => rw [ef] at h; exact h
  | ok l =>
    rw [ef] at h
    simp only [R.bind_ok] at h
    intro F1 H1 v e1 r1
    unfold lenV at h
    cases eo : isObj' l.x with
    | true =>
      rw [eo] at h
      dsimp only at h
      cases ek : l.keep with
      | no => rw [ek] at h; exact h.elim
      | er y => exact (l.keep_ne _ ek).elim
      | ok x =>
        rw [ek] at h
        simp only [R.bind_ok] at h
        cases et : tlook tbl x with
        | no => rw [et] at h; exact h.elim
        | er y => exact (tlook_ne et).elim
        | ok g =>
          rw [et] at h
          simp only [R.bind_ok] at h
          obtain ⟨c, fs, rfl, hl⟩ := tlook_ok et
          obtain ⟨F2, e2, s2, rx⟩ := keep_ok r1 e1 ek
          have rx' := rx
          simp only [Rp] at rx
          obtain ⟨a, C, dx, vs, rfl, hc, ha, rf⟩ := rx
          cases eb : lenBack (g [.obj c fs]) with
          | no => rw [eb] at h; exact h.elim
          | er y => exact (lenBack_ne eb).elim
          | ok l' =>
            rw [eb] at h
            obtain ⟨n, er, rfl, h0, h1⟩ := lenBack_ok eb
            refine .inl ⟨a, C, dx, vs, spQ X.K cl g, rfl, e2.sub _ _ ha, M.at_ c g C hl hc, F2, [.obj c fs], e2.sub, RpL.cons rx' RpL.nil, ?_⟩
            rw [er]
            intro F' H' v ex rv
            simp only [Rp] at rv
            exact ⟨n, rv, ⟨h0, by omega⟩, h F' H' (.int n) (e2.trans ex) (VlR.zz (by simp [Rp]))⟩
    | false =>
      rw [eo] at h
      dsimp only at h
      refine .inr (o_len F1 H1 [l.x] [v] Q e1.sub ⟨v, [], rfl, r1.rv, rfl⟩ ?_)
      cases eb : pLen [l.x] with
      | no => rw [eb] at h; exact h.elim
      | er y => exact (pLen_ne _ _ eb).elim
      | ok l' =>
        rw [eb] at h
        exact fun F' H' w ex n => h F' H' w (e1.trans ex) (n.r e1.hle)⟩
end
end Z
/-! the pure layer: loops and comprehensions, step by step -/
namespace Z
open PySem L2
/-! ### comprehensions -/
def R.lcF (r : R Vl) : R (Option PV) := (r.bind Vl.keep).map some
def R.lcC (r : R Bool) (f : Ex) (γ : Z.Env) : R (Option PV) := match r with
  | .ok true => ((f γ).bind Vl.keep).map some
  | .ok false => .ok none
  | .er e => .er e
  | .no => .no
@[simp] theorem lcC_t {f : Ex} {γ : Z.Env} : R.lcC (.ok true) f γ = ((f γ).bind Vl.keep).map some := (rfl)
@[simp] theorem lcC_f {f : Ex} {γ : Z.Env} : R.lcC (.ok false) f γ = .ok none := (rfl)
theorem lcC_if {b : Bool} {f : Ex} {γ : Z.Env} : R.lcC (.ok b) f γ = if b then ((f γ).bind Vl.keep).map some else .ok none := by cases b <;> rfl
def R.lcG (o : Option Z.Env) (c : Z.Env → R Bool) (f : Ex) : R (Option PV) := match o with
  | none => .no
  | some γ1 => R.lcC (c γ1) f γ1
@[simp] theorem lcG_some {γ1 : Z.Env} {c : Z.Env → R Bool} {f : Ex} : R.lcG (some γ1) c f = R.lcC (c γ1) f γ1 := (rfl)
@[simp high] theorem e_lcT {tg : Tg} {c : Z.Env → R Bool} {f : Ex} {γ : Z.Env} {x : PV} : lcT tg c f γ x = R.lcG (tg x γ) c f := by
  unfold lcT R.lcG
  cases tg x γ with
  | none => rfl
  | some γ1 =>
    simp only
    unfold R.lcC
    cases c γ1 with
    | ok b =>
      cases b <;> try rfl
      simp only [R.bind_ok, if_true]
      cases f γ1 with
      | ok l => simp only [R.bind_ok]; cases l.keep <;> rfl
      | er e => rfl
      | no => rfl
    | er e => rfl
    | no => rfl
def R.lcE (r : R (List PV)) : R Vl := match r with
  | .ok ys => .ok (.fr .ow (.lst ys))
  | _ => .no
@[simp] theorem lcE_ok {ys : List PV} : R.lcE (.ok ys) = .ok (.fr .ow (.lst ys)) := (rfl)
def R.lcS (b : Bool) (r : R (List PV)) : R Vl := match b with
  | true => R.lcE r
  | false => .no
@[simp] theorem lcS_t {r : R (List PV)} : R.lcS true r = R.lcE r := (rfl)
def R.lcR (r : R (List PV)) (tg : Tg) (c : Z.Env → R Bool) (f : Ex) (γ : Z.Env) : R Vl := match r with
  | .ok items => R.lcS (decide (items.length ≤ 16777216)) (lcL tg c f γ items)
  | .er e => .er e
  | .no => .no
@[simp] theorem lcR_ok {items : List PV} {tg : Tg} {c : Z.Env → R Bool} {f : Ex} {γ : Z.Env} : R.lcR (.ok items) tg c f γ = R.lcS (decide (items.length ≤ 16777216)) (lcL tg c f γ items) := (rfl)
theorem e_xLc {it : Z.Env → R (List PV)} {tg : Tg} {c : Z.Env → R Bool} {f : Ex} {vs : List Nat} {γ : Z.Env} : xLc it tg c f vs γ = R.lcR (it γ) tg c f (wipeE γ vs) := by
  unfold xLc R.lcR R.lcS R.lcE
  cases it γ with
  | ok items =>
    simp only [R.bind_ok, a_sm]
    by_cases h : items.length ≤ 16777216
    · simp only [h, decide_true, if_true]
      all_goals (cases lcL tg c f (wipeE γ vs) items <;> rfl)
    · simp only [h, decide_false]
      all_goals rfl
  | er e => rfl
  | no => rfl
@[simp] theorem wipeE_nil {γ : Z.Env} : wipeE γ [] = γ := (rfl)
@[simp] theorem wipeE_cons {γ : Z.Env} {v : Nat} {vs : List Nat} : wipeE γ (v :: vs) = (wipeE γ vs).set v .un := (rfl)
@[simp] theorem lcL_nil {tg : Tg} {c : Z.Env → R Bool} {f : Ex} {γ : Z.Env} : lcL tg c f γ [] = .ok [] := (rfl)
def R.lcJ (r : R (Option PV)) (s : R (List PV)) : R (List PV) := r.bind fun o => s.bind fun ys => .ok (match o with
    | some y => y :: ys
    | none => ys)
@[simp] theorem lcJ_some {y : PV} {ys : List PV} : R.lcJ (.ok (some y)) (.ok ys) = .ok (y :: ys) := (rfl)
@[simp] theorem lcJ_none {ys : List PV} : R.lcJ (.ok none) (.ok ys) = .ok ys := (rfl)
/-- for displays that are written out -/
theorem lcL_cons {tg : Tg} {c : Z.Env → R Bool} {f : Ex} {γ : Z.Env} {x : PV} {xs : List PV} : lcL tg c f γ (x :: xs) = R.lcJ (lcT tg c f γ x) (lcL tg c f γ xs) := rfl
/-- truths of all -/
theorem lcL_bl (g : PV → Bool) {tg : Tg} {c : Z.Env → R Bool} {f : Ex} {γ : Z.Env} {items : List PV} (h : ∀ x ∈ items, lcT tg c f γ x = .ok (some (.bl (g x)))) : lcL tg c f γ items = .ok (items.map fun x => .bl (g x)) := lcL_map _ h
@[simp] theorem a_pAll_map {α : Type} {g : α → Bool} {xs : List α} : pAll [.lst (xs.map fun x => .bl (g x))] = .ok (.z (.bl (xs.all g))) := by
  have : xs.map (fun x => PV.bl (g x)) = (xs.map g).map .bl := by simp
  rw [this, pAll_bls]; simp [List.all_map]
@[simp] theorem a_pAny_map {α : Type} {g : α → Bool} {xs : List α} : pAny [.lst (xs.map fun x => .bl (g x))] = .ok (.z (.bl (xs.any g))) := by
  have : xs.map (fun x => PV.bl (g x)) = (xs.map g).map .bl := by simp
  rw [this]; unfold pAny; dsimp only; rw [blsOf_map]; simp [List.any_map]
/-- every turn answers something that is so -/
theorem lcL_ex (P : PV → Prop) {tg : Tg} {c : Z.Env → R Bool} {f : Ex} {γ : Z.Env} : ∀ {items : List PV}, (∀ x ∈ items, ∃ y, lcT tg c f γ x = .ok (some y) ∧ P y) → ∃ ys, lcL tg c f γ items = .ok ys ∧ ys.length = items.length ∧ ∀ y ∈ ys, P y
  | [], _ => ⟨[], rfl, rfl, by simp⟩
  | x :: xs, h => by
    obtain ⟨y, e, p⟩ := h x List.mem_cons_self
    obtain ⟨ys, e2, l, q⟩ := lcL_ex P (tg := tg) (c := c) (f := f) (γ := γ) fun z hz => h z (List.mem_cons_of_mem _ hz)
    refine ⟨y :: ys, by rw [lcL_cons, e, e2]; rfl, by simp [l], ?_⟩
    intro z hz
    rcases List.mem_cons.mp hz with rfl | hz
    · exact p
    · exact q z hz
theorem Below.at {ds zs : List Int} (h : Below ds zs) {i : Nat} {z : Int} (hz : zs[i]? = some z) : ∃ d, L2.atI (ds.map PV.int) (i : Int) = some (.int d) ∧ 0 ≤ d ∧ d < z := by
  obtain ⟨d, h1, h2⟩ := h.get hz
  refine ⟨d, ?_, h2⟩
  have hl := (List.getElem?_eq_some_iff.mp h1).1
  rw [Z.atI_nat (by simpa using hl), List.getElem?_map, h1]; rfl
/-! ### comparing -/
@[simp] theorem a_pEq_int {i j : Int} : pEq (.int i) (.int j) = .ok (decide (i = j)) := by simp [pEq, peq]; rfl
@[simp] theorem a_pNe_int {i j : Int} : pNe (.int i) (.int j) = .ok (!decide (i = j)) := by simp [pNe, peq]; rfl
@[simp] theorem a_pEq_tup {ns ms : List Int} : pEq (.tup (ns.map .int)) (.tup (ms.map .int)) = .ok (decide (ns = ms)) := by simp [pEq, peq]
@[simp] theorem a_pNe_tup {ns ms : List Int} : pNe (.tup (ns.map .int)) (.tup (ms.map .int)) = .ok (!decide (ns = ms)) := by simp [pNe, peq]
@[simp] theorem a_pEq_lst {ns ms : List Int} : pEq (.lst (ns.map .int)) (.lst (ms.map .int)) = .ok (decide (ns = ms)) := by simp [pEq, peq]
@[simp] theorem a_pNe_lst {ns ms : List Int} : pNe (.lst (ns.map .int)) (.lst (ms.map .int)) = .ok (!decide (ns = ms)) := by simp [pNe, peq]
mutual
theorem peq_self : ∀ {n : Nat} {x : PV}, isD n x = true → peq x x = true
  | n, .non, _ => by simp [peq]
  | n, .bl _, _ => by simp [peq]
  | n, .int _, _ => by simp [peq]
  | n, .str _, _ => by simp [peq]
  | n, .tup xs, h => by rw [isD_tup] at h; simp only [peq]; exact peqL_self h
  | n, .lst xs, h => by rw [isD_lst] at h; simp only [peq]; exact peqL_self h
  | n, .dct _ _, h => by cases n <;> simp [isD] at h
  | n, .set _, h => by cases n <;> simp [isD] at h
  | n, .obj _ _, h => by cases n <;> simp [isD] at h
  | n, .exc _ _, h => by cases n <;> simp [isD] at h
theorem peqL_self : ∀ {n : Nat} {xs : List PV}, isDL n xs = true → peqL xs xs = true
  | 0, _, h => by simp [isDL] at h
  | n + 1, [], _ => by simp [peqL]
  | n + 1, x :: xs, h => by
    simp only [isDL, Bool.and_eq_true] at h
    simp only [peqL, Bool.and_eq_true]
    exact ⟨peq_self h.1, peqL_self h.2⟩
end
theorem pNe_self {x : PV} (h : isD 60 x = true) : pNe x x = .ok false := by simp [pNe, h, peq_self h]
theorem pEq_self {x : PV} (h : isD 60 x = true) : pEq x x = .ok true := by simp [pEq, h, peq_self h]
@[simp] theorem pNe_str {x y : Str} : pNe (.str x) (.str y) = .ok (!(x == y)) := by simp [pNe, bothStr, peq]
@[simp] theorem pEq_str {x y : Str} : pEq (.str x) (.str y) = .ok (x == y) := by simp [pEq, bothStr, peq]
/-! ### the first item of a list that is not so -/
def fstBad (ok : PV → Bool) : Nat → List PV → Option Nat
  | _, [] => none
  | k, c :: cs => if ok c then fstBad ok (k + 1) cs else some k
theorem fstBad_lt {ok : PV → Bool} : ∀ {cs : List PV} {k i : Nat}, fstBad ok k cs = some i → k ≤ i ∧ i < k + cs.length ∧ ∃ c, cs[i - k]? = some c ∧ ok c = false
  | [], k, i, h => by simp [fstBad] at h
  | c :: cs, k, i, h => by
    simp only [fstBad] at h
    split at h
    · have ⟨h1, h2, d, h3, h4⟩ := fstBad_lt h
      refine ⟨by omega, by simp; omega, d, ?_, h4⟩
      rw [show i - k = (i - (k + 1)) + 1 by omega]; simpa using h3
    · rename_i hc
      cases h
      exact ⟨by omega, by simp, c, by simp, by simpa using hc⟩
theorem fstBad_none {ok : PV → Bool} : ∀ {cs : List PV} {k : Nat}, fstBad ok k cs = none ↔ cs.all ok = true
  | [], k => by simp [fstBad]
  | c :: cs, k => by
    simp only [fstBad, List.all_cons]
    cases h : ok c <;> simp [fstBad_none (cs := cs)]
abbrev tg2 (i j : Nat) : Tg := tgT (tgCons (tgN i) (tgCons (tgN j) tgNil))
theorem set2 {γ : Z.Env} {i j : Nat} (hij : i ≠ j) (a b c d : Sl) : (((γ.set i a).set j b).set i c).set j d = (γ.set i c).set j d := by
  rw [List.set_comm _ _ hij.symm, List.set_set, List.set_set]
theorem set_same (γ : Z.Env) (i : Nat) : γ.set i (γ[i]?.getD .un) = γ := by
  by_cases h : i < γ.length
  · rw [List.getElem?_eq_getElem h]; simp
  · rw [List.set_eq_of_length_le (by omega)]
/-- for number, one in enumerate(..): if not ok(one): a return or a raise -/
theorem forL_bad {i j : Nat} (hij : i ≠ j) {body : Z.Env → Os} (ok : PV → Bool) (P : Nat → Os → Prop) (hP : ∀ n o, P n o → (∃ e γ1, o = .er e γ1) ∨ (∃ x γ1, o = .rt x γ1)) : ∀ (cs : List PV) (k : Nat) (γ : Z.Env),
    (∀ (n : Nat) c, c ∈ cs → n < k + cs.length → ok c = true → body ((γ.set i (.sl .fz (.int n))).set j (.sl .fz c)) = .nx ((γ.set i (.sl .fz (.int n))).set j (.sl .fz c))) →
    (∀ (n : Nat) c, c ∈ cs → n < k + cs.length → ok c = false → P n (body ((γ.set i (.sl .fz (.int n))).set j (.sl .fz c)))) →
    match fstBad ok k cs with
    | none => ∃ a b, forL (tg2 i j) body (enumL k cs) γ = .nx ((γ.set i a).set j b)
    | some n => P n (forL (tg2 i j) body (enumL k cs) γ)
  | [], k, γ, _, _ => ⟨γ[i]?.getD .un, γ[j]?.getD .un, by rw [set_same, set_same]; rfl⟩
  | c :: cs, k, γ, h, ho => by
    have e1 : tg2 i j (.tup [.int (k : Int), c]) γ = some ((γ.set i (.sl .fz (.int k))).set j (.sl .fz c)) := rfl
    simp only [fstBad]
    rw [enumL, forL, e1]
    dsimp only
    cases hb : ok c with
    | true =>
      rw [h k c List.mem_cons_self (by simp) hb]
      simp only [if_true]
      have ih := forL_bad (body := body) hij ok P hP cs (k + 1) ((γ.set i (.sl .fz (.int k))).set j (.sl .fz c)) (fun n d hd hn ht => by
        rw [set2 hij]
        exact h n d (List.mem_cons_of_mem _ hd) (by simp; omega) ht) (fun n d hd hn ht => by
        rw [set2 hij]
        exact ho n d (List.mem_cons_of_mem _ hd) (by simp; omega) ht)
      cases hf : fstBad ok (k + 1) cs with
      | none =>
        rw [hf] at ih
        obtain ⟨a, b, e⟩ := ih
        rw [set2 hij] at e; exact ⟨_, _, e⟩
      | some n =>
        rw [hf] at ih
        exact ih
    | false =>
      simp only [Bool.false_eq_true, if_false]
      have p := ho k c List.mem_cons_self (by simp) hb
      rcases hP _ _ p with ⟨e, γ1, he⟩ | ⟨x, γ1, he⟩ <;> (rw [he] at p ⊢; exact p)
/-- .. a return -/
theorem forL_badR {i j : Nat} (hij : i ≠ j) {body : Z.Env → Os} (ok : PV → Bool) (f : Nat → PV) (cs : List PV) (γ : Z.Env)
    (h1 : ∀ (n : Nat) c, c ∈ cs → n < cs.length → ok c = true → body ((γ.set i (.sl .fz (.int n))).set j (.sl .fz c)) = .nx ((γ.set i (.sl .fz (.int n))).set j (.sl .fz c)))
    (h2 : ∀ (n : Nat) c, c ∈ cs → n < cs.length → ok c = false → ∃ γ', body ((γ.set i (.sl .fz (.int n))).set j (.sl .fz c)) = .rt (f n) γ') :
    match fstBad ok 0 cs with
    | none => ∃ a b, forL (tg2 i j) body (enumL 0 cs) γ = .nx ((γ.set i a).set j b)
    | some n => ∃ γ', forL (tg2 i j) body (enumL 0 cs) γ = .rt (f n) γ' :=
  forL_bad hij ok (fun n o => ∃ γ', o = .rt (f n) γ') (fun n o ⟨γ', h⟩ => .inr ⟨_, γ', h⟩) cs 0 γ (fun n c hc hn ht => h1 n c hc (by omega) ht) (fun n c hc hn ht => h2 n c hc (by omega) ht)
/-- .. a raise -/
theorem forL_badE {i j : Nat} (hij : i ≠ j) {body : Z.Env → Os} (ok : PV → Bool) (e : Nat → Xc) (cs : List PV) (γ : Z.Env)
    (h1 : ∀ (n : Nat) c, c ∈ cs → n < cs.length → ok c = true → body ((γ.set i (.sl .fz (.int n))).set j (.sl .fz c)) = .nx ((γ.set i (.sl .fz (.int n))).set j (.sl .fz c)))
    (h2 : ∀ (n : Nat) c, c ∈ cs → n < cs.length → ok c = false → body ((γ.set i (.sl .fz (.int n))).set j (.sl .fz c)) = .er (e n) ((γ.set i (.sl .fz (.int n))).set j (.sl .fz c))) :
    match fstBad ok 0 cs with
    | none => ∃ a b, forL (tg2 i j) body (enumL 0 cs) γ = .nx ((γ.set i a).set j b)
    | some n => ∃ a b, forL (tg2 i j) body (enumL 0 cs) γ = .er (e n) ((γ.set i a).set j b) := by
  have := forL_bad (body := body) hij ok (fun n o => ∃ a b, o = .er (e n) ((γ.set i a).set j b)) (fun n o ⟨a, b, h⟩ => .inl ⟨_, _, h⟩) cs 0 γ (fun n c hc hn ht => h1 n c hc (by omega) ht) (fun n c hc hn ht => ⟨_, _, h2 n c hc (by omega) ht⟩)
  exact this
/-! ### what can be shown: d how deep, w how long -/
def Sh (d w : Nat) (x : PV) : Prop := rD d x = true ∧ shW x ≤ w
mutual
theorem rD_up : ∀ (n : Nat) (x : PV), rD n x = true → rD (n + 1) x = true
  | n, .non, _ => by simp
  | n, .bl _, _ => by simp
  | n, .int _, h => by simpa using h
  | n, .str _, _ => by simp
  | n, .tup xs, h => by rw [rD_tup] at h ⊢; exact rDL_up n xs h
  | n, .lst xs, h => by rw [rD_lst] at h ⊢; exact rDL_up n xs h
  | n, .dct _ kvs, h => by rw [rD_dct] at h ⊢; simp at h ⊢; exact h.1
  | n, .set _, h => by cases n <;> simp [rD] at h
  | n, .obj _ _, h => by cases n <;> simp [rD] at h
  | n, .exc _ _, h => by cases n <;> simp [rD] at h
theorem rDL_up : ∀ (n : Nat) (xs : List PV), rDL n xs = true → rDL (n + 1) xs = true
  | 0, xs, h => by cases xs <;> simp [rDL] at h
  | n + 1, [], h => by simp [rDL]
  | n + 1, x :: xs, h => by
    simp only [rDL, Bool.and_eq_true] at h ⊢
    exact ⟨rD_up n x h.1, rDL_up (n + 1) xs h.2⟩
end
theorem Sh.up {d w : Nat} {x : PV} (h : Sh d w x) : Sh (d + 1) w x := ⟨rD_up d x h.1, h.2⟩
theorem Sh.to {d w d' w' : Nat} {x : PV} (h : Sh d w x) (hd : d ≤ d') (hw : w ≤ w') : Sh d' w' x := by
  obtain ⟨k, rfl⟩ := Nat.exists_eq_add_of_le hd
  induction k with
  | zero => exact ⟨h.1, Nat.le_trans h.2 hw⟩
  | succ k ih => exact (ih (by omega)).up
theorem Sh.bl {d w : Nat} {b : Bool} (h : 12 ≤ w) : Sh d w (.bl b) := ⟨by simp, by simp [shW]; try omega⟩
theorem Sh.int {d w : Nat} {i : Int} (h : -1000000 ≤ i ∧ i ≤ 1000000) (hw : 704 ≤ w) : Sh d w (.int i) := ⟨by simpa using log2_small h, by simp only [shW]; omega⟩
theorem Sh.mono {d w w' : Nat} {x : PV} (h : Sh d w x) (l : w ≤ w') : Sh d w' x := ⟨h.1, Nat.le_trans h.2 l⟩
theorem Sh.lst {d w n W : Nat} {xs : List PV} (h : ∀ x ∈ xs, Sh d w x) (hl : xs.length ≤ n) (hW : (w + 2) * n + 4 ≤ W) : Sh (d + 1) W (.lst xs) := by
  refine ⟨?_, ?_⟩
  · rw [rD_lst, rDL_all, List.all_eq_true]; exact fun x hx => (h x hx).1
  · have h1 := shWL_le (c := w + 2) (xs := xs) fun x hx => by have := (h x hx).2; omega
    have h2 : (w + 2) * xs.length ≤ (w + 2) * n := Nat.mul_le_mul_left _ hl
    simp only [shW]
    generalize (w + 2) * xs.length = p at h1 h2
    generalize (w + 2) * n = q at h2 hW
    omega
theorem Sh.tup {d w n W : Nat} {xs : List PV} (h : ∀ x ∈ xs, Sh d w x) (hl : xs.length ≤ n) (hW : (w + 2) * n + 4 ≤ W) : Sh (d + 1) W (.tup xs) := by
  refine ⟨?_, ?_⟩
  · rw [rD_tup, rDL_all, List.all_eq_true]; exact fun x hx => (h x hx).1
  · have h1 := shWL_le (c := w + 2) (xs := xs) fun x hx => by have := (h x hx).2; omega
    have h2 : (w + 2) * xs.length ≤ (w + 2) * n := Nat.mul_le_mul_left _ hl
    simp only [shW]
    generalize (w + 2) * xs.length = p at h1 h2
    generalize (w + 2) * n = q at h2 hW
    omega
theorem Sh.ints {d w n W : Nat} {ns : List Int} (h : ∀ n ∈ ns, -1000000 ≤ n ∧ n ≤ 1000000) (hl : ns.length ≤ n) (hW : 706 * n + 4 ≤ W) : Sh (d + 1) W (.tup (ns.map .int)) :=
  Sh.tup (w := 704) (n := n) (fun x hx => by obtain ⟨i, hi, rfl⟩ := List.mem_map.mp hx; exact Sh.int (h i hi) (Nat.le_refl _)) (by simpa using hl) (by omega)
theorem Sh.intsL {d w n W : Nat} {ns : List Int} (h : ∀ n ∈ ns, -1000000 ≤ n ∧ n ≤ 1000000) (hl : ns.length ≤ n) (hW : 706 * n + 4 ≤ W) : Sh (d + 1) W (.lst (ns.map .int)) :=
  Sh.lst (w := 704) (n := n) (fun x hx => by obtain ⟨i, hi, rfl⟩ := List.mem_map.mp hx; exact Sh.int (h i hi) (Nat.le_refl _)) (by simpa using hl) (by omega)
theorem Sh.repr {x : PV} (h : Sh 50 16000000 x) : pReprL [x] = .ok (.z (.str (toR x).shown)) := repr_ok h.1 h.2
/-- .. asked of a few values that are written out -/
def shB (d w : Nat) (x : PV) : Bool := rD d x && decide (shW x ≤ w)
theorem shB_ok {d w : Nat} {x : PV} (h : shB d w x = true) : Sh d w x := by
  unfold shB at h
  simp only [Bool.and_eq_true, decide_eq_true_eq] at h
  exact h
theorem shB_all {d w : Nat} {xs : List PV} (h : xs.all (shB d w) = true) : ∀ x ∈ xs, Sh d w x := fun x hx => shB_ok (List.all_eq_true.mp h x hx)
theorem atI_mem {xs : List PV} {i : Int} (h0 : 0 ≤ i) (h : i < xs.length) : ∃ t ∈ xs, L2.atI xs i = some t := by
  obtain ⟨n, rfl⟩ := Int.eq_ofNat_of_zero_le h0
  have hn : n < xs.length := by omega
  exact ⟨xs[n], List.getElem_mem hn, by rw [Z.atI_nat hn, List.getElem?_eq_getElem hn]⟩
theorem at_nat {xs : List PV} {i : Nat} {x : PV} (h : xs[i]? = some x) : L2.atI xs (i : Int) = some x := by
  rw [Z.atI_nat (List.getElem?_eq_some_iff.mp h).1]; exact h
theorem emod_at {xs : List PV} (b : Int) (n : Int) (hn : (xs.length : Int) = n) (h0 : 0 < n) : ∃ x ∈ xs, L2.atI xs (b % n) = some x :=
  atI_mem (Int.emod_nonneg _ (by omega)) (by rw [hn]; exact Int.emod_lt_of_pos _ h0)
/-! ### the same, asked by the number, too -/
/-! ### the first item of a list that is not so -/
def fstBadN (ok : Nat → PV → Bool) : Nat → List PV → Option Nat
  | _, [] => none
  | k, c :: cs => if ok k c then fstBadN ok (k + 1) cs else some k
theorem fstBadN_lt {ok : Nat → PV → Bool} : ∀ {cs : List PV} {k i : Nat}, fstBadN ok k cs = some i → k ≤ i ∧ i < k + cs.length ∧ ∃ c, cs[i - k]? = some c ∧ ok i c = false
  | [], k, i, h => by simp [fstBadN] at h
  | c :: cs, k, i, h => by
    simp only [fstBadN] at h
    split at h
    · have ⟨h1, h2, d, h3, h4⟩ := fstBadN_lt h
      refine ⟨by omega, by simp; omega, d, ?_, h4⟩
      rw [show i - k = (i - (k + 1)) + 1 by omega]; simpa using h3
    · rename_i hc
      cases h
      exact ⟨by omega, by simp, c, by simp, by simpa using hc⟩
theorem fstBadN_none {ok : Nat → PV → Bool} : ∀ {cs : List PV} {k : Nat}, fstBadN ok k cs = none → ∀ i c, cs[i]? = some c → ok (k + i) c = true
  | [], k, _, i, c, h => by simp at h
  | d :: cs, k, h, i, c, hc => by
    simp only [fstBadN] at h
    split at h
    · rename_i hd
      cases i with
      | zero => simp at hc; subst hc; exact hd
      | succ i => rw [show k + (i + 1) = k + 1 + i by omega]; exact fstBadN_none h i c (by simpa using hc)
    · cases h

/-- for number, one in enumerate(..): if not ok(one): a return or a raise -/
theorem forL_badN {i j : Nat} (hij : i ≠ j) {body : Z.Env → Os} (ok : Nat → PV → Bool) (P : Nat → Os → Prop) (hP : ∀ n o, P n o → (∃ e γ1, o = .er e γ1) ∨ (∃ x γ1, o = .rt x γ1)) : ∀ (cs : List PV) (k : Nat) (γ : Z.Env),
    (∀ (n : Nat) c, c ∈ cs → n < k + cs.length → ok n c = true → body ((γ.set i (.sl .fz (.int n))).set j (.sl .fz c)) = .nx ((γ.set i (.sl .fz (.int n))).set j (.sl .fz c))) →
    (∀ (n : Nat) c, c ∈ cs → n < k + cs.length → ok n c = false → P n (body ((γ.set i (.sl .fz (.int n))).set j (.sl .fz c)))) →
    match fstBadN ok k cs with
    | none => ∃ a b, forL (tg2 i j) body (enumL k cs) γ = .nx ((γ.set i a).set j b)
    | some n => P n (forL (tg2 i j) body (enumL k cs) γ)
  | [], k, γ, _, _ => ⟨γ[i]?.getD .un, γ[j]?.getD .un, by rw [set_same, set_same]; rfl⟩
  | c :: cs, k, γ, h, ho => by
    have e1 : tg2 i j (.tup [.int (k : Int), c]) γ = some ((γ.set i (.sl .fz (.int k))).set j (.sl .fz c)) := rfl
    simp only [fstBadN]
    rw [enumL, forL, e1]
    dsimp only
    cases hb : ok k c with
    | true =>
      rw [h k c List.mem_cons_self (by simp) hb]
      simp only [if_true]
      have ih := forL_badN (body := body) hij ok P hP cs (k + 1) ((γ.set i (.sl .fz (.int k))).set j (.sl .fz c)) (fun n d hd hn ht => by
        rw [set2 hij]
        exact h n d (List.mem_cons_of_mem _ hd) (by simp; omega) ht) (fun n d hd hn ht => by
        rw [set2 hij]
        exact ho n d (List.mem_cons_of_mem _ hd) (by simp; omega) ht)
      cases hf : fstBadN ok (k + 1) cs with
      | none =>
        rw [hf] at ih
        obtain ⟨a, b, e⟩ := ih
        rw [set2 hij] at e; exact ⟨_, _, e⟩
      | some n =>
        rw [hf] at ih
        exact ih
    | false =>
      simp only [Bool.false_eq_true, if_false]
      have p := ho k c List.mem_cons_self (by simp) hb
      rcases hP _ _ p with ⟨e, γ1, he⟩ | ⟨x, γ1, he⟩ <;> (rw [he] at p ⊢; exact p)
/-- .. a return -/
theorem forL_badNR {i j : Nat} (hij : i ≠ j) {body : Z.Env → Os} (ok : Nat → PV → Bool) (f : Nat → PV) (cs : List PV) (γ : Z.Env)
    (h1 : ∀ (n : Nat) c, c ∈ cs → n < cs.length → ok n c = true → body ((γ.set i (.sl .fz (.int n))).set j (.sl .fz c)) = .nx ((γ.set i (.sl .fz (.int n))).set j (.sl .fz c)))
    (h2 : ∀ (n : Nat) c, c ∈ cs → n < cs.length → ok n c = false → ∃ γ', body ((γ.set i (.sl .fz (.int n))).set j (.sl .fz c)) = .rt (f n) γ') :
    match fstBadN ok 0 cs with
    | none => ∃ a b, forL (tg2 i j) body (enumL 0 cs) γ = .nx ((γ.set i a).set j b)
    | some n => ∃ γ', forL (tg2 i j) body (enumL 0 cs) γ = .rt (f n) γ' :=
  forL_badN hij ok (fun n o => ∃ γ', o = .rt (f n) γ') (fun n o ⟨γ', h⟩ => .inr ⟨_, γ', h⟩) cs 0 γ (fun n c hc hn ht => h1 n c hc (by omega) ht) (fun n c hc hn ht => h2 n c hc (by omega) ht)
/-- .. a raise -/
theorem forL_badNE {i j : Nat} (hij : i ≠ j) {body : Z.Env → Os} (ok : Nat → PV → Bool) (e : Nat → Xc) (cs : List PV) (γ : Z.Env)
    (h1 : ∀ (n : Nat) c, c ∈ cs → n < cs.length → ok n c = true → body ((γ.set i (.sl .fz (.int n))).set j (.sl .fz c)) = .nx ((γ.set i (.sl .fz (.int n))).set j (.sl .fz c)))
    (h2 : ∀ (n : Nat) c, c ∈ cs → n < cs.length → ok n c = false → body ((γ.set i (.sl .fz (.int n))).set j (.sl .fz c)) = .er (e n) ((γ.set i (.sl .fz (.int n))).set j (.sl .fz c))) :
    match fstBadN ok 0 cs with
    | none => ∃ a b, forL (tg2 i j) body (enumL 0 cs) γ = .nx ((γ.set i a).set j b)
    | some n => ∃ a b, forL (tg2 i j) body (enumL 0 cs) γ = .er (e n) ((γ.set i a).set j b) := by
  have := forL_badN (body := body) hij ok (fun n o => ∃ a b, o = .er (e n) ((γ.set i a).set j b)) (fun n o ⟨a, b, h⟩ => .inl ⟨_, _, h⟩) cs 0 γ (fun n c hc hn ht => h1 n c hc (by omega) ht) (fun n c hc hn ht => ⟨_, _, h2 n c hc (by omega) ht⟩)
  exact this
end Z
/-! the pure layer: reckoning with own things -/
namespace Z
open PySem L2
@[simp] theorem a_xFldX {n : String} {f : Ex} {γ : Z.Env} : xFldX n f γ = (f γ).bind (pFldX n) := (rfl)
theorem fldX_fr {n : String} {m : Md} {c : String} {fs : List (String × PV)} : pFldX n (.fr m (.obj c fs)) = fldF n fs := rfl
@[simp] theorem fldX_z {n : String} {c : String} {fs : List (String × PV)} : pFldX n (.fr .fz (.obj c fs)) = fldF n fs := (rfl)
@[simp] theorem fldX_fz {n : String} {c : String} {fs : List (String × PV)} : pFldX n (.pk .fz (.obj c fs)) = fldF n fs := (rfl)
@[simp] theorem fldX_ob {n : String} {ms : List Md} {c : String} {fs : List (String × PV)} : pFldX n (.pk (.ob ms) (.obj c fs)) = fldM n ms fs := (rfl)
@[simp] theorem fldX_exc {n : String} {m : Md} {c : String} {fs : List (String × PV)} : pFldX n (.fr m (.exc c fs)) = fldF n fs := (rfl)
@[simp] theorem fldX_excz {n : String} {c : String} {fs : List (String × PV)} : pFldX n (.pk .fz (.exc c fs)) = fldF n fs := (rfl)
@[simp] theorem fldF_cons {n f : String} {x : PV} {fs : List (String × PV)} : fldF n ((f, x) :: fs) = if n = f then .ok (.z x) else fldF n fs := by
  unfold fldF
  by_cases h : n = f
  · subst h; simp [List.lookup]
  · have : (n == f) = false := by simpa using h
    simp [List.lookup, this, h]
@[simp] theorem fldM_cons {n f : String} {m : Md} {ms : List Md} {x : PV} {fs : List (String × PV)} : fldM n (m :: ms) ((f, x) :: fs) = if n = f then .ok (.pk m x) else fldM n ms fs := by
  simp only [fldM]
  by_cases h : n = f <;> simp [h]
def Os.fstG (n : String) (m : Md) (y : PV) (γ : Z.Env) : Os := match γ with
  | .me (.ob ms) (.obj c fs) :: γ' => if fs.length < 900 then .nx (.me (.ob (put2 n m y ms fs).1) (.obj c (put2 n m y ms fs).2) :: γ') else .no
  | _ => .no
def Os.fstR (r : R Vl) (n : String) (γ : Z.Env) : Os := match r with
  | .ok l => match l.hold with
    | some (m, y) => Os.fstG n m y γ
    | none => .no
  | .er e => .er e γ
  | .no => .no
@[simp] theorem fstR_fr {m : Md} {y : PV} {n : String} {γ : Z.Env} : Os.fstR (.ok (.fr m y)) n γ = Os.fstG n m y γ := (rfl)
@[simp] theorem fstR_pk {y : PV} {n : String} {γ : Z.Env} : Os.fstR (.ok (.pk .fz y)) n γ = Os.fstG n .fz y γ := (rfl)
@[simp] theorem fstR_er {e : Xc} {n : String} {γ : Z.Env} : Os.fstR (.er e) n γ = .er e γ := (rfl)
@[simp] theorem fstG_me {m : Md} {y : PV} {n : String} {ms : List Md} {c : String} {fs : List (String × PV)} {γ' : Z.Env} : Os.fstG n m y (.me (.ob ms) (.obj c fs) :: γ') = if fs.length < 900 then .nx (.me (.ob (put2 n m y ms fs).1) (.obj c (put2 n m y ms fs).2) :: γ') else .no := (rfl)
@[simp] theorem e_sFst {n : String} {f : Ex} {γ : Z.Env} : sFst n f γ = Os.fstR (f γ) n γ := by
  unfold sFst Os.fstR Os.fstG
  cases f γ with
  | ok l =>
    dsimp only
    cases l.hold with
    | none => rfl
    | some my =>
      obtain ⟨m, y⟩ := my
      dsimp only
      split <;> rename_i h <;> first | cases h | skip
      · split <;> simp_all
      · split
        · rename_i ms c fs γ' ; exact absurd rfl (h m y ms c fs γ' rfl)
        · rfl
  | er e => rfl
  | no => rfl
@[simp] theorem put2_nil {n : String} {m : Md} {y : PV} : put2 n m y [] [] = ([m], [(n, y)]) := (rfl)
@[simp] theorem put2_cons {n f : String} {m m0 : Md} {y x : PV} {ms : List Md} {fs : List (String × PV)} : put2 n m y (m0 :: ms) ((f, x) :: fs) = if f = n then (m :: ms, (n, y) :: fs) else (m0 :: (put2 n m y ms fs).1, (f, x) :: (put2 n m y ms fs).2) := (rfl)
/-! x.m(..) of an own thing -/
def RE.fst (o : Option MF) (r : R (List PV)) (m : Md) (x : PV) (i : Nat) (γ : Z.Env) : RE := match o with
  | some g => match r with
    | .ok xs => putR i γ (g m x xs)
    | .er e => .er e γ
    | .no => .no
  | none => .no
def RE.own (t : Option (Md × PV)) (pick : PV → Option MF) (r : R (List PV)) (i : Nat) (γ : Z.Env) : RE := match t with
  | some (m, x) => RE.fst (pick x) r m x i γ
  | none => .no
@[simp] theorem own_some {m : Md} {x : PV} {pick : PV → Option MF} {r : R (List PV)} {i : Nat} {γ : Z.Env} : RE.own (some (m, x)) pick r i γ = RE.fst (pick x) r m x i γ := (rfl)
@[simp] theorem fst_some {g : MF} {xs : List PV} {m : Md} {x : PV} {i : Nat} {γ : Z.Env} : RE.fst (some g) (.ok xs) m x i γ = putR i γ (g m x xs) := (rfl)
@[simp] theorem e_eOwn {i : Nat} {pick : PV → Option MF} {fs : Z.Env → R (List PV)} {γ : Z.Env} : eOwn i pick fs γ = RE.own (thing i γ) pick (fs γ) i γ := (rfl)
@[simp] theorem putR_ok {i : Nat} {γ : Z.Env} {r : PV} {m : Md} {x : PV} : putR i γ (.ok r m x) = .ok r (setT i m x γ) := (rfl)
@[simp] theorem putR_er {i : Nat} {γ : Z.Env} {e : Xc} {m : Md} {x : PV} : putR i γ (.er e m x) = .er e (setT i m x γ) := (rfl)
def Os.exE (r : RE) : Os := match r with
  | .ok _ γ' => .nx γ'
  | .er e γ' => .er e γ'
  | .no => .no
@[simp] theorem exE_ok {r : PV} {γ : Z.Env} : Os.exE (.ok r γ) = .nx γ := (rfl)
@[simp] theorem exE_er {e : Xc} {γ : Z.Env} : Os.exE (.er e γ) = .er e γ := (rfl)
@[simp] theorem e_sExE {f : Z.Env → RE} {γ : Z.Env} : sExE f γ = Os.exE (f γ) := by unfold sExE Os.exE; cases f γ <;> rfl
def Os.setE (r : RE) (i : Nat) : Os := match r with
  | .ok r γ' => .nx (γ'.set i (.sl .fz r))
  | .er e γ' => .er e γ'
  | .no => .no
@[simp] theorem setE_ok {i : Nat} {r : PV} {γ : Z.Env} : Os.setE (.ok r γ) i = .nx (γ.set i (.sl .fz r)) := (rfl)
@[simp] theorem setE_er {i : Nat} {e : Xc} {γ : Z.Env} : Os.setE (.er e γ) i = .er e γ := (rfl)
@[simp] theorem e_sSetE {i : Nat} {f : Z.Env → RE} {γ : Z.Env} : sSetE i f γ = Os.setE (f γ) i := by unfold sSetE Os.setE; cases f γ <;> rfl
@[simp] theorem thing_me {m : Md} {x : PV} {γ : Z.Env} : thing 0 (.me m x :: γ) = some (m, x) := (rfl)
@[simp] theorem setT_me {m m' : Md} {x x' : PV} {γ : Z.Env} : setT 0 m' x' (.me m x :: γ) = .me m' x' :: γ := (rfl)
@[simp] theorem outM_rt {r : PV} {m : Md} {x : PV} {γ : Z.Env} : outM (.rt r (.me m x :: γ)) = .ok r m x := (rfl)
@[simp] theorem outM_nx {m : Md} {x : PV} {γ : Z.Env} : outM (.nx (.me m x :: γ)) = .ok .non m x := (rfl)
@[simp] theorem outM_er {e : Xc} {m : Md} {x : PV} {γ : Z.Env} : outM (.er e (.me m x :: γ)) = .er e m x := (rfl)
@[simp] theorem u_runM {np nl : Nat} {b : Z.Env → Os} {m : Md} {x : PV} {xs : List PV} : runM np nl b m x xs = if xs.length + 1 = np then outM (b (frameM nl m x xs)) else .no := (rfl)
@[simp] theorem u_frameM {nl : Nat} {m : Md} {x : PV} {xs : List PV} : frameM nl m x xs = .me m x :: (xs.map (.sl .fz) ++ List.replicate (nl - (xs.length + 1)) .un) := (rfl)
def Os.retM (r : R PV) (γ : Z.Env) : Os := match r with
  | .ok x => .rt x γ
  | .er e => .er e γ
  | .no => .no
@[simp] theorem retM_ok {x : PV} {γ : Z.Env} : Os.retM (.ok x) γ = .rt x γ := (rfl)
@[simp] theorem retM_er {e : Xc} {γ : Z.Env} : Os.retM (.er e) γ = .er e γ := (rfl)
@[simp] theorem e_sRetM {f : Ex} {γ : Z.Env} : sRetM f γ = Os.retM ((f γ).bind Vl.keep) γ := by
  unfold sRetM Os.retM
  cases f γ with
  | ok l =>
    simp only [R.bind_ok]
    cases h : l.keep with
    | ok x => rfl
    | er e => exact (l.keep_ne _ h).elim
    | no => rfl
  | er e => rfl
  | no => rfl
@[simp] theorem mkV_ok {m : Md} {x : PV} : mkV (.ok .non m x) = .ok (.fr m x) := (rfl)
@[simp] theorem mkV_er {e : Xc} {m : Md} {x : PV} : mkV (.er e m x) = .er e := (rfl)
@[simp] theorem mkV0_ok {m : Md} {x : PV} : mkV0 (.ok .non m x) = .ok (.fr m x) := (rfl)
@[simp] theorem e_xMake {c : String} {g : MF} {fs : Z.Env → R (List PV)} {γ : Z.Env} : xMake c g fs γ = (fs γ).bind fun xs => mkV (g (.ob []) (.obj c []) xs) := (rfl)
@[simp] theorem e_xMake0 {c : String} {g : MF} {fs : Z.Env → R (List PV)} {γ : Z.Env} : xMake0 c g fs γ = (fs γ).bind fun xs => mkV0 (g (.ob []) (.obj c []) xs) := (rfl)
@[simp] theorem endTry_nx {i : Nat} {γ : Z.Env} : endTry i (.nx γ) = .nx (γ.set i .un) := (rfl)
@[simp] theorem endTry_rt {i : Nat} {x : PV} {γ : Z.Env} : endTry i (.rt x γ) = .rt x γ := (rfl)
@[simp] theorem endTry_ct {i : Nat} {γ : Z.Env} : endTry i (.ct γ) = .ct (γ.set i .un) := (rfl)
@[simp] theorem endTry_bk {i : Nat} {γ : Z.Env} : endTry i (.bk γ) = .bk (γ.set i .un) := (rfl)
@[simp] theorem a_xIs {g : PV → Bool} {f : Ex} {γ : Z.Env} : xIs g f γ = (f γ).bind fun l => .ok (.z (.bl (g l.x))) := (rfl)
@[simp] theorem a_isC {cs : List String} {x : PV} : isC cs x = (isObj' x && cs.contains (tyN x)) := (rfl)
@[simp] theorem a_tgT_lst {gs : Tgs} {xs : List PV} {γ : Z.Env} : tgT gs (.lst xs) γ = gs xs γ := (rfl)
@[simp] theorem isNon_non : isNon .non = true := (rfl)
@[simp] theorem isNon_bl {b : Bool} : isNon (.bl b) = false := (rfl)
@[simp] theorem isNon_int {b : Int} : isNon (.int b) = false := (rfl)
@[simp] theorem isNon_str {b : Str} : isNon (.str b) = false := (rfl)
@[simp] theorem isNon_tup {b : List PV} : isNon (.tup b) = false := (rfl)
@[simp] theorem isNon_lst {b : List PV} : isNon (.lst b) = false := (rfl)
@[simp] theorem isNon_dct {t : Bool} {b : List (PV × PV)} : isNon (.dct t b) = false := (rfl)
@[simp] theorem isNon_obj {c : String} {b : List (String × PV)} : isNon (.obj c b) = false := (rfl)
@[simp] theorem isNon_exc {c : String} {b : List (String × PV)} : isNon (.exc c b) = false := (rfl)
/-- things numbered from 0 -/
theorem rngT {n : Nat} (hn : n ≤ 1000) {γ : Z.Env} {i : Nat} (hg : γ[i]? = some (.sl .fz (.int n))) : xTupR (r1 (xVar i)) γ = .ok (.z (.tup (rngL 0 n))) := tupR_nat hn (by unfold xVar; rw [hg])
theorem ruleInit {n : Nat} (hn : n ≤ 1000) (c : String) : runM 2 2 (sFst "own_things" (xTupR (r1 (xVar 1)))) (.ob []) (.obj c []) [.int n] = .ok .non (.ob [.fz]) (.obj c [("own_things", .tup (rngL 0 n))]) := by
  have h1 : xTupR (r1 (xVar 1)) (.me (.ob []) (.obj c []) :: [.sl .fz (.int n)]) = .ok (.z (.tup (rngL 0 n))) := tupR_nat hn (i := 1) rfl
  have e := fst_ok (n := "own_things") h1 rfl (by decide)
  refine (runM_of rfl).trans ?_
  exact (congrArg outM e).trans rfl
@[simp] theorem a_xLenO {tbl : List (String × (List PV → R PV))} {f : Ex} {γ : Z.Env} : xLenO tbl f γ = (f γ).bind (lenV tbl) := (rfl)
@[simp] theorem lenV_fz {tbl : List (String × (List PV → R PV))} {c : String} {fs : List (String × PV)} : lenV tbl (.pk .fz (.obj c fs)) = (tlook tbl (.obj c fs)).bind fun g => lenBack (g [.obj c fs]) := (rfl)
@[simp] theorem lenV_fr {tbl : List (String × (List PV → R PV))} {m : Md} {c : String} {fs : List (String × PV)} : lenV tbl (.fr m (.obj c fs)) = (tlook tbl (.obj c fs)).bind fun g => lenBack (g [.obj c fs]) := (rfl)
@[simp] theorem lenV_lst {tbl : List (String × (List PV → R PV))} {m : Md} {xs : List PV} : lenV tbl (.fr m (.lst xs)) = pLen [.lst xs] := (rfl)
@[simp] theorem lenV_lstp {tbl : List (String × (List PV → R PV))} {m : Md} {xs : List PV} : lenV tbl (.pk m (.lst xs)) = pLen [.lst xs] := (rfl)
@[simp] theorem lenV_tup {tbl : List (String × (List PV → R PV))} {m : Md} {xs : List PV} : lenV tbl (.fr m (.tup xs)) = pLen [.tup xs] := (rfl)
@[simp] theorem lenV_tupp {tbl : List (String × (List PV → R PV))} {m : Md} {xs : List PV} : lenV tbl (.pk m (.tup xs)) = pLen [.tup xs] := (rfl)
@[simp] theorem lenBack_int {n : Int} : lenBack (.ok (.int n)) = if decide (0 ≤ n) && decide (n ≤ 16777216) then .ok (.z (.int n)) else .no := (rfl)
@[simp] theorem a_sFrz {i : Nat} {g : Z.Env → Os} {γ : Z.Env} : sFrz i g γ = g (frzE i γ) := (rfl)
def Sl.frz : Sl → Sl
  | .sl _ x => .sl .fz x
  | s => s
@[simp] theorem frz_sl {m : Md} {x : PV} : (Sl.sl m x).frz = .sl .fz x := (rfl)
@[simp] theorem frz_un : (Sl.un).frz = .un := (rfl)
@[simp] theorem a_frzE0 {s : Sl} {γ : Z.Env} : frzE 0 (s :: γ) = s.frz :: γ := by cases s <;> rfl
@[simp] theorem a_frzES {i : Nat} {s : Sl} {γ : Z.Env} : frzE (i + 1) (s :: γ) = s :: frzE i γ := by
  unfold frzE
  simp only [List.getElem?_cons_succ]
  cases γ[i]? with
  | none => rfl
  | some t => cases t <;> rfl
end Z
/-! the pure layer: list.pop, a comprehension whose turns change an own thing -/
namespace Z
open PySem L2
section
variable {X : Cx} {cl : Cl} {W : WX}
/-- xs.pop(j): the item, and what is left -/
def popA (xs : List PV) (j : Int) : Option (PV × List PV) := if decide (0 ≤ j) then match xs[j.toNat]? with
    | some y => if decide (xs.length ≤ 16777216) then some (y, xs.eraseIdx j.toNat) else none
    | none => none
  else none
def RE.pop (s : Option Sl) (r : R Vl) (i : Nat) (γ : Env) : RE := match s, r with
  | some (.sl .ow (.lst xs)), .ok l => match l.x with
    | .int j => match popA xs j with
      | some (y, zs) => .ok y (γ.set i (.sl .ow (.lst zs)))
      | none => .no
    | _ => .no
  | _, _ => .no
def ePop (i : Nat) (f : Ex) : Env → RE := fun γ => RE.pop γ[i]? (f γ) i γ
theorem popA_ok {xs : List PV} {j : Int} {y : PV} {zs : List PV} (h : popA xs j = some (y, zs)) : ∃ k : Nat, j = k ∧ xs[k]? = some y ∧ zs = xs.eraseIdx k ∧ xs.length ≤ 16777216 := by
  unfold popA at h
  split at h
  · rename_i h0
    rw [decide_eq_true_eq] at h0
    split at h
    · rename_i y' e
      split at h
      · rename_i hl
        cases h
        exact ⟨j.toNat, by omega, e, rfl, by simpa using hl⟩
      · cases h
    · cases h
  · cases h
theorem pop_ok {s : Option Sl} {r : R Vl} {i : Nat} {γ γ' : Env} {y : PV} (h : RE.pop s r i γ = .ok y γ') : ∃ xs l j zs, s = some (.sl .ow (.lst xs)) ∧ r = .ok l ∧ l.x = .int j ∧ popA xs j = some (y, zs) ∧ γ' = γ.set i (.sl .ow (.lst zs)) := by
  unfold RE.pop at h
  split at h
  · rename_i xs l
    split at h
    · rename_i j hj
      split at h
      · rename_i y' zs hp
        cases h
        exact ⟨xs, l, j, zs, rfl, rfl, hj, hp, rfl⟩
      · cases h
    · cases h
  · cases h
theorem pop_ne {s : Option Sl} {r : R Vl} {i : Nat} {γ γ' : Env} {e : Xc} (h : RE.pop s r i γ = .er e γ') : False := by
  unfold RE.pop at h
  split at h
  · split at h
    · split at h <;> cases h
    · cases h
  · cases h
theorem q_pop {i : Nat} {x : Str} {f} {e : Expr} {p1 apos cpos : Pos} (he : QE cl X W f e) (hN : X.N[i]? = some x := by rfl) (hv : Vis X.env.scope x := by first | exact Or.inl rfl | exact Or.inr (Or.inl rfl) | exact Or.inr (Or.inr rfl))
    (hd : (x == ("__debug__" : Str)) = false := by decide) (hcd : (x == ("__classdict__" : Str)) = false := by decide)
    (hbase : attributeBase (.Name x p1) "pop" X.env (eval (.Name x p1) X.env) = eval (.Name x p1) X.env := by rfl)
    (hfew : ((backTo cpos (starEach (e :: []) X.env)).all (fun x => !x.1) && (backToKw cpos (keywordEach [] X.env)).all (fun x => x.1.isSome)
      && decide ((e :: []).length + ([] : List Keyword).length + (if ([] : List Keyword).isEmpty then 0 else 1) < 30)) = true := by rfl)
    (hline : (apos.endLine == cpos.line) = true := by rfl) (hs : starEach (e :: []) X.env = (false, eval e X.env) :: starEach [] X.env := by rfl) (hplain : (backTo cpos (starEach [] X.env)).any (·.1) = false := by rfl) :
    QM cl X W (ePop i f) (.Call (.Attribute (.Name x p1) "pop" apos) [e] [] cpos) := by
  have h0 : PE X (.Call (.Attribute (.Name x p1) "pop" apos) [e] [] cpos) _ := pe_bm PySem.F.plainAttrs_list PySem.F.slot_list_pop PySem.F.type_list_pop mt_popAt (pe_var (i := i) hN hv hd hcd) (pa_cons he.pe pa_nil hs) hbase hfew hline hs hplain
  refine ⟨h0.imp fun σ H Q h => ?_⟩
  obtain ⟨F, A, γ, rel, h⟩ := h
  unfold ePop at h
  cases er : RE.pop γ[i]? (f γ) i γ with
  | no => rw [er] at h; exact h.elim
  | er y γ' => exact (pop_ne er).elim
  | ok y γ' =>
    rw [er] at h
    obtain ⟨xs, l, j, zs, hg, hf, hj, hp, rfl⟩ := pop_ok er
    obtain ⟨k, rfl, hy, rfl, hl⟩ := popA_ok hp
    obtain ⟨a, ha, o1, _⟩ := rel.mut1 hg (Ext.refl rel.sub)
    simp only [OwM] at o1
    obtain ⟨a', ea, _, vs, hvs, rv⟩ := o1
    cases ea
    refine ⟨.ref a, ha, .inl ⟨rfl, vs, .inl (.inl hvs)⟩, F, A, γ, rel, ?_⟩
    rw [hf]
    intro F1 H1 w e1 r1
    have rw1 := r1.rv
    rw [hj] at rw1
    have ew := rw1.int
    subst ew
    obtain ⟨b, hb, o1, kk⟩ := rel.mut1 hg e1
    rw [ha] at hb
    cases hb
    simp only [OwM] at o1
    obtain ⟨b, eb, _, us, hus, ru⟩ := o1
    cases eb
    obtain ⟨u, hu, ry⟩ := ru.get hy
    have hk : k < us.length := (List.getElem?_eq_some_iff.mp hu).1
    have hlen := ru.length
    obtain ⟨A2, r2, s2⟩ := kk (.lst (xs.eraseIdx k)) (.lst (us.eraseIdx k)) (by
      simp only [OwM]
      exact ⟨a, rfl, rfl, _, upd_same, ru.eraseIdx k⟩)
    refine ⟨a, us, (k : Int), k, u, rfl, rfl, hus, by omega, by omega, ?_, hu, h F1 A2 _ u s2 r2 ry⟩
    have h0 : ¬ (k : Int) < 0 := by omega
    have h1 : ((k : Int) < (us.length : Int)) := by omega
    unfold seqIndex?
    simp only [h0, if_false, h1, decide_true, Bool.and_true, decide_eq_true_eq, Int.toNat_natCast]
    rw [if_pos (by omega)]
/-- xs.pop() -/
def RE.pop0 (s : Option Sl) (i : Nat) (γ : Env) : RE := match s with
  | some (.sl .ow (.lst xs)) => match xs[xs.length - 1]? with
    | some y => .ok y (γ.set i (.sl .ow (.lst xs.dropLast)))
    | none => .no
  | _ => .no
def ePop0 (i : Nat) : Env → RE := fun γ => RE.pop0 γ[i]? i γ
theorem pop0_ok {s : Option Sl} {i : Nat} {γ γ' : Env} {y : PV} (h : RE.pop0 s i γ = .ok y γ') : ∃ xs, s = some (.sl .ow (.lst xs)) ∧ xs[xs.length - 1]? = some y ∧ γ' = γ.set i (.sl .ow (.lst xs.dropLast)) := by
  unfold RE.pop0 at h
  split at h
  · rename_i xs
    split at h
    · rename_i y' e
      cases h
      exact ⟨xs, rfl, e, rfl⟩
    · cases h
  · cases h
theorem pop0_ne {s : Option Sl} {i : Nat} {γ γ' : Env} {e : Xc} (h : RE.pop0 s i γ = .er e γ') : False := by
  unfold RE.pop0 at h
  split at h
  · split at h <;> cases h
  · cases h
theorem q_pop0 {i : Nat} {x : Str} {p1 apos cpos : Pos} (hN : X.N[i]? = some x := by rfl) (hv : Vis X.env.scope x := by first | exact Or.inl rfl | exact Or.inr (Or.inl rfl) | exact Or.inr (Or.inr rfl))
    (hd : (x == ("__debug__" : Str)) = false := by decide) (hcd : (x == ("__classdict__" : Str)) = false := by decide)
    (hbase : attributeBase (.Name x p1) "pop" X.env (eval (.Name x p1) X.env) = eval (.Name x p1) X.env := by rfl)
    (hline : (apos.endLine == cpos.line) = true := by rfl) :
    QM cl X W (ePop0 i) (.Call (.Attribute (.Name x p1) "pop" apos) [] [] cpos) := by
  have h0 : PE X (.Call (.Attribute (.Name x p1) "pop" apos) [] [] cpos) _ := pe_bm0 PySem.F.plainAttrs_list PySem.F.slot_list_pop PySem.F.type_list_pop mt_pop (pe_var (i := i) hN hv hd hcd) hbase hline
  refine ⟨h0.imp fun σ H Q h => ?_⟩
  obtain ⟨F, A, γ, rel, h⟩ := h
  unfold ePop0 at h
  cases er : RE.pop0 γ[i]? i γ with
  | no => rw [er] at h; exact h.elim
  | er y γ' => exact (pop0_ne er).elim
  | ok y γ' =>
    rw [er] at h
    obtain ⟨xs, hg, hy, rfl⟩ := pop0_ok er
    obtain ⟨a, ha, o1, kk⟩ := rel.mut1 hg (Ext.refl rel.sub)
    simp only [OwM] at o1
    obtain ⟨a', ea, _, us, hus, ru⟩ := o1
    cases ea
    obtain ⟨u, hu, ry⟩ := ru.get hy
    have hlen := ru.length
    obtain ⟨A2, r2, s2⟩ := kk (.lst xs.dropLast) (.lst us.dropLast) (by
      simp only [OwM]
      exact ⟨a, rfl, rfl, _, upd_same, ru.dropLast⟩)
    exact ⟨.ref a, ha, .inl ⟨rfl, us, .inl (.inl hus)⟩, a, us, u, rfl, rfl, hus, by rw [hlen]; exact hu, h F A2 _ u s2 r2 ry⟩
/-! ### [.. for x in ..], the item changing an own thing -/
def unAt (γ : Env) (vs : List Nat) : Bool := vs.all fun j => match γ[j]? with
  | some .un => true
  | _ => false
theorem unAt_iff {γ : Env} {vs : List Nat} : unAt γ vs = true ↔ ∀ j ∈ vs, γ[j]? = some .un := by
  unfold unAt
  rw [List.all_eq_true]
  refine forall_congr' fun j => forall_congr' fun _ => ?_
  cases γ[j]? with
  | none => simp
  | some s => cases s <;> simp
theorem wipeE_un {γ : Env} : ∀ {vs : List Nat}, unAt γ vs = true → wipeE γ vs = γ
  | [], _ => rfl
  | v :: vs, h => by
    have h' := unAt_iff.mp h
    have ih : wipeE γ vs = γ := wipeE_un (unAt_iff.mpr fun j hj => h' j (List.mem_cons_of_mem _ hj))
    unfold wipeE
    rw [ih]
    have := h' v List.mem_cons_self
    obtain ⟨hl, e⟩ := List.getElem?_eq_some_iff.mp this
    rw [← e]; exact List.set_getElem_self hl
theorem wipeE_len (γ : Env) : ∀ vs : List Nat, (wipeE γ vs).length = γ.length
  | [] => rfl
  | v :: vs => by unfold wipeE; rw [List.length_set, wipeE_len γ vs]
theorem unAt_wipe {γ : Env} {vs : List Nat} (h : ∀ j ∈ vs, j < γ.length) : ∀ us : List Nat, (∀ j ∈ us, j ∈ vs) → unAt (wipeE γ us) us = true
  | [], _ => rfl
  | v :: us, hs => by
    refine unAt_iff.mpr fun j hj => ?_
    unfold wipeE
    have hl : v < (wipeE γ us).length := by rw [wipeE_len]; exact h v (hs v List.mem_cons_self)
    by_cases e : v = j
    · subst e; rw [List.getElem?_set_self hl]
    · rw [List.getElem?_set_ne e]
      have := unAt_iff.mp (unAt_wipe h us fun k hk => hs k (List.mem_cons_of_mem _ hk))
      rcases List.mem_cons.mp hj with z | z
      · exact (e z.symm).elim
      · exact this j z
theorem OwE.len {T : Tb} {F H : Hp} : (γ : Env) → ∀ {σ A}, OwE T F H γ σ A → γ.length = σ.length
  | [], σ, A, h => by simp only [OwE] at h; rw [h.1]; rfl
  | .un :: γ, σ, A, h => by
    simp only [OwE] at h
    obtain ⟨w, σ', rfl, h⟩ := h
    simp [OwE.len γ h]
  | .sl m x :: γ, σ, A, h => by
    simp only [OwE] at h
    obtain ⟨v, σ', A1, A2, rfl, rfl, h1, h2⟩ := h
    simp [OwE.len γ h2]
  | .me m x :: γ, σ, A, h => by
    simp only [OwE] at h
    obtain ⟨v, σ', A1, A2, rfl, rfl, h1, h2⟩ := h
    simp [OwE.len γ h2]
theorem OwE.swap {T : Tb} {F H : Hp} : (γ : Env) → ∀ {σ σ' : L2.St} {A}, OwE T F H γ σ A → σ'.length = σ.length → (∀ j : Nat, γ[j]? ≠ some Sl.un → σ'[j]? = σ[j]?) → OwE T F H γ σ' A
  | [], σ, σ', A, h, hl, k => by
    simp only [OwE] at h ⊢
    rw [h.1] at hl
    exact ⟨List.length_eq_zero_iff.mp hl, h.2⟩
  | .un :: γ, σ, σ', A, h, hl, k => by
    simp only [OwE] at h ⊢
    obtain ⟨w, σ0, rfl, h⟩ := h
    cases σ' with
    | nil => simp at hl
    | cons w' σ1 => exact ⟨w', σ1, rfl, OwE.swap γ h (by simpa using hl) fun j hj => by have := k (j + 1) (by simpa using hj); simpa using this⟩
  | .sl m x :: γ, σ, σ', A, h, hl, k => by
    simp only [OwE] at h ⊢
    obtain ⟨v, σ0, A1, A2, rfl, rfl, h1, h2⟩ := h
    cases σ' with
    | nil => simp at hl
    | cons w' σ1 =>
      have e := k 0 (by simp)
      simp at e
      subst e
      exact ⟨v, σ1, A1, A2, rfl, rfl, h1, OwE.swap γ h2 (by simpa using hl) fun j hj => by have := k (j + 1) (by simpa using hj); simpa using this⟩
  | .me m x :: γ, σ, σ', A, h, hl, k => by
    simp only [OwE] at h ⊢
    obtain ⟨v, σ0, A1, A2, rfl, rfl, h1, h2⟩ := h
    cases σ' with
    | nil => simp at hl
    | cons w' σ1 =>
      have e := k 0 (by simp)
      simp at e
      subst e
      exact ⟨v, σ1, A1, A2, rfl, rfl, h1, OwE.swap γ h2 (by simpa using hl) fun j hj => by have := k (j + 1) (by simpa using hj); simpa using this⟩
def lcE (tg : Tg) (f : Env → RE) (vs : List Nat) : List PV → Env → Option (List PV × Env)
  | [], γ => some ([], γ)
  | x :: xs, γ => match tg x γ with
    | none => none
    | some γ1 => match f γ1 with
      | .ok y γ2 => match lcE tg f vs xs (wipeE γ2 vs) with
        | some (ys, γ3) => some (y :: ys, γ3)
        | none => none
      | _ => none
def eLc (it : Env → R (List PV)) (tg : Tg) (f : Env → RE) (vs : List Nat) : Env → RE := fun γ => match it γ with
  | .ok items => if sm items.length && unAt γ vs then (match lcE tg f vs items γ with
    | some (ys, γ') => .ok (.lst ys) γ'
    | none => .no) else .no
  | .er e => .er e γ
  | .no => .no
theorem lcE_split {tg : Tg} {f : Env → RE} {vs : List Nat} {xs : List PV} {i : Nat} {γ γe : Env} {zs : List PV} (h : lcE tg f vs (xs.drop i) γ = some (zs, γe)) {x : PV} (ex : xs[i]? = some x) :
    ∃ γ1 y γ2 zs', tg x γ = some γ1 ∧ f γ1 = .ok y γ2 ∧ lcE tg f vs (xs.drop (i + 1)) (wipeE γ2 vs) = some (zs', γe) ∧ zs = y :: zs' := by
  have hlt : i < xs.length := (List.getElem?_eq_some_iff.mp ex).1
  have hd : xs.drop i = x :: xs.drop (i + 1) := by
    rw [List.drop_eq_getElem_cons hlt, (List.getElem?_eq_some_iff.mp ex).2]
  rw [hd] at h
  simp only [lcE] at h
  cases e1 : tg x γ with
  | none => rw [e1] at h; cases h
  | some γ1 =>
    rw [e1] at h
    dsimp only at h
    cases e2 : f γ1 with
    | no => rw [e2] at h; cases h
    | er a b => rw [e2] at h; cases h
    | ok y γ2 =>
      rw [e2] at h
      dsimp only at h
      cases e3 : lcE tg f vs (xs.drop (i + 1)) (wipeE γ2 vs) with
      | none => rw [e3] at h; cases h
      | some p =>
        obtain ⟨zs', γ3⟩ := p
        rw [e3] at h
        cases h
        exact ⟨γ1, y, γ2, zs', rfl, e2, e3, rfl⟩
theorem lcE_read {K : PySem.W.Frag} {it : Env → R (List PV)} {tg : Tg} {f : Env → RE} {js vs : List Nat} (hj : ∀ j ∈ js, j ∈ vs) {σ : L2.St} {H : Hp} {Q : VK} (h : tqE K cl W (eLc it tg f vs) σ H Q) :
    tLc (tqI K cl W it) (tqGt K cl js tg) (tqT K cl W0 tYesF) (tqE K cl W0 f) vs σ H Q := by
  obtain ⟨F, A, γ, rel, h⟩ := h
  refine ⟨F, A, γ, rel, ?_⟩
  unfold eLc at h
  cases e : it γ with
  | no => rw [e] at h; exact h
  | er x => rw [e] at h; exact fun F' H' c d ex r => h F' A H' c d (Step.ext ex) (rel.ext ex) r
  | ok items =>
    rw [e] at h
    dsimp only at h
    cases es : (sm items.length && unAt γ vs) with
    | false => rw [es] at h; exact h.elim
    | true =>
      rw [es] at h
      simp only [if_true] at h
      rw [Bool.and_eq_true] at es
      obtain ⟨es, hun⟩ := es
      cases el : lcE tg f vs items γ with
      | none => rw [el] at h; exact h.elim
      | some p =>
        obtain ⟨zs, γe⟩ := p
        rw [el] at h
        dsimp only at h
        intro F0 H0 J e0 itok D nD
        have rel0 := rel.ext e0
        obtain ⟨Aw, relw, haw⟩ := rel0.wipe vs
        rw [wipeE_un hun] at relw
        have hlen := sm_le es
        have nDw : D ∉ Aw := fun z => by
          obtain ⟨o, ho⟩ := OwE.dom _ relw.env D z
          rw [nD] at ho; cases ho
        have nF0 : F0 D = none := e0.sub.free nD
        have vlt : ∀ j ∈ vs, j < σ.length := fun j hj => by
          have := (List.getElem?_eq_some_iff.mp (unAt_iff.mp hun j hj)).1
          rwa [OwE.len _ rel.env] at this
        refine ⟨fun i m H1 => m = items.length - i ∧ i ≤ items.length ∧ ∃ F1 A1 γ1 ys acc zs', Step F0 Aw H0 F1 A1 H1 ∧ Rel ⟨K, cl⟩ F1 A1 (wipe σ vs) H1 γ1 ∧ unAt γ1 vs = true ∧ F1 D = none ∧ D ∉ A1 ∧ H1 D = some (.lst acc) ∧ RpL ⟨K, cl⟩ F1 ys acc ∧ ys.length ≤ i ∧
            lcE tg f vs (items.drop i) γ1 = some (zs', γe) ∧ zs = ys ++ zs',
          ⟨items.length, by simp, Nat.zero_le _, F0, Aw, γ, [], [], zs, ⟨Same.refl _, fun a o _ q => by rw [upd_ne (ne_of_none q nD)]; exact q, fun a z => .inl z, fun a o q => .inl q⟩,
            ⟨fun a o q => by rw [upd_ne (ne_of_none (e0.sub a o q) nD)]; exact e0.sub a o q, OwE.mono (Same.refl _) _ relw.env fun a ha o q => by rw [upd_ne (ne_of_none q nD)]; exact q, relw.nd, relw.dis⟩,
            hun, nF0, nDw, upd_same, RpL.nil, Nat.le_refl _, by simpa using el, rfl⟩, ?_⟩
        rintro i m H1 ⟨rfl, hi1, F1, A1, γ1, ys, acc, zs', st1, rel1, hu1, nF1, nD1, hD, ry, hy, hl, hz⟩
        by_cases hlt : i < items.length
        · obtain ⟨x, ex⟩ : ∃ x, items[i]? = some x := ⟨items[i], by simp [hlt]⟩
          obtain ⟨hgo, hyl⟩ := itok.go F1 H1 i x st1.fle rel1.sub ex
          obtain ⟨γ2, y, γ3, zs1, k1, k2, k3, k4⟩ := lcE_split hl ex
          refine .inr ⟨hgo, fun H => ∃ F1 A1 γ1 ys acc zs', Step F0 Aw H0 F1 A1 H ∧ Rel ⟨K, cl⟩ F1 A1 (wipe σ vs) H γ1 ∧ unAt γ1 vs = true ∧ F1 D = none ∧ D ∉ A1 ∧ H D = some (.lst acc) ∧ RpL ⟨K, cl⟩ F1 ys acc ∧ ys.length ≤ i + 1 ∧
            lcE tg f vs (items.drop (i + 1)) γ1 = some (zs', γe) ∧ zs = ys ++ zs', fun H' q => ⟨items.length - (i + 1), by omega, rfl, hlt, q⟩, fun v H2 yl => ?_⟩
          obtain ⟨F2, e2, rx⟩ := hyl v H2 yl
          refine ⟨F2, A1, γ1, x, rel1.ext e2, rx, ?_⟩
          rw [k1]
          intro A3 σ3 rel3 a3 w3
          have ew : wipe σ3 vs = wipe σ vs := by
            rw [w3 _ hj]
            apply List.ext_getElem?
            intro k
            rw [wipe_at (j := 0), wipe_at (j := 0), wipe_length]
            split
            · rfl
            · rfl
          refine ⟨ew, F2, A3, γ2, rel3, ?_⟩
          have nF2 : F2 D = none := by
            cases q : F2 D with
            | none => rfl
            | some o =>
              rcases e2.new D o q with z | z
              · rw [nF1] at z; cases z
              · rw [hD] at z; cases z
          show ∀ F' H', Ext F2 H2 F' H' → _
          intro F3 H3 e3
          have hD3 : H3 D = some (.lst acc) := e3.hle _ _ (e2.hle _ _ hD)
          have nF3 : F3 D = none := by
            cases q : F3 D with
            | none => rfl
            | some o =>
              rcases e3.new D o q with z | z
              · rw [nF2] at z; cases z
              · rw [e2.hle _ _ hD] at z; cases z
          rw [if_pos rfl]
          refine ⟨F3, A3, γ2, rel3.ext e3, ?_⟩
          rw [k2]
          intro F4 A4 H4 w4 st4 rel4 rp4
          have nD3 : D ∉ A3 := fun z => nD1 (a3 D z)
          have hD4 : H4 D = some (.lst acc) := st4.keep D _ nD3 hD3
          have nF4 : F4 D = none := by
            cases q : F4 D with
            | none => rfl
            | some o =>
              rcases st4.new D o q with z | z | z
              · rw [nF3] at z; cases z
              · exact (nD3 z).elim
              · rw [hD3] at z; cases z
          have nD4 : D ∉ A4 := fun z => by
            rcases st4.own D z with q | q
            · exact nD3 q
            · rw [hD3] at q; cases q
          obtain ⟨A5, rel5, h5⟩ := rel4.wipe vs
          rw [ew] at rel5
          have nD5 : D ∉ A5 := fun z => nD4 (h5 D z)
          have ralen := ry.length
          have sH : Step F0 Aw H0 F4 A5 H4 := (((st1.trans ((Step.ext e2).sub (A2 := A3) a3)).trans (Step.ext e3)).trans st4).sub h5
          refine ⟨acc, hD4, by omega, F4, A5, wipeE γ3 vs, ys ++ [y], acc ++ [w4], zs1, ⟨sH.fle, fun a o na q => by rw [upd_ne (ne_of_none q nD)]; exact sH.keep a o na q, sH.own, sH.new⟩,
            ⟨fun a o q => by rw [upd_ne (fun z => by subst z; rw [nF4] at q; cases q)]; exact rel5.sub a o q, OwE.mono (Same.refl _) _ rel5.env fun a ha o q => by rw [upd_ne (fun z : a = D => nD5 (z ▸ ha))]; exact q, rel5.nd, rel5.dis⟩,
            unAt_wipe (fun j hj => by rw [OwE.len _ rel4.env]; have := vlt j hj; rw [← wipe_length σ3 vs, ew, wipe_length]; exact this) vs fun _ h => h, nF4, nD5, upd_same, (RpL.mono ((e2.fle.trans e3.fle).trans st4.fle) _ _ ry).append (RpL.cons rp4 RpL.nil), by simp; omega, k3, by rw [hz, k4]; simp⟩
        · have ei : i = items.length := by omega
          subst ei
          rw [List.drop_length] at hl
          cases hl
          refine .inl ⟨itok.stop F1 H1 st1.fle rel1.sub, ?_⟩
          rw [List.append_nil] at hz
          subst hz
          have d1 : ∀ a ∈ [D], F1 a = none := fun a ha => by rw [List.mem_singleton.mp ha]; exact nF1
          have st : Step F A H F1 A1 H1 := ((Step.ext e0).sub haw).trans st1
          refine h (Z.frz F1 H1 [D]) A1 H1 (.ref D) ⟨st.fle.trans (frz_same d1), st.keep, st.own, fun a o q => ?_⟩ ⟨frz_sub rel1.sub, OwE.swap _ (OwE.mono (frz_same d1) _ rel1.env fun _ _ _ q => q) (by rw [wipe_length]) fun j hj => ?_, rel1.nd, fun a ha => ?_⟩ ?_
          · by_cases z : a = D
            · subst z; exact .inr (.inr (e0.hle.free nD))
            · rw [frz_out (by simpa using z)] at q; exact st.new a o q
          · rw [wipe_at (j := 0)]
            by_cases z : j ∈ vs
            · exact (hj (unAt_iff.mp hu1 j z)).elim
            · rw [if_neg z]
          · have z : a ≠ D := fun z => nD1 (z ▸ ha)
            rw [frz_out (by simpa using z)]
            exact rel1.dis a ha
          · simp only [Rp]
            exact ⟨D, acc, rfl, .inl (frz_at (by simp) hD), RpL.mono (frz_same d1) _ _ ry⟩
theorem q_lcE {it : Env → R (List PV)} {tg : Tg} {f : Env → RE} {js : List Nat} {elt t iter : Expr} {scope : Scope} {own : List (Str × Nat)} {pos : Pos} (hc : X.calm = true) (hN : X.N.Nodup) (ok : BlkOk X.N X.env.scope scope own) (hj : ∀ j ∈ js, j ∈ own.map (·.2)) (hi : QI cl X W it t iter)
    (hg : ∀ (s : Shared) (H : Hp) (C : Addr) (cls : List (Str × Addr)) (fp : List Addr), QG cl (X.blk s H scope (compEnvC scope cls C X.env) fp) js tg t)
    (he : ∀ (s : Shared) (H : Hp) (C : Addr) (cls : List (Str × Addr)) (fp : List Addr), QM cl (X.blk s H scope (compEnvC scope cls C X.env) fp) W0 f elt) (hs : ∀ x, foldedSetIterable iter X.env x = pure x := by intro _; rfl) :
    QM cl X W (eLc it tg f (own.map (·.2))) (.ListComp elt [⟨t, iter, [], 0⟩] scope pos) :=
  ⟨(pe_lc (g := tqGt X.K cl js tg) (tt := tqT X.K cl W0 tYesF) (te := tqE X.K cl W0 f) hc hN hi.pi ok (fun s H C cls fp => (hg s H C cls fp).pg) (fun s H C cls fp => qts_nil.pt) (fun s H C cls fp => (he s H C cls fp).pe) hs).imp fun σ H Q h => lcE_read hj h⟩
/-! ### a test that looks at an own thing as if it were shared -/
def R.noEr {α : Type} (r : R α) : R α := match r with
  | .er _ => .no
  | r => r
@[simp] theorem noEr_ok {α : Type} {a : α} : R.noEr (.ok a) = .ok a := (rfl)
def tFrz (i : Nat) (t : Env → R Bool) : Env → R Bool := fun γ => (t (frzE i γ)).noEr
theorem qt_frz {i : Nat} {t : Env → R Bool} {e : Expr} (h : QT cl X W t e) : QT cl X W (tFrz i t) e := ⟨h.pt.imp fun σ H Q h => by
  obtain ⟨F, A, γ, rel, h⟩ := h
  obtain ⟨F', A', rel', st⟩ := rel.frz (i := i)
  refine ⟨F', A', frzE i γ, rel', ?_⟩
  unfold tFrz at h
  cases e : t (frzE i γ) with
  | no => rw [e] at h; exact h
  | er x => rw [e] at h; exact h.elim
  | ok b =>
    rw [e] at h
    exact fun F2 H2 ex => h F H2 ⟨rel.sub.trans ex.hle, Same.refl _, ex.hle, fun _ _ q => .inl q⟩⟩
/-- the same of a value that is no thing of the heap -/
def isSc : PV → Bool
  | .non => true
  | .bl _ => true
  | .int _ => true
  | .str _ => true
  | _ => false
def xFrz (i : Nat) (f : Ex) : Ex := fun γ => match f (frzE i γ) with
  | .ok l => if isSc l.x then .ok (.z l.x) else .no
  | _ => .no
theorem rp_sc {T : Tb} {F : Hp} {x : PV} {v : V} {H : Hp} (h : isSc x = true) (r : Rv T F H x v) (F' : Hp) : Rp T F' x v := by
  cases x <;> simp [isSc] at h
  · rw [r.non]; simp [Rp]
  · rw [r.bl]; simp [Rp]
  · rw [r.int]; simp [Rp]
  · rw [r.str]; simp [Rp]
theorem q_frz {i : Nat} {f : Ex} {e : Expr} (h : QE cl X W f e) : QE cl X W (xFrz i f) e := ⟨h.pe.imp fun σ H Q h => by
  obtain ⟨F, A, γ, rel, h⟩ := h
  obtain ⟨F', A', rel', st⟩ := rel.frz (i := i)
  refine ⟨F', A', frzE i γ, rel', ?_⟩
  unfold xFrz at h
  cases e : f (frzE i γ) with
  | no => rw [e] at h; exact h
  | er x => rw [e] at h; exact h.elim
  | ok l =>
    rw [e] at h
    dsimp only at h
    cases es : isSc l.x with
    | false => rw [es] at h; exact h.elim
    | true =>
      rw [es] at h
      simp only [if_true] at h
      exact fun F2 H2 v ex r => h F H2 v ⟨rel.sub.trans ex.hle, Same.refl _, ex.hle, fun _ _ q => .inl q⟩ (VlR.zz (rp_sc es r.rv F))⟩
end
/-! ### the first few items -/
@[simp] theorem atI_0 {x0 : PV} {xs : List PV} : L2.atI (x0 :: xs) 0 = some x0 := by
  have := Z.atI_nat (xs := x0 :: xs) (i := 0) (by simp)
  simpa using this
@[simp] theorem atI_1 {x0 x1 : PV} {xs : List PV} : L2.atI (x0 :: x1 :: xs) 1 = some x1 := by
  have := Z.atI_nat (xs := x0 :: x1 :: xs) (i := 1) (by simp)
  simpa using this
@[simp] theorem atI_2 {x0 x1 x2 : PV} {xs : List PV} : L2.atI (x0 :: x1 :: x2 :: xs) 2 = some x2 := by
  have := Z.atI_nat (xs := x0 :: x1 :: x2 :: xs) (i := 2) (by simp)
  simpa using this
@[simp] theorem atI_3 {x0 x1 x2 x3 : PV} {xs : List PV} : L2.atI (x0 :: x1 :: x2 :: x3 :: xs) 3 = some x3 := by
  have := Z.atI_nat (xs := x0 :: x1 :: x2 :: x3 :: xs) (i := 3) (by simp)
  simpa using this
@[simp] theorem atI_4 {x0 x1 x2 x3 x4 : PV} {xs : List PV} : L2.atI (x0 :: x1 :: x2 :: x3 :: x4 :: xs) 4 = some x4 := by
  have := Z.atI_nat (xs := x0 :: x1 :: x2 :: x3 :: x4 :: xs) (i := 4) (by simp)
  simpa using this
@[simp] theorem atI_5 {x0 x1 x2 x3 x4 x5 : PV} {xs : List PV} : L2.atI (x0 :: x1 :: x2 :: x3 :: x4 :: x5 :: xs) 5 = some x5 := by
  have := Z.atI_nat (xs := x0 :: x1 :: x2 :: x3 :: x4 :: x5 :: xs) (i := 5) (by simp)
  simpa using this
@[simp] theorem atI_6 {x0 x1 x2 x3 x4 x5 x6 : PV} {xs : List PV} : L2.atI (x0 :: x1 :: x2 :: x3 :: x4 :: x5 :: x6 :: xs) 6 = some x6 := by
  have := Z.atI_nat (xs := x0 :: x1 :: x2 :: x3 :: x4 :: x5 :: x6 :: xs) (i := 6) (by simp)
  simpa using this
@[simp] theorem atI_7 {x0 x1 x2 x3 x4 x5 x6 x7 : PV} {xs : List PV} : L2.atI (x0 :: x1 :: x2 :: x3 :: x4 :: x5 :: x6 :: x7 :: xs) 7 = some x7 := by
  have := Z.atI_nat (xs := x0 :: x1 :: x2 :: x3 :: x4 :: x5 :: x6 :: x7 :: xs) (i := 7) (by simp)
  simpa using this
@[simp] theorem atI_8 {x0 x1 x2 x3 x4 x5 x6 x7 x8 : PV} {xs : List PV} : L2.atI (x0 :: x1 :: x2 :: x3 :: x4 :: x5 :: x6 :: x7 :: x8 :: xs) 8 = some x8 := by
  have := Z.atI_nat (xs := x0 :: x1 :: x2 :: x3 :: x4 :: x5 :: x6 :: x7 :: x8 :: xs) (i := 8) (by simp)
  simpa using this
/-! ### reckoning -/
@[simp] theorem e_tFrz {i : Nat} {t : Z.Env → R Bool} {γ : Z.Env} : tFrz i t γ = (t (frzE i γ)).noEr := (rfl)
@[simp] theorem e_ePop {i : Nat} {f : Ex} {γ : Z.Env} : ePop i f γ = RE.pop γ[i]? (f γ) i γ := (rfl)
@[simp] theorem pop_fr {xs : List PV} {m : Md} {j : Int} {i : Nat} {γ : Z.Env} : RE.pop (some (.sl .ow (.lst xs))) (.ok (.fr m (.int j))) i γ = (match popA xs j with
  | some (y, zs) => .ok y (γ.set i (.sl .ow (.lst zs)))
  | none => .no) := (rfl)
@[simp] theorem e_ePop0 {i : Nat} {γ : Z.Env} : ePop0 i γ = RE.pop0 γ[i]? i γ := (rfl)
@[simp] theorem pop0_lst {xs : List PV} {i : Nat} {γ : Z.Env} : RE.pop0 (some (.sl .ow (.lst xs))) i γ = (match xs[xs.length - 1]? with
    | some y => .ok y (γ.set i (.sl .ow (.lst xs.dropLast)))
    | none => .no) := (rfl)
theorem popA_nat {xs : List PV} {k : Nat} {y : PV} (h : xs[k]? = some y) (hl : xs.length ≤ 16777216) : popA xs (k : Int) = some (y, xs.eraseIdx k) := by
  unfold popA
  simp [h, hl]
def Os.retE (r : RE) : Os := match r with
  | .ok r γ' => .rt r γ'
  | .er e γ' => .er e γ'
  | .no => .no
@[simp] theorem retE_ok {r : PV} {γ : Z.Env} : Os.retE (.ok r γ) = .rt r γ := (rfl)
@[simp] theorem retE_er {e : Xc} {γ : Z.Env} : Os.retE (.er e γ) = .er e γ := (rfl)
@[simp] theorem e_sRetE {f : Z.Env → RE} {γ : Z.Env} : sRetE f γ = Os.retE (f γ) := by unfold sRetE Os.retE; cases f γ <;> rfl
def RE.lc (r : R (List PV)) (tg : Tg) (f : Z.Env → RE) (vs : List Nat) (γ : Z.Env) : RE := match r with
  | .ok items => if decide (items.length ≤ 16777216) && unAt γ vs then (match lcE tg f vs items γ with
    | some (ys, γ') => .ok (.lst ys) γ'
    | none => .no) else .no
  | .er e => .er e γ
  | .no => .no
theorem e_eLc {it : Z.Env → R (List PV)} {tg : Tg} {f : Z.Env → RE} {vs : List Nat} {γ : Z.Env} : eLc it tg f vs γ = RE.lc (it γ) tg f vs γ := by
  unfold eLc RE.lc
  cases it γ <;> simp
@[simp] theorem lc_ok {items : List PV} {tg : Tg} {f : Z.Env → RE} {vs : List Nat} {γ : Z.Env} : RE.lc (.ok items) tg f vs γ = if decide (items.length ≤ 16777216) && unAt γ vs then (match lcE tg f vs items γ with
    | some (ys, γ') => .ok (.lst ys) γ'
    | none => .no) else .no := (rfl)
end Z
/-! the pure layer: arguments by their names, defaults -/
namespace Z
open PySem L2 PySem.Spec PyProof.Rows
section
variable {X : Cx} {cl : Cl} {W : WX}
/-- the values of written keywords, kept -/
structure QKw (cl : Cl) (X : Cx) (W : WX) (f : Env → R (List PV)) (kws : List Keyword) : Prop where
  pk : PK X kws (tqZ X.K cl W f)
theorem _root_.L2.PK.imp {X : Cx} {kws : List Keyword} {t t' : TA} (h : PK X kws t) (k : ∀ σ H Q, t' σ H Q → t σ H Q) : PK X kws t' := ⟨fun pos pins s σ H Q I q => h.run pos pins s σ H Q I (k σ H Q q)⟩
theorem qk_nil : QKw cl X W aNil [] := ⟨pk_nil.imp fun σ H Q h => by
  obtain ⟨F, A, γ, rel, h⟩ := h
  exact h F H [] (Ext.refl rel.sub) RpL.nil⟩
theorem qk_cons {f fs} {nm : Option Str} {kpos : Pos} {e : Expr} {kws : List Keyword} (he : QE cl X W f e) (ht : QKw cl X W fs kws) : QKw cl X W (zCons f fs) (⟨nm, e, kpos⟩ :: kws) := by
  refine ⟨(pk_cons he.pe ht.pk).imp fun σ H Q h => ?_⟩
  obtain ⟨F, A, γ, rel, h⟩ := h
  refine ⟨F, A, γ, rel, ?_⟩
  unfold zCons at h
  cases q : f γ with
  | no => rw [q] at h; exact h
  | er x => rw [q] at h; exact h
  | ok l =>
    rw [q] at h
    simp only [R.bind_ok] at h
    intro F1 H1 v e1 r1
    cases ek : l.keep with
    | no => rw [ek] at h; exact h.elim
    | er x => exact (l.keep_ne _ ek).elim
    | ok x =>
      rw [ek] at h
      simp only [R.bind_ok] at h
      obtain ⟨F2, e2, s2, rx⟩ := keep_ok r1 e1 ek
      refine ⟨F2, A, γ, rel.ext e2, ?_⟩
      cases q' : fs γ with
      | no => rw [q'] at h; exact h
      | er x => rw [q'] at h; exact fun F' H' c d ex => h F' H' c d (e2.trans ex)
      | ok xs =>
        rw [q'] at h
        simp only [R.bind_ok] at h
        intro F3 H3 vs e3 r3
        exact h F3 H3 (v :: vs) (e2.trans e3) (RpL.cons (rx.mono e3.fle) r3)
/-- C(e, .., k = v, ..): n arguments by their places, m by their names; the names stand behind -/
def xMakeK (kk : RM → R Vl) (c : String) (g : MF) (n m : Nat) (fs ks : Env → R (List PV)) : Ex := fun γ => (fs γ).bind fun xs => (ks γ).bind fun zs => if xs.length = n ∧ zs.length = m then kk (g (.ob []) (.obj c []) (xs ++ zs)) else .no
theorem tq_makeK {c : String} {C : Addr} {g : MF} {n m : Nat} {fs ks : Env → R (List PV)} {kk : RM → R Vl} {E : L2.St → XK} (hc : cl.i c = some C) {σ : L2.St} {H : Hp} {Q : VK}
    (hk : ∀ r : RM, match r with
      | .ok .non m x => kk r = .ok (.fr m x)
      | .ok _ _ _ => kk r = .no
      | .er e _ _ => kk r = .no ∨ (kk r = .er e ∧ ∀ c d H, W c d σ H → E σ c d H)
      | .no => kk r = .no)
    (h : tq X.K cl W (xMakeK kk c g n m fs ks) σ H Q) : tMkKG C n m (spM X.K cl g) (fun vs zs => vs ++ zs) E (tqZ X.K cl W fs) (tqZ X.K cl W ks) σ H Q := by
  obtain ⟨F, A, γ, rel, h⟩ := h
  refine ⟨F, A, γ, rel, ?_⟩
  unfold xMakeK at h
  cases e : fs γ with
  | no => rw [e] at h; exact h
  | er x => rw [e] at h; exact h
  | ok xs =>
    rw [e] at h
    simp only [R.bind_ok] at h
    intro F1 H1 vs e1 r1
    refine ⟨F1, A, γ, rel.ext e1, ?_⟩
    cases e' : ks γ with
    | no => rw [e'] at h; exact h
    | er x => rw [e'] at h; exact fun F' H' c d ex => h F' H' c d (e1.trans ex)
    | ok zs =>
      rw [e'] at h
      simp only [R.bind_ok] at h
      intro F2 H2 ws e2 r2
      by_cases hl : xs.length = n ∧ zs.length = m
      · rw [if_pos hl] at h
        exact ⟨r1.length.trans hl.1, r2.length.trans hl.2, make_sp (W := W) hc (e1.trans e2) ((RpL.mono e2.fle _ _ r1).append r2) hk h⟩
      · rw [if_neg hl] at h; exact h.elim
/-- an own class whose __init__ has parameters with defaults -/
structure MkD (K : PySem.W.Frag) (mg : Str → Option Value) (cl : Cl) (c : String) (qual : Str) (st : Stmt) (ps : List Str) (n : Nat) (ks : List Str) (dv : List V) (C a : Addr) (fd : FuncData) (ds : List Value) : Prop where
  mks : Mk K C a
  mgx : mg (PySem.Str.ofString c) = some (.ref C)
  ci : cl.i c = some C
  fn : FnAt K "__init__" qual st a fd
  bd : L2.Binds K fd ps ds
  vl : Vals dv ds
  kb : KBn K fd ps (n + 1) ks (fun us ws => us ++ ws) (fun vs zs => vs ++ zs)
/-- .. as the call asks -/
structure MakK (X : Cx) (cl : Cl) (x : Str) (c : String) (g : MF) (n : Nat) (ks : List Str) : Prop where
  ex : ∃ (k : Nat) (f C : Addr) (fd : FuncData) (ps : List Str), Mk X.K C f ∧ FnG X.prog X.w X.K X.mg X.base k f fd ps (spM X.K cl g) ∧ Room (k + 1) X.A ∧ X.mg x = some (.ref C) ∧ cl.i c = some C ∧ KBn X.K fd ps (n + 1) ks (fun us ws => us ++ ws) (fun vs zs => vs ++ zs)
variable {x : Str} {c : String} {g : MF} {n : Nat} {fs fk : Env → R (List PV)} {e : Expr} {es : List Expr} {kws : List Keyword} {ks : List Str} {p pos : Pos}
theorem q_makeKN (M : MakK X cl x c g n ks) (hG : X.A.guards = some []) (ha : QZ cl X W fs (e :: es)) (hkw : QKw cl X W fk kws) (hg : Gl X x := by rfl)
    (hall : (backToKw pos (keywordEach kws X.env)).all (·.1.isSome) = true := by rfl) (hks : (backToKw pos (keywordEach kws X.env)).filterMap (·.1) = ks := by rfl)
    (hdb : (x == ("__debug__" : Str)) = false := by decide) (he : starEach (e :: es) X.env = (false, eval e X.env) :: starEach es X.env := by rfl)
    (hpl : ((backTo pos (starEach (e :: es) X.env)).any (·.1) || (backToKw pos (keywordEach kws X.env)).any (·.1.isNone)) = false := by rfl) :
    QE cl X W (xMakeK mkV0 c g n ks.length fs fk) (.Call (.Name x p) (e :: es) kws pos) := by
  obtain ⟨k, f, C, fd, ps, M, F, hr, hm, hc, hb⟩ := M.ex
  exact ⟨(pe_makeKG M F hr hG hg hm hb pas0 ha.pa hkw.pk hall hks hdb he hpl).imp fun σ H Q h => tq_makeK hc hkV0 h⟩
theorem q_makeKX (tk : Takes X W) (M : MakK X cl x c g n ks) (hG : X.A.guards = some []) (ha : QZ cl X W fs (e :: es)) (hkw : QKw cl X W fk kws) (hg : Gl X x := by rfl)
    (hall : (backToKw pos (keywordEach kws X.env)).all (·.1.isSome) = true := by rfl) (hks : (backToKw pos (keywordEach kws X.env)).filterMap (·.1) = ks := by rfl)
    (hdb : (x == ("__debug__" : Str)) = false := by decide) (he : starEach (e :: es) X.env = (false, eval e X.env) :: starEach es X.env := by rfl)
    (hpl : ((backTo pos (starEach (e :: es) X.env)).any (·.1) || (backToKw pos (keywordEach kws X.env)).any (·.1.isNone)) = false := by rfl) :
    QE cl X W (xMakeK mkV c g n ks.length fs fk) (.Call (.Name x p) (e :: es) kws pos) := by
  obtain ⟨k, f, C, fd, ps, M, F, hr, hm, hc, hb⟩ := M.ex
  exact ⟨(pe_makeKG M F hr hG hg hm hb (fun σ => passAt tk σ) ha.pa hkw.pk hall hks hdb he hpl).imp fun σ H Q h => tq_makeK hc hkV h⟩
end
/-! ### in a module's tuple -/
structure ConT (K : PySem.W.Frag) (mg : Str → Option Value) (x : Str) (vs : List V) : Prop where
  ex : ∃ (a : Addr) (od : Option Addr) (its : Array Value) (n : Nat) (sl : Array (Option Value)), mg x = some (.ref a) ∧ K.lookup a = some ⟨.type "tuple", od, .seq its n, sl⟩ ∧ Vals vs its.toList
section
variable {X : Cx} {cl : Cl} {W : WX}
def inK (neg : Bool) (ns : List PV) (x : PV) : R Vl := match isFl x with
  | true => .ok (.z (.bl (if neg then !(ns.any fun z => peq z x) else ns.any fun z => peq z x)))
  | false => .no
def xInK (neg : Bool) (ns : List PV) (f : Ex) : Ex := fun γ => (f γ).bind fun l => inK neg ns l.x
theorem tq_inK {neg : Bool} {ns : List PV} {vs : List V} {f : Ex} {a : Addr} (rs : ∀ F, RpL ⟨X.K, cl⟩ F ns vs) (fl : ns.all isFl = true) (sq : ∀ H, SqT X.K H a vs) {σ : L2.St} {H : Hp} {Q : VK} (h : tq X.K cl W (xInK neg ns f) σ H Q) :
    tOp (rIn X.K neg) (tq X.K cl W f) (tC (.ref a)) σ H Q := by
  obtain ⟨F, A, γ, rel, h⟩ := h
  refine ⟨F, A, γ, rel, ?_⟩
  unfold xInK at h
  cases e : f γ with
  | no => rw [e] at h; exact h
  | er x => rw [e] at h; exact h
  | ok l =>
    rw [e] at h
    simp only [R.bind_ok] at h
    intro F1 H1 v e1 r1
    unfold inK at h
    cases ef : isFl l.x with
    | false => rw [ef] at h; exact h.elim
    | true =>
      rw [ef] at h
      dsimp only at h
      have rv := rv_fl r1.rv ef
      obtain ⟨q1, q2⟩ := rpL_fl rv ef (rs F1) fl
      refine ⟨a, vs, rfl, .inr (sq H1), rp_fl rv ef, q1, ?_⟩
      rw [q2]
      exact h F1 H1 _ e1 (VlR.zz (by simp [Rp]))
theorem sq_con {K : PySem.W.Frag} {a : Addr} {od : Option Addr} {its : Array Value} {n : Nat} {sl : Array (Option Value)} {vs : List V} (l : K.lookup a = some ⟨.type "tuple", od, .seq its n, sl⟩) (v : Vals vs its.toList) (hs : vs.length ≤ 1000) : ∀ H, SqT K H a vs := fun H =>
  .inr ⟨_, its, n, l, rfl, rfl, by have h1 := v.length; have h2 : its.toList.length = its.size := Array.length_toList; have h3 := sizeLine_eq; omega, v⟩
theorem q_inC {x : Str} {ns : List PV} {vs : List V} {f} {a : Expr} {p pos : Pos} (C : ConT X.K X.mg x vs) (rs : ∀ F, RpL ⟨X.K, cl⟩ F ns vs) (fl : ns.all isFl = true) (hs : vs.length ≤ 1000) (ha : QE cl X W f a) (hg : Gl X x := by rfl) (hdb : (x == ("__debug__" : Str)) = false := by decide) (hm : behindInMarks .In (.Name x p) = false := by rfl) : QE cl X W (xInK false ns f) (.Compare a [.In] [.Name x p] pos) := by
  obtain ⟨b, od, its, n, sl, h1, h2, h3⟩ := C.ex
  exact ⟨(pe_cmpR op_in_seq ha.pe (pe_glob (v := .ref b) hg h1 rfl hdb) hm).imp fun σ H Q h => tq_inK rs fl (sq_con h2 h3 hs) h⟩
theorem q_notInC {x : Str} {ns : List PV} {vs : List V} {f} {a : Expr} {p pos : Pos} (C : ConT X.K X.mg x vs) (rs : ∀ F, RpL ⟨X.K, cl⟩ F ns vs) (fl : ns.all isFl = true) (hs : vs.length ≤ 1000) (ha : QE cl X W f a) (hg : Gl X x := by rfl) (hdb : (x == ("__debug__" : Str)) = false := by decide) (hm : behindInMarks .NotIn (.Name x p) = false := by rfl) : QE cl X W (xInK true ns f) (.Compare a [.NotIn] [.Name x p] pos) := by
  obtain ⟨b, od, its, n, sl, h1, h2, h3⟩ := C.ex
  exact ⟨(pe_cmpR op_notIn_seq ha.pe (pe_glob (v := .ref b) hg h1 rfl hdb) hm).imp fun σ H Q h => tq_inK rs fl (sq_con h2 h3 hs) h⟩
end
@[simp] theorem e_xInK {neg : Bool} {ns : List PV} {f : Ex} {γ : Z.Env} : xInK neg ns f γ = (f γ).bind fun l => inK neg ns l.x := (rfl)
@[simp] theorem inK_int {neg : Bool} {ns : List PV} {i : Int} : inK neg ns (.int i) = .ok (.z (.bl (if neg then !(ns.any fun z => peq z (.int i)) else ns.any fun z => peq z (.int i)))) := (rfl)
@[simp] theorem inK_str {neg : Bool} {ns : List PV} {i : Str} : inK neg ns (.str i) = .ok (.z (.bl (if neg then !(ns.any fun z => peq z (.str i)) else ns.any fun z => peq z (.str i)))) := (rfl)
/-! ### reckoning -/
@[simp] theorem e_xMakeK {kk : RM → R Vl} {c : String} {g : MF} {n m : Nat} {fs ks : Z.Env → R (List PV)} {γ : Z.Env} : xMakeK kk c g n m fs ks γ = (fs γ).bind fun xs => (ks γ).bind fun zs => if xs.length = n ∧ zs.length = m then kk (g (.ob []) (.obj c []) (xs ++ zs)) else .no := (rfl)
@[simp] theorem e_zDf {fs : Z.Env → R (List PV)} {ds : List PV} {γ : Z.Env} : zDf fs ds γ = (fs γ).bind fun xs => .ok (xs ++ ds) := (rfl)
end Z
section
set_option maxHeartbeats 4000000
namespace K08
open PySem L2 Z
def top (i : Nat) : Stmt := PySem.Challenge.pw_twofree_k08_tables_made_or_not.main.body.getD i (.Pass ⟨0, 0, 0, 0⟩)
abbrev s__law_numbers : Stmt := top 21
abbrev N__law_numbers : List Str := ["_law_cell", "_law_salt", "_law_sizes", "_law_number", "_law_left", "_law_found", "_law_k", "_law_one"]
theorem sc__law_numbers : FnScope N__law_numbers ["_law_cell", "_law_salt", "_law_sizes"] (defScope s__law_numbers) := ⟨rfl, rfl, rfl, by decide +kernel, rfl, by decide +kernel, by decide +kernel⟩
abbrev b__law_numbers_0 : Z.Env → Os := sIf (tAndF (xT (x2 (pb pGe) (xVar 3) (x2 pPow (xC (.int 10)) (xC (.int 18))))) (xT (x2 (pb pGt) (xVar 4) (xC (.int 0))))) (sSeq (sApp 5 (zCons (x2 pMod (xVar 4) (x2 pIx (xVar 2) (xVar 6))) (aNil))) (sSet 4 (x2 pDiv (xVar 4) (x2 pIx (xVar 2) (xVar 6))))) (sSeq (sSet 7 (x2 pMod (x2 pPow (x2 pAdd (x2 pAdd (x2 pMod (xVar 3) (xC (.int 2147483629))) (x2 pMul (xC (.int 7919)) (xVar 1))) (xC (.int 1))) (xC (.int 3))) (xC (.int 2147483647)))) (sSeq (sSet 7 (x2 pMod (x2 pMul (x2 pAdd (xVar 7) (x2 pMul (xC (.int 104729)) (x2 pAdd (xVar 6) (xC (.int 1))))) (x2 pAdd (xVar 6) (xC (.int 3)))) (xC (.int 2147483629)))) (sSeq (sSet 7 (x2 pMod (x2 pMul (x2 pMod (x2 pPow (xVar 7) (xC (.int 5))) (xC (.int 2147483647))) (xC (.int 48271))) (xC (.int 2147483629)))) (sApp 5 (zCons (x2 pMod (x2 pDiv (xVar 7) (xC (.int 16))) (x2 pIx (xVar 2) (xVar 6))) (aNil))))))
abbrev m__law_numbers : Z.Env → Os := sSeq (sSet 3 (xB pMax2 (aCons (xVar 0) (aCons (x2 pSub (x1 pNeg (xC (.int 1))) (xVar 0)) (aNil))))) (sSeq (sSet 4 (xVar 3)) (sSeq (sSet 5 (xLst (aNil))) (sSeq (sFor (iRng (aCons (xB pLen (aCons (xVar 2) (aNil))) (aNil))) (tgN 6) b__law_numbers_0) (sRet (xVar 5)))))
def f__law_numbers : List PV → R PV := run 3 8 m__law_numbers
theorem e__law_numbers : f__law_numbers = run 3 8 m__law_numbers := rfl
abbrev s__law_table : Stmt := top 24
abbrev N__law_table : List Str := ["_law_digits", "_law_modulus", "_law_wide", "_law_some", "_law_k", "_law_at"]
theorem sc__law_table : FnScope N__law_table ["_law_digits"] (defScope s__law_table) := ⟨rfl, rfl, rfl, by decide +kernel, rfl, by decide +kernel, by decide +kernel⟩
abbrev l__law_table_0 : Ex := x2 pMod (x2 pIx (xVar 3) (x2 pAdd (x2 pMul (xVar 2) (xVar 4)) (xVar 5))) (xVar 1)
abbrev l__law_table_1 : Ex := xLc (iRng (aCons (xVar 2) (aNil))) (tgN 5) (tYesF) (l__law_table_0) [5]
abbrev m__law_table : Z.Env → Os := sSeq (sSet 1 (x2 pIx (xLst (zCons (xC (.int 2)) (zCons (xC (.int 3)) (zCons (xC (.int 5)) (zCons (xC (.int 7)) (aNil)))))) (x2 pIx (xVar 0) (xC (.int 0))))) (sSeq (sSet 2 (x2 pIx (xVar 0) (xC (.int 2)))) (sSeq (sSet 3 (xSl (xVar 0) (xP (xC (.int 9))) (xNoP))) (sRet (xTup (zCons (xLc (iRng (aCons (x2 pIx (xVar 0) (xC (.int 1))) (aNil))) (tgN 4) (tYesF) (l__law_table_1) [4]) (zCons (xVar 1) (aNil)))))))
def f__law_table : List PV → R PV := run 1 6 m__law_table
theorem e__law_table : f__law_table = run 1 6 m__law_table := rfl
abbrev s__law_odd_number : Stmt := top 22
abbrev N__law_odd_number : List Str := ["_law_digit", "_law_some"]
theorem sc__law_odd_number : FnScope N__law_odd_number ["_law_digit"] (defScope s__law_odd_number) := ⟨rfl, rfl, rfl, by decide +kernel, rfl, by decide +kernel, by decide +kernel⟩
abbrev m__law_odd_number : Z.Env → Os := sSeq (sSet 1 (xLst (zCons (xC .non) (zCons (xC (.bl true)) (zCons (xC (.bl false)) (zCons (x1 pNeg (xC (.int 1))) (zCons (xC (.int 0)) (zCons (xC (.int 1)) (zCons (xC (.int 2)) (zCons (xC (.int 4)) (zCons (xC (.int 9)) (zCons (xC (.int 12)) (zCons (xC (.int 13)) (zCons (xC (.int 17)) (zCons (xC (.str "1")) (zCons (xLst (zCons (xC (.int 1)) (aNil))) (zCons (xTup (zCons (xC (.int 1)) (aNil))) (zCons (xDct false) (zCons (x2 pPow (xC (.int 10)) (xC (.int 40))) (zCons (xTup (aNil)) (aNil))))))))))))))))))))) (sRet (x2 pIx (xVar 1) (x2 pMod (xVar 0) (xC (.int 18)))))
def f__law_odd_number : List PV → R PV := run 1 2 m__law_odd_number
theorem e__law_odd_number : f__law_odd_number = run 1 2 m__law_odd_number := rfl
abbrev s__law_spoilt : Stmt := top 25
abbrev N__law_spoilt : List Str := ["_law_table_here", "_law_modulus", "_law_digits", "_law_odd", "_law_at", "_law_row", "_law_place", "_law_rows", "_law_way"]
theorem sc__law_spoilt : FnScope N__law_spoilt ["_law_table_here", "_law_modulus", "_law_digits"] (defScope s__law_spoilt) := ⟨rfl, rfl, rfl, by decide +kernel, rfl, by decide +kernel, by decide +kernel⟩
abbrev m__law_spoilt : Z.Env → Os := sSeq (sSet 3 (xCall0 f__law_odd_number (zCons (x2 pIx (xVar 2) (xC (.int 3))) (aNil)))) (sSeq (sSet 4 (x2 pMod (x2 pIx (xVar 2) (xC (.int 4))) (xB pMax2 (aCons (xC (.int 1)) (aCons (xB pLen (aCons (xVar 0) (aNil))) (aNil)))))) (sSeq (sSet 5 (x2 pIx (x2 pAdd (xVar 0) (xLst (zCons (xLst (aNil)) (aNil)))) (xVar 4))) (sSeq (sSet 6 (x2 pMod (x2 pIx (xVar 2) (xC (.int 5))) (x2 pAdd (xB pLen (aCons (xVar 5) (aNil))) (xC (.int 1))))) (sSeq (sSet 7 (xLst (zCons (x2 pAdd (x2 pAdd (xSl (xVar 5) (xNoP) (xP (xVar 6))) (xLst (zCons (xVar 3) (aNil)))) (xSl (xVar 5) (xP (x2 pAdd (xVar 6) (xC (.int 1)))) (xNoP))) (zCons (x2 pAdd (xVar 5) (xLst (zCons (xC (.int 0)) (aNil)))) (zCons (xSl (xVar 5) (xP (xC (.int 1))) (xNoP)) (zCons (xB pTup (aCons (xVar 5) (aNil))) (zCons (xVar 3) (zCons (xLst (zCons (xVar 3) (aNil))) (aNil))))))))) (sSeq (sApp 7 (zCons (x2 pAdd (xVar 5) (xRep (xLst (zCons (xC (.int 0)) (aNil))) (x2 pSub (xC (.int 9)) (xB pLen (aCons (xVar 5) (aNil)))))) (aNil))) (sSeq (sSet 8 (x2 pIx (xVar 2) (xC (.int 6)))) (sSeq (sIf (xT (x2 (pb pLt) (xVar 8) (xC (.int 7)))) (sRet (xLst (zCons (x2 pAdd (x2 pAdd (xSl (xVar 0) (xNoP) (xP (xVar 4))) (xLst (zCons (x2 pIx (xVar 7) (xVar 8)) (aNil)))) (xSl (xVar 0) (xP (x2 pAdd (xVar 4) (xC (.int 1)))) (xNoP))) (zCons (xVar 1) (aNil))))) (sNx)) (sSeq (sIf (xT (x2 (pb pLt) (xVar 8) (xC (.int 10)))) (sRet (xLst (zCons (xVar 0) (zCons (xVar 3) (aNil))))) (sNx)) (sSeq (sIf (xT (x2 (pb pLt) (xVar 8) (xC (.int 13)))) (sRet (xLst (zCons (xSl (x2 pAdd (xVar 0) (xRep (xLst (zCons (xVar 5) (aNil))) (xC (.int 18)))) (xNoP) (xP (x2 pAdd (xC (.int 6)) (xVar 8)))) (zCons (xVar 1) (aNil))))) (sNx)) (sRet (x2 pIx (xLst (zCons (xLst (zCons (xB pTup (aCons (xVar 0) (aNil))) (zCons (xVar 1) (aNil)))) (zCons (xLst (zCons (xVar 3) (zCons (xVar 1) (aNil)))) (zCons (xLst (zCons (xLst (zCons (xVar 0) (aNil))) (zCons (xVar 1) (aNil)))) (zCons (xLst (zCons (x2 pAdd (xVar 0) (xSl (xVar 0) (xNoP) (xP (xC (.int 1))))) (zCons (xVar 1) (aNil)))) (aNil)))))) (x2 pSub (xVar 8) (xC (.int 13))))))))))))))
def f__law_spoilt : List PV → R PV := run 3 9 m__law_spoilt
theorem e__law_spoilt : f__law_spoilt = run 3 9 m__law_spoilt := rfl
abbrev s__law_no_rule : Stmt := top 23
abbrev N__law_no_rule : List Str := ["_law_made"]
theorem sc__law_no_rule : FnScope N__law_no_rule ["_law_made"] (defScope s__law_no_rule) := ⟨rfl, rfl, rfl, by decide +kernel, rfl, by decide +kernel, by decide +kernel⟩
abbrev m__law_no_rule : Z.Env → Os := sSeq (sIf (tOrF (tNotF (xT (xIs (isC ["NoRule"]) (xVar 0)))) (xT (xIs (fun x => [isC [], isC []].any fun g => g x) (xVar 0)))) (sRet (xLst (zCons (xC (.str "another")) (aNil)))) (sNx)) (sRet (xLst (zCons (xFldX "part" (xVar 0)) (zCons (xB pReprL (aCons (xFldX "number" (xVar 0)) (aNil))) (aNil)))))
def f__law_no_rule : List PV → R PV := run 1 1 m__law_no_rule
theorem e__law_no_rule : f__law_no_rule = run 1 1 m__law_no_rule := rfl
abbrev s_NoRule__init : Stmt := clsSt (top 4) 0
abbrev N_NoRule__init : List Str := ["self", "part", "number"]
theorem sc_NoRule__init : FnScope N_NoRule__init ["self", "part", "number"] (defScope s_NoRule__init) := ⟨rfl, rfl, rfl, by decide +kernel, rfl, by decide +kernel, by decide +kernel⟩
abbrev s_look_at_list : Stmt := top 11
abbrev N_look_at_list : List Str := ["part", "thing"]
theorem sc_look_at_list : FnScope N_look_at_list ["part", "thing"] (defScope s_look_at_list) := ⟨rfl, rfl, rfl, by decide +kernel, rfl, by decide +kernel, by decide +kernel⟩
abbrev m_look_at_list : Z.Env → Os := sIf (tOrF (tNotF (xT (xIsi "list" (xVar 1)))) (xT (x2 (pb pGt) (xB pLen (aCons (xVar 1) (aNil))) (xC (.int 16))))) (sRse "NoRule" 2 (fun xs => [("number", xs[1]?.getD .non), ("part", xs[0]?.getD .non)]) (zCons (xVar 0) (zCons (xC .non) (aNil)))) (sNx)
def f_look_at_list : List PV → R PV := run 2 2 m_look_at_list
theorem e_look_at_list : f_look_at_list = run 2 2 m_look_at_list := rfl
abbrev s_is_whole : Stmt := top 7
abbrev N_is_whole : List Str := ["thing"]
theorem sc_is_whole : FnScope N_is_whole ["thing"] (defScope s_is_whole) := ⟨rfl, rfl, rfl, by decide +kernel, rfl, by decide +kernel, by decide +kernel⟩
abbrev m_is_whole : Z.Env → Os := sRet (xAnd (xIsi "int" (xVar 0)) (xNot (xIsi "bool" (xVar 0))))
def f_is_whole : List PV → R PV := run 1 1 m_is_whole
theorem e_is_whole : f_is_whole = run 1 1 m_is_whole := rfl
abbrev s_is_within : Stmt := top 8
abbrev N_is_within : List Str := ["thing", "least", "most"]
theorem sc_is_within : FnScope N_is_within ["thing", "least", "most"] (defScope s_is_within) := ⟨rfl, rfl, rfl, by decide +kernel, rfl, by decide +kernel, by decide +kernel⟩
abbrev m_is_within : Z.Env → Os := sRet (xAnd (xCall0 f_is_whole (zCons (xVar 0) (aNil))) (xChain pLe pLe (xVar 1) (xVar 0) (xVar 2)))
def f_is_within : List PV → R PV := run 3 3 m_is_within
theorem e_is_within : f_is_within = run 3 3 m_is_within := rfl
abbrev s_is_row : Stmt := top 16
abbrev N_is_row : List Str := ["prime", "thing", "wide", "number"]
theorem sc_is_row : FnScope N_is_row ["prime", "thing", "wide"] (defScope s_is_row) := ⟨rfl, rfl, rfl, by decide +kernel, rfl, by decide +kernel, by decide +kernel⟩
abbrev l_is_row_0 : Ex := xCall0 f_is_within (zCons (xVar 3) (zCons (xC (.int 0)) (zCons (x2 pSub (xVar 0) (xC (.int 1))) (aNil))))
abbrev m_is_row : Z.Env → Os := sSeq (sIf (tOrF (tNotF (xT (xIsi "list" (xVar 1)))) (tOrF (xT (x2 (pb pGt) (xB pLen (aCons (xVar 1) (aNil))) (xC (.int 8)))) (tAndF (xT (xNotN (xVar 2))) (xT (x2 (pb pNe) (xB pLen (aCons (xVar 1) (aNil))) (xVar 2)))))) (sRet (xC (.bl false))) (sNx)) (sRet (xB pAll (aCons (xLc (iSeq (xVar 1)) (tgN 3) (tYesF) (l_is_row_0) [3]) (aNil))))
def f_is_row : List PV → R PV := run 3 4 m_is_row
theorem e_is_row : f_is_row = run 3 4 m_is_row := rfl
abbrev s_look_at_table : Stmt := top 17
abbrev N_look_at_table : List Str := ["prime", "table", "wide", "number", "row"]
theorem sc_look_at_table : FnScope N_look_at_table ["prime", "table"] (defScope s_look_at_table) := ⟨rfl, rfl, rfl, by decide +kernel, rfl, by decide +kernel, by decide +kernel⟩
abbrev b_look_at_table_0 : Z.Env → Os := sSeq (sIf (tNotF (xT (xCall0 f_is_row (zCons (xVar 0) (zCons (xVar 4) (zCons (xVar 2) (aNil))))))) (sRse "NoRule" 2 (fun xs => [("number", xs[1]?.getD .non), ("part", xs[0]?.getD .non)]) (zCons (xC (.str "table")) (zCons (xVar 3) (aNil)))) (sNx)) (sSet 2 (xB pLen (aCons (xVar 4) (aNil))))
abbrev m_look_at_table : Z.Env → Os := sSeq (sEx (xCall f_look_at_list (zCons (xC (.str "table")) (zCons (xVar 1) (aNil))))) (sSeq (sSet 2 (xC .non)) (sFor (iEnu (xVar 1)) (tgT (tgCons (tgN 3) (tgCons (tgN 4) (tgNil)))) b_look_at_table_0))
def f_look_at_table : List PV → R PV := run 2 5 m_look_at_table
theorem e_look_at_table : f_look_at_table = run 2 5 m_look_at_table := rfl
abbrev s_Rule__init : Stmt := clsSt (top 12) 0
abbrev N_Rule__init : List Str := ["self", "many"]
theorem sc_Rule__init : FnScope N_Rule__init ["self", "many"] (defScope s_Rule__init) := ⟨rfl, rfl, rfl, by decide +kernel, rfl, by decide +kernel, by decide +kernel⟩
abbrev m_Rule__init : Z.Env → Os := sFst "own_things" (xTupR (r1 (xVar 1)))
def f_Rule__init : MF := runM 2 2 m_Rule__init
theorem e_Rule__init : f_Rule__init = runM 2 2 m_Rule__init := rfl
abbrev s_Rows__init : Stmt := clsSt (top 18) 0
abbrev N_Rows__init : List Str := ["self", "table", "prime", "row"]
theorem sc_Rows__init : FnScope N_Rows__init ["self", "table", "prime"] (defScope s_Rows__init) := ⟨rfl, rfl, rfl, by decide +kernel, rfl, by decide +kernel, by decide +kernel⟩
abbrev l_Rows__init_0 : Ex := xB pLst (aCons (xVar 3) (aNil))
abbrev m_Rows__init : Z.Env → Os := sSeq (sIf (tOrF (tNotF (xT (xCall0 f_is_within (zCons (xVar 2) (zCons (xC (.int 2)) (zCons (xC (.int 7)) (aNil))))))) (xT (xInK true [.int 2, .int 3, .int 5, .int 7] (xVar 2)))) (sRse "NoRule" 2 (fun xs => [("number", xs[1]?.getD .non), ("part", xs[0]?.getD .non)]) (zCons (xC (.str "prime")) (zCons (xC .non) (aNil)))) (sNx)) (sSeq (sEx (xCall f_look_at_table (zCons (xVar 2) (zCons (xVar 1) (aNil))))) (sSeq (sExE (eOwn 0 (fun _ => some f_Rule__init) (zCons (xB pLen (aCons (xVar 1) (aNil))) (aNil)))) (sSeq (sFst "own_table" (xLc (iSeq (xVar 1)) (tgN 3) (tYesF) (l_Rows__init_0) [3])) (sFst "own_prime" (xVar 2)))))
def f_Rows__init : MF := runM 3 4 m_Rows__init
theorem e_Rows__init : f_Rows__init = runM 3 4 m_Rows__init := rfl
abbrev s_Rule__len : Stmt := clsSt (top 12) 22
abbrev N_Rule__len : List Str := ["self"]
theorem sc_Rule__len : FnScope N_Rule__len ["self"] (defScope s_Rule__len) := ⟨rfl, rfl, rfl, by decide +kernel, rfl, by decide +kernel, by decide +kernel⟩
abbrev m_Rule__len : Z.Env → Os := sRet (xB pLen (aCons (xFldX "own_things" (xVar 0)) (aNil)))
def f_Rule__len : List PV → R PV := run 1 1 m_Rule__len
theorem e_Rule__len : f_Rule__len = run 1 1 m_Rule__len := rfl
abbrev tb_len : List (String × (List PV → R PV)) := [("Rows", f_Rule__len)]
abbrev s__law_told : Stmt := top 28
abbrev N__law_told : List Str := ["_law_table_here", "_law_modulus", "_law_alone", "_law_kept", "_law_found", "e"]
theorem sc__law_told : FnScope N__law_told ["_law_table_here", "_law_modulus", "_law_alone"] (defScope s__law_told) := ⟨rfl, rfl, rfl, by decide +kernel, rfl, by decide +kernel, by decide +kernel⟩
abbrev m__law_told : Z.Env → Os := sSeq (sSet 3 (xC .non)) (sSeq (sSet 4 (xC .non)) (sSeq (sTry (sSet 4 (xIf (xT (xVar 2)) (xMake "Rows" f_Rows__init (zDf (zCons (xVar 0) (aNil)) [.int 2])) (xMakeK mkV "Rows" f_Rows__init 1 1 (zCons (xVar 0) (aNil)) (zCons (xVar 1) (aNil))))) (fun c => ["NoRule"].contains c) 5 (sSet 3 (xVar 5))) (sSeq (sIf (xT (xNotN (xVar 3))) (sRet (xCall0 f__law_no_rule (zCons (xVar 3) (aNil)))) (sNx)) (sFrz 4 (sRet (xLst (zCons (xC (.str "made")) (zCons (xB pReprL (aCons (xLenO tb_len (xVar 4)) (aNil))) (aNil)))))))))
def f__law_told : List PV → R PV := run 3 6 m__law_told
theorem e__law_told : f__law_told = run 3 6 m__law_told := rfl
abbrev s__law_is_row : Stmt := top 26
abbrev N__law_is_row : List Str := ["_law_modulus", "_law_row", "_law_wide", "_law_whole", "_law_one"]
theorem sc__law_is_row : FnScope N__law_is_row ["_law_modulus", "_law_row", "_law_wide"] (defScope s__law_is_row) := ⟨rfl, rfl, rfl, by decide +kernel, rfl, by decide +kernel, by decide +kernel⟩
abbrev k__law_is_row_0 : Z.Env → R Bool := tAndF (xT (xIsi "int" (xVar 4))) (tNotF (xT (xIsi "bool" (xVar 4))))
abbrev l__law_is_row_1 : Ex := xChain pLe pLt (xC (.int 0)) (xVar 4) (xVar 0)
abbrev m__law_is_row : Z.Env → Os := sSeq (sIf (tOrF (tNotF (xT (xIsi "list" (xVar 1)))) (tOrF (xT (x2 (pb pGt) (xB pLen (aCons (xVar 1) (aNil))) (xC (.int 8)))) (tAndF (xT (xNotN (xVar 2))) (xT (x2 (pb pNe) (xB pLen (aCons (xVar 1) (aNil))) (xVar 2)))))) (sRet (xC (.bl false))) (sNx)) (sSeq (sSet 3 (xLc (iSeq (xVar 1)) (tgN 4) (k__law_is_row_0) (xVar 4) [4])) (sRet (xAnd (x2 (pb pEq) (xB pLen (aCons (xVar 3) (aNil))) (xB pLen (aCons (xVar 1) (aNil)))) (xB pAll (aCons (xLc (iSeq (xVar 1)) (tgN 4) (tYesF) (l__law_is_row_1) [4]) (aNil))))))
def f__law_is_row : List PV → R PV := run 3 5 m__law_is_row
theorem e__law_is_row : f__law_is_row = run 3 5 m__law_is_row := rfl
abbrev s__law_due : Stmt := top 27
abbrev N__law_due : List Str := ["_law_table_here", "_law_modulus", "_law_wide", "_law_number", "_law_row"]
theorem sc__law_due : FnScope N__law_due ["_law_table_here", "_law_modulus"] (defScope s__law_due) := ⟨rfl, rfl, rfl, by decide +kernel, rfl, by decide +kernel, by decide +kernel⟩
abbrev b__law_due_0 : Z.Env → Os := sSeq (sIf (tNotF (xT (xCall0 f__law_is_row (zCons (xVar 1) (zCons (xVar 4) (zCons (xVar 2) (aNil))))))) (sRet (xLst (zCons (xC (.str "table")) (zCons (xB pReprL (aCons (xVar 3) (aNil))) (aNil))))) (sNx)) (sSet 2 (xB pLen (aCons (xVar 4) (aNil))))
abbrev m__law_due : Z.Env → Os := sSeq (sIf (tOrF (tNotF (xT (xIsi "int" (xVar 1)))) (tOrF (xT (xIsi "bool" (xVar 1))) (xT (x2 (pb pNotIn) (xVar 1) (xLst (zCons (xC (.int 2)) (zCons (xC (.int 3)) (zCons (xC (.int 5)) (zCons (xC (.int 7)) (aNil)))))))))) (sRet (xLst (zCons (xC (.str "prime")) (zCons (xC (.str "None")) (aNil))))) (sNx)) (sSeq (sIf (tOrF (tNotF (xT (xIsi "list" (xVar 0)))) (xT (x2 (pb pGt) (xB pLen (aCons (xVar 0) (aNil))) (xC (.int 16))))) (sRet (xLst (zCons (xC (.str "table")) (zCons (xC (.str "None")) (aNil))))) (sNx)) (sSeq (sSet 2 (xC .non)) (sSeq (sFor (iEnu (xVar 0)) (tgT (tgCons (tgN 3) (tgCons (tgN 4) (tgNil)))) b__law_due_0) (sRet (xLst (zCons (xC (.str "made")) (zCons (xB pReprL (aCons (xB pLen (aCons (xVar 0) (aNil))) (aNil))) (aNil))))))))
def f__law_due : List PV → R PV := run 2 5 m__law_due
theorem e__law_due : f__law_due = run 2 5 m__law_due := rfl
abbrev s_law : Stmt := top 29
abbrev N_law : List Str := ["_law_script", "_law_k", "_law_cell", "_law_digits", "_law_table_here", "_law_modulus", "_law_kept"]
theorem sc_law : FnScope N_law ["_law_script"] (defScope s_law) := ⟨rfl, rfl, rfl, by decide +kernel, rfl, by decide +kernel, by decide +kernel⟩
abbrev b_law_0 : Z.Env → Os := sSeq (sSet 3 (xCall0 f__law_numbers (zCons (xVar 2) (zCons (x2 pAdd (xC (.int 800)) (xVar 1)) (zCons (x2 pAdd (xLst (zCons (xC (.int 4)) (zCons (xC (.int 7)) (zCons (xC (.int 9)) (zCons (xC (.int 18)) (zCons (xC (.int 6)) (zCons (xC (.int 9)) (zCons (xC (.int 17)) (zCons (xC (.int 3)) (zCons (xC (.int 2)) (aNil))))))))))) (xRep (xLst (zCons (xC (.int 420)) (aNil))) (xC (.int 48)))) (aNil)))))) (sSeq (sTg (xCall0 f__law_table (zCons (xVar 3) (aNil))) (tgT (tgCons (tgN 4) (tgCons (tgN 5) (tgNil))))) (sSeq (sIf (xT (x2 (pb pGt) (x2 pIx (xVar 3) (xC (.int 7))) (xC (.int 0)))) (sTg (xCall0 f__law_spoilt (zCons (xVar 4) (zCons (xVar 5) (zCons (xVar 3) (aNil))))) (tgT (tgCons (tgN 4) (tgCons (tgN 5) (tgNil))))) (sNx)) (sSeq (sSet 6 (xB pReprL (aCons (xLst (zCons (xVar 4) (zCons (xVar 5) (aNil)))) (aNil)))) (sSeq (sIf (tOrF (xT (x2 (pb pNe) (xCall0 f__law_told (zCons (xVar 4) (zCons (xVar 5) (zCons (xC (.bl false)) (aNil))))) (xCall0 f__law_due (zCons (xVar 4) (zCons (xVar 5) (aNil)))))) (xT (x2 (pb pNe) (xB pReprL (aCons (xLst (zCons (xVar 4) (zCons (xVar 5) (aNil)))) (aNil))) (xVar 6)))) (sRet (xC (.bl false))) (sNx)) (sIf (xT (x2 (pb pNe) (xCall0 f__law_told (zCons (xVar 4) (zCons (xC .non) (zCons (xC (.bl true)) (aNil))))) (xCall0 f__law_due (zCons (xVar 4) (zCons (xC (.int 2)) (aNil)))))) (sRet (xC (.bl false))) (sNx))))))
abbrev m_law : Z.Env → Os := sSeq (sFor (iEnu (x2 pAdd (xLst (zCons (xC (.int 4)) (aNil))) (xSl (xVar 0) (xNoP) (xP (xC (.int 30)))))) (tgT (tgCons (tgN 1) (tgCons (tgN 2) (tgNil)))) b_law_0) (sRet (xC (.bl true)))
def f_law : List PV → R PV := run 1 7 m_law
theorem e_law : f_law = run 1 7 m_law := rfl
structure Txt (K : PySem.W.Frag) (mg : Str → Option Value) (cl : Cl) : Prop where
  O : ClOk K cl
  d__law_numbers : ∃ a fd, DfG K mg "_law_numbers" s__law_numbers ["_law_cell", "_law_salt", "_law_sizes"] a fd
  d__law_table : ∃ a fd, DfG K mg "_law_table" s__law_table ["_law_digits"] a fd
  d__law_odd_number : ∃ a fd, DfG K mg "_law_odd_number" s__law_odd_number ["_law_digit"] a fd
  d__law_spoilt : ∃ a fd, DfG K mg "_law_spoilt" s__law_spoilt ["_law_table_here", "_law_modulus", "_law_digits"] a fd
  d__law_no_rule : ∃ a fd, DfG K mg "_law_no_rule" s__law_no_rule ["_law_made"] a fd
  d_look_at_list : ∃ a fd, DfG K mg "look_at_list" s_look_at_list ["part", "thing"] a fd
  d_is_whole : ∃ a fd, DfG K mg "is_whole" s_is_whole ["thing"] a fd
  d_is_within : ∃ a fd, DfG K mg "is_within" s_is_within ["thing", "least", "most"] a fd
  d_is_row : ∃ a fd, DfG K mg "is_row" s_is_row ["prime", "thing", "wide"] a fd
  d_look_at_table : ∃ a fd, DfG K mg "look_at_table" s_look_at_table ["prime", "table"] a fd
  w_Rule__len : ∃ a fd, MeF K cl ["Rows"] "__len__" "Rule.__len__" s_Rule__len ["self"] a fd
  d__law_told : ∃ a fd, DfG K mg "_law_told" s__law_told ["_law_table_here", "_law_modulus", "_law_alone"] a fd
  d__law_is_row : ∃ a fd, DfG K mg "_law_is_row" s__law_is_row ["_law_modulus", "_law_row", "_law_wide"] a fd
  d__law_due : ∃ a fd, DfG K mg "_law_due" s__law_due ["_law_table_here", "_law_modulus"] a fd
  d_law : ∃ a fd, DfG K mg "law" s_law ["_law_script"] a fd
  k_Rows : ∃ C a fd ds, MkD K mg cl "Rows" "Rows.__init__" s_Rows__init ["self", "table", "prime"] 1 ["prime"] [.int 2] C a fd ds
  q_Rule_Rule__init : ∃ C a fd, ClF K mg "Rule" "__init__" "Rule.__init__" s_Rule__init ["self", "many"] C a fd
  x_NoRule : ∃ C a Cb mc fd, ExF K mg cl "NoRule" "FreeError" "NoRule.__init__" "Exception" "Exception.__new__" "Exception.__init__" [.type "Exception", .type "BaseException", .type "object"] s_NoRule__init ["self", "part", "number"] C a Cb mc fd ∧ PySem.W.findIn K (.ref C) "part" = some none ∧ PySem.W.findIn K (.ref C) "number" = some none
  t_NoRule : ∃ D, mg "NoRule" = some (.ref D) ∧ KitOk K cl (.ref D) (isC ["NoRule"])
  t_NoRules : ∃ D, mg "NoRules" = some (.ref D) ∧ KitOk K cl (.ref D) (isC [])
  t_NoSet : ∃ D, mg "NoSet" = some (.ref D) ∧ KitOk K cl (.ref D) (isC [])
  h_FreeError : ∃ D, mg "FreeError" = some (.ref D) ∧ ExmOk K cl (.ref D) (fun c => ["NoRule"].contains c)
  na_number : ∀ c C, cl.i c = some C → NoAttr K C (PySem.Str.ofString "number")
  nx_number : ∀ c C, cl.e c = some C → PySem.W.findIn K (.ref C) (PySem.Str.ofString "number") = some none
  na_own_prime : ∀ c C, cl.i c = some C → NoAttr K C (PySem.Str.ofString "own_prime")
  nx_own_prime : ∀ c C, cl.e c = some C → PySem.W.findIn K (.ref C) (PySem.Str.ofString "own_prime") = some none
  na_own_table : ∀ c C, cl.i c = some C → NoAttr K C (PySem.Str.ofString "own_table")
  nx_own_table : ∀ c C, cl.e c = some C → PySem.W.findIn K (.ref C) (PySem.Str.ofString "own_table") = some none
  na_own_things : ∀ c C, cl.i c = some C → NoAttr K C (PySem.Str.ofString "own_things")
  nx_own_things : ∀ c C, cl.e c = some C → PySem.W.findIn K (.ref C) (PySem.Str.ofString "own_things") = some none
  na_part : ∀ c C, cl.i c = some C → NoAttr K C (PySem.Str.ofString "part")
  nx_part : ∀ c C, cl.e c = some C → PySem.W.findIn K (.ref C) (PySem.Str.ofString "part") = some none
  b_all : mg "all" = none
  b_bool : mg "bool" = none
  b_enumerate : mg "enumerate" = none
  b_int : mg "int" = none
  b_isinstance : mg "isinstance" = none
  b_len : mg "len" = none
  b_list : mg "list" = none
  b_max : mg "max" = none
  b_range : mg "range" = none
  b_repr : mg "repr" = none
  b_tuple : mg "tuple" = none
  i_bool : KitOk K cl (.type "bool") (isB "bool")
  i_int : KitOk K cl (.type "int") (isB "int")
  i_list : KitOk K cl (.type "list") (isB "list")
  c_MOST_THINGS : ∃ t, mg "MOST_THINGS" = some (.int 16 t)
  c_MOST_WIDE : ∃ t, mg "MOST_WIDE" = some (.int 8 t)
  v_PRIMES : ConT K mg "PRIMES" [V.int 2, V.int 3, V.int 5, V.int 7]
section
variable {P : Program} {w : World} {K : PySem.W.Frag} {mg : Str → Option Value} {base : Heap} {cl : Cl} (hS : SysB base)
include P w K mg base cl hS
theorem ok__law_numbers (T : Txt K mg cl) {a : Addr} {fd : FuncData} (D : DfG K mg "_law_numbers" s__law_numbers ["_law_cell", "_law_salt", "_law_sizes"] a fd) : FnG P w K mg base 1 a fd ["_law_cell", "_law_salt", "_law_sizes"] (spQ K cl f__law_numbers) := by
  refine q_funG (k := 0) (e__law_numbers) D.fn sc__law_numbers rfl rfl fun cdv A outer s H E hr hG tk => ?_
  have O := T.O
  have hu65 := hu65_of hr
  have hu64 := hr.units
  have hu1 := hu1_of hr
  have hu0 := hr.units0
  exact (qs_cons (qs_set (i := 3) sc__law_numbers.nd (q_max2 T.b_max rfl (qa_cons (q_var 0) (qa_cons (q_sub (q_neg q_int) (q_var 0)) qa_nil)))) (qs_cons (qs_set (i := 4) sc__law_numbers.nd (q_var 3)) (qs_cons (qs_set (i := 5) sc__law_numbers.nd (q_lst qz_nil)) (qs_cons (qs_for (body := b__law_numbers_0) (L2.passes_of rfl) rfl (qi_range1 T.b_range (qa_cons (q_len T.b_len (qa_cons (q_var 2) qa_nil)) qa_nil) (al_cons al_nil)) (qg_name (i := 6) sc__law_numbers.nd) (qs_one (qs_if (qw_pt (qw_and (qt_cmp (q_ge (q_var 3) (q_pow q_int q_int))) (qw_and1 (qt_cmp (q_gt (q_var 4) q_int))))) (qs_cons (qs_append (i := 5) (qz_cons (q_mod (q_var 4) (q_sub_ix hu1 (q_var 2) (q_var 6))) qz_nil)) (qs_one (qs_set (i := 4) sc__law_numbers.nd (q_div (q_var 4) (q_sub_ix hu1 (q_var 2) (q_var 6)))))) (qs_cons (qs_set (i := 7) sc__law_numbers.nd (q_mod (q_pow (q_add (q_add (q_mod (q_var 3) q_int) (q_mul q_int (q_var 1))) q_int) q_int) q_int)) (qs_cons (qs_set (i := 7) sc__law_numbers.nd (q_mod (q_mul (q_add (q_var 7) (q_mul q_int (q_add (q_var 6) q_int))) (q_add (q_var 6) q_int)) q_int)) (qs_cons (qs_set (i := 7) sc__law_numbers.nd (q_mod (q_mul (q_mod (q_pow (q_var 7) q_int) q_int) q_int) q_int)) (qs_one (qs_append (i := 5) (qz_cons (q_mod (q_div (q_var 7) q_int) (q_sub_ix hu1 (q_var 2) (q_var 6))) qz_nil))))))))) (qs_one (qs_ret (q_var 5)))))))
theorem ok__law_table (T : Txt K mg cl) {a : Addr} {fd : FuncData} (D : DfG K mg "_law_table" s__law_table ["_law_digits"] a fd) : FnG P w K mg base 1 a fd ["_law_digits"] (spQ K cl f__law_table) := by
  refine q_funG (k := 0) (e__law_table) D.fn sc__law_table rfl rfl fun cdv A outer s H E hr hG tk => ?_
  have O := T.O
  have hu65 := hu65_of hr
  have hu64 := hr.units
  have hu1 := hu1_of hr
  have hu0 := hr.units0
  exact (qs_cons (qs_set (i := 1) sc__law_table.nd (q_sub_ix hu1 (q_lst (qz_cons q_int (qz_cons q_int (qz_cons q_int (qz_cons q_int qz_nil))))) (q_sub_ix hu1 (q_var 0) q_int))) (qs_cons (qs_set (i := 2) sc__law_table.nd (q_sub_ix hu1 (q_var 0) q_int)) (qs_cons (qs_set (i := 3) sc__law_table.nd (q_slice (q_var 0) (qo_some q_int) qo_none)) (qs_one (qs_ret (q_tup (qz_cons (q_lc (own := [("_law_k", 4)]) rfl sc__law_table.nd (show BlkOk N__law_table (defScope s__law_table) _ _ from ⟨rfl, by decide +kernel, by decide +kernel, by decide +kernel, by decide +kernel⟩) (by decide) (qi_range1 T.b_range (qa_cons (q_sub_ix hu1 (q_var 0) q_int) qa_nil) (al_cons al_nil)) (fun _ _ _ _ _ => (qg_name (i := 4) sc__law_table.nd)) (fun _ _ _ _ _ => qts_nil) (fun _ _ _ _ _ => (q_lc (own := [("_law_at", 5)]) rfl sc__law_table.nd (BlkOk.rel (N := N__law_table) ⟨rfl, by decide +kernel, by decide +kernel, by decide +kernel, by decide +kernel⟩) (by decide) (qi_range1 T.b_range (qa_cons (q_var 2) qa_nil) (al_cons al_nil)) (fun _ _ _ _ _ => (qg_name (i := 5) sc__law_table.nd)) (fun _ _ _ _ _ => qts_nil) (fun _ _ _ _ _ => (q_mod (q_sub_ix hu1 (q_var 3) (q_add (q_mul (q_var 2) (q_var 4)) (q_var 5))) (q_var 1)))))) (qz_cons (q_var 1) qz_nil))))))))
theorem ok__law_odd_number (T : Txt K mg cl) {a : Addr} {fd : FuncData} (D : DfG K mg "_law_odd_number" s__law_odd_number ["_law_digit"] a fd) : FnG P w K mg base 1 a fd ["_law_digit"] (spQ K cl f__law_odd_number) := by
  refine q_funG (k := 0) (e__law_odd_number) D.fn sc__law_odd_number rfl rfl fun cdv A outer s H E hr hG tk => ?_
  have O := T.O
  have hu65 := hu65_of hr
  have hu64 := hr.units
  have hu1 := hu1_of hr
  have hu0 := hr.units0
  exact (qs_cons (qs_set (i := 1) sc__law_odd_number.nd (q_lst (qz_cons q_non (qz_cons q_bl (qz_cons q_bl (qz_cons (q_neg q_int) (qz_cons q_int (qz_cons q_int (qz_cons q_int (qz_cons q_int (qz_cons q_int (qz_cons q_int (qz_cons q_int (qz_cons q_int (qz_cons q_str (qz_cons (q_lst (qz_cons q_int qz_nil)) (qz_cons (q_tup (qz_cons q_int qz_nil)) (qz_cons q_dctK (qz_cons (q_pow q_int q_int) (qz_cons (q_tup qz_nil) qz_nil)))))))))))))))))))) (qs_one (qs_ret (q_sub_ix hu1 (q_var 1) (q_mod (q_var 0) q_int)))))
theorem ok__law_spoilt (T : Txt K mg cl) {a : Addr} {fd : FuncData} (D : DfG K mg "_law_spoilt" s__law_spoilt ["_law_table_here", "_law_modulus", "_law_digits"] a fd) : FnG P w K mg base 2 a fd ["_law_table_here", "_law_modulus", "_law_digits"] (spQ K cl f__law_spoilt) := by
  obtain ⟨a__law_odd_number, fd__law_odd_number, D__law_odd_number⟩ := T.d__law_odd_number
  have G__law_odd_number : FnG P w K mg base 1 a__law_odd_number fd__law_odd_number ["_law_digit"] (spQ K cl f__law_odd_number) := ok__law_odd_number hS T D__law_odd_number
  refine q_funG (k := 1) (e__law_spoilt) D.fn sc__law_spoilt rfl rfl fun cdv A outer s H E hr hG tk => ?_
  have O := T.O
  have hu65 := hu65_of hr
  have hu64 := hr.units
  have hu1 := hu1_of hr
  have hu0 := hr.units0
  have hr__law_odd_number := hr.mono (show 1 ≤ 1 by decide)
  exact (qs_cons (qs_set (i := 3) sc__law_spoilt.nd (q_cN ⟨⟨_, _, _, _, G__law_odd_number, hr__law_odd_number, D__law_odd_number.mgx, D__law_odd_number.fn.kp, D__law_odd_number.bd⟩⟩ hG (qz_cons (q_sub_ix hu1 (q_var 2) q_int) qz_nil))) (qs_cons (qs_set (i := 4) sc__law_spoilt.nd (q_mod (q_sub_ix hu1 (q_var 2) q_int) (q_max2 T.b_max rfl (qa_cons q_int (qa_cons (q_len T.b_len (qa_cons (q_var 0) qa_nil)) qa_nil))))) (qs_cons (qs_set (i := 5) sc__law_spoilt.nd (q_sub_ix hu1 (q_add (q_var 0) (q_lst (qz_cons (q_lst qz_nil) qz_nil))) (q_var 4))) (qs_cons (qs_set (i := 6) sc__law_spoilt.nd (q_mod (q_sub_ix hu1 (q_var 2) q_int) (q_add (q_len T.b_len (qa_cons (q_var 5) qa_nil)) q_int))) (qs_cons (qs_set (i := 7) sc__law_spoilt.nd (q_lst (qz_cons (q_add (q_add (q_slice (q_var 5) qo_none (qo_some (q_var 6))) (q_lst (qz_cons (q_var 3) qz_nil))) (q_slice (q_var 5) (qo_some (q_add (q_var 6) q_int)) qo_none)) (qz_cons (q_add (q_var 5) (q_lst (qz_cons q_int qz_nil))) (qz_cons (q_slice (q_var 5) (qo_some q_int) qo_none) (qz_cons (q_tuple T.b_tuple (qa_cons (q_var 5) qa_nil)) (qz_cons (q_var 3) (qz_cons (q_lst (qz_cons (q_var 3) qz_nil)) qz_nil)))))))) (qs_cons (qs_append (i := 7) (qz_cons (q_add (q_var 5) (q_rep (q_lst (qz_cons q_int qz_nil)) (q_sub q_int (q_len T.b_len (qa_cons (q_var 5) qa_nil))))) qz_nil)) (qs_cons (qs_set (i := 8) sc__law_spoilt.nd (q_sub_ix hu1 (q_var 2) q_int)) (qs_cons (qs_if (qt_cmp (q_lt (q_var 8) q_int)) (qs_one (qs_ret (q_lst (qz_cons (q_add (q_add (q_slice (q_var 0) qo_none (qo_some (q_var 4))) (q_lst (qz_cons (q_sub_ix hu1 (q_var 7) (q_var 8)) qz_nil))) (q_slice (q_var 0) (qo_some (q_add (q_var 4) q_int)) qo_none)) (qz_cons (q_var 1) qz_nil))))) qs_nil) (qs_cons (qs_if (qt_cmp (q_lt (q_var 8) q_int)) (qs_one (qs_ret (q_lst (qz_cons (q_var 0) (qz_cons (q_var 3) qz_nil))))) qs_nil) (qs_cons (qs_if (qt_cmp (q_lt (q_var 8) q_int)) (qs_one (qs_ret (q_lst (qz_cons (q_slice (q_add (q_var 0) (q_rep (q_lst (qz_cons (q_var 5) qz_nil)) q_int)) qo_none (qo_some (q_add q_int (q_var 8)))) (qz_cons (q_var 1) qz_nil))))) qs_nil) (qs_one (qs_ret (q_sub_ix hu1 (q_lst (qz_cons (q_lst (qz_cons (q_tuple T.b_tuple (qa_cons (q_var 0) qa_nil)) (qz_cons (q_var 1) qz_nil))) (qz_cons (q_lst (qz_cons (q_var 3) (qz_cons (q_var 1) qz_nil))) (qz_cons (q_lst (qz_cons (q_lst (qz_cons (q_var 0) qz_nil)) (qz_cons (q_var 1) qz_nil))) (qz_cons (q_lst (qz_cons (q_add (q_var 0) (q_slice (q_var 0) qo_none (qo_some q_int))) (qz_cons (q_var 1) qz_nil))) qz_nil))))) (q_sub (q_var 8) q_int))))))))))))))
theorem ok__law_no_rule (T : Txt K mg cl) {a : Addr} {fd : FuncData} (D : DfG K mg "_law_no_rule" s__law_no_rule ["_law_made"] a fd) : FnG P w K mg base 1 a fd ["_law_made"] (spQ K cl f__law_no_rule) := by
  obtain ⟨D_NoRule, md_NoRule, kt_NoRule⟩ := T.t_NoRule
  obtain ⟨D_NoRules, md_NoRules, kt_NoRules⟩ := T.t_NoRules
  obtain ⟨D_NoSet, md_NoSet, kt_NoSet⟩ := T.t_NoSet
  refine q_funG (k := 0) (e__law_no_rule) D.fn sc__law_no_rule rfl rfl fun cdv A outer s H E hr hG tk => ?_
  have O := T.O
  have hu65 := hu65_of hr
  have hu64 := hr.units
  have hu1 := hu1_of hr
  have hu0 := hr.units0
  exact (qs_cons (qs_if (qw_pt (qw_or (qt_not (qt_val (q_is (u := .ref D_NoRule) (cv := .ref D_NoRule) O kt_NoRule (.own _) T.b_isinstance (pe_glob rfl md_NoRule rfl) (q_var 0)))) (qw_or1 (qt_val (q_isT O (.cons kt_NoSet (.cons kt_NoRules .nil)) (.cons (.own _) (.cons (.own _) .nil)) (by simp) T.b_isinstance (pa_cons (pe_glob (v := .ref D_NoSet) rfl md_NoSet rfl) (pa_cons (pe_glob (v := .ref D_NoRules) rfl md_NoRules rfl) pa_nil)) (fun _ _ _ h => h) (q_var 0)))))) (qs_one (qs_ret (q_lst (qz_cons q_str qz_nil)))) qs_nil) (qs_one (qs_ret (q_lst (qz_cons (q_fldX (n := "part") O T.na_part T.nx_part (q_var 0)) (qz_cons (q_repr hG hS hu64 T.b_repr (qa_cons (q_fldX (n := "number") O T.na_number T.nx_number (q_var 0)) qa_nil)) qz_nil))))))
theorem ok_NoRule__init {C a Cb : Addr} {mc : Value} {fd : FuncData} (R : ExF K mg cl "NoRule" "FreeError" "NoRule.__init__" "Exception" "Exception.__new__" "Exception.__init__" [.type "Exception", .type "BaseException", .type "object"] s_NoRule__init ["self", "part", "number"] C a Cb mc fd) (h0 : PySem.W.findIn K (.ref C) "part" = some none) (h1 : PySem.W.findIn K (.ref C) "number" = some none) : FnG P w K mg base 1 a fd ["self", "part", "number"] (spI C 2 (fun ws => [(PySem.Str.ofString "number", ws[1]?.getD .non), (PySem.Str.ofString "part", ws[0]?.getD .non)])) :=
  q_funI R.fn sc_NoRule__init rfl fun cdv A outer s H vs Q E h => ⟨_, (pss_cons (ps_expr (pe_oxinit rfl R.mgb R.rd R.fb (pa_cons (pe_var (i := 0) rfl (Or.inl rfl)) (pa_cons pe_str pa_nil)))) (pss_cons (ps_oxs (pe_var (i := 0) rfl (Or.inl rfl)) (pe_var (i := 1) rfl (Or.inl rfl))) (pss_one (ps_oxs (pe_var (i := 0) rfl (Or.inl rfl)) (pe_var (i := 2) rfl (Or.inl rfl)))))), init2 (i := 0) (j := 1) R.ox h0 h1 (by decide) (by decide) (by decide) h⟩
theorem ok_look_at_list (T : Txt K mg cl) {a : Addr} {fd : FuncData} (D : DfG K mg "look_at_list" s_look_at_list ["part", "thing"] a fd) : FnG P w K mg base 3 a fd ["part", "thing"] (spQ K cl f_look_at_list) := by
  obtain ⟨CR_NoRule, aR_NoRule, CbR_NoRule, mcR_NoRule, fdR_NoRule, R_NoRule, hx0_NoRule, hx1_NoRule⟩ := T.x_NoRule
  have GR_NoRule : FnG P w K mg base 1 aR_NoRule fdR_NoRule ["self", "part", "number"] (spI CR_NoRule 2 (fun ws => [(PySem.Str.ofString "number", ws[1]?.getD .non), (PySem.Str.ofString "part", ws[0]?.getD .non)])) := ok_NoRule__init hS R_NoRule hx0_NoRule hx1_NoRule
  refine q_funG (k := 2) (e_look_at_list) D.fn sc_look_at_list rfl rfl fun cdv A outer s H E hr hG tk => ?_
  have O := T.O
  have hu65 := hu65_of hr
  have hu64 := hr.units
  have hu1 := hu1_of hr
  have hu0 := hr.units0
  have hrR_NoRule := hr.mono (show 2 ≤ 2 by decide)
  exact (qs_one (qs_if (qw_pt (qw_or (qt_not (qt_val (q_isi (n := "list") O T.i_list T.b_isinstance T.b_list (by decide +kernel) (q_var 1)))) (qw_or1 (qt_cmp (q_gt (q_len T.b_len (qa_cons (q_var 1) qa_nil)) (q_conI T.c_MOST_THINGS.choose_spec)))))) (qs_one (qs_raise tk ⟨⟨_, _, _, _, _, _, _, _, _, R_NoRule.ox, R_NoRule.iC, R_NoRule.tI, GR_NoRule, hrR_NoRule, R_NoRule.bd, R_NoRule.mgx, R_NoRule.ce⟩⟩ hG (pf2 (i := 0) (j := 1) (by decide) (by decide)) (by decide) rfl (qz_cons (q_var 0) (qz_cons q_non qz_nil)))) qs_nil))
theorem ok_is_whole (T : Txt K mg cl) {a : Addr} {fd : FuncData} (D : DfG K mg "is_whole" s_is_whole ["thing"] a fd) : FnG P w K mg base 1 a fd ["thing"] (spQ K cl f_is_whole) := by
  refine q_funG (k := 0) (e_is_whole) D.fn sc_is_whole rfl rfl fun cdv A outer s H E hr hG tk => ?_
  have O := T.O
  have hu65 := hu65_of hr
  have hu64 := hr.units
  have hu1 := hu1_of hr
  have hu0 := hr.units0
  exact (qs_one (qs_ret (q_and (q_isi (n := "int") O T.i_int T.b_isinstance T.b_int (by decide +kernel) (q_var 0)) (q_one (q_not (q_isi (n := "bool") O T.i_bool T.b_isinstance T.b_bool (by decide +kernel) (q_var 0)))))))
theorem ok_is_within (T : Txt K mg cl) {a : Addr} {fd : FuncData} (D : DfG K mg "is_within" s_is_within ["thing", "least", "most"] a fd) : FnG P w K mg base 2 a fd ["thing", "least", "most"] (spQ K cl f_is_within) := by
  obtain ⟨a_is_whole, fd_is_whole, D_is_whole⟩ := T.d_is_whole
  have G_is_whole : FnG P w K mg base 1 a_is_whole fd_is_whole ["thing"] (spQ K cl f_is_whole) := ok_is_whole hS T D_is_whole
  refine q_funG (k := 1) (e_is_within) D.fn sc_is_within rfl rfl fun cdv A outer s H E hr hG tk => ?_
  have O := T.O
  have hu65 := hu65_of hr
  have hu64 := hr.units
  have hu1 := hu1_of hr
  have hu0 := hr.units0
  have hr_is_whole := hr.mono (show 1 ≤ 1 by decide)
  exact (qs_one (qs_ret (q_and (q_cN ⟨⟨_, _, _, _, G_is_whole, hr_is_whole, D_is_whole.mgx, D_is_whole.fn.kp, D_is_whole.bd⟩⟩ hG (qz_cons (q_var 0) qz_nil)) (q_one (q_lele (q_var 1) (q_var 0) (q_var 2))))))
theorem ok_is_row (T : Txt K mg cl) {a : Addr} {fd : FuncData} (D : DfG K mg "is_row" s_is_row ["prime", "thing", "wide"] a fd) : FnG P w K mg base 3 a fd ["prime", "thing", "wide"] (spQ K cl f_is_row) := by
  obtain ⟨a_is_within, fd_is_within, D_is_within⟩ := T.d_is_within
  have G_is_within : FnG P w K mg base 2 a_is_within fd_is_within ["thing", "least", "most"] (spQ K cl f_is_within) := ok_is_within hS T D_is_within
  refine q_funG (k := 2) (e_is_row) D.fn sc_is_row rfl rfl fun cdv A outer s H E hr hG tk => ?_
  have O := T.O
  have hu65 := hu65_of hr
  have hu64 := hr.units
  have hu1 := hu1_of hr
  have hu0 := hr.units0
  have hr_is_within := hr.mono (show 2 ≤ 2 by decide)
  exact (qs_cons (qs_if (qw_pt (qw_or (qt_not (qt_val (q_isi (n := "list") O T.i_list T.b_isinstance T.b_list (by decide +kernel) (q_var 1)))) (qw_or (qt_cmp (q_gt (q_len T.b_len (qa_cons (q_var 1) qa_nil)) (q_conI T.c_MOST_WIDE.choose_spec))) (qw_or1 (qw_pt (qw_and (qt_cmp (q_notN (q_var 2))) (qw_and1 (qt_cmp (q_ne hu64 (q_len T.b_len (qa_cons (q_var 1) qa_nil)) (q_var 2)))))))))) (qs_one (qs_ret q_bl)) qs_nil) (qs_one (qs_ret (q_all T.b_all rfl (qa_cons (q_lc (own := [("number", 3)]) rfl sc_is_row.nd (show BlkOk N_is_row (defScope s_is_row) _ _ from ⟨rfl, by decide +kernel, by decide +kernel, by decide +kernel, by decide +kernel⟩) (by decide) (qi_seq (q_var 1)) (fun _ _ _ _ _ => (qg_name (i := 3) sc_is_row.nd)) (fun _ _ _ _ _ => qts_nil) (fun _ _ _ _ _ => (q_cN ⟨⟨_, _, _, _, G_is_within, hr_is_within, D_is_within.mgx, D_is_within.fn.kp, D_is_within.bd⟩⟩ hG (qz_cons (q_var 3) (qz_cons q_int (qz_cons (q_sub (q_var 0) q_int) qz_nil)))))) qa_nil)))))
theorem ok_look_at_table (T : Txt K mg cl) {a : Addr} {fd : FuncData} (D : DfG K mg "look_at_table" s_look_at_table ["prime", "table"] a fd) : FnG P w K mg base 4 a fd ["prime", "table"] (spQ K cl f_look_at_table) := by
  obtain ⟨a_look_at_list, fd_look_at_list, D_look_at_list⟩ := T.d_look_at_list
  have G_look_at_list : FnG P w K mg base 3 a_look_at_list fd_look_at_list ["part", "thing"] (spQ K cl f_look_at_list) := ok_look_at_list hS T D_look_at_list
  obtain ⟨a_is_row, fd_is_row, D_is_row⟩ := T.d_is_row
  have G_is_row : FnG P w K mg base 3 a_is_row fd_is_row ["prime", "thing", "wide"] (spQ K cl f_is_row) := ok_is_row hS T D_is_row
  obtain ⟨CR_NoRule, aR_NoRule, CbR_NoRule, mcR_NoRule, fdR_NoRule, R_NoRule, hx0_NoRule, hx1_NoRule⟩ := T.x_NoRule
  have GR_NoRule : FnG P w K mg base 1 aR_NoRule fdR_NoRule ["self", "part", "number"] (spI CR_NoRule 2 (fun ws => [(PySem.Str.ofString "number", ws[1]?.getD .non), (PySem.Str.ofString "part", ws[0]?.getD .non)])) := ok_NoRule__init hS R_NoRule hx0_NoRule hx1_NoRule
  refine q_funG (k := 3) (e_look_at_table) D.fn sc_look_at_table rfl rfl fun cdv A outer s H E hr hG tk => ?_
  have O := T.O
  have hu65 := hu65_of hr
  have hu64 := hr.units
  have hu1 := hu1_of hr
  have hu0 := hr.units0
  have hr_look_at_list := hr.mono (show 3 ≤ 3 by decide)
  have hr_is_row := hr.mono (show 3 ≤ 3 by decide)
  have hrR_NoRule := hr.mono (show 2 ≤ 3 by decide)
  exact (qs_cons (qs_expr (q_cX tk ⟨⟨_, _, _, _, G_look_at_list, hr_look_at_list, D_look_at_list.mgx, D_look_at_list.fn.kp, D_look_at_list.bd⟩⟩ hG (qz_cons q_str (qz_cons (q_var 1) qz_nil)))) (qs_cons (qs_set (i := 2) sc_look_at_table.nd q_non) (qs_one (qs_for (body := b_look_at_table_0) (L2.passes_of rfl) rfl (qi_enum T.b_enumerate (q_var 1)) (qg_tup (n := 2) rfl (qgs_cons (qg_name (i := 3) sc_look_at_table.nd) (qgs_cons (qg_name (i := 4) sc_look_at_table.nd) qgs_nil)) (tgl_cons (tgl_cons tgl_nil))) (qs_cons (qs_if (qt_not (qt_val (q_cN ⟨⟨_, _, _, _, G_is_row, hr_is_row, D_is_row.mgx, D_is_row.fn.kp, D_is_row.bd⟩⟩ hG (qz_cons (q_var 0) (qz_cons (q_var 4) (qz_cons (q_var 2) qz_nil)))))) (qs_one (qs_raise tk ⟨⟨_, _, _, _, _, _, _, _, _, R_NoRule.ox, R_NoRule.iC, R_NoRule.tI, GR_NoRule, hrR_NoRule, R_NoRule.bd, R_NoRule.mgx, R_NoRule.ce⟩⟩ hG (pf2 (i := 0) (j := 1) (by decide) (by decide)) (by decide) rfl (qz_cons q_str (qz_cons (q_var 3) qz_nil)))) qs_nil) (qs_one (qs_set (i := 2) sc_look_at_table.nd (q_len T.b_len (qa_cons (q_var 4) qa_nil)))))))))
theorem ok_Rule__init (T : Txt K mg cl) {a : Addr} {fd : FuncData} (D : FnAt K "__init__" "Rule.__init__" s_Rule__init a fd) : FnG P w K mg base 1 a fd ["self", "many"] (spM K cl f_Rule__init) := by
  refine q_funM (k := 0) (e_Rule__init) D sc_Rule__init rfl rfl fun v0 cdv A outer s H E hr hG tk => ?_
  have O := T.O.re v0
  have hu65 := hu65_of hr
  have hu64 := hr.units
  have hu1 := hu1_of hr
  have hu0 := hr.units0
  exact (qs_one (qs_fst (n := "own_things") O T.na_own_things (q_tupleR T.b_tuple rfl (qr_1 T.b_range (q_var 1)))))
theorem ok_Rows__init (T : Txt K mg cl) {a : Addr} {fd : FuncData} (D : FnAt K "__init__" "Rows.__init__" s_Rows__init a fd) : FnG P w K mg base 5 a fd ["self", "table", "prime"] (spM K cl f_Rows__init) := by
  obtain ⟨a_is_within, fd_is_within, D_is_within⟩ := T.d_is_within
  have G_is_within : FnG P w K mg base 2 a_is_within fd_is_within ["thing", "least", "most"] (spQ K cl f_is_within) := ok_is_within hS T D_is_within
  obtain ⟨a_look_at_table, fd_look_at_table, D_look_at_table⟩ := T.d_look_at_table
  have G_look_at_table : FnG P w K mg base 4 a_look_at_table fd_look_at_table ["prime", "table"] (spQ K cl f_look_at_table) := ok_look_at_table hS T D_look_at_table
  obtain ⟨CR_NoRule, aR_NoRule, CbR_NoRule, mcR_NoRule, fdR_NoRule, R_NoRule, hx0_NoRule, hx1_NoRule⟩ := T.x_NoRule
  have GR_NoRule : FnG P w K mg base 1 aR_NoRule fdR_NoRule ["self", "part", "number"] (spI CR_NoRule 2 (fun ws => [(PySem.Str.ofString "number", ws[1]?.getD .non), (PySem.Str.ofString "part", ws[0]?.getD .non)])) := ok_NoRule__init hS R_NoRule hx0_NoRule hx1_NoRule
  obtain ⟨CK_Rule_Rule__init, aK_Rule_Rule__init, fdK_Rule_Rule__init, K_Rule_Rule__init⟩ := T.q_Rule_Rule__init
  have GC_Rule_Rule__init : FnG P w K mg base 1 aK_Rule_Rule__init fdK_Rule_Rule__init ["self", "many"] (spM K cl f_Rule__init) := ok_Rule__init hS T K_Rule_Rule__init.fn
  refine q_funM (k := 4) (e_Rows__init) D sc_Rows__init rfl rfl fun v0 cdv A outer s H E hr hG tk => ?_
  have O := T.O.re v0
  have hu65 := hu65_of hr
  have hu64 := hr.units
  have hu1 := hu1_of hr
  have hu0 := hr.units0
  have hr_is_within := hr.mono (show 2 ≤ 4 by decide)
  have hr_look_at_table := hr.mono (show 4 ≤ 4 by decide)
  have hrR_NoRule := hr.mono (show 2 ≤ 4 by decide)
  have hrC_Rule_Rule__init := hr.mono (show 1 ≤ 4 by decide)
  exact (qs_cons (qs_if (qw_pt (qw_or (qt_not (qt_val (q_cN ⟨⟨_, _, _, _, (G_is_within.at v0), hr_is_within, D_is_within.mgx, D_is_within.fn.kp, D_is_within.bd⟩⟩ hG (qz_cons (q_var 2) (qz_cons q_int (qz_cons q_int qz_nil)))))) (qw_or1 (qt_cmp (q_notInC T.v_PRIMES (fun F => (RpL.cons (by simp [Rp]) (RpL.cons (by simp [Rp]) (RpL.cons (by simp [Rp]) (RpL.cons (by simp [Rp]) RpL.nil))))) rfl (by decide) (q_var 2)))))) (qs_one (qs_raise tk ⟨⟨_, _, _, _, _, _, _, _, _, R_NoRule.ox, R_NoRule.iC, R_NoRule.tI, GR_NoRule, hrR_NoRule, R_NoRule.bd, R_NoRule.mgx, R_NoRule.ce⟩⟩ hG (pf2 (i := 0) (j := 1) (by decide) (by decide)) (by decide) rfl (qz_cons q_str (qz_cons q_non qz_nil)))) qs_nil) (qs_cons (qs_expr (q_cX tk ⟨⟨_, _, _, _, (G_look_at_table.at v0), hr_look_at_table, D_look_at_table.mgx, D_look_at_table.fn.kp, D_look_at_table.bd⟩⟩ hG (qz_cons (q_var 2) (qz_cons (q_var 1) qz_nil)))) (qs_cons (qs_exprE (q_cls (i := 0) tk ⟨⟨_, _, _, _, _, K_Rule_Rule__init.cf, (GC_Rule_Rule__init.atM v0), hrC_Rule_Rule__init, K_Rule_Rule__init.mgx, K_Rule_Rule__init.bd⟩⟩ hG (qz_cons (q_len T.b_len (qa_cons (q_var 1) qa_nil)) qz_nil))) (qs_cons (qs_fst (n := "own_table") O T.na_own_table (q_lc (own := [("row", 3)]) rfl sc_Rows__init.nd (show BlkOk N_Rows__init (defScope s_Rows__init) _ _ from ⟨rfl, by decide +kernel, by decide +kernel, by decide +kernel, by decide +kernel⟩) (by decide) (qi_seq (q_var 1)) (fun _ _ _ _ _ => (qg_name (i := 3) sc_Rows__init.nd)) (fun _ _ _ _ _ => qts_nil) (fun _ _ _ _ _ => (q_list T.b_list (qa_cons (q_var 3) qa_nil))))) (qs_one (qs_fst (n := "own_prime") O T.na_own_prime (q_var 2)))))))
theorem ok_Rule__len (T : Txt K mg cl) {a : Addr} {fd : FuncData} (D : FnAt K "__len__" "Rule.__len__" s_Rule__len a fd) : FnG P w K mg base 1 a fd ["self"] (spQ K cl f_Rule__len) := by
  refine q_funG (k := 0) (e_Rule__len) D sc_Rule__len rfl rfl fun cdv A outer s H E hr hG tk => ?_
  have O := T.O
  have hu65 := hu65_of hr
  have hu64 := hr.units
  have hu1 := hu1_of hr
  have hu0 := hr.units0
  exact (qs_one (qs_ret (q_len T.b_len (qa_cons (q_fldX (n := "own_things") O T.na_own_things T.nx_own_things (q_var 0)) qa_nil))))
theorem ok__law_told (T : Txt K mg cl) {a : Addr} {fd : FuncData} (D : DfG K mg "_law_told" s__law_told ["_law_table_here", "_law_modulus", "_law_alone"] a fd) : FnG P w K mg base 7 a fd ["_law_table_here", "_law_modulus", "_law_alone"] (spQ K cl f__law_told) := by
  obtain ⟨a__law_no_rule, fd__law_no_rule, D__law_no_rule⟩ := T.d__law_no_rule
  have G__law_no_rule : FnG P w K mg base 1 a__law_no_rule fd__law_no_rule ["_law_made"] (spQ K cl f__law_no_rule) := ok__law_no_rule hS T D__law_no_rule
  obtain ⟨aW_Rule__len, fdW_Rule__len, W_Rule__len⟩ := T.w_Rule__len
  have G_Rule__len : FnG P w K mg base 1 aW_Rule__len fdW_Rule__len ["self"] (spQ K cl f_Rule__len) := ok_Rule__len hS T W_Rule__len.fn
  obtain ⟨C_Rows, aM_Rows, fdM_Rows, dsM_Rows, M_Rows⟩ := T.k_Rows
  have GM_Rows : FnG P w K mg base 5 aM_Rows fdM_Rows ["self", "table", "prime"] (spM K cl f_Rows__init) := ok_Rows__init hS T M_Rows.fn
  obtain ⟨X_FreeError, mx_FreeError, xm_FreeError⟩ := T.h_FreeError
  refine q_funG (k := 6) (e__law_told) D.fn sc__law_told rfl rfl fun cdv A outer s H E hr hG tk => ?_
  have O := T.O
  have hu65 := hu65_of hr
  have hu64 := hr.units
  have hu1 := hu1_of hr
  have hu0 := hr.units0
  have hr__law_no_rule := hr.mono (show 1 ≤ 6 by decide)
  have hrL_Rule__len := hr.mono (show 2 ≤ 6 by decide)
  have hrM_Rows := hr.mono (show 6 ≤ 6 by decide)
  exact (qs_cons (qs_set (i := 3) sc__law_told.nd q_non) (qs_cons (qs_set (i := 4) sc__law_told.nd q_non) (qs_cons (qs_try (i := 5) rfl rfl sc__law_told.nd ⟨rfl, by decide, .inl mx_FreeError⟩ xm_FreeError tk (fun W tkp xe tk _ => (qs_one (qs_set (i := 4) sc__law_told.nd (q_if (qt_val (q_var 2)) (q_makeXD tk ⟨⟨_, _, _, _, _, M_Rows.mks, GM_Rows, hrM_Rows, M_Rows.mgx, M_Rows.ci, M_Rows.bd⟩⟩ M_Rows.vl (fun F => (RpL.cons (by simp [Rp]) RpL.nil)) hG (qz_cons (q_var 0) qz_nil)) (q_makeKX (n := 1) (ks := ["prime"]) tk ⟨⟨_, _, _, _, _, M_Rows.mks, GM_Rows, hrM_Rows, M_Rows.mgx, M_Rows.ci, M_Rows.kb⟩⟩ hG (qz_cons (q_var 0) qz_nil) (qk_cons (q_var 1) qk_nil)))))) (fun _ _ => (qs_one (qs_set (i := 3) sc__law_told.nd (q_var 5))))) (qs_cons (qs_if (qt_cmp (q_notN (q_var 3))) (qs_one (qs_ret (q_cN ⟨⟨_, _, _, _, G__law_no_rule, hr__law_no_rule, D__law_no_rule.mgx, D__law_no_rule.fn.kp, D__law_no_rule.bd⟩⟩ hG (qz_cons (q_var 3) qz_nil)))) qs_nil) (qs_one (qs_frzS (i := 4) (qs_ret (q_lst (qz_cons q_str (qz_cons (q_repr hG hS hu64 T.b_repr (qa_cons (q_lenO (tbl := tb_len) (lenT_of (List.forall_mem_cons.mpr ⟨len1 W_Rule__len (by decide) G_Rule__len hrL_Rule__len, (fun _ h => by cases h)⟩)) hG T.b_len (q_var 4)) qa_nil)) qz_nil))))))))))
theorem ok__law_is_row (T : Txt K mg cl) {a : Addr} {fd : FuncData} (D : DfG K mg "_law_is_row" s__law_is_row ["_law_modulus", "_law_row", "_law_wide"] a fd) : FnG P w K mg base 1 a fd ["_law_modulus", "_law_row", "_law_wide"] (spQ K cl f__law_is_row) := by
  refine q_funG (k := 0) (e__law_is_row) D.fn sc__law_is_row rfl rfl fun cdv A outer s H E hr hG tk => ?_
  have O := T.O
  have hu65 := hu65_of hr
  have hu64 := hr.units
  have hu1 := hu1_of hr
  have hu0 := hr.units0
  exact (qs_cons (qs_if (qw_pt (qw_or (qt_not (qt_val (q_isi (n := "list") O T.i_list T.b_isinstance T.b_list (by decide +kernel) (q_var 1)))) (qw_or (qt_cmp (q_gt (q_len T.b_len (qa_cons (q_var 1) qa_nil)) q_int)) (qw_or1 (qw_pt (qw_and (qt_cmp (q_notN (q_var 2))) (qw_and1 (qt_cmp (q_ne hu64 (q_len T.b_len (qa_cons (q_var 1) qa_nil)) (q_var 2)))))))))) (qs_one (qs_ret q_bl)) qs_nil) (qs_cons (qs_setLc (i := 3) (own := [("_law_one", 4)]) rfl sc__law_is_row.nd (show BlkOk N__law_is_row (defScope s__law_is_row) _ _ from ⟨rfl, by decide +kernel, by decide +kernel, by decide +kernel, by decide +kernel⟩) (by decide) rfl (qi_seq (q_var 1)) (fun _ _ _ _ _ => (qg_name (i := 4) sc__law_is_row.nd)) (fun _ _ _ _ _ => (qts_one (qw_pt (qw_and (qt_val (q_isi (n := "int") O T.i_int T.b_isinstance T.b_int (by decide +kernel) (q_var 4))) (qw_and1 (qt_not (qt_val (q_isi (n := "bool") O T.i_bool T.b_isinstance T.b_bool (by decide +kernel) (q_var 4))))))))) (fun _ _ _ _ _ => (q_var 4))) (qs_one (qs_ret (q_and (q_eq hu64 (q_len T.b_len (qa_cons (q_var 3) qa_nil)) (q_len T.b_len (qa_cons (q_var 1) qa_nil))) (q_one (q_all T.b_all rfl (qa_cons (q_lc (own := [("_law_one", 4)]) rfl sc__law_is_row.nd (show BlkOk N__law_is_row (defScope s__law_is_row) _ _ from ⟨rfl, by decide +kernel, by decide +kernel, by decide +kernel, by decide +kernel⟩) (by decide) (qi_seq (q_var 1)) (fun _ _ _ _ _ => (qg_name (i := 4) sc__law_is_row.nd)) (fun _ _ _ _ _ => qts_nil) (fun _ _ _ _ _ => (q_lelt q_int (q_var 4) (q_var 0)))) qa_nil))))))))
theorem ok__law_due (T : Txt K mg cl) {a : Addr} {fd : FuncData} (D : DfG K mg "_law_due" s__law_due ["_law_table_here", "_law_modulus"] a fd) : FnG P w K mg base 2 a fd ["_law_table_here", "_law_modulus"] (spQ K cl f__law_due) := by
  obtain ⟨a__law_is_row, fd__law_is_row, D__law_is_row⟩ := T.d__law_is_row
  have G__law_is_row : FnG P w K mg base 1 a__law_is_row fd__law_is_row ["_law_modulus", "_law_row", "_law_wide"] (spQ K cl f__law_is_row) := ok__law_is_row hS T D__law_is_row
  refine q_funG (k := 1) (e__law_due) D.fn sc__law_due rfl rfl fun cdv A outer s H E hr hG tk => ?_
  have O := T.O
  have hu65 := hu65_of hr
  have hu64 := hr.units
  have hu1 := hu1_of hr
  have hu0 := hr.units0
  have hr__law_is_row := hr.mono (show 1 ≤ 1 by decide)
  exact (qs_cons (qs_if (qw_pt (qw_or (qt_not (qt_val (q_isi (n := "int") O T.i_int T.b_isinstance T.b_int (by decide +kernel) (q_var 1)))) (qw_or (qt_val (q_isi (n := "bool") O T.i_bool T.b_isinstance T.b_bool (by decide +kernel) (q_var 1))) (qw_or1 (qt_cmp (q_notIn hu65 (q_var 1) (q_lst (qz_cons q_int (qz_cons q_int (qz_cons q_int (qz_cons q_int qz_nil))))))))))) (qs_one (qs_ret (q_lst (qz_cons q_str (qz_cons q_str qz_nil))))) qs_nil) (qs_cons (qs_if (qw_pt (qw_or (qt_not (qt_val (q_isi (n := "list") O T.i_list T.b_isinstance T.b_list (by decide +kernel) (q_var 0)))) (qw_or1 (qt_cmp (q_gt (q_len T.b_len (qa_cons (q_var 0) qa_nil)) q_int))))) (qs_one (qs_ret (q_lst (qz_cons q_str (qz_cons q_str qz_nil))))) qs_nil) (qs_cons (qs_set (i := 2) sc__law_due.nd q_non) (qs_cons (qs_for (body := b__law_due_0) (L2.passes_of rfl) rfl (qi_enum T.b_enumerate (q_var 0)) (qg_tup (n := 2) rfl (qgs_cons (qg_name (i := 3) sc__law_due.nd) (qgs_cons (qg_name (i := 4) sc__law_due.nd) qgs_nil)) (tgl_cons (tgl_cons tgl_nil))) (qs_cons (qs_if (qt_not (qt_val (q_cN ⟨⟨_, _, _, _, G__law_is_row, hr__law_is_row, D__law_is_row.mgx, D__law_is_row.fn.kp, D__law_is_row.bd⟩⟩ hG (qz_cons (q_var 1) (qz_cons (q_var 4) (qz_cons (q_var 2) qz_nil)))))) (qs_one (qs_ret (q_lst (qz_cons q_str (qz_cons (q_repr hG hS hu64 T.b_repr (qa_cons (q_var 3) qa_nil)) qz_nil))))) qs_nil) (qs_one (qs_set (i := 2) sc__law_due.nd (q_len T.b_len (qa_cons (q_var 4) qa_nil)))))) (qs_one (qs_ret (q_lst (qz_cons q_str (qz_cons (q_repr hG hS hu64 T.b_repr (qa_cons (q_len T.b_len (qa_cons (q_var 0) qa_nil)) qa_nil)) qz_nil)))))))))
theorem ok_law (T : Txt K mg cl) {a : Addr} {fd : FuncData} (D : DfG K mg "law" s_law ["_law_script"] a fd) : FnG P w K mg base 8 a fd ["_law_script"] (spQ K cl f_law) := by
  obtain ⟨a__law_numbers, fd__law_numbers, D__law_numbers⟩ := T.d__law_numbers
  have G__law_numbers : FnG P w K mg base 1 a__law_numbers fd__law_numbers ["_law_cell", "_law_salt", "_law_sizes"] (spQ K cl f__law_numbers) := ok__law_numbers hS T D__law_numbers
  obtain ⟨a__law_table, fd__law_table, D__law_table⟩ := T.d__law_table
  have G__law_table : FnG P w K mg base 1 a__law_table fd__law_table ["_law_digits"] (spQ K cl f__law_table) := ok__law_table hS T D__law_table
  obtain ⟨a__law_spoilt, fd__law_spoilt, D__law_spoilt⟩ := T.d__law_spoilt
  have G__law_spoilt : FnG P w K mg base 2 a__law_spoilt fd__law_spoilt ["_law_table_here", "_law_modulus", "_law_digits"] (spQ K cl f__law_spoilt) := ok__law_spoilt hS T D__law_spoilt
  obtain ⟨a__law_told, fd__law_told, D__law_told⟩ := T.d__law_told
  have G__law_told : FnG P w K mg base 7 a__law_told fd__law_told ["_law_table_here", "_law_modulus", "_law_alone"] (spQ K cl f__law_told) := ok__law_told hS T D__law_told
  obtain ⟨a__law_due, fd__law_due, D__law_due⟩ := T.d__law_due
  have G__law_due : FnG P w K mg base 2 a__law_due fd__law_due ["_law_table_here", "_law_modulus"] (spQ K cl f__law_due) := ok__law_due hS T D__law_due
  refine q_funG (k := 7) (e_law) D.fn sc_law rfl rfl fun cdv A outer s H E hr hG tk => ?_
  have O := T.O
  have hu65 := hu65_of hr
  have hu64 := hr.units
  have hu1 := hu1_of hr
  have hu0 := hr.units0
  have hr__law_numbers := hr.mono (show 1 ≤ 7 by decide)
  have hr__law_table := hr.mono (show 1 ≤ 7 by decide)
  have hr__law_spoilt := hr.mono (show 2 ≤ 7 by decide)
  have hr__law_told := hr.mono (show 7 ≤ 7 by decide)
  have hr__law_due := hr.mono (show 2 ≤ 7 by decide)
  exact (qs_cons (qs_for (body := b_law_0) (L2.passes_of rfl) rfl (qi_enum T.b_enumerate (q_add (q_lst (qz_cons q_int qz_nil)) (q_slice (q_var 0) qo_none (qo_some q_int)))) (qg_tup (n := 2) rfl (qgs_cons (qg_name (i := 1) sc_law.nd) (qgs_cons (qg_name (i := 2) sc_law.nd) qgs_nil)) (tgl_cons (tgl_cons tgl_nil))) (qs_cons (qs_set (i := 3) sc_law.nd (q_cN ⟨⟨_, _, _, _, G__law_numbers, hr__law_numbers, D__law_numbers.mgx, D__law_numbers.fn.kp, D__law_numbers.bd⟩⟩ hG (qz_cons (q_var 2) (qz_cons (q_add q_int (q_var 1)) (qz_cons (q_add (q_lst (qz_cons q_int (qz_cons q_int (qz_cons q_int (qz_cons q_int (qz_cons q_int (qz_cons q_int (qz_cons q_int (qz_cons q_int (qz_cons q_int qz_nil)))))))))) (q_rep (q_lst (qz_cons q_int qz_nil)) q_int)) qz_nil))))) (qs_cons (qs_asgT (q_cN ⟨⟨_, _, _, _, G__law_table, hr__law_table, D__law_table.mgx, D__law_table.fn.kp, D__law_table.bd⟩⟩ hG (qz_cons (q_var 3) qz_nil)) (qg_tup (n := 2) rfl (qgs_cons (qg_name (i := 4) sc_law.nd) (qgs_cons (qg_name (i := 5) sc_law.nd) qgs_nil)) (tgl_cons (tgl_cons tgl_nil)))) (qs_cons (qs_if (qt_cmp (q_gt (q_sub_ix hu1 (q_var 3) q_int) q_int)) (qs_one (qs_asgT (q_cN ⟨⟨_, _, _, _, G__law_spoilt, hr__law_spoilt, D__law_spoilt.mgx, D__law_spoilt.fn.kp, D__law_spoilt.bd⟩⟩ hG (qz_cons (q_var 4) (qz_cons (q_var 5) (qz_cons (q_var 3) qz_nil)))) (qg_tup (n := 2) rfl (qgs_cons (qg_name (i := 4) sc_law.nd) (qgs_cons (qg_name (i := 5) sc_law.nd) qgs_nil)) (tgl_cons (tgl_cons tgl_nil))))) qs_nil) (qs_cons (qs_set (i := 6) sc_law.nd (q_repr hG hS hu64 T.b_repr (qa_cons (q_lst (qz_cons (q_var 4) (qz_cons (q_var 5) qz_nil))) qa_nil))) (qs_cons (qs_if (qw_pt (qw_or (qt_cmp (q_ne hu64 (q_cN ⟨⟨_, _, _, _, G__law_told, hr__law_told, D__law_told.mgx, D__law_told.fn.kp, D__law_told.bd⟩⟩ hG (qz_cons (q_var 4) (qz_cons (q_var 5) (qz_cons q_bl qz_nil)))) (q_cN ⟨⟨_, _, _, _, G__law_due, hr__law_due, D__law_due.mgx, D__law_due.fn.kp, D__law_due.bd⟩⟩ hG (qz_cons (q_var 4) (qz_cons (q_var 5) qz_nil))))) (qw_or1 (qt_cmp (q_ne hu64 (q_repr hG hS hu64 T.b_repr (qa_cons (q_lst (qz_cons (q_var 4) (qz_cons (q_var 5) qz_nil))) qa_nil)) (q_var 6)))))) (qs_one (qs_ret q_bl)) qs_nil) (qs_one (qs_if (qt_cmp (q_ne hu64 (q_cN ⟨⟨_, _, _, _, G__law_told, hr__law_told, D__law_told.mgx, D__law_told.fn.kp, D__law_told.bd⟩⟩ hG (qz_cons (q_var 4) (qz_cons q_non (qz_cons q_bl qz_nil)))) (q_cN ⟨⟨_, _, _, _, G__law_due, hr__law_due, D__law_due.mgx, D__law_due.fn.kp, D__law_due.bd⟩⟩ hG (qz_cons (q_var 4) (qz_cons q_int qz_nil))))) (qs_one (qs_ret q_bl)) qs_nil)))))))) (qs_one (qs_ret q_bl)))
end
set_option linter.unusedVariables false in
theorem all_mk {l : PySem.W.OpenLaw} {w : World} {K : PySem.W.Frag} {h : Heap} {mg : Str → Option Value} {fa : Addr} (X : K.In h) (G : h.Ns mainGlobals mg) (hfa : mg "law" = some (.ref fa)) (nl : noLst K = true) (lt : LawOk f_law 63)
    {C_Rows : Addr} (g_Rows : PySem.W.nsIn K mainGlobals "Rows" = some (some (.ref C_Rows)))
    {C_NoRule : Addr} (g_NoRule : PySem.W.nsIn K mainGlobals "NoRule" = some (some (.ref C_NoRule)))
    {C_NoRules : Addr} (g_NoRules : PySem.W.nsIn K mainGlobals "NoRules" = some (some (.ref C_NoRules)))
    {C_NoSet : Addr} (g_NoSet : PySem.W.nsIn K mainGlobals "NoSet" = some (some (.ref C_NoSet)))
    {C_FreeError : Addr} (g_FreeError : PySem.W.nsIn K mainGlobals "FreeError" = some (some (.ref C_FreeError)))
    {C_Rule : Addr} (g_Rule : PySem.W.nsIn K mainGlobals "Rule" = some (some (.ref C_Rule)))
    {oc0 kV0 dc0 pm0 cd0 ct0 : Value} {od0 an0 : Option Addr} {sl0 : Array (Option Value)} {f0 : Addr} (a0 : PySem.W.nsIn K mainGlobals "_law_numbers" = some (some (.ref f0)))
    (l0 : K.lookup f0 = some ⟨oc0, od0, .func (PySem.W.fnOf "_law_numbers" "_law_numbers" (defArgs s__law_numbers) (defBody s__law_numbers) (defScope s__law_numbers) .none kV0 dc0 pm0 an0 cd0 ct0), sl0⟩)
    (c0 : PySem.W.codeIn K cd0 "_law_numbers" = true)
    (k0 : PySem.W.keepIn K (.ref f0) = true)
    {oc1 kV1 dc1 pm1 cd1 ct1 : Value} {od1 an1 : Option Addr} {sl1 : Array (Option Value)} {f1 : Addr} (a1 : PySem.W.nsIn K mainGlobals "_law_table" = some (some (.ref f1)))
    (l1 : K.lookup f1 = some ⟨oc1, od1, .func (PySem.W.fnOf "_law_table" "_law_table" (defArgs s__law_table) (defBody s__law_table) (defScope s__law_table) .none kV1 dc1 pm1 an1 cd1 ct1), sl1⟩)
    (c1 : PySem.W.codeIn K cd1 "_law_table" = true)
    (k1 : PySem.W.keepIn K (.ref f1) = true)
    {oc2 kV2 dc2 pm2 cd2 ct2 : Value} {od2 an2 : Option Addr} {sl2 : Array (Option Value)} {f2 : Addr} (a2 : PySem.W.nsIn K mainGlobals "_law_odd_number" = some (some (.ref f2)))
    (l2 : K.lookup f2 = some ⟨oc2, od2, .func (PySem.W.fnOf "_law_odd_number" "_law_odd_number" (defArgs s__law_odd_number) (defBody s__law_odd_number) (defScope s__law_odd_number) .none kV2 dc2 pm2 an2 cd2 ct2), sl2⟩)
    (c2 : PySem.W.codeIn K cd2 "_law_odd_number" = true)
    (k2 : PySem.W.keepIn K (.ref f2) = true)
    {oc3 kV3 dc3 pm3 cd3 ct3 : Value} {od3 an3 : Option Addr} {sl3 : Array (Option Value)} {f3 : Addr} (a3 : PySem.W.nsIn K mainGlobals "_law_spoilt" = some (some (.ref f3)))
    (l3 : K.lookup f3 = some ⟨oc3, od3, .func (PySem.W.fnOf "_law_spoilt" "_law_spoilt" (defArgs s__law_spoilt) (defBody s__law_spoilt) (defScope s__law_spoilt) .none kV3 dc3 pm3 an3 cd3 ct3), sl3⟩)
    (c3 : PySem.W.codeIn K cd3 "_law_spoilt" = true)
    (k3 : PySem.W.keepIn K (.ref f3) = true)
    {oc4 kV4 dc4 pm4 cd4 ct4 : Value} {od4 an4 : Option Addr} {sl4 : Array (Option Value)} {f4 : Addr} (a4 : PySem.W.nsIn K mainGlobals "_law_no_rule" = some (some (.ref f4)))
    (l4 : K.lookup f4 = some ⟨oc4, od4, .func (PySem.W.fnOf "_law_no_rule" "_law_no_rule" (defArgs s__law_no_rule) (defBody s__law_no_rule) (defScope s__law_no_rule) .none kV4 dc4 pm4 an4 cd4 ct4), sl4⟩)
    (c4 : PySem.W.codeIn K cd4 "_law_no_rule" = true)
    (k4 : PySem.W.keepIn K (.ref f4) = true)
    {oc5 kV5 dc5 pm5 cd5 ct5 : Value} {od5 an5 : Option Addr} {sl5 : Array (Option Value)} {f5 : Addr} (a5 : PySem.W.findIn K (.ref C_NoRule) "__init__" = some (some (.ref f5)))
    (l5 : K.lookup f5 = some ⟨oc5, od5, .func (PySem.W.fnOf "__init__" "NoRule.__init__" (defArgs s_NoRule__init) (defBody s_NoRule__init) (defScope s_NoRule__init) .none kV5 dc5 pm5 an5 cd5 ct5), sl5⟩)
    (c5 : PySem.W.codeIn K cd5 "NoRule.__init__" = true)
    (k5 : PySem.W.keepIn K (.ref f5) = true)
    {oc6 kV6 dc6 pm6 cd6 ct6 : Value} {od6 an6 : Option Addr} {sl6 : Array (Option Value)} {f6 : Addr} (a6 : PySem.W.nsIn K mainGlobals "look_at_list" = some (some (.ref f6)))
    (l6 : K.lookup f6 = some ⟨oc6, od6, .func (PySem.W.fnOf "look_at_list" "look_at_list" (defArgs s_look_at_list) (defBody s_look_at_list) (defScope s_look_at_list) .none kV6 dc6 pm6 an6 cd6 ct6), sl6⟩)
    (c6 : PySem.W.codeIn K cd6 "look_at_list" = true)
    (k6 : PySem.W.keepIn K (.ref f6) = true)
    {oc7 kV7 dc7 pm7 cd7 ct7 : Value} {od7 an7 : Option Addr} {sl7 : Array (Option Value)} {f7 : Addr} (a7 : PySem.W.nsIn K mainGlobals "is_whole" = some (some (.ref f7)))
    (l7 : K.lookup f7 = some ⟨oc7, od7, .func (PySem.W.fnOf "is_whole" "is_whole" (defArgs s_is_whole) (defBody s_is_whole) (defScope s_is_whole) .none kV7 dc7 pm7 an7 cd7 ct7), sl7⟩)
    (c7 : PySem.W.codeIn K cd7 "is_whole" = true)
    (k7 : PySem.W.keepIn K (.ref f7) = true)
    {oc8 kV8 dc8 pm8 cd8 ct8 : Value} {od8 an8 : Option Addr} {sl8 : Array (Option Value)} {f8 : Addr} (a8 : PySem.W.nsIn K mainGlobals "is_within" = some (some (.ref f8)))
    (l8 : K.lookup f8 = some ⟨oc8, od8, .func (PySem.W.fnOf "is_within" "is_within" (defArgs s_is_within) (defBody s_is_within) (defScope s_is_within) .none kV8 dc8 pm8 an8 cd8 ct8), sl8⟩)
    (c8 : PySem.W.codeIn K cd8 "is_within" = true)
    (k8 : PySem.W.keepIn K (.ref f8) = true)
    {oc9 kV9 dc9 pm9 cd9 ct9 : Value} {od9 an9 : Option Addr} {sl9 : Array (Option Value)} {f9 : Addr} (a9 : PySem.W.nsIn K mainGlobals "is_row" = some (some (.ref f9)))
    (l9 : K.lookup f9 = some ⟨oc9, od9, .func (PySem.W.fnOf "is_row" "is_row" (defArgs s_is_row) (defBody s_is_row) (defScope s_is_row) .none kV9 dc9 pm9 an9 cd9 ct9), sl9⟩)
    (c9 : PySem.W.codeIn K cd9 "is_row" = true)
    (k9 : PySem.W.keepIn K (.ref f9) = true)
    {oc10 kV10 dc10 pm10 cd10 ct10 : Value} {od10 an10 : Option Addr} {sl10 : Array (Option Value)} {f10 : Addr} (a10 : PySem.W.nsIn K mainGlobals "look_at_table" = some (some (.ref f10)))
    (l10 : K.lookup f10 = some ⟨oc10, od10, .func (PySem.W.fnOf "look_at_table" "look_at_table" (defArgs s_look_at_table) (defBody s_look_at_table) (defScope s_look_at_table) .none kV10 dc10 pm10 an10 cd10 ct10), sl10⟩)
    (c10 : PySem.W.codeIn K cd10 "look_at_table" = true)
    (k10 : PySem.W.keepIn K (.ref f10) = true)
    {oc11 kV11 dc11 pm11 cd11 ct11 : Value} {od11 an11 : Option Addr} {sl11 : Array (Option Value)} {f11 : Addr} (a11 : PySem.W.findIn K (.ref C_Rule) "__init__" = some (some (.ref f11)))
    (l11 : K.lookup f11 = some ⟨oc11, od11, .func (PySem.W.fnOf "__init__" "Rule.__init__" (defArgs s_Rule__init) (defBody s_Rule__init) (defScope s_Rule__init) .none kV11 dc11 pm11 an11 cd11 ct11), sl11⟩)
    (c11 : PySem.W.codeIn K cd11 "Rule.__init__" = true)
    (k11 : PySem.W.keepIn K (.ref f11) = true)
    {oc12 dc12 pm12 cd12 ct12 : Value} {od12 an12 : Option Addr} {sl12 : Array (Option Value)} {f12 : Addr} (a12 : PySem.W.findIn K (.ref C_Rows) "__init__" = some (some (.ref f12)))
    {D12 : Addr} (l12 : K.lookup f12 = some ⟨oc12, od12, .func (PySem.W.fnOf "__init__" "Rows.__init__" (defArgs s_Rows__init) (defBody s_Rows__init) (defScope s_Rows__init) .none (.ref D12) dc12 pm12 an12 cd12 ct12), sl12⟩)
    {kt12_0 : Tok} (kd12_0 : PySem.W.nsIn K D12 "prime" = some (some (.int 2 kt12_0)))
    (c12 : PySem.W.codeIn K cd12 "Rows.__init__" = true)
    (k12 : PySem.W.keepIn K (.ref f12) = true)
    {oc13 kV13 dc13 pm13 cd13 ct13 : Value} {od13 an13 : Option Addr} {sl13 : Array (Option Value)} {f13 : Addr} (a13 : PySem.W.findIn K (.ref C_Rows) "__len__" = some (some (.ref f13)))
    (af13 : PySem.W.isFn K (.ref f13) = true)
    (l13 : K.lookup f13 = some ⟨oc13, od13, .func (PySem.W.fnOf "__len__" "Rule.__len__" (defArgs s_Rule__len) (defBody s_Rule__len) (defScope s_Rule__len) .none kV13 dc13 pm13 an13 cd13 ct13), sl13⟩)
    (c13 : PySem.W.codeIn K cd13 "Rule.__len__" = true)
    (k13 : PySem.W.keepIn K (.ref f13) = true)
    {oc14 kV14 dc14 pm14 cd14 ct14 : Value} {od14 an14 : Option Addr} {sl14 : Array (Option Value)} {f14 : Addr} (a14 : PySem.W.nsIn K mainGlobals "_law_told" = some (some (.ref f14)))
    (l14 : K.lookup f14 = some ⟨oc14, od14, .func (PySem.W.fnOf "_law_told" "_law_told" (defArgs s__law_told) (defBody s__law_told) (defScope s__law_told) .none kV14 dc14 pm14 an14 cd14 ct14), sl14⟩)
    (c14 : PySem.W.codeIn K cd14 "_law_told" = true)
    (k14 : PySem.W.keepIn K (.ref f14) = true)
    {oc15 kV15 dc15 pm15 cd15 ct15 : Value} {od15 an15 : Option Addr} {sl15 : Array (Option Value)} {f15 : Addr} (a15 : PySem.W.nsIn K mainGlobals "_law_is_row" = some (some (.ref f15)))
    (l15 : K.lookup f15 = some ⟨oc15, od15, .func (PySem.W.fnOf "_law_is_row" "_law_is_row" (defArgs s__law_is_row) (defBody s__law_is_row) (defScope s__law_is_row) .none kV15 dc15 pm15 an15 cd15 ct15), sl15⟩)
    (c15 : PySem.W.codeIn K cd15 "_law_is_row" = true)
    (k15 : PySem.W.keepIn K (.ref f15) = true)
    {oc16 kV16 dc16 pm16 cd16 ct16 : Value} {od16 an16 : Option Addr} {sl16 : Array (Option Value)} {f16 : Addr} (a16 : PySem.W.nsIn K mainGlobals "_law_due" = some (some (.ref f16)))
    (l16 : K.lookup f16 = some ⟨oc16, od16, .func (PySem.W.fnOf "_law_due" "_law_due" (defArgs s__law_due) (defBody s__law_due) (defScope s__law_due) .none kV16 dc16 pm16 an16 cd16 ct16), sl16⟩)
    (c16 : PySem.W.codeIn K cd16 "_law_due" = true)
    (k16 : PySem.W.keepIn K (.ref f16) = true)
    {oc17 kV17 dc17 pm17 cd17 ct17 : Value} {od17 an17 : Option Addr} {sl17 : Array (Option Value)} {f17 : Addr} (a17 : PySem.W.nsIn K mainGlobals "law" = some (some (.ref f17)))
    (l17 : K.lookup f17 = some ⟨oc17, od17, .func (PySem.W.fnOf "law" "law" (defArgs s_law) (defBody s_law) (defScope s_law) .none kV17 dc17 pm17 an17 cd17 ct17), sl17⟩)
    (c17 : PySem.W.codeIn K cd17 "law" = true)
    (k17 : PySem.W.keepIn K (.ref f17) = true)
    (hn0 : PySem.W.specialIn K (.builtin "object.__class__") "__get__" = some (some (.builtin "getset_descriptor.__get__")))
    (ht0 : PySem.W.takesIn K (.builtin "object.__class__") = some true)
    (m1_Rows : PySem.W.makesIn K C_Rows = true)
    (m2_Rows : PySem.W.findIn K (.ref C_Rows) "__init__" = some (some (.ref f12)))
    (m3_Rows : PySem.W.isFn K (.ref f12) = true)
    (m4_Rows : PySem.W.keepIn K (.ref C_Rows) = true)
    (i1_Rows : PySem.W.plainGet K C_Rows Str.empty = true)
    (i2_Rows : PySem.W.hasDictIn K C_Rows = true)
    (i3_Rows : PySem.W.plainOver K C_Rows = true)
    (i4_Rows : PySem.W.findIn K (.ref C_Rows) "__setattr__" = some (some (.builtin "object.__setattr__")))
    (i5_Rows : PySem.W.findIn K (.ref C_Rows) "__class__" = some (some (.builtin "object.__class__")))
    (i6_Rows : PySem.W.mroIn K C_Rows (.type "object") = some true)
    (na_number_Rows : PySem.W.findIn K (.ref C_Rows) "number" = some none)
    (na_own_prime_Rows : PySem.W.findIn K (.ref C_Rows) "own_prime" = some none)
    (na_own_table_Rows : PySem.W.findIn K (.ref C_Rows) "own_table" = some none)
    (na_own_things_Rows : PySem.W.findIn K (.ref C_Rows) "own_things" = some none)
    (na_part_Rows : PySem.W.findIn K (.ref C_Rows) "part" = some none)
    (e1_NoRule : PySem.W.findIn K (.ref C_NoRule) "__getattribute__" = some (some (.builtin "BaseException.__getattribute__")))
    (e2_NoRule : PySem.W.findIn K (.ref C_NoRule) "__getattr__" = some none)
    (e3_NoRule : PySem.W.subIn K (.ref C_NoRule) (.type "BaseException") = some true)
    (e4_NoRule : PySem.W.hasDictIn K C_NoRule = true)
    (e5_NoRule : PySem.W.findIn K (.ref C_NoRule) "__class__" = some (some (.builtin "object.__class__")))
    (e6_NoRule : PySem.W.mroIn K C_NoRule (.type "object") = some true)
    (e7_NoRule : PySem.W.excInitIn K C_NoRule [.type "Exception", .type "BaseException", .type "object"] "Exception.__new__" = true)
    (e8_NoRule : PySem.W.excOver K C_NoRule [.type "Exception", .type "BaseException", .type "object"] = true)
    (e9_NoRule : PySem.W.findIn K (.ref C_NoRule) "__setattr__" = some (some (.builtin "object.__setattr__")))
    (e10_NoRule : PySem.W.typeIn K (.ref C_NoRule) = some (.type "type"))
    (e11_NoRule : PySem.W.keepIn K (.ref C_NoRule) = true)
    (e12_NoRule : PySem.W.typeIn K (.ref f5) = some (.type "function"))
    (e13_NoRule : PySem.W.readsIn K C_FreeError (.type "type") = true)
    (e14_NoRule : PySem.W.specialIn K (.ref C_FreeError) "__getattribute__" = some (some (.builtin "type.__getattribute__")))
    (e15_NoRule : PySem.W.findCls K (.ref C_FreeError) (.type "type") "__init__" = some (.val (.builtin "Exception.__init__")))
    (nx_number_NoRule : PySem.W.findIn K (.ref C_NoRule) "number" = some none)
    (nx_own_prime_NoRule : PySem.W.findIn K (.ref C_NoRule) "own_prime" = some none)
    (nx_own_table_NoRule : PySem.W.findIn K (.ref C_NoRule) "own_table" = some none)
    (nx_own_things_NoRule : PySem.W.findIn K (.ref C_NoRule) "own_things" = some none)
    (nx_part_NoRule : PySem.W.findIn K (.ref C_NoRule) "part" = some none)
    (ef0_NoRule : PySem.W.findIn K (.ref C_NoRule) "part" = some none)
    (ef1_NoRule : PySem.W.findIn K (.ref C_NoRule) "number" = some none)
    (q1_Rule_Rule__init : PySem.W.readsIn K C_Rule (.type "type") = true)
    (q2_Rule_Rule__init : PySem.W.specialIn K (.ref C_Rule) "__getattribute__" = some (some (.builtin "type.__getattribute__")))
    (q3_Rule_Rule__init : PySem.W.findCls K (.ref C_Rule) (.type "type") "__init__" = some (.val (.ref f11)))
    (t00_NoRule : PySem.W.kitOne K (.type "NoneType") (.ref C_NoRule) = some false)
    (t01_NoRule : PySem.W.kitOne K (.type "bool") (.ref C_NoRule) = some false)
    (t02_NoRule : PySem.W.kitOne K (.type "int") (.ref C_NoRule) = some false)
    (t03_NoRule : PySem.W.kitOne K (.type "str") (.ref C_NoRule) = some false)
    (t04_NoRule : PySem.W.kitOne K (.type "tuple") (.ref C_NoRule) = some false)
    (t05_NoRule : PySem.W.kitOne K (.type "list") (.ref C_NoRule) = some false)
    (t06_NoRule : PySem.W.kitOne K (.type "dict") (.ref C_NoRule) = some false)
    (t07_NoRule : PySem.W.kitOne K (.type "set") (.ref C_NoRule) = some false)
    (t_NoRule_Rows : PySem.W.kitOne K (.ref C_Rows) (.ref C_NoRule) = some false)
    (t_NoRule_NoRule : PySem.W.kitOne K (.ref C_NoRule) (.ref C_NoRule) = some true)
    (t00_NoRules : PySem.W.kitOne K (.type "NoneType") (.ref C_NoRules) = some false)
    (t01_NoRules : PySem.W.kitOne K (.type "bool") (.ref C_NoRules) = some false)
    (t02_NoRules : PySem.W.kitOne K (.type "int") (.ref C_NoRules) = some false)
    (t03_NoRules : PySem.W.kitOne K (.type "str") (.ref C_NoRules) = some false)
    (t04_NoRules : PySem.W.kitOne K (.type "tuple") (.ref C_NoRules) = some false)
    (t05_NoRules : PySem.W.kitOne K (.type "list") (.ref C_NoRules) = some false)
    (t06_NoRules : PySem.W.kitOne K (.type "dict") (.ref C_NoRules) = some false)
    (t07_NoRules : PySem.W.kitOne K (.type "set") (.ref C_NoRules) = some false)
    (t_NoRules_Rows : PySem.W.kitOne K (.ref C_Rows) (.ref C_NoRules) = some false)
    (t_NoRules_NoRule : PySem.W.kitOne K (.ref C_NoRule) (.ref C_NoRules) = some false)
    (t00_NoSet : PySem.W.kitOne K (.type "NoneType") (.ref C_NoSet) = some false)
    (t01_NoSet : PySem.W.kitOne K (.type "bool") (.ref C_NoSet) = some false)
    (t02_NoSet : PySem.W.kitOne K (.type "int") (.ref C_NoSet) = some false)
    (t03_NoSet : PySem.W.kitOne K (.type "str") (.ref C_NoSet) = some false)
    (t04_NoSet : PySem.W.kitOne K (.type "tuple") (.ref C_NoSet) = some false)
    (t05_NoSet : PySem.W.kitOne K (.type "list") (.ref C_NoSet) = some false)
    (t06_NoSet : PySem.W.kitOne K (.type "dict") (.ref C_NoSet) = some false)
    (t07_NoSet : PySem.W.kitOne K (.type "set") (.ref C_NoSet) = some false)
    (t_NoSet_Rows : PySem.W.kitOne K (.ref C_Rows) (.ref C_NoSet) = some false)
    (t_NoSet_NoRule : PySem.W.kitOne K (.ref C_NoRule) (.ref C_NoSet) = some false)
    (ti_bool_Rows : PySem.W.kitOne K (.ref C_Rows) (.type "bool") = some false)
    (ti_bool_NoRule : PySem.W.kitOne K (.ref C_NoRule) (.type "bool") = some false)
    (ti_int_Rows : PySem.W.kitOne K (.ref C_Rows) (.type "int") = some false)
    (ti_int_NoRule : PySem.W.kitOne K (.ref C_NoRule) (.type "int") = some false)
    (ti_list_Rows : PySem.W.kitOne K (.ref C_Rows) (.type "list") = some false)
    (ti_list_NoRule : PySem.W.kitOne K (.ref C_NoRule) (.type "list") = some false)
    (h_FreeError_NoRule : PySem.W.exmOne K (.ref C_NoRule) (.ref C_FreeError) = some true)
    (z_all : PySem.W.nsIn K mainGlobals "all" = some none)
    (z_bool : PySem.W.nsIn K mainGlobals "bool" = some none)
    (z_enumerate : PySem.W.nsIn K mainGlobals "enumerate" = some none)
    (z_int : PySem.W.nsIn K mainGlobals "int" = some none)
    (z_isinstance : PySem.W.nsIn K mainGlobals "isinstance" = some none)
    (z_len : PySem.W.nsIn K mainGlobals "len" = some none)
    (z_list : PySem.W.nsIn K mainGlobals "list" = some none)
    (z_max : PySem.W.nsIn K mainGlobals "max" = some none)
    (z_range : PySem.W.nsIn K mainGlobals "range" = some none)
    (z_repr : PySem.W.nsIn K mainGlobals "repr" = some none)
    (z_tuple : PySem.W.nsIn K mainGlobals "tuple" = some none)
    {t_MOST_THINGS : Tok} (y_MOST_THINGS : PySem.W.nsIn K mainGlobals "MOST_THINGS" = some (some (.int 16 t_MOST_THINGS)))
    {t_MOST_WIDE : Tok} (y_MOST_WIDE : PySem.W.nsIn K mainGlobals "MOST_WIDE" = some (some (.int 8 t_MOST_WIDE)))
    {va_PRIMES : Addr} (v1_PRIMES : PySem.W.nsIn K mainGlobals "PRIMES" = some (some (.ref va_PRIMES)))
    {vo_PRIMES : Option Addr} {vi_PRIMES : Array Value} {vn_PRIMES : Nat} {vl_PRIMES : Array (Option Value)} (v2_PRIMES : K.lookup va_PRIMES = some ⟨.type "tuple", vo_PRIMES, .seq vi_PRIMES vn_PRIMES, vl_PRIMES⟩)
    (v3_PRIMES : Vals [V.int 2, V.int 3, V.int 5, V.int 7] vi_PRIMES.toList)
    : ∃ fd : FuncData, (∀ (s : Shared) (v : Value), BindsTo s fd ⟨[v], []⟩ [("_law_script", v)]) ∧ ∀ base : Heap, K.In base → base.Ns mainGlobals mg → SysB base → FnG l.prog w K mg base 8 fa fd ["_law_script"] (spLaw K 63) := by
  have e := hfa.symm.trans (PySem.W.mg_of X G a17)
  cases e
  have F0 := fun_mk (st := s__law_numbers) l0 c0 k0
  have B0 : L2.Binds K _ ["_law_cell", "_law_salt", "_law_sizes"] [] := F0.binds (ps := ["_law_cell", "_law_salt", "_law_sizes"]) fun _ _ _ _ _ _ us hl => match us, hl with | [_, _, _], _ => rfl
  have D0 : DfG K mg "_law_numbers" s__law_numbers ["_law_cell", "_law_salt", "_law_sizes"] _ _ := ⟨.ofFun F0, PySem.W.mg_of X G a0, B0⟩
  have F1 := fun_mk (st := s__law_table) l1 c1 k1
  have B1 : L2.Binds K _ ["_law_digits"] [] := F1.binds (ps := ["_law_digits"]) fun _ _ _ _ _ _ us hl => match us, hl with | [_], _ => rfl
  have D1 : DfG K mg "_law_table" s__law_table ["_law_digits"] _ _ := ⟨.ofFun F1, PySem.W.mg_of X G a1, B1⟩
  have F2 := fun_mk (st := s__law_odd_number) l2 c2 k2
  have B2 : L2.Binds K _ ["_law_digit"] [] := F2.binds (ps := ["_law_digit"]) fun _ _ _ _ _ _ us hl => match us, hl with | [_], _ => rfl
  have D2 : DfG K mg "_law_odd_number" s__law_odd_number ["_law_digit"] _ _ := ⟨.ofFun F2, PySem.W.mg_of X G a2, B2⟩
  have F3 := fun_mk (st := s__law_spoilt) l3 c3 k3
  have B3 : L2.Binds K _ ["_law_table_here", "_law_modulus", "_law_digits"] [] := F3.binds (ps := ["_law_table_here", "_law_modulus", "_law_digits"]) fun _ _ _ _ _ _ us hl => match us, hl with | [_, _, _], _ => rfl
  have D3 : DfG K mg "_law_spoilt" s__law_spoilt ["_law_table_here", "_law_modulus", "_law_digits"] _ _ := ⟨.ofFun F3, PySem.W.mg_of X G a3, B3⟩
  have F4 := fun_mk (st := s__law_no_rule) l4 c4 k4
  have B4 : L2.Binds K _ ["_law_made"] [] := F4.binds (ps := ["_law_made"]) fun _ _ _ _ _ _ us hl => match us, hl with | [_], _ => rfl
  have D4 : DfG K mg "_law_no_rule" s__law_no_rule ["_law_made"] _ _ := ⟨.ofFun F4, PySem.W.mg_of X G a4, B4⟩
  have F5 := fun_mk (st := s_NoRule__init) l5 c5 k5
  have B5 : L2.Binds K _ ["self", "part", "number"] [] := F5.binds (ps := ["self", "part", "number"]) fun _ _ _ _ _ _ us hl => match us, hl with | [_, _, _], _ => rfl
  have F6 := fun_mk (st := s_look_at_list) l6 c6 k6
  have B6 : L2.Binds K _ ["part", "thing"] [] := F6.binds (ps := ["part", "thing"]) fun _ _ _ _ _ _ us hl => match us, hl with | [_, _], _ => rfl
  have D6 : DfG K mg "look_at_list" s_look_at_list ["part", "thing"] _ _ := ⟨.ofFun F6, PySem.W.mg_of X G a6, B6⟩
  have F7 := fun_mk (st := s_is_whole) l7 c7 k7
  have B7 : L2.Binds K _ ["thing"] [] := F7.binds (ps := ["thing"]) fun _ _ _ _ _ _ us hl => match us, hl with | [_], _ => rfl
  have D7 : DfG K mg "is_whole" s_is_whole ["thing"] _ _ := ⟨.ofFun F7, PySem.W.mg_of X G a7, B7⟩
  have F8 := fun_mk (st := s_is_within) l8 c8 k8
  have B8 : L2.Binds K _ ["thing", "least", "most"] [] := F8.binds (ps := ["thing", "least", "most"]) fun _ _ _ _ _ _ us hl => match us, hl with | [_, _, _], _ => rfl
  have D8 : DfG K mg "is_within" s_is_within ["thing", "least", "most"] _ _ := ⟨.ofFun F8, PySem.W.mg_of X G a8, B8⟩
  have F9 := fun_mk (st := s_is_row) l9 c9 k9
  have B9 : L2.Binds K _ ["prime", "thing", "wide"] [] := F9.binds (ps := ["prime", "thing", "wide"]) fun _ _ _ _ _ _ us hl => match us, hl with | [_, _, _], _ => rfl
  have D9 : DfG K mg "is_row" s_is_row ["prime", "thing", "wide"] _ _ := ⟨.ofFun F9, PySem.W.mg_of X G a9, B9⟩
  have F10 := fun_mk (st := s_look_at_table) l10 c10 k10
  have B10 : L2.Binds K _ ["prime", "table"] [] := F10.binds (ps := ["prime", "table"]) fun _ _ _ _ _ _ us hl => match us, hl with | [_, _], _ => rfl
  have D10 : DfG K mg "look_at_table" s_look_at_table ["prime", "table"] _ _ := ⟨.ofFun F10, PySem.W.mg_of X G a10, B10⟩
  have F11 := fun_mk (st := s_Rule__init) l11 c11 k11
  have B11 : L2.Binds K _ ["self", "many"] [] := F11.binds (ps := ["self", "many"]) fun _ _ _ _ _ _ us hl => match us, hl with | [_, _], _ => rfl
  have F12 := fun_mk (st := s_Rows__init) l12 c12 k12
  have FD12 : L2.FunD K "__init__" "Rows.__init__" (defArgs s_Rows__init) (defBody s_Rows__init) (defScope s_Rows__init) [] [("prime", V.int 2)] f12 _ := ⟨⟨_, _, .none, .ref D12, _, _, _, _, _, _, rfl, l12, c12, .inl ⟨rfl, rfl⟩, .inr ⟨D12, rfl, (List.forall_mem_cons.mpr ⟨⟨_, kd12_0, ⟨_, rfl⟩⟩, (fun _ h => by cases h)⟩)⟩⟩, k12⟩
  obtain ⟨ds12, vl12, B12⟩ := FD12.binds0 (ps := ["self", "table", "prime"]) 2 (by simp) rfl (fun D doc pm an cdv ct us ks h1 h2 => match us, ks, h1, h2 with | [_, _], [_], _, _ => ⟨_, _, _, _, _, _, rfl, rfl, rfl⟩)
  obtain ⟨mv12, KB12⟩ := FD12.kbinds0 (ps := ["self", "table", "prime"]) 2 ["prime"] [] (fun us _ ws => us ++ ws) (by simp) (by simp) (fun r1 _ r3 => r1.append r3) (fun D doc pm an cdv ct us mv ws h1 h2 h3 => match us, mv, ws, h1, h2, h3 with | [_, _], [], [_], _, _, _ => rfl)
  have F13 := fun_mk (st := s_Rule__len) l13 c13 k13
  have B13 : L2.Binds K _ ["self"] [] := F13.binds (ps := ["self"]) fun _ _ _ _ _ _ us hl => match us, hl with | [_], _ => rfl
  have F14 := fun_mk (st := s__law_told) l14 c14 k14
  have B14 : L2.Binds K _ ["_law_table_here", "_law_modulus", "_law_alone"] [] := F14.binds (ps := ["_law_table_here", "_law_modulus", "_law_alone"]) fun _ _ _ _ _ _ us hl => match us, hl with | [_, _, _], _ => rfl
  have D14 : DfG K mg "_law_told" s__law_told ["_law_table_here", "_law_modulus", "_law_alone"] _ _ := ⟨.ofFun F14, PySem.W.mg_of X G a14, B14⟩
  have F15 := fun_mk (st := s__law_is_row) l15 c15 k15
  have B15 : L2.Binds K _ ["_law_modulus", "_law_row", "_law_wide"] [] := F15.binds (ps := ["_law_modulus", "_law_row", "_law_wide"]) fun _ _ _ _ _ _ us hl => match us, hl with | [_, _, _], _ => rfl
  have D15 : DfG K mg "_law_is_row" s__law_is_row ["_law_modulus", "_law_row", "_law_wide"] _ _ := ⟨.ofFun F15, PySem.W.mg_of X G a15, B15⟩
  have F16 := fun_mk (st := s__law_due) l16 c16 k16
  have B16 : L2.Binds K _ ["_law_table_here", "_law_modulus"] [] := F16.binds (ps := ["_law_table_here", "_law_modulus"]) fun _ _ _ _ _ _ us hl => match us, hl with | [_, _], _ => rfl
  have D16 : DfG K mg "_law_due" s__law_due ["_law_table_here", "_law_modulus"] _ _ := ⟨.ofFun F16, PySem.W.mg_of X G a16, B16⟩
  have F17 := fun_mk (st := s_law) l17 c17 k17
  have B17 : L2.Binds K _ ["_law_script"] [] := F17.binds (ps := ["_law_script"]) fun _ _ _ _ _ _ us hl => match us, hl with | [_], _ => rfl
  have D17 : DfG K mg "law" s_law ["_law_script"] _ _ := ⟨.ofFun F17, PySem.W.mg_of X G a17, B17⟩
  let cl : Cl := { i := fun c => List.lookup c ([("Rows", C_Rows)] : List (String × Addr)), e := fun c => List.lookup c ([("NoRule", C_NoRule)] : List (String × Addr)), r0 := .non }
  have T : Txt K mg cl := {
    O := ⟨(lookup_all (l := [("Rows", C_Rows)]) (List.forall_mem_cons.mpr ⟨⟨⟨i1_Rows, i2_Rows, i3_Rows, i4_Rows⟩, i5_Rows, hn0, ht0, i6_Rows⟩, (fun _ h => by cases h)⟩)), (lookup_all (l := [("NoRule", C_NoRule)]) (List.forall_mem_cons.mpr ⟨⟨e1_NoRule, e2_NoRule, e3_NoRule, e4_NoRule, e5_NoRule, hn0, ht0, e6_NoRule⟩, (fun _ h => by cases h)⟩))⟩
    d__law_numbers := ⟨_, _, D0⟩
    d__law_table := ⟨_, _, D1⟩
    d__law_odd_number := ⟨_, _, D2⟩
    d__law_spoilt := ⟨_, _, D3⟩
    d__law_no_rule := ⟨_, _, D4⟩
    d_look_at_list := ⟨_, _, D6⟩
    d_is_whole := ⟨_, _, D7⟩
    d_is_within := ⟨_, _, D8⟩
    d_is_row := ⟨_, _, D9⟩
    d_look_at_table := ⟨_, _, D10⟩
    w_Rule__len := ⟨_, _, fun c C hm hc => ((List.forall_mem_cons.mpr ⟨(show ∀ C, cl.i "Rows" = some C → Meth K C "__len__" _ from fun C hc => by simp [cl, List.lookup] at hc; subst hc; exact ⟨a13, af13, k13⟩), (fun _ h => by cases h)⟩) : ∀ c ∈ ["Rows"], ∀ C, cl.i c = some C → Meth K C "__len__" _) c hm C hc, .ofFun F13, B13⟩
    d__law_told := ⟨_, _, D14⟩
    d__law_is_row := ⟨_, _, D15⟩
    d__law_due := ⟨_, _, D16⟩
    d_law := ⟨_, _, D17⟩
    k_Rows := ⟨_, _, _, _, ⟨m1_Rows, m2_Rows, m3_Rows, m4_Rows⟩, PySem.W.mg_of X G g_Rows, by simp [cl, List.lookup], .ofFun F12, B12, vl12, KB12⟩
    q_Rule_Rule__init := ⟨_, _, _, ⟨⟨.type "type", ⟨q1_Rule_Rule__init, q2_Rule_Rule__init⟩, q3_Rule_Rule__init⟩, k11⟩, PySem.W.mg_of X G g_Rule, .ofFun F11, B11⟩
    x_NoRule := ⟨_, _, _, .type "type", _, ⟨⟨PySem.F.excBase_Exception, PySem.F.store_Exception, e7_NoRule, e4_NoRule, e8_NoRule, e9_NoRule, e3_NoRule, e10_NoRule, e11_NoRule⟩, a5, e12_NoRule, PySem.W.mg_of X G g_NoRule, by simp [cl, List.lookup], .ofFun F5, B5, PySem.W.mg_of X G g_FreeError, ⟨e13_NoRule, e14_NoRule⟩, e15_NoRule⟩, ef0_NoRule, ef1_NoRule⟩
    t_NoRule := ⟨_, PySem.W.mg_of X G g_NoRule, kit_c (List.forall_mem_cons.mpr ⟨t00_NoRule, (List.forall_mem_cons.mpr ⟨t01_NoRule, (List.forall_mem_cons.mpr ⟨t02_NoRule, (List.forall_mem_cons.mpr ⟨t03_NoRule, (List.forall_mem_cons.mpr ⟨t04_NoRule, (List.forall_mem_cons.mpr ⟨t05_NoRule, (List.forall_mem_cons.mpr ⟨t06_NoRule, (List.forall_mem_cons.mpr ⟨t07_NoRule, (fun _ h => by cases h)⟩)⟩)⟩)⟩)⟩)⟩)⟩)⟩) (lookup_all (l := [("Rows", C_Rows)]) (List.forall_mem_cons.mpr ⟨(t_NoRule_Rows.trans (by simp)), (fun _ h => by cases h)⟩)) (lookup_all (l := [("NoRule", C_NoRule)]) (List.forall_mem_cons.mpr ⟨(t_NoRule_NoRule.trans (by simp)), (fun _ h => by cases h)⟩))⟩
    t_NoRules := ⟨_, PySem.W.mg_of X G g_NoRules, kit_c (List.forall_mem_cons.mpr ⟨t00_NoRules, (List.forall_mem_cons.mpr ⟨t01_NoRules, (List.forall_mem_cons.mpr ⟨t02_NoRules, (List.forall_mem_cons.mpr ⟨t03_NoRules, (List.forall_mem_cons.mpr ⟨t04_NoRules, (List.forall_mem_cons.mpr ⟨t05_NoRules, (List.forall_mem_cons.mpr ⟨t06_NoRules, (List.forall_mem_cons.mpr ⟨t07_NoRules, (fun _ h => by cases h)⟩)⟩)⟩)⟩)⟩)⟩)⟩)⟩) (lookup_all (l := [("Rows", C_Rows)]) (List.forall_mem_cons.mpr ⟨(t_NoRules_Rows.trans (by simp)), (fun _ h => by cases h)⟩)) (lookup_all (l := [("NoRule", C_NoRule)]) (List.forall_mem_cons.mpr ⟨(t_NoRules_NoRule.trans (by simp)), (fun _ h => by cases h)⟩))⟩
    t_NoSet := ⟨_, PySem.W.mg_of X G g_NoSet, kit_c (List.forall_mem_cons.mpr ⟨t00_NoSet, (List.forall_mem_cons.mpr ⟨t01_NoSet, (List.forall_mem_cons.mpr ⟨t02_NoSet, (List.forall_mem_cons.mpr ⟨t03_NoSet, (List.forall_mem_cons.mpr ⟨t04_NoSet, (List.forall_mem_cons.mpr ⟨t05_NoSet, (List.forall_mem_cons.mpr ⟨t06_NoSet, (List.forall_mem_cons.mpr ⟨t07_NoSet, (fun _ h => by cases h)⟩)⟩)⟩)⟩)⟩)⟩)⟩)⟩) (lookup_all (l := [("Rows", C_Rows)]) (List.forall_mem_cons.mpr ⟨(t_NoSet_Rows.trans (by simp)), (fun _ h => by cases h)⟩)) (lookup_all (l := [("NoRule", C_NoRule)]) (List.forall_mem_cons.mpr ⟨(t_NoSet_NoRule.trans (by simp)), (fun _ h => by cases h)⟩))⟩
    h_FreeError := ⟨_, PySem.W.mg_of X G g_FreeError, (lookup_all (l := [("NoRule", C_NoRule)]) (List.forall_mem_cons.mpr ⟨(h_FreeError_NoRule.trans (by simp)), (fun _ h => by cases h)⟩))⟩
    na_number := (lookup_all (l := [("Rows", C_Rows)]) (List.forall_mem_cons.mpr ⟨na_number_Rows, (fun _ h => by cases h)⟩))
    nx_number := (lookup_all (l := [("NoRule", C_NoRule)]) (List.forall_mem_cons.mpr ⟨nx_number_NoRule, (fun _ h => by cases h)⟩))
    na_own_prime := (lookup_all (l := [("Rows", C_Rows)]) (List.forall_mem_cons.mpr ⟨na_own_prime_Rows, (fun _ h => by cases h)⟩))
    nx_own_prime := (lookup_all (l := [("NoRule", C_NoRule)]) (List.forall_mem_cons.mpr ⟨nx_own_prime_NoRule, (fun _ h => by cases h)⟩))
    na_own_table := (lookup_all (l := [("Rows", C_Rows)]) (List.forall_mem_cons.mpr ⟨na_own_table_Rows, (fun _ h => by cases h)⟩))
    nx_own_table := (lookup_all (l := [("NoRule", C_NoRule)]) (List.forall_mem_cons.mpr ⟨nx_own_table_NoRule, (fun _ h => by cases h)⟩))
    na_own_things := (lookup_all (l := [("Rows", C_Rows)]) (List.forall_mem_cons.mpr ⟨na_own_things_Rows, (fun _ h => by cases h)⟩))
    nx_own_things := (lookup_all (l := [("NoRule", C_NoRule)]) (List.forall_mem_cons.mpr ⟨nx_own_things_NoRule, (fun _ h => by cases h)⟩))
    na_part := (lookup_all (l := [("Rows", C_Rows)]) (List.forall_mem_cons.mpr ⟨na_part_Rows, (fun _ h => by cases h)⟩))
    nx_part := (lookup_all (l := [("NoRule", C_NoRule)]) (List.forall_mem_cons.mpr ⟨nx_part_NoRule, (fun _ h => by cases h)⟩))
    b_all := PySem.W.mg_none_of X G z_all
    b_bool := PySem.W.mg_none_of X G z_bool
    b_enumerate := PySem.W.mg_none_of X G z_enumerate
    b_int := PySem.W.mg_none_of X G z_int
    b_isinstance := PySem.W.mg_none_of X G z_isinstance
    b_len := PySem.W.mg_none_of X G z_len
    b_list := PySem.W.mg_none_of X G z_list
    b_max := PySem.W.mg_none_of X G z_max
    b_range := PySem.W.mg_none_of X G z_range
    b_repr := PySem.W.mg_none_of X G z_repr
    b_tuple := PySem.W.mg_none_of X G z_tuple
    i_bool := kit_b kitT_bool (lookup_all (l := [("Rows", C_Rows)]) (List.forall_mem_cons.mpr ⟨ti_bool_Rows, (fun _ h => by cases h)⟩)) (lookup_all (l := [("NoRule", C_NoRule)]) (List.forall_mem_cons.mpr ⟨ti_bool_NoRule, (fun _ h => by cases h)⟩))
    i_int := kit_b kitT_int (lookup_all (l := [("Rows", C_Rows)]) (List.forall_mem_cons.mpr ⟨ti_int_Rows, (fun _ h => by cases h)⟩)) (lookup_all (l := [("NoRule", C_NoRule)]) (List.forall_mem_cons.mpr ⟨ti_int_NoRule, (fun _ h => by cases h)⟩))
    i_list := kit_b kitT_list (lookup_all (l := [("Rows", C_Rows)]) (List.forall_mem_cons.mpr ⟨ti_list_Rows, (fun _ h => by cases h)⟩)) (lookup_all (l := [("NoRule", C_NoRule)]) (List.forall_mem_cons.mpr ⟨ti_list_NoRule, (fun _ h => by cases h)⟩))
    c_MOST_THINGS := ⟨_, PySem.W.mg_of X G y_MOST_THINGS⟩
    c_MOST_WIDE := ⟨_, PySem.W.mg_of X G y_MOST_WIDE⟩
    v_PRIMES := ⟨_, _, _, _, _, PySem.W.mg_of X G v1_PRIMES, v2_PRIMES, v3_PRIMES⟩
  }
  exact ⟨PySem.W.fnOf "law" "law" (defArgs s_law) (defBody s_law) (defScope s_law) .none kV17 dc17 pm17 an17 cd17 ct17, fun s v => .of_eq rfl, fun base _ _ hS => (ok_law hS T D17).imp fun _ _ _ _ q => spLaw_of lt nl q⟩
end K08
end
set_option maxHeartbeats 2000000
/-! what several laws draw: an order, lots -/
namespace LL
open PySem L2 Z
abbrev l__law_order_0 : Z.Env → RE := ePop 1 (x2 pMod (xVar 2) (xB pLen (aCons (xVar 1) (aNil))))
abbrev m__law_order : Z.Env → Os := sSeq (sSet 1 (xLstR (r1 (xB pLen (aCons (xVar 0) (aNil)))))) (sRetE (eLc (iSeq (xVar 0)) (tgN 2) (l__law_order_0) [2]))
def f__law_order : List PV → R PV := run 1 3 m__law_order
abbrev k__law_apart_0 : Z.Env → R Bool := xT (x2 (pb pIn) (xVar 3) (xVar 1))
abbrev m__law_apart : Z.Env → Os := sSeq (sSet 2 (xLc (iSeq (xVar 0)) (tgN 3) (k__law_apart_0) (xVar 3) [3])) (sRet (xOr (x2 (pb pEq) (xVar 2) (xLst (aNil))) (x2 (pb pEq) (xB pLen (aCons (xVar 2) (aNil))) (xB pMin2 (aCons (xB pLen (aCons (xVar 0) (aNil))) (aCons (xB pLen (aCons (xVar 1) (aNil))) (aNil)))))))
def f__law_apart : List PV → R PV := run 2 4 m__law_apart
abbrev l__law_lots_0 : Ex := xCall0 f__law_apart (zCons (xVar 7) (zCons (xVar 8) (aNil)))
abbrev b__law_lots_0 : Z.Env → Os := sSeq (sSet 5 (x2 pMod (x2 pIx (xVar 0) (x2 pAdd (xC (.int 2)) (x2 pMul (xC (.int 3)) (xVar 4)))) (xVar 1))) (sSeq (sSet 6 (x2 pAdd (xC (.int 1)) (x2 pMod (x2 pIx (xVar 0) (x2 pAdd (xC (.int 3)) (x2 pMul (xC (.int 3)) (xVar 4)))) (x2 pSub (xVar 1) (xVar 5))))) (sSeq (sSet 7 (xB pTup (aCons (xB pSrt (aCons (xSl (xVar 2) (xP (xVar 5)) (xP (x2 pAdd (xVar 5) (xVar 6)))) (aNil))) (aNil)))) (sIf (tFrz 3 (xT (xB pAll (aCons (xLc (iSeq (xVar 3)) (tgT (tgCons (tgN 8) (tgCons (tgN 9) (tgNil)))) (tYesF) (l__law_lots_0) [8, 9]) (aNil))))) (sApp 3 (zCons (xTup (zCons (xVar 7) (zCons (x2 pMod (x2 pIx (xVar 0) (x2 pAdd (xC (.int 4)) (x2 pMul (xC (.int 3)) (xVar 4)))) (x2 pAdd (xVar 6) (xC (.int 1)))) (aNil)))) (aNil))) (sNx))))
abbrev m__law_lots : Z.Env → Os := sSeq (sSet 2 (xCall0 f__law_order (zCons (xSl (xVar 0) (xP (xC (.int 14))) (xP (x2 pAdd (xC (.int 14)) (xVar 1)))) (aNil)))) (sSeq (sSet 3 (xLst (aNil))) (sSeq (sFor (iRng (aCons (xB pMin2 (aCons (xVar 1) (aCons (x2 pMod (x2 pIx (xVar 0) (xC (.int 0))) (xC (.int 5))) (aNil)))) (aNil))) (tgN 4) b__law_lots_0) (sFrz 3 (sRet (xTup (zCons (xC (.str "lots")) (zCons (xVar 1) (zCons (xVar 3) (aNil)))))))))
def f__law_lots : List PV → R PV := run 2 10 m__law_lots
theorem lcL_mapm {α : Type} (g : α → PV) (p : α → PV) {tg : Tg} {c : Z.Env → R Bool} {f : Ex} {γ : Z.Env} {xs : List α} (h : ∀ x ∈ xs, lcT tg c f γ (p x) = .ok (some (g x))) : lcL tg c f γ (xs.map p) = .ok (xs.map g) := by
  induction xs with
  | nil => rfl
  | cons x xs ih =>
    rw [List.map_cons, lcL_cons, h x List.mem_cons_self, ih fun y hy => h y (List.mem_cons_of_mem _ hy)]; rfl
theorem lcL_filtm {α : Type} (g : α → Option PV) (p : α → PV) {tg : Tg} {c : Z.Env → R Bool} {f : Ex} {γ : Z.Env} {xs : List α} (h : ∀ x ∈ xs, lcT tg c f γ (p x) = .ok (g x)) : lcL tg c f γ (xs.map p) = .ok (xs.filterMap g) := by
  induction xs with
  | nil => rfl
  | cons x xs ih =>
    rw [List.map_cons, lcL_cons, h x List.mem_cons_self, ih fun y hy => h y (List.mem_cons_of_mem _ hy), List.filterMap_cons]
    cases g x <;> rfl
/-- ints that pass a test -/
theorem lcL_ints (t : Int → Bool) {tg : Tg} {c : Z.Env → R Bool} {f : Ex} {γ : Z.Env} {xs : List Int} (h : ∀ x ∈ xs, lcT tg c f γ (.int x) = .ok (if t x then some (.int x) else none)) : lcL tg c f γ (xs.map .int) = .ok ((xs.filter t).map .int) := by
  rw [lcL_filtm _ _ h]
  congr 1
  induction xs with
  | nil => rfl
  | cons x xs ih =>
    rw [List.filterMap_cons, List.filter_cons]
    have ih := ih fun y hy => h y (List.mem_cons_of_mem _ hy)
    cases t x <;> simp [ih]
theorem nd_len {α : Type} [DecidableEq α] : ∀ {a b : List α}, a.Nodup → (∀ x ∈ a, x ∈ b) → a.length ≤ b.length
  | [], b, _, _ => by simp
  | x :: a, b, h, k => by
    have hx := k x List.mem_cons_self
    have hn := List.nodup_cons.mp h
    have := nd_len (a := a) (b := b.erase x) hn.2 fun y hy => (List.mem_erase_of_ne (fun (e : y = x) => hn.1 (e ▸ hy))).mpr (k y (List.mem_cons_of_mem _ hy))
    have hl := List.length_erase_of_mem hx
    have hp := List.length_pos_of_mem hx
    simp only [List.length_cons]
    omega
theorem nd_full {α : Type} [DecidableEq α] {a b : List α} (h : a.Nodup) (k : ∀ x ∈ a, x ∈ b) (l : b.length ≤ a.length) : ∀ x ∈ b, x ∈ a := fun x hx => Decidable.byContradiction fun z => by
  have := nd_len (a := a) (b := b.erase x) h fun y hy => (List.mem_erase_of_ne (fun (e : y = x) => z (e ▸ hy))).mpr (k y hy)
  have hl := List.length_erase_of_mem hx
  have hp := List.length_pos_of_mem hx
  omega
theorem iota_len (n : Nat) : ((List.range n).map fun n : Nat => (n : Int)).length = n := by simp
abbrev iota (n : Nat) : List Int := (List.range n).map fun n : Nat => (n : Int)
theorem eraseIdx_map' {α β : Type} (f : α → β) : ∀ (l : List α) (k : Nat), (l.map f).eraseIdx k = (l.eraseIdx k).map f
  | [], k => by simp
  | x :: l, 0 => by simp
  | x :: l, k + 1 => by simp [eraseIdx_map' f l k]
theorem eraseIdx_perm' {α : Type} : ∀ (l : List α) (k : Nat) (h : k < l.length), (l[k] :: l.eraseIdx k).Perm l
  | x :: l, 0, h => by simp
  | x :: l, k + 1, h => by
    simp only [List.getElem_cons_succ, List.eraseIdx_cons_succ]
    exact (List.Perm.swap _ _ _).trans ((eraseIdx_perm' l k (by simpa using h)).cons x)
theorem order_loop (w0 : Sl) : ∀ (ds left : List Int), ds.length ≤ left.length → left.length ≤ 1000 → ∃ os left' : List Int, lcE (tgN 2) l__law_order_0 [2] (ds.map .int) [w0, .sl .ow (.lst (left.map .int)), .un] = some (os.map .int, [w0, .sl .ow (.lst (left'.map .int)), .un]) ∧ os.length = ds.length ∧ (os ++ left').Perm left
  | [], left, _, _ => ⟨[], left, rfl, rfl, .refl _⟩
  | d :: ds, left, h, hl => by
    simp at h
    have hpos : (0 : Int) < left.length := by omega
    have hpos' : 0 < left.length := by omega
    obtain ⟨k, hk⟩ : ∃ k : Nat, d % (left.length : Int) = k := ⟨_, (Int.toNat_of_nonneg (Int.emod_nonneg d (by omega))).symm⟩
    have hk2 : k < left.length := by have := Int.emod_lt_of_pos d hpos; omega
    have hlen : (left.eraseIdx k).length = left.length - 1 := List.length_eraseIdx_of_lt hk2
    obtain ⟨os, left', e, h1, h2⟩ := order_loop w0 ds (left.eraseIdx k) (by omega) (by omega)
    have hp : popA (left.map PV.int) (k : Int) = some (.int left[k], (left.eraseIdx k).map .int) := by
      rw [popA_nat (y := .int left[k]) (by simp [hk2]) (by simp; omega), eraseIdx_map']
    refine ⟨left[k] :: os, left', ?_, by simp [h1], ?_⟩
    · rw [List.map_cons, lcE]
      simp only [a_tgN]
      have : l__law_order_0 [w0, .sl .ow (.lst (left.map .int)), .sl .fz (.int d)] = .ok (.int left[k]) [w0, .sl .ow (.lst ((left.eraseIdx k).map .int)), .sl .fz (.int d)] := by
        simp [l__law_order_0, hpos', hk, hp]
      simp only [List.set_cons_succ, List.set_cons_zero, this]
      simp [e]
    · simp only [List.cons_append]
      exact (h2.cons _).trans (eraseIdx_perm' left k hk2)
theorem listR_nat {n : Nat} (hn : n ≤ 1000) {f : Ex} {γ : Z.Env} (hg : f γ = .ok (.z (.int n))) : xLstR (r1 f) γ = .ok (.fr .ow (.lst (rngL 0 n))) := by
  have hcr := cRg_nat hn
  have e1 : Z.r1 f γ = .ok (0, (n : Int)) := by
    unfold Z.r1
    rw [hg]
    rfl
  have e2 : ((n : Int) - 0).toNat = n := by omega
  unfold xLstR
  rw [e1, R.bind_ok]
  dsimp only
  rw [hcr, e2]
  rfl
theorem order_ok (ds : List Int) (hl : ds.length ≤ 1000) : ∃ os : List Int, f__law_order [.lst (ds.map .int)] = .ok (.lst (os.map .int)) ∧ os.Perm (iota ds.length) := by
  obtain ⟨os, left', e, h1, h2⟩ := order_loop (.sl .fz (.lst (ds.map .int))) ds (iota ds.length) (by simp) (by simp; omega)
  have h3 : left' = [] := by
    have := h2.length_eq
    simp [h1] at this
    exact this
  subst h3
  rw [List.append_nil] at h2
  refine ⟨os, ?_, h2⟩
  unfold f__law_order
  have e1 : xLstR (r1 (xB pLen (aCons (xVar 0) (aNil)))) [.sl .fz (.lst (ds.map .int)), .un, .un] = .ok (.fr .ow (.lst ((iota ds.length).map .int))) := by
    rw [listR_nat hl (by simp), rngL_map]
  have hl2 : ds.length ≤ 16777216 := by omega
  have hu : unAt [.sl .fz (.lst (ds.map .int)), .sl .ow (.lst ((iota ds.length).map .int)), .un] [2] = true := rfl
  generalize iota ds.length = left at *
  simp [e1, e_eLc, hl2, hu, e]
def meetI (a b : List Int) : List Int := a.filter fun x => decide (x ∈ b)
def apartB (a b : List Int) : Bool := decide (meetI a b = []) || decide ((meetI a b).length = min a.length b.length)
theorem apart_ok (a b : List Int) (hl : a.length ≤ 1000) : f__law_apart [.tup (a.map .int), .tup (b.map .int)] = .ok (.bl (apartB a b)) := by
  have h1 : a.length ≤ 16777216 := by omega
  have e : lcL (tgN 3) k__law_apart_0 (xVar 3) [.sl .fz (.tup (a.map .int)), .sl .fz (.tup (b.map .int)), .un, .un] (a.map .int) = .ok ((meetI a b).map .int) :=
    lcL_ints (fun x => decide (x ∈ b)) fun x hx => by
      by_cases h : x ∈ b <;> simp [k__law_apart_0, h]
  have e0 : pEq (.lst ((meetI a b).map .int)) (.lst []) = .ok (decide (meetI a b = [])) := a_pEq_lst (ms := [])
  unfold f__law_apart apartB
  generalize meetI a b = c at *
  cases hc : decide (c = []) with
  | true => simp [h1, e_xLc, e, e0, hc]
  | false =>
    simp [h1, e_xLc, e, e0, hc]
    split <;> omega
def lotP (p : List Int × Int) : PV := .tup [.tup (p.1.map .int), .int p.2]
structure GoodLots (m : Nat) (lots : List (List Int × Int)) : Prop where
  set : ∀ p ∈ lots, p.1.Pairwise (· < ·) ∧ p.1 ≠ [] ∧ (∀ x ∈ p.1, 0 ≤ x ∧ x < m)
  most : ∀ p ∈ lots, 0 ≤ p.2 ∧ p.2 ≤ p.1.length
  apart : lots.Pairwise fun p q => apartB q.1 p.1 = true
theorem isort_rising {xs : List Int} (h : xs.Nodup) : (isort xs).Pairwise (· < ·) := by
  have h1 := isort_sorted xs
  have h2 : (isort xs).Nodup := (isort_perm xs).nodup_iff.mpr h
  exact (h1.and h2).imp fun ⟨a, b⟩ => by omega
theorem lots_ok {ds : List Int} {m : Nat} (hm : m ≤ 100) (hl : 14 + m ≤ ds.length) (hl2 : ds.length ≤ 1000) : ∃ lots : List (List Int × Int), f__law_lots [.lst (ds.map .int), .int m] = .ok (.tup [.str "lots", .int m, .lst (lots.map lotP)]) ∧ GoodLots m lots ∧ lots.length ≤ 4 := by
  have p14 : pcut (ds.map PV.int) (some 14) (some (14 + (m : Int))) = ((ds.drop 14).take m).map PV.int := by
    have := pcut_mid (xs := ds.map PV.int) (k := 14) (n := m)
    push_cast at this
    rw [this, ← List.map_drop, ← List.map_take]
  have hlen : ((ds.drop 14).take m).length = m := by simp; omega
  generalize (ds.drop 14).take m = e14 at p14 hlen
  obtain ⟨os, eo, po⟩ := order_ok e14 (by rw [hlen]; omega)
  rw [hlen] at po
  have hos : os.length = m := by rw [po.length_eq]; simp
  have hnd : os.Nodup := po.nodup_iff.mpr (by
    refine List.Pairwise.map _ (fun a b h => ?_) List.nodup_range
    omega)
  have hin : ∀ x ∈ os, 0 ≤ x ∧ x < m := fun x hx => by
    obtain ⟨n, hn, rfl⟩ := List.mem_map.mp (po.mem_iff.mp hx)
    have := List.mem_range.mp hn
    omega
  have hat : ∀ i : Nat, i < ds.length → ∃ d, L2.atI (ds.map PV.int) (i : Int) = some (.int d) := fun i hi => ⟨ds[i], by rw [Z.atI_nat (by simpa using hi)]; simp [hi]⟩
  obtain ⟨d0, a0⟩ := hat 0 (by omega)
  have a0 : L2.atI (ds.map PV.int) 0 = some (.int d0) := a0
  obtain ⟨n, hn, hn4⟩ : ∃ n : Nat, (if d0 % 5 < (m : Int) then d0 % 5 else (m : Int)) = n ∧ n ≤ 4 ∧ n ≤ m := by
    have h1 := Int.emod_nonneg d0 (show (5 : Int) ≠ 0 by decide)
    have h2 := Int.emod_lt_of_pos d0 (show (0 : Int) < 5 by decide)
    refine ⟨(if d0 % 5 < (m : Int) then d0 % 5 else (m : Int)).toNat, ?_, ?_, ?_⟩ <;> split <;> omega
  have hpr : pRng [.int (n : Int)] = .ok (rngL 0 n) := pRng_nat (by omega)
  obtain ⟨γ', ef, lots, w4, w5, w6, w7, w8, w9, rfl, hg, hll⟩ := forL_inv (tg := tgN 4) (body := b__law_lots_0) (fun k γ => ∃ lots w4 w5 w6 w7 w8 w9, γ = [.sl .fz (.lst (ds.map .int)), .sl .fz (.int m), .sl .fz (.lst (os.map .int)), .sl .ow (.lst (List.map lotP lots)), w4, w5, w6, w7, w8, w9] ∧ GoodLots m lots ∧ lots.length ≤ k)
    (rngL 0 n) 0 [.sl .fz (.lst (ds.map .int)), .sl .fz (.int m), .sl .fz (.lst (os.map .int)), .sl .ow (.lst []), .un, .un, .un, .un, .un, .un] ⟨[], _, _, _, _, _, _, rfl, ⟨by simp, by simp, .nil⟩, by simp⟩ (by
      rintro i x γ hx ⟨lots, w4, w5, w6, w7, w8, w9, rfl, hg, hll⟩
      obtain ⟨hi, rfl⟩ := rngL_get0 hx
      obtain ⟨e1, b1⟩ := hat (2 + 3 * i) (by omega)
      obtain ⟨e2, b2⟩ := hat (3 + 3 * i) (by omega)
      obtain ⟨e3, b3⟩ := hat (4 + 3 * i) (by omega)
      push_cast at b1 b2 b3
      have hm0 : (0 : Int) < m := by omega
      have hm0' : 0 < m := by omega
      obtain ⟨fi, hfi⟩ : ∃ fi : Nat, e1 % (m : Int) = fi := ⟨_, (Int.toNat_of_nonneg (Int.emod_nonneg e1 (by omega))).symm⟩
      have hfm : fi < m := by have := Int.emod_lt_of_pos e1 hm0; omega
      have hd0 : (0 : Int) < (m : Int) - fi := by omega
      obtain ⟨wi, hwi⟩ : ∃ wi : Nat, e2 % ((m : Int) - fi) = wi := ⟨_, (Int.toNat_of_nonneg (Int.emod_nonneg e2 (by omega))).symm⟩
      have hwm : wi < m - fi := by have := Int.emod_lt_of_pos e2 hd0; omega
      have p1 : pcut (os.map PV.int) (some (fi : Int)) (some ((fi : Int) + (1 + (wi : Int)))) = ((os.drop fi).take (1 + wi)).map PV.int := by
        have := pcut_mid (xs := os.map PV.int) (k := fi) (n := 1 + wi)
        push_cast at this
        rw [this, ← List.map_drop, ← List.map_take]
      obtain ⟨cs, hcs⟩ : ∃ cs, isort ((os.drop fi).take (1 + wi)) = cs := ⟨_, rfl⟩
      have hclen : cs.length = 1 + wi := by rw [← hcs, (isort_perm _).length_eq]; simp; omega
      have hcmem : ∀ x ∈ cs, x ∈ os := fun x hx => by
        rw [← hcs] at hx
        exact List.mem_of_mem_drop (List.mem_of_mem_take ((isort_perm _).mem_iff.mp hx))
      have hcr : cs.Pairwise (· < ·) := by
        rw [← hcs]
        exact isort_rising (((List.take_sublist _ _).trans (List.drop_sublist _ _)).nodup hnd)
      have psrt : pSrt [.lst (((os.drop fi).take (1 + wi)).map .int)] = .ok (.fr .ow (.lst (cs.map .int))) := by
        simp only [pSrt, intsOf_map, hcs]
      generalize (os.drop fi).take (1 + wi) = sl at p1 psrt
      have ptup : ∀ xs : List PV, pTup [.lst xs] = .ok (.z (.tup xs)) := fun xs => rfl
      have hi3 : (i : Int) < 18446744073709551616 := by omega
      have hl4 : lots.length ≤ 16777216 := by omega
      have hl5 : lots.length + 1 ≤ 16777216 := by omega
      have hw1 : (0 : Int) < 1 + (wi : Int) + 1 := by omega
      obtain ⟨mo, hmo⟩ : ∃ mo : Int, e3 % (1 + (wi : Int) + 1) = mo := ⟨_, rfl⟩
      have hmo2 : 0 ≤ mo ∧ mo ≤ cs.length := by
        have h1 := Int.emod_nonneg e3 (show 1 + (wi : Int) + 1 ≠ 0 by omega)
        have h2 := Int.emod_lt_of_pos e3 hw1
        omega
      have eall : lcL (tgT (tgCons (tgN 8) (tgCons (tgN 9) (tgNil)))) tYesF l__law_lots_0 [.sl .fz (.lst (ds.map .int)), .sl .fz (.int m), .sl .fz (.lst (os.map .int)), .sl .fz (.lst (lots.map lotP)), .sl .fz (.int i), .sl .fz (.int fi), .sl .fz (.int (1 + (wi : Int))), .sl .fz (.tup (cs.map .int)), .un, .un] (lots.map lotP) = .ok (lots.map fun p => .bl (apartB cs p.1)) :=
        lcL_mapm (fun p => .bl (apartB cs p.1)) lotP fun p hp => by
          simp [l__law_lots_0, lotP, apart_ok cs p.1 (by omega)]
      cases hb : lots.all (fun p => apartB cs p.1) with
      | true =>
        refine ⟨_, [.sl .fz (.lst (ds.map .int)), .sl .fz (.int m), .sl .fz (.lst (os.map .int)), .sl .ow (.lst ((lots ++ [(cs, mo)]).map lotP)), .sl .fz (.int i), .sl .fz (.int fi), .sl .fz (.int (1 + (wi : Int))), .sl .fz (.tup (cs.map .int)), w8, w9], rfl, .inl ?_, lots ++ [(cs, mo)], _, _, _, _, _, _, rfl, ⟨?_, ?_, ?_⟩, by simp; omega⟩
        · simp [b__law_lots_0, b1, b2, b3, hi3, hm0', hfi, hfm, hwi, p1, psrt, ptup, e_xLc, hl4, eall, hb, hw1, hmo, hl5, lotP]
        · intro p hp
          rcases List.mem_append.mp hp with h | h
          · exact hg.set p h
          · rw [List.mem_singleton.mp h]
            exact ⟨hcr, fun (z : cs = []) => by rw [z] at hclen; simp at hclen; omega, fun x hx => hin x (hcmem x hx)⟩
        · intro p hp
          rcases List.mem_append.mp hp with h | h
          · exact hg.most p h
          · rw [List.mem_singleton.mp h]; exact hmo2
        · rw [List.pairwise_append]
          refine ⟨hg.apart, by simp, fun p hp q hq => ?_⟩
          rw [List.mem_singleton.mp hq]
          exact List.all_eq_true.mp hb p hp
      | false =>
        refine ⟨_, [.sl .fz (.lst (ds.map .int)), .sl .fz (.int m), .sl .fz (.lst (os.map .int)), .sl .ow (.lst (lots.map lotP)), .sl .fz (.int i), .sl .fz (.int fi), .sl .fz (.int (1 + (wi : Int))), .sl .fz (.tup (cs.map .int)), w8, w9], rfl, .inl ?_, lots, _, _, _, _, _, _, rfl, hg, by omega⟩
        simp [b__law_lots_0, b1, b2, b3, hi3, hm0', hfi, hfm, hwi, p1, psrt, ptup, e_xLc, hl4, eall, hb])
  refine ⟨lots, ?_, hg, by simp at hll; omega⟩
  unfold f__law_lots
  simp [p14, eo, a0, hn, hpr, ef]
end LL
set_option maxHeartbeats 2000000
namespace K08
open PySem L2 Z LL
theorem win_ok (x : PV) (a b : Int) : f_is_within [x, .int a, .int b] = .ok (.bl (isW a b x)) := within_ok x a b
def xNo (part : String) (num : PV) : Xc := ⟨"NoRule", [("number", num), ("part", .str part)]⟩
theorem list_ok (p : String) (x : PV) : f_look_at_list [.str p, x] = (match x with | .lst cs => if cs.length ≤ 16 then .ok .non else .er (xNo p .non) | _ => .er (xNo p .non)) := by
  unfold f_look_at_list
  cases x <;> try (simp [xNo]; done)
  rename_i cs
  by_cases h : cs.length ≤ 16
  · have h2 : ¬ 16 < (cs.length : Int) := by omega
    simp [h, h2]
  · have h2 : 16 < (cs.length : Int) := by omega
    simp [h, h2, xNo]
def wV : Option Nat → PV
  | none => .non
  | some n => .int n
def wideB (w : Option Nat) (n : Nat) : Bool := match w with
  | none => true
  | some m => decide (n = m)
def rowB (p : Int) (w : Option Nat) : PV → Bool
  | .lst xs => decide (xs.length ≤ 8) && (wideB w xs.length && xs.all (isW 0 (p - 1)))
  | _ => false
def lenR : PV → Nat
  | .lst xs => xs.length
  | _ => 0
def badRow (p : Int) : Option Nat → Nat → List PV → Option Nat
  | _, _, [] => none
  | w, k, r :: rs => if rowB p w r then badRow p (some (lenR r)) (k + 1) rs else some k
theorem row_ok (p : Int) (r : PV) (w : Option Nat) : f_is_row [.int p, r, wV w] = .ok (.bl (rowB p w r)) := by
  unfold f_is_row
  cases r <;> try (simp [rowB]; done)
  rename_i xs
  by_cases h : xs.length ≤ 8
  · have h2 : ¬ 8 < (xs.length : Int) := by omega
    have h3 : xs.length ≤ 16777216 := by omega
    cases w with
    | none => simp [rowB, wV, wideB, h, h2, h3, e_xLc, lcL_bl (isW 0 (p - 1)), win_ok]
    | some n =>
      by_cases h4 : xs.length = n
      · subst h4
        simp [rowB, wV, wideB, h, h2, h3, e_xLc, lcL_bl (isW 0 (p - 1)), win_ok]
      · have h5 : ¬ (xs.length : Int) = n := by omega
        simp [rowB, wV, wideB, h, h2, h4, h5]
  · have h2 : 8 < (xs.length : Int) := by omega
    simp [rowB, h, h2]
def intO : PV → Option PV
  | .int i => some (.int i)
  | _ => none
theorem intO_len : ∀ xs : List PV, (xs.filterMap intO).length = xs.length ↔ xs.all isI = true
  | [] => by simp
  | x :: xs => by
    have ih := intO_len xs
    have le : (xs.filterMap intO).length ≤ xs.length := List.length_filterMap_le _ _
    cases x <;> simp only [List.filterMap_cons, intO, List.all_cons, isI, Bool.true_and, Bool.false_and, List.length_cons] <;> first | (constructor <;> intro h <;> first | omega | cases h) | (rw [← ih]; omega)
theorem lrow_ok (p : Int) (r : PV) (w : Option Nat) : f__law_is_row [.int p, r, wV w] = .ok (.bl (rowB p w r)) := by
  unfold f__law_is_row
  cases r <;> try (simp [rowB]; done)
  rename_i xs
  by_cases h : xs.length ≤ 8
  · have h2 : ¬ 8 < (xs.length : Int) := by omega
    have h3 : xs.length ≤ 16777216 := by omega
    have e1 : ∀ a b c d, lcL (tgN 4) k__law_is_row_0 (xVar 4) [a, b, c, d, .un] xs = .ok (xs.filterMap intO) := fun a b c d => lcL_filt intO fun x hx => by
      cases x <;> simp [intO]
    have fin : ∀ c d, outOf (sSeq (sSet 3 (xLc (iSeq (xVar 1)) (tgN 4) (k__law_is_row_0) (xVar 4) [4])) (sRet (xAnd (x2 (pb pEq) (xB pLen (aCons (xVar 3) (aNil))) (xB pLen (aCons (xVar 1) (aNil)))) (xB pAll (aCons (xLc (iSeq (xVar 1)) (tgN 4) (tYesF) (l__law_is_row_1) [4]) (aNil))))) [.sl .fz (.int p), .sl .fz (.lst xs), c, d, .un]) = .ok (.bl (xs.all (isW 0 (p - 1)))) := fun c d => by
      cases ha : xs.all isI with
      | true =>
        have hl := (intO_len xs).mpr ha
        have e2 : ∀ c d, lcL (tgN 4) tYesF l__law_is_row_1 [.sl .fz (.int p), .sl .fz (.lst xs), c, d, .un] xs = .ok (xs.map fun x => .bl (isW 0 (p - 1) x)) := fun c d => lcL_bl (isW 0 (p - 1)) fun x hx => by
          have := List.all_eq_true.mp ha x hx
          cases x <;> simp [isI] at this
          rename_i i
          by_cases h0 : 0 ≤ i <;> simp [isW, h0]
          omega
        simp [e_xLc, h3, e1, hl, e2]
      | false =>
        have hl : ¬ (xs.filterMap intO).length = xs.length := fun z => by rw [(intO_len xs).mp z] at ha; cases ha
        have hl' : ¬ ((xs.filterMap intO).length : Int) = xs.length := by omega
        have hb : xs.all (isW 0 (p - 1)) = false := by
          rw [Bool.eq_false_iff] at ha ⊢
          exact fun z => ha (List.all_eq_true.mpr fun x hx => by have := List.all_eq_true.mp z x hx; cases x <;> simp [isW] at this <;> rfl)
        rw [hb]
        simp [e_xLc, h3, e1, hl, hl']
    simp only [m__law_is_row]
    generalize sSeq (sSet 3 (xLc (iSeq (xVar 1)) (tgN 4) (k__law_is_row_0) (xVar 4) [4])) (sRet (xAnd (x2 (pb pEq) (xB pLen (aCons (xVar 3) (aNil))) (xB pLen (aCons (xVar 1) (aNil)))) (xB pAll (aCons (xLc (iSeq (xVar 1)) (tgN 4) (tYesF) (l__law_is_row_1) [4]) (aNil))))) = S at fin ⊢
    cases w with
    | none =>
      have := fin (.sl .fz .non) .un
      simp [rowB, wV, wideB, h, h2, this]
    | some n =>
      by_cases h4 : xs.length = n
      · subst h4
        have := fin (.sl .fz (.int xs.length)) .un
        simp [rowB, wV, wideB, h, h2, this]
      · have h5 : ¬ (xs.length : Int) = n := by omega
        simp [rowB, wV, wideB, h, h2, h4, h5]
  · have h2 : 8 < (xs.length : Int) := by omega
    simp [rowB, h, h2]
end K08
set_option maxHeartbeats 2000000
namespace K08
open PySem L2 Z LL
def rp (i : Nat) : PV := .str (toR (.int i)).shown
theorem rp_ok (i : Nat) (h : i ≤ 1000) : pReprL [.int (i : Int)] = .ok (.z (rp i)) := (Sh.int (d := 50) (by omega) (by decide)).repr
theorem rp_non : pReprL [.non] = .ok (.z (.str "None")) := by rw [repr_ok (by simp) (by decide)]; rfl
def primeB : PV → Bool
  | .int i => decide (i ∈ [2, 3, 5, 7])
  | _ => false
def verd (t k : PV) : PV := match primeB k, k with
  | true, .int p => match t with
    | .lst rs => if rs.length ≤ 16 then (match badRow p none 0 rs with
      | some i => .lst [.str "table", rp i]
      | none => .lst [.str "made", rp rs.length]) else .lst [.str "table", .str "None"]
    | _ => .lst [.str "table", .str "None"]
  | _, _ => .lst [.str "prime", .str "None"]
theorem wV_some (n : Nat) : wV (some n) = .int n := rfl
theorem row_len {p : Int} {w : Option Nat} {r : PV} (h : rowB p w r = true) : ∃ xs, r = .lst xs := by
  cases r <;> simp [rowB] at h
  exact ⟨_, rfl⟩
theorem due_loop (p : Int) (w0 : Sl) : ∀ (rs : List PV) (k : Nat) (w : Option Nat) (a b : Sl), k + rs.length ≤ 1000 → (match badRow p w k rs with
    | none => ∃ w' a' b', forL (tg2 3 4) b__law_due_0 (enumL k rs) [w0, .sl .fz (.int p), .sl .fz (wV w), a, b] = .nx [w0, .sl .fz (.int p), w', a', b']
    | some n => ∃ γ, forL (tg2 3 4) b__law_due_0 (enumL k rs) [w0, .sl .fz (.int p), .sl .fz (wV w), a, b] = .rt (.lst [.str "table", rp n]) γ)
  | [], k, w, a, b, _ => ⟨_, _, _, rfl⟩
  | r :: rs, k, w, a, b, hk => by
    simp only [List.length_cons] at hk
    simp only [badRow]
    rw [enumL, forL]
    cases hr : rowB p w r with
    | true =>
      obtain ⟨xs, rfl⟩ := row_len hr
      have ih := due_loop p w0 rs (k + 1) (some xs.length) (.sl .fz (.int k)) (.sl .fz (.lst xs)) (by omega)
      have e : b__law_due_0 [w0, .sl .fz (.int p), .sl .fz (wV w), .sl .fz (.int k), .sl .fz (.lst xs)] = .nx [w0, .sl .fz (.int p), .sl .fz (wV (some xs.length)), .sl .fz (.int k), .sl .fz (.lst xs)] := by
        simp [lrow_ok, hr, wV_some]
      have e1 : tg2 3 4 (.tup [.int (k : Int), .lst xs]) [w0, .sl .fz (.int p), .sl .fz (wV w), a, b] = some [w0, .sl .fz (.int p), .sl .fz (wV w), .sl .fz (.int k), .sl .fz (.lst xs)] := rfl
      simp only [if_true, lenR, e1, e]
      exact ih
    | false =>
      have := rp_ok k (by omega)
      simp [lrow_ok, hr, this]
theorem init_loop (p : Int) (w1 : Sl) : ∀ (rs : List PV) (k : Nat) (w : Option Nat) (a b : Sl), k + rs.length ≤ 1000 → (match badRow p w k rs with
    | none => ∃ w' a' b', forL (tg2 3 4) b_look_at_table_0 (enumL k rs) [.sl .fz (.int p), w1, .sl .fz (wV w), a, b] = .nx [.sl .fz (.int p), w1, w', a', b']
    | some n => ∃ γ, forL (tg2 3 4) b_look_at_table_0 (enumL k rs) [.sl .fz (.int p), w1, .sl .fz (wV w), a, b] = .er (xNo "table" (.int n)) γ)
  | [], k, w, a, b, _ => ⟨_, _, _, rfl⟩
  | r :: rs, k, w, a, b, hk => by
    simp only [List.length_cons] at hk
    simp only [badRow]
    rw [enumL, forL]
    cases hr : rowB p w r with
    | true =>
      obtain ⟨xs, rfl⟩ := row_len hr
      have ih := init_loop p w1 rs (k + 1) (some xs.length) (.sl .fz (.int k)) (.sl .fz (.lst xs)) (by omega)
      have e : b_look_at_table_0 [.sl .fz (.int p), w1, .sl .fz (wV w), .sl .fz (.int k), .sl .fz (.lst xs)] = .nx [.sl .fz (.int p), w1, .sl .fz (wV (some xs.length)), .sl .fz (.int k), .sl .fz (.lst xs)] := by
        simp [row_ok, hr, wV_some]
      have e1 : tg2 3 4 (.tup [.int (k : Int), .lst xs]) [.sl .fz (.int p), w1, .sl .fz (wV w), a, b] = some [.sl .fz (.int p), w1, .sl .fz (wV w), .sl .fz (.int k), .sl .fz (.lst xs)] := rfl
      simp only [if_true, lenR, e1, e]
      exact ih
    | false =>
      simp [row_ok, hr, xNo]
theorem due_ok (t k : PV) : f__law_due [t, k] = .ok (verd t k) := by
  unfold f__law_due
  cases k with
  | int p =>
    have hin : pIn (.int p) (.lst [.int 2, .int 3, .int 5, .int 7]) = .ok (decide (p ∈ [2, 3, 5, 7])) := pIn_ints_lst (ns := [2, 3, 5, 7])
    by_cases h1 : p ∈ [2, 3, 5, 7]
    · have hp : primeB (.int p) = true := by simp only [primeB, h1, decide_true]
      simp only [h1, decide_true] at hin
      cases t with
      | lst rs =>
        by_cases hl : rs.length ≤ 16
        · have h2 : ¬ 16 < (rs.length : Int) := by omega
          have lp := due_loop p (.sl .fz (.lst rs)) rs 0 none .un .un (by omega)
          simp only [wV] at lp
          cases hf : badRow p none 0 rs with
          | none =>
            rw [hf] at lp
            obtain ⟨w', a, b, e⟩ := lp
            simp [hin, h2, verd, hp, hl, iEnu, e, hf, rp_ok rs.length (by omega)]
          | some n =>
            rw [hf] at lp
            obtain ⟨γ', e⟩ := lp
            simp [hin, h2, verd, hp, hl, iEnu, e, hf]
        · have h2 : 16 < (rs.length : Int) := by omega
          simp [hin, h2, verd, hp, hl]
      | _ => simp [hin, verd, hp]
    · have hp : primeB (.int p) = false := by simp only [primeB, h1, decide_false]
      simp only [h1, decide_false] at hin
      simp [hin, verd, hp]
  | _ => simp [verd, primeB]
theorem rule_init {n : Nat} (hn : n ≤ 1000) (c : String) : f_Rule__init (.ob []) (.obj c []) [.int n] = .ok .non (.ob [.fz]) (.obj c [("own_things", .tup (rngL 0 n))]) := by
  unfold f_Rule__init m_Rule__init
  exact ruleInit hn c
def rowsO (p : Int) (rs : List PV) : List (String × PV) := [("own_things", .tup (rngL 0 rs.length)), ("own_table", .lst rs), ("own_prime", .int p)]
theorem bad_rows {p : Int} : ∀ {rs : List PV} {w k}, badRow p w k rs = none → ∀ r ∈ rs, ∃ xs, r = .lst xs
  | [], _, _, _, r, hr => by cases hr
  | q :: rs, w, k, h, r, hr => by
    simp only [badRow] at h
    split at h
    · rename_i hq
      rcases List.mem_cons.mp hr with rfl | hr
      · exact row_len hq
      · exact bad_rows h r hr
    · cases h
theorem bad_lt {p : Int} : ∀ {rs : List PV} {w k n}, badRow p w k rs = some n → n < k + rs.length
  | [], _, _, _, h => by cases h
  | q :: rs, w, k, n, h => by
    simp only [badRow] at h
    split at h
    · have := bad_lt h; simp; omega
    · cases h; simp
theorem init_ok (t k : PV) : mkV (f_Rows__init (.ob []) (.obj "Rows" []) [t, k]) = (match primeB k, k with
  | true, .int p => match t with
    | .lst rs => if rs.length ≤ 16 then (match badRow p none 0 rs with
      | some i => .er (xNo "table" (.int i))
      | none => .ok (.fr (.ob [.fz, .ow, .fz]) (.obj "Rows" (rowsO p rs)))) else .er (xNo "table" .non)
    | _ => .er (xNo "table" .non)
  | _, _ => .er (xNo "prime" .non)) := by
  have look : ∀ (p : Int) (t : PV), f_look_at_table [.int p, t] = (match t with
    | .lst rs => if rs.length ≤ 16 then (match badRow p none 0 rs with
      | some i => .er (xNo "table" (.int i))
      | none => .ok .non) else .er (xNo "table" .non)
    | _ => .er (xNo "table" .non)) := fun p t => by
    unfold f_look_at_table
    cases t with
    | lst rs =>
      by_cases hl : rs.length ≤ 16
      · have lp := init_loop p (.sl .fz (.lst rs)) rs 0 none .un .un (by omega)
        simp only [wV] at lp
        cases hf : badRow p none 0 rs with
        | none =>
          rw [hf] at lp
          obtain ⟨w', a, b, e⟩ := lp
          simp [list_ok, hl, iEnu, e, hf]
        | some n =>
          rw [hf] at lp
          obtain ⟨γ', e⟩ := lp
          simp [list_ok, hl, iEnu, e, hf]
      · simp [list_ok, hl]
    | _ => simp [list_ok]
  unfold f_Rows__init
  cases k with
  | int p =>
    have hin : inK true [.int 2, .int 3, .int 5, .int 7] (.int p) = .ok (.z (.bl (!decide (p ∈ [2, 3, 5, 7])))) := by
      rw [inK_int]
      have := any_peq_int (ns := [2, 3, 5, 7]) (k := p)
      simp only [List.map_cons, List.map_nil] at this
      rw [this]; rfl
    by_cases h1 : p ∈ [2, 3, 5, 7]
    · have hp : primeB (.int p) = true := by simp only [primeB, h1, decide_true]
      have hw : isW 2 7 (.int p) = true := by simp at h1; simp [isW]; omega
      simp only [h1, decide_true] at hin
      have lk := look p t
      cases t with
      | lst rs =>
        by_cases hl : rs.length ≤ 16
        · simp only [hl, if_true] at lk
          cases hf : badRow p none 0 rs with
          | none =>
            have hx : rs.length ≤ 16777216 := by omega
            have e1 : ∀ a b c, lcL (tgN 3) tYesF l_Rows__init_0 [a, b, c, .un] rs = .ok (rs.map id) := fun a b c => lcL_map _ fun r hr => by
              obtain ⟨xs, rfl⟩ := bad_rows hf r hr
              simp [pLst]
            rw [hf] at lk
            simp [win_ok, hw, hin, lk, hp, hl, hf, rule_init (n := rs.length) (by omega), rowsO, e_xLc, hx, e1]
          | some n =>
            rw [hf] at lk
            simp [win_ok, hw, hin, lk, hp, hl, hf]
        · simp only [hl, if_false] at lk
          simp [win_ok, hw, hin, lk, hp, hl]
      | _ => simp [win_ok, hw, hin, lk, hp]
    · have hp : primeB (.int p) = false := by simp only [primeB, h1, decide_false]
      simp only [h1, decide_false] at hin
      cases hw : isW 2 7 (.int p) <;> simp [win_ok, hw, hin, hp, xNo]
  | _ => simp [win_ok, isW, primeB, xNo]
end K08
set_option maxHeartbeats 4000000
namespace K08
open PySem L2 Z LL
theorem no_rule (p : Str) (n : PV) (d : Str) (h : pReprL [n] = .ok (.z (.str d))) : f__law_no_rule [.exc "NoRule" [("number", n), ("part", .str p)]] = .ok (.lst [.str p, .str d]) := by
  unfold f__law_no_rule
  simp [h]
theorem told_ok (t k : PV) : f__law_told [t, k, .bl false] = .ok (verd t k) := by
  unfold f__law_told
  have ie := init_ok t k
  unfold verd
  cases h1 : primeB k with
  | true =>
    cases k <;> try (simp [primeB] at h1; done)
    rename_i p
    simp only [h1] at ie ⊢
    cases t with
    | lst rs =>
      by_cases hl : rs.length ≤ 16
      · simp only [hl, if_true] at ie ⊢
        cases hf : badRow p none 0 rs with
        | none =>
          have hx : (rs.length : Int) ≤ 16777216 := by omega
          rw [hf] at ie; simp [ie, rowsO, tlook, f_Rule__len, rp_ok rs.length (by omega), hx]
        | some n =>
          have := bad_lt hf
          rw [hf] at ie; simp [ie, xNo, no_rule _ _ _ (rp_ok n (by omega)), rp]
      · simp only [hl, if_false] at ie ⊢
        simp [ie, xNo, no_rule _ _ _ rp_non]
    | _ => simp [ie, xNo, no_rule _ _ _ rp_non]
  | false =>
    simp only [h1] at ie ⊢
    simp [ie, xNo, no_rule _ _ _ rp_non]
theorem told_alone (t k : PV) : f__law_told [t, k, .bl true] = .ok (verd t (.int 2)) := by
  unfold f__law_told
  have ie := init_ok t (.int 2)
  unfold verd
  have h1 : primeB (.int 2) = true := by decide
  simp only [h1] at ie ⊢
  cases t with
  | lst rs =>
    by_cases hl : rs.length ≤ 16
    · simp only [hl, if_true] at ie ⊢
      cases hf : badRow 2 none 0 rs with
      | none =>
        have hx : (rs.length : Int) ≤ 16777216 := by omega
        rw [hf] at ie; simp [ie, rowsO, tlook, f_Rule__len, rp_ok rs.length (by omega), hx]
      | some n =>
        have := bad_lt hf
        rw [hf] at ie; simp [ie, xNo, no_rule _ _ _ (rp_ok n (by omega)), rp]
    · simp only [hl, if_false] at ie ⊢
      simp [ie, xNo, no_rule _ _ _ rp_non]
  | _ => simp [ie, xNo, no_rule _ _ _ rp_non]
theorem rp_D (n : Nat) (hn : n ≤ 16) : isD 59 (rp n) = true := by
  have : ∀ n : Fin 17, isD 59 (rp n) = true := by decide +kernel
  exact this ⟨n, by omega⟩
theorem verd_D (t k : PV) : isD 60 (verd t k) = true := by
  have two : ∀ (s : Str) (x : PV), PyData.strOk s = true → isD 59 x = true → isD 60 (.lst [.str s, x]) = true := fun s x h1 h2 => by
    rw [isD_lst, isDL_all]; simp [h1, h2]
  have s1 : PyData.strOk "table" = true := by decide +kernel
  have s2 : PyData.strOk "made" = true := by decide +kernel
  have s3 : PyData.strOk "prime" = true := by decide +kernel
  have s4 : isD 59 (.str "None") = true := by decide +kernel
  unfold verd
  split
  · split
    · split
      · split
        · rename_i h
          exact two _ _ s1 (rp_D _ (by have := bad_lt h; omega))
        · exact two _ _ s2 (rp_D _ (by omega))
      · exact two _ _ s1 s4
    · exact two _ _ s1 s4
  · exact two _ _ s3 s4
def odds : List PV := [.non, .bl true, .bl false, .int (-1), .int 0, .int 1, .int 2, .int 4, .int 9, .int 12, .int 13, .int 17, .str "1", .lst [.int 1], .tup [.int 1], .dct false [], .int 10000000000000000000000000000000000000000, .tup []]
theorem odd_ok (d : Int) : ∃ x ∈ odds, f__law_odd_number [.int d] = .ok x := by
  obtain ⟨x, hx, e⟩ := emod_at (xs := odds) d 18 rfl (by decide)
  refine ⟨x, hx, ?_⟩
  unfold f__law_odd_number
  simp only [odds] at e
  simp [e]
theorem odds_sh : ∀ x ∈ odds, Sh 45 710 x := shB_all (by decide +kernel)
def okR (r : PV) : Prop := ∃ xs, r = .lst xs ∧ xs.length ≤ 8 ∧ ∀ x ∈ xs, Sh 45 710 x
theorem okR_sh {r : PV} (h : okR r) : Sh 46 15000 r := by
  obtain ⟨xs, rfl, hl, hx⟩ := h
  exact Sh.lst hx (n := 20) (by omega) (by decide)
theorem spoilt_ok {K d3 d4 d5 d6 : Int} {ts ds : List PV} (hK : 1 ≤ K ∧ K ≤ 12) (ht : ∀ t ∈ ts, okR t) (hl : ts.length ≤ 8) (e3 : L2.atI ds 3 = some (.int d3)) (e4 : L2.atI ds 4 = some (.int d4)) (e5 : L2.atI ds 5 = some (.int d5)) (e6 : L2.atI ds 6 = some (.int d6)) (h6 : 0 ≤ d6 ∧ d6 < 17) :
    ∃ t k, f__law_spoilt [.lst ts, .int K, .lst ds] = .ok (.lst [t, k]) ∧ Sh 48 2000000 t ∧ Sh 48 2000000 k := by
  obtain ⟨od, hod, eo⟩ := odd_ok d3
  have so := odds_sh od hod
  have hm : 0 < (if 1 < (ts.length : Int) then (ts.length : Int) else 1) := by split <;> omega
  obtain ⟨n, hn⟩ : ∃ n : Nat, d4 % (if 1 < (ts.length : Int) then (ts.length : Int) else 1) = n := ⟨_, (Int.toNat_of_nonneg (Int.emod_nonneg d4 (by omega))).symm⟩
  have hn2 : (n : Int) < ts.length + 1 := by have := Int.emod_lt_of_pos d4 hm; rw [hn] at this; split at this <;> omega
  obtain ⟨t, htm, et⟩ := atI_mem (xs := ts ++ [.lst []]) (i := (n : Int)) (by omega) (by simp; omega)
  have gt : okR t := by
    rcases List.mem_append.mp htm with h | h
    · exact ht t h
    · rw [List.mem_singleton.mp h]; exact ⟨[], rfl, by simp, by simp⟩
  have sts : ∀ x ∈ ts, Sh 46 15000 x := fun x hx => okR_sh (ht x hx)
  have st := okR_sh gt
  obtain ⟨xs, rfl, hxl, hxs⟩ := gt
  obtain ⟨q, hq⟩ : ∃ q : Nat, d5 % ((xs.length : Int) + 1) = q := ⟨_, (Int.toNat_of_nonneg (Int.emod_nonneg d5 (by omega))).symm⟩
  have hq0 : 0 < (xs.length : Int) + 1 := by omega
  have s0 : Sh 45 710 (.int 0) := Sh.int (by omega) (by decide)
  have sK : Sh 48 2000000 (.int K) := Sh.int (by omega) (by decide)
  have p1 : pcut ts none (some (n : Int)) = ts.take n := pcut_to
  have p2 : pcut ts (some ((n : Int) + 1)) none = ts.drop (n + 1) := pcut_from (k := n + 1)
  have p3 : pcut xs none (some (q : Int)) = xs.take q := pcut_to
  have p4 : pcut xs (some ((q : Int) + 1)) none = xs.drop (q + 1) := pcut_from (k := q + 1)
  have p5 : pcut xs (some 1) none = xs.tail := by rw [← List.drop_one]; exact pcut_from (k := 1)
  have p6 : pcut ts none (some 1) = ts.take 1 := pcut_to (k := 1)
  have z1 : ts.length + 1 ≤ 16777216 := by omega
  have z2 : min q xs.length + 1 ≤ 16777216 := by omega
  have z3 : min q xs.length + 1 + (xs.length - (q + 1)) ≤ 16777216 := by omega
  have z4 : xs.length + 1 ≤ 16777216 := by omega
  obtain ⟨m, hm9⟩ : ∃ m : Nat, 9 - (xs.length : Int) = m := ⟨9 - xs.length, by omega⟩
  have z5 : xs.length + m ≤ 16777216 := by omega
  have hc9 : ∀ γ : Z.Env, γ[5]? = some (.sl .fz (.lst xs)) → xRep (xLst (zCons (xC (.int 0)) (aNil))) (x2 pSub (xC (.int 9)) (xB pLen (aCons (xVar 5) (aNil)))) γ = .ok (.fr .ow (.lst (List.replicate m (.int 0)))) := fun γ h => by
    have hc : cRep 1 (m : Int) = true := by
      have : m ≤ 9 := by omega
      have : ∀ m : Fin 10, cRep 1 ((m : Nat) : Int) = true := by decide
      exact this ⟨m, by omega⟩
    have hf : (List.replicate m [PV.int 0]).flatten = List.replicate m (.int 0) := by
      clear hm9 z5 hc
      induction m with
      | zero => rfl
      | succ m ih => rw [List.replicate_succ, List.flatten_cons, ih, List.replicate_succ]; rfl
    simp [h, hm9, hc, hf]
  have row : ∀ {ys : List PV}, ys.length ≤ 20 → (∀ y ∈ ys, Sh 45 710 y) → Sh 46 15000 (.lst ys) := fun hl h => Sh.lst h (n := 20) hl (by decide)
  have tab : ∀ {ys : List PV}, ys.length ≤ 30 → (∀ y ∈ ys, Sh 46 15000 y) → Sh 48 2000000 (.lst ys) := fun hl h => (Sh.lst h (n := 30) (W := 2000000) hl (by decide)).up
  have soR : Sh 46 15000 od := so.to (by decide) (by decide)
  have stl : Sh 47 500000 (.lst ts) := Sh.lst sts (n := 30) (by omega) (by decide)
  have stt : Sh 47 500000 (.tup ts) := Sh.tup sts (n := 30) (by omega) (by decide)
  have g9 := hc9
  by_cases h7 : d6 < 7
  · obtain ⟨x, hx, ex⟩ := atI_mem (xs := [.lst (xs.take q ++ od :: xs.drop (q + 1)), .lst (xs ++ [.int 0]), .lst xs.tail, .tup xs, od, .lst [od], .lst (xs ++ List.replicate m (.int 0))]) (i := d6) h6.1 h7
    have z6 : min n ts.length + 1 ≤ 16777216 := by omega
    have z7 : min n ts.length + 1 + (ts.length - (n + 1)) ≤ 16777216 := by omega
    refine ⟨.lst (ts.take n ++ [x] ++ ts.drop (n + 1)), .int K, ?_, tab (by simp; omega) fun y hy => ?_, sK⟩
    · unfold f__law_spoilt
      simp only [m__law_spoilt]
      generalize xRep (xLst (zCons (xC (.int 0)) (aNil))) (x2 pSub (xC (.int 9)) (xB pLen (aCons (xVar 5) (aNil)))) = R at hc9 ⊢
      have hrl : (List.replicate m (PV.int 0)).length = m := by simp
      generalize List.replicate m (PV.int 0) = zs at *
      simp [e3, e4, e5, e6, eo, hm, hn, et, hq0, hq, p3, p4, p5, z1, z2, z3, z4, pTup, hc9, hrl, z5, h7, p1, p2, ex, z6, z7]
    · simp only [List.mem_append, List.mem_singleton] at hy
      rcases hy with (hy | rfl) | hy
      · exact sts y (List.mem_of_mem_take hy)
      · simp only [List.mem_cons, List.not_mem_nil, or_false] at hx
        rcases hx with rfl | rfl | rfl | rfl | rfl | rfl | rfl
        · refine row (by simp; omega) fun y hy => ?_
          rcases List.mem_append.mp hy with h | h
          · exact hxs y (List.mem_of_mem_take h)
          · rcases List.mem_cons.mp h with rfl | h
            · exact so
            · exact hxs y (List.mem_of_mem_drop h)
        · refine row (by simp; omega) fun y hy => ?_
          rcases List.mem_append.mp hy with h | h
          · exact hxs y h
          · rw [List.mem_singleton.mp h]; exact s0
        · exact row (by simp; omega) fun y hy => hxs y (List.mem_of_mem_tail hy)
        · exact Sh.tup hxs (n := 20) (by omega) (by decide)
        · exact soR
        · exact row (by simp) (by simp [so])
        · refine row (by simp; omega) fun y hy => ?_
          rcases List.mem_append.mp hy with h | h
          · exact hxs y h
          · rw [(List.mem_replicate.mp h).2]; exact s0
      · exact sts y (List.mem_of_mem_drop hy)
  by_cases h10 : d6 < 10
  · refine ⟨.lst ts, od, ?_, stl.to (by decide) (by decide), so.to (by decide) (by decide)⟩
    unfold f__law_spoilt
    simp only [m__law_spoilt]
    generalize xRep (xLst (zCons (xC (.int 0)) (aNil))) (x2 pSub (xC (.int 9)) (xB pLen (aCons (xVar 5) (aNil)))) = R at hc9 ⊢
    have hrl : (List.replicate m (PV.int 0)).length = m := by simp
    generalize List.replicate m (PV.int 0) = zs at *
    simp [e3, e4, e5, e6, eo, hm, hn, et, hq0, hq, p3, p4, p5, z1, z2, z3, z4, pTup, hc9, hrl, z5, h7, h10]
  have hrl : (List.replicate m (PV.int 0)).length = m := by simp
  by_cases h13 : d6 < 13
  · obtain ⟨u, hu⟩ : ∃ u : Nat, 6 + d6 = u := ⟨(6 + d6).toNat, by omega⟩
    have p7 : ∀ ys : List PV, pcut ys none (some (u : Int)) = ys.take u := fun ys => pcut_to
    have hc : cRep 1 18 = true := by decide
    have z6 : ts.length + 18 ≤ 16777216 := by omega
    refine ⟨.lst ((ts ++ List.replicate 18 (PV.lst xs)).take u), .int K, ?_, tab (by simp; omega) fun y hy => ?_, sK⟩
    · unfold f__law_spoilt
      simp only [m__law_spoilt]
      generalize xRep (xLst (zCons (xC (.int 0)) (aNil))) (x2 pSub (xC (.int 9)) (xB pLen (aCons (xVar 5) (aNil)))) = R at hc9 ⊢
      generalize List.replicate m (PV.int 0) = zs at *
      simp [e3, e4, e5, e6, eo, hm, hn, et, hq0, hq, p3, p4, p5, z1, z2, z3, z4, pTup, hc9, hrl, z5, h7, h10, h13, hc, hu, p7, z6]
    · rcases List.mem_append.mp (List.mem_of_mem_take hy) with h | h
      · exact sts y h
      · rw [(List.mem_replicate.mp h).2]; exact st
  · obtain ⟨x, hx, ex⟩ := atI_mem (xs := [.lst [.tup ts, .int K], .lst [od, .int K], .lst [.lst [.lst ts], .int K], .lst [.lst (ts ++ ts.take 1), .int K]]) (i := d6 - 13) (by omega) (by simp; omega)
    have z6 : ts.length + min 1 ts.length ≤ 16777216 := by omega
    have fin : ∀ t k, x = .lst [t, k] → Sh 48 2000000 t → Sh 48 2000000 k → ∃ t k, f__law_spoilt [.lst ts, .int K, .lst ds] = .ok (.lst [t, k]) ∧ Sh 48 2000000 t ∧ Sh 48 2000000 k := fun t k hxx hk ht => by
      subst hxx
      refine ⟨t, k, ?_, hk, ht⟩
      unfold f__law_spoilt
      simp only [m__law_spoilt]
      generalize xRep (xLst (zCons (xC (.int 0)) (aNil))) (x2 pSub (xC (.int 9)) (xB pLen (aCons (xVar 5) (aNil)))) = R at hc9 ⊢
      generalize List.replicate m (PV.int 0) = zs at *
      simp [e3, e4, e5, e6, eo, hm, hn, et, hq0, hq, p3, p4, p5, z1, z2, z3, z4, pTup, hc9, hrl, z5, h7, h10, h13, p6, z6, ex]
    simp only [List.mem_cons, List.not_mem_nil, or_false] at hx
    rcases hx with rfl | rfl | rfl | rfl
    · exact fin _ _ rfl (stt.to (by decide) (by decide)) sK
    · exact fin _ _ rfl (so.to (by decide) (by decide)) sK
    · exact fin _ _ rfl (Sh.lst (w := 500000) (n := 1) (by simp [stl]) (by simp) (by decide)) sK
    · refine fin _ _ rfl (tab (by simp; omega) fun y hy => ?_) sK
      rcases List.mem_append.mp hy with h | h
      · exact sts y h
      · exact sts y (List.mem_of_mem_take h)
end K08
set_option maxHeartbeats 4000000
namespace K08
open PySem L2 Z LL
abbrev sizes : List Int := [4, 7, 9, 18, 6, 9, 17, 3, 2] ++ (List.replicate 48 [420]).flatten
theorem sizes_pos : ∀ z ∈ sizes, 0 < z ∧ z < 2 ^ 40 := by decide +kernel
theorem sizes_len : sizes.length = 57 := by decide +kernel
theorem nums_at (k : Nat) (hk : k ≤ 1000) (c : Int) : ∃ ds : List Int, f__law_numbers [.int c, .int (800 + k), .lst (sizes.map .int)] = .ok (.lst (ds.map .int)) ∧ Below ds sizes :=
  nums_ok c (800 + k) sizes (by omega) sizes_pos (by rw [sizes_len]; omega)
theorem table_ok {ds : List Int} (hB : Below ds sizes) : ∃ ts K, f__law_table [.lst (ds.map .int)] = .ok (.tup [.lst ts, .int K]) ∧ (1 ≤ K ∧ K ≤ 12) ∧ ts.length ≤ 6 ∧ ∀ t ∈ ts, okR t := by
  have hlen : ds.length = 57 := hB.length.trans sizes_len
  obtain ⟨d0, a0, h0⟩ := hB.at (i := 0) rfl
  obtain ⟨d1, a1, h1⟩ := hB.at (i := 1) rfl
  obtain ⟨d2, a2, h2⟩ := hB.at (i := 2) rfl
  have a0 : L2.atI (ds.map PV.int) 0 = some (.int d0) := a0
  have a1 : L2.atI (ds.map PV.int) 1 = some (.int d1) := a1
  have a2 : L2.atI (ds.map PV.int) 2 = some (.int d2) := a2
  obtain ⟨m, rfl⟩ := Int.eq_ofNat_of_zero_le h1.1
  obtain ⟨v, rfl⟩ := Int.eq_ofNat_of_zero_le h2.1
  have p9 : pcut (ds.map PV.int) (some 9) none = (ds.drop 9).map PV.int := by
    have := pcut_from (xs := ds.map PV.int) (k := 9)
    rw [show ((9 : Nat) : Int) = 9 from rfl] at this
    rw [this, List.map_drop]
  have hat : ∀ i : Nat, i < 48 → ∃ d, L2.atI ((ds.drop 9).map PV.int) (i : Int) = some (.int d) := fun i hi => ⟨(ds.drop 9)[i]'(by simp; omega), by rw [Z.atI_nat (by simp; omega), List.getElem?_map, List.getElem?_eq_getElem (by simp; omega)]; rfl⟩
  generalize (ds.drop 9).map PV.int = e9 at p9 hat
  obtain ⟨P, hP, eP⟩ := atI_mem (xs := [.int 2, .int 3, .int 5, .int 7]) (i := d0) h0.1 (by simp; omega)
  obtain ⟨K, hK, rfl⟩ : ∃ K : Int, (2 ≤ K ∧ K ≤ 7) ∧ P = .int K := by
    simp only [List.mem_cons, List.not_mem_nil, or_false] at hP
    rcases hP with rfl | rfl | rfl | rfl <;> exact ⟨_, by omega, rfl⟩
  have hpr : ∀ n : Nat, n ≤ 8 → pRng [.int (n : Int)] = .ok (rngL 0 n) := fun n hn => pRng_nat (by omega)
  obtain ⟨ts, et, hl, hT⟩ := lcL_ex okR (tg := tgN 4) (c := tYesF) (f := l__law_table_1) (γ := [.sl .fz (.lst (ds.map .int)), .sl .fz (.int K), .sl .fz (.int v), .sl .ow (.lst e9), .un, .un]) (items := rngL 0 m) (fun x hx => by
    obtain ⟨i, hi⟩ := List.mem_iff_getElem?.mp hx
    obtain ⟨hi2, rfl⟩ := rngL_get0 hi
    obtain ⟨rs, er, hrl, hR⟩ := lcL_ex (fun x => Sh 45 710 x) (tg := tgN 5) (c := tYesF) (f := l__law_table_0) (γ := [.sl .fz (.lst (ds.map .int)), .sl .fz (.int K), .sl .fz (.int v), .sl .ow (.lst e9), .sl .fz (.int i), .un]) (items := rngL 0 v) (fun y hy => by
      obtain ⟨j, hj⟩ := List.mem_iff_getElem?.mp hy
      obtain ⟨hj2, rfl⟩ := rngL_get0 hj
      obtain ⟨e, he⟩ := hat (v * i + j) (by
        have : v * i ≤ 8 * 5 := Nat.mul_le_mul (by omega) (by omega)
        omega)
      push_cast at he
      have hv : (v : Int) < 18446744073709551616 := by omega
      have hv' : -18446744073709551616 < (v : Int) := by omega
      have hK0 : 0 < K := by omega
      have m1 := Int.emod_nonneg e (show K ≠ 0 by omega)
      have m2 := Int.emod_lt_of_pos e hK0
      exact ⟨.int (e % K), by simp [hv, hv', he, hK0], Sh.int (by omega) (by decide)⟩)
    have hvl : v ≤ 16777216 := by omega
    refine ⟨.lst rs, ?_, rs, rfl, by rw [hrl]; simp; omega, hR⟩
    have hpv := hpr v (by omega)
    simp [e_xLc, hpv, hvl, er])
  have hml : m ≤ 16777216 := by omega
  have hpm := hpr m (by omega)
  refine ⟨ts, K, ?_, by omega, by rw [hl]; simp; omega, hT⟩
  unfold f__law_table
  generalize ds.map PV.int = es at *
  simp [a0, a1, a2, eP, p9, e_xLc, hpm, hml, et]
theorem turn0 (k : Nat) (hk : k ≤ 1000) (c : Int) (w0 w3 w4 w5 w6 : Sl) : ∃ v3 v4 v5 v6, b_law_0 [w0, .sl .fz (.int k), .sl .fz (.int c), w3, w4, w5, w6] = .nx [w0, .sl .fz (.int k), .sl .fz (.int c), v3, v4, v5, v6] := by
  obtain ⟨ds, e0, hB⟩ := nums_at k hk c
  obtain ⟨ts, K, et, hK, hl, hT⟩ := table_ok hB
  obtain ⟨d3, a3, h3⟩ := hB.at (i := 3) rfl
  obtain ⟨d4, a4, h4⟩ := hB.at (i := 4) rfl
  obtain ⟨d5, a5, h5⟩ := hB.at (i := 5) rfl
  obtain ⟨d6, a6, h6⟩ := hB.at (i := 6) rfl
  obtain ⟨d7, a7, h7⟩ := hB.at (i := 7) rfl
  have a7 : L2.atI (ds.map PV.int) 7 = some (.int d7) := a7
  have good : ∃ t' K', (d7 ≤ 0 → t' = .lst ts ∧ K' = .int K) ∧ (0 < d7 → f__law_spoilt [.lst ts, .int K, .lst (ds.map .int)] = .ok (.lst [t', K'])) ∧ Sh 48 2000000 t' ∧ Sh 48 2000000 K' := by
    by_cases hd : 0 < d7
    · obtain ⟨t', k', e, s1, s2⟩ := spoilt_ok (K := K) (ts := ts) (ds := ds.map .int) hK hT (by omega) a3 a4 a5 a6 h6
      exact ⟨t', k', fun h => by omega, fun _ => e, s1, s2⟩
    · exact ⟨.lst ts, .int K, fun _ => ⟨rfl, rfl⟩, fun h => by omega, (Sh.lst (fun x hx => okR_sh (hT x hx)) (n := 20) (W := 2000000) (by omega) (by decide)).up, Sh.int (by omega) (by decide)⟩
  obtain ⟨t', K', g1, g2, s1, s2⟩ := good
  have hrep : pReprL [.lst [t', K']] = .ok (.z (.str (toR (.lst [t', K'])).shown)) := (Sh.lst (d := 48) (w := 2000000) (n := 2) (W := 16000000) (by simp [s1, s2]) (by simp) (by decide)).up.repr
  have hv := pNe_self (verd_D t' K')
  have hv2 := pNe_self (verd_D t' (.int 2))
  have ht := told_ok t' K'
  have ht2 := told_alone t' .non
  have hd := due_ok t' K'
  have hd2 := due_ok t' (.int 2)
  generalize verd t' K' = v at hv ht hd
  generalize verd t' (.int 2) = v2 at hv2 ht2 hd2
  generalize (toR (.lst [t', K'])).shown = str at hrep
  have hc48 : cRep 1 48 = true := by decide
  have hz : sizes.map PV.int = [.int 4, .int 7, .int 9, .int 18, .int 6, .int 9, .int 17, .int 3, .int 2] ++ List.replicate 48 (.int 420) := rfl
  rw [hz] at e0
  simp only [List.reduceReplicate, List.cons_append, List.nil_append] at e0
  generalize ds.map PV.int = es at *
  unfold b_law_0
  by_cases hd7 : 0 < d7
  · have e := g2 hd7
    simp [hc48, e0, et, a7, hd7, e, hrep, hv, hv2, ht, ht2, hd, hd2]
  · obtain ⟨rfl, rfl⟩ := g1 (by omega)
    simp [hc48, e0, et, a7, hd7, hrep, hv, hv2, ht, ht2, hd, hd2]
theorem law_true : LawOk f_law 63 := by
  intro ns hl
  obtain ⟨γ, f, w1, w2, w3, w4, w5, w6, rfl⟩ := forL_inv (tg := tgT (tgCons (tgN 1) (tgCons (tgN 2) (tgNil)))) (body := b_law_0) (fun _ γ => ∃ w1 w2 w3 w4 w5 w6, γ = [.sl .fz (.lst (ns.map .int)), w1, w2, w3, w4, w5, w6]) (enumL 0 ((4 :: ns.take 30).map .int)) 0 [.sl .fz (.lst (ns.map .int)), .un, .un, .un, .un, .un, .un] ⟨_, _, _, _, _, _, rfl⟩ (by
    rintro i x γ hx ⟨w1, w2, w3, w4, w5, w6, rfl⟩
    rw [enumL_get, List.getElem?_map] at hx
    cases e : (4 :: ns.take 30)[i]? with
    | none => rw [e] at hx; cases hx
    | some c =>
      rw [e] at hx
      have hi : i < (4 :: ns.take 30).length := (List.getElem?_eq_some_iff.mp e).1
      simp at hi
      simp at hx
      subst hx
      obtain ⟨v3, v4, v5, v6, e2⟩ := turn0 i (by omega) c (.sl .fz (.lst (ns.map .int))) w3 w4 w5 w6
      exact ⟨_, _, rfl, .inl e2, _, _, _, _, _, _, rfl⟩)
  have p : pcut (ns.map PV.int) none (some 30) = (ns.take 30).map PV.int := by
    have := pcut_to (xs := ns.map PV.int) (k := 30)
    rw [show ((30 : Nat) : Int) = 30 from rfl] at this
    rw [this, List.map_take]
  have hz : (ns.take 30).length + 1 ≤ 16777216 := by simp; omega
  unfold f_law
  generalize hq : ns.take 30 = qs at *
  simp only [List.map_cons] at f
  simp [p, iEnu, f, hz, Nat.add_comm]
end K08
open PySem PySem.W PyProof.Rows in
set_option maxRecDepth 100000 in
set_option maxHeartbeats 0 in
theorem PySem.Challenge.cw_twofree_k08_tables_made_or_not_holds : PySem.Challenge.rw_twofree_k08_tables_made_or_not.Holds := by
  w_on; o_law; k_head; (case hw => w_witness2)
  k_fill
  refine Z.walkG (l := PySem.Challenge.rw_twofree_k08_tables_made_or_not) (n := 63) (k := 8) (x := "_law_script") rfl (by decide) rfl ⟨rfl, by decide, by decide⟩ (by decide +kernel) (fun w h Y => PySem.W.kIn_of Y) ?F
  case F =>
    intro w mg fa h KX G hmg
    refine' K08.all_mk KX G hmg ?nl K08.law_true ?g_Rows ?g_NoRule ?g_NoRules ?g_NoSet ?g_FreeError ?g_Rule ?a0 ?l0 ?c0 ?k0 ?a1 ?l1 ?c1 ?k1 ?a2 ?l2 ?c2 ?k2 ?a3 ?l3 ?c3 ?k3 ?a4 ?l4 ?c4 ?k4 ?a5 ?l5 ?c5 ?k5 ?a6 ?l6 ?c6 ?k6 ?a7 ?l7 ?c7 ?k7 ?a8 ?l8 ?c8 ?k8 ?a9 ?l9 ?c9 ?k9 ?a10 ?l10 ?c10 ?k10 ?a11 ?l11 ?c11 ?k11 ?a12 ?l12 ?kd12_0 ?c12 ?k12 ?a13 ?af13 ?l13 ?c13 ?k13 ?a14 ?l14 ?c14 ?k14 ?a15 ?l15 ?c15 ?k15 ?a16 ?l16 ?c16 ?k16 ?a17 ?l17 ?c17 ?k17 ?hn0 ?ht0 ?m1_Rows ?m2_Rows ?m3_Rows ?m4_Rows ?i1_Rows ?i2_Rows ?i3_Rows ?i4_Rows ?i5_Rows ?i6_Rows ?na_number_Rows ?na_own_prime_Rows ?na_own_table_Rows ?na_own_things_Rows ?na_part_Rows ?e1_NoRule ?e2_NoRule ?e3_NoRule ?e4_NoRule ?e5_NoRule ?e6_NoRule ?e7_NoRule ?e8_NoRule ?e9_NoRule ?e10_NoRule ?e11_NoRule ?e12_NoRule ?e13_NoRule ?e14_NoRule ?e15_NoRule ?nx_number_NoRule ?nx_own_prime_NoRule ?nx_own_table_NoRule ?nx_own_things_NoRule ?nx_part_NoRule ?ef0_NoRule ?ef1_NoRule ?q1_Rule_Rule__init ?q2_Rule_Rule__init ?q3_Rule_Rule__init ?t00_NoRule ?t01_NoRule ?t02_NoRule ?t03_NoRule ?t04_NoRule ?t05_NoRule ?t06_NoRule ?t07_NoRule ?t_NoRule_Rows ?t_NoRule_NoRule ?t00_NoRules ?t01_NoRules ?t02_NoRules ?t03_NoRules ?t04_NoRules ?t05_NoRules ?t06_NoRules ?t07_NoRules ?t_NoRules_Rows ?t_NoRules_NoRule ?t00_NoSet ?t01_NoSet ?t02_NoSet ?t03_NoSet ?t04_NoSet ?t05_NoSet ?t06_NoSet ?t07_NoSet ?t_NoSet_Rows ?t_NoSet_NoRule ?ti_bool_Rows ?ti_bool_NoRule ?ti_int_Rows ?ti_int_NoRule ?ti_list_Rows ?ti_list_NoRule ?h_FreeError_NoRule ?z_all ?z_bool ?z_enumerate ?z_int ?z_isinstance ?z_len ?z_list ?z_max ?z_range ?z_repr ?z_tuple ?y_MOST_THINGS ?y_MOST_WIDE ?v1_PRIMES ?v2_PRIMES ?v3_PRIMES
    (case nl => exact rfl)
    (case g_Rows => k_is)
    (case g_NoRule => k_is)
    (case g_NoRules => k_is)
    (case g_NoSet => k_is)
    (case g_FreeError => k_is)
    (case g_Rule => k_is)
    (case a0 => k_is)
    (case l0 => k_is)
    (case c0 => k_is)
    (case k0 => k_is)
    (case a1 => k_is)
    (case l1 => k_is)
    (case c1 => k_is)
    (case k1 => k_is)
    (case a2 => k_is)
    (case l2 => k_is)
    (case c2 => k_is)
    (case k2 => k_is)
    (case a3 => k_is)
    (case l3 => k_is)
    (case c3 => k_is)
    (case k3 => k_is)
    (case a4 => k_is)
    (case l4 => k_is)
    (case c4 => k_is)
    (case k4 => k_is)
    (case a5 => k_is)
    (case l5 => k_is)
    (case c5 => k_is)
    (case k5 => k_is)
    (case a6 => k_is)
    (case l6 => k_is)
    (case c6 => k_is)
    (case k6 => k_is)
    (case a7 => k_is)
    (case l7 => k_is)
    (case c7 => k_is)
    (case k7 => k_is)
    (case a8 => k_is)
    (case l8 => k_is)
    (case c8 => k_is)
    (case k8 => k_is)
    (case a9 => k_is)
    (case l9 => k_is)
    (case c9 => k_is)
    (case k9 => k_is)
    (case a10 => k_is)
    (case l10 => k_is)
    (case c10 => k_is)
    (case k10 => k_is)
    (case a11 => k_is)
    (case l11 => k_is)
    (case c11 => k_is)
    (case k11 => k_is)
    (case a12 => k_is)
    (case l12 => k_is)
    (case kd12_0 => k_is)
    (case c12 => k_is)
    (case k12 => k_is)
    (case a13 => k_is)
    (case af13 => k_is)
    (case l13 => k_is)
    (case c13 => k_is)
    (case k13 => k_is)
    (case a14 => k_is)
    (case l14 => k_is)
    (case c14 => k_is)
    (case k14 => k_is)
    (case a15 => k_is)
    (case l15 => k_is)
    (case c15 => k_is)
    (case k15 => k_is)
    (case a16 => k_is)
    (case l16 => k_is)
    (case c16 => k_is)
    (case k16 => k_is)
    (case a17 => k_is)
    (case l17 => k_is)
    (case c17 => k_is)
    (case k17 => k_is)
    (case hn0 => k_is)
    (case ht0 => k_is)
    (case m1_Rows => k_is)
    (case m2_Rows => k_is)
    (case m3_Rows => k_is)
    (case m4_Rows => k_is)
    (case i1_Rows => k_is)
    (case i2_Rows => k_is)
    (case i3_Rows => k_is)
    (case i4_Rows => k_is)
    (case i5_Rows => k_is)
    (case i6_Rows => k_is)
    (case na_number_Rows => k_is)
    (case na_own_prime_Rows => k_is)
    (case na_own_table_Rows => k_is)
    (case na_own_things_Rows => k_is)
    (case na_part_Rows => k_is)
    (case e1_NoRule => k_is)
    (case e2_NoRule => k_is)
    (case e3_NoRule => k_is)
    (case e4_NoRule => k_is)
    (case e5_NoRule => k_is)
    (case e6_NoRule => k_is)
    (case e7_NoRule => kx_is)
    (case e8_NoRule => kx_is)
    (case e9_NoRule => k_is)
    (case e10_NoRule => k_is)
    (case e11_NoRule => k_is)
    (case e12_NoRule => k_is)
    (case e13_NoRule => k_is)
    (case e14_NoRule => k_is)
    (case e15_NoRule => k_is)
    (case nx_number_NoRule => k_is)
    (case nx_own_prime_NoRule => k_is)
    (case nx_own_table_NoRule => k_is)
    (case nx_own_things_NoRule => k_is)
    (case nx_part_NoRule => k_is)
    (case ef0_NoRule => k_is)
    (case ef1_NoRule => k_is)
    (case q1_Rule_Rule__init => k_is)
    (case q2_Rule_Rule__init => k_is)
    (case q3_Rule_Rule__init => k_is)
    (case t00_NoRule => kit_is)
    (case t01_NoRule => kit_is)
    (case t02_NoRule => kit_is)
    (case t03_NoRule => kit_is)
    (case t04_NoRule => kit_is)
    (case t05_NoRule => kit_is)
    (case t06_NoRule => kit_is)
    (case t07_NoRule => kit_is)
    (case t_NoRule_Rows => kit_is)
    (case t_NoRule_NoRule => kit_is)
    (case t00_NoRules => kit_is)
    (case t01_NoRules => kit_is)
    (case t02_NoRules => kit_is)
    (case t03_NoRules => kit_is)
    (case t04_NoRules => kit_is)
    (case t05_NoRules => kit_is)
    (case t06_NoRules => kit_is)
    (case t07_NoRules => kit_is)
    (case t_NoRules_Rows => kit_is)
    (case t_NoRules_NoRule => kit_is)
    (case t00_NoSet => kit_is)
    (case t01_NoSet => kit_is)
    (case t02_NoSet => kit_is)
    (case t03_NoSet => kit_is)
    (case t04_NoSet => kit_is)
    (case t05_NoSet => kit_is)
    (case t06_NoSet => kit_is)
    (case t07_NoSet => kit_is)
    (case t_NoSet_Rows => kit_is)
    (case t_NoSet_NoRule => kit_is)
    (case ti_bool_Rows => kit_is)
    (case ti_bool_NoRule => kit_is)
    (case ti_int_Rows => kit_is)
    (case ti_int_NoRule => kit_is)
    (case ti_list_Rows => kit_is)
    (case ti_list_NoRule => kit_is)
    (case h_FreeError_NoRule => kts_exm)
    (case z_all => k_is)
    (case z_bool => k_is)
    (case z_enumerate => k_is)
    (case z_int => k_is)
    (case z_isinstance => k_is)
    (case z_len => k_is)
    (case z_list => k_is)
    (case z_max => k_is)
    (case z_range => k_is)
    (case z_repr => k_is)
    (case z_tuple => k_is)
    (case y_MOST_THINGS => k_is)
    (case y_MOST_WIDE => k_is)
    (case v1_PRIMES => k_is)
    (case v2_PRIMES => k_is)
    (case v3_PRIMES => (repeat (first | exact .nil | refine .cons ⟨_, rfl⟩ ?_)))
#print axioms PySem.Challenge.cw_twofree_k08_tables_made_or_not_holds
