import PyProof.Rows.All
import Wide.All
import OpenK.AllK
import Wide.FinOn
import HandS.ForMost
import HandS.ForExc
import HandS.Wide
import HandS.IsInst
import HandS.Flow
import HandS.Style
import HandS.CallSlots
import HandS.Deep
import HandS.TupAny
import HandS.Zip
import HandS.Conv
import KE.SortData
import PyProof.TupleOfSeq
import HandS.ExcValue
import HandS.ExcOwn
import HandS.Property
import KE.KExcSuper
import HandS.ExcInit
import HandS.ClsMeth
import HandS.TryMany
import HandS.ExcField
import HandS.Star
import HandS.HeadEnd
import HandS.Defaults
import HandS.ExcIs
import PySem.Challenge.RW_gonewithin_k71_journals
set_option Elab.async false
set_option linter.all false
set_option maxRecDepth 100000
set_option maxHeartbeats 4000000
/-! A mirror layer: values by themselves (Val), a small state monad, and what ties both to the hand layer's readings. -/
namespace Mir
open PySem PySem.Spec PyProof.Rows L2

/-! ### values -/
inductive Val where
  | non | bl (b : Bool) | int (i : Int) | str (s : Str)
  | tup (vs : List Val) | lst (vs : List Val) | fz (vs : List Val)
  | dct (kvs : List (Val × Val))
  | obj (c : Nat) (fs : List (Nat × Val))
  | ref (a : Nat)
abbrev Fld := List (Nat × Val)
inductive Cell where
  | lst (vs : List Val) | ins (c : Nat) (fs : Fld) | dct (kvs : List (Val × Val))
inductive SV where
  | un | val (v : Val) | own (c : Cell) | xv (c : Nat) (fs : Fld)
abbrev MEnv := List SV
abbrev MHp := List Cell
inductive RE (α : Type) where
  | ok (a : α) (ρ : MEnv) (h : MHp) | exc (c : Nat) (fs : Fld) (ρ : MEnv) (h : MHp) | fail
abbrev EM (α : Type) := MEnv → MHp → RE α
def EM.pure {α : Type} (a : α) : EM α := fun ρ h => .ok a ρ h
def EM.bind {α β : Type} (m : EM α) (f : α → EM β) : EM β := fun ρ h =>
  match m ρ h with
  | .ok a ρ' h' => f a ρ' h'
  | .exc c fs ρ' h' => .exc c fs ρ' h'
  | .fail => .fail
def EM.lift {α : Type} (o : Option α) : EM α := fun ρ h => match o with
  | some a => .ok a ρ h
  | none => .fail
inductive Fl where
  | next | ret (v : Val) | brk | cont

/-- the fragment, the classes' addresses, the names of attributes -/
structure Ctx where
  CT : Nat → Addr
  nm : Nat → Str
  /-- the exception that the suite of a clause holds -/
  ex : Option (Addr × Value × Option Addr) := none

/-- keys of plain dicts -/
inductive KyR : Val → Key → Prop
  | int (i : Int) : KyR (.int i) (.inl i)
  | str (s : Str) : KyR (.str s) (.inr s)
inductive KysR : List Val → List Key → Prop
  | nil : KysR [] []
  | cons {v k vs ks} : KyR v k → KysR vs ks → KysR (v :: vs) (k :: ks)

section
variable (K : PySem.W.Frag) (c : Ctx) (G : Hp) (ι : List Addr)
mutual
inductive VR : Val → V → Prop
  | non : VR .non .non
  | bl (b : Bool) : VR (.bl b) (.bl b)
  | int (i : Int) : VR (.int i) (.int i)
  | str (s : Str) : VR (.str s) (.str s)
  | tup {p xs vs} : SqT K G p xs → VRs vs xs → VR (.tup vs) (.ref p)
  | lst {p xs vs} : G p = some (.lst xs) → VRs vs xs → VR (.lst vs) (.ref p)
  | fz {p xs vs} : SqL K G p xs → VRs vs xs → VR (.fz vs) (.ref p)
  | dct {p xs kvs} : G p = some (.dK xs) → KVRs kvs xs → VR (.dct kvs) (.ref p)
  | obj {C fs p dx xs} : G p = some (.ins (c.CT C) dx xs) → FRs fs xs → VR (.obj C fs) (.ref p)
  | ref {a p} : ι[a]? = some p → VR (.ref a) (.ref p)
inductive VRs : List Val → List V → Prop
  | nil : VRs [] []
  | cons {v x vs xs} : VR v x → VRs vs xs → VRs (v :: vs) (x :: xs)
inductive FRs : Fld → List (Str × V) → Prop
  | nil : FRs [] []
  | cons {n v x r xs} : VR v x → FRs r xs → FRs ((n, v) :: r) ((c.nm n, x) :: xs)
inductive KVRs : List (Val × Val) → List (Key × V) → Prop
  | nil : KVRs [] []
  | cons {k v q x r xs} : KyR k q → VR v x → KVRs r xs → KVRs ((k, v) :: r) ((q, x) :: xs)
end
end

def Hle (G G' : Hp) : Prop := ∀ p o, G p = some o → G' p = some o
theorem Hle.refl (G : Hp) : Hle G G := fun _ _ h => h
theorem Hle.trans {G G1 G2 : Hp} (a : Hle G G1) (b : Hle G1 G2) : Hle G G2 := fun p o h => b p o (a p o h)
theorem Hle.new {G : Hp} {p : Addr} {o : HO} (h : G p = none) : Hle G (upd G p o) := fun b u e => by
  rw [upd_ne (ne_of_none e h)]; exact e
theorem Hle.free {G G' : Hp} {p : Addr} (e : Hle G G') (h : G' p = none) : G p = none := by
  cases q : G p with
  | none => rfl
  | some o => rw [e p o q] at h; cases h
theorem Hle.rd {G G' : Hp} {p : Addr} {u : HO} (e : Hle G G') (h : Rd G p u) : Rd G' p u := by
  rcases h with h | ⟨o, h⟩
  · exact .inl (e _ _ h)
  · exact .inr ⟨o, e _ _ h⟩
theorem Hle.sqT {K : PySem.W.Frag} {G G' : Hp} {p : Addr} {xs : List V} (e : Hle G G') (h : SqT K G p xs) : SqT K G' p xs := h.imp e.rd id
theorem Hle.sqL {K : PySem.W.Frag} {G G' : Hp} {p : Addr} {xs : List V} (e : Hle G G') (h : SqL K G p xs) : SqL K G' p xs := h.imp e.rd id
def Ile (ι ι' : List Addr) : Prop := ∃ r, ι' = ι ++ r
theorem Ile.refl (ι : List Addr) : Ile ι ι := ⟨[], by simp⟩
theorem Ile.trans {a b d : List Addr} (x : Ile a b) (y : Ile b d) : Ile a d := by
  obtain ⟨r, rfl⟩ := x; obtain ⟨s, rfl⟩ := y; exact ⟨r ++ s, by simp⟩
theorem Ile.get {ι ι' : List Addr} (x : Ile ι ι') {a : Nat} {p : Addr} (h : ι[a]? = some p) : ι'[a]? = some p := by
  obtain ⟨r, rfl⟩ := x
  rw [List.getElem?_append_left (List.getElem?_eq_some_iff.mp h).1]; exact h
theorem Ile.mem {ι ι' : List Addr} (x : Ile ι ι') {p : Addr} (h : p ∈ ι) : p ∈ ι' := by
  obtain ⟨r, rfl⟩ := x; exact List.mem_append_left _ h

section
variable {K : PySem.W.Frag} {c : Ctx} {G G' : Hp} {ι ι' : List Addr}
mutual
theorem VR.mono (hG : Hle G G') (hι : Ile ι ι') : ∀ {v x}, VR K c G ι v x → VR K c G' ι' v x
  | _, _, .non => .non
  | _, _, .bl b => .bl b
  | _, _, .int i => .int i
  | _, _, .str s => .str s
  | _, _, .tup h r => .tup (hG.sqT h) (VRs.mono hG hι r)
  | _, _, .lst h r => .lst (hG _ _ h) (VRs.mono hG hι r)
  | _, _, .fz h r => .fz (hG.sqL h) (VRs.mono hG hι r)
  | _, _, .dct h r => .dct (hG _ _ h) (KVRs.mono hG hι r)
  | _, _, .obj h r => .obj (hG _ _ h) (FRs.mono hG hι r)
  | _, _, .ref h => .ref (hι.get h)
theorem VRs.mono (hG : Hle G G') (hι : Ile ι ι') : ∀ {vs xs}, VRs K c G ι vs xs → VRs K c G' ι' vs xs
  | _, _, .nil => .nil
  | _, _, .cons h r => .cons (VR.mono hG hι h) (VRs.mono hG hι r)
theorem FRs.mono (hG : Hle G G') (hι : Ile ι ι') : ∀ {vs xs}, FRs K c G ι vs xs → FRs K c G' ι' vs xs
  | _, _, .nil => .nil
  | _, _, .cons h r => .cons (VR.mono hG hι h) (FRs.mono hG hι r)
theorem KVRs.mono (hG : Hle G G') (hι : Ile ι ι') : ∀ {vs xs}, KVRs K c G ι vs xs → KVRs K c G' ι' vs xs
  | _, _, .nil => .nil
  | _, _, .cons k h r => .cons k (VR.mono hG hι h) (KVRs.mono hG hι r)
end
theorem VRs.length : ∀ {vs xs}, VRs K c G ι vs xs → vs.length = xs.length
  | _, _, .nil => rfl
  | _, _, .cons _ r => by simp [VRs.length r]
theorem VRs.get : ∀ {vs xs} {i : Nat} {v}, VRs K c G ι vs xs → vs[i]? = some v → ∃ x, xs[i]? = some x ∧ VR K c G ι v x
  | _, _, _, _, .nil, h => by simp at h
  | _, _, 0, _, .cons r _, h => by simp at h; subst h; exact ⟨_, rfl, r⟩
  | _, _, i + 1, _, .cons _ r, h => by
    obtain ⟨x, h1, h2⟩ := VRs.get (i := i) r (by simpa using h)
    exact ⟨x, by simpa using h1, h2⟩
theorem VRs.get' : ∀ {vs xs} {i : Nat} {x}, VRs K c G ι vs xs → xs[i]? = some x → ∃ v, vs[i]? = some v ∧ VR K c G ι v x
  | _, _, _, _, .nil, h => by simp at h
  | _, _, 0, _, .cons r _, h => by simp at h; subst h; exact ⟨_, rfl, r⟩
  | _, _, i + 1, _, .cons _ r, h => by
    obtain ⟨x, h1, h2⟩ := VRs.get' (i := i) r (by simpa using h)
    exact ⟨x, by simpa using h1, h2⟩
theorem VRs.append : ∀ {vs xs ws ys}, VRs K c G ι vs xs → VRs K c G ι ws ys → VRs K c G ι (vs ++ ws) (xs ++ ys)
  | _, _, _, _, .nil, s => s
  | _, _, _, _, .cons r t, s => .cons r (VRs.append t s)
theorem VRs.take : ∀ {vs xs} (n : Nat), VRs K c G ι vs xs → VRs K c G ι (vs.take n) (xs.take n)
  | _, _, 0, _ => .nil
  | _, _, _ + 1, .nil => .nil
  | _, _, n + 1, .cons r t => .cons r (VRs.take n t)
theorem VRs.drop : ∀ {vs xs} (n : Nat), VRs K c G ι vs xs → VRs K c G ι (vs.drop n) (xs.drop n)
  | _, _, 0, r => r
  | _, _, _ + 1, .nil => .nil
  | _, _, n + 1, .cons _ t => VRs.drop n t
theorem VRs.set {v x} (r : VR K c G ι v x) : ∀ {vs xs} (i : Nat), VRs K c G ι vs xs → VRs K c G ι (vs.set i v) (xs.set i x)
  | _, _, _, .nil => .nil
  | _, _, 0, .cons _ t => .cons r t
  | _, _, i + 1, .cons q t => .cons q (VRs.set r i t)
theorem VRs.eraseIdx : ∀ {vs xs} (i : Nat), VRs K c G ι vs xs → VRs K c G ι (vs.eraseIdx i) (xs.eraseIdx i)
  | _, _, _, .nil => .nil
  | _, _, 0, .cons _ t => t
  | _, _, i + 1, .cons q t => .cons q (VRs.eraseIdx i t)
theorem VRs.reverse : ∀ {vs xs}, VRs K c G ι vs xs → VRs K c G ι vs.reverse xs.reverse
  | _, _, .nil => .nil
  | _, _, .cons r t => by
    simp only [List.reverse_cons]
    exact (VRs.reverse t).append (.cons r .nil)
theorem VRs.ints {ns : List Int} : VRs K c G ι (ns.map .int) (ns.map V.int) := by
  induction ns with
  | nil => exact .nil
  | cons n ns ih => exact .cons (.int n) ih
end

def XR (K : PySem.W.Frag) (c : Ctx) (G : Hp) (ι : List Addr) (H : Hp) (C : Nat) (fs : Fld) (cls : Value) (d : Option Addr) : Prop :=
  cls = .ref (c.CT C) ∧ match d with
    | none => fs = []
    | some dd => ∃ xs, G dd = some (.xd xs) ∧ FRs K c G ι fs xs
theorem XR.mono {K : PySem.W.Frag} {c : Ctx} {G G' H H' : Hp} {ι ι' : List Addr} {C : Nat} {fs : Fld} {cls : Value} {d : Option Addr} (hG : Hle G G') (hι : Ile ι ι') (r : XR K c G ι H C fs cls d) : XR K c G' ι' H' C fs cls d := by
  obtain ⟨e, r⟩ := r
  refine ⟨e, ?_⟩
  cases d with
  | none => exact r
  | some dd => obtain ⟨xs, a, b⟩ := r; exact ⟨xs, hG _ _ a, b.mono hG hι⟩
/-! ### states -/
/-- what stands at a mirrored cell -/
def CR (K : PySem.W.Frag) (c : Ctx) (G : Hp) (ι : List Addr) (H : Hp) (p : Addr) : Cell → Prop
  | .lst vs => ∃ xs, H p = some (.lst xs) ∧ VRs K c G ι vs xs
  | .ins C fs => ∃ dx xs, H p = some (.ins (c.CT C) dx xs) ∧ FRs K c G ι fs xs
  | .dct kvs => ∃ xs, H p = some (.dK xs) ∧ KVRs K c G ι kvs xs
theorem CR.mono {K : PySem.W.Frag} {c : Ctx} {G G' H H' : Hp} {ι ι' : List Addr} {p : Addr} {cl : Cell} (hG : Hle G G') (hι : Ile ι ι') (hp : ∀ o, H p = some o → H' p = some o) (h : CR K c G ι H p cl) : CR K c G' ι' H' p cl := by
  cases cl with
  | lst vs => obtain ⟨xs, a, r⟩ := h; exact ⟨xs, hp _ a, r.mono hG hι⟩
  | ins C fs => obtain ⟨dx, xs, a, r⟩ := h; exact ⟨dx, xs, hp _ a, r.mono hG hι⟩
  | dct kvs => obtain ⟨xs, a, r⟩ := h; exact ⟨xs, hp _ a, r.mono hG hι⟩
theorem CR.some {K : PySem.W.Frag} {c : Ctx} {G H : Hp} {ι : List Addr} {p : Addr} {cl : Cell} (h : CR K c G ι H p cl) : ∃ o, H p = some o := by
  cases cl with
  | lst vs => obtain ⟨xs, a, r⟩ := h; exact ⟨_, a⟩
  | ins C fs => obtain ⟨dx, xs, a, r⟩ := h; exact ⟨_, a⟩
  | dct kvs => obtain ⟨xs, a, r⟩ := h; exact ⟨_, a⟩

/-- the mirrored heap -/
structure Stc (K : PySem.W.Frag) (c : Ctx) (G : Hp) (ι : List Addr) (h : MHp) (H : Hp) : Prop where
  le : Hle G H
  len : ι.length = h.length
  nd : ι.Nodup
  out : ∀ p ∈ ι, G p = none
  cell : ∀ (i : Nat) p cl, ι[i]? = some p → h[i]? = some cl → CR K c G ι H p cl

structure Bas where
  G : Hp
  ι : List Addr
  H : Hp

/-- one slot -/
def SR (K : PySem.W.Frag) (c : Ctx) (B : Bas) (G : Hp) (ι : List Addr) (H : Hp) : SV → Option V → Prop
  | .un, _ => True
  | .val v, x => ∃ y, x = some y ∧ VR K c G ι v y
  | .own cl, x => ∃ p, x = some (.ref p) ∧ G p = none ∧ p ∉ ι ∧ B.H p = none ∧ CR K c G ι H p cl
  | .xv C fs, x => ∃ a cls d, c.ex = some (a, cls, d) ∧ x = some (.ref a) ∧ XR K c G ι H C fs cls d
structure St (K : PySem.W.Frag) (c : Ctx) (B : Bas) (G : Hp) (ι : List Addr) (h : MHp) (H : Hp) (ρ : MEnv) (σ : L2.St) : Prop where
  st : Stc K c G ι h H
  env : ∀ (i : Nat) sv, ρ[i]? = some sv → ∃ x, σ[i]? = some x ∧ SR K c B G ι H sv x
  dis : ∀ (i j : Nat) c1 c2 p, ρ[i]? = some (.own c1) → ρ[j]? = some (.own c2) → σ[i]? = some (some (.ref p)) → σ[j]? = some (some (.ref p)) → i = j
  b1 : ∀ p o, B.H p = some o → p ∉ B.ι → H p = some o
  b2 : ∀ q ∈ ι, q ∈ B.ι ∨ B.H q = none
  b3 : ∀ p o, G p = some o → B.G p = some o ∨ B.H p = none
  b4 : Ile B.ι ι
  b5 : Hle B.G G

section
variable {K : PySem.W.Frag} {c : Ctx} {B : Bas} {G G' : Hp} {ι ι' : List Addr} {h h' : MHp} {H H' : Hp} {ρ ρ' : MEnv} {σ σ' : L2.St}
theorem Stc.cellOf (S : Stc K c G ι h H) {q : Addr} (hq : q ∈ ι) : ∃ (i : Nat) (cl : Cell), ι[i]? = some q ∧ h[i]? = some cl ∧ CR K c G ι H q cl := by
  obtain ⟨i, hi, e⟩ := List.mem_iff_getElem.mp hq
  have e1 : ι[i]? = some q := by rw [List.getElem?_eq_getElem hi, e]
  have hl : i < h.length := by rw [← S.len]; exact hi
  exact ⟨i, h[i], e1, List.getElem?_eq_getElem hl, S.cell i q _ e1 (List.getElem?_eq_getElem hl)⟩
theorem Stc.notIn (S : Stc K c G ι h H) {p : Addr} (hp : H p = none) : p ∉ ι := fun hm => by
  obtain ⟨i, cl, _, _, r⟩ := S.cellOf hm
  obtain ⟨o, e⟩ := r.some
  rw [hp] at e; cases e
theorem SR.mono (hG : Hle G G') (hι : Ile ι ι') (hH : ∀ p o, G p = none → p ∉ ι → B.H p = none → H p = some o → H' p = some o ∧ G' p = none ∧ p ∉ ι') {sv : SV} {x : Option V} (r : SR K c B G ι H sv x) : SR K c B G' ι' H' sv x := by
  cases sv with
  | un => trivial
  | val v => obtain ⟨y, e, q⟩ := r; exact ⟨y, e, q.mono hG hι⟩
  | xv C fs => obtain ⟨a, cls, d, e1x, e2x, q⟩ := r; exact ⟨a, cls, d, e1x, e2x, q.mono hG hι⟩
  | own cl =>
    obtain ⟨p, e, g, n, b, q⟩ := r
    obtain ⟨o, ho⟩ := q.some
    obtain ⟨_, a2, a3⟩ := hH p o g n b ho
    exact ⟨p, e, a2, a3, b, q.mono hG hι fun o ho => (hH p o g n b ho).1⟩
/-- a new object, known by value -/
theorem St.new (S : St K c B G ι h H ρ σ) {p : Addr} {o : HO} (hp : H p = none) : St K c B (upd G p o) ι h (upd H p o) ρ σ := by
  have gp : G p = none := S.st.le.free hp
  have nn : p ∉ ι := S.st.notIn hp
  have hle : Hle G (upd G p o) := Hle.new gp
  have up : ∀ q u, H q = some u → upd H p o q = some u := fun q u e => by rw [upd_ne (ne_of_none e hp)]; exact e
  have bp : B.H p = none ∨ p ∈ B.ι := by
    cases q : B.H p with
    | none => exact .inl rfl
    | some u =>
      by_cases m : p ∈ B.ι
      · exact .inr m
      · have := S.b1 p u q m
        rw [hp] at this; cases this
  have bp' : B.H p = none := by
    rcases bp with z | z
    · exact z
    · exact (nn (S.b4.mem z)).elim
  refine ⟨⟨fun q u e => ?_, S.st.len, S.st.nd, fun q hq => ?_, fun i q cl h1 h2 => ?_⟩, fun i sv hi => ?_, S.dis, fun q u e n => up q u (S.b1 q u e n), S.b2, fun q u e => ?_, S.b4, S.b5.trans hle⟩
  · by_cases z : q = p
    · subst z; rw [upd_same] at e ⊢; exact e
    · rw [upd_ne z] at e ⊢; exact S.st.le q u e
  · rw [upd_ne (fun (z : q = p) => nn (by rw [← z]; exact hq))]; exact S.st.out q hq
  · exact (S.st.cell i q cl h1 h2).mono hle (Ile.refl _) fun u e => up q u e
  · obtain ⟨x, e1, r⟩ := S.env i sv hi
    refine ⟨x, e1, r.mono hle (Ile.refl _) fun q u g n b e => ⟨up q u e, ?_, n⟩⟩
    rw [upd_ne (ne_of_none e hp)]; exact g
  · by_cases z : q = p
    · subst z; exact .inr bp'
    · rw [upd_ne z] at e; exact S.b3 q u e
/-- a new object, not known -/
theorem St.new' (S : St K c B G ι h H ρ σ) {p : Addr} {o : HO} (hp : H p = none) : St K c B G ι h (upd H p o) ρ σ := by
  have up : ∀ q u, H q = some u → upd H p o q = some u := fun q u e => by rw [upd_ne (ne_of_none e hp)]; exact e
  refine ⟨⟨fun q u e => up q u (S.st.le q u e), S.st.len, S.st.nd, S.st.out, fun i q cl h1 h2 => ?_⟩, fun i sv hi => ?_, S.dis, fun q u e n => up q u (S.b1 q u e n), S.b2, S.b3, S.b4, S.b5⟩
  · exact (S.st.cell i q cl h1 h2).mono (Hle.refl _) (Ile.refl _) fun u e => up q u e
  · obtain ⟨x, e1, r⟩ := S.env i sv hi
    exact ⟨x, e1, r.mono (Hle.refl _) (Ile.refl _) fun q u g n b e => ⟨up q u e, g, n⟩⟩
end
section
variable {K : PySem.W.Frag} {c : Ctx} {G : Hp} {ι : List Addr} {x : V}
theorem VR.nonE (r : VR K c G ι .non x) : x = .non := by cases r; rfl
theorem VR.blE {b} (r : VR K c G ι (.bl b) x) : x = .bl b := by cases r; rfl
theorem VR.intE {i} (r : VR K c G ι (.int i) x) : x = .int i := by cases r; rfl
theorem VR.strE {s} (r : VR K c G ι (.str s) x) : x = .str s := by cases r; rfl
theorem VR.tupE {vs} (r : VR K c G ι (.tup vs) x) : ∃ p xs, x = .ref p ∧ SqT K G p xs ∧ VRs K c G ι vs xs := by cases r; exact ⟨_, _, rfl, by assumption, by assumption⟩
theorem VR.lstE {vs} (r : VR K c G ι (.lst vs) x) : ∃ p xs, x = .ref p ∧ G p = some (.lst xs) ∧ VRs K c G ι vs xs := by cases r; exact ⟨_, _, rfl, by assumption, by assumption⟩
theorem VR.fzE {vs} (r : VR K c G ι (.fz vs) x) : ∃ p xs, x = .ref p ∧ SqL K G p xs ∧ VRs K c G ι vs xs := by cases r; exact ⟨_, _, rfl, by assumption, by assumption⟩
theorem VR.dctE {vs} (r : VR K c G ι (.dct vs) x) : ∃ p xs, x = .ref p ∧ G p = some (.dK xs) ∧ KVRs K c G ι vs xs := by cases r; exact ⟨_, _, rfl, by assumption, by assumption⟩
theorem VR.objE {C fs} (r : VR K c G ι (.obj C fs) x) : ∃ p dx xs, x = .ref p ∧ G p = some (.ins (c.CT C) dx xs) ∧ FRs K c G ι fs xs := by cases r; exact ⟨_, _, _, rfl, by assumption, by assumption⟩
theorem VR.refE {a} (r : VR K c G ι (.ref a) x) : ∃ p, x = .ref p ∧ ι[a]? = some p := by cases r; exact ⟨_, rfl, by assumption⟩
theorem VRs.consE {v vs xs} (r : VRs K c G ι (v :: vs) xs) : ∃ x ys, xs = x :: ys ∧ VR K c G ι v x ∧ VRs K c G ι vs ys := by cases r; exact ⟨_, _, rfl, by assumption, by assumption⟩
theorem VRs.nilE {xs} (r : VRs K c G ι [] xs) : xs = [] := by cases r; rfl
end
end Mir

set_option Elab.async false
set_option linter.all false
set_option maxRecDepth 100000
set_option maxHeartbeats 4000000
namespace Mir
open PySem PySem.Spec PyProof.Rows L2

/-- a value as it stands in H: the container itself may be one that changes later -/
def VH (K : PySem.W.Frag) (c : Ctx) (G : Hp) (ι : List Addr) (H : Hp) : Val → V → Prop
  | .lst vs, x => ∃ p xs, x = .ref p ∧ H p = some (.lst xs) ∧ VRs K c G ι vs xs
  | .dct vs, x => ∃ p xs, x = .ref p ∧ H p = some (.dK xs) ∧ KVRs K c G ι vs xs
  | v, x => VR K c G ι v x
theorem VR.toH {K : PySem.W.Frag} {c : Ctx} {G H : Hp} {ι : List Addr} (hG : Hle G H) {v : Val} {x : V} (r : VR K c G ι v x) : VH K c G ι H v x := by
  cases v with
  | lst vs => obtain ⟨p, xs, e, a, b⟩ := r.lstE; exact ⟨p, xs, e, hG _ _ a, b⟩
  | dct vs => obtain ⟨p, xs, e, a, b⟩ := r.dctE; exact ⟨p, xs, e, hG _ _ a, b⟩
  | _ => exact r
inductive VHs (K : PySem.W.Frag) (c : Ctx) (G : Hp) (ι : List Addr) (H : Hp) : List Val → List V → Prop
  | nil : VHs K c G ι H [] []
  | cons {v x vs xs} : VH K c G ι H v x → VHs K c G ι H vs xs → VHs K c G ι H (v :: vs) (x :: xs)
theorem VRs.toH {K : PySem.W.Frag} {c : Ctx} {G H : Hp} {ι : List Addr} (hG : Hle G H) : ∀ {vs : List Val} {xs : List V}, VRs K c G ι vs xs → VHs K c G ι H vs xs
  | _, _, .nil => .nil
  | _, _, .cons r t => .cons (r.toH hG) (VRs.toH hG t)

/-! ### what is wanted behind a mirrored computation -/
abbrev RelT (α β : Type) := Hp → List Addr → α → β → Prop
section
variable (K : PySem.W.Frag) (c : Ctx)
def Post {α β : Type} (R : RelT α β) (E : WX) (B : Bas) (G : Hp) (ι : List Addr) (σ : L2.St) (r : RE α) (Q : β → Hp → Prop) : Prop :=
  match r with
  | .ok v ρ' h' => ∀ G' ι' H' x, Hle G G' → Ile ι ι' → St K c B G' ι' h' H' ρ' σ → R G' ι' v x → Q x H'
  | .exc C fs ρ' h' => ∀ G' ι' H' cls d, Hle G G' → Ile ι ι' → St K c B G' ι' h' H' ρ' σ → XR K c G' ι' H' C fs cls d → E cls d σ H'
  | .fail => False
/-- a reading is followed by its mirror -/
def Sim {α β : Type} (R : RelT α β) (E : WX) (te : L2.St → Hp → (β → Hp → Prop) → Prop) (m : EM α) : Prop :=
  ∀ B G ι h H ρ σ Q, St K c B G ι h H ρ σ → Post K c R E B G ι σ (m ρ h) Q → te σ H Q
abbrev RV : RelT Val V := VR K c
abbrev RVs : RelT (List Val) (List V) := VRs K c
abbrev RB : RelT Bool Bool := fun _ _ a b => b = a
abbrev RO : RelT (Option Int) (Option Int) := fun _ _ a b => b = a
end

section
variable {K : PySem.W.Frag} {c : Ctx} {B : Bas} {G G' : Hp} {ι ι' : List Addr} {h h' : MHp} {H H' : Hp} {ρ ρ' : MEnv} {σ σ' : L2.St} {E : WX}
variable {α β γ δ : Type} {R : RelT α β} {S : RelT γ δ}
theorem Post.mono {r : RE α} {Q : β → Hp → Prop} (hG : Hle G G') (hι : Ile ι ι') (p : Post K c R E B G ι σ r Q) : Post K c R E B G' ι' σ r Q := by
  cases r with
  | ok v ρ' h' => exact fun G2 ι2 H2 x a b s q => p G2 ι2 H2 x (hG.trans a) (hι.trans b) s q
  | exc C fs ρ' h' => exact fun G2 ι2 H2 cls d a b s q => p G2 ι2 H2 cls d (hG.trans a) (hι.trans b) s q
  | fail => exact p
/-- one after another -/
theorem Sim.bind {te : L2.St → Hp → (β → Hp → Prop) → Prop} {m : EM α} {f : α → EM γ} {Q : δ → Hp → Prop} {k : β → Hp → Prop} (hm : Sim K c R E te m) (hs : St K c B G ι h H ρ σ)
    (hp : Post K c S E B G ι σ (EM.bind m f ρ h) Q)
    (hk : ∀ G' ι' h' H' ρ' v x, Hle G G' → Ile ι ι' → St K c B G' ι' h' H' ρ' σ → R G' ι' v x → Post K c S E B G' ι' σ (f v ρ' h') Q → k x H') : te σ H k := by
  refine hm B G ι h H ρ σ k hs ?_
  unfold EM.bind at hp
  cases e : m ρ h with
  | ok v ρ' h' =>
    rw [e] at hp
    exact fun G' ι' H' x a b s r => hk G' ι' h' H' ρ' v x a b s r (hp.mono a b)
  | exc C fs ρ' h' =>
    rw [e] at hp
    exact hp
  | fail =>
    rw [e] at hp
    exact hp
theorem Post.pure {a : α} {x : β} {Q : β → Hp → Prop} (p : Post K c R E B G ι σ (EM.pure a ρ h) Q) (hs : St K c B G ι h H ρ σ) (r : R G ι a x) : Q x H :=
  p G ι H x (Hle.refl _) (Ile.refl _) hs r
theorem Post.lift {o : Option α} {Q : β → Hp → Prop} (p : Post K c R E B G ι σ (EM.lift o ρ h) Q) : ∃ a, o = some a ∧ Post K c R E B G ι σ (EM.pure a ρ h) Q := by
  cases o with
  | none => exact p.elim
  | some a => exact ⟨a, rfl, p⟩

/-! ### names and constants -/
def mVar (i : Nat) : EM Val := fun ρ h => match ρ[i]? with
  | some (.val v) => .ok v ρ h
  | _ => .fail
theorem sim_var (i : Nat) : Sim K c (RV K c) E (tVar i) (mVar i) := by
  intro B G ι h H ρ σ Q hs hp
  unfold mVar at hp
  split at hp
  · rename_i v e
    obtain ⟨x, e1, y, e2, r⟩ := hs.env i _ e
    subst e2
    exact ⟨y, e1, hp G ι H y (Hle.refl _) (Ile.refl _) hs r⟩
  · exact hp.elim
def mC (v : Val) : EM Val := EM.pure v
theorem sim_c {v : Val} {x : V} (r : ∀ G ι, VR K c G ι v x) : Sim K c (RV K c) E (tC x) (mC v) := fun B G ι h H ρ σ Q hs hp => hp.pure hs (r G ι)
theorem sim_int (i : Int) : Sim K c (RV K c) E (tC (.int i)) (mC (.int i)) := sim_c fun _ _ => .int i
theorem sim_bl (i : Bool) : Sim K c (RV K c) E (tC (.bl i)) (mC (.bl i)) := sim_c fun _ _ => .bl i
theorem sim_str (i : Str) : Sim K c (RV K c) E (tC (.str i)) (mC (.str i)) := sim_c fun _ _ => .str i
theorem sim_non : Sim K c (RV K c) E (tC .non) (mC .non) := sim_c fun _ _ => .non

/-! ### two-place operations by values -/
def mOp (f : Val → Val → Option Val) (a b : EM Val) : EM Val := EM.bind a fun x => EM.bind b fun y => EM.lift (f x y)
def SimR2 (K : PySem.W.Frag) (c : Ctx) (r : R2) (f : Val → Val → Option Val) : Prop :=
  ∀ B G ι h H ρ σ vx vy x y z, St K c B G ι h H ρ σ → VH K c G ι H vx x → VH K c G ι H vy y → f vx vy = some z →
    ∀ Q : VK, (∀ G' H' u, Hle G G' → St K c B G' ι h H' ρ σ → VR K c G' ι z u → Q u H') → r x y H Q
theorem sim_op {r : R2} {f : Val → Val → Option Val} {ta tb : TE} {ma mb : EM Val} (hr : SimR2 K c r f) (ha : Sim K c (RV K c) E ta ma) (hb : Sim K c (RV K c) E tb mb) : Sim K c (RV K c) E (tOp r ta tb) (mOp f ma mb) := by
  intro B G ι h H ρ σ Q hs hp
  refine ha.bind hs hp fun G1 ι1 h1 H1 ρ1 v x a1 b1 s1 r1 p1 => ?_
  refine hb.bind s1 p1 fun G2 ι2 h2 H2 ρ2 w y a2 b2 s2 r2 p2 => ?_
  obtain ⟨z, e, p3⟩ := p2.lift
  exact hr B G2 ι2 h2 H2 ρ2 σ v w x y z s2 ((r1.mono a2 b2).toH s2.st.le) (r2.toH s2.st.le) e Q fun G' H' u a3 s3 r3 => p3 G' ι2 H' u a3 (Ile.refl _) s3 r3
def mUn (f : Val → Option Val) (a : EM Val) : EM Val := EM.bind a fun x => EM.lift (f x)
def SimR1 (K : PySem.W.Frag) (c : Ctx) (r : V → Hp → VK → Prop) (f : Val → Option Val) : Prop :=
  ∀ B G ι h H ρ σ vx x z, St K c B G ι h H ρ σ → VR K c G ι vx x → f vx = some z →
    ∀ Q : VK, (∀ G' H' u, Hle G G' → St K c B G' ι h H' ρ σ → VR K c G' ι z u → Q u H') → r x H Q
theorem sim_un {r : V → Hp → VK → Prop} {f : Val → Option Val} {ta : TE} {ma : EM Val} (hr : SimR1 K c r f) (ha : Sim K c (RV K c) E ta ma) : Sim K c (RV K c) E (tUn r ta) (mUn f ma) := by
  intro B G ι h H ρ σ Q hs hp
  refine ha.bind hs hp fun G1 ι1 h1 H1 ρ1 v x a1 b1 s1 r1 p1 => ?_
  obtain ⟨z, e, p3⟩ := p1.lift
  exact hr B G1 ι1 h1 H1 ρ1 σ v x z s1 r1 e Q fun G' H' u a3 s3 r3 => p3 G' ι1 H' u a3 (Ile.refl _) s3 r3
theorem SimR2.or {r r' : R2} {f f' g : Val → Val → Option Val} (h1 : SimR2 K c r f) (h2 : SimR2 K c r' f') (hg : ∀ x y z, g x y = some z → f x y = some z ∨ f' x y = some z) : SimR2 K c (fun x y H Q => r x y H Q ∨ r' x y H Q) g := by
  intro B G ι h H ρ σ vx vy x y z hs rx ry e Q q
  rcases hg _ _ _ e with e | e
  · exact .inl (h1 B G ι h H ρ σ vx vy x y z hs rx ry e Q q)
  · exact .inr (h2 B G ι h H ρ σ vx vy x y z hs rx ry e Q q)
/-- what gives a value of ints, bools, texts and leaves the heap -/
theorem SimR2.pure {r : R2} {f : Val → Val → Option Val} (h : ∀ G ι H vx vy x y z, Hle G H → VH K c G ι H vx x → VH K c G ι H vy y → f vx vy = some z → ∃ u, (∀ G ι, VR K c G ι z u) ∧ ∀ Q : VK, Q u H → r x y H Q) : SimR2 K c r f := by
  intro B G ι h' H ρ σ vx vy x y z hs rx ry e Q q
  obtain ⟨u, hu, k⟩ := h G ι H vx vy x y z hs.st.le rx ry e
  exact k Q (q G H u (Hle.refl _) hs (hu _ _))

/-! ### operators -/
def fAddI : Val → Val → Option Val
  | .int i, .int j => some (.int (i + j))
  | _, _ => none
def fSub : Val → Val → Option Val
  | .int i, .int j => some (.int (i - j))
  | _, _ => none
def fAddS : Val → Val → Option Val
  | .str a, .str b => if a.length + b.length ≤ sizeLine then some (.str (a ++ b)) else none
  | _, _ => none
def fAddL : Val → Val → Option Val
  | .lst a, .lst b => if a.length + b.length ≤ sizeLine then some (.lst (a ++ b)) else none
  | _, _ => none
def fAddT : Val → Val → Option Val
  | .tup (v :: a), .tup b => if (v :: a).length + b.length ≤ sizeLine then some (.tup ((v :: a) ++ b)) else none
  | _, _ => none
def fAddIB : Val → Val → Option Val
  | .int i, .bl b => some (.int (i + b2i b))
  | _, _ => none
def fAdd : Val → Val → Option Val
  | .int i, .int j => some (.int (i + j))
  | .str a, .str b => if a.length + b.length ≤ sizeLine then some (.str (a ++ b)) else none
  | .lst a, .lst b => if a.length + b.length ≤ sizeLine then some (.lst (a ++ b)) else none
  | .tup (v :: a), .tup b => if (v :: a).length + b.length ≤ sizeLine then some (.tup ((v :: a) ++ b)) else none
  | .int i, .bl b => some (.int (i + b2i b))
  | _, _ => none
def rAddAny (K : PySem.W.Frag) : R2 := fun x y H Q =>
  rI0 (fun i j => .int (i + j)) x y H Q ∨ ((∃ i j, x = .str i ∧ y = .str j ∧ i.length + j.length ≤ sizeLine ∧ Q (.str (i ++ j)) H) ∨ (rCat x y H Q ∨ (rCatT K x y H Q ∨ ∃ i k, x = .int i ∧ y = .bl k ∧ Q (.int (i + b2i k)) H)))
theorem op_addAny {X : Cx} : OpR X (binaryOp .Add) (rAddAny X.K) := op_add.or (op_add_str.or (op_cat.or (op_catT.or op_add_ib)))
theorem sr_addI : SimR2 K c (rI0 fun i j => .int (i + j)) fAddI := SimR2.pure fun G ι H vx vy x y z hl rx ry e => by
  unfold fAddI at e
  split at e
  · cases e; cases rx; cases ry
    exact ⟨_, fun _ _ => .int _, fun Q q => ⟨_, _, rfl, rfl, q⟩⟩
  · cases e
theorem sr_sub : SimR2 K c (rI0 fun i j => .int (i - j)) fSub := SimR2.pure fun G ι H vx vy x y z hl rx ry e => by
  unfold fSub at e
  split at e
  · cases e; cases rx; cases ry
    exact ⟨_, fun _ _ => .int _, fun Q q => ⟨_, _, rfl, rfl, q⟩⟩
  · cases e
theorem sr_addS : SimR2 K c (fun x y H Q => ∃ i j, x = .str i ∧ y = .str j ∧ i.length + j.length ≤ sizeLine ∧ Q (.str (i ++ j)) H) fAddS := SimR2.pure fun G ι H vx vy x y z hl rx ry e => by
  unfold fAddS at e
  split at e
  · split at e
    · rename_i hz; cases e; cases rx; cases ry
      exact ⟨_, fun _ _ => .str _, fun Q q => ⟨_, _, rfl, rfl, hz, q⟩⟩
    · cases e
  · cases e
theorem sr_addIB : SimR2 K c (fun x y H Q => ∃ i k, x = .int i ∧ y = .bl k ∧ Q (.int (i + b2i k)) H) fAddIB := SimR2.pure fun G ι H vx vy x y z hl rx ry e => by
  unfold fAddIB at e
  split at e
  · cases e; cases rx; cases ry
    exact ⟨_, fun _ _ => .int _, fun Q q => ⟨_, _, rfl, rfl, q⟩⟩
  · cases e
theorem sr_addL : SimR2 K c rCat fAddL := by
  intro B G ι h H ρ σ vx vy x y z hs rx ry e Q q
  unfold fAddL at e
  split at e
  · split at e
    · rename_i hz; cases e
      obtain ⟨p, xs, rfl, hp, rp⟩ := rx
      obtain ⟨p2, ys, rfl, hp2, rp2⟩ := ry
      refine ⟨_, _, _, _, rfl, rfl, hp, hp2, by rw [← rp.length, ← rp2.length]; exact hz, fun l hl => ?_⟩
      have hg : G l = none := hs.st.le.free hl
      exact q _ _ _ (Hle.new hg) (hs.new hl) (.lst upd_same ((rp.append rp2).mono (Hle.new hg) (Ile.refl _)))
    · cases e
  · cases e
theorem sr_addT : SimR2 K c (rCatT K) fAddT := by
  intro B G ι h H ρ σ vx vy x y z hs rx ry e Q q
  unfold fAddT at e
  split at e
  · split at e
    · rename_i hz; cases e
      obtain ⟨p, xs, rfl, hp, rp⟩ := VR.tupE rx
      obtain ⟨p2, ys, rfl, hp2, rp2⟩ := VR.tupE ry
      obtain ⟨x0, xs0, rfl, _, _⟩ := rp.consE
      refine ⟨p, p2, _, ys, rfl, rfl, hs.st.le.sqT hp, hs.st.le.sqT hp2, by simp, by rw [← rp.length, ← rp2.length]; exact hz, fun hy => ?_, fun hy l hl => ?_⟩
      · subst hy
        refine q G H _ (Hle.refl _) hs (.tup hp ?_)
        have := rp.append rp2
        simpa using this
      · have hg : G l = none := hs.st.le.free hl
        exact q _ _ _ (Hle.new hg) (hs.new hl) (.tup (.of upd_same) ((rp.append rp2).mono (Hle.new hg) (Ile.refl _)))
    · cases e
  · cases e
theorem sr_add : SimR2 K c (rAddAny K) fAdd := by
  refine sr_addI.or (f' := fun x y => if (fAddI x y).isNone then fAdd x y else none) ?_ ?_
  · refine SimR2.or (f := fAddS) (f' := fun x y => match x with | .str _ => none | .int _ => (match y with | .bl _ => fAdd x y | _ => none) | _ => fAdd x y) sr_addS ?_ ?_
    · refine SimR2.or (f := fAddL) (f' := fun x y => match x with | .lst _ => none | .str _ => none | .int _ => (match y with | .bl _ => fAdd x y | _ => none) | _ => fAdd x y) sr_addL ?_ ?_
      · refine SimR2.or (f := fAddT) (f' := fAddIB) sr_addT sr_addIB ?_
        intro x y z h
        cases x <;> simp [fAdd, fAddT, fAddIB] at h ⊢
        · cases y <;> simp_all [fAdd]
        · rename_i vs
          cases vs <;> cases y <;> simp_all [fAdd, fAddT]
      · intro x y z h
        cases x <;> simp [fAdd, fAddL] at h ⊢
        · cases y <;> simp_all [fAdd]
        · exact h
        · cases y <;> simp_all [fAdd, fAddL]
    · intro x y z h
      cases x <;> simp [fAdd, fAddS, fAddI] at h ⊢
      · cases y <;> simp_all [fAdd, fAddI]
      · cases y <;> simp_all [fAdd, fAddS]
      · exact h
      · exact h
  · intro x y z h
    cases x <;> cases y <;> simp_all [fAdd, fAddI]
end
end Mir

set_option Elab.async false
set_option linter.all false
set_option maxRecDepth 100000
set_option maxHeartbeats 4000000
namespace Mir
open PySem PySem.Spec PyProof.Rows L2

/-! ### an expression, a test, arguments: their term, its mirror -/
structure PEm (X : Cx) (c : Ctx) (E : WX) (e : Expr) (m : EM Val) : Prop where
  ex : ∃ te, PE X e te ∧ Sim X.K c (RV X.K c) E te m
structure PTm (X : Cx) (c : Ctx) (E : WX) (e : Expr) (m : EM Bool) : Prop where
  ex : ∃ te, PT X e te ∧ Sim X.K c RB E te m
structure PWm (X : Cx) (c : Ctx) (E : WX) (e : Expr) (m : EM Bool) : Prop where
  ex : ∃ te, PW X e te ∧ Sim X.K c RB E te m
structure PAm (X : Cx) (c : Ctx) (E : WX) (es : List Expr) (m : EM (List Val)) : Prop where
  ex : ∃ te, PA X es te ∧ Sim X.K c (RVs X.K c) E te m
structure POm (X : Cx) (c : Ctx) (E : WX) (e : Option Expr) (m : EM (Option Int)) : Prop where
  ex : ∃ te, PO X e te ∧ Sim X.K c RO E te m

section
variable {K : PySem.W.Frag} {c : Ctx} {B : Bas} {G G' : Hp} {ι ι' : List Addr} {h h' : MHp} {H H' : Hp} {ρ ρ' : MEnv} {σ σ' : L2.St} {E : WX}
variable {ta tb tc : TE} {ma mb mc : EM Val} {t1 t2 : TT} {m1 m2 : EM Bool}

/-! ### more operators -/
def fMul : Val → Val → Option Val
  | .int i, .int j => if i.natAbs.log2 + j.natAbs.log2 < 1000000 then some (.int (i * j)) else none
  | _, _ => none
def fMod : Val → Val → Option Val
  | .int i, .int j => if 0 < j then some (.int (i % j)) else none
  | _, _ => none
def fDiv : Val → Val → Option Val
  | .int i, .int j => if 0 < j ∧ j.natAbs.log2 < 9000 then some (.int (i / j)) else none
  | _, _ => none
def fPow : Val → Val → Option Val
  | .int i, .int j => if 0 ≤ j ∧ (Builtin.Int.intBits i : Int) * j ≤ 2 ^ 27 then some (.int (i ^ j.toNat)) else none
  | _, _ => none
def CPowW (i j : Int) : Prop := 0 ≤ j ∧ (Builtin.Int.intBits i : Int) * j ≤ 2 ^ 27
theorem op_powW {X : Cx} : OpR X (binaryOp .Pow) (rI CPowW fun i j => .int (i ^ j.toNat)) := opI fun _ _ _ _ _ _ _ hc q => pow_int hc.1 hc.2 q
theorem sr_I {C : Int → Int → Prop} {g : Int → Int → Int} {f : Val → Val → Option Val} (hf : ∀ x y z, f x y = some z → ∃ i j, x = .int i ∧ y = .int j ∧ C i j ∧ z = .int (g i j)) : SimR2 K c (rI C fun i j => .int (g i j)) f :=
  SimR2.pure fun G ι H vx vy x y z hl rx ry e => by
    obtain ⟨i, j, rfl, rfl, hc, rfl⟩ := hf _ _ _ e
    cases rx; cases ry
    exact ⟨_, fun _ _ => .int _, fun Q q => ⟨_, _, rfl, rfl, hc, q⟩⟩
theorem sr_mul : SimR2 K c (rI CMulW fun i j => .int (i * j)) fMul := sr_I fun x y z e => by
  unfold fMul at e; split at e
  · split at e
    · rename_i hz; cases e; exact ⟨_, _, rfl, rfl, hz, rfl⟩
    · cases e
  · cases e
theorem sr_mod : SimR2 K c (rI (fun _ j => 0 < j) fun i j => .int (i % j)) fMod := sr_I fun x y z e => by
  unfold fMod at e; split at e
  · split at e
    · rename_i hz; cases e; exact ⟨_, _, rfl, rfl, hz, rfl⟩
    · cases e
  · cases e
theorem sr_div : SimR2 K c (rI CDivW fun i j => .int (i / j)) fDiv := sr_I fun x y z e => by
  unfold fDiv at e; split at e
  · split at e
    · rename_i hz; cases e; exact ⟨_, _, rfl, rfl, hz, rfl⟩
    · cases e
  · cases e
theorem sr_pow : SimR2 K c (rI CPowW fun i j => .int (i ^ j.toNat)) fPow := sr_I fun x y z e => by
  unfold fPow at e; split at e
  · split at e
    · rename_i hz; cases e; exact ⟨_, _, rfl, rfl, hz, rfl⟩
    · cases e
  · cases e
/-- a comparison of ints -/
def fCmp (g : Int → Int → Bool) : Val → Val → Option Val
  | .int i, .int j => some (.bl (g i j))
  | _, _ => none
theorem sr_cmp {g : Int → Int → Bool} : SimR2 K c (rI0 fun i j => .bl (g i j)) (fCmp g) := SimR2.pure fun G ι H vx vy x y z hl rx ry e => by
  unfold fCmp at e
  split at e
  · cases e; cases rx; cases ry
    exact ⟨_, fun _ _ => .bl _, fun Q q => ⟨_, _, rfl, rfl, q⟩⟩
  · cases e
abbrev fLt := fCmp fun i j => decide (i < j)
abbrev fLe := fCmp fun i j => decide (i ≤ j)
abbrev fGt := fCmp fun i j => decide (j < i)
abbrev fGe := fCmp fun i j => decide (j ≤ i)

/-! ### data -/
mutual
def toD : Val → Option PyData
  | .non => some .none
  | .bl b => some (.bool b)
  | .int i => some (.int i)
  | .str s => some (.str s)
  | .tup vs => (toDs vs).map .tuple
  | .lst vs => (toDs vs).map .list
  | .fz vs => (toDs vs).map .list
  | .dct _ => none
  | .obj _ _ => none
  | .ref _ => none
def toDs : List Val → Option (List PyData)
  | [] => some []
  | v :: vs => match toD v, toDs vs with
    | some d, some ds => some (d :: ds)
    | _, _ => none
end
mutual
theorem toD_ok (hG : Hle G H) : ∀ {v : Val} {x : V} {d : PyData}, VR K c G ι v x → toD v = some d → Dp K H x d
  | _, _, d, .non, e => by simp [toD] at e; subst e; exact .non
  | _, _, d, .bl b, e => by simp [toD] at e; subst e; exact .bl b
  | _, _, d, .int b, e => by simp [toD] at e; subst e; exact .int b
  | _, _, d, .str b, e => by simp [toD] at e; subst e; exact .str b
  | .tup vs, _, d, .tup hp r, e => by
    simp only [toD, Option.map_eq_some_iff] at e
    obtain ⟨ds, e, rfl⟩ := e
    exact .tup (hG.sqT hp) (toDs_ok hG r e)
  | .lst vs, _, d, .lst hp r, e => by
    simp only [toD, Option.map_eq_some_iff] at e
    obtain ⟨ds, e, rfl⟩ := e
    exact .lst (.of (hG _ _ hp)) (toDs_ok hG r e)
  | .fz vs, _, d, .fz hp r, e => by
    simp only [toD, Option.map_eq_some_iff] at e
    obtain ⟨ds, e, rfl⟩ := e
    exact .lst (hG.sqL hp) (toDs_ok hG r e)
  | _, _, d, .dct hp r, e => by simp [toD] at e
  | _, _, d, .obj hp r, e => by simp [toD] at e
  | _, _, d, .ref hp, e => by simp [toD] at e
theorem toDs_ok (hG : Hle G H) : ∀ {vs : List Val} {xs : List V} {ds : List PyData}, VRs K c G ι vs xs → toDs vs = some ds → DpAll K H xs ds
  | _, _, d, .nil, e => by simp [toDs] at e; subst e; exact .nil
  | v :: vs, _, d, .cons r rs, e => by
    simp only [toDs] at e
    split at e
    · rename_i d0 ds0 e0 e1
      cases e
      exact .cons (toD_ok hG r e0) (toDs_ok hG rs e1)
    · cases e
end
theorem toD_okH (hG : Hle G H) {v : Val} {x : V} {d : PyData} (r : VH K c G ι H v x) (e : toD v = some d) : Dp K H x d := by
  cases v with
  | lst vs =>
    obtain ⟨p, xs, rfl, hp, r⟩ := r
    simp only [toD, Option.map_eq_some_iff] at e
    obtain ⟨ds, e, rfl⟩ := e
    exact .lst (.of hp) (toDs_ok hG r e)
  | dct vs => simp [toD] at e
  | non => exact toD_ok hG (show VR K c G ι _ x from r) e
  | bl b => exact toD_ok hG (show VR K c G ι _ x from r) e
  | int b => exact toD_ok hG (show VR K c G ι _ x from r) e
  | str b => exact toD_ok hG (show VR K c G ι _ x from r) e
  | tup b => exact toD_ok hG (show VR K c G ι _ x from r) e
  | fz b => exact toD_ok hG (show VR K c G ι _ x from r) e
  | obj b d => exact toD_ok hG (show VR K c G ι _ x from r) e
  | ref b => exact toD_ok hG (show VR K c G ι _ x from r) e
def eqD (x y : Val) : Option Bool := match toD x, toD y with
  | some d, some e => if SeqAt.shaped d && SeqAt.shaped e then some (PyData.eqv d e) else none
  | _, _ => none
def fEq : Val → Val → Option Val := fun x y => (eqD x y).map .bl
def fNe : Val → Val → Option Val := fun x y => (eqD x y).map fun b => .bl (!b)
theorem eqD_ok {x y : Val} {b : Bool} (h : eqD x y = some b) : ∃ d e, toD x = some d ∧ toD y = some e ∧ SeqAt.shaped d = true ∧ SeqAt.shaped e = true ∧ b = PyData.eqv d e := by
  unfold eqD at h
  split at h
  · rename_i d e e1 e2
    split at h
    · rename_i hz
      simp only [Bool.and_eq_true] at hz
      cases h
      exact ⟨d, e, e1, e2, hz.1, hz.2, rfl⟩
    · cases h
  · cases h
theorem sr_eq : SimR2 K c (rEqD K) fEq := SimR2.pure fun G ι H vx vy x y z hl rx ry e => by
  unfold fEq at e
  simp only [Option.map_eq_some_iff] at e
  obtain ⟨b, e, rfl⟩ := e
  obtain ⟨d, d', e1, e2, s1, s2, rfl⟩ := eqD_ok e
  exact ⟨_, fun _ _ => .bl _, fun Q q => ⟨d, d', toD_okH hl rx e1, toD_okH hl ry e2, s1, s2, q⟩⟩
theorem sr_ne : SimR2 K c (rNeD K) fNe := SimR2.pure fun G ι H vx vy x y z hl rx ry e => by
  unfold fNe at e
  simp only [Option.map_eq_some_iff] at e
  obtain ⟨b, e, rfl⟩ := e
  obtain ⟨d, d', e1, e2, s1, s2, rfl⟩ := eqD_ok e
  exact ⟨_, fun _ _ => .bl _, fun Q q => ⟨d, d', toD_okH hl rx e1, toD_okH hl ry e2, s1, s2, q⟩⟩

/-! ### in -/
def rInTD (K : PySem.W.Frag) : R2 := fun x y H Q => ∃ d ds, Dp K H x d ∧ Dp K H y (.tuple ds) ∧ SeqAt.shaped d = true ∧ SeqAt.shaped (.tuple ds) = true ∧ Q (.bl (ds.any fun z => PyData.eqv z d)) H
def rNotInTD (K : PySem.W.Frag) : R2 := fun x y H Q => ∃ d ds, Dp K H x d ∧ Dp K H y (.tuple ds) ∧ SeqAt.shaped d = true ∧ SeqAt.shaped (.tuple ds) = true ∧ Q (.bl (!ds.any fun z => PyData.eqv z d)) H
theorem op_inTD {X : Cx} (hu : X.A.units + 65 < cLine) : OpR X (compareOp .In) (rInTD X.K) := by
  intro pins s σ H x y v u Q I rx ry h
  obtain ⟨d, ds, hd, he, sd, se, q⟩ := h
  obtain ⟨as, r1⟩ := Dp.reads I d x v hd rx
  obtain ⟨bs, r2⟩ := Dp.reads I (.tuple ds) y u he ry
  exact SeqAt.in_tuple_reads r2 r1 (SeqAt.canLay_of_shaped se) (SeqAt.canLay_of_shaped sd) (room_in_shaped sd hu) ⟨.bl _, H, I, rfl, q⟩
theorem op_notInTD {X : Cx} (hu : X.A.units + 65 < cLine) : OpR X (compareOp .NotIn) (rNotInTD X.K) := by
  intro pins s σ H x y v u Q I rx ry h
  obtain ⟨d, ds, hd, he, sd, se, q⟩ := h
  obtain ⟨as, r1⟩ := Dp.reads I d x v hd rx
  obtain ⟨bs, r2⟩ := Dp.reads I (.tuple ds) y u he ry
  exact SeqAt.notIn_tuple_reads r2 r1 (SeqAt.canLay_of_shaped se) (SeqAt.canLay_of_shaped sd) (room_in_shaped sd hu) ⟨.bl _, H, I, rfl, q⟩
def rInStr : R2 := fun x y H Q => ∃ i j, x = .str i ∧ y = .str j ∧ Q (.bl (!(Builtin.Str.occurrences j i 0 j.length 1).isEmpty)) H
def rNotInStr : R2 := fun x y H Q => ∃ i j, x = .str i ∧ y = .str j ∧ Q (.bl (!(!(Builtin.Str.occurrences j i 0 j.length 1).isEmpty))) H
def rInAny (K : PySem.W.Frag) : R2 := fun x y H Q => rInStr x y H Q ∨ (rInD K x y H Q ∨ rInTD K x y H Q)
def rNotInAny (K : PySem.W.Frag) : R2 := fun x y H Q => rNotInStr x y H Q ∨ (rNotInD K x y H Q ∨ rNotInTD K x y H Q)
theorem op_inAny {X : Cx} (hu : X.A.units + 65 < cLine) : OpR X (compareOp .In) (rInAny X.K) := OpR.or op_in_str (OpR.or (op_inD hu) (op_inTD hu))
theorem op_notInAny {X : Cx} (hu : X.A.units + 65 < cLine) : OpR X (compareOp .NotIn) (rNotInAny X.K) := OpR.or op_notin_str (OpR.or (op_notInD hu) (op_notInTD hu))
def inData (x y : Val) : Option Bool := match toD x, toD y with
  | some d, some (.list ds) => if SeqAt.shaped d && SeqAt.shaped (.list ds) then some (ds.any fun z => PyData.eqv z d) else none
  | some d, some (.tuple ds) => if SeqAt.shaped d && SeqAt.shaped (.tuple ds) then some (ds.any fun z => PyData.eqv z d) else none
  | _, _ => none
def isIn : Val → Val → Option Bool
  | .str i, .str j => some (!(Builtin.Str.occurrences j i 0 j.length 1).isEmpty)
  | x, y => inData x y
def fIn : Val → Val → Option Val := fun x y => (isIn x y).map .bl
def fNotIn : Val → Val → Option Val := fun x y => (isIn x y).map fun b => .bl (!b)
theorem isIn_ok {x y : Val} {b : Bool} (h : isIn x y = some b) : (∃ i j, x = .str i ∧ y = .str j ∧ b = !(Builtin.Str.occurrences j i 0 j.length 1).isEmpty) ∨ ∃ d ds, toD x = some d ∧ SeqAt.shaped d = true ∧ b = (ds.any fun z => PyData.eqv z d) ∧
    ((toD y = some (.list ds) ∧ SeqAt.shaped (.list ds) = true) ∨ (toD y = some (.tuple ds) ∧ SeqAt.shaped (.tuple ds) = true)) := by
  unfold isIn at h
  split at h
  · cases h; exact .inl ⟨_, _, rfl, rfl, rfl⟩
  · unfold inData at h
    split at h
    · rename_i d ds e1 e2
      split at h
      · rename_i hz; simp only [Bool.and_eq_true] at hz; cases h
        exact .inr ⟨d, ds, e1, hz.1, rfl, .inl ⟨e2, hz.2⟩⟩
      · cases h
    · rename_i d ds e1 e2
      split at h
      · rename_i hz; simp only [Bool.and_eq_true] at hz; cases h
        exact .inr ⟨d, ds, e1, hz.1, rfl, .inr ⟨e2, hz.2⟩⟩
      · cases h
    · cases h
theorem sr_in : SimR2 K c (rInAny K) fIn := SimR2.pure fun G ι H vx vy x y z hl rx ry e => by
  unfold fIn at e
  simp only [Option.map_eq_some_iff] at e
  obtain ⟨b, e, rfl⟩ := e
  refine ⟨_, fun _ _ => .bl _, fun Q q => ?_⟩
  rcases isIn_ok e with ⟨i, j, rfl, rfl, rfl⟩ | ⟨d, ds, e1, s1, rfl, ⟨e2, s2⟩ | ⟨e2, s2⟩⟩
  · cases rx; cases ry; exact .inl ⟨i, j, rfl, rfl, q⟩
  · exact .inr (.inl ⟨d, ds, toD_okH hl rx e1, toD_okH hl ry e2, s1, s2, q⟩)
  · exact .inr (.inr ⟨d, ds, toD_okH hl rx e1, toD_okH hl ry e2, s1, s2, q⟩)
theorem sr_notIn : SimR2 K c (rNotInAny K) fNotIn := SimR2.pure fun G ι H vx vy x y z hl rx ry e => by
  unfold fNotIn at e
  simp only [Option.map_eq_some_iff] at e
  obtain ⟨b, e, rfl⟩ := e
  refine ⟨_, fun _ _ => .bl _, fun Q q => ?_⟩
  rcases isIn_ok e with ⟨i, j, rfl, rfl, rfl⟩ | ⟨d, ds, e1, s1, rfl, ⟨e2, s2⟩ | ⟨e2, s2⟩⟩
  · cases rx; cases ry; exact .inl ⟨i, j, rfl, rfl, q⟩
  · exact .inr (.inl ⟨d, ds, toD_okH hl rx e1, toD_okH hl ry e2, s1, s2, q⟩)
  · exact .inr (.inr ⟨d, ds, toD_okH hl rx e1, toD_okH hl ry e2, s1, s2, q⟩)

/-! ### is -/
def isNon : Val → Bool
  | .non => true
  | _ => false
theorem VR.isNon_eq {v : Val} {x : V} (r : VR K c G ι v x) : decide (x = .non) = isNon v := by cases r <;> rfl
theorem VH.isNon_eq {v : Val} {x : V} (r : VH K c G ι H v x) : decide (x = .non) = isNon v := by
  cases v with
  | lst vs => obtain ⟨p, xs, rfl, hp, r⟩ := r; rfl
  | dct vs => obtain ⟨p, xs, rfl, hp, r⟩ := r; rfl
  | _ => exact VR.isNon_eq (K := K) (c := c) (G := G) (ι := ι) r
def isIs : Val → Val → Option Bool
  | x, .non => some (isNon x)
  | .bl a, .bl b => some (decide (a = b))
  | _, _ => none
def fIs : Val → Val → Option Val := fun x y => (isIs x y).map .bl
def fIsNot : Val → Val → Option Val := fun x y => (isIs x y).map fun b => .bl (!b)
def rIsAny : R2 := fun x y H Q => (y = .non ∧ Q (.bl (decide (x = .non))) H) ∨ rIsB x y H Q
def rIsNotAny : R2 := fun x y H Q => (y = .non ∧ Q (.bl (!decide (x = .non))) H) ∨ rNotB x y H Q
theorem op_isAny {X : Cx} : OpR X (compareOp .Is) rIsAny := OpR.or op_isN op_isBl
theorem op_isNotAny {X : Cx} : OpR X (compareOp .IsNot) rIsNotAny := OpR.or op_notN op_notBl
theorem isIs_ok {x y : Val} {b : Bool} (h : isIs x y = some b) : (y = .non ∧ b = isNon x) ∨ ∃ p q, x = .bl p ∧ y = .bl q ∧ b = decide (p = q) := by
  unfold isIs at h
  split at h
  · cases h; exact .inl ⟨rfl, rfl⟩
  · cases h; exact .inr ⟨_, _, rfl, rfl, rfl⟩
  · cases h
theorem sr_is : SimR2 K c rIsAny fIs := SimR2.pure fun G ι H vx vy x y z hl rx ry e => by
  unfold fIs at e
  simp only [Option.map_eq_some_iff] at e
  obtain ⟨b, e, rfl⟩ := e
  refine ⟨_, fun _ _ => .bl _, fun Q q => ?_⟩
  rcases isIs_ok e with ⟨rfl, rfl⟩ | ⟨p, p', rfl, rfl, rfl⟩
  · cases ry; exact .inl ⟨rfl, by rw [VH.isNon_eq rx]; exact q⟩
  · cases rx; cases ry; exact .inr ⟨p, p', rfl, rfl, q⟩
theorem sr_isNot : SimR2 K c rIsNotAny fIsNot := SimR2.pure fun G ι H vx vy x y z hl rx ry e => by
  unfold fIsNot at e
  simp only [Option.map_eq_some_iff] at e
  obtain ⟨b, e, rfl⟩ := e
  refine ⟨_, fun _ _ => .bl _, fun Q q => ?_⟩
  rcases isIs_ok e with ⟨rfl, rfl⟩ | ⟨p, p', rfl, rfl, rfl⟩
  · cases ry; exact .inl ⟨rfl, by rw [VH.isNon_eq rx]; exact q⟩
  · cases rx; cases ry; exact .inr ⟨p, p', rfl, rfl, q⟩

/-! ### truth -/
def tru : Val → Option Bool
  | .non => some false
  | .bl b => some b
  | .int i => some (i != 0)
  | .str s => if s.length ≤ sizeLine then some ((s.length : Int) != 0) else none
  | .tup vs => some (!vs.isEmpty)
  | .lst vs => some (!vs.isEmpty)
  | .fz vs => some (!vs.isEmpty)
  | .dct kvs => some (!kvs.isEmpty)
  | _ => none
theorem VRs.isEmpty : ∀ {vs xs}, VRs K c G ι vs xs → vs.isEmpty = xs.isEmpty
  | _, _, .nil => rfl
  | _, _, .cons _ _ => rfl
theorem KVRs.isEmpty : ∀ {vs xs}, KVRs K c G ι vs xs → vs.isEmpty = xs.isEmpty
  | _, _, .nil => rfl
  | _, _, .cons _ _ _ => rfl
theorem tru_of {v : Val} {x : V} {b : Bool} (hG : Hle G H) (r : VR K c G ι v x) (e : tru v = some b) : TruV K x H b := by
  cases r with
  | non => simp [tru] at e; exact (show b = false from e)
  | bl i => simp [tru] at e; exact e.symm
  | int i => simp [tru] at e; exact e.symm
  | str s =>
    simp only [tru] at e
    split at e
    · rename_i hz; cases e; exact ⟨hz, rfl⟩
    · cases e
  | tup hp r => simp only [tru, Option.some.injEq] at e; exact .inr (.inl ⟨_, hG.sqT hp, by rw [← r.isEmpty]; exact e.symm⟩)
  | lst hp r => simp only [tru, Option.some.injEq] at e; exact .inl ⟨_, .of (hG _ _ hp), by rw [← r.isEmpty]; exact e.symm⟩
  | fz hp r => simp only [tru, Option.some.injEq] at e; exact .inl ⟨_, hG.sqL hp, by rw [← r.isEmpty]; exact e.symm⟩
  | dct hp r => simp only [tru, Option.some.injEq] at e; exact .inr (.inr ⟨_, hG _ _ hp, by rw [← r.isEmpty]; exact e.symm⟩)
  | obj hp r => simp [tru] at e
  | ref hp => simp [tru] at e
def mTru (a : EM Val) : EM Bool := EM.bind a fun x => EM.lift (tru x)
def tTru' (K : PySem.W.Frag) (ta : TE) : TT := fun σ H Q => ta σ H fun x H' => ∃ k, TruV K x H' k ∧ Q k H'
theorem sim_tru (ha : Sim K c (RV K c) E ta ma) : Sim K c RB E (tTru' K ta) (mTru ma) := by
  intro B G ι h H ρ σ Q hs hp
  refine ha.bind (S := RB) hs hp fun G1 ι1 h1 H1 ρ1 v x a1 b1 s1 r1 p1 => ?_
  obtain ⟨z, e, p3⟩ := p1.lift
  exact ⟨z, tru_of s1.st.le r1 e, p3.pure s1 rfl⟩
/-- a comparison as a test -/
def mTest (a : EM Val) : EM Bool := EM.bind a fun x => EM.lift (match x with | .bl b => some b | _ => none)
theorem sim_test (ha : Sim K c (RV K c) E ta ma) : Sim K c RB E (tTest ta) (mTest ma) := by
  intro B G ι h H ρ σ Q hs hp
  refine ha.bind (S := RB) hs hp fun G1 ι1 h1 H1 ρ1 v x a1 b1 s1 r1 p1 => ?_
  obtain ⟨z, e, p3⟩ := p1.lift
  cases v <;> simp at e
  subst e
  cases r1
  exact ⟨_, rfl, p3.pure s1 rfl⟩
def mAnd (a b : EM Bool) : EM Bool := EM.bind a fun x => if x = true then b else EM.pure false
def mOr (a b : EM Bool) : EM Bool := EM.bind a fun x => if x = true then EM.pure true else b
def mNot (a : EM Bool) : EM Bool := EM.bind a fun x => EM.pure (!x)
theorem sim_and (h1 : Sim K c RB E t1 m1) (h2 : Sim K c RB E t2 m2) : Sim K c RB E (tAnd t1 t2) (mAnd m1 m2) := by
  intro B G ι h H ρ σ Q hs hp
  refine h1.bind (S := RB) hs hp fun G1 ι1 h1' H1 ρ1 v x a1 b1 s1 r1 p1 => ?_
  subst r1
  cases x with
  | true => exact h2 B G1 ι1 h1' H1 ρ1 σ Q s1 p1
  | false => exact Post.pure (R := RB) (x := false) p1 s1 rfl
theorem sim_or (h1 : Sim K c RB E t1 m1) (h2 : Sim K c RB E t2 m2) : Sim K c RB E (tOr t1 t2) (mOr m1 m2) := by
  intro B G ι h H ρ σ Q hs hp
  refine h1.bind (S := RB) hs hp fun G1 ι1 h1' H1 ρ1 v x a1 b1 s1 r1 p1 => ?_
  subst r1
  cases x with
  | false => exact h2 B G1 ι1 h1' H1 ρ1 σ Q s1 p1
  | true => exact Post.pure (R := RB) (x := true) p1 s1 rfl
theorem sim_not (h1 : Sim K c RB E t1 m1) : Sim K c RB E (tNot t1) (mNot m1) := by
  intro B G ι h H ρ σ Q hs hp
  refine h1.bind (S := RB) hs hp fun G1 ι1 h1' H1 ρ1 v x a1 b1 s1 r1 p1 => ?_
  subst r1
  exact Post.pure (R := RB) (x := !x) p1 s1 rfl
def mAndV (a b : EM Val) : EM Val := EM.bind a fun x => EM.bind (EM.lift (tru x)) fun k => if k = true then b else EM.pure x
def mOrV (a b : EM Val) : EM Val := EM.bind a fun x => EM.bind (EM.lift (tru x)) fun k => if k = true then EM.pure x else b
def mNotV (a : EM Val) : EM Val := EM.bind a fun x => EM.bind (EM.lift (tru x)) fun k => EM.pure (.bl (!k))
theorem Post.bindLift {α β γ : Type} {R : RelT α β} {o : Option γ} {f : γ → EM α} {Q : β → Hp → Prop} (p : Post K c R E B G ι σ (EM.bind (EM.lift o) f ρ h) Q) : ∃ a, o = some a ∧ Post K c R E B G ι σ (f a ρ h) Q := by
  cases o with
  | none => exact p.elim
  | some a => exact ⟨a, rfl, p⟩
theorem sim_andV (ha : Sim K c (RV K c) E ta ma) (hb : Sim K c (RV K c) E tb mb) : Sim K c (RV K c) E (tAndT K ta tb) (mAndV ma mb) := by
  intro B G ι h H ρ σ Q hs hp
  refine ha.bind (S := RV K c) hs hp fun G1 ι1 h1 H1 ρ1 v x a1 b1 s1 r1 p1 => ?_
  obtain ⟨k, e, p1⟩ := p1.bindLift
  refine ⟨k, tru_of s1.st.le r1 e, ?_⟩
  cases k with
  | true => exact hb B G1 ι1 h1 H1 ρ1 σ Q s1 p1
  | false => exact Post.pure (R := RV K c) (x := x) p1 s1 r1
theorem sim_orV (ha : Sim K c (RV K c) E ta ma) (hb : Sim K c (RV K c) E tb mb) : Sim K c (RV K c) E (tOrT K ta tb) (mOrV ma mb) := by
  intro B G ι h H ρ σ Q hs hp
  refine ha.bind (S := RV K c) hs hp fun G1 ι1 h1 H1 ρ1 v x a1 b1 s1 r1 p1 => ?_
  obtain ⟨k, e, p1⟩ := p1.bindLift
  refine ⟨k, tru_of s1.st.le r1 e, ?_⟩
  cases k with
  | true => exact Post.pure (R := RV K c) (x := x) p1 s1 r1
  | false => exact hb B G1 ι1 h1 H1 ρ1 σ Q s1 p1
theorem sim_notV (ha : Sim K c (RV K c) E ta ma) : Sim K c (RV K c) E (tNotT K ta) (mNotV ma) := by
  intro B G ι h H ρ σ Q hs hp
  refine ha.bind (S := RV K c) hs hp fun G1 ι1 h1 H1 ρ1 v x a1 b1 s1 r1 p1 => ?_
  obtain ⟨k, e, p1⟩ := p1.bindLift
  exact ⟨k, tru_of s1.st.le r1 e, Post.pure (R := RV K c) (x := .bl (!k)) p1 s1 (.bl _)⟩
def mIf (t : EM Bool) (a b : EM Val) : EM Val := EM.bind t fun x => if x = true then a else b
theorem sim_if (h1 : Sim K c RB E t1 m1) (ha : Sim K c (RV K c) E ta ma) (hb : Sim K c (RV K c) E tb mb) : Sim K c (RV K c) E (tIf t1 ta tb) (mIf m1 ma mb) := by
  intro B G ι h H ρ σ Q hs hp
  refine h1.bind (S := RV K c) hs hp fun G1 ι1 h1' H1 ρ1 v x a1 b1 s1 r1 p1 => ?_
  subst r1
  cases x with
  | true => exact ha B G1 ι1 h1' H1 ρ1 σ Q s1 p1
  | false => exact hb B G1 ι1 h1' H1 ρ1 σ Q s1 p1
/-- a op b op' c -/
def mChain (f g : Val → Val → Option Val) (a b d : EM Val) : EM Val := EM.bind a fun x => EM.bind b fun y => EM.bind (EM.lift (f x y)) fun z =>
  match z with
  | .bl true => EM.bind d fun w => EM.lift (g y w)
  | .bl false => EM.pure (.bl false)
  | _ => fun _ _ => .fail
theorem sim_chain {r r' : R2} {f g : Val → Val → Option Val} (hr : SimR2 K c r f) (hr' : SimR2 K c r' g) (ha : Sim K c (RV K c) E ta ma) (hb : Sim K c (RV K c) E tb mb) (hc : Sim K c (RV K c) E tc mc) :
    Sim K c (RV K c) E (tChain r r' ta tb tc) (mChain f g ma mb mc) := by
  intro B G ι h H ρ σ Q hs hp
  refine ha.bind (S := RV K c) hs hp fun G1 ι1 h1 H1 ρ1 v x a1 b1 s1 r1 p1 => ?_
  refine hb.bind (S := RV K c) s1 p1 fun G2 ι2 h2 H2 ρ2 w y a2 b2 s2 r2 p2 => ?_
  obtain ⟨z, e, p2⟩ := p2.bindLift
  refine hr B G2 ι2 h2 H2 ρ2 σ v w x y z s2 ((r1.mono a2 b2).toH s2.st.le) (r2.toH s2.st.le) e _ fun G3 H3 u a3 s3 r3 => ?_
  cases z with
  | bl k =>
    cases r3
    refine ⟨k, rfl, ?_⟩
    cases k with
    | true =>
      have p3 := p2.mono a3 (Ile.refl _)
      refine hc.bind (S := RV K c) s3 p3 fun G4 ι4 h4 H4 ρ4 w' z a4 b4 s4 r4 p4 => ?_
      obtain ⟨t, e4, p5⟩ := p4.lift
      exact hr' B G4 ι4 h4 H4 ρ4 σ w w' y z t s4 ((r2.mono (a3.trans a4) b4).toH s4.st.le) (r4.toH s4.st.le) e4 Q fun G' H' u a5 s5 r5 => p5 G' ι4 H' u a5 (Ile.refl _) s5 r5
    | false => exact Post.pure (R := RV K c) (x := .bl false) (p2.mono a3 (Ile.refl _)) s3 (.bl _)
  | _ => exact p2.elim

/-! ### arguments, displays -/
def mNil : EM (List Val) := EM.pure []
def mCons (a : EM Val) (r : EM (List Val)) : EM (List Val) := EM.bind a fun x => EM.bind r fun xs => EM.pure (x :: xs)
theorem sim_nil : Sim K c (RVs K c) E tNil mNil := fun B G ι h H ρ σ Q hs hp => Post.pure (R := RVs K c) (x := []) hp hs .nil
theorem sim_cons {tr : TA} {mr : EM (List Val)} (ha : Sim K c (RV K c) E ta ma) (hr : Sim K c (RVs K c) E tr mr) : Sim K c (RVs K c) E (tCons ta tr) (mCons ma mr) := by
  intro B G ι h H ρ σ Q hs hp
  refine ha.bind (S := RVs K c) hs hp fun G1 ι1 h1 H1 ρ1 v x a1 b1 s1 r1 p1 => ?_
  refine hr.bind (S := RVs K c) s1 p1 fun G2 ι2 h2 H2 ρ2 vs xs a2 b2 s2 r2 p2 => ?_
  exact Post.pure (R := RVs K c) (x := x :: xs) p2 s2 (.cons (r1.mono a2 b2) r2)
def mTup (r : EM (List Val)) : EM Val := EM.bind r fun xs => EM.lift (if xs.length ≤ sizeLine then some (.tup xs) else none)
def mLst (r : EM (List Val)) : EM Val := EM.bind r fun xs => EM.lift (if xs.length ≤ sizeLine then some (.lst xs) else none)
theorem sim_tup {tr : TA} {mr : EM (List Val)} (hr : Sim K c (RVs K c) E tr mr) : Sim K c (RV K c) E (tTup tr) (mTup mr) := by
  intro B G ι h H ρ σ Q hs hp
  refine hr.bind (S := RV K c) hs hp fun G1 ι1 h1 H1 ρ1 vs xs a1 b1 s1 r1 p1 => ?_
  obtain ⟨z, e, p3⟩ := p1.lift
  split at e
  · rename_i hz
    cases e
    refine ⟨by rw [← r1.length]; exact hz, fun p hp => ?_⟩
    have hg : G1 p = none := s1.st.le.free hp
    exact p3 _ _ _ _ (Hle.new hg) (Ile.refl _) (s1.new hp) (.tup (.of upd_same) (r1.mono (Hle.new hg) (Ile.refl _)))
  · cases e
theorem sim_lst {tr : TA} {mr : EM (List Val)} (hr : Sim K c (RVs K c) E tr mr) : Sim K c (RV K c) E (tLst tr) (mLst mr) := by
  intro B G ι h H ρ σ Q hs hp
  refine hr.bind (S := RV K c) hs hp fun G1 ι1 h1 H1 ρ1 vs xs a1 b1 s1 r1 p1 => ?_
  obtain ⟨z, e, p3⟩ := p1.lift
  split at e
  · rename_i hz
    cases e
    refine ⟨by rw [← r1.length]; exact hz, fun p hp => ?_⟩
    have hg : G1 p = none := s1.st.le.free hp
    exact p3 _ _ _ _ (Hle.new hg) (Ile.refl _) (s1.new hp) (.lst upd_same (r1.mono (Hle.new hg) (Ile.refl _)))
  · cases e

/-! ### calls of what is built in -/
def mCB (f : List Val → Option Val) (r : EM (List Val)) : EM Val := EM.bind r fun xs => EM.lift (f xs)
def SimRC (K : PySem.W.Frag) (c : Ctx) (r : List V → Hp → VK → Prop) (f : List Val → Option Val) : Prop :=
  ∀ B G ι h H ρ σ vs xs z, St K c B G ι h H ρ σ → VHs K c G ι H vs xs → f vs = some z →
    ∀ Q : VK, (∀ G' H' u, Hle G G' → St K c B G' ι h H' ρ σ → VR K c G' ι z u → Q u H') → r xs H Q
theorem sim_cb {r : List V → Hp → VK → Prop} {f : List Val → Option Val} {tr : TA} {mr : EM (List Val)} (hf : SimRC K c r f) (hr : Sim K c (RVs K c) E tr mr) : Sim K c (RV K c) E (tCB r tr) (mCB f mr) := by
  intro B G ι h H ρ σ Q hs hp
  refine hr.bind (S := RV K c) hs hp fun G1 ι1 h1 H1 ρ1 vs xs a1 b1 s1 r1 p1 => ?_
  obtain ⟨z, e, p3⟩ := p1.lift
  exact hf B G1 ι1 h1 H1 ρ1 σ vs xs z s1 (r1.toH s1.st.le) e Q fun G' H' u a3 s3 r3 => p3 G' ι1 H' u a3 (Ile.refl _) s3 r3
theorem SimRC.pure {r : List V → Hp → VK → Prop} {f : List Val → Option Val} (hf : ∀ G ι H vs xs z, Hle G H → VHs K c G ι H vs xs → f vs = some z → ∃ u, (∀ G ι, VR K c G ι z u) ∧ ∀ Q : VK, Q u H → r xs H Q) : SimRC K c r f := by
  intro B G ι h H ρ σ vs xs z hs rx e Q q
  obtain ⟨u, hu, k⟩ := hf G ι H vs xs z hs.st.le rx e
  exact k Q (q G H u (Hle.refl _) hs (hu _ _))
theorem VHs.oneE {v : Val} {xs} (r : VHs K c G ι H [v] xs) : ∃ x, xs = [x] ∧ VH K c G ι H v x := by
  cases r with
  | cons a b => cases b; exact ⟨_, rfl, a⟩
theorem VHs.twoE {v w : Val} {xs} (r : VHs K c G ι H [v, w] xs) : ∃ x y, xs = [x, y] ∧ VH K c G ι H v x ∧ VH K c G ι H w y := by
  cases r with
  | cons a b => cases b with
    | cons a' b' => cases b'; exact ⟨_, _, rfl, a, a'⟩
def f1 (f : Val → Option Val) : List Val → Option Val
  | [v] => f v
  | _ => none
def f2 (f : Val → Val → Option Val) : List Val → Option Val
  | [v, w] => f v w
  | _ => none
theorem f1_ok {f : Val → Option Val} {vs : List Val} {z : Val} (h : f1 f vs = some z) : ∃ v, vs = [v] ∧ f v = some z := by
  unfold f1 at h; split at h
  · exact ⟨_, rfl, h⟩
  · cases h
theorem f2_ok {f : Val → Val → Option Val} {vs : List Val} {z : Val} (h : f2 f vs = some z) : ∃ v w, vs = [v, w] ∧ f v w = some z := by
  unfold f2 at h; split at h
  · exact ⟨_, _, rfl, h⟩
  · cases h
def vAbs : Val → Option Val
  | .int i => some (.int (if i < 0 then -i else i))
  | _ => none
theorem sc_abs : SimRC K c (fun xs H Q => ∃ i, xs = [.int i] ∧ Q (.int (if i < 0 then -i else i)) H) (f1 vAbs) := SimRC.pure fun G ι H vs xs z hl rx e => by
  replace e := f1_ok e
  obtain ⟨v, rfl, e⟩ := e
  obtain ⟨x, rfl, r⟩ := rx.oneE
  cases v <;> simp [vAbs] at e
  cases r; subst e
  exact ⟨_, fun _ _ => .int _, fun Q q => ⟨_, rfl, q⟩⟩
def vMax2 : Val → Val → Option Val
  | .int i, .int j => some (.int (if j > i then j else i))
  | _, _ => none
def vMin2 : Val → Val → Option Val
  | .int i, .int j => some (.int (if j < i then j else i))
  | _, _ => none
theorem sc_max2 : SimRC K c (fun xs H Q => ∃ i j, xs = [.int i, .int j] ∧ Q (.int (if j > i then j else i)) H) (f2 vMax2) := SimRC.pure fun G ι H vs xs z hl rx e => by
  replace e := f2_ok e
  obtain ⟨v, w, rfl, e⟩ := e
  obtain ⟨x, y, rfl, r, r'⟩ := rx.twoE
  cases v <;> cases w <;> simp [vMax2] at e
  cases r; cases r'; subst e
  exact ⟨_, fun _ _ => .int _, fun Q q => ⟨_, _, rfl, q⟩⟩
theorem sc_min2 : SimRC K c (fun xs H Q => ∃ i j, xs = [.int i, .int j] ∧ Q (.int (if j < i then j else i)) H) (f2 vMin2) := SimRC.pure fun G ι H vs xs z hl rx e => by
  replace e := f2_ok e
  obtain ⟨v, w, rfl, e⟩ := e
  obtain ⟨x, y, rfl, r, r'⟩ := rx.twoE
  cases v <;> cases w <;> simp [vMin2] at e
  cases r; cases r'; subst e
  exact ⟨_, fun _ _ => .int _, fun Q q => ⟨_, _, rfl, q⟩⟩
def vInt : Val → Option Val
  | .int i => some (.int i)
  | .bl b => some (.int (if b then 1 else 0))
  | _ => none
theorem sc_int : SimRC K c (fun xs H Q => (∃ i, xs = [.int i] ∧ Q (.int i) H) ∨ ∃ k, xs = [.bl k] ∧ Q (.int (if k then 1 else 0)) H) (f1 vInt) := SimRC.pure fun G ι H vs xs z hl rx e => by
  replace e := f1_ok e
  obtain ⟨v, rfl, e⟩ := e
  obtain ⟨x, rfl, r⟩ := rx.oneE
  cases v <;> simp [vInt] at e
  · cases r; subst e
    exact ⟨_, fun _ _ => .int _, fun Q q => .inr ⟨_, rfl, q⟩⟩
  · cases r; subst e
    exact ⟨_, fun _ _ => .int _, fun Q q => .inl ⟨_, rfl, q⟩⟩
def vStr : Val → Option Val
  | .int i => if i.natAbs.log2 < 1920 then some (.str (toString i)) else none
  | _ => none
theorem sc_str : SimRC K c (fun xs H Q => ∃ i : Int, xs = [.int i] ∧ i.natAbs.log2 < 1920 ∧ Q (.str (toString i)) H) (f1 vStr) := SimRC.pure fun G ι H vs xs z hl rx e => by
  replace e := f1_ok e
  obtain ⟨v, rfl, e⟩ := e
  obtain ⟨x, rfl, r⟩ := rx.oneE
  cases v <;> simp [vStr] at e
  cases r
  obtain ⟨h1, rfl⟩ := e
  exact ⟨_, fun _ _ => .str _, fun Q q => ⟨_, rfl, h1, q⟩⟩
def vLen : Val → Option Val
  | .str s => if s.length ≤ sizeLine then some (.int s.length) else none
  | .tup vs => some (.int vs.length)
  | .lst vs => some (.int vs.length)
  | .fz vs => some (.int vs.length)
  | _ => none
theorem sc_len : SimRC K c (fun xs H Q => ∃ x n, xs = [x] ∧ LenV K x H n ∧ Q (.int n) H) (f1 vLen) := SimRC.pure fun G ι H vs xs z hl rx e => by
  replace e := f1_ok e
  obtain ⟨v, rfl, e⟩ := e
  obtain ⟨x, rfl, r⟩ := rx.oneE
  cases v with
  | str s =>
    cases r
    simp only [vLen] at e
    split at e
    · rename_i hz; cases e; exact ⟨_, fun _ _ => .int _, fun Q q => ⟨_, _, rfl, ⟨hz, rfl⟩, q⟩⟩
    · cases e
  | tup ws => obtain ⟨p, xs, rfl, hp, r⟩ := VR.tupE r; simp [vLen] at e; subst e; exact ⟨_, fun _ _ => .int _, fun Q q => ⟨_, _, rfl, .inr ⟨_, hl.sqT hp, r.length⟩, q⟩⟩
  | lst ws => obtain ⟨p, xs, rfl, hp, r⟩ := r; simp [vLen] at e; subst e; exact ⟨_, fun _ _ => .int _, fun Q q => ⟨_, _, rfl, .inl ⟨_, .of hp, r.length⟩, q⟩⟩
  | fz ws => obtain ⟨p, xs, rfl, hp, r⟩ := VR.fzE r; simp [vLen] at e; subst e; exact ⟨_, fun _ _ => .int _, fun Q q => ⟨_, _, rfl, .inl ⟨_, hl.sqL hp, r.length⟩, q⟩⟩
  | _ => simp [vLen] at e
/-- list(..), tuple(..) of a list or a tuple -/
def vList : Val → Option Val
  | .tup vs => some (.lst vs)
  | .lst vs => some (.lst vs)
  | .fz vs => some (.lst vs)
  | _ => none
theorem sc_list : SimRC K c (fun xs H Q => ∃ p ys, xs = [.ref p] ∧ (SqL K H p ys ∨ SqT K H p ys) ∧ ∀ l, H l = none → Q (.ref l) (upd H l (.lst ys))) (f1 vList) := by
  intro B G ι h H ρ σ vs xs z hs rx e Q q
  replace e := f1_ok e
  obtain ⟨v, rfl, e⟩ := e
  obtain ⟨x, rfl, r⟩ := rx.oneE
  have fin : ∀ {p ys ws}, VRs K c G ι ws ys → (SqL K H p ys ∨ SqT K H p ys) → (∀ G' H' u, Hle G G' → St K c B G' ι h H' ρ σ → VR K c G' ι (.lst ws) u → Q u H') → ∃ p' ys, [V.ref p] = [V.ref p'] ∧ (SqL K H p' ys ∨ SqT K H p' ys) ∧ ∀ l, H l = none → Q (.ref l) (upd H l (.lst ys)) := fun {p ys ws} r hh q =>
    ⟨p, ys, rfl, hh, fun l hl => q _ _ _ (Hle.new (hs.st.le.free hl)) (hs.new hl) (.lst upd_same (r.mono (Hle.new (hs.st.le.free hl)) (Ile.refl _)))⟩
  cases v with
  | tup ws => obtain ⟨p, xs, rfl, hp, r⟩ := VR.tupE r; simp [vList] at e; subst e; exact fin r (.inr (hs.st.le.sqT hp)) q
  | lst ws => obtain ⟨p, xs, rfl, hp, r⟩ := r; simp [vList] at e; subst e; exact fin r (.inl (.of hp)) q
  | fz ws => obtain ⟨p, xs, rfl, hp, r⟩ := VR.fzE r; simp [vList] at e; subst e; exact fin r (.inl (hs.st.le.sqL hp)) q
  | _ => simp [vList] at e
def vTuple : Val → Option Val
  | .tup vs => some (.tup vs)
  | .lst vs => some (.tup vs)
  | .fz vs => some (.tup vs)
  | _ => none
theorem sc_tuple : SimRC K c (fun xs H Q => ∃ p ys, xs = [.ref p] ∧ ((SqL K H p ys ∧ ∀ l, H l = none → Q (.ref l) (upd H l (.tup ys))) ∨ (SqT K H p ys ∧ Q (.ref p) H))) (f1 vTuple) := by
  intro B G ι h H ρ σ vs xs z hs rx e Q q
  replace e := f1_ok e
  obtain ⟨v, rfl, e⟩ := e
  obtain ⟨x, rfl, r⟩ := rx.oneE
  cases v with
  | tup ws => obtain ⟨p, xs, rfl, hp, r⟩ := VR.tupE r; simp [vTuple] at e; subst e; exact ⟨_, _, rfl, .inr ⟨hs.st.le.sqT hp, q _ _ _ (Hle.refl _) hs (.tup hp r)⟩⟩
  | lst ws => obtain ⟨p, xs, rfl, hp, r⟩ := r; simp [vTuple] at e; subst e; exact ⟨_, _, rfl, .inl ⟨.of hp, fun l hl => q _ _ _ (Hle.new (hs.st.le.free hl)) (hs.new hl) (.tup (.of upd_same) (r.mono (Hle.new (hs.st.le.free hl)) (Ile.refl _)))⟩⟩
  | fz ws => obtain ⟨p, xs, rfl, hp, r⟩ := VR.fzE r; simp [vTuple] at e; subst e; exact ⟨_, _, rfl, .inl ⟨hs.st.le.sqL hp, fun l hl => q _ _ _ (Hle.new (hs.st.le.free hl)) (hs.new hl) (.tup (.of upd_same) (r.mono (Hle.new (hs.st.le.free hl)) (Ile.refl _)))⟩⟩
  | _ => simp [vTuple] at e
/-- all(..), any(..) of truths; sum(..) of ints -/
def bools : List Val → Option (List Bool)
  | [] => some []
  | .bl b :: r => (bools r).map (b :: ·)
  | _ => none
theorem bools_ok : ∀ {vs : List Val} {xs : List V} {bs : List Bool}, VRs K c G ι vs xs → bools vs = some bs → xs = bs.map V.bl
  | _, _, _, .nil, e => by simp [bools] at e; subst e; rfl
  | _, _, _, .cons r rs, e => by
    cases r <;> simp [bools] at e
    obtain ⟨bs, e, rfl⟩ := e
    rw [bools_ok rs e]; rfl
def intL : List Val → Option (List Int)
  | [] => some []
  | .int b :: r => (intL r).map (b :: ·)
  | _ => none
theorem ints_ok : ∀ {vs : List Val} {xs : List V} {bs : List Int}, VRs K c G ι vs xs → intL vs = some bs → xs = bs.map V.int
  | _, _, _, .nil, e => by simp [intL] at e; subst e; rfl
  | _, _, _, .cons r rs, e => by
    cases r <;> simp [intL] at e
    obtain ⟨bs, e, rfl⟩ := e
    rw [ints_ok rs e]; rfl
def strs' : List Val → Option (List Str)
  | [] => some []
  | .str b :: r => (strs' r).map (b :: ·)
  | _ => none
theorem strs_ok : ∀ {vs : List Val} {xs : List V} {bs : List Str}, VRs K c G ι vs xs → strs' vs = some bs → xs = bs.map V.str
  | _, _, _, .nil, e => by simp [strs'] at e; subst e; rfl
  | _, _, _, .cons r rs, e => by
    cases r <;> simp [strs'] at e
    obtain ⟨bs, e, rfl⟩ := e
    rw [strs_ok rs e]; rfl
def vAll : Val → Option Val
  | .lst vs => (bools vs).map fun bs => .bl (bs.all id)
  | _ => none
def vAny : Val → Option Val
  | .lst vs => (bools vs).map fun bs => .bl (bs.any id)
  | _ => none
def vSum : Val → Option Val
  | .lst vs => (intL vs).map fun bs => .int bs.sum
  | _ => none
theorem sc_all : SimRC K c (rAll K) (f1 vAll) := SimRC.pure fun G ι H vs xs z hl rx e => by
  replace e := f1_ok e
  obtain ⟨v, rfl, e⟩ := e
  obtain ⟨x, rfl, r⟩ := rx.oneE
  cases v <;> simp [vAll] at e
  obtain ⟨p, xs, rfl, hp, r⟩ := r
  obtain ⟨bs, e, rfl⟩ := e
  have e2 := bools_ok r e
  subst e2
  exact ⟨_, fun _ _ => .bl _, fun Q q => ⟨_, bs, rfl, .of hp, q⟩⟩
theorem sc_any : SimRC K c (rAny K) (f1 vAny) := SimRC.pure fun G ι H vs xs z hl rx e => by
  replace e := f1_ok e
  obtain ⟨v, rfl, e⟩ := e
  obtain ⟨x, rfl, r⟩ := rx.oneE
  cases v <;> simp [vAny] at e
  obtain ⟨p, xs, rfl, hp, r⟩ := r
  obtain ⟨bs, e, rfl⟩ := e
  have e2 := bools_ok r e
  subst e2
  exact ⟨_, fun _ _ => .bl _, fun Q q => ⟨_, bs, rfl, .of hp, q⟩⟩
theorem sc_sum : SimRC K c (rSum K) (f1 vSum) := SimRC.pure fun G ι H vs xs z hl rx e => by
  replace e := f1_ok e
  obtain ⟨v, rfl, e⟩ := e
  obtain ⟨x, rfl, r⟩ := rx.oneE
  cases v <;> simp [vSum] at e
  obtain ⟨p, xs, rfl, hp, r⟩ := r
  obtain ⟨bs, e, rfl⟩ := e
  have e2 := ints_ok r e
  subst e2
  exact ⟨_, fun _ _ => .int _, fun Q q => ⟨_, bs, rfl, .of hp, q⟩⟩

/-! ### items -/
def fIx : Val → Val → Option Val
  | .lst vs, .int i => atI vs i
  | .fz vs, .int i => atI vs i
  | .tup vs, .int i => atI vs i
  | .str s, .int i => if s.length ≤ sizeLine then (atI s.cps.toList i).map fun q => .str ⟨#[q]⟩ else none
  | _, _ => none
theorem VRs.atI {vs : List Val} {xs : List V} {i : Int} {v : Val} (r : VRs K c G ι vs xs) (h : L2.atI vs i = some v) : ∃ x, L2.atI xs i = some x ∧ VR K c G ι v x := by
  unfold L2.atI at h ⊢
  rw [← r.length]
  cases e : ixN vs.length i with
  | none => rw [e] at h; cases h
  | some j =>
    rw [e] at h
    exact r.get h
theorem sr_ix : SimR2 K c (rIx K) fIx := by
  intro B G ι h H ρ σ vx vy x y z hs rx ry e Q q
  have hl := hs.st.le
  unfold fIx at e
  split at e
  · obtain ⟨p, xs, rfl, hp, r⟩ := rx
    obtain rfl := VR.intE ry
    obtain ⟨u, e2, ru⟩ := r.atI e
    exact .inl ⟨p, xs, _, u, rfl, rfl, .of hp, e2, q G H u (Hle.refl _) hs ru⟩
  · obtain ⟨p, xs, rfl, hp, r⟩ := VR.fzE rx
    obtain rfl := VR.intE ry
    obtain ⟨u, e2, ru⟩ := r.atI e
    exact .inl ⟨p, xs, _, u, rfl, rfl, hl.sqL hp, e2, q G H u (Hle.refl _) hs ru⟩
  · obtain ⟨p, xs, rfl, hp, r⟩ := VR.tupE rx
    obtain rfl := VR.intE ry
    obtain ⟨u, e2, ru⟩ := r.atI e
    exact .inr (.inl ⟨p, xs, _, u, rfl, rfl, hl.sqT hp, e2, q G H u (Hle.refl _) hs ru⟩)
  · cases rx; cases ry
    split at e
    · rename_i hz
      simp only [Option.map_eq_some_iff] at e
      obtain ⟨u, e, rfl⟩ := e
      exact .inr (.inr ⟨_, _, u, rfl, rfl, hz, e, q G H _ (Hle.refl _) hs (.str _)⟩)
    · cases e
  · cases e

/-! ### isinstance of a built-in class -/
def isTy (T : String) : Val → Option Bool
  | .non => kitB "NoneType" T
  | .bl _ => kitB "bool" T
  | .int _ => kitB "int" T
  | .str _ => kitB "str" T
  | .tup _ => kitB "tuple" T
  | .lst _ => kitB "list" T
  | .dct _ => kitB "dict" T
  | _ => none
end
end Mir

set_option Elab.async false
set_option linter.all false
set_option maxRecDepth 100000
set_option maxHeartbeats 4000000
namespace Mir
open PySem PySem.Spec PyProof.Rows L2

/-! ### one object more that must stay -/
def Bas.pin (B : Bas) (D : Addr) (o : HO) : Bas := { B with H := upd B.H D o }
/-- D is of no one's -/
structure Off (B : Bas) (D : Addr) : Prop where
  h : B.H D = none
  g : B.G D = none
  i : D ∉ B.ι
section
variable {K : PySem.W.Frag} {c : Ctx} {B : Bas} {G G' : Hp} {ι ι' : List Addr} {h h' : MHp} {H H' : Hp} {ρ ρ' : MEnv} {σ σ' : L2.St} {E : WX} {D : Addr} {o o' : HO}
theorem St.bfree (S : St K c B G ι h H ρ σ) {p : Addr} (hp : H p = none) : B.H p = none := by
  cases q : B.H p with
  | none => rfl
  | some u =>
    by_cases m : p ∈ B.ι
    · exact (S.st.notIn hp (S.b4.mem m)).elim
    · have := S.b1 p u q m
      rw [hp] at this; cases this
theorem St.off (S : St K c B G ι h H ρ σ) {p : Addr} (hp : H p = none) : Off B p :=
  ⟨S.bfree hp, S.b5.free (S.st.le.free hp), fun m => S.st.notIn hp (S.b4.mem m)⟩
/-- a fresh object is made and pinned -/
theorem St.pinNew (S : St K c B G ι h H ρ σ) (hD : H D = none) : St K c (B.pin D o) G ι h (upd H D o) ρ σ := by
  have S1 := S.new' (o := o) hD
  have gD : G D = none := S.st.le.free hD
  have iD : D ∉ ι := S.st.notIn hD
  refine ⟨S1.st, fun i sv hi => ?_, S.dis, fun p u e n => ?_, fun q hq => ?_, fun p u e => ?_, S.b4, S.b5⟩
  · obtain ⟨x, e1, r⟩ := S1.env i sv hi
    refine ⟨x, e1, ?_⟩
    cases sv with
    | un => trivial
    | val v => exact r
    | xv C fs => exact r
    | own cl =>
      obtain ⟨p, e, g, n, b, q⟩ := r
      refine ⟨p, e, g, n, ?_, q⟩
      have pD : p ≠ D := by
        obtain ⟨x0, e0, r0⟩ := S.env i _ hi
        obtain ⟨p0, e00, _, _, _, q0⟩ := r0
        rw [e1] at e0; cases e0
        rw [e] at e00; cases e00
        obtain ⟨u, hu⟩ := q0.some
        exact ne_of_none hu hD
      show upd B.H D o p = none
      rw [upd_ne pD]; exact b
  · change upd B.H D o p = some u at e
    by_cases z : p = D
    · subst z; rw [upd_same] at e ⊢; exact e
    · rw [upd_ne z] at e ⊢; exact S.b1 p u e n
  · rcases S.b2 q hq with z | z
    · exact .inl z
    · refine .inr ?_
      show upd B.H D o q = none
      rw [upd_ne (fun e : q = D => iD (by rw [← e]; exact hq))]; exact z
  · rcases S.b3 p u e with z | z
    · exact .inl z
    · refine .inr ?_
      show upd B.H D o p = none
      rw [upd_ne (ne_of_none e gD)]; exact z
theorem St.pinFacts (F : Off B D) (S : St K c (B.pin D o) G ι h H ρ σ) : H D = some o ∧ G D = none ∧ D ∉ ι := by
  have e : (B.pin D o).H D = some o := upd_same
  refine ⟨S.b1 D o e F.i, ?_, fun m => ?_⟩
  · cases q : G D with
    | none => rfl
    | some u =>
      rcases S.b3 D u q with z | z
      · have z' : B.G D = some u := z
        rw [F.g] at z'; cases z'
      · rw [e] at z; cases z
  · rcases S.b2 D m with z | z
    · exact F.i z
    · rw [e] at z; cases z
theorem St.unpin (F : Off B D) (S : St K c (B.pin D o) G ι h H ρ σ) : St K c B G ι h H ρ σ := by
  obtain ⟨hD, gD, iD⟩ := St.pinFacts F S
  have back : ∀ p, (B.pin D o).H p = none → B.H p = none := fun p e => by
    have e' : upd B.H D o p = none := e
    by_cases z : p = D
    · subst z; rw [upd_same] at e'; cases e'
    · rw [upd_ne z] at e'; exact e'
  refine ⟨S.st, fun i sv hi => ?_, S.dis, fun p u e n => ?_, fun q hq => (S.b2 q hq).imp id (back q), fun p u e => (S.b3 p u e).imp id (back p), S.b4, S.b5⟩
  · obtain ⟨x, e1, r⟩ := S.env i sv hi
    refine ⟨x, e1, ?_⟩
    cases sv with
    | un => trivial
    | val v => exact r
    | xv C fs => exact r
    | own cl =>
      obtain ⟨p, e, g, n, b, q⟩ := r
      exact ⟨p, e, g, n, back p b, q⟩
  · refine S.b1 p u ?_ n
    show upd B.H D o p = some u
    rw [upd_ne (ne_of_none e F.h)]; exact e
/-- the pinned object changes -/
theorem St.repin (F : Off B D) (S : St K c (B.pin D o) G ι h H ρ σ) : St K c (B.pin D o') G ι h (upd H D o') ρ σ := by
  obtain ⟨hD, gD, iD⟩ := St.pinFacts F S
  have swap : ∀ p, (B.pin D o).H p = none → (B.pin D o').H p = none := fun p e => by
    have e' : upd B.H D o p = none := e
    show upd B.H D o' p = none
    by_cases z : p = D
    · subst z; rw [upd_same] at e'; cases e'
    · rw [upd_ne z] at e' ⊢; exact e'
  have keep : ∀ p u, p ≠ D → H p = some u → upd H D o' p = some u := fun p u z e => by rw [upd_ne z]; exact e
  refine ⟨⟨fun p u e => keep p u (ne_of_none e gD) (S.st.le p u e), S.st.len, S.st.nd, S.st.out, fun i p cl h1 h2 => ?_⟩, fun i sv hi => ?_, S.dis, fun p u e n => ?_, fun q hq => (S.b2 q hq).imp id (swap q), fun p u e => (S.b3 p u e).imp id (swap p), S.b4, S.b5⟩
  · have np : p ≠ D := fun z => iD (by rw [← z]; exact List.mem_of_getElem? h1)
    exact (S.st.cell i p cl h1 h2).mono (Hle.refl _) (Ile.refl _) fun u e => keep p u np e
  · obtain ⟨x, e1, r⟩ := S.env i sv hi
    refine ⟨x, e1, ?_⟩
    cases sv with
    | un => trivial
    | val v => exact r
    | xv C fs => exact r
    | own cl =>
      obtain ⟨p, e, g, n, b, q⟩ := r
      have np : p ≠ D := fun z => by
        have e' : upd B.H D o p = none := b
        rw [z, upd_same] at e'; cases e'
      exact ⟨p, e, g, n, swap p b, q.mono (Hle.refl _) (Ile.refl _) fun u e => keep p u np e⟩
  · have e' : upd B.H D o' p = some u := e
    by_cases z : p = D
    · subst z; rw [upd_same] at e' ⊢; exact e'
    · rw [upd_ne z] at e'
      refine keep p u z (S.b1 p u ?_ n)
      show upd B.H D o p = some u
      rw [upd_ne z]; exact e'
/-- the pinned object is known by value from now on -/
theorem St.know (F : Off B D) (S : St K c (B.pin D o) G ι h H ρ σ) : St K c B (upd G D o) ι h H ρ σ := by
  obtain ⟨hD, gD, iD⟩ := St.pinFacts F S
  have S1 := S.unpin F
  have hle : Hle G (upd G D o) := Hle.new gD
  refine ⟨⟨fun p u e => ?_, S.st.len, S.st.nd, fun q hq => ?_, fun i p cl h1 h2 => (S.st.cell i p cl h1 h2).mono hle (Ile.refl _) fun _ e => e⟩, fun i sv hi => ?_, S1.dis, S1.b1, S1.b2, fun p u e => ?_, S1.b4, S1.b5.trans hle⟩
  · by_cases z : p = D
    · subst z; rw [upd_same] at e; rw [hD]; exact e
    · rw [upd_ne z] at e; exact S.st.le p u e
  · rw [upd_ne (fun z : q = D => iD (by rw [← z]; exact hq))]; exact S.st.out q hq
  · obtain ⟨x, e1, r⟩ := S.env i sv hi
    refine ⟨x, e1, ?_⟩
    obtain ⟨x', e1', r'⟩ := S1.env i sv hi
    rw [e1] at e1'; cases e1'
    cases sv with
    | un => trivial
    | val v => obtain ⟨y, e, q⟩ := r; exact ⟨y, e, q.mono hle (Ile.refl _)⟩
    | xv C fs => obtain ⟨a, cls, d, e1x, e2x, q⟩ := r; exact ⟨a, cls, d, e1x, e2x, q.mono hle (Ile.refl _)⟩
    | own cl =>
      obtain ⟨p, e, g, n, b, q⟩ := r
      obtain ⟨p', e', g', n', b', q'⟩ := r'
      rw [e] at e'; cases e'
      have np : p ≠ D := fun z => by
        have e' : upd B.H D o p = none := b
        rw [z, upd_same] at e'; cases e'
      exact ⟨p, e, by rw [upd_ne np]; exact g, n, b', q.mono hle (Ile.refl _) fun _ e => e⟩
  · by_cases z : p = D
    · subst z; exact .inr F.h
    · rw [upd_ne z] at e; exact S1.b3 p u e

/-! ### slots -/
theorem St.set (S : St K c B G ι h H ρ σ) {i : Nat} {v : Val} {x : V} (r : VR K c G ι v x) : St K c B G ι h H (ρ.set i (.val v)) (σ.set i (some x)) := by
  refine ⟨S.st, fun j sv hj => ?_, fun j k c1 c2 p h1 h2 h3 h4 => ?_, S.b1, S.b2, S.b3, S.b4, S.b5⟩
  · by_cases z : i = j
    · subst z
      by_cases hl : i < ρ.length
      · rw [List.getElem?_set_self hl] at hj
        cases hj
        obtain ⟨x0, e0, _⟩ := S.env i _ (List.getElem?_eq_getElem hl)
        exact ⟨some x, List.getElem?_set_self (List.getElem?_eq_some_iff.mp e0).1, x, rfl, r⟩
      · rw [List.getElem?_eq_none (by simpa using hl)] at hj; cases hj
    · rw [List.getElem?_set_ne z] at hj ⊢
      exact S.env j sv hj
  · have nj : i ≠ j := fun z => by
      subst z
      by_cases hl : i < ρ.length
      · rw [List.getElem?_set_self hl] at h1; cases h1
      · rw [List.getElem?_eq_none (by simpa using hl)] at h1; cases h1
    have nk : i ≠ k := fun z => by
      subst z
      by_cases hl : i < ρ.length
      · rw [List.getElem?_set_self hl] at h2; cases h2
      · rw [List.getElem?_eq_none (by simpa using hl)] at h2; cases h2
    rw [List.getElem?_set_ne nj] at h1 h3
    rw [List.getElem?_set_ne nk] at h2 h4
    exact S.dis j k c1 c2 p h1 h2 h3 h4
/-- what a fresh object's description says -/
def CO (K : PySem.W.Frag) (c : Ctx) (G : Hp) (ι : List Addr) : Cell → HO → Prop
  | .lst vs, o => ∃ xs, o = .lst xs ∧ VRs K c G ι vs xs
  | .ins C fs, o => ∃ dx xs, o = .ins (c.CT C) dx xs ∧ FRs K c G ι fs xs
  | .dct kvs, o => ∃ xs, o = .dK xs ∧ KVRs K c G ι kvs xs
theorem CO.cr {cl : Cell} {p : Addr} (e : H p = some o) (r : CO K c G ι cl o) : CR K c G ι H p cl := by
  cases cl with
  | lst vs => obtain ⟨xs, rfl, q⟩ := r; exact ⟨xs, e, q⟩
  | ins C fs => obtain ⟨dx, xs, rfl, q⟩ := r; exact ⟨dx, xs, e, q⟩
  | dct kvs => obtain ⟨xs, rfl, q⟩ := r; exact ⟨xs, e, q⟩
theorem CR.co {cl : Cell} {p : Addr} (r : CR K c G ι H p cl) : ∃ o, H p = Option.some o ∧ CO K c G ι cl o := by
  cases cl with
  | lst vs => obtain ⟨xs, e, q⟩ := r; exact ⟨_, e, xs, rfl, q⟩
  | ins C fs => obtain ⟨dx, xs, e, q⟩ := r; exact ⟨_, e, dx, xs, rfl, q⟩
  | dct kvs => obtain ⟨xs, e, q⟩ := r; exact ⟨_, e, xs, rfl, q⟩
def Cell.val : Cell → Val
  | .lst vs => .lst vs
  | .ins C fs => .obj C fs
  | .dct kvs => .dct kvs
theorem CO.val {cl : Cell} {p : Addr} (e : G p = some o) (r : CO K c G ι cl o) : VR K c G ι cl.val (.ref p) := by
  cases cl with
  | lst vs => obtain ⟨xs, rfl, q⟩ := r; exact .lst e q
  | ins C fs => obtain ⟨dx, xs, rfl, q⟩ := r; exact .obj e q
  | dct kvs => obtain ⟨xs, rfl, q⟩ := r; exact .dct e q
theorem CO.mono {cl : Cell} (hG : Hle G G') (hι : Ile ι ι') (r : CO K c G ι cl o) : CO K c G' ι' cl o := by
  cases cl with
  | lst vs => obtain ⟨xs, rfl, q⟩ := r; exact ⟨xs, rfl, q.mono hG hι⟩
  | ins C fs => obtain ⟨dx, xs, rfl, q⟩ := r; exact ⟨dx, xs, rfl, q.mono hG hι⟩
  | dct kvs => obtain ⟨xs, rfl, q⟩ := r; exact ⟨xs, rfl, q.mono hG hι⟩
theorem St.own (F : Off B D) (S : St K c (B.pin D o) G ι h H ρ σ) {i : Nat} {cl : Cell} (r : CO K c G ι cl o) : St K c B G ι h H (ρ.set i (.own cl)) (σ.set i (some (.ref D))) := by
  obtain ⟨hD, gD, iD⟩ := St.pinFacts F S
  have S1 := S.unpin F
  have notD : ∀ (j : Nat) c1, ρ[j]? = some (.own c1) → σ[j]? ≠ some (some (.ref D)) := fun j c1 hj e => by
    obtain ⟨x, e1, p, e2, _, _, b, _⟩ := S.env j _ hj
    rw [e] at e1; cases e1
    cases e2
    have e' : upd B.H D o D = none := b
    rw [upd_same] at e'; cases e'
  refine ⟨S1.st, fun j sv hj => ?_, fun j k c1 c2 p h1 h2 h3 h4 => ?_, S1.b1, S1.b2, S1.b3, S1.b4, S1.b5⟩
  · by_cases z : i = j
    · subst z
      by_cases hl : i < ρ.length
      · rw [List.getElem?_set_self hl] at hj
        cases hj
        obtain ⟨x0, e0, _⟩ := S.env i _ (List.getElem?_eq_getElem hl)
        exact ⟨_, List.getElem?_set_self (List.getElem?_eq_some_iff.mp e0).1, D, rfl, gD, iD, F.h, r.cr hD⟩
      · rw [List.getElem?_eq_none (by simpa using hl)] at hj; cases hj
    · rw [List.getElem?_set_ne z] at hj ⊢
      exact S1.env j sv hj
  · have inI : ∀ (l : Nat), l < ρ.length → l < σ.length := fun l hl => by
      obtain ⟨x0, e0, _⟩ := S.env l _ (List.getElem?_eq_getElem hl)
      exact (List.getElem?_eq_some_iff.mp e0).1
    by_cases zj : i = j
    · by_cases zk : i = k
      · rw [← zj, ← zk]
      · subst zj
        rw [List.getElem?_set_ne zk] at h2 h4
        have hl : i < ρ.length := by
          have := (List.getElem?_eq_some_iff.mp h1).1
          simpa using this
        rw [List.getElem?_set_self (inI i hl)] at h3
        cases h3
        exact (notD k c2 h2 h4).elim
    · rw [List.getElem?_set_ne zj] at h1 h3
      by_cases zk : i = k
      · subst zk
        have hl : i < ρ.length := by
          have := (List.getElem?_eq_some_iff.mp h2).1
          simpa using this
        rw [List.getElem?_set_self (inI i hl)] at h4
        cases h4
        exact (notD j c1 h1 h3).elim
      · rw [List.getElem?_set_ne zk] at h2 h4
        exact S1.dis j k c1 c2 p h1 h2 h3 h4

/-! ### behind a call -/
theorem St.call (S : St K c B G ι h H ρ σ) (hG : Hle G G') (hι : Ile ι ι') (hf : ∀ q ∈ ι', q ∈ ι ∨ H q = none) (hH : ∀ p o, H p = some o → p ∉ ι → H' p = some o) (hg : ∀ p o, G' p = some o → G p = some o ∨ H p = none)
    (S' : Stc K c G' ι' h' H') : St K c B G' ι' h' H' ρ σ := by
  have bh : ∀ p u, B.H p = some u → p ∉ B.ι → p ∉ ι := fun p u e n m => by
    rcases S.b2 p m with z | z
    · exact n z
    · rw [e] at z; cases z
  refine ⟨S', fun i sv hi => ?_, S.dis, fun p u e n => hH p u (S.b1 p u e n) (bh p u e n), fun q hq => ?_, fun p u e => ?_, S.b4.trans hι, S.b5.trans hG⟩
  · obtain ⟨x, e1, r⟩ := S.env i sv hi
    refine ⟨x, e1, r.mono hG hι fun p u g n b e => ⟨hH p u e n, ?_, fun m => ?_⟩⟩
    · cases q : G' p with
      | none => rfl
      | some w =>
        rcases hg p w q with z | z
        · rw [g] at z; cases z
        · rw [e] at z; cases z
    · rcases hf p m with z | z
      · exact n z
      · rw [e] at z; cases z
  · rcases hf q hq with z | z
    · exact S.b2 q z
    · exact .inr (S.bfree z)
  · rcases hg p u e with z | z
    · exact S.b3 p u z
    · exact .inr (S.bfree z)
end

/-! ### what a mirrored def promises -/
def PostF (K : PySem.W.Frag) (c : Ctx) (G : Hp) (ι : List Addr) (H : Hp) (r : RE Val) (Q : VK) (E : XK) : Prop := match r with
  | .ok v _ h' => ∀ G' ι' H' x, Hle G G' → Ile ι ι' → (∀ q ∈ ι', q ∈ ι ∨ H q = none) → (∀ p o, H p = some o → p ∉ ι → H' p = some o) → (∀ p o, G' p = some o → G p = some o ∨ H p = none) → Stc K c G' ι' h' H' → VR K c G' ι' v x → Q x H'
  | .exc C fs _ h' => ∀ G' ι' H' cls d, Hle G G' → Ile ι ι' → (∀ q ∈ ι', q ∈ ι ∨ H q = none) → (∀ p o, H p = some o → p ∉ ι → H' p = some o) → (∀ p o, G' p = some o → G p = some o ∨ H p = none) → Stc K c G' ι' h' H' → XR K c G' ι' H' C fs cls d → E cls d H'
  | .fail => False
def spM (K : PySem.W.Frag) (c : Ctx) (n : Nat) (m : List Val → MHp → RE Val) : Sp := fun vs H Q E => ∃ G ι h avs, avs.length = n ∧ Stc K c G ι h H ∧ VRs K c G ι avs vs ∧ PostF K c G ι H (m avs h) Q E
def mCall (m : List Val → MHp → RE Val) (dv : List Val) (r : EM (List Val)) : EM Val := EM.bind r fun vs ρ h => match m (vs ++ dv) h with
  | .ok v _ h' => .ok v ρ h'
  | .exc C fs _ h' => .exc C fs ρ h'
  | .fail => .fail
section
variable {K : PySem.W.Frag} {c : Ctx} {E : WX}
theorem sim_call {n : Nat} {m : List Val → MHp → RE Val} {dv : List Val} {dvs : List V} {tr : TA} {mr : EM (List Val)} (hd : ∀ G ι, VRs K c G ι dv dvs) (hm : ∀ vs h, vs.length ≠ n → m vs h = .fail)
    (hr : Sim K c (RVs K c) E tr mr) : Sim K c (RV K c) E (tCallSD (spM K c n m) dvs (WE E) tr) (mCall m dv mr) := by
  intro B G ι h H ρ σ Q hs hp
  refine hr.bind (S := RV K c) hs hp fun G1 ι1 h1 H1 ρ1 vs xs a1 b1 s1 r1 hp1 => ?_
  have hl : (vs ++ dv).length = n := by
    by_cases z : (vs ++ dv).length = n
    · exact z
    · rw [hm _ _ z] at hp1; exact hp1.elim
  refine ⟨G1, ι1, h1, vs ++ dv, hl, s1.st, r1.append (hd _ _), ?_⟩
  cases e2 : m (vs ++ dv) h1 with
  | ok v ρ2 h2 =>
    rw [e2] at hp1
    intro G' ι' H' x hG hι hf hH hg S' r'
    exact hp1 G' ι' H' x hG hι (s1.call hG hι hf hH hg S') r'
  | exc C fs ρ2 h2 =>
    rw [e2] at hp1
    intro G' ι' H' cls d hG hι hf hH hg S' r'
    exact hp1 G' ι' H' cls d hG hι (s1.call hG hι hf hH hg S') r'
  | fail =>
    rw [e2] at hp1
    exact hp1

/-! ### what is walked -/
def JR (K : PySem.W.Frag) (c : Ctx) (J : It) (G : Hp) (ι : List Addr) (vs : List Val) : Prop := ∀ B G' ι' h H ρ σ, Hle G G' → Ile ι ι' → St K c B G' ι' h H ρ σ →
  J.stop vs.length H ∧ ∀ (i : Nat) v, vs[i]? = some v → J.go i H ∧ ∀ x H', J.yld i H x H' → ∃ G'', Hle G' G'' ∧ St K c B G'' ι' h H' ρ σ ∧ VR K c G'' ι' v x
theorem JR.mono {J : It} {G G' : Hp} {ι ι' : List Addr} {vs : List Val} (hG : Hle G G') (hι : Ile ι ι') (r : JR K c J G ι vs) : JR K c J G' ι' vs :=
  fun B G2 ι2 h H ρ σ a b s => r B G2 ι2 h H ρ σ (hG.trans a) (hι.trans b) s
abbrev RJ (K : PySem.W.Frag) (c : Ctx) : RelT (List Val) It := fun G ι vs J => JR K c J G ι vs
def items : Val → Option (List Val)
  | .lst vs => some vs
  | .fz vs => some vs
  | .tup vs => some vs
  | .str s => some (s.cps.toList.map fun q => .str ⟨#[q]⟩)
  | _ => none
def iSeq (K : PySem.W.Frag) (tl : TE) : TI := fun σ H R => tl σ H fun x H1 => (∃ a, x = .ref a ∧ (∃ xs, SqL K H1 a xs) ∧ R (Itl K a) H1) ∨ (∃ a, x = .ref a ∧ (∃ xs, SqT K H1 a xs) ∧ R (Itt K a) H1) ∨ ∃ s, x = .str s ∧ R (Its s) H1
theorem jr_list {G : Hp} {ι : List Addr} {a : Addr} {xs : List V} {vs : List Val} (hx : SqL K G a xs) (r : VRs K c G ι vs xs) : JR K c (Itl K a) G ι vs := by
  intro B G' ι' h H ρ σ hG hι S
  have hx' : SqL K H a xs := (hG.trans S.st.le).sqL hx
  refine ⟨⟨xs, hx', by rw [r.length]; exact Nat.le_refl _⟩, fun i v hv => ?_⟩
  obtain ⟨y, hy, ry⟩ := r.get hv
  refine ⟨⟨xs, y, hx', hy⟩, fun x H' hh => ?_⟩
  obtain ⟨rfl, hx2⟩ := hh
  have := hx2 xs hx'
  rw [hy] at this; cases this
  exact ⟨G', Hle.refl _, S, ry.mono hG hι⟩
theorem jr_tup {G : Hp} {ι : List Addr} {a : Addr} {xs : List V} {vs : List Val} (hx : SqT K G a xs) (r : VRs K c G ι vs xs) : JR K c (Itt K a) G ι vs := by
  intro B G' ι' h H ρ σ hG hι S
  have hx' : SqT K H a xs := (hG.trans S.st.le).sqT hx
  refine ⟨⟨xs, hx', by rw [r.length]; exact Nat.le_refl _⟩, fun i v hv => ?_⟩
  obtain ⟨y, hy, ry⟩ := r.get hv
  refine ⟨⟨xs, y, hx', hy⟩, fun x H' hh => ?_⟩
  obtain ⟨rfl, hx2⟩ := hh
  have := hx2 xs hx'
  rw [hy] at this; cases this
  exact ⟨G', Hle.refl _, S, ry.mono hG hι⟩
theorem jr_str {G : Hp} {ι : List Addr} {s : Str} : JR K c (Its s) G ι (s.cps.toList.map fun q => .str ⟨#[q]⟩) := by
  intro B G' ι' h H ρ σ hG hι S
  refine ⟨?_, fun i v hv => ?_⟩
  · show s.cps.size ≤ (s.cps.toList.map fun q => Val.str ⟨#[q]⟩).length
    simp
  · rw [List.getElem?_map, Option.map_eq_some_iff] at hv
    obtain ⟨q, hq, rfl⟩ := hv
    have hq' : s.cps[i]? = some q := by simpa using hq
    refine ⟨(Array.getElem?_eq_some_iff.mp hq').1, fun x H' hh => ?_⟩
    obtain ⟨rfl, q2, h2, rfl⟩ := hh
    rw [hq'] at h2; cases h2
    exact ⟨G', Hle.refl _, S, .str _⟩
def mSeq (a : EM Val) : EM (List Val) := EM.bind a fun v => EM.lift (items v)
theorem sim_seq {ta : TE} {ma : EM Val} (ha : Sim K c (RV K c) E ta ma) : Sim K c (RJ K c) E (iSeq K ta) (mSeq ma) := by
  intro B G ι h H ρ σ Q hs hp
  refine ha.bind (S := RJ K c) hs hp fun G1 ι1 h1 H1 ρ1 v x a1 b1 s1 r1 p1 => ?_
  obtain ⟨vs, e, p2⟩ := p1.lift
  cases v with
  | lst ws =>
    obtain ⟨p, xs, rfl, hp, r⟩ := r1.lstE
    cases e
    exact .inl ⟨p, rfl, ⟨xs, .of (s1.st.le _ _ hp)⟩, Post.pure (R := RJ K c) p2 s1 (jr_list (.of hp) r)⟩
  | fz ws =>
    obtain ⟨p, xs, rfl, hp, r⟩ := r1.fzE
    cases e
    exact .inl ⟨p, rfl, ⟨xs, s1.st.le.sqL hp⟩, Post.pure (R := RJ K c) p2 s1 (jr_list hp r)⟩
  | tup ws =>
    obtain ⟨p, xs, rfl, hp, r⟩ := r1.tupE
    cases e
    exact .inr (.inl ⟨p, rfl, ⟨xs, s1.st.le.sqT hp⟩, Post.pure (R := RJ K c) p2 s1 (jr_tup hp r)⟩)
  | str s =>
    cases r1
    cases e
    exact .inr (.inr ⟨s, rfl, Post.pure (R := RJ K c) p2 s1 jr_str⟩)
  | _ => cases e
theorem pi_seq {X : Cx} {tg l : Expr} {tl : TE} (hl : PE X l tl) : PI X tg l (iSeq X.K tl) := by
  refine ⟨fun pins s σ H R I h => ?_⟩
  refine thn (hl.run pins s σ H _ I h) fun v s1 ⟨x, H1, I1, r1, q1⟩ => ?_
  rcases q1 with ⟨a, e, ⟨xs, hq⟩, q⟩ | ⟨a, e, ⟨xs, hq⟩, q⟩ | ⟨y, e, q⟩
  · subst e
    cases r1
    obtain ⟨its, rv, p, hz⟩ := I1.list hq
    refine wpAny_pyIter_list p.isList ?_
    refine ⟨s1.heap.objs.size, [s1.heap.objs.size], _, _, H1, rfl, I1.kept (t' := s1.toks) fun b o e => Heap.get?_push_of_some _ e, turn_list a _, ⟨_, Heap.get?_push_size _ rfl, rfl, rfl⟩, fun b hb => ?_, q⟩
    have e : b = s1.heap.objs.size := by simpa using hb
    subst e
    exact I1.fpOk (Nat.le_refl _) (I1.hok.fresh (Nat.le_refl _))
  · subst e
    cases r1
    obtain ⟨its, rv, p, hz⟩ := I1.tuple hq
    refine wpAny_pyIter_tuple (show s1.heap.IsTuple a its.toArray from p) ?_
    refine ⟨s1.heap.objs.size, [s1.heap.objs.size], _, _, H1, rfl, I1.kept (t' := s1.toks) fun b o e => Heap.get?_push_of_some _ e, turn_tuple a _, ⟨_, Heap.get?_push_size _ rfl, rfl, rfl⟩, fun b hb => ?_, q⟩
    have e : b = s1.heap.objs.size := by simpa using hb
    subst e
    exact I1.fpOk (Nat.le_refl _) (I1.hok.fresh (Nat.le_refl _))
  · subst e
    obtain ⟨t, rfl⟩ := r1
    cases ha : y.cps.all (· < 128)
    · exact wpAny_pyIter_wide ha (pi_one (tk := s1.toks) I1 _ (turn_str _ y t "str_iterator" (.inr rfl)) ⟨_, Heap.get?_push_size _ rfl, rfl, rfl⟩ q)
    · exact wpAny_pyIter_ascii ha (pi_one (tk := s1.toks) I1 _ (turn_str _ y t "str_ascii_iterator" (.inl rfl)) ⟨_, Heap.get?_push_size _ rfl, rfl, rfl⟩ q)
def mRange1 (r : EM (List Val)) : EM (List Val) := EM.bind r fun vs => EM.lift (match vs with
  | [.int j] => if -(2 ^ 62) ≤ j ∧ j < 2 ^ 62 then some ((List.range j.toNat).map fun k => .int (k : Nat)) else none
  | _ => none)
theorem jr_range {G : Hp} {ι : List Addr} {lo : Int} {n : Nat} : JR K c (Itr lo n) G ι ((List.range n).map fun k => .int (lo + (k : Nat))) := by
  intro B G' ι' h H ρ σ hG hι S
  refine ⟨?_, fun i v hv => ?_⟩
  · show n ≤ ((List.range n).map fun k => Val.int (lo + (k : Nat))).length
    simp
  · rw [List.getElem?_map, Option.map_eq_some_iff] at hv
    obtain ⟨q, hq, rfl⟩ := hv
    obtain ⟨hi, e⟩ := List.getElem?_eq_some_iff.mp hq
    simp at hi e
    subst e
    refine ⟨hi, fun x H' hh => ?_⟩
    obtain ⟨rfl, rfl⟩ := hh
    exact ⟨G', Hle.refl _, S, .int _⟩
theorem sim_range1 {tr : TA} {mr : EM (List Val)} (hr : Sim K c (RVs K c) E tr mr) : Sim K c (RJ K c) E (iRng1 tr) (mRange1 mr) := by
  intro B G ι h H ρ σ Q hs hp
  refine hr.bind (S := RJ K c) hs hp fun G1 ι1 h1 H1 ρ1 vs xs a1 b1 s1 r1 p1 => ?_
  obtain ⟨ws, e, p2⟩ := p1.lift
  split at e
  · rename_i j
    split at e
    · rename_i hz
      cases e
      obtain ⟨y, ys, rfl, ry, rs⟩ := r1.consE
      obtain rfl := rs.nilE
      cases ry
      refine ⟨j, rfl, hz.1, hz.2, Post.pure (R := RJ K c) p2 s1 ?_⟩
      have := jr_range (K := K) (c := c) (G := G1) (ι := ι1) (lo := 0) (n := j.toNat)
      simpa using this
    · cases e
  · cases e
end
end Mir

set_option Elab.async false
set_option linter.all false
set_option maxRecDepth 100000
set_option maxHeartbeats 4000000
namespace Mir
open PySem PySem.Spec PyProof.Rows L2

section
variable {K : PySem.W.Frag} {c : Ctx} {B : Bas} {G G' : Hp} {ι ι' : List Addr} {h h' : MHp} {H H' : Hp} {ρ ρ' : MEnv} {σ σ' : L2.St} {E : WX} {D : Addr} {o o' : HO}

/-! ### targets -/
def wipeM (ρ : MEnv) : List Nat → MEnv
  | [] => ρ
  | v :: vs => (wipeM ρ vs).set v .un
abbrev TgM := Val → MEnv → Option MEnv
/-- a target that stores at the slots is -/
def SimG (K : PySem.W.Frag) (c : Ctx) (is : List Nat) (g : TG) (tg : TgM) : Prop :=
  ∀ B G ι h H ρ σ v x ρ' (Q : L2.St → Hp → Prop), St K c B G ι h H ρ σ → VR K c G ι v x → tg v ρ = some ρ' →
    (∀ σ', St K c B G ι h H ρ' σ' → (∀ vs : List Nat, (∀ i ∈ is, i ∈ vs) → wipe σ' vs = wipe σ vs) → Q σ' H) → g x σ H Q
theorem wipe_set {σ : L2.St} {i : Nat} {x : Option V} : ∀ {vs : List Nat}, i ∈ vs → wipe (σ.set i x) vs = wipe σ vs
  | [], h => by cases h
  | v :: vs, h => by
    unfold wipe
    by_cases hv : i ∈ vs
    · rw [wipe_set hv]
    · have e : i = v := by
        rcases List.mem_cons.mp h with z | z
        · exact z
        · exact (hv z).elim
      subst e
      clear h
      induction vs with
      | nil => unfold wipe; rw [List.set_set]
      | cons w ws ih =>
        have h1 : i ≠ w := fun z => hv (by rw [z]; exact List.mem_cons_self)
        have h2 : i ∉ ws := fun z => hv (List.mem_cons_of_mem _ z)
        unfold wipe
        rw [List.set_comm _ _ (Ne.symm h1), ih h2, List.set_comm _ _ h1]
def gmName (i : Nat) : TgM := fun v ρ => some (ρ.set i (.val v))
theorem sg_name (i : Nat) : SimG K c [i] (gName i) (gmName i) := by
  intro B G ι h H ρ σ v x ρ' Q S r e k
  cases e
  exact k _ (S.set r) fun vs hv => wipe_set (hv i (by simp))
abbrev TgsM := List Val → MEnv → Option MEnv
def SimGs (K : PySem.W.Frag) (c : Ctx) (is : List Nat) (g : TGs) (tg : TgsM) : Prop :=
  ∀ B G ι h H ρ σ vs xs ρ' (Q : L2.St → Hp → Prop), St K c B G ι h H ρ σ → VRs K c G ι vs xs → tg vs ρ = some ρ' →
    (∀ σ', St K c B G ι h H ρ' σ' → (∀ vs : List Nat, (∀ i ∈ is, i ∈ vs) → wipe σ' vs = wipe σ vs) → Q σ' H) → g xs σ H Q
def gmNil : TgsM := fun vs ρ => match vs with | [] => some ρ | _ => none
def gmCons (a : TgM) (b : TgsM) : TgsM := fun vs ρ => match vs with
  | v :: r => (a v ρ).bind fun ρ1 => b r ρ1
  | [] => none
theorem sgs_nil : SimGs K c [] gNil gmNil := by
  intro B G ι h H ρ σ vs xs ρ' Q S r e k
  cases vs with
  | nil => cases e; obtain rfl := r.nilE; exact ⟨rfl, k σ S fun _ _ => rfl⟩
  | cons _ _ => cases e
theorem sgs_cons {is js : List Nat} {g : TG} {gs : TGs} {a : TgM} {b : TgsM} (h1 : SimG K c is g a) (h2 : SimGs K c js gs b) : SimGs K c (is ++ js) (gCons g gs) (gmCons a b) := by
  intro B G ι h H ρ σ vs xs ρ' Q S r e k
  cases vs with
  | nil => cases e
  | cons v vr =>
    obtain ⟨x, ys, rfl, rv, rr⟩ := r.consE
    simp only [gmCons, Option.bind_eq_some_iff] at e
    obtain ⟨ρ1, e1, e2⟩ := e
    refine ⟨x, ys, rfl, h1 B G ι h H ρ σ v x ρ1 _ S rv e1 fun σ1 S1 w1 => ?_⟩
    refine h2 B G ι h H ρ1 σ1 vr ys ρ' Q S1 rr e2 fun σ2 S2 w2 => k σ2 S2 fun vs hv => ?_
    rw [w2 vs fun i hi => hv i (List.mem_append_right _ hi), w1 vs fun i hi => hv i (List.mem_append_left _ hi)]
def gmTup (n : Nat) (b : TgsM) : TgM := fun v ρ => match v with
  | .tup vs => if vs.length = n then b vs ρ else none
  | _ => none
theorem sg_tup {is : List Nat} {gs : TGs} {b : TgsM} {n : Nat} (h : SimGs K c is gs b) : SimG K c is (gTup K n gs) (gmTup n b) := by
  intro B G ι h' H ρ σ v x ρ' Q S r e k
  unfold gmTup at e
  split at e
  · split at e
    · rename_i vs hz
      obtain ⟨p, xs, rfl, hp, rs⟩ := r.tupE
      exact ⟨p, xs, rfl, S.st.le.sqT hp, by rw [← rs.length]; exact hz, h B G ι h' H ρ σ vs xs ρ' Q S rs e k⟩
    · cases e
  · cases e

/-! ### list comprehensions -/
theorem get_wipeM {ρ : MEnv} {i : Nat} {sv : SV} : ∀ {vs : List Nat}, (wipeM ρ vs)[i]? = some sv → (i ∈ vs ∧ sv = .un) ∨ (i ∉ vs ∧ ρ[i]? = some sv)
  | [], h => .inr ⟨by simp, h⟩
  | v :: vs, h => by
    unfold wipeM at h
    by_cases e : v = i
    · subst e
      by_cases hl : v < (wipeM ρ vs).length
      · rw [List.getElem?_set_self hl] at h
        cases h
        exact .inl ⟨by simp, rfl⟩
      · rw [List.getElem?_eq_none (by simpa using hl)] at h; cases h
    · rw [List.getElem?_set_ne e] at h
      rcases get_wipeM h with ⟨a, b⟩ | ⟨a, b⟩
      · exact .inl ⟨List.mem_cons_of_mem _ a, b⟩
      · exact .inr ⟨by simp only [List.mem_cons, not_or]; exact ⟨fun z => e z.symm, a⟩, b⟩
theorem wipeM_length (τ : MEnv) (us : List Nat) : (wipeM τ us).length = τ.length := by
  induction us with
  | nil => rfl
  | cons w ws ih => unfold wipeM; rw [List.length_set, ih]
theorem wipeM_idem (τ : MEnv) (us : List Nat) : wipeM (wipeM τ us) us = wipeM τ us := by
  apply List.ext_getElem?
  intro j
  cases q : (wipeM (wipeM τ us) us)[j]? with
  | none =>
    have h := List.getElem?_eq_none_iff.mp q
    rw [wipeM_length] at h
    exact (List.getElem?_eq_none h).symm
  | some sv =>
    rcases get_wipeM q with ⟨a, rfl⟩ | ⟨a, b⟩
    · have hl := (List.getElem?_eq_some_iff.mp q).1
      rw [wipeM_length] at hl
      cases q2 : (wipeM τ us)[j]? with
      | none =>
        have := List.getElem?_eq_none_iff.mp q2
        omega
      | some sv2 =>
        rcases get_wipeM q2 with ⟨_, rfl⟩ | ⟨a2, _⟩
        · rfl
        · exact (a2 a).elim
    · exact b.symm
theorem wipe_idem (σ : L2.St) (us : List Nat) : wipe (wipe σ us) us = wipe σ us := by
  have : ∀ ws us : List Nat, (∀ i ∈ ws, i ∈ us) → wipe (wipe σ ws) us = wipe σ us := fun ws => by
    induction ws with
    | nil => intro us _; rfl
    | cons w ws ih =>
      intro us hu
      show wipe ((wipe σ ws).set w none) us = _
      rw [wipe_set (hu w (by simp)), ih us fun i hi => hu i (List.mem_cons_of_mem _ hi)]
  exact this us us fun _ h => h
theorem St.wiped (S : St K c B G ι h H ρ σ) (vs : List Nat) (hw : wipe σ' vs = wipe σ vs) : St K c B G ι h H (wipeM ρ vs) σ' := by
  have same : ∀ (i : Nat), i ∉ vs → σ'[i]? = σ[i]? := fun i hi => by
    rw [← wipe_out (σ := σ') hi, hw, wipe_out hi]
  have len : σ'.length = σ.length := by rw [← wipe_length σ' vs, hw, wipe_length]
  refine ⟨S.st, fun i sv hi => ?_, fun i j c1 c2 p h1 h2 h3 h4 => ?_, S.b1, S.b2, S.b3, S.b4, S.b5⟩
  · rcases get_wipeM hi with ⟨a, rfl⟩ | ⟨a, b⟩
    · have hl : i < (wipeM ρ vs).length := (List.getElem?_eq_some_iff.mp hi).1
      have hl2 : i < ρ.length := by
        have : ∀ vs : List Nat, (wipeM ρ vs).length = ρ.length := fun vs => by
          induction vs with
          | nil => rfl
          | cons w ws ih => unfold wipeM; rw [List.length_set, ih]
        rw [this] at hl; exact hl
      obtain ⟨x, e, _⟩ := S.env i _ (List.getElem?_eq_getElem hl2)
      have hs : i < σ'.length := by rw [len]; exact (List.getElem?_eq_some_iff.mp e).1
      exact ⟨σ'[i], List.getElem?_eq_getElem hs, trivial⟩
    · rw [same i a]; exact S.env i sv b
  · rcases get_wipeM h1 with ⟨_, z⟩ | ⟨a1, b1⟩
    · cases z
    · rcases get_wipeM h2 with ⟨_, z⟩ | ⟨a2, b2⟩
      · cases z
      · rw [same i a1] at h3
        rw [same j a2] at h4
        exact S.dis i j c1 c2 p b1 b2 h3 h4
/-- no exception may leave -/
def noexc {α : Type} (m : EM α) : EM α := fun ρ h => match m ρ h with
  | .exc _ _ _ _ => .fail
  | r => r
theorem Post.noexc {α β : Type} {R : RelT α β} {E' : WX} {r : RE α} {Q : β → Hp → Prop} (p : Post K c R E B G ι σ (match r with | .exc _ _ _ _ => .fail | r => r) Q) : Post K c R E' B G ι σ r Q := by
  cases r with
  | ok v ρ' h' => exact p
  | exc C fs ρ' h' => exact p.elim
  | fail => exact p
def compLoop (tg : TgM) (cond : EM Bool) (elt : EM Val) (own : List Nat) : List Val → List Val → EM (List Val)
  | [], acc => EM.pure acc
  | v :: r, acc => fun ρ h => match tg v (wipeM ρ own) with
    | none => .fail
    | some ρ1 => EM.bind (noexc cond) (fun b =>
        if b = true then EM.bind (noexc elt) fun y => if acc.length < sizeLine then compLoop tg cond elt own r (acc ++ [y]) else fun _ _ => .fail
        else compLoop tg cond elt own r acc) ρ1 h
def mComp (it : EM (List Val)) (tg : TgM) (cond : EM Bool) (elt : EM Val) (own : List Nat) : EM Val :=
  EM.bind it fun vs => EM.bind (compLoop tg cond elt own vs []) fun acc => fun ρ h => .ok (.lst acc) (wipeM ρ own) h
/-- a fresh object: its contents -/
def PostN (K : PySem.W.Frag) (c : Ctx) (E : WX) (B : Bas) (G : Hp) (ι : List Addr) (σ : L2.St) (r : RE Cell) (Q : VK) : Prop := match r with
  | .ok cl ρ' h' => ∀ G' ι' H' p o, Hle G G' → Ile ι ι' → Off B p → St K c (B.pin p o) G' ι' h' H' ρ' σ → CO K c G' ι' cl o → Q (.ref p) H'
  | .exc C fs ρ' h' => ∀ G' ι' H' cls d, Hle G G' → Ile ι ι' → St K c B G' ι' h' H' ρ' σ → XR K c G' ι' H' C fs cls d → E cls d σ H'
  | .fail => False
def SimN (K : PySem.W.Frag) (c : Ctx) (E : WX) (te : TE) (m : EM Cell) : Prop :=
  ∀ B G ι h H ρ σ Q, St K c B G ι h H ρ σ → PostN K c E B G ι σ (m ρ h) Q → te σ H Q
def mKnow (m : EM Cell) : EM Val := EM.bind m fun cl => EM.pure cl.val
theorem SimN.sim {te : TE} {m : EM Cell} (hm : SimN K c E te m) : Sim K c (RV K c) E te (mKnow m) := by
  intro B G ι h H ρ σ Q hs hp
  refine hm B G ι h H ρ σ Q hs ?_
  unfold mKnow EM.bind at hp
  cases e : m ρ h with
  | ok cl ρ' h' =>
    rw [e] at hp
    intro G' ι' H' p o hG hι F S r
    obtain ⟨_, gD, _⟩ := S.pinFacts F
    exact hp _ ι' H' _ (hG.trans (Hle.new gD)) hι (S.know F) (CO.val upd_same (r.mono (Hle.new gD) (Ile.refl _)))
  | exc C fs ρ' h' => rw [e] at hp; exact hp
  | fail => rw [e] at hp; exact hp
abbrev E0W : WX := fun _ _ _ _ => False
def mCompN (it : EM (List Val)) (tg : TgM) (cond : EM Bool) (elt : EM Val) (own : List Nat) : EM Cell :=
  EM.bind it fun vs => EM.bind (compLoop tg cond elt own vs []) fun acc => fun ρ h => .ok (.lst acc) (wipeM ρ own) h
theorem compLoop_step {tg : TgM} {cond : EM Bool} {elt : EM Val} {own : List Nat} {v : Val} {r acc : List Val} {k : List Val → EM Cell} : EM.bind (compLoop tg cond elt own (v :: r) acc) k ρ h =
    match tg v (wipeM ρ own) with
    | none => .fail
    | some ρ1 => EM.bind (noexc cond) (fun b => EM.bind (if b = true then EM.bind (noexc elt) fun y => if acc.length < sizeLine then compLoop tg cond elt own r (acc ++ [y]) else fun _ _ => .fail
        else compLoop tg cond elt own r acc) k) ρ1 h := by
  show EM.bind (fun ρ h => match tg v (wipeM ρ own) with
    | none => .fail
    | some ρ1 => EM.bind (noexc cond) (fun b => if b = true then EM.bind (noexc elt) fun y => if acc.length < sizeLine then compLoop tg cond elt own r (acc ++ [y]) else fun _ _ => .fail
        else compLoop tg cond elt own r acc) ρ1 h) k ρ h = _
  unfold EM.bind
  dsimp only
  cases tg v (wipeM ρ own) with
  | none => rfl
  | some ρ1 =>
    dsimp only
    cases noexc cond ρ1 h <;> rfl
theorem PostN.mono {r : RE Cell} {Q : VK} (hG : Hle G G') (hι : Ile ι ι') (p : PostN K c E B G ι σ r Q) : PostN K c E B G' ι' σ r Q := by
  cases r with
  | ok cl ρ' h' => exact fun G2 ι2 H2 q o a b F S r => p G2 ι2 H2 q o (hG.trans a) (hι.trans b) F S r
  | exc C fs ρ' h' => exact fun G2 ι2 H2 cls d a b S r => p G2 ι2 H2 cls d (hG.trans a) (hι.trans b) S r
  | fail => exact p
abbrev compEnd (own : List Nat) : List Val → EM Cell := fun acc ρ h => .ok (Cell.lst acc) (wipeM ρ own) h
theorem compLoop_wiped {tg : TgM} {cond : EM Bool} {elt : EM Val} {own : List Nat} {r acc : List Val} : EM.bind (compLoop tg cond elt own r acc) (compEnd own) (wipeM ρ own) h = EM.bind (compLoop tg cond elt own r acc) (compEnd own) ρ h := by
  cases r with
  | nil =>
    show RE.ok (Cell.lst acc) (wipeM (wipeM ρ own) own) h = RE.ok (Cell.lst acc) (wipeM ρ own) h
    rw [wipeM_idem]
  | cons v r => rw [compLoop_step, compLoop_step, wipeM_idem]
theorem sim_comp {wi : TI} {g : TG} {tt : TT} {te : TE} {it : EM (List Val)} {tg : TgM} {cond : EM Bool} {elt : EM Val} {is own : List Nat} (hi : Sim K c (RJ K c) E wi it) (hg : SimG K c is g tg) (his : ∀ i ∈ is, i ∈ own)
    (ht : Sim K c RB E0W tt cond) (he : Sim K c (RV K c) E0W te elt) : SimN K c E (tLc wi g tt te own) (mCompN it tg cond elt own) := by
  intro B G ι h H ρ σ Q hs hp
  refine hi B G ι h H ρ σ _ hs ?_
  unfold mCompN EM.bind at hp
  cases e0 : it ρ h with
  | exc C fs ρ' h' => rw [e0] at hp; exact hp
  | fail => rw [e0] at hp; exact hp
  | ok vs ρ1 h1 =>
    rw [e0] at hp
    intro G1 ι1 H1 J hG1 hι1 S1 hJ D hD
    have F : Off B D := S1.off hD
    have hp1 : PostN K c E B G1 ι1 σ (EM.bind (compLoop tg cond elt own vs []) (compEnd own) ρ1 h1) Q := PostN.mono hG1 hι1 hp
    clear hp
    refine ⟨fun i m H' => m = vs.length - i ∧ i ≤ vs.length ∧ ∃ G' ι' h' ρ' acc xs, Hle G1 G' ∧ Ile ι1 ι' ∧ St K c (B.pin D (.lst xs)) G' ι' h' H' (wipeM ρ' own) (wipe σ own) ∧ VRs K c G' ι' acc xs ∧
      PostN K c E B G' ι' σ (EM.bind (compLoop tg cond elt own (vs.drop i) acc) (compEnd own) (wipeM ρ' own) h') Q, ?_, ?_⟩
    · exact ⟨vs.length, by simp, Nat.zero_le _, G1, ι1, h1, ρ1, [], [], Hle.refl _, Ile.refl _, (S1.pinNew (o := .lst []) hD).wiped own (wipe_idem σ own), .nil, by rw [compLoop_wiped]; exact hp1⟩
    · rintro i m H2 ⟨rfl, hi, G2, ι2, h2, ρ2, acc, xs, hG2, hι2, S2, ra, hp2⟩
      obtain ⟨hD2, gD2, iD2⟩ := S2.pinFacts F
      obtain ⟨jst, jgo⟩ := hJ (B.pin D (.lst xs)) G2 ι2 h2 H2 (wipeM ρ2 own) (wipe σ own) hG2 hι2 S2
      by_cases hlt : i < vs.length
      · have hv : vs[i]? = some vs[i] := List.getElem?_eq_getElem hlt
        obtain ⟨go, yl⟩ := jgo i _ hv
        have hdrop : vs.drop i = vs[i] :: vs.drop (i + 1) := List.drop_eq_getElem_cons hlt
        rw [hdrop, compLoop_step, wipeM_idem] at hp2
        refine .inr ⟨go, _, fun H' hN => ⟨vs.length - (i + 1), by omega, rfl, hlt, hN⟩, fun x H3 hy => ?_⟩
        obtain ⟨G3, hG3, S3, rx⟩ := yl x H3 hy
        cases et : tg vs[i] (wipeM ρ2 own) with
        | none => rw [et] at hp2; exact hp2.elim
        | some ρ3 =>
          rw [et] at hp2
          dsimp only at hp2
          refine hg _ G3 ι2 h2 H3 _ _ _ x ρ3 _ S3 rx et fun σ3 S4 w3 => ?_
          have w3' : wipe σ3 own = wipe σ own := (w3 own his).trans (wipe_idem σ own)
          refine ⟨w3', ?_⟩
          unfold EM.bind noexc at hp2
          refine ht _ G3 ι2 h2 H3 ρ3 σ3 _ S4 ?_
          cases ec : cond ρ3 h2 with
          | exc C fs ρ' h' => rw [ec] at hp2; exact hp2.elim
          | fail => rw [ec] at hp2; exact hp2.elim
          | ok b ρ4 h4 =>
            rw [ec] at hp2
            dsimp only at hp2
            intro G4 ι4 H4 b' hG4 hι4 S5 rb
            subst rb
            have again : ∀ {G5 ι5 h5 H5 ρ5 acc' xs'}, Hle G4 G5 → Ile ι4 ι5 → St K c (B.pin D (.lst xs')) G5 ι5 h5 H5 ρ5 σ3 → VRs K c G5 ι5 acc' xs' →
                PostN K c E B G2 ι2 σ (EM.bind (compLoop tg cond elt own (vs.drop (i + 1)) acc') (compEnd own) ρ5 h5) Q →
                ∃ G' ι' h' ρ' acc xs, Hle G1 G' ∧ Ile ι1 ι' ∧ St K c (B.pin D (.lst xs)) G' ι' h' H5 (wipeM ρ' own) (wipe σ own) ∧ VRs K c G' ι' acc xs ∧
                  PostN K c E B G' ι' σ (EM.bind (compLoop tg cond elt own (vs.drop (i + 1)) acc) (compEnd own) (wipeM ρ' own) h') Q := by
              intro G5 ι5 h5 H5 ρ5 acc' xs' a b S r p
              refine ⟨G5, ι5, h5, ρ5, acc', xs', ((hG2.trans hG3).trans hG4).trans a, (hι2.trans hι4).trans b, S.wiped own (by rw [wipe_idem, w3']), r, ?_⟩
              rw [compLoop_wiped]
              exact p.mono ((hG3.trans hG4).trans a) (hι4.trans b)
            cases b' with
            | false =>
              rw [if_neg Bool.false_ne_true] at hp2 ⊢
              exact again (Hle.refl _) (Ile.refl _) S5 (ra.mono (hG3.trans hG4) hι4) hp2
            | true =>
              rw [if_pos rfl] at hp2 ⊢
              refine he _ G4 ι4 h4 H4 ρ4 σ3 _ S5 ?_
              cases ee : elt ρ4 h4 with
              | exc C fs ρ' h' => rw [ee] at hp2; exact hp2.elim
              | fail => rw [ee] at hp2; exact hp2.elim
              | ok y ρ5 h5 =>
                rw [ee] at hp2
                dsimp only at hp2
                intro G5 ι5 H5 y' hG5 hι5 S6 ry
                obtain ⟨hD5, _, _⟩ := S6.pinFacts F
                have ra' := ra.mono ((hG3.trans hG4).trans hG5) (hι4.trans hι5)
                by_cases hz : acc.length < sizeLine
                · rw [if_pos hz] at hp2
                  exact ⟨xs, hD5, by rw [← ra.length]; exact hz, again hG5 hι5 (S6.repin F) (ra'.append (.cons ry .nil)) hp2⟩
                · rw [if_neg hz] at hp2
                  exact hp2.elim
      · have ei : i = vs.length := by omega
        subst ei
        refine .inl ⟨jst, ?_⟩
        rw [List.drop_length] at hp2
        have S3 := S2.wiped (σ' := σ) own (wipe_idem σ own).symm
        rw [wipeM_idem] at S3
        have hp3 : PostN K c E B G2 ι2 σ (.ok (Cell.lst acc) (wipeM (wipeM ρ2 own) own) h2) Q := hp2
        rw [wipeM_idem] at hp3
        exact hp3 G2 ι2 H2 D (.lst xs) (Hle.refl _) (Ile.refl _) F S3 ⟨xs, rfl, ra⟩
end
end Mir

set_option Elab.async false
set_option linter.all false
set_option maxRecDepth 100000
set_option maxHeartbeats 4000000
namespace Mir
open PySem PySem.Spec PyProof.Rows L2

/-! ### statements -/
abbrev SM := EM Fl
def PostS (K : PySem.W.Frag) (c : Ctx) (E : WX) (B : Bas) (G : Hp) (ι : List Addr) (r : RE Fl) (D : Ends) : Prop := match r with
  | .ok .next ρ' h' => ∀ G' ι' H' σ', Hle G G' → Ile ι ι' → St K c B G' ι' h' H' ρ' σ' → D.nx σ' H'
  | .ok (.ret v) ρ' h' => ∀ G' ι' H' σ' x, Hle G G' → Ile ι ι' → St K c B G' ι' h' H' ρ' σ' → VR K c G' ι' v x → D.rt x H'
  | .ok .brk ρ' h' => ∀ G' ι' H' σ', Hle G G' → Ile ι ι' → St K c B G' ι' h' H' ρ' σ' → D.bk σ' H'
  | .ok .cont ρ' h' => ∀ G' ι' H' σ', Hle G G' → Ile ι ι' → St K c B G' ι' h' H' ρ' σ' → D.ct σ' H'
  | .exc C fs ρ' h' => ∀ G' ι' H' σ' cls d, Hle G G' → Ile ι ι' → St K c B G' ι' h' H' ρ' σ' → XR K c G' ι' H' C fs cls d → E cls d σ' H'
  | .fail => False
def SimS (K : PySem.W.Frag) (c : Ctx) (E : WX) (ts : TS) (m : SM) : Prop :=
  ∀ B G ι h H ρ σ D, St K c B G ι h H ρ σ → PostS K c E B G ι (m ρ h) D → ts D σ H
section
variable {K : PySem.W.Frag} {c : Ctx} {B : Bas} {G G' : Hp} {ι ι' : List Addr} {h h' : MHp} {H H' : Hp} {ρ ρ' : MEnv} {σ σ' : L2.St} {E : WX} {Dd : Addr} {o o' : HO}
variable {α β : Type} {R : RelT α β}
theorem PostS.mono {r : RE Fl} {D : Ends} (hG : Hle G G') (hι : Ile ι ι') (p : PostS K c E B G ι r D) : PostS K c E B G' ι' r D := by
  cases r with
  | ok f ρ' h' =>
    cases f with
    | next => exact fun G2 ι2 H2 σ2 a b s => p G2 ι2 H2 σ2 (hG.trans a) (hι.trans b) s
    | ret v => exact fun G2 ι2 H2 σ2 x a b s r => p G2 ι2 H2 σ2 x (hG.trans a) (hι.trans b) s r
    | brk => exact fun G2 ι2 H2 σ2 a b s => p G2 ι2 H2 σ2 (hG.trans a) (hι.trans b) s
    | cont => exact fun G2 ι2 H2 σ2 a b s => p G2 ι2 H2 σ2 (hG.trans a) (hι.trans b) s
  | exc C fs ρ' h' => exact fun G2 ι2 H2 σ2 cls d a b s q => p G2 ι2 H2 σ2 cls d (hG.trans a) (hι.trans b) s q
  | fail => exact p
/-- an expression first -/
theorem Sim.bindS {te : L2.St → Hp → (β → Hp → Prop) → Prop} {m : EM α} {f : α → SM} {D : Ends} {k : β → Hp → Prop} (hm : Sim K c R E te m) (hs : St K c B G ι h H ρ σ)
    (hp : PostS K c E B G ι (EM.bind m f ρ h) D)
    (hk : ∀ G' ι' h' H' ρ' v x, Hle G G' → Ile ι ι' → St K c B G' ι' h' H' ρ' σ → R G' ι' v x → PostS K c E B G' ι' (f v ρ' h') D → k x H') : te σ H k := by
  refine hm B G ι h H ρ σ k hs ?_
  unfold EM.bind at hp
  cases e : m ρ h with
  | ok v ρ' h' =>
    rw [e] at hp
    exact fun G' ι' H' x a b s r => hk G' ι' h' H' ρ' v x a b s r (hp.mono a b)
  | exc C fs ρ' h' =>
    rw [e] at hp
    exact fun G' ι' H' cls d a b s r => hp G' ι' H' σ cls d a b s r
  | fail => rw [e] at hp; exact hp
def sSkip : SM := EM.pure .next
theorem ss_skip : SimS K c E tNext sSkip := fun B G ι h H ρ σ D hs hp => hp G ι H σ (Hle.refl _) (Ile.refl _) hs
def sSeq (a b : SM) : SM := fun ρ h => match a ρ h with
  | .ok .next ρ' h' => b ρ' h'
  | r => r
theorem ss_seq {t u : TS} {a b : SM} (ha : SimS K c E t a) (hb : SimS K c E u b) : SimS K c E (tSeq t u) (sSeq a b) := by
  intro B G ι h H ρ σ D hs hp
  refine ha B G ι h H ρ σ _ hs ?_
  unfold sSeq at hp
  cases e : a ρ h with
  | ok f ρ' h' =>
    rw [e] at hp
    cases f with
    | next => exact fun G' ι' H' σ' x y s => hb B G' ι' h' H' ρ' σ' D s (hp.mono x y)
    | ret v => exact hp
    | brk => exact hp
    | cont => exact hp
  | exc C fs ρ' h' => rw [e] at hp; exact hp
  | fail => rw [e] at hp; exact hp
def sBrk : SM := EM.pure .brk
def sCont : SM := EM.pure .cont
theorem ss_brk : SimS K c E tBreak sBrk := fun B G ι h H ρ σ D hs hp => hp G ι H σ (Hle.refl _) (Ile.refl _) hs
theorem ss_cont : SimS K c E tCont sCont := fun B G ι h H ρ σ D hs hp => hp G ι H σ (Hle.refl _) (Ile.refl _) hs
def sRet (m : EM Val) : SM := EM.bind m fun v => EM.pure (.ret v)
theorem ss_ret {te : TE} {m : EM Val} (hm : Sim K c (RV K c) E te m) : SimS K c E (tRet te) (sRet m) := by
  intro B G ι h H ρ σ D hs hp
  exact hm.bindS hs hp fun G' ι' h' H' ρ' v x a b s r p => p G' ι' H' σ x (Hle.refl _) (Ile.refl _) s r
def sRetN : SM := EM.pure (.ret .non)
theorem ss_retN : SimS K c E tRetN sRetN := fun B G ι h H ρ σ D hs hp => hp G ι H σ .non (Hle.refl _) (Ile.refl _) hs .non
def sDrop (m : EM Val) : SM := EM.bind m fun _ => EM.pure .next
theorem ss_drop {te : TE} {m : EM Val} (hm : Sim K c (RV K c) E te m) : SimS K c E (tDrop te) (sDrop m) := by
  intro B G ι h H ρ σ D hs hp
  exact hm.bindS hs hp fun G' ι' h' H' ρ' v x a b s r p => p G' ι' H' σ (Hle.refl _) (Ile.refl _) s
def sIf (t : EM Bool) (a b : SM) : SM := EM.bind t fun k => if k = true then a else b
theorem ss_if {tt : TT} {t : EM Bool} {ta tb : TS} {a b : SM} (ht : Sim K c RB E tt t) (ha : SimS K c E ta a) (hb : SimS K c E tb b) : SimS K c E (tIfS tt ta tb) (sIf t a b) := by
  intro B G ι h H ρ σ D hs hp
  refine ht.bindS hs hp fun G' ι' h' H' ρ' v x x1 x2 s r p => ?_
  subst r
  cases x with
  | true => exact ha B G' ι' h' H' ρ' σ D s p
  | false => exact hb B G' ι' h' H' ρ' σ D s p
def sSet (i : Nat) (m : EM Val) : SM := EM.bind m fun v ρ h => .ok .next (ρ.set i (.val v)) h
theorem ss_set {te : TE} {m : EM Val} (i : Nat) (hm : Sim K c (RV K c) E te m) : SimS K c E (tAsg te (gName i)) (sSet i m) := by
  intro B G ι h H ρ σ D hs hp
  exact hm.bindS hs hp fun G' ι' h' H' ρ' v x a b s r p => p G' ι' H' _ (Hle.refl _) (Ile.refl _) (s.set r)
/-- a target of any form -/
def sAsg (tg : TgM) (m : EM Val) : SM := EM.bind m fun v ρ h => match tg v ρ with
  | some ρ' => .ok .next ρ' h
  | none => .fail
theorem ss_asg {te : TE} {m : EM Val} {is : List Nat} {g : TG} {tg : TgM} (hm : Sim K c (RV K c) E te m) (hg : SimG K c is g tg) : SimS K c E (tAsg te g) (sAsg tg m) := by
  intro B G ι h H ρ σ D hs hp
  refine hm.bindS hs hp fun G' ι' h' H' ρ' v x a b s r p => ?_
  cases e : tg v ρ' with
  | none => rw [e] at p; exact p.elim
  | some ρ2 =>
    rw [e] at p
    exact hg B G' ι' h' H' ρ' σ v x ρ2 _ s r e fun σ2 s2 _ => p G' ι' H' σ2 (Hle.refl _) (Ile.refl _) s2
/-- a local list of its own -/
def sOwn (i : Nat) (m : EM Cell) : SM := EM.bind m fun cl ρ h => .ok .next (ρ.set i (.own cl)) h
theorem ss_own {te : TE} {m : EM Cell} (i : Nat) (hm : SimN K c E te m) : SimS K c E (tAsg te (gName i)) (sOwn i m) := by
  intro B G ι h H ρ σ D hs hp
  refine hm B G ι h H ρ σ _ hs ?_
  unfold sOwn EM.bind at hp
  cases e : m ρ h with
  | ok cl ρ' h' =>
    rw [e] at hp
    intro G' ι' H' p o hG hι F S r
    exact hp G' ι' H' _ hG hι (S.own F r)
  | exc C fs ρ' h' => rw [e] at hp; exact fun G' ι' H' cls d a b s r => hp G' ι' H' σ cls d a b s r
  | fail => rw [e] at hp; exact hp
/-- the slot's list becomes a value that never changes again -/
def sFreeze (i : Nat) (s : SM) : SM := fun ρ h => match ρ[i]? with
  | some (.own cl) => s (ρ.set i (.val cl.val)) h
  | _ => .fail
theorem St.freeze (S : St K c B G ι h H ρ σ) {i : Nat} {cl : Cell} (hi : ρ[i]? = some (.own cl)) : ∃ G', Hle G G' ∧ St K c B G' ι h H (ρ.set i (.val cl.val)) σ := by
  obtain ⟨x, e1, p, rfl, gp, np, bp, r⟩ := S.env i _ hi
  obtain ⟨o, ho, ro⟩ := r.co
  have hle : Hle G (upd G p o) := Hle.new gp
  have hl : i < ρ.length := (List.getElem?_eq_some_iff.mp hi).1
  refine ⟨upd G p o, hle, ⟨fun q u e => ?_, S.st.len, S.st.nd, fun q hq => ?_, fun j q cl' h1 h2 => (S.st.cell j q cl' h1 h2).mono hle (Ile.refl _) fun _ e => e⟩, fun j sv hj => ?_, fun j k c1 c2 q h1 h2 h3 h4 => ?_, S.b1, S.b2, fun q u e => ?_, S.b4, S.b5.trans hle⟩
  · by_cases z : q = p
    · subst z; rw [upd_same] at e; rw [ho]; exact e
    · rw [upd_ne z] at e; exact S.st.le q u e
  · rw [upd_ne (fun z : q = p => np (by rw [← z]; exact hq))]; exact S.st.out q hq
  · by_cases z : i = j
    · subst z
      rw [List.getElem?_set_self hl] at hj
      cases hj
      exact ⟨_, e1, .ref p, rfl, CO.val upd_same (ro.mono hle (Ile.refl _))⟩
    · rw [List.getElem?_set_ne z] at hj
      obtain ⟨x, e2, r2⟩ := S.env j sv hj
      refine ⟨x, e2, ?_⟩
      cases sv with
      | un => trivial
      | val v => obtain ⟨y, e, q⟩ := r2; exact ⟨y, e, q.mono hle (Ile.refl _)⟩
      | xv C fs => obtain ⟨a, cls, d, e1x, e2x, q⟩ := r2; exact ⟨a, cls, d, e1x, e2x, q.mono hle (Ile.refl _)⟩
      | own cl2 =>
        obtain ⟨q, rfl, g, n, b, r3⟩ := r2
        have nq : q ≠ p := fun zz => by
          subst zz
          exact z (S.dis i j _ _ q hi hj e1 e2)
        exact ⟨q, rfl, by rw [upd_ne nq]; exact g, n, b, r3.mono hle (Ile.refl _) fun _ e => e⟩
  · have nj : i ≠ j := fun z => by subst z; rw [List.getElem?_set_self hl] at h1; cases h1
    have nk : i ≠ k := fun z => by subst z; rw [List.getElem?_set_self hl] at h2; cases h2
    rw [List.getElem?_set_ne nj] at h1
    rw [List.getElem?_set_ne nk] at h2
    exact S.dis j k c1 c2 q h1 h2 h3 h4
  · by_cases z : q = p
    · subst z; exact .inr bp
    · rw [upd_ne z] at e; exact S.b3 q u e
theorem ss_freeze {t : TS} {m : SM} (i : Nat) (hm : SimS K c E t m) : SimS K c E t (sFreeze i m) := by
  intro B G ι h H ρ σ D hs hp
  unfold sFreeze at hp
  split at hp
  · rename_i cl e
    obtain ⟨G', hG, S'⟩ := hs.freeze e
    exact hm B G' ι h H _ σ D S' (hp.mono hG (Ile.refl _))
  · exact hp.elim

/-! ### loops -/
def forLoop (tg : TgM) (body : SM) : List Val → SM
  | [] => EM.pure .next
  | v :: r => fun ρ h => match tg v ρ with
    | none => .fail
    | some ρ1 => match body ρ1 h with
      | .ok .next ρ' h' => forLoop tg body r ρ' h'
      | .ok .cont ρ' h' => forLoop tg body r ρ' h'
      | .ok .brk ρ' h' => .ok .next ρ' h'
      | x => x
def sFor (it : EM (List Val)) (tg : TgM) (body : SM) : SM := EM.bind it fun vs => forLoop tg body vs
theorem ss_for {wi : TI} {g : TG} {tb : TS} {it : EM (List Val)} {tg : TgM} {body : SM} {is : List Nat} (hi : Sim K c (RJ K c) E wi it) (hg : SimG K c is g tg) (hb : SimS K c E tb body) : SimS K c E (tFor wi g tb) (sFor it tg body) := by
  intro B G ι h H ρ σ D hs hp
  refine hi.bindS hs hp fun G1 ι1 h1 H1 ρ1 vs J hG1 hι1 S1 hJ hp1 => ?_
  refine ⟨fun i m σ' H' => m = vs.length - i ∧ i ≤ vs.length ∧ ∃ G' ι' h' ρ', Hle G1 G' ∧ Ile ι1 ι' ∧ St K c B G' ι' h' H' ρ' σ' ∧ PostS K c E B G' ι' (forLoop tg body (vs.drop i) ρ' h') D, ?_, ?_⟩
  · exact ⟨vs.length, by simp, Nat.zero_le _, G1, ι1, h1, ρ1, Hle.refl _, Ile.refl _, S1, hp1⟩
  · rintro i m σ2 H2 ⟨rfl, hi, G2, ι2, h2, ρ2, hG2, hι2, S2, hp2⟩
    obtain ⟨jst, jgo⟩ := hJ B G2 ι2 h2 H2 ρ2 σ2 hG2 hι2 S2
    by_cases hlt : i < vs.length
    · have hv : vs[i]? = some vs[i] := List.getElem?_eq_getElem hlt
      obtain ⟨go, yl⟩ := jgo i _ hv
      have hdrop : vs.drop i = vs[i] :: vs.drop (i + 1) := List.drop_eq_getElem_cons hlt
      rw [hdrop] at hp2
      unfold forLoop at hp2
      refine .inr ⟨go, _, fun σ' H' hN => ⟨vs.length - (i + 1), by omega, rfl, hlt, hN⟩, fun x H3 hy => ?_⟩
      obtain ⟨G3, hG3, S3, rx⟩ := yl x H3 hy
      cases et : tg vs[i] ρ2 with
      | none => rw [et] at hp2; exact hp2.elim
      | some ρ3 =>
        rw [et] at hp2
        dsimp only at hp2
        refine hg B G3 ι2 h2 H3 ρ2 σ2 _ x ρ3 _ S3 rx et fun σ3 S4 _ => ?_
        refine hb B G3 ι2 h2 H3 ρ3 σ3 _ S4 ?_
        cases eb : body ρ3 h2 with
        | ok f ρ4 h4 =>
          rw [eb] at hp2
          cases f with
          | next => exact fun G' ι' H' σ' a b s => ⟨G', ι', h4, ρ4, (hG2.trans hG3).trans a, hι2.trans b, s, PostS.mono (hG3.trans a) b hp2⟩
          | ret v => exact PostS.mono (D := D) (r := .ok (.ret v) ρ4 h4) hG3 (Ile.refl _) hp2
          | brk => exact fun G' ι' H' σ' a b s => hp2 G' ι' H' σ' (hG3.trans a) b s
          | cont => exact fun G' ι' H' σ' a b s => ⟨G', ι', h4, ρ4, (hG2.trans hG3).trans a, hι2.trans b, s, PostS.mono (hG3.trans a) b hp2⟩
        | exc C fs ρ4 h4 => rw [eb] at hp2; exact PostS.mono (D := D) (r := .exc C fs ρ4 h4) hG3 (Ile.refl _) hp2
        | fail => rw [eb] at hp2; exact hp2.elim
    · have ei : i = vs.length := by omega
      subst ei
      rw [List.drop_length] at hp2
      exact .inl ⟨jst, hp2 G2 ι2 H2 σ2 (Hle.refl _) (Ile.refl _) S2⟩
def whileLoop (t : EM Bool) (body : SM) : Nat → SM
  | 0 => fun _ _ => .fail
  | n + 1 => EM.bind t fun k => if k = true then fun ρ h => match body ρ h with
      | .ok .next ρ' h' => whileLoop t body n ρ' h'
      | .ok .cont ρ' h' => whileLoop t body n ρ' h'
      | .ok .brk ρ' h' => .ok .next ρ' h'
      | x => x
    else EM.pure .next
theorem ss_while {tt : TT} {tb : TS} {t : EM Bool} {body : SM} (n : Nat) (ht : Sim K c RB E tt t) (hb : SimS K c E tb body) : SimS K c E (tWhile tt tb) (whileLoop t body n) := by
  intro B G ι h H ρ σ D hs hp
  refine ⟨fun m σ' H' => ∃ G' ι' h' ρ', St K c B G' ι' h' H' ρ' σ' ∧ PostS K c E B G' ι' (whileLoop t body m ρ' h') D, ⟨n, G, ι, h, ρ, hs, hp⟩, ?_⟩
  rintro m σ2 H2 ⟨G2, ι2, h2, ρ2, S2, hp2⟩
  cases m with
  | zero => exact hp2.elim
  | succ m =>
    unfold whileLoop at hp2
    refine ht.bindS S2 hp2 fun G3 ι3 h3 H3 ρ3 v x a1 b1 S3 r hp3 => ?_
    subst r
    cases x with
    | false =>
      rw [if_neg Bool.false_ne_true] at hp3 ⊢
      exact hp3 G3 ι3 H3 σ2 (Hle.refl _) (Ile.refl _) S3
    | true =>
      rw [if_pos rfl] at hp3 ⊢
      refine ⟨_, fun σ' H' hN => ⟨m, Nat.lt_succ_self m, hN⟩, ?_⟩
      refine hb B G3 ι3 h3 H3 ρ3 σ2 _ S3 ?_
      cases eb : body ρ3 h3 with
      | ok f ρ4 h4 =>
        rw [eb] at hp3
        cases f with
        | next => exact fun G' ι' H' σ' a b s => ⟨G', ι', h4, ρ4, s, PostS.mono a b hp3⟩
        | ret v => exact hp3
        | brk => exact hp3
        | cont => exact fun G' ι' H' σ' a b s => ⟨G', ι', h4, ρ4, s, PostS.mono a b hp3⟩
      | exc C fs ρ4 h4 => rw [eb] at hp3; exact hp3
      | fail => rw [eb] at hp3; exact hp3.elim

/-! ### what a slot's container holds now -/
def cont (ρ : MEnv) (h : MHp) (i : Nat) : Option Val := match ρ[i]? with
  | some (.val (.ref a)) => (h[a]?).map Cell.val
  | some (.val v) => some v
  | some (.own cl) => some cl.val
  | _ => none
theorem CR.valH {cl : Cell} {p : Addr} (r : CR K c G ι H p cl) (hc : ∀ C fs, cl ≠ .ins C fs) : VH K c G ι H cl.val (.ref p) := by
  cases cl with
  | lst vs => obtain ⟨xs, e, q⟩ := r; exact ⟨p, xs, rfl, e, q⟩
  | dct vs => obtain ⟨xs, e, q⟩ := r; exact ⟨p, xs, rfl, e, q⟩
  | ins C fs => exact (hc C fs rfl).elim
def isCont : Val → Bool
  | .obj _ _ => false
  | _ => true
theorem St.cont (S : St K c B G ι h H ρ σ) {i : Nat} {v : Val} (e : cont ρ h i = some v) (hv : isCont v = true) : ∃ x, σ[i]? = some (some x) ∧ VH K c G ι H v x := by
  unfold Mir.cont at e
  split at e
  · rename_i a ea
    simp only [Option.map_eq_some_iff] at e
    obtain ⟨cl, hcl, rfl⟩ := e
    obtain ⟨x, e1, y, rfl, r⟩ := S.env i _ ea
    obtain ⟨p, rfl, hp⟩ := r.refE
    exact ⟨_, e1, (S.st.cell a p cl hp hcl).valH fun C fs z => by subst z; cases hv⟩
  · rename_i v' _ ea
    cases e
    obtain ⟨x, e1, y, rfl, r⟩ := S.env i _ ea
    exact ⟨y, e1, r.toH S.st.le⟩
  · rename_i cl ea
    cases e
    obtain ⟨x, e1, p, rfl, _, _, _, r⟩ := S.env i _ ea
    exact ⟨_, e1, r.valH fun C fs z => by subst z; cases hv⟩
  · cases e
def getCont (i : Nat) : EM Val := fun ρ h => match cont ρ h i with
  | some v => if isCont v = true then .ok v ρ h else .fail
  | none => .fail
theorem getCont_ok {i : Nat} {v : Val} {ρ' : MEnv} {h' : MHp} (e : getCont i ρ h = .ok v ρ' h') : ρ' = ρ ∧ h' = h ∧ cont ρ h i = some v ∧ isCont v = true := by
  unfold getCont at e
  split at e
  · rename_i v' e1
    split at e
    · rename_i hz; cases e; exact ⟨rfl, rfl, e1, hz⟩
    · cases e
  · cases e
theorem Post.getCont {i : Nat} {f : Val → EM α} {Q : β → Hp → Prop} (p : Post K c R E B G ι σ (EM.bind (getCont i) f ρ h) Q) : ∃ v, cont ρ h i = some v ∧ isCont v = true ∧ Post K c R E B G ι σ (f v ρ h) Q := by
  unfold EM.bind Mir.getCont at p
  cases e : Mir.cont ρ h i with
  | none => rw [e] at p; exact p.elim
  | some v =>
    rw [e] at p
    by_cases hz : isCont v = true
    · dsimp only at p
      rw [if_pos hz] at p
      exact ⟨v, rfl, hz, p⟩
    · dsimp only at p
      rw [if_neg hz] at p
      exact p.elim
def has (i : Nat) : EM Unit := fun ρ h => match ρ[i]? with
  | some (.val _) => .ok () ρ h
  | some (.own _) => .ok () ρ h
  | _ => .fail
theorem St.has (S : St K c B G ι h H ρ σ) {i : Nat} {Q : β → Hp → Prop} {f : Unit → EM α} (p : Post K c R E B G ι σ (EM.bind (has i) f ρ h) Q) : (∃ x, σ[i]? = some (some x)) ∧ Post K c R E B G ι σ (f () ρ h) Q := by
  unfold EM.bind Mir.has at p
  split at p
  · rename_i e
    split at e
    · rename_i v ev
      cases e
      obtain ⟨x, e1, y, rfl, _⟩ := S.env i _ ev
      exact ⟨⟨y, e1⟩, p⟩
    · rename_i v ev
      cases e
      obtain ⟨x, e1, y, rfl, _⟩ := S.env i _ ev
      exact ⟨⟨_, e1⟩, p⟩
    · cases e
  · rename_i e
    split at e <;> cases e
  · exact p.elim
/-- name[e], the container as it stands behind e -/
def mIxB (f : Val → Val → Option Val) (i : Nat) (b : EM Val) : EM Val := EM.bind (has i) fun _ => EM.bind b fun y => EM.bind (getCont i) fun x => EM.lift (f x y)
theorem sim_opB {r : R2} {f : Val → Val → Option Val} {tb : TE} {mb : EM Val} {i : Nat} (hr : SimR2 K c r f) (hb : Sim K c (RV K c) E tb mb) : Sim K c (RV K c) E (tOp r (tVar i) tb) (mIxB f i mb) := by
  intro B G ι h H ρ σ Q hs hp
  obtain ⟨⟨x0, hx0⟩, hp⟩ := hs.has hp
  refine ⟨x0, hx0, ?_⟩
  refine hb.bind hs hp fun G2 ι2 h2 H2 ρ2 w y a2 b2 s2 r2 p2 => ?_
  obtain ⟨v, ec, hv, p3⟩ := p2.getCont
  obtain ⟨x, ex, rx⟩ := s2.cont ec hv
  rw [hx0] at ex; cases ex
  obtain ⟨z, e, p4⟩ := p3.lift
  exact hr B G2 ι2 h2 H2 ρ2 σ v w x0 y z s2 rx (r2.toH s2.st.le) e Q fun G' H' u a3 s3 r3 => p4 G' ι2 H' u a3 (Ile.refl _) s3 r3
/-- e op name -/
def mOpB (f : Val → Val → Option Val) (a : EM Val) (i : Nat) : EM Val := EM.bind a fun x => EM.bind (getCont i) fun y => EM.lift (f x y)
theorem sim_opB2 {r : R2} {f : Val → Val → Option Val} {ta : TE} {ma : EM Val} {i : Nat} (hr : SimR2 K c r f) (ha : Sim K c (RV K c) E ta ma) : Sim K c (RV K c) E (tOp r ta (tVar i)) (mOpB f ma i) := by
  intro B G ι h H ρ σ Q hs hp
  refine ha.bind hs hp fun G2 ι2 h2 H2 ρ2 w y a2 b2 s2 r2 p2 => ?_
  obtain ⟨v, ec, hv, p3⟩ := p2.getCont
  obtain ⟨x, ex, rx⟩ := s2.cont ec hv
  obtain ⟨z, e, p4⟩ := p3.lift
  exact ⟨x, ex, hr B G2 ι2 h2 H2 ρ2 σ w v y x z s2 (r2.toH s2.st.le) rx e Q fun G' H' u a3 s3 r3 => p4 G' ι2 H' u a3 (Ile.refl _) s3 r3⟩
/-- f(name) -/
def mCB1 (f : List Val → Option Val) (i : Nat) : EM Val := EM.bind (getCont i) fun x => EM.lift (f [x])
theorem sim_cb1 {r : List V → Hp → VK → Prop} {f : List Val → Option Val} {i : Nat} (hf : SimRC K c r f) : Sim K c (RV K c) E (tCB r (tCons (tVar i) tNil)) (mCB1 f i) := by
  intro B G ι h H ρ σ Q hs hp
  obtain ⟨v, ec, hv, p3⟩ := hp.getCont
  obtain ⟨x, ex, rx⟩ := hs.cont ec hv
  obtain ⟨z, e, p4⟩ := p3.lift
  exact ⟨x, ex, hf B G ι h H ρ σ [v] [x] z hs (.cons rx .nil) e Q fun G' H' u a3 s3 r3 => p4 G' ι H' u a3 (Ile.refl _) s3 r3⟩

/-! ### a container changes -/
/-- the slot's own object, or the cell to which it refers -/
def putCont (i : Nat) (cl : Cell) : EM Unit := fun ρ h => match ρ[i]? with
  | some (.val (.ref a)) => if a < h.length then .ok () ρ (h.set a cl) else .fail
  | some (.own _) => .ok () (ρ.set i (.own cl)) h
  | _ => .fail
theorem St.put (S : St K c B G ι h H ρ σ) {i : Nat} {cl : Cell} {ρ' : MEnv} {h' : MHp} (e : putCont i cl ρ h = .ok () ρ' h') :
    ∃ p o, σ[i]? = some (some (.ref p)) ∧ H p = some o ∧ (∀ v, Mir.cont ρ h i = some v → VH K c G ι H v (.ref p) ∨ isCont v = false) ∧ ∀ o', CO K c G ι cl o' → St K c B G ι h' (upd H p o') ρ' σ := by
  unfold putCont at e
  split at e
  · rename_i a ea
    split at e
    · rename_i hlt
      cases e
      obtain ⟨x, e1, y, rfl, r⟩ := S.env i _ ea
      obtain ⟨p, rfl, hp⟩ := r.refE
      have hcl : h[a]? = some h[a] := List.getElem?_eq_getElem hlt
      have r0 := S.st.cell a p _ hp hcl
      obtain ⟨o, ho⟩ := r0.some
      have gp : G p = none := S.st.out p (List.mem_of_getElem? hp)
      refine ⟨p, o, e1, ho, fun v hv => ?_, fun o' ro => ?_⟩
      · unfold Mir.cont at hv
        rw [ea] at hv
        dsimp only at hv
        rw [hcl] at hv
        cases hv
        cases ec : h[a] with
        | ins C fs => exact .inr rfl
        | lst vs => rw [ec] at r0; obtain ⟨xs, e, q⟩ := r0; exact .inl ⟨p, xs, rfl, e, q⟩
        | dct vs => rw [ec] at r0; obtain ⟨xs, e, q⟩ := r0; exact .inl ⟨p, xs, rfl, e, q⟩
      · have keep : ∀ q u, q ≠ p → H q = some u → upd H p o' q = some u := fun q u z e => by rw [upd_ne z]; exact e
        refine ⟨⟨fun q u e => keep q u (ne_of_none e gp) (S.st.le q u e), by simp [S.st.len], S.st.nd, S.st.out, fun j q cl' h1 h2 => ?_⟩, fun j sv hj => ?_, S.dis, fun q u e n => ?_, S.b2, S.b3, S.b4, S.b5⟩
        · by_cases z : a = j
          · subst z
            rw [List.getElem?_set_self hlt] at h2
            cases h2
            rw [hp] at h1; cases h1
            exact ro.cr upd_same
          · rw [List.getElem?_set_ne z] at h2
            have nq : q ≠ p := fun zz => by
              subst zz
              have hj1 := (List.getElem?_eq_some_iff.mp h1)
              have ha1 := (List.getElem?_eq_some_iff.mp hp)
              obtain ⟨l1, w1⟩ := hj1
              obtain ⟨l2, w2⟩ := ha1
              exact z ((List.getElem_inj S.st.nd).mp (w2.trans w1.symm))
            exact (S.st.cell j q cl' h1 h2).mono (Hle.refl _) (Ile.refl _) fun u e => keep q u nq e
        · obtain ⟨x, e2, r2⟩ := S.env j sv hj
          refine ⟨x, e2, ?_⟩
          cases sv with
          | un => trivial
          | val v => exact r2
          | xv C fs => exact r2
          | own cl2 =>
            obtain ⟨q, rfl, g, n, b, r3⟩ := r2
            have nq : q ≠ p := fun zz => n (by rw [zz]; exact List.mem_of_getElem? hp)
            exact ⟨q, rfl, g, n, b, r3.mono (Hle.refl _) (Ile.refl _) fun u e => keep q u nq e⟩
        · have nq : q ≠ p := fun zz => by
            subst zz
            rcases S.b2 q (List.mem_of_getElem? hp) with w | w
            · exact n w
            · rw [e] at w; cases w
          exact keep q u nq (S.b1 q u e n)
    · cases e
  · rename_i cl0 ea
    cases e
    obtain ⟨x, e1, p, rfl, gp, np, bp, r0⟩ := S.env i _ ea
    obtain ⟨o, ho⟩ := r0.some
    have hl : i < ρ.length := (List.getElem?_eq_some_iff.mp ea).1
    refine ⟨p, o, e1, ho, fun v hv => ?_, fun o' ro => ?_⟩
    · unfold Mir.cont at hv
      rw [ea] at hv
      cases hv
      cases cl0 with
      | ins C fs => exact .inr rfl
      | lst vs => obtain ⟨xs, e, q⟩ := r0; exact .inl ⟨p, xs, rfl, e, q⟩
      | dct vs => obtain ⟨xs, e, q⟩ := r0; exact .inl ⟨p, xs, rfl, e, q⟩
    · have keep : ∀ q u, q ≠ p → H q = some u → upd H p o' q = some u := fun q u z e => by rw [upd_ne z]; exact e
      refine ⟨⟨fun q u e => keep q u (ne_of_none e gp) (S.st.le q u e), S.st.len, S.st.nd, S.st.out, fun j q cl' h1 h2 => ?_⟩, fun j sv hj => ?_, fun j k c1 c2 q h1 h2 h3 h4 => ?_, fun q u e n => ?_, S.b2, S.b3, S.b4, S.b5⟩
      · have nq : q ≠ p := fun zz => np (by rw [← zz]; exact List.mem_of_getElem? h1)
        exact (S.st.cell j q cl' h1 h2).mono (Hle.refl _) (Ile.refl _) fun u e => keep q u nq e
      · by_cases z : i = j
        · subst z
          rw [List.getElem?_set_self hl] at hj
          cases hj
          exact ⟨_, e1, p, rfl, gp, np, bp, ro.cr upd_same⟩
        · rw [List.getElem?_set_ne z] at hj
          obtain ⟨x, e2, r2⟩ := S.env j sv hj
          refine ⟨x, e2, ?_⟩
          cases sv with
          | un => trivial
          | val v => exact r2
          | xv C fs => exact r2
          | own cl2 =>
            obtain ⟨q, rfl, g, n, b, r3⟩ := r2
            have nq : q ≠ p := fun zz => by
              subst zz
              exact z (S.dis i j _ _ q ea hj e1 e2)
            exact ⟨q, rfl, g, n, b, r3.mono (Hle.refl _) (Ile.refl _) fun u e => keep q u nq e⟩
      · by_cases zj : i = j
        · subst zj
          rw [e1] at h3; cases h3
          by_cases zk : i = k
          · exact zk
          · rw [List.getElem?_set_ne zk] at h2
            exact S.dis i k _ _ p ea h2 e1 h4
        · rw [List.getElem?_set_ne zj] at h1
          by_cases zk : i = k
          · subst zk
            rw [e1] at h4; cases h4
            exact S.dis j i _ _ p h1 ea h3 e1
          · rw [List.getElem?_set_ne zk] at h2
            exact S.dis j k c1 c2 q h1 h2 h3 h4
      · exact keep q u (fun zz => by subst zz; rw [bp] at e; cases e) (S.b1 q u e n)
  · cases e
/-- name[e] = v -/
def sSetItem (i : Nat) (me mv : EM Val) : SM := EM.bind mv fun v => EM.bind (has i) fun _ => EM.bind me fun k => EM.bind (getCont i) fun x => match x, k with
  | .lst vs, .int k => (match ixN vs.length k with
    | some j => EM.bind (putCont i (.lst (vs.set j v))) fun _ => EM.pure .next
    | none => fun _ _ => .fail)
  | _, _ => fun _ _ => .fail
theorem PostS.getCont {i : Nat} {f : Val → SM} {D : Ends} (p : PostS K c E B G ι (EM.bind (getCont i) f ρ h) D) : ∃ v, Mir.cont ρ h i = some v ∧ isCont v = true ∧ PostS K c E B G ι (f v ρ h) D := by
  unfold EM.bind Mir.getCont at p
  cases e : Mir.cont ρ h i with
  | none => rw [e] at p; exact p.elim
  | some v =>
    rw [e] at p
    by_cases hz : isCont v = true
    · dsimp only at p
      rw [if_pos hz] at p
      exact ⟨v, rfl, hz, p⟩
    · dsimp only at p
      rw [if_neg hz] at p
      exact p.elim
theorem St.hasS (S : St K c B G ι h H ρ σ) {i : Nat} {D : Ends} {f : Unit → SM} (p : PostS K c E B G ι (EM.bind (Mir.has i) f ρ h) D) : (∃ x, σ[i]? = some (some x)) ∧ PostS K c E B G ι (f () ρ h) D := by
  unfold EM.bind Mir.has at p
  split at p
  · rename_i e
    split at e
    · rename_i v ev
      cases e
      obtain ⟨x, e1, y, rfl, _⟩ := S.env i _ ev
      exact ⟨⟨y, e1⟩, p⟩
    · rename_i v ev
      cases e
      obtain ⟨x, e1, y, rfl, _⟩ := S.env i _ ev
      exact ⟨⟨_, e1⟩, p⟩
    · cases e
  · rename_i e
    split at e <;> cases e
  · exact p.elim
theorem PostS.put {i : Nat} {cl : Cell} {f : Unit → SM} {D : Ends} (p : PostS K c E B G ι (EM.bind (putCont i cl) f ρ h) D) : ∃ ρ' h', putCont i cl ρ h = .ok () ρ' h' ∧ PostS K c E B G ι (f () ρ' h') D := by
  unfold EM.bind at p
  cases e : putCont i cl ρ h with
  | ok u ρ' h' => rw [e] at p; exact ⟨ρ', h', rfl, p⟩
  | exc C fs ρ' h' =>
    unfold putCont at e
    split at e
    · split at e <;> cases e
    · cases e
    · cases e
  | fail => rw [e] at p; exact p.elim
theorem ss_setItem {te tv : TE} {me mv : EM Val} {i : Nat} (hv : Sim K c (RV K c) E tv mv) (he : Sim K c (RV K c) E te me) : SimS K c E (tAsg tv (gSub (tVar i) te rSetL)) (sSetItem i me mv) := by
  intro B G ι h H ρ σ D hs hp
  refine hv.bindS hs hp fun G1 ι1 h1 H1 ρ1 v x a1 b1 s1 r1 p1 => ?_
  obtain ⟨⟨x0, hx0⟩, p1⟩ := s1.hasS p1
  refine ⟨x0, hx0, ?_⟩
  refine he.bindS s1 p1 fun G2 ι2 h2 H2 ρ2 k y a2 b2 s2 r2 p2 => ?_
  obtain ⟨cv, ec, hcv, p3⟩ := p2.getCont
  split at p3
  · rename_i vs k
    cases ej : ixN vs.length k with
    | none => rw [ej] at p3; exact p3.elim
    | some j =>
      rw [ej] at p3
      obtain ⟨ρ', h', ep, p4⟩ := p3.put
      obtain ⟨p, o, e1, ho, hc, put⟩ := s2.put ep
      rw [hx0] at e1; cases e1
      rcases hc _ ec with hc | hc
      · obtain ⟨p', xs, e3, e4, rs⟩ := hc
        cases e3
        cases r2
        refine ⟨p, xs, k, j, rfl, rfl, e4, by rw [← rs.length]; exact ej, ?_⟩
        exact p4 G2 ι2 _ σ (Hle.refl _) (Ile.refl _) (put _ ⟨xs.set j x, rfl, rs.set (r1.mono a2 b2) j⟩)
      · cases hc
  · exact p3.elim
/-- name.append(e), as a statement -/
def sAppend (i : Nat) (mv : EM Val) : SM := EM.bind (has i) fun _ => EM.bind mv fun v => EM.bind (getCont i) fun x => match x with
  | .lst vs => if vs.length < sizeLine then EM.bind (putCont i (.lst (vs ++ [v]))) fun _ => EM.pure .next else fun _ _ => .fail
  | _ => fun _ _ => .fail

/-! ### a def -/
def mFun (np n : Nat) (body : SM) : List Val → MHp → RE Val := fun args h => if args.length = np then
    match body (args.map SV.val ++ List.replicate (n - np) .un) h with
    | .ok (.ret v) _ h' => .ok v [] h'
    | .ok .next _ h' => .ok .non [] h'
    | .exc C fs _ h' => .exc C fs [] h'
    | _ => .fail
  else .fail
theorem mFun_len {np n : Nat} {body : SM} (vs : List Val) (h : MHp) (hl : vs.length ≠ np) : mFun np n body vs h = .fail := by
  unfold mFun; rw [if_neg hl]
theorem St.start {vs : List Val} {xs : List V} {N : List Str} (S : Stc K c G ι h H) (r : VRs K c G ι vs xs) : St K c ⟨G, ι, H⟩ G ι h H (vs.map SV.val ++ List.replicate (N.length - vs.length) .un) (L2.start N xs) := by
  have hl := r.length
  have noOwn : ∀ (i : Nat) cl, (vs.map SV.val ++ List.replicate (N.length - vs.length) SV.un)[i]? ≠ some (.own cl) := fun i cl e => by
    rw [List.getElem?_append] at e
    split at e
    · rw [List.getElem?_map] at e
      cases q : vs[i]? with
      | none => rw [q] at e; cases e
      | some v => rw [q] at e; cases e
    · rw [List.getElem?_replicate] at e
      split at e
      · cases e
      · cases e
  refine ⟨S, fun i sv hi => ?_, fun i j c1 c2 p h1 => (noOwn i c1 h1).elim, fun p o e _ => e, fun q hq => .inl hq, fun p o e => .inl e, Ile.refl _, Hle.refl _⟩
  unfold L2.start
  rw [List.getElem?_append] at hi ⊢
  simp only [List.length_map] at hi ⊢
  rw [← hl]
  split at hi
  · rename_i hlt
    rw [if_pos hlt]
    rw [List.getElem?_map, Option.map_eq_some_iff] at hi
    obtain ⟨v, hv, rfl⟩ := hi
    obtain ⟨x, hx, rx⟩ := r.get hv
    exact ⟨some x, by rw [List.getElem?_map, hx]; rfl, x, rfl, rx⟩
  · rename_i hlt
    rw [if_neg hlt]
    rw [List.getElem?_replicate] at hi ⊢
    split at hi
    · rename_i h2
      cases hi
      rw [if_pos h2]
      exact ⟨none, rfl, trivial⟩
    · cases hi
end

section
variable {P : Program} {w : World} {K : PySem.W.Frag} {mg : Str → Option Value} {base : Heap} {c : Ctx}
structure PSsm (X : Cx) (c : Ctx) (E : WX) (st : List Stmt) (m : SM) : Prop where
  ex : ∃ te, PSs X st te ∧ SimS X.K c E te m
structure PSm (X : Cx) (c : Ctx) (E : WX) (st : Stmt) (m : SM) : Prop where
  ex : ∃ te, PS X st te ∧ SimS X.K c E te m
/-- what a body's context gives -/
structure Bd (X : Cx) (K : PySem.W.Frag) (mg : Str → Option Value) (E : WX) (N : List Str) (sc : Scope) (k : Nat) (P : Program) (w : World) (base : Heap) : Prop where
  room : Room k X.A
  takes : Takes X E
/-- THE RULE for a def -/
theorem fn_m {x qual : Str} {st : Stmt} {f : Addr} {fd : FuncData} {N ps : List Str} {k : Nat} {body : SM} (F : Fun K x qual st f fd) (S : FnScope N ps (defScope st)) (hN : ps.length ≤ N.length)
    (hbody : ∀ (cdv : Value) (A : Around) (outer : List Env) (s : Shared) (H : Hp) (E : XK), Room k (A.deeper (envOfC qual (defScope st) s.heap.objs.size f cdv)) →
      PSsm (cxOf (L2.CX P w) P w K mg base N qual (defScope st) f cdv A outer s H E) c (fun cls d _ H => E cls d H) (defBody st) body) :
    FnOk P w K mg base (L2.CX P w) (k + 1) f fd ps (spM K c ps.length (mFun ps.length N.length body)) := by
  refine F.okX S (fun vs H Q E h => ?_) (fun cdv A outer s H vs Q E hr h => ?_)
  · obtain ⟨G, ι, h, avs, hl, _, r, _⟩ := h
    rw [← r.length]; exact hl
  · obtain ⟨G, ι, h, avs, hl, S0, r, p⟩ := h
    obtain ⟨t, hps, hsim⟩ := (hbody cdv A outer s H E hr).ex
    refine ⟨t, hps, ?_⟩
    have S1 := St.start (N := N) S0 r
    rw [hl] at S1
    refine hsim _ G ι h H _ _ _ S1 ?_
    unfold mFun at p
    rw [if_pos hl] at p
    have fr : ∀ {G' ι' h' H' ρ' σ'}, St K c ⟨G, ι, H⟩ G' ι' h' H' ρ' σ' → (∀ q ∈ ι', q ∈ ι ∨ H q = none) ∧ (∀ p o, H p = some o → p ∉ ι → H' p = some o) ∧ (∀ p o, G' p = some o → G p = some o ∨ H p = none) := fun S => ⟨S.b2, S.b1, S.b3⟩
    cases e : body (avs.map SV.val ++ List.replicate (N.length - ps.length) .un) h with
    | ok fl ρ' h' =>
      rw [e] at p
      cases fl with
      | next => exact fun G' ι' H' σ' a b S => p G' ι' H' .non a b (fr S).1 (fr S).2.1 (fr S).2.2 S.st .non
      | ret v => exact fun G' ι' H' σ' x a b S r => p G' ι' H' x a b (fr S).1 (fr S).2.1 (fr S).2.2 S.st r
      | brk => exact p.elim
      | cont => exact p.elim
    | exc C fs ρ' h' =>
      rw [e] at p
      exact fun G' ι' H' σ' cls d a b S r => p G' ι' H' cls d a b (fr S).1 (fr S).2.1 (fr S).2.2 S.st r
    | fail => rw [e] at p; exact p.elim
end
end Mir

set_option Elab.async false
set_option linter.all false
set_option maxRecDepth 100000
set_option maxHeartbeats 4000000
namespace Mir
open PySem PySem.Spec PyProof.Rows L2

/-! ### more of expressions: isinstance, join, displays of dicts -/
section
variable {K : PySem.W.Frag} {c : Ctx} {B : Bas} {G G' : Hp} {ι ι' : List Addr} {h h' : MHp} {H H' : Hp} {ρ ρ' : MEnv} {σ σ' : L2.St} {E : WX}
variable {ta tb tc : TE} {ma mb mc : EM Val} {t1 t2 : TT} {m1 m2 : EM Bool}
def tyName : Val → Option String
  | .non => some "NoneType"
  | .bl _ => some "bool"
  | .int _ => some "int"
  | .str _ => some "str"
  | .tup _ => some "tuple"
  | .lst _ => some "list"
  | .dct _ => some "dict"
  | _ => none
theorem tyX_of {v : Val} {x : V} {T : String} (r : VH K c G ι H v x) (hG : Hle G H) (e : tyName v = some T) : TyX K H x (.type T) := by
  cases v with
  | non => cases r; cases e; exact .base .non
  | bl b => cases r; cases e; exact .base (.bl b)
  | int b => cases r; cases e; exact .base (.int b)
  | str b => cases r; cases e; exact .base (.str b)
  | tup vs =>
    cases e
    obtain ⟨p, xs, rfl, hp, _⟩ := VR.tupE r
    rcases hG.sqT hp with (h | ⟨o, h⟩) | ⟨o, its, n, h, hc, _⟩
    · exact .base (.tup h)
    · exact .fTuple h
    · exact .kTuple h hc
  | lst vs => cases e; obtain ⟨p, xs, rfl, hp, _⟩ := r; exact .base (.lst hp)
  | dct vs => cases e; obtain ⟨p, xs, rfl, hp, _⟩ := r; exact .base (.dK hp)
  | _ => cases e
def fIsTy (T : String) (v : Val) : Option Val := (tyName v).bind fun S => (kitB S T).map .bl
def mIsTy (T : String) (a : EM Val) : EM Val := EM.bind a fun v => EM.lift (fIsTy T v)
theorem sim_isTy {T : String} (ha : Sim K c (RV K c) E ta ma) : Sim K c (RV K c) E (tCB (rIsi K) (tCons ta (tCons (tC (.ty T)) tNil))) (mIsTy T ma) := by
  intro B G ι h H ρ σ Q hs hp
  refine ha.bind (S := RV K c) hs hp fun G1 ι1 h1 H1 ρ1 v x a1 b1 s1 r1 p1 => ?_
  obtain ⟨z, e, p3⟩ := p1.lift
  simp only [fIsTy, Option.bind_eq_some_iff, Option.map_eq_some_iff] at e
  obtain ⟨S, e1, b, e2, rfl⟩ := e
  exact ⟨x, .ty T, .type S, .type T, b, rfl, .ty T, tyX_of (r1.toH s1.st.le) s1.st.le e1, kit_ty e2, Post.pure (R := RV K c) (x := .bl b) p3 s1 (.bl b)⟩
def vJoin : Val → Val → Option Val
  | .str a, .lst vs => (strs' vs).bind fun ys => if (ys.map (·.length)).sum + ys.length * a.length ≤ 16777216 then some (.str (Txt.join a ys)) else none
  | .str a, .tup vs => (strs' vs).bind fun ys => if (ys.map (·.length)).sum + ys.length * a.length ≤ 16777216 then some (.str (Txt.join a ys)) else none
  | _, _ => none
def rJoin (K : PySem.W.Frag) : V → List V → Hp → VK → Prop := fun x xs H Q => ∃ a p, ∃ ys : List Str, x = .str a ∧ xs = [.ref p] ∧ (SqL K H p (ys.map V.str) ∨ SqT K H p (ys.map V.str)) ∧
      (ys.map (·.length)).sum + ys.length * a.length ≤ 16777216 ∧ Q (.str (Txt.join a ys)) H
theorem vJoin_ok {a b : Val} {x y : V} {z : Val} (ra : VH K c G ι H a x) (rb : VH K c G ι H b y) (hG : Hle G H) (e : vJoin a b = some z) : (∃ s, x = .str s) ∧ ∃ t, z = .str t ∧ ∀ Q : VK, Q (.str t) H → rJoin K x [y] H Q := by
  unfold vJoin at e
  split at e
  · rename_i s vs
    simp only [Option.bind_eq_some_iff] at e
    obtain ⟨ys, e1, e2⟩ := e
    split at e2
    · rename_i hz
      cases e2
      cases ra
      obtain ⟨p, xs, rfl, hp, r⟩ := rb
      have := strs_ok r e1
      subst this
      exact ⟨⟨s, rfl⟩, _, rfl, fun Q q => ⟨s, p, ys, rfl, rfl, .inl (.of hp), hz, q⟩⟩
    · cases e2
  · rename_i s vs
    simp only [Option.bind_eq_some_iff] at e
    obtain ⟨ys, e1, e2⟩ := e
    split at e2
    · rename_i hz
      cases e2
      cases ra
      obtain ⟨p, xs, rfl, hp, r⟩ := VR.tupE rb
      have := strs_ok r e1
      subst this
      exact ⟨⟨s, rfl⟩, _, rfl, fun Q q => ⟨s, p, ys, rfl, rfl, .inr (hG.sqT hp), hz, q⟩⟩
    · cases e2
  · cases e
def isStr : Val → Bool
  | .str _ => true
  | _ => false
def mM1 (f : Val → Val → Option Val) (a b : EM Val) : EM Val := EM.bind a fun x => if isStr x = true then EM.bind b fun y => EM.lift (f x y) else fun _ _ => .fail
def mM1B (f : Val → Val → Option Val) (a : EM Val) (i : Nat) : EM Val := EM.bind a fun x => if isStr x = true then EM.bind (getCont i) fun y => EM.lift (f x y) else fun _ _ => .fail
theorem isStr_ok {v : Val} {x : V} (r : VR K c G ι v x) (e : isStr v = true) : ∃ s, x = .str s := by
  cases r <;> first | exact ⟨_, rfl⟩ | cases e
theorem sim_join (ha : Sim K c (RV K c) E ta ma) (hb : Sim K c (RV K c) E tb mb) : Sim K c (RV K c) E (tM1 (rJoin K) ta tb) (mM1 vJoin ma mb) := by
  intro B G ι h H ρ σ Q hs hp
  refine ha.bind hs hp fun G1 ι1 h1 H1 ρ1 v x a1 b1 s1 r1 p1 => ?_
  by_cases hz : isStr v = true
  · rw [if_pos hz] at p1
    refine ⟨isStr_ok r1 hz, hb.bind s1 p1 fun G2 ι2 h2 H2 ρ2 w y a2 b2 s2 r2 p2 => ?_⟩
    obtain ⟨z, e, p3⟩ := p2.lift
    obtain ⟨_, t, rfl, k⟩ := vJoin_ok ((r1.mono a2 b2).toH s2.st.le) (r2.toH s2.st.le) s2.st.le e
    exact k Q (Post.pure (R := RV K c) (x := .str t) p3 s2 (.str t))
  · rw [if_neg hz] at p1; exact p1.elim
theorem sim_joinB {i : Nat} (ha : Sim K c (RV K c) E ta ma) : Sim K c (RV K c) E (tM1 (rJoin K) ta (tVar i)) (mM1B vJoin ma i) := by
  intro B G ι h H ρ σ Q hs hp
  refine ha.bind hs hp fun G1 ι1 h1 H1 ρ1 v x a1 b1 s1 r1 p1 => ?_
  by_cases hz : isStr v = true
  · rw [if_pos hz] at p1
    obtain ⟨w, ec, hv, p2⟩ := p1.getCont
    obtain ⟨y, ey, ry⟩ := s1.cont ec hv
    refine ⟨isStr_ok r1 hz, y, ey, ?_⟩
    obtain ⟨z, e, p3⟩ := p2.lift
    obtain ⟨_, t, rfl, k⟩ := vJoin_ok (r1.toH s1.st.le) ry s1.st.le e
    exact k Q (Post.pure (R := RV K c) (x := .str t) p3 s1 (.str t))
  · rw [if_neg hz] at p1; exact p1.elim

/-! ### dicts by value -/
def keyB : Val → Val → Bool
  | .int i, .int j => decide (i = j)
  | .str i, .str j => decide (i = j)
  | _, _ => false
def isKey : Val → Bool
  | .int _ => true
  | .str _ => true
  | _ => false
def putD (kvs : List (Val × Val)) (k v : Val) : List (Val × Val) :=
  if (kvs.any fun kv => keyB kv.1 k) = true then kvs.map (fun kv => if keyB kv.1 k = true then (kv.1, v) else kv) else kvs ++ [(k, v)]
theorem keyB_eq {a b : Val} {p q : Key} (ra : KyR a p) (rb : KyR b q) : keyB a b = decide (p = q) := by
  cases ra <;> cases rb <;> simp [keyB]
theorem KVRs.any {k : Val} {q : Key} (rk : KyR k q) : ∀ {kvs : List (Val × Val)} {xs : List (Key × V)}, KVRs K c G ι kvs xs → (kvs.any fun kv => keyB kv.1 k) = (xs.any fun kv => decide (kv.1 = q))
  | _, _, .nil => rfl
  | _, _, .cons a b r => by rw [List.any_cons, List.any_cons, KVRs.any rk r, keyB_eq a rk]
theorem KVRs.put {k v : Val} {q : Key} {x : V} (rk : KyR k q) (rv : VR K c G ι v x) {kvs : List (Val × Val)} {xs : List (Key × V)} (r : KVRs K c G ι kvs xs) : KVRs K c G ι (putD kvs k v) (putK xs q x) := by
  unfold putD putK
  rw [KVRs.any rk r]
  split
  · have : ∀ {kvs : List (Val × Val)} {xs : List (Key × V)}, KVRs K c G ι kvs xs → KVRs K c G ι (kvs.map fun kv => if keyB kv.1 k = true then (kv.1, v) else kv) (xs.map fun kv => if kv.1 = q then (kv.1, x) else kv) := by
      intro kvs xs r
      induction kvs generalizing xs with
      | nil => cases r; exact .nil
      | cons a as ih =>
        cases r with
        | cons ra rb rr =>
          simp only [List.map_cons, keyB_eq ra rk, decide_eq_true_eq]
          split
          · exact .cons ra rv (ih rr)
          · exact .cons ra rb (ih rr)
    exact this r
  · have : ∀ {kvs : List (Val × Val)} {xs : List (Key × V)}, KVRs K c G ι kvs xs → KVRs K c G ι (kvs ++ [(k, v)]) (xs ++ [(q, x)]) := by
      intro kvs xs r
      induction kvs generalizing xs with
      | nil => cases r; exact .cons rk rv .nil
      | cons a as ih =>
        cases r with
        | cons ra rb rr => exact .cons ra rb (ih rr)
    exact this r
theorem sn_dnew : SimN K c E tDNewK (fun ρ h => .ok (.dct []) ρ h) := by
  intro B G ι h H ρ σ Q hs hp
  intro d hd
  exact hp G ι _ d (.dK []) (Hle.refl _) (Ile.refl _) (hs.off hd) (hs.pinNew hd) ⟨[], rfl, .nil⟩
def mPairs : List (EM Val × EM Val) → EM (List (Val × Val))
  | [] => EM.pure []
  | (a, b) :: r => EM.bind a fun k => EM.bind b fun v => EM.bind (mPairs r) fun ps => EM.pure ((k, v) :: ps)
def mDisp (ps : List (EM Val × EM Val)) : EM Cell := EM.bind (mPairs ps) fun kvs => EM.lift (if kvs.length ≤ 15 ∧ kvs.all (fun kv => isKey kv.1) = true then some (.dct (kvs.foldl (fun acc kv => putD acc kv.1 kv.2) [])) else none)
inductive SimPs (K : PySem.W.Frag) (c : Ctx) (E : WX) : List (TE × TE) → List (EM Val × EM Val) → Prop
  | nil : SimPs K c E [] []
  | cons {a b m n r s} : Sim K c (RV K c) E a m → Sim K c (RV K c) E b n → SimPs K c E r s → SimPs K c E ((a, b) :: r) ((m, n) :: s)
inductive PRs (K : PySem.W.Frag) (c : Ctx) (G : Hp) (ι : List Addr) : List (Val × Val) → List (V × V) → Prop
  | nil : PRs K c G ι [] []
  | cons {k v x y r s} : VR K c G ι k x → VR K c G ι v y → PRs K c G ι r s → PRs K c G ι ((k, v) :: r) ((x, y) :: s)
theorem PRs.mono (hG : Hle G G') (hι : Ile ι ι') {r : List (Val × Val)} {s : List (V × V)} (p : PRs K c G ι r s) : PRs K c G' ι' r s := by
  induction p with
  | nil => exact .nil
  | cons a b _ ih => exact .cons (a.mono hG hι) (b.mono hG hι) ih
theorem sim_pairs : ∀ {trs : List (TE × TE)} {ps : List (EM Val × EM Val)}, SimPs K c E trs ps → Sim K c (fun G ι a b => PRs K c G ι a b) E (tPairs trs) (mPairs ps)
  | _, _, .nil => fun B G ι h H ρ σ Q hs hp => Post.pure (R := fun G ι a b => PRs K c G ι a b) (x := []) hp hs .nil
  | _, _, .cons ha hb hr => fun B G ι h H ρ σ Q hs hp => by
    refine ha.bind (S := fun G ι a b => PRs K c G ι a b) hs hp fun G1 ι1 h1 H1 ρ1 v x a1 b1 s1 r1 p1 => ?_
    refine hb.bind (S := fun G ι a b => PRs K c G ι a b) s1 p1 fun G2 ι2 h2 H2 ρ2 w y a2 b2 s2 r2 p2 => ?_
    refine (sim_pairs hr).bind (S := fun G ι a b => PRs K c G ι a b) s2 p2 fun G3 ι3 h3 H3 ρ3 ws ys a3 b3 s3 r3 p3 => ?_
    exact Post.pure (R := fun G ι a b => PRs K c G ι a b) (x := (x, y) :: ys) p3 s3 (.cons (r1.mono (a2.trans a3) (b2.trans b3)) (r2.mono a3 b3) r3)
theorem PRs.keys : ∀ {kvs : List (Val × Val)} {xs : List (V × V)}, PRs K c G ι kvs xs → kvs.all (fun kv => isKey kv.1) = true → ∃ ks : List (Key × V), xs = ks.map (fun kv => (kV kv.1, kv.2)) ∧ KVRs K c G ι kvs ks
  | _, _, .nil, _ => ⟨[], rfl, .nil⟩
  | (k, v) :: _, _, .cons a b r, e => by
    rw [List.all_cons, Bool.and_eq_true] at e
    obtain ⟨ks, rfl, rk⟩ := PRs.keys r e.2
    have e1 : isKey k = true := e.1
    cases a with
    | int i => exact ⟨(.inl i, _) :: ks, rfl, .cons (.int i) b rk⟩
    | str i => exact ⟨(.inr i, _) :: ks, rfl, .cons (.str i) b rk⟩
    | _ => cases e1
theorem KVRs.length : ∀ {kvs : List (Val × Val)} {xs : List (Key × V)}, KVRs K c G ι kvs xs → kvs.length = xs.length
  | _, _, .nil => rfl
  | _, _, .cons _ _ r => by simp [KVRs.length r]
theorem KVRs.merge : ∀ {kvs acc : List (Val × Val)} {xs bcc : List (Key × V)}, KVRs K c G ι kvs xs → KVRs K c G ι acc bcc → KVRs K c G ι (kvs.foldl (fun acc kv => putD acc kv.1 kv.2) acc) (mergeK bcc xs)
  | _, _, _, _, .nil, r => r
  | _, _, _, _, .cons a b t, r => by
    show KVRs K c G ι (List.foldl _ (putD _ _ _) _) (mergeK (putK _ _ _) _)
    exact KVRs.merge t (r.put a b)
theorem sn_disp {trs : List (TE × TE)} {ps : List (EM Val × EM Val)} (hps : SimPs K c E trs ps) : SimN K c E (tDisp trs) (mDisp ps) := by
  intro B G ι h H ρ σ Q hs hp
  intro d hd
  have F : Off B d := hs.off hd
  have S1 := hs.pinNew (o := .dK []) hd
  unfold mDisp EM.bind at hp
  refine sim_pairs hps _ G ι h _ ρ σ _ S1 ?_
  cases e : mPairs ps ρ h with
  | ok kvs ρ1 h1 =>
    rw [e] at hp
    intro G1 ι1 H1 xs a1 b1 s1 r1
    obtain ⟨hD, _, _⟩ := s1.pinFacts F
    refine ⟨hD, ?_⟩
    unfold EM.lift at hp
    dsimp only at hp
    by_cases hz : kvs.length ≤ 15 ∧ kvs.all (fun kv => isKey kv.1) = true
    · rw [if_pos hz] at hp
      obtain ⟨ks, rfl, rk⟩ := r1.keys hz.2
      exact ⟨ks, rfl, by rw [← rk.length]; exact hz.1, hp G1 ι1 _ d _ a1 b1 F (s1.repin F) ⟨_, rfl, KVRs.merge rk .nil⟩⟩
    · rw [if_neg hz] at hp; exact hp.elim
  | exc C fs ρ1 h1 =>
    rw [e] at hp
    intro G1 ι1 H1 cls dd a1 b1 s1 r1
    exact hp G1 ι1 H1 cls dd a1 b1 (s1.unpin F) r1
  | fail => rw [e] at hp; exact hp.elim

/-! ### fresh lists -/
def nLst (r : EM (List Val)) : EM Cell := EM.bind r fun xs => EM.lift (if xs.length ≤ sizeLine then some (.lst xs) else none)
theorem Sim.bindN {α β : Type} {R : RelT α β} {te : L2.St → Hp → (β → Hp → Prop) → Prop} {m : EM α} {f : α → EM Cell} {Q : VK} {k : β → Hp → Prop} (hm : Sim K c R E te m) (hs : St K c B G ι h H ρ σ)
    (hp : PostN K c E B G ι σ (EM.bind m f ρ h) Q)
    (hk : ∀ G' ι' h' H' ρ' v x, Hle G G' → Ile ι ι' → St K c B G' ι' h' H' ρ' σ → R G' ι' v x → PostN K c E B G' ι' σ (f v ρ' h') Q → k x H') : te σ H k := by
  refine hm B G ι h H ρ σ k hs ?_
  unfold EM.bind at hp
  cases e : m ρ h with
  | ok v ρ' h' =>
    rw [e] at hp
    exact fun G' ι' H' x a b s r => hk G' ι' h' H' ρ' v x a b s r (PostN.mono a b hp)
  | exc C fs ρ' h' => rw [e] at hp; exact hp
  | fail => rw [e] at hp; exact hp
theorem PostN.fresh {cl : Cell} {Q : VK} {p : Addr} {o : HO} (hs : St K c B G ι h H ρ σ) (hp : PostN K c E B G ι σ (.ok cl ρ h) Q) (hf : H p = none) (r : CO K c G ι cl o) : Q (.ref p) (upd H p o) :=
  hp G ι _ p o (Hle.refl _) (Ile.refl _) (hs.off hf) (hs.pinNew hf) r
theorem sn_lst {tr : TA} {mr : EM (List Val)} (hr : Sim K c (RVs K c) E tr mr) : SimN K c E (tLst tr) (nLst mr) := by
  intro B G ι h H ρ σ Q hs hp
  refine hr.bindN hs hp fun G1 ι1 h1 H1 ρ1 vs xs a1 b1 s1 r1 p1 => ?_
  by_cases hz : vs.length ≤ sizeLine
  · unfold EM.lift at p1
    rw [if_pos hz] at p1
    exact ⟨by rw [← r1.length]; exact hz, fun p hf => PostN.fresh s1 p1 hf ⟨xs, rfl, r1⟩⟩
  · unfold EM.lift at p1
    rw [if_neg hz] at p1; exact p1.elim
/-- list(e) -/
def nList (a : EM Val) : EM Cell := EM.bind a fun v => EM.lift (match v with
  | .tup vs => some (.lst vs)
  | .lst vs => some (.lst vs)
  | .fz vs => some (.lst vs)
  | _ => none)
theorem sn_list (ha : Sim K c (RV K c) E ta ma) : SimN K c E (tCB (fun xs H Q => ∃ p ys, xs = [.ref p] ∧ (SqL K H p ys ∨ SqT K H p ys) ∧ ∀ l, H l = none → Q (.ref l) (upd H l (.lst ys))) (tCons ta tNil)) (nList ma) := by
  intro B G ι h H ρ σ Q hs hp
  refine ha.bindN hs hp fun G1 ι1 h1 H1 ρ1 v x a1 b1 s1 r1 p1 => ?_
  cases v with
  | tup vs => obtain ⟨p, xs, rfl, hx, r⟩ := r1.tupE; exact ⟨p, xs, rfl, .inr (s1.st.le.sqT hx), fun l hl => PostN.fresh s1 p1 hl ⟨xs, rfl, r⟩⟩
  | lst vs => obtain ⟨p, xs, rfl, hx, r⟩ := r1.lstE; exact ⟨p, xs, rfl, .inl (.of (s1.st.le _ _ hx)), fun l hl => PostN.fresh s1 p1 hl ⟨xs, rfl, r⟩⟩
  | fz vs => obtain ⟨p, xs, rfl, hx, r⟩ := r1.fzE; exact ⟨p, xs, rfl, .inl (s1.st.le.sqL hx), fun l hl => PostN.fresh s1 p1 hl ⟨xs, rfl, r⟩⟩
  | _ => exact p1.elim
/-- a fresh object becomes a cell of the mirrored heap -/
def mCell (m : EM Cell) : EM Val := EM.bind m fun cl ρ h => .ok (.ref h.length) ρ (h ++ [cl])
theorem St.cellNew {D : Addr} {o : HO} (F : Off B D) (S : St K c (B.pin D o) G ι h H ρ σ) {cl : Cell} (r : CO K c G ι cl o) : St K c B G (ι ++ [D]) (h ++ [cl]) H ρ σ := by
  obtain ⟨hD, gD, iD⟩ := St.pinFacts F S
  have S1 := S.unpin F
  have hι : Ile ι (ι ++ [D]) := ⟨[D], rfl⟩
  refine ⟨⟨S1.st.le, by simp [S1.st.len], ?_, fun p hp => ?_, fun i p cl' h1 h2 => ?_⟩, fun i sv hi => ?_, S1.dis, S1.b1, fun q hq => ?_, S1.b3, S1.b4.trans hι, S1.b5⟩
  · rw [List.nodup_append]
    exact ⟨S1.st.nd, by simp, fun a ha b hb => by
      have : b = D := by simpa using hb
      subst this
      exact fun z => iD (by rw [← z]; exact ha)⟩
  · rcases List.mem_append.mp hp with z | z
    · exact S1.st.out p z
    · have : p = D := by simpa using z
      subst this; exact gD
  · by_cases hl : i < ι.length
    · rw [List.getElem?_append_left hl] at h1
      rw [List.getElem?_append_left (by rw [← S1.st.len]; exact hl)] at h2
      exact (S1.st.cell i p cl' h1 h2).mono (Hle.refl _) hι fun _ e => e
    · have hi : i < (ι ++ [D]).length := (List.getElem?_eq_some_iff.mp h1).1
      rw [List.length_append] at hi
      have e : i = ι.length := by
        have : [D].length = 1 := rfl
        omega
      subst e
      rw [List.getElem?_append_right (Nat.le_refl _)] at h1
      rw [S1.st.len, List.getElem?_append_right (Nat.le_refl _)] at h2
      simp at h1 h2
      subst h1 h2
      exact (CO.mono (Hle.refl _) hι r).cr hD
  · obtain ⟨x, e1, r1⟩ := S.env i sv hi
    obtain ⟨x', e1', r1'⟩ := S1.env i sv hi
    rw [e1] at e1'; cases e1'
    refine ⟨x, e1, ?_⟩
    cases sv with
    | un => trivial
    | val v => obtain ⟨y, e, q⟩ := r1'; exact ⟨y, e, q.mono (Hle.refl _) hι⟩
    | xv C fs => obtain ⟨a, cls, d, e1x, e2x, q⟩ := r1'; exact ⟨a, cls, d, e1x, e2x, q.mono (Hle.refl _) hι⟩
    | own c2 =>
      obtain ⟨p, e, g, n, b, q⟩ := r1
      obtain ⟨p', e', g', n', b', q'⟩ := r1'
      rw [e] at e'; cases e'
      have np : p ≠ D := fun z => by
        have e' : upd B.H D o p = none := b
        rw [z, upd_same] at e'; cases e'
      refine ⟨p, e, g, fun hm => ?_, b', q'.mono (Hle.refl _) hι fun _ e => e⟩
      rcases List.mem_append.mp hm with z | z
      · exact n' z
      · exact np (by simpa using z)
  · rcases List.mem_append.mp hq with z | z
    · exact S1.b2 q z
    · have : q = D := by simpa using z
      subst this; exact .inr F.h
theorem SimN.cell {te : TE} {m : EM Cell} (hm : SimN K c E te m) : Sim K c (RV K c) E te (mCell m) := by
  intro B G ι h H ρ σ Q hs hp
  refine hm B G ι h H ρ σ Q hs ?_
  unfold mCell EM.bind at hp
  cases e : m ρ h with
  | ok cl ρ' h' =>
    rw [e] at hp
    intro G' ι' H' p o hG hι F S r
    refine hp G' (ι' ++ [p]) H' (.ref p) hG (hι.trans ⟨[p], rfl⟩) (S.cellNew F r) (.ref ?_)
    rw [← S.st.len, List.getElem?_append_right (Nat.le_refl _)]
    simp
  | exc C fs ρ' h' => rw [e] at hp; exact hp
  | fail => rw [e] at hp; exact hp
end
end Mir

set_option Elab.async false
set_option linter.all false
set_option maxRecDepth 100000
set_option maxHeartbeats 4000000
namespace Mir
open PySem PySem.Spec PyProof.Rows L2

structure EEm (X : Cx) (K : PySem.W.Frag) (c : Ctx) (E : WX) (e : Expr) (te : TE) (m : EM Val) : Prop where
  hK : X.K = K
  p : PE X e te
  s : Sim K c (RV K c) E te m
structure ETm (X : Cx) (K : PySem.W.Frag) (c : Ctx) (E : WX) (e : Expr) (te : TT) (m : EM Bool) : Prop where
  hK : X.K = K
  p : PT X e te
  s : Sim K c RB E te m
structure EWm (X : Cx) (K : PySem.W.Frag) (c : Ctx) (E : WX) (e : Expr) (te : TT) (m : EM Bool) : Prop where
  hK : X.K = K
  p : PW X e te
  s : Sim K c RB E te m
structure EAm (X : Cx) (K : PySem.W.Frag) (c : Ctx) (E : WX) (es : List Expr) (te : TA) (m : EM (List Val)) : Prop where
  hK : X.K = K
  p : PA X es te
  s : Sim K c (RVs K c) E te m
structure ENm (X : Cx) (K : PySem.W.Frag) (c : Ctx) (E : WX) (e : Expr) (te : TE) (m : EM Cell) : Prop where
  hK : X.K = K
  p : PE X e te
  s : SimN K c E te m
structure EIm (X : Cx) (K : PySem.W.Frag) (c : Ctx) (E : WX) (tg iter : Expr) (te : TI) (m : EM (List Val)) : Prop where
  hK : X.K = K
  p : PI X tg iter te
  s : Sim K c (RJ K c) E te m
structure EGm (X : Cx) (K : PySem.W.Frag) (c : Ctx) (target : Expr) (is : List Nat) (g : TG) (tg : TgM) : Prop where
  hK : X.K = K
  p : PG X target g
  s : SimG K c is g tg
structure EGsm (X : Cx) (K : PySem.W.Frag) (c : Ctx) (ts : List Expr) (is : List Nat) (g : TGs) (tg : TgsM) : Prop where
  hK : X.K = K
  p : PGs X ts g
  s : SimGs K c is g tg
structure ETsm (X : Cx) (K : PySem.W.Frag) (c : Ctx) (E : WX) (ifs : List Expr) (te : TT) (m : EM Bool) : Prop where
  hK : X.K = K
  p : PTs X ifs te
  s : Sim K c RB E te m
structure EPsm (X : Cx) (K : PySem.W.Frag) (c : Ctx) (E : WX) (pos : Pos) (keys : List (Option Expr)) (values : List Expr) (trs : List (TE × TE)) (ps : List (EM Val × EM Val)) : Prop where
  hK : X.K = K
  p : PPs X pos keys values trs
  s : SimPs K c E trs ps
structure ESm (X : Cx) (K : PySem.W.Frag) (c : Ctx) (E : WX) (st : Stmt) (te : TS) (m : SM) : Prop where
  hK : X.K = K
  p : PS X st te
  s : SimS K c E te m
structure EBm (X : Cx) (K : PySem.W.Frag) (c : Ctx) (E : WX) (st : List Stmt) (te : TS) (m : SM) : Prop where
  hK : X.K = K
  p : PSs X st te
  s : SimS K c E te m

section
variable {X : Cx} {K : PySem.W.Frag} {c : Ctx} {E : WX} {pos : Pos} {a b d : Expr} {ta tb td : TE} {ma mb md : EM Val} {t1 t2 : TT} {m1 m2 : EM Bool}
theorem pm_var (i : Nat) {y : Str} (hK : X.K = K := by rfl) (hN : X.N[i]? = some y := by rfl) (hvis : Vis X.env.scope y := by first | exact Or.inl rfl | exact Or.inr (Or.inl rfl) | exact Or.inr (Or.inr rfl)) (hd : (y == ("__debug__" : Str)) = false := by decide) (hcd : (y == ("__classdict__" : Str)) = false := by decide) : EEm X K c E (.Name y pos) (tVar i) (mVar i) := ⟨hK, (pv i hN hvis hd hcd), sim_var i⟩
theorem pm_int {i : Int} {j} (hK : X.K = K := by rfl) : EEm X K c E (.Constant (.int i) j pos) (tC (.int i)) (mC (.int i)) := ⟨hK, pe_int, sim_int i⟩
theorem pm_bl {i : Bool} {j} (hK : X.K = K := by rfl) : EEm X K c E (.Constant (.bool i) j pos) (tC (.bl i)) (mC (.bl i)) := ⟨hK, pe_bl, sim_bl i⟩
theorem pm_str {i : Str} {j} (hK : X.K = K := by rfl) : EEm X K c E (.Constant (.str i) j pos) (tC (.str i)) (mC (.str i)) := ⟨hK, pe_str, sim_str i⟩
theorem pm_non {j} (hK : X.K = K := by rfl) : EEm X K c E (.Constant .none j pos) (tC .non) (mC .non) := ⟨hK, pe_non, sim_non⟩
theorem pm_glob {y : Str} {v : V} {u : Value} {val : Val} (rv : ∀ G ι, VR K c G ι val v) (r : RelV v u) (hm : X.mg y = some u) (hK : X.K = K := by rfl) (hg : Gl X y := by rfl) (hd : (y == ("__debug__" : Str)) = false := by decide) : EEm X K c E (.Name y pos) (tC v) (mC val) := ⟨hK, pe_glob hg hm r hd, sim_c rv⟩
theorem pm_bin {op : Operator} {r : PySem.W.Frag → R2} {f : Val → Val → Option Val} (ho : OpR X (binaryOp op) (r X.K)) (hr : SimR2 K c (r K) f) (ha : EEm X K c E a ta ma) (hb : EEm X K c E b tb mb) : EEm X K c E (.BinOp a op b pos) (tOp (r K) ta tb) (mOp f ma mb) := by
  obtain ⟨rfl, pa, sa⟩ := ha
  obtain ⟨_, pb, sb⟩ := hb
  exact ⟨rfl, pe_op ho pa pb, sim_op hr sa sb⟩
theorem pm_add (ha : EEm X K c E a ta ma) (hb : EEm X K c E b tb mb) : EEm X K c E (.BinOp a .Add b pos) (tOp (rAddAny K) ta tb) (mOp fAdd ma mb) := pm_bin (r := rAddAny) op_addAny sr_add ha hb
theorem pm_sub (ha : EEm X K c E a ta ma) (hb : EEm X K c E b tb mb) : EEm X K c E (.BinOp a .Sub b pos) (tOp ((fun _ => rI0 fun i j => .int (i - j)) K) ta tb) (mOp fSub ma mb) := pm_bin (r := (fun _ => rI0 fun i j => .int (i - j))) op_sub sr_sub ha hb
theorem pm_mul (ha : EEm X K c E a ta ma) (hb : EEm X K c E b tb mb) : EEm X K c E (.BinOp a .Mult b pos) (tOp ((fun _ => rI CMulW fun i j => .int (i * j)) K) ta tb) (mOp fMul ma mb) := pm_bin (r := (fun _ => rI CMulW fun i j => .int (i * j))) op_mulW sr_mul ha hb
theorem pm_mod (ha : EEm X K c E a ta ma) (hb : EEm X K c E b tb mb) : EEm X K c E (.BinOp a .Mod b pos) (tOp ((fun _ => rI (fun _ j => 0 < j) fun i j => .int (i % j)) K) ta tb) (mOp fMod ma mb) := pm_bin (r := (fun _ => rI (fun _ j => 0 < j) fun i j => .int (i % j))) op_mod sr_mod ha hb
theorem pm_div (ha : EEm X K c E a ta ma) (hb : EEm X K c E b tb mb) : EEm X K c E (.BinOp a .FloorDiv b pos) (tOp ((fun _ => rI CDivW fun i j => .int (i / j)) K) ta tb) (mOp fDiv ma mb) := pm_bin (r := (fun _ => rI CDivW fun i j => .int (i / j))) op_fdivW sr_div ha hb
theorem pm_pow (ha : EEm X K c E a ta ma) (hb : EEm X K c E b tb mb) : EEm X K c E (.BinOp a .Pow b pos) (tOp ((fun _ => rI CPowW fun i j => .int (i ^ j.toNat)) K) ta tb) (mOp fPow ma mb) := pm_bin (r := (fun _ => rI CPowW fun i j => .int (i ^ j.toNat))) op_powW sr_pow ha hb
theorem pm_notV (ha : EEm X K c E a ta ma) : EEm X K c E (.UnaryOp .Not a pos) (tNotT K ta) (mNotV ma) := by
  obtain ⟨rfl, pa, sa⟩ := ha
  exact ⟨rfl, pe_notT pa, sim_notV sa⟩
def vNeg : Val → Option Val
  | .int i => some (.int (-i))
  | _ => none
theorem pm_neg (ha : EEm X K c E a ta ma) : EEm X K c E (.UnaryOp .USub a pos) (tUn (rU fun i => .int (-i)) ta) (mUn vNeg ma) := by
  obtain ⟨rfl, pa, sa⟩ := ha
  refine ⟨rfl, pe_un un_neg pa, sim_un ?_ sa⟩
  intro B G ι h H ρ σ vx x z hs rx e Q q
  cases rx <;> simp [vNeg] at e
  subst e
  exact ⟨_, rfl, q G H _ (Hle.refl _) hs (.int _)⟩
structure CmpOk (X : Cx) (K : PySem.W.Frag) (c : Ctx) (op : CmpOp) (r : PySem.W.Frag → R2) (f : Val → Val → Option Val) : Prop where
  o : OpR X (compareOp op) (r X.K)
  s : SimR2 K c (r K) f
theorem co_lt : CmpOk X K c .Lt (fun _ => rI0 fun i j => .bl (decide (i < j))) fLt := ⟨op_lt, sr_cmp⟩
theorem co_le : CmpOk X K c .LtE (fun _ => rI0 fun i j => .bl (decide (i ≤ j))) fLe := ⟨op_le, sr_cmp⟩
theorem co_gt : CmpOk X K c .Gt (fun _ => rI0 fun i j => .bl (decide (j < i))) fGt := ⟨op_gt, sr_cmp⟩
theorem co_ge : CmpOk X K c .GtE (fun _ => rI0 fun i j => .bl (decide (j ≤ i))) fGe := ⟨op_ge, sr_cmp⟩
theorem co_eq (hu : X.A.units + 64 < cLine) : CmpOk X K c .Eq rEqD fEq := ⟨op_eqD hu, sr_eq⟩
theorem co_ne (hu : X.A.units + 64 < cLine) : CmpOk X K c .NotEq rNeD fNe := ⟨op_neD hu, sr_ne⟩
theorem co_in (hu : X.A.units + 65 < cLine) : CmpOk X K c .In rInAny fIn := ⟨op_inAny hu, sr_in⟩
theorem co_notIn (hu : X.A.units + 65 < cLine) : CmpOk X K c .NotIn rNotInAny fNotIn := ⟨op_notInAny hu, sr_notIn⟩
theorem co_is : CmpOk X K c .Is (fun _ => rIsAny) fIs := ⟨op_isAny, sr_is⟩
theorem co_isNot : CmpOk X K c .IsNot (fun _ => rIsNotAny) fIsNot := ⟨op_isNotAny, sr_isNot⟩
theorem pm_cmp {op : CmpOp} {r : PySem.W.Frag → R2} {f : Val → Val → Option Val} (k : CmpOk X K c op r f) (ha : EEm X K c E a ta ma) (hb : EEm X K c E b tb mb) (hm : behindInMarks op b = false := by first | exact nomark _ | rfl) : EEm X K c E (.Compare a [op] [b] pos) (tOp (r K) ta tb) (mOp f ma mb) := by
  obtain ⟨rfl, pa, sa⟩ := ha
  exact ⟨rfl, pe_cmpR k.o pa hb.p hm, sim_op k.s sa hb.s⟩
theorem ptm_cmp {op : CmpOp} {r : PySem.W.Frag → R2} {f : Val → Val → Option Val} (k : CmpOk X K c op r f) (ha : EEm X K c E a ta ma) (hb : EEm X K c E b tb mb) (hm : behindInMarks op b = false := by first | exact nomark _ | rfl) : ETm X K c E (.Compare a [op] [b] pos) (tTest (tOp (r K) ta tb)) (mTest (mOp f ma mb)) := by
  obtain ⟨rfl, pa, sa⟩ := ha
  exact ⟨rfl, pt_cmpR k.o pa hb.p hm, sim_test (sim_op k.s sa hb.s)⟩
theorem pm_cmpB (i : Nat) {y : Str} {p2 : Pos} {op : CmpOp} {r : PySem.W.Frag → R2} {f : Val → Val → Option Val} (k : CmpOk X K c op r f) (hb : EEm X K c E b tb mb) (hm : behindInMarks op b = false := by first | exact nomark _ | rfl) (hN : X.N[i]? = some y := by rfl) (hvis : Vis X.env.scope y := by first | exact Or.inl rfl | exact Or.inr (Or.inl rfl) | exact Or.inr (Or.inr rfl)) (hd : (y == ("__debug__" : Str)) = false := by decide) (hcd : (y == ("__classdict__" : Str)) = false := by decide) : EEm X K c E (.Compare (.Name y p2) [op] [b] pos) (tOp (r K) (tVar i) tb) (mIxB f i mb) := by
  obtain ⟨rfl, pb, sb⟩ := hb
  exact ⟨rfl, pe_cmpR k.o (pv i hN hvis hd hcd) pb hm, sim_opB k.s sb⟩
theorem ptm_cmpB (i : Nat) {y : Str} {p2 : Pos} {op : CmpOp} {r : PySem.W.Frag → R2} {f : Val → Val → Option Val} (k : CmpOk X K c op r f) (hb : EEm X K c E b tb mb) (hm : behindInMarks op b = false := by first | exact nomark _ | rfl) (hN : X.N[i]? = some y := by rfl) (hvis : Vis X.env.scope y := by first | exact Or.inl rfl | exact Or.inr (Or.inl rfl) | exact Or.inr (Or.inr rfl)) (hd : (y == ("__debug__" : Str)) = false := by decide) (hcd : (y == ("__classdict__" : Str)) = false := by decide) : ETm X K c E (.Compare (.Name y p2) [op] [b] pos) (tTest (tOp (r K) (tVar i) tb)) (mTest (mIxB f i mb)) := by
  obtain ⟨rfl, pb, sb⟩ := hb
  exact ⟨rfl, pt_cmpR k.o (pv i hN hvis hd hcd) pb hm, sim_test (sim_opB k.s sb)⟩
theorem pm_cmpB2 (i : Nat) {y : Str} {p2 : Pos} {op : CmpOp} {r : PySem.W.Frag → R2} {f : Val → Val → Option Val} (k : CmpOk X K c op r f) (ha : EEm X K c E a ta ma) (hm : behindInMarks op (.Name y p2) = false := by first | exact nomark _ | rfl) (hN : X.N[i]? = some y := by rfl) (hvis : Vis X.env.scope y := by first | exact Or.inl rfl | exact Or.inr (Or.inl rfl) | exact Or.inr (Or.inr rfl)) (hd : (y == ("__debug__" : Str)) = false := by decide) (hcd : (y == ("__classdict__" : Str)) = false := by decide) : EEm X K c E (.Compare a [op] [.Name y p2] pos) (tOp (r K) ta (tVar i)) (mOpB f ma i) := by
  obtain ⟨rfl, pa, sa⟩ := ha
  exact ⟨rfl, pe_cmpR k.o pa (pv i hN hvis hd hcd) hm, sim_opB2 k.s sa⟩
theorem ptm_cmpB2 (i : Nat) {y : Str} {p2 : Pos} {op : CmpOp} {r : PySem.W.Frag → R2} {f : Val → Val → Option Val} (k : CmpOk X K c op r f) (ha : EEm X K c E a ta ma) (hm : behindInMarks op (.Name y p2) = false := by first | exact nomark _ | rfl) (hN : X.N[i]? = some y := by rfl) (hvis : Vis X.env.scope y := by first | exact Or.inl rfl | exact Or.inr (Or.inl rfl) | exact Or.inr (Or.inr rfl)) (hd : (y == ("__debug__" : Str)) = false := by decide) (hcd : (y == ("__classdict__" : Str)) = false := by decide) : ETm X K c E (.Compare a [op] [.Name y p2] pos) (tTest (tOp (r K) ta (tVar i))) (mTest (mOpB f ma i)) := by
  obtain ⟨rfl, pa, sa⟩ := ha
  exact ⟨rfl, pt_cmpR k.o pa (pv i hN hvis hd hcd) hm, sim_test (sim_opB2 k.s sa)⟩
theorem pm_chain {op : CmpOp} {r : PySem.W.Frag → R2} {f : Val → Val → Option Val} (k : CmpOk X K c op r f) {op' : CmpOp} {r' : PySem.W.Frag → R2} {g : Val → Val → Option Val} (k' : CmpOk X K c op' r' g) (ha : EEm X K c E a ta ma) (hb : EEm X K c E b tb mb) (hd : EEm X K c E d td md) (hm : lastMarks [op, op'] [b, d] = false := by with_unfolding_all rfl) : EEm X K c E (.Compare a [op, op'] [b, d] pos) (tChain (r K) (r' K) ta tb td) (mChain f g ma mb md) := by
  obtain ⟨rfl, pa, sa⟩ := ha
  exact ⟨rfl, pe_chain k.o k'.o pa hb.p hd.p hm, sim_chain k.s k'.s sa hb.s hd.s⟩
theorem ptm_chain {op : CmpOp} {r : PySem.W.Frag → R2} {f : Val → Val → Option Val} (k : CmpOk X K c op r f) {op' : CmpOp} {r' : PySem.W.Frag → R2} {g : Val → Val → Option Val} (k' : CmpOk X K c op' r' g) (ha : EEm X K c E a ta ma) (hb : EEm X K c E b tb mb) (hd : EEm X K c E d td md) (hm : lastMarks [op, op'] [b, d] = false := by with_unfolding_all rfl) : ETm X K c E (.Compare a [op, op'] [b, d] pos) (tTest (tChain (r K) (r' K) ta tb td)) (mTest (mChain f g ma mb md)) := by
  obtain ⟨rfl, pa, sa⟩ := ha
  exact ⟨rfl, pt_chain k.o k'.o pa hb.p hd.p hm, sim_test (sim_chain k.s k'.s sa hb.s hd.s)⟩
theorem pm_one {op} (ha : EEm X K c E a ta ma) : EEm X K c E (.BoolOp op [a] pos) ta ma := ⟨ha.hK, pe_one ha.p, ha.s⟩
theorem pm_and {rest : List Expr} (ha : EEm X K c E a ta ma) (hb : EEm X K c E (.BoolOp .And (b :: rest) pos) tb mb) : EEm X K c E (.BoolOp .And (a :: b :: rest) pos) (tAndT K ta tb) (mAndV ma mb) := by
  obtain ⟨rfl, pa, sa⟩ := ha
  exact ⟨rfl, pe_andT pa hb.p, sim_andV sa hb.s⟩
theorem pwm_and1 (ha : ETm X K c E a t1 m1) : EWm X K c E (.BoolOp .And [a] pos) t1 m1 := ⟨ha.hK, pw_and1 ha.p, ha.s⟩
theorem pwm_and {rest : List Expr} (ha : ETm X K c E a t1 m1) (hb : EWm X K c E (.BoolOp .And (b :: rest) pos) t2 m2) : EWm X K c E (.BoolOp .And (a :: b :: rest) pos) (tAnd t1 t2) (mAnd m1 m2) := ⟨ha.hK, pw_and ha.p hb.p, sim_and ha.s hb.s⟩
theorem pm_or {rest : List Expr} (ha : EEm X K c E a ta ma) (hb : EEm X K c E (.BoolOp .Or (b :: rest) pos) tb mb) : EEm X K c E (.BoolOp .Or (a :: b :: rest) pos) (tOrT K ta tb) (mOrV ma mb) := by
  obtain ⟨rfl, pa, sa⟩ := ha
  exact ⟨rfl, pe_orT pa hb.p, sim_orV sa hb.s⟩
theorem pwm_or1 (ha : ETm X K c E a t1 m1) : EWm X K c E (.BoolOp .Or [a] pos) t1 m1 := ⟨ha.hK, pw_or1 ha.p, ha.s⟩
theorem pwm_or {rest : List Expr} (ha : ETm X K c E a t1 m1) (hb : EWm X K c E (.BoolOp .Or (b :: rest) pos) t2 m2) : EWm X K c E (.BoolOp .Or (a :: b :: rest) pos) (tOr t1 t2) (mOr m1 m2) := ⟨ha.hK, pw_or ha.p hb.p, sim_or ha.s hb.s⟩
theorem EWm.pt (h : EWm X K c E a t1 m1) : ETm X K c E a t1 m1 := ⟨h.hK, h.p.pt, h.s⟩
theorem ptm_not (h : ETm X K c E a t1 m1) : ETm X K c E (.UnaryOp .Not a pos) (tNot t1) (mNot m1) := ⟨h.hK, pt_not h.p, sim_not h.s⟩
theorem ptm_tru (ha : EEm X K c E a ta ma) (he : ∀ whole, isTrue a X.env whole = (do let v ← whole; standAt a.pos; holding [v] (truthy v)) := by intro _; rfl) : ETm X K c E a (tTru' K ta) (mTru ma) := by
  obtain ⟨rfl, pa, sa⟩ := ha
  exact ⟨rfl, pt_truth pa he, sim_tru sa⟩
theorem pm_if (h1 : ETm X K c E d t1 m1) (ha : EEm X K c E a ta ma) (hb : EEm X K c E b tb mb) : EEm X K c E (.IfExp d a b pos) (tIf t1 ta tb) (mIf m1 ma mb) := ⟨ha.hK, pe_ifExp h1.p ha.p hb.p, sim_if h1.s ha.s hb.s⟩
variable {es : List Expr} {tr : TA} {mr : EM (List Val)} {mn : EM Cell}
theorem pam_nil (hK : X.K = K := by rfl) : EAm X K c E [] tNil mNil := ⟨hK, pa_nil, sim_nil⟩
theorem pam_cons (ha : EEm X K c E a ta ma) (hr : EAm X K c E es tr mr) (hs : starEach (a :: es) X.env = (false, eval a X.env) :: starEach es X.env := by rfl) : EAm X K c E (a :: es) (tCons ta tr) (mCons ma mr) := ⟨ha.hK, pa_cons ha.p hr.p hs, sim_cons ha.s hr.s⟩
theorem pm_tup {x1} (hr : EAm X K c E es tr mr) : EEm X K c E (.Tuple es x1 pos) (tTup tr) (mTup mr) := ⟨hr.hK, pe_tup hr.p, sim_tup hr.s⟩
theorem pm_lst (hr : EAm X K c E es tr mr) : EEm X K c E (.List es pos) (tLst tr) (mLst mr) := ⟨hr.hK, pe_lst hr.p, sim_lst hr.s⟩
theorem pn_lst (hr : EAm X K c E es tr mr) : ENm X K c E (.List es pos) (tLst tr) (nLst mr) := ⟨hr.hK, pe_lst hr.p, sn_lst hr.s⟩
theorem ENm.know (h : ENm X K c E a ta mn) : EEm X K c E a ta (mKnow mn) := ⟨h.hK, h.p, h.s.sim⟩
theorem ENm.cell (h : ENm X K c E a ta mn) : EEm X K c E a ta (mCell mn) := ⟨h.hK, h.p, h.s.cell⟩
def nDict0 : EM Cell := fun ρ h => .ok (.dct []) ρ h
theorem pn_dnew (hK : X.K = K := by rfl) : ENm X K c E (.Dict [] [] pos) tDNewK nDict0 := ⟨hK, pe_dnewK, sn_dnew⟩
theorem ppm_nil (hK : X.K = K := by rfl) : EPsm X K c E pos [] [] [] [] := ⟨hK, pps_nil, .nil⟩
theorem ppm_cons {k v : Expr} {ks : List (Option Expr)} {vs : List Expr} {tk tv : TE} {mk mv : EM Val} {trs : List (TE × TE)} {ps : List (EM Val × EM Val)} (hk : EEm X K c E k tk mk) (hv : EEm X K c E v tv mv) (hr : EPsm X K c E pos ks vs trs ps) : EPsm X K c E pos (some k :: ks) (v :: vs) ((tk, tv) :: trs) ((mk, mv) :: ps) := ⟨hk.hK, pps_cons hk.p hv.p hr.p, .cons hk.s hv.s hr.s⟩
theorem pn_disp {keys : List (Option Expr)} {values : List Expr} {trs : List (TE × TE)} {ps : List (EM Val × EM Val)} (h : EPsm X K c E pos keys values trs ps) (hall : keys.all (·.isSome) = true := by rfl) (hl : keys.length = values.length := by rfl) (h0 : keys ≠ [] := by exact fun z => by cases z) (h15 : keys.length ≤ 15 := by decide) : ENm X K c E (.Dict keys values pos) (tDisp trs) (mDisp ps) := ⟨h.hK, pe_disp h.p hall hl h0 h15, sn_disp h.s⟩
variable {x : Str} {p : Pos} {e : Expr}
theorem pm_callB {id : String} {r : PySem.W.Frag → List V → Hp → VK → Prop} {f : List Val → Option Val} (hc : CallR X (.builtin id) (r X.K)) (hf : SimRC K c (r K) f) (hm : X.mg x = none) (hr : EAm X K c E (e :: es) tr mr) (hg : Gl X x := by rfl) (hv : bootBuiltins x = some (.builtin id) := by decide +kernel) (hn : x ≠ "__name__" := by decide) (hdb : (x == ("__debug__" : Str)) = false := by decide) (he : starEach (e :: es) X.env = (false, eval e X.env) :: starEach es X.env := by rfl) (hpl : (backTo pos (starEach es X.env)).any (·.1) = false := by rfl) : EEm X K c E (.Call (.Name x p) (e :: es) [] pos) (tCB (r K) tr) (mCB f mr) := by
  obtain ⟨rfl, pr, sr⟩ := hr
  exact ⟨rfl, pe_callB hc hg hm hv pr hn hdb he hpl, sim_cb hf sr⟩
theorem pm_callB1 (i : Nat) {y : Str} {p2 : Pos} {id : String} {r : PySem.W.Frag → List V → Hp → VK → Prop} {f : List Val → Option Val} (hc : CallR X (.builtin id) (r X.K)) (hf : SimRC K c (r K) f) (hm : X.mg x = none) (hK : X.K = K := by rfl) (hg : Gl X x := by rfl) (hv : bootBuiltins x = some (.builtin id) := by decide +kernel) (hn : x ≠ "__name__" := by decide) (hdb : (x == ("__debug__" : Str)) = false := by decide) (hN : X.N[i]? = some y := by rfl) (hvis : Vis X.env.scope y := by first | exact Or.inl rfl | exact Or.inr (Or.inl rfl) | exact Or.inr (Or.inr rfl)) (hd : (y == ("__debug__" : Str)) = false := by decide) (hcd : (y == ("__classdict__" : Str)) = false := by decide) (he : starEach [.Name y p2] X.env = (false, eval (.Name y p2) X.env) :: starEach [] X.env := by rfl) (hpl : (backTo pos (starEach [] X.env)).any (·.1) = false := by rfl) : EEm X K c E (.Call (.Name x p) [.Name y p2] [] pos) (tCB (r K) (tCons (tVar i) tNil)) (mCB1 f i) := by
  subst hK
  exact ⟨rfl, pe_callB hc hg hm hv (pa_cons (pv i hN hvis hd hcd) pa_nil he) hn hdb he hpl, sim_cb1 hf⟩
theorem pm_callTy {id : String} {r : PySem.W.Frag → List V → Hp → VK → Prop} {f : List Val → Option Val} (hc : CallR X (.type id) (r X.K)) (hf : SimRC K c (r K) f) (hm : X.mg x = none) (hr : EAm X K c E (e :: es) tr mr) (hg : Gl X x := by rfl) (hv : bootBuiltins x = some (.type id) := by decide +kernel) (hn : x ≠ "__name__" := by decide) (hdb : (x == ("__debug__" : Str)) = false := by decide) (he : starEach (e :: es) X.env = (false, eval e X.env) :: starEach es X.env := by rfl) (hpl : (backTo pos (starEach es X.env)).any (·.1) = false := by rfl) : EEm X K c E (.Call (.Name x p) (e :: es) [] pos) (tCB (r K) tr) (mCB f mr) := by
  obtain ⟨rfl, pr, sr⟩ := hr
  exact ⟨rfl, pe_callTy hc hg hm hv pr hn hdb he hpl, sim_cb hf sr⟩
theorem pm_callTy1 (i : Nat) {y : Str} {p2 : Pos} {id : String} {r : PySem.W.Frag → List V → Hp → VK → Prop} {f : List Val → Option Val} (hc : CallR X (.type id) (r X.K)) (hf : SimRC K c (r K) f) (hm : X.mg x = none) (hK : X.K = K := by rfl) (hg : Gl X x := by rfl) (hv : bootBuiltins x = some (.type id) := by decide +kernel) (hn : x ≠ "__name__" := by decide) (hdb : (x == ("__debug__" : Str)) = false := by decide) (hN : X.N[i]? = some y := by rfl) (hvis : Vis X.env.scope y := by first | exact Or.inl rfl | exact Or.inr (Or.inl rfl) | exact Or.inr (Or.inr rfl)) (hd : (y == ("__debug__" : Str)) = false := by decide) (hcd : (y == ("__classdict__" : Str)) = false := by decide) (he : starEach [.Name y p2] X.env = (false, eval (.Name y p2) X.env) :: starEach [] X.env := by rfl) (hpl : (backTo pos (starEach [] X.env)).any (·.1) = false := by rfl) : EEm X K c E (.Call (.Name x p) [.Name y p2] [] pos) (tCB (r K) (tCons (tVar i) tNil)) (mCB1 f i) := by
  subst hK
  exact ⟨rfl, pe_callTy hc hg hm hv (pa_cons (pv i hN hvis hd hcd) pa_nil he) hn hdb he hpl, sim_cb1 hf⟩
def rListOf (K : PySem.W.Frag) : List V → Hp → VK → Prop := fun xs H Q => ∃ p ys, xs = [.ref p] ∧ (SqL K H p ys ∨ SqT K H p ys) ∧ ∀ l, H l = none → Q (.ref l) (upd H l (.lst ys))
def rTupOf (K : PySem.W.Frag) : List V → Hp → VK → Prop := fun xs H Q => ∃ p ys, xs = [.ref p] ∧ ((SqL K H p ys ∧ ∀ l, H l = none → Q (.ref l) (upd H l (.tup ys))) ∨ (SqT K H p ys ∧ Q (.ref p) H))
def rLenOf (K : PySem.W.Frag) : List V → Hp → VK → Prop := fun xs H Q => ∃ x n, xs = [x] ∧ LenV K x H n ∧ Q (.int n) H
def rInt1 (_ : PySem.W.Frag) : List V → Hp → VK → Prop := fun xs H Q => (∃ i, xs = [.int i] ∧ Q (.int i) H) ∨ ∃ k, xs = [.bl k] ∧ Q (.int (if k then 1 else 0)) H
def rAbs1 (_ : PySem.W.Frag) : List V → Hp → VK → Prop := fun xs H Q => ∃ i, xs = [.int i] ∧ Q (.int (if i < 0 then -i else i)) H
def rMax2 (_ : PySem.W.Frag) : List V → Hp → VK → Prop := fun xs H Q => ∃ i j, xs = [.int i, .int j] ∧ Q (.int (if j > i then j else i)) H
def rMin2 (_ : PySem.W.Frag) : List V → Hp → VK → Prop := fun xs H Q => ∃ i j, xs = [.int i, .int j] ∧ Q (.int (if j < i then j else i)) H
def rStrI (_ : PySem.W.Frag) : List V → Hp → VK → Prop := fun xs H Q => ∃ i : Int, xs = [.int i] ∧ i.natAbs.log2 < 1920 ∧ Q (.str (toString i)) H
theorem pm_len (hm : X.mg "len" = none) (ha : EEm X K c E a ta ma) (hg : Gl X "len" := by rfl) (he : starEach [a] X.env = (false, eval a X.env) :: starEach [] X.env := by rfl) (hpl : (backTo pos (starEach [] X.env)).any (·.1) = false := by rfl) : EEm X K c E (.Call (.Name "len" p) [a] [] pos) (tCB (rLenOf K) (tCons ta tNil)) (mCB (f1 vLen) (mCons ma mNil)) := pm_callB (r := rLenOf) (call_len) sc_len hm (pam_cons ha (pam_nil ha.hK) he) hg (by decide +kernel) (by decide) (by decide) he hpl
theorem pm_lenB (i : Nat) {y : Str} {p2 : Pos} (hm : X.mg "len" = none) (hK : X.K = K := by rfl) (hg : Gl X "len" := by rfl) (hN : X.N[i]? = some y := by rfl) (hvis : Vis X.env.scope y := by first | exact Or.inl rfl | exact Or.inr (Or.inl rfl) | exact Or.inr (Or.inr rfl)) (hd : (y == ("__debug__" : Str)) = false := by decide) (hcd : (y == ("__classdict__" : Str)) = false := by decide) (he : starEach [.Name y p2] X.env = (false, eval (.Name y p2) X.env) :: starEach [] X.env := by rfl) (hpl : (backTo pos (starEach [] X.env)).any (·.1) = false := by rfl) : EEm X K c E (.Call (.Name "len" p) [.Name y p2] [] pos) (tCB (rLenOf K) (tCons (tVar i) tNil)) (mCB1 (f1 vLen) i) := pm_callB1 i (r := rLenOf) (call_len) sc_len hm hK hg (by decide +kernel) (by decide) (by decide) hN hvis hd hcd he hpl
theorem pm_tuple (hm : X.mg "tuple" = none) (ha : EEm X K c E a ta ma) (hg : Gl X "tuple" := by rfl) (he : starEach [a] X.env = (false, eval a X.env) :: starEach [] X.env := by rfl) (hpl : (backTo pos (starEach [] X.env)).any (·.1) = false := by rfl) : EEm X K c E (.Call (.Name "tuple" p) [a] [] pos) (tCB (rTupOf K) (tCons ta tNil)) (mCB (f1 vTuple) (mCons ma mNil)) := pm_callTy (r := rTupOf) (call_tuple_of) sc_tuple hm (pam_cons ha (pam_nil ha.hK) he) hg (by decide +kernel) (by decide) (by decide) he hpl
theorem pm_tupleB (i : Nat) {y : Str} {p2 : Pos} (hm : X.mg "tuple" = none) (hK : X.K = K := by rfl) (hg : Gl X "tuple" := by rfl) (hN : X.N[i]? = some y := by rfl) (hvis : Vis X.env.scope y := by first | exact Or.inl rfl | exact Or.inr (Or.inl rfl) | exact Or.inr (Or.inr rfl)) (hd : (y == ("__debug__" : Str)) = false := by decide) (hcd : (y == ("__classdict__" : Str)) = false := by decide) (he : starEach [.Name y p2] X.env = (false, eval (.Name y p2) X.env) :: starEach [] X.env := by rfl) (hpl : (backTo pos (starEach [] X.env)).any (·.1) = false := by rfl) : EEm X K c E (.Call (.Name "tuple" p) [.Name y p2] [] pos) (tCB (rTupOf K) (tCons (tVar i) tNil)) (mCB1 (f1 vTuple) i) := pm_callTy1 i (r := rTupOf) (call_tuple_of) sc_tuple hm hK hg (by decide +kernel) (by decide) (by decide) hN hvis hd hcd he hpl
theorem pm_list (hm : X.mg "list" = none) (ha : EEm X K c E a ta ma) (hg : Gl X "list" := by rfl) (he : starEach [a] X.env = (false, eval a X.env) :: starEach [] X.env := by rfl) (hpl : (backTo pos (starEach [] X.env)).any (·.1) = false := by rfl) : EEm X K c E (.Call (.Name "list" p) [a] [] pos) (tCB (rListOf K) (tCons ta tNil)) (mCB (f1 vList) (mCons ma mNil)) := pm_callTy (r := rListOf) (call_list_of) sc_list hm (pam_cons ha (pam_nil ha.hK) he) hg (by decide +kernel) (by decide) (by decide) he hpl
theorem pm_listB (i : Nat) {y : Str} {p2 : Pos} (hm : X.mg "list" = none) (hK : X.K = K := by rfl) (hg : Gl X "list" := by rfl) (hN : X.N[i]? = some y := by rfl) (hvis : Vis X.env.scope y := by first | exact Or.inl rfl | exact Or.inr (Or.inl rfl) | exact Or.inr (Or.inr rfl)) (hd : (y == ("__debug__" : Str)) = false := by decide) (hcd : (y == ("__classdict__" : Str)) = false := by decide) (he : starEach [.Name y p2] X.env = (false, eval (.Name y p2) X.env) :: starEach [] X.env := by rfl) (hpl : (backTo pos (starEach [] X.env)).any (·.1) = false := by rfl) : EEm X K c E (.Call (.Name "list" p) [.Name y p2] [] pos) (tCB (rListOf K) (tCons (tVar i) tNil)) (mCB1 (f1 vList) i) := pm_callTy1 i (r := rListOf) (call_list_of) sc_list hm hK hg (by decide +kernel) (by decide) (by decide) hN hvis hd hcd he hpl
theorem pm_int1 (hm : X.mg "int" = none) (ha : EEm X K c E a ta ma) (hg : Gl X "int" := by rfl) (he : starEach [a] X.env = (false, eval a X.env) :: starEach [] X.env := by rfl) (hpl : (backTo pos (starEach [] X.env)).any (·.1) = false := by rfl) : EEm X K c E (.Call (.Name "int" p) [a] [] pos) (tCB (rInt1 K) (tCons ta tNil)) (mCB (f1 vInt) (mCons ma mNil)) := pm_callTy (r := rInt1) (call_int1) sc_int hm (pam_cons ha (pam_nil ha.hK) he) hg (by decide +kernel) (by decide) (by decide) he hpl
theorem pm_int1B (i : Nat) {y : Str} {p2 : Pos} (hm : X.mg "int" = none) (hK : X.K = K := by rfl) (hg : Gl X "int" := by rfl) (hN : X.N[i]? = some y := by rfl) (hvis : Vis X.env.scope y := by first | exact Or.inl rfl | exact Or.inr (Or.inl rfl) | exact Or.inr (Or.inr rfl)) (hd : (y == ("__debug__" : Str)) = false := by decide) (hcd : (y == ("__classdict__" : Str)) = false := by decide) (he : starEach [.Name y p2] X.env = (false, eval (.Name y p2) X.env) :: starEach [] X.env := by rfl) (hpl : (backTo pos (starEach [] X.env)).any (·.1) = false := by rfl) : EEm X K c E (.Call (.Name "int" p) [.Name y p2] [] pos) (tCB (rInt1 K) (tCons (tVar i) tNil)) (mCB1 (f1 vInt) i) := pm_callTy1 i (r := rInt1) (call_int1) sc_int hm hK hg (by decide +kernel) (by decide) (by decide) hN hvis hd hcd he hpl
theorem pm_abs (hm : X.mg "abs" = none) (ha : EEm X K c E a ta ma) (hg : Gl X "abs" := by rfl) (he : starEach [a] X.env = (false, eval a X.env) :: starEach [] X.env := by rfl) (hpl : (backTo pos (starEach [] X.env)).any (·.1) = false := by rfl) : EEm X K c E (.Call (.Name "abs" p) [a] [] pos) (tCB (rAbs1 K) (tCons ta tNil)) (mCB (f1 vAbs) (mCons ma mNil)) := pm_callB (r := rAbs1) (call_abs) sc_abs hm (pam_cons ha (pam_nil ha.hK) he) hg (by decide +kernel) (by decide) (by decide) he hpl
theorem pm_absB (i : Nat) {y : Str} {p2 : Pos} (hm : X.mg "abs" = none) (hK : X.K = K := by rfl) (hg : Gl X "abs" := by rfl) (hN : X.N[i]? = some y := by rfl) (hvis : Vis X.env.scope y := by first | exact Or.inl rfl | exact Or.inr (Or.inl rfl) | exact Or.inr (Or.inr rfl)) (hd : (y == ("__debug__" : Str)) = false := by decide) (hcd : (y == ("__classdict__" : Str)) = false := by decide) (he : starEach [.Name y p2] X.env = (false, eval (.Name y p2) X.env) :: starEach [] X.env := by rfl) (hpl : (backTo pos (starEach [] X.env)).any (·.1) = false := by rfl) : EEm X K c E (.Call (.Name "abs" p) [.Name y p2] [] pos) (tCB (rAbs1 K) (tCons (tVar i) tNil)) (mCB1 (f1 vAbs) i) := pm_callB1 i (r := rAbs1) (call_abs) sc_abs hm hK hg (by decide +kernel) (by decide) (by decide) hN hvis hd hcd he hpl
theorem pm_str1 (hm : X.mg "str" = none) (ha : EEm X K c E a ta ma) (hg : Gl X "str" := by rfl) (he : starEach [a] X.env = (false, eval a X.env) :: starEach [] X.env := by rfl) (hpl : (backTo pos (starEach [] X.env)).any (·.1) = false := by rfl) : EEm X K c E (.Call (.Name "str" p) [a] [] pos) (tCB (rStrI K) (tCons ta tNil)) (mCB (f1 vStr) (mCons ma mNil)) := pm_callTy (r := rStrI) (call_str_int) sc_str hm (pam_cons ha (pam_nil ha.hK) he) hg (by decide +kernel) (by decide) (by decide) he hpl
theorem pm_str1B (i : Nat) {y : Str} {p2 : Pos} (hm : X.mg "str" = none) (hK : X.K = K := by rfl) (hg : Gl X "str" := by rfl) (hN : X.N[i]? = some y := by rfl) (hvis : Vis X.env.scope y := by first | exact Or.inl rfl | exact Or.inr (Or.inl rfl) | exact Or.inr (Or.inr rfl)) (hd : (y == ("__debug__" : Str)) = false := by decide) (hcd : (y == ("__classdict__" : Str)) = false := by decide) (he : starEach [.Name y p2] X.env = (false, eval (.Name y p2) X.env) :: starEach [] X.env := by rfl) (hpl : (backTo pos (starEach [] X.env)).any (·.1) = false := by rfl) : EEm X K c E (.Call (.Name "str" p) [.Name y p2] [] pos) (tCB (rStrI K) (tCons (tVar i) tNil)) (mCB1 (f1 vStr) i) := pm_callTy1 i (r := rStrI) (call_str_int) sc_str hm hK hg (by decide +kernel) (by decide) (by decide) hN hvis hd hcd he hpl
theorem pm_all (hc : X.calm = true) (hm : X.mg "all" = none) (ha : EEm X K c E a ta ma) (hg : Gl X "all" := by rfl) (he : starEach [a] X.env = (false, eval a X.env) :: starEach [] X.env := by rfl) (hpl : (backTo pos (starEach [] X.env)).any (·.1) = false := by rfl) : EEm X K c E (.Call (.Name "all" p) [a] [] pos) (tCB (rAll K) (tCons ta tNil)) (mCB (f1 vAll) (mCons ma mNil)) := pm_callB (r := rAll) (cr_all hc) sc_all hm (pam_cons ha (pam_nil ha.hK) he) hg (by decide +kernel) (by decide) (by decide) he hpl
theorem pm_allB (i : Nat) {y : Str} {p2 : Pos} (hc : X.calm = true) (hm : X.mg "all" = none) (hK : X.K = K := by rfl) (hg : Gl X "all" := by rfl) (hN : X.N[i]? = some y := by rfl) (hvis : Vis X.env.scope y := by first | exact Or.inl rfl | exact Or.inr (Or.inl rfl) | exact Or.inr (Or.inr rfl)) (hd : (y == ("__debug__" : Str)) = false := by decide) (hcd : (y == ("__classdict__" : Str)) = false := by decide) (he : starEach [.Name y p2] X.env = (false, eval (.Name y p2) X.env) :: starEach [] X.env := by rfl) (hpl : (backTo pos (starEach [] X.env)).any (·.1) = false := by rfl) : EEm X K c E (.Call (.Name "all" p) [.Name y p2] [] pos) (tCB (rAll K) (tCons (tVar i) tNil)) (mCB1 (f1 vAll) i) := pm_callB1 i (r := rAll) (cr_all hc) sc_all hm hK hg (by decide +kernel) (by decide) (by decide) hN hvis hd hcd he hpl
theorem pm_any (hc : X.calm = true) (hm : X.mg "any" = none) (ha : EEm X K c E a ta ma) (hg : Gl X "any" := by rfl) (he : starEach [a] X.env = (false, eval a X.env) :: starEach [] X.env := by rfl) (hpl : (backTo pos (starEach [] X.env)).any (·.1) = false := by rfl) : EEm X K c E (.Call (.Name "any" p) [a] [] pos) (tCB (rAny K) (tCons ta tNil)) (mCB (f1 vAny) (mCons ma mNil)) := pm_callB (r := rAny) (cr_any hc) sc_any hm (pam_cons ha (pam_nil ha.hK) he) hg (by decide +kernel) (by decide) (by decide) he hpl
theorem pm_anyB (i : Nat) {y : Str} {p2 : Pos} (hc : X.calm = true) (hm : X.mg "any" = none) (hK : X.K = K := by rfl) (hg : Gl X "any" := by rfl) (hN : X.N[i]? = some y := by rfl) (hvis : Vis X.env.scope y := by first | exact Or.inl rfl | exact Or.inr (Or.inl rfl) | exact Or.inr (Or.inr rfl)) (hd : (y == ("__debug__" : Str)) = false := by decide) (hcd : (y == ("__classdict__" : Str)) = false := by decide) (he : starEach [.Name y p2] X.env = (false, eval (.Name y p2) X.env) :: starEach [] X.env := by rfl) (hpl : (backTo pos (starEach [] X.env)).any (·.1) = false := by rfl) : EEm X K c E (.Call (.Name "any" p) [.Name y p2] [] pos) (tCB (rAny K) (tCons (tVar i) tNil)) (mCB1 (f1 vAny) i) := pm_callB1 i (r := rAny) (cr_any hc) sc_any hm hK hg (by decide +kernel) (by decide) (by decide) hN hvis hd hcd he hpl
theorem pm_sum (hc : X.calm = true) (hm : X.mg "sum" = none) (ha : EEm X K c E a ta ma) (hg : Gl X "sum" := by rfl) (he : starEach [a] X.env = (false, eval a X.env) :: starEach [] X.env := by rfl) (hpl : (backTo pos (starEach [] X.env)).any (·.1) = false := by rfl) : EEm X K c E (.Call (.Name "sum" p) [a] [] pos) (tCB (rSum K) (tCons ta tNil)) (mCB (f1 vSum) (mCons ma mNil)) := pm_callB (r := rSum) (cr_sum hc) sc_sum hm (pam_cons ha (pam_nil ha.hK) he) hg (by decide +kernel) (by decide) (by decide) he hpl
theorem pm_sumB (i : Nat) {y : Str} {p2 : Pos} (hc : X.calm = true) (hm : X.mg "sum" = none) (hK : X.K = K := by rfl) (hg : Gl X "sum" := by rfl) (hN : X.N[i]? = some y := by rfl) (hvis : Vis X.env.scope y := by first | exact Or.inl rfl | exact Or.inr (Or.inl rfl) | exact Or.inr (Or.inr rfl)) (hd : (y == ("__debug__" : Str)) = false := by decide) (hcd : (y == ("__classdict__" : Str)) = false := by decide) (he : starEach [.Name y p2] X.env = (false, eval (.Name y p2) X.env) :: starEach [] X.env := by rfl) (hpl : (backTo pos (starEach [] X.env)).any (·.1) = false := by rfl) : EEm X K c E (.Call (.Name "sum" p) [.Name y p2] [] pos) (tCB (rSum K) (tCons (tVar i) tNil)) (mCB1 (f1 vSum) i) := pm_callB1 i (r := rSum) (cr_sum hc) sc_sum hm hK hg (by decide +kernel) (by decide) (by decide) hN hvis hd hcd he hpl
theorem pm_max2 (hc : X.calm = true) (hm : X.mg "max" = none) (ha : EEm X K c E a ta ma) (hb : EEm X K c E b tb mb) (hg : Gl X "max" := by rfl) (he : starEach [a, b] X.env = (false, eval a X.env) :: starEach [b] X.env := by rfl) (he2 : starEach [b] X.env = (false, eval b X.env) :: starEach [] X.env := by rfl) (hpl : (backTo pos (starEach [b] X.env)).any (·.1) = false := by rfl) : EEm X K c E (.Call (.Name "max" p) [a, b] [] pos) (tCB (rMax2 K) (tCons ta (tCons tb tNil))) (mCB (f2 vMax2) (mCons ma (mCons mb mNil))) := pm_callB (r := rMax2) (call_max2 hc) sc_max2 hm (pam_cons ha (pam_cons hb (pam_nil ha.hK) he2) he) hg (by decide +kernel) (by decide) (by decide) he hpl
theorem pm_min2 (hc : X.calm = true) (hm : X.mg "min" = none) (ha : EEm X K c E a ta ma) (hb : EEm X K c E b tb mb) (hg : Gl X "min" := by rfl) (he : starEach [a, b] X.env = (false, eval a X.env) :: starEach [b] X.env := by rfl) (he2 : starEach [b] X.env = (false, eval b X.env) :: starEach [] X.env := by rfl) (hpl : (backTo pos (starEach [b] X.env)).any (·.1) = false := by rfl) : EEm X K c E (.Call (.Name "min" p) [a, b] [] pos) (tCB (rMin2 K) (tCons ta (tCons tb tNil))) (mCB (f2 vMin2) (mCons ma (mCons mb mNil))) := pm_callB (r := rMin2) (call_min2 hc) sc_min2 hm (pam_cons ha (pam_cons hb (pam_nil ha.hK) he2) he) hg (by decide +kernel) (by decide) (by decide) he hpl
theorem pn_list (hm : X.mg "list" = none) (ha : EEm X K c E a ta ma) (hg : Gl X "list" := by rfl) (he : starEach [a] X.env = (false, eval a X.env) :: starEach [] X.env := by rfl) (hpl : (backTo pos (starEach [] X.env)).any (·.1) = false := by rfl) : ENm X K c E (.Call (.Name "list" p) [a] [] pos) (tCB (rListOf K) (tCons ta tNil)) (nList ma) := by
  obtain ⟨rfl, pa, sa⟩ := ha
  exact ⟨rfl, pe_callTy call_list_of hg hm (by decide +kernel) (pa_cons pa pa_nil he) (by decide) (by decide) he hpl, sn_list sa⟩
theorem pm_isTy {T : Str} {n : String} {p2 : Pos} (hm : X.mg "isinstance" = none) (hmT : X.mg T = none) (ha : EEm X K c E a ta ma) (hvT : bootBuiltins T = some (.type n) := by decide +kernel) (hg : Gl X "isinstance" := by rfl) (hgT : Gl X T := by rfl)
    (hnT : T ≠ "__name__" := by decide) (hdT : (T == ("__debug__" : Str)) = false := by decide)
    (he : starEach [a, .Name T p2] X.env = (false, eval a X.env) :: starEach [.Name T p2] X.env := by rfl) (he2 : starEach [.Name T p2] X.env = (false, eval (.Name T p2) X.env) :: starEach [] X.env := by rfl) (hpl : (backTo pos (starEach [.Name T p2] X.env)).any (·.1) = false := by rfl) :
    EEm X K c E (.Call (.Name "isinstance" p) [a, .Name T p2] [] pos) (tCB (rIsi K) (tCons ta (tCons (tC (.ty n)) tNil))) (mIsTy n ma) := by
  obtain ⟨rfl, pa, sa⟩ := ha
  exact ⟨rfl, pe_callB call_isi hg hm (by decide +kernel) (pa_cons pa (pa_cons (pe_bltn (v := .ty n) hgT hmT hvT rfl hnT hdT) pa_nil he2) he) (by decide) (by decide) he hpl, sim_isTy sa⟩
theorem pm_join {apos : Pos} (ha : EEm X K c E a ta ma) (hb : EEm X K c E b tb mb) (hs : starEach [b] X.env = [(false, eval (b) X.env)] := by rfl) (hbase : attributeBase a "join" X.env (eval a X.env) = eval a X.env := by rfl) (hline : (apos.endLine == pos.line) = true := by rfl) : EEm X K c E (.Call (.Attribute a "join" apos) [b] [] pos) (tM1 (rJoin K) ta tb) (mM1 vJoin ma mb) := by
  obtain ⟨rfl, pa, sa⟩ := ha
  exact ⟨rfl, pe_join pa hb.p hs hbase hline, sim_join sa hb.s⟩
theorem pm_joinB (i : Nat) {y : Str} {p2 : Pos} {apos : Pos} (ha : EEm X K c E a ta ma) (hN : X.N[i]? = some y := by rfl) (hvis : Vis X.env.scope y := by first | exact Or.inl rfl | exact Or.inr (Or.inl rfl) | exact Or.inr (Or.inr rfl)) (hd : (y == ("__debug__" : Str)) = false := by decide) (hcd : (y == ("__classdict__" : Str)) = false := by decide) (hs : starEach [.Name y p2] X.env = [(false, eval (.Name y p2) X.env)] := by rfl) (hbase : attributeBase a "join" X.env (eval a X.env) = eval a X.env := by rfl) (hline : (apos.endLine == pos.line) = true := by rfl) : EEm X K c E (.Call (.Attribute a "join" apos) [.Name y p2] [] pos) (tM1 (rJoin K) ta (tVar i)) (mM1B vJoin ma i) := by
  obtain ⟨rfl, pa, sa⟩ := ha
  exact ⟨rfl, pe_join pa (pv i hN hvis hd hcd) hs hbase hline, sim_joinB sa⟩
theorem pm_ix (ha : EEm X K c E a ta ma) (hb : EEm X K c E b tb mb) (hs : PlainIx b := by intro _ _; rfl) : EEm X K c E (.Subscript a b pos) (tOp (rIx K) ta tb) (mOp fIx ma mb) := by
  obtain ⟨rfl, pa, sa⟩ := ha
  exact ⟨rfl, pe_ix ix_seq pa hb.p hs, sim_op sr_ix sa hb.s⟩
theorem pm_ixB (i : Nat) {y : Str} {p2 : Pos} (hb : EEm X K c E b tb mb) (hs : PlainIx b := by intro _ _; rfl) (hN : X.N[i]? = some y := by rfl) (hvis : Vis X.env.scope y := by first | exact Or.inl rfl | exact Or.inr (Or.inl rfl) | exact Or.inr (Or.inr rfl)) (hd : (y == ("__debug__" : Str)) = false := by decide) (hcd : (y == ("__classdict__" : Str)) = false := by decide) : EEm X K c E (.Subscript (.Name y p2) b pos) (tOp (rIx K) (tVar i) tb) (mIxB fIx i mb) := by
  obtain ⟨rfl, pb, sb⟩ := hb
  exact ⟨rfl, pe_ix ix_seq (pv i hN hvis hd hcd) pb hs, sim_opB sr_ix sb⟩
theorem pm_call {k n : Nat} {f : Addr} {fd : FuncData} {ps : List Str} {m : List Val → MHp → RE Val} {dv : List Val} {dvs : List V} {ds : List Value} (F : FnOk X.prog X.w X.K X.mg X.base (L2.CX X.prog X.w) k f fd ps (spM K c n m)) (hr : Room k X.A) (hm : X.mg x = some (.ref f)) (hk : PySem.W.keepIn X.K (.ref f) = true) (hb : Binds X.K fd ps ds) (hd : Vals dvs ds) (hdv : ∀ G ι, VRs K c G ι dv dvs) (hlen : ∀ vs h, vs.length ≠ n → m vs h = .fail) (tk : Takes X E) (ha : EAm X K c E (e :: es) tr mr) (hg : Gl X x := by rfl) (hdb : (x == ("__debug__" : Str)) = false := by decide) (he : starEach (e :: es) X.env = (false, eval e X.env) :: starEach es X.env := by rfl) (hpl : (backTo pos (starEach es X.env)).any (·.1) = false := by rfl) : EEm X K c E (.Call (.Name x p) (e :: es) [] pos) (tCallSD (spM K c n m) dvs (WE E) tr) (mCall m dv mr) := by
  obtain ⟨rfl, pr, sr⟩ := ha
  exact ⟨rfl, pe_callSD F hr hg hm hk hb hd (passAt tk) pr hdb he hpl, sim_call hdv hlen sr⟩
theorem pe_callSD0 {k : Nat} {f : Addr} {fd : FuncData} {ps : List Str} {sp : Sp} {dvs : List V} {ds : List Value} {W : L2.St → XK} (F : FnOk X.prog X.w X.K X.mg X.base (L2.CX X.prog X.w) k f fd ps sp) (hr : Room k X.A) (hg : Gl X x) (hm : X.mg x = some (.ref f)) (hk : PySem.W.keepIn X.K (.ref f) = true) (hb : Binds X.K fd ps ds) (hd : Vals dvs ds) (hx : ∀ σ, PassesAt (L2.CX X.prog X.w) X σ (W σ))
    (hdb : (x == ("__debug__" : Str)) = false := by decide) : PE X (.Call (.Name x p) [] [] pos) (tCallSD sp dvs W tNil) := by
  refine ⟨fun pins s σ H Q I h => ?_⟩
  refine wpAny_Call_Name_kw (ld_glob I hg hm ?_ hdb)
  exact PySem.W.callWith_K0 I.kIn hk (run_fnSD (us := []) F hr hb hd (hx σ) I .nil h)
theorem pm_call0 {k n : Nat} {f : Addr} {fd : FuncData} {ps : List Str} {m : List Val → MHp → RE Val} {dv : List Val} {dvs : List V} {ds : List Value} (F : FnOk X.prog X.w X.K X.mg X.base (L2.CX X.prog X.w) k f fd ps (spM K c n m)) (hr : Room k X.A) (hm : X.mg x = some (.ref f)) (hk : PySem.W.keepIn X.K (.ref f) = true) (hb : Binds X.K fd ps ds) (hd : Vals dvs ds) (hdv : ∀ G ι, VRs K c G ι dv dvs) (hlen : ∀ vs h, vs.length ≠ n → m vs h = .fail) (tk : Takes X E) (hK : X.K = K := by rfl) (hg : Gl X x := by rfl) (hdb : (x == ("__debug__" : Str)) = false := by decide) : EEm X K c E (.Call (.Name x p) [] [] pos) (tCallSD (spM K c n m) dvs (WE E) tNil) (mCall m dv mNil) := by
  subst hK
  exact ⟨rfl, pe_callSD0 F hr hg hm hk hb hd (passAt tk) hdb, sim_call hdv hlen sim_nil⟩
variable {tg iter elt : Expr} {tgm : TgM} {is : List Nat} {it : EM (List Val)} {wi : TI} {g : TG}
theorem pgm_name (i : Nat) {y : Str} {p2 : Pos} (hN : X.N.Nodup) (hK : X.K = K := by rfl) (hi : X.N[i]? = some y := by rfl) (hx : Loc X.env.scope y := by first | exact Or.inl rfl | exact Or.inr rfl) (hf : X.fn y = true ∨ X.env.scope.names.lookup y = some .local := by first | exact .inl rfl | exact .inr rfl) : EGm X K c (.Name y p2) [i] (gName i) (gmName i) := ⟨hK, pg_name hN hi hx hf, sg_name i⟩
theorem pgsm_nil (hK : X.K = K := by rfl) : EGsm X K c [] [] gNil gmNil := ⟨hK, pgs_nil, sgs_nil⟩
theorem pgsm_cons {t : Expr} {ts : List Expr} {js : List Nat} {gs : TGs} {gms : TgsM} (h1 : EGm X K c t is g tgm) (h2 : EGsm X K c ts js gs gms) (hs : (assignEach (t :: ts) X.env).map (·.2) = assign t X.env :: (assignEach ts X.env).map (·.2) := by rfl) : EGsm X K c (t :: ts) (is ++ js) (gCons g gs) (gmCons tgm gms) := ⟨h1.hK, pgs_cons h1.p h2.p hs, sgs_cons h1.s h2.s⟩
theorem pgm_tup {ts : List Expr} {k n : Nat} {gs : TGs} {gms : TgsM} (hc : X.calm = true) (h : EGsm X K c ts is gs gms) (hn : (assignEach ts X.env).length = n := by rfl) (hst : (assignEach ts X.env).findIdx? (·.1) = none := by rfl) : EGm X K c (.Tuple ts k pos) is (gTup K n gs) (gmTup n gms) := by
  obtain ⟨rfl, p1, s1⟩ := h
  exact ⟨rfl, pg_tup hc p1 hn hst, sg_tup s1⟩
theorem pim_seq (ha : EEm X K c E iter ta ma) : EIm X K c E tg iter (iSeq K ta) (mSeq ma) := by
  obtain ⟨rfl, pa, sa⟩ := ha
  exact ⟨rfl, pi_seq pa, sim_seq sa⟩
theorem pim_range1 (hm : X.mg "range" = none) (hr : EAm X K c E [a] tr mr) (hg : Gl X "range" := by rfl) (hs : starEach [a] X.env = [(false, eval a X.env)] := by rfl) : EIm X K c E tg (.Call (.Name "range" p) [a] [] pos) (iRng1 tr) (mRange1 mr) := ⟨hr.hK, pi_range1 hg hm hr.p hs, sim_range1 hr.s⟩
theorem ptsm_nil (hK : X.K = K := by rfl) : ETsm X K c E [] tYes (EM.pure true) := ⟨hK, pts_nil, fun B G ι h H ρ σ Q hs hp => Post.pure (R := RB) (x := true) hp hs rfl⟩
theorem ptsm_one (h : ETm X K c E a t1 m1) : ETsm X K c E [a] t1 m1 := ⟨h.hK, pts_one h.p, h.s⟩
theorem takes_blk {s : Shared} {H : Hp} {scope : Scope} {cenv : Env} {fp : List Addr} : Takes (X.blk s H scope cenv fp) E0W := takes0
theorem pn_comp (s0 : Shared) {ifs : List Expr} {scope : Scope} {own : List (Str × Nat)} {te : TE} {tt : TT} {cond : EM Bool} {me : EM Val} (hc : X.calm = true) (hN : X.N.Nodup) (hi : EIm X K c E tg iter wi it) (ok : BlkOk X.N X.env.scope scope own) (hg : ∀ (s : Shared) (H : Hp) (C : Addr) (cl : List (Str × Addr)) (fp : List Addr), EGm (X.blk s H scope (compEnvC scope cl C X.env) fp) K c tg is g tgm) (ht : ∀ (s : Shared) (H : Hp) (C : Addr) (cl : List (Str × Addr)) (fp : List Addr), ETsm (X.blk s H scope (compEnvC scope cl C X.env) fp) K c E0W ifs tt cond) (he : ∀ (s : Shared) (H : Hp) (C : Addr) (cl : List (Str × Addr)) (fp : List Addr), EEm (X.blk s H scope (compEnvC scope cl C X.env) fp) K c E0W elt te me) (his : ∀ i ∈ is, i ∈ own.map (·.2) := by decide) (hs : ∀ x, foldedSetIterable iter X.env x = pure x := by intro _; rfl) : ENm X K c E (.ListComp elt [⟨tg, iter, ifs, 0⟩] scope pos) (tLc wi g tt te (own.map (·.2))) (mCompN it tgm cond me (own.map (·.2))) := ⟨hi.hK, pe_lc hc hN hi.p ok (fun s H C cl fp => (hg s H C cl fp).p) (fun s H C cl fp => (ht s H C cl fp).p) (fun s H C cl fp => (he s H C cl fp).p) hs, sim_comp hi.s (hg s0 (fun _ => none) 0 [] []).s his (ht s0 (fun _ => none) 0 [] []).s (he s0 (fun _ => none) 0 [] []).s⟩
variable {st : Stmt} {rest : List Stmt} {ts tu : TS} {s1 s2 : SM}
theorem bm_nil (hK : X.K = K := by rfl) : EBm X K c E [] tNext sSkip := ⟨hK, pss_nil, ss_skip⟩
theorem bm_cons (h1 : ESm X K c E st ts s1) (h2 : EBm X K c E rest tu s2) : EBm X K c E (st :: rest) (tSeq ts tu) (sSeq s1 s2) := ⟨h1.hK, pss_cons h1.p h2.p, ss_seq h1.s h2.s⟩
theorem bm_one (h1 : ESm X K c E st ts s1) : EBm X K c E [st] ts s1 := ⟨h1.hK, pss_one h1.p, h1.s⟩
theorem sm_pass (hK : X.K = K := by rfl) : ESm X K c E (.Pass pos) tNext sSkip := ⟨hK, ps_pass, ss_skip⟩
theorem sm_doc {y j p2} (hK : X.K = K := by rfl) : ESm X K c E (.Expr (.Constant (.str y) j p2) pos) tNext sSkip := ⟨hK, ps_doc, ss_skip⟩
theorem sm_brk (hK : X.K = K := by rfl) : ESm X K c E (.Break pos) tBreak sBrk := ⟨hK, ps_break, ss_brk⟩
theorem sm_cont (hK : X.K = K := by rfl) : ESm X K c E (.Continue pos) tCont sCont := ⟨hK, ps_continue, ss_cont⟩
theorem sm_ret (ha : EEm X K c E a ta ma) : ESm X K c E (.Return (some a) pos) (tRet ta) (sRet ma) := ⟨ha.hK, ps_ret ha.p, ss_ret ha.s⟩
theorem sm_retN (hK : X.K = K := by rfl) : ESm X K c E (.Return none pos) tRetN sRetN := ⟨hK, ps_retN, ss_retN⟩
theorem sm_expr (ha : EEm X K c E a ta ma) (hs : swapsWith a none pos.line X.env = pure false := by rfl) : ESm X K c E (.Expr a pos) (tDrop ta) (sDrop ma) := ⟨ha.hK, ps_expr ha.p hs, ss_drop ha.s⟩
theorem sm_if {q r : List Stmt} (h1 : ETm X K c E d t1 m1) (ha : EBm X K c E q ts s1) (hb : EBm X K c E r tu s2) : ESm X K c E (.If d q r pos) (tIfS t1 ts tu) (sIf m1 s1 s2) := ⟨h1.hK, ps_if h1.p ha.p hb.p, ss_if h1.s ha.s hb.s⟩
theorem sm_set (i : Nat) {y : Str} {p2 : Pos} (ha : EEm X K c E a ta ma) (hN : X.N.Nodup) (hi : X.N[i]? = some y := by rfl) (hx : Loc X.env.scope y := by first | exact Or.inl rfl | exact Or.inr rfl) (hs : swapsWith a (some (.Name y p2)) pos.line X.env = pure false := by rfl) (hf : X.fn y = true ∨ X.env.scope.names.lookup y = some .local := by first | exact .inl rfl | exact .inr rfl) : ESm X K c E (.Assign [.Name y p2] a pos) (tAsg ta (gName i)) (sSet i ma) := ⟨ha.hK, ps_set hN hi hx ha.p hs hf, ss_set i ha.s⟩
theorem sm_own (i : Nat) {y : Str} {p2 : Pos} (ha : ENm X K c E a ta mn) (hN : X.N.Nodup) (hi : X.N[i]? = some y := by rfl) (hx : Loc X.env.scope y := by first | exact Or.inl rfl | exact Or.inr rfl) (hs : swapsWith a (some (.Name y p2)) pos.line X.env = pure false := by rfl) (hf : X.fn y = true ∨ X.env.scope.names.lookup y = some .local := by first | exact .inl rfl | exact .inr rfl) : ESm X K c E (.Assign [.Name y p2] a pos) (tAsg ta (gName i)) (sOwn i mn) := ⟨ha.hK, ps_set hN hi hx ha.p hs hf, ss_own i ha.s⟩
theorem sm_asg {t : Expr} (ha : EEm X K c E a ta ma) (hg : EGm X K c t is g tgm) (hs : swapsWithSole [t] a pos.line X.env = pure false := by rfl) (hw : swappedStores [t] a X.env = pure none := by rfl) (h1 : (assignEach [t] X.env).map (·.2) = [assign t X.env] := by rfl) : ESm X K c E (.Assign [t] a pos) (tAsg ta g) (sAsg tgm ma) := ⟨ha.hK, ps_asg ha.p hg.p hs hw h1, ss_asg ha.s hg.s⟩
theorem sm_setC {y : Str} {p2 p3 : Pos} (s0 : Shared) (i : Nat) {ifs : List Expr} {scope : Scope} {own : List (Str × Nat)} {te : TE} {tt : TT} {cond : EM Bool} {me : EM Val} (hc : X.calm = true) (hN : X.N.Nodup) (hi : EIm X K c E tg iter wi it) (ok : BlkOk X.N X.env.scope scope own) (hg : ∀ (s : Shared) (H : Hp) (C : Addr) (cl : List (Str × Addr)) (fp : List Addr), EGm (X.blk s H scope (compEnvC scope cl C X.env) fp) K c tg is g tgm) (ht : ∀ (s : Shared) (H : Hp) (C : Addr) (cl : List (Str × Addr)) (fp : List Addr), ETsm (X.blk s H scope (compEnvC scope cl C X.env) fp) K c E0W ifs tt cond) (he : ∀ (s : Shared) (H : Hp) (C : Addr) (cl : List (Str × Addr)) (fp : List Addr), EEm (X.blk s H scope (compEnvC scope cl C X.env) fp) K c E0W elt te me) (his : ∀ i ∈ is, i ∈ own.map (·.2) := by decide) (hs : ∀ x, foldedSetIterable iter X.env x = pure x := by intro _; rfl) (hy : X.N[i]? = some y := by rfl) (hyl : X.env.scope.names.lookup y = some .local := by rfl) (hsw : swapsWith (.ListComp elt [⟨tg, iter, ifs, 0⟩] scope p3) (some (.Name y p2)) pos.line X.env = pure true := by exact sw_true rfl rfl rfl (by decide +kernel)) : ESm X K c E (.Assign [.Name y p2] (.ListComp elt [⟨tg, iter, ifs, 0⟩] scope p3) pos) (tAsg (tLc wi g tt te (own.map (·.2))) (gName i)) (sSet i (mKnow (mCompN it tgm cond me (own.map (·.2))))) := ⟨hi.hK, ps_setLc hc hN hy hyl hsw hi.p ok (fun s H C cl fp => (hg s H C cl fp).p) (fun s H C cl fp => (ht s H C cl fp).p) (fun s H C cl fp => (he s H C cl fp).p) hs, ss_set i (SimN.sim (sim_comp hi.s (hg s0 (fun _ => none) 0 [] []).s his (ht s0 (fun _ => none) 0 [] []).s (he s0 (fun _ => none) 0 [] []).s))⟩
theorem sm_ownC {y : Str} {p2 p3 : Pos} (s0 : Shared) (i : Nat) {ifs : List Expr} {scope : Scope} {own : List (Str × Nat)} {te : TE} {tt : TT} {cond : EM Bool} {me : EM Val} (hc : X.calm = true) (hN : X.N.Nodup) (hi : EIm X K c E tg iter wi it) (ok : BlkOk X.N X.env.scope scope own) (hg : ∀ (s : Shared) (H : Hp) (C : Addr) (cl : List (Str × Addr)) (fp : List Addr), EGm (X.blk s H scope (compEnvC scope cl C X.env) fp) K c tg is g tgm) (ht : ∀ (s : Shared) (H : Hp) (C : Addr) (cl : List (Str × Addr)) (fp : List Addr), ETsm (X.blk s H scope (compEnvC scope cl C X.env) fp) K c E0W ifs tt cond) (he : ∀ (s : Shared) (H : Hp) (C : Addr) (cl : List (Str × Addr)) (fp : List Addr), EEm (X.blk s H scope (compEnvC scope cl C X.env) fp) K c E0W elt te me) (his : ∀ i ∈ is, i ∈ own.map (·.2) := by decide) (hs : ∀ x, foldedSetIterable iter X.env x = pure x := by intro _; rfl) (hy : X.N[i]? = some y := by rfl) (hyl : X.env.scope.names.lookup y = some .local := by rfl) (hsw : swapsWith (.ListComp elt [⟨tg, iter, ifs, 0⟩] scope p3) (some (.Name y p2)) pos.line X.env = pure true := by exact sw_true rfl rfl rfl (by decide +kernel)) : ESm X K c E (.Assign [.Name y p2] (.ListComp elt [⟨tg, iter, ifs, 0⟩] scope p3) pos) (tAsg (tLc wi g tt te (own.map (·.2))) (gName i)) (sOwn i (mCompN it tgm cond me (own.map (·.2)))) := ⟨hi.hK, ps_setLc hc hN hy hyl hsw hi.p ok (fun s H C cl fp => (hg s H C cl fp).p) (fun s H C cl fp => (ht s H C cl fp).p) (fun s H C cl fp => (he s H C cl fp).p) hs, ss_own i (id (sim_comp hi.s (hg s0 (fun _ => none) 0 [] []).s his (ht s0 (fun _ => none) 0 [] []).s (he s0 (fun _ => none) 0 [] []).s))⟩
theorem sm_setItem (i : Nat) {y : Str} {p2 tpos : Pos} (hv : EEm X K c E a ta ma) (he : EEm X K c E b tb mb) (hN : X.N[i]? = some y := by rfl) (hvis : Vis X.env.scope y := by first | exact Or.inl rfl | exact Or.inr (Or.inl rfl) | exact Or.inr (Or.inr rfl)) (hd : (y == ("__debug__" : Str)) = false := by decide) (hcd : (y == ("__classdict__" : Str)) = false := by decide) (hs : swapsWithSole [.Subscript (.Name y p2) b tpos] a pos.line X.env = pure false := by rfl) (hw : swappedStores [.Subscript (.Name y p2) b tpos] a X.env = pure none := by rfl) (h1 : (assignEach [.Subscript (.Name y p2) b tpos] X.env).map (·.2) = [assign (.Subscript (.Name y p2) b tpos) X.env] := by rfl)
    (hsub : ∀ v, assign (.Subscript (.Name y p2) b tpos) X.env v = (do
      let ov ← holding [v] (eval (.Name y p2) X.env)
      let iv ← holding [v, ov] (eval b X.env)
      standAt tpos
      holding [v, ov, iv] (setItem ov iv v)
      release [v, ov, iv] []) := by intro _; rfl) :
    ESm X K c E (.Assign [.Subscript (.Name y p2) b tpos] a pos) (tAsg ta (gSub (tVar i) tb rSetL)) (sSetItem i mb ma) := ⟨hv.hK, ps_asg hv.p (pg_sub (pv i hN hvis hd hcd) he.p set_list hsub) hs hw h1, ss_setItem hv.s he.s⟩
theorem sm_for {body : List Stmt} (hp : PassesOwn (model X.prog X.w) X.A X.env X.xe) (hc : X.calm = true) (hi : EIm X K c E tg iter wi it) (hg : EGm X K c tg is g tgm) (hb : EBm X K c E body ts s1) (hs : ∀ x, foldedSetIterable iter X.env x = pure x := by intro _; rfl) : ESm X K c E (.For tg iter body [] pos) (tFor wi g ts) (sFor it tgm s1) := ⟨hi.hK, ps_for hp hc hi.p hg.p hb.p hs, ss_for hi.s hg.s hb.s⟩
theorem sm_while (n : Nat) {body : List Stmt} (hp : PassesOwn (model X.prog X.w) X.A X.env X.xe) (h1 : ETm X K c E d t1 m1) (hb : EBm X K c E body ts s1) : ESm X K c E (.While d body [] pos) (tWhile t1 ts) (whileLoop m1 s1 n) := ⟨h1.hK, ps_while hp h1.p hb.p, ss_while n h1.s hb.s⟩
theorem EBm.psm (h : EBm X K c E rest ts s1) : X.K = K → PSsm X c E rest s1 := fun _ => by
  obtain ⟨rfl, p, s⟩ := h
  exact ⟨_, p, s⟩
end
end Mir

set_option Elab.async false
set_option linter.all false
set_option maxRecDepth 100000
set_option maxHeartbeats 4000000
namespace Mir
open PySem PySem.Spec PyProof.Rows L2

/-- a def of the text, as it stands behind the top, with its mirror -/
structure Dn (P : Program) (w : World) (K : PySem.W.Frag) (mg : Str → Option Value) (base : Heap) (c : Ctx) (x : Str) (k n : Nat) (dv : List Val) (dvs : List V) (m : List Val → MHp → RE Val) : Prop where
  ex : ∃ (f : Addr) (fd : FuncData) (ps : List Str) (ds : List Value), mg x = some (.ref f) ∧ PySem.W.keepIn K (.ref f) = true ∧ Binds K fd ps ds ∧ Vals dvs ds ∧ FnOk P w K mg base (L2.CX P w) k f fd ps (spM K c n m)
  dr : ∀ G ι, VRs K c G ι dv dvs
  len : ∀ vs h, vs.length ≠ n → m vs h = .fail
theorem Dn.mk0 {P : Program} {w : World} {K : PySem.W.Frag} {mg : Str → Option Value} {base : Heap} {c : Ctx} {x : Str} {k n : Nat} {m : List Val → MHp → RE Val} {f : Addr} {fd : FuncData} {ps : List Str}
    (F : FnOk P w K mg base (L2.CX P w) k f fd ps (spM K c n m)) (hm : mg x = some (.ref f)) (hk : PySem.W.keepIn K (.ref f) = true) (hb : Binds K fd ps []) (len : ∀ vs h, vs.length ≠ n → m vs h = .fail) : Dn P w K mg base c x k n [] [] m :=
  ⟨⟨f, fd, ps, [], hm, hk, hb, .nil, F⟩, fun _ _ => .nil, len⟩

/-! == of lists of different lengths, items whatever -/
def lstOf : Val → Option (List Val)
  | .lst vs => some vs
  | .fz vs => some vs
  | _ => none
def eqX (x y : Val) : Option Bool := match lstOf x, lstOf y with
  | some vs, some ws => if vs.length = ws.length then eqD x y else some false
  | _, _ => eqD x y
def fEqX : Val → Val → Option Val := fun x y => (eqX x y).map .bl
def rEqL (K : PySem.W.Frag) : R2 := fun x y H Q => ∃ a b xs ys, x = .ref a ∧ y = .ref b ∧ SqL K H a xs ∧ SqL K H b ys ∧ xs.length ≠ ys.length ∧ Q (.bl false) H
def rEqX (K : PySem.W.Frag) : R2 := fun x y H Q => rEqL K x y H Q ∨ rEqD K x y H Q
theorem op_eqL {X : Cx} (hu : X.A.units < cLine) : OpR X (compareOp .Eq) (rEqL X.K) := by
  intro pins s σ H x y v u Q I rx ry h
  obtain ⟨a, b, xs, ys, rfl, rfl, ha, hb, hl, q⟩ := h
  cases rx; cases ry
  obtain ⟨its, rv, p, hz⟩ := I.list ha
  obtain ⟨its2, rv2, p2, hz2⟩ := I.list hb
  refine SeqAt.eq_list_lengthsAt p.isList p2.isList ?_ hu ⟨.bl _, H, I, rfl, q⟩
  have e1 := rv.length
  have e2 := rv2.length
  simp only [List.size_toArray, bne_iff_ne]
  omega
theorem lstOf_ok {K : PySem.W.Frag} {c : Ctx} {G H : Hp} {ι : List Addr} {v : Val} {x : V} {vs : List Val} (hl : Hle G H) (r : VH K c G ι H v x) (e : lstOf v = some vs) : ∃ a xs, x = .ref a ∧ SqL K H a xs ∧ xs.length = vs.length := by
  cases v <;> simp [lstOf] at e
  · obtain ⟨p, xs, rfl, hp, r⟩ := r; subst e; exact ⟨p, xs, rfl, .of hp, r.length.symm⟩
  · obtain ⟨p, xs, rfl, hp, r⟩ := VR.fzE r; subst e; exact ⟨p, xs, rfl, hl.sqL hp, r.length.symm⟩
theorem sr_eqX {K : PySem.W.Frag} {c : Ctx} : SimR2 K c (rEqX K) fEqX := SimR2.pure fun G ι H vx vy x y z hl rx ry e => by
  have base : ∀ b, eqD vx vy = some b → z = .bl b → ∃ zv, (∀ G' ι', VR K c G' ι' z zv) ∧ ∀ Q : VK, Q zv H → rEqX K x y H Q := fun b e' hz => by
    subst hz
    obtain ⟨d, d', e1, e2, s1, s2, rfl⟩ := eqD_ok e'
    exact ⟨_, fun _ _ => .bl _, fun Q q => .inr ⟨d, d', toD_okH hl rx e1, toD_okH hl ry e2, s1, s2, q⟩⟩
  unfold fEqX eqX at e
  simp only [Option.map_eq_some_iff] at e
  obtain ⟨b, e, rfl⟩ := e
  split at e
  · rename_i vs ws e1 e2
    split at e
    · exact base b e rfl
    · rename_i hne
      cases e
      obtain ⟨a, xs, rfl, ha, l1⟩ := lstOf_ok hl rx e1
      obtain ⟨a', ys, rfl, hb, l2⟩ := lstOf_ok hl ry e2
      exact ⟨_, fun _ _ => .bl _, fun Q q => .inl ⟨a, a', xs, ys, rfl, rfl, ha, hb, by omega, q⟩⟩
  · exact base b e rfl
theorem co_eqX {X : Cx} {K : PySem.W.Frag} {c : Ctx} (hu : X.A.units + 64 < cLine) : CmpOk X K c .Eq rEqX fEqX := ⟨OpR.or (op_eqL (by omega)) (op_eqD hu), sr_eqX⟩
section
variable {X : Cx} {K : PySem.W.Frag} {c : Ctx} {E : WX} {pos p : Pos} {e : Expr} {es : List Expr} {x : Str} {tr : TA} {mr : EM (List Val)} {ta tb : TE} {ma mb : EM Val}
theorem pm_callD {k k' n : Nat} {dv : List Val} {dvs : List V} {m : List Val → MHp → RE Val} (D : Dn X.prog X.w X.K X.mg X.base c x k n dv dvs m) (hr : Room k' X.A) (tk : Takes X E) (ha : EAm X K c E (e :: es) tr mr) (hk : k ≤ k' := by decide)
    (hg : Gl X x := by rfl) (hdb : (x == ("__debug__" : Str)) = false := by decide) (he : starEach (e :: es) X.env = (false, eval e X.env) :: starEach es X.env := by rfl) (hpl : (backTo pos (starEach es X.env)).any (·.1) = false := by rfl) :
    EEm X K c E (.Call (.Name x p) (e :: es) [] pos) (tCallSD (spM K c n m) dvs (WE E) tr) (mCall m dv mr) := by
  obtain ⟨rfl, pr, sr⟩ := ha
  obtain ⟨⟨f, fd, ps, ds, hm, hkp, hb, hd, F⟩, hdv, hlen⟩ := D
  exact ⟨rfl, pe_callSD F (hr.mono hk) hg hm hkp hb hd (passAt tk) pr hdb he hpl, sim_call hdv hlen sr⟩
theorem pm_callD0 {k k' n : Nat} {dv : List Val} {dvs : List V} {m : List Val → MHp → RE Val} (D : Dn X.prog X.w X.K X.mg X.base c x k n dv dvs m) (hr : Room k' X.A) (tk : Takes X E) (hK : X.K = K := by rfl) (hk : k ≤ k' := by decide)
    (hg : Gl X x := by rfl) (hdb : (x == ("__debug__" : Str)) = false := by decide) : EEm X K c E (.Call (.Name x p) [] [] pos) (tCallSD (spM K c n m) dvs (WE E) tNil) (mCall m dv mNil) := by
  subst hK
  obtain ⟨⟨f, fd, ps, ds, hm, hkp, hb, hd, F⟩, hdv, hlen⟩ := D
  exact ⟨rfl, pe_callSD0 F (hr.mono hk) hg hm hkp hb hd (passAt tk) hdb, sim_call hdv hlen sim_nil⟩
/-! a, b = x, y -/
def sPar (i j : Nat) (r : EM (List Val)) : SM := EM.bind r fun vs ρ h => match vs with
  | [v, w] => .ok .next ((ρ.set i (.val v)).set j (.val w)) h
  | _ => .fail
theorem ss_par {i j : Nat} (hr : Sim K c (RVs K c) E tr mr) : SimS K c E (tPar i j tr) (sPar i j mr) := by
  intro B G ι h H ρ σ D hs hp
  refine hr.bindS hs hp fun G1 ι1 h1 H1 ρ1 vs xs a1 b1 s1 r1 p1 => ?_
  split at p1
  · rename_i v w
    obtain ⟨x, ys, rfl, rx, r2⟩ := r1.consE
    obtain ⟨y, zs, rfl, ry, r3⟩ := r2.consE
    obtain rfl := r3.nilE
    exact ⟨x, y, rfl, p1 G1 ι1 H1 _ (Hle.refl _) (Ile.refl _) ((s1.set rx).set ry)⟩
  · exact p1.elim
theorem sm_par (i j : Nat) {y z : Str} {a b : Expr} {px py pt : Pos} {kt k2 pt2} (hc : X.calm = true) (hN : X.N.Nodup) (ha : EAm X K c E [a, b] tr mr) (hi : X.N[i]? = some y := by rfl) (hj : X.N[j]? = some z := by rfl) (hij : i ≠ j := by decide)
    (hx : X.env.scope.names.lookup y = some .local := by rfl) (hy : X.env.scope.names.lookup z = some .local := by rfl)
    (hw : swappedStores [.Tuple [.Name y px, .Name z py] kt pt] (.Tuple [a, b] k2 pt2) X.env = pure (some [y, z]) := by rfl)
    (hs : swapsWithSole [.Tuple [.Name y px, .Name z py] kt pt] (.Tuple [a, b] k2 pt2) pos.line X.env = pure false := by rfl) :
    ESm X K c E (.Assign [.Tuple [.Name y px, .Name z py] kt pt] (.Tuple [a, b] k2 pt2) pos) (tPar i j tr) (sPar i j mr) := ⟨ha.hK, ps_par hc hN hi hj hij hx hy ha.p hw hs, ss_par ha.s⟩
theorem sm_freeze {s : Stmt} {ts : TS} {s1 : SM} (i : Nat) (h : ESm X K c E s ts s1) : ESm X K c E s ts (sFreeze i s1) := ⟨h.hK, h.p, ss_freeze i h.s⟩
end
end Mir

set_option Elab.async false
set_option linter.all false
set_option maxRecDepth 100000
set_option maxHeartbeats 4000000
namespace Mir
open PySem PySem.Spec PyProof.Rows L2
/-- the law's own head over a mirror: on True for every script, the row holds -/
theorem walkM {l : PySem.W.OpenLaw} {q : Program} {loose : List Str} {XP : (Str → Option Value) → Heap → Prop} {YP : World → Heap → Prop} {d : DefRec} {K : Params → PySem.W.Frag} {k : Nat} {c : World → Ctx} {m : List Val → MHp → RE Val}
    (hn : l.most = some 63) (hdf : d.params.defaults = []) (hk : Room k callerA)
    (hY : ∀ (w : World) (h : Heap), YP w h → (K w.params).In h)
    (F : ∀ (w : World) (mg : Str → Option Value) (fa : Addr) (h : Heap), (K w.params).In h → h.Ns mainGlobals mg → mg d.name = some (.ref fa) →
      ∃ fd : FuncData, (∀ (s : Shared) (u : Value), BindsTo s fd ⟨[u], []⟩ [("script", u)]) ∧ ∀ base : Heap, (K w.params).In base → base.Ns mainGlobals mg → FnOk l.prog w (K w.params) mg base (L2.CX l.prog w) k fa fd ["script"] (spM (K w.params) (c w) 1 m))
    (hm : ∀ ns : List Int, ns.length ≤ 63 → ∃ ρ h', m [.fz (ns.map .int)] [] = .ok (.bl true) ρ h') :
    PySem.W.WalkO q loose XP YP l.row.toRowW d [] (fun f vs => PySem.call f vs) :=
  L2.walk_of (n := 63) (k := k) (x := "script") (CX := fun w => L2.CX l.prog w) (sp := fun w => spM (K w.params) (c w) 1 m) hn (by decide) hdf hk hY F
    (fun w H a ns hl _ hS => by
      obtain ⟨ρ, h', e⟩ := hm ns hl
      refine ⟨H, [], [], [.fz (ns.map .int)], rfl, ⟨Hle.refl _, rfl, .nil, fun _ h => absurd h (List.not_mem_nil), fun i p cl h => by simp at h⟩, .cons (.fz hS VRs.ints) .nil, ?_⟩
      rw [e]
      intro G' ι' H' x _ _ _ _ _ _ r
      exact r.blE)
    fun w H s e s' z => by
      obtain ⟨a, B, H', cls, d, _, _, _, _, _, _, _, z⟩ := z
      exact z
end Mir

set_option Elab.async false
set_option linter.all false
set_option maxRecDepth 100000
set_option maxHeartbeats 4000000
/-! more of lists and tuples: append, pop, slices, any tuple + tuple -/
namespace Mir
open PySem PySem.Spec PyProof.Rows L2
/-! ### append, pop, extend of a name that holds a list -/
def lstV : Val → EM (List Val)
  | .lst vs => EM.pure vs
  | _ => fun _ _ => .fail
def getL (i : Nat) : EM (List Val) := EM.bind (getCont i) lstV
def mAppend (i : Nat) (mv : EM Val) : EM Val := EM.bind (getL i) fun _ => EM.bind mv fun v => EM.bind (getL i) fun vs =>
  if vs.length < sizeLine then EM.bind (putCont i (.lst (vs ++ [v]))) fun _ => EM.pure .non else fun _ _ => .fail
def popAt (i : Nat) (k : Val) (vs : List Val) : EM Val := match k with
  | .int k => (match ixN vs.length k with
    | some j => (match vs[j]? with
      | some y => if vs.length ≤ sizeLine then EM.bind (putCont i (.lst (vs.eraseIdx j))) fun _ => EM.pure y else fun _ _ => .fail
      | none => fun _ _ => .fail)
    | none => fun _ _ => .fail)
  | _ => fun _ _ => .fail
def mPopAt (i : Nat) (me : EM Val) : EM Val := EM.bind (getL i) fun _ => EM.bind me fun k => EM.bind (getL i) fun vs => popAt i k vs
def mPop (i : Nat) : EM Val := EM.bind (getL i) fun vs => match vs[vs.length - 1]? with
  | some y => EM.bind (putCont i (.lst vs.dropLast)) fun _ => EM.pure y
  | none => fun _ _ => .fail
section
variable {K : PySem.W.Frag} {c : Ctx} {B : Bas} {G G' : Hp} {ι ι' : List Addr} {h h' : MHp} {H H' : Hp} {ρ ρ' : MEnv} {σ σ' : L2.St} {E : WX}
variable {α β : Type} {R : RelT α β}
theorem Post.put {i : Nat} {cl : Cell} {f : Unit → EM α} {Q : β → Hp → Prop} (p : Post K c R E B G ι σ (EM.bind (putCont i cl) f ρ h) Q) : ∃ ρ' h', putCont i cl ρ h = .ok () ρ' h' ∧ Post K c R E B G ι σ (f () ρ' h') Q := by
  unfold EM.bind at p
  cases e : putCont i cl ρ h with
  | ok u ρ' h' => rw [e] at p; exact ⟨ρ', h', rfl, p⟩
  | exc C fs ρ' h' =>
    unfold putCont at e
    split at e
    · split at e <;> cases e
    · cases e
    · cases e
  | fail => rw [e] at p; exact p.elim
theorem Post.getL (S : St K c B G ι h H ρ σ) {i : Nat} {f : List Val → EM α} {Q : β → Hp → Prop} (p : Post K c R E B G ι σ (EM.bind (getL i) f ρ h) Q) :
    ∃ a vs xs, Mir.cont ρ h i = some (.lst vs) ∧ σ[i]? = some (some (.ref a)) ∧ H a = some (.lst xs) ∧ VRs K c G ι vs xs ∧ Post K c R E B G ι σ (f vs ρ h) Q := by
  have p' : Post K c R E B G ι σ (EM.bind (Mir.getCont i) (fun x => EM.bind (lstV x) f) ρ h) Q := by
    have e : EM.bind (Mir.getL i) f ρ h = EM.bind (Mir.getCont i) (fun x => EM.bind (lstV x) f) ρ h := by
      unfold Mir.getL EM.bind
      cases Mir.getCont i ρ h <;> rfl
    rw [← e]; exact p
  obtain ⟨v, ec, hv, p1⟩ := p'.getCont
  cases v with
  | lst vs =>
    obtain ⟨x, ex, rx⟩ := S.cont ec hv
    obtain ⟨a, xs, rfl, hp, r⟩ := rx
    exact ⟨a, vs, xs, ec, ex, hp, r, p1⟩
  | _ => exact p1.elim
theorem sim_append {i : Nat} {tv : TE} {mv : EM Val} (hv : Sim K c (RV K c) E tv mv) : Sim K c (RV K c) E (tBM K "list" rAppend (tVar i) (tCons tv tNil)) (mAppend i mv) := by
  intro B G ι h H ρ σ Q hs hp
  obtain ⟨a, vs0, xs0, ec0, ex0, hx0, _, hp⟩ := Post.getL hs hp
  refine ⟨_, ex0, .inl ⟨rfl, _, .of hx0⟩, ?_⟩
  refine hv.bind hs hp fun G1 ι1 h1 H1 ρ1 v x a1 b1 s1 r1 p1 => ?_
  obtain ⟨a', vs, xs, ec, ex, hx, rx, p2⟩ := Post.getL s1 p1
  rw [ex0] at ex; cases ex
  split at p2
  · rename_i hl
    obtain ⟨ρ', h', ep, p3⟩ := p2.put
    obtain ⟨p, o, e1, ho, hc, put⟩ := s1.put ep
    rw [ex0] at e1; cases e1
    refine ⟨a, xs, x, rfl, rfl, hx, by rw [← rx.length]; exact hl, ?_⟩
    exact p3 G1 ι1 _ _ (Hle.refl _) (Ile.refl _) (put _ ⟨_, rfl, rx.append (.cons r1 .nil)⟩) .non
  · exact p2.elim
theorem sim_popAt {i : Nat} {tv : TE} {mv : EM Val} (hv : Sim K c (RV K c) E tv mv) : Sim K c (RV K c) E (tBM K "list" rPopAt (tVar i) (tCons tv tNil)) (mPopAt i mv) := by
  intro B G ι h H ρ σ Q hs hp
  obtain ⟨a, vs0, xs0, ec0, ex0, hx0, _, hp⟩ := Post.getL hs hp
  refine ⟨_, ex0, .inl ⟨rfl, _, .of hx0⟩, ?_⟩
  refine hv.bind hs hp fun G1 ι1 h1 H1 ρ1 v x a1 b1 s1 r1 p1 => ?_
  obtain ⟨a', vs, xs, ec, ex, hx, rx, p2⟩ := Post.getL s1 p1
  rw [ex0] at ex; cases ex
  unfold popAt at p2
  cases v with
  | int k =>
    dsimp only at p2
    cases ej : ixN vs.length k with
    | none => rw [ej] at p2; exact p2.elim
    | some j =>
      rw [ej] at p2
      dsimp only at p2
      cases ey : vs[j]? with
      | none => rw [ey] at p2; exact p2.elim
      | some y =>
        rw [ey] at p2
        dsimp only at p2
        split at p2
        · rename_i hz
          obtain ⟨ρ', h', ep, p3⟩ := p2.put
          obtain ⟨p, o, e1, ho, hc, put⟩ := s1.put ep
          rw [ex0] at e1; cases e1
          cases r1
          obtain ⟨u, hu, ru⟩ := rx.get ey
          rw [rx.length] at ej hz
          obtain ⟨j1, j2, j3, j4⟩ := ixN_seq ej
          have hz2 : xs.length < 2 ^ 63 := Nat.lt_of_le_of_lt hz (by decide)
          refine ⟨a, xs, k, j, u, rfl, rfl, hx, by omega, by omega, j1, hu, ?_⟩
          exact p3 G1 ι1 _ _ (Hle.refl _) (Ile.refl _) (put _ ⟨_, rfl, rx.eraseIdx j⟩) ru
        · exact p2.elim
  | _ => exact p2.elim
theorem VRs.dropLast : ∀ {vs xs}, VRs K c G ι vs xs → VRs K c G ι vs.dropLast xs.dropLast
  | _, _, .nil => .nil
  | _, _, .cons r .nil => .nil
  | _, _, .cons r (.cons q t) => .cons r (VRs.dropLast (.cons q t))
theorem sim_pop {i : Nat} : Sim K c (RV K c) E (tBM0 K "list" rPop (tVar i)) (mPop i) := by
  intro B G ι h H ρ σ Q hs hp
  obtain ⟨a, vs, xs, ec, ex, hx, rx, p2⟩ := Post.getL hs hp
  refine ⟨_, ex, .inl ⟨rfl, _, .of hx⟩, ?_⟩
  cases ey : vs[vs.length - 1]? with
  | none => rw [ey] at p2; exact p2.elim
  | some y =>
    rw [ey] at p2
    dsimp only at p2
    obtain ⟨ρ', h', ep, p3⟩ := p2.put
    obtain ⟨p, o, e1, ho, hc, put⟩ := hs.put ep
    rw [ex] at e1; cases e1
    obtain ⟨u, hu, ru⟩ := rx.get ey
    rw [rx.length] at hu
    exact ⟨a, xs, u, rfl, rfl, hx, hu, p3 G ι _ _ (Hle.refl _) (Ile.refl _) (put _ ⟨_, rfl, rx.dropLast⟩) ru⟩
end
/-! ### any tuple + any tuple -/
def fAddA : Val → Val → Option Val
  | .tup a, .tup b => if a.length + b.length ≤ sizeLine then some (.tup (a ++ b)) else none
  | x, y => fAdd x y
def rAddA (K : PySem.W.Frag) : R2 := fun x y H Q => rCatA K x y H Q ∨ rAddAny K x y H Q
theorem op_addA {X : Cx} : OpR X (binaryOp .Add) (rAddA X.K) := op_catA.or op_addAny
theorem sr_addA {K : PySem.W.Frag} {c : Ctx} : SimR2 K c (rAddA K) fAddA := by
  intro B G ι h H ρ σ vx vy x y z hs rx ry e Q q
  unfold fAddA at e
  split at e
  · rename_i a b
    obtain ⟨p, xs, rfl, hp, r⟩ := VR.tupE rx
    obtain ⟨p', ys, rfl, hp', r'⟩ := VR.tupE ry
    split at e
    · rename_i hz
      cases e
      have l1 := r.length
      have l2 := r'.length
      refine .inl ⟨p, p', xs, ys, rfl, rfl, hs.st.le.sqT hp, hs.st.le.sqT hp', by omega, ?_, ?_, ?_⟩
      · rintro rfl
        cases r
        exact q _ _ _ (Hle.refl _) hs (.tup hp' r')
      · rintro _ rfl
        cases r'
        refine q _ _ _ (Hle.refl _) hs (.tup hp ?_)
        rw [List.append_nil]; exact r
      · intro _ _ l hl
        exact q _ _ _ (Hle.new (hs.st.le.free hl)) (hs.new hl) (.tup (.of upd_same) ((r.append r').mono (Hle.new (hs.st.le.free hl)) (Ile.refl _)))
    · cases e
  · exact .inr (sr_add B G ι h H ρ σ vx vy x y z hs rx ry e Q q)
/-! ### slices -/
def cutL {α : Type} (xs : List α) (lo hi : Option Int) : List α := (xs.drop (HT.sIx xs.length 0 lo)).take (HT.sIx xs.length xs.length hi - HT.sIx xs.length 0 lo)
def fCut : Val → Option Int → Option Int → Option Val
  | .tup vs, lo, hi => some (.tup (cutL vs lo hi))
  | .lst vs, lo, hi => some (.lst (cutL vs lo hi))
  | .fz vs, lo, hi => some (.lst (cutL vs lo hi))
  | .str s, lo, hi => if s.length ≤ sizeLine then some (.str (cutS s lo hi)) else none
  | _, _, _ => none
def rCutA (K : PySem.W.Frag) : V → Option Int → Option Int → Hp → VK → Prop := fun x lo hi H Q => rSlA K x lo hi H Q ∨ (rSlL K x lo hi H Q ∨ rSlS x lo hi H Q)
theorem sl_cutA {X : Cx} : SlR X (rCutA X.K) := sl_tupA.or (sl_list.or sl_str)
section
variable {K : PySem.W.Frag} {c : Ctx} {B : Bas} {G G' : Hp} {ι ι' : List Addr} {h h' : MHp} {H H' : Hp} {ρ ρ' : MEnv} {σ σ' : L2.St} {E : WX}
theorem cutL_whole {α : Type} {xs : List α} {lo hi : Option Int} (h : HT.sIx xs.length 0 lo = 0 ∧ HT.sIx xs.length xs.length hi = xs.length) : cutL xs lo hi = xs := by
  unfold cutL; rw [h.1, h.2]; simp
theorem VRs.cut {vs : List Val} {xs : List V} (r : VRs K c G ι vs xs) (lo hi : Option Int) : VRs K c G ι (cutL vs lo hi) (cutV xs lo hi) := by
  unfold cutL cutV; rw [r.length]; exact (r.drop _).take _
theorem cut_ok {v z : Val} {x : V} {lo hi : Option Int} {Q : VK} (hs : St K c B G ι h H ρ σ) (rx : VH K c G ι H v x) (e : fCut v lo hi = some z)
    (q : ∀ G' H' u, Hle G G' → St K c B G' ι h H' ρ σ → VR K c G' ι z u → Q u H') : rCutA K x lo hi H Q := by
  cases v with
  | tup vs =>
    obtain ⟨p, xs, rfl, hp, r⟩ := VR.tupE rx
    cases e
    refine .inl ⟨p, xs, rfl, hs.st.le.sqT hp, fun hw => ?_, fun _ l hl => ?_⟩
    · refine q _ _ _ (Hle.refl _) hs (.tup hp ?_)
      rw [cutL_whole (by rw [r.length]; exact hw)]; exact r
    · exact q _ _ _ (Hle.new (hs.st.le.free hl)) (hs.new hl) (.tup (.of upd_same) ((r.cut lo hi).mono (Hle.new (hs.st.le.free hl)) (Ile.refl _)))
  | lst vs =>
    obtain ⟨p, xs, rfl, hp, r⟩ := rx
    cases e
    exact .inr (.inl ⟨p, xs, rfl, .of hp, fun l hl => q _ _ _ (Hle.new (hs.st.le.free hl)) (hs.new hl) (.lst upd_same ((r.cut lo hi).mono (Hle.new (hs.st.le.free hl)) (Ile.refl _)))⟩)
  | fz vs =>
    obtain ⟨p, xs, rfl, hp, r⟩ := VR.fzE rx
    cases e
    exact .inr (.inl ⟨p, xs, rfl, hs.st.le.sqL hp, fun l hl => q _ _ _ (Hle.new (hs.st.le.free hl)) (hs.new hl) (.lst upd_same ((r.cut lo hi).mono (Hle.new (hs.st.le.free hl)) (Ile.refl _)))⟩)
  | str s =>
    cases rx
    simp only [fCut] at e
    split at e
    · rename_i hz; cases e
      exact .inr (.inr ⟨_, rfl, hz, q _ _ _ (Hle.refl _) hs (.str _)⟩)
    · cases e
  | _ => cases e
def mNoPart : EM (Option Int) := EM.pure none
def asInt : Val → Option Int
  | .int i => some i
  | _ => none
def mPart (m : EM Val) : EM (Option Int) := EM.bind m fun v => EM.bind (EM.lift (asInt v)) fun i => EM.pure (some i)
theorem sim_noPart : Sim K c RO E tNoPart mNoPart := fun B G ι h H ρ σ Q hs hp => Post.pure (R := RO) hp hs rfl
theorem sim_part {t : TE} {m : EM Val} (hm : Sim K c (RV K c) E t m) : Sim K c RO E (tPart t) (mPart m) := by
  intro B G ι h H ρ σ Q hs hp
  refine hm.bind hs hp fun G1 ι1 h1 H1 ρ1 v x a1 b1 s1 r1 p1 => ?_
  have p2 : Post K c RO E B G1 ι1 σ (EM.bind (EM.lift (asInt v)) (fun i => EM.pure (some i)) ρ1 h1) Q := p1
  cases v with
  | int i => cases r1; exact ⟨i, rfl, Post.pure (R := RO) (a := some i) (x := some i) p2 s1 rfl⟩
  | _ => exact p2.elim
def mCut (a : EM Val) (l u : EM (Option Int)) : EM Val := EM.bind a fun v => EM.bind l fun lo => EM.bind u fun hi => EM.lift (fCut v lo hi)
def mCutB (i : Nat) (l u : EM (Option Int)) : EM Val := EM.bind (has i) fun _ => EM.bind l fun lo => EM.bind u fun hi => EM.bind (getCont i) fun v => EM.lift (fCut v lo hi)
theorem sim_cut {ta : TE} {ma : EM Val} {tl tu : TO} {ml mu : EM (Option Int)} (ha : Sim K c (RV K c) E ta ma) (hl : Sim K c RO E tl ml) (hu : Sim K c RO E tu mu) : Sim K c (RV K c) E (tSl (rCutA K) ta tl tu) (mCut ma ml mu) := by
  intro B G ι h H ρ σ Q hs hp
  refine ha.bind hs hp fun G1 ι1 h1 H1 ρ1 v x a1 b1 s1 r1 p1 => ?_
  refine hl.bind s1 p1 fun G2 ι2 h2 H2 ρ2 lo l2 a2 b2 s2 r2 p2 => ?_
  refine hu.bind s2 p2 fun G3 ι3 h3 H3 ρ3 hi l3 a3 b3 s3 r3 p3 => ?_
  cases r2; cases r3
  obtain ⟨z, e, p4⟩ := p3.lift
  exact cut_ok s3 ((r1.mono (a2.trans a3) (b2.trans b3)).toH s3.st.le) e fun G' H' u a4 s4 r4 => p4 G' ι3 H' u a4 (Ile.refl _) s4 r4
theorem sim_cutB {i : Nat} {tl tu : TO} {ml mu : EM (Option Int)} (hl : Sim K c RO E tl ml) (hu : Sim K c RO E tu mu) : Sim K c (RV K c) E (tSl (rCutA K) (tVar i) tl tu) (mCutB i ml mu) := by
  intro B G ι h H ρ σ Q hs hp
  obtain ⟨⟨x0, hx0⟩, hp⟩ := hs.has hp
  refine ⟨x0, hx0, ?_⟩
  refine hl.bind hs hp fun G2 ι2 h2 H2 ρ2 lo l2 a2 b2 s2 r2 p2 => ?_
  refine hu.bind s2 p2 fun G3 ι3 h3 H3 ρ3 hi l3 a3 b3 s3 r3 p3 => ?_
  cases r2; cases r3
  obtain ⟨v, ec, hv, p4⟩ := p3.getCont
  obtain ⟨x, ex, rx⟩ := s3.cont ec hv
  rw [hx0] at ex; cases ex
  obtain ⟨z, e, p5⟩ := p4.lift
  exact cut_ok s3 rx e fun G' H' u a4 s4 r4 => p5 G' ι3 H' u a4 (Ile.refl _) s4 r4
end
/-! ### bundled -/
structure EOm (X : Cx) (K : PySem.W.Frag) (c : Ctx) (E : WX) (e : Option Expr) (te : TO) (m : EM (Option Int)) : Prop where
  hK : X.K = K
  p : PO X e te
  s : Sim K c RO E te m
section
variable {X : Cx} {K : PySem.W.Frag} {c : Ctx} {E : WX} {pos p : Pos} {a b e : Expr} {ta tb te : TE} {ma mb me : EM Val} {lo hi : Option Expr} {tl tu : TO} {ml mu : EM (Option Int)}
theorem pom_none (hK : X.K = K := by rfl) : EOm X K c E none tNoPart mNoPart := ⟨hK, po_none, sim_noPart⟩
theorem pom_some (h : EEm X K c E e te me) : EOm X K c E (some e) (tPart te) (mPart me) := ⟨h.hK, po_some h.p, sim_part h.s⟩
theorem pm_cut (ha : EEm X K c E a ta ma) (hl : EOm X K c E lo tl ml) (hu : EOm X K c E hi tu mu) : EEm X K c E (.Subscript a (.Slice lo hi none p) pos) (tSl (rCutA K) ta tl tu) (mCut ma ml mu) := by
  obtain ⟨rfl, pa, sa⟩ := ha
  exact ⟨rfl, pe_slice sl_cutA pa hl.p hu.p, sim_cut sa hl.s hu.s⟩
theorem pm_cutB (i : Nat) {y : Str} {p2 : Pos} (hl : EOm X K c E lo tl ml) (hu : EOm X K c E hi tu mu) (hN : X.N[i]? = some y := by rfl) (hvis : Vis X.env.scope y := by first | exact Or.inl rfl | exact Or.inr (Or.inl rfl) | exact Or.inr (Or.inr rfl)) (hd : (y == ("__debug__" : Str)) = false := by decide) (hcd : (y == ("__classdict__" : Str)) = false := by decide) :
    EEm X K c E (.Subscript (.Name y p2) (.Slice lo hi none p) pos) (tSl (rCutA K) (tVar i) tl tu) (mCutB i ml mu) := by
  obtain ⟨rfl, pl, sl⟩ := hl
  exact ⟨rfl, pe_slice sl_cutA (pv i hN hvis hd hcd) pl hu.p, sim_cutB sl hu.s⟩
theorem pm_addA (ha : EEm X K c E a ta ma) (hb : EEm X K c E b tb mb) : EEm X K c E (.BinOp a .Add b pos) (tOp (rAddA K) ta tb) (mOp fAddA ma mb) := by
  obtain ⟨rfl, pa, sa⟩ := ha
  exact ⟨rfl, pe_op op_addA pa hb.p, sim_op sr_addA sa hb.s⟩
theorem pm_append (i : Nat) {y : Str} {p2 apos : Pos} (ha : EEm X K c E a ta ma) (hN : X.N[i]? = some y := by rfl) (hvis : Vis X.env.scope y := by first | exact Or.inl rfl | exact Or.inr (Or.inl rfl) | exact Or.inr (Or.inr rfl)) (hd : (y == ("__debug__" : Str)) = false := by decide) (hcd : (y == ("__classdict__" : Str)) = false := by decide)
    (hbase : attributeBase (.Name y p2) "append" X.env (eval (.Name y p2) X.env) = eval (.Name y p2) X.env := by rfl)
    (hfew : ((backTo pos (starEach [a] X.env)).all (fun x => !x.1) && (backToKw pos (keywordEach [] X.env)).all (fun x => x.1.isSome)
      && decide ([a].length + ([] : List Keyword).length + (if ([] : List Keyword).isEmpty then 0 else 1) < 30)) = true := by rfl)
    (hline : (apos.endLine == pos.line) = true := by rfl) (hs : starEach [a] X.env = (false, eval a X.env) :: starEach [] X.env := by rfl) (hplain : (backTo pos (starEach [] X.env)).any (·.1) = false := by rfl) :
    EEm X K c E (.Call (.Attribute (.Name y p2) "append" apos) [a] [] pos) (tBM K "list" rAppend (tVar i) (tCons ta tNil)) (mAppend i ma) := by
  obtain ⟨rfl, pa, sa⟩ := ha
  exact ⟨rfl, pe_bm PySem.F.plainAttrs_list PySem.F.slot_list_append PySem.F.type_list_append mt_append (pv i hN hvis hd hcd) (pa_cons pa pa_nil hs) hbase hfew hline hs hplain, sim_append sa⟩
theorem pm_popAt (i : Nat) {y : Str} {p2 apos : Pos} (ha : EEm X K c E a ta ma) (hN : X.N[i]? = some y := by rfl) (hvis : Vis X.env.scope y := by first | exact Or.inl rfl | exact Or.inr (Or.inl rfl) | exact Or.inr (Or.inr rfl)) (hd : (y == ("__debug__" : Str)) = false := by decide) (hcd : (y == ("__classdict__" : Str)) = false := by decide)
    (hbase : attributeBase (.Name y p2) "pop" X.env (eval (.Name y p2) X.env) = eval (.Name y p2) X.env := by rfl)
    (hfew : ((backTo pos (starEach [a] X.env)).all (fun x => !x.1) && (backToKw pos (keywordEach [] X.env)).all (fun x => x.1.isSome)
      && decide ([a].length + ([] : List Keyword).length + (if ([] : List Keyword).isEmpty then 0 else 1) < 30)) = true := by rfl)
    (hline : (apos.endLine == pos.line) = true := by rfl) (hs : starEach [a] X.env = (false, eval a X.env) :: starEach [] X.env := by rfl) (hplain : (backTo pos (starEach [] X.env)).any (·.1) = false := by rfl) :
    EEm X K c E (.Call (.Attribute (.Name y p2) "pop" apos) [a] [] pos) (tBM K "list" rPopAt (tVar i) (tCons ta tNil)) (mPopAt i ma) := by
  obtain ⟨rfl, pa, sa⟩ := ha
  exact ⟨rfl, pe_bm PySem.F.plainAttrs_list PySem.F.slot_list_pop PySem.F.type_list_pop mt_popAt (pv i hN hvis hd hcd) (pa_cons pa pa_nil hs) hbase hfew hline hs hplain, sim_popAt sa⟩
theorem pm_pop (i : Nat) {y : Str} {p2 apos : Pos} (hK : X.K = K := by rfl) (hN : X.N[i]? = some y := by rfl) (hvis : Vis X.env.scope y := by first | exact Or.inl rfl | exact Or.inr (Or.inl rfl) | exact Or.inr (Or.inr rfl)) (hd : (y == ("__debug__" : Str)) = false := by decide) (hcd : (y == ("__classdict__" : Str)) = false := by decide)
    (hbase : attributeBase (.Name y p2) "pop" X.env (eval (.Name y p2) X.env) = eval (.Name y p2) X.env := by rfl) (hline : (apos.endLine == pos.line) = true := by rfl) :
    EEm X K c E (.Call (.Attribute (.Name y p2) "pop" apos) [] [] pos) (tBM0 K "list" rPop (tVar i)) (mPop i) := by
  subst hK
  exact ⟨rfl, pe_bm0 PySem.F.plainAttrs_list PySem.F.slot_list_pop PySem.F.type_list_pop mt_pop (pv i hN hvis hd hcd) hbase hline, sim_pop⟩
end
end Mir

set_option Elab.async false
set_option linter.all false
set_option maxRecDepth 100000
set_option maxHeartbeats 4000000
/-! never reached statements, pairs of fresh objects, zip, enumerate, list of a range -/
namespace Mir
open PySem PySem.Spec PyProof.Rows L2 RZ
def sNever : SM := fun _ _ => .fail
section
variable {K : PySem.W.Frag} {c : Ctx} {B : Bas} {G G' : Hp} {ι ι' : List Addr} {h h' : MHp} {H H' : Hp} {ρ ρ' : MEnv} {σ σ' : L2.St} {E : WX}
theorem ss_never : SimS K c E tNever sNever := fun _ _ _ _ _ _ _ _ _ hp => hp.elim
/-! a, b = x, y, fresh objects among them -/
def sParNN (i j : Nat) (a b : EM Cell) : SM := EM.bind a fun c1 => EM.bind b fun c2 ρ h => .ok .next ((ρ.set i (.own c1)).set j (.own c2)) h
def sParNV (i j : Nat) (a : EM Cell) (b : EM Val) : SM := EM.bind a fun c1 => EM.bind b fun v ρ h => .ok .next ((ρ.set i (.own c1)).set j (.val v)) h
def sParVN (i j : Nat) (a : EM Val) (b : EM Cell) : SM := EM.bind a fun v => EM.bind b fun c2 ρ h => .ok .next ((ρ.set i (.val v)).set j (.own c2)) h
theorem ss_parNN {i j : Nat} {ta tb : TE} {a b : EM Cell} (hij : i ≠ j) (ha : SimN K c E ta a) (hb : SimN K c E tb b) : SimS K c E (tPar i j (tCons ta (tCons tb tNil))) (sParNN i j a b) := by
  intro B G ι h H ρ σ D hs hp
  refine ha B G ι h H ρ σ _ hs ?_
  unfold sParNN EM.bind at hp
  cases e : a ρ h with
  | ok c1 ρ1 h1 =>
    rw [e] at hp
    intro G1 ι1 H1 p1 o1 hG1 hι1 F1 S1 r1
    refine hb (B.pin p1 o1) G1 ι1 h1 H1 ρ1 σ _ S1 ?_
    dsimp only at hp
    cases e2 : b ρ1 h1 with
    | ok c2 ρ2 h2 =>
      rw [e2] at hp
      intro G2 ι2 H2 p2 o2 hG2 hι2 F2 S2 r2
      have S3 := S2.own (i := j) F2 r2
      have S4 := S3.own (i := i) F1 (r1.mono hG2 hι2)
      refine ⟨_, _, rfl, ?_⟩
      rw [List.set_comm _ _ (Ne.symm hij)] at S4
      rw [show (σ.set j (some (V.ref p2))).set i (some (V.ref p1)) = (σ.set i (some (V.ref p1))).set j (some (V.ref p2)) from List.set_comm _ _ (Ne.symm hij)] at S4
      exact hp G2 ι2 H2 _ (hG1.trans hG2) (hι1.trans hι2) S4
    | exc C fs ρ2 h2 => rw [e2] at hp; exact fun G' ι' H' cls d a b s r => hp G' ι' H' σ cls d (hG1.trans a) (hι1.trans b) (s.unpin F1) r
    | fail => rw [e2] at hp; exact hp
  | exc C fs ρ' h' => rw [e] at hp; exact fun G' ι' H' cls d a b s r => hp G' ι' H' σ cls d a b s r
  | fail => rw [e] at hp; exact hp
theorem ss_parNV {i j : Nat} {ta tb : TE} {a : EM Cell} {b : EM Val} (hij : i ≠ j) (ha : SimN K c E ta a) (hb : Sim K c (RV K c) E tb b) : SimS K c E (tPar i j (tCons ta (tCons tb tNil))) (sParNV i j a b) := by
  intro B G ι h H ρ σ D hs hp
  refine ha B G ι h H ρ σ _ hs ?_
  unfold sParNV EM.bind at hp
  cases e : a ρ h with
  | ok c1 ρ1 h1 =>
    rw [e] at hp
    intro G1 ι1 H1 p1 o1 hG1 hι1 F1 S1 r1
    refine hb (B.pin p1 o1) G1 ι1 h1 H1 ρ1 σ _ S1 ?_
    dsimp only at hp
    cases e2 : b ρ1 h1 with
    | ok v ρ2 h2 =>
      rw [e2] at hp
      intro G2 ι2 H2 y hG2 hι2 S2 r2
      have S4 := (S2.own (i := i) F1 (r1.mono hG2 hι2)).set (i := j) r2
      exact ⟨_, _, rfl, hp G2 ι2 H2 _ (hG1.trans hG2) (hι1.trans hι2) S4⟩
    | exc C fs ρ2 h2 => rw [e2] at hp; exact fun G' ι' H' cls d a b s r => hp G' ι' H' σ cls d (hG1.trans a) (hι1.trans b) (s.unpin F1) r
    | fail => rw [e2] at hp; exact hp
  | exc C fs ρ' h' => rw [e] at hp; exact fun G' ι' H' cls d a b s r => hp G' ι' H' σ cls d a b s r
  | fail => rw [e] at hp; exact hp
theorem ss_parVN {i j : Nat} {ta tb : TE} {a : EM Val} {b : EM Cell} (ha : Sim K c (RV K c) E ta a) (hb : SimN K c E tb b) : SimS K c E (tPar i j (tCons ta (tCons tb tNil))) (sParVN i j a b) := by
  intro B G ι h H ρ σ D hs hp
  refine ha B G ι h H ρ σ _ hs ?_
  unfold sParVN EM.bind at hp
  cases e : a ρ h with
  | ok v ρ1 h1 =>
    rw [e] at hp
    intro G1 ι1 H1 x hG1 hι1 S1 r1
    refine hb B G1 ι1 h1 H1 ρ1 σ _ S1 ?_
    dsimp only at hp
    cases e2 : b ρ1 h1 with
    | ok c2 ρ2 h2 =>
      rw [e2] at hp
      intro G2 ι2 H2 p2 o2 hG2 hι2 F2 S2 r2
      have S3 := S2.set (i := i) (r1.mono hG2 hι2)
      have S4 := S3.own (i := j) F2 r2
      exact ⟨_, _, rfl, hp G2 ι2 H2 _ (hG1.trans hG2) (hι1.trans hι2) S4⟩
    | exc C fs ρ2 h2 => rw [e2] at hp; exact fun G' ι' H' cls d a b s r => hp G' ι' H' σ cls d (hG1.trans a) (hι1.trans b) s r
    | fail => rw [e2] at hp; exact hp
  | exc C fs ρ' h' => rw [e] at hp; exact fun G' ι' H' cls d a b s r => hp G' ι' H' σ cls d a b s r
  | fail => rw [e] at hp; exact hp
/-! zip, enumerate -/
def zipV (vs ws : List Val) : List Val := (vs.zip ws).map fun p => .tup [p.1, p.2]
theorem zipV_get {vs ws : List Val} {i : Nat} {v : Val} (h : (zipV vs ws)[i]? = some v) : ∃ a b, vs[i]? = some a ∧ ws[i]? = some b ∧ v = .tup [a, b] := by
  unfold zipV at h
  rw [List.getElem?_map, Option.map_eq_some_iff] at h
  obtain ⟨⟨a, b⟩, e, rfl⟩ := h
  rw [List.getElem?_zip_eq_some] at e
  exact ⟨a, b, e.1, e.2, rfl⟩
theorem jr_zip {a b : Addr} {xs ys : List V} {vs ws : List Val} (ha : SqL K G a xs) (hb : SqL K G b ys) (ra : VRs K c G ι vs xs) (rb : VRs K c G ι ws ys) : JR K c (Itz K a b) G ι (zipV vs ws) := by
  intro B G' ι' h H ρ σ hG hι S
  have ha' : SqL K H a xs := (hG.trans S.st.le).sqL ha
  have hb' : SqL K H b ys := (hG.trans S.st.le).sqL hb
  refine ⟨⟨xs, ys, ha', hb', ?_⟩, fun i v hv => ?_⟩
  · have e1 := ra.length
    have e2 := rb.length
    simp only [zipV, List.length_map, List.length_zip]
    omega
  · obtain ⟨p, q, hp, hq, rfl⟩ := zipV_get hv
    obtain ⟨x, hx, rx⟩ := ra.get hp
    obtain ⟨y, hy, ry⟩ := rb.get hq
    refine ⟨⟨xs, ys, x, y, ha', hb', hx, hy⟩, fun u H' hh => ?_⟩
    obtain ⟨T, x', y', rfl, hT, rfl, h1, h2⟩ := hh
    have := h1 xs ha'; rw [hx] at this; cases this
    have := h2 ys hb'; rw [hy] at this; cases this
    have hle := Hle.new (o := .tup [x, y]) (S.st.le.free hT)
    exact ⟨_, hle, S.new hT, .tup (.of upd_same) (.cons (rx.mono (hG.trans hle) hι) (.cons (ry.mono (hG.trans hle) hι) .nil))⟩
theorem jr_zipT {a b : Addr} {xs ys : List V} {vs ws : List Val} (ha : SqT K G a xs) (hb : SqT K G b ys) (ra : VRs K c G ι vs xs) (rb : VRs K c G ι ws ys) : JR K c (ItzT K a b) G ι (zipV vs ws) := by
  intro B G' ι' h H ρ σ hG hι S
  have ha' : SqT K H a xs := (hG.trans S.st.le).sqT ha
  have hb' : SqT K H b ys := (hG.trans S.st.le).sqT hb
  refine ⟨⟨xs, ys, ha', hb', ?_⟩, fun i v hv => ?_⟩
  · have e1 := ra.length
    have e2 := rb.length
    simp only [zipV, List.length_map, List.length_zip]
    omega
  · obtain ⟨p, q, hp, hq, rfl⟩ := zipV_get hv
    obtain ⟨x, hx, rx⟩ := ra.get hp
    obtain ⟨y, hy, ry⟩ := rb.get hq
    refine ⟨⟨xs, ys, x, y, ha', hb', hx, hy⟩, fun u H' hh => ?_⟩
    obtain ⟨T, x', y', rfl, hT, rfl, h1, h2⟩ := hh
    have := h1 xs ha'; rw [hx] at this; cases this
    have := h2 ys hb'; rw [hy] at this; cases this
    have hle := Hle.new (o := .tup [x, y]) (S.st.le.free hT)
    exact ⟨_, hle, S.new hT, .tup (.of upd_same) (.cons (rx.mono (hG.trans hle) hι) (.cons (ry.mono (hG.trans hle) hι) .nil))⟩
/-- both lists, or both tuples -/
def zipF : List Val → Option (List Val)
  | [.lst vs, .lst ws] => some (zipV vs ws)
  | [.lst vs, .fz ws] => some (zipV vs ws)
  | [.fz vs, .lst ws] => some (zipV vs ws)
  | [.fz vs, .fz ws] => some (zipV vs ws)
  | [.tup vs, .tup ws] => some (zipV vs ws)
  | _ => none
def mZip (r : EM (List Val)) : EM (List Val) := EM.bind r fun vs => EM.lift (zipF vs)
theorem lst_sq {v : Val} {x : V} {vs : List Val} (hl : Hle G H) (r : VR K c G ι v x) (e : v = .lst vs ∨ v = .fz vs) : ∃ a xs, x = .ref a ∧ SqL K G a xs ∧ VRs K c G ι vs xs := by
  rcases e with rfl | rfl
  · obtain ⟨p, xs, rfl, hp, r⟩ := r.lstE; exact ⟨p, xs, rfl, .of hp, r⟩
  · obtain ⟨p, xs, rfl, hp, r⟩ := r.fzE; exact ⟨p, xs, rfl, hp, r⟩
theorem sim_zip {tr : TA} {mr : EM (List Val)} (hr : Sim K c (RVs K c) E tr mr) : Sim K c (RJ K c) E (iZipA K tr) (mZip mr) := by
  intro B G ι h H ρ σ Q hs hp
  refine hr.bind (S := RJ K c) hs hp fun G1 ι1 h1 H1 ρ1 vs xs a1 b1 s1 r1 p1 => ?_
  obtain ⟨ws, e, p2⟩ := p1.lift
  have two : ∀ {v w : Val} {l1 l2 : List Val}, vs = [v, w] → (v = .lst l1 ∨ v = .fz l1) → (w = .lst l2 ∨ w = .fz l2) → ws = zipV l1 l2 → ∃ a b xs' ys, xs = [.ref a, .ref b] ∧ ((SqL K H1 a xs' ∧ SqL K H1 b ys ∧ Q (Itz K a b) H1) ∨ (SqT K H1 a xs' ∧ SqT K H1 b ys ∧ Q (ItzT K a b) H1)) := by
    rintro v w l1 l2 rfl ev ew rfl
    obtain ⟨x, r2, rfl, rx, r1⟩ := r1.consE
    obtain ⟨y, r3, rfl, ry, r1⟩ := r1.consE
    obtain rfl := r1.nilE
    obtain ⟨a, xa, rfl, ha, ra⟩ := lst_sq s1.st.le rx ev
    obtain ⟨b, xb, rfl, hb, rb⟩ := lst_sq s1.st.le ry ew
    exact ⟨a, b, xa, xb, rfl, .inl ⟨s1.st.le.sqL ha, s1.st.le.sqL hb, Post.pure (R := RJ K c) p2 s1 (jr_zip ha hb ra rb)⟩⟩
  unfold zipF at e
  split at e
  · cases e; exact two rfl (.inl rfl) (.inl rfl) rfl
  · cases e; exact two rfl (.inl rfl) (.inr rfl) rfl
  · cases e; exact two rfl (.inr rfl) (.inl rfl) rfl
  · cases e; exact two rfl (.inr rfl) (.inr rfl) rfl
  · cases e
    obtain ⟨x, r2, rfl, rx, r1⟩ := r1.consE
    obtain ⟨y, r3, rfl, ry, r1⟩ := r1.consE
    obtain rfl := r1.nilE
    obtain ⟨a, xa, rfl, ha, ra⟩ := rx.tupE
    obtain ⟨b, xb, rfl, hb, rb⟩ := ry.tupE
    exact ⟨a, b, xa, xb, rfl, .inr ⟨s1.st.le.sqT ha, s1.st.le.sqT hb, Post.pure (R := RJ K c) p2 s1 (jr_zipT ha hb ra rb)⟩⟩
  · cases e
def enumV (vs : List Val) : List Val := vs.zipIdx.map fun p => .tup [.int (p.2 : Nat), p.1]
def mEnum (r : EM (List Val)) : EM (List Val) := EM.bind r fun vs => EM.lift (match vs with
  | [.lst ws] => some (enumV ws)
  | [.fz ws] => some (enumV ws)
  | _ => none)
theorem jr_enum {a : Addr} {xs : List V} {vs : List Val} (ha : SqL K G a xs) (ra : VRs K c G ι vs xs) : JR K c (Ite K a) G ι (enumV vs) := by
  intro B G' ι' h H ρ σ hG hι S
  have ha' : SqL K H a xs := (hG.trans S.st.le).sqL ha
  refine ⟨⟨xs, ha', ?_⟩, fun i v hv => ?_⟩
  · have e1 := ra.length
    simp only [enumV, List.length_map, List.length_zipIdx]
    omega
  · unfold enumV at hv
    rw [List.getElem?_map, Option.map_eq_some_iff] at hv
    obtain ⟨⟨p, k⟩, e, rfl⟩ := hv
    simp only [List.getElem?_zipIdx, Option.map_eq_some_iff, Prod.mk.injEq] at e
    obtain ⟨p', hp, rfl, rfl⟩ := e
    obtain ⟨x, hx, rx⟩ := ra.get hp
    refine ⟨⟨xs, x, ha', hx⟩, fun u H' hh => ?_⟩
    obtain ⟨T, x', rfl, hT, rfl, h1⟩ := hh
    have := h1 xs ha'; rw [hx] at this; cases this
    have hle := Hle.new (o := .tup [.int (i : Nat), x]) (S.st.le.free hT)
    refine ⟨_, hle, S.new hT, .tup (.of upd_same) (.cons ?_ (.cons (rx.mono (hG.trans hle) hι) .nil))⟩
    simp only [Nat.zero_add]
    exact .int _
theorem sim_enum {tr : TA} {mr : EM (List Val)} (hr : Sim K c (RVs K c) E tr mr) : Sim K c (RJ K c) E (iEnum K tr) (mEnum mr) := by
  intro B G ι h H ρ σ Q hs hp
  refine hr.bind (S := RJ K c) hs hp fun G1 ι1 h1 H1 ρ1 vs xs a1 b1 s1 r1 p1 => ?_
  obtain ⟨ws, e, p2⟩ := p1.lift
  split at e
  · cases e
    obtain ⟨x, r2, rfl, rx, r1⟩ := r1.consE
    obtain rfl := r1.nilE
    obtain ⟨a, xa, rfl, ha, ra⟩ := lst_sq s1.st.le rx (.inl rfl)
    exact ⟨a, xa, rfl, s1.st.le.sqL ha, Post.pure (R := RJ K c) p2 s1 (jr_enum ha ra)⟩
  · cases e
    obtain ⟨x, r2, rfl, rx, r1⟩ := r1.consE
    obtain rfl := r1.nilE
    obtain ⟨a, xa, rfl, ha, ra⟩ := lst_sq s1.st.le rx (.inr rfl)
    exact ⟨a, xa, rfl, s1.st.le.sqL ha, Post.pure (R := RJ K c) p2 s1 (jr_enum ha ra)⟩
  · cases e
end
end Mir

set_option Elab.async false
set_option linter.all false
set_option maxRecDepth 100000
set_option maxHeartbeats 4000000
/-! sorted of a list or a tuple of plain data -/
namespace Mir
open PySem PySem.Spec PyProof.Rows L2 PySem.W PySem.Calls
section
variable {prog : Program} {w : World} {A : Around} {E : Value → Shared → Prop} {s : Shared} {β : Type} {vs : List Value} {bs : List β} {enc : β → PyData} {R : Value → β → Prop}
theorem none_of_keep {h h' : Heap} (k : ∀ b o, h.get? b = some o → h'.get? b = some o) : h.get? h'.objs.size = none := by
  cases e : h.get? h'.objs.size with
  | none => rfl
  | some o => exact absurd (Heap.lt_size (k _ _ e)) (Nat.lt_irrefl _)
theorem sorted_seqD {it : Addr} {T : String} {o : Obj} {n : Nat} {Q : Value → Shared → Prop} (hT : T = "list" ∨ T = "tuple") (ho : s.heap.get? it = some o) (hc : o.cls = .type T) (hd : o.data = .seq vs.toArray n)
    (e : EachIs R vs bs) (er : EachIs (fun v b => ∃ as, Reads s.heap v (enc b) as) vs bs) (hal : AllAlike (bs.map enc)) (hk : PySem.W.Sortable (bs.map enc)) (hL : vs.length ≤ sizeLine)
    (hu : ∀ b, b ∈ bs → A.units + 2 + (enc b).depth < cLine)
    (h : ∀ out h' a n, (∀ b o, s.heap.get? b = some o → h'.get? b = some o) → s.heap.get? a = none → h'.get? a = some (seqObj "list" (List.toArray out) n) → out.length = bs.length → EachIs R out (bs.mergeSort (dataLe false enc)) → Q (.ref a) { s with heap := h' }) :
    wpAny (model prog w) A (call (.builtin "sorted") [.ref it]) Q E s := by
  refine call_function_entry_kw kind_sorted plain_sorted entry_sorted (args_sorted1 _) ?_
  unfold Builtin.«sorted»
  refine wpAny_bind (m := checkCount "sorted" 1 1 _) (wpAny_pure ?_)
  refine wpAny_bind (wpAny_collect_seq it hT ho hc hd (fun h1 k1 => ?_) (by simpa using hL))
  refine wpAny_bind (wpAny_newList ?_ (by simpa using hL))
  have e2 : vs.toArray.toList = vs := by simp
  rw [e2]
  have k2 : ∀ b o, s.heap.get? b = some o → (h1.push (seqObj "list" vs.toArray 0)).get? b = some o := fun b o q => Heap.get?_push_of_some _ (k1 b o q)
  have at2 : (h1.push (seqObj "list" vs.toArray 0)).get? h1.objs.size = some (seqObj "list" vs.toArray 0) := Heap.get?_push_size _ rfl
  show wpAny _ _ _ _ _ { s with heap := h1.push (seqObj "list" vs.toArray 0) }
  have er' : EachIs (fun v b => ∃ as, Reads (sortingHeap (h1.push (seqObj "list" vs.toArray 0)) h1.objs.size vs) v (enc b) as) vs bs := er.mono fun _ _ ⟨as, r⟩ => ⟨as, PyProof.Rows.Reads.keeps (fun b o hq => by
    have := k1 _ _ hq
    exact sortingHeap_old (Nat.ne_of_lt (Heap.lt_size this)) (Heap.get?_push_of_some _ this)) r⟩
  refine wpAny_bind (wpAny_holding (wpAny_call_entry_kw slot_list_sort ⟨_, at2, rfl⟩ entry_list_sort ?body (args_list_sort _)))
  case body =>
    refine wpAny_mono (list_sort_vals (κ := dataKind _ (bs.map enc)) at2 (SortsAt.data (s := { s with heap := sortingHeap (h1.push (seqObj "list" vs.toArray 0)) h1.objs.size vs }) (each_map (R := fun v d => ∃ as, Reads (sortingHeap (h1.push (seqObj "list" vs.toArray 0)) h1.objs.size vs) v d as) enc er') hal hk (bound_map hu)) hL
      (P := fun f s' => f = .done (.ret .none) ∧ Q (.ref h1.objs.size) s') ?_) (fun f s' hf => ?_) fun _ _ e => e
    · refine ⟨rfl, ?_⟩
      obtain ⟨n', hn'⟩ := sortedHeap_at (out := (sortVals (dataKind (sortingHeap (h1.push (seqObj "list" vs.toArray 0)) h1.objs.size vs) (bs.map enc)) false vs vs).toArray) at2
      refine h _ _ _ n' (fun b o q => ?_) (none_of_keep k1) hn' (by rw [sortVals_length false rfl]; exact e.length) (sortVals_data false e er' hal)
      have hb := Heap.lt_size (k1 _ _ q)
      have hb2 : b < (h1.push (seqObj "list" vs.toArray 0)).objs.size := Heap.lt_size (k2 _ _ q)
      rw [sortedHeap_old (Nat.ne_of_lt hb) hb2]
      exact k2 _ _ q
    · obtain ⟨rfl, hq⟩ := hf
      exact ⟨_, rfl, wpAny_pure ⟨_, rfl, hq⟩⟩
end
/-! the hand layer's rule -/
def rSortD (K : PySem.W.Frag) : List V → Hp → VK → Prop := fun xs H Q => ∃ p, ∃ bs : List (V × PyData), xs = [.ref p] ∧ (SqL K H p (bs.map (·.1)) ∨ SqT K H p (bs.map (·.1))) ∧ (∀ b ∈ bs, Dp K H b.1 b.2 ∧ b.2.depth ≤ 62) ∧ AllAlike (bs.map (·.2)) ∧ PySem.W.Sortable (bs.map (·.2)) ∧
  ∀ l, H l = none → Q (.ref l) (upd H l (.lst ((bs.mergeSort (dataLe false (·.2))).map (·.1))))
theorem vals_each : ∀ {bs : List (V × PyData)} {us : List Value}, Vals (bs.map (·.1)) us → EachIs (fun v (b : V × PyData) => RelV b.1 v) us bs
  | [], _, h => by cases h; exact .nil
  | b :: r, _, h => by cases h with | cons r1 r2 => exact .cons r1 (vals_each r2)
theorem each_vals : ∀ {bs : List (V × PyData)} {us : List Value}, EachIs (fun v (b : V × PyData) => RelV b.1 v) us bs → Vals (bs.map (·.1)) us
  | _, _, .nil => .nil
  | _, _, .cons r1 r2 => .cons r1 (each_vals r2)
theorem each_and {α β : Type} {R S : α → β → Prop} : ∀ {as : List α} {bs : List β}, EachIs R as bs → (∀ a b, b ∈ bs → R a b → S a b) → EachIs S as bs
  | _, _, .nil, _ => .nil
  | _, _, .cons r1 r2, h => .cons (h _ _ (by simp) r1) (each_and r2 fun a b hb => h a b (by simp [hb]))
theorem cr_sortedD {X : Cx} (hu : X.A.units + 65 < cLine) : CallR X (.builtin "sorted") (rSortD X.K) := by
  intro pins s σ H xs us Q I r h
  obtain ⟨p, bs, rfl, hs, hd, hal, hk, q⟩ := h
  rw [Vals.ref1 r]
  have fin : ∀ {its : List Value} {T : String} {o : Obj} {n : Nat}, Vals (bs.map (·.1)) its → (bs.map (·.1)).length ≤ sizeLine → (T = "list" ∨ T = "tuple") → s.heap.get? p = some o → o.cls = .type T → o.data = .seq its.toArray n → wpAny (model X.prog X.w) X.A (call (.builtin "sorted") [.ref p]) (EP X pins σ Q) X.xe s := by
    intro its T o n rv hz hT ho hc hdt
    have e := vals_each rv
    refine sorted_seqD (R := fun v (b : V × PyData) => RelV b.1 v) (enc := fun b => b.2) hT ho hc hdt e (each_and e fun v b hb hr => Dp.reads I b.2 b.1 v (hd b hb).1 hr) hal hk (by rw [← rv.length]; exact hz) (fun b hb => by have := (hd b hb).2; omega) fun out h' a n' k ha hn hl he => ?_
    have hH : H a = none := HOk.gone I.hok ha
    have hlen : ((bs.mergeSort (dataLe false fun b => b.2)).map (·.1)).length ≤ sizeLine := by
      rw [List.length_map, List.length_mergeSort]; simpa using hz
    exact ⟨.ref a, upd H a (.lst ((bs.mergeSort (dataLe false fun b => b.2)).map (·.1))), I.laidN (t' := s.toks) k ha hH ⟨hlen, out, n', each_vals he, hn⟩, rfl, q a hH⟩
  rcases hs with hs | hs
  · obtain ⟨its, rv, hl, hz⟩ := I.list hs
    obtain ⟨o, ho, hc, n, hdt⟩ := hl.isList
    exact fin rv hz (.inl rfl) ho hc hdt
  · obtain ⟨its, rv, ht, hz⟩ := I.tuple hs
    obtain ⟨o, ho, hc, n, hdt⟩ := ht
    exact fin rv hz (.inr rfl) ho hc hdt
/-! the mirror -/
def encV (v : Val) : PyData := (toD v).getD .none
def sortV (vs : List Val) : List Val := vs.mergeSort (dataLe false encV)
def nonNT : PyData → Bool
  | .none => false
  | .tuple _ => false
  | _ => true
def tupNE : PyData → Bool
  | .tuple (_ :: _) => true
  | _ => false
def sortOk (vs : List Val) : Bool := vs.all (fun v => (toD v).isSome && decide ((encV v).depth ≤ 62)) && vs.all (fun v => vs.all fun w => alike (encV v) (encV w)) && (vs.all (fun v => tupNE (encV v)) || vs.all fun v => nonNT (encV v))
def seqOf : Val → Option (List Val)
  | .lst vs => some vs
  | .fz vs => some vs
  | .tup vs => some vs
  | _ => none
def vSort (v : Val) : Option Val := (seqOf v).bind fun vs => if sortOk vs = true then some (.lst (sortV vs)) else none
section
variable {K : PySem.W.Frag} {c : Ctx} {B : Bas} {G G' : Hp} {ι ι' : List Addr} {h h' : MHp} {H H' : Hp} {ρ ρ' : MEnv} {σ σ' : L2.St} {E : WX}
theorem seqOf_ok {v : Val} {x : V} {vs : List Val} (hl : Hle G H) (r : VH K c G ι H v x) (e : seqOf v = some vs) : ∃ p xs, x = .ref p ∧ (SqL K H p xs ∨ SqT K H p xs) ∧ VRs K c G ι vs xs := by
  cases v with
  | lst ws => cases e; obtain ⟨p, xs, rfl, hp, r⟩ := r; exact ⟨p, xs, rfl, .inl (.of hp), r⟩
  | fz ws => cases e; obtain ⟨p, xs, rfl, hp, r⟩ := VR.fzE r; exact ⟨p, xs, rfl, .inl (hl.sqL hp), r⟩
  | tup ws => cases e; obtain ⟨p, xs, rfl, hp, r⟩ := VR.tupE r; exact ⟨p, xs, rfl, .inr (hl.sqT hp), r⟩
  | _ => cases e
theorem vrs_zip : ∀ {vs : List Val} {xs : List V}, VRs K c G ι vs xs → ∀ z ∈ vs.zip xs, VR K c G ι z.1 z.2
  | _, _, .nil, z, hz => by simp at hz
  | _, _, .cons r rs, z, hz => by
    simp only [List.zip_cons_cons, List.mem_cons] at hz
    rcases hz with rfl | hz
    · exact r
    · exact vrs_zip rs z hz
theorem vrs_unzip : ∀ {zs : List (Val × V)}, (∀ z ∈ zs, VR K c G ι z.1 z.2) → VRs K c G ι (zs.map (·.1)) (zs.map (·.2))
  | [], _ => .nil
  | z :: r, h => .cons (h z (by simp)) (vrs_unzip fun w hw => h w (by simp [hw]))
theorem sc_sort : SimRC K c (rSortD K) (f1 vSort) := by
  intro B G ι h H ρ σ vs xs z hs rx e Q q
  replace e := f1_ok e
  obtain ⟨v, rfl, e⟩ := e
  obtain ⟨x, rfl, r⟩ := rx.oneE
  simp only [vSort, Option.bind_eq_some_iff] at e
  obtain ⟨ws, e1, e2⟩ := e
  split at e2
  · rename_i hok
    cases e2
    have hl := hs.st.le
    obtain ⟨p, ys, rfl, hp, rs⟩ := seqOf_ok hl r e1
    have hlen := rs.length
    have hz1 : (ws.zip ys).map (·.1) = ws := List.map_fst_zip (by omega)
    have hz2 : (ws.zip ys).map (·.2) = ys := List.map_snd_zip (by omega)
    simp only [sortOk, Bool.and_eq_true, Bool.or_eq_true, List.all_eq_true, decide_eq_true_eq] at hok
    obtain ⟨⟨k1, k2⟩, k3⟩ := hok
    have hm : ((ws.zip ys).map fun z => (z.2, encV z.1)).map (·.1) = ys := by rw [List.map_map]; exact hz2
    have hm2 : ((ws.zip ys).map fun z => (z.2, encV z.1)).map (·.2) = ws.map encV := by
      rw [List.map_map]; conv => rhs; rw [← hz1, List.map_map]
      rfl
    refine ⟨p, (ws.zip ys).map fun z => (z.2, encV z.1), rfl, ?_, ?_, ?_, ?_, ?_⟩
    · rw [hm]; exact hp
    · intro b hb
      obtain ⟨z, hz, rfl⟩ := List.mem_map.1 hb
      have hzw : z.1 ∈ ws := (List.of_mem_zip hz).1
      obtain ⟨d1, d2⟩ := k1 z.1 hzw
      refine ⟨?_, d2⟩
      obtain ⟨d, hd⟩ := Option.isSome_iff_exists.1 d1
      have : encV z.1 = d := by unfold encV; rw [hd]; rfl
      show Dp K H z.2 (encV z.1)
      rw [this]
      exact toD_ok hl (vrs_zip rs z hz) hd
    · rw [hm2]
      intro d hd d' hd'
      obtain ⟨a, ha, rfl⟩ := List.mem_map.1 hd
      obtain ⟨b, hb, rfl⟩ := List.mem_map.1 hd'
      exact k2 a ha b hb
    · rw [hm2]
      rcases k3 with k3 | k3
      · refine .inl fun d hd => ?_
        obtain ⟨a, ha, rfl⟩ := List.mem_map.1 hd
        have := k3 a ha
        unfold tupNE at this
        split at this
        · rename_i x r e; exact ⟨x, r, e⟩
        · cases this
      · refine .inr fun d hd => ?_
        obtain ⟨a, ha, rfl⟩ := List.mem_map.1 hd
        have := k3 a ha
        unfold nonNT at this
        split at this
        · cases this
        · cases this
        · rename_i n1 n2; exact ⟨n1, n2⟩
    · intro l hlN
      have es : ((ws.zip ys).map fun z => (z.2, encV z.1)).mergeSort (dataLe false (·.2)) = ((ws.zip ys).mergeSort (dataLe false fun z => encV z.1)).map fun z => (z.2, encV z.1) :=
        (List.map_mergeSort (r := dataLe false fun z : Val × V => encV z.1) (s := dataLe false fun b : V × PyData => b.2) (f := fun z : Val × V => (z.2, encV z.1)) (l := ws.zip ys) (fun a _ b _ => rfl)).symm
      have ev : sortV ws = ((ws.zip ys).mergeSort (dataLe false fun z => encV z.1)).map (·.1) := by
        unfold sortV
        conv => lhs; rw [← hz1]
        exact (List.map_mergeSort (r := dataLe false fun z : Val × V => encV z.1) (s := dataLe false encV) (f := fun z : Val × V => z.1) (l := ws.zip ys) (fun a _ b _ => rfl)).symm
      rw [es, List.map_map]
      have hr : VRs K c G ι (sortV ws) (((ws.zip ys).mergeSort (dataLe false fun z => encV z.1)).map (·.2)) := by
        rw [ev]
        exact vrs_unzip fun z hz => vrs_zip rs z ((List.mergeSort_perm _ _).mem_iff.1 hz)
      exact q _ _ _ (Hle.new (hl.free hlN)) (hs.new hlN) (.lst upd_same (hr.mono (Hle.new (hl.free hlN)) (Ile.refl _)))
  · cases e2
end
end Mir

set_option Elab.async false
set_option linter.all false
set_option maxRecDepth 100000
set_option maxHeartbeats 4000000
/-! objects of own classes: cells of the mirrored heap -/
namespace L2
open PySem PySem.Spec PyProof.Rows
section
variable {X : Cx} {CX : CXT} {k : Nat} {f C : Addr} {fd : FuncData} {ps : List Str} {sp : Sp} {dvs : List V} {ds : List Value} {E : St → XK} {x m : Str} {p pos apos : Pos} {e o : Expr} {es : List Expr} {ta : TE} {t : TA}
def tMethSD (C : Addr) (m : Str) (sp : Sp) (dvs : List V) (E : St → XK) (ta : TE) (t : TA) : TE := fun σ H Q => ta σ H fun x H1 => ∃ a dx fs, x = .ref a ∧ H1 a = some (.ins C dx fs) ∧ fs.lookup m = none ∧ t σ H1 fun vs H2 => sp (.ref a :: vs ++ dvs) H2 Q (E σ)
theorem pe_methSD {pl : Sem Bool} (he : PE X o ta) (c : Cls X.K C) (hm : Meth X.K C m f) (F : FnOk X.prog X.w X.K X.mg X.base CX k f fd ps sp) (hr : Room k X.A) (hb : Binds X.K fd ps ds) (hd : Vals dvs ds) (hx : ∀ σ, PassesAt CX X σ (E σ)) (ha : PA X (e :: es) t)
    (hst : starEach (e :: es) X.env = (false, eval e X.env) :: starEach es X.env := by rfl) (hpl : (backTo pos (starEach es X.env)).any (·.1) = false := by rfl)
    (ht : eval (.Call (.Attribute o m apos) (e :: es) [] pos) X.env = (do
      let ov ← eval o X.env
      standAt apos.atName
      let (f, first) ← holding [ov] (getMethod ov m pl)
      callWith pos f first (backTo pos (starEach (e :: es) X.env)) (backToKw pos (keywordEach [] X.env))) := by rfl) :
    PE X (.Call (.Attribute o m apos) (e :: es) [] pos) (tMethSD C m sp dvs E ta t) := by
  refine ⟨fun pins s σ H Q I h => ?_⟩
  refine PySem.W.methodCall_KW (pl := pl) (thn (he.run pins s σ H _ I h) fun u s1 ⟨x, H1, I1, rx, a, dx, fs, ex, ea, l, q⟩ => ?_) ht
  subst ex
  obtain rfl : u = Value.ref a := rx
  refine getmeth_ok I1 ea c hm l ?_
  refine PySem.W.callWith_K (first := [.ref a]) (h₀ := X.base) I.ok.mod.kin hm.kp (thn (ha.run pos pins s1 σ H1 _ I1 q) fun us s2 ⟨vs, H2, I2, r, q2⟩ => ⟨I2.kIn, ?_⟩) hst hpl
  exact run_fnSD (us := .ref a :: us) (vs := .ref a :: vs) F hr hb hd (hx σ) I2 (.cons rfl r) q2
theorem pe_methSD0 {pl : Sem Bool} (he : PE X o ta) (c : Cls X.K C) (hm : Meth X.K C m f) (F : FnOk X.prog X.w X.K X.mg X.base CX k f fd ps sp) (hr : Room k X.A) (hb : Binds X.K fd ps ds) (hd : Vals dvs ds) (hx : ∀ σ, PassesAt CX X σ (E σ))
    (ht : eval (.Call (.Attribute o m apos) [] [] pos) X.env = (do
      let ov ← eval o X.env
      standAt apos.atName
      let (f, first) ← holding [ov] (getMethod ov m pl)
      callWith pos f first (backTo pos (starEach [] X.env)) (backToKw pos (keywordEach [] X.env))) := by rfl) :
    PE X (.Call (.Attribute o m apos) [] [] pos) (tMethSD C m sp dvs E ta tNil) := by
  refine ⟨fun pins s σ H Q I h => ?_⟩
  refine PySem.W.methodCall_KW (pl := pl) (thn (he.run pins s σ H _ I h) fun u s1 ⟨x, H1, I1, rx, a, dx, fs, ex, ea, l, q⟩ => ?_) ht
  subst ex
  obtain rfl : u = Value.ref a := rx
  refine getmeth_ok I1 ea c hm l ?_
  exact PySem.W.callWith_K0 (first := [.ref a]) I1.kIn hm.kp (run_fnSD (us := [.ref a]) (vs := [.ref a]) F hr hb hd (hx σ) I1 (.cons rfl .nil) q)
theorem run_makeSD {pins : List (Addr × Obj)} {σ : St} {H : Hp} {s : Shared} {Q : VK} {us : List Value} {vs : List V} (M : Mk X.K C f) (F : FnOk X.prog X.w X.K X.mg X.base CX k f fd ps sp) (hr : Room (k + 1) X.A) (hb : Binds X.K fd ps ds) (hd : Vals dvs ds)
    (hx : PassesAt CX X σ (E σ)) (I : Inv X pins σ H s) (r : Vals vs us)
    (h : ∀ x dx, H x = none → H dx = none → dx ≠ x → sp (.ref x :: (vs ++ dvs)) (upd (upd H dx (.own x)) x (.ins C dx [])) (fun v H2 => v = .non ∧ Q (.ref x) H2) (E σ)) :
    wpAny (model X.prog X.w) X.A (call (.ref C) us) (EP X pins σ Q) X.xe s := by
  have hq := h (s.heap.objs.size + 1) s.heap.objs.size (I.hok.fresh (Nat.le_succ _)) (I.hok.fresh (Nat.le_refl _)) (Nat.ne_of_lt (Nat.lt_succ_self _))
  have I2 := Inv.made (C := C) I
  have r2 : Vals (V.ref (s.heap.objs.size + 1) :: (vs ++ dvs)) (Value.ref (s.heap.objs.size + 1) :: (us ++ ds)) := .cons rfl (r.append hd)
  have hl : (Value.ref (s.heap.objs.size + 1) :: us ++ ds).length = ps.length := by
    have e := r2.length
    rw [F.len _ _ _ _ hq] at e
    exact e.symm
  refine wpAny_call (make_map (f := f) I.kIn M.makes M.init (beq_iff_eq.mp M.fn) (codeAny_mono (F.run _ X.stack _ _ ⟨Value.ref (s.heap.objs.size + 1) :: us, []⟩ (Value.ref (s.heap.objs.size + 1) :: (us ++ ds)) _ _ (E σ) (hr.make C us [])
    (I2.env0.make C us []) (hb _ (Value.ref (s.heap.objs.size + 1) :: us) I2.kIn hl) r2 hq) fun r s' hq' => ?_))
  cases r with
  | error e => exact hx pins _ _ e s' I2 hq'
  | ok fl =>
    cases fl with
    | ret u =>
      obtain ⟨v, H', I3, rv, ev, q3⟩ := I2.after hq'
      subst ev
      exact ⟨rv, ⟨V.ref (s.heap.objs.size + 1), H', I3, rfl, q3⟩⟩
    | next => exact False.elim hq'
    | brk => exact False.elim hq'
    | cont => exact False.elim hq'
def tMakeSD (C : Addr) (sp : Sp) (dvs : List V) (E : St → XK) (t : TA) : TE := fun σ H Q => t σ H fun vs H1 => ∀ x dx, H1 x = none → H1 dx = none → dx ≠ x →
  sp (.ref x :: (vs ++ dvs)) (upd (upd H1 dx (.own x)) x (.ins C dx [])) (fun v H2 => v = .non ∧ Q (.ref x) H2) (E σ)
theorem pe_makeSD (M : Mk X.K C f) (F : FnOk X.prog X.w X.K X.mg X.base CX k f fd ps sp) (hr : Room (k + 1) X.A) (hg : Gl X x) (hm : X.mg x = some (.ref C)) (hb : Binds X.K fd ps ds) (hd : Vals dvs ds) (hx : ∀ σ, PassesAt CX X σ (E σ))
    (ha : PA X (e :: es) t) (hdb : (x == ("__debug__" : Str)) = false := by decide) (he : starEach (e :: es) X.env = (false, eval e X.env) :: starEach es X.env := by rfl) (hpl : (backTo pos (starEach es X.env)).any (·.1) = false := by rfl) :
    PE X (.Call (.Name x p) (e :: es) [] pos) (tMakeSD C sp dvs E t) := by
  refine ⟨fun pins s σ H Q I h => ?_⟩
  refine wpAny_Call_Name_kw (ld_glob I hg hm ?_ hdb)
  refine PySem.W.callWith_K (h₀ := X.base) I.ok.mod.kin M.kp (thn (ha.run pos pins s σ H _ I h) fun us s1 ⟨vs, H1, I1, r, q⟩ => ⟨I1.kIn, ?_⟩) he hpl
  exact run_makeSD M F hr hb hd (hx σ) I1 r q
theorem pe_makeSD0 (M : Mk X.K C f) (F : FnOk X.prog X.w X.K X.mg X.base CX k f fd ps sp) (hr : Room (k + 1) X.A) (hg : Gl X x) (hm : X.mg x = some (.ref C)) (hb : Binds X.K fd ps ds) (hd : Vals dvs ds) (hx : ∀ σ, PassesAt CX X σ (E σ))
    (hdb : (x == ("__debug__" : Str)) = false := by decide) : PE X (.Call (.Name x p) [] [] pos) (tMakeSD C sp dvs E tNil) := by
  refine ⟨fun pins s σ H Q I h => ?_⟩
  refine wpAny_Call_Name_kw (ld_glob I hg hm ?_ hdb)
  exact PySem.W.callWith_K0 I.kIn M.kp (run_makeSD (us := []) M F hr hb hd (hx σ) I .nil h)
end
end L2
namespace Mir
open PySem PySem.Spec PyProof.Rows L2
/-- the attributes' names are told apart -/
def Inj (c : Ctx) : Prop := ∀ i j, c.nm i = c.nm j → i = j
def EM.lh {α : Type} (f : MHp → Option α) : EM α := fun ρ h => match f h with
  | some a => .ok a ρ h
  | none => .fail
def insAt (C : Nat) (v : Val) (h : MHp) : Option Fld := match v with
  | .ref a => (match h[a]? with
    | some (.ins C' fs) => if C' = C then some fs else none
    | _ => none)
  | _ => none
def putFM (n : Nat) (v : Val) : Fld → Fld
  | [] => [(n, v)]
  | (g, x) :: r => if g = n then (g, v) :: r else (g, x) :: putFM n v r
section
variable {K : PySem.W.Frag} {c : Ctx} {B : Bas} {G G' : Hp} {ι ι' : List Addr} {h h' : MHp} {H H' : Hp} {ρ ρ' : MEnv} {σ σ' : L2.St} {E : WX}
variable {α β : Type} {R : RelT α β}
theorem FRs.lookup (hi : Inj c) {n : Nat} : ∀ {fs : Fld} {xs : List (Str × V)}, FRs K c G ι fs xs → (∀ v, fs.lookup n = some v → ∃ x, xs.lookup (c.nm n) = some x ∧ VR K c G ι v x) ∧ (fs.lookup n = none → xs.lookup (c.nm n) = none)
  | _, _, .nil => ⟨fun v e => (by cases e), fun _ => rfl⟩
  | (m, w) :: r, _, .cons (x := x) (xs := xs) rv rs => by
    have ih := FRs.lookup hi (n := n) rs
    by_cases z : n = m
    · subst z
      refine ⟨fun v e => ?_, fun e => ?_⟩
      · rw [List.lookup_cons_self] at e; cases e
        exact ⟨x, List.lookup_cons_self, rv⟩
      · rw [List.lookup_cons_self] at e; cases e
    · have z2 : (c.nm n == c.nm m) = false := by
        rw [beq_eq_false_iff_ne]; exact fun q => z (hi _ _ q)
      have z3 : (n == m) = false := by rw [beq_eq_false_iff_ne]; exact z
      refine ⟨fun v e => ?_, fun e => ?_⟩
      · rw [List.lookup_cons, z3] at e
        rw [List.lookup_cons, z2]
        exact ih.1 v e
      · rw [List.lookup_cons, z3] at e
        rw [List.lookup_cons, z2]
        exact ih.2 e
theorem FRs.length : ∀ {fs : Fld} {xs : List (Str × V)}, FRs K c G ι fs xs → fs.length = xs.length
  | _, _, .nil => rfl
  | _, _, .cons _ r => by simp [FRs.length r]
theorem FRs.put (hi : Inj c) {n : Nat} {v : Val} {x : V} (rv : VR K c G ι v x) : ∀ {fs : Fld} {xs : List (Str × V)}, FRs K c G ι fs xs → FRs K c G ι (putFM n v fs) (putF (c.nm n) x xs)
  | _, _, .nil => .cons rv .nil
  | (m, w) :: r, _, .cons (x := y) (xs := xs) rw' rs => by
    unfold putFM putF
    by_cases z : m = n
    · subst z
      rw [if_pos rfl, if_pos rfl]
      exact .cons rv rs
    · rw [if_neg z, if_neg (fun q => z (hi _ _ q))]
      exact .cons rw' (FRs.put hi rv rs)
theorem insAt_ok (S : Stc K c G ι h H) {v : Val} {x : V} {C : Nat} {fs : Fld} (r : VR K c G ι v x) (e : insAt C v h = some fs) : ∃ a p dx xs, v = .ref a ∧ x = .ref p ∧ ι[a]? = some p ∧ h[a]? = some (.ins C fs) ∧ H p = some (.ins (c.CT C) dx xs) ∧ FRs K c G ι fs xs := by
  unfold insAt at e
  split at e
  · rename_i a
    split at e
    · rename_i C' fs' ea
      split at e
      · rename_i hz; subst hz; cases e
        obtain ⟨p, rfl, hp⟩ := r.refE
        obtain ⟨dx, xs, hH, rf⟩ := S.cell a p _ hp ea
        exact ⟨a, p, dx, xs, rfl, rfl, hp, ea, hH, rf⟩
      · cases e
    · cases e
  · cases e
theorem Post.lh {f : MHp → Option α} {Q : β → Hp → Prop} (p : Post K c R E B G ι σ (EM.lh f ρ h) Q) : ∃ a, f h = some a ∧ Post K c R E B G ι σ (EM.pure a ρ h) Q := by
  unfold EM.lh at p
  cases e : f h with
  | none => rw [e] at p; exact p.elim
  | some a => rw [e] at p; exact ⟨a, rfl, p⟩
theorem Post.bindLh {γ δ : Type} {S : RelT γ δ} {f : MHp → Option α} {k : α → EM γ} {Q : δ → Hp → Prop} (p : Post K c S E B G ι σ (EM.bind (EM.lh f) k ρ h) Q) : ∃ a, f h = some a ∧ Post K c S E B G ι σ (k a ρ h) Q := by
  unfold EM.bind EM.lh at p
  cases e : f h with
  | none => rw [e] at p; exact p.elim
  | some a => rw [e] at p; exact ⟨a, rfl, p⟩
/-! reading an attribute -/
def mFld (C n : Nat) (e : EM Val) : EM Val := EM.bind e fun v => EM.lh fun h => (insAt C v h).bind fun fs => fs.lookup n
theorem sim_fld (hi : Inj c) {C n : Nat} {ta : TE} {ma : EM Val} (cl : Cls K (c.CT C)) (na : NoAttr K (c.CT C) (c.nm n)) (ha : Sim K c (RV K c) E ta ma) : Sim K c (RV K c) E (tFld K ta (c.nm n)) (mFld C n ma) := by
  intro B G ι h H ρ σ Q hs hp
  refine ha.bind hs hp fun G1 ι1 h1 H1 ρ1 v x a1 b1 s1 r1 p1 => ?_
  obtain ⟨w, e, p2⟩ := p1.lh
  simp only [Option.bind_eq_some_iff] at e
  obtain ⟨fs, e1, e2⟩ := e
  obtain ⟨a, p, dx, xs, rfl, rfl, hp, ea, hH, rf⟩ := insAt_ok s1.st r1 e1
  obtain ⟨y, hy, ry⟩ := (FRs.lookup hi rf).1 w e2
  exact ⟨p, c.CT C, dx, xs, y, rfl, hH, cl, na, hy, Post.pure (R := RV K c) p2 s1 ry⟩
/-! a property -/
def mProp (C : Nat) (m : List Val → MHp → RE Val) (e : EM Val) : EM Val := EM.bind e fun v => EM.bind (EM.lh fun h => insAt C v h) fun _ ρ h => match m [v] h with
  | .ok w _ h' => .ok w ρ h'
  | _ => .fail
theorem sim_prop {C : Nat} {m : List Val → MHp → RE Val} {ta : TE} {ma : EM Val} (ha : Sim K c (RV K c) E ta ma) : Sim K c (RV K c) E (tProp (c.CT C) (spM K c 1 m) [] (fun _ _ _ => False) ta) (mProp C m ma) := by
  intro B G ι h H ρ σ Q hs hp
  refine ha.bind (S := RV K c) hs hp fun G1 ι1 h1 H1 ρ1 v x a1 b1 s1 r1 p1 => ?_
  obtain ⟨fs, e1, p2⟩ := p1.bindLh
  obtain ⟨a, p, dx, xs, rfl, rfl, hp, ea, hH, rf⟩ := insAt_ok s1.st r1 e1
  refine ⟨p, dx, xs, rfl, hH, G1, ι1, h1, [.ref a], rfl, s1.st, .cons r1 .nil, ?_⟩
  cases e2 : m [.ref a] h1 with
  | ok v ρ2 h2 =>
    rw [e2] at p2
    intro G' ι' H' x hG hι hf hH hg S' r'
    exact p2 G' ι' H' x hG hι (s1.call hG hι hf hH hg S') r'
  | exc C fs ρ2 h2 => rw [e2] at p2; exact p2.elim
  | fail => rw [e2] at p2; exact p2
/-! a method -/
def mMeth (C n : Nat) (m : List Val → MHp → RE Val) (dv : List Val) (e : EM Val) (r : EM (List Val)) : EM Val := EM.bind e fun v => EM.bind (EM.lh fun h => (insAt C v h).bind fun fs => if (fs.lookup n).isNone = true then some () else none) fun _ => EM.bind r fun vs ρ h => match m (v :: vs ++ dv) h with
  | .ok w _ h' => .ok w ρ h'
  | .exc C fs _ h' => .exc C fs ρ h'
  | .fail => .fail
theorem sim_meth (hi : Inj c) {C n k : Nat} {m : List Val → MHp → RE Val} {dv : List Val} {dvs : List V} {ta : TE} {ma : EM Val} {tr : TA} {mr : EM (List Val)} (hd : ∀ G ι, VRs K c G ι dv dvs) (hm : ∀ vs h, vs.length ≠ k → m vs h = .fail)
    (ha : Sim K c (RV K c) E ta ma) (hr : Sim K c (RVs K c) E tr mr) : Sim K c (RV K c) E (tMethSD (c.CT C) (c.nm n) (spM K c k m) dvs (WE E) ta tr) (mMeth C n m dv ma mr) := by
  intro B G ι h H ρ σ Q hs hp
  refine ha.bind (S := RV K c) hs hp fun G1 ι1 h1 H1 ρ1 v x a1 b1 s1 r1 p1 => ?_
  obtain ⟨_, e1, p2⟩ := p1.bindLh
  simp only [Option.bind_eq_some_iff] at e1
  obtain ⟨fs, e1, e2⟩ := e1
  split at e2
  · rename_i hz
    obtain ⟨a, p, dx, xs, rfl, rfl, hp, ea, hH, rf⟩ := insAt_ok s1.st r1 e1
    refine ⟨p, dx, xs, rfl, hH, (FRs.lookup hi rf).2 (by simpa using hz), ?_⟩
    refine hr.bind (S := RV K c) s1 p2 fun G2 ι2 h2 H2 ρ2 vs xs2 a2 b2 s2 r2 p3 => ?_
    have hl : (.ref a :: vs ++ dv).length = k := by
      by_cases z : (.ref a :: vs ++ dv).length = k
      · exact z
      · rw [hm _ _ z] at p3; exact p3.elim
    refine ⟨G2, ι2, h2, .ref a :: vs ++ dv, hl, s2.st, (VRs.cons (r1.mono a2 b2) r2).append (hd _ _), ?_⟩
    cases e2 : m (.ref a :: vs ++ dv) h2 with
    | ok v ρ2 h2 =>
      rw [e2] at p3
      intro G' ι' H' x hG hι hf hH hg S' r'
      exact p3 G' ι' H' x hG hι (s2.call hG hι hf hH hg S') r'
    | exc C fs ρ2 h2 =>
      rw [e2] at p3
      intro G' ι' H' cls d hG hι hf hH hg S' r'
      exact p3 G' ι' H' cls d hG hι (s2.call hG hι hf hH hg S') r'
    | fail => rw [e2] at p3; exact p3
  · cases e2
/-! storing an attribute -/
theorem St.putAt (S : St K c B G ι h H ρ σ) {a : Nat} {p : Addr} {cl : Cell} {o' : HO} (hp : ι[a]? = some p) (ro : CO K c G ι cl o') : St K c B G ι (h.set a cl) (upd H p o') ρ σ := by
  have hlt : a < h.length := by rw [← S.st.len]; exact (List.getElem?_eq_some_iff.mp hp).1
  have gp : G p = none := S.st.out p (List.mem_of_getElem? hp)
  have keep : ∀ q u, q ≠ p → H q = some u → upd H p o' q = some u := fun q u z e => by rw [upd_ne z]; exact e
  refine ⟨⟨fun q u e => keep q u (ne_of_none e gp) (S.st.le q u e), by simp [S.st.len], S.st.nd, S.st.out, fun j q cl' h1 h2 => ?_⟩, fun j sv hj => ?_, S.dis, fun q u e n => ?_, S.b2, S.b3, S.b4, S.b5⟩
  · by_cases z : a = j
    · subst z
      rw [List.getElem?_set_self hlt] at h2
      cases h2
      rw [hp] at h1; cases h1
      exact ro.cr upd_same
    · rw [List.getElem?_set_ne z] at h2
      have nq : q ≠ p := fun zz => by
        subst zz
        have hj1 := (List.getElem?_eq_some_iff.mp h1)
        have ha1 := (List.getElem?_eq_some_iff.mp hp)
        obtain ⟨l1, w1⟩ := hj1
        obtain ⟨l2, w2⟩ := ha1
        exact z ((List.getElem_inj S.st.nd).mp (w2.trans w1.symm))
      exact (S.st.cell j q cl' h1 h2).mono (Hle.refl _) (Ile.refl _) fun u e => keep q u nq e
  · obtain ⟨x, e2, r2⟩ := S.env j sv hj
    refine ⟨x, e2, ?_⟩
    cases sv with
    | un => trivial
    | val v => exact r2
    | xv C fs => exact r2
    | own cl2 =>
      obtain ⟨q, rfl, g, n, b, r3⟩ := r2
      have nq : q ≠ p := fun zz => n (by rw [zz]; exact List.mem_of_getElem? hp)
      exact ⟨q, rfl, g, n, b, r3.mono (Hle.refl _) (Ile.refl _) fun u e => keep q u nq e⟩
  · have nq : q ≠ p := fun zz => by
      subst zz
      rcases S.b2 q (List.mem_of_getElem? hp) with w | w
      · exact n w
      · rw [e] at w; cases w
    exact keep q u nq (S.b1 q u e n)
def setFld (C n : Nat) (v x : Val) : SM := fun ρ h => match x with
  | .ref a => (match insAt C (.ref a) h with
    | some fs => if fs.length < 1000 then .ok .next ρ (h.set a (.ins C (putFM n v fs))) else .fail
    | none => .fail)
  | _ => .fail
def sFldSet (C n : Nat) (mo mv : EM Val) : SM := EM.bind mv fun v => EM.bind mo fun x => setFld C n v x
theorem ss_fldSet (hi : Inj c) {C n : Nat} {to tv : TE} {mo mv : EM Val} (cl : Cls K (c.CT C)) (na : NoAttr K (c.CT C) (c.nm n)) (ho : Sim K c (RV K c) E to mo) (hv : Sim K c (RV K c) E tv mv) : SimS K c E (sFld K to tv (c.nm n)) (sFldSet C n mo mv) := by
  intro B G ι h H ρ σ D hs hp
  refine hv.bindS hs hp fun G1 ι1 h1 H1 ρ1 v y a1 b1 s1 r1 p1 => ?_
  refine ho.bindS s1 p1 fun G2 ι2 h2 H2 ρ2 w x a2 b2 s2 r2 p2 => ?_
  unfold setFld at p2
  cases w with
  | ref a =>
    dsimp only at p2
    cases e : insAt C (.ref a) h2 with
    | none => rw [e] at p2; exact p2.elim
    | some fs =>
      rw [e] at p2
      dsimp only at p2
      split at p2
      · rename_i hlen
        obtain ⟨a', p, dx, xs, ev, rfl, hp', ea, hH, rf⟩ := insAt_ok s2.st r2 e
        cases ev
        refine ⟨p, c.CT C, dx, xs, rfl, hH, cl, na, by rw [← rf.length]; exact hlen, ?_⟩
        exact p2 G2 ι2 _ σ (Hle.refl _) (Ile.refl _) (s2.putAt hp' ⟨dx, _, rfl, rf.put hi (r1.mono a2 b2)⟩)
      · exact p2.elim
  | _ => exact p2.elim
/-! making an object -/
def mMake (C : Nat) (m : List Val → MHp → RE Val) (dv : List Val) (r : EM (List Val)) : EM Val := EM.bind r fun vs ρ h => match m (.ref h.length :: (vs ++ dv)) (h ++ [.ins C []]) with
  | .ok .non _ h' => .ok (.ref h.length) ρ h'
  | .exc C fs _ h' => .exc C fs ρ h'
  | _ => .fail
theorem sim_make {C k : Nat} {m : List Val → MHp → RE Val} {dv : List Val} {dvs : List V} {tr : TA} {mr : EM (List Val)} (hd : ∀ G ι, VRs K c G ι dv dvs) (hm : ∀ vs h, vs.length ≠ k → m vs h = .fail)
    (hr : Sim K c (RVs K c) E tr mr) : Sim K c (RV K c) E (tMakeSD (c.CT C) (spM K c k m) dvs (WE E) tr) (mMake C m dv mr) := by
  intro B G ι h H ρ σ Q hs hp
  refine hr.bind (S := RV K c) hs hp fun G1 ι1 h1 H1 ρ1 vs xs a1 b1 s1 r1 p1 => ?_
  intro p dx hpn hdn hne
  have hl : (.ref h1.length :: (vs ++ dv)).length = k := by
    by_cases z : (.ref h1.length :: (vs ++ dv)).length = k
    · exact z
    · rw [hm _ _ z] at p1; exact p1.elim
  have s2 : St K c B G1 ι1 h1 (upd H1 dx (.own p)) ρ1 σ := s1.new' hdn
  have hpn2 : upd H1 dx (.own p) p = none := by rw [upd_ne (Ne.symm hne)]; exact hpn
  have s3 : St K c (B.pin p (.ins (c.CT C) dx [])) G1 ι1 h1 (upd (upd H1 dx (.own p)) p (.ins (c.CT C) dx [])) ρ1 σ := s2.pinNew hpn2
  have s4 := s3.cellNew (s2.off hpn2) (cl := .ins C []) ⟨dx, [], rfl, .nil⟩
  have hlen := s1.st.len
  have hι : Ile ι1 (ι1 ++ [p]) := ⟨[p], rfl⟩
  have rp : VR K c G1 (ι1 ++ [p]) (.ref h1.length) (.ref p) := .ref (by rw [← hlen]; simp)
  refine ⟨G1, ι1 ++ [p], h1 ++ [.ins C []], .ref h1.length :: (vs ++ dv), hl, s4.st, .cons rp ((r1.mono (Hle.refl _) hι).append (hd _ _)), ?_⟩
  cases e2 : m (.ref h1.length :: (vs ++ dv)) (h1 ++ [.ins C []]) with
  | ok v ρ2 h2 =>
    rw [e2] at p1
    cases v with
    | non =>
      intro G' ι' H' x hG hι' hf hH hg S' r'
      obtain rfl := r'.nonE
      exact ⟨rfl, p1 G' ι' H' _ hG (hι.trans hι') (s4.call hG hι' hf hH hg S') (rp.mono hG hι')⟩
    | _ => exact p1.elim
  | exc C fs ρ2 h2 =>
    rw [e2] at p1
    intro G' ι' H' cls d hG hι' hf hH hg S' r'
    exact p1 G' ι' H' cls d hG (hι.trans hι') (s4.call hG hι' hf hH hg S') r'
  | fail => rw [e2] at p1; exact p1.elim
end
/-! bundled -/
structure ClsF (K : PySem.W.Frag) (c : Ctx) (C : Nat) : Prop where
  cl : Cls K (c.CT C)
/-- a def that is a method, an __init__, a getter: with its mirror -/
structure Fn (P : Program) (w : World) (K : PySem.W.Frag) (mg : Str → Option Value) (base : Heap) (c : Ctx) (f : Addr) (k n : Nat) (dv : List Val) (dvs : List V) (m : List Val → MHp → RE Val) : Prop where
  ex : ∃ (fd : FuncData) (ps : List Str) (ds : List Value), Binds K fd ps ds ∧ Vals dvs ds ∧ FnOk P w K mg base (L2.CX P w) k f fd ps (spM K c n m)
  dr : ∀ G ι, VRs K c G ι dv dvs
  len : ∀ vs h, vs.length ≠ n → m vs h = .fail
section
variable {X : Cx} {K : PySem.W.Frag} {c : Ctx} {E : WX} {pos p apos : Pos} {o e : Expr} {es : List Expr} {x : Str} {tr : TA} {mr : EM (List Val)} {ta tb : TE} {ma mb : EM Val}
theorem pm_fld {C n : Nat} {f : Str} (hi : Inj c) (cl : Cls K (c.CT C)) (na : NoAttr K (c.CT C) f) (hf : c.nm n = f) (ha : EEm X K c E o ta ma) (hb : attributeBase o f X.env (eval o X.env) = eval o X.env := by rfl) : EEm X K c E (.Attribute o f pos) (tFld K ta f) (mFld C n ma) := by
  subst hf
  obtain ⟨rfl, pa, sa⟩ := ha
  exact ⟨rfl, pe_fld pa hb, sim_fld hi cl na sa⟩
theorem pm_prop {C k k' : Nat} {f : Str} {q g : Addr} {m : List Val → MHp → RE Val} (D : Fn X.prog X.w X.K X.mg X.base c g k 1 [] [] m) (cl : Cls K (c.CT C)) (hp : PropOf K (c.CT C) f q g) (hr : Room k' X.A) (ha : EEm X K c E o ta ma) (hk : k + 1 ≤ k' := by decide)
    (hb : attributeBase o f X.env (eval o X.env) = eval o X.env := by rfl) : EEm X K c E (.Attribute o f pos) (tProp (c.CT C) (spM K c 1 m) [] (fun _ _ _ => False) ta) (mProp C m ma) := by
  obtain ⟨rfl, pa, sa⟩ := ha
  obtain ⟨⟨fd, ps, ds, hbi, hd, F⟩, hdv, hlen⟩ := D
  refine ⟨rfl, pe_prop pa cl hp F (hr.mono hk) hbi hd (fun pins σ H s er s' I z => ?_) hb, sim_prop sa⟩
  obtain ⟨a, B, H', cls, d, _, _, _, _, _, _, _, z⟩ := z
  exact z.elim
theorem pm_meth {C n k k' j : Nat} {f : Str} {g : Addr} {m : List Val → MHp → RE Val} {dv : List Val} {dvs : List V} {pl : Sem Bool} (D : Fn X.prog X.w X.K X.mg X.base c g k j dv dvs m) (hi : Inj c) (cl : Cls K (c.CT C)) (hm : Meth K (c.CT C) f g) (hf : c.nm n = f) (hr : Room k' X.A) (tk : Takes X E) (ha : EEm X K c E o ta ma) (hra : EAm X K c E (e :: es) tr mr) (hk : k ≤ k' := by decide)
    (hst : starEach (e :: es) X.env = (false, eval e X.env) :: starEach es X.env := by rfl) (hpl : (backTo pos (starEach es X.env)).any (·.1) = false := by rfl)
    (ht : eval (.Call (.Attribute o f apos) (e :: es) [] pos) X.env = (do
      let ov ← eval o X.env
      standAt apos.atName
      let (f, first) ← holding [ov] (getMethod ov f pl)
      callWith pos f first (backTo pos (starEach (e :: es) X.env)) (backToKw pos (keywordEach [] X.env))) := by rfl) :
    EEm X K c E (.Call (.Attribute o f apos) (e :: es) [] pos) (tMethSD (c.CT C) f (spM K c j m) dvs (WE E) ta tr) (mMeth C n m dv ma mr) := by
  subst hf
  obtain ⟨rfl, pa, sa⟩ := ha
  obtain ⟨⟨fd, ps, ds, hbi, hd, F⟩, hdv, hlen⟩ := D
  exact ⟨rfl, pe_methSD pa cl hm F (hr.mono hk) hbi hd (passAt tk) hra.p hst hpl ht, sim_meth hi hdv hlen sa hra.s⟩
theorem pm_meth0 {C n k k' j : Nat} {f : Str} {g : Addr} {m : List Val → MHp → RE Val} {dv : List Val} {dvs : List V} {pl : Sem Bool} (D : Fn X.prog X.w X.K X.mg X.base c g k j dv dvs m) (hi : Inj c) (cl : Cls K (c.CT C)) (hm : Meth K (c.CT C) f g) (hf : c.nm n = f) (hr : Room k' X.A) (tk : Takes X E) (ha : EEm X K c E o ta ma) (hk : k ≤ k' := by decide)
    (ht : eval (.Call (.Attribute o f apos) [] [] pos) X.env = (do
      let ov ← eval o X.env
      standAt apos.atName
      let (f, first) ← holding [ov] (getMethod ov f pl)
      callWith pos f first (backTo pos (starEach [] X.env)) (backToKw pos (keywordEach [] X.env))) := by rfl) :
    EEm X K c E (.Call (.Attribute o f apos) [] [] pos) (tMethSD (c.CT C) f (spM K c j m) dvs (WE E) ta tNil) (mMeth C n m dv ma mNil) := by
  subst hf
  obtain ⟨rfl, pa, sa⟩ := ha
  obtain ⟨⟨fd, ps, ds, hbi, hd, F⟩, hdv, hlen⟩ := D
  exact ⟨rfl, pe_methSD0 pa cl hm F (hr.mono hk) hbi hd (passAt tk) ht, sim_meth hi hdv hlen sa sim_nil⟩
theorem pm_make {C k k' j : Nat} {g : Addr} {m : List Val → MHp → RE Val} {dv : List Val} {dvs : List V} (D : Fn X.prog X.w X.K X.mg X.base c g k j dv dvs m) (M : Mk K (c.CT C) g) (hm : X.mg x = some (.ref (c.CT C))) (hr : Room k' X.A) (tk : Takes X E) (hra : EAm X K c E (e :: es) tr mr) (hk : k + 1 ≤ k' := by decide)
    (hg : Gl X x := by rfl) (hdb : (x == ("__debug__" : Str)) = false := by decide) (he : starEach (e :: es) X.env = (false, eval e X.env) :: starEach es X.env := by rfl) (hpl : (backTo pos (starEach es X.env)).any (·.1) = false := by rfl) :
    EEm X K c E (.Call (.Name x p) (e :: es) [] pos) (tMakeSD (c.CT C) (spM K c j m) dvs (WE E) tr) (mMake C m dv mr) := by
  obtain ⟨rfl, pr, sr⟩ := hra
  obtain ⟨⟨fd, ps, ds, hbi, hd, F⟩, hdv, hlen⟩ := D
  exact ⟨rfl, pe_makeSD M F (hr.mono hk) hg hm hbi hd (passAt tk) pr hdb he hpl, sim_make hdv hlen sr⟩
theorem pm_make0 {C k k' j : Nat} {g : Addr} {m : List Val → MHp → RE Val} {dv : List Val} {dvs : List V} (D : Fn X.prog X.w X.K X.mg X.base c g k j dv dvs m) (M : Mk K (c.CT C) g) (hm : X.mg x = some (.ref (c.CT C))) (hr : Room k' X.A) (tk : Takes X E) (hK : X.K = K := by rfl) (hk : k + 1 ≤ k' := by decide)
    (hg : Gl X x := by rfl) (hdb : (x == ("__debug__" : Str)) = false := by decide) :
    EEm X K c E (.Call (.Name x p) [] [] pos) (tMakeSD (c.CT C) (spM K c j m) dvs (WE E) tNil) (mMake C m dv mNil) := by
  subst hK
  obtain ⟨⟨fd, ps, ds, hbi, hd, F⟩, hdv, hlen⟩ := D
  exact ⟨rfl, pe_makeSD0 M F (hr.mono hk) hg hm hbi hd (passAt tk) hdb, sim_make hdv hlen sim_nil⟩
theorem sm_fldSet {C n : Nat} {f : Str} {p' : Pos} (hi : Inj c) (cl : Cls K (c.CT C)) (na : NoAttr K (c.CT C) f) (hf : c.nm n = f) (ho : EEm X K c E o ta ma) (hv : EEm X K c E e tb mb) (hs : swapsWith e (some (.Attribute o f p')) pos.line X.env = pure false := by rfl) :
    ESm X K c E (.Assign [.Attribute o f p'] e pos) (sFld K ta tb f) (sFldSet C n ma mb) := by
  subst hf
  obtain ⟨rfl, pa, sa⟩ := ho
  exact ⟨rfl, ps_fld pa hv.p hs, ss_fldSet hi cl na sa hv.s⟩
theorem sm_never {st : Stmt} (hK : X.K = K := by rfl) : ESm X K c E st tNever sNever := ⟨hK, ps_never, ss_never⟩
end
end Mir

set_option Elab.async false
set_option linter.all false
set_option maxRecDepth 100000
set_option maxHeartbeats 4000000
/-! super().__init__(e) in the hand layer -/
namespace L2
open PySem PySem.Spec PyProof.Rows PySem.W PySem.Calls
/-- the context of a def's body that closes over __class__ -/
def cxK (CX : CXT) (P : Program) (w : World) (K : PySem.W.Frag) (mg : Str → Option Value) (base : Heap) (N : List Str) (qual : Str) (scope : Scope) (f : Addr) (cd : Value) (cc : Addr) (A : Around) (outer : List Env) (s : Shared) (H : Hp) (E : XK) : Cx where
  prog := P
  w := w
  K := K
  mg := mg
  base := base
  A := A.deeper (ksEnv qual scope s.heap.objs.size f cd cc)
  N := N
  s_0 := s
  H_0 := H
  env := ksEnv qual scope s.heap.objs.size f cd cc
  outer := outer
  stack := ksEnv qual scope s.heap.objs.size f cd cc :: outer
  ex := []
  calm := true
  fn := fun _ => false
  pn := []
  xe := fun e s' => wpAny (model P w) (A.deeper (ksEnv qual scope s.heap.objs.size f cd cc)) (leaving (ksEnv qual scope s.heap.objs.size f cd cc) e) (fun _ s'' => CX outer H s E e s'') (fun e' s'' => CX outer H s E e' s'') s'
/-- a scope with no own cells, all names local but __class__ and globals -/
structure SupScope (N P : List Str) (sc : Scope) : Prop where
  kind : sc.kind = .function
  co : sc.isCoroutine = false
  gen : sc.isGenerator = false
  nd : N.Nodup
  pre : N.take P.length = P
  par : ∀ x ∈ P, sc.names.lookup x = some .local
  nocell : ∀ y ∈ sc.names, y.2 ≠ .cell
  free : ∀ y, sc.names.lookup y = some .free → y = "__class__"
  sup : sc.names.lookup ("super" : Str) = some .globalImplicit
  cls : sc.names.lookup ("__class__" : Str) = some .free
theorem lookup_mem : ∀ {l : List (Str × Value)} {y : Str} {u : Value}, (l.map (·.1)).Nodup → (y, u) ∈ l → l.lookup y = some u
  | (z, v) :: r, y, u, nd, h => by
    rw [List.map_cons, List.nodup_cons] at nd
    rcases List.mem_cons.1 h with e | hr
    · cases e; exact List.lookup_cons_self
    · have hz : (y == z) = false := by
        rw [beq_eq_false_iff_ne]
        intro e
        subst e
        exact nd.1 (List.mem_map.2 ⟨_, hr, rfl⟩)
      rw [List.lookup_cons, hz]
      exact lookup_mem nd.2 hr
theorem zfst : ∀ (ps : List Str) (us : List Value), ((ps.zip us).map (·.1)).Sublist ps
  | [], _ => by simp
  | _ :: _, [] => by simp
  | p :: ps, u :: us => by simp only [List.zip_cons_cons, List.map_cons]; exact (zfst ps us).cons_cons p
theorem lookup_zip_rev {ps : List Str} {us : List Value} {i : Nat} {y : Str} {u : Value} (nd : ps.Nodup) (hp : ps[i]? = some y) (hu : us[i]? = some u) : (ps.zip us).reverse.lookup y = some u := by
  refine lookup_mem ?_ (List.mem_reverse.2 ?_)
  · rw [List.map_reverse]
    refine (List.reverse_perm _).nodup_iff.2 (nd.sublist ?_)
    exact zfst _ _
  · refine List.mem_of_getElem? (i := i) ?_
    rw [List.getElem?_zip_eq_some]
    exact ⟨hp, hu⟩
theorem inv_startK {CX : CXT} {P : Program} {w : World} {K : PySem.W.Frag} {mg : Str → Option Value} {base : Heap} {N ps : List Str} {qual : Str} {scope : Scope} {f cc : Addr} {cd : Value} {A : Around} {outer : List Env} {s : Shared} {H : Hp} {E : XK} {us : List Value} {vs : List V} {h1 : Heap} {tk : Nat} {oC : Obj} {cv : Option Value}
    (S : SupScope N ps scope) (hd : A.handled = none) (e0 : Env0 P w K mg base A outer s H) (hl : vs.length = ps.length) (r : Vals vs us)
    (hC : K.lookup cc = some oC) (hCd : oC.data = .cell cv)
    (hns : h1.Ns s.heap.objs.size (fun x => (ps.zip us).reverse.lookup x)) (hk : ∀ b o, s.heap.get? b = some o → h1.get? b = some o) :
    Inv (cxK CX P w K mg base N qual scope f cd cc A outer s H E) [] (start N vs) H { s with heap := h1, toks := tk } := by
  have hpl : ps.length ≤ N.length := by have := congrArg List.length S.pre; rw [List.length_take] at this; omega
  have noA : ∀ b : Addr, b ∉ (cxK CX P w K mg base N qual scope f cd cc A outer s H E).ex := fun b z => absurd (show b ∈ ([] : List Addr) from z) (by simp)
  have hbC : base.get? cc = some oC := e0.mod.kin _ _ hC
  have hsC : s.heap.get? cc = some oC := (e0.bs _ _ hbC).1
  have one : ∀ y c, (cxK CX P w K mg base N qual scope f cd cc A outer s H E).env.cells.lookup y = some c → y = "__class__" ∧ c = cc := fun y c h => by
    have h : List.lookup y [(("__class__" : Str), cc)] = some c := h
    by_cases z : y = "__class__"
    · subst z; rw [List.lookup_cons_self] at h; cases h; exact ⟨rfl, rfl⟩
    · rw [List.lookup_cons] at h
      have : (y == ("__class__" : Str)) = false := by simpa using z
      rw [this] at h; cases h
  refine ⟨⟨e0.mod, S.kind, rfl, rfl, Nat.le_refl _, fun y z c h1 h2 => ?_, fun y hy => ?_, fun y c z h => absurd z (by simp [cxK]), fun _ => hd, Around.frames_deeper e0.frames, .inr ⟨rfl, rfl⟩, fun b z => absurd z (noA b), e0.bs, e0.bsz, fun b _ _ => noA b, fun b z => absurd z (noA b), e0.funs, e0.frf⟩,
    rfl, e0.bare, Un.kept hk, ⟨_, hns, fun i y v h1 h2 h3 => ?_⟩, fun y c h => ?_, e0.hok.fresh (Nat.le_refl _), fun y c h => ?_, fun p hp => absurd (show p ∈ ([] : List (Addr × Obj)) from hp) (by simp), e0.hok.kept hk, ?_⟩
  · exact (one y c h1).1.trans (one z c h2).1.symm
  · have hy : scope.names.lookup y = some .cell ∨ scope.names.lookup y = some .free := hy
    rcases hy with hy | hy
    · exact absurd rfl (S.nocell _ (PySem.mem_of_lookup hy))
    · rw [S.free y hy]; exact ⟨cc, List.lookup_cons_self⟩
  · have hi : i < vs.length := by
      unfold start at h2
      by_cases hi : i < vs.length
      · exact hi
      · rw [List.getElem?_append_right (by simpa using hi)] at h2
        rw [List.getElem?_replicate] at h2
        split at h2 <;> cases h2
    have ha : vs[i]? = some v := by
      unfold start at h2
      rw [List.getElem?_append_left (by simpa using hi), List.getElem?_map] at h2
      cases e : vs[i]? with
      | none => rw [e] at h2; cases h2
      | some a => rw [e] at h2; cases h2; rfl
    obtain ⟨u, hu, rv⟩ := r.get ha
    have hp : ps[i]? = some y := by
      rw [← S.pre, List.getElem?_take_of_lt (by omega)]; exact h1
    have ndP : ps.Nodup := by rw [← S.pre]; exact S.nd.sublist (List.take_sublist _ _)
    refine ⟨u, rv, .inl ⟨S.par y (List.mem_of_getElem? hp), ?_⟩⟩
    exact lookup_zip_rev ndP hp hu
  · obtain ⟨rfl, rfl⟩ := one y c h
    exact ⟨cv, oC, hk _ _ hsC, hCd⟩
  · obtain ⟨rfl, rfl⟩ := one y c h
    exact (e0.bs _ _ hbC).2
  · show (start N vs).length = N.length
    unfold start; simp; omega
theorem none_of_keepB {h h' : Heap} (k : ∀ b o, h.get? b = some o → h'.get? b = some o) : h.get? h'.objs.size = none := by
  cases e : h.get? h'.objs.size with
  | none => rfl
  | some o => exact absurd (Heap.lt_size (k _ _ e)) (Nat.lt_irrefl _)
/-- what the text says of a def that closes over __class__ -/
structure SupAt (K : PySem.W.Frag) (prog : Program) (mg : Str → Option Value) (f cda cc D : Addr) (fd : FuncData) (ar : Arg) : Prop where
  fn : ∃ oc od osl, K.lookup f = some ⟨oc, od, .func fd, osl⟩
  par : (fd.params.posonlyargs ++ fd.params.args).head? = some ar
  code : ∃ ccl cdd ccs vs file tf, K.lookup cda = some ⟨ccl, cdd, .fields vs, ccs⟩ ∧ vs[2]? = some (.str file tf) ∧ ((prog.main.file : Str) == file) = true
  cell : ∃ cl cld csl, K.lookup cc = some ⟨cl, cld, .cell (some (.ref D)), csl⟩
  cls : (clsIn K D).isSome = true
  sup : mg "super" = none
  top : (prog.main.scope.names.lookup ("super" : Str)).isSome = false
section
variable {X : Cx} {pins : List (Addr × Obj)} {σ : St} {H : Hp} {s : Shared} {q : Str} {scope : Scope} {L f cda cc D x C : Addr} {fd : FuncData} {ar : Arg} {ox : Obj}
theorem sup_base {body : List Stmt} {p0 p1 : Pos} {whole : Sem Value} (hE : X.env = ksEnv q scope L f (.ref cda) cc) (SA : SupAt X.K X.prog X.mg f cda cc D fd ar) {N P : List Str} (S : SupScope N P scope) (I : Inv X pins σ H s)
    (hN : X.N[0]? = some ar.arg) (hσ : σ[0]? = some (some (.ref x))) (hloc : scope.names.lookup ar.arg = some .local)
    (hx : s.heap.get? x = some ox) (hxc : ox.cls = .ref C) (hnc : ∀ c, ox.data ≠ .cls c) (hsub : mroIn X.K C (.ref D) = some true) :
    PySem.wpAt (model X.prog X.w) X.A (.func body X.env) (attributeBase (.Call (.Name "super" p0) [] [] p1) "__init__" X.env whole)
      (fun v s' => ∃ so, v = .ref so ∧ Inv X pins σ H s' ∧ s'.heap.get? so = some (ks_superObj D x C) ∧ (∀ b o, s.heap.get? b = some o → s'.heap.get? b = some o)) X.xe s := by
  obtain ⟨oc, od, osl, hf⟩ := SA.fn
  obtain ⟨ccl, cdd, ccs, vs, file, tf, hcode, hvs, hfile⟩ := SA.code
  obtain ⟨cl, cld, csl, hcell⟩ := SA.cell
  have KX : X.K.In s.heap := I.kIn
  obtain ⟨cdD, hcd⟩ := Option.isSome_iff_exists.1 SA.cls
  obtain ⟨oD, hD1, hD2⟩ : ∃ oD, s.heap.get? D = some oD ∧ oD.data = .cls cdD := by
    unfold clsIn at hcd
    split at hcd
    · rename_i c d cd' sl ho
      cases hcd
      exact ⟨_, KX _ _ ho, rfl⟩
    · cases hcd
  obtain ⟨mb, h1, h2⟩ := I.mod.blt
  have hk : X.env.scope.kind = .function := by rw [hE]; exact S.kind
  have hks : X.env.kindOf "super" = some .globalImplicit := by rw [hE]; exact S.sup
  have hkc : X.env.kindOf "__class__" = some .free := by rw [hE]; exact S.cls
  have hkl : X.env.kindOf ar.arg = some .local := by rw [hE]; exact hloc
  have hfu : X.env.func = some f := by rw [hE]
  have hco : X.env.code = .ref cda := by rw [hE]
  refine ks_wpAt_super_base (env := X.env) hks hkc rfl hfu (KX _ _ hf) rfl SA.par hco (KX _ _ hcode) rfl hvs hfile SA.top ?_
  refine ks_loadName_global hk hks (Calls.loadGlobal_builtin (by rw [I.ok.glob]; exact I.mod.glob.keeps I.bk) SA.sup (by rw [I.ok.blt]; exact h1.keeps I.bk) ((h2 "super" (by decide)).trans (by first | boot_by_name | rfl | kernel_rfl)) ⟨rfl, ?_⟩)
  refine wpAny_loadName_free hk hkc (by rw [hE]; rfl) ⟨_, KX _ _ hcell, rfl⟩ ?_
  obtain ⟨m, hns, hm⟩ := I.loc
  obtain ⟨u, ru, lk⟩ := hm 0 ar.arg (.ref x) hN hσ (.inl (by rw [hE]; exact hloc))
  obtain rfl : u = Value.ref x := ru
  have hmu : m ar.arg = some (.ref x) := by
    rcases lk with ⟨_, e⟩ | ⟨e, _⟩
    · exact e
    · rw [hkl] at e; rcases e with e | e <;> cases e
  refine wpAny_loadName_local hk hkl hns hmu ?_
  obtain ⟨hh, g, d, t, os⟩ := s
  refine ks_wpAny_isType_cls hD1 hD2 ⟨rfl, ?_⟩
  refine ks_wpAny_call_super hD1 hD2 hx hxc hnc (looks_mroIn KX hsub) (fun h' e k => ?_)
  exact ⟨_, rfl, I.kept (t' := t) k, e, k⟩
theorem exo_same {H : Hp} {a C : Addr} {d : Option Addr} (e : H a = some (exo a C d)) : upd H a (exo a C d) = H := by
  funext b
  by_cases hb : b = a
  · rw [hb, upd_same, e]
  · rw [upd_ne hb]
/-- the built-in __init__ as a method-wrapper is called -/
theorem call_mwI {A : Around} {E : Value → Shared → Prop} {u a C : Addr} {us : List Value} {Q : Value → Shared → Prop} (T : OexC X.K C) (I : Inv X pins σ H s) (e : H a = some (exo a C none)) (hu : s.heap.get? u = some (kxs_mw "ValueError.__init__" a)) (hl : us.length ≤ sizeLine) (h : ∀ s', Inv X pins σ H s' → Q .none s') :
    wpAny (model X.prog X.w) A (call (.ref u) us) Q E s := by
  obtain ⟨nm, q, N, bs, bm, sn, sub, ab, col, dd, k0, k1, k2, k3, k5, hC, hbm⟩ := T.cls
  obtain ⟨t1, ho⟩ := exo_at I.hok e
  obtain ⟨hp, g, d, t, os⟩ := s
  refine wpAny_call (codeAny_of_tree ?_)
  show wpAny _ A.in1 (callAny (.ref u) ⟨us, []⟩) _ _ _
  simp only [callAny]
  refine wpAny_bind (wpAny_load hu ?_)
  simp only [kxs_mw, show (Value.type "method-wrapper" == Value.type "method" || Value.type "method-wrapper" == Value.type "builtin_function_or_method" || Value.type "method-wrapper" == Value.type "method-wrapper") = true by decide, if_true]
  refine KFB.if_so (by decide) ?_
  refine wpAny_bind (check_bound_init F.excBase_ValueError.toExcCallFacts (I.kIn _ _ hC) ho rfl ?_)
  refine wpAny_bind (wpAny_pure (wpAny_pure ?_))
  refine ⟨plainId_quiet F.excBase_ValueError.init.plain _, codeAny_builtin F.excBase_ValueError.initEntry ?_⟩
  refine exc_init_tree (cls := .ref C) (t0 := t1) (dv := none) (c2 := .none) (c3 := .none) (b4 := .bool false) ho hl fun h' k hx _ => ?_
  have J := I.write (t' := t) (x := a) (e := a) (o := exo a C none) (by rw [e]; exact True.intro) (.inl rfl) k ⟨_, hx⟩ (exo_ok hx)
  rw [exo_same e] at J
  exact h _ J
/-- what K says of super().__init__ in a def of the class D, for objects of the class C: the built-in one -/
structure SupV (K : PySem.W.Frag) (C D : Addr) : Prop where
  oex : OexC K C
  nxt : ks_superIn K C D "__init__" = some (some (.builtin "ValueError.__init__"))
  sub : subIn K (.ref C) (.type "ValueError") = some true
  mro : mroIn K C (.ref D) = some true
  opq : nsIn K cStatics "thirdparty.any" = some none
theorem sup_stmtV {pl : Sem Bool} {body : List Stmt} {p0 p1 p2 p3 p4 : Pos} {e : Expr} {ta : TA} {Qn : Hp → Prop} {a : Addr} (hE : X.env = ksEnv q scope L f (.ref cda) cc) (SA : SupAt X.K X.prog X.mg f cda cc D fd ar) {N P : List Str} (S : SupScope N P scope) (SV : SupV X.K C D) (I : Inv X pins σ H s)
    (hN : X.N[0]? = some ar.arg) (hσ : σ[0]? = some (some (.ref a))) (hloc : scope.names.lookup ar.arg = some .local) (hH : H a = some (exo a C none)) (ha : PA X [e] ta)
    (hq : ta σ H fun vs H1 => ∃ v, vs = [v] ∧ H1 a = some (exo a C none) ∧ Qn H1)
    (he : starEach [e] X.env = (false, eval e X.env) :: starEach [] X.env := by rfl) (hpl : (backTo p3 (starEach [] X.env)).any (·.1) = false := by rfl)
    (hev : eval (.Call (.Attribute (.Call (.Name "super" p0) [] [] p1) "__init__" p2) [e] [] p3) X.env = (do
      let ov ← attributeBase (.Call (.Name "super" p0) [] [] p1) "__init__" X.env (eval (.Call (.Name "super" p0) [] [] p1) X.env)
      standAt p2.atName
      let (f, first) ← holding [ov] (getMethod ov "__init__" pl)
      callWith p3 f first (backTo p3 (starEach [e] X.env)) []) := by rfl)
    (hi : interactive X.env = false := by rfl) (hs : swapsWith (.Call (.Attribute (.Call (.Name "super" p0) [] [] p1) "__init__" p2) [e] [] p3) none p4.line X.env = pure false := by rfl) :
    PySem.wpAt (model X.prog X.w) X.A (.func body X.env) (exec (.Expr (.Call (.Attribute (.Call (.Name "super" p0) [] [] p1) "__init__" p2) [e] [] p3) p4) X.env)
      (fun fl s' => fl = .next ∧ ∃ H', Inv X pins σ H' s' ∧ Qn H') X.xe s := by
  refine ks_wpAt_Expr_any (ks_wpAt_MethodCall (pl := pl) ?_ hev) hi hs
  obtain ⟨t1, ho⟩ := exo_at I.hok hH
  refine ks_wpAt_mono (sup_base hE SA S I hN hσ hloc ho rfl (fun _ z => by cases z) SV.mro) (fun v s' hv => ?_) fun _ _ z => z
  obtain ⟨so, rfl, I1, hso, k1⟩ := hv
  have X1 : X.K.In s'.heap := I1.kIn
  have ho1 := k1 _ _ ho
  have IA : PySem.W.InstAt s'.heap a { cls := .ref C, dict := none, data := .fields #[.ref t1, .none, .none, .none, .bool false, .none] } C none := ⟨ho1, rfl, rfl, trivial⟩
  obtain ⟨hh, g, d, t, os⟩ := s'
  cases hc : clsIn X.K C with
  | none => have := SV.nxt; unfold ks_superIn at this; rw [hc] at this; cases this
  | some cd =>
    have hn := SV.nxt
    unfold ks_superIn at hn
    rw [hc] at hn
    refine kxs_getMethod kxs_ValueError hso (looks_opaque X1 SV.opq) (l₀ := cd.mro) ?_ rfl X1 hn (IA.type.andThen (looks_subIn X1 SV.sub)) (ks_ne X1 IA hc) (by decide) ?_
    · exact fun A Q E s k q => wpAny_bind ((looks_clsIn X1 hc) A _ E s k (wpAny_pure q))
    · have kk : ∀ b o, hh.get? b = some o → (hh.push (kxs_mw "ValueError.__init__" a)).get? b = some o := fun b o e => Heap.get?_push_of_some _ e
      have hu : (hh.push (kxs_mw "ValueError.__init__" a)).get? hh.objs.size = some (kxs_mw "ValueError.__init__" a) := Heap.get?_push_size _ rfl
      have I2 : Inv X ((hh.objs.size, kxs_mw "ValueError.__init__" a) :: pins) σ H ⟨hh.push (kxs_mw "ValueError.__init__" a), g, d, t + 1, os⟩ := ClX.pin_new (t' := t + 1) I1 kk (Nat.le_refl _) hu (fun v z => by cases z)
      show wpAny _ _ (callWith p3 (.ref hh.objs.size) [] (backTo p3 (starEach [e] X.env)) []) _ _ _
      have hA := thn (ha.run p3 _ _ σ H _ I2 hq) fun us s1 (hh1 : _) => (show KxsAt "ValueError.__init__" hh.objs.size a s1.heap ∧ wpAny (model X.prog X.w) X.A (call (.ref hh.objs.size) us) (fun _ s' => Flow.next = .next ∧ ∃ H', Inv X pins σ H' s' ∧ Qn H') X.xe s1 from by
        obtain ⟨vs, H1, I3, r, v, rfl, hH1, qn⟩ := hh1
        have hl := r.length
        refine ⟨ClX.pin_at I3, call_mwI SV.oex (ClX.unpin I3) hH1 (ClX.pin_at I3) ?_ fun s2 J => ⟨rfl, H1, J, qn⟩⟩
        rw [← hl]; exact (by decide : 1 ≤ sizeLine))
      rw [he] at hA ⊢
      exact kxs_callWith (i := "ValueError.__init__") (x := a) (by show (false || (backTo p3 (starEach [] X.env)).any (·.1)) = false; rw [hpl]; rfl) (evalArgs_plain hA)
/-- .. a def of the program -/
structure SupF (K : PySem.W.Frag) (C D g : Addr) : Prop where
  nxt : ks_superIn K C D "__init__" = some (some (.ref g))
  typ : typeIn K (.ref g) = some (.type "function")
  fnI : fnIn K g = true
  mro : mroIn K C (.ref D) = some true
  opq : nsIn K cStatics "thirdparty.any" = some none
theorem sup_stmtF {pl : Sem Bool} {body : List Stmt} {p0 p1 p2 p3 p4 : Pos} {e : Expr} {ta : TA} {Qn : Hp → Prop} {a g : Addr} {k : Nat} {fd2 : FuncData} {ps2 : List Str} {sp2 : Sp} (hE : X.env = ksEnv q scope L f (.ref cda) cc) (SA : SupAt X.K X.prog X.mg f cda cc D fd ar) {N P : List Str} (S : SupScope N P scope) (SF : SupF X.K C D g)
    (F : FnOk X.prog X.w X.K X.mg X.base (L2.CX X.prog X.w) k g fd2 ps2 sp2) (hb : Binds X.K fd2 ps2 []) (hr : Room k X.A) (I : Inv X pins σ H s)
    (hN : X.N[0]? = some ar.arg) (hσ : σ[0]? = some (some (.ref a))) (hloc : scope.names.lookup ar.arg = some .local) (hH : H a = some (exo a C none)) (ha : PA X [e] ta)
    (hq : ta σ H fun vs H1 => ∃ v, vs = [v] ∧ sp2 [.ref a, v] H1 (fun _ H2 => Qn H2) (fun _ _ _ => False))
    (he : starEach [e] X.env = (false, eval e X.env) :: starEach [] X.env := by rfl) (hpl : (backTo p3 (starEach [] X.env)).any (·.1) = false := by rfl)
    (hev : eval (.Call (.Attribute (.Call (.Name "super" p0) [] [] p1) "__init__" p2) [e] [] p3) X.env = (do
      let ov ← attributeBase (.Call (.Name "super" p0) [] [] p1) "__init__" X.env (eval (.Call (.Name "super" p0) [] [] p1) X.env)
      standAt p2.atName
      let (f, first) ← holding [ov] (getMethod ov "__init__" pl)
      callWith p3 f first (backTo p3 (starEach [e] X.env)) []) := by rfl)
    (hi : interactive X.env = false := by rfl) (hs : swapsWith (.Call (.Attribute (.Call (.Name "super" p0) [] [] p1) "__init__" p2) [e] [] p3) none p4.line X.env = pure false := by rfl) :
    PySem.wpAt (model X.prog X.w) X.A (.func body X.env) (exec (.Expr (.Call (.Attribute (.Call (.Name "super" p0) [] [] p1) "__init__" p2) [e] [] p3) p4) X.env)
      (fun fl s' => fl = .next ∧ ∃ H', Inv X pins σ H' s' ∧ Qn H') X.xe s := by
  refine ks_wpAt_Expr_any (ks_wpAt_MethodCall (pl := pl) ?_ hev) hi hs
  obtain ⟨t1, ho⟩ := exo_at I.hok hH
  refine ks_wpAt_mono (sup_base hE SA S I hN hσ hloc ho rfl (fun _ z => by cases z) SF.mro) (fun v s' hv => ?_) fun _ _ z => z
  obtain ⟨so, rfl, I1, hso, k1⟩ := hv
  have X1 : X.K.In s'.heap := I1.kIn
  have ho1 := k1 _ _ ho
  have IA : PySem.W.InstAt s'.heap a { cls := .ref C, dict := none, data := .fields #[.ref t1, .none, .none, .none, .bool false, .none] } C none := ⟨ho1, rfl, rfl, trivial⟩
  obtain ⟨hh, g0, d, t, os⟩ := s'
  obtain ⟨of, hof, hofc⟩ : ∃ of, hh.get? g = some of ∧ of.cls = .type "function" := by
    have ht' : (X.K.lookup g).map (·.cls) = some (.type "function") := SF.typ
    cases z : X.K.lookup g with
    | none => rw [z] at ht'; cases ht'
    | some of => rw [z] at ht'; exact ⟨of, X1 _ _ z, Option.some.inj ht'⟩
  cases hc : clsIn X.K C with
  | none => have := SF.nxt; unfold ks_superIn at this; rw [hc] at this; cases this
  | some cd =>
    have hn := SF.nxt
    unfold ks_superIn at hn
    rw [hc] at hn
    refine ks_wpAny_getMethod_super hso (looks_opaque X1 SF.opq) (l₀ := cd.mro) ?_ rfl X1 hn hof hofc (ks_ne X1 IA hc) (by decide) ?_
    · exact fun A Q E s k q => wpAny_bind ((looks_clsIn X1 hc) A _ E s k (wpAny_pure q))
    · have I2 : Inv X ((hh.objs.size, methodObj (.ref g) (.ref a)) :: pins) σ H ⟨hh.push (methodObj (.ref g) (.ref a)), g0, d, t + 1, os⟩ := ClX.met_new (s := ⟨hh, g0, d, t, os⟩) I1
      have hbase : X.base.get? hh.objs.size = none := none_of_keepB I1.bk
      show wpAny _ _ (callWith p3 (.ref hh.objs.size) [] (backTo p3 (starEach [e] X.env)) []) _ _ _
      refine ClX.callwith_cm I2 hbase SF.fnI ?_ he hpl
      refine thn (ha.run p3 _ _ σ H _ I2 hq) fun us s1 hh1 => ?_
      obtain ⟨vs, H1, I3, r, v, rfl, qs⟩ := hh1
      refine ⟨⟨ClX.pin_at I3, I3.kIn⟩, ?_⟩
      have r2 : Vals [V.ref a, v] (.ref a :: us) := .cons rfl r
      have hl : (Value.ref a :: us).length = ps2.length := by rw [← r2.length]; exact F.len _ _ _ _ qs
      have b := hb s1 (.ref a :: us) I3.kIn (by rw [List.append_nil]; exact hl)
      rw [List.append_nil] at b
      refine wpAny_call (PySem.W.method_call (ClX.pin_at I3) (codeAny_mono (F.run X.A X.stack s1 H1 ⟨.ref a :: us, []⟩ (.ref a :: us) [.ref a, v] _ _ hr I3.env0 b r2 qs) fun r s' hq' => ?_))
      cases r with
      | error e =>
        obtain ⟨a', B, H', cls, d', _, _, _, _, _, _, _, z⟩ := hq'
        exact z.elim
      | ok fl =>
        cases fl with
        | ret u =>
          obtain ⟨v2, H2, J, rv, q2⟩ := (ClX.unpin I3).after hq'
          exact ⟨rfl, H2, J, q2⟩
        | next => exact False.elim hq'
        | brk => exact False.elim hq'
        | cont => exact False.elim hq'
end
/-- a def whose body begins with super().__init__(..) -/
theorem fn_sup {CX : CXT} {P : Program} {w : World} {K : PySem.W.Frag} {mg : Str → Option Value} {base : Heap} {k : Nat} {f cc cda : Addr} {name qual : Str} {params : Arguments} {st : Stmt} {rest : List Stmt} {scope : Scope} {dV kV doc pm ct oc : Value} {an od : Option Addr}
    {osl : Array (Option Value)} {N ps : List Str} {sp : Sp} {oC : Obj} {cv : Option Value} (lk : K.lookup f = some ⟨oc, od, .func (ksFn name qual params (st :: rest) scope dV kV doc pm an (.ref cda) ct cc), osl⟩) (hcd : PySem.W.codeIn K (.ref cda) qual = true) (S : SupScope N ps scope)
    (hC : K.lookup cc = some oC) (hCd : oC.data = .cell cv)
    (len : ∀ vs H Q E, sp vs H Q E → vs.length = ps.length)
    (hbody : ∀ (A : Around) (outer : List Env) (s : Shared) (H : Hp) (vs : List V) (Q : VK) (E : XK), Room k (A.deeper (ksEnv qual scope s.heap.objs.size f (.ref cda) cc)) → sp vs H Q E →
      ∃ Qn : Hp → Prop, (∀ s1, Inv (cxK CX P w K mg base N qual scope f (.ref cda) cc A outer s H E) [] (start N vs) H s1 →
          PySem.wpAt (model P w) (A.deeper (ksEnv qual scope s.heap.objs.size f (.ref cda) cc)) (.func (st :: rest) (ksEnv qual scope s.heap.objs.size f (.ref cda) cc)) (exec st (ksEnv qual scope s.heap.objs.size f (.ref cda) cc))
            (fun fl s' => fl = .next ∧ ∃ H', Inv (cxK CX P w K mg base N qual scope f (.ref cda) cc A outer s H E) [] (start N vs) H' s' ∧ Qn H') (cxK CX P w K mg base N qual scope f (.ref cda) cc A outer s H E).xe s1) ∧
        ∃ t, PSs (cxK CX P w K mg base N qual scope f (.ref cda) cc A outer s H E) rest t ∧ ∀ H', Qn H' → t { nx := fun _ H' => Q .non H', rt := Q } (start N vs) H') :
    FnOk P w K mg base CX (k + 1) f (ksFn name qual params (st :: rest) scope dV kV doc pm an (.ref cda) ct cc) ps sp := by
  refine ⟨len, fun A outer s H args us vs Q E hr e0 hb r hsp => ?_⟩
  have hl := len _ _ _ _ hsp
  have KX : K.In s.heap := e0.mod.kin.keeps fun b o e => (e0.bs b o e).1
  have lim : s.heap.NoLimit := e0.mod.nolimit.keeps fun b o e => (e0.bs b o e).1
  obtain ⟨Qn, h1, t, ht, h2⟩ := hbody A outer s H vs Q E (hr.deeper _) hsp
  refine ks_codeAny_call_defAt (fd := ksFn name qual params (st :: rest) scope dV kV doc pm an (.ref cda) ct cc) (body := st :: rest) (binds := ps.zip us) hr.depth (KX _ _ lk) rfl lim (codeRec_of KX hcd) rfl hb S.nocell (fun ⟨n, v⟩ hy => S.par n (List.of_mem_zip hy).1) (fun h₁ hns hk => ?_) S.co S.gen S.kind
  have I := inv_startK (CX := CX) (P := P) (w := w) (mg := mg) (base := base) (qual := qual) (f := f) (cd := .ref cda) (A := A) (outer := outer) (E := E) (tk := s.toks + (ps.zip us).length) S hr.hd e0 hl r hC hCd hns hk
  have fin : ∀ {σ' : St} {H' : Hp} {v : V} {u : Value} {s' : Shared}, Inv (cxK CX P w K mg base N qual scope f (.ref cda) cc A outer s H E) [] σ' H' s' → RelV v u → Q v H' → CE outer P w H s Q u s' :=
    fun {σ' H' v u s'} J rv q => ⟨v, H', J.os, J.bare, J.base, J.hok, rv, q⟩
  refine ks_wpAt_execs_cons (ks_wpAt_mono (h1 _ I) (fun fl s' hf => ?_) fun _ _ z => z)
  obtain ⟨rfl, H', J, qn⟩ := hf
  refine wpAt_of_wpAny (wpAny_mono (ht.run [] s' (start N vs) H' _ J (h2 H' qn)) (fun fl s' hs => ?_) fun e s' hs => hs)
  cases fl with
  | ret u =>
    obtain ⟨v, σ', H', J, rv, q⟩ := hs
    exact fin J rv q
  | next =>
    obtain ⟨σ', H', J, q⟩ := hs
    exact fin (v := V.non) (u := Value.none) J rfl q
  | brk =>
    obtain ⟨_, _, _, q⟩ := hs
    exact False.elim q
  | cont =>
    obtain ⟨_, _, _, q⟩ := hs
    exact False.elim q
end L2

set_option Elab.async false
set_option linter.all false
set_option maxRecDepth 100000
set_option maxHeartbeats 4000000
/-! own exceptions with super().__init__: made -/
namespace L2
open PySem PySem.Spec PyProof.Rows PySem.W PySem.Calls
section
variable {X : Cx}
/-- the end of C(e, ..), no field stored -/
theorem mk_end0N {pins : List (Addr × Obj)} {σ : St} {H1 H2 : Hp} {hp hp2 h2 : Heap} {g1 g2 : Array GenState} {d1 d2 : Drawn} {t1 t2 : Nat} {os1 os2 : OsState} {a C : Addr} (I1 : Inv X pins σ H1 ⟨hp, g1, d1, t1, os1⟩)
    (ha : hp.objs.size ≤ a) (k : ∀ b o, hp.get? b = some o → hp2.get? b = some o) (un : Un (frs X.stack) [] (upd H1 a (exo a C none)) H2 hp2 h2) (hok : HOk X.prog X.w H2 h2) (ho : os2 = os1) (hb : AllBare g2)
    (ea : H2 a = some (exo a C none)) :
    ∃ (t0 : Addr) (G : Heap), Inv X pins σ (del H2 a) ⟨G, g2, d2, t2, os2⟩ ∧ (∀ b o, G.get? b = some o → h2.get? b = some o) ∧ G.get? a = none ∧
      h2.get? a = some ({ cls := .ref C, dict := none, data := .fields #[.ref t0, .none, .none, .none, .bool false, .none] } : Obj) ∧ (del H2 a) a = none := by
  obtain ⟨t0, hoe⟩ := exo_at hok ea
  have hn : H1 a = none := I1.hok.fresh ha
  obtain ⟨G, g1', g2'⟩ := restrict h2 fun b => decide (b ≠ a)
  have gk : ∀ b, b ≠ a → G.get? b = h2.get? b := fun b hb => g1' b (decide_eq_true hb)
  have ge : G.get? a = none := g2' a (by simp)
  have nha : ∀ {b : Addr} {o : Obj}, hp.get? b = some o → b ≠ a := fun {b o} z => Nat.ne_of_lt (Nat.lt_of_lt_of_le (Heap.lt_size z) ha)
  have up : ∀ {b : Addr}, b ≠ a → H1 b = none → upd H1 a (exo a C none) b = none := fun {b} hb n => by rw [upd_ne hb]; exact n
  have U : Un (frs X.stack) [] H1 (del H2 a) hp G := {
    keep := fun b o z n hf hx => by
      rw [gk b (nha z)]
      exact un.keep b o (k b o z) (up (nha z) n) hf hx
    slot := fun b o z n hf hx => by
      rw [gk b (nha z)]
      exact un.slot b o (k b o z) (up (nha z) n) hf hx
    free := fun b o z n hx => by
      rw [del_ne (nha z)]
      exact un.free b o (k b o z) (up (nha z) n) hx
    there := fun b o z hx => by
      rw [gk b (nha z)]
      exact un.there b o (k b o z) hx
    tups := fun b xs z => by
      rw [del_ne (ne_of_none z hn)]
      exact un.tups b xs (by rw [upd_ne (ne_of_none z hn)]; exact z)
    frzs := fun b o v z => by
      rw [del_ne (ne_of_none z hn)]
      exact un.frzs b o v (by rw [upd_ne (ne_of_none z hn)]; exact z)
    tbls := fun b ps z => by
      rw [del_ne (ne_of_none z hn)]
      exact un.tbls b ps (by rw [upd_ne (ne_of_none z hn)]; exact z) }
  have hok3 : HOk X.prog X.w (del H2 a) G := fun b o z => by
    have hba : b ≠ a := fun e => by
      rw [e, del_same] at z
      cases z
    rw [del_ne hba] at z
    have noa : ∀ {c : Addr}, H2 c = some (.own b) → c ≠ a := fun {c} hc => at_ne ea hc exo_own
    exact (hok b o z).stay (fun c v hc y => by
        have hca : c ≠ a := by
          rcases hc with hc | hc
          · rw [hc]
            exact hba
          · exact noa hc
        rw [gk c hca]
        exact y)
      (fun c hc => by rw [del_ne (noa hc)]; exact hc) (fun c xs hc => by rw [del_ne (at_ne ea hc exo_tup)]; exact hc)
  have J : Inv X pins σ (del H2 a) ⟨G, g2, d2, t2, os2⟩ := I1.call' (ch := []) ho U hok3 hb (fun b z => absurd z (by simp))
  refine ⟨t0, G, J, fun b o z => ?_, ge, hoe, del_same⟩
  by_cases hba : b = a
  · rw [hba, ge] at z
    cases z
  · exact (gk b hba).symm.trans z
theorem mk_endN {pins : List (Addr × Obj)} {σ : St} {H1 H2 : Hp} {Q : XK} {hp hp2 h2 : Heap} {g1 g2 : Array GenState} {d1 d2 : Drawn} {t1 t2 : Nat} {os1 os2 : OsState} {a C : Addr} (T : Raises X (.ref C)) (I1 : Inv X pins σ H1 ⟨hp, g1, d1, t1, os1⟩)
    (ha : hp.objs.size ≤ a) (k : ∀ b o, hp.get? b = some o → hp2.get? b = some o) (un : Un (frs X.stack) [] (upd H1 a (exo a C none)) H2 hp2 h2) (hok : HOk X.prog X.w H2 h2) (ho : os2 = os1) (hb : AllBare g2)
    (ea : H2 a = some (exo a C none)) (q : Q (.ref C) none (del H2 a)) : MkP X pins σ Q (.ref a) ⟨h2, g2, d2, t2, os2⟩ := by
  obtain ⟨t0, G, J, kG, ge, hoe, na⟩ := mk_end0N (d2 := d2) (t2 := t2) I1 ha k un hok ho hb ea
  exact ⟨a, _, _, ⟨G, g2, d2, t2, os2⟩, _, .ref C, none, rfl, J, kG, ge, hoe, ⟨rfl, rfl⟩, rfl, rfl, na, rfl, hb, T, q⟩
/-- C(e, ..), C's own __init__ keeping sp, with fields or without -/
def tMkA (C : Addr) (sp : Sp) (dvs : List V) (ta : TA) : St → Hp → XK → Prop := fun σ H Q => ta σ H fun vs H1 => vs.length ≤ 1000 ∧ ∀ a, H1 a = none → sp (.ref a :: (vs ++ dvs)) (upd H1 a (exo a C none))
  (fun v H2 => v = .non ∧ ((∃ (d : Addr) (fs : List (Str × V)), H2 a = some (exo a C (some d)) ∧ H2 d = some (exd d fs) ∧ H1 d = none ∧ Q (.ref C) (some d) (upd (del H2 a) d (.xd fs))) ∨ (H2 a = some (exo a C none) ∧ Q (.ref C) none (del H2 a)))) (fun _ _ _ => False)
variable {e : Expr} {es : List Expr} {ta : TA} {p pos : Pos}
theorem pmk_oexA {CX : CXT} {x : Str} {C fI : Addr} {k : Nat} {fd : FuncData} {ps : List Str} {sp : Sp} {ds : List Value} {dvs : List V} (T : OexC X.K C) (iC : PySem.W.findIn X.K (.ref C) "__init__" = some (some (.ref fI))) (tI : PySem.W.typeIn X.K (.ref fI) = some (.type "function"))
    (F1 : FnOk X.prog X.w X.K X.mg X.base CX k fI fd ps sp) (hr : Room (k + 1) X.A) (hb : Binds X.K fd ps ds) (hd : Vals dvs ds) (hx : Passes CX X (fun _ _ _ => False)) (hg : Gl X x) (hm : X.mg x = some (.ref C)) (ha : PA X (e :: es) ta)
    (hdb : (x == ("__debug__" : Str)) = false := by decide) (he : starEach (e :: es) X.env = (false, eval e X.env) :: starEach es X.env := by rfl) (hpl : (backTo pos (starEach es X.env)).any (·.1) = false := by rfl) :
    PMk X (.Call (.Name x p) (e :: es) [] pos) (tMkA C sp dvs ta) := by
  intro pins s σ H Q I h
  obtain ⟨nm, q, N, bs, bm, sn, sub, ab, col, dd, k0, k1, k2, k3, k5, hC, hbm⟩ := T.cls
  refine wpAny_Call_Name_kw (ld_glob I hg hm ?_ hdb)
  refine PySem.W.callWith_K (h₀ := X.base) I.ok.mod.kin T.kC (thn (ha.run pos pins s σ H _ I h) fun us s1 ⟨vs, H1, I1, r1, hz, q1⟩ => ⟨I1.kIn, ?_⟩) he hpl
  show wpAny _ _ (call (.ref C) us) _ _ _
  obtain ⟨hp, g, dr, tk, os⟩ := s1
  have hsz : hp.objs.size ≤ hp.objs.size + 1 := Nat.le_succ _
  have hn : H1 (hp.objs.size + 1) = none := I1.hok.fresh hsz
  have hq := q1 (hp.objs.size + 1) hn
  have kk : ∀ b o, hp.get? b = some o → ((hp.push (PySem.W.kdv_tup us)).push (PySem.HandSPX.excO C hp.objs.size)).get? b = some o := fun b o e => Heap.get?_push_of_some _ (Heap.get?_push_of_some _ e)
  have hget : ((hp.push (PySem.W.kdv_tup us)).push (PySem.HandSPX.excO C hp.objs.size)).get? (hp.objs.size + 1) = some (PySem.HandSPX.excO C hp.objs.size) := by heap_get
  have I2 : Inv X pins σ (upd H1 (hp.objs.size + 1) (exo (hp.objs.size + 1) C none)) ⟨(hp.push (PySem.W.kdv_tup us)).push (PySem.HandSPX.excO C hp.objs.size), g, dr, tk, os⟩ :=
    I1.laid (t' := tk) (a := hp.objs.size + 1) (o := exo (hp.objs.size + 1) C none) (h' := (hp.push (PySem.W.kdv_tup us)).push (PySem.HandSPX.excO C hp.objs.size)) kk hsz (exo_ok hget)
  have r2 : Vals (V.ref (hp.objs.size + 1) :: (vs ++ dvs)) (Value.ref (hp.objs.size + 1) :: (us ++ ds)) := .cons rfl (r1.append hd)
  have hl : (Value.ref (hp.objs.size + 1) :: us ++ ds).length = ps.length := by
    have e := r2.length
    rw [F1.len _ _ _ _ hq] at e
    exact e.symm
  have hus : us.length ≤ sizeLine := by
    rw [← Paired.length r1, sizeLine_eq]
    omega
  refine wpAny_call (PySem.HandSPX.call_own F.excBase_ValueError (fun Y => PySem.HandSPX.refsVE_contains Y bm hbm) (I1.kIn _ _ hC) (PySem.W.looks_findIn I1.kIn iC) (fun self => PySem.W.bind_fn I1.kIn self tI) hus
    (codeAny_mono (F1.run _ X.stack _ _ ⟨Value.ref (hp.objs.size + 1) :: us, []⟩ (Value.ref (hp.objs.size + 1) :: (us ++ ds)) _ _ (fun _ _ _ => False) (hr.make C us []) (I2.env0.make C us []) (hb _ (Value.ref (hp.objs.size + 1) :: us) I2.kIn hl) r2 hq) fun r s' hq' => ?_))
  cases r with
  | error er => exact hx pins σ _ _ er s' I2 hq'
  | ok fl =>
    cases fl with
    | ret u =>
      obtain ⟨v, H2, os2, bare2, un2, hok2, rv, ev, q⟩ := hq'
      subst ev
      obtain ⟨h2, g2, d2, t2, os'⟩ := s'
      rcases q with ⟨d, fs, ea, ed, hd1, q2⟩ | ⟨ea, q2⟩
      · exact ⟨rv, mk_end (raises_own T.exC T.tyC) I1 hsz kk un2 hok2 os2 bare2 ea ed hd1 q2⟩
      · exact ⟨rv, mk_endN (raises_own T.exC T.tyC) I1 hsz kk un2 hok2 os2 bare2 ea q2⟩
    | next => exact False.elim hq'
    | brk => exact False.elim hq'
    | cont => exact False.elim hq'
end
/-! the two kinds of __init__ -/
def spG (K : PySem.W.Frag) (D : Addr) : Sp := fun vs H Q _ => ∃ a C v, vs = [.ref a, v] ∧ H a = some (exo a C none) ∧ SupV K C D ∧ Q .non H
def spI (K : PySem.W.Frag) (D g Dg : Addr) (f : Str) : Sp := fun vs H Q _ => ∃ a C v, vs = [.ref a, v] ∧ H a = some (exo a C none) ∧ SupF K C D g ∧ SupV K C Dg ∧ findIn K (.ref C) f = some none ∧
  ∀ dx, H dx = none → dx ≠ a → Q .non (upd (upd H dx (exd dx [(f, v)])) a (exo a C (some dx)))
/-- C(v), no field -/
def tMk0 (C : Addr) (ta : TA) : St → Hp → XK → Prop := fun σ H Q => ta σ H fun vs H1 => (∃ v, vs = [v]) ∧ Q (.ref C) none H1
/-- C(v), kept as f -/
def tMk1 (C : Addr) (f : Str) (ta : TA) : St → Hp → XK → Prop := fun σ H Q => ta σ H fun vs H1 => ∃ v, vs = [v] ∧ ∀ d, H1 d = none → Q (.ref C) (some d) (upd H1 d (.xd [(f, v)]))
theorem TA.mono' {X : Cx} {es : List Expr} {t : TA} (h : PA X es t) : True := trivial
section
variable {X : Cx} {e : Expr} {ta : TA} {p pos : Pos} {x : Str} {C D g Dg fI : Addr} {k : Nat} {fd : FuncData} {ps : List Str}
theorem pmk_weaken {e : Expr} {t t' : St → Hp → XK → Prop} (h : PMk X e t) (w : ∀ σ H Q, t' σ H Q → t σ H Q) : PMk X e t' := fun pins s σ H Q I q => h pins s σ H Q I (w σ H Q q)
/-- a reading's end may be weakened -/
def MonoA (ta : TA) : Prop := ∀ σ H (Q Q' : List V → Hp → Prop), (∀ vs H', Q vs H' → Q' vs H') → ta σ H Q → ta σ H Q'
theorem pmk0 (T : OexC X.K C) (SV : SupV X.K C D) (iC : PySem.W.findIn X.K (.ref C) "__init__" = some (some (.ref fI))) (tI : PySem.W.typeIn X.K (.ref fI) = some (.type "function"))
    (F1 : FnOk X.prog X.w X.K X.mg X.base (L2.CX X.prog X.w) k fI fd ps (spG X.K D)) (hr : Room (k + 1) X.A) (hb : Binds X.K fd ps []) (hg : Gl X x) (hm : X.mg x = some (.ref C)) (ha : PA X [e] ta) (mo : MonoA ta)
    (hdb : (x == ("__debug__" : Str)) = false := by decide) (he : starEach [e] X.env = (false, eval e X.env) :: starEach [] X.env := by rfl) (hpl : (backTo pos (starEach [] X.env)).any (·.1) = false := by rfl) :
    PMk X (.Call (.Name x p) [e] [] pos) (tMk0 C ta) := by
  refine pmk_weaken (pmk_oexA T iC tI F1 hr hb .nil (fun pins σ H s e s' I z => ?_) hg hm ha hdb he hpl) fun σ H Q q => ?_
  · obtain ⟨a, B, H', cls, d, _, _, _, _, _, _, _, z⟩ := z
    exact z.elim
  · refine mo _ _ _ _ (fun vs H1 hh => ?_) q
    obtain ⟨⟨v, rfl⟩, q⟩ := hh
    refine ⟨by simp, fun a ha => ⟨a, C, v, rfl, upd_same, SV, rfl, .inr ⟨upd_same, ?_⟩⟩⟩
    have : del (upd H1 a (exo a C none)) a = H1 := by
      funext b
      by_cases hb : b = a
      · rw [hb, del_same, ha]
      · rw [del_ne hb, upd_ne hb]
    rw [this]; exact q
theorem pmk1 {f : Str} (T : OexC X.K C) (SF : SupF X.K C D g) (SV : SupV X.K C Dg) (hno : findIn X.K (.ref C) f = some none) (iC : PySem.W.findIn X.K (.ref C) "__init__" = some (some (.ref fI))) (tI : PySem.W.typeIn X.K (.ref fI) = some (.type "function"))
    (F1 : FnOk X.prog X.w X.K X.mg X.base (L2.CX X.prog X.w) k fI fd ps (spI X.K D g Dg f)) (hr : Room (k + 1) X.A) (hb : Binds X.K fd ps []) (hg : Gl X x) (hm : X.mg x = some (.ref C)) (ha : PA X [e] ta) (mo : MonoA ta)
    (hdb : (x == ("__debug__" : Str)) = false := by decide) (he : starEach [e] X.env = (false, eval e X.env) :: starEach [] X.env := by rfl) (hpl : (backTo pos (starEach [] X.env)).any (·.1) = false := by rfl) :
    PMk X (.Call (.Name x p) [e] [] pos) (tMk1 C f ta) := by
  refine pmk_weaken (pmk_oexA T iC tI F1 hr hb .nil (fun pins σ H s e s' I z => ?_) hg hm ha hdb he hpl) fun σ H Q q => ?_
  · obtain ⟨a, B, H', cls, d, _, _, _, _, _, _, _, z⟩ := z
    exact z.elim
  · refine mo _ _ _ _ (fun vs H1 hh => ?_) q
    obtain ⟨v, rfl, q⟩ := hh
    refine ⟨by simp, fun a ha => ⟨a, C, v, rfl, upd_same, SF, SV, hno, fun dx hdx hne => ⟨rfl, .inl ⟨dx, [(f, v)], upd_same, ?_, ?_, ?_⟩⟩⟩⟩
    · rw [upd_ne hne, upd_same]
    · rw [upd_ne hne] at hdx; exact hdx
    · have hd1 : H1 dx = none := by rw [upd_ne hne] at hdx; exact hdx
      have : upd (del (upd (upd (upd H1 a (exo a C none)) dx (exd dx [(f, v)])) a (exo a C (some dx))) a) dx (.xd [(f, v)]) = upd H1 dx (.xd [(f, v)]) := by
        funext b
        by_cases hb : b = dx
        · rw [hb, upd_same, upd_same]
        · rw [upd_ne hb, upd_ne hb]
          by_cases hb2 : b = a
          · rw [hb2, del_same, ha]
          · rw [del_ne hb2, upd_ne hb2, upd_ne hb, upd_ne hb2]
      rw [this]; exact q dx hd1
end
end L2

set_option Elab.async false
set_option linter.all false
set_option maxRecDepth 100000
set_option maxHeartbeats 4000000
/-! the defs of own exceptions; raise -/
namespace L2
open PySem PySem.Spec PyProof.Rows PySem.W PySem.Calls
/-- a def that closes over __class__, as it stands -/
structure FunK (K : PySem.W.Frag) (prog : Program) (mg : Str → Option Value) (x qual : Str) (st : Stmt) (f D : Addr) (fd : FuncData) : Prop where
  ex : ∃ oc od kV doc pm an ct osl cda cc, fd = ksFn x qual (defArgs st) (defBody st) (defScope st) .none kV doc pm an (.ref cda) ct cc ∧ K.lookup f = some ⟨oc, od, .func fd, osl⟩ ∧ PySem.W.codeIn K (.ref cda) qual = true ∧
    (∃ ccl cdd ccs vs file tf, K.lookup cda = some ⟨ccl, cdd, .fields vs, ccs⟩ ∧ vs[2]? = some (.str file tf) ∧ ((prog.main.file : Str) == file) = true) ∧ ∃ cl cld csl, K.lookup cc = some ⟨cl, cld, .cell (some (.ref D)), csl⟩
  cls : (clsIn K D).isSome = true
  sup : mg "super" = none
  top : (prog.main.scope.names.lookup ("super" : Str)).isSome = false
section
variable {P : Program} {w : World} {K : PySem.W.Frag} {mg : Str → Option Value} {base : Heap} {k : Nat} {f D : Addr} {fd : FuncData} {x qual : Str} {st : Stmt} {y : Str}
theorem ok_supV {pl : Sem Bool} {p0 p1 p2 p3 p4 p5 : Pos} {ar : Arg} (F : FunK K P mg x qual st f D fd) (S : SupScope ["self", y] ["self", y] (defScope st)) (hst : defBody st = [.Expr (.Call (.Attribute (.Call (.Name "super" p0) [] [] p1) "__init__" p2) [.Name y p5] [] p3) p4] := by rfl)
    (hp : ((defArgs st).posonlyargs ++ (defArgs st).args).head? = some ar := by rfl) (har : ar.arg = "self" := by rfl) (hy : (y == ("__debug__" : Str)) = false := by decide) (hy2 : (y == ("__classdict__" : Str)) = false := by decide)
    (hev : ∀ L cda cc : Addr, eval (.Call (.Attribute (.Call (.Name "super" p0) [] [] p1) "__init__" p2) [.Name y p5] [] p3) (ksEnv qual (defScope st) L f (.ref cda) cc) = (do
      let ov ← attributeBase (.Call (.Name "super" p0) [] [] p1) "__init__" (ksEnv qual (defScope st) L f (.ref cda) cc) (eval (.Call (.Name "super" p0) [] [] p1) (ksEnv qual (defScope st) L f (.ref cda) cc))
      standAt p2.atName
      let (f1, first) ← holding [ov] (getMethod ov "__init__" pl)
      callWith p3 f1 first (backTo p3 (starEach [.Name y p5] (ksEnv qual (defScope st) L f (.ref cda) cc))) []) := by intro _ _ _; rfl)
    (hi : ∀ L cda cc : Addr, interactive (ksEnv qual (defScope st) L f (.ref cda) cc) = false := by intro _ _ _; rfl) (hs : ∀ L cda cc : Addr, swapsWith (.Call (.Attribute (.Call (.Name "super" p0) [] [] p1) "__init__" p2) [.Name y p5] [] p3) none p4.line (ksEnv qual (defScope st) L f (.ref cda) cc) = pure false := by intro _ _ _; rfl) :
    FnOk P w K mg base (L2.CX P w) (k + 1) f fd ["self", y] (spG K D) := by
  obtain ⟨oc, od, kV, doc, pm, an, ct, osl, cda, cc, rfl, lk, hcd, hcode, cl, cld, csl, hcell⟩ := F.ex
  rw [hst] at lk ⊢
  refine fn_sup lk hcd S hcell rfl (fun vs H Q E h => ?_) (fun A outer s H vs Q E hr h => ?_)
  · obtain ⟨a, C, v, rfl, _⟩ := h; rfl
  · obtain ⟨a, C, v, rfl, hH, SV, q⟩ := h
    refine ⟨fun H' => Q .non H', fun s1 I => ?_, _, pss_nil, fun H' q' => q'⟩
    refine sup_stmtV (D := D) (cda := cda) (cc := cc) (ar := ar) (N := ["self", y]) (P := ["self", y]) rfl ⟨⟨_, _, _, lk⟩, hp, hcode, ⟨_, _, _, hcell⟩, F.cls, F.sup, F.top⟩ S SV I (by rw [har]; rfl) rfl (by rw [har]; exact S.par "self" (by simp)) hH (pa_cons (pv 1 rfl (.inl (S.par y (by simp))) hy hy2) pa_nil) ?_ (pl := pl) (hev := hev _ _ _) (hi := hi _ _ _) (hs := hs _ _ _)
    exact ⟨v, rfl, v, rfl, hH, q⟩
theorem ok_supI {pl : Sem Bool} {p0 p1 p2 p3 p4 p5 q1 q2 q3 q4 : Pos} {u : Nat} {ar : Arg} {s0 : Str} {g Dg : Addr} {fl : Str} {fdg : FuncData} {psg : List Str} (F : FunK K P mg x qual st f D fd) (S : SupScope ["self", y] ["self", y] (defScope st)) (Fg : FnOk P w K mg base (L2.CX P w) k g fdg psg (spG K Dg)) (hb : Binds K fdg psg [])
    (hst : defBody st = [.Expr (.Call (.Attribute (.Call (.Name "super" p0) [] [] p1) "__init__" p2) [.Constant (.str s0) u p5] [] p3) p4, .Assign [.Attribute (.Name "self" q1) fl q2] (.Name y q3) q4] := by rfl)
    (hp : ((defArgs st).posonlyargs ++ (defArgs st).args).head? = some ar := by rfl) (har : ar.arg = "self" := by rfl) (hy : (y == ("__debug__" : Str)) = false := by decide) (hy2 : (y == ("__classdict__" : Str)) = false := by decide)
    (hev : ∀ L cda cc : Addr, eval (.Call (.Attribute (.Call (.Name "super" p0) [] [] p1) "__init__" p2) [.Constant (.str s0) u p5] [] p3) (ksEnv qual (defScope st) L f (.ref cda) cc) = (do
      let ov ← attributeBase (.Call (.Name "super" p0) [] [] p1) "__init__" (ksEnv qual (defScope st) L f (.ref cda) cc) (eval (.Call (.Name "super" p0) [] [] p1) (ksEnv qual (defScope st) L f (.ref cda) cc))
      standAt p2.atName
      let (f1, first) ← holding [ov] (getMethod ov "__init__" pl)
      callWith p3 f1 first (backTo p3 (starEach [.Constant (.str s0) u p5] (ksEnv qual (defScope st) L f (.ref cda) cc))) []) := by intro _ _ _; rfl)
    (hi : ∀ L cda cc : Addr, interactive (ksEnv qual (defScope st) L f (.ref cda) cc) = false := by intro _ _ _; rfl) (hs : ∀ L cda cc : Addr, swapsWith (.Call (.Attribute (.Call (.Name "super" p0) [] [] p1) "__init__" p2) [.Constant (.str s0) u p5] [] p3) none p4.line (ksEnv qual (defScope st) L f (.ref cda) cc) = pure false := by intro _ _ _; rfl)
    (hsw : ∀ L cda cc : Addr, swapsWith (.Name y q3) (some (.Attribute (.Name "self" q1) fl q2)) q4.line (ksEnv qual (defScope st) L f (.ref cda) cc) = pure false := by intro _ _ _; rfl) :
    FnOk P w K mg base (L2.CX P w) (k + 1) f fd ["self", y] (spI K D g Dg fl) := by
  obtain ⟨oc, od, kV, doc, pm, an, ct, osl, cda, cc, rfl, lk, hcd, hcode, cl, cld, csl, hcell⟩ := F.ex
  rw [hst] at lk ⊢
  refine fn_sup lk hcd S hcell rfl (fun vs H Q E h => ?_) (fun A outer s H vs Q E hr h => ?_)
  · obtain ⟨a, C, v, rfl, _⟩ := h; rfl
  · obtain ⟨a, C, v, rfl, hH, SF, SV, hno, q⟩ := h
    refine ⟨fun H' => H' = H, fun s1 I => ?_, _, pss_cons (ps_ost (pv 0 rfl (.inl (S.par "self" (by simp)))) (pv 1 rfl (.inl (S.par y (by simp))) hy hy2) (hsw _ _ _)) pss_nil, fun H' q' => ?_⟩
    · refine sup_stmtF (D := D) (cda := cda) (cc := cc) (ar := ar) (N := ["self", y]) (P := ["self", y]) rfl ⟨⟨_, _, _, lk⟩, hp, hcode, ⟨_, _, _, hcell⟩, F.cls, F.sup, F.top⟩ S SF Fg hb hr I (by rw [har]; rfl) rfl (by rw [har]; exact S.par "self" (by simp)) hH (pa_cons pe_str pa_nil) ?_ (pl := pl) (hev := hev _ _ _) (hi := hi _ _ _) (hs := hs _ _ _)
      exact ⟨_, rfl, a, C, _, rfl, hH, SV, rfl⟩
    · subst q'
      exact ⟨v, rfl, .ref a, rfl, a, C, rfl, SV.oex, hno, .inl ⟨hH, fun dx h1 h2 => q dx h1 h2⟩⟩
end
end L2

set_option Elab.async false
set_option linter.all false
set_option maxRecDepth 100000
set_option maxHeartbeats 4000000
/-! several except clauses, some with a name -/
namespace L2
open PySem PySem.Spec PyProof.Rows
abbrev ClM := Value × Option Nat × (Addr → Value → Option Addr → TS)
def goneD (i : Nat) (D : Ends) : Ends := { nx := fun σ' H' => D.nx (σ'.set i none) H', rt := D.rt, bk := fun σ' H' => D.bk (σ'.set i none) H', ct := fun σ' H' => D.ct (σ'.set i none) H' }
def clRun (oi : Option Nat) (a : Addr) (t : TS) (D : Ends) (σ : St) (H : Hp) : Prop := match oi with
  | none => t D σ H
  | some i => t (goneD i D) (σ.set i (some (.ref a))) H
def wMix (K : PySem.W.Frag) (Wout : WX) (D : Ends) : List ClM → WX
  | [] => Wout
  | (c, oi, ts) :: r => fun cls d σ H => ∃ b, PySem.W.exmOne K cls c = some b ∧ (b = true → ∀ a, H a = none → clRun oi a (ts a cls d) D σ H) ∧ (b = false → wMix K Wout D r cls d σ H)
inductive HdsMix (X : Cx) : List ExceptHandler → List ClM → Prop
  | nil : HdsMix X [] []
  | cons {x : Str} {c : Value} {ts : Addr → Value → Option Addr → TS} {b₀ : Stmt} {suite : List Stmt} {np pos' : Pos} {hds : List ExceptHandler} {l : List ClM} (hc : Names X x c)
      (hsu : ∀ (a : Addr) (oe : Obj) (cls : Value) (d : Option Addr) (pn : List (Addr × Obj)), Zc cls d oe → (∃ vs, oe.data = .fields vs) → PSs (X.suite a ((a, oe) :: pn)) (b₀ :: suite) (ts a cls d)) (r : HdsMix X hds l) :
      HdsMix X (.ExceptHandler (some (.Name x np)) none (b₀ :: suite) pos' :: hds) ((c, none, ts) :: l)
  | as {x n : Str} {c : Value} {i : Nat} {ts : Addr → Value → Option Addr → TS} {b₀ : Stmt} {suite : List Stmt} {np pos' : Pos} {hds : List ExceptHandler} {l : List ClM} (hN : X.N.Nodup) (hi : X.N[i]? = some n) (hln : X.env.kindOf n = some .local) (hc : Names X x c)
      (hsu : ∀ (a : Addr) (oe : Obj) (cls : Value) (d : Option Addr) (pn : List (Addr × Obj)), Zc cls d oe → (∃ vs, oe.data = .fields vs) → PSs (X.suite a ((a, oe) :: pn)) (b₀ :: suite) (ts a cls d)) (r : HdsMix X hds l) :
      HdsMix X (.ExceptHandler (some (.Name x np)) (some n) (b₀ :: suite) pos' :: hds) ((c, some i, ts) :: l)
section
variable {X : Cx} {body : List Stmt} {h₀ : ExceptHandler} {hds : List ExceptHandler} {l : List ClM} {pos : Pos} {tb : WX → TS} {Wout : WX}
theorem ps_try_mix (hs : X.stack = X.env :: X.outer) (hf : X.env.frame = some X.env.locals) (tk : Takes X Wout)
    (hb : ∀ (W : WX) (pn : List (Addr × Obj)) (xe : Value → Shared → Prop), Takes (X.tr pn xe) W → PassesOwn (model X.prog X.w) X.A X.env xe → PSs (X.tr pn xe) body (tb W))
    (hh : HdsMix X (h₀ :: hds) l) : PS X (.Try body (h₀ :: hds) [] [] pos) (fun D σ H => tb (wMix X.K Wout D l) D σ H) := by
  refine ⟨fun pins s σ H D I h => ?_⟩
  have ok := I.ok
  have hfr : X.A.frames = some (X.env :: X.outer) := by rw [ok.frames, hs]
  refine wpAny_Try_except ?_
  refine wpAny_mono ((hb (wMix X.K Wout D l) (X.pn ++ pins) (fun e s₁ => wpAny (model X.prog X.w) X.A (noteFrame e X.env) (fun _ s₂ => wpAny (model X.prog X.w) X.A (setFlight e none) (fun _ s₃ =>
    wpAny (model X.prog X.w) X.A (handleBy e X.env (h₀ :: hds)) (SP X pins D) X.xe s₃) X.xe s₂) X.xe s₁) (fun u s' xx => ?_) PassesOwn.looking).run [] s σ H D (I.toTry _) h) (fun f s1 hsp => ?_) (fun e s1 he => he)
  · -- the catch
    obtain ⟨a, B, sI, pins', σ', H', cls, d, rfl, J', nb, up, sky, na, os, ag, w⟩ := xx
    have J : Inv X pins σ' H' sI := J'.ofTry ok
    have sky' : Sky B (X.env :: X.outer) a (Zc cls d) X.env.locals s'.heap := by rw [← hs]; exact sky
    show wpAny (model X.prog X.w) X.A (noteFrame (.ref a) X.env) _ _ _
    refine Sky.land Zc.steady hfr hf sky' fun h3 fl3 up3 => ?_
    have J3 : Inv X pins σ' H' { s' with heap := h3 } := J.landed nb fl3.1 (up.trans up3) os ag
    obtain ⟨oe3, vs3, he3, hz3, hd3⟩ := fl3.there
    have notFr : ∀ {h : Heap} {o : Obj} {vs : Array Value}, h.FunFrames B (X.env :: X.outer) → h.get? a = some o → o.data = .fields vs → a ∉ frs (X.env :: X.outer) := fun {h o vs} ff e dd hm => by
      obtain ⟨_, o', e', hnf⟩ := ff.mem hm
      rw [e] at e'; cases e'
      exact hnf _ dd
    have nfr := notFr fl3.2.2.1 he3 hd3
    have nL : a ≠ X.env.locals := fun z => nfr (List.mem_filterMap.mpr ⟨X.env, List.mem_cons_self, by rw [hf, z]⟩)
    have nF : a ∉ X.fs := fun hm => by
      obtain ⟨e, he, q⟩ := List.mem_filterMap.mp hm
      exact nfr (List.mem_filterMap.mpr ⟨e, List.mem_cons_of_mem _ he, q⟩)
    have S3 := J3.suite he3 hd3 na nL nF
    have go : ∀ {hds' : List ExceptHandler} {l' : List ClM}, HdsMix X hds' l' → wMix X.K Wout D l' cls d σ' H' →
        wpAny (model X.prog X.w) X.A (handleBy (.ref a) X.env hds') (SP X pins D) X.xe { s' with heap := h3 } := by
      intro hds' l' hk
      induction hk with
      | nil =>
        intro w
        refine wpAny_handleBy_nil ?_
        obtain ⟨k1, k2, k3, oe, vs, T, oT, ts', he, hz, hd, h1, hr⟩ := id fl3
        unfold PySem.passOn
        refine wpAny_bind (wpAny_field he hd h1 ?_)
        rw [if_neg (show ¬ ((Value.ref T == Value.none) = true) from by simp)]
        have fin : wpAny (model X.prog X.w) X.A (setFlight (.ref a) X.env.frame) (fun _ s4 => wpAny (model X.prog X.w) X.A (throw (.ref a) : Sem Flow) (SP X pins D) X.xe s4) X.xe { s' with heap := h3 } := by
          rw [hf]
          refine HandSPX.setFlight_upZ fl3 fun h4 hh4 up4 => wpAny_throw (tk _ _ ?_)
          exact ⟨a, B, sI, pins, σ', H', cls, d, rfl, J, nb, (up.trans up3).trans up4, .inr (.inr (by rw [hs]; exact hh4)), na, os, ag, w⟩
        first
          | exact wpAny_bind (wpAny_pure (wpAny_bind fin))
          | exact wpAny_bind fin
      | @cons x c ts b₀ suite np pos' hds2 l2 hc hsu r ih =>
        intro w
        obtain ⟨b, hb1, hyes, hno⟩ := w
        refine wpAny_handleBy_cons (codeAny_handlers_test ?_) (by intro q; cases q)
        have LT : PySem.W.Looks (model X.prog X.w) h3 (typeOf (.ref a)) cls := fun A Q E s k q => wpAny_typeOf_ref (k _ _ he3) (by rw [hz3.1]; exact q)
        have LM := PySem.W.exm_one (M := model X.prog X.w) (J3.kIn) LT hb1
        have test : ∀ {Q : Value → Shared → Prop} {E : Value → Shared → Prop}, Q c { s' with heap := h3 } → wpAny (model X.prog X.w) (X.A.mark (some (.ref a))) (eval (.Name x np) X.env) Q E { s' with heap := h3 } := fun {Q E} q => by
          obtain ⟨hg, hdbg, hm | ⟨hm, hv, hnn⟩⟩ := hc
          · exact ld_glob (X := X.suite a ((a, oe3) :: (X.pn ++ pins))) S3 hg hm q hdbg
          · exact ld_blt (X := X.suite a ((a, oe3) :: (X.pn ++ pins))) S3 hg hm hv q hnn hdbg
        refine test (LM.here ?_)
        cases b with
        | true =>
          refine codeAny_handlers_suite ?_
          refine HandSPX.lands_againZ fl3 fun h4 fl4 up4 => ?_
          have J4 : Inv X pins σ' H' { s' with heap := h4 } := J.landed nb fl4.1 ((up.trans up3).trans up4) os ag
          obtain ⟨oe4, vs4, he4, hz4, hd4⟩ := fl4.there
          have S4 := J4.suite he4 hd4 na nL nF
          refine wpAny_mono ((hsu a oe4 cls d (X.pn ++ pins) hz4 ⟨_, hd4⟩).run [] _ _ H' _ S4 (hyes rfl a na)) (fun f s6 hsp => ?_) (fun _ _ z => False.elim z)
          cases f with
          | next =>
            obtain ⟨σ6, H6, S6, q6⟩ := hsp
            exact ⟨_, _, S6.unsuite ok, q6⟩
          | brk =>
            obtain ⟨σ6, H6, S6, q6⟩ := hsp
            exact ⟨_, _, S6.unsuite ok, q6⟩
          | cont =>
            obtain ⟨σ6, H6, S6, q6⟩ := hsp
            exact ⟨_, _, S6.unsuite ok, q6⟩
          | ret u =>
            obtain ⟨v6, σ6, H6, S6, r6, q6⟩ := hsp
            exact ⟨_, _, _, S6.unsuite ok, r6, q6⟩
        | false =>
          show wpAny _ X.A (handleBy (.ref a) X.env hds2) _ _ _
          exact ih (hno rfl)
      | @as x n c i ts b₀ suite np pos' hds2 l2 hN hi hln hc hsu r ih =>
        intro w
        obtain ⟨b, hb1, hyes, hno⟩ := w
        have hloc : Loc X.env.scope n := .inl hln
        refine wpAny_handleBy_cons (codeAny_handlers_test ?_) (by intro q; cases q)
        have LT : PySem.W.Looks (model X.prog X.w) h3 (typeOf (.ref a)) cls := fun A Q E s k q => wpAny_typeOf_ref (k _ _ he3) (by rw [hz3.1]; exact q)
        have LM := PySem.W.exm_one (M := model X.prog X.w) (J3.kIn) LT hb1
        have test : ∀ {Q : Value → Shared → Prop} {E : Value → Shared → Prop}, Q c { s' with heap := h3 } → wpAny (model X.prog X.w) (X.A.mark (some (.ref a))) (eval (.Name x np) X.env) Q E { s' with heap := h3 } := fun {Q E} q => by
          obtain ⟨hg, hdbg, hm | ⟨hm, hv, hnn⟩⟩ := hc
          · exact ld_glob (X := X.suite a ((a, oe3) :: (X.pn ++ pins))) S3 hg hm q hdbg
          · exact ld_blt (X := X.suite a ((a, oe3) :: (X.pn ++ pins))) S3 hg hm hv q hnn hdbg
        refine test (LM.here ?_)
        cases b with
        | true =>
          refine codeAny_handlers_suite_as ?_
          refine HandSPX.lands_againZ fl3 fun h4 fl4 up4 => ?_
          have J4 : Inv X pins σ' H' { s' with heap := h4 } := J.landed nb fl4.1 ((up.trans up3).trans up4) os ag
          obtain ⟨oe4, vs4, he4, hz4, hd4⟩ := fl4.there
          have S4 := J4.suite he4 hd4 na nL nF
          refine store_ok (X := X.suite a ((a, oe4) :: (X.pn ++ pins))) (v := .ref a) S4 hN hi hloc rfl (fun s5 S5 => ?_) (.inr hln)
          refine wpAny_mono ((hsu a oe4 cls d (X.pn ++ pins) hz4 ⟨_, hd4⟩).run [] s5 _ H' _ S5 (hyes rfl a na)) (fun f s6 hsp => ?_) (fun _ _ z => False.elim z)
          have end_ : ∀ {σ6 : St} {H6 : Hp} {Q : Shared → Prop}, Inv (X.suite a ((a, oe4) :: (X.pn ++ pins))) [] σ6 H6 s6 → (∀ s7, Inv X pins (σ6.set i none) H6 s7 → Q s7) →
              wpAny (model X.prog X.w) X.A (do bindName X.env n .none; unbindBehindTheSuite X.env n pos') (fun _ s7 => Q s7) X.xe s6 := fun {σ6 H6 Q} S6 hq => gone_ok (S6.unsuite ok) hN hi hln hq
          cases f with
          | next =>
            obtain ⟨σ6, H6, S6, q6⟩ := hsp
            exact end_ S6 fun s7 J7 => ⟨_, _, J7, q6⟩
          | brk =>
            obtain ⟨σ6, H6, S6, q6⟩ := hsp
            exact end_ S6 fun s7 J7 => ⟨_, _, J7, q6⟩
          | cont =>
            obtain ⟨σ6, H6, S6, q6⟩ := hsp
            exact end_ S6 fun s7 J7 => ⟨_, _, J7, q6⟩
          | ret u =>
            obtain ⟨v6, σ6, H6, S6, r6, q6⟩ := hsp
            exact end_ S6 fun s7 J7 => ⟨_, _, _, J7, r6, q6⟩
        | false =>
          show wpAny _ X.A (handleBy (.ref a) X.env hds2) _ _ _
          exact ih (hno rfl)
    exact go hh w
  · cases f with
    | next =>
      obtain ⟨σ', H', J', q⟩ := hsp
      exact wpAny_execs_nil ⟨σ', H', J'.ofTry ok, q⟩
    | brk =>
      obtain ⟨σ', H', J', q⟩ := hsp
      exact ⟨σ', H', J'.ofTry ok, q⟩
    | cont =>
      obtain ⟨σ', H', J', q⟩ := hsp
      exact ⟨σ', H', J'.ofTry ok, q⟩
    | ret u =>
      obtain ⟨v, σ', H', J', r, q⟩ := hsp
      exact ⟨v, σ', H', J'.ofTry ok, r, q⟩
end
end L2

set_option Elab.async false
set_option linter.all false
set_option maxRecDepth 100000
set_option maxHeartbeats 4000000
/-! raise and try over the mirrors -/
namespace Mir
open PySem PySem.Spec PyProof.Rows L2 PySem.W
def sRaise0 (C : Nat) (r : EM (List Val)) : SM := EM.bind r fun vs => match vs with
  | [_] => fun ρ h => .exc C [] ρ h
  | _ => fun _ _ => .fail
def sRaise1 (C n : Nat) (r : EM (List Val)) : SM := EM.bind r fun vs => match vs with
  | [v] => fun ρ h => .exc C [(n, v)] ρ h
  | _ => fun _ _ => .fail
section
variable {K : PySem.W.Frag} {c : Ctx} {B : Bas} {G G' : Hp} {ι ι' : List Addr} {h h' : MHp} {H H' : Hp} {ρ ρ' : MEnv} {σ σ' : L2.St} {E : WX} {tr : TA} {mr : EM (List Val)}
theorem ss_raise0 {C : Nat} {D : Addr} (SV : SupV K (c.CT C) D) (hr : Sim K c (RVs K c) E tr mr) : SimS K c E (fun _ σ H => tMkA (c.CT C) (spG K D) [] tr σ H fun cls d H' => E cls d σ H') (sRaise0 C mr) := by
  intro B G ι h H ρ σ D' hs hp
  refine hr.bindS hs hp fun G1 ι1 h1 H1 ρ1 vs xs a1 b1 s1 r1 p1 => ?_
  have hl := r1.length
  split at p1
  · rename_i v
    obtain ⟨x, ys, rfl, rx, r2⟩ := r1.consE
    obtain rfl := r2.nilE
    refine ⟨by simp, fun a ha => ⟨a, c.CT C, x, rfl, upd_same, SV, rfl, .inr ⟨upd_same, ?_⟩⟩⟩
    have : del (upd H1 a (exo a (c.CT C) none)) a = H1 := by
      funext b
      by_cases hb : b = a
      · rw [hb, del_same, ha]
      · rw [del_ne hb, upd_ne hb]
    rw [this]
    exact p1 G1 ι1 H1 σ _ _ (Hle.refl _) (Ile.refl _) s1 ⟨rfl, rfl⟩
  · exact p1.elim
theorem ss_raise1 {C n : Nat} {D g Dg : Addr} {f : Str} (hf : c.nm n = f) (SF : SupF K (c.CT C) D g) (SV : SupV K (c.CT C) Dg) (hno : findIn K (.ref (c.CT C)) f = some none) (hr : Sim K c (RVs K c) E tr mr) :
    SimS K c E (fun _ σ H => tMkA (c.CT C) (spI K D g Dg f) [] tr σ H fun cls d H' => E cls d σ H') (sRaise1 C n mr) := by
  subst hf
  intro B G ι h H ρ σ D' hs hp
  refine hr.bindS hs hp fun G1 ι1 h1 H1 ρ1 vs xs a1 b1 s1 r1 p1 => ?_
  split at p1
  · rename_i v
    obtain ⟨x, ys, rfl, rx, r2⟩ := r1.consE
    obtain rfl := r2.nilE
    refine ⟨by simp, fun a ha => ⟨a, c.CT C, x, rfl, upd_same, SF, SV, hno, fun dx hdx hne => ⟨rfl, .inl ⟨dx, [(c.nm n, x)], upd_same, ?_, ?_, ?_⟩⟩⟩⟩
    · rw [upd_ne hne, upd_same]
    · rw [upd_ne hne] at hdx; exact hdx
    · have hd1 : H1 dx = none := by rw [upd_ne hne] at hdx; exact hdx
      have : upd (del (upd (upd (upd H1 a (exo a (c.CT C) none)) dx (exd dx [(c.nm n, x)])) a (exo a (c.CT C) (some dx))) a) dx (.xd [(c.nm n, x)]) = upd H1 dx (.xd [(c.nm n, x)]) := by
        funext b
        by_cases hb : b = dx
        · rw [hb, upd_same, upd_same]
        · rw [upd_ne hb, upd_ne hb]
          by_cases hb2 : b = a
          · rw [hb2, del_same, ha]
          · rw [del_ne hb2, upd_ne hb2, upd_ne hb, upd_ne hb2]
      rw [this]
      have hle := Hle.new (o := .xd [(c.nm n, x)]) (s1.st.le.free hd1)
      exact p1 _ ι1 _ σ _ _ hle (Ile.refl _) (s1.new hd1) ⟨rfl, [(c.nm n, x)], upd_same, .cons (rx.mono hle (Ile.refl _)) .nil⟩
  · exact p1.elim
/-! try, clauses without a name -/
abbrev HdM := Nat × (Nat → Fld → SM)
def mHandle (sub : Nat → Nat → Option Bool) : List HdM → Nat → Fld → SM
  | [], C, fs => fun ρ h => .exc C fs ρ h
  | (D, s) :: r, C, fs => match sub C D with
    | some true => s C fs
    | some false => mHandle sub r C fs
    | none => fun _ _ => .fail
def sTry (sub : Nat → Nat → Option Bool) (body : SM) (hs : List HdM) : SM := fun ρ h => match body ρ h with
  | .exc C fs ρ' h' => mHandle sub hs C fs ρ' h'
  | r => r
inductive HRel (K : PySem.W.Frag) (c : Ctx) : List ClM → List HdM → Prop
  | nil : HRel K c [] []
  | cons {D : Nat} {ts : Addr → Value → Option Addr → TS} {s : Nat → Fld → SM} {l : List ClM} {hs : List HdM} (h : ∀ a cls d C fs, SimS K c (fun _ _ _ _ => False) (ts a cls d) (s C fs)) (r : HRel K c l hs) : HRel K c ((.ref (c.CT D), none, ts) :: l) ((D, s) :: hs)
def SubOk (K : PySem.W.Frag) (c : Ctx) (sub : Nat → Nat → Option Bool) : Prop := ∀ C D b, sub C D = some b → exmOne K (.ref (c.CT C)) (.ref (c.CT D)) = some b
theorem PostS.toE {r : RE Fl} {D : Ends} {hs : List HdM} (p : PostS K c E B G ι r D) (hne : ∀ C fs ρ h, r ≠ .exc C fs ρ h) : PostS K c (fun _ _ _ _ => False) B G ι r D := by
  cases r with
  | ok fl ρ' h' => cases fl <;> exact p
  | exc C fs ρ' h' => exact absurd rfl (hne _ _ _ _)
  | fail => exact p
def noexcS (m : SM) : SM := fun ρ h => match m ρ h with
  | .exc _ _ _ _ => .fail
  | r => r
theorem handle_ok {sub : Nat → Nat → Option Bool} (so : SubOk K c sub) {D : Ends} {C : Nat} {fs : Fld} {cls : Value} {d : Option Addr} (hc : cls = .ref (c.CT C)) (hs : St K c B G ι h H ρ σ) (xr : XR K c G ι H C fs cls d) : ∀ {l : List ClM} {hl : List HdM}, HRel K c l hl →
    PostS K c E B G ι (mHandle sub (hl.map fun p => (p.1, fun C fs => noexcS (p.2 C fs))) C fs ρ h) D → wMix K E D l cls d σ H
  | _, _, .nil, p => p G ι H σ cls d (Hle.refl _) (Ile.refl _) hs xr
  | _, _, .cons (D := D1) (ts := ts) (s := s) (l := l) (hs := hl) hsim r, p => by
    simp only [List.map_cons, mHandle] at p
    cases e : sub C D1 with
    | none => rw [e] at p; exact p.elim
    | some b =>
      rw [e] at p
      refine ⟨b, by rw [hc]; exact so _ _ _ e, fun hb a ha => ?_, fun hb => ?_⟩
      · subst hb
        dsimp only at p
        refine hsim a cls d C fs B G ι h H ρ σ D hs ?_
        unfold noexcS at p
        cases e2 : s C fs ρ h with
        | ok fl ρ' h' => rw [e2] at p; cases fl <;> exact p
        | exc _ _ _ _ => rw [e2] at p; exact p.elim
        | fail => rw [e2] at p; exact p.elim
      · subst hb
        exact handle_ok so hc hs xr r p
theorem ss_try {sub : Nat → Nat → Option Bool} {tb : WX → TS} {body : SM} {l : List ClM} {hl : List HdM} (so : SubOk K c sub) (hb : ∀ W : WX, SimS K c W (tb W) body) (hh : HRel K c l hl) :
    SimS K c E (fun D σ H => tb (wMix K E D l) D σ H) (sTry sub body (hl.map fun p => (p.1, fun C fs => noexcS (p.2 C fs)))) := by
  intro B G ι h H ρ σ D hs hp
  refine hb (wMix K E D l) B G ι h H ρ σ D hs ?_
  unfold sTry at hp
  cases e : body ρ h with
  | ok fl ρ' h' =>
    rw [e] at hp
    cases fl <;> exact hp
  | exc C fs ρ' h' =>
    rw [e] at hp
    intro G' ι' H' σ' cls d a b s x
    refine handle_ok so x.1 s x hh ?_
    exact hp.mono a b
  | fail => rw [e] at hp; exact hp
end
end Mir

set_option Elab.async false
set_option linter.all false
set_option maxRecDepth 100000
set_option maxHeartbeats 4000000
/-! except C as e -/
namespace Mir
open PySem PySem.Spec PyProof.Rows L2 PySem.W
/-- inside the suite of a clause -/
def Ctx.wx (c : Ctx) (e : Option (Addr × Value × Option Addr)) : Ctx := { c with ex := e }
section
variable {K : PySem.W.Frag} {c : Ctx} {G : Hp} {ι : List Addr} {e : Option (Addr × Value × Option Addr)}
mutual
theorem VR.wx : ∀ {v x}, VR K c G ι v x → VR K (c.wx e) G ι v x
  | _, _, .non => .non
  | _, _, .bl b => .bl b
  | _, _, .int i => .int i
  | _, _, .str s => .str s
  | _, _, .tup h r => .tup h (VRs.wx r)
  | _, _, .lst h r => .lst h (VRs.wx r)
  | _, _, .fz h r => .fz h (VRs.wx r)
  | _, _, .dct h r => .dct h (KVRs.wx r)
  | _, _, .obj h r => .obj h (FRs.wx r)
  | _, _, .ref h => .ref h
theorem VRs.wx : ∀ {vs xs}, VRs K c G ι vs xs → VRs K (c.wx e) G ι vs xs
  | _, _, .nil => .nil
  | _, _, .cons h r => .cons (VR.wx h) (VRs.wx r)
theorem FRs.wx : ∀ {vs xs}, FRs K c G ι vs xs → FRs K (c.wx e) G ι vs xs
  | _, _, .nil => .nil
  | _, _, .cons h r => .cons (VR.wx h) (FRs.wx r)
theorem KVRs.wx : ∀ {vs xs}, KVRs K c G ι vs xs → KVRs K (c.wx e) G ι vs xs
  | _, _, .nil => .nil
  | _, _, .cons h q r => .cons h (VR.wx q) (KVRs.wx r)
end
theorem VR.unwx {v x} (r : VR K (c.wx e) G ι v x) : VR K c G ι v x := by
  have : (c.wx e).wx c.ex = c := rfl
  have q := r.wx (e := c.ex)
  rw [this] at q; exact q
theorem CR.wx {H : Hp} {p : Addr} {cl : Cell} (r : CR K c G ι H p cl) : CR K (c.wx e) G ι H p cl := by
  cases cl with
  | lst vs => obtain ⟨xs, a, b⟩ := r; exact ⟨xs, a, b.wx⟩
  | ins C fs => obtain ⟨dx, xs, a, b⟩ := r; exact ⟨dx, xs, a, b.wx⟩
  | dct vs => obtain ⟨xs, a, b⟩ := r; exact ⟨xs, a, b.wx⟩
theorem XR.wx {H : Hp} {C : Nat} {fs : Fld} {cls : Value} {d : Option Addr} (r : XR K c G ι H C fs cls d) : XR K (c.wx e) G ι H C fs cls d := by
  obtain ⟨a, r⟩ := r
  refine ⟨a, ?_⟩
  cases d with
  | none => exact r
  | some dd => obtain ⟨xs, a, b⟩ := r; exact ⟨xs, a, b.wx⟩
def isXv : SV → Bool
  | .xv _ _ => true
  | _ => false
theorem St.wx {B : Bas} {h : MHp} {H : Hp} {ρ : MEnv} {σ : L2.St} (S : St K c B G ι h H ρ σ) (hx : ρ.any isXv = false) : St K (c.wx e) B G ι h H ρ σ := by
  refine ⟨⟨S.st.le, S.st.len, S.st.nd, S.st.out, fun i p cl h1 h2 => (S.st.cell i p cl h1 h2).wx⟩, fun i sv hi => ?_, S.dis, S.b1, S.b2, S.b3, S.b4, S.b5⟩
  obtain ⟨x, e1, r⟩ := S.env i sv hi
  refine ⟨x, e1, ?_⟩
  cases sv with
  | un => trivial
  | val v => obtain ⟨y, a, b⟩ := r; exact ⟨y, a, b.wx⟩
  | own cl => obtain ⟨p, a, b, c1, d, q⟩ := r; exact ⟨p, a, b, c1, d, q.wx⟩
  | xv C fs =>
    have : ρ.any isXv = true := List.any_eq_true.2 ⟨_, List.mem_of_getElem? hi, rfl⟩
    rw [hx] at this; cases this
theorem St.unwx {B : Bas} {h : MHp} {H : Hp} {ρ : MEnv} {σ : L2.St} (S : St K (c.wx e) B G ι h H ρ σ) (hx : ρ.any isXv = false) : St K c B G ι h H ρ σ := by
  have : (c.wx e).wx c.ex = c := rfl
  have q := S.wx (e := c.ex) hx
  rw [this] at q; exact q
theorem St.setXv {B : Bas} {h : MHp} {H : Hp} {ρ : MEnv} {σ : L2.St} {i : Nat} {a : Addr} {cls : Value} {d : Option Addr} {C : Nat} {fs : Fld} (S : St K c B G ι h H ρ σ) (he : c.ex = some (a, cls, d)) (x : XR K c G ι H C fs cls d) : St K c B G ι h H (ρ.set i (.xv C fs)) (σ.set i (some (.ref a))) := by
  refine ⟨S.st, fun j sv hj => ?_, fun j k c1 c2 p h1 h2 h3 h4 => ?_, S.b1, S.b2, S.b3, S.b4, S.b5⟩
  · by_cases z : i = j
    · subst z
      by_cases hl : i < ρ.length
      · rw [List.getElem?_set_self hl] at hj
        cases hj
        obtain ⟨x0, e0, _⟩ := S.env i _ (List.getElem?_eq_getElem hl)
        exact ⟨_, List.getElem?_set_self (List.getElem?_eq_some_iff.mp e0).1, a, cls, d, he, rfl, x⟩
      · rw [List.getElem?_eq_none (by simpa using hl)] at hj; cases hj
    · rw [List.getElem?_set_ne z] at hj ⊢
      exact S.env j sv hj
  · have nj : i ≠ j := fun z => by
      subst z
      by_cases hl : i < ρ.length
      · rw [List.getElem?_set_self hl] at h1; cases h1
      · rw [List.getElem?_eq_none (by simpa using hl)] at h1; cases h1
    have nk : i ≠ k := fun z => by
      subst z
      by_cases hl : i < ρ.length
      · rw [List.getElem?_set_self hl] at h2; cases h2
      · rw [List.getElem?_eq_none (by simpa using hl)] at h2; cases h2
    rw [List.getElem?_set_ne nj] at h1 h3
    rw [List.getElem?_set_ne nk] at h2 h4
    exact S.dis j k c1 c2 p h1 h2 h3 h4
/-- a slot forgotten -/
theorem St.unset {B : Bas} {h : MHp} {H : Hp} {ρ : MEnv} {σ : L2.St} {i : Nat} {y : Option V} (S : St K c B G ι h H ρ σ) : St K c B G ι h H (ρ.set i .un) (σ.set i y) := by
  refine ⟨S.st, fun j sv hj => ?_, fun j k c1 c2 p h1 h2 h3 h4 => ?_, S.b1, S.b2, S.b3, S.b4, S.b5⟩
  · by_cases z : i = j
    · subst z
      by_cases hl : i < ρ.length
      · rw [List.getElem?_set_self hl] at hj
        cases hj
        obtain ⟨x0, e0, _⟩ := S.env i _ (List.getElem?_eq_getElem hl)
        exact ⟨_, List.getElem?_set_self (List.getElem?_eq_some_iff.mp e0).1, trivial⟩
      · rw [List.getElem?_eq_none (by simpa using hl)] at hj; cases hj
    · rw [List.getElem?_set_ne z] at hj ⊢
      exact S.env j sv hj
  · have nj : i ≠ j := fun z => by
      subst z
      by_cases hl : i < ρ.length
      · rw [List.getElem?_set_self hl] at h1; cases h1
      · rw [List.getElem?_eq_none (by simpa using hl)] at h1; cases h1
    have nk : i ≠ k := fun z => by
      subst z
      by_cases hl : i < ρ.length
      · rw [List.getElem?_set_self hl] at h2; cases h2
      · rw [List.getElem?_eq_none (by simpa using hl)] at h2; cases h2
    rw [List.getElem?_set_ne nj] at h1 h3
    rw [List.getElem?_set_ne nk] at h2 h4
    exact S.dis j k c1 c2 p h1 h2 h3 h4
theorem St.unsetM {B : Bas} {h : MHp} {H : Hp} {ρ : MEnv} {σ : L2.St} {i : Nat} (S : St K c B G ι h H ρ σ) : St K c B G ι h H (ρ.set i .un) σ := by
  refine ⟨S.st, fun j sv hj => ?_, fun j k c1 c2 p h1 h2 h3 h4 => ?_, S.b1, S.b2, S.b3, S.b4, S.b5⟩
  · by_cases z : i = j
    · subst z
      by_cases hl : i < ρ.length
      · rw [List.getElem?_set_self hl] at hj
        cases hj
        obtain ⟨x0, e0, _⟩ := S.env i _ (List.getElem?_eq_getElem hl)
        exact ⟨_, e0, trivial⟩
      · rw [List.getElem?_eq_none (by simpa using hl)] at hj; cases hj
    · rw [List.getElem?_set_ne z] at hj
      exact S.env j sv hj
  · have nj : i ≠ j := fun z => by
      subst z
      by_cases hl : i < ρ.length
      · rw [List.getElem?_set_self hl] at h1; cases h1
      · rw [List.getElem?_eq_none (by simpa using hl)] at h1; cases h1
    have nk : i ≠ k := fun z => by
      subst z
      by_cases hl : i < ρ.length
      · rw [List.getElem?_set_self hl] at h2; cases h2
      · rw [List.getElem?_eq_none (by simpa using hl)] at h2; cases h2
    rw [List.getElem?_set_ne nj] at h1
    rw [List.getElem?_set_ne nk] at h2
    exact S.dis j k c1 c2 p h1 h2 h3 h4
end
/-! the clause with a name -/
/-- the suite, run with the exception in slot i -/
def asRun (i : Nat) (s : SM) : Nat → Fld → SM := fun C fs ρ h => if (ρ.set i .un).any isXv = true then .fail else
  match s (ρ.set i (.xv C fs)) h with
  | .ok fl ρ' h' => if (ρ'.set i .un).any isXv = true then .fail else .ok fl (ρ'.set i .un) h'
  | _ => .fail
section
variable {K : PySem.W.Frag} {c : Ctx} {B : Bas} {G G' : Hp} {ι ι' : List Addr} {h h' : MHp} {H H' : Hp} {ρ ρ' : MEnv} {σ σ' : L2.St} {E : WX}
theorem as_ok {i : Nat} {s : SM} {t : TS} {a : Addr} {cls : Value} {d : Option Addr} {C : Nat} {fs : Fld} {D : Ends} (hsim : SimS K (c.wx (some (a, cls, d))) (fun _ _ _ _ => False) t s) (S : St K c B G ι h H ρ σ) (x : XR K c G ι H C fs cls d)
    (p : PostS K c E B G ι (asRun i s C fs ρ h) D) : clRun (some i) a t D σ H := by
  unfold asRun at p
  split at p
  · exact p.elim
  · rename_i hx
    have hx : (ρ.set i .un).any isXv = false := by simpa using hx
    have S1 : St K c B G ι h H (ρ.set i .un) σ := S.unsetM
    have S2 := (S1.wx (e := some (a, cls, d)) hx).setXv (i := i) (C := C) (fs := fs) rfl x.wx
    rw [List.set_set] at S2
    refine hsim B G ι h H _ _ _ S2 ?_
    cases e : s (ρ.set i (.xv C fs)) h with
    | ok fl ρ' h' =>
      rw [e] at p
      dsimp only at p
      split at p
      · exact p.elim
      · rename_i hx2
        have hx2 : (ρ'.set i .un).any isXv = false := by simpa using hx2
        cases fl with
        | next => exact fun G' ι' H' σ' x y S' => p G' ι' H' _ x y (S'.unset.unwx hx2)
        | brk => exact fun G' ι' H' σ' x y S' => p G' ι' H' _ x y (S'.unset.unwx hx2)
        | cont => exact fun G' ι' H' σ' x y S' => p G' ι' H' _ x y (S'.unset.unwx hx2)
        | ret v => exact fun G' ι' H' σ' u x y S' r => p G' ι' H' _ u x y (S'.unsetM.unwx hx2) r.unwx
    | exc C fs ρ' h' => rw [e] at p; exact p.elim
    | fail => rw [e] at p; exact p.elim
/-- a clause of the mirror: its class, its suite (with the name's slot, if any) -/
inductive HRelX (K : PySem.W.Frag) (c : Ctx) : List ClM → List HdM → Prop
  | nil : HRelX K c [] []
  | cons {D : Nat} {ts : Addr → Value → Option Addr → TS} {s : SM} {l : List ClM} {hs : List HdM} (h : ∀ a cls d, SimS K c (fun _ _ _ _ => False) (ts a cls d) s) (r : HRelX K c l hs) : HRelX K c ((.ref (c.CT D), none, ts) :: l) ((D, fun _ _ => noexcS s) :: hs)
  | as {D i : Nat} {ts : Addr → Value → Option Addr → TS} {s : SM} {l : List ClM} {hs : List HdM} (h : ∀ a cls d, SimS K (c.wx (some (a, cls, d))) (fun _ _ _ _ => False) (ts a cls d) s) (r : HRelX K c l hs) : HRelX K c ((.ref (c.CT D), some i, ts) :: l) ((D, asRun i s) :: hs)
theorem handleX_ok {sub : Nat → Nat → Option Bool} (so : SubOk K c sub) {D : Ends} {C : Nat} {fs : Fld} {cls : Value} {d : Option Addr} (hc : cls = .ref (c.CT C)) (hs : St K c B G ι h H ρ σ) (xr : XR K c G ι H C fs cls d) : ∀ {l : List ClM} {hl : List HdM}, HRelX K c l hl →
    PostS K c E B G ι (mHandle sub hl C fs ρ h) D → wMix K E D l cls d σ H
  | _, _, .nil, p => p G ι H σ cls d (Hle.refl _) (Ile.refl _) hs xr
  | _, _, .cons (D := D1) (ts := ts) (s := s) hsim r, p => by
    simp only [mHandle] at p
    cases e : sub C D1 with
    | none => rw [e] at p; exact p.elim
    | some b =>
      rw [e] at p
      refine ⟨b, by rw [hc]; exact so _ _ _ e, fun hb a ha => ?_, fun hb => ?_⟩
      · subst hb
        dsimp only at p
        refine hsim a cls d B G ι h H ρ σ D hs ?_
        unfold noexcS at p
        cases e2 : s ρ h with
        | ok fl ρ' h' => rw [e2] at p; cases fl <;> exact p
        | exc _ _ _ _ => rw [e2] at p; exact p.elim
        | fail => rw [e2] at p; exact p.elim
      · subst hb
        exact handleX_ok so hc hs xr r p
  | _, _, .as (D := D1) (i := i) (ts := ts) (s := s) hsim r, p => by
    simp only [mHandle] at p
    cases e : sub C D1 with
    | none => rw [e] at p; exact p.elim
    | some b =>
      rw [e] at p
      refine ⟨b, by rw [hc]; exact so _ _ _ e, fun hb a ha => ?_, fun hb => ?_⟩
      · subst hb
        exact as_ok (hsim a cls d) hs xr p
      · subst hb
        exact handleX_ok so hc hs xr r p
theorem ss_tryX {sub : Nat → Nat → Option Bool} {tb : WX → TS} {body : SM} {l : List ClM} {hl : List HdM} (so : SubOk K c sub) (hb : ∀ W : WX, SimS K c W (tb W) body) (hh : HRelX K c l hl) :
    SimS K c E (fun D σ H => tb (wMix K E D l) D σ H) (sTry sub body hl) := by
  intro B G ι h H ρ σ D hs hp
  refine hb (wMix K E D l) B G ι h H ρ σ D hs ?_
  unfold sTry at hp
  cases e : body ρ h with
  | ok fl ρ' h' =>
    rw [e] at hp
    cases fl <;> exact hp
  | exc C fs ρ' h' =>
    rw [e] at hp
    intro G' ι' H' σ' cls d a b s x
    exact handleX_ok so x.1 s x hh (hp.mono a b)
  | fail => rw [e] at hp; exact hp
/-! e.f in such a suite -/
def mXf (C i n : Nat) : EM Val := fun ρ h => match ρ[i]? with
  | some (.xv C' fs) => if C' = C then (match fs.lookup n with
    | some v => .ok v ρ h
    | none => .fail) else .fail
  | _ => .fail
theorem sim_xf {C i n : Nat} {a : Addr} {cls : Value} {d : Option Addr} (hi : Inj c) (he : c.ex = some (a, cls, d)) : Sim K c (RV K c) E (tXf a cls d (c.CT C) (c.nm n) (tVar i)) (mXf C i n) := by
  intro B G ι h H ρ σ Q hs hp
  unfold mXf at hp
  split at hp
  · rename_i C' fs ei
    split at hp
    · rename_i hC
      subst hC
      split at hp
      · rename_i v ev
        obtain ⟨x, e1, a', cls', d', e2, rfl, e3, xr⟩ := hs.env i _ ei
        rw [he] at e2; cases e2
        cases d with
        | none => subst xr; cases ev
        | some dd =>
          obtain ⟨xs, g, rf⟩ := xr
          obtain ⟨y, hy, ry⟩ := (FRs.lookup hi rf).1 v ev
          exact ⟨_, e1, rfl, e3, dd, xs, y, rfl, hs.st.le _ _ g, hy, hp G ι H y (Hle.refl _) (Ile.refl _) hs ry⟩
      · exact hp.elim
    · exact hp.elim
  · exact hp.elim
end
end Mir

set_option Elab.async false
set_option linter.all false
set_option maxRecDepth 100000
set_option maxHeartbeats 4000000
/-! bundled: raise, try, and what ML14 to ML16 gave -/
namespace Mir
open PySem PySem.Spec PyProof.Rows L2 PySem.W RZ
section
variable {X : Cx} {K : PySem.W.Frag} {c : Ctx} {E : WX} {pos pos2 p p2 apos : Pos} {o a b e e2 : Expr} {es : List Expr} {x : Str} {tr : TA} {mr : EM (List Val)} {ta tb te : TE} {ma mb me : EM Val}
/-- an own exception class without a field: its __init__ is a def that says super().__init__ of the built-in one -/
structure Ex0 (X : Cx) (K : PySem.W.Frag) (c : Ctx) (x : Str) (C k : Nat) (D : Addr) : Prop where
  oex : OexC K (c.CT C)
  sv : SupV K (c.CT C) D
  fn : ∃ fI fd ps, findIn K (.ref (c.CT C)) "__init__" = some (some (.ref fI)) ∧ typeIn K (.ref fI) = some (.type "function") ∧ FnOk X.prog X.w X.K X.mg X.base (L2.CX X.prog X.w) k fI fd ps (spG K D) ∧ Binds X.K fd ps []
  mg : X.mg x = some (.ref (c.CT C))
structure Ex1 (X : Cx) (K : PySem.W.Frag) (c : Ctx) (x : Str) (C n k : Nat) (f : Str) (D g Dg : Addr) : Prop where
  oex : OexC K (c.CT C)
  sf : SupF K (c.CT C) D g
  sv : SupV K (c.CT C) Dg
  no : findIn K (.ref (c.CT C)) f = some none
  nm : c.nm n = f
  fn : ∃ fI fd ps, findIn K (.ref (c.CT C)) "__init__" = some (some (.ref fI)) ∧ typeIn K (.ref fI) = some (.type "function") ∧ FnOk X.prog X.w X.K X.mg X.base (L2.CX X.prog X.w) k fI fd ps (spI K D g Dg f) ∧ Binds X.K fd ps []
  mg : X.mg x = some (.ref (c.CT C))
theorem sm_raise0 {C k k' : Nat} {D : Addr} (T : Ex0 X K c x C k D) (hc : X.calm = true) (tk : Takes X E) (hr : Room k' X.A) (ha : EAm X K c E [e] tr mr) (hk : k + 1 ≤ k' := by decide) (hg : Gl X x := by rfl) (hdb : (x == ("__debug__" : Str)) = false := by decide)
    (he : starEach [e] X.env = (false, eval e X.env) :: starEach [] X.env := by rfl) (hpl : (backTo pos (starEach [] X.env)).any (·.1) = false := by rfl) :
    ESm X K c E (.Raise (some (.Call (.Name x p) [e] [] pos)) none pos2) (fun _ σ H => tMkA (c.CT C) (spG K D) [] tr σ H fun cls d H' => E cls d σ H') (sRaise0 C mr) := by
  obtain ⟨rfl, pr, sr⟩ := ha
  obtain ⟨fI, fd, ps, iC, tI, F1, hb⟩ := T.fn
  refine ⟨rfl, ps_raise hc tk (pmk_oexA T.oex iC tI F1 (hr.mono hk) hb .nil (fun pins σ H s e s' I z => ?_) hg T.mg pr hdb he hpl), ss_raise0 T.sv sr⟩
  obtain ⟨a, B, H', cls, d, _, _, _, _, _, _, _, z⟩ := z
  exact z.elim
theorem sm_raise1 {C n k k' : Nat} {f : Str} {D g Dg : Addr} (T : Ex1 X K c x C n k f D g Dg) (hc : X.calm = true) (tk : Takes X E) (hr : Room k' X.A) (ha : EAm X K c E [e] tr mr) (hk : k + 1 ≤ k' := by decide) (hg : Gl X x := by rfl) (hdb : (x == ("__debug__" : Str)) = false := by decide)
    (he : starEach [e] X.env = (false, eval e X.env) :: starEach [] X.env := by rfl) (hpl : (backTo pos (starEach [] X.env)).any (·.1) = false := by rfl) :
    ESm X K c E (.Raise (some (.Call (.Name x p) [e] [] pos)) none pos2) (fun _ σ H => tMkA (c.CT C) (spI K D g Dg f) [] tr σ H fun cls d H' => E cls d σ H') (sRaise1 C n mr) := by
  obtain ⟨rfl, pr, sr⟩ := ha
  obtain ⟨fI, fd, ps, iC, tI, F1, hb⟩ := T.fn
  refine ⟨rfl, ps_raise hc tk (pmk_oexA T.oex iC tI F1 (hr.mono hk) hb .nil (fun pins σ H s e s' I z => ?_) hg T.mg pr hdb he hpl), ss_raise1 T.nm T.sf T.sv T.no sr⟩
  obtain ⟨a, B, H', cls, d, _, _, _, _, _, _, _, z⟩ := z
  exact z.elim
/-! try -/
structure EHm (X : Cx) (K : PySem.W.Frag) (c : Ctx) (hds : List ExceptHandler) (l : List ClM) (hl : List HdM) : Prop where
  p : HdsMix X hds l
  s : HRelX K c l hl
variable {hds : List ExceptHandler} {l : List ClM} {hl : List HdM} {b₀ : Stmt} {suite : List Stmt} {np pos' : Pos} {n : Str}
theorem ehm_nil : EHm X K c [] [] [] := ⟨.nil, .nil⟩
theorem ehm_cons {D : Nat} {ts : Addr → Value → Option Addr → TS} {s : SM} (hc : Names X x (.ref (c.CT D)))
    (hsu : ∀ (a : Addr) (oe : Obj) (cls : Value) (d : Option Addr) (pn : List (Addr × Obj)), Zc cls d oe → (∃ vs, oe.data = .fields vs) → EBm (X.suite a ((a, oe) :: pn)) K c (fun _ _ _ _ => False) (b₀ :: suite) (ts a cls d) s) (r : EHm X K c hds l hl) :
    EHm X K c (.ExceptHandler (some (.Name x np)) none (b₀ :: suite) pos' :: hds) ((.ref (c.CT D), none, ts) :: l) ((D, fun _ _ => noexcS s) :: hl) :=
  ⟨.cons hc (fun a oe cls d pn hz hf => (hsu a oe cls d pn hz hf).p) r.p, .cons (fun a cls d => (hsu a { cls := cls, dict := d, data := .fields #[] } cls d [] ⟨rfl, rfl⟩ ⟨_, rfl⟩).s) r.s⟩
theorem ehm_as {D i : Nat} {ts : Addr → Value → Option Addr → TS} {s : SM} (hN : X.N.Nodup) (hc : Names X x (.ref (c.CT D)))
    (hsu : ∀ (a : Addr) (oe : Obj) (cls : Value) (d : Option Addr) (pn : List (Addr × Obj)), Zc cls d oe → (∃ vs, oe.data = .fields vs) → EBm (X.suite a ((a, oe) :: pn)) K (c.wx (some (a, cls, d))) (fun _ _ _ _ => False) (b₀ :: suite) (ts a cls d) s) (r : EHm X K c hds l hl)
    (hi : X.N[i]? = some n := by rfl) (hln : X.env.kindOf n = some .local := by rfl) :
    EHm X K c (.ExceptHandler (some (.Name x np)) (some n) (b₀ :: suite) pos' :: hds) ((.ref (c.CT D), some i, ts) :: l) ((D, asRun i s) :: hl) :=
  ⟨.as hN hi hln hc (fun a oe cls d pn hz hf => (hsu a oe cls d pn hz hf).p) r.p, .as (fun a cls d => (hsu a { cls := cls, dict := d, data := .fields #[] } cls d [] ⟨rfl, rfl⟩ ⟨_, rfl⟩).s) r.s⟩
theorem sm_try {sub : Nat → Nat → Option Bool} {body : List Stmt} {h₀ : ExceptHandler} {tb : WX → TS} {m : SM} (hK : X.K = K) (so : SubOk K c sub) (hs : X.stack = X.env :: X.outer) (hf : X.env.frame = some X.env.locals) (tk : Takes X E)
    (hb : ∀ (W : WX) (pn : List (Addr × Obj)) (xe : Value → Shared → Prop), Takes (X.tr pn xe) W → EBm (X.tr pn xe) K c W body (tb W) m) (hb2 : ∀ W, SimS K c W (tb W) m) (hh : EHm X K c (h₀ :: hds) l hl) :
    ESm X K c E (.Try body (h₀ :: hds) [] [] pos) (fun D σ H => tb (wMix K E D l) D σ H) (sTry sub m hl) := by
  subst hK
  exact ⟨rfl, ps_try_mix hs hf tk (fun W pn xe tk2 _ => (hb W pn xe tk2).p) hh.p, ss_tryX so hb2 hh.s⟩
theorem pm_xf {C i n : Nat} {y f : Str} {ad : Addr} {oe : Obj} {cls : Value} {d : Option Addr} {pn : List (Addr × Obj)} (hi : Inj c) (he : c.ex = some (ad, cls, d)) (T : XfC K (c.CT C)) (hno : findIn K (.ref (c.CT C)) f = some none) (hn : c.nm n = f) (hz : Zc cls d oe) (hd : ∃ vs, oe.data = .fields vs)
    (hK : X.K = K := by rfl) (hN : X.N[i]? = some y := by rfl) (hvis : Vis X.env.scope y := by first | exact Or.inl rfl | exact Or.inr (Or.inl rfl) | exact Or.inr (Or.inr rfl)) (hdb : (y == ("__debug__" : Str)) = false := by decide) (hcd : (y == ("__classdict__" : Str)) = false := by decide)
    (hb : attributeBase (.Name y p) f X.env (eval (.Name y p) X.env) = eval (.Name y p) X.env := by rfl) :
    EEm (X.suite ad ((ad, oe) :: pn)) K c E (.Attribute (.Name y p) f pos) (tXf ad cls d (c.CT C) f (tVar i)) (mXf C i n) := by
  subst hn
  subst hK
  exact ⟨rfl, pe_xf T hno hz hd (pv (X := X.suite ad ((ad, oe) :: pn)) i hN hvis hdb hcd) hb, sim_xf hi he⟩
/-! pairs, zip, enumerate, sorted -/
variable {ca cb : EM Cell} {tg : Expr} {elts : List Expr} {kk : Nat} {tpos : Pos}
theorem sm_parNN (i j : Nat) {y z : Str} {px py pt : Pos} {kt k2 pt2} (hc : X.calm = true) (hN : X.N.Nodup) (ha : ENm X K c E a ta ca) (hb : ENm X K c E b tb cb) (hi : X.N[i]? = some y := by rfl) (hj : X.N[j]? = some z := by rfl) (hij : i ≠ j := by decide)
    (hx : X.env.scope.names.lookup y = some .local := by rfl) (hy : X.env.scope.names.lookup z = some .local := by rfl)
    (h1 : starEach [a, b] X.env = (false, eval a X.env) :: starEach [b] X.env := by rfl) (h2 : starEach [b] X.env = (false, eval b X.env) :: starEach [] X.env := by rfl)
    (hw : swappedStores [.Tuple [.Name y px, .Name z py] kt pt] (.Tuple [a, b] k2 pt2) X.env = pure (some [y, z]) := by rfl)
    (hs : swapsWithSole [.Tuple [.Name y px, .Name z py] kt pt] (.Tuple [a, b] k2 pt2) pos.line X.env = pure false := by rfl) :
    ESm X K c E (.Assign [.Tuple [.Name y px, .Name z py] kt pt] (.Tuple [a, b] k2 pt2) pos) (tPar i j (tCons ta (tCons tb tNil))) (sParNN i j ca cb) := ⟨ha.hK, ps_par hc hN hi hj hij hx hy (pa_cons ha.p (pa_cons hb.p pa_nil h2) h1) hw hs, ss_parNN hij ha.s hb.s⟩
theorem sm_parNV (i j : Nat) {y z : Str} {px py pt : Pos} {kt k2 pt2} (hc : X.calm = true) (hN : X.N.Nodup) (ha : ENm X K c E a ta ca) (hb : EEm X K c E b tb mb) (hi : X.N[i]? = some y := by rfl) (hj : X.N[j]? = some z := by rfl) (hij : i ≠ j := by decide)
    (hx : X.env.scope.names.lookup y = some .local := by rfl) (hy : X.env.scope.names.lookup z = some .local := by rfl)
    (h1 : starEach [a, b] X.env = (false, eval a X.env) :: starEach [b] X.env := by rfl) (h2 : starEach [b] X.env = (false, eval b X.env) :: starEach [] X.env := by rfl)
    (hw : swappedStores [.Tuple [.Name y px, .Name z py] kt pt] (.Tuple [a, b] k2 pt2) X.env = pure (some [y, z]) := by rfl)
    (hs : swapsWithSole [.Tuple [.Name y px, .Name z py] kt pt] (.Tuple [a, b] k2 pt2) pos.line X.env = pure false := by rfl) :
    ESm X K c E (.Assign [.Tuple [.Name y px, .Name z py] kt pt] (.Tuple [a, b] k2 pt2) pos) (tPar i j (tCons ta (tCons tb tNil))) (sParNV i j ca mb) := ⟨ha.hK, ps_par hc hN hi hj hij hx hy (pa_cons ha.p (pa_cons hb.p pa_nil h2) h1) hw hs, ss_parNV hij ha.s hb.s⟩
theorem sm_parVN (i j : Nat) {y z : Str} {px py pt : Pos} {kt k2 pt2} (hc : X.calm = true) (hN : X.N.Nodup) (ha : EEm X K c E a ta ma) (hb : ENm X K c E b tb cb) (hi : X.N[i]? = some y := by rfl) (hj : X.N[j]? = some z := by rfl) (hij : i ≠ j := by decide)
    (hx : X.env.scope.names.lookup y = some .local := by rfl) (hy : X.env.scope.names.lookup z = some .local := by rfl)
    (h1 : starEach [a, b] X.env = (false, eval a X.env) :: starEach [b] X.env := by rfl) (h2 : starEach [b] X.env = (false, eval b X.env) :: starEach [] X.env := by rfl)
    (hw : swappedStores [.Tuple [.Name y px, .Name z py] kt pt] (.Tuple [a, b] k2 pt2) X.env = pure (some [y, z]) := by rfl)
    (hs : swapsWithSole [.Tuple [.Name y px, .Name z py] kt pt] (.Tuple [a, b] k2 pt2) pos.line X.env = pure false := by rfl) :
    ESm X K c E (.Assign [.Tuple [.Name y px, .Name z py] kt pt] (.Tuple [a, b] k2 pt2) pos) (tPar i j (tCons ta (tCons tb tNil))) (sParVN i j ma cb) := ⟨ha.hK, ps_par hc hN hi hj hij hx hy (pa_cons ha.p (pa_cons hb.p pa_nil h2) h1) hw hs, ss_parVN ha.s hb.s⟩
theorem pim_zip (hm : X.mg "zip" = none) (hr : EAm X K c E [e, e2] tr mr) (hg : Gl X "zip" := by rfl) (hs : starEach [e, e2] X.env = (false, eval e X.env) :: starEach [e2] X.env := by rfl) (hpl : (backTo pos (starEach [e2] X.env)).any (·.1) = false := by rfl) :
    EIm X K c E (.Tuple elts kk tpos) (.Call (.Name "zip" p) [e, e2] [] pos) (iZipA K tr) (mZip mr) := by
  obtain ⟨rfl, pr, sr⟩ := hr
  exact ⟨rfl, pi_zipA hg hm pr hs hpl, sim_zip sr⟩
theorem pim_enum (hm : X.mg "enumerate" = none) (hr : EAm X K c E [e] tr mr) (hg : Gl X "enumerate" := by rfl) (hs : starEach [e] X.env = [(false, eval e X.env)] := by rfl) :
    EIm X K c E (.Tuple elts kk tpos) (.Call (.Name "enumerate" p) [e] [] pos) (iEnum K tr) (mEnum mr) := by
  obtain ⟨rfl, pr, sr⟩ := hr
  exact ⟨rfl, pi_enum hg hm pr hs, sim_enum sr⟩
end
end Mir

set_option Elab.async false
set_option linter.all false
set_option maxRecDepth 100000
set_option maxHeartbeats 4000000
/-! t[::-1] of a tuple, t == (), isinstance of objects, list(name), a + b as fresh lists -/
namespace L2
open PySem PySem.Spec PyProof.Rows HT
section
variable {prog : Program} {w : World} {A : Around} {E : Value → Shared → Prop} {s : Shared}
theorem sliceApplied_rev {sl : Addr} {vl vu vs : Value} {n : Nat} {Q : Int × Int × Nat → Shared → Prop} (hs : s.heap.IsSliceOf sl vl vu vs) (pl : IsPart vl none) (pu : IsPart vu none) (ps : IsPart vs (some (-1)))
    (h : Q ((n : Int) - 1, -1, n) s) : wpAny (model prog w) A (Builtin.Slice.sliceApplied (.ref sl) (pure (n : Int))) Q E s := by
  obtain ⟨os, hos, hcs, hds⟩ := id hs
  unfold Builtin.Slice.sliceApplied Builtin.Slice.sliceFields
  refine wpAny_bind (wpAny_bind (wpAny_field hos hds (x := vl) rfl (wpAny_bind (wpAny_field hos hds (x := vu) rfl (wpAny_bind (wpAny_field hos hds (x := vs) rfl (wpAny_pure ?_)))))))
  refine wpAny_bind (slicePart_ ps ?_)
  show wpAny _ _ (if ((-1 : Int) == 0) = true then _ else _) _ _ s
  rw [if_neg (by decide)]
  refine wpAny_bind (slicePart_ pl (wpAny_bind (slicePart_ pu (wpAny_bind (wpAny_pure ?_)))))
  have e : Builtin.Slice.sliceAdjust none none (-1) (n : Int) = ((n : Int) - 1, -1) := rfl
  have e2 : Builtin.Slice.slicePlaces ((n : Int) - 1) (-1) (-1) = n := by
    unfold Builtin.Slice.slicePlaces
    rw [if_neg (by decide)]
    by_cases z : n = 0
    · subst z; rfl
    · rw [if_pos (by omega)]
      have : ((n : Int) - 1 - -1 - 1) / (- -1) = (n : Int) - 1 := by rw [show (- -1 : Int) = 1 from rfl, Int.ediv_one]; omega
      rw [this]; omega
  show wpAny _ _ (match Builtin.Slice.sliceAdjust none none (-1) (n : Int) with | (lo, hi) => pure (lo, (-1 : Int), Builtin.Slice.slicePlaces lo hi (-1))) _ _ s
  rw [e]
  show wpAny _ _ (pure ((n : Int) - 1, (-1 : Int), Builtin.Slice.slicePlaces ((n : Int) - 1) (-1) (-1))) _ _ s
  rw [e2]
  exact wpAny_pure h
theorem fm_some {α β : Type} {f : α → Option β} {g : α → β} : ∀ {l : List α}, (∀ m ∈ l, f m = some (g m)) → l.filterMap f = l.map g
  | [], _ => rfl
  | a :: r, h => by rw [List.filterMap_cons, h a (by simp), List.map_cons, fm_some fun m hm => h m (by simp [hm])]
theorem pick_rev (xs : Array Value) : ((List.range xs.size).filterMap fun (m : Nat) => xs[(((xs.size : Int) - 1) + (m : Int) * (-1)).toNat]?).toArray = xs.toList.reverse.toArray := by
  congr 1
  apply List.ext_getElem?
  intro i
  have e : (List.range xs.size).filterMap (fun (m : Nat) => xs[(((xs.size : Int) - 1) + (m : Int) * (-1)).toNat]?) = (List.range xs.size).map (fun m => xs.toList.reverse.getD m .none) := by
    refine fm_some fun m hm => ?_
    have hm := List.mem_range.1 hm
    have e1 : (((xs.size : Int) - 1) + (m : Int) * (-1)).toNat = xs.size - 1 - m := by omega
    rw [e1]
    rw [List.getD_eq_getElem?_getD, List.getElem?_reverse (by simpa using hm)]
    have hl : xs.size - 1 - m < xs.size := by omega
    simp [hl]
  rw [e, List.getElem?_map]
  by_cases hi : i < xs.size
  · rw [List.getElem?_range hi]
    simp only [Option.map_some]
    rw [List.getD_eq_getElem?_getD]
    have : i < xs.toList.reverse.length := by simpa using hi
    rw [List.getElem?_eq_getElem this]; rfl
  · rw [List.getElem?_eq_none (by simpa using hi), List.getElem?_eq_none (by simpa using hi)]; rfl
theorem getItem_tuple_rev {t sl : Addr} {items : Array Value} {vl vu vs : Value} {Q : Value → Shared → Prop} (ht : IsTup s.heap t items) (hs : s.heap.IsSliceOf sl vl vu vs) (pl : IsPart vl none) (pu : IsPart vu none) (ps : IsPart vs (some (-1)))
    (h : Q (.ref s.heap.objs.size) { s with heap := s.heap.push { cls := .type "tuple", data := .seq items.toList.reverse.toArray } })
    (hsz : items.size ≤ sizeLine) : wpAny (model prog w) A (getItem (.ref t) (.ref sl)) Q E s := by
  have htake : sizeOk (.seq items.toList.reverse.toArray) := by
    show items.toList.reverse.toArray.size ≤ sizeLine
    rw [List.size_toArray, List.length_reverse, Array.length_toList]
    exact hsz
  obtain ⟨os, hos, hcs, hds⟩ := id hs
  have hTs : s.TypeIs (.ref sl) "slice" := ⟨os, hos, hcs⟩
  unfold getItem
  try with_reducible refine wpAny_holding ?_
  first | refine wpAny_bind (wpAny_pure ?_) | skip
  refine wpAny_bind (wpAny_sequenceKey ht.typeIs (by decide) ?_)
  refine wpAny_bind (wpAny_callSpecial?_slot (name := Str.ofString "__getitem__") ht.typeIs PyProof.Rows.slot_tuple_getitem
    (wpAny_call_entry PyProof.Rows.slot_tuple_getitem ht.typeIs entry_tuple_getitem ?_ (args_tuple_getitem _ _)))
  show wpAny _ _ (Builtin.Tuple.tupleItemsOf (.ref t) >>= _) _ _ s
  refine wpAny_bind (tupleItemsOf_ ht ?_)
  refine wpAny_bind (wpAny_typeOf hTs ?_)
  rw [if_pos (by decide)]
  refine wpAny_bind (sliceApplied_rev hs pl pu ps ?_)
  have hno : ¬ ((((items.size : Int) - 1) == 0 && (-1 : Int) == 1 && items.size == items.size) = true) := by
    intro q
    rw [Bool.and_eq_true, Bool.and_eq_true] at q
    exact absurd q.1.2 (by decide)
  show wpAny _ _ (if (((items.size : Int) - 1) == 0 && (-1 : Int) == 1 && items.size == items.size) = true then _ else _) _ _ s
  rw [if_neg hno, pick_rev]
  first
    | exact wpAny_bind (m := Builtin.Tuple.tupleExact _) (wpAny_newObj_type (wpAny_pure ⟨_, rfl, wpAny_pure h⟩) htake)
    | exact wpAny_bind (m := Builtin.Tuple.tupleExact _) (wpAny_newObj_type (wpAny_bind (wpAny_pure (wpAny_pure ⟨_, rfl, wpAny_pure h⟩))) htake)
    | exact wpAny_bind (wpAny_bind (m := Builtin.Tuple.tupleExact _) (wpAny_newObj_type (wpAny_pure (wpAny_pure ⟨_, rfl, wpAny_pure h⟩)) htake))
    | exact wpAny_bind (wpAny_bind (m := Builtin.Tuple.tupleExact _) (wpAny_newObj_type (wpAny_pure ⟨_, rfl, wpAny_pure h⟩) htake))
end
section
variable {X : Cx}
def tRevT (K : PySem.W.Frag) (te : TE) : TE := fun σ H Q => te σ H fun x H1 => ∃ a xs, x = .ref a ∧ SqT K H1 a xs ∧ ∀ p, H1 p = none → Q (.ref p) (upd H1 p (.tup xs.reverse))
def tRevA (K : PySem.W.Frag) (te : TE) : TE := fun σ H Q => te σ H fun x H1 => (∃ a xs, x = .ref a ∧ SqT K H1 a xs ∧ ∀ p, H1 p = none → Q (.ref p) (upd H1 p (.tup xs.reverse))) ∨ ∃ a xs, x = .ref a ∧ SqL K H1 a xs ∧ ∀ p, H1 p = none → Q (.ref p) (upd H1 p (.lst xs.reverse))
theorem pe_revA {e : Expr} {te : TE} {k : Nat} {p1 p2 p3 pos : Pos} (he : PE X e te) : PE X (.Subscript e (.Slice none none (some (.UnaryOp .USub (.Constant (.int 1) k p1) p2)) p3) pos) (tRevA X.K te) := by
  refine ⟨fun pins s σ H Q I h => ?_⟩
  refine Subscript_ (thn (he.run pins s σ H _ I h) fun v s1 ⟨x, H1, I1, r1, q1⟩ => ?_)
  have hst : PO X (some (.UnaryOp .USub (.Constant (.int 1) k p1) p2)) (tPart (tUn (rU fun i => .int (-i)) (tC (.int 1)))) := po_some (pe_un un_neg pe_int)
  refine wpAny_Slice (thn (po_none.run pins s1 σ H1 (fun o H2 => o = none ∧ H2 = H1) I1 ⟨rfl, rfl⟩) fun vl s2 ⟨l, H2, I2, pl, el, e2⟩ => ?_)
  subst el e2
  refine thn (po_none.run pins s2 σ H2 (fun o H3 => o = none ∧ H3 = H2) I2 ⟨rfl, rfl⟩) fun vu s3 ⟨u, H3, I3, pu, eu, e3⟩ => ?_
  subst eu e3
  refine thn (hst.run pins s3 σ H3 (fun o H4 => o = some (-1) ∧ H4 = H3) I3 ⟨1, rfl, -1, rfl, rfl, rfl⟩) fun vs s4 ⟨o, H4, I4, ps, eo, e4⟩ => ?_
  subst eo e4
  have I5 : Inv X pins σ H4 { s4 with heap := s4.heap.push { cls := .type "slice", data := .fields #[vl, vu, vs] } } := I4.kept (t' := s4.toks) fun b ob q => Heap.get?_push_of_some _ q
  rcases q1 with ⟨a, xs, ex, hx, q⟩ | ⟨a, xs, ex, hx, q⟩
  · subst ex
    cases r1
    obtain ⟨its, r, ht, hz⟩ := I5.tuple hx
    have hlen : its.toArray.size = xs.length := by rw [List.size_toArray]; exact r.length.symm
    show wpAny (model X.prog X.w) X.A (subscriptTail e (.Slice none none (some (.UnaryOp .USub (.Constant (.int 1) k p1) p2)) p3) (.ref a) (.ref s4.heap.objs.size)) (EP X pins σ Q) X.xe { s4 with heap := s4.heap.push { cls := .type "slice", data := .fields #[vl, vu, vs] } }
    refine tail_any (ops := [.ref a, .ref s4.heap.objs.size]) ht.typeIs (PyProof.Rows.slot_tuple_getitem.lookup) ?_ (by with_unfolding_all rfl)
    refine getItem_tuple_rev ht (Heap.IsSliceOf.new _ vl vu vs) pl pu ps ?_ (by rw [hlen]; exact hz)
    refine ⟨.ref _, _, I5.laid (t' := s4.toks) (o := .tup xs.reverse) (fun b ob q => Heap.get?_push_of_some _ q) (Nat.le_refl _) ?_, rfl, q _ (I5.hok.fresh (Nat.le_refl _))⟩
    exact ⟨by rw [List.length_reverse]; exact hz, its.reverse, r.reverse, IsTup.new _ _⟩
  · subst ex
    cases r1
    obtain ⟨its, r, ht, hz⟩ := I5.list hx
    have hlen := r.length
    show wpAny (model X.prog X.w) X.A (subscriptTail e (.Slice none none (some (.UnaryOp .USub (.Constant (.int 1) k p1) p2)) p3) (.ref a) (.ref s4.heap.objs.size)) (EP X pins σ Q) X.xe { s4 with heap := s4.heap.push { cls := .type "slice", data := .fields #[vl, vu, vs] } }
    refine tail_any (ops := [.ref a, .ref s4.heap.objs.size]) ht.isList.typeIs (PySem.slot_list_getitem.lookup) ?_ (by with_unfolding_all rfl)
    refine wpAny_getItem_list_slice ht.isList (Heap.IsSliceOf.new _ vl vu vs) pl pu ps (by decide) ?_ (by rw [List.size_toArray]; omega)
    rw [PySem.W.krv_pick]
    refine ⟨.ref _, _, I5.laid (t' := s4.toks) (o := .lst xs.reverse) (fun b ob q => Heap.get?_push_of_some _ q) (Nat.le_refl _) ?_, rfl, q _ (I5.hok.fresh (Nat.le_refl _))⟩
    exact ⟨by rw [List.length_reverse]; exact hz, _, 0, r.reverse, Heap.get?_push_size _ rfl⟩
end
end L2

set_option Elab.async false
set_option linter.all false
set_option maxRecDepth 100000
set_option maxHeartbeats 4000000
namespace Mir
open PySem PySem.Spec PyProof.Rows L2 PySem.W
section
variable {K : PySem.W.Frag} {c : Ctx} {B : Bas} {G G' : Hp} {ι ι' : List Addr} {h h' : MHp} {H H' : Hp} {ρ ρ' : MEnv} {σ σ' : L2.St} {E : WX} {ta tb : TE} {ma mb : EM Val}
/-! x[::-1] -/
def vRev : Val → Option Val
  | .tup vs => some (.tup vs.reverse)
  | .lst vs => some (.lst vs.reverse)
  | .fz vs => some (.lst vs.reverse)
  | _ => none
def mRev (a : EM Val) : EM Val := EM.bind a fun v => EM.lift (vRev v)
theorem sim_rev (ha : Sim K c (RV K c) E ta ma) : Sim K c (RV K c) E (tRevA K ta) (mRev ma) := by
  intro B G ι h H ρ σ Q hs hp
  refine ha.bind hs hp fun G1 ι1 h1 H1 ρ1 v x a1 b1 s1 r1 p1 => ?_
  obtain ⟨z, e, p2⟩ := p1.lift
  have fin : ∀ {l : Addr} {u : HO} {z : Val}, some z = some z → H1 l = none → VR K c (upd G1 l u) ι1 z (.ref l) → Post K c (RV K c) E B G1 ι1 σ (EM.pure z ρ1 h1) Q → Q (.ref l) (upd H1 l u) := fun {l u z} _ hl r p =>
    p _ _ _ _ (Hle.new (s1.st.le.free hl)) (Ile.refl _) (s1.new hl) r
  cases v with
  | tup vs =>
    obtain ⟨p, xs, rfl, hp, r⟩ := r1.tupE
    cases e
    exact .inl ⟨p, xs, rfl, s1.st.le.sqT hp, fun l hl => fin rfl hl (.tup (.of upd_same) (r.reverse.mono (Hle.new (s1.st.le.free hl)) (Ile.refl _))) p2⟩
  | lst vs =>
    obtain ⟨p, xs, rfl, hp, r⟩ := r1.lstE
    cases e
    exact .inr ⟨p, xs, rfl, .of (s1.st.le _ _ hp), fun l hl => fin rfl hl (.lst upd_same (r.reverse.mono (Hle.new (s1.st.le.free hl)) (Ile.refl _))) p2⟩
  | fz vs =>
    obtain ⟨p, xs, rfl, hp, r⟩ := r1.fzE
    cases e
    exact .inr ⟨p, xs, rfl, s1.st.le.sqL hp, fun l hl => fin rfl hl (.lst upd_same (r.reverse.mono (Hle.new (s1.st.le.free hl)) (Ile.refl _))) p2⟩
  | _ => cases e
/-! t == () -/
def eqY (x y : Val) : Option Bool := match x, y with
  | .tup vs, .tup [] => some vs.isEmpty
  | x, y => eqX x y
def fEqY : Val → Val → Option Val := fun x y => (eqY x y).map .bl
def rEqT0 (K : PySem.W.Frag) : R2 := fun x y H Q => ∃ a b xs, x = .ref a ∧ y = .ref b ∧ SqT K H a xs ∧ SqT K H b [] ∧ Q (.bl xs.isEmpty) H
def rEqY (K : PySem.W.Frag) : R2 := fun x y H Q => rEqT0 K x y H Q ∨ rEqX K x y H Q
theorem op_eqT0 {X : Cx} (hu : X.A.units < cLine) : OpR X (compareOp .Eq) (rEqT0 X.K) := by
  intro pins s σ H x y v u Q I rx ry h
  obtain ⟨a, b, xs, rfl, rfl, ha, hb, q⟩ := h
  cases rx; cases ry
  obtain ⟨its, rv, p, hz⟩ := I.tuple ha
  obtain ⟨its2, rv2, p2, hz2⟩ := I.tuple hb
  have e2 : its2 = [] := by cases rv2; rfl
  subst e2
  refine SeqAt.eq_tupleAt (e := fun _ => true) p p2 hu (fun j h1 h2 => absurd h2 (by simp)) ?_
  refine ⟨.bl xs.isEmpty, H, I, ?_, q⟩
  show Value.bool _ = Value.bool _
  have hl := rv.length
  congr 1
  cases xs with
  | nil => cases its with
    | nil => rfl
    | cons _ _ => simp at hl
  | cons _ _ => cases its with
    | nil => simp at hl
    | cons _ _ => simp
theorem sr_eqY : SimR2 K c (rEqY K) fEqY := by
  intro B G ι h H ρ σ vx vy x y z hs rx ry e Q q
  unfold fEqY eqY at e
  split at e
  · rename_i vs
    obtain ⟨p, xs, rfl, hp, r⟩ := VR.tupE rx
    obtain ⟨p', ys, rfl, hp', r'⟩ := VR.tupE ry
    cases r'
    simp only [Option.map_some, Option.some.injEq] at e
    subst e
    refine .inl ⟨p, p', xs, rfl, rfl, hs.st.le.sqT hp, hs.st.le.sqT hp', ?_⟩
    rw [← r.isEmpty]
    exact q G H _ (Hle.refl _) hs (.bl _)
  · exact .inr (sr_eqX B G ι h H ρ σ vx vy x y z hs rx ry e Q q)
theorem co_eqY {X : Cx} (hu : X.A.units + 64 < cLine) : CmpOk X K c .Eq rEqY fEqY := ⟨OpR.or (op_eqT0 (by omega)) (OpR.or (op_eqL (by omega)) (op_eqD hu)), sr_eqY⟩
/-! isinstance of objects of own classes -/
structure InsTy (K : PySem.W.Frag) (C : Addr) : Prop where
  cl : Cls K C
  ha : findIn K (.ref C) "__class__" = some (some (.builtin "object.__class__"))
  mr : mroIn K C (.type "object") = some true
structure InsG (K : PySem.W.Frag) : Prop where
  hn : specialIn K (.builtin "object.__class__") "__get__" = some (some (.builtin "getset_descriptor.__get__"))
  tk : takesIn K (.builtin "object.__class__") = some true
/-- which class a value has: a built-in one's name, or an own one's number -/
def clsOf (v : Val) (h : MHp) : Option (String ⊕ Nat) := match v with
  | .ref a => (match h[a]? with
    | some (.ins C _) => some (.inr C)
    | some (.lst _) => some (.inl "list")
    | some (.dct _) => some (.inl "dict")
    | none => none)
  | v => (tyName v).map .inl
def tyVal (c : Ctx) : String ⊕ Nat → Value
  | .inl s => .type s
  | .inr C => .ref (c.CT C)
/-- isinstance(e, T), T a built-in class or an own one: the table tells -/
def mIsA (it : String ⊕ Nat → Option Bool) (a : EM Val) : EM Val := EM.bind a fun v => EM.lh fun h => (clsOf v h).bind fun t => (it t).map .bl
def ItOk (K : PySem.W.Frag) (c : Ctx) (u : Value) (it : String ⊕ Nat → Option Bool) : Prop := ∀ t b, it t = some b → kitOne K (tyVal c t) u = some b
theorem sim_isA {it : String ⊕ Nat → Option Bool} {cv : V} {u : Value} (hc : ClsV cv u) (ht : ItOk K c u it) (hI : ∀ C b, it (.inr C) = some b → InsTy K (c.CT C)) (hG0 : InsG K) (ha : Sim K c (RV K c) E ta ma) : Sim K c (RV K c) E (tCB (rIsi K) (tCons ta (tCons (tC cv) tNil))) (mIsA it ma) := by
  intro B G ι h H ρ σ Q hs hp
  refine ha.bind (S := RV K c) hs hp fun G1 ι1 h1 H1 ρ1 v x a1 b1 s1 r1 p1 => ?_
  obtain ⟨z, e, p3⟩ := p1.lh
  simp only [Option.bind_eq_some_iff, Option.map_eq_some_iff] at e
  obtain ⟨t, e1, b, e2, rfl⟩ := e
  have ty : TyX K H1 x (tyVal c t) := by
    unfold clsOf at e1
    split at e1
    · rename_i a
      obtain ⟨p, rfl, hp⟩ := r1.refE
      split at e1
      · rename_i C fs ea
        cases e1
        obtain ⟨dx, xs, hH, rf⟩ := s1.st.cell a p _ hp ea
        have := hI C b e2
        exact .base (.ins hH this.cl this.ha hG0.hn hG0.tk this.mr)
      · rename_i vs ea
        cases e1
        obtain ⟨xs, hH, rf⟩ := s1.st.cell a p _ hp ea
        exact .base (.lst hH)
      · rename_i vs ea
        cases e1
        obtain ⟨xs, hH, rf⟩ := s1.st.cell a p _ hp ea
        exact .base (.dK hH)
      · cases e1
    · simp only [Option.map_eq_some_iff] at e1
      obtain ⟨T, e1, rfl⟩ := e1
      exact tyX_of (r1.toH s1.st.le) s1.st.le e1
  exact ⟨x, cv, _, u, b, rfl, hc, ty, ht t b e2, Post.pure (R := RV K c) (x := .bl b) p3 s1 (.bl b)⟩
/-! list(name), a + b as fresh lists -/
def nListB (i : Nat) : EM Cell := EM.bind (getCont i) fun v => EM.lift (match v with
  | .tup vs => some (.lst vs)
  | .lst vs => some (.lst vs)
  | .fz vs => some (.lst vs)
  | _ => none)
end
end Mir

set_option Elab.async false
set_option linter.all false
set_option maxRecDepth 100000
set_option maxHeartbeats 4000000
namespace Mir
open PySem PySem.Spec PyProof.Rows L2 PySem.W StX
section
variable {K : PySem.W.Frag} {c : Ctx} {B : Bas} {G G' : Hp} {ι ι' : List Addr} {h h' : MHp} {H H' : Hp} {ρ ρ' : MEnv} {σ σ' : L2.St} {E : WX} {ta tb : TE} {ma mb : EM Val} {tr : TA} {mr : EM (List Val)}
theorem PostN.getCont {i : Nat} {f : Val → EM Cell} {Q : VK} (p : PostN K c E B G ι σ (EM.bind (getCont i) f ρ h) Q) : ∃ v, Mir.cont ρ h i = some v ∧ isCont v = true ∧ PostN K c E B G ι σ (f v ρ h) Q := by
  unfold EM.bind Mir.getCont at p
  cases e : Mir.cont ρ h i with
  | none => rw [e] at p; exact p.elim
  | some v =>
    rw [e] at p
    by_cases hz : isCont v = true
    · dsimp only at p
      rw [if_pos hz] at p
      exact ⟨v, rfl, hz, p⟩
    · dsimp only at p
      rw [if_neg hz] at p
      exact p.elim
theorem sn_listB {i : Nat} : SimN K c E (tCB (fun xs H Q => ∃ p ys, xs = [.ref p] ∧ (SqL K H p ys ∨ SqT K H p ys) ∧ ∀ l, H l = none → Q (.ref l) (upd H l (.lst ys))) (tCons (tVar i) tNil)) (nListB i) := by
  intro B G ι h H ρ σ Q hs hp
  obtain ⟨v, ec, hv, p1⟩ := PostN.getCont hp
  obtain ⟨x, ex, rx⟩ := hs.cont ec hv
  refine ⟨x, ex, ?_⟩
  cases v with
  | tup vs => obtain ⟨p, xs, rfl, hx, r⟩ := VR.tupE rx; exact ⟨p, xs, rfl, .inr (hs.st.le.sqT hx), fun l hl => PostN.fresh hs p1 hl ⟨xs, rfl, r⟩⟩
  | lst vs => obtain ⟨p, xs, rfl, hx, r⟩ := rx; exact ⟨p, xs, rfl, .inl (.of hx), fun l hl => PostN.fresh hs p1 hl ⟨xs, rfl, r⟩⟩
  | fz vs => obtain ⟨p, xs, rfl, hx, r⟩ := VR.fzE rx; exact ⟨p, xs, rfl, .inl (hs.st.le.sqL hx), fun l hl => PostN.fresh hs p1 hl ⟨xs, rfl, r⟩⟩
  | _ => exact p1.elim
/-- a + b, both lists, as a fresh list -/
def addL : Val → Val → Option Cell
  | .lst a, .lst b => if a.length + b.length ≤ sizeLine then some (.lst (a ++ b)) else none
  | _, _ => none
def nAdd (a b : EM Val) : EM Cell := EM.bind a fun x => EM.bind b fun y => EM.lift (addL x y)
def nAddB (i : Nat) (b : EM Val) : EM Cell := EM.bind (has i) fun _ => EM.bind b fun y => EM.bind (getCont i) fun x => EM.lift (addL x y)
theorem addL_ok {vx vy : Val} {x y : V} {cl : Cell} {Q : VK} (hs : St K c B G ι h H ρ σ) (rx : VH K c G ι H vx x) (ry : VH K c G ι H vy y) (e : addL vx vy = some cl) (q : ∀ l u, H l = none → CO K c G ι cl u → Q (.ref l) (upd H l u)) : rAddA K x y H Q := by
  unfold addL at e
  split at e
  · rename_i a b
    obtain ⟨p, xs, rfl, hp, r⟩ := rx
    obtain ⟨p', ys, rfl, hp', r'⟩ := ry
    split at e
    · rename_i hz
      cases e
      have l1 := r.length
      have l2 := r'.length
      exact .inr (.inr (.inr (.inl ⟨p, p', xs, ys, rfl, rfl, hp, hp', by omega, fun l hl => q l _ hl ⟨_, rfl, r.append r'⟩⟩)))
    · cases e
  · cases e
theorem liftN {o : Option Cell} {Q : VK} (p : PostN K c E B G ι σ (EM.lift o ρ h) Q) : ∃ cl, o = some cl ∧ PostN K c E B G ι σ (.ok cl ρ h) Q := by
  unfold EM.lift at p
  cases o with
  | none => exact p.elim
  | some cl => exact ⟨cl, rfl, p⟩
theorem sn_add (ha : Sim K c (RV K c) E ta ma) (hb : Sim K c (RV K c) E tb mb) : SimN K c E (tOp (rAddA K) ta tb) (nAdd ma mb) := by
  intro B G ι h H ρ σ Q hs hp
  refine ha.bindN hs hp fun G1 ι1 h1 H1 ρ1 v x a1 b1 s1 r1 p1 => ?_
  refine hb.bindN s1 p1 fun G2 ι2 h2 H2 ρ2 w y a2 b2 s2 r2 p2 => ?_
  obtain ⟨cl, e, p3⟩ := liftN p2
  exact addL_ok s2 ((r1.mono a2 b2).toH s2.st.le) (r2.toH s2.st.le) e fun l u hl r => PostN.fresh s2 p3 hl r
theorem PostN.has (S : St K c B G ι h H ρ σ) {i : Nat} {Q : VK} {f : Unit → EM Cell} (p : PostN K c E B G ι σ (EM.bind (Mir.has i) f ρ h) Q) : (∃ x, σ[i]? = some (some x)) ∧ PostN K c E B G ι σ (f () ρ h) Q := by
  unfold EM.bind Mir.has at p
  split at p
  · rename_i e
    split at e
    · rename_i v ev
      cases e
      obtain ⟨x, e1, y, rfl, _⟩ := S.env i _ ev
      exact ⟨⟨y, e1⟩, p⟩
    · rename_i v ev
      cases e
      obtain ⟨x, e1, y, rfl, _⟩ := S.env i _ ev
      exact ⟨⟨_, e1⟩, p⟩
    · cases e
  · rename_i e
    split at e <;> cases e
  · exact p.elim
theorem sn_addB {i : Nat} (hb : Sim K c (RV K c) E tb mb) : SimN K c E (tOp (rAddA K) (tVar i) tb) (nAddB i mb) := by
  intro B G ι h H ρ σ Q hs hp
  obtain ⟨⟨x0, hx0⟩, hp⟩ := PostN.has hs hp
  refine ⟨x0, hx0, ?_⟩
  refine hb.bindN hs hp fun G2 ι2 h2 H2 ρ2 w y a2 b2 s2 r2 p2 => ?_
  obtain ⟨v, ec, hv, p3⟩ := PostN.getCont p2
  obtain ⟨x, ex, rx⟩ := s2.cont ec hv
  rw [hx0] at ex; cases ex
  obtain ⟨cl, e, p4⟩ := liftN p3
  exact addL_ok s2 rx (r2.toH s2.st.le) e fun l u hl r => PostN.fresh s2 p4 hl r
/-! (*x, y) -/
def mStar (a : EM Val) (r : EM (List Val)) : EM (List Val) := EM.bind a fun v => EM.bind (EM.lift (seqOf v)) fun vs => EM.bind r fun ws => EM.pure (vs ++ ws)
theorem sim_star (ha : Sim K c (RV K c) E ta ma) (hr : Sim K c (RVs K c) E tr mr) : Sim K c (RVs K c) E (tStar K ta tr) (mStar ma mr) := by
  intro B G ι h H ρ σ Q hs hp
  refine ha.bind (S := RVs K c) hs hp fun G1 ι1 h1 H1 ρ1 v x a1 b1 s1 r1 p1 => ?_
  have p1' : Post K c (RVs K c) E B G1 ι1 σ (EM.bind (EM.lift (seqOf v)) (fun vs => EM.bind mr fun ws => EM.pure (vs ++ ws)) ρ1 h1) Q := p1
  cases e : seqOf v with
  | none => rw [e] at p1'; exact p1'.elim
  | some vs =>
    rw [e] at p1'
    have p2 : Post K c (RVs K c) E B G1 ι1 σ (EM.bind mr (fun ws => EM.pure (vs ++ ws)) ρ1 h1) Q := p1'
    obtain ⟨p, xs, rfl, hx, rs⟩ := seqOf_ok s1.st.le (r1.toH s1.st.le) e
    refine ⟨p, xs, rfl, hx.symm, ?_⟩
    refine hr.bind (S := RVs K c) s1 p2 fun G2 ι2 h2 H2 ρ2 ws ys a2 b2 s2 r2 p3 => ?_
    exact Post.pure (R := RVs K c) p3 s2 ((rs.mono a2 b2).append r2)
end
section
variable {X : Cx} {K : PySem.W.Frag} {c : Ctx} {E : WX} {pos p p2 : Pos} {a b e : Expr} {es : List Expr} {tr : TA} {mr : EM (List Val)} {ta tb te : TE} {ma mb me : EM Val}
theorem pam_star (ha : EEm X K c E e te me) (hr : EAm X K c E es tr mr) (hs : starEach (.Starred e p :: es) X.env = (true, eval e X.env) :: starEach es X.env := by rfl) : EAm X K c E (.Starred e p :: es) (tStar K te tr) (mStar me mr) := by
  obtain ⟨rfl, pa, sa⟩ := ha
  exact ⟨rfl, pa_star pa hr.p hs, sim_star sa hr.s⟩
theorem pn_add (ha : EEm X K c E a ta ma) (hb : EEm X K c E b tb mb) : ENm X K c E (.BinOp a .Add b pos) (tOp (rAddA K) ta tb) (nAdd ma mb) := by
  obtain ⟨rfl, pa, sa⟩ := ha
  exact ⟨rfl, pe_op op_addA pa hb.p, sn_add sa hb.s⟩
theorem pn_addB (i : Nat) {y : Str} (hb : EEm X K c E b tb mb) (hN : X.N[i]? = some y := by rfl) (hvis : Vis X.env.scope y := by first | exact Or.inl rfl | exact Or.inr (Or.inl rfl) | exact Or.inr (Or.inr rfl)) (hd : (y == ("__debug__" : Str)) = false := by decide) (hcd : (y == ("__classdict__" : Str)) = false := by decide) :
    ENm X K c E (.BinOp (.Name y p2) .Add b pos) (tOp (rAddA K) (tVar i) tb) (nAddB i mb) := by
  obtain ⟨rfl, pb, sb⟩ := hb
  exact ⟨rfl, pe_op op_addA (pv i hN hvis hd hcd) pb, sn_addB sb⟩
theorem pn_listB (i : Nat) {y : Str} (hm : X.mg "list" = none) (hK : X.K = K := by rfl) (hg : Gl X "list" := by rfl) (hN : X.N[i]? = some y := by rfl) (hvis : Vis X.env.scope y := by first | exact Or.inl rfl | exact Or.inr (Or.inl rfl) | exact Or.inr (Or.inr rfl)) (hd : (y == ("__debug__" : Str)) = false := by decide) (hcd : (y == ("__classdict__" : Str)) = false := by decide)
    (he : starEach [.Name y p2] X.env = (false, eval (.Name y p2) X.env) :: starEach [] X.env := by rfl) (hpl : (backTo pos (starEach [] X.env)).any (·.1) = false := by rfl) : ENm X K c E (.Call (.Name "list" p) [.Name y p2] [] pos) (tCB (rListOf K) (tCons (tVar i) tNil)) (nListB i) := by
  subst hK
  exact ⟨rfl, pe_callTy call_list_of hg hm (by decide +kernel) (pa_cons (pv i hN hvis hd hcd) pa_nil he) (by decide) (by decide) he hpl, sn_listB⟩
theorem pm_rev {k : Nat} {p1 p3 : Pos} (ha : EEm X K c E e te me) : EEm X K c E (.Subscript e (.Slice none none (some (.UnaryOp .USub (.Constant (.int 1) k p1) p2)) p3) pos) (tRevA K te) (mRev me) := by
  obtain ⟨rfl, pa, sa⟩ := ha
  exact ⟨rfl, pe_revA pa, sim_rev sa⟩
theorem pm_sorted (hm : X.mg "sorted" = none) (hu : X.A.units + 65 < cLine) (ha : EEm X K c E a ta ma) (hg : Gl X "sorted" := by rfl) (he : starEach [a] X.env = (false, eval a X.env) :: starEach [] X.env := by rfl) (hpl : (backTo pos (starEach [] X.env)).any (·.1) = false := by rfl) :
    EEm X K c E (.Call (.Name "sorted" p) [a] [] pos) (tCB (rSortD K) (tCons ta tNil)) (mCB (f1 vSort) (mCons ma mNil)) := by
  obtain ⟨rfl, pa, sa⟩ := ha
  exact ⟨rfl, pe_callB (cr_sortedD hu) hg hm (by decide +kernel) (pa_cons pa pa_nil he) (by decide) (by decide) he hpl, sim_cb sc_sort (sim_cons sa sim_nil)⟩
theorem pm_isA {T : Str} {it : String ⊕ Nat → Option Bool} {cv : V} {u : Value} {tc : TE} (hm : X.mg "isinstance" = none) (hp : PE X b (tC cv)) (hc : ClsV cv u) (ht : ItOk K c u it) (hI : ∀ C b, it (.inr C) = some b → InsTy K (c.CT C)) (hG0 : InsG K) (ha : EEm X K c E a ta ma) (hg : Gl X "isinstance" := by rfl)
    (he : starEach [a, b] X.env = (false, eval a X.env) :: starEach [b] X.env := by rfl) (he2 : starEach [b] X.env = (false, eval b X.env) :: starEach [] X.env := by rfl) (hpl : (backTo pos (starEach [b] X.env)).any (·.1) = false := by rfl) :
    EEm X K c E (.Call (.Name "isinstance" p) [a, b] [] pos) (tCB (rIsi K) (tCons ta (tCons (tC cv) tNil))) (mIsA it ma) := by
  obtain ⟨rfl, pa, sa⟩ := ha
  exact ⟨rfl, pe_callB call_isi hg hm (by decide +kernel) (pa_cons pa (pa_cons hp pa_nil he2) he) (by decide) (by decide) he hpl, sim_isA hc ht hI hG0 sa⟩
end
end Mir

set_option Elab.async false
set_option linter.all false
set_option maxRecDepth 100000
set_option maxHeartbeats 4000000
/-! targets that change objects: o.f, x[i] in a tuple of targets -/
namespace L2
open PySem PySem.Spec PyProof.Rows
def gFld (K : PySem.W.Frag) (ta : TE) (f : Str) : TG := fun v σ H Q => ta σ H fun x H1 => ∃ a C dx fs, x = .ref a ∧ H1 a = some (.ins C dx fs) ∧ Cls K C ∧ NoAttr K C f ∧ fs.length < 1000 ∧ Q σ (upd H1 a (.ins C dx (putF f v fs)))
theorem pg_fld {X : Cx} {o : Expr} {ta : TE} {f : Str} {pos : Pos} (ho : PE X o ta) : PG X (.Attribute o f pos) (gFld X.K ta f) := by
  refine ⟨fun pins s σ H v u Q I r h => ?_⟩
  rw [assign_Attribute]
  refine wpAny_bind (wpAny_holding (thn (ho.run pins s σ H _ I h) fun ov s1 ⟨x, H1, I1, rx, a, C, dx, fs, ex, ea, c, n, l, q⟩ => ?_))
  subst ex
  obtain rfl : ov = Value.ref a := rx
  refine wpAny_bind (wpAny_standAt (wpAny_bind (wpAny_holding (setattr_ok I1 ea c n l r fun s3 I3 => ?_))))
  exact wpAny_release ⟨σ, _, I3, q⟩
end L2
namespace Mir
open PySem PySem.Spec PyProof.Rows L2 PySem.W
abbrev TgE := Val → EM Unit
def PostT (K : PySem.W.Frag) (c : Ctx) (B : Bas) (G : Hp) (ι : List Addr) (r : RE Unit) (Q : L2.St → Hp → Prop) : Prop := match r with
  | .ok _ ρ' h' => ∀ G' ι' H' σ', Hle G G' → Ile ι ι' → St K c B G' ι' h' H' ρ' σ' → Q σ' H'
  | _ => False
def SimT (K : PySem.W.Frag) (c : Ctx) (g : TG) (m : TgE) : Prop := ∀ B G ι h H ρ σ v x Q, St K c B G ι h H ρ σ → VR K c G ι v x → PostT K c B G ι (m v ρ h) Q → g x σ H Q
def SimTs (K : PySem.W.Frag) (c : Ctx) (g : TGs) (m : List Val → EM Unit) : Prop := ∀ B G ι h H ρ σ vs xs Q, St K c B G ι h H ρ σ → VRs K c G ι vs xs → PostT K c B G ι (m vs ρ h) Q → g xs σ H Q
section
variable {K : PySem.W.Frag} {c : Ctx} {B : Bas} {G G' : Hp} {ι ι' : List Addr} {h h' : MHp} {H H' : Hp} {ρ ρ' : MEnv} {σ σ' : L2.St} {E : WX} {ta tb : TE} {ma mb : EM Val}
theorem PostT.mono {r : RE Unit} {Q : L2.St → Hp → Prop} (hG : Hle G G') (hι : Ile ι ι') (p : PostT K c B G ι r Q) : PostT K c B G' ι' r Q := by
  cases r with
  | ok u ρ' h' => exact fun G2 ι2 H2 σ2 a b s => p G2 ι2 H2 σ2 (hG.trans a) (hι.trans b) s
  | exc C fs ρ' h' => exact p
  | fail => exact p
theorem Sim.bindT {α β : Type} {R : RelT α β} {te : L2.St → Hp → (β → Hp → Prop) → Prop} {m : EM α} {f : α → EM Unit} {Q : L2.St → Hp → Prop} {k : β → Hp → Prop} (hm : Sim K c R E te m) (hs : St K c B G ι h H ρ σ)
    (hp : PostT K c B G ι (EM.bind m f ρ h) Q)
    (hk : ∀ G' ι' h' H' ρ' v x, Hle G G' → Ile ι ι' → St K c B G' ι' h' H' ρ' σ → R G' ι' v x → PostT K c B G' ι' (f v ρ' h') Q → k x H') : te σ H k := by
  refine hm B G ι h H ρ σ k hs ?_
  unfold EM.bind at hp
  cases e : m ρ h with
  | ok v ρ' h' =>
    rw [e] at hp
    exact fun G' ι' H' x a b s r => hk G' ι' h' H' ρ' v x a b s r (hp.mono a b)
  | exc C fs ρ' h' => rw [e] at hp; exact hp.elim
  | fail => rw [e] at hp; exact hp.elim
/-! a name -/
def teName (i : Nat) : TgE := fun v ρ h => .ok () (ρ.set i (.val v)) h
theorem st_name (i : Nat) : SimT K c (gName i) (teName i) := fun B G ι h H ρ σ v x Q hs r p => p G ι H _ (Hle.refl _) (Ile.refl _) (hs.set r)
/-! o.f -/
def putFld (C n : Nat) (v x : Val) : EM Unit := fun ρ h => match x with
  | .ref a => (match insAt C (.ref a) h with
    | some fs => if fs.length < 1000 then .ok () ρ (h.set a (.ins C (putFM n v fs))) else .fail
    | none => .fail)
  | _ => .fail
def teFld (C n : Nat) (mo : EM Val) : TgE := fun v => EM.bind mo fun x => putFld C n v x
theorem st_fld (hi : Inj c) {C n : Nat} (cl : Cls K (c.CT C)) (na : NoAttr K (c.CT C) (c.nm n)) (ho : Sim K c (RV K c) E ta ma) : SimT K c (gFld K ta (c.nm n)) (teFld C n ma) := by
  intro B G ι h H ρ σ v y Q hs rv hp
  unfold gFld
  refine Sim.bindT ho hs hp fun G2 ι2 h2 H2 ρ2 w x a2 b2 s2 r2 p2 => ?_
  unfold putFld at p2
  cases w with
  | ref a =>
    dsimp only at p2
    cases e : insAt C (.ref a) h2 with
    | none => rw [e] at p2; exact p2.elim
    | some fs =>
      rw [e] at p2
      dsimp only at p2
      split at p2
      · rename_i hlen
        obtain ⟨a', p, dx, xs, ev, rfl, hp', ea, hH, rf⟩ := insAt_ok s2.st r2 e
        cases ev
        refine ⟨p, c.CT C, dx, xs, rfl, hH, cl, na, by rw [← rf.length]; exact hlen, ?_⟩
        exact p2 G2 ι2 _ σ (Hle.refl _) (Ile.refl _) (s2.putAt hp' ⟨dx, _, rfl, rf.put hi (rv.mono a2 b2)⟩)
      · exact p2.elim
  | _ => exact p2.elim
/-! x[i], x a name that holds a list -/
def putIx (i : Nat) (v k : Val) (vs : List Val) : EM Unit := match k with
  | .int k => (match ixN vs.length k with
    | some j => putCont i (.lst (vs.set j v))
    | none => fun _ _ => .fail)
  | _ => fun _ _ => .fail
def teSub (i : Nat) (me : EM Val) : TgE := fun v => EM.bind (getL i) fun _ => EM.bind me fun k => EM.bind (getL i) fun vs => putIx i v k vs
theorem getLT (S : St K c B G ι h H ρ σ) {i : Nat} {f : List Val → EM Unit} {Q : L2.St → Hp → Prop} (p : PostT K c B G ι (EM.bind (Mir.getL i) f ρ h) Q) :
    ∃ a vs xs, Mir.cont ρ h i = some (.lst vs) ∧ σ[i]? = some (some (.ref a)) ∧ H a = some (.lst xs) ∧ VRs K c G ι vs xs ∧ PostT K c B G ι (f vs ρ h) Q := by
  unfold Mir.getL EM.bind Mir.getCont at p
  cases e : Mir.cont ρ h i with
  | none => rw [e] at p; exact p.elim
  | some v =>
    rw [e] at p
    dsimp only at p
    by_cases hz : isCont v = true
    · rw [if_pos hz] at p
      cases v with
      | lst vs =>
        obtain ⟨x, ex, rx⟩ := S.cont e hz
        obtain ⟨a, xs, rfl, hp, r⟩ := rx
        exact ⟨a, vs, xs, rfl, ex, hp, r, p⟩
      | _ => exact p.elim
    · rw [if_neg hz] at p; exact p.elim
theorem st_sub {i : Nat} (he : Sim K c (RV K c) E tb mb) : SimT K c (gSub (tVar i) tb rSetL) (teSub i mb) := by
  intro B G ι h H ρ σ v y Q hs rv hp
  obtain ⟨a0, vs0, xs0, ec0, ex0, hx0, _, hp⟩ := getLT hs hp
  refine ⟨_, ex0, ?_⟩
  refine Sim.bindT he hs hp fun G2 ι2 h2 H2 ρ2 k u a2 b2 s2 r2 p2 => ?_
  obtain ⟨a', vs, xs, ec, ex, hx, rx, p3⟩ := getLT s2 p2
  rw [ex0] at ex; cases ex
  unfold putIx at p3
  cases k with
  | int k =>
    dsimp only at p3
    cases ej : ixN vs.length k with
    | none => rw [ej] at p3; exact p3.elim
    | some j =>
      rw [ej] at p3
      dsimp only at p3
      cases ep : putCont i (.lst (vs.set j v)) ρ2 h2 with
      | ok q ρ' h' =>
        rw [ep] at p3
        obtain ⟨p, o, e1, ho, hc, put⟩ := s2.put ep
        rw [ex0] at e1; cases e1
        cases r2
        refine ⟨a0, xs, k, j, rfl, rfl, hx, by rw [← rx.length]; exact ej, ?_⟩
        exact p3 G2 ι2 _ σ (Hle.refl _) (Ile.refl _) (put _ ⟨_, rfl, rx.set (rv.mono a2 b2) j⟩)
      | exc _ _ _ _ => rw [ep] at p3; exact p3.elim
      | fail => rw [ep] at p3; exact p3.elim
  | _ => exact p3.elim
/-! several -/
def teNil : List Val → EM Unit := fun vs ρ h => match vs with
  | [] => .ok () ρ h
  | _ => .fail
def teCons (a : TgE) (b : List Val → EM Unit) : List Val → EM Unit := fun vs => match vs with
  | v :: r => EM.bind (a v) fun _ => b r
  | [] => fun _ _ => .fail
def teTup (n : Nat) (b : List Val → EM Unit) : TgE := fun v => match v with
  | .tup vs => if vs.length = n then b vs else fun _ _ => .fail
  | _ => fun _ _ => .fail
theorem sts_nil : SimTs K c gNil teNil := by
  intro B G ι h H ρ σ vs xs Q hs r p
  cases r with
  | nil => exact ⟨rfl, p G ι H σ (Hle.refl _) (Ile.refl _) hs⟩
  | cons _ _ => exact p.elim
theorem sts_cons {g : TG} {gs : TGs} {a : TgE} {b : List Val → EM Unit} (h1 : SimT K c g a) (h2 : SimTs K c gs b) : SimTs K c (gCons g gs) (teCons a b) := by
  intro B G ι h H ρ σ vs xs Q hs r p
  cases r with
  | nil => exact p.elim
  | @cons v x vs xs rv rs =>
    refine ⟨x, xs, rfl, h1 B G ι h H ρ σ v x _ hs rv ?_⟩
    have p' : PostT K c B G ι (EM.bind (a v) (fun _ => b vs) ρ h) Q := p
    unfold EM.bind at p'
    cases e : a v ρ h with
    | ok u ρ' h' =>
      rw [e] at p'
      exact fun G' ι' H' σ' x y s => h2 B G' ι' h' H' ρ' σ' vs xs Q s (rs.mono x y) (p'.mono x y)
    | exc _ _ _ _ => rw [e] at p'; exact p'.elim
    | fail => rw [e] at p'; exact p'.elim
theorem st_tup {n : Nat} {gs : TGs} {b : List Val → EM Unit} (h2 : SimTs K c gs b) : SimT K c (gTup K n gs) (teTup n b) := by
  intro B G ι h H ρ σ v x Q hs r p
  cases v with
  | tup vs =>
    obtain ⟨a, xs, rfl, hx, rs⟩ := r.tupE
    unfold teTup at p
    dsimp only at p
    split at p
    · rename_i hl
      exact ⟨a, xs, rfl, hs.st.le.sqT hx, by rw [← rs.length]; exact hl, h2 B G ι h H ρ σ vs xs Q hs rs p⟩
    · exact p.elim
  | _ => exact p.elim
def sAsgE (tg : TgE) (m : EM Val) : SM := EM.bind m fun v => EM.bind (noexc (tg v)) fun _ => EM.pure .next
theorem ss_asgE {te : TE} {m : EM Val} {g : TG} {tg : TgE} (hm : Sim K c (RV K c) E te m) (hg : SimT K c g tg) : SimS K c E (tAsg te g) (sAsgE tg m) := by
  intro B G ι h H ρ σ D hs hp
  refine hm.bindS hs hp fun G' ι' h' H' ρ' v x a b s r p => ?_
  refine hg B G' ι' h' H' ρ' σ v x _ s r ?_
  unfold EM.bind noexc at p
  cases e : tg v ρ' h' with
  | ok u ρ2 h2 => rw [e] at p; exact p
  | exc C fs ρ2 h2 => rw [e] at p; exact p.elim
  | fail => rw [e] at p; exact p.elim
end
/-! bundled -/
structure ETg (X : Cx) (K : PySem.W.Frag) (c : Ctx) (target : Expr) (g : TG) (tg : TgE) : Prop where
  hK : X.K = K
  p : PG X target g
  s : SimT K c g tg
structure ETgs (X : Cx) (K : PySem.W.Frag) (c : Ctx) (ts : List Expr) (g : TGs) (tg : List Val → EM Unit) : Prop where
  hK : X.K = K
  p : PGs X ts g
  s : SimTs K c g tg
section
variable {X : Cx} {K : PySem.W.Frag} {c : Ctx} {E : WX} {pos p p2 tpos : Pos} {a b e o t : Expr} {ts : List Expr} {ta tb te : TE} {ma mb me : EM Val} {g : TG} {tg : TgE} {gs : TGs} {tgs : List Val → EM Unit}
theorem etg_name (i : Nat) {y : Str} (hN : X.N.Nodup) (hK : X.K = K := by rfl) (hi : X.N[i]? = some y := by rfl) (hl : X.env.scope.names.lookup y = some .local := by rfl) : ETg X K c (.Name y pos) (gName i) (teName i) := ⟨hK, pg_name hN hi (.inl hl) (.inr hl), st_name i⟩
theorem etg_fld {C n : Nat} {f : Str} (hi : Inj c) (cl : Cls K (c.CT C)) (na : NoAttr K (c.CT C) f) (hf : c.nm n = f) (ho : EEm X K c E o ta ma) : ETg X K c (.Attribute o f pos) (gFld K ta f) (teFld C n ma) := by
  subst hf
  obtain ⟨rfl, pa, sa⟩ := ho
  exact ⟨rfl, pg_fld pa, st_fld hi cl na sa⟩
theorem etg_sub (i : Nat) {y : Str} (he : EEm X K c E e te me) (hN : X.N[i]? = some y := by rfl) (hvis : Vis X.env.scope y := by first | exact Or.inl rfl | exact Or.inr (Or.inl rfl) | exact Or.inr (Or.inr rfl)) (hd : (y == ("__debug__" : Str)) = false := by decide) (hcd : (y == ("__classdict__" : Str)) = false := by decide)
    (ha : ∀ v, assign (.Subscript (.Name y p2) e tpos) X.env v = (do
      let ov ← holding [v] (eval (.Name y p2) X.env)
      let iv ← holding [v, ov] (eval e X.env)
      standAt tpos
      holding [v, ov, iv] (setItem ov iv v)
      release [v, ov, iv] []) := by intro _; rfl) : ETg X K c (.Subscript (.Name y p2) e tpos) (gSub (tVar i) te rSetL) (teSub i me) := by
  obtain ⟨rfl, pe, se⟩ := he
  exact ⟨rfl, pg_sub (pv i hN hvis hd hcd) pe set_list ha, st_sub se⟩
theorem etgs_nil (hK : X.K = K := by rfl) : ETgs X K c [] gNil teNil := ⟨hK, pgs_nil, sts_nil⟩
theorem etgs_cons (h1 : ETg X K c t g tg) (h2 : ETgs X K c ts gs tgs) (hs : (assignEach (t :: ts) X.env).map (·.2) = assign t X.env :: (assignEach ts X.env).map (·.2) := by rfl) : ETgs X K c (t :: ts) (gCons g gs) (teCons tg tgs) := ⟨h1.hK, pgs_cons h1.p h2.p hs, sts_cons h1.s h2.s⟩
theorem etg_tup {k n : Nat} (hc : X.calm = true) (h : ETgs X K c ts gs tgs) (hn : (assignEach ts X.env).length = n := by rfl) (hst : (assignEach ts X.env).findIdx? (·.1) = none := by rfl) : ETg X K c (.Tuple ts k pos) (gTup K n gs) (teTup n tgs) := by
  obtain ⟨rfl, p1, s1⟩ := h
  exact ⟨rfl, pg_tup hc p1 hn hst, st_tup s1⟩
theorem sm_asgE (ha : EEm X K c E a ta ma) (hg : ETg X K c t g tg) (hs : swapsWithSole [t] a pos.line X.env = pure false := by rfl) (hw : swappedStores [t] a X.env = pure none := by rfl) (h1 : (assignEach [t] X.env).map (·.2) = [assign t X.env] := by rfl) : ESm X K c E (.Assign [t] a pos) (tAsg ta g) (sAsgE tg ma) := ⟨ha.hK, ps_asg ha.p hg.p hs hw h1, ss_asgE ha.s hg.s⟩
end
end Mir

set_option linter.all false
set_option Elab.async false
set_option maxRecDepth 100000
set_option maxHeartbeats 4000000
namespace Mir
open PySem PySem.Spec PyProof.Rows L2 PySem.W
/-- what the law's head asks of its def, with no ctx in sight -/
def spLaw (K : PySem.W.Frag) : Sp := fun vs H Q E => ∃ (a : Addr) (ns : List Int), vs = [.ref a] ∧ ns.length ≤ 63 ∧ SqL K H a (ns.map V.int) ∧ Q = (fun v _ => v = .bl true) ∧ E = fun _ _ _ => False
/-- the law's head where the written part, the ctx (addresses of classes) and the mirror's promise are found inside -/
theorem walkE {l : PySem.W.OpenLaw} {q : Program} {loose : List Str} {XP : (Str → Option Value) → Heap → Prop} {YP : World → Heap → Prop} {d : DefRec} {K : Params → PySem.W.Frag} {k : Nat} {m : List Val → MHp → RE Val}
    (hn : l.most = some 63) (hdf : d.params.defaults = []) (hk : Room k callerA)
    (hY : ∀ (w : World) (h : Heap), YP w h → (K w.params).In h)
    (F : ∀ (w : World) (mg : Str → Option Value) (fa : Addr) (h : Heap), (K w.params).In h → h.Ns mainGlobals mg → mg d.name = some (.ref fa) →
      ∃ (c : Ctx) (fd : FuncData), (∀ (s : Shared) (u : Value), BindsTo s fd ⟨[u], []⟩ [("script", u)]) ∧ ∀ base : Heap, (K w.params).In base → base.Ns mainGlobals mg → FnOk l.prog w (K w.params) mg base (L2.CX l.prog w) k fa fd ["script"] (spM (K w.params) c 1 m))
    (hm : ∀ ns : List Int, ns.length ≤ 63 → ∃ ρ h', m [.fz (ns.map .int)] [] = .ok (.bl true) ρ h') :
    PySem.W.WalkO q loose XP YP l.row.toRowW d [] (fun f vs => PySem.call f vs) := by
  refine L2.walk_of (n := 63) (k := k) (x := "script") (CX := fun w => L2.CX l.prog w) (sp := fun w => spLaw (K w.params)) hn (by decide) hdf hk hY ?_ (fun w H a ns hl hO hS => ⟨a, ns, rfl, hl, hS, rfl, rfl⟩) ?_
  · intro w mg fa h X G hf
    obtain ⟨c, fd, hb, hF⟩ := F w mg fa h X G hf
    refine ⟨fd, hb, fun base B1 B2 => (hF base B1 B2).imp ?_⟩
    rintro vs H Q E ⟨a, ns, rfl, hl, hS, rfl, rfl⟩
    obtain ⟨ρ, h', e⟩ := hm ns hl
    refine ⟨H, [], [], [.fz (ns.map .int)], rfl, ⟨Hle.refl _, rfl, .nil, fun _ h => absurd h (List.not_mem_nil), fun i p cl h => by simp at h⟩, .cons (.fz hS VRs.ints) .nil, ?_⟩
    rw [e]
    intro G' ι' H' x _ _ _ _ _ _ r
    exact r.blE
  · intro w H s e s' z
    obtain ⟨a, B, H', cls, d, _, _, _, _, _, _, _, z⟩ := z
    exact z
/-- how the arguments of a def over __class__ bind (no defaults) -/
theorem FunK.binds {K : PySem.W.Frag} {prog : Program} {mg : Str → Option Value} {x qual : Str} {st : Stmt} {f D : Addr} {fd : FuncData} {ps : List Str} (F : FunK K prog mg x qual st f D fd)
    (h : ∀ (kV doc pm : Value) (an : Option Addr) (cdv ct : Value) (cc : Addr) (us : List Value), us.length = ps.length → bindArgs (ksFn x qual (defArgs st) (defBody st) (defScope st) .none kV doc pm an cdv ct cc) ⟨us, []⟩ = pure (ps.zip us)) : Binds K fd ps [] := by
  obtain ⟨oc, od, kV, doc, pm, an, ct, osl, cda, cc, rfl, -, -, -, -⟩ := F.ex
  exact .all (h kV doc pm an (.ref cda) ct cc)
end Mir

set_option linter.all false
set_option Elab.async false
set_option maxRecDepth 100000
set_option maxHeartbeats 4000000
namespace Mir
open PySem PySem.Spec PyProof.Rows L2 PySem.W
/-- out of fuel: nothing is promised -/
def mNo : List Val → MHp → RE Val := fun _ _ => .fail
theorem spM_no {K : PySem.W.Frag} {c : Ctx} {n : Nat} {vs : List V} {H : Hp} {Q : VK} {E : XK} (h : spM K c n mNo vs H Q E) : False := by
  obtain ⟨G, ι, h, avs, hl, S0, r, p⟩ := h
  exact p
theorem fn_no {P : Program} {w : World} {K : PySem.W.Frag} {mg : Str → Option Value} {base : Heap} {c : Ctx} {CX : CXT} {k n : Nat} {f : Addr} {fd : FuncData} {ps : List Str} : FnOk P w K mg base CX k f fd ps (spM K c n mNo) :=
  ⟨fun _ _ _ _ h => (spM_no h).elim, fun _ _ _ _ _ _ _ _ _ _ _ _ _ h => (spM_no h).elim⟩
/-- a def that calls itself: fuel by levels -/
theorem Dn.fuel {P : Program} {w : World} {K : PySem.W.Frag} {mg : Str → Option Value} {base : Heap} {c : Ctx} {x : Str} {k n : Nat} {m : Nat → List Val → MHp → RE Val} {f : Addr} {fd : FuncData} {ps : List Str} (h0 : m 0 = mNo)
    (hm : mg x = some (.ref f)) (hk : PySem.W.keepIn K (.ref f) = true) (hb : Binds K fd ps []) (len : ∀ d vs h, vs.length ≠ n → m (d + 1) vs h = .fail)
    (F : ∀ d, Dn P w K mg base c x (k + d) n [] [] (m d) → FnOk P w K mg base (L2.CX P w) (k + d + 1) f fd ps (spM K c n (m (d + 1)))) : ∀ d, Dn P w K mg base c x (k + d) n [] [] (m d)
  | 0 => h0 ▸ .mk0 fn_no hm hk hb fun _ _ _ => rfl
  | d + 1 => .mk0 (F d (Dn.fuel h0 hm hk hb len F d)) hm hk hb (len d)
end Mir

set_option linter.all false
set_option Elab.async false
set_option maxRecDepth 100000
set_option maxHeartbeats 4000000
namespace Mir
open PySem PySem.Spec PyProof.Rows L2 PySem.W
/-- isinstance against a built-in class: built-in classes by the kit's table, the own classes named are none of it -/
def isTab (T : String) (own : List Nat) : String ⊕ Nat → Option Bool
  | .inl S => kitB S T
  | .inr C => if own.contains C then some false else none
theorem isTab_ok {K : PySem.W.Frag} {c : Ctx} {T : String} {own : List Nat} (h : ∀ C ∈ own, kitOne K (.ref (c.CT C)) (.type T) = some false) : ItOk K c (.type T) (isTab T own) := by
  intro t b e
  cases t with
  | inl S => exact kit_ty e
  | inr C =>
    unfold isTab at e
    simp only at e
    split at e
    · rename_i hc
      cases e
      exact h C (by simpa using hc)
    · cases e
theorem isTab_own {T : String} {own : List Nat} {C : Nat} {b : Bool} (e : isTab T own (.inr C) = some b) : C ∈ own := by
  unfold isTab at e
  simp only at e
  split at e
  · rename_i hc
    simpa using hc
  · cases e
section
variable {X : Cx} {K : PySem.W.Frag} {c : Ctx} {E : WX} {pos p : Pos} {a : Expr} {ta : TE} {ma : EM Val}
theorem pm_isT {T : Str} {n : String} {own : List Nat} {p2 : Pos} (hm : X.mg "isinstance" = none) (hmT : X.mg T = none) (hG0 : InsG K) (hI : ∀ C ∈ own, InsTy K (c.CT C)) (hk : ∀ C ∈ own, kitOne K (.ref (c.CT C)) (.type n) = some false) (ha : EEm X K c E a ta ma) (hvT : bootBuiltins T = some (.type n) := by decide +kernel) (hg : Gl X "isinstance" := by rfl) (hgT : Gl X T := by rfl)
    (hnT : T ≠ "__name__" := by decide) (hdT : (T == ("__debug__" : Str)) = false := by decide)
    (he : starEach [a, .Name T p2] X.env = (false, eval a X.env) :: starEach [.Name T p2] X.env := by rfl) (he2 : starEach [.Name T p2] X.env = (false, eval (.Name T p2) X.env) :: starEach [] X.env := by rfl) (hpl : (backTo pos (starEach [.Name T p2] X.env)).any (·.1) = false := by rfl) :
    EEm X K c E (.Call (.Name "isinstance" p) [a, .Name T p2] [] pos) (tCB (rIsi K) (tCons ta (tCons (tC (.ty n)) tNil))) (mIsA (isTab n own) ma) :=
  pm_isA (T := T) (tc := tC (.ty n)) hm (pe_bltn (v := .ty n) hgT hmT hvT rfl hnT hdT) (.ty n) (isTab_ok hk) (fun C b e => hI C (isTab_own e)) hG0 ha hg he he2 hpl
end
end Mir

set_option linter.all false
set_option Elab.async false
set_option maxRecDepth 100000
set_option maxHeartbeats 4000000
namespace Mir
open PySem PySem.Spec PyProof.Rows L2 PySem.W
/-! classes: what a walk is handed of them, in one piece each -/
/-- a field f (number n) of the objects of class C -/
structure FldD (K : PySem.W.Frag) (c : Ctx) (C n : Nat) (f : Str) : Prop where
  hi : Inj c
  cl : Cls K (c.CT C)
  na : NoAttr K (c.CT C) f
  nm : c.nm n = f
structure MethD (P : Program) (w : World) (K : PySem.W.Frag) (mg : Str → Option Value) (base : Heap) (c : Ctx) (C n : Nat) (f : Str) (k j : Nat) (dv : List Val) (dvs : List V) (m : List Val → MHp → RE Val) : Prop where
  hi : Inj c
  cl : Cls K (c.CT C)
  nm : c.nm n = f
  ex : ∃ g, Meth K (c.CT C) f g ∧ Fn P w K mg base c g k j dv dvs m
structure PropD (P : Program) (w : World) (K : PySem.W.Frag) (mg : Str → Option Value) (base : Heap) (c : Ctx) (C : Nat) (f : Str) (k : Nat) (m : List Val → MHp → RE Val) : Prop where
  cl : Cls K (c.CT C)
  ex : ∃ q g, PropOf K (c.CT C) f q g ∧ Fn P w K mg base c g k 1 [] [] m
structure MakeD (P : Program) (w : World) (K : PySem.W.Frag) (mg : Str → Option Value) (base : Heap) (c : Ctx) (x : Str) (C : Nat) (k j : Nat) (dv : List Val) (dvs : List V) (m : List Val → MHp → RE Val) : Prop where
  at_ : mg x = some (.ref (c.CT C))
  ex : ∃ g, Mk K (c.CT C) g ∧ Fn P w K mg base c g k j dv dvs m
section
variable {X : Cx} {K : PySem.W.Frag} {c : Ctx} {E : WX} {pos p apos : Pos} {o e : Expr} {es : List Expr} {x : Str} {tr : TA} {mr : EM (List Val)} {ta tb : TE} {ma mb : EM Val}
theorem pm_fldD {C n : Nat} {f : Str} (D : FldD K c C n f) (ha : EEm X K c E o ta ma) (hb : attributeBase o f X.env (eval o X.env) = eval o X.env := by rfl) : EEm X K c E (.Attribute o f pos) (tFld K ta f) (mFld C n ma) := pm_fld D.hi D.cl D.na D.nm ha hb
theorem sm_fldSetD {C n : Nat} {f : Str} {p' : Pos} (D : FldD K c C n f) (ho : EEm X K c E o ta ma) (hv : EEm X K c E e tb mb) (hs : swapsWith e (some (.Attribute o f p')) pos.line X.env = pure false := by rfl) :
    ESm X K c E (.Assign [.Attribute o f p'] e pos) (sFld K ta tb f) (sFldSet C n ma mb) := sm_fldSet D.hi D.cl D.na D.nm ho hv hs
theorem etg_fldD {C n : Nat} {f : Str} (D : FldD K c C n f) (ho : EEm X K c E o ta ma) : ETg X K c (.Attribute o f pos) (gFld K ta f) (teFld C n ma) := etg_fld D.hi D.cl D.na D.nm ho
theorem pm_propD {C k k' : Nat} {f : Str} {m : List Val → MHp → RE Val} (D : PropD X.prog X.w X.K X.mg X.base c C f k m) (hr : Room k' X.A) (ha : EEm X K c E o ta ma) (hk : k + 1 ≤ k' := by decide)
    (hb : attributeBase o f X.env (eval o X.env) = eval o X.env := by rfl) : EEm X K c E (.Attribute o f pos) (tProp (c.CT C) (spM K c 1 m) [] (fun _ _ _ => False) ta) (mProp C m ma) := by
  obtain ⟨cl, q, g, hp, F⟩ := D
  have e := ha.hK
  subst e
  exact pm_prop F cl hp hr ha hk hb
theorem pm_methD {C n k k' j : Nat} {f : Str} {m : List Val → MHp → RE Val} {dv : List Val} {dvs : List V} {pl : Sem Bool} (D : MethD X.prog X.w X.K X.mg X.base c C n f k j dv dvs m) (hr : Room k' X.A) (tk : Takes X E) (ha : EEm X K c E o ta ma) (hra : EAm X K c E (e :: es) tr mr) (hk : k ≤ k' := by decide)
    (hst : starEach (e :: es) X.env = (false, eval e X.env) :: starEach es X.env := by rfl) (hpl : (backTo pos (starEach es X.env)).any (·.1) = false := by rfl)
    (ht : eval (.Call (.Attribute o f apos) (e :: es) [] pos) X.env = (do
      let ov ← eval o X.env
      standAt apos.atName
      let (f, first) ← holding [ov] (getMethod ov f pl)
      callWith pos f first (backTo pos (starEach (e :: es) X.env)) (backToKw pos (keywordEach [] X.env))) := by rfl) :
    EEm X K c E (.Call (.Attribute o f apos) (e :: es) [] pos) (tMethSD (c.CT C) f (spM K c j m) dvs (WE E) ta tr) (mMeth C n m dv ma mr) := by
  obtain ⟨hi, cl, nm, g, hm, F⟩ := D
  have e := ha.hK
  subst e
  exact pm_meth F hi cl hm nm hr tk ha hra hk hst hpl ht
theorem pm_methD0 {C n k k' j : Nat} {f : Str} {m : List Val → MHp → RE Val} {dv : List Val} {dvs : List V} {pl : Sem Bool} (D : MethD X.prog X.w X.K X.mg X.base c C n f k j dv dvs m) (hr : Room k' X.A) (tk : Takes X E) (ha : EEm X K c E o ta ma) (hk : k ≤ k' := by decide)
    (ht : eval (.Call (.Attribute o f apos) [] [] pos) X.env = (do
      let ov ← eval o X.env
      standAt apos.atName
      let (f, first) ← holding [ov] (getMethod ov f pl)
      callWith pos f first (backTo pos (starEach [] X.env)) (backToKw pos (keywordEach [] X.env))) := by rfl) :
    EEm X K c E (.Call (.Attribute o f apos) [] [] pos) (tMethSD (c.CT C) f (spM K c j m) dvs (WE E) ta tNil) (mMeth C n m dv ma mNil) := by
  obtain ⟨hi, cl, nm, g, hm, F⟩ := D
  have e := ha.hK
  subst e
  exact pm_meth0 F hi cl hm nm hr tk ha hk ht
theorem pm_makeD {C k k' j : Nat} {m : List Val → MHp → RE Val} {dv : List Val} {dvs : List V} (D : MakeD X.prog X.w X.K X.mg X.base c x C k j dv dvs m) (hr : Room k' X.A) (tk : Takes X E) (hra : EAm X K c E (e :: es) tr mr) (hk : k + 1 ≤ k' := by decide)
    (hg : Gl X x := by rfl) (hdb : (x == ("__debug__" : Str)) = false := by decide) (he : starEach (e :: es) X.env = (false, eval e X.env) :: starEach es X.env := by rfl) (hpl : (backTo pos (starEach es X.env)).any (·.1) = false := by rfl) :
    EEm X K c E (.Call (.Name x p) (e :: es) [] pos) (tMakeSD (c.CT C) (spM K c j m) dvs (WE E) tr) (mMake C m dv mr) := by
  obtain ⟨hm, g, M, F⟩ := D
  have e := hra.hK
  subst e
  exact pm_make F M hm hr tk hra hk hg hdb he hpl
theorem pm_makeD0 {C k k' j : Nat} {m : List Val → MHp → RE Val} {dv : List Val} {dvs : List V} (D : MakeD X.prog X.w X.K X.mg X.base c x C k j dv dvs m) (hr : Room k' X.A) (tk : Takes X E) (hK : X.K = K := by rfl) (hk : k + 1 ≤ k' := by decide)
    (hg : Gl X x := by rfl) (hdb : (x == ("__debug__" : Str)) = false := by decide) :
    EEm X K c E (.Call (.Name x p) [] [] pos) (tMakeSD (c.CT C) (spM K c j m) dvs (WE E) tNil) (mMake C m dv mNil) := by
  obtain ⟨hm, g, M, F⟩ := D
  subst hK
  exact pm_make0 F M hm hr tk rfl hk hg hdb
end
/-- a method or a getter of the text, with its mirror -/
theorem Fn.mk0 {P : Program} {w : World} {K : PySem.W.Frag} {mg : Str → Option Value} {base : Heap} {c : Ctx} {k n : Nat} {m : List Val → MHp → RE Val} {f : Addr} {fd : FuncData} {ps : List Str}
    (F : FnOk P w K mg base (L2.CX P w) k f fd ps (spM K c n m)) (hb : Binds K fd ps []) (len : ∀ vs h, vs.length ≠ n → m vs h = .fail) : Fn P w K mg base c f k n [] [] m :=
  ⟨⟨fd, ps, [], hb, .nil, F⟩, fun _ _ => .nil, len⟩
theorem Fn.mkD {P : Program} {w : World} {K : PySem.W.Frag} {mg : Str → Option Value} {base : Heap} {c : Ctx} {k n : Nat} {m : List Val → MHp → RE Val} {f : Addr} {fd : FuncData} {ps : List Str} {dv : List Val} {dvs : List V}
    (F : FnOk P w K mg base (L2.CX P w) k f fd ps (spM K c n m)) (hb : ∃ ds, Vals dvs ds ∧ Binds K fd ps ds) (dr : ∀ G ι, VRs K c G ι dv dvs) (len : ∀ vs h, vs.length ≠ n → m vs h = .fail) : Fn P w K mg base c f k n dv dvs m := by
  obtain ⟨ds, hd, hb⟩ := hb
  exact ⟨⟨fd, ps, ds, hb, hd, F⟩, dr, len⟩
end Mir

set_option linter.all false
set_option Elab.async false
set_option maxRecDepth 100000
set_option maxHeartbeats 4000000
namespace Mir
open PySem PySem.Spec PyProof.Rows L2 PySem.W PySem.Calls
/-! own exceptions: what a walk is handed of them, in one piece each -/
structure ExD0 (P : Program) (w : World) (K : PySem.W.Frag) (mg : Str → Option Value) (base : Heap) (c : Ctx) (x : Str) (C k : Nat) (D : Addr) : Prop where
  oex : OexC K (c.CT C)
  sv : SupV K (c.CT C) D
  fn : ∃ fI fd ps, findIn K (.ref (c.CT C)) "__init__" = some (some (.ref fI)) ∧ typeIn K (.ref fI) = some (.type "function") ∧ FnOk P w K mg base (L2.CX P w) k fI fd ps (spG K D) ∧ Binds K fd ps []
  at_ : mg x = some (.ref (c.CT C))
structure ExD1 (P : Program) (w : World) (K : PySem.W.Frag) (mg : Str → Option Value) (base : Heap) (c : Ctx) (x : Str) (C n k : Nat) (f : Str) (D g Dg : Addr) : Prop where
  oex : OexC K (c.CT C)
  sf : SupF K (c.CT C) D g
  sv : SupV K (c.CT C) Dg
  no : findIn K (.ref (c.CT C)) f = some none
  nm : c.nm n = f
  fn : ∃ fI fd ps, findIn K (.ref (c.CT C)) "__init__" = some (some (.ref fI)) ∧ typeIn K (.ref fI) = some (.type "function") ∧ FnOk P w K mg base (L2.CX P w) k fI fd ps (spI K D g Dg f) ∧ Binds K fd ps []
  at_ : mg x = some (.ref (c.CT C))
/-- a field f (number n) of a caught exception of class C -/
structure XfD (K : PySem.W.Frag) (c : Ctx) (C n : Nat) (f : Str) : Prop where
  hi : Inj c
  xf : XfC K (c.CT C)
  no : findIn K (.ref (c.CT C)) f = some none
  nm : c.nm n = f
def subTab (l : List ((Nat × Nat) × Bool)) : Nat → Nat → Option Bool := fun C D => l.lookup (C, D)
theorem subTab_ok {K : PySem.W.Frag} {c : Ctx} {l : List ((Nat × Nat) × Bool)} (h : ∀ q ∈ l, exmOne K (.ref (c.CT q.1.1)) (.ref (c.CT q.1.2)) = some q.2) : SubOk K c (subTab l) := fun C D b e => by
  unfold subTab at e
  have m : ((C, D), b) ∈ l := by
    induction l with
    | nil => cases e
    | cons q l ih =>
      obtain ⟨k, v⟩ := q
      rw [List.lookup_cons] at e
      split at e
      · rename_i hk
        have := eq_of_beq hk
        cases e
        subst this
        exact List.mem_cons_self ..
      · exact List.mem_cons_of_mem _ (ih (fun q hq => h q (List.mem_cons_of_mem _ hq)) e)
  exact h _ m
section
variable {X : Cx} {K : PySem.W.Frag} {c : Ctx} {E : WX} {pos pos2 p p2 : Pos} {e : Expr} {x : Str} {tr : TA} {mr : EM (List Val)}
theorem ExD0.ex {C k : Nat} {D : Addr} (T : ExD0 X.prog X.w X.K X.mg X.base c x C k D) (hK : X.K = K) : Ex0 X K c x C k D := by
  subst hK
  exact ⟨T.oex, T.sv, T.fn, T.at_⟩
theorem ExD1.ex {C n k : Nat} {f : Str} {D g Dg : Addr} (T : ExD1 X.prog X.w X.K X.mg X.base c x C n k f D g Dg) (hK : X.K = K) : Ex1 X K c x C n k f D g Dg := by
  subst hK
  exact ⟨T.oex, T.sf, T.sv, T.no, T.nm, T.fn, T.at_⟩
theorem sm_raise0D {C k k' : Nat} {D : Addr} (T : ExD0 X.prog X.w X.K X.mg X.base c x C k D) (hc : X.calm = true) (tk : Takes X E) (hr : Room k' X.A) (ha : EAm X K c E [e] tr mr) (hk : k + 1 ≤ k' := by decide) (hg : Gl X x := by rfl) (hdb : (x == ("__debug__" : Str)) = false := by decide)
    (he : starEach [e] X.env = (false, eval e X.env) :: starEach [] X.env := by rfl) (hpl : (backTo pos (starEach [] X.env)).any (·.1) = false := by rfl) :
    ESm X K c E (.Raise (some (.Call (.Name x p) [e] [] pos)) none pos2) (fun _ σ H => tMkA (c.CT C) (spG K D) [] tr σ H fun cls d H' => E cls d σ H') (sRaise0 C mr) := sm_raise0 (T.ex ha.hK) hc tk hr ha hk hg hdb he hpl
theorem sm_raise1D {C n k k' : Nat} {f : Str} {D g Dg : Addr} (T : ExD1 X.prog X.w X.K X.mg X.base c x C n k f D g Dg) (hc : X.calm = true) (tk : Takes X E) (hr : Room k' X.A) (ha : EAm X K c E [e] tr mr) (hk : k + 1 ≤ k' := by decide) (hg : Gl X x := by rfl) (hdb : (x == ("__debug__" : Str)) = false := by decide)
    (he : starEach [e] X.env = (false, eval e X.env) :: starEach [] X.env := by rfl) (hpl : (backTo pos (starEach [] X.env)).any (·.1) = false := by rfl) :
    ESm X K c E (.Raise (some (.Call (.Name x p) [e] [] pos)) none pos2) (fun _ σ H => tMkA (c.CT C) (spI K D g Dg f) [] tr σ H fun cls d H' => E cls d σ H') (sRaise1 C n mr) := sm_raise1 (T.ex ha.hK) hc tk hr ha hk hg hdb he hpl
theorem ExD0.names {C k : Nat} {D : Addr} (T : ExD0 X.prog X.w X.K X.mg X.base c x C k D) (hg : Gl X x := by rfl) (hdb : (x == ("__debug__" : Str)) = false := by decide) : Names X x (.ref (c.CT C)) := ⟨hg, hdb, .inl T.at_⟩
theorem names_own {C : Nat} (h : X.mg x = some (.ref (c.CT C))) (hg : Gl X x := by rfl) (hdb : (x == ("__debug__" : Str)) = false := by decide) : Names X x (.ref (c.CT C)) := ⟨hg, hdb, .inl h⟩
theorem pm_xfD {C i n : Nat} {y f : Str} {ad : Addr} {oe : Obj} {cls : Value} {d : Option Addr} {pn : List (Addr × Obj)} (D : XfD K c C n f) (hz : Zc cls d oe) (hd : ∃ vs, oe.data = .fields vs)
    (hK : X.K = K := by rfl) (hN : X.N[i]? = some y := by rfl) (hvis : Vis X.env.scope y := by first | exact Or.inl rfl | exact Or.inr (Or.inl rfl) | exact Or.inr (Or.inr rfl)) (hdb : (y == ("__debug__" : Str)) = false := by decide) (hcd : (y == ("__classdict__" : Str)) = false := by decide)
    (hb : attributeBase (.Name y p) f X.env (eval (.Name y p) X.env) = eval (.Name y p) X.env := by rfl) :
    EEm (X.suite ad ((ad, oe) :: pn)) K (c.wx (some (ad, cls, d))) E (.Attribute (.Name y p) f pos) (tXf ad cls d (c.CT C) f (tVar i)) (mXf C i n) :=
  pm_xf (c := c.wx (some (ad, cls, d))) D.hi rfl D.xf D.no D.nm hz hd hK hN hvis hdb hcd hb
theorem takes_true {W : WX} {pn : List (Addr × Obj)} : Takes (X.tr pn fun _ _ => True) W := fun _ _ _ => trivial
theorem sm_tryD {sub : Nat → Nat → Option Bool} {body : List Stmt} {h₀ : ExceptHandler} {hds : List ExceptHandler} {l : List ClM} {hl : List HdM} {tb : WX → TS} {m : SM} (so : SubOk K c sub) (tk : Takes X E)
    (hb : ∀ (W : WX) (pn : List (Addr × Obj)) (xe : Value → Shared → Prop), Takes (X.tr pn xe) W → EBm (X.tr pn xe) K c W body (tb W) m) (hh : EHm X K c (h₀ :: hds) l hl) (hK : X.K = K := by rfl) (hs : X.stack = X.env :: X.outer := by rfl) (hf : X.env.frame = some X.env.locals := by rfl) :
    ESm X K c E (.Try body (h₀ :: hds) [] [] pos) (fun D σ H => tb (wMix K E D l) D σ H) (sTry sub m hl) := sm_try hK so hs hf tk hb (fun W => (hb W [] (fun _ _ => True) takes_true).s) hh
end
end Mir

set_option linter.all false
set_option Elab.async false
set_option maxRecDepth 100000
set_option maxHeartbeats 4000000
namespace Mir
open PySem PySem.Spec PyProof.Rows L2 PySem.W PySem.Calls
section
variable {P : Program} {w : World} {K : PySem.W.Frag} {mg : Str → Option Value} {base : Heap} {c : Mir.Ctx}
/-- fn_m for a def with defaults -/
theorem fn_mD {x qual : Str} {st : Stmt} {dvs : List V} {kws : List (Str × V)} {f : Addr} {fd : FuncData} {N ps : List Str} {k : Nat} {body : SM} (F : FunD K x qual (defArgs st) (defBody st) (defScope st) dvs kws f fd) (S : FnScope N ps (defScope st)) (hN : ps.length ≤ N.length)
    (hbody : ∀ (cdv : Value) (A : Around) (outer : List Env) (s : Shared) (H : Hp) (E : XK), Room k (A.deeper (envOfC qual (defScope st) s.heap.objs.size f cdv)) →
      PSsm (cxOf (L2.CX P w) P w K mg base N qual (defScope st) f cdv A outer s H E) c (fun cls d _ H => E cls d H) (defBody st) body) :
    FnOk P w K mg base (L2.CX P w) (k + 1) f fd ps (spM K c ps.length (mFun ps.length N.length body)) := by
  refine F.ok S (fun vs H Q E h => ?_) (fun cdv A outer s H vs Q E hr h => ?_)
  · obtain ⟨G, ι, h, avs, hl, _, r, _⟩ := h
    rw [← r.length]; exact hl
  · obtain ⟨G, ι, h, avs, hl, S0, r, p⟩ := h
    obtain ⟨t, hps, hsim⟩ := (hbody cdv A outer s H E hr).ex
    refine ⟨t, hps, ?_⟩
    have S1 := St.start (N := N) S0 r
    rw [hl] at S1
    refine hsim _ G ι h H _ _ _ S1 ?_
    unfold mFun at p
    rw [if_pos hl] at p
    have fr : ∀ {G' ι' h' H' ρ' σ'}, St K c ⟨G, ι, H⟩ G' ι' h' H' ρ' σ' → (∀ q ∈ ι', q ∈ ι ∨ H q = none) ∧ (∀ p o, H p = some o → p ∉ ι → H' p = some o) ∧ (∀ p o, G' p = some o → G p = some o ∨ H p = none) := fun S => ⟨S.b2, S.b1, S.b3⟩
    cases e : body (avs.map SV.val ++ List.replicate (N.length - ps.length) .un) h with
    | ok fl ρ' h' =>
      rw [e] at p
      cases fl with
      | next => exact fun G' ι' H' σ' a b S => p G' ι' H' .non a b (fr S).1 (fr S).2.1 (fr S).2.2 S.st .non
      | ret v => exact fun G' ι' H' σ' x a b S r => p G' ι' H' x a b (fr S).1 (fr S).2.1 (fr S).2.2 S.st r
      | brk => exact p.elim
      | cont => exact p.elim
    | exc C fs ρ' h' =>
      rw [e] at p
      exact fun G' ι' H' σ' cls d a b S r => p G' ι' H' cls d a b (fr S).1 (fr S).2.1 (fr S).2.2 S.st r
    | fail => rw [e] at p; exact p.elim
end
/-! names of attributes, told apart -/
def nmOf (l : List Str) (n : Nat) : Str := l.getD n ⟨Array.replicate (n + 100) 0⟩
theorem getD_lt {α : Type} {l : List α} {n : Nat} {d : α} (h : n < l.length) : l.getD n d = l[n] := by simp [List.getD, h]
theorem getD_ge {α : Type} {l : List α} {n : Nat} {d : α} (h : l.length ≤ n) : l.getD n d = d := by simp [List.getD, h]
theorem inj_of {c : Ctx} {l : List Str} (h : c.nm = nmOf l) (hn : l.Nodup) (hs : l.all (fun s => decide (s.cps.size < 100)) = true) : Inj c := by
  intro i j e
  rw [h] at e
  unfold nmOf at e
  have small : ∀ i (hi : i < l.length), l[i].cps.size < 100 := fun i hi => of_decide_eq_true (List.all_eq_true.1 hs _ (List.getElem_mem hi))
  have big : ∀ n, (⟨Array.replicate (n + 100) 0⟩ : Str).cps.size = n + 100 := fun n => by simp
  by_cases hi : i < l.length <;> by_cases hj : j < l.length
  · rw [getD_lt hi, getD_lt hj] at e
    rcases Nat.lt_trichotomy i j with q | q | q
    · exact absurd e (List.pairwise_iff_getElem.1 hn i j hi hj q)
    · exact q
    · exact absurd e.symm (List.pairwise_iff_getElem.1 hn j i hj hi q)
  · rw [getD_lt hi, getD_ge (by omega)] at e
    have := small i hi; rw [e, big] at this; omega
  · rw [getD_lt hj, getD_ge (by omega)] at e
    have := small j hj; rw [← e, big] at this; omega
  · rw [getD_ge (by omega), getD_ge (by omega)] at e
    have := congrArg (fun s : Str => s.cps.size) e
    simp only [big] at this
    omega
end Mir

set_option Elab.async false
set_option linter.all false
set_option maxRecDepth 100000
set_option maxHeartbeats 4000000
/-! What a mirror answers: a small calculus over the mirrors, exceptions too, with no program in sight -/
namespace Mir
universe u
open PySem L2
/-- simp does not look into what is tagged -/
@[reducible] def Tg {α : Sort u} (_ : α) : Type := Unit
abbrev XE := Nat → Fld → MEnv → MHp → Prop
abbrev XF := Nat → Fld → MHp → Prop
abbrev NoE : XE := fun _ _ _ _ => False
abbrev NoX : XF := fun _ _ _ => False
def Wp {α : Type} (m : EM α) (ρ : MEnv) (h : MHp) (E : XE) (Q : α → MEnv → MHp → Prop) [Inhabited (Tg (m, E, Q))] : Prop := match m ρ h with
  | .ok a ρ' h' => Q a ρ' h'
  | .exc C fs ρ' h' => E C fs ρ' h'
  | .fail => False
def WpG (r : RE Val) (X : XF) (Q : Val → MHp → Prop) [Inhabited (Tg (X, Q))] : Prop := match r with
  | .ok v _ h' => Q v h'
  | .exc C fs _ h' => X C fs h'
  | .fail => False
def WpF (r : RE Val) (Q : Val → MHp → Prop) : Prop := WpG r NoX Q
theorem Wp.mono {α : Type} {m : EM α} {ρ : MEnv} {h : MHp} {E : XE} {Q R : α → MEnv → MHp → Prop} (p : Wp m ρ h E Q) (k : ∀ a ρ' h', Q a ρ' h' → R a ρ' h') : Wp m ρ h E R := by
  unfold Wp at *; split at p
  · exact k _ _ _ p
  · exact p
  · exact p.elim
theorem Wp.monoE {α : Type} {m : EM α} {ρ : MEnv} {h : MHp} {E F : XE} {Q R : α → MEnv → MHp → Prop} (p : Wp m ρ h E Q) (x : ∀ C fs ρ' h', E C fs ρ' h' → F C fs ρ' h') (k : ∀ a ρ' h', Q a ρ' h' → R a ρ' h') : Wp m ρ h F R := by
  unfold Wp at *; split at p
  · exact k _ _ _ p
  · exact x _ _ _ _ p
  · exact p.elim
theorem Wp.iff {α : Type} {m : EM α} {ρ : MEnv} {h : MHp} {E : XE} {Q R : α → MEnv → MHp → Prop} (k : ∀ a ρ' h', Q a ρ' h' ↔ R a ρ' h') : Wp m ρ h E Q ↔ Wp m ρ h E R := ⟨fun p => p.mono fun a ρ' h' => (k a ρ' h').1, fun p => p.mono fun a ρ' h' => (k a ρ' h').2⟩
theorem Wp.noE {α : Type} {m : EM α} {ρ : MEnv} {h : MHp} {F : XE} {Q R : α → MEnv → MHp → Prop} (p : Wp m ρ h NoE Q) (k : ∀ a ρ' h', Q a ρ' h' → R a ρ' h') : Wp m ρ h F R := p.monoE (fun _ _ _ _ => False.elim) k
theorem WpG.mono {r : RE Val} {X : XF} {Q R : Val → MHp → Prop} (p : WpG r X Q) (k : ∀ a h', Q a h' → R a h') : WpG r X R := by
  unfold WpG at *; split at p
  · exact k _ _ p
  · exact p
  · exact p.elim
theorem WpG.monoE {r : RE Val} {X Y : XF} {Q R : Val → MHp → Prop} (p : WpG r X Q) (x : ∀ C fs h', X C fs h' → Y C fs h') (k : ∀ a h', Q a h' → R a h') : WpG r Y R := by
  unfold WpG at *; split at p
  · exact k _ _ p
  · exact x _ _ _ p
  · exact p.elim
theorem WpF.mono {r : RE Val} {Y : XF} {Q R : Val → MHp → Prop} (p : WpF r Q) (k : ∀ a h', Q a h' → R a h') : WpG r Y R := WpG.monoE p (fun _ _ _ => False.elim) k
theorem WpF.monoF {r : RE Val} {Q R : Val → MHp → Prop} (p : WpF r Q) (k : ∀ a h', Q a h' → R a h') : WpF r R := WpF.mono p k
theorem WpF.ex {r : RE Val} {Q : Val → MHp → Prop} (p : WpF r Q) : ∃ v ρ h', r = .ok v ρ h' ∧ Q v h' := by
  unfold WpF WpG at p; split at p
  · exact ⟨_, _, _, rfl, p⟩
  · exact p.elim
  · exact p.elim
theorem WpF.of {v : Val} {ρ : MEnv} {h' : MHp} {r : RE Val} {Q : Val → MHp → Prop} (e : r = .ok v ρ h') (q : Q v h') : WpF r Q := by
  subst e; exact q
/-- a value that must be there -/
def opt {α : Type} (o : Option α) (Q : α → Prop) [Inhabited (Tg Q)] : Prop := match o with
  | some a => Q a
  | none => False
@[simp] theorem opt_some {α : Type} {a : α} {Q : α → Prop} : opt (some a) Q ↔ Q a := Iff.rfl
@[simp] theorem opt_none {α : Type} {Q : α → Prop} : opt none Q ↔ False := Iff.rfl
@[simp] theorem opt_ite {α : Type} {c : Prop} [Decidable c] {a : α} {Q : α → Prop} : opt (if c then some a else none) Q ↔ c ∧ Q a := by by_cases e : c <;> simp [e]
@[simp] theorem opt_map {α β : Type} {o : Option α} {f : α → β} {Q : β → Prop} : opt (o.map f) Q ↔ opt o fun a => Q (f a) := by cases o <;> rfl
@[simp] theorem opt_bind {α β : Type} {o : Option α} {f : α → Option β} {Q : β → Prop} : opt (o.bind f) Q ↔ opt o fun a => opt (f a) Q := by cases o <;> rfl
theorem opt_iff {α : Type} {o : Option α} {Q : α → Prop} : opt o Q ↔ ∃ a, o = some a ∧ Q a := by cases o <;> simp
theorem opt_cg {α : Type} {o : Option α} {Q R : α → Prop} (k : ∀ a, Q a ↔ R a) : opt o Q ↔ opt o R := by
  cases o with
  | none => exact Iff.rfl
  | some a => exact k a
theorem ite_cg {c : Prop} [Decidable c] {A B : Prop} (k : A ↔ B) : (if c then A else False) ↔ c ∧ B := by by_cases e : c <;> simp [e, k]
theorem opt_mono {α : Type} {o : Option α} {Q R : α → Prop} (p : opt o Q) (k : ∀ a, Q a → R a) : opt o R := by
  cases o with
  | none => exact p
  | some a => exact k a p
def ifB (b : Bool) (P Q : Prop) [Inhabited (Tg (P, Q))] : Prop := if b = true then P else Q
@[simp] theorem ifB_true {P Q : Prop} : ifB true P Q ↔ P := Iff.rfl
@[simp] theorem ifB_false {P Q : Prop} : ifB false P Q ↔ Q := by simp [ifB]
@[simp] theorem ifB_not {b : Bool} {P Q : Prop} : ifB (!b) P Q ↔ ifB b Q P := by cases b <;> simp
theorem ifB_of {b : Bool} {P Q : Prop} (h1 : b = true → P) (h2 : b = false → Q) : ifB b P Q := by cases b <;> simp [h1, h2]
theorem ifB_dec {c : Prop} [Decidable c] {P Q : Prop} (h1 : c → P) (h2 : ¬c → Q) : ifB (decide c) P Q := by by_cases e : c <;> simp [e, h1, h2]
variable {α β : Type} {ρ : MEnv} {h : MHp} {E : XE}
@[simp] theorem wp_bind {m : EM α} {f : α → EM β} {Q : β → MEnv → MHp → Prop} : Wp (EM.bind m f) ρ h E Q ↔ Wp m ρ h E fun a ρ' h' => Wp (f a) ρ' h' E Q := by
  unfold Wp EM.bind; cases m ρ h <;> rfl
@[simp] theorem wp_pure {a : α} {Q : α → MEnv → MHp → Prop} : Wp (EM.pure a) ρ h E Q ↔ Q a ρ h := Iff.rfl
@[simp] theorem wp_lift {o : Option α} {Q : α → MEnv → MHp → Prop} : Wp (EM.lift o) ρ h E Q ↔ opt (o) fun a => Q a ρ h := by
  unfold Wp EM.lift; cases o <;> simp
@[simp] theorem wp_ok {a : α} {Q : α → MEnv → MHp → Prop} {f : MEnv → MEnv} {g : MHp → MHp} : Wp (fun ρ h => .ok a (f ρ) (g h)) ρ h E Q ↔ Q a (f ρ) (g h) := Iff.rfl
@[simp] theorem wp_fail {Q : α → MEnv → MHp → Prop} : Wp (fun _ _ => .fail) ρ h E Q ↔ False := Iff.rfl
@[simp] theorem wp_ite {c : Prop} [Decidable c] {a b : EM α} {Q : α → MEnv → MHp → Prop} : Wp (if c then a else b) ρ h E Q ↔ if c then Wp a ρ h E Q else Wp b ρ h E Q := by
  by_cases e : c
  · rw [if_pos e, if_pos e]
  · rw [if_neg e, if_neg e]
def valS : Option SV → Option Val
  | some (.val v) => some v
  | _ => none
@[simp] theorem valS_val {v : Val} : valS (some (.val v)) = some v := rfl
@[simp] theorem wp_var {i : Nat} {Q : Val → MEnv → MHp → Prop} : Wp (mVar i) ρ h E Q ↔ opt (valS ρ[i]?) fun v => Q v ρ h := by
  unfold Wp mVar
  cases ρ[i]? with
  | none => simp [valS]
  | some sv => cases sv <;> simp [valS]
@[simp] theorem wp_c {v : Val} {Q : Val → MEnv → MHp → Prop} : Wp (mC v) ρ h E Q ↔ Q v ρ h := Iff.rfl
@[simp] theorem wp_op {f : Val → Val → Option Val} {a b : EM Val} {Q : Val → MEnv → MHp → Prop} : Wp (mOp f a b) ρ h E Q ↔ Wp a ρ h E fun x ρ1 h1 => Wp b ρ1 h1 E fun y ρ2 h2 => opt (f x y) fun z => Q z ρ2 h2 := by
  unfold mOp
  repeat' (first | exact Iff.rfl | simp only [wp_bind, wp_lift, wp_pure, wp_ite, wp_fail, opt_ite, opt_some, opt_none, opt_map, opt_bind, and_assoc] | simp only [ifB] | simp only [wp_getCont] | simp only [wp_has] | simp only [wp_put] | simp only [wp_noexc] | simp only [wp_lh] | simp only [wp_getL] | refine Wp.iff fun _ _ _ => ?_ | refine opt_cg fun _ => ?_ | refine and_congr Iff.rfl ?_)
@[simp] theorem wp_un {f : Val → Option Val} {a : EM Val} {Q : Val → MEnv → MHp → Prop} : Wp (mUn f a) ρ h E Q ↔ Wp a ρ h E fun x ρ1 h1 => opt (f x) fun z => Q z ρ1 h1 := by
  unfold mUn
  repeat' (first | exact Iff.rfl | simp only [wp_bind, wp_lift, wp_pure, wp_ite, wp_fail, opt_ite, opt_some, opt_none, opt_map, opt_bind, and_assoc] | simp only [ifB] | simp only [wp_getCont] | simp only [wp_has] | simp only [wp_put] | simp only [wp_noexc] | simp only [wp_lh] | simp only [wp_getL] | refine Wp.iff fun _ _ _ => ?_ | refine opt_cg fun _ => ?_ | refine and_congr Iff.rfl ?_)
@[simp] theorem wp_tru {a : EM Val} {Q : Bool → MEnv → MHp → Prop} : Wp (mTru a) ρ h E Q ↔ Wp a ρ h E fun x ρ1 h1 => opt (tru x) fun z => Q z ρ1 h1 := by
  unfold mTru
  repeat' (first | exact Iff.rfl | simp only [wp_bind, wp_lift, wp_pure, wp_ite, wp_fail, opt_ite, opt_some, opt_none, opt_map, opt_bind, and_assoc] | simp only [ifB] | simp only [wp_getCont] | simp only [wp_has] | simp only [wp_put] | simp only [wp_noexc] | simp only [wp_lh] | simp only [wp_getL] | refine Wp.iff fun _ _ _ => ?_ | refine opt_cg fun _ => ?_ | refine and_congr Iff.rfl ?_)
def tst : Val → Option Bool
  | .bl b => some b
  | _ => none
@[simp] theorem tst_bl {b : Bool} : tst (.bl b) = some b := rfl
@[simp] theorem wp_test {a : EM Val} {Q : Bool → MEnv → MHp → Prop} : Wp (mTest a) ρ h E Q ↔ Wp a ρ h E fun x ρ1 h1 => opt (tst x) fun z => Q z ρ1 h1 := by
  rw [mTest, wp_bind]; exact Wp.iff fun x _ _ => by rw [wp_lift]; rfl
@[simp] theorem wp_and {a b : EM Bool} {Q : Bool → MEnv → MHp → Prop} : Wp (mAnd a b) ρ h E Q ↔ Wp a ρ h E fun x ρ1 h1 => ifB x (Wp b ρ1 h1 E Q) (Q false ρ1 h1) := by
  unfold mAnd
  repeat' (first | exact Iff.rfl | simp only [wp_bind, wp_lift, wp_pure, wp_ite, wp_fail, opt_ite, opt_some, opt_none, opt_map, opt_bind, and_assoc] | simp only [ifB] | simp only [wp_getCont] | simp only [wp_has] | simp only [wp_put] | simp only [wp_noexc] | simp only [wp_lh] | simp only [wp_getL] | refine Wp.iff fun _ _ _ => ?_ | refine opt_cg fun _ => ?_ | refine and_congr Iff.rfl ?_)
@[simp] theorem wp_or {a b : EM Bool} {Q : Bool → MEnv → MHp → Prop} : Wp (mOr a b) ρ h E Q ↔ Wp a ρ h E fun x ρ1 h1 => ifB x (Q true ρ1 h1) (Wp b ρ1 h1 E Q) := by
  unfold mOr
  repeat' (first | exact Iff.rfl | simp only [wp_bind, wp_lift, wp_pure, wp_ite, wp_fail, opt_ite, opt_some, opt_none, opt_map, opt_bind, and_assoc] | simp only [ifB] | simp only [wp_getCont] | simp only [wp_has] | simp only [wp_put] | simp only [wp_noexc] | simp only [wp_lh] | simp only [wp_getL] | refine Wp.iff fun _ _ _ => ?_ | refine opt_cg fun _ => ?_ | refine and_congr Iff.rfl ?_)
@[simp] theorem wp_not {a : EM Bool} {Q : Bool → MEnv → MHp → Prop} : Wp (mNot a) ρ h E Q ↔ Wp a ρ h E fun x ρ1 h1 => Q (!x) ρ1 h1 := by
  unfold mNot
  repeat' (first | exact Iff.rfl | simp only [wp_bind, wp_lift, wp_pure, wp_ite, wp_fail, opt_ite, opt_some, opt_none, opt_map, opt_bind, and_assoc] | simp only [ifB] | simp only [wp_getCont] | simp only [wp_has] | simp only [wp_put] | simp only [wp_noexc] | simp only [wp_lh] | simp only [wp_getL] | refine Wp.iff fun _ _ _ => ?_ | refine opt_cg fun _ => ?_ | refine and_congr Iff.rfl ?_)
@[simp] theorem wp_andV {a b : EM Val} {Q : Val → MEnv → MHp → Prop} : Wp (mAndV a b) ρ h E Q ↔ Wp a ρ h E fun x ρ1 h1 => opt (tru x) fun k => ifB k (Wp b ρ1 h1 E Q) (Q x ρ1 h1) := by
  unfold mAndV
  repeat' (first | exact Iff.rfl | simp only [wp_bind, wp_lift, wp_pure, wp_ite, wp_fail, opt_ite, opt_some, opt_none, opt_map, opt_bind, and_assoc] | simp only [ifB] | simp only [wp_getCont] | simp only [wp_has] | simp only [wp_put] | simp only [wp_noexc] | simp only [wp_lh] | simp only [wp_getL] | refine Wp.iff fun _ _ _ => ?_ | refine opt_cg fun _ => ?_ | refine and_congr Iff.rfl ?_)
@[simp] theorem wp_orV {a b : EM Val} {Q : Val → MEnv → MHp → Prop} : Wp (mOrV a b) ρ h E Q ↔ Wp a ρ h E fun x ρ1 h1 => opt (tru x) fun k => ifB k (Q x ρ1 h1) (Wp b ρ1 h1 E Q) := by
  unfold mOrV
  repeat' (first | exact Iff.rfl | simp only [wp_bind, wp_lift, wp_pure, wp_ite, wp_fail, opt_ite, opt_some, opt_none, opt_map, opt_bind, and_assoc] | simp only [ifB] | simp only [wp_getCont] | simp only [wp_has] | simp only [wp_put] | simp only [wp_noexc] | simp only [wp_lh] | simp only [wp_getL] | refine Wp.iff fun _ _ _ => ?_ | refine opt_cg fun _ => ?_ | refine and_congr Iff.rfl ?_)
@[simp] theorem wp_notV {a : EM Val} {Q : Val → MEnv → MHp → Prop} : Wp (mNotV a) ρ h E Q ↔ Wp a ρ h E fun x ρ1 h1 => opt (tru x) fun k => Q (.bl (!k)) ρ1 h1 := by
  unfold mNotV
  repeat' (first | exact Iff.rfl | simp only [wp_bind, wp_lift, wp_pure, wp_ite, wp_fail, opt_ite, opt_some, opt_none, opt_map, opt_bind, and_assoc] | simp only [ifB] | simp only [wp_getCont] | simp only [wp_has] | simp only [wp_put] | simp only [wp_noexc] | simp only [wp_lh] | simp only [wp_getL] | refine Wp.iff fun _ _ _ => ?_ | refine opt_cg fun _ => ?_ | refine and_congr Iff.rfl ?_)
@[simp] theorem wp_if {t : EM Bool} {a b : EM Val} {Q : Val → MEnv → MHp → Prop} : Wp (mIf t a b) ρ h E Q ↔ Wp t ρ h E fun x ρ1 h1 => ifB x (Wp a ρ1 h1 E Q) (Wp b ρ1 h1 E Q) := by
  unfold mIf
  repeat' (first | exact Iff.rfl | simp only [wp_bind, wp_lift, wp_pure, wp_ite, wp_fail, opt_ite, opt_some, opt_none, opt_map, opt_bind, and_assoc] | simp only [ifB] | simp only [wp_getCont] | simp only [wp_has] | simp only [wp_put] | simp only [wp_noexc] | simp only [wp_lh] | simp only [wp_getL] | refine Wp.iff fun _ _ _ => ?_ | refine opt_cg fun _ => ?_ | refine and_congr Iff.rfl ?_)
@[simp] theorem wp_nil {Q : List Val → MEnv → MHp → Prop} : Wp mNil ρ h E Q ↔ Q [] ρ h := Iff.rfl
@[simp] theorem wp_cons {a : EM Val} {r : EM (List Val)} {Q : List Val → MEnv → MHp → Prop} : Wp (mCons a r) ρ h E Q ↔ Wp a ρ h E fun x ρ1 h1 => Wp r ρ1 h1 E fun xs ρ2 h2 => Q (x :: xs) ρ2 h2 := by
  unfold mCons
  repeat' (first | exact Iff.rfl | simp only [wp_bind, wp_lift, wp_pure, wp_ite, wp_fail, opt_ite, opt_some, opt_none, opt_map, opt_bind, and_assoc] | simp only [ifB] | simp only [wp_getCont] | simp only [wp_has] | simp only [wp_put] | simp only [wp_noexc] | simp only [wp_lh] | simp only [wp_getL] | refine Wp.iff fun _ _ _ => ?_ | refine opt_cg fun _ => ?_ | refine and_congr Iff.rfl ?_)
@[simp] theorem wp_tup {r : EM (List Val)} {Q : Val → MEnv → MHp → Prop} : Wp (mTup r) ρ h E Q ↔ Wp r ρ h E fun xs ρ1 h1 => xs.length ≤ sizeLine ∧ Q (.tup xs) ρ1 h1 := by
  unfold mTup
  repeat' (first | exact Iff.rfl | simp only [wp_bind, wp_lift, wp_pure, wp_ite, wp_fail, opt_ite, opt_some, opt_none, opt_map, opt_bind, and_assoc] | simp only [ifB] | simp only [wp_getCont] | simp only [wp_has] | simp only [wp_put] | simp only [wp_noexc] | simp only [wp_lh] | simp only [wp_getL] | refine Wp.iff fun _ _ _ => ?_ | refine opt_cg fun _ => ?_ | refine and_congr Iff.rfl ?_)
@[simp] theorem wp_lst {r : EM (List Val)} {Q : Val → MEnv → MHp → Prop} : Wp (mLst r) ρ h E Q ↔ Wp r ρ h E fun xs ρ1 h1 => xs.length ≤ sizeLine ∧ Q (.lst xs) ρ1 h1 := by
  unfold mLst
  repeat' (first | exact Iff.rfl | simp only [wp_bind, wp_lift, wp_pure, wp_ite, wp_fail, opt_ite, opt_some, opt_none, opt_map, opt_bind, and_assoc] | simp only [ifB] | simp only [wp_getCont] | simp only [wp_has] | simp only [wp_put] | simp only [wp_noexc] | simp only [wp_lh] | simp only [wp_getL] | refine Wp.iff fun _ _ _ => ?_ | refine opt_cg fun _ => ?_ | refine and_congr Iff.rfl ?_)
@[simp] theorem wp_cb {f : List Val → Option Val} {r : EM (List Val)} {Q : Val → MEnv → MHp → Prop} : Wp (mCB f r) ρ h E Q ↔ Wp r ρ h E fun xs ρ1 h1 => opt (f xs) fun z => Q z ρ1 h1 := by
  unfold mCB
  repeat' (first | exact Iff.rfl | simp only [wp_bind, wp_lift, wp_pure, wp_ite, wp_fail, opt_ite, opt_some, opt_none, opt_map, opt_bind, and_assoc] | simp only [ifB] | simp only [wp_getCont] | simp only [wp_has] | simp only [wp_put] | simp only [wp_noexc] | simp only [wp_lh] | simp only [wp_getL] | refine Wp.iff fun _ _ _ => ?_ | refine opt_cg fun _ => ?_ | refine and_congr Iff.rfl ?_)
@[simp] theorem f1_eq {f : Val → Option Val} {v : Val} : f1 f [v] = f v := rfl
@[simp] theorem f2_eq {f : Val → Val → Option Val} {v w : Val} : f2 f [v, w] = f v w := rfl
@[simp] theorem wp_call {m : List Val → MHp → RE Val} {dv : List Val} {r : EM (List Val)} {Q : Val → MEnv → MHp → Prop} : Wp (mCall m dv r) ρ h E Q ↔ Wp r ρ h E fun vs ρ1 h1 => WpG (m (vs ++ dv) h1) (fun C fs h2 => E C fs ρ1 h2) fun v h2 => Q v ρ1 h2 := by
  simp only [mCall, wp_bind]
  constructor <;> refine fun p => p.mono fun vs ρ1 h1 q => ?_
  · unfold Wp at q; unfold WpG; dsimp only at q ⊢; cases e : m (vs ++ dv) h1 <;> rw [e] at q <;> exact q
  · unfold Wp; unfold WpG at q; dsimp only at q ⊢; cases e : m (vs ++ dv) h1 <;> rw [e] at q <;> exact q
@[simp] theorem wp_seqI {a : EM Val} {Q : List Val → MEnv → MHp → Prop} : Wp (mSeq a) ρ h E Q ↔ Wp a ρ h E fun v ρ1 h1 => opt (items v) fun vs => Q vs ρ1 h1 := by
  unfold mSeq
  repeat' (first | exact Iff.rfl | simp only [wp_bind, wp_lift, wp_pure, wp_ite, wp_fail, opt_ite, opt_some, opt_none, opt_map, opt_bind, and_assoc] | simp only [ifB] | simp only [wp_getCont] | simp only [wp_has] | simp only [wp_put] | simp only [wp_noexc] | simp only [wp_lh] | simp only [wp_getL] | refine Wp.iff fun _ _ _ => ?_ | refine opt_cg fun _ => ?_ | refine and_congr Iff.rfl ?_)
def rng : List Val → Option (List Val)
  | [.int j] => if -(2 ^ 62) ≤ j ∧ j < 2 ^ 62 then some ((List.range j.toNat).map fun k => .int (k : Nat)) else none
  | _ => none
@[simp] theorem rng_eq {j : Int} : rng [.int j] = if -(2 ^ 62) ≤ j ∧ j < 2 ^ 62 then some ((List.range j.toNat).map fun k => .int (k : Nat)) else none := rfl
@[simp] theorem wp_range1 {a : EM (List Val)} {Q : List Val → MEnv → MHp → Prop} : Wp (mRange1 a) ρ h E Q ↔ Wp a ρ h E fun v ρ1 h1 => opt (rng v) fun vs => Q vs ρ1 h1 := by
  rw [mRange1, wp_bind]; exact Wp.iff fun x _ _ => by rw [wp_lift]; rfl
@[simp] theorem wp_know {m : EM Cell} {Q : Val → MEnv → MHp → Prop} : Wp (mKnow m) ρ h E Q ↔ Wp m ρ h E fun cl ρ1 h1 => Q cl.val ρ1 h1 := by
  unfold mKnow
  repeat' (first | exact Iff.rfl | simp only [wp_bind, wp_lift, wp_pure, wp_ite, wp_fail, opt_ite, opt_some, opt_none, opt_map, opt_bind, and_assoc] | simp only [ifB] | simp only [wp_getCont] | simp only [wp_has] | simp only [wp_put] | simp only [wp_noexc] | simp only [wp_lh] | simp only [wp_getL] | refine Wp.iff fun _ _ _ => ?_ | refine opt_cg fun _ => ?_ | refine and_congr Iff.rfl ?_)
@[simp] theorem val_lst {vs : List Val} : (Cell.lst vs).val = .lst vs := rfl
@[simp] theorem val_dct {vs : List (Val × Val)} : (Cell.dct vs).val = .dct vs := rfl
@[simp] theorem wp_cell {m : EM Cell} {Q : Val → MEnv → MHp → Prop} : Wp (mCell m) ρ h E Q ↔ Wp m ρ h E fun cl ρ1 h1 => Q (.ref h1.length) ρ1 (h1 ++ [cl]) := by simp only [mCell, wp_bind]; rfl
@[simp] theorem wp_nLst {r : EM (List Val)} {Q : Cell → MEnv → MHp → Prop} : Wp (nLst r) ρ h E Q ↔ Wp r ρ h E fun xs ρ1 h1 => xs.length ≤ sizeLine ∧ Q (.lst xs) ρ1 h1 := by
  unfold nLst
  repeat' (first | exact Iff.rfl | simp only [wp_bind, wp_lift, wp_pure, wp_ite, wp_fail, opt_ite, opt_some, opt_none, opt_map, opt_bind, and_assoc] | simp only [ifB] | simp only [wp_getCont] | simp only [wp_has] | simp only [wp_put] | simp only [wp_noexc] | simp only [wp_lh] | simp only [wp_getL] | refine Wp.iff fun _ _ _ => ?_ | refine opt_cg fun _ => ?_ | refine and_congr Iff.rfl ?_)
@[simp] theorem wp_isTy {T : String} {a : EM Val} {Q : Val → MEnv → MHp → Prop} : Wp (mIsTy T a) ρ h E Q ↔ Wp a ρ h E fun v ρ1 h1 => opt (fIsTy T v) fun z => Q z ρ1 h1 := by
  unfold mIsTy
  repeat' (first | exact Iff.rfl | simp only [wp_bind, wp_lift, wp_pure, wp_ite, wp_fail, opt_ite, opt_some, opt_none, opt_map, opt_bind, and_assoc] | simp only [ifB] | simp only [wp_getCont] | simp only [wp_has] | simp only [wp_put] | simp only [wp_noexc] | simp only [wp_lh] | simp only [wp_getL] | refine Wp.iff fun _ _ _ => ?_ | refine opt_cg fun _ => ?_ | refine and_congr Iff.rfl ?_)
theorem wp_noexc {m : EM α} {Q : α → MEnv → MHp → Prop} : Wp (noexc m) ρ h E Q ↔ Wp m ρ h NoE Q := by
  unfold Wp noexc; cases m ρ h <;> rfl
@[simp] theorem wp_getCont {i : Nat} {Q : Val → MEnv → MHp → Prop} : Wp (getCont i) ρ h E Q ↔ opt (cont ρ h i) fun v => isCont v = true ∧ Q v ρ h := by
  unfold Wp getCont
  cases cont ρ h i with
  | none => simp
  | some v => by_cases hv : isCont v = true <;> simp [hv]
def isHas : Option SV → Bool
  | some (.val _) => true
  | some (.own _) => true
  | _ => false
@[simp] theorem isHas_val {v : Val} : isHas (some (.val v)) = true := rfl
@[simp] theorem isHas_own {v : Cell} : isHas (some (.own v)) = true := rfl
@[simp] theorem wp_has {i : Nat} {Q : Unit → MEnv → MHp → Prop} : Wp (has i) ρ h E Q ↔ isHas ρ[i]? = true ∧ Q () ρ h := by
  unfold Wp has
  cases ρ[i]? with
  | none => simp [isHas]
  | some v => cases v <;> simp [isHas]
@[simp] theorem wp_ixB {f : Val → Val → Option Val} {i : Nat} {b : EM Val} {Q : Val → MEnv → MHp → Prop} : Wp (mIxB f i b) ρ h E Q ↔ isHas ρ[i]? = true ∧ Wp b ρ h E fun y ρ1 h1 => opt (cont ρ1 h1 i) fun x => isCont x = true ∧ opt (f x y) fun z => Q z ρ1 h1 := by
  unfold mIxB
  repeat' (first | exact Iff.rfl | simp only [wp_bind, wp_lift, wp_pure, wp_ite, wp_fail, opt_ite, opt_some, opt_none, opt_map, opt_bind, and_assoc] | simp only [ifB] | simp only [wp_getCont] | simp only [wp_has] | simp only [wp_put] | simp only [wp_noexc] | simp only [wp_lh] | simp only [wp_getL] | refine Wp.iff fun _ _ _ => ?_ | refine opt_cg fun _ => ?_ | refine and_congr Iff.rfl ?_)
@[simp] theorem wp_opB {f : Val → Val → Option Val} {i : Nat} {b : EM Val} {Q : Val → MEnv → MHp → Prop} : Wp (mOpB f b i) ρ h E Q ↔ Wp b ρ h E fun y ρ1 h1 => opt (cont ρ1 h1 i) fun x => isCont x = true ∧ opt (f y x) fun z => Q z ρ1 h1 := by
  unfold mOpB
  repeat' (first | exact Iff.rfl | simp only [wp_bind, wp_lift, wp_pure, wp_ite, wp_fail, opt_ite, opt_some, opt_none, opt_map, opt_bind, and_assoc] | simp only [ifB] | simp only [wp_getCont] | simp only [wp_has] | simp only [wp_put] | simp only [wp_noexc] | simp only [wp_lh] | simp only [wp_getL] | refine Wp.iff fun _ _ _ => ?_ | refine opt_cg fun _ => ?_ | refine and_congr Iff.rfl ?_)
@[simp] theorem wp_cb1 {f : List Val → Option Val} {i : Nat} {Q : Val → MEnv → MHp → Prop} : Wp (mCB1 f i) ρ h E Q ↔ opt (cont ρ h i) fun x => isCont x = true ∧ opt (f [x]) fun z => Q z ρ h := by
  unfold mCB1
  repeat' (first | exact Iff.rfl | simp only [wp_bind, wp_lift, wp_pure, wp_ite, wp_fail, opt_ite, opt_some, opt_none, opt_map, opt_bind, and_assoc] | simp only [ifB] | simp only [wp_getCont] | simp only [wp_has] | simp only [wp_put] | simp only [wp_noexc] | simp only [wp_lh] | simp only [wp_getL] | refine Wp.iff fun _ _ _ => ?_ | refine opt_cg fun _ => ?_ | refine and_congr Iff.rfl ?_)
@[simp] theorem wp_m1 {f : Val → Val → Option Val} {a b : EM Val} {Q : Val → MEnv → MHp → Prop} : Wp (mM1 f a b) ρ h E Q ↔ Wp a ρ h E fun x ρ1 h1 => isStr x = true ∧ Wp b ρ1 h1 E fun y ρ2 h2 => opt (f x y) fun z => Q z ρ2 h2 := by
  unfold mM1
  repeat' (first | exact Iff.rfl | simp only [wp_bind, wp_lift, wp_pure, wp_ite, wp_fail, opt_ite, opt_some, opt_none, opt_map, opt_bind, and_assoc] | simp only [ifB] | simp only [wp_getCont] | simp only [wp_has] | simp only [wp_put] | simp only [wp_noexc] | simp only [wp_lh] | simp only [wp_getL] | refine Wp.iff fun _ _ _ => ?_ | refine opt_cg fun _ => ?_ | refine and_congr Iff.rfl ?_ | refine ite_cg ?_)
@[simp] theorem wp_m1B {f : Val → Val → Option Val} {a : EM Val} {i : Nat} {Q : Val → MEnv → MHp → Prop} : Wp (mM1B f a i) ρ h E Q ↔ Wp a ρ h E fun x ρ1 h1 => isStr x = true ∧ opt (cont ρ1 h1 i) fun y => isCont y = true ∧ opt (f x y) fun z => Q z ρ1 h1 := by
  unfold mM1B
  repeat' (first | exact Iff.rfl | simp only [wp_bind, wp_lift, wp_pure, wp_ite, wp_fail, opt_ite, opt_some, opt_none, opt_map, opt_bind, and_assoc] | simp only [ifB] | simp only [wp_getCont] | simp only [wp_has] | simp only [wp_put] | simp only [wp_noexc] | simp only [wp_lh] | simp only [wp_getL] | refine Wp.iff fun _ _ _ => ?_ | refine opt_cg fun _ => ?_ | refine and_congr Iff.rfl ?_ | refine ite_cg ?_)
@[simp] theorem isStr_str {s : Str} : isStr (.str s) = true := rfl
@[simp] theorem isCont_lst {vs : List Val} : isCont (.lst vs) = true := rfl
@[simp] theorem isCont_dct {vs : List (Val × Val)} : isCont (.dct vs) = true := rfl
def contS (h : MHp) : Option SV → Option Val
  | some (.val (.ref a)) => (h[a]?).map Cell.val
  | some (.val v) => some v
  | some (.own cl) => some cl.val
  | _ => none
theorem cont_eq {i : Nat} : cont ρ h i = contS h ρ[i]? := rfl
@[simp] theorem contS_ref {a : Nat} : contS h (some (.val (.ref a))) = (h[a]?).map Cell.val := rfl
@[simp] theorem contS_own {cl : Cell} : contS h (some (.own cl)) = some cl.val := rfl
@[simp] theorem contS_lst {vs : List Val} : contS h (some (.val (.lst vs))) = some (.lst vs) := rfl
@[simp] theorem contS_tup {vs : List Val} : contS h (some (.val (.tup vs))) = some (.tup vs) := rfl
def putS (i : Nat) (cl : Cell) (ρ : MEnv) (h : MHp) (Q : MEnv → MHp → Prop) [Inhabited (Tg Q)] : Option SV → Prop
  | some (.val (.ref a)) => a < h.length ∧ Q ρ (h.set a cl)
  | some (.own _) => Q (ρ.set i (.own cl)) h
  | _ => False
@[simp] theorem putS_ref {i a : Nat} {cl : Cell} {Q : MEnv → MHp → Prop} : putS i cl ρ h Q (some (.val (.ref a))) ↔ a < h.length ∧ Q ρ (h.set a cl) := Iff.rfl
@[simp] theorem putS_own {i : Nat} {cl c2 : Cell} {Q : MEnv → MHp → Prop} : putS i cl ρ h Q (some (.own c2)) ↔ Q (ρ.set i (.own cl)) h := Iff.rfl
@[simp] theorem wp_put {i : Nat} {cl : Cell} {Q : Unit → MEnv → MHp → Prop} : Wp (putCont i cl) ρ h E Q ↔ putS i cl ρ h (Q ()) ρ[i]? := by
  unfold Wp putCont putS
  cases ρ[i]? with
  | none => rfl
  | some v =>
    cases v with
    | un => rfl
    | own c => rfl
    | xv C fs => rfl
    | val v => cases v <;> first | rfl | (rename_i a; by_cases ha : a < h.length <;> simp [ha])
/-! statements -/
@[simp] theorem wp_skip {Q : Fl → MEnv → MHp → Prop} : Wp sSkip ρ h E Q ↔ Q .next ρ h := Iff.rfl
@[simp] theorem wp_brk {Q : Fl → MEnv → MHp → Prop} : Wp sBrk ρ h E Q ↔ Q .brk ρ h := Iff.rfl
@[simp] theorem wp_cont {Q : Fl → MEnv → MHp → Prop} : Wp sCont ρ h E Q ↔ Q .cont ρ h := Iff.rfl
@[simp] theorem wp_retN {Q : Fl → MEnv → MHp → Prop} : Wp sRetN ρ h E Q ↔ Q (.ret .non) ρ h := Iff.rfl
def onNext (N : MEnv → MHp → Prop) (Q : Fl → MEnv → MHp → Prop) [Inhabited (Tg (N, Q))] : Fl → MEnv → MHp → Prop
  | .next => N
  | f => Q f
@[simp] theorem onNext_next {N : MEnv → MHp → Prop} {Q : Fl → MEnv → MHp → Prop} : onNext N Q .next = N := rfl
@[simp] theorem onNext_ret {N : MEnv → MHp → Prop} {Q : Fl → MEnv → MHp → Prop} {v : Val} : onNext N Q (.ret v) = Q (.ret v) := rfl
@[simp] theorem onNext_brk {N : MEnv → MHp → Prop} {Q : Fl → MEnv → MHp → Prop} : onNext N Q .brk = Q .brk := rfl
@[simp] theorem onNext_cont {N : MEnv → MHp → Prop} {Q : Fl → MEnv → MHp → Prop} : onNext N Q .cont = Q .cont := rfl
@[simp] theorem wp_seq {a b : SM} {Q : Fl → MEnv → MHp → Prop} : Wp (sSeq a b) ρ h E Q ↔ Wp a ρ h E (onNext (fun ρ' h' => Wp b ρ' h' E Q) Q) := by
  unfold Wp sSeq
  cases e : a ρ h with
  | ok f ρ' h' => cases f <;> rfl
  | _ => rfl
@[simp] theorem wp_ret {m : EM Val} {Q : Fl → MEnv → MHp → Prop} : Wp (sRet m) ρ h E Q ↔ Wp m ρ h E fun v ρ' h' => Q (.ret v) ρ' h' := by
  unfold sRet
  repeat' (first | exact Iff.rfl | simp only [wp_bind, wp_lift, wp_pure, wp_ite, wp_fail, opt_ite, opt_some, opt_none, opt_map, opt_bind, and_assoc] | simp only [ifB] | simp only [wp_getCont] | simp only [wp_has] | simp only [wp_put] | simp only [wp_noexc] | simp only [wp_lh] | simp only [wp_getL] | refine Wp.iff fun _ _ _ => ?_ | refine opt_cg fun _ => ?_ | refine and_congr Iff.rfl ?_)
@[simp] theorem wp_drop {m : EM Val} {Q : Fl → MEnv → MHp → Prop} : Wp (sDrop m) ρ h E Q ↔ Wp m ρ h E fun v ρ' h' => Q .next ρ' h' := by
  unfold sDrop
  repeat' (first | exact Iff.rfl | simp only [wp_bind, wp_lift, wp_pure, wp_ite, wp_fail, opt_ite, opt_some, opt_none, opt_map, opt_bind, and_assoc] | simp only [ifB] | simp only [wp_getCont] | simp only [wp_has] | simp only [wp_put] | simp only [wp_noexc] | simp only [wp_lh] | simp only [wp_getL] | refine Wp.iff fun _ _ _ => ?_ | refine opt_cg fun _ => ?_ | refine and_congr Iff.rfl ?_)
@[simp] theorem wp_sif {t : EM Bool} {a b : SM} {Q : Fl → MEnv → MHp → Prop} : Wp (sIf t a b) ρ h E Q ↔ Wp t ρ h E fun k ρ' h' => ifB k (Wp a ρ' h' E Q) (Wp b ρ' h' E Q) := by
  unfold sIf
  repeat' (first | exact Iff.rfl | simp only [wp_bind, wp_lift, wp_pure, wp_ite, wp_fail, opt_ite, opt_some, opt_none, opt_map, opt_bind, and_assoc] | simp only [ifB] | simp only [wp_getCont] | simp only [wp_has] | simp only [wp_put] | simp only [wp_noexc] | simp only [wp_lh] | simp only [wp_getL] | refine Wp.iff fun _ _ _ => ?_ | refine opt_cg fun _ => ?_ | refine and_congr Iff.rfl ?_)
@[simp] theorem wp_set {i : Nat} {m : EM Val} {Q : Fl → MEnv → MHp → Prop} : Wp (sSet i m) ρ h E Q ↔ Wp m ρ h E fun v ρ' h' => Q .next (ρ'.set i (.val v)) h' := by simp only [sSet, wp_bind]; rfl
@[simp] theorem wp_own {i : Nat} {m : EM Cell} {Q : Fl → MEnv → MHp → Prop} : Wp (sOwn i m) ρ h E Q ↔ Wp m ρ h E fun v ρ' h' => Q .next (ρ'.set i (.own v)) h' := by simp only [sOwn, wp_bind]; rfl
@[simp] theorem wp_asg {tg : TgM} {m : EM Val} {Q : Fl → MEnv → MHp → Prop} : Wp (sAsg tg m) ρ h E Q ↔ Wp m ρ h E fun v ρ' h' => opt (tg v ρ') fun ρ2 => Q .next ρ2 h' := by
  simp only [sAsg, wp_bind]
  constructor <;> refine fun p => p.mono fun v ρ1 h1 q => ?_
  · unfold Wp at q; dsimp only at q; cases e : tg v ρ1 <;> rw [e] at q <;> exact q
  · unfold Wp; dsimp only; cases e : tg v ρ1 <;> rw [e] at q <;> exact q
def frz (i : Nat) (s : SM) (ρ : MEnv) (h : MHp) (E : XE) (Q : Fl → MEnv → MHp → Prop) [Inhabited (Tg (s, E, Q))] : Option SV → Prop
  | some (.own cl) => Wp s (ρ.set i (.val cl.val)) h E Q
  | _ => False
@[simp] theorem frz_own {i : Nat} {s : SM} {cl : Cell} {Q : Fl → MEnv → MHp → Prop} : frz i s ρ h E Q (some (.own cl)) ↔ Wp s (ρ.set i (.val cl.val)) h E Q := Iff.rfl
@[simp] theorem wp_freeze {i : Nat} {s : SM} {Q : Fl → MEnv → MHp → Prop} : Wp (sFreeze i s) ρ h E Q ↔ frz i s ρ h E Q ρ[i]? := by
  unfold Wp sFreeze frz
  cases ρ[i]? with
  | none => rfl
  | some v => cases v <;> rfl
def two2 (vs : List Val) (P : Val → Val → Prop) [Inhabited (Tg P)] : Prop := match vs with
  | [v, w] => P v w
  | _ => False
@[simp] theorem two2_eq {v w : Val} {P : Val → Val → Prop} : two2 [v, w] P ↔ P v w := Iff.rfl
@[simp] theorem wp_par {i j : Nat} {r : EM (List Val)} {Q : Fl → MEnv → MHp → Prop} : Wp (sPar i j r) ρ h E Q ↔ Wp r ρ h E fun vs ρ' h' => two2 vs fun v w => Q .next ((ρ'.set i (.val v)).set j (.val w)) h' := by
  simp only [sPar, wp_bind]
  constructor <;> refine fun p => p.mono fun v ρ1 h1 q => ?_
  · unfold Wp at q
    match v, q with
    | [v, w], q => exact q
  · match v, q with
    | [v, w], q => exact q
def setAt (i : Nat) (v x k : Val) (ρ : MEnv) (h : MHp) (Q : MEnv → MHp → Prop) [Inhabited (Tg Q)] : Prop := match x, k with
  | .lst vs, .int k => opt (ixN vs.length k) fun j => putS i (.lst (vs.set j v)) ρ h Q ρ[i]?
  | _, _ => False
@[simp] theorem setAt_eq {i : Nat} {v : Val} {vs : List Val} {k : Int} {Q : MEnv → MHp → Prop} : setAt i v (.lst vs) (.int k) ρ h Q ↔ opt (ixN vs.length k) fun j => putS i (.lst (vs.set j v)) ρ h Q ρ[i]? := Iff.rfl
@[simp] theorem wp_setItem {i : Nat} {me mv : EM Val} {Q : Fl → MEnv → MHp → Prop} : Wp (sSetItem i me mv) ρ h E Q ↔ Wp mv ρ h E fun v ρ1 h1 => isHas ρ1[i]? = true ∧ Wp me ρ1 h1 E fun k ρ2 h2 => opt (cont ρ2 h2 i) fun x => isCont x = true ∧ setAt i v x k ρ2 h2 (Q .next) := by
  have key : ∀ (x k v : Val) (ρ : MEnv) (h : MHp), Wp (match x, k with
  | .lst vs, .int k => (match ixN vs.length k with
    | some j => EM.bind (putCont i (.lst (vs.set j v))) fun _ => EM.pure .next
    | none => fun _ _ => .fail)
  | _, _ => fun _ _ => .fail) ρ h E Q ↔ setAt i v x k ρ h (Q .next) := by
    intro x k v ρ h
    cases x with
    | lst vs =>
      cases k with
      | int ix =>
        rw [setAt_eq]; dsimp only
        cases e : ixN vs.length ix with
        | none => simp
        | some j => simp only [wp_bind, wp_put, opt_some]; exact Iff.rfl
      | _ => exact Iff.rfl
    | _ => exact Iff.rfl
  unfold sSetItem
  rw [wp_bind]
  refine Wp.iff fun v ρ1 h1 => ?_
  rw [wp_bind, wp_has, wp_bind]
  refine and_congr Iff.rfl (Wp.iff fun k ρ2 h2 => ?_)
  rw [wp_bind, wp_getCont]
  exact opt_cg fun x => and_congr Iff.rfl (key x k v ρ2 h2)
def onEnd (Q : Val → MHp → Prop) [Inhabited (Tg Q)] : Fl → MEnv → MHp → Prop
  | .ret v => fun _ h => Q v h
  | .next => fun _ h => Q .non h
  | _ => fun _ _ => False
@[simp] theorem onEnd_ret {Q : Val → MHp → Prop} {v : Val} : onEnd Q (.ret v) ρ h ↔ Q v h := Iff.rfl
@[simp] theorem onEnd_next {Q : Val → MHp → Prop} : onEnd Q .next ρ h ↔ Q .non h := Iff.rfl
theorem wpG_fun {np n : Nat} {body : SM} {args : List Val} {X : XF} {Q : Val → MHp → Prop} : WpG (mFun np n body args h) X Q ↔ args.length = np ∧ Wp body (args.map SV.val ++ List.replicate (n - np) .un) h (fun C fs _ h' => X C fs h') (onEnd Q) := by
  unfold mFun Wp WpG
  by_cases hl : args.length = np
  · simp only [hl, if_true, true_and]
    cases body (args.map SV.val ++ List.replicate (n - np) .un) h with
    | ok f ρ' h' => cases f <;> rfl
    | _ => rfl
  · simp only [hl, if_false, false_and]
theorem wpF_fun {np n : Nat} {body : SM} {args : List Val} {Q : Val → MHp → Prop} : WpF (mFun np n body args h) Q ↔ args.length = np ∧ Wp body (args.map SV.val ++ List.replicate (n - np) .un) h NoE (onEnd Q) := wpG_fun
/-- a call's own answer and heap -/
theorem WpF.eq {r : RE Val} {v : Val} {h : MHp} (p : WpF r fun x h' => x = v ∧ h' = h) : ∃ ρ, r = .ok v ρ h := by
  obtain ⟨_, ρ, _, e, rfl, rfl⟩ := p.ex; exact ⟨ρ, e⟩
/-! walks -/
def onTurn (N : MEnv → MHp → Prop) (Q : Fl → MEnv → MHp → Prop) [Inhabited (Tg (N, Q))] : Fl → MEnv → MHp → Prop
  | .next => N
  | .cont => N
  | .brk => Q .next
  | .ret v => Q (.ret v)
@[simp] theorem onTurn_next {N : MEnv → MHp → Prop} {Q : Fl → MEnv → MHp → Prop} : onTurn N Q .next = N := rfl
@[simp] theorem onTurn_cont {N : MEnv → MHp → Prop} {Q : Fl → MEnv → MHp → Prop} : onTurn N Q .cont = N := rfl
@[simp] theorem onTurn_brk {N : MEnv → MHp → Prop} {Q : Fl → MEnv → MHp → Prop} : onTurn N Q .brk = Q .next := rfl
@[simp] theorem onTurn_ret {N : MEnv → MHp → Prop} {Q : Fl → MEnv → MHp → Prop} {v : Val} : onTurn N Q (.ret v) = Q (.ret v) := rfl
@[simp] theorem wp_for_nil {tg : TgM} {body : SM} {Q : Fl → MEnv → MHp → Prop} : Wp (forLoop tg body []) ρ h E Q ↔ Q .next ρ h := Iff.rfl
theorem wp_for_cons {tg : TgM} {body : SM} {v : Val} {vs : List Val} {Q : Fl → MEnv → MHp → Prop} : Wp (forLoop tg body (v :: vs)) ρ h E Q ↔ opt (tg v ρ) fun ρ1 => Wp body ρ1 h E (onTurn (fun ρ' h' => Wp (forLoop tg body vs) ρ' h' E Q) Q) := by
  have e : ∀ ρ h, forLoop tg body (v :: vs) ρ h = match tg v ρ with
    | none => .fail
    | some ρ1 => match body ρ1 h with
      | .ok .next ρ' h' => forLoop tg body vs ρ' h'
      | .ok .cont ρ' h' => forLoop tg body vs ρ' h'
      | .ok .brk ρ' h' => .ok .next ρ' h'
      | x => x := fun _ _ => rfl
  rw [Wp, e]
  cases tg v ρ with
  | none => simp
  | some ρ1 =>
    simp only [opt_some]
    unfold Wp
    cases body ρ1 h with
    | ok f ρ' h' => cases f <;> rfl
    | _ => rfl
@[simp] theorem wp_sFor {it : EM (List Val)} {tg : TgM} {body : SM} {Q : Fl → MEnv → MHp → Prop} : Wp (sFor it tg body) ρ h E Q ↔ Wp it ρ h E fun vs ρ' h' => Wp (forLoop tg body vs) ρ' h' E Q := by
  unfold sFor
  repeat' (first | exact Iff.rfl | simp only [wp_bind, wp_lift, wp_pure, wp_ite, wp_fail, opt_ite, opt_some, opt_none, opt_map, opt_bind, and_assoc] | simp only [ifB] | simp only [wp_getCont] | simp only [wp_has] | simp only [wp_put] | simp only [wp_noexc] | simp only [wp_lh] | simp only [wp_getL] | refine Wp.iff fun _ _ _ => ?_ | refine opt_cg fun _ => ?_ | refine and_congr Iff.rfl ?_)
/-- a walk by an invariant over what is left -/
theorem wp_for_inv {tg : TgM} {body : SM} {Q : Fl → MEnv → MHp → Prop} (I : List Val → MEnv → MHp → Prop) (vs : List Val) (h0 : I vs ρ h)
    (step : ∀ v r ρ h, I (v :: r) ρ h → opt (tg v ρ) fun ρ1 => Wp body ρ1 h E (onTurn (I r) Q)) (fin : ∀ ρ h, I [] ρ h → Q .next ρ h) : Wp (forLoop tg body vs) ρ h E Q := by
  induction vs generalizing ρ h with
  | nil => exact fin _ _ h0
  | cons v r ih =>
    rw [wp_for_cons]
    refine opt_mono (step v r ρ h h0) fun ρ1 p => p.mono fun f ρ' h' q => ?_
    cases f with
    | next => exact ih q
    | cont => exact ih q
    | brk => exact q
    | ret v => exact q
@[simp] theorem gm_name {i : Nat} {v : Val} {ρ : MEnv} : gmName i v ρ = some (ρ.set i (.val v)) := rfl
theorem wp_comp_nil {tg : TgM} {cond : EM Bool} {elt : EM Val} {own : List Nat} {acc : List Val} {Q : List Val → MEnv → MHp → Prop} : Wp (compLoop tg cond elt own [] acc) ρ h E Q ↔ Q acc ρ h := Iff.rfl
theorem wp_comp_cons {tg : TgM} {cond : EM Bool} {elt : EM Val} {own : List Nat} {v : Val} {r acc : List Val} {Q : List Val → MEnv → MHp → Prop} : Wp (compLoop tg cond elt own (v :: r) acc) ρ h E Q ↔
    opt (tg v (wipeM ρ own)) fun ρ1 => Wp cond ρ1 h NoE fun b ρ2 h2 => ifB b (Wp elt ρ2 h2 NoE fun y ρ3 h3 => acc.length < sizeLine ∧ Wp (compLoop tg cond elt own r (acc ++ [y])) ρ3 h3 E Q) (Wp (compLoop tg cond elt own r acc) ρ2 h2 E Q) := by
  have e : ∀ ρ h, compLoop tg cond elt own (v :: r) acc ρ h = match tg v (wipeM ρ own) with
    | none => .fail
    | some ρ1 => EM.bind (noexc cond) (fun b => if b = true then EM.bind (noexc elt) fun y => if acc.length < sizeLine then compLoop tg cond elt own r (acc ++ [y]) else fun _ _ => .fail
        else compLoop tg cond elt own r acc) ρ1 h := fun _ _ => rfl
  rw [Wp, e]
  cases tg v (wipeM ρ own) with
  | none => simp
  | some ρ1 =>
    rw [opt_some]
    show Wp (EM.bind (noexc cond) _) ρ1 h E Q ↔ _
    rw [wp_bind, wp_noexc]
    refine Wp.iff fun b ρ2 h2 => ?_
    cases b
    · exact Iff.rfl
    · show Wp (EM.bind (noexc elt) _) ρ2 h2 E Q ↔ Wp elt ρ2 h2 NoE _
      rw [wp_bind, wp_noexc]
      refine Wp.iff fun y ρ3 h3 => ?_
      rw [wp_ite]
      exact ite_cg Iff.rfl
@[simp] theorem wp_compN {it : EM (List Val)} {tg : TgM} {cond : EM Bool} {elt : EM Val} {own : List Nat} {Q : Cell → MEnv → MHp → Prop} : Wp (mCompN it tg cond elt own) ρ h E Q ↔ Wp it ρ h E fun vs ρ1 h1 => Wp (compLoop tg cond elt own vs []) ρ1 h1 E fun acc ρ2 h2 => Q (.lst acc) (wipeM ρ2 own) h2 := by
  rw [mCompN, wp_bind]; exact Wp.iff fun vs ρ1 h1 => by rw [wp_bind]; exact Wp.iff fun _ _ _ => Iff.rfl
/-- a comprehension by an invariant over what is left and what is made -/
theorem wp_comp_inv {tg : TgM} {cond : EM Bool} {elt : EM Val} {own : List Nat} {Q : List Val → MEnv → MHp → Prop} (I : List Val → List Val → MEnv → MHp → Prop) (vs acc : List Val) (hs : acc.length + vs.length ≤ sizeLine) (h0 : I vs acc ρ h)
    (step : ∀ v r acc ρ h, I (v :: r) acc ρ h → opt (tg v (wipeM ρ own)) fun ρ1 => Wp cond ρ1 h NoE fun b ρ2 h2 => ifB b (Wp elt ρ2 h2 NoE fun y ρ3 h3 => I r (acc ++ [y]) ρ3 h3) (I r acc ρ2 h2))
    (fin : ∀ acc ρ h, I [] acc ρ h → Q acc ρ h) : Wp (compLoop tg cond elt own vs acc) ρ h E Q := by
  induction vs generalizing ρ h acc with
  | nil => exact fin _ _ _ h0
  | cons v r ih =>
    rw [wp_comp_cons]
    simp only [List.length_cons] at hs
    refine opt_mono (step v r acc ρ h h0) fun ρ1 p => p.mono fun b ρ' h' q => ?_
    cases b
    · rw [ifB_false] at q ⊢
      exact ih _ (by omega) q
    · rw [ifB_true] at q ⊢
      exact q.mono fun y ρ3 h3 q => ⟨by omega, ih _ (by simp; omega) q⟩
/-- one name, a pure test, a pure item -/
theorem wp_comp1 {i : Nat} {cond : EM Bool} {elt : EM Val} {Q : List Val → MEnv → MHp → Prop} (p : Val → Bool) (g : Val → Val) (vs acc : List Val) (hs : acc.length + vs.length ≤ sizeLine)
    (hp : ∀ v ∈ vs, Wp cond (ρ.set i (.val v)) h NoE fun b ρ' h' => b = p v ∧ ρ' = ρ.set i (.val v) ∧ h' = h)
    (he : ∀ v ∈ vs, p v = true → Wp elt (ρ.set i (.val v)) h NoE fun y ρ' h' => y = g v ∧ ρ' = ρ.set i (.val v) ∧ h' = h)
    (fin : ∀ ρ', (∀ x, ρ'.set i x = ρ.set i x) → Q (acc ++ (vs.filter p).map g) ρ' h) : Wp (compLoop (gmName i) cond elt [i] vs acc) ρ h E Q := by
  refine wp_comp_inv (fun r a ρ' h' => h' = h ∧ (∀ x, ρ'.set i x = ρ.set i x) ∧ (∀ v ∈ r, v ∈ vs) ∧ a ++ (r.filter p).map g = acc ++ (vs.filter p).map g) vs acc hs ⟨rfl, fun _ => rfl, fun _ h => h, rfl⟩ ?_ ?_
  · rintro v r a ρ' h' ⟨rfl, e1, e2, e3⟩
    have et : gmName i v (wipeM ρ' [i]) = some (ρ.set i (.val v)) := by
      show some (((ρ').set i .un).set i (.val v)) = _
      rw [List.set_set, e1]
    rw [et, opt_some]
    · refine (hp v (e2 v (by simp))).mono fun b ρ2 h2 ⟨eb, er, eh⟩ => ?_
      subst eb; subst er; subst eh
      refine ifB_of ?_ ?_ <;> intro hz
      · refine (he v (e2 v (by simp)) hz).mono fun y ρ3 h3 ⟨ey, er, eh⟩ => ?_
        subst ey; subst er; subst eh
        refine ⟨rfl, fun x => by rw [List.set_set], fun w hw => e2 w (by simp [hw]), ?_⟩
        rw [← e3]; simp [hz]
      · refine ⟨rfl, fun x => by rw [List.set_set], fun w hw => e2 w (by simp [hw]), ?_⟩
        rw [← e3]; simp [hz]
  · rintro a ρ' h' ⟨rfl, e1, e2, e3⟩
    simp only [List.filter_nil, List.map_nil, List.append_nil] at e3
    rw [e3]; exact fin _ e1
@[simp] theorem wipe_nil : wipeM ρ [] = ρ := rfl
@[simp] theorem wipe_cons {i : Nat} {is : List Nat} : wipeM ρ (i :: is) = (wipeM ρ is).set i .un := rfl
/-! operations -/
section
variable {i j : Int}
@[simp] theorem fAdd_ii : fAdd (.int i) (.int j) = some (.int (i + j)) := rfl
@[simp] theorem fSub_ii : fSub (.int i) (.int j) = some (.int (i - j)) := rfl
@[simp] theorem fMul_ii : fMul (.int i) (.int j) = if i.natAbs.log2 + j.natAbs.log2 < 1000000 then some (.int (i * j)) else none := rfl
@[simp] theorem fMod_ii : fMod (.int i) (.int j) = if 0 < j then some (.int (i % j)) else none := rfl
@[simp] theorem fDiv_ii : fDiv (.int i) (.int j) = if 0 < j ∧ j.natAbs.log2 < 9000 then some (.int (i / j)) else none := rfl
@[simp] theorem fPow_ii : fPow (.int i) (.int j) = if 0 ≤ j ∧ (Builtin.Int.intBits i : Int) * j ≤ 2 ^ 27 then some (.int (i ^ j.toNat)) else none := rfl
@[simp] theorem fCmp_ii {g : Int → Int → Bool} : fCmp g (.int i) (.int j) = some (.bl (g i j)) := rfl
@[simp] theorem vAbs_i : vAbs (.int i) = some (.int (if i < 0 then -i else i)) := rfl
@[simp] theorem vMax2_ii : vMax2 (.int i) (.int j) = some (.int (if j > i then j else i)) := rfl
@[simp] theorem vMin2_ii : vMin2 (.int i) (.int j) = some (.int (if j < i then j else i)) := rfl
@[simp] theorem vInt_i : vInt (.int i) = some (.int i) := rfl
@[simp] theorem vInt_b {b : Bool} : vInt (.bl b) = some (.int (if b then 1 else 0)) := rfl
@[simp] theorem vStr_i : vStr (.int i) = if i.natAbs.log2 < 1920 then some (.str (toString i)) else none := rfl
end
@[simp] theorem vLen_lst {vs : List Val} : vLen (.lst vs) = some (.int vs.length) := rfl
@[simp] theorem vLen_tup {vs : List Val} : vLen (.tup vs) = some (.int vs.length) := rfl
@[simp] theorem vLen_fz {vs : List Val} : vLen (.fz vs) = some (.int vs.length) := rfl
@[simp] theorem vLen_str {s : Str} : vLen (.str s) = if s.length ≤ sizeLine then some (.int s.length) else none := rfl
@[simp] theorem fIx_lst {vs : List Val} {i : Int} : fIx (.lst vs) (.int i) = atI vs i := rfl
@[simp] theorem fIx_tup {vs : List Val} {i : Int} : fIx (.tup vs) (.int i) = atI vs i := rfl
@[simp] theorem fIx_fz {vs : List Val} {i : Int} : fIx (.fz vs) (.int i) = atI vs i := rfl
@[simp] theorem fIx_str {s : Str} {i : Int} : fIx (.str s) (.int i) = if s.length ≤ sizeLine then (atI s.cps.toList i).map fun q => .str ⟨#[q]⟩ else none := rfl
@[simp] theorem tru_bl {b : Bool} : tru (.bl b) = some b := rfl
@[simp] theorem items_lst {vs : List Val} : items (.lst vs) = some vs := rfl
@[simp] theorem items_tup {vs : List Val} : items (.tup vs) = some vs := rfl
@[simp] theorem items_fz {vs : List Val} : items (.fz vs) = some vs := rfl
@[simp] theorem items_str {s : Str} : items (.str s) = some (s.cps.toList.map fun q => .str ⟨#[q]⟩) := rfl
@[simp] theorem vTuple_lst {vs : List Val} : vTuple (.lst vs) = some (.tup vs) := rfl
@[simp] theorem vTuple_tup {vs : List Val} : vTuple (.tup vs) = some (.tup vs) := rfl
@[simp] theorem vList_tup {vs : List Val} : vList (.tup vs) = some (.lst vs) := rfl
@[simp] theorem vList_lst {vs : List Val} : vList (.lst vs) = some (.lst vs) := rfl
@[simp] theorem tyName_non : tyName .non = some "NoneType" := rfl
@[simp] theorem tyName_bl {b : Bool} : tyName (.bl b) = some "bool" := rfl
@[simp] theorem tyName_int {b : Int} : tyName (.int b) = some "int" := rfl
@[simp] theorem tyName_str {b : Str} : tyName (.str b) = some "str" := rfl
@[simp] theorem tyName_tup {b : List Val} : tyName (.tup b) = some "tuple" := rfl
@[simp] theorem tyName_lst {b : List Val} : tyName (.lst b) = some "list" := rfl
@[simp] theorem tyName_dct {b : List (Val × Val)} : tyName (.dct b) = some "dict" := rfl
theorem atI_ok {α : Type} {xs : List α} {i : Int} (h0 : 0 ≤ i) (h1 : i < xs.length) : ∃ x, atI xs i = some x ∧ xs[i.toNat]? = some x ∧ x ∈ xs := by
  unfold atI ixN
  rw [if_pos h0, if_pos h1]
  have hl : i.toNat < xs.length := by omega
  exact ⟨xs[i.toNat], by simp [hl], by simp [hl], List.getElem_mem hl⟩
theorem ixN_ok {n : Nat} {i : Int} (h0 : 0 ≤ i) (h1 : i < n) : ixN n i = some i.toNat := by
  unfold ixN; rw [if_pos h0, if_pos h1]
end Mir

set_option Elab.async false
set_option linter.all false
set_option maxRecDepth 100000
set_option maxHeartbeats 4000000
/-! the dice of every law -/
namespace Mir
open PySem L2

def diceM : List Val → MHp → RE Val := mFun 2 5
  (sSeq (sSet 2 (mIf (mTest (mOp fLt (mVar 1) (mCB (f1 vLen) (mCons (mVar 0) mNil)))) (mOp fIx (mVar 0) (mVar 1)) (mOp fAdd (mOp fMul (mC (.int (41))) (mVar 1)) (mC (.int (9)))))) (sSeq (sSet 3 (mOp fMod (mCB (f1 vInt) (mCons (mCB (f1 vAbs) (mCons (mVar 2) mNil)) mNil)) (mOp fPow (mOp fPow (mC (.int (10))) (mC (.int (59)))) (mC (.int (11)))))) (sSeq (sSet 4 (mOp fAdd (mOp fAdd (mOp fAdd (mOp fMul (mVar 3) (mC (.int (3202034522624059733)))) (mOp fMul (mC (.int (83))) (mVar 1))) (mOp fMul (mC (.int (19))) (mCB (f1 vInt) (mCons (mOp fLt (mVar 2) (mC (.int (0)))) mNil)))) (mC (.int (5))))) (sRet (mCell (nLst (mCons (mCB (f2 vMax2) (mCons (mC (.int (0))) (mCons (mOp fSub (mVar 3) (mOp fPow (mC (.int (10))) (mC (.int (18))))) mNil))) (mCons (mOp fMod (mCB (f1 vInt) (mCons (mVar 4) mNil)) (mC (.int (2305843009213693921)))) (mCons (mC (.int (0))) mNil)))))))))
def rollM : List Val → MHp → RE Val := mFun 2 5
  (sSeq (sIf (mTest (mOp fGt (mIxB fIx 0 (mC (.int (0)))) (mC (.int (0))))) (sSeq (sSet 2 (mOp fMod (mCB (f1 vInt) (mCons (mIxB fIx 0 (mC (.int (0)))) mNil)) (mVar 1))) (sSeq (sSetItem 0 (mC (.int (0))) (mOp fDiv (mIxB fIx 0 (mC (.int (0)))) (mVar 1))) (sRet (mVar 2)))) sSkip) (sSeq (sSetItem 0 (mC (.int (2))) (mOp fAdd (mIxB fIx 0 (mC (.int (2)))) (mC (.int (1))))) (sSeq (sSet 3 (mOp fMod (mCB (f1 vInt) (mCons (mOp fAdd (mIxB fIx 0 (mC (.int (1)))) (mOp fMul (mC (.int (961748941))) (mIxB fIx 0 (mC (.int (2)))))) mNil)) (mC (.int (67280421310679))))) (sSeq (sSet 4 (mOp fAdd (mOp fMul (mOp fMod (mCB (f1 vInt) (mCons (mOp fMul (mVar 3) (mVar 3)) mNil)) (mC (.int (576460752303423389)))) (mVar 3)) (mOp fMul (mC (.int (7919))) (mIxB fIx 0 (mC (.int (2))))))) (sRet (mOp fMod (mCB (f1 vInt) (mCons (mOp fDiv (mOp fMod (mCB (f1 vInt) (mCons (mOp fAdd (mVar 4) (mIxB fIx 0 (mC (.int (1))))) mNil)) (mC (.int (2199023255579)))) (mC (.int (128)))) mNil)) (mVar 1)))))))
def pickM : List Val → MHp → RE Val := mFun 2 2
  (sRet (mOp fIx (mVar 1) (mCall rollM [] (mCons (mVar 0) (mCons (mCB (f1 vLen) (mCons (mVar 1) mNil)) mNil)))))
/-- the dice stand at a, rolled past their own store at most n times -/
def Dice (n : Nat) (h : MHp) (a : Nat) : Prop := ∃ x y z : Int, h[a]? = some (.lst [.int x, .int y, .int z]) ∧ 0 ≤ x ∧ x.natAbs.log2 < 3000 ∧ 0 ≤ y ∧ y < 2305843009213693921 ∧ 0 ≤ z ∧ z ≤ n
theorem Dice.mono {n m : Nat} {h : MHp} {a : Nat} (d : Dice n h a) (l : n ≤ m) : Dice m h a := by
  obtain ⟨x, y, z, e, h1, h2, h3, h4, h5, h6⟩ := d
  exact ⟨x, y, z, e, h1, h2, h3, h4, h5, by omega⟩
theorem Dice.lt {n : Nat} {h : MHp} {a : Nat} (d : Dice n h a) : a < h.length := by
  obtain ⟨x, y, z, e, _⟩ := d
  exact (List.getElem?_eq_some_iff.mp e).1
/-- what a roll leaves: the dice, and all else as it was -/
structure Rl (n : Nat) (a : Nat) (h h' : MHp) : Prop where
  d : Dice n h' a
  len : h'.length = h.length
  fr : ∀ b, b ≠ a → h'[b]? = h[b]?
theorem Rl.refl {n a : Nat} {h : MHp} (d : Dice n h a) : Rl n a h h := ⟨d, rfl, fun _ _ => rfl⟩
theorem Rl.trans {n m a : Nat} {h h1 h2 : MHp} (r : Rl n a h h1) (q : Rl m a h1 h2) : Rl m a h h2 := ⟨q.d, q.len.trans r.len, fun b hb => (q.fr b hb).trans (r.fr b hb)⟩
theorem Rl.mono {n m a : Nat} {h h1 : MHp} (r : Rl n a h h1) (l : n ≤ m) : Rl m a h h1 := ⟨r.d.mono l, r.len, r.fr⟩
theorem Rl.set {n a : Nat} {h h' : MHp} {x y z : Int} (r : h' = h.set a (.lst [.int x, .int y, .int z])) (ha : a < h.length) (h1 : 0 ≤ x) (h2 : x.natAbs.log2 < 3000) (h3 : 0 ≤ y) (h4 : y < 2305843009213693921) (h5 : 0 ≤ z) (h6 : z ≤ n) : Rl n a h h' := by
  subst r
  exact ⟨⟨x, y, z, by simp [ha], h1, h2, h3, h4, h5, h6⟩, by simp, fun b hb => by simp [Ne.symm hb]⟩
theorem log2_mono {a b : Nat} (h : a ≤ b) : a.log2 ≤ b.log2 := by
  by_cases hb : b = 0
  · have : a = 0 := by omega
    subst this; subst hb; exact Nat.le_refl _
  · by_cases ha : a = 0
    · subst ha; simp
    · exact (Nat.le_log2 hb).2 (Nat.le_trans (Nat.log2_self_le ha) h)
theorem log2_lt {a k : Nat} (h : a < 2 ^ k) (hk : 0 < k := by decide) : a.log2 < k := by
  by_cases ha : a = 0
  · subst ha; simpa using hk
  · exact (Nat.log2_lt ha).2 h
theorem log2_lt_int {x : Int} {k : Nat} (h0 : 0 ≤ x) (h : x < 2 ^ k) (hk : 0 < k := by decide) : x.natAbs.log2 < k := by
  refine log2_lt ?_ hk
  have : ((2 ^ k : Nat) : Int) = (2 : Int) ^ k := by norm_cast
  omega
theorem roll_spec {n a : Nat} {h : MHp} {u : Int} (d : Dice n h a) (hn : n ≤ 1000000000) (hu : 0 < u) (hl : u.natAbs.log2 < 9000) : WpF (rollM [.ref a, .int u] h) fun v h' => ∃ r : Int, v = .int r ∧ 0 ≤ r ∧ r < u ∧ Rl (n + 1) a h h' := by
  have hlt := d.lt
  obtain ⟨x, y, z, e, h1, h2, h3, h4, h5, h6⟩ := d
  unfold rollM
  rw [wpF_fun]
  have hs : ∀ c : Cell, (h.set a c)[a]? = some c := fun c => by simp [hlt]
  by_cases hx : 0 < x
  · have hx2 : ¬ x ≤ 0 := by omega
    simp [cont_eq, e, atI, ixN, hs, hx, hu, hl, hx2, and_assoc]
    refine ⟨hlt, Int.emod_nonneg _ (by omega), Int.emod_lt_of_pos _ hu, Rl.set rfl hlt (Int.ediv_nonneg h1 (by omega)) (Nat.lt_of_le_of_lt (log2_mono ?_) h2) h3 h4 h5 (by omega)⟩
    have a1 := Int.ediv_le_self u h1
    have a2 := Int.ediv_nonneg h1 (show 0 ≤ u by omega)
    omega
  · have hx2 : x ≤ 0 := by omega
    simp [cont_eq, e, atI, ixN, hs, hx, hu, hl, hx2, and_assoc]
    have o1 := Int.emod_nonneg (y + 961748941 * (z + 1)) (show (67280421310679 : Int) ≠ 0 by decide)
    have o2 := Int.emod_lt_of_pos (y + 961748941 * (z + 1)) (show (0 : Int) < 67280421310679 by decide)
    generalize (y + 961748941 * (z + 1)) % 67280421310679 = one at o1 o2 ⊢
    have t1 := Int.emod_nonneg (one * one) (show (576460752303423389 : Int) ≠ 0 by decide)
    have t2 := Int.emod_lt_of_pos (one * one) (show (0 : Int) < 576460752303423389 by decide)
    generalize one * one % 576460752303423389 = two at t1 t2 ⊢
    have l1 : (z + 1).natAbs.log2 < 64 := log2_lt_int (by omega) (by omega)
    have l2 : one.natAbs.log2 < 64 := log2_lt_int (by omega) (by omega)
    have l3 : two.natAbs.log2 < 64 := log2_lt_int (by omega) (by omega)
    have k1 : Nat.log2 961748941 = 29 := by decide +kernel
    have k2 : Nat.log2 7919 = 12 := by decide +kernel
    have k3 : Nat.log2 128 = 7 := by decide +kernel
    exact ⟨hlt, by omega, by omega, by omega, by omega, by omega, Int.emod_nonneg _ (by omega), Int.emod_lt_of_pos _ hu, Rl.set rfl hlt h1 h2 h3 h4 (by omega) (by omega)⟩
theorem pick_lst {n a : Nat} {h : MHp} {vs : List Val} (d : Dice n h a) (hn : n ≤ 1000000000) (hv : 0 < vs.length) (hl : vs.length ≤ 1000000000) : WpF (pickM [.ref a, .lst vs] h) fun v h' => v ∈ vs ∧ Rl (n + 1) a h h' := by
  unfold pickM
  rw [wpF_fun]
  simp
  refine (roll_spec d hn (by omega) (by rw [Int.natAbs_natCast]; exact Nat.lt_of_lt_of_le (log2_lt (k := 64) (by omega)) (by decide))).mono ?_
  rintro v h' ⟨r, rfl, h0, h1, R⟩
  obtain ⟨x, e, _, hx⟩ := atI_ok h0 h1
  rw [fIx_lst, e]; exact ⟨hx, R⟩
theorem pick_tup {n a : Nat} {h : MHp} {vs : List Val} (d : Dice n h a) (hn : n ≤ 1000000000) (hv : 0 < vs.length) (hl : vs.length ≤ 1000000000) : WpF (pickM [.ref a, .tup vs] h) fun v h' => v ∈ vs ∧ Rl (n + 1) a h h' := by
  unfold pickM
  rw [wpF_fun]
  simp
  refine (roll_spec d hn (by omega) (by rw [Int.natAbs_natCast]; exact Nat.lt_of_lt_of_le (log2_lt (k := 64) (by omega)) (by decide))).mono ?_
  rintro v h' ⟨r, rfl, h0, h1, R⟩
  obtain ⟨x, e, _, hx⟩ := atI_ok h0 h1
  rw [fIx_tup, e]; exact ⟨hx, R⟩
theorem pick_str {n a : Nat} {h : MHp} {s : Str} (d : Dice n h a) (hn : n ≤ 1000000000) (hv : 0 < s.length) (hl : s.length ≤ 1000000) : WpF (pickM [.ref a, .str s] h) fun v h' => (∃ q ∈ s.cps.toList, v = .str ⟨#[q]⟩) ∧ Rl (n + 1) a h h' := by
  unfold pickM
  rw [wpF_fun]
  have hz : s.length ≤ sizeLine := Nat.le_trans hl (by decide)
  simp [hz]
  refine (roll_spec d hn (by omega) (by rw [Int.natAbs_natCast]; exact Nat.lt_of_lt_of_le (log2_lt (k := 64) (by omega)) (by decide))).mono ?_
  rintro v h' ⟨r, rfl, h0, h1, R⟩
  obtain ⟨x, e, _, hx⟩ := atI_ok (xs := s.cps.toList) h0 (by simpa [Str.length] using h1)
  rw [fIx_str, if_pos hz, e]
  exact ⟨⟨x, by simpa using hx, rfl⟩, R⟩
theorem atI_int {ns : List Int} {i : Nat} (h : i < ns.length) : atI (ns.map Val.int) (i : Int) = some (.int ns[i]) := by
  obtain ⟨x, e, e2, _⟩ := atI_ok (xs := ns.map Val.int) (i := i) (by omega) (by simpa using h)
  rw [e, ← e2]
  simp [h]
theorem bits10 : Builtin.Int.intBits 10 = 4 := by decide +kernel
theorem bits59 : Builtin.Int.intBits 100000000000000000000000000000000000000000000000000000000000 = 196 := by decide +kernel
theorem dice_end {h : MHp} {C G r : Int} (hG : decide (0 < G) = true) (hl : decide (G.natAbs.log2 < 2999) = true) (h1 : 0 ≤ r) (h2 : r < 2305843009213693921) : (C % G).natAbs.log2 + 61 < 1000000 ∧
    Dice 0 (h ++ [Cell.lst [Val.int (if 1000000000000000000 < C % G then C % G - 1000000000000000000 else 0), Val.int r, Val.int 0]]) h.length ∧
    ∀ b, b < h.length → (h ++ [Cell.lst [Val.int (if 1000000000000000000 < C % G then C % G - 1000000000000000000 else 0), Val.int r, Val.int 0]])[b]? = h[b]? := by
  have hG := of_decide_eq_true hG
  have hl := of_decide_eq_true hl
  have o1 := Int.emod_nonneg C (show G ≠ 0 by omega)
  have o2 := Int.emod_lt_of_pos C hG
  generalize C % G = g at o1 o2 ⊢
  have o3 : g.natAbs.log2 < 2999 := Nat.lt_of_le_of_lt (log2_mono (by omega)) hl
  refine ⟨by omega, ⟨_, r, 0, by rw [List.getElem?_append_right (Nat.le_refl _)]; simp only [Nat.sub_self]; rfl, ?_, ?_, h1, h2, by omega, by simp⟩, fun b hb => List.getElem?_append_left hb⟩
  · split <;> omega
  · split
    · exact Nat.lt_of_le_of_lt (log2_mono (show (g - 1000000000000000000).natAbs ≤ g.natAbs by omega)) (by omega)
    · decide
theorem three : 3 ≤ sizeLine := by decide
theorem log2_b {p : Prop} [Decidable p] : 4 + (if p then (1 : Int) else 0).natAbs.log2 < 1000000 := by split <;> decide
theorem dice_spec {ns : List Int} {i : Nat} {h : MHp} (hi : i ≤ 1000000) : WpF (diceM [.fz (ns.map .int), .int i] h) fun v h' => v = .ref h.length ∧ h'.length = h.length + 1 ∧ Dice 0 h' h.length ∧ ∀ b, b < h.length → h'[b]? = h[b]? := by
  have k1 : Nat.log2 41 = 5 := by decide +kernel
  have k2 : Nat.log2 83 = 6 := by decide +kernel
  have k3 : i.log2 < 64 := log2_lt (by omega)
  have k4 : Nat.log2 3202034522624059733 = 61 := by decide +kernel
  have k5 : Nat.log2 19 = 4 := by decide +kernel
  unfold diceM
  rw [wpF_fun]
  by_cases hc : i < ns.length
  · have e := atI_int hc
    generalize ns[i] = cell at e
    simp [hc, e, and_assoc, bits10, bits59, k1, k2, k4, k5]
    exact ⟨(dice_end (h := h) (r := 0) (by decide +kernel) (by decide +kernel) (by decide) (by decide)).1, by omega, log2_b, three, (dice_end (by decide +kernel) (by decide +kernel) (Int.emod_nonneg _ (by decide)) (Int.emod_lt_of_pos _ (by decide))).2⟩
  · simp [hc, and_assoc, bits10, bits59, k1, k2, k4, k5]
    exact ⟨by omega, (dice_end (h := h) (r := 0) (by decide +kernel) (by decide +kernel) (by decide) (by decide)).1, by omega, log2_b, three, (dice_end (by decide +kernel) (by decide +kernel) (Int.emod_nonneg _ (by decide)) (Int.emod_lt_of_pos _ (by decide))).2⟩
end Mir

set_option Elab.async false
set_option linter.all false
set_option maxRecDepth 100000
set_option maxHeartbeats 4000000
/-! more of the calculus -/
namespace Mir
open PySem L2
section
variable {ρ : MEnv} {h : MHp} {E : XE}
section
@[simp] theorem wp_chain {f g : Val → Val → Option Val} {a b d : EM Val} {Q : Val → MEnv → MHp → Prop} : Wp (mChain f g a b d) ρ h E Q ↔ Wp a ρ h E fun x ρ1 h1 => Wp b ρ1 h1 E fun y ρ2 h2 => opt (f x y) fun z => opt (tst z) fun k => ifB k (Wp d ρ2 h2 E fun w ρ3 h3 => opt (g y w) fun u => Q u ρ3 h3) (Q (.bl false) ρ2 h2) := by
  have key : ∀ (y z : Val) (ρ : MEnv) (h : MHp), Wp (match z with
  | .bl true => EM.bind d fun w => EM.lift (g y w)
  | .bl false => EM.pure (.bl false)
  | _ => fun _ _ => .fail) ρ h E Q ↔ opt (tst z) fun k => ifB k (Wp d ρ h E fun w ρ3 h3 => opt (g y w) fun u => Q u ρ3 h3) (Q (.bl false) ρ h) := by
    intro y z ρ h
    cases z with
    | bl z =>
      cases z
      · exact Iff.rfl
      · show Wp (EM.bind d fun w => EM.lift (g y w)) ρ h E Q ↔ _
        rw [wp_bind]; exact Wp.iff fun _ _ _ => wp_lift
    | _ => exact Iff.rfl
  unfold mChain
  rw [wp_bind]
  refine Wp.iff fun x ρ1 h1 => ?_
  rw [wp_bind]
  refine Wp.iff fun y ρ2 h2 => ?_
  rw [wp_bind, wp_lift]
  exact opt_cg fun z => key y z ρ2 h2
end
@[simp] theorem fIn_ss {i j : Str} : fIn (.str i) (.str j) = some (.bl (!(Builtin.Str.occurrences j i 0 j.length 1).isEmpty)) := rfl
@[simp] theorem fNotIn_ss {i j : Str} : fNotIn (.str i) (.str j) = some (.bl (!(!(Builtin.Str.occurrences j i 0 j.length 1).isEmpty))) := rfl
theorem bools_map {f : Val → Bool} {vs : List Val} : bools (vs.map fun v => .bl (f v)) = some (vs.map f) := by
  induction vs with
  | nil => rfl
  | cons v r ih => simp [bools, ih]
theorem vAll_map {f : Val → Bool} {vs : List Val} : vAll (.lst (vs.map fun v => .bl (f v))) = some (.bl (vs.all f)) := by
  simp [vAll, bools_map]
theorem vAny_map {f : Val → Bool} {vs : List Val} : vAny (.lst (vs.map fun v => .bl (f v))) = some (.bl (vs.any f)) := by
  simp [vAny, bools_map]
theorem filterT {vs : List Val} : vs.filter (fun _ => true) = vs := by simp
theorem filter_none {p : Val → Bool} {vs : List Val} : (vs.filter fun v => !p v).isEmpty = vs.all p := by
  induction vs with
  | nil => rfl
  | cons v r ih => cases e : p v <;> simp [e, ih]
theorem nlen {n k : Nat} (hk : 0 < k) : (Str.ofString (Nat.repr n)).length < k + 1 ↔ n < 10 ^ k := by
  rw [PySem.ofString_length, ← Nat.length_repr_le_iff hk]
  omega
theorem abs_eq {i : Int} : (if i < 0 then -i else i) = (i.natAbs : Int) := by split <;> omega
theorem repr_nat {n : Nat} : Int.repr (n : Int) = Nat.repr n := rfl
@[simp] theorem fIs_bb {a b : Bool} : fIs (.bl a) (.bl b) = some (.bl (decide (a = b))) := rfl
theorem eq4 (a b c d a' b' c' d' : Bool) : fEqX (.lst [.bl a, .bl b, .bl c, .bl d]) (.lst [.bl a', .bl b', .bl c', .bl d']) = some (.bl (a == a' && b == b' && c == c' && d == d')) := by
  cases a <;> cases b <;> cases c <;> cases d <;> cases a' <;> cases b' <;> cases c' <;> cases d' <;> rfl
theorem four : 4 ≤ sizeLine := by decide
/-- `[..] == []` -/
@[simp] theorem fEqX_nil {vs : List Val} : fEqX (.lst vs) (.lst []) = some (.bl vs.isEmpty) := by
  cases vs with
  | nil => rfl
  | cons v r => rfl
end
end Mir

set_option Elab.async false
set_option linter.all false
set_option maxRecDepth 100000
set_option maxHeartbeats 4000000
/-! walks that roll -/
namespace Mir
open PySem L2
section
variable {ρ : MEnv} {h : MHp} {E : XE}
theorem wp_comp_roll {i a n : Nat} {elt : EM Val} {Q : List Val → MEnv → MHp → Prop} (P : Val → Prop) (c : Nat) (vs : List Val) (d : Dice n h a) (hb : vs.length ≤ sizeLine)
    (step : ∀ v ∈ vs, ∀ m h', m ≤ n + c * vs.length → Rl m a h h' → Wp elt (ρ.set i (.val v)) h' NoE fun y ρ' h2 => P y ∧ ρ' = ρ.set i (.val v) ∧ Rl (m + c) a h h2)
    (fin : ∀ acc ρ' h', (∀ x, ρ'.set i x = ρ.set i x) → (∀ v ∈ acc, P v) → acc.length = vs.length → Rl (n + c * vs.length) a h h' → Q acc ρ' h') : Wp (compLoop (gmName i) (EM.pure true) elt [i] vs []) ρ h E Q := by
  refine wp_comp_inv (fun r acc ρ' h' => (∀ v ∈ r, v ∈ vs) ∧ (∀ x, ρ'.set i x = ρ.set i x) ∧ (∀ v ∈ acc, P v) ∧ acc.length + r.length = vs.length ∧ Rl (n + c * acc.length) a h h') vs [] (by simpa using hb)
    ⟨fun _ h => h, fun _ => rfl, by simp, by simp, by simpa using Rl.refl d⟩ ?_ ?_
  · rintro v r acc ρ' h' ⟨e0, e1, e2, e3, R⟩
    simp only [List.length_cons] at e3
    have et : gmName i v (wipeM ρ' [i]) = some (ρ.set i (.val v)) := by
      show some (((ρ').set i .un).set i (.val v)) = _
      rw [List.set_set, e1]
    rw [et, opt_some]
    · simp only [wp_pure, ifB_true]
      have hle : n + c * acc.length ≤ n + c * vs.length := Nat.add_le_add_left (Nat.mul_le_mul_left _ (by omega)) _
      refine (step v (e0 v (by simp)) _ h' hle R).mono ?_
      rintro y ρ2 h2 ⟨p, rfl, R2⟩
      refine ⟨fun w hw => e0 w (by simp [hw]), fun x => by rw [List.set_set], ?_, by simp; omega, ?_⟩
      · intro w hw
        rcases List.mem_append.1 hw with hw | hw
        · exact e2 w hw
        · rw [List.mem_singleton.1 hw]; exact p
      · have : n + c * acc.length + c = n + c * (acc ++ [y]).length := by simp [Nat.mul_add]; omega
        rw [← this]; exact R2
  · rintro acc ρ' h' ⟨_, e1, e2, e3, R⟩
    have e3 : acc.length = vs.length := by simpa using e3
    rw [e3] at R
    exact fin acc ρ' h' e1 e2 e3 R
theorem range_ok {j : Int} (h0 : 0 ≤ j) (h1 : j < 1000000) : -(2 ^ 62) ≤ j ∧ j < 2 ^ 62 := by omega
theorem rng_some {j : Int} (h0 : 0 ≤ j) (h1 : j < 1000000) : rng [.int j] = some ((List.range j.toNat).map fun k => .int (k : Nat)) := by
  rw [rng_eq, if_pos (range_ok h0 h1)]
theorem mem_set_or {α : Type} {vs : List α} {j : Nat} {x w : α} (h : w ∈ vs.set j x) : w ∈ vs ∨ w = x := by
  rcases List.mem_or_eq_of_mem_set h with h | h
  · exact .inl h
  · exact .inr h
/-- data that `==` tells: how deep at most -/
def dat (k : Nat) (v : Val) : Prop := ∃ d, toD v = some d ∧ d.canLay0 = true ∧ d.depth ≤ k
def dats (k : Nat) (vs : List Val) : Prop := ∃ ds, toDs vs = some ds ∧ PyData.canLayAll0 ds = true ∧ PyData.depthAll ds ≤ k
theorem dats_of {k : Nat} : ∀ {vs : List Val}, (∀ v ∈ vs, dat k v) → dats k vs
  | [], _ => ⟨[], rfl, rfl, Nat.zero_le _⟩
  | v :: r, h => by
    obtain ⟨d, e1, c1, k1⟩ := h v (by simp)
    obtain ⟨ds, e2, c2, k2⟩ := dats_of (vs := r) fun w hw => h w (by simp [hw])
    refine ⟨d :: ds, by simp [toDs, e1, e2], ?_, ?_⟩
    · rw [PyData.canLayAll0]; simp [c1, c2]
    · rw [PyData.depthAll]; omega
theorem dat_int {i : Int} {k : Nat} : dat k (.int i) := ⟨_, rfl, rfl, Nat.zero_le _⟩
theorem dat_bl {i : Bool} {k : Nat} : dat k (.bl i) := ⟨_, rfl, rfl, Nat.zero_le _⟩
theorem dat_non {k : Nat} : dat k .non := ⟨_, rfl, rfl, Nat.zero_le _⟩
theorem dat_str {s : Str} {k : Nat} (h : PyData.strOk s = true) : dat k (.str s) := ⟨_, rfl, by rw [PyData.canLay0]; exact h, Nat.zero_le _⟩
theorem dat_lst {vs : List Val} {k : Nat} (h : ∀ v ∈ vs, dat k v) : dat (k + 1) (.lst vs) := by
  obtain ⟨ds, e, c, l⟩ := dats_of h
  exact ⟨.list ds, by simp [toD, e], by rw [PyData.canLay0]; exact c, by rw [PyData.depth]; omega⟩
theorem dat_tup {vs : List Val} {k : Nat} (h : ∀ v ∈ vs, dat k v) : dat (k + 1) (.tup vs) := by
  obtain ⟨ds, e, c, l⟩ := dats_of h
  exact ⟨.tuple ds, by simp [toD, e], by rw [PyData.canLay0]; exact c, by rw [PyData.depth]; omega⟩
theorem dat.mono {v : Val} {k j : Nat} (h : dat k v) (l : k ≤ j) : dat j v := by obtain ⟨d, e, c, q⟩ := h; exact ⟨d, e, c, by omega⟩
theorem dat.shaped {v : Val} {k : Nat} (h : dat k v) (l : k ≤ 64 := by decide) : ∃ d, toD v = some d ∧ SeqAt.shaped d = true := by
  obtain ⟨d, e, c, q⟩ := h
  exact ⟨d, e, by unfold SeqAt.shaped; simp [c]; omega⟩
theorem fNe_nil {vs : List Val} {k : Nat} (h : ∀ v ∈ vs, dat k v) (l : k ≤ 63 := by decide) : fNe (.lst vs) (.lst []) = some (.bl (!vs.isEmpty)) := by
  obtain ⟨d, e, s⟩ := (dat_lst h).shaped (by omega)
  unfold fNe eqD
  rw [e, show toD (.lst []) = some (.list []) from rfl]
  dsimp only
  rw [s, show SeqAt.shaped (.list []) = true from rfl]
  cases vs with
  | nil => simp [toD, toDs] at e; subst e; rfl
  | cons v r =>
    simp only [toD, toDs, Option.map_eq_some_iff] at e
    obtain ⟨ds, e, rfl⟩ := e
    split at e
    · cases e; rfl
    · cases e
theorem get_of_set {ρ' : MEnv} {i j : Nat} (e : ∀ x, ρ'.set i x = ρ.set i x) (h : i ≠ j) : ρ'[j]? = ρ[j]? := by
  have := congrArg (fun l : List SV => l[j]?) (e .un)
  simpa [List.getElem?_set, h] using this
theorem one_strOk {q : Nat} (h : q < 1114112) : PyData.strOk ⟨#[q]⟩ = true := by simp [PyData.strOk, h]
@[simp] theorem fEqX_ii {i j : Int} : fEqX (.int i) (.int j) = some (.bl (i == j)) := rfl
def sing (v : Val) : Prop := ∃ q, q < 1114112 ∧ v = .str ⟨#[q]⟩
theorem sing.dat {v : Val} (h : sing v) : dat 0 v := by obtain ⟨q, l, rfl⟩ := h; exact dat_str (one_strOk l)
theorem sing_strs : ∀ {vs : List Val}, (∀ v ∈ vs, sing v) → ∃ ys, strs' vs = some ys ∧ ys.length = vs.length ∧ (ys.map (·.length)).sum = vs.length
  | [], _ => ⟨[], rfl, rfl, rfl⟩
  | v :: r, h => by
    obtain ⟨q, _, rfl⟩ := h v (by simp)
    obtain ⟨ys, e, l, s⟩ := sing_strs (vs := r) fun w hw => h w (by simp [hw])
    refine ⟨⟨#[q]⟩ :: ys, by simp [strs', e], by simp [l], ?_⟩
    rw [List.map_cons, List.sum_cons, s, List.length_cons]
    show 1 + r.length = _
    omega
theorem join_sing {vs : List Val} (h : ∀ v ∈ vs, sing v) (l : vs.length ≤ 100) : ∃ s, vJoin (.str (Str.ofString "")) (.lst vs) = some (.str s) ∧ s.length ≤ 1000 := by
  obtain ⟨ys, e, l1, s1⟩ := sing_strs h
  have e0 : (Str.ofString "").length = 0 := by decide +kernel
  refine ⟨Txt.join (Str.ofString "") ys, ?_, ?_⟩
  · unfold vJoin
    simp only [e, Option.bind_some]
    rw [if_pos]
    rw [s1, e0]; omega
  · have := PyProof.Rows.len_join_le (sep := Str.ofString "") (ys := ys) (n := 200) (by unfold PyProof.Rows.Weighs; rw [s1, l1]; omega) (by rw [e0]; omega)
    omega
section
@[simp] theorem wp_nDict0 {Q : Cell → MEnv → MHp → Prop} : Wp nDict0 ρ h E Q ↔ Q (.dct []) ρ h := by rfl
@[simp] theorem wp_pairs_nil {Q : List (Val × Val) → MEnv → MHp → Prop} : Wp (mPairs []) ρ h E Q ↔ Q [] ρ h := Iff.rfl
@[simp] theorem wp_pairs_cons {a b : EM Val} {r : List (EM Val × EM Val)} {Q : List (Val × Val) → MEnv → MHp → Prop} : Wp (mPairs ((a, b) :: r)) ρ h E Q ↔ Wp a ρ h E fun k ρ1 h1 => Wp b ρ1 h1 E fun v ρ2 h2 => Wp (mPairs r) ρ2 h2 E fun ps ρ3 h3 => Q ((k, v) :: ps) ρ3 h3 := by
  show Wp (EM.bind a fun k => EM.bind b fun v => EM.bind (mPairs r) fun ps => EM.pure ((k, v) :: ps)) ρ h E Q ↔ _
  repeat' (first | exact Iff.rfl | simp only [wp_bind, wp_lift, wp_pure, wp_ite, wp_fail, opt_ite, opt_some, opt_none, opt_map, opt_bind, and_assoc] | simp only [ifB] | simp only [wp_getCont] | simp only [wp_has] | simp only [wp_put] | simp only [wp_noexc] | simp only [wp_lh] | simp only [wp_getL] | refine Wp.iff fun _ _ _ => ?_ | refine opt_cg fun _ => ?_ | refine and_congr Iff.rfl ?_)
@[simp] theorem wp_disp {ps : List (EM Val × EM Val)} {Q : Cell → MEnv → MHp → Prop} : Wp (mDisp ps) ρ h E Q ↔ Wp (mPairs ps) ρ h E fun kvs ρ1 h1 => (kvs.length ≤ 15 ∧ kvs.all (fun kv => isKey kv.1) = true) ∧ Q (.dct (kvs.foldl (fun acc kv => putD acc kv.1 kv.2) [])) ρ1 h1 := by
  rw [mDisp, wp_bind]; exact Wp.iff fun _ _ _ => by rw [wp_lift, opt_ite]
end
@[simp] theorem isKey_int {i : Int} : isKey (.int i) = true := rfl
@[simp] theorem isKey_str {i : Str} : isKey (.str i) = true := rfl
@[simp] theorem fAdd_ll {a b : List Val} : fAdd (.lst a) (.lst b) = if a.length + b.length ≤ sizeLine then some (.lst (a ++ b)) else none := rfl
@[simp] theorem fAdd_ss {a b : Str} : fAdd (.str a) (.str b) = if a.length + b.length ≤ sizeLine then some (.str (a ++ b)) else none := rfl
end
end Mir

set_option Elab.async false
set_option linter.all false
set_option maxRecDepth 100000
set_option maxHeartbeats 4000000
/-! the calculus for the later constructs -/
namespace Mir
open PySem L2
section
variable {α β : Type} {ρ : MEnv} {h : MHp} {E : XE}
@[simp] theorem wp_lh {f : MHp → Option α} {Q : α → MEnv → MHp → Prop} : Wp (EM.lh f) ρ h E Q ↔ opt (f h) fun a => Q a ρ h := by
  unfold Wp EM.lh; cases f h <;> simp
/-! lists -/
def lstL : Val → Option (List Val)
  | .lst vs => some vs
  | _ => none
@[simp] theorem lstL_lst {vs : List Val} : lstL (.lst vs) = some vs := rfl
@[simp] theorem wp_lstV {v : Val} {Q : List Val → MEnv → MHp → Prop} : Wp (lstV v) ρ h E Q ↔ opt (lstL v) fun vs => Q vs ρ h := by
  cases v <;> simp [lstV, lstL]
@[simp] theorem wp_getL {i : Nat} {Q : List Val → MEnv → MHp → Prop} : Wp (getL i) ρ h E Q ↔ opt (cont ρ h i) fun v => opt (lstL v) fun vs => Q vs ρ h := by
  simp only [getL, wp_bind, wp_getCont, wp_lstV]
  cases cont ρ h i with
  | none => rfl
  | some v => cases v <;> simp [lstL]
@[simp] theorem wp_append {i : Nat} {mv : EM Val} {Q : Val → MEnv → MHp → Prop} : Wp (mAppend i mv) ρ h E Q ↔ opt (cont ρ h i) fun u => opt (lstL u) fun _ => Wp mv ρ h E fun v ρ1 h1 => opt (cont ρ1 h1 i) fun x => opt (lstL x) fun vs => vs.length < sizeLine ∧ putS i (.lst (vs ++ [v])) ρ1 h1 (fun ρ2 h2 => Q .non ρ2 h2) ρ1[i]? := by
  unfold mAppend
  repeat' (first | exact Iff.rfl | rw [wp_bind] | rw [wp_lift] | rw [wp_lh] | rw [wp_getL] | rw [wp_getCont] | rw [wp_noexc] | rw [opt_bind] | refine Wp.iff fun _ _ _ => ?_ | refine opt_cg fun _ => ?_ | refine and_congr Iff.rfl ?_)
  rw [wp_ite]; exact ite_cg (by rw [wp_bind, wp_put]; exact Iff.rfl)
def popN (k : Val) (vs : List Val) : Option (Val × List Val) := match k with
  | .int n => (ixN vs.length n).bind fun j => (vs[j]?).bind fun y => if vs.length ≤ sizeLine then some (y, vs.eraseIdx j) else none
  | _ => none
@[simp] theorem popN_int {n : Int} {vs : List Val} : popN (.int n) vs = (ixN vs.length n).bind fun j => (vs[j]?).bind fun y => if vs.length ≤ sizeLine then some (y, vs.eraseIdx j) else none := rfl
theorem wp_popAt0 {i : Nat} {k : Val} {vs : List Val} {Q : Val → MEnv → MHp → Prop} : Wp (popAt i k vs) ρ h E Q ↔ opt (popN k vs) fun r => putS i (.lst r.2) ρ h (Q r.1) ρ[i]? := by
  unfold popAt popN
  cases k with
  | int k =>
    dsimp only
    cases e : ixN vs.length k with
    | none => simp
    | some j =>
      dsimp only
      cases e2 : vs[j]? with
      | none => simp [e2]
      | some y =>
        dsimp only
        by_cases hl : vs.length ≤ sizeLine
        · rw [if_pos hl]; simp only [hl, e2, if_true, Option.bind_some, opt_some, wp_bind, wp_put]; exact Iff.rfl
        · rw [if_neg hl]; simp [hl, e2]
  | _ => simp
@[simp] theorem wp_popAt {i : Nat} {me : EM Val} {Q : Val → MEnv → MHp → Prop} : Wp (mPopAt i me) ρ h E Q ↔ opt (cont ρ h i) fun u => opt (lstL u) fun _ => Wp me ρ h E fun k ρ1 h1 => opt (cont ρ1 h1 i) fun x => opt (lstL x) fun vs => opt (popN k vs) fun r => putS i (.lst r.2) ρ1 h1 (Q r.1) ρ1[i]? := by
  unfold mPopAt
  repeat' (first | exact Iff.rfl | rw [wp_bind] | rw [wp_lift] | rw [wp_lh] | rw [wp_getL] | rw [wp_getCont] | rw [wp_noexc] | rw [opt_bind] | refine Wp.iff fun _ _ _ => ?_ | refine opt_cg fun _ => ?_ | refine and_congr Iff.rfl ?_)
  exact wp_popAt0
@[simp] theorem wp_pop {i : Nat} {Q : Val → MEnv → MHp → Prop} : Wp (mPop i) ρ h E Q ↔ opt (cont ρ h i) fun x => opt (lstL x) fun vs => opt (vs[vs.length - 1]?) fun y => putS i (.lst vs.dropLast) ρ h (Q y) ρ[i]? := by
  simp only [mPop, wp_bind, wp_getL]
  constructor <;> refine fun p => opt_mono p fun x p => opt_mono p fun vs q => ?_
  · cases e : vs[vs.length - 1]? with
    | none => rw [e] at q; exact q.elim
    | some y => rw [e] at q; simp only [wp_bind, wp_put, wp_pure] at q; exact q
  · cases e : vs[vs.length - 1]? with
    | none => rw [e] at q; exact q.elim
    | some y => rw [e] at q; simp only [wp_bind, wp_put, wp_pure]; exact q
@[simp] theorem fAddA_tt {a b : List Val} : fAddA (.tup a) (.tup b) = if a.length + b.length ≤ sizeLine then some (.tup (a ++ b)) else none := rfl
@[simp] theorem fAddA_ll {a b : List Val} : fAddA (.lst a) (.lst b) = if a.length + b.length ≤ sizeLine then some (.lst (a ++ b)) else none := rfl
@[simp] theorem fAddA_ii {a b : Int} : fAddA (.int a) (.int b) = some (.int (a + b)) := rfl
@[simp] theorem fAddA_ss {a b : Str} : fAddA (.str a) (.str b) = if a.length + b.length ≤ sizeLine then some (.str (a ++ b)) else none := rfl
/-! slices -/
@[simp] theorem wp_noPart {Q : Option Int → MEnv → MHp → Prop} : Wp mNoPart ρ h E Q ↔ Q none ρ h := Iff.rfl
@[simp] theorem asInt_int {i : Int} : asInt (.int i) = some i := rfl
@[simp] theorem wp_part {m : EM Val} {Q : Option Int → MEnv → MHp → Prop} : Wp (mPart m) ρ h E Q ↔ Wp m ρ h E fun v ρ1 h1 => opt (asInt v) fun i => Q (some i) ρ1 h1 := by
  unfold mPart
  repeat' (first | exact Iff.rfl | simp only [wp_bind, wp_lift, wp_pure, wp_ite, wp_fail, opt_ite, opt_some, opt_none, opt_map, opt_bind, and_assoc] | simp only [ifB] | simp only [wp_getCont] | simp only [wp_has] | simp only [wp_put] | simp only [wp_noexc] | simp only [wp_lh] | simp only [wp_getL] | refine Wp.iff fun _ _ _ => ?_ | refine opt_cg fun _ => ?_ | refine and_congr Iff.rfl ?_)
@[simp] theorem wp_cut {a : EM Val} {l u : EM (Option Int)} {Q : Val → MEnv → MHp → Prop} : Wp (mCut a l u) ρ h E Q ↔ Wp a ρ h E fun v ρ1 h1 => Wp l ρ1 h1 E fun lo ρ2 h2 => Wp u ρ2 h2 E fun hi ρ3 h3 => opt (fCut v lo hi) fun z => Q z ρ3 h3 := by
  unfold mCut
  repeat' (first | exact Iff.rfl | simp only [wp_bind, wp_lift, wp_pure, wp_ite, wp_fail, opt_ite, opt_some, opt_none, opt_map, opt_bind, and_assoc] | simp only [ifB] | simp only [wp_getCont] | simp only [wp_has] | simp only [wp_put] | simp only [wp_noexc] | simp only [wp_lh] | simp only [wp_getL] | refine Wp.iff fun _ _ _ => ?_ | refine opt_cg fun _ => ?_ | refine and_congr Iff.rfl ?_)
@[simp] theorem wp_cutB {i : Nat} {l u : EM (Option Int)} {Q : Val → MEnv → MHp → Prop} : Wp (mCutB i l u) ρ h E Q ↔ isHas ρ[i]? = true ∧ Wp l ρ h E fun lo ρ2 h2 => Wp u ρ2 h2 E fun hi ρ3 h3 => opt (cont ρ3 h3 i) fun x => isCont x = true ∧ opt (fCut x lo hi) fun z => Q z ρ3 h3 := by
  unfold mCutB
  repeat' (first | exact Iff.rfl | simp only [wp_bind, wp_lift, wp_pure, wp_ite, wp_fail, opt_ite, opt_some, opt_none, opt_map, opt_bind, and_assoc] | simp only [ifB] | simp only [wp_getCont] | simp only [wp_has] | simp only [wp_put] | simp only [wp_noexc] | simp only [wp_lh] | simp only [wp_getL] | refine Wp.iff fun _ _ _ => ?_ | refine opt_cg fun _ => ?_ | refine and_congr Iff.rfl ?_)
@[simp] theorem fCut_tup {vs : List Val} {lo hi : Option Int} : fCut (.tup vs) lo hi = some (.tup (cutL vs lo hi)) := rfl
@[simp] theorem fCut_lst {vs : List Val} {lo hi : Option Int} : fCut (.lst vs) lo hi = some (.lst (cutL vs lo hi)) := rfl
@[simp] theorem fCut_fz {vs : List Val} {lo hi : Option Int} : fCut (.fz vs) lo hi = some (.lst (cutL vs lo hi)) := rfl
theorem cut_to {vs : List α} {n : Int} (h0 : 0 ≤ n) (h1 : n ≤ vs.length) : cutL vs none (some n) = vs.take n.toNat := by
  obtain ⟨k, rfl⟩ := Int.eq_ofNat_of_zero_le h0
  have hk : k ≤ vs.length := by omega
  unfold cutL; rw [HT.sIx_none, HT.sIx_nat]; simp [Nat.min_eq_left hk]
theorem cut_from {vs : List α} {n : Int} (h0 : 0 ≤ n) (h1 : n ≤ vs.length) : cutL vs (some n) none = vs.drop n.toNat := by
  obtain ⟨k, rfl⟩ := Int.eq_ofNat_of_zero_le h0
  have hk : k ≤ vs.length := by omega
  unfold cutL; rw [HT.sIx_none, HT.sIx_nat]; simp only [Nat.min_eq_left hk]; exact List.take_of_length_le (by simp)
/-! pairs, zip, enumerate -/
@[simp] theorem wp_never {Q : Fl → MEnv → MHp → Prop} : Wp sNever ρ h E Q ↔ False := Iff.rfl
@[simp] theorem wp_parNN {i j : Nat} {a b : EM Cell} {Q : Fl → MEnv → MHp → Prop} : Wp (sParNN i j a b) ρ h E Q ↔ Wp a ρ h E fun c1 ρ1 h1 => Wp b ρ1 h1 E fun c2 ρ2 h2 => Q .next ((ρ2.set i (.own c1)).set j (.own c2)) h2 := by
  unfold sParNN
  repeat' (first | exact Iff.rfl | rw [wp_bind] | rw [wp_lift] | rw [wp_lh] | rw [wp_getL] | rw [wp_getCont] | rw [wp_noexc] | rw [opt_bind] | refine Wp.iff fun _ _ _ => ?_ | refine opt_cg fun _ => ?_ | refine and_congr Iff.rfl ?_)
@[simp] theorem wp_parNV {i j : Nat} {a : EM Cell} {b : EM Val} {Q : Fl → MEnv → MHp → Prop} : Wp (sParNV i j a b) ρ h E Q ↔ Wp a ρ h E fun c1 ρ1 h1 => Wp b ρ1 h1 E fun c2 ρ2 h2 => Q .next ((ρ2.set i (.own c1)).set j (.val c2)) h2 := by
  unfold sParNV
  repeat' (first | exact Iff.rfl | rw [wp_bind] | rw [wp_lift] | rw [wp_lh] | rw [wp_getL] | rw [wp_getCont] | rw [wp_noexc] | rw [opt_bind] | refine Wp.iff fun _ _ _ => ?_ | refine opt_cg fun _ => ?_ | refine and_congr Iff.rfl ?_)
@[simp] theorem wp_parVN {i j : Nat} {a : EM Val} {b : EM Cell} {Q : Fl → MEnv → MHp → Prop} : Wp (sParVN i j a b) ρ h E Q ↔ Wp a ρ h E fun c1 ρ1 h1 => Wp b ρ1 h1 E fun c2 ρ2 h2 => Q .next ((ρ2.set i (.val c1)).set j (.own c2)) h2 := by
  unfold sParVN
  repeat' (first | exact Iff.rfl | rw [wp_bind] | rw [wp_lift] | rw [wp_lh] | rw [wp_getL] | rw [wp_getCont] | rw [wp_noexc] | rw [opt_bind] | refine Wp.iff fun _ _ _ => ?_ | refine opt_cg fun _ => ?_ | refine and_congr Iff.rfl ?_)
@[simp] theorem wp_zip {r : EM (List Val)} {Q : List Val → MEnv → MHp → Prop} : Wp (mZip r) ρ h E Q ↔ Wp r ρ h E fun vs ρ1 h1 => opt (zipF vs) fun zs => Q zs ρ1 h1 := by
  unfold mZip
  repeat' (first | exact Iff.rfl | simp only [wp_bind, wp_lift, wp_pure, wp_ite, wp_fail, opt_ite, opt_some, opt_none, opt_map, opt_bind, and_assoc] | simp only [ifB] | simp only [wp_getCont] | simp only [wp_has] | simp only [wp_put] | simp only [wp_noexc] | simp only [wp_lh] | simp only [wp_getL] | refine Wp.iff fun _ _ _ => ?_ | refine opt_cg fun _ => ?_ | refine and_congr Iff.rfl ?_)
@[simp] theorem zipF_ll {vs ws : List Val} : zipF [.lst vs, .lst ws] = some (zipV vs ws) := rfl
@[simp] theorem zipF_tt {vs ws : List Val} : zipF [.tup vs, .tup ws] = some (zipV vs ws) := rfl
def enm : List Val → Option (List Val)
  | [.lst ws] => some (enumV ws)
  | [.fz ws] => some (enumV ws)
  | _ => none
@[simp] theorem enm_lst {vs : List Val} : enm [.lst vs] = some (enumV vs) := rfl
@[simp] theorem enm_fz {vs : List Val} : enm [.fz vs] = some (enumV vs) := rfl
@[simp] theorem wp_enum {r : EM (List Val)} {Q : List Val → MEnv → MHp → Prop} : Wp (mEnum r) ρ h E Q ↔ Wp r ρ h E fun vs ρ1 h1 => opt (enm vs) fun zs => Q zs ρ1 h1 := by
  unfold mEnum
  repeat' (first | exact Iff.rfl | rw [wp_bind] | rw [wp_lift] | rw [wp_lh] | rw [wp_getL] | rw [wp_getCont] | rw [wp_noexc] | rw [opt_bind] | refine Wp.iff fun _ _ _ => ?_ | refine opt_cg fun _ => ?_ | refine and_congr Iff.rfl ?_)
/-! objects -/
def insC (C : Nat) : Option Cell → Option Fld
  | some (.ins C' fs) => if C' = C then some fs else none
  | _ => none
@[simp] theorem insC_ins {C C' : Nat} {fs : Fld} : insC C (some (.ins C' fs)) = if C' = C then some fs else none := rfl
@[simp] theorem insAt_ref {C a : Nat} {h : MHp} : insAt C (.ref a) h = insC C h[a]? := by
  unfold insAt insC; dsimp only
  try (cases h[a]? with
    | none => rfl
    | some c => cases c <;> rfl)
@[simp] theorem wp_fld {C n : Nat} {e : EM Val} {Q : Val → MEnv → MHp → Prop} : Wp (mFld C n e) ρ h E Q ↔ Wp e ρ h E fun v ρ1 h1 => opt (insAt C v h1) fun fs => opt (fs.lookup n) fun x => Q x ρ1 h1 := by
  unfold mFld
  repeat' (first | exact Iff.rfl | rw [wp_bind] | rw [wp_lift] | rw [wp_lh] | rw [wp_getL] | rw [wp_getCont] | rw [wp_noexc] | rw [opt_bind] | refine Wp.iff fun _ _ _ => ?_ | refine opt_cg fun _ => ?_ | refine and_congr Iff.rfl ?_)
@[simp] theorem wp_prop {C : Nat} {m : List Val → MHp → RE Val} {e : EM Val} {Q : Val → MEnv → MHp → Prop} : Wp (mProp C m e) ρ h E Q ↔ Wp e ρ h E fun v ρ1 h1 => opt (insAt C v h1) fun _ => WpG (m [v] h1) NoX fun w h2 => Q w ρ1 h2 := by
  unfold mProp
  rw [wp_bind]
  refine Wp.iff fun v ρ1 h1 => ?_
  rw [wp_bind, wp_lh]
  refine opt_cg fun fs => ⟨fun q => ?_, fun q => ?_⟩
  · unfold Wp at q; unfold WpG; dsimp only at q ⊢; cases e2 : m [v] h1 <;> rw [e2] at q <;> exact q
  · unfold Wp; unfold WpG at q; dsimp only at q ⊢; cases e2 : m [v] h1 <;> rw [e2] at q <;> exact q
def noM (n : Nat) (fs : Fld) : Prop := fs.lookup n = none
@[simp] theorem noM_nil {n : Nat} : noM n [] ↔ True := by simp [noM]
@[simp] theorem noM_cons {n g : Nat} {x : Val} {r : Fld} : noM n ((g, x) :: r) ↔ n ≠ g ∧ noM n r := by
  unfold noM
  rw [List.lookup_cons]
  by_cases e : n = g
  · simp [e]
  · rw [beq_eq_false_iff_ne.2 e]; simp [e]
theorem lk_none {fs : Fld} {n : Nat} {Q : Unit → Prop} : opt (if (fs.lookup n).isNone = true then some () else none) Q ↔ noM n fs ∧ Q () := by
  rw [opt_ite, noM]; cases fs.lookup n <;> simp
@[simp] theorem wp_meth {C n : Nat} {m : List Val → MHp → RE Val} {dv : List Val} {e : EM Val} {r : EM (List Val)} {Q : Val → MEnv → MHp → Prop} : Wp (mMeth C n m dv e r) ρ h E Q ↔ Wp e ρ h E fun v ρ1 h1 => opt (insAt C v h1) fun fs => noM n fs ∧ Wp r ρ1 h1 E fun vs ρ2 h2 => WpG (m (v :: vs ++ dv) h2) (fun C fs h3 => E C fs ρ2 h3) fun w h3 => Q w ρ2 h3 := by
  unfold mMeth
  rw [wp_bind]
  refine Wp.iff fun v ρ1 h1 => ?_
  rw [wp_bind, wp_lh, opt_bind]
  refine opt_cg fun fs => ?_
  rw [lk_none]
  refine and_congr Iff.rfl ?_
  rw [wp_bind]
  refine Wp.iff fun vs ρ2 h2 => ⟨fun q => ?_, fun q => ?_⟩
  · unfold Wp at q; unfold WpG; dsimp only at q ⊢; cases e2 : m (v :: vs ++ dv) h2 <;> rw [e2] at q <;> exact q
  · unfold Wp; unfold WpG at q; dsimp only at q ⊢; cases e2 : m (v :: vs ++ dv) h2 <;> rw [e2] at q <;> exact q
@[simp] theorem wp_make {C : Nat} {m : List Val → MHp → RE Val} {dv : List Val} {r : EM (List Val)} {Q : Val → MEnv → MHp → Prop} : Wp (mMake C m dv r) ρ h E Q ↔ Wp r ρ h E fun vs ρ1 h1 => WpG (m (.ref h1.length :: (vs ++ dv)) (h1 ++ [.ins C []])) (fun C fs h2 => E C fs ρ1 h2) fun w h2 => w = .non ∧ Q (.ref h1.length) ρ1 h2 := by
  simp only [mMake, wp_bind]
  constructor <;> refine fun p => p.mono ?_
  · rintro vs ρ1 h1 q
    unfold Wp at q; unfold WpG; dsimp only at q ⊢
    cases e2 : m (.ref h1.length :: (vs ++ dv)) (h1 ++ [.ins C []]) with
    | ok w ρ2 h2 => rw [e2] at q; cases w <;> first | exact ⟨rfl, q⟩ | exact q.elim
    | exc C fs ρ2 h2 => rw [e2] at q; exact q
    | fail => rw [e2] at q; exact q
  · rintro vs ρ1 h1 q
    unfold Wp; unfold WpG at q; dsimp only at q ⊢
    cases e2 : m (.ref h1.length :: (vs ++ dv)) (h1 ++ [.ins C []]) with
    | ok w ρ2 h2 => rw [e2] at q; obtain ⟨rfl, q⟩ := q; exact q
    | exc C fs ρ2 h2 => rw [e2] at q; exact q
    | fail => rw [e2] at q; exact q
def setF (C n : Nat) (v x : Val) (h : MHp) (Q : MHp → Prop) [Inhabited (Tg Q)] : Prop := match x with
  | .ref a => opt (insC C h[a]?) fun fs => fs.length < 1000 ∧ Q (h.set a (.ins C (putFM n v fs)))
  | _ => False
@[simp] theorem setF_ref {C n a : Nat} {v : Val} {Q : MHp → Prop} : setF C n v (.ref a) h Q ↔ opt (insC C h[a]?) fun fs => fs.length < 1000 ∧ Q (h.set a (.ins C (putFM n v fs))) := Iff.rfl
theorem wp_setFld {C n : Nat} {v x : Val} {Q : Fl → MEnv → MHp → Prop} : Wp (setFld C n v x) ρ h E Q ↔ setF C n v x h fun h' => Q .next ρ h' := by
  unfold setFld
  cases x with
  | ref a =>
    rw [setF_ref]; unfold Wp; dsimp only; rw [insAt_ref]
    cases insC C h[a]? with
    | none => simp
    | some fs => dsimp only; by_cases hl : fs.length < 1000 <;> simp [hl]
  | _ => exact Iff.rfl
@[simp] theorem wp_fldSet {C n : Nat} {mo mv : EM Val} {Q : Fl → MEnv → MHp → Prop} : Wp (sFldSet C n mo mv) ρ h E Q ↔ Wp mv ρ h E fun v ρ1 h1 => Wp mo ρ1 h1 E fun x ρ2 h2 => setF C n v x h2 fun h3 => Q .next ρ2 h3 := by
  unfold sFldSet
  rw [wp_bind]
  refine Wp.iff fun v ρ1 h1 => ?_
  rw [wp_bind]
  exact Wp.iff fun x ρ2 h2 => wp_setFld
@[simp] theorem putFM_nil {n : Nat} {v : Val} : putFM n v [] = [(n, v)] := rfl
@[simp] theorem putFM_cons {n g : Nat} {v x : Val} {r : Fld} : putFM n v ((g, x) :: r) = if g = n then (g, v) :: r else (g, x) :: putFM n v r := rfl
/-! exceptions -/
@[simp] theorem wp_raise0 {C : Nat} {r : EM (List Val)} {Q : Fl → MEnv → MHp → Prop} : Wp (sRaise0 C r) ρ h E Q ↔ Wp r ρ h E fun vs ρ1 h1 => vs.length = 1 ∧ E C [] ρ1 h1 := by
  simp only [sRaise0, wp_bind]
  constructor <;> refine fun p => p.mono ?_
  · rintro vs ρ1 h1 q
    match vs, q with
    | [_], q => exact ⟨rfl, q⟩
  · rintro vs ρ1 h1 ⟨l, q⟩
    match vs, l with
    | [_], _ => exact q
def one1 (n : Nat) (vs : List Val) (Q : Fld → Prop) [Inhabited (Tg Q)] : Prop := match vs with
  | [v] => Q [(n, v)]
  | _ => False
@[simp] theorem one1_eq {n : Nat} {v : Val} {Q : Fld → Prop} : one1 n [v] Q ↔ Q [(n, v)] := Iff.rfl
@[simp] theorem wp_raise1 {C n : Nat} {r : EM (List Val)} {Q : Fl → MEnv → MHp → Prop} : Wp (sRaise1 C n r) ρ h E Q ↔ Wp r ρ h E fun vs ρ1 h1 => one1 n vs fun fs => E C fs ρ1 h1 := by
  simp only [sRaise1, wp_bind]
  constructor <;> refine fun p => p.mono ?_
  · rintro vs ρ1 h1 q
    match vs, q with
    | [_], q => exact q
  · rintro vs ρ1 h1 q
    match vs, q with
    | [_], q => exact q
@[simp] theorem wp_try {sub : Nat → Nat → Option Bool} {body : SM} {hs : List HdM} {Q : Fl → MEnv → MHp → Prop} : Wp (sTry sub body hs) ρ h E Q ↔ Wp body ρ h (fun C fs ρ' h' => Wp (mHandle sub hs C fs) ρ' h' E Q) Q := by
  unfold Wp sTry; cases body ρ h <;> rfl
def hdl (o : Option Bool) (a b : Prop) [Inhabited (Tg (a, b))] : Prop := match o with
  | some true => a
  | some false => b
  | none => False
@[simp] theorem hdl_t {a b : Prop} : hdl (some true) a b ↔ a := Iff.rfl
@[simp] theorem hdl_f {a b : Prop} : hdl (some false) a b ↔ b := Iff.rfl
@[simp] theorem wp_handle_nil {sub : Nat → Nat → Option Bool} {C : Nat} {fs : Fld} {Q : Fl → MEnv → MHp → Prop} : Wp (mHandle sub [] C fs) ρ h E Q ↔ E C fs ρ h := Iff.rfl
@[simp] theorem wp_handle_cons {sub : Nat → Nat → Option Bool} {D : Nat} {s : Nat → Fld → SM} {r : List HdM} {C : Nat} {fs : Fld} {Q : Fl → MEnv → MHp → Prop} : Wp (mHandle sub ((D, s) :: r) C fs) ρ h E Q ↔ hdl (sub C D) (Wp (s C fs) ρ h E Q) (Wp (mHandle sub r C fs) ρ h E Q) := by
  rw [show mHandle sub ((D, s) :: r) C fs = match sub C D with
    | some true => s C fs
    | some false => mHandle sub r C fs
    | none => fun _ _ => .fail from rfl]
  cases sub C D with
  | none => rfl
  | some b => cases b <;> rfl
@[simp] theorem wp_noexcS {m : SM} {Q : Fl → MEnv → MHp → Prop} : Wp (noexcS m) ρ h E Q ↔ Wp m ρ h NoE Q := by
  unfold Wp noexcS; cases m ρ h <;> rfl
@[simp] theorem wp_asRun {i : Nat} {s : SM} {C : Nat} {fs : Fld} {Q : Fl → MEnv → MHp → Prop} : Wp (asRun i s C fs) ρ h E Q ↔ (ρ.set i .un).any isXv = false ∧ Wp s (ρ.set i (.xv C fs)) h NoE fun fl ρ' h' => (ρ'.set i .un).any isXv = false ∧ Q fl (ρ'.set i .un) h' := by
  unfold asRun Wp
  by_cases e : (ρ.set i .un).any isXv = true
  · simp only [e, if_true]; simp
  · simp only [e, if_false]
    cases s (ρ.set i (.xv C fs)) h with
    | ok fl ρ' h' => dsimp only; by_cases e2 : (ρ'.set i .un).any isXv = true <;> simp [e2, Bool.eq_false_iff.2 e]
    | exc C fs ρ' h' => simp
    | fail => simp
def xvF (C : Nat) : Option SV → Option Fld
  | some (.xv C' fs) => if C' = C then some fs else none
  | _ => none
@[simp] theorem xvF_xv {C C' : Nat} {fs : Fld} : xvF C (some (.xv C' fs)) = if C' = C then some fs else none := rfl
@[simp] theorem wp_xf {C i n : Nat} {Q : Val → MEnv → MHp → Prop} : Wp (mXf C i n) ρ h E Q ↔ opt (xvF C ρ[i]?) fun fs => opt (fs.lookup n) fun v => Q v ρ h := by
  unfold Wp mXf
  cases ρ[i]? with
  | none => simp [xvF]
  | some sv =>
    cases sv with
    | xv C' fs =>
      simp only [xvF_xv]
      by_cases e : C' = C
      · simp only [e, if_true]; cases e2 : fs.lookup n <;> simp [e2]
      · simp [e]
    | _ => simp [xvF]
@[simp] theorem isXv_val {v : Val} : isXv (.val v) = false := rfl
@[simp] theorem isXv_un : isXv .un = false := rfl
@[simp] theorem isXv_own {c : Cell} : isXv (.own c) = false := rfl
/-! reversals, == with (), isinstance, stars, lists -/
@[simp] theorem wp_rev {a : EM Val} {Q : Val → MEnv → MHp → Prop} : Wp (mRev a) ρ h E Q ↔ Wp a ρ h E fun v ρ1 h1 => opt (vRev v) fun z => Q z ρ1 h1 := by
  unfold mRev
  repeat' (first | exact Iff.rfl | simp only [wp_bind, wp_lift, wp_pure, wp_ite, wp_fail, opt_ite, opt_some, opt_none, opt_map, opt_bind, and_assoc] | simp only [ifB] | simp only [wp_getCont] | simp only [wp_has] | simp only [wp_put] | simp only [wp_noexc] | simp only [wp_lh] | simp only [wp_getL] | refine Wp.iff fun _ _ _ => ?_ | refine opt_cg fun _ => ?_ | refine and_congr Iff.rfl ?_)
@[simp] theorem vRev_tup {vs : List Val} : vRev (.tup vs) = some (.tup vs.reverse) := rfl
@[simp] theorem vRev_lst {vs : List Val} : vRev (.lst vs) = some (.lst vs.reverse) := rfl
@[simp] theorem fEqY_nil {vs : List Val} : fEqY (.tup vs) (.tup []) = some (.bl vs.isEmpty) := rfl
def clsC : Option Cell → Option (String ⊕ Nat)
  | some (.ins C _) => some (.inr C)
  | some (.lst _) => some (.inl "list")
  | some (.dct _) => some (.inl "dict")
  | none => none
@[simp] theorem clsOf_ref {a : Nat} {h : MHp} : clsOf (.ref a) h = clsC h[a]? := by
  unfold clsOf clsC; dsimp only
  try (cases h[a]? with
    | none => rfl
    | some c => cases c <;> rfl)
@[simp] theorem clsC_ins {C : Nat} {fs : Fld} : clsC (some (.ins C fs)) = some (.inr C) := rfl
@[simp] theorem clsC_lst {fs : List Val} : clsC (some (.lst fs)) = some (.inl "list") := rfl
@[simp] theorem clsC_dct {fs : List (Val × Val)} : clsC (some (.dct fs)) = some (.inl "dict") := rfl
@[simp] theorem clsOf_non {h : MHp} : clsOf .non h = some (.inl "NoneType") := rfl
@[simp] theorem clsOf_bl {b : Bool} {h : MHp} : clsOf (.bl b) h = some (.inl "bool") := rfl
@[simp] theorem clsOf_int {b : Int} {h : MHp} : clsOf (.int b) h = some (.inl "int") := rfl
@[simp] theorem clsOf_str {b : Str} {h : MHp} : clsOf (.str b) h = some (.inl "str") := rfl
@[simp] theorem clsOf_tup {b : List Val} {h : MHp} : clsOf (.tup b) h = some (.inl "tuple") := rfl
@[simp] theorem clsOf_lst {b : List Val} {h : MHp} : clsOf (.lst b) h = some (.inl "list") := rfl
@[simp] theorem clsOf_dct {b : List (Val × Val)} {h : MHp} : clsOf (.dct b) h = some (.inl "dict") := rfl
def isaF (it : String ⊕ Nat → Option Bool) : Option (String ⊕ Nat) → Option Val
  | some t => (it t).map .bl
  | none => none
@[simp] theorem isaF_some {it : String ⊕ Nat → Option Bool} {t : String ⊕ Nat} : isaF it (some t) = (it t).map .bl := rfl
@[simp] theorem wp_isA {it : String ⊕ Nat → Option Bool} {a : EM Val} {Q : Val → MEnv → MHp → Prop} : Wp (mIsA it a) ρ h E Q ↔ Wp a ρ h E fun v ρ1 h1 => opt (isaF it (clsOf v h1)) fun z => Q z ρ1 h1 := by
  have e : ∀ o : Option (String ⊕ Nat), (o.bind fun t => (it t).map Val.bl) = isaF it o := fun o => by cases o <;> rfl
  unfold mIsA
  rw [wp_bind]
  exact Wp.iff fun v ρ1 h1 => by rw [wp_lh, e]
@[simp] theorem isTab_inl {T S : String} {own : List Nat} : isTab T own (.inl S) = kitB S T := rfl
@[simp] theorem isTab_inr {T : String} {own : List Nat} {C : Nat} : isTab T own (.inr C) = if own.contains C then some false else none := rfl
@[simp] theorem kit_NoneType_bool : kitB "NoneType" "bool" = some false := by decide +kernel
@[simp] theorem kit_NoneType_int : kitB "NoneType" "int" = some false := by decide +kernel
@[simp] theorem kit_NoneType_str : kitB "NoneType" "str" = some false := by decide +kernel
@[simp] theorem kit_NoneType_tuple : kitB "NoneType" "tuple" = some false := by decide +kernel
@[simp] theorem kit_NoneType_list : kitB "NoneType" "list" = some false := by decide +kernel
@[simp] theorem kit_NoneType_dict : kitB "NoneType" "dict" = some false := by decide +kernel
@[simp] theorem kit_bool_bool : kitB "bool" "bool" = some true := by decide +kernel
@[simp] theorem kit_bool_int : kitB "bool" "int" = some true := by decide +kernel
@[simp] theorem kit_bool_str : kitB "bool" "str" = some false := by decide +kernel
@[simp] theorem kit_bool_tuple : kitB "bool" "tuple" = some false := by decide +kernel
@[simp] theorem kit_bool_list : kitB "bool" "list" = some false := by decide +kernel
@[simp] theorem kit_bool_dict : kitB "bool" "dict" = some false := by decide +kernel
@[simp] theorem kit_int_bool : kitB "int" "bool" = some false := by decide +kernel
@[simp] theorem kit_int_int : kitB "int" "int" = some true := by decide +kernel
@[simp] theorem kit_int_str : kitB "int" "str" = some false := by decide +kernel
@[simp] theorem kit_int_tuple : kitB "int" "tuple" = some false := by decide +kernel
@[simp] theorem kit_int_list : kitB "int" "list" = some false := by decide +kernel
@[simp] theorem kit_int_dict : kitB "int" "dict" = some false := by decide +kernel
@[simp] theorem kit_str_bool : kitB "str" "bool" = some false := by decide +kernel
@[simp] theorem kit_str_int : kitB "str" "int" = some false := by decide +kernel
@[simp] theorem kit_str_str : kitB "str" "str" = some true := by decide +kernel
@[simp] theorem kit_str_tuple : kitB "str" "tuple" = some false := by decide +kernel
@[simp] theorem kit_str_list : kitB "str" "list" = some false := by decide +kernel
@[simp] theorem kit_str_dict : kitB "str" "dict" = some false := by decide +kernel
@[simp] theorem kit_tuple_bool : kitB "tuple" "bool" = some false := by decide +kernel
@[simp] theorem kit_tuple_int : kitB "tuple" "int" = some false := by decide +kernel
@[simp] theorem kit_tuple_str : kitB "tuple" "str" = some false := by decide +kernel
@[simp] theorem kit_tuple_tuple : kitB "tuple" "tuple" = some true := by decide +kernel
@[simp] theorem kit_tuple_list : kitB "tuple" "list" = some false := by decide +kernel
@[simp] theorem kit_tuple_dict : kitB "tuple" "dict" = some false := by decide +kernel
@[simp] theorem kit_list_bool : kitB "list" "bool" = some false := by decide +kernel
@[simp] theorem kit_list_int : kitB "list" "int" = some false := by decide +kernel
@[simp] theorem kit_list_str : kitB "list" "str" = some false := by decide +kernel
@[simp] theorem kit_list_tuple : kitB "list" "tuple" = some false := by decide +kernel
@[simp] theorem kit_list_list : kitB "list" "list" = some true := by decide +kernel
@[simp] theorem kit_list_dict : kitB "list" "dict" = some false := by decide +kernel
@[simp] theorem kit_dict_bool : kitB "dict" "bool" = some false := by decide +kernel
@[simp] theorem kit_dict_int : kitB "dict" "int" = some false := by decide +kernel
@[simp] theorem kit_dict_str : kitB "dict" "str" = some false := by decide +kernel
@[simp] theorem kit_dict_tuple : kitB "dict" "tuple" = some false := by decide +kernel
@[simp] theorem kit_dict_list : kitB "dict" "list" = some false := by decide +kernel
@[simp] theorem kit_dict_dict : kitB "dict" "dict" = some true := by decide +kernel
@[simp] theorem wp_nList {a : EM Val} {Q : Cell → MEnv → MHp → Prop} : Wp (nList a) ρ h E Q ↔ Wp a ρ h E fun v ρ1 h1 => opt (seqOf v) fun vs => Q (.lst vs) ρ1 h1 := by
  simp only [nList, wp_bind, wp_lift]
  constructor <;> refine fun p => p.mono fun v ρ1 h1 q => ?_ <;> cases v <;> exact q
@[simp] theorem wp_nListB {i : Nat} {Q : Cell → MEnv → MHp → Prop} : Wp (nListB i) ρ h E Q ↔ opt (cont ρ h i) fun x => isCont x = true ∧ opt (seqOf x) fun vs => Q (.lst vs) ρ h := by
  simp only [nListB, wp_bind, wp_lift, wp_getCont]
  constructor <;> refine fun p => opt_mono p fun v q => ⟨q.1, ?_⟩ <;> cases v <;> exact q.2
@[simp] theorem seqOf_lst {vs : List Val} : seqOf (.lst vs) = some vs := rfl
@[simp] theorem seqOf_tup {vs : List Val} : seqOf (.tup vs) = some vs := rfl
@[simp] theorem seqOf_fz {vs : List Val} : seqOf (.fz vs) = some vs := rfl
@[simp] theorem addL_ll {a b : List Val} : addL (.lst a) (.lst b) = if a.length + b.length ≤ sizeLine then some (.lst (a ++ b)) else none := rfl
@[simp] theorem wp_nAdd {a b : EM Val} {Q : Cell → MEnv → MHp → Prop} : Wp (nAdd a b) ρ h E Q ↔ Wp a ρ h E fun x ρ1 h1 => Wp b ρ1 h1 E fun y ρ2 h2 => opt (addL x y) fun z => Q z ρ2 h2 := by
  unfold nAdd
  repeat' (first | exact Iff.rfl | rw [wp_bind] | rw [wp_lift] | rw [wp_lh] | rw [wp_getL] | rw [wp_getCont] | rw [wp_noexc] | rw [opt_bind] | refine Wp.iff fun _ _ _ => ?_ | refine opt_cg fun _ => ?_ | refine and_congr Iff.rfl ?_)
@[simp] theorem wp_nAddB {i : Nat} {b : EM Val} {Q : Cell → MEnv → MHp → Prop} : Wp (nAddB i b) ρ h E Q ↔ isHas ρ[i]? = true ∧ Wp b ρ h E fun y ρ1 h1 => opt (cont ρ1 h1 i) fun x => isCont x = true ∧ opt (addL x y) fun z => Q z ρ1 h1 := by
  unfold nAddB
  repeat' (first | exact Iff.rfl | simp only [wp_bind, wp_lift, wp_pure, wp_ite, wp_fail, opt_ite, opt_some, opt_none, opt_map, opt_bind, and_assoc] | simp only [ifB] | simp only [wp_getCont] | simp only [wp_has] | simp only [wp_put] | simp only [wp_noexc] | simp only [wp_lh] | simp only [wp_getL] | refine Wp.iff fun _ _ _ => ?_ | refine opt_cg fun _ => ?_ | refine and_congr Iff.rfl ?_)
@[simp] theorem wp_star {a : EM Val} {r : EM (List Val)} {Q : List Val → MEnv → MHp → Prop} : Wp (mStar a r) ρ h E Q ↔ Wp a ρ h E fun v ρ1 h1 => opt (seqOf v) fun vs => Wp r ρ1 h1 E fun ws ρ2 h2 => Q (vs ++ ws) ρ2 h2 := by
  unfold mStar
  repeat' (first | exact Iff.rfl | simp only [wp_bind, wp_lift, wp_pure, wp_ite, wp_fail, opt_ite, opt_some, opt_none, opt_map, opt_bind, and_assoc] | simp only [ifB] | simp only [wp_getCont] | simp only [wp_has] | simp only [wp_put] | simp only [wp_noexc] | simp only [wp_lh] | simp only [wp_getL] | refine Wp.iff fun _ _ _ => ?_ | refine opt_cg fun _ => ?_ | refine and_congr Iff.rfl ?_)
/-! effectful targets -/
@[simp] theorem wp_teName {i : Nat} {v : Val} {Q : Unit → MEnv → MHp → Prop} : Wp (teName i v) ρ h E Q ↔ Q () (ρ.set i (.val v)) h := Iff.rfl
theorem wp_putFld {C n : Nat} {v x : Val} {Q : Unit → MEnv → MHp → Prop} : Wp (putFld C n v x) ρ h E Q ↔ setF C n v x h fun h' => Q () ρ h' := by
  unfold putFld
  cases x with
  | ref a =>
    rw [setF_ref]; unfold Wp; dsimp only; rw [insAt_ref]
    cases insC C h[a]? with
    | none => simp
    | some fs => dsimp only; by_cases hl : fs.length < 1000 <;> simp [hl]
  | _ => exact Iff.rfl
@[simp] theorem wp_teFld {C n : Nat} {mo : EM Val} {v : Val} {Q : Unit → MEnv → MHp → Prop} : Wp (teFld C n mo v) ρ h E Q ↔ Wp mo ρ h E fun x ρ2 h2 => setF C n v x h2 fun h3 => Q () ρ2 h3 := by
  unfold teFld
  rw [wp_bind]
  exact Wp.iff fun x ρ2 h2 => wp_putFld
def putI (i : Nat) (v k : Val) (vs : List Val) (ρ : MEnv) (h : MHp) (Q : MEnv → MHp → Prop) [Inhabited (Tg Q)] : Prop := match k with
  | .int k => opt (ixN vs.length k) fun j => putS i (.lst (vs.set j v)) ρ h Q ρ[i]?
  | _ => False
@[simp] theorem putI_int {i : Nat} {v : Val} {k : Int} {vs : List Val} {Q : MEnv → MHp → Prop} : putI i v (.int k) vs ρ h Q ↔ opt (ixN vs.length k) fun j => putS i (.lst (vs.set j v)) ρ h Q ρ[i]? := Iff.rfl
theorem wp_putIx {i : Nat} {v k : Val} {vs : List Val} {Q : Unit → MEnv → MHp → Prop} : Wp (putIx i v k vs) ρ h E Q ↔ putI i v k vs ρ h (Q ()) := by
  unfold putIx
  cases k with
  | int k => dsimp only; rw [putI_int]; cases ixN vs.length k <;> simp
  | _ => rfl
@[simp] theorem wp_teSub {i : Nat} {me : EM Val} {v : Val} {Q : Unit → MEnv → MHp → Prop} : Wp (teSub i me v) ρ h E Q ↔ opt (cont ρ h i) fun u => opt (lstL u) fun _ => Wp me ρ h E fun k ρ1 h1 => opt (cont ρ1 h1 i) fun x => opt (lstL x) fun vs => putI i v k vs ρ1 h1 (Q ()) := by
  unfold teSub
  repeat' (first | exact Iff.rfl | rw [wp_bind] | rw [wp_lift] | rw [wp_lh] | rw [wp_getL] | rw [wp_getCont] | rw [wp_noexc] | rw [opt_bind] | refine Wp.iff fun _ _ _ => ?_ | refine opt_cg fun _ => ?_ | refine and_congr Iff.rfl ?_)
  exact wp_putIx
@[simp] theorem wp_teNil {Q : Unit → MEnv → MHp → Prop} : Wp (teNil []) ρ h E Q ↔ Q () ρ h := Iff.rfl
@[simp] theorem wp_teCons {a : TgE} {b : List Val → EM Unit} {v : Val} {r : List Val} {Q : Unit → MEnv → MHp → Prop} : Wp (teCons a b (v :: r)) ρ h E Q ↔ Wp (a v) ρ h E fun _ ρ1 h1 => Wp (b r) ρ1 h1 E Q := by
  show Wp (EM.bind _ _) ρ h E Q ↔ _
  rw [wp_bind]
@[simp] theorem wp_teTup {n : Nat} {b : List Val → EM Unit} {vs : List Val} {Q : Unit → MEnv → MHp → Prop} : Wp (teTup n b (.tup vs)) ρ h E Q ↔ vs.length = n ∧ Wp (b vs) ρ h E Q := by
  unfold teTup; dsimp only; by_cases e : vs.length = n <;> simp [e]
@[simp] theorem wp_asgE {tg : TgE} {m : EM Val} {Q : Fl → MEnv → MHp → Prop} : Wp (sAsgE tg m) ρ h E Q ↔ Wp m ρ h E fun v ρ1 h1 => Wp (tg v) ρ1 h1 NoE fun _ ρ2 h2 => Q .next ρ2 h2 := by
  unfold sAsgE
  repeat' (first | exact Iff.rfl | rw [wp_bind] | rw [wp_lift] | rw [wp_lh] | rw [wp_getL] | rw [wp_getCont] | rw [wp_noexc] | rw [opt_bind] | refine Wp.iff fun _ _ _ => ?_ | refine opt_cg fun _ => ?_ | refine and_congr Iff.rfl ?_)
/-! pure targets -/
@[simp] theorem gm_tup {n : Nat} {b : TgsM} {vs : List Val} : gmTup n b (.tup vs) ρ = if vs.length = n then b vs ρ else none := rfl
@[simp] theorem gm_nil : gmNil [] ρ = some ρ := rfl
@[simp] theorem gm_cons {a : TgM} {b : TgsM} {v : Val} {r : List Val} : gmCons a b (v :: r) ρ = (a v ρ).bind fun ρ1 => b r ρ1 := rfl
/-! while -/
theorem wp_while_succ {t : EM Bool} {body : SM} {n : Nat} {Q : Fl → MEnv → MHp → Prop} : Wp (whileLoop t body (n + 1)) ρ h E Q ↔ Wp t ρ h E fun k ρ1 h1 => ifB k (Wp body ρ1 h1 E (onTurn (fun ρ' h' => Wp (whileLoop t body n) ρ' h' E Q) Q)) (Q .next ρ1 h1) := by
  unfold ifB
  have e : whileLoop t body (n + 1) = EM.bind t fun k => if k = true then fun ρ h => match body ρ h with
      | .ok .next ρ' h' => whileLoop t body n ρ' h'
      | .ok .cont ρ' h' => whileLoop t body n ρ' h'
      | .ok .brk ρ' h' => .ok .next ρ' h'
      | x => x
    else EM.pure .next := rfl
  rw [e, wp_bind]
  constructor <;> refine fun p => p.mono fun k ρ1 h1 q => ?_
  · cases k
    · exact q
    · show Wp body ρ1 h1 E _
      change Wp (fun ρ h => match body ρ h with
        | .ok .next ρ' h' => whileLoop t body n ρ' h'
        | .ok .cont ρ' h' => whileLoop t body n ρ' h'
        | .ok .brk ρ' h' => .ok .next ρ' h'
        | x => x) ρ1 h1 E Q at q
      unfold Wp at q ⊢
      dsimp only at q
      cases e2 : body ρ1 h1 with
      | ok f ρ' h' => rw [e2] at q; cases f <;> exact q
      | exc C fs ρ' h' => rw [e2] at q; exact q
      | fail => rw [e2] at q; exact q
  · cases k
    · exact q
    · change Wp body ρ1 h1 E _ at q
      show Wp (fun ρ h => match body ρ h with
        | .ok .next ρ' h' => whileLoop t body n ρ' h'
        | .ok .cont ρ' h' => whileLoop t body n ρ' h'
        | .ok .brk ρ' h' => .ok .next ρ' h'
        | x => x) ρ1 h1 E Q
      unfold Wp at q ⊢
      dsimp only
      cases e2 : body ρ1 h1 with
      | ok f ρ' h' => rw [e2] at q; cases f <;> exact q
      | exc C fs ρ' h' => rw [e2] at q; exact q
      | fail => rw [e2] at q; exact q
/-- a while by an invariant with a measure -/
theorem wp_while_inv {t : EM Bool} {body : SM} {Q : Fl → MEnv → MHp → Prop} (I : Nat → MEnv → MHp → Prop) (m n : Nat) (hm : m < n) (h0 : I m ρ h)
    (step : ∀ m ρ h, I m ρ h → Wp t ρ h E fun k ρ1 h1 => ifB k (Wp body ρ1 h1 E (onTurn (fun ρ' h' => ∃ j, j < m ∧ I j ρ' h') Q)) (Q .next ρ1 h1)) : Wp (whileLoop t body n) ρ h E Q := by
  induction n generalizing m ρ h with
  | zero => omega
  | succ n ih =>
    rw [wp_while_succ]
    refine (step m ρ h h0).mono fun k ρ1 h1 q => ?_
    unfold ifB at q ⊢
    split at q
    · rw [if_pos (by assumption)]
      refine q.mono fun f ρ' h' q => ?_
      cases f with
      | next => obtain ⟨j, hj, q⟩ := q; exact ih j (by omega) q
      | cont => obtain ⟨j, hj, q⟩ := q; exact ih j (by omega) q
      | brk => exact q
      | ret v => exact q
    · rw [if_neg (by assumption)]; exact q
end
end Mir

set_option Elab.async false
set_option linter.all false
set_option maxRecDepth 100000
set_option maxHeartbeats 4000000
/-! data, texts, rolls beside new cells -/
namespace Mir
open PySem L2
/-! == of a value with itself -/
theorem dat.self {v : Val} {k : Nat} (h : dat k v) (l : k ≤ 64 := by decide) : eqD v v = some true := by
  obtain ⟨d, e, s⟩ := h.shaped l
  unfold eqD; rw [e]; dsimp only; rw [s]
  simp [SeqAt.eqv_refl d (SeqAt.canLay_of_shaped s)]
theorem fNe_self {v : Val} {k : Nat} (h : dat k v) (l : k ≤ 64 := by decide) : fNe v v = some (.bl false) := by
  unfold fNe; rw [h.self l]; rfl
theorem fEq_self {v : Val} {k : Nat} (h : dat k v) (l : k ≤ 64 := by decide) : fEq v v = some (.bl true) := by
  unfold fEq; rw [h.self l]; rfl
theorem fEqX_self {v : Val} {k : Nat} (h : dat k v) (l : k ≤ 64 := by decide) : fEqX v v = some (.bl true) := by
  unfold fEqX eqX
  cases lstOf v with
  | none => dsimp only; rw [h.self l]; rfl
  | some vs => simp [h.self l]
/-! joins of single signs -/
theorem cps_empty : (Str.ofString "").cps = #[] := by decide +kernel
theorem fold_toList : ∀ (r : List Str) (acc : Array Nat), (r.foldl (fun acc p => acc ++ (Str.ofString "").cps ++ p.cps) acc).toList = acc.toList ++ r.flatMap fun y => y.cps.toList
  | [], acc => by simp
  | x :: r, acc => by
    rw [List.foldl_cons, fold_toList r, cps_empty]; simp
theorem join_toList (ys : List Str) : (Txt.join (Str.ofString "") ys).cps.toList = ys.flatMap fun y => y.cps.toList := by
  unfold Txt.join Builtin.Str.glued
  cases ys with
  | nil => rfl
  | cons y r =>
    show ((r.foldl (fun acc p => acc ++ (Str.ofString "").cps ++ p.cps) y.cps)).toList = _
    rw [fold_toList]; simp
/-- the signs of a list of single signs -/
def signs : List Val → List Nat
  | .str s :: r => s.cps.toList ++ signs r
  | _ => []
theorem join_signs {vs : List Val} (h : ∀ v ∈ vs, sing v) (l : vs.length ≤ 1000) : ∃ s, vJoin (.str (Str.ofString "")) (.lst vs) = some (.str s) ∧ s.length = vs.length ∧ PyData.strOk s = true := by
  obtain ⟨ys, e, l1, s1⟩ := sing_strs h
  have e0 : (Str.ofString "").length = 0 := by decide +kernel
  refine ⟨Txt.join (Str.ofString "") ys, ?_, ?_, ?_⟩
  · unfold vJoin
    simp only [e, Option.bind_some]
    rw [if_pos]
    rw [s1, e0]; omega
  · have : (Txt.join (Str.ofString "") ys).cps.toList.length = (ys.map (·.length)).sum := by
      rw [join_toList]; simp [List.length_flatMap, Str.length]
    rw [← s1, ← this]; simp [Str.length]
  · unfold PyData.strOk
    rw [Array.all_eq_true']
    intro q hq
    have hq : q ∈ (Txt.join (Str.ofString "") ys).cps.toList := by simpa using hq
    rw [join_toList] at hq
    obtain ⟨y, hy, hq⟩ := List.mem_flatMap.1 hq
    have : ∀ (vs : List Val) (ys : List Str), strs' vs = some ys → (∀ v ∈ vs, sing v) → ∀ y ∈ ys, ∃ q, q < 1114112 ∧ y = ⟨#[q]⟩ := by
      intro vs
      induction vs with
      | nil => intro ys e; cases e; simp
      | cons v r ih =>
        intro ys e h
        obtain ⟨q, hq, rfl⟩ := h v (by simp)
        simp only [strs', Option.map_eq_some_iff] at e
        obtain ⟨zs, e, rfl⟩ := e
        intro y hy
        rcases List.mem_cons.1 hy with rfl | hy
        · exact ⟨q, hq, rfl⟩
        · exact ih zs e (fun w hw => h w (by simp [hw])) y hy
    obtain ⟨q2, hl, rfl⟩ := this vs ys e h y hy
    simp at hq
    subst hq
    simpa using hl
/-! rolls beside new cells: what stood before stays, but for the dice -/
structure Rx (n a : Nat) (h h' : MHp) : Prop where
  d : Dice n h' a
  len : h.length ≤ h'.length
  fr : ∀ b, b < h.length → b ≠ a → h'[b]? = h[b]?
theorem Rl.x {n a : Nat} {h h' : MHp} (r : Rl n a h h') : Rx n a h h' := ⟨r.d, Nat.le_of_eq r.len.symm, fun b _ hb => r.fr b hb⟩
theorem Rx.refl {n a : Nat} {h : MHp} (d : Dice n h a) : Rx n a h h := ⟨d, Nat.le_refl _, fun _ _ _ => rfl⟩
theorem Rx.trans {n m a : Nat} {h h1 h2 : MHp} (r : Rx n a h h1) (q : Rx m a h1 h2) : Rx m a h h2 := ⟨q.d, Nat.le_trans r.len q.len, fun b hb hn => (q.fr b (Nat.lt_of_lt_of_le hb r.len) hn).trans (r.fr b hb hn)⟩
theorem Rx.mono {n m a : Nat} {h h1 : MHp} (r : Rx n a h h1) (l : n ≤ m) : Rx m a h h1 := ⟨r.d.mono l, r.len, r.fr⟩
theorem Rx.push {n a : Nat} {h : MHp} (d : Dice n h a) (c : Cell) : Rx n a h (h ++ [c]) := by
  refine ⟨?_, by simp, fun b hb _ => List.getElem?_append_left hb⟩
  have hl := d.lt
  obtain ⟨x, y, z, e, q⟩ := d
  exact ⟨x, y, z, by rw [List.getElem?_append_left hl]; exact e, q⟩
theorem Dice.fr {n a : Nat} {h h' : MHp} (d : Dice n h a) (e : h'[a]? = h[a]?) : Dice n h' a := by
  obtain ⟨x, y, z, e1, q⟩ := d
  exact ⟨x, y, z, by rw [e]; exact e1, q⟩
/-- one cell is changed -/
structure Upd (a : Nat) (h h' : MHp) (c : Cell) : Prop where
  at_ : h'[a]? = some c
  len : h'.length = h.length
  fr : ∀ b, b ≠ a → h'[b]? = h[b]?
theorem Upd.set {a : Nat} {h : MHp} {c : Cell} (hl : a < h.length) : Upd a h (h.set a c) c := ⟨by simp [hl], by simp, fun b hb => by simp [Ne.symm hb]⟩
theorem Upd.refl {a : Nat} {h : MHp} {c : Cell} (e : h[a]? = some c) : Upd a h h c := ⟨e, rfl, fun _ _ => rfl⟩
theorem lt_of_get {a : Nat} {h : MHp} {c : Cell} (e : h[a]? = some c) : a < h.length := (List.getElem?_eq_some_iff.mp e).1
theorem dat_strs {w : Str} {k : Nat} (h : PyData.strOk w = true) : dat k (.str w) := dat_str h
/-- the order of the draws does not matter: any drawn item is one of the list -/
theorem mem_eraseIdx {α : Type} {xs : List α} {i : Nat} {x : α} (h : x ∈ xs.eraseIdx i) : x ∈ xs := List.mem_of_mem_eraseIdx h
/-! is None -/
@[simp] theorem fIs_non : fIs .non .non = some (.bl true) := rfl
@[simp] theorem fIs_bl {b : Bool} : fIs (.bl b) .non = some (.bl false) := rfl
@[simp] theorem fIs_int {b : Int} : fIs (.int b) .non = some (.bl false) := rfl
@[simp] theorem fIs_str {b : Str} : fIs (.str b) .non = some (.bl false) := rfl
@[simp] theorem fIs_tup {b : List Val} : fIs (.tup b) .non = some (.bl false) := rfl
@[simp] theorem fIs_lst {b : List Val} : fIs (.lst b) .non = some (.bl false) := rfl
@[simp] theorem fIs_dct {b : List (Val × Val)} : fIs (.dct b) .non = some (.bl false) := rfl
@[simp] theorem fIs_ref {b : Nat} : fIs (.ref b) .non = some (.bl false) := rfl
@[simp] theorem fIsNot_non : fIsNot .non .non = some (.bl false) := rfl
@[simp] theorem fIsNot_bl {b : Bool} : fIsNot (.bl b) .non = some (.bl true) := rfl
@[simp] theorem fIsNot_int {b : Int} : fIsNot (.int b) .non = some (.bl true) := rfl
@[simp] theorem fIsNot_str {b : Str} : fIsNot (.str b) .non = some (.bl true) := rfl
@[simp] theorem fIsNot_tup {b : List Val} : fIsNot (.tup b) .non = some (.bl true) := rfl
@[simp] theorem fIsNot_lst {b : List Val} : fIsNot (.lst b) .non = some (.bl true) := rfl
@[simp] theorem fIsNot_dct {b : List (Val × Val)} : fIsNot (.dct b) .non = some (.bl true) := rfl
@[simp] theorem fIsNot_ref {b : Nat} : fIsNot (.ref b) .non = some (.bl true) := rfl
theorem sz1000 {n : Nat} (h : n ≤ 1000) : n ≤ sizeLine := Nat.le_trans h (by decide)
@[simp] theorem lk_cons {n g : Nat} {x : Val} {r : Fld} : List.lookup n ((g, x) :: r) = if n = g then some x else List.lookup n r := by
  rw [List.lookup_cons]
  by_cases e : n = g
  · simp [e]
  · rw [beq_eq_false_iff_ne.2 e, if_neg e]
theorem two : 2 ≤ sizeLine := by decide
theorem fEqX_str {a b : Str} (ha : PyData.strOk a = true) (hb : PyData.strOk b = true) : fEqX (.str a) (.str b) = some (.bl (a == b)) := by
  unfold fEqX eqX eqD
  simp only [lstOf, toD, SeqAt.shaped, PyData.canLay0, ha, hb, PyData.depth]
  rfl
theorem fNe_str {a b : Str} (ha : PyData.strOk a = true) (hb : PyData.strOk b = true) : fNe (.str a) (.str b) = some (.bl (!(a == b))) := by
  unfold fNe eqD
  simp only [toD, SeqAt.shaped, PyData.canLay0, ha, hb, PyData.depth]
  rfl
theorem eqs {a b : Str} {r : Bool} (h : (PyData.strOk a && PyData.strOk b && ((a == b) == r)) = true) : fEqX (.str a) (.str b) = some (.bl r) := by
  simp only [Bool.and_eq_true, beq_iff_eq] at h
  obtain ⟨⟨h1, h2⟩, h3⟩ := h
  rw [fEqX_str h1 h2, h3]
theorem nes {a b : Str} {r : Bool} (h : (PyData.strOk a && PyData.strOk b && ((!(a == b)) == r)) = true) : fNe (.str a) (.str b) = some (.bl r) := by
  simp only [Bool.and_eq_true, beq_iff_eq] at h
  obtain ⟨⟨h1, h2⟩, h3⟩ := h
  rw [fNe_str h1 h2, h3]
@[simp] theorem atI_0 {α : Type} {x : α} {r : List α} : atI (x :: r) 0 = some x := by simp [atI, ixN]
@[simp] theorem atI_1 {α : Type} {x y : α} {r : List α} : atI (x :: y :: r) 1 = some y := by
  unfold atI ixN; rw [if_pos (by decide), if_pos (by simp; omega)]; rfl
@[simp] theorem atI_2 {α : Type} {x y z : α} {r : List α} : atI (x :: y :: z :: r) 2 = some z := by
  unfold atI ixN; rw [if_pos (by decide), if_pos (by simp; omega)]; rfl
@[simp] theorem atI_3 {α : Type} {x y z w : α} {r : List α} : atI (x :: y :: z :: w :: r) 3 = some w := by
  unfold atI ixN; rw [if_pos (by decide), if_pos (by simp; omega)]; rfl
@[simp] theorem subTab_cons {a b C D : Nat} {r : Bool} {l : List ((Nat × Nat) × Bool)} : subTab (((a, b), r) :: l) C D = if C = a ∧ D = b then some r else subTab l C D := by
  unfold subTab
  rw [List.lookup_cons]
  by_cases e : C = a ∧ D = b
  · rw [if_pos e, e.1, e.2]; simp
  · rw [if_neg e, beq_eq_false_iff_ne.2 (by intro h; cases h; exact e ⟨rfl, rfl⟩)]
end Mir

set_option Elab.async false
set_option linter.all false
set_option maxRecDepth 100000
set_option maxHeartbeats 4000000
namespace K71
open PySem Mir
def subL : List ((Nat × Nat) × Bool) := [((1, 1), true), ((1, 2), false), ((1, 3), false), ((2, 1), false), ((2, 2), true), ((2, 3), false), ((3, 1), false), ((3, 2), false), ((3, 3), true)]
def m_is_name : List Val → MHp → RE Val := mFun 1 2
  (sRet (mAndV (mIsTy "str" (mVar 0)) (mAndV (mChain fLe fLe (mC (.int (1))) (mCB (f1 vLen) (mCons (mVar 0) mNil)) (mC (.int (8)))) (mCB (f1 vAll) (mCons (mKnow (mCompN (mSeq (mVar 0)) (gmName 1) (EM.pure true) (mOp fIn (mVar 1) (mC (.str "abcdefghijklmnopqrstuvwxyz"))) [1])) mNil)))))
def m_is_number : List Val → MHp → RE Val := mFun 1 1
  (sRet (mAndV (mIsTy "int" (mVar 0)) (mNotV (mIsTy "bool" (mVar 0)))))
def mR_is_plain : Nat → List Val → MHp → RE Val
  | 0 => mNo
  | d + 1 => mFun 1 2
    (sSeq (sIf (mTru (mIsA (isTab "tuple" [4]) (mVar 0))) (sRet (mCB (f1 vAll) (mCons (mKnow (mCompN (mSeq (mVar 0)) (gmName 1) (EM.pure true) (mCall (mR_is_plain d) [] (mCons (mVar 1) mNil)) [1])) mNil))) sSkip) (sRet (mOrV (mOp fIs (mVar 0) (mC .non)) (mOrV (mIsA (isTab "str" [4]) (mVar 0)) (mIsA (isTab "int" [4]) (mVar 0))))))
def m_is_plain : List Val → MHp → RE Val := mR_is_plain 7
def m_require_many : List Val → MHp → RE Val := mFun 2 2
  (sSeq (sIf (mOr (mNot (mTru (mCall m_is_number [] (mCons (mVar 0) mNil)))) (mTest (mOp fLt (mVar 0) (mC (.int (0)))))) (sRaise1 2 0 (mCons (mVar 0) mNil)) sSkip) (sIf (mTest (mOp fGt (mVar 0) (mVar 1))) (sRaise1 3 1 (mCons (mVar 0) mNil)) sSkip))
def m_Journal_init : List Val → MHp → RE Val := mFun 1 1
  (sSeq (sFldSet 4 2 (mVar 0) (mTup mNil)) (sFldSet 4 3 (mVar 0) (mTup mNil)))
def m_Journal_log : List Val → MHp → RE Val := mFun 1 1
  (sRet (mFld 4 2 (mVar 0)))
def m_Journal_undone : List Val → MHp → RE Val := mFun 1 1
  (sRet (mFld 4 3 (mVar 0)))
def m_Journal_enter : List Val → MHp → RE Val := mFun 2 2
  (sSeq (sIf (mOr (mNot (mTru (mIsA (isTab "tuple" [4]) (mVar 1)))) (mOr (mTest (mOp fEqY (mVar 1) (mTup mNil))) (mOr (mNot (mTru (mCall m_is_name [] (mCons (mOp fIx (mVar 1) (mC (.int (0)))) mNil)))) (mNot (mTru (mCall m_is_plain [] (mCons (mVar 1) mNil))))))) (sRaise0 1 (mCons (mC (.str "a tuple that begins with a name is expected")) mNil)) sSkip) (sSeq (sFldSet 4 2 (mVar 0) (mTup (mStar (mFld 4 2 (mVar 0)) (mCons (mVar 1) mNil)))) (sFldSet 4 3 (mVar 0) (mTup mNil))))
def m_Journal_undo : List Val → MHp → RE Val := mFun 2 4
  (sSeq (sDrop (mCall m_require_many [] (mCons (mVar 1) (mCons (mCB (f1 vLen) (mCons (mFld 4 2 (mVar 0)) mNil)) mNil)))) (sSeq (sSet 2 (mOp fSub (mCB (f1 vLen) (mCons (mFld 4 2 (mVar 0)) mNil)) (mVar 1))) (sSeq (sSet 3 (mCut (mFld 4 2 (mVar 0)) (mPart (mVar 2)) mNoPart)) (sSeq (sAsgE (teTup 2 (teCons (teFld 4 2 (mVar 0)) (teCons (teFld 4 3 (mVar 0)) teNil))) (mTup (mCons (mCut (mFld 4 2 (mVar 0)) mNoPart (mPart (mVar 2))) (mCons (mOp fAddA (mVar 3) (mFld 4 3 (mVar 0))) mNil)))) (sRet (mRev (mVar 3)))))))
def m_Journal_redo : List Val → MHp → RE Val := mFun 2 3
  (sSeq (sDrop (mCall m_require_many [] (mCons (mVar 1) (mCons (mCB (f1 vLen) (mCons (mFld 4 3 (mVar 0)) mNil)) mNil)))) (sSeq (sSet 2 (mCut (mFld 4 3 (mVar 0)) mNoPart (mPart (mVar 1)))) (sSeq (sAsgE (teTup 2 (teCons (teFld 4 2 (mVar 0)) (teCons (teFld 4 3 (mVar 0)) teNil))) (mTup (mCons (mOp fAddA (mFld 4 2 (mVar 0)) (mVar 2)) (mCons (mCut (mFld 4 3 (mVar 0)) (mPart (mVar 1)) mNoPart) mNil)))) (sRet (mVar 2)))))
abbrev m_law_dice : List Val → MHp → RE Val := diceM
abbrev m_law_roll : List Val → MHp → RE Val := rollM
abbrev m_law_pick : List Val → MHp → RE Val := pickM
def m_law_mixed : List Val → MHp → RE Val := mFun 2 4
  (sSeq (sParNN 2 3 (nList (mVar 1)) (nLst mNil)) (sSeq (whileLoop (mTest (mIxB fNe 2 (mLst mNil))) (sDrop (mAppend 3 (mPopAt 2 (mCall m_law_roll [] (mCons (mVar 0) (mCons (mCB1 (f1 vLen) 2) mNil)))))) 8) (sFreeze 3 (sRet (mVar 3)))))
def m_law_word : List Val → MHp → RE Val := mFun 1 2
  (sRet (mM1 vJoin (mC (.str "")) (mKnow (mCompN (mRange1 (mCons (mOp fAdd (mC (.int (1))) (mCall m_law_roll [] (mCons (mVar 0) (mCons (mC (.int (8))) mNil)))) mNil)) (gmName 1) (EM.pure true) (mOp fIx (mC (.str "abcdefghijklmnopqrstuvwxyz")) (mCall m_law_roll [] (mCons (mVar 0) (mCons (mC (.int (26))) mNil)))) [1]))))
def m_law_deed : List Val → MHp → RE Val := mFun 2 7
  (sSeq (sSet 2 (mCall m_law_roll [] (mCons (mVar 0) (mCons (mC (.int (12))) mNil)))) (sSeq (sIf (mTest (mOp fLt (mVar 2) (mC (.int (4))))) (sSeq (sSet 3 (mCall m_law_mixed [] (mCons (mVar 0) (mCons (mLst (mCons (mVar 1) (mCons (mTup (mCons (mVar 1) (mCons (mC (.str "a")) mNil))) (mCons (mC .non) (mCons (mC (.bl true)) (mCons (mC (.str "")) (mCons (mTup (mCons (mTup mNil) (mCons (mTup (mCons (mOp fSub (mC (.int (0))) (mC (.int (1)))) (mCons (mTup (mCons (mOp fPow (mC (.int (10))) (mC (.int (39)))) mNil)) mNil))) mNil))) mNil))))))) mNil)))) (sRet (mTup (mCons (mC (.str "enter")) (mCons (mOp fAddA (mTup (mCons (mCall m_law_word [] (mCons (mVar 0) mNil)) mNil)) (mCB (f1 vTuple) (mCons (mCut (mVar 3) mNoPart (mPart (mCall m_law_roll [] (mCons (mVar 0) (mCons (mC (.int (4))) mNil))))) mNil))) mNil))))) sSkip) (sSeq (sIf (mTest (mOp fLt (mVar 2) (mC (.int (6))))) (sRet (mTup (mCons (mC (.str "undo")) (mCons (mCall m_law_roll [] (mCons (mVar 0) (mCons (mC (.int (4))) mNil))) mNil)))) sSkip) (sSeq (sIf (mTest (mOp fLt (mVar 2) (mC (.int (8))))) (sRet (mTup (mCons (mC (.str "redo")) (mCons (mCall m_law_roll [] (mCons (mVar 0) (mCons (mC (.int (4))) mNil))) mNil)))) sSkip) (sSeq (sIf (mTest (mOp fEqX (mVar 2) (mC (.int (8))))) (sRet (mTup (mCons (mCall m_law_pick [] (mCons (mVar 0) (mCons (mLst (mCons (mC (.str "undo one")) (mCons (mC (.str "redo one")) mNil))) mNil))) (mCons (mC .non) mNil)))) sSkip) (sSeq (sIf (mTest (mOp fEqX (mVar 2) (mC (.int (9))))) (sSeq (sSet 4 (mLst (mCons (mTup mNil) (mCons (mC .non) (mCons (mC (.int (1))) (mCons (mC (.str "a")) (mCons (mLst (mCons (mC (.str "a")) mNil)) (mCons (mTup (mCons (mC (.str "A")) mNil)) (mCons (mTup (mCons (mC (.str "")) mNil)) (mCons (mTup (mCons (mC (.int (1))) (mCons (mC (.str "a")) mNil))) (mCons (mTup (mCons (mC (.str "aaaaaaaaa")) mNil)) (mCons (mTup (mCons (mTup (mCons (mC (.str "a")) mNil)) mNil)) (mCons (mTup (mCons (mC (.str "a")) (mCons (mLst (mCons (mC (.int (1))) mNil)) mNil))) (mCons (mTup (mCons (mC (.str "a")) (mCons (mKnow nDict0) mNil))) mNil)))))))))))))) (sSeq (sSet 5 (mLst (mCons (mTup (mCons (mC (.str "a")) (mCons (mTup (mCons (mC (.int (1))) (mCons (mLst (mCons (mC (.int (2))) mNil)) mNil))) mNil))) (mCons (mTup (mCons (mC (.str "a")) (mCons (mTup (mCons (mTup mNil) (mCons (mTup (mCons (mKnow (mDisp (((mC (.int (1))), (mC (.int (2)))) :: []))) mNil)) mNil))) mNil))) (mCons (mTup (mCons (mC .non) (mCons (mC (.str "a")) mNil))) (mCons (mTup (mCons (mC (.str "a")) (mCons (mMake 4 m_Journal_init [] mNil) mNil))) mNil)))))) (sRet (mTup (mCons (mC (.str "enter")) (mCons (mCall m_law_pick [] (mCons (mVar 0) (mCons (mKnow (nAdd (mVar 4) (mVar 5))) mNil))) mNil)))))) sSkip) (sSeq (sSet 6 (mCall m_law_pick [] (mCons (mVar 0) (mCons (mLst (mCons (mC (.str "undo")) (mCons (mC (.str "redo")) mNil))) mNil)))) (sSeq (sIf (mTest (mOp fEqX (mVar 2) (mC (.int (10))))) (sRet (mTup (mCons (mVar 6) (mCons (mCall m_law_pick [] (mCons (mVar 0) (mCons (mLst (mCons (mOp fSub (mC (.int (0))) (mC (.int (1)))) (mCons (mC (.bl true)) (mCons (mC (.bl false)) (mCons (mC .non) (mCons (mC (.str "1")) (mCons (mTup mNil) (mCons (mLst (mCons (mC (.int (1))) mNil)) (mCons (mTup (mCons (mC (.int (1))) mNil)) (mCons (mOp fSub (mC (.int (0))) (mOp fPow (mC (.int (10))) (mC (.int (30))))) mNil)))))))))) mNil))) mNil)))) sSkip) (sRet (mTup (mCons (mVar 6) (mCons (mCall m_law_pick [] (mCons (mVar 0) (mCons (mLst (mCons (mOp fPow (mC (.int (10))) (mC (.int (30)))) (mCons (mC (.int (64))) (mCons (mC (.int (63))) mNil)))) mNil))) mNil))))))))))))
def m_law_done : List Val → MHp → RE Val := mFun 2 5
  (sSeq (sAsg (gmTup 2 (gmCons (gmName 2) (gmCons (gmName 3) gmNil))) (mVar 1)) (sTry (subTab subL) (sSeq (sIf (mTest (mOp fEqX (mVar 2) (mC (.str "enter")))) (sSeq (sDrop (mMeth 4 4 m_Journal_enter [] (mVar 0) (mCons (mVar 3) mNil))) (sRet (mLst (mCons (mC (.str "entered")) mNil)))) sSkip) (sSeq (sIf (mTest (mOp fEqX (mVar 2) (mC (.str "undo")))) (sRet (mLst (mCons (mMeth 4 5 m_Journal_undo [] (mVar 0) (mCons (mVar 3) mNil)) mNil))) sSkip) (sSeq (sIf (mTest (mOp fEqX (mVar 2) (mC (.str "redo")))) (sRet (mLst (mCons (mMeth 4 6 m_Journal_redo [] (mVar 0) (mCons (mVar 3) mNil)) mNil))) sSkip) (sRet (mLst (mCons (mIf (mTest (mOp fEqX (mVar 2) (mC (.str "undo one")))) (mMeth 4 5 m_Journal_undo [(.int (1))] (mVar 0) mNil) (mMeth 4 6 m_Journal_redo [(.int (1))] (mVar 0) mNil)) mNil)))))) ((1, fun _ _ => noexcS (sRet (mLst (mCons (mC (.str "InvalidOperation")) (mCons (mC (.str "")) mNil))))) :: (2, asRun 4 (sRet (mLst (mCons (mC (.str "InvalidNumber")) (mCons (mXf 2 4 0) mNil))))) :: (3, asRun 4 (sRet (mLst (mCons (mC (.str "NothingToUndo")) (mCons (mXf 3 4 1) mNil))))) :: [])))
def mR_law_is_plain : Nat → List Val → MHp → RE Val
  | 0 => mNo
  | d + 1 => mFun 1 2
    (sSeq (sIf (mTru (mIsA (isTab "tuple" [4]) (mVar 0))) (sRet (mCB (f1 vAll) (mCons (mKnow (mCompN (mSeq (mVar 0)) (gmName 1) (EM.pure true) (mCall (mR_law_is_plain d) [] (mCons (mVar 1) mNil)) [1])) mNil))) sSkip) (sRet (mOrV (mOp fIs (mVar 0) (mC .non)) (mOrV (mIsA (isTab "str" [4]) (mVar 0)) (mIsA (isTab "int" [4]) (mVar 0))))))
def m_law_is_plain : List Val → MHp → RE Val := mR_law_is_plain 7
def m_law_is_step : List Val → MHp → RE Val := mFun 1 2
  (sSeq (sIf (mOr (mNot (mTru (mIsA (isTab "tuple" [4]) (mVar 0)))) (mOr (mTest (mOp fEqY (mVar 0) (mTup mNil))) (mOr (mNot (mTru (mIsA (isTab "str" [4]) (mOp fIx (mVar 0) (mC (.int (0))))))) (mNot (mTest (mChain fLe fLe (mC (.int (1))) (mCB (f1 vLen) (mCons (mOp fIx (mVar 0) (mC (.int (0)))) mNil)) (mC (.int (8))))))))) (sRet (mC (.bl false))) sSkip) (sSeq (sIf (mTest (mOp fNe (mKnow (mCompN (mSeq (mOp fIx (mVar 0) (mC (.int (0))))) (gmName 1) (mTest (mOp fNotIn (mVar 1) (mC (.str "abcdefghijklmnopqrstuvwxyz")))) (mVar 1) [1])) (mLst mNil))) (sRet (mC (.bl false))) sSkip) (sRet (mCall m_law_is_plain [] (mCons (mVar 0) mNil)))))
def m_law_due : List Val → MHp → RE Val := mFun 2 8
  (sSeq (sAsg (gmTup 2 (gmCons (gmName 2) (gmCons (gmName 3) gmNil))) (mVar 1)) (sSeq (sIf (mTest (mOp fEqX (mVar 2) (mC (.str "enter")))) (sSeq (sIf (mNot (mTru (mCall m_law_is_step [] (mCons (mVar 3) mNil)))) (sRet (mLst (mCons (mC (.str "InvalidOperation")) (mCons (mC (.str "")) mNil)))) sSkip) (sSeq (sAsgE (teTup 2 (teCons (teSub 0 (mC (.int (0)))) (teCons (teSub 0 (mC (.int (1)))) teNil))) (mTup (mCons (mKnow (nAdd (mIxB fIx 0 (mC (.int (0)))) (mLst (mCons (mVar 3) mNil)))) (mCons (mLst mNil) mNil)))) (sRet (mLst (mCons (mC (.str "entered")) mNil))))) sSkip) (sSeq (sSet 4 (mIf (mAnd (mTest (mOp fIs (mVar 3) (mC .non))) (mTest (mOp fIn (mC (.str " ")) (mVar 2)))) (mC (.int (1))) (mVar 3))) (sSeq (sIf (mOr (mNot (mTru (mIsTy "int" (mVar 4)))) (mOr (mTru (mIsTy "bool" (mVar 4))) (mTest (mOp fLt (mVar 4) (mC (.int (0))))))) (sRet (mLst (mCons (mC (.str "InvalidNumber")) (mCons (mVar 4) mNil)))) sSkip) (sSeq (sIf (mTest (mOp fGt (mVar 4) (mCB (f1 vLen) (mCons (mIxB fIx 0 (mIf (mTest (mOp fEqX (mCut (mVar 2) mNoPart (mPart (mC (.int (4))))) (mC (.str "undo")))) (mC (.int (0))) (mC (.int (1))))) mNil)))) (sRet (mLst (mCons (mC (.str "NothingToUndo")) (mCons (mVar 4) mNil)))) sSkip) (sSeq (sIf (mTest (mOp fEqX (mCut (mVar 2) mNoPart (mPart (mC (.int (4))))) (mC (.str "undo")))) (sSeq (sSet 5 (mOp fSub (mCB (f1 vLen) (mCons (mIxB fIx 0 (mC (.int (0)))) mNil)) (mVar 4))) (sSeq (sSet 6 (mCut (mIxB fIx 0 (mC (.int (0)))) (mPart (mVar 5)) mNoPart)) (sSeq (sAsgE (teTup 2 (teCons (teSub 0 (mC (.int (0)))) (teCons (teSub 0 (mC (.int (1)))) teNil))) (mTup (mCons (mCut (mIxB fIx 0 (mC (.int (0)))) mNoPart (mPart (mVar 5))) (mCons (mKnow (nAdd (mVar 6) (mIxB fIx 0 (mC (.int (1)))))) mNil)))) (sRet (mLst (mCons (mCB (f1 vTuple) (mCons (mRev (mVar 6)) mNil)) mNil)))))) sSkip) (sSeq (sSet 7 (mCut (mIxB fIx 0 (mC (.int (1)))) mNoPart (mPart (mVar 4)))) (sSeq (sAsgE (teTup 2 (teCons (teSub 0 (mC (.int (0)))) (teCons (teSub 0 (mC (.int (1)))) teNil))) (mTup (mCons (mKnow (nAdd (mIxB fIx 0 (mC (.int (0)))) (mVar 7))) (mCons (mCut (mIxB fIx 0 (mC (.int (1)))) (mPart (mVar 4)) mNoPart) mNil)))) (sRet (mLst (mCons (mCB (f1 vTuple) (mCons (mVar 7) mNil)) mNil)))))))))))
def m_law_alike : List Val → MHp → RE Val := mFun 2 4
  (sSeq (sIf (mOr (mTest (mOp fNe (mCB (f1 vLen) (mCons (mVar 0) mNil)) (mCB (f1 vLen) (mCons (mVar 1) mNil)))) (mTest (mOp fNe (mVar 0) (mVar 1)))) (sRet (mC (.bl false))) sSkip) (sRet (mOp fEqX (mKnow (mCompN (mZip (mCons (mVar 0) (mCons (mVar 1) mNil))) (gmTup 2 (gmCons (gmName 2) (gmCons (gmName 3) gmNil))) (mTest (mOp fNe (mIsTy "bool" (mVar 2)) (mIsTy "bool" (mVar 3)))) (mC (.int (1))) [2, 3])) (mLst mNil))))
def m_law : List Val → MHp → RE Val := mFun 1 10
  (sSeq (sPar 1 2 (mCons (mLst (mCons (mMake 4 m_Journal_init [] mNil) (mCons (mMake 4 m_Journal_init [] mNil) mNil))) (mCons (mLst (mCons (mCell (nLst (mCons (mLst mNil) (mCons (mLst mNil) mNil)))) (mCons (mCell (nLst (mCons (mLst mNil) (mCons (mLst mNil) mNil)))) mNil))) mNil))) (sSeq (sFor (mRange1 (mCons (mCB (f2 vMax2) (mCons (mC (.int (1))) (mCons (mCB (f2 vMin2) (mCons (mC (.int (20))) (mCons (mCB (f1 vLen) (mCons (mVar 0) mNil)) mNil))) mNil))) mNil)) (gmName 3) (sSeq (sSet 4 (mCall m_law_dice [] (mCons (mVar 0) (mCons (mVar 3) mNil)))) (sFor (mRange1 (mCons (mC (.int (3))) mNil)) (gmName 5) (sSeq (sSet 6 (mCall m_law_roll [] (mCons (mVar 4) (mCons (mC (.int (2))) mNil)))) (sSeq (sSet 7 (mCall m_law_deed [] (mCons (mVar 4) (mCons (mVar 5) mNil)))) (sSeq (sIf (mNot (mTru (mCall m_law_alike [] (mCons (mCall m_law_done [] (mCons (mOp fIx (mVar 1) (mVar 6)) (mCons (mVar 7) mNil))) (mCons (mCall m_law_due [] (mCons (mOp fIx (mVar 2) (mVar 6)) (mCons (mVar 7) mNil))) mNil))))) (sRet (mC (.bl false))) sSkip) (sFor (mZip (mCons (mVar 1) (mCons (mVar 2) mNil))) (gmTup 2 (gmCons (gmName 8) (gmCons (gmName 9) gmNil))) (sSeq (sIf (mOr (mTest (mOp fNe (mProp 4 m_Journal_undone (mVar 8)) (mCB (f1 vTuple) (mCons (mIxB fIx 9 (mC (.int (1)))) mNil)))) (mTest (mOp fNe (mProp 4 m_Journal_log (mVar 8)) (mCB (f1 vTuple) (mCons (mIxB fIx 9 (mC (.int (0)))) mNil))))) (sRet (mC (.bl false))) sSkip) (sIf (mOr (mNot (mTru (mIsTy "tuple" (mProp 4 m_Journal_log (mVar 8))))) (mNot (mTru (mIsTy "tuple" (mProp 4 m_Journal_undone (mVar 8)))))) (sRet (mC (.bl false))) sSkip))))))))) (sRet (mC (.bl true)))))
end K71

set_option Elab.async false
set_option linter.all false
set_option maxRecDepth 100000
set_option maxHeartbeats 4000000
namespace K71
open PySem PySem.Spec PyProof.Rows L2 Mir PySem.W
def topS (i : Nat) : Stmt := PySem.Challenge.pw_gonewithin_k71_journals.main.body.getD i (.Pass ⟨0, 0, 0, 0⟩)
abbrev s_GoneError_init : Stmt := inClass (topS 1) 0
abbrev s_InvalidNumber_init : Stmt := inClass (topS 3) 0
abbrev s_NothingToUndo_init : Stmt := inClass (topS 4) 0
abbrev s_is_name : Stmt := topS 8
abbrev s_is_number : Stmt := topS 9
abbrev s_is_plain : Stmt := topS 11
abbrev s_require_many : Stmt := topS 12
abbrev s_Journal_init : Stmt := inClass (topS 13) 0
abbrev s_Journal_log : Stmt := inClass (topS 13) 1
abbrev s_Journal_undone : Stmt := inClass (topS 13) 2
abbrev s_Journal_enter : Stmt := inClass (topS 13) 3
abbrev s_Journal_undo : Stmt := inClass (topS 13) 4
abbrev s_Journal_redo : Stmt := inClass (topS 13) 5
abbrev s_law_dice : Stmt := topS 15
abbrev s_law_roll : Stmt := topS 16
abbrev s_law_pick : Stmt := topS 17
abbrev s_law_mixed : Stmt := topS 18
abbrev s_law_word : Stmt := topS 19
abbrev s_law_deed : Stmt := topS 20
abbrev s_law_done : Stmt := topS 21
abbrev s_law_is_plain : Stmt := topS 23
abbrev s_law_is_step : Stmt := topS 22
abbrev s_law_due : Stmt := topS 24
abbrev s_law_alike : Stmt := topS 25
abbrev s_law : Stmt := topS 26
/-- what the top leaves -/
structure Tx (mg : Str → Option Value) : Prop where
  n_abs : mg "abs" = none
  n_all : mg "all" = none
  n_bool : mg "bool" = none
  n_int : mg "int" = none
  n_isinstance : mg "isinstance" = none
  n_len : mg "len" = none
  n_list : mg "list" = none
  n_max : mg "max" = none
  n_min : mg "min" = none
  n_range : mg "range" = none
  n_str : mg "str" = none
  n_tuple : mg "tuple" = none
  n_zip : mg "zip" = none
  g_MAX_LETTERS : ∃ t, mg "MAX_LETTERS" = some (.int (8) t)
  g_LETTERS : ∃ t, mg "LETTERS" = some (.str "abcdefghijklmnopqrstuvwxyz" t)
/-- classes -/
structure Ty (P : Program) (w : World) (K : PySem.W.Frag) (mg : Str → Option Value) (base : Heap) (c : Mir.Ctx) (gI : Addr) : Prop where
  c_InvalidNumber : mg "InvalidNumber" = some (.ref (c.CT 2))
  c_InvalidOperation : mg "InvalidOperation" = some (.ref (c.CT 1))
  c_NothingToUndo : mg "NothingToUndo" = some (.ref (c.CT 3))
  e_InvalidNumber : ExD1 P w K mg base c "InvalidNumber" 2 0 2 "number" (c.CT 2) gI (c.CT 0)
  e_InvalidOperation : ExD0 P w K mg base c "InvalidOperation" 1 1 (c.CT 0)
  e_NothingToUndo : ExD1 P w K mg base c "NothingToUndo" 3 1 2 "many" (c.CT 3) gI (c.CT 0)
  fl_Journal_own_done : FldD K c 4 2 "own_done"
  fl_Journal_own_undone : FldD K c 4 3 "own_undone"
  is_int : ∀ C ∈ [4], kitOne K (.ref (c.CT C)) (.type "int") = some false
  is_str : ∀ C ∈ [4], kitOne K (.ref (c.CT C)) (.type "str") = some false
  is_tuple : ∀ C ∈ [4], kitOne K (.ref (c.CT C)) (.type "tuple") = some false
  so : SubOk K c (subTab subL)
  x_InvalidNumber_number : XfD K c 2 0 "number"
  x_NothingToUndo_many : XfD K c 3 1 "many"
  is_G : InsG K
  is_own : ∀ C ∈ [4], InsTy K (c.CT C)
theorem hu65 {k : Nat} {A : Around} (r : Room k A) : A.units + 65 < cLine := by have := r.un; omega
section
variable {P : Program} {w : World} {K : PySem.W.Frag} {mg : Str → Option Value} {base : Heap} {c : Mir.Ctx} {gI : Addr}
theorem pm_g_MAX_LETTERS {X : Cx} {K : PySem.W.Frag} {E : WX} {pos : Pos} (T : Tx X.mg) (hK : X.K = K := by rfl) (hg : Gl X "MAX_LETTERS" := by rfl) : EEm X K c E (.Name "MAX_LETTERS" pos) (tC (.int (8))) (mC (.int (8))) := by
  obtain ⟨t, e⟩ := T.g_MAX_LETTERS
  exact pm_glob (fun _ _ => .int _) ⟨t, rfl⟩ e hK hg (by decide)
theorem pm_g_LETTERS {X : Cx} {K : PySem.W.Frag} {E : WX} {pos : Pos} (T : Tx X.mg) (hK : X.K = K := by rfl) (hg : Gl X "LETTERS" := by rfl) : EEm X K c E (.Name "LETTERS" pos) (tC (.str "abcdefghijklmnopqrstuvwxyz")) (mC (.str "abcdefghijklmnopqrstuvwxyz")) := by
  obtain ⟨t, e⟩ := T.g_LETTERS
  exact pm_glob (fun _ _ => .str _) ⟨t, rfl⟩ e hK hg (by decide)
theorem sc_is_name : FnScope ["value", "sign"] ["value"] (defScope s_is_name) := ⟨rfl, rfl, rfl, by decide +kernel, rfl, by decide +kernel, by decide +kernel⟩
theorem ok_is_name {f : Addr} {fd : FuncData} (T : Tx mg) (Y : Ty P w K mg base c gI) (F : Fun K "is_name" "is_name" s_is_name f fd) :
    FnOk P w K mg base (L2.CX P w) 1 f fd ["value"] (spM K c 1 m_is_name) := by
  refine fn_m (N := ["value", "sign"]) F sc_is_name (by decide) fun cdv A outer s H E hr => ?_
  exact EBm.psm (bm_one (sm_ret (pm_and (pm_isTy T.n_isinstance T.n_str (pm_var 0)) (pm_and (pm_chain co_le co_le pm_int (pm_len T.n_len (pm_var 0)) (pm_g_MAX_LETTERS T)) (pm_one (pm_all rfl T.n_all ((pn_comp s (own := [("sign", 1)]) rfl sc_is_name.nd (pim_seq (pm_var 0)) (blkOk_by (N := ["value", "sign"]) (sc := defScope s_is_name) (by decide +kernel)) (fun _ _ _ _ _ => (pgm_name 1 sc_is_name.nd)) (fun _ _ _ _ _ => ptsm_nil) (fun _ _ _ _ _ => (pm_cmp (co_in (hu65 hr)) (pm_var 1) (pm_g_LETTERS T))))).know)))))) rfl
theorem dn_is_name {f : Addr} {fd : FuncData} (T : Tx mg) (Y : Ty P w K mg base c gI) (F : Fun K "is_name" "is_name" s_is_name f fd) (hm : mg "is_name" = some (.ref f)) (hb : Binds K fd ["value"] []) :
    Dn P w K mg base c "is_name" 1 1 [] [] m_is_name := .mk0 (ok_is_name T Y F) hm F.kp hb (fun _ _ h => mFun_len _ _ h)
theorem sc_is_number : FnScope ["value"] ["value"] (defScope s_is_number) := ⟨rfl, rfl, rfl, by decide +kernel, rfl, by decide +kernel, by decide +kernel⟩
theorem ok_is_number {f : Addr} {fd : FuncData} (T : Tx mg) (Y : Ty P w K mg base c gI) (F : Fun K "is_number" "is_number" s_is_number f fd) :
    FnOk P w K mg base (L2.CX P w) 1 f fd ["value"] (spM K c 1 m_is_number) := by
  refine fn_m (N := ["value"]) F sc_is_number (by decide) fun cdv A outer s H E hr => ?_
  exact EBm.psm (bm_one (sm_ret (pm_and (pm_isTy T.n_isinstance T.n_int (pm_var 0)) (pm_one (pm_notV (pm_isTy T.n_isinstance T.n_bool (pm_var 0))))))) rfl
theorem dn_is_number {f : Addr} {fd : FuncData} (T : Tx mg) (Y : Ty P w K mg base c gI) (F : Fun K "is_number" "is_number" s_is_number f fd) (hm : mg "is_number" = some (.ref f)) (hb : Binds K fd ["value"] []) :
    Dn P w K mg base c "is_number" 1 1 [] [] m_is_number := .mk0 (ok_is_number T Y F) hm F.kp hb (fun _ _ h => mFun_len _ _ h)
theorem sc_is_plain : FnScope ["value", "one"] ["value"] (defScope s_is_plain) := ⟨rfl, rfl, rfl, by decide +kernel, rfl, by decide +kernel, by decide +kernel⟩
theorem ok_is_plain {f : Addr} {fd : FuncData} {d : Nat} (T : Tx mg) (Y : Ty P w K mg base c gI) (F : Fun K "is_plain" "is_plain" s_is_plain f fd) (d_is_plain : Dn P w K mg base c "is_plain" (0 + d) 1 [] [] (mR_is_plain d)) :
    FnOk P w K mg base (L2.CX P w) (0 + d + 1) f fd ["value"] (spM K c 1 (mR_is_plain (d + 1))) := by
  refine fn_m (k := 0 + d) (N := ["value", "one"]) F sc_is_plain (by decide) fun cdv A outer s H E hr => ?_
  exact EBm.psm (bm_cons (sm_if (ptm_tru (pm_isT (own := [4]) T.n_isinstance T.n_tuple Y.is_G Y.is_own Y.is_tuple (pm_var 0))) (bm_one (sm_ret (pm_all rfl T.n_all ((pn_comp s (own := [("one", 1)]) rfl sc_is_plain.nd (pim_seq (pm_var 0)) (blkOk_by (N := ["value", "one"]) (sc := defScope s_is_plain) (by decide +kernel)) (fun _ _ _ _ _ => (pgm_name 1 sc_is_plain.nd)) (fun _ _ _ _ _ => ptsm_nil) (fun _ _ _ _ _ => (pm_callD d_is_plain hr takes_blk (pam_cons (pm_var 1) pam_nil) (hk := by omega))))).know))) bm_nil) (bm_one (sm_ret (pm_or (pm_cmp co_is (pm_var 0) pm_non) (pm_or (pm_isT (own := [4]) T.n_isinstance T.n_str Y.is_G Y.is_own Y.is_str (pm_var 0)) (pm_one (pm_isT (own := [4]) T.n_isinstance T.n_int Y.is_G Y.is_own Y.is_int (pm_var 0)))))))) rfl
theorem dn_is_plain {f : Addr} {fd : FuncData} (T : Tx mg) (Y : Ty P w K mg base c gI) (F : Fun K "is_plain" "is_plain" s_is_plain f fd) (hm : mg "is_plain" = some (.ref f)) (hb : Binds K fd ["value"] []) :
    Dn P w K mg base c "is_plain" 7 1 [] [] m_is_plain := Dn.fuel (k := 0) (m := mR_is_plain) rfl hm F.kp hb (fun _ _ _ h => mFun_len _ _ h) (fun _ dd => ok_is_plain T Y F dd) 7
theorem sc_require_many : FnScope ["many", "most"] ["many", "most"] (defScope s_require_many) := ⟨rfl, rfl, rfl, by decide +kernel, rfl, by decide +kernel, by decide +kernel⟩
theorem ok_require_many {f : Addr} {fd : FuncData} (T : Tx mg) (Y : Ty P w K mg base c gI) (F : Fun K "require_many" "require_many" s_require_many f fd) (d_is_number : Dn P w K mg base c "is_number" 1 1 [] [] m_is_number) :
    FnOk P w K mg base (L2.CX P w) 4 f fd ["many", "most"] (spM K c 2 m_require_many) := by
  refine fn_m (N := ["many", "most"]) F sc_require_many (by decide) fun cdv A outer s H E hr => ?_
  exact EBm.psm (bm_cons (sm_if ((pwm_or (ptm_not (ptm_tru (pm_callD d_is_number hr (takes_of rfl rfl rfl rfl) (pam_cons (pm_var 0) pam_nil)))) (pwm_or1 (ptm_cmp co_lt (pm_var 0) pm_int)))).pt (bm_one (sm_raise1D Y.e_InvalidNumber rfl (takes_of rfl rfl rfl rfl) hr (pam_cons (pm_var 0) pam_nil))) bm_nil) (bm_one (sm_if (ptm_cmp co_gt (pm_var 0) (pm_var 1)) (bm_one (sm_raise1D Y.e_NothingToUndo rfl (takes_of rfl rfl rfl rfl) hr (pam_cons (pm_var 0) pam_nil))) bm_nil))) rfl
theorem dn_require_many {f : Addr} {fd : FuncData} (T : Tx mg) (Y : Ty P w K mg base c gI) (F : Fun K "require_many" "require_many" s_require_many f fd) (d_is_number : Dn P w K mg base c "is_number" 1 1 [] [] m_is_number) (hm : mg "require_many" = some (.ref f)) (hb : Binds K fd ["many", "most"] []) :
    Dn P w K mg base c "require_many" 4 2 [] [] m_require_many := .mk0 (ok_require_many T Y F d_is_number) hm F.kp hb (fun _ _ h => mFun_len _ _ h)
theorem sc_Journal_init : FnScope ["self"] ["self"] (defScope s_Journal_init) := ⟨rfl, rfl, rfl, by decide +kernel, rfl, by decide +kernel, by decide +kernel⟩
theorem ok_Journal_init {f : Addr} {fd : FuncData} (T : Tx mg) (Y : Ty P w K mg base c gI) (F : Fun K "__init__" "Journal.__init__" s_Journal_init f fd) :
    FnOk P w K mg base (L2.CX P w) 1 f fd ["self"] (spM K c 1 m_Journal_init) := by
  refine fn_m (N := ["self"]) F sc_Journal_init (by decide) fun cdv A outer s H E hr => ?_
  exact EBm.psm (bm_cons (sm_fldSetD Y.fl_Journal_own_done (pm_var 0) (pm_tup pam_nil)) (bm_one (sm_fldSetD Y.fl_Journal_own_undone (pm_var 0) (pm_tup pam_nil)))) rfl
theorem sc_Journal_log : FnScope ["self"] ["self"] (defScope s_Journal_log) := ⟨rfl, rfl, rfl, by decide +kernel, rfl, by decide +kernel, by decide +kernel⟩
theorem ok_Journal_log {f : Addr} {fd : FuncData} (T : Tx mg) (Y : Ty P w K mg base c gI) (F : Fun K "log" "Journal.log" s_Journal_log f fd) :
    FnOk P w K mg base (L2.CX P w) 1 f fd ["self"] (spM K c 1 m_Journal_log) := by
  refine fn_m (N := ["self"]) F sc_Journal_log (by decide) fun cdv A outer s H E hr => ?_
  exact EBm.psm (bm_one (sm_ret (pm_fldD Y.fl_Journal_own_done (pm_var 0)))) rfl
theorem sc_Journal_undone : FnScope ["self"] ["self"] (defScope s_Journal_undone) := ⟨rfl, rfl, rfl, by decide +kernel, rfl, by decide +kernel, by decide +kernel⟩
theorem ok_Journal_undone {f : Addr} {fd : FuncData} (T : Tx mg) (Y : Ty P w K mg base c gI) (F : Fun K "undone" "Journal.undone" s_Journal_undone f fd) :
    FnOk P w K mg base (L2.CX P w) 1 f fd ["self"] (spM K c 1 m_Journal_undone) := by
  refine fn_m (N := ["self"]) F sc_Journal_undone (by decide) fun cdv A outer s H E hr => ?_
  exact EBm.psm (bm_one (sm_ret (pm_fldD Y.fl_Journal_own_undone (pm_var 0)))) rfl
theorem sc_Journal_enter : FnScope ["self", "step"] ["self", "step"] (defScope s_Journal_enter) := ⟨rfl, rfl, rfl, by decide +kernel, rfl, by decide +kernel, by decide +kernel⟩
theorem ok_Journal_enter {f : Addr} {fd : FuncData} (T : Tx mg) (Y : Ty P w K mg base c gI) (F : Fun K "enter" "Journal.enter" s_Journal_enter f fd) (d_is_name : Dn P w K mg base c "is_name" 1 1 [] [] m_is_name) (d_is_plain : Dn P w K mg base c "is_plain" 7 1 [] [] m_is_plain) :
    FnOk P w K mg base (L2.CX P w) 8 f fd ["self", "step"] (spM K c 2 m_Journal_enter) := by
  refine fn_m (N := ["self", "step"]) F sc_Journal_enter (by decide) fun cdv A outer s H E hr => ?_
  exact EBm.psm (bm_cons (sm_if ((pwm_or (ptm_not (ptm_tru (pm_isT (own := [4]) T.n_isinstance T.n_tuple Y.is_G Y.is_own Y.is_tuple (pm_var 1)))) (pwm_or (ptm_cmp (co_eqY hr.units) (pm_var 1) (pm_tup pam_nil)) (pwm_or (ptm_not (ptm_tru (pm_callD d_is_name hr (takes_of rfl rfl rfl rfl) (pam_cons (pm_ix (pm_var 1) pm_int) pam_nil)))) (pwm_or1 (ptm_not (ptm_tru (pm_callD d_is_plain hr (takes_of rfl rfl rfl rfl) (pam_cons (pm_var 1) pam_nil))))))))).pt (bm_one (sm_raise0D Y.e_InvalidOperation rfl (takes_of rfl rfl rfl rfl) hr (pam_cons pm_str pam_nil))) bm_nil) (bm_cons (sm_fldSetD Y.fl_Journal_own_done (pm_var 0) (pm_tup (pam_star (pm_fldD Y.fl_Journal_own_done (pm_var 0)) (pam_cons (pm_var 1) pam_nil)))) (bm_one (sm_fldSetD Y.fl_Journal_own_undone (pm_var 0) (pm_tup pam_nil))))) rfl
theorem sc_Journal_undo : FnScope ["self", "many", "left", "found"] ["self", "many"] (defScope s_Journal_undo) := ⟨rfl, rfl, rfl, by decide +kernel, rfl, by decide +kernel, by decide +kernel⟩
theorem ok_Journal_undo {f : Addr} {fd : FuncData} (T : Tx mg) (Y : Ty P w K mg base c gI) (F : FunD K "undo" "Journal.undo" (defArgs s_Journal_undo) (defBody s_Journal_undo) (defScope s_Journal_undo) [.int (1)] [] f fd) (d_require_many : Dn P w K mg base c "require_many" 4 2 [] [] m_require_many) :
    FnOk P w K mg base (L2.CX P w) 5 f fd ["self", "many"] (spM K c 2 m_Journal_undo) := by
  refine fn_mD (N := ["self", "many", "left", "found"]) F sc_Journal_undo (by decide) fun cdv A outer s H E hr => ?_
  exact EBm.psm (bm_cons (sm_expr (pm_callD d_require_many hr (takes_of rfl rfl rfl rfl) (pam_cons (pm_var 1) (pam_cons (pm_len T.n_len (pm_fldD Y.fl_Journal_own_done (pm_var 0))) pam_nil)))) (bm_cons (sm_set 2 (pm_sub (pm_len T.n_len (pm_fldD Y.fl_Journal_own_done (pm_var 0))) (pm_var 1)) sc_Journal_undo.nd) (bm_cons (sm_set 3 (pm_cut (pm_fldD Y.fl_Journal_own_done (pm_var 0)) (pom_some (pm_var 2)) pom_none) sc_Journal_undo.nd) (bm_cons (sm_asgE (pm_tup (pam_cons (pm_cut (pm_fldD Y.fl_Journal_own_done (pm_var 0)) pom_none (pom_some (pm_var 2))) (pam_cons (pm_addA (pm_var 3) (pm_fldD Y.fl_Journal_own_undone (pm_var 0))) pam_nil))) (etg_tup rfl (etgs_cons (etg_fldD (E := E0W) Y.fl_Journal_own_done (pm_var 0)) (etgs_cons (etg_fldD (E := E0W) Y.fl_Journal_own_undone (pm_var 0)) etgs_nil)))) (bm_one (sm_ret (pm_rev (pm_var 3)))))))) rfl
theorem sc_Journal_redo : FnScope ["self", "many", "found"] ["self", "many"] (defScope s_Journal_redo) := ⟨rfl, rfl, rfl, by decide +kernel, rfl, by decide +kernel, by decide +kernel⟩
theorem ok_Journal_redo {f : Addr} {fd : FuncData} (T : Tx mg) (Y : Ty P w K mg base c gI) (F : FunD K "redo" "Journal.redo" (defArgs s_Journal_redo) (defBody s_Journal_redo) (defScope s_Journal_redo) [.int (1)] [] f fd) (d_require_many : Dn P w K mg base c "require_many" 4 2 [] [] m_require_many) :
    FnOk P w K mg base (L2.CX P w) 5 f fd ["self", "many"] (spM K c 2 m_Journal_redo) := by
  refine fn_mD (N := ["self", "many", "found"]) F sc_Journal_redo (by decide) fun cdv A outer s H E hr => ?_
  exact EBm.psm (bm_cons (sm_expr (pm_callD d_require_many hr (takes_of rfl rfl rfl rfl) (pam_cons (pm_var 1) (pam_cons (pm_len T.n_len (pm_fldD Y.fl_Journal_own_undone (pm_var 0))) pam_nil)))) (bm_cons (sm_set 2 (pm_cut (pm_fldD Y.fl_Journal_own_undone (pm_var 0)) pom_none (pom_some (pm_var 1))) sc_Journal_redo.nd) (bm_cons (sm_asgE (pm_tup (pam_cons (pm_addA (pm_fldD Y.fl_Journal_own_done (pm_var 0)) (pm_var 2)) (pam_cons (pm_cut (pm_fldD Y.fl_Journal_own_undone (pm_var 0)) (pom_some (pm_var 1)) pom_none) pam_nil))) (etg_tup rfl (etgs_cons (etg_fldD (E := E0W) Y.fl_Journal_own_done (pm_var 0)) (etgs_cons (etg_fldD (E := E0W) Y.fl_Journal_own_undone (pm_var 0)) etgs_nil)))) (bm_one (sm_ret (pm_var 2)))))) rfl
theorem sc_law_dice : FnScope ["script", "spot", "cell", "great", "blend"] ["script", "spot"] (defScope s_law_dice) := ⟨rfl, rfl, rfl, by decide +kernel, rfl, by decide +kernel, by decide +kernel⟩
theorem ok_law_dice {f : Addr} {fd : FuncData} (T : Tx mg) (Y : Ty P w K mg base c gI) (F : Fun K "_law_dice" "_law_dice" s_law_dice f fd) :
    FnOk P w K mg base (L2.CX P w) 1 f fd ["script", "spot"] (spM K c 2 m_law_dice) := by
  refine fn_m (N := ["script", "spot", "cell", "great", "blend"]) F sc_law_dice (by decide) fun cdv A outer s H E hr => ?_
  exact EBm.psm (bm_cons (sm_set 2 (pm_if (ptm_cmp co_lt (pm_var 1) (pm_len T.n_len (pm_var 0))) (pm_ix (pm_var 0) (pm_var 1)) (pm_add (pm_mul pm_int (pm_var 1)) pm_int)) sc_law_dice.nd) (bm_cons (sm_set 3 (pm_mod (pm_int1 T.n_int (pm_abs T.n_abs (pm_var 2))) (pm_pow (pm_pow pm_int pm_int) pm_int)) sc_law_dice.nd) (bm_cons (sm_set 4 (pm_add (pm_add (pm_add (pm_mul (pm_var 3) pm_int) (pm_mul pm_int (pm_var 1))) (pm_mul pm_int (pm_int1 T.n_int (pm_cmp co_lt (pm_var 2) pm_int)))) pm_int) sc_law_dice.nd) (bm_one (sm_ret ((pn_lst (pam_cons (pm_max2 rfl T.n_max pm_int (pm_sub (pm_var 3) (pm_pow pm_int pm_int))) (pam_cons (pm_mod (pm_int1 T.n_int (pm_var 4)) pm_int) (pam_cons pm_int pam_nil))))).cell))))) rfl
theorem dn_law_dice {f : Addr} {fd : FuncData} (T : Tx mg) (Y : Ty P w K mg base c gI) (F : Fun K "_law_dice" "_law_dice" s_law_dice f fd) (hm : mg "_law_dice" = some (.ref f)) (hb : Binds K fd ["script", "spot"] []) :
    Dn P w K mg base c "_law_dice" 1 2 [] [] m_law_dice := .mk0 (ok_law_dice T Y F) hm F.kp hb (fun _ _ h => mFun_len _ _ h)
theorem sc_law_roll : FnScope ["dice", "upto", "found", "one", "two"] ["dice", "upto"] (defScope s_law_roll) := ⟨rfl, rfl, rfl, by decide +kernel, rfl, by decide +kernel, by decide +kernel⟩
theorem ok_law_roll {f : Addr} {fd : FuncData} (T : Tx mg) (Y : Ty P w K mg base c gI) (F : Fun K "_law_roll" "_law_roll" s_law_roll f fd) :
    FnOk P w K mg base (L2.CX P w) 1 f fd ["dice", "upto"] (spM K c 2 m_law_roll) := by
  refine fn_m (N := ["dice", "upto", "found", "one", "two"]) F sc_law_roll (by decide) fun cdv A outer s H E hr => ?_
  exact EBm.psm (bm_cons (sm_if (ptm_cmp co_gt (pm_ixB 0 pm_int) pm_int) (bm_cons (sm_set 2 (pm_mod (pm_int1 T.n_int (pm_ixB 0 pm_int)) (pm_var 1)) sc_law_roll.nd) (bm_cons (sm_setItem 0 (pm_div (pm_ixB 0 pm_int) (pm_var 1)) pm_int) (bm_one (sm_ret (pm_var 2))))) bm_nil) (bm_cons (sm_setItem 0 (pm_add (pm_ixB 0 pm_int) pm_int) pm_int) (bm_cons (sm_set 3 (pm_mod (pm_int1 T.n_int (pm_add (pm_ixB 0 pm_int) (pm_mul pm_int (pm_ixB 0 pm_int)))) pm_int) sc_law_roll.nd) (bm_cons (sm_set 4 (pm_add (pm_mul (pm_mod (pm_int1 T.n_int (pm_mul (pm_var 3) (pm_var 3))) pm_int) (pm_var 3)) (pm_mul pm_int (pm_ixB 0 pm_int))) sc_law_roll.nd) (bm_one (sm_ret (pm_mod (pm_int1 T.n_int (pm_div (pm_mod (pm_int1 T.n_int (pm_add (pm_var 4) (pm_ixB 0 pm_int))) pm_int) pm_int)) (pm_var 1)))))))) rfl
theorem dn_law_roll {f : Addr} {fd : FuncData} (T : Tx mg) (Y : Ty P w K mg base c gI) (F : Fun K "_law_roll" "_law_roll" s_law_roll f fd) (hm : mg "_law_roll" = some (.ref f)) (hb : Binds K fd ["dice", "upto"] []) :
    Dn P w K mg base c "_law_roll" 1 2 [] [] m_law_roll := .mk0 (ok_law_roll T Y F) hm F.kp hb (fun _ _ h => mFun_len _ _ h)
theorem sc_law_pick : FnScope ["dice", "items"] ["dice", "items"] (defScope s_law_pick) := ⟨rfl, rfl, rfl, by decide +kernel, rfl, by decide +kernel, by decide +kernel⟩
theorem ok_law_pick {f : Addr} {fd : FuncData} (T : Tx mg) (Y : Ty P w K mg base c gI) (F : Fun K "_law_pick" "_law_pick" s_law_pick f fd) (d_law_roll : Dn P w K mg base c "_law_roll" 1 2 [] [] m_law_roll) :
    FnOk P w K mg base (L2.CX P w) 2 f fd ["dice", "items"] (spM K c 2 m_law_pick) := by
  refine fn_m (N := ["dice", "items"]) F sc_law_pick (by decide) fun cdv A outer s H E hr => ?_
  exact EBm.psm (bm_one (sm_ret (pm_ix (pm_var 1) (pm_callD d_law_roll hr (takes_of rfl rfl rfl rfl) (pam_cons (pm_var 0) (pam_cons (pm_len T.n_len (pm_var 1)) pam_nil)))))) rfl
theorem dn_law_pick {f : Addr} {fd : FuncData} (T : Tx mg) (Y : Ty P w K mg base c gI) (F : Fun K "_law_pick" "_law_pick" s_law_pick f fd) (d_law_roll : Dn P w K mg base c "_law_roll" 1 2 [] [] m_law_roll) (hm : mg "_law_pick" = some (.ref f)) (hb : Binds K fd ["dice", "items"] []) :
    Dn P w K mg base c "_law_pick" 2 2 [] [] m_law_pick := .mk0 (ok_law_pick T Y F d_law_roll) hm F.kp hb (fun _ _ h => mFun_len _ _ h)
theorem sc_law_mixed : FnScope ["dice", "items", "left", "found"] ["dice", "items"] (defScope s_law_mixed) := ⟨rfl, rfl, rfl, by decide +kernel, rfl, by decide +kernel, by decide +kernel⟩
theorem ok_law_mixed {f : Addr} {fd : FuncData} (T : Tx mg) (Y : Ty P w K mg base c gI) (F : Fun K "_law_mixed" "_law_mixed" s_law_mixed f fd) (d_law_roll : Dn P w K mg base c "_law_roll" 1 2 [] [] m_law_roll) :
    FnOk P w K mg base (L2.CX P w) 2 f fd ["dice", "items"] (spM K c 2 m_law_mixed) := by
  refine fn_m (N := ["dice", "items", "left", "found"]) F sc_law_mixed (by decide) fun cdv A outer s H E hr => ?_
  exact EBm.psm (bm_cons (sm_parNN 2 3 rfl sc_law_mixed.nd (pn_list T.n_list (pm_var 1)) (pn_lst pam_nil)) (bm_cons (sm_while 8 (passes_of rfl) (ptm_cmpB 2 (co_ne hr.units) (pm_lst pam_nil)) (bm_one (sm_expr (pm_append 3 (pm_popAt 2 (pm_callD d_law_roll hr (takes_of rfl rfl rfl rfl) (pam_cons (pm_var 0) (pam_cons (pm_lenB 2 T.n_len) pam_nil)))))))) (bm_one (sm_freeze 3 (sm_ret (pm_var 3)))))) rfl
theorem dn_law_mixed {f : Addr} {fd : FuncData} (T : Tx mg) (Y : Ty P w K mg base c gI) (F : Fun K "_law_mixed" "_law_mixed" s_law_mixed f fd) (d_law_roll : Dn P w K mg base c "_law_roll" 1 2 [] [] m_law_roll) (hm : mg "_law_mixed" = some (.ref f)) (hb : Binds K fd ["dice", "items"] []) :
    Dn P w K mg base c "_law_mixed" 2 2 [] [] m_law_mixed := .mk0 (ok_law_mixed T Y F d_law_roll) hm F.kp hb (fun _ _ h => mFun_len _ _ h)
theorem sc_law_word : FnScope ["dice", "turn"] ["dice"] (defScope s_law_word) := ⟨rfl, rfl, rfl, by decide +kernel, rfl, by decide +kernel, by decide +kernel⟩
theorem ok_law_word {f : Addr} {fd : FuncData} (T : Tx mg) (Y : Ty P w K mg base c gI) (F : Fun K "_law_word" "_law_word" s_law_word f fd) (d_law_roll : Dn P w K mg base c "_law_roll" 1 2 [] [] m_law_roll) :
    FnOk P w K mg base (L2.CX P w) 2 f fd ["dice"] (spM K c 1 m_law_word) := by
  refine fn_m (N := ["dice", "turn"]) F sc_law_word (by decide) fun cdv A outer s H E hr => ?_
  exact EBm.psm (bm_one (sm_ret (pm_join pm_str ((pn_comp s (own := [("turn", 1)]) rfl sc_law_word.nd (pim_range1 T.n_range (pam_cons (pm_add pm_int (pm_callD d_law_roll hr (takes_of rfl rfl rfl rfl) (pam_cons (pm_var 0) (pam_cons pm_int pam_nil)))) pam_nil)) (blkOk_by (N := ["dice", "turn"]) (sc := defScope s_law_word) (by decide +kernel)) (fun _ _ _ _ _ => (pgm_name 1 sc_law_word.nd)) (fun _ _ _ _ _ => ptsm_nil) (fun _ _ _ _ _ => (pm_ix pm_str (pm_callD d_law_roll hr takes_blk (pam_cons (pm_var 0) (pam_cons pm_int pam_nil))))))).know))) rfl
theorem dn_law_word {f : Addr} {fd : FuncData} (T : Tx mg) (Y : Ty P w K mg base c gI) (F : Fun K "_law_word" "_law_word" s_law_word f fd) (d_law_roll : Dn P w K mg base c "_law_roll" 1 2 [] [] m_law_roll) (hm : mg "_law_word" = some (.ref f)) (hb : Binds K fd ["dice"] []) :
    Dn P w K mg base c "_law_word" 2 1 [] [] m_law_word := .mk0 (ok_law_word T Y F d_law_roll) hm F.kp hb (fun _ _ h => mFun_len _ _ h)
theorem sc_law_deed : FnScope ["dice", "turn", "way", "rest", "odd", "more", "word"] ["dice", "turn"] (defScope s_law_deed) := ⟨rfl, rfl, rfl, by decide +kernel, rfl, by decide +kernel, by decide +kernel⟩
theorem ok_law_deed {f : Addr} {fd : FuncData} (T : Tx mg) (Y : Ty P w K mg base c gI) (F : Fun K "_law_deed" "_law_deed" s_law_deed f fd) (d_law_roll : Dn P w K mg base c "_law_roll" 1 2 [] [] m_law_roll) (d_law_mixed : Dn P w K mg base c "_law_mixed" 2 2 [] [] m_law_mixed) (d_law_word : Dn P w K mg base c "_law_word" 2 1 [] [] m_law_word) (d_law_pick : Dn P w K mg base c "_law_pick" 2 2 [] [] m_law_pick) (d_Journal_init : MakeD P w K mg base c "Journal" 4 1 1 [] [] m_Journal_init) :
    FnOk P w K mg base (L2.CX P w) 3 f fd ["dice", "turn"] (spM K c 2 m_law_deed) := by
  refine fn_m (N := ["dice", "turn", "way", "rest", "odd", "more", "word"]) F sc_law_deed (by decide) fun cdv A outer s H E hr => ?_
  exact EBm.psm (bm_cons (sm_set 2 (pm_callD d_law_roll hr (takes_of rfl rfl rfl rfl) (pam_cons (pm_var 0) (pam_cons pm_int pam_nil))) sc_law_deed.nd) (bm_cons (sm_if (ptm_cmp co_lt (pm_var 2) pm_int) (bm_cons (sm_set 3 (pm_callD d_law_mixed hr (takes_of rfl rfl rfl rfl) (pam_cons (pm_var 0) (pam_cons (pm_lst (pam_cons (pm_var 1) (pam_cons (pm_tup (pam_cons (pm_var 1) (pam_cons pm_str pam_nil))) (pam_cons pm_non (pam_cons pm_bl (pam_cons pm_str (pam_cons (pm_tup (pam_cons (pm_tup pam_nil) (pam_cons (pm_tup (pam_cons (pm_sub pm_int pm_int) (pam_cons (pm_tup (pam_cons (pm_pow pm_int pm_int) pam_nil)) pam_nil))) pam_nil))) pam_nil))))))) pam_nil))) sc_law_deed.nd) (bm_one (sm_ret (pm_tup (pam_cons pm_str (pam_cons (pm_addA (pm_tup (pam_cons (pm_callD d_law_word hr (takes_of rfl rfl rfl rfl) (pam_cons (pm_var 0) pam_nil)) pam_nil)) (pm_tuple T.n_tuple (pm_cut (pm_var 3) pom_none (pom_some (pm_callD d_law_roll hr (takes_of rfl rfl rfl rfl) (pam_cons (pm_var 0) (pam_cons pm_int pam_nil))))))) pam_nil)))))) bm_nil) (bm_cons (sm_if (ptm_cmp co_lt (pm_var 2) pm_int) (bm_one (sm_ret (pm_tup (pam_cons pm_str (pam_cons (pm_callD d_law_roll hr (takes_of rfl rfl rfl rfl) (pam_cons (pm_var 0) (pam_cons pm_int pam_nil))) pam_nil))))) bm_nil) (bm_cons (sm_if (ptm_cmp co_lt (pm_var 2) pm_int) (bm_one (sm_ret (pm_tup (pam_cons pm_str (pam_cons (pm_callD d_law_roll hr (takes_of rfl rfl rfl rfl) (pam_cons (pm_var 0) (pam_cons pm_int pam_nil))) pam_nil))))) bm_nil) (bm_cons (sm_if (ptm_cmp (co_eqX hr.units) (pm_var 2) pm_int) (bm_one (sm_ret (pm_tup (pam_cons (pm_callD d_law_pick hr (takes_of rfl rfl rfl rfl) (pam_cons (pm_var 0) (pam_cons (pm_lst (pam_cons pm_str (pam_cons pm_str pam_nil))) pam_nil))) (pam_cons pm_non pam_nil))))) bm_nil) (bm_cons (sm_if (ptm_cmp (co_eqX hr.units) (pm_var 2) pm_int) (bm_cons (sm_set 4 (pm_lst (pam_cons (pm_tup pam_nil) (pam_cons pm_non (pam_cons pm_int (pam_cons pm_str (pam_cons (pm_lst (pam_cons pm_str pam_nil)) (pam_cons (pm_tup (pam_cons pm_str pam_nil)) (pam_cons (pm_tup (pam_cons pm_str pam_nil)) (pam_cons (pm_tup (pam_cons pm_int (pam_cons pm_str pam_nil))) (pam_cons (pm_tup (pam_cons pm_str pam_nil)) (pam_cons (pm_tup (pam_cons (pm_tup (pam_cons pm_str pam_nil)) pam_nil)) (pam_cons (pm_tup (pam_cons pm_str (pam_cons (pm_lst (pam_cons pm_int pam_nil)) pam_nil))) (pam_cons (pm_tup (pam_cons pm_str (pam_cons (pn_dnew).know pam_nil))) pam_nil))))))))))))) sc_law_deed.nd) (bm_cons (sm_set 5 (pm_lst (pam_cons (pm_tup (pam_cons pm_str (pam_cons (pm_tup (pam_cons pm_int (pam_cons (pm_lst (pam_cons pm_int pam_nil)) pam_nil))) pam_nil))) (pam_cons (pm_tup (pam_cons pm_str (pam_cons (pm_tup (pam_cons (pm_tup pam_nil) (pam_cons (pm_tup (pam_cons ((pn_disp (ppm_cons pm_int pm_int ppm_nil))).know pam_nil)) pam_nil))) pam_nil))) (pam_cons (pm_tup (pam_cons pm_non (pam_cons pm_str pam_nil))) (pam_cons (pm_tup (pam_cons pm_str (pam_cons (pm_makeD0 d_Journal_init hr (takes_of rfl rfl rfl rfl)) pam_nil))) pam_nil))))) sc_law_deed.nd) (bm_one (sm_ret (pm_tup (pam_cons pm_str (pam_cons (pm_callD d_law_pick hr (takes_of rfl rfl rfl rfl) (pam_cons (pm_var 0) (pam_cons ((pn_add (pm_var 4) (pm_var 5))).know pam_nil))) pam_nil))))))) bm_nil) (bm_cons (sm_set 6 (pm_callD d_law_pick hr (takes_of rfl rfl rfl rfl) (pam_cons (pm_var 0) (pam_cons (pm_lst (pam_cons pm_str (pam_cons pm_str pam_nil))) pam_nil))) sc_law_deed.nd) (bm_cons (sm_if (ptm_cmp (co_eqX hr.units) (pm_var 2) pm_int) (bm_one (sm_ret (pm_tup (pam_cons (pm_var 6) (pam_cons (pm_callD d_law_pick hr (takes_of rfl rfl rfl rfl) (pam_cons (pm_var 0) (pam_cons (pm_lst (pam_cons (pm_sub pm_int pm_int) (pam_cons pm_bl (pam_cons pm_bl (pam_cons pm_non (pam_cons pm_str (pam_cons (pm_tup pam_nil) (pam_cons (pm_lst (pam_cons pm_int pam_nil)) (pam_cons (pm_tup (pam_cons pm_int pam_nil)) (pam_cons (pm_sub pm_int (pm_pow pm_int pm_int)) pam_nil)))))))))) pam_nil))) pam_nil))))) bm_nil) (bm_one (sm_ret (pm_tup (pam_cons (pm_var 6) (pam_cons (pm_callD d_law_pick hr (takes_of rfl rfl rfl rfl) (pam_cons (pm_var 0) (pam_cons (pm_lst (pam_cons (pm_pow pm_int pm_int) (pam_cons pm_int (pam_cons pm_int pam_nil)))) pam_nil))) pam_nil))))))))))))) rfl
theorem dn_law_deed {f : Addr} {fd : FuncData} (T : Tx mg) (Y : Ty P w K mg base c gI) (F : Fun K "_law_deed" "_law_deed" s_law_deed f fd) (d_law_roll : Dn P w K mg base c "_law_roll" 1 2 [] [] m_law_roll) (d_law_mixed : Dn P w K mg base c "_law_mixed" 2 2 [] [] m_law_mixed) (d_law_word : Dn P w K mg base c "_law_word" 2 1 [] [] m_law_word) (d_law_pick : Dn P w K mg base c "_law_pick" 2 2 [] [] m_law_pick) (d_Journal_init : MakeD P w K mg base c "Journal" 4 1 1 [] [] m_Journal_init) (hm : mg "_law_deed" = some (.ref f)) (hb : Binds K fd ["dice", "turn"] []) :
    Dn P w K mg base c "_law_deed" 3 2 [] [] m_law_deed := .mk0 (ok_law_deed T Y F d_law_roll d_law_mixed d_law_word d_law_pick d_Journal_init) hm F.kp hb (fun _ _ h => mFun_len _ _ h)
theorem sc_law_done : FnScope ["journal", "deed", "word", "given", "e"] ["journal", "deed"] (defScope s_law_done) := ⟨rfl, rfl, rfl, by decide +kernel, rfl, by decide +kernel, by decide +kernel⟩
theorem ok_law_done {f : Addr} {fd : FuncData} (T : Tx mg) (Y : Ty P w K mg base c gI) (F : Fun K "_law_done" "_law_done" s_law_done f fd) (d_Journal_enter : MethD P w K mg base c 4 4 "enter" 8 2 [] [] m_Journal_enter) (d_Journal_undo : MethD P w K mg base c 4 5 "undo" 5 2 [] [] m_Journal_undo) (d_Journal_undo_d1 : MethD P w K mg base c 4 5 "undo" 5 2 [(.int (1))] [.int (1)] m_Journal_undo) (d_Journal_redo : MethD P w K mg base c 4 6 "redo" 5 2 [] [] m_Journal_redo) (d_Journal_redo_d1 : MethD P w K mg base c 4 6 "redo" 5 2 [(.int (1))] [.int (1)] m_Journal_redo) :
    FnOk P w K mg base (L2.CX P w) 9 f fd ["journal", "deed"] (spM K c 2 m_law_done) := by
  refine fn_m (N := ["journal", "deed", "word", "given", "e"]) F sc_law_done (by decide) fun cdv A outer s H E hr => ?_
  exact EBm.psm (bm_cons (sm_asg (pm_var 1) (pgm_tup rfl (pgsm_cons (pgm_name 2 sc_law_done.nd) (pgsm_cons (pgm_name 3 sc_law_done.nd) pgsm_nil)))) (bm_one (sm_tryD Y.so (takes_of rfl rfl rfl rfl) (fun _ _ _ tk2 => (bm_cons (sm_if (ptm_cmp (co_eqX hr.units) (pm_var 2) pm_str) (bm_cons (sm_expr (pm_methD d_Journal_enter hr tk2 (pm_var 0) (pam_cons (pm_var 3) pam_nil))) (bm_one (sm_ret (pm_lst (pam_cons pm_str pam_nil))))) bm_nil) (bm_cons (sm_if (ptm_cmp (co_eqX hr.units) (pm_var 2) pm_str) (bm_one (sm_ret (pm_lst (pam_cons (pm_methD d_Journal_undo hr tk2 (pm_var 0) (pam_cons (pm_var 3) pam_nil)) pam_nil)))) bm_nil) (bm_cons (sm_if (ptm_cmp (co_eqX hr.units) (pm_var 2) pm_str) (bm_one (sm_ret (pm_lst (pam_cons (pm_methD d_Journal_redo hr tk2 (pm_var 0) (pam_cons (pm_var 3) pam_nil)) pam_nil)))) bm_nil) (bm_one (sm_ret (pm_lst (pam_cons (pm_if (ptm_cmp (co_eqX hr.units) (pm_var 2) pm_str) (pm_methD0 d_Journal_undo_d1 hr tk2 (pm_var 0)) (pm_methD0 d_Journal_redo_d1 hr tk2 (pm_var 0))) pam_nil)))))))) (ehm_cons (names_own Y.c_InvalidOperation) (fun _ _ _ _ _ hz hf => (bm_one (sm_ret (pm_lst (pam_cons pm_str (pam_cons pm_str pam_nil)))))) (ehm_as sc_law_done.nd (names_own Y.c_InvalidNumber) (fun _ _ _ _ _ hz hf => (bm_one (sm_ret (pm_lst (pam_cons pm_str (pam_cons (pm_xfD Y.x_InvalidNumber_number hz hf) pam_nil)))))) (ehm_as sc_law_done.nd (names_own Y.c_NothingToUndo) (fun _ _ _ _ _ hz hf => (bm_one (sm_ret (pm_lst (pam_cons pm_str (pam_cons (pm_xfD Y.x_NothingToUndo_many hz hf) pam_nil)))))) ehm_nil)))))) rfl
theorem dn_law_done {f : Addr} {fd : FuncData} (T : Tx mg) (Y : Ty P w K mg base c gI) (F : Fun K "_law_done" "_law_done" s_law_done f fd) (d_Journal_enter : MethD P w K mg base c 4 4 "enter" 8 2 [] [] m_Journal_enter) (d_Journal_undo : MethD P w K mg base c 4 5 "undo" 5 2 [] [] m_Journal_undo) (d_Journal_undo_d1 : MethD P w K mg base c 4 5 "undo" 5 2 [(.int (1))] [.int (1)] m_Journal_undo) (d_Journal_redo : MethD P w K mg base c 4 6 "redo" 5 2 [] [] m_Journal_redo) (d_Journal_redo_d1 : MethD P w K mg base c 4 6 "redo" 5 2 [(.int (1))] [.int (1)] m_Journal_redo) (hm : mg "_law_done" = some (.ref f)) (hb : Binds K fd ["journal", "deed"] []) :
    Dn P w K mg base c "_law_done" 9 2 [] [] m_law_done := .mk0 (ok_law_done T Y F d_Journal_enter d_Journal_undo d_Journal_undo_d1 d_Journal_redo d_Journal_redo_d1) hm F.kp hb (fun _ _ h => mFun_len _ _ h)
theorem sc_law_is_plain : FnScope ["value", "one"] ["value"] (defScope s_law_is_plain) := ⟨rfl, rfl, rfl, by decide +kernel, rfl, by decide +kernel, by decide +kernel⟩
theorem ok_law_is_plain {f : Addr} {fd : FuncData} {d : Nat} (T : Tx mg) (Y : Ty P w K mg base c gI) (F : Fun K "_law_is_plain" "_law_is_plain" s_law_is_plain f fd) (d_law_is_plain : Dn P w K mg base c "_law_is_plain" (0 + d) 1 [] [] (mR_law_is_plain d)) :
    FnOk P w K mg base (L2.CX P w) (0 + d + 1) f fd ["value"] (spM K c 1 (mR_law_is_plain (d + 1))) := by
  refine fn_m (k := 0 + d) (N := ["value", "one"]) F sc_law_is_plain (by decide) fun cdv A outer s H E hr => ?_
  exact EBm.psm (bm_cons (sm_if (ptm_tru (pm_isT (own := [4]) T.n_isinstance T.n_tuple Y.is_G Y.is_own Y.is_tuple (pm_var 0))) (bm_one (sm_ret (pm_all rfl T.n_all ((pn_comp s (own := [("one", 1)]) rfl sc_law_is_plain.nd (pim_seq (pm_var 0)) (blkOk_by (N := ["value", "one"]) (sc := defScope s_law_is_plain) (by decide +kernel)) (fun _ _ _ _ _ => (pgm_name 1 sc_law_is_plain.nd)) (fun _ _ _ _ _ => ptsm_nil) (fun _ _ _ _ _ => (pm_callD d_law_is_plain hr takes_blk (pam_cons (pm_var 1) pam_nil) (hk := by omega))))).know))) bm_nil) (bm_one (sm_ret (pm_or (pm_cmp co_is (pm_var 0) pm_non) (pm_or (pm_isT (own := [4]) T.n_isinstance T.n_str Y.is_G Y.is_own Y.is_str (pm_var 0)) (pm_one (pm_isT (own := [4]) T.n_isinstance T.n_int Y.is_G Y.is_own Y.is_int (pm_var 0)))))))) rfl
theorem dn_law_is_plain {f : Addr} {fd : FuncData} (T : Tx mg) (Y : Ty P w K mg base c gI) (F : Fun K "_law_is_plain" "_law_is_plain" s_law_is_plain f fd) (hm : mg "_law_is_plain" = some (.ref f)) (hb : Binds K fd ["value"] []) :
    Dn P w K mg base c "_law_is_plain" 7 1 [] [] m_law_is_plain := Dn.fuel (k := 0) (m := mR_law_is_plain) rfl hm F.kp hb (fun _ _ _ h => mFun_len _ _ h) (fun _ dd => ok_law_is_plain T Y F dd) 7
theorem sc_law_is_step : FnScope ["value", "sign"] ["value"] (defScope s_law_is_step) := ⟨rfl, rfl, rfl, by decide +kernel, rfl, by decide +kernel, by decide +kernel⟩
theorem ok_law_is_step {f : Addr} {fd : FuncData} (T : Tx mg) (Y : Ty P w K mg base c gI) (F : Fun K "_law_is_step" "_law_is_step" s_law_is_step f fd) (d_law_is_plain : Dn P w K mg base c "_law_is_plain" 7 1 [] [] m_law_is_plain) :
    FnOk P w K mg base (L2.CX P w) 8 f fd ["value"] (spM K c 1 m_law_is_step) := by
  refine fn_m (N := ["value", "sign"]) F sc_law_is_step (by decide) fun cdv A outer s H E hr => ?_
  exact EBm.psm (bm_cons (sm_if ((pwm_or (ptm_not (ptm_tru (pm_isT (own := [4]) T.n_isinstance T.n_tuple Y.is_G Y.is_own Y.is_tuple (pm_var 0)))) (pwm_or (ptm_cmp (co_eqY hr.units) (pm_var 0) (pm_tup pam_nil)) (pwm_or (ptm_not (ptm_tru (pm_isT (own := [4]) T.n_isinstance T.n_str Y.is_G Y.is_own Y.is_str (pm_ix (pm_var 0) pm_int)))) (pwm_or1 (ptm_not (ptm_chain co_le co_le pm_int (pm_len T.n_len (pm_ix (pm_var 0) pm_int)) pm_int))))))).pt (bm_one (sm_ret pm_bl)) bm_nil) (bm_cons (sm_if (ptm_cmp (co_ne hr.units) ((pn_comp s (own := [("sign", 1)]) rfl sc_law_is_step.nd (pim_seq (pm_ix (pm_var 0) pm_int)) (blkOk_by (N := ["value", "sign"]) (sc := defScope s_law_is_step) (by decide +kernel)) (fun _ _ _ _ _ => (pgm_name 1 sc_law_is_step.nd)) (fun _ _ _ _ _ => (ptsm_one (ptm_cmp (co_notIn (hu65 hr)) (pm_var 1) pm_str))) (fun _ _ _ _ _ => (pm_var 1)))).know (pm_lst pam_nil)) (bm_one (sm_ret pm_bl)) bm_nil) (bm_one (sm_ret (pm_callD d_law_is_plain hr (takes_of rfl rfl rfl rfl) (pam_cons (pm_var 0) pam_nil)))))) rfl
theorem dn_law_is_step {f : Addr} {fd : FuncData} (T : Tx mg) (Y : Ty P w K mg base c gI) (F : Fun K "_law_is_step" "_law_is_step" s_law_is_step f fd) (d_law_is_plain : Dn P w K mg base c "_law_is_plain" 7 1 [] [] m_law_is_plain) (hm : mg "_law_is_step" = some (.ref f)) (hb : Binds K fd ["value"] []) :
    Dn P w K mg base c "_law_is_step" 8 1 [] [] m_law_is_step := .mk0 (ok_law_is_step T Y F d_law_is_plain) hm F.kp hb (fun _ _ h => mFun_len _ _ h)
theorem sc_law_due : FnScope ["kept", "deed", "word", "given", "count", "left", "back", "again"] ["kept", "deed"] (defScope s_law_due) := ⟨rfl, rfl, rfl, by decide +kernel, rfl, by decide +kernel, by decide +kernel⟩
theorem ok_law_due {f : Addr} {fd : FuncData} (T : Tx mg) (Y : Ty P w K mg base c gI) (F : Fun K "_law_due" "_law_due" s_law_due f fd) (d_law_is_step : Dn P w K mg base c "_law_is_step" 8 1 [] [] m_law_is_step) :
    FnOk P w K mg base (L2.CX P w) 9 f fd ["kept", "deed"] (spM K c 2 m_law_due) := by
  refine fn_m (N := ["kept", "deed", "word", "given", "count", "left", "back", "again"]) F sc_law_due (by decide) fun cdv A outer s H E hr => ?_
  exact EBm.psm (bm_cons (sm_asg (pm_var 1) (pgm_tup rfl (pgsm_cons (pgm_name 2 sc_law_due.nd) (pgsm_cons (pgm_name 3 sc_law_due.nd) pgsm_nil)))) (bm_cons (sm_if (ptm_cmp (co_eqX hr.units) (pm_var 2) pm_str) (bm_cons (sm_if (ptm_not (ptm_tru (pm_callD d_law_is_step hr (takes_of rfl rfl rfl rfl) (pam_cons (pm_var 3) pam_nil)))) (bm_one (sm_ret (pm_lst (pam_cons pm_str (pam_cons pm_str pam_nil))))) bm_nil) (bm_cons (sm_asgE (pm_tup (pam_cons ((pn_add (pm_ixB 0 pm_int) (pm_lst (pam_cons (pm_var 3) pam_nil)))).know (pam_cons (pm_lst pam_nil) pam_nil))) (etg_tup rfl (etgs_cons (etg_sub (E := E0W) 0 pm_int) (etgs_cons (etg_sub (E := E0W) 0 pm_int) etgs_nil)))) (bm_one (sm_ret (pm_lst (pam_cons pm_str pam_nil)))))) bm_nil) (bm_cons (sm_set 4 (pm_if ((pwm_and (ptm_cmp co_is (pm_var 3) pm_non) (pwm_and1 (ptm_cmp (co_in (hu65 hr)) pm_str (pm_var 2))))).pt pm_int (pm_var 3)) sc_law_due.nd) (bm_cons (sm_if ((pwm_or (ptm_not (ptm_tru (pm_isTy T.n_isinstance T.n_int (pm_var 4)))) (pwm_or (ptm_tru (pm_isTy T.n_isinstance T.n_bool (pm_var 4))) (pwm_or1 (ptm_cmp co_lt (pm_var 4) pm_int))))).pt (bm_one (sm_ret (pm_lst (pam_cons pm_str (pam_cons (pm_var 4) pam_nil))))) bm_nil) (bm_cons (sm_if (ptm_cmp co_gt (pm_var 4) (pm_len T.n_len (pm_ixB 0 (pm_if (ptm_cmp (co_eqX hr.units) (pm_cut (pm_var 2) pom_none (pom_some pm_int)) pm_str) pm_int pm_int)))) (bm_one (sm_ret (pm_lst (pam_cons pm_str (pam_cons (pm_var 4) pam_nil))))) bm_nil) (bm_cons (sm_if (ptm_cmp (co_eqX hr.units) (pm_cut (pm_var 2) pom_none (pom_some pm_int)) pm_str) (bm_cons (sm_set 5 (pm_sub (pm_len T.n_len (pm_ixB 0 pm_int)) (pm_var 4)) sc_law_due.nd) (bm_cons (sm_set 6 (pm_cut (pm_ixB 0 pm_int) (pom_some (pm_var 5)) pom_none) sc_law_due.nd) (bm_cons (sm_asgE (pm_tup (pam_cons (pm_cut (pm_ixB 0 pm_int) pom_none (pom_some (pm_var 5))) (pam_cons ((pn_add (pm_var 6) (pm_ixB 0 pm_int))).know pam_nil))) (etg_tup rfl (etgs_cons (etg_sub (E := E0W) 0 pm_int) (etgs_cons (etg_sub (E := E0W) 0 pm_int) etgs_nil)))) (bm_one (sm_ret (pm_lst (pam_cons (pm_tuple T.n_tuple (pm_rev (pm_var 6))) pam_nil))))))) bm_nil) (bm_cons (sm_set 7 (pm_cut (pm_ixB 0 pm_int) pom_none (pom_some (pm_var 4))) sc_law_due.nd) (bm_cons (sm_asgE (pm_tup (pam_cons ((pn_add (pm_ixB 0 pm_int) (pm_var 7))).know (pam_cons (pm_cut (pm_ixB 0 pm_int) (pom_some (pm_var 4)) pom_none) pam_nil))) (etg_tup rfl (etgs_cons (etg_sub (E := E0W) 0 pm_int) (etgs_cons (etg_sub (E := E0W) 0 pm_int) etgs_nil)))) (bm_one (sm_ret (pm_lst (pam_cons (pm_tuple T.n_tuple (pm_var 7)) pam_nil)))))))))))) rfl
theorem dn_law_due {f : Addr} {fd : FuncData} (T : Tx mg) (Y : Ty P w K mg base c gI) (F : Fun K "_law_due" "_law_due" s_law_due f fd) (d_law_is_step : Dn P w K mg base c "_law_is_step" 8 1 [] [] m_law_is_step) (hm : mg "_law_due" = some (.ref f)) (hb : Binds K fd ["kept", "deed"] []) :
    Dn P w K mg base c "_law_due" 9 2 [] [] m_law_due := .mk0 (ok_law_due T Y F d_law_is_step) hm F.kp hb (fun _ _ h => mFun_len _ _ h)
theorem sc_law_alike : FnScope ["found", "due", "one", "other"] ["found", "due"] (defScope s_law_alike) := ⟨rfl, rfl, rfl, by decide +kernel, rfl, by decide +kernel, by decide +kernel⟩
theorem ok_law_alike {f : Addr} {fd : FuncData} (T : Tx mg) (Y : Ty P w K mg base c gI) (F : Fun K "_law_alike" "_law_alike" s_law_alike f fd) :
    FnOk P w K mg base (L2.CX P w) 1 f fd ["found", "due"] (spM K c 2 m_law_alike) := by
  refine fn_m (N := ["found", "due", "one", "other"]) F sc_law_alike (by decide) fun cdv A outer s H E hr => ?_
  exact EBm.psm (bm_cons (sm_if ((pwm_or (ptm_cmp (co_ne hr.units) (pm_len T.n_len (pm_var 0)) (pm_len T.n_len (pm_var 1))) (pwm_or1 (ptm_cmp (co_ne hr.units) (pm_var 0) (pm_var 1))))).pt (bm_one (sm_ret pm_bl)) bm_nil) (bm_one (sm_ret (pm_cmp (co_eqX hr.units) ((pn_comp s (own := [("one", 2), ("other", 3)]) rfl sc_law_alike.nd (pim_zip T.n_zip (pam_cons (pm_var 0) (pam_cons (pm_var 1) pam_nil))) (blkOk_by (N := ["found", "due", "one", "other"]) (sc := defScope s_law_alike) (by decide +kernel)) (fun _ _ _ _ _ => (pgm_tup rfl (pgsm_cons (pgm_name 2 sc_law_alike.nd) (pgsm_cons (pgm_name 3 sc_law_alike.nd) pgsm_nil)))) (fun _ _ _ _ _ => (ptsm_one (ptm_cmp (co_ne hr.units) (pm_isTy T.n_isinstance T.n_bool (pm_var 2)) (pm_isTy T.n_isinstance T.n_bool (pm_var 3))))) (fun _ _ _ _ _ => pm_int))).know (pm_lst pam_nil))))) rfl
theorem dn_law_alike {f : Addr} {fd : FuncData} (T : Tx mg) (Y : Ty P w K mg base c gI) (F : Fun K "_law_alike" "_law_alike" s_law_alike f fd) (hm : mg "_law_alike" = some (.ref f)) (hb : Binds K fd ["found", "due"] []) :
    Dn P w K mg base c "_law_alike" 1 2 [] [] m_law_alike := .mk0 (ok_law_alike T Y F) hm F.kp hb (fun _ _ h => mFun_len _ _ h)
theorem sc_law : FnScope ["script", "journals", "kept", "spot", "dice", "turn", "which", "deed", "journal", "own"] ["script"] (defScope s_law) := ⟨rfl, rfl, rfl, by decide +kernel, rfl, by decide +kernel, by decide +kernel⟩
theorem ok_law {f : Addr} {fd : FuncData} (T : Tx mg) (Y : Ty P w K mg base c gI) (F : Fun K "law" "law" s_law f fd) (d_Journal_init : MakeD P w K mg base c "Journal" 4 1 1 [] [] m_Journal_init) (d_law_dice : Dn P w K mg base c "_law_dice" 1 2 [] [] m_law_dice) (d_law_roll : Dn P w K mg base c "_law_roll" 1 2 [] [] m_law_roll) (d_law_deed : Dn P w K mg base c "_law_deed" 3 2 [] [] m_law_deed) (d_law_alike : Dn P w K mg base c "_law_alike" 1 2 [] [] m_law_alike) (d_law_done : Dn P w K mg base c "_law_done" 9 2 [] [] m_law_done) (d_law_due : Dn P w K mg base c "_law_due" 9 2 [] [] m_law_due) (d_Journal_undone : PropD P w K mg base c 4 "undone" 1 m_Journal_undone) (d_Journal_log : PropD P w K mg base c 4 "log" 1 m_Journal_log) :
    FnOk P w K mg base (L2.CX P w) 10 f fd ["script"] (spM K c 1 m_law) := by
  refine fn_m (N := ["script", "journals", "kept", "spot", "dice", "turn", "which", "deed", "journal", "own"]) F sc_law (by decide) fun cdv A outer s H E hr => ?_
  exact EBm.psm (bm_cons (sm_par 1 2 rfl sc_law.nd (pam_cons (pm_lst (pam_cons (pm_makeD0 d_Journal_init hr (takes_of rfl rfl rfl rfl)) (pam_cons (pm_makeD0 d_Journal_init hr (takes_of rfl rfl rfl rfl)) pam_nil))) (pam_cons (pm_lst (pam_cons ((pn_lst (pam_cons (pm_lst pam_nil) (pam_cons (pm_lst pam_nil) pam_nil)))).cell (pam_cons ((pn_lst (pam_cons (pm_lst pam_nil) (pam_cons (pm_lst pam_nil) pam_nil)))).cell pam_nil))) pam_nil))) (bm_cons (sm_for (passes_of rfl) rfl (pim_range1 T.n_range (pam_cons (pm_max2 rfl T.n_max pm_int (pm_min2 rfl T.n_min pm_int (pm_len T.n_len (pm_var 0)))) pam_nil)) (pgm_name 3 sc_law.nd) (bm_cons (sm_set 4 (pm_callD d_law_dice hr (takes_of rfl rfl rfl rfl) (pam_cons (pm_var 0) (pam_cons (pm_var 3) pam_nil))) sc_law.nd) (bm_one (sm_for (passes_of rfl) rfl (pim_range1 T.n_range (pam_cons pm_int pam_nil)) (pgm_name 5 sc_law.nd) (bm_cons (sm_set 6 (pm_callD d_law_roll hr (takes_of rfl rfl rfl rfl) (pam_cons (pm_var 4) (pam_cons pm_int pam_nil))) sc_law.nd) (bm_cons (sm_set 7 (pm_callD d_law_deed hr (takes_of rfl rfl rfl rfl) (pam_cons (pm_var 4) (pam_cons (pm_var 5) pam_nil))) sc_law.nd) (bm_cons (sm_if (ptm_not (ptm_tru (pm_callD d_law_alike hr (takes_of rfl rfl rfl rfl) (pam_cons (pm_callD d_law_done hr (takes_of rfl rfl rfl rfl) (pam_cons (pm_ix (pm_var 1) (pm_var 6)) (pam_cons (pm_var 7) pam_nil))) (pam_cons (pm_callD d_law_due hr (takes_of rfl rfl rfl rfl) (pam_cons (pm_ix (pm_var 2) (pm_var 6)) (pam_cons (pm_var 7) pam_nil))) pam_nil))))) (bm_one (sm_ret pm_bl)) bm_nil) (bm_one (sm_for (passes_of rfl) rfl (pim_zip T.n_zip (pam_cons (pm_var 1) (pam_cons (pm_var 2) pam_nil))) (pgm_tup rfl (pgsm_cons (pgm_name 8 sc_law.nd) (pgsm_cons (pgm_name 9 sc_law.nd) pgsm_nil))) (bm_cons (sm_if ((pwm_or (ptm_cmp (co_ne hr.units) (pm_propD d_Journal_undone hr (pm_var 8)) (pm_tuple T.n_tuple (pm_ixB 9 pm_int))) (pwm_or1 (ptm_cmp (co_ne hr.units) (pm_propD d_Journal_log hr (pm_var 8)) (pm_tuple T.n_tuple (pm_ixB 9 pm_int)))))).pt (bm_one (sm_ret pm_bl)) bm_nil) (bm_one (sm_if ((pwm_or (ptm_not (ptm_tru (pm_isTy T.n_isinstance T.n_tuple (pm_propD d_Journal_log hr (pm_var 8))))) (pwm_or1 (ptm_not (ptm_tru (pm_isTy T.n_isinstance T.n_tuple (pm_propD d_Journal_undone hr (pm_var 8)))))))).pt (bm_one (sm_ret pm_bl)) bm_nil)))))))))))) (bm_one (sm_ret pm_bl)))) rfl
theorem dn_law {f : Addr} {fd : FuncData} (T : Tx mg) (Y : Ty P w K mg base c gI) (F : Fun K "law" "law" s_law f fd) (d_Journal_init : MakeD P w K mg base c "Journal" 4 1 1 [] [] m_Journal_init) (d_law_dice : Dn P w K mg base c "_law_dice" 1 2 [] [] m_law_dice) (d_law_roll : Dn P w K mg base c "_law_roll" 1 2 [] [] m_law_roll) (d_law_deed : Dn P w K mg base c "_law_deed" 3 2 [] [] m_law_deed) (d_law_alike : Dn P w K mg base c "_law_alike" 1 2 [] [] m_law_alike) (d_law_done : Dn P w K mg base c "_law_done" 9 2 [] [] m_law_done) (d_law_due : Dn P w K mg base c "_law_due" 9 2 [] [] m_law_due) (d_Journal_undone : PropD P w K mg base c 4 "undone" 1 m_Journal_undone) (d_Journal_log : PropD P w K mg base c 4 "log" 1 m_Journal_log) (hm : mg "law" = some (.ref f)) (hb : Binds K fd ["script"] []) :
    Dn P w K mg base c "law" 10 1 [] [] m_law := .mk0 (ok_law T Y F d_Journal_init d_law_dice d_law_roll d_law_deed d_law_alike d_law_done d_law_due d_Journal_undone d_Journal_log) hm F.kp hb (fun _ _ h => mFun_len _ _ h)
end
end K71

set_option Elab.async false
set_option linter.all false
set_option maxRecDepth 100000
set_option maxHeartbeats 4000000
namespace K71
open PySem L2 Mir
/-- what a step may hold -/
def okV (h : MHp) (d : Nat) (v : Val) : Prop := match v with
  | .non => True
  | .bl _ => True
  | .int _ => True
  | .str s => PyData.strOk s = true ∧ s.length ≤ 1000
  | .tup vs => match d with
    | 0 => False
    | d + 1 => vs.length ≤ 1000 ∧ ∀ v ∈ vs, okV h d v
  | .lst _ => True
  | .dct _ => True
  | .ref a => ∃ fs, h[a]? = some (.ins 4 fs)
  | .fz _ => False
  | .obj _ _ => False
def plainB (d : Nat) (v : Val) : Bool := match v with
  | .non => true
  | .bl _ => true
  | .int _ => true
  | .str s => true
  | .tup vs => match d with
    | 0 => false
    | d + 1 => vs.all (plainB d)
  | _ => false
theorem is_plain_spec {h : MHp} : ∀ (d : Nat) (v : Val), okV h d v → WpF (mR_is_plain (d + 1) [v] h) fun x h' => x = .bl (plainB d v) ∧ h' = h
  | d, .non, _ => by rw [mR_is_plain, wpF_fun]; simp [plainB]
  | d, .bl b, _ => by rw [mR_is_plain, wpF_fun]; simp [plainB]
  | d, .int b, _ => by rw [mR_is_plain, wpF_fun]; simp [plainB]
  | d, .str s, _ => by rw [mR_is_plain, wpF_fun]; simp [plainB]
  | d, .lst vs, _ => by rw [mR_is_plain, wpF_fun]; simp [plainB]
  | d, .dct vs, _ => by rw [mR_is_plain, wpF_fun]; simp [plainB]
  | d, .ref a, o => by obtain ⟨fs, e⟩ : ∃ fs, h[a]? = some (.ins 4 fs) := (by simpa [okV] using o); rw [mR_is_plain, wpF_fun]; simp [plainB, e]
  | d, .fz vs, o => by simp only [okV] at o
  | d, .obj _ _, o => by simp only [okV] at o
  | 0, .tup vs, o => o.elim
  | d + 1, .tup vs, ⟨l, o⟩ => by
    rw [mR_is_plain, wpF_fun]; simp [plainB]
    refine wp_comp1 (fun _ => true) (fun v => .bl (plainB d v)) _ _ (by simpa using sz1000 l) ?_ ?_ ?_
    · intro v hv; simp
    · intro v hv _
      simp
      refine (is_plain_spec d v (o v hv)).mono ?_
      rintro x h' ⟨rfl, rfl⟩; simp
    · intro ρ' e
      simp [vAll_map]
theorem law_is_plain_spec {h : MHp} : ∀ (d : Nat) (v : Val), okV h d v → WpF (mR_law_is_plain (d + 1) [v] h) fun x h' => x = .bl (plainB d v) ∧ h' = h
  | d, .non, _ => by rw [mR_law_is_plain, wpF_fun]; simp [plainB]
  | d, .bl b, _ => by rw [mR_law_is_plain, wpF_fun]; simp [plainB]
  | d, .int b, _ => by rw [mR_law_is_plain, wpF_fun]; simp [plainB]
  | d, .str s, _ => by rw [mR_law_is_plain, wpF_fun]; simp [plainB]
  | d, .lst vs, _ => by rw [mR_law_is_plain, wpF_fun]; simp [plainB]
  | d, .dct vs, _ => by rw [mR_law_is_plain, wpF_fun]; simp [plainB]
  | d, .ref a, o => by obtain ⟨fs, e⟩ : ∃ fs, h[a]? = some (.ins 4 fs) := (by simpa [okV] using o); rw [mR_law_is_plain, wpF_fun]; simp [plainB, e]
  | d, .fz vs, o => by simp only [okV] at o
  | d, .obj _ _, o => by simp only [okV] at o
  | 0, .tup vs, o => o.elim
  | d + 1, .tup vs, ⟨l, o⟩ => by
    rw [mR_law_is_plain, wpF_fun]; simp [plainB]
    refine wp_comp1 (fun _ => true) (fun v => .bl (plainB d v)) _ _ (by simpa using sz1000 l) ?_ ?_ ?_
    · intro v hv; simp
    · intro v hv _
      simp
      refine (law_is_plain_spec d v (o v hv)).mono ?_
      rintro x h' ⟨rfl, rfl⟩; simp
    · intro ρ' e
      simp [vAll_map]
/-- plain values are data -/
theorem plain_dat {h : MHp} : ∀ (d : Nat) (v : Val), okV h d v → plainB d v = true → dat d v
  | d, .non, _, _ => dat_non
  | d, .bl b, _, _ => dat_bl
  | d, .int b, _, _ => dat_int
  | d, .str s, o, _ => dat_str (by simp only [okV] at o; exact o.1)
  | d, .fz vs, o, _ => by simp only [okV] at o
  | d, .obj _ _, o, _ => by simp only [okV] at o
  | d, .lst vs, _, p => by simp [plainB] at p
  | d, .dct vs, _, p => by simp [plainB] at p
  | d, .ref a, _, p => by simp [plainB] at p
  | 0, .tup vs, o, _ => o.elim
  | d + 1, .tup vs, ⟨l, o⟩, p => by
    simp only [plainB, List.all_eq_true] at p
    exact dat_tup fun v hv => plain_dat d v (o v hv) (p v hv)
end K71

set_option Elab.async false
set_option linter.all false
set_option maxRecDepth 100000
set_option maxHeartbeats 4000000
namespace K71
open PySem L2 Mir
def inL (q : Val) : Bool := match q with
  | .str s => !(Builtin.Str.occurrences (Str.ofString "abcdefghijklmnopqrstuvwxyz") s 0 (Str.ofString "abcdefghijklmnopqrstuvwxyz").length 1).isEmpty
  | _ => false
def sgn (s : Str) : List Val := s.cps.toList.map fun q => .str ⟨#[q]⟩
def nameB (s : Str) : Bool := decide (1 ≤ s.length) && decide (s.length ≤ 8) && (sgn s).all inL
def stepB (v : Val) : Bool := match v with
  | .tup (.str n :: r) => nameB n && plainB 6 (.tup (.str n :: r))
  | _ => false
theorem name_spec {h : MHp} {s : Str} (l : s.length ≤ 1000) : WpF (m_is_name [.str s] h) fun x h' => x = .bl (nameB s) ∧ h' = h := by
  unfold m_is_name
  rw [wpF_fun]
  simp [fIsTy, sz1000 l]
  refine ifB_dec (fun h1 => ?_) (fun h1 => by simp [nameB]; omega)
  simp
  refine ifB_dec (fun h2 => ?_) (fun h2 => by simp [nameB, h2]; omega)
  simp
  · refine wp_comp1 (fun _ => true) (fun v => .bl (inL v)) _ _ (by simp; exact sz1000 l) ?_ ?_ ?_
    · intro v hv; simp
    · intro v hv _
      obtain ⟨q, _, rfl⟩ := List.mem_map.1 hv
      simp [inL]
    · intro ρ' e
      simp [vAll_map]
      have h1 : 1 ≤ s.length := by omega
      have h2 : s.length ≤ 8 := by omega
      simp [nameB, sgn, h1, h2]
/-- what a journal stands for -/
def jr (D U : List Val) : Cell := .ins 4 [(2, .tup D), (3, .tup U)]
def okS (h : MHp) (v : Val) : Prop := okV h 6 v ∧ ∀ r a, v ≠ .tup (.ref a :: r)
theorem name_no {h : MHp} {v : Val} {T : String} (t : tyName v = some T) (n : ∀ s, v ≠ .str s) : WpF (m_is_name [v] h) fun x h' => x = .bl false ∧ h' = h := by
  unfold m_is_name
  rw [wpF_fun]
  cases v <;> simp [tyName] at t <;> first | exact (n _ rfl).elim | simp [fIsTy]
theorem law_step_spec {h : MHp} {v : Val} (o : okS h v) : WpF (m_law_is_step [v] h) fun x h' => x = .bl (stepB v) ∧ h' = h := by
  unfold m_law_is_step
  rw [wpF_fun]
  obtain ⟨o, n⟩ := o
  cases v with
  | tup vs =>
    cases vs with
    | nil => simp [stepB]
    | cons x r =>
      have ox : okV h 5 x := o.2 x (by simp)
      cases x with
      | ref a => exact (n r a rfl).elim
      | fz a => exact ox.elim
      | obj a b => exact ox.elim
      | str s =>
        have l : s.length ≤ 1000 := ox.2
        simp [stepB, atI, ixN, sz1000 l]
        refine ifB_dec (fun h1 => ?_) (fun h1 => by simp [nameB]; omega)
        simp
        refine ifB_dec (fun h2 => ?_) (fun h2 => by simp [nameB, h2]; omega)
        simp [sz1000 l]
        · have hs : ∀ q ∈ s.cps.toList, q < 1114112 := by
            have := ox.1; unfold PyData.strOk at this; rw [Array.all_eq_true'] at this
            intro q hq; simpa using this q (by simpa using hq)
          refine wp_comp1 (fun v => !inL v) (fun v => v) _ _ (by simp; exact sz1000 l) ?_ ?_ ?_
          · intro v hv
            obtain ⟨q, _, rfl⟩ := List.mem_map.1 hv
            simp [inL]
          · intro v hv _; simp
          · intro ρ' e
            have g0 : ρ'[0]? = _ := get_of_set e (by decide)
            have hd : ∀ v ∈ (List.map (fun q => Val.str { cps := #[q] }) s.cps.toList).filter (fun v => !inL v), dat 0 v := by
              intro v hv
              obtain ⟨q, hq, rfl⟩ := List.mem_map.1 (List.mem_filter.1 hv).1
              exact dat_str (one_strOk (hs q hq))
            rw [List.map_id', List.nil_append]
            simp only [wp_lst, wp_nil, List.length_nil, Nat.zero_le, true_and]
            rw [fNe_nil hd, filter_none (p := inL)]
            have h1 : 1 ≤ s.length := by omega
            have h2 : s.length ≤ 8 := by omega
            by_cases ha : (sgn s).all inL = true
            · rw [show List.map (fun q => Val.str { cps := #[q] }) s.cps.toList = sgn s from rfl, ha, e]
              simp
              refine (law_is_plain_spec 6 _ o).mono ?_
              rintro x h' ⟨rfl, rfl⟩
              simp [nameB, h1, h2, ha]
            · rw [show List.map (fun q => Val.str { cps := #[q] }) s.cps.toList = sgn s from rfl, Bool.eq_false_iff.2 ha, e]
              simp [nameB, ha]
      | _ => simp [stepB, atI, ixN]
  | ref a => obtain ⟨fs, e⟩ := o; simp [stepB, e]
  | fz a => exact o.elim
  | obj a b => exact o.elim
  | _ => simp [stepB]
end K71

set_option Elab.async false
set_option linter.all false
set_option maxRecDepth 100000
set_option maxHeartbeats 4000000
namespace K71
open PySem L2 Mir
theorem sz {n : Nat} (h : n ≤ 100000) : n ≤ sizeLine := Nat.le_trans h (by decide)
theorem enter_spec {h : MHp} {j : Nat} {D U : List Val} {v : Val} (e : h[j]? = some (jr D U)) (lD : D.length ≤ 1000) (o : okS h v) : WpG (m_Journal_enter [.ref j, v] h) (fun C fs h' => C = 1 ∧ fs = [] ∧ stepB v = false ∧ h' = h) fun x h' => stepB v = true ∧ Upd j h h' (jr (D ++ [v]) []) := by
  have hj := lt_of_get e
  have hs : ∀ c : Cell, (h.set j c)[j]? = some c := fun c => by simp [hj]
  unfold m_Journal_enter
  rw [wpG_fun]
  obtain ⟨o, n⟩ := o
  cases v with
  | tup vs =>
    cases vs with
    | nil => simp [stepB]
    | cons x r =>
      have ox : okV h 5 x := o.2 x (by simp)
      cases x with
      | ref a => exact (n r a rfl).elim
      | fz a => exact ox.elim
      | obj a b => exact ox.elim
      | str s =>
        have l : s.length ≤ 1000 := ox.2
        simp [atI, ixN]
        refine (name_spec l).mono ?_
        rintro x h' ⟨rfl, rfl⟩
        simp
        by_cases hn : nameB s = true
        · simp [hn]
          refine (is_plain_spec 6 _ o).mono ?_
          rintro x h' ⟨rfl, rfl⟩
          simp
          by_cases hp : plainB 6 (.tup (.str s :: r)) = true
          · simp [hp, e, jr, hs, setF_ref, stepB, hn, sz (Nat.le_trans (Nat.succ_le_succ lD) (by decide : 1001 ≤ 100000))]
            exact Upd.set hj
          · simp [stepB, hn, hp]
        · simp [stepB, hn]
      | _ =>
        simp [atI, ixN]
        refine (name_no rfl (by simp)).mono ?_
        rintro x h' ⟨rfl, rfl⟩
        simp [stepB]
  | ref a => obtain ⟨fs, e⟩ := o; simp [stepB, e]
  | fz a => exact o.elim
  | obj a b => exact o.elim
  | _ => simp [stepB]
/-- what undo, redo answer: 0 = done, 2 = InvalidNumber, 3 = NothingToUndo -/
def many (n : Nat) (v : Val) : Nat ⊕ Nat := match v with
  | .int i => if i < 0 then .inr 2 else if i ≤ n then .inl i.toNat else .inr 3
  | _ => .inr 2
def okN (v : Val) : Prop := match v with
  | .non => True
  | .bl _ => True
  | .int _ => True
  | .str _ => True
  | .tup _ => True
  | .lst _ => True
  | _ => False
def isI (v : Val) : Bool := match v with
  | .int _ => true
  | _ => false
theorem number_spec {h : MHp} {v : Val} (o : okN v) : WpF (m_is_number [v] h) fun x h' => x = .bl (isI v) ∧ h' = h := by
  unfold m_is_number
  rw [wpF_fun]
  cases v <;> first | exact o.elim | simp [fIsTy, isI]
theorem require_spec {h : MHp} {n : Nat} {v : Val} (o : okN v) : WpG (m_require_many [v, .int n] h) (fun C fs h' => ((many n v = .inr 2 ∧ C = 2 ∧ fs = [(0, v)]) ∨ (many n v = .inr 3 ∧ C = 3 ∧ fs = [(1, v)])) ∧ h' = h) fun x h' => (∃ i : Nat, v = .int i ∧ i ≤ n ∧ many n v = .inl i) ∧ h' = h := by
  unfold m_require_many
  rw [wpG_fun]
  simp
  refine (number_spec o).mono ?_
  rintro x h' ⟨rfl, rfl⟩
  cases v with
  | int i =>
    simp [isI]
    by_cases h0 : i < 0
    · simp [h0, many]
    · by_cases h1 : i ≤ n
      · have h2 : ¬ (n : Int) < i := by omega
        simp [h0, h1, h2, many]
        omega
      · have h2 : (n : Int) < i := by omega
        simp [h0, h1, h2, many]
  | _ => simp [isI, many]
theorem undo_spec {h : MHp} {j : Nat} {D U : List Val} {v : Val} (e : h[j]? = some (jr D U)) (lD : D.length + U.length ≤ 1000) (o : okN v) : WpG (m_Journal_undo [.ref j, v] h)
    (fun C fs h' => ((many D.length v = .inr 2 ∧ C = 2 ∧ fs = [(0, v)]) ∨ (many D.length v = .inr 3 ∧ C = 3 ∧ fs = [(1, v)])) ∧ h' = h)
    fun x h' => ∃ i, many D.length v = .inl i ∧ x = .tup (D.drop (D.length - i)).reverse ∧ Upd j h h' (jr (D.take (D.length - i)) (D.drop (D.length - i) ++ U)) := by
  have hj := lt_of_get e
  have hs : ∀ c : Cell, (h.set j c)[j]? = some c := fun c => by simp [hj]
  unfold m_Journal_undo
  rw [wpG_fun]
  simp [e, jr]
  refine (require_spec o).mono ?_
  rintro x h' ⟨⟨i, rfl, hi, hm⟩, rfl⟩
  have c1 : cutL D none (some ((D.length : Int) - i)) = D.take (D.length - i) := by rw [cut_to (by omega) (by omega)]; congr 1; omega
  have c2 : cutL D (some ((D.length : Int) - i)) none = D.drop (D.length - i) := by rw [cut_from (by omega) (by omega)]; congr 1; omega
  simp [e, jr, hm, c1, c2, setF_ref, hs, two]
  exact ⟨sz (by omega), Upd.set hj⟩
theorem redo_spec {h : MHp} {j : Nat} {D U : List Val} {v : Val} (e : h[j]? = some (jr D U)) (lD : D.length + U.length ≤ 1000) (o : okN v) : WpG (m_Journal_redo [.ref j, v] h)
    (fun C fs h' => ((many U.length v = .inr 2 ∧ C = 2 ∧ fs = [(0, v)]) ∨ (many U.length v = .inr 3 ∧ C = 3 ∧ fs = [(1, v)])) ∧ h' = h)
    fun x h' => ∃ i, many U.length v = .inl i ∧ x = .tup (U.take i) ∧ Upd j h h' (jr (D ++ U.take i) (U.drop i)) := by
  have hj := lt_of_get e
  have hs : ∀ c : Cell, (h.set j c)[j]? = some c := fun c => by simp [hj]
  unfold m_Journal_redo
  rw [wpG_fun]
  simp [e, jr]
  refine (require_spec o).mono ?_
  rintro x h' ⟨⟨i, rfl, hi, hm⟩, rfl⟩
  have c1 : cutL U none (some (i : Int)) = U.take i := by rw [cut_to (by omega) (by omega)]; rfl
  have c2 : cutL U (some (i : Int)) none = U.drop i := by rw [cut_from (by omega) (by omega)]; rfl
  simp [e, jr, hm, c1, c2, setF_ref, hs, two]
  exact ⟨sz (by omega), Upd.set hj⟩
end K71

set_option Elab.async false
set_option linter.all false
set_option maxRecDepth 100000
set_option maxHeartbeats 4000000
namespace K71
open PySem L2 Mir
inductive Deed (h : MHp) : Nat → Str → Val → Prop
  | enter {v} : okS h v → Deed h 0 "enter" v
  | undo {v} : okN v → dat 5 v → Deed h 1 "undo" v
  | redo {v} : okN v → dat 5 v → Deed h 2 "redo" v
  | undo1 : Deed h 3 "undo one" .non
  | redo1 : Deed h 4 "redo one" .non
def outE (D U : List Val) (v : Val) : Val × List Val × List Val := if stepB v = true then (.lst [.str "entered"], D ++ [v], []) else (.lst [.str "InvalidOperation", .str ""], D, U)
def bad (k : Nat) (v : Val) : Val := .lst [.str (if k = 2 then "InvalidNumber" else "NothingToUndo"), v]
def outU (D U : List Val) (v : Val) : Val × List Val × List Val := match many D.length v with
  | .inl i => (.lst [.tup (D.drop (D.length - i)).reverse], D.take (D.length - i), D.drop (D.length - i) ++ U)
  | .inr k => (bad k v, D, U)
def outR (D U : List Val) (v : Val) : Val × List Val × List Val := match many U.length v with
  | .inl i => (.lst [.tup (U.take i)], D ++ U.take i, U.drop i)
  | .inr k => (bad k v, D, U)
def out (k : Nat) (D U : List Val) (v : Val) : Val × List Val × List Val := match k with
  | 0 => outE D U v
  | 1 => outU D U v
  | 2 => outR D U v
  | 3 => outU D U (.int 1)
  | _ => outR D U (.int 1)
theorem q1 : fEqX (.str "enter") (.str "enter") = some (.bl true) := eqs (by decide +kernel)
theorem q2 : fEqX (.str "undo") (.str "enter") = some (.bl false) := eqs (by decide +kernel)
theorem q3 : fEqX (.str "redo") (.str "enter") = some (.bl false) := eqs (by decide +kernel)
theorem q4 : fEqX (.str "undo one") (.str "enter") = some (.bl false) := eqs (by decide +kernel)
theorem q5 : fEqX (.str "redo one") (.str "enter") = some (.bl false) := eqs (by decide +kernel)
theorem q6 : fEqX (.str "undo") (.str "undo") = some (.bl true) := eqs (by decide +kernel)
theorem q7 : fEqX (.str "redo") (.str "undo") = some (.bl false) := eqs (by decide +kernel)
theorem q8 : fEqX (.str "undo one") (.str "undo") = some (.bl false) := eqs (by decide +kernel)
theorem q9 : fEqX (.str "redo one") (.str "undo") = some (.bl false) := eqs (by decide +kernel)
theorem q10 : fEqX (.str "redo") (.str "redo") = some (.bl true) := eqs (by decide +kernel)
theorem q11 : fEqX (.str "undo one") (.str "redo") = some (.bl false) := eqs (by decide +kernel)
theorem q12 : fEqX (.str "redo one") (.str "redo") = some (.bl false) := eqs (by decide +kernel)
theorem q13 : fEqX (.str "undo one") (.str "undo one") = some (.bl true) := eqs (by decide +kernel)
theorem q14 : fEqX (.str "redo one") (.str "undo one") = some (.bl false) := eqs (by decide +kernel)
theorem one1' : 1 ≤ sizeLine := by decide
theorem done_spec {h : MHp} {j k : Nat} {D U : List Val} {w : Str} {v : Val} (e : h[j]? = some (jr D U)) (lD : D.length + U.length ≤ 1000) (d : Deed h k w v) : WpF (m_law_done [.ref j, .tup [.str w, v]] h) fun x h' => x = (out k D U v).1 ∧ Upd j h h' (jr (out k D U v).2.1 (out k D U v).2.2) := by
  unfold m_law_done
  rw [wpF_fun]
  simp [and_assoc]
  cases d with
  | enter o =>
    simp [q1, e, jr, subL]
    refine (enter_spec e (by omega) o).monoE ?_ ?_
    · rintro C fs h' ⟨rfl, rfl, hb, rfl⟩
      simp [out, outE, hb, two]
      exact Upd.refl e
    · rintro x h' ⟨hb, u⟩
      simp [out, outE, hb, one1']
      exact u
  | undo o _ =>
    simp [q2, q6, e, jr]
    refine (undo_spec e (by omega) o).monoE ?_ ?_
    · rintro C fs h' ⟨hb, rfl⟩
      rcases hb with ⟨hm, rfl, rfl⟩ | ⟨hm, rfl, rfl⟩
      · simp [out, outU, bad, hm, two, subL]
        exact Upd.refl e
      · simp [out, outU, bad, hm, two, subL]
        exact Upd.refl e
    · rintro x h' ⟨i, hm, rfl, u⟩
      simp [out, outU, hm, one1']
      exact u
  | redo o _ =>
    simp [q3, q7, q10, e, jr]
    refine (redo_spec e (by omega) o).monoE ?_ ?_
    · rintro C fs h' ⟨hb, rfl⟩
      rcases hb with ⟨hm, rfl, rfl⟩ | ⟨hm, rfl, rfl⟩
      · simp [out, outR, bad, hm, two, subL]
        exact Upd.refl e
      · simp [out, outR, bad, hm, two, subL]
        exact Upd.refl e
    · rintro x h' ⟨i, hm, rfl, u⟩
      simp [out, outR, hm, one1']
      exact u
  | undo1 =>
    simp [q4, q8, q11, q13, e, jr]
    refine (undo_spec (v := .int 1) e (by omega) trivial).monoE ?_ ?_
    · rintro C fs h' ⟨hb, rfl⟩
      rcases hb with ⟨hm, rfl, rfl⟩ | ⟨hm, rfl, rfl⟩
      · simp [out, outU, bad, hm, two, subL]
        exact Upd.refl e
      · simp [out, outU, bad, hm, two, subL]
        exact Upd.refl e
    · rintro x h' ⟨i, hm, rfl, u⟩
      simp [out, outU, hm, one1']
      exact u
  | redo1 =>
    simp [q5, q9, q12, q14, e, jr]
    refine (redo_spec (v := .int 1) e (by omega) trivial).monoE ?_ ?_
    · rintro C fs h' ⟨hb, rfl⟩
      rcases hb with ⟨hm, rfl, rfl⟩ | ⟨hm, rfl, rfl⟩
      · simp [out, outR, bad, hm, two, subL]
        exact Upd.refl e
      · simp [out, outR, bad, hm, two, subL]
        exact Upd.refl e
    · rintro x h' ⟨i, hm, rfl, u⟩
      simp [out, outR, hm, one1']
      exact u
end K71

set_option Elab.async false
set_option linter.all false
set_option maxRecDepth 100000
set_option maxHeartbeats 4000000
namespace K71
open PySem L2 Mir
def kp (D U : List Val) : Cell := .lst [.lst D, .lst U]
theorem inB {a b : Str} {r : Bool} (h : ((!(Builtin.Str.occurrences b a 0 b.length 1).isEmpty) == r) = true) : fIn (.str a) (.str b) = some (.bl r) := by
  rw [fIn_ss, beq_iff_eq.1 h]
theorem cut4 {a b : Str} (h : (decide (a.length ≤ sizeLine) && decide (cutS a none (some 4) = b)) = true) : fCut (.str a) none (some 4) = some (.str b) := by
  simp only [Bool.and_eq_true, decide_eq_true_eq] at h
  show (if a.length ≤ sizeLine then some (Val.str (cutS a none (some 4))) else none) = _
  rw [if_pos h.1, h.2]
theorem i1 : fIn (.str " ") (.str "undo") = some (.bl false) := inB (by decide +kernel)
theorem i2 : fIn (.str " ") (.str "redo") = some (.bl false) := inB (by decide +kernel)
theorem i3 : fIn (.str " ") (.str "undo one") = some (.bl true) := inB (by decide +kernel)
theorem i4 : fIn (.str " ") (.str "redo one") = some (.bl true) := inB (by decide +kernel)
theorem k1 : fCut (.str "undo") none (some 4) = some (.str "undo") := cut4 (by decide +kernel)
theorem k2 : fCut (.str "redo") none (some 4) = some (.str "redo") := cut4 (by decide +kernel)
theorem k3 : fCut (.str "undo one") none (some 4) = some (.str "undo") := cut4 (by decide +kernel)
theorem k4 : fCut (.str "redo one") none (some 4) = some (.str "redo") := cut4 (by decide +kernel)
theorem due_spec {h : MHp} {j k : Nat} {D U : List Val} {w : Str} {v : Val} (e : h[j]? = some (kp D U)) (lD : D.length + U.length ≤ 1000) (d : Deed h k w v) : WpF (m_law_due [.ref j, .tup [.str w, v]] h) fun x h' => x = (out k D U v).1 ∧ Upd j h h' (kp (out k D U v).2.1 (out k D U v).2.2) := by
  have hj := lt_of_get e
  have hs : ∀ c : Cell, (h.set j c)[j]? = some c := fun c => by simp [hj]
  unfold m_law_due
  rw [wpF_fun]
  cases d with
  | enter o =>
    simp [q1, cont_eq, atI, ixN, e, kp, and_assoc]
    refine (law_step_spec o).mono ?_
    rintro x h' ⟨rfl, rfl⟩
    simp
    by_cases hb : stepB v = true
    · simp [hb, cont_eq, atI, ixN, e, kp, hs, out, outE, and_assoc, one1', two]
      exact ⟨sz (by omega), hj, Upd.set hj⟩
    · simp [hb, out, outE, two]
      exact Upd.refl e
  | undo o _ =>
    cases v with
    | int i =>
      simp [-fIn_ss, q2, i1, k1, q6, fIsTy]
      refine ifB_dec (fun h0 => ?_) (fun h0 => ?_)
      · simp [out, outU, many, h0, bad, two]
        exact Upd.refl e
      · simp [k1, q6, cont_eq, e, kp]
        refine ifB_dec (fun h1 => ?_) (fun h1 => ?_)
        · have h2 : ¬ i ≤ (D.length : Int) := by omega
          simp [out, outU, many, h0, h2, bad, two]
          exact Upd.refl e
        · have h2 : i ≤ (D.length : Int) := by omega
          have c1 : cutL D none (some ((D.length : Int) - i)) = D.take (D.length - i.toNat) := by rw [cut_to (by omega) (by omega)]; congr 1; omega
          have c2 : cutL D (some ((D.length : Int) - i)) none = D.drop (D.length - i.toNat) := by rw [cut_from (by omega) (by omega)]; congr 1; omega
          simp [out, outU, many, h0, h2, cont_eq, e, hs, kp, c1, c2, k1, q6, ixN, two, one1']
          exact ⟨sz (by omega), hj, Upd.set hj⟩
    | _ =>
      first
      | exact o.elim
      | (simp [-fIn_ss, q2, i1, k1, q6, fIsTy, out, outU, many, bad, two]; exact Upd.refl e)
  | redo o _ =>
    cases v with
    | int i =>
      simp [-fIn_ss, q3, i2, k2, q7, fIsTy]
      refine ifB_dec (fun h0 => ?_) (fun h0 => ?_)
      · simp [out, outR, many, h0, bad, two]
        exact Upd.refl e
      · simp [k2, q7, cont_eq, e, kp]
        refine ifB_dec (fun h1 => ?_) (fun h1 => ?_)
        · have h2 : ¬ i ≤ (U.length : Int) := by omega
          simp [out, outR, many, h0, h2, bad, two]
          exact Upd.refl e
        · have h2 : i ≤ (U.length : Int) := by omega
          have c1 : cutL U none (some i) = U.take i.toNat := by rw [cut_to (by omega) (by omega)]
          have c2 : cutL U (some i) none = U.drop i.toNat := by rw [cut_from (by omega) (by omega)]
          simp [out, outR, many, h0, h2, cont_eq, e, hs, kp, c1, c2, k2, q7, ixN, two, one1']
          exact ⟨sz (by omega), hj, Upd.set hj⟩
    | _ =>
      first
      | exact o.elim
      | (simp [-fIn_ss, q3, i2, k2, q7, fIsTy, out, outR, many, bad, two]; exact Upd.refl e)
  | undo1 =>
    simp [-fIn_ss, q4, i3, k3, q6, fIsTy, cont_eq, e, kp]
    refine ifB_dec (fun h1 => ?_) (fun h1 => ?_)
    · have h2 : ¬ (1 : Int) ≤ (D.length : Int) := by omega
      simp [out, outU, many, h2, bad, two]
      exact Upd.refl e
    · have h2 : (1 : Int) ≤ (D.length : Int) := by omega
      have c1 : cutL D none (some ((D.length : Int) - 1)) = D.take (D.length - 1) := by rw [cut_to (by omega) (by omega)]; congr 1; omega
      have c2 : cutL D (some ((D.length : Int) - 1)) none = D.drop (D.length - 1) := by rw [cut_from (by omega) (by omega)]; congr 1; omega
      simp [out, outU, many, h2, cont_eq, e, hs, kp, c1, c2, k3, q6, ixN, two, one1']
      exact ⟨sz (by omega), hj, Upd.set hj⟩
  | redo1 =>
    simp [-fIn_ss, q5, i4, k4, q7, fIsTy, cont_eq, e, kp]
    refine ifB_dec (fun h1 => ?_) (fun h1 => ?_)
    · have h2 : ¬ (1 : Int) ≤ (U.length : Int) := by omega
      simp [out, outR, many, h2, bad, two]
      exact Upd.refl e
    · have h2 : (1 : Int) ≤ (U.length : Int) := by omega
      have c1 : cutL U none (some 1) = U.take 1 := by rw [cut_to (by omega) (by omega)]; rfl
      have c2 : cutL U (some 1) none = U.drop 1 := by rw [cut_from (by omega) (by omega)]; rfl
      simp [out, outR, many, h2, cont_eq, e, hs, kp, c1, c2, k4, q7, ixN, two, one1']
      exact ⟨sz (by omega), hj, Upd.set hj⟩
end K71

set_option Elab.async false
set_option linter.all false
set_option maxRecDepth 100000
set_option maxHeartbeats 4000000
/-! comprehensions with any target -/
namespace Mir
open PySem L2
/-- sizes are told by omega, and by simp if they are numerals -/
@[simp] theorem size_eq : sizeLine = 16777216 := by decide
section
variable {ρ : MEnv} {h : MHp} {E : XE}
/-- a comprehension over a state of the heap; the environment is as before behind each turn -/
theorem wp_comp_st {tg : TgM} {cond : EM Bool} {elt : EM Val} {own : List Nat} {Q : List Val → MEnv → MHp → Prop} (I : List Val → List Val → MHp → Prop) (vs acc : List Val) (hs : acc.length + vs.length ≤ sizeLine) (h0 : I vs acc h)
    (step : ∀ v r acc h', I (v :: r) acc h' → opt (tg v (wipeM ρ own)) fun ρ1 => Wp cond ρ1 h' NoE fun b ρ2 h2 => ifB b (Wp elt ρ2 h2 NoE fun y ρ3 h3 => wipeM ρ3 own = wipeM ρ own ∧ I r (acc ++ [y]) h3) (wipeM ρ2 own = wipeM ρ own ∧ I r acc h2))
    (fin : ∀ acc ρ' h', wipeM ρ' own = wipeM ρ own → I [] acc h' → Q acc ρ' h') : Wp (compLoop tg cond elt own vs acc) ρ h E Q := by
  refine wp_comp_inv (fun r acc ρ' h' => wipeM ρ' own = wipeM ρ own ∧ I r acc h') vs acc hs ⟨rfl, h0⟩ ?_ ?_
  · rintro v r a ρ' h' ⟨e1, i⟩
    rw [e1]
    exact step v r a h' i
  · rintro a ρ' h' ⟨e1, i⟩
    exact fin a ρ' h' e1 i
/-- any target, a pure test, a pure item -/
theorem wp_comp_pure {tg : TgM} {cond : EM Bool} {elt : EM Val} {own : List Nat} {Q : List Val → MEnv → MHp → Prop} (p : Val → Bool) (g : Val → Val) (vs acc : List Val) (hs : acc.length + vs.length ≤ sizeLine)
    (step : ∀ v ∈ vs, opt (tg v (wipeM ρ own)) fun ρ1 => Wp cond ρ1 h NoE fun b ρ2 h2 => b = p v ∧ h2 = h ∧ (p v = true → Wp elt ρ2 h NoE fun y ρ3 h3 => y = g v ∧ wipeM ρ3 own = wipeM ρ own ∧ h3 = h) ∧ (p v = false → wipeM ρ2 own = wipeM ρ own))
    (fin : ∀ ρ', wipeM ρ' own = wipeM ρ own → Q (acc ++ (vs.filter p).map g) ρ' h) : Wp (compLoop tg cond elt own vs acc) ρ h E Q := by
  refine wp_comp_st (fun r a h' => h' = h ∧ (∀ v ∈ r, v ∈ vs) ∧ a ++ (r.filter p).map g = acc ++ (vs.filter p).map g) vs acc hs ⟨rfl, fun _ h => h, rfl⟩ ?_ ?_
  · rintro v r a h' ⟨rfl, e2, e3⟩
    refine opt_mono (step v (e2 v (by simp))) fun ρ1 q => q.mono ?_
    rintro b ρ2 h2 ⟨rfl, rfl, q1, q2⟩
    refine ifB_of ?_ ?_ <;> intro hz
    · refine (q1 hz).mono ?_
      rintro y ρ3 h3 ⟨rfl, e, rfl⟩
      refine ⟨e, rfl, fun w hw => e2 w (by simp [hw]), ?_⟩
      rw [← e3]; simp [hz]
    · refine ⟨q2 hz, rfl, fun w hw => e2 w (by simp [hw]), ?_⟩
      rw [← e3]; simp [hz]
  · rintro a ρ' h' e ⟨rfl, _, e3⟩
    simp only [List.filter_nil, List.map_nil, List.append_nil] at e3
    rw [e3]; exact fin _ e
theorem mem_zipV_self {vs : List Val} {v : Val} (h : v ∈ zipV vs vs) : ∃ w ∈ vs, v = .tup [w, w] := by
  unfold zipV at h
  obtain ⟨p, hp, rfl⟩ := List.mem_map.1 h
  have : ∀ (vs : List Val) (p : Val × Val), p ∈ vs.zip vs → p.1 ∈ vs ∧ p.1 = p.2 := by
    intro vs
    induction vs with
    | nil => intro p h; simp at h
    | cons v r ih =>
      intro p h
      simp only [List.zip_cons_cons, List.mem_cons] at h
      rcases h with rfl | h
      · exact ⟨by simp, rfl⟩
      · obtain ⟨a, b⟩ := ih p h; exact ⟨by simp [a], b⟩
  obtain ⟨a, b⟩ := this vs p hp
  exact ⟨p.1, a, by rw [← b]⟩
theorem zipV_len {vs ws : List Val} : (zipV vs ws).length ≤ vs.length := by
  unfold zipV; simp [List.length_zip]; omega
/-- data, checked -/
def datB (k : Nat) (v : Val) : Bool := match v with
  | .non => true
  | .bl _ => true
  | .int _ => true
  | .str s => PyData.strOk s
  | .tup vs => match k with
    | 0 => false
    | k + 1 => vs.all (datB k)
  | .lst vs => match k with
    | 0 => false
    | k + 1 => vs.all (datB k)
  | _ => false
theorem datB_ok : ∀ {k : Nat} {v : Val}, datB k v = true → dat k v
  | _, .non, _ => dat_non
  | _, .bl _, _ => dat_bl
  | _, .int _, _ => dat_int
  | _, .str s, h => dat_str (by simpa [datB] using h)
  | 0, .tup vs, h => by simp [datB] at h
  | 0, .lst vs, h => by simp [datB] at h
  | k + 1, .tup vs, h => dat_tup fun v hv => datB_ok (by simp only [datB, List.all_eq_true] at h; exact h v hv)
  | k + 1, .lst vs, h => dat_lst fun v hv => datB_ok (by simp only [datB, List.all_eq_true] at h; exact h v hv)
  | _, .fz _, h => by simp [datB] at h
  | _, .dct _, h => by simp [datB] at h
  | _, .obj _ _, h => by simp [datB] at h
  | _, .ref _, h => by simp [datB] at h
theorem datBs {k : Nat} {vs : List Val} (h : vs.all (datB k) = true) : ∀ v ∈ vs, dat k v := fun v hv => datB_ok (List.all_eq_true.1 h v hv)
theorem Rx.make {n a : Nat} {h1 h2 : MHp} {c c' : Cell} (d : Dice n h1 a) (u : Upd h1.length (h1 ++ [c]) h2 c') : Rx n a h1 h2 := by
  have hl := d.lt
  have key : ∀ b, b < h1.length → h2[b]? = h1[b]? := fun b hb => by
    rw [u.fr b (by omega), List.getElem?_append_left hb]
  exact ⟨d.fr (key a hl), by have := u.len; simp at this; omega, fun b hb _ => key b hb⟩
theorem get_push {h : MHp} {c : Cell} : (h ++ [c])[h.length]? = some c := by simp
end
end Mir

set_option Elab.async false
set_option linter.all false
set_option maxRecDepth 100000
set_option maxHeartbeats 4000000
namespace K71
open PySem L2 Mir
def ty (v : Val) : Prop := ∃ T b, tyName v = some T ∧ kitB T "bool" = some b
theorem ty_of {v : Val} (h : okN v) : ty v := by
  cases v <;> first | exact h.elim | simp [ty, tyName]
theorem alike_spec {h : MHp} {vs : List Val} (l : vs.length ≤ 100) (hd : ∀ v ∈ vs, dat 20 v ∧ ty v) : WpF (m_law_alike [.lst vs, .lst vs] h) fun x h' => x = .bl true ∧ h' = h := by
  have d1 := dat_lst fun v hv => (hd v hv).1
  have hz : (zipV vs vs).length ≤ vs.length := zipV_len
  unfold m_law_alike
  rw [wpF_fun]
  simp [fNe_self (dat_int (k := 0)), fNe_self d1]
  refine wp_comp_pure (fun _ => false) (fun v => v) _ _ (by simp; exact sz (by omega)) ?_ ?_
  · intro v hv
    obtain ⟨w, hw, rfl⟩ := mem_zipV_self hv
    obtain ⟨T, b, e1, e2⟩ := (hd w hw).2
    simp [fIsTy, e1, e2, fNe_self (dat_bl (k := 0))]
  · intro ρ' e
    simp [e]
theorem mixed_spec {n a : Nat} {h : MHp} {items : List Val} (d : Dice n h a) (hn : n ≤ 100000) (hl : items.length ≤ 7) (hd : ∀ v ∈ items, dat 20 v) : WpF (m_law_mixed [.ref a, .lst items] h) fun x h' => ∃ vs, x = .lst vs ∧ (∀ v ∈ vs, v ∈ items) ∧ vs.length = items.length ∧ Rl (n + 10) a h h' := by
  unfold m_law_mixed
  rw [wpF_fun]
  simp
  refine wp_while_inv (fun m ρ h' => ∃ L F, ρ = [.val (.ref a), .val (.lst items), .own (.lst L), .own (.lst F)] ∧ m = L.length ∧ L.length + F.length = items.length ∧ (∀ v ∈ L, v ∈ items) ∧ (∀ v ∈ F, v ∈ items) ∧ Rl (n + F.length) a h h') items.length 8 (by omega)
    ⟨items, [], rfl, rfl, by simp, by simp, by simp, by simpa using Rl.refl d⟩ ?_
  rintro m ρ h' ⟨L, F, rfl, rfl, hlen, hL, hF, R⟩
  have e := fNe_nil fun v hv => hd v (hL v hv)
  simp [cont_eq, e]
  cases L with
  | nil =>
    simp
    exact ⟨hF, by simpa using hlen, R.mono (by omega)⟩
  | cons x r =>
    simp [cont_eq]
    simp only [List.length_cons] at hlen
    refine (roll_spec R.d (by omega) (by omega) (by rw [show ((r.length : Int) + 1).natAbs = r.length + 1 by omega]; exact Nat.lt_of_lt_of_le (log2_lt (k := 64) (by omega)) (by decide))).mono ?_
    rintro y h2 ⟨t, rfl, t0, t1, R2⟩
    have ht : t.toNat < (x :: r).length := by simp only [List.length_cons]; omega
    have e1 : ixN (r.length + 1) t = some t.toNat := ixN_ok t0 (by simpa using t1)
    have e2 : (x :: r)[t.toNat]? = some (x :: r)[t.toNat] := List.getElem?_eq_getElem ht
    simp [cont_eq, e1, e2]
    have e3 : ((x :: r).eraseIdx t.toNat).length = r.length := by rw [List.length_eraseIdx_of_lt ht]; simp
    refine ⟨by omega, by omega, r.length, by omega, _, _, ⟨rfl, rfl⟩, e3.symm, by rw [e3]; simp; omega, fun v hv => hL v (List.mem_of_mem_eraseIdx hv), ?_, ?_⟩
    · intro v hv
      rcases List.mem_append.1 hv with hv | hv
      · exact hF v hv
      · rw [List.mem_singleton.1 hv]; exact hL _ (List.getElem_mem ht)
    · have := R.trans R2
      simpa [Nat.add_assoc] using this
theorem alen : ((PySem.Str.ofString "abcdefghijklmnopqrstuvwxyz").cps.toList).length = 26 := by decide +kernel
theorem aok : ∀ q ∈ (PySem.Str.ofString "abcdefghijklmnopqrstuvwxyz").cps.toList, q < 1114112 := by decide +kernel
theorem slen : (PySem.Str.ofString "abcdefghijklmnopqrstuvwxyz").length ≤ sizeLine := by decide +kernel
theorem word_spec {n a : Nat} {h : MHp} (d : Dice n h a) (hn : n ≤ 100000) : WpF (m_law_word [.ref a] h) fun x h' => (∃ s : Str, x = .str s ∧ s.length ≤ 1000 ∧ PyData.strOk s = true) ∧ Rl (n + 9) a h h' := by
  unfold m_law_word
  rw [wpF_fun]
  simp
  refine (roll_spec d (by omega) (by decide) (by decide +kernel)).mono ?_
  rintro x h1 ⟨k, rfl, k0, k1, R1⟩
  simp [-rng_eq, rng_some (show 0 ≤ 1 + k by omega) (by omega)]
  refine wp_comp_roll sing 1 _ R1.d (by simp only [List.length_map, List.length_range]; exact sz (by omega)) ?_ ?_
  · intro v _ m h' hm R
    simp at hm
    simp
    refine (roll_spec R.d (by omega) (by decide) (by decide +kernel)).mono ?_
    rintro x h2 ⟨r, rfl, r0, r1, R2⟩
    obtain ⟨q, e, _, hq⟩ := atI_ok (xs := (PySem.Str.ofString "abcdefghijklmnopqrstuvwxyz").cps.toList) r0 (by rw [alen]; exact_mod_cast r1)
    have sl : (PySem.Str.ofString "abcdefghijklmnopqrstuvwxyz").length = 26 := by decide +kernel
    simp [e, sl]
    exact ⟨⟨q, aok q hq, rfl⟩, R.trans R2⟩
  · intro acc ρ' h2 e1 e2 e3 R2
    simp at e3 R2
    obtain ⟨s, e, l, o⟩ := join_signs e2 (by omega)
    simp [e1, e]
    exact ⟨⟨by omega, o⟩, (R1.trans R2).mono (by omega)⟩
end K71

set_option Elab.async false
set_option linter.all false
set_option maxRecDepth 100000
set_option maxHeartbeats 4000000
namespace K71
open PySem L2 Mir
def okB (d : Nat) (v : Val) : Bool := match v with
  | .non => true
  | .bl _ => true
  | .int _ => true
  | .str s => PyData.strOk s && decide (s.length ≤ 1000)
  | .tup vs => match d with
    | 0 => false
    | d + 1 => decide (vs.length ≤ 1000) && vs.all (okB d)
  | .lst _ => true
  | .dct _ => true
  | _ => false
theorem okB_ok {h : MHp} : ∀ {d : Nat} {v : Val}, okB d v = true → okV h d v
  | _, .non, _ => by simp only [okV]
  | _, .bl _, _ => by simp only [okV]
  | _, .int _, _ => by simp only [okV]
  | _, .lst _, _ => by simp only [okV]
  | _, .dct _, _ => by simp only [okV]
  | _, .str s, e => by simp only [okB, Bool.and_eq_true, decide_eq_true_eq] at e; simp only [okV]; exact e
  | 0, .tup vs, e => by simp [okB] at e
  | d + 1, .tup vs, e => by
    simp only [okB, Bool.and_eq_true, decide_eq_true_eq, List.all_eq_true] at e
    exact ⟨e.1, fun v hv => okB_ok (e.2 v hv)⟩
  | _, .fz _, e => by simp [okB] at e
  | _, .obj _ _, e => by simp [okB] at e
  | _, .ref _, e => by simp [okB] at e
def notRef (v : Val) : Bool := match v with
  | .tup (.ref _ :: _) => false
  | _ => true
theorem okS_of {h : MHp} {v : Val} (e : (okB 6 v && notRef v) = true) : okS h v := by
  simp only [Bool.and_eq_true] at e
  refine ⟨okB_ok e.1, fun r a q => ?_⟩
  subst q; simp [notRef] at e
def okNB (v : Val) : Bool := match v with
  | .non => true
  | .bl _ => true
  | .int _ => true
  | .str _ => true
  | .tup _ => true
  | .lst _ => true
  | _ => false
theorem okN_of {v : Val} (h : okNB v = true) : okN v := by
  cases v <;> first | trivial | cases h
theorem bits39 : Builtin.Int.intBits 10 = 4 := by decide +kernel
theorem mem_cut {α : Type} {vs : List α} {a b : Option Int} {v : α} (h : v ∈ cutL vs a b) : v ∈ vs := List.mem_of_mem_drop (List.mem_of_mem_take h)
theorem len_cut {α : Type} {vs : List α} {a b : Option Int} : (cutL vs a b).length ≤ vs.length := by
  unfold cutL; simp; omega
theorem init_spec {h : MHp} {a : Nat} (e : h[a]? = some (.ins 4 [])) : WpF (m_Journal_init [.ref a] h) fun x h' => x = .non ∧ Upd a h h' (jr [] []) := by
  have hj := lt_of_get e
  have hs : ∀ c : Cell, (h.set a c)[a]? = some c := fun c => by simp [hj]
  unfold m_Journal_init
  rw [wpF_fun]
  simp [e, hs, jr]
  exact Upd.set hj
theorem deed_spec {n a t : Nat} {h : MHp} (d : Dice n h a) (hn : n ≤ 50000) (ht : t ≤ 3) : WpF (m_law_deed [.ref a, .int t] h) fun x h' => (∃ k w v, x = .tup [.str w, v] ∧ Deed h' k w v) ∧ Rx (n + 30) a h h' := by
  unfold m_law_deed
  rw [wpF_fun]
  simp
  refine (roll_spec d (by omega) (by decide) (by decide +kernel)).mono ?_
  rintro x h1 ⟨k, rfl, k0, k1, R1⟩
  simp
  refine ifB_dec (fun c1 => ?_) (fun c1 => ?_)
  · simp [bits39]
    refine (mixed_spec R1.d (by omega) ?_ ?_).mono ?_
    · simp
    · obtain rfl | rfl | rfl | rfl : t = 0 ∨ t = 1 ∨ t = 2 ∨ t = 3 := by omega
      all_goals exact datBs (by decide +kernel)
    · rintro x h2 ⟨vs, rfl, hvs, hl, R2⟩
      have ho : ∀ v ∈ vs, okB 5 v = true := by
        intro v hv
        have := hvs v hv
        revert v
        obtain rfl | rfl | rfl | rfl : t = 0 ∨ t = 1 ∨ t = 2 ∨ t = 3 := by omega
        all_goals exact fun v _ hv => List.all_eq_true.1 (show List.all _ (okB 5) = true by decide +kernel) v hv
      simp only [List.length_cons, List.length_nil] at hl
      simp
      refine (word_spec R2.d (by omega)).mono ?_
      rintro x h3 ⟨⟨s, rfl, ls, os⟩, R3⟩
      simp
      refine (roll_spec R3.d (by omega) (by decide) (by decide +kernel)).mono ?_
      rintro x h4 ⟨r, rfl, r0, r1, R4⟩
      simp
      have hc := len_cut (vs := vs) (a := none) (b := some r)
      refine ⟨by omega, ⟨0, _, _, ⟨rfl, rfl⟩, .enter (okS_of ?_)⟩, (R1.x.trans (R2.x.trans (R3.x.trans R4.x))).mono (by omega)⟩
      simp only [okB, notRef, List.all_cons, Bool.and_eq_true, decide_eq_true_eq, List.length_cons, os, ls, true_and, and_true, List.all_eq_true]
      exact ⟨by omega, fun v hv => ho v (mem_cut hv)⟩
  simp
  refine ifB_dec (fun c2 => ?_) (fun c2 => ?_)
  · simp
    refine (roll_spec R1.d (by omega) (by decide) (by decide +kernel)).mono ?_
    rintro x h4 ⟨r, rfl, r0, r1, R4⟩
    simp
    exact ⟨⟨1, _, _, ⟨rfl, rfl⟩, .undo trivial dat_int⟩, (R1.x.trans R4.x).mono (by omega)⟩
  simp
  refine ifB_dec (fun c3 => ?_) (fun c3 => ?_)
  · simp
    refine (roll_spec R1.d (by omega) (by decide) (by decide +kernel)).mono ?_
    rintro x h4 ⟨r, rfl, r0, r1, R4⟩
    simp
    exact ⟨⟨2, _, _, ⟨rfl, rfl⟩, .redo trivial dat_int⟩, (R1.x.trans R4.x).mono (by omega)⟩
  simp
  refine ifB_of (fun c4 => ?_) (fun c4 => ?_)
  · simp
    refine (pick_lst R1.d (by omega) (by simp) (by simp)).mono ?_
    rintro x h4 ⟨hx, R4⟩
    simp at hx
    rcases hx with rfl | rfl
    · simp
      exact ⟨⟨3, _, _, ⟨rfl, rfl⟩, .undo1⟩, (R1.x.trans R4.x).mono (by omega)⟩
    · simp
      exact ⟨⟨4, _, _, ⟨rfl, rfl⟩, .redo1⟩, (R1.x.trans R4.x).mono (by omega)⟩
  simp
  refine ifB_of (fun c5 => ?_) (fun c5 => ?_)
  · simp
    refine (init_spec get_push).mono ?_
    rintro x h2 ⟨rfl, u⟩
    have X2 := Rx.make R1.d u
    simp
    refine (pick_lst X2.d (by omega) (by simp) (by simp)).mono ?_
    rintro x h4 ⟨hx, R4⟩
    have hne : h1.length ≠ a := fun q => by have := R1.d.lt; omega
    have e4 : h4[h1.length]? = some (jr [] []) := by rw [R4.fr _ hne, u.at_]
    simp only [List.mem_append, List.mem_cons, List.not_mem_nil, or_false] at hx
    simp
    refine ⟨⟨0, _, _, ⟨rfl, rfl⟩, .enter ?_⟩, (R1.x.trans (X2.trans R4.x)).mono (by omega)⟩
    rcases hx with rfl | rfl | rfl | rfl | rfl | rfl | rfl | rfl | rfl | rfl | rfl | rfl | rfl | rfl | rfl | rfl
    all_goals first
      | exact okS_of (by decide +kernel)
      | skip
    refine ⟨⟨by simp, ?_⟩, by simp⟩
    intro v hv
    simp only [List.mem_cons, List.not_mem_nil, or_false] at hv
    rcases hv with rfl | rfl
    · exact okB_ok (by decide +kernel)
    · exact ⟨_, e4⟩
  simp
  refine (pick_lst R1.d (by omega) (by simp) (by simp)).mono ?_
  rintro x h2 ⟨hx, R2⟩
  simp only [List.mem_cons, List.not_mem_nil, or_false] at hx
  simp
  refine ifB_of (fun c6 => ?_) (fun c6 => ?_)
  · simp [bits39]
    refine (pick_lst R2.d (by omega) (by simp) (by simp)).mono ?_
    rintro y h3 ⟨hy, R3⟩
    have ho : okN y ∧ dat 5 y := by
      have := List.all_eq_true.1 (show List.all _ (fun v => okNB v && datB 5 v) = true by decide +kernel) y hy
      simp only [Bool.and_eq_true] at this
      exact ⟨okN_of this.1, datB_ok this.2⟩
    simp
    refine ⟨?_, (R1.x.trans (R2.x.trans R3.x)).mono (by omega)⟩
    rcases hx with rfl | rfl
    · exact ⟨1, _, _, ⟨rfl, rfl⟩, .undo ho.1 ho.2⟩
    · exact ⟨2, _, _, ⟨rfl, rfl⟩, .redo ho.1 ho.2⟩
  simp [bits39]
  refine (pick_lst R2.d (by omega) (by simp) (by simp)).mono ?_
  rintro y h3 ⟨hy, R3⟩
  have ho : okN y ∧ dat 5 y := by
    have := List.all_eq_true.1 (show List.all _ (fun v => okNB v && datB 5 v) = true by decide +kernel) y hy
    simp only [Bool.and_eq_true] at this
    exact ⟨okN_of this.1, datB_ok this.2⟩
  simp
  refine ⟨?_, (R1.x.trans (R2.x.trans R3.x)).mono (by omega)⟩
  rcases hx with rfl | rfl
  · exact ⟨1, _, _, ⟨rfl, rfl⟩, .undo ho.1 ho.2⟩
  · exact ⟨2, _, _, ⟨rfl, rfl⟩, .redo ho.1 ho.2⟩
end K71

set_option Elab.async false
set_option linter.all false
set_option maxRecDepth 100000
set_option maxHeartbeats 4000000
namespace K71
open PySem L2 Mir
def okD (D U : List Val) : Prop := (∀ x ∈ D, dat 6 x) ∧ ∀ x ∈ U, dat 6 x
theorem tyt {vs : List Val} : ty (.tup vs) := by simp [ty, tyName]
theorem tys {s : Str} : ty (.str s) := by simp [ty, tyName]
theorem dat_s {s : Str} (h : PyData.strOk s = true) : dat 20 (.str s) := dat_str h
structure Good (D U : List Val) (o : Val × List Val × List Val) : Prop where
  ok : okD o.2.1 o.2.2
  len : o.2.1.length + o.2.2.length ≤ D.length + U.length + 1
  al : ∃ vs, o.1 = .lst vs ∧ vs.length ≤ 100 ∧ ∀ x ∈ vs, dat 20 x ∧ ty x
theorem bad_al {k : Nat} {v : Val} (hd : dat 5 v) (ht : ty v) : ∃ vs, bad k v = .lst vs ∧ vs.length ≤ 100 ∧ ∀ x ∈ vs, dat 20 x ∧ ty x := by
  refine ⟨_, rfl, by simp, ?_⟩
  intro x hx
  simp only [List.mem_cons, List.not_mem_nil, or_false] at hx
  rcases hx with rfl | rfl
  · refine ⟨dat_s ?_, tys⟩
    split <;> decide +kernel
  · exact ⟨hd.mono (by omega), ht⟩
theorem tup_al {xs : List Val} (h : ∀ x ∈ xs, dat 6 x) : ∃ vs, Val.lst [.tup xs] = .lst vs ∧ vs.length ≤ 100 ∧ ∀ x ∈ vs, dat 20 x ∧ ty x := by
  refine ⟨_, rfl, by simp, ?_⟩
  intro x hx
  rw [List.mem_singleton.1 hx]
  exact ⟨(dat_tup h).mono (by omega), tyt⟩
theorem good_U {D U : List Val} {v : Val} (hD : okD D U) (hd : dat 5 v) (ht : ty v) : Good D U (outU D U v) := by
  unfold outU
  split
  · rename_i i e
    refine ⟨⟨fun x hx => hD.1 x (List.mem_of_mem_take hx), fun x hx => ?_⟩, ?_, tup_al fun x hx => hD.1 x (List.mem_of_mem_drop (List.mem_reverse.1 hx))⟩
    · rcases List.mem_append.1 hx with hx | hx
      · exact hD.1 x (List.mem_of_mem_drop hx)
      · exact hD.2 x hx
    · simp; omega
  · exact ⟨hD, by simp, bad_al hd ht⟩
theorem good_R {D U : List Val} {v : Val} (hD : okD D U) (hd : dat 5 v) (ht : ty v) : Good D U (outR D U v) := by
  unfold outR
  split
  · rename_i i e
    refine ⟨⟨fun x hx => ?_, fun x hx => hD.2 x (List.mem_of_mem_drop hx)⟩, ?_, tup_al fun x hx => hD.2 x (List.mem_of_mem_take hx)⟩
    · rcases List.mem_append.1 hx with hx | hx
      · exact hD.1 x hx
      · exact hD.2 x (List.mem_of_mem_take hx)
    · simp; omega
  · exact ⟨hD, by simp, bad_al hd ht⟩
theorem step_dat {h : MHp} {v : Val} (o : okS h v) (s : stepB v = true) : dat 6 v := by
  refine plain_dat 6 v o.1 ?_
  unfold stepB at s
  split at s
  · simp only [Bool.and_eq_true] at s; exact s.2
  · cases s
theorem good {h : MHp} {k : Nat} {w : Str} {D U : List Val} {v : Val} (d : Deed h k w v) (hD : okD D U) : Good D U (out k D U v) := by
  cases d with
  | enter o =>
    show Good D U (outE D U v)
    unfold outE
    split
    · rename_i s
      refine ⟨⟨fun x hx => ?_, by simp⟩, by simp, ⟨_, rfl, by simp, ?_⟩⟩
      · rcases List.mem_append.1 hx with hx | hx
        · exact hD.1 x hx
        · rw [List.mem_singleton.1 hx]; exact step_dat o s
      · intro x hx
        rw [List.mem_singleton.1 hx]
        exact ⟨dat_s (by decide +kernel), tys⟩
    · refine ⟨hD, by simp, ⟨_, rfl, by simp, ?_⟩⟩
      intro x hx
      simp only [List.mem_cons, List.not_mem_nil, or_false] at hx
      rcases hx with rfl | rfl <;> exact ⟨dat_s (by decide +kernel), tys⟩
  | undo o e => exact good_U hD e (ty_of o)
  | redo o e => exact good_R hD e (ty_of o)
  | undo1 => exact good_U hD dat_int (by simp [ty, tyName])
  | redo1 => exact good_R hD dat_int (by simp [ty, tyName])
theorem okV_mono {h h' : MHp} (m : ∀ (b : Nat) (fs : Fld), h[b]? = some (Cell.ins 4 fs) → ∃ fs' : Fld, h'[b]? = some (Cell.ins 4 fs')) : ∀ {d : Nat} {v : Val}, okV h d v → okV h' d v
  | _, .non, _ => by simp only [okV]
  | _, .bl _, _ => by simp only [okV]
  | _, .int _, _ => by simp only [okV]
  | _, .lst _, _ => by simp only [okV]
  | _, .dct _, _ => by simp only [okV]
  | _, .str s, e => by simp only [okV] at e ⊢; exact e
  | 0, .tup vs, e => by simp only [okV] at e
  | d + 1, .tup vs, e => ⟨e.1, fun v hv => okV_mono m (e.2 v hv)⟩
  | _, .fz _, e => by simp only [okV] at e
  | _, .obj _ _, e => by simp only [okV] at e
  | _, .ref _, e => by simp only [okV] at e ⊢; obtain ⟨fs, e⟩ := e; exact m _ _ e
theorem Deed.mono {h h' : MHp} {k : Nat} {w : Str} {v : Val} (m : ∀ (b : Nat) (fs : Fld), h[b]? = some (Cell.ins 4 fs) → ∃ fs' : Fld, h'[b]? = some (Cell.ins 4 fs')) (d : Deed h k w v) : Deed h' k w v := by
  cases d with
  | enter o => exact .enter ⟨okV_mono m o.1, o.2⟩
  | undo a b => exact .undo a b
  | redo a b => exact .redo a b
  | undo1 => exact .undo1
  | redo1 => exact .redo1
theorem log_spec {h : MHp} {a : Nat} {D U : List Val} (e : h[a]? = some (jr D U)) : WpF (m_Journal_log [.ref a] h) fun x h' => x = .tup D ∧ h' = h := by
  unfold m_Journal_log
  rw [wpF_fun]
  simp [e, jr]
theorem undone_spec {h : MHp} {a : Nat} {D U : List Val} (e : h[a]? = some (jr D U)) : WpF (m_Journal_undone [.ref a] h) fun x h' => x = .tup U ∧ h' = h := by
  unfold m_Journal_undone
  rw [wpF_fun]
  simp [e, jr]
/-- what stands behind each deed -/
structure Inv (c : Nat) (h : MHp) : Prop where
  ex : ∃ D0 U0 D1 U1, h[0]? = some (jr D0 U0) ∧ h[1]? = some (jr D1 U1) ∧ h[2]? = some (kp D0 U0) ∧ h[3]? = some (kp D1 U1) ∧ okD D0 U0 ∧ okD D1 U1 ∧ D0.length + U0.length ≤ c ∧ D1.length + U1.length ≤ c
theorem Inv.fr {c : Nat} {h h' : MHp} (i : Inv c h) (e : ∀ b, b < 4 → h'[b]? = h[b]?) : Inv c h' := by
  obtain ⟨D0, U0, D1, U1, a0, a1, a2, a3, q⟩ := i.ex
  exact ⟨D0, U0, D1, U1, by rw [e 0 (by omega)]; exact a0, by rw [e 1 (by omega)]; exact a1, by rw [e 2 (by omega)]; exact a2, by rw [e 3 (by omega)]; exact a3, q⟩
theorem Inv.mono {c d : Nat} {h : MHp} (i : Inv c h) (l : c ≤ d) : Inv d h := by
  obtain ⟨D0, U0, D1, U1, a0, a1, a2, a3, a4, a5, a6, a7⟩ := i.ex
  exact ⟨D0, U0, D1, U1, a0, a1, a2, a3, a4, a5, by omega, by omega⟩
theorem Inv.len {c : Nat} {h : MHp} (i : Inv c h) : 4 ≤ h.length := by
  obtain ⟨D0, U0, D1, U1, a0, a1, a2, a3, _⟩ := i.ex
  have := lt_of_get a3; omega
theorem Inv.pair {c : Nat} {h : MHp} (i : Inv c h) {r : Int} (r0 : 0 ≤ r) (r1 : r < 2) : ∃ j k D U, atI [Val.ref 0, Val.ref 1] r = some (.ref j) ∧ atI [Val.ref 2, Val.ref 3] r = some (.ref k) ∧ h[j]? = some (jr D U) ∧ h[k]? = some (kp D U) ∧ okD D U ∧ D.length + U.length ≤ c ∧ j < 4 ∧ k < 4 ∧ j ≠ k ∧
    ∀ (h' : MHp) D' U', h'[j]? = some (jr D' U') → h'[k]? = some (kp D' U') → (∀ b, b < 4 → b ≠ j → b ≠ k → h'[b]? = h[b]?) → okD D' U' → D'.length + U'.length ≤ c + 1 → Inv (c + 1) h' := by
  obtain ⟨D0, U0, D1, U1, a0, a1, a2, a3, a4, a5, a6, a7⟩ := i.ex
  obtain rfl | rfl : r = 0 ∨ r = 1 := by omega
  · refine ⟨0, 2, D0, U0, by simp, by simp, a0, a2, a4, a6, by omega, by omega, by omega, ?_⟩
    intro h' D' U' e1 e2 e3 o l
    exact ⟨D', U', D1, U1, e1, by rw [e3 1 (by omega) (by omega) (by omega)]; exact a1, e2, by rw [e3 3 (by omega) (by omega) (by omega)]; exact a3, o, a5, l, by omega⟩
  · refine ⟨1, 3, D1, U1, by simp, by simp, a1, a3, a5, a7, by omega, by omega, by omega, ?_⟩
    intro h' D' U' e1 e2 e3 o l
    exact ⟨D0, U0, D', U', by rw [e3 0 (by omega) (by omega) (by omega)]; exact a0, e1, by rw [e3 2 (by omega) (by omega) (by omega)]; exact a2, e2, a4, o, by omega, l⟩
theorem fNe_tup {D : List Val} (h : ∀ x ∈ D, dat 6 x) : fNe (.tup D) (.tup D) = some (.bl false) := fNe_self (dat_tup h)
theorem plain (ns : List Int) (hl : ns.length ≤ 63) : ∃ ρ h', m_law [.fz (ns.map .int)] [] = .ok (.bl true) ρ h' := by
  suffices H : WpF (m_law [.fz (ns.map .int)] []) fun x _ => x = .bl true by
    obtain ⟨v, ρ, h', e, rfl⟩ := H.ex
    exact ⟨ρ, h', e⟩
  unfold m_law
  rw [wpF_fun]
  simp
  refine (init_spec (by rfl)).mono ?_
  rintro x h1 ⟨rfl, u1⟩
  have l1 : h1.length = 1 := u1.len
  simp
  refine (init_spec get_push).mono ?_
  rintro x h2 ⟨rfl, u2⟩
  have l2 : h2.length = 2 := by have := u2.len; simp [l1] at this; exact this
  simp [l1, l2]
  have I0 : Inv 0 (h2 ++ [Cell.lst [Val.lst [], Val.lst []]] ++ [Cell.lst [Val.lst [], Val.lst []]]) := by
    refine ⟨[], [], [], [], ?_, ?_, ?_, ?_, ⟨by simp, by simp⟩, ⟨by simp, by simp⟩, by simp, by simp⟩
    · rw [List.append_assoc, List.getElem?_append_left (by omega), u2.fr 0 (by omega), List.getElem?_append_left (by omega), u1.at_]
    · rw [List.append_assoc, List.getElem?_append_left (by omega)]; have := u2.at_; rw [l1] at this; exact this
    · rw [List.append_assoc, List.getElem?_append_right (by omega), l2]; rfl
    · rw [List.append_assoc, List.getElem?_append_right (by omega), l2]; rfl
  have L0 : (h2 ++ [Cell.lst [Val.lst [], Val.lst []]] ++ [Cell.lst [Val.lst [], Val.lst []]]).length = 4 := by simp [l2]
  rw [List.append_assoc] at I0 L0
  simp only [List.cons_append, List.nil_append] at I0 L0
  generalize h2 ++ _ = h0 at I0 L0 ⊢
  refine ⟨by split <;> split <;> omega, ?_⟩
  generalize hv : List.map (fun k : Nat => Val.int k) (List.range _) = vs
  have hv1 : ∀ v ∈ vs, ∃ i : Nat, v = .int i ∧ i ≤ 100 := by
    rw [← hv]
    intro v hm
    obtain ⟨i, hi, rfl⟩ := List.mem_map.1 hm
    refine ⟨i, rfl, ?_⟩
    have := List.mem_range.1 hi
    revert this
    split <;> split <;> omega
  have hv2 : vs.length ≤ 20 := by
    rw [← hv]; simp only [List.length_map, List.length_range]
    split <;> split <;> omega
  clear hv
  refine wp_for_inv (fun r ρ h => (∃ x3 x4 x5 x6 x7 x8 x9, ρ = [.val (.fz (ns.map .int)), .val (.lst [.ref 0, .ref 1]), .val (.lst [.ref 2, .ref 3]), x3, x4, x5, x6, x7, x8, x9]) ∧ (∀ v ∈ r, ∃ i : Nat, v = .int i ∧ i ≤ 100) ∧ ∃ c, c + 3 * r.length ≤ 60 ∧ Inv c h) _ ⟨⟨_, _, _, _, _, _, _, rfl⟩, hv1, 0, by omega, I0⟩ ?_ ?_
  · rintro v r ρ h ⟨⟨x3, x4, x5, x6, x7, x8, x9, rfl⟩, hr, c, hc, I⟩
    obtain ⟨i, rfl, hi⟩ := hr v (by simp)
    have hr := fun v hv => hr v (List.mem_cons_of_mem _ hv)
    simp only [List.length_cons] at hc
    simp
    refine (dice_spec (by omega)).mono ?_
    rintro x h1 ⟨rfl, hl1, D, fr1⟩
    have ha : 4 ≤ h.length := I.len
    have I := I.fr (h' := h1) fun b hb => fr1 b (by omega)
    generalize h.length = a at *
    simp
    refine wp_for_inv (fun q ρ h => (∃ x5 x6 x7 x8 x9, ρ = [.val (.fz (ns.map .int)), .val (.lst [.ref 0, .ref 1]), .val (.lst [.ref 2, .ref 3]), .val (.int i), .val (.ref a), x5, x6, x7, x8, x9]) ∧ (∀ v ∈ q, ∃ t : Nat, v = .int t ∧ t ≤ 3) ∧ ∃ c' n, c' + q.length ≤ c + 3 ∧ n + 40 * q.length ≤ 120 ∧ Inv c' h ∧ Dice n h a) _ ⟨⟨_, _, _, _, _, rfl⟩, ?_, c, 0, Nat.le_refl _, by decide, I, D⟩ ?_ ?_
    · intro v hv
      obtain ⟨t, ht, rfl⟩ := List.mem_map.1 hv
      exact ⟨t, rfl, Nat.le_of_lt (List.mem_range.1 ht)⟩
    · rintro v q ρ h2 ⟨⟨x5, x6, x7, x8, x9, rfl⟩, hq, c', n, hc', hn, I, D⟩
      obtain ⟨t, rfl, ht⟩ := hq v (by simp)
      have hq := fun v hv => hq v (List.mem_cons_of_mem _ hv)
      simp only [List.length_cons] at hc' hn
      simp
      refine (roll_spec D (by omega) (by decide) (by decide +kernel)).mono ?_
      rintro x h3 ⟨r2, rfl, r0, r1, R1⟩
      simp
      refine (deed_spec R1.d (by omega) ht).mono ?_
      rintro x h4 ⟨⟨k, w, v, rfl, d⟩, R2⟩
      have X := R1.x.trans R2
      have I4 := I.fr (h' := h4) fun b hb => X.fr b (by have := I.len; omega) (by omega)
      have hl4 := I4.len
      obtain ⟨j, k', D0, U0, e1, e2, e3, e4, hD, hl, j4, k4, jk, fin⟩ := I4.pair r0 r1
      simp [e1]
      refine (done_spec e3 (by omega) d).mono ?_
      rintro x h5 ⟨rfl, u5⟩
      simp [e2]
      have d5 : Deed h5 k w v := d.mono fun b fs eb => by
        by_cases hb : b = j
        · subst hb; exact ⟨_, u5.at_⟩
        · exact ⟨fs, by rw [u5.fr b hb]; exact eb⟩
      refine (due_spec (h := h5) (by rw [u5.fr k' (Ne.symm jk)]; exact e4) (by omega) d5).mono ?_
      rintro x h6 ⟨rfl, u6⟩
      have G := good d hD
      obtain ⟨vs, ev, lv, av⟩ := G.al
      simp [ev]
      refine (alike_spec lv av).mono ?_
      rintro x h7 ⟨rfl, rfl⟩
      have I7 := fin h7 _ _ (by rw [u6.fr j jk]; exact u5.at_) u6.at_ (fun b hb h1 h2 => by rw [u6.fr b h2, u5.fr b h1]) G.ok (by have := G.len; omega)
      have D7 : Dice (n + 40) h7 a := (X.d.fr (by rw [u6.fr a (by omega), u5.fr a (by omega)])).mono (by omega)
      have ez : zipF [Val.lst [.ref 0, .ref 1], Val.lst [.ref 2, .ref 3]] = some [.tup [.ref 0, .ref 2], .tup [.ref 1, .ref 3]] := rfl
      obtain ⟨D0, U0, D1, U1, a0, a1, a2, a3, o0, o1, _, _⟩ := I7.ex
      have b0 := a0
      have b1 := a1
      simp only [jr] at b0 b1
      simp [-zipF_ll, ez, wp_for_cons, b0]
      refine (undone_spec a0).mono ?_
      rintro x h8 ⟨rfl, rfl⟩
      simp [cont_eq, a2, kp, fNe_tup o0.2, b0]
      refine (log_spec a0).mono ?_
      rintro x h9 ⟨rfl, rfl⟩
      simp [cont_eq, a2, kp, fNe_tup o0.1, b0]
      refine (log_spec a0).mono ?_
      rintro x h8 ⟨rfl, rfl⟩
      simp [fIsTy, b0]
      refine (undone_spec a0).mono ?_
      rintro x h9 ⟨rfl, rfl⟩
      simp [fIsTy, b1, wp_for_cons]
      refine (undone_spec a1).mono ?_
      rintro x h8 ⟨rfl, rfl⟩
      simp [cont_eq, a3, kp, fNe_tup o1.2, b1]
      refine (log_spec a1).mono ?_
      rintro x h9 ⟨rfl, rfl⟩
      simp [cont_eq, a3, kp, fNe_tup o1.1, b1]
      refine (log_spec a1).mono ?_
      rintro x h8 ⟨rfl, rfl⟩
      simp [fIsTy, b1]
      refine (undone_spec a1).mono ?_
      rintro x h9 ⟨rfl, rfl⟩
      simp [fIsTy]
      exact ⟨hq, c' + 1, by omega, n + 40, by omega, I7, D7⟩
    · rintro ρ h ⟨⟨x5, x6, x7, x8, x9, rfl⟩, hq, c', n, hc', hn, I, D⟩
      simp
      exact ⟨hr, c', by omega, I⟩
  · rintro ρ h ⟨⟨x3, x4, x5, x6, x7, x8, x9, rfl⟩, _⟩
    simp
end K71

set_option Elab.async false
set_option linter.all false
set_option maxRecDepth 100000
set_option maxHeartbeats 4000000
namespace K71
open PySem PySem.Spec PyProof.Rows L2 Mir PySem.W
theorem free_of {l : List (Str × NameKind)} (h : l.all (fun p => decide (p.2 = .free → p.1 = "__class__")) = true) : ∀ y, l.lookup y = some .free → y = "__class__" := fun y e => by
  have := List.all_eq_true.1 h _ (PySem.mem_of_lookup e)
  exact of_decide_eq_true this rfl
theorem sc_GoneError_init : SupScope ["self", "message"] ["self", "message"] (defScope s_GoneError_init) := ⟨rfl, rfl, rfl, by decide +kernel, rfl, by decide +kernel, by decide +kernel, free_of (by decide +kernel), rfl, rfl⟩
theorem sc_InvalidNumber_init : SupScope ["self", "number"] ["self", "number"] (defScope s_InvalidNumber_init) := ⟨rfl, rfl, rfl, by decide +kernel, rfl, by decide +kernel, by decide +kernel, free_of (by decide +kernel), rfl, rfl⟩
theorem sc_NothingToUndo_init : SupScope ["self", "many"] ["self", "many"] (defScope s_NothingToUndo_init) := ⟨rfl, rfl, rfl, by decide +kernel, rfl, by decide +kernel, by decide +kernel, free_of (by decide +kernel), rfl, rfl⟩
theorem all_mk {w : World} {K : Frag} {h : Heap} {mg : Str → Option Value} {fa : Addr} (X : K.In h) (G : h.Ns mainGlobals mg) (hfa : mg "law" = some (.ref fa))
  {C_GoneError : Addr}
  {C_InvalidOperation : Addr}
  {C_InvalidNumber : Addr}
  {C_NothingToUndo : Addr}
  {C_Journal : Addr}
  {f_is_name : Addr}
  {od_is_name an_is_name : Option Addr}
  {sl_is_name : Array (Option Value)}
  {oc_is_name kV_is_name dc_is_name pm_is_name cd_is_name ct_is_name : Value}
  {f_is_number : Addr}
  {od_is_number an_is_number : Option Addr}
  {sl_is_number : Array (Option Value)}
  {oc_is_number kV_is_number dc_is_number pm_is_number cd_is_number ct_is_number : Value}
  {f_is_plain : Addr}
  {od_is_plain an_is_plain : Option Addr}
  {sl_is_plain : Array (Option Value)}
  {oc_is_plain kV_is_plain dc_is_plain pm_is_plain cd_is_plain ct_is_plain : Value}
  {f_require_many : Addr}
  {od_require_many an_require_many : Option Addr}
  {sl_require_many : Array (Option Value)}
  {oc_require_many kV_require_many dc_require_many pm_require_many cd_require_many ct_require_many : Value}
  {f_Journal_init : Addr}
  {od_Journal_init an_Journal_init : Option Addr}
  {sl_Journal_init : Array (Option Value)}
  {oc_Journal_init kV_Journal_init dc_Journal_init pm_Journal_init cd_Journal_init ct_Journal_init : Value}
  {f_Journal_log : Addr}
  {od_Journal_log an_Journal_log : Option Addr}
  {sl_Journal_log : Array (Option Value)}
  {oc_Journal_log kV_Journal_log dc_Journal_log pm_Journal_log cd_Journal_log ct_Journal_log : Value}
  {p_Journal_log : Addr}
  {r_Journal_log : List Value}
  {f_Journal_undone : Addr}
  {od_Journal_undone an_Journal_undone : Option Addr}
  {sl_Journal_undone : Array (Option Value)}
  {oc_Journal_undone kV_Journal_undone dc_Journal_undone pm_Journal_undone cd_Journal_undone ct_Journal_undone : Value}
  {p_Journal_undone : Addr}
  {r_Journal_undone : List Value}
  {f_Journal_enter : Addr}
  {od_Journal_enter an_Journal_enter : Option Addr}
  {sl_Journal_enter : Array (Option Value)}
  {oc_Journal_enter kV_Journal_enter dc_Journal_enter pm_Journal_enter cd_Journal_enter ct_Journal_enter : Value}
  {f_Journal_undo : Addr}
  {od_Journal_undo an_Journal_undo : Option Addr}
  {sl_Journal_undo : Array (Option Value)}
  {oc_Journal_undo kV_Journal_undo dc_Journal_undo pm_Journal_undo cd_Journal_undo ct_Journal_undo : Value}
  {T_Journal_undo : Addr}
  {tc_Journal_undo : Value}
  {td_Journal_undo : Option Addr}
  {ts_Journal_undo : Array (Option Value)}
  {tn_Journal_undo : Nat}
  {tk_Journal_undo_0 : Tok}
  {f_Journal_redo : Addr}
  {od_Journal_redo an_Journal_redo : Option Addr}
  {sl_Journal_redo : Array (Option Value)}
  {oc_Journal_redo kV_Journal_redo dc_Journal_redo pm_Journal_redo cd_Journal_redo ct_Journal_redo : Value}
  {T_Journal_redo : Addr}
  {tc_Journal_redo : Value}
  {td_Journal_redo : Option Addr}
  {ts_Journal_redo : Array (Option Value)}
  {tn_Journal_redo : Nat}
  {tk_Journal_redo_0 : Tok}
  {f_law_dice : Addr}
  {od_law_dice an_law_dice : Option Addr}
  {sl_law_dice : Array (Option Value)}
  {oc_law_dice kV_law_dice dc_law_dice pm_law_dice cd_law_dice ct_law_dice : Value}
  {f_law_roll : Addr}
  {od_law_roll an_law_roll : Option Addr}
  {sl_law_roll : Array (Option Value)}
  {oc_law_roll kV_law_roll dc_law_roll pm_law_roll cd_law_roll ct_law_roll : Value}
  {f_law_pick : Addr}
  {od_law_pick an_law_pick : Option Addr}
  {sl_law_pick : Array (Option Value)}
  {oc_law_pick kV_law_pick dc_law_pick pm_law_pick cd_law_pick ct_law_pick : Value}
  {f_law_mixed : Addr}
  {od_law_mixed an_law_mixed : Option Addr}
  {sl_law_mixed : Array (Option Value)}
  {oc_law_mixed kV_law_mixed dc_law_mixed pm_law_mixed cd_law_mixed ct_law_mixed : Value}
  {f_law_word : Addr}
  {od_law_word an_law_word : Option Addr}
  {sl_law_word : Array (Option Value)}
  {oc_law_word kV_law_word dc_law_word pm_law_word cd_law_word ct_law_word : Value}
  {f_law_deed : Addr}
  {od_law_deed an_law_deed : Option Addr}
  {sl_law_deed : Array (Option Value)}
  {oc_law_deed kV_law_deed dc_law_deed pm_law_deed cd_law_deed ct_law_deed : Value}
  {f_law_done : Addr}
  {od_law_done an_law_done : Option Addr}
  {sl_law_done : Array (Option Value)}
  {oc_law_done kV_law_done dc_law_done pm_law_done cd_law_done ct_law_done : Value}
  {f_law_is_plain : Addr}
  {od_law_is_plain an_law_is_plain : Option Addr}
  {sl_law_is_plain : Array (Option Value)}
  {oc_law_is_plain kV_law_is_plain dc_law_is_plain pm_law_is_plain cd_law_is_plain ct_law_is_plain : Value}
  {f_law_is_step : Addr}
  {od_law_is_step an_law_is_step : Option Addr}
  {sl_law_is_step : Array (Option Value)}
  {oc_law_is_step kV_law_is_step dc_law_is_step pm_law_is_step cd_law_is_step ct_law_is_step : Value}
  {f_law_due : Addr}
  {od_law_due an_law_due : Option Addr}
  {sl_law_due : Array (Option Value)}
  {oc_law_due kV_law_due dc_law_due pm_law_due cd_law_due ct_law_due : Value}
  {f_law_alike : Addr}
  {od_law_alike an_law_alike : Option Addr}
  {sl_law_alike : Array (Option Value)}
  {oc_law_alike kV_law_alike dc_law_alike pm_law_alike cd_law_alike ct_law_alike : Value}
  {f_law : Addr}
  {od_law an_law : Option Addr}
  {sl_law : Array (Option Value)}
  {oc_law kV_law dc_law pm_law cd_law ct_law : Value}
  {f_GoneError cda_GoneError cc_GoneError : Addr}
  {od_GoneError an_GoneError cdd_GoneError cld_GoneError : Option Addr}
  {sl_GoneError ccs_GoneError csl_GoneError : Array (Option Value)}
  {oc_GoneError kV_GoneError dc_GoneError pm_GoneError ct_GoneError ccl_GoneError cls_GoneError : Value}
  {vs_GoneError : Array Value}
  {file_GoneError : Str}
  {tf_GoneError : Tok}
  {f_InvalidNumber cda_InvalidNumber cc_InvalidNumber : Addr}
  {od_InvalidNumber an_InvalidNumber cdd_InvalidNumber cld_InvalidNumber : Option Addr}
  {sl_InvalidNumber ccs_InvalidNumber csl_InvalidNumber : Array (Option Value)}
  {oc_InvalidNumber kV_InvalidNumber dc_InvalidNumber pm_InvalidNumber ct_InvalidNumber ccl_InvalidNumber cls_InvalidNumber : Value}
  {vs_InvalidNumber : Array Value}
  {file_InvalidNumber : Str}
  {tf_InvalidNumber : Tok}
  {f_NothingToUndo cda_NothingToUndo cc_NothingToUndo : Addr}
  {od_NothingToUndo an_NothingToUndo cdd_NothingToUndo cld_NothingToUndo : Option Addr}
  {sl_NothingToUndo ccs_NothingToUndo csl_NothingToUndo : Array (Option Value)}
  {oc_NothingToUndo kV_NothingToUndo dc_NothingToUndo pm_NothingToUndo ct_NothingToUndo ccl_NothingToUndo cls_NothingToUndo : Value}
  {vs_NothingToUndo : Array Value}
  {file_NothingToUndo : Str}
  {tf_NothingToUndo : Tok}
  {nm_InvalidOperation q_InvalidOperation : Str}
  {N_InvalidOperation : Addr}
  {bs_InvalidOperation bm_InvalidOperation sb_InvalidOperation : List Value}
  {sn_InvalidOperation : List Str}
  {ab_InvalidOperation : Bool}
  {co_InvalidOperation : Option Bool}
  {dd_InvalidOperation : Option Addr}
  {k0_InvalidOperation k1_InvalidOperation k2_InvalidOperation k3_InvalidOperation k5_InvalidOperation : Option Value}
  {nm_InvalidNumber q_InvalidNumber : Str}
  {N_InvalidNumber : Addr}
  {bs_InvalidNumber bm_InvalidNumber sb_InvalidNumber : List Value}
  {sn_InvalidNumber : List Str}
  {ab_InvalidNumber : Bool}
  {co_InvalidNumber : Option Bool}
  {dd_InvalidNumber : Option Addr}
  {k0_InvalidNumber k1_InvalidNumber k2_InvalidNumber k3_InvalidNumber k5_InvalidNumber : Option Value}
  {nm_NothingToUndo q_NothingToUndo : Str}
  {N_NothingToUndo : Addr}
  {bs_NothingToUndo bm_NothingToUndo sb_NothingToUndo : List Value}
  {sn_NothingToUndo : List Str}
  {ab_NothingToUndo : Bool}
  {co_NothingToUndo : Option Bool}
  {dd_NothingToUndo : Option Addr}
  {k0_NothingToUndo k1_NothingToUndo k2_NothingToUndo k3_NothingToUndo k5_NothingToUndo : Option Value}
  {t_MAX_LETTERS : _}
  {t_LETTERS : _}
  (a_GoneError : nsIn K mainGlobals "GoneError" = some (some (.ref C_GoneError)))
  (a_InvalidOperation : nsIn K mainGlobals "InvalidOperation" = some (some (.ref C_InvalidOperation)))
  (a_InvalidNumber : nsIn K mainGlobals "InvalidNumber" = some (some (.ref C_InvalidNumber)))
  (a_NothingToUndo : nsIn K mainGlobals "NothingToUndo" = some (some (.ref C_NothingToUndo)))
  (a_Journal : nsIn K mainGlobals "Journal" = some (some (.ref C_Journal)))
  (a_is_name : nsIn K mainGlobals "is_name" = some (some (.ref f_is_name)))
  (l_is_name : K.lookup f_is_name = some ⟨oc_is_name, od_is_name, .func (fnOf "is_name" "is_name" (defArgs s_is_name) (defBody s_is_name) (defScope s_is_name) .none kV_is_name dc_is_name pm_is_name an_is_name cd_is_name ct_is_name), sl_is_name⟩)
  (c_is_name : codeIn K cd_is_name "is_name" = true)
  (k_is_name : keepIn K (.ref f_is_name) = true)
  (a_is_number : nsIn K mainGlobals "is_number" = some (some (.ref f_is_number)))
  (l_is_number : K.lookup f_is_number = some ⟨oc_is_number, od_is_number, .func (fnOf "is_number" "is_number" (defArgs s_is_number) (defBody s_is_number) (defScope s_is_number) .none kV_is_number dc_is_number pm_is_number an_is_number cd_is_number ct_is_number), sl_is_number⟩)
  (c_is_number : codeIn K cd_is_number "is_number" = true)
  (k_is_number : keepIn K (.ref f_is_number) = true)
  (a_is_plain : nsIn K mainGlobals "is_plain" = some (some (.ref f_is_plain)))
  (l_is_plain : K.lookup f_is_plain = some ⟨oc_is_plain, od_is_plain, .func (fnOf "is_plain" "is_plain" (defArgs s_is_plain) (defBody s_is_plain) (defScope s_is_plain) .none kV_is_plain dc_is_plain pm_is_plain an_is_plain cd_is_plain ct_is_plain), sl_is_plain⟩)
  (c_is_plain : codeIn K cd_is_plain "is_plain" = true)
  (k_is_plain : keepIn K (.ref f_is_plain) = true)
  (a_require_many : nsIn K mainGlobals "require_many" = some (some (.ref f_require_many)))
  (l_require_many : K.lookup f_require_many = some ⟨oc_require_many, od_require_many, .func (fnOf "require_many" "require_many" (defArgs s_require_many) (defBody s_require_many) (defScope s_require_many) .none kV_require_many dc_require_many pm_require_many an_require_many cd_require_many ct_require_many), sl_require_many⟩)
  (c_require_many : codeIn K cd_require_many "require_many" = true)
  (k_require_many : keepIn K (.ref f_require_many) = true)
  (a_Journal_init : findIn K (.ref C_Journal) "__init__" = some (some (.ref f_Journal_init)))
  (n_Journal_init : isFn K (.ref f_Journal_init) = true)
  (l_Journal_init : K.lookup f_Journal_init = some ⟨oc_Journal_init, od_Journal_init, .func (fnOf "__init__" "Journal.__init__" (defArgs s_Journal_init) (defBody s_Journal_init) (defScope s_Journal_init) .none kV_Journal_init dc_Journal_init pm_Journal_init an_Journal_init cd_Journal_init ct_Journal_init), sl_Journal_init⟩)
  (c_Journal_init : codeIn K cd_Journal_init "Journal.__init__" = true)
  (k_Journal_init : keepIn K (.ref f_Journal_init) = true)
  (a_Journal_log : findIn K (.ref C_Journal) "log" = some (some (.ref p_Journal_log)))
  (g1_Journal_log : specialIn K (.ref p_Journal_log) "__get__" = some (some (.builtin "property.__get__")))
  (g2_Journal_log : takesIn K (.ref p_Journal_log) = some true)
  (g3_Journal_log : recIn K p_Journal_log "property" = some (.ref f_Journal_log :: r_Journal_log))
  (l_Journal_log : K.lookup f_Journal_log = some ⟨oc_Journal_log, od_Journal_log, .func (fnOf "log" "Journal.log" (defArgs s_Journal_log) (defBody s_Journal_log) (defScope s_Journal_log) .none kV_Journal_log dc_Journal_log pm_Journal_log an_Journal_log cd_Journal_log ct_Journal_log), sl_Journal_log⟩)
  (c_Journal_log : codeIn K cd_Journal_log "Journal.log" = true)
  (k_Journal_log : keepIn K (.ref f_Journal_log) = true)
  (a_Journal_undone : findIn K (.ref C_Journal) "undone" = some (some (.ref p_Journal_undone)))
  (g1_Journal_undone : specialIn K (.ref p_Journal_undone) "__get__" = some (some (.builtin "property.__get__")))
  (g2_Journal_undone : takesIn K (.ref p_Journal_undone) = some true)
  (g3_Journal_undone : recIn K p_Journal_undone "property" = some (.ref f_Journal_undone :: r_Journal_undone))
  (l_Journal_undone : K.lookup f_Journal_undone = some ⟨oc_Journal_undone, od_Journal_undone, .func (fnOf "undone" "Journal.undone" (defArgs s_Journal_undone) (defBody s_Journal_undone) (defScope s_Journal_undone) .none kV_Journal_undone dc_Journal_undone pm_Journal_undone an_Journal_undone cd_Journal_undone ct_Journal_undone), sl_Journal_undone⟩)
  (c_Journal_undone : codeIn K cd_Journal_undone "Journal.undone" = true)
  (k_Journal_undone : keepIn K (.ref f_Journal_undone) = true)
  (a_Journal_enter : findIn K (.ref C_Journal) "enter" = some (some (.ref f_Journal_enter)))
  (n_Journal_enter : isFn K (.ref f_Journal_enter) = true)
  (l_Journal_enter : K.lookup f_Journal_enter = some ⟨oc_Journal_enter, od_Journal_enter, .func (fnOf "enter" "Journal.enter" (defArgs s_Journal_enter) (defBody s_Journal_enter) (defScope s_Journal_enter) .none kV_Journal_enter dc_Journal_enter pm_Journal_enter an_Journal_enter cd_Journal_enter ct_Journal_enter), sl_Journal_enter⟩)
  (c_Journal_enter : codeIn K cd_Journal_enter "Journal.enter" = true)
  (k_Journal_enter : keepIn K (.ref f_Journal_enter) = true)
  (a_Journal_undo : findIn K (.ref C_Journal) "undo" = some (some (.ref f_Journal_undo)))
  (n_Journal_undo : isFn K (.ref f_Journal_undo) = true)
  (l_Journal_undo : K.lookup f_Journal_undo = some ⟨oc_Journal_undo, od_Journal_undo, .func (fnOf "undo" "Journal.undo" (defArgs s_Journal_undo) (defBody s_Journal_undo) (defScope s_Journal_undo) (.ref T_Journal_undo) kV_Journal_undo dc_Journal_undo pm_Journal_undo an_Journal_undo cd_Journal_undo ct_Journal_undo), sl_Journal_undo⟩)
  (c_Journal_undo : codeIn K cd_Journal_undo "Journal.undo" = true)
  (k_Journal_undo : keepIn K (.ref f_Journal_undo) = true)
  (t_Journal_undo : K.lookup T_Journal_undo = some ⟨tc_Journal_undo, td_Journal_undo, .seq #[.int (1) tk_Journal_undo_0] tn_Journal_undo, ts_Journal_undo⟩)
  (a_Journal_redo : findIn K (.ref C_Journal) "redo" = some (some (.ref f_Journal_redo)))
  (n_Journal_redo : isFn K (.ref f_Journal_redo) = true)
  (l_Journal_redo : K.lookup f_Journal_redo = some ⟨oc_Journal_redo, od_Journal_redo, .func (fnOf "redo" "Journal.redo" (defArgs s_Journal_redo) (defBody s_Journal_redo) (defScope s_Journal_redo) (.ref T_Journal_redo) kV_Journal_redo dc_Journal_redo pm_Journal_redo an_Journal_redo cd_Journal_redo ct_Journal_redo), sl_Journal_redo⟩)
  (c_Journal_redo : codeIn K cd_Journal_redo "Journal.redo" = true)
  (k_Journal_redo : keepIn K (.ref f_Journal_redo) = true)
  (t_Journal_redo : K.lookup T_Journal_redo = some ⟨tc_Journal_redo, td_Journal_redo, .seq #[.int (1) tk_Journal_redo_0] tn_Journal_redo, ts_Journal_redo⟩)
  (a_law_dice : nsIn K mainGlobals "_law_dice" = some (some (.ref f_law_dice)))
  (l_law_dice : K.lookup f_law_dice = some ⟨oc_law_dice, od_law_dice, .func (fnOf "_law_dice" "_law_dice" (defArgs s_law_dice) (defBody s_law_dice) (defScope s_law_dice) .none kV_law_dice dc_law_dice pm_law_dice an_law_dice cd_law_dice ct_law_dice), sl_law_dice⟩)
  (c_law_dice : codeIn K cd_law_dice "_law_dice" = true)
  (k_law_dice : keepIn K (.ref f_law_dice) = true)
  (a_law_roll : nsIn K mainGlobals "_law_roll" = some (some (.ref f_law_roll)))
  (l_law_roll : K.lookup f_law_roll = some ⟨oc_law_roll, od_law_roll, .func (fnOf "_law_roll" "_law_roll" (defArgs s_law_roll) (defBody s_law_roll) (defScope s_law_roll) .none kV_law_roll dc_law_roll pm_law_roll an_law_roll cd_law_roll ct_law_roll), sl_law_roll⟩)
  (c_law_roll : codeIn K cd_law_roll "_law_roll" = true)
  (k_law_roll : keepIn K (.ref f_law_roll) = true)
  (a_law_pick : nsIn K mainGlobals "_law_pick" = some (some (.ref f_law_pick)))
  (l_law_pick : K.lookup f_law_pick = some ⟨oc_law_pick, od_law_pick, .func (fnOf "_law_pick" "_law_pick" (defArgs s_law_pick) (defBody s_law_pick) (defScope s_law_pick) .none kV_law_pick dc_law_pick pm_law_pick an_law_pick cd_law_pick ct_law_pick), sl_law_pick⟩)
  (c_law_pick : codeIn K cd_law_pick "_law_pick" = true)
  (k_law_pick : keepIn K (.ref f_law_pick) = true)
  (a_law_mixed : nsIn K mainGlobals "_law_mixed" = some (some (.ref f_law_mixed)))
  (l_law_mixed : K.lookup f_law_mixed = some ⟨oc_law_mixed, od_law_mixed, .func (fnOf "_law_mixed" "_law_mixed" (defArgs s_law_mixed) (defBody s_law_mixed) (defScope s_law_mixed) .none kV_law_mixed dc_law_mixed pm_law_mixed an_law_mixed cd_law_mixed ct_law_mixed), sl_law_mixed⟩)
  (c_law_mixed : codeIn K cd_law_mixed "_law_mixed" = true)
  (k_law_mixed : keepIn K (.ref f_law_mixed) = true)
  (a_law_word : nsIn K mainGlobals "_law_word" = some (some (.ref f_law_word)))
  (l_law_word : K.lookup f_law_word = some ⟨oc_law_word, od_law_word, .func (fnOf "_law_word" "_law_word" (defArgs s_law_word) (defBody s_law_word) (defScope s_law_word) .none kV_law_word dc_law_word pm_law_word an_law_word cd_law_word ct_law_word), sl_law_word⟩)
  (c_law_word : codeIn K cd_law_word "_law_word" = true)
  (k_law_word : keepIn K (.ref f_law_word) = true)
  (a_law_deed : nsIn K mainGlobals "_law_deed" = some (some (.ref f_law_deed)))
  (l_law_deed : K.lookup f_law_deed = some ⟨oc_law_deed, od_law_deed, .func (fnOf "_law_deed" "_law_deed" (defArgs s_law_deed) (defBody s_law_deed) (defScope s_law_deed) .none kV_law_deed dc_law_deed pm_law_deed an_law_deed cd_law_deed ct_law_deed), sl_law_deed⟩)
  (c_law_deed : codeIn K cd_law_deed "_law_deed" = true)
  (k_law_deed : keepIn K (.ref f_law_deed) = true)
  (a_law_done : nsIn K mainGlobals "_law_done" = some (some (.ref f_law_done)))
  (l_law_done : K.lookup f_law_done = some ⟨oc_law_done, od_law_done, .func (fnOf "_law_done" "_law_done" (defArgs s_law_done) (defBody s_law_done) (defScope s_law_done) .none kV_law_done dc_law_done pm_law_done an_law_done cd_law_done ct_law_done), sl_law_done⟩)
  (c_law_done : codeIn K cd_law_done "_law_done" = true)
  (k_law_done : keepIn K (.ref f_law_done) = true)
  (a_law_is_plain : nsIn K mainGlobals "_law_is_plain" = some (some (.ref f_law_is_plain)))
  (l_law_is_plain : K.lookup f_law_is_plain = some ⟨oc_law_is_plain, od_law_is_plain, .func (fnOf "_law_is_plain" "_law_is_plain" (defArgs s_law_is_plain) (defBody s_law_is_plain) (defScope s_law_is_plain) .none kV_law_is_plain dc_law_is_plain pm_law_is_plain an_law_is_plain cd_law_is_plain ct_law_is_plain), sl_law_is_plain⟩)
  (c_law_is_plain : codeIn K cd_law_is_plain "_law_is_plain" = true)
  (k_law_is_plain : keepIn K (.ref f_law_is_plain) = true)
  (a_law_is_step : nsIn K mainGlobals "_law_is_step" = some (some (.ref f_law_is_step)))
  (l_law_is_step : K.lookup f_law_is_step = some ⟨oc_law_is_step, od_law_is_step, .func (fnOf "_law_is_step" "_law_is_step" (defArgs s_law_is_step) (defBody s_law_is_step) (defScope s_law_is_step) .none kV_law_is_step dc_law_is_step pm_law_is_step an_law_is_step cd_law_is_step ct_law_is_step), sl_law_is_step⟩)
  (c_law_is_step : codeIn K cd_law_is_step "_law_is_step" = true)
  (k_law_is_step : keepIn K (.ref f_law_is_step) = true)
  (a_law_due : nsIn K mainGlobals "_law_due" = some (some (.ref f_law_due)))
  (l_law_due : K.lookup f_law_due = some ⟨oc_law_due, od_law_due, .func (fnOf "_law_due" "_law_due" (defArgs s_law_due) (defBody s_law_due) (defScope s_law_due) .none kV_law_due dc_law_due pm_law_due an_law_due cd_law_due ct_law_due), sl_law_due⟩)
  (c_law_due : codeIn K cd_law_due "_law_due" = true)
  (k_law_due : keepIn K (.ref f_law_due) = true)
  (a_law_alike : nsIn K mainGlobals "_law_alike" = some (some (.ref f_law_alike)))
  (l_law_alike : K.lookup f_law_alike = some ⟨oc_law_alike, od_law_alike, .func (fnOf "_law_alike" "_law_alike" (defArgs s_law_alike) (defBody s_law_alike) (defScope s_law_alike) .none kV_law_alike dc_law_alike pm_law_alike an_law_alike cd_law_alike ct_law_alike), sl_law_alike⟩)
  (c_law_alike : codeIn K cd_law_alike "_law_alike" = true)
  (k_law_alike : keepIn K (.ref f_law_alike) = true)
  (a_law : nsIn K mainGlobals "law" = some (some (.ref f_law)))
  (l_law : K.lookup f_law = some ⟨oc_law, od_law, .func (fnOf "law" "law" (defArgs s_law) (defBody s_law) (defScope s_law) .none kV_law dc_law pm_law an_law cd_law ct_law), sl_law⟩)
  (c_law : codeIn K cd_law "law" = true)
  (k_law : keepIn K (.ref f_law) = true)
  (i_GoneError : findIn K (.ref C_GoneError) "__init__" = some (some (.ref f_GoneError)))
  (l_GoneError : K.lookup f_GoneError = some ⟨oc_GoneError, od_GoneError, .func (ksFn "__init__" "GoneError.__init__" (defArgs s_GoneError_init) (defBody s_GoneError_init) (defScope s_GoneError_init) .none kV_GoneError dc_GoneError pm_GoneError an_GoneError (.ref cda_GoneError) ct_GoneError cc_GoneError), sl_GoneError⟩)
  (c_GoneError : codeIn K (.ref cda_GoneError) "GoneError.__init__" = true)
  (k_GoneError : keepIn K (.ref f_GoneError) = true)
  (d_GoneError : K.lookup cda_GoneError = some ⟨ccl_GoneError, cdd_GoneError, .fields vs_GoneError, ccs_GoneError⟩)
  (v_GoneError : vs_GoneError[2]? = some (.str file_GoneError tf_GoneError))
  (qf_GoneError : ((PySem.Challenge.pw_gonewithin_k71_journals.main.file : Str) == file_GoneError) = true)
  (e_GoneError : K.lookup cc_GoneError = some ⟨cls_GoneError, cld_GoneError, .cell (some (.ref C_GoneError)), csl_GoneError⟩)
  (h_GoneError : (clsIn K C_GoneError).isSome = true)
  (y_GoneError : typeIn K (.ref f_GoneError) = some (.type "function"))
  (i_InvalidNumber : findIn K (.ref C_InvalidNumber) "__init__" = some (some (.ref f_InvalidNumber)))
  (l_InvalidNumber : K.lookup f_InvalidNumber = some ⟨oc_InvalidNumber, od_InvalidNumber, .func (ksFn "__init__" "InvalidNumber.__init__" (defArgs s_InvalidNumber_init) (defBody s_InvalidNumber_init) (defScope s_InvalidNumber_init) .none kV_InvalidNumber dc_InvalidNumber pm_InvalidNumber an_InvalidNumber (.ref cda_InvalidNumber) ct_InvalidNumber cc_InvalidNumber), sl_InvalidNumber⟩)
  (c_InvalidNumber : codeIn K (.ref cda_InvalidNumber) "InvalidNumber.__init__" = true)
  (k_InvalidNumber : keepIn K (.ref f_InvalidNumber) = true)
  (d_InvalidNumber : K.lookup cda_InvalidNumber = some ⟨ccl_InvalidNumber, cdd_InvalidNumber, .fields vs_InvalidNumber, ccs_InvalidNumber⟩)
  (v_InvalidNumber : vs_InvalidNumber[2]? = some (.str file_InvalidNumber tf_InvalidNumber))
  (qf_InvalidNumber : ((PySem.Challenge.pw_gonewithin_k71_journals.main.file : Str) == file_InvalidNumber) = true)
  (e_InvalidNumber : K.lookup cc_InvalidNumber = some ⟨cls_InvalidNumber, cld_InvalidNumber, .cell (some (.ref C_InvalidNumber)), csl_InvalidNumber⟩)
  (h_InvalidNumber : (clsIn K C_InvalidNumber).isSome = true)
  (y_InvalidNumber : typeIn K (.ref f_InvalidNumber) = some (.type "function"))
  (i_NothingToUndo : findIn K (.ref C_NothingToUndo) "__init__" = some (some (.ref f_NothingToUndo)))
  (l_NothingToUndo : K.lookup f_NothingToUndo = some ⟨oc_NothingToUndo, od_NothingToUndo, .func (ksFn "__init__" "NothingToUndo.__init__" (defArgs s_NothingToUndo_init) (defBody s_NothingToUndo_init) (defScope s_NothingToUndo_init) .none kV_NothingToUndo dc_NothingToUndo pm_NothingToUndo an_NothingToUndo (.ref cda_NothingToUndo) ct_NothingToUndo cc_NothingToUndo), sl_NothingToUndo⟩)
  (c_NothingToUndo : codeIn K (.ref cda_NothingToUndo) "NothingToUndo.__init__" = true)
  (k_NothingToUndo : keepIn K (.ref f_NothingToUndo) = true)
  (d_NothingToUndo : K.lookup cda_NothingToUndo = some ⟨ccl_NothingToUndo, cdd_NothingToUndo, .fields vs_NothingToUndo, ccs_NothingToUndo⟩)
  (v_NothingToUndo : vs_NothingToUndo[2]? = some (.str file_NothingToUndo tf_NothingToUndo))
  (qf_NothingToUndo : ((PySem.Challenge.pw_gonewithin_k71_journals.main.file : Str) == file_NothingToUndo) = true)
  (e_NothingToUndo : K.lookup cc_NothingToUndo = some ⟨cls_NothingToUndo, cld_NothingToUndo, .cell (some (.ref C_NothingToUndo)), csl_NothingToUndo⟩)
  (h_NothingToUndo : (clsIn K C_NothingToUndo).isSome = true)
  (y_NothingToUndo : typeIn K (.ref f_NothingToUndo) = some (.type "function"))
  (xo_InvalidOperation : K.lookup C_InvalidOperation = some (excClassObj nm_InvalidOperation q_InvalidOperation C_InvalidOperation N_InvalidOperation bs_InvalidOperation bm_InvalidOperation true sn_InvalidOperation sb_InvalidOperation ab_InvalidOperation co_InvalidOperation dd_InvalidOperation k0_InvalidOperation k1_InvalidOperation k2_InvalidOperation k3_InvalidOperation k5_InvalidOperation "ValueError.__new__"))
  (xr_InvalidOperation : PySem.HandSPX.refsVE bm_InvalidOperation = true)
  (xs_InvalidOperation : findIn K (.ref C_InvalidOperation) "__setattr__" = some (some (.builtin "object.__setattr__")))
  (xk_InvalidOperation : keepIn K (.ref C_InvalidOperation) = true)
  (xn_InvalidOperation : ks_superIn K C_InvalidOperation C_GoneError "__init__" = some (some (.builtin "ValueError.__init__")))
  (xv_InvalidOperation : subIn K (.ref C_InvalidOperation) (.type "ValueError") = some true)
  (xm_InvalidOperation : mroIn K C_InvalidOperation (.ref C_GoneError) = some true)
  (i_InvalidOperation : findIn K (.ref C_InvalidOperation) "__init__" = some (some (.ref f_GoneError)))
  (xo_InvalidNumber : K.lookup C_InvalidNumber = some (excClassObj nm_InvalidNumber q_InvalidNumber C_InvalidNumber N_InvalidNumber bs_InvalidNumber bm_InvalidNumber true sn_InvalidNumber sb_InvalidNumber ab_InvalidNumber co_InvalidNumber dd_InvalidNumber k0_InvalidNumber k1_InvalidNumber k2_InvalidNumber k3_InvalidNumber k5_InvalidNumber "ValueError.__new__"))
  (xr_InvalidNumber : PySem.HandSPX.refsVE bm_InvalidNumber = true)
  (xs_InvalidNumber : findIn K (.ref C_InvalidNumber) "__setattr__" = some (some (.builtin "object.__setattr__")))
  (xk_InvalidNumber : keepIn K (.ref C_InvalidNumber) = true)
  (xn_InvalidNumber : ks_superIn K C_InvalidNumber C_GoneError "__init__" = some (some (.builtin "ValueError.__init__")))
  (xv_InvalidNumber : subIn K (.ref C_InvalidNumber) (.type "ValueError") = some true)
  (xm_InvalidNumber : mroIn K C_InvalidNumber (.ref C_GoneError) = some true)
  (xp_InvalidNumber : ks_superIn K C_InvalidNumber C_InvalidNumber "__init__" = some (some (.ref f_GoneError)))
  (xq_InvalidNumber : mroIn K C_InvalidNumber (.ref C_InvalidNumber) = some true)
  (xf_InvalidNumber : findIn K (.ref C_InvalidNumber) "number" = some none)
  (xo_NothingToUndo : K.lookup C_NothingToUndo = some (excClassObj nm_NothingToUndo q_NothingToUndo C_NothingToUndo N_NothingToUndo bs_NothingToUndo bm_NothingToUndo true sn_NothingToUndo sb_NothingToUndo ab_NothingToUndo co_NothingToUndo dd_NothingToUndo k0_NothingToUndo k1_NothingToUndo k2_NothingToUndo k3_NothingToUndo k5_NothingToUndo "ValueError.__new__"))
  (xr_NothingToUndo : PySem.HandSPX.refsVE bm_NothingToUndo = true)
  (xs_NothingToUndo : findIn K (.ref C_NothingToUndo) "__setattr__" = some (some (.builtin "object.__setattr__")))
  (xk_NothingToUndo : keepIn K (.ref C_NothingToUndo) = true)
  (xn_NothingToUndo : ks_superIn K C_NothingToUndo C_GoneError "__init__" = some (some (.builtin "ValueError.__init__")))
  (xv_NothingToUndo : subIn K (.ref C_NothingToUndo) (.type "ValueError") = some true)
  (xm_NothingToUndo : mroIn K C_NothingToUndo (.ref C_GoneError) = some true)
  (xp_NothingToUndo : ks_superIn K C_NothingToUndo C_NothingToUndo "__init__" = some (some (.ref f_GoneError)))
  (xq_NothingToUndo : mroIn K C_NothingToUndo (.ref C_NothingToUndo) = some true)
  (xf_NothingToUndo : findIn K (.ref C_NothingToUndo) "many" = some none)
  (fn_GoneError : fnIn K f_GoneError = true)
  (xb_InvalidOperation : subIn K (.ref C_InvalidOperation) (.type "BaseException") = some true)
  (xt_InvalidOperation : typeIn K (.ref C_InvalidOperation) = some (.type "type"))
  (xd_InvalidOperation : hasDictIn K C_InvalidOperation = true)
  (xb_InvalidNumber : subIn K (.ref C_InvalidNumber) (.type "BaseException") = some true)
  (xt_InvalidNumber : typeIn K (.ref C_InvalidNumber) = some (.type "type"))
  (xd_InvalidNumber : hasDictIn K C_InvalidNumber = true)
  (xb_NothingToUndo : subIn K (.ref C_NothingToUndo) (.type "BaseException") = some true)
  (xt_NothingToUndo : typeIn K (.ref C_NothingToUndo) = some (.type "type"))
  (xd_NothingToUndo : hasDictIn K C_NothingToUndo = true)
  (s_InvalidOperation_InvalidOperation : subIn K (.ref C_InvalidOperation) (.ref C_InvalidOperation) = some true)
  (s_InvalidOperation_InvalidNumber : subIn K (.ref C_InvalidOperation) (.ref C_InvalidNumber) = some false)
  (s_InvalidOperation_NothingToUndo : subIn K (.ref C_InvalidOperation) (.ref C_NothingToUndo) = some false)
  (s_InvalidNumber_InvalidOperation : subIn K (.ref C_InvalidNumber) (.ref C_InvalidOperation) = some false)
  (s_InvalidNumber_InvalidNumber : subIn K (.ref C_InvalidNumber) (.ref C_InvalidNumber) = some true)
  (s_InvalidNumber_NothingToUndo : subIn K (.ref C_InvalidNumber) (.ref C_NothingToUndo) = some false)
  (s_NothingToUndo_InvalidOperation : subIn K (.ref C_NothingToUndo) (.ref C_InvalidOperation) = some false)
  (s_NothingToUndo_InvalidNumber : subIn K (.ref C_NothingToUndo) (.ref C_InvalidNumber) = some false)
  (s_NothingToUndo_NothingToUndo : subIn K (.ref C_NothingToUndo) (.ref C_NothingToUndo) = some true)
  (ga_InvalidNumber : findIn K (.ref C_InvalidNumber) "__getattribute__" = some (some (.builtin "BaseException.__getattribute__")))
  (gg_InvalidNumber : findIn K (.ref C_InvalidNumber) "__getattr__" = some none)
  (ga_NothingToUndo : findIn K (.ref C_NothingToUndo) "__getattribute__" = some (some (.builtin "BaseException.__getattribute__")))
  (gg_NothingToUndo : findIn K (.ref C_NothingToUndo) "__getattr__" = some none)
  (opq : nsIn K cStatics "thirdparty.any" = some none)
  (pg_Journal : plainGet K C_Journal Str.empty = true)
  (hd_Journal : hasDictIn K C_Journal = true)
  (po_Journal : plainOver K C_Journal = true)
  (sa_Journal : findIn K (.ref C_Journal) "__setattr__" = some (some (.builtin "object.__setattr__")))
  (mk_Journal : makesIn K C_Journal = true)
  (kc_Journal : keepIn K (.ref C_Journal) = true)
  (ic_Journal : findIn K (.ref C_Journal) "__class__" = some (some (.builtin "object.__class__")))
  (im_Journal : mroIn K C_Journal (.type "object") = some true)
  (it_Journal_int : kitOne K (.ref C_Journal) (.type "int") = some false)
  (it_Journal_str : kitOne K (.ref C_Journal) (.type "str") = some false)
  (it_Journal_tuple : kitOne K (.ref C_Journal) (.type "tuple") = some false)
  (na_Journal_own_done : findIn K (.ref C_Journal) "own_done" = some none)
  (na_Journal_own_undone : findIn K (.ref C_Journal) "own_undone" = some none)
  (ig1 : specialIn K (.builtin "object.__class__") "__get__" = some (some (.builtin "getset_descriptor.__get__")))
  (ig2 : takesIn K (.builtin "object.__class__") = some true)
  (z_abs : nsIn K mainGlobals "abs" = some none)
  (z_all : nsIn K mainGlobals "all" = some none)
  (z_bool : nsIn K mainGlobals "bool" = some none)
  (z_int : nsIn K mainGlobals "int" = some none)
  (z_isinstance : nsIn K mainGlobals "isinstance" = some none)
  (z_len : nsIn K mainGlobals "len" = some none)
  (z_list : nsIn K mainGlobals "list" = some none)
  (z_max : nsIn K mainGlobals "max" = some none)
  (z_min : nsIn K mainGlobals "min" = some none)
  (z_range : nsIn K mainGlobals "range" = some none)
  (z_str : nsIn K mainGlobals "str" = some none)
  (z_tuple : nsIn K mainGlobals "tuple" = some none)
  (z_zip : nsIn K mainGlobals "zip" = some none)
  (z_super : nsIn K mainGlobals "super" = some none)
  (y_MAX_LETTERS : nsIn K mainGlobals "MAX_LETTERS" = some (some (.int (8) t_MAX_LETTERS)))
  (y_LETTERS : nsIn K mainGlobals "LETTERS" = some (some (.str "abcdefghijklmnopqrstuvwxyz" t_LETTERS))) :
    ∃ (c : Mir.Ctx) (fd : FuncData), (∀ (s : Shared) (v : Value), BindsTo s fd ⟨[v], []⟩ [("script", v)]) ∧ ∀ base : Heap, K.In base → base.Ns mainGlobals mg → FnOk PySem.Challenge.pw_gonewithin_k71_journals w K mg base (L2.CX PySem.Challenge.pw_gonewithin_k71_journals w) 10 fa fd ["script"] (spM K c 1 m_law) := by
  have e := hfa.symm.trans (mg_of X G a_law)
  cases e
  have T : Tx mg := ⟨mg_none_of X G z_abs, mg_none_of X G z_all, mg_none_of X G z_bool, mg_none_of X G z_int, mg_none_of X G z_isinstance, mg_none_of X G z_len, mg_none_of X G z_list, mg_none_of X G z_max, mg_none_of X G z_min, mg_none_of X G z_range, mg_none_of X G z_str, mg_none_of X G z_tuple, mg_none_of X G z_zip, ⟨_, mg_of X G y_MAX_LETTERS⟩, ⟨_, mg_of X G y_LETTERS⟩⟩
  let c : Mir.Ctx := { CT := fun n => match n with | 0 => C_GoneError | 1 => C_InvalidOperation | 2 => C_InvalidNumber | 3 => C_NothingToUndo | 4 => C_Journal | _ => 0, nm := nmOf ["number", "many", "own_done", "own_undone", "enter", "undo", "redo"] }
  have inj : Inj c := inj_of (c := c) rfl (by decide +kernel) (by decide +kernel)
  have cl_Journal : Cls K C_Journal := ⟨pg_Journal, hd_Journal, po_Journal, sa_Journal⟩
  have ox_InvalidOperation : OexC K C_InvalidOperation := ⟨⟨_, _, _, _, _, _, _, _, _, _, _, _, _, _, _, xo_InvalidOperation, xr_InvalidOperation⟩, xs_InvalidOperation, xb_InvalidOperation, xt_InvalidOperation, xk_InvalidOperation⟩
  have ox_InvalidNumber : OexC K C_InvalidNumber := ⟨⟨_, _, _, _, _, _, _, _, _, _, _, _, _, _, _, xo_InvalidNumber, xr_InvalidNumber⟩, xs_InvalidNumber, xb_InvalidNumber, xt_InvalidNumber, xk_InvalidNumber⟩
  have ox_NothingToUndo : OexC K C_NothingToUndo := ⟨⟨_, _, _, _, _, _, _, _, _, _, _, _, _, _, _, xo_NothingToUndo, xr_NothingToUndo⟩, xs_NothingToUndo, xb_NothingToUndo, xt_NothingToUndo, xk_NothingToUndo⟩
  have F_is_name := fun_mk (st := s_is_name) l_is_name c_is_name k_is_name
  have b_is_name := F_is_name.binds (ps := ["value"]) fun _ _ _ _ _ _ us hl => match us, hl with | [_], _ => rfl
  have F_is_number := fun_mk (st := s_is_number) l_is_number c_is_number k_is_number
  have b_is_number := F_is_number.binds (ps := ["value"]) fun _ _ _ _ _ _ us hl => match us, hl with | [_], _ => rfl
  have F_is_plain := fun_mk (st := s_is_plain) l_is_plain c_is_plain k_is_plain
  have b_is_plain := F_is_plain.binds (ps := ["value"]) fun _ _ _ _ _ _ us hl => match us, hl with | [_], _ => rfl
  have F_require_many := fun_mk (st := s_require_many) l_require_many c_require_many k_require_many
  have b_require_many := F_require_many.binds (ps := ["many", "most"]) fun _ _ _ _ _ _ us hl => match us, hl with | [_, _], _ => rfl
  have F_Journal_init := fun_mk (st := s_Journal_init) l_Journal_init c_Journal_init k_Journal_init
  have b_Journal_init := F_Journal_init.binds (ps := ["self"]) fun _ _ _ _ _ _ us hl => match us, hl with | [_], _ => rfl
  have F_Journal_log := fun_mk (st := s_Journal_log) l_Journal_log c_Journal_log k_Journal_log
  have b_Journal_log := F_Journal_log.binds (ps := ["self"]) fun _ _ _ _ _ _ us hl => match us, hl with | [_], _ => rfl
  have F_Journal_undone := fun_mk (st := s_Journal_undone) l_Journal_undone c_Journal_undone k_Journal_undone
  have b_Journal_undone := F_Journal_undone.binds (ps := ["self"]) fun _ _ _ _ _ _ us hl => match us, hl with | [_], _ => rfl
  have F_Journal_enter := fun_mk (st := s_Journal_enter) l_Journal_enter c_Journal_enter k_Journal_enter
  have b_Journal_enter := F_Journal_enter.binds (ps := ["self", "step"]) fun _ _ _ _ _ _ us hl => match us, hl with | [_, _], _ => rfl
  have F_Journal_undo := FunD.mk (K := K) (x := "undo") (qual := "Journal.undo") (params := defArgs s_Journal_undo) (body := defBody s_Journal_undo) (scope := defScope s_Journal_undo) (dvs := [.int (1)]) (kws := []) ⟨_, _, _, _, _, _, _, _, _, _, rfl, l_Journal_undo, c_Journal_undo, .inr ⟨fun z => (by cases z), T_Journal_undo, _, _, _, rfl, t_Journal_undo, rfl, (by repeat constructor)⟩, .inl rfl⟩ k_Journal_undo
  have F_Journal_redo := FunD.mk (K := K) (x := "redo") (qual := "Journal.redo") (params := defArgs s_Journal_redo) (body := defBody s_Journal_redo) (scope := defScope s_Journal_redo) (dvs := [.int (1)]) (kws := []) ⟨_, _, _, _, _, _, _, _, _, _, rfl, l_Journal_redo, c_Journal_redo, .inr ⟨fun z => (by cases z), T_Journal_redo, _, _, _, rfl, t_Journal_redo, rfl, (by repeat constructor)⟩, .inl rfl⟩ k_Journal_redo
  have F_law_dice := fun_mk (st := s_law_dice) l_law_dice c_law_dice k_law_dice
  have b_law_dice := F_law_dice.binds (ps := ["script", "spot"]) fun _ _ _ _ _ _ us hl => match us, hl with | [_, _], _ => rfl
  have F_law_roll := fun_mk (st := s_law_roll) l_law_roll c_law_roll k_law_roll
  have b_law_roll := F_law_roll.binds (ps := ["dice", "upto"]) fun _ _ _ _ _ _ us hl => match us, hl with | [_, _], _ => rfl
  have F_law_pick := fun_mk (st := s_law_pick) l_law_pick c_law_pick k_law_pick
  have b_law_pick := F_law_pick.binds (ps := ["dice", "items"]) fun _ _ _ _ _ _ us hl => match us, hl with | [_, _], _ => rfl
  have F_law_mixed := fun_mk (st := s_law_mixed) l_law_mixed c_law_mixed k_law_mixed
  have b_law_mixed := F_law_mixed.binds (ps := ["dice", "items"]) fun _ _ _ _ _ _ us hl => match us, hl with | [_, _], _ => rfl
  have F_law_word := fun_mk (st := s_law_word) l_law_word c_law_word k_law_word
  have b_law_word := F_law_word.binds (ps := ["dice"]) fun _ _ _ _ _ _ us hl => match us, hl with | [_], _ => rfl
  have F_law_deed := fun_mk (st := s_law_deed) l_law_deed c_law_deed k_law_deed
  have b_law_deed := F_law_deed.binds (ps := ["dice", "turn"]) fun _ _ _ _ _ _ us hl => match us, hl with | [_, _], _ => rfl
  have F_law_done := fun_mk (st := s_law_done) l_law_done c_law_done k_law_done
  have b_law_done := F_law_done.binds (ps := ["journal", "deed"]) fun _ _ _ _ _ _ us hl => match us, hl with | [_, _], _ => rfl
  have F_law_is_plain := fun_mk (st := s_law_is_plain) l_law_is_plain c_law_is_plain k_law_is_plain
  have b_law_is_plain := F_law_is_plain.binds (ps := ["value"]) fun _ _ _ _ _ _ us hl => match us, hl with | [_], _ => rfl
  have F_law_is_step := fun_mk (st := s_law_is_step) l_law_is_step c_law_is_step k_law_is_step
  have b_law_is_step := F_law_is_step.binds (ps := ["value"]) fun _ _ _ _ _ _ us hl => match us, hl with | [_], _ => rfl
  have F_law_due := fun_mk (st := s_law_due) l_law_due c_law_due k_law_due
  have b_law_due := F_law_due.binds (ps := ["kept", "deed"]) fun _ _ _ _ _ _ us hl => match us, hl with | [_, _], _ => rfl
  have F_law_alike := fun_mk (st := s_law_alike) l_law_alike c_law_alike k_law_alike
  have b_law_alike := F_law_alike.binds (ps := ["found", "due"]) fun _ _ _ _ _ _ us hl => match us, hl with | [_, _], _ => rfl
  have F_law := fun_mk (st := s_law) l_law c_law k_law
  refine ⟨c, fnOf "law" "law" (defArgs s_law) (defBody s_law) (defScope s_law) .none kV_law dc_law pm_law an_law cd_law ct_law, fun s v => .of_eq rfl, fun base _ _ => ?_⟩
  have FK_GoneError : FunK K PySem.Challenge.pw_gonewithin_k71_journals mg "__init__" "GoneError.__init__" s_GoneError_init f_GoneError C_GoneError _ := ⟨⟨_, _, _, _, _, _, _, _, _, _, rfl, l_GoneError, c_GoneError, ⟨_, _, _, _, _, _, d_GoneError, v_GoneError, qf_GoneError⟩, _, _, _, e_GoneError⟩, h_GoneError, mg_none_of X G z_super, by decide +kernel⟩
  have bk_GoneError := Mir.FunK.binds FK_GoneError (ps := ["self", "message"]) fun _ _ _ _ _ _ _ us hl => match us, hl with | [_, _], _ => rfl
  have ok_GoneError : FnOk PySem.Challenge.pw_gonewithin_k71_journals w K mg base (L2.CX PySem.Challenge.pw_gonewithin_k71_journals w) 1 f_GoneError _ ["self", "message"] (spG K C_GoneError) := ok_supV FK_GoneError sc_GoneError_init
  have FK_InvalidNumber : FunK K PySem.Challenge.pw_gonewithin_k71_journals mg "__init__" "InvalidNumber.__init__" s_InvalidNumber_init f_InvalidNumber C_InvalidNumber _ := ⟨⟨_, _, _, _, _, _, _, _, _, _, rfl, l_InvalidNumber, c_InvalidNumber, ⟨_, _, _, _, _, _, d_InvalidNumber, v_InvalidNumber, qf_InvalidNumber⟩, _, _, _, e_InvalidNumber⟩, h_InvalidNumber, mg_none_of X G z_super, by decide +kernel⟩
  have bk_InvalidNumber := Mir.FunK.binds FK_InvalidNumber (ps := ["self", "number"]) fun _ _ _ _ _ _ _ us hl => match us, hl with | [_, _], _ => rfl
  have ok_InvalidNumber : FnOk PySem.Challenge.pw_gonewithin_k71_journals w K mg base (L2.CX PySem.Challenge.pw_gonewithin_k71_journals w) 2 f_InvalidNumber _ ["self", "number"] (spI K C_InvalidNumber f_GoneError C_GoneError "number") := ok_supI FK_InvalidNumber sc_InvalidNumber_init ok_GoneError bk_GoneError
  have FK_NothingToUndo : FunK K PySem.Challenge.pw_gonewithin_k71_journals mg "__init__" "NothingToUndo.__init__" s_NothingToUndo_init f_NothingToUndo C_NothingToUndo _ := ⟨⟨_, _, _, _, _, _, _, _, _, _, rfl, l_NothingToUndo, c_NothingToUndo, ⟨_, _, _, _, _, _, d_NothingToUndo, v_NothingToUndo, qf_NothingToUndo⟩, _, _, _, e_NothingToUndo⟩, h_NothingToUndo, mg_none_of X G z_super, by decide +kernel⟩
  have bk_NothingToUndo := Mir.FunK.binds FK_NothingToUndo (ps := ["self", "many"]) fun _ _ _ _ _ _ _ us hl => match us, hl with | [_, _], _ => rfl
  have ok_NothingToUndo : FnOk PySem.Challenge.pw_gonewithin_k71_journals w K mg base (L2.CX PySem.Challenge.pw_gonewithin_k71_journals w) 2 f_NothingToUndo _ ["self", "many"] (spI K C_NothingToUndo f_GoneError C_GoneError "many") := ok_supI FK_NothingToUndo sc_NothingToUndo_init ok_GoneError bk_GoneError
  have Y : Ty PySem.Challenge.pw_gonewithin_k71_journals w K mg base c f_GoneError := {
    c_InvalidNumber := mg_of X G a_InvalidNumber,
    c_InvalidOperation := mg_of X G a_InvalidOperation,
    c_NothingToUndo := mg_of X G a_NothingToUndo,
    e_InvalidNumber := ⟨ox_InvalidNumber, ⟨xp_InvalidNumber, y_GoneError, fn_GoneError, xq_InvalidNumber, opq⟩, ⟨ox_InvalidNumber, xn_InvalidNumber, xv_InvalidNumber, xm_InvalidNumber, opq⟩, xf_InvalidNumber, rfl, ⟨_, _, _, i_InvalidNumber, y_InvalidNumber, ok_InvalidNumber, bk_InvalidNumber⟩, mg_of X G a_InvalidNumber⟩,
    e_InvalidOperation := ⟨ox_InvalidOperation, ⟨ox_InvalidOperation, xn_InvalidOperation, xv_InvalidOperation, xm_InvalidOperation, opq⟩, ⟨_, _, _, i_InvalidOperation, y_GoneError, ok_GoneError, bk_GoneError⟩, mg_of X G a_InvalidOperation⟩,
    e_NothingToUndo := ⟨ox_NothingToUndo, ⟨xp_NothingToUndo, y_GoneError, fn_GoneError, xq_NothingToUndo, opq⟩, ⟨ox_NothingToUndo, xn_NothingToUndo, xv_NothingToUndo, xm_NothingToUndo, opq⟩, xf_NothingToUndo, rfl, ⟨_, _, _, i_NothingToUndo, y_NothingToUndo, ok_NothingToUndo, bk_NothingToUndo⟩, mg_of X G a_NothingToUndo⟩,
    fl_Journal_own_done := ⟨inj, cl_Journal, na_Journal_own_done, rfl⟩,
    fl_Journal_own_undone := ⟨inj, cl_Journal, na_Journal_own_undone, rfl⟩,
    is_int := (by intro z hz; rcases List.mem_cons.mp hz with rfl | hz; exact it_Journal_int; cases hz),
    is_str := (by intro z hz; rcases List.mem_cons.mp hz with rfl | hz; exact it_Journal_str; cases hz),
    is_tuple := (by intro z hz; rcases List.mem_cons.mp hz with rfl | hz; exact it_Journal_tuple; cases hz),
    so := subTab_ok (by intro q hq; simp only [subL, List.mem_cons, List.not_mem_nil, or_false] at hq; rcases hq with rfl | rfl | rfl | rfl | rfl | rfl | rfl | rfl | rfl; exact exm_ref xb_InvalidOperation xd_InvalidOperation xt_InvalidOperation s_InvalidOperation_InvalidOperation; exact exm_ref xb_InvalidNumber xd_InvalidNumber xt_InvalidNumber s_InvalidOperation_InvalidNumber; exact exm_ref xb_NothingToUndo xd_NothingToUndo xt_NothingToUndo s_InvalidOperation_NothingToUndo; exact exm_ref xb_InvalidOperation xd_InvalidOperation xt_InvalidOperation s_InvalidNumber_InvalidOperation; exact exm_ref xb_InvalidNumber xd_InvalidNumber xt_InvalidNumber s_InvalidNumber_InvalidNumber; exact exm_ref xb_NothingToUndo xd_NothingToUndo xt_NothingToUndo s_InvalidNumber_NothingToUndo; exact exm_ref xb_InvalidOperation xd_InvalidOperation xt_InvalidOperation s_NothingToUndo_InvalidOperation; exact exm_ref xb_InvalidNumber xd_InvalidNumber xt_InvalidNumber s_NothingToUndo_InvalidNumber; exact exm_ref xb_NothingToUndo xd_NothingToUndo xt_NothingToUndo s_NothingToUndo_NothingToUndo),
    x_InvalidNumber_number := ⟨inj, ⟨ga_InvalidNumber, gg_InvalidNumber, xb_InvalidNumber, xd_InvalidNumber⟩, xf_InvalidNumber, rfl⟩,
    x_NothingToUndo_many := ⟨inj, ⟨ga_NothingToUndo, gg_NothingToUndo, xb_NothingToUndo, xd_NothingToUndo⟩, xf_NothingToUndo, rfl⟩,
    is_G := ⟨ig1, ig2⟩,
    is_own := (by intro z hz; rcases List.mem_cons.mp hz with rfl | hz; exact ⟨cl_Journal, ic_Journal, im_Journal⟩; cases hz) }
  have d_is_name := dn_is_name (P := PySem.Challenge.pw_gonewithin_k71_journals) (w := w) (base := base) (c := c) T Y F_is_name (mg_of X G a_is_name) b_is_name
  have d_is_number := dn_is_number (P := PySem.Challenge.pw_gonewithin_k71_journals) (w := w) (base := base) (c := c) T Y F_is_number (mg_of X G a_is_number) b_is_number
  have d_is_plain := dn_is_plain (P := PySem.Challenge.pw_gonewithin_k71_journals) (w := w) (base := base) (c := c) T Y F_is_plain (mg_of X G a_is_plain) b_is_plain
  have d_require_many := dn_require_many (P := PySem.Challenge.pw_gonewithin_k71_journals) (w := w) (base := base) (c := c) T Y F_require_many d_is_number (mg_of X G a_require_many) b_require_many
  have o_Journal_init := ok_Journal_init T Y F_Journal_init
  have fn_Journal_init : Fn PySem.Challenge.pw_gonewithin_k71_journals w K mg base c f_Journal_init 1 1 [] [] m_Journal_init := .mk0 o_Journal_init b_Journal_init (fun _ _ h => mFun_len _ _ h)
  have d_Journal_init : MakeD PySem.Challenge.pw_gonewithin_k71_journals w K mg base c "Journal" 4 1 1 [] [] m_Journal_init := ⟨mg_of X G a_Journal, _, ⟨mk_Journal, a_Journal_init, n_Journal_init, kc_Journal⟩, fn_Journal_init⟩
  have o_Journal_log := ok_Journal_log T Y F_Journal_log
  have fn_Journal_log : Fn PySem.Challenge.pw_gonewithin_k71_journals w K mg base c f_Journal_log 1 1 [] [] m_Journal_log := .mk0 o_Journal_log b_Journal_log (fun _ _ h => mFun_len _ _ h)
  have d_Journal_log : PropD PySem.Challenge.pw_gonewithin_k71_journals w K mg base c 4 "log" 1 m_Journal_log := ⟨cl_Journal, _, _, ⟨a_Journal_log, g1_Journal_log, g2_Journal_log, ⟨_, g3_Journal_log⟩⟩, fn_Journal_log⟩
  have o_Journal_undone := ok_Journal_undone T Y F_Journal_undone
  have fn_Journal_undone : Fn PySem.Challenge.pw_gonewithin_k71_journals w K mg base c f_Journal_undone 1 1 [] [] m_Journal_undone := .mk0 o_Journal_undone b_Journal_undone (fun _ _ h => mFun_len _ _ h)
  have d_Journal_undone : PropD PySem.Challenge.pw_gonewithin_k71_journals w K mg base c 4 "undone" 1 m_Journal_undone := ⟨cl_Journal, _, _, ⟨a_Journal_undone, g1_Journal_undone, g2_Journal_undone, ⟨_, g3_Journal_undone⟩⟩, fn_Journal_undone⟩
  have o_Journal_enter := ok_Journal_enter T Y F_Journal_enter d_is_name d_is_plain
  have fn_Journal_enter : Fn PySem.Challenge.pw_gonewithin_k71_journals w K mg base c f_Journal_enter 8 2 [] [] m_Journal_enter := .mk0 o_Journal_enter b_Journal_enter (fun _ _ h => mFun_len _ _ h)
  have d_Journal_enter : MethD PySem.Challenge.pw_gonewithin_k71_journals w K mg base c 4 4 "enter" 8 2 [] [] m_Journal_enter := ⟨inj, cl_Journal, rfl, _, ⟨a_Journal_enter, n_Journal_enter, k_Journal_enter⟩, fn_Journal_enter⟩
  have o_Journal_undo := ok_Journal_undo T Y F_Journal_undo d_require_many
  have fn_Journal_undo : Fn PySem.Challenge.pw_gonewithin_k71_journals w K mg base c f_Journal_undo 5 2 [] [] m_Journal_undo := .mkD o_Journal_undo (F_Journal_undo.binds1 (ps := ["self", "many"]) 2 1 (by simp) rfl fun _ _ _ _ _ _ _ us its hl hi => match us, its, hl, hi with | [_, _], [_], _, _ => ⟨_, rfl, rfl⟩) (fun _ _ => by repeat constructor) (fun _ _ h => mFun_len _ _ h)
  have d_Journal_undo : MethD PySem.Challenge.pw_gonewithin_k71_journals w K mg base c 4 5 "undo" 5 2 [] [] m_Journal_undo := ⟨inj, cl_Journal, rfl, _, ⟨a_Journal_undo, n_Journal_undo, k_Journal_undo⟩, fn_Journal_undo⟩
  have fn_Journal_undo_d1 : Fn PySem.Challenge.pw_gonewithin_k71_journals w K mg base c f_Journal_undo 5 2 [(.int (1))] [.int (1)] m_Journal_undo := .mkD o_Journal_undo (F_Journal_undo.binds1 (ps := ["self", "many"]) 1 0 (by simp) rfl fun _ _ _ _ _ _ _ us its hl hi => match us, its, hl, hi with | [_], [_], _, _ => ⟨_, rfl, rfl⟩) (fun _ _ => by repeat constructor) (fun _ _ h => mFun_len _ _ h)
  have d_Journal_undo_d1 : MethD PySem.Challenge.pw_gonewithin_k71_journals w K mg base c 4 5 "undo" 5 2 [(.int (1))] [.int (1)] m_Journal_undo := ⟨inj, cl_Journal, rfl, _, ⟨a_Journal_undo, n_Journal_undo, k_Journal_undo⟩, fn_Journal_undo_d1⟩
  have o_Journal_redo := ok_Journal_redo T Y F_Journal_redo d_require_many
  have fn_Journal_redo : Fn PySem.Challenge.pw_gonewithin_k71_journals w K mg base c f_Journal_redo 5 2 [] [] m_Journal_redo := .mkD o_Journal_redo (F_Journal_redo.binds1 (ps := ["self", "many"]) 2 1 (by simp) rfl fun _ _ _ _ _ _ _ us its hl hi => match us, its, hl, hi with | [_, _], [_], _, _ => ⟨_, rfl, rfl⟩) (fun _ _ => by repeat constructor) (fun _ _ h => mFun_len _ _ h)
  have d_Journal_redo : MethD PySem.Challenge.pw_gonewithin_k71_journals w K mg base c 4 6 "redo" 5 2 [] [] m_Journal_redo := ⟨inj, cl_Journal, rfl, _, ⟨a_Journal_redo, n_Journal_redo, k_Journal_redo⟩, fn_Journal_redo⟩
  have fn_Journal_redo_d1 : Fn PySem.Challenge.pw_gonewithin_k71_journals w K mg base c f_Journal_redo 5 2 [(.int (1))] [.int (1)] m_Journal_redo := .mkD o_Journal_redo (F_Journal_redo.binds1 (ps := ["self", "many"]) 1 0 (by simp) rfl fun _ _ _ _ _ _ _ us its hl hi => match us, its, hl, hi with | [_], [_], _, _ => ⟨_, rfl, rfl⟩) (fun _ _ => by repeat constructor) (fun _ _ h => mFun_len _ _ h)
  have d_Journal_redo_d1 : MethD PySem.Challenge.pw_gonewithin_k71_journals w K mg base c 4 6 "redo" 5 2 [(.int (1))] [.int (1)] m_Journal_redo := ⟨inj, cl_Journal, rfl, _, ⟨a_Journal_redo, n_Journal_redo, k_Journal_redo⟩, fn_Journal_redo_d1⟩
  have d_law_dice := dn_law_dice (P := PySem.Challenge.pw_gonewithin_k71_journals) (w := w) (base := base) (c := c) T Y F_law_dice (mg_of X G a_law_dice) b_law_dice
  have d_law_roll := dn_law_roll (P := PySem.Challenge.pw_gonewithin_k71_journals) (w := w) (base := base) (c := c) T Y F_law_roll (mg_of X G a_law_roll) b_law_roll
  have d_law_pick := dn_law_pick (P := PySem.Challenge.pw_gonewithin_k71_journals) (w := w) (base := base) (c := c) T Y F_law_pick d_law_roll (mg_of X G a_law_pick) b_law_pick
  have d_law_mixed := dn_law_mixed (P := PySem.Challenge.pw_gonewithin_k71_journals) (w := w) (base := base) (c := c) T Y F_law_mixed d_law_roll (mg_of X G a_law_mixed) b_law_mixed
  have d_law_word := dn_law_word (P := PySem.Challenge.pw_gonewithin_k71_journals) (w := w) (base := base) (c := c) T Y F_law_word d_law_roll (mg_of X G a_law_word) b_law_word
  have d_law_deed := dn_law_deed (P := PySem.Challenge.pw_gonewithin_k71_journals) (w := w) (base := base) (c := c) T Y F_law_deed d_law_roll d_law_mixed d_law_word d_law_pick d_Journal_init (mg_of X G a_law_deed) b_law_deed
  have d_law_done := dn_law_done (P := PySem.Challenge.pw_gonewithin_k71_journals) (w := w) (base := base) (c := c) T Y F_law_done d_Journal_enter d_Journal_undo d_Journal_undo_d1 d_Journal_redo d_Journal_redo_d1 (mg_of X G a_law_done) b_law_done
  have d_law_is_plain := dn_law_is_plain (P := PySem.Challenge.pw_gonewithin_k71_journals) (w := w) (base := base) (c := c) T Y F_law_is_plain (mg_of X G a_law_is_plain) b_law_is_plain
  have d_law_is_step := dn_law_is_step (P := PySem.Challenge.pw_gonewithin_k71_journals) (w := w) (base := base) (c := c) T Y F_law_is_step d_law_is_plain (mg_of X G a_law_is_step) b_law_is_step
  have d_law_due := dn_law_due (P := PySem.Challenge.pw_gonewithin_k71_journals) (w := w) (base := base) (c := c) T Y F_law_due d_law_is_step (mg_of X G a_law_due) b_law_due
  have d_law_alike := dn_law_alike (P := PySem.Challenge.pw_gonewithin_k71_journals) (w := w) (base := base) (c := c) T Y F_law_alike (mg_of X G a_law_alike) b_law_alike
  exact ok_law T Y F_law d_Journal_init d_law_dice d_law_roll d_law_deed d_law_alike d_law_done d_law_due d_Journal_undone d_Journal_log
end K71
open PySem PySem.W PyProof.Rows
set_option maxRecDepth 100000 in
set_option maxHeartbeats 0 in
theorem PySem.Challenge.cw_gonewithin_k71_journals_holds : PySem.Challenge.rw_gonewithin_k71_journals.Holds := by
  w_on; o_law; k_head; (case hw => w_witness2)
  k_fill
  refine Mir.walkE (l := PySem.Challenge.rw_gonewithin_k71_journals) (k := 10) (m := K71.m_law) rfl rfl ⟨rfl, by decide, by decide⟩ (fun w h Y => PySem.W.kIn_of Y) ?F K71.plain
  case F =>
    intro w mg fa h KX G hmg
    refine' K71.all_mk KX G hmg ?a_GoneError ?a_InvalidOperation ?a_InvalidNumber ?a_NothingToUndo ?a_Journal ?a_is_name ?l_is_name ?c_is_name ?k_is_name ?a_is_number ?l_is_number ?c_is_number ?k_is_number ?a_is_plain ?l_is_plain ?c_is_plain ?k_is_plain ?a_require_many ?l_require_many ?c_require_many ?k_require_many ?a_Journal_init ?n_Journal_init ?l_Journal_init ?c_Journal_init ?k_Journal_init ?a_Journal_log ?g1_Journal_log ?g2_Journal_log ?g3_Journal_log ?l_Journal_log ?c_Journal_log ?k_Journal_log ?a_Journal_undone ?g1_Journal_undone ?g2_Journal_undone ?g3_Journal_undone ?l_Journal_undone ?c_Journal_undone ?k_Journal_undone ?a_Journal_enter ?n_Journal_enter ?l_Journal_enter ?c_Journal_enter ?k_Journal_enter ?a_Journal_undo ?n_Journal_undo ?l_Journal_undo ?c_Journal_undo ?k_Journal_undo ?t_Journal_undo ?a_Journal_redo ?n_Journal_redo ?l_Journal_redo ?c_Journal_redo ?k_Journal_redo ?t_Journal_redo ?a_law_dice ?l_law_dice ?c_law_dice ?k_law_dice ?a_law_roll ?l_law_roll ?c_law_roll ?k_law_roll ?a_law_pick ?l_law_pick ?c_law_pick ?k_law_pick ?a_law_mixed ?l_law_mixed ?c_law_mixed ?k_law_mixed ?a_law_word ?l_law_word ?c_law_word ?k_law_word ?a_law_deed ?l_law_deed ?c_law_deed ?k_law_deed ?a_law_done ?l_law_done ?c_law_done ?k_law_done ?a_law_is_plain ?l_law_is_plain ?c_law_is_plain ?k_law_is_plain ?a_law_is_step ?l_law_is_step ?c_law_is_step ?k_law_is_step ?a_law_due ?l_law_due ?c_law_due ?k_law_due ?a_law_alike ?l_law_alike ?c_law_alike ?k_law_alike ?a_law ?l_law ?c_law ?k_law ?i_GoneError ?l_GoneError ?c_GoneError ?k_GoneError ?d_GoneError ?v_GoneError ?qf_GoneError ?e_GoneError ?h_GoneError ?y_GoneError ?i_InvalidNumber ?l_InvalidNumber ?c_InvalidNumber ?k_InvalidNumber ?d_InvalidNumber ?v_InvalidNumber ?qf_InvalidNumber ?e_InvalidNumber ?h_InvalidNumber ?y_InvalidNumber ?i_NothingToUndo ?l_NothingToUndo ?c_NothingToUndo ?k_NothingToUndo ?d_NothingToUndo ?v_NothingToUndo ?qf_NothingToUndo ?e_NothingToUndo ?h_NothingToUndo ?y_NothingToUndo ?xo_InvalidOperation ?xr_InvalidOperation ?xs_InvalidOperation ?xk_InvalidOperation ?xn_InvalidOperation ?xv_InvalidOperation ?xm_InvalidOperation ?i_InvalidOperation ?xo_InvalidNumber ?xr_InvalidNumber ?xs_InvalidNumber ?xk_InvalidNumber ?xn_InvalidNumber ?xv_InvalidNumber ?xm_InvalidNumber ?xp_InvalidNumber ?xq_InvalidNumber ?xf_InvalidNumber ?xo_NothingToUndo ?xr_NothingToUndo ?xs_NothingToUndo ?xk_NothingToUndo ?xn_NothingToUndo ?xv_NothingToUndo ?xm_NothingToUndo ?xp_NothingToUndo ?xq_NothingToUndo ?xf_NothingToUndo ?fn_GoneError ?xb_InvalidOperation ?xt_InvalidOperation ?xd_InvalidOperation ?xb_InvalidNumber ?xt_InvalidNumber ?xd_InvalidNumber ?xb_NothingToUndo ?xt_NothingToUndo ?xd_NothingToUndo ?s_InvalidOperation_InvalidOperation ?s_InvalidOperation_InvalidNumber ?s_InvalidOperation_NothingToUndo ?s_InvalidNumber_InvalidOperation ?s_InvalidNumber_InvalidNumber ?s_InvalidNumber_NothingToUndo ?s_NothingToUndo_InvalidOperation ?s_NothingToUndo_InvalidNumber ?s_NothingToUndo_NothingToUndo ?ga_InvalidNumber ?gg_InvalidNumber ?ga_NothingToUndo ?gg_NothingToUndo ?opq ?pg_Journal ?hd_Journal ?po_Journal ?sa_Journal ?mk_Journal ?kc_Journal ?ic_Journal ?im_Journal ?it_Journal_int ?it_Journal_str ?it_Journal_tuple ?na_Journal_own_done ?na_Journal_own_undone ?ig1 ?ig2 ?z_abs ?z_all ?z_bool ?z_int ?z_isinstance ?z_len ?z_list ?z_max ?z_min ?z_range ?z_str ?z_tuple ?z_zip ?z_super ?y_MAX_LETTERS ?y_LETTERS
    (case a_GoneError => first | k_is | rfl | ks_is | decide +kernel)
    (case a_InvalidOperation => first | k_is | rfl | ks_is | decide +kernel)
    (case a_InvalidNumber => first | k_is | rfl | ks_is | decide +kernel)
    (case a_NothingToUndo => first | k_is | rfl | ks_is | decide +kernel)
    (case a_Journal => first | k_is | rfl | ks_is | decide +kernel)
    (case a_is_name => first | k_is | rfl | ks_is | decide +kernel)
    (case l_is_name => first | k_is | rfl | ks_is | decide +kernel)
    (case c_is_name => first | k_is | rfl | ks_is | decide +kernel)
    (case k_is_name => first | k_is | rfl | ks_is | decide +kernel)
    (case a_is_number => first | k_is | rfl | ks_is | decide +kernel)
    (case l_is_number => first | k_is | rfl | ks_is | decide +kernel)
    (case c_is_number => first | k_is | rfl | ks_is | decide +kernel)
    (case k_is_number => first | k_is | rfl | ks_is | decide +kernel)
    (case a_is_plain => first | k_is | rfl | ks_is | decide +kernel)
    (case l_is_plain => first | k_is | rfl | ks_is | decide +kernel)
    (case c_is_plain => first | k_is | rfl | ks_is | decide +kernel)
    (case k_is_plain => first | k_is | rfl | ks_is | decide +kernel)
    (case a_require_many => first | k_is | rfl | ks_is | decide +kernel)
    (case l_require_many => first | k_is | rfl | ks_is | decide +kernel)
    (case c_require_many => first | k_is | rfl | ks_is | decide +kernel)
    (case k_require_many => first | k_is | rfl | ks_is | decide +kernel)
    (case a_Journal_init => first | k_is | rfl | ks_is | decide +kernel)
    (case n_Journal_init => first | k_is | rfl | ks_is | decide +kernel)
    (case l_Journal_init => first | k_is | rfl | ks_is | decide +kernel)
    (case c_Journal_init => first | k_is | rfl | ks_is | decide +kernel)
    (case k_Journal_init => first | k_is | rfl | ks_is | decide +kernel)
    (case a_Journal_log => first | k_is | rfl | ks_is | decide +kernel)
    (case g1_Journal_log => first | k_is | rfl | ks_is | decide +kernel)
    (case g2_Journal_log => first | k_is | rfl | ks_is | decide +kernel)
    (case g3_Journal_log => first | k_is | rfl | ks_is | decide +kernel)
    (case l_Journal_log => first | k_is | rfl | ks_is | decide +kernel)
    (case c_Journal_log => first | k_is | rfl | ks_is | decide +kernel)
    (case k_Journal_log => first | k_is | rfl | ks_is | decide +kernel)
    (case a_Journal_undone => first | k_is | rfl | ks_is | decide +kernel)
    (case g1_Journal_undone => first | k_is | rfl | ks_is | decide +kernel)
    (case g2_Journal_undone => first | k_is | rfl | ks_is | decide +kernel)
    (case g3_Journal_undone => first | k_is | rfl | ks_is | decide +kernel)
    (case l_Journal_undone => first | k_is | rfl | ks_is | decide +kernel)
    (case c_Journal_undone => first | k_is | rfl | ks_is | decide +kernel)
    (case k_Journal_undone => first | k_is | rfl | ks_is | decide +kernel)
    (case a_Journal_enter => first | k_is | rfl | ks_is | decide +kernel)
    (case n_Journal_enter => first | k_is | rfl | ks_is | decide +kernel)
    (case l_Journal_enter => first | k_is | rfl | ks_is | decide +kernel)
    (case c_Journal_enter => first | k_is | rfl | ks_is | decide +kernel)
    (case k_Journal_enter => first | k_is | rfl | ks_is | decide +kernel)
    (case a_Journal_undo => first | k_is | rfl | ks_is | decide +kernel)
    (case n_Journal_undo => first | k_is | rfl | ks_is | decide +kernel)
    (case l_Journal_undo => first | k_is | rfl | ks_is | decide +kernel)
    (case c_Journal_undo => first | k_is | rfl | ks_is | decide +kernel)
    (case k_Journal_undo => first | k_is | rfl | ks_is | decide +kernel)
    (case t_Journal_undo => first | k_is | rfl | ks_is | decide +kernel)
    (case a_Journal_redo => first | k_is | rfl | ks_is | decide +kernel)
    (case n_Journal_redo => first | k_is | rfl | ks_is | decide +kernel)
    (case l_Journal_redo => first | k_is | rfl | ks_is | decide +kernel)
    (case c_Journal_redo => first | k_is | rfl | ks_is | decide +kernel)
    (case k_Journal_redo => first | k_is | rfl | ks_is | decide +kernel)
    (case t_Journal_redo => first | k_is | rfl | ks_is | decide +kernel)
    (case a_law_dice => first | k_is | rfl | ks_is | decide +kernel)
    (case l_law_dice => first | k_is | rfl | ks_is | decide +kernel)
    (case c_law_dice => first | k_is | rfl | ks_is | decide +kernel)
    (case k_law_dice => first | k_is | rfl | ks_is | decide +kernel)
    (case a_law_roll => first | k_is | rfl | ks_is | decide +kernel)
    (case l_law_roll => first | k_is | rfl | ks_is | decide +kernel)
    (case c_law_roll => first | k_is | rfl | ks_is | decide +kernel)
    (case k_law_roll => first | k_is | rfl | ks_is | decide +kernel)
    (case a_law_pick => first | k_is | rfl | ks_is | decide +kernel)
    (case l_law_pick => first | k_is | rfl | ks_is | decide +kernel)
    (case c_law_pick => first | k_is | rfl | ks_is | decide +kernel)
    (case k_law_pick => first | k_is | rfl | ks_is | decide +kernel)
    (case a_law_mixed => first | k_is | rfl | ks_is | decide +kernel)
    (case l_law_mixed => first | k_is | rfl | ks_is | decide +kernel)
    (case c_law_mixed => first | k_is | rfl | ks_is | decide +kernel)
    (case k_law_mixed => first | k_is | rfl | ks_is | decide +kernel)
    (case a_law_word => first | k_is | rfl | ks_is | decide +kernel)
    (case l_law_word => first | k_is | rfl | ks_is | decide +kernel)
    (case c_law_word => first | k_is | rfl | ks_is | decide +kernel)
    (case k_law_word => first | k_is | rfl | ks_is | decide +kernel)
    (case a_law_deed => first | k_is | rfl | ks_is | decide +kernel)
    (case l_law_deed => first | k_is | rfl | ks_is | decide +kernel)
    (case c_law_deed => first | k_is | rfl | ks_is | decide +kernel)
    (case k_law_deed => first | k_is | rfl | ks_is | decide +kernel)
    (case a_law_done => first | k_is | rfl | ks_is | decide +kernel)
    (case l_law_done => first | k_is | rfl | ks_is | decide +kernel)
    (case c_law_done => first | k_is | rfl | ks_is | decide +kernel)
    (case k_law_done => first | k_is | rfl | ks_is | decide +kernel)
    (case a_law_is_plain => first | k_is | rfl | ks_is | decide +kernel)
    (case l_law_is_plain => first | k_is | rfl | ks_is | decide +kernel)
    (case c_law_is_plain => first | k_is | rfl | ks_is | decide +kernel)
    (case k_law_is_plain => first | k_is | rfl | ks_is | decide +kernel)
    (case a_law_is_step => first | k_is | rfl | ks_is | decide +kernel)
    (case l_law_is_step => first | k_is | rfl | ks_is | decide +kernel)
    (case c_law_is_step => first | k_is | rfl | ks_is | decide +kernel)
    (case k_law_is_step => first | k_is | rfl | ks_is | decide +kernel)
    (case a_law_due => first | k_is | rfl | ks_is | decide +kernel)
    (case l_law_due => first | k_is | rfl | ks_is | decide +kernel)
    (case c_law_due => first | k_is | rfl | ks_is | decide +kernel)
    (case k_law_due => first | k_is | rfl | ks_is | decide +kernel)
    (case a_law_alike => first | k_is | rfl | ks_is | decide +kernel)
    (case l_law_alike => first | k_is | rfl | ks_is | decide +kernel)
    (case c_law_alike => first | k_is | rfl | ks_is | decide +kernel)
    (case k_law_alike => first | k_is | rfl | ks_is | decide +kernel)
    (case a_law => first | k_is | rfl | ks_is | decide +kernel)
    (case l_law => first | k_is | rfl | ks_is | decide +kernel)
    (case c_law => first | k_is | rfl | ks_is | decide +kernel)
    (case k_law => first | k_is | rfl | ks_is | decide +kernel)
    (case i_GoneError => first | k_is | rfl | ks_is | decide +kernel)
    (case l_GoneError => first | k_is | rfl | ks_is | decide +kernel)
    (case c_GoneError => first | k_is | rfl | ks_is | decide +kernel)
    (case k_GoneError => first | k_is | rfl | ks_is | decide +kernel)
    (case d_GoneError => first | k_is | rfl | ks_is | decide +kernel)
    (case v_GoneError => first | k_is | rfl | ks_is | decide +kernel)
    (case qf_GoneError => first | k_is | rfl | ks_is | decide +kernel)
    (case e_GoneError => first | k_is | rfl | ks_is | decide +kernel)
    (case h_GoneError => first | k_is | rfl | ks_is | decide +kernel)
    (case y_GoneError => first | k_is | rfl | ks_is | decide +kernel)
    (case i_InvalidNumber => first | k_is | rfl | ks_is | decide +kernel)
    (case l_InvalidNumber => first | k_is | rfl | ks_is | decide +kernel)
    (case c_InvalidNumber => first | k_is | rfl | ks_is | decide +kernel)
    (case k_InvalidNumber => first | k_is | rfl | ks_is | decide +kernel)
    (case d_InvalidNumber => first | k_is | rfl | ks_is | decide +kernel)
    (case v_InvalidNumber => first | k_is | rfl | ks_is | decide +kernel)
    (case qf_InvalidNumber => first | k_is | rfl | ks_is | decide +kernel)
    (case e_InvalidNumber => first | k_is | rfl | ks_is | decide +kernel)
    (case h_InvalidNumber => first | k_is | rfl | ks_is | decide +kernel)
    (case y_InvalidNumber => first | k_is | rfl | ks_is | decide +kernel)
    (case i_NothingToUndo => first | k_is | rfl | ks_is | decide +kernel)
    (case l_NothingToUndo => first | k_is | rfl | ks_is | decide +kernel)
    (case c_NothingToUndo => first | k_is | rfl | ks_is | decide +kernel)
    (case k_NothingToUndo => first | k_is | rfl | ks_is | decide +kernel)
    (case d_NothingToUndo => first | k_is | rfl | ks_is | decide +kernel)
    (case v_NothingToUndo => first | k_is | rfl | ks_is | decide +kernel)
    (case qf_NothingToUndo => first | k_is | rfl | ks_is | decide +kernel)
    (case e_NothingToUndo => first | k_is | rfl | ks_is | decide +kernel)
    (case h_NothingToUndo => first | k_is | rfl | ks_is | decide +kernel)
    (case y_NothingToUndo => first | k_is | rfl | ks_is | decide +kernel)
    (case xo_InvalidOperation => first | k_is | rfl | ks_is | decide +kernel)
    (case xr_InvalidOperation => first | k_is | rfl | ks_is | decide +kernel)
    (case xs_InvalidOperation => first | k_is | rfl | ks_is | decide +kernel)
    (case xk_InvalidOperation => first | k_is | rfl | ks_is | decide +kernel)
    (case xn_InvalidOperation => first | k_is | rfl | ks_is | decide +kernel)
    (case xv_InvalidOperation => first | k_is | rfl | ks_is | decide +kernel)
    (case xm_InvalidOperation => first | k_is | rfl | ks_is | decide +kernel)
    (case i_InvalidOperation => first | k_is | rfl | ks_is | decide +kernel)
    (case xo_InvalidNumber => first | k_is | rfl | ks_is | decide +kernel)
    (case xr_InvalidNumber => first | k_is | rfl | ks_is | decide +kernel)
    (case xs_InvalidNumber => first | k_is | rfl | ks_is | decide +kernel)
    (case xk_InvalidNumber => first | k_is | rfl | ks_is | decide +kernel)
    (case xn_InvalidNumber => first | k_is | rfl | ks_is | decide +kernel)
    (case xv_InvalidNumber => first | k_is | rfl | ks_is | decide +kernel)
    (case xm_InvalidNumber => first | k_is | rfl | ks_is | decide +kernel)
    (case xp_InvalidNumber => first | k_is | rfl | ks_is | decide +kernel)
    (case xq_InvalidNumber => first | k_is | rfl | ks_is | decide +kernel)
    (case xf_InvalidNumber => first | k_is | rfl | ks_is | decide +kernel)
    (case xo_NothingToUndo => first | k_is | rfl | ks_is | decide +kernel)
    (case xr_NothingToUndo => first | k_is | rfl | ks_is | decide +kernel)
    (case xs_NothingToUndo => first | k_is | rfl | ks_is | decide +kernel)
    (case xk_NothingToUndo => first | k_is | rfl | ks_is | decide +kernel)
    (case xn_NothingToUndo => first | k_is | rfl | ks_is | decide +kernel)
    (case xv_NothingToUndo => first | k_is | rfl | ks_is | decide +kernel)
    (case xm_NothingToUndo => first | k_is | rfl | ks_is | decide +kernel)
    (case xp_NothingToUndo => first | k_is | rfl | ks_is | decide +kernel)
    (case xq_NothingToUndo => first | k_is | rfl | ks_is | decide +kernel)
    (case xf_NothingToUndo => first | k_is | rfl | ks_is | decide +kernel)
    (case fn_GoneError => first | k_is | rfl | ks_is | decide +kernel)
    (case xb_InvalidOperation => first | k_is | rfl | ks_is | decide +kernel)
    (case xt_InvalidOperation => first | k_is | rfl | ks_is | decide +kernel)
    (case xd_InvalidOperation => first | k_is | rfl | ks_is | decide +kernel)
    (case xb_InvalidNumber => first | k_is | rfl | ks_is | decide +kernel)
    (case xt_InvalidNumber => first | k_is | rfl | ks_is | decide +kernel)
    (case xd_InvalidNumber => first | k_is | rfl | ks_is | decide +kernel)
    (case xb_NothingToUndo => first | k_is | rfl | ks_is | decide +kernel)
    (case xt_NothingToUndo => first | k_is | rfl | ks_is | decide +kernel)
    (case xd_NothingToUndo => first | k_is | rfl | ks_is | decide +kernel)
    (case s_InvalidOperation_InvalidOperation => first | k_is | rfl | ks_is | decide +kernel)
    (case s_InvalidOperation_InvalidNumber => first | k_is | rfl | ks_is | decide +kernel)
    (case s_InvalidOperation_NothingToUndo => first | k_is | rfl | ks_is | decide +kernel)
    (case s_InvalidNumber_InvalidOperation => first | k_is | rfl | ks_is | decide +kernel)
    (case s_InvalidNumber_InvalidNumber => first | k_is | rfl | ks_is | decide +kernel)
    (case s_InvalidNumber_NothingToUndo => first | k_is | rfl | ks_is | decide +kernel)
    (case s_NothingToUndo_InvalidOperation => first | k_is | rfl | ks_is | decide +kernel)
    (case s_NothingToUndo_InvalidNumber => first | k_is | rfl | ks_is | decide +kernel)
    (case s_NothingToUndo_NothingToUndo => first | k_is | rfl | ks_is | decide +kernel)
    (case ga_InvalidNumber => first | k_is | rfl | ks_is | decide +kernel)
    (case gg_InvalidNumber => first | k_is | rfl | ks_is | decide +kernel)
    (case ga_NothingToUndo => first | k_is | rfl | ks_is | decide +kernel)
    (case gg_NothingToUndo => first | k_is | rfl | ks_is | decide +kernel)
    (case opq => first | k_is | rfl | ks_is | decide +kernel)
    (case pg_Journal => first | k_is | rfl | ks_is | decide +kernel)
    (case hd_Journal => first | k_is | rfl | ks_is | decide +kernel)
    (case po_Journal => first | k_is | rfl | ks_is | decide +kernel)
    (case sa_Journal => first | k_is | rfl | ks_is | decide +kernel)
    (case mk_Journal => first | k_is | rfl | ks_is | decide +kernel)
    (case kc_Journal => first | k_is | rfl | ks_is | decide +kernel)
    (case ic_Journal => first | k_is | rfl | ks_is | decide +kernel)
    (case im_Journal => first | k_is | rfl | ks_is | decide +kernel)
    (case it_Journal_int => first | k_is | rfl | ks_is | decide +kernel)
    (case it_Journal_str => first | k_is | rfl | ks_is | decide +kernel)
    (case it_Journal_tuple => first | k_is | rfl | ks_is | decide +kernel)
    (case na_Journal_own_done => first | k_is | rfl | ks_is | decide +kernel)
    (case na_Journal_own_undone => first | k_is | rfl | ks_is | decide +kernel)
    (case ig1 => first | k_is | rfl | ks_is | decide +kernel)
    (case ig2 => first | k_is | rfl | ks_is | decide +kernel)
    (case z_abs => first | k_is | rfl | ks_is | decide +kernel)
    (case z_all => first | k_is | rfl | ks_is | decide +kernel)
    (case z_bool => first | k_is | rfl | ks_is | decide +kernel)
    (case z_int => first | k_is | rfl | ks_is | decide +kernel)
    (case z_isinstance => first | k_is | rfl | ks_is | decide +kernel)
    (case z_len => first | k_is | rfl | ks_is | decide +kernel)
    (case z_list => first | k_is | rfl | ks_is | decide +kernel)
    (case z_max => first | k_is | rfl | ks_is | decide +kernel)
    (case z_min => first | k_is | rfl | ks_is | decide +kernel)
    (case z_range => first | k_is | rfl | ks_is | decide +kernel)
    (case z_str => first | k_is | rfl | ks_is | decide +kernel)
    (case z_tuple => first | k_is | rfl | ks_is | decide +kernel)
    (case z_zip => first | k_is | rfl | ks_is | decide +kernel)
    (case z_super => first | k_is | rfl | ks_is | decide +kernel)
    (case y_MAX_LETTERS => first | k_is | rfl | ks_is | decide +kernel)
    (case y_LETTERS => first | k_is | rfl | ks_is | decide +kernel)
#print axioms PySem.Challenge.cw_gonewithin_k71_journals_holds

