import PyProof.Rows.All
import Wide.All
import OpenK.AllK
import Wide.FinOn
import HandS.ForMost
import HandS.ForExc
import HandS.Wide
import HandS.IsInst
import HandS.Flow
import HandS.Style
import HandS.CallSlots
import HandS.Deep
import PySem.Challenge.RW_gonewithin_k01_names_integers_terms_rows
set_option Elab.async false
set_option linter.all false
set_option maxRecDepth 100000
set_option maxHeartbeats 4000000
/-! A mirror layer: values by themselves (Val), a small state monad, and what ties both to the hand layer's readings. -/
namespace Mir
open PySem PySem.Spec PyProof.Rows L2

/-! ### values -/
inductive Val where
  | non | bl (b : Bool) | int (i : Int) | str (s : Str)
  | tup (vs : List Val) | lst (vs : List Val) | fz (vs : List Val)
  | dct (kvs : List (Val × Val))
  | obj (c : Nat) (fs : List (Nat × Val))
  | ref (a : Nat)
abbrev Fld := List (Nat × Val)
inductive Cell where
  | lst (vs : List Val) | ins (c : Nat) (fs : Fld) | dct (kvs : List (Val × Val))
inductive SV where
  | un | val (v : Val) | own (c : Cell)
abbrev MEnv := List SV
abbrev MHp := List Cell
inductive RE (α : Type) where
  | ok (a : α) (ρ : MEnv) (h : MHp) | exc (c : Nat) (fs : Fld) (ρ : MEnv) (h : MHp) | fail
abbrev EM (α : Type) := MEnv → MHp → RE α
def EM.pure {α : Type} (a : α) : EM α := fun ρ h => .ok a ρ h
def EM.bind {α β : Type} (m : EM α) (f : α → EM β) : EM β := fun ρ h =>
  match m ρ h with
  | .ok a ρ' h' => f a ρ' h'
  | .exc c fs ρ' h' => .exc c fs ρ' h'
  | .fail => .fail
def EM.lift {α : Type} (o : Option α) : EM α := fun ρ h => match o with
  | some a => .ok a ρ h
  | none => .fail
inductive Fl where
  | next | ret (v : Val) | brk | cont

/-- the fragment, the classes' addresses, the names of attributes -/
structure Ctx where
  CT : Nat → Addr
  nm : Nat → Str

/-- keys of plain dicts -/
inductive KyR : Val → Key → Prop
  | int (i : Int) : KyR (.int i) (.inl i)
  | str (s : Str) : KyR (.str s) (.inr s)
inductive KysR : List Val → List Key → Prop
  | nil : KysR [] []
  | cons {v k vs ks} : KyR v k → KysR vs ks → KysR (v :: vs) (k :: ks)

section
variable (K : PySem.W.Frag) (c : Ctx) (G : Hp) (ι : List Addr)
mutual
inductive VR : Val → V → Prop
  | non : VR .non .non
  | bl (b : Bool) : VR (.bl b) (.bl b)
  | int (i : Int) : VR (.int i) (.int i)
  | str (s : Str) : VR (.str s) (.str s)
  | tup {p xs vs} : SqT K G p xs → VRs vs xs → VR (.tup vs) (.ref p)
  | lst {p xs vs} : G p = some (.lst xs) → VRs vs xs → VR (.lst vs) (.ref p)
  | fz {p xs vs} : SqL K G p xs → VRs vs xs → VR (.fz vs) (.ref p)
  | dct {p xs kvs} : G p = some (.dK xs) → KVRs kvs xs → VR (.dct kvs) (.ref p)
  | obj {C fs p dx xs} : G p = some (.ins (c.CT C) dx xs) → FRs fs xs → VR (.obj C fs) (.ref p)
  | ref {a p} : ι[a]? = some p → VR (.ref a) (.ref p)
inductive VRs : List Val → List V → Prop
  | nil : VRs [] []
  | cons {v x vs xs} : VR v x → VRs vs xs → VRs (v :: vs) (x :: xs)
inductive FRs : Fld → List (Str × V) → Prop
  | nil : FRs [] []
  | cons {n v x r xs} : VR v x → FRs r xs → FRs ((n, v) :: r) ((c.nm n, x) :: xs)
inductive KVRs : List (Val × Val) → List (Key × V) → Prop
  | nil : KVRs [] []
  | cons {k v q x r xs} : KyR k q → VR v x → KVRs r xs → KVRs ((k, v) :: r) ((q, x) :: xs)
end
end

def Hle (G G' : Hp) : Prop := ∀ p o, G p = some o → G' p = some o
theorem Hle.refl (G : Hp) : Hle G G := fun _ _ h => h
theorem Hle.trans {G G1 G2 : Hp} (a : Hle G G1) (b : Hle G1 G2) : Hle G G2 := fun p o h => b p o (a p o h)
theorem Hle.new {G : Hp} {p : Addr} {o : HO} (h : G p = none) : Hle G (upd G p o) := fun b u e => by
  rw [upd_ne (ne_of_none e h)]; exact e
theorem Hle.free {G G' : Hp} {p : Addr} (e : Hle G G') (h : G' p = none) : G p = none := by
  cases q : G p with
  | none => rfl
  | some o => rw [e p o q] at h; cases h
theorem Hle.rd {G G' : Hp} {p : Addr} {u : HO} (e : Hle G G') (h : Rd G p u) : Rd G' p u := by
  rcases h with h | ⟨o, h⟩
  · exact .inl (e _ _ h)
  · exact .inr ⟨o, e _ _ h⟩
theorem Hle.sqT {K : PySem.W.Frag} {G G' : Hp} {p : Addr} {xs : List V} (e : Hle G G') (h : SqT K G p xs) : SqT K G' p xs := h.imp e.rd id
theorem Hle.sqL {K : PySem.W.Frag} {G G' : Hp} {p : Addr} {xs : List V} (e : Hle G G') (h : SqL K G p xs) : SqL K G' p xs := h.imp e.rd id
def Ile (ι ι' : List Addr) : Prop := ∃ r, ι' = ι ++ r
theorem Ile.refl (ι : List Addr) : Ile ι ι := ⟨[], by simp⟩
theorem Ile.trans {a b d : List Addr} (x : Ile a b) (y : Ile b d) : Ile a d := by
  obtain ⟨r, rfl⟩ := x; obtain ⟨s, rfl⟩ := y; exact ⟨r ++ s, by simp⟩
theorem Ile.get {ι ι' : List Addr} (x : Ile ι ι') {a : Nat} {p : Addr} (h : ι[a]? = some p) : ι'[a]? = some p := by
  obtain ⟨r, rfl⟩ := x
  rw [List.getElem?_append_left (List.getElem?_eq_some_iff.mp h).1]; exact h
theorem Ile.mem {ι ι' : List Addr} (x : Ile ι ι') {p : Addr} (h : p ∈ ι) : p ∈ ι' := by
  obtain ⟨r, rfl⟩ := x; exact List.mem_append_left _ h

section
variable {K : PySem.W.Frag} {c : Ctx} {G G' : Hp} {ι ι' : List Addr}
mutual
theorem VR.mono (hG : Hle G G') (hι : Ile ι ι') : ∀ {v x}, VR K c G ι v x → VR K c G' ι' v x
  | _, _, .non => .non
  | _, _, .bl b => .bl b
  | _, _, .int i => .int i
  | _, _, .str s => .str s
  | _, _, .tup h r => .tup (hG.sqT h) (VRs.mono hG hι r)
  | _, _, .lst h r => .lst (hG _ _ h) (VRs.mono hG hι r)
  | _, _, .fz h r => .fz (hG.sqL h) (VRs.mono hG hι r)
  | _, _, .dct h r => .dct (hG _ _ h) (KVRs.mono hG hι r)
  | _, _, .obj h r => .obj (hG _ _ h) (FRs.mono hG hι r)
  | _, _, .ref h => .ref (hι.get h)
theorem VRs.mono (hG : Hle G G') (hι : Ile ι ι') : ∀ {vs xs}, VRs K c G ι vs xs → VRs K c G' ι' vs xs
  | _, _, .nil => .nil
  | _, _, .cons h r => .cons (VR.mono hG hι h) (VRs.mono hG hι r)
theorem FRs.mono (hG : Hle G G') (hι : Ile ι ι') : ∀ {vs xs}, FRs K c G ι vs xs → FRs K c G' ι' vs xs
  | _, _, .nil => .nil
  | _, _, .cons h r => .cons (VR.mono hG hι h) (FRs.mono hG hι r)
theorem KVRs.mono (hG : Hle G G') (hι : Ile ι ι') : ∀ {vs xs}, KVRs K c G ι vs xs → KVRs K c G' ι' vs xs
  | _, _, .nil => .nil
  | _, _, .cons k h r => .cons k (VR.mono hG hι h) (KVRs.mono hG hι r)
end
theorem VRs.length : ∀ {vs xs}, VRs K c G ι vs xs → vs.length = xs.length
  | _, _, .nil => rfl
  | _, _, .cons _ r => by simp [VRs.length r]
theorem VRs.get : ∀ {vs xs} {i : Nat} {v}, VRs K c G ι vs xs → vs[i]? = some v → ∃ x, xs[i]? = some x ∧ VR K c G ι v x
  | _, _, _, _, .nil, h => by simp at h
  | _, _, 0, _, .cons r _, h => by simp at h; subst h; exact ⟨_, rfl, r⟩
  | _, _, i + 1, _, .cons _ r, h => by
    obtain ⟨x, h1, h2⟩ := VRs.get (i := i) r (by simpa using h)
    exact ⟨x, by simpa using h1, h2⟩
theorem VRs.get' : ∀ {vs xs} {i : Nat} {x}, VRs K c G ι vs xs → xs[i]? = some x → ∃ v, vs[i]? = some v ∧ VR K c G ι v x
  | _, _, _, _, .nil, h => by simp at h
  | _, _, 0, _, .cons r _, h => by simp at h; subst h; exact ⟨_, rfl, r⟩
  | _, _, i + 1, _, .cons _ r, h => by
    obtain ⟨x, h1, h2⟩ := VRs.get' (i := i) r (by simpa using h)
    exact ⟨x, by simpa using h1, h2⟩
theorem VRs.append : ∀ {vs xs ws ys}, VRs K c G ι vs xs → VRs K c G ι ws ys → VRs K c G ι (vs ++ ws) (xs ++ ys)
  | _, _, _, _, .nil, s => s
  | _, _, _, _, .cons r t, s => .cons r (VRs.append t s)
theorem VRs.take : ∀ {vs xs} (n : Nat), VRs K c G ι vs xs → VRs K c G ι (vs.take n) (xs.take n)
  | _, _, 0, _ => .nil
  | _, _, _ + 1, .nil => .nil
  | _, _, n + 1, .cons r t => .cons r (VRs.take n t)
theorem VRs.drop : ∀ {vs xs} (n : Nat), VRs K c G ι vs xs → VRs K c G ι (vs.drop n) (xs.drop n)
  | _, _, 0, r => r
  | _, _, _ + 1, .nil => .nil
  | _, _, n + 1, .cons _ t => VRs.drop n t
theorem VRs.set {v x} (r : VR K c G ι v x) : ∀ {vs xs} (i : Nat), VRs K c G ι vs xs → VRs K c G ι (vs.set i v) (xs.set i x)
  | _, _, _, .nil => .nil
  | _, _, 0, .cons _ t => .cons r t
  | _, _, i + 1, .cons q t => .cons q (VRs.set r i t)
theorem VRs.eraseIdx : ∀ {vs xs} (i : Nat), VRs K c G ι vs xs → VRs K c G ι (vs.eraseIdx i) (xs.eraseIdx i)
  | _, _, _, .nil => .nil
  | _, _, 0, .cons _ t => t
  | _, _, i + 1, .cons q t => .cons q (VRs.eraseIdx i t)
theorem VRs.reverse : ∀ {vs xs}, VRs K c G ι vs xs → VRs K c G ι vs.reverse xs.reverse
  | _, _, .nil => .nil
  | _, _, .cons r t => by
    simp only [List.reverse_cons]
    exact (VRs.reverse t).append (.cons r .nil)
theorem VRs.ints {ns : List Int} : VRs K c G ι (ns.map .int) (ns.map V.int) := by
  induction ns with
  | nil => exact .nil
  | cons n ns ih => exact .cons (.int n) ih
end

/-! ### states -/
/-- what stands at a mirrored cell -/
def CR (K : PySem.W.Frag) (c : Ctx) (G : Hp) (ι : List Addr) (H : Hp) (p : Addr) : Cell → Prop
  | .lst vs => ∃ xs, H p = some (.lst xs) ∧ VRs K c G ι vs xs
  | .ins C fs => ∃ dx xs, H p = some (.ins (c.CT C) dx xs) ∧ FRs K c G ι fs xs
  | .dct kvs => ∃ xs, H p = some (.dK xs) ∧ KVRs K c G ι kvs xs
theorem CR.mono {K : PySem.W.Frag} {c : Ctx} {G G' H H' : Hp} {ι ι' : List Addr} {p : Addr} {cl : Cell} (hG : Hle G G') (hι : Ile ι ι') (hp : ∀ o, H p = some o → H' p = some o) (h : CR K c G ι H p cl) : CR K c G' ι' H' p cl := by
  cases cl with
  | lst vs => obtain ⟨xs, a, r⟩ := h; exact ⟨xs, hp _ a, r.mono hG hι⟩
  | ins C fs => obtain ⟨dx, xs, a, r⟩ := h; exact ⟨dx, xs, hp _ a, r.mono hG hι⟩
  | dct kvs => obtain ⟨xs, a, r⟩ := h; exact ⟨xs, hp _ a, r.mono hG hι⟩
theorem CR.some {K : PySem.W.Frag} {c : Ctx} {G H : Hp} {ι : List Addr} {p : Addr} {cl : Cell} (h : CR K c G ι H p cl) : ∃ o, H p = some o := by
  cases cl with
  | lst vs => obtain ⟨xs, a, r⟩ := h; exact ⟨_, a⟩
  | ins C fs => obtain ⟨dx, xs, a, r⟩ := h; exact ⟨_, a⟩
  | dct kvs => obtain ⟨xs, a, r⟩ := h; exact ⟨_, a⟩

/-- the mirrored heap -/
structure Stc (K : PySem.W.Frag) (c : Ctx) (G : Hp) (ι : List Addr) (h : MHp) (H : Hp) : Prop where
  le : Hle G H
  len : ι.length = h.length
  nd : ι.Nodup
  out : ∀ p ∈ ι, G p = none
  cell : ∀ (i : Nat) p cl, ι[i]? = some p → h[i]? = some cl → CR K c G ι H p cl

structure Bas where
  G : Hp
  ι : List Addr
  H : Hp

/-- one slot -/
def SR (K : PySem.W.Frag) (c : Ctx) (B : Bas) (G : Hp) (ι : List Addr) (H : Hp) : SV → Option V → Prop
  | .un, _ => True
  | .val v, x => ∃ y, x = some y ∧ VR K c G ι v y
  | .own cl, x => ∃ p, x = some (.ref p) ∧ G p = none ∧ p ∉ ι ∧ B.H p = none ∧ CR K c G ι H p cl
structure St (K : PySem.W.Frag) (c : Ctx) (B : Bas) (G : Hp) (ι : List Addr) (h : MHp) (H : Hp) (ρ : MEnv) (σ : L2.St) : Prop where
  st : Stc K c G ι h H
  env : ∀ (i : Nat) sv, ρ[i]? = some sv → ∃ x, σ[i]? = some x ∧ SR K c B G ι H sv x
  dis : ∀ (i j : Nat) c1 c2 p, ρ[i]? = some (.own c1) → ρ[j]? = some (.own c2) → σ[i]? = some (some (.ref p)) → σ[j]? = some (some (.ref p)) → i = j
  b1 : ∀ p o, B.H p = some o → p ∉ B.ι → H p = some o
  b2 : ∀ q ∈ ι, q ∈ B.ι ∨ B.H q = none
  b3 : ∀ p o, G p = some o → B.G p = some o ∨ B.H p = none
  b4 : Ile B.ι ι
  b5 : Hle B.G G

section
variable {K : PySem.W.Frag} {c : Ctx} {B : Bas} {G G' : Hp} {ι ι' : List Addr} {h h' : MHp} {H H' : Hp} {ρ ρ' : MEnv} {σ σ' : L2.St}
theorem Stc.cellOf (S : Stc K c G ι h H) {q : Addr} (hq : q ∈ ι) : ∃ (i : Nat) (cl : Cell), ι[i]? = some q ∧ h[i]? = some cl ∧ CR K c G ι H q cl := by
  obtain ⟨i, hi, e⟩ := List.mem_iff_getElem.mp hq
  have e1 : ι[i]? = some q := by rw [List.getElem?_eq_getElem hi, e]
  have hl : i < h.length := by rw [← S.len]; exact hi
  exact ⟨i, h[i], e1, List.getElem?_eq_getElem hl, S.cell i q _ e1 (List.getElem?_eq_getElem hl)⟩
theorem Stc.notIn (S : Stc K c G ι h H) {p : Addr} (hp : H p = none) : p ∉ ι := fun hm => by
  obtain ⟨i, cl, _, _, r⟩ := S.cellOf hm
  obtain ⟨o, e⟩ := r.some
  rw [hp] at e; cases e
theorem SR.mono (hG : Hle G G') (hι : Ile ι ι') (hH : ∀ p o, G p = none → p ∉ ι → B.H p = none → H p = some o → H' p = some o ∧ G' p = none ∧ p ∉ ι') {sv : SV} {x : Option V} (r : SR K c B G ι H sv x) : SR K c B G' ι' H' sv x := by
  cases sv with
  | un => trivial
  | val v => obtain ⟨y, e, q⟩ := r; exact ⟨y, e, q.mono hG hι⟩
  | own cl =>
    obtain ⟨p, e, g, n, b, q⟩ := r
    obtain ⟨o, ho⟩ := q.some
    obtain ⟨_, a2, a3⟩ := hH p o g n b ho
    exact ⟨p, e, a2, a3, b, q.mono hG hι fun o ho => (hH p o g n b ho).1⟩
/-- a new object, known by value -/
theorem St.new (S : St K c B G ι h H ρ σ) {p : Addr} {o : HO} (hp : H p = none) : St K c B (upd G p o) ι h (upd H p o) ρ σ := by
  have gp : G p = none := S.st.le.free hp
  have nn : p ∉ ι := S.st.notIn hp
  have hle : Hle G (upd G p o) := Hle.new gp
  have up : ∀ q u, H q = some u → upd H p o q = some u := fun q u e => by rw [upd_ne (ne_of_none e hp)]; exact e
  have bp : B.H p = none ∨ p ∈ B.ι := by
    cases q : B.H p with
    | none => exact .inl rfl
    | some u =>
      by_cases m : p ∈ B.ι
      · exact .inr m
      · have := S.b1 p u q m
        rw [hp] at this; cases this
  have bp' : B.H p = none := by
    rcases bp with z | z
    · exact z
    · exact (nn (S.b4.mem z)).elim
  refine ⟨⟨fun q u e => ?_, S.st.len, S.st.nd, fun q hq => ?_, fun i q cl h1 h2 => ?_⟩, fun i sv hi => ?_, S.dis, fun q u e n => up q u (S.b1 q u e n), S.b2, fun q u e => ?_, S.b4, S.b5.trans hle⟩
  · by_cases z : q = p
    · subst z; rw [upd_same] at e ⊢; exact e
    · rw [upd_ne z] at e ⊢; exact S.st.le q u e
  · rw [upd_ne (fun (z : q = p) => nn (by rw [← z]; exact hq))]; exact S.st.out q hq
  · exact (S.st.cell i q cl h1 h2).mono hle (Ile.refl _) fun u e => up q u e
  · obtain ⟨x, e1, r⟩ := S.env i sv hi
    refine ⟨x, e1, r.mono hle (Ile.refl _) fun q u g n b e => ⟨up q u e, ?_, n⟩⟩
    rw [upd_ne (ne_of_none e hp)]; exact g
  · by_cases z : q = p
    · subst z; exact .inr bp'
    · rw [upd_ne z] at e; exact S.b3 q u e
/-- a new object, not known -/
theorem St.new' (S : St K c B G ι h H ρ σ) {p : Addr} {o : HO} (hp : H p = none) : St K c B G ι h (upd H p o) ρ σ := by
  have up : ∀ q u, H q = some u → upd H p o q = some u := fun q u e => by rw [upd_ne (ne_of_none e hp)]; exact e
  refine ⟨⟨fun q u e => up q u (S.st.le q u e), S.st.len, S.st.nd, S.st.out, fun i q cl h1 h2 => ?_⟩, fun i sv hi => ?_, S.dis, fun q u e n => up q u (S.b1 q u e n), S.b2, S.b3, S.b4, S.b5⟩
  · exact (S.st.cell i q cl h1 h2).mono (Hle.refl _) (Ile.refl _) fun u e => up q u e
  · obtain ⟨x, e1, r⟩ := S.env i sv hi
    exact ⟨x, e1, r.mono (Hle.refl _) (Ile.refl _) fun q u g n b e => ⟨up q u e, g, n⟩⟩
end
section
variable {K : PySem.W.Frag} {c : Ctx} {G : Hp} {ι : List Addr} {x : V}
theorem VR.nonE (r : VR K c G ι .non x) : x = .non := by cases r; rfl
theorem VR.blE {b} (r : VR K c G ι (.bl b) x) : x = .bl b := by cases r; rfl
theorem VR.intE {i} (r : VR K c G ι (.int i) x) : x = .int i := by cases r; rfl
theorem VR.strE {s} (r : VR K c G ι (.str s) x) : x = .str s := by cases r; rfl
theorem VR.tupE {vs} (r : VR K c G ι (.tup vs) x) : ∃ p xs, x = .ref p ∧ SqT K G p xs ∧ VRs K c G ι vs xs := by cases r; exact ⟨_, _, rfl, by assumption, by assumption⟩
theorem VR.lstE {vs} (r : VR K c G ι (.lst vs) x) : ∃ p xs, x = .ref p ∧ G p = some (.lst xs) ∧ VRs K c G ι vs xs := by cases r; exact ⟨_, _, rfl, by assumption, by assumption⟩
theorem VR.fzE {vs} (r : VR K c G ι (.fz vs) x) : ∃ p xs, x = .ref p ∧ SqL K G p xs ∧ VRs K c G ι vs xs := by cases r; exact ⟨_, _, rfl, by assumption, by assumption⟩
theorem VR.dctE {vs} (r : VR K c G ι (.dct vs) x) : ∃ p xs, x = .ref p ∧ G p = some (.dK xs) ∧ KVRs K c G ι vs xs := by cases r; exact ⟨_, _, rfl, by assumption, by assumption⟩
theorem VR.objE {C fs} (r : VR K c G ι (.obj C fs) x) : ∃ p dx xs, x = .ref p ∧ G p = some (.ins (c.CT C) dx xs) ∧ FRs K c G ι fs xs := by cases r; exact ⟨_, _, _, rfl, by assumption, by assumption⟩
theorem VR.refE {a} (r : VR K c G ι (.ref a) x) : ∃ p, x = .ref p ∧ ι[a]? = some p := by cases r; exact ⟨_, rfl, by assumption⟩
theorem VRs.consE {v vs xs} (r : VRs K c G ι (v :: vs) xs) : ∃ x ys, xs = x :: ys ∧ VR K c G ι v x ∧ VRs K c G ι vs ys := by cases r; exact ⟨_, _, rfl, by assumption, by assumption⟩
theorem VRs.nilE {xs} (r : VRs K c G ι [] xs) : xs = [] := by cases r; rfl
end
end Mir

set_option Elab.async false
set_option linter.all false
set_option maxRecDepth 100000
set_option maxHeartbeats 4000000
namespace Mir
open PySem PySem.Spec PyProof.Rows L2

/-- a value as it stands in H: the container itself may be one that changes later -/
def VH (K : PySem.W.Frag) (c : Ctx) (G : Hp) (ι : List Addr) (H : Hp) : Val → V → Prop
  | .lst vs, x => ∃ p xs, x = .ref p ∧ H p = some (.lst xs) ∧ VRs K c G ι vs xs
  | .dct vs, x => ∃ p xs, x = .ref p ∧ H p = some (.dK xs) ∧ KVRs K c G ι vs xs
  | v, x => VR K c G ι v x
theorem VR.toH {K : PySem.W.Frag} {c : Ctx} {G H : Hp} {ι : List Addr} (hG : Hle G H) {v : Val} {x : V} (r : VR K c G ι v x) : VH K c G ι H v x := by
  cases v with
  | lst vs => obtain ⟨p, xs, e, a, b⟩ := r.lstE; exact ⟨p, xs, e, hG _ _ a, b⟩
  | dct vs => obtain ⟨p, xs, e, a, b⟩ := r.dctE; exact ⟨p, xs, e, hG _ _ a, b⟩
  | _ => exact r
inductive VHs (K : PySem.W.Frag) (c : Ctx) (G : Hp) (ι : List Addr) (H : Hp) : List Val → List V → Prop
  | nil : VHs K c G ι H [] []
  | cons {v x vs xs} : VH K c G ι H v x → VHs K c G ι H vs xs → VHs K c G ι H (v :: vs) (x :: xs)
theorem VRs.toH {K : PySem.W.Frag} {c : Ctx} {G H : Hp} {ι : List Addr} (hG : Hle G H) : ∀ {vs : List Val} {xs : List V}, VRs K c G ι vs xs → VHs K c G ι H vs xs
  | _, _, .nil => .nil
  | _, _, .cons r t => .cons (r.toH hG) (VRs.toH hG t)

/-! ### what is wanted behind a mirrored computation -/
abbrev RelT (α β : Type) := Hp → List Addr → α → β → Prop
def XR (K : PySem.W.Frag) (c : Ctx) (G : Hp) (ι : List Addr) (H : Hp) (C : Nat) (fs : Fld) (cls : Value) (d : Option Addr) : Prop :=
  cls = .ref (c.CT C) ∧ match d with
    | none => fs = []
    | some dd => ∃ xs, H dd = some (.xd xs) ∧ FRs K c G ι fs xs

section
variable (K : PySem.W.Frag) (c : Ctx)
def Post {α β : Type} (R : RelT α β) (E : WX) (B : Bas) (G : Hp) (ι : List Addr) (σ : L2.St) (r : RE α) (Q : β → Hp → Prop) : Prop :=
  match r with
  | .ok v ρ' h' => ∀ G' ι' H' x, Hle G G' → Ile ι ι' → St K c B G' ι' h' H' ρ' σ → R G' ι' v x → Q x H'
  | .exc C fs ρ' h' => ∀ G' ι' H' cls d, Hle G G' → Ile ι ι' → St K c B G' ι' h' H' ρ' σ → XR K c G' ι' H' C fs cls d → E cls d σ H'
  | .fail => False
/-- a reading is followed by its mirror -/
def Sim {α β : Type} (R : RelT α β) (E : WX) (te : L2.St → Hp → (β → Hp → Prop) → Prop) (m : EM α) : Prop :=
  ∀ B G ι h H ρ σ Q, St K c B G ι h H ρ σ → Post K c R E B G ι σ (m ρ h) Q → te σ H Q
abbrev RV : RelT Val V := VR K c
abbrev RVs : RelT (List Val) (List V) := VRs K c
abbrev RB : RelT Bool Bool := fun _ _ a b => b = a
abbrev RO : RelT (Option Int) (Option Int) := fun _ _ a b => b = a
end

section
variable {K : PySem.W.Frag} {c : Ctx} {B : Bas} {G G' : Hp} {ι ι' : List Addr} {h h' : MHp} {H H' : Hp} {ρ ρ' : MEnv} {σ σ' : L2.St} {E : WX}
variable {α β γ δ : Type} {R : RelT α β} {S : RelT γ δ}
theorem Post.mono {r : RE α} {Q : β → Hp → Prop} (hG : Hle G G') (hι : Ile ι ι') (p : Post K c R E B G ι σ r Q) : Post K c R E B G' ι' σ r Q := by
  cases r with
  | ok v ρ' h' => exact fun G2 ι2 H2 x a b s q => p G2 ι2 H2 x (hG.trans a) (hι.trans b) s q
  | exc C fs ρ' h' => exact fun G2 ι2 H2 cls d a b s q => p G2 ι2 H2 cls d (hG.trans a) (hι.trans b) s q
  | fail => exact p
/-- one after another -/
theorem Sim.bind {te : L2.St → Hp → (β → Hp → Prop) → Prop} {m : EM α} {f : α → EM γ} {Q : δ → Hp → Prop} {k : β → Hp → Prop} (hm : Sim K c R E te m) (hs : St K c B G ι h H ρ σ)
    (hp : Post K c S E B G ι σ (EM.bind m f ρ h) Q)
    (hk : ∀ G' ι' h' H' ρ' v x, Hle G G' → Ile ι ι' → St K c B G' ι' h' H' ρ' σ → R G' ι' v x → Post K c S E B G' ι' σ (f v ρ' h') Q → k x H') : te σ H k := by
  refine hm B G ι h H ρ σ k hs ?_
  unfold EM.bind at hp
  cases e : m ρ h with
  | ok v ρ' h' =>
    rw [e] at hp
    exact fun G' ι' H' x a b s r => hk G' ι' h' H' ρ' v x a b s r (hp.mono a b)
  | exc C fs ρ' h' =>
    rw [e] at hp
    exact hp
  | fail =>
    rw [e] at hp
    exact hp
theorem Post.pure {a : α} {x : β} {Q : β → Hp → Prop} (p : Post K c R E B G ι σ (EM.pure a ρ h) Q) (hs : St K c B G ι h H ρ σ) (r : R G ι a x) : Q x H :=
  p G ι H x (Hle.refl _) (Ile.refl _) hs r
theorem Post.lift {o : Option α} {Q : β → Hp → Prop} (p : Post K c R E B G ι σ (EM.lift o ρ h) Q) : ∃ a, o = some a ∧ Post K c R E B G ι σ (EM.pure a ρ h) Q := by
  cases o with
  | none => exact p.elim
  | some a => exact ⟨a, rfl, p⟩

/-! ### names and constants -/
def mVar (i : Nat) : EM Val := fun ρ h => match ρ[i]? with
  | some (.val v) => .ok v ρ h
  | _ => .fail
theorem sim_var (i : Nat) : Sim K c (RV K c) E (tVar i) (mVar i) := by
  intro B G ι h H ρ σ Q hs hp
  unfold mVar at hp
  split at hp
  · rename_i v e
    obtain ⟨x, e1, y, e2, r⟩ := hs.env i _ e
    subst e2
    exact ⟨y, e1, hp G ι H y (Hle.refl _) (Ile.refl _) hs r⟩
  · exact hp.elim
def mC (v : Val) : EM Val := EM.pure v
theorem sim_c {v : Val} {x : V} (r : ∀ G ι, VR K c G ι v x) : Sim K c (RV K c) E (tC x) (mC v) := fun B G ι h H ρ σ Q hs hp => hp.pure hs (r G ι)
theorem sim_int (i : Int) : Sim K c (RV K c) E (tC (.int i)) (mC (.int i)) := sim_c fun _ _ => .int i
theorem sim_bl (i : Bool) : Sim K c (RV K c) E (tC (.bl i)) (mC (.bl i)) := sim_c fun _ _ => .bl i
theorem sim_str (i : Str) : Sim K c (RV K c) E (tC (.str i)) (mC (.str i)) := sim_c fun _ _ => .str i
theorem sim_non : Sim K c (RV K c) E (tC .non) (mC .non) := sim_c fun _ _ => .non

/-! ### two-place operations by values -/
def mOp (f : Val → Val → Option Val) (a b : EM Val) : EM Val := EM.bind a fun x => EM.bind b fun y => EM.lift (f x y)
def SimR2 (K : PySem.W.Frag) (c : Ctx) (r : R2) (f : Val → Val → Option Val) : Prop :=
  ∀ B G ι h H ρ σ vx vy x y z, St K c B G ι h H ρ σ → VH K c G ι H vx x → VH K c G ι H vy y → f vx vy = some z →
    ∀ Q : VK, (∀ G' H' u, Hle G G' → St K c B G' ι h H' ρ σ → VR K c G' ι z u → Q u H') → r x y H Q
theorem sim_op {r : R2} {f : Val → Val → Option Val} {ta tb : TE} {ma mb : EM Val} (hr : SimR2 K c r f) (ha : Sim K c (RV K c) E ta ma) (hb : Sim K c (RV K c) E tb mb) : Sim K c (RV K c) E (tOp r ta tb) (mOp f ma mb) := by
  intro B G ι h H ρ σ Q hs hp
  refine ha.bind hs hp fun G1 ι1 h1 H1 ρ1 v x a1 b1 s1 r1 p1 => ?_
  refine hb.bind s1 p1 fun G2 ι2 h2 H2 ρ2 w y a2 b2 s2 r2 p2 => ?_
  obtain ⟨z, e, p3⟩ := p2.lift
  exact hr B G2 ι2 h2 H2 ρ2 σ v w x y z s2 ((r1.mono a2 b2).toH s2.st.le) (r2.toH s2.st.le) e Q fun G' H' u a3 s3 r3 => p3 G' ι2 H' u a3 (Ile.refl _) s3 r3
def mUn (f : Val → Option Val) (a : EM Val) : EM Val := EM.bind a fun x => EM.lift (f x)
def SimR1 (K : PySem.W.Frag) (c : Ctx) (r : V → Hp → VK → Prop) (f : Val → Option Val) : Prop :=
  ∀ B G ι h H ρ σ vx x z, St K c B G ι h H ρ σ → VR K c G ι vx x → f vx = some z →
    ∀ Q : VK, (∀ G' H' u, Hle G G' → St K c B G' ι h H' ρ σ → VR K c G' ι z u → Q u H') → r x H Q
theorem sim_un {r : V → Hp → VK → Prop} {f : Val → Option Val} {ta : TE} {ma : EM Val} (hr : SimR1 K c r f) (ha : Sim K c (RV K c) E ta ma) : Sim K c (RV K c) E (tUn r ta) (mUn f ma) := by
  intro B G ι h H ρ σ Q hs hp
  refine ha.bind hs hp fun G1 ι1 h1 H1 ρ1 v x a1 b1 s1 r1 p1 => ?_
  obtain ⟨z, e, p3⟩ := p1.lift
  exact hr B G1 ι1 h1 H1 ρ1 σ v x z s1 r1 e Q fun G' H' u a3 s3 r3 => p3 G' ι1 H' u a3 (Ile.refl _) s3 r3
theorem SimR2.or {r r' : R2} {f f' g : Val → Val → Option Val} (h1 : SimR2 K c r f) (h2 : SimR2 K c r' f') (hg : ∀ x y z, g x y = some z → f x y = some z ∨ f' x y = some z) : SimR2 K c (fun x y H Q => r x y H Q ∨ r' x y H Q) g := by
  intro B G ι h H ρ σ vx vy x y z hs rx ry e Q q
  rcases hg _ _ _ e with e | e
  · exact .inl (h1 B G ι h H ρ σ vx vy x y z hs rx ry e Q q)
  · exact .inr (h2 B G ι h H ρ σ vx vy x y z hs rx ry e Q q)
/-- what gives a value of ints, bools, texts and leaves the heap -/
theorem SimR2.pure {r : R2} {f : Val → Val → Option Val} (h : ∀ G ι H vx vy x y z, Hle G H → VH K c G ι H vx x → VH K c G ι H vy y → f vx vy = some z → ∃ u, (∀ G ι, VR K c G ι z u) ∧ ∀ Q : VK, Q u H → r x y H Q) : SimR2 K c r f := by
  intro B G ι h' H ρ σ vx vy x y z hs rx ry e Q q
  obtain ⟨u, hu, k⟩ := h G ι H vx vy x y z hs.st.le rx ry e
  exact k Q (q G H u (Hle.refl _) hs (hu _ _))

/-! ### operators -/
def fAddI : Val → Val → Option Val
  | .int i, .int j => some (.int (i + j))
  | _, _ => none
def fSub : Val → Val → Option Val
  | .int i, .int j => some (.int (i - j))
  | _, _ => none
def fAddS : Val → Val → Option Val
  | .str a, .str b => if a.length + b.length ≤ sizeLine then some (.str (a ++ b)) else none
  | _, _ => none
def fAddL : Val → Val → Option Val
  | .lst a, .lst b => if a.length + b.length ≤ sizeLine then some (.lst (a ++ b)) else none
  | _, _ => none
def fAddT : Val → Val → Option Val
  | .tup (v :: a), .tup b => if (v :: a).length + b.length ≤ sizeLine then some (.tup ((v :: a) ++ b)) else none
  | _, _ => none
def fAddIB : Val → Val → Option Val
  | .int i, .bl b => some (.int (i + b2i b))
  | _, _ => none
def fAdd : Val → Val → Option Val
  | .int i, .int j => some (.int (i + j))
  | .str a, .str b => if a.length + b.length ≤ sizeLine then some (.str (a ++ b)) else none
  | .lst a, .lst b => if a.length + b.length ≤ sizeLine then some (.lst (a ++ b)) else none
  | .tup (v :: a), .tup b => if (v :: a).length + b.length ≤ sizeLine then some (.tup ((v :: a) ++ b)) else none
  | .int i, .bl b => some (.int (i + b2i b))
  | _, _ => none
def rAddAny (K : PySem.W.Frag) : R2 := fun x y H Q =>
  rI0 (fun i j => .int (i + j)) x y H Q ∨ ((∃ i j, x = .str i ∧ y = .str j ∧ i.length + j.length ≤ sizeLine ∧ Q (.str (i ++ j)) H) ∨ (rCat x y H Q ∨ (rCatT K x y H Q ∨ ∃ i k, x = .int i ∧ y = .bl k ∧ Q (.int (i + b2i k)) H)))
theorem op_addAny {X : Cx} : OpR X (binaryOp .Add) (rAddAny X.K) := op_add.or (op_add_str.or (op_cat.or (op_catT.or op_add_ib)))
theorem sr_addI : SimR2 K c (rI0 fun i j => .int (i + j)) fAddI := SimR2.pure fun G ι H vx vy x y z hl rx ry e => by
  unfold fAddI at e
  split at e
  · cases e; cases rx; cases ry
    exact ⟨_, fun _ _ => .int _, fun Q q => ⟨_, _, rfl, rfl, q⟩⟩
  · cases e
theorem sr_sub : SimR2 K c (rI0 fun i j => .int (i - j)) fSub := SimR2.pure fun G ι H vx vy x y z hl rx ry e => by
  unfold fSub at e
  split at e
  · cases e; cases rx; cases ry
    exact ⟨_, fun _ _ => .int _, fun Q q => ⟨_, _, rfl, rfl, q⟩⟩
  · cases e
theorem sr_addS : SimR2 K c (fun x y H Q => ∃ i j, x = .str i ∧ y = .str j ∧ i.length + j.length ≤ sizeLine ∧ Q (.str (i ++ j)) H) fAddS := SimR2.pure fun G ι H vx vy x y z hl rx ry e => by
  unfold fAddS at e
  split at e
  · split at e
    · rename_i hz; cases e; cases rx; cases ry
      exact ⟨_, fun _ _ => .str _, fun Q q => ⟨_, _, rfl, rfl, hz, q⟩⟩
    · cases e
  · cases e
theorem sr_addIB : SimR2 K c (fun x y H Q => ∃ i k, x = .int i ∧ y = .bl k ∧ Q (.int (i + b2i k)) H) fAddIB := SimR2.pure fun G ι H vx vy x y z hl rx ry e => by
  unfold fAddIB at e
  split at e
  · cases e; cases rx; cases ry
    exact ⟨_, fun _ _ => .int _, fun Q q => ⟨_, _, rfl, rfl, q⟩⟩
  · cases e
theorem sr_addL : SimR2 K c rCat fAddL := by
  intro B G ι h H ρ σ vx vy x y z hs rx ry e Q q
  unfold fAddL at e
  split at e
  · split at e
    · rename_i hz; cases e
      obtain ⟨p, xs, rfl, hp, rp⟩ := rx
      obtain ⟨p2, ys, rfl, hp2, rp2⟩ := ry
      refine ⟨_, _, _, _, rfl, rfl, hp, hp2, by rw [← rp.length, ← rp2.length]; exact hz, fun l hl => ?_⟩
      have hg : G l = none := hs.st.le.free hl
      exact q _ _ _ (Hle.new hg) (hs.new hl) (.lst upd_same ((rp.append rp2).mono (Hle.new hg) (Ile.refl _)))
    · cases e
  · cases e
theorem sr_addT : SimR2 K c (rCatT K) fAddT := by
  intro B G ι h H ρ σ vx vy x y z hs rx ry e Q q
  unfold fAddT at e
  split at e
  · split at e
    · rename_i hz; cases e
      obtain ⟨p, xs, rfl, hp, rp⟩ := VR.tupE rx
      obtain ⟨p2, ys, rfl, hp2, rp2⟩ := VR.tupE ry
      obtain ⟨x0, xs0, rfl, _, _⟩ := rp.consE
      refine ⟨p, p2, _, ys, rfl, rfl, hs.st.le.sqT hp, hs.st.le.sqT hp2, by simp, by rw [← rp.length, ← rp2.length]; exact hz, fun hy => ?_, fun hy l hl => ?_⟩
      · subst hy
        refine q G H _ (Hle.refl _) hs (.tup hp ?_)
        have := rp.append rp2
        simpa using this
      · have hg : G l = none := hs.st.le.free hl
        exact q _ _ _ (Hle.new hg) (hs.new hl) (.tup (.of upd_same) ((rp.append rp2).mono (Hle.new hg) (Ile.refl _)))
    · cases e
  · cases e
theorem sr_add : SimR2 K c (rAddAny K) fAdd := by
  refine sr_addI.or (f' := fun x y => if (fAddI x y).isNone then fAdd x y else none) ?_ ?_
  · refine SimR2.or (f := fAddS) (f' := fun x y => match x with | .str _ => none | .int _ => (match y with | .bl _ => fAdd x y | _ => none) | _ => fAdd x y) sr_addS ?_ ?_
    · refine SimR2.or (f := fAddL) (f' := fun x y => match x with | .lst _ => none | .str _ => none | .int _ => (match y with | .bl _ => fAdd x y | _ => none) | _ => fAdd x y) sr_addL ?_ ?_
      · refine SimR2.or (f := fAddT) (f' := fAddIB) sr_addT sr_addIB ?_
        intro x y z h
        cases x <;> simp [fAdd, fAddT, fAddIB] at h ⊢
        · cases y <;> simp_all [fAdd]
        · rename_i vs
          cases vs <;> cases y <;> simp_all [fAdd, fAddT]
      · intro x y z h
        cases x <;> simp [fAdd, fAddL] at h ⊢
        · cases y <;> simp_all [fAdd]
        · exact h
        · cases y <;> simp_all [fAdd, fAddL]
    · intro x y z h
      cases x <;> simp [fAdd, fAddS, fAddI] at h ⊢
      · cases y <;> simp_all [fAdd, fAddI]
      · cases y <;> simp_all [fAdd, fAddS]
      · exact h
      · exact h
  · intro x y z h
    cases x <;> cases y <;> simp_all [fAdd, fAddI]
end
end Mir

set_option Elab.async false
set_option linter.all false
set_option maxRecDepth 100000
set_option maxHeartbeats 4000000
namespace Mir
open PySem PySem.Spec PyProof.Rows L2

/-! ### an expression, a test, arguments: their term, its mirror -/
structure PEm (X : Cx) (c : Ctx) (E : WX) (e : Expr) (m : EM Val) : Prop where
  ex : ∃ te, PE X e te ∧ Sim X.K c (RV X.K c) E te m
structure PTm (X : Cx) (c : Ctx) (E : WX) (e : Expr) (m : EM Bool) : Prop where
  ex : ∃ te, PT X e te ∧ Sim X.K c RB E te m
structure PWm (X : Cx) (c : Ctx) (E : WX) (e : Expr) (m : EM Bool) : Prop where
  ex : ∃ te, PW X e te ∧ Sim X.K c RB E te m
structure PAm (X : Cx) (c : Ctx) (E : WX) (es : List Expr) (m : EM (List Val)) : Prop where
  ex : ∃ te, PA X es te ∧ Sim X.K c (RVs X.K c) E te m
structure POm (X : Cx) (c : Ctx) (E : WX) (e : Option Expr) (m : EM (Option Int)) : Prop where
  ex : ∃ te, PO X e te ∧ Sim X.K c RO E te m

section
variable {K : PySem.W.Frag} {c : Ctx} {B : Bas} {G G' : Hp} {ι ι' : List Addr} {h h' : MHp} {H H' : Hp} {ρ ρ' : MEnv} {σ σ' : L2.St} {E : WX}
variable {ta tb tc : TE} {ma mb mc : EM Val} {t1 t2 : TT} {m1 m2 : EM Bool}

/-! ### more operators -/
def fMul : Val → Val → Option Val
  | .int i, .int j => if i.natAbs.log2 + j.natAbs.log2 < 1000000 then some (.int (i * j)) else none
  | _, _ => none
def fMod : Val → Val → Option Val
  | .int i, .int j => if 0 < j then some (.int (i % j)) else none
  | _, _ => none
def fDiv : Val → Val → Option Val
  | .int i, .int j => if 0 < j ∧ j.natAbs.log2 < 9000 then some (.int (i / j)) else none
  | _, _ => none
def fPow : Val → Val → Option Val
  | .int i, .int j => if 0 ≤ j ∧ (Builtin.Int.intBits i : Int) * j ≤ 2 ^ 27 then some (.int (i ^ j.toNat)) else none
  | _, _ => none
def CPowW (i j : Int) : Prop := 0 ≤ j ∧ (Builtin.Int.intBits i : Int) * j ≤ 2 ^ 27
theorem op_powW {X : Cx} : OpR X (binaryOp .Pow) (rI CPowW fun i j => .int (i ^ j.toNat)) := opI fun _ _ _ _ _ _ _ hc q => pow_int hc.1 hc.2 q
theorem sr_I {C : Int → Int → Prop} {g : Int → Int → Int} {f : Val → Val → Option Val} (hf : ∀ x y z, f x y = some z → ∃ i j, x = .int i ∧ y = .int j ∧ C i j ∧ z = .int (g i j)) : SimR2 K c (rI C fun i j => .int (g i j)) f :=
  SimR2.pure fun G ι H vx vy x y z hl rx ry e => by
    obtain ⟨i, j, rfl, rfl, hc, rfl⟩ := hf _ _ _ e
    cases rx; cases ry
    exact ⟨_, fun _ _ => .int _, fun Q q => ⟨_, _, rfl, rfl, hc, q⟩⟩
theorem sr_mul : SimR2 K c (rI CMulW fun i j => .int (i * j)) fMul := sr_I fun x y z e => by
  unfold fMul at e; split at e
  · split at e
    · rename_i hz; cases e; exact ⟨_, _, rfl, rfl, hz, rfl⟩
    · cases e
  · cases e
theorem sr_mod : SimR2 K c (rI (fun _ j => 0 < j) fun i j => .int (i % j)) fMod := sr_I fun x y z e => by
  unfold fMod at e; split at e
  · split at e
    · rename_i hz; cases e; exact ⟨_, _, rfl, rfl, hz, rfl⟩
    · cases e
  · cases e
theorem sr_div : SimR2 K c (rI CDivW fun i j => .int (i / j)) fDiv := sr_I fun x y z e => by
  unfold fDiv at e; split at e
  · split at e
    · rename_i hz; cases e; exact ⟨_, _, rfl, rfl, hz, rfl⟩
    · cases e
  · cases e
theorem sr_pow : SimR2 K c (rI CPowW fun i j => .int (i ^ j.toNat)) fPow := sr_I fun x y z e => by
  unfold fPow at e; split at e
  · split at e
    · rename_i hz; cases e; exact ⟨_, _, rfl, rfl, hz, rfl⟩
    · cases e
  · cases e
/-- a comparison of ints -/
def fCmp (g : Int → Int → Bool) : Val → Val → Option Val
  | .int i, .int j => some (.bl (g i j))
  | _, _ => none
theorem sr_cmp {g : Int → Int → Bool} : SimR2 K c (rI0 fun i j => .bl (g i j)) (fCmp g) := SimR2.pure fun G ι H vx vy x y z hl rx ry e => by
  unfold fCmp at e
  split at e
  · cases e; cases rx; cases ry
    exact ⟨_, fun _ _ => .bl _, fun Q q => ⟨_, _, rfl, rfl, q⟩⟩
  · cases e
abbrev fLt := fCmp fun i j => decide (i < j)
abbrev fLe := fCmp fun i j => decide (i ≤ j)
abbrev fGt := fCmp fun i j => decide (j < i)
abbrev fGe := fCmp fun i j => decide (j ≤ i)

/-! ### data -/
mutual
def toD : Val → Option PyData
  | .non => some .none
  | .bl b => some (.bool b)
  | .int i => some (.int i)
  | .str s => some (.str s)
  | .tup vs => (toDs vs).map .tuple
  | .lst vs => (toDs vs).map .list
  | .fz vs => (toDs vs).map .list
  | .dct _ => none
  | .obj _ _ => none
  | .ref _ => none
def toDs : List Val → Option (List PyData)
  | [] => some []
  | v :: vs => match toD v, toDs vs with
    | some d, some ds => some (d :: ds)
    | _, _ => none
end
mutual
theorem toD_ok (hG : Hle G H) : ∀ {v : Val} {x : V} {d : PyData}, VR K c G ι v x → toD v = some d → Dp K H x d
  | _, _, d, .non, e => by simp [toD] at e; subst e; exact .non
  | _, _, d, .bl b, e => by simp [toD] at e; subst e; exact .bl b
  | _, _, d, .int b, e => by simp [toD] at e; subst e; exact .int b
  | _, _, d, .str b, e => by simp [toD] at e; subst e; exact .str b
  | .tup vs, _, d, .tup hp r, e => by
    simp only [toD, Option.map_eq_some_iff] at e
    obtain ⟨ds, e, rfl⟩ := e
    exact .tup (hG.sqT hp) (toDs_ok hG r e)
  | .lst vs, _, d, .lst hp r, e => by
    simp only [toD, Option.map_eq_some_iff] at e
    obtain ⟨ds, e, rfl⟩ := e
    exact .lst (.of (hG _ _ hp)) (toDs_ok hG r e)
  | .fz vs, _, d, .fz hp r, e => by
    simp only [toD, Option.map_eq_some_iff] at e
    obtain ⟨ds, e, rfl⟩ := e
    exact .lst (hG.sqL hp) (toDs_ok hG r e)
  | _, _, d, .dct hp r, e => by simp [toD] at e
  | _, _, d, .obj hp r, e => by simp [toD] at e
  | _, _, d, .ref hp, e => by simp [toD] at e
theorem toDs_ok (hG : Hle G H) : ∀ {vs : List Val} {xs : List V} {ds : List PyData}, VRs K c G ι vs xs → toDs vs = some ds → DpAll K H xs ds
  | _, _, d, .nil, e => by simp [toDs] at e; subst e; exact .nil
  | v :: vs, _, d, .cons r rs, e => by
    simp only [toDs] at e
    split at e
    · rename_i d0 ds0 e0 e1
      cases e
      exact .cons (toD_ok hG r e0) (toDs_ok hG rs e1)
    · cases e
end
theorem toD_okH (hG : Hle G H) {v : Val} {x : V} {d : PyData} (r : VH K c G ι H v x) (e : toD v = some d) : Dp K H x d := by
  cases v with
  | lst vs =>
    obtain ⟨p, xs, rfl, hp, r⟩ := r
    simp only [toD, Option.map_eq_some_iff] at e
    obtain ⟨ds, e, rfl⟩ := e
    exact .lst (.of hp) (toDs_ok hG r e)
  | dct vs => simp [toD] at e
  | non => exact toD_ok hG (show VR K c G ι _ x from r) e
  | bl b => exact toD_ok hG (show VR K c G ι _ x from r) e
  | int b => exact toD_ok hG (show VR K c G ι _ x from r) e
  | str b => exact toD_ok hG (show VR K c G ι _ x from r) e
  | tup b => exact toD_ok hG (show VR K c G ι _ x from r) e
  | fz b => exact toD_ok hG (show VR K c G ι _ x from r) e
  | obj b d => exact toD_ok hG (show VR K c G ι _ x from r) e
  | ref b => exact toD_ok hG (show VR K c G ι _ x from r) e
def eqD (x y : Val) : Option Bool := match toD x, toD y with
  | some d, some e => if SeqAt.shaped d && SeqAt.shaped e then some (PyData.eqv d e) else none
  | _, _ => none
def fEq : Val → Val → Option Val := fun x y => (eqD x y).map .bl
def fNe : Val → Val → Option Val := fun x y => (eqD x y).map fun b => .bl (!b)
theorem eqD_ok {x y : Val} {b : Bool} (h : eqD x y = some b) : ∃ d e, toD x = some d ∧ toD y = some e ∧ SeqAt.shaped d = true ∧ SeqAt.shaped e = true ∧ b = PyData.eqv d e := by
  unfold eqD at h
  split at h
  · rename_i d e e1 e2
    split at h
    · rename_i hz
      simp only [Bool.and_eq_true] at hz
      cases h
      exact ⟨d, e, e1, e2, hz.1, hz.2, rfl⟩
    · cases h
  · cases h
theorem sr_eq : SimR2 K c (rEqD K) fEq := SimR2.pure fun G ι H vx vy x y z hl rx ry e => by
  unfold fEq at e
  simp only [Option.map_eq_some_iff] at e
  obtain ⟨b, e, rfl⟩ := e
  obtain ⟨d, d', e1, e2, s1, s2, rfl⟩ := eqD_ok e
  exact ⟨_, fun _ _ => .bl _, fun Q q => ⟨d, d', toD_okH hl rx e1, toD_okH hl ry e2, s1, s2, q⟩⟩
theorem sr_ne : SimR2 K c (rNeD K) fNe := SimR2.pure fun G ι H vx vy x y z hl rx ry e => by
  unfold fNe at e
  simp only [Option.map_eq_some_iff] at e
  obtain ⟨b, e, rfl⟩ := e
  obtain ⟨d, d', e1, e2, s1, s2, rfl⟩ := eqD_ok e
  exact ⟨_, fun _ _ => .bl _, fun Q q => ⟨d, d', toD_okH hl rx e1, toD_okH hl ry e2, s1, s2, q⟩⟩

/-! ### in -/
def rInTD (K : PySem.W.Frag) : R2 := fun x y H Q => ∃ d ds, Dp K H x d ∧ Dp K H y (.tuple ds) ∧ SeqAt.shaped d = true ∧ SeqAt.shaped (.tuple ds) = true ∧ Q (.bl (ds.any fun z => PyData.eqv z d)) H
def rNotInTD (K : PySem.W.Frag) : R2 := fun x y H Q => ∃ d ds, Dp K H x d ∧ Dp K H y (.tuple ds) ∧ SeqAt.shaped d = true ∧ SeqAt.shaped (.tuple ds) = true ∧ Q (.bl (!ds.any fun z => PyData.eqv z d)) H
theorem op_inTD {X : Cx} (hu : X.A.units + 65 < cLine) : OpR X (compareOp .In) (rInTD X.K) := by
  intro pins s σ H x y v u Q I rx ry h
  obtain ⟨d, ds, hd, he, sd, se, q⟩ := h
  obtain ⟨as, r1⟩ := Dp.reads I d x v hd rx
  obtain ⟨bs, r2⟩ := Dp.reads I (.tuple ds) y u he ry
  exact SeqAt.in_tuple_reads r2 r1 (SeqAt.canLay_of_shaped se) (SeqAt.canLay_of_shaped sd) (room_in_shaped sd hu) ⟨.bl _, H, I, rfl, q⟩
theorem op_notInTD {X : Cx} (hu : X.A.units + 65 < cLine) : OpR X (compareOp .NotIn) (rNotInTD X.K) := by
  intro pins s σ H x y v u Q I rx ry h
  obtain ⟨d, ds, hd, he, sd, se, q⟩ := h
  obtain ⟨as, r1⟩ := Dp.reads I d x v hd rx
  obtain ⟨bs, r2⟩ := Dp.reads I (.tuple ds) y u he ry
  exact SeqAt.notIn_tuple_reads r2 r1 (SeqAt.canLay_of_shaped se) (SeqAt.canLay_of_shaped sd) (room_in_shaped sd hu) ⟨.bl _, H, I, rfl, q⟩
def rInStr : R2 := fun x y H Q => ∃ i j, x = .str i ∧ y = .str j ∧ Q (.bl (!(Builtin.Str.occurrences j i 0 j.length 1).isEmpty)) H
def rNotInStr : R2 := fun x y H Q => ∃ i j, x = .str i ∧ y = .str j ∧ Q (.bl (!(!(Builtin.Str.occurrences j i 0 j.length 1).isEmpty))) H
def rInAny (K : PySem.W.Frag) : R2 := fun x y H Q => rInStr x y H Q ∨ (rInD K x y H Q ∨ rInTD K x y H Q)
def rNotInAny (K : PySem.W.Frag) : R2 := fun x y H Q => rNotInStr x y H Q ∨ (rNotInD K x y H Q ∨ rNotInTD K x y H Q)
theorem op_inAny {X : Cx} (hu : X.A.units + 65 < cLine) : OpR X (compareOp .In) (rInAny X.K) := OpR.or op_in_str (OpR.or (op_inD hu) (op_inTD hu))
theorem op_notInAny {X : Cx} (hu : X.A.units + 65 < cLine) : OpR X (compareOp .NotIn) (rNotInAny X.K) := OpR.or op_notin_str (OpR.or (op_notInD hu) (op_notInTD hu))
def inData (x y : Val) : Option Bool := match toD x, toD y with
  | some d, some (.list ds) => if SeqAt.shaped d && SeqAt.shaped (.list ds) then some (ds.any fun z => PyData.eqv z d) else none
  | some d, some (.tuple ds) => if SeqAt.shaped d && SeqAt.shaped (.tuple ds) then some (ds.any fun z => PyData.eqv z d) else none
  | _, _ => none
def isIn : Val → Val → Option Bool
  | .str i, .str j => some (!(Builtin.Str.occurrences j i 0 j.length 1).isEmpty)
  | x, y => inData x y
def fIn : Val → Val → Option Val := fun x y => (isIn x y).map .bl
def fNotIn : Val → Val → Option Val := fun x y => (isIn x y).map fun b => .bl (!b)
theorem isIn_ok {x y : Val} {b : Bool} (h : isIn x y = some b) : (∃ i j, x = .str i ∧ y = .str j ∧ b = !(Builtin.Str.occurrences j i 0 j.length 1).isEmpty) ∨ ∃ d ds, toD x = some d ∧ SeqAt.shaped d = true ∧ b = (ds.any fun z => PyData.eqv z d) ∧
    ((toD y = some (.list ds) ∧ SeqAt.shaped (.list ds) = true) ∨ (toD y = some (.tuple ds) ∧ SeqAt.shaped (.tuple ds) = true)) := by
  unfold isIn at h
  split at h
  · cases h; exact .inl ⟨_, _, rfl, rfl, rfl⟩
  · unfold inData at h
    split at h
    · rename_i d ds e1 e2
      split at h
      · rename_i hz; simp only [Bool.and_eq_true] at hz; cases h
        exact .inr ⟨d, ds, e1, hz.1, rfl, .inl ⟨e2, hz.2⟩⟩
      · cases h
    · rename_i d ds e1 e2
      split at h
      · rename_i hz; simp only [Bool.and_eq_true] at hz; cases h
        exact .inr ⟨d, ds, e1, hz.1, rfl, .inr ⟨e2, hz.2⟩⟩
      · cases h
    · cases h
theorem sr_in : SimR2 K c (rInAny K) fIn := SimR2.pure fun G ι H vx vy x y z hl rx ry e => by
  unfold fIn at e
  simp only [Option.map_eq_some_iff] at e
  obtain ⟨b, e, rfl⟩ := e
  refine ⟨_, fun _ _ => .bl _, fun Q q => ?_⟩
  rcases isIn_ok e with ⟨i, j, rfl, rfl, rfl⟩ | ⟨d, ds, e1, s1, rfl, ⟨e2, s2⟩ | ⟨e2, s2⟩⟩
  · cases rx; cases ry; exact .inl ⟨i, j, rfl, rfl, q⟩
  · exact .inr (.inl ⟨d, ds, toD_okH hl rx e1, toD_okH hl ry e2, s1, s2, q⟩)
  · exact .inr (.inr ⟨d, ds, toD_okH hl rx e1, toD_okH hl ry e2, s1, s2, q⟩)
theorem sr_notIn : SimR2 K c (rNotInAny K) fNotIn := SimR2.pure fun G ι H vx vy x y z hl rx ry e => by
  unfold fNotIn at e
  simp only [Option.map_eq_some_iff] at e
  obtain ⟨b, e, rfl⟩ := e
  refine ⟨_, fun _ _ => .bl _, fun Q q => ?_⟩
  rcases isIn_ok e with ⟨i, j, rfl, rfl, rfl⟩ | ⟨d, ds, e1, s1, rfl, ⟨e2, s2⟩ | ⟨e2, s2⟩⟩
  · cases rx; cases ry; exact .inl ⟨i, j, rfl, rfl, q⟩
  · exact .inr (.inl ⟨d, ds, toD_okH hl rx e1, toD_okH hl ry e2, s1, s2, q⟩)
  · exact .inr (.inr ⟨d, ds, toD_okH hl rx e1, toD_okH hl ry e2, s1, s2, q⟩)

/-! ### is -/
def isNon : Val → Bool
  | .non => true
  | _ => false
theorem VR.isNon_eq {v : Val} {x : V} (r : VR K c G ι v x) : decide (x = .non) = isNon v := by cases r <;> rfl
theorem VH.isNon_eq {v : Val} {x : V} (r : VH K c G ι H v x) : decide (x = .non) = isNon v := by
  cases v with
  | lst vs => obtain ⟨p, xs, rfl, hp, r⟩ := r; rfl
  | dct vs => obtain ⟨p, xs, rfl, hp, r⟩ := r; rfl
  | _ => exact VR.isNon_eq (K := K) (c := c) (G := G) (ι := ι) r
def isIs : Val → Val → Option Bool
  | x, .non => some (isNon x)
  | .bl a, .bl b => some (decide (a = b))
  | _, _ => none
def fIs : Val → Val → Option Val := fun x y => (isIs x y).map .bl
def fIsNot : Val → Val → Option Val := fun x y => (isIs x y).map fun b => .bl (!b)
def rIsAny : R2 := fun x y H Q => (y = .non ∧ Q (.bl (decide (x = .non))) H) ∨ rIsB x y H Q
def rIsNotAny : R2 := fun x y H Q => (y = .non ∧ Q (.bl (!decide (x = .non))) H) ∨ rNotB x y H Q
theorem op_isAny {X : Cx} : OpR X (compareOp .Is) rIsAny := OpR.or op_isN op_isBl
theorem op_isNotAny {X : Cx} : OpR X (compareOp .IsNot) rIsNotAny := OpR.or op_notN op_notBl
theorem isIs_ok {x y : Val} {b : Bool} (h : isIs x y = some b) : (y = .non ∧ b = isNon x) ∨ ∃ p q, x = .bl p ∧ y = .bl q ∧ b = decide (p = q) := by
  unfold isIs at h
  split at h
  · cases h; exact .inl ⟨rfl, rfl⟩
  · cases h; exact .inr ⟨_, _, rfl, rfl, rfl⟩
  · cases h
theorem sr_is : SimR2 K c rIsAny fIs := SimR2.pure fun G ι H vx vy x y z hl rx ry e => by
  unfold fIs at e
  simp only [Option.map_eq_some_iff] at e
  obtain ⟨b, e, rfl⟩ := e
  refine ⟨_, fun _ _ => .bl _, fun Q q => ?_⟩
  rcases isIs_ok e with ⟨rfl, rfl⟩ | ⟨p, p', rfl, rfl, rfl⟩
  · cases ry; exact .inl ⟨rfl, by rw [VH.isNon_eq rx]; exact q⟩
  · cases rx; cases ry; exact .inr ⟨p, p', rfl, rfl, q⟩
theorem sr_isNot : SimR2 K c rIsNotAny fIsNot := SimR2.pure fun G ι H vx vy x y z hl rx ry e => by
  unfold fIsNot at e
  simp only [Option.map_eq_some_iff] at e
  obtain ⟨b, e, rfl⟩ := e
  refine ⟨_, fun _ _ => .bl _, fun Q q => ?_⟩
  rcases isIs_ok e with ⟨rfl, rfl⟩ | ⟨p, p', rfl, rfl, rfl⟩
  · cases ry; exact .inl ⟨rfl, by rw [VH.isNon_eq rx]; exact q⟩
  · cases rx; cases ry; exact .inr ⟨p, p', rfl, rfl, q⟩

/-! ### truth -/
def tru : Val → Option Bool
  | .non => some false
  | .bl b => some b
  | .int i => some (i != 0)
  | .str s => if s.length ≤ sizeLine then some ((s.length : Int) != 0) else none
  | .tup vs => some (!vs.isEmpty)
  | .lst vs => some (!vs.isEmpty)
  | .fz vs => some (!vs.isEmpty)
  | .dct kvs => some (!kvs.isEmpty)
  | _ => none
theorem VRs.isEmpty : ∀ {vs xs}, VRs K c G ι vs xs → vs.isEmpty = xs.isEmpty
  | _, _, .nil => rfl
  | _, _, .cons _ _ => rfl
theorem KVRs.isEmpty : ∀ {vs xs}, KVRs K c G ι vs xs → vs.isEmpty = xs.isEmpty
  | _, _, .nil => rfl
  | _, _, .cons _ _ _ => rfl
theorem tru_of {v : Val} {x : V} {b : Bool} (hG : Hle G H) (r : VR K c G ι v x) (e : tru v = some b) : TruV K x H b := by
  cases r with
  | non => simp [tru] at e; exact (show b = false from e)
  | bl i => simp [tru] at e; exact e.symm
  | int i => simp [tru] at e; exact e.symm
  | str s =>
    simp only [tru] at e
    split at e
    · rename_i hz; cases e; exact ⟨hz, rfl⟩
    · cases e
  | tup hp r => simp only [tru, Option.some.injEq] at e; exact .inr (.inl ⟨_, hG.sqT hp, by rw [← r.isEmpty]; exact e.symm⟩)
  | lst hp r => simp only [tru, Option.some.injEq] at e; exact .inl ⟨_, .of (hG _ _ hp), by rw [← r.isEmpty]; exact e.symm⟩
  | fz hp r => simp only [tru, Option.some.injEq] at e; exact .inl ⟨_, hG.sqL hp, by rw [← r.isEmpty]; exact e.symm⟩
  | dct hp r => simp only [tru, Option.some.injEq] at e; exact .inr (.inr ⟨_, hG _ _ hp, by rw [← r.isEmpty]; exact e.symm⟩)
  | obj hp r => simp [tru] at e
  | ref hp => simp [tru] at e
def mTru (a : EM Val) : EM Bool := EM.bind a fun x => EM.lift (tru x)
def tTru' (K : PySem.W.Frag) (ta : TE) : TT := fun σ H Q => ta σ H fun x H' => ∃ k, TruV K x H' k ∧ Q k H'
theorem sim_tru (ha : Sim K c (RV K c) E ta ma) : Sim K c RB E (tTru' K ta) (mTru ma) := by
  intro B G ι h H ρ σ Q hs hp
  refine ha.bind (S := RB) hs hp fun G1 ι1 h1 H1 ρ1 v x a1 b1 s1 r1 p1 => ?_
  obtain ⟨z, e, p3⟩ := p1.lift
  exact ⟨z, tru_of s1.st.le r1 e, p3.pure s1 rfl⟩
/-- a comparison as a test -/
def mTest (a : EM Val) : EM Bool := EM.bind a fun x => EM.lift (match x with | .bl b => some b | _ => none)
theorem sim_test (ha : Sim K c (RV K c) E ta ma) : Sim K c RB E (tTest ta) (mTest ma) := by
  intro B G ι h H ρ σ Q hs hp
  refine ha.bind (S := RB) hs hp fun G1 ι1 h1 H1 ρ1 v x a1 b1 s1 r1 p1 => ?_
  obtain ⟨z, e, p3⟩ := p1.lift
  cases v <;> simp at e
  subst e
  cases r1
  exact ⟨_, rfl, p3.pure s1 rfl⟩
def mAnd (a b : EM Bool) : EM Bool := EM.bind a fun x => if x = true then b else EM.pure false
def mOr (a b : EM Bool) : EM Bool := EM.bind a fun x => if x = true then EM.pure true else b
def mNot (a : EM Bool) : EM Bool := EM.bind a fun x => EM.pure (!x)
theorem sim_and (h1 : Sim K c RB E t1 m1) (h2 : Sim K c RB E t2 m2) : Sim K c RB E (tAnd t1 t2) (mAnd m1 m2) := by
  intro B G ι h H ρ σ Q hs hp
  refine h1.bind (S := RB) hs hp fun G1 ι1 h1' H1 ρ1 v x a1 b1 s1 r1 p1 => ?_
  subst r1
  cases x with
  | true => exact h2 B G1 ι1 h1' H1 ρ1 σ Q s1 p1
  | false => exact Post.pure (R := RB) (x := false) p1 s1 rfl
theorem sim_or (h1 : Sim K c RB E t1 m1) (h2 : Sim K c RB E t2 m2) : Sim K c RB E (tOr t1 t2) (mOr m1 m2) := by
  intro B G ι h H ρ σ Q hs hp
  refine h1.bind (S := RB) hs hp fun G1 ι1 h1' H1 ρ1 v x a1 b1 s1 r1 p1 => ?_
  subst r1
  cases x with
  | false => exact h2 B G1 ι1 h1' H1 ρ1 σ Q s1 p1
  | true => exact Post.pure (R := RB) (x := true) p1 s1 rfl
theorem sim_not (h1 : Sim K c RB E t1 m1) : Sim K c RB E (tNot t1) (mNot m1) := by
  intro B G ι h H ρ σ Q hs hp
  refine h1.bind (S := RB) hs hp fun G1 ι1 h1' H1 ρ1 v x a1 b1 s1 r1 p1 => ?_
  subst r1
  exact Post.pure (R := RB) (x := !x) p1 s1 rfl
def mAndV (a b : EM Val) : EM Val := EM.bind a fun x => EM.bind (EM.lift (tru x)) fun k => if k = true then b else EM.pure x
def mOrV (a b : EM Val) : EM Val := EM.bind a fun x => EM.bind (EM.lift (tru x)) fun k => if k = true then EM.pure x else b
def mNotV (a : EM Val) : EM Val := EM.bind a fun x => EM.bind (EM.lift (tru x)) fun k => EM.pure (.bl (!k))
theorem Post.bindLift {α β γ : Type} {R : RelT α β} {o : Option γ} {f : γ → EM α} {Q : β → Hp → Prop} (p : Post K c R E B G ι σ (EM.bind (EM.lift o) f ρ h) Q) : ∃ a, o = some a ∧ Post K c R E B G ι σ (f a ρ h) Q := by
  cases o with
  | none => exact p.elim
  | some a => exact ⟨a, rfl, p⟩
theorem sim_andV (ha : Sim K c (RV K c) E ta ma) (hb : Sim K c (RV K c) E tb mb) : Sim K c (RV K c) E (tAndT K ta tb) (mAndV ma mb) := by
  intro B G ι h H ρ σ Q hs hp
  refine ha.bind (S := RV K c) hs hp fun G1 ι1 h1 H1 ρ1 v x a1 b1 s1 r1 p1 => ?_
  obtain ⟨k, e, p1⟩ := p1.bindLift
  refine ⟨k, tru_of s1.st.le r1 e, ?_⟩
  cases k with
  | true => exact hb B G1 ι1 h1 H1 ρ1 σ Q s1 p1
  | false => exact Post.pure (R := RV K c) (x := x) p1 s1 r1
theorem sim_orV (ha : Sim K c (RV K c) E ta ma) (hb : Sim K c (RV K c) E tb mb) : Sim K c (RV K c) E (tOrT K ta tb) (mOrV ma mb) := by
  intro B G ι h H ρ σ Q hs hp
  refine ha.bind (S := RV K c) hs hp fun G1 ι1 h1 H1 ρ1 v x a1 b1 s1 r1 p1 => ?_
  obtain ⟨k, e, p1⟩ := p1.bindLift
  refine ⟨k, tru_of s1.st.le r1 e, ?_⟩
  cases k with
  | true => exact Post.pure (R := RV K c) (x := x) p1 s1 r1
  | false => exact hb B G1 ι1 h1 H1 ρ1 σ Q s1 p1
theorem sim_notV (ha : Sim K c (RV K c) E ta ma) : Sim K c (RV K c) E (tNotT K ta) (mNotV ma) := by
  intro B G ι h H ρ σ Q hs hp
  refine ha.bind (S := RV K c) hs hp fun G1 ι1 h1 H1 ρ1 v x a1 b1 s1 r1 p1 => ?_
  obtain ⟨k, e, p1⟩ := p1.bindLift
  exact ⟨k, tru_of s1.st.le r1 e, Post.pure (R := RV K c) (x := .bl (!k)) p1 s1 (.bl _)⟩
def mIf (t : EM Bool) (a b : EM Val) : EM Val := EM.bind t fun x => if x = true then a else b
theorem sim_if (h1 : Sim K c RB E t1 m1) (ha : Sim K c (RV K c) E ta ma) (hb : Sim K c (RV K c) E tb mb) : Sim K c (RV K c) E (tIf t1 ta tb) (mIf m1 ma mb) := by
  intro B G ι h H ρ σ Q hs hp
  refine h1.bind (S := RV K c) hs hp fun G1 ι1 h1' H1 ρ1 v x a1 b1 s1 r1 p1 => ?_
  subst r1
  cases x with
  | true => exact ha B G1 ι1 h1' H1 ρ1 σ Q s1 p1
  | false => exact hb B G1 ι1 h1' H1 ρ1 σ Q s1 p1
/-- a op b op' c -/
def mChain (f g : Val → Val → Option Val) (a b d : EM Val) : EM Val := EM.bind a fun x => EM.bind b fun y => EM.bind (EM.lift (f x y)) fun z =>
  match z with
  | .bl true => EM.bind d fun w => EM.lift (g y w)
  | .bl false => EM.pure (.bl false)
  | _ => fun _ _ => .fail
theorem sim_chain {r r' : R2} {f g : Val → Val → Option Val} (hr : SimR2 K c r f) (hr' : SimR2 K c r' g) (ha : Sim K c (RV K c) E ta ma) (hb : Sim K c (RV K c) E tb mb) (hc : Sim K c (RV K c) E tc mc) :
    Sim K c (RV K c) E (tChain r r' ta tb tc) (mChain f g ma mb mc) := by
  intro B G ι h H ρ σ Q hs hp
  refine ha.bind (S := RV K c) hs hp fun G1 ι1 h1 H1 ρ1 v x a1 b1 s1 r1 p1 => ?_
  refine hb.bind (S := RV K c) s1 p1 fun G2 ι2 h2 H2 ρ2 w y a2 b2 s2 r2 p2 => ?_
  obtain ⟨z, e, p2⟩ := p2.bindLift
  refine hr B G2 ι2 h2 H2 ρ2 σ v w x y z s2 ((r1.mono a2 b2).toH s2.st.le) (r2.toH s2.st.le) e _ fun G3 H3 u a3 s3 r3 => ?_
  cases z with
  | bl k =>
    cases r3
    refine ⟨k, rfl, ?_⟩
    cases k with
    | true =>
      have p3 := p2.mono a3 (Ile.refl _)
      refine hc.bind (S := RV K c) s3 p3 fun G4 ι4 h4 H4 ρ4 w' z a4 b4 s4 r4 p4 => ?_
      obtain ⟨t, e4, p5⟩ := p4.lift
      exact hr' B G4 ι4 h4 H4 ρ4 σ w w' y z t s4 ((r2.mono (a3.trans a4) b4).toH s4.st.le) (r4.toH s4.st.le) e4 Q fun G' H' u a5 s5 r5 => p5 G' ι4 H' u a5 (Ile.refl _) s5 r5
    | false => exact Post.pure (R := RV K c) (x := .bl false) (p2.mono a3 (Ile.refl _)) s3 (.bl _)
  | _ => exact p2.elim

/-! ### arguments, displays -/
def mNil : EM (List Val) := EM.pure []
def mCons (a : EM Val) (r : EM (List Val)) : EM (List Val) := EM.bind a fun x => EM.bind r fun xs => EM.pure (x :: xs)
theorem sim_nil : Sim K c (RVs K c) E tNil mNil := fun B G ι h H ρ σ Q hs hp => Post.pure (R := RVs K c) (x := []) hp hs .nil
theorem sim_cons {tr : TA} {mr : EM (List Val)} (ha : Sim K c (RV K c) E ta ma) (hr : Sim K c (RVs K c) E tr mr) : Sim K c (RVs K c) E (tCons ta tr) (mCons ma mr) := by
  intro B G ι h H ρ σ Q hs hp
  refine ha.bind (S := RVs K c) hs hp fun G1 ι1 h1 H1 ρ1 v x a1 b1 s1 r1 p1 => ?_
  refine hr.bind (S := RVs K c) s1 p1 fun G2 ι2 h2 H2 ρ2 vs xs a2 b2 s2 r2 p2 => ?_
  exact Post.pure (R := RVs K c) (x := x :: xs) p2 s2 (.cons (r1.mono a2 b2) r2)
def mTup (r : EM (List Val)) : EM Val := EM.bind r fun xs => EM.lift (if xs.length ≤ sizeLine then some (.tup xs) else none)
def mLst (r : EM (List Val)) : EM Val := EM.bind r fun xs => EM.lift (if xs.length ≤ sizeLine then some (.lst xs) else none)
theorem sim_tup {tr : TA} {mr : EM (List Val)} (hr : Sim K c (RVs K c) E tr mr) : Sim K c (RV K c) E (tTup tr) (mTup mr) := by
  intro B G ι h H ρ σ Q hs hp
  refine hr.bind (S := RV K c) hs hp fun G1 ι1 h1 H1 ρ1 vs xs a1 b1 s1 r1 p1 => ?_
  obtain ⟨z, e, p3⟩ := p1.lift
  split at e
  · rename_i hz
    cases e
    refine ⟨by rw [← r1.length]; exact hz, fun p hp => ?_⟩
    have hg : G1 p = none := s1.st.le.free hp
    exact p3 _ _ _ _ (Hle.new hg) (Ile.refl _) (s1.new hp) (.tup (.of upd_same) (r1.mono (Hle.new hg) (Ile.refl _)))
  · cases e
theorem sim_lst {tr : TA} {mr : EM (List Val)} (hr : Sim K c (RVs K c) E tr mr) : Sim K c (RV K c) E (tLst tr) (mLst mr) := by
  intro B G ι h H ρ σ Q hs hp
  refine hr.bind (S := RV K c) hs hp fun G1 ι1 h1 H1 ρ1 vs xs a1 b1 s1 r1 p1 => ?_
  obtain ⟨z, e, p3⟩ := p1.lift
  split at e
  · rename_i hz
    cases e
    refine ⟨by rw [← r1.length]; exact hz, fun p hp => ?_⟩
    have hg : G1 p = none := s1.st.le.free hp
    exact p3 _ _ _ _ (Hle.new hg) (Ile.refl _) (s1.new hp) (.lst upd_same (r1.mono (Hle.new hg) (Ile.refl _)))
  · cases e

/-! ### calls of what is built in -/
def mCB (f : List Val → Option Val) (r : EM (List Val)) : EM Val := EM.bind r fun xs => EM.lift (f xs)
def SimRC (K : PySem.W.Frag) (c : Ctx) (r : List V → Hp → VK → Prop) (f : List Val → Option Val) : Prop :=
  ∀ B G ι h H ρ σ vs xs z, St K c B G ι h H ρ σ → VHs K c G ι H vs xs → f vs = some z →
    ∀ Q : VK, (∀ G' H' u, Hle G G' → St K c B G' ι h H' ρ σ → VR K c G' ι z u → Q u H') → r xs H Q
theorem sim_cb {r : List V → Hp → VK → Prop} {f : List Val → Option Val} {tr : TA} {mr : EM (List Val)} (hf : SimRC K c r f) (hr : Sim K c (RVs K c) E tr mr) : Sim K c (RV K c) E (tCB r tr) (mCB f mr) := by
  intro B G ι h H ρ σ Q hs hp
  refine hr.bind (S := RV K c) hs hp fun G1 ι1 h1 H1 ρ1 vs xs a1 b1 s1 r1 p1 => ?_
  obtain ⟨z, e, p3⟩ := p1.lift
  exact hf B G1 ι1 h1 H1 ρ1 σ vs xs z s1 (r1.toH s1.st.le) e Q fun G' H' u a3 s3 r3 => p3 G' ι1 H' u a3 (Ile.refl _) s3 r3
theorem SimRC.pure {r : List V → Hp → VK → Prop} {f : List Val → Option Val} (hf : ∀ G ι H vs xs z, Hle G H → VHs K c G ι H vs xs → f vs = some z → ∃ u, (∀ G ι, VR K c G ι z u) ∧ ∀ Q : VK, Q u H → r xs H Q) : SimRC K c r f := by
  intro B G ι h H ρ σ vs xs z hs rx e Q q
  obtain ⟨u, hu, k⟩ := hf G ι H vs xs z hs.st.le rx e
  exact k Q (q G H u (Hle.refl _) hs (hu _ _))
theorem VHs.oneE {v : Val} {xs} (r : VHs K c G ι H [v] xs) : ∃ x, xs = [x] ∧ VH K c G ι H v x := by
  cases r with
  | cons a b => cases b; exact ⟨_, rfl, a⟩
theorem VHs.twoE {v w : Val} {xs} (r : VHs K c G ι H [v, w] xs) : ∃ x y, xs = [x, y] ∧ VH K c G ι H v x ∧ VH K c G ι H w y := by
  cases r with
  | cons a b => cases b with
    | cons a' b' => cases b'; exact ⟨_, _, rfl, a, a'⟩
def f1 (f : Val → Option Val) : List Val → Option Val
  | [v] => f v
  | _ => none
def f2 (f : Val → Val → Option Val) : List Val → Option Val
  | [v, w] => f v w
  | _ => none
theorem f1_ok {f : Val → Option Val} {vs : List Val} {z : Val} (h : f1 f vs = some z) : ∃ v, vs = [v] ∧ f v = some z := by
  unfold f1 at h; split at h
  · exact ⟨_, rfl, h⟩
  · cases h
theorem f2_ok {f : Val → Val → Option Val} {vs : List Val} {z : Val} (h : f2 f vs = some z) : ∃ v w, vs = [v, w] ∧ f v w = some z := by
  unfold f2 at h; split at h
  · exact ⟨_, _, rfl, h⟩
  · cases h
def vAbs : Val → Option Val
  | .int i => some (.int (if i < 0 then -i else i))
  | _ => none
theorem sc_abs : SimRC K c (fun xs H Q => ∃ i, xs = [.int i] ∧ Q (.int (if i < 0 then -i else i)) H) (f1 vAbs) := SimRC.pure fun G ι H vs xs z hl rx e => by
  replace e := f1_ok e
  obtain ⟨v, rfl, e⟩ := e
  obtain ⟨x, rfl, r⟩ := rx.oneE
  cases v <;> simp [vAbs] at e
  cases r; subst e
  exact ⟨_, fun _ _ => .int _, fun Q q => ⟨_, rfl, q⟩⟩
def vMax2 : Val → Val → Option Val
  | .int i, .int j => some (.int (if j > i then j else i))
  | _, _ => none
def vMin2 : Val → Val → Option Val
  | .int i, .int j => some (.int (if j < i then j else i))
  | _, _ => none
theorem sc_max2 : SimRC K c (fun xs H Q => ∃ i j, xs = [.int i, .int j] ∧ Q (.int (if j > i then j else i)) H) (f2 vMax2) := SimRC.pure fun G ι H vs xs z hl rx e => by
  replace e := f2_ok e
  obtain ⟨v, w, rfl, e⟩ := e
  obtain ⟨x, y, rfl, r, r'⟩ := rx.twoE
  cases v <;> cases w <;> simp [vMax2] at e
  cases r; cases r'; subst e
  exact ⟨_, fun _ _ => .int _, fun Q q => ⟨_, _, rfl, q⟩⟩
theorem sc_min2 : SimRC K c (fun xs H Q => ∃ i j, xs = [.int i, .int j] ∧ Q (.int (if j < i then j else i)) H) (f2 vMin2) := SimRC.pure fun G ι H vs xs z hl rx e => by
  replace e := f2_ok e
  obtain ⟨v, w, rfl, e⟩ := e
  obtain ⟨x, y, rfl, r, r'⟩ := rx.twoE
  cases v <;> cases w <;> simp [vMin2] at e
  cases r; cases r'; subst e
  exact ⟨_, fun _ _ => .int _, fun Q q => ⟨_, _, rfl, q⟩⟩
def vInt : Val → Option Val
  | .int i => some (.int i)
  | .bl b => some (.int (if b then 1 else 0))
  | _ => none
theorem sc_int : SimRC K c (fun xs H Q => (∃ i, xs = [.int i] ∧ Q (.int i) H) ∨ ∃ k, xs = [.bl k] ∧ Q (.int (if k then 1 else 0)) H) (f1 vInt) := SimRC.pure fun G ι H vs xs z hl rx e => by
  replace e := f1_ok e
  obtain ⟨v, rfl, e⟩ := e
  obtain ⟨x, rfl, r⟩ := rx.oneE
  cases v <;> simp [vInt] at e
  · cases r; subst e
    exact ⟨_, fun _ _ => .int _, fun Q q => .inr ⟨_, rfl, q⟩⟩
  · cases r; subst e
    exact ⟨_, fun _ _ => .int _, fun Q q => .inl ⟨_, rfl, q⟩⟩
def vStr : Val → Option Val
  | .int i => if i.natAbs.log2 < 1920 then some (.str (toString i)) else none
  | _ => none
theorem sc_str : SimRC K c (fun xs H Q => ∃ i : Int, xs = [.int i] ∧ i.natAbs.log2 < 1920 ∧ Q (.str (toString i)) H) (f1 vStr) := SimRC.pure fun G ι H vs xs z hl rx e => by
  replace e := f1_ok e
  obtain ⟨v, rfl, e⟩ := e
  obtain ⟨x, rfl, r⟩ := rx.oneE
  cases v <;> simp [vStr] at e
  cases r
  obtain ⟨h1, rfl⟩ := e
  exact ⟨_, fun _ _ => .str _, fun Q q => ⟨_, rfl, h1, q⟩⟩
def vLen : Val → Option Val
  | .str s => if s.length ≤ sizeLine then some (.int s.length) else none
  | .tup vs => some (.int vs.length)
  | .lst vs => some (.int vs.length)
  | .fz vs => some (.int vs.length)
  | _ => none
theorem sc_len : SimRC K c (fun xs H Q => ∃ x n, xs = [x] ∧ LenV K x H n ∧ Q (.int n) H) (f1 vLen) := SimRC.pure fun G ι H vs xs z hl rx e => by
  replace e := f1_ok e
  obtain ⟨v, rfl, e⟩ := e
  obtain ⟨x, rfl, r⟩ := rx.oneE
  cases v with
  | str s =>
    cases r
    simp only [vLen] at e
    split at e
    · rename_i hz; cases e; exact ⟨_, fun _ _ => .int _, fun Q q => ⟨_, _, rfl, ⟨hz, rfl⟩, q⟩⟩
    · cases e
  | tup ws => obtain ⟨p, xs, rfl, hp, r⟩ := VR.tupE r; simp [vLen] at e; subst e; exact ⟨_, fun _ _ => .int _, fun Q q => ⟨_, _, rfl, .inr ⟨_, hl.sqT hp, r.length⟩, q⟩⟩
  | lst ws => obtain ⟨p, xs, rfl, hp, r⟩ := r; simp [vLen] at e; subst e; exact ⟨_, fun _ _ => .int _, fun Q q => ⟨_, _, rfl, .inl ⟨_, .of hp, r.length⟩, q⟩⟩
  | fz ws => obtain ⟨p, xs, rfl, hp, r⟩ := VR.fzE r; simp [vLen] at e; subst e; exact ⟨_, fun _ _ => .int _, fun Q q => ⟨_, _, rfl, .inl ⟨_, hl.sqL hp, r.length⟩, q⟩⟩
  | _ => simp [vLen] at e
/-- list(..), tuple(..) of a list or a tuple -/
def vList : Val → Option Val
  | .tup vs => some (.lst vs)
  | .lst vs => some (.lst vs)
  | .fz vs => some (.lst vs)
  | _ => none
theorem sc_list : SimRC K c (fun xs H Q => ∃ p ys, xs = [.ref p] ∧ (SqL K H p ys ∨ SqT K H p ys) ∧ ∀ l, H l = none → Q (.ref l) (upd H l (.lst ys))) (f1 vList) := by
  intro B G ι h H ρ σ vs xs z hs rx e Q q
  replace e := f1_ok e
  obtain ⟨v, rfl, e⟩ := e
  obtain ⟨x, rfl, r⟩ := rx.oneE
  have fin : ∀ {p ys ws}, VRs K c G ι ws ys → (SqL K H p ys ∨ SqT K H p ys) → (∀ G' H' u, Hle G G' → St K c B G' ι h H' ρ σ → VR K c G' ι (.lst ws) u → Q u H') → ∃ p' ys, [V.ref p] = [V.ref p'] ∧ (SqL K H p' ys ∨ SqT K H p' ys) ∧ ∀ l, H l = none → Q (.ref l) (upd H l (.lst ys)) := fun {p ys ws} r hh q =>
    ⟨p, ys, rfl, hh, fun l hl => q _ _ _ (Hle.new (hs.st.le.free hl)) (hs.new hl) (.lst upd_same (r.mono (Hle.new (hs.st.le.free hl)) (Ile.refl _)))⟩
  cases v with
  | tup ws => obtain ⟨p, xs, rfl, hp, r⟩ := VR.tupE r; simp [vList] at e; subst e; exact fin r (.inr (hs.st.le.sqT hp)) q
  | lst ws => obtain ⟨p, xs, rfl, hp, r⟩ := r; simp [vList] at e; subst e; exact fin r (.inl (.of hp)) q
  | fz ws => obtain ⟨p, xs, rfl, hp, r⟩ := VR.fzE r; simp [vList] at e; subst e; exact fin r (.inl (hs.st.le.sqL hp)) q
  | _ => simp [vList] at e
def vTuple : Val → Option Val
  | .tup vs => some (.tup vs)
  | .lst vs => some (.tup vs)
  | .fz vs => some (.tup vs)
  | _ => none
theorem sc_tuple : SimRC K c (fun xs H Q => ∃ p ys, xs = [.ref p] ∧ ((SqL K H p ys ∧ ∀ l, H l = none → Q (.ref l) (upd H l (.tup ys))) ∨ (SqT K H p ys ∧ Q (.ref p) H))) (f1 vTuple) := by
  intro B G ι h H ρ σ vs xs z hs rx e Q q
  replace e := f1_ok e
  obtain ⟨v, rfl, e⟩ := e
  obtain ⟨x, rfl, r⟩ := rx.oneE
  cases v with
  | tup ws => obtain ⟨p, xs, rfl, hp, r⟩ := VR.tupE r; simp [vTuple] at e; subst e; exact ⟨_, _, rfl, .inr ⟨hs.st.le.sqT hp, q _ _ _ (Hle.refl _) hs (.tup hp r)⟩⟩
  | lst ws => obtain ⟨p, xs, rfl, hp, r⟩ := r; simp [vTuple] at e; subst e; exact ⟨_, _, rfl, .inl ⟨.of hp, fun l hl => q _ _ _ (Hle.new (hs.st.le.free hl)) (hs.new hl) (.tup (.of upd_same) (r.mono (Hle.new (hs.st.le.free hl)) (Ile.refl _)))⟩⟩
  | fz ws => obtain ⟨p, xs, rfl, hp, r⟩ := VR.fzE r; simp [vTuple] at e; subst e; exact ⟨_, _, rfl, .inl ⟨hs.st.le.sqL hp, fun l hl => q _ _ _ (Hle.new (hs.st.le.free hl)) (hs.new hl) (.tup (.of upd_same) (r.mono (Hle.new (hs.st.le.free hl)) (Ile.refl _)))⟩⟩
  | _ => simp [vTuple] at e
/-- all(..), any(..) of truths; sum(..) of ints -/
def bools : List Val → Option (List Bool)
  | [] => some []
  | .bl b :: r => (bools r).map (b :: ·)
  | _ => none
theorem bools_ok : ∀ {vs : List Val} {xs : List V} {bs : List Bool}, VRs K c G ι vs xs → bools vs = some bs → xs = bs.map V.bl
  | _, _, _, .nil, e => by simp [bools] at e; subst e; rfl
  | _, _, _, .cons r rs, e => by
    cases r <;> simp [bools] at e
    obtain ⟨bs, e, rfl⟩ := e
    rw [bools_ok rs e]; rfl
def intL : List Val → Option (List Int)
  | [] => some []
  | .int b :: r => (intL r).map (b :: ·)
  | _ => none
theorem ints_ok : ∀ {vs : List Val} {xs : List V} {bs : List Int}, VRs K c G ι vs xs → intL vs = some bs → xs = bs.map V.int
  | _, _, _, .nil, e => by simp [intL] at e; subst e; rfl
  | _, _, _, .cons r rs, e => by
    cases r <;> simp [intL] at e
    obtain ⟨bs, e, rfl⟩ := e
    rw [ints_ok rs e]; rfl
def strs' : List Val → Option (List Str)
  | [] => some []
  | .str b :: r => (strs' r).map (b :: ·)
  | _ => none
theorem strs_ok : ∀ {vs : List Val} {xs : List V} {bs : List Str}, VRs K c G ι vs xs → strs' vs = some bs → xs = bs.map V.str
  | _, _, _, .nil, e => by simp [strs'] at e; subst e; rfl
  | _, _, _, .cons r rs, e => by
    cases r <;> simp [strs'] at e
    obtain ⟨bs, e, rfl⟩ := e
    rw [strs_ok rs e]; rfl
def vAll : Val → Option Val
  | .lst vs => (bools vs).map fun bs => .bl (bs.all id)
  | _ => none
def vAny : Val → Option Val
  | .lst vs => (bools vs).map fun bs => .bl (bs.any id)
  | _ => none
def vSum : Val → Option Val
  | .lst vs => (intL vs).map fun bs => .int bs.sum
  | _ => none
theorem sc_all : SimRC K c (rAll K) (f1 vAll) := SimRC.pure fun G ι H vs xs z hl rx e => by
  replace e := f1_ok e
  obtain ⟨v, rfl, e⟩ := e
  obtain ⟨x, rfl, r⟩ := rx.oneE
  cases v <;> simp [vAll] at e
  obtain ⟨p, xs, rfl, hp, r⟩ := r
  obtain ⟨bs, e, rfl⟩ := e
  have e2 := bools_ok r e
  subst e2
  exact ⟨_, fun _ _ => .bl _, fun Q q => ⟨_, bs, rfl, .of hp, q⟩⟩
theorem sc_any : SimRC K c (rAny K) (f1 vAny) := SimRC.pure fun G ι H vs xs z hl rx e => by
  replace e := f1_ok e
  obtain ⟨v, rfl, e⟩ := e
  obtain ⟨x, rfl, r⟩ := rx.oneE
  cases v <;> simp [vAny] at e
  obtain ⟨p, xs, rfl, hp, r⟩ := r
  obtain ⟨bs, e, rfl⟩ := e
  have e2 := bools_ok r e
  subst e2
  exact ⟨_, fun _ _ => .bl _, fun Q q => ⟨_, bs, rfl, .of hp, q⟩⟩
theorem sc_sum : SimRC K c (rSum K) (f1 vSum) := SimRC.pure fun G ι H vs xs z hl rx e => by
  replace e := f1_ok e
  obtain ⟨v, rfl, e⟩ := e
  obtain ⟨x, rfl, r⟩ := rx.oneE
  cases v <;> simp [vSum] at e
  obtain ⟨p, xs, rfl, hp, r⟩ := r
  obtain ⟨bs, e, rfl⟩ := e
  have e2 := ints_ok r e
  subst e2
  exact ⟨_, fun _ _ => .int _, fun Q q => ⟨_, bs, rfl, .of hp, q⟩⟩

/-! ### items -/
def fIx : Val → Val → Option Val
  | .lst vs, .int i => atI vs i
  | .fz vs, .int i => atI vs i
  | .tup vs, .int i => atI vs i
  | .str s, .int i => if s.length ≤ sizeLine then (atI s.cps.toList i).map fun q => .str ⟨#[q]⟩ else none
  | _, _ => none
theorem VRs.atI {vs : List Val} {xs : List V} {i : Int} {v : Val} (r : VRs K c G ι vs xs) (h : L2.atI vs i = some v) : ∃ x, L2.atI xs i = some x ∧ VR K c G ι v x := by
  unfold L2.atI at h ⊢
  rw [← r.length]
  cases e : ixN vs.length i with
  | none => rw [e] at h; cases h
  | some j =>
    rw [e] at h
    exact r.get h
theorem sr_ix : SimR2 K c (rIx K) fIx := by
  intro B G ι h H ρ σ vx vy x y z hs rx ry e Q q
  have hl := hs.st.le
  unfold fIx at e
  split at e
  · obtain ⟨p, xs, rfl, hp, r⟩ := rx
    obtain rfl := VR.intE ry
    obtain ⟨u, e2, ru⟩ := r.atI e
    exact .inl ⟨p, xs, _, u, rfl, rfl, .of hp, e2, q G H u (Hle.refl _) hs ru⟩
  · obtain ⟨p, xs, rfl, hp, r⟩ := VR.fzE rx
    obtain rfl := VR.intE ry
    obtain ⟨u, e2, ru⟩ := r.atI e
    exact .inl ⟨p, xs, _, u, rfl, rfl, hl.sqL hp, e2, q G H u (Hle.refl _) hs ru⟩
  · obtain ⟨p, xs, rfl, hp, r⟩ := VR.tupE rx
    obtain rfl := VR.intE ry
    obtain ⟨u, e2, ru⟩ := r.atI e
    exact .inr (.inl ⟨p, xs, _, u, rfl, rfl, hl.sqT hp, e2, q G H u (Hle.refl _) hs ru⟩)
  · cases rx; cases ry
    split at e
    · rename_i hz
      simp only [Option.map_eq_some_iff] at e
      obtain ⟨u, e, rfl⟩ := e
      exact .inr (.inr ⟨_, _, u, rfl, rfl, hz, e, q G H _ (Hle.refl _) hs (.str _)⟩)
    · cases e
  · cases e

/-! ### isinstance of a built-in class -/
def isTy (T : String) : Val → Option Bool
  | .non => kitB "NoneType" T
  | .bl _ => kitB "bool" T
  | .int _ => kitB "int" T
  | .str _ => kitB "str" T
  | .tup _ => kitB "tuple" T
  | .lst _ => kitB "list" T
  | .dct _ => kitB "dict" T
  | _ => none
end
end Mir

set_option Elab.async false
set_option linter.all false
set_option maxRecDepth 100000
set_option maxHeartbeats 4000000
namespace Mir
open PySem PySem.Spec PyProof.Rows L2

/-! ### one object more that must stay -/
def Bas.pin (B : Bas) (D : Addr) (o : HO) : Bas := { B with H := upd B.H D o }
/-- D is of no one's -/
structure Off (B : Bas) (D : Addr) : Prop where
  h : B.H D = none
  g : B.G D = none
  i : D ∉ B.ι
section
variable {K : PySem.W.Frag} {c : Ctx} {B : Bas} {G G' : Hp} {ι ι' : List Addr} {h h' : MHp} {H H' : Hp} {ρ ρ' : MEnv} {σ σ' : L2.St} {E : WX} {D : Addr} {o o' : HO}
theorem St.bfree (S : St K c B G ι h H ρ σ) {p : Addr} (hp : H p = none) : B.H p = none := by
  cases q : B.H p with
  | none => rfl
  | some u =>
    by_cases m : p ∈ B.ι
    · exact (S.st.notIn hp (S.b4.mem m)).elim
    · have := S.b1 p u q m
      rw [hp] at this; cases this
theorem St.off (S : St K c B G ι h H ρ σ) {p : Addr} (hp : H p = none) : Off B p :=
  ⟨S.bfree hp, S.b5.free (S.st.le.free hp), fun m => S.st.notIn hp (S.b4.mem m)⟩
/-- a fresh object is made and pinned -/
theorem St.pinNew (S : St K c B G ι h H ρ σ) (hD : H D = none) : St K c (B.pin D o) G ι h (upd H D o) ρ σ := by
  have S1 := S.new' (o := o) hD
  have gD : G D = none := S.st.le.free hD
  have iD : D ∉ ι := S.st.notIn hD
  refine ⟨S1.st, fun i sv hi => ?_, S.dis, fun p u e n => ?_, fun q hq => ?_, fun p u e => ?_, S.b4, S.b5⟩
  · obtain ⟨x, e1, r⟩ := S1.env i sv hi
    refine ⟨x, e1, ?_⟩
    cases sv with
    | un => trivial
    | val v => exact r
    | own cl =>
      obtain ⟨p, e, g, n, b, q⟩ := r
      refine ⟨p, e, g, n, ?_, q⟩
      have pD : p ≠ D := by
        obtain ⟨x0, e0, r0⟩ := S.env i _ hi
        obtain ⟨p0, e00, _, _, _, q0⟩ := r0
        rw [e1] at e0; cases e0
        rw [e] at e00; cases e00
        obtain ⟨u, hu⟩ := q0.some
        exact ne_of_none hu hD
      show upd B.H D o p = none
      rw [upd_ne pD]; exact b
  · change upd B.H D o p = some u at e
    by_cases z : p = D
    · subst z; rw [upd_same] at e ⊢; exact e
    · rw [upd_ne z] at e ⊢; exact S.b1 p u e n
  · rcases S.b2 q hq with z | z
    · exact .inl z
    · refine .inr ?_
      show upd B.H D o q = none
      rw [upd_ne (fun e : q = D => iD (by rw [← e]; exact hq))]; exact z
  · rcases S.b3 p u e with z | z
    · exact .inl z
    · refine .inr ?_
      show upd B.H D o p = none
      rw [upd_ne (ne_of_none e gD)]; exact z
theorem St.pinFacts (F : Off B D) (S : St K c (B.pin D o) G ι h H ρ σ) : H D = some o ∧ G D = none ∧ D ∉ ι := by
  have e : (B.pin D o).H D = some o := upd_same
  refine ⟨S.b1 D o e F.i, ?_, fun m => ?_⟩
  · cases q : G D with
    | none => rfl
    | some u =>
      rcases S.b3 D u q with z | z
      · have z' : B.G D = some u := z
        rw [F.g] at z'; cases z'
      · rw [e] at z; cases z
  · rcases S.b2 D m with z | z
    · exact F.i z
    · rw [e] at z; cases z
theorem St.unpin (F : Off B D) (S : St K c (B.pin D o) G ι h H ρ σ) : St K c B G ι h H ρ σ := by
  obtain ⟨hD, gD, iD⟩ := St.pinFacts F S
  have back : ∀ p, (B.pin D o).H p = none → B.H p = none := fun p e => by
    have e' : upd B.H D o p = none := e
    by_cases z : p = D
    · subst z; rw [upd_same] at e'; cases e'
    · rw [upd_ne z] at e'; exact e'
  refine ⟨S.st, fun i sv hi => ?_, S.dis, fun p u e n => ?_, fun q hq => (S.b2 q hq).imp id (back q), fun p u e => (S.b3 p u e).imp id (back p), S.b4, S.b5⟩
  · obtain ⟨x, e1, r⟩ := S.env i sv hi
    refine ⟨x, e1, ?_⟩
    cases sv with
    | un => trivial
    | val v => exact r
    | own cl =>
      obtain ⟨p, e, g, n, b, q⟩ := r
      exact ⟨p, e, g, n, back p b, q⟩
  · refine S.b1 p u ?_ n
    show upd B.H D o p = some u
    rw [upd_ne (ne_of_none e F.h)]; exact e
/-- the pinned object changes -/
theorem St.repin (F : Off B D) (S : St K c (B.pin D o) G ι h H ρ σ) : St K c (B.pin D o') G ι h (upd H D o') ρ σ := by
  obtain ⟨hD, gD, iD⟩ := St.pinFacts F S
  have swap : ∀ p, (B.pin D o).H p = none → (B.pin D o').H p = none := fun p e => by
    have e' : upd B.H D o p = none := e
    show upd B.H D o' p = none
    by_cases z : p = D
    · subst z; rw [upd_same] at e'; cases e'
    · rw [upd_ne z] at e' ⊢; exact e'
  have keep : ∀ p u, p ≠ D → H p = some u → upd H D o' p = some u := fun p u z e => by rw [upd_ne z]; exact e
  refine ⟨⟨fun p u e => keep p u (ne_of_none e gD) (S.st.le p u e), S.st.len, S.st.nd, S.st.out, fun i p cl h1 h2 => ?_⟩, fun i sv hi => ?_, S.dis, fun p u e n => ?_, fun q hq => (S.b2 q hq).imp id (swap q), fun p u e => (S.b3 p u e).imp id (swap p), S.b4, S.b5⟩
  · have np : p ≠ D := fun z => iD (by rw [← z]; exact List.mem_of_getElem? h1)
    exact (S.st.cell i p cl h1 h2).mono (Hle.refl _) (Ile.refl _) fun u e => keep p u np e
  · obtain ⟨x, e1, r⟩ := S.env i sv hi
    refine ⟨x, e1, ?_⟩
    cases sv with
    | un => trivial
    | val v => exact r
    | own cl =>
      obtain ⟨p, e, g, n, b, q⟩ := r
      have np : p ≠ D := fun z => by
        have e' : upd B.H D o p = none := b
        rw [z, upd_same] at e'; cases e'
      exact ⟨p, e, g, n, swap p b, q.mono (Hle.refl _) (Ile.refl _) fun u e => keep p u np e⟩
  · have e' : upd B.H D o' p = some u := e
    by_cases z : p = D
    · subst z; rw [upd_same] at e' ⊢; exact e'
    · rw [upd_ne z] at e'
      refine keep p u z (S.b1 p u ?_ n)
      show upd B.H D o p = some u
      rw [upd_ne z]; exact e'
/-- the pinned object is known by value from now on -/
theorem St.know (F : Off B D) (S : St K c (B.pin D o) G ι h H ρ σ) : St K c B (upd G D o) ι h H ρ σ := by
  obtain ⟨hD, gD, iD⟩ := St.pinFacts F S
  have S1 := S.unpin F
  have hle : Hle G (upd G D o) := Hle.new gD
  refine ⟨⟨fun p u e => ?_, S.st.len, S.st.nd, fun q hq => ?_, fun i p cl h1 h2 => (S.st.cell i p cl h1 h2).mono hle (Ile.refl _) fun _ e => e⟩, fun i sv hi => ?_, S1.dis, S1.b1, S1.b2, fun p u e => ?_, S1.b4, S1.b5.trans hle⟩
  · by_cases z : p = D
    · subst z; rw [upd_same] at e; rw [hD]; exact e
    · rw [upd_ne z] at e; exact S.st.le p u e
  · rw [upd_ne (fun z : q = D => iD (by rw [← z]; exact hq))]; exact S.st.out q hq
  · obtain ⟨x, e1, r⟩ := S.env i sv hi
    refine ⟨x, e1, ?_⟩
    obtain ⟨x', e1', r'⟩ := S1.env i sv hi
    rw [e1] at e1'; cases e1'
    cases sv with
    | un => trivial
    | val v => obtain ⟨y, e, q⟩ := r; exact ⟨y, e, q.mono hle (Ile.refl _)⟩
    | own cl =>
      obtain ⟨p, e, g, n, b, q⟩ := r
      obtain ⟨p', e', g', n', b', q'⟩ := r'
      rw [e] at e'; cases e'
      have np : p ≠ D := fun z => by
        have e' : upd B.H D o p = none := b
        rw [z, upd_same] at e'; cases e'
      exact ⟨p, e, by rw [upd_ne np]; exact g, n, b', q.mono hle (Ile.refl _) fun _ e => e⟩
  · by_cases z : p = D
    · subst z; exact .inr F.h
    · rw [upd_ne z] at e; exact S1.b3 p u e

/-! ### slots -/
theorem St.set (S : St K c B G ι h H ρ σ) {i : Nat} {v : Val} {x : V} (r : VR K c G ι v x) : St K c B G ι h H (ρ.set i (.val v)) (σ.set i (some x)) := by
  refine ⟨S.st, fun j sv hj => ?_, fun j k c1 c2 p h1 h2 h3 h4 => ?_, S.b1, S.b2, S.b3, S.b4, S.b5⟩
  · by_cases z : i = j
    · subst z
      by_cases hl : i < ρ.length
      · rw [List.getElem?_set_self hl] at hj
        cases hj
        obtain ⟨x0, e0, _⟩ := S.env i _ (List.getElem?_eq_getElem hl)
        exact ⟨some x, List.getElem?_set_self (List.getElem?_eq_some_iff.mp e0).1, x, rfl, r⟩
      · rw [List.getElem?_eq_none (by simpa using hl)] at hj; cases hj
    · rw [List.getElem?_set_ne z] at hj ⊢
      exact S.env j sv hj
  · have nj : i ≠ j := fun z => by
      subst z
      by_cases hl : i < ρ.length
      · rw [List.getElem?_set_self hl] at h1; cases h1
      · rw [List.getElem?_eq_none (by simpa using hl)] at h1; cases h1
    have nk : i ≠ k := fun z => by
      subst z
      by_cases hl : i < ρ.length
      · rw [List.getElem?_set_self hl] at h2; cases h2
      · rw [List.getElem?_eq_none (by simpa using hl)] at h2; cases h2
    rw [List.getElem?_set_ne nj] at h1 h3
    rw [List.getElem?_set_ne nk] at h2 h4
    exact S.dis j k c1 c2 p h1 h2 h3 h4
/-- what a fresh object's description says -/
def CO (K : PySem.W.Frag) (c : Ctx) (G : Hp) (ι : List Addr) : Cell → HO → Prop
  | .lst vs, o => ∃ xs, o = .lst xs ∧ VRs K c G ι vs xs
  | .ins C fs, o => ∃ dx xs, o = .ins (c.CT C) dx xs ∧ FRs K c G ι fs xs
  | .dct kvs, o => ∃ xs, o = .dK xs ∧ KVRs K c G ι kvs xs
theorem CO.cr {cl : Cell} {p : Addr} (e : H p = some o) (r : CO K c G ι cl o) : CR K c G ι H p cl := by
  cases cl with
  | lst vs => obtain ⟨xs, rfl, q⟩ := r; exact ⟨xs, e, q⟩
  | ins C fs => obtain ⟨dx, xs, rfl, q⟩ := r; exact ⟨dx, xs, e, q⟩
  | dct kvs => obtain ⟨xs, rfl, q⟩ := r; exact ⟨xs, e, q⟩
theorem CR.co {cl : Cell} {p : Addr} (r : CR K c G ι H p cl) : ∃ o, H p = Option.some o ∧ CO K c G ι cl o := by
  cases cl with
  | lst vs => obtain ⟨xs, e, q⟩ := r; exact ⟨_, e, xs, rfl, q⟩
  | ins C fs => obtain ⟨dx, xs, e, q⟩ := r; exact ⟨_, e, dx, xs, rfl, q⟩
  | dct kvs => obtain ⟨xs, e, q⟩ := r; exact ⟨_, e, xs, rfl, q⟩
def Cell.val : Cell → Val
  | .lst vs => .lst vs
  | .ins C fs => .obj C fs
  | .dct kvs => .dct kvs
theorem CO.val {cl : Cell} {p : Addr} (e : G p = some o) (r : CO K c G ι cl o) : VR K c G ι cl.val (.ref p) := by
  cases cl with
  | lst vs => obtain ⟨xs, rfl, q⟩ := r; exact .lst e q
  | ins C fs => obtain ⟨dx, xs, rfl, q⟩ := r; exact .obj e q
  | dct kvs => obtain ⟨xs, rfl, q⟩ := r; exact .dct e q
theorem CO.mono {cl : Cell} (hG : Hle G G') (hι : Ile ι ι') (r : CO K c G ι cl o) : CO K c G' ι' cl o := by
  cases cl with
  | lst vs => obtain ⟨xs, rfl, q⟩ := r; exact ⟨xs, rfl, q.mono hG hι⟩
  | ins C fs => obtain ⟨dx, xs, rfl, q⟩ := r; exact ⟨dx, xs, rfl, q.mono hG hι⟩
  | dct kvs => obtain ⟨xs, rfl, q⟩ := r; exact ⟨xs, rfl, q.mono hG hι⟩
theorem St.own (F : Off B D) (S : St K c (B.pin D o) G ι h H ρ σ) {i : Nat} {cl : Cell} (r : CO K c G ι cl o) : St K c B G ι h H (ρ.set i (.own cl)) (σ.set i (some (.ref D))) := by
  obtain ⟨hD, gD, iD⟩ := St.pinFacts F S
  have S1 := S.unpin F
  have notD : ∀ (j : Nat) c1, ρ[j]? = some (.own c1) → σ[j]? ≠ some (some (.ref D)) := fun j c1 hj e => by
    obtain ⟨x, e1, p, e2, _, _, b, _⟩ := S.env j _ hj
    rw [e] at e1; cases e1
    cases e2
    have e' : upd B.H D o D = none := b
    rw [upd_same] at e'; cases e'
  refine ⟨S1.st, fun j sv hj => ?_, fun j k c1 c2 p h1 h2 h3 h4 => ?_, S1.b1, S1.b2, S1.b3, S1.b4, S1.b5⟩
  · by_cases z : i = j
    · subst z
      by_cases hl : i < ρ.length
      · rw [List.getElem?_set_self hl] at hj
        cases hj
        obtain ⟨x0, e0, _⟩ := S.env i _ (List.getElem?_eq_getElem hl)
        exact ⟨_, List.getElem?_set_self (List.getElem?_eq_some_iff.mp e0).1, D, rfl, gD, iD, F.h, r.cr hD⟩
      · rw [List.getElem?_eq_none (by simpa using hl)] at hj; cases hj
    · rw [List.getElem?_set_ne z] at hj ⊢
      exact S1.env j sv hj
  · have inI : ∀ (l : Nat), l < ρ.length → l < σ.length := fun l hl => by
      obtain ⟨x0, e0, _⟩ := S.env l _ (List.getElem?_eq_getElem hl)
      exact (List.getElem?_eq_some_iff.mp e0).1
    by_cases zj : i = j
    · by_cases zk : i = k
      · rw [← zj, ← zk]
      · subst zj
        rw [List.getElem?_set_ne zk] at h2 h4
        have hl : i < ρ.length := by
          have := (List.getElem?_eq_some_iff.mp h1).1
          simpa using this
        rw [List.getElem?_set_self (inI i hl)] at h3
        cases h3
        exact (notD k c2 h2 h4).elim
    · rw [List.getElem?_set_ne zj] at h1 h3
      by_cases zk : i = k
      · subst zk
        have hl : i < ρ.length := by
          have := (List.getElem?_eq_some_iff.mp h2).1
          simpa using this
        rw [List.getElem?_set_self (inI i hl)] at h4
        cases h4
        exact (notD j c1 h1 h3).elim
      · rw [List.getElem?_set_ne zk] at h2 h4
        exact S1.dis j k c1 c2 p h1 h2 h3 h4

/-! ### behind a call -/
theorem St.call (S : St K c B G ι h H ρ σ) (hG : Hle G G') (hι : Ile ι ι') (hf : ∀ q ∈ ι', q ∈ ι ∨ H q = none) (hH : ∀ p o, H p = some o → p ∉ ι → H' p = some o) (hg : ∀ p o, G' p = some o → G p = some o ∨ H p = none)
    (S' : Stc K c G' ι' h' H') : St K c B G' ι' h' H' ρ σ := by
  have bh : ∀ p u, B.H p = some u → p ∉ B.ι → p ∉ ι := fun p u e n m => by
    rcases S.b2 p m with z | z
    · exact n z
    · rw [e] at z; cases z
  refine ⟨S', fun i sv hi => ?_, S.dis, fun p u e n => hH p u (S.b1 p u e n) (bh p u e n), fun q hq => ?_, fun p u e => ?_, S.b4.trans hι, S.b5.trans hG⟩
  · obtain ⟨x, e1, r⟩ := S.env i sv hi
    refine ⟨x, e1, r.mono hG hι fun p u g n b e => ⟨hH p u e n, ?_, fun m => ?_⟩⟩
    · cases q : G' p with
      | none => rfl
      | some w =>
        rcases hg p w q with z | z
        · rw [g] at z; cases z
        · rw [e] at z; cases z
    · rcases hf p m with z | z
      · exact n z
      · rw [e] at z; cases z
  · rcases hf q hq with z | z
    · exact S.b2 q z
    · exact .inr (S.bfree z)
  · rcases hg p u e with z | z
    · exact S.b3 p u z
    · exact .inr (S.bfree z)
end

/-! ### what a mirrored def promises -/
def PostF (K : PySem.W.Frag) (c : Ctx) (G : Hp) (ι : List Addr) (H : Hp) (r : RE Val) (Q : VK) (E : XK) : Prop := match r with
  | .ok v _ h' => ∀ G' ι' H' x, Hle G G' → Ile ι ι' → (∀ q ∈ ι', q ∈ ι ∨ H q = none) → (∀ p o, H p = some o → p ∉ ι → H' p = some o) → (∀ p o, G' p = some o → G p = some o ∨ H p = none) → Stc K c G' ι' h' H' → VR K c G' ι' v x → Q x H'
  | .exc C fs _ h' => ∀ G' ι' H' cls d, Hle G G' → Ile ι ι' → (∀ q ∈ ι', q ∈ ι ∨ H q = none) → (∀ p o, H p = some o → p ∉ ι → H' p = some o) → (∀ p o, G' p = some o → G p = some o ∨ H p = none) → Stc K c G' ι' h' H' → XR K c G' ι' H' C fs cls d → E cls d H'
  | .fail => False
def spM (K : PySem.W.Frag) (c : Ctx) (n : Nat) (m : List Val → MHp → RE Val) : Sp := fun vs H Q E => ∃ G ι h avs, avs.length = n ∧ Stc K c G ι h H ∧ VRs K c G ι avs vs ∧ PostF K c G ι H (m avs h) Q E
def mCall (m : List Val → MHp → RE Val) (dv : List Val) (r : EM (List Val)) : EM Val := EM.bind r fun vs ρ h => match m (vs ++ dv) h with
  | .ok v _ h' => .ok v ρ h'
  | .exc C fs _ h' => .exc C fs ρ h'
  | .fail => .fail
section
variable {K : PySem.W.Frag} {c : Ctx} {E : WX}
theorem sim_call {n : Nat} {m : List Val → MHp → RE Val} {dv : List Val} {dvs : List V} {tr : TA} {mr : EM (List Val)} (hd : ∀ G ι, VRs K c G ι dv dvs) (hm : ∀ vs h, vs.length ≠ n → m vs h = .fail)
    (hr : Sim K c (RVs K c) E tr mr) : Sim K c (RV K c) E (tCallSD (spM K c n m) dvs (WE E) tr) (mCall m dv mr) := by
  intro B G ι h H ρ σ Q hs hp
  refine hr.bind (S := RV K c) hs hp fun G1 ι1 h1 H1 ρ1 vs xs a1 b1 s1 r1 hp1 => ?_
  have hl : (vs ++ dv).length = n := by
    by_cases z : (vs ++ dv).length = n
    · exact z
    · rw [hm _ _ z] at hp1; exact hp1.elim
  refine ⟨G1, ι1, h1, vs ++ dv, hl, s1.st, r1.append (hd _ _), ?_⟩
  cases e2 : m (vs ++ dv) h1 with
  | ok v ρ2 h2 =>
    rw [e2] at hp1
    intro G' ι' H' x hG hι hf hH hg S' r'
    exact hp1 G' ι' H' x hG hι (s1.call hG hι hf hH hg S') r'
  | exc C fs ρ2 h2 =>
    rw [e2] at hp1
    intro G' ι' H' cls d hG hι hf hH hg S' r'
    exact hp1 G' ι' H' cls d hG hι (s1.call hG hι hf hH hg S') r'
  | fail =>
    rw [e2] at hp1
    exact hp1

/-! ### what is walked -/
def JR (K : PySem.W.Frag) (c : Ctx) (J : It) (G : Hp) (ι : List Addr) (vs : List Val) : Prop := ∀ B G' ι' h H ρ σ, Hle G G' → Ile ι ι' → St K c B G' ι' h H ρ σ →
  J.stop vs.length H ∧ ∀ (i : Nat) v, vs[i]? = some v → J.go i H ∧ ∀ x H', J.yld i H x H' → ∃ G'', Hle G' G'' ∧ St K c B G'' ι' h H' ρ σ ∧ VR K c G'' ι' v x
theorem JR.mono {J : It} {G G' : Hp} {ι ι' : List Addr} {vs : List Val} (hG : Hle G G') (hι : Ile ι ι') (r : JR K c J G ι vs) : JR K c J G' ι' vs :=
  fun B G2 ι2 h H ρ σ a b s => r B G2 ι2 h H ρ σ (hG.trans a) (hι.trans b) s
abbrev RJ (K : PySem.W.Frag) (c : Ctx) : RelT (List Val) It := fun G ι vs J => JR K c J G ι vs
def items : Val → Option (List Val)
  | .lst vs => some vs
  | .fz vs => some vs
  | .tup vs => some vs
  | .str s => some (s.cps.toList.map fun q => .str ⟨#[q]⟩)
  | _ => none
def iSeq (K : PySem.W.Frag) (tl : TE) : TI := fun σ H R => tl σ H fun x H1 => (∃ a, x = .ref a ∧ (∃ xs, SqL K H1 a xs) ∧ R (Itl K a) H1) ∨ (∃ a, x = .ref a ∧ (∃ xs, SqT K H1 a xs) ∧ R (Itt K a) H1) ∨ ∃ s, x = .str s ∧ R (Its s) H1
theorem jr_list {G : Hp} {ι : List Addr} {a : Addr} {xs : List V} {vs : List Val} (hx : SqL K G a xs) (r : VRs K c G ι vs xs) : JR K c (Itl K a) G ι vs := by
  intro B G' ι' h H ρ σ hG hι S
  have hx' : SqL K H a xs := (hG.trans S.st.le).sqL hx
  refine ⟨⟨xs, hx', by rw [r.length]; exact Nat.le_refl _⟩, fun i v hv => ?_⟩
  obtain ⟨y, hy, ry⟩ := r.get hv
  refine ⟨⟨xs, y, hx', hy⟩, fun x H' hh => ?_⟩
  obtain ⟨rfl, hx2⟩ := hh
  have := hx2 xs hx'
  rw [hy] at this; cases this
  exact ⟨G', Hle.refl _, S, ry.mono hG hι⟩
theorem jr_tup {G : Hp} {ι : List Addr} {a : Addr} {xs : List V} {vs : List Val} (hx : SqT K G a xs) (r : VRs K c G ι vs xs) : JR K c (Itt K a) G ι vs := by
  intro B G' ι' h H ρ σ hG hι S
  have hx' : SqT K H a xs := (hG.trans S.st.le).sqT hx
  refine ⟨⟨xs, hx', by rw [r.length]; exact Nat.le_refl _⟩, fun i v hv => ?_⟩
  obtain ⟨y, hy, ry⟩ := r.get hv
  refine ⟨⟨xs, y, hx', hy⟩, fun x H' hh => ?_⟩
  obtain ⟨rfl, hx2⟩ := hh
  have := hx2 xs hx'
  rw [hy] at this; cases this
  exact ⟨G', Hle.refl _, S, ry.mono hG hι⟩
theorem jr_str {G : Hp} {ι : List Addr} {s : Str} : JR K c (Its s) G ι (s.cps.toList.map fun q => .str ⟨#[q]⟩) := by
  intro B G' ι' h H ρ σ hG hι S
  refine ⟨?_, fun i v hv => ?_⟩
  · show s.cps.size ≤ (s.cps.toList.map fun q => Val.str ⟨#[q]⟩).length
    simp
  · rw [List.getElem?_map, Option.map_eq_some_iff] at hv
    obtain ⟨q, hq, rfl⟩ := hv
    have hq' : s.cps[i]? = some q := by simpa using hq
    refine ⟨(Array.getElem?_eq_some_iff.mp hq').1, fun x H' hh => ?_⟩
    obtain ⟨rfl, q2, h2, rfl⟩ := hh
    rw [hq'] at h2; cases h2
    exact ⟨G', Hle.refl _, S, .str _⟩
def mSeq (a : EM Val) : EM (List Val) := EM.bind a fun v => EM.lift (items v)
theorem sim_seq {ta : TE} {ma : EM Val} (ha : Sim K c (RV K c) E ta ma) : Sim K c (RJ K c) E (iSeq K ta) (mSeq ma) := by
  intro B G ι h H ρ σ Q hs hp
  refine ha.bind (S := RJ K c) hs hp fun G1 ι1 h1 H1 ρ1 v x a1 b1 s1 r1 p1 => ?_
  obtain ⟨vs, e, p2⟩ := p1.lift
  cases v with
  | lst ws =>
    obtain ⟨p, xs, rfl, hp, r⟩ := r1.lstE
    cases e
    exact .inl ⟨p, rfl, ⟨xs, .of (s1.st.le _ _ hp)⟩, Post.pure (R := RJ K c) p2 s1 (jr_list (.of hp) r)⟩
  | fz ws =>
    obtain ⟨p, xs, rfl, hp, r⟩ := r1.fzE
    cases e
    exact .inl ⟨p, rfl, ⟨xs, s1.st.le.sqL hp⟩, Post.pure (R := RJ K c) p2 s1 (jr_list hp r)⟩
  | tup ws =>
    obtain ⟨p, xs, rfl, hp, r⟩ := r1.tupE
    cases e
    exact .inr (.inl ⟨p, rfl, ⟨xs, s1.st.le.sqT hp⟩, Post.pure (R := RJ K c) p2 s1 (jr_tup hp r)⟩)
  | str s =>
    cases r1
    cases e
    exact .inr (.inr ⟨s, rfl, Post.pure (R := RJ K c) p2 s1 jr_str⟩)
  | _ => cases e
theorem pi_seq {X : Cx} {tg l : Expr} {tl : TE} (hl : PE X l tl) : PI X tg l (iSeq X.K tl) := by
  refine ⟨fun pins s σ H R I h => ?_⟩
  refine thn (hl.run pins s σ H _ I h) fun v s1 ⟨x, H1, I1, r1, q1⟩ => ?_
  rcases q1 with ⟨a, e, ⟨xs, hq⟩, q⟩ | ⟨a, e, ⟨xs, hq⟩, q⟩ | ⟨y, e, q⟩
  · subst e
    cases r1
    obtain ⟨its, rv, p, hz⟩ := I1.list hq
    refine wpAny_pyIter_list p.isList ?_
    refine ⟨s1.heap.objs.size, [s1.heap.objs.size], _, _, H1, rfl, I1.kept (t' := s1.toks) fun b o e => Heap.get?_push_of_some _ e, turn_list a _, ⟨_, Heap.get?_push_size _ rfl, rfl, rfl⟩, fun b hb => ?_, q⟩
    have e : b = s1.heap.objs.size := by simpa using hb
    subst e
    exact I1.fpOk (Nat.le_refl _) (I1.hok.fresh (Nat.le_refl _))
  · subst e
    cases r1
    obtain ⟨its, rv, p, hz⟩ := I1.tuple hq
    refine wpAny_pyIter_tuple (show s1.heap.IsTuple a its.toArray from p) ?_
    refine ⟨s1.heap.objs.size, [s1.heap.objs.size], _, _, H1, rfl, I1.kept (t' := s1.toks) fun b o e => Heap.get?_push_of_some _ e, turn_tuple a _, ⟨_, Heap.get?_push_size _ rfl, rfl, rfl⟩, fun b hb => ?_, q⟩
    have e : b = s1.heap.objs.size := by simpa using hb
    subst e
    exact I1.fpOk (Nat.le_refl _) (I1.hok.fresh (Nat.le_refl _))
  · subst e
    obtain ⟨t, rfl⟩ := r1
    cases ha : y.cps.all (· < 128)
    · exact wpAny_pyIter_wide ha (pi_one (tk := s1.toks) I1 _ (turn_str _ y t "str_iterator" (.inr rfl)) ⟨_, Heap.get?_push_size _ rfl, rfl, rfl⟩ q)
    · exact wpAny_pyIter_ascii ha (pi_one (tk := s1.toks) I1 _ (turn_str _ y t "str_ascii_iterator" (.inl rfl)) ⟨_, Heap.get?_push_size _ rfl, rfl, rfl⟩ q)
def mRange1 (r : EM (List Val)) : EM (List Val) := EM.bind r fun vs => EM.lift (match vs with
  | [.int j] => if -(2 ^ 62) ≤ j ∧ j < 2 ^ 62 then some ((List.range j.toNat).map fun k => .int (k : Nat)) else none
  | _ => none)
theorem jr_range {G : Hp} {ι : List Addr} {lo : Int} {n : Nat} : JR K c (Itr lo n) G ι ((List.range n).map fun k => .int (lo + (k : Nat))) := by
  intro B G' ι' h H ρ σ hG hι S
  refine ⟨?_, fun i v hv => ?_⟩
  · show n ≤ ((List.range n).map fun k => Val.int (lo + (k : Nat))).length
    simp
  · rw [List.getElem?_map, Option.map_eq_some_iff] at hv
    obtain ⟨q, hq, rfl⟩ := hv
    obtain ⟨hi, e⟩ := List.getElem?_eq_some_iff.mp hq
    simp at hi e
    subst e
    refine ⟨hi, fun x H' hh => ?_⟩
    obtain ⟨rfl, rfl⟩ := hh
    exact ⟨G', Hle.refl _, S, .int _⟩
theorem sim_range1 {tr : TA} {mr : EM (List Val)} (hr : Sim K c (RVs K c) E tr mr) : Sim K c (RJ K c) E (iRng1 tr) (mRange1 mr) := by
  intro B G ι h H ρ σ Q hs hp
  refine hr.bind (S := RJ K c) hs hp fun G1 ι1 h1 H1 ρ1 vs xs a1 b1 s1 r1 p1 => ?_
  obtain ⟨ws, e, p2⟩ := p1.lift
  split at e
  · rename_i j
    split at e
    · rename_i hz
      cases e
      obtain ⟨y, ys, rfl, ry, rs⟩ := r1.consE
      obtain rfl := rs.nilE
      cases ry
      refine ⟨j, rfl, hz.1, hz.2, Post.pure (R := RJ K c) p2 s1 ?_⟩
      have := jr_range (K := K) (c := c) (G := G1) (ι := ι1) (lo := 0) (n := j.toNat)
      simpa using this
    · cases e
  · cases e
end
end Mir

set_option Elab.async false
set_option linter.all false
set_option maxRecDepth 100000
set_option maxHeartbeats 4000000
namespace Mir
open PySem PySem.Spec PyProof.Rows L2

section
variable {K : PySem.W.Frag} {c : Ctx} {B : Bas} {G G' : Hp} {ι ι' : List Addr} {h h' : MHp} {H H' : Hp} {ρ ρ' : MEnv} {σ σ' : L2.St} {E : WX} {D : Addr} {o o' : HO}

/-! ### targets -/
def wipeM (ρ : MEnv) : List Nat → MEnv
  | [] => ρ
  | v :: vs => (wipeM ρ vs).set v .un
abbrev TgM := Val → MEnv → Option MEnv
/-- a target that stores at the slots is -/
def SimG (K : PySem.W.Frag) (c : Ctx) (is : List Nat) (g : TG) (tg : TgM) : Prop :=
  ∀ B G ι h H ρ σ v x ρ' (Q : L2.St → Hp → Prop), St K c B G ι h H ρ σ → VR K c G ι v x → tg v ρ = some ρ' →
    (∀ σ', St K c B G ι h H ρ' σ' → (∀ vs : List Nat, (∀ i ∈ is, i ∈ vs) → wipe σ' vs = wipe σ vs) → Q σ' H) → g x σ H Q
theorem wipe_set {σ : L2.St} {i : Nat} {x : Option V} : ∀ {vs : List Nat}, i ∈ vs → wipe (σ.set i x) vs = wipe σ vs
  | [], h => by cases h
  | v :: vs, h => by
    unfold wipe
    by_cases hv : i ∈ vs
    · rw [wipe_set hv]
    · have e : i = v := by
        rcases List.mem_cons.mp h with z | z
        · exact z
        · exact (hv z).elim
      subst e
      clear h
      induction vs with
      | nil => unfold wipe; rw [List.set_set]
      | cons w ws ih =>
        have h1 : i ≠ w := fun z => hv (by rw [z]; exact List.mem_cons_self)
        have h2 : i ∉ ws := fun z => hv (List.mem_cons_of_mem _ z)
        unfold wipe
        rw [List.set_comm _ _ (Ne.symm h1), ih h2, List.set_comm _ _ h1]
def gmName (i : Nat) : TgM := fun v ρ => some (ρ.set i (.val v))
theorem sg_name (i : Nat) : SimG K c [i] (gName i) (gmName i) := by
  intro B G ι h H ρ σ v x ρ' Q S r e k
  cases e
  exact k _ (S.set r) fun vs hv => wipe_set (hv i (by simp))
abbrev TgsM := List Val → MEnv → Option MEnv
def SimGs (K : PySem.W.Frag) (c : Ctx) (is : List Nat) (g : TGs) (tg : TgsM) : Prop :=
  ∀ B G ι h H ρ σ vs xs ρ' (Q : L2.St → Hp → Prop), St K c B G ι h H ρ σ → VRs K c G ι vs xs → tg vs ρ = some ρ' →
    (∀ σ', St K c B G ι h H ρ' σ' → (∀ vs : List Nat, (∀ i ∈ is, i ∈ vs) → wipe σ' vs = wipe σ vs) → Q σ' H) → g xs σ H Q
def gmNil : TgsM := fun vs ρ => match vs with | [] => some ρ | _ => none
def gmCons (a : TgM) (b : TgsM) : TgsM := fun vs ρ => match vs with
  | v :: r => (a v ρ).bind fun ρ1 => b r ρ1
  | [] => none
theorem sgs_nil : SimGs K c [] gNil gmNil := by
  intro B G ι h H ρ σ vs xs ρ' Q S r e k
  cases vs with
  | nil => cases e; obtain rfl := r.nilE; exact ⟨rfl, k σ S fun _ _ => rfl⟩
  | cons _ _ => cases e
theorem sgs_cons {is js : List Nat} {g : TG} {gs : TGs} {a : TgM} {b : TgsM} (h1 : SimG K c is g a) (h2 : SimGs K c js gs b) : SimGs K c (is ++ js) (gCons g gs) (gmCons a b) := by
  intro B G ι h H ρ σ vs xs ρ' Q S r e k
  cases vs with
  | nil => cases e
  | cons v vr =>
    obtain ⟨x, ys, rfl, rv, rr⟩ := r.consE
    simp only [gmCons, Option.bind_eq_some_iff] at e
    obtain ⟨ρ1, e1, e2⟩ := e
    refine ⟨x, ys, rfl, h1 B G ι h H ρ σ v x ρ1 _ S rv e1 fun σ1 S1 w1 => ?_⟩
    refine h2 B G ι h H ρ1 σ1 vr ys ρ' Q S1 rr e2 fun σ2 S2 w2 => k σ2 S2 fun vs hv => ?_
    rw [w2 vs fun i hi => hv i (List.mem_append_right _ hi), w1 vs fun i hi => hv i (List.mem_append_left _ hi)]
def gmTup (n : Nat) (b : TgsM) : TgM := fun v ρ => match v with
  | .tup vs => if vs.length = n then b vs ρ else none
  | _ => none
theorem sg_tup {is : List Nat} {gs : TGs} {b : TgsM} {n : Nat} (h : SimGs K c is gs b) : SimG K c is (gTup K n gs) (gmTup n b) := by
  intro B G ι h' H ρ σ v x ρ' Q S r e k
  unfold gmTup at e
  split at e
  · split at e
    · rename_i vs hz
      obtain ⟨p, xs, rfl, hp, rs⟩ := r.tupE
      exact ⟨p, xs, rfl, S.st.le.sqT hp, by rw [← rs.length]; exact hz, h B G ι h' H ρ σ vs xs ρ' Q S rs e k⟩
    · cases e
  · cases e

/-! ### list comprehensions -/
theorem get_wipeM {ρ : MEnv} {i : Nat} {sv : SV} : ∀ {vs : List Nat}, (wipeM ρ vs)[i]? = some sv → (i ∈ vs ∧ sv = .un) ∨ (i ∉ vs ∧ ρ[i]? = some sv)
  | [], h => .inr ⟨by simp, h⟩
  | v :: vs, h => by
    unfold wipeM at h
    by_cases e : v = i
    · subst e
      by_cases hl : v < (wipeM ρ vs).length
      · rw [List.getElem?_set_self hl] at h
        cases h
        exact .inl ⟨by simp, rfl⟩
      · rw [List.getElem?_eq_none (by simpa using hl)] at h; cases h
    · rw [List.getElem?_set_ne e] at h
      rcases get_wipeM h with ⟨a, b⟩ | ⟨a, b⟩
      · exact .inl ⟨List.mem_cons_of_mem _ a, b⟩
      · exact .inr ⟨by simp only [List.mem_cons, not_or]; exact ⟨fun z => e z.symm, a⟩, b⟩
theorem wipeM_length (τ : MEnv) (us : List Nat) : (wipeM τ us).length = τ.length := by
  induction us with
  | nil => rfl
  | cons w ws ih => unfold wipeM; rw [List.length_set, ih]
theorem wipeM_idem (τ : MEnv) (us : List Nat) : wipeM (wipeM τ us) us = wipeM τ us := by
  apply List.ext_getElem?
  intro j
  cases q : (wipeM (wipeM τ us) us)[j]? with
  | none =>
    have h := List.getElem?_eq_none_iff.mp q
    rw [wipeM_length] at h
    exact (List.getElem?_eq_none h).symm
  | some sv =>
    rcases get_wipeM q with ⟨a, rfl⟩ | ⟨a, b⟩
    · have hl := (List.getElem?_eq_some_iff.mp q).1
      rw [wipeM_length] at hl
      cases q2 : (wipeM τ us)[j]? with
      | none =>
        have := List.getElem?_eq_none_iff.mp q2
        omega
      | some sv2 =>
        rcases get_wipeM q2 with ⟨_, rfl⟩ | ⟨a2, _⟩
        · rfl
        · exact (a2 a).elim
    · exact b.symm
theorem wipe_idem (σ : L2.St) (us : List Nat) : wipe (wipe σ us) us = wipe σ us := by
  have : ∀ ws us : List Nat, (∀ i ∈ ws, i ∈ us) → wipe (wipe σ ws) us = wipe σ us := fun ws => by
    induction ws with
    | nil => intro us _; rfl
    | cons w ws ih =>
      intro us hu
      show wipe ((wipe σ ws).set w none) us = _
      rw [wipe_set (hu w (by simp)), ih us fun i hi => hu i (List.mem_cons_of_mem _ hi)]
  exact this us us fun _ h => h
theorem St.wiped (S : St K c B G ι h H ρ σ) (vs : List Nat) (hw : wipe σ' vs = wipe σ vs) : St K c B G ι h H (wipeM ρ vs) σ' := by
  have same : ∀ (i : Nat), i ∉ vs → σ'[i]? = σ[i]? := fun i hi => by
    rw [← wipe_out (σ := σ') hi, hw, wipe_out hi]
  have len : σ'.length = σ.length := by rw [← wipe_length σ' vs, hw, wipe_length]
  refine ⟨S.st, fun i sv hi => ?_, fun i j c1 c2 p h1 h2 h3 h4 => ?_, S.b1, S.b2, S.b3, S.b4, S.b5⟩
  · rcases get_wipeM hi with ⟨a, rfl⟩ | ⟨a, b⟩
    · have hl : i < (wipeM ρ vs).length := (List.getElem?_eq_some_iff.mp hi).1
      have hl2 : i < ρ.length := by
        have : ∀ vs : List Nat, (wipeM ρ vs).length = ρ.length := fun vs => by
          induction vs with
          | nil => rfl
          | cons w ws ih => unfold wipeM; rw [List.length_set, ih]
        rw [this] at hl; exact hl
      obtain ⟨x, e, _⟩ := S.env i _ (List.getElem?_eq_getElem hl2)
      have hs : i < σ'.length := by rw [len]; exact (List.getElem?_eq_some_iff.mp e).1
      exact ⟨σ'[i], List.getElem?_eq_getElem hs, trivial⟩
    · rw [same i a]; exact S.env i sv b
  · rcases get_wipeM h1 with ⟨_, z⟩ | ⟨a1, b1⟩
    · cases z
    · rcases get_wipeM h2 with ⟨_, z⟩ | ⟨a2, b2⟩
      · cases z
      · rw [same i a1] at h3
        rw [same j a2] at h4
        exact S.dis i j c1 c2 p b1 b2 h3 h4
/-- no exception may leave -/
def noexc {α : Type} (m : EM α) : EM α := fun ρ h => match m ρ h with
  | .exc _ _ _ _ => .fail
  | r => r
theorem Post.noexc {α β : Type} {R : RelT α β} {E' : WX} {r : RE α} {Q : β → Hp → Prop} (p : Post K c R E B G ι σ (match r with | .exc _ _ _ _ => .fail | r => r) Q) : Post K c R E' B G ι σ r Q := by
  cases r with
  | ok v ρ' h' => exact p
  | exc C fs ρ' h' => exact p.elim
  | fail => exact p
def compLoop (tg : TgM) (cond : EM Bool) (elt : EM Val) (own : List Nat) : List Val → List Val → EM (List Val)
  | [], acc => EM.pure acc
  | v :: r, acc => fun ρ h => match tg v (wipeM ρ own) with
    | none => .fail
    | some ρ1 => EM.bind (noexc cond) (fun b =>
        if b = true then EM.bind (noexc elt) fun y => if acc.length < sizeLine then compLoop tg cond elt own r (acc ++ [y]) else fun _ _ => .fail
        else compLoop tg cond elt own r acc) ρ1 h
def mComp (it : EM (List Val)) (tg : TgM) (cond : EM Bool) (elt : EM Val) (own : List Nat) : EM Val :=
  EM.bind it fun vs => EM.bind (compLoop tg cond elt own vs []) fun acc => fun ρ h => .ok (.lst acc) (wipeM ρ own) h
/-- a fresh object: its contents -/
def PostN (K : PySem.W.Frag) (c : Ctx) (E : WX) (B : Bas) (G : Hp) (ι : List Addr) (σ : L2.St) (r : RE Cell) (Q : VK) : Prop := match r with
  | .ok cl ρ' h' => ∀ G' ι' H' p o, Hle G G' → Ile ι ι' → Off B p → St K c (B.pin p o) G' ι' h' H' ρ' σ → CO K c G' ι' cl o → Q (.ref p) H'
  | .exc C fs ρ' h' => ∀ G' ι' H' cls d, Hle G G' → Ile ι ι' → St K c B G' ι' h' H' ρ' σ → XR K c G' ι' H' C fs cls d → E cls d σ H'
  | .fail => False
def SimN (K : PySem.W.Frag) (c : Ctx) (E : WX) (te : TE) (m : EM Cell) : Prop :=
  ∀ B G ι h H ρ σ Q, St K c B G ι h H ρ σ → PostN K c E B G ι σ (m ρ h) Q → te σ H Q
def mKnow (m : EM Cell) : EM Val := EM.bind m fun cl => EM.pure cl.val
theorem SimN.sim {te : TE} {m : EM Cell} (hm : SimN K c E te m) : Sim K c (RV K c) E te (mKnow m) := by
  intro B G ι h H ρ σ Q hs hp
  refine hm B G ι h H ρ σ Q hs ?_
  unfold mKnow EM.bind at hp
  cases e : m ρ h with
  | ok cl ρ' h' =>
    rw [e] at hp
    intro G' ι' H' p o hG hι F S r
    obtain ⟨_, gD, _⟩ := S.pinFacts F
    exact hp _ ι' H' _ (hG.trans (Hle.new gD)) hι (S.know F) (CO.val upd_same (r.mono (Hle.new gD) (Ile.refl _)))
  | exc C fs ρ' h' => rw [e] at hp; exact hp
  | fail => rw [e] at hp; exact hp
abbrev E0W : WX := fun _ _ _ _ => False
def mCompN (it : EM (List Val)) (tg : TgM) (cond : EM Bool) (elt : EM Val) (own : List Nat) : EM Cell :=
  EM.bind it fun vs => EM.bind (compLoop tg cond elt own vs []) fun acc => fun ρ h => .ok (.lst acc) (wipeM ρ own) h
theorem compLoop_step {tg : TgM} {cond : EM Bool} {elt : EM Val} {own : List Nat} {v : Val} {r acc : List Val} {k : List Val → EM Cell} : EM.bind (compLoop tg cond elt own (v :: r) acc) k ρ h =
    match tg v (wipeM ρ own) with
    | none => .fail
    | some ρ1 => EM.bind (noexc cond) (fun b => EM.bind (if b = true then EM.bind (noexc elt) fun y => if acc.length < sizeLine then compLoop tg cond elt own r (acc ++ [y]) else fun _ _ => .fail
        else compLoop tg cond elt own r acc) k) ρ1 h := by
  show EM.bind (fun ρ h => match tg v (wipeM ρ own) with
    | none => .fail
    | some ρ1 => EM.bind (noexc cond) (fun b => if b = true then EM.bind (noexc elt) fun y => if acc.length < sizeLine then compLoop tg cond elt own r (acc ++ [y]) else fun _ _ => .fail
        else compLoop tg cond elt own r acc) ρ1 h) k ρ h = _
  unfold EM.bind
  dsimp only
  cases tg v (wipeM ρ own) with
  | none => rfl
  | some ρ1 =>
    dsimp only
    cases noexc cond ρ1 h <;> rfl
theorem PostN.mono {r : RE Cell} {Q : VK} (hG : Hle G G') (hι : Ile ι ι') (p : PostN K c E B G ι σ r Q) : PostN K c E B G' ι' σ r Q := by
  cases r with
  | ok cl ρ' h' => exact fun G2 ι2 H2 q o a b F S r => p G2 ι2 H2 q o (hG.trans a) (hι.trans b) F S r
  | exc C fs ρ' h' => exact fun G2 ι2 H2 cls d a b S r => p G2 ι2 H2 cls d (hG.trans a) (hι.trans b) S r
  | fail => exact p
abbrev compEnd (own : List Nat) : List Val → EM Cell := fun acc ρ h => .ok (Cell.lst acc) (wipeM ρ own) h
theorem compLoop_wiped {tg : TgM} {cond : EM Bool} {elt : EM Val} {own : List Nat} {r acc : List Val} : EM.bind (compLoop tg cond elt own r acc) (compEnd own) (wipeM ρ own) h = EM.bind (compLoop tg cond elt own r acc) (compEnd own) ρ h := by
  cases r with
  | nil =>
    show RE.ok (Cell.lst acc) (wipeM (wipeM ρ own) own) h = RE.ok (Cell.lst acc) (wipeM ρ own) h
    rw [wipeM_idem]
  | cons v r => rw [compLoop_step, compLoop_step, wipeM_idem]
theorem sim_comp {wi : TI} {g : TG} {tt : TT} {te : TE} {it : EM (List Val)} {tg : TgM} {cond : EM Bool} {elt : EM Val} {is own : List Nat} (hi : Sim K c (RJ K c) E wi it) (hg : SimG K c is g tg) (his : ∀ i ∈ is, i ∈ own)
    (ht : Sim K c RB E0W tt cond) (he : Sim K c (RV K c) E0W te elt) : SimN K c E (tLc wi g tt te own) (mCompN it tg cond elt own) := by
  intro B G ι h H ρ σ Q hs hp
  refine hi B G ι h H ρ σ _ hs ?_
  unfold mCompN EM.bind at hp
  cases e0 : it ρ h with
  | exc C fs ρ' h' => rw [e0] at hp; exact hp
  | fail => rw [e0] at hp; exact hp
  | ok vs ρ1 h1 =>
    rw [e0] at hp
    intro G1 ι1 H1 J hG1 hι1 S1 hJ D hD
    have F : Off B D := S1.off hD
    have hp1 : PostN K c E B G1 ι1 σ (EM.bind (compLoop tg cond elt own vs []) (compEnd own) ρ1 h1) Q := PostN.mono hG1 hι1 hp
    clear hp
    refine ⟨fun i m H' => m = vs.length - i ∧ i ≤ vs.length ∧ ∃ G' ι' h' ρ' acc xs, Hle G1 G' ∧ Ile ι1 ι' ∧ St K c (B.pin D (.lst xs)) G' ι' h' H' (wipeM ρ' own) (wipe σ own) ∧ VRs K c G' ι' acc xs ∧
      PostN K c E B G' ι' σ (EM.bind (compLoop tg cond elt own (vs.drop i) acc) (compEnd own) (wipeM ρ' own) h') Q, ?_, ?_⟩
    · exact ⟨vs.length, by simp, Nat.zero_le _, G1, ι1, h1, ρ1, [], [], Hle.refl _, Ile.refl _, (S1.pinNew (o := .lst []) hD).wiped own (wipe_idem σ own), .nil, by rw [compLoop_wiped]; exact hp1⟩
    · rintro i m H2 ⟨rfl, hi, G2, ι2, h2, ρ2, acc, xs, hG2, hι2, S2, ra, hp2⟩
      obtain ⟨hD2, gD2, iD2⟩ := S2.pinFacts F
      obtain ⟨jst, jgo⟩ := hJ (B.pin D (.lst xs)) G2 ι2 h2 H2 (wipeM ρ2 own) (wipe σ own) hG2 hι2 S2
      by_cases hlt : i < vs.length
      · have hv : vs[i]? = some vs[i] := List.getElem?_eq_getElem hlt
        obtain ⟨go, yl⟩ := jgo i _ hv
        have hdrop : vs.drop i = vs[i] :: vs.drop (i + 1) := List.drop_eq_getElem_cons hlt
        rw [hdrop, compLoop_step, wipeM_idem] at hp2
        refine .inr ⟨go, _, fun H' hN => ⟨vs.length - (i + 1), by omega, rfl, hlt, hN⟩, fun x H3 hy => ?_⟩
        obtain ⟨G3, hG3, S3, rx⟩ := yl x H3 hy
        cases et : tg vs[i] (wipeM ρ2 own) with
        | none => rw [et] at hp2; exact hp2.elim
        | some ρ3 =>
          rw [et] at hp2
          dsimp only at hp2
          refine hg _ G3 ι2 h2 H3 _ _ _ x ρ3 _ S3 rx et fun σ3 S4 w3 => ?_
          have w3' : wipe σ3 own = wipe σ own := (w3 own his).trans (wipe_idem σ own)
          refine ⟨w3', ?_⟩
          unfold EM.bind noexc at hp2
          refine ht _ G3 ι2 h2 H3 ρ3 σ3 _ S4 ?_
          cases ec : cond ρ3 h2 with
          | exc C fs ρ' h' => rw [ec] at hp2; exact hp2.elim
          | fail => rw [ec] at hp2; exact hp2.elim
          | ok b ρ4 h4 =>
            rw [ec] at hp2
            dsimp only at hp2
            intro G4 ι4 H4 b' hG4 hι4 S5 rb
            subst rb
            have again : ∀ {G5 ι5 h5 H5 ρ5 acc' xs'}, Hle G4 G5 → Ile ι4 ι5 → St K c (B.pin D (.lst xs')) G5 ι5 h5 H5 ρ5 σ3 → VRs K c G5 ι5 acc' xs' →
                PostN K c E B G2 ι2 σ (EM.bind (compLoop tg cond elt own (vs.drop (i + 1)) acc') (compEnd own) ρ5 h5) Q →
                ∃ G' ι' h' ρ' acc xs, Hle G1 G' ∧ Ile ι1 ι' ∧ St K c (B.pin D (.lst xs)) G' ι' h' H5 (wipeM ρ' own) (wipe σ own) ∧ VRs K c G' ι' acc xs ∧
                  PostN K c E B G' ι' σ (EM.bind (compLoop tg cond elt own (vs.drop (i + 1)) acc) (compEnd own) (wipeM ρ' own) h') Q := by
              intro G5 ι5 h5 H5 ρ5 acc' xs' a b S r p
              refine ⟨G5, ι5, h5, ρ5, acc', xs', ((hG2.trans hG3).trans hG4).trans a, (hι2.trans hι4).trans b, S.wiped own (by rw [wipe_idem, w3']), r, ?_⟩
              rw [compLoop_wiped]
              exact p.mono ((hG3.trans hG4).trans a) (hι4.trans b)
            cases b' with
            | false =>
              rw [if_neg Bool.false_ne_true] at hp2 ⊢
              exact again (Hle.refl _) (Ile.refl _) S5 (ra.mono (hG3.trans hG4) hι4) hp2
            | true =>
              rw [if_pos rfl] at hp2 ⊢
              refine he _ G4 ι4 h4 H4 ρ4 σ3 _ S5 ?_
              cases ee : elt ρ4 h4 with
              | exc C fs ρ' h' => rw [ee] at hp2; exact hp2.elim
              | fail => rw [ee] at hp2; exact hp2.elim
              | ok y ρ5 h5 =>
                rw [ee] at hp2
                dsimp only at hp2
                intro G5 ι5 H5 y' hG5 hι5 S6 ry
                obtain ⟨hD5, _, _⟩ := S6.pinFacts F
                have ra' := ra.mono ((hG3.trans hG4).trans hG5) (hι4.trans hι5)
                by_cases hz : acc.length < sizeLine
                · rw [if_pos hz] at hp2
                  exact ⟨xs, hD5, by rw [← ra.length]; exact hz, again hG5 hι5 (S6.repin F) (ra'.append (.cons ry .nil)) hp2⟩
                · rw [if_neg hz] at hp2
                  exact hp2.elim
      · have ei : i = vs.length := by omega
        subst ei
        refine .inl ⟨jst, ?_⟩
        rw [List.drop_length] at hp2
        have S3 := S2.wiped (σ' := σ) own (wipe_idem σ own).symm
        rw [wipeM_idem] at S3
        have hp3 : PostN K c E B G2 ι2 σ (.ok (Cell.lst acc) (wipeM (wipeM ρ2 own) own) h2) Q := hp2
        rw [wipeM_idem] at hp3
        exact hp3 G2 ι2 H2 D (.lst xs) (Hle.refl _) (Ile.refl _) F S3 ⟨xs, rfl, ra⟩
end
end Mir

set_option Elab.async false
set_option linter.all false
set_option maxRecDepth 100000
set_option maxHeartbeats 4000000
namespace Mir
open PySem PySem.Spec PyProof.Rows L2

/-! ### statements -/
abbrev SM := EM Fl
def PostS (K : PySem.W.Frag) (c : Ctx) (E : WX) (B : Bas) (G : Hp) (ι : List Addr) (r : RE Fl) (D : Ends) : Prop := match r with
  | .ok .next ρ' h' => ∀ G' ι' H' σ', Hle G G' → Ile ι ι' → St K c B G' ι' h' H' ρ' σ' → D.nx σ' H'
  | .ok (.ret v) ρ' h' => ∀ G' ι' H' σ' x, Hle G G' → Ile ι ι' → St K c B G' ι' h' H' ρ' σ' → VR K c G' ι' v x → D.rt x H'
  | .ok .brk ρ' h' => ∀ G' ι' H' σ', Hle G G' → Ile ι ι' → St K c B G' ι' h' H' ρ' σ' → D.bk σ' H'
  | .ok .cont ρ' h' => ∀ G' ι' H' σ', Hle G G' → Ile ι ι' → St K c B G' ι' h' H' ρ' σ' → D.ct σ' H'
  | .exc C fs ρ' h' => ∀ G' ι' H' σ' cls d, Hle G G' → Ile ι ι' → St K c B G' ι' h' H' ρ' σ' → XR K c G' ι' H' C fs cls d → E cls d σ' H'
  | .fail => False
def SimS (K : PySem.W.Frag) (c : Ctx) (E : WX) (ts : TS) (m : SM) : Prop :=
  ∀ B G ι h H ρ σ D, St K c B G ι h H ρ σ → PostS K c E B G ι (m ρ h) D → ts D σ H
section
variable {K : PySem.W.Frag} {c : Ctx} {B : Bas} {G G' : Hp} {ι ι' : List Addr} {h h' : MHp} {H H' : Hp} {ρ ρ' : MEnv} {σ σ' : L2.St} {E : WX} {Dd : Addr} {o o' : HO}
variable {α β : Type} {R : RelT α β}
theorem PostS.mono {r : RE Fl} {D : Ends} (hG : Hle G G') (hι : Ile ι ι') (p : PostS K c E B G ι r D) : PostS K c E B G' ι' r D := by
  cases r with
  | ok f ρ' h' =>
    cases f with
    | next => exact fun G2 ι2 H2 σ2 a b s => p G2 ι2 H2 σ2 (hG.trans a) (hι.trans b) s
    | ret v => exact fun G2 ι2 H2 σ2 x a b s r => p G2 ι2 H2 σ2 x (hG.trans a) (hι.trans b) s r
    | brk => exact fun G2 ι2 H2 σ2 a b s => p G2 ι2 H2 σ2 (hG.trans a) (hι.trans b) s
    | cont => exact fun G2 ι2 H2 σ2 a b s => p G2 ι2 H2 σ2 (hG.trans a) (hι.trans b) s
  | exc C fs ρ' h' => exact fun G2 ι2 H2 σ2 cls d a b s q => p G2 ι2 H2 σ2 cls d (hG.trans a) (hι.trans b) s q
  | fail => exact p
/-- an expression first -/
theorem Sim.bindS {te : L2.St → Hp → (β → Hp → Prop) → Prop} {m : EM α} {f : α → SM} {D : Ends} {k : β → Hp → Prop} (hm : Sim K c R E te m) (hs : St K c B G ι h H ρ σ)
    (hp : PostS K c E B G ι (EM.bind m f ρ h) D)
    (hk : ∀ G' ι' h' H' ρ' v x, Hle G G' → Ile ι ι' → St K c B G' ι' h' H' ρ' σ → R G' ι' v x → PostS K c E B G' ι' (f v ρ' h') D → k x H') : te σ H k := by
  refine hm B G ι h H ρ σ k hs ?_
  unfold EM.bind at hp
  cases e : m ρ h with
  | ok v ρ' h' =>
    rw [e] at hp
    exact fun G' ι' H' x a b s r => hk G' ι' h' H' ρ' v x a b s r (hp.mono a b)
  | exc C fs ρ' h' =>
    rw [e] at hp
    exact fun G' ι' H' cls d a b s r => hp G' ι' H' σ cls d a b s r
  | fail => rw [e] at hp; exact hp
def sSkip : SM := EM.pure .next
theorem ss_skip : SimS K c E tNext sSkip := fun B G ι h H ρ σ D hs hp => hp G ι H σ (Hle.refl _) (Ile.refl _) hs
def sSeq (a b : SM) : SM := fun ρ h => match a ρ h with
  | .ok .next ρ' h' => b ρ' h'
  | r => r
theorem ss_seq {t u : TS} {a b : SM} (ha : SimS K c E t a) (hb : SimS K c E u b) : SimS K c E (tSeq t u) (sSeq a b) := by
  intro B G ι h H ρ σ D hs hp
  refine ha B G ι h H ρ σ _ hs ?_
  unfold sSeq at hp
  cases e : a ρ h with
  | ok f ρ' h' =>
    rw [e] at hp
    cases f with
    | next => exact fun G' ι' H' σ' x y s => hb B G' ι' h' H' ρ' σ' D s (hp.mono x y)
    | ret v => exact hp
    | brk => exact hp
    | cont => exact hp
  | exc C fs ρ' h' => rw [e] at hp; exact hp
  | fail => rw [e] at hp; exact hp
def sBrk : SM := EM.pure .brk
def sCont : SM := EM.pure .cont
theorem ss_brk : SimS K c E tBreak sBrk := fun B G ι h H ρ σ D hs hp => hp G ι H σ (Hle.refl _) (Ile.refl _) hs
theorem ss_cont : SimS K c E tCont sCont := fun B G ι h H ρ σ D hs hp => hp G ι H σ (Hle.refl _) (Ile.refl _) hs
def sRet (m : EM Val) : SM := EM.bind m fun v => EM.pure (.ret v)
theorem ss_ret {te : TE} {m : EM Val} (hm : Sim K c (RV K c) E te m) : SimS K c E (tRet te) (sRet m) := by
  intro B G ι h H ρ σ D hs hp
  exact hm.bindS hs hp fun G' ι' h' H' ρ' v x a b s r p => p G' ι' H' σ x (Hle.refl _) (Ile.refl _) s r
def sRetN : SM := EM.pure (.ret .non)
theorem ss_retN : SimS K c E tRetN sRetN := fun B G ι h H ρ σ D hs hp => hp G ι H σ .non (Hle.refl _) (Ile.refl _) hs .non
def sDrop (m : EM Val) : SM := EM.bind m fun _ => EM.pure .next
theorem ss_drop {te : TE} {m : EM Val} (hm : Sim K c (RV K c) E te m) : SimS K c E (tDrop te) (sDrop m) := by
  intro B G ι h H ρ σ D hs hp
  exact hm.bindS hs hp fun G' ι' h' H' ρ' v x a b s r p => p G' ι' H' σ (Hle.refl _) (Ile.refl _) s
def sIf (t : EM Bool) (a b : SM) : SM := EM.bind t fun k => if k = true then a else b
theorem ss_if {tt : TT} {t : EM Bool} {ta tb : TS} {a b : SM} (ht : Sim K c RB E tt t) (ha : SimS K c E ta a) (hb : SimS K c E tb b) : SimS K c E (tIfS tt ta tb) (sIf t a b) := by
  intro B G ι h H ρ σ D hs hp
  refine ht.bindS hs hp fun G' ι' h' H' ρ' v x x1 x2 s r p => ?_
  subst r
  cases x with
  | true => exact ha B G' ι' h' H' ρ' σ D s p
  | false => exact hb B G' ι' h' H' ρ' σ D s p
def sSet (i : Nat) (m : EM Val) : SM := EM.bind m fun v ρ h => .ok .next (ρ.set i (.val v)) h
theorem ss_set {te : TE} {m : EM Val} (i : Nat) (hm : Sim K c (RV K c) E te m) : SimS K c E (tAsg te (gName i)) (sSet i m) := by
  intro B G ι h H ρ σ D hs hp
  exact hm.bindS hs hp fun G' ι' h' H' ρ' v x a b s r p => p G' ι' H' _ (Hle.refl _) (Ile.refl _) (s.set r)
/-- a target of any form -/
def sAsg (tg : TgM) (m : EM Val) : SM := EM.bind m fun v ρ h => match tg v ρ with
  | some ρ' => .ok .next ρ' h
  | none => .fail
theorem ss_asg {te : TE} {m : EM Val} {is : List Nat} {g : TG} {tg : TgM} (hm : Sim K c (RV K c) E te m) (hg : SimG K c is g tg) : SimS K c E (tAsg te g) (sAsg tg m) := by
  intro B G ι h H ρ σ D hs hp
  refine hm.bindS hs hp fun G' ι' h' H' ρ' v x a b s r p => ?_
  cases e : tg v ρ' with
  | none => rw [e] at p; exact p.elim
  | some ρ2 =>
    rw [e] at p
    exact hg B G' ι' h' H' ρ' σ v x ρ2 _ s r e fun σ2 s2 _ => p G' ι' H' σ2 (Hle.refl _) (Ile.refl _) s2
/-- a local list of its own -/
def sOwn (i : Nat) (m : EM Cell) : SM := EM.bind m fun cl ρ h => .ok .next (ρ.set i (.own cl)) h
theorem ss_own {te : TE} {m : EM Cell} (i : Nat) (hm : SimN K c E te m) : SimS K c E (tAsg te (gName i)) (sOwn i m) := by
  intro B G ι h H ρ σ D hs hp
  refine hm B G ι h H ρ σ _ hs ?_
  unfold sOwn EM.bind at hp
  cases e : m ρ h with
  | ok cl ρ' h' =>
    rw [e] at hp
    intro G' ι' H' p o hG hι F S r
    exact hp G' ι' H' _ hG hι (S.own F r)
  | exc C fs ρ' h' => rw [e] at hp; exact fun G' ι' H' cls d a b s r => hp G' ι' H' σ cls d a b s r
  | fail => rw [e] at hp; exact hp
/-- the slot's list becomes a value that never changes again -/
def sFreeze (i : Nat) (s : SM) : SM := fun ρ h => match ρ[i]? with
  | some (.own cl) => s (ρ.set i (.val cl.val)) h
  | _ => .fail
theorem St.freeze (S : St K c B G ι h H ρ σ) {i : Nat} {cl : Cell} (hi : ρ[i]? = some (.own cl)) : ∃ G', Hle G G' ∧ St K c B G' ι h H (ρ.set i (.val cl.val)) σ := by
  obtain ⟨x, e1, p, rfl, gp, np, bp, r⟩ := S.env i _ hi
  obtain ⟨o, ho, ro⟩ := r.co
  have hle : Hle G (upd G p o) := Hle.new gp
  have hl : i < ρ.length := (List.getElem?_eq_some_iff.mp hi).1
  refine ⟨upd G p o, hle, ⟨fun q u e => ?_, S.st.len, S.st.nd, fun q hq => ?_, fun j q cl' h1 h2 => (S.st.cell j q cl' h1 h2).mono hle (Ile.refl _) fun _ e => e⟩, fun j sv hj => ?_, fun j k c1 c2 q h1 h2 h3 h4 => ?_, S.b1, S.b2, fun q u e => ?_, S.b4, S.b5.trans hle⟩
  · by_cases z : q = p
    · subst z; rw [upd_same] at e; rw [ho]; exact e
    · rw [upd_ne z] at e; exact S.st.le q u e
  · rw [upd_ne (fun z : q = p => np (by rw [← z]; exact hq))]; exact S.st.out q hq
  · by_cases z : i = j
    · subst z
      rw [List.getElem?_set_self hl] at hj
      cases hj
      exact ⟨_, e1, .ref p, rfl, CO.val upd_same (ro.mono hle (Ile.refl _))⟩
    · rw [List.getElem?_set_ne z] at hj
      obtain ⟨x, e2, r2⟩ := S.env j sv hj
      refine ⟨x, e2, ?_⟩
      cases sv with
      | un => trivial
      | val v => obtain ⟨y, e, q⟩ := r2; exact ⟨y, e, q.mono hle (Ile.refl _)⟩
      | own cl2 =>
        obtain ⟨q, rfl, g, n, b, r3⟩ := r2
        have nq : q ≠ p := fun zz => by
          subst zz
          exact z (S.dis i j _ _ q hi hj e1 e2)
        exact ⟨q, rfl, by rw [upd_ne nq]; exact g, n, b, r3.mono hle (Ile.refl _) fun _ e => e⟩
  · have nj : i ≠ j := fun z => by subst z; rw [List.getElem?_set_self hl] at h1; cases h1
    have nk : i ≠ k := fun z => by subst z; rw [List.getElem?_set_self hl] at h2; cases h2
    rw [List.getElem?_set_ne nj] at h1
    rw [List.getElem?_set_ne nk] at h2
    exact S.dis j k c1 c2 q h1 h2 h3 h4
  · by_cases z : q = p
    · subst z; exact .inr bp
    · rw [upd_ne z] at e; exact S.b3 q u e
theorem ss_freeze {t : TS} {m : SM} (i : Nat) (hm : SimS K c E t m) : SimS K c E t (sFreeze i m) := by
  intro B G ι h H ρ σ D hs hp
  unfold sFreeze at hp
  split at hp
  · rename_i cl e
    obtain ⟨G', hG, S'⟩ := hs.freeze e
    exact hm B G' ι h H _ σ D S' (hp.mono hG (Ile.refl _))
  · exact hp.elim

/-! ### loops -/
def forLoop (tg : TgM) (body : SM) : List Val → SM
  | [] => EM.pure .next
  | v :: r => fun ρ h => match tg v ρ with
    | none => .fail
    | some ρ1 => match body ρ1 h with
      | .ok .next ρ' h' => forLoop tg body r ρ' h'
      | .ok .cont ρ' h' => forLoop tg body r ρ' h'
      | .ok .brk ρ' h' => .ok .next ρ' h'
      | x => x
def sFor (it : EM (List Val)) (tg : TgM) (body : SM) : SM := EM.bind it fun vs => forLoop tg body vs
theorem ss_for {wi : TI} {g : TG} {tb : TS} {it : EM (List Val)} {tg : TgM} {body : SM} {is : List Nat} (hi : Sim K c (RJ K c) E wi it) (hg : SimG K c is g tg) (hb : SimS K c E tb body) : SimS K c E (tFor wi g tb) (sFor it tg body) := by
  intro B G ι h H ρ σ D hs hp
  refine hi.bindS hs hp fun G1 ι1 h1 H1 ρ1 vs J hG1 hι1 S1 hJ hp1 => ?_
  refine ⟨fun i m σ' H' => m = vs.length - i ∧ i ≤ vs.length ∧ ∃ G' ι' h' ρ', Hle G1 G' ∧ Ile ι1 ι' ∧ St K c B G' ι' h' H' ρ' σ' ∧ PostS K c E B G' ι' (forLoop tg body (vs.drop i) ρ' h') D, ?_, ?_⟩
  · exact ⟨vs.length, by simp, Nat.zero_le _, G1, ι1, h1, ρ1, Hle.refl _, Ile.refl _, S1, hp1⟩
  · rintro i m σ2 H2 ⟨rfl, hi, G2, ι2, h2, ρ2, hG2, hι2, S2, hp2⟩
    obtain ⟨jst, jgo⟩ := hJ B G2 ι2 h2 H2 ρ2 σ2 hG2 hι2 S2
    by_cases hlt : i < vs.length
    · have hv : vs[i]? = some vs[i] := List.getElem?_eq_getElem hlt
      obtain ⟨go, yl⟩ := jgo i _ hv
      have hdrop : vs.drop i = vs[i] :: vs.drop (i + 1) := List.drop_eq_getElem_cons hlt
      rw [hdrop] at hp2
      unfold forLoop at hp2
      refine .inr ⟨go, _, fun σ' H' hN => ⟨vs.length - (i + 1), by omega, rfl, hlt, hN⟩, fun x H3 hy => ?_⟩
      obtain ⟨G3, hG3, S3, rx⟩ := yl x H3 hy
      cases et : tg vs[i] ρ2 with
      | none => rw [et] at hp2; exact hp2.elim
      | some ρ3 =>
        rw [et] at hp2
        dsimp only at hp2
        refine hg B G3 ι2 h2 H3 ρ2 σ2 _ x ρ3 _ S3 rx et fun σ3 S4 _ => ?_
        refine hb B G3 ι2 h2 H3 ρ3 σ3 _ S4 ?_
        cases eb : body ρ3 h2 with
        | ok f ρ4 h4 =>
          rw [eb] at hp2
          cases f with
          | next => exact fun G' ι' H' σ' a b s => ⟨G', ι', h4, ρ4, (hG2.trans hG3).trans a, hι2.trans b, s, PostS.mono (hG3.trans a) b hp2⟩
          | ret v => exact PostS.mono (D := D) (r := .ok (.ret v) ρ4 h4) hG3 (Ile.refl _) hp2
          | brk => exact fun G' ι' H' σ' a b s => hp2 G' ι' H' σ' (hG3.trans a) b s
          | cont => exact fun G' ι' H' σ' a b s => ⟨G', ι', h4, ρ4, (hG2.trans hG3).trans a, hι2.trans b, s, PostS.mono (hG3.trans a) b hp2⟩
        | exc C fs ρ4 h4 => rw [eb] at hp2; exact PostS.mono (D := D) (r := .exc C fs ρ4 h4) hG3 (Ile.refl _) hp2
        | fail => rw [eb] at hp2; exact hp2.elim
    · have ei : i = vs.length := by omega
      subst ei
      rw [List.drop_length] at hp2
      exact .inl ⟨jst, hp2 G2 ι2 H2 σ2 (Hle.refl _) (Ile.refl _) S2⟩
def whileLoop (t : EM Bool) (body : SM) : Nat → SM
  | 0 => fun _ _ => .fail
  | n + 1 => EM.bind t fun k => if k = true then fun ρ h => match body ρ h with
      | .ok .next ρ' h' => whileLoop t body n ρ' h'
      | .ok .cont ρ' h' => whileLoop t body n ρ' h'
      | .ok .brk ρ' h' => .ok .next ρ' h'
      | x => x
    else EM.pure .next
theorem ss_while {tt : TT} {tb : TS} {t : EM Bool} {body : SM} (n : Nat) (ht : Sim K c RB E tt t) (hb : SimS K c E tb body) : SimS K c E (tWhile tt tb) (whileLoop t body n) := by
  intro B G ι h H ρ σ D hs hp
  refine ⟨fun m σ' H' => ∃ G' ι' h' ρ', St K c B G' ι' h' H' ρ' σ' ∧ PostS K c E B G' ι' (whileLoop t body m ρ' h') D, ⟨n, G, ι, h, ρ, hs, hp⟩, ?_⟩
  rintro m σ2 H2 ⟨G2, ι2, h2, ρ2, S2, hp2⟩
  cases m with
  | zero => exact hp2.elim
  | succ m =>
    unfold whileLoop at hp2
    refine ht.bindS S2 hp2 fun G3 ι3 h3 H3 ρ3 v x a1 b1 S3 r hp3 => ?_
    subst r
    cases x with
    | false =>
      rw [if_neg Bool.false_ne_true] at hp3 ⊢
      exact hp3 G3 ι3 H3 σ2 (Hle.refl _) (Ile.refl _) S3
    | true =>
      rw [if_pos rfl] at hp3 ⊢
      refine ⟨_, fun σ' H' hN => ⟨m, Nat.lt_succ_self m, hN⟩, ?_⟩
      refine hb B G3 ι3 h3 H3 ρ3 σ2 _ S3 ?_
      cases eb : body ρ3 h3 with
      | ok f ρ4 h4 =>
        rw [eb] at hp3
        cases f with
        | next => exact fun G' ι' H' σ' a b s => ⟨G', ι', h4, ρ4, s, PostS.mono a b hp3⟩
        | ret v => exact hp3
        | brk => exact hp3
        | cont => exact fun G' ι' H' σ' a b s => ⟨G', ι', h4, ρ4, s, PostS.mono a b hp3⟩
      | exc C fs ρ4 h4 => rw [eb] at hp3; exact hp3
      | fail => rw [eb] at hp3; exact hp3.elim

/-! ### what a slot's container holds now -/
def cont (ρ : MEnv) (h : MHp) (i : Nat) : Option Val := match ρ[i]? with
  | some (.val (.ref a)) => (h[a]?).map Cell.val
  | some (.val v) => some v
  | some (.own cl) => some cl.val
  | _ => none
theorem CR.valH {cl : Cell} {p : Addr} (r : CR K c G ι H p cl) (hc : ∀ C fs, cl ≠ .ins C fs) : VH K c G ι H cl.val (.ref p) := by
  cases cl with
  | lst vs => obtain ⟨xs, e, q⟩ := r; exact ⟨p, xs, rfl, e, q⟩
  | dct vs => obtain ⟨xs, e, q⟩ := r; exact ⟨p, xs, rfl, e, q⟩
  | ins C fs => exact (hc C fs rfl).elim
def isCont : Val → Bool
  | .obj _ _ => false
  | _ => true
theorem St.cont (S : St K c B G ι h H ρ σ) {i : Nat} {v : Val} (e : cont ρ h i = some v) (hv : isCont v = true) : ∃ x, σ[i]? = some (some x) ∧ VH K c G ι H v x := by
  unfold Mir.cont at e
  split at e
  · rename_i a ea
    simp only [Option.map_eq_some_iff] at e
    obtain ⟨cl, hcl, rfl⟩ := e
    obtain ⟨x, e1, y, rfl, r⟩ := S.env i _ ea
    obtain ⟨p, rfl, hp⟩ := r.refE
    exact ⟨_, e1, (S.st.cell a p cl hp hcl).valH fun C fs z => by subst z; cases hv⟩
  · rename_i v' _ ea
    cases e
    obtain ⟨x, e1, y, rfl, r⟩ := S.env i _ ea
    exact ⟨y, e1, r.toH S.st.le⟩
  · rename_i cl ea
    cases e
    obtain ⟨x, e1, p, rfl, _, _, _, r⟩ := S.env i _ ea
    exact ⟨_, e1, r.valH fun C fs z => by subst z; cases hv⟩
  · cases e
def getCont (i : Nat) : EM Val := fun ρ h => match cont ρ h i with
  | some v => if isCont v = true then .ok v ρ h else .fail
  | none => .fail
theorem getCont_ok {i : Nat} {v : Val} {ρ' : MEnv} {h' : MHp} (e : getCont i ρ h = .ok v ρ' h') : ρ' = ρ ∧ h' = h ∧ cont ρ h i = some v ∧ isCont v = true := by
  unfold getCont at e
  split at e
  · rename_i v' e1
    split at e
    · rename_i hz; cases e; exact ⟨rfl, rfl, e1, hz⟩
    · cases e
  · cases e
theorem Post.getCont {i : Nat} {f : Val → EM α} {Q : β → Hp → Prop} (p : Post K c R E B G ι σ (EM.bind (getCont i) f ρ h) Q) : ∃ v, cont ρ h i = some v ∧ isCont v = true ∧ Post K c R E B G ι σ (f v ρ h) Q := by
  unfold EM.bind Mir.getCont at p
  cases e : Mir.cont ρ h i with
  | none => rw [e] at p; exact p.elim
  | some v =>
    rw [e] at p
    by_cases hz : isCont v = true
    · dsimp only at p
      rw [if_pos hz] at p
      exact ⟨v, rfl, hz, p⟩
    · dsimp only at p
      rw [if_neg hz] at p
      exact p.elim
def has (i : Nat) : EM Unit := fun ρ h => match ρ[i]? with
  | some (.val _) => .ok () ρ h
  | some (.own _) => .ok () ρ h
  | _ => .fail
theorem St.has (S : St K c B G ι h H ρ σ) {i : Nat} {Q : β → Hp → Prop} {f : Unit → EM α} (p : Post K c R E B G ι σ (EM.bind (has i) f ρ h) Q) : (∃ x, σ[i]? = some (some x)) ∧ Post K c R E B G ι σ (f () ρ h) Q := by
  unfold EM.bind Mir.has at p
  split at p
  · rename_i e
    split at e
    · rename_i v ev
      cases e
      obtain ⟨x, e1, y, rfl, _⟩ := S.env i _ ev
      exact ⟨⟨y, e1⟩, p⟩
    · rename_i v ev
      cases e
      obtain ⟨x, e1, y, rfl, _⟩ := S.env i _ ev
      exact ⟨⟨_, e1⟩, p⟩
    · cases e
  · rename_i e
    split at e <;> cases e
  · exact p.elim
/-- name[e], the container as it stands behind e -/
def mIxB (f : Val → Val → Option Val) (i : Nat) (b : EM Val) : EM Val := EM.bind (has i) fun _ => EM.bind b fun y => EM.bind (getCont i) fun x => EM.lift (f x y)
theorem sim_opB {r : R2} {f : Val → Val → Option Val} {tb : TE} {mb : EM Val} {i : Nat} (hr : SimR2 K c r f) (hb : Sim K c (RV K c) E tb mb) : Sim K c (RV K c) E (tOp r (tVar i) tb) (mIxB f i mb) := by
  intro B G ι h H ρ σ Q hs hp
  obtain ⟨⟨x0, hx0⟩, hp⟩ := hs.has hp
  refine ⟨x0, hx0, ?_⟩
  refine hb.bind hs hp fun G2 ι2 h2 H2 ρ2 w y a2 b2 s2 r2 p2 => ?_
  obtain ⟨v, ec, hv, p3⟩ := p2.getCont
  obtain ⟨x, ex, rx⟩ := s2.cont ec hv
  rw [hx0] at ex; cases ex
  obtain ⟨z, e, p4⟩ := p3.lift
  exact hr B G2 ι2 h2 H2 ρ2 σ v w x0 y z s2 rx (r2.toH s2.st.le) e Q fun G' H' u a3 s3 r3 => p4 G' ι2 H' u a3 (Ile.refl _) s3 r3
/-- e op name -/
def mOpB (f : Val → Val → Option Val) (a : EM Val) (i : Nat) : EM Val := EM.bind a fun x => EM.bind (getCont i) fun y => EM.lift (f x y)
theorem sim_opB2 {r : R2} {f : Val → Val → Option Val} {ta : TE} {ma : EM Val} {i : Nat} (hr : SimR2 K c r f) (ha : Sim K c (RV K c) E ta ma) : Sim K c (RV K c) E (tOp r ta (tVar i)) (mOpB f ma i) := by
  intro B G ι h H ρ σ Q hs hp
  refine ha.bind hs hp fun G2 ι2 h2 H2 ρ2 w y a2 b2 s2 r2 p2 => ?_
  obtain ⟨v, ec, hv, p3⟩ := p2.getCont
  obtain ⟨x, ex, rx⟩ := s2.cont ec hv
  obtain ⟨z, e, p4⟩ := p3.lift
  exact ⟨x, ex, hr B G2 ι2 h2 H2 ρ2 σ w v y x z s2 (r2.toH s2.st.le) rx e Q fun G' H' u a3 s3 r3 => p4 G' ι2 H' u a3 (Ile.refl _) s3 r3⟩
/-- f(name) -/
def mCB1 (f : List Val → Option Val) (i : Nat) : EM Val := EM.bind (getCont i) fun x => EM.lift (f [x])
theorem sim_cb1 {r : List V → Hp → VK → Prop} {f : List Val → Option Val} {i : Nat} (hf : SimRC K c r f) : Sim K c (RV K c) E (tCB r (tCons (tVar i) tNil)) (mCB1 f i) := by
  intro B G ι h H ρ σ Q hs hp
  obtain ⟨v, ec, hv, p3⟩ := hp.getCont
  obtain ⟨x, ex, rx⟩ := hs.cont ec hv
  obtain ⟨z, e, p4⟩ := p3.lift
  exact ⟨x, ex, hf B G ι h H ρ σ [v] [x] z hs (.cons rx .nil) e Q fun G' H' u a3 s3 r3 => p4 G' ι H' u a3 (Ile.refl _) s3 r3⟩

/-! ### a container changes -/
/-- the slot's own object, or the cell to which it refers -/
def putCont (i : Nat) (cl : Cell) : EM Unit := fun ρ h => match ρ[i]? with
  | some (.val (.ref a)) => if a < h.length then .ok () ρ (h.set a cl) else .fail
  | some (.own _) => .ok () (ρ.set i (.own cl)) h
  | _ => .fail
theorem St.put (S : St K c B G ι h H ρ σ) {i : Nat} {cl : Cell} {ρ' : MEnv} {h' : MHp} (e : putCont i cl ρ h = .ok () ρ' h') :
    ∃ p o, σ[i]? = some (some (.ref p)) ∧ H p = some o ∧ (∀ v, Mir.cont ρ h i = some v → VH K c G ι H v (.ref p) ∨ isCont v = false) ∧ ∀ o', CO K c G ι cl o' → St K c B G ι h' (upd H p o') ρ' σ := by
  unfold putCont at e
  split at e
  · rename_i a ea
    split at e
    · rename_i hlt
      cases e
      obtain ⟨x, e1, y, rfl, r⟩ := S.env i _ ea
      obtain ⟨p, rfl, hp⟩ := r.refE
      have hcl : h[a]? = some h[a] := List.getElem?_eq_getElem hlt
      have r0 := S.st.cell a p _ hp hcl
      obtain ⟨o, ho⟩ := r0.some
      have gp : G p = none := S.st.out p (List.mem_of_getElem? hp)
      refine ⟨p, o, e1, ho, fun v hv => ?_, fun o' ro => ?_⟩
      · unfold Mir.cont at hv
        rw [ea] at hv
        dsimp only at hv
        rw [hcl] at hv
        cases hv
        cases ec : h[a] with
        | ins C fs => exact .inr rfl
        | lst vs => rw [ec] at r0; obtain ⟨xs, e, q⟩ := r0; exact .inl ⟨p, xs, rfl, e, q⟩
        | dct vs => rw [ec] at r0; obtain ⟨xs, e, q⟩ := r0; exact .inl ⟨p, xs, rfl, e, q⟩
      · have keep : ∀ q u, q ≠ p → H q = some u → upd H p o' q = some u := fun q u z e => by rw [upd_ne z]; exact e
        refine ⟨⟨fun q u e => keep q u (ne_of_none e gp) (S.st.le q u e), by simp [S.st.len], S.st.nd, S.st.out, fun j q cl' h1 h2 => ?_⟩, fun j sv hj => ?_, S.dis, fun q u e n => ?_, S.b2, S.b3, S.b4, S.b5⟩
        · by_cases z : a = j
          · subst z
            rw [List.getElem?_set_self hlt] at h2
            cases h2
            rw [hp] at h1; cases h1
            exact ro.cr upd_same
          · rw [List.getElem?_set_ne z] at h2
            have nq : q ≠ p := fun zz => by
              subst zz
              have hj1 := (List.getElem?_eq_some_iff.mp h1)
              have ha1 := (List.getElem?_eq_some_iff.mp hp)
              obtain ⟨l1, w1⟩ := hj1
              obtain ⟨l2, w2⟩ := ha1
              exact z ((List.getElem_inj S.st.nd).mp (w2.trans w1.symm))
            exact (S.st.cell j q cl' h1 h2).mono (Hle.refl _) (Ile.refl _) fun u e => keep q u nq e
        · obtain ⟨x, e2, r2⟩ := S.env j sv hj
          refine ⟨x, e2, ?_⟩
          cases sv with
          | un => trivial
          | val v => exact r2
          | own cl2 =>
            obtain ⟨q, rfl, g, n, b, r3⟩ := r2
            have nq : q ≠ p := fun zz => n (by rw [zz]; exact List.mem_of_getElem? hp)
            exact ⟨q, rfl, g, n, b, r3.mono (Hle.refl _) (Ile.refl _) fun u e => keep q u nq e⟩
        · have nq : q ≠ p := fun zz => by
            subst zz
            rcases S.b2 q (List.mem_of_getElem? hp) with w | w
            · exact n w
            · rw [e] at w; cases w
          exact keep q u nq (S.b1 q u e n)
    · cases e
  · rename_i cl0 ea
    cases e
    obtain ⟨x, e1, p, rfl, gp, np, bp, r0⟩ := S.env i _ ea
    obtain ⟨o, ho⟩ := r0.some
    have hl : i < ρ.length := (List.getElem?_eq_some_iff.mp ea).1
    refine ⟨p, o, e1, ho, fun v hv => ?_, fun o' ro => ?_⟩
    · unfold Mir.cont at hv
      rw [ea] at hv
      cases hv
      cases cl0 with
      | ins C fs => exact .inr rfl
      | lst vs => obtain ⟨xs, e, q⟩ := r0; exact .inl ⟨p, xs, rfl, e, q⟩
      | dct vs => obtain ⟨xs, e, q⟩ := r0; exact .inl ⟨p, xs, rfl, e, q⟩
    · have keep : ∀ q u, q ≠ p → H q = some u → upd H p o' q = some u := fun q u z e => by rw [upd_ne z]; exact e
      refine ⟨⟨fun q u e => keep q u (ne_of_none e gp) (S.st.le q u e), S.st.len, S.st.nd, S.st.out, fun j q cl' h1 h2 => ?_⟩, fun j sv hj => ?_, fun j k c1 c2 q h1 h2 h3 h4 => ?_, fun q u e n => ?_, S.b2, S.b3, S.b4, S.b5⟩
      · have nq : q ≠ p := fun zz => np (by rw [← zz]; exact List.mem_of_getElem? h1)
        exact (S.st.cell j q cl' h1 h2).mono (Hle.refl _) (Ile.refl _) fun u e => keep q u nq e
      · by_cases z : i = j
        · subst z
          rw [List.getElem?_set_self hl] at hj
          cases hj
          exact ⟨_, e1, p, rfl, gp, np, bp, ro.cr upd_same⟩
        · rw [List.getElem?_set_ne z] at hj
          obtain ⟨x, e2, r2⟩ := S.env j sv hj
          refine ⟨x, e2, ?_⟩
          cases sv with
          | un => trivial
          | val v => exact r2
          | own cl2 =>
            obtain ⟨q, rfl, g, n, b, r3⟩ := r2
            have nq : q ≠ p := fun zz => by
              subst zz
              exact z (S.dis i j _ _ q ea hj e1 e2)
            exact ⟨q, rfl, g, n, b, r3.mono (Hle.refl _) (Ile.refl _) fun u e => keep q u nq e⟩
      · by_cases zj : i = j
        · subst zj
          rw [e1] at h3; cases h3
          by_cases zk : i = k
          · exact zk
          · rw [List.getElem?_set_ne zk] at h2
            exact S.dis i k _ _ p ea h2 e1 h4
        · rw [List.getElem?_set_ne zj] at h1
          by_cases zk : i = k
          · subst zk
            rw [e1] at h4; cases h4
            exact S.dis j i _ _ p h1 ea h3 e1
          · rw [List.getElem?_set_ne zk] at h2
            exact S.dis j k c1 c2 q h1 h2 h3 h4
      · exact keep q u (fun zz => by subst zz; rw [bp] at e; cases e) (S.b1 q u e n)
  · cases e
/-- name[e] = v -/
def sSetItem (i : Nat) (me mv : EM Val) : SM := EM.bind mv fun v => EM.bind (has i) fun _ => EM.bind me fun k => EM.bind (getCont i) fun x => match x, k with
  | .lst vs, .int k => (match ixN vs.length k with
    | some j => EM.bind (putCont i (.lst (vs.set j v))) fun _ => EM.pure .next
    | none => fun _ _ => .fail)
  | _, _ => fun _ _ => .fail
theorem PostS.getCont {i : Nat} {f : Val → SM} {D : Ends} (p : PostS K c E B G ι (EM.bind (getCont i) f ρ h) D) : ∃ v, Mir.cont ρ h i = some v ∧ isCont v = true ∧ PostS K c E B G ι (f v ρ h) D := by
  unfold EM.bind Mir.getCont at p
  cases e : Mir.cont ρ h i with
  | none => rw [e] at p; exact p.elim
  | some v =>
    rw [e] at p
    by_cases hz : isCont v = true
    · dsimp only at p
      rw [if_pos hz] at p
      exact ⟨v, rfl, hz, p⟩
    · dsimp only at p
      rw [if_neg hz] at p
      exact p.elim
theorem St.hasS (S : St K c B G ι h H ρ σ) {i : Nat} {D : Ends} {f : Unit → SM} (p : PostS K c E B G ι (EM.bind (Mir.has i) f ρ h) D) : (∃ x, σ[i]? = some (some x)) ∧ PostS K c E B G ι (f () ρ h) D := by
  unfold EM.bind Mir.has at p
  split at p
  · rename_i e
    split at e
    · rename_i v ev
      cases e
      obtain ⟨x, e1, y, rfl, _⟩ := S.env i _ ev
      exact ⟨⟨y, e1⟩, p⟩
    · rename_i v ev
      cases e
      obtain ⟨x, e1, y, rfl, _⟩ := S.env i _ ev
      exact ⟨⟨_, e1⟩, p⟩
    · cases e
  · rename_i e
    split at e <;> cases e
  · exact p.elim
theorem PostS.put {i : Nat} {cl : Cell} {f : Unit → SM} {D : Ends} (p : PostS K c E B G ι (EM.bind (putCont i cl) f ρ h) D) : ∃ ρ' h', putCont i cl ρ h = .ok () ρ' h' ∧ PostS K c E B G ι (f () ρ' h') D := by
  unfold EM.bind at p
  cases e : putCont i cl ρ h with
  | ok u ρ' h' => rw [e] at p; exact ⟨ρ', h', rfl, p⟩
  | exc C fs ρ' h' =>
    unfold putCont at e
    split at e
    · split at e <;> cases e
    · cases e
    · cases e
  | fail => rw [e] at p; exact p.elim
theorem ss_setItem {te tv : TE} {me mv : EM Val} {i : Nat} (hv : Sim K c (RV K c) E tv mv) (he : Sim K c (RV K c) E te me) : SimS K c E (tAsg tv (gSub (tVar i) te rSetL)) (sSetItem i me mv) := by
  intro B G ι h H ρ σ D hs hp
  refine hv.bindS hs hp fun G1 ι1 h1 H1 ρ1 v x a1 b1 s1 r1 p1 => ?_
  obtain ⟨⟨x0, hx0⟩, p1⟩ := s1.hasS p1
  refine ⟨x0, hx0, ?_⟩
  refine he.bindS s1 p1 fun G2 ι2 h2 H2 ρ2 k y a2 b2 s2 r2 p2 => ?_
  obtain ⟨cv, ec, hcv, p3⟩ := p2.getCont
  split at p3
  · rename_i vs k
    cases ej : ixN vs.length k with
    | none => rw [ej] at p3; exact p3.elim
    | some j =>
      rw [ej] at p3
      obtain ⟨ρ', h', ep, p4⟩ := p3.put
      obtain ⟨p, o, e1, ho, hc, put⟩ := s2.put ep
      rw [hx0] at e1; cases e1
      rcases hc _ ec with hc | hc
      · obtain ⟨p', xs, e3, e4, rs⟩ := hc
        cases e3
        cases r2
        refine ⟨p, xs, k, j, rfl, rfl, e4, by rw [← rs.length]; exact ej, ?_⟩
        exact p4 G2 ι2 _ σ (Hle.refl _) (Ile.refl _) (put _ ⟨xs.set j x, rfl, rs.set (r1.mono a2 b2) j⟩)
      · cases hc
  · exact p3.elim
/-- name.append(e), as a statement -/
def sAppend (i : Nat) (mv : EM Val) : SM := EM.bind (has i) fun _ => EM.bind mv fun v => EM.bind (getCont i) fun x => match x with
  | .lst vs => if vs.length < sizeLine then EM.bind (putCont i (.lst (vs ++ [v]))) fun _ => EM.pure .next else fun _ _ => .fail
  | _ => fun _ _ => .fail

/-! ### a def -/
def mFun (np n : Nat) (body : SM) : List Val → MHp → RE Val := fun args h => if args.length = np then
    match body (args.map SV.val ++ List.replicate (n - np) .un) h with
    | .ok (.ret v) _ h' => .ok v [] h'
    | .ok .next _ h' => .ok .non [] h'
    | .exc C fs _ h' => .exc C fs [] h'
    | _ => .fail
  else .fail
theorem mFun_len {np n : Nat} {body : SM} (vs : List Val) (h : MHp) (hl : vs.length ≠ np) : mFun np n body vs h = .fail := by
  unfold mFun; rw [if_neg hl]
theorem St.start {vs : List Val} {xs : List V} {N : List Str} (S : Stc K c G ι h H) (r : VRs K c G ι vs xs) : St K c ⟨G, ι, H⟩ G ι h H (vs.map SV.val ++ List.replicate (N.length - vs.length) .un) (L2.start N xs) := by
  have hl := r.length
  have noOwn : ∀ (i : Nat) cl, (vs.map SV.val ++ List.replicate (N.length - vs.length) SV.un)[i]? ≠ some (.own cl) := fun i cl e => by
    rw [List.getElem?_append] at e
    split at e
    · rw [List.getElem?_map] at e
      cases q : vs[i]? with
      | none => rw [q] at e; cases e
      | some v => rw [q] at e; cases e
    · rw [List.getElem?_replicate] at e
      split at e
      · cases e
      · cases e
  refine ⟨S, fun i sv hi => ?_, fun i j c1 c2 p h1 => (noOwn i c1 h1).elim, fun p o e _ => e, fun q hq => .inl hq, fun p o e => .inl e, Ile.refl _, Hle.refl _⟩
  unfold L2.start
  rw [List.getElem?_append] at hi ⊢
  simp only [List.length_map] at hi ⊢
  rw [← hl]
  split at hi
  · rename_i hlt
    rw [if_pos hlt]
    rw [List.getElem?_map, Option.map_eq_some_iff] at hi
    obtain ⟨v, hv, rfl⟩ := hi
    obtain ⟨x, hx, rx⟩ := r.get hv
    exact ⟨some x, by rw [List.getElem?_map, hx]; rfl, x, rfl, rx⟩
  · rename_i hlt
    rw [if_neg hlt]
    rw [List.getElem?_replicate] at hi ⊢
    split at hi
    · rename_i h2
      cases hi
      rw [if_pos h2]
      exact ⟨none, rfl, trivial⟩
    · cases hi
end

section
variable {P : Program} {w : World} {K : PySem.W.Frag} {mg : Str → Option Value} {base : Heap} {c : Ctx}
structure PSsm (X : Cx) (c : Ctx) (E : WX) (st : List Stmt) (m : SM) : Prop where
  ex : ∃ te, PSs X st te ∧ SimS X.K c E te m
structure PSm (X : Cx) (c : Ctx) (E : WX) (st : Stmt) (m : SM) : Prop where
  ex : ∃ te, PS X st te ∧ SimS X.K c E te m
/-- what a body's context gives -/
structure Bd (X : Cx) (K : PySem.W.Frag) (mg : Str → Option Value) (E : WX) (N : List Str) (sc : Scope) (k : Nat) (P : Program) (w : World) (base : Heap) : Prop where
  room : Room k X.A
  takes : Takes X E
/-- THE RULE for a def -/
theorem fn_m {x qual : Str} {st : Stmt} {f : Addr} {fd : FuncData} {N ps : List Str} {k : Nat} {body : SM} (F : Fun K x qual st f fd) (S : FnScope N ps (defScope st)) (hN : ps.length ≤ N.length)
    (hbody : ∀ (cdv : Value) (A : Around) (outer : List Env) (s : Shared) (H : Hp) (E : XK), Room k (A.deeper (envOfC qual (defScope st) s.heap.objs.size f cdv)) →
      PSsm (cxOf (L2.CX P w) P w K mg base N qual (defScope st) f cdv A outer s H E) c (fun cls d _ H => E cls d H) (defBody st) body) :
    FnOk P w K mg base (L2.CX P w) (k + 1) f fd ps (spM K c ps.length (mFun ps.length N.length body)) := by
  refine F.okX S (fun vs H Q E h => ?_) (fun cdv A outer s H vs Q E hr h => ?_)
  · obtain ⟨G, ι, h, avs, hl, _, r, _⟩ := h
    rw [← r.length]; exact hl
  · obtain ⟨G, ι, h, avs, hl, S0, r, p⟩ := h
    obtain ⟨t, hps, hsim⟩ := (hbody cdv A outer s H E hr).ex
    refine ⟨t, hps, ?_⟩
    have S1 := St.start (N := N) S0 r
    rw [hl] at S1
    refine hsim _ G ι h H _ _ _ S1 ?_
    unfold mFun at p
    rw [if_pos hl] at p
    have fr : ∀ {G' ι' h' H' ρ' σ'}, St K c ⟨G, ι, H⟩ G' ι' h' H' ρ' σ' → (∀ q ∈ ι', q ∈ ι ∨ H q = none) ∧ (∀ p o, H p = some o → p ∉ ι → H' p = some o) ∧ (∀ p o, G' p = some o → G p = some o ∨ H p = none) := fun S => ⟨S.b2, S.b1, S.b3⟩
    cases e : body (avs.map SV.val ++ List.replicate (N.length - ps.length) .un) h with
    | ok fl ρ' h' =>
      rw [e] at p
      cases fl with
      | next => exact fun G' ι' H' σ' a b S => p G' ι' H' .non a b (fr S).1 (fr S).2.1 (fr S).2.2 S.st .non
      | ret v => exact fun G' ι' H' σ' x a b S r => p G' ι' H' x a b (fr S).1 (fr S).2.1 (fr S).2.2 S.st r
      | brk => exact p.elim
      | cont => exact p.elim
    | exc C fs ρ' h' =>
      rw [e] at p
      exact fun G' ι' H' σ' cls d a b S r => p G' ι' H' cls d a b (fr S).1 (fr S).2.1 (fr S).2.2 S.st r
    | fail => rw [e] at p; exact p.elim
end
end Mir

set_option Elab.async false
set_option linter.all false
set_option maxRecDepth 100000
set_option maxHeartbeats 4000000
namespace Mir
open PySem PySem.Spec PyProof.Rows L2

/-! ### more of expressions: isinstance, join, displays of dicts -/
section
variable {K : PySem.W.Frag} {c : Ctx} {B : Bas} {G G' : Hp} {ι ι' : List Addr} {h h' : MHp} {H H' : Hp} {ρ ρ' : MEnv} {σ σ' : L2.St} {E : WX}
variable {ta tb tc : TE} {ma mb mc : EM Val} {t1 t2 : TT} {m1 m2 : EM Bool}
def tyName : Val → Option String
  | .non => some "NoneType"
  | .bl _ => some "bool"
  | .int _ => some "int"
  | .str _ => some "str"
  | .tup _ => some "tuple"
  | .lst _ => some "list"
  | .dct _ => some "dict"
  | _ => none
theorem tyX_of {v : Val} {x : V} {T : String} (r : VH K c G ι H v x) (hG : Hle G H) (e : tyName v = some T) : TyX K H x (.type T) := by
  cases v with
  | non => cases r; cases e; exact .base .non
  | bl b => cases r; cases e; exact .base (.bl b)
  | int b => cases r; cases e; exact .base (.int b)
  | str b => cases r; cases e; exact .base (.str b)
  | tup vs =>
    cases e
    obtain ⟨p, xs, rfl, hp, _⟩ := VR.tupE r
    rcases hG.sqT hp with (h | ⟨o, h⟩) | ⟨o, its, n, h, hc, _⟩
    · exact .base (.tup h)
    · exact .fTuple h
    · exact .kTuple h hc
  | lst vs => cases e; obtain ⟨p, xs, rfl, hp, _⟩ := r; exact .base (.lst hp)
  | dct vs => cases e; obtain ⟨p, xs, rfl, hp, _⟩ := r; exact .base (.dK hp)
  | _ => cases e
def fIsTy (T : String) (v : Val) : Option Val := (tyName v).bind fun S => (kitB S T).map .bl
def mIsTy (T : String) (a : EM Val) : EM Val := EM.bind a fun v => EM.lift (fIsTy T v)
theorem sim_isTy {T : String} (ha : Sim K c (RV K c) E ta ma) : Sim K c (RV K c) E (tCB (rIsi K) (tCons ta (tCons (tC (.ty T)) tNil))) (mIsTy T ma) := by
  intro B G ι h H ρ σ Q hs hp
  refine ha.bind (S := RV K c) hs hp fun G1 ι1 h1 H1 ρ1 v x a1 b1 s1 r1 p1 => ?_
  obtain ⟨z, e, p3⟩ := p1.lift
  simp only [fIsTy, Option.bind_eq_some_iff, Option.map_eq_some_iff] at e
  obtain ⟨S, e1, b, e2, rfl⟩ := e
  exact ⟨x, .ty T, .type S, .type T, b, rfl, .ty T, tyX_of (r1.toH s1.st.le) s1.st.le e1, kit_ty e2, Post.pure (R := RV K c) (x := .bl b) p3 s1 (.bl b)⟩
def vJoin : Val → Val → Option Val
  | .str a, .lst vs => (strs' vs).bind fun ys => if (ys.map (·.length)).sum + ys.length * a.length ≤ 16777216 then some (.str (Txt.join a ys)) else none
  | .str a, .tup vs => (strs' vs).bind fun ys => if (ys.map (·.length)).sum + ys.length * a.length ≤ 16777216 then some (.str (Txt.join a ys)) else none
  | _, _ => none
def rJoin (K : PySem.W.Frag) : V → List V → Hp → VK → Prop := fun x xs H Q => ∃ a p, ∃ ys : List Str, x = .str a ∧ xs = [.ref p] ∧ (SqL K H p (ys.map V.str) ∨ SqT K H p (ys.map V.str)) ∧
      (ys.map (·.length)).sum + ys.length * a.length ≤ 16777216 ∧ Q (.str (Txt.join a ys)) H
theorem vJoin_ok {a b : Val} {x y : V} {z : Val} (ra : VH K c G ι H a x) (rb : VH K c G ι H b y) (hG : Hle G H) (e : vJoin a b = some z) : (∃ s, x = .str s) ∧ ∃ t, z = .str t ∧ ∀ Q : VK, Q (.str t) H → rJoin K x [y] H Q := by
  unfold vJoin at e
  split at e
  · rename_i s vs
    simp only [Option.bind_eq_some_iff] at e
    obtain ⟨ys, e1, e2⟩ := e
    split at e2
    · rename_i hz
      cases e2
      cases ra
      obtain ⟨p, xs, rfl, hp, r⟩ := rb
      have := strs_ok r e1
      subst this
      exact ⟨⟨s, rfl⟩, _, rfl, fun Q q => ⟨s, p, ys, rfl, rfl, .inl (.of hp), hz, q⟩⟩
    · cases e2
  · rename_i s vs
    simp only [Option.bind_eq_some_iff] at e
    obtain ⟨ys, e1, e2⟩ := e
    split at e2
    · rename_i hz
      cases e2
      cases ra
      obtain ⟨p, xs, rfl, hp, r⟩ := VR.tupE rb
      have := strs_ok r e1
      subst this
      exact ⟨⟨s, rfl⟩, _, rfl, fun Q q => ⟨s, p, ys, rfl, rfl, .inr (hG.sqT hp), hz, q⟩⟩
    · cases e2
  · cases e
def isStr : Val → Bool
  | .str _ => true
  | _ => false
def mM1 (f : Val → Val → Option Val) (a b : EM Val) : EM Val := EM.bind a fun x => if isStr x = true then EM.bind b fun y => EM.lift (f x y) else fun _ _ => .fail
def mM1B (f : Val → Val → Option Val) (a : EM Val) (i : Nat) : EM Val := EM.bind a fun x => if isStr x = true then EM.bind (getCont i) fun y => EM.lift (f x y) else fun _ _ => .fail
theorem isStr_ok {v : Val} {x : V} (r : VR K c G ι v x) (e : isStr v = true) : ∃ s, x = .str s := by
  cases r <;> first | exact ⟨_, rfl⟩ | cases e
theorem sim_join (ha : Sim K c (RV K c) E ta ma) (hb : Sim K c (RV K c) E tb mb) : Sim K c (RV K c) E (tM1 (rJoin K) ta tb) (mM1 vJoin ma mb) := by
  intro B G ι h H ρ σ Q hs hp
  refine ha.bind hs hp fun G1 ι1 h1 H1 ρ1 v x a1 b1 s1 r1 p1 => ?_
  by_cases hz : isStr v = true
  · rw [if_pos hz] at p1
    refine ⟨isStr_ok r1 hz, hb.bind s1 p1 fun G2 ι2 h2 H2 ρ2 w y a2 b2 s2 r2 p2 => ?_⟩
    obtain ⟨z, e, p3⟩ := p2.lift
    obtain ⟨_, t, rfl, k⟩ := vJoin_ok ((r1.mono a2 b2).toH s2.st.le) (r2.toH s2.st.le) s2.st.le e
    exact k Q (Post.pure (R := RV K c) (x := .str t) p3 s2 (.str t))
  · rw [if_neg hz] at p1; exact p1.elim
theorem sim_joinB {i : Nat} (ha : Sim K c (RV K c) E ta ma) : Sim K c (RV K c) E (tM1 (rJoin K) ta (tVar i)) (mM1B vJoin ma i) := by
  intro B G ι h H ρ σ Q hs hp
  refine ha.bind hs hp fun G1 ι1 h1 H1 ρ1 v x a1 b1 s1 r1 p1 => ?_
  by_cases hz : isStr v = true
  · rw [if_pos hz] at p1
    obtain ⟨w, ec, hv, p2⟩ := p1.getCont
    obtain ⟨y, ey, ry⟩ := s1.cont ec hv
    refine ⟨isStr_ok r1 hz, y, ey, ?_⟩
    obtain ⟨z, e, p3⟩ := p2.lift
    obtain ⟨_, t, rfl, k⟩ := vJoin_ok (r1.toH s1.st.le) ry s1.st.le e
    exact k Q (Post.pure (R := RV K c) (x := .str t) p3 s1 (.str t))
  · rw [if_neg hz] at p1; exact p1.elim

/-! ### dicts by value -/
def keyB : Val → Val → Bool
  | .int i, .int j => decide (i = j)
  | .str i, .str j => decide (i = j)
  | _, _ => false
def isKey : Val → Bool
  | .int _ => true
  | .str _ => true
  | _ => false
def putD (kvs : List (Val × Val)) (k v : Val) : List (Val × Val) :=
  if (kvs.any fun kv => keyB kv.1 k) = true then kvs.map (fun kv => if keyB kv.1 k = true then (kv.1, v) else kv) else kvs ++ [(k, v)]
theorem keyB_eq {a b : Val} {p q : Key} (ra : KyR a p) (rb : KyR b q) : keyB a b = decide (p = q) := by
  cases ra <;> cases rb <;> simp [keyB]
theorem KVRs.any {k : Val} {q : Key} (rk : KyR k q) : ∀ {kvs : List (Val × Val)} {xs : List (Key × V)}, KVRs K c G ι kvs xs → (kvs.any fun kv => keyB kv.1 k) = (xs.any fun kv => decide (kv.1 = q))
  | _, _, .nil => rfl
  | _, _, .cons a b r => by rw [List.any_cons, List.any_cons, KVRs.any rk r, keyB_eq a rk]
theorem KVRs.put {k v : Val} {q : Key} {x : V} (rk : KyR k q) (rv : VR K c G ι v x) {kvs : List (Val × Val)} {xs : List (Key × V)} (r : KVRs K c G ι kvs xs) : KVRs K c G ι (putD kvs k v) (putK xs q x) := by
  unfold putD putK
  rw [KVRs.any rk r]
  split
  · have : ∀ {kvs : List (Val × Val)} {xs : List (Key × V)}, KVRs K c G ι kvs xs → KVRs K c G ι (kvs.map fun kv => if keyB kv.1 k = true then (kv.1, v) else kv) (xs.map fun kv => if kv.1 = q then (kv.1, x) else kv) := by
      intro kvs xs r
      induction kvs generalizing xs with
      | nil => cases r; exact .nil
      | cons a as ih =>
        cases r with
        | cons ra rb rr =>
          simp only [List.map_cons, keyB_eq ra rk, decide_eq_true_eq]
          split
          · exact .cons ra rv (ih rr)
          · exact .cons ra rb (ih rr)
    exact this r
  · have : ∀ {kvs : List (Val × Val)} {xs : List (Key × V)}, KVRs K c G ι kvs xs → KVRs K c G ι (kvs ++ [(k, v)]) (xs ++ [(q, x)]) := by
      intro kvs xs r
      induction kvs generalizing xs with
      | nil => cases r; exact .cons rk rv .nil
      | cons a as ih =>
        cases r with
        | cons ra rb rr => exact .cons ra rb (ih rr)
    exact this r
theorem sn_dnew : SimN K c E tDNewK (fun ρ h => .ok (.dct []) ρ h) := by
  intro B G ι h H ρ σ Q hs hp
  intro d hd
  exact hp G ι _ d (.dK []) (Hle.refl _) (Ile.refl _) (hs.off hd) (hs.pinNew hd) ⟨[], rfl, .nil⟩
def mPairs : List (EM Val × EM Val) → EM (List (Val × Val))
  | [] => EM.pure []
  | (a, b) :: r => EM.bind a fun k => EM.bind b fun v => EM.bind (mPairs r) fun ps => EM.pure ((k, v) :: ps)
def mDisp (ps : List (EM Val × EM Val)) : EM Cell := EM.bind (mPairs ps) fun kvs => EM.lift (if kvs.length ≤ 15 ∧ kvs.all (fun kv => isKey kv.1) = true then some (.dct (kvs.foldl (fun acc kv => putD acc kv.1 kv.2) [])) else none)
inductive SimPs (K : PySem.W.Frag) (c : Ctx) (E : WX) : List (TE × TE) → List (EM Val × EM Val) → Prop
  | nil : SimPs K c E [] []
  | cons {a b m n r s} : Sim K c (RV K c) E a m → Sim K c (RV K c) E b n → SimPs K c E r s → SimPs K c E ((a, b) :: r) ((m, n) :: s)
inductive PRs (K : PySem.W.Frag) (c : Ctx) (G : Hp) (ι : List Addr) : List (Val × Val) → List (V × V) → Prop
  | nil : PRs K c G ι [] []
  | cons {k v x y r s} : VR K c G ι k x → VR K c G ι v y → PRs K c G ι r s → PRs K c G ι ((k, v) :: r) ((x, y) :: s)
theorem PRs.mono (hG : Hle G G') (hι : Ile ι ι') {r : List (Val × Val)} {s : List (V × V)} (p : PRs K c G ι r s) : PRs K c G' ι' r s := by
  induction p with
  | nil => exact .nil
  | cons a b _ ih => exact .cons (a.mono hG hι) (b.mono hG hι) ih
theorem sim_pairs : ∀ {trs : List (TE × TE)} {ps : List (EM Val × EM Val)}, SimPs K c E trs ps → Sim K c (fun G ι a b => PRs K c G ι a b) E (tPairs trs) (mPairs ps)
  | _, _, .nil => fun B G ι h H ρ σ Q hs hp => Post.pure (R := fun G ι a b => PRs K c G ι a b) (x := []) hp hs .nil
  | _, _, .cons ha hb hr => fun B G ι h H ρ σ Q hs hp => by
    refine ha.bind (S := fun G ι a b => PRs K c G ι a b) hs hp fun G1 ι1 h1 H1 ρ1 v x a1 b1 s1 r1 p1 => ?_
    refine hb.bind (S := fun G ι a b => PRs K c G ι a b) s1 p1 fun G2 ι2 h2 H2 ρ2 w y a2 b2 s2 r2 p2 => ?_
    refine (sim_pairs hr).bind (S := fun G ι a b => PRs K c G ι a b) s2 p2 fun G3 ι3 h3 H3 ρ3 ws ys a3 b3 s3 r3 p3 => ?_
    exact Post.pure (R := fun G ι a b => PRs K c G ι a b) (x := (x, y) :: ys) p3 s3 (.cons (r1.mono (a2.trans a3) (b2.trans b3)) (r2.mono a3 b3) r3)
theorem PRs.keys : ∀ {kvs : List (Val × Val)} {xs : List (V × V)}, PRs K c G ι kvs xs → kvs.all (fun kv => isKey kv.1) = true → ∃ ks : List (Key × V), xs = ks.map (fun kv => (kV kv.1, kv.2)) ∧ KVRs K c G ι kvs ks
  | _, _, .nil, _ => ⟨[], rfl, .nil⟩
  | (k, v) :: _, _, .cons a b r, e => by
    rw [List.all_cons, Bool.and_eq_true] at e
    obtain ⟨ks, rfl, rk⟩ := PRs.keys r e.2
    have e1 : isKey k = true := e.1
    cases a with
    | int i => exact ⟨(.inl i, _) :: ks, rfl, .cons (.int i) b rk⟩
    | str i => exact ⟨(.inr i, _) :: ks, rfl, .cons (.str i) b rk⟩
    | _ => cases e1
theorem KVRs.length : ∀ {kvs : List (Val × Val)} {xs : List (Key × V)}, KVRs K c G ι kvs xs → kvs.length = xs.length
  | _, _, .nil => rfl
  | _, _, .cons _ _ r => by simp [KVRs.length r]
theorem KVRs.merge : ∀ {kvs acc : List (Val × Val)} {xs bcc : List (Key × V)}, KVRs K c G ι kvs xs → KVRs K c G ι acc bcc → KVRs K c G ι (kvs.foldl (fun acc kv => putD acc kv.1 kv.2) acc) (mergeK bcc xs)
  | _, _, _, _, .nil, r => r
  | _, _, _, _, .cons a b t, r => by
    show KVRs K c G ι (List.foldl _ (putD _ _ _) _) (mergeK (putK _ _ _) _)
    exact KVRs.merge t (r.put a b)
theorem sn_disp {trs : List (TE × TE)} {ps : List (EM Val × EM Val)} (hps : SimPs K c E trs ps) : SimN K c E (tDisp trs) (mDisp ps) := by
  intro B G ι h H ρ σ Q hs hp
  intro d hd
  have F : Off B d := hs.off hd
  have S1 := hs.pinNew (o := .dK []) hd
  unfold mDisp EM.bind at hp
  refine sim_pairs hps _ G ι h _ ρ σ _ S1 ?_
  cases e : mPairs ps ρ h with
  | ok kvs ρ1 h1 =>
    rw [e] at hp
    intro G1 ι1 H1 xs a1 b1 s1 r1
    obtain ⟨hD, _, _⟩ := s1.pinFacts F
    refine ⟨hD, ?_⟩
    unfold EM.lift at hp
    dsimp only at hp
    by_cases hz : kvs.length ≤ 15 ∧ kvs.all (fun kv => isKey kv.1) = true
    · rw [if_pos hz] at hp
      obtain ⟨ks, rfl, rk⟩ := r1.keys hz.2
      exact ⟨ks, rfl, by rw [← rk.length]; exact hz.1, hp G1 ι1 _ d _ a1 b1 F (s1.repin F) ⟨_, rfl, KVRs.merge rk .nil⟩⟩
    · rw [if_neg hz] at hp; exact hp.elim
  | exc C fs ρ1 h1 =>
    rw [e] at hp
    intro G1 ι1 H1 cls dd a1 b1 s1 r1
    exact hp G1 ι1 H1 cls dd a1 b1 (s1.unpin F) r1
  | fail => rw [e] at hp; exact hp.elim

/-! ### fresh lists -/
def nLst (r : EM (List Val)) : EM Cell := EM.bind r fun xs => EM.lift (if xs.length ≤ sizeLine then some (.lst xs) else none)
theorem Sim.bindN {α β : Type} {R : RelT α β} {te : L2.St → Hp → (β → Hp → Prop) → Prop} {m : EM α} {f : α → EM Cell} {Q : VK} {k : β → Hp → Prop} (hm : Sim K c R E te m) (hs : St K c B G ι h H ρ σ)
    (hp : PostN K c E B G ι σ (EM.bind m f ρ h) Q)
    (hk : ∀ G' ι' h' H' ρ' v x, Hle G G' → Ile ι ι' → St K c B G' ι' h' H' ρ' σ → R G' ι' v x → PostN K c E B G' ι' σ (f v ρ' h') Q → k x H') : te σ H k := by
  refine hm B G ι h H ρ σ k hs ?_
  unfold EM.bind at hp
  cases e : m ρ h with
  | ok v ρ' h' =>
    rw [e] at hp
    exact fun G' ι' H' x a b s r => hk G' ι' h' H' ρ' v x a b s r (PostN.mono a b hp)
  | exc C fs ρ' h' => rw [e] at hp; exact hp
  | fail => rw [e] at hp; exact hp
theorem PostN.fresh {cl : Cell} {Q : VK} {p : Addr} {o : HO} (hs : St K c B G ι h H ρ σ) (hp : PostN K c E B G ι σ (.ok cl ρ h) Q) (hf : H p = none) (r : CO K c G ι cl o) : Q (.ref p) (upd H p o) :=
  hp G ι _ p o (Hle.refl _) (Ile.refl _) (hs.off hf) (hs.pinNew hf) r
theorem sn_lst {tr : TA} {mr : EM (List Val)} (hr : Sim K c (RVs K c) E tr mr) : SimN K c E (tLst tr) (nLst mr) := by
  intro B G ι h H ρ σ Q hs hp
  refine hr.bindN hs hp fun G1 ι1 h1 H1 ρ1 vs xs a1 b1 s1 r1 p1 => ?_
  by_cases hz : vs.length ≤ sizeLine
  · unfold EM.lift at p1
    rw [if_pos hz] at p1
    exact ⟨by rw [← r1.length]; exact hz, fun p hf => PostN.fresh s1 p1 hf ⟨xs, rfl, r1⟩⟩
  · unfold EM.lift at p1
    rw [if_neg hz] at p1; exact p1.elim
/-- list(e) -/
def nList (a : EM Val) : EM Cell := EM.bind a fun v => EM.lift (match v with
  | .tup vs => some (.lst vs)
  | .lst vs => some (.lst vs)
  | .fz vs => some (.lst vs)
  | _ => none)
theorem sn_list (ha : Sim K c (RV K c) E ta ma) : SimN K c E (tCB (fun xs H Q => ∃ p ys, xs = [.ref p] ∧ (SqL K H p ys ∨ SqT K H p ys) ∧ ∀ l, H l = none → Q (.ref l) (upd H l (.lst ys))) (tCons ta tNil)) (nList ma) := by
  intro B G ι h H ρ σ Q hs hp
  refine ha.bindN hs hp fun G1 ι1 h1 H1 ρ1 v x a1 b1 s1 r1 p1 => ?_
  cases v with
  | tup vs => obtain ⟨p, xs, rfl, hx, r⟩ := r1.tupE; exact ⟨p, xs, rfl, .inr (s1.st.le.sqT hx), fun l hl => PostN.fresh s1 p1 hl ⟨xs, rfl, r⟩⟩
  | lst vs => obtain ⟨p, xs, rfl, hx, r⟩ := r1.lstE; exact ⟨p, xs, rfl, .inl (.of (s1.st.le _ _ hx)), fun l hl => PostN.fresh s1 p1 hl ⟨xs, rfl, r⟩⟩
  | fz vs => obtain ⟨p, xs, rfl, hx, r⟩ := r1.fzE; exact ⟨p, xs, rfl, .inl (s1.st.le.sqL hx), fun l hl => PostN.fresh s1 p1 hl ⟨xs, rfl, r⟩⟩
  | _ => exact p1.elim
/-- a fresh object becomes a cell of the mirrored heap -/
def mCell (m : EM Cell) : EM Val := EM.bind m fun cl ρ h => .ok (.ref h.length) ρ (h ++ [cl])
theorem St.cellNew {D : Addr} {o : HO} (F : Off B D) (S : St K c (B.pin D o) G ι h H ρ σ) {cl : Cell} (r : CO K c G ι cl o) : St K c B G (ι ++ [D]) (h ++ [cl]) H ρ σ := by
  obtain ⟨hD, gD, iD⟩ := St.pinFacts F S
  have S1 := S.unpin F
  have hι : Ile ι (ι ++ [D]) := ⟨[D], rfl⟩
  refine ⟨⟨S1.st.le, by simp [S1.st.len], ?_, fun p hp => ?_, fun i p cl' h1 h2 => ?_⟩, fun i sv hi => ?_, S1.dis, S1.b1, fun q hq => ?_, S1.b3, S1.b4.trans hι, S1.b5⟩
  · rw [List.nodup_append]
    exact ⟨S1.st.nd, by simp, fun a ha b hb => by
      have : b = D := by simpa using hb
      subst this
      exact fun z => iD (by rw [← z]; exact ha)⟩
  · rcases List.mem_append.mp hp with z | z
    · exact S1.st.out p z
    · have : p = D := by simpa using z
      subst this; exact gD
  · by_cases hl : i < ι.length
    · rw [List.getElem?_append_left hl] at h1
      rw [List.getElem?_append_left (by rw [← S1.st.len]; exact hl)] at h2
      exact (S1.st.cell i p cl' h1 h2).mono (Hle.refl _) hι fun _ e => e
    · have hi : i < (ι ++ [D]).length := (List.getElem?_eq_some_iff.mp h1).1
      rw [List.length_append] at hi
      have e : i = ι.length := by
        have : [D].length = 1 := rfl
        omega
      subst e
      rw [List.getElem?_append_right (Nat.le_refl _)] at h1
      rw [S1.st.len, List.getElem?_append_right (Nat.le_refl _)] at h2
      simp at h1 h2
      subst h1 h2
      exact (CO.mono (Hle.refl _) hι r).cr hD
  · obtain ⟨x, e1, r1⟩ := S.env i sv hi
    obtain ⟨x', e1', r1'⟩ := S1.env i sv hi
    rw [e1] at e1'; cases e1'
    refine ⟨x, e1, ?_⟩
    cases sv with
    | un => trivial
    | val v => obtain ⟨y, e, q⟩ := r1'; exact ⟨y, e, q.mono (Hle.refl _) hι⟩
    | own c2 =>
      obtain ⟨p, e, g, n, b, q⟩ := r1
      obtain ⟨p', e', g', n', b', q'⟩ := r1'
      rw [e] at e'; cases e'
      have np : p ≠ D := fun z => by
        have e' : upd B.H D o p = none := b
        rw [z, upd_same] at e'; cases e'
      refine ⟨p, e, g, fun hm => ?_, b', q'.mono (Hle.refl _) hι fun _ e => e⟩
      rcases List.mem_append.mp hm with z | z
      · exact n' z
      · exact np (by simpa using z)
  · rcases List.mem_append.mp hq with z | z
    · exact S1.b2 q z
    · have : q = D := by simpa using z
      subst this; exact .inr F.h
theorem SimN.cell {te : TE} {m : EM Cell} (hm : SimN K c E te m) : Sim K c (RV K c) E te (mCell m) := by
  intro B G ι h H ρ σ Q hs hp
  refine hm B G ι h H ρ σ Q hs ?_
  unfold mCell EM.bind at hp
  cases e : m ρ h with
  | ok cl ρ' h' =>
    rw [e] at hp
    intro G' ι' H' p o hG hι F S r
    refine hp G' (ι' ++ [p]) H' (.ref p) hG (hι.trans ⟨[p], rfl⟩) (S.cellNew F r) (.ref ?_)
    rw [← S.st.len, List.getElem?_append_right (Nat.le_refl _)]
    simp
  | exc C fs ρ' h' => rw [e] at hp; exact hp
  | fail => rw [e] at hp; exact hp
end
end Mir

set_option Elab.async false
set_option linter.all false
set_option maxRecDepth 100000
set_option maxHeartbeats 4000000
namespace Mir
open PySem PySem.Spec PyProof.Rows L2

structure EEm (X : Cx) (K : PySem.W.Frag) (c : Ctx) (E : WX) (e : Expr) (te : TE) (m : EM Val) : Prop where
  hK : X.K = K
  p : PE X e te
  s : Sim K c (RV K c) E te m
structure ETm (X : Cx) (K : PySem.W.Frag) (c : Ctx) (E : WX) (e : Expr) (te : TT) (m : EM Bool) : Prop where
  hK : X.K = K
  p : PT X e te
  s : Sim K c RB E te m
structure EWm (X : Cx) (K : PySem.W.Frag) (c : Ctx) (E : WX) (e : Expr) (te : TT) (m : EM Bool) : Prop where
  hK : X.K = K
  p : PW X e te
  s : Sim K c RB E te m
structure EAm (X : Cx) (K : PySem.W.Frag) (c : Ctx) (E : WX) (es : List Expr) (te : TA) (m : EM (List Val)) : Prop where
  hK : X.K = K
  p : PA X es te
  s : Sim K c (RVs K c) E te m
structure ENm (X : Cx) (K : PySem.W.Frag) (c : Ctx) (E : WX) (e : Expr) (te : TE) (m : EM Cell) : Prop where
  hK : X.K = K
  p : PE X e te
  s : SimN K c E te m
structure EIm (X : Cx) (K : PySem.W.Frag) (c : Ctx) (E : WX) (tg iter : Expr) (te : TI) (m : EM (List Val)) : Prop where
  hK : X.K = K
  p : PI X tg iter te
  s : Sim K c (RJ K c) E te m
structure EGm (X : Cx) (K : PySem.W.Frag) (c : Ctx) (target : Expr) (is : List Nat) (g : TG) (tg : TgM) : Prop where
  hK : X.K = K
  p : PG X target g
  s : SimG K c is g tg
structure EGsm (X : Cx) (K : PySem.W.Frag) (c : Ctx) (ts : List Expr) (is : List Nat) (g : TGs) (tg : TgsM) : Prop where
  hK : X.K = K
  p : PGs X ts g
  s : SimGs K c is g tg
structure ETsm (X : Cx) (K : PySem.W.Frag) (c : Ctx) (E : WX) (ifs : List Expr) (te : TT) (m : EM Bool) : Prop where
  hK : X.K = K
  p : PTs X ifs te
  s : Sim K c RB E te m
structure EPsm (X : Cx) (K : PySem.W.Frag) (c : Ctx) (E : WX) (pos : Pos) (keys : List (Option Expr)) (values : List Expr) (trs : List (TE × TE)) (ps : List (EM Val × EM Val)) : Prop where
  hK : X.K = K
  p : PPs X pos keys values trs
  s : SimPs K c E trs ps
structure ESm (X : Cx) (K : PySem.W.Frag) (c : Ctx) (E : WX) (st : Stmt) (te : TS) (m : SM) : Prop where
  hK : X.K = K
  p : PS X st te
  s : SimS K c E te m
structure EBm (X : Cx) (K : PySem.W.Frag) (c : Ctx) (E : WX) (st : List Stmt) (te : TS) (m : SM) : Prop where
  hK : X.K = K
  p : PSs X st te
  s : SimS K c E te m

section
variable {X : Cx} {K : PySem.W.Frag} {c : Ctx} {E : WX} {pos : Pos} {a b d : Expr} {ta tb td : TE} {ma mb md : EM Val} {t1 t2 : TT} {m1 m2 : EM Bool}
theorem pm_var (i : Nat) {y : Str} (hK : X.K = K := by rfl) (hN : X.N[i]? = some y := by rfl) (hvis : Vis X.env.scope y := by first | exact Or.inl rfl | exact Or.inr (Or.inl rfl) | exact Or.inr (Or.inr rfl)) (hd : (y == ("__debug__" : Str)) = false := by decide) (hcd : (y == ("__classdict__" : Str)) = false := by decide) : EEm X K c E (.Name y pos) (tVar i) (mVar i) := ⟨hK, (pv i hN hvis hd hcd), sim_var i⟩
theorem pm_int {i : Int} {j} (hK : X.K = K := by rfl) : EEm X K c E (.Constant (.int i) j pos) (tC (.int i)) (mC (.int i)) := ⟨hK, pe_int, sim_int i⟩
theorem pm_bl {i : Bool} {j} (hK : X.K = K := by rfl) : EEm X K c E (.Constant (.bool i) j pos) (tC (.bl i)) (mC (.bl i)) := ⟨hK, pe_bl, sim_bl i⟩
theorem pm_str {i : Str} {j} (hK : X.K = K := by rfl) : EEm X K c E (.Constant (.str i) j pos) (tC (.str i)) (mC (.str i)) := ⟨hK, pe_str, sim_str i⟩
theorem pm_non {j} (hK : X.K = K := by rfl) : EEm X K c E (.Constant .none j pos) (tC .non) (mC .non) := ⟨hK, pe_non, sim_non⟩
theorem pm_glob {y : Str} {v : V} {u : Value} {val : Val} (rv : ∀ G ι, VR K c G ι val v) (r : RelV v u) (hm : X.mg y = some u) (hK : X.K = K := by rfl) (hg : Gl X y := by rfl) (hd : (y == ("__debug__" : Str)) = false := by decide) : EEm X K c E (.Name y pos) (tC v) (mC val) := ⟨hK, pe_glob hg hm r hd, sim_c rv⟩
theorem pm_bin {op : Operator} {r : PySem.W.Frag → R2} {f : Val → Val → Option Val} (ho : OpR X (binaryOp op) (r X.K)) (hr : SimR2 K c (r K) f) (ha : EEm X K c E a ta ma) (hb : EEm X K c E b tb mb) : EEm X K c E (.BinOp a op b pos) (tOp (r K) ta tb) (mOp f ma mb) := by
  obtain ⟨rfl, pa, sa⟩ := ha
  obtain ⟨_, pb, sb⟩ := hb
  exact ⟨rfl, pe_op ho pa pb, sim_op hr sa sb⟩
theorem pm_add (ha : EEm X K c E a ta ma) (hb : EEm X K c E b tb mb) : EEm X K c E (.BinOp a .Add b pos) (tOp (rAddAny K) ta tb) (mOp fAdd ma mb) := pm_bin (r := rAddAny) op_addAny sr_add ha hb
theorem pm_sub (ha : EEm X K c E a ta ma) (hb : EEm X K c E b tb mb) : EEm X K c E (.BinOp a .Sub b pos) (tOp ((fun _ => rI0 fun i j => .int (i - j)) K) ta tb) (mOp fSub ma mb) := pm_bin (r := (fun _ => rI0 fun i j => .int (i - j))) op_sub sr_sub ha hb
theorem pm_mul (ha : EEm X K c E a ta ma) (hb : EEm X K c E b tb mb) : EEm X K c E (.BinOp a .Mult b pos) (tOp ((fun _ => rI CMulW fun i j => .int (i * j)) K) ta tb) (mOp fMul ma mb) := pm_bin (r := (fun _ => rI CMulW fun i j => .int (i * j))) op_mulW sr_mul ha hb
theorem pm_mod (ha : EEm X K c E a ta ma) (hb : EEm X K c E b tb mb) : EEm X K c E (.BinOp a .Mod b pos) (tOp ((fun _ => rI (fun _ j => 0 < j) fun i j => .int (i % j)) K) ta tb) (mOp fMod ma mb) := pm_bin (r := (fun _ => rI (fun _ j => 0 < j) fun i j => .int (i % j))) op_mod sr_mod ha hb
theorem pm_div (ha : EEm X K c E a ta ma) (hb : EEm X K c E b tb mb) : EEm X K c E (.BinOp a .FloorDiv b pos) (tOp ((fun _ => rI CDivW fun i j => .int (i / j)) K) ta tb) (mOp fDiv ma mb) := pm_bin (r := (fun _ => rI CDivW fun i j => .int (i / j))) op_fdivW sr_div ha hb
theorem pm_pow (ha : EEm X K c E a ta ma) (hb : EEm X K c E b tb mb) : EEm X K c E (.BinOp a .Pow b pos) (tOp ((fun _ => rI CPowW fun i j => .int (i ^ j.toNat)) K) ta tb) (mOp fPow ma mb) := pm_bin (r := (fun _ => rI CPowW fun i j => .int (i ^ j.toNat))) op_powW sr_pow ha hb
theorem pm_notV (ha : EEm X K c E a ta ma) : EEm X K c E (.UnaryOp .Not a pos) (tNotT K ta) (mNotV ma) := by
  obtain ⟨rfl, pa, sa⟩ := ha
  exact ⟨rfl, pe_notT pa, sim_notV sa⟩
def vNeg : Val → Option Val
  | .int i => some (.int (-i))
  | _ => none
theorem pm_neg (ha : EEm X K c E a ta ma) : EEm X K c E (.UnaryOp .USub a pos) (tUn (rU fun i => .int (-i)) ta) (mUn vNeg ma) := by
  obtain ⟨rfl, pa, sa⟩ := ha
  refine ⟨rfl, pe_un un_neg pa, sim_un ?_ sa⟩
  intro B G ι h H ρ σ vx x z hs rx e Q q
  cases rx <;> simp [vNeg] at e
  subst e
  exact ⟨_, rfl, q G H _ (Hle.refl _) hs (.int _)⟩
structure CmpOk (X : Cx) (K : PySem.W.Frag) (c : Ctx) (op : CmpOp) (r : PySem.W.Frag → R2) (f : Val → Val → Option Val) : Prop where
  o : OpR X (compareOp op) (r X.K)
  s : SimR2 K c (r K) f
theorem co_lt : CmpOk X K c .Lt (fun _ => rI0 fun i j => .bl (decide (i < j))) fLt := ⟨op_lt, sr_cmp⟩
theorem co_le : CmpOk X K c .LtE (fun _ => rI0 fun i j => .bl (decide (i ≤ j))) fLe := ⟨op_le, sr_cmp⟩
theorem co_gt : CmpOk X K c .Gt (fun _ => rI0 fun i j => .bl (decide (j < i))) fGt := ⟨op_gt, sr_cmp⟩
theorem co_ge : CmpOk X K c .GtE (fun _ => rI0 fun i j => .bl (decide (j ≤ i))) fGe := ⟨op_ge, sr_cmp⟩
theorem co_eq (hu : X.A.units + 64 < cLine) : CmpOk X K c .Eq rEqD fEq := ⟨op_eqD hu, sr_eq⟩
theorem co_ne (hu : X.A.units + 64 < cLine) : CmpOk X K c .NotEq rNeD fNe := ⟨op_neD hu, sr_ne⟩
theorem co_in (hu : X.A.units + 65 < cLine) : CmpOk X K c .In rInAny fIn := ⟨op_inAny hu, sr_in⟩
theorem co_notIn (hu : X.A.units + 65 < cLine) : CmpOk X K c .NotIn rNotInAny fNotIn := ⟨op_notInAny hu, sr_notIn⟩
theorem co_is : CmpOk X K c .Is (fun _ => rIsAny) fIs := ⟨op_isAny, sr_is⟩
theorem co_isNot : CmpOk X K c .IsNot (fun _ => rIsNotAny) fIsNot := ⟨op_isNotAny, sr_isNot⟩
theorem pm_cmp {op : CmpOp} {r : PySem.W.Frag → R2} {f : Val → Val → Option Val} (k : CmpOk X K c op r f) (ha : EEm X K c E a ta ma) (hb : EEm X K c E b tb mb) (hm : behindInMarks op b = false := by first | exact nomark _ | rfl) : EEm X K c E (.Compare a [op] [b] pos) (tOp (r K) ta tb) (mOp f ma mb) := by
  obtain ⟨rfl, pa, sa⟩ := ha
  exact ⟨rfl, pe_cmpR k.o pa hb.p hm, sim_op k.s sa hb.s⟩
theorem ptm_cmp {op : CmpOp} {r : PySem.W.Frag → R2} {f : Val → Val → Option Val} (k : CmpOk X K c op r f) (ha : EEm X K c E a ta ma) (hb : EEm X K c E b tb mb) (hm : behindInMarks op b = false := by first | exact nomark _ | rfl) : ETm X K c E (.Compare a [op] [b] pos) (tTest (tOp (r K) ta tb)) (mTest (mOp f ma mb)) := by
  obtain ⟨rfl, pa, sa⟩ := ha
  exact ⟨rfl, pt_cmpR k.o pa hb.p hm, sim_test (sim_op k.s sa hb.s)⟩
theorem pm_cmpB (i : Nat) {y : Str} {p2 : Pos} {op : CmpOp} {r : PySem.W.Frag → R2} {f : Val → Val → Option Val} (k : CmpOk X K c op r f) (hb : EEm X K c E b tb mb) (hm : behindInMarks op b = false := by first | exact nomark _ | rfl) (hN : X.N[i]? = some y := by rfl) (hvis : Vis X.env.scope y := by first | exact Or.inl rfl | exact Or.inr (Or.inl rfl) | exact Or.inr (Or.inr rfl)) (hd : (y == ("__debug__" : Str)) = false := by decide) (hcd : (y == ("__classdict__" : Str)) = false := by decide) : EEm X K c E (.Compare (.Name y p2) [op] [b] pos) (tOp (r K) (tVar i) tb) (mIxB f i mb) := by
  obtain ⟨rfl, pb, sb⟩ := hb
  exact ⟨rfl, pe_cmpR k.o (pv i hN hvis hd hcd) pb hm, sim_opB k.s sb⟩
theorem ptm_cmpB (i : Nat) {y : Str} {p2 : Pos} {op : CmpOp} {r : PySem.W.Frag → R2} {f : Val → Val → Option Val} (k : CmpOk X K c op r f) (hb : EEm X K c E b tb mb) (hm : behindInMarks op b = false := by first | exact nomark _ | rfl) (hN : X.N[i]? = some y := by rfl) (hvis : Vis X.env.scope y := by first | exact Or.inl rfl | exact Or.inr (Or.inl rfl) | exact Or.inr (Or.inr rfl)) (hd : (y == ("__debug__" : Str)) = false := by decide) (hcd : (y == ("__classdict__" : Str)) = false := by decide) : ETm X K c E (.Compare (.Name y p2) [op] [b] pos) (tTest (tOp (r K) (tVar i) tb)) (mTest (mIxB f i mb)) := by
  obtain ⟨rfl, pb, sb⟩ := hb
  exact ⟨rfl, pt_cmpR k.o (pv i hN hvis hd hcd) pb hm, sim_test (sim_opB k.s sb)⟩
theorem pm_cmpB2 (i : Nat) {y : Str} {p2 : Pos} {op : CmpOp} {r : PySem.W.Frag → R2} {f : Val → Val → Option Val} (k : CmpOk X K c op r f) (ha : EEm X K c E a ta ma) (hm : behindInMarks op (.Name y p2) = false := by first | exact nomark _ | rfl) (hN : X.N[i]? = some y := by rfl) (hvis : Vis X.env.scope y := by first | exact Or.inl rfl | exact Or.inr (Or.inl rfl) | exact Or.inr (Or.inr rfl)) (hd : (y == ("__debug__" : Str)) = false := by decide) (hcd : (y == ("__classdict__" : Str)) = false := by decide) : EEm X K c E (.Compare a [op] [.Name y p2] pos) (tOp (r K) ta (tVar i)) (mOpB f ma i) := by
  obtain ⟨rfl, pa, sa⟩ := ha
  exact ⟨rfl, pe_cmpR k.o pa (pv i hN hvis hd hcd) hm, sim_opB2 k.s sa⟩
theorem ptm_cmpB2 (i : Nat) {y : Str} {p2 : Pos} {op : CmpOp} {r : PySem.W.Frag → R2} {f : Val → Val → Option Val} (k : CmpOk X K c op r f) (ha : EEm X K c E a ta ma) (hm : behindInMarks op (.Name y p2) = false := by first | exact nomark _ | rfl) (hN : X.N[i]? = some y := by rfl) (hvis : Vis X.env.scope y := by first | exact Or.inl rfl | exact Or.inr (Or.inl rfl) | exact Or.inr (Or.inr rfl)) (hd : (y == ("__debug__" : Str)) = false := by decide) (hcd : (y == ("__classdict__" : Str)) = false := by decide) : ETm X K c E (.Compare a [op] [.Name y p2] pos) (tTest (tOp (r K) ta (tVar i))) (mTest (mOpB f ma i)) := by
  obtain ⟨rfl, pa, sa⟩ := ha
  exact ⟨rfl, pt_cmpR k.o pa (pv i hN hvis hd hcd) hm, sim_test (sim_opB2 k.s sa)⟩
theorem pm_chain {op : CmpOp} {r : PySem.W.Frag → R2} {f : Val → Val → Option Val} (k : CmpOk X K c op r f) {op' : CmpOp} {r' : PySem.W.Frag → R2} {g : Val → Val → Option Val} (k' : CmpOk X K c op' r' g) (ha : EEm X K c E a ta ma) (hb : EEm X K c E b tb mb) (hd : EEm X K c E d td md) (hm : lastMarks [op, op'] [b, d] = false := by with_unfolding_all rfl) : EEm X K c E (.Compare a [op, op'] [b, d] pos) (tChain (r K) (r' K) ta tb td) (mChain f g ma mb md) := by
  obtain ⟨rfl, pa, sa⟩ := ha
  exact ⟨rfl, pe_chain k.o k'.o pa hb.p hd.p hm, sim_chain k.s k'.s sa hb.s hd.s⟩
theorem ptm_chain {op : CmpOp} {r : PySem.W.Frag → R2} {f : Val → Val → Option Val} (k : CmpOk X K c op r f) {op' : CmpOp} {r' : PySem.W.Frag → R2} {g : Val → Val → Option Val} (k' : CmpOk X K c op' r' g) (ha : EEm X K c E a ta ma) (hb : EEm X K c E b tb mb) (hd : EEm X K c E d td md) (hm : lastMarks [op, op'] [b, d] = false := by with_unfolding_all rfl) : ETm X K c E (.Compare a [op, op'] [b, d] pos) (tTest (tChain (r K) (r' K) ta tb td)) (mTest (mChain f g ma mb md)) := by
  obtain ⟨rfl, pa, sa⟩ := ha
  exact ⟨rfl, pt_chain k.o k'.o pa hb.p hd.p hm, sim_test (sim_chain k.s k'.s sa hb.s hd.s)⟩
theorem pm_one {op} (ha : EEm X K c E a ta ma) : EEm X K c E (.BoolOp op [a] pos) ta ma := ⟨ha.hK, pe_one ha.p, ha.s⟩
theorem pm_and {rest : List Expr} (ha : EEm X K c E a ta ma) (hb : EEm X K c E (.BoolOp .And (b :: rest) pos) tb mb) : EEm X K c E (.BoolOp .And (a :: b :: rest) pos) (tAndT K ta tb) (mAndV ma mb) := by
  obtain ⟨rfl, pa, sa⟩ := ha
  exact ⟨rfl, pe_andT pa hb.p, sim_andV sa hb.s⟩
theorem pwm_and1 (ha : ETm X K c E a t1 m1) : EWm X K c E (.BoolOp .And [a] pos) t1 m1 := ⟨ha.hK, pw_and1 ha.p, ha.s⟩
theorem pwm_and {rest : List Expr} (ha : ETm X K c E a t1 m1) (hb : EWm X K c E (.BoolOp .And (b :: rest) pos) t2 m2) : EWm X K c E (.BoolOp .And (a :: b :: rest) pos) (tAnd t1 t2) (mAnd m1 m2) := ⟨ha.hK, pw_and ha.p hb.p, sim_and ha.s hb.s⟩
theorem pm_or {rest : List Expr} (ha : EEm X K c E a ta ma) (hb : EEm X K c E (.BoolOp .Or (b :: rest) pos) tb mb) : EEm X K c E (.BoolOp .Or (a :: b :: rest) pos) (tOrT K ta tb) (mOrV ma mb) := by
  obtain ⟨rfl, pa, sa⟩ := ha
  exact ⟨rfl, pe_orT pa hb.p, sim_orV sa hb.s⟩
theorem pwm_or1 (ha : ETm X K c E a t1 m1) : EWm X K c E (.BoolOp .Or [a] pos) t1 m1 := ⟨ha.hK, pw_or1 ha.p, ha.s⟩
theorem pwm_or {rest : List Expr} (ha : ETm X K c E a t1 m1) (hb : EWm X K c E (.BoolOp .Or (b :: rest) pos) t2 m2) : EWm X K c E (.BoolOp .Or (a :: b :: rest) pos) (tOr t1 t2) (mOr m1 m2) := ⟨ha.hK, pw_or ha.p hb.p, sim_or ha.s hb.s⟩
theorem EWm.pt (h : EWm X K c E a t1 m1) : ETm X K c E a t1 m1 := ⟨h.hK, h.p.pt, h.s⟩
theorem ptm_not (h : ETm X K c E a t1 m1) : ETm X K c E (.UnaryOp .Not a pos) (tNot t1) (mNot m1) := ⟨h.hK, pt_not h.p, sim_not h.s⟩
theorem ptm_tru (ha : EEm X K c E a ta ma) (he : ∀ whole, isTrue a X.env whole = (do let v ← whole; standAt a.pos; holding [v] (truthy v)) := by intro _; rfl) : ETm X K c E a (tTru' K ta) (mTru ma) := by
  obtain ⟨rfl, pa, sa⟩ := ha
  exact ⟨rfl, pt_truth pa he, sim_tru sa⟩
theorem pm_if (h1 : ETm X K c E d t1 m1) (ha : EEm X K c E a ta ma) (hb : EEm X K c E b tb mb) : EEm X K c E (.IfExp d a b pos) (tIf t1 ta tb) (mIf m1 ma mb) := ⟨ha.hK, pe_ifExp h1.p ha.p hb.p, sim_if h1.s ha.s hb.s⟩
variable {es : List Expr} {tr : TA} {mr : EM (List Val)} {mn : EM Cell}
theorem pam_nil (hK : X.K = K := by rfl) : EAm X K c E [] tNil mNil := ⟨hK, pa_nil, sim_nil⟩
theorem pam_cons (ha : EEm X K c E a ta ma) (hr : EAm X K c E es tr mr) (hs : starEach (a :: es) X.env = (false, eval a X.env) :: starEach es X.env := by rfl) : EAm X K c E (a :: es) (tCons ta tr) (mCons ma mr) := ⟨ha.hK, pa_cons ha.p hr.p hs, sim_cons ha.s hr.s⟩
theorem pm_tup {x1} (hr : EAm X K c E es tr mr) : EEm X K c E (.Tuple es x1 pos) (tTup tr) (mTup mr) := ⟨hr.hK, pe_tup hr.p, sim_tup hr.s⟩
theorem pm_lst (hr : EAm X K c E es tr mr) : EEm X K c E (.List es pos) (tLst tr) (mLst mr) := ⟨hr.hK, pe_lst hr.p, sim_lst hr.s⟩
theorem pn_lst (hr : EAm X K c E es tr mr) : ENm X K c E (.List es pos) (tLst tr) (nLst mr) := ⟨hr.hK, pe_lst hr.p, sn_lst hr.s⟩
theorem ENm.know (h : ENm X K c E a ta mn) : EEm X K c E a ta (mKnow mn) := ⟨h.hK, h.p, h.s.sim⟩
theorem ENm.cell (h : ENm X K c E a ta mn) : EEm X K c E a ta (mCell mn) := ⟨h.hK, h.p, h.s.cell⟩
def nDict0 : EM Cell := fun ρ h => .ok (.dct []) ρ h
theorem pn_dnew (hK : X.K = K := by rfl) : ENm X K c E (.Dict [] [] pos) tDNewK nDict0 := ⟨hK, pe_dnewK, sn_dnew⟩
theorem ppm_nil (hK : X.K = K := by rfl) : EPsm X K c E pos [] [] [] [] := ⟨hK, pps_nil, .nil⟩
theorem ppm_cons {k v : Expr} {ks : List (Option Expr)} {vs : List Expr} {tk tv : TE} {mk mv : EM Val} {trs : List (TE × TE)} {ps : List (EM Val × EM Val)} (hk : EEm X K c E k tk mk) (hv : EEm X K c E v tv mv) (hr : EPsm X K c E pos ks vs trs ps) : EPsm X K c E pos (some k :: ks) (v :: vs) ((tk, tv) :: trs) ((mk, mv) :: ps) := ⟨hk.hK, pps_cons hk.p hv.p hr.p, .cons hk.s hv.s hr.s⟩
theorem pn_disp {keys : List (Option Expr)} {values : List Expr} {trs : List (TE × TE)} {ps : List (EM Val × EM Val)} (h : EPsm X K c E pos keys values trs ps) (hall : keys.all (·.isSome) = true := by rfl) (hl : keys.length = values.length := by rfl) (h0 : keys ≠ [] := by exact fun z => by cases z) (h15 : keys.length ≤ 15 := by decide) : ENm X K c E (.Dict keys values pos) (tDisp trs) (mDisp ps) := ⟨h.hK, pe_disp h.p hall hl h0 h15, sn_disp h.s⟩
variable {x : Str} {p : Pos} {e : Expr}
theorem pm_callB {id : String} {r : PySem.W.Frag → List V → Hp → VK → Prop} {f : List Val → Option Val} (hc : CallR X (.builtin id) (r X.K)) (hf : SimRC K c (r K) f) (hm : X.mg x = none) (hr : EAm X K c E (e :: es) tr mr) (hg : Gl X x := by rfl) (hv : bootBuiltins x = some (.builtin id) := by decide +kernel) (hn : x ≠ "__name__" := by decide) (hdb : (x == ("__debug__" : Str)) = false := by decide) (he : starEach (e :: es) X.env = (false, eval e X.env) :: starEach es X.env := by rfl) (hpl : (backTo pos (starEach es X.env)).any (·.1) = false := by rfl) : EEm X K c E (.Call (.Name x p) (e :: es) [] pos) (tCB (r K) tr) (mCB f mr) := by
  obtain ⟨rfl, pr, sr⟩ := hr
  exact ⟨rfl, pe_callB hc hg hm hv pr hn hdb he hpl, sim_cb hf sr⟩
theorem pm_callB1 (i : Nat) {y : Str} {p2 : Pos} {id : String} {r : PySem.W.Frag → List V → Hp → VK → Prop} {f : List Val → Option Val} (hc : CallR X (.builtin id) (r X.K)) (hf : SimRC K c (r K) f) (hm : X.mg x = none) (hK : X.K = K := by rfl) (hg : Gl X x := by rfl) (hv : bootBuiltins x = some (.builtin id) := by decide +kernel) (hn : x ≠ "__name__" := by decide) (hdb : (x == ("__debug__" : Str)) = false := by decide) (hN : X.N[i]? = some y := by rfl) (hvis : Vis X.env.scope y := by first | exact Or.inl rfl | exact Or.inr (Or.inl rfl) | exact Or.inr (Or.inr rfl)) (hd : (y == ("__debug__" : Str)) = false := by decide) (hcd : (y == ("__classdict__" : Str)) = false := by decide) (he : starEach [.Name y p2] X.env = (false, eval (.Name y p2) X.env) :: starEach [] X.env := by rfl) (hpl : (backTo pos (starEach [] X.env)).any (·.1) = false := by rfl) : EEm X K c E (.Call (.Name x p) [.Name y p2] [] pos) (tCB (r K) (tCons (tVar i) tNil)) (mCB1 f i) := by
  subst hK
  exact ⟨rfl, pe_callB hc hg hm hv (pa_cons (pv i hN hvis hd hcd) pa_nil he) hn hdb he hpl, sim_cb1 hf⟩
theorem pm_callTy {id : String} {r : PySem.W.Frag → List V → Hp → VK → Prop} {f : List Val → Option Val} (hc : CallR X (.type id) (r X.K)) (hf : SimRC K c (r K) f) (hm : X.mg x = none) (hr : EAm X K c E (e :: es) tr mr) (hg : Gl X x := by rfl) (hv : bootBuiltins x = some (.type id) := by decide +kernel) (hn : x ≠ "__name__" := by decide) (hdb : (x == ("__debug__" : Str)) = false := by decide) (he : starEach (e :: es) X.env = (false, eval e X.env) :: starEach es X.env := by rfl) (hpl : (backTo pos (starEach es X.env)).any (·.1) = false := by rfl) : EEm X K c E (.Call (.Name x p) (e :: es) [] pos) (tCB (r K) tr) (mCB f mr) := by
  obtain ⟨rfl, pr, sr⟩ := hr
  exact ⟨rfl, pe_callTy hc hg hm hv pr hn hdb he hpl, sim_cb hf sr⟩
theorem pm_callTy1 (i : Nat) {y : Str} {p2 : Pos} {id : String} {r : PySem.W.Frag → List V → Hp → VK → Prop} {f : List Val → Option Val} (hc : CallR X (.type id) (r X.K)) (hf : SimRC K c (r K) f) (hm : X.mg x = none) (hK : X.K = K := by rfl) (hg : Gl X x := by rfl) (hv : bootBuiltins x = some (.type id) := by decide +kernel) (hn : x ≠ "__name__" := by decide) (hdb : (x == ("__debug__" : Str)) = false := by decide) (hN : X.N[i]? = some y := by rfl) (hvis : Vis X.env.scope y := by first | exact Or.inl rfl | exact Or.inr (Or.inl rfl) | exact Or.inr (Or.inr rfl)) (hd : (y == ("__debug__" : Str)) = false := by decide) (hcd : (y == ("__classdict__" : Str)) = false := by decide) (he : starEach [.Name y p2] X.env = (false, eval (.Name y p2) X.env) :: starEach [] X.env := by rfl) (hpl : (backTo pos (starEach [] X.env)).any (·.1) = false := by rfl) : EEm X K c E (.Call (.Name x p) [.Name y p2] [] pos) (tCB (r K) (tCons (tVar i) tNil)) (mCB1 f i) := by
  subst hK
  exact ⟨rfl, pe_callTy hc hg hm hv (pa_cons (pv i hN hvis hd hcd) pa_nil he) hn hdb he hpl, sim_cb1 hf⟩
def rListOf (K : PySem.W.Frag) : List V → Hp → VK → Prop := fun xs H Q => ∃ p ys, xs = [.ref p] ∧ (SqL K H p ys ∨ SqT K H p ys) ∧ ∀ l, H l = none → Q (.ref l) (upd H l (.lst ys))
def rTupOf (K : PySem.W.Frag) : List V → Hp → VK → Prop := fun xs H Q => ∃ p ys, xs = [.ref p] ∧ ((SqL K H p ys ∧ ∀ l, H l = none → Q (.ref l) (upd H l (.tup ys))) ∨ (SqT K H p ys ∧ Q (.ref p) H))
def rLenOf (K : PySem.W.Frag) : List V → Hp → VK → Prop := fun xs H Q => ∃ x n, xs = [x] ∧ LenV K x H n ∧ Q (.int n) H
def rInt1 (_ : PySem.W.Frag) : List V → Hp → VK → Prop := fun xs H Q => (∃ i, xs = [.int i] ∧ Q (.int i) H) ∨ ∃ k, xs = [.bl k] ∧ Q (.int (if k then 1 else 0)) H
def rAbs1 (_ : PySem.W.Frag) : List V → Hp → VK → Prop := fun xs H Q => ∃ i, xs = [.int i] ∧ Q (.int (if i < 0 then -i else i)) H
def rMax2 (_ : PySem.W.Frag) : List V → Hp → VK → Prop := fun xs H Q => ∃ i j, xs = [.int i, .int j] ∧ Q (.int (if j > i then j else i)) H
def rMin2 (_ : PySem.W.Frag) : List V → Hp → VK → Prop := fun xs H Q => ∃ i j, xs = [.int i, .int j] ∧ Q (.int (if j < i then j else i)) H
def rStrI (_ : PySem.W.Frag) : List V → Hp → VK → Prop := fun xs H Q => ∃ i : Int, xs = [.int i] ∧ i.natAbs.log2 < 1920 ∧ Q (.str (toString i)) H
theorem pm_len (hm : X.mg "len" = none) (ha : EEm X K c E a ta ma) (hg : Gl X "len" := by rfl) (he : starEach [a] X.env = (false, eval a X.env) :: starEach [] X.env := by rfl) (hpl : (backTo pos (starEach [] X.env)).any (·.1) = false := by rfl) : EEm X K c E (.Call (.Name "len" p) [a] [] pos) (tCB (rLenOf K) (tCons ta tNil)) (mCB (f1 vLen) (mCons ma mNil)) := pm_callB (r := rLenOf) (call_len) sc_len hm (pam_cons ha (pam_nil ha.hK) he) hg (by decide +kernel) (by decide) (by decide) he hpl
theorem pm_lenB (i : Nat) {y : Str} {p2 : Pos} (hm : X.mg "len" = none) (hK : X.K = K := by rfl) (hg : Gl X "len" := by rfl) (hN : X.N[i]? = some y := by rfl) (hvis : Vis X.env.scope y := by first | exact Or.inl rfl | exact Or.inr (Or.inl rfl) | exact Or.inr (Or.inr rfl)) (hd : (y == ("__debug__" : Str)) = false := by decide) (hcd : (y == ("__classdict__" : Str)) = false := by decide) (he : starEach [.Name y p2] X.env = (false, eval (.Name y p2) X.env) :: starEach [] X.env := by rfl) (hpl : (backTo pos (starEach [] X.env)).any (·.1) = false := by rfl) : EEm X K c E (.Call (.Name "len" p) [.Name y p2] [] pos) (tCB (rLenOf K) (tCons (tVar i) tNil)) (mCB1 (f1 vLen) i) := pm_callB1 i (r := rLenOf) (call_len) sc_len hm hK hg (by decide +kernel) (by decide) (by decide) hN hvis hd hcd he hpl
theorem pm_tuple (hm : X.mg "tuple" = none) (ha : EEm X K c E a ta ma) (hg : Gl X "tuple" := by rfl) (he : starEach [a] X.env = (false, eval a X.env) :: starEach [] X.env := by rfl) (hpl : (backTo pos (starEach [] X.env)).any (·.1) = false := by rfl) : EEm X K c E (.Call (.Name "tuple" p) [a] [] pos) (tCB (rTupOf K) (tCons ta tNil)) (mCB (f1 vTuple) (mCons ma mNil)) := pm_callTy (r := rTupOf) (call_tuple_of) sc_tuple hm (pam_cons ha (pam_nil ha.hK) he) hg (by decide +kernel) (by decide) (by decide) he hpl
theorem pm_tupleB (i : Nat) {y : Str} {p2 : Pos} (hm : X.mg "tuple" = none) (hK : X.K = K := by rfl) (hg : Gl X "tuple" := by rfl) (hN : X.N[i]? = some y := by rfl) (hvis : Vis X.env.scope y := by first | exact Or.inl rfl | exact Or.inr (Or.inl rfl) | exact Or.inr (Or.inr rfl)) (hd : (y == ("__debug__" : Str)) = false := by decide) (hcd : (y == ("__classdict__" : Str)) = false := by decide) (he : starEach [.Name y p2] X.env = (false, eval (.Name y p2) X.env) :: starEach [] X.env := by rfl) (hpl : (backTo pos (starEach [] X.env)).any (·.1) = false := by rfl) : EEm X K c E (.Call (.Name "tuple" p) [.Name y p2] [] pos) (tCB (rTupOf K) (tCons (tVar i) tNil)) (mCB1 (f1 vTuple) i) := pm_callTy1 i (r := rTupOf) (call_tuple_of) sc_tuple hm hK hg (by decide +kernel) (by decide) (by decide) hN hvis hd hcd he hpl
theorem pm_list (hm : X.mg "list" = none) (ha : EEm X K c E a ta ma) (hg : Gl X "list" := by rfl) (he : starEach [a] X.env = (false, eval a X.env) :: starEach [] X.env := by rfl) (hpl : (backTo pos (starEach [] X.env)).any (·.1) = false := by rfl) : EEm X K c E (.Call (.Name "list" p) [a] [] pos) (tCB (rListOf K) (tCons ta tNil)) (mCB (f1 vList) (mCons ma mNil)) := pm_callTy (r := rListOf) (call_list_of) sc_list hm (pam_cons ha (pam_nil ha.hK) he) hg (by decide +kernel) (by decide) (by decide) he hpl
theorem pm_listB (i : Nat) {y : Str} {p2 : Pos} (hm : X.mg "list" = none) (hK : X.K = K := by rfl) (hg : Gl X "list" := by rfl) (hN : X.N[i]? = some y := by rfl) (hvis : Vis X.env.scope y := by first | exact Or.inl rfl | exact Or.inr (Or.inl rfl) | exact Or.inr (Or.inr rfl)) (hd : (y == ("__debug__" : Str)) = false := by decide) (hcd : (y == ("__classdict__" : Str)) = false := by decide) (he : starEach [.Name y p2] X.env = (false, eval (.Name y p2) X.env) :: starEach [] X.env := by rfl) (hpl : (backTo pos (starEach [] X.env)).any (·.1) = false := by rfl) : EEm X K c E (.Call (.Name "list" p) [.Name y p2] [] pos) (tCB (rListOf K) (tCons (tVar i) tNil)) (mCB1 (f1 vList) i) := pm_callTy1 i (r := rListOf) (call_list_of) sc_list hm hK hg (by decide +kernel) (by decide) (by decide) hN hvis hd hcd he hpl
theorem pm_int1 (hm : X.mg "int" = none) (ha : EEm X K c E a ta ma) (hg : Gl X "int" := by rfl) (he : starEach [a] X.env = (false, eval a X.env) :: starEach [] X.env := by rfl) (hpl : (backTo pos (starEach [] X.env)).any (·.1) = false := by rfl) : EEm X K c E (.Call (.Name "int" p) [a] [] pos) (tCB (rInt1 K) (tCons ta tNil)) (mCB (f1 vInt) (mCons ma mNil)) := pm_callTy (r := rInt1) (call_int1) sc_int hm (pam_cons ha (pam_nil ha.hK) he) hg (by decide +kernel) (by decide) (by decide) he hpl
theorem pm_int1B (i : Nat) {y : Str} {p2 : Pos} (hm : X.mg "int" = none) (hK : X.K = K := by rfl) (hg : Gl X "int" := by rfl) (hN : X.N[i]? = some y := by rfl) (hvis : Vis X.env.scope y := by first | exact Or.inl rfl | exact Or.inr (Or.inl rfl) | exact Or.inr (Or.inr rfl)) (hd : (y == ("__debug__" : Str)) = false := by decide) (hcd : (y == ("__classdict__" : Str)) = false := by decide) (he : starEach [.Name y p2] X.env = (false, eval (.Name y p2) X.env) :: starEach [] X.env := by rfl) (hpl : (backTo pos (starEach [] X.env)).any (·.1) = false := by rfl) : EEm X K c E (.Call (.Name "int" p) [.Name y p2] [] pos) (tCB (rInt1 K) (tCons (tVar i) tNil)) (mCB1 (f1 vInt) i) := pm_callTy1 i (r := rInt1) (call_int1) sc_int hm hK hg (by decide +kernel) (by decide) (by decide) hN hvis hd hcd he hpl
theorem pm_abs (hm : X.mg "abs" = none) (ha : EEm X K c E a ta ma) (hg : Gl X "abs" := by rfl) (he : starEach [a] X.env = (false, eval a X.env) :: starEach [] X.env := by rfl) (hpl : (backTo pos (starEach [] X.env)).any (·.1) = false := by rfl) : EEm X K c E (.Call (.Name "abs" p) [a] [] pos) (tCB (rAbs1 K) (tCons ta tNil)) (mCB (f1 vAbs) (mCons ma mNil)) := pm_callB (r := rAbs1) (call_abs) sc_abs hm (pam_cons ha (pam_nil ha.hK) he) hg (by decide +kernel) (by decide) (by decide) he hpl
theorem pm_absB (i : Nat) {y : Str} {p2 : Pos} (hm : X.mg "abs" = none) (hK : X.K = K := by rfl) (hg : Gl X "abs" := by rfl) (hN : X.N[i]? = some y := by rfl) (hvis : Vis X.env.scope y := by first | exact Or.inl rfl | exact Or.inr (Or.inl rfl) | exact Or.inr (Or.inr rfl)) (hd : (y == ("__debug__" : Str)) = false := by decide) (hcd : (y == ("__classdict__" : Str)) = false := by decide) (he : starEach [.Name y p2] X.env = (false, eval (.Name y p2) X.env) :: starEach [] X.env := by rfl) (hpl : (backTo pos (starEach [] X.env)).any (·.1) = false := by rfl) : EEm X K c E (.Call (.Name "abs" p) [.Name y p2] [] pos) (tCB (rAbs1 K) (tCons (tVar i) tNil)) (mCB1 (f1 vAbs) i) := pm_callB1 i (r := rAbs1) (call_abs) sc_abs hm hK hg (by decide +kernel) (by decide) (by decide) hN hvis hd hcd he hpl
theorem pm_str1 (hm : X.mg "str" = none) (ha : EEm X K c E a ta ma) (hg : Gl X "str" := by rfl) (he : starEach [a] X.env = (false, eval a X.env) :: starEach [] X.env := by rfl) (hpl : (backTo pos (starEach [] X.env)).any (·.1) = false := by rfl) : EEm X K c E (.Call (.Name "str" p) [a] [] pos) (tCB (rStrI K) (tCons ta tNil)) (mCB (f1 vStr) (mCons ma mNil)) := pm_callTy (r := rStrI) (call_str_int) sc_str hm (pam_cons ha (pam_nil ha.hK) he) hg (by decide +kernel) (by decide) (by decide) he hpl
theorem pm_str1B (i : Nat) {y : Str} {p2 : Pos} (hm : X.mg "str" = none) (hK : X.K = K := by rfl) (hg : Gl X "str" := by rfl) (hN : X.N[i]? = some y := by rfl) (hvis : Vis X.env.scope y := by first | exact Or.inl rfl | exact Or.inr (Or.inl rfl) | exact Or.inr (Or.inr rfl)) (hd : (y == ("__debug__" : Str)) = false := by decide) (hcd : (y == ("__classdict__" : Str)) = false := by decide) (he : starEach [.Name y p2] X.env = (false, eval (.Name y p2) X.env) :: starEach [] X.env := by rfl) (hpl : (backTo pos (starEach [] X.env)).any (·.1) = false := by rfl) : EEm X K c E (.Call (.Name "str" p) [.Name y p2] [] pos) (tCB (rStrI K) (tCons (tVar i) tNil)) (mCB1 (f1 vStr) i) := pm_callTy1 i (r := rStrI) (call_str_int) sc_str hm hK hg (by decide +kernel) (by decide) (by decide) hN hvis hd hcd he hpl
theorem pm_all (hc : X.calm = true) (hm : X.mg "all" = none) (ha : EEm X K c E a ta ma) (hg : Gl X "all" := by rfl) (he : starEach [a] X.env = (false, eval a X.env) :: starEach [] X.env := by rfl) (hpl : (backTo pos (starEach [] X.env)).any (·.1) = false := by rfl) : EEm X K c E (.Call (.Name "all" p) [a] [] pos) (tCB (rAll K) (tCons ta tNil)) (mCB (f1 vAll) (mCons ma mNil)) := pm_callB (r := rAll) (cr_all hc) sc_all hm (pam_cons ha (pam_nil ha.hK) he) hg (by decide +kernel) (by decide) (by decide) he hpl
theorem pm_allB (i : Nat) {y : Str} {p2 : Pos} (hc : X.calm = true) (hm : X.mg "all" = none) (hK : X.K = K := by rfl) (hg : Gl X "all" := by rfl) (hN : X.N[i]? = some y := by rfl) (hvis : Vis X.env.scope y := by first | exact Or.inl rfl | exact Or.inr (Or.inl rfl) | exact Or.inr (Or.inr rfl)) (hd : (y == ("__debug__" : Str)) = false := by decide) (hcd : (y == ("__classdict__" : Str)) = false := by decide) (he : starEach [.Name y p2] X.env = (false, eval (.Name y p2) X.env) :: starEach [] X.env := by rfl) (hpl : (backTo pos (starEach [] X.env)).any (·.1) = false := by rfl) : EEm X K c E (.Call (.Name "all" p) [.Name y p2] [] pos) (tCB (rAll K) (tCons (tVar i) tNil)) (mCB1 (f1 vAll) i) := pm_callB1 i (r := rAll) (cr_all hc) sc_all hm hK hg (by decide +kernel) (by decide) (by decide) hN hvis hd hcd he hpl
theorem pm_any (hc : X.calm = true) (hm : X.mg "any" = none) (ha : EEm X K c E a ta ma) (hg : Gl X "any" := by rfl) (he : starEach [a] X.env = (false, eval a X.env) :: starEach [] X.env := by rfl) (hpl : (backTo pos (starEach [] X.env)).any (·.1) = false := by rfl) : EEm X K c E (.Call (.Name "any" p) [a] [] pos) (tCB (rAny K) (tCons ta tNil)) (mCB (f1 vAny) (mCons ma mNil)) := pm_callB (r := rAny) (cr_any hc) sc_any hm (pam_cons ha (pam_nil ha.hK) he) hg (by decide +kernel) (by decide) (by decide) he hpl
theorem pm_anyB (i : Nat) {y : Str} {p2 : Pos} (hc : X.calm = true) (hm : X.mg "any" = none) (hK : X.K = K := by rfl) (hg : Gl X "any" := by rfl) (hN : X.N[i]? = some y := by rfl) (hvis : Vis X.env.scope y := by first | exact Or.inl rfl | exact Or.inr (Or.inl rfl) | exact Or.inr (Or.inr rfl)) (hd : (y == ("__debug__" : Str)) = false := by decide) (hcd : (y == ("__classdict__" : Str)) = false := by decide) (he : starEach [.Name y p2] X.env = (false, eval (.Name y p2) X.env) :: starEach [] X.env := by rfl) (hpl : (backTo pos (starEach [] X.env)).any (·.1) = false := by rfl) : EEm X K c E (.Call (.Name "any" p) [.Name y p2] [] pos) (tCB (rAny K) (tCons (tVar i) tNil)) (mCB1 (f1 vAny) i) := pm_callB1 i (r := rAny) (cr_any hc) sc_any hm hK hg (by decide +kernel) (by decide) (by decide) hN hvis hd hcd he hpl
theorem pm_sum (hc : X.calm = true) (hm : X.mg "sum" = none) (ha : EEm X K c E a ta ma) (hg : Gl X "sum" := by rfl) (he : starEach [a] X.env = (false, eval a X.env) :: starEach [] X.env := by rfl) (hpl : (backTo pos (starEach [] X.env)).any (·.1) = false := by rfl) : EEm X K c E (.Call (.Name "sum" p) [a] [] pos) (tCB (rSum K) (tCons ta tNil)) (mCB (f1 vSum) (mCons ma mNil)) := pm_callB (r := rSum) (cr_sum hc) sc_sum hm (pam_cons ha (pam_nil ha.hK) he) hg (by decide +kernel) (by decide) (by decide) he hpl
theorem pm_sumB (i : Nat) {y : Str} {p2 : Pos} (hc : X.calm = true) (hm : X.mg "sum" = none) (hK : X.K = K := by rfl) (hg : Gl X "sum" := by rfl) (hN : X.N[i]? = some y := by rfl) (hvis : Vis X.env.scope y := by first | exact Or.inl rfl | exact Or.inr (Or.inl rfl) | exact Or.inr (Or.inr rfl)) (hd : (y == ("__debug__" : Str)) = false := by decide) (hcd : (y == ("__classdict__" : Str)) = false := by decide) (he : starEach [.Name y p2] X.env = (false, eval (.Name y p2) X.env) :: starEach [] X.env := by rfl) (hpl : (backTo pos (starEach [] X.env)).any (·.1) = false := by rfl) : EEm X K c E (.Call (.Name "sum" p) [.Name y p2] [] pos) (tCB (rSum K) (tCons (tVar i) tNil)) (mCB1 (f1 vSum) i) := pm_callB1 i (r := rSum) (cr_sum hc) sc_sum hm hK hg (by decide +kernel) (by decide) (by decide) hN hvis hd hcd he hpl
theorem pm_max2 (hc : X.calm = true) (hm : X.mg "max" = none) (ha : EEm X K c E a ta ma) (hb : EEm X K c E b tb mb) (hg : Gl X "max" := by rfl) (he : starEach [a, b] X.env = (false, eval a X.env) :: starEach [b] X.env := by rfl) (he2 : starEach [b] X.env = (false, eval b X.env) :: starEach [] X.env := by rfl) (hpl : (backTo pos (starEach [b] X.env)).any (·.1) = false := by rfl) : EEm X K c E (.Call (.Name "max" p) [a, b] [] pos) (tCB (rMax2 K) (tCons ta (tCons tb tNil))) (mCB (f2 vMax2) (mCons ma (mCons mb mNil))) := pm_callB (r := rMax2) (call_max2 hc) sc_max2 hm (pam_cons ha (pam_cons hb (pam_nil ha.hK) he2) he) hg (by decide +kernel) (by decide) (by decide) he hpl
theorem pm_min2 (hc : X.calm = true) (hm : X.mg "min" = none) (ha : EEm X K c E a ta ma) (hb : EEm X K c E b tb mb) (hg : Gl X "min" := by rfl) (he : starEach [a, b] X.env = (false, eval a X.env) :: starEach [b] X.env := by rfl) (he2 : starEach [b] X.env = (false, eval b X.env) :: starEach [] X.env := by rfl) (hpl : (backTo pos (starEach [b] X.env)).any (·.1) = false := by rfl) : EEm X K c E (.Call (.Name "min" p) [a, b] [] pos) (tCB (rMin2 K) (tCons ta (tCons tb tNil))) (mCB (f2 vMin2) (mCons ma (mCons mb mNil))) := pm_callB (r := rMin2) (call_min2 hc) sc_min2 hm (pam_cons ha (pam_cons hb (pam_nil ha.hK) he2) he) hg (by decide +kernel) (by decide) (by decide) he hpl
theorem pn_list (hm : X.mg "list" = none) (ha : EEm X K c E a ta ma) (hg : Gl X "list" := by rfl) (he : starEach [a] X.env = (false, eval a X.env) :: starEach [] X.env := by rfl) (hpl : (backTo pos (starEach [] X.env)).any (·.1) = false := by rfl) : ENm X K c E (.Call (.Name "list" p) [a] [] pos) (tCB (rListOf K) (tCons ta tNil)) (nList ma) := by
  obtain ⟨rfl, pa, sa⟩ := ha
  exact ⟨rfl, pe_callTy call_list_of hg hm (by decide +kernel) (pa_cons pa pa_nil he) (by decide) (by decide) he hpl, sn_list sa⟩
theorem pm_isTy {T : Str} {n : String} {p2 : Pos} (hm : X.mg "isinstance" = none) (hmT : X.mg T = none) (ha : EEm X K c E a ta ma) (hvT : bootBuiltins T = some (.type n) := by decide +kernel) (hg : Gl X "isinstance" := by rfl) (hgT : Gl X T := by rfl)
    (hnT : T ≠ "__name__" := by decide) (hdT : (T == ("__debug__" : Str)) = false := by decide)
    (he : starEach [a, .Name T p2] X.env = (false, eval a X.env) :: starEach [.Name T p2] X.env := by rfl) (he2 : starEach [.Name T p2] X.env = (false, eval (.Name T p2) X.env) :: starEach [] X.env := by rfl) (hpl : (backTo pos (starEach [.Name T p2] X.env)).any (·.1) = false := by rfl) :
    EEm X K c E (.Call (.Name "isinstance" p) [a, .Name T p2] [] pos) (tCB (rIsi K) (tCons ta (tCons (tC (.ty n)) tNil))) (mIsTy n ma) := by
  obtain ⟨rfl, pa, sa⟩ := ha
  exact ⟨rfl, pe_callB call_isi hg hm (by decide +kernel) (pa_cons pa (pa_cons (pe_bltn (v := .ty n) hgT hmT hvT rfl hnT hdT) pa_nil he2) he) (by decide) (by decide) he hpl, sim_isTy sa⟩
theorem pm_join {apos : Pos} (ha : EEm X K c E a ta ma) (hb : EEm X K c E b tb mb) (hs : starEach [b] X.env = [(false, eval (b) X.env)] := by rfl) (hbase : attributeBase a "join" X.env (eval a X.env) = eval a X.env := by rfl) (hline : (apos.endLine == pos.line) = true := by rfl) : EEm X K c E (.Call (.Attribute a "join" apos) [b] [] pos) (tM1 (rJoin K) ta tb) (mM1 vJoin ma mb) := by
  obtain ⟨rfl, pa, sa⟩ := ha
  exact ⟨rfl, pe_join pa hb.p hs hbase hline, sim_join sa hb.s⟩
theorem pm_joinB (i : Nat) {y : Str} {p2 : Pos} {apos : Pos} (ha : EEm X K c E a ta ma) (hN : X.N[i]? = some y := by rfl) (hvis : Vis X.env.scope y := by first | exact Or.inl rfl | exact Or.inr (Or.inl rfl) | exact Or.inr (Or.inr rfl)) (hd : (y == ("__debug__" : Str)) = false := by decide) (hcd : (y == ("__classdict__" : Str)) = false := by decide) (hs : starEach [.Name y p2] X.env = [(false, eval (.Name y p2) X.env)] := by rfl) (hbase : attributeBase a "join" X.env (eval a X.env) = eval a X.env := by rfl) (hline : (apos.endLine == pos.line) = true := by rfl) : EEm X K c E (.Call (.Attribute a "join" apos) [.Name y p2] [] pos) (tM1 (rJoin K) ta (tVar i)) (mM1B vJoin ma i) := by
  obtain ⟨rfl, pa, sa⟩ := ha
  exact ⟨rfl, pe_join pa (pv i hN hvis hd hcd) hs hbase hline, sim_joinB sa⟩
theorem pm_ix (ha : EEm X K c E a ta ma) (hb : EEm X K c E b tb mb) (hs : PlainIx b := by intro _ _; rfl) : EEm X K c E (.Subscript a b pos) (tOp (rIx K) ta tb) (mOp fIx ma mb) := by
  obtain ⟨rfl, pa, sa⟩ := ha
  exact ⟨rfl, pe_ix ix_seq pa hb.p hs, sim_op sr_ix sa hb.s⟩
theorem pm_ixB (i : Nat) {y : Str} {p2 : Pos} (hb : EEm X K c E b tb mb) (hs : PlainIx b := by intro _ _; rfl) (hN : X.N[i]? = some y := by rfl) (hvis : Vis X.env.scope y := by first | exact Or.inl rfl | exact Or.inr (Or.inl rfl) | exact Or.inr (Or.inr rfl)) (hd : (y == ("__debug__" : Str)) = false := by decide) (hcd : (y == ("__classdict__" : Str)) = false := by decide) : EEm X K c E (.Subscript (.Name y p2) b pos) (tOp (rIx K) (tVar i) tb) (mIxB fIx i mb) := by
  obtain ⟨rfl, pb, sb⟩ := hb
  exact ⟨rfl, pe_ix ix_seq (pv i hN hvis hd hcd) pb hs, sim_opB sr_ix sb⟩
theorem pm_call {k n : Nat} {f : Addr} {fd : FuncData} {ps : List Str} {m : List Val → MHp → RE Val} {dv : List Val} {dvs : List V} {ds : List Value} (F : FnOk X.prog X.w X.K X.mg X.base (L2.CX X.prog X.w) k f fd ps (spM K c n m)) (hr : Room k X.A) (hm : X.mg x = some (.ref f)) (hk : PySem.W.keepIn X.K (.ref f) = true) (hb : Binds X.K fd ps ds) (hd : Vals dvs ds) (hdv : ∀ G ι, VRs K c G ι dv dvs) (hlen : ∀ vs h, vs.length ≠ n → m vs h = .fail) (tk : Takes X E) (ha : EAm X K c E (e :: es) tr mr) (hg : Gl X x := by rfl) (hdb : (x == ("__debug__" : Str)) = false := by decide) (he : starEach (e :: es) X.env = (false, eval e X.env) :: starEach es X.env := by rfl) (hpl : (backTo pos (starEach es X.env)).any (·.1) = false := by rfl) : EEm X K c E (.Call (.Name x p) (e :: es) [] pos) (tCallSD (spM K c n m) dvs (WE E) tr) (mCall m dv mr) := by
  obtain ⟨rfl, pr, sr⟩ := ha
  exact ⟨rfl, pe_callSD F hr hg hm hk hb hd (passAt tk) pr hdb he hpl, sim_call hdv hlen sr⟩
theorem pe_callSD0 {k : Nat} {f : Addr} {fd : FuncData} {ps : List Str} {sp : Sp} {dvs : List V} {ds : List Value} {W : L2.St → XK} (F : FnOk X.prog X.w X.K X.mg X.base (L2.CX X.prog X.w) k f fd ps sp) (hr : Room k X.A) (hg : Gl X x) (hm : X.mg x = some (.ref f)) (hk : PySem.W.keepIn X.K (.ref f) = true) (hb : Binds X.K fd ps ds) (hd : Vals dvs ds) (hx : ∀ σ, PassesAt (L2.CX X.prog X.w) X σ (W σ))
    (hdb : (x == ("__debug__" : Str)) = false := by decide) : PE X (.Call (.Name x p) [] [] pos) (tCallSD sp dvs W tNil) := by
  refine ⟨fun pins s σ H Q I h => ?_⟩
  refine wpAny_Call_Name_kw (ld_glob I hg hm ?_ hdb)
  exact PySem.W.callWith_K0 I.kIn hk (run_fnSD (us := []) F hr hb hd (hx σ) I .nil h)
theorem pm_call0 {k n : Nat} {f : Addr} {fd : FuncData} {ps : List Str} {m : List Val → MHp → RE Val} {dv : List Val} {dvs : List V} {ds : List Value} (F : FnOk X.prog X.w X.K X.mg X.base (L2.CX X.prog X.w) k f fd ps (spM K c n m)) (hr : Room k X.A) (hm : X.mg x = some (.ref f)) (hk : PySem.W.keepIn X.K (.ref f) = true) (hb : Binds X.K fd ps ds) (hd : Vals dvs ds) (hdv : ∀ G ι, VRs K c G ι dv dvs) (hlen : ∀ vs h, vs.length ≠ n → m vs h = .fail) (tk : Takes X E) (hK : X.K = K := by rfl) (hg : Gl X x := by rfl) (hdb : (x == ("__debug__" : Str)) = false := by decide) : EEm X K c E (.Call (.Name x p) [] [] pos) (tCallSD (spM K c n m) dvs (WE E) tNil) (mCall m dv mNil) := by
  subst hK
  exact ⟨rfl, pe_callSD0 F hr hg hm hk hb hd (passAt tk) hdb, sim_call hdv hlen sim_nil⟩
variable {tg iter elt : Expr} {tgm : TgM} {is : List Nat} {it : EM (List Val)} {wi : TI} {g : TG}
theorem pgm_name (i : Nat) {y : Str} {p2 : Pos} (hN : X.N.Nodup) (hK : X.K = K := by rfl) (hi : X.N[i]? = some y := by rfl) (hx : Loc X.env.scope y := by first | exact Or.inl rfl | exact Or.inr rfl) (hf : X.fn y = true ∨ X.env.scope.names.lookup y = some .local := by first | exact .inl rfl | exact .inr rfl) : EGm X K c (.Name y p2) [i] (gName i) (gmName i) := ⟨hK, pg_name hN hi hx hf, sg_name i⟩
theorem pgsm_nil (hK : X.K = K := by rfl) : EGsm X K c [] [] gNil gmNil := ⟨hK, pgs_nil, sgs_nil⟩
theorem pgsm_cons {t : Expr} {ts : List Expr} {js : List Nat} {gs : TGs} {gms : TgsM} (h1 : EGm X K c t is g tgm) (h2 : EGsm X K c ts js gs gms) (hs : (assignEach (t :: ts) X.env).map (·.2) = assign t X.env :: (assignEach ts X.env).map (·.2) := by rfl) : EGsm X K c (t :: ts) (is ++ js) (gCons g gs) (gmCons tgm gms) := ⟨h1.hK, pgs_cons h1.p h2.p hs, sgs_cons h1.s h2.s⟩
theorem pgm_tup {ts : List Expr} {k n : Nat} {gs : TGs} {gms : TgsM} (hc : X.calm = true) (h : EGsm X K c ts is gs gms) (hn : (assignEach ts X.env).length = n := by rfl) (hst : (assignEach ts X.env).findIdx? (·.1) = none := by rfl) : EGm X K c (.Tuple ts k pos) is (gTup K n gs) (gmTup n gms) := by
  obtain ⟨rfl, p1, s1⟩ := h
  exact ⟨rfl, pg_tup hc p1 hn hst, sg_tup s1⟩
theorem pim_seq (ha : EEm X K c E iter ta ma) : EIm X K c E tg iter (iSeq K ta) (mSeq ma) := by
  obtain ⟨rfl, pa, sa⟩ := ha
  exact ⟨rfl, pi_seq pa, sim_seq sa⟩
theorem pim_range1 (hm : X.mg "range" = none) (hr : EAm X K c E [a] tr mr) (hg : Gl X "range" := by rfl) (hs : starEach [a] X.env = [(false, eval a X.env)] := by rfl) : EIm X K c E tg (.Call (.Name "range" p) [a] [] pos) (iRng1 tr) (mRange1 mr) := ⟨hr.hK, pi_range1 hg hm hr.p hs, sim_range1 hr.s⟩
theorem ptsm_nil (hK : X.K = K := by rfl) : ETsm X K c E [] tYes (EM.pure true) := ⟨hK, pts_nil, fun B G ι h H ρ σ Q hs hp => Post.pure (R := RB) (x := true) hp hs rfl⟩
theorem ptsm_one (h : ETm X K c E a t1 m1) : ETsm X K c E [a] t1 m1 := ⟨h.hK, pts_one h.p, h.s⟩
theorem takes_blk {s : Shared} {H : Hp} {scope : Scope} {cenv : Env} {fp : List Addr} : Takes (X.blk s H scope cenv fp) E0W := takes0
theorem pn_comp (s0 : Shared) {ifs : List Expr} {scope : Scope} {own : List (Str × Nat)} {te : TE} {tt : TT} {cond : EM Bool} {me : EM Val} (hc : X.calm = true) (hN : X.N.Nodup) (hi : EIm X K c E tg iter wi it) (ok : BlkOk X.N X.env.scope scope own) (hg : ∀ (s : Shared) (H : Hp) (C : Addr) (cl : List (Str × Addr)) (fp : List Addr), EGm (X.blk s H scope (compEnvC scope cl C X.env) fp) K c tg is g tgm) (ht : ∀ (s : Shared) (H : Hp) (C : Addr) (cl : List (Str × Addr)) (fp : List Addr), ETsm (X.blk s H scope (compEnvC scope cl C X.env) fp) K c E0W ifs tt cond) (he : ∀ (s : Shared) (H : Hp) (C : Addr) (cl : List (Str × Addr)) (fp : List Addr), EEm (X.blk s H scope (compEnvC scope cl C X.env) fp) K c E0W elt te me) (his : ∀ i ∈ is, i ∈ own.map (·.2) := by decide) (hs : ∀ x, foldedSetIterable iter X.env x = pure x := by intro _; rfl) : ENm X K c E (.ListComp elt [⟨tg, iter, ifs, 0⟩] scope pos) (tLc wi g tt te (own.map (·.2))) (mCompN it tgm cond me (own.map (·.2))) := ⟨hi.hK, pe_lc hc hN hi.p ok (fun s H C cl fp => (hg s H C cl fp).p) (fun s H C cl fp => (ht s H C cl fp).p) (fun s H C cl fp => (he s H C cl fp).p) hs, sim_comp hi.s (hg s0 (fun _ => none) 0 [] []).s his (ht s0 (fun _ => none) 0 [] []).s (he s0 (fun _ => none) 0 [] []).s⟩
variable {st : Stmt} {rest : List Stmt} {ts tu : TS} {s1 s2 : SM}
theorem bm_nil (hK : X.K = K := by rfl) : EBm X K c E [] tNext sSkip := ⟨hK, pss_nil, ss_skip⟩
theorem bm_cons (h1 : ESm X K c E st ts s1) (h2 : EBm X K c E rest tu s2) : EBm X K c E (st :: rest) (tSeq ts tu) (sSeq s1 s2) := ⟨h1.hK, pss_cons h1.p h2.p, ss_seq h1.s h2.s⟩
theorem bm_one (h1 : ESm X K c E st ts s1) : EBm X K c E [st] ts s1 := ⟨h1.hK, pss_one h1.p, h1.s⟩
theorem sm_pass (hK : X.K = K := by rfl) : ESm X K c E (.Pass pos) tNext sSkip := ⟨hK, ps_pass, ss_skip⟩
theorem sm_doc {y j p2} (hK : X.K = K := by rfl) : ESm X K c E (.Expr (.Constant (.str y) j p2) pos) tNext sSkip := ⟨hK, ps_doc, ss_skip⟩
theorem sm_brk (hK : X.K = K := by rfl) : ESm X K c E (.Break pos) tBreak sBrk := ⟨hK, ps_break, ss_brk⟩
theorem sm_cont (hK : X.K = K := by rfl) : ESm X K c E (.Continue pos) tCont sCont := ⟨hK, ps_continue, ss_cont⟩
theorem sm_ret (ha : EEm X K c E a ta ma) : ESm X K c E (.Return (some a) pos) (tRet ta) (sRet ma) := ⟨ha.hK, ps_ret ha.p, ss_ret ha.s⟩
theorem sm_retN (hK : X.K = K := by rfl) : ESm X K c E (.Return none pos) tRetN sRetN := ⟨hK, ps_retN, ss_retN⟩
theorem sm_expr (ha : EEm X K c E a ta ma) (hs : swapsWith a none pos.line X.env = pure false := by rfl) : ESm X K c E (.Expr a pos) (tDrop ta) (sDrop ma) := ⟨ha.hK, ps_expr ha.p hs, ss_drop ha.s⟩
theorem sm_if {q r : List Stmt} (h1 : ETm X K c E d t1 m1) (ha : EBm X K c E q ts s1) (hb : EBm X K c E r tu s2) : ESm X K c E (.If d q r pos) (tIfS t1 ts tu) (sIf m1 s1 s2) := ⟨h1.hK, ps_if h1.p ha.p hb.p, ss_if h1.s ha.s hb.s⟩
theorem sm_set (i : Nat) {y : Str} {p2 : Pos} (ha : EEm X K c E a ta ma) (hN : X.N.Nodup) (hi : X.N[i]? = some y := by rfl) (hx : Loc X.env.scope y := by first | exact Or.inl rfl | exact Or.inr rfl) (hs : swapsWith a (some (.Name y p2)) pos.line X.env = pure false := by rfl) (hf : X.fn y = true ∨ X.env.scope.names.lookup y = some .local := by first | exact .inl rfl | exact .inr rfl) : ESm X K c E (.Assign [.Name y p2] a pos) (tAsg ta (gName i)) (sSet i ma) := ⟨ha.hK, ps_set hN hi hx ha.p hs hf, ss_set i ha.s⟩
theorem sm_own (i : Nat) {y : Str} {p2 : Pos} (ha : ENm X K c E a ta mn) (hN : X.N.Nodup) (hi : X.N[i]? = some y := by rfl) (hx : Loc X.env.scope y := by first | exact Or.inl rfl | exact Or.inr rfl) (hs : swapsWith a (some (.Name y p2)) pos.line X.env = pure false := by rfl) (hf : X.fn y = true ∨ X.env.scope.names.lookup y = some .local := by first | exact .inl rfl | exact .inr rfl) : ESm X K c E (.Assign [.Name y p2] a pos) (tAsg ta (gName i)) (sOwn i mn) := ⟨ha.hK, ps_set hN hi hx ha.p hs hf, ss_own i ha.s⟩
theorem sm_asg {t : Expr} (ha : EEm X K c E a ta ma) (hg : EGm X K c t is g tgm) (hs : swapsWithSole [t] a pos.line X.env = pure false := by rfl) (hw : swappedStores [t] a X.env = pure none := by rfl) (h1 : (assignEach [t] X.env).map (·.2) = [assign t X.env] := by rfl) : ESm X K c E (.Assign [t] a pos) (tAsg ta g) (sAsg tgm ma) := ⟨ha.hK, ps_asg ha.p hg.p hs hw h1, ss_asg ha.s hg.s⟩
theorem sm_setC {y : Str} {p2 p3 : Pos} (s0 : Shared) (i : Nat) {ifs : List Expr} {scope : Scope} {own : List (Str × Nat)} {te : TE} {tt : TT} {cond : EM Bool} {me : EM Val} (hc : X.calm = true) (hN : X.N.Nodup) (hi : EIm X K c E tg iter wi it) (ok : BlkOk X.N X.env.scope scope own) (hg : ∀ (s : Shared) (H : Hp) (C : Addr) (cl : List (Str × Addr)) (fp : List Addr), EGm (X.blk s H scope (compEnvC scope cl C X.env) fp) K c tg is g tgm) (ht : ∀ (s : Shared) (H : Hp) (C : Addr) (cl : List (Str × Addr)) (fp : List Addr), ETsm (X.blk s H scope (compEnvC scope cl C X.env) fp) K c E0W ifs tt cond) (he : ∀ (s : Shared) (H : Hp) (C : Addr) (cl : List (Str × Addr)) (fp : List Addr), EEm (X.blk s H scope (compEnvC scope cl C X.env) fp) K c E0W elt te me) (his : ∀ i ∈ is, i ∈ own.map (·.2) := by decide) (hs : ∀ x, foldedSetIterable iter X.env x = pure x := by intro _; rfl) (hy : X.N[i]? = some y := by rfl) (hyl : X.env.scope.names.lookup y = some .local := by rfl) (hsw : swapsWith (.ListComp elt [⟨tg, iter, ifs, 0⟩] scope p3) (some (.Name y p2)) pos.line X.env = pure true := by exact sw_true rfl rfl rfl (by decide +kernel)) : ESm X K c E (.Assign [.Name y p2] (.ListComp elt [⟨tg, iter, ifs, 0⟩] scope p3) pos) (tAsg (tLc wi g tt te (own.map (·.2))) (gName i)) (sSet i (mKnow (mCompN it tgm cond me (own.map (·.2))))) := ⟨hi.hK, ps_setLc hc hN hy hyl hsw hi.p ok (fun s H C cl fp => (hg s H C cl fp).p) (fun s H C cl fp => (ht s H C cl fp).p) (fun s H C cl fp => (he s H C cl fp).p) hs, ss_set i (SimN.sim (sim_comp hi.s (hg s0 (fun _ => none) 0 [] []).s his (ht s0 (fun _ => none) 0 [] []).s (he s0 (fun _ => none) 0 [] []).s))⟩
theorem sm_ownC {y : Str} {p2 p3 : Pos} (s0 : Shared) (i : Nat) {ifs : List Expr} {scope : Scope} {own : List (Str × Nat)} {te : TE} {tt : TT} {cond : EM Bool} {me : EM Val} (hc : X.calm = true) (hN : X.N.Nodup) (hi : EIm X K c E tg iter wi it) (ok : BlkOk X.N X.env.scope scope own) (hg : ∀ (s : Shared) (H : Hp) (C : Addr) (cl : List (Str × Addr)) (fp : List Addr), EGm (X.blk s H scope (compEnvC scope cl C X.env) fp) K c tg is g tgm) (ht : ∀ (s : Shared) (H : Hp) (C : Addr) (cl : List (Str × Addr)) (fp : List Addr), ETsm (X.blk s H scope (compEnvC scope cl C X.env) fp) K c E0W ifs tt cond) (he : ∀ (s : Shared) (H : Hp) (C : Addr) (cl : List (Str × Addr)) (fp : List Addr), EEm (X.blk s H scope (compEnvC scope cl C X.env) fp) K c E0W elt te me) (his : ∀ i ∈ is, i ∈ own.map (·.2) := by decide) (hs : ∀ x, foldedSetIterable iter X.env x = pure x := by intro _; rfl) (hy : X.N[i]? = some y := by rfl) (hyl : X.env.scope.names.lookup y = some .local := by rfl) (hsw : swapsWith (.ListComp elt [⟨tg, iter, ifs, 0⟩] scope p3) (some (.Name y p2)) pos.line X.env = pure true := by exact sw_true rfl rfl rfl (by decide +kernel)) : ESm X K c E (.Assign [.Name y p2] (.ListComp elt [⟨tg, iter, ifs, 0⟩] scope p3) pos) (tAsg (tLc wi g tt te (own.map (·.2))) (gName i)) (sOwn i (mCompN it tgm cond me (own.map (·.2)))) := ⟨hi.hK, ps_setLc hc hN hy hyl hsw hi.p ok (fun s H C cl fp => (hg s H C cl fp).p) (fun s H C cl fp => (ht s H C cl fp).p) (fun s H C cl fp => (he s H C cl fp).p) hs, ss_own i (id (sim_comp hi.s (hg s0 (fun _ => none) 0 [] []).s his (ht s0 (fun _ => none) 0 [] []).s (he s0 (fun _ => none) 0 [] []).s))⟩
theorem sm_setItem (i : Nat) {y : Str} {p2 tpos : Pos} (hv : EEm X K c E a ta ma) (he : EEm X K c E b tb mb) (hN : X.N[i]? = some y := by rfl) (hvis : Vis X.env.scope y := by first | exact Or.inl rfl | exact Or.inr (Or.inl rfl) | exact Or.inr (Or.inr rfl)) (hd : (y == ("__debug__" : Str)) = false := by decide) (hcd : (y == ("__classdict__" : Str)) = false := by decide) (hs : swapsWithSole [.Subscript (.Name y p2) b tpos] a pos.line X.env = pure false := by rfl) (hw : swappedStores [.Subscript (.Name y p2) b tpos] a X.env = pure none := by rfl) (h1 : (assignEach [.Subscript (.Name y p2) b tpos] X.env).map (·.2) = [assign (.Subscript (.Name y p2) b tpos) X.env] := by rfl)
    (hsub : ∀ v, assign (.Subscript (.Name y p2) b tpos) X.env v = (do
      let ov ← holding [v] (eval (.Name y p2) X.env)
      let iv ← holding [v, ov] (eval b X.env)
      standAt tpos
      holding [v, ov, iv] (setItem ov iv v)
      release [v, ov, iv] []) := by intro _; rfl) :
    ESm X K c E (.Assign [.Subscript (.Name y p2) b tpos] a pos) (tAsg ta (gSub (tVar i) tb rSetL)) (sSetItem i mb ma) := ⟨hv.hK, ps_asg hv.p (pg_sub (pv i hN hvis hd hcd) he.p set_list hsub) hs hw h1, ss_setItem hv.s he.s⟩
theorem sm_for {body : List Stmt} (hp : PassesOwn (model X.prog X.w) X.A X.env X.xe) (hc : X.calm = true) (hi : EIm X K c E tg iter wi it) (hg : EGm X K c tg is g tgm) (hb : EBm X K c E body ts s1) (hs : ∀ x, foldedSetIterable iter X.env x = pure x := by intro _; rfl) : ESm X K c E (.For tg iter body [] pos) (tFor wi g ts) (sFor it tgm s1) := ⟨hi.hK, ps_for hp hc hi.p hg.p hb.p hs, ss_for hi.s hg.s hb.s⟩
theorem sm_while (n : Nat) {body : List Stmt} (hp : PassesOwn (model X.prog X.w) X.A X.env X.xe) (h1 : ETm X K c E d t1 m1) (hb : EBm X K c E body ts s1) : ESm X K c E (.While d body [] pos) (tWhile t1 ts) (whileLoop m1 s1 n) := ⟨h1.hK, ps_while hp h1.p hb.p, ss_while n h1.s hb.s⟩
theorem EBm.psm (h : EBm X K c E rest ts s1) : X.K = K → PSsm X c E rest s1 := fun _ => by
  obtain ⟨rfl, p, s⟩ := h
  exact ⟨_, p, s⟩
end
end Mir

set_option Elab.async false
set_option linter.all false
set_option maxRecDepth 100000
set_option maxHeartbeats 4000000
namespace Mir
open PySem PySem.Spec PyProof.Rows L2

/-- a def of the text, as it stands behind the top, with its mirror -/
structure Dn (P : Program) (w : World) (K : PySem.W.Frag) (mg : Str → Option Value) (base : Heap) (c : Ctx) (x : Str) (k n : Nat) (dv : List Val) (dvs : List V) (m : List Val → MHp → RE Val) : Prop where
  ex : ∃ (f : Addr) (fd : FuncData) (ps : List Str) (ds : List Value), mg x = some (.ref f) ∧ PySem.W.keepIn K (.ref f) = true ∧ Binds K fd ps ds ∧ Vals dvs ds ∧ FnOk P w K mg base (L2.CX P w) k f fd ps (spM K c n m)
  dr : ∀ G ι, VRs K c G ι dv dvs
  len : ∀ vs h, vs.length ≠ n → m vs h = .fail
theorem Dn.mk0 {P : Program} {w : World} {K : PySem.W.Frag} {mg : Str → Option Value} {base : Heap} {c : Ctx} {x : Str} {k n : Nat} {m : List Val → MHp → RE Val} {f : Addr} {fd : FuncData} {ps : List Str}
    (F : FnOk P w K mg base (L2.CX P w) k f fd ps (spM K c n m)) (hm : mg x = some (.ref f)) (hk : PySem.W.keepIn K (.ref f) = true) (hb : Binds K fd ps []) (len : ∀ vs h, vs.length ≠ n → m vs h = .fail) : Dn P w K mg base c x k n [] [] m :=
  ⟨⟨f, fd, ps, [], hm, hk, hb, .nil, F⟩, fun _ _ => .nil, len⟩

/-! == of lists of different lengths, items whatever -/
def lstOf : Val → Option (List Val)
  | .lst vs => some vs
  | .fz vs => some vs
  | _ => none
def eqX (x y : Val) : Option Bool := match lstOf x, lstOf y with
  | some vs, some ws => if vs.length = ws.length then eqD x y else some false
  | _, _ => eqD x y
def fEqX : Val → Val → Option Val := fun x y => (eqX x y).map .bl
def rEqL (K : PySem.W.Frag) : R2 := fun x y H Q => ∃ a b xs ys, x = .ref a ∧ y = .ref b ∧ SqL K H a xs ∧ SqL K H b ys ∧ xs.length ≠ ys.length ∧ Q (.bl false) H
def rEqX (K : PySem.W.Frag) : R2 := fun x y H Q => rEqL K x y H Q ∨ rEqD K x y H Q
theorem op_eqL {X : Cx} (hu : X.A.units < cLine) : OpR X (compareOp .Eq) (rEqL X.K) := by
  intro pins s σ H x y v u Q I rx ry h
  obtain ⟨a, b, xs, ys, rfl, rfl, ha, hb, hl, q⟩ := h
  cases rx; cases ry
  obtain ⟨its, rv, p, hz⟩ := I.list ha
  obtain ⟨its2, rv2, p2, hz2⟩ := I.list hb
  refine SeqAt.eq_list_lengthsAt p.isList p2.isList ?_ hu ⟨.bl _, H, I, rfl, q⟩
  have e1 := rv.length
  have e2 := rv2.length
  simp only [List.size_toArray, bne_iff_ne]
  omega
theorem lstOf_ok {K : PySem.W.Frag} {c : Ctx} {G H : Hp} {ι : List Addr} {v : Val} {x : V} {vs : List Val} (hl : Hle G H) (r : VH K c G ι H v x) (e : lstOf v = some vs) : ∃ a xs, x = .ref a ∧ SqL K H a xs ∧ xs.length = vs.length := by
  cases v <;> simp [lstOf] at e
  · obtain ⟨p, xs, rfl, hp, r⟩ := r; subst e; exact ⟨p, xs, rfl, .of hp, r.length.symm⟩
  · obtain ⟨p, xs, rfl, hp, r⟩ := VR.fzE r; subst e; exact ⟨p, xs, rfl, hl.sqL hp, r.length.symm⟩
theorem sr_eqX {K : PySem.W.Frag} {c : Ctx} : SimR2 K c (rEqX K) fEqX := SimR2.pure fun G ι H vx vy x y z hl rx ry e => by
  have base : ∀ b, eqD vx vy = some b → z = .bl b → ∃ zv, (∀ G' ι', VR K c G' ι' z zv) ∧ ∀ Q : VK, Q zv H → rEqX K x y H Q := fun b e' hz => by
    subst hz
    obtain ⟨d, d', e1, e2, s1, s2, rfl⟩ := eqD_ok e'
    exact ⟨_, fun _ _ => .bl _, fun Q q => .inr ⟨d, d', toD_okH hl rx e1, toD_okH hl ry e2, s1, s2, q⟩⟩
  unfold fEqX eqX at e
  simp only [Option.map_eq_some_iff] at e
  obtain ⟨b, e, rfl⟩ := e
  split at e
  · rename_i vs ws e1 e2
    split at e
    · exact base b e rfl
    · rename_i hne
      cases e
      obtain ⟨a, xs, rfl, ha, l1⟩ := lstOf_ok hl rx e1
      obtain ⟨a', ys, rfl, hb, l2⟩ := lstOf_ok hl ry e2
      exact ⟨_, fun _ _ => .bl _, fun Q q => .inl ⟨a, a', xs, ys, rfl, rfl, ha, hb, by omega, q⟩⟩
  · exact base b e rfl
theorem co_eqX {X : Cx} {K : PySem.W.Frag} {c : Ctx} (hu : X.A.units + 64 < cLine) : CmpOk X K c .Eq rEqX fEqX := ⟨OpR.or (op_eqL (by omega)) (op_eqD hu), sr_eqX⟩
section
variable {X : Cx} {K : PySem.W.Frag} {c : Ctx} {E : WX} {pos p : Pos} {e : Expr} {es : List Expr} {x : Str} {tr : TA} {mr : EM (List Val)} {ta tb : TE} {ma mb : EM Val}
theorem pm_callD {k k' n : Nat} {dv : List Val} {dvs : List V} {m : List Val → MHp → RE Val} (D : Dn X.prog X.w X.K X.mg X.base c x k n dv dvs m) (hr : Room k' X.A) (tk : Takes X E) (ha : EAm X K c E (e :: es) tr mr) (hk : k ≤ k' := by decide)
    (hg : Gl X x := by rfl) (hdb : (x == ("__debug__" : Str)) = false := by decide) (he : starEach (e :: es) X.env = (false, eval e X.env) :: starEach es X.env := by rfl) (hpl : (backTo pos (starEach es X.env)).any (·.1) = false := by rfl) :
    EEm X K c E (.Call (.Name x p) (e :: es) [] pos) (tCallSD (spM K c n m) dvs (WE E) tr) (mCall m dv mr) := by
  obtain ⟨rfl, pr, sr⟩ := ha
  obtain ⟨⟨f, fd, ps, ds, hm, hkp, hb, hd, F⟩, hdv, hlen⟩ := D
  exact ⟨rfl, pe_callSD F (hr.mono hk) hg hm hkp hb hd (passAt tk) pr hdb he hpl, sim_call hdv hlen sr⟩
theorem pm_callD0 {k k' n : Nat} {dv : List Val} {dvs : List V} {m : List Val → MHp → RE Val} (D : Dn X.prog X.w X.K X.mg X.base c x k n dv dvs m) (hr : Room k' X.A) (tk : Takes X E) (hK : X.K = K := by rfl) (hk : k ≤ k' := by decide)
    (hg : Gl X x := by rfl) (hdb : (x == ("__debug__" : Str)) = false := by decide) : EEm X K c E (.Call (.Name x p) [] [] pos) (tCallSD (spM K c n m) dvs (WE E) tNil) (mCall m dv mNil) := by
  subst hK
  obtain ⟨⟨f, fd, ps, ds, hm, hkp, hb, hd, F⟩, hdv, hlen⟩ := D
  exact ⟨rfl, pe_callSD0 F (hr.mono hk) hg hm hkp hb hd (passAt tk) hdb, sim_call hdv hlen sim_nil⟩
/-! a, b = x, y -/
def sPar (i j : Nat) (r : EM (List Val)) : SM := EM.bind r fun vs ρ h => match vs with
  | [v, w] => .ok .next ((ρ.set i (.val v)).set j (.val w)) h
  | _ => .fail
theorem ss_par {i j : Nat} (hr : Sim K c (RVs K c) E tr mr) : SimS K c E (tPar i j tr) (sPar i j mr) := by
  intro B G ι h H ρ σ D hs hp
  refine hr.bindS hs hp fun G1 ι1 h1 H1 ρ1 vs xs a1 b1 s1 r1 p1 => ?_
  split at p1
  · rename_i v w
    obtain ⟨x, ys, rfl, rx, r2⟩ := r1.consE
    obtain ⟨y, zs, rfl, ry, r3⟩ := r2.consE
    obtain rfl := r3.nilE
    exact ⟨x, y, rfl, p1 G1 ι1 H1 _ (Hle.refl _) (Ile.refl _) ((s1.set rx).set ry)⟩
  · exact p1.elim
theorem sm_par (i j : Nat) {y z : Str} {a b : Expr} {px py pt : Pos} {kt k2 pt2} (hc : X.calm = true) (hN : X.N.Nodup) (ha : EAm X K c E [a, b] tr mr) (hi : X.N[i]? = some y := by rfl) (hj : X.N[j]? = some z := by rfl) (hij : i ≠ j := by decide)
    (hx : X.env.scope.names.lookup y = some .local := by rfl) (hy : X.env.scope.names.lookup z = some .local := by rfl)
    (hw : swappedStores [.Tuple [.Name y px, .Name z py] kt pt] (.Tuple [a, b] k2 pt2) X.env = pure (some [y, z]) := by rfl)
    (hs : swapsWithSole [.Tuple [.Name y px, .Name z py] kt pt] (.Tuple [a, b] k2 pt2) pos.line X.env = pure false := by rfl) :
    ESm X K c E (.Assign [.Tuple [.Name y px, .Name z py] kt pt] (.Tuple [a, b] k2 pt2) pos) (tPar i j tr) (sPar i j mr) := ⟨ha.hK, ps_par hc hN hi hj hij hx hy ha.p hw hs, ss_par ha.s⟩
theorem sm_freeze {s : Stmt} {ts : TS} {s1 : SM} (i : Nat) (h : ESm X K c E s ts s1) : ESm X K c E s ts (sFreeze i s1) := ⟨h.hK, h.p, ss_freeze i h.s⟩
end
end Mir

set_option Elab.async false
set_option linter.all false
set_option maxRecDepth 100000
set_option maxHeartbeats 4000000
namespace Mir
open PySem PySem.Spec PyProof.Rows L2
/-- the law's own head over a mirror: on True for every script, the row holds -/
theorem walkM {l : PySem.W.OpenLaw} {q : Program} {loose : List Str} {XP : (Str → Option Value) → Heap → Prop} {YP : World → Heap → Prop} {d : DefRec} {K : Params → PySem.W.Frag} {k : Nat} {c : World → Ctx} {m : List Val → MHp → RE Val}
    (hn : l.most = some 63) (hdf : d.params.defaults = []) (hk : Room k callerA)
    (hY : ∀ (w : World) (h : Heap), YP w h → (K w.params).In h)
    (F : ∀ (w : World) (mg : Str → Option Value) (fa : Addr) (h : Heap), (K w.params).In h → h.Ns mainGlobals mg → mg d.name = some (.ref fa) →
      ∃ fd : FuncData, (∀ (s : Shared) (u : Value), BindsTo s fd ⟨[u], []⟩ [("script", u)]) ∧ ∀ base : Heap, (K w.params).In base → base.Ns mainGlobals mg → FnOk l.prog w (K w.params) mg base (L2.CX l.prog w) k fa fd ["script"] (spM (K w.params) (c w) 1 m))
    (hm : ∀ ns : List Int, ns.length ≤ 63 → ∃ ρ h', m [.fz (ns.map .int)] [] = .ok (.bl true) ρ h') :
    PySem.W.WalkO q loose XP YP l.row.toRowW d [] (fun f vs => PySem.call f vs) :=
  L2.walk_of (n := 63) (k := k) (x := "script") (CX := fun w => L2.CX l.prog w) (sp := fun w => spM (K w.params) (c w) 1 m) hn (by decide) hdf hk hY F
    (fun w H a ns hl _ hS => by
      obtain ⟨ρ, h', e⟩ := hm ns hl
      refine ⟨H, [], [], [.fz (ns.map .int)], rfl, ⟨Hle.refl _, rfl, .nil, fun _ h => absurd h (List.not_mem_nil), fun i p cl h => by simp at h⟩, .cons (.fz hS VRs.ints) .nil, ?_⟩
      rw [e]
      intro G' ι' H' x _ _ _ _ _ _ r
      exact r.blE)
    fun w H s e s' z => by
      obtain ⟨a, B, H', cls, d, _, _, _, _, _, _, _, z⟩ := z
      exact z
end Mir

set_option Elab.async false
set_option linter.all false
set_option maxRecDepth 100000
set_option maxHeartbeats 4000000
/-! What a mirror answers: a small calculus over the mirrors, with no program in sight -/
namespace Mir
open PySem L2
def Wp {α : Type} (m : EM α) (ρ : MEnv) (h : MHp) (Q : α → MEnv → MHp → Prop) : Prop := match m ρ h with
  | .ok a ρ' h' => Q a ρ' h'
  | _ => False
def WpF (r : RE Val) (Q : Val → MHp → Prop) : Prop := match r with
  | .ok v _ h' => Q v h'
  | _ => False
theorem Wp.mono {α : Type} {m : EM α} {ρ : MEnv} {h : MHp} {Q R : α → MEnv → MHp → Prop} (p : Wp m ρ h Q) (k : ∀ a ρ' h', Q a ρ' h' → R a ρ' h') : Wp m ρ h R := by
  unfold Wp at *; split at p
  · exact k _ _ _ p
  · exact p.elim
theorem WpF.mono {r : RE Val} {Q R : Val → MHp → Prop} (p : WpF r Q) (k : ∀ a h', Q a h' → R a h') : WpF r R := by
  unfold WpF at *; split at p
  · exact k _ _ p
  · exact p.elim
theorem WpF.ex {r : RE Val} {Q : Val → MHp → Prop} (p : WpF r Q) : ∃ v ρ h', r = .ok v ρ h' ∧ Q v h' := by
  unfold WpF at p; split at p
  · exact ⟨_, _, _, rfl, p⟩
  · exact p.elim
variable {α β : Type} {ρ : MEnv} {h : MHp}
@[simp] theorem wp_bind {m : EM α} {f : α → EM β} {Q : β → MEnv → MHp → Prop} : Wp (EM.bind m f) ρ h Q ↔ Wp m ρ h fun a ρ' h' => Wp (f a) ρ' h' Q := by
  unfold Wp EM.bind; cases m ρ h <;> rfl
@[simp] theorem wp_pure {a : α} {Q : α → MEnv → MHp → Prop} : Wp (EM.pure a) ρ h Q ↔ Q a ρ h := Iff.rfl
@[simp] theorem wp_lift {o : Option α} {Q : α → MEnv → MHp → Prop} : Wp (EM.lift o) ρ h Q ↔ ∃ a, o = some a ∧ Q a ρ h := by
  unfold Wp EM.lift; cases o <;> simp
@[simp] theorem wp_ok {a : α} {Q : α → MEnv → MHp → Prop} {f : MEnv → MEnv} {g : MHp → MHp} : Wp (fun ρ h => .ok a (f ρ) (g h)) ρ h Q ↔ Q a (f ρ) (g h) := Iff.rfl
@[simp] theorem wp_fail {Q : α → MEnv → MHp → Prop} : Wp (fun _ _ => .fail) ρ h Q ↔ False := Iff.rfl
@[simp] theorem wp_ite {c : Prop} [Decidable c] {a b : EM α} {Q : α → MEnv → MHp → Prop} : Wp (if c then a else b) ρ h Q ↔ if c then Wp a ρ h Q else Wp b ρ h Q := by split <;> rfl
@[simp] theorem wp_var {i : Nat} {Q : Val → MEnv → MHp → Prop} : Wp (mVar i) ρ h Q ↔ ∃ v, ρ[i]? = some (.val v) ∧ Q v ρ h := by
  unfold Wp mVar
  split
  · rename_i e; split at e
    · rename_i e2; cases e; simp [e2]
    · cases e
  · rename_i e; constructor
    · exact False.elim
    · rintro ⟨v, e2, q⟩; rw [e2] at e; exact (e _ _ _ rfl).elim
@[simp] theorem wp_c {v : Val} {Q : Val → MEnv → MHp → Prop} : Wp (mC v) ρ h Q ↔ Q v ρ h := Iff.rfl
@[simp] theorem wp_op {f : Val → Val → Option Val} {a b : EM Val} {Q : Val → MEnv → MHp → Prop} : Wp (mOp f a b) ρ h Q ↔ Wp a ρ h fun x ρ1 h1 => Wp b ρ1 h1 fun y ρ2 h2 => ∃ z, f x y = some z ∧ Q z ρ2 h2 := by simp [mOp]
@[simp] theorem wp_un {f : Val → Option Val} {a : EM Val} {Q : Val → MEnv → MHp → Prop} : Wp (mUn f a) ρ h Q ↔ Wp a ρ h fun x ρ1 h1 => ∃ z, f x = some z ∧ Q z ρ1 h1 := by simp [mUn]
@[simp] theorem wp_tru {a : EM Val} {Q : Bool → MEnv → MHp → Prop} : Wp (mTru a) ρ h Q ↔ Wp a ρ h fun x ρ1 h1 => ∃ z, tru x = some z ∧ Q z ρ1 h1 := by simp [mTru]
def tst : Val → Option Bool
  | .bl b => some b
  | _ => none
@[simp] theorem tst_bl {b : Bool} : tst (.bl b) = some b := rfl
@[simp] theorem wp_test {a : EM Val} {Q : Bool → MEnv → MHp → Prop} : Wp (mTest a) ρ h Q ↔ Wp a ρ h fun x ρ1 h1 => ∃ z, tst x = some z ∧ Q z ρ1 h1 := by
  simp only [mTest, wp_bind, wp_lift]; rfl
@[simp] theorem wp_and {a b : EM Bool} {Q : Bool → MEnv → MHp → Prop} : Wp (mAnd a b) ρ h Q ↔ Wp a ρ h fun x ρ1 h1 => if x = true then Wp b ρ1 h1 Q else Q false ρ1 h1 := by simp [mAnd]
@[simp] theorem wp_or {a b : EM Bool} {Q : Bool → MEnv → MHp → Prop} : Wp (mOr a b) ρ h Q ↔ Wp a ρ h fun x ρ1 h1 => if x = true then Q true ρ1 h1 else Wp b ρ1 h1 Q := by simp [mOr]
@[simp] theorem wp_not {a : EM Bool} {Q : Bool → MEnv → MHp → Prop} : Wp (mNot a) ρ h Q ↔ Wp a ρ h fun x ρ1 h1 => Q (!x) ρ1 h1 := by simp [mNot]
@[simp] theorem wp_andV {a b : EM Val} {Q : Val → MEnv → MHp → Prop} : Wp (mAndV a b) ρ h Q ↔ Wp a ρ h fun x ρ1 h1 => ∃ k, tru x = some k ∧ if k = true then Wp b ρ1 h1 Q else Q x ρ1 h1 := by simp [mAndV]
@[simp] theorem wp_orV {a b : EM Val} {Q : Val → MEnv → MHp → Prop} : Wp (mOrV a b) ρ h Q ↔ Wp a ρ h fun x ρ1 h1 => ∃ k, tru x = some k ∧ if k = true then Q x ρ1 h1 else Wp b ρ1 h1 Q := by simp [mOrV]
@[simp] theorem wp_notV {a : EM Val} {Q : Val → MEnv → MHp → Prop} : Wp (mNotV a) ρ h Q ↔ Wp a ρ h fun x ρ1 h1 => ∃ k, tru x = some k ∧ Q (.bl (!k)) ρ1 h1 := by simp [mNotV]
@[simp] theorem wp_if {t : EM Bool} {a b : EM Val} {Q : Val → MEnv → MHp → Prop} : Wp (mIf t a b) ρ h Q ↔ Wp t ρ h fun x ρ1 h1 => if x = true then Wp a ρ1 h1 Q else Wp b ρ1 h1 Q := by simp [mIf]
@[simp] theorem wp_nil {Q : List Val → MEnv → MHp → Prop} : Wp mNil ρ h Q ↔ Q [] ρ h := Iff.rfl
@[simp] theorem wp_cons {a : EM Val} {r : EM (List Val)} {Q : List Val → MEnv → MHp → Prop} : Wp (mCons a r) ρ h Q ↔ Wp a ρ h fun x ρ1 h1 => Wp r ρ1 h1 fun xs ρ2 h2 => Q (x :: xs) ρ2 h2 := by simp [mCons]
@[simp] theorem wp_tup {r : EM (List Val)} {Q : Val → MEnv → MHp → Prop} : Wp (mTup r) ρ h Q ↔ Wp r ρ h fun xs ρ1 h1 => xs.length ≤ sizeLine ∧ Q (.tup xs) ρ1 h1 := by simp [mTup, and_assoc]
@[simp] theorem wp_lst {r : EM (List Val)} {Q : Val → MEnv → MHp → Prop} : Wp (mLst r) ρ h Q ↔ Wp r ρ h fun xs ρ1 h1 => xs.length ≤ sizeLine ∧ Q (.lst xs) ρ1 h1 := by simp [mLst, and_assoc]
@[simp] theorem wp_cb {f : List Val → Option Val} {r : EM (List Val)} {Q : Val → MEnv → MHp → Prop} : Wp (mCB f r) ρ h Q ↔ Wp r ρ h fun xs ρ1 h1 => ∃ z, f xs = some z ∧ Q z ρ1 h1 := by simp [mCB]
@[simp] theorem f1_eq {f : Val → Option Val} {v : Val} : f1 f [v] = f v := rfl
@[simp] theorem f2_eq {f : Val → Val → Option Val} {v w : Val} : f2 f [v, w] = f v w := rfl
@[simp] theorem wp_call {m : List Val → MHp → RE Val} {dv : List Val} {r : EM (List Val)} {Q : Val → MEnv → MHp → Prop} : Wp (mCall m dv r) ρ h Q ↔ Wp r ρ h fun vs ρ1 h1 => WpF (m (vs ++ dv) h1) fun v h2 => Q v ρ1 h2 := by
  simp only [mCall, wp_bind]
  constructor <;> refine fun p => p.mono fun vs ρ1 h1 q => ?_
  · unfold Wp at q; unfold WpF; dsimp only at q ⊢; cases e : m (vs ++ dv) h1 <;> rw [e] at q <;> exact q
  · unfold Wp; unfold WpF at q; dsimp only at q ⊢; cases e : m (vs ++ dv) h1 <;> rw [e] at q <;> exact q
@[simp] theorem wp_seqI {a : EM Val} {Q : List Val → MEnv → MHp → Prop} : Wp (mSeq a) ρ h Q ↔ Wp a ρ h fun v ρ1 h1 => ∃ vs, items v = some vs ∧ Q vs ρ1 h1 := by simp [mSeq]
def rng : List Val → Option (List Val)
  | [.int j] => if -(2 ^ 62) ≤ j ∧ j < 2 ^ 62 then some ((List.range j.toNat).map fun k => .int (k : Nat)) else none
  | _ => none
@[simp] theorem rng_eq {j : Int} : rng [.int j] = if -(2 ^ 62) ≤ j ∧ j < 2 ^ 62 then some ((List.range j.toNat).map fun k => .int (k : Nat)) else none := rfl
@[simp] theorem wp_range1 {a : EM (List Val)} {Q : List Val → MEnv → MHp → Prop} : Wp (mRange1 a) ρ h Q ↔ Wp a ρ h fun v ρ1 h1 => ∃ vs, rng v = some vs ∧ Q vs ρ1 h1 := by simp only [mRange1, wp_bind, wp_lift]; rfl
@[simp] theorem wp_know {m : EM Cell} {Q : Val → MEnv → MHp → Prop} : Wp (mKnow m) ρ h Q ↔ Wp m ρ h fun cl ρ1 h1 => Q cl.val ρ1 h1 := by simp [mKnow]
@[simp] theorem val_lst {vs : List Val} : (Cell.lst vs).val = .lst vs := rfl
@[simp] theorem val_dct {vs : List (Val × Val)} : (Cell.dct vs).val = .dct vs := rfl
@[simp] theorem wp_cell {m : EM Cell} {Q : Val → MEnv → MHp → Prop} : Wp (mCell m) ρ h Q ↔ Wp m ρ h fun cl ρ1 h1 => Q (.ref h1.length) ρ1 (h1 ++ [cl]) := by simp only [mCell, wp_bind]; rfl
@[simp] theorem wp_nLst {r : EM (List Val)} {Q : Cell → MEnv → MHp → Prop} : Wp (nLst r) ρ h Q ↔ Wp r ρ h fun xs ρ1 h1 => xs.length ≤ sizeLine ∧ Q (.lst xs) ρ1 h1 := by simp [nLst, and_assoc]
@[simp] theorem wp_isTy {T : String} {a : EM Val} {Q : Val → MEnv → MHp → Prop} : Wp (mIsTy T a) ρ h Q ↔ Wp a ρ h fun v ρ1 h1 => ∃ z, fIsTy T v = some z ∧ Q z ρ1 h1 := by simp [mIsTy]
theorem wp_noexc {m : EM α} {Q : α → MEnv → MHp → Prop} : Wp (noexc m) ρ h Q ↔ Wp m ρ h Q := by
  unfold Wp noexc; cases m ρ h <;> rfl
@[simp] theorem wp_getCont {i : Nat} {Q : Val → MEnv → MHp → Prop} : Wp (getCont i) ρ h Q ↔ ∃ v, cont ρ h i = some v ∧ isCont v = true ∧ Q v ρ h := by
  unfold Wp getCont
  cases cont ρ h i with
  | none => simp
  | some v => by_cases hv : isCont v = true <;> simp [hv]
def isHas : Option SV → Bool
  | some (.val _) => true
  | some (.own _) => true
  | _ => false
@[simp] theorem isHas_val {v : Val} : isHas (some (.val v)) = true := rfl
@[simp] theorem isHas_own {v : Cell} : isHas (some (.own v)) = true := rfl
@[simp] theorem wp_has {i : Nat} {Q : Unit → MEnv → MHp → Prop} : Wp (has i) ρ h Q ↔ isHas ρ[i]? = true ∧ Q () ρ h := by
  unfold Wp has
  cases ρ[i]? with
  | none => simp [isHas]
  | some v => cases v <;> simp [isHas]
@[simp] theorem wp_ixB {f : Val → Val → Option Val} {i : Nat} {b : EM Val} {Q : Val → MEnv → MHp → Prop} : Wp (mIxB f i b) ρ h Q ↔ isHas ρ[i]? = true ∧ Wp b ρ h fun y ρ1 h1 => ∃ x, cont ρ1 h1 i = some x ∧ isCont x = true ∧ ∃ z, f x y = some z ∧ Q z ρ1 h1 := by simp [mIxB]
@[simp] theorem wp_opB {f : Val → Val → Option Val} {i : Nat} {b : EM Val} {Q : Val → MEnv → MHp → Prop} : Wp (mOpB f b i) ρ h Q ↔ Wp b ρ h fun y ρ1 h1 => ∃ x, cont ρ1 h1 i = some x ∧ isCont x = true ∧ ∃ z, f y x = some z ∧ Q z ρ1 h1 := by simp [mOpB]
@[simp] theorem wp_cb1 {f : List Val → Option Val} {i : Nat} {Q : Val → MEnv → MHp → Prop} : Wp (mCB1 f i) ρ h Q ↔ ∃ x, cont ρ h i = some x ∧ isCont x = true ∧ ∃ z, f [x] = some z ∧ Q z ρ h := by simp [mCB1]
@[simp] theorem wp_m1 {f : Val → Val → Option Val} {a b : EM Val} {Q : Val → MEnv → MHp → Prop} : Wp (mM1 f a b) ρ h Q ↔ Wp a ρ h fun x ρ1 h1 => if isStr x = true then Wp b ρ1 h1 fun y ρ2 h2 => ∃ z, f x y = some z ∧ Q z ρ2 h2 else False := by simp [mM1]
@[simp] theorem wp_m1B {f : Val → Val → Option Val} {a : EM Val} {i : Nat} {Q : Val → MEnv → MHp → Prop} : Wp (mM1B f a i) ρ h Q ↔ Wp a ρ h fun x ρ1 h1 => if isStr x = true then ∃ y, cont ρ1 h1 i = some y ∧ isCont y = true ∧ ∃ z, f x y = some z ∧ Q z ρ1 h1 else False := by simp [mM1B]
@[simp] theorem isStr_str {s : Str} : isStr (.str s) = true := rfl
@[simp] theorem isCont_lst {vs : List Val} : isCont (.lst vs) = true := rfl
@[simp] theorem isCont_dct {vs : List (Val × Val)} : isCont (.dct vs) = true := rfl
def contS (h : MHp) : Option SV → Option Val
  | some (.val (.ref a)) => (h[a]?).map Cell.val
  | some (.val v) => some v
  | some (.own cl) => some cl.val
  | _ => none
theorem cont_eq {i : Nat} : cont ρ h i = contS h ρ[i]? := rfl
@[simp] theorem contS_ref {a : Nat} : contS h (some (.val (.ref a))) = (h[a]?).map Cell.val := rfl
@[simp] theorem contS_own {cl : Cell} : contS h (some (.own cl)) = some cl.val := rfl
@[simp] theorem contS_lst {vs : List Val} : contS h (some (.val (.lst vs))) = some (.lst vs) := rfl
@[simp] theorem contS_tup {vs : List Val} : contS h (some (.val (.tup vs))) = some (.tup vs) := rfl
def putS (i : Nat) (cl : Cell) (ρ : MEnv) (h : MHp) (Q : MEnv → MHp → Prop) : Option SV → Prop
  | some (.val (.ref a)) => a < h.length ∧ Q ρ (h.set a cl)
  | some (.own _) => Q (ρ.set i (.own cl)) h
  | _ => False
@[simp] theorem putS_ref {i a : Nat} {cl : Cell} {Q : MEnv → MHp → Prop} : putS i cl ρ h Q (some (.val (.ref a))) ↔ a < h.length ∧ Q ρ (h.set a cl) := Iff.rfl
@[simp] theorem putS_own {i : Nat} {cl c2 : Cell} {Q : MEnv → MHp → Prop} : putS i cl ρ h Q (some (.own c2)) ↔ Q (ρ.set i (.own cl)) h := Iff.rfl
@[simp] theorem wp_put {i : Nat} {cl : Cell} {Q : Unit → MEnv → MHp → Prop} : Wp (putCont i cl) ρ h Q ↔ putS i cl ρ h (Q ()) ρ[i]? := by
  unfold Wp putCont putS
  cases ρ[i]? with
  | none => rfl
  | some v =>
    cases v with
    | un => rfl
    | own c => rfl
    | val v => cases v <;> first | rfl | (rename_i a; by_cases ha : a < h.length <;> simp [ha])
/-! statements -/
@[simp] theorem wp_skip {Q : Fl → MEnv → MHp → Prop} : Wp sSkip ρ h Q ↔ Q .next ρ h := Iff.rfl
@[simp] theorem wp_brk {Q : Fl → MEnv → MHp → Prop} : Wp sBrk ρ h Q ↔ Q .brk ρ h := Iff.rfl
@[simp] theorem wp_cont {Q : Fl → MEnv → MHp → Prop} : Wp sCont ρ h Q ↔ Q .cont ρ h := Iff.rfl
@[simp] theorem wp_retN {Q : Fl → MEnv → MHp → Prop} : Wp sRetN ρ h Q ↔ Q (.ret .non) ρ h := Iff.rfl
def onNext (N : MEnv → MHp → Prop) (Q : Fl → MEnv → MHp → Prop) : Fl → MEnv → MHp → Prop
  | .next => N
  | f => Q f
@[simp] theorem onNext_next {N : MEnv → MHp → Prop} {Q : Fl → MEnv → MHp → Prop} : onNext N Q .next = N := rfl
@[simp] theorem onNext_ret {N : MEnv → MHp → Prop} {Q : Fl → MEnv → MHp → Prop} {v : Val} : onNext N Q (.ret v) = Q (.ret v) := rfl
@[simp] theorem onNext_brk {N : MEnv → MHp → Prop} {Q : Fl → MEnv → MHp → Prop} : onNext N Q .brk = Q .brk := rfl
@[simp] theorem onNext_cont {N : MEnv → MHp → Prop} {Q : Fl → MEnv → MHp → Prop} : onNext N Q .cont = Q .cont := rfl
@[simp] theorem wp_seq {a b : SM} {Q : Fl → MEnv → MHp → Prop} : Wp (sSeq a b) ρ h Q ↔ Wp a ρ h (onNext (fun ρ' h' => Wp b ρ' h' Q) Q) := by
  unfold Wp sSeq
  cases e : a ρ h with
  | ok f ρ' h' => cases f <;> rfl
  | _ => rfl
@[simp] theorem wp_ret {m : EM Val} {Q : Fl → MEnv → MHp → Prop} : Wp (sRet m) ρ h Q ↔ Wp m ρ h fun v ρ' h' => Q (.ret v) ρ' h' := by simp [sRet]
@[simp] theorem wp_drop {m : EM Val} {Q : Fl → MEnv → MHp → Prop} : Wp (sDrop m) ρ h Q ↔ Wp m ρ h fun v ρ' h' => Q .next ρ' h' := by simp [sDrop]
@[simp] theorem wp_sif {t : EM Bool} {a b : SM} {Q : Fl → MEnv → MHp → Prop} : Wp (sIf t a b) ρ h Q ↔ Wp t ρ h fun k ρ' h' => if k = true then Wp a ρ' h' Q else Wp b ρ' h' Q := by simp [sIf]
@[simp] theorem wp_set {i : Nat} {m : EM Val} {Q : Fl → MEnv → MHp → Prop} : Wp (sSet i m) ρ h Q ↔ Wp m ρ h fun v ρ' h' => Q .next (ρ'.set i (.val v)) h' := by simp only [sSet, wp_bind]; rfl
@[simp] theorem wp_own {i : Nat} {m : EM Cell} {Q : Fl → MEnv → MHp → Prop} : Wp (sOwn i m) ρ h Q ↔ Wp m ρ h fun v ρ' h' => Q .next (ρ'.set i (.own v)) h' := by simp only [sOwn, wp_bind]; rfl
@[simp] theorem wp_asg {tg : TgM} {m : EM Val} {Q : Fl → MEnv → MHp → Prop} : Wp (sAsg tg m) ρ h Q ↔ Wp m ρ h fun v ρ' h' => ∃ ρ2, tg v ρ' = some ρ2 ∧ Q .next ρ2 h' := by
  simp only [sAsg, wp_bind]
  constructor <;> refine fun p => p.mono fun v ρ1 h1 q => ?_
  · unfold Wp at q; dsimp only at q; cases e : tg v ρ1 <;> rw [e] at q
    · exact q.elim
    · exact ⟨_, rfl, q⟩
  · obtain ⟨ρ2, e, q⟩ := q; unfold Wp; dsimp only; rw [e]; exact q
def frz (i : Nat) (s : SM) (ρ : MEnv) (h : MHp) (Q : Fl → MEnv → MHp → Prop) : Option SV → Prop
  | some (.own cl) => Wp s (ρ.set i (.val cl.val)) h Q
  | _ => False
@[simp] theorem frz_own {i : Nat} {s : SM} {cl : Cell} {Q : Fl → MEnv → MHp → Prop} : frz i s ρ h Q (some (.own cl)) ↔ Wp s (ρ.set i (.val cl.val)) h Q := Iff.rfl
@[simp] theorem wp_freeze {i : Nat} {s : SM} {Q : Fl → MEnv → MHp → Prop} : Wp (sFreeze i s) ρ h Q ↔ frz i s ρ h Q ρ[i]? := by
  unfold Wp sFreeze frz
  cases ρ[i]? with
  | none => rfl
  | some v => cases v <;> rfl
@[simp] theorem wp_par {i j : Nat} {r : EM (List Val)} {Q : Fl → MEnv → MHp → Prop} : Wp (sPar i j r) ρ h Q ↔ Wp r ρ h fun vs ρ' h' => ∃ v w, vs = [v, w] ∧ Q .next ((ρ'.set i (.val v)).set j (.val w)) h' := by
  simp only [sPar, wp_bind]
  constructor <;> refine fun p => p.mono fun v ρ1 h1 q => ?_
  · unfold Wp at q
    match v, q with
    | [v, w], q => exact ⟨v, w, rfl, q⟩
  · obtain ⟨v, w, rfl, q⟩ := q; exact q
def setAt (i : Nat) (v x k : Val) (ρ : MEnv) (h : MHp) (Q : MEnv → MHp → Prop) : Prop := match x, k with
  | .lst vs, .int k => ∃ j, ixN vs.length k = some j ∧ putS i (.lst (vs.set j v)) ρ h Q ρ[i]?
  | _, _ => False
@[simp] theorem setAt_eq {i : Nat} {v : Val} {vs : List Val} {k : Int} {Q : MEnv → MHp → Prop} : setAt i v (.lst vs) (.int k) ρ h Q ↔ ∃ j, ixN vs.length k = some j ∧ putS i (.lst (vs.set j v)) ρ h Q ρ[i]? := Iff.rfl
@[simp] theorem wp_setItem {i : Nat} {me mv : EM Val} {Q : Fl → MEnv → MHp → Prop} : Wp (sSetItem i me mv) ρ h Q ↔ Wp mv ρ h fun v ρ1 h1 => isHas ρ1[i]? = true ∧ Wp me ρ1 h1 fun k ρ2 h2 => ∃ x, cont ρ2 h2 i = some x ∧ isCont x = true ∧ setAt i v x k ρ2 h2 (Q .next) := by
  simp only [sSetItem, wp_bind, wp_has, wp_getCont]
  constructor <;> refine fun p => p.mono fun v ρ1 h1 q => ⟨q.1, q.2.mono fun k ρ2 h2 ⟨x, e1, e2, q⟩ => ⟨x, e1, e2, ?_⟩⟩
  · cases x with
    | lst vs =>
      cases k with
      | int ix =>
        dsimp only at q
        cases e : ixN vs.length ix with
        | none => rw [e] at q; exact q.elim
        | some j => rw [e] at q; simp only [wp_bind, wp_put, wp_pure] at q; exact ⟨j, e, q⟩
      | _ => exact q
    | _ => exact q
  · cases x with
    | lst vs =>
      cases k with
      | int ix =>
        obtain ⟨j, e, q⟩ := q
        dsimp only
        rw [e]
        simp only [wp_bind, wp_put, wp_pure]; exact q
      | _ => exact q
    | _ => exact q
def onEnd (Q : Val → MHp → Prop) : Fl → MEnv → MHp → Prop
  | .ret v => fun _ h => Q v h
  | .next => fun _ h => Q .non h
  | _ => fun _ _ => False
@[simp] theorem onEnd_ret {Q : Val → MHp → Prop} {v : Val} : onEnd Q (.ret v) ρ h ↔ Q v h := Iff.rfl
@[simp] theorem onEnd_next {Q : Val → MHp → Prop} : onEnd Q .next ρ h ↔ Q .non h := Iff.rfl
theorem wpF_fun {np n : Nat} {body : SM} {args : List Val} {Q : Val → MHp → Prop} : WpF (mFun np n body args h) Q ↔ args.length = np ∧ Wp body (args.map SV.val ++ List.replicate (n - np) .un) h (onEnd Q) := by
  unfold mFun Wp WpF
  by_cases hl : args.length = np
  · simp only [hl, if_true, true_and]
    cases body (args.map SV.val ++ List.replicate (n - np) .un) h with
    | ok f ρ' h' => cases f <;> rfl
    | _ => rfl
  · simp only [hl, if_false, false_and]
/-- a call's own answer and heap -/
theorem WpF.eq {r : RE Val} {v : Val} {h : MHp} (p : WpF r fun x h' => x = v ∧ h' = h) : ∃ ρ, r = .ok v ρ h := by
  obtain ⟨_, ρ, _, e, rfl, rfl⟩ := p.ex; exact ⟨ρ, e⟩
/-! walks -/
def onTurn (N : MEnv → MHp → Prop) (Q : Fl → MEnv → MHp → Prop) : Fl → MEnv → MHp → Prop
  | .next => N
  | .cont => N
  | .brk => Q .next
  | .ret v => Q (.ret v)
@[simp] theorem onTurn_next {N : MEnv → MHp → Prop} {Q : Fl → MEnv → MHp → Prop} : onTurn N Q .next = N := rfl
@[simp] theorem onTurn_cont {N : MEnv → MHp → Prop} {Q : Fl → MEnv → MHp → Prop} : onTurn N Q .cont = N := rfl
@[simp] theorem onTurn_brk {N : MEnv → MHp → Prop} {Q : Fl → MEnv → MHp → Prop} : onTurn N Q .brk = Q .next := rfl
@[simp] theorem onTurn_ret {N : MEnv → MHp → Prop} {Q : Fl → MEnv → MHp → Prop} {v : Val} : onTurn N Q (.ret v) = Q (.ret v) := rfl
@[simp] theorem wp_for_nil {tg : TgM} {body : SM} {Q : Fl → MEnv → MHp → Prop} : Wp (forLoop tg body []) ρ h Q ↔ Q .next ρ h := Iff.rfl
theorem wp_for_cons {tg : TgM} {body : SM} {v : Val} {vs : List Val} {Q : Fl → MEnv → MHp → Prop} : Wp (forLoop tg body (v :: vs)) ρ h Q ↔ ∃ ρ1, tg v ρ = some ρ1 ∧ Wp body ρ1 h (onTurn (fun ρ' h' => Wp (forLoop tg body vs) ρ' h' Q) Q) := by
  have e : ∀ ρ h, forLoop tg body (v :: vs) ρ h = match tg v ρ with
    | none => .fail
    | some ρ1 => match body ρ1 h with
      | .ok .next ρ' h' => forLoop tg body vs ρ' h'
      | .ok .cont ρ' h' => forLoop tg body vs ρ' h'
      | .ok .brk ρ' h' => .ok .next ρ' h'
      | x => x := fun _ _ => rfl
  rw [Wp, e]
  cases tg v ρ with
  | none => simp
  | some ρ1 =>
    simp only [Option.some.injEq, exists_eq_left']
    unfold Wp
    cases body ρ1 h with
    | ok f ρ' h' => cases f <;> rfl
    | _ => rfl
@[simp] theorem wp_sFor {it : EM (List Val)} {tg : TgM} {body : SM} {Q : Fl → MEnv → MHp → Prop} : Wp (sFor it tg body) ρ h Q ↔ Wp it ρ h fun vs ρ' h' => Wp (forLoop tg body vs) ρ' h' Q := by simp [sFor]
/-- a walk by an invariant over what is left -/
theorem wp_for_inv {tg : TgM} {body : SM} {Q : Fl → MEnv → MHp → Prop} (I : List Val → MEnv → MHp → Prop) (vs : List Val) (h0 : I vs ρ h)
    (step : ∀ v r ρ h, I (v :: r) ρ h → ∃ ρ1, tg v ρ = some ρ1 ∧ Wp body ρ1 h (onTurn (I r) Q)) (fin : ∀ ρ h, I [] ρ h → Q .next ρ h) : Wp (forLoop tg body vs) ρ h Q := by
  induction vs generalizing ρ h with
  | nil => exact fin _ _ h0
  | cons v r ih =>
    rw [wp_for_cons]
    obtain ⟨ρ1, e, p⟩ := step v r ρ h h0
    refine ⟨ρ1, e, p.mono fun f ρ' h' q => ?_⟩
    cases f with
    | next => exact ih q
    | cont => exact ih q
    | brk => exact q
    | ret v => exact q
@[simp] theorem gm_name {i : Nat} {v : Val} {ρ : MEnv} : gmName i v ρ = some (ρ.set i (.val v)) := rfl
theorem wp_comp_nil {tg : TgM} {cond : EM Bool} {elt : EM Val} {own : List Nat} {acc : List Val} {Q : List Val → MEnv → MHp → Prop} : Wp (compLoop tg cond elt own [] acc) ρ h Q ↔ Q acc ρ h := Iff.rfl
theorem wp_comp_cons {tg : TgM} {cond : EM Bool} {elt : EM Val} {own : List Nat} {v : Val} {r acc : List Val} {Q : List Val → MEnv → MHp → Prop} : Wp (compLoop tg cond elt own (v :: r) acc) ρ h Q ↔
    ∃ ρ1, tg v (wipeM ρ own) = some ρ1 ∧ Wp cond ρ1 h fun b ρ2 h2 => if b = true then Wp elt ρ2 h2 fun y ρ3 h3 => acc.length < sizeLine ∧ Wp (compLoop tg cond elt own r (acc ++ [y])) ρ3 h3 Q else Wp (compLoop tg cond elt own r acc) ρ2 h2 Q := by
  have e : ∀ ρ h, compLoop tg cond elt own (v :: r) acc ρ h = match tg v (wipeM ρ own) with
    | none => .fail
    | some ρ1 => EM.bind (noexc cond) (fun b => if b = true then EM.bind (noexc elt) fun y => if acc.length < sizeLine then compLoop tg cond elt own r (acc ++ [y]) else fun _ _ => .fail
        else compLoop tg cond elt own r acc) ρ1 h := fun _ _ => rfl
  rw [Wp, e]
  cases tg v (wipeM ρ own) with
  | none => simp
  | some ρ1 =>
    simp only [Option.some.injEq, exists_eq_left']
    show Wp (EM.bind (noexc cond) _) ρ1 h Q ↔ _
    simp only [wp_bind, wp_noexc, wp_ite, wp_fail]
    constructor <;> refine fun p => p.mono fun b ρ2 h2 q => ?_
    · split at q
      · rw [if_pos (by assumption)]
        exact q.mono fun y ρ3 h3 q => by split at q <;> first | exact ⟨by assumption, q⟩ | exact q.elim
      · rw [if_neg (by assumption)]; exact q
    · split at q
      · rw [if_pos (by assumption)]
        exact q.mono fun y ρ3 h3 q => by rw [if_pos q.1]; exact q.2
      · rw [if_neg (by assumption)]; exact q
@[simp] theorem wp_compN {it : EM (List Val)} {tg : TgM} {cond : EM Bool} {elt : EM Val} {own : List Nat} {Q : Cell → MEnv → MHp → Prop} : Wp (mCompN it tg cond elt own) ρ h Q ↔ Wp it ρ h fun vs ρ1 h1 => Wp (compLoop tg cond elt own vs []) ρ1 h1 fun acc ρ2 h2 => Q (.lst acc) (wipeM ρ2 own) h2 := by
  simp only [mCompN, wp_bind]; rfl
/-- a comprehension by an invariant over what is left and what is made -/
theorem wp_comp_inv {tg : TgM} {cond : EM Bool} {elt : EM Val} {own : List Nat} {Q : List Val → MEnv → MHp → Prop} (I : List Val → List Val → MEnv → MHp → Prop) (vs acc : List Val) (hs : acc.length + vs.length ≤ sizeLine) (h0 : I vs acc ρ h)
    (step : ∀ v r acc ρ h, I (v :: r) acc ρ h → ∃ ρ1, tg v (wipeM ρ own) = some ρ1 ∧ Wp cond ρ1 h fun b ρ2 h2 => if b = true then Wp elt ρ2 h2 fun y ρ3 h3 => I r (acc ++ [y]) ρ3 h3 else I r acc ρ2 h2)
    (fin : ∀ acc ρ h, I [] acc ρ h → Q acc ρ h) : Wp (compLoop tg cond elt own vs acc) ρ h Q := by
  induction vs generalizing ρ h acc with
  | nil => exact fin _ _ _ h0
  | cons v r ih =>
    rw [wp_comp_cons]
    obtain ⟨ρ1, e, p⟩ := step v r acc ρ h h0
    simp only [List.length_cons] at hs
    refine ⟨ρ1, e, p.mono fun b ρ' h' q => ?_⟩
    split at q
    · rw [if_pos (by assumption)]
      exact q.mono fun y ρ3 h3 q => ⟨by omega, ih _ (by simp; omega) q⟩
    · rw [if_neg (by assumption)]
      exact ih _ (by omega) q
/-- one name, a pure test, a pure item -/
theorem wp_comp1 {i : Nat} {cond : EM Bool} {elt : EM Val} {Q : List Val → MEnv → MHp → Prop} (p : Val → Bool) (g : Val → Val) (vs acc : List Val) (hs : acc.length + vs.length ≤ sizeLine)
    (hp : ∀ v ∈ vs, Wp cond (ρ.set i (.val v)) h fun b ρ' h' => b = p v ∧ ρ' = ρ.set i (.val v) ∧ h' = h)
    (he : ∀ v ∈ vs, p v = true → Wp elt (ρ.set i (.val v)) h fun y ρ' h' => y = g v ∧ ρ' = ρ.set i (.val v) ∧ h' = h)
    (fin : ∀ ρ', (∀ x, ρ'.set i x = ρ.set i x) → Q (acc ++ (vs.filter p).map g) ρ' h) : Wp (compLoop (gmName i) cond elt [i] vs acc) ρ h Q := by
  refine wp_comp_inv (fun r a ρ' h' => h' = h ∧ (∀ x, ρ'.set i x = ρ.set i x) ∧ (∀ v ∈ r, v ∈ vs) ∧ a ++ (r.filter p).map g = acc ++ (vs.filter p).map g) vs acc hs ⟨rfl, fun _ => rfl, fun _ h => h, rfl⟩ ?_ ?_
  · rintro v r a ρ' h' ⟨rfl, e1, e2, e3⟩
    refine ⟨ρ.set i (.val v), ?_, ?_⟩
    · show some (((ρ').set i .un).set i (.val v)) = _
      rw [List.set_set, e1]
    · refine (hp v (e2 v (by simp))).mono fun b ρ2 h2 ⟨eb, er, eh⟩ => ?_
      subst eb; subst er; subst eh
      split
      · rename_i hz
        refine (he v (e2 v (by simp)) hz).mono fun y ρ3 h3 ⟨ey, er, eh⟩ => ?_
        subst ey; subst er; subst eh
        refine ⟨rfl, fun x => by rw [List.set_set], fun w hw => e2 w (by simp [hw]), ?_⟩
        rw [← e3]; simp [hz]
      · rename_i hz
        refine ⟨rfl, fun x => by rw [List.set_set], fun w hw => e2 w (by simp [hw]), ?_⟩
        rw [← e3]; simp [hz]
  · rintro a ρ' h' ⟨rfl, e1, e2, e3⟩
    simp only [List.filter_nil, List.map_nil, List.append_nil] at e3
    rw [e3]; exact fin _ e1
@[simp] theorem wipe_nil : wipeM ρ [] = ρ := rfl
@[simp] theorem wipe_cons {i : Nat} {is : List Nat} : wipeM ρ (i :: is) = (wipeM ρ is).set i .un := rfl
/-! operations -/
section
variable {i j : Int}
@[simp] theorem fAdd_ii : fAdd (.int i) (.int j) = some (.int (i + j)) := rfl
@[simp] theorem fSub_ii : fSub (.int i) (.int j) = some (.int (i - j)) := rfl
@[simp] theorem fMul_ii : fMul (.int i) (.int j) = if i.natAbs.log2 + j.natAbs.log2 < 1000000 then some (.int (i * j)) else none := rfl
@[simp] theorem fMod_ii : fMod (.int i) (.int j) = if 0 < j then some (.int (i % j)) else none := rfl
@[simp] theorem fDiv_ii : fDiv (.int i) (.int j) = if 0 < j ∧ j.natAbs.log2 < 9000 then some (.int (i / j)) else none := rfl
@[simp] theorem fPow_ii : fPow (.int i) (.int j) = if 0 ≤ j ∧ (Builtin.Int.intBits i : Int) * j ≤ 2 ^ 27 then some (.int (i ^ j.toNat)) else none := rfl
@[simp] theorem fCmp_ii {g : Int → Int → Bool} : fCmp g (.int i) (.int j) = some (.bl (g i j)) := rfl
@[simp] theorem vAbs_i : vAbs (.int i) = some (.int (if i < 0 then -i else i)) := rfl
@[simp] theorem vMax2_ii : vMax2 (.int i) (.int j) = some (.int (if j > i then j else i)) := rfl
@[simp] theorem vMin2_ii : vMin2 (.int i) (.int j) = some (.int (if j < i then j else i)) := rfl
@[simp] theorem vInt_i : vInt (.int i) = some (.int i) := rfl
@[simp] theorem vInt_b {b : Bool} : vInt (.bl b) = some (.int (if b then 1 else 0)) := rfl
@[simp] theorem vStr_i : vStr (.int i) = if i.natAbs.log2 < 1920 then some (.str (toString i)) else none := rfl
end
@[simp] theorem vLen_lst {vs : List Val} : vLen (.lst vs) = some (.int vs.length) := rfl
@[simp] theorem vLen_tup {vs : List Val} : vLen (.tup vs) = some (.int vs.length) := rfl
@[simp] theorem vLen_fz {vs : List Val} : vLen (.fz vs) = some (.int vs.length) := rfl
@[simp] theorem vLen_str {s : Str} : vLen (.str s) = if s.length ≤ sizeLine then some (.int s.length) else none := rfl
@[simp] theorem fIx_lst {vs : List Val} {i : Int} : fIx (.lst vs) (.int i) = atI vs i := rfl
@[simp] theorem fIx_tup {vs : List Val} {i : Int} : fIx (.tup vs) (.int i) = atI vs i := rfl
@[simp] theorem fIx_fz {vs : List Val} {i : Int} : fIx (.fz vs) (.int i) = atI vs i := rfl
@[simp] theorem fIx_str {s : Str} {i : Int} : fIx (.str s) (.int i) = if s.length ≤ sizeLine then (atI s.cps.toList i).map fun q => .str ⟨#[q]⟩ else none := rfl
@[simp] theorem tru_bl {b : Bool} : tru (.bl b) = some b := rfl
@[simp] theorem items_lst {vs : List Val} : items (.lst vs) = some vs := rfl
@[simp] theorem items_tup {vs : List Val} : items (.tup vs) = some vs := rfl
@[simp] theorem items_fz {vs : List Val} : items (.fz vs) = some vs := rfl
@[simp] theorem items_str {s : Str} : items (.str s) = some (s.cps.toList.map fun q => .str ⟨#[q]⟩) := rfl
@[simp] theorem vTuple_lst {vs : List Val} : vTuple (.lst vs) = some (.tup vs) := rfl
@[simp] theorem vTuple_tup {vs : List Val} : vTuple (.tup vs) = some (.tup vs) := rfl
@[simp] theorem vList_tup {vs : List Val} : vList (.tup vs) = some (.lst vs) := rfl
@[simp] theorem vList_lst {vs : List Val} : vList (.lst vs) = some (.lst vs) := rfl
@[simp] theorem tyName_non : tyName .non = some "NoneType" := rfl
@[simp] theorem tyName_bl {b : Bool} : tyName (.bl b) = some "bool" := rfl
@[simp] theorem tyName_int {b : Int} : tyName (.int b) = some "int" := rfl
@[simp] theorem tyName_str {b : Str} : tyName (.str b) = some "str" := rfl
@[simp] theorem tyName_tup {b : List Val} : tyName (.tup b) = some "tuple" := rfl
@[simp] theorem tyName_lst {b : List Val} : tyName (.lst b) = some "list" := rfl
@[simp] theorem tyName_dct {b : List (Val × Val)} : tyName (.dct b) = some "dict" := rfl
theorem atI_ok {α : Type} {xs : List α} {i : Int} (h0 : 0 ≤ i) (h1 : i < xs.length) : ∃ x, atI xs i = some x ∧ xs[i.toNat]? = some x ∧ x ∈ xs := by
  unfold atI ixN
  rw [if_pos h0, if_pos h1]
  have hl : i.toNat < xs.length := by omega
  exact ⟨xs[i.toNat], by simp [hl], by simp [hl], List.getElem_mem hl⟩
theorem ixN_ok {n : Nat} {i : Int} (h0 : 0 ≤ i) (h1 : i < n) : ixN n i = some i.toNat := by
  unfold ixN; rw [if_pos h0, if_pos h1]
end Mir

set_option Elab.async false
set_option linter.all false
set_option maxRecDepth 100000
set_option maxHeartbeats 4000000
/-! the dice of every law -/
namespace Mir
open PySem L2

def diceM : List Val → MHp → RE Val := mFun 2 5
  (sSeq (sSet 2 (mIf (mTest (mOp fLt (mVar 1) (mCB (f1 vLen) (mCons (mVar 0) mNil)))) (mOp fIx (mVar 0) (mVar 1)) (mOp fAdd (mOp fMul (mC (.int (41))) (mVar 1)) (mC (.int (9)))))) (sSeq (sSet 3 (mOp fMod (mCB (f1 vInt) (mCons (mCB (f1 vAbs) (mCons (mVar 2) mNil)) mNil)) (mOp fPow (mOp fPow (mC (.int (10))) (mC (.int (59)))) (mC (.int (11)))))) (sSeq (sSet 4 (mOp fAdd (mOp fAdd (mOp fAdd (mOp fMul (mVar 3) (mC (.int (3202034522624059733)))) (mOp fMul (mC (.int (83))) (mVar 1))) (mOp fMul (mC (.int (19))) (mCB (f1 vInt) (mCons (mOp fLt (mVar 2) (mC (.int (0)))) mNil)))) (mC (.int (5))))) (sRet (mCell (nLst (mCons (mCB (f2 vMax2) (mCons (mC (.int (0))) (mCons (mOp fSub (mVar 3) (mOp fPow (mC (.int (10))) (mC (.int (18))))) mNil))) (mCons (mOp fMod (mCB (f1 vInt) (mCons (mVar 4) mNil)) (mC (.int (2305843009213693921)))) (mCons (mC (.int (0))) mNil)))))))))
def rollM : List Val → MHp → RE Val := mFun 2 5
  (sSeq (sIf (mTest (mOp fGt (mIxB fIx 0 (mC (.int (0)))) (mC (.int (0))))) (sSeq (sSet 2 (mOp fMod (mCB (f1 vInt) (mCons (mIxB fIx 0 (mC (.int (0)))) mNil)) (mVar 1))) (sSeq (sSetItem 0 (mC (.int (0))) (mOp fDiv (mIxB fIx 0 (mC (.int (0)))) (mVar 1))) (sRet (mVar 2)))) sSkip) (sSeq (sSetItem 0 (mC (.int (2))) (mOp fAdd (mIxB fIx 0 (mC (.int (2)))) (mC (.int (1))))) (sSeq (sSet 3 (mOp fMod (mCB (f1 vInt) (mCons (mOp fAdd (mIxB fIx 0 (mC (.int (1)))) (mOp fMul (mC (.int (961748941))) (mIxB fIx 0 (mC (.int (2)))))) mNil)) (mC (.int (67280421310679))))) (sSeq (sSet 4 (mOp fAdd (mOp fMul (mOp fMod (mCB (f1 vInt) (mCons (mOp fMul (mVar 3) (mVar 3)) mNil)) (mC (.int (576460752303423389)))) (mVar 3)) (mOp fMul (mC (.int (7919))) (mIxB fIx 0 (mC (.int (2))))))) (sRet (mOp fMod (mCB (f1 vInt) (mCons (mOp fDiv (mOp fMod (mCB (f1 vInt) (mCons (mOp fAdd (mVar 4) (mIxB fIx 0 (mC (.int (1))))) mNil)) (mC (.int (2199023255579)))) (mC (.int (128)))) mNil)) (mVar 1)))))))
def pickM : List Val → MHp → RE Val := mFun 2 2
  (sRet (mOp fIx (mVar 1) (mCall rollM [] (mCons (mVar 0) (mCons (mCB (f1 vLen) (mCons (mVar 1) mNil)) mNil)))))
/-- the dice stand at a, rolled past their own store at most n times -/
def Dice (n : Nat) (h : MHp) (a : Nat) : Prop := ∃ x y z : Int, h[a]? = some (.lst [.int x, .int y, .int z]) ∧ 0 ≤ x ∧ x.natAbs.log2 < 3000 ∧ 0 ≤ y ∧ y < 2305843009213693921 ∧ 0 ≤ z ∧ z ≤ n
theorem Dice.mono {n m : Nat} {h : MHp} {a : Nat} (d : Dice n h a) (l : n ≤ m) : Dice m h a := by
  obtain ⟨x, y, z, e, h1, h2, h3, h4, h5, h6⟩ := d
  exact ⟨x, y, z, e, h1, h2, h3, h4, h5, by omega⟩
theorem Dice.lt {n : Nat} {h : MHp} {a : Nat} (d : Dice n h a) : a < h.length := by
  obtain ⟨x, y, z, e, _⟩ := d
  exact (List.getElem?_eq_some_iff.mp e).1
/-- what a roll leaves: the dice, and all else as it was -/
structure Rl (n : Nat) (a : Nat) (h h' : MHp) : Prop where
  d : Dice n h' a
  len : h'.length = h.length
  fr : ∀ b, b ≠ a → h'[b]? = h[b]?
theorem Rl.refl {n a : Nat} {h : MHp} (d : Dice n h a) : Rl n a h h := ⟨d, rfl, fun _ _ => rfl⟩
theorem Rl.trans {n m a : Nat} {h h1 h2 : MHp} (r : Rl n a h h1) (q : Rl m a h1 h2) : Rl m a h h2 := ⟨q.d, q.len.trans r.len, fun b hb => (q.fr b hb).trans (r.fr b hb)⟩
theorem Rl.mono {n m a : Nat} {h h1 : MHp} (r : Rl n a h h1) (l : n ≤ m) : Rl m a h h1 := ⟨r.d.mono l, r.len, r.fr⟩
theorem Rl.set {n a : Nat} {h h' : MHp} {x y z : Int} (r : h' = h.set a (.lst [.int x, .int y, .int z])) (ha : a < h.length) (h1 : 0 ≤ x) (h2 : x.natAbs.log2 < 3000) (h3 : 0 ≤ y) (h4 : y < 2305843009213693921) (h5 : 0 ≤ z) (h6 : z ≤ n) : Rl n a h h' := by
  subst r
  exact ⟨⟨x, y, z, by simp [ha], h1, h2, h3, h4, h5, h6⟩, by simp, fun b hb => by simp [Ne.symm hb]⟩
theorem log2_mono {a b : Nat} (h : a ≤ b) : a.log2 ≤ b.log2 := by
  by_cases hb : b = 0
  · have : a = 0 := by omega
    subst this; subst hb; exact Nat.le_refl _
  · by_cases ha : a = 0
    · subst ha; simp
    · exact (Nat.le_log2 hb).2 (Nat.le_trans (Nat.log2_self_le ha) h)
theorem log2_lt {a k : Nat} (h : a < 2 ^ k) (hk : 0 < k := by decide) : a.log2 < k := by
  by_cases ha : a = 0
  · subst ha; simpa using hk
  · exact (Nat.log2_lt ha).2 h
theorem log2_lt_int {x : Int} {k : Nat} (h0 : 0 ≤ x) (h : x < 2 ^ k) (hk : 0 < k := by decide) : x.natAbs.log2 < k := by
  refine log2_lt ?_ hk
  have : ((2 ^ k : Nat) : Int) = (2 : Int) ^ k := by norm_cast
  omega
theorem roll_spec {n a : Nat} {h : MHp} {u : Int} (d : Dice n h a) (hn : n ≤ 1000000000) (hu : 0 < u) (hl : u.natAbs.log2 < 9000) : WpF (rollM [.ref a, .int u] h) fun v h' => ∃ r : Int, v = .int r ∧ 0 ≤ r ∧ r < u ∧ Rl (n + 1) a h h' := by
  have hlt := d.lt
  obtain ⟨x, y, z, e, h1, h2, h3, h4, h5, h6⟩ := d
  unfold rollM
  rw [wpF_fun]
  have hs : ∀ c : Cell, (h.set a c)[a]? = some c := fun c => by simp [hlt]
  by_cases hx : 0 < x
  · have hx2 : ¬ x ≤ 0 := by omega
    simp [cont_eq, e, atI, ixN, hs, hx, hu, hl, hx2, and_assoc]
    refine ⟨hlt, Int.emod_nonneg _ (by omega), Int.emod_lt_of_pos _ hu, Rl.set rfl hlt (Int.ediv_nonneg h1 (by omega)) (Nat.lt_of_le_of_lt (log2_mono ?_) h2) h3 h4 h5 (by omega)⟩
    have a1 := Int.ediv_le_self u h1
    have a2 := Int.ediv_nonneg h1 (show 0 ≤ u by omega)
    omega
  · have hx2 : x ≤ 0 := by omega
    simp [cont_eq, e, atI, ixN, hs, hx, hu, hl, hx2, and_assoc]
    have o1 := Int.emod_nonneg (y + 961748941 * (z + 1)) (show (67280421310679 : Int) ≠ 0 by decide)
    have o2 := Int.emod_lt_of_pos (y + 961748941 * (z + 1)) (show (0 : Int) < 67280421310679 by decide)
    generalize (y + 961748941 * (z + 1)) % 67280421310679 = one at o1 o2 ⊢
    have t1 := Int.emod_nonneg (one * one) (show (576460752303423389 : Int) ≠ 0 by decide)
    have t2 := Int.emod_lt_of_pos (one * one) (show (0 : Int) < 576460752303423389 by decide)
    generalize one * one % 576460752303423389 = two at t1 t2 ⊢
    have l1 : (z + 1).natAbs.log2 < 64 := log2_lt_int (by omega) (by omega)
    have l2 : one.natAbs.log2 < 64 := log2_lt_int (by omega) (by omega)
    have l3 : two.natAbs.log2 < 64 := log2_lt_int (by omega) (by omega)
    have k1 : Nat.log2 961748941 = 29 := by decide +kernel
    have k2 : Nat.log2 7919 = 12 := by decide +kernel
    have k3 : Nat.log2 128 = 7 := by decide +kernel
    exact ⟨hlt, by omega, by omega, by omega, by omega, by omega, Int.emod_nonneg _ (by omega), Int.emod_lt_of_pos _ hu, Rl.set rfl hlt h1 h2 h3 h4 (by omega) (by omega)⟩
theorem pick_lst {n a : Nat} {h : MHp} {vs : List Val} (d : Dice n h a) (hn : n ≤ 1000000000) (hv : 0 < vs.length) (hl : vs.length ≤ 1000000000) : WpF (pickM [.ref a, .lst vs] h) fun v h' => v ∈ vs ∧ Rl (n + 1) a h h' := by
  unfold pickM
  rw [wpF_fun]
  simp
  refine (roll_spec d hn (by omega) (by rw [Int.natAbs_natCast]; exact Nat.lt_of_lt_of_le (log2_lt (k := 64) (by omega)) (by decide))).mono ?_
  rintro v h' ⟨r, rfl, h0, h1, R⟩
  obtain ⟨x, e, _, hx⟩ := atI_ok h0 h1
  exact ⟨x, e, hx, R⟩
theorem pick_tup {n a : Nat} {h : MHp} {vs : List Val} (d : Dice n h a) (hn : n ≤ 1000000000) (hv : 0 < vs.length) (hl : vs.length ≤ 1000000000) : WpF (pickM [.ref a, .tup vs] h) fun v h' => v ∈ vs ∧ Rl (n + 1) a h h' := by
  unfold pickM
  rw [wpF_fun]
  simp
  refine (roll_spec d hn (by omega) (by rw [Int.natAbs_natCast]; exact Nat.lt_of_lt_of_le (log2_lt (k := 64) (by omega)) (by decide))).mono ?_
  rintro v h' ⟨r, rfl, h0, h1, R⟩
  obtain ⟨x, e, _, hx⟩ := atI_ok h0 h1
  exact ⟨x, e, hx, R⟩
theorem pick_str {n a : Nat} {h : MHp} {s : Str} (d : Dice n h a) (hn : n ≤ 1000000000) (hv : 0 < s.length) (hl : s.length ≤ 1000000) : WpF (pickM [.ref a, .str s] h) fun v h' => (∃ q ∈ s.cps.toList, v = .str ⟨#[q]⟩) ∧ Rl (n + 1) a h h' := by
  unfold pickM
  rw [wpF_fun]
  have hz : s.length ≤ sizeLine := Nat.le_trans hl (by decide)
  simp [hz]
  refine (roll_spec d hn (by omega) (by rw [Int.natAbs_natCast]; exact Nat.lt_of_lt_of_le (log2_lt (k := 64) (by omega)) (by decide))).mono ?_
  rintro v h' ⟨r, rfl, h0, h1, R⟩
  obtain ⟨x, e, _, hx⟩ := atI_ok (xs := s.cps.toList) h0 (by simpa [Str.length] using h1)
  refine ⟨.str ⟨#[x]⟩, ?_, ⟨x, by simpa using hx, rfl⟩, R⟩
  simp [hz, e]
theorem atI_int {ns : List Int} {i : Nat} (h : i < ns.length) : atI (ns.map Val.int) (i : Int) = some (.int ns[i]) := by
  obtain ⟨x, e, e2, _⟩ := atI_ok (xs := ns.map Val.int) (i := i) (by omega) (by simpa using h)
  rw [e, ← e2]
  simp [h]
theorem bits10 : Builtin.Int.intBits 10 = 4 := by decide +kernel
theorem bits59 : Builtin.Int.intBits 100000000000000000000000000000000000000000000000000000000000 = 196 := by decide +kernel
theorem dice_end {h : MHp} {C G r : Int} (hG : decide (0 < G) = true) (hl : decide (G.natAbs.log2 < 2999) = true) (h1 : 0 ≤ r) (h2 : r < 2305843009213693921) : (C % G).natAbs.log2 + 61 < 1000000 ∧
    Dice 0 (h ++ [Cell.lst [Val.int (if 1000000000000000000 < C % G then C % G - 1000000000000000000 else 0), Val.int r, Val.int 0]]) h.length ∧
    ∀ b, b < h.length → (h ++ [Cell.lst [Val.int (if 1000000000000000000 < C % G then C % G - 1000000000000000000 else 0), Val.int r, Val.int 0]])[b]? = h[b]? := by
  have hG := of_decide_eq_true hG
  have hl := of_decide_eq_true hl
  have o1 := Int.emod_nonneg C (show G ≠ 0 by omega)
  have o2 := Int.emod_lt_of_pos C hG
  generalize C % G = g at o1 o2 ⊢
  have o3 : g.natAbs.log2 < 2999 := Nat.lt_of_le_of_lt (log2_mono (by omega)) hl
  refine ⟨by omega, ⟨_, r, 0, by rw [List.getElem?_append_right (Nat.le_refl _)]; simp only [Nat.sub_self]; rfl, ?_, ?_, h1, h2, by omega, by simp⟩, fun b hb => List.getElem?_append_left hb⟩
  · split <;> omega
  · split
    · exact Nat.lt_of_le_of_lt (log2_mono (show (g - 1000000000000000000).natAbs ≤ g.natAbs by omega)) (by omega)
    · decide
theorem three : 3 ≤ sizeLine := by decide
theorem log2_b {p : Prop} [Decidable p] : 4 + (if p then (1 : Int) else 0).natAbs.log2 < 1000000 := by split <;> decide
theorem dice_spec {ns : List Int} {i : Nat} {h : MHp} (hi : i ≤ 1000000) : WpF (diceM [.fz (ns.map .int), .int i] h) fun v h' => v = .ref h.length ∧ h'.length = h.length + 1 ∧ Dice 0 h' h.length ∧ ∀ b, b < h.length → h'[b]? = h[b]? := by
  have k1 : Nat.log2 41 = 5 := by decide +kernel
  have k2 : Nat.log2 83 = 6 := by decide +kernel
  have k3 : i.log2 < 64 := log2_lt (by omega)
  have k4 : Nat.log2 3202034522624059733 = 61 := by decide +kernel
  have k5 : Nat.log2 19 = 4 := by decide +kernel
  unfold diceM
  rw [wpF_fun]
  by_cases hc : i < ns.length
  · have e := atI_int hc
    generalize ns[i] = cell at e
    simp [hc, e, and_assoc, bits10, bits59, k1, k2, k4, k5]
    exact ⟨(dice_end (h := h) (r := 0) (by decide +kernel) (by decide +kernel) (by decide) (by decide)).1, by omega, log2_b, three, (dice_end (by decide +kernel) (by decide +kernel) (Int.emod_nonneg _ (by decide)) (Int.emod_lt_of_pos _ (by decide))).2⟩
  · simp [hc, and_assoc, bits10, bits59, k1, k2, k4, k5]
    exact ⟨by omega, (dice_end (h := h) (r := 0) (by decide +kernel) (by decide +kernel) (by decide) (by decide)).1, by omega, log2_b, three, (dice_end (by decide +kernel) (by decide +kernel) (Int.emod_nonneg _ (by decide)) (Int.emod_lt_of_pos _ (by decide))).2⟩
end Mir

set_option Elab.async false
set_option linter.all false
set_option maxRecDepth 100000
set_option maxHeartbeats 4000000
/-! more of the calculus -/
namespace Mir
open PySem L2
section
variable {ρ : MEnv} {h : MHp}
@[simp] theorem wp_chain {f g : Val → Val → Option Val} {a b d : EM Val} {Q : Val → MEnv → MHp → Prop} : Wp (mChain f g a b d) ρ h Q ↔ Wp a ρ h fun x ρ1 h1 => Wp b ρ1 h1 fun y ρ2 h2 => ∃ z, f x y = some (.bl z) ∧ if z = true then Wp d ρ2 h2 fun w ρ3 h3 => ∃ u, g y w = some u ∧ Q u ρ3 h3 else Q (.bl false) ρ2 h2 := by
  simp only [mChain, wp_bind, wp_lift]
  constructor <;> refine fun p => p.mono fun x ρ1 h1 p => p.mono fun y ρ2 h2 p => ?_
  · obtain ⟨z, e, p⟩ := p
    cases z with
    | bl z => cases z <;> (refine ⟨_, e, ?_⟩; simpa using p)
    | _ => exact p.elim
  · obtain ⟨z, e, p⟩ := p
    refine ⟨.bl z, e, ?_⟩
    cases z <;> simpa using p
@[simp] theorem fIn_ss {i j : Str} : fIn (.str i) (.str j) = some (.bl (!(Builtin.Str.occurrences j i 0 j.length 1).isEmpty)) := rfl
@[simp] theorem fNotIn_ss {i j : Str} : fNotIn (.str i) (.str j) = some (.bl (!(!(Builtin.Str.occurrences j i 0 j.length 1).isEmpty))) := rfl
theorem bools_map {f : Val → Bool} {vs : List Val} : bools (vs.map fun v => .bl (f v)) = some (vs.map f) := by
  induction vs with
  | nil => rfl
  | cons v r ih => simp [bools, ih]
theorem vAll_map {f : Val → Bool} {vs : List Val} : vAll (.lst (vs.map fun v => .bl (f v))) = some (.bl (vs.all f)) := by
  simp [vAll, bools_map]
theorem vAny_map {f : Val → Bool} {vs : List Val} : vAny (.lst (vs.map fun v => .bl (f v))) = some (.bl (vs.any f)) := by
  simp [vAny, bools_map]
theorem filterT {vs : List Val} : vs.filter (fun _ => true) = vs := by simp
theorem filter_none {p : Val → Bool} {vs : List Val} : (vs.filter fun v => !p v).isEmpty = vs.all p := by
  induction vs with
  | nil => rfl
  | cons v r ih => cases e : p v <;> simp [e, ih]
theorem nlen {n k : Nat} (hk : 0 < k) : (Str.ofString (Nat.repr n)).length < k + 1 ↔ n < 10 ^ k := by
  rw [PySem.ofString_length, ← Nat.length_repr_le_iff hk]
  omega
theorem abs_eq {i : Int} : (if i < 0 then -i else i) = (i.natAbs : Int) := by split <;> omega
theorem repr_nat {n : Nat} : Int.repr (n : Int) = Nat.repr n := rfl
@[simp] theorem fIs_bb {a b : Bool} : fIs (.bl a) (.bl b) = some (.bl (decide (a = b))) := rfl
theorem eq4 (a b c d a' b' c' d' : Bool) : fEqX (.lst [.bl a, .bl b, .bl c, .bl d]) (.lst [.bl a', .bl b', .bl c', .bl d']) = some (.bl (a == a' && b == b' && c == c' && d == d')) := by
  cases a <;> cases b <;> cases c <;> cases d <;> cases a' <;> cases b' <;> cases c' <;> cases d' <;> rfl
theorem four : 4 ≤ sizeLine := by decide
/-- `[..] == []` -/
@[simp] theorem fEqX_nil {vs : List Val} : fEqX (.lst vs) (.lst []) = some (.bl vs.isEmpty) := by
  cases vs with
  | nil => rfl
  | cons v r => rfl
end
end Mir

set_option Elab.async false
set_option linter.all false
set_option maxRecDepth 100000
set_option maxHeartbeats 4000000
/-! walks that roll -/
namespace Mir
open PySem L2
section
variable {ρ : MEnv} {h : MHp}
theorem wp_comp_roll {i a n : Nat} {elt : EM Val} {Q : List Val → MEnv → MHp → Prop} (P : Val → Prop) (c : Nat) (vs : List Val) (d : Dice n h a) (hb : vs.length ≤ sizeLine)
    (step : ∀ v ∈ vs, ∀ m h', m ≤ n + c * vs.length → Rl m a h h' → Wp elt (ρ.set i (.val v)) h' fun y ρ' h2 => P y ∧ ρ' = ρ.set i (.val v) ∧ Rl (m + c) a h h2)
    (fin : ∀ acc ρ' h', (∀ x, ρ'.set i x = ρ.set i x) → (∀ v ∈ acc, P v) → acc.length = vs.length → Rl (n + c * vs.length) a h h' → Q acc ρ' h') : Wp (compLoop (gmName i) (EM.pure true) elt [i] vs []) ρ h Q := by
  refine wp_comp_inv (fun r acc ρ' h' => (∀ v ∈ r, v ∈ vs) ∧ (∀ x, ρ'.set i x = ρ.set i x) ∧ (∀ v ∈ acc, P v) ∧ acc.length + r.length = vs.length ∧ Rl (n + c * acc.length) a h h') vs [] (by simpa using hb)
    ⟨fun _ h => h, fun _ => rfl, by simp, by simp, by simpa using Rl.refl d⟩ ?_ ?_
  · rintro v r acc ρ' h' ⟨e0, e1, e2, e3, R⟩
    simp only [List.length_cons] at e3
    refine ⟨ρ.set i (.val v), ?_, ?_⟩
    · show some (((ρ').set i .un).set i (.val v)) = _
      rw [List.set_set, e1]
    · simp only [wp_pure, if_true]
      have hle : n + c * acc.length ≤ n + c * vs.length := Nat.add_le_add_left (Nat.mul_le_mul_left _ (by omega)) _
      refine (step v (e0 v (by simp)) _ h' hle R).mono ?_
      rintro y ρ2 h2 ⟨p, rfl, R2⟩
      refine ⟨fun w hw => e0 w (by simp [hw]), fun x => by rw [List.set_set], ?_, by simp; omega, ?_⟩
      · intro w hw
        rcases List.mem_append.1 hw with hw | hw
        · exact e2 w hw
        · rw [List.mem_singleton.1 hw]; exact p
      · have : n + c * acc.length + c = n + c * (acc ++ [y]).length := by simp [Nat.mul_add]; omega
        rw [← this]; exact R2
  · rintro acc ρ' h' ⟨_, e1, e2, e3, R⟩
    have e3 : acc.length = vs.length := by simpa using e3
    rw [e3] at R
    exact fin acc ρ' h' e1 e2 e3 R
theorem range_ok {j : Int} (h0 : 0 ≤ j) (h1 : j < 1000000) : -(2 ^ 62) ≤ j ∧ j < 2 ^ 62 := by omega
theorem rng_some {j : Int} (h0 : 0 ≤ j) (h1 : j < 1000000) : rng [.int j] = some ((List.range j.toNat).map fun k => .int (k : Nat)) := by
  rw [rng_eq, if_pos (range_ok h0 h1)]
theorem mem_set_or {α : Type} {vs : List α} {j : Nat} {x w : α} (h : w ∈ vs.set j x) : w ∈ vs ∨ w = x := by
  rcases List.mem_or_eq_of_mem_set h with h | h
  · exact .inl h
  · exact .inr h
/-- data that `==` tells: how deep at most -/
def dat (k : Nat) (v : Val) : Prop := ∃ d, toD v = some d ∧ d.canLay0 = true ∧ d.depth ≤ k
def dats (k : Nat) (vs : List Val) : Prop := ∃ ds, toDs vs = some ds ∧ PyData.canLayAll0 ds = true ∧ PyData.depthAll ds ≤ k
theorem dats_of {k : Nat} : ∀ {vs : List Val}, (∀ v ∈ vs, dat k v) → dats k vs
  | [], _ => ⟨[], rfl, rfl, Nat.zero_le _⟩
  | v :: r, h => by
    obtain ⟨d, e1, c1, k1⟩ := h v (by simp)
    obtain ⟨ds, e2, c2, k2⟩ := dats_of (vs := r) fun w hw => h w (by simp [hw])
    refine ⟨d :: ds, by simp [toDs, e1, e2], ?_, ?_⟩
    · rw [PyData.canLayAll0]; simp [c1, c2]
    · rw [PyData.depthAll]; omega
theorem dat_int {i : Int} {k : Nat} : dat k (.int i) := ⟨_, rfl, rfl, Nat.zero_le _⟩
theorem dat_bl {i : Bool} {k : Nat} : dat k (.bl i) := ⟨_, rfl, rfl, Nat.zero_le _⟩
theorem dat_non {k : Nat} : dat k .non := ⟨_, rfl, rfl, Nat.zero_le _⟩
theorem dat_str {s : Str} {k : Nat} (h : PyData.strOk s = true) : dat k (.str s) := ⟨_, rfl, by rw [PyData.canLay0]; exact h, Nat.zero_le _⟩
theorem dat_lst {vs : List Val} {k : Nat} (h : ∀ v ∈ vs, dat k v) : dat (k + 1) (.lst vs) := by
  obtain ⟨ds, e, c, l⟩ := dats_of h
  exact ⟨.list ds, by simp [toD, e], by rw [PyData.canLay0]; exact c, by rw [PyData.depth]; omega⟩
theorem dat_tup {vs : List Val} {k : Nat} (h : ∀ v ∈ vs, dat k v) : dat (k + 1) (.tup vs) := by
  obtain ⟨ds, e, c, l⟩ := dats_of h
  exact ⟨.tuple ds, by simp [toD, e], by rw [PyData.canLay0]; exact c, by rw [PyData.depth]; omega⟩
theorem dat.mono {v : Val} {k j : Nat} (h : dat k v) (l : k ≤ j) : dat j v := by obtain ⟨d, e, c, q⟩ := h; exact ⟨d, e, c, by omega⟩
theorem dat.shaped {v : Val} {k : Nat} (h : dat k v) (l : k ≤ 64 := by decide) : ∃ d, toD v = some d ∧ SeqAt.shaped d = true := by
  obtain ⟨d, e, c, q⟩ := h
  exact ⟨d, e, by unfold SeqAt.shaped; simp [c]; omega⟩
theorem fNe_nil {vs : List Val} {k : Nat} (h : ∀ v ∈ vs, dat k v) (l : k ≤ 63 := by decide) : fNe (.lst vs) (.lst []) = some (.bl (!vs.isEmpty)) := by
  obtain ⟨d, e, s⟩ := (dat_lst h).shaped (by omega)
  unfold fNe eqD
  rw [e, show toD (.lst []) = some (.list []) from rfl]
  dsimp only
  rw [s, show SeqAt.shaped (.list []) = true from rfl]
  cases vs with
  | nil => simp [toD, toDs] at e; subst e; rfl
  | cons v r =>
    simp only [toD, toDs, Option.map_eq_some_iff] at e
    obtain ⟨ds, e, rfl⟩ := e
    split at e
    · cases e; rfl
    · cases e
theorem get_of_set {ρ' : MEnv} {i j : Nat} (e : ∀ x, ρ'.set i x = ρ.set i x) (h : i ≠ j) : ρ'[j]? = ρ[j]? := by
  have := congrArg (fun l : List SV => l[j]?) (e .un)
  simpa [List.getElem?_set, h] using this
theorem one_strOk {q : Nat} (h : q < 1114112) : PyData.strOk ⟨#[q]⟩ = true := by simp [PyData.strOk, h]
@[simp] theorem fEqX_ii {i j : Int} : fEqX (.int i) (.int j) = some (.bl (i == j)) := rfl
def sing (v : Val) : Prop := ∃ q, q < 1114112 ∧ v = .str ⟨#[q]⟩
theorem sing.dat {v : Val} (h : sing v) : dat 0 v := by obtain ⟨q, l, rfl⟩ := h; exact dat_str (one_strOk l)
theorem sing_strs : ∀ {vs : List Val}, (∀ v ∈ vs, sing v) → ∃ ys, strs' vs = some ys ∧ ys.length = vs.length ∧ (ys.map (·.length)).sum = vs.length
  | [], _ => ⟨[], rfl, rfl, rfl⟩
  | v :: r, h => by
    obtain ⟨q, _, rfl⟩ := h v (by simp)
    obtain ⟨ys, e, l, s⟩ := sing_strs (vs := r) fun w hw => h w (by simp [hw])
    refine ⟨⟨#[q]⟩ :: ys, by simp [strs', e], by simp [l], ?_⟩
    rw [List.map_cons, List.sum_cons, s, List.length_cons]
    show 1 + r.length = _
    omega
theorem join_sing {vs : List Val} (h : ∀ v ∈ vs, sing v) (l : vs.length ≤ 100) : ∃ s, vJoin (.str (Str.ofString "")) (.lst vs) = some (.str s) ∧ s.length ≤ 1000 := by
  obtain ⟨ys, e, l1, s1⟩ := sing_strs h
  have e0 : (Str.ofString "").length = 0 := by decide +kernel
  refine ⟨Txt.join (Str.ofString "") ys, ?_, ?_⟩
  · unfold vJoin
    simp only [e, Option.bind_some]
    rw [if_pos]
    rw [s1, e0]; omega
  · have := PyProof.Rows.len_join_le (sep := Str.ofString "") (ys := ys) (n := 200) (by unfold PyProof.Rows.Weighs; rw [s1, l1]; omega) (by rw [e0]; omega)
    omega
@[simp] theorem wp_nDict0 {Q : Cell → MEnv → MHp → Prop} : Wp nDict0 ρ h Q ↔ Q (.dct []) ρ h := by rfl
@[simp] theorem wp_pairs_nil {Q : List (Val × Val) → MEnv → MHp → Prop} : Wp (mPairs []) ρ h Q ↔ Q [] ρ h := Iff.rfl
@[simp] theorem wp_pairs_cons {a b : EM Val} {r : List (EM Val × EM Val)} {Q : List (Val × Val) → MEnv → MHp → Prop} : Wp (mPairs ((a, b) :: r)) ρ h Q ↔ Wp a ρ h fun k ρ1 h1 => Wp b ρ1 h1 fun v ρ2 h2 => Wp (mPairs r) ρ2 h2 fun ps ρ3 h3 => Q ((k, v) :: ps) ρ3 h3 := by simp [mPairs]
@[simp] theorem wp_disp {ps : List (EM Val × EM Val)} {Q : Cell → MEnv → MHp → Prop} : Wp (mDisp ps) ρ h Q ↔ Wp (mPairs ps) ρ h fun kvs ρ1 h1 => (kvs.length ≤ 15 ∧ kvs.all (fun kv => isKey kv.1) = true) ∧ Q (.dct (kvs.foldl (fun acc kv => putD acc kv.1 kv.2) [])) ρ1 h1 := by
  simp only [mDisp, wp_bind, wp_lift]
  constructor <;> refine fun p => p.mono fun kvs ρ1 h1 q => ?_
  · obtain ⟨c, e, q⟩ := q
    split at e
    · cases e; exact ⟨by assumption, q⟩
    · cases e
  · exact ⟨_, if_pos q.1, q.2⟩
@[simp] theorem isKey_int {i : Int} : isKey (.int i) = true := rfl
@[simp] theorem isKey_str {i : Str} : isKey (.str i) = true := rfl
@[simp] theorem fAdd_ll {a b : List Val} : fAdd (.lst a) (.lst b) = if a.length + b.length ≤ sizeLine then some (.lst (a ++ b)) else none := rfl
@[simp] theorem fAdd_ss {a b : Str} : fAdd (.str a) (.str b) = if a.length + b.length ≤ sizeLine then some (.str (a ++ b)) else none := rfl
end
end Mir

set_option Elab.async false
set_option linter.all false
set_option maxRecDepth 100000
set_option maxHeartbeats 4000000
namespace K01
open PySem Mir
def m_is_name : List Val → MHp → RE Val := mFun 1 2
  (sRet (mAndV (mIsTy "str" (mVar 0)) (mAndV (mChain fLe fLe (mC (.int (1))) (mCB (f1 vLen) (mCons (mVar 0) mNil)) (mC (.int (8)))) (mCB (f1 vAll) (mCons (mKnow (mCompN (mSeq (mVar 0)) (gmName 1) (EM.pure true) (mOp fIn (mVar 1) (mC (.str "abcdefghijklmnopqrstuvwxyz"))) [1])) mNil)))))
def m_is_number : List Val → MHp → RE Val := mFun 1 1
  (sRet (mAndV (mIsTy "int" (mVar 0)) (mNotV (mIsTy "bool" (mVar 0)))))
def m_is_integer : List Val → MHp → RE Val := mFun 1 1
  (sRet (mAndV (mCall m_is_number [] (mCons (mVar 0) mNil)) (mChain fLe fLe (mC (.int (-99999999999999999999))) (mVar 0) (mC (.int (99999999999999999999))))))
def m_is_term : List Val → MHp → RE Val := mFun 1 1
  (sRet (mOrV (mCall m_is_integer [] (mCons (mVar 0) mNil)) (mCall m_is_name [] (mCons (mVar 0) mNil))))
def m_is_row : List Val → MHp → RE Val := mFun 1 2
  (sRet (mAndV (mIsTy "tuple" (mVar 0)) (mAndV (mChain fLe fLe (mC (.int (1))) (mCB (f1 vLen) (mCons (mVar 0) mNil)) (mC (.int (4)))) (mCB (f1 vAll) (mCons (mKnow (mCompN (mSeq (mVar 0)) (gmName 1) (EM.pure true) (mCall m_is_integer [] (mCons (mVar 1) mNil)) [1])) mNil)))))
abbrev m_law_dice : List Val → MHp → RE Val := diceM
abbrev m_law_roll : List Val → MHp → RE Val := rollM
abbrev m_law_pick : List Val → MHp → RE Val := pickM
def m_law_signs : List Val → MHp → RE Val := mFun 0 1
  (sSeq (sSet 0 (mC (.str " !\"#$&'()*+,-./0123456789:;<=>?\x40[\\]^_`{|}~\n"))) (sRet (mOp fAdd (mVar 0) (mC (.str "ABCDEFGHIJKLMNOPQRSTUVWXYZ")))))
def m_law_string : List Val → MHp → RE Val := mFun 1 3
  (sSeq (sOwn 1 (mCompN (mRange1 (mCons (mCall m_law_roll [] (mCons (mVar 0) (mCons (mC (.int (10))) mNil))) mNil)) (gmName 2) (EM.pure true) (mOp fIx (mC (.str "abcdefghijklmnopqrstuvwxyz")) (mCall m_law_roll [] (mCons (mVar 0) (mCons (mC (.int (26))) mNil)))) [2])) (sSeq (sIf (mAnd (mTest (mIxB fNe 1 (mLst mNil))) (mTest (mOp fEqX (mCall m_law_roll [] (mCons (mVar 0) (mCons (mC (.int (3))) mNil))) (mC (.int (0)))))) (sSetItem 1 (mCall m_law_roll [] (mCons (mVar 0) (mCons (mCB1 (f1 vLen) 1) mNil))) (mCall m_law_pick [] (mCons (mVar 0) (mCons (mCall m_law_signs [] mNil) mNil)))) sSkip) (sRet (mM1B vJoin (mC (.str "")) 1))))
def m_law_integer : List Val → MHp → RE Val := mFun 1 3
  (sSeq (sSet 1 (mLst (mCons (mC (.int (0))) (mCons (mC (.int (1))) (mCons (mOp fSub (mOp fPow (mC (.int (10))) (mC (.int (20)))) (mC (.int (1)))) (mCons (mOp fPow (mC (.int (10))) (mC (.int (20)))) (mCons (mOp fAdd (mOp fPow (mC (.int (10))) (mC (.int (20)))) (mC (.int (1)))) (mCons (mOp fSub (mOp fPow (mC (.int (10))) (mC (.int (40)))) (mC (.int (1)))) (mCons (mCall m_law_roll [] (mCons (mVar 0) (mCons (mOp fPow (mC (.int (10))) (mC (.int (20)))) mNil))) (mCons (mCall m_law_roll [] (mCons (mVar 0) (mCons (mC (.int (9))) mNil))) mNil)))))))))) (sSeq (sSet 2 (mCall m_law_pick [] (mCons (mVar 0) (mCons (mVar 1) mNil)))) (sRet (mIf (mTest (mOp fEqX (mCall m_law_roll [] (mCons (mVar 0) (mCons (mC (.int (2))) mNil))) (mC (.int (0))))) (mVar 2) (mOp fSub (mC (.int (0))) (mVar 2))))))
def m_law_tuple : List Val → MHp → RE Val := mFun 1 4
  (sSeq (sOwn 1 (mCompN (mRange1 (mCons (mCall m_law_roll [] (mCons (mVar 0) (mCons (mC (.int (6))) mNil))) mNil)) (gmName 2) (EM.pure true) (mCall m_law_integer [] (mCons (mVar 0) mNil)) [2])) (sSeq (sIf (mAnd (mTest (mIxB fNe 1 (mLst mNil))) (mTest (mOp fEqX (mCall m_law_roll [] (mCons (mVar 0) (mCons (mC (.int (2))) mNil))) (mC (.int (0)))))) (sSeq (sSet 3 (mCall m_law_pick [] (mCons (mVar 0) (mCons (mLst (mCons (mC (.bl true)) (mCons (mC (.bl false)) (mCons (mC .non) (mCons (mC (.str "a")) (mCons (mC (.str "1")) (mCons (mTup (mCons (mC (.int (1))) mNil)) (mCons (mLst (mCons (mC (.int (1))) mNil)) (mCons (mKnow nDict0) (mCons (mTup mNil) (mCons (mOp fPow (mC (.int (10))) (mC (.int (20)))) mNil))))))))))) mNil)))) (sSetItem 1 (mCall m_law_roll [] (mCons (mVar 0) (mCons (mCB1 (f1 vLen) 1) mNil))) (mVar 3))) sSkip) (sRet (mCB1 (f1 vTuple) 1))))
def m_law_value : List Val → MHp → RE Val := mFun 1 2
  (sSeq (sSet 1 (mCall m_law_roll [] (mCons (mVar 0) (mCons (mC (.int (8))) mNil)))) (sSeq (sIf (mTest (mOp fLt (mVar 1) (mC (.int (2))))) (sRet (mCall m_law_string [] (mCons (mVar 0) mNil))) sSkip) (sSeq (sIf (mTest (mOp fLt (mVar 1) (mC (.int (4))))) (sRet (mCall m_law_integer [] (mCons (mVar 0) mNil))) sSkip) (sSeq (sIf (mTest (mOp fLt (mVar 1) (mC (.int (6))))) (sRet (mCall m_law_tuple [] (mCons (mVar 0) mNil))) sSkip) (sSeq (sIf (mTest (mOp fEqX (mVar 1) (mC (.int (6))))) (sRet (mCB (f1 vList) (mCons (mCall m_law_tuple [] (mCons (mVar 0) mNil)) mNil))) sSkip) (sRet (mCall m_law_pick [] (mCons (mVar 0) (mCons (mLst (mCons (mC .non) (mCons (mC (.bl true)) (mCons (mC (.bl false)) (mCons (mKnow nDict0) (mCons (mKnow (mDisp (((mC (.str "a")), (mC (.int (1)))) :: []))) (mCons (mLst mNil) (mCons (mLst (mCons (mC (.str "a")) mNil)) (mCons (mTup (mCons (mC (.str "a")) (mCons (mC (.str "b")) mNil))) (mCons (mTup (mCons (mTup (mCons (mC (.int (1))) (mCons (mC (.int (2))) mNil))) mNil)) (mCons (mLst (mCons (mLst (mCons (mC (.int (1))) mNil)) mNil)) (mCons (mKnow (mDisp (((mC (.int (1))), (mC (.int (2)))) :: []))) mNil)))))))))))) mNil)))))))))
def m_law_like_name : List Val → MHp → RE Val := mFun 1 2
  (sSeq (sIf (mOr (mNot (mTru (mIsTy "str" (mVar 0)))) (mOr (mTest (mOp fLt (mCB (f1 vLen) (mCons (mVar 0) mNil)) (mC (.int (1))))) (mTest (mOp fGt (mCB (f1 vLen) (mCons (mVar 0) mNil)) (mC (.int (8))))))) (sRet (mC (.bl false))) sSkip) (sRet (mOp fEqX (mKnow (mCompN (mSeq (mVar 0)) (gmName 1) (mTest (mOp fNotIn (mVar 1) (mC (.str "abcdefghijklmnopqrstuvwxyz")))) (mVar 1) [1])) (mLst mNil))))
def m_law_like_integer : List Val → MHp → RE Val := mFun 1 1
  (sRet (mAndV (mIsTy "int" (mVar 0)) (mAndV (mNotV (mIsTy "bool" (mVar 0))) (mOp fLt (mCB (f1 vLen) (mCons (mCB (f1 vStr) (mCons (mCB (f1 vAbs) (mCons (mVar 0) mNil)) mNil)) mNil)) (mC (.int (21)))))))
def m_law_like_row : List Val → MHp → RE Val := mFun 1 2
  (sSeq (sIf (mOr (mNot (mTru (mIsTy "tuple" (mVar 0)))) (mOr (mTest (mOp fLt (mCB (f1 vLen) (mCons (mVar 0) mNil)) (mC (.int (1))))) (mTest (mOp fGt (mCB (f1 vLen) (mCons (mVar 0) mNil)) (mC (.int (4))))))) (sRet (mC (.bl false))) sSkip) (sRet (mOp fEqX (mKnow (mCompN (mSeq (mVar 0)) (gmName 1) (mNot (mTru (mCall m_law_like_integer [] (mCons (mVar 1) mNil)))) (mVar 1) [1])) (mLst mNil))))
def m_law_right : List Val → MHp → RE Val := mFun 1 6
  (sSeq (sPar 1 2 (mCons (mCall m_law_like_name [] (mCons (mVar 0) mNil)) (mCons (mCall m_law_like_integer [] (mCons (mVar 0) mNil)) mNil))) (sSeq (sSet 3 (mLst (mCons (mVar 1) (mCons (mVar 2) (mCons (mOrV (mVar 1) (mVar 2)) (mCons (mCall m_law_like_row [] (mCons (mVar 0) mNil)) mNil)))))) (sSeq (sSet 4 (mLst (mCons (mCall m_is_name [] (mCons (mVar 0) mNil)) (mCons (mCall m_is_integer [] (mCons (mVar 0) mNil)) (mCons (mCall m_is_term [] (mCons (mVar 0) mNil)) (mCons (mCall m_is_row [] (mCons (mVar 0) mNil)) mNil)))))) (sRet (mAndV (mOp fEqX (mKnow (mCompN (mSeq (mVar 4)) (gmName 5) (EM.pure true) (mOp fIs (mVar 5) (mC (.bl true))) [5])) (mVar 3)) (mOp fEqX (mKnow (mCompN (mSeq (mVar 4)) (gmName 5) (EM.pure true) (mOp fIs (mVar 5) (mC (.bl false))) [5])) (mKnow (mCompN (mSeq (mVar 3)) (gmName 5) (EM.pure true) (mNotV (mVar 5)) [5]))))))))
def m_law : List Val → MHp → RE Val := mFun 1 6
  (sSeq (sFor (mRange1 (mCons (mCB (f2 vMax2) (mCons (mC (.int (1))) (mCons (mCB (f2 vMin2) (mCons (mC (.int (10))) (mCons (mCB (f1 vLen) (mCons (mVar 0) mNil)) mNil))) mNil))) mNil)) (gmName 1) (sSeq (sSet 2 (mCall m_law_dice [] (mCons (mVar 0) (mCons (mVar 1) mNil)))) (sFor (mRange1 (mCons (mC (.int (6))) mNil)) (gmName 3) (sIf (mNot (mTru (mCall m_law_right [] (mCons (mCall m_law_value [] (mCons (mVar 2) mNil)) mNil)))) (sRet (mC (.bl false))) sSkip)))) (sSeq (sSet 4 (mLst (mCons (mC (.str "")) (mCons (mC (.str "a")) (mCons (mC (.str "abcdefgh")) (mCons (mC (.str "abcdefghi")) (mCons (mC (.str "aB")) (mCons (mC (.str "\n")) (mCons (mC (.str "a b")) (mCons (mOp fSub (mOp fPow (mC (.int (10))) (mC (.int (20)))) (mC (.int (1)))) (mCons (mOp fSub (mC (.int (1))) (mOp fPow (mC (.int (10))) (mC (.int (20))))) (mCons (mOp fSub (mC (.int (0))) (mOp fPow (mC (.int (10))) (mC (.int (20))))) (mCons (mC (.bl true)) mNil))))))))))))) (sSeq (sSet 4 (mOp fAdd (mVar 4) (mLst (mCons (mTup (mCons (mC (.int (1))) mNil)) (mCons (mTup (mCons (mC (.int (1))) (mCons (mC (.int (2))) (mCons (mC (.int (3))) (mCons (mC (.int (4))) mNil))))) (mCons (mTup (mCons (mC (.int (1))) (mCons (mC (.int (2))) (mCons (mC (.int (3))) (mCons (mC (.int (4))) (mCons (mC (.int (5))) mNil)))))) (mCons (mTup mNil) (mCons (mTup (mCons (mC (.bl true)) mNil)) (mCons (mTup (mCons (mC (.int (0))) (mCons (mOp fPow (mC (.int (10))) (mC (.int (20)))) mNil))) (mCons (mTup (mCons (mC (.int (0))) (mCons (mOp fSub (mC (.int (1))) (mOp fPow (mC (.int (10))) (mC (.int (20))))) mNil))) mNil)))))))))) (sSeq (sSet 4 (mOp fAdd (mVar 4) (mLst (mCons (mLst (mCons (mC (.int (1))) mNil)) (mCons (mTup (mCons (mTup (mCons (mC (.int (1))) mNil)) mNil)) (mCons (mC .non) mNil)))))) (sRet (mOp fEqX (mKnow (mCompN (mSeq (mVar 4)) (gmName 5) (mNot (mTru (mCall m_law_right [] (mCons (mVar 5) mNil)))) (mVar 5) [5])) (mLst mNil)))))))
end K01

set_option Elab.async false
set_option linter.all false
set_option maxRecDepth 100000
set_option maxHeartbeats 4000000
namespace K01
open PySem L2 Mir
/-- values that the law makes, items of tuples -/
def flat : Val → Prop
  | .int i => i.natAbs.log2 < 1900
  | .str s => s.length ≤ 1000
  | .fz _ => False
  | .obj _ _ => False
  | .ref _ => False
  | .tup vs => vs.length ≤ 1000
  | .lst vs => vs.length ≤ 1000
  | _ => True
def nice (v : Val) : Prop := flat v ∧ ∀ vs, v = .tup vs → ∀ w ∈ vs, flat w
def intB : Val → Bool
  | .int _ => true
  | _ => false
def intOk : Val → Bool
  | .int i => decide (-99999999999999999999 ≤ i) && decide (i ≤ 99999999999999999999)
  | _ => false
def letB (v : Val) : Bool := match v with
  | .str s => !(Builtin.Str.occurrences "abcdefghijklmnopqrstuvwxyz" s 0 ("abcdefghijklmnopqrstuvwxyz" : Str).length 1).isEmpty
  | _ => false
def nameOk : Val → Bool
  | .str s => decide (1 ≤ s.length) && decide (s.length ≤ 8) && s.cps.toList.all fun q => letB (.str ⟨#[q]⟩)
  | _ => false
def rowOk : Val → Bool
  | .tup vs => decide (1 ≤ vs.length) && decide (vs.length ≤ 4) && vs.all intOk
  | _ => false
theorem ty1 : kitB "NoneType" "int" = some false := by decide +kernel
theorem ty2 : kitB "bool" "int" = some true := by decide +kernel
theorem ty3 : kitB "int" "int" = some true := by decide +kernel
theorem ty4 : kitB "str" "int" = some false := by decide +kernel
theorem ty5 : kitB "tuple" "int" = some false := by decide +kernel
theorem ty6 : kitB "list" "int" = some false := by decide +kernel
theorem ty7 : kitB "dict" "int" = some false := by decide +kernel
theorem tb2 : kitB "bool" "bool" = some true := by decide +kernel
theorem tb3 : kitB "int" "bool" = some false := by decide +kernel
theorem ts1 : kitB "NoneType" "str" = some false := by decide +kernel
theorem ts2 : kitB "bool" "str" = some false := by decide +kernel
theorem ts3 : kitB "int" "str" = some false := by decide +kernel
theorem ts4 : kitB "str" "str" = some true := by decide +kernel
theorem ts5 : kitB "tuple" "str" = some false := by decide +kernel
theorem ts6 : kitB "list" "str" = some false := by decide +kernel
theorem ts7 : kitB "dict" "str" = some false := by decide +kernel
theorem tt1 : kitB "NoneType" "tuple" = some false := by decide +kernel
theorem tt2 : kitB "bool" "tuple" = some false := by decide +kernel
theorem tt3 : kitB "int" "tuple" = some false := by decide +kernel
theorem tt4 : kitB "str" "tuple" = some false := by decide +kernel
theorem tt5 : kitB "tuple" "tuple" = some true := by decide +kernel
theorem tt6 : kitB "list" "tuple" = some false := by decide +kernel
theorem tt7 : kitB "dict" "tuple" = some false := by decide +kernel
theorem is_number_spec {v : Val} {h : MHp} (hv : flat v) : WpF (m_is_number [v] h) fun x h' => x = .bl (intB v) ∧ h' = h := by
  unfold m_is_number
  rw [wpF_fun]
  cases v <;> first | exact hv.elim | simp [fIsTy, ty1, ty2, ty3, ty4, ty5, ty6, ty7, tb2, tb3, intB]
theorem is_integer_spec {v : Val} {h : MHp} (hv : flat v) : WpF (m_is_integer [v] h) fun x h' => x = .bl (intOk v) ∧ h' = h := by
  unfold m_is_integer
  rw [wpF_fun]
  simp
  refine (is_number_spec hv).mono ?_
  rintro x h' ⟨rfl, rfl⟩
  cases v <;> first | exact hv.elim | skip
  all_goals simp [intB, intOk, mChain]
  rename_i i
  by_cases h1 : -99999999999999999999 ≤ i
  · have h1' : ¬ i < -99999999999999999999 := by omega
    simp [h1, h1']
  · have h1' : i < -99999999999999999999 := by omega
    simp [h1, h1']
theorem like_integer_spec {v : Val} {h : MHp} (hv : flat v) : WpF (m_law_like_integer [v] h) fun x h' => x = .bl (intOk v) ∧ h' = h := by
  unfold m_law_like_integer
  rw [wpF_fun]
  cases v <;> first | exact hv.elim | simp [fIsTy, ty1, ty2, ty3, ty4, ty5, ty6, ty7, tb2, tb3, intOk]
  rename_i i
  simp only [flat] at hv
  simp only [abs_eq, repr_nat, Int.natAbs_natCast, and_assoc]
  have hz : (Str.ofString i.natAbs.repr).length ≤ sizeLine := by
    rw [PySem.ofString_length]
    have := PySem.nat_repr_length_le (n := i.natAbs) (k := 1900) (by decide) (Nat.lt_of_lt_of_le (Nat.lt_log2_self) (Nat.pow_le_pow_right (by decide) hv))
    exact Nat.le_trans this (by decide)
  refine ⟨_, by omega, rfl, _, by rw [vLen_str, if_pos hz], ?_⟩
  simp only [fCmp_ii, Option.some.injEq, Val.bl.injEq]
  have := nlen (n := i.natAbs) (k := 20) (by decide)
  rw [Bool.eq_iff_iff]
  simp only [decide_eq_true_eq, Bool.and_eq_true]
  omega
theorem str_single {s : Str} : (s.cps.toList.map fun q => Val.str ⟨#[q]⟩).all letB = s.cps.toList.all fun q => letB (.str ⟨#[q]⟩) := by
  rw [List.all_map]; rfl
theorem is_name_spec {v : Val} {h : MHp} (hv : flat v) : WpF (m_is_name [v] h) fun x h' => x = .bl (nameOk v) ∧ h' = h := by
  unfold m_is_name
  rw [wpF_fun]
  cases v <;> first | exact hv.elim | simp [fIsTy, ts1, ts2, ts3, ts4, ts5, ts6, ts7, nameOk]
  rename_i s
  simp only [flat] at hv
  have hz : s.length ≤ sizeLine := Nat.le_trans hv (by decide)
  simp [hz]
  by_cases h1 : 1 ≤ s.length
  · by_cases h2 : s.length ≤ 8
    · have h1' : ¬ (s.length : Int) < 1 := by omega
      have h2' : ¬ 8 < (s.length : Int) := by omega
      have h3' : (1 : Int) ≤ s.length := by omega
      have h4' : (s.length : Int) ≤ 8 := by omega
      simp [h1, h2, h1', h2', h3', h4']
      refine wp_comp1 (fun _ => true) (fun v => .bl (letB v)) _ _ ?_ ?_ ?_ ?_
      · simp [Str.length] at *; omega
      · intro v hv; simp
      · intro v hv _
        obtain ⟨q, _, rfl⟩ := List.mem_map.1 hv
        simp [letB]
      · intro ρ' _
        simp only [List.nil_append, filterT, vAll_map]
        refine ⟨_, rfl, ?_⟩
        rw [str_single]; simp
    · have h1' : ¬ (s.length : Int) < 1 := by omega
      have h2' : 8 < (s.length : Int) := by omega
      have h3' : (1 : Int) ≤ s.length := by omega
      have h4' : ¬ (s.length : Int) ≤ 8 := by omega
      simp [h1, h2, h1', h2', h3', h4']
  · have h1' : (s.length : Int) < 1 := by omega
    have h3' : ¬ (1 : Int) ≤ s.length := by omega
    simp [h1, h1', h3']
theorem like_name_spec {v : Val} {h : MHp} (hv : flat v) : WpF (m_law_like_name [v] h) fun x h' => x = .bl (nameOk v) ∧ h' = h := by
  unfold m_law_like_name
  rw [wpF_fun]
  cases v <;> first | exact hv.elim | simp [fIsTy, ts1, ts2, ts3, ts4, ts5, ts6, ts7, nameOk]
  rename_i s
  simp only [flat] at hv
  have hz : s.length ≤ sizeLine := Nat.le_trans hv (by decide)
  simp [hz]
  by_cases h1 : 1 ≤ s.length
  · by_cases h2 : s.length ≤ 8
    · have h1' : ¬ (s.length : Int) < 1 := by omega
      have h2' : ¬ 8 < (s.length : Int) := by omega
      have h3' : (1 : Int) ≤ s.length := by omega
      have h4' : (s.length : Int) ≤ 8 := by omega
      simp [h1, h2, h1', h2', h3', h4']
      refine wp_comp1 (fun v => !letB v) (fun v => v) _ _ ?_ ?_ ?_ ?_
      · simp [Str.length] at *; omega
      · intro v hv
        obtain ⟨q, _, rfl⟩ := List.mem_map.1 hv
        simp [letB]
        exact (Classical.em _).symm
      · intro v hv _
        simp
      · intro ρ' _
        simp only [List.nil_append, List.map_id', filter_none, fEqX_nil]
        rw [str_single]; simp
    · have h1' : ¬ (s.length : Int) < 1 := by omega
      have h2' : 8 < (s.length : Int) := by omega
      have h3' : (1 : Int) ≤ s.length := by omega
      have h4' : ¬ (s.length : Int) ≤ 8 := by omega
      simp [h1, h2, h1', h2', h3', h4']
  · have h1' : (s.length : Int) < 1 := by omega
    have h3' : ¬ (1 : Int) ≤ s.length := by omega
    simp [h1, h1', h3']
theorem is_term_spec {v : Val} {h : MHp} (hv : flat v) : WpF (m_is_term [v] h) fun x h' => x = .bl (intOk v || nameOk v) ∧ h' = h := by
  unfold m_is_term
  rw [wpF_fun]
  simp
  refine (is_integer_spec hv).mono ?_
  rintro x h' ⟨rfl, rfl⟩
  cases e : intOk v
  · simp
    exact is_name_spec hv
  · simp
theorem is_row_spec {v : Val} {h : MHp} (hv : nice v) : WpF (m_is_row [v] h) fun x h' => x = .bl (rowOk v) ∧ h' = h := by
  unfold m_is_row
  rw [wpF_fun]
  obtain ⟨hv, hw⟩ := hv
  cases v <;> first | exact hv.elim | simp [fIsTy, tt1, tt2, tt3, tt4, tt5, tt6, tt7, rowOk]
  rename_i vs
  simp only [flat] at hv
  have hw := hw vs rfl
  have hz : vs.length ≤ sizeLine := Nat.le_trans hv (by decide)
  by_cases h1 : 1 ≤ vs.length
  · by_cases h2 : vs.length ≤ 4
    · have h1' : ¬ (vs.length : Int) < 1 := by omega
      have h2' : ¬ 4 < (vs.length : Int) := by omega
      have h3' : (1 : Int) ≤ vs.length := by omega
      have h4' : (vs.length : Int) ≤ 4 := by omega
      simp [h1, h2, h1', h2', h3', h4']
      refine wp_comp1 (fun _ => true) (fun v => .bl (intOk v)) _ _ ?_ ?_ ?_ ?_
      · simpa using hz
      · intro v hv; simp
      · intro v hv _
        simp
        refine (is_integer_spec (hw v hv)).mono ?_
        rintro x h' ⟨rfl, rfl⟩
        simp
      · intro ρ' _
        simp only [List.nil_append, filterT, vAll_map]
        refine ⟨_, rfl, ?_⟩
        simp
    · have h1' : ¬ (vs.length : Int) < 1 := by omega
      have h2' : 4 < (vs.length : Int) := by omega
      have h3' : (1 : Int) ≤ vs.length := by omega
      have h4' : ¬ (vs.length : Int) ≤ 4 := by omega
      simp [h1, h2, h1', h2', h3', h4']
  · have h1' : (vs.length : Int) < 1 := by omega
    have h3' : ¬ (1 : Int) ≤ vs.length := by omega
    simp [h1, h1', h3']
theorem like_row_spec {v : Val} {h : MHp} (hv : nice v) : WpF (m_law_like_row [v] h) fun x h' => x = .bl (rowOk v) ∧ h' = h := by
  unfold m_law_like_row
  rw [wpF_fun]
  obtain ⟨hv, hw⟩ := hv
  cases v <;> first | exact hv.elim | simp [fIsTy, tt1, tt2, tt3, tt4, tt5, tt6, tt7, rowOk]
  rename_i vs
  simp only [flat] at hv
  have hw := hw vs rfl
  have hz : vs.length ≤ sizeLine := Nat.le_trans hv (by decide)
  by_cases h1 : 1 ≤ vs.length
  · by_cases h2 : vs.length ≤ 4
    · have h1' : ¬ (vs.length : Int) < 1 := by omega
      have h2' : ¬ 4 < (vs.length : Int) := by omega
      have h3' : (1 : Int) ≤ vs.length := by omega
      have h4' : (vs.length : Int) ≤ 4 := by omega
      simp [h1, h2, h1', h2', h3', h4']
      refine wp_comp1 (fun v => !intOk v) (fun v => v) _ _ ?_ ?_ ?_ ?_
      · simpa using hz
      · intro v hv
        simp
        refine (like_integer_spec (hw v hv)).mono ?_
        rintro x h' ⟨rfl, rfl⟩
        simp
      · intro v hv _
        simp
      · intro ρ' _
        simp only [List.nil_append, List.map_id', filter_none, fEqX_nil]
        simp
    · have h1' : ¬ (vs.length : Int) < 1 := by omega
      have h2' : 4 < (vs.length : Int) := by omega
      have h3' : (1 : Int) ≤ vs.length := by omega
      have h4' : ¬ (vs.length : Int) ≤ 4 := by omega
      simp [h1, h2, h1', h2', h3', h4']
  · have h1' : (vs.length : Int) < 1 := by omega
    have h3' : ¬ (1 : Int) ≤ vs.length := by omega
    simp [h1, h1', h3']
theorem right_spec {v : Val} {h : MHp} (hv : nice v) : WpF (m_law_right [v] h) fun x h' => x = .bl true ∧ h' = h := by
  unfold m_law_right
  rw [wpF_fun]
  simp
  refine (like_name_spec hv.1).mono ?_
  rintro _ _ ⟨rfl, rfl⟩
  refine (like_integer_spec hv.1).mono ?_
  rintro _ _ ⟨rfl, rfl⟩
  have hw := fun h => is_name_spec (h := h) hv.1
  have hx := fun h => is_integer_spec (h := h) hv.1
  have hy := fun h => is_term_spec (h := h) hv.1
  have hz := fun h => is_row_spec (h := h) hv
  have hu := fun h => like_row_spec (h := h) hv
  generalize nameOk v = N at *
  generalize intOk v = I at *
  generalize rowOk v = R at *
  cases N <;> simp [and_assoc]
  all_goals
    refine (hu _).mono ?_
    rintro _ _ ⟨rfl, rfl⟩
    refine ⟨four, ?_⟩
    refine (hw _).mono ?_
    rintro _ _ ⟨rfl, rfl⟩
    refine (hx _).mono ?_
    rintro _ _ ⟨rfl, rfl⟩
    refine (hy _).mono ?_
    rintro _ _ ⟨rfl, rfl⟩
    refine (hz _).mono ?_
    rintro _ _ ⟨rfl, rfl⟩
    refine ⟨four, ?_⟩
    have f0 : 0 < sizeLine := by decide
    have f1 : 1 < sizeLine := by decide
    have f2 : 2 < sizeLine := by decide
    have f3 : 3 < sizeLine := by decide
    simp [wp_comp_cons, wp_comp_nil, eq4, f0, f1, f2, f3]
    cases I <;> cases R <;> simp
end K01

set_option Elab.async false
set_option linter.all false
set_option maxRecDepth 100000
set_option maxHeartbeats 4000000
namespace K01
open PySem L2 Mir
theorem sing_flat {v : Val} (h : sing v) : flat v := by
  obtain ⟨q, _, rfl⟩ := h
  show (#[q] : Array Nat).size ≤ 1000
  simp
theorem signs_spec {h : MHp} : WpF (m_law_signs [] h) fun x h' => (∃ s : Str, x = .str s ∧ 0 < s.length ∧ s.length ≤ 1000 ∧ ∀ q ∈ s.cps.toList, q < 1114112) ∧ h' = h := by
  unfold m_law_signs
  rw [wpF_fun]
  simp
  refine ⟨_, ⟨?_, rfl⟩, _, rfl, ?_, ?_, ?_⟩ <;> decide +kernel
theorem alen : ((PySem.Str.ofString "abcdefghijklmnopqrstuvwxyz").cps.toList).length = 26 := by decide +kernel
theorem aok : ∀ q ∈ (PySem.Str.ofString "abcdefghijklmnopqrstuvwxyz").cps.toList, q < 1114112 := by decide +kernel
theorem slen : (PySem.Str.ofString "abcdefghijklmnopqrstuvwxyz").length ≤ sizeLine := by decide +kernel
theorem string_spec {n a : Nat} {h : MHp} (d : Dice n h a) (hn : n ≤ 1000000) : WpF (m_law_string [.ref a] h) fun x h' => nice x ∧ Rl (n + 50) a h h' := by
  unfold m_law_string
  rw [wpF_fun]
  simp
  refine (roll_spec d (by omega) (by decide) (by decide +kernel)).mono ?_
  rintro x h1 ⟨k, rfl, k0, k1, R1⟩
  refine ⟨_, rng_some k0 (by omega), ?_⟩
  refine wp_comp_roll sing 1 _ R1.d (by simp only [List.length_map, List.length_range]; exact Nat.le_trans (show k.toNat ≤ 10 by omega) (by decide)) ?_ ?_
  · intro v _ m h' hm R
    simp at hm
    simp
    refine (roll_spec R.d (by omega) (by decide) (by decide +kernel)).mono ?_
    rintro x h2 ⟨r, rfl, r0, r1, R2⟩
    obtain ⟨q, e, _, hq⟩ := atI_ok (xs := (PySem.Str.ofString "abcdefghijklmnopqrstuvwxyz").cps.toList) r0 (by rw [alen]; exact_mod_cast r1)
    simp [e, slen]
    exact ⟨⟨q, aok q hq, rfl⟩, R.trans R2⟩
  · intro acc ρ' h2 e1 e2 e3 R2
    simp at e3 R2
    have R := R1.trans R2
    have g0 : ρ'[0]? = _ := get_of_set e1 (by decide)
    have stop : ∀ vs : List Val, (∀ v ∈ vs, sing v) → vs.length ≤ 10 → ∀ h', Rl (n + 50) a h h' → ∃ z, vJoin (Val.str (Str.ofString "")) (Val.lst vs) = some z ∧ nice z ∧ Rl (n + 50) a h h' := by
      intro vs hs hl h' R
      obtain ⟨s, e, l⟩ := join_sing hs (by omega)
      exact ⟨_, e, ⟨l, by simp⟩, R⟩
    simp [e1, cont_eq, fNe_nil fun v hv => (e2 v hv).dat, g0]
    by_cases hnil : acc = []
    · left
      exact ⟨hnil, stop acc e2 (by omega) h2 (R.mono (by omega))⟩
    · right
      refine ⟨hnil, (roll_spec R.d (by omega) (by decide) (by decide +kernel)).mono ?_⟩
      rintro x h3 ⟨r, rfl, r0, r1, R3⟩
      have hp : 0 < acc.length := List.length_pos_iff.2 hnil
      refine ⟨_, fEqX_ii, ?_⟩
      by_cases hr : r = 0
      · right
        refine ⟨by simp [hr], signs_spec.mono ?_⟩
        rintro x h4 ⟨⟨s, rfl, s0, s1, s2⟩, rfl⟩
        refine (pick_str R3.d (by omega) s0 (by omega)).mono ?_
        rintro x h4 ⟨⟨q, hq, rfl⟩, R4⟩
        refine (roll_spec R4.d (by omega) (by omega) (by rw [Int.natAbs_natCast]; exact Nat.lt_of_lt_of_le (log2_lt (k := 64) (by omega)) (by decide))).mono ?_
        rintro x h5 ⟨t, rfl, t0, t1, R5⟩
        simp [ixN_ok t0 t1]
        refine stop _ (fun v hv => ?_) (by simp; omega) h5 ((R.trans (R3.trans (R4.trans R5))).mono (by omega))
        rcases mem_set_or hv with hv | rfl
        · exact e2 v hv
        · exact ⟨q, s2 q hq, rfl⟩
      · left
        refine ⟨by simp [hr], stop acc e2 (by omega) h3 ((R.trans R3).mono (by omega))⟩
end K01

set_option Elab.async false
set_option linter.all false
set_option maxRecDepth 100000
set_option maxHeartbeats 4000000
namespace K01
open PySem L2 Mir
def smallI (v : Val) : Prop := ∃ i : Int, v = .int i ∧ i.natAbs < 2 ^ 200
theorem smallI.flat {v : Val} (h : smallI v) : flat v := by
  obtain ⟨i, rfl, h⟩ := h
  exact Nat.lt_of_lt_of_le (log2_lt h) (by decide)
theorem eight : 8 ≤ sizeLine := by decide
theorem integer_spec {n a : Nat} {h : MHp} (d : Dice n h a) (hn : n ≤ 2000000) : WpF (m_law_integer [.ref a] h) fun x h' => smallI x ∧ Rl (n + 4) a h h' := by
  unfold m_law_integer
  rw [wpF_fun]
  simp [bits10, and_assoc]
  refine (roll_spec d (by omega) (by decide) (by decide +kernel)).mono ?_
  rintro x h1 ⟨r, rfl, r0, r1, R1⟩
  refine (roll_spec R1.d (by omega) (by decide) (by decide +kernel)).mono ?_
  rintro x h2 ⟨t, rfl, t0, t1, R2⟩
  refine ⟨eight, (pick_lst R2.d (by omega) (by simp) (by simp)).mono ?_⟩
  rintro x h3 ⟨hx, R3⟩
  have hs : ∃ i : Int, x = .int i ∧ 0 ≤ i ∧ i < 2 ^ 200 := by
    simp at hx
    rcases hx with rfl | rfl | rfl | rfl | rfl | rfl | rfl | rfl <;> exact ⟨_, rfl, by omega, by omega⟩
  obtain ⟨i, rfl, i0, i1⟩ := hs
  refine (roll_spec R3.d (by omega) (by decide) (by decide +kernel)).mono ?_
  rintro x h4 ⟨u, rfl, u0, u1, R4⟩
  have R := R1.trans (R2.trans (R3.trans R4))
  simp
  by_cases hu : u = 0
  · right
    exact ⟨hu, ⟨i, rfl, by omega⟩, R⟩
  · left
    exact ⟨hu, ⟨-i, rfl, by omega⟩, R⟩
theorem ten : 10 ≤ sizeLine := by decide
theorem tuple_spec {n a : Nat} {h : MHp} (d : Dice n h a) (hn : n ≤ 1000000) : WpF (m_law_tuple [.ref a] h) fun x h' => (∃ vs, x = .tup vs ∧ vs.length ≤ 10 ∧ ∀ v ∈ vs, flat v) ∧ Rl (n + 50) a h h' := by
  unfold m_law_tuple
  rw [wpF_fun]
  simp
  refine (roll_spec d (by omega) (by decide) (by decide +kernel)).mono ?_
  rintro x h1 ⟨k, rfl, k0, k1, R1⟩
  refine ⟨_, rng_some k0 (by omega), ?_⟩
  refine wp_comp_roll smallI 4 _ R1.d (by simp only [List.length_map, List.length_range]; exact Nat.le_trans (show k.toNat ≤ 10 by omega) (by decide)) ?_ ?_
  · intro v _ m h' hm R
    simp at hm
    simp
    refine (integer_spec R.d (by omega)).mono ?_
    rintro x h2 ⟨hx, R2⟩
    exact ⟨hx, R.trans R2⟩
  · intro acc ρ' h2 e1 e2 e3 R2
    simp at e3 R2
    have R := R1.trans R2
    have g0 : ρ'[0]? = _ := get_of_set e1 (by decide)
    have hf : ∀ v ∈ acc, flat v := fun v hv => (e2 v hv).flat
    have hd : ∀ v ∈ acc, dat 0 v := fun v hv => by obtain ⟨i, rfl, _⟩ := e2 v hv; exact dat_int
    simp [e1, cont_eq, fNe_nil hd, g0]
    by_cases hnil : acc = []
    · left
      exact ⟨hnil, ⟨by omega, hf⟩, R.mono (by omega)⟩
    · right
      refine ⟨hnil, (roll_spec R.d (by omega) (by decide) (by decide +kernel)).mono ?_⟩
      rintro x h3 ⟨r, rfl, r0, r1, R3⟩
      have hp : 0 < acc.length := List.length_pos_iff.2 hnil
      refine ⟨_, fEqX_ii, ?_⟩
      by_cases hr : r = 0
      · right
        refine ⟨by simp [hr], by decide, ?_⟩
        simp [bits10, and_assoc]
        refine ⟨ten, (pick_lst R3.d (by omega) (by simp) (by simp)).mono ?_⟩
        rintro x h4 ⟨hx, R4⟩
        have hx : flat x := by
          simp at hx
          rcases hx with rfl | rfl | rfl | rfl | rfl | rfl | rfl | rfl | rfl | rfl <;> first | trivial | (show (_ : Nat) ≤ 1000; decide +kernel) | (show (_ : Nat) < 1900; decide +kernel)
        refine (roll_spec R4.d (by omega) (by omega) (by rw [Int.natAbs_natCast]; exact Nat.lt_of_lt_of_le (log2_lt (k := 64) (by omega)) (by decide))).mono ?_
        rintro x5 h5 ⟨t, rfl, t0, t1, R5⟩
        simp [ixN_ok t0 t1]
        refine ⟨⟨by omega, fun v hv => ?_⟩, (R.trans (R3.trans (R4.trans R5))).mono (by omega)⟩
        rcases mem_set_or hv with hv | rfl
        · exact hf v hv
        · exact hx
      · left
        exact ⟨by simp [hr], ⟨by omega, hf⟩, (R.trans R3).mono (by omega)⟩
theorem tuple_nice {x : Val} (h : ∃ vs, x = .tup vs ∧ vs.length ≤ 10 ∧ ∀ v ∈ vs, flat v) : nice x := by
  obtain ⟨vs, rfl, l, f⟩ := h
  exact ⟨show vs.length ≤ 1000 by omega, fun ws e w hw => by cases e; exact f w hw⟩
theorem nice_of {x : Val} (h : flat x) (h2 : ∀ vs, x ≠ .tup vs) : nice x := ⟨h, fun vs e => absurd e (h2 vs)⟩
theorem eleven : 11 ≤ sizeLine := by decide
theorem value_spec {n a : Nat} {h : MHp} (d : Dice n h a) (hn : n ≤ 900000) : WpF (m_law_value [.ref a] h) fun x h' => nice x ∧ Rl (n + 100) a h h' := by
  unfold m_law_value
  rw [wpF_fun]
  simp
  refine (roll_spec d (by omega) (by decide) (by decide +kernel)).mono ?_
  rintro x h1 ⟨k, rfl, k0, k1, R1⟩
  simp
  by_cases h2 : k < 2
  · right
    refine ⟨h2, (string_spec R1.d (by omega)).mono ?_⟩
    rintro x h2 ⟨hx, R2⟩
    exact ⟨hx, (R1.trans R2).mono (by omega)⟩
  left
  refine ⟨by omega, ?_⟩
  by_cases h2 : k < 4
  · right
    refine ⟨h2, (integer_spec R1.d (by omega)).mono ?_⟩
    rintro x h2 ⟨hx, R2⟩
    refine ⟨nice_of hx.flat ?_, (R1.trans R2).mono (by omega)⟩
    obtain ⟨i, rfl, _⟩ := hx
    simp
  left
  refine ⟨by omega, ?_⟩
  by_cases h2 : k < 6
  · right
    refine ⟨h2, (tuple_spec R1.d (by omega)).mono ?_⟩
    rintro x h2 ⟨hx, R2⟩
    exact ⟨tuple_nice hx, (R1.trans R2).mono (by omega)⟩
  left
  refine ⟨by omega, ?_⟩
  by_cases h2 : k = 6
  · right
    refine ⟨h2, (tuple_spec R1.d (by omega)).mono ?_⟩
    rintro x h2 ⟨⟨vs, rfl, l, f⟩, R2⟩
    simp
    exact ⟨nice_of (show vs.length ≤ 1000 by omega) (by simp), (R1.trans R2).mono (by omega)⟩
  left
  refine ⟨h2, ?_⟩
  refine ⟨by decide, by decide, by decide, eleven, (pick_lst R1.d (by omega) (by simp) (by simp)).mono ?_⟩
  rintro x h2 ⟨hx, R2⟩
  refine ⟨?_, (R1.trans R2).mono (by omega)⟩
  simp at hx
  have ha : flat (.str (Str.ofString "a")) := show (_ : Nat) ≤ 1000 by decide +kernel
  have hb : flat (.str (Str.ofString "b")) := show (_ : Nat) ≤ 1000 by decide +kernel
  rcases hx with rfl | rfl | rfl | rfl | rfl | rfl | rfl | rfl | rfl | rfl | rfl
  · exact nice_of trivial (by simp)
  · exact nice_of trivial (by simp)
  · exact nice_of trivial (by simp)
  · exact nice_of trivial (by simp)
  · exact nice_of trivial (by simp)
  · exact nice_of (show (_ : Nat) ≤ 1000 by decide) (by simp)
  · exact nice_of (show (_ : Nat) ≤ 1000 by decide) (by simp)
  · refine ⟨show (_ : Nat) ≤ 1000 by decide, fun vs e w hw => ?_⟩
    cases e
    simp at hw
    rcases hw with rfl | rfl
    · exact ha
    · exact hb
  · refine ⟨show (_ : Nat) ≤ 1000 by decide, fun vs e w hw => ?_⟩
    cases e
    simp at hw
    subst hw
    exact show (_ : Nat) ≤ 1000 by decide
  · exact nice_of (show (_ : Nat) ≤ 1000 by decide) (by simp)
  · exact nice_of trivial (by simp)
def flatB : Val → Bool
  | .int i => decide (i.natAbs.log2 < 1900)
  | .str s => decide (s.length ≤ 1000)
  | .fz _ => false
  | .obj _ _ => false
  | .ref _ => false
  | .tup vs => decide (vs.length ≤ 1000)
  | .lst vs => decide (vs.length ≤ 1000)
  | _ => true
def niceB (v : Val) : Bool := flatB v && match v with
  | .tup vs => vs.all flatB
  | _ => true
theorem flatB_ok {v : Val} (h : flatB v = true) : flat v := by
  cases v <;> simp [flatB] at h <;> simp [flat, h]
theorem niceB_ok {v : Val} (h : niceB v = true) : nice v := by
  simp only [niceB, Bool.and_eq_true] at h
  refine ⟨flatB_ok h.1, fun vs e w hw => ?_⟩
  subst e
  exact flatB_ok (List.all_eq_true.1 h.2 w hw)
theorem plain (ns : List Int) (hl : ns.length ≤ 63) : ∃ ρ h', m_law [.fz (ns.map .int)] [] = .ok (.bl true) ρ h' := by
  suffices H : WpF (m_law [.fz (ns.map .int)] []) fun x _ => x = .bl true by
    obtain ⟨v, ρ, h', e, rfl⟩ := H.ex
    exact ⟨ρ, h', e⟩
  unfold m_law
  rw [wpF_fun]
  simp [-rng_eq, bits10, and_assoc]
  refine ⟨_, rng_some (by split <;> split <;> omega) (by split <;> split <;> omega), ?_⟩
  refine wp_for_inv (fun r ρ h => (∃ x1 x2 x3, ρ = [.val (.fz (ns.map .int)), x1, x2, x3, .un, .un]) ∧ ∀ v ∈ r, ∃ i : Nat, v = .int i ∧ i ≤ 100) _ ⟨⟨_, _, _, rfl⟩, ?_⟩ ?_ ?_
  · intro v hv
    obtain ⟨i, hi, rfl⟩ := List.mem_map.1 hv
    refine ⟨i, rfl, ?_⟩
    have := List.mem_range.1 hi
    revert this
    split <;> split <;> omega
  · rintro v r ρ h ⟨⟨x1, x2, x3, rfl⟩, hv⟩
    obtain ⟨i, rfl, hi⟩ := hv v (by simp)
    refine ⟨_, rfl, ?_⟩
    simp [-rng_eq]
    refine (dice_spec (by omega)).mono ?_
    rintro x h1 ⟨rfl, _, D, _⟩
    refine ⟨_, rng_some (by omega) (by omega), ?_⟩
    refine wp_for_inv (fun q ρ h1 => (∃ x3, ρ = [.val (.fz (ns.map .int)), .val (.int i), .val (.ref h.length), x3, .un, .un]) ∧ q.length ≤ 6 ∧ Dice (100 * (6 - q.length)) h1 h.length) _ ⟨⟨_, rfl⟩, by simp, by simpa using D⟩ ?_ ?_
    · rintro w q ρ h2 ⟨⟨x3, rfl⟩, hq, D⟩
      simp only [List.length_cons] at hq
      refine ⟨_, rfl, ?_⟩
      simp
      refine (value_spec D (by omega)).mono ?_
      rintro y h3 ⟨hy, R⟩
      refine (right_spec hy).mono ?_
      rintro z h4 ⟨rfl, rfl⟩
      simp
      exact ⟨by omega, R.d.mono (by simp only [List.length_cons]; omega)⟩
    · rintro ρ h2 ⟨⟨x3, rfl⟩, _, _⟩
      simp
      exact fun v hw => hv v (by simp [hw])
  · rintro ρ h ⟨⟨x1, x2, x3, rfl⟩, _⟩
    simp [bits10, and_assoc]
    refine ⟨eleven, by decide, four, by decide, by decide, by decide, by decide, by decide, by decide, by decide, by decide, ?_⟩
    refine wp_comp1 (fun _ => false) (fun v => v) _ _ (by decide) ?_ ?_ ?_
    · intro v hv
      simp
      refine (right_spec (niceB_ok ?_)).mono ?_
      · refine List.all_eq_true.1 ?_ v hv
        decide +kernel
      · rintro x h' ⟨rfl, rfl⟩
        simp
    · intro v _ e
      cases e
    · intro ρ' _
      simp
end K01

set_option Elab.async false
set_option linter.all false
set_option maxRecDepth 100000
set_option maxHeartbeats 4000000
namespace K01
open PySem PySem.Spec PyProof.Rows L2 Mir
def topS (i : Nat) : Stmt := PySem.Challenge.pw_gonewithin_k01_names_integers_terms_rows.main.body.getD i (.Pass ⟨0, 0, 0, 0⟩)
abbrev s_is_name : Stmt := topS 6
abbrev s_is_number : Stmt := topS 7
abbrev s_is_integer : Stmt := topS 8
abbrev s_is_term : Stmt := topS 9
abbrev s_is_row : Stmt := topS 10
abbrev s_law_dice : Stmt := topS 12
abbrev s_law_roll : Stmt := topS 13
abbrev s_law_pick : Stmt := topS 14
abbrev s_law_signs : Stmt := topS 15
abbrev s_law_string : Stmt := topS 16
abbrev s_law_integer : Stmt := topS 17
abbrev s_law_tuple : Stmt := topS 18
abbrev s_law_value : Stmt := topS 19
abbrev s_law_like_name : Stmt := topS 20
abbrev s_law_like_integer : Stmt := topS 21
abbrev s_law_like_row : Stmt := topS 22
abbrev s_law_right : Stmt := topS 23
abbrev s_law : Stmt := topS 24
/-- what the top leaves -/
structure Tx (mg : Str → Option Value) : Prop where
  n_abs : mg "abs" = none
  n_all : mg "all" = none
  n_bool : mg "bool" = none
  n_int : mg "int" = none
  n_isinstance : mg "isinstance" = none
  n_len : mg "len" = none
  n_list : mg "list" = none
  n_max : mg "max" = none
  n_min : mg "min" = none
  n_range : mg "range" = none
  n_str : mg "str" = none
  n_tuple : mg "tuple" = none
  g_MAX_LETTERS : ∃ t, mg "MAX_LETTERS" = some (.int (8) t)
  g_LETTERS : ∃ t, mg "LETTERS" = some (.str "abcdefghijklmnopqrstuvwxyz" t)
  g_LEAST : ∃ t, mg "LEAST" = some (.int (-99999999999999999999) t)
  g_GREATEST : ∃ t, mg "GREATEST" = some (.int (99999999999999999999) t)
  g_MAX_COLUMNS : ∃ t, mg "MAX_COLUMNS" = some (.int (4) t)
theorem hu65 {k : Nat} {A : Around} (r : Room k A) : A.units + 65 < cLine := by have := r.un; omega
section
variable {P : Program} {w : World} {K : PySem.W.Frag} {mg : Str → Option Value} {base : Heap} {c : Mir.Ctx}
theorem pm_g_MAX_LETTERS {X : Cx} {K : PySem.W.Frag} {E : WX} {pos : Pos} (T : Tx X.mg) (hK : X.K = K := by rfl) (hg : Gl X "MAX_LETTERS" := by rfl) : EEm X K c E (.Name "MAX_LETTERS" pos) (tC (.int (8))) (mC (.int (8))) := by
  obtain ⟨t, e⟩ := T.g_MAX_LETTERS
  exact pm_glob (fun _ _ => .int _) ⟨t, rfl⟩ e hK hg (by decide)
theorem pm_g_LETTERS {X : Cx} {K : PySem.W.Frag} {E : WX} {pos : Pos} (T : Tx X.mg) (hK : X.K = K := by rfl) (hg : Gl X "LETTERS" := by rfl) : EEm X K c E (.Name "LETTERS" pos) (tC (.str "abcdefghijklmnopqrstuvwxyz")) (mC (.str "abcdefghijklmnopqrstuvwxyz")) := by
  obtain ⟨t, e⟩ := T.g_LETTERS
  exact pm_glob (fun _ _ => .str _) ⟨t, rfl⟩ e hK hg (by decide)
theorem pm_g_LEAST {X : Cx} {K : PySem.W.Frag} {E : WX} {pos : Pos} (T : Tx X.mg) (hK : X.K = K := by rfl) (hg : Gl X "LEAST" := by rfl) : EEm X K c E (.Name "LEAST" pos) (tC (.int (-99999999999999999999))) (mC (.int (-99999999999999999999))) := by
  obtain ⟨t, e⟩ := T.g_LEAST
  exact pm_glob (fun _ _ => .int _) ⟨t, rfl⟩ e hK hg (by decide)
theorem pm_g_GREATEST {X : Cx} {K : PySem.W.Frag} {E : WX} {pos : Pos} (T : Tx X.mg) (hK : X.K = K := by rfl) (hg : Gl X "GREATEST" := by rfl) : EEm X K c E (.Name "GREATEST" pos) (tC (.int (99999999999999999999))) (mC (.int (99999999999999999999))) := by
  obtain ⟨t, e⟩ := T.g_GREATEST
  exact pm_glob (fun _ _ => .int _) ⟨t, rfl⟩ e hK hg (by decide)
theorem pm_g_MAX_COLUMNS {X : Cx} {K : PySem.W.Frag} {E : WX} {pos : Pos} (T : Tx X.mg) (hK : X.K = K := by rfl) (hg : Gl X "MAX_COLUMNS" := by rfl) : EEm X K c E (.Name "MAX_COLUMNS" pos) (tC (.int (4))) (mC (.int (4))) := by
  obtain ⟨t, e⟩ := T.g_MAX_COLUMNS
  exact pm_glob (fun _ _ => .int _) ⟨t, rfl⟩ e hK hg (by decide)
theorem sc_is_name : FnScope ["value", "sign"] ["value"] (defScope s_is_name) := ⟨rfl, rfl, rfl, by decide +kernel, rfl, by decide +kernel, by decide +kernel⟩
theorem ok_is_name {f : Addr} {fd : FuncData} (T : Tx mg) (F : Fun K "is_name" "is_name" s_is_name f fd) :
    FnOk P w K mg base (L2.CX P w) 1 f fd ["value"] (spM K c 1 m_is_name) := by
  refine fn_m (N := ["value", "sign"]) F sc_is_name (by decide) fun cdv A outer s H E hr => ?_
  exact EBm.psm (bm_one (sm_ret (pm_and (pm_isTy T.n_isinstance T.n_str (pm_var 0)) (pm_and (pm_chain co_le co_le pm_int (pm_len T.n_len (pm_var 0)) (pm_g_MAX_LETTERS T)) (pm_one (pm_all rfl T.n_all ((pn_comp s (own := [("sign", 1)]) rfl sc_is_name.nd (pim_seq (pm_var 0)) (blkOk_by (N := ["value", "sign"]) (sc := defScope s_is_name) (by decide +kernel)) (fun _ _ _ _ _ => (pgm_name 1 sc_is_name.nd)) (fun _ _ _ _ _ => ptsm_nil) (fun _ _ _ _ _ => (pm_cmp (co_in (hu65 hr)) (pm_var 1) (pm_g_LETTERS T))))).know)))))) rfl
theorem dn_is_name {f : Addr} {fd : FuncData} (T : Tx mg) (F : Fun K "is_name" "is_name" s_is_name f fd) (hm : mg "is_name" = some (.ref f)) (hb : Binds K fd ["value"] []) :
    Dn P w K mg base c "is_name" 1 1 [] [] m_is_name := .mk0 (ok_is_name T F) hm F.kp hb (fun _ _ h => mFun_len _ _ h)
theorem sc_is_number : FnScope ["value"] ["value"] (defScope s_is_number) := ⟨rfl, rfl, rfl, by decide +kernel, rfl, by decide +kernel, by decide +kernel⟩
theorem ok_is_number {f : Addr} {fd : FuncData} (T : Tx mg) (F : Fun K "is_number" "is_number" s_is_number f fd) :
    FnOk P w K mg base (L2.CX P w) 1 f fd ["value"] (spM K c 1 m_is_number) := by
  refine fn_m (N := ["value"]) F sc_is_number (by decide) fun cdv A outer s H E hr => ?_
  exact EBm.psm (bm_one (sm_ret (pm_and (pm_isTy T.n_isinstance T.n_int (pm_var 0)) (pm_one (pm_notV (pm_isTy T.n_isinstance T.n_bool (pm_var 0))))))) rfl
theorem dn_is_number {f : Addr} {fd : FuncData} (T : Tx mg) (F : Fun K "is_number" "is_number" s_is_number f fd) (hm : mg "is_number" = some (.ref f)) (hb : Binds K fd ["value"] []) :
    Dn P w K mg base c "is_number" 1 1 [] [] m_is_number := .mk0 (ok_is_number T F) hm F.kp hb (fun _ _ h => mFun_len _ _ h)
theorem sc_is_integer : FnScope ["value"] ["value"] (defScope s_is_integer) := ⟨rfl, rfl, rfl, by decide +kernel, rfl, by decide +kernel, by decide +kernel⟩
theorem ok_is_integer {f : Addr} {fd : FuncData} (T : Tx mg) (F : Fun K "is_integer" "is_integer" s_is_integer f fd) (d_is_number : Dn P w K mg base c "is_number" 1 1 [] [] m_is_number) :
    FnOk P w K mg base (L2.CX P w) 2 f fd ["value"] (spM K c 1 m_is_integer) := by
  refine fn_m (N := ["value"]) F sc_is_integer (by decide) fun cdv A outer s H E hr => ?_
  exact EBm.psm (bm_one (sm_ret (pm_and (pm_callD d_is_number hr (takes_of rfl rfl rfl rfl) (pam_cons (pm_var 0) pam_nil)) (pm_one (pm_chain co_le co_le (pm_g_LEAST T) (pm_var 0) (pm_g_GREATEST T)))))) rfl
theorem dn_is_integer {f : Addr} {fd : FuncData} (T : Tx mg) (F : Fun K "is_integer" "is_integer" s_is_integer f fd) (d_is_number : Dn P w K mg base c "is_number" 1 1 [] [] m_is_number) (hm : mg "is_integer" = some (.ref f)) (hb : Binds K fd ["value"] []) :
    Dn P w K mg base c "is_integer" 2 1 [] [] m_is_integer := .mk0 (ok_is_integer T F d_is_number) hm F.kp hb (fun _ _ h => mFun_len _ _ h)
theorem sc_is_term : FnScope ["value"] ["value"] (defScope s_is_term) := ⟨rfl, rfl, rfl, by decide +kernel, rfl, by decide +kernel, by decide +kernel⟩
theorem ok_is_term {f : Addr} {fd : FuncData} (T : Tx mg) (F : Fun K "is_term" "is_term" s_is_term f fd) (d_is_integer : Dn P w K mg base c "is_integer" 2 1 [] [] m_is_integer) (d_is_name : Dn P w K mg base c "is_name" 1 1 [] [] m_is_name) :
    FnOk P w K mg base (L2.CX P w) 3 f fd ["value"] (spM K c 1 m_is_term) := by
  refine fn_m (N := ["value"]) F sc_is_term (by decide) fun cdv A outer s H E hr => ?_
  exact EBm.psm (bm_one (sm_ret (pm_or (pm_callD d_is_integer hr (takes_of rfl rfl rfl rfl) (pam_cons (pm_var 0) pam_nil)) (pm_one (pm_callD d_is_name hr (takes_of rfl rfl rfl rfl) (pam_cons (pm_var 0) pam_nil)))))) rfl
theorem dn_is_term {f : Addr} {fd : FuncData} (T : Tx mg) (F : Fun K "is_term" "is_term" s_is_term f fd) (d_is_integer : Dn P w K mg base c "is_integer" 2 1 [] [] m_is_integer) (d_is_name : Dn P w K mg base c "is_name" 1 1 [] [] m_is_name) (hm : mg "is_term" = some (.ref f)) (hb : Binds K fd ["value"] []) :
    Dn P w K mg base c "is_term" 3 1 [] [] m_is_term := .mk0 (ok_is_term T F d_is_integer d_is_name) hm F.kp hb (fun _ _ h => mFun_len _ _ h)
theorem sc_is_row : FnScope ["value", "one"] ["value"] (defScope s_is_row) := ⟨rfl, rfl, rfl, by decide +kernel, rfl, by decide +kernel, by decide +kernel⟩
theorem ok_is_row {f : Addr} {fd : FuncData} (T : Tx mg) (F : Fun K "is_row" "is_row" s_is_row f fd) (d_is_integer : Dn P w K mg base c "is_integer" 2 1 [] [] m_is_integer) :
    FnOk P w K mg base (L2.CX P w) 3 f fd ["value"] (spM K c 1 m_is_row) := by
  refine fn_m (N := ["value", "one"]) F sc_is_row (by decide) fun cdv A outer s H E hr => ?_
  exact EBm.psm (bm_one (sm_ret (pm_and (pm_isTy T.n_isinstance T.n_tuple (pm_var 0)) (pm_and (pm_chain co_le co_le pm_int (pm_len T.n_len (pm_var 0)) (pm_g_MAX_COLUMNS T)) (pm_one (pm_all rfl T.n_all ((pn_comp s (own := [("one", 1)]) rfl sc_is_row.nd (pim_seq (pm_var 0)) (blkOk_by (N := ["value", "one"]) (sc := defScope s_is_row) (by decide +kernel)) (fun _ _ _ _ _ => (pgm_name 1 sc_is_row.nd)) (fun _ _ _ _ _ => ptsm_nil) (fun _ _ _ _ _ => (pm_callD d_is_integer hr takes_blk (pam_cons (pm_var 1) pam_nil))))).know)))))) rfl
theorem dn_is_row {f : Addr} {fd : FuncData} (T : Tx mg) (F : Fun K "is_row" "is_row" s_is_row f fd) (d_is_integer : Dn P w K mg base c "is_integer" 2 1 [] [] m_is_integer) (hm : mg "is_row" = some (.ref f)) (hb : Binds K fd ["value"] []) :
    Dn P w K mg base c "is_row" 3 1 [] [] m_is_row := .mk0 (ok_is_row T F d_is_integer) hm F.kp hb (fun _ _ h => mFun_len _ _ h)
theorem sc_law_dice : FnScope ["script", "spot", "cell", "great", "blend"] ["script", "spot"] (defScope s_law_dice) := ⟨rfl, rfl, rfl, by decide +kernel, rfl, by decide +kernel, by decide +kernel⟩
theorem ok_law_dice {f : Addr} {fd : FuncData} (T : Tx mg) (F : Fun K "_law_dice" "_law_dice" s_law_dice f fd) :
    FnOk P w K mg base (L2.CX P w) 1 f fd ["script", "spot"] (spM K c 2 m_law_dice) := by
  refine fn_m (N := ["script", "spot", "cell", "great", "blend"]) F sc_law_dice (by decide) fun cdv A outer s H E hr => ?_
  exact EBm.psm (bm_cons (sm_set 2 (pm_if (ptm_cmp co_lt (pm_var 1) (pm_len T.n_len (pm_var 0))) (pm_ix (pm_var 0) (pm_var 1)) (pm_add (pm_mul pm_int (pm_var 1)) pm_int)) sc_law_dice.nd) (bm_cons (sm_set 3 (pm_mod (pm_int1 T.n_int (pm_abs T.n_abs (pm_var 2))) (pm_pow (pm_pow pm_int pm_int) pm_int)) sc_law_dice.nd) (bm_cons (sm_set 4 (pm_add (pm_add (pm_add (pm_mul (pm_var 3) pm_int) (pm_mul pm_int (pm_var 1))) (pm_mul pm_int (pm_int1 T.n_int (pm_cmp co_lt (pm_var 2) pm_int)))) pm_int) sc_law_dice.nd) (bm_one (sm_ret ((pn_lst (pam_cons (pm_max2 rfl T.n_max pm_int (pm_sub (pm_var 3) (pm_pow pm_int pm_int))) (pam_cons (pm_mod (pm_int1 T.n_int (pm_var 4)) pm_int) (pam_cons pm_int pam_nil))))).cell))))) rfl
theorem dn_law_dice {f : Addr} {fd : FuncData} (T : Tx mg) (F : Fun K "_law_dice" "_law_dice" s_law_dice f fd) (hm : mg "_law_dice" = some (.ref f)) (hb : Binds K fd ["script", "spot"] []) :
    Dn P w K mg base c "_law_dice" 1 2 [] [] m_law_dice := .mk0 (ok_law_dice T F) hm F.kp hb (fun _ _ h => mFun_len _ _ h)
theorem sc_law_roll : FnScope ["dice", "upto", "found", "one", "two"] ["dice", "upto"] (defScope s_law_roll) := ⟨rfl, rfl, rfl, by decide +kernel, rfl, by decide +kernel, by decide +kernel⟩
theorem ok_law_roll {f : Addr} {fd : FuncData} (T : Tx mg) (F : Fun K "_law_roll" "_law_roll" s_law_roll f fd) :
    FnOk P w K mg base (L2.CX P w) 1 f fd ["dice", "upto"] (spM K c 2 m_law_roll) := by
  refine fn_m (N := ["dice", "upto", "found", "one", "two"]) F sc_law_roll (by decide) fun cdv A outer s H E hr => ?_
  exact EBm.psm (bm_cons (sm_if (ptm_cmp co_gt (pm_ixB 0 pm_int) pm_int) (bm_cons (sm_set 2 (pm_mod (pm_int1 T.n_int (pm_ixB 0 pm_int)) (pm_var 1)) sc_law_roll.nd) (bm_cons (sm_setItem 0 (pm_div (pm_ixB 0 pm_int) (pm_var 1)) pm_int) (bm_one (sm_ret (pm_var 2))))) bm_nil) (bm_cons (sm_setItem 0 (pm_add (pm_ixB 0 pm_int) pm_int) pm_int) (bm_cons (sm_set 3 (pm_mod (pm_int1 T.n_int (pm_add (pm_ixB 0 pm_int) (pm_mul pm_int (pm_ixB 0 pm_int)))) pm_int) sc_law_roll.nd) (bm_cons (sm_set 4 (pm_add (pm_mul (pm_mod (pm_int1 T.n_int (pm_mul (pm_var 3) (pm_var 3))) pm_int) (pm_var 3)) (pm_mul pm_int (pm_ixB 0 pm_int))) sc_law_roll.nd) (bm_one (sm_ret (pm_mod (pm_int1 T.n_int (pm_div (pm_mod (pm_int1 T.n_int (pm_add (pm_var 4) (pm_ixB 0 pm_int))) pm_int) pm_int)) (pm_var 1)))))))) rfl
theorem dn_law_roll {f : Addr} {fd : FuncData} (T : Tx mg) (F : Fun K "_law_roll" "_law_roll" s_law_roll f fd) (hm : mg "_law_roll" = some (.ref f)) (hb : Binds K fd ["dice", "upto"] []) :
    Dn P w K mg base c "_law_roll" 1 2 [] [] m_law_roll := .mk0 (ok_law_roll T F) hm F.kp hb (fun _ _ h => mFun_len _ _ h)
theorem sc_law_pick : FnScope ["dice", "items"] ["dice", "items"] (defScope s_law_pick) := ⟨rfl, rfl, rfl, by decide +kernel, rfl, by decide +kernel, by decide +kernel⟩
theorem ok_law_pick {f : Addr} {fd : FuncData} (T : Tx mg) (F : Fun K "_law_pick" "_law_pick" s_law_pick f fd) (d_law_roll : Dn P w K mg base c "_law_roll" 1 2 [] [] m_law_roll) :
    FnOk P w K mg base (L2.CX P w) 2 f fd ["dice", "items"] (spM K c 2 m_law_pick) := by
  refine fn_m (N := ["dice", "items"]) F sc_law_pick (by decide) fun cdv A outer s H E hr => ?_
  exact EBm.psm (bm_one (sm_ret (pm_ix (pm_var 1) (pm_callD d_law_roll hr (takes_of rfl rfl rfl rfl) (pam_cons (pm_var 0) (pam_cons (pm_len T.n_len (pm_var 1)) pam_nil)))))) rfl
theorem dn_law_pick {f : Addr} {fd : FuncData} (T : Tx mg) (F : Fun K "_law_pick" "_law_pick" s_law_pick f fd) (d_law_roll : Dn P w K mg base c "_law_roll" 1 2 [] [] m_law_roll) (hm : mg "_law_pick" = some (.ref f)) (hb : Binds K fd ["dice", "items"] []) :
    Dn P w K mg base c "_law_pick" 2 2 [] [] m_law_pick := .mk0 (ok_law_pick T F d_law_roll) hm F.kp hb (fun _ _ h => mFun_len _ _ h)
theorem sc_law_signs : FnScope ["marks"] [] (defScope s_law_signs) := ⟨rfl, rfl, rfl, by decide +kernel, rfl, by decide +kernel, by decide +kernel⟩
theorem ok_law_signs {f : Addr} {fd : FuncData} (T : Tx mg) (F : Fun K "_law_signs" "_law_signs" s_law_signs f fd) :
    FnOk P w K mg base (L2.CX P w) 1 f fd [] (spM K c 0 m_law_signs) := by
  refine fn_m (N := ["marks"]) F sc_law_signs (by decide) fun cdv A outer s H E hr => ?_
  exact EBm.psm (bm_cons (sm_set 0 pm_str sc_law_signs.nd) (bm_one (sm_ret (pm_add (pm_var 0) pm_str)))) rfl
theorem dn_law_signs {f : Addr} {fd : FuncData} (T : Tx mg) (F : Fun K "_law_signs" "_law_signs" s_law_signs f fd) (hm : mg "_law_signs" = some (.ref f)) (hb : Binds K fd [] []) :
    Dn P w K mg base c "_law_signs" 1 0 [] [] m_law_signs := .mk0 (ok_law_signs T F) hm F.kp hb (fun _ _ h => mFun_len _ _ h)
theorem sc_law_string : FnScope ["dice", "letters", "turn"] ["dice"] (defScope s_law_string) := ⟨rfl, rfl, rfl, by decide +kernel, rfl, by decide +kernel, by decide +kernel⟩
theorem ok_law_string {f : Addr} {fd : FuncData} (T : Tx mg) (F : Fun K "_law_string" "_law_string" s_law_string f fd) (d_law_roll : Dn P w K mg base c "_law_roll" 1 2 [] [] m_law_roll) (d_law_pick : Dn P w K mg base c "_law_pick" 2 2 [] [] m_law_pick) (d_law_signs : Dn P w K mg base c "_law_signs" 1 0 [] [] m_law_signs) :
    FnOk P w K mg base (L2.CX P w) 3 f fd ["dice"] (spM K c 1 m_law_string) := by
  refine fn_m (N := ["dice", "letters", "turn"]) F sc_law_string (by decide) fun cdv A outer s H E hr => ?_
  exact EBm.psm (bm_cons (sm_ownC s 1 (own := [("turn", 2)]) rfl sc_law_string.nd (pim_range1 T.n_range (pam_cons (pm_callD d_law_roll hr (takes_of rfl rfl rfl rfl) (pam_cons (pm_var 0) (pam_cons pm_int pam_nil))) pam_nil)) (blkOk_by (N := ["dice", "letters", "turn"]) (sc := defScope s_law_string) (by decide +kernel)) (fun _ _ _ _ _ => (pgm_name 2 sc_law_string.nd)) (fun _ _ _ _ _ => ptsm_nil) (fun _ _ _ _ _ => (pm_ix pm_str (pm_callD d_law_roll hr takes_blk (pam_cons (pm_var 0) (pam_cons pm_int pam_nil)))))) (bm_cons (sm_if ((pwm_and (ptm_cmpB 1 (co_ne hr.units) (pm_lst pam_nil)) (pwm_and1 (ptm_cmp (co_eqX hr.units) (pm_callD d_law_roll hr (takes_of rfl rfl rfl rfl) (pam_cons (pm_var 0) (pam_cons pm_int pam_nil))) pm_int)))).pt (bm_one (sm_setItem 1 (pm_callD d_law_pick hr (takes_of rfl rfl rfl rfl) (pam_cons (pm_var 0) (pam_cons (pm_callD0 d_law_signs hr (takes_of rfl rfl rfl rfl)) pam_nil))) (pm_callD d_law_roll hr (takes_of rfl rfl rfl rfl) (pam_cons (pm_var 0) (pam_cons (pm_lenB 1 T.n_len) pam_nil))))) bm_nil) (bm_one (sm_ret (pm_joinB 1 pm_str))))) rfl
theorem dn_law_string {f : Addr} {fd : FuncData} (T : Tx mg) (F : Fun K "_law_string" "_law_string" s_law_string f fd) (d_law_roll : Dn P w K mg base c "_law_roll" 1 2 [] [] m_law_roll) (d_law_pick : Dn P w K mg base c "_law_pick" 2 2 [] [] m_law_pick) (d_law_signs : Dn P w K mg base c "_law_signs" 1 0 [] [] m_law_signs) (hm : mg "_law_string" = some (.ref f)) (hb : Binds K fd ["dice"] []) :
    Dn P w K mg base c "_law_string" 3 1 [] [] m_law_string := .mk0 (ok_law_string T F d_law_roll d_law_pick d_law_signs) hm F.kp hb (fun _ _ h => mFun_len _ _ h)
theorem sc_law_integer : FnScope ["dice", "some", "one"] ["dice"] (defScope s_law_integer) := ⟨rfl, rfl, rfl, by decide +kernel, rfl, by decide +kernel, by decide +kernel⟩
theorem ok_law_integer {f : Addr} {fd : FuncData} (T : Tx mg) (F : Fun K "_law_integer" "_law_integer" s_law_integer f fd) (d_law_roll : Dn P w K mg base c "_law_roll" 1 2 [] [] m_law_roll) (d_law_pick : Dn P w K mg base c "_law_pick" 2 2 [] [] m_law_pick) :
    FnOk P w K mg base (L2.CX P w) 3 f fd ["dice"] (spM K c 1 m_law_integer) := by
  refine fn_m (N := ["dice", "some", "one"]) F sc_law_integer (by decide) fun cdv A outer s H E hr => ?_
  exact EBm.psm (bm_cons (sm_set 1 (pm_lst (pam_cons pm_int (pam_cons pm_int (pam_cons (pm_sub (pm_pow pm_int pm_int) pm_int) (pam_cons (pm_pow pm_int pm_int) (pam_cons (pm_add (pm_pow pm_int pm_int) pm_int) (pam_cons (pm_sub (pm_pow pm_int pm_int) pm_int) (pam_cons (pm_callD d_law_roll hr (takes_of rfl rfl rfl rfl) (pam_cons (pm_var 0) (pam_cons (pm_pow pm_int pm_int) pam_nil))) (pam_cons (pm_callD d_law_roll hr (takes_of rfl rfl rfl rfl) (pam_cons (pm_var 0) (pam_cons pm_int pam_nil))) pam_nil))))))))) sc_law_integer.nd) (bm_cons (sm_set 2 (pm_callD d_law_pick hr (takes_of rfl rfl rfl rfl) (pam_cons (pm_var 0) (pam_cons (pm_var 1) pam_nil))) sc_law_integer.nd) (bm_one (sm_ret (pm_if (ptm_cmp (co_eqX hr.units) (pm_callD d_law_roll hr (takes_of rfl rfl rfl rfl) (pam_cons (pm_var 0) (pam_cons pm_int pam_nil))) pm_int) (pm_var 2) (pm_sub pm_int (pm_var 2))))))) rfl
theorem dn_law_integer {f : Addr} {fd : FuncData} (T : Tx mg) (F : Fun K "_law_integer" "_law_integer" s_law_integer f fd) (d_law_roll : Dn P w K mg base c "_law_roll" 1 2 [] [] m_law_roll) (d_law_pick : Dn P w K mg base c "_law_pick" 2 2 [] [] m_law_pick) (hm : mg "_law_integer" = some (.ref f)) (hb : Binds K fd ["dice"] []) :
    Dn P w K mg base c "_law_integer" 3 1 [] [] m_law_integer := .mk0 (ok_law_integer T F d_law_roll d_law_pick) hm F.kp hb (fun _ _ h => mFun_len _ _ h)
theorem sc_law_tuple : FnScope ["dice", "found", "turn", "odd"] ["dice"] (defScope s_law_tuple) := ⟨rfl, rfl, rfl, by decide +kernel, rfl, by decide +kernel, by decide +kernel⟩
theorem ok_law_tuple {f : Addr} {fd : FuncData} (T : Tx mg) (F : Fun K "_law_tuple" "_law_tuple" s_law_tuple f fd) (d_law_roll : Dn P w K mg base c "_law_roll" 1 2 [] [] m_law_roll) (d_law_integer : Dn P w K mg base c "_law_integer" 3 1 [] [] m_law_integer) (d_law_pick : Dn P w K mg base c "_law_pick" 2 2 [] [] m_law_pick) :
    FnOk P w K mg base (L2.CX P w) 4 f fd ["dice"] (spM K c 1 m_law_tuple) := by
  refine fn_m (N := ["dice", "found", "turn", "odd"]) F sc_law_tuple (by decide) fun cdv A outer s H E hr => ?_
  exact EBm.psm (bm_cons (sm_ownC s 1 (own := [("turn", 2)]) rfl sc_law_tuple.nd (pim_range1 T.n_range (pam_cons (pm_callD d_law_roll hr (takes_of rfl rfl rfl rfl) (pam_cons (pm_var 0) (pam_cons pm_int pam_nil))) pam_nil)) (blkOk_by (N := ["dice", "found", "turn", "odd"]) (sc := defScope s_law_tuple) (by decide +kernel)) (fun _ _ _ _ _ => (pgm_name 2 sc_law_tuple.nd)) (fun _ _ _ _ _ => ptsm_nil) (fun _ _ _ _ _ => (pm_callD d_law_integer hr takes_blk (pam_cons (pm_var 0) pam_nil)))) (bm_cons (sm_if ((pwm_and (ptm_cmpB 1 (co_ne hr.units) (pm_lst pam_nil)) (pwm_and1 (ptm_cmp (co_eqX hr.units) (pm_callD d_law_roll hr (takes_of rfl rfl rfl rfl) (pam_cons (pm_var 0) (pam_cons pm_int pam_nil))) pm_int)))).pt (bm_cons (sm_set 3 (pm_callD d_law_pick hr (takes_of rfl rfl rfl rfl) (pam_cons (pm_var 0) (pam_cons (pm_lst (pam_cons pm_bl (pam_cons pm_bl (pam_cons pm_non (pam_cons pm_str (pam_cons pm_str (pam_cons (pm_tup (pam_cons pm_int pam_nil)) (pam_cons (pm_lst (pam_cons pm_int pam_nil)) (pam_cons (pn_dnew).know (pam_cons (pm_tup pam_nil) (pam_cons (pm_pow pm_int pm_int) pam_nil))))))))))) pam_nil))) sc_law_tuple.nd) (bm_one (sm_setItem 1 (pm_var 3) (pm_callD d_law_roll hr (takes_of rfl rfl rfl rfl) (pam_cons (pm_var 0) (pam_cons (pm_lenB 1 T.n_len) pam_nil)))))) bm_nil) (bm_one (sm_ret (pm_tupleB 1 T.n_tuple))))) rfl
theorem dn_law_tuple {f : Addr} {fd : FuncData} (T : Tx mg) (F : Fun K "_law_tuple" "_law_tuple" s_law_tuple f fd) (d_law_roll : Dn P w K mg base c "_law_roll" 1 2 [] [] m_law_roll) (d_law_integer : Dn P w K mg base c "_law_integer" 3 1 [] [] m_law_integer) (d_law_pick : Dn P w K mg base c "_law_pick" 2 2 [] [] m_law_pick) (hm : mg "_law_tuple" = some (.ref f)) (hb : Binds K fd ["dice"] []) :
    Dn P w K mg base c "_law_tuple" 4 1 [] [] m_law_tuple := .mk0 (ok_law_tuple T F d_law_roll d_law_integer d_law_pick) hm F.kp hb (fun _ _ h => mFun_len _ _ h)
theorem sc_law_value : FnScope ["dice", "way"] ["dice"] (defScope s_law_value) := ⟨rfl, rfl, rfl, by decide +kernel, rfl, by decide +kernel, by decide +kernel⟩
theorem ok_law_value {f : Addr} {fd : FuncData} (T : Tx mg) (F : Fun K "_law_value" "_law_value" s_law_value f fd) (d_law_roll : Dn P w K mg base c "_law_roll" 1 2 [] [] m_law_roll) (d_law_string : Dn P w K mg base c "_law_string" 3 1 [] [] m_law_string) (d_law_integer : Dn P w K mg base c "_law_integer" 3 1 [] [] m_law_integer) (d_law_tuple : Dn P w K mg base c "_law_tuple" 4 1 [] [] m_law_tuple) (d_law_pick : Dn P w K mg base c "_law_pick" 2 2 [] [] m_law_pick) :
    FnOk P w K mg base (L2.CX P w) 5 f fd ["dice"] (spM K c 1 m_law_value) := by
  refine fn_m (N := ["dice", "way"]) F sc_law_value (by decide) fun cdv A outer s H E hr => ?_
  exact EBm.psm (bm_cons (sm_set 1 (pm_callD d_law_roll hr (takes_of rfl rfl rfl rfl) (pam_cons (pm_var 0) (pam_cons pm_int pam_nil))) sc_law_value.nd) (bm_cons (sm_if (ptm_cmp co_lt (pm_var 1) pm_int) (bm_one (sm_ret (pm_callD d_law_string hr (takes_of rfl rfl rfl rfl) (pam_cons (pm_var 0) pam_nil)))) bm_nil) (bm_cons (sm_if (ptm_cmp co_lt (pm_var 1) pm_int) (bm_one (sm_ret (pm_callD d_law_integer hr (takes_of rfl rfl rfl rfl) (pam_cons (pm_var 0) pam_nil)))) bm_nil) (bm_cons (sm_if (ptm_cmp co_lt (pm_var 1) pm_int) (bm_one (sm_ret (pm_callD d_law_tuple hr (takes_of rfl rfl rfl rfl) (pam_cons (pm_var 0) pam_nil)))) bm_nil) (bm_cons (sm_if (ptm_cmp (co_eqX hr.units) (pm_var 1) pm_int) (bm_one (sm_ret (pm_list T.n_list (pm_callD d_law_tuple hr (takes_of rfl rfl rfl rfl) (pam_cons (pm_var 0) pam_nil))))) bm_nil) (bm_one (sm_ret (pm_callD d_law_pick hr (takes_of rfl rfl rfl rfl) (pam_cons (pm_var 0) (pam_cons (pm_lst (pam_cons pm_non (pam_cons pm_bl (pam_cons pm_bl (pam_cons (pn_dnew).know (pam_cons ((pn_disp (ppm_cons pm_str pm_int ppm_nil))).know (pam_cons (pm_lst pam_nil) (pam_cons (pm_lst (pam_cons pm_str pam_nil)) (pam_cons (pm_tup (pam_cons pm_str (pam_cons pm_str pam_nil))) (pam_cons (pm_tup (pam_cons (pm_tup (pam_cons pm_int (pam_cons pm_int pam_nil))) pam_nil)) (pam_cons (pm_lst (pam_cons (pm_lst (pam_cons pm_int pam_nil)) pam_nil)) (pam_cons ((pn_disp (ppm_cons pm_int pm_int ppm_nil))).know pam_nil)))))))))))) pam_nil)))))))))) rfl
theorem dn_law_value {f : Addr} {fd : FuncData} (T : Tx mg) (F : Fun K "_law_value" "_law_value" s_law_value f fd) (d_law_roll : Dn P w K mg base c "_law_roll" 1 2 [] [] m_law_roll) (d_law_string : Dn P w K mg base c "_law_string" 3 1 [] [] m_law_string) (d_law_integer : Dn P w K mg base c "_law_integer" 3 1 [] [] m_law_integer) (d_law_tuple : Dn P w K mg base c "_law_tuple" 4 1 [] [] m_law_tuple) (d_law_pick : Dn P w K mg base c "_law_pick" 2 2 [] [] m_law_pick) (hm : mg "_law_value" = some (.ref f)) (hb : Binds K fd ["dice"] []) :
    Dn P w K mg base c "_law_value" 5 1 [] [] m_law_value := .mk0 (ok_law_value T F d_law_roll d_law_string d_law_integer d_law_tuple d_law_pick) hm F.kp hb (fun _ _ h => mFun_len _ _ h)
theorem sc_law_like_name : FnScope ["value", "sign"] ["value"] (defScope s_law_like_name) := ⟨rfl, rfl, rfl, by decide +kernel, rfl, by decide +kernel, by decide +kernel⟩
theorem ok_law_like_name {f : Addr} {fd : FuncData} (T : Tx mg) (F : Fun K "_law_like_name" "_law_like_name" s_law_like_name f fd) :
    FnOk P w K mg base (L2.CX P w) 1 f fd ["value"] (spM K c 1 m_law_like_name) := by
  refine fn_m (N := ["value", "sign"]) F sc_law_like_name (by decide) fun cdv A outer s H E hr => ?_
  exact EBm.psm (bm_cons (sm_if ((pwm_or (ptm_not (ptm_tru (pm_isTy T.n_isinstance T.n_str (pm_var 0)))) (pwm_or (ptm_cmp co_lt (pm_len T.n_len (pm_var 0)) pm_int) (pwm_or1 (ptm_cmp co_gt (pm_len T.n_len (pm_var 0)) pm_int))))).pt (bm_one (sm_ret pm_bl)) bm_nil) (bm_one (sm_ret (pm_cmp (co_eqX hr.units) ((pn_comp s (own := [("sign", 1)]) rfl sc_law_like_name.nd (pim_seq (pm_var 0)) (blkOk_by (N := ["value", "sign"]) (sc := defScope s_law_like_name) (by decide +kernel)) (fun _ _ _ _ _ => (pgm_name 1 sc_law_like_name.nd)) (fun _ _ _ _ _ => (ptsm_one (ptm_cmp (co_notIn (hu65 hr)) (pm_var 1) pm_str))) (fun _ _ _ _ _ => (pm_var 1)))).know (pm_lst pam_nil))))) rfl
theorem dn_law_like_name {f : Addr} {fd : FuncData} (T : Tx mg) (F : Fun K "_law_like_name" "_law_like_name" s_law_like_name f fd) (hm : mg "_law_like_name" = some (.ref f)) (hb : Binds K fd ["value"] []) :
    Dn P w K mg base c "_law_like_name" 1 1 [] [] m_law_like_name := .mk0 (ok_law_like_name T F) hm F.kp hb (fun _ _ h => mFun_len _ _ h)
theorem sc_law_like_integer : FnScope ["value"] ["value"] (defScope s_law_like_integer) := ⟨rfl, rfl, rfl, by decide +kernel, rfl, by decide +kernel, by decide +kernel⟩
theorem ok_law_like_integer {f : Addr} {fd : FuncData} (T : Tx mg) (F : Fun K "_law_like_integer" "_law_like_integer" s_law_like_integer f fd) :
    FnOk P w K mg base (L2.CX P w) 1 f fd ["value"] (spM K c 1 m_law_like_integer) := by
  refine fn_m (N := ["value"]) F sc_law_like_integer (by decide) fun cdv A outer s H E hr => ?_
  exact EBm.psm (bm_one (sm_ret (pm_and (pm_isTy T.n_isinstance T.n_int (pm_var 0)) (pm_and (pm_notV (pm_isTy T.n_isinstance T.n_bool (pm_var 0))) (pm_one (pm_cmp co_lt (pm_len T.n_len (pm_str1 T.n_str (pm_abs T.n_abs (pm_var 0)))) pm_int)))))) rfl
theorem dn_law_like_integer {f : Addr} {fd : FuncData} (T : Tx mg) (F : Fun K "_law_like_integer" "_law_like_integer" s_law_like_integer f fd) (hm : mg "_law_like_integer" = some (.ref f)) (hb : Binds K fd ["value"] []) :
    Dn P w K mg base c "_law_like_integer" 1 1 [] [] m_law_like_integer := .mk0 (ok_law_like_integer T F) hm F.kp hb (fun _ _ h => mFun_len _ _ h)
theorem sc_law_like_row : FnScope ["value", "one"] ["value"] (defScope s_law_like_row) := ⟨rfl, rfl, rfl, by decide +kernel, rfl, by decide +kernel, by decide +kernel⟩
theorem ok_law_like_row {f : Addr} {fd : FuncData} (T : Tx mg) (F : Fun K "_law_like_row" "_law_like_row" s_law_like_row f fd) (d_law_like_integer : Dn P w K mg base c "_law_like_integer" 1 1 [] [] m_law_like_integer) :
    FnOk P w K mg base (L2.CX P w) 2 f fd ["value"] (spM K c 1 m_law_like_row) := by
  refine fn_m (N := ["value", "one"]) F sc_law_like_row (by decide) fun cdv A outer s H E hr => ?_
  exact EBm.psm (bm_cons (sm_if ((pwm_or (ptm_not (ptm_tru (pm_isTy T.n_isinstance T.n_tuple (pm_var 0)))) (pwm_or (ptm_cmp co_lt (pm_len T.n_len (pm_var 0)) pm_int) (pwm_or1 (ptm_cmp co_gt (pm_len T.n_len (pm_var 0)) pm_int))))).pt (bm_one (sm_ret pm_bl)) bm_nil) (bm_one (sm_ret (pm_cmp (co_eqX hr.units) ((pn_comp s (own := [("one", 1)]) rfl sc_law_like_row.nd (pim_seq (pm_var 0)) (blkOk_by (N := ["value", "one"]) (sc := defScope s_law_like_row) (by decide +kernel)) (fun _ _ _ _ _ => (pgm_name 1 sc_law_like_row.nd)) (fun _ _ _ _ _ => (ptsm_one (ptm_not (ptm_tru (pm_callD d_law_like_integer hr takes_blk (pam_cons (pm_var 1) pam_nil)))))) (fun _ _ _ _ _ => (pm_var 1)))).know (pm_lst pam_nil))))) rfl
theorem dn_law_like_row {f : Addr} {fd : FuncData} (T : Tx mg) (F : Fun K "_law_like_row" "_law_like_row" s_law_like_row f fd) (d_law_like_integer : Dn P w K mg base c "_law_like_integer" 1 1 [] [] m_law_like_integer) (hm : mg "_law_like_row" = some (.ref f)) (hb : Binds K fd ["value"] []) :
    Dn P w K mg base c "_law_like_row" 2 1 [] [] m_law_like_row := .mk0 (ok_law_like_row T F d_law_like_integer) hm F.kp hb (fun _ _ h => mFun_len _ _ h)
theorem sc_law_right : FnScope ["value", "name", "number", "due", "told", "one"] ["value"] (defScope s_law_right) := ⟨rfl, rfl, rfl, by decide +kernel, rfl, by decide +kernel, by decide +kernel⟩
theorem ok_law_right {f : Addr} {fd : FuncData} (T : Tx mg) (F : Fun K "_law_right" "_law_right" s_law_right f fd) (d_law_like_name : Dn P w K mg base c "_law_like_name" 1 1 [] [] m_law_like_name) (d_law_like_integer : Dn P w K mg base c "_law_like_integer" 1 1 [] [] m_law_like_integer) (d_law_like_row : Dn P w K mg base c "_law_like_row" 2 1 [] [] m_law_like_row) (d_is_name : Dn P w K mg base c "is_name" 1 1 [] [] m_is_name) (d_is_integer : Dn P w K mg base c "is_integer" 2 1 [] [] m_is_integer) (d_is_term : Dn P w K mg base c "is_term" 3 1 [] [] m_is_term) (d_is_row : Dn P w K mg base c "is_row" 3 1 [] [] m_is_row) :
    FnOk P w K mg base (L2.CX P w) 4 f fd ["value"] (spM K c 1 m_law_right) := by
  refine fn_m (N := ["value", "name", "number", "due", "told", "one"]) F sc_law_right (by decide) fun cdv A outer s H E hr => ?_
  exact EBm.psm (bm_cons (sm_par 1 2 rfl sc_law_right.nd (pam_cons (pm_callD d_law_like_name hr (takes_of rfl rfl rfl rfl) (pam_cons (pm_var 0) pam_nil)) (pam_cons (pm_callD d_law_like_integer hr (takes_of rfl rfl rfl rfl) (pam_cons (pm_var 0) pam_nil)) pam_nil))) (bm_cons (sm_set 3 (pm_lst (pam_cons (pm_var 1) (pam_cons (pm_var 2) (pam_cons (pm_or (pm_var 1) (pm_one (pm_var 2))) (pam_cons (pm_callD d_law_like_row hr (takes_of rfl rfl rfl rfl) (pam_cons (pm_var 0) pam_nil)) pam_nil))))) sc_law_right.nd) (bm_cons (sm_set 4 (pm_lst (pam_cons (pm_callD d_is_name hr (takes_of rfl rfl rfl rfl) (pam_cons (pm_var 0) pam_nil)) (pam_cons (pm_callD d_is_integer hr (takes_of rfl rfl rfl rfl) (pam_cons (pm_var 0) pam_nil)) (pam_cons (pm_callD d_is_term hr (takes_of rfl rfl rfl rfl) (pam_cons (pm_var 0) pam_nil)) (pam_cons (pm_callD d_is_row hr (takes_of rfl rfl rfl rfl) (pam_cons (pm_var 0) pam_nil)) pam_nil))))) sc_law_right.nd) (bm_one (sm_ret (pm_and (pm_cmp (co_eqX hr.units) ((pn_comp s (own := [("one", 5)]) rfl sc_law_right.nd (pim_seq (pm_var 4)) (blkOk_by (N := ["value", "name", "number", "due", "told", "one"]) (sc := defScope s_law_right) (by decide +kernel)) (fun _ _ _ _ _ => (pgm_name 5 sc_law_right.nd)) (fun _ _ _ _ _ => ptsm_nil) (fun _ _ _ _ _ => (pm_cmp co_is (pm_var 5) pm_bl)))).know (pm_var 3)) (pm_one (pm_cmp (co_eqX hr.units) ((pn_comp s (own := [("one", 5)]) rfl sc_law_right.nd (pim_seq (pm_var 4)) (blkOk_by (N := ["value", "name", "number", "due", "told", "one"]) (sc := defScope s_law_right) (by decide +kernel)) (fun _ _ _ _ _ => (pgm_name 5 sc_law_right.nd)) (fun _ _ _ _ _ => ptsm_nil) (fun _ _ _ _ _ => (pm_cmp co_is (pm_var 5) pm_bl)))).know ((pn_comp s (own := [("one", 5)]) rfl sc_law_right.nd (pim_seq (pm_var 3)) (blkOk_by (N := ["value", "name", "number", "due", "told", "one"]) (sc := defScope s_law_right) (by decide +kernel)) (fun _ _ _ _ _ => (pgm_name 5 sc_law_right.nd)) (fun _ _ _ _ _ => ptsm_nil) (fun _ _ _ _ _ => (pm_notV (pm_var 5))))).know)))))))) rfl
theorem dn_law_right {f : Addr} {fd : FuncData} (T : Tx mg) (F : Fun K "_law_right" "_law_right" s_law_right f fd) (d_law_like_name : Dn P w K mg base c "_law_like_name" 1 1 [] [] m_law_like_name) (d_law_like_integer : Dn P w K mg base c "_law_like_integer" 1 1 [] [] m_law_like_integer) (d_law_like_row : Dn P w K mg base c "_law_like_row" 2 1 [] [] m_law_like_row) (d_is_name : Dn P w K mg base c "is_name" 1 1 [] [] m_is_name) (d_is_integer : Dn P w K mg base c "is_integer" 2 1 [] [] m_is_integer) (d_is_term : Dn P w K mg base c "is_term" 3 1 [] [] m_is_term) (d_is_row : Dn P w K mg base c "is_row" 3 1 [] [] m_is_row) (hm : mg "_law_right" = some (.ref f)) (hb : Binds K fd ["value"] []) :
    Dn P w K mg base c "_law_right" 4 1 [] [] m_law_right := .mk0 (ok_law_right T F d_law_like_name d_law_like_integer d_law_like_row d_is_name d_is_integer d_is_term d_is_row) hm F.kp hb (fun _ _ h => mFun_len _ _ h)
theorem sc_law : FnScope ["script", "spot", "dice", "turn", "some", "one"] ["script"] (defScope s_law) := ⟨rfl, rfl, rfl, by decide +kernel, rfl, by decide +kernel, by decide +kernel⟩
theorem ok_law {f : Addr} {fd : FuncData} (T : Tx mg) (F : Fun K "law" "law" s_law f fd) (d_law_dice : Dn P w K mg base c "_law_dice" 1 2 [] [] m_law_dice) (d_law_right : Dn P w K mg base c "_law_right" 4 1 [] [] m_law_right) (d_law_value : Dn P w K mg base c "_law_value" 5 1 [] [] m_law_value) :
    FnOk P w K mg base (L2.CX P w) 6 f fd ["script"] (spM K c 1 m_law) := by
  refine fn_m (N := ["script", "spot", "dice", "turn", "some", "one"]) F sc_law (by decide) fun cdv A outer s H E hr => ?_
  exact EBm.psm (bm_cons (sm_for (passes_of rfl) rfl (pim_range1 T.n_range (pam_cons (pm_max2 rfl T.n_max pm_int (pm_min2 rfl T.n_min pm_int (pm_len T.n_len (pm_var 0)))) pam_nil)) (pgm_name 1 sc_law.nd) (bm_cons (sm_set 2 (pm_callD d_law_dice hr (takes_of rfl rfl rfl rfl) (pam_cons (pm_var 0) (pam_cons (pm_var 1) pam_nil))) sc_law.nd) (bm_one (sm_for (passes_of rfl) rfl (pim_range1 T.n_range (pam_cons pm_int pam_nil)) (pgm_name 3 sc_law.nd) (bm_one (sm_if (ptm_not (ptm_tru (pm_callD d_law_right hr (takes_of rfl rfl rfl rfl) (pam_cons (pm_callD d_law_value hr (takes_of rfl rfl rfl rfl) (pam_cons (pm_var 2) pam_nil)) pam_nil)))) (bm_one (sm_ret pm_bl)) bm_nil)))))) (bm_cons (sm_set 4 (pm_lst (pam_cons pm_str (pam_cons pm_str (pam_cons pm_str (pam_cons pm_str (pam_cons pm_str (pam_cons pm_str (pam_cons pm_str (pam_cons (pm_sub (pm_pow pm_int pm_int) pm_int) (pam_cons (pm_sub pm_int (pm_pow pm_int pm_int)) (pam_cons (pm_sub pm_int (pm_pow pm_int pm_int)) (pam_cons pm_bl pam_nil)))))))))))) sc_law.nd) (bm_cons (sm_set 4 (pm_add (pm_var 4) (pm_lst (pam_cons (pm_tup (pam_cons pm_int pam_nil)) (pam_cons (pm_tup (pam_cons pm_int (pam_cons pm_int (pam_cons pm_int (pam_cons pm_int pam_nil))))) (pam_cons (pm_tup (pam_cons pm_int (pam_cons pm_int (pam_cons pm_int (pam_cons pm_int (pam_cons pm_int pam_nil)))))) (pam_cons (pm_tup pam_nil) (pam_cons (pm_tup (pam_cons pm_bl pam_nil)) (pam_cons (pm_tup (pam_cons pm_int (pam_cons (pm_pow pm_int pm_int) pam_nil))) (pam_cons (pm_tup (pam_cons pm_int (pam_cons (pm_sub pm_int (pm_pow pm_int pm_int)) pam_nil))) pam_nil))))))))) sc_law.nd) (bm_cons (sm_set 4 (pm_add (pm_var 4) (pm_lst (pam_cons (pm_lst (pam_cons pm_int pam_nil)) (pam_cons (pm_tup (pam_cons (pm_tup (pam_cons pm_int pam_nil)) pam_nil)) (pam_cons pm_non pam_nil))))) sc_law.nd) (bm_one (sm_ret (pm_cmp (co_eqX hr.units) ((pn_comp s (own := [("one", 5)]) rfl sc_law.nd (pim_seq (pm_var 4)) (blkOk_by (N := ["script", "spot", "dice", "turn", "some", "one"]) (sc := defScope s_law) (by decide +kernel)) (fun _ _ _ _ _ => (pgm_name 5 sc_law.nd)) (fun _ _ _ _ _ => (ptsm_one (ptm_not (ptm_tru (pm_callD d_law_right hr takes_blk (pam_cons (pm_var 5) pam_nil)))))) (fun _ _ _ _ _ => (pm_var 5)))).know (pm_lst pam_nil)))))))) rfl
theorem dn_law {f : Addr} {fd : FuncData} (T : Tx mg) (F : Fun K "law" "law" s_law f fd) (d_law_dice : Dn P w K mg base c "_law_dice" 1 2 [] [] m_law_dice) (d_law_right : Dn P w K mg base c "_law_right" 4 1 [] [] m_law_right) (d_law_value : Dn P w K mg base c "_law_value" 5 1 [] [] m_law_value) (hm : mg "law" = some (.ref f)) (hb : Binds K fd ["script"] []) :
    Dn P w K mg base c "law" 6 1 [] [] m_law := .mk0 (ok_law T F d_law_dice d_law_right d_law_value) hm F.kp hb (fun _ _ h => mFun_len _ _ h)
end
end K01

set_option Elab.async false
set_option linter.all false
set_option maxRecDepth 100000
set_option maxHeartbeats 4000000
namespace K01
open PySem PySem.Spec PyProof.Rows L2 Mir
theorem all_mk {l : PySem.W.OpenLaw} {w : World} {c : Mir.Ctx} {K : PySem.W.Frag} {h : Heap} {mg : Str → Option Value} {fa : Addr} (X : K.In h) (G : h.Ns mainGlobals mg) (hfa : mg "law" = some (.ref fa))
    {f_is_name : Addr} {od_is_name an_is_name : Option Addr} {sl_is_name : Array (Option Value)} {oc_is_name kV_is_name dc_is_name pm_is_name cd_is_name ct_is_name : Value}
    (a_is_name : PySem.W.nsIn K mainGlobals "is_name" = some (some (.ref f_is_name))) (l_is_name : K.lookup f_is_name = some ⟨oc_is_name, od_is_name, .func (PySem.W.fnOf "is_name" "is_name" (defArgs s_is_name) (defBody s_is_name) (defScope s_is_name) .none kV_is_name dc_is_name pm_is_name an_is_name cd_is_name ct_is_name), sl_is_name⟩) (c_is_name : PySem.W.codeIn K cd_is_name "is_name" = true) (k_is_name : PySem.W.keepIn K (.ref f_is_name) = true)
    {f_is_number : Addr} {od_is_number an_is_number : Option Addr} {sl_is_number : Array (Option Value)} {oc_is_number kV_is_number dc_is_number pm_is_number cd_is_number ct_is_number : Value}
    (a_is_number : PySem.W.nsIn K mainGlobals "is_number" = some (some (.ref f_is_number))) (l_is_number : K.lookup f_is_number = some ⟨oc_is_number, od_is_number, .func (PySem.W.fnOf "is_number" "is_number" (defArgs s_is_number) (defBody s_is_number) (defScope s_is_number) .none kV_is_number dc_is_number pm_is_number an_is_number cd_is_number ct_is_number), sl_is_number⟩) (c_is_number : PySem.W.codeIn K cd_is_number "is_number" = true) (k_is_number : PySem.W.keepIn K (.ref f_is_number) = true)
    {f_is_integer : Addr} {od_is_integer an_is_integer : Option Addr} {sl_is_integer : Array (Option Value)} {oc_is_integer kV_is_integer dc_is_integer pm_is_integer cd_is_integer ct_is_integer : Value}
    (a_is_integer : PySem.W.nsIn K mainGlobals "is_integer" = some (some (.ref f_is_integer))) (l_is_integer : K.lookup f_is_integer = some ⟨oc_is_integer, od_is_integer, .func (PySem.W.fnOf "is_integer" "is_integer" (defArgs s_is_integer) (defBody s_is_integer) (defScope s_is_integer) .none kV_is_integer dc_is_integer pm_is_integer an_is_integer cd_is_integer ct_is_integer), sl_is_integer⟩) (c_is_integer : PySem.W.codeIn K cd_is_integer "is_integer" = true) (k_is_integer : PySem.W.keepIn K (.ref f_is_integer) = true)
    {f_is_term : Addr} {od_is_term an_is_term : Option Addr} {sl_is_term : Array (Option Value)} {oc_is_term kV_is_term dc_is_term pm_is_term cd_is_term ct_is_term : Value}
    (a_is_term : PySem.W.nsIn K mainGlobals "is_term" = some (some (.ref f_is_term))) (l_is_term : K.lookup f_is_term = some ⟨oc_is_term, od_is_term, .func (PySem.W.fnOf "is_term" "is_term" (defArgs s_is_term) (defBody s_is_term) (defScope s_is_term) .none kV_is_term dc_is_term pm_is_term an_is_term cd_is_term ct_is_term), sl_is_term⟩) (c_is_term : PySem.W.codeIn K cd_is_term "is_term" = true) (k_is_term : PySem.W.keepIn K (.ref f_is_term) = true)
    {f_is_row : Addr} {od_is_row an_is_row : Option Addr} {sl_is_row : Array (Option Value)} {oc_is_row kV_is_row dc_is_row pm_is_row cd_is_row ct_is_row : Value}
    (a_is_row : PySem.W.nsIn K mainGlobals "is_row" = some (some (.ref f_is_row))) (l_is_row : K.lookup f_is_row = some ⟨oc_is_row, od_is_row, .func (PySem.W.fnOf "is_row" "is_row" (defArgs s_is_row) (defBody s_is_row) (defScope s_is_row) .none kV_is_row dc_is_row pm_is_row an_is_row cd_is_row ct_is_row), sl_is_row⟩) (c_is_row : PySem.W.codeIn K cd_is_row "is_row" = true) (k_is_row : PySem.W.keepIn K (.ref f_is_row) = true)
    {f_law_dice : Addr} {od_law_dice an_law_dice : Option Addr} {sl_law_dice : Array (Option Value)} {oc_law_dice kV_law_dice dc_law_dice pm_law_dice cd_law_dice ct_law_dice : Value}
    (a_law_dice : PySem.W.nsIn K mainGlobals "_law_dice" = some (some (.ref f_law_dice))) (l_law_dice : K.lookup f_law_dice = some ⟨oc_law_dice, od_law_dice, .func (PySem.W.fnOf "_law_dice" "_law_dice" (defArgs s_law_dice) (defBody s_law_dice) (defScope s_law_dice) .none kV_law_dice dc_law_dice pm_law_dice an_law_dice cd_law_dice ct_law_dice), sl_law_dice⟩) (c_law_dice : PySem.W.codeIn K cd_law_dice "_law_dice" = true) (k_law_dice : PySem.W.keepIn K (.ref f_law_dice) = true)
    {f_law_roll : Addr} {od_law_roll an_law_roll : Option Addr} {sl_law_roll : Array (Option Value)} {oc_law_roll kV_law_roll dc_law_roll pm_law_roll cd_law_roll ct_law_roll : Value}
    (a_law_roll : PySem.W.nsIn K mainGlobals "_law_roll" = some (some (.ref f_law_roll))) (l_law_roll : K.lookup f_law_roll = some ⟨oc_law_roll, od_law_roll, .func (PySem.W.fnOf "_law_roll" "_law_roll" (defArgs s_law_roll) (defBody s_law_roll) (defScope s_law_roll) .none kV_law_roll dc_law_roll pm_law_roll an_law_roll cd_law_roll ct_law_roll), sl_law_roll⟩) (c_law_roll : PySem.W.codeIn K cd_law_roll "_law_roll" = true) (k_law_roll : PySem.W.keepIn K (.ref f_law_roll) = true)
    {f_law_pick : Addr} {od_law_pick an_law_pick : Option Addr} {sl_law_pick : Array (Option Value)} {oc_law_pick kV_law_pick dc_law_pick pm_law_pick cd_law_pick ct_law_pick : Value}
    (a_law_pick : PySem.W.nsIn K mainGlobals "_law_pick" = some (some (.ref f_law_pick))) (l_law_pick : K.lookup f_law_pick = some ⟨oc_law_pick, od_law_pick, .func (PySem.W.fnOf "_law_pick" "_law_pick" (defArgs s_law_pick) (defBody s_law_pick) (defScope s_law_pick) .none kV_law_pick dc_law_pick pm_law_pick an_law_pick cd_law_pick ct_law_pick), sl_law_pick⟩) (c_law_pick : PySem.W.codeIn K cd_law_pick "_law_pick" = true) (k_law_pick : PySem.W.keepIn K (.ref f_law_pick) = true)
    {f_law_signs : Addr} {od_law_signs an_law_signs : Option Addr} {sl_law_signs : Array (Option Value)} {oc_law_signs kV_law_signs dc_law_signs pm_law_signs cd_law_signs ct_law_signs : Value}
    (a_law_signs : PySem.W.nsIn K mainGlobals "_law_signs" = some (some (.ref f_law_signs))) (l_law_signs : K.lookup f_law_signs = some ⟨oc_law_signs, od_law_signs, .func (PySem.W.fnOf "_law_signs" "_law_signs" (defArgs s_law_signs) (defBody s_law_signs) (defScope s_law_signs) .none kV_law_signs dc_law_signs pm_law_signs an_law_signs cd_law_signs ct_law_signs), sl_law_signs⟩) (c_law_signs : PySem.W.codeIn K cd_law_signs "_law_signs" = true) (k_law_signs : PySem.W.keepIn K (.ref f_law_signs) = true)
    {f_law_string : Addr} {od_law_string an_law_string : Option Addr} {sl_law_string : Array (Option Value)} {oc_law_string kV_law_string dc_law_string pm_law_string cd_law_string ct_law_string : Value}
    (a_law_string : PySem.W.nsIn K mainGlobals "_law_string" = some (some (.ref f_law_string))) (l_law_string : K.lookup f_law_string = some ⟨oc_law_string, od_law_string, .func (PySem.W.fnOf "_law_string" "_law_string" (defArgs s_law_string) (defBody s_law_string) (defScope s_law_string) .none kV_law_string dc_law_string pm_law_string an_law_string cd_law_string ct_law_string), sl_law_string⟩) (c_law_string : PySem.W.codeIn K cd_law_string "_law_string" = true) (k_law_string : PySem.W.keepIn K (.ref f_law_string) = true)
    {f_law_integer : Addr} {od_law_integer an_law_integer : Option Addr} {sl_law_integer : Array (Option Value)} {oc_law_integer kV_law_integer dc_law_integer pm_law_integer cd_law_integer ct_law_integer : Value}
    (a_law_integer : PySem.W.nsIn K mainGlobals "_law_integer" = some (some (.ref f_law_integer))) (l_law_integer : K.lookup f_law_integer = some ⟨oc_law_integer, od_law_integer, .func (PySem.W.fnOf "_law_integer" "_law_integer" (defArgs s_law_integer) (defBody s_law_integer) (defScope s_law_integer) .none kV_law_integer dc_law_integer pm_law_integer an_law_integer cd_law_integer ct_law_integer), sl_law_integer⟩) (c_law_integer : PySem.W.codeIn K cd_law_integer "_law_integer" = true) (k_law_integer : PySem.W.keepIn K (.ref f_law_integer) = true)
    {f_law_tuple : Addr} {od_law_tuple an_law_tuple : Option Addr} {sl_law_tuple : Array (Option Value)} {oc_law_tuple kV_law_tuple dc_law_tuple pm_law_tuple cd_law_tuple ct_law_tuple : Value}
    (a_law_tuple : PySem.W.nsIn K mainGlobals "_law_tuple" = some (some (.ref f_law_tuple))) (l_law_tuple : K.lookup f_law_tuple = some ⟨oc_law_tuple, od_law_tuple, .func (PySem.W.fnOf "_law_tuple" "_law_tuple" (defArgs s_law_tuple) (defBody s_law_tuple) (defScope s_law_tuple) .none kV_law_tuple dc_law_tuple pm_law_tuple an_law_tuple cd_law_tuple ct_law_tuple), sl_law_tuple⟩) (c_law_tuple : PySem.W.codeIn K cd_law_tuple "_law_tuple" = true) (k_law_tuple : PySem.W.keepIn K (.ref f_law_tuple) = true)
    {f_law_value : Addr} {od_law_value an_law_value : Option Addr} {sl_law_value : Array (Option Value)} {oc_law_value kV_law_value dc_law_value pm_law_value cd_law_value ct_law_value : Value}
    (a_law_value : PySem.W.nsIn K mainGlobals "_law_value" = some (some (.ref f_law_value))) (l_law_value : K.lookup f_law_value = some ⟨oc_law_value, od_law_value, .func (PySem.W.fnOf "_law_value" "_law_value" (defArgs s_law_value) (defBody s_law_value) (defScope s_law_value) .none kV_law_value dc_law_value pm_law_value an_law_value cd_law_value ct_law_value), sl_law_value⟩) (c_law_value : PySem.W.codeIn K cd_law_value "_law_value" = true) (k_law_value : PySem.W.keepIn K (.ref f_law_value) = true)
    {f_law_like_name : Addr} {od_law_like_name an_law_like_name : Option Addr} {sl_law_like_name : Array (Option Value)} {oc_law_like_name kV_law_like_name dc_law_like_name pm_law_like_name cd_law_like_name ct_law_like_name : Value}
    (a_law_like_name : PySem.W.nsIn K mainGlobals "_law_like_name" = some (some (.ref f_law_like_name))) (l_law_like_name : K.lookup f_law_like_name = some ⟨oc_law_like_name, od_law_like_name, .func (PySem.W.fnOf "_law_like_name" "_law_like_name" (defArgs s_law_like_name) (defBody s_law_like_name) (defScope s_law_like_name) .none kV_law_like_name dc_law_like_name pm_law_like_name an_law_like_name cd_law_like_name ct_law_like_name), sl_law_like_name⟩) (c_law_like_name : PySem.W.codeIn K cd_law_like_name "_law_like_name" = true) (k_law_like_name : PySem.W.keepIn K (.ref f_law_like_name) = true)
    {f_law_like_integer : Addr} {od_law_like_integer an_law_like_integer : Option Addr} {sl_law_like_integer : Array (Option Value)} {oc_law_like_integer kV_law_like_integer dc_law_like_integer pm_law_like_integer cd_law_like_integer ct_law_like_integer : Value}
    (a_law_like_integer : PySem.W.nsIn K mainGlobals "_law_like_integer" = some (some (.ref f_law_like_integer))) (l_law_like_integer : K.lookup f_law_like_integer = some ⟨oc_law_like_integer, od_law_like_integer, .func (PySem.W.fnOf "_law_like_integer" "_law_like_integer" (defArgs s_law_like_integer) (defBody s_law_like_integer) (defScope s_law_like_integer) .none kV_law_like_integer dc_law_like_integer pm_law_like_integer an_law_like_integer cd_law_like_integer ct_law_like_integer), sl_law_like_integer⟩) (c_law_like_integer : PySem.W.codeIn K cd_law_like_integer "_law_like_integer" = true) (k_law_like_integer : PySem.W.keepIn K (.ref f_law_like_integer) = true)
    {f_law_like_row : Addr} {od_law_like_row an_law_like_row : Option Addr} {sl_law_like_row : Array (Option Value)} {oc_law_like_row kV_law_like_row dc_law_like_row pm_law_like_row cd_law_like_row ct_law_like_row : Value}
    (a_law_like_row : PySem.W.nsIn K mainGlobals "_law_like_row" = some (some (.ref f_law_like_row))) (l_law_like_row : K.lookup f_law_like_row = some ⟨oc_law_like_row, od_law_like_row, .func (PySem.W.fnOf "_law_like_row" "_law_like_row" (defArgs s_law_like_row) (defBody s_law_like_row) (defScope s_law_like_row) .none kV_law_like_row dc_law_like_row pm_law_like_row an_law_like_row cd_law_like_row ct_law_like_row), sl_law_like_row⟩) (c_law_like_row : PySem.W.codeIn K cd_law_like_row "_law_like_row" = true) (k_law_like_row : PySem.W.keepIn K (.ref f_law_like_row) = true)
    {f_law_right : Addr} {od_law_right an_law_right : Option Addr} {sl_law_right : Array (Option Value)} {oc_law_right kV_law_right dc_law_right pm_law_right cd_law_right ct_law_right : Value}
    (a_law_right : PySem.W.nsIn K mainGlobals "_law_right" = some (some (.ref f_law_right))) (l_law_right : K.lookup f_law_right = some ⟨oc_law_right, od_law_right, .func (PySem.W.fnOf "_law_right" "_law_right" (defArgs s_law_right) (defBody s_law_right) (defScope s_law_right) .none kV_law_right dc_law_right pm_law_right an_law_right cd_law_right ct_law_right), sl_law_right⟩) (c_law_right : PySem.W.codeIn K cd_law_right "_law_right" = true) (k_law_right : PySem.W.keepIn K (.ref f_law_right) = true)
    {f_law : Addr} {od_law an_law : Option Addr} {sl_law : Array (Option Value)} {oc_law kV_law dc_law pm_law cd_law ct_law : Value}
    (a_law : PySem.W.nsIn K mainGlobals "law" = some (some (.ref f_law))) (l_law : K.lookup f_law = some ⟨oc_law, od_law, .func (PySem.W.fnOf "law" "law" (defArgs s_law) (defBody s_law) (defScope s_law) .none kV_law dc_law pm_law an_law cd_law ct_law), sl_law⟩) (c_law : PySem.W.codeIn K cd_law "law" = true) (k_law : PySem.W.keepIn K (.ref f_law) = true)
    (z_abs : PySem.W.nsIn K mainGlobals "abs" = some none) (z_all : PySem.W.nsIn K mainGlobals "all" = some none) (z_bool : PySem.W.nsIn K mainGlobals "bool" = some none) (z_int : PySem.W.nsIn K mainGlobals "int" = some none) (z_isinstance : PySem.W.nsIn K mainGlobals "isinstance" = some none) (z_len : PySem.W.nsIn K mainGlobals "len" = some none) (z_list : PySem.W.nsIn K mainGlobals "list" = some none) (z_max : PySem.W.nsIn K mainGlobals "max" = some none) (z_min : PySem.W.nsIn K mainGlobals "min" = some none) (z_range : PySem.W.nsIn K mainGlobals "range" = some none) (z_str : PySem.W.nsIn K mainGlobals "str" = some none) (z_tuple : PySem.W.nsIn K mainGlobals "tuple" = some none) {t_MAX_LETTERS : _} (y_MAX_LETTERS : PySem.W.nsIn K mainGlobals "MAX_LETTERS" = some (some (.int (8) t_MAX_LETTERS))) {t_LETTERS : _} (y_LETTERS : PySem.W.nsIn K mainGlobals "LETTERS" = some (some (.str "abcdefghijklmnopqrstuvwxyz" t_LETTERS))) {t_LEAST : _} (y_LEAST : PySem.W.nsIn K mainGlobals "LEAST" = some (some (.int (-99999999999999999999) t_LEAST))) {t_GREATEST : _} (y_GREATEST : PySem.W.nsIn K mainGlobals "GREATEST" = some (some (.int (99999999999999999999) t_GREATEST))) {t_MAX_COLUMNS : _} (y_MAX_COLUMNS : PySem.W.nsIn K mainGlobals "MAX_COLUMNS" = some (some (.int (4) t_MAX_COLUMNS))) :
    ∃ fd : FuncData, (∀ (s : Shared) (v : Value), BindsTo s fd ⟨[v], []⟩ [("script", v)]) ∧ ∀ base : Heap, K.In base → base.Ns mainGlobals mg → FnOk l.prog w K mg base (L2.CX l.prog w) 6 fa fd ["script"] (spM K c 1 m_law) := by
  have e := hfa.symm.trans (PySem.W.mg_of X G a_law)
  cases e
  have T : Tx mg := ⟨PySem.W.mg_none_of X G z_abs, PySem.W.mg_none_of X G z_all, PySem.W.mg_none_of X G z_bool, PySem.W.mg_none_of X G z_int, PySem.W.mg_none_of X G z_isinstance, PySem.W.mg_none_of X G z_len, PySem.W.mg_none_of X G z_list, PySem.W.mg_none_of X G z_max, PySem.W.mg_none_of X G z_min, PySem.W.mg_none_of X G z_range, PySem.W.mg_none_of X G z_str, PySem.W.mg_none_of X G z_tuple, ⟨_, PySem.W.mg_of X G y_MAX_LETTERS⟩, ⟨_, PySem.W.mg_of X G y_LETTERS⟩, ⟨_, PySem.W.mg_of X G y_LEAST⟩, ⟨_, PySem.W.mg_of X G y_GREATEST⟩, ⟨_, PySem.W.mg_of X G y_MAX_COLUMNS⟩⟩
  have F_is_name := fun_mk (st := s_is_name) l_is_name c_is_name k_is_name
  have b_is_name := F_is_name.binds (ps := ["value"]) fun _ _ _ _ _ _ us hl => match us, hl with | [_], _ => rfl
  have F_is_number := fun_mk (st := s_is_number) l_is_number c_is_number k_is_number
  have b_is_number := F_is_number.binds (ps := ["value"]) fun _ _ _ _ _ _ us hl => match us, hl with | [_], _ => rfl
  have F_is_integer := fun_mk (st := s_is_integer) l_is_integer c_is_integer k_is_integer
  have b_is_integer := F_is_integer.binds (ps := ["value"]) fun _ _ _ _ _ _ us hl => match us, hl with | [_], _ => rfl
  have F_is_term := fun_mk (st := s_is_term) l_is_term c_is_term k_is_term
  have b_is_term := F_is_term.binds (ps := ["value"]) fun _ _ _ _ _ _ us hl => match us, hl with | [_], _ => rfl
  have F_is_row := fun_mk (st := s_is_row) l_is_row c_is_row k_is_row
  have b_is_row := F_is_row.binds (ps := ["value"]) fun _ _ _ _ _ _ us hl => match us, hl with | [_], _ => rfl
  have F_law_dice := fun_mk (st := s_law_dice) l_law_dice c_law_dice k_law_dice
  have b_law_dice := F_law_dice.binds (ps := ["script", "spot"]) fun _ _ _ _ _ _ us hl => match us, hl with | [_, _], _ => rfl
  have F_law_roll := fun_mk (st := s_law_roll) l_law_roll c_law_roll k_law_roll
  have b_law_roll := F_law_roll.binds (ps := ["dice", "upto"]) fun _ _ _ _ _ _ us hl => match us, hl with | [_, _], _ => rfl
  have F_law_pick := fun_mk (st := s_law_pick) l_law_pick c_law_pick k_law_pick
  have b_law_pick := F_law_pick.binds (ps := ["dice", "items"]) fun _ _ _ _ _ _ us hl => match us, hl with | [_, _], _ => rfl
  have F_law_signs := fun_mk (st := s_law_signs) l_law_signs c_law_signs k_law_signs
  have b_law_signs := F_law_signs.binds (ps := []) fun _ _ _ _ _ _ us hl => match us, hl with | [], _ => rfl
  have F_law_string := fun_mk (st := s_law_string) l_law_string c_law_string k_law_string
  have b_law_string := F_law_string.binds (ps := ["dice"]) fun _ _ _ _ _ _ us hl => match us, hl with | [_], _ => rfl
  have F_law_integer := fun_mk (st := s_law_integer) l_law_integer c_law_integer k_law_integer
  have b_law_integer := F_law_integer.binds (ps := ["dice"]) fun _ _ _ _ _ _ us hl => match us, hl with | [_], _ => rfl
  have F_law_tuple := fun_mk (st := s_law_tuple) l_law_tuple c_law_tuple k_law_tuple
  have b_law_tuple := F_law_tuple.binds (ps := ["dice"]) fun _ _ _ _ _ _ us hl => match us, hl with | [_], _ => rfl
  have F_law_value := fun_mk (st := s_law_value) l_law_value c_law_value k_law_value
  have b_law_value := F_law_value.binds (ps := ["dice"]) fun _ _ _ _ _ _ us hl => match us, hl with | [_], _ => rfl
  have F_law_like_name := fun_mk (st := s_law_like_name) l_law_like_name c_law_like_name k_law_like_name
  have b_law_like_name := F_law_like_name.binds (ps := ["value"]) fun _ _ _ _ _ _ us hl => match us, hl with | [_], _ => rfl
  have F_law_like_integer := fun_mk (st := s_law_like_integer) l_law_like_integer c_law_like_integer k_law_like_integer
  have b_law_like_integer := F_law_like_integer.binds (ps := ["value"]) fun _ _ _ _ _ _ us hl => match us, hl with | [_], _ => rfl
  have F_law_like_row := fun_mk (st := s_law_like_row) l_law_like_row c_law_like_row k_law_like_row
  have b_law_like_row := F_law_like_row.binds (ps := ["value"]) fun _ _ _ _ _ _ us hl => match us, hl with | [_], _ => rfl
  have F_law_right := fun_mk (st := s_law_right) l_law_right c_law_right k_law_right
  have b_law_right := F_law_right.binds (ps := ["value"]) fun _ _ _ _ _ _ us hl => match us, hl with | [_], _ => rfl
  have F_law := fun_mk (st := s_law) l_law c_law k_law
  refine ⟨PySem.W.fnOf "law" "law" (defArgs s_law) (defBody s_law) (defScope s_law) .none kV_law dc_law pm_law an_law cd_law ct_law, fun s v => .of_eq rfl, fun base _ _ => ?_⟩
  have d_is_name := dn_is_name (P := l.prog) (w := w) (base := base) (c := c) T F_is_name (PySem.W.mg_of X G a_is_name) b_is_name
  have d_is_number := dn_is_number (P := l.prog) (w := w) (base := base) (c := c) T F_is_number (PySem.W.mg_of X G a_is_number) b_is_number
  have d_is_integer := dn_is_integer (P := l.prog) (w := w) (base := base) (c := c) T F_is_integer d_is_number (PySem.W.mg_of X G a_is_integer) b_is_integer
  have d_is_term := dn_is_term (P := l.prog) (w := w) (base := base) (c := c) T F_is_term d_is_integer d_is_name (PySem.W.mg_of X G a_is_term) b_is_term
  have d_is_row := dn_is_row (P := l.prog) (w := w) (base := base) (c := c) T F_is_row d_is_integer (PySem.W.mg_of X G a_is_row) b_is_row
  have d_law_dice := dn_law_dice (P := l.prog) (w := w) (base := base) (c := c) T F_law_dice (PySem.W.mg_of X G a_law_dice) b_law_dice
  have d_law_roll := dn_law_roll (P := l.prog) (w := w) (base := base) (c := c) T F_law_roll (PySem.W.mg_of X G a_law_roll) b_law_roll
  have d_law_pick := dn_law_pick (P := l.prog) (w := w) (base := base) (c := c) T F_law_pick d_law_roll (PySem.W.mg_of X G a_law_pick) b_law_pick
  have d_law_signs := dn_law_signs (P := l.prog) (w := w) (base := base) (c := c) T F_law_signs (PySem.W.mg_of X G a_law_signs) b_law_signs
  have d_law_string := dn_law_string (P := l.prog) (w := w) (base := base) (c := c) T F_law_string d_law_roll d_law_pick d_law_signs (PySem.W.mg_of X G a_law_string) b_law_string
  have d_law_integer := dn_law_integer (P := l.prog) (w := w) (base := base) (c := c) T F_law_integer d_law_roll d_law_pick (PySem.W.mg_of X G a_law_integer) b_law_integer
  have d_law_tuple := dn_law_tuple (P := l.prog) (w := w) (base := base) (c := c) T F_law_tuple d_law_roll d_law_integer d_law_pick (PySem.W.mg_of X G a_law_tuple) b_law_tuple
  have d_law_value := dn_law_value (P := l.prog) (w := w) (base := base) (c := c) T F_law_value d_law_roll d_law_string d_law_integer d_law_tuple d_law_pick (PySem.W.mg_of X G a_law_value) b_law_value
  have d_law_like_name := dn_law_like_name (P := l.prog) (w := w) (base := base) (c := c) T F_law_like_name (PySem.W.mg_of X G a_law_like_name) b_law_like_name
  have d_law_like_integer := dn_law_like_integer (P := l.prog) (w := w) (base := base) (c := c) T F_law_like_integer (PySem.W.mg_of X G a_law_like_integer) b_law_like_integer
  have d_law_like_row := dn_law_like_row (P := l.prog) (w := w) (base := base) (c := c) T F_law_like_row d_law_like_integer (PySem.W.mg_of X G a_law_like_row) b_law_like_row
  have d_law_right := dn_law_right (P := l.prog) (w := w) (base := base) (c := c) T F_law_right d_law_like_name d_law_like_integer d_law_like_row d_is_name d_is_integer d_is_term d_is_row (PySem.W.mg_of X G a_law_right) b_law_right
  exact ok_law T F_law d_law_dice d_law_right d_law_value
end K01
open PySem PySem.W PyProof.Rows
set_option maxRecDepth 100000 in
set_option maxHeartbeats 0 in
theorem PySem.Challenge.cw_gonewithin_k01_names_integers_terms_rows_holds : PySem.Challenge.rw_gonewithin_k01_names_integers_terms_rows.Holds := by
  w_on; o_law; k_head; (case hw => w_witness2)
  k_fill
  refine Mir.walkM (l := PySem.Challenge.rw_gonewithin_k01_names_integers_terms_rows) (k := 6) (m := K01.m_law) (c := fun _ => ⟨fun _ => 0, fun _ => Str.empty⟩) rfl rfl ⟨rfl, by decide, by decide⟩ (fun w h Y => PySem.W.kIn_of Y) ?F K01.plain
  case F =>
    intro w mg fa h KX G hmg
    refine' K01.all_mk KX G hmg ?a_is_name ?l_is_name ?c_is_name ?k_is_name ?a_is_number ?l_is_number ?c_is_number ?k_is_number ?a_is_integer ?l_is_integer ?c_is_integer ?k_is_integer ?a_is_term ?l_is_term ?c_is_term ?k_is_term ?a_is_row ?l_is_row ?c_is_row ?k_is_row ?a_law_dice ?l_law_dice ?c_law_dice ?k_law_dice ?a_law_roll ?l_law_roll ?c_law_roll ?k_law_roll ?a_law_pick ?l_law_pick ?c_law_pick ?k_law_pick ?a_law_signs ?l_law_signs ?c_law_signs ?k_law_signs ?a_law_string ?l_law_string ?c_law_string ?k_law_string ?a_law_integer ?l_law_integer ?c_law_integer ?k_law_integer ?a_law_tuple ?l_law_tuple ?c_law_tuple ?k_law_tuple ?a_law_value ?l_law_value ?c_law_value ?k_law_value ?a_law_like_name ?l_law_like_name ?c_law_like_name ?k_law_like_name ?a_law_like_integer ?l_law_like_integer ?c_law_like_integer ?k_law_like_integer ?a_law_like_row ?l_law_like_row ?c_law_like_row ?k_law_like_row ?a_law_right ?l_law_right ?c_law_right ?k_law_right ?a_law ?l_law ?c_law ?k_law ?z_abs ?z_all ?z_bool ?z_int ?z_isinstance ?z_len ?z_list ?z_max ?z_min ?z_range ?z_str ?z_tuple ?y_MAX_LETTERS ?y_LETTERS ?y_LEAST ?y_GREATEST ?y_MAX_COLUMNS
    (case a_is_name => k_is)
    (case l_is_name => k_is)
    (case c_is_name => k_is)
    (case k_is_name => k_is)
    (case a_is_number => k_is)
    (case l_is_number => k_is)
    (case c_is_number => k_is)
    (case k_is_number => k_is)
    (case a_is_integer => k_is)
    (case l_is_integer => k_is)
    (case c_is_integer => k_is)
    (case k_is_integer => k_is)
    (case a_is_term => k_is)
    (case l_is_term => k_is)
    (case c_is_term => k_is)
    (case k_is_term => k_is)
    (case a_is_row => k_is)
    (case l_is_row => k_is)
    (case c_is_row => k_is)
    (case k_is_row => k_is)
    (case a_law_dice => k_is)
    (case l_law_dice => k_is)
    (case c_law_dice => k_is)
    (case k_law_dice => k_is)
    (case a_law_roll => k_is)
    (case l_law_roll => k_is)
    (case c_law_roll => k_is)
    (case k_law_roll => k_is)
    (case a_law_pick => k_is)
    (case l_law_pick => k_is)
    (case c_law_pick => k_is)
    (case k_law_pick => k_is)
    (case a_law_signs => k_is)
    (case l_law_signs => k_is)
    (case c_law_signs => k_is)
    (case k_law_signs => k_is)
    (case a_law_string => k_is)
    (case l_law_string => k_is)
    (case c_law_string => k_is)
    (case k_law_string => k_is)
    (case a_law_integer => k_is)
    (case l_law_integer => k_is)
    (case c_law_integer => k_is)
    (case k_law_integer => k_is)
    (case a_law_tuple => k_is)
    (case l_law_tuple => k_is)
    (case c_law_tuple => k_is)
    (case k_law_tuple => k_is)
    (case a_law_value => k_is)
    (case l_law_value => k_is)
    (case c_law_value => k_is)
    (case k_law_value => k_is)
    (case a_law_like_name => k_is)
    (case l_law_like_name => k_is)
    (case c_law_like_name => k_is)
    (case k_law_like_name => k_is)
    (case a_law_like_integer => k_is)
    (case l_law_like_integer => k_is)
    (case c_law_like_integer => k_is)
    (case k_law_like_integer => k_is)
    (case a_law_like_row => k_is)
    (case l_law_like_row => k_is)
    (case c_law_like_row => k_is)
    (case k_law_like_row => k_is)
    (case a_law_right => k_is)
    (case l_law_right => k_is)
    (case c_law_right => k_is)
    (case k_law_right => k_is)
    (case a_law => k_is)
    (case l_law => k_is)
    (case c_law => k_is)
    (case k_law => k_is)
    (case z_abs => k_is)
    (case z_all => k_is)
    (case z_bool => k_is)
    (case z_int => k_is)
    (case z_isinstance => k_is)
    (case z_len => k_is)
    (case z_list => k_is)
    (case z_max => k_is)
    (case z_min => k_is)
    (case z_range => k_is)
    (case z_str => k_is)
    (case z_tuple => k_is)
    (case y_MAX_LETTERS => k_is)
    (case y_LETTERS => k_is)
    (case y_LEAST => k_is)
    (case y_GREATEST => k_is)
    (case y_MAX_COLUMNS => k_is)
#print axioms PySem.Challenge.cw_gonewithin_k01_names_integers_terms_rows_holds

