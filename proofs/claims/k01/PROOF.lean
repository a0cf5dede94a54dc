import PyProof.Rows.All
import Wide.All
import OpenK.AllK
import Wide.FinOn
import HandS.ForMost
import HandS.Exc
import HandS.ExcOwn
import HandS.ExcField
import HandS.Small
import HandS.TupAny
import HandS.IsInst
import HandS.Flow
import HandS.Walk
import HandS.WordsExc
import HandS.Defaults
import HandS.More
import PyProof.FString
import PyProof.FString4
import KE.KExcSuper
import PyProof.FitsInt
import PyProof.StrLawsRepr
import HandS.TryMany
import HandS.ExcIs
import HandS.Star
import KE.KExcIs
import PySem.Challenge.RW_orderatonce_k01_table_pairs
set_option Elab.async false
set_option linter.all false
set_option maxRecDepth 100000
/-! # The data layer: values as plain data, local lists and dicts owned by their slots; no heap in a def's proof -/
namespace DL
open PySem L2

/-! ### heaps -/
def Ex (H H' : Hp) : Prop := ∀ a o, H a = some o → H' a = some o
theorem Ex.refl (H : Hp) : Ex H H := fun _ _ h => h
theorem Ex.trans {H H1 H2 : Hp} (a : Ex H H1) (b : Ex H1 H2) : Ex H H2 := fun x o h => b x o (a x o h)
theorem Ex.none {H H' : Hp} (e : Ex H H') {a : Addr} (h : H' a = Option.none) : H a = Option.none := by
  cases q : H a with
  | none => rfl
  | some o => rw [e a o q] at h; cases h
theorem Ex.new {H : Hp} {p : Addr} {o : HO} (h : H p = Option.none) : Ex H (upd H p o) := fun a u e => by
  rw [upd_ne (ne_of_none e h)]; exact e
def sgl (p : Addr) (o : HO) : Hp := fun b => if b = p then some o else Option.none
theorem sgl_same {p : Addr} {o : HO} : sgl p o p = some o := if_pos rfl
theorem sgl_ne {p b : Addr} {o : HO} (h : b ≠ p) : sgl p o b = Option.none := if_neg h
theorem sgl_at {p b : Addr} {o : HO} (h : sgl p o b ≠ Option.none) : b = p := Classical.byContradiction fun q => h (sgl_ne q)
def emp : Hp := fun _ => Option.none
def uni (H F : Hp) : Hp := fun a => match H a with | some o => some o | Option.none => F a
theorem uni_l {H F : Hp} : Ex H (uni H F) := fun a o e => by unfold uni; rw [e]
theorem uni_r {H F : Hp} {a : Addr} (h : H a = Option.none) : uni H F a = F a := by unfold uni; rw [h]
/-- the same thing, but for the lock of a dict -/
inductive Sm : HO → HO → Prop
  | rf (o : HO) : Sm o o
  | lk (ob : Obj) (kvs) : Sm (.dK kvs) (.frz ob (.dK kvs))
  | ul (ob : Obj) (kvs) : Sm (.frz ob (.dK kvs)) (.dK kvs)
  | lt (ob : Obj) (kvs) : Sm (.dT kvs) (.frz ob (.dT kvs))
  | ut (ob : Obj) (kvs) : Sm (.frz ob (.dT kvs)) (.dT kvs)
def Rl (H H' : Hp) : Prop := ∀ a o, H a = some o → ∃ o', H' a = some o' ∧ Sm o o'
/-- as it was, or a dict locked -/
def Rk (G H : Hp) : Prop := ∀ a o, G a = some o → H a = some o ∨ (∃ ob kvs, o = .dK kvs ∧ H a = some (.frz ob (.dK kvs))) ∨ ∃ ob kvs, o = .dT kvs ∧ H a = some (.frz ob (.dT kvs))
theorem Rk.rl {G H : Hp} (r : Rk G H) : Rl G H := fun a o h => by
  rcases r a o h with e | ⟨ob, kvs, rfl, e⟩ | ⟨ob, kvs, rfl, e⟩
  · exact ⟨o, e, .rf o⟩
  · exact ⟨_, e, .lk ob kvs⟩
  · exact ⟨_, e, .lt ob kvs⟩
theorem Rk.refl (G : Hp) : Rk G G := fun _ _ h => .inl h
theorem Rk.ex {G H H' : Hp} (r : Rk G H) (e : Ex H H') : Rk G H' := fun a o h => by
  rcases r a o h with q | ⟨ob, kvs, z, q⟩ | ⟨ob, kvs, z, q⟩
  · exact .inl (e _ _ q)
  · exact .inr (.inl ⟨ob, kvs, z, e _ _ q⟩)
  · exact .inr (.inr ⟨ob, kvs, z, e _ _ q⟩)
theorem Rl.refl (G : Hp) : Rl G G := fun a o h => ⟨o, h, .rf o⟩
theorem Ex.rl {H H' : Hp} (e : Ex H H') : Rl H H' := fun a o h => ⟨o, e a o h, .rf o⟩
theorem Rl.l {K : PySem.W.Frag} {H H' : Hp} {a : Addr} {xs : List V} (r : Rl H H') (h : SqL K H a xs) : SqL K H' a xs := by
  rcases h with (h | ⟨o, h⟩) | h
  · obtain ⟨o', e, s⟩ := r _ _ h; cases s; exact .inl (.inl e)
  · obtain ⟨o', e, s⟩ := r _ _ h; cases s; exact .inl (.inr ⟨_, e⟩)
  · exact .inr h
theorem Rl.t {K : PySem.W.Frag} {H H' : Hp} {a : Addr} {xs : List V} (r : Rl H H') (h : SqT K H a xs) : SqT K H' a xs := by
  rcases h with (h | ⟨o, h⟩) | h
  · obtain ⟨o', e, s⟩ := r _ _ h; cases s; exact .inl (.inl e)
  · obtain ⟨o', e, s⟩ := r _ _ h; cases s; exact .inl (.inr ⟨_, e⟩)
  · exact .inr h
theorem Rl.k {H H' : Hp} {a : Addr} {kvs : List (Key × V)} (r : Rl H H') (h : Rd H a (.dK kvs)) : Rd H' a (.dK kvs) := by
  rcases h with h | ⟨o, h⟩
  · obtain ⟨o', e, s⟩ := r _ _ h
    cases s with
    | rf => exact .inl e
    | lk ob => exact .inr ⟨_, e⟩
  · obtain ⟨o', e, s⟩ := r _ _ h
    cases s with
    | rf => exact .inr ⟨_, e⟩
    | ul => exact .inl e
theorem Rl.kt {H H' : Hp} {a : Addr} {kvs : List (List Key × V)} (r : Rl H H') (h : Rd H a (.dT kvs)) : Rd H' a (.dT kvs) := by
  rcases h with h | ⟨o, h⟩
  · obtain ⟨o', e, s⟩ := r _ _ h
    cases s with
    | rf => exact .inl e
    | lt ob => exact .inr ⟨_, e⟩
  · obtain ⟨o', e, s⟩ := r _ _ h
    cases s with
    | rf => exact .inr ⟨_, e⟩
    | ut => exact .inl e
theorem Rl.i {H H' : Hp} {a C dx : Addr} {fs : List (Str × V)} (r : Rl H H') (h : H a = some (.ins C dx fs)) : H' a = some (.ins C dx fs) := by
  obtain ⟨o', e, s⟩ := r _ _ h; cases s; exact e

theorem Rl.x {H H' : Hp} {a : Addr} {fs : List (Str × V)} (r : Rl H H') (h : H a = some (.xd fs)) : H' a = some (.xd fs) := by
  obtain ⟨o', e, s⟩ := r _ _ h; cases s; exact e

/-! ### data -/
inductive D where
  | non | bl (b : Bool) | int (i : Int) | str (x : Str) | ref (a : Addr) | ty (n : String)
  | lst (xs : List D) | tup (xs : List D)
  | dic (ks : List Key) (xs : List D) | dct (ks : List (List Key)) (xs : List D)
  | ins (C : Addr) (fs : List Str) (xs : List D)
  | exc (a C dd : Addr) (fs : List Str) (xs : List D)
  deriving Inhabited
section
variable (K : PySem.W.Frag)
mutual
/-- the value v stands for the data d -/
def Rp (H : Hp) : D → V → Prop
  | .non, v => v = .non
  | .bl b, v => v = .bl b
  | .int i, v => v = .int i
  | .str x, v => v = .str x
  | .ref a, v => v = .ref a
  | .ty n, v => v = .ty n
  | .lst xs, v => ∃ a vs, v = .ref a ∧ SqL K H a vs ∧ RpA H xs vs
  | .tup xs, v => ∃ a vs, v = .ref a ∧ SqT K H a vs ∧ RpA H xs vs
  | .dic ks xs, v => ∃ a vs, v = .ref a ∧ Rd H a (.dK (ks.zip vs)) ∧ ks.length = vs.length ∧ RpA H xs vs
  | .dct ks xs, v => ∃ a vs, v = .ref a ∧ Rd H a (.dT (ks.zip vs)) ∧ ks.length = vs.length ∧ RpA H xs vs
  | .ins C fs xs, v => ∃ a dx vs, v = .ref a ∧ H a = some (.ins C dx (fs.zip vs)) ∧ fs.length = vs.length ∧ RpA H xs vs
  | .exc a C dd fs xs, v => ∃ vs, v = .ref a ∧ H dd = some (.xd (fs.zip vs)) ∧ fs.length = vs.length ∧ RpA H xs vs
def RpA (H : Hp) : List D → List V → Prop
  | [], vs => vs = []
  | d :: ds, vs => ∃ v r, vs = v :: r ∧ Rp H d v ∧ RpA H ds r
end
variable {K}
mutual
theorem Rp.mono {H H' : Hp} (r : Rl H H') : ∀ (d : D) (v : V), Rp K H d v → Rp K H' d v
  | .non, v, h => h
  | .bl b, v, h => h
  | .int i, v, h => h
  | .str x, v, h => h
  | .ref a, v, h => h
  | .ty n, v, h => h
  | .lst xs, v, h => by
    unfold Rp at h ⊢
    obtain ⟨a, vs, e, s, q⟩ := h
    exact ⟨a, vs, e, r.l s, RpA.mono r xs vs q⟩
  | .tup xs, v, h => by
    unfold Rp at h ⊢
    obtain ⟨a, vs, e, s, q⟩ := h
    exact ⟨a, vs, e, r.t s, RpA.mono r xs vs q⟩
  | .dic ks xs, v, h => by
    unfold Rp at h ⊢
    obtain ⟨a, vs, e, s, z, q⟩ := h
    exact ⟨a, vs, e, r.k s, z, RpA.mono r xs vs q⟩
  | .dct ks xs, v, h => by
    unfold Rp at h ⊢
    obtain ⟨a, vs, e, s, z, q⟩ := h
    exact ⟨a, vs, e, r.kt s, z, RpA.mono r xs vs q⟩
  | .ins C fs xs, v, h => by
    unfold Rp at h ⊢
    obtain ⟨a, dx, vs, e, s, z, q⟩ := h
    exact ⟨a, dx, vs, e, r.i s, z, RpA.mono r xs vs q⟩
  | .exc a C dd fs xs, v, h => by
    unfold Rp at h ⊢
    obtain ⟨vs, e, s, z, q⟩ := h
    exact ⟨vs, e, r.x s, z, RpA.mono r xs vs q⟩
theorem RpA.mono {H H' : Hp} (r : Rl H H') : ∀ (ds : List D) (vs : List V), RpA K H ds vs → RpA K H' ds vs
  | [], vs, h => h
  | d :: ds, vs, h => by
    unfold RpA at h ⊢
    obtain ⟨v, t, e, p, q⟩ := h
    exact ⟨v, t, e, Rp.mono r d v p, RpA.mono r ds t q⟩
end
theorem RpA.len {H : Hp} : ∀ {ds : List D} {vs : List V}, RpA K H ds vs → ds.length = vs.length
  | [], vs, h => by unfold RpA at h; subst h; rfl
  | d :: ds, vs, h => by
    unfold RpA at h
    obtain ⟨v, t, rfl, p, q⟩ := h
    rw [List.length_cons, List.length_cons, RpA.len q]
theorem RpA.get {H : Hp} : ∀ {ds : List D} {vs : List V} {i : Nat} {d : D}, RpA K H ds vs → ds[i]? = some d → ∃ v, vs[i]? = some v ∧ Rp K H d v
  | [], vs, i, d, h, e => by simp at e
  | x :: ds, vs, i, d, h, e => by
    unfold RpA at h
    obtain ⟨v, t, rfl, p, q⟩ := h
    cases i with
    | zero => simp at e; subst e; exact ⟨v, rfl, p⟩
    | succ i =>
      obtain ⟨u, a, b⟩ := RpA.get (i := i) q (by simpa using e)
      exact ⟨u, by simpa using a, b⟩
theorem RpA.getV {H : Hp} : ∀ {ds : List D} {vs : List V} {i : Nat} {v : V}, RpA K H ds vs → vs[i]? = some v → ∃ d, ds[i]? = some d ∧ Rp K H d v
  | [], vs, i, v, h, e => by unfold RpA at h; subst h; simp at e
  | x :: ds, vs, i, v, h, e => by
    unfold RpA at h
    obtain ⟨w, t, rfl, p, q⟩ := h
    cases i with
    | zero => simp at e; subst e; exact ⟨x, rfl, p⟩
    | succ i =>
      obtain ⟨u, a, b⟩ := RpA.getV (i := i) q (by simpa using e)
      exact ⟨u, by simpa using a, b⟩
theorem RpA.app {H : Hp} : ∀ {ds es : List D} {vs us : List V}, RpA K H ds vs → RpA K H es us → RpA K H (ds ++ es) (vs ++ us)
  | [], es, vs, us, h, h' => by unfold RpA at h; subst h; exact h'
  | d :: ds, es, vs, us, h, h' => by
    unfold RpA at h
    obtain ⟨v, t, rfl, p, q⟩ := h
    show RpA K H (d :: (ds ++ es)) _
    unfold RpA
    exact ⟨v, t ++ us, rfl, p, RpA.app q h'⟩
theorem RpA.one {H : Hp} {d : D} {v : V} (h : Rp K H d v) : RpA K H [d] [v] := by
  unfold RpA; exact ⟨v, [], rfl, h, by unfold RpA; rfl⟩
theorem RpA.nil {H : Hp} : RpA K H [] [] := by unfold RpA; rfl
theorem RpA.cons {H : Hp} {d : D} {v : V} {ds : List D} {vs : List V} (h : Rp K H d v) (t : RpA K H ds vs) : RpA K H (d :: ds) (v :: vs) := by
  unfold RpA; exact ⟨v, vs, rfl, h, t⟩
theorem RpA.set {H : Hp} : ∀ {ds : List D} {vs : List V} (i : Nat) {d : D} {v : V}, RpA K H ds vs → Rp K H d v → RpA K H (ds.set i d) (vs.set i v)
  | [], vs, i, d, v, h, _ => by unfold RpA at h; subst h; exact RpA.nil
  | x :: ds, vs, i, d, v, h, p => by
    unfold RpA at h
    obtain ⟨w, t, rfl, p', q⟩ := h
    cases i with
    | zero => exact RpA.cons p q
    | succ i => exact RpA.cons p' (RpA.set i q p)
theorem RpA.take {H : Hp} : ∀ {ds : List D} {vs : List V} (n : Nat), RpA K H ds vs → RpA K H (ds.take n) (vs.take n)
  | ds, vs, 0, h => RpA.nil
  | [], vs, n + 1, h => by unfold RpA at h; subst h; exact RpA.nil
  | d :: ds, vs, n + 1, h => by
    unfold RpA at h
    obtain ⟨v, t, rfl, p, q⟩ := h
    exact RpA.cons p (RpA.take n q)
theorem RpA.drop {H : Hp} : ∀ {ds : List D} {vs : List V} (n : Nat), RpA K H ds vs → RpA K H (ds.drop n) (vs.drop n)
  | ds, vs, 0, h => h
  | [], vs, n + 1, h => by unfold RpA at h; subst h; exact RpA.nil
  | d :: ds, vs, n + 1, h => by
    unfold RpA at h
    obtain ⟨v, t, rfl, p, q⟩ := h
    exact RpA.drop n q
theorem RpA.nilV {H : Hp} {vs : List V} (h : RpA K H [] vs) : vs = [] := by unfold RpA at h; exact h
theorem RpA.consV {H : Hp} {d : D} {ds : List D} {vs : List V} (h : RpA K H (d :: ds) vs) : ∃ v t, vs = v :: t ∧ Rp K H d v ∧ RpA K H ds t := by unfold RpA at h; exact h
theorem Rp.intV {H : Hp} {i : Int} {v : V} (h : Rp K H (.int i) v) : v = .int i := h
theorem Rp.blV {H : Hp} {i : Bool} {v : V} (h : Rp K H (.bl i) v) : v = .bl i := h
theorem Rp.strV {H : Hp} {i : Str} {v : V} (h : Rp K H (.str i) v) : v = .str i := h
theorem RpA.ints {H : Hp} : ∀ {ns : List Int} {vs : List V}, RpA K H (ns.map D.int) vs → vs = ns.map V.int
  | [], vs, h => RpA.nilV h
  | n :: ns, vs, h => by
    obtain ⟨v, t, rfl, p, q⟩ := RpA.consV (show RpA K H (.int n :: ns.map D.int) vs from h)
    rw [RpA.ints q, Rp.intV p]; rfl
theorem RpA.ofInts {H : Hp} : ∀ (ns : List Int), RpA K H (ns.map D.int) (ns.map V.int)
  | [] => RpA.nil
  | n :: ns => RpA.cons (by unfold Rp; rfl) (RpA.ofInts ns)
end

/-- a fact of the shared heap that stays -/
structure Tm where
  p : Hp → Prop
  m : ∀ H H', Rl H H' → p H → p H'
def rp (K : PySem.W.Frag) (v : V) (d : D) : Tm := ⟨fun H => Rp K H d v, fun _ _ r h => Rp.mono r d v h⟩
/-! ### slots -/
/-- what is owned: over the shared heap, the value, its own part of the heap -/
abbrev Ow := Hp → V → Hp → Prop
inductive Sl where
  | no | dat (d : D) | own (φ : Ow) | bor (φ : Ow)
/-- borrowed kinds follow both heaps -/
def MonB (φ : Ow) : Prop := ∀ Hb Hb' v G G', Rl Hb Hb' → Rl G G' → φ Hb v G → φ Hb' v G'
structure Act where
  H : Hp
  B : Hp
  G : Hp
section
variable (K : PySem.W.Frag)
structure LcS (A : Act) (δ : List Sl) (σ : St) (H : Hp) (ts : List Tm) (Hb : Hp) (F : Nat → Hp) : Prop where
  eH : Ex A.H H
  eB : Ex A.B Hb
  bH : Ex Hb H
  ap : ∀ a, A.B a = Option.none → A.H a ≠ Option.none → Hb a = Option.none
  len : σ.length = δ.length
  dat : ∀ (i : Nat) (d : D), δ[i]? = some (.dat d) → ∃ v, σ[i]? = some (some v) ∧ Rp K Hb d v
  own : ∀ (i : Nat) (φ : Ow), δ[i]? = some (.own φ) → (∃ v, σ[i]? = some (some v) ∧ φ Hb v (F i)) ∧ Ex (F i) H ∧ ∀ a, F i a ≠ Option.none → Hb a = Option.none ∧ A.H a = Option.none
  dis : ∀ (i j : Nat) (φ ψ : Ow), i ≠ j → δ[i]? = some (.own φ) → δ[j]? = some (.own ψ) → ∀ a, F i a ≠ Option.none → F j a = Option.none
  mon : ∀ (i : Nat) (φ : Ow), δ[i]? = some (.own φ) → ∀ Hb Hb' v F, Rl Hb Hb' → φ Hb v F → φ Hb' v F
  gH : Rk A.G A.H
  bor : ∀ (i : Nat) (φ : Ow), δ[i]? = some (.bor φ) → (∃ v, σ[i]? = some (some v) ∧ φ Hb v A.G) ∧ MonB φ
  tmp : ∀ p ∈ ts, p.p Hb
def Lc (A : Act) (δ : List Sl) (σ : St) (H : Hp) (ts : List Tm) : Prop := ∃ Hb F, LcS K A δ σ H ts Hb F
/-- with one more owned thing at hand -/
def LcO (A : Act) (δ : List Sl) (σ : St) (H : Hp) (ts : List Tm) (φ : Ow) (v : V) : Prop :=
  ∃ Hb F Fv, LcS K A δ σ H ts Hb F ∧ φ Hb v Fv ∧ Ex Fv H ∧ ∀ a, Fv a ≠ Option.none → Hb a = Option.none ∧ A.H a = Option.none ∧ ∀ (i : Nat) (ψ : Ow), δ[i]? = some (.own ψ) → F i a = Option.none
/-- owned kinds follow the growing of the shared heap -/
def Mon (φ : Ow) : Prop := ∀ Hb Hb' v F, Rl Hb Hb' → φ Hb v F → φ Hb' v F
/-- a list of one's own, a dict of one's own (int and text keys), an instance of one's own -/
def oL (ds : List D) : Ow := fun Hb v F => ∃ p vs, v = .ref p ∧ F = sgl p (.lst vs) ∧ RpA K Hb ds vs
def oD (ks : List Key) (ds : List D) : Ow := fun Hb v F => ∃ p vs, v = .ref p ∧ F = sgl p (.dK (ks.zip vs)) ∧ ks.length = vs.length ∧ RpA K Hb ds vs
def oI (p C dx : Addr) (fs : List Str) (ds : List D) : Ow := fun Hb v F => ∃ vs, v = .ref p ∧ p ≠ dx ∧ F = upd (sgl dx (.own p)) p (.ins C dx (fs.zip vs)) ∧ fs.length = vs.length ∧ RpA K Hb ds vs
end
section
variable {K : PySem.W.Frag} {A : Act} {δ : List Sl} {σ : St} {H H' : Hp} {ts : List Tm}
theorem mon_oL {ds : List D} : Mon (oL K ds) := fun Hb Hb' v F r ⟨p, vs, e, f, q⟩ => ⟨p, vs, e, f, RpA.mono r ds vs q⟩
theorem mon_oD {ks : List Key} {ds : List D} : Mon (oD K ks ds) := fun Hb Hb' v F r ⟨p, vs, e, f, z, q⟩ => ⟨p, vs, e, f, z, RpA.mono r ds vs q⟩
theorem mon_oI {p C dx : Addr} {fs : List Str} {ds : List D} : Mon (oI K p C dx fs ds) := fun Hb Hb' v F r ⟨vs, e, n, f, z, q⟩ => ⟨vs, e, n, f, z, RpA.mono r ds vs q⟩
end
end DL

namespace DL
open PySem L2
section
variable {K : PySem.W.Frag} {A : Act} {δ : List Sl} {σ : St} {H H' Hb Hb' : Hp} {ts ts' : List Tm} {F : Nat → Hp}
/-- the shared heap grows by fresh things -/
theorem LcS.grow (L : LcS K A δ σ H ts Hb F) (e : Ex H H') (eb : Ex Hb Hb') (bh : Ex Hb' H') (fr : ∀ a, Hb a = none → Hb' a ≠ none → H a = none) (ht : ∀ p ∈ ts', p.p Hb') : LcS K A δ σ H' ts' Hb' F where
  eH := L.eH.trans e
  eB := L.eB.trans eb
  bH := bh
  ap := fun a h1 h2 => Classical.byContradiction fun q => by
    have h3 := fr a (L.ap a h1 h2) q
    exact h2 (L.eH.none h3)
  len := L.len
  dat := fun i d h => by
    obtain ⟨v, a, b⟩ := L.dat i d h
    exact ⟨v, a, Rp.mono eb.rl d v b⟩
  own := fun i φ h => by
    obtain ⟨⟨v, a, b⟩, c, d⟩ := L.own i φ h
    refine ⟨⟨v, a, L.mon i φ h _ _ _ _ eb.rl b⟩, c.trans e, fun x hx => ⟨Classical.byContradiction fun q => ?_, (d x hx).2⟩⟩
    have h3 := fr x (d x hx).1 q
    exact hx (c.none h3)
  dis := L.dis
  mon := L.mon
  gH := L.gH
  bor := fun i φ h => ⟨let ⟨v, a, b⟩ := (L.bor i φ h).1; ⟨v, a, (L.bor i φ h).2 _ _ _ _ _ eb.rl (Rl.refl _) b⟩, (L.bor i φ h).2⟩
  tmp := ht
theorem LcS.temps (L : LcS K A δ σ H ts Hb F) (ht : ∀ p ∈ ts', p.p Hb) : LcS K A δ σ H ts' Hb F := { L with tmp := ht }
theorem Lc.temps (L : Lc K A δ σ H ts) (h : ∀ p ∈ ts', p ∈ ts ∨ ∀ Hb, p.p Hb) : Lc K A δ σ H ts' := by
  obtain ⟨Hb, F, L⟩ := L
  exact ⟨Hb, F, L.temps fun p hp => (h p hp).elim (L.tmp p) fun q => q Hb⟩
/-- a new immutable thing -/
theorem LcS.laid (L : LcS K A δ σ H ts Hb F) {p : Addr} {o : HO} (hp : H p = none) (ht : ∀ q ∈ ts', q.p (upd Hb p o)) : LcS K A δ σ (upd H p o) ts' (upd Hb p o) F := by
  have hb : Hb p = none := L.bH.none hp
  refine L.grow (Ex.new hp) (Ex.new hb) (fun a u e => ?_) (fun a h1 h2 => ?_) ht
  · by_cases q : a = p
    · subst q; rw [upd_same] at e ⊢; exact e
    · rw [upd_ne q] at e ⊢; exact L.bH a u e
  · by_cases q : a = p
    · subst q; exact hp
    · rw [upd_ne q] at h2; exact absurd h1 h2
/-- a new thing of one's own -/
theorem LcS.made (L : LcS K A δ σ H ts Hb F) {p : Addr} {o : HO} {φ : Ow} {v : V} (hp : H p = none) (hφ : φ Hb v (sgl p o)) : LcO K A δ σ (upd H p o) ts φ v := by
  have hb : Hb p = none := L.bH.none hp
  refine ⟨Hb, F, sgl p o, L.grow (Ex.new hp) (Ex.refl _) (L.bH.trans (Ex.new hp)) (fun a h1 h2 => absurd h1 h2) L.tmp, hφ, fun a u e => ?_, fun a ha => ?_⟩
  · by_cases q : a = p
    · subst q; rw [sgl_same] at e; rw [upd_same]; exact e
    · rw [sgl_ne q] at e; cases e
  · obtain rfl := sgl_at ha
    exact ⟨hb, L.eH.none hp, fun i ψ h => (L.own i ψ h).2.1.none hp⟩
/-- what is one's own is given up: it becomes data -/
theorem LcO.freeze {φ : Ow} {v : V} {d : D} (L : LcO K A δ σ H ts φ v) (hf : ∀ Hb v F, φ Hb v F → (∀ a, F a ≠ none → Hb a = none) → Rp K (uni Hb F) d v) : Lc K A δ σ H (rp K v (d) :: ts) := by
  obtain ⟨Hb, F, Fv, L, hφ, fH, ap⟩ := L
  have dj : ∀ a, Fv a ≠ none → Hb a = none := fun a ha => (ap a ha).1
  have bh : Ex (uni Hb Fv) H := fun a o e => by
    cases q : Hb a with
    | some o' => unfold uni at e; rw [q] at e; cases e; exact L.bH a _ q
    | none => rw [uni_r q] at e; exact fH a o e
  have L2 : LcS K A δ σ H (rp K v (d) :: ts) (uni Hb Fv) F :=
    { eH := L.eH, eB := L.eB.trans uni_l, bH := bh, len := L.len, dis := L.dis, mon := L.mon, gH := L.gH
      bor := fun i φ h => ⟨let ⟨v, a, b⟩ := (L.bor i φ h).1; ⟨v, a, (L.bor i φ h).2 _ _ _ _ _ uni_l.rl (Rl.refl _) b⟩, (L.bor i φ h).2⟩
      ap := fun a h1 h2 => by
        have q := L.ap a h1 h2
        rw [uni_r q]
        exact Classical.byContradiction fun z => h2 (ap a z).2.1
      dat := fun i d h => by
        obtain ⟨v, a, b⟩ := L.dat i d h
        exact ⟨v, a, Rp.mono uni_l.rl d v b⟩
      own := fun i ψ h => by
        obtain ⟨⟨u, a, b⟩, c, e⟩ := L.own i ψ h
        refine ⟨⟨u, a, L.mon i ψ h _ _ _ _ uni_l.rl b⟩, c, fun x hx => ⟨?_, (e x hx).2⟩⟩
        rw [uni_r (e x hx).1]
        exact Classical.byContradiction fun z => hx ((ap x z).2.2 i ψ h)
      tmp := fun p hp => by
        rcases List.mem_cons.mp hp with rfl | hp
        · exact hf Hb v Fv hφ dj
        · exact p.m _ _ uni_l.rl (L.tmp p hp) }
  exact ⟨_, F, L2⟩
theorem froz_oL {ds : List D} : ∀ Hb v F, oL K ds Hb v F → (∀ a, F a ≠ none → Hb a = none) → Rp K (uni Hb F) (.lst ds) v := fun Hb v F ⟨p, vs, e, f, q⟩ dj => by
  subst f
  have hp : Hb p = none := dj p (by rw [sgl_same]; exact fun z => nomatch z)
  unfold Rp
  exact ⟨p, vs, e, .inl (.inl (by rw [uni_r hp, sgl_same])), RpA.mono uni_l.rl ds vs q⟩
theorem froz_oD {ks : List Key} {ds : List D} : ∀ Hb v F, oD K ks ds Hb v F → (∀ a, F a ≠ none → Hb a = none) → Rp K (uni Hb F) (.dic ks ds) v := fun Hb v F ⟨p, vs, e, f, z, q⟩ dj => by
  subst f
  have hp : Hb p = none := dj p (by rw [sgl_same]; exact fun z => nomatch z)
  unfold Rp
  exact ⟨p, vs, e, .inl (by rw [uni_r hp, sgl_same]), z, RpA.mono uni_l.rl ds vs q⟩
theorem froz_oI {p C dx : Addr} {fs : List Str} {ds : List D} : ∀ Hb v F, oI K p C dx fs ds Hb v F → (∀ a, F a ≠ none → Hb a = none) → Rp K (uni Hb F) (.ins C fs ds) v := fun Hb v F ⟨vs, e, n, f, z, q⟩ dj => by
  subst f
  have hp : Hb p = none := dj p (by rw [upd_same]; exact fun z => nomatch z)
  unfold Rp
  exact ⟨p, dx, vs, e, by rw [uni_r hp, upd_same], z, RpA.mono uni_l.rl ds vs q⟩
end

/-! ### judgements -/
section
variable (K : PySem.W.Frag)
def EvD (te : TE) (δ : List Sl) (d : D) : Prop := ∀ A σ H ts, Lc K A δ σ H ts → ∀ Q : VK, (∀ v H2, Lc K A δ σ H2 (rp K v (d) :: ts) → Q v H2) → te σ H Q
def EvN (te : TE) (δ : List Sl) (φ : Ow) : Prop := ∀ A σ H ts, Lc K A δ σ H ts → ∀ Q : VK, (∀ v H2, LcO K A δ σ H2 ts φ v → Q v H2) → te σ H Q
def EvT (tt : TT) (δ : List Sl) (b : Bool) : Prop := ∀ A σ H ts, Lc K A δ σ H ts → ∀ Q : Bool → Hp → Prop, (∀ H2, Lc K A δ σ H2 ts → Q b H2) → tt σ H Q
def EvA (ta : TA) (δ : List Sl) (ds : List D) : Prop := ∀ A σ H ts, Lc K A δ σ H ts → ∀ Q : List V → Hp → Prop, (∀ vs H2, vs.length = ds.length → Lc K A δ σ H2 (List.zipWith (rp K) vs ds ++ ts) → Q vs H2) → ta σ H Q
/-- a two-place operation on data, a call on data -/
def Op2 (r : R2) (x y z : D) : Prop := ∀ Hb H v u (Q : VK), Ex Hb H → Rp K Hb x v → Rp K Hb y u → (∀ w, (∀ Hb, Rp K Hb z w) → Q w H) → r v u H Q
end
section
variable {K : PySem.W.Frag} {δ : List Sl} {ta tb te tx : TE} {tt tu : TT} {x y z d : D} {b : Bool}
theorem EvN.dat {φ : Ow} (h : EvN K te δ φ) (hf : ∀ Hb v F, φ Hb v F → (∀ a, F a ≠ none → Hb a = none) → Rp K (uni Hb F) d v) : EvD K te δ d := fun A σ H ts L Q q => h A σ H ts L Q fun v H2 LO => q v H2 (LO.freeze hf)
theorem EvN.lst {ds : List D} (h : EvN K te δ (oL K ds)) : EvD K te δ (.lst ds) := h.dat froz_oL
theorem EvN.dic {ks : List Key} {ds : List D} (h : EvN K te δ (oD K ks ds)) : EvD K te δ (.dic ks ds) := h.dat froz_oD
theorem ev_var {i : Nat} (h : δ[i]? = some (.dat d)) : EvD K (tVar i) δ d := fun A σ H ts L Q q => by
  obtain ⟨Hb, F, L⟩ := L
  obtain ⟨v, e, r⟩ := L.dat i d h
  exact ⟨v, e, q v H ⟨Hb, F, L.temps fun p hp => (List.mem_cons.mp hp).elim (fun z => by rw [z]; exact r) (L.tmp p)⟩⟩
theorem ev_lit {v : V} (h : ∀ Hb, Rp K Hb d v) : EvD K (tC v) δ d := fun A σ H ts L Q q => q v H (L.temps fun p hp => (List.mem_cons.mp hp).elim (fun z => .inr (by rw [z]; exact h)) .inl)
theorem ev_int {i : Int} : EvD K (tC (.int i)) δ (.int i) := ev_lit fun _ => by unfold Rp; rfl
theorem ev_str {i : Str} : EvD K (tC (.str i)) δ (.str i) := ev_lit fun _ => by unfold Rp; rfl
theorem ev_bl {i : Bool} : EvD K (tC (.bl i)) δ (.bl i) := ev_lit fun _ => by unfold Rp; rfl
theorem ev_non : EvD K (tC .non) δ .non := ev_lit fun _ => by unfold Rp; rfl
theorem ev_ref {i : Addr} : EvD K (tC (.ref i)) δ (.ref i) := ev_lit fun _ => by unfold Rp; rfl
theorem ev_ty {i : String} : EvD K (tC (.ty i)) δ (.ty i) := ev_lit fun _ => by unfold Rp; rfl
/-- two operands, a scalar answer -/
theorem ev_op2 {r : R2} (ha : EvD K ta δ x) (hb : EvD K tb δ y) (hr : Op2 K r x y z) : EvD K (tOp r ta tb) δ z := fun A σ H ts L Q q =>
  ha A σ H ts L _ fun v H1 L1 => hb A σ H1 _ L1 _ fun u H2 L2 => by
    obtain ⟨Hb, F, L2⟩ := L2
    have hv : Rp K Hb x v := L2.tmp (rp K v (x)) (by simp)
    have hu : Rp K Hb y u := L2.tmp (rp K u (y)) (by simp)
    exact hr Hb H2 v u Q L2.bH hv hu fun w hw => q w H2 ⟨Hb, F, L2.temps fun p hp => (List.mem_cons.mp hp).elim (fun z => by rw [z]; exact hw Hb) fun hp => L2.tmp p (by simp [hp])⟩
theorem op_I {C : Int → Int → Prop} {g : Int → Int → V} {i j : Int} (hc : C i j) (hz : ∀ Hb, Rp K Hb z (g i j)) : Op2 K (rI C g) (.int i) (.int j) z := fun Hb H v u Q e hv hu q => ⟨i, j, hv, hu, hc, q _ hz⟩
theorem op_I0 {g : Int → Int → V} {i j : Int} (hz : ∀ Hb, Rp K Hb z (g i j)) : Op2 K (rI0 g) (.int i) (.int j) z := fun Hb H v u Q e hv hu q => ⟨i, j, hv, hu, q _ hz⟩
/-- what is read out of something: the answer is data that stood there -/
def Op2r (K : PySem.W.Frag) (r : R2) (x y z : D) : Prop := ∀ Hb H v u (Q : VK), Ex Hb H → Rp K Hb x v → Rp K Hb y u → (∀ w, Rp K Hb z w → Q w H) → r v u H Q
theorem ev_op2r {r : R2} (ha : EvD K ta δ x) (hb : EvD K tb δ y) (hr : Op2r K r x y z) : EvD K (tOp r ta tb) δ z := fun A σ H ts L Q q =>
  ha A σ H ts L _ fun v H1 L1 => hb A σ H1 _ L1 _ fun u H2 L2 => by
    obtain ⟨Hb, F, L2⟩ := L2
    have hv : Rp K Hb x v := L2.tmp (rp K v (x)) (by simp)
    have hu : Rp K Hb y u := L2.tmp (rp K u (y)) (by simp)
    exact hr Hb H2 v u Q L2.bH hv hu fun w hw => q w H2 ⟨Hb, F, L2.temps fun p hp => (List.mem_cons.mp hp).elim (fun z => by rw [z]; exact hw) fun hp => L2.tmp p (by simp [hp])⟩
theorem et_test (h : EvD K te δ (.bl b)) : EvT K (tTest te) δ b := fun A σ H ts L Q q => h A σ H ts L _ fun v H2 L2 => by
  obtain ⟨Hb, F, L2⟩ := L2
  have hv : v = .bl b := L2.tmp (rp K v (.bl b)) (by simp)
  exact ⟨b, hv, q H2 ⟨Hb, F, L2.temps fun p hp => L2.tmp p (by simp [hp])⟩⟩
theorem et_and {a : Bool} (h1 : EvT K tt δ a) (h2 : a = true → EvT K tu δ b) : EvT K (tAnd tt tu) δ (a && b) := fun A σ H ts L Q q => h1 A σ H ts L _ fun H1 L1 => by
  cases a with
  | true => rw [if_pos rfl]; exact h2 rfl A σ H1 ts L1 Q q
  | false => rw [if_neg Bool.false_ne_true]; exact q H1 L1
theorem et_or {a : Bool} (h1 : EvT K tt δ a) (h2 : a = false → EvT K tu δ b) : EvT K (tOr tt tu) δ (a || b) := fun A σ H ts L Q q => h1 A σ H ts L _ fun H1 L1 => by
  cases a with
  | true => rw [if_pos rfl]; exact q H1 L1
  | false => rw [if_neg Bool.false_ne_true]; exact h2 rfl A σ H1 ts L1 Q q
theorem et_not {a : Bool} (h1 : EvT K tt δ a) : EvT K (tNot tt) δ (!a) := fun A σ H ts L Q q => h1 A σ H ts L _ fun H1 L1 => q H1 L1
theorem ev_if {a : Bool} (h1 : EvT K tt δ a) (h2 : a = true → EvD K ta δ d) (h3 : a = false → EvD K tb δ d) : EvD K (tIf tt ta tb) δ d := fun A σ H ts L Q q => h1 A σ H ts L _ fun H1 L1 => by
  cases a with
  | true => rw [if_pos rfl]; exact h2 rfl A σ H1 ts L1 Q q
  | false => rw [if_neg Bool.false_ne_true]; exact h3 rfl A σ H1 ts L1 Q q
theorem ev_andV {a : Bool} (h1 : EvD K ta δ (.bl a)) (h2 : a = true → EvD K tb δ (.bl b)) : EvD K (tAndV ta tb) δ (.bl (a && b)) := fun A σ H ts L Q q => h1 A σ H ts L _ fun v H1 L1 => by
  obtain ⟨Hb, F, L1⟩ := L1
  have hv : v = .bl a := L1.tmp (rp K v (.bl a)) (by simp)
  refine ⟨a, hv, ?_⟩
  have L3 : LcS K A δ σ H1 ts Hb F := L1.temps fun p hp => L1.tmp p (by simp [hp])
  cases a with
  | true => rw [if_pos rfl]; exact h2 rfl A σ H1 ts ⟨Hb, F, L3⟩ Q q
  | false => rw [if_neg Bool.false_ne_true]; exact q _ H1 ⟨Hb, F, L3.temps fun p hp => (List.mem_cons.mp hp).elim (fun z => by rw [z]; show Rp K Hb _ _; unfold Rp; rfl) (L3.tmp p)⟩
theorem ev_orV {a : Bool} (h1 : EvD K ta δ (.bl a)) (h2 : a = false → EvD K tb δ (.bl b)) : EvD K (tOrV ta tb) δ (.bl (a || b)) := fun A σ H ts L Q q => h1 A σ H ts L _ fun v H1 L1 => by
  obtain ⟨Hb, F, L1⟩ := L1
  have hv : v = .bl a := L1.tmp (rp K v (.bl a)) (by simp)
  refine ⟨a, hv, ?_⟩
  have L3 : LcS K A δ σ H1 ts Hb F := L1.temps fun p hp => L1.tmp p (by simp [hp])
  cases a with
  | true => rw [if_pos rfl]; exact q _ H1 ⟨Hb, F, L3.temps fun p hp => (List.mem_cons.mp hp).elim (fun z => by rw [z]; show Rp K Hb _ _; unfold Rp; rfl) (L3.tmp p)⟩
  | false => rw [if_neg Bool.false_ne_true]; exact h2 rfl A σ H1 ts ⟨Hb, F, L3⟩ Q q
theorem ev_notV {a : Bool} (h1 : EvD K ta δ (.bl a)) : EvD K (tNotV ta) δ (.bl (!a)) := fun A σ H ts L Q q => h1 A σ H ts L _ fun v H1 L1 => by
  obtain ⟨Hb, F, L1⟩ := L1
  have hv : v = .bl a := L1.tmp (rp K v (.bl a)) (by simp)
  exact ⟨a, hv, q _ H1 ⟨Hb, F, L1.temps fun p hp => (List.mem_cons.mp hp).elim (fun z => by rw [z]; show Rp K Hb _ _; unfold Rp; rfl) fun hp => L1.tmp p (by simp [hp])⟩⟩
theorem ev_is {d' : D} (h : EvD K te δ d) (e : d = d') : EvD K te δ d' := e ▸ h
theorem et_is {b' : Bool} (h : EvT K tt δ b) (e : b = b') : EvT K tt δ b' := e ▸ h
theorem ea_nil : EvA K tNil δ [] := fun A σ H ts L Q q => q [] H rfl L
theorem ea_cons {tr : TA} {ds : List D} (h : EvD K te δ d) (hr : EvA K tr δ ds) : EvA K (tCons te tr) δ (d :: ds) := fun A σ H ts L Q q =>
  h A σ H ts L _ fun v H1 L1 => hr A σ H1 _ L1 _ fun vs H2 hl L2 => q (v :: vs) H2 (by simp [hl]) (L2.temps fun p hp => .inl (by
    simp only [List.zipWith_cons_cons, List.cons_append, List.mem_cons, List.mem_append] at hp ⊢
    rcases hp with hp | hp | hp
    · exact .inr (.inl hp)
    · exact .inl hp
    · exact .inr (.inr hp)))
theorem rpa_zip {Hb : Hp} : ∀ {vs : List V} {ds : List D}, vs.length = ds.length → (∀ p ∈ List.zipWith (rp K) vs ds, p.p Hb) → RpA K Hb ds vs
  | [], [], _, _ => RpA.nil
  | [], _ :: _, h, _ => by simp at h
  | _ :: _, [], h, _ => by simp at h
  | v :: vs, d :: ds, h, f => RpA.cons (f (rp K v d) (by simp)) (rpa_zip (by simpa using h) fun p hp => f p (by simp [hp]))
theorem EvA.rpa {ta : TA} {ds : List D} (h : EvA K ta δ ds) {A σ H ts} (L : Lc K A δ σ H ts) (Q : List V → Hp → Prop) (q : ∀ vs H2 Hb F, LcS K A δ σ H2 ts Hb F → RpA K Hb ds vs → Q vs H2) : ta σ H Q :=
  h A σ H ts L Q fun vs H2 hl ⟨Hb, F, L2⟩ => q vs H2 Hb F (L2.temps fun p hp => L2.tmp p (by simp [hp])) (rpa_zip hl fun p hp => L2.tmp p (by simp [hp]))
/-- (a, b, ..) -/
theorem ev_tup {ta : TA} {ds : List D} (h : EvA K ta δ ds) (hl : ds.length ≤ 1000000) : EvD K (tTup ta) δ (.tup ds) := fun A σ H ts L Q q => h.rpa L _ fun vs H2 Hb F L2 r => by
  refine ⟨by rw [← r.len, sizeLine_eq]; omega, fun p hp => q _ _ ⟨_, F, L2.laid hp fun x hx => ?_⟩⟩
  have hb : Hb p = none := L2.bH.none hp
  rcases List.mem_cons.mp hx with rfl | hx
  · show Rp K _ _ _; unfold Rp; exact ⟨p, vs, rfl, .inl (.inl upd_same), RpA.mono (Ex.new hb).rl _ _ r⟩
  · exact x.m _ _ (Ex.new hb).rl (L2.tmp x hx)
/-- [a, b, ..] -/
theorem en_lst {ta : TA} {ds : List D} (h : EvA K ta δ ds) (hl : ds.length ≤ 1000000) : EvN K (tLst ta) δ (oL K ds) := fun A σ H ts L Q q => h.rpa L _ fun vs H2 Hb F L2 r => by
  exact ⟨by rw [← r.len, sizeLine_eq]; omega, fun p hp => q _ _ (L2.made hp ⟨p, vs, rfl, rfl, r⟩)⟩
/-- a built-in's call with a scalar answer, by data -/
def OpN (K : PySem.W.Frag) (r : List V → Hp → VK → Prop) (ds : List D) (z : D) : Prop := ∀ Hb H vs (Q : VK), Ex Hb H → RpA K Hb ds vs → (∀ w, Rp K Hb z w → Q w H) → r vs H Q
theorem ev_cb {ta : TA} {ds : List D} {r : List V → Hp → VK → Prop} (h : EvA K ta δ ds) (hr : OpN K r ds z) : EvD K (tCB r ta) δ z := fun A σ H ts L Q q => h.rpa L _ fun vs H2 Hb F L2 rr =>
  hr Hb H2 vs Q L2.bH rr fun w hw => q w H2 ⟨Hb, F, L2.temps fun p hp => (List.mem_cons.mp hp).elim (fun z => by rw [z]; exact hw) (L2.tmp p)⟩
end
end DL

namespace DL
open PySem L2
/-- an exception as data: its class, its fields -/
structure XD where
  C : Addr
  fs : List Str
  ds : List D
structure DE where
  nx : List Sl → Prop
  rt : Sl → List Sl → Prop
  bk : List Sl → Prop := fun _ => False
  ct : List Sl → Prop := fun _ => False
  ex : XD → List Sl → Prop := fun _ _ => False
section
variable (K : PySem.W.Frag)
def LcR (A : Act) (δ : List Sl) (σ : St) (H : Hp) (ts : List Tm) : Sl → V → Prop
  | .dat d, v => Lc K A δ σ H (rp K v d :: ts)
  | .own φ, v => Mon φ ∧ LcO K A δ σ H ts φ v
  | .no, _ => False
  | .bor _, _ => False
def XOk (A : Act) (ts : List Tm) (x : XD) (δ : List Sl) (cls : Value) (d : Option Addr) (σ : St) (H : Hp) : Prop :=
  ∃ Hb F dd vs, LcS K A δ σ H ts Hb F ∧ cls = .ref x.C ∧ d = some dd ∧ H dd = some (.xd (x.fs.zip vs)) ∧ x.fs.length = vs.length ∧ RpA K Hb x.ds vs ∧ A.H dd = none ∧ Hb dd = none ∧ ∀ (i : Nat) (φ : Ow), δ[i]? = some (.own φ) → F i dd = none
structure Cov (A : Act) (E : DE) (T : Ends) (W : WX) (ts : List Tm) : Prop where
  nx : ∀ δ σ H, E.nx δ → Lc K A δ σ H ts → T.nx σ H
  rt : ∀ r δ σ H v, E.rt r δ → LcR K A δ σ H ts r v → T.rt v H
  bk : ∀ δ σ H, E.bk δ → Lc K A δ σ H ts → T.bk σ H
  ct : ∀ δ σ H, E.ct δ → Lc K A δ σ H ts → T.ct σ H
  ex : ∀ x δ σ H cls d, E.ex x δ → XOk K A ts x δ cls d σ H → W cls d σ H
/-- the statement, from the slots δ -/
def SD (W : WX) (ts : TS) (E : DE) (δ : List Sl) : Prop := ∀ A σ H (fs : List Tm), Lc K A δ σ H fs → ∀ T, Cov K A E T W fs → ts T σ H
/-- the expression raises x -/
def EvX (W : WX) (te : TE) (δ : List Sl) (x : XD) : Prop := ∀ A σ H ts, Lc K A δ σ H ts → (∀ cls d H2, XOk K A ts x δ cls d σ H2 → W cls d σ H2) → ∀ Q : VK, te σ H Q
end
section
variable {K : PySem.W.Frag} {W : WX} {E : DE} {δ : List Sl} {ta tb te : TE} {tt : TT} {t1 t2 t3 : TS} {d : D} {b : Bool} {i : Nat}
theorem bor_set {δ : List Sl} {j k : Nat} {s : Sl} {φ : Ow} (hs : ∀ ψ, s ≠ .bor ψ) (h : (δ.set j s)[k]? = some (.bor φ)) : δ[k]? = some (.bor φ) ∧ k ≠ j := by
  rw [List.getElem?_set] at h
  by_cases q : j = k
  · rw [if_pos q] at h
    split at h
    · cases h; exact absurd rfl (hs φ)
    · cases h
  · rw [if_neg q] at h; exact ⟨h, fun z => q z.symm⟩
theorem Lc.set {A σ H ts v} (L : Lc K A δ σ H (rp K v (d) :: ts)) (i : Nat) : Lc K A (δ.set i (.dat d)) (σ.set i (some v)) H ts := by
  obtain ⟨Hb, F, L⟩ := L
  have hl := L.len
  have nown : ∀ {j : Nat} {φ : Ow}, (δ.set i (.dat d))[j]? = some (.own φ) → δ[j]? = some (.own φ) ∧ j ≠ i := fun {j φ} h => by
    rw [List.getElem?_set] at h
    by_cases q : i = j
    · rw [if_pos q] at h
      split at h <;> simp at h
    · rw [if_neg q] at h; exact ⟨h, fun z => q z.symm⟩
  refine ⟨Hb, F, { L with len := by simp [hl], dat := fun j e h => ?_, own := fun j φ h => ?_, dis := fun j k φ ψ n h1 h2 => L.dis j k φ ψ n (nown h1).1 (nown h2).1, mon := fun j φ h => L.mon j φ (nown h).1, bor := fun j φ h => ⟨let ⟨u, a, b⟩ := (L.bor j φ (bor_set (by intro _ z; cases z) h).1).1; ⟨u, by rw [List.getElem?_set, if_neg (fun z => (bor_set (by intro _ z; cases z) h).2 z.symm)]; exact a, b⟩, (L.bor j φ (bor_set (by intro _ z; cases z) h).1).2⟩, tmp := fun p hp => L.tmp p (by simp [hp]) }⟩
  · rw [List.getElem?_set] at h ⊢
    by_cases q : i = j
    · subst q
      rw [if_pos rfl] at h ⊢
      by_cases z : i < δ.length
      · rw [if_pos z] at h
        rw [if_pos (by rw [hl]; exact z)]
        cases h
        exact ⟨v, rfl, L.tmp (rp K v (d)) (by simp)⟩
      · rw [if_neg z] at h; cases h
    · rw [if_neg q] at h ⊢
      exact L.dat j e h
  · obtain ⟨h1, h2⟩ := nown h
    obtain ⟨⟨u, a, c⟩, r⟩ := L.own j φ h1
    exact ⟨⟨u, by rw [List.getElem?_set, if_neg (fun z => h2 z.symm)]; exact a, c⟩, r⟩
theorem LcO.set {A σ H ts v φ} (L : LcO K A δ σ H ts φ v) (m : Mon φ) (i : Nat) : Lc K A (δ.set i (.own φ)) (σ.set i (some v)) H ts := by
  obtain ⟨Hb, F, Fv, L, hφ, fH, ap⟩ := L
  have hl := L.len
  have key : ∀ {j : Nat} {ψ : Ow}, (δ.set i (.own φ))[j]? = some (.own ψ) → (j = i ∧ ψ = φ ∧ i < δ.length) ∨ (j ≠ i ∧ δ[j]? = some (.own ψ)) := fun {j ψ} h => by
    rw [List.getElem?_set] at h
    by_cases q : i = j
    · subst q
      rw [if_pos rfl] at h
      by_cases z : i < δ.length
      · rw [if_pos z] at h; cases h; exact .inl ⟨rfl, rfl, z⟩
      · rw [if_neg z] at h; cases h
    · rw [if_neg q] at h; exact .inr ⟨fun z => q z.symm, h⟩
  refine ⟨Hb, fun j => if j = i then Fv else F j, { L with len := by simp [hl], dat := fun j e h => ?_, own := fun j ψ h => ?_, dis := fun j k ψ χ n h1 h2 => ?_, mon := fun j ψ h => ?_, bor := fun j φ h => ⟨let ⟨u, a, b⟩ := (L.bor j φ (bor_set (by intro _ z; cases z) h).1).1; ⟨u, by rw [List.getElem?_set, if_neg (fun z => (bor_set (by intro _ z; cases z) h).2 z.symm)]; exact a, b⟩, (L.bor j φ (bor_set (by intro _ z; cases z) h).1).2⟩ }⟩
  · rw [List.getElem?_set] at h ⊢
    by_cases q : i = j
    · subst q
      rw [if_pos rfl] at h
      split at h <;> simp at h
    · rw [if_neg q] at h ⊢
      exact L.dat j e h
  · rcases key h with ⟨rfl, rfl, z⟩ | ⟨n, h1⟩
    · rw [if_pos rfl, List.getElem?_set, if_pos rfl, if_pos (by rw [hl]; exact z)]
      exact ⟨⟨v, rfl, hφ⟩, fH, fun a ha => ⟨(ap a ha).1, (ap a ha).2.1⟩⟩
    · rw [if_neg n, List.getElem?_set, if_neg (fun z => n z.symm)]
      exact L.own j ψ h1
  · intro a ha
    rcases key h1 with ⟨rfl, rfl, z⟩ | ⟨n1, g1⟩
    · rcases key h2 with ⟨rfl, _, _⟩ | ⟨n2, g2⟩
      · exact absurd rfl n
      · rw [if_pos rfl] at ha
        rw [if_neg n2]
        exact (ap a ha).2.2 k χ g2
    · rw [if_neg n1] at ha
      rcases key h2 with ⟨rfl, _, _⟩ | ⟨n2, g2⟩
      · rw [if_pos rfl]
        exact Classical.byContradiction fun z => ha ((ap a z).2.2 j ψ g1)
      · rw [if_neg n2]
        exact L.dis j k ψ χ n g1 g2 a ha
  · rcases key h with ⟨rfl, rfl, z⟩ | ⟨n, h1⟩
    · exact m
    · exact L.mon j ψ h1
theorem sd_seq (h : SD K W t1 { E with nx := fun δ' => SD K W t2 E δ' } δ) : SD K W (tSeq t1 t2) E δ := fun A σ H ts L T c =>
  h A σ H ts L { T with nx := t2 T } ⟨fun δ' σ' H' h' L' => h' A σ' H' ts L' T c, c.rt, c.bk, c.ct, c.ex⟩
theorem sd_next (h : E.nx δ) : SD K W tNext E δ := fun A σ H ts L T c => c.nx δ σ H h L
theorem sd_brk (h : E.bk δ) : SD K W tBreak E δ := fun A σ H ts L T c => c.bk δ σ H h L
theorem sd_cont (h : E.ct δ) : SD K W tCont E δ := fun A σ H ts L T c => c.ct δ σ H h L
theorem sd_asg (he : EvD K te δ d) (h : E.nx (δ.set i (.dat d))) : SD K W (tAsg te (gName i)) E δ := fun A σ H ts L T c =>
  he A σ H ts L _ fun v H2 L2 => c.nx _ _ H2 h (L2.set i)
theorem sd_asgN {φ : Ow} (he : EvN K te δ φ) (m : Mon φ) (h : E.nx (δ.set i (.own φ))) : SD K W (tAsg te (gName i)) E δ := fun A σ H ts L T c =>
  he A σ H ts L _ fun v H2 L2 => c.nx _ _ H2 h (L2.set m i)
theorem sd_ret (he : EvD K te δ d) (h : E.rt (.dat d) δ) : SD K W (tRet te) E δ := fun A σ H ts L T c => he A σ H ts L _ fun v H2 L2 => c.rt (.dat d) δ σ H2 v h L2
theorem sd_retN {φ : Ow} (he : EvN K te δ φ) (m : Mon φ) (h : E.rt (.own φ) δ) : SD K W (tRet te) E δ := fun A σ H ts L T c => he A σ H ts L _ fun v H2 L2 => c.rt (.own φ) δ σ H2 v h ⟨m, L2⟩
theorem sd_if (ht : EvT K tt δ b) (h1 : b = true → SD K W t1 E δ) (h2 : b = false → SD K W t2 E δ) : SD K W (tIfS tt t1 t2) E δ := fun A σ H ts L T c =>
  ht A σ H ts L _ fun H2 L2 => by
    cases b with
    | true => rw [if_pos rfl]; exact h1 rfl A σ H2 ts L2 T c
    | false => rw [if_neg Bool.false_ne_true]; exact h2 rfl A σ H2 ts L2 T c
theorem sd_drop (he : EvD K te δ d) (h : E.nx δ) : SD K W (tDrop te) E δ := fun A σ H ts L T c => he A σ H ts L _ fun v H2 L2 => c.nx δ σ H2 h (L2.temps fun p hp => .inl (by simp [hp]))
theorem sd_mono {E' : DE} (h : SD K W t1 E δ) (hn : ∀ δ', E.nx δ' → E'.nx δ') (hr : ∀ r δ', E.rt r δ' → E'.rt r δ') (hb : ∀ δ', E.bk δ' → E'.bk δ') (hc : ∀ δ', E.ct δ' → E'.ct δ') (hx : ∀ x δ', E.ex x δ' → E'.ex x δ') : SD K W t1 E' δ :=
  fun A σ H ts L T c => h A σ H ts L T ⟨fun δ σ H q => c.nx δ σ H (hn δ q), fun r δ σ H v q => c.rt r δ σ H v (hr r δ q), fun δ σ H q => c.bk δ σ H (hb δ q), fun δ σ H q => c.ct δ σ H (hc δ q), fun x δ σ H cls d q => c.ex x δ σ H cls d (hx x δ q)⟩
/-- what is one's own in slot i, given up -/
theorem Lc.frz {A σ H ts φ} (L : Lc K A δ σ H ts) (h : δ[i]? = some (.own φ)) (hf : ∀ Hb v F, φ Hb v F → (∀ a, F a ≠ none → Hb a = none) → Rp K (uni Hb F) d v) : Lc K A (δ.set i (.dat d)) σ H ts := by
  obtain ⟨Hb, F, L⟩ := L
  obtain ⟨⟨v, hv, hφ⟩, fH, ap⟩ := L.own i φ h
  have hli : i < δ.length := (List.getElem?_eq_some_iff.mp h).1
  have nown : ∀ {j : Nat} {ψ : Ow}, (δ.set i (.dat d))[j]? = some (.own ψ) → δ[j]? = some (.own ψ) ∧ j ≠ i := fun {j ψ} h => by
    rw [List.getElem?_set] at h
    by_cases q : i = j
    · rw [if_pos q] at h
      split at h <;> simp at h
    · rw [if_neg q] at h; exact ⟨h, fun z => q z.symm⟩
  have bh : Ex (uni Hb (F i)) H := fun a o e => by
    cases q : Hb a with
    | some o' => unfold uni at e; rw [q] at e; cases e; exact L.bH a _ q
    | none => rw [uni_r q] at e; exact fH a o e
  refine ⟨uni Hb (F i), F, { eH := L.eH, eB := L.eB.trans uni_l, bH := bh, len := by simp [L.len], dis := fun j k φ ψ n h1 h2 => L.dis j k φ ψ n (nown h1).1 (nown h2).1, mon := fun j φ h => L.mon j φ (nown h).1, gH := L.gH, bor := fun j φ h => ⟨let ⟨u, a, b⟩ := (L.bor j φ (bor_set (by intro _ z; cases z) h).1).1; ⟨u, a, (L.bor j φ (bor_set (by intro _ z; cases z) h).1).2 _ _ _ _ _ uni_l.rl (Rl.refl _) b⟩, (L.bor j φ (bor_set (by intro _ z; cases z) h).1).2⟩, ap := fun a h1 h2 => ?_, dat := fun j e h => ?_, own := fun j ψ h => ?_, tmp := fun p hp => p.m _ _ uni_l.rl (L.tmp p hp) }⟩
  · have q := L.ap a h1 h2
    rw [uni_r q]
    exact Classical.byContradiction fun z => h2 (ap a z).2
  · rw [List.getElem?_set] at h
    by_cases q : i = j
    · subst q
      rw [if_pos rfl, if_pos hli] at h
      cases h
      exact ⟨v, hv, hf Hb v (F i) hφ fun a ha => (ap a ha).1⟩
    · rw [if_neg q] at h
      obtain ⟨u, a, c⟩ := L.dat j e h
      exact ⟨u, a, Rp.mono uni_l.rl _ _ c⟩
  · obtain ⟨h1, h2⟩ := nown h
    obtain ⟨⟨u, a, c⟩, r, s⟩ := L.own j ψ h1
    refine ⟨⟨u, a, L.mon j ψ h1 _ _ _ _ uni_l.rl c⟩, r, fun x hx => ⟨?_, (s x hx).2⟩⟩
    rw [uni_r (s x hx).1]
    exact L.dis j i ψ φ h2 h1 (by assumption) x hx
theorem sd_frz {φ : Ow} (hi : δ[i]? = some (.own φ)) (hf : ∀ Hb v F, φ Hb v F → (∀ a, F a ≠ none → Hb a = none) → Rp K (uni Hb F) d v) (h : SD K W t1 E (δ.set i (.dat d))) : SD K W t1 E δ := fun A σ H ts L T c => h A σ H ts (L.frz hi hf) T c
theorem sd_frzL {ds : List D} (hi : δ[i]? = some (.own (oL K ds))) (h : SD K W t1 E (δ.set i (.dat (.lst ds)))) : SD K W t1 E δ := sd_frz hi froz_oL h
theorem sd_frzD {ks : List Key} {ds : List D} (hi : δ[i]? = some (.own (oD K ks ds))) (h : SD K W t1 E (δ.set i (.dat (.dic ks ds)))) : SD K W t1 E δ := sd_frz hi froz_oD h
/-- returning what one owns -/
theorem sd_retO {φ : Ow} (hi : δ[i]? = some (.own φ)) (h : E.rt (.own φ) (δ.set i .no)) : SD K W (tRet (tVar i)) E δ := fun A σ H ts L T c => by
  obtain ⟨Hb, F, L⟩ := L
  obtain ⟨⟨v, hv, hφ⟩, fH, ap⟩ := L.own i φ hi
  have nown : ∀ {j : Nat} {s : Sl}, (δ.set i .no)[j]? = some s → s ≠ .no → δ[j]? = some s ∧ j ≠ i := fun {j s} h ns => by
    rw [List.getElem?_set] at h
    by_cases q : i = j
    · rw [if_pos q] at h
      split at h
      · cases h; exact absurd rfl ns
      · cases h
    · rw [if_neg q] at h; exact ⟨h, fun z => q z.symm⟩
  refine ⟨v, hv, c.rt (.own φ) (δ.set i .no) σ H v h ⟨L.mon i φ hi, Hb, F, F i, { L with len := by simp [L.len], dat := fun j e h => L.dat j e (nown h (by intro z; cases z)).1, own := fun j ψ h => L.own j ψ (nown h (by intro z; cases z)).1, dis := fun j k φ ψ n h1 h2 => L.dis j k φ ψ n (nown h1 (by intro z; cases z)).1 (nown h2 (by intro z; cases z)).1, mon := fun j φ h => L.mon j φ (nown h (by intro z; cases z)).1, bor := fun j φ h => L.bor j φ (nown h (by intro z; cases z)).1 }, hφ, fH, fun a ha => ⟨(ap a ha).1, (ap a ha).2, fun j ψ h => ?_⟩⟩⟩
  have hj := nown h (by intro z; cases z)
  exact L.dis i j φ ψ (fun z => hj.2 z.symm) hi hj.1 a ha
/-- a thing of one's own is changed -/
theorem LcS.chg {A σ H ts Hb F φ ψ} (L : LcS K A δ σ H ts Hb F) (hi : δ[i]? = some (.own φ)) {H' F' : Hp} {v : V} (keep : ∀ a o, H a = some o → F i a = none → H' a = some o) (fe : Ex F' H') (fn : ∀ a, F' a ≠ none → F i a ≠ none ∨ H a = none)
    (hv : σ[i]? = some (some v)) (hψ : ψ Hb v F') (m : Mon ψ) : Lc K A (δ.set i (.own ψ)) σ H' ts := by
  obtain ⟨⟨u, hu, hφ⟩, fH, ap⟩ := L.own i φ hi
  have hli : i < δ.length := (List.getElem?_eq_some_iff.mp hi).1
  have key : ∀ {j : Nat} {χ : Ow}, (δ.set i (.own ψ))[j]? = some (.own χ) → (j = i ∧ χ = ψ) ∨ (j ≠ i ∧ δ[j]? = some (.own χ)) := fun {j χ} h => by
    rw [List.getElem?_set] at h
    by_cases q : i = j
    · subst q
      rw [if_pos rfl, if_pos hli] at h; cases h; exact .inl ⟨rfl, rfl⟩
    · rw [if_neg q] at h; exact .inr ⟨fun z => q z.symm, h⟩
  have new : ∀ a, F' a ≠ none → Hb a = none ∧ A.H a = none := fun a ha => by
    rcases fn a ha with q | q
    · exact ap a q
    · exact ⟨L.bH.none q, L.eH.none q⟩
  refine ⟨Hb, fun j => if j = i then F' else F j, { eH := fun a o e => keep a o (L.eH a o e) ?_, eB := L.eB, bH := fun a o e => keep a o (L.bH a o e) ?_, ap := L.ap, len := by simp [L.len], dat := fun j e h => ?_, own := fun j χ h => ?_, dis := fun j k χ ρ n h1 h2 => ?_, mon := fun j χ h => ?_, gH := L.gH, bor := fun j φ h => L.bor j φ (bor_set (by intro _ z; cases z) h).1, tmp := L.tmp }⟩
  · exact Classical.byContradiction fun z => by rw [(ap a z).2] at e; cases e
  · exact Classical.byContradiction fun z => by rw [(ap a z).1] at e; cases e
  · rw [List.getElem?_set] at h
    by_cases q : i = j
    · rw [if_pos q] at h
      split at h <;> simp at h
    · rw [if_neg q] at h; exact L.dat j e h
  · rcases key h with ⟨rfl, rfl⟩ | ⟨n, h1⟩
    · rw [if_pos rfl]; exact ⟨⟨v, hv, hψ⟩, fe, new⟩
    · rw [if_neg n]
      obtain ⟨a, b, c⟩ := L.own j χ h1
      exact ⟨a, fun x o e => keep x o (b x o e) (L.dis j i χ φ n h1 hi x (by rw [e]; exact fun z => nomatch z)), c⟩
  · intro a ha
    rcases key h1 with ⟨rfl, rfl⟩ | ⟨n1, g1⟩
    · rcases key h2 with ⟨rfl, _⟩ | ⟨n2, g2⟩
      · exact absurd rfl n
      · rw [if_pos rfl] at ha
        rw [if_neg n2]
        rcases fn a ha with q | q
        · exact L.dis _ k φ ρ (fun z => n2 z.symm) hi g2 a q
        · exact (L.own k ρ g2).2.1.none q
    · rw [if_neg n1] at ha
      rcases key h2 with ⟨rfl, _⟩ | ⟨n2, g2⟩
      · rw [if_pos rfl]
        refine Classical.byContradiction fun z => ?_
        rcases fn a z with q | q
        · exact ha (L.dis _ j φ χ (fun z => n1 z.symm) hi g1 a q)
        · exact ha ((L.own j χ g1).2.1.none q)
      · rw [if_neg n2]
        exact L.dis j k χ ρ n g1 g2 a ha
  · rcases key h with ⟨rfl, rfl⟩ | ⟨n, h1⟩
    · exact m
    · exact L.mon j χ h1
/-- x.append(e) -/
theorem sd_app {ds : List D} (hi : δ[i]? = some (.own (oL K ds))) (he : EvD K te δ d) (hl : ds.length < 1000000) (h : E.nx (δ.set i (.own (oL K (ds ++ [d]))))) : SD K W (tDrop (tBM K "list" rAppend (tVar i) (tCons te tNil))) E δ := fun A σ H ts L T c => by
  obtain ⟨Hb0, F0, L0⟩ := id L
  obtain ⟨⟨u, hu, p, us, rfl, f0, r0⟩, fH0, _⟩ := L0.own i _ hi
  refine ⟨.ref p, hu, .inl ⟨rfl, us, .inl (.inl (fH0 p _ (by rw [f0, sgl_same])))⟩, ?_⟩
  refine he A σ H ts L _ fun v H2 L2 => ?_
  obtain ⟨Hb, F, L2⟩ := L2
  obtain ⟨⟨u2, hu2, p2, vs, rfl, f2, r2⟩, fH2, ap2⟩ := L2.own i _ hi
  have ep : p2 = p := by rw [hu] at hu2; cases hu2; rfl
  subst ep
  have hp : H2 p2 = some (.lst vs) := fH2 p2 _ (by rw [f2, sgl_same])
  have hv : Rp K Hb d v := L2.tmp (rp K v (d)) (by simp)
  refine ⟨p2, vs, v, rfl, rfl, hp, by rw [← r2.len, sizeLine_eq]; omega, c.nx _ σ _ h ?_⟩
  refine (L2.temps (ts' := ts) fun p hp => L2.tmp p (by simp [hp])).chg hi (F' := sgl p2 (.lst (vs ++ [v]))) (fun a o e q => ?_) (fun a o e => ?_) (fun a ha => ?_) hu ⟨p2, vs ++ [v], rfl, rfl, r2.app (RpA.one hv)⟩ mon_oL
  · have : a ≠ p2 := fun z => by subst z; rw [f2, sgl_same] at q; cases q
    rw [upd_ne this]; exact e
  · by_cases q : a = p2
    · subst q; rw [sgl_same] at e; rw [upd_same]; exact e
    · rw [sgl_ne q] at e; cases e
  · obtain rfl := sgl_at ha
    exact .inl (by rw [f2, sgl_same]; exact fun z => nomatch z)
end
end DL

namespace DL
open PySem L2
/-! ### the operators, each with all its kinds -/
section
variable {X : Cx}
def rOr (r r' : R2) : R2 := fun x y H Q => r x y H Q ∨ r' x y H Q
theorem OpR.or {f : Value → Value → Sem Value} {r r' : R2} (h : OpR X f r) (h' : OpR X f r') : OpR X f (rOr r r') := fun pins s σ H x y v u Q I rx ry q => q.elim (h pins s σ H x y v u Q I rx ry) (h' pins s σ H x y v u Q I rx ry)
theorem IxR.or {r r' : R2} (h : IxR X r) (h' : IxR X r') : IxR X (rOr r r') := fun va sl pins s σ H x y v u Q I rx ry q hs => q.elim (fun q => h va sl pins s σ H x y v u Q I rx ry q hs) (fun q => h' va sl pins s σ H x y v u Q I rx ry q hs)
theorem CallR.or {f : Value} {r r' : List V → Hp → VK → Prop} (h : CallR X f r) (h' : CallR X f r') : CallR X f (fun xs H Q => r xs H Q ∨ r' xs H Q) := fun pins s σ H xs us Q I rx q => q.elim (h pins s σ H xs us Q I rx) (h' pins s σ H xs us Q I rx)
def rAddS : R2 := fun x y H Q => ∃ i j, x = .str i ∧ y = .str j ∧ i.length + j.length ≤ sizeLine ∧ Q (.str (i ++ j)) H
def rADD (K : PySem.W.Frag) : R2 := rOr (rI0 fun i j => .int (i + j)) (rOr rAddS (rOr rCat (rCatA K)))
def rSUB : R2 := rI0 fun i j => .int (i - j)
def rMUL : R2 := rI CMul fun i j => .int (i * j)
def rMOD : R2 := rI (fun _ j => 0 < j) fun i j => .int (i % j)
def rDIV : R2 := rI CDiv fun i j => .int (i / j)
def rPOW : R2 := rI CPow fun i j => .int (i ^ j.toNat)
def rLT : R2 := rI0 fun i j => .bl (decide (i < j))
def rLE : R2 := rI0 fun i j => .bl (decide (i ≤ j))
def rGT : R2 := rI0 fun i j => .bl (decide (j < i))
def rGE : R2 := rI0 fun i j => .bl (decide (j ≤ i))
def rEQ (K : PySem.W.Frag) : R2 := rOr rEq (rEqD K)
def rNE (K : PySem.W.Frag) : R2 := rOr rNe (rNeD K)
def rDIn (neg : Bool) : R2 := fun y x H Q => ∃ a o, x = .ref a ∧ DGet H a y o ∧ Q (.bl (if neg then !o.isSome else o.isSome)) H
def rSIn (neg : Bool) : R2 := fun x y H Q => ∃ (c : Nat) (z : Str), x = .str ⟨#[c]⟩ ∧ y = .str z ∧ Q (.bl (if neg then !decide (c ∈ z.cps.toList) else decide (c ∈ z.cps.toList))) H
def rIN (K : PySem.W.Frag) (neg : Bool) : R2 := rOr (rIn K neg) (rOr (rDIn neg) (rSIn neg))
def rIxD : R2 := fun x y H Q => ∃ a v, x = .ref a ∧ DGet H a y (some v) ∧ Q v H
def rIX (K : PySem.W.Frag) : R2 := rOr (rIxL K) (rOr (rIxT K) (rOr rIxS rIxD))
def rIS : R2 := fun x y H Q => y = .non ∧ Q (.bl (decide (x = .non))) H
def rNIS : R2 := fun x y H Q => y = .non ∧ Q (.bl (!decide (x = .non))) H
theorem op_ADD : OpR X (binaryOp .Add) (rADD X.K) := OpR.or op_add (OpR.or op_add_str (OpR.or op_cat op_catA))
theorem op_SUB : OpR X (binaryOp .Sub) rSUB := op_sub
theorem op_MUL : OpR X (binaryOp .Mult) rMUL := op_mul
theorem op_MOD : OpR X (binaryOp .Mod) rMOD := op_mod
theorem op_DIV : OpR X (binaryOp .FloorDiv) rDIV := op_fdiv
theorem op_POW : OpR X (binaryOp .Pow) rPOW := op_pow
theorem op_LT : OpR X (compareOp .Lt) rLT := op_lt
theorem op_LE : OpR X (compareOp .LtE) rLE := op_le
theorem op_GT : OpR X (compareOp .Gt) rGT := op_gt
theorem op_GE : OpR X (compareOp .GtE) rGE := op_ge
theorem op_EQ {k : Nat} (hr : Room k X.A) : OpR X (compareOp .Eq) (rEQ X.K) := OpR.or op_eq (op_eqD hr.units)
theorem op_NE {k : Nat} (hr : Room k X.A) : OpR X (compareOp .NotEq) (rNE X.K) := OpR.or op_ne (op_neD hr.units)
theorem op_din {k : Nat} (hr : Room k X.A) : OpR X (compareOp .In) (rDIn false) := fun pins s σ H y x v u Q I ry rx h => by
  obtain ⟨a, o, rfl, g, q⟩ := h
  cases rx
  exact d_in (hu_of hr) I g ry fun s' I' => ⟨.bl o.isSome, H, I', rfl, q⟩
theorem op_dnin {k : Nat} (hr : Room k X.A) : OpR X (compareOp .NotIn) (rDIn true) := fun pins s σ H y x v u Q I ry rx h => by
  obtain ⟨a, o, rfl, g, q⟩ := h
  cases rx
  exact d_notIn (hu_of hr) I g ry fun s' I' => ⟨.bl (!o.isSome), H, I', rfl, q⟩
theorem op_IN {k : Nat} (hr : Room k X.A) : OpR X (compareOp .In) (rIN X.K false) := OpR.or op_in_seq (OpR.or (op_din hr) op_in_sign)
theorem op_NIN {k : Nat} (hr : Room k X.A) : OpR X (compareOp .NotIn) (rIN X.K true) := OpR.or op_notIn_seq (OpR.or (op_dnin hr) op_notIn_sign)
theorem op_IS : OpR X (compareOp .Is) rIS := op_isN
theorem op_NIS : OpR X (compareOp .IsNot) rNIS := op_notN
theorem ix_dic {k : Nat} (hr : Room k X.A) : IxR X rIxD := fun va sl pins s σ H x y v u Q I rx ry h hs => by
  obtain ⟨a, z, rfl, g, q⟩ := h
  cases rx
  exact PyProof.Rows.tail_any (dict_typeIs I g) PySem.F.slot_dict_getitem.lookup (d_getItem (hu_of hr) I g ry fun w' s' I' rw' => ⟨z, H, I', rw', q⟩) hs
theorem ix_IX {k : Nat} (hr : Room k X.A) : IxR X (rIX X.K) := IxR.or ix_list (IxR.or ix_tup (IxR.or ix_str (ix_dic hr)))
def rLEN (K : PySem.W.Frag) : List V → Hp → VK → Prop := fun xs H Q => (∃ x n, xs = [x] ∧ LenV K x H n ∧ Q (.int n) H) ∨ (∃ (a : Addr) (kvs : List (Key × V)), xs = [V.ref a] ∧ Rd H a (.dK kvs) ∧ Q (.int kvs.length) H)
theorem call_lenR : CallR X (.builtin "len") (fun xs H Q => ∃ (a : Addr) (kvs : List (Key × V)), xs = [V.ref a] ∧ Rd H a (.dK kvs) ∧ Q (.int kvs.length) H) := by
  intro pins s σ H xs us Q I r h
  obtain ⟨a, kvs, rfl, ha, q⟩ := h
  obtain ⟨u, rfl, ru⟩ := vals1 r
  cases ru
  exact d_len I ha fun t s' I' => ⟨.int kvs.length, H, I', ⟨t, rfl⟩, q⟩
theorem call_LEN : CallR X (.builtin "len") (rLEN X.K) := CallR.or call_len call_lenR
def rINT : List V → Hp → VK → Prop := fun xs H Q => (∃ i, xs = [.int i] ∧ Q (.int i) H) ∨ ∃ k, xs = [.bl k] ∧ Q (.int (if k then 1 else 0)) H
theorem call_INT : CallR X (.type "int") rINT := call_int1
end

/-! ### .. by data -/
section
variable {K : PySem.W.Frag} {δ : List Sl} {ta tb te tx : TE} {tt tu : TT} {x y z d : D} {b : Bool} {i j : Int}
theorem Op2.inl {r r' : R2} (h : Op2 K r x y z) : Op2 K (rOr r r') x y z := fun Hb H v u Q e hv hu q => .inl (h Hb H v u Q e hv hu q)
theorem Op2.inr {r r' : R2} (h : Op2 K r' x y z) : Op2 K (rOr r r') x y z := fun Hb H v u Q e hv hu q => .inr (h Hb H v u Q e hv hu q)
theorem Op2r.inl {r r' : R2} (h : Op2r K r x y z) : Op2r K (rOr r r') x y z := fun Hb H v u Q e hv hu q => .inl (h Hb H v u Q e hv hu q)
theorem Op2r.inr {r r' : R2} (h : Op2r K r' x y z) : Op2r K (rOr r r') x y z := fun Hb H v u Q e hv hu q => .inr (h Hb H v u Q e hv hu q)
theorem ev_add (ha : EvD K ta δ (.int i)) (hb : EvD K tb δ (.int j)) : EvD K (tOp (rADD K) ta tb) δ (.int (i + j)) := ev_op2 ha hb (Op2.inl (op_I0 fun _ => by unfold Rp; rfl))
theorem ev_sub (ha : EvD K ta δ (.int i)) (hb : EvD K tb δ (.int j)) : EvD K (tOp rSUB ta tb) δ (.int (i - j)) := ev_op2 ha hb (op_I0 fun _ => by unfold Rp; rfl)
theorem ev_mul (ha : EvD K ta δ (.int i)) (hb : EvD K tb δ (.int j)) (hc : CMul i j) : EvD K (tOp rMUL ta tb) δ (.int (i * j)) := ev_op2 ha hb (op_I hc fun _ => by unfold Rp; rfl)
theorem ev_mod (ha : EvD K ta δ (.int i)) (hb : EvD K tb δ (.int j)) (hc : 0 < j) : EvD K (tOp rMOD ta tb) δ (.int (i % j)) := ev_op2 ha hb (op_I hc fun _ => by unfold Rp; rfl)
theorem ev_div (ha : EvD K ta δ (.int i)) (hb : EvD K tb δ (.int j)) (hc : 0 < j ∧ j < 1073741824) : EvD K (tOp rDIV ta tb) δ (.int (i / j)) := ev_op2 ha hb (op_I hc fun _ => by unfold Rp; rfl)
theorem ev_pow (ha : EvD K ta δ (.int i)) (hb : EvD K tb δ (.int j)) (hc : CPow i j) : EvD K (tOp rPOW ta tb) δ (.int (i ^ j.toNat)) := ev_op2 ha hb (op_I hc fun _ => by unfold Rp; rfl)
theorem ev_lt (ha : EvD K ta δ (.int i)) (hb : EvD K tb δ (.int j)) : EvD K (tOp rLT ta tb) δ (.bl (decide (i < j))) := ev_op2 ha hb (op_I0 fun _ => by unfold Rp; rfl)
theorem ev_le (ha : EvD K ta δ (.int i)) (hb : EvD K tb δ (.int j)) : EvD K (tOp rLE ta tb) δ (.bl (decide (i ≤ j))) := ev_op2 ha hb (op_I0 fun _ => by unfold Rp; rfl)
theorem ev_gt (ha : EvD K ta δ (.int i)) (hb : EvD K tb δ (.int j)) : EvD K (tOp rGT ta tb) δ (.bl (decide (j < i))) := ev_op2 ha hb (op_I0 fun _ => by unfold Rp; rfl)
theorem ev_ge (ha : EvD K ta δ (.int i)) (hb : EvD K tb δ (.int j)) : EvD K (tOp rGE ta tb) δ (.bl (decide (j ≤ i))) := ev_op2 ha hb (op_I0 fun _ => by unfold Rp; rfl)
theorem ev_addS {s t : Str} (ha : EvD K ta δ (.str s)) (hb : EvD K tb δ (.str t)) (hl : s.length + t.length ≤ 1000000) : EvD K (tOp (rADD K) ta tb) δ (.str (s ++ t)) :=
  ev_op2 ha hb (Op2.inr (Op2.inl fun Hb H v u Q e hv hu q => ⟨s, t, hv, hu, by rw [sizeLine_eq]; omega, q _ fun _ => by unfold Rp; rfl⟩))
/-- scalars compared -/
theorem ev_eqI (ha : EvD K ta δ (.int i)) (hb : EvD K tb δ (.int j)) : EvD K (tOp (rEQ K) ta tb) δ (.bl (decide (i = j))) := ev_op2 ha hb (Op2.inl fun Hb H v u Q e hv hu q => by
  cases (Rp.intV hv); cases (Rp.intV hu)
  refine ⟨rfl, q _ fun _ => ?_⟩
  unfold Rp; rw [dec_int]; congr 1)
theorem ev_neI (ha : EvD K ta δ (.int i)) (hb : EvD K tb δ (.int j)) : EvD K (tOp (rNE K) ta tb) δ (.bl (!decide (i = j))) := ev_op2 ha hb (Op2.inl fun Hb H v u Q e hv hu q => by
  cases (Rp.intV hv); cases (Rp.intV hu)
  refine ⟨rfl, q _ fun _ => ?_⟩
  unfold Rp; rw [dec_int]; congr 1)
theorem dec_str {i j : Str} : decide (V.str i = V.str j) = decide (i = j) := by
  rw [Bool.eq_iff_iff]; simp
theorem ev_eqS {i j : Str} (ha : EvD K ta δ (.str i)) (hb : EvD K tb δ (.str j)) : EvD K (tOp (rEQ K) ta tb) δ (.bl (decide (i = j))) := ev_op2 ha hb (Op2.inl fun Hb H v u Q e hv hu q => by
  cases (Rp.strV hv); cases (Rp.strV hu)
  refine ⟨rfl, q _ fun _ => ?_⟩
  unfold Rp; rw [dec_str])
theorem ev_neS {i j : Str} (ha : EvD K ta δ (.str i)) (hb : EvD K tb δ (.str j)) : EvD K (tOp (rNE K) ta tb) δ (.bl (!decide (i = j))) := ev_op2 ha hb (Op2.inl fun Hb H v u Q e hv hu q => by
  cases (Rp.strV hv); cases (Rp.strV hu)
  refine ⟨rfl, q _ fun _ => ?_⟩
  unfold Rp; rw [dec_str])
theorem ev_isN (ha : EvD K ta δ .non) (hb : EvD K tb δ .non) : EvD K (tOp rIS ta tb) δ (.bl true) := ev_op2 ha hb fun Hb H v u Q e hv hu q => ⟨hu, q _ fun _ => by cases (show v = .non from hv); unfold Rp; rfl⟩
theorem ev_nisN (ha : EvD K ta δ .non) (hb : EvD K tb δ .non) : EvD K (tOp rNIS ta tb) δ (.bl false) := ev_op2 ha hb fun Hb H v u Q e hv hu q => ⟨hu, q _ fun _ => by cases (show v = .non from hv); unfold Rp; rfl⟩
def notNon : D → Bool
  | .non => false
  | _ => true
theorem notNon_ne {Hb : Hp} {v : V} (h : notNon x = true) (r : Rp K Hb x v) : v ≠ .non := by
  intro z; subst z
  cases x <;> simp [notNon] at h <;> unfold Rp at r <;> first | (obtain ⟨_, e, _⟩ := r; cases e; done) | (obtain ⟨_, _, e, _⟩ := r; cases e; done) | (obtain ⟨_, _, _, e, _⟩ := r; cases e; done) | (cases r; done)
theorem ev_isF (ha : EvD K ta δ x) (hn : notNon x = true) (hb : EvD K tb δ .non) : EvD K (tOp rIS ta tb) δ (.bl false) := ev_op2 ha hb fun Hb H v u Q e hv hu q => ⟨hu, q _ fun _ => by unfold Rp; rw [decide_eq_false (notNon_ne hn hv)]⟩
theorem ev_nisT (ha : EvD K ta δ x) (hn : notNon x = true) (hb : EvD K tb δ .non) : EvD K (tOp rNIS ta tb) δ (.bl true) := ev_op2 ha hb fun Hb H v u Q e hv hu q => ⟨hu, q _ fun _ => by unfold Rp; rw [decide_eq_false (notNon_ne hn hv)]; rfl⟩
/-- xs[i] -/
theorem atI_rpa {Hb : Hp} {ds : List D} {vs : List V} {i : Int} {d : D} (r : RpA K Hb ds vs) (h : atI ds i = some d) : ∃ v, atI vs i = some v ∧ Rp K Hb d v := by
  unfold atI at h ⊢
  rw [← r.len]
  cases q : ixN ds.length i with
  | none => rw [q] at h; cases h
  | some j =>
    rw [q, Option.bind_some] at h
    rw [Option.bind_some]
    exact r.get h
theorem ev_ixL {ds : List D} (ha : EvD K ta δ (.lst ds)) (hb : EvD K tb δ (.int i)) (h : atI ds i = some d) : EvD K (tOp (rIX K) ta tb) δ d := ev_op2r ha hb (Op2r.inl fun Hb H v u Q e hv hu q => by
  unfold Rp at hv
  obtain ⟨a, vs, ev, s, r⟩ := hv
  obtain ⟨w, hw, rw'⟩ := atI_rpa r h
  exact ⟨a, vs, i, w, ev, hu, e.rl.l s, hw, q w rw'⟩)
theorem ev_ixT {ds : List D} (ha : EvD K ta δ (.tup ds)) (hb : EvD K tb δ (.int i)) (h : atI ds i = some d) : EvD K (tOp (rIX K) ta tb) δ d := ev_op2r ha hb (Op2r.inr (Op2r.inl fun Hb H v u Q e hv hu q => by
  unfold Rp at hv
  obtain ⟨a, vs, ev, s, r⟩ := hv
  obtain ⟨w, hw, rw'⟩ := atI_rpa r h
  exact ⟨a, vs, i, w, ev, hu, e.rl.t s, hw, q w rw'⟩))
theorem ev_ixS {s : Str} {c : Nat} (ha : EvD K ta δ (.str s)) (hb : EvD K tb δ (.int i)) (hl : s.length ≤ 1000000) (h : atI s.cps.toList i = some c) : EvD K (tOp (rIX K) ta tb) δ (.str ⟨#[c]⟩) := ev_op2r ha hb (Op2r.inr (Op2r.inr (Op2r.inl fun Hb H v u Q e hv hu q =>
  ⟨s, i, c, hv, hu, by rw [sizeLine_eq]; omega, h, q _ (by unfold Rp; rfl)⟩)))
/-- a list of one's own read by place -/
theorem ev_ixO {ds : List D} {n : Nat} (hn : δ[n]? = some (.own (oL K ds))) (hb : EvD K tb δ (.int i)) (h : atI ds i = some d) : EvD K (tOp (rIX K) (tVar n) tb) δ d := fun A σ H ts L Q q => by
  obtain ⟨Hb0, F0, L0⟩ := id L
  obtain ⟨⟨u, hu, p, us, rfl, f0, r0⟩, fH0, _⟩ := L0.own n _ hn
  refine ⟨.ref p, hu, hb A σ H ts L _ fun v H2 L2 => ?_⟩
  obtain ⟨Hb, F, L2⟩ := L2
  obtain ⟨⟨u2, hu2, p2, vs, rfl, f2, r2⟩, fH2, ap2⟩ := L2.own n _ hn
  have ep : p2 = p := by rw [hu] at hu2; cases hu2; rfl
  subst ep
  have hp : H2 p2 = some (.lst vs) := fH2 p2 _ (by rw [f2, sgl_same])
  have hv : v = .int i := L2.tmp (rp K v (.int i)) (by simp)
  obtain ⟨w, hw, rw'⟩ := atI_rpa r2 h
  exact .inl ⟨p2, vs, i, w, rfl, hv, .inl (.inl hp), hw, q w H2 ⟨Hb, F, L2.temps fun p hp => (List.mem_cons.mp hp).elim (fun z => by rw [z]; exact rw') fun hp => L2.tmp p (by simp [hp])⟩⟩
theorem ev_int1 {ta : TA} (h : EvA K ta δ [.int i]) : EvD K (tCB rINT ta) δ (.int i) := ev_cb h fun Hb H vs Q e r q => by
  obtain ⟨v, t, rfl, hv, ht⟩ := RpA.consV r
  cases (Rp.intV hv); cases (RpA.nilV ht)
  exact .inl ⟨i, rfl, q _ (by unfold Rp; rfl)⟩
theorem ev_intB {ta : TA} (h : EvA K ta δ [.bl b]) : EvD K (tCB rINT ta) δ (.int (if b then 1 else 0)) := ev_cb h fun Hb H vs Q e r q => by
  obtain ⟨v, t, rfl, hv, ht⟩ := RpA.consV r
  cases (Rp.blV hv); cases (RpA.nilV ht)
  exact .inr ⟨b, rfl, q _ (by unfold Rp; rfl)⟩
theorem ev_lenL {ta : TA} {ds : List D} (h : EvA K ta δ [.lst ds]) : EvD K (tCB (rLEN K) ta) δ (.int ds.length) := ev_cb h fun Hb H vs Q e r q => by
  obtain ⟨v, t, rfl, hv, ht⟩ := RpA.consV r
  cases (RpA.nilV ht)
  unfold Rp at hv
  obtain ⟨a, us, rfl, s, rr⟩ := hv
  exact .inl ⟨_, ds.length, rfl, .inl ⟨us, e.rl.l s, rr.len⟩, q _ (by unfold Rp; rfl)⟩
theorem ev_lenT {ta : TA} {ds : List D} (h : EvA K ta δ [.tup ds]) : EvD K (tCB (rLEN K) ta) δ (.int ds.length) := ev_cb h fun Hb H vs Q e r q => by
  obtain ⟨v, t, rfl, hv, ht⟩ := RpA.consV r
  cases (RpA.nilV ht)
  unfold Rp at hv
  obtain ⟨a, us, rfl, s, rr⟩ := hv
  exact .inl ⟨_, ds.length, rfl, .inr ⟨us, e.rl.t s, rr.len⟩, q _ (by unfold Rp; rfl)⟩
theorem ev_lenS {ta : TA} {s : Str} (h : EvA K ta δ [.str s]) (hl : s.length ≤ 1000000) : EvD K (tCB (rLEN K) ta) δ (.int s.length) := ev_cb h fun Hb H vs Q e r q => by
  obtain ⟨v, t, rfl, hv, ht⟩ := RpA.consV r
  cases (Rp.strV hv); cases (RpA.nilV ht)
  exact .inl ⟨_, s.length, rfl, ⟨by rw [sizeLine_eq]; omega, rfl⟩, q _ (by unfold Rp; rfl)⟩
/-- c in s, one sign -/
theorem ev_inS {c : Nat} {s : Str} {neg : Bool} (ha : EvD K ta δ (.str ⟨#[c]⟩)) (hb : EvD K tb δ (.str s)) : EvD K (tOp (rIN K neg) ta tb) δ (.bl (if neg then !decide (c ∈ s.cps.toList) else decide (c ∈ s.cps.toList))) :=
  ev_op2 ha hb (Op2.inr (Op2.inr fun Hb H v u Q e hv hu q => ⟨c, s, hv, hu, q _ fun _ => by unfold Rp; rfl⟩))
/-- 0 <= i < j -/
theorem ev_chain {r r' : R2} {tc : TE} {a b : Bool} {w : D} (ha : EvD K ta δ x) (hb : EvD K tb δ y) (hr : Op2 K r x y (.bl a)) (hc : a = true → EvD K tc δ w) (hr' : a = true → Op2 K r' y w (.bl b)) : EvD K (tChain r r' ta tb tc) δ (.bl (a && b)) := fun A σ H ts L Q q =>
  ha A σ H ts L _ fun v H1 L1 => hb A σ H1 _ L1 _ fun u H2 L2 => by
    obtain ⟨Hb, F, L2⟩ := L2
    refine hr Hb H2 v u _ L2.bH (L2.tmp (rp K v (x)) (by simp)) (L2.tmp (rp K u (y)) (by simp)) fun z hz => ?_
    have ez : z = .bl a := hz Hb
    refine ⟨a, ez, ?_⟩
    cases a with
    | true =>
      rw [if_pos rfl]
      refine hc rfl A σ H2 _ ⟨Hb, F, L2⟩ _ fun w' H3 L3 => ?_
      obtain ⟨Hb3, F3, L3⟩ := L3
      exact hr' rfl Hb3 H3 u w' Q L3.bH (L3.tmp (rp K u (y)) (by simp)) (L3.tmp (rp K w' (w)) (by simp)) fun z hz => q z H3 ⟨Hb3, F3, L3.temps fun p hp => (List.mem_cons.mp hp).elim (fun e => by rw [e]; exact hz Hb3) fun hp => L3.tmp p (by simp [hp])⟩
    | false =>
      rw [if_neg Bool.false_ne_true]
      exact q _ H2 ⟨Hb, F, L2.temps fun p hp => (List.mem_cons.mp hp).elim (fun e => by rw [e]; show Rp K Hb _ _; unfold Rp; rfl) fun hp => L2.tmp p (by simp [hp])⟩
theorem o_lt : Op2 K rLT (.int i) (.int j) (.bl (decide (i < j))) := op_I0 fun _ => by unfold Rp; rfl
theorem o_le : Op2 K rLE (.int i) (.int j) (.bl (decide (i ≤ j))) := op_I0 fun _ => by unfold Rp; rfl
end
end DL

namespace DL
open PySem L2
section
variable {K : PySem.W.Frag} {W : WX} {E : DE} {δ δ' : List Sl} {ta tb te : TE} {tt : TT} {ts1 ts2 : TS} {d : D} {b : Bool} {i j : Nat} {wi : TI} {g : TG} {ds : List D}
/-! ### targets -/
def TgD (K : PySem.W.Frag) (g : TG) (d : D) (δ δ' : List Sl) : Prop := ∀ A σ H ts x, Lc K A δ σ H (rp K x d :: ts) → ∀ Q : St → Hp → Prop, (∀ σ' H', Lc K A δ' σ' H' ts → Q σ' H') → g x σ H Q
theorem tg_name : TgD K (gName j) d δ (δ.set j (.dat d)) := fun A σ H ts x L Q q => q _ H (L.set j)
theorem sd_asgT (he : EvD K te δ d) (hg : TgD K g d δ δ') (h : E.nx δ') : SD K W (tAsg te g) E δ := fun A σ H ts L T c => he A σ H ts L _ fun v H2 L2 => hg A σ H2 ts v L2 _ fun σ' H' L3 => c.nx δ' σ' H' h L3
/-! ### what is walked -/
structure WalkD (K : PySem.W.Frag) (A : Act) (J : It) (t : Tm) (ds : List D) : Prop where
  goes : ∀ i H Hb, i < ds.length → Ex A.H H → Ex Hb H → t.p Hb → J.go i H
  stops : ∀ H Hb, Ex A.H H → Ex Hb H → t.p Hb → J.stop ds.length H
  yields : ∀ i d A' δ σ H x H' ts, ds[i]? = some d → Ex A.H A'.H → Lc K A' δ σ H (t :: ts) → J.yld i H x H' → Lc K A' δ σ H' (rp K x d :: t :: ts)
def ItD (K : PySem.W.Frag) (wi : TI) (δ : List Sl) (ds : List D) : Prop := ∀ A σ H ts, Lc K A δ σ H ts → ∀ R : It → Hp → Prop, (∀ J t H2, Lc K A δ σ H2 (t :: ts) → WalkD K A J t ds → R J H2) → wi σ H R
theorem for_core {A : Act} {J : It} {t : Tm} {ts : List Tm} {T : Ends} {σ : St} {H : Hp} (L : Lc K A δ σ H (t :: ts)) (w : WalkD K A J t ds) (c : Cov K A E T W ts) (P : Nat → List Sl → Prop) (h0 : P 0 δ)
    (hs : ∀ (i : Nat) (d : D) δ', ds[i]? = some d → P i δ' → ∃ δ2, TgD K g d δ' δ2 ∧ SD K W ts1 { E with nx := P (i + 1), ct := P (i + 1), bk := E.nx } δ2) (hd : ∀ δ', P ds.length δ' → E.nx δ') :
    ∃ W : Nat → Nat → St → Hp → Prop, (∃ m, W 0 m σ H) ∧ ∀ i m σ H, W i m σ H →
      (J.stop i H ∧ T.nx σ H) ∨ (J.go i H ∧ ∃ N : St → Hp → Prop, (∀ σ' H', N σ' H' → ∃ m', m' < m ∧ W (i + 1) m' σ' H') ∧ ∀ x H', J.yld i H x H' → g x σ H' fun σ2 H2 => ts1 { T with nx := N, ct := N, bk := T.nx } σ2 H2) := by
  let Pv : Nat → St → Hp → Prop := fun i σ H => ∃ δ', P i δ' ∧ Lc K A δ' σ H (t :: ts)
  have lows : ∀ {δ' : List Sl} {σ' : St} {H' : Hp}, Lc K A δ' σ' H' (t :: ts) → Lc K A δ' σ' H' ts := fun L => L.temps fun p hp => .inl (List.mem_cons_of_mem _ hp)
  refine ⟨fun i m σ H => m = ds.length - i ∧ i ≤ ds.length ∧ Pv i σ H, ⟨ds.length, by simp, Nat.zero_le _, δ, h0, L⟩, ?_⟩
  rintro i m σ H ⟨rfl, hle, δ', hp, L3⟩
  obtain ⟨Hb, F, L4⟩ := id L3
  have tp : t.p Hb := L4.tmp t (by simp)
  by_cases hlt : i < ds.length
  · refine .inr ⟨w.goes i H Hb hlt L4.eH L4.bH tp, Pv (i + 1), fun σ' H' p' => ⟨ds.length - (i + 1), by omega, rfl, hlt, p'⟩, fun x H' y => ?_⟩
    obtain ⟨d, hd'⟩ : ∃ d, ds[i]? = some d := ⟨ds[i], List.getElem?_eq_getElem hlt⟩
    obtain ⟨δ2, hg, hb⟩ := hs i d δ' hd' hp
    refine hg A σ H' (t :: ts) x (w.yields i d A δ' σ H x H' ts hd' (Ex.refl _) L3 y) _ fun σ2 H2 L5 => ?_
    refine hb A σ2 H2 (t :: ts) L5 _ ⟨fun δ3 σ3 H3 p3 L6 => ⟨δ3, p3, L6⟩, fun r δ3 σ3 H3 v p3 L6 => c.rt r δ3 σ3 H3 v p3 ?_, fun δ3 σ3 H3 p3 L6 => c.nx δ3 σ3 H3 p3 (lows L6), fun δ3 σ3 H3 p3 L6 => ⟨δ3, p3, L6⟩, fun x δ3 σ3 H3 cls dd p3 X3 => c.ex x δ3 σ3 H3 cls dd p3 ?_⟩
    · cases r with
      | no => exact L6
      | bor φ => exact L6
      | dat d => exact (show Lc K A δ3 σ3 H3 (rp K v d :: t :: ts) from L6).temps fun p hp => .inl (by rcases List.mem_cons.mp hp with h | h <;> simp [h])
      | own φ =>
        obtain ⟨m, Hb, F, Fv, L7, r⟩ := (show Mon φ ∧ LcO K A δ3 σ3 H3 (t :: ts) φ v from L6)
        exact ⟨m, Hb, F, Fv, L7.temps fun p hp => L7.tmp p (by simp [hp]), r⟩
    · obtain ⟨Hb, F, dd, vs, L7, r⟩ := X3
      exact ⟨Hb, F, dd, vs, L7.temps fun p hp => L7.tmp p (by simp [hp]), r⟩
  · have e : i = ds.length := by omega
    subst e
    exact .inl ⟨w.stops H Hb L4.eH L4.bH tp, c.nx δ' σ H (hd δ' hp) (lows L3)⟩
theorem sd_for (hi : ItD K wi δ ds) (P : Nat → List Sl → Prop) (h0 : P 0 δ) (hs : ∀ (i : Nat) (d : D) δ', ds[i]? = some d → P i δ' → ∃ δ2, TgD K g d δ' δ2 ∧ SD K W ts1 { E with nx := P (i + 1), ct := P (i + 1), bk := E.nx } δ2) (hd : ∀ δ', P ds.length δ' → E.nx δ') :
    SD K W (tFor wi g ts1) E δ := fun A σ H ts L T c => hi A σ H ts L _ fun J t H2 L2 w => for_core L2 w c P h0 hs hd
/-- range(n) -/
def tTrue : Tm := ⟨fun _ => True, fun _ _ _ _ => trivial⟩
def rngD (lo : Int) (n : Nat) : List D := (List.range n).map fun i => D.int (lo + (i : Nat))
theorem rngD_get {lo : Int} {n i : Nat} {d : D} (h : (rngD lo n)[i]? = some d) : i < n ∧ d = .int (lo + i) := by
  unfold rngD at h
  rw [List.getElem?_map] at h
  cases q : (List.range n)[i]? with
  | none => rw [q] at h; cases h
  | some k =>
    rw [q] at h
    obtain ⟨h1, h2⟩ := List.getElem?_eq_some_iff.mp q
    rw [List.getElem_range] at h2
    subst h2
    rw [List.length_range] at h1
    exact ⟨h1, (Option.some.inj h).symm⟩
theorem rngD_len {lo : Int} {n : Nat} : (rngD lo n).length = n := by unfold rngD; simp
theorem walk_rng {A : Act} {lo : Int} {n : Nat} : WalkD K A (Itr lo n) tTrue (rngD lo n) where
  goes := fun i H Hb h _ _ _ => by rw [rngD_len] at h; exact h
  stops := fun H Hb _ _ _ => by rw [rngD_len]; exact Nat.le_refl n
  yields := fun i d A' δ σ H x H' ts h _ L y => by
    obtain ⟨e1, e2⟩ := y
    obtain ⟨_, rfl⟩ := rngD_get h
    subst e1 e2
    exact L.temps fun p hp => (List.mem_cons.mp hp).elim (fun z => .inr fun Hb => by rw [z]; show Rp K Hb _ _; unfold Rp; rfl) .inl
theorem it_rng1 {ta : TA} {n : Int} (h : EvA K ta δ [.int n]) (h1 : -1000000 ≤ n) (h2 : n ≤ 1000000) : ItD K (iRng1 ta) δ (rngD 0 n.toNat) := fun A σ H ts L R q => h.rpa L _ fun vs H2 Hb F L2 r => by
  obtain ⟨v, t, rfl, hv, ht⟩ := RpA.consV r
  cases (Rp.intV hv); cases (RpA.nilV ht)
  exact ⟨n, rfl, by omega, by omega, q _ tTrue H2 ⟨Hb, F, L2.temps fun p hp => (List.mem_cons.mp hp).elim (fun z => by rw [z]; trivial) (L2.tmp p)⟩ walk_rng⟩
theorem it_rng2 {ta : TA} {m n : Int} (h : EvA K ta δ [.int m, .int n]) (h0 : -1000000 ≤ m ∧ m ≤ 1000000) (h1 : -1000000 ≤ n) (h2 : n ≤ 1000000) : ItD K (iRng2 ta) δ (rngD m (n - m).toNat) := fun A σ H ts L R q => h.rpa L _ fun vs H2 Hb F L2 r => by
  obtain ⟨v, t, rfl, hv, ht⟩ := RpA.consV r
  obtain ⟨v2, t2, rfl, hv2, ht2⟩ := RpA.consV ht
  cases (Rp.intV hv); cases (Rp.intV hv2); cases (RpA.nilV ht2)
  exact ⟨m, n, rfl, ⟨by omega, by omega, by omega, by omega⟩, q _ tTrue H2 ⟨Hb, F, L2.temps fun p hp => (List.mem_cons.mp hp).elim (fun z => by rw [z]; trivial) (L2.tmp p)⟩ walk_rng⟩
/-- a list, a tuple -/
def tLs (K : PySem.W.Frag) (a : Addr) (vs : List V) (ds : List D) : Tm := ⟨fun H => SqL K H a vs ∧ RpA K H ds vs, fun _ _ r h => ⟨r.l h.1, RpA.mono r _ _ h.2⟩⟩
def tTs (K : PySem.W.Frag) (a : Addr) (vs : List V) (ds : List D) : Tm := ⟨fun H => SqT K H a vs ∧ RpA K H ds vs, fun _ _ r h => ⟨r.t h.1, RpA.mono r _ _ h.2⟩⟩
theorem walk_lst {A : Act} {a : Addr} {vs : List V} : WalkD K A (Itl K a) (tLs K a vs ds) ds where
  goes := fun i H Hb h _ e q => by
    have hv : i < vs.length := by rw [← q.2.len]; exact h
    exact ⟨vs, vs[i], e.rl.l q.1, List.getElem?_eq_getElem hv⟩
  stops := fun H Hb _ e q => ⟨vs, e.rl.l q.1, by rw [q.2.len]; exact Nat.le_refl _⟩
  yields := fun i d A' δ σ H x H' ts h _ L y => by
    obtain ⟨e1, e2⟩ := y
    subst e1
    obtain ⟨Hb, F, L⟩ := L
    have q : (tLs K a vs ds).p Hb := L.tmp _ (by simp)
    have hx := e2 vs (L.bH.rl.l q.1)
    obtain ⟨v, hv, rv⟩ := q.2.get h
    rw [hx] at hv; cases hv
    exact ⟨Hb, F, L.temps fun p hp => (List.mem_cons.mp hp).elim (fun z => by rw [z]; exact rv) (L.tmp p)⟩
theorem walk_tup {A : Act} {a : Addr} {vs : List V} : WalkD K A (Itt K a) (tTs K a vs ds) ds where
  goes := fun i H Hb h _ e q => by
    have hv : i < vs.length := by rw [← q.2.len]; exact h
    exact ⟨vs, vs[i], e.rl.t q.1, List.getElem?_eq_getElem hv⟩
  stops := fun H Hb _ e q => ⟨vs, e.rl.t q.1, by rw [q.2.len]; exact Nat.le_refl _⟩
  yields := fun i d A' δ σ H x H' ts h _ L y => by
    obtain ⟨e1, e2⟩ := y
    subst e1
    obtain ⟨Hb, F, L⟩ := L
    have q : (tTs K a vs ds).p Hb := L.tmp _ (by simp)
    have hx := e2 vs (L.bH.rl.t q.1)
    obtain ⟨v, hv, rv⟩ := q.2.get h
    rw [hx] at hv; cases hv
    exact ⟨Hb, F, L.temps fun p hp => (List.mem_cons.mp hp).elim (fun z => by rw [z]; exact rv) (L.tmp p)⟩
theorem it_lst (h : EvD K te δ (.lst ds)) : ItD K (iList K te) δ ds := fun A σ H ts L R q => h A σ H ts L _ fun v H2 L2 => by
  obtain ⟨Hb, F, L2⟩ := L2
  have hv : Rp K Hb (.lst ds) v := L2.tmp (rp K v (.lst ds)) (by simp)
  unfold Rp at hv
  obtain ⟨a, vs, ev, s, r⟩ := hv
  exact ⟨a, ev, ⟨vs, L2.bH.rl.l s⟩, q _ (tLs K a vs ds) H2 ⟨Hb, F, L2.temps fun p hp => (List.mem_cons.mp hp).elim (fun z => by rw [z]; exact ⟨s, r⟩) fun hp => L2.tmp p (by simp [hp])⟩ walk_lst⟩
theorem it_tup (h : EvD K te δ (.tup ds)) : ItD K (iTup K te) δ ds := fun A σ H ts L R q => h A σ H ts L _ fun v H2 L2 => by
  obtain ⟨Hb, F, L2⟩ := L2
  have hv : Rp K Hb (.tup ds) v := L2.tmp (rp K v (.tup ds)) (by simp)
  unfold Rp at hv
  obtain ⟨a, vs, ev, s, r⟩ := hv
  exact ⟨a, ev, ⟨vs, L2.bH.rl.t s⟩, q _ (tTs K a vs ds) H2 ⟨Hb, F, L2.temps fun p hp => (List.mem_cons.mp hp).elim (fun z => by rw [z]; exact ⟨s, r⟩) fun hp => L2.tmp p (by simp [hp])⟩ walk_tup⟩
/-- a text, sign by sign -/
def sgnD (x : Str) : List D := x.cps.toList.map fun c => D.str ⟨#[c]⟩
theorem sgnD_len {x : Str} : (sgnD x).length = x.length := by unfold sgnD; simp [Str.length]
theorem walk_str {A : Act} {x : Str} : WalkD K A (Its x) tTrue (sgnD x) where
  goes := fun i H Hb h _ _ _ => by rw [sgnD_len] at h; exact h
  stops := fun H Hb _ _ _ => by rw [sgnD_len]; exact Nat.le_refl _
  yields := fun i d A' δ σ H y H' ts h _ L z => by
    obtain ⟨e1, c, hc, rfl⟩ := z
    subst e1
    unfold sgnD at h
    rw [List.getElem?_map, Array.getElem?_toList, hc] at h
    cases h
    exact L.temps fun p hp => (List.mem_cons.mp hp).elim (fun z => .inr fun Hb => by rw [z]; show Rp K Hb _ _; unfold Rp; rfl) .inl
theorem it_str {x : Str} (h : EvD K te δ (.str x)) : ItD K (iStr te) δ (sgnD x) := fun A σ H ts L R q => h A σ H ts L _ fun v H2 L2 => by
  obtain ⟨Hb, F, L2⟩ := L2
  have hv : v = .str x := L2.tmp (rp K v (.str x)) (by simp)
  exact ⟨x, hv, q _ tTrue H2 ⟨Hb, F, L2.temps fun p hp => (List.mem_cons.mp hp).elim (fun z => by rw [z]; trivial) fun hp => L2.tmp p (by simp [hp])⟩ walk_str⟩
/-! ### while -/
theorem sd_while (P : Nat → List Sl → Prop) (m0 : Nat) (h0 : P m0 δ) (hs : ∀ m δ', P m δ' → ∃ b, EvT K tt δ' b ∧ (b = true → SD K W ts1 { E with nx := fun δ2 => ∃ m', m' < m ∧ P m' δ2, ct := fun δ2 => ∃ m', m' < m ∧ P m' δ2, bk := E.nx } δ') ∧ (b = false → E.nx δ')) :
    SD K W (tWhile tt ts1) E δ := fun A σ H ts L T c => by
  refine ⟨fun m σ H => ∃ δ', P m δ' ∧ Lc K A δ' σ H ts, ⟨m0, δ, h0, L⟩, fun m σ H hw => ?_⟩
  obtain ⟨δ', hp, L1⟩ := hw
  obtain ⟨b, hb, h1, h2⟩ := hs m δ' hp
  refine hb A σ H ts L1 _ fun H2 L2 => ?_
  cases b with
  | true =>
    rw [if_pos rfl]
    exact ⟨fun σ3 H3 => ∃ δ3, (∃ m', m' < m ∧ P m' δ3) ∧ Lc K A δ3 σ3 H3 ts, fun σ3 H3 ⟨δ3, ⟨m', lt, p⟩, L3⟩ => ⟨m', lt, δ3, p, L3⟩, h1 rfl A σ H2 ts L2 _ ⟨fun δ3 σ3 H3 p L3 => ⟨δ3, p, L3⟩, c.rt, c.nx, fun δ3 σ3 H3 p L3 => ⟨δ3, p, L3⟩, c.ex⟩⟩
  | false =>
    rw [if_neg Bool.false_ne_true]
    exact c.nx δ' σ H2 (h2 rfl) L2
/-! ### comprehensions -/
theorem LcS.fin {A σ H ts Hb F} (L : LcS K A δ σ H ts Hb F) {p : Addr} {o : HO} (h0 : A.H p = none) (h1 : H p = some o) (h2 : Hb p = none) (h4 : ∀ (i : Nat) φ, δ[i]? = some (.own φ) → F i p = none) : LcS K ⟨upd A.H p o, A.B, A.G⟩ δ σ H ts Hb F :=
  { L with
    gH := L.gH.ex (Ex.new h0)
    eH := fun a u e => by
      by_cases q : a = p
      · subst q; rw [show (⟨upd A.H a o, A.B, A.G⟩ : Act).H a = upd A.H a o a from rfl, upd_same] at e; cases e; exact h1
      · rw [show (⟨upd A.H p o, A.B, A.G⟩ : Act).H a = upd A.H p o a from rfl, upd_ne q] at e; exact L.eH a u e
    ap := fun a h5 h6 => by
      by_cases q : a = p
      · subst q; exact h2
      · exact L.ap a h5 (by rw [show (⟨upd A.H p o, A.B, A.G⟩ : Act).H a = upd A.H p o a from rfl, upd_ne q] at h6; exact h6)
    own := fun i φ h => by
      obtain ⟨a, b, c⟩ := L.own i φ h
      refine ⟨a, b, fun x hx => ⟨(c x hx).1, ?_⟩⟩
      have q : x ≠ p := fun z => hx (by rw [z]; exact h4 i φ h)
      show upd A.H p o x = none
      rw [upd_ne q]; exact (c x hx).2 }
theorem LcS.fout {A σ H ts Hb F} {p : Addr} {o : HO} (L : LcS K ⟨upd A.H p o, A.B, A.G⟩ δ σ H ts Hb F) (g : Rk A.G A.H) (h1 : A.H p = none) (h2 : A.B p = none) :
    LcS K A δ σ H ts Hb F ∧ H p = some o ∧ Hb p = none ∧ ∀ (i : Nat) φ, δ[i]? = some (.own φ) → F i p = none := by
  have hp : (⟨upd A.H p o, A.B, A.G⟩ : Act).H p = some o := upd_same
  have ne : ∀ {a : Addr}, A.H a ≠ none → a ≠ p := fun h z => h (by rw [z]; exact h1)
  refine ⟨{ L with gH := g, eH := fun a u e => L.eH a u ?_, ap := fun a h5 h6 => L.ap a h5 ?_, own := fun i φ h => ?_ }, L.eH p o hp, L.ap p h2 (by rw [hp]; exact fun z => nomatch z), fun i φ h => ?_⟩
  · show upd A.H p o a = some u
    rw [upd_ne (ne (by rw [e]; exact fun z => nomatch z))]; exact e
  · show upd A.H p o a ≠ none
    rw [upd_ne (ne h6)]; exact h6
  · obtain ⟨a, b, c⟩ := L.own i φ h
    refine ⟨a, b, fun x hx => ⟨(c x hx).1, ?_⟩⟩
    have z : upd A.H p o x = none := (c x hx).2
    by_cases q : x = p
    · rw [q, upd_same] at z; cases z
    · rw [upd_ne q] at z; exact z
  · obtain ⟨a, b, c⟩ := L.own i φ h
    refine Classical.byContradiction fun hx => ?_
    have z : upd A.H p o p = none := (c p hx).2
    rw [upd_same] at z; cases z
def wipD (δ : List Sl) : List Nat → List Sl
  | [] => δ
  | v :: vs => (wipD δ vs).set v .no
theorem Lc.wip1 {A σ H ts} (L : Lc K A δ σ H ts) (i : Nat) : Lc K A (δ.set i .no) (σ.set i none) H ts := by
  obtain ⟨Hb, F, L⟩ := L
  have nown : ∀ {j : Nat} {s : Sl}, (δ.set i .no)[j]? = some s → s ≠ .no → δ[j]? = some s ∧ j ≠ i := fun {j s} h ns => by
    rw [List.getElem?_set] at h
    by_cases q : i = j
    · rw [if_pos q] at h
      split at h
      · cases h; exact absurd rfl ns
      · cases h
    · rw [if_neg q] at h; exact ⟨h, fun z => q z.symm⟩
  refine ⟨Hb, F, { L with len := by simp [L.len], dat := fun j e h => ?_, own := fun j ψ h => ?_, dis := fun j k φ ψ n h1 h2 => L.dis j k φ ψ n (nown h1 (by intro z; cases z)).1 (nown h2 (by intro z; cases z)).1, mon := fun j φ h => L.mon j φ (nown h (by intro z; cases z)).1, bor := fun j φ h => ⟨let ⟨u, a, b⟩ := (L.bor j φ (nown h (by intro z; cases z)).1).1; ⟨u, by rw [List.getElem?_set, if_neg (fun z => (nown h (by intro z; cases z)).2 z.symm)]; exact a, b⟩, (L.bor j φ (nown h (by intro z; cases z)).1).2⟩ }⟩
  · obtain ⟨h1, h2⟩ := nown h (by intro z; cases z)
    obtain ⟨v, a, c⟩ := L.dat j e h1
    exact ⟨v, by rw [List.getElem?_set, if_neg (fun z => h2 z.symm)]; exact a, c⟩
  · obtain ⟨h1, h2⟩ := nown h (by intro z; cases z)
    obtain ⟨⟨v, a, c⟩, r⟩ := L.own j ψ h1
    exact ⟨⟨v, by rw [List.getElem?_set, if_neg (fun z => h2 z.symm)]; exact a, c⟩, r⟩
theorem Lc.wip {A σ H ts} (L : Lc K A δ σ H ts) : ∀ vs, Lc K A (wipD δ vs) (wipe σ vs) H ts
  | [] => L
  | v :: vs => (Lc.wip L vs).wip1 v
/-- the names of a comprehension's target -/
def TgC (K : PySem.W.Frag) (vs : List Nat) (g : TG) (d : D) (δ δ' : List Sl) : Prop := ∀ A σ H ts x, Lc K A δ σ H (rp K x d :: ts) → ∀ Q : St → Hp → Prop, (∀ σ' H', Lc K A δ' σ' H' ts → wipe σ' vs = wipe σ vs → Q σ' H') → g x σ H Q
theorem tc_name : TgC K [j] (gName j) d δ (δ.set j (.dat d)) := fun A σ H ts x L Q q => q _ H (L.set j) (by show (σ.set j (some x)).set j none = σ.set j none; rw [List.set_set])
theorem wipe_idem (σ : St) : ∀ vs : List Nat, wipe (wipe σ vs) vs = wipe σ vs := by
  intro vs
  refine List.ext_getElem? fun i => ?_
  have key : ∀ (τ : St) (us : List Nat), (wipe τ us)[i]? = if i ∈ us then (τ[i]?).map fun _ => none else τ[i]? := by
    intro τ us
    induction us with
    | nil => simp [wipe]
    | cons u us ih =>
      unfold wipe
      rw [List.getElem?_set]
      by_cases q : u = i
      · subst q
        rw [if_pos rfl, if_pos (List.mem_cons_self ..), wipe_length]
        by_cases z : u < τ.length
        · rw [if_pos z, List.getElem?_eq_getElem z]; rfl
        · rw [if_neg z, List.getElem?_eq_none (by omega)]; rfl
      · rw [if_neg q, ih]
        by_cases z : i ∈ us
        · rw [if_pos z, if_pos (List.mem_cons_of_mem _ z)]
        · rw [if_neg z, if_neg (fun y => (List.mem_cons.mp y).elim (fun e => q e.symm) z)]
  rw [key, key]
  by_cases z : i ∈ vs
  · rw [if_pos z, if_pos z]; cases σ[i]? <;> rfl
  · rw [if_neg z]
def givD (f : Nat → Bool) (v : Nat → D) (n : Nat) : List D := ((List.range n).filter f).map v
theorem givD_yes {n : Nat} {f : Nat → Bool} {v : Nat → D} (h : f n = true) : givD f v (n + 1) = givD f v n ++ [v n] := by
  unfold givD; rw [List.range_succ, List.filter_append, List.map_append, List.filter_cons, if_pos h] <;> rfl
theorem givD_no {n : Nat} {f : Nat → Bool} {v : Nat → D} (h : f n = false) : givD f v (n + 1) = givD f v n := by
  unfold givD; rw [List.range_succ, List.filter_append, List.map_append, List.filter_cons, if_neg (by rw [h]; decide)]; simp
theorem givD_len (n : Nat) (f : Nat → Bool) (v : Nat → D) : (givD f v n).length ≤ n := by
  unfold givD; rw [List.length_map]
  have h := List.length_filter_le f (List.range n)
  rw [List.length_range] at h; exact h
def tRs (K : PySem.W.Frag) (ds : List D) (vs : List V) : Tm := ⟨fun H => RpA K H ds vs, fun _ _ r h => RpA.mono r _ _ h⟩
theorem LcS.unwip {A σ H ts Hb F} {vs : List Nat} (L : LcS K A δ (wipe σ vs) H ts Hb F) : LcS K A δ σ H ts Hb F :=
  { L with
    len := by rw [← L.len, wipe_length]
    dat := fun j e h => by
      obtain ⟨v, a, c⟩ := L.dat j e h
      exact ⟨v, (wipe_some a).1, c⟩
    own := fun j ψ h => by
      obtain ⟨⟨v, a, c⟩, r⟩ := L.own j ψ h
      exact ⟨⟨v, (wipe_some a).1, c⟩, r⟩
    bor := fun j ψ h => by
      obtain ⟨⟨v, a, c⟩, r⟩ := L.bor j ψ h
      exact ⟨⟨v, (wipe_some a).1, c⟩, r⟩ }
theorem LcS.putP {A σ H ts Hb F} (L : LcS K A δ σ H ts Hb F) {p : Addr} {o : HO} (h1 : A.H p = none) (h2 : Hb p = none) (h4 : ∀ (i : Nat) φ, δ[i]? = some (.own φ) → F i p = none) : LcS K A δ σ (upd H p o) ts Hb F := by
  have k : ∀ {G : Hp}, Ex G H → G p = none → Ex G (upd H p o) := fun e n a u q => by
    rw [upd_ne (ne_of_none q n)]; exact e a u q
  refine { L with eH := k L.eH h1, bH := k L.bH h2, own := fun i φ h => ?_ }
  obtain ⟨a, b, c⟩ := L.own i φ h
  exact ⟨a, k b (h4 i φ h), c⟩
theorem en_lc {vs : List Nat} (hi : ItD K wi δ ds) (hw : wipD δ vs = δ) (hl : ds.length ≤ 1000000) (f : Nat → Bool) (v : Nat → D)
    (hs : ∀ (i : Nat) (d : D), ds[i]? = some d → ∃ δ2, TgC K vs g d δ δ2 ∧ wipD δ2 vs = δ ∧ EvT K tt δ2 (f i) ∧ (f i = true → EvD K te δ2 (v i))) : EvN K (tLc wi g tt te vs) δ (oL K (givD f v ds.length)) := fun A σ H ts L Q q => hi A σ H ts L _ fun J t H1 L1 w P hP => by
  obtain ⟨Hb1, F1, L1'⟩ := id (L1.wip vs)
  rw [hw] at L1'
  have hAP : A.H P = none := L1'.eH.none hP
  have hBP : A.B P = none := L1'.eB.none (L1'.bH.none hP)
  refine ⟨fun i m H => m = ds.length - i ∧ i ≤ ds.length ∧ ∃ acc Hb F, LcS K A δ (wipe σ vs) H (t :: ts) Hb F ∧ H P = some (.lst acc) ∧ Hb P = none ∧ (∀ (i : Nat) φ, δ[i]? = some (.own φ) → F i P = none) ∧ RpA K Hb (givD f v i) acc, ⟨ds.length, by simp, Nat.zero_le _, [], Hb1, F1, L1'.putP hAP (L1'.bH.none hP) (fun i φ h => (L1'.own i φ h).2.1.none hP), upd_same, L1'.bH.none hP, fun i φ h => (L1'.own i φ h).2.1.none hP, RpA.nil⟩, ?_⟩
  rintro i m H2 ⟨rfl, hle, acc, Hb, F, L2, hP2, hbP, hfP, ra⟩
  have tp : t.p Hb := L2.tmp t (by simp)
  by_cases hlt : i < ds.length
  · refine .inr ⟨w.goes i H2 Hb hlt L2.eH L2.bH tp, fun H' => ∃ acc Hb F, LcS K A δ (wipe σ vs) H' (t :: ts) Hb F ∧ H' P = some (.lst acc) ∧ Hb P = none ∧ (∀ (i : Nat) φ, δ[i]? = some (.own φ) → F i P = none) ∧ RpA K Hb (givD f v (i + 1)) acc, fun H' p' => ⟨ds.length - (i + 1), by omega, rfl, hlt, p'⟩, fun x H3 y => ?_⟩
    obtain ⟨d, hd'⟩ : ∃ d, ds[i]? = some d := ⟨ds[i], List.getElem?_eq_getElem hlt⟩
    obtain ⟨δ2, hg, hw2, ht, he⟩ := hs i d hd'
    have L3 : Lc K ⟨upd A.H P (.lst acc), A.B, A.G⟩ δ (wipe σ vs) H2 (t :: tRs K (givD f v i) acc :: ts) := ⟨Hb, F, (L2.fin hAP hP2 hbP hfP).temps fun p hp => by
      rcases List.mem_cons.mp hp with rfl | hp
      · exact tp
      · rcases List.mem_cons.mp hp with rfl | hp
        · exact ra
        · exact L2.tmp p (by simp [hp])⟩
    refine hg _ (wipe σ vs) H3 _ x (w.yields i d _ δ _ H2 x H3 _ hd' (Ex.new hAP) L3 y) _ fun σ2 H4 L4 e2 => ⟨by rw [e2, wipe_idem], ?_⟩
    rw [wipe_idem] at e2
    have back : ∀ {H5 : Hp} {us : List Tm}, Lc K ⟨upd A.H P (.lst acc), A.B, A.G⟩ δ2 σ2 H5 us → ∃ Hb F, LcS K A δ (wipe σ vs) H5 us Hb F ∧ H5 P = some (.lst acc) ∧ Hb P = none ∧ ∀ (i : Nat) φ, δ[i]? = some (.own φ) → F i P = none := fun {H5 us} L5 => by
      obtain ⟨Hb5, F5, L6⟩ := L5.wip vs
      rw [hw2, e2] at L6
      obtain ⟨a, b, c, d⟩ := L6.fout L1'.gH hAP hBP
      exact ⟨Hb5, F5, a, b, c, d⟩
    refine ht _ σ2 H4 _ L4 _ fun H5 L5 => ?_
    cases hf : f i with
    | true =>
      rw [if_pos rfl]
      refine he hf _ σ2 H5 _ L5 _ fun y H6 L6 => ?_
      obtain ⟨Hb6, F6, L7, a, b, c⟩ := back L6
      have ry : Rp K Hb6 (v i) y := L7.tmp (rp K y (v i)) (by simp)
      have rr : RpA K Hb6 (givD f v i) acc := L7.tmp (tRs K (givD f v i) acc) (by simp)
      refine ⟨acc, a, by rw [← rr.len, sizeLine_eq]; have := givD_len i f v; omega, acc ++ [y], Hb6, F6, (L7.temps fun p hp => L7.tmp p (by rcases List.mem_cons.mp hp with h | h <;> simp [h])).putP hAP b c, upd_same, b, c, ?_⟩
      rw [givD_yes hf]
      exact rr.app (RpA.one ry)
    | false =>
      rw [if_neg Bool.false_ne_true]
      obtain ⟨Hb6, F6, L7, a, b, c⟩ := back L5
      have rr : RpA K Hb6 (givD f v i) acc := L7.tmp (tRs K (givD f v i) acc) (by simp)
      refine ⟨acc, Hb6, F6, L7.temps fun p hp => L7.tmp p (by rcases List.mem_cons.mp hp with h | h <;> simp [h]), a, b, c, ?_⟩
      rw [givD_no hf]
      exact rr
  · have e : i = ds.length := by omega
    subst e
    refine .inl ⟨w.stops H2 Hb L2.eH L2.bH tp, q _ H2 ⟨Hb, F, sgl P (.lst acc), (L2.unwip).temps fun p hp => L2.tmp p (by simp [hp]), ⟨P, acc, rfl, rfl, ra⟩, fun a o e => ?_, fun a ha => ?_⟩⟩
    · by_cases z : a = P
      · subst z; rw [sgl_same] at e; rw [← e]; exact hP2
      · rw [sgl_ne z] at e; cases e
    · obtain rfl := sgl_at ha
      exact ⟨hbP, hAP, hfP⟩
end
end DL

namespace DL
open PySem L2 PyProof.Rows
inductive Out where
  | ret (r : Sl) | exc (x : XD)
section
variable (K : PySem.W.Frag)
def RtOk (H B : Hp) (r : Sl) (v : V) (H2 : Hp) : Prop := ∃ Hb, Ex H H2 ∧ Ex B Hb ∧ Ex Hb H2 ∧ (∀ a, B a = none → H a ≠ none → Hb a = none) ∧
  match r with
  | .dat d => Rp K Hb d v
  | .own φ => ∃ F, φ Hb v F ∧ Ex F H2 ∧ ∀ a, F a ≠ none → Hb a = none ∧ H a = none
  | _ => False
def XcOk (H B : Hp) (x : XD) (cls : Value) (d : Option Addr) (H2 : Hp) : Prop := ∃ Hb dd vs, Ex H H2 ∧ Ex B Hb ∧ Ex Hb H2 ∧ (∀ a, B a = none → H a ≠ none → Hb a = none) ∧
  cls = .ref x.C ∧ d = some dd ∧ H2 dd = some (.xd (x.fs.zip vs)) ∧ x.fs.length = vs.length ∧ RpA K Hb x.ds vs ∧ H dd = none ∧ Hb dd = none
/-! ### what is only read: data, or lists and dicts of the caller that hold such -/
inductive Bw where
  | dat (d : D) | lst (xs : List Bw) | dic (ks : List Key) (xs : List Bw)
  deriving Inhabited
mutual
def RpB (Hb G : Hp) : Bw → V → Prop
  | .dat d, v => Rp K Hb d v
  | .lst xs, v => ∃ a vs, v = .ref a ∧ SqL K G a vs ∧ RpBA Hb G xs vs
  | .dic ks xs, v => ∃ a vs, v = .ref a ∧ Rd G a (.dK (ks.zip vs)) ∧ ks.length = vs.length ∧ RpBA Hb G xs vs
def RpBA (Hb G : Hp) : List Bw → List V → Prop
  | [], vs => vs = []
  | d :: ds, vs => ∃ v r, vs = v :: r ∧ RpB Hb G d v ∧ RpBA Hb G ds r
end
def oB (b : Bw) : Ow := fun Hb v G => RpB K Hb G b v
def slB : Bw → Sl
  | .dat d => .dat d
  | b => .bor (oB K b)
/-- the promise of a def by data: from the arguments to what comes out -/
def KOk (H Hb : Hp) (Q : VK) (E : XK) : Out → Prop
  | .ret r => ∀ v H2, RtOk K H Hb r v H2 → Q v H2
  | .exc x => ∀ cls d H2, XcOk K H Hb x cls d H2 → E cls d H2
def spR (S : List Bw → Out → Prop) : Sp := fun vs H Q E => ∃ Hb ds o, Ex Hb H ∧ RpBA K Hb H ds vs ∧ S ds o ∧ KOk K H Hb Q E o
def endsOf (o : Out) : DE := { nx := fun _ => o = .ret (.dat .non), rt := fun r _ => o = .ret r, ex := fun x _ => o = .exc x }
def argsD (n : Nat) (ds : List Bw) : List Sl := ds.map (slB K) ++ List.replicate (n - ds.length) Sl.no
end
section
variable {K : PySem.W.Frag}
mutual
theorem RpB.mono {H H' G G' : Hp} (r : Rl H H') (g : Rl G G') : ∀ (d : Bw) (v : V), RpB K H G d v → RpB K H' G' d v
  | .dat d, v, h => by unfold RpB at h ⊢; exact Rp.mono r d v h
  | .lst xs, v, h => by
    unfold RpB at h ⊢
    obtain ⟨a, vs, e, s, q⟩ := h
    exact ⟨a, vs, e, g.l s, RpBA.mono r g xs vs q⟩
  | .dic ks xs, v, h => by
    unfold RpB at h ⊢
    obtain ⟨a, vs, e, s, z, q⟩ := h
    exact ⟨a, vs, e, g.k s, z, RpBA.mono r g xs vs q⟩
theorem RpBA.mono {H H' G G' : Hp} (r : Rl H H') (g : Rl G G') : ∀ (ds : List Bw) (vs : List V), RpBA K H G ds vs → RpBA K H' G' ds vs
  | [], vs, h => h
  | d :: ds, vs, h => by
    unfold RpBA at h ⊢
    obtain ⟨v, t, e, p, q⟩ := h
    exact ⟨v, t, e, RpB.mono r g d v p, RpBA.mono r g ds t q⟩
end
theorem monB_oB {b : Bw} : MonB (oB K b) := fun Hb Hb' v G G' r g h => RpB.mono r g b v h
theorem RpBA.len {H G : Hp} : ∀ {ds : List Bw} {vs : List V}, RpBA K H G ds vs → ds.length = vs.length
  | [], vs, h => by unfold RpBA at h; subst h; rfl
  | d :: ds, vs, h => by
    unfold RpBA at h
    obtain ⟨v, t, rfl, p, q⟩ := h
    rw [List.length_cons, List.length_cons, RpBA.len q]
theorem RpBA.get {H G : Hp} : ∀ {ds : List Bw} {vs : List V} {i : Nat} {d : Bw}, RpBA K H G ds vs → ds[i]? = some d → ∃ v, vs[i]? = some v ∧ RpB K H G d v
  | [], vs, i, d, h, e => by simp at e
  | x :: ds, vs, i, d, h, e => by
    unfold RpBA at h
    obtain ⟨v, t, rfl, p, q⟩ := h
    cases i with
    | zero => simp at e; subst e; exact ⟨v, rfl, p⟩
    | succ i =>
      obtain ⟨u, a, b⟩ := RpBA.get (i := i) q (by simpa using e)
      exact ⟨u, by simpa using a, b⟩
theorem RpBA.nil {H G : Hp} : RpBA K H G [] [] := by unfold RpBA; rfl
theorem RpBA.cons {H G : Hp} {d : Bw} {v : V} {ds : List Bw} {vs : List V} (h : RpB K H G d v) (t : RpBA K H G ds vs) : RpBA K H G (d :: ds) (v :: vs) := by
  unfold RpBA; exact ⟨v, vs, rfl, h, t⟩
theorem rpba_dat {H G : Hp} : ∀ {ds : List D} {vs : List V}, RpA K H ds vs → RpBA K H G (ds.map .dat) vs
  | [], vs, h => by rw [RpA.nilV h]; exact RpBA.nil
  | d :: ds, vs, h => by
    obtain ⟨v, t, rfl, p, q⟩ := RpA.consV h
    exact RpBA.cons (by unfold RpB; exact p) (rpba_dat q)
theorem rpba_undat {H G : Hp} : ∀ {ds : List D} {vs : List V}, RpBA K H G (ds.map .dat) vs → RpA K H ds vs
  | [], vs, h => by unfold RpBA at h; subst h; exact RpA.nil
  | d :: ds, vs, h => by
    have h : RpBA K H G (.dat d :: ds.map .dat) vs := h
    unfold RpBA at h
    obtain ⟨v, t, rfl, p, q⟩ := h
    exact RpA.cons (by unfold RpB at p; exact p) (rpba_undat q)
/-- the value of an expression that is only read: known from now on -/
def EvB (K : PySem.W.Frag) (te : TE) (δ : List Sl) (b : Bw) : Prop := ∀ A σ H ts, Lc K A δ σ H ts → ∀ Q : VK, (∀ v H2 (t : Tm), Lc K A δ σ H2 (t :: ts) → (∀ H3 Hb F us, LcS K A δ σ H3 us Hb F → t.p Hb → RpB K Hb H3 b v) → Q v H2) → te σ H Q
def EvC (K : PySem.W.Frag) (ta : TA) (δ : List Sl) (bs : List Bw) : Prop := ∀ A σ H ts, Lc K A δ σ H ts → ∀ Q : List V → Hp → Prop, (∀ vs H2 (tt : List Tm), Lc K A δ σ H2 (tt ++ ts) → (∀ H3 Hb F us, LcS K A δ σ H3 us Hb F → (∀ p ∈ tt, p.p Hb) → RpBA K Hb H3 bs vs) → Q vs H2) → ta σ H Q
def tAny0 : Tm := ⟨fun _ => True, fun _ _ _ _ => trivial⟩
section
variable {δ : List Sl} {te : TE} {i : Nat}
theorem eb_dat {d : D} (h : EvD K te δ d) : EvB K te δ (.dat d) := fun A σ H ts L Q q => h A σ H ts L Q fun v H2 L2 => q v H2 (rp K v d) L2 fun H3 Hb F us L3 p => by unfold RpB; exact p
theorem EvB.undat {d : D} (h : EvB K te δ (.dat d)) : EvD K te δ d := fun A σ H ts L Q q => h A σ H ts L Q fun v H2 t L2 l => q v H2 (by
  obtain ⟨Hb, F, L2⟩ := L2
  have := l H2 Hb F _ L2 (L2.tmp t (by simp))
  unfold RpB at this
  exact ⟨Hb, F, L2.temps fun p hp => (List.mem_cons.mp hp).elim (fun z => by rw [z]; exact this) fun hp => L2.tmp p (by simp [hp])⟩)
theorem eb_lst {ds : List D} (h : EvB K te δ (.dat (.lst ds))) : EvB K te δ (.lst (ds.map .dat)) := fun A σ H ts L Q q => h A σ H ts L Q fun v H2 t L2 l => q v H2 t L2 fun H3 Hb F us L3 p => by
  have := l H3 Hb F us L3 p
  unfold RpB Rp at this
  obtain ⟨a, vs, e, s, r⟩ := this
  unfold RpB
  exact ⟨a, vs, e, L3.bH.rl.l s, rpba_dat r⟩
theorem eb_dic {ks : List Key} {ds : List D} (h : EvB K te δ (.dat (.dic ks ds))) : EvB K te δ (.dic ks (ds.map .dat)) := fun A σ H ts L Q q => h A σ H ts L Q fun v H2 t L2 l => q v H2 t L2 fun H3 Hb F us L3 p => by
  have := l H3 Hb F us L3 p
  unfold RpB Rp at this
  obtain ⟨a, vs, e, s, z, r⟩ := this
  unfold RpB
  exact ⟨a, vs, e, L3.bH.rl.k s, z, rpba_dat r⟩
theorem eb_ownL {ds : List D} (h : δ[i]? = some (.own (oL K ds))) : EvB K (tVar i) δ (.lst (ds.map .dat)) := fun A σ H ts L Q q => by
  obtain ⟨Hb, F, L⟩ := L
  obtain ⟨⟨v, hv, p, vs, rfl, f, r⟩, fH, ap⟩ := L.own i _ h
  refine ⟨_, hv, q _ H tAny0 ⟨Hb, F, L.temps fun p hp => (List.mem_cons.mp hp).elim (fun z => by rw [z]; trivial) (L.tmp p)⟩ fun H3 Hb3 F3 us L3 _ => ?_⟩
  obtain ⟨⟨v3, hv3, p3, vs3, rfl, f3, r3⟩, fH3, ap3⟩ := L3.own i _ h
  rw [hv] at hv3; cases hv3
  unfold RpB
  exact ⟨p, vs3, rfl, .inl (.inl (fH3 p _ (by rw [f3, sgl_same]))), rpba_dat r3⟩
theorem eb_ownD {ks : List Key} {ds : List D} (h : δ[i]? = some (.own (oD K ks ds))) : EvB K (tVar i) δ (.dic ks (ds.map .dat)) := fun A σ H ts L Q q => by
  obtain ⟨Hb, F, L⟩ := L
  obtain ⟨⟨v, hv, p, vs, rfl, f, z, r⟩, fH, ap⟩ := L.own i _ h
  refine ⟨_, hv, q _ H tAny0 ⟨Hb, F, L.temps fun p hp => (List.mem_cons.mp hp).elim (fun z => by rw [z]; trivial) (L.tmp p)⟩ fun H3 Hb3 F3 us L3 _ => ?_⟩
  obtain ⟨⟨v3, hv3, p3, vs3, rfl, f3, z3, r3⟩, fH3, ap3⟩ := L3.own i _ h
  rw [hv] at hv3; cases hv3
  unfold RpB
  exact ⟨p, vs3, rfl, .inl (fH3 p _ (by rw [f3, sgl_same])), z3, rpba_dat r3⟩
theorem eb_bor {b : Bw} (h : δ[i]? = some (.bor (oB K b))) : EvB K (tVar i) δ b := fun A σ H ts L Q q => by
  obtain ⟨Hb, F, L⟩ := L
  obtain ⟨⟨v, hv, r⟩, m⟩ := L.bor i _ h
  refine ⟨v, hv, q v H tAny0 ⟨Hb, F, L.temps fun p hp => (List.mem_cons.mp hp).elim (fun z => by rw [z]; trivial) (L.tmp p)⟩ fun H3 Hb3 F3 us L3 _ => ?_⟩
  obtain ⟨⟨v3, hv3, r3⟩, _⟩ := L3.bor i _ h
  rw [hv] at hv3; cases hv3
  exact RpB.mono (Rl.refl _) (L3.gH.ex L3.eH).rl b v r3
theorem ec_nil : EvC K tNil δ [] := fun A σ H ts L Q q => q [] H [] L fun _ _ _ _ _ _ => RpBA.nil
theorem ec_cons {tr : TA} {b : Bw} {bs : List Bw} (h : EvB K te δ b) (hr : EvC K tr δ bs) : EvC K (tCons te tr) δ (b :: bs) := fun A σ H ts L Q q =>
  h A σ H ts L _ fun v H1 t L1 l1 => hr A σ H1 _ L1 _ fun vs H2 tt L2 l2 => q (v :: vs) H2 (t :: tt) (L2.temps fun p hp => .inl (by
    simp only [List.cons_append, List.mem_cons, List.mem_append] at hp ⊢
    rcases hp with hp | hp | hp
    · exact .inr (.inl hp)
    · exact .inl hp
    · exact .inr (.inr hp))) fun H3 Hb F us L3 p => RpBA.cons (l1 H3 Hb F us L3 (p t (by simp))) (l2 H3 Hb F us L3 fun x hx => p x (by simp [hx]))
theorem ec_dat {ta : TA} {ds : List D} (h : EvA K ta δ ds) : EvC K ta δ (ds.map .dat) := fun A σ H ts L Q q => h A σ H ts L Q fun vs H2 hl L2 => q vs H2 _ L2 fun H3 Hb F us L3 p => rpba_dat (rpa_zip hl p)
theorem EvC.rpa {ta : TA} {bs : List Bw} (h : EvC K ta δ bs) {A σ H ts} (L : Lc K A δ σ H ts) (Q : List V → Hp → Prop) (q : ∀ vs H2 Hb F, LcS K A δ σ H2 ts Hb F → RpBA K Hb H2 bs vs → Q vs H2) : ta σ H Q :=
  h A σ H ts L Q fun vs H2 tt ⟨Hb, F, L2⟩ l => q vs H2 Hb F (L2.temps fun p hp => L2.tmp p (by simp [hp])) (l H2 Hb F _ L2 fun p hp => L2.tmp p (by simp [hp]))
theorem EvB.rpb {b : Bw} (h : EvB K te δ b) {A σ H ts} (L : Lc K A δ σ H ts) (Q : VK) (q : ∀ v H2 Hb F, LcS K A δ σ H2 ts Hb F → RpB K Hb H2 b v → Q v H2) : te σ H Q :=
  h A σ H ts L Q fun v H2 t ⟨Hb, F, L2⟩ l => q v H2 Hb F (L2.temps fun p hp => L2.tmp p (by simp [hp])) (l H2 Hb F _ L2 (L2.tmp t (by simp)))
end
end
section
variable {K : PySem.W.Frag} {W : WX} {E : DE} {δ δ' : List Sl} {ta : TA} {te : TE} {d : D} {ds : List Bw} {S : List Bw → Out → Prop} {x : XD} {g : TG}
theorem args_at {n i : Nat} {s : Sl} (h : (argsD K n ds)[i]? = some s) : s = .no ∨ ∃ b, ds[i]? = some b ∧ s = slB K b := by
  unfold argsD at h
  by_cases q : i < ds.length
  · rw [List.getElem?_append_left (by simpa using q), List.getElem?_map] at h
    cases z : ds[i]? with
    | none => rw [z] at h; cases h
    | some e => rw [z] at h; cases h; exact .inr ⟨e, rfl, rfl⟩
  · rw [List.getElem?_append_right (by simpa using q), List.getElem?_replicate] at h
    split at h
    · cases h; exact .inl rfl
    · cases h
theorem args_own {n i : Nat} {φ : Ow} (h : (argsD K n ds)[i]? = some (.own φ)) : False := by
  rcases args_at h with z | ⟨b, _, z⟩
  · cases z
  · cases b <;> cases z
theorem args_dat {n i : Nat} (h : (argsD K n ds)[i]? = some (.dat d)) : ds[i]? = some (.dat d) := by
  rcases args_at h with z | ⟨b, e, z⟩
  · cases z
  · cases b <;> cases z; exact e
theorem args_bor {n i : Nat} {φ : Ow} (h : (argsD K n ds)[i]? = some (.bor φ)) : ∃ b, ds[i]? = some b ∧ φ = oB K b := by
  rcases args_at h with z | ⟨b, e, z⟩
  · cases z
  · cases b <;> cases z <;> exact ⟨_, e, rfl⟩
theorem start_at {N : List Str} {vs : List V} {i : Nat} {v : V} (hv : vs[i]? = some v) : (L2.start N vs)[i]? = some (some v) := by
  unfold L2.start
  have hi : i < vs.length := (List.getElem?_eq_some_iff.mp hv).1
  rw [List.getElem?_append_left (by simpa using hi), List.getElem?_map, hv]; rfl
theorem lc_args {N : List Str} {vs : List V} {H Hb : Hp} (e : Ex Hb H) (r : RpBA K Hb H ds vs) : LcS K ⟨H, Hb, H⟩ (argsD K N.length ds) (L2.start N vs) H [] Hb (fun _ => emp) where
  eH := Ex.refl H
  eB := Ex.refl Hb
  bH := e
  ap := fun a h _ => h
  len := by unfold argsD L2.start; simp [r.len]
  dat := fun i d h => by
    obtain ⟨v, hv, rv⟩ := r.get (args_dat h)
    exact ⟨v, start_at hv, by unfold RpB at rv; exact rv⟩
  own := fun i φ h => (args_own h).elim
  dis := fun i j φ ψ _ h => (args_own h).elim
  mon := fun i φ h => (args_own h).elim
  gH := Rk.refl H
  bor := fun i φ h => by
    obtain ⟨b, hb, rfl⟩ := args_bor h
    obtain ⟨v, hv, rv⟩ := r.get hb
    exact ⟨⟨v, start_at hv, rv⟩, monB_oB⟩
  tmp := fun p hp => nomatch hp
theorem rt_of {A : Act} {σ : L2.St} {H : Hp} {ts : List Tm} {r : Sl} {v : V} (L : LcR K A δ σ H ts r v) : RtOk K A.H A.B r v H := by
  cases r with
  | no => exact L.elim
  | bor φ => exact L.elim
  | dat d =>
    obtain ⟨Hb, F, L⟩ := (show Lc K A δ σ H (rp K v d :: ts) from L)
    exact ⟨Hb, L.eH, L.eB, L.bH, L.ap, L.tmp (rp K v d) (by simp)⟩
  | own φ =>
    obtain ⟨_, Hb, F, Fv, L, hφ, fH, ap⟩ := (show Mon φ ∧ LcO K A δ σ H ts φ v from L)
    exact ⟨Hb, L.eH, L.eB, L.bH, L.ap, Fv, hφ, fH, fun a ha => ⟨(ap a ha).1, (ap a ha).2.1⟩⟩
theorem nx_of {A : Act} {σ : L2.St} {H : Hp} {ts : List Tm} (L : Lc K A δ σ H ts) : RtOk K A.H A.B (.dat .non) .non H := by
  obtain ⟨Hb, F, L⟩ := L
  exact ⟨Hb, L.eH, L.eB, L.bH, L.ap, by show Rp K Hb .non .non; unfold Rp; rfl⟩
theorem xc_of {A : Act} {σ : L2.St} {H : Hp} {ts : List Tm} {cls : Value} {dd : Option Addr} (X : XOk K A ts x δ cls dd σ H) : XcOk K A.H A.B x cls dd H := by
  obtain ⟨Hb, F, dd, vs, L, h1, h2, h3, h4, h5, h6, h7, _⟩ := X
  exact ⟨Hb, dd, vs, L.eH, L.eB, L.bH, L.ap, h1, h2, h3, h4, h5, h6, h7⟩
theorem sd_run {N : List Str} {t : TS} {Q : VK} {Ex' : XK} {vs : List V} {H : Hp} {o : Out} {Hb : Hp} (h : SD K (fun cls d _ H => Ex' cls d H) t (endsOf o) (argsD K N.length ds)) (e : Ex Hb H) (r : RpBA K Hb H ds vs)
    (k : KOk K H Hb Q Ex' o) : t { nx := fun _ H' => Q .non H', rt := Q } (L2.start N vs) H := by
  refine h ⟨H, Hb, H⟩ (L2.start N vs) H [] ⟨Hb, _, lc_args e r⟩ _ ⟨fun δ σ H2 q L => ?_, fun r δ σ H2 v q L => ?_, fun _ _ _ q => q.elim, fun _ _ _ q => q.elim, fun x δ σ H2 cls d q X => ?_⟩
  · cases (show o = .ret (.dat .non) from q)
    exact k _ _ (nx_of (A := ⟨H, Hb, H⟩) L)
  · cases (show o = .ret r from q)
    exact k _ _ (rt_of (A := ⟨H, Hb, H⟩) L)
  · cases (show o = .exc x from q)
    exact k _ _ _ (xc_of (A := ⟨H, Hb, H⟩) X)
/-! ### a def holds its promise -/
/-- a def of the text as it stands, with whatever defaults -/
structure FunA (K : PySem.W.Frag) (x qual : Str) (st : Stmt) (f : Addr) (fd : FuncData) : Prop where
  ex : ∃ (oc : Value) (od : Option Addr) (dV kV doc pm : Value) (an : Option Addr) (cdv ct : Value) (osl : Array (Option Value)),
    fd = PySem.W.fnOf x qual (defArgs st) (defBody st) (defScope st) dV kV doc pm an cdv ct ∧ K.lookup f = some ⟨oc, od, .func fd, osl⟩ ∧ PySem.W.codeIn K cdv qual = true
  kp : PySem.W.keepIn K (.ref f) = true
theorem funA {x qual : Str} {st : Stmt} {f : Addr} {fd : FuncData} (F : Fun K x qual st f fd) : FunA K x qual st f fd := by
  obtain ⟨⟨oc, od, kV, doc, pm, an, cdv, ct, osl, h⟩, k⟩ := F
  exact ⟨⟨oc, od, .none, kV, doc, pm, an, cdv, ct, osl, h⟩, k⟩
theorem funAD {x qual : Str} {st : Stmt} {f : Addr} {fd : FuncData} {dvs : List V} {kws : List (Str × V)} (F : FunD K x qual (defArgs st) (defBody st) (defScope st) dvs kws f fd) : FunA K x qual st f fd := by
  obtain ⟨⟨oc, od, dV, kV, doc, pm, an, cdv, ct, osl, h1, h2, h3, _⟩, k⟩ := F
  exact ⟨⟨oc, od, dV, kV, doc, pm, an, cdv, ct, osl, h1, h2, h3⟩, k⟩
theorem FunA.okX {P : Program} {w : World} {mg : Str → Option Value} {base : Heap} {x qual : Str} {st : Stmt} {f : Addr} {fd : FuncData} {N ps : List Str} {k : Nat} {sp : Sp} (F : FunA K x qual st f fd) (S : FnScope N ps (defScope st)) (len : ∀ vs H Q E, sp vs H Q E → vs.length = ps.length)
    (hbody : ∀ (cdv : Value) (A : Around) (outer : List Env) (s : Shared) (H : Hp) (vs : List V) (Q : VK) (E : XK), Room k (A.deeper (envOfC qual (defScope st) s.heap.objs.size f cdv)) → sp vs H Q E →
      ∃ t, PSs (cxOf (L2.CX P w) P w K mg base N qual (defScope st) f cdv A outer s H E) (defBody st) t ∧ t { nx := fun _ H' => Q .non H', rt := Q } (L2.start N vs) H) : FnOk P w K mg base (L2.CX P w) (k + 1) f fd ps sp := by
  obtain ⟨oc, od, dV, kV, doc, pm, an, cdv, ct, osl, rfl, lk, hcd⟩ := F.ex
  exact fn_of lk hcd S len fun A outer s H vs Q E hr hsp => hbody cdv A outer s H vs Q E hr hsp
theorem fnD {P : Program} {w : World} {mg : Str → Option Value} {base : Heap} {nm qual : Str} {st : Stmt} {f : Addr} {fd : FuncData} {N ps : List Str} {k : Nat} (F : FunA K nm qual st f fd) (sc : FnScope N ps (defScope st))
    (len : ∀ ds o, S ds o → ds.length = ps.length)
    (hbody : ∀ (cdv : Value) (A : Around) (outer : List Env) (s : Shared) (H : Hp) (Ex' : XK), Room k (A.deeper (envOfC qual (defScope st) s.heap.objs.size f cdv)) →
      ∃ t, PSs (cxOf (L2.CX P w) P w K mg base N qual (defScope st) f cdv A outer s H Ex') (defBody st) t ∧ ∀ ds o, S ds o → SD K (fun cls d _ H => Ex' cls d H) t (endsOf o) (argsD K N.length ds)) :
    FnOk P w K mg base (L2.CX P w) (k + 1) f fd ps (spR K S) := by
  refine F.okX sc (fun vs H Q Ex' h => ?_) fun cdv A outer s H vs Q Ex' hr h => ?_
  · obtain ⟨Hb, ds, o, e, r, hS, _⟩ := h
    rw [← r.len]; exact len ds o hS
  · obtain ⟨Hb, ds, o, e, r, hS, kk⟩ := h
    obtain ⟨t, ht, hd⟩ := hbody cdv A outer s H Ex' hr
    exact ⟨t, ht, sd_run (hd ds o hS) e r kk⟩
/-! ### calls -/
theorem LcS.back {A σ H ts Hb F} (L : LcS K A δ σ H ts Hb F) {H2 Hb2 : Hp} (e1 : Ex H H2) (e2 : Ex Hb Hb2) (e3 : Ex Hb2 H2) (ap : ∀ a, Hb a = none → H a ≠ none → Hb2 a = none) {ts' : List Tm} (ht : ∀ p ∈ ts', p.p Hb2) : LcS K A δ σ H2 ts' Hb2 F :=
  L.grow e1 e2 e3 (fun a h1 h2 => Classical.byContradiction fun q => h2 (ap a h1 q)) ht
theorem call_dat {A σ H ts Hb F vs} {Q : VK} {Ex' : XK} (L : LcS K A δ σ H ts Hb F) (r : RpBA K Hb H ds vs) (hS : S ds (.ret (.dat d))) (q : ∀ v H2, Lc K A δ σ H2 (rp K v d :: ts) → Q v H2) : spR K S vs H Q Ex' :=
  ⟨Hb, ds, .ret (.dat d), L.bH, r, hS, fun v H3 ⟨Hb3, e1, e2, e3, ap, rv⟩ => q v H3 ⟨Hb3, F, L.back e1 e2 e3 ap fun p hp => (List.mem_cons.mp hp).elim (fun z => by rw [z]; exact rv) fun hp => p.m _ _ e2.rl (L.tmp p hp)⟩⟩
theorem call_own {φ : Ow} {A σ H ts Hb F vs} {Q : VK} {Ex' : XK} (L : LcS K A δ σ H ts Hb F) (r : RpBA K Hb H ds vs) (hS : S ds (.ret (.own φ))) (q : ∀ v H2, LcO K A δ σ H2 ts φ v → Q v H2) : spR K S vs H Q Ex' :=
  ⟨Hb, ds, .ret (.own φ), L.bH, r, hS, fun v H3 ⟨Hb3, e1, e2, e3, ap, Fv, hφ, fH, fa⟩ => q v H3 ⟨Hb3, F, Fv, L.back e1 e2 e3 ap fun p hp => p.m _ _ e2.rl (L.tmp p hp), hφ, fH, fun a ha => ⟨(fa a ha).1, L.eH.none (fa a ha).2, fun i ψ h => (L.own i ψ h).2.1.none (fa a ha).2⟩⟩⟩
theorem call_exc {A σ H ts Hb F vs} {Q : VK} (L : LcS K A δ σ H ts Hb F) (r : RpBA K Hb H ds vs) (hS : S ds (.exc x)) (q : ∀ cls d H2, XOk K A ts x δ cls d σ H2 → W cls d σ H2) : spR K S vs H Q (WE W σ) :=
  ⟨Hb, ds, .exc x, L.bH, r, hS, fun cls d H3 ⟨Hb3, dd, us, e1, e2, e3, ap, h1, h2, h3, h4, h5, h6, h7⟩ => q cls d H3 ⟨Hb3, F, dd, us, L.back e1 e2 e3 ap fun p hp => p.m _ _ e2.rl (L.tmp p hp), h1, h2, h3, h4, h5, L.eH.none h6, h7, fun i φ h => (L.own i φ h).2.1.none h6⟩⟩
theorem ev_call (h : EvC K ta δ ds) (hS : S ds (.ret (.dat d))) : EvD K (tCallS (spR K S) (WE W) ta) δ d := fun A σ H ts L Q q => h.rpa L _ fun vs H2 Hb F L2 r => call_dat L2 r hS q
theorem en_call {φ : Ow} (h : EvC K ta δ ds) (hS : S ds (.ret (.own φ))) : EvN K (tCallS (spR K S) (WE W) ta) δ φ := fun A σ H ts L Q q => h.rpa L _ fun vs H2 Hb F L2 r => call_own L2 r hS q
theorem ex_call (h : EvC K ta δ ds) (hS : S ds (.exc x)) : EvX K W (tCallS (spR K S) (WE W) ta) δ x := fun A σ H ts L q Q => h.rpa L _ fun vs H2 Hb F L2 r => call_exc L2 r hS q
theorem ev_callC (h : EvC K ta δ ds) (hS : S ds (.ret (.dat d))) : EvD K (tCall (spR K S) [] E0 ta) δ d := fun A σ H ts L Q q => h.rpa L _ fun vs H2 Hb F L2 r => by
  rw [List.append_nil]; exact call_dat L2 r hS q
theorem en_callC {φ : Ow} (h : EvC K ta δ ds) (hS : S ds (.ret (.own φ))) : EvN K (tCall (spR K S) [] E0 ta) δ φ := fun A σ H ts L Q q => h.rpa L _ fun vs H2 Hb F L2 r => by
  rw [List.append_nil]; exact call_own L2 r hS q
theorem sd_asgX (he : EvX K W te δ x) (h : E.ex x δ) : SD K W (tAsg te g) E δ := fun A σ H ts L T c => he A σ H ts L (fun cls d H2 X => c.ex x δ σ H2 cls d h X) _
theorem sd_dropX (he : EvX K W te δ x) (h : E.ex x δ) : SD K W (tDrop te) E δ := fun A σ H ts L T c => he A σ H ts L (fun cls d H2 X => c.ex x δ σ H2 cls d h X) _
theorem sd_retX (he : EvX K W te δ x) (h : E.ex x δ) : SD K W (tRet te) E δ := fun A σ H ts L T c => he A σ H ts L (fun cls d H2 X => c.ex x δ σ H2 cls d h X) _
end
/-- a callee at hand: where it stands, its promise -/
structure Cal (P : Program) (w : World) (K : PySem.W.Frag) (mg : Str → Option Value) (base : Heap) (x : Str) (ps : List Str) (k : Nat) (sp : Sp) : Prop where
  ex : ∃ f fd, FnOk P w K mg base (L2.CX P w) k f fd ps sp ∧ mg x = some (.ref f) ∧ PySem.W.keepIn K (.ref f) = true ∧ Binds K fd ps []
section
variable {X : Cx} {x : Str} {ps : List Str} {k j : Nat} {sp : Sp} {W : WX} {e : Expr} {es : List Expr} {t : TA} {p pos : Pos}
theorem pe_cal (C : Cal X.prog X.w X.K X.mg X.base x ps k sp) (hr : Room j X.A) (hk : k ≤ j) (tk : Takes X W) (ha : PA X (e :: es) t) (hg : Gl X x := by rfl) (hdb : (x == ("__debug__" : Str)) = false := by decide)
    (he : starEach (e :: es) X.env = (false, eval e X.env) :: starEach es X.env := by rfl) (hpl : (backTo pos (starEach es X.env)).any (·.1) = false := by rfl) : PE X (.Call (.Name x p) (e :: es) [] pos) (tCallS sp (WE W) t) := by
  obtain ⟨f, fd, h1, h2, h3, h4⟩ := C.ex
  exact pe_callS h1 (hr.mono hk) hg h2 h3 h4 (fun σ => passAt tk σ) ha hdb he hpl
theorem pe_calC (C : Cal X.prog X.w X.K X.mg X.base x ps k sp) (hr : Room j X.A) (hk : k ≤ j) (ha : PA X (e :: es) t) (hg : Gl X x := by rfl) (hdb : (x == ("__debug__" : Str)) = false := by decide)
    (he : starEach (e :: es) X.env = (false, eval e X.env) :: starEach es X.env := by rfl) (hpl : (backTo pos (starEach es X.env)).any (·.1) = false := by rfl) : PE X (.Call (.Name x p) (e :: es) [] pos) (tCall sp [] E0 t) := by
  obtain ⟨f, fd, h1, h2, h3, h4⟩ := C.ex
  exact pe_call h1 (hr.mono hk) hg h2 h3 h4 .nil passL ha hdb he hpl
end
end DL
namespace DL
open PySem L2
section
variable {K : PySem.W.Frag} {W : WX} {E : DE} {δ δ1 : List Sl} {t1 t2 : TS}
theorem sd_to (δ1 : List Sl) (h : SD K W t1 { E with nx := fun δ' => δ' = δ1 } δ) (k : SD K W t2 E δ1) : SD K W (tSeq t1 t2) E δ :=
  sd_seq (sd_mono h (fun δ' e => by cases e; exact k) (fun _ _ z => z) (fun _ z => z) (fun _ z => z) fun _ _ z => z)
theorem sd_mid (M : List Sl → Prop) (h : SD K W t1 { E with nx := M } δ) (k : ∀ δ', M δ' → SD K W t2 E δ') : SD K W (tSeq t1 t2) E δ :=
  sd_seq (sd_mono h k (fun _ _ z => z) (fun _ z => z) (fun _ z => z) fun _ _ z => z)
end
end DL

namespace DL
open PySem L2 PyProof.Rows
/-! ### the text's forms, each with all its kinds -/
def bnames : List Str := ["len", "int", "range", "isinstance", "list", "tuple", "enumerate", "sum", "any", "str", "bool", "dict", "super", "sorted", "reversed", "iter", "abs", "max", "min", "ValueError", "Exception"]
def NoB (mg : Str → Option Value) : Prop := ∀ x ∈ bnames, mg x = none
section
variable {X : Cx} {a b c e l : Expr} {es : List Expr} {ta tb tc te tl : TE} {t : TA} {pos p : Pos} {k : Nat} {x : Str}
theorem p_add (ha : PE X a ta) (hb : PE X b tb) : PE X (.BinOp a .Add b pos) (tOp (rADD X.K) ta tb) := pe_op op_ADD ha hb
theorem p_sub (ha : PE X a ta) (hb : PE X b tb) : PE X (.BinOp a .Sub b pos) (tOp rSUB ta tb) := pe_op op_SUB ha hb
theorem p_mul (ha : PE X a ta) (hb : PE X b tb) : PE X (.BinOp a .Mult b pos) (tOp rMUL ta tb) := pe_op op_MUL ha hb
theorem p_mod (ha : PE X a ta) (hb : PE X b tb) : PE X (.BinOp a .Mod b pos) (tOp rMOD ta tb) := pe_op op_MOD ha hb
theorem p_div (ha : PE X a ta) (hb : PE X b tb) : PE X (.BinOp a .FloorDiv b pos) (tOp rDIV ta tb) := pe_op op_DIV ha hb
theorem p_pow (ha : PE X a ta) (hb : PE X b tb) : PE X (.BinOp a .Pow b pos) (tOp rPOW ta tb) := pe_op op_POW ha hb
theorem p_neg (ha : PE X a ta) : PE X (.UnaryOp .USub a pos) (tUn (rU fun i => .int (-i)) ta) := pe_un un_neg ha
theorem p_lt (ha : PE X a ta) (hb : PE X b tb) : PE X (.Compare a [.Lt] [b] pos) (tOp rLT ta tb) := pe_cmpR op_LT ha hb (nomark _)
theorem p_le (ha : PE X a ta) (hb : PE X b tb) : PE X (.Compare a [.LtE] [b] pos) (tOp rLE ta tb) := pe_cmpR op_LE ha hb (nomark _)
theorem p_gt (ha : PE X a ta) (hb : PE X b tb) : PE X (.Compare a [.Gt] [b] pos) (tOp rGT ta tb) := pe_cmpR op_GT ha hb (nomark _)
theorem p_ge (ha : PE X a ta) (hb : PE X b tb) : PE X (.Compare a [.GtE] [b] pos) (tOp rGE ta tb) := pe_cmpR op_GE ha hb (nomark _)
theorem p_eq (hr : Room k X.A) (ha : PE X a ta) (hb : PE X b tb) : PE X (.Compare a [.Eq] [b] pos) (tOp (rEQ X.K) ta tb) := pe_cmpR (op_EQ hr) ha hb (nomark _)
theorem p_ne (hr : Room k X.A) (ha : PE X a ta) (hb : PE X b tb) : PE X (.Compare a [.NotEq] [b] pos) (tOp (rNE X.K) ta tb) := pe_cmpR (op_NE hr) ha hb (nomark _)
theorem p_in (hr : Room k X.A) (ha : PE X a ta) (hb : PE X b tb) (hm : behindInMarks .In b = false := by with_unfolding_all rfl) : PE X (.Compare a [.In] [b] pos) (tOp (rIN X.K false) ta tb) := pe_cmpR (op_IN hr) ha hb hm
theorem p_nin (hr : Room k X.A) (ha : PE X a ta) (hb : PE X b tb) (hm : behindInMarks .NotIn b = false := by with_unfolding_all rfl) : PE X (.Compare a [.NotIn] [b] pos) (tOp (rIN X.K true) ta tb) := pe_cmpR (op_NIN hr) ha hb hm
theorem p_is (ha : PE X a ta) (hb : PE X b tb) : PE X (.Compare a [.Is] [b] pos) (tOp rIS ta tb) := pe_cmpR op_IS ha hb (nomark _)
theorem p_nis (ha : PE X a ta) (hb : PE X b tb) : PE X (.Compare a [.IsNot] [b] pos) (tOp rNIS ta tb) := pe_cmpR op_NIS ha hb (nomark _)
theorem q_lt (ha : PE X a ta) (hb : PE X b tb) : PT X (.Compare a [.Lt] [b] pos) (tTest (tOp rLT ta tb)) := pt_cmpR op_LT ha hb (nomark _)
theorem q_le (ha : PE X a ta) (hb : PE X b tb) : PT X (.Compare a [.LtE] [b] pos) (tTest (tOp rLE ta tb)) := pt_cmpR op_LE ha hb (nomark _)
theorem q_gt (ha : PE X a ta) (hb : PE X b tb) : PT X (.Compare a [.Gt] [b] pos) (tTest (tOp rGT ta tb)) := pt_cmpR op_GT ha hb (nomark _)
theorem q_ge (ha : PE X a ta) (hb : PE X b tb) : PT X (.Compare a [.GtE] [b] pos) (tTest (tOp rGE ta tb)) := pt_cmpR op_GE ha hb (nomark _)
theorem q_eq (hr : Room k X.A) (ha : PE X a ta) (hb : PE X b tb) : PT X (.Compare a [.Eq] [b] pos) (tTest (tOp (rEQ X.K) ta tb)) := pt_cmpR (op_EQ hr) ha hb (nomark _)
theorem q_ne (hr : Room k X.A) (ha : PE X a ta) (hb : PE X b tb) : PT X (.Compare a [.NotEq] [b] pos) (tTest (tOp (rNE X.K) ta tb)) := pt_cmpR (op_NE hr) ha hb (nomark _)
theorem q_in (hr : Room k X.A) (ha : PE X a ta) (hb : PE X b tb) (hm : behindInMarks .In b = false := by with_unfolding_all rfl) : PT X (.Compare a [.In] [b] pos) (tTest (tOp (rIN X.K false) ta tb)) := pt_cmpR (op_IN hr) ha hb hm
theorem q_nin (hr : Room k X.A) (ha : PE X a ta) (hb : PE X b tb) (hm : behindInMarks .NotIn b = false := by with_unfolding_all rfl) : PT X (.Compare a [.NotIn] [b] pos) (tTest (tOp (rIN X.K true) ta tb)) := pt_cmpR (op_NIN hr) ha hb hm
theorem q_is (ha : PE X a ta) (hb : PE X b tb) : PT X (.Compare a [.Is] [b] pos) (tTest (tOp rIS ta tb)) := pt_cmpR op_IS ha hb (nomark _)
theorem q_nis (ha : PE X a ta) (hb : PE X b tb) : PT X (.Compare a [.IsNot] [b] pos) (tTest (tOp rNIS ta tb)) := pt_cmpR op_NIS ha hb (nomark _)
/-- a <= b < c -/
theorem p_chain {op op' : CmpOp} {r r' : R2} (ho : OpR X (compareOp op) r) (ho' : OpR X (compareOp op') r') (ha : PE X a ta) (hb : PE X b tb) (hc : PE X c tc) (hm : lastMarks [op, op'] [b, c] = false := by with_unfolding_all rfl) : PE X (.Compare a [op, op'] [b, c] pos) (tChain r r' ta tb tc) := pe_chain ho ho' ha hb hc hm
theorem q_chain {op op' : CmpOp} {r r' : R2} (ho : OpR X (compareOp op) r) (ho' : OpR X (compareOp op') r') (ha : PE X a ta) (hb : PE X b tb) (hc : PE X c tc) (hm : lastMarks [op, op'] [b, c] = false := by with_unfolding_all rfl) : PT X (.Compare a [op, op'] [b, c] pos) (tTest (tChain r r' ta tb tc)) := pt_chain ho ho' ha hb hc hm
/-- any value as a test -/
def tTru (K : PySem.W.Frag) (ta : TE) : TT := fun σ H Q => ta σ H fun x H' => ∃ k, TruV K x H' k ∧ Q k H'
theorem q_tru (ha : PE X a ta) (he : ∀ whole, isTrue a X.env whole = (do let v ← whole; standAt a.pos; holding [v] (truthy v)) := by intro _; rfl) : PT X a (tTru X.K ta) := pt_truth ha he
theorem p_ix (hr : Room k X.A) (ha : PE X a ta) (hb : PE X b tb) (hs : PlainIx b := by exact fun _ _ => rfl) : PE X (.Subscript a b pos) (tOp (rIX X.K) ta tb) := pe_ix (ix_IX hr) ha hb hs
theorem p_len (hB : NoB X.mg) (h : PE X e te) (hg : Gl X "len" := by rfl) (he : starEach [e] X.env = (false, eval e X.env) :: starEach [] X.env := by rfl) : PE X (.Call (.Name "len" p) [e] [] pos) (tCB (rLEN X.K) (tCons te tNil)) :=
  pe_callB call_LEN hg (hB _ (by decide +kernel)) PySem.boot_len (pa_cons h pa_nil he) (he := he)
theorem p_int (hB : NoB X.mg) (h : PE X e te) (hg : Gl X "int" := by rfl) (he : starEach [e] X.env = (false, eval e X.env) :: starEach [] X.env := by rfl) : PE X (.Call (.Name "int" p) [e] [] pos) (tCB rINT (tCons te tNil)) :=
  pe_callTy call_INT hg (hB _ (by decide +kernel)) boot_int (pa_cons h pa_nil he) (he := he)
theorem p_isi (hB : NoB X.mg) (h : PE X a ta) (h2 : PE X b tb) (hg : Gl X "isinstance" := by rfl) (he : starEach [a, b] X.env = (false, eval a X.env) :: starEach [b] X.env := by rfl) (he2 : starEach [b] X.env = (false, eval b X.env) :: starEach [] X.env := by rfl) (hpl : (backTo pos (starEach [b] X.env)).any (·.1) = false := by rfl) :
    PE X (.Call (.Name "isinstance" p) [a, b] [] pos) (tCB (rIsi X.K) (tCons ta (tCons tb tNil))) :=
  pe_callB call_isi hg (hB _ (by decide +kernel)) (by decide +kernel) (pa_cons h (pa_cons h2 pa_nil he2) he) (he := he) (hpl := hpl)
theorem p_tyI (hB : NoB X.mg) (hg : Gl X "int" := by rfl) : PE X (.Name "int" pos) (tC (.ty "int")) := pe_bltn hg (hB _ (by decide +kernel)) boot_int rfl
theorem p_tyB (hB : NoB X.mg) (hg : Gl X "bool" := by rfl) : PE X (.Name "bool" pos) (tC (.ty "bool")) := pe_bltn hg (hB _ (by decide +kernel)) (by decide +kernel) rfl
theorem p_tyT (hB : NoB X.mg) (hg : Gl X "tuple" := by rfl) : PE X (.Name "tuple" pos) (tC (.ty "tuple")) := pe_bltn hg (hB _ (by decide +kernel)) (by decide +kernel) rfl
theorem p_tyL (hB : NoB X.mg) (hg : Gl X "list" := by rfl) : PE X (.Name "list" pos) (tC (.ty "list")) := pe_bltn hg (hB _ (by decide +kernel)) (by decide +kernel) rfl
theorem p_tyD (hB : NoB X.mg) (hg : Gl X "dict" := by rfl) : PE X (.Name "dict" pos) (tC (.ty "dict")) := pe_bltn hg (hB _ (by decide +kernel)) (by decide +kernel) rfl
theorem p_tyS (hB : NoB X.mg) (hg : Gl X "str" := by rfl) : PE X (.Name "str" pos) (tC (.ty "str")) := pe_bltn hg (hB _ (by decide +kernel)) (by decide +kernel) rfl
theorem p_list (hB : NoB X.mg) (h : PE X e te) (hg : Gl X "list" := by rfl) (he : starEach [e] X.env = (false, eval e X.env) :: starEach [] X.env := by rfl) : PE X (.Call (.Name "list" p) [e] [] pos) (tCB (fun xs H Q => ∃ p ys, xs = [.ref p] ∧ (SqL X.K H p ys ∨ SqT X.K H p ys) ∧ ∀ l, H l = none → Q (.ref l) (upd H l (.lst ys))) (tCons te tNil)) :=
  pe_callTy call_list_of hg (hB _ (by decide +kernel)) (by decide +kernel) (pa_cons h pa_nil he) (he := he)
def rLIST (K : PySem.W.Frag) : List V → Hp → VK → Prop := fun xs H Q => (∃ p ys, xs = [.ref p] ∧ (SqL K H p ys ∨ SqT K H p ys) ∧ ∀ l, H l = none → Q (.ref l) (upd H l (.lst ys))) ∨ ∃ (a : Addr) (kvs : List (Key × V)), xs = [.ref a] ∧ Rd H a (.dK kvs) ∧ ∀ p, H p = none → Q (.ref p) (upd H p (.lst (kvs.map fun kv => kV kv.1)))
/-- list(e), of a list, a tuple or a dict -/
theorem p_listU (hB : NoB X.mg) (h : PE X e te) (hc : X.calm = true := by rfl) (hg : Gl X "list" := by rfl) (he : starEach [e] X.env = (false, eval e X.env) :: starEach [] X.env := by rfl) : PE X (.Call (.Name "list" p) [e] [] pos) (tCB (rLIST X.K) (tCons te tNil)) :=
  pe_callTy (CallR.or call_list_of (call_listD hc)) hg (hB _ (by decide +kernel)) (by decide +kernel) (pa_cons h pa_nil he) (he := he)
theorem p_tuple (hB : NoB X.mg) (h : PE X e te) (hg : Gl X "tuple" := by rfl) (he : starEach [e] X.env = (false, eval e X.env) :: starEach [] X.env := by rfl) : PE X (.Call (.Name "tuple" p) [e] [] pos) (tCB (fun xs H Q => ∃ p ys, xs = [.ref p] ∧ ((SqL X.K H p ys ∧ ∀ l, H l = none → Q (.ref l) (upd H l (.tup ys))) ∨ (SqT X.K H p ys ∧ Q (.ref p) H))) (tCons te tNil)) :=
  pe_callTy call_tuple_of hg (hB _ (by decide +kernel)) (by decide +kernel) (pa_cons h pa_nil he) (he := he)
theorem p_gint {n : Int} (h : ∃ t, X.mg x = some (.int n t)) (hg : Gl X x := by rfl) (hd : (x == ("__debug__" : Str)) = false := by decide) : PE X (.Name x pos) (tC (.int n)) := by
  obtain ⟨t, h⟩ := h
  exact pe_glob hg h ⟨_, rfl⟩ hd
theorem p_gstr {n : Str} (h : ∃ t, X.mg x = some (.str n t)) (hg : Gl X x := by rfl) (hd : (x == ("__debug__" : Str)) = false := by decide) : PE X (.Name x pos) (tC (.str n)) := by
  obtain ⟨t, h⟩ := h
  exact pe_glob hg h ⟨_, rfl⟩ hd
theorem p_gref {n : Addr} (h : X.mg x = some (.ref n)) (hg : Gl X x := by rfl) (hd : (x == ("__debug__" : Str)) = false := by decide) : PE X (.Name x pos) (tC (.ref n)) := pe_glob hg h rfl hd
theorem i_rng1 {tg : Expr} (hB : NoB X.mg) (h : PE X e te) (hg : Gl X "range" := by rfl) (hs : starEach [e] X.env = [(false, eval e X.env)] := by rfl) : PI X tg (.Call (.Name "range" p) [e] [] pos) (iRng1 (tCons te tNil)) := pi_range1 hg (hB _ (by decide +kernel)) (pa_cons h pa_nil hs) hs
theorem i_rng2 {tg : Expr} (hB : NoB X.mg) (h : PE X a ta) (h2 : PE X b tb) (hg : Gl X "range" := by rfl) (hs : starEach [a, b] X.env = [(false, eval a X.env), (false, eval b X.env)] := by rfl) (hs2 : starEach [b] X.env = [(false, eval b X.env)] := by rfl) :
    PI X tg (.Call (.Name "range" p) [a, b] [] pos) (iRng2 (tCons ta (tCons tb tNil))) := pi_range2 hg (hB _ (by decide +kernel)) (pa_cons h (pa_cons h2 pa_nil hs2) (by rw [hs, hs2])) hs hs2
theorem s_sub {o i v : Expr} {to ti tv : TE} {pos' : Pos} (hr : Room k X.A) (ho : PE X o to) (hi : PE X i ti) (hv : PE X v tv) (hs : swapsWith v (some (.Subscript o i pos')) pos.line X.env = pure false := by rfl) : PS X (.Assign [.Subscript o i pos'] v pos) (sDPut to ti tv) := ps_dput (hu_of hr) ho hi hv hs
/-! the same, K told -/
theorem p_addK (K : PySem.W.Frag) (ha : PE X a ta) (hb : PE X b tb) (hK : X.K = K := by rfl) : PE X (.BinOp a .Add b pos) (tOp (rADD K) ta tb) := by subst hK; exact p_add (ha := ha) (hb := hb)
theorem p_eqK (K : PySem.W.Frag) (hr : Room k X.A) (ha : PE X a ta) (hb : PE X b tb) (hK : X.K = K := by rfl) : PE X (.Compare a [.Eq] [b] pos) (tOp (rEQ K) ta tb) := by subst hK; exact p_eq (hr := hr) (ha := ha) (hb := hb)
theorem p_neK (K : PySem.W.Frag) (hr : Room k X.A) (ha : PE X a ta) (hb : PE X b tb) (hK : X.K = K := by rfl) : PE X (.Compare a [.NotEq] [b] pos) (tOp (rNE K) ta tb) := by subst hK; exact p_ne (hr := hr) (ha := ha) (hb := hb)
theorem p_inK (K : PySem.W.Frag) (hr : Room k X.A) (ha : PE X a ta) (hb : PE X b tb) (hm : behindInMarks .In b = false := by with_unfolding_all rfl) (hK : X.K = K := by rfl) : PE X (.Compare a [.In] [b] pos) (tOp (rIN K false) ta tb) := by subst hK; exact p_in (hr := hr) (ha := ha) (hb := hb) (hm := hm)
theorem p_ninK (K : PySem.W.Frag) (hr : Room k X.A) (ha : PE X a ta) (hb : PE X b tb) (hm : behindInMarks .NotIn b = false := by with_unfolding_all rfl) (hK : X.K = K := by rfl) : PE X (.Compare a [.NotIn] [b] pos) (tOp (rIN K true) ta tb) := by subst hK; exact p_nin (hr := hr) (ha := ha) (hb := hb) (hm := hm)
theorem q_eqK (K : PySem.W.Frag) (hr : Room k X.A) (ha : PE X a ta) (hb : PE X b tb) (hK : X.K = K := by rfl) : PT X (.Compare a [.Eq] [b] pos) (tTest (tOp (rEQ K) ta tb)) := by subst hK; exact q_eq (hr := hr) (ha := ha) (hb := hb)
theorem q_neK (K : PySem.W.Frag) (hr : Room k X.A) (ha : PE X a ta) (hb : PE X b tb) (hK : X.K = K := by rfl) : PT X (.Compare a [.NotEq] [b] pos) (tTest (tOp (rNE K) ta tb)) := by subst hK; exact q_ne (hr := hr) (ha := ha) (hb := hb)
theorem q_inK (K : PySem.W.Frag) (hr : Room k X.A) (ha : PE X a ta) (hb : PE X b tb) (hm : behindInMarks .In b = false := by with_unfolding_all rfl) (hK : X.K = K := by rfl) : PT X (.Compare a [.In] [b] pos) (tTest (tOp (rIN K false) ta tb)) := by subst hK; exact q_in (hr := hr) (ha := ha) (hb := hb) (hm := hm)
theorem q_ninK (K : PySem.W.Frag) (hr : Room k X.A) (ha : PE X a ta) (hb : PE X b tb) (hm : behindInMarks .NotIn b = false := by with_unfolding_all rfl) (hK : X.K = K := by rfl) : PT X (.Compare a [.NotIn] [b] pos) (tTest (tOp (rIN K true) ta tb)) := by subst hK; exact q_nin (hr := hr) (ha := ha) (hb := hb) (hm := hm)
theorem q_truK (K : PySem.W.Frag) (ha : PE X a ta) (he : ∀ whole, isTrue a X.env whole = (do let v ← whole; standAt a.pos; holding [v] (truthy v)) := by intro _; rfl) (hK : X.K = K := by rfl) : PT X a (tTru K ta) := by subst hK; exact q_tru (ha := ha) (he := he)
theorem p_ixK (K : PySem.W.Frag) (hr : Room k X.A) (ha : PE X a ta) (hb : PE X b tb) (hs : PlainIx b := by exact fun _ _ => rfl) (hK : X.K = K := by rfl) : PE X (.Subscript a b pos) (tOp (rIX K) ta tb) := by subst hK; exact p_ix (hr := hr) (ha := ha) (hb := hb) (hs := hs)
theorem p_lenK (K : PySem.W.Frag) (hB : NoB X.mg) (h : PE X e te) (hg : Gl X "len" := by rfl) (he : starEach [e] X.env = (false, eval e X.env) :: starEach [] X.env := by rfl) (hK : X.K = K := by rfl) : PE X (.Call (.Name "len" p) [e] [] pos) (tCB (rLEN K) (tCons te tNil)) := by subst hK; exact p_len (hB := hB) (h := h) (hg := hg) (he := he)
theorem p_isiK (K : PySem.W.Frag) (hB : NoB X.mg) (h : PE X a ta) (h2 : PE X b tb) (hg : Gl X "isinstance" := by rfl) (he : starEach [a, b] X.env = (false, eval a X.env) :: starEach [b] X.env := by rfl) (he2 : starEach [b] X.env = (false, eval b X.env) :: starEach [] X.env := by rfl) (hpl : (backTo pos (starEach [b] X.env)).any (·.1) = false := by rfl) (hK : X.K = K := by rfl) : PE X (.Call (.Name "isinstance" p) [a, b] [] pos) (tCB (rIsi K) (tCons ta (tCons tb tNil))) := by subst hK; exact p_isi (hB := hB) (h := h) (h2 := h2) (hg := hg) (he := he) (he2 := he2) (hpl := hpl)
theorem p_listK (K : PySem.W.Frag) (hB : NoB X.mg) (h : PE X e te) (hg : Gl X "list" := by rfl) (he : starEach [e] X.env = (false, eval e X.env) :: starEach [] X.env := by rfl) (hK : X.K = K := by rfl) : PE X (.Call (.Name "list" p) [e] [] pos) (tCB (fun xs H Q => ∃ p ys, xs = [.ref p] ∧ (SqL K H p ys ∨ SqT K H p ys) ∧ ∀ l, H l = none → Q (.ref l) (upd H l (.lst ys))) (tCons te tNil)) := by subst hK; exact p_list (hB := hB) (h := h) (hg := hg) (he := he)
theorem p_listUK (K : PySem.W.Frag) (hB : NoB X.mg) (h : PE X e te) (hc : X.calm = true := by rfl) (hg : Gl X "list" := by rfl) (he : starEach [e] X.env = (false, eval e X.env) :: starEach [] X.env := by rfl) (hK : X.K = K := by rfl) : PE X (.Call (.Name "list" p) [e] [] pos) (tCB (rLIST K) (tCons te tNil)) := by subst hK; exact p_listU (hB := hB) (h := h) (hc := hc) (hg := hg) (he := he)
theorem p_tupleK (K : PySem.W.Frag) (hB : NoB X.mg) (h : PE X e te) (hg : Gl X "tuple" := by rfl) (he : starEach [e] X.env = (false, eval e X.env) :: starEach [] X.env := by rfl) (hK : X.K = K := by rfl) : PE X (.Call (.Name "tuple" p) [e] [] pos) (tCB (fun xs H Q => ∃ p ys, xs = [.ref p] ∧ ((SqL K H p ys ∧ ∀ l, H l = none → Q (.ref l) (upd H l (.tup ys))) ∨ (SqT K H p ys ∧ Q (.ref p) H))) (tCons te tNil)) := by subst hK; exact p_tuple (hB := hB) (h := h) (hg := hg) (he := he)
theorem pe_fldK {f : Str} (K : PySem.W.Frag) (he : PE X e ta) (hb : attributeBase e f X.env (eval e X.env) = eval e X.env) (hK : X.K = K := by rfl) : PE X (.Attribute e f pos) (tFld K ta f) := by subst hK; exact pe_fld he hb
theorem pi_listK {tg : Expr} (K : PySem.W.Frag) (hl : PE X e te) (hK : X.K = K := by rfl) : PI X tg e (iList K te) := by subst hK; exact pi_list hl
theorem pi_tupK {tg : Expr} (K : PySem.W.Frag) (hl : PE X e te) (hK : X.K = K := by rfl) : PI X tg e (iTup K te) := by subst hK; exact pi_tup hl
theorem pg_tupK {es : List Expr} {k : Nat} {t : TGs} {n : Nat} (K : PySem.W.Frag) (hc : X.calm = true) (h : PGs X es t) (hn : (assignEach es X.env).length = n := by rfl) (hst : (assignEach es X.env).findIdx? (·.1) = none := by rfl) (hK : X.K = K := by rfl) : PG X (.Tuple es k pos) (gTup K n t) := by subst hK; exact pg_tup hc h hn hst
end
end DL

set_option maxHeartbeats 2000000
namespace PySem
namespace ErrX
open PySem.W PySem.Calls PyProof.Rows PySem.HandSPX
/-- the text of super().__init__(e) -/
def supS (jv : List Expr) (jp p0 p1 p2 p3 p4 : Pos) : Stmt := .Expr (.Call (.Attribute (.Call (.Name "super" p0) [] [] p1) "__init__" p2) [.JoinedStr jv jp] [] p3) p4
/-- what the written part says of the class at C, its __init__ at fI (st its text), of the params ps, its body super().__init__(e); rest -/
structure ErrTxt (prog : Program) (K : Frag) (mg : Str → Option Value) (C fI : Addr) (cn qual : Str) (st : Stmt) (ps : List Str) (jv : List Expr) (rest : List Stmt) : Prop where
  gC : mg cn = some (.ref C)
  cls : ∃ nm q N bs bm sn sub ab col dd k0 k1 k2 k3 k5, K.lookup C = some (excClassObj nm q C N bs bm true sn sub ab col dd k0 k1 k2 k3 k5 "ValueError.__new__") ∧ refsVE bm = true
  sa : findIn K (.ref C) "__setattr__" = some (some (.builtin "object.__setattr__"))
  ga : findIn K (.ref C) "__getattribute__" = some (some (.builtin "BaseException.__getattribute__"))
  gg : findIn K (.ref C) "__getattr__" = some none
  iC : findIn K (.ref C) "__init__" = some (some (.ref fI))
  tC : typeIn K (.ref fI) = some (.type "function")
  kC : keepIn K (.ref C) = true
  exC : subIn K (.ref C) (.type "BaseException") = some true
  veC : subIn K (.ref C) (.type "ValueError") = some true
  slC : mroIn K C (.ref C) = some true
  tyC : typeIn K (.ref C) = some (.type "type")
  hdC : hasDictIn K C = true
  sup : ks_superIn K C C "__init__" = some (some (.builtin "ValueError.__init__"))
  opq : nsIn K cStatics "thirdparty.any" = some none
  mgS : mg "super" = none
  top : (prog.main.scope.names.lookup ("super" : Str)).isSome = false
  lk : ∃ (oc : Value) (od : Option Addr) (kV doc pm : Value) (an : Option Addr) (cda : Addr) (ct : Value) (cc : Addr) (osl : Array (Option Value)) (ccl : Value) (cdd : Option Addr) (vs : Array Value) (ccs : Array (Option Value)) (file : Str) (tf : Tok) (cl : Value) (cld : Option Addr) (csl : Array (Option Value)),
    K.lookup fI = some ⟨oc, od, .func (ksFn "__init__" qual (L2.defArgs st) (L2.defBody st) (L2.defScope st) .none kV doc pm an (.ref cda) ct cc), osl⟩ ∧ codeIn K (.ref cda) qual = true ∧
    K.lookup cda = some ⟨ccl, cdd, .fields vs, ccs⟩ ∧ vs[2]? = some (.str file tf) ∧ ((prog.main.file : Str) == file) = true ∧ K.lookup cc = some ⟨cl, cld, .cell (some (.ref C)), csl⟩
/-- what is read off the text alone -/
structure ErrSyn (st : Stmt) (qual : Str) (ps : List Str) (jv : List Expr) (rest : List Stmt) : Prop where
  body : ∃ jp p0 p1 p2 p3 p4, L2.defBody st = supS jv jp p0 p1 p2 p3 p4 :: rest ∧ (p2.endLine == p3.line) = true
  args : ((L2.defArgs st).posonlyargs ++ (L2.defArgs st).args).head?.map (·.arg) = some "self"
  kSelf : (L2.defScope st).names.lookup ("self" : Str) = some .local
  kSup : (L2.defScope st).names.lookup ("super" : Str) = some .globalImplicit
  kCls : (L2.defScope st).names.lookup ("__class__" : Str) = some .free
  kPs : ∀ p ∈ ps, (L2.defScope st).names.lookup p = some .local
  kind : (L2.defScope st).kind = .function
  gen : (L2.defScope st).isGenerator = false
  co : (L2.defScope st).isCoroutine = false
  noC : ∀ x ∈ (L2.defScope st).names, x.2 ≠ .cell
  first : ∀ (x : Addr) (us : List Value), us.length = ps.length → (((("self" : Str) :: ps).zip (Value.ref x :: us)).reverse.lookup ("self" : Str)) = some (.ref x)
  bind : ∀ (kV doc pm : Value) (an : Option Addr) (cdv ct : Value) (cc : Addr) (us : List Value), us.length = ps.length + 1 → bindArgs (ksFn "__init__" qual (L2.defArgs st) (L2.defBody st) (L2.defScope st) .none kV doc pm an cdv ct cc) ⟨us, []⟩ = pure ((("self" : Str) :: ps).zip us)
section
variable {prog : Program} {w : World} {A : Around} {E : Value → Shared → Prop} {R : Result → Shared → Prop} {s : Shared} {K : Frag} {mg : Str → Option Value} {C fI : Addr} {cn qual : Str} {st : Stmt} {ps : List Str} {jv : List Expr} {rest : List Stmt}
theorem mod_keeps {h h' : Heap} (X : L2.Mod K mg h) (k : ∀ b o, h.get? b = some o → h'.get? b = some o) : L2.Mod K mg h' := by
  obtain ⟨a, b, ⟨mb, c, d⟩, f⟩ := X
  exact ⟨a.keeps k, b.keeps k, ⟨mb, c.keeps k, d⟩, f.keeps k⟩
theorem sup_eval {env : Env} {o : Expr} {jp p2 p3 : Pos} {nm : Str} (hpos : (p2.endLine == p3.line) = true) :
    eval (.Call (.Attribute o nm p2) [.JoinedStr jv jp] [] p3) env = (do
      let ov ← attributeBase o nm env (eval o env)
      standAt p2.atName
      let (f, first) ← holding [ov] (getMethod ov nm (do return (← importBound o env).getD true))
      callWith p3 f first (backTo p3 (starEach [.JoinedStr jv jp] env)) []) := by
  show (do
      let ov ← attributeBase o nm env (eval o env)
      standAt p2.atName
      methodCall o nm p2 p3 env ov 1 (backTo p3 (starEach [.JoinedStr jv jp] env)) []) = _
  have e1 : ∀ ov, methodCall o nm p2 p3 env ov 1 (backTo p3 (starEach [.JoinedStr jv jp] env)) [] = (do
      let (f, first) ← holding [ov] (getMethod ov nm (do return (← importBound o env).getD true))
      callWith p3 f first (backTo p3 (starEach [.JoinedStr jv jp] env)) []) := fun ov => by
    have e2 : methodCallPos true o env p2 p3 = pure p3 := by
      unfold methodCallPos
      rw [hpos]
      rfl
    show (do
      let (f, first) ← holding [ov] (getMethod ov nm (do return (← importBound o env).getD true))
      let callPos ← methodCallPos true o env p2 p3
      callWith callPos f first (backTo p3 (starEach [.JoinedStr jv jp] env)) []) = _
    rw [e2]
    rfl
  simp only [e1]
theorem err_enter (T : ErrTxt prog K mg C fI cn qual st ps jv rest) (S : ErrSyn st qual ps jv rest) {x t0 : Addr} {us : List Value} (X : L2.Mod K mg s.heap) (hx : s.heap.get? x = some (excO C t0)) (hnx : K.lookup x = none)
    (hroom : A.depth < recursionLimit) (hus : us.length = ps.length)
    (hev : ∀ (jp : Pos) (L : Addr) (cda cc : Addr) (s1 : Shared) (Q : Value → Shared → Prop) (E1 : Value → Shared → Prop), (∀ b o, s.heap.get? b = some o → s1.heap.get? b = some o) → s1.heap.Ns L (fun y => (((("self" : Str) :: ps).zip (.ref x :: us)).reverse.lookup y)) →
      (∀ y tk tks, Q (.str y tk) { s1 with toks := tks }) → wpAny (model prog w) (A.deeper (ksEnv qual (L2.defScope st) L fI (.ref cda) cc)) (eval (.JoinedStr jv jp) (ksEnv qual (L2.defScope st) L fI (.ref cda) cc)) Q E1 s1)
    (h : ∀ (L : Addr) (cda cc : Addr) (h2 : Heap) (t1 : Addr) (tks : Nat), s.heap.objs.size ≤ L → (∀ b o, b ≠ x → s.heap.get? b = some o → h2.get? b = some o) → h2.get? x = some (excO C t1) → h2.Ns L (fun y => (((("self" : Str) :: ps).zip (.ref x :: us)).reverse.lookup y)) →
      wpAny (model prog w) (A.deeper (ksEnv qual (L2.defScope st) L fI (.ref cda) cc)) (execs rest (ksEnv qual (L2.defScope st) L fI (.ref cda) cc)) (fun f s' => R (.ok (.ret (match f with | .ret v => v | _ => .none))) s') (fun _ _ => False) { s with heap := h2, toks := tks }) :
    codeAny (model prog w) A (.call (.ref fI) ⟨.ref x :: us, []⟩) R s := by
  obtain ⟨oc, od, kV, doc, pm, an, cda, ct, cc, osl, ccl, cdd, vs, ccs, file, tf, cl, cld, csl, ho, hcd, hcode, hvs, hfile, hcell⟩ := T.lk
  obtain ⟨nm, q, N, bs, bm, sn, sub, ab, col, dd, k0, k1, k2, k3, k5, hC, hbm⟩ := T.cls
  obtain ⟨jp, p0, p1, p2, p3, p4, hB, hpos⟩ := S.body
  refine ks_codeAny_call_defAt (fd := ksFn "__init__" qual (L2.defArgs st) (L2.defBody st) (L2.defScope st) .none kV doc pm an (.ref cda) ct cc) (body := L2.defBody st) (binds := (("self" : Str) :: ps).zip (.ref x :: us)) hroom (X.kin _ _ ho) rfl X.nolimit (codeRec_of X.kin hcd) rfl
    (BindsTo.of_eq (S.bind kV doc pm an (.ref cda) ct cc (.ref x :: us) (by simp [hus]))) S.noC (fun y hy => ?_) (fun h₁ hns hk₁ => ?_) S.co S.gen S.kind
  · have hm := List.of_mem_zip hy
    rcases List.mem_cons.mp hm.1 with e1 | e1
    · rw [e1]; exact S.kSelf
    · exact S.kPs _ e1
  · have X1 : L2.Mod K mg h₁ := mod_keeps X hk₁
    have hx1 := hk₁ _ _ hx
    have hself : (((("self" : Str) :: ps).zip (Value.ref x :: us)).reverse.lookup ("self" : Str)) = some (.ref x) := S.first x us hus
    obtain ⟨ar, har, harn⟩ : ∃ ar, ((L2.defArgs st).posonlyargs ++ (L2.defArgs st).args).head? = some ar ∧ ar.arg = "self" := by
      have := S.args
      cases z : ((L2.defArgs st).posonlyargs ++ (L2.defArgs st).args).head? with
      | none => rw [z] at this; cases this
      | some ar => rw [z] at this; exact ⟨ar, rfl, Option.some.inj this⟩
    obtain ⟨mb, hmb, hmbb⟩ := X1.blt
    have hcl : clsIn K C = some { name := nm, bases := bs, mro := .ref C :: bm, ns := N, qualname := q, hasDict := true, slotNames := sn, subclasses := sub, abstract := ab, collection := col, hasDel := false } := by unfold clsIn; rw [hC] <;> rfl
    have I1 : InstAt h₁ x (excO C t0) C none := ⟨hx1, rfl, rfl, trivial⟩
    show wpAt _ _ _ (execs (L2.defBody st) (ksEnv qual (L2.defScope st) s.heap.objs.size fI (.ref cda) cc)) _ _ _
    have goal : ∀ bd : List Stmt, bd = supS jv jp p0 p1 p2 p3 p4 :: rest → wpAt (model prog w) (A.deeper (ksEnv qual (L2.defScope st) s.heap.objs.size fI (.ref cda) cc)) (.func (L2.defBody st) (ksEnv qual (L2.defScope st) s.heap.objs.size fI (.ref cda) cc)) (execs bd (ksEnv qual (L2.defScope st) s.heap.objs.size fI (.ref cda) cc)) (fun f s' => R (.ok (.ret (match f with | .ret v => v | _ => .none))) s')
        (fun _ _ => False) { s with heap := h₁, toks := s.toks + ((("self" : Str) :: ps).zip (Value.ref x :: us)).length } := fun bd hbd => ?_
    · exact ks_wpAt_mono (goal _ hB) (fun _ _ z => z) (fun _ _ z => z.elim)
    subst hbd
    refine ks_wpAt_execs_cons (ks_wpAt_Expr_any (ks_wpAt_MethodCall ?_ (sup_eval hpos)) (by unfold interactive; rw [show (ksEnv qual (L2.defScope st) s.heap.objs.size fI (.ref cda) cc).scope.kind = .function from S.kind]; rfl))
    refine ks_wpAt_super_base (env := ksEnv qual (L2.defScope st) s.heap.objs.size fI (.ref cda) cc) S.kSup S.kCls (by decide) rfl (X1.kin _ _ ho) rfl har rfl (X1.kin _ _ hcode) rfl hvs hfile T.top ?_
    refine ks_loadName_global S.kind S.kSup (loadGlobal_builtin (env := ksEnv qual (L2.defScope st) s.heap.objs.size fI (.ref cda) cc) X1.glob T.mgS hmb ((hmbb _ (by decide +kernel)).trans (by first | rfl | decide +kernel)) ⟨rfl, ?_⟩)
    refine wpAny_loadName_free S.kind S.kCls rfl ⟨_, X1.kin _ _ hcell, rfl⟩ ?_
    rw [harn]
    refine wpAny_loadName_local S.kind S.kSelf hns hself ?_
    refine ks_wpAny_isType_cls (X1.kin _ _ hC) rfl ⟨rfl, ?_⟩
    refine ks_wpAny_call_super (X1.kin _ _ hC) rfl hx1 rfl (fun c e => by cases e) (looks_mroIn X1.kin T.slC) (fun h₂ e2 k2' => ?_)
    have X2 : L2.Mod K mg h₂ := mod_keeps X1 k2'
    have hx2 := k2' _ _ hx1
    have I2 : InstAt h₂ x (excO C t0) C none := ⟨hx2, rfl, rfl, trivial⟩
    have hm := T.sup
    unfold ks_superIn at hm
    rw [hcl] at hm
    refine kxs_getMethod kxs_ValueError e2 (looks_opaque X2.kin T.opq) (l₀ := .ref C :: bm) ?_ rfl X2.kin hm (I2.type.andThen (looks_subIn X2.kin T.veC)) (ks_ne X2.kin I2 hcl) (by decide) ?_
    · exact fun A Q E s k q => wpAny_bind ((looks_clsIn X2.kin hcl) A _ E s k (wpAny_pure q))
    have ns2 : h₂.Ns s.heap.objs.size (fun y => (((("self" : Str) :: ps).zip (.ref x :: us)).reverse.lookup y)) := hns.keeps k2'
    have k3 : ∀ b o, h₂.get? b = some o → (h₂.push (kxs_mw "ValueError.__init__" x)).get? b = some o := fun b o e => Heap.get?_push_of_some _ e
    have hu : (h₂.push (kxs_mw "ValueError.__init__" x)).get? h₂.objs.size = some (kxs_mw "ValueError.__init__" x) := Heap.get?_push_size h₂ rfl
    refine kxs_callWith (i := "ValueError.__init__") (x := x) rfl ?_
    refine evalArgs_plain ?_
    refine spliced_cons (hev jp _ cda cc _ _ _ (fun b o e => k3 _ _ (k2' _ _ (hk₁ _ _ e))) (ns2.keeps k3) fun y tk tks => spliced_nil ⟨hu, ?_⟩)
    show wpAny (model prog w) _ (call (.ref h₂.objs.size) [.str y tk]) _ _ _
    refine wpAny_call (codeAny_of_tree ?_)
    show wpAny _ _ (callAny (.ref h₂.objs.size) ⟨[.str y tk], []⟩) _ _ _
    simp only [callAny]
    refine wpAny_bind (wpAny_load hu ?_)
    simp only [kxs_mw, show (Value.type "method-wrapper" == Value.type "method" || Value.type "method-wrapper" == Value.type "builtin_function_or_method" || Value.type "method-wrapper" == Value.type "method-wrapper") = true by decide, if_true]
    refine KFB.if_so (by decide) ?_
    have FB := F.excBase_ValueError
    refine wpAny_bind (check_bound_init FB.toExcCallFacts (k3 _ _ (X2.kin _ _ hC)) (k3 _ _ hx2) rfl ?_)
    refine wpAny_bind (wpAny_pure (wpAny_pure ?_))
    refine ⟨plainId_quiet FB.init.plain _, codeAny_builtin FB.initEntry ?_⟩
    refine exc_init_tree (cls := .ref C) (t0 := t0) (dv := none) (c2 := .none) (c3 := .none) (b4 := .bool false) (k3 _ _ hx2) (by rw [sizeLine_eq]; exact (by decide : 1 ≤ 16777216)) fun h4 k4 e4 t4 => ?_
    have xL : s.heap.objs.size ≠ x := Nat.ne_of_gt (Heap.lt_size hx)
    obtain ⟨oL, es, ep, hL, r⟩ := ns2.keeps k3
    exact wpAt_of_wpAny (h s.heap.objs.size cda cc h4 _ _ (Nat.le_refl _) (fun b o hb e => k4 _ _ hb (k3 _ _ (k2' _ _ (hk₁ _ _ e)))) e4 ⟨oL, es, ep, k4 _ _ xL hL, r⟩)
/-- an exception made: at e, of the class at C, its dict at d -/
structure Made (h h' : Heap) (e C d : Addr) (m : Str → Option Value) : Prop where
  keep : ∀ b o, h.get? b = some o → h'.get? b = some o
  new : h.objs.size ≤ e
  obj : ∃ oe vs, h'.get? e = some oe ∧ oe.cls = .ref C ∧ oe.dict = some d ∧ oe.data = .fields vs ∧ vs[1]? = some .none ∧ vs[2]? = some .none
  dbig : h.objs.size ≤ d
  dne : d ≠ e
  ns : h'.Ns1 d m
/-- what is asked of repr(u) -/
def RepOk (prog : Program) (w : World) (A : Around) (h : Heap) (u : Value) : Prop := ∀ (env : Env) (s1 : Shared) (Q E1 : Value → Shared → Prop), (∀ b o, h.get? b = some o → s1.heap.get? b = some o) →
  (∀ (y : Str) (tk : Tok) (tks : Nat), y.length ≤ 1000000 → Q (.str y tk) { s1 with toks := tks }) → wpAny (model prog w) (A.deeper env) (pyReprObj u) Q E1 s1
theorem rep_str {A : Around} {h : Heap} {x : Str} {t : Tok} (hx : (reprText x).length ≤ 1000000) : RepOk prog w A h (.str x t) := fun env s1 Q E1 _ q => by
  exact pyReprObj_str (q _ _ _ hx) (Nat.le_trans hx (by rw [sizeLine_eq]; decide))
theorem rep_int {A : Around} {h : Heap} {x : Int} {t : Tok} (hx : x.natAbs.log2 < 1920) (hz : (Str.ofString (toString x)).length ≤ 1000000) : RepOk prog w A h (.int x t) := fun env s1 Q E1 _ q => by
  exact pyReprObj_int hx (q _ _ _ hz)
theorem RepOk.keeps {A : Around} {h h' : Heap} {u : Value} (r : RepOk prog w A h u) (k : ∀ b o, h.get? b = some o → h'.get? b = some o) : RepOk prog w A h' u := fun env s1 Q E1 k1 q => r env s1 Q E1 (fun b o e => k1 _ _ (k _ _ e)) q
/-- C(v): one parameter, one field of its name -/
theorem made_one {p pre : Str} {cst : Nat} {j1 j2 j3 q1 q2 q3 q4 : Pos} (T : ErrTxt prog K mg C fI cn qual st [p] [.Constant (.str pre) cst j1, .FormattedValue (.Name p j2) 114 none j3] [.Assign [.Attribute (.Name "self" q1) p q2] (.Name p q3) q4])
    (S : ErrSyn st qual [p] [.Constant (.str pre) cst j1, .FormattedValue (.Name p j2) 114 none j3] [.Assign [.Attribute (.Name "self" q1) p q2] (.Name p q3) q4]) (hp : (p == ("self" : Str)) = false) (hpd : (p == ("__debug__" : Str)) = false) (hno : findIn K (.ref C) p = some none)
    (hpre : pre.length ≤ 100) {v : Value} (X : L2.Mod K mg s.heap) (hroom : A.depth + 1 < recursionLimit) (hrep : RepOk prog w (A.under (.builtin "type.__call__" ⟨[.ref C, v], []⟩)) s.heap v)
    (hq : ∀ h' tk e d, Made s.heap h' e C d (fun y => if y = p then some v else none) → R (.ok (.ret (.ref e))) { s with heap := h', toks := tk }) :
    codeAny (model prog w) A (.call (.ref C) ⟨[v], []⟩) R s := by
  obtain ⟨nm, q, N, bs, bm, sn, sub, ab, col, dd, k0, k1, k2, k3, k5, hC, hbm⟩ := T.cls
  have hcl : clsIn K C = some { name := nm, bases := bs, mro := .ref C :: bm, ns := N, qualname := q, hasDict := true, slotNames := sn, subclasses := sub, abstract := ab, collection := col, hasDel := false } := by unfold clsIn; rw [hC] <;> rfl
  obtain ⟨hp0, g, dr, tk, os⟩ := s
  have k : ∀ b o, hp0.get? b = some o → ((hp0.push (kdv_tup [v])).push (excO C hp0.objs.size)).get? b = some o := fun b o e => Heap.get?_push_of_some _ (Heap.get?_push_of_some _ e)
  have hget : ((hp0.push (kdv_tup [v])).push (excO C hp0.objs.size)).get? (hp0.objs.size + 1) = some (excO C hp0.objs.size) := by heap_get
  have hnx : K.lookup (hp0.objs.size + 1) = none := by
    cases e : K.lookup (hp0.objs.size + 1) with
    | none => rfl
    | some o =>
      have z : hp0.get? (hp0.objs.size + 1) = some o := X.kin _ _ e
      exact absurd (Nat.lt_of_succ_lt (Heap.lt_size z)) (Nat.lt_irrefl _)
  have hsz1 : [v].length ≤ sizeLine := by rw [sizeLine_eq]; exact (by decide : 1 ≤ 16777216)
  have lself : (((("self" : Str) :: [p]).zip [Value.ref (hp0.objs.size + 1), v]).reverse.lookup ("self" : Str)) = some (.ref (hp0.objs.size + 1)) := S.first _ [v] rfl
  have lp : (((("self" : Str) :: [p]).zip [Value.ref (hp0.objs.size + 1), v]).reverse.lookup p) = some v := by
    show (List.lookup p [(p, v), (("self" : Str), Value.ref (hp0.objs.size + 1))]) = some v
    simp [List.lookup]
  refine call_own F.excBase_ValueError (fun X => refsVE_contains X bm hbm) (X.kin _ _ hC) (looks_findIn X.kin T.iC) (fun self => bind_fn X.kin self T.tC) hsz1 ?_
  refine err_enter (s := ⟨(hp0.push (kdv_tup [v])).push (excO C hp0.objs.size), g, dr, tk, os⟩) T S (mod_keeps X k) hget hnx hroom rfl (fun jp L cda cc s1 Q E1 k1 n1 q1 => ?_) fun L cda cc h2 t1 tks hL k2 e2 n2 => ?_
  · -- the text
    refine wpAny_JoinedStr ?_
    show wpAny _ _ (eval (.Constant (.str pre) cst j1) _) _ _ _
    refine wpAny_Constant_str ⟨pre, _, rfl, ?_, ?_⟩
    · show (Str.empty ++ pre).length ≤ sizeLine
      have : (Str.empty ++ pre).length = pre.length := by rw [Str.length_append]; show 0 + pre.length = _; omega
      rw [this, sizeLine_eq]; omega
    show wpAny _ _ (eval (.FormattedValue (.Name p j2) 114 none j3) _) _ _ _
    refine wpAny_FormattedValue_repr (wpAny_Name (wpAny_loadName_local S.kind (S.kPs p (by simp)) n1 lp ?_) hpd)
    refine hrep _ _ _ _ (fun b o e => k1 _ _ (k _ _ e)) fun y tk tks hy => ?_
    have hys : y.length ≤ sizeLine := by rw [sizeLine_eq]; omega
    have fin : ∀ (s3 : Shared) (z : Tok), (∃ tks, s3 = { s1 with toks := tks }) → ∃ (y' : Str) (t : Tok), Value.str y z = .str y' t ∧ ((Str.empty ++ pre) ++ y').length ≤ sizeLine ∧ Joins (model prog w) ((A.under (.builtin "type.__call__" ⟨[.ref C, v], []⟩)).deeper (ksEnv qual (L2.defScope st) L fI (.ref cda) cc)) E1 [] ((Str.empty ++ pre) ++ y') (fun out s₁ => out.length ≤ sizeLine ∧ Q (.str out s₁.toks) { s₁ with toks := s₁.toks + 1 }) s3 := fun s3 z hs => by
      obtain ⟨tks', rfl⟩ := hs
      have hl : ((Str.empty ++ pre) ++ y).length ≤ sizeLine := by
        rw [Str.length_append, Str.length_append, sizeLine_eq]
        show 0 + pre.length + y.length ≤ _
        omega
      exact ⟨y, _, rfl, hl, hl, q1 _ _ _⟩
    exact wpAny_formatField_str (fin _ _ ⟨_, rfl⟩) (fin _ _ ⟨_, rfl⟩) hys
  · -- self.p = p
    have hk : (L2.defScope st).kind = .function := S.kind
    have X2 : K.In h2 := fun a o e => k2 a o (fun z => by rw [z, hnx] at e; cases e) (k a o (X.kin a o e))
    refine wpAny_execs_cons (plainObj_wpAny_Assign_Attribute ?_)
    refine wpAny_Name (wpAny_loadName_local S.kind (S.kPs p (by simp)) n2 lp ?_) hpd
    refine wpAny_Name (wpAny_loadName_local S.kind S.kSelf n2 lself ?_) (by decide)
    refine set_plain X2 (ox := excO C t1) (od := none) ⟨e2, rfl, rfl, trivial⟩ T.sa ?_
    refine exc_osa X2 e2 hcl (show refsVE (.ref C :: bm) = true from hbm) rfl hno (fun h₃ tk₃ dx k₃ dn dne hx₃ hn₃ => ?_)
    refine wpAny_execs_nil ?_
    have hszL : hp0.objs.size + 1 + 1 ≤ L := by
      have q := hL
      first
        | (simpa only [Heap.size_push] using q)
        | exact q
    have hLlt : L < h2.objs.size := n2.lt
    have old : ∀ b o, hp0.get? b = some o → h₃.get? b = some o := fun b o e => k₃ b o (Nat.ne_of_lt (Nat.lt_succ_of_lt (Heap.lt_size e))) (k2 b o (Nat.ne_of_lt (Nat.lt_succ_of_lt (Heap.lt_size e))) (k b o e))
    exact ⟨rfl, hq h₃ tk₃ (hp0.objs.size + 1) dx ⟨old, Nat.le_succ _, ⟨_, _, hx₃, rfl, rfl, rfl, rfl, rfl⟩, Nat.le_trans (Nat.le_trans (Nat.le_trans (Nat.le_succ _) (Nat.le_succ _)) (Nat.le_trans hszL (Nat.le_of_lt hLlt))) dn, dne, hn₃⟩⟩
end
/-- a value whose repr is known to be short -/
def RepV : L2.V → Prop
  | .str x => (reprText x).length ≤ 1000000
  | .int i => i.natAbs.log2 < 1920
  | _ => False
theorem rep_of {prog : Program} {w : World} {A : Around} {h : Heap} {v : L2.V} {u : Value} (h1 : RepV v) (r : L2.RelV v u) : RepOk prog w A h u := by
  cases v with
  | str x => obtain ⟨t, rfl⟩ := r; exact rep_str h1
  | int i =>
    obtain ⟨t, rfl⟩ := r
    have e := int_text_length_le (k := 1920) (by decide) (show i.natAbs.log2 < 1920 from h1)
    exact rep_int h1 (by rw [ofString_length]; omega)
  | non => exact h1.elim
  | bl b => exact h1.elim
  | byt b => exact h1.elim
  | flt b => exact h1.elim
  | ref b => exact h1.elim
  | ty b => exact h1.elim
/-- an own error class of one field, as it stands -/
def Er1 (P : Program) (K : Frag) (mg : Str → Option Value) (cn p : Str) (C : Addr) : Prop := ∃ (fI : Addr) (qual : Str) (st : Stmt) (pre : Str) (cst : Nat) (j1 j2 j3 q1 q2 q3 q4 : Pos),
  ErrTxt P K mg C fI cn qual st [p] [.Constant (.str pre) cst j1, .FormattedValue (.Name p j2) 114 none j3] [.Assign [.Attribute (.Name "self" q1) p q2] (.Name p q3) q4] ∧
  ErrSyn st qual [p] [.Constant (.str pre) cst j1, .FormattedValue (.Name p j2) 114 none j3] [.Assign [.Attribute (.Name "self" q1) p q2] (.Name p q3) q4] ∧
  (p == ("self" : Str)) = false ∧ (p == ("__debug__" : Str)) = false ∧ findIn K (.ref C) p = some none ∧ pre.length ≤ 100
theorem Er1.xf {P : Program} {K : Frag} {mg : Str → Option Value} {cn p : Str} {C : Addr} (T : Er1 P K mg cn p C) : L2.XfC K C := by
  obtain ⟨fI, qual, st, pre, cst, j1, j2, j3, q1, q2, q3, q4, T, S, h1, h2, h3, h4⟩ := T
  exact ⟨T.ga, T.gg, T.exC, T.hdC⟩
theorem Er1.no {P : Program} {K : Frag} {mg : Str → Option Value} {cn p : Str} {C : Addr} (T : Er1 P K mg cn p C) : findIn K (.ref C) p = some none := by
  obtain ⟨fI, qual, st, pre, cst, j1, j2, j3, q1, q2, q3, q4, T, S, h1, h2, h3, h4⟩ := T
  exact h3
theorem Er1.g {P : Program} {K : Frag} {mg : Str → Option Value} {cn p : Str} {C : Addr} (T : Er1 P K mg cn p C) : mg cn = some (.ref C) := by
  obtain ⟨fI, qual, st, pre, cst, j1, j2, j3, q1, q2, q3, q4, T, S, h1, h2, h3, h4⟩ := T
  exact T.gC
end ErrX
end PySem
namespace DL
open PySem L2 PyProof.Rows
def tMkE (C : Addr) (p : Str) (ta : TA) : L2.St → Hp → XK → Prop := fun σ H Q => ta σ H fun vs H1 => ∃ v, vs = [v] ∧ ErrX.RepV v ∧ ∀ d, H1 d = none → Q (.ref C) (some d) (upd H1 d (.xd [(p, v)]))
section
variable {X : Cx} {C : Addr} {cn p : Str} {a : Expr} {ta : TA} {pp pos pos2 : Pos} {k : Nat} {W : WX}
theorem relO_one {v : V} {u : Value} (r : RelV v u) (f : Str) : RelO (List.lookup f [(p, v)]) (if f = p then some u else none) := by
  by_cases q : f = p
  · rw [if_pos q, q]
    show RelO (List.lookup p [(p, v)]) (some u)
    simp only [List.lookup, beq_self_eq_true]
    exact r
  · have z : (f == p) = false := by simpa using q
    rw [if_neg q]
    simp only [List.lookup, z]
    exact True.intro
theorem pmk_e1 (T : ErrX.Er1 X.prog X.K X.mg cn p C) (hr : Room k X.A) (hk : 2 ≤ k) (ha : PA X [a] ta) (hg : Gl X cn := by rfl) (hdb : (cn == ("__debug__" : Str)) = false := by decide)
    (hs1 : starEach (a :: []) X.env = (false, eval a X.env) :: starEach [] X.env := by rfl) (hs2 : (backTo pos (starEach [] X.env)).any (·.1) = false := by rfl) : PMk X (.Call (.Name cn pp) [a] [] pos) (tMkE C p ta) := by
  intro pins s σ H Q I h
  obtain ⟨fI, qual, st, pre, cst, j1, j2, j3, q1, q2, q3, q4, T, S, h1, h2, h3, h4⟩ := T
  refine wpAny_Call_Name_kw (ld_glob I hg T.gC ?_ hdb)
  refine PySem.W.callWith_K (h₀ := X.base) I.ok.mod.kin T.kC (thn (ha.run pos pins s σ H _ I h) fun us s1 hh => ?_) hs1 hs2
  obtain ⟨vs, H1, I1, r1, v, rfl, hv, kk⟩ := hh
  refine ⟨I1.kIn, ?_⟩
  obtain ⟨u, rfl, ru⟩ : ∃ u, us = [u] ∧ RelV v u := by
    cases r1 with
    | cons a b => cases b; exact ⟨_, rfl, a⟩
  show wpAny _ _ (call (.ref C) [u]) _ _ _
  have M1 : Mod X.K X.mg s1.heap := ErrX.mod_keeps I1.mod I1.bk
  obtain ⟨hp, g, dr, tk, os⟩ := s1
  refine wpAny_call (ErrX.made_one T S h1 h2 h3 h4 M1 (by have := hr.dp; omega) (ErrX.rep_of hv ru) fun h' tk' e d M => ?_)
  show MkP X pins σ Q (.ref e) ⟨h', g, dr, tk', os⟩
  obtain ⟨oe, fv, o1, o2, o3, o4, o5, o6⟩ := M.obj
  obtain ⟨G, g1, g2⟩ := restrict h' fun b => decide (b ≠ e)
  have gk : ∀ b, b ≠ e → G.get? b = h'.get? b := fun b hb => g1 b (decide_eq_true hb)
  have ge : G.get? e = none := g2 e (by simp)
  have keepG : ∀ b o, hp.get? b = some o → G.get? b = some o := fun b o q => (gk b (Nat.ne_of_lt (Nat.lt_of_lt_of_le (Heap.lt_size q) M.new))).trans (M.keep b o q)
  have ob : ObjOk X.prog X.w (upd H1 d (.xd [(p, v)])) G d (.xd [(p, v)]) := ⟨_, M.ns.at (fun o q => (gk d M.dne).trans q), fun f => relO_one ru f⟩
  have J : Inv X pins σ (upd H1 d (.xd [(p, v)])) ⟨G, g, dr, tk', os⟩ := I1.laid (t' := tk') keepG M.dbig ob
  refine ⟨e, oe, fv, ⟨G, g, dr, tk', os⟩, _, .ref C, some d, rfl, J, fun b o q => ?_, ge, o1, ⟨o2, o3⟩, o4, o5, ?_, rfl, I1.bare, raises_own T.exC T.tyC, kk d (I1.hok.fresh M.dbig)⟩
  · by_cases hb : b = e
    · rw [show G.get? b = none by rw [hb]; exact ge] at q; cases q
    · exact (gk b hb).symm.trans q
  · rw [upd_ne (Ne.symm M.dne)]; exact I1.hok.fresh M.new
def tRsE (C : Addr) (p : Str) (W : WX) (ta : TA) : TS := fun _ σ H => tMkE C p ta σ H fun cls d H' => W cls d σ H'
theorem s_raise1 (hc : X.calm = true) (T : ErrX.Er1 X.prog X.K X.mg cn p C) (hr : Room k X.A) (hk : 2 ≤ k) (tk : Takes X W) {te : TE} (ha : PE X a te) (hg : Gl X cn := by rfl) (hdb : (cn == ("__debug__" : Str)) = false := by decide)
    (hs1 : starEach (a :: []) X.env = (false, eval a X.env) :: starEach [] X.env := by rfl) (hs2 : (backTo pos (starEach [] X.env)).any (·.1) = false := by rfl) : PS X (.Raise (some (.Call (.Name cn pp) [a] [] pos)) none pos2) (tRsE C p W (tCons te tNil)) :=
  ps_raise hc tk (pmk_e1 T hr hk (pa_cons ha pa_nil hs1) hg hdb hs1 hs2)
end
end DL

namespace DL
open PySem L2 PyProof.Rows
/-! ### try with several clauses, with and without names -/
structure Cls1 where
  c : Value
  nm : Option Nat
  ts : Addr → Value → Option Addr → TS
def outOf (i : Nat) (T : Ends) : Ends := { nx := fun σ H => T.nx (σ.set i none) H, rt := T.rt, bk := fun σ H => T.bk (σ.set i none) H, ct := fun σ H => T.ct (σ.set i none) H }
def wAll (K : PySem.W.Frag) (Wo : WX) (T : Ends) : List Cls1 → WX
  | [] => Wo
  | c :: r => fun cls d σ H => ∃ b, PySem.W.exmOne K cls c.c = some b ∧ (b = true → ∀ a, H a = none → match c.nm with | none => c.ts a cls d T σ H | some i => c.ts a cls d (outOf i T) (σ.set i (some (.ref a))) H) ∧ (b = false → wAll K Wo T r cls d σ H)
def tTry (K : PySem.W.Frag) (Wo : WX) (l : List Cls1) (tb : WX → TS) : TS := fun T σ H => tb (wAll K Wo T l) T σ H
inductive HdA (X : Cx) : List ExceptHandler → List Cls1 → Prop
  | nil : HdA X [] []
  | only {x : Str} {c : Value} {ts : Addr → Value → Option Addr → TS} {b : Stmt} {su : List Stmt} {np ph : Pos} {hs : List ExceptHandler} {l : List Cls1} (hn : Names X x c)
      (hk : ∀ (a : Addr) (oe : Obj) (cls : Value) (d : Option Addr) (pn : List (Addr × Obj)), Zc cls d oe → (∃ vs, oe.data = .fields vs) → PSs (X.suite a ((a, oe) :: pn)) (b :: su) (ts a cls d)) (r : HdA X hs l) :
      HdA X (.ExceptHandler (some (.Name x np)) none (b :: su) ph :: hs) (⟨c, none, ts⟩ :: l)
  | as {x n : Str} {i : Nat} {c : Value} {ts : Addr → Value → Option Addr → TS} {b : Stmt} {su : List Stmt} {np ph : Pos} {hs : List ExceptHandler} {l : List Cls1} (hn : Names X x c) (hi : X.N[i]? = some n) (hl : X.env.kindOf n = some .local)
      (hk : ∀ (a : Addr) (oe : Obj) (cls : Value) (d : Option Addr) (pn : List (Addr × Obj)), Zc cls d oe → (∃ vs, oe.data = .fields vs) → PSs (X.suite a ((a, oe) :: pn)) (b :: su) (ts a cls d)) (r : HdA X hs l) :
      HdA X (.ExceptHandler (some (.Name x np)) (some n) (b :: su) ph :: hs) (⟨c, some i, ts⟩ :: l)
section
variable {X : Cx} {body : List Stmt} {h0 : ExceptHandler} {hs : List ExceptHandler} {l : List Cls1} {pos : Pos} {tb : WX → TS} {Wo : WX}
theorem ps_tryA (e1 : X.stack = X.env :: X.outer) (e2 : X.env.frame = some X.env.locals) (hN : X.N.Nodup) (tk : Takes X Wo)
    (hb : ∀ (W : WX) (pn : List (Addr × Obj)) (xe : Value → Shared → Prop), Takes (X.tr pn xe) W → PassesOwn (model X.prog X.w) X.A X.env xe → PSs (X.tr pn xe) body (tb W))
    (hh : HdA X (h0 :: hs) l) : PS X (.Try body (h0 :: hs) [] [] pos) (tTry X.K Wo l tb) := by
  refine ⟨fun pins s σ H T I q => ?_⟩
  have ok := I.ok
  have fr : X.A.frames = some (X.env :: X.outer) := by rw [ok.frames, e1]
  refine wpAny_Try_except ?_
  refine wpAny_mono ((hb (wAll X.K Wo T l) (X.pn ++ pins) (fun e s1 => wpAny (model X.prog X.w) X.A (noteFrame e X.env) (fun _ s2 => wpAny (model X.prog X.w) X.A (setFlight e none) (fun _ s3 => wpAny (model X.prog X.w) X.A (handleBy e X.env (h0 :: hs)) (SP X pins T) X.xe s3) X.xe s2) X.xe s1)
    (fun u s' xx => ?_) PassesOwn.looking).run [] s σ H T (I.toTry _) q) (fun f s1 hsp => ?_) (fun _ _ he => he)
  · obtain ⟨a, B, sI, pins', σ', H', cls, d, rfl, J', nb, up, sky, na, os, ag, wl⟩ := xx
    have J : Inv X pins σ' H' sI := J'.ofTry ok
    rw [e1] at sky
    show wpAny (model X.prog X.w) X.A (noteFrame (.ref a) X.env) _ _ _
    refine Sky.land Zc.steady fr e2 sky fun h3 fl3 up3 => ?_
    have J3 : Inv X pins σ' H' { s' with heap := h3 } := J.landed nb fl3.1 (up.trans up3) os ag
    obtain ⟨oe3, vs3, he3, hz3, hd3⟩ := fl3.there
    have nfr : a ∉ frs (X.env :: X.outer) := fun hm => by
      obtain ⟨_, o', e', hnf⟩ := fl3.2.2.1.mem hm
      rw [he3] at e'; cases e'
      exact hnf _ hd3
    have nL : a ≠ X.env.locals := fun z => nfr (List.mem_filterMap.mpr ⟨X.env, List.mem_cons_self, by rw [e2, z]⟩)
    have nF : a ∉ X.fs := fun hm => by
      obtain ⟨e, he, q⟩ := List.mem_filterMap.mp hm
      exact nfr (List.mem_filterMap.mpr ⟨e, List.mem_cons_of_mem _ he, q⟩)
    have S3 := J3.suite he3 hd3 na nL nF
    have LT : PySem.W.Looks (model X.prog X.w) h3 (typeOf (.ref a)) cls := fun A Q E s k q => wpAny_typeOf_ref (k _ _ he3) (by rw [hz3.1]; exact q)
    have ask : ∀ {x : Str} {c : Value} {np : Pos} {Q E : Value → Shared → Prop}, Names X x c → Q c { s' with heap := h3 } → wpAny (model X.prog X.w) (X.A.mark (some (.ref a))) (eval (.Name x np) X.env) (fun v s => Q v s) (fun v s => E v s) { s' with heap := h3 } := fun {x c np Q E} hc q => by
      obtain ⟨hg, hdbg, hm | ⟨hm, hv, hnn⟩⟩ := hc
      · exact ld_glob (X := X.suite a ((a, oe3) :: (X.pn ++ pins))) S3 hg hm q hdbg
      · exact ld_blt (X := X.suite a ((a, oe3) :: (X.pn ++ pins))) S3 hg hm hv q hnn hdbg
    have go : ∀ {hs' : List ExceptHandler} {l' : List Cls1}, HdA X hs' l' → wAll X.K Wo T l' cls d σ' H' → wpAny (model X.prog X.w) X.A (handleBy (.ref a) X.env hs') (SP X pins T) X.xe { s' with heap := h3 } := by
      intro hs' l' hk
      induction hk with
      | nil =>
        intro w
        refine wpAny_handleBy_nil ?_
        obtain ⟨_, _, _, oe, vs, R, oR, tt, he, hz, hd, h1, hr⟩ := id fl3
        unfold PySem.passOn
        refine wpAny_bind (wpAny_field he hd h1 ?_)
        rw [if_neg (show ¬ ((Value.ref R == Value.none) = true) from by simp)]
        have fin : wpAny (model X.prog X.w) X.A (setFlight (.ref a) X.env.frame) (fun _ s4 => wpAny (model X.prog X.w) X.A (throw (.ref a) : Sem Flow) (SP X pins T) X.xe s4) X.xe { s' with heap := h3 } := by
          rw [e2]
          refine HandSPX.setFlight_upZ fl3 fun h4 hh4 up4 => wpAny_throw (tk _ _ ?_)
          exact ⟨a, B, sI, pins, σ', H', cls, d, rfl, J, nb, (up.trans up3).trans up4, .inr (.inr (by rw [e1]; exact hh4)), na, os, ag, w⟩
        first
          | exact wpAny_bind (wpAny_pure (wpAny_bind fin))
          | exact wpAny_bind fin
      | @only x c ts b su np ph hs2 l2 hn hk r ih =>
        rintro ⟨b1, hb1, yes, no⟩
        refine wpAny_handleBy_cons (codeAny_handlers_test ?_) (by intro q; cases q)
        refine ask hn ((PySem.W.exm_one (M := model X.prog X.w) J3.kIn LT hb1).here ?_)
        cases b1 with
        | true =>
          refine codeAny_handlers_suite ?_
          refine HandSPX.lands_againZ fl3 fun h4 fl4 up4 => ?_
          have J4 : Inv X pins σ' H' { s' with heap := h4 } := J.landed nb fl4.1 ((up.trans up3).trans up4) os ag
          obtain ⟨oe4, vs4, he4, hz4, hd4⟩ := fl4.there
          refine wpAny_mono ((hk a oe4 cls d (X.pn ++ pins) hz4 ⟨_, hd4⟩).run [] _ _ H' _ (J4.suite he4 hd4 na nL nF) (yes rfl a na)) (fun f s6 hsp => ?_) (fun _ _ z => False.elim z)
          cases f with
          | next => obtain ⟨σ6, H6, S6, q6⟩ := hsp; exact ⟨_, _, S6.unsuite ok, q6⟩
          | brk => obtain ⟨σ6, H6, S6, q6⟩ := hsp; exact ⟨_, _, S6.unsuite ok, q6⟩
          | cont => obtain ⟨σ6, H6, S6, q6⟩ := hsp; exact ⟨_, _, S6.unsuite ok, q6⟩
          | ret u => obtain ⟨v6, σ6, H6, S6, r6, q6⟩ := hsp; exact ⟨_, _, _, S6.unsuite ok, r6, q6⟩
        | false =>
          show wpAny _ X.A (handleBy (.ref a) X.env hs2) _ _ _
          exact ih (no rfl)
      | @as x n i c ts b su np ph hs2 l2 hn hi hl hk r ih =>
        rintro ⟨b1, hb1, yes, no⟩
        refine wpAny_handleBy_cons (codeAny_handlers_test ?_) (by intro q; cases q)
        refine ask hn ((PySem.W.exm_one (M := model X.prog X.w) J3.kIn LT hb1).here ?_)
        cases b1 with
        | true =>
          refine codeAny_handlers_suite_as ?_
          refine HandSPX.lands_againZ fl3 fun h4 fl4 up4 => ?_
          have J4 : Inv X pins σ' H' { s' with heap := h4 } := J.landed nb fl4.1 ((up.trans up3).trans up4) os ag
          obtain ⟨oe4, vs4, he4, hz4, hd4⟩ := fl4.there
          refine store_ok (X := X.suite a ((a, oe4) :: (X.pn ++ pins))) (v := .ref a) (J4.suite he4 hd4 na nL nF) hN hi (.inl hl) rfl (fun s5 S5 => ?_) (.inr hl)
          refine wpAny_mono ((hk a oe4 cls d (X.pn ++ pins) hz4 ⟨_, hd4⟩).run [] s5 _ H' _ S5 (yes rfl a na)) (fun f s6 hsp => ?_) (fun _ _ z => False.elim z)
          have fin : ∀ {σ6 : L2.St} {H6 : Hp} {Q : Shared → Prop}, Inv (X.suite a ((a, oe4) :: (X.pn ++ pins))) [] σ6 H6 s6 → (∀ s7, Inv X pins (σ6.set i none) H6 s7 → Q s7) →
              wpAny (model X.prog X.w) X.A (do bindName X.env n .none; unbindBehindTheSuite X.env n ph) (fun _ s7 => Q s7) X.xe s6 := fun {σ6 H6 Q} S6 hq => gone_ok (S6.unsuite ok) hN hi hl hq
          cases f with
          | next => obtain ⟨σ6, H6, S6, q6⟩ := hsp; exact fin S6 fun s7 J7 => ⟨_, _, J7, q6⟩
          | brk => obtain ⟨σ6, H6, S6, q6⟩ := hsp; exact fin S6 fun s7 J7 => ⟨_, _, J7, q6⟩
          | cont => obtain ⟨σ6, H6, S6, q6⟩ := hsp; exact fin S6 fun s7 J7 => ⟨_, _, J7, q6⟩
          | ret u => obtain ⟨v6, σ6, H6, S6, r6, q6⟩ := hsp; exact fin S6 fun s7 J7 => ⟨_, _, _, J7, r6, q6⟩
        | false =>
          show wpAny _ X.A (handleBy (.ref a) X.env hs2) _ _ _
          exact ih (no rfl)
    exact go hh wl
  · cases f with
    | next => obtain ⟨σ', H', J', q⟩ := hsp; exact wpAny_execs_nil ⟨σ', H', J'.ofTry ok, q⟩
    | brk => obtain ⟨σ', H', J', q⟩ := hsp; exact ⟨σ', H', J'.ofTry ok, q⟩
    | cont => obtain ⟨σ', H', J', q⟩ := hsp; exact ⟨σ', H', J'.ofTry ok, q⟩
    | ret u => obtain ⟨v, σ', H', J', r, q⟩ := hsp; exact ⟨v, σ', H', J'.ofTry ok, r, q⟩
end
/-! ### by data -/
section
variable {K : PySem.W.Frag} {W : WX} {E : DE} {δ : List Sl} {ta : TA} {te : TE} {d : D} {x : XD} {i : Nat} {tb : WX → TS} {l : List Cls1}
def RepD : D → Prop
  | .str x => (reprText x).length ≤ 1000000
  | .int i => i.natAbs.log2 < 1920
  | _ => False
theorem RepD.v {Hb : Hp} {v : V} (h : RepD d) (r : Rp K Hb d v) : ErrX.RepV v := by
  cases d <;> first | exact h.elim | (cases (Rp.strV r); exact h) | (cases (Rp.intV r); exact h)
theorem sd_raise1 {C : Addr} {p : Str} (ha : EvA K ta δ [d]) (hd : RepD d) (h : E.ex ⟨C, [p], [d]⟩ δ) : SD K W (tRsE C p W ta) E δ := fun A σ H ts L T c => ha.rpa L _ fun vs H2 Hb F L2 r => by
  obtain ⟨v, t, rfl, hv, ht⟩ := RpA.consV r
  cases (RpA.nilV ht)
  refine ⟨v, rfl, hd.v hv, fun dd hdd => c.ex _ δ σ _ _ _ h ⟨Hb, F, dd, [v], ?_, rfl, rfl, upd_same, rfl, r, L2.eH.none hdd, L2.bH.none hdd, fun i φ h => (L2.own i φ h).2.1.none hdd⟩⟩
  exact L2.grow (Ex.new hdd) (Ex.refl _) (L2.bH.trans (Ex.new hdd)) (fun a h1 h2 => absurd h1 h2) L2.tmp
/-- where an exception of the body goes -/
def Hnd (K : PySem.W.Frag) (W : WX) (E : DE) : List Cls1 → XD → List Sl → Prop
  | [], x, δ => E.ex x δ
  | c :: r, x, δ => ∃ b, PySem.W.exmOne K (.ref x.C) c.c = some b ∧ (b = true → ∀ a dd, match c.nm with
      | none => SD K W (c.ts a (.ref x.C) (some dd)) E δ
      | some i => SD K W (c.ts a (.ref x.C) (some dd)) { E with nx := fun δ' => E.nx (δ'.set i .no), bk := fun δ' => E.bk (δ'.set i .no), ct := fun δ' => E.ct (δ'.set i .no) } (δ.set i (.dat (.exc a x.C dd x.fs x.ds)))) ∧ (b = false → Hnd K W E r x δ)
theorem sd_try (h : ∀ W', SD K W' (tb W') { E with ex := Hnd K W E l } δ) : SD K W (tTry K W l tb) E δ := fun A σ H ts L T c => by
  show tb (wAll K W T l) T σ H
  refine h _ A σ H ts L T ⟨c.nx, c.rt, c.bk, c.ct, fun x δ' σ' H' cls d hx X => ?_⟩
  have go : ∀ l, Hnd K W E l x δ' → wAll K W T l cls d σ' H' := by
    intro l
    induction l with
    | nil => intro hx; exact c.ex x δ' σ' H' cls d hx X
    | cons cl r ih =>
      rintro ⟨b, hb, yes, no⟩
      obtain ⟨Hb, F, dd, vs, L2, rfl, rfl, hdd, hlen, rr, n1, n2, n3⟩ := id X
      refine ⟨b, hb, fun e a na => ?_, fun e => ih (no e)⟩
      have hy := yes e a dd
      cases hn : cl.nm with
      | none =>
        rw [hn] at hy
        exact hy A σ' H' ts ⟨Hb, F, L2⟩ T c
      | some i =>
        rw [hn] at hy
        -- the error's dict joins what is shared
        have key : ∀ {b : Addr}, (uni Hb (sgl dd (.xd (x.fs.zip vs)))) b = none ↔ (Hb b = none ∧ b ≠ dd) := fun {b} => by
          constructor
          · intro z
            cases q : Hb b with
            | some o => unfold uni at z; rw [q] at z; cases z
            | none =>
              rw [uni_r q] at z
              exact ⟨rfl, fun y => by rw [y, sgl_same] at z; cases z⟩
          · rintro ⟨h1, h2⟩
            rw [uni_r h1, sgl_ne h2]
        have bh : Ex (uni Hb (sgl dd (.xd (x.fs.zip vs)))) H' := fun b o e => by
          cases q : Hb b with
          | some o' => unfold uni at e; rw [q] at e; cases e; exact L2.bH b _ q
          | none =>
            rw [uni_r q] at e
            by_cases z : b = dd
            · subst z; rw [sgl_same] at e; cases e; exact hdd
            · rw [sgl_ne z] at e; cases e
        have L3 : LcS K A δ' σ' H' (rp K (.ref a) (.exc a x.C dd x.fs x.ds) :: ts) (uni Hb (sgl dd (.xd (x.fs.zip vs)))) F :=
          { L2 with
            eB := L2.eB.trans uni_l
            bH := bh
            ap := fun b h1 h2 => key.mpr ⟨L2.ap b h1 h2, fun z => h2 (by rw [z]; exact n1)⟩
            dat := fun j e h => by
              obtain ⟨v, p, q⟩ := L2.dat j e h
              exact ⟨v, p, Rp.mono uni_l.rl _ _ q⟩
            bor := fun j ψ h => ⟨let ⟨v, p, q⟩ := (L2.bor j ψ h).1; ⟨v, p, (L2.bor j ψ h).2 _ _ _ _ _ uni_l.rl (Rl.refl _) q⟩, (L2.bor j ψ h).2⟩
            own := fun j ψ h => by
              obtain ⟨⟨v, p, q⟩, r1, r2⟩ := L2.own j ψ h
              exact ⟨⟨v, p, L2.mon j ψ h _ _ _ _ uni_l.rl q⟩, r1, fun b hb => ⟨key.mpr ⟨(r2 b hb).1, fun z => hb (by rw [z]; exact n3 j ψ h)⟩, (r2 b hb).2⟩⟩
            tmp := fun p hp => by
              rcases List.mem_cons.mp hp with rfl | hp
              · show Rp K _ _ _
                unfold Rp
                exact ⟨vs, rfl, by rw [uni_r n2, sgl_same], hlen, RpA.mono uni_l.rl _ _ rr⟩
              · exact p.m _ _ uni_l.rl (L2.tmp p hp) }
        have L4 : Lc K A (δ'.set i (.dat (.exc a x.C dd x.fs x.ds))) (σ'.set i (some (.ref a))) H' ts := Lc.set ⟨_, F, L3⟩ i
        have low : ∀ {δ3 : List Sl} {σ3 : _root_.L2.St} {H3 : Hp}, Lc K A δ3 σ3 H3 ts → Lc K A (δ3.set i .no) (σ3.set i none) H3 ts := fun L => L.wip1 i
        exact hy A _ H' ts L4 (outOf i T) ⟨fun δ3 σ3 H3 p L5 => c.nx _ _ _ p (low L5), c.rt, fun δ3 σ3 H3 p L5 => c.bk _ _ _ p (low L5), fun δ3 σ3 H3 p L5 => c.ct _ _ _ p (low L5), c.ex⟩
  exact go l hx
theorem lookup_zip {n : Str} {u : V} : ∀ {fs : List Str} {vs : List V} {j : Nat}, fs.length = vs.length → fs[j]? = some n → (fs.take j |>.all (· != n)) = true → vs[j]? = some u → (fs.zip vs).lookup n = some u
  | [], _, j, _, hf, _, _ => by simp at hf
  | f :: fs, [], j, hl, _, _, _ => by simp at hl
  | f :: fs, w :: vs, 0, _, hf, _, hu => by
    simp at hf hu
    subst hf hu
    simp [List.lookup]
  | f :: fs, w :: vs, j + 1, hl, hf, h1, hu => by
    simp only [List.take_succ_cons, List.all_cons, Bool.and_eq_true] at h1
    have hne : (n == f) = false := by
      have := h1.1
      simp only [bne_iff_ne, ne_eq] at this
      simp only [beq_eq_false_iff_ne, ne_eq]
      exact fun z => this z.symm
    simp only [List.zip_cons_cons, List.lookup, hne]
    exact lookup_zip (by simpa using hl) (by simpa using hf) h1.2 (by simpa using hu)
/-- e.f of the error that the suite holds -/
theorem ev_xf {a C dd : Addr} {fs : List Str} {ds : List D} {n : Str} {j : Nat} (h : EvD K te δ (.exc a C dd fs ds)) (hf : fs[j]? = some n) (h1 : fs.take j |>.all (· != n)) (hd : ds[j]? = some d) : EvD K (tXf a (.ref C) (some dd) C n te) δ d := fun A σ H ts L Q q => h A σ H ts L _ fun v H2 L2 => by
  obtain ⟨Hb, F, L2⟩ := L2
  have hv : Rp K Hb (.exc a C dd fs ds) v := L2.tmp (rp K v (.exc a C dd fs ds)) (by simp)
  unfold Rp at hv
  obtain ⟨vs, rfl, hx, hlen, rr⟩ := hv
  obtain ⟨u, hu, ru⟩ := rr.get hd
  refine ⟨rfl, rfl, dd, _, u, rfl, L2.bH _ _ hx, ?_, q u H2 ⟨Hb, F, L2.temps fun p hp => (List.mem_cons.mp hp).elim (fun z => by rw [z]; exact ru) fun hp => L2.tmp p (by simp [hp])⟩⟩
  exact lookup_zip hlen hf h1 hu
end
end DL

namespace DL
open PySem L2 PyProof.Rows
/-! ### dicts by data -/
instance decKey (k : Key) (ks : List Key) : Decidable (k ∈ ks) := @List.instDecidableMemOfLawfulBEq Key instBEqOfDecidableEq inferInstance k ks
def kD : Key → D
  | .inl i => .int i
  | .inr s => .str s
def dget (ks : List Key) (ds : List D) (k : Key) : Option D := ((ks.zip ds).find? fun kv => decide (kv.1 = k)).map (·.2)
/-- d[k] = x: in its place, or behind the last -/
def dputK (ks : List Key) (k : Key) : List Key := if k ∈ ks then ks else ks ++ [k]
def dputD (ks : List Key) (ds : List D) (k : Key) (d : D) : List D := if k ∈ ks then List.zipWith (fun k' d' => if k' = k then d else d') ks ds else ds ++ [d]
section
variable {K : PySem.W.Frag} {W : WX} {E : DE} {δ : List Sl} {ta tb te : TE} {d x : D} {i : Nat} {ts1 : TS} {g : TG}
theorem kD_v {Hb : Hp} {k : Key} {v : V} (r : Rp K Hb (kD k) v) : v = kV k := by cases k <;> exact r
theorem kD_rp {Hb : Hp} (k : Key) : Rp K Hb (kD k) (kV k) := by cases k <;> (unfold kD kV Rp; rfl)
theorem dget_rp {Hb : Hp} {k : Key} : ∀ {ks : List Key} {ds : List D} {vs : List V}, ks.length = vs.length → RpA K Hb ds vs → (∀ d, dget ks ds k = some d → ∃ v, valV (ks.zip vs) k = some v ∧ Rp K Hb d v) ∧ (dget ks ds k).isSome = (valV (ks.zip vs) k).isSome
  | [], ds, vs, _, _ => ⟨fun d h => by simp [dget] at h, rfl⟩
  | q :: ks, [], vs, hl, r => by rw [RpA.nilV r] at hl; simp at hl
  | q :: ks, e :: ds, vs, hl, r => by
    obtain ⟨v, t, rfl, rv, rt⟩ := RpA.consV r
    have ih := dget_rp (k := k) (ks := ks) (by simpa using hl) rt
    unfold dget valV at ih ⊢
    simp only [List.zip_cons_cons, List.find?_cons]
    by_cases z : q = k
    · simp only [z, decide_true, Option.map_some, Option.isSome_some, and_true]
      intro d h
      cases h
      exact ⟨v, rfl, rv⟩
    · simp only [z, decide_false]
      exact ih
theorem dget_some {k : Key} : ∀ {ks : List Key} {ds : List D}, ks.length = ds.length → (dget ks ds k).isSome = decide (k ∈ ks)
  | [], ds, _ => by simp [dget]
  | q :: ks, [], h => by simp at h
  | q :: ks, e :: ds, h => by
    have ih := dget_some (k := k) (ks := ks) (ds := ds) (by simpa using h)
    unfold dget at ih ⊢
    simp only [List.zip_cons_cons, List.find?_cons, List.mem_cons]
    by_cases z : q = k
    · simp [z]
    · have z' : ¬ k = q := fun e => z e.symm
      simp only [z, decide_false, z', false_or]
      exact ih
/-- d[k] -/
theorem ev_ixD {ks : List Key} {ds : List D} {k : Key} (ha : EvD K ta δ (.dic ks ds)) (hb : EvD K tb δ (kD k)) (h : dget ks ds k = some d) : EvD K (tOp (rIX K) ta tb) δ d := ev_op2r ha hb (Op2r.inr (Op2r.inr (Op2r.inr fun Hb H v u Q e hv hu q => by
  unfold Rp at hv
  obtain ⟨a, vs, rfl, s, hl, r⟩ := hv
  obtain ⟨w, hw, rw'⟩ := (dget_rp (k := k) hl r).1 d h
  exact ⟨a, w, rfl, .inl ⟨_, k, e.rl.k s, kD_v hu, hw.symm⟩, q w rw'⟩)))
/-- k in d, k not in d -/
theorem ev_inD {ks : List Key} {ds : List D} {k : Key} {neg : Bool} (ha : EvD K ta δ (kD k)) (hb : EvD K tb δ (.dic ks ds)) (hlen : ks.length = ds.length) : EvD K (tOp (rIN K neg) ta tb) δ (.bl (if neg then !decide (k ∈ ks) else decide (k ∈ ks))) := ev_op2 ha hb (Op2.inr (Op2.inl fun Hb H v u Q e hv hu q => by
  unfold Rp at hu
  obtain ⟨a, vs, rfl, s, hl, r⟩ := hu
  refine ⟨a, valV (ks.zip vs) k, rfl, .inl ⟨_, k, e.rl.k s, kD_v hv, rfl⟩, q _ fun _ => ?_⟩
  rw [← (dget_rp (k := k) hl r).2, dget_some hlen]
  unfold Rp; rfl))
/-- {} -/
theorem en_dic0 : EvN K tDNewK δ (oD K [] []) := fun A σ H ts L Q q p hp => by
  obtain ⟨Hb, F, L⟩ := L
  exact q _ _ (L.made hp ⟨p, [], rfl, rfl, rfl, RpA.nil⟩)
theorem putK_zip {k : Key} {v : V} {ks : List Key} {vs : List V} (hl : ks.length = vs.length) : putK (ks.zip vs) k v = (dputK ks k).zip (if k ∈ ks then List.zipWith (fun k' v' => if k' = k then v else v') ks vs else vs ++ [v]) := by
  unfold putK dputK
  have e : ((ks.zip vs).any fun kv => decide (kv.1 = k)) = decide (k ∈ ks) := by
    induction ks generalizing vs with
    | nil => simp
    | cons q ks ih =>
      cases vs with
      | nil => simp at hl
      | cons w vs =>
        have := ih (vs := vs) (by simpa using hl)
        simp only [List.zip_cons_cons, List.any_cons, this, List.mem_cons, Bool.decide_or]
        by_cases z : q = k
        · simp [z]
        · have z' : ¬ k = q := fun e => z e.symm
          simp [z, z']
  rw [e]
  by_cases m : k ∈ ks
  · simp only [m, decide_true, if_true]
    clear e m
    induction ks generalizing vs with
    | nil => simp
    | cons q ks ih =>
      cases vs with
      | nil => simp at hl
      | cons w vs =>
        simp only [List.zip_cons_cons, List.map_cons, List.zipWith_cons_cons]
        rw [ih (by simpa using hl)]
        by_cases z : q = k <;> simp [z]
  · simp only [m, decide_false, if_false, Bool.false_eq_true]
    rw [List.zip_append hl]; rfl
theorem dputD_rp {Hb : Hp} {k : Key} {v : V} : ∀ {ks : List Key} {ds : List D} {vs : List V}, ks.length = vs.length → RpA K Hb ds vs → Rp K Hb d v → RpA K Hb (List.zipWith (fun k' d' => if k' = k then d else d') ks ds) (List.zipWith (fun k' v' => if k' = k then v else v') ks vs)
  | [], ds, vs, _, r, _ => by simp; exact RpA.nil
  | q :: ks, [], vs, hl, r, _ => by rw [RpA.nilV r] at hl; simp at hl
  | q :: ks, e :: ds, vs, hl, r, rd => by
    obtain ⟨w, t, rfl, rv, rt⟩ := RpA.consV r
    simp only [List.zipWith_cons_cons]
    refine RpA.cons ?_ (dputD_rp (by simpa using hl) rt rd)
    by_cases z : q = k
    · rw [if_pos z, if_pos z]; exact rd
    · rw [if_neg z, if_neg z]; exact rv
/-- x[k] = e, x a dict of one's own -/
theorem sd_dput {ks : List Key} {ds : List D} {k : Key} {ti tv : TE} (hi : δ[i]? = some (.own (oD K ks ds))) (hv : EvD K tv δ d) (hk : EvD K ti δ (kD k)) (hl : ks.length < 1000000) (h : E.nx (δ.set i (.own (oD K (dputK ks k) (dputD ks ds k d))))) : SD K W (sDPut (tVar i) ti tv) E δ := fun A σ H ts L T c =>
  hv A σ H ts L _ fun v H1 L1 => by
    obtain ⟨Hb0, F0, L0⟩ := id L1
    obtain ⟨⟨u, hu, p, us, rfl, f0, z0, r0⟩, fH0, _⟩ := L0.own i _ hi
    refine ⟨.ref p, hu, hk A σ H1 _ L1 _ fun y H2 L2 => ?_⟩
    obtain ⟨Hb, F, L2⟩ := L2
    obtain ⟨⟨u2, hu2, p2, vs, rfl, f2, z2, r2⟩, fH2, ap2⟩ := L2.own i _ hi
    have ep : p2 = p := by rw [hu] at hu2; cases hu2; rfl
    subst ep
    have hp : H2 p2 = some (.dK (ks.zip vs)) := fH2 p2 _ (by rw [f2, sgl_same])
    have rv : Rp K Hb d v := L2.tmp (rp K v d) (by simp)
    have ry : y = kV k := kD_v (L2.tmp (rp K y (kD k)) (by simp))
    refine ⟨p2, _, rfl, .inl ⟨_, k, hp, ry, by rw [List.length_zip, ← z2, Nat.min_self, sizeLine_eq]; omega, rfl⟩, c.nx _ σ _ h ?_⟩
    rw [putK_zip z2]
    refine (L2.temps (ts' := ts) fun p hp => L2.tmp p (by simp [hp])).chg hi (F' := sgl p2 (.dK ((dputK ks k).zip (if k ∈ ks then List.zipWith (fun k' v' => if k' = k then v else v') ks vs else vs ++ [v])))) (fun a o e q => ?_) (fun a o e => ?_) (fun a ha => ?_) hu ⟨p2, _, rfl, rfl, ?_, ?_⟩ mon_oD
    · have : a ≠ p2 := fun z => by subst z; rw [f2, sgl_same] at q; cases q
      rw [upd_ne this]; exact e
    · by_cases q : a = p2
      · subst q; rw [sgl_same] at e; rw [upd_same]; exact e
      · rw [sgl_ne q] at e; cases e
    · obtain rfl := sgl_at ha
      exact .inl (by rw [f2, sgl_same]; exact fun z => nomatch z)
    · unfold dputK
      by_cases m : k ∈ ks
      · rw [if_pos m, if_pos m, List.length_zipWith, ← z2, Nat.min_self]
      · rw [if_neg m, if_neg m, List.length_append, List.length_append, z2]; rfl
    · unfold dputD
      by_cases m : k ∈ ks
      · rw [if_pos m, if_pos m]; exact dputD_rp z2 r2 rv
      · rw [if_neg m, if_neg m]; exact r2.app (RpA.one rv)
/-! ### a walk over a dict -/
def tLockO (t : TS) : TS := fun T σ H => t T σ H ∨ tLock t T σ H
theorem ps_lockO {X : Cx} {st : Stmt} {t : TS} (h : PS X st t) : PS X st (tLockO t) := ⟨fun pins s σ H T I q => q.elim (h.run pins s σ H T I) ((ps_lock h).run pins s σ H T I)⟩
/-- locked, or as it was -/
inductive Lk : HO → HO → Prop
  | rf (o : HO) : Lk o o
  | k (ob : Obj) (kvs) : Lk (.dK kvs) (.frz ob (.dK kvs))
  | t (ob : Obj) (kvs) : Lk (.dT kvs) (.frz ob (.dT kvs))
theorem Lk.sm {o o' : HO} (h : Lk o o') : Sm o o' := by cases h <;> constructor
theorem Lk.us {o o' : HO} (h : Lk o o') : Sm o' o := by cases h <;> constructor
theorem Rk.lk {G H : Hp} {a : Addr} {o o' : HO} (g : Rk G H) (hk : Lk o o') (h : ∀ u, H a = some u → u = o) : Rk G (upd H a o') := fun b u e => by
  by_cases z : b = a
  · subst z
    rw [upd_same]
    rcases g b u e with q | ⟨ob, kvs, z, q⟩ | ⟨ob, kvs, z, q⟩
    · have := h _ q
      subst this
      cases hk with
      | rf => exact .inl rfl
      | k ob kvs => exact .inr (.inl ⟨ob, kvs, rfl, rfl⟩)
      | t ob kvs => exact .inr (.inr ⟨ob, kvs, rfl, rfl⟩)
    · have := h _ q
      subst this
      cases hk with
      | rf => exact .inr (.inl ⟨ob, kvs, z, rfl⟩)
    · have := h _ q
      subst this
      cases hk with
      | rf => exact .inr (.inr ⟨ob, kvs, z, rfl⟩)
  · rw [upd_ne z]; exact g b u e
theorem LcS.lockA {A : Act} {σ : L2.St} {H : Hp} {ts : List Tm} {Hb : Hp} {F : Nat → Hp} {a : Addr} {o o' : HO} (L : LcS K A δ σ H ts Hb F) (hb : Hb a = some o) (hk : Lk o o') : LcS K ⟨upd A.H a o', upd A.B a o', A.G⟩ δ σ (upd H a o') ts (upd Hb a o') F := by
  have hs := hk.sm
  have rl : Rl Hb (upd Hb a o') := fun b u e => by
    by_cases z : b = a
    · subst z; rw [hb] at e; cases e; exact ⟨o', upd_same, hs⟩
    · exact ⟨u, by rw [upd_ne z]; exact e, .rf u⟩
  have two : ∀ {G G' : Hp}, Ex G G' → Ex (upd G a o') (upd G' a o') := fun e b u q => by
    by_cases z : b = a
    · subst z; rw [upd_same] at q ⊢; exact q
    · rw [upd_ne z] at q ⊢; exact e b u q
  have nf : ∀ {j : Nat} {φ : Ow}, δ[j]? = some (.own φ) → F j a = none := fun {j φ} h => Classical.byContradiction fun z => by
    have := ((L.own j φ h).2.2 a z).1
    rw [hb] at this; cases this
  exact { eH := two L.eH, eB := two L.eB, bH := two L.bH, len := L.len, dis := L.dis, mon := L.mon
          ap := fun b h1 h2 => by
            have z : b ≠ a := fun z => by
              have : upd A.B a o' b = none := h1
              rw [z, upd_same] at this; cases this
            have h1' : upd A.B a o' b = none := h1
            have h2' : upd A.H a o' b ≠ none := h2
            rw [upd_ne z] at h1' h2' ⊢
            exact L.ap b h1' h2'
          dat := fun j e h => by
            obtain ⟨v, p, q⟩ := L.dat j e h
            exact ⟨v, p, Rp.mono rl _ _ q⟩
          own := fun j φ h => by
            obtain ⟨⟨v, p, q⟩, r1, r2⟩ := L.own j φ h
            refine ⟨⟨v, p, L.mon j φ h _ _ _ _ rl q⟩, fun b u e => ?_, fun b hb' => ?_⟩
            · have z : b ≠ a := fun z => by rw [z, nf h] at e; cases e
              rw [upd_ne z]; exact r1 b u e
            · have z : b ≠ a := fun z => hb' (by rw [z]; exact nf h)
              show upd Hb a o' b = none ∧ upd A.H a o' b = none
              rw [upd_ne z, upd_ne z]; exact r2 b hb'
          gH := L.gH.lk hk fun u e => by have := L.eH a u e; rw [L.bH a _ hb] at this; cases this; rfl
          bor := fun j ψ h => ⟨let ⟨v, p, q⟩ := (L.bor j ψ h).1; ⟨v, p, (L.bor j ψ h).2 _ _ _ _ _ rl (Rl.refl _) q⟩, (L.bor j ψ h).2⟩
          tmp := fun p hp => p.m _ _ rl (L.tmp p hp) }
/-- back from the lock -/
theorem LcS.unlockA {A : Act} {σ : L2.St} {H : Hp} {ts : List Tm} {Hb : Hp} {F : Nat → Hp} {a : Addr} {o o' : HO} (L : LcS K ⟨upd A.H a o', upd A.B a o', A.G⟩ δ σ H ts Hb F) (g : Rk A.G A.H) (hk : Lk o o') (h1 : ∀ u, A.H a = some u → u = o) (h2 : ∀ u, A.B a = some u → u = o) (h3 : A.B a = none → A.H a = none) :
    H a = some o' ∧ LcS K A δ σ (upd H a o) ts (upd Hb a o) F := by
  have hs := hk.us
  have hB : Hb a = some o' := L.eB a o' upd_same
  have hH : H a = some o' := L.eH a o' upd_same
  have rl : Rl Hb (upd Hb a o) := fun b u e => by
    by_cases z : b = a
    · subst z; rw [hB] at e; cases e; exact ⟨o, upd_same, hs⟩
    · exact ⟨u, by rw [upd_ne z]; exact e, .rf u⟩
  have one : ∀ {G G' : Hp}, Ex (upd G a o') G' → (∀ u, G a = some u → u = o) → Ex G (upd G' a o) := fun {G G'} e f b u q => by
    by_cases z : b = a
    · subst z; rw [f u q, upd_same]
    · rw [upd_ne z]; exact e b u (by rw [upd_ne z]; exact q)
  have nf : ∀ {j : Nat} {φ : Ow}, δ[j]? = some (.own φ) → F j a = none := fun {j φ} h => Classical.byContradiction fun z => by
    have := ((L.own j φ h).2.2 a z).1
    rw [hB] at this; cases this
  refine ⟨hH, { eH := one L.eH h1, eB := one L.eB h2, bH := fun b u e => ?_, len := L.len, dis := L.dis, mon := L.mon, ap := fun b q1 q2 => ?_, dat := fun j e h => ?_, own := fun j φ h => ?_, gH := g, bor := fun j ψ h => ⟨let ⟨v, p, q⟩ := (L.bor j ψ h).1; ⟨v, p, (L.bor j ψ h).2 _ _ _ _ _ rl (Rl.refl _) q⟩, (L.bor j ψ h).2⟩, tmp := fun p hp => p.m _ _ rl (L.tmp p hp) }⟩
  · by_cases z : b = a
    · subst z; rw [upd_same] at e ⊢; exact e
    · rw [upd_ne z] at e ⊢; exact L.bH b u e
  · have z : b ≠ a := fun z => q2 (by rw [z]; exact h3 (by rw [← z]; exact q1))
    rw [upd_ne z]
    exact L.ap b (by show upd A.B a o' b = none; rw [upd_ne z]; exact q1) (by show upd A.H a o' b ≠ none; rw [upd_ne z]; exact q2)
  · obtain ⟨v, p, q⟩ := L.dat j e h
    exact ⟨v, p, Rp.mono rl _ _ q⟩
  · obtain ⟨⟨v, p, q⟩, r1, r2⟩ := L.own j φ h
    refine ⟨⟨v, p, L.mon j φ h _ _ _ _ rl q⟩, fun b u e => ?_, fun b hb' => ?_⟩
    · have z : b ≠ a := fun z => by rw [z, nf h] at e; cases e
      rw [upd_ne z]; exact r1 b u e
    · have z : b ≠ a := fun z => hb' (by rw [z]; exact nf h)
      have r3 := r2 b hb'
      have r4 : upd A.H a o' b = none := r3.2
      rw [upd_ne z] at r4 ⊢; exact ⟨r3.1, r4⟩
/-- a dict that the caller lent -/
theorem LcS.lockG {A : Act} {σ : L2.St} {H : Hp} {ts : List Tm} {Hb : Hp} {F : Nat → Hp} {a : Addr} {o o' : HO} (L : LcS K A δ σ H ts Hb F) (ha : A.H a = some o) (hb : Hb a = none) (hk : Lk o o') : LcS K ⟨upd A.H a o', A.B, A.G⟩ δ σ (upd H a o') ts Hb F := by
  have two : ∀ {G G' : Hp}, Ex G G' → Ex (upd G a o') (upd G' a o') := fun e b u q => by
    by_cases z : b = a
    · subst z; rw [upd_same] at q ⊢; exact q
    · rw [upd_ne z] at q ⊢; exact e b u q
  have nf : ∀ {j : Nat} {φ : Ow}, δ[j]? = some (.own φ) → F j a = none := fun {j φ} h => Classical.byContradiction fun z => by
    have := ((L.own j φ h).2.2 a z).2
    rw [ha] at this; cases this
  exact { L with
          eH := two L.eH
          bH := fun b u e => by
            have z : b ≠ a := fun z => by rw [z, hb] at e; cases e
            rw [upd_ne z]; exact L.bH b u e
          gH := L.gH.lk hk fun u e => by rw [ha] at e; cases e; rfl
          ap := fun b h1 h2 => by
            by_cases z : b = a
            · rw [z]; exact hb
            · have h2' : upd A.H a o' b ≠ none := h2
              rw [upd_ne z] at h2'
              exact L.ap b h1 h2'
          own := fun j φ h => by
            obtain ⟨⟨v, p, q⟩, r1, r2⟩ := L.own j φ h
            refine ⟨⟨v, p, q⟩, fun b u e => ?_, fun b hb' => ?_⟩
            · have z : b ≠ a := fun z => by rw [z, nf h] at e; cases e
              rw [upd_ne z]; exact r1 b u e
            · have z : b ≠ a := fun z => hb' (by rw [z]; exact nf h)
              show Hb b = none ∧ upd A.H a o' b = none
              rw [upd_ne z]; exact r2 b hb' }
theorem LcS.unlockG {A : Act} {σ : L2.St} {H : Hp} {ts : List Tm} {Hb : Hp} {F : Nat → Hp} {a : Addr} {o o' : HO} (L : LcS K ⟨upd A.H a o', A.B, A.G⟩ δ σ H ts Hb F) (g : Rk A.G A.H) (ha : A.H a = some o) (hb : A.B a = none) :
    H a = some o' ∧ Hb a = none ∧ LcS K A δ σ (upd H a o) ts Hb F := by
  have hH : H a = some o' := L.eH a o' upd_same
  have hB : Hb a = none := L.ap a hb (by show upd A.H a o' a ≠ none; rw [upd_same]; exact fun z => nomatch z)
  have nf : ∀ {j : Nat} {φ : Ow}, δ[j]? = some (.own φ) → F j a = none := fun {j φ} h => Classical.byContradiction fun z => by
    have : upd A.H a o' a = none := ((L.own j φ h).2.2 a z).2
    rw [upd_same] at this; cases this
  refine ⟨hH, hB, { L with gH := g, eH := fun b u e => ?_, bH := fun b u e => ?_, ap := fun b q1 q2 => ?_, own := fun j φ h => ?_ }⟩
  · by_cases z : b = a
    · subst z; rw [ha] at e; cases e; exact upd_same
    · rw [upd_ne z]; exact L.eH b u (by show upd A.H a o' b = some u; rw [upd_ne z]; exact e)
  · have z : b ≠ a := fun z => by rw [z, hB] at e; cases e
    rw [upd_ne z]; exact L.bH b u e
  · by_cases z : b = a
    · rw [z]; exact hB
    · exact L.ap b q1 (by show upd A.H a o' b ≠ none; rw [upd_ne z]; exact q2)
  · obtain ⟨⟨v, p, q⟩, r1, r2⟩ := L.own j φ h
    refine ⟨⟨v, p, q⟩, fun b u e => ?_, fun b hb' => ?_⟩
    · have z : b ≠ a := fun z => by rw [z, nf h] at e; cases e
      rw [upd_ne z]; exact r1 b u e
    · have z : b ≠ a := fun z => hb' (by rw [z]; exact nf h)
      have r3 := r2 b hb'
      have r4 : upd A.H a o' b = none := r3.2
      rw [upd_ne z] at r4; exact ⟨r3.1, r4⟩
/-! ### from the locked world back -/
structure Lens (K : PySem.W.Frag) (A A' : Act) (a : Addr) (u u' : HO) : Prop where
  back : ∀ δ' σ' H5 us Hb5 F5, LcS K A' δ' σ' H5 us Hb5 F5 → H5 a = some u' ∧ ∃ Hb6, LcS K A δ' σ' (upd H5 a u) us Hb6 F5 ∧ Rl Hb5 Hb6 ∧ ∀ b, b ≠ a → Hb5 b = none → Hb6 b = none
  nH : ∀ b, A'.H b = none → A.H b = none ∧ b ≠ a
theorem lens_A {A : Act} {σ : L2.St} {H : Hp} {ts : List Tm} {Hb : Hp} {F : Nat → Hp} {a : Addr} {o o' : HO} (L : LcS K A δ σ H ts Hb F) (hb : Hb a = some o) (hk : Lk o o') : Lens K A ⟨upd A.H a o', upd A.B a o', A.G⟩ a o o' where
  back := fun δ' σ' H5 us Hb5 F5 L5 => by
    have hH := L.bH a _ hb
    obtain ⟨e1, e2⟩ := L5.unlockA L.gH hk (fun u e => by have := L.eH a u e; rw [hH] at this; cases this; rfl) (fun u e => by have := L.eB a u e; rw [hb] at this; cases this; rfl)
      (fun e => Classical.byContradiction fun z => by have := L.ap a e z; rw [hb] at this; cases this)
    have hB : Hb5 a = some o' := L5.eB a o' upd_same
    refine ⟨e1, _, e2, fun b u e => ?_, fun b n e => by rw [upd_ne n]; exact e⟩
    by_cases z : b = a
    · subst z; rw [hB] at e; cases e; exact ⟨o, upd_same, hk.us⟩
    · exact ⟨u, by rw [upd_ne z]; exact e, .rf u⟩
  nH := fun b h => by
    have h : upd A.H a o' b = none := h
    by_cases z : b = a
    · rw [z, upd_same] at h; cases h
    · rw [upd_ne z] at h; exact ⟨h, z⟩
theorem lens_G {A : Act} {a : Addr} {o o' : HO} (g : Rk A.G A.H) (ha : A.H a = some o) (hb : A.B a = none) : Lens K A ⟨upd A.H a o', A.B, A.G⟩ a o o' where
  back := fun δ' σ' H5 us Hb5 F5 L5 => by
    obtain ⟨e1, e2, e3⟩ := L5.unlockG g ha hb
    exact ⟨e1, Hb5, e3, Rl.refl _, fun b _ e => e⟩
  nH := fun b h => by
    have h : upd A.H a o' b = none := h
    by_cases z : b = a
    · rw [z, upd_same] at h; cases h
    · rw [upd_ne z] at h; exact ⟨h, z⟩
theorem Cov.lens {E : DE} {W : WX} {A A' : Act} {a : Addr} {u u' : HO} {T : Ends} {ts : List Tm} (c : Cov K A E T W ts) (Z : Lens K A A' a u u') :
    Cov K A' E ⟨fun σ' H' => H' a = some u' ∧ T.nx σ' (upd H' a u), fun v H' => H' a = some u' ∧ T.rt v (upd H' a u), fun σ' H' => H' a = some u' ∧ T.bk σ' (upd H' a u), fun σ' H' => H' a = some u' ∧ T.ct σ' (upd H' a u)⟩ (fun cls d σ H => H a = some u' ∧ W cls d σ (upd H a u)) ts where
  nx := fun δ' σ' H' p ⟨Hb5, F5, L5⟩ => by
    obtain ⟨e, Hb6, L6, _⟩ := Z.back _ _ _ _ _ _ L5
    exact ⟨e, c.nx _ _ _ p ⟨_, _, L6⟩⟩
  bk := fun δ' σ' H' p ⟨Hb5, F5, L5⟩ => by
    obtain ⟨e, Hb6, L6, _⟩ := Z.back _ _ _ _ _ _ L5
    exact ⟨e, c.bk _ _ _ p ⟨_, _, L6⟩⟩
  ct := fun δ' σ' H' p ⟨Hb5, F5, L5⟩ => by
    obtain ⟨e, Hb6, L6, _⟩ := Z.back _ _ _ _ _ _ L5
    exact ⟨e, c.ct _ _ _ p ⟨_, _, L6⟩⟩
  rt := fun r δ' σ' H' v p L5 => by
    cases r with
    | no => exact L5.elim
    | bor φ => exact L5.elim
    | dat d =>
      obtain ⟨Hb5, F5, L5⟩ := L5
      obtain ⟨e, Hb6, L6, _⟩ := Z.back _ _ _ _ _ _ L5
      exact ⟨e, c.rt (.dat d) _ _ _ _ p ⟨_, _, L6⟩⟩
    | own φ =>
      obtain ⟨m, Hb5, F5, Fv, L6, hφ, fH, ap⟩ := (show Mon φ ∧ LcO K _ δ' σ' H' ts φ v from L5)
      obtain ⟨e, Hb6, L7, rl, nb⟩ := Z.back _ _ _ _ _ _ L6
      refine ⟨e, c.rt (.own φ) δ' σ' _ v p ⟨m, _, F5, Fv, L7, m _ _ _ _ rl hφ, fun b u e => ?_, fun b hb => ?_⟩⟩
      · have := (Z.nH b (ap b (by rw [e]; exact fun z => nomatch z)).2.1).2
        rw [upd_ne this]; exact fH b u e
      · obtain ⟨q1, q2, q3⟩ := ap b hb
        obtain ⟨r1, r2⟩ := Z.nH b q2
        exact ⟨nb b r2 q1, r1, q3⟩
  ex := fun x δ' σ' H' cls d p X => by
    obtain ⟨Hb5, F5, dd, us, L6, x1, x2, x3, x4, x5, x6, x7, x8⟩ := X
    obtain ⟨e, Hb6, L7, rl, nb⟩ := Z.back _ _ _ _ _ _ L6
    obtain ⟨r1, r2⟩ := Z.nH dd x6
    exact ⟨e, c.ex x δ' σ' _ cls d p ⟨_, F5, dd, us, L7, x1, x2, by rw [upd_ne r2]; exact x3, x4, RpA.mono rl _ _ x5, r1, nb dd r2 x7, x8⟩⟩
theorem upd_id {G : Hp} {a : Addr} {o : HO} (h : G a = some o) : upd G a o = G := by
  funext b
  by_cases z : b = a
  · subst z; rw [upd_same, h]
  · rw [upd_ne z]
/-- locked already: nothing is opened -/
theorem Cov.lens0 {E : DE} {W : WX} {A A' : Act} {a : Addr} {u : HO} {T : Ends} {ts : List Tm} (c : Cov K A E T W ts) (Z : Lens K A A' a u u) : Cov K A' E T W ts := by
  have c2 := c.lens Z
  exact ⟨fun δ σ H p L => by obtain ⟨h1, h2⟩ := c2.nx δ σ H p L; rw [upd_id h1] at h2; exact h2,
    fun r δ σ H v p L => by obtain ⟨h1, h2⟩ := c2.rt r δ σ H v p L; rw [upd_id h1] at h2; exact h2,
    fun δ σ H p L => by obtain ⟨h1, h2⟩ := c2.bk δ σ H p L; rw [upd_id h1] at h2; exact h2,
    fun δ σ H p L => by obtain ⟨h1, h2⟩ := c2.ct δ σ H p L; rw [upd_id h1] at h2; exact h2,
    fun x δ σ H cls d p L => by obtain ⟨h1, h2⟩ := c2.ex x δ σ H cls d p L; rw [upd_id h1] at h2; exact h2⟩
end
end DL

namespace DL
open PySem L2 PyProof.Rows
/-! ### a lock that an exception opens too -/
def lockW (a : Addr) (od : Obj) (u : HO) (W : WX) : WX := fun cls d σ H => H a = some (.frz od u) ∧ W cls d σ (upd H a u)
def lockT (a : Addr) (od : Obj) (u : HO) (T : Ends) : Ends := ⟨fun σ' H' => H' a = some (.frz od u) ∧ T.nx σ' (upd H' a u), fun v H' => H' a = some (.frz od u) ∧ T.rt v (upd H' a u), fun σ' H' => H' a = some (.frz od u) ∧ T.bk σ' (upd H' a u), fun σ' H' => H' a = some (.frz od u) ∧ T.ct σ' (upd H' a u)⟩
def tLockX (W : WX) (t : WX → TS) : TS := fun T σ H => t W T σ H ∨ ∃ a u, H a = some u ∧ Mut (some u) ∧ ∀ od, t (lockW a od u W) (lockT a od u T) σ (upd H a (.frz od u))
theorem ps_lockX {X : Cx} {W : WX} {st : Stmt} {t : WX → TS} (tk : Takes X W) (h : ∀ W', Takes X W' → PS X st (t W')) : PS X st (tLockX W t) := ⟨fun pins s σ H T I q => q.elim ((h W tk).run pins s σ H T I) fun ⟨a, u, ha, mu, q⟩ => by
  obtain ⟨od, I1⟩ := I.lock ha mu
  have tk' : Takes X (lockW a od u W) := fun e s' xx => by
    obtain ⟨a', B, sI, pins', σ', H', cls, d, e1, J, nb, up, sky, na, os, ag, e2, w⟩ := xx
    refine tk e s' ⟨a', B, sI, pins', σ', upd H' a u, cls, d, e1, J.unlock e2 (I.nofrz ha mu), nb, up, sky, ?_, os, ag, w⟩
    have ne : a' ≠ a := fun z => by rw [z, e2] at na; cases na
    rw [upd_ne ne]; exact na
  refine thn ((h _ tk').run pins s σ _ _ I1 (q od)) fun f s1 z => ?_
  cases f with
  | next => obtain ⟨σ', H', I2, e, z⟩ := z; exact ⟨σ', _, I2.unlock e (I.nofrz ha mu), z⟩
  | brk => obtain ⟨σ', H', I2, e, z⟩ := z; exact ⟨σ', _, I2.unlock e (I.nofrz ha mu), z⟩
  | cont => obtain ⟨σ', H', I2, e, z⟩ := z; exact ⟨σ', _, I2.unlock e (I.nofrz ha mu), z⟩
  | ret v => obtain ⟨x, σ', H', I2, r, e, z⟩ := z; exact ⟨x, σ', _, I2.unlock e (I.nofrz ha mu), r, z⟩⟩
section
variable {K : PySem.W.Frag} {W : WX} {E : DE} {δ : List Sl} {i : Nat} {tb : WX → TS} {g : TG}
theorem walk_keys {A : Act} {a : Addr} {od : Obj} {ks : List Key} {vs : List V} (hl : ks.length = vs.length) (hA : A.H a = some (.frz od (.dK (ks.zip vs)))) : WalkD K A (Itk a od (ks.zip vs)) tTrue (ks.map kD) where
  goes := fun i H Hb h e _ _ => ⟨e a _ hA, by rw [List.length_zip, ← hl, Nat.min_self]; simpa using h⟩
  stops := fun H Hb e _ _ => ⟨e a _ hA, by rw [List.length_zip, ← hl, Nat.min_self]; simp⟩
  yields := fun i d A' δ σ H x H' ts h _ L y => by
    obtain ⟨e1, k, v, hk, rfl⟩ := y
    subst e1
    have hk' : ks[i]? = some k := by
      rw [List.getElem?_zip_eq_some] at hk
      exact hk.1
    rw [List.getElem?_map, hk'] at h
    cases h
    exact L.temps fun p hp => (List.mem_cons.mp hp).elim (fun z => .inr fun Hb => by rw [z]; exact kD_rp k) .inl
/-- a dict, where it stands -/
theorem for_dict {A : Act} {σ : L2.St} {H : Hp} {ts : List Tm} {Hb : Hp} {F : Nat → Hp} {T : Ends} {ks : List Key} {a : Addr} {vs : List V} (L : LcS K A δ σ H ts Hb F) (hv : σ[i]? = some (some (.ref a))) (hl : ks.length = vs.length) (s : Rd Hb a (.dK (ks.zip vs)) ∨ (Rd A.H a (.dK (ks.zip vs)) ∧ Hb a = none)) (P : Nat → List Sl → Prop) (h0 : P 0 δ)
    (hs : ∀ W' (j : Nat) (k : Key) δ', ks[j]? = some k → P j δ' → ∃ δ2, TgD K g (kD k) δ' δ2 ∧ SD K W' (tb W') { E with nx := P (j + 1), ct := P (j + 1), bk := E.nx } δ2) (hd : ∀ δ', P ks.length δ' → E.nx δ') (c : Cov K A E T W ts) :
    tLockX W (fun W' => tFor (iKeys (tVar i)) g (tb W')) T σ H := by
  have hs' : ∀ W' (j : Nat) (d : D) δ', (ks.map kD)[j]? = some d → P j δ' → ∃ δ2, TgD K g d δ' δ2 ∧ SD K W' (tb W') { E with nx := P (j + 1), ct := P (j + 1), bk := E.nx } δ2 := fun W' j d δ' h p => by
    rw [List.getElem?_map] at h
    cases q : ks[j]? with
    | none => rw [q] at h; cases h
    | some k => rw [q] at h; cases h; exact hs W' j k δ' q p
  have hd' : ∀ δ', P (ks.map kD).length δ' → E.nx δ' := fun δ' p => hd δ' (by rw [List.length_map] at p; exact p)
  have free : ∀ od {A' : Act} {Hb' : Hp}, H a = some (.dK (ks.zip vs)) → LcS K A' δ σ (upd H a (.frz od (.dK (ks.zip vs)))) ts Hb' F → A'.H a = some (.frz od (.dK (ks.zip vs))) → Lens K A A' a (.dK (ks.zip vs)) (.frz od (.dK (ks.zip vs))) →
      tFor (iKeys (tVar i)) g (tb (lockW a od (.dK (ks.zip vs)) W)) (lockT a od (.dK (ks.zip vs)) T) σ (upd H a (.frz od (.dK (ks.zip vs)))) := fun od A' Hb' hH L1 hA Z => by
    refine ⟨.ref a, hv, a, od, rfl, .inl ⟨ks.zip vs, upd_same, ?_⟩⟩
    exact for_core (W := lockW a od (.dK (ks.zip vs)) W) (E := E) (T := lockT a od (.dK (ks.zip vs)) T) (A := A') (t := tTrue) (ts := ts) ⟨_, F, L1.temps fun p hp => (List.mem_cons.mp hp).elim (fun z => by rw [z]; trivial) (L1.tmp p)⟩ (walk_keys hl hA) (c.lens Z) P h0 (hs' _) hd'
  have held : ∀ od {A' : Act} {Hb' : Hp}, H a = some (.frz od (.dK (ks.zip vs))) → LcS K A' δ σ H ts Hb' F → A'.H a = some (.frz od (.dK (ks.zip vs))) → Lens K A A' a (.frz od (.dK (ks.zip vs))) (.frz od (.dK (ks.zip vs))) →
      tFor (iKeys (tVar i)) g (tb W) T σ H := fun od A' Hb' hH L1 hA Z => by
    refine ⟨.ref a, hv, a, od, rfl, .inl ⟨ks.zip vs, hH, ?_⟩⟩
    exact for_core (W := W) (E := E) (T := T) (A := A') (t := tTrue) (ts := ts) ⟨_, F, L1.temps fun p hp => (List.mem_cons.mp hp).elim (fun z => by rw [z]; trivial) (L1.tmp p)⟩ (walk_keys hl hA) (c.lens0 Z) P h0 (hs' _) hd'
  rcases s with (s | ⟨od, s⟩) | ⟨s | ⟨od, s⟩, hb⟩
  · exact .inr ⟨a, .dK (ks.zip vs), L.bH a _ s, trivial, fun od => free od (L.bH a _ s) (L.lockA s (.k od _)) upd_same (lens_A L s (.k od _))⟩
  · have L1 := L.lockA s (.rf _)
    rw [upd_id (L.bH a _ s)] at L1
    exact .inl (held od (L.bH a _ s) L1 upd_same (lens_A L s (.rf _)))
  · exact .inr ⟨a, .dK (ks.zip vs), L.eH a _ s, trivial, fun od => free od (L.eH a _ s) (L.lockG s hb (.k od _)) upd_same (lens_G L.gH s (L.eB.none hb))⟩
  · have L1 := L.lockG s hb (.rf _)
    rw [upd_id (L.eH a _ s)] at L1
    exact .inl (held od (L.eH a _ s) L1 upd_same (lens_G L.gH s (L.eB.none hb)))
theorem sd_forD {ks : List Key} {ds : List D} (hi : δ[i]? = some (.dat (.dic ks ds))) (P : Nat → List Sl → Prop) (h0 : P 0 δ)
    (hs : ∀ W' (j : Nat) (k : Key) δ', ks[j]? = some k → P j δ' → ∃ δ2, TgD K g (kD k) δ' δ2 ∧ SD K W' (tb W') { E with nx := P (j + 1), ct := P (j + 1), bk := E.nx } δ2) (hd : ∀ δ', P ks.length δ' → E.nx δ') :
    SD K W (tLockX W (fun W' => tFor (iKeys (tVar i)) g (tb W'))) E δ := fun A σ H ts L T c => by
  obtain ⟨Hb, F, L⟩ := L
  obtain ⟨v, hv, r⟩ := L.dat i _ hi
  unfold Rp at r
  obtain ⟨a, vs, rfl, s, hl, ra⟩ := r
  exact for_dict L hv hl (.inl s) P h0 hs hd c
theorem sd_forG {ks : List Key} {xs : List Bw} (hi : δ[i]? = some (.bor (oB K (.dic ks xs)))) (P : Nat → List Sl → Prop) (h0 : P 0 δ)
    (hs : ∀ W' (j : Nat) (k : Key) δ', ks[j]? = some k → P j δ' → ∃ δ2, TgD K g (kD k) δ' δ2 ∧ SD K W' (tb W') { E with nx := P (j + 1), ct := P (j + 1), bk := E.nx } δ2) (hd : ∀ δ', P ks.length δ' → E.nx δ') :
    SD K W (tLockX W (fun W' => tFor (iKeys (tVar i)) g (tb W'))) E δ := fun A σ H ts L T c => by
  obtain ⟨Hb, F, L⟩ := L
  obtain ⟨⟨v, hv, r⟩, _⟩ := L.bor i _ hi
  have r : RpB K Hb A.G (.dic ks xs) v := r
  unfold RpB at r
  obtain ⟨a, vs, rfl, s, hl, ra⟩ := r
  have s2 : Rd A.H a (.dK (ks.zip vs)) := L.gH.rl.k s
  cases q : Hb a with
  | none => exact for_dict L hv hl (.inr ⟨s2, q⟩) P h0 hs hd c
  | some o =>
    refine for_dict L hv hl (.inl ?_) P h0 hs hd c
    rcases s2 with s2 | ⟨od, s2⟩
    · have := L.eH a _ s2; rw [L.bH a _ q] at this; cases this; exact .inl q
    · have := L.eH a _ s2; rw [L.bH a _ q] at this; cases this; exact .inr ⟨od, q⟩
end
end DL

namespace DL
open PySem L2 PyProof.Rows
/-! ### instances -/
inductive OutI where
  | ok (fs : List Str) (ds : List D) | exc (x : XD)
section
variable (K : PySem.W.Frag)
def IOk (C : Addr) (H0 Hb : Hp) (p dx : Addr) (Q : VK) (E : XK) : OutI → Prop
  | .ok fs ds => ∀ H2, (∃ Hb' us, Ex H0 H2 ∧ Ex Hb Hb' ∧ Ex Hb' H2 ∧ (∀ a, Hb a = none → H0 a ≠ none → Hb' a = none) ∧ H2 p = some (.ins C dx (fs.zip us)) ∧ H2 dx = some (.own p) ∧ Hb' p = none ∧ Hb' dx = none ∧ fs.length = us.length ∧ RpA K Hb' ds us) → Q .non H2
  | .exc x => ∀ cls d H2, XcOk K H0 Hb x cls d H2 → E cls d H2
/-- the promise of an __init__ -/
def spI (C : Addr) (S : List Bw → OutI → Prop) : Sp := fun vs H Q E => ∃ p dx vs' H0 Hb ds o, vs = .ref p :: vs' ∧ p ≠ dx ∧ H = upd (upd H0 dx (.own p)) p (.ins C dx []) ∧ H0 p = none ∧ H0 dx = none ∧ Ex Hb H0 ∧ RpBA K Hb H0 ds vs' ∧ S ds o ∧ IOk K C H0 Hb p dx Q E o
def endsI (p C dx : Addr) (o : OutI) : DE :=
  { nx := fun δ => ∃ fs ds, δ[0]? = some (.own (oI K p C dx fs ds)) ∧ o = .ok fs ds, rt := fun r δ => r = .dat .non ∧ ∃ fs ds, δ[0]? = some (.own (oI K p C dx fs ds)) ∧ o = .ok fs ds, ex := fun x _ => o = .exc x }
end
section
variable {K : PySem.W.Frag} {W : WX} {E : DE} {δ δ' : List Sl} {ta : TA} {te tv : TE} {d : D} {ds : List D} {bs : List Bw} {S : List Bw → OutI → Prop} {x : XD} {g : TG} {i : Nat} {p C dx : Addr}
theorem lc_argsI {N : List Str} {nm : Str} {vs : List V} {H0 Hb : Hp} (hne : p ≠ dx) (hp : H0 p = none) (hdx : H0 dx = none) (e : Ex Hb H0) (r : RpBA K Hb H0 bs vs) :
    LcS K ⟨H0, Hb, H0⟩ (.own (oI K p C dx [] []) :: argsD K N.length bs) (L2.start (nm :: N) (.ref p :: vs)) (upd (upd H0 dx (.own p)) p (.ins C dx [])) [] Hb (fun i => if i = 0 then upd (sgl dx (.own p)) p (.ins C dx []) else emp) := by
  have L := lc_args (N := N) e r
  have hx : Ex H0 (upd (upd H0 dx (.own p)) p (.ins C dx [])) := fun a o q => by
    rw [upd_ne (ne_of_none q hp), upd_ne (ne_of_none q hdx)]; exact q
  have es : L2.start (nm :: N) (.ref p :: vs) = some (V.ref p) :: L2.start N vs := by
    unfold L2.start
    simp
  rw [es]
  have ownz : ∀ {i : Nat} {φ : Ow}, (Sl.own (oI K p C dx [] []) :: argsD K N.length bs)[i]? = some (.own φ) → i = 0 ∧ φ = oI K p C dx [] [] := fun {i φ} h => by
    cases i with
    | zero => simp at h; exact ⟨rfl, h.symm⟩
    | succ i => exact (args_own (by simpa using h)).elim
  have fz : ∀ a, upd (sgl dx (.own p)) p (.ins C dx []) a ≠ none → a = p ∨ a = dx := fun a h => by
    by_cases z : a = p
    · exact .inl z
    · rw [upd_ne z] at h; exact .inr (sgl_at h)
  refine { eH := hx, eB := Ex.refl _, bH := e.trans hx, ap := fun a h _ => h, len := by simp [L.len], dat := fun i d h => ?_, own := fun i φ h => ?_, dis := fun i j φ ψ n h1 h2 => ?_, mon := fun i φ h => ?_, gH := Rk.refl H0, bor := fun i φ h => ?_, tmp := fun _ hp => nomatch hp }
  · cases i with
    | zero => simp at h
    | succ i =>
      obtain ⟨v, a, b⟩ := L.dat i d (by simpa using h)
      exact ⟨v, by simpa using a, b⟩
  · obtain ⟨rfl, rfl⟩ := ownz h
    rw [if_pos rfl]
    refine ⟨⟨.ref p, rfl, [], rfl, hne, rfl, rfl, RpA.nil⟩, fun a o q => ?_, fun a ha => ?_⟩
    · by_cases z : a = p
      · subst z; rw [upd_same] at q ⊢; exact q
      · rw [upd_ne z] at q ⊢
        by_cases y : a = dx
        · subst y; rw [sgl_same] at q; rw [upd_same]; exact q
        · rw [sgl_ne y] at q; cases q
    · rcases fz a ha with rfl | rfl
      · exact ⟨e.none hp, hp⟩
      · exact ⟨e.none hdx, hdx⟩
  · exact absurd ((ownz h1).1.trans (ownz h2).1.symm) n
  · obtain ⟨rfl, rfl⟩ := ownz h
    exact mon_oI
  · cases i with
    | zero => simp at h
    | succ i =>
      obtain ⟨⟨v, a, b⟩, m⟩ := L.bor i φ (by simpa using h)
      exact ⟨⟨v, by simpa using a, b⟩, m⟩
theorem fnI {P : Program} {w : World} {mg : Str → Option Value} {base : Heap} {nm qual : Str} {st : Stmt} {f : Addr} {fd : FuncData} {self : Str} {N ps : List Str} {k : Nat} (F : FunA K nm qual st f fd) (sc : FnScope (self :: N) (self :: ps) (defScope st))
    (len : ∀ ds o, S ds o → ds.length = ps.length)
    (hbody : ∀ (cdv : Value) (A : Around) (outer : List Env) (s : Shared) (H : Hp) (Ex' : XK), Room k (A.deeper (envOfC qual (defScope st) s.heap.objs.size f cdv)) →
      ∃ t, PSs (cxOf (L2.CX P w) P w K mg base (self :: N) qual (defScope st) f cdv A outer s H Ex') (defBody st) t ∧ ∀ ds o, S ds o → ∀ p dx, SD K (fun cls d _ H => Ex' cls d H) t (endsI K p C dx o) (.own (oI K p C dx [] []) :: argsD K N.length ds)) :
    FnOk P w K mg base (L2.CX P w) (k + 1) f fd (self :: ps) (spI K C S) := by
  refine F.okX sc (fun vs H Q Ex' h => ?_) fun cdv A outer s H vs Q Ex' hr h => ?_
  · obtain ⟨p, dx, vs', H0, Hb, ds, o, rfl, _, _, _, _, _, r, hS, _⟩ := h
    rw [List.length_cons, List.length_cons, ← r.len, len ds o hS]
  · obtain ⟨p, dx, vs', H0, Hb, ds, o, rfl, hne, rfl, hp, hdx, e, r, hS, kk⟩ := h
    obtain ⟨t, ht, hd⟩ := hbody cdv A outer s _ Ex' hr
    refine ⟨t, ht, ?_⟩
    have fin : ∀ {δ : List Sl} {σ : L2.St} {H2 : Hp} {ts : List Tm}, Lc K ⟨H0, Hb, H0⟩ δ σ H2 ts → (∃ fs ds, δ[0]? = some (.own (oI K p C dx fs ds)) ∧ o = .ok fs ds) → Q .non H2 := fun {δ σ H2 ts} L ⟨fs, ds', h0, ho⟩ => by
      subst ho
      obtain ⟨Hb2, F2, L⟩ := L
      obtain ⟨⟨v, _, us, _, _, hF, hl, rr⟩, fH, fa⟩ := L.own 0 _ h0
      have hp2 : F2 0 p = some (.ins C dx (fs.zip us)) := by rw [hF, upd_same]
      have hd2 : F2 0 dx = some (.own p) := by rw [hF, upd_ne (Ne.symm hne), sgl_same]
      exact kk H2 ⟨Hb2, us, L.eH, L.eB, L.bH, L.ap, fH p _ hp2, fH dx _ hd2, (fa p (by rw [hp2]; exact fun z => nomatch z)).1, (fa dx (by rw [hd2]; exact fun z => nomatch z)).1, hl, rr⟩
    refine hd ds o hS p dx ⟨H0, Hb, H0⟩ _ _ [] ⟨Hb, _, lc_argsI (nm := self) (N := N) hne hp hdx e r⟩ _ ⟨fun δ σ H2 q L => fin L q, fun r δ σ H2 v q L => ?_, fun _ _ _ q => q.elim, fun _ _ _ q => q.elim, fun x δ σ H2 cls d q X => ?_⟩
    · obtain ⟨rfl, q⟩ := q
      obtain ⟨Hb2, F2, L⟩ := (show Lc K _ δ σ H2 _ from L)
      have hv : v = .non := L.tmp (rp K v .non) (by simp)
      subst hv
      exact fin ⟨Hb2, F2, L⟩ q
    · subst q
      exact kk _ _ _ (xc_of (A := ⟨H0, Hb, H0⟩) X)
/-- self.f = e, a new field of an instance that is being made -/
theorem putF_new {f : Str} {v : V} : ∀ {fs : List Str} {vs : List V}, fs.length = vs.length → f ∉ fs → putF f v (fs.zip vs) = (fs ++ [f]).zip (vs ++ [v])
  | [], [], _, _ => rfl
  | [], _ :: _, h, _ => by simp at h
  | _ :: _, [], h, _ => by simp at h
  | q :: fs, w :: vs, h, n => by
    have h1 : ¬ q = f := fun z => n (by simp [z])
    show (if q = f then (q, v) :: fs.zip vs else (q, w) :: putF f v (fs.zip vs)) = _
    rw [if_neg h1, putF_new (by simpa using h) (fun z => n (by simp [z]))]
    rfl
theorem sd_fld {f : Str} {fs : List Str} (hi : δ[i]? = some (.own (oI K p C dx fs ds))) (cl : Cls K C) (na : NoAttr K C f) (hf : f ∉ fs) (hl : fs.length < 900) (hv : EvD K tv δ d) (h : E.nx (δ.set i (.own (oI K p C dx (fs ++ [f]) (ds ++ [d]))))) : SD K W (sFld K (tVar i) tv f) E δ := fun A σ H ts L T c =>
  hv A σ H ts L _ fun v H1 L1 => by
    obtain ⟨Hb, F, L2⟩ := L1
    obtain ⟨⟨u, hu, us, rfl, hne, hF, hlen, rr⟩, fH, fa⟩ := L2.own i _ hi
    have hp2 : F i p = some (.ins C dx (fs.zip us)) := by rw [hF, upd_same]
    have rv : Rp K Hb d v := L2.tmp (rp K v d) (by simp)
    refine ⟨.ref p, hu, p, C, dx, _, rfl, fH p _ hp2, cl, na, by rw [List.length_zip, ← hlen, Nat.min_self]; omega, c.nx _ σ _ h ?_⟩
    rw [putF_new hlen hf]
    refine (L2.temps (ts' := ts) fun p hp => L2.tmp p (by simp [hp])).chg hi (F' := upd (sgl dx (.own p)) p (.ins C dx ((fs ++ [f]).zip (us ++ [v])))) (fun a o e q => ?_) (fun a o e => ?_) (fun a ha => ?_) hu ⟨us ++ [v], rfl, hne, rfl, by simp [hlen], rr.app (RpA.one rv)⟩ mon_oI
    · have : a ≠ p := fun z => by subst z; rw [hp2] at q; cases q
      rw [upd_ne this]; exact e
    · by_cases q : a = p
      · subst q; rw [upd_same] at e ⊢; exact e
      · rw [upd_ne q] at e ⊢
        exact fH a o (by rw [hF, upd_ne q]; exact e)
    · refine .inl ?_
      rw [hF]
      by_cases q : a = p
      · subst q; rw [upd_same]; exact fun z => nomatch z
      · rw [upd_ne q] at ha ⊢; exact ha
/-- o.f of data -/
theorem lookup_rp {Hb : Hp} {f : Str} : ∀ {fs : List Str} {ds : List D} {vs : List V}, fs.length = vs.length → RpA K Hb ds vs → (fs.zip ds).lookup f = some d → ∃ v, (fs.zip vs).lookup f = some v ∧ Rp K Hb d v
  | [], ds, vs, _, _, h => by simp at h
  | q :: fs, [], vs, hl, r, h => by simp at h
  | q :: fs, e :: ds, vs, hl, r, h => by
    obtain ⟨w, t, rfl, rv, rt⟩ := RpA.consV r
    simp only [List.zip_cons_cons, List.lookup] at h ⊢
    cases z : (f == q) with
    | true => rw [z] at h; cases h; exact ⟨w, rfl, rv⟩
    | false => rw [z] at h; exact lookup_rp (by simpa using hl) rt h
theorem ev_fld {f : Str} {fs : List Str} (h : EvD K te δ (.ins C fs ds)) (cl : Cls K C) (na : NoAttr K C f) (hf : (fs.zip ds).lookup f = some d) : EvD K (tFld K te f) δ d := fun A σ H ts L Q q => h A σ H ts L _ fun v H2 L2 => by
  obtain ⟨Hb, F, L2⟩ := L2
  have hv : Rp K Hb (.ins C fs ds) v := L2.tmp (rp K v (.ins C fs ds)) (by simp)
  unfold Rp at hv
  obtain ⟨a, dx, vs, rfl, ha, hl, rr⟩ := hv
  obtain ⟨u, hu, ru⟩ := lookup_rp hl rr hf
  exact ⟨a, C, dx, _, u, rfl, L2.bH _ _ ha, cl, na, hu, q u H2 ⟨Hb, F, L2.temps fun p hp => (List.mem_cons.mp hp).elim (fun z => by rw [z]; exact ru) fun hp => L2.tmp p (by simp [hp])⟩⟩
/-- o.f of an instance of one's own -/
theorem ev_fldO {f : Str} {fs : List Str} (hi : δ[i]? = some (.own (oI K p C dx fs ds))) (cl : Cls K C) (na : NoAttr K C f) (hf : (fs.zip ds).lookup f = some d) : EvD K (tFld K (tVar i) f) δ d := fun A σ H ts L Q q => by
  obtain ⟨Hb, F, L2⟩ := L
  obtain ⟨⟨u, hu, us, rfl, hne, hF, hlen, rr⟩, fH, fa⟩ := L2.own i _ hi
  obtain ⟨w, hw, rw'⟩ := lookup_rp hlen rr hf
  exact ⟨.ref p, hu, p, C, dx, _, w, rfl, fH p _ (by rw [hF, upd_same]), cl, na, hw, q w H ⟨Hb, F, L2.temps fun p hp => (List.mem_cons.mp hp).elim (fun z => by rw [z]; exact rw') (L2.tmp p)⟩⟩
/-! ### making an instance -/
def tMkS (C : Addr) (sp : Sp) (dv : List V) (E : L2.St → XK) (t : TA) : TE := fun σ H Q => t σ H fun vs H1 => ∀ x dx, H1 x = none → H1 dx = none → dx ≠ x → sp (.ref x :: (vs ++ dv)) (upd (upd H1 dx (.own x)) x (.ins C dx [])) (fun v H2 => v = .non ∧ Q (.ref x) H2) (E σ)
/-- values that stand for data in every heap: what is left out -/
theorem RpBA.appB {Hb G : Hp} : ∀ {bs cs : List Bw} {vs us : List V}, RpBA K Hb G bs vs → RpBA K Hb G cs us → RpBA K Hb G (bs ++ cs) (vs ++ us)
  | [], cs, vs, us, h, h' => by unfold RpBA at h; subst h; exact h'
  | d :: ds, cs, vs, us, h, h' => by
    unfold RpBA at h
    obtain ⟨v, t, rfl, p, q⟩ := h
    exact RpBA.cons p (RpBA.appB q h')
def DefsB (K : PySem.W.Frag) (cs : List Bw) (dv : List V) : Prop := ∀ Hb G, RpBA K Hb G cs dv
theorem defs0 : DefsB K [] [] := fun _ _ => RpBA.nil
theorem defsI {i : Int} {cs : List Bw} {dv : List V} (h : DefsB K cs dv) : DefsB K (.dat (.int i) :: cs) (.int i :: dv) := fun Hb G => RpBA.cons (by unfold RpB Rp; rfl) (h Hb G)
theorem ev_make {fs : List Str} {ds' : List D} {cs : List Bw} {dv : List V} (h : EvC K ta δ bs) (hd : DefsB K cs dv) (hS : S (bs ++ cs) (.ok fs ds')) : EvD K (tMkS C (spI K C S) dv (WE W) ta) δ (.ins C fs ds') := fun A σ H ts L Q q => h.rpa L _ fun vs H2 Hb F L2 r y dy hy hdy hne => by
  refine ⟨y, dy, vs ++ dv, H2, Hb, bs ++ cs, _, rfl, Ne.symm hne, rfl, hy, hdy, L2.bH, r.appB (hd _ _), hS, fun H3 ⟨Hb3, us, e1, e2, e3, ap, h1, h2, n1, n2, hl, rr⟩ => ⟨rfl, ?_⟩⟩
  have eb : Ex Hb3 (upd Hb3 y (.ins C dy (fs.zip us))) := Ex.new n1
  refine q _ H3 ⟨upd Hb3 y (.ins C dy (fs.zip us)), F, L2.back e1 (e2.trans eb) (fun a o e => ?_) (fun a q1 q2 => ?_) fun p hp => ?_⟩
  · by_cases z : a = y
    · subst z; rw [upd_same] at e; rw [← e]; exact h1
    · rw [upd_ne z] at e; exact e3 a o e
  · have z : a ≠ y := fun z => q2 (by rw [z]; exact hy)
    rw [upd_ne z]; exact ap a q1 q2
  · rcases List.mem_cons.mp hp with rfl | hp
    · show Rp K _ _ _
      unfold Rp
      exact ⟨y, dy, us, rfl, upd_same, hl, RpA.mono eb.rl _ _ rr⟩
    · exact p.m _ _ (e2.trans eb).rl (L2.tmp p hp)
theorem ex_make {cs : List Bw} {dv : List V} (h : EvC K ta δ bs) (hd : DefsB K cs dv) (hS : S (bs ++ cs) (.exc x)) : EvX K W (tMkS C (spI K C S) dv (WE W) ta) δ x := fun A σ H ts L q Q => h.rpa L _ fun vs H2 Hb F L2 r y dy hy hdy hne => by
  refine ⟨y, dy, vs ++ dv, H2, Hb, bs ++ cs, _, rfl, Ne.symm hne, rfl, hy, hdy, L2.bH, r.appB (hd _ _), hS, fun cls d H3 ⟨Hb3, dd, us, e1, e2, e3, ap, h1, h2, h3, h4, h5, h6, h7⟩ => q cls d H3 ⟨Hb3, F, dd, us, L2.back e1 e2 e3 ap fun p hp => p.m _ _ e2.rl (L2.tmp p hp), h1, h2, h3, h4, h5, L2.eH.none h6, h7, fun i φ h => (L2.own i φ h).2.1.none h6⟩⟩
/-! ### methods, instances called -/
def tMeS (C : Addr) (m : Str) (sp : Sp) (E : L2.St → XK) (to : TE) (t : TA) : TE := fun σ H Q => to σ H fun x H1 => ∃ a dx fs, x = .ref a ∧ H1 a = some (.ins C dx fs) ∧ fs.lookup m = none ∧ t σ H1 fun vs H2 => sp (x :: vs) H2 Q (E σ)
def tCaO (C : Addr) (sp : Sp) (E : L2.St → XK) (to : TE) (t : TA) : TE := fun σ H Q => to σ H fun x H1 => ∃ a, x = .ref a ∧ t σ H1 fun vs H2 => (∃ dx fs, H2 a = some (.ins C dx fs)) ∧ sp (x :: vs) H2 Q (E σ)
section
variable {R : List Bw → Out → Prop} {es : List Bw} {fs : List Str}
theorem lookup_none_zip {f : Str} : ∀ {fs : List Str} {vs : List V}, f ∉ fs → (fs.zip vs).lookup f = none
  | [], vs, _ => by simp
  | q :: fs, [], _ => by simp
  | q :: fs, v :: vs, h => by
    have z : (f == q) = false := by
      simp only [beq_eq_false_iff_ne, ne_eq]
      exact fun e => h (by simp [e])
    simp only [List.zip_cons_cons, List.lookup, z]
    exact lookup_none_zip fun e => h (by simp [e])
theorem me_core {A : Act} {σ : L2.St} {H : Hp} {ts : List Tm} {m : Str} {to : TE} {sp : Sp} {Ex' : L2.St → XK} {Q : VK} (ho : EvD K to δ (.ins C fs ds)) (h : EvC K ta δ es) (hm : m ∉ fs) (L : Lc K A δ σ H ts)
    (k : ∀ v vs H2 Hb F, LcS K A δ σ H2 ts Hb F → RpBA K Hb H2 (.dat (.ins C fs ds) :: es) (v :: vs) → sp (v :: vs) H2 Q (Ex' σ)) : tMeS C m sp Ex' to ta σ H Q := ho A σ H ts L _ fun v H1 L1 => by
  obtain ⟨Hb, F, L2⟩ := id L1
  have hv : Rp K Hb (.ins C fs ds) v := L2.tmp (rp K v (.ins C fs ds)) (by simp)
  unfold Rp at hv
  obtain ⟨a, dy, vs, rfl, ha, hl, rr⟩ := hv
  refine ⟨a, dy, _, rfl, L2.bH _ _ ha, lookup_none_zip hm, h.rpa L1 _ fun us H2 Hb2 F2 L3 r3 => k _ us H2 Hb2 F2 (L3.temps fun p hp => L3.tmp p (by simp [hp])) (RpBA.cons (by unfold RpB; exact L3.tmp (rp K (.ref a) (.ins C fs ds)) (by simp)) r3)⟩
theorem ev_meth {m : Str} {to : TE} (ho : EvD K to δ (.ins C fs ds)) (h : EvC K ta δ es) (hm : m ∉ fs) (hS : R (.dat (.ins C fs ds) :: es) (.ret (.dat d))) : EvD K (tMeS C m (spR K R) (WE W) to ta) δ d := fun A σ H ts L Q q => me_core ho h hm L fun v vs H2 Hb F L2 r => call_dat L2 r hS q
theorem en_meth {m : Str} {to : TE} {φ : Ow} (ho : EvD K to δ (.ins C fs ds)) (h : EvC K ta δ es) (hm : m ∉ fs) (hS : R (.dat (.ins C fs ds) :: es) (.ret (.own φ))) : EvN K (tMeS C m (spR K R) (WE W) to ta) δ φ := fun A σ H ts L Q q => me_core ho h hm L fun v vs H2 Hb F L2 r => call_own L2 r hS q
theorem ex_meth {m : Str} {to : TE} (ho : EvD K to δ (.ins C fs ds)) (h : EvC K ta δ es) (hm : m ∉ fs) (hS : R (.dat (.ins C fs ds) :: es) (.exc x)) : EvX K W (tMeS C m (spR K R) (WE W) to ta) δ x := fun A σ H ts L q Q => me_core ho h hm L fun v vs H2 Hb F L2 r => call_exc L2 r hS q
theorem co_core {A : Act} {σ : L2.St} {H : Hp} {ts : List Tm} {to : TE} {sp : Sp} {Ex' : L2.St → XK} {Q : VK} (ho : EvD K to δ (.ins C fs ds)) (h : EvC K ta δ es) (L : Lc K A δ σ H ts)
    (k : ∀ v vs H2 Hb F, LcS K A δ σ H2 ts Hb F → RpBA K Hb H2 (.dat (.ins C fs ds) :: es) (v :: vs) → sp (v :: vs) H2 Q (Ex' σ)) : tCaO C sp Ex' to ta σ H Q := ho A σ H ts L _ fun v H1 L1 => by
  obtain ⟨Hb, F, L2⟩ := id L1
  have hv : Rp K Hb (.ins C fs ds) v := L2.tmp (rp K v (.ins C fs ds)) (by simp)
  unfold Rp at hv
  obtain ⟨a, dy, vs, rfl, ha, hl, rr⟩ := hv
  refine ⟨a, rfl, h.rpa L1 _ fun us H2 Hb2 F2 L3 r3 => ?_⟩
  have hv3 : Rp K Hb2 (.ins C fs ds) (.ref a) := L3.tmp (rp K (.ref a) (.ins C fs ds)) (by simp)
  refine ⟨?_, k _ us H2 Hb2 F2 (L3.temps fun p hp => L3.tmp p (by simp [hp])) (RpBA.cons (by unfold RpB; exact hv3) r3)⟩
  unfold Rp at hv3
  obtain ⟨a', dy', vs', ea, ha', _⟩ := hv3
  cases ea
  exact ⟨_, _, L3.bH _ _ ha'⟩
theorem ev_callO {to : TE} (ho : EvD K to δ (.ins C fs ds)) (h : EvC K ta δ es) (hS : R (.dat (.ins C fs ds) :: es) (.ret (.dat d))) : EvD K (tCaO C (spR K R) (WE W) to ta) δ d := fun A σ H ts L Q q => co_core ho h L fun v vs H2 Hb F L2 r => call_dat L2 r hS q
theorem en_callO {to : TE} {φ : Ow} (ho : EvD K to δ (.ins C fs ds)) (h : EvC K ta δ es) (hS : R (.dat (.ins C fs ds) :: es) (.ret (.own φ))) : EvN K (tCaO C (spR K R) (WE W) to ta) δ φ := fun A σ H ts L Q q => co_core ho h L fun v vs H2 Hb F L2 r => call_own L2 r hS q
theorem ex_callO {to : TE} (ho : EvD K to δ (.ins C fs ds)) (h : EvC K ta δ es) (hS : R (.dat (.ins C fs ds) :: es) (.exc x)) : EvX K W (tCaO C (spR K R) (WE W) to ta) δ x := fun A σ H ts L q Q => co_core ho h L fun v vs H2 Hb F L2 r => call_exc L2 r hS q
end
end
/-! ### their texts -/
structure Mak (P : Program) (w : World) (K : PySem.W.Frag) (mg : Str → Option Value) (base : Heap) (x : Str) (C : Addr) (ps : List Str) (ds : List Value) (k : Nat) (sp : Sp) : Prop where
  ex : ∃ f fd, FnOk P w K mg base (L2.CX P w) k f fd ps sp ∧ Mk K C f ∧ mg x = some (.ref C) ∧ Binds K fd ps ds
structure CalM (P : Program) (w : World) (K : PySem.W.Frag) (mg : Str → Option Value) (base : Heap) (C : Addr) (m : Str) (ps : List Str) (k : Nat) (sp : Sp) : Prop where
  ex : ∃ f fd, FnOk P w K mg base (L2.CX P w) k f fd ps sp ∧ Cls K C ∧ Meth K C m f ∧ Binds K fd ps []
structure CalO (P : Program) (w : World) (K : PySem.W.Frag) (mg : Str → Option Value) (base : Heap) (C : Addr) (ps : List Str) (k : Nat) (sp : Sp) : Prop where
  ex : ∃ f fd, FnOk P w K mg base (L2.CX P w) k f fd ps sp ∧ StX.CallO K C f ∧ Binds K fd ps []
section
variable {X : Cx} {x m : Str} {C : Addr} {ps : List Str} {k j : Nat} {sp : Sp} {W : WX} {e o : Expr} {es : List Expr} {t : TA} {to : TE} {p pos apos : Pos}
theorem pe_mak {ds : List Value} {dv : List V} (M : Mak X.prog X.w X.K X.mg X.base x C ps ds k sp) (hd : Vals dv ds) (hr : Room j X.A) (hk : k + 1 ≤ j) (tk : Takes X W) (ha : PA X (e :: es) t) (hg : Gl X x := by rfl) (hdb : (x == ("__debug__" : Str)) = false := by decide)
    (hs1 : starEach (e :: es) X.env = (false, eval e X.env) :: starEach es X.env := by rfl) (hs2 : (backTo pos (starEach es X.env)).any (·.1) = false := by rfl) : PE X (.Call (.Name x p) (e :: es) [] pos) (tMkS C sp dv (WE W) t) := by
  obtain ⟨f, fd, F, M, hm, hb⟩ := M.ex
  have hr := hr.mono hk
  refine ⟨fun pins s σ H Q I h => ?_⟩
  refine wpAny_Call_Name_kw (ld_glob I hg hm ?_ hdb)
  refine PySem.W.callWith_K (h₀ := X.base) I.ok.mod.kin M.kp (thn (ha.run pos pins s σ H _ I h) fun us s1 ⟨vs, H1, I1, r, q⟩ => ⟨I1.kIn, ?_⟩) hs1 hs2
  have hq := q (s1.heap.objs.size + 1) s1.heap.objs.size (I1.hok.fresh (Nat.le_succ _)) (I1.hok.fresh (Nat.le_refl _)) (Nat.ne_of_lt (Nat.lt_succ_self _))
  have I2 := Inv.made (C := C) I1
  have r2 : Vals (V.ref (s1.heap.objs.size + 1) :: (vs ++ dv)) (Value.ref (s1.heap.objs.size + 1) :: (us ++ ds)) := .cons rfl (r.append hd)
  have hl : (Value.ref (s1.heap.objs.size + 1) :: us ++ ds).length = ps.length := by
    have e := r2.length
    rw [F.len _ _ _ _ hq] at e
    exact e.symm
  refine wpAny_call (make_map (f := f) I1.kIn M.makes M.init (beq_iff_eq.mp M.fn) (codeAny_mono (F.run _ X.stack _ _ ⟨Value.ref (s1.heap.objs.size + 1) :: us, []⟩ (Value.ref (s1.heap.objs.size + 1) :: (us ++ ds)) _ _ (WE W σ) (hr.make C us []) (I2.env0.make C us []) (hb _ (Value.ref (s1.heap.objs.size + 1) :: us) I2.kIn hl) r2 hq) fun z s' hq' => ?_))
  cases z with
  | error er => exact passAt tk σ pins _ _ er s' I2 hq'
  | ok fl =>
    cases fl with
    | ret u =>
      obtain ⟨v, H', I3, rv, ev, q3⟩ := I2.after hq'
      subst ev
      exact ⟨rv, ⟨V.ref (s1.heap.objs.size + 1), H', I3, rfl, q3⟩⟩
    | next => exact False.elim hq'
    | brk => exact False.elim hq'
    | cont => exact False.elim hq'
theorem pe_mth {pl : Sem Bool} (M : CalM X.prog X.w X.K X.mg X.base C m ps k sp) (hr : Room j X.A) (hk : k ≤ j) (tk : Takes X W) (ho : PE X o to) (ha : PA X (e :: es) t)
    (hs1 : starEach (e :: es) X.env = (false, eval e X.env) :: starEach es X.env := by rfl) (hs2 : (backTo pos (starEach es X.env)).any (·.1) = false := by rfl)
    (ht : eval (.Call (.Attribute o m apos) (e :: es) [] pos) X.env = (do
      let ov ← eval o X.env
      standAt apos.atName
      let (g, first) ← holding [ov] (getMethod ov m pl)
      callWith pos g first (backTo pos (starEach (e :: es) X.env)) (backToKw pos (keywordEach [] X.env))) := by rfl) : PE X (.Call (.Attribute o m apos) (e :: es) [] pos) (tMeS C m sp (WE W) to t) := by
  obtain ⟨f, fd, F, c, hm, hb⟩ := M.ex
  refine ⟨fun pins s σ H Q I h => ?_⟩
  refine PySem.W.methodCall_KW (pl := pl) (thn (ho.run pins s σ H _ I h) fun u s1 ⟨y, H1, I1, ry, a, dx, fs, ey, ea, l, q⟩ => ?_) ht
  subst ey
  obtain rfl : u = Value.ref a := ry
  refine getmeth_ok I1 ea c hm l ?_
  refine PySem.W.callWith_K (first := [.ref a]) (h₀ := X.base) I.ok.mod.kin hm.kp (thn (ha.run pos pins s1 σ H1 _ I1 q) fun us s2 ⟨vs, H2, I2, r, q2⟩ => ⟨I2.kIn, ?_⟩) hs1 hs2
  exact run_fnS (us := .ref a :: us) (vs := .ref a :: vs) F (hr.mono hk) hb (passAt tk σ) I2 (.cons rfl r) q2
theorem pe_mth0 {pl : Sem Bool} (M : CalM X.prog X.w X.K X.mg X.base C m ps k sp) (hr : Room j X.A) (hk : k ≤ j) (tk : Takes X W) (ho : PE X o to)
    (ht : eval (.Call (.Attribute o m apos) [] [] pos) X.env = (do
      let ov ← eval o X.env
      standAt apos.atName
      let (g, first) ← holding [ov] (getMethod ov m pl)
      callWith pos g first (backTo pos (starEach [] X.env)) (backToKw pos (keywordEach [] X.env))) := by rfl) : PE X (.Call (.Attribute o m apos) [] [] pos) (tMeS C m sp (WE W) to tNil) := by
  obtain ⟨f, fd, F, c, hm, hb⟩ := M.ex
  refine ⟨fun pins s σ H Q I h => ?_⟩
  refine PySem.W.methodCall_KW (pl := pl) (thn (ho.run pins s σ H _ I h) fun u s1 ⟨y, H1, I1, ry, a, dx, fs, ey, ea, l, q⟩ => ?_) ht
  subst ey
  obtain rfl : u = Value.ref a := ry
  refine getmeth_ok I1 ea c hm l ?_
  exact PySem.W.callWith_K0 (first := [.ref a]) I1.kIn hm.kp (run_fnS (us := [.ref a]) (vs := [.ref a]) F (hr.mono hk) hb (passAt tk σ) I1 (.cons rfl .nil) q)
theorem pe_clo (M : CalO X.prog X.w X.K X.mg X.base C ps k sp) (hr : Room j X.A) (hk : k ≤ j) (tk : Takes X W) (ho : PE X o to) (ha : PA X (e :: es) t)
    (ht : eval (.Call o (e :: es) [] pos) X.env = (do callWith pos (← eval o X.env) [] (backTo pos (starEach (e :: es) X.env)) (backToKw pos (keywordEach [] X.env))) := by rfl)
    (hs1 : starEach (e :: es) X.env = (false, eval e X.env) :: starEach es X.env := by rfl) (hs2 : (backTo pos (starEach es X.env)).any (·.1) = false := by rfl) : PE X (.Call o (e :: es) [] pos) (tCaO C sp (WE W) to t) := by
  obtain ⟨f, fd, F, c, hb⟩ := M.ex
  have hr := hr.mono hk
  refine ⟨fun pins s σ H Q I h => ?_⟩
  refine Call_ (thn (ho.run pins s σ H _ I h) fun u s1 ⟨y, H1, I1, ry, a, ey, q⟩ => ?_) ht
  subst ey
  obtain rfl : u = Value.ref a := ry
  refine StX.callO_with (thn (ha.run pos pins s1 σ H1 _ I1 q) fun us s2 ⟨vs, H2, I2, r, ⟨dx, fs, hi⟩, q2⟩ => ?_) hs1 hs2
  obtain ⟨ox, od, J, hd⟩ := StX.insC_at (X := X) I2 (.inr ⟨dx, fs, hi⟩)
  refine ⟨⟨C, ox, od, J, hd⟩, ?_⟩
  have r2 : Vals (V.ref a :: vs) (Value.ref a :: us) := .cons rfl r
  have hl : (Value.ref a :: us).length = ps.length := by rw [← r2.length]; exact F.len _ _ _ _ q2
  have b := hb s2 (Value.ref a :: us) I2.kIn (by rw [List.append_nil]; exact hl)
  rw [List.append_nil] at b
  refine wpAny_call (PySem.W.kco_code I2.kIn J hd c.at_ c.fn c.fi (codeAny_mono (F.run X.A X.stack s2 H2 ⟨Value.ref a :: us, []⟩ (Value.ref a :: us) (V.ref a :: vs) Q (WE W σ) hr I2.env0 b r2 q2) fun z s' hq => ?_))
  cases z with
  | error er => exact passAt tk σ pins H2 s2 er s' I2 hq
  | ok fl =>
    cases fl with
    | ret u => exact I2.after hq
    | next => exact False.elim hq
    | brk => exact False.elim hq
    | cont => exact False.elim hq
end
end DL

namespace DL
open PySem L2 PyProof.Rows
section
variable {K : PySem.W.Frag} {W : WX} {E : DE} {δ δ' : List Sl} {ta tb te to ti : TE} {tar : TA} {d x y : D} {ds es : List D} {i : Nat} {b : Bool}
/-! ### isinstance -/
def tyD : D → Option String
  | .non => some "NoneType" | .bl _ => some "bool" | .int _ => some "int" | .str _ => some "str" | .lst _ => some "list" | .tup _ => some "tuple" | .dic _ _ => some "dict" | _ => none
theorem tyD_ok {Hb H : Hp} {v : V} {n : String} (e : Ex Hb H) (h : tyD d = some n) (r : Rp K Hb d v) : TyX K H v (.type n) := by
  cases d <;> simp [tyD] at h <;> subst h
  · cases (show v = .non from r); exact .base .non
  · cases (Rp.blV r); exact .base (.bl _)
  · cases (Rp.intV r); exact .base (.int _)
  · cases (Rp.strV r); exact .base (.str _)
  · unfold Rp at r
    obtain ⟨a, vs, rfl, s, _⟩ := r
    rcases s with (s | ⟨o, s⟩) | ⟨o, its, n, h1, h2, _⟩
    · exact .base (.lst (e _ _ s))
    · exact .base (.frz (e _ _ s))
    · exact .kList h1 h2
  · unfold Rp at r
    obtain ⟨a, vs, rfl, s, _⟩ := r
    rcases s with (s | ⟨o, s⟩) | ⟨o, its, n, h1, h2, _⟩
    · exact .base (.tup (e _ _ s))
    · exact .fTuple (e _ _ s)
    · exact .kTuple h1 h2
  · unfold Rp at r
    obtain ⟨a, vs, rfl, s, _⟩ := r
    rcases s with s | ⟨o, s⟩
    · exact .base (.dK (e _ _ s))
    · exact .fDict (e _ _ s)
theorem ev_isi {n m : String} (h : EvA K tar δ [d, .ty m]) (h1 : tyD d = some n) (h2 : kitB n m = some b) : EvD K (tCB (rIsi K) tar) δ (.bl b) := ev_cb h fun Hb H vs Q e r q => by
  obtain ⟨v, t, rfl, hv, ht⟩ := RpA.consV r
  obtain ⟨u, t2, rfl, hu, ht2⟩ := RpA.consV ht
  cases (RpA.nilV ht2)
  cases (show u = .ty m from hu)
  exact ⟨v, .ty m, .type n, .type m, b, rfl, .ty m, tyD_ok e h1 hv, kit_ty h2, q _ (by unfold Rp; rfl)⟩
/-! ### == at any depth -/
mutual
def toPy : D → PyData
  | .non => .none | .bl b => .bool b | .int i => .int i | .str x => .str x
  | .lst xs => .list (toPyA xs) | .tup xs => .tuple (toPyA xs)
  | .ref _ => .none | .ty _ => .none | .dic _ _ => .none | .dct _ _ => .none | .ins _ _ _ => .none | .exc _ _ _ _ _ => .none
def toPyA : List D → List PyData
  | [] => []
  | d :: ds => toPy d :: toPyA ds
end
mutual
def pyOk : D → Bool
  | .non => true | .bl b => true | .int i => true | .str x => PyData.strOk x
  | .lst xs => pyOkA xs | .tup xs => pyOkA xs
  | .ref _ => false | .ty _ => false | .dic _ _ => false | .dct _ _ => false | .ins _ _ _ => false | .exc _ _ _ _ _ => false
def pyOkA : List D → Bool
  | [] => true
  | d :: ds => pyOk d && pyOkA ds
end
mutual
theorem dp_of {H : Hp} : ∀ (d : D) (v : V), pyOk d = true → Rp K H d v → Dp K H v (toPy d)
  | .non, v, _, r => by cases (show v = .non from r); unfold toPy; exact .non
  | .bl b, v, _, r => by cases (Rp.blV r); unfold toPy; exact .bl b
  | .int b, v, _, r => by cases (Rp.intV r); unfold toPy; exact .int b
  | .str b, v, _, r => by cases (Rp.strV r); unfold toPy; exact .str b
  | .lst xs, v, h, r => by
    unfold Rp at r; unfold toPy
    obtain ⟨a, vs, rfl, s, q⟩ := r
    exact .lst s (dp_ofA xs vs (by unfold pyOk at h; exact h) q)
  | .tup xs, v, h, r => by
    unfold Rp at r; unfold toPy
    obtain ⟨a, vs, rfl, s, q⟩ := r
    exact .tup s (dp_ofA xs vs (by unfold pyOk at h; exact h) q)
  | .ref _, v, h, r => by simp [pyOk] at h
  | .ty _, v, h, r => by simp [pyOk] at h
  | .dic _ _, v, h, r => by simp [pyOk] at h
  | .dct _ _, v, h, r => by simp [pyOk] at h
  | .ins _ _ _, v, h, r => by simp [pyOk] at h
  | .exc _ _ _ _ _, v, h, r => by simp [pyOk] at h
theorem dp_ofA {H : Hp} : ∀ (ds : List D) (vs : List V), pyOkA ds = true → RpA K H ds vs → DpAll K H vs (toPyA ds)
  | [], vs, _, r => by rw [RpA.nilV r]; unfold toPyA; exact .nil
  | d :: ds, vs, h, r => by
    obtain ⟨v, t, rfl, rv, rt⟩ := RpA.consV r
    unfold pyOkA at h
    rw [Bool.and_eq_true] at h
    unfold toPyA
    exact .cons (dp_of d v h.1 rv) (dp_ofA ds t h.2 rt)
end
mutual
theorem lay_of : ∀ d : D, pyOk d = true → (toPy d).canLay0 = true
  | .non, _ => by unfold toPy; rfl
  | .bl _, _ => by unfold toPy; rfl
  | .int _, _ => by unfold toPy; rfl
  | .str x, h => by unfold pyOk at h; unfold toPy PyData.canLay0; exact h
  | .lst xs, h => by unfold pyOk at h; unfold toPy PyData.canLay0; exact lay_ofA xs h
  | .tup xs, h => by unfold pyOk at h; unfold toPy PyData.canLay0; exact lay_ofA xs h
  | .ref _, h => by simp [pyOk] at h
  | .ty _, h => by simp [pyOk] at h
  | .dic _ _, h => by simp [pyOk] at h
  | .dct _ _, h => by simp [pyOk] at h
  | .ins _ _ _, h => by simp [pyOk] at h
  | .exc _ _ _ _ _, h => by simp [pyOk] at h
theorem lay_ofA : ∀ ds : List D, pyOkA ds = true → PyData.canLayAll0 (toPyA ds) = true
  | [], _ => by unfold toPyA; rfl
  | d :: ds, h => by
    unfold pyOkA at h
    rw [Bool.and_eq_true] at h
    unfold toPyA PyData.canLayAll0
    rw [lay_of d h.1, lay_ofA ds h.2]; rfl
end
mutual
def dep : D → Nat
  | .lst xs => depA xs + 1 | .tup xs => depA xs + 1
  | .non => 0 | .bl _ => 0 | .int _ => 0 | .str _ => 0 | .ref _ => 0 | .ty _ => 0 | .dic _ _ => 0 | .dct _ _ => 0 | .ins _ _ _ => 0 | .exc _ _ _ _ _ => 0
def depA : List D → Nat
  | [] => 0
  | d :: ds => max (dep d) (depA ds)
end
mutual
theorem dep_of : ∀ d : D, (toPy d).depth = dep d
  | .non => by unfold toPy dep; rfl
  | .bl _ => by unfold toPy dep; rfl
  | .int _ => by unfold toPy dep; rfl
  | .str x => by unfold toPy dep; rfl
  | .lst xs => by unfold toPy dep PyData.depth; rw [dep_ofA xs]
  | .tup xs => by unfold toPy dep PyData.depth; rw [dep_ofA xs]
  | .ref _ => by unfold toPy dep; rfl
  | .ty _ => by unfold toPy dep; rfl
  | .dic _ _ => by unfold toPy dep; rfl
  | .dct _ _ => by unfold toPy dep; rfl
  | .ins _ _ _ => by unfold toPy dep; rfl
  | .exc _ _ _ _ _ => by unfold toPy dep; rfl
theorem dep_ofA : ∀ ds : List D, PyData.depthAll (toPyA ds) = depA ds
  | [] => by unfold toPyA depA; rfl
  | d :: ds => by unfold toPyA depA PyData.depthAll; rw [dep_of d, dep_ofA ds]
end
theorem shaped_of (h : pyOk d = true) (hd : dep d ≤ 64) : SeqAt.shaped (toPy d) = true := by
  unfold SeqAt.shaped
  rw [lay_of d h, Bool.true_and, dep_of]
  exact decide_eq_true hd
theorem ev_eqD (ha : EvD K ta δ x) (hb : EvD K tb δ y) (hx : pyOk x = true) (hy : pyOk y = true) (dx : dep x ≤ 64) (dy : dep y ≤ 64) : EvD K (tOp (rEQ K) ta tb) δ (.bl (PyData.eqv (toPy x) (toPy y))) := ev_op2 ha hb (Op2.inr fun Hb H v u Q e hv hu q =>
  ⟨toPy x, toPy y, dp_of x v hx (Rp.mono e.rl _ _ hv), dp_of y u hy (Rp.mono e.rl _ _ hu), shaped_of hx dx, shaped_of hy dy, q _ fun _ => by unfold Rp; rfl⟩)
theorem ev_neD (ha : EvD K ta δ x) (hb : EvD K tb δ y) (hx : pyOk x = true) (hy : pyOk y = true) (dx : dep x ≤ 64) (dy : dep y ≤ 64) : EvD K (tOp (rNE K) ta tb) δ (.bl (!PyData.eqv (toPy x) (toPy y))) := ev_op2 ha hb (Op2.inr fun Hb H v u Q e hv hu q =>
  ⟨toPy x, toPy y, dp_of x v hx (Rp.mono e.rl _ _ hv), dp_of y u hy (Rp.mono e.rl _ _ hu), shaped_of hx dx, shaped_of hy dy, q _ fun _ => by unfold Rp; rfl⟩)
/-- the same data on both sides -/
theorem ev_eqT (ha : EvD K ta δ x) (hb : EvD K tb δ x) (hx : pyOk x = true) (dx : dep x ≤ 64) : EvD K (tOp (rEQ K) ta tb) δ (.bl true) := by
  have h := ev_eqD ha hb hx hx dx dx
  rw [SeqAt.eqv_refl _ (lay_of x hx)] at h
  exact h
theorem ev_neF (ha : EvD K ta δ x) (hb : EvD K tb δ x) (hx : pyOk x = true) (dx : dep x ≤ 64) : EvD K (tOp (rNE K) ta tb) δ (.bl false) := by
  have h := ev_neD ha hb hx hx dx dx
  rw [SeqAt.eqv_refl _ (lay_of x hx)] at h
  exact h
/-! ### list(..), tuple(..), slices -/
theorem en_list {tar : TA} (h : EvA K tar δ [x]) (hx : x = .lst ds ∨ x = .tup ds) : EvN K (tCB (fun xs H Q => ∃ p ys, xs = [.ref p] ∧ (SqL K H p ys ∨ SqT K H p ys) ∧ ∀ l, H l = none → Q (.ref l) (upd H l (.lst ys))) tar) δ (oL K ds) := fun A σ H ts L Q q => h.rpa L _ fun vs H2 Hb F L2 r => by
  obtain ⟨v, t, rfl, hv, ht⟩ := RpA.consV r
  cases (RpA.nilV ht)
  rcases hx with rfl | rfl <;> unfold Rp at hv <;> obtain ⟨a, us, rfl, s, rr⟩ := hv
  · exact ⟨a, us, rfl, .inl (L2.bH.rl.l s), fun l hl => q _ _ (L2.made hl ⟨l, us, rfl, rfl, rr⟩)⟩
  · exact ⟨a, us, rfl, .inr (L2.bH.rl.t s), fun l hl => q _ _ (L2.made hl ⟨l, us, rfl, rfl, rr⟩)⟩
/-- .. of a list of one's own -/
theorem en_listO (hi : δ[i]? = some (.own (oL K ds))) : EvN K (tCB (fun xs H Q => ∃ p ys, xs = [.ref p] ∧ (SqL K H p ys ∨ SqT K H p ys) ∧ ∀ l, H l = none → Q (.ref l) (upd H l (.lst ys))) (tCons (tVar i) tNil)) δ (oL K ds) := fun A σ H ts L Q q => by
  obtain ⟨Hb, F, L2⟩ := L
  obtain ⟨⟨u, hu, p, us, rfl, f0, r0⟩, fH0, _⟩ := L2.own i _ hi
  exact ⟨.ref p, hu, p, us, rfl, .inl (.inl (.inl (fH0 p _ (by rw [f0, sgl_same])))), fun l hl => q _ _ (L2.made hl ⟨l, us, rfl, rfl, r0⟩)⟩
theorem ev_tuple {tar : TA} (h : EvA K tar δ [x]) (hx : x = .lst ds ∨ x = .tup ds) : EvD K (tCB (fun xs H Q => ∃ p ys, xs = [.ref p] ∧ ((SqL K H p ys ∧ ∀ l, H l = none → Q (.ref l) (upd H l (.tup ys))) ∨ (SqT K H p ys ∧ Q (.ref p) H))) tar) δ (.tup ds) := fun A σ H ts L Q q => h.rpa L _ fun vs H2 Hb F L2 r => by
  obtain ⟨v, t, rfl, hv, ht⟩ := RpA.consV r
  cases (RpA.nilV ht)
  rcases hx with rfl | rfl
  · unfold Rp at hv
    obtain ⟨a, us, rfl, s, rr⟩ := hv
    refine ⟨a, us, rfl, .inl ⟨L2.bH.rl.l s, fun l hl => q _ _ ⟨_, F, L2.laid hl fun z hz => ?_⟩⟩⟩
    have hb : Hb l = none := L2.bH.none hl
    rcases List.mem_cons.mp hz with rfl | hz
    · show Rp K _ _ _
      unfold Rp; exact ⟨l, us, rfl, .inl (.inl upd_same), RpA.mono (Ex.new hb).rl _ _ rr⟩
    · exact z.m _ _ (Ex.new hb).rl (L2.tmp z hz)
  · have hv' := hv
    unfold Rp at hv
    obtain ⟨a, us, rfl, s, rr⟩ := hv
    exact ⟨a, us, rfl, .inr ⟨L2.bH.rl.t s, q _ _ ⟨Hb, F, L2.temps fun p hp => (List.mem_cons.mp hp).elim (fun z => by rw [z]; exact hv') (L2.tmp p)⟩⟩⟩
/-- a slice's end -/
def EvO (K : PySem.W.Frag) (to : TO) (δ : List Sl) (o : Option Int) : Prop := ∀ A σ H ts, Lc K A δ σ H ts → ∀ Q : Option Int → Hp → Prop, (∀ H2, Lc K A δ σ H2 ts → Q o H2) → to σ H Q
theorem eo_none : EvO K tNoPart δ none := fun A σ H ts L Q q => q H L
theorem eo_some {n : Int} (h : EvD K te δ (.int n)) : EvO K (tPart te) δ (some n) := fun A σ H ts L Q q => h A σ H ts L _ fun v H2 L2 => by
  obtain ⟨Hb, F, L2⟩ := L2
  have hv : v = .int n := L2.tmp (rp K v (.int n)) (by simp)
  exact ⟨n, hv, q H2 ⟨Hb, F, L2.temps fun p hp => L2.tmp p (by simp [hp])⟩⟩
def cutD (xs : List D) (lo hi : Option Int) : List D := (xs.drop (HT.sIx xs.length 0 lo)).take (HT.sIx xs.length xs.length hi - HT.sIx xs.length 0 lo)
theorem cut_rp {Hb : Hp} {vs : List V} {lo hi : Option Int} (r : RpA K Hb ds vs) : RpA K Hb (cutD ds lo hi) (cutV vs lo hi) := by
  unfold cutD cutV
  rw [r.len]
  exact (r.drop _).take _
theorem en_slL {tl th : TO} {lo hi : Option Int} (h : EvD K te δ (.lst ds)) (h1 : EvO K tl δ lo) (h2 : EvO K th δ hi) : EvN K (tSl (rSlL K) te tl th) δ (oL K (cutD ds lo hi)) := fun A σ H ts L Q q => h A σ H ts L _ fun v H1 L1 => h1 A σ H1 _ L1 _ fun H2 L2 => h2 A σ H2 _ L2 _ fun H3 L3 => by
  obtain ⟨Hb, F, L3⟩ := L3
  have hv : Rp K Hb (.lst ds) v := L3.tmp (rp K v (.lst ds)) (by simp)
  unfold Rp at hv
  obtain ⟨a, vs, rfl, s, r⟩ := hv
  exact ⟨a, vs, rfl, L3.bH.rl.l s, fun p hp => q _ _ ((L3.temps (ts' := ts) fun p hp => L3.tmp p (by simp [hp])).made hp ⟨p, _, rfl, rfl, cut_rp r⟩)⟩
/-! ### texts joined -/
theorem rpa_strs {Hb : Hp} : ∀ {xs : List Str} {vs : List V}, RpA K Hb (xs.map D.str) vs → vs = xs.map V.str
  | [], vs, r => RpA.nilV r
  | n :: ns, vs, r => by
    obtain ⟨v, t, rfl, p, q⟩ := RpA.consV (show RpA K Hb (.str n :: ns.map D.str) vs from r)
    rw [rpa_strs q, Rp.strV p]; rfl
theorem ev_joinO {s : Str} {xs : List Str} (ho : EvD K to δ (.str s)) (hi : δ[i]? = some (.own (oL K (xs.map D.str)))) (hz : (xs.map (·.length)).sum + xs.length * s.length ≤ 16777216) : EvD K (tM1 (fun x xs H Q => ∃ a p, ∃ ys : List Str, x = .str a ∧ xs = [.ref p] ∧ (SqL K H p (ys.map V.str) ∨ SqT K H p (ys.map V.str)) ∧
      (ys.map (·.length)).sum + ys.length * a.length ≤ 16777216 ∧ Q (.str (Txt.join a ys)) H) to (tVar i)) δ (.str (Txt.join s xs)) := fun A σ H ts L Q q => ho A σ H ts L _ fun v H1 L1 => by
  obtain ⟨Hb, F, L2⟩ := L1
  have hv : v = .str s := L2.tmp (rp K v (.str s)) (by simp)
  obtain ⟨⟨u, hu, p, us, rfl, f0, r0⟩, fH0, _⟩ := L2.own i _ hi
  have e := rpa_strs r0
  subst e
  refine ⟨⟨s, hv⟩, .ref p, hu, s, p, xs, hv, rfl, .inl (.inl (.inl (fH0 p _ (by rw [f0, sgl_same])))), hz, q _ H1 ⟨Hb, F, L2.temps fun p hp => (List.mem_cons.mp hp).elim (fun z => by rw [z]; show Rp K Hb _ _; unfold Rp; rfl) fun hp => L2.tmp p (by simp [hp])⟩⟩
/-- x[i] = e, x a list of one's own -/
theorem sd_setL {n : Int} {j : Nat} (hi : δ[i]? = some (.own (oL K ds))) (he : EvD K te δ d) (hn : EvD K ti δ (.int n)) (hj : ixN ds.length n = some j) (h : E.nx (δ.set i (.own (oL K (ds.set j d))))) : SD K W (tAsg te (gSub (tVar i) ti rSetL)) E δ := fun A σ H ts L T c =>
  he A σ H ts L _ fun v H1 L1 => by
    obtain ⟨Hb0, F0, L0⟩ := id L1
    obtain ⟨⟨u, hu, p, us, rfl, f0, r0⟩, fH0, _⟩ := L0.own i _ hi
    refine ⟨.ref p, hu, hn A σ H1 _ L1 _ fun w H2 L2 => ?_⟩
    obtain ⟨Hb, F, L2⟩ := L2
    obtain ⟨⟨u2, hu2, p2, vs, rfl, f2, r2⟩, fH2, ap2⟩ := L2.own i _ hi
    have ep : p2 = p := by rw [hu] at hu2; cases hu2; rfl
    subst ep
    have hp : H2 p2 = some (.lst vs) := fH2 p2 _ (by rw [f2, sgl_same])
    have hv : Rp K Hb d v := L2.tmp (rp K v d) (by simp)
    have hw : w = .int n := L2.tmp (rp K w (.int n)) (by simp)
    refine ⟨p2, vs, n, j, rfl, hw, hp, by rw [← r2.len]; exact hj, c.nx _ σ _ h ?_⟩
    refine (L2.temps (ts' := ts) fun p hp => L2.tmp p (by simp [hp])).chg hi (F' := sgl p2 (.lst (vs.set j v))) (fun a o e q => ?_) (fun a o e => ?_) (fun a ha => ?_) hu ⟨p2, _, rfl, rfl, r2.set j hv⟩ mon_oL
    · have : a ≠ p2 := fun z => by subst z; rw [f2, sgl_same] at q; cases q
      rw [upd_ne this]; exact e
    · by_cases q : a = p2
      · subst q; rw [sgl_same] at e; rw [upd_same]; exact e
      · rw [sgl_ne q] at e; cases e
    · obtain rfl := sgl_at ha
      exact .inl (by rw [f2, sgl_same]; exact fun z => nomatch z)
/-! ### truth, unpacking, x += e -/
theorem et_truB (h : EvD K te δ (.bl b)) : EvT K (tTru K te) δ b := fun A σ H ts L Q q => h A σ H ts L _ fun v H2 L2 => by
  obtain ⟨Hb, F, L2⟩ := L2
  have hv : v = .bl b := L2.tmp (rp K v (.bl b)) (by simp)
  subst hv
  exact ⟨b, rfl, q H2 ⟨Hb, F, L2.temps fun p hp => L2.tmp p (by simp [hp])⟩⟩
theorem ev_neg {n : Int} (h : EvD K te δ (.int n)) : EvD K (tUn (rU fun i => .int (-i)) te) δ (.int (-n)) := fun A σ H ts L Q q => h A σ H ts L _ fun v H2 L2 => by
  obtain ⟨Hb, F, L2⟩ := L2
  have hv : v = .int n := L2.tmp (rp K v (.int n)) (by simp)
  exact ⟨n, hv, q _ H2 ⟨Hb, F, L2.temps fun p hp => (List.mem_cons.mp hp).elim (fun z => by rw [z]; show Rp K Hb _ _; unfold Rp; rfl) fun hp => L2.tmp p (by simp [hp])⟩⟩
theorem et_yes : EvT K tYes δ true := fun A σ H ts L Q q => q H L
theorem tg_tup2 {j : Nat} {a c : D} : TgD K (gTup K 2 (gCons (gName i) (gCons (gName j) gNil))) (.tup [a, c]) δ ((δ.set i (.dat a)).set j (.dat c)) := fun A σ H ts v L Q q => by
  obtain ⟨Hb, F, L⟩ := L
  have hv : Rp K Hb (.tup [a, c]) v := L.tmp (rp K v (.tup [a, c])) (by simp)
  unfold Rp at hv
  obtain ⟨p, vs, rfl, s, r⟩ := hv
  obtain ⟨v1, t1, rfl, r1, q1⟩ := RpA.consV r
  obtain ⟨v2, t2, rfl, r2, q2⟩ := RpA.consV q1
  cases (RpA.nilV q2)
  refine ⟨p, _, rfl, L.bH.rl.t s, rfl, v1, _, rfl, v2, _, rfl, rfl, q _ H ?_⟩
  refine Lc.set (d := c) (Lc.set (d := a) (ts := rp K v2 c :: ts) ⟨Hb, F, L.temps fun z hz => ?_⟩ i) j
  rcases List.mem_cons.mp hz with rfl | hz
  · exact r1
  · rcases List.mem_cons.mp hz with rfl | hz
    · exact r2
    · exact L.tmp z (by simp [hz])
theorem sd_aug {f : Int → Int → Int} {m n : Int} (hi : δ[i]? = some (.dat (.int m))) (he : EvD K te δ (.int n)) (h : E.nx (δ.set i (.dat (.int (f m n))))) : SD K W (tAug i te (ipI f)) E δ := fun A σ H ts L T c => by
  obtain ⟨Hb, F, L1⟩ := id L
  obtain ⟨v, hv, r⟩ := L1.dat i _ hi
  cases (Rp.intV r)
  refine ⟨_, hv, he A σ H ts L _ fun u H2 L2 => ?_⟩
  obtain ⟨Hb2, F2, L2⟩ := L2
  have hu : u = .int n := L2.tmp (rp K u (.int n)) (by simp)
  exact ⟨m, n, rfl, hu, c.nx _ _ _ h (Lc.set (d := .int (f m n)) ⟨Hb2, F2, L2.temps fun z hz => (List.mem_cons.mp hz).elim (fun y => by rw [y]; show Rp K Hb2 _ _; unfold Rp; rfl) fun hz => L2.tmp z (by simp [hz])⟩ i)⟩
end
end DL

namespace DL
open PySem L2 PyProof.Rows
/-! ### what is only read, read -/
mutual
def bwD : Bw → D
  | .dat d => d
  | .lst xs => .lst (bwDA xs)
  | .dic ks xs => .dic ks (bwDA xs)
def bwDA : List Bw → List D
  | [] => []
  | b :: bs => bwD b :: bwDA bs
end
theorem bwDA_dat : ∀ ds : List D, bwDA (ds.map .dat) = ds
  | [] => rfl
  | d :: ds => by show bwDA (.dat d :: ds.map .dat) = _; unfold bwDA bwD; rw [bwDA_dat ds]
theorem bwDA_len : ∀ xs : List Bw, (bwDA xs).length = xs.length
  | [] => rfl
  | d :: ds => by unfold bwDA; simp [bwDA_len ds]
theorem bwDA_map : ∀ xs : List Bw, bwDA xs = xs.map bwD
  | [] => rfl
  | d :: ds => by unfold bwDA; simp [bwDA_map ds]
section
variable {K : PySem.W.Frag} {W : WX} {E : DE} {δ δ' : List Sl} {ta tb te to ti : TE} {tar : TA} {d z : D} {x y b : Bw} {ds es : List D} {xs bs : List Bw} {i : Nat} {ks : List Key}
mutual
theorem rp_bw {Hb H : Hp} (e : Ex Hb H) : ∀ (b : Bw) (v : V), RpB K Hb H b v → Rp K H (bwD b) v
  | .dat d, v, h => by unfold RpB at h; unfold bwD; exact Rp.mono e.rl _ _ h
  | .lst xs, v, h => by
    unfold RpB at h; unfold bwD Rp
    obtain ⟨a, vs, q, s, r⟩ := h
    exact ⟨a, vs, q, s, rpa_bw e xs vs r⟩
  | .dic ks xs, v, h => by
    unfold RpB at h; unfold bwD Rp
    obtain ⟨a, vs, q, s, l, r⟩ := h
    exact ⟨a, vs, q, s, l, rpa_bw e xs vs r⟩
theorem rpa_bw {Hb H : Hp} (e : Ex Hb H) : ∀ (b : List Bw) (v : List V), RpBA K Hb H b v → RpA K H (bwDA b) v
  | [], vs, h => by unfold RpBA at h; subst h; exact RpA.nil
  | b :: bs, vs, h => by
    unfold RpBA at h; unfold bwDA
    obtain ⟨v, t, rfl, p, q⟩ := h
    exact RpA.cons (rp_bw e b v p) (rpa_bw e bs t q)
end
/-- data that need no heap -/
def flat : D → Bool
  | .non => true | .bl _ => true | .int _ => true | .str _ => true | .ref _ => true | .ty _ => true | _ => false
theorem flat_rp {H H' : Hp} {v : V} (h : flat z = true) (r : Rp K H z v) : Rp K H' z v := by
  cases z <;> first | exact r | (simp [flat] at h; done)
theorem ev_op2B {r : R2} (ha : EvB K ta δ x) (hb : EvB K tb δ y) (hr : Op2 K r (bwD x) (bwD y) z) : EvD K (tOp r ta tb) δ z := fun A σ H ts L Q q =>
  ha A σ H ts L _ fun v H1 t1 L1 l1 => hb A σ H1 _ L1 _ fun u H2 t2 L2 l2 => by
    obtain ⟨Hb, F, L2⟩ := L2
    have hv := rp_bw L2.bH _ _ (l1 H2 Hb F _ L2 (L2.tmp t1 (by simp)))
    have hu := rp_bw L2.bH _ _ (l2 H2 Hb F _ L2 (L2.tmp t2 (by simp)))
    exact hr H2 H2 v u Q (Ex.refl _) hv hu fun w hw => q w H2 ⟨Hb, F, L2.temps fun p hp => (List.mem_cons.mp hp).elim (fun z => by rw [z]; exact hw Hb) fun hp => L2.tmp p (by simp [hp])⟩
/-- .. the answer stands in the shared heap -/
theorem ev_op2rB {r : R2} (ha : EvB K ta δ x) (hb : EvB K tb δ y) (hr : ∀ Hb H v u (Q : VK), Ex Hb H → RpB K Hb H x v → RpB K Hb H y u → (∀ w, Rp K Hb z w → Q w H) → r v u H Q) : EvD K (tOp r ta tb) δ z := fun A σ H ts L Q q =>
  ha A σ H ts L _ fun v H1 t1 L1 l1 => hb A σ H1 _ L1 _ fun u H2 t2 L2 l2 => by
    obtain ⟨Hb, F, L2⟩ := L2
    exact hr Hb H2 v u Q L2.bH (l1 H2 Hb F _ L2 (L2.tmp t1 (by simp))) (l2 H2 Hb F _ L2 (L2.tmp t2 (by simp))) fun w hw => q w H2 ⟨Hb, F, L2.temps fun p hp => (List.mem_cons.mp hp).elim (fun z => by rw [z]; exact hw) fun hp => L2.tmp p (by simp [hp])⟩
theorem ev_cbB {r : List V → Hp → VK → Prop} (h : EvC K tar δ bs) (hr : OpN K r (bwDA bs) z) (hf : flat z = true) : EvD K (tCB r tar) δ z := fun A σ H ts L Q q => h.rpa L _ fun vs H2 Hb F L2 rr =>
  hr H2 H2 vs Q (Ex.refl _) (rpa_bw L2.bH _ _ rr) fun w hw => q w H2 ⟨Hb, F, L2.temps fun p hp => (List.mem_cons.mp hp).elim (fun z => by rw [z]; exact flat_rp hf hw) (L2.tmp p)⟩
theorem ev_lenBL (h : EvC K tar δ [.lst xs]) : EvD K (tCB (rLEN K) tar) δ (.int xs.length) := ev_cbB h (fun Hb H vs Q e r q => by
  obtain ⟨v, t, rfl, hv, ht⟩ := RpA.consV r
  cases (RpA.nilV ht)
  unfold bwD Rp at hv
  obtain ⟨a, us, rfl, s, rr⟩ := hv
  exact .inl ⟨_, xs.length, rfl, .inl ⟨us, e.rl.l s, by rw [← rr.len, bwDA_len]⟩, q _ (by unfold Rp; rfl)⟩) rfl
theorem ev_lenBD (h : EvC K tar δ [.dic ks xs]) : EvD K (tCB (rLEN K) tar) δ (.int ks.length) := ev_cbB h (fun Hb H vs Q e r q => by
  obtain ⟨v, t, rfl, hv, ht⟩ := RpA.consV r
  cases (RpA.nilV ht)
  unfold bwD Rp at hv
  obtain ⟨a, us, rfl, s, hl, rr⟩ := hv
  refine .inr ⟨a, _, rfl, e.rl.k s, q _ ?_⟩
  rw [List.length_zip, ← hl, Nat.min_self]
  unfold Rp; rfl) rfl
theorem ev_isiB {n m : String} {c : Bool} (h : EvC K tar δ [x, .dat (.ty m)]) (h1 : tyD (bwD x) = some n) (h2 : kitB n m = some c) : EvD K (tCB (rIsi K) tar) δ (.bl c) := ev_cbB h (fun Hb H vs Q e r q => by
  obtain ⟨v, t, rfl, hv, ht⟩ := RpA.consV r
  obtain ⟨u, t2, rfl, hu, ht2⟩ := RpA.consV ht
  cases (RpA.nilV ht2)
  cases (show u = .ty m from hu)
  exact ⟨v, .ty m, .type n, .type m, c, rfl, .ty m, tyD_ok e h1 hv, kit_ty h2, q _ (by unfold Rp; rfl)⟩) rfl
theorem o_eqD {x y : D} (hx : pyOk x = true) (hy : pyOk y = true) (dx : dep x ≤ 64) (dy : dep y ≤ 64) : Op2 K (rEQ K) x y (.bl (PyData.eqv (toPy x) (toPy y))) := Op2.inr fun Hb H v u Q e hv hu q =>
  ⟨toPy x, toPy y, dp_of x v hx (Rp.mono e.rl _ _ hv), dp_of y u hy (Rp.mono e.rl _ _ hu), shaped_of hx dx, shaped_of hy dy, q _ fun _ => by unfold Rp; rfl⟩
theorem o_neD {x y : D} (hx : pyOk x = true) (hy : pyOk y = true) (dx : dep x ≤ 64) (dy : dep y ≤ 64) : Op2 K (rNE K) x y (.bl (!PyData.eqv (toPy x) (toPy y))) := Op2.inr fun Hb H v u Q e hv hu q =>
  ⟨toPy x, toPy y, dp_of x v hx (Rp.mono e.rl _ _ hv), dp_of y u hy (Rp.mono e.rl _ _ hu), shaped_of hx dx, shaped_of hy dy, q _ fun _ => by unfold Rp; rfl⟩
theorem ev_eqB (ha : EvB K ta δ x) (hb : EvB K tb δ y) (he : bwD x = bwD y) (hx : pyOk (bwD x) = true) (dx : dep (bwD x) ≤ 64) : EvD K (tOp (rEQ K) ta tb) δ (.bl true) := by
  have h := ev_op2B ha hb (o_eqD hx (he ▸ hx) dx (he ▸ dx))
  rw [← he, SeqAt.eqv_refl _ (lay_of _ hx)] at h
  exact h
theorem ev_neB (ha : EvB K ta δ x) (hb : EvB K tb δ y) (he : bwD x = bwD y) (hx : pyOk (bwD x) = true) (dx : dep (bwD x) ≤ 64) : EvD K (tOp (rNE K) ta tb) δ (.bl false) := by
  have h := ev_op2B ha hb (o_neD hx (he ▸ hx) dx (he ▸ dx))
  rw [← he, SeqAt.eqv_refl _ (lay_of _ hx)] at h
  exact h
theorem RpBA.atB {Hb H : Hp} {vs : List V} {n : Int} (r : RpBA K Hb H xs vs) (h : atI xs n = some b) : ∃ v, atI vs n = some v ∧ RpB K Hb H b v := by
  unfold atI at h ⊢
  rw [← r.len]
  cases q : ixN xs.length n with
  | none => rw [q] at h; cases h
  | some j =>
    rw [q, Option.bind_some] at h
    rw [Option.bind_some]
    exact r.get h
theorem ev_ixBL {n : Int} (ha : EvB K ta δ (.lst xs)) (hb : EvD K tb δ (.int n)) (h : atI xs n = some (.dat d)) : EvD K (tOp (rIX K) ta tb) δ d := ev_op2rB ha (eb_dat hb) fun Hb H v u Q e hv hu q => by
  unfold RpB at hv hu
  obtain ⟨a, vs, ev, s, r⟩ := hv
  obtain ⟨w, hw, rw'⟩ := r.atB h
  unfold RpB at rw'
  exact .inl ⟨a, vs, n, w, ev, hu, s, hw, q w rw'⟩
def dgetB (ks : List Key) (xs : List Bw) (k : Key) : Option Bw := ((ks.zip xs).find? fun kv => decide (kv.1 = k)).map (·.2)
theorem dgetB_rp {Hb H : Hp} {k : Key} : ∀ {ks : List Key} {xs : List Bw} {vs : List V}, ks.length = vs.length → RpBA K Hb H xs vs → (∀ b, dgetB ks xs k = some b → ∃ v, valV (ks.zip vs) k = some v ∧ RpB K Hb H b v)
  | [], xs, vs, _, _ => fun d h => by simp [dgetB] at h
  | q :: ks, [], vs, hl, r => by unfold RpBA at r; rw [r] at hl; simp at hl
  | q :: ks, e :: xs, vs, hl, r => by
    unfold RpBA at r
    obtain ⟨v, t, rfl, rv, rt⟩ := r
    have ih := dgetB_rp (k := k) (ks := ks) (by simpa using hl) rt
    unfold dgetB valV at ih ⊢
    simp only [List.zip_cons_cons, List.find?_cons]
    by_cases z : q = k
    · simp only [z, decide_true, Option.map_some]
      intro d h
      cases h
      exact ⟨v, rfl, rv⟩
    · simp only [z, decide_false]
      exact ih
theorem ev_ixBD {k : Key} (ha : EvB K ta δ (.dic ks xs)) (hb : EvD K tb δ (kD k)) (h : dgetB ks xs k = some (.dat d)) : EvD K (tOp (rIX K) ta tb) δ d := ev_op2rB ha (eb_dat hb) fun Hb H v u Q e hv hu q => by
  unfold RpB at hv hu
  obtain ⟨a, vs, rfl, s, hl, r⟩ := hv
  obtain ⟨w, hw, rw'⟩ := dgetB_rp hl r _ h
  unfold RpB at rw'
  exact .inr (.inr (.inr ⟨a, w, rfl, .inl ⟨_, k, s, kD_v hu, hw.symm⟩, q w rw'⟩))
theorem ev_inBD {k : Key} {neg : Bool} (ha : EvD K ta δ (kD k)) (hb : EvB K tb δ (.dic ks xs)) (hlen : ks.length = xs.length) : EvD K (tOp (rIN K neg) ta tb) δ (.bl (if neg then !decide (k ∈ ks) else decide (k ∈ ks))) := ev_op2B (eb_dat ha) hb (Op2.inr (Op2.inl fun Hb H v u Q e hv hu q => by
  unfold bwD Rp at hu
  unfold bwD at hv
  obtain ⟨a, vs, rfl, s, hl, r⟩ := hu
  refine ⟨a, valV (ks.zip vs) k, rfl, .inl ⟨_, k, e.rl.k s, kD_v hv, rfl⟩, q _ fun _ => ?_⟩
  rw [← (dget_rp (k := k) hl r).2, dget_some (by rw [bwDA_len]; exact hlen)]
  unfold Rp; rfl))
/-- list(e) -/
theorem en_listBL (h : EvC K tar δ [.lst (ds.map .dat)]) : EvN K (tCB (rLIST K) tar) δ (oL K ds) := fun A σ H ts L Q q => h.rpa L _ fun vs H2 Hb F L2 r => by
  unfold RpBA RpBA at r
  obtain ⟨v, t, rfl, hv, rfl⟩ := r
  unfold RpB at hv
  obtain ⟨a, us, rfl, s, rr⟩ := hv
  exact .inl ⟨a, us, rfl, .inl s, fun l hl => q _ _ (L2.made hl ⟨l, us, rfl, rfl, rpba_undat rr⟩)⟩
theorem en_listT (h : EvA K tar δ [.tup ds]) : EvN K (tCB (rLIST K) tar) δ (oL K ds) := fun A σ H ts L Q q => h.rpa L _ fun vs H2 Hb F L2 r => by
  obtain ⟨v, t, rfl, hv, ht⟩ := RpA.consV r
  cases (RpA.nilV ht)
  unfold Rp at hv
  obtain ⟨a, us, rfl, s, rr⟩ := hv
  exact .inl ⟨a, us, rfl, .inr (L2.bH.rl.t s), fun l hl => q _ _ (L2.made hl ⟨l, us, rfl, rfl, rr⟩)⟩
theorem keys_rp {Hb : Hp} : ∀ {ks : List Key} {vs : List V}, ks.length = vs.length → RpA K Hb (ks.map kD) ((ks.zip vs).map fun kv => kV kv.1)
  | [], vs, _ => RpA.nil
  | k :: ks, [], h => by simp at h
  | k :: ks, v :: vs, h => RpA.cons (kD_rp k) (keys_rp (by simpa using h))
theorem en_listBD (h : EvC K tar δ [.dic ks xs]) : EvN K (tCB (rLIST K) tar) δ (oL K (ks.map kD)) := fun A σ H ts L Q q => h.rpa L _ fun vs H2 Hb F L2 r => by
  unfold RpBA RpBA at r
  obtain ⟨v, t, rfl, hv, rfl⟩ := r
  unfold RpB at hv
  obtain ⟨a, us, rfl, s, hl, rr⟩ := hv
  exact .inr ⟨a, _, rfl, s, fun l hl' => q _ _ (L2.made hl' ⟨l, _, rfl, rfl, keys_rp hl⟩)⟩
/-! ### what the caller lent, read inside -/
def rpG (K : PySem.W.Frag) (G : Hp) (v : V) (b : Bw) : Tm := ⟨fun Hb => RpB K Hb G b v, fun _ _ r h => RpB.mono r (Rl.refl _) b v h⟩
def EvG (K : PySem.W.Frag) (te : TE) (δ : List Sl) (b : Bw) : Prop := ∀ A σ H ts, Lc K A δ σ H ts → ∀ Q : VK, (∀ v H2, Lc K A δ σ H2 (rpG K A.G v b :: ts) → Q v H2) → te σ H Q
theorem eg_var (h : δ[i]? = some (.bor (oB K b))) : EvG K (tVar i) δ b := fun A σ H ts L Q q => by
  obtain ⟨Hb, F, L⟩ := L
  obtain ⟨⟨v, hv, r⟩, m⟩ := L.bor i _ h
  exact ⟨v, hv, q v H ⟨Hb, F, L.temps fun p hp => (List.mem_cons.mp hp).elim (fun z => by rw [z]; exact r) (L.tmp p)⟩⟩
theorem eg_b (h : EvG K te δ b) : EvB K te δ b := fun A σ H ts L Q q => h A σ H ts L Q fun v H2 L2 => q v H2 _ L2 fun H3 Hb F us L3 p => RpB.mono (Rl.refl _) (L3.gH.ex L3.eH).rl b v p
theorem eg_ixL {n : Int} (ha : EvG K ta δ (.lst xs)) (hb : EvD K tb δ (.int n)) (h : atI xs n = some b) : EvG K (tOp (rIX K) ta tb) δ b := fun A σ H ts L Q q =>
  ha A σ H ts L _ fun v H1 L1 => hb A σ H1 _ L1 _ fun u H2 L2 => by
    obtain ⟨Hb, F, L2⟩ := L2
    have hv : RpB K Hb A.G (.lst xs) v := L2.tmp (rpG K A.G v (.lst xs)) (by simp)
    have hu : u = .int n := L2.tmp (rp K u (.int n)) (by simp)
    unfold RpB at hv
    obtain ⟨a, vs, ev, s, r⟩ := hv
    obtain ⟨w, hw, rw'⟩ := r.atB h
    exact .inl ⟨a, vs, n, w, ev, hu, (L2.gH.ex L2.eH).rl.l s, hw, q w H2 ⟨Hb, F, L2.temps fun p hp => (List.mem_cons.mp hp).elim (fun z => by rw [z]; exact rw') fun hp => L2.tmp p (by simp [hp])⟩⟩
theorem eg_ixD {k : Key} (ha : EvG K ta δ (.dic ks xs)) (hb : EvD K tb δ (kD k)) (h : dgetB ks xs k = some b) : EvG K (tOp (rIX K) ta tb) δ b := fun A σ H ts L Q q =>
  ha A σ H ts L _ fun v H1 L1 => hb A σ H1 _ L1 _ fun u H2 L2 => by
    obtain ⟨Hb, F, L2⟩ := L2
    have hv : RpB K Hb A.G (.dic ks xs) v := L2.tmp (rpG K A.G v (.dic ks xs)) (by simp)
    have hu : Rp K Hb (kD k) u := L2.tmp (rp K u (kD k)) (by simp)
    unfold RpB at hv
    obtain ⟨a, vs, rfl, s, hl, r⟩ := hv
    obtain ⟨w, hw, rw'⟩ := dgetB_rp hl r _ h
    exact .inr (.inr (.inr ⟨a, w, rfl, .inl ⟨_, k, (L2.gH.ex L2.eH).rl.k s, kD_v hu, hw.symm⟩, q w H2 ⟨Hb, F, L2.temps fun p hp => (List.mem_cons.mp hp).elim (fun z => by rw [z]; exact rw') fun hp => L2.tmp p (by simp [hp])⟩⟩))
end
end DL

namespace DL
open PySem L2 PyProof.Rows
section
variable {K : PySem.W.Frag} {W : WX} {E : DE} {δ δ' : List Sl} {ta tb te tk tv : TE} {tar : TA} {d z : D} {i : Nat} {ks : List Key}
/-! ### {k: v, ..} -/
inductive EvPs (K : PySem.W.Frag) (δ : List Sl) : List (TE × TE) → List Key → List D → Prop
  | nil : EvPs K δ [] [] []
  | cons {tk tv : TE} {r : List (TE × TE)} {k : Key} {d : D} {ks : List Key} {ds : List D} (hk : EvD K tk δ (kD k)) (hv : EvD K tv δ d) (hr : EvPs K δ r ks ds) : EvPs K δ ((tk, tv) :: r) (k :: ks) (d :: ds)
theorem EvPs.len {trs : List (TE × TE)} {ks : List Key} {ds : List D} (h : EvPs K δ trs ks ds) : ks.length = ds.length := by
  induction h with
  | nil => rfl
  | cons _ _ _ ih => simp [ih]
theorem EvPs.run {trs : List (TE × TE)} {ks : List Key} {ds : List D} (h : EvPs K δ trs ks ds) : ∀ {A σ H ts}, Lc K A δ σ H ts → ∀ Q : List (V × V) → Hp → Prop, (∀ vs H2 Hb F, LcS K A δ σ H2 ts Hb F → RpA K Hb ds vs → Q ((ks.zip vs).map fun kv => (kV kv.1, kv.2)) H2) → tPairs trs σ H Q := by
  induction h with
  | nil =>
    intro A σ H ts L Q q
    obtain ⟨Hb, F, L⟩ := L
    exact q [] H Hb F L RpA.nil
  | @cons tk tv r k d ks ds hk hv hr ih =>
    intro A σ H ts L Q q
    refine hk A σ H ts L _ fun x H1 L1 => hv A σ H1 _ L1 _ fun y H2 L2 => ih L2 _ fun vs H3 Hb F L3 rr => ?_
    have hx : x = kV k := kD_v (L3.tmp (rp K x (kD k)) (by simp))
    have hy : Rp K Hb d y := L3.tmp (rp K y d) (by simp)
    subst hx
    exact q (y :: vs) H3 Hb F (L3.temps fun p hp => L3.tmp p (by simp [hp])) (RpA.cons hy rr)
theorem putK_new {kvs : List (Key × V)} {k : Key} {v : V} (h : k ∉ kvs.map (·.1)) : putK kvs k v = kvs ++ [(k, v)] := by
  unfold putK
  rw [if_neg]
  intro z
  rw [List.any_eq_true] at z
  obtain ⟨x, hx, e⟩ := z
  exact h (List.mem_map.mpr ⟨x, hx, of_decide_eq_true e⟩)
theorem mergeK_app : ∀ {more kvs : List (Key × V)}, ((kvs ++ more).map (·.1)).Nodup → mergeK kvs more = kvs ++ more
  | [], kvs, _ => by show kvs = _; simp
  | p :: r, kvs, h => by
    show mergeK (putK kvs p.1 p.2) r = _
    have hn : p.1 ∉ kvs.map (·.1) := by
      rw [List.map_append, List.map_cons] at h
      exact fun z => (List.nodup_append.mp h).2.2 _ z _ (List.mem_cons_self ..) rfl
    rw [putK_new hn, mergeK_app (by simpa using h)]
    simp
theorem en_disp {trs : List (TE × TE)} {ds : List D} (h : EvPs K δ trs ks ds) (hn : ks.Nodup) (hl : ks.length ≤ 15) : EvN K (tDisp trs) δ (oD K ks ds) := fun A σ H ts L Q q P hP => by
  obtain ⟨Hb0, F0, L0⟩ := L
  have hAP : A.H P = none := L0.eH.none hP
  have hbP : Hb0 P = none := L0.bH.none hP
  have hBP : A.B P = none := L0.eB.none hbP
  have hfP : ∀ (i : Nat) φ, δ[i]? = some (.own φ) → F0 i P = none := fun i φ h => (L0.own i φ h).2.1.none hP
  have L1 := (L0.putP (o := .dK []) hAP hbP hfP).fin hAP upd_same hbP hfP
  refine h.run ⟨Hb0, F0, L1⟩ _ fun vs H2 Hb F L2 rr => ?_
  obtain ⟨L3, hP2, hb2, hf2⟩ := L2.fout L0.gH hAP hBP
  have hz : ks.length = vs.length := by rw [h.len]; exact rr.len
  refine ⟨hP2, ks.zip vs, rfl, by rw [List.length_zip, ← hz, Nat.min_self]; exact hl, ?_⟩
  have em : mergeK [] (ks.zip vs) = ks.zip vs := by
    rw [mergeK_app (kvs := []) (by rw [List.nil_append, List.map_fst_zip (by omega)]; exact hn)]; rfl
  rw [em]
  refine q _ _ ⟨Hb, F, sgl P (.dK (ks.zip vs)), L3.putP hAP hb2 hf2, ⟨P, vs, rfl, rfl, hz, rr⟩, fun a o e => ?_, fun a ha => ?_⟩
  · by_cases z : a = P
    · subst z; rw [sgl_same] at e; rw [upd_same, ← e]
    · rw [sgl_ne z] at e; cases e
  · obtain rfl := sgl_at ha
    exact ⟨hb2, hAP, hf2⟩
end
end DL

namespace DL
open PySem L2 PyProof.Rows
section
variable {K : PySem.W.Frag} {W : WX} {E : DE} {δ δ' : List Sl} {ta tb te ti tv : TE} {tar : TA} {t1 : TS} {d z : D} {i j : Nat} {ks : List Key} {ds : List D}
/-- a thing of one's own is changed; it may take in what nobody holds -/
theorem LcS.chg2 {A σ H ts Hb F φ ψ} (L : LcS K A δ σ H ts Hb F) (hi : δ[i]? = some (.own φ)) {H' F' : Hp} {v : V} (keep : ∀ a o, H a = some o → F i a = none → H' a = some o) (fe : Ex F' H')
    (fn : ∀ a, F' a ≠ none → F i a ≠ none ∨ (Hb a = none ∧ A.H a = none ∧ ∀ (k : Nat) (χ : Ow), k ≠ i → δ[k]? = some (.own χ) → F k a = none))
    (hv : σ[i]? = some (some v)) (hψ : ψ Hb v F') (m : Mon ψ) : Lc K A (δ.set i (.own ψ)) σ H' ts := by
  obtain ⟨⟨u, hu, hφ⟩, fH, ap⟩ := L.own i φ hi
  have hli : i < δ.length := (List.getElem?_eq_some_iff.mp hi).1
  have key : ∀ {j : Nat} {χ : Ow}, (δ.set i (.own ψ))[j]? = some (.own χ) → (j = i ∧ χ = ψ) ∨ (j ≠ i ∧ δ[j]? = some (.own χ)) := fun {j χ} h => by
    rw [List.getElem?_set] at h
    by_cases q : i = j
    · subst q
      rw [if_pos rfl, if_pos hli] at h; cases h; exact .inl ⟨rfl, rfl⟩
    · rw [if_neg q] at h; exact .inr ⟨fun z => q z.symm, h⟩
  have new : ∀ a, F' a ≠ none → Hb a = none ∧ A.H a = none := fun a ha => by
    rcases fn a ha with q | q
    · exact ap a q
    · exact ⟨q.1, q.2.1⟩
  have apart : ∀ a (k : Nat) (χ : Ow), k ≠ i → δ[k]? = some (.own χ) → F' a ≠ none → F k a = none := fun a k χ n h ha => by
    rcases fn a ha with q | q
    · exact L.dis i k φ χ (fun z => n z.symm) hi h a q
    · exact q.2.2 k χ n h
  refine ⟨Hb, fun j => if j = i then F' else F j, { eH := fun a o e => keep a o (L.eH a o e) ?_, eB := L.eB, bH := fun a o e => keep a o (L.bH a o e) ?_, ap := L.ap, len := by simp [L.len], dat := fun j e h => ?_, own := fun j χ h => ?_, dis := fun j k χ ρ n h1 h2 => ?_, mon := fun j χ h => ?_, gH := L.gH, bor := fun j φ h => L.bor j φ (bor_set (by intro _ z; cases z) h).1, tmp := L.tmp }⟩
  · exact Classical.byContradiction fun z => by rw [(ap a z).2] at e; cases e
  · exact Classical.byContradiction fun z => by rw [(ap a z).1] at e; cases e
  · rw [List.getElem?_set] at h
    by_cases q : i = j
    · rw [if_pos q] at h
      split at h <;> simp at h
    · rw [if_neg q] at h; exact L.dat j e h
  · rcases key h with ⟨rfl, rfl⟩ | ⟨n, h1⟩
    · rw [if_pos rfl]; exact ⟨⟨v, hv, hψ⟩, fe, new⟩
    · rw [if_neg n]
      obtain ⟨a, b, c⟩ := L.own j χ h1
      exact ⟨a, fun x o e => keep x o (b x o e) (L.dis j i χ φ n h1 hi x (by rw [e]; exact fun z => nomatch z)), c⟩
  · intro a ha
    rcases key h1 with ⟨rfl, rfl⟩ | ⟨n1, g1⟩
    · rcases key h2 with ⟨rfl, _⟩ | ⟨n2, g2⟩
      · exact absurd rfl n
      · rw [if_pos rfl] at ha
        rw [if_neg n2]
        exact apart a k ρ n2 g2 ha
    · rw [if_neg n1] at ha
      rcases key h2 with ⟨rfl, _⟩ | ⟨n2, g2⟩
      · rw [if_pos rfl]
        exact Classical.byContradiction fun z => ha (apart a j χ n1 g1 z)
      · rw [if_neg n2]
        exact L.dis j k χ ρ n g1 g2 a ha
  · rcases key h with ⟨rfl, rfl⟩ | ⟨n, h1⟩
    · exact m
    · exact L.mon j χ h1
/-! ### a dict of one's own that holds lists of one's own -/
def LsA (K : PySem.W.Frag) (Hb F : Hp) : List (List D) → List Addr → Prop
  | [], ps => ps = []
  | ds :: xss, ps => ∃ a r vs, ps = a :: r ∧ F a = some (.lst vs) ∧ RpA K Hb ds vs ∧ LsA K Hb F xss r
def oDA (K : PySem.W.Frag) (p : Addr) (ps : List Addr) (ks : List Key) (xss : List (List D)) : Ow := fun Hb v F => v = .ref p ∧ F p = some (.dK (ks.zip (ps.map V.ref))) ∧ ks.length = ps.length ∧ p ∉ ps ∧ ps.Nodup ∧ LsA K Hb F xss ps ∧ ∀ a, F a ≠ none → a = p ∨ a ∈ ps
def oDL (K : PySem.W.Frag) (ks : List Key) (xss : List (List D)) : Ow := fun Hb v F => ∃ p ps, oDA K p ps ks xss Hb v F
theorem LsA.mono {Hb Hb' F : Hp} (r : Rl Hb Hb') : ∀ {xss : List (List D)} {ps : List Addr}, LsA K Hb F xss ps → LsA K Hb' F xss ps
  | [], ps, h => h
  | ds :: xss, ps, ⟨a, q, vs, e, f, g, h⟩ => ⟨a, q, vs, e, f, RpA.mono r _ _ g, LsA.mono r h⟩
theorem mon_oDA {p : Addr} {ps : List Addr} {xss : List (List D)} : Mon (oDA K p ps ks xss) := fun Hb Hb' v F r ⟨a, b, c, d, e, f, g⟩ => ⟨a, b, c, d, e, f.mono r, g⟩
theorem mon_oDL {xss : List (List D)} : Mon (oDL K ks xss) := fun Hb Hb' v F r ⟨p, ps, h⟩ => ⟨p, ps, mon_oDA _ _ _ _ r h⟩
theorem LsA.len {Hb F : Hp} : ∀ {xss : List (List D)} {ps : List Addr}, LsA K Hb F xss ps → xss.length = ps.length
  | [], ps, h => by rw [show ps = [] from h]; rfl
  | ds :: xss, ps, ⟨a, q, vs, e, f, g, h⟩ => by rw [e]; simp [h.len]
theorem LsA.get {Hb F : Hp} : ∀ {xss : List (List D)} {ps : List Addr} {n : Nat} {ds : List D}, LsA K Hb F xss ps → xss[n]? = some ds → ∃ a vs, ps[n]? = some a ∧ F a = some (.lst vs) ∧ RpA K Hb ds vs
  | [], ps, n, ds, h, e => by simp at e
  | es :: xss, ps, 0, ds, ⟨a, q, vs, e, f, g, h⟩, e' => by
    simp at e'; subst e'; subst e
    exact ⟨a, vs, rfl, f, g⟩
  | es :: xss, ps, n + 1, ds, ⟨a, q, vs, e, f, g, h⟩, e' => by
    subst e
    obtain ⟨b, us, h1, h2, h3⟩ := h.get (n := n) (by simpa using e')
    exact ⟨b, us, by simpa using h1, h2, h3⟩
theorem LsA.frame {Hb F F' : Hp} : ∀ {xss : List (List D)} {ps : List Addr}, LsA K Hb F xss ps → (∀ a ∈ ps, F' a = F a) → LsA K Hb F' xss ps
  | [], ps, h, _ => h
  | ds :: xss, ps, ⟨a, q, vs, e, f, g, h⟩, k => by
    subst e
    exact ⟨a, q, vs, rfl, by rw [k a (by simp)]; exact f, g, h.frame fun b hb => k b (by simp [hb])⟩
theorem LsA.put {Hb F : Hp} {ws : List V} : ∀ {xss : List (List D)} {ps : List Addr} {n : Nat} {a : Addr}, LsA K Hb F xss ps → ps.Nodup → ps[n]? = some a → RpA K Hb ds ws → LsA K Hb (upd F a (.lst ws)) (xss.set n ds) ps
  | [], ps, n, a, h, _, e, _ => by rw [show ps = [] from h] at e; simp at e
  | es :: xss, ps, 0, a, ⟨b, q, vs, e, f, g, h⟩, nd, e', r => by
    subst e
    simp at e'; subst e'
    exact ⟨b, q, ws, rfl, upd_same, r, h.frame fun x hx => upd_ne (fun z => (List.nodup_cons.mp nd).1 (z ▸ hx))⟩
  | es :: xss, ps, n + 1, a, ⟨b, q, vs, e, f, g, h⟩, nd, e', r => by
    subst e
    have hm : a ∈ q := List.mem_of_getElem? (by simpa using e')
    refine ⟨b, q, vs, rfl, ?_, g, h.put (List.nodup_cons.mp nd).2 (by simpa using e') r⟩
    rw [upd_ne (fun (z : b = a) => (List.nodup_cons.mp nd).1 (z ▸ hm))]; exact f
theorem LsA.app {Hb F : Hp} {ws : List V} {b : Addr} : ∀ {xss : List (List D)} {ps : List Addr}, LsA K Hb F xss ps → b ∉ ps → RpA K Hb ds ws → LsA K Hb (upd F b (.lst ws)) (xss ++ [ds]) (ps ++ [b])
  | [], ps, h, n, r => by
    rw [show ps = [] from h]
    exact ⟨b, [], ws, rfl, upd_same, r, rfl⟩
  | es :: xss, ps, ⟨a, q, vs, e, f, g, h⟩, n, r => by
    subst e
    exact ⟨a, q ++ [b], vs, rfl, by rw [upd_ne (fun z => n (by simp [z]))]; exact f, g, h.app (fun z => n (by simp [z])) r⟩
/-- the lists' places come to light -/
theorem sd_open {xss : List (List D)} (hi : δ[i]? = some (.own (oDL K ks xss))) (h : ∀ p ps, ps.length = ks.length → ps.length = xss.length → SD K W t1 E (δ.set i (.own (oDA K p ps ks xss)))) : SD K W t1 E δ := fun A σ H ts L T c => by
  obtain ⟨Hb, F, L⟩ := L
  obtain ⟨⟨v, hv, p, ps, ho⟩, fH, ap⟩ := L.own i _ hi
  exact h p ps ho.2.2.1.symm ho.2.2.2.2.2.1.len.symm A σ H ts (L.chg2 hi (fun a o e _ => e) fH (fun a ha => .inl ha) hv ho mon_oDA) T c
/-- less is known -/
theorem sd_weak {φ ψ : Ow} (hi : δ[i]? = some (.own φ)) (hw : ∀ Hb v F, φ Hb v F → ψ Hb v F) (m : Mon ψ) (h : SD K W t1 E (δ.set i (.own ψ))) : SD K W t1 E δ := fun A σ H ts L T c => by
  obtain ⟨Hb, F, L⟩ := L
  obtain ⟨⟨v, hv, ho⟩, fH, ap⟩ := L.own i _ hi
  exact h A σ H ts (L.chg2 hi (fun a o e _ => e) fH (fun a ha => .inl ha) hv (hw _ _ _ ho) m) T c
theorem sd_close {p : Addr} {ps : List Addr} {xss : List (List D)} (hi : δ[i]? = some (.own (oDA K p ps ks xss))) (h : SD K W t1 E (δ.set i (.own (oDL K ks xss)))) : SD K W t1 E δ := sd_weak hi (fun _ _ _ h => ⟨p, ps, h⟩) mon_oDL h
theorem en_dicL : EvN K tDNewK δ (oDL K [] []) := fun A σ H ts L Q q p hp => by
  obtain ⟨Hb, F, L⟩ := L
  exact q _ _ (L.made hp ⟨p, [], rfl, by rw [sgl_same]; rfl, rfl, by simp, by simp, rfl, fun a ha => .inl (sgl_at ha)⟩)
theorem zip_look {ks : List Key} {ps : List Addr} {n : Nat} {k : Key} {a : Addr} (nd : ks.Nodup) (hk : ks[n]? = some k) (hp : ps[n]? = some a) : valV (ks.zip (ps.map V.ref)) k = some (.ref a) := by
  induction ks generalizing ps n with
  | nil => simp at hk
  | cons q ks ih =>
    cases ps with
    | nil => simp at hp
    | cons b ps =>
      cases n with
      | zero =>
        simp at hk hp; subst hk hp
        simp [valV]
      | succ n =>
        have hne : ¬ q = k := fun z => by
          subst z
          exact (List.nodup_cons.mp nd).1 (List.mem_of_getElem? (by simpa using hk))
        have := ih (List.nodup_cons.mp nd).2 (by simpa using hk) (by simpa using hp)
        unfold valV at this ⊢
        simp only [List.map_cons, List.zip_cons_cons, List.find?_cons, hne, decide_false]
        exact this
/-- x = d[k]: the list itself -/
theorem ev_ixDA {p : Addr} {ps : List Addr} {xss : List (List D)} {k : Key} {n : Nat} {a : Addr} (hi : δ[i]? = some (.own (oDA K p ps ks xss))) (hb : EvD K tb δ (kD k)) (nd : ks.Nodup) (hk : ks[n]? = some k) (hp : ps[n]? = some a) : EvD K (tOp (rIX K) (tVar i) tb) δ (.ref a) := fun A σ H ts L Q q => by
  obtain ⟨Hb0, F0, L0⟩ := id L
  obtain ⟨⟨v, hv, ho⟩, fH, ap⟩ := L0.own i _ hi
  refine ⟨v, hv, hb A σ H ts L _ fun u H2 L2 => ?_⟩
  obtain ⟨Hb, F, L2⟩ := L2
  obtain ⟨⟨v2, hv2, ho2⟩, fH2, ap2⟩ := L2.own i _ hi
  rw [hv] at hv2; cases hv2
  have hu : Rp K Hb (kD k) u := L2.tmp (rp K u (kD k)) (by simp)
  exact .inr (.inr (.inr ⟨p, .ref a, ho2.1, .inl ⟨_, k, .inl (fH2 p _ ho2.2.1), kD_v hu, (zip_look nd hk hp).symm⟩, q _ H2 ⟨Hb, F, L2.temps fun z hz => (List.mem_cons.mp hz).elim (fun e => by rw [e]; show Rp K Hb _ _; unfold Rp; rfl) fun hz => L2.tmp z (by simp [hz])⟩⟩))
theorem oDA_upd {p : Addr} {ps : List Addr} {xss : List (List D)} {Hb F : Hp} {v : V} {n : Nat} {a : Addr} {ws : List V} (ho : oDA K p ps ks xss Hb v F) (hp : ps[n]? = some a) (r : RpA K Hb ds ws) : oDA K p ps ks (xss.set n ds) Hb v (upd F a (.lst ws)) := by
  obtain ⟨h1, h2, h3, h4, h5, h6, h7⟩ := ho
  have ha : a ∈ ps := List.mem_of_getElem? hp
  refine ⟨h1, by rw [upd_ne (fun (z : p = a) => h4 (z ▸ ha))]; exact h2, h3, h4, h5, h6.put h5 hp r, fun b hb => ?_⟩
  by_cases z : b = a
  · exact .inr (z ▸ ha)
  · rw [upd_ne z] at hb; exact h7 b hb
theorem upd_ex {F H : Hp} {a : Addr} {o : HO} (e : Ex F H) : Ex (upd F a o) (upd H a o) := fun b u q => by
  by_cases z : b = a
  · subst z; rw [upd_same] at q ⊢; exact q
  · rw [upd_ne z] at q ⊢; exact e b u q
/-- x.append(e), x one of the lists -/
theorem sd_appA {p a : Addr} {ps : List Addr} {xss : List (List D)} {n : Nat} {es : List D} (hi : δ[i]? = some (.own (oDA K p ps ks xss))) (hj : δ[j]? = some (.dat (.ref a))) (hp : ps[n]? = some a) (hx : xss[n]? = some es) (he : EvD K te δ d) (hl : es.length < 1000000) (h : E.nx (δ.set i (.own (oDA K p ps ks (xss.set n (es ++ [d])))))) :
    SD K W (tDrop (tBM K "list" rAppend (tVar j) (tCons te tNil))) E δ := fun A σ H ts L T c => by
  obtain ⟨Hb0, F0, L0⟩ := id L
  obtain ⟨⟨u, hu, ho⟩, fH0, _⟩ := L0.own i _ hi
  obtain ⟨v0, hv0, r0⟩ := L0.dat j _ hj
  cases (show v0 = .ref a from r0)
  obtain ⟨a0, us0, e0, f0, g0⟩ := ho.2.2.2.2.2.1.get hx
  rw [hp] at e0; cases e0
  refine ⟨.ref a, hv0, .inl ⟨rfl, us0, .inl (.inl (fH0 a _ f0))⟩, ?_⟩
  refine he A σ H ts L _ fun v H2 L2 => ?_
  obtain ⟨Hb, F, L2⟩ := L2
  obtain ⟨⟨u2, hu2, ho2⟩, fH2, ap2⟩ := L2.own i _ hi
  obtain ⟨a1, us, e1, f1, g1⟩ := ho2.2.2.2.2.2.1.get hx
  rw [hp] at e1; cases e1
  have hv : Rp K Hb d v := L2.tmp (rp K v d) (by simp)
  refine ⟨a, us, v, rfl, rfl, fH2 a _ f1, by rw [← g1.len, sizeLine_eq]; omega, c.nx _ σ _ h ?_⟩
  refine (L2.temps (ts' := ts) fun p hp => L2.tmp p (by simp [hp])).chg2 hi (F' := upd (F i) a (.lst (us ++ [v]))) (fun b o e q => ?_) (upd_ex fH2) (fun b hb => .inl ?_) hu2 (oDA_upd ho2 hp (g1.app (RpA.one hv))) mon_oDA
  · rw [upd_ne (fun z => by rw [z, f1] at q; cases q)]; exact e
  · by_cases z : b = a
    · rw [z, f1]; exact fun z => nomatch z
    · rw [upd_ne z] at hb; exact hb
/-- x[k] = e, x one of the lists -/
theorem sd_setA {p a : Addr} {ps : List Addr} {xss : List (List D)} {n m : Nat} {es : List D} {k : Int} (hi : δ[i]? = some (.own (oDA K p ps ks xss))) (hj : δ[j]? = some (.dat (.ref a))) (hp : ps[n]? = some a) (hx : xss[n]? = some es) (he : EvD K te δ d) (hn : EvD K ti δ (.int k)) (hm : ixN es.length k = some m)
    (h : E.nx (δ.set i (.own (oDA K p ps ks (xss.set n (es.set m d)))))) : SD K W (tAsg te (gSub (tVar j) ti rSetL)) E δ := fun A σ H ts L T c =>
  he A σ H ts L _ fun v H1 L1 => by
    obtain ⟨Hb0, F0, L0⟩ := id L1
    obtain ⟨v0, hv0, r0⟩ := L0.dat j _ hj
    cases (show v0 = .ref a from r0)
    refine ⟨.ref a, hv0, hn A σ H1 _ L1 _ fun w H2 L2 => ?_⟩
    obtain ⟨Hb, F, L2⟩ := L2
    obtain ⟨⟨u2, hu2, ho2⟩, fH2, ap2⟩ := L2.own i _ hi
    obtain ⟨a1, us, e1, f1, g1⟩ := ho2.2.2.2.2.2.1.get hx
    rw [hp] at e1; cases e1
    have hv : Rp K Hb d v := L2.tmp (rp K v d) (by simp)
    have hw : w = .int k := L2.tmp (rp K w (.int k)) (by simp)
    refine ⟨a, us, k, m, rfl, hw, fH2 a _ f1, by rw [← g1.len]; exact hm, c.nx _ σ _ h ?_⟩
    refine (L2.temps (ts' := ts) fun p hp => L2.tmp p (by simp [hp])).chg2 hi (F' := upd (F i) a (.lst (us.set m v))) (fun b o e q => ?_) (upd_ex fH2) (fun b hb => .inl ?_) hu2 (oDA_upd ho2 hp (g1.set m hv)) mon_oDA
    · rw [upd_ne (fun z => by rw [z, f1] at q; cases q)]; exact e
    · by_cases z : b = a
      · rw [z, f1]; exact fun z => nomatch z
      · rw [upd_ne z] at hb; exact hb
/-- a fresh list goes into the dict -/
theorem LsA.swap {Hb F F' : Hp} {ws : List V} {b : Addr} : ∀ {xss : List (List D)} {ps : List Addr} {n : Nat} {old : Addr}, LsA K Hb F xss ps → ps.Nodup → ps[n]? = some old → (∀ a ∈ ps, a ≠ old → F' a = F a) → F' b = some (.lst ws) → RpA K Hb ds ws → LsA K Hb F' (xss.set n ds) (ps.set n b)
  | [], ps, n, old, h, _, e, _, _, _ => by rw [show ps = [] from h] at e; simp at e
  | es :: xss, ps, 0, old, ⟨a, q, vs, e, f, g, h⟩, nd, e', k, fb, r => by
    subst e
    simp at e'; subst e'
    exact ⟨b, q, ws, rfl, fb, r, h.frame fun x hx => k x (by simp [hx]) fun (z : x = a) => (List.nodup_cons.mp nd).1 (z ▸ hx)⟩
  | es :: xss, ps, n + 1, old, ⟨a, q, vs, e, f, g, h⟩, nd, e', k, fb, r => by
    subst e
    have hm : old ∈ q := List.mem_of_getElem? (by simpa using e')
    exact ⟨a, q.set n b, vs, rfl, by rw [k a (by simp) fun (z : a = old) => (List.nodup_cons.mp nd).1 (z ▸ hm)]; exact f, g, h.swap (List.nodup_cons.mp nd).2 (by simpa using e') (fun x hx => k x (by simp [hx])) fb r⟩
theorem zipW_set {k : Key} {v : V} : ∀ {ks : List Key} {vs : List V} {n : Nat}, ks.Nodup → ks.length = vs.length → ks[n]? = some k → List.zipWith (fun k' v' => if k' = k then v else v') ks vs = vs.set n v
  | [], vs, n, _, _, h => by simp at h
  | q :: ks, [], n, _, h, _ => by simp at h
  | q :: ks, w :: vs, 0, nd, hl, h => by
    simp at h; subst h
    simp only [List.zipWith_cons_cons, if_true, List.set_cons_zero, List.cons.injEq, true_and]
    have : ∀ {ls : List Key} {us : List V}, q ∉ ls → ls.length = us.length → List.zipWith (fun k' v' => if k' = q then v else v') ls us = us := by
      intro ls
      induction ls with
      | nil => intro us _ hl; cases us with
        | nil => rfl
        | cons _ _ => simp at hl
      | cons l ls ih =>
        intro us hn hl
        cases us with
        | nil => simp at hl
        | cons u us =>
          have hne : ¬ l = q := fun z => hn (by simp [z])
          rw [List.zipWith_cons_cons, if_neg hne, ih (fun z => hn (by simp [z])) (by simpa using hl)]
    exact this (List.nodup_cons.mp nd).1 (by simpa using hl)
  | q :: ks, w :: vs, n + 1, nd, hl, h => by
    have hne : ¬ q = k := fun z => by
      subst z
      exact (List.nodup_cons.mp nd).1 (List.mem_of_getElem? (by simpa using h))
    rw [List.zipWith_cons_cons, if_neg hne, zipW_set (List.nodup_cons.mp nd).2 (by simpa using hl) (by simpa using h)]; rfl
theorem nodup_set {b : Addr} : ∀ {ps : List Addr} {n : Nat}, ps.Nodup → b ∉ ps → (ps.set n b).Nodup
  | [], n, _, _ => by simp
  | a :: ps, 0, nd, hb => by
    rw [List.set_cons_zero, List.nodup_cons]
    exact ⟨fun z => hb (by simp [z]), (List.nodup_cons.mp nd).2⟩
  | a :: ps, n + 1, nd, hb => by
    rw [List.set_cons_succ, List.nodup_cons]
    refine ⟨fun z => ?_, nodup_set (List.nodup_cons.mp nd).2 fun z => hb (by simp [z])⟩
    rcases List.mem_or_eq_of_mem_set z with h | h
    · exact (List.nodup_cons.mp nd).1 h
    · exact hb (by simp [h])
/-- what both forms need -/
theorem dputN_core {A : Act} {σ : L2.St} {H : Hp} {ts : List Tm} {T : Ends} {xss xss' : List (List D)} {k : Key} {ks' : List Key} {p : Addr} {ps : List Addr} (hi : δ[i]? = some (.own (oDA K p ps ks xss))) (hv : EvN K tv δ (oL K ds)) (hk : EvD K ti δ (kD k)) (hl : ks.length < 1000000) (L : Lc K A δ σ H ts)
    (hq : ∀ (b : Addr) (ws : List V) (Hb F : Hp), oDA K p ps ks xss Hb (.ref p) F → b ≠ p → b ∉ ps → RpA K Hb ds ws → ∃ (ps' : List Addr) (F' : Hp), putK (ks.zip (ps.map V.ref)) k (.ref b) = ks'.zip (ps'.map V.ref) ∧ oDA K p ps' ks' xss' Hb (.ref p) F' ∧ F' b = some (.lst ws) ∧ ∀ a, a ≠ p → a ≠ b → F' a ≠ none → F' a = F a)
    (h : ∀ H4, Lc K A (δ.set i (.own (oDL K ks' xss'))) σ H4 ts → T.nx σ H4) : sDPut (tVar i) ti tv T σ H := hv A σ H ts L _ fun v H1 L1 => by
  obtain ⟨Hb1, F1, Fv, L1, ⟨b, ws, rfl, rfl, rb⟩, fvH, av⟩ := L1
  have hb0 := av b (by rw [sgl_same]; exact fun z => nomatch z)
  have hBb : A.B b = none := L1.eB.none hb0.1
  obtain ⟨⟨u, hu, ho⟩, fH0, _⟩ := L1.own i _ hi
  cases ho.1
  have L2 := (L1.fin hb0.2.1 (fvH b _ sgl_same) hb0.1 hb0.2.2).temps (ts' := tRs K ds ws :: ts) fun z hz => (List.mem_cons.mp hz).elim (fun e => by rw [e]; exact rb) (L1.tmp z)
  refine ⟨.ref p, hu, hk _ σ H1 _ ⟨Hb1, F1, L2⟩ _ fun y H2 L3 => ?_⟩
  obtain ⟨Hb, F, L3⟩ := L3
  have ry : y = kV k := kD_v (L3.tmp (rp K y (kD k)) (by simp))
  have rw' : RpA K Hb ds ws := L3.tmp (tRs K ds ws) (by simp)
  obtain ⟨L4, hb2, hb3, hb4⟩ := L3.fout L1.gH hb0.2.1 hBb
  obtain ⟨⟨u2, hu2, ho2⟩, fH2, ap2⟩ := L4.own i _ hi
  rw [hu] at hu2; cases hu2
  have hbp : b ≠ p := fun z => by
    have := hb4 i _ hi
    rw [z, ho2.2.1] at this; cases this
  have hbps : b ∉ ps := fun z => by
    obtain ⟨n, hn⟩ := List.getElem?_of_mem z
    have hn1 : n < ps.length := (List.getElem?_eq_some_iff.mp hn).1
    obtain ⟨es, hes⟩ : ∃ es, xss[n]? = some es := ⟨xss[n]'(by rw [ho2.2.2.2.2.2.1.len]; exact hn1), List.getElem?_eq_getElem _⟩
    obtain ⟨a, vs, e1, e2, _⟩ := ho2.2.2.2.2.2.1.get hes
    rw [hn] at e1; cases e1
    rw [hb4 i _ hi] at e2; cases e2
  obtain ⟨ps', F', e1, ho3, fb, fo⟩ := hq b ws Hb (F i) ho2 hbp hbps rw'
  have hp2 : H2 p = some (.dK (ks.zip (ps.map V.ref))) := fH2 p _ ho2.2.1
  refine ⟨p, _, rfl, .inl ⟨_, k, hp2, ry, by rw [List.length_zip, List.length_map, ← ho2.2.2.1, Nat.min_self, sizeLine_eq]; omega, rfl⟩, h _ ?_⟩
  rw [e1]
  refine (L4.temps (ts' := ts) fun p hp => L4.tmp p (by simp [hp])).chg2 hi (F' := F') (fun a o e q => ?_) (fun a o e => ?_) (fun a ha => ?_) hu ⟨p, ps', ho3⟩ mon_oDL
  · rw [upd_ne (fun z => by rw [z, ho2.2.1] at q; cases q)]; exact e
  · by_cases z : a = p
    · rw [z, ho3.2.1] at e; rw [z, upd_same]; exact e
    · rw [upd_ne z]
      by_cases y2 : a = b
      · rw [y2, fb] at e; rw [y2, ← e]; exact hb2
      · rw [fo a z y2 (by rw [e]; exact fun z => nomatch z)] at e
        exact fH2 a o e
  · by_cases z : a = p
    · exact .inl (by rw [z, ho2.2.1]; exact fun z => nomatch z)
    · by_cases y2 : a = b
      · rw [y2]; exact .inr ⟨hb3, hb0.2.1, fun j χ _ hj => hb4 j χ hj⟩
      · exact .inl (by rw [← fo a z y2 ha]; exact ha)
/-- d[k] = [..], a new key -/
theorem sd_dputN {xss : List (List D)} {k : Key} (hi : δ[i]? = some (.own (oDL K ks xss))) (hv : ∀ p ps, EvN K tv (δ.set i (.own (oDA K p ps ks xss))) (oL K ds)) (hk : ∀ p ps, EvD K ti (δ.set i (.own (oDA K p ps ks xss))) (kD k)) (hn : k ∉ ks) (hl : ks.length < 1000000) (h : E.nx (δ.set i (.own (oDL K (ks ++ [k]) (xss ++ [ds]))))) :
    SD K W (sDPut (tVar i) ti tv) E δ := sd_open hi fun p ps hps _ A σ H ts L T c => by
  have hli : i < δ.length := (List.getElem?_eq_some_iff.mp hi).1
  refine dputN_core (by rw [List.getElem?_set, if_pos rfl, if_pos hli]) (hv p ps) (hk p ps) hl L (fun b ws Hb F ho hbp hbps r => ⟨ps ++ [b], upd (upd F b (.lst ws)) p (.dK ((ks ++ [k]).zip ((ps ++ [b]).map V.ref))), ?_, ⟨rfl, upd_same, by simp [hps], ?_, ?_, ?_, fun a ha => ?_⟩, ?_, fun a h1 h2 _ => ?_⟩) fun H4 L4 => c.nx _ σ H4 h (by rw [List.set_set] at L4; exact L4)
  · rw [putK_new (fun z => hn (by rw [List.map_fst_zip (by simp [hps])] at z; exact z)), List.map_append, List.zip_append (by simp [hps])]; rfl
  · intro z
    rcases List.mem_append.mp z with z | z
    · exact ho.2.2.2.1 z
    · exact hbp (List.mem_singleton.mp z).symm
  · rw [List.nodup_append]
    exact ⟨ho.2.2.2.2.1, by simp, fun a ha c hc => by rw [List.mem_singleton.mp hc]; exact fun z => hbps (z ▸ ha)⟩
  · refine (ho.2.2.2.2.2.1.app hbps r).frame fun a ha => upd_ne fun z => ?_
    rcases List.mem_append.mp ha with q | q
    · exact ho.2.2.2.1 (z ▸ q)
    · exact hbp ((List.mem_singleton.mp q).symm.trans z)
  · by_cases z : a = p
    · exact .inl z
    · rw [upd_ne z] at ha
      by_cases y : a = b
      · exact .inr (by simp [y])
      · rw [upd_ne y] at ha
        rcases ho.2.2.2.2.2.2 a ha with q | q
        · exact .inl q
        · exact .inr (by simp [q])
  · rw [upd_ne hbp, upd_same]
  · rw [upd_ne h1, upd_ne h2]
/-- d[k] = [..], a key that is there -/
theorem sd_dputS {xss : List (List D)} {k : Key} {n : Nat} (hi : δ[i]? = some (.own (oDL K ks xss))) (hv : ∀ p ps, EvN K tv (δ.set i (.own (oDA K p ps ks xss))) (oL K ds)) (hk : ∀ p ps, EvD K ti (δ.set i (.own (oDA K p ps ks xss))) (kD k)) (nd : ks.Nodup) (hn : ks[n]? = some k) (hl : ks.length < 1000000) (h : E.nx (δ.set i (.own (oDL K ks (xss.set n ds))))) :
    SD K W (sDPut (tVar i) ti tv) E δ := sd_open hi fun p ps hps _ A σ H ts L T c => by
  have hli : i < δ.length := (List.getElem?_eq_some_iff.mp hi).1
  have hn1 : n < ps.length := by rw [hps]; exact (List.getElem?_eq_some_iff.mp hn).1
  have hold : ps[n]? = some ps[n] := List.getElem?_eq_getElem hn1
  refine dputN_core (by rw [List.getElem?_set, if_pos rfl, if_pos hli]) (hv p ps) (hk p ps) hl L (fun b ws Hb F ho hbp hbps r => ⟨ps.set n b, fun a => if a = p then some (.dK (ks.zip ((ps.set n b).map V.ref))) else if a = b then some (.lst ws) else if a = ps[n] then none else F a, ?_, ⟨rfl, if_pos rfl, by simp [hps], ?_, nodup_set ho.2.2.2.2.1 hbps, ?_, fun a ha => ?_⟩, ?_, fun a h1 h2 h3 => ?_⟩) fun H4 L4 => c.nx _ σ H4 h (by rw [List.set_set] at L4; exact L4)
  · have hm : k ∈ ks := List.mem_of_getElem? hn
    rw [putK_zip (by simp [hps]), if_pos hm, zipW_set nd (by simp [hps]) hn, List.map_set]
    unfold dputK; rw [if_pos hm]
  · intro z
    rcases List.mem_or_eq_of_mem_set z with z | z
    · exact ho.2.2.2.1 z
    · exact hbp z.symm
  · refine ho.2.2.2.2.2.1.swap ho.2.2.2.2.1 hold (fun a ha hne => ?_) ?_ r
    · have z1 : a ≠ p := fun z => ho.2.2.2.1 (z ▸ ha)
      have z2 : a ≠ b := fun z => hbps (z ▸ ha)
      show (if a = p then _ else if a = b then _ else if a = ps[n] then none else F a) = F a
      rw [if_neg z1, if_neg z2, if_neg hne]
    · show (if b = p then _ else if b = b then _ else _) = _
      rw [if_neg hbp, if_pos rfl]
  · have ha' : (if a = p then some (HO.dK (ks.zip ((ps.set n b).map V.ref))) else if a = b then some (.lst ws) else if a = ps[n] then none else F a) ≠ none := ha
    by_cases z : a = p
    · exact .inl z
    · rw [if_neg z] at ha'
      by_cases y : a = b
      · exact .inr (by rw [y]; exact List.mem_iff_getElem?.mpr ⟨n, by rw [List.getElem?_set, if_pos rfl, if_pos hn1]⟩)
      · rw [if_neg y] at ha'
        by_cases x : a = ps[n]
        · rw [if_pos x] at ha'; exact absurd rfl ha'
        · rw [if_neg x] at ha'
          rcases ho.2.2.2.2.2.2 a ha' with q | q
          · exact .inl q
          · obtain ⟨m, hm⟩ := List.getElem?_of_mem q
            have hmn : n ≠ m := fun z => by rw [← z, hold] at hm; exact x (Option.some.inj hm).symm
            exact .inr (List.mem_iff_getElem?.mpr ⟨m, by rw [List.getElem?_set, if_neg hmn]; exact hm⟩)
  · show (if b = p then _ else if b = b then _ else _) = _
    rw [if_neg hbp, if_pos rfl]
  · have h3' : (if a = p then some (HO.dK (ks.zip ((ps.set n b).map V.ref))) else if a = b then some (.lst ws) else if a = ps[n] then none else F a) ≠ none := h3
    show (if a = p then _ else if a = b then _ else if a = ps[n] then none else F a) = F a
    rw [if_neg h1, if_neg h2] at h3' ⊢
    by_cases x : a = ps[n]
    · rw [if_pos x] at h3'; exact absurd rfl h3'
    · rw [if_neg x]
/-! ### given up, lent -/
theorem lsa_rpa {Hb F : Hp} (dj : ∀ a, F a ≠ none → Hb a = none) : ∀ {xss : List (List D)} {ps : List Addr}, LsA K Hb F xss ps → RpA K (uni Hb F) (xss.map D.lst) (ps.map V.ref)
  | [], ps, h => by rw [show ps = [] from h]; exact RpA.nil
  | ds :: xss, ps, ⟨a, q, vs, e, f, g, h⟩ => by
    subst e
    refine RpA.cons ?_ (lsa_rpa dj h)
    unfold Rp
    exact ⟨a, vs, rfl, .inl (.inl (by rw [uni_r (dj a (by rw [f]; exact fun z => nomatch z)), f])), RpA.mono uni_l.rl _ _ g⟩
theorem froz_oDL {xss : List (List D)} : ∀ Hb v F, oDL K ks xss Hb v F → (∀ a, F a ≠ none → Hb a = none) → Rp K (uni Hb F) (.dic ks (xss.map D.lst)) v := fun Hb v F ⟨p, ps, h1, h2, h3, h4, h5, h6, h7⟩ dj => by
  unfold Rp
  exact ⟨p, ps.map V.ref, h1, .inl (by rw [uni_r (dj p (by rw [h2]; exact fun z => nomatch z)), h2]), by simp [h3], lsa_rpa dj h6⟩
theorem EvN.dicL {xss : List (List D)} (h : EvN K te δ (oDL K ks xss)) : EvD K te δ (.dic ks (xss.map D.lst)) := h.dat froz_oDL
theorem sd_frzDL {xss : List (List D)} (hi : δ[i]? = some (.own (oDL K ks xss))) (h : SD K W t1 E (δ.set i (.dat (.dic ks (xss.map D.lst))))) : SD K W t1 E δ := sd_frz hi froz_oDL h
theorem lsa_rpb {Hb F H : Hp} (e : Ex F H) : ∀ {xss : List (List D)} {ps : List Addr}, LsA K Hb F xss ps → RpBA K Hb H (xss.map fun ds => .lst (ds.map .dat)) (ps.map V.ref)
  | [], ps, h => by rw [show ps = [] from h]; exact RpBA.nil
  | ds :: xss, ps, ⟨a, q, vs, e1, f, g, h⟩ => by
    subst e1
    refine RpBA.cons ?_ (lsa_rpb e h)
    unfold RpB
    exact ⟨a, vs, rfl, .inl (.inl (e a _ f)), rpba_dat g⟩
theorem eb_ownDL {xss : List (List D)} (h : δ[i]? = some (.own (oDL K ks xss))) : EvB K (tVar i) δ (.dic ks (xss.map fun ds => .lst (ds.map .dat))) := fun A σ H ts L Q q => by
  obtain ⟨Hb, F, L⟩ := L
  obtain ⟨⟨v, hv, p, ps, ho⟩, fH, ap⟩ := L.own i _ h
  refine ⟨_, hv, q _ H tAny0 ⟨Hb, F, L.temps fun p hp => (List.mem_cons.mp hp).elim (fun z => by rw [z]; trivial) (L.tmp p)⟩ fun H3 Hb3 F3 us L3 _ => ?_⟩
  obtain ⟨⟨v3, hv3, p3, ps3, h1, h2, h3, h4, h5, h6, h7⟩, fH3, ap3⟩ := L3.own i _ h
  rw [hv] at hv3; cases hv3
  unfold RpB
  exact ⟨p3, ps3.map V.ref, h1, .inl (fH3 p3 _ h2), by simp [h3], lsa_rpb fH3 h6⟩
end
end DL

namespace DL
open PySem L2 PyProof.Rows
/-! ### isinstance(e, C), e the caught error -/
structure XIs (K : PySem.W.Frag) (D : Addr) : Prop where
  hg : PySem.W.findIn K (.ref D) "__getattribute__" = some (some (.builtin "BaseException.__getattribute__"))
  hk : PySem.W.findIn K (.ref D) "__getattr__" = some none
  hs : PySem.W.subIn K (.ref D) (.type "BaseException") = some true
  hd : PySem.W.hasDictIn K D = true
  ha : PySem.W.findIn K (.ref D) "__class__" = some (some (.builtin "object.__class__"))
  hn : PySem.W.specialIn K (.builtin "object.__class__") "__get__" = some (some (.builtin "getset_descriptor.__get__"))
  ht : PySem.W.takesIn K (.builtin "object.__class__") = some true
  hm : PySem.W.mroIn K D (.type "object") = some true
/-- any class of the text will do as D: told in the reading -/
def rIsX (K : PySem.W.Frag) (cls : Value) (d : Option Addr) (a : Addr) : List V → Hp → VK → Prop := fun xs H Q => ∃ (c : V) (cv : Value) (D dd : Addr) (fs : List (Str × V)) (b : Bool), xs = [.ref a, c] ∧ XIs K D ∧ cls = .ref D ∧ d = some dd ∧ H dd = some (.xd fs) ∧ (∀ u, RelV c u → u = cv) ∧ PySem.W.kitOne K (.ref D) cv = some b ∧ Q (.bl b) H
theorem call_isX {X : Cx} {a : Addr} {oe : Obj} {cls : Value} {d : Option Addr} {pn : List (Addr × Obj)} (hz : Zc cls d oe) (hf : ∃ vs, oe.data = .fields vs) : CallR (X.suite a ((a, oe) :: pn)) (.builtin "isinstance") (rIsX X.K cls d a) := by
  intro pins s σ H xs us Q I r h
  obtain ⟨c, cv, D, dd, fs, b, rfl, C, rfl, rfl, hx, hcv, e, q⟩ := h
  cases r with
  | cons rx rr =>
    cases rr with
    | cons rt rr =>
      cases rr
      cases rx
      have ec := hcv _ rt
      subst ec
      obtain ⟨hget, _⟩ := I.pin (a, oe) (List.mem_append.mpr (.inl List.mem_cons_self))
      obtain ⟨vs, hv⟩ := hf
      have hd : ObjOk X.prog X.w H s.heap dd (.xd fs) := I.hok dd _ hx
      obtain ⟨mA, hns, hr⟩ := hd
      obtain ⟨od, ho, hl⟩ := lookIn_ns hns
      have J : PySem.W.InstAt s.heap a oe D (some od) := ⟨hget, hz.1, by unfold PySem.W.notCls; rw [hv] <;> rfl, by rw [hz.2]; exact ho⟩
      have hc : (PySem.W.clsIn X.K D).isSome = true := by
        have := C.hd
        unfold PySem.W.hasDictIn at this
        cases z : PySem.W.clsIn X.K D with
        | none => rw [z] at this; cases this
        | some _ => rfl
      exact PySem.W.kia_one (PySem.W.kitx_exc hc C.hg C.hk C.hs C.ha C.hn C.ht C.hm) I.kIn J e (fun z => nomatch z) fun tk => ⟨.bl b, H, I.kept (t' := tk) fun _ _ z => z, rfl, q⟩
theorem p_isX {X : Cx} {a : Addr} {oe : Obj} {cls : Value} {d : Option Addr} {pn : List (Addr × Obj)} {e c : Expr} {te tc : TE} {p pos : Pos} (K : PySem.W.Frag) (hz : Zc cls d oe) (hf : ∃ vs, oe.data = .fields vs) (hB : NoB X.mg) (h : PE (X.suite a ((a, oe) :: pn)) e te) (h2 : PE (X.suite a ((a, oe) :: pn)) c tc)
    (hg : Gl (X.suite a ((a, oe) :: pn)) "isinstance" := by rfl) (he : starEach [e, c] X.env = (false, eval e X.env) :: starEach [c] X.env := by rfl) (he2 : starEach [c] X.env = (false, eval c X.env) :: starEach [] X.env := by rfl) (hpl : (backTo pos (starEach [c] X.env)).any (·.1) = false := by rfl) (hK : X.K = K := by rfl) :
    PE (X.suite a ((a, oe) :: pn)) (.Call (.Name "isinstance" p) [e, c] [] pos) (tCB (rIsX K cls d a) (tCons te (tCons tc tNil))) := by
  subst hK
  exact pe_callB (call_isX hz hf) hg (hB _ (by decide +kernel)) (by decide +kernel) (pa_cons h (pa_cons h2 pa_nil he2) he) (he := he) (hpl := hpl)
section
variable {K : PySem.W.Frag} {δ : List Sl} {te : TE} {ta : TA} {d : D}
theorem ev_isX {a C Cc dd : Addr} {fs : List Str} {ds : List D} {b : Bool} (h : EvA K ta δ [.exc a C dd fs ds, .ref Cc]) (x : XIs K C) (hk : PySem.W.kitOne K (.ref C) (.ref Cc) = some b) : EvD K (tCB (rIsX K (.ref C) (some dd) a) ta) δ (.bl b) := ev_cb h fun Hb H vs Q e r q => by
  obtain ⟨v, t, rfl, hv, ht⟩ := RpA.consV r
  obtain ⟨u, t2, rfl, hu, ht2⟩ := RpA.consV ht
  cases (RpA.nilV ht2)
  cases (show u = .ref Cc from hu)
  unfold Rp at hv
  obtain ⟨us, rfl, hx, _⟩ := hv
  exact ⟨_, .ref Cc, C, dd, _, b, rfl, x, rfl, rfl, e _ _ hx, fun u z => z, hk, q _ (by unfold Rp; rfl)⟩
theorem kit_ref {D C : Addr} {b : Bool} (hc : (PySem.W.clsIn K C).isSome = true) (ht : PySem.W.typeIn K (.ref C) = some (.type "type")) (hs : PySem.W.subIn K (.ref D) (.ref C) = some b) (hb : D = C → b = true) : PySem.W.kitOne K (.ref D) (.ref C) = some b := by
  unfold PySem.W.kitOne
  by_cases z : D = C
  · subst z; rw [if_pos (by simp), hb rfl]
  · rw [if_neg (by simp [z])]
    unfold PySem.W.kitCls
    simp only [hc, ht]
    first | exact hs | (simp; exact hs)
theorem flat_ints : ∀ ns : List Int, (ns.map V.int).all flatV = true
  | [] => rfl
  | n :: ns => by
    show (flatV (.int n) && (ns.map V.int).all flatV) = true
    rw [flat_ints ns]; rfl
/-- i in [..], ints -/
theorem ev_inI {ta tb : TE} {ns : List Int} {i : Int} {neg : Bool} (ha : EvD K ta δ (.int i)) (hb : EvD K tb δ (.lst (ns.map D.int))) : EvD K (tOp (rIN K neg) ta tb) δ (.bl (if neg then !inV (.int i) (ns.map V.int) else inV (.int i) (ns.map V.int))) := ev_op2 ha hb (Op2.inl fun Hb H v u Q e hv hu q => by
  unfold Rp at hu
  obtain ⟨a, vs, rfl, s, r⟩ := hu
  have ev := RpA.ints r
  subst ev
  cases (Rp.intV hv)
  exact ⟨a, _, rfl, .inl (e.rl.l s), rfl, flat_ints ns, q _ fun _ => by unfold Rp; rfl⟩)
end
end DL

/-! the drawn names, in plain terms -/
namespace DL
open PySem L2 TL
def letters : Str := "abcdefghijklmnopqrstuvwxyz"
def ltr (i : Int) : Nat := 97 + (i % 26).toNat
theorem letters_cps : letters.cps.toList = (List.range 26).map (97 + ·) := by decide +kernel
theorem letters_at {i : Int} (h0 : 0 ≤ i) (h1 : i < 26) : atI letters.cps.toList i = some (97 + i.toNat) := by
  have q := atI_nat (xs := letters.cps.toList) (j := i.toNat) (v := 97 + i.toNat) (by
    rw [letters_cps, List.getElem?_map, List.getElem?_eq_getElem (by rw [List.length_range]; omega), List.getElem_range]; rfl)
  rwa [Int.toNat_of_nonneg h0] at q
theorem ltr_mem (i : Int) : ltr i ∈ letters.cps.toList := by
  rw [letters_cps, List.mem_map]
  exact ⟨(i % 26).toNat, List.mem_range.mpr (by omega), rfl⟩
def nameOk (s : Str) : Bool := (decide (1 ≤ (s.length : Int)) && decide ((s.length : Int) ≤ 8)) && s.cps.toList.all fun c => decide (c ∈ letters.cps.toList)
def nmSize (n : Int) : Int := 1 + n / 2 % 8
def nmLen (n k : Int) : Int := if n % 2 = 1 then 1 + (nmSize n + k) % 8 else nmSize n
def nmBase (n k : Int) : List Nat := (List.range (nmLen n k).toNat).map fun (a : Nat) => ltr (n / 7 + (a : Int))
def nmSpot (n k : Int) : Int := n / 16 % nmSize n % nmLen n k
def nmCodes (n k : Int) : List Nat := (nmBase n k).set (nmSpot n k).toNat (ltr (n / 128 + k))
def nm (n k : Int) : Str := ⟨(nmCodes n k).toArray⟩
def namesM (n : Int) (many : Nat) : List Str := (List.range many).map fun (k : Nat) => nm n (k : Int)
theorem nmSize_rng (n : Int) : 1 ≤ nmSize n ∧ nmSize n ≤ 8 := by unfold nmSize; omega
theorem nmLen_rng (n k : Int) : 1 ≤ nmLen n k ∧ nmLen n k ≤ 8 := by
  have := nmSize_rng n
  unfold nmLen
  split <;> omega
theorem nmSpot_rng (n k : Int) : 0 ≤ nmSpot n k ∧ nmSpot n k < nmLen n k := by
  have h := nmLen_rng n k
  exact ⟨Int.emod_nonneg _ (by omega), Int.emod_lt_of_pos _ (by omega)⟩
theorem nmBase_len (n k : Int) : (nmBase n k).length = (nmLen n k).toNat := by unfold nmBase; simp
theorem nmCodes_len (n k : Int) : (nmCodes n k).length = (nmLen n k).toNat := by unfold nmCodes; rw [List.length_set, nmBase_len]
theorem nm_len (n k : Int) : (nm n k).length = (nmLen n k).toNat := by
  show (nmCodes n k).toArray.size = _
  rw [List.size_toArray, nmCodes_len]
theorem nm_cps (n k : Int) : (nm n k).cps.toList = nmCodes n k := rfl
theorem nmCodes_mem {n k : Int} {c : Nat} (h : c ∈ nmCodes n k) : c ∈ letters.cps.toList := by
  unfold nmCodes at h
  rcases List.mem_or_eq_of_mem_set h with h | rfl
  · unfold nmBase at h
    rw [List.mem_map] at h
    obtain ⟨a, _, rfl⟩ := h
    exact ltr_mem _
  · exact ltr_mem _
theorem nm_ok (n k : Int) : nameOk (nm n k) = true := by
  have h := nmLen_rng n k
  unfold nameOk
  rw [nm_len, nm_cps, Bool.and_eq_true, Bool.and_eq_true, List.all_eq_true]
  exact ⟨⟨decide_eq_true (by omega), decide_eq_true (by omega)⟩, fun c hc => decide_eq_true (nmCodes_mem hc)⟩
theorem nm_at (n k : Int) : (nmCodes n k)[(nmSpot n k).toNat]? = some (ltr (n / 128 + k)) := by
  have h := nmSpot_rng n k
  unfold nmCodes
  rw [List.getElem?_set, if_pos rfl, if_pos (by rw [nmBase_len]; omega)]
theorem nm_inj {n k j : Int} (hk : 0 ≤ k ∧ k < 26) (hj : 0 ≤ j ∧ j < 26) (h : nm n k = nm n j) : k = j := by
  have hc : nmCodes n k = nmCodes n j := by rw [← nm_cps, ← nm_cps, h]
  have hl : nmLen n k = nmLen n j := by
    have := congrArg List.length hc
    rw [nmCodes_len, nmCodes_len] at this
    have a := nmLen_rng n k
    have b := nmLen_rng n j
    omega
  have hs : nmSpot n k = nmSpot n j := by unfold nmSpot; rw [hl]
  have h1 := nm_at n k
  rw [hc, hs, nm_at] at h1
  have h2 := Option.some.inj h1
  unfold ltr at h2
  omega
theorem namesM_len (n : Int) (m : Nat) : (namesM n m).length = m := by unfold namesM; simp
theorem namesM_get {n : Int} {m i : Nat} (h : i < m) : (namesM n m)[i]? = some (nm n i) := by
  unfold namesM
  rw [List.getElem?_map, List.getElem?_eq_getElem (by simpa using h), List.getElem_range]; rfl
theorem namesM_mem {n : Int} {m : Nat} {s : Str} (h : s ∈ namesM n m) : ∃ k : Nat, k < m ∧ s = nm n k := by
  unfold namesM at h
  rw [List.mem_map] at h
  obtain ⟨k, hk, rfl⟩ := h
  exact ⟨k, List.mem_range.mp hk, rfl⟩
theorem namesM_nodup (n : Int) : ∀ {m : Nat}, m ≤ 26 → (namesM n m).Nodup
  | 0, _ => List.nodup_nil
  | m + 1, hm => by
    have e : namesM n (m + 1) = namesM n m ++ [nm n (m : Int)] := by unfold namesM; rw [List.range_succ, List.map_append]; rfl
    rw [e, List.nodup_append]
    refine ⟨namesM_nodup n (by omega), by simp, fun a ha b hb => ?_⟩
    obtain ⟨k, hk, rfl⟩ := namesM_mem ha
    rw [List.mem_singleton.mp hb]
    intro e
    have := nm_inj (k := (k : Int)) (j := (m : Int)) ⟨by omega, by omega⟩ ⟨by omega, by omega⟩ e
    omega
theorem namesM_take (n : Int) {m k : Nat} (h : k ≤ m) : (namesM n m).take k = namesM n k := by
  unfold namesM
  rw [← List.map_take, List.take_range, Nat.min_eq_left h]
theorem joinL_one : ∀ cs : List Nat, joinL [] (cs.map fun c => [c]) = cs
  | [] => rfl
  | [c] => rfl
  | c :: d :: r => by
    show [c] ++ ([] ++ joinL [] ((d :: r).map fun c => [c])) = _
    rw [joinL_one (d :: r)]; rfl
theorem join_codes (cs : List Nat) : Txt.join (Str.ofString "") (cs.map fun c => (⟨#[c]⟩ : Str)) = ⟨cs.toArray⟩ := by
  have h : tl (Txt.join (Str.ofString "") (cs.map fun c => (⟨#[c]⟩ : Str))) = cs := by
    rw [join_eq, tl_join, List.map_map]
    have e1 : tl (Str.ofString "") = [] := by decide +kernel
    rw [e1]
    exact joinL_one cs
  generalize Txt.join (Str.ofString "") (cs.map fun c => (⟨#[c]⟩ : Str)) = x at h
  obtain ⟨a⟩ := x
  have : a.toList = cs := h
  rw [← this]
end DL

set_option maxHeartbeats 2000000
namespace Z
open PySem L2 DL PyProof.Rows
local macro_rules | `(tactic| walk_at "side") => `(tactic| first | assumption | omega | decide | rfl)
local macro_rules | `(tactic| walk_at "ea") => `(tactic| first
  | with_reducible exact ea_nil
  | ((with_reducible refine' ea_cons ?a ?b); (case a => walk_at "ev"); (case b => walk_at "ea")))
local macro_rules | `(tactic| walk_at "ev") => `(tactic| first
  | ((with_reducible refine' ev_var ?a); (case a => exact rfl))
  | with_reducible exact ev_int | with_reducible exact ev_str | with_reducible exact ev_bl | with_reducible exact ev_non | with_reducible exact ev_ref | with_reducible exact ev_ty
  | ((with_reducible refine' ev_add ?a ?b); (case a => walk_at "ev"); (case b => walk_at "ev"))
  | ((with_reducible refine' ev_sub ?a ?b); (case a => walk_at "ev"); (case b => walk_at "ev"))
  | ((with_reducible refine' ev_mul ?a ?b ?c); (case a => walk_at "ev"); (case b => walk_at "ev"); (case c => first | exact .inl ⟨by omega, by omega⟩ | exact .inr ⟨by omega, by omega⟩))
  | ((with_reducible refine' ev_mod ?a ?b ?c); (case a => walk_at "ev"); (case b => walk_at "ev"); (case c => walk_at "side"))
  | ((with_reducible refine' ev_div ?a ?b ?c); (case a => walk_at "ev"); (case b => walk_at "ev"); (case c => constructor <;> walk_at "side"))
  | ((with_reducible refine' ev_pow ?a ?b ?c); (case a => walk_at "ev"); (case b => walk_at "ev"); (case c => exact ⟨by decide, by decide, by decide⟩))
  | ((with_reducible refine' ev_neg ?a); (case a => walk_at "ev"))
  | ((with_reducible refine' ev_lt ?a ?b); (case a => walk_at "ev"); (case b => walk_at "ev"))
  | ((with_reducible refine' ev_le ?a ?b); (case a => walk_at "ev"); (case b => walk_at "ev"))
  | ((with_reducible refine' ev_gt ?a ?b); (case a => walk_at "ev"); (case b => walk_at "ev"))
  | ((with_reducible refine' ev_ge ?a ?b); (case a => walk_at "ev"); (case b => walk_at "ev"))
  | ((with_reducible refine' ev_eqI ?a ?b); (case a => walk_at "ev"); (case b => walk_at "ev"))
  | ((with_reducible refine' ev_eqS ?a ?b); (case a => walk_at "ev"); (case b => walk_at "ev"))
  | ((with_reducible refine' ev_neI ?a ?b); (case a => walk_at "ev"); (case b => walk_at "ev"))
  | ((with_reducible refine' ev_neS ?a ?b); (case a => walk_at "ev"); (case b => walk_at "ev"))
  | ((with_reducible refine' ev_inS ?a ?b); (case a => walk_at "ev"); (case b => walk_at "ev"))
  | ((with_reducible refine' ev_int1 ?a); (case a => walk_at "ea"))
  | ((with_reducible refine' ev_intB ?a); (case a => walk_at "ea"))
  | ((with_reducible refine' ev_lenL ?a); (case a => walk_at "ea"))
  | ((with_reducible refine' ev_lenT ?a); (case a => walk_at "ea"))
  | ((with_reducible refine' ev_lenS ?a ?b); (case a => walk_at "ea"); (case b => walk_at "side"))
  | ((with_reducible refine' ev_tup ?a ?b); (case a => walk_at "ea"); (case b => first | (simp; done) | decide))
  | ((with_reducible refine' ev_chain ?a ?b ?c ?d ?e); (case a => walk_at "ev"); (case b => walk_at "ev"); (case c => walk_at "o2"); (case d => intro _; walk_at "ev"); (case e => intro _; walk_at "o2"))
  | ((with_reducible refine' EvN.lst ?a); (case a => walk_at "en"))
  | ((with_reducible refine' ev_ixL ?a ?b ?c); (case a => walk_at "ev"); (case b => walk_at "ev"); (case c => first | exact rfl | assumption))
  | ((with_reducible refine' ev_ixT ?a ?b ?c); (case a => walk_at "ev"); (case b => walk_at "ev"); (case c => first | exact rfl | assumption))
  | ((with_reducible refine' ev_lenBL ?a); (case a => walk_at "ec"))
  | ((with_reducible refine' ev_lenBD ?a); (case a => walk_at "ec")))
local macro_rules | `(tactic| walk_at "eb") => `(tactic| first
  | ((with_reducible refine' eb_ownL ?a); (case a => exact rfl))
  | ((with_reducible refine' eb_ownD ?a); (case a => exact rfl))
  | ((with_reducible refine' eb_bor ?a); (case a => exact rfl))
  | ((with_reducible refine' eb_dat ?a); (case a => walk_at "ev")))
local macro_rules | `(tactic| walk_at "ec") => `(tactic| first
  | with_reducible exact ec_nil
  | ((with_reducible refine' ec_cons ?a ?b); (case a => walk_at "eb"); (case b => walk_at "ec")))
local macro_rules | `(tactic| walk_at "o2") => `(tactic| first | exact o_lt | exact o_le)
local macro_rules | `(tactic| walk_at "en") => `(tactic| first
  | ((with_reducible refine' en_lst ?a ?b); (case a => walk_at "ea"); (case b => first | (simp; done) | decide)))
local macro_rules | `(tactic| walk_at "et") => `(tactic| first
  | ((with_reducible refine' et_test ?a); (case a => walk_at "ev"))
  | ((with_reducible refine' et_not ?a); (case a => walk_at "et"))
  | ((with_reducible refine' et_and ?a ?b); (case a => walk_at "et"); (case b => intro _; walk_at "et"))
  | ((with_reducible refine' et_or ?a ?b); (case a => walk_at "et"); (case b => intro _; walk_at "et"))
  | ((with_reducible refine' et_truB ?a); (case a => walk_at "ev")))
local macro_rules | `(tactic| walk_at "asg") => `(tactic| ((refine' sd_seq (sd_asg ?t ?r)); (case t => walk_at "ev")))
local macro_rules | `(tactic| walk_at "asgN") => `(tactic| ((refine' sd_seq (sd_asgN ?t mon_oL ?r)); (case t => walk_at "en")))
local macro_rules | `(tactic| walk_at "asg1") => `(tactic| ((refine' sd_asg ?t ?r); (case t => walk_at "ev")))
local macro_rules | `(tactic| walk_at "asgN1") => `(tactic| ((refine' sd_asgN ?t mon_oL ?r); (case t => walk_at "en")))
local macro_rules | `(tactic| walk_at "app") => `(tactic| ((refine' sd_seq (sd_app ?i ?t ?l ?r)); (case i => exact rfl); (case t => walk_at "ev"); (case l => walk_at "side")))
local macro_rules | `(tactic| walk_at "app1") => `(tactic| ((refine' sd_app ?i ?t ?l ?r); (case i => exact rfl); (case t => walk_at "ev"); (case l => walk_at "side")))
local macro_rules | `(tactic| walk_at "ret") => `(tactic| ((refine' sd_ret ?t ?r); (case t => walk_at "ev")))
local macro_rules | `(tactic| walk_at "if") => `(tactic| ((refine' sd_if ?t ?r ?s); (case t => walk_at "et")))
local macro_rules | `(tactic| walk_at "rng") => `(tactic| ((refine' it_rng1 ?t ?u ?v); (case t => walk_at "ea"); (case u => walk_at "side"); (case v => walk_at "side")))
local macro_rules | `(tactic| walk_at "ifq") => `(tactic| ((refine' sd_seq (sd_if ?t ?r ?s)); (case t => walk_at "et")))
def topS (i : Nat) : Stmt := PySem.Challenge.pw_orderatonce_k01_table_pairs.main.body.getD i (.Pass ⟨0, 0, 0, 0⟩)
abbrev st_scIsName : Stmt := topS 10
abbrev N_scIsName : List Str := ["text", "letter"]
theorem scIsName : FnScope N_scIsName ["text"] (defScope st_scIsName) := ⟨rfl, rfl, rfl, by decide +kernel, rfl, by decide +kernel, by decide +kernel⟩

def S_isName : List Bw → Out → Prop := fun ds o => ∃ s : Str, ds = [.dat (.str s)] ∧ s.length ≤ 1000000 ∧ o = .ret (.dat (.bl (nameOk s)))
theorem ok_scIsName {P : Program} {w : World} {K : PySem.W.Frag} {mg : Str → Option Value} {base : Heap} {f : Addr} {fd : FuncData} (F : FunA K "is_name" "is_name" st_scIsName f fd) (hB : NoB mg) (T_LETTERS : ∃ t, mg "LETTERS" = some (.str letters t)) :
    FnOk P w K mg base (L2.CX P w) 1 f fd ["text"] (spR K (S_isName)) := by
  refine fnD F scIsName (fun ds o h => ?_) ?_
  · obtain ⟨_, h, _⟩ := h; rw [h]; rfl
  · intro cdv A outer s H Ex' hr
    have tk : Takes (cxOf (L2.CX P w) P w K mg base N_scIsName "is_name" (defScope st_scIsName) f cdv A outer s H Ex') (fun cls d _ H => Ex' cls d H) := takes_of rfl rfl rfl rfl
    have po := passes_of (X := cxOf (L2.CX P w) P w K mg base N_scIsName "is_name" (defScope st_scIsName) f cdv A outer s H Ex') rfl
    refine ⟨_, (pss_cons (ps_if (pt_not (q_chain op_LE op_LE pe_int (p_lenK K hB (pv 0)) pe_int)) (pss_one (ps_ret pe_bl)) pss_nil)
  (pss_cons (ps_for po rfl (pi_str (pv 0)) (pg_name (i := 1) scIsName.nd rfl (by first | exact Or.inl rfl | exact Or.inr rfl)) (pss_one (ps_if (q_ninK K hr (pv 1) (p_gstr T_LETTERS)) (pss_one (ps_ret pe_bl)) pss_nil)))
  (pss_one (ps_ret pe_bl)))), ?_⟩
    rintro ds o ⟨x, rfl, hl, rfl⟩
    (try dsimp only [cxOf])
    show SD K _ _ _ [.dat (.str x), .no]
    walk_at "ifq"
    · intro hb
      walk_at "ret"
      show Out.ret _ = Out.ret _
      have hb2 : (decide (1 ≤ (x.length : Int)) && decide ((x.length : Int) ≤ 8)) = false := by rw [Bool.not_eq_true'] at hb; exact hb
      unfold nameOk; rw [hb2]; rfl
    · intro hb
      have hb2 : (decide (1 ≤ (x.length : Int)) && decide ((x.length : Int) ≤ 8)) = true := by rw [Bool.not_eq_false'] at hb; exact hb
      refine sd_next ?_
      refine sd_mid (fun δ => (∃ z, δ = [.dat (.str x), z]) ∧ ∀ c ∈ x.cps.toList, c ∈ letters.cps.toList) ?_ ?_
      · refine sd_for (it_str (ev_var rfl)) (fun i δ => (∃ z, δ = [.dat (.str x), z]) ∧ ∀ c ∈ x.cps.toList.take i, c ∈ letters.cps.toList) ?_ ?_ ?_
        · exact ⟨⟨_, rfl⟩, fun c hc => by simp at hc⟩
        · rintro i d δ' hd ⟨⟨z, rfl⟩, hc⟩
          unfold sgnD at hd
          rw [List.getElem?_map] at hd
          cases q : x.cps.toList[i]? with
          | none => rw [q] at hd; cases hd
          | some c =>
            rw [q] at hd; cases hd
            refine ⟨_, tg_name, ?_⟩
            walk_at "if" <;> intro hb
            · walk_at "ret"
              show Out.ret _ = Out.ret _
              have hn : ¬ c ∈ letters.cps.toList := of_decide_eq_false (by simpa using hb)
              unfold nameOk
              rw [show (x.cps.toList.all fun c => decide (c ∈ letters.cps.toList)) = false from by
                rw [List.all_eq_false]
                exact ⟨c, List.mem_of_getElem? q, by simpa using hn⟩, Bool.and_false]
            · refine sd_next ⟨⟨_, rfl⟩, fun e he => ?_⟩
              have hn : c ∈ letters.cps.toList := of_decide_eq_true (by simpa using hb)
              rw [List.take_add_one, q] at he
              rcases List.mem_append.mp he with he | he
              · exact hc e he
              · simp at he; rw [he]; exact hn
        · rintro δ' ⟨hz, hc⟩
          refine ⟨hz, fun c h => hc c ?_⟩
          rw [sgnD_len]
          rw [List.take_of_length_le (by simp [Str.length])]
          exact h
      rintro δ' ⟨⟨z, rfl⟩, hc⟩
      walk_at "ret"
      show Out.ret _ = Out.ret _
      unfold nameOk; rw [hb2, show (x.cps.toList.all fun c => decide (c ∈ letters.cps.toList)) = true from List.all_eq_true.mpr fun c h => decide_eq_true (hc c h)]; rfl

abbrev st_scIsRow : Stmt := topS 11
abbrev N_scIsRow : List Str := ["row", "size", "pair", "answer", "after"]
theorem scIsRow : FnScope N_scIsRow ["row", "size"] (defScope st_scIsRow) := ⟨rfl, rfl, rfl, by decide +kernel, rfl, by decide +kernel, by decide +kernel⟩

def prD (p : Int × Int) : D := .tup [.int p.1, .int p.2]
def rowOk (rs : List (Int × Int)) (size : Int) : Bool := (decide (1 ≤ size) && decide (size ≤ 100)) && decide ((rs.length : Int) = size) && rs.all fun p => (decide (0 ≤ p.1) && decide (p.1 ≤ 9)) && (decide (0 ≤ p.2) && decide (p.2 < size))
def S_isRow : List Bw → Out → Prop := fun ds o => ∃ x : List (Int × Int) × Int, ds = [.dat (.lst (x.1.map prD)), .dat (.int x.2)] ∧ o = .ret (.dat (.bl (rowOk x.1 x.2)))
theorem ok_scIsRow {P : Program} {w : World} {K : PySem.W.Frag} {mg : Str → Option Value} {base : Heap} {f : Addr} {fd : FuncData} (F : FunA K "is_row" "is_row" st_scIsRow f fd) (hB : NoB mg) (T_MOST_STATES : ∃ t, mg "MOST_STATES" = some (.int 100 t)) :
    FnOk P w K mg base (L2.CX P w) 1 f fd ["row", "size"] (spR K (S_isRow)) := by
  refine fnD F scIsRow (fun ds o h => ?_) ?_
  · obtain ⟨_, h, _⟩ := h; rw [h]; rfl
  · intro cdv A outer s H Ex' hr
    have tk : Takes (cxOf (L2.CX P w) P w K mg base N_scIsRow "is_row" (defScope st_scIsRow) f cdv A outer s H Ex') (fun cls d _ H => Ex' cls d H) := takes_of rfl rfl rfl rfl
    have po := passes_of (X := cxOf (L2.CX P w) P w K mg base N_scIsRow "is_row" (defScope st_scIsRow) f cdv A outer s H Ex') rfl
    refine ⟨_, (pss_cons (ps_if (PW.pt (pw_or (pt_not (q_chain op_LE op_LE pe_int (pv 1) (p_gint T_MOST_STATES))) (pw_or1 (q_neK K hr (p_lenK K hB (pv 0)) (pv 1))))) (pss_one (ps_ret pe_bl)) pss_nil)
  (pss_cons (ps_for po rfl (pi_listK K (pv 0)) (pg_name (i := 2) scIsRow.nd rfl (by first | exact Or.inl rfl | exact Or.inr rfl)) (pss_cons (ps_if (q_neK K hr (p_lenK K hB (pv 2)) pe_int) (pss_one (ps_ret pe_bl)) pss_nil)
  (pss_cons (ps_asg (pv 2) (pg_tupK K rfl (pgs_cons (pg_name (i := 3) scIsRow.nd rfl (by first | exact Or.inl rfl | exact Or.inr rfl)) (pgs_cons (pg_name (i := 4) scIsRow.nd rfl (by first | exact Or.inl rfl | exact Or.inr rfl)) pgs_nil))))
  (pss_one (ps_if (PW.pt (pw_or (pt_not (q_chain op_LE op_LE pe_int (pv 3) pe_int)) (pw_or1 (pt_not (q_chain op_LE op_LT pe_int (pv 4) (pv 1)))))) (pss_one (ps_ret pe_bl)) pss_nil)))))
  (pss_one (ps_ret pe_bl)))), ?_⟩
    rintro ds o ⟨⟨rs, size⟩, rfl, rfl⟩
    (try dsimp only [cxOf])
    show SD K _ _ _ [.dat (.lst (rs.map prD)), .dat (.int size), .no, .no, .no]
    walk_at "ifq"
    · intro hb
      walk_at "ret"
      show Out.ret _ = Out.ret _
      rw [List.length_map] at hb
      have : ((decide (1 ≤ size) && decide (size ≤ 100)) && decide ((rs.length : Int) = size)) = false := by
        cases h1 : (decide (1 ≤ size) && decide (size ≤ 100)) <;> cases h2 : decide ((rs.length : Int) = size) <;> simp_all
      show Out.ret (.dat (.bl (rowOk rs size))) = _
      unfold rowOk; rw [this]; rfl
    · intro hb
      rw [List.length_map] at hb
      have hb2 : ((decide (1 ≤ size) && decide (size ≤ 100)) && decide ((rs.length : Int) = size)) = true := by
        cases h1 : (decide (1 ≤ size) && decide (size ≤ 100)) <;> cases h2 : decide ((rs.length : Int) = size) <;> simp_all
      refine sd_next ?_
      refine sd_mid (fun δ => (∃ u v z, δ = [.dat (.lst (rs.map prD)), .dat (.int size), u, v, z]) ∧ ∀ p ∈ rs, ((decide (0 ≤ p.1) && decide (p.1 ≤ 9)) && (decide (0 ≤ p.2) && decide (p.2 < size))) = true) ?_ ?_
      · refine sd_for (it_lst (ev_var rfl)) (fun i δ => (∃ u v z, δ = [.dat (.lst (rs.map prD)), .dat (.int size), u, v, z]) ∧ ∀ p ∈ rs.take i, ((decide (0 ≤ p.1) && decide (p.1 ≤ 9)) && (decide (0 ≤ p.2) && decide (p.2 < size))) = true) ?_ ?_ ?_
        · exact ⟨⟨_, _, _, rfl⟩, fun c hc => by simp at hc⟩
        · rintro i d δ' hd ⟨⟨u, v, z, rfl⟩, hc⟩
          rw [List.getElem?_map] at hd
          cases q : rs[i]? with
          | none => rw [q] at hd; cases hd
          | some c =>
            rw [q] at hd; cases hd
            refine ⟨_, tg_name, ?_⟩
            walk_at "ifq"
            · intro hb; simp at hb
            · intro _
              refine sd_next ?_
              refine sd_seq (sd_asgT (ev_var (d := prD c) rfl) tg_tup2 ?_)
              walk_at "if" <;> intro hb
              · walk_at "ret"
                show Out.ret (.dat (.bl (rowOk rs size))) = Out.ret _
                have hn : ((decide (0 ≤ c.1) && decide (c.1 ≤ 9)) && (decide (0 ≤ c.2) && decide (c.2 < size))) = false := by
                  cases h1 : (decide (0 ≤ c.1) && decide (c.1 ≤ 9)) <;> cases h2 : (decide (0 ≤ c.2) && decide (c.2 < size)) <;> simp_all
                unfold rowOk
                rw [show (rs.all fun p => ((decide (0 ≤ p.1) && decide (p.1 ≤ 9)) && (decide (0 ≤ p.2) && decide (p.2 < size)))) = false from by
                  rw [List.all_eq_false]
                  exact ⟨c, List.mem_of_getElem? q, by rw [hn]; exact Bool.false_ne_true⟩, Bool.and_false]
              · refine sd_next ⟨⟨_, _, _, rfl⟩, fun e he => ?_⟩
                have hn : ((decide (0 ≤ c.1) && decide (c.1 ≤ 9)) && (decide (0 ≤ c.2) && decide (c.2 < size))) = true := by
                  cases h1 : (decide (0 ≤ c.1) && decide (c.1 ≤ 9)) <;> cases h2 : (decide (0 ≤ c.2) && decide (c.2 < size)) <;> simp_all
                rw [List.take_add_one, q] at he
                rcases List.mem_append.mp he with he | he
                · exact hc e he
                · simp at he; rw [he]; exact hn
        · rintro δ' ⟨hz, hc⟩
          refine ⟨hz, fun c h => hc c ?_⟩
          rw [List.length_map, List.take_of_length_le (Nat.le_refl _)]
          exact h
      rintro δ' ⟨⟨u, v, z, rfl⟩, hc⟩
      walk_at "ret"
      show Out.ret (.dat (.bl (rowOk rs size))) = Out.ret _
      unfold rowOk; rw [hb2, List.all_eq_true.mpr hc]; rfl

abbrev st_scRow : Stmt := topS 14
abbrev N_scRow : List Str := ["_law_script", "_law_k", "_law_many", "_law_cell", "_law_great", "_law_left", "_law_row_here", "_law_at"]
theorem scRow : FnScope N_scRow ["_law_script", "_law_k", "_law_many"] (defScope st_scRow) := ⟨rfl, rfl, rfl, by decide +kernel, rfl, by decide +kernel, by decide +kernel⟩

/-! the row of drawn numbers -/
def cellM (ns : List Int) (k : Int) : Int := if k < (ns.length : Int) then ns.getD k.toNat 0 else 0
def stepL (gr : Bool) (l : Int) (i : Int) : Int := if gr then l else ((l * 48271 + 11 * i + 7) % 2147483647 * 69621 + 5 * i + 3) % 2147483647
def rowGo (gr : Bool) (l0 : Int) : Nat → Int × List Int
  | 0 => (l0, [])
  | n + 1 => (if gr then stepL gr (rowGo gr l0 n).1 n / 10000000 else stepL gr (rowGo gr l0 n).1 n, (rowGo gr l0 n).2 ++ [stepL gr (rowGo gr l0 n).1 n % 10000000])
def rowM (ns : List Int) (k : Int) (many : Nat) : List Int := (rowGo (decide (10 ^ 18 ≤ cellM ns k)) (if 10 ^ 18 ≤ cellM ns k then cellM ns k - 10 ^ 18 else cellM ns k + 7919 * k) many).2
theorem rowGo_len (gr : Bool) (l : Int) : ∀ n, (rowGo gr l n).2.length = n
  | 0 => rfl
  | n + 1 => by simp [rowGo, rowGo_len gr l n]
theorem rowM_len (ns : List Int) (k : Int) (n : Nat) : (rowM ns k n).length = n := rowGo_len _ _ n
theorem rowGo_rng (gr : Bool) (l : Int) : ∀ n, ∀ x ∈ (rowGo gr l n).2, 0 ≤ x ∧ x < 10000000
  | 0 => by intro x hx; cases hx
  | n + 1 => by
    intro x hx
    rcases List.mem_append.mp (show x ∈ (rowGo gr l n).2 ++ [stepL gr (rowGo gr l n).1 n % 10000000] from hx) with h | h
    · exact rowGo_rng gr l n x h
    · rw [List.mem_singleton.mp h]; omega
theorem rowM_rng (ns : List Int) (k : Int) (n : Nat) : ∀ x ∈ rowM ns k n, 0 ≤ x ∧ x < 10000000 := rowGo_rng _ _ n
def S_row (K : PySem.W.Frag) : List Bw → Out → Prop := fun ds o => ∃ (x : List Int × Int × Nat), ds = [.dat (.lst (x.1.map D.int)), .dat (.int x.2.1), .dat (.int x.2.2)] ∧ x.1.length ≤ 1000 ∧ 0 ≤ x.2.1 ∧ x.2.1 ≤ 1000 ∧ x.2.2 ≤ 1000 ∧ o = .ret (.own (oL K ((rowM x.1 x.2.1 x.2.2).map D.int)))
theorem ok_scRow {P : Program} {w : World} {K : PySem.W.Frag} {mg : Str → Option Value} {base : Heap} {f : Addr} {fd : FuncData} (F : FunA K "_law_row" "_law_row" st_scRow f fd) (hB : NoB mg)  :
    FnOk P w K mg base (L2.CX P w) 1 f fd ["_law_script", "_law_k", "_law_many"] (spR K (S_row K)) := by
  refine fnD F scRow (fun ds o h => ?_) ?_
  · obtain ⟨_, h, _⟩ := h; rw [h]; rfl
  · intro cdv A outer s H Ex' hr
    have tk : Takes (cxOf (L2.CX P w) P w K mg base N_scRow "_law_row" (defScope st_scRow) f cdv A outer s H Ex') (fun cls d _ H => Ex' cls d H) := takes_of rfl rfl rfl rfl
    have po := passes_of (X := cxOf (L2.CX P w) P w K mg base N_scRow "_law_row" (defScope st_scRow) f cdv A outer s H Ex') rfl
    refine ⟨_, (pss_cons (ps_set (i := 3) scRow.nd rfl (by first | exact Or.inl rfl | exact Or.inr rfl) pe_int)
  (pss_cons (ps_if (q_lt (pv 1) (p_lenK K hB (pv 0))) (pss_one (ps_set (i := 3) scRow.nd rfl (by first | exact Or.inl rfl | exact Or.inr rfl) (p_int hB (p_ixK K hr (pv 0) (pv 1))))) pss_nil)
  (pss_cons (ps_set (i := 4) scRow.nd rfl (by first | exact Or.inl rfl | exact Or.inr rfl) (p_ge (pv 3) (p_pow pe_int pe_int)))
  (pss_cons (ps_set (i := 5) scRow.nd rfl (by first | exact Or.inl rfl | exact Or.inr rfl) (p_ixK K hr (pe_lst (pa_cons (p_addK K (pv 3) (p_mul pe_int (pv 1))) (pa_cons (p_sub (pv 3) (p_pow pe_int pe_int)) pa_nil))) (p_int hB (pv 4))))
  (pss_cons (ps_set (i := 6) scRow.nd rfl (by first | exact Or.inl rfl | exact Or.inr rfl) (pe_lst pa_nil))
  (pss_cons (ps_for po rfl (i_rng1 hB (pv 2)) (pg_name (i := 7) scRow.nd rfl (by first | exact Or.inl rfl | exact Or.inr rfl)) (pss_cons (ps_if (pt_not (q_truK K (pv 4))) (pss_cons (ps_set (i := 5) scRow.nd rfl (by first | exact Or.inl rfl | exact Or.inr rfl) (p_mod (p_int hB (p_addK K (p_addK K (p_mul (pv 5) pe_int) (p_mul pe_int (pv 7))) pe_int)) pe_int))
  (pss_one (ps_set (i := 5) scRow.nd rfl (by first | exact Or.inl rfl | exact Or.inr rfl) (p_mod (p_int hB (p_addK K (p_addK K (p_mul (pv 5) pe_int) (p_mul pe_int (pv 7))) pe_int)) pe_int)))) pss_nil)
  (pss_cons (ps_expr (pe_bm PySem.F.plainAttrs_list PySem.F.slot_list_append PySem.F.type_list_append mt_append (pv 6) (pa_cons (p_mod (p_int hB (pv 5)) pe_int) pa_nil)))
  (pss_one (ps_if (q_truK K (pv 4)) (pss_one (ps_set (i := 5) scRow.nd rfl (by first | exact Or.inl rfl | exact Or.inr rfl) (p_div (pv 5) pe_int))) pss_nil)))))
  (pss_one (ps_ret (pv 6))))))))), ?_⟩
    rintro ds o ⟨⟨ns, k, m⟩, rfl, h1, h2, h3, h4, rfl⟩
    (try dsimp only [cxOf])
    dsimp only at h1 h2 h3 h4
    show SD K _ _ _ [.dat (.lst (ns.map D.int)), .dat (.int k), .dat (.int m), .no, .no, .no, .no, .no]
    -- cell
    walk_at "asg"
    refine sd_to [.dat (.lst (ns.map D.int)), .dat (.int k), .dat (.int m), .dat (.int (cellM ns k)), .no, .no, .no, .no] ?_ ?_
    · walk_at "if" <;> intro hb
      · have hk : k < (ns.length : Int) := by simpa using hb
        have hg : atI (ns.map D.int) k = some (.int (ns.getD k.toNat 0)) := by
          have hj : k.toNat < ns.length := by omega
          have q := atI_nat (xs := ns.map D.int) (j := k.toNat) (v := .int (ns.getD k.toNat 0)) (by rw [List.getElem?_map, List.getElem?_eq_getElem hj]; simp [List.getD, List.getElem?_eq_getElem hj])
          rwa [Int.toNat_of_nonneg h2] at q
        refine sd_asg (d := .int (cellM ns k)) (ev_int1 (ea_cons (ev_ixL (by walk_at "ev") (by walk_at "ev") (d := .int (cellM ns k)) ?_) ea_nil)) rfl
        rw [hg]; unfold cellM; rw [if_pos hk]
      · have hk : ¬ k < (ns.length : Int) := by simpa using hb
        refine sd_next ?_
        show _ = _
        unfold cellM; rw [if_neg hk]
        rfl
    -- great
    walk_at "asg"
    -- left
    generalize hc : cellM ns k = c
    generalize hgr : decide ((10 : Int) ^ (18 : Int).toNat ≤ c) = gr
    have hgr' : decide ((10 : Int) ^ 18 ≤ c) = gr := hgr
    refine sd_to [.dat (.lst (ns.map D.int)), .dat (.int k), .dat (.int m), .dat (.int c), .dat (.bl gr), .dat (.int (if (10 : Int) ^ 18 ≤ c then c - 10 ^ 18 else c + 7919 * k)), .no, .no] ?_ ?_
    · refine' sd_asg (ev_ixL ?t1 ?t2 ?t3) rfl; (case t1 => walk_at "ev"); (case t2 => walk_at "ev")
      cases gr with
      | true => rw [if_pos (of_decide_eq_true hgr')]; rfl
      | false => rw [if_neg (of_decide_eq_false hgr')]; rfl
    generalize hl0 : (if (10 : Int) ^ 18 ≤ c then c - 10 ^ 18 else c + 7919 * k) = l0
    have hrow : rowM ns k m = (rowGo gr l0 m).2 := by unfold rowM; rw [hc, hgr', hl0]
    walk_at "asgN"
    -- the loop
    refine sd_mid (fun δ => ∃ s5 s7, δ = [.dat (.lst (ns.map D.int)), .dat (.int k), .dat (.int m), .dat (.int c), .dat (.bl gr), s5, .own (oL K ((rowGo gr l0 m).2.map D.int)), s7]) ?_ ?_
    · refine' sd_for ?it (fun i δ => ∃ s7, δ = [.dat (.lst (ns.map D.int)), .dat (.int k), .dat (.int m), .dat (.int c), .dat (.bl gr), .dat (.int (rowGo gr l0 i).1), .own (oL K ((rowGo gr l0 i).2.map D.int)), s7]) ?_ ?_ ?_
      (case it => walk_at "rng")
      · exact ⟨.no, rfl⟩
      · rintro i d δ' hd ⟨s7, rfl⟩
        obtain ⟨hi, rfl⟩ := rngD_get hd
        have e0 : (0 : Int) + (i : Int) = (i : Int) := Int.zero_add _
        rw [e0]
        refine ⟨_, tg_name, ?_⟩
        refine sd_to [.dat (.lst (ns.map D.int)), .dat (.int k), .dat (.int m), .dat (.int c), .dat (.bl gr), .dat (.int (stepL gr (rowGo gr l0 i).1 i)), .own (oL K ((rowGo gr l0 i).2.map D.int)), .dat (.int i)] ?_ ?_
        · walk_at "if" <;> intro hb
          · have hg : gr = false := by simpa using hb
            walk_at "asg"
            walk_at "asg1"
            show _ = _
            unfold stepL; rw [hg]; rfl
          · have hg : gr = true := by simpa using hb
            refine sd_next ?_
            show _ = _
            unfold stepL; rw [hg]; rfl
        have hlen : (rowGo gr l0 i).2.length = i := rowGo_len gr l0 i
        refine' sd_seq (sd_app rfl ?u1 ?u2 ?u3); (case u1 => walk_at "ev"); (case u2 => rw [List.length_map]; omega)
        walk_at "if" <;> intro hb
        · walk_at "asg1"
          refine ⟨.dat (.int i), ?_⟩
          simp only [rowGo, hb, if_true, List.map_append]; rfl
        · refine sd_next ⟨.dat (.int i), ?_⟩
          simp only [rowGo, hb, List.map_append]; rfl
      · rintro δ' ⟨s7, rfl⟩
        rw [rngD_len]
        exact ⟨_, s7, rfl⟩
    rintro δ' ⟨s5, s7, rfl⟩
    show SD K _ _ (endsOf (.ret (.own (oL K ((rowM ns k m).map D.int))))) _
    rw [hrow]
    exact sd_retO rfl rfl

abbrev st_scNames : Stmt := topS 15
abbrev N_scNames : List Str := ["_law_number", "_law_many", "_law_letters", "_law_size", "_law_names_here", "_law_k", "_law_length", "_law_name", "_law_spot", "_law_at"]
theorem scNames : FnScope N_scNames ["_law_number", "_law_many"] (defScope st_scNames) := ⟨rfl, rfl, rfl, by decide +kernel, rfl, by decide +kernel, by decide +kernel⟩

def S_names (K : PySem.W.Frag) : List Bw → Out → Prop := fun ds o => ∃ (x : Int × Nat), ds = [.dat (.int x.1), .dat (.int x.2)] ∧ 0 ≤ x.1 ∧ x.2 ≤ 26 ∧ o = .ret (.own (oL K ((namesM x.1 x.2).map D.str)))
theorem namesM_succ (n : Int) (m : Nat) : namesM n (m + 1) = namesM n m ++ [nm n (m : Int)] := by unfold namesM; rw [List.range_succ, List.map_append]; rfl
theorem ok_scNames {P : Program} {w : World} {K : PySem.W.Frag} {mg : Str → Option Value} {base : Heap} {f : Addr} {fd : FuncData} (F : FunA K "_law_names" "_law_names" st_scNames f fd) (hB : NoB mg)  :
    FnOk P w K mg base (L2.CX P w) 1 f fd ["_law_number", "_law_many"] (spR K (S_names K)) := by
  refine fnD F scNames (fun ds o h => ?_) ?_
  · obtain ⟨_, h, _⟩ := h; rw [h]; rfl
  · intro cdv A outer s H Ex' hr
    have tk : Takes (cxOf (L2.CX P w) P w K mg base N_scNames "_law_names" (defScope st_scNames) f cdv A outer s H Ex') (fun cls d _ H => Ex' cls d H) := takes_of rfl rfl rfl rfl
    have po := passes_of (X := cxOf (L2.CX P w) P w K mg base N_scNames "_law_names" (defScope st_scNames) f cdv A outer s H Ex') rfl
    refine ⟨_, (pss_cons (ps_set (i := 2) scNames.nd rfl (by first | exact Or.inl rfl | exact Or.inr rfl) pe_str)
  (pss_cons (ps_set (i := 3) scNames.nd rfl (by first | exact Or.inl rfl | exact Or.inr rfl) (p_addK K pe_int (p_mod (p_div (p_int hB (pv 0)) pe_int) pe_int)))
  (pss_cons (ps_set (i := 4) scNames.nd rfl (by first | exact Or.inl rfl | exact Or.inr rfl) (pe_lst pa_nil))
  (pss_cons (ps_for po rfl (i_rng1 hB (pv 1)) (pg_name (i := 5) scNames.nd rfl (by first | exact Or.inl rfl | exact Or.inr rfl)) (pss_cons (ps_set (i := 6) scNames.nd rfl (by first | exact Or.inl rfl | exact Or.inr rfl) (pv 3))
  (pss_cons (ps_if (q_eqK K hr (p_mod (p_int hB (pv 0)) pe_int) pe_int) (pss_one (ps_set (i := 6) scNames.nd rfl (by first | exact Or.inl rfl | exact Or.inr rfl) (p_addK K pe_int (p_mod (p_addK K (pv 3) (pv 5)) pe_int)))) pss_nil)
  (pss_cons (ps_setLc (i := 7) (own := [("_law_at", 9)]) rfl scNames.nd rfl rfl (sw_true rfl rfl rfl (by decide +kernel)) (i_rng1 hB (pv 6)) (blkOk_by (own := [("_law_at", 9)]) (N := N_scNames) (sc := defScope st_scNames) (by decide +kernel)) (fun _ _ _ _ _ => (pg_name (i := 9) scNames.nd rfl (by first | exact Or.inl rfl | exact Or.inr rfl))) (fun _ _ _ _ _ => pts_nil) (fun _ _ _ _ _ => (p_ixK K hr (pv 2) (p_mod (p_int hB (p_addK K (p_div (pv 0) pe_int) (pv 9))) pe_int))))
  (pss_cons (ps_set (i := 8) scNames.nd rfl (by first | exact Or.inl rfl | exact Or.inr rfl) (p_mod (p_mod (p_int hB (p_div (pv 0) pe_int)) (pv 3)) (pv 6)))
  (pss_cons (ps_asg (p_ixK K hr (pv 2) (p_mod (p_int hB (p_addK K (p_div (pv 0) pe_int) (pv 5))) pe_int)) (pg_sub (pv 7) (pv 8) set_list))
  (pss_one (ps_expr (pe_bm PySem.F.plainAttrs_list PySem.F.slot_list_append PySem.F.type_list_append mt_append (pv 4) (pa_cons (pe_join pe_str (pv 7)) pa_nil))))))))))
  (pss_one (ps_ret (pv 4))))))), ?_⟩
    rintro ds o ⟨⟨n, m⟩, rfl, h1, h2, rfl⟩
    (try dsimp only [cxOf])
    dsimp only at h1 h2
    show SD K _ _ _ [.dat (.int n), .dat (.int m), .no, .no, .no, .no, .no, .no, .no, .no]
    walk_at "asg"
    walk_at "asg"
    walk_at "asgN"
    refine sd_mid (fun δ => ∃ s5 s6 s7 s8 s9, δ = [.dat (.int n), .dat (.int m), .dat (.str letters), .dat (.int (nmSize n)), .own (oL K ((namesM n m).map D.str)), s5, s6, s7, s8, s9]) ?_ ?_
    · refine' sd_for ?it (fun i δ => ∃ s5 s6 s7 s8, δ = [.dat (.int n), .dat (.int m), .dat (.str letters), .dat (.int (nmSize n)), .own (oL K ((namesM n i).map D.str)), s5, s6, s7, s8, .no]) ?_ ?_ ?_
      (case it => walk_at "rng")
      · exact ⟨_, _, _, _, rfl⟩
      · rintro i d δ' hd ⟨s5, s6, s7, s8, rfl⟩
        obtain ⟨hi, rfl⟩ := rngD_get hd
        have e0 : (0 : Int) + (i : Int) = (i : Int) := Int.zero_add _
        rw [e0]
        have hz := nmSize_rng n
        have hln := nmLen_rng n i
        have hsp := nmSpot_rng n i
        refine ⟨_, tg_name, ?_⟩
        walk_at "asg"
        refine sd_to [.dat (.int n), .dat (.int m), .dat (.str letters), .dat (.int (nmSize n)), .own (oL K ((namesM n i).map D.str)), .dat (.int i), .dat (.int (nmLen n i)), s7, s8, .no] ?_ ?_
        · walk_at "if" <;> intro hb
          · walk_at "asg1"
            show _ = _
            unfold nmLen; rw [if_pos (of_decide_eq_true hb)]; rfl
          · refine sd_next ?_
            show _ = _
            unfold nmLen; rw [if_neg (of_decide_eq_false hb)]; rfl
        -- the letters
        refine sd_to [.dat (.int n), .dat (.int m), .dat (.str letters), .dat (.int (nmSize n)), .own (oL K ((namesM n i).map D.str)), .dat (.int i), .dat (.int (nmLen n i)), .own (oL K (((nmBase n i).map fun c => (⟨#[c]⟩ : Str)).map D.str)), s8, .no] ?_ ?_
        · have hit : ItD K (iRng1 (tCons (tVar 6) tNil)) [.dat (.int n), .dat (.int m), .dat (.str letters), .dat (.int (nmSize n)), .own (oL K ((namesM n i).map D.str)), .dat (.int i), .dat (.int (nmLen n i)), s7, s8, .no] (rngD 0 (nmLen n i).toNat) := it_rng1 (ea_cons (ev_var rfl) ea_nil) (by omega) (by omega)
          have hgv : givD (fun _ => true) (fun a => D.str ⟨#[ltr (n / 7 + (a : Int))]⟩) (rngD 0 (nmLen n i).toNat).length = ((nmBase n i).map fun c => (⟨#[c]⟩ : Str)).map D.str := by
            rw [rngD_len]
            unfold nmBase
            induction (nmLen n i).toNat with
            | zero => rfl
            | succ q ih => rw [givD_yes rfl, ih, List.range_succ]; simp
          rw [← hgv]
          refine sd_asgN (en_lc hit rfl (by rw [rngD_len]; omega) (fun _ => true) (fun a => D.str ⟨#[ltr (n / 7 + (a : Int))]⟩) fun a d hd => ?_) mon_oL rfl
          obtain ⟨ha, rfl⟩ := rngD_get hd
          refine ⟨_, tc_name, rfl, et_yes, fun _ => ?_⟩
          rw [Int.zero_add]
          refine' ev_ixS (i := (n / 7 + (a : Int)) % 26) ?t1 ?t2 ?t3 ?t4
          (case t1 => walk_at "ev")
          (case t2 => walk_at "ev")
          (case t3 => decide +kernel)
          (case t4 => exact letters_at (by omega) (by omega))
        -- the spot
        refine' sd_seq (sd_asg (d := .int (nmSpot n i)) (ev_mod (ev_mod (ev_int1 (ea_cons (ev_div ?q1 ?q2 ?q3) ea_nil)) ?q4 ?q5) ?q6 ?q7) ?q8)
        (case q1 => walk_at "ev")
        (case q2 => walk_at "ev")
        (case q3 => constructor <;> decide)
        (case q4 => walk_at "ev")
        (case q5 => omega)
        (case q6 => walk_at "ev")
        (case q7 => omega)
        -- the letter in the spot
        have hix : ixN (((nmBase n i).map fun c => (⟨#[c]⟩ : Str)).map D.str).length (nmSpot n i) = some (nmSpot n i).toNat := by
          rw [List.length_map, List.length_map, nmBase_len]
          unfold ixN
          rw [if_pos (by omega)]
          first | rfl | (rw [if_pos (by omega)])
        refine' sd_seq (sd_setL rfl (ev_ixS (i := (n / 128 + (i : Int)) % 26) ?r1 ?r2 ?r3 (letters_at (by omega) (by omega))) (ev_var rfl) hix ?r4)
        (case r1 => walk_at "ev")
        (case r2 => walk_at "ev")
        (case r3 => decide +kernel)
        -- the name
        have hset : ((((nmBase n i).map fun c => (⟨#[c]⟩ : Str)).map D.str).set (nmSpot n i).toNat (.str ⟨#[97 + ((n / 128 + (i : Int)) % 26).toNat]⟩)) = ((nmCodes n i).map fun c => (⟨#[c]⟩ : Str)).map D.str := by
          unfold nmCodes ltr
          rw [List.map_set, List.map_set]
        show SD K _ _ _ [.dat (.int n), .dat (.int m), .dat (.str letters), .dat (.int (nmSize n)), .own (oL K ((namesM n i).map D.str)), .dat (.int i), .dat (.int (nmLen n i)), .own (oL K ((((nmBase n i).map fun c => (⟨#[c]⟩ : Str)).map D.str).set (nmSpot n i).toNat (.str ⟨#[97 + ((n / 128 + (i : Int)) % 26).toNat]⟩))), .dat (.int (nmSpot n i)), .no]
        rw [hset]
        have hj := join_codes (nmCodes n i)
        have hsz : ((((nmCodes n i).map fun c => (⟨#[c]⟩ : Str)).map (·.length)).sum + ((nmCodes n i).map fun c => (⟨#[c]⟩ : Str)).length * (Str.ofString "").length ≤ 16777216) := by
          have e1 : (Str.ofString "").length = 0 := by decide +kernel
          have e2 : ((nmCodes n i).map fun c => (⟨#[c]⟩ : Str)).map (·.length) = (nmCodes n i).map fun _ => 1 := by rw [List.map_map]; rfl
          rw [e1, Nat.mul_zero, e2, List.map_const', List.sum_replicate_nat, nmCodes_len]
          omega
        refine sd_app (d := .str (nm n i)) rfl (ev_is (ev_joinO ev_str rfl hsz) (by rw [hj]; rfl)) (by rw [List.length_map, namesM_len]; omega) ⟨.dat (.int i), .dat (.int (nmLen n i)), .own (oL K (((nmCodes n i).map fun c => (⟨#[c]⟩ : Str)).map D.str)), .dat (.int (nmSpot n i)), ?_⟩
        rw [namesM_succ, List.map_append]; rfl
      · rintro δ' ⟨s5, s6, s7, s8, rfl⟩
        rw [rngD_len]
        exact ⟨s5, s6, s7, s8, _, rfl⟩
    rintro δ' ⟨s5, s6, s7, s8, s9, rfl⟩
    exact sd_retO rfl rfl

abbrev st_scWhole : Stmt := topS 16
abbrev N_scWhole : List Str := ["_law_told_here"]
theorem scWhole : FnScope N_scWhole ["_law_told_here"] (defScope st_scWhole) := ⟨rfl, rfl, rfl, by decide +kernel, rfl, by decide +kernel, by decide +kernel⟩

def isWhole : D → Bool
  | .int _ => true
  | _ => false
def S_whole : List Bw → Out → Prop := fun ds o => ∃ d : D, ds = [.dat d] ∧ (∃ n, tyD d = some n) ∧ o = .ret (.dat (.bl (isWhole d)))
theorem ok_scWhole {P : Program} {w : World} {K : PySem.W.Frag} {mg : Str → Option Value} {base : Heap} {f : Addr} {fd : FuncData} (F : FunA K "_law_whole" "_law_whole" st_scWhole f fd) (hB : NoB mg)  :
    FnOk P w K mg base (L2.CX P w) 1 f fd ["_law_told_here"] (spR K (S_whole)) := by
  refine fnD F scWhole (fun ds o h => ?_) ?_
  · obtain ⟨_, h, _⟩ := h; rw [h]; rfl
  · intro cdv A outer s H Ex' hr
    have tk : Takes (cxOf (L2.CX P w) P w K mg base N_scWhole "_law_whole" (defScope st_scWhole) f cdv A outer s H Ex') (fun cls d _ H => Ex' cls d H) := takes_of rfl rfl rfl rfl
    have po := passes_of (X := cxOf (L2.CX P w) P w K mg base N_scWhole "_law_whole" (defScope st_scWhole) f cdv A outer s H Ex') rfl
    refine ⟨_, (pss_one (ps_ret (pe_and (p_isiK K hB (pv 0) (p_tyI hB)) (pe_one (pe_not (p_isiK K hB (pv 0) (p_tyB hB))))))), ?_⟩
    rintro ds o ⟨d, rfl, ⟨n, hn⟩, rfl⟩
    (try dsimp only [cxOf])
    show SD K _ _ _ [.dat d]
    have e : EvD K (tVar 0) [.dat d] d := ev_var rfl
    cases d <;> simp only [tyD, reduceCtorEq] at hn <;> (refine sd_ret (ev_andV (ev_isi (ea_cons e (ea_cons ev_ty ea_nil)) rfl (by first | exact (rfl : _ = some true) | exact (rfl : _ = some false))) fun _ => ev_notV (ev_isi (ea_cons e (ea_cons ev_ty ea_nil)) rfl (by first | exact (rfl : _ = some true) | exact (rfl : _ = some false)))) ?_; rfl)

abbrev st_scTab : Stmt := inClass (topS 12) 0
abbrev N_scTab : List Str := ["self", "rows", "start", "lines", "size", "name", "row"]
theorem scTab : FnScope N_scTab ["self", "rows", "start"] (defScope st_scTab) := ⟨rfl, rfl, rfl, by decide +kernel, rfl, by decide +kernel, by decide +kernel⟩

def rowB (r : List (Int × Int)) : Bw := .lst (r.map fun p => .dat (prD p))
def rowD (r : List (Int × Int)) : D := .lst (r.map prD)
def tSize : List (List (Int × Int)) → Int
  | [] => -1
  | r :: _ => r.length
def lineOk (sz : Int) (p : Str × List (Int × Int)) : Bool := nameOk p.1 && rowOk p.2 sz
def firstBad (names : List Str) (rss : List (List (Int × Int))) : Option Str := ((names.zip rss).find? fun p => !lineOk (tSize rss) p).map (·.1)
def tabM (CB : Addr) (names : List Str) (rss : List (List (Int × Int))) (start : Int) : OutI :=
  if 1 ≤ names.length ∧ names.length ≤ 6 then
    match firstBad names rss with
    | some n => .exc ⟨CB, ["name"], [.str n]⟩
    | none => if 0 ≤ start ∧ start < tSize rss then .ok ["lines", "size", "start"] [.dic (names.map .inr) (rss.map rowD), .int (tSize rss), .int start] else .exc ⟨CB, ["name"], [.str ""]⟩
  else .exc ⟨CB, ["name"], [.str ""]⟩
def S_tab (CB : Addr) : List Bw → OutI → Prop := fun bs o => ∃ (x : List Str × List (List (Int × Int)) × Int), bs = [.dic (x.1.map .inr) (x.2.1.map rowB), .dat (.int x.2.2)] ∧ x.1.length = x.2.1.length ∧ x.1.Nodup ∧ (∀ s ∈ x.1, s.length ≤ 1000000 ∧ RepD (.str s)) ∧ o = tabM CB x.1 x.2.1 x.2.2
theorem dgetB_at {α : Type} {g : α → Bw} : ∀ {names : List Str} {rss : List α} {j : Nat} {s : Str} {r : α}, names.Nodup → names[j]? = some s → rss[j]? = some r → dgetB (names.map .inr) (rss.map g) (.inr s) = some (g r)
  | [], rss, j, s, r, _, h, _ => by simp at h
  | n :: names, [], j, s, r, _, _, h => by simp at h
  | n :: names, q :: rss, 0, s, r, _, h1, h2 => by
    simp at h1 h2
    subst h1 h2
    simp [dgetB]
  | n :: names, q :: rss, j + 1, s, r, hn, h1, h2 => by
    have hne : ¬ n = s := fun z => by
      subst z
      exact (List.nodup_cons.mp hn).1 (List.mem_of_getElem? (by simpa using h1))
    have ih := dgetB_at (g := g) (names := names) (rss := rss) (j := j) (List.nodup_cons.mp hn).2 (by simpa using h1) (by simpa using h2)
    unfold dgetB at ih ⊢
    simp only [List.map_cons, List.zip_cons_cons, List.find?_cons]
    have : ¬ (Sum.inr n : Key) = Sum.inr s := fun z => hne (Sum.inr.inj z)
    simp only [this, decide_false]
    exact ih
theorem dput_new {ks : List Str} {ds : List D} {s : Str} {d : D} (h : s ∉ ks) : dputK (ks.map .inr) (.inr s) = (ks ++ [s]).map .inr ∧ dputD (ks.map .inr) ds (.inr s) d = ds ++ [d] := by
  have : ¬ ((Sum.inr s : Key) ∈ ks.map (.inr : Str → Key)) := fun z => by
    obtain ⟨x, hx, e⟩ := List.mem_map.mp z
    exact h (Sum.inr.inj e ▸ hx)
  unfold dputK dputD
  rw [if_neg this, if_neg this]
  exact ⟨by simp, rfl⟩
theorem nodup_get {α : Type} : ∀ {l : List α} {i j : Nat} {x : α}, l.Nodup → l[i]? = some x → l[j]? = some x → i = j
  | [], i, j, x, _, h, _ => by simp at h
  | a :: l, 0, 0, x, _, _, _ => rfl
  | a :: l, 0, j + 1, x, hn, h1, h2 => by
    simp at h1; subst h1
    exact absurd (List.mem_of_getElem? (by simpa using h2)) (List.nodup_cons.mp hn).1
  | a :: l, i + 1, 0, x, hn, h1, h2 => by
    simp at h2; subst h2
    exact absurd (List.mem_of_getElem? (by simpa using h1)) (List.nodup_cons.mp hn).1
  | a :: l, i + 1, j + 1, x, hn, h1, h2 => by
    rw [nodup_get (List.nodup_cons.mp hn).2 (i := i) (j := j) (x := x) (by simpa using h1) (by simpa using h2)]
theorem find_take {α : Type} {p : α → Bool} {l : List α} {j : Nat} {x : α} (h : ∀ y ∈ l.take j, p y = false) (hx : l[j]? = some x) (px : p x = true) : l.find? p = some x := by
  induction l generalizing j with
  | nil => simp at hx
  | cons a l ih =>
    cases j with
    | zero => simp at hx; subst hx; simp [List.find?_cons, px]
    | succ j =>
      have := h a (by simp)
      rw [List.find?_cons, this]
      exact ih (j := j) (fun y hy => h y (by simp [hy])) (by simpa using hx)
theorem ok_scTab {P : Program} {w : World} {K : PySem.W.Frag} {mg : Str → Option Value} {base : Heap} {f : Addr} {fd : FuncData} (F : FunA K "__init__" "Table.__init__" st_scTab f fd) (hB : NoB mg) {CT CB : Addr} (T_MOST_OPERATIONS : ∃ t, mg "MOST_OPERATIONS" = some (.int 6 t)) (T_BadTable : ErrX.Er1 P K mg "BadTable" "name" CB) (cl : Cls K CT) (n1 : NoAttr K CT "lines") (n2 : NoAttr K CT "size") (n3 : NoAttr K CT "start") (C_is_name : Cal P w K mg base "is_name" ["text"] 1 (spR K S_isName)) (C_is_row : Cal P w K mg base "is_row" ["row", "size"] 1 (spR K S_isRow)) :
    FnOk P w K mg base (L2.CX P w) 4 f fd ["self", "rows", "start"] (spI K CT (S_tab CB)) := by
  refine fnI (C := CT) F scTab (fun ds o h => ?_) ?_
  · obtain ⟨_, h, _⟩ := h; rw [h]; rfl
  · intro cdv A outer s H Ex' hr
    have tk : Takes (cxOf (L2.CX P w) P w K mg base N_scTab "Table.__init__" (defScope st_scTab) f cdv A outer s H Ex') (fun cls d _ H => Ex' cls d H) := takes_of rfl rfl rfl rfl
    have po := passes_of (X := cxOf (L2.CX P w) P w K mg base N_scTab "Table.__init__" (defScope st_scTab) f cdv A outer s H Ex') rfl
    refine ⟨_, (pss_cons (ps_if (pt_not (q_chain op_LE op_LE pe_int (p_lenK K hB (pv 1)) (p_gint T_MOST_OPERATIONS))) (pss_one (s_raise1 rfl T_BadTable hr (by decide) tk pe_str)) pss_nil)
  (pss_cons (ps_set (i := 3) scTab.nd rfl (by first | exact Or.inl rfl | exact Or.inr rfl) pe_dnewK)
  (pss_cons (ps_set (i := 4) scTab.nd rfl (by first | exact Or.inl rfl | exact Or.inr rfl) (p_neg pe_int))
  (pss_cons (ps_lockX tk (fun _ tk1 => (ps_for po rfl (pi_keys (pv 1)) (pg_name (i := 5) scTab.nd rfl (by first | exact Or.inl rfl | exact Or.inr rfl)) (pss_cons (ps_set (i := 6) scTab.nd rfl (by first | exact Or.inl rfl | exact Or.inr rfl) (p_listUK K hB (p_ixK K hr (pv 1) (pv 5))))
  (pss_cons (ps_if (q_lt (pv 4) pe_int) (pss_one (ps_set (i := 4) scTab.nd rfl (by first | exact Or.inl rfl | exact Or.inr rfl) (p_lenK K hB (pv 6)))) pss_nil)
  (pss_cons (ps_if (PW.pt (pw_or (pt_not (q_truK K (pe_cal C_is_name hr (by decide) tk1 (pa_cons (pv 5) pa_nil)))) (pw_or1 (pt_not (q_truK K (pe_cal C_is_row hr (by decide) tk1 (pa_cons (pv 6) (pa_cons (pv 4) pa_nil)))))))) (pss_one (s_raise1 rfl T_BadTable hr (by decide) tk1 (pv 5))) pss_nil)
  (pss_one (s_sub hr (pv 3) (pv 5) (pv 6)))))))))
  (pss_cons (ps_if (pt_not (q_chain op_LE op_LT pe_int (pv 2) (pv 4))) (pss_one (s_raise1 rfl T_BadTable hr (by decide) tk pe_str)) pss_nil)
  (pss_cons (ps_fld (pv 0) (pv 3) rfl)
  (pss_cons (ps_fld (pv 0) (pv 4) rfl)
  (pss_one (ps_fld (pv 0) (pv 2) rfl))))))))), ?_⟩
    rintro bs o ⟨⟨names, rss, start⟩, rfl, hlen, hnd, hs, rfl⟩ p dx
    dsimp only at hlen hnd hs
    (try dsimp only [cxOf])
    show SD K _ _ (endsI K p CT dx (tabM CB names rss start)) [.own (oI K p CT dx [] []), .bor (oB K (.dic (names.map .inr) (rss.map rowB))), .dat (.int start), .no, .no, .no, .no]
    walk_at "ifq"
    · intro hb
      rw [List.length_map] at hb
      refine sd_raise1 (ea_cons ev_str ea_nil) (by show (reprText _).length ≤ 1000000; decide +kernel) ?_
      show tabM CB names rss start = _
      unfold tabM
      rw [if_neg (fun z => by
        rw [Bool.not_eq_true', Bool.and_eq_false_iff] at hb
        rcases hb with hb | hb <;> have := of_decide_eq_false hb <;> omega)]
    · intro hb
      rw [List.length_map, Bool.not_eq_false', Bool.and_eq_true] at hb
      have hb1 := of_decide_eq_true hb.1
      have hb2 := of_decide_eq_true hb.2
      have hcond : 1 ≤ names.length ∧ names.length ≤ 6 := ⟨by omega, by omega⟩
      refine sd_next ?_
      refine sd_seq (sd_asgN en_dic0 mon_oD ?_)
      walk_at "asg"
      refine sd_mid (fun δ => ∃ s5 s6, δ = [.own (oI K p CT dx [] []), .bor (oB K (.dic (names.map .inr) (rss.map rowB))), .dat (.int start), .own (oD K (names.map .inr) (rss.map rowD)), .dat (.int (tSize rss)), s5, s6] ∧ firstBad names rss = none) ?_ ?_
      · refine sd_forG rfl (fun j δ => ∃ s5 s6, δ = [.own (oI K p CT dx [] []), .bor (oB K (.dic (names.map .inr) (rss.map rowB))), .dat (.int start), .own (oD K ((names.take j).map .inr) ((rss.take j).map rowD)), .dat (.int (if j = 0 then -1 else tSize rss)), s5, s6] ∧ (∀ q ∈ (names.zip rss).take j, (!lineOk (tSize rss) q) = false)) ?_ ?_ ?_
        · exact ⟨_, _, rfl, fun q hq => by simp at hq⟩
        · rintro W' j k δ' hk ⟨s5, s6, rfl, hok⟩
          rw [List.getElem?_map] at hk
          cases hnj : names[j]? with
          | none => rw [hnj] at hk; cases hk
          | some nj =>
            rw [hnj] at hk; cases hk
            have hj : j < names.length := (List.getElem?_eq_some_iff.mp hnj).1
            obtain ⟨rj, hrj⟩ : ∃ rj, rss[j]? = some rj := ⟨rss[j]'(by omega), List.getElem?_eq_getElem (by omega)⟩
            have hmem : nj ∈ names := List.mem_of_getElem? hnj
            have hzip : (names.zip rss)[j]? = some (nj, rj) := by rw [List.getElem?_zip_eq_some]; exact ⟨hnj, hrj⟩
            refine ⟨_, tg_name, ?_⟩
            refine sd_seq (sd_asgN (en_listBL (ds := rj.map prD) (ec_cons (eg_b (eg_ixD (k := .inr nj) (eg_var rfl) (ev_var rfl) ?_)) ec_nil)) mon_oL ?_)
            · rw [dgetB_at hnd hnj hrj]; unfold rowB; rw [List.map_map]; rfl
            refine sd_frzL (i := 6) rfl ?_
            -- size
            refine sd_to [.own (oI K p CT dx [] []), .bor (oB K (.dic (names.map .inr) (rss.map rowB))), .dat (.int start), .own (oD K ((names.take j).map .inr) ((rss.take j).map rowD)), .dat (.int (tSize rss)), .dat (.str nj), .dat (.lst (rj.map prD))] ?_ ?_
            · have hsz : j ≠ 0 → 0 ≤ tSize rss := fun _ => by
                cases rss with
                | nil => simp at hrj
                | cons r rr => show (0 : Int) ≤ (r.length : Int); omega
              walk_at "if" <;> intro hb
              · have hb := of_decide_eq_true hb
                have hj0 : j = 0 := Classical.byContradiction fun z => by
                  have := hsz z
                  rw [if_neg z] at hb; omega
                walk_at "asg1"
                show _ = _
                subst hj0
                have : tSize rss = ((rj.map prD).length : Int) := by
                  cases rss with
                  | nil => simp at hrj
                  | cons r rr => simp at hrj; subst hrj; rw [List.length_map]; rfl
                rw [this]; rfl
              · have hb := of_decide_eq_false hb
                have hj0 : j ≠ 0 := fun z => hb (by rw [if_pos z]; decide)
                refine sd_next ?_
                show _ = _
                rw [if_neg hj0]; rfl
            have hsm := hs nj hmem
            refine' sd_seq (sd_if (et_or (et_not (et_truB (ev_call (ec_cons (eb_dat ?a1) ec_nil) ⟨nj, rfl, hsm.1, rfl⟩))) fun _ => et_not (et_truB (ev_call (ec_cons (eb_dat ?a2) (ec_cons (eb_dat ?a3) ec_nil)) ⟨(rj, tSize rss), rfl, rfl⟩))) ?r ?s)
            (case a1 => walk_at "ev")
            (case a2 => walk_at "ev")
            (case a3 => walk_at "ev")
            · intro hb
              refine sd_raise1 (ea_cons (ev_var rfl) ea_nil) hsm.2 ?_
              show tabM CB names rss start = _
              have hbad : (!lineOk (tSize rss) (nj, rj)) = true := by
                unfold lineOk
                rw [Bool.not_and]; exact hb
              unfold tabM firstBad
              rw [if_pos hcond, find_take hok hzip hbad]; rfl
            · intro hb
              refine sd_next ?_
              have hgood : (!lineOk (tSize rss) (nj, rj)) = false := by
                unfold lineOk
                rw [Bool.not_and]; exact hb
              have hnot : nj ∉ names.take j := fun z => by
                obtain ⟨i, hi⟩ := List.getElem?_of_mem z
                have hi1 : i < j := by
                  have := (List.getElem?_eq_some_iff.mp hi).1
                  rw [List.length_take] at this; omega
                rw [List.getElem?_take_of_lt hi1] at hi
                have := nodup_get hnd hi hnj
                omega
              have hput := dput_new (ks := names.take j) (ds := (rss.take j).map rowD) (s := nj) (d := rowD rj) hnot
              refine sd_dput (k := .inr nj) (d := rowD rj) rfl (ev_var rfl) (ev_var rfl) (by rw [List.length_map, List.length_take]; omega) ⟨.dat (.str nj), .dat (rowD rj), ?_, fun q hq => ?_⟩
              · rw [hput.1, hput.2, List.take_add_one, hnj, List.take_add_one, hrj, List.map_append (f := rowD), if_neg (by omega)]
                rfl
              · rw [List.take_add_one, hzip] at hq
                rcases List.mem_append.mp hq with hq | hq
                · exact hok q hq
                · simp at hq; rw [hq]; exact hgood
        · rintro δ' ⟨s5, s6, rfl, hok⟩
          rw [List.length_map] at hok ⊢
          refine ⟨s5, s6, ?_, ?_⟩
          · rw [List.take_of_length_le (Nat.le_refl _), List.take_of_length_le (by omega), if_neg (by omega)]
          · unfold firstBad
            rw [List.find?_eq_none.mpr (fun x hx => by
              rw [hok x (by rw [List.take_of_length_le (by rw [List.length_zip]; omega)]; exact hx)]; exact Bool.false_ne_true)]
            rfl
      rintro δ' ⟨s5, s6, rfl, hfb⟩
      walk_at "ifq"
      · intro hb
        refine sd_raise1 (ea_cons ev_str ea_nil) (by show (reprText _).length ≤ 1000000; decide +kernel) ?_
        show tabM CB names rss start = _
        unfold tabM
        rw [if_pos hcond, hfb]
        dsimp only
        rw [if_neg (fun z => by
          rw [Bool.not_eq_true', Bool.and_eq_false_iff] at hb
          rcases hb with hb | hb <;> have := of_decide_eq_false hb <;> omega)]
      · intro hb
        rw [Bool.not_eq_false', Bool.and_eq_true] at hb
        have hb3 := of_decide_eq_true hb.1
        have hb4 := of_decide_eq_true hb.2
        refine sd_next ?_
        refine sd_frzD (i := 3) rfl ?_
        refine sd_seq (sd_fld rfl cl n1 (by decide) (by decide) (ev_var rfl) ?_)
        refine sd_seq (sd_fld rfl cl n2 (by decide +kernel) (by decide) (ev_var rfl) ?_)
        refine sd_fld rfl cl n3 (by decide +kernel) (by decide) (ev_var rfl) ⟨_, _, rfl, ?_⟩
        unfold tabM
        rw [if_pos hcond, hfb]
        dsimp only
        rw [if_pos ⟨hb3, hb4⟩]; rfl

theorem six {α : Type} {l : List α} (h : l.length = 6) : ∃ a b c d e f, l = [a, b, c, d, e, f] := by
  match l, h with
  | [a, b, c, d, e, f], _ => exact ⟨a, b, c, d, e, f, rfl⟩
theorem eb_sub {K : PySem.W.Frag} {te : TE} {δ : List Sl} {b b' : Bw} (h : EvB K te δ b) (hs : ∀ Hb H v, Ex Hb H → RpB K Hb H b v → RpB K Hb H b' v) : EvB K te δ b' := fun A σ H ts L Q q => h A σ H ts L Q fun v H2 t L2 l => q v H2 t L2 fun H3 Hb F us L3 p => hs Hb H3 v L3.bH (l H3 Hb F us L3 p)
theorem rows_sub {K : PySem.W.Frag} {Hb H : Hp} (e : Ex Hb H) : ∀ {rss : List (List (Int × Int))} {vs : List V}, RpBA K Hb H ((rss.map rowD).map .dat) vs → RpBA K Hb H (rss.map rowB) vs
  | [], vs, h => h
  | r :: rss, vs, h => by
    have h : RpBA K Hb H (.dat (rowD r) :: (rss.map rowD).map .dat) vs := h
    unfold RpBA at h
    obtain ⟨v, t, rfl, p, q⟩ := h
    refine RpBA.cons ?_ (rows_sub e q)
    unfold RpB rowD Rp at p
    obtain ⟨a, us, rfl, s, rr⟩ := p
    unfold rowB RpB
    refine ⟨a, us, rfl, e.rl.l s, ?_⟩
    have := rpba_dat (G := H) rr
    rw [List.map_map] at this
    exact this
theorem eb_rows {K : PySem.W.Frag} {te : TE} {δ : List Sl} {ks : List Key} {rss : List (List (Int × Int))} (h : EvB K te δ (.dic ks ((rss.map rowD).map .dat))) : EvB K te δ (.dic ks (rss.map rowB)) := eb_sub h fun Hb H v e r => by
  unfold RpB at r ⊢
  obtain ⟨a, vs, rfl, s, l, rr⟩ := r
  exact ⟨a, vs, rfl, s, l, rows_sub e rr⟩
theorem nm_rep (n k : Int) : (nm n k).length ≤ 1000000 ∧ RepD (.str (nm n k)) := by
  have h := nmLen_rng n k
  have hl := nm_len n k
  have hr := PySem.StrLaws.reprText_len (nm n k) (fun c hc => by
    rw [nm_cps] at hc
    have := nmCodes_mem hc
    rw [letters_cps, List.mem_map] at this
    obtain ⟨a, ha, rfl⟩ := this
    have := List.mem_range.mp ha
    omega)
  exact ⟨by omega, by show (reprText _).length ≤ 1000000; omega⟩
theorem firstBad_none {names : List Str} {rss : List (List (Int × Int))} (h1 : ∀ s ∈ names, nameOk s = true) (h2 : ∀ r ∈ rss, rowOk r (tSize rss) = true) : firstBad names rss = none := by
  unfold firstBad
  rw [List.find?_eq_none.mpr (fun x hx => by
    have := List.of_mem_zip (show (x.1, x.2) ∈ names.zip rss from hx)
    unfold lineOk
    rw [h1 _ this.1, h2 _ this.2]; exact Bool.false_ne_true)]
  rfl
theorem tabM_ok {CB : Addr} {names : List Str} {rss : List (List (Int × Int))} {start : Int} (hl : 1 ≤ names.length ∧ names.length ≤ 6) (h1 : ∀ s ∈ names, nameOk s = true) (h2 : ∀ r ∈ rss, rowOk r (tSize rss) = true) (h3 : 0 ≤ start ∧ start < tSize rss) :
    tabM CB names rss start = .ok ["lines", "size", "start"] [.dic (names.map .inr) (rss.map rowD), .int (tSize rss), .int start] := by
  unfold tabM
  rw [if_pos hl, firstBad_none h1 h2]
  dsimp only
  rw [if_pos h3]
theorem atI_names {n : Int} {m i : Nat} {j : Int} (h : i < m) (hj : j = (i : Int)) : atI ((namesM n m).map D.str) j = some (.str (nm n i)) := by
  subst hj
  exact atI_nat (by rw [List.getElem?_map, namesM_get h]; rfl)
theorem kD_names (n : Int) (m : Nat) : (((namesM n m).map (.inr : Str → Key)).map kD) = (namesM n m).map D.str := by rw [List.map_map]; rfl
theorem pyOk_strs (h : ∀ s : Str, True) : ∀ l : List Str, (∀ s ∈ l, PyData.strOk s = true) → pyOkA (l.map D.str) = true
  | [], _ => rfl
  | s :: l, hs => by
    show (pyOk (.str s) && pyOkA (l.map D.str)) = true
    rw [pyOk_strs h l fun x hx => hs x (by simp [hx])]
    unfold pyOk
    rw [hs s (by simp)]; rfl
theorem depA_strs : ∀ l : List Str, depA (l.map D.str) = 0
  | [] => rfl
  | s :: l => by show max (dep (.str s)) (depA (l.map D.str)) = 0; rw [depA_strs l]; unfold dep; rfl
theorem namesM_succ2 (n : Int) (m : Nat) : namesM n (m + 1) = namesM n m ++ [nm n (m : Int)] := by unfold namesM; rw [List.range_succ, List.map_append]; rfl
theorem nm_strOk (n k : Int) : PyData.strOk (nm n k) = true := by
  unfold PyData.strOk
  rw [Array.all_eq_true']
  intro c hc
  have hc : c ∈ (nm n k).cps.toList := Array.mem_toList_iff.mpr hc
  rw [nm_cps] at hc
  have := nmCodes_mem hc
  rw [letters_cps, List.mem_map] at this
  obtain ⟨a, ha, rfl⟩ := this
  have := List.mem_range.mp ha
  exact decide_eq_true (by omega)
theorem names_pyOk (n : Int) (m : Nat) : pyOk (.lst ((namesM n m).map D.str)) = true := by
  unfold pyOk
  exact pyOk_strs (fun _ => trivial) _ fun s hs => by
    obtain ⟨k, _, rfl⟩ := namesM_mem hs
    exact nm_strOk n k
theorem names_dep (n : Int) (m : Nat) : dep (.lst ((namesM n m).map D.str)) ≤ 64 := by
  unfold dep; rw [depA_strs]; decide
theorem cut_names (n : Int) {m k : Nat} (h : k ≤ m) : DL.cutD ((namesM n m).map D.str) none (some (k : Int)) = (namesM n k).map D.str := by
  unfold DL.cutD
  have e1 : HT.sIx ((namesM n m).map D.str).length 0 none = 0 := rfl
  have e2 : HT.sIx ((namesM n m).map D.str).length ((namesM n m).map D.str).length (some (k : Int)) = k := by
    rw [List.length_map, namesM_len, HT.sIx_nat]
    omega
  rw [e1, e2, List.drop_zero, Nat.sub_zero, ← List.map_take, namesM_take n h]

abbrev st_scCopied : Stmt := topS 17
abbrev N_scCopied : List Str := ["_law_rows", "_law_twin", "_law_name"]
theorem scCopied : FnScope N_scCopied ["_law_rows"] (defScope st_scCopied) := ⟨rfl, rfl, rfl, by decide +kernel, rfl, by decide +kernel, by decide +kernel⟩

def S_copied (K : PySem.W.Frag) : List Bw → Out → Prop := fun bs o => ∃ (x : List Str × List (List (Int × Int))), bs = [.dic (x.1.map .inr) (x.2.map rowB)] ∧ x.1.length = x.2.length ∧ x.1.Nodup ∧ x.1.length ≤ 1000 ∧ o = .ret (.own (oDL K (x.1.map .inr) (x.2.map fun r => r.map prD)))
theorem ok_scCopied {P : Program} {w : World} {K : PySem.W.Frag} {mg : Str → Option Value} {base : Heap} {f : Addr} {fd : FuncData} (F : FunA K "_law_copied" "_law_copied" st_scCopied f fd) (hB : NoB mg)  :
    FnOk P w K mg base (L2.CX P w) 1 f fd ["_law_rows"] (spR K (S_copied K)) := by
  refine fnD F scCopied (fun ds o h => ?_) ?_
  · obtain ⟨_, h, _⟩ := h; rw [h]; rfl
  · intro cdv A outer s H Ex' hr
    have tk : Takes (cxOf (L2.CX P w) P w K mg base N_scCopied "_law_copied" (defScope st_scCopied) f cdv A outer s H Ex') (fun cls d _ H => Ex' cls d H) := takes_of rfl rfl rfl rfl
    have po := passes_of (X := cxOf (L2.CX P w) P w K mg base N_scCopied "_law_copied" (defScope st_scCopied) f cdv A outer s H Ex') rfl
    refine ⟨_, (pss_cons (ps_set (i := 1) scCopied.nd rfl (by first | exact Or.inl rfl | exact Or.inr rfl) pe_dnewK)
  (pss_cons (ps_lockX tk (fun _ tk1 => (ps_for po rfl (pi_keys (pv 0)) (pg_name (i := 2) scCopied.nd rfl (by first | exact Or.inl rfl | exact Or.inr rfl)) (pss_one (s_sub hr (pv 1) (pv 2) (p_listUK K hB (p_ixK K hr (pv 0) (pv 2))))))))
  (pss_one (ps_ret (pv 1))))), ?_⟩
    rintro bs o ⟨⟨names, rss⟩, rfl, hlen, hnd, hl, rfl⟩
    dsimp only at hlen hnd hl
    (try dsimp only [cxOf])
    show SD K _ _ (endsOf (.ret (.own (oDL K (names.map .inr) (rss.map fun r => r.map prD))))) [.bor (oB K (.dic (names.map .inr) (rss.map rowB))), .no, .no]
    refine sd_seq (sd_asgN en_dicL mon_oDL ?_)
    refine sd_mid (fun δ => ∃ s2, δ = [.bor (oB K (.dic (names.map .inr) (rss.map rowB))), .own (oDL K (names.map .inr) (rss.map fun r => r.map prD)), s2]) ?_ ?_
    · refine sd_forG rfl (fun j δ => ∃ s2, δ = [.bor (oB K (.dic (names.map .inr) (rss.map rowB))), .own (oDL K ((names.take j).map .inr) ((rss.take j).map fun r => r.map prD)), s2]) ?_ ?_ ?_
      · exact ⟨_, rfl⟩
      · rintro W' j k δ' hk ⟨s2, rfl⟩
        rw [List.getElem?_map] at hk
        cases hnj : names[j]? with
        | none => rw [hnj] at hk; cases hk
        | some nj =>
          rw [hnj] at hk; cases hk
          have hj : j < names.length := (List.getElem?_eq_some_iff.mp hnj).1
          obtain ⟨rj, hrj⟩ : ∃ rj, rss[j]? = some rj := ⟨rss[j]'(by omega), List.getElem?_eq_getElem (by omega)⟩
          have hnot : nj ∉ names.take j := fun z => by
            obtain ⟨i, hi⟩ := List.getElem?_of_mem z
            have hi1 : i < j := by
              have := (List.getElem?_eq_some_iff.mp hi).1
              rw [List.length_take] at this; omega
            rw [List.getElem?_take_of_lt hi1] at hi
            have := nodup_get hnd hi hnj
            omega
          have hnotk : (Sum.inr nj : Key) ∉ (names.take j).map (.inr : Str → Key) := fun z => by
            obtain ⟨x, hx, e⟩ := List.mem_map.mp z
            exact hnot (Sum.inr.inj e ▸ hx)
          refine ⟨_, tg_name, ?_⟩
          refine sd_dputN (k := .inr nj) (ds := rj.map prD) rfl (fun p ps => en_listBL (ec_cons (eg_b (eg_ixD (k := .inr nj) (eg_var rfl) (ev_var rfl) ?_)) ec_nil)) (fun p ps => ev_var rfl) hnotk (by rw [List.length_map, List.length_take]; omega) ⟨.dat (.str nj), ?_⟩
          · rw [dgetB_at hnd hnj hrj]; unfold rowB; rw [List.map_map]; rfl
          · rw [List.take_add_one, hnj, List.take_add_one, hrj, List.map_append (f := fun r => List.map prD r)]
            simp
            rfl
      · rintro δ' ⟨s2, rfl⟩
        rw [List.length_map, List.take_of_length_le (Nat.le_refl _), List.take_of_length_le (by omega)]
        exact ⟨_, rfl⟩
    rintro δ' ⟨s2, rfl⟩
    exact sd_retO rfl rfl

abbrev st_scTCall : Stmt := inClass (topS 12) 2
abbrev N_scTCall : List Str := ["self", "name", "state"]
theorem scTCall : FnScope N_scTCall ["self", "name", "state"] (defScope st_scTCall) := ⟨rfl, rfl, rfl, by decide +kernel, rfl, by decide +kernel, by decide +kernel⟩

def tabD (CT : Addr) (names : List Str) (rss : List (List (Int × Int))) (size start : Int) : D := .ins CT ["lines", "size", "start"] [.dic (names.map .inr) (rss.map rowD), .int size, .int start]
def pairAt (names : List Str) (rss : List (List (Int × Int))) (n : Str) (st : Int) : Int × Int := (rss.getD (names.findIdx (· == n)) []).getD st.toNat (0, 0)
def tcallM (CN CX : Addr) (names : List Str) (rss : List (List (Int × Int))) (size : Int) (n : Str) (st : Int) : Out :=
  if n ∈ names then if 0 ≤ st ∧ st < size then .ret (.dat (prD (pairAt names rss n st))) else .exc ⟨CX, ["number"], [.int st]⟩ else .exc ⟨CN, ["name"], [.str n]⟩
structure TcIn where
  names : List Str
  rss : List (List (Int × Int))
  size : Int
  start : Int
  n : Str
  st : Int
def S_tcall (CT CN CX : Addr) : List Bw → Out → Prop := fun bs o => ∃ x : TcIn, bs = [.dat (tabD CT x.names x.rss x.size x.start), .dat (.str x.n), .dat (.int x.st)] ∧ x.names.length = x.rss.length ∧ x.names.Nodup ∧ RepD (.str x.n) ∧ RepD (.int x.st) ∧ (∀ r ∈ x.rss, (r.length : Int) = x.size) ∧ o = tcallM CN CX x.names x.rss x.size x.n x.st
theorem dget_at {α : Type} {g : α → D} : ∀ {names : List Str} {rss : List α} {j : Nat} {s : Str} {r : α}, names.Nodup → names[j]? = some s → rss[j]? = some r → dget (names.map .inr) (rss.map g) (.inr s) = some (g r)
  | [], rss, j, s, r, _, h, _ => by simp at h
  | n :: names, [], j, s, r, _, _, h => by simp at h
  | n :: names, q :: rss, 0, s, r, _, h1, h2 => by
    simp at h1 h2
    subst h1 h2
    simp [dget]
  | n :: names, q :: rss, j + 1, s, r, hn, h1, h2 => by
    have hne : ¬ n = s := fun z => by
      subst z
      exact (List.nodup_cons.mp hn).1 (List.mem_of_getElem? (by simpa using h1))
    have ih := dget_at (g := g) (names := names) (rss := rss) (j := j) (List.nodup_cons.mp hn).2 (by simpa using h1) (by simpa using h2)
    unfold dget at ih ⊢
    simp only [List.map_cons, List.zip_cons_cons, List.find?_cons]
    have : ¬ (Sum.inr n : Key) = Sum.inr s := fun z => hne (Sum.inr.inj z)
    simp only [this, decide_false]
    exact ih
theorem find_at : ∀ {names : List Str} {j : Nat} {s : Str}, names.Nodup → names[j]? = some s → names.findIdx (· == s) = j
  | [], j, s, _, h => by simp at h
  | n :: names, 0, s, _, h => by simp at h; subst h; rw [List.findIdx_cons, beq_self_eq_true]; rfl
  | n :: names, j + 1, s, hn, h => by
    have hne : (n == s) = false := by
      rw [beq_eq_false_iff_ne]
      intro z; subst z
      exact (List.nodup_cons.mp hn).1 (List.mem_of_getElem? (by simpa using h))
    rw [List.findIdx_cons, hne, cond_false, find_at (List.nodup_cons.mp hn).2 (by simpa using h)]
theorem pairAt_get {names : List Str} {rss : List (List (Int × Int))} {j : Nat} {s : Str} {r : List (Int × Int)} {st : Int} (hn : names.Nodup) (h1 : names[j]? = some s) (h2 : rss[j]? = some r) : pairAt names rss s st = r.getD st.toNat (0, 0) := by
  have e : rss.getD j [] = r := by rw [List.getD, h2]; rfl
  unfold pairAt; rw [find_at hn h1, e]
theorem atI_row {r : List (Int × Int)} {st : Int} (h0 : 0 ≤ st) (h1 : st < (r.length : Int)) : atI (r.map prD) st = some (prD (r.getD st.toNat (0, 0))) := by
  have := atI_nat (xs := r.map prD) (j := st.toNat) (v := prD (r.getD st.toNat (0, 0))) (by rw [List.getElem?_map, List.getElem?_eq_getElem (by omega)]; simp [List.getD, List.getElem?_eq_getElem (show st.toNat < r.length by omega)])
  rwa [Int.toNat_of_nonneg h0] at this
theorem rep_int {i : Int} (h : i.natAbs < 2 ^ 250) : RepD (.int i) := by
  show i.natAbs.log2 < 1920
  by_cases h0 : i.natAbs = 0
  · rw [h0]; decide
  · exact Nat.lt_of_le_of_lt (Nat.le_of_lt_succ (Nat.lt_succ_of_le (Nat.le_of_lt_succ (Nat.lt_succ_of_lt ((Nat.log2_lt h0).mpr h))))) (by decide)
theorem mem_inr {l : List Str} {s : Str} : ((.inr s : Key) ∈ l.map (.inr : Str → Key)) ↔ s ∈ l := by
  rw [List.mem_map]
  exact ⟨fun ⟨x, hx, e⟩ => Sum.inr.inj e ▸ hx, fun h => ⟨s, h, rfl⟩⟩
theorem ok_scTCall {P : Program} {w : World} {K : PySem.W.Frag} {mg : Str → Option Value} {base : Heap} {f : Addr} {fd : FuncData} (F : FunA K "__call__" "Table.__call__" st_scTCall f fd) (hB : NoB mg) {CT CN CX : Addr} (T_NoOperation : ErrX.Er1 P K mg "NoOperation" "name" CN) (T_BadNumber : ErrX.Er1 P K mg "BadNumber" "number" CX) (cl : Cls K CT) (n1 : NoAttr K CT "lines") (n2 : NoAttr K CT "size") :
    FnOk P w K mg base (L2.CX P w) 4 f fd ["self", "name", "state"] (spR K (S_tcall CT CN CX)) := by
  refine fnD F scTCall (fun ds o h => ?_) ?_
  · obtain ⟨_, h, _⟩ := h; rw [h]; rfl
  · intro cdv A outer s H Ex' hr
    have tk : Takes (cxOf (L2.CX P w) P w K mg base N_scTCall "Table.__call__" (defScope st_scTCall) f cdv A outer s H Ex') (fun cls d _ H => Ex' cls d H) := takes_of rfl rfl rfl rfl
    have po := passes_of (X := cxOf (L2.CX P w) P w K mg base N_scTCall "Table.__call__" (defScope st_scTCall) f cdv A outer s H Ex') rfl
    refine ⟨_, (pss_cons (ps_if (q_ninK K hr (pv 1) (pe_fldK K (pv 0) rfl)) (pss_one (s_raise1 rfl T_NoOperation hr (by decide) tk (pv 1))) pss_nil)
  (pss_cons (ps_if (pt_not (q_chain op_LE op_LT pe_int (pv 2) (pe_fldK K (pv 0) rfl))) (pss_one (s_raise1 rfl T_BadNumber hr (by decide) tk (pv 2))) pss_nil)
  (pss_one (ps_ret (p_ixK K hr (p_ixK K hr (pe_fldK K (pv 0) rfl) (pv 1)) (pv 2)))))), ?_⟩
    rintro bs o ⟨⟨names, rss, size, start, n, st⟩, rfl, hlen, hnd, hrn, hrs, hsz, rfl⟩
    dsimp only at hlen hnd hrn hrs hsz
    (try dsimp only [cxOf])
    show SD K _ _ (endsOf (tcallM CN CX names rss size n st)) [.dat (tabD CT names rss size start), .dat (.str n), .dat (.int st)]
    unfold tcallM
    have ein : EvD K (tOp (rIN K true) (tVar 1) (tFld K (tVar 0) "lines")) [.dat (tabD CT names rss size start), .dat (.str n), .dat (.int st)] (.bl (!decide ((.inr n : Key) ∈ names.map (.inr : Str → Key)))) := ev_inD (neg := true) (k := .inr n) (ev_var rfl) (ev_fld (ev_var rfl) cl n1 rfl) (by simp [hlen])
    by_cases hin : n ∈ names
    · rw [if_pos hin]
      refine sd_seq (sd_if (b := false) (et_is (et_test ein) (by rw [decide_eq_true (mem_inr.mpr hin)]; rfl)) (fun z => nomatch z) fun _ => sd_next ?_)
      refine sd_seq (sd_if (et_not (et_test (ev_chain ev_int (ev_var rfl) o_le (fun _ => ev_fld (ev_var rfl) cl n2 rfl) (fun _ => o_lt)))) ?_ ?_) <;> intro hb
      · have hb : ¬ (0 ≤ st ∧ st < size) := fun z => by
          rw [decide_eq_true z.1, decide_eq_true z.2] at hb; cases hb
        rw [if_neg hb]
        exact sd_raise1 (ea_cons (ev_var rfl) ea_nil) hrs rfl
      · have hb : 0 ≤ st ∧ st < size := by
          have hb : (decide (0 ≤ st) && decide (st < size)) = true := by
            cases h : (decide (0 ≤ st) && decide (st < size)) with
            | true => rfl
            | false => rw [h] at hb; cases hb
          rw [Bool.and_eq_true] at hb
          exact ⟨of_decide_eq_true hb.1, of_decide_eq_true hb.2⟩
        rw [if_pos hb]
        obtain ⟨j, hj⟩ := List.getElem?_of_mem hin
        have hjl : j < names.length := (List.getElem?_eq_some_iff.mp hj).1
        obtain ⟨r, hr1⟩ : ∃ r, rss[j]? = some r := ⟨_, List.getElem?_eq_getElem (by omega)⟩
        have hrl := hsz r (List.mem_of_getElem? hr1)
        refine sd_next ?_
        refine sd_ret (ev_ixL (ds := r.map prD) (ev_ixD (k := .inr n) (ev_fld (ev_var rfl) cl n1 rfl) (ev_var rfl) (dget_at hnd hj hr1)) (ev_var rfl) (atI_row hb.1 (by omega))) ?_
        rw [pairAt_get hnd hj hr1]; rfl
    · rw [if_neg hin]
      refine sd_seq (sd_if (b := true) (et_is (et_test ein) (by rw [decide_eq_false (fun z => hin (mem_inr.mp z))]; rfl)) (fun _ => ?_) (fun z => nomatch z))
      exact sd_raise1 (ea_cons (ev_var rfl) ea_nil) hrn rfl

abbrev st_scRefusal : Stmt := topS 19
abbrev N_scRefusal : List Str := ["_law_table", "_law_name", "_law_state", "e"]
theorem scRefusal : FnScope N_scRefusal ["_law_table", "_law_name", "_law_state"] (defScope st_scRefusal) := ⟨rfl, rfl, rfl, by decide +kernel, rfl, by decide +kernel, by decide +kernel⟩

def refsO (names : List Str) (size : Int) (n : Str) (st : Int) : Out :=
  .ret (.dat (if n ∈ names then if 0 ≤ st ∧ st < size then .non else .tup [.str "number", .int st] else .tup [.str "operation", .str n]))
def S_refusal (CT : Addr) : List Bw → Out → Prop := fun bs o => ∃ x : TcIn, bs = [.dat (tabD CT x.names x.rss x.size x.start), .dat (.str x.n), .dat (.int x.st)] ∧ x.names.length = x.rss.length ∧ x.names.Nodup ∧ RepD (.str x.n) ∧ RepD (.int x.st) ∧ (∀ r ∈ x.rss, (r.length : Int) = x.size) ∧ o = refsO x.names x.size x.n x.st
theorem ok_scRefusal {P : Program} {w : World} {K : PySem.W.Frag} {mg : Str → Option Value} {base : Heap} {f : Addr} {fd : FuncData} (F : FunA K "_law_refusal" "_law_refusal" st_scRefusal f fd) (hB : NoB mg) {CT CN CX : Addr} (T_NoOperation : ErrX.Er1 P K mg "NoOperation" "name" CN) (T_BadNumber : ErrX.Er1 P K mg "BadNumber" "number" CX) (O__law_table : CalO P w K mg base CT ["self", "name", "state"] 4 (spR K (S_tcall CT CN CX))) (e1 : PySem.W.exmOne K (.ref CN) (.ref CN) = some true) (e2 : PySem.W.exmOne K (.ref CX) (.ref CX) = some true) (e3 : PySem.W.exmOne K (.ref CX) (.ref CN) = some false) :
    FnOk P w K mg base (L2.CX P w) 6 f fd ["_law_table", "_law_name", "_law_state"] (spR K (S_refusal CT)) := by
  refine fnD F scRefusal (fun ds o h => ?_) ?_
  · obtain ⟨_, h, _⟩ := h; rw [h]; rfl
  · intro cdv A outer s H Ex' hr
    have tk : Takes (cxOf (L2.CX P w) P w K mg base N_scRefusal "_law_refusal" (defScope st_scRefusal) f cdv A outer s H Ex') (fun cls d _ H => Ex' cls d H) := takes_of rfl rfl rfl rfl
    have po := passes_of (X := cxOf (L2.CX P w) P w K mg base N_scRefusal "_law_refusal" (defScope st_scRefusal) f cdv A outer s H Ex') rfl
    refine ⟨_, (pss_cons (ps_tryA rfl rfl scRefusal.nd tk (fun _ _ _ tk1 po1 => (pss_one (ps_expr (pe_clo O__law_table hr (by decide) tk1 (pv 0) (pa_cons (pv 1) (pa_cons (pv 2) pa_nil))))))
  (.as (i := 3) ⟨by rfl, by decide, .inl T_NoOperation.g⟩ rfl rfl (fun _ _ _ _ _ hz hf => (pss_one (ps_ret (pe_tup (pa_cons pe_str (pa_cons (pe_xf T_NoOperation.xf T_NoOperation.no hz hf (pv 3)) pa_nil)))))) (.as (i := 3) ⟨by rfl, by decide, .inl T_BadNumber.g⟩ rfl rfl (fun _ _ _ _ _ hz hf => (pss_one (ps_ret (pe_tup (pa_cons pe_str (pa_cons (pe_xf T_BadNumber.xf T_BadNumber.no hz hf (pv 3)) pa_nil)))))) .nil)))
  (pss_one (ps_ret pe_non))), ?_⟩
    rintro bs o ⟨⟨names, rss, size, start, n, st⟩, rfl, hlen, hnd, hrn, hrs, hsz, rfl⟩
    dsimp only at hlen hnd hrn hrs hsz
    (try dsimp only [cxOf])
    show SD K _ _ (endsOf (refsO names size n st)) [.dat (tabD CT names rss size start), .dat (.str n), .dat (.int st), .no]
    have hS : S_tcall CT CN CX [.dat (tabD CT names rss size start), .dat (.str n), .dat (.int st)] (tcallM CN CX names rss size n st) := ⟨⟨names, rss, size, start, n, st⟩, rfl, hlen, hnd, hrn, hrs, hsz, rfl⟩
    unfold refsO
    unfold tcallM at hS
    refine sd_seq (sd_try fun W' => ?_)
    by_cases hin : n ∈ names
    · rw [if_pos hin] at hS ⊢
      by_cases hst : 0 ≤ st ∧ st < size
      · rw [if_pos hst] at hS ⊢
        refine sd_drop (ev_callO (ev_var rfl) (ec_cons (eb_dat (ev_var rfl)) (ec_cons (eb_dat (ev_var rfl)) ec_nil)) hS) ?_
        exact sd_ret ev_non rfl
      · rw [if_neg hst] at hS ⊢
        refine sd_dropX (ex_callO (ev_var rfl) (ec_cons (eb_dat (ev_var rfl)) (ec_cons (eb_dat (ev_var rfl)) ec_nil)) hS) ?_
        refine ⟨false, e3, (fun z => nomatch z), fun _ => ⟨true, e2, fun _ a dd => ?_, fun z => nomatch z⟩⟩
        exact sd_ret (ev_tup (ea_cons ev_str (ea_cons (ev_xf (j := 0) (ev_var rfl) rfl rfl rfl) ea_nil)) (by simp)) rfl
    · rw [if_neg hin] at hS ⊢
      refine sd_dropX (ex_callO (ev_var rfl) (ec_cons (eb_dat (ev_var rfl)) (ec_cons (eb_dat (ev_var rfl)) ec_nil)) hS) ?_
      refine ⟨true, e1, fun _ a dd => ?_, fun z => nomatch z⟩
      exact sd_ret (ev_tup (ea_cons ev_str (ea_cons (ev_xf (j := 0) (ev_var rfl) rfl rfl rfl) ea_nil)) (by simp)) rfl

abbrev st_scRight : Stmt := topS 20
abbrev N_scRight : List Str := ["_law_table", "_law_rows", "_law_spots", "_law_name", "_law_state", "_law_pair"]
theorem scRight : FnScope N_scRight ["_law_table", "_law_rows", "_law_spots"] (defScope st_scRight) := ⟨rfl, rfl, rfl, by decide +kernel, rfl, by decide +kernel, by decide +kernel⟩

structure RtIn where
  names : List Str
  rss : List (List (Int × Int))
  size : Int
  start : Int
  spots : List Int
def S_right (CT : Addr) : List Bw → Out → Prop := fun bs o => ∃ x : RtIn, bs = [.dat (tabD CT x.names x.rss x.size x.start), .dat (.dic (x.names.map .inr) (x.rss.map rowD)), .dat (.lst (x.spots.map D.int))] ∧ x.names.length = x.rss.length ∧ x.names.Nodup ∧ (∀ n ∈ x.names, RepD (.str n)) ∧ (∀ r ∈ x.rss, (r.length : Int) = x.size) ∧ x.size ≤ 1000 ∧ (∀ s ∈ x.spots, 0 ≤ s ∧ s < x.size) ∧ o = .ret (.dat (.bl true))
theorem prD_ok (p : Int × Int) : pyOk (prD p) = true ∧ dep (prD p) ≤ 64 := by
  unfold prD
  exact ⟨by unfold pyOk pyOkA pyOk pyOkA pyOk pyOkA; rfl, by unfold dep depA dep depA dep depA; decide⟩
theorem ok_scRight {P : Program} {w : World} {K : PySem.W.Frag} {mg : Str → Option Value} {base : Heap} {f : Addr} {fd : FuncData} (F : FunA K "_law_right" "_law_right" st_scRight f fd) (hB : NoB mg) {CT CN CX : Addr} (C__law_whole : Cal P w K mg base "_law_whole" ["_law_told_here"] 1 (spR K S_whole)) (O__law_table : CalO P w K mg base CT ["self", "name", "state"] 4 (spR K (S_tcall CT CN CX))) :
    FnOk P w K mg base (L2.CX P w) 6 f fd ["_law_table", "_law_rows", "_law_spots"] (spR K (S_right CT)) := by
  refine fnD F scRight (fun ds o h => ?_) ?_
  · obtain ⟨_, h, _⟩ := h; rw [h]; rfl
  · intro cdv A outer s H Ex' hr
    have tk : Takes (cxOf (L2.CX P w) P w K mg base N_scRight "_law_right" (defScope st_scRight) f cdv A outer s H Ex') (fun cls d _ H => Ex' cls d H) := takes_of rfl rfl rfl rfl
    have po := passes_of (X := cxOf (L2.CX P w) P w K mg base N_scRight "_law_right" (defScope st_scRight) f cdv A outer s H Ex') rfl
    refine ⟨_, (pss_cons (ps_lockX tk (fun _ tk1 => (ps_for po rfl (pi_keys (pv 1)) (pg_name (i := 3) scRight.nd rfl (by first | exact Or.inl rfl | exact Or.inr rfl)) (pss_one (ps_for po rfl (pi_listK K (pv 2)) (pg_name (i := 4) scRight.nd rfl (by first | exact Or.inl rfl | exact Or.inr rfl)) (pss_cons (ps_set (i := 5) scRight.nd rfl (by first | exact Or.inl rfl | exact Or.inr rfl) (pe_clo O__law_table hr (by decide) tk1 (pv 0) (pa_cons (pv 3) (pa_cons (pv 4) pa_nil))))
  (pss_cons (ps_if (PW.pt (pw_or (pt_not (q_truK K (p_isiK K hB (pv 5) (p_tyT hB)))) (pw_or1 (q_neK K hr (p_lenK K hB (pv 5)) pe_int)))) (pss_one (ps_ret pe_bl)) pss_nil)
  (pss_one (ps_if (PW.pt (pw_or (pt_not (q_truK K (pe_cal C__law_whole hr (by decide) tk1 (pa_cons (p_ixK K hr (pv 5) pe_int) pa_nil)))) (pw_or (pt_not (q_truK K (pe_cal C__law_whole hr (by decide) tk1 (pa_cons (p_ixK K hr (pv 5) pe_int) pa_nil)))) (pw_or1 (q_neK K hr (pv 5) (p_ixK K hr (p_ixK K hr (pv 1) (pv 3)) (pv 4))))))) (pss_one (ps_ret pe_bl)) pss_nil)))))))))
  (pss_one (ps_ret pe_bl))), ?_⟩
    rintro bs o ⟨⟨names, rss, size, start, spots⟩, rfl, hlen, hnd, hrn, hsz, hs1, hsp, rfl⟩
    dsimp only at hlen hnd hrn hsz hs1 hsp
    (try dsimp only [cxOf])
    show SD K _ _ (endsOf (.ret (.dat (.bl true)))) [.dat (tabD CT names rss size start), .dat (.dic (names.map .inr) (rss.map rowD)), .dat (.lst (spots.map D.int)), .no, .no, .no]
    refine sd_mid (fun δ => ∃ s3 s4 s5, δ = [.dat (tabD CT names rss size start), .dat (.dic (names.map .inr) (rss.map rowD)), .dat (.lst (spots.map D.int)), s3, s4, s5]) ?_ ?_
    · refine sd_forD rfl (fun j δ => ∃ s3 s4 s5, δ = [.dat (tabD CT names rss size start), .dat (.dic (names.map .inr) (rss.map rowD)), .dat (.lst (spots.map D.int)), s3, s4, s5]) ?_ ?_ ?_
      · exact ⟨_, _, _, rfl⟩
      · rintro W' j k δ' hk ⟨s3, s4, s5, rfl⟩
        rw [List.getElem?_map] at hk
        cases hnj : names[j]? with
        | none => rw [hnj] at hk; cases hk
        | some nj =>
          rw [hnj] at hk; cases hk
          have hj : j < names.length := (List.getElem?_eq_some_iff.mp hnj).1
          obtain ⟨rj, hrj⟩ : ∃ rj, rss[j]? = some rj := ⟨rss[j]'(by omega), List.getElem?_eq_getElem (by omega)⟩
          have hrl := hsz rj (List.mem_of_getElem? hrj)
          refine ⟨_, tg_name, ?_⟩
          refine sd_for (it_lst (ev_var rfl)) (fun _ δ => ∃ s4 s5, δ = [.dat (tabD CT names rss size start), .dat (.dic (names.map .inr) (rss.map rowD)), .dat (.lst (spots.map D.int)), .dat (.str nj), s4, s5]) ⟨_, _, rfl⟩ ?_ ?_
          · rintro i d δ' hd ⟨s4, s5, rfl⟩
            rw [List.getElem?_map] at hd
            cases hst : spots[i]? with
            | none => rw [hst] at hd; cases hd
            | some st =>
              rw [hst] at hd; cases hd
              have hs := hsp st (List.mem_of_getElem? hst)
              have hS : S_tcall CT CN CX [.dat (tabD CT names rss size start), .dat (.str nj), .dat (.int st)] (tcallM CN CX names rss size nj st) := ⟨⟨names, rss, size, start, nj, st⟩, rfl, hlen, hnd, hrn nj (List.mem_of_getElem? hnj), rep_int (Nat.lt_of_lt_of_le (show st.natAbs < 2 ^ 10 by omega) (Nat.pow_le_pow_right (by decide) (by decide))), hsz, rfl⟩
              unfold tcallM at hS
              rw [if_pos (List.mem_of_getElem? hnj), if_pos hs, pairAt_get hnd hnj hrj] at hS
              have hat := atI_row (r := rj) (st := st) hs.1 (by omega)
              generalize rj.getD st.toNat (0, 0) = pr at hS hat
              refine ⟨_, tg_name, ?_⟩
              refine sd_seq (sd_asg (ev_callO (ev_var rfl) (ec_cons (eb_dat (ev_var rfl)) (ec_cons (eb_dat (ev_var rfl)) ec_nil)) hS) ?_)
              refine sd_seq (sd_if (b := false) (et_is (et_or (a := false) (b := false) (et_is (et_not (et_truB (ev_isi (ea_cons (ev_var rfl) (ea_cons ev_ty ea_nil)) rfl (rfl : _ = some true)))) rfl) fun _ => et_is (et_test (ev_neI (ev_lenT (ea_cons (ev_var rfl) ea_nil)) ev_int)) rfl) rfl) (fun z => nomatch z) fun _ => sd_next ?_)
              refine sd_if (b := false) (et_is (et_or (a := false) (b := false) (et_is (et_not (et_truB (ev_call (ec_cons (eb_dat (ev_ixT (d := .int pr.1) (ev_var rfl) ev_int rfl)) ec_nil) ⟨.int pr.1, rfl, ⟨_, rfl⟩, rfl⟩))) rfl) fun _ => et_is (et_or (a := false) (b := false) (et_is (et_not (et_truB (ev_call (ec_cons (eb_dat (ev_ixT (d := .int pr.2) (ev_var rfl) ev_int rfl)) ec_nil) ⟨.int pr.2, rfl, ⟨_, rfl⟩, rfl⟩))) rfl) fun _ => et_test (ev_neF (ev_var rfl) (ev_ixL (ds := rj.map prD) (ev_ixD (k := .inr nj) (ev_var rfl) (ev_var rfl) (dget_at hnd hnj hrj)) (ev_var rfl) hat) (prD_ok pr).1 (prD_ok pr).2)) rfl) rfl) (fun z => nomatch z) fun _ => sd_next ⟨_, _, rfl⟩
          · rintro δ' ⟨s4, s5, rfl⟩
            exact ⟨_, _, _, rfl⟩
      · rintro δ' ⟨s3, s4, s5, rfl⟩
        exact ⟨_, _, _, rfl⟩
    rintro δ' ⟨s3, s4, s5, rfl⟩
    exact sd_ret ev_bl rfl

abbrev st_scTold : Stmt := topS 18
abbrev N_scTold : List Str := ["_law_script", "_law_names_here", "_law_size", "_law_rows", "_law_k", "_law_row_here", "_law_s"]
theorem scTold : FnScope N_scTold ["_law_script", "_law_names_here", "_law_size"] (defScope st_scTold) := ⟨rfl, rfl, rfl, by decide +kernel, rfl, by decide +kernel, by decide +kernel⟩

def rowT (R : List Int) (size : Nat) : List (Int × Int) := (List.range size).map fun (s : Nat) => ((R.getD (s % 12) 0 + (s : Int) / 12) % 10, (R.getD (s % 12) 0 / 10 + (s : Int)) % (size : Int))
def rssT (ns : List Int) (size m : Nat) : List (List (Int × Int)) := (List.range m).map fun (k : Nat) => rowT (rowM ns (2 + (k : Int)) 12) size
def S_told (K : PySem.W.Frag) : List Bw → Out → Prop := fun bs o => ∃ x : List Int × List Str × Nat, bs = [.dat (.lst (x.1.map D.int)), .dat (.lst (x.2.1.map D.str)), .dat (.int x.2.2)] ∧ x.1.length ≤ 63 ∧ x.2.1.Nodup ∧ x.2.1.length ≤ 6 ∧ 1 ≤ x.2.2 ∧ x.2.2 ≤ 100 ∧ o = .ret (.own (oD K (x.2.1.map .inr) ((rssT x.1 x.2.2 x.2.1.length).map rowD)))
theorem rowT_ok {R : List Int} {size : Nat} (h : 1 ≤ size ∧ size ≤ 100) : (rowT R size).length = size ∧ rowOk (rowT R size) (size : Int) = true := by
  have hl : (rowT R size).length = size := by unfold rowT; simp
  refine ⟨hl, ?_⟩
  unfold rowOk
  rw [hl, decide_eq_true (show (1 : Int) ≤ (size : Int) by omega), decide_eq_true (show ((size : Nat) : Int) ≤ 100 by omega), decide_eq_true (show ((size : Nat) : Int) = (size : Int) from rfl), Bool.and_self, Bool.and_true, Bool.true_and, List.all_eq_true]
  intro p hp
  unfold rowT at hp
  rw [List.mem_map] at hp
  obtain ⟨a, ha, rfl⟩ := hp
  have h1 := Int.emod_nonneg (R.getD (a % 12) 0 / 10 + (a : Int)) (show (size : Int) ≠ 0 by omega)
  have h2 := Int.emod_lt_of_pos (R.getD (a % 12) 0 / 10 + (a : Int)) (show (0 : Int) < (size : Int) by omega)
  dsimp only
  rw [decide_eq_true (by omega), decide_eq_true (by omega), decide_eq_true h1, decide_eq_true h2]; rfl
theorem givD_map (v : Nat → D) : ∀ q : Nat, givD (fun _ => true) v q = (List.range q).map v
  | 0 => rfl
  | q + 1 => by rw [givD_yes rfl, givD_map v q, List.range_succ]; simp
theorem not_take {α : Type} {l : List α} {j : Nat} {x : α} (hn : l.Nodup) (h : l[j]? = some x) : x ∉ l.take j := fun z => by
  obtain ⟨i, hi⟩ := List.getElem?_of_mem z
  have hi1 : i < j := by
    have := (List.getElem?_eq_some_iff.mp hi).1
    rw [List.length_take] at this; omega
  rw [List.getElem?_take_of_lt hi1] at hi
  have := nodup_get hn hi h
  omega
theorem ok_scTold {P : Program} {w : World} {K : PySem.W.Frag} {mg : Str → Option Value} {base : Heap} {f : Addr} {fd : FuncData} (F : FunA K "_law_told" "_law_told" st_scTold f fd) (hB : NoB mg) (C__law_row : Cal P w K mg base "_law_row" ["_law_script", "_law_k", "_law_many"] 1 (spR K (S_row K))) :
    FnOk P w K mg base (L2.CX P w) 3 f fd ["_law_script", "_law_names_here", "_law_size"] (spR K (S_told K)) := by
  refine fnD F scTold (fun ds o h => ?_) ?_
  · obtain ⟨_, h, _⟩ := h; rw [h]; rfl
  · intro cdv A outer s H Ex' hr
    have tk : Takes (cxOf (L2.CX P w) P w K mg base N_scTold "_law_told" (defScope st_scTold) f cdv A outer s H Ex') (fun cls d _ H => Ex' cls d H) := takes_of rfl rfl rfl rfl
    have po := passes_of (X := cxOf (L2.CX P w) P w K mg base N_scTold "_law_told" (defScope st_scTold) f cdv A outer s H Ex') rfl
    refine ⟨_, (pss_cons (ps_set (i := 3) scTold.nd rfl (by first | exact Or.inl rfl | exact Or.inr rfl) pe_dnewK)
  (pss_cons (ps_for po rfl (i_rng1 hB (p_lenK K hB (pv 1))) (pg_name (i := 4) scTold.nd rfl (by first | exact Or.inl rfl | exact Or.inr rfl)) (pss_cons (ps_set (i := 5) scTold.nd rfl (by first | exact Or.inl rfl | exact Or.inr rfl) (pe_cal C__law_row hr (by decide) tk (pa_cons (pv 0) (pa_cons (p_addK K pe_int (pv 4)) (pa_cons pe_int pa_nil)))))
  (pss_one (s_sub hr (pv 3) (p_ixK K hr (pv 1) (pv 4)) (pe_lc (own := [("_law_s", 6)]) rfl scTold.nd (i_rng1 hB (pv 2)) (blkOk_by (own := [("_law_s", 6)]) (N := N_scTold) (sc := defScope st_scTold) (by decide +kernel)) (fun _ _ _ _ _ => (pg_name (i := 6) scTold.nd rfl (by first | exact Or.inl rfl | exact Or.inr rfl))) (fun _ _ _ _ _ => pts_nil) (fun _ _ _ _ _ => (pe_tup (pa_cons (p_mod (p_int hB (p_addK K (p_ixK K hr (pv 5) (p_mod (pv 6) pe_int)) (p_div (pv 6) pe_int))) pe_int) (pa_cons (p_mod (p_int hB (p_addK K (p_div (p_ixK K hr (pv 5) (p_mod (pv 6) pe_int)) pe_int) (pv 6))) (pv 2)) pa_nil)))))))))
  (pss_one (ps_ret (pv 3))))), ?_⟩
    rintro bs o ⟨⟨ns, names, size⟩, rfl, hns, hnd, hn6, hs1, hs2, rfl⟩
    dsimp only at hns hnd hn6 hs1 hs2
    (try dsimp only [cxOf])
    show SD K _ _ (endsOf (.ret (.own (oD K (names.map .inr) ((rssT ns size names.length).map rowD))))) [.dat (.lst (ns.map D.int)), .dat (.lst (names.map D.str)), .dat (.int size), .no, .no, .no, .no]
    refine sd_seq (sd_asgN en_dic0 mon_oD ?_)
    refine sd_mid (fun δ => ∃ s4 s5, δ = [.dat (.lst (ns.map D.int)), .dat (.lst (names.map D.str)), .dat (.int size), .own (oD K (names.map .inr) ((rssT ns size names.length).map rowD)), s4, s5, .no]) ?_ ?_
    · refine sd_for (it_rng1 (ea_cons (ev_lenL (ea_cons (ev_var rfl) ea_nil)) ea_nil) (by simp) (by simp; omega)) (fun j δ => ∃ s4 s5, δ = [.dat (.lst (ns.map D.int)), .dat (.lst (names.map D.str)), .dat (.int size), .own (oD K ((names.take j).map .inr) ((rssT ns size j).map rowD)), s4, s5, .no]) ⟨_, _, rfl⟩ ?_ ?_
      · rintro j d δ' hd ⟨s4, s5, rfl⟩
        obtain ⟨hj, rfl⟩ := rngD_get hd
        have hj : j < names.length := by simpa using hj
        rw [Int.zero_add]
        obtain ⟨nj, hnj⟩ : ∃ n, names[j]? = some n := ⟨_, List.getElem?_eq_getElem hj⟩
        have anj : atI (names.map D.str) (j : Int) = some (.str nj) := atI_nat (by rw [List.getElem?_map, hnj]; rfl)
        refine ⟨_, tg_name, ?_⟩
        refine sd_seq (sd_asg (EvN.lst (en_call (ec_cons (eb_dat (ev_var rfl)) (ec_cons (eb_dat (ev_add ev_int (ev_var rfl))) (ec_cons (eb_dat ev_int) ec_nil))) ⟨(ns, 2 + (j : Int), 12), rfl, (by dsimp only; omega), (by dsimp only; omega), (by dsimp only; omega), (by dsimp only; omega), rfl⟩)) ?_)
        dsimp only
        generalize hR : rowM ns (2 + (j : Int)) 12 = R
        have hRl : R.length = 12 := by rw [← hR]; exact rowM_len _ _ _
        have haR : ∀ a : Nat, atI (R.map D.int) ((a : Int) % 12) = some (.int (R.getD (a % 12) 0)) := fun a => by
          rw [show (a : Int) % 12 = ((a % 12 : Nat) : Int) by omega]
          exact atI_nat (by rw [List.getElem?_map, List.getElem?_eq_getElem (by omega)]; simp [List.getD, List.getElem?_eq_getElem (show a % 12 < R.length by omega)])
        have hput := dput_new (ks := names.take j) (ds := (rssT ns size j).map rowD) (s := nj) (d := rowD (rowT R size)) (not_take hnd hnj)
        have hit : ItD K (iRng1 (tCons (tVar 2) tNil)) [.dat (.lst (ns.map D.int)), .dat (.lst (names.map D.str)), .dat (.int size), .own (oD K ((names.take j).map .inr) ((rssT ns size j).map rowD)), .dat (.int j), .dat (.lst (R.map D.int)), .no] (rngD 0 ((size : Int)).toNat) := it_rng1 (ea_cons (ev_var rfl) ea_nil) (by omega) (by omega)
        have hgv : givD (fun _ => true) (fun (s : Nat) => prD ((R.getD (s % 12) 0 + (s : Int) / 12) % 10, (R.getD (s % 12) 0 / 10 + (s : Int)) % (size : Int))) (rngD 0 ((size : Int)).toNat).length = (rowT R size).map prD := by
          rw [rngD_len, Int.toNat_natCast, givD_map]; unfold rowT; rw [List.map_map]; rfl
        refine sd_dput (k := .inr nj) (d := rowD (rowT R size)) rfl (EvN.lst ?_) (ev_ixL (ev_var rfl) (ev_var rfl) anj) (by rw [List.length_map, List.length_take]; omega) ⟨.dat (.int j), .dat (.lst (R.map D.int)), ?_⟩
        · rw [← hgv]
          refine en_lc hit rfl (by rw [rngD_len]; omega) (fun _ => true) _ fun a d hd => ?_
          obtain ⟨ha, rfl⟩ := rngD_get hd
          refine ⟨_, tc_name, rfl, et_yes, fun _ => ?_⟩
          rw [Int.zero_add]
          exact ev_tup (ea_cons (ev_mod (ev_int1 (ea_cons (ev_add (ev_ixL (ev_var rfl) (ev_mod (ev_var rfl) ev_int (by decide)) (haR a)) (ev_div (ev_var rfl) ev_int ⟨by decide, by decide⟩)) ea_nil)) ev_int (by decide)) (ea_cons (ev_mod (ev_int1 (ea_cons (ev_add (ev_div (ev_ixL (ev_var rfl) (ev_mod (ev_var rfl) ev_int (by decide)) (haR a)) ev_int ⟨by decide, by decide⟩) (ev_var rfl)) ea_nil)) (ev_var rfl) (by omega)) ea_nil)) (by simp)
        · rw [hput.1, hput.2, List.take_add_one, hnj]
          have : rssT ns size (j + 1) = rssT ns size j ++ [rowT R size] := by unfold rssT; rw [List.range_succ, List.map_append, ← hR]; rfl
          rw [this, List.map_append (f := rowD)]; rfl
      · rintro δ' ⟨s4, s5, rfl⟩
        rw [rngD_len]
        have e : (((names.map D.str).length : Nat) : Int).toNat = names.length := by simp
        rw [e, List.take_of_length_le (Nat.le_refl _)]
        exact ⟨_, _, rfl⟩
    rintro δ' ⟨s4, s5, rfl⟩
    exact sd_retO rfl rfl

abbrev st_scLaw : Stmt := topS 21
abbrev N_scLaw : List Str := ["_law_script", "_law_row_here", "_law_names_here", "_law_size", "_law_rows", "_law_passed", "_law_table", "_law_spots", "_law_name", "_law_lines", "_law_state", "_law_s"]
theorem scLaw : FnScope N_scLaw ["_law_script"] (defScope st_scLaw) := ⟨rfl, rfl, rfl, by decide +kernel, rfl, by decide +kernel, by decide +kernel⟩

def S_law : List Bw → Out → Prop := fun bs o => ∃ ns : List Int, bs = [.dat (.lst (ns.map D.int))] ∧ ns.length ≤ 63 ∧ o = .ret (.dat (.bl true))
theorem eb_ownRs {K : PySem.W.Frag} {δ : List Sl} {i : Nat} {ks : List Key} {rss : List (List (Int × Int))} (h : δ[i]? = some (.own (oDL K ks (rss.map fun r => r.map prD)))) : EvB K (tVar i) δ (.dic ks (rss.map rowB)) := by
  have := eb_ownDL h
  have e : (rss.map fun r => r.map prD).map (fun ds => Bw.lst (ds.map .dat)) = rss.map rowB := by
    rw [List.map_map]
    apply List.map_congr_left
    intro r _
    show Bw.lst ((r.map prD).map .dat) = rowB r
    unfold rowB; rw [List.map_map]; rfl
  rwa [e] at this
theorem ixN_nat {n j : Nat} (h : j < n) : ixN n (j : Int) = some j := by
  unfold ixN; rw [if_pos (by omega), if_pos (by omega), Int.toNat_natCast]
theorem nodup_inr : ∀ {l : List Str}, l.Nodup → (l.map (.inr : Str → Key)).Nodup
  | [], _ => by simp
  | a :: l, h => by
    rw [List.map_cons, List.nodup_cons]
    refine ⟨fun z => ?_, nodup_inr (List.nodup_cons.mp h).2⟩
    obtain ⟨b, hb, e⟩ := List.mem_map.mp z
    exact (List.nodup_cons.mp h).1 (Sum.inr.inj e ▸ hb)
theorem ok_scLaw {P : Program} {w : World} {K : PySem.W.Frag} {mg : Str → Option Value} {base : Heap} {f : Addr} {fd : FuncData} (F : FunA K "law" "law" st_scLaw f fd) (hB : NoB mg) {CT CB CN CX : Addr} (C__law_row : Cal P w K mg base "_law_row" ["_law_script", "_law_k", "_law_many"] 1 (spR K (S_row K))) (C__law_names : Cal P w K mg base "_law_names" ["_law_number", "_law_many"] 1 (spR K (S_names K))) (C__law_copied : Cal P w K mg base "_law_copied" ["_law_rows"] 1 (spR K (S_copied K))) (C__law_told : Cal P w K mg base "_law_told" ["_law_script", "_law_names_here", "_law_size"] 3 (spR K (S_told K))) (C__law_right : Cal P w K mg base "_law_right" ["_law_table", "_law_rows", "_law_spots"] 6 (spR K (S_right CT))) (C__law_refusal : Cal P w K mg base "_law_refusal" ["_law_table", "_law_name", "_law_state"] 6 (spR K (S_refusal CT))) (M_Table : Mak P w K mg base "Table" CT ["self", "rows", "start"] [] 4 (spI K CT (S_tab CB))) :
    FnOk P w K mg base (L2.CX P w) 9 f fd ["_law_script"] (spR K (S_law)) := by
  refine fnD F scLaw (fun ds o h => ?_) ?_
  · obtain ⟨_, h, _⟩ := h; rw [h]; rfl
  · intro cdv A outer s H Ex' hr
    have tk : Takes (cxOf (L2.CX P w) P w K mg base N_scLaw "law" (defScope st_scLaw) f cdv A outer s H Ex') (fun cls d _ H => Ex' cls d H) := takes_of rfl rfl rfl rfl
    have po := passes_of (X := cxOf (L2.CX P w) P w K mg base N_scLaw "law" (defScope st_scLaw) f cdv A outer s H Ex') rfl
    refine ⟨_, (pss_cons (ps_set (i := 1) scLaw.nd rfl (by first | exact Or.inl rfl | exact Or.inr rfl) (pe_cal C__law_row hr (by decide) tk (pa_cons (pv 0) (pa_cons pe_int (pa_cons pe_int pa_nil)))))
  (pss_cons (ps_set (i := 2) scLaw.nd rfl (by first | exact Or.inl rfl | exact Or.inr rfl) (pe_cal C__law_names hr (by decide) tk (pa_cons (p_ixK K hr (pv 1) pe_int) (pa_cons pe_int pa_nil))))
  (pss_cons (ps_set (i := 3) scLaw.nd rfl (by first | exact Or.inl rfl | exact Or.inr rfl) (p_addK K pe_int (p_mod (p_int hB (p_ixK K hr (pv 1) pe_int)) pe_int)))
  (pss_cons (ps_if (q_eqK K hr (p_mod (p_int hB (p_ixK K hr (pv 1) pe_int)) pe_int) pe_int) (pss_one (ps_set (i := 3) scLaw.nd rfl (by first | exact Or.inl rfl | exact Or.inr rfl) (p_addK K pe_int (p_mod (p_int hB (p_ixK K hr (pv 1) pe_int)) pe_int)))) pss_nil)
  (pss_cons (ps_set (i := 4) scLaw.nd rfl (by first | exact Or.inl rfl | exact Or.inr rfl) (pe_cal C__law_told hr (by decide) tk (pa_cons (pv 0) (pa_cons (pe_slice sl_list (pv 2) po_none (po_some (p_addK K pe_int (p_mod (p_int hB (p_ixK K hr (pv 1) pe_int)) pe_int)))) (pa_cons (pv 3) pa_nil)))))
  (pss_cons (ps_set (i := 5) scLaw.nd rfl (by first | exact Or.inl rfl | exact Or.inr rfl) (pe_cal C__law_copied hr (by decide) tk (pa_cons (pv 4) pa_nil)))
  (pss_cons (ps_set (i := 6) scLaw.nd rfl (by first | exact Or.inl rfl | exact Or.inr rfl) (pe_mak M_Table .nil hr (by decide) tk (pa_cons (pv 5) (pa_cons (p_mod (p_int hB (p_ixK K hr (pv 1) pe_int)) (pv 3)) pa_nil))))
  (pss_cons (ps_set (i := 7) scLaw.nd rfl (by first | exact Or.inl rfl | exact Or.inr rfl) (pe_lst (pa_cons pe_int (pa_cons (p_sub (pv 3) pe_int) (pa_cons (p_mod (p_int hB (p_ixK K hr (pv 1) pe_int)) (pv 3)) pa_nil)))))
  (pss_cons (ps_if (q_lt (pv 3) pe_int) (pss_one (ps_setLc (i := 7) (own := [("_law_s", 11)]) rfl scLaw.nd rfl rfl (sw_true rfl rfl rfl (by decide +kernel)) (i_rng1 hB (pv 3)) (blkOk_by (own := [("_law_s", 11)]) (N := N_scLaw) (sc := defScope st_scLaw) (by decide +kernel)) (fun _ _ _ _ _ => (pg_name (i := 11) scLaw.nd rfl (by first | exact Or.inl rfl | exact Or.inr rfl))) (fun _ _ _ _ _ => pts_nil) (fun _ _ _ _ _ => (pv 11)))) pss_nil)
  (pss_cons (ps_if (pt_not (q_truK K (pe_cal C__law_right hr (by decide) tk (pa_cons (pv 6) (pa_cons (pv 4) (pa_cons (pv 7) pa_nil)))))) (pss_one (ps_ret pe_bl)) pss_nil)
  (pss_cons (ps_lockX tk (fun _ tk1 => (ps_for po rfl (pi_keys (pv 4)) (pg_name (i := 8) scLaw.nd rfl (by first | exact Or.inl rfl | exact Or.inr rfl)) (pss_cons (ps_set (i := 9) scLaw.nd rfl (by first | exact Or.inl rfl | exact Or.inr rfl) (p_ixK K hr (pv 5) (pv 8)))
  (pss_cons (ps_asg (pe_tup (pa_cons pe_int (pa_cons pe_int pa_nil))) (pg_sub (pv 9) pe_int set_list))
  (pss_cons (ps_expr (pe_bm PySem.F.plainAttrs_list PySem.F.slot_list_append PySem.F.type_list_append mt_append (pv 9) (pa_cons (pe_tup (pa_cons pe_int (pa_cons pe_int pa_nil))) pa_nil)))
  (pss_one (s_sub hr (pv 5) (pv 8) (pe_lst pa_nil)))))))))
  (pss_cons (ps_if (pt_not (q_truK K (pe_cal C__law_right hr (by decide) tk (pa_cons (pv 6) (pa_cons (pv 4) (pa_cons (pv 7) pa_nil)))))) (pss_one (ps_ret pe_bl)) pss_nil)
  (pss_cons (ps_lockX tk (fun _ tk2 => (ps_for po rfl (pi_keys (pv 4)) (pg_name (i := 8) scLaw.nd rfl (by first | exact Or.inl rfl | exact Or.inr rfl)) (pss_one (ps_for po rfl (pi_listK K (pe_lst (pa_cons (p_neg pe_int) (pa_cons (pv 3) (pa_cons (p_addK K (pv 3) (p_mod (p_int hB (p_ixK K hr (pv 1) pe_int)) pe_int)) (pa_cons (p_sub (p_neg pe_int) (p_mod (p_int hB (p_ixK K hr (pv 1) pe_int)) (pv 3))) pa_nil)))))) (pg_name (i := 10) scLaw.nd rfl (by first | exact Or.inl rfl | exact Or.inr rfl)) (pss_cons (ps_if (q_neK K hr (pe_cal C__law_refusal hr (by decide) tk2 (pa_cons (pv 6) (pa_cons (pv 8) (pa_cons (pv 10) pa_nil)))) (pe_tup (pa_cons pe_str (pa_cons (pv 10) pa_nil)))) (pss_one (ps_ret pe_bl)) pss_nil)
  (pss_one (ps_if (q_neK K hr (pe_cal C__law_refusal hr (by decide) tk2 (pa_cons (pv 6) (pa_cons (p_ixK K hr (pv 2) pe_int) (pa_cons (pv 10) pa_nil)))) (pe_tup (pa_cons pe_str (pa_cons (p_ixK K hr (pv 2) pe_int) pa_nil)))) (pss_one (ps_ret pe_bl)) pss_nil))))))))
  (pss_one (ps_ret (p_eqK K hr (pe_cal C__law_refusal hr (by decide) tk (pa_cons (pv 6) (pa_cons (p_ixK K hr (pv 2) pe_int) (pa_cons pe_int pa_nil)))) (pe_tup (pa_cons pe_str (pa_cons (p_ixK K hr (pv 2) pe_int) pa_nil))))))))))))))))))), ?_⟩
    rintro bs o ⟨ns, rfl, hl, rfl⟩
    (try dsimp only [cxOf])
    show SD K _ _ (endsOf (.ret (.dat (.bl true)))) [.dat (.lst (ns.map D.int)), .no, .no, .no, .no, .no, .no, .no, .no, .no, .no, .no]
    refine sd_seq (sd_asg (EvN.lst (en_call (ec_cons (eb_dat (ev_var rfl)) (ec_cons (eb_dat ev_int) (ec_cons (eb_dat ev_int) ec_nil))) ⟨(ns, 0, 6), rfl, (by first | omega | (dsimp only; omega) | (simp; done)), (by first | omega | (dsimp only; omega) | (simp; done)), (by first | omega | (dsimp only; omega) | (simp; done)), (by first | omega | (dsimp only; omega) | (simp; done)), rfl⟩)) ?_)
    obtain ⟨r0, r1, r2, r3, r4, r5, hrow⟩ := six (rowM_len ns 0 6)
    have hrng := rowM_rng ns 0 6
    show SD K _ _ _ [.dat (.lst (ns.map D.int)), .dat (.lst ((rowM ns 0 6).map D.int)), .no, .no, .no, .no, .no, .no, .no, .no, .no, .no]
    rw [hrow] at hrng ⊢
    have g0 := hrng r0 (by simp)
    have g1 := hrng r1 (by simp)
    have g2 := hrng r2 (by simp)
    have g3 := hrng r3 (by simp)
    have g4 := hrng r4 (by simp)
    have g5 := hrng r5 (by simp)
    generalize hR : (([r0, r1, r2, r3, r4, r5] : List Int).map D.int) = R
    have a0 : atI R 0 = some (.int r0) := by rw [← hR]; rfl
    have a1 : atI R 1 = some (.int r1) := by rw [← hR]; rfl
    have a2 : atI R 2 = some (.int r2) := by rw [← hR]; rfl
    have a3 : atI R 3 = some (.int r3) := by rw [← hR]; rfl
    have a4 : atI R 4 = some (.int r4) := by rw [← hR]; rfl
    have a5 : atI R 5 = some (.int r5) := by rw [← hR]; rfl
    refine sd_seq (sd_asg (EvN.lst (en_call (ec_cons (eb_dat (ev_ixL (ev_var rfl) ev_int a0)) (ec_cons (eb_dat ev_int) ec_nil)) ⟨(r0, 7), rfl, (by first | omega | (dsimp only; omega) | (simp; done)), (by first | omega | (dsimp only; omega) | (simp; done)), rfl⟩)) ?_)
    dsimp only
    refine sd_seq (sd_asg (ev_add ev_int (ev_mod (ev_int1 (ea_cons (ev_ixL (ev_var rfl) ev_int a1) ea_nil)) ev_int (by decide))) ?_)
    refine sd_mid (fun δ => ∃ size : Nat, 1 ≤ size ∧ size ≤ 100 ∧ δ = [.dat (.lst (ns.map D.int)), .dat (.lst R), .dat (.lst ((namesM r0 7).map D.str)), .dat (.int size), .no, .no, .no, .no, .no, .no, .no, .no]) ?_ ?_
    · refine sd_if (et_test (ev_eqI (ev_mod (ev_int1 (ea_cons (ev_ixL (ev_var rfl) ev_int a2) ea_nil)) ev_int (by decide)) ev_int)) ?_ ?_ <;> intro hb
      · obtain ⟨z, hz⟩ : ∃ m : Nat, 1 + r1 % 100 = (m : Int) := ⟨(1 + r1 % 100).toNat, by omega⟩
        refine sd_asg (ev_is (ev_add ev_int (ev_mod (ev_int1 (ea_cons (ev_ixL (ev_var rfl) ev_int a1) ea_nil)) ev_int (by decide))) (by rw [hz])) ⟨z, by omega, by omega, rfl⟩
      · obtain ⟨z, hz⟩ : ∃ m : Nat, 1 + r1 % 6 = (m : Int) := ⟨(1 + r1 % 6).toNat, by omega⟩
        rw [hz]
        exact sd_next ⟨z, by omega, by omega, rfl⟩
    rintro δ' ⟨size, hs1, hs2, rfl⟩
    obtain ⟨many, hm⟩ : ∃ m : Nat, 1 + r3 % 6 = (m : Int) := ⟨(1 + r3 % 6).toNat, by omega⟩
    have hm2 : 1 ≤ many ∧ many ≤ 6 := by omega
    have hnd : (namesM r0 many).Nodup := namesM_nodup r0 (by omega)
    have hlen : (namesM r0 many).length = (rssT ns size many).length := by rw [namesM_len]; unfold rssT; simp
    have hrep : ∀ s ∈ (namesM r0 many), s.length ≤ 1000000 ∧ RepD (.str s) := fun s hs => by
      obtain ⟨k, _, rfl⟩ := namesM_mem hs
      exact nm_rep r0 k
    have hrok : ∀ r ∈ rssT ns size many, r.length = size ∧ rowOk r (size : Int) = true := fun r hr => by
      unfold rssT at hr
      rw [List.mem_map] at hr
      obtain ⟨k, _, rfl⟩ := hr
      exact rowT_ok ⟨hs1, hs2⟩
    have hrl : ∀ r ∈ rssT ns size many, (r.length : Int) = (size : Int) := fun r hr => by rw [(hrok r hr).1]
    refine sd_seq (sd_asgN (en_call (φ := oD K ((namesM r0 many).map .inr) ((rssT ns size many).map rowD)) (ec_cons (eb_dat (ev_var rfl)) (ec_cons (eb_dat (ev_is (EvN.lst (en_slL (ev_var rfl) eo_none (eo_some (ev_add ev_int (ev_mod (ev_int1 (ea_cons (ev_ixL (ev_var rfl) ev_int a3) ea_nil)) ev_int (by decide)))))) (by rw [hm, cut_names r0 (by omega)]))) (ec_cons (eb_dat (ev_var rfl)) ec_nil))) ⟨(ns, namesM r0 many, size), rfl, hl, hnd, by dsimp only; rw [namesM_len]; omega, hs1, hs2, by dsimp only; rw [namesM_len]⟩) mon_oD ?_)
    refine sd_frzD (i := 4) rfl ?_
    have hcop : S_copied K [.dic ((namesM r0 many).map .inr) ((rssT ns size many).map rowB)] (.ret (.own (oDL K ((namesM r0 many).map .inr) ((rssT ns size many).map fun r => r.map prD)))) := ⟨((namesM r0 many), rssT ns size many), rfl, hlen, hnd, by show (namesM r0 many).length ≤ 1000; rw [namesM_len]; omega, rfl⟩
    refine sd_seq (sd_asgN (en_call (ec_cons (eb_rows (eb_dic (eb_dat (ev_var rfl)))) ec_nil) hcop) mon_oDL ?_)
    have hts : tSize (rssT ns size many) = (size : Int) := by
      obtain ⟨j, rfl⟩ : ∃ j, many = j + 1 := ⟨many - 1, by omega⟩
      unfold rssT
      rw [List.range_succ_eq_map, List.map_cons]
      show (((rowT _ size).length : Nat) : Int) = (size : Int)
      rw [(rowT_ok ⟨hs1, hs2⟩).1]
    have hst : 0 ≤ r4 % (size : Int) ∧ r4 % (size : Int) < (size : Int) := ⟨Int.emod_nonneg _ (by omega), Int.emod_lt_of_pos _ (by omega)⟩
    have hS : S_tab CB [.dic ((namesM r0 many).map .inr) ((rssT ns size many).map rowB), .dat (.int (r4 % (size : Int)))] (.ok ["lines", "size", "start"] [.dic ((namesM r0 many).map .inr) ((rssT ns size many).map rowD), .int (size : Int), .int (r4 % (size : Int))]) := by
      refine ⟨((namesM r0 many), rssT ns size many, r4 % (size : Int)), rfl, hlen, hnd, hrep, ?_⟩
      rw [tabM_ok (by rw [namesM_len]; exact hm2) (fun s hs => by
        obtain ⟨k, _, rfl⟩ := namesM_mem hs
        exact nm_ok r0 k) (fun r hr => by rw [hts]; exact (hrok r hr).2) (by rw [hts]; exact hst), hts]
    refine sd_seq (sd_asg (ev_make (ec_cons (eb_ownRs rfl) (ec_cons (eb_dat (ev_mod (ev_int1 (ea_cons (ev_ixL (ev_var rfl) ev_int a4) ea_nil)) (ev_var rfl) (by omega))) ec_nil)) defs0 hS) ?_)
    generalize r4 % (size : Int) = start
    have h5 : 0 ≤ r5 % (size : Int) ∧ r5 % (size : Int) < (size : Int) := ⟨Int.emod_nonneg _ (by omega), Int.emod_lt_of_pos _ (by omega)⟩
    refine sd_seq (sd_asg (EvN.lst (en_lst (ea_cons ev_int (ea_cons (ev_sub (ev_var rfl) ev_int) (ea_cons (ev_mod (ev_int1 (ea_cons (ev_ixL (ev_var rfl) ev_int a5) ea_nil)) (ev_var rfl) (by omega)) ea_nil))) (by simp))) ?_)
    refine sd_mid (fun δ => ∃ spots : List Int, (∀ s ∈ spots, 0 ≤ s ∧ s < (size : Int)) ∧ δ = [.dat (.lst (ns.map D.int)), .dat (.lst R), .dat (.lst ((namesM r0 7).map D.str)), .dat (.int size), .dat (.dic ((namesM r0 many).map .inr) ((rssT ns size many).map rowD)), .own (oDL K ((namesM r0 many).map .inr) ((rssT ns size many).map fun r => r.map prD)), .dat (tabD CT (namesM r0 many) (rssT ns size many) size start), .dat (.lst (spots.map D.int)), .no, .no, .no, .no]) ?_ ?_
    · refine sd_if (et_test (ev_lt (ev_var rfl) ev_int)) ?_ ?_ <;> intro hb
      · refine sd_asg (d := .lst (((List.range size).map fun (a : Nat) => (a : Int)).map D.int)) (EvN.lst ?_) ⟨(List.range size).map fun (a : Nat) => (a : Int), fun s hs => ?_, rfl⟩
        · have hit : ItD K (iRng1 (tCons (tVar 3) tNil)) [.dat (.lst (ns.map D.int)), .dat (.lst R), .dat (.lst ((namesM r0 7).map D.str)), .dat (.int size), .dat (.dic ((namesM r0 many).map .inr) ((rssT ns size many).map rowD)), .own (oDL K ((namesM r0 many).map .inr) ((rssT ns size many).map fun r => r.map prD)), .dat (tabD CT (namesM r0 many) (rssT ns size many) size start), .dat (.lst [.int 0, .int (size - 1), .int (r5 % size)]), .no, .no, .no, .no] (rngD 0 ((size : Int)).toNat) := it_rng1 (ea_cons (ev_var rfl) ea_nil) (by omega) (by omega)
          have h2 := en_lc (K := K) (g := gName 11) (tt := tYes) (te := tVar 11) (vs := [11]) hit rfl (by rw [rngD_len]; omega) (fun _ => true) (fun (a : Nat) => .int a) fun a d hd => ⟨_, tc_name, rfl, et_yes, fun _ => by
            obtain ⟨ha, rfl⟩ := rngD_get hd
            rw [Int.zero_add]
            exact ev_var rfl⟩
          rw [rngD_len, Int.toNat_natCast, givD_map] at h2
          rw [List.map_map]
          exact h2
        · rw [List.mem_map] at hs
          obtain ⟨a, ha, rfl⟩ := hs
          have := List.mem_range.mp ha
          omega
      · exact sd_next ⟨[0, (size : Int) - 1, r5 % (size : Int)], fun s hs => by
          simp only [List.mem_cons, List.not_mem_nil, or_false] at hs
          rcases hs with rfl | rfl | rfl <;> omega, rfl⟩
    rintro δ' ⟨spots, hsp, rfl⟩
    have hright : S_right CT [.dat (tabD CT (namesM r0 many) (rssT ns size many) size start), .dat (.dic ((namesM r0 many).map .inr) ((rssT ns size many).map rowD)), .dat (.lst (spots.map D.int))] (.ret (.dat (.bl true))) := ⟨⟨(namesM r0 many), rssT ns size many, size, start, spots⟩, rfl, hlen, hnd, fun n hn => (hrep n hn).2, hrl, by show (size : Int) ≤ 1000; omega, hsp, rfl⟩
    refine sd_seq (sd_if (b := false) (et_is (et_not (et_truB (ev_call (ec_cons (eb_dat (ev_var rfl)) (ec_cons (eb_dat (ev_var rfl)) (ec_cons (eb_dat (ev_var rfl)) ec_nil))) hright))) rfl) (fun z => nomatch z) fun _ => sd_next ?_)
    refine sd_mid (fun δ => ∃ xss s8 s9, δ = [.dat (.lst (ns.map D.int)), .dat (.lst R), .dat (.lst ((namesM r0 7).map D.str)), .dat (.int size), .dat (.dic ((namesM r0 many).map .inr) ((rssT ns size many).map rowD)), .own (oDL K ((namesM r0 many).map .inr) (xss)), .dat (tabD CT (namesM r0 many) (rssT ns size many) size start), .dat (.lst (spots.map D.int)), s8, s9, .no, .no]) ?_ ?_
    · refine sd_forD rfl (fun j δ => ∃ xss s8 s9, (List.length xss = many ∧ ∀ k, j ≤ k → k < many → ∃ es : List D, xss[k]? = some es ∧ es.length = size) ∧ δ = [.dat (.lst (ns.map D.int)), .dat (.lst R), .dat (.lst ((namesM r0 7).map D.str)), .dat (.int size), .dat (.dic ((namesM r0 many).map .inr) ((rssT ns size many).map rowD)), .own (oDL K ((namesM r0 many).map .inr) (xss)), .dat (tabD CT (namesM r0 many) (rssT ns size many) size start), .dat (.lst (spots.map D.int)), s8, s9, .no, .no]) ?_ ?_ ?_
      · refine ⟨_, _, _, ⟨by rw [List.length_map, ← hlen, namesM_len], fun k _ hk => ?_⟩, rfl⟩
        have hk' : k < (rssT ns size many).length := by rw [← hlen, namesM_len]; exact hk
        refine ⟨((rssT ns size many)[k]).map prD, by rw [List.getElem?_map, List.getElem?_eq_getElem hk']; rfl, ?_⟩
        rw [List.length_map, (hrok _ (List.getElem_mem hk')).1]
      · rintro W' j k δ' hk ⟨xss, s8, s9, ⟨hxl, hx⟩, rfl⟩
        rw [List.getElem?_map] at hk
        cases hnj : (namesM r0 many)[j]? with
        | none => rw [hnj] at hk; cases hk
        | some nj =>
          rw [hnj] at hk; cases hk
          have hj : j < many := by
            have := (List.getElem?_eq_some_iff.mp hnj).1
            rwa [namesM_len] at this
          obtain ⟨es, hes, hel⟩ := hx j (Nat.le_refl _) hj
          have hkj : ((namesM r0 many).map (.inr : Str → Key))[j]? = some (.inr nj) := by rw [List.getElem?_map, hnj]; rfl
          refine ⟨_, tg_name, ?_⟩
          refine sd_open (i := 5) rfl fun p ps hp1 hp2 => ?_
          obtain ⟨pa, hpa⟩ : ∃ a, ps[j]? = some a := ⟨_, List.getElem?_eq_getElem (by omega)⟩
          refine sd_seq (sd_asg (d := .ref pa) (ev_ixDA (i := 5) (k := .inr nj) (n := j) rfl (ev_var rfl) (nodup_inr hnd) hkj hpa) ?_)
          refine sd_seq (sd_setA (i := 5) (j := 9) (n := j) (m := 0) (k := 0) rfl rfl hpa hes (ev_tup (ea_cons ev_int (ea_cons ev_int ea_nil)) (by simp)) ev_int (ixN_nat (j := 0) (by omega)) ?_)
          refine sd_seq (sd_appA (i := 5) (j := 9) (n := j) (es := es.set 0 (.tup [.int 9, .int 0])) rfl rfl hpa (by rw [List.getElem?_set, if_pos rfl, if_pos (by omega)]) (ev_tup (ea_cons ev_int (ea_cons ev_int ea_nil)) (by simp)) (by rw [List.length_set]; omega) ?_)
          refine sd_close (i := 5) rfl ?_
          refine sd_dputS (i := 5) (k := .inr nj) (n := j) (ds := []) rfl (fun p ps => en_lst ea_nil (by simp)) (fun p ps => ev_var rfl) (nodup_inr hnd) hkj (by rw [List.length_map, namesM_len]; omega) ⟨_, .dat (.str nj), .dat (.ref pa), ⟨by rw [List.length_set, List.length_set, List.length_set]; exact hxl, fun k h1 h2 => ?_⟩, rfl⟩
          obtain ⟨es', h3, h4⟩ := hx k (by omega) h2
          refine ⟨es', ?_, h4⟩
          rw [List.getElem?_set, if_neg (by omega), List.getElem?_set, if_neg (by omega), List.getElem?_set, if_neg (by omega), h3]
      · rintro δ' ⟨xss, s8, s9, _, rfl⟩
        exact ⟨_, _, _, rfl⟩
    rintro δ' ⟨xss, s8, s9, rfl⟩
    generalize (Sl.own (oDL K ((namesM r0 many).map .inr) xss)) = s5
    refine sd_seq (sd_if (b := false) (et_is (et_not (et_truB (ev_call (ec_cons (eb_dat (ev_var rfl)) (ec_cons (eb_dat (ev_var rfl)) (ec_cons (eb_dat (ev_var rfl)) ec_nil))) hright))) rfl) (fun z => nomatch z) fun _ => sd_next ?_)
    have h6 : nm r0 ((6 : Nat) : Int) ∉ (namesM r0 many) := fun z => by
      obtain ⟨k, hk, e⟩ := namesM_mem z
      have := nm_inj (k := (((6 : Nat) : Int))) (j := (k : Int)) ⟨by omega, by omega⟩ ⟨by omega, by omega⟩ e
      omega
    have a6 : atI ((namesM r0 7).map D.str) 6 = some (.str (nm r0 ((6 : Nat) : Int))) := atI_names (by decide) rfl
    have hop : ∀ v : Int, v.natAbs < 2 ^ 250 → S_refusal CT [.dat (tabD CT (namesM r0 many) (rssT ns size many) size start), .dat (.str (nm r0 ((6 : Nat) : Int))), .dat (.int v)] (.ret (.dat (.tup [.str "operation", .str (nm r0 ((6 : Nat) : Int))]))) := fun v hv =>
      ⟨⟨(namesM r0 many), rssT ns size many, size, start, nm r0 ((6 : Nat) : Int), v⟩, rfl, hlen, hnd, (nm_rep _ _).2, rep_int hv, hrl, by unfold refsO; rw [if_neg h6]⟩
    have okop : pyOk (.tup [.str "operation", .str (nm r0 ((6 : Nat) : Int))]) = true ∧ dep (.tup [.str "operation", .str (nm r0 ((6 : Nat) : Int))]) ≤ 64 := by
      refine ⟨?_, ?_⟩
      · unfold pyOk pyOkA pyOk pyOkA pyOk pyOkA; rw [nm_strOk]; decide +kernel
      · unfold dep depA dep depA dep depA; decide
    refine sd_mid (fun δ => ∃ s8 s10, δ = [.dat (.lst (ns.map D.int)), .dat (.lst R), .dat (.lst ((namesM r0 7).map D.str)), .dat (.int size), .dat (.dic ((namesM r0 many).map .inr) ((rssT ns size many).map rowD)), s5, .dat (tabD CT (namesM r0 many) (rssT ns size many) size start), .dat (.lst (spots.map D.int)), s8, s9, s10, .no]) ?_ ?_
    · refine sd_forD rfl (fun j δ => ∃ s8 s10, δ = [.dat (.lst (ns.map D.int)), .dat (.lst R), .dat (.lst ((namesM r0 7).map D.str)), .dat (.int size), .dat (.dic ((namesM r0 many).map .inr) ((rssT ns size many).map rowD)), s5, .dat (tabD CT (namesM r0 many) (rssT ns size many) size start), .dat (.lst (spots.map D.int)), s8, s9, s10, .no]) ⟨_, _, rfl⟩ ?_ ?_
      · rintro W' j k δ' hk ⟨s8, s10, rfl⟩
        rw [List.getElem?_map] at hk
        cases hnj : (namesM r0 many)[j]? with
        | none => rw [hnj] at hk; cases hk
        | some nj =>
          rw [hnj] at hk; cases hk
          have hmem : nj ∈ (namesM r0 many) := List.mem_of_getElem? hnj
          refine ⟨_, tg_name, ?_⟩
          refine sd_for (it_lst (EvN.lst (en_lst (ea_cons (ev_neg ev_int) (ea_cons (ev_var rfl) (ea_cons (ev_add (ev_var rfl) (ev_mod (ev_int1 (ea_cons (ev_ixL (ev_var rfl) ev_int a5) ea_nil)) ev_int (by decide))) (ea_cons (ev_sub (ev_neg ev_int) (ev_mod (ev_int1 (ea_cons (ev_ixL (ev_var rfl) ev_int a5) ea_nil)) (ev_var rfl) (by omega))) ea_nil)))) (by simp)))) (fun _ δ => ∃ s10, δ = [.dat (.lst (ns.map D.int)), .dat (.lst R), .dat (.lst ((namesM r0 7).map D.str)), .dat (.int size), .dat (.dic ((namesM r0 many).map .inr) ((rssT ns size many).map rowD)), s5, .dat (tabD CT (namesM r0 many) (rssT ns size many) size start), .dat (.lst (spots.map D.int)), .dat (.str nj), s9, s10, .no]) ⟨_, rfl⟩ ?_ ?_
          · rintro i d δ' hd ⟨s10, rfl⟩
            obtain ⟨v, rfl, hv, hv2⟩ : ∃ v : Int, d = .int v ∧ ¬ (0 ≤ v ∧ v < (size : Int)) ∧ v.natAbs < 2 ^ 20 := by
              have := List.mem_of_getElem? hd
              simp only [List.mem_cons, List.not_mem_nil, or_false] at this
              rcases this with rfl | rfl | rfl | rfl <;> exact ⟨_, rfl, by omega, by omega⟩
            have hv3 : v.natAbs < 2 ^ 250 := Nat.lt_of_lt_of_le hv2 (Nat.pow_le_pow_right (by decide) (by decide))
            have hnum : S_refusal CT [.dat (tabD CT (namesM r0 many) (rssT ns size many) size start), .dat (.str nj), .dat (.int v)] (.ret (.dat (.tup [.str "number", .int v]))) :=
              ⟨⟨(namesM r0 many), rssT ns size many, size, start, nj, v⟩, rfl, hlen, hnd, (hrep nj hmem).2, rep_int hv3, hrl, by unfold refsO; rw [if_pos hmem, if_neg hv]⟩
            have oknum : pyOk (.tup [.str "number", .int v]) = true ∧ dep (.tup [.str "number", .int v]) ≤ 64 := by
              refine ⟨?_, ?_⟩
              · unfold pyOk pyOkA pyOk pyOkA pyOk pyOkA; decide +kernel
              · unfold dep depA dep depA dep depA; decide
            refine ⟨_, tg_name, ?_⟩
            refine sd_seq (sd_if (b := false) (et_test (ev_neF (ev_call (ec_cons (eb_dat (ev_var rfl)) (ec_cons (eb_dat (ev_var rfl)) (ec_cons (eb_dat (ev_var rfl)) ec_nil))) hnum) (ev_tup (ea_cons ev_str (ea_cons (ev_var rfl) ea_nil)) (by simp)) oknum.1 oknum.2)) (fun z => nomatch z) fun _ => sd_next ?_)
            refine sd_if (b := false) (et_test (ev_neF (ev_call (ec_cons (eb_dat (ev_var rfl)) (ec_cons (eb_dat (ev_ixL (ev_var rfl) ev_int a6)) (ec_cons (eb_dat (ev_var rfl)) ec_nil))) (hop v hv3)) (ev_tup (ea_cons ev_str (ea_cons (ev_ixL (ev_var rfl) ev_int a6) ea_nil)) (by simp)) okop.1 okop.2)) (fun z => nomatch z) fun _ => sd_next ⟨_, rfl⟩
          · rintro δ' ⟨s10, rfl⟩
            exact ⟨_, _, rfl⟩
      · rintro δ' ⟨s8, s10, rfl⟩
        exact ⟨_, _, rfl⟩
    rintro δ' ⟨s8, s10, rfl⟩
    exact sd_ret (ev_eqT (ev_call (ec_cons (eb_dat (ev_var rfl)) (ec_cons (eb_dat (ev_ixL (ev_var rfl) ev_int a6)) (ec_cons (eb_dat ev_int) ec_nil))) (hop 0 (by decide +kernel))) (ev_tup (ea_cons ev_str (ea_cons (ev_ixL (ev_var rfl) ev_int a6) ea_nil)) (by simp)) okop.1 okop.2) rfl

abbrev st_BadTable : Stmt := inClass (topS 3) 0
theorem syn_BadTable : ∃ (pre : Str) (cst : Nat) (j1 j2 j3 q1 q2 q3 q4 : Pos), ErrX.ErrSyn st_BadTable "BadTable.__init__" ["name"] [.Constant (.str pre) cst j1, .FormattedValue (.Name "name" j2) 114 none j3] [.Assign [.Attribute (.Name "self" q1) "name" q2] (.Name "name" q3) q4] ∧ pre.length ≤ 100 :=
  ⟨_, _, _, _, _, _, _, _, _, { body := ⟨_, _, _, _, _, _, rfl, rfl⟩, args := rfl, kSelf := rfl, kSup := rfl, kCls := rfl, kPs := (by intro p hp; rw [List.mem_singleton.mp hp]; rfl), kind := rfl, gen := rfl, co := rfl, noC := by decide +kernel, first := (fun x us h => match us, h with | [_], _ => rfl), bind := (fun _ _ _ _ _ _ _ us h => match us, h with | [_, _], _ => rfl) }, by decide +kernel⟩

abbrev st_NoOperation : Stmt := inClass (topS 4) 0
theorem syn_NoOperation : ∃ (pre : Str) (cst : Nat) (j1 j2 j3 q1 q2 q3 q4 : Pos), ErrX.ErrSyn st_NoOperation "NoOperation.__init__" ["name"] [.Constant (.str pre) cst j1, .FormattedValue (.Name "name" j2) 114 none j3] [.Assign [.Attribute (.Name "self" q1) "name" q2] (.Name "name" q3) q4] ∧ pre.length ≤ 100 :=
  ⟨_, _, _, _, _, _, _, _, _, { body := ⟨_, _, _, _, _, _, rfl, rfl⟩, args := rfl, kSelf := rfl, kSup := rfl, kCls := rfl, kPs := (by intro p hp; rw [List.mem_singleton.mp hp]; rfl), kind := rfl, gen := rfl, co := rfl, noC := by decide +kernel, first := (fun x us h => match us, h with | [_], _ => rfl), bind := (fun _ _ _ _ _ _ _ us h => match us, h with | [_, _], _ => rfl) }, by decide +kernel⟩

abbrev st_BadNumber : Stmt := inClass (topS 5) 0
theorem syn_BadNumber : ∃ (pre : Str) (cst : Nat) (j1 j2 j3 q1 q2 q3 q4 : Pos), ErrX.ErrSyn st_BadNumber "BadNumber.__init__" ["number"] [.Constant (.str pre) cst j1, .FormattedValue (.Name "number" j2) 114 none j3] [.Assign [.Attribute (.Name "self" q1) "number" q2] (.Name "number" q3) q4] ∧ pre.length ≤ 100 :=
  ⟨_, _, _, _, _, _, _, _, _, { body := ⟨_, _, _, _, _, _, rfl, rfl⟩, args := rfl, kSelf := rfl, kSup := rfl, kCls := rfl, kPs := (by intro p hp; rw [List.mem_singleton.mp hp]; rfl), kind := rfl, gen := rfl, co := rfl, noC := by decide +kernel, first := (fun x us h => match us, h with | [_], _ => rfl), bind := (fun _ _ _ _ _ _ _ us h => match us, h with | [_, _], _ => rfl) }, by decide +kernel⟩

theorem all_mk {l : PySem.W.OpenLaw} {w : World} {K : PySem.W.Frag} {h : Heap} {mg : Str → Option Value} {fa : Addr} (X : K.In h) (G : h.Ns mainGlobals mg) (hfa : mg "law" = some (.ref fa))
    {tok_LETTERS : Tok}
    {tok_MOST_STATES : Tok}
    {tok_MOST_OPERATIONS : Tok}
    {CB : Addr}
    {nm_BadTable q_BadTable : Str} {N_BadTable : Addr} {bs_BadTable bm_BadTable : List Value} {sn_BadTable : List Str} {sub_BadTable : List Value} {ab_BadTable : Bool} {col_BadTable : Option Bool} {dd_BadTable : Option Addr} {m0_BadTable m1_BadTable m2_BadTable m3_BadTable m5_BadTable : Option Value} {fI_BadTable cda_BadTable cc_BadTable : Addr} {oc_BadTable kV_BadTable dc_BadTable pm_BadTable ct_BadTable ccl_BadTable cl_BadTable : Value} {od_BadTable an_BadTable cdd_BadTable cld_BadTable : Option Addr} {osl_BadTable ccs_BadTable csl_BadTable : Array (Option Value)} {vs_BadTable : Array Value} {file_BadTable : Str} {tf_BadTable : Tok}
    {CN : Addr}
    {nm_NoOperation q_NoOperation : Str} {N_NoOperation : Addr} {bs_NoOperation bm_NoOperation : List Value} {sn_NoOperation : List Str} {sub_NoOperation : List Value} {ab_NoOperation : Bool} {col_NoOperation : Option Bool} {dd_NoOperation : Option Addr} {m0_NoOperation m1_NoOperation m2_NoOperation m3_NoOperation m5_NoOperation : Option Value} {fI_NoOperation cda_NoOperation cc_NoOperation : Addr} {oc_NoOperation kV_NoOperation dc_NoOperation pm_NoOperation ct_NoOperation ccl_NoOperation cl_NoOperation : Value} {od_NoOperation an_NoOperation cdd_NoOperation cld_NoOperation : Option Addr} {osl_NoOperation ccs_NoOperation csl_NoOperation : Array (Option Value)} {vs_NoOperation : Array Value} {file_NoOperation : Str} {tf_NoOperation : Tok}
    {CX : Addr}
    {nm_BadNumber q_BadNumber : Str} {N_BadNumber : Addr} {bs_BadNumber bm_BadNumber : List Value} {sn_BadNumber : List Str} {sub_BadNumber : List Value} {ab_BadNumber : Bool} {col_BadNumber : Option Bool} {dd_BadNumber : Option Addr} {m0_BadNumber m1_BadNumber m2_BadNumber m3_BadNumber m5_BadNumber : Option Value} {fI_BadNumber cda_BadNumber cc_BadNumber : Addr} {oc_BadNumber kV_BadNumber dc_BadNumber pm_BadNumber ct_BadNumber ccl_BadNumber cl_BadNumber : Value} {od_BadNumber an_BadNumber cdd_BadNumber cld_BadNumber : Option Addr} {osl_BadNumber ccs_BadNumber csl_BadNumber : Array (Option Value)} {vs_BadNumber : Array Value} {file_BadNumber : Str} {tf_BadNumber : Tok}
    {f_scIsName : Addr} {od_scIsName an_scIsName : Option Addr} {sl_scIsName : Array (Option Value)} {oc_scIsName kV_scIsName dc_scIsName pm_scIsName cd_scIsName ct_scIsName : Value}
    {f_scIsRow : Addr} {od_scIsRow an_scIsRow : Option Addr} {sl_scIsRow : Array (Option Value)} {oc_scIsRow kV_scIsRow dc_scIsRow pm_scIsRow cd_scIsRow ct_scIsRow : Value}
    {f_scRow : Addr} {od_scRow an_scRow : Option Addr} {sl_scRow : Array (Option Value)} {oc_scRow kV_scRow dc_scRow pm_scRow cd_scRow ct_scRow : Value}
    {f_scNames : Addr} {od_scNames an_scNames : Option Addr} {sl_scNames : Array (Option Value)} {oc_scNames kV_scNames dc_scNames pm_scNames cd_scNames ct_scNames : Value}
    {f_scWhole : Addr} {od_scWhole an_scWhole : Option Addr} {sl_scWhole : Array (Option Value)} {oc_scWhole kV_scWhole dc_scWhole pm_scWhole cd_scWhole ct_scWhole : Value}
    {f_scCopied : Addr} {od_scCopied an_scCopied : Option Addr} {sl_scCopied : Array (Option Value)} {oc_scCopied kV_scCopied dc_scCopied pm_scCopied cd_scCopied ct_scCopied : Value}
    {f_scRefusal : Addr} {od_scRefusal an_scRefusal : Option Addr} {sl_scRefusal : Array (Option Value)} {oc_scRefusal kV_scRefusal dc_scRefusal pm_scRefusal cd_scRefusal ct_scRefusal : Value}
    {f_scRight : Addr} {od_scRight an_scRight : Option Addr} {sl_scRight : Array (Option Value)} {oc_scRight kV_scRight dc_scRight pm_scRight cd_scRight ct_scRight : Value}
    {f_scTold : Addr} {od_scTold an_scTold : Option Addr} {sl_scTold : Array (Option Value)} {oc_scTold kV_scTold dc_scTold pm_scTold cd_scTold ct_scTold : Value}
    {CT : Addr}
    {f_scTab : Addr} {od_scTab an_scTab : Option Addr} {sl_scTab : Array (Option Value)} {oc_scTab kV_scTab dc_scTab pm_scTab cd_scTab ct_scTab : Value}
    {td_scTab : Addr} {tc_scTab : Value} {tdd_scTab : Option Addr} {tn_scTab : Nat} {ts_scTab : Array (Option Value)} {tk0_scTab : Tok}
    {f_scTCall : Addr} {od_scTCall an_scTCall : Option Addr} {sl_scTCall : Array (Option Value)} {oc_scTCall kV_scTCall dc_scTCall pm_scTCall cd_scTCall ct_scTCall : Value}
    {f_scLaw : Addr} {od_scLaw an_scLaw : Option Addr} {sl_scLaw : Array (Option Value)} {oc_scLaw kV_scLaw dc_scLaw pm_scLaw cd_scLaw ct_scLaw : Value}
    (z_len : PySem.W.nsIn K mainGlobals "len" = some none)
    (z_int : PySem.W.nsIn K mainGlobals "int" = some none)
    (z_range : PySem.W.nsIn K mainGlobals "range" = some none)
    (z_isinstance : PySem.W.nsIn K mainGlobals "isinstance" = some none)
    (z_list : PySem.W.nsIn K mainGlobals "list" = some none)
    (z_tuple : PySem.W.nsIn K mainGlobals "tuple" = some none)
    (z_enumerate : PySem.W.nsIn K mainGlobals "enumerate" = some none)
    (z_sum : PySem.W.nsIn K mainGlobals "sum" = some none)
    (z_any : PySem.W.nsIn K mainGlobals "any" = some none)
    (z_str : PySem.W.nsIn K mainGlobals "str" = some none)
    (z_bool : PySem.W.nsIn K mainGlobals "bool" = some none)
    (z_dict : PySem.W.nsIn K mainGlobals "dict" = some none)
    (z_super : PySem.W.nsIn K mainGlobals "super" = some none)
    (z_sorted : PySem.W.nsIn K mainGlobals "sorted" = some none)
    (z_reversed : PySem.W.nsIn K mainGlobals "reversed" = some none)
    (z_iter : PySem.W.nsIn K mainGlobals "iter" = some none)
    (z_abs : PySem.W.nsIn K mainGlobals "abs" = some none)
    (z_max : PySem.W.nsIn K mainGlobals "max" = some none)
    (z_min : PySem.W.nsIn K mainGlobals "min" = some none)
    (z_ValueError : PySem.W.nsIn K mainGlobals "ValueError" = some none)
    (z_Exception : PySem.W.nsIn K mainGlobals "Exception" = some none)
    (opq : PySem.W.nsIn K cStatics "thirdparty.any" = some none)
    (top : (l.prog.main.scope.names.lookup ("super" : Str)).isSome = false)
    (g_LETTERS : PySem.W.nsIn K mainGlobals "LETTERS" = some (some (.str "abcdefghijklmnopqrstuvwxyz" tok_LETTERS)))
    (g_MOST_STATES : PySem.W.nsIn K mainGlobals "MOST_STATES" = some (some (.int 100 tok_MOST_STATES)))
    (g_MOST_OPERATIONS : PySem.W.nsIn K mainGlobals "MOST_OPERATIONS" = some (some (.int 6 tok_MOST_OPERATIONS)))
    (eC_BadTable : PySem.W.nsIn K mainGlobals "BadTable" = some (some (.ref CB)))
    (eL_BadTable : K.lookup CB = some (excClassObj nm_BadTable q_BadTable CB N_BadTable bs_BadTable bm_BadTable true sn_BadTable sub_BadTable ab_BadTable col_BadTable dd_BadTable m0_BadTable m1_BadTable m2_BadTable m3_BadTable m5_BadTable "ValueError.__new__"))
    (eR_BadTable : PySem.HandSPX.refsVE bm_BadTable = true)
    (eS_BadTable : PySem.W.findIn K (.ref CB) "__setattr__" = some (some (.builtin "object.__setattr__")))
    (eG_BadTable : PySem.W.findIn K (.ref CB) "__getattribute__" = some (some (.builtin "BaseException.__getattribute__")))
    (eGG_BadTable : PySem.W.findIn K (.ref CB) "__getattr__" = some none)
    (eI_BadTable : PySem.W.findIn K (.ref CB) "__init__" = some (some (.ref fI_BadTable)))
    (eT_BadTable : PySem.W.typeIn K (.ref fI_BadTable) = some (.type "function"))
    (eK_BadTable : PySem.W.keepIn K (.ref CB) = true)
    (eB_BadTable : PySem.W.subIn K (.ref CB) (.type "BaseException") = some true)
    (eV_BadTable : PySem.W.subIn K (.ref CB) (.type "ValueError") = some true)
    (eM_BadTable : PySem.W.mroIn K CB (.ref CB) = some true)
    (eTy_BadTable : PySem.W.typeIn K (.ref CB) = some (.type "type"))
    (eH_BadTable : PySem.W.hasDictIn K CB = true)
    (eSu_BadTable : PySem.W.ks_superIn K CB CB "__init__" = some (some (.builtin "ValueError.__init__")))
    (eF_BadTable : K.lookup fI_BadTable = some ⟨oc_BadTable, od_BadTable, .func (PySem.W.ksFn "__init__" "BadTable.__init__" (L2.defArgs st_BadTable) (L2.defBody st_BadTable) (L2.defScope st_BadTable) .none kV_BadTable dc_BadTable pm_BadTable an_BadTable (.ref cda_BadTable) ct_BadTable cc_BadTable), osl_BadTable⟩)
    (eCo_BadTable : PySem.W.codeIn K (.ref cda_BadTable) "BadTable.__init__" = true)
    (eCd_BadTable : K.lookup cda_BadTable = some ⟨ccl_BadTable, cdd_BadTable, .fields vs_BadTable, ccs_BadTable⟩)
    (eFi_BadTable : vs_BadTable[2]? = some (.str file_BadTable tf_BadTable))
    (eFe_BadTable : ((l.prog.main.file : Str) == file_BadTable) = true)
    (eCc_BadTable : K.lookup cc_BadTable = some ⟨cl_BadTable, cld_BadTable, .cell (some (.ref CB)), csl_BadTable⟩)
    (eN_BadTable : PySem.W.findIn K (.ref CB) "name" = some none)
    (eC_NoOperation : PySem.W.nsIn K mainGlobals "NoOperation" = some (some (.ref CN)))
    (eL_NoOperation : K.lookup CN = some (excClassObj nm_NoOperation q_NoOperation CN N_NoOperation bs_NoOperation bm_NoOperation true sn_NoOperation sub_NoOperation ab_NoOperation col_NoOperation dd_NoOperation m0_NoOperation m1_NoOperation m2_NoOperation m3_NoOperation m5_NoOperation "ValueError.__new__"))
    (eR_NoOperation : PySem.HandSPX.refsVE bm_NoOperation = true)
    (eS_NoOperation : PySem.W.findIn K (.ref CN) "__setattr__" = some (some (.builtin "object.__setattr__")))
    (eG_NoOperation : PySem.W.findIn K (.ref CN) "__getattribute__" = some (some (.builtin "BaseException.__getattribute__")))
    (eGG_NoOperation : PySem.W.findIn K (.ref CN) "__getattr__" = some none)
    (eI_NoOperation : PySem.W.findIn K (.ref CN) "__init__" = some (some (.ref fI_NoOperation)))
    (eT_NoOperation : PySem.W.typeIn K (.ref fI_NoOperation) = some (.type "function"))
    (eK_NoOperation : PySem.W.keepIn K (.ref CN) = true)
    (eB_NoOperation : PySem.W.subIn K (.ref CN) (.type "BaseException") = some true)
    (eV_NoOperation : PySem.W.subIn K (.ref CN) (.type "ValueError") = some true)
    (eM_NoOperation : PySem.W.mroIn K CN (.ref CN) = some true)
    (eTy_NoOperation : PySem.W.typeIn K (.ref CN) = some (.type "type"))
    (eH_NoOperation : PySem.W.hasDictIn K CN = true)
    (eSu_NoOperation : PySem.W.ks_superIn K CN CN "__init__" = some (some (.builtin "ValueError.__init__")))
    (eF_NoOperation : K.lookup fI_NoOperation = some ⟨oc_NoOperation, od_NoOperation, .func (PySem.W.ksFn "__init__" "NoOperation.__init__" (L2.defArgs st_NoOperation) (L2.defBody st_NoOperation) (L2.defScope st_NoOperation) .none kV_NoOperation dc_NoOperation pm_NoOperation an_NoOperation (.ref cda_NoOperation) ct_NoOperation cc_NoOperation), osl_NoOperation⟩)
    (eCo_NoOperation : PySem.W.codeIn K (.ref cda_NoOperation) "NoOperation.__init__" = true)
    (eCd_NoOperation : K.lookup cda_NoOperation = some ⟨ccl_NoOperation, cdd_NoOperation, .fields vs_NoOperation, ccs_NoOperation⟩)
    (eFi_NoOperation : vs_NoOperation[2]? = some (.str file_NoOperation tf_NoOperation))
    (eFe_NoOperation : ((l.prog.main.file : Str) == file_NoOperation) = true)
    (eCc_NoOperation : K.lookup cc_NoOperation = some ⟨cl_NoOperation, cld_NoOperation, .cell (some (.ref CN)), csl_NoOperation⟩)
    (eN_NoOperation : PySem.W.findIn K (.ref CN) "name" = some none)
    (eC_BadNumber : PySem.W.nsIn K mainGlobals "BadNumber" = some (some (.ref CX)))
    (eL_BadNumber : K.lookup CX = some (excClassObj nm_BadNumber q_BadNumber CX N_BadNumber bs_BadNumber bm_BadNumber true sn_BadNumber sub_BadNumber ab_BadNumber col_BadNumber dd_BadNumber m0_BadNumber m1_BadNumber m2_BadNumber m3_BadNumber m5_BadNumber "ValueError.__new__"))
    (eR_BadNumber : PySem.HandSPX.refsVE bm_BadNumber = true)
    (eS_BadNumber : PySem.W.findIn K (.ref CX) "__setattr__" = some (some (.builtin "object.__setattr__")))
    (eG_BadNumber : PySem.W.findIn K (.ref CX) "__getattribute__" = some (some (.builtin "BaseException.__getattribute__")))
    (eGG_BadNumber : PySem.W.findIn K (.ref CX) "__getattr__" = some none)
    (eI_BadNumber : PySem.W.findIn K (.ref CX) "__init__" = some (some (.ref fI_BadNumber)))
    (eT_BadNumber : PySem.W.typeIn K (.ref fI_BadNumber) = some (.type "function"))
    (eK_BadNumber : PySem.W.keepIn K (.ref CX) = true)
    (eB_BadNumber : PySem.W.subIn K (.ref CX) (.type "BaseException") = some true)
    (eV_BadNumber : PySem.W.subIn K (.ref CX) (.type "ValueError") = some true)
    (eM_BadNumber : PySem.W.mroIn K CX (.ref CX) = some true)
    (eTy_BadNumber : PySem.W.typeIn K (.ref CX) = some (.type "type"))
    (eH_BadNumber : PySem.W.hasDictIn K CX = true)
    (eSu_BadNumber : PySem.W.ks_superIn K CX CX "__init__" = some (some (.builtin "ValueError.__init__")))
    (eF_BadNumber : K.lookup fI_BadNumber = some ⟨oc_BadNumber, od_BadNumber, .func (PySem.W.ksFn "__init__" "BadNumber.__init__" (L2.defArgs st_BadNumber) (L2.defBody st_BadNumber) (L2.defScope st_BadNumber) .none kV_BadNumber dc_BadNumber pm_BadNumber an_BadNumber (.ref cda_BadNumber) ct_BadNumber cc_BadNumber), osl_BadNumber⟩)
    (eCo_BadNumber : PySem.W.codeIn K (.ref cda_BadNumber) "BadNumber.__init__" = true)
    (eCd_BadNumber : K.lookup cda_BadNumber = some ⟨ccl_BadNumber, cdd_BadNumber, .fields vs_BadNumber, ccs_BadNumber⟩)
    (eFi_BadNumber : vs_BadNumber[2]? = some (.str file_BadNumber tf_BadNumber))
    (eFe_BadNumber : ((l.prog.main.file : Str) == file_BadNumber) = true)
    (eCc_BadNumber : K.lookup cc_BadNumber = some ⟨cl_BadNumber, cld_BadNumber, .cell (some (.ref CX)), csl_BadNumber⟩)
    (eN_BadNumber : PySem.W.findIn K (.ref CX) "number" = some none)
    (xa_NoOperation : PySem.W.findIn K (.ref CN) "__class__" = some (some (.builtin "object.__class__")))
    (xn_NoOperation : PySem.W.specialIn K (.builtin "object.__class__") "__get__" = some (some (.builtin "getset_descriptor.__get__")))
    (xt_NoOperation : PySem.W.takesIn K (.builtin "object.__class__") = some true)
    (xm_NoOperation : PySem.W.mroIn K CN (.type "object") = some true)
    (xs_NoOperation : PySem.W.subIn K (.ref CN) (.ref CN) = some true)
    (xa_BadNumber : PySem.W.findIn K (.ref CX) "__class__" = some (some (.builtin "object.__class__")))
    (xn_BadNumber : PySem.W.specialIn K (.builtin "object.__class__") "__get__" = some (some (.builtin "getset_descriptor.__get__")))
    (xt_BadNumber : PySem.W.takesIn K (.builtin "object.__class__") = some true)
    (xm_BadNumber : PySem.W.mroIn K CX (.type "object") = some true)
    (xs_BadNumber : PySem.W.subIn K (.ref CX) (.ref CX) = some true)
    (xno : PySem.W.subIn K (.ref CX) (.ref CN) = some false)
    (a_scIsName : PySem.W.nsIn K mainGlobals "is_name" = some (some (.ref f_scIsName)))
    (l_scIsName : K.lookup f_scIsName = some ⟨oc_scIsName, od_scIsName, .func (PySem.W.fnOf "is_name" "is_name" (defArgs st_scIsName) (defBody st_scIsName) (defScope st_scIsName) .none kV_scIsName dc_scIsName pm_scIsName an_scIsName cd_scIsName ct_scIsName), sl_scIsName⟩)
    (c_scIsName : PySem.W.codeIn K cd_scIsName "is_name" = true)
    (k_scIsName : PySem.W.keepIn K (.ref f_scIsName) = true)
    (a_scIsRow : PySem.W.nsIn K mainGlobals "is_row" = some (some (.ref f_scIsRow)))
    (l_scIsRow : K.lookup f_scIsRow = some ⟨oc_scIsRow, od_scIsRow, .func (PySem.W.fnOf "is_row" "is_row" (defArgs st_scIsRow) (defBody st_scIsRow) (defScope st_scIsRow) .none kV_scIsRow dc_scIsRow pm_scIsRow an_scIsRow cd_scIsRow ct_scIsRow), sl_scIsRow⟩)
    (c_scIsRow : PySem.W.codeIn K cd_scIsRow "is_row" = true)
    (k_scIsRow : PySem.W.keepIn K (.ref f_scIsRow) = true)
    (a_scRow : PySem.W.nsIn K mainGlobals "_law_row" = some (some (.ref f_scRow)))
    (l_scRow : K.lookup f_scRow = some ⟨oc_scRow, od_scRow, .func (PySem.W.fnOf "_law_row" "_law_row" (defArgs st_scRow) (defBody st_scRow) (defScope st_scRow) .none kV_scRow dc_scRow pm_scRow an_scRow cd_scRow ct_scRow), sl_scRow⟩)
    (c_scRow : PySem.W.codeIn K cd_scRow "_law_row" = true)
    (k_scRow : PySem.W.keepIn K (.ref f_scRow) = true)
    (a_scNames : PySem.W.nsIn K mainGlobals "_law_names" = some (some (.ref f_scNames)))
    (l_scNames : K.lookup f_scNames = some ⟨oc_scNames, od_scNames, .func (PySem.W.fnOf "_law_names" "_law_names" (defArgs st_scNames) (defBody st_scNames) (defScope st_scNames) .none kV_scNames dc_scNames pm_scNames an_scNames cd_scNames ct_scNames), sl_scNames⟩)
    (c_scNames : PySem.W.codeIn K cd_scNames "_law_names" = true)
    (k_scNames : PySem.W.keepIn K (.ref f_scNames) = true)
    (a_scWhole : PySem.W.nsIn K mainGlobals "_law_whole" = some (some (.ref f_scWhole)))
    (l_scWhole : K.lookup f_scWhole = some ⟨oc_scWhole, od_scWhole, .func (PySem.W.fnOf "_law_whole" "_law_whole" (defArgs st_scWhole) (defBody st_scWhole) (defScope st_scWhole) .none kV_scWhole dc_scWhole pm_scWhole an_scWhole cd_scWhole ct_scWhole), sl_scWhole⟩)
    (c_scWhole : PySem.W.codeIn K cd_scWhole "_law_whole" = true)
    (k_scWhole : PySem.W.keepIn K (.ref f_scWhole) = true)
    (a_scCopied : PySem.W.nsIn K mainGlobals "_law_copied" = some (some (.ref f_scCopied)))
    (l_scCopied : K.lookup f_scCopied = some ⟨oc_scCopied, od_scCopied, .func (PySem.W.fnOf "_law_copied" "_law_copied" (defArgs st_scCopied) (defBody st_scCopied) (defScope st_scCopied) .none kV_scCopied dc_scCopied pm_scCopied an_scCopied cd_scCopied ct_scCopied), sl_scCopied⟩)
    (c_scCopied : PySem.W.codeIn K cd_scCopied "_law_copied" = true)
    (k_scCopied : PySem.W.keepIn K (.ref f_scCopied) = true)
    (a_scRefusal : PySem.W.nsIn K mainGlobals "_law_refusal" = some (some (.ref f_scRefusal)))
    (l_scRefusal : K.lookup f_scRefusal = some ⟨oc_scRefusal, od_scRefusal, .func (PySem.W.fnOf "_law_refusal" "_law_refusal" (defArgs st_scRefusal) (defBody st_scRefusal) (defScope st_scRefusal) .none kV_scRefusal dc_scRefusal pm_scRefusal an_scRefusal cd_scRefusal ct_scRefusal), sl_scRefusal⟩)
    (c_scRefusal : PySem.W.codeIn K cd_scRefusal "_law_refusal" = true)
    (k_scRefusal : PySem.W.keepIn K (.ref f_scRefusal) = true)
    (a_scRight : PySem.W.nsIn K mainGlobals "_law_right" = some (some (.ref f_scRight)))
    (l_scRight : K.lookup f_scRight = some ⟨oc_scRight, od_scRight, .func (PySem.W.fnOf "_law_right" "_law_right" (defArgs st_scRight) (defBody st_scRight) (defScope st_scRight) .none kV_scRight dc_scRight pm_scRight an_scRight cd_scRight ct_scRight), sl_scRight⟩)
    (c_scRight : PySem.W.codeIn K cd_scRight "_law_right" = true)
    (k_scRight : PySem.W.keepIn K (.ref f_scRight) = true)
    (a_scTold : PySem.W.nsIn K mainGlobals "_law_told" = some (some (.ref f_scTold)))
    (l_scTold : K.lookup f_scTold = some ⟨oc_scTold, od_scTold, .func (PySem.W.fnOf "_law_told" "_law_told" (defArgs st_scTold) (defBody st_scTold) (defScope st_scTold) .none kV_scTold dc_scTold pm_scTold an_scTold cd_scTold ct_scTold), sl_scTold⟩)
    (c_scTold : PySem.W.codeIn K cd_scTold "_law_told" = true)
    (k_scTold : PySem.W.keepIn K (.ref f_scTold) = true)
    (a_CT : PySem.W.nsIn K mainGlobals "Table" = some (some (.ref CT)))
    (pg_CT : PySem.W.plainGet K CT Str.empty = true)
    (hd_CT : PySem.W.hasDictIn K CT = true)
    (po_CT : PySem.W.plainOver K CT = true)
    (sa_CT : PySem.W.findIn K (.ref CT) "__setattr__" = some (some (.builtin "object.__setattr__")))
    (mk_CT : PySem.W.makesIn K CT = true)
    (kc_CT : PySem.W.keepIn K (.ref CT) = true)
    (nlines_CT : PySem.W.findIn K (.ref CT) "lines" = some none)
    (nsize_CT : PySem.W.findIn K (.ref CT) "size" = some none)
    (nstart_CT : PySem.W.findIn K (.ref CT) "start" = some none)
    (a_scTab : PySem.W.findIn K (.ref CT) "__init__" = some (some (.ref f_scTab)))
    (i_scTab : PySem.W.isFn K (.ref f_scTab) = true)
    (l_scTab : K.lookup f_scTab = some ⟨oc_scTab, od_scTab, .func (PySem.W.fnOf "__init__" "Table.__init__" (defArgs st_scTab) (defBody st_scTab) (defScope st_scTab) (.ref td_scTab) kV_scTab dc_scTab pm_scTab an_scTab cd_scTab ct_scTab), sl_scTab⟩)
    (c_scTab : PySem.W.codeIn K cd_scTab "Table.__init__" = true)
    (k_scTab : PySem.W.keepIn K (.ref f_scTab) = true)
    (t_scTab : K.lookup td_scTab = some ⟨tc_scTab, tdd_scTab, .seq ([.int 0 tk0_scTab] : List Value).toArray tn_scTab, ts_scTab⟩)
    (a_scTCall : PySem.W.findIn K (.ref CT) "__call__" = some (some (.ref f_scTCall)))
    (i_scTCall : PySem.W.isFn K (.ref f_scTCall) = true)
    (l_scTCall : K.lookup f_scTCall = some ⟨oc_scTCall, od_scTCall, .func (PySem.W.fnOf "__call__" "Table.__call__" (defArgs st_scTCall) (defBody st_scTCall) (defScope st_scTCall) .none kV_scTCall dc_scTCall pm_scTCall an_scTCall cd_scTCall ct_scTCall), sl_scTCall⟩)
    (c_scTCall : PySem.W.codeIn K cd_scTCall "Table.__call__" = true)
    (k_scTCall : PySem.W.keepIn K (.ref f_scTCall) = true)
    (fi_scTCall : PySem.W.fnIn K f_scTCall = true)
    (a_scLaw : PySem.W.nsIn K mainGlobals "law" = some (some (.ref f_scLaw)))
    (l_scLaw : K.lookup f_scLaw = some ⟨oc_scLaw, od_scLaw, .func (PySem.W.fnOf "law" "law" (defArgs st_scLaw) (defBody st_scLaw) (defScope st_scLaw) .none kV_scLaw dc_scLaw pm_scLaw an_scLaw cd_scLaw ct_scLaw), sl_scLaw⟩)
    (c_scLaw : PySem.W.codeIn K cd_scLaw "law" = true)
    (k_scLaw : PySem.W.keepIn K (.ref f_scLaw) = true) :
    ∃ fd : FuncData, (∀ (s : Shared) (v : Value), BindsTo s fd ⟨[v], []⟩ [("_law_script", v)]) ∧ ∀ base : Heap, K.In base → base.Ns mainGlobals mg → FnOk l.prog w K mg base (L2.CX l.prog w) 9 fa fd ["_law_script"] (spR K (S_law)) := by
  have e := hfa.symm.trans (PySem.W.mg_of X G a_scLaw)
  cases e
  have hB : NoB mg := by
    intro x hx
    unfold bnames at hx
    simp only [List.mem_cons, List.not_mem_nil, or_false] at hx
    rcases hx with rfl | rfl | rfl | rfl | rfl | rfl | rfl | rfl | rfl | rfl | rfl | rfl | rfl | rfl | rfl | rfl | rfl | rfl | rfl | rfl | rfl
    · exact PySem.W.mg_none_of X G z_len
    · exact PySem.W.mg_none_of X G z_int
    · exact PySem.W.mg_none_of X G z_range
    · exact PySem.W.mg_none_of X G z_isinstance
    · exact PySem.W.mg_none_of X G z_list
    · exact PySem.W.mg_none_of X G z_tuple
    · exact PySem.W.mg_none_of X G z_enumerate
    · exact PySem.W.mg_none_of X G z_sum
    · exact PySem.W.mg_none_of X G z_any
    · exact PySem.W.mg_none_of X G z_str
    · exact PySem.W.mg_none_of X G z_bool
    · exact PySem.W.mg_none_of X G z_dict
    · exact PySem.W.mg_none_of X G z_super
    · exact PySem.W.mg_none_of X G z_sorted
    · exact PySem.W.mg_none_of X G z_reversed
    · exact PySem.W.mg_none_of X G z_iter
    · exact PySem.W.mg_none_of X G z_abs
    · exact PySem.W.mg_none_of X G z_max
    · exact PySem.W.mg_none_of X G z_min
    · exact PySem.W.mg_none_of X G z_ValueError
    · exact PySem.W.mg_none_of X G z_Exception
  have T_LETTERS := PySem.W.mg_of X G g_LETTERS
  have T_MOST_STATES := PySem.W.mg_of X G g_MOST_STATES
  have T_MOST_OPERATIONS := PySem.W.mg_of X G g_MOST_OPERATIONS
  have T_BadTable : ErrX.Er1 l.prog K mg "BadTable" "name" CB := by
    obtain ⟨pre, cst, j1, j2, j3, q1, q2, q3, q4, S, hp⟩ := syn_BadTable
    exact ⟨fI_BadTable, "BadTable.__init__", st_BadTable, pre, cst, j1, j2, j3, q1, q2, q3, q4, ⟨PySem.W.mg_of X G eC_BadTable, ⟨_, _, _, _, _, _, _, _, _, _, _, _, _, _, _, eL_BadTable, eR_BadTable⟩, eS_BadTable, eG_BadTable, eGG_BadTable, eI_BadTable, eT_BadTable, eK_BadTable, eB_BadTable, eV_BadTable, eM_BadTable, eTy_BadTable, eH_BadTable, eSu_BadTable, opq, hB _ (by decide +kernel), top, ⟨_, _, _, _, _, _, _, _, _, _, _, _, _, _, _, _, _, _, _, eF_BadTable, eCo_BadTable, eCd_BadTable, eFi_BadTable, eFe_BadTable, eCc_BadTable⟩⟩, S, by decide +kernel, by decide +kernel, eN_BadTable, hp⟩
  have T_NoOperation : ErrX.Er1 l.prog K mg "NoOperation" "name" CN := by
    obtain ⟨pre, cst, j1, j2, j3, q1, q2, q3, q4, S, hp⟩ := syn_NoOperation
    exact ⟨fI_NoOperation, "NoOperation.__init__", st_NoOperation, pre, cst, j1, j2, j3, q1, q2, q3, q4, ⟨PySem.W.mg_of X G eC_NoOperation, ⟨_, _, _, _, _, _, _, _, _, _, _, _, _, _, _, eL_NoOperation, eR_NoOperation⟩, eS_NoOperation, eG_NoOperation, eGG_NoOperation, eI_NoOperation, eT_NoOperation, eK_NoOperation, eB_NoOperation, eV_NoOperation, eM_NoOperation, eTy_NoOperation, eH_NoOperation, eSu_NoOperation, opq, hB _ (by decide +kernel), top, ⟨_, _, _, _, _, _, _, _, _, _, _, _, _, _, _, _, _, _, _, eF_NoOperation, eCo_NoOperation, eCd_NoOperation, eFi_NoOperation, eFe_NoOperation, eCc_NoOperation⟩⟩, S, by decide +kernel, by decide +kernel, eN_NoOperation, hp⟩
  have T_BadNumber : ErrX.Er1 l.prog K mg "BadNumber" "number" CX := by
    obtain ⟨pre, cst, j1, j2, j3, q1, q2, q3, q4, S, hp⟩ := syn_BadNumber
    exact ⟨fI_BadNumber, "BadNumber.__init__", st_BadNumber, pre, cst, j1, j2, j3, q1, q2, q3, q4, ⟨PySem.W.mg_of X G eC_BadNumber, ⟨_, _, _, _, _, _, _, _, _, _, _, _, _, _, _, eL_BadNumber, eR_BadNumber⟩, eS_BadNumber, eG_BadNumber, eGG_BadNumber, eI_BadNumber, eT_BadNumber, eK_BadNumber, eB_BadNumber, eV_BadNumber, eM_BadNumber, eTy_BadNumber, eH_BadNumber, eSu_BadNumber, opq, hB _ (by decide +kernel), top, ⟨_, _, _, _, _, _, _, _, _, _, _, _, _, _, _, _, _, _, _, eF_BadNumber, eCo_BadNumber, eCd_BadNumber, eFi_BadNumber, eFe_BadNumber, eCc_BadNumber⟩⟩, S, by decide +kernel, by decide +kernel, eN_BadNumber, hp⟩
  have xi_NoOperation : XIs K CN := ⟨eG_NoOperation, eGG_NoOperation, eB_NoOperation, eH_NoOperation, xa_NoOperation, xn_NoOperation, xt_NoOperation, xm_NoOperation⟩
  have exm_NoOperation : PySem.W.exmOne K (.ref CN) (.ref CN) = some true := PySem.W.exm_ref eB_NoOperation eH_NoOperation eTy_NoOperation xs_NoOperation
  have xi_BadNumber : XIs K CX := ⟨eG_BadNumber, eGG_BadNumber, eB_BadNumber, eH_BadNumber, xa_BadNumber, xn_BadNumber, xt_BadNumber, xm_BadNumber⟩
  have exm_BadNumber : PySem.W.exmOne K (.ref CX) (.ref CX) = some true := PySem.W.exm_ref eB_BadNumber eH_BadNumber eTy_BadNumber xs_BadNumber
  have exm_X_N : PySem.W.exmOne K (.ref CX) (.ref CN) = some false := PySem.W.exm_ref eB_NoOperation eH_NoOperation eTy_NoOperation xno
  have F_scIsName := fun_mk (st := st_scIsName) l_scIsName c_scIsName k_scIsName
  have b_scIsName := F_scIsName.binds (ps := ["text"]) fun _ _ _ _ _ _ us hl => match us, hl with | [_], _ => rfl
  have F_scIsRow := fun_mk (st := st_scIsRow) l_scIsRow c_scIsRow k_scIsRow
  have b_scIsRow := F_scIsRow.binds (ps := ["row", "size"]) fun _ _ _ _ _ _ us hl => match us, hl with | [_, _], _ => rfl
  have F_scRow := fun_mk (st := st_scRow) l_scRow c_scRow k_scRow
  have b_scRow := F_scRow.binds (ps := ["_law_script", "_law_k", "_law_many"]) fun _ _ _ _ _ _ us hl => match us, hl with | [_, _, _], _ => rfl
  have F_scNames := fun_mk (st := st_scNames) l_scNames c_scNames k_scNames
  have b_scNames := F_scNames.binds (ps := ["_law_number", "_law_many"]) fun _ _ _ _ _ _ us hl => match us, hl with | [_, _], _ => rfl
  have F_scWhole := fun_mk (st := st_scWhole) l_scWhole c_scWhole k_scWhole
  have b_scWhole := F_scWhole.binds (ps := ["_law_told_here"]) fun _ _ _ _ _ _ us hl => match us, hl with | [_], _ => rfl
  have F_scCopied := fun_mk (st := st_scCopied) l_scCopied c_scCopied k_scCopied
  have b_scCopied := F_scCopied.binds (ps := ["_law_rows"]) fun _ _ _ _ _ _ us hl => match us, hl with | [_], _ => rfl
  have F_scRefusal := fun_mk (st := st_scRefusal) l_scRefusal c_scRefusal k_scRefusal
  have b_scRefusal := F_scRefusal.binds (ps := ["_law_table", "_law_name", "_law_state"]) fun _ _ _ _ _ _ us hl => match us, hl with | [_, _, _], _ => rfl
  have F_scRight := fun_mk (st := st_scRight) l_scRight c_scRight k_scRight
  have b_scRight := F_scRight.binds (ps := ["_law_table", "_law_rows", "_law_spots"]) fun _ _ _ _ _ _ us hl => match us, hl with | [_, _, _], _ => rfl
  have F_scTold := fun_mk (st := st_scTold) l_scTold c_scTold k_scTold
  have b_scTold := F_scTold.binds (ps := ["_law_script", "_law_names_here", "_law_size"]) fun _ _ _ _ _ _ us hl => match us, hl with | [_, _, _], _ => rfl
  have cl_CT : Cls K CT := ⟨pg_CT, hd_CT, po_CT, sa_CT⟩
  have F_scTab : FunD K "__init__" "Table.__init__" (defArgs st_scTab) (defBody st_scTab) (defScope st_scTab) [.int 0] [] f_scTab _ := ⟨⟨_, _, _, _, _, _, _, _, _, _, rfl, l_scTab, c_scTab, .inr ⟨by simp, _, _, _, _, rfl, t_scTab, rfl, (.cons ⟨_, rfl⟩ .nil)⟩, .inl rfl⟩, k_scTab⟩
  obtain ⟨d2_scTab, v2_scTab, b2_scTab⟩ := F_scTab.binds1 (ps := ["self", "rows", "start"]) 2 0 (by simp) rfl fun _ _ _ _ _ _ _ us its h1 h2 => match us, its, h1, h2 with | [_, _], [_], _, _ => ⟨_, rfl, rfl⟩
  obtain ⟨d3_scTab, v3_scTab, b3_scTab⟩ := F_scTab.binds1 (ps := ["self", "rows", "start"]) 3 1 (by simp) rfl fun _ _ _ _ _ _ _ us its h1 h2 => match us, its, h1, h2 with | [_, _, _], [_], _, _ => ⟨_, rfl, rfl⟩
  have F_scTCall := fun_mk (st := st_scTCall) l_scTCall c_scTCall k_scTCall
  have b_scTCall := F_scTCall.binds (ps := ["self", "name", "state"]) fun _ _ _ _ _ _ us hl => match us, hl with | [_, _, _], _ => rfl
  have F_scLaw := fun_mk (st := st_scLaw) l_scLaw c_scLaw k_scLaw
  have b_scLaw := F_scLaw.binds (ps := ["_law_script"]) fun _ _ _ _ _ _ us hl => match us, hl with | [_], _ => rfl
  have C_is_name : ∀ base, Cal l.prog w K mg base "is_name" ["text"] _ _ := fun base => ⟨f_scIsName, _, ok_scIsName (funA F_scIsName) hB ⟨_, T_LETTERS⟩, PySem.W.mg_of X G a_scIsName, k_scIsName, b_scIsName⟩
  have C_is_row : ∀ base, Cal l.prog w K mg base "is_row" ["row", "size"] _ _ := fun base => ⟨f_scIsRow, _, ok_scIsRow (funA F_scIsRow) hB ⟨_, T_MOST_STATES⟩, PySem.W.mg_of X G a_scIsRow, k_scIsRow, b_scIsRow⟩
  have C__law_row : ∀ base, Cal l.prog w K mg base "_law_row" ["_law_script", "_law_k", "_law_many"] _ _ := fun base => ⟨f_scRow, _, ok_scRow (funA F_scRow) hB , PySem.W.mg_of X G a_scRow, k_scRow, b_scRow⟩
  have C__law_names : ∀ base, Cal l.prog w K mg base "_law_names" ["_law_number", "_law_many"] _ _ := fun base => ⟨f_scNames, _, ok_scNames (funA F_scNames) hB , PySem.W.mg_of X G a_scNames, k_scNames, b_scNames⟩
  have C__law_whole : ∀ base, Cal l.prog w K mg base "_law_whole" ["_law_told_here"] _ _ := fun base => ⟨f_scWhole, _, ok_scWhole (funA F_scWhole) hB , PySem.W.mg_of X G a_scWhole, k_scWhole, b_scWhole⟩
  have C__law_copied : ∀ base, Cal l.prog w K mg base "_law_copied" ["_law_rows"] _ _ := fun base => ⟨f_scCopied, _, ok_scCopied (funA F_scCopied) hB , PySem.W.mg_of X G a_scCopied, k_scCopied, b_scCopied⟩
  have I_Table : ∀ base, FnOk l.prog w K mg base (L2.CX l.prog w) 4 f_scTab _ ["self", "rows", "start"] (spI K CT (S_tab CB)) := fun base => ok_scTab (funAD F_scTab) hB ⟨_, T_MOST_OPERATIONS⟩ T_BadTable cl_CT nlines_CT nsize_CT nstart_CT (C_is_name base) (C_is_row base)
  have M_Table : ∀ base, Mak l.prog w K mg base "Table" CT ["self", "rows", "start"] [] 4 (spI K CT (S_tab CB)) := fun base => ⟨f_scTab, _, I_Table base, ⟨mk_CT, a_scTab, i_scTab, kc_CT⟩, PySem.W.mg_of X G a_CT, by cases v3_scTab; exact b3_scTab⟩
  have O_Table : ∀ base, CalO l.prog w K mg base CT ["self", "name", "state"] 4 (spR K (S_tcall CT CN CX)) := fun base => ⟨f_scTCall, _, ok_scTCall (funA F_scTCall) hB T_NoOperation T_BadNumber cl_CT nlines_CT nsize_CT, ⟨a_scTCall, i_scTCall, fi_scTCall⟩, b_scTCall⟩
  have C__law_refusal : ∀ base, Cal l.prog w K mg base "_law_refusal" ["_law_table", "_law_name", "_law_state"] _ _ := fun base => ⟨f_scRefusal, _, ok_scRefusal (funA F_scRefusal) hB T_NoOperation T_BadNumber (O_Table base) exm_NoOperation exm_BadNumber exm_X_N, PySem.W.mg_of X G a_scRefusal, k_scRefusal, b_scRefusal⟩
  have C__law_right : ∀ base, Cal l.prog w K mg base "_law_right" ["_law_table", "_law_rows", "_law_spots"] _ _ := fun base => ⟨f_scRight, _, ok_scRight (funA F_scRight) hB (C__law_whole base) (O_Table base), PySem.W.mg_of X G a_scRight, k_scRight, b_scRight⟩
  have C__law_told : ∀ base, Cal l.prog w K mg base "_law_told" ["_law_script", "_law_names_here", "_law_size"] _ _ := fun base => ⟨f_scTold, _, ok_scTold (funA F_scTold) hB (C__law_row base), PySem.W.mg_of X G a_scTold, k_scTold, b_scTold⟩
  exact ⟨_, fun s v => .of_eq rfl, fun base _ _ => ok_scLaw (CN := CN) (CX := CX) (funA F_scLaw) hB (C__law_row base) (C__law_names base) (C__law_copied base) (C__law_told base) (C__law_right base) (C__law_refusal base) (M_Table base)⟩
theorem walk {l : PySem.W.OpenLaw} {q : Program} {loose : List Str} {XP : (Str → Option Value) → Heap → Prop} {YP : World → Heap → Prop} {d : DefRec} {K : Params → PySem.W.Frag} (hn : l.most = some 63) (hdf : d.params.defaults = [])
    (hY : ∀ (w : World) (h : Heap), YP w h → (K w.params).In h)
    (F : ∀ (w : World) (mg : Str → Option Value) (fa : Addr) (h : Heap), (K w.params).In h → h.Ns mainGlobals mg → mg d.name = some (.ref fa) →
      ∃ fd : FuncData, (∀ (s : Shared) (u : Value), BindsTo s fd ⟨[u], []⟩ [("_law_script", u)]) ∧ ∀ base : Heap, (K w.params).In base → base.Ns mainGlobals mg → FnOk l.prog w (K w.params) mg base (L2.CX l.prog w) 9 fa fd ["_law_script"] (spR (K w.params) (S_law))) :
    PySem.W.WalkO q loose XP YP l.row.toRowW d [] (fun f vs => PySem.call f vs) :=
  L2.walk_of (n := 63) (k := 9) (x := "_law_script") (CX := fun w => L2.CX l.prog w) (sp := fun w => spR (K w.params) (S_law)) hn (by decide) hdf ⟨rfl, by decide, by decide⟩ hY F
    (fun w H a ns hl _ hS => ⟨H, [.dat (.lst (ns.map D.int))], _, Ex.refl H, RpBA.cons (by unfold RpB Rp; exact ⟨a, _, rfl, hS, RpA.ofInts ns⟩) RpBA.nil, ⟨ns, rfl, hl, rfl⟩, fun v H2 ⟨Hb, _, _, _, _, r⟩ => r⟩)
    fun _ _ _ _ _ ⟨_, _, _, _, _, _, _, _, _, _, _, _, z⟩ => z

end Z
open PySem PySem.W PyProof.Rows in
set_option maxRecDepth 100000 in
set_option maxHeartbeats 0 in
theorem PySem.Challenge.cw_orderatonce_k01_table_pairs_holds : PySem.Challenge.rw_orderatonce_k01_table_pairs.Holds := by
  w_on; o_law; k_head; (case hw => w_witness2)
  k_fill
  refine Z.walk (l := PySem.Challenge.rw_orderatonce_k01_table_pairs) rfl rfl (fun w h Y => PySem.W.kIn_of Y) ?F
  case F =>
    intro w mg fa h KX G hmg
    refine' Z.all_mk KX G hmg ?z_len ?z_int ?z_range ?z_isinstance ?z_list ?z_tuple ?z_enumerate ?z_sum ?z_any ?z_str ?z_bool ?z_dict ?z_super ?z_sorted ?z_reversed ?z_iter ?z_abs ?z_max ?z_min ?z_ValueError ?z_Exception ?opq ?top ?g_LETTERS ?g_MOST_STATES ?g_MOST_OPERATIONS ?eC_BadTable ?eL_BadTable ?eR_BadTable ?eS_BadTable ?eG_BadTable ?eGG_BadTable ?eI_BadTable ?eT_BadTable ?eK_BadTable ?eB_BadTable ?eV_BadTable ?eM_BadTable ?eTy_BadTable ?eH_BadTable ?eSu_BadTable ?eF_BadTable ?eCo_BadTable ?eCd_BadTable ?eFi_BadTable ?eFe_BadTable ?eCc_BadTable ?eN_BadTable ?eC_NoOperation ?eL_NoOperation ?eR_NoOperation ?eS_NoOperation ?eG_NoOperation ?eGG_NoOperation ?eI_NoOperation ?eT_NoOperation ?eK_NoOperation ?eB_NoOperation ?eV_NoOperation ?eM_NoOperation ?eTy_NoOperation ?eH_NoOperation ?eSu_NoOperation ?eF_NoOperation ?eCo_NoOperation ?eCd_NoOperation ?eFi_NoOperation ?eFe_NoOperation ?eCc_NoOperation ?eN_NoOperation ?eC_BadNumber ?eL_BadNumber ?eR_BadNumber ?eS_BadNumber ?eG_BadNumber ?eGG_BadNumber ?eI_BadNumber ?eT_BadNumber ?eK_BadNumber ?eB_BadNumber ?eV_BadNumber ?eM_BadNumber ?eTy_BadNumber ?eH_BadNumber ?eSu_BadNumber ?eF_BadNumber ?eCo_BadNumber ?eCd_BadNumber ?eFi_BadNumber ?eFe_BadNumber ?eCc_BadNumber ?eN_BadNumber ?xa_NoOperation ?xn_NoOperation ?xt_NoOperation ?xm_NoOperation ?xs_NoOperation ?xa_BadNumber ?xn_BadNumber ?xt_BadNumber ?xm_BadNumber ?xs_BadNumber ?xno ?a_scIsName ?l_scIsName ?c_scIsName ?k_scIsName ?a_scIsRow ?l_scIsRow ?c_scIsRow ?k_scIsRow ?a_scRow ?l_scRow ?c_scRow ?k_scRow ?a_scNames ?l_scNames ?c_scNames ?k_scNames ?a_scWhole ?l_scWhole ?c_scWhole ?k_scWhole ?a_scCopied ?l_scCopied ?c_scCopied ?k_scCopied ?a_scRefusal ?l_scRefusal ?c_scRefusal ?k_scRefusal ?a_scRight ?l_scRight ?c_scRight ?k_scRight ?a_scTold ?l_scTold ?c_scTold ?k_scTold ?a_CT ?pg_CT ?hd_CT ?po_CT ?sa_CT ?mk_CT ?kc_CT ?nlines_CT ?nsize_CT ?nstart_CT ?a_scTab ?i_scTab ?l_scTab ?c_scTab ?k_scTab ?t_scTab ?a_scTCall ?i_scTCall ?l_scTCall ?c_scTCall ?k_scTCall ?fi_scTCall ?a_scLaw ?l_scLaw ?c_scLaw ?k_scLaw
    (case z_len => k_is)
    (case z_int => k_is)
    (case z_range => k_is)
    (case z_isinstance => k_is)
    (case z_list => k_is)
    (case z_tuple => k_is)
    (case z_enumerate => k_is)
    (case z_sum => k_is)
    (case z_any => k_is)
    (case z_str => k_is)
    (case z_bool => k_is)
    (case z_dict => k_is)
    (case z_super => k_is)
    (case z_sorted => k_is)
    (case z_reversed => k_is)
    (case z_iter => k_is)
    (case z_abs => k_is)
    (case z_max => k_is)
    (case z_min => k_is)
    (case z_ValueError => k_is)
    (case z_Exception => k_is)
    (case opq => k_is)
    (case top => first | rfl | decide +kernel)
    (case g_LETTERS => k_is)
    (case g_MOST_STATES => k_is)
    (case g_MOST_OPERATIONS => k_is)
    (case eC_BadTable => k_is)
    (case eL_BadTable => k_is)
    (case eR_BadTable => first | rfl | decide +kernel)
    (case eS_BadTable => k_is)
    (case eG_BadTable => k_is)
    (case eGG_BadTable => k_is)
    (case eI_BadTable => k_is)
    (case eT_BadTable => k_is)
    (case eK_BadTable => k_is)
    (case eB_BadTable => k_is)
    (case eV_BadTable => k_is)
    (case eM_BadTable => k_is)
    (case eTy_BadTable => k_is)
    (case eH_BadTable => k_is)
    (case eSu_BadTable => first | with_unfolding_all rfl | skip)
    (case eF_BadTable => k_is)
    (case eCo_BadTable => k_is)
    (case eCd_BadTable => k_is)
    (case eFi_BadTable => first | rfl | k_is)
    (case eFe_BadTable => first | rfl | decide +kernel)
    (case eCc_BadTable => k_is)
    (case eN_BadTable => k_is)
    (case eC_NoOperation => k_is)
    (case eL_NoOperation => k_is)
    (case eR_NoOperation => first | rfl | decide +kernel)
    (case eS_NoOperation => k_is)
    (case eG_NoOperation => k_is)
    (case eGG_NoOperation => k_is)
    (case eI_NoOperation => k_is)
    (case eT_NoOperation => k_is)
    (case eK_NoOperation => k_is)
    (case eB_NoOperation => k_is)
    (case eV_NoOperation => k_is)
    (case eM_NoOperation => k_is)
    (case eTy_NoOperation => k_is)
    (case eH_NoOperation => k_is)
    (case eSu_NoOperation => first | with_unfolding_all rfl | skip)
    (case eF_NoOperation => k_is)
    (case eCo_NoOperation => k_is)
    (case eCd_NoOperation => k_is)
    (case eFi_NoOperation => first | rfl | k_is)
    (case eFe_NoOperation => first | rfl | decide +kernel)
    (case eCc_NoOperation => k_is)
    (case eN_NoOperation => k_is)
    (case eC_BadNumber => k_is)
    (case eL_BadNumber => k_is)
    (case eR_BadNumber => first | rfl | decide +kernel)
    (case eS_BadNumber => k_is)
    (case eG_BadNumber => k_is)
    (case eGG_BadNumber => k_is)
    (case eI_BadNumber => k_is)
    (case eT_BadNumber => k_is)
    (case eK_BadNumber => k_is)
    (case eB_BadNumber => k_is)
    (case eV_BadNumber => k_is)
    (case eM_BadNumber => k_is)
    (case eTy_BadNumber => k_is)
    (case eH_BadNumber => k_is)
    (case eSu_BadNumber => first | with_unfolding_all rfl | skip)
    (case eF_BadNumber => k_is)
    (case eCo_BadNumber => k_is)
    (case eCd_BadNumber => k_is)
    (case eFi_BadNumber => first | rfl | k_is)
    (case eFe_BadNumber => first | rfl | decide +kernel)
    (case eCc_BadNumber => k_is)
    (case eN_BadNumber => k_is)
    (case xa_NoOperation => k_is)
    (case xn_NoOperation => k_is)
    (case xt_NoOperation => k_is)
    (case xm_NoOperation => k_is)
    (case xs_NoOperation => k_is)
    (case xa_BadNumber => k_is)
    (case xn_BadNumber => k_is)
    (case xt_BadNumber => k_is)
    (case xm_BadNumber => k_is)
    (case xs_BadNumber => k_is)
    (case xno => k_is)
    (case a_scIsName => k_is)
    (case l_scIsName => k_is)
    (case c_scIsName => k_is)
    (case k_scIsName => k_is)
    (case a_scIsRow => k_is)
    (case l_scIsRow => k_is)
    (case c_scIsRow => k_is)
    (case k_scIsRow => k_is)
    (case a_scRow => k_is)
    (case l_scRow => k_is)
    (case c_scRow => k_is)
    (case k_scRow => k_is)
    (case a_scNames => k_is)
    (case l_scNames => k_is)
    (case c_scNames => k_is)
    (case k_scNames => k_is)
    (case a_scWhole => k_is)
    (case l_scWhole => k_is)
    (case c_scWhole => k_is)
    (case k_scWhole => k_is)
    (case a_scCopied => k_is)
    (case l_scCopied => k_is)
    (case c_scCopied => k_is)
    (case k_scCopied => k_is)
    (case a_scRefusal => k_is)
    (case l_scRefusal => k_is)
    (case c_scRefusal => k_is)
    (case k_scRefusal => k_is)
    (case a_scRight => k_is)
    (case l_scRight => k_is)
    (case c_scRight => k_is)
    (case k_scRight => k_is)
    (case a_scTold => k_is)
    (case l_scTold => k_is)
    (case c_scTold => k_is)
    (case k_scTold => k_is)
    (case a_CT => k_is)
    (case pg_CT => k_is)
    (case hd_CT => k_is)
    (case po_CT => k_is)
    (case sa_CT => k_is)
    (case mk_CT => k_is)
    (case kc_CT => k_is)
    (case nlines_CT => k_is)
    (case nsize_CT => k_is)
    (case nstart_CT => k_is)
    (case a_scTab => k_is)
    (case i_scTab => k_is)
    (case l_scTab => k_is)
    (case c_scTab => k_is)
    (case k_scTab => k_is)
    (case t_scTab => k_is)
    (case a_scTCall => k_is)
    (case i_scTCall => k_is)
    (case l_scTCall => k_is)
    (case c_scTCall => k_is)
    (case k_scTCall => k_is)
    (case fi_scTCall => k_is)
    (case a_scLaw => k_is)
    (case l_scLaw => k_is)
    (case c_scLaw => k_is)
    (case k_scLaw => k_is)
