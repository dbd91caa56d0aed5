import PyProof.Rows.All
import Wide.All
import OpenK.AllK
import Wide.FinOn
import HandS.ForMost
import HandS.Evl
import HandS.Wide
import HandS.Deep
import HandS.TupAny
import HandS.TupMul
import HandS.Zip
import HandS.Exc
import HandS.Style
import HandS.Defaults
import HandS.Star
import HandS.Gcd
import HandS.Flow
import HandS.HeadHook4
import HandS.AnyAll
import HandS.Text
import HandS.StrMore
import HandS.IsInst
import HandS.Call
import PyProof.Rows.CallKwBuiltin
import KE.GoesEnumKw
import HandS.Iter
import KE.GoesRaise
import HandS.ExcOwn
import HandS.ExcInit
import HandS.Comp
import HandS.More
import KE.KDictKeyed
import HandS.TupLen
import HandS.Dict
import HandS.TryOnly
import HandS.TupSets
import HandS.ExcIs
import HandS.ExcField
import HandS.OwnEq
import KE.KStateDown
import HandS.ForExc
import HandS.Head0
import HandS.Head1
import HandS.Head2
import HandS.Head3
import HandS.HeadEnd
import HandS.HeadHook1
import HandS.HeadHook2
import HandS.HeadHook3
import PySem.Challenge.RW_bendless_k82_whole_bars_judged
set_option Elab.async false
set_option linter.all false
set_option maxRecDepth 100000
/-! Dl1: data (D) over the hand layer's heap, what is frozen (B) and what may change (regions, own lists), the state of a body (At). -/
namespace Dl
open PySem L2 Evl

/-- a value with all that it holds -/
inductive D where
  | non | bl (b : Bool) | int (i : Int) | str (x : Str) | tup (ds : List D) | lst (ds : List D) | obj (C : Addr) (ks : List Str) (ds : List D)

mutual
/-- v is d in the frozen heap -/
def Is (B : Hp) : D → V → Prop
  | .non, v => v = .non
  | .bl b, v => v = .bl b
  | .int i, v => v = .int i
  | .str x, v => v = .str x
  | .tup ds, v => ∃ a vs, v = .ref a ∧ B a = some (.tup vs) ∧ IsL B ds vs
  | .lst ds, v => ∃ a vs, v = .ref a ∧ B a = some (.lst vs) ∧ IsL B ds vs
  | .obj C ks ds, v => ∃ a dx vs, v = .ref a ∧ B a = some (.ins C dx (ks.zip vs)) ∧ ks.length = vs.length ∧ IsL B ds vs
def IsL (B : Hp) : List D → List V → Prop
  | [], vs => vs = []
  | d :: ds, vs => ∃ v r, vs = v :: r ∧ Is B d v ∧ IsL B ds r
end

mutual
theorem Is.mono {B B' : Hp} (e : Ex B B') : ∀ (d : D) {v : V}, Is B d v → Is B' d v
  | .non, v, h => by unfold Is at h ⊢; exact h
  | .bl b, v, h => by unfold Is at h ⊢; exact h
  | .int i, v, h => by unfold Is at h ⊢; exact h
  | .str x, v, h => by unfold Is at h ⊢; exact h
  | .tup ds, v, h => by
    unfold Is at h ⊢
    obtain ⟨a, vs, h1, h2, h3⟩ := h
    exact ⟨a, vs, h1, e _ _ h2, IsL.mono e ds h3⟩
  | .lst ds, v, h => by
    unfold Is at h ⊢
    obtain ⟨a, vs, h1, h2, h3⟩ := h
    exact ⟨a, vs, h1, e _ _ h2, IsL.mono e ds h3⟩
  | .obj C ks ds, v, h => by
    unfold Is at h ⊢
    obtain ⟨a, dx, vs, h1, h2, h4, h3⟩ := h
    exact ⟨a, dx, vs, h1, e _ _ h2, h4, IsL.mono e ds h3⟩
theorem IsL.mono {B B' : Hp} (e : Ex B B') : ∀ (ds : List D) {vs : List V}, IsL B ds vs → IsL B' ds vs
  | [], vs, h => by unfold IsL at h ⊢; exact h
  | d :: ds, vs, h => by
    unfold IsL at h ⊢
    obtain ⟨v, r, h1, h2, h3⟩ := h
    exact ⟨v, r, h1, Is.mono e d h2, IsL.mono e ds h3⟩
end
section
variable {B : Hp} {v : V}
theorem is_non : Is B .non v ↔ v = .non := by unfold Is; exact Iff.rfl
theorem is_bl {b : Bool} : Is B (.bl b) v ↔ v = .bl b := by unfold Is; exact Iff.rfl
theorem is_int {i : Int} : Is B (.int i) v ↔ v = .int i := by unfold Is; exact Iff.rfl
theorem is_str {x : Str} : Is B (.str x) v ↔ v = .str x := by unfold Is; exact Iff.rfl
theorem is_tup {ds : List D} : Is B (.tup ds) v ↔ ∃ a vs, v = .ref a ∧ B a = some (.tup vs) ∧ IsL B ds vs := by
  conv => lhs; unfold Is
theorem is_lst {ds : List D} : Is B (.lst ds) v ↔ ∃ a vs, v = .ref a ∧ B a = some (.lst vs) ∧ IsL B ds vs := by
  conv => lhs; unfold Is
theorem is_obj {C : Addr} {ks : List Str} {ds : List D} : Is B (.obj C ks ds) v ↔ ∃ a dx vs, v = .ref a ∧ B a = some (.ins C dx (ks.zip vs)) ∧ ks.length = vs.length ∧ IsL B ds vs := by
  conv => lhs; unfold Is
theorem isl_nil {vs : List V} : IsL B [] vs ↔ vs = [] := by unfold IsL; exact Iff.rfl
theorem isl_cons {d : D} {ds : List D} {vs : List V} : IsL B (d :: ds) vs ↔ ∃ v r, vs = v :: r ∧ Is B d v ∧ IsL B ds r := by
  conv => lhs; unfold IsL
end
theorem isl_mk {B : Hp} {d : D} {ds : List D} {v : V} {vs : List V} (h : Is B d v) (r : IsL B ds vs) : IsL B (d :: ds) (v :: vs) := isl_cons.mpr ⟨v, vs, rfl, h, r⟩
theorem IsL.len {B : Hp} : ∀ {ds : List D} {vs : List V}, IsL B ds vs → ds.length = vs.length
  | [], vs, h => by rw [isl_nil.mp h] <;> rfl
  | d :: ds, vs, h => by
    obtain ⟨v, r, e, _, h3⟩ := isl_cons.mp h
    rw [e, List.length_cons, List.length_cons, IsL.len h3]
theorem IsL.at {B : Hp} : ∀ {ds : List D} {vs : List V} {i : Nat} {d : D}, IsL B ds vs → ds[i]? = some d → ∃ v, vs[i]? = some v ∧ Is B d v
  | [], vs, i, d, h, e => by simp at e
  | d0 :: ds, vs, 0, d, h, e => by
    obtain ⟨v, r, ev, h2, h3⟩ := isl_cons.mp h
    rw [ev]
    have e2 : d0 = d := by simpa using e
    rw [← e2]
    exact ⟨v, rfl, h2⟩
  | d0 :: ds, vs, i + 1, d, h, e => by
    obtain ⟨v, r, ev, h2, h3⟩ := isl_cons.mp h
    rw [ev]
    have e2 : ds[i]? = some d := by simpa using e
    obtain ⟨u, h4, h5⟩ := IsL.at h3 e2
    exact ⟨u, by simpa using h4, h5⟩
theorem IsL.append {B : Hp} : ∀ {ds es : List D} {vs ws : List V}, IsL B ds vs → IsL B es ws → IsL B (ds ++ es) (vs ++ ws)
  | [], es, vs, ws, h, h' => by rw [isl_nil.mp h]; exact h'
  | d :: ds, es, vs, ws, h, h' => by
    obtain ⟨v, r, e, h2, h3⟩ := isl_cons.mp h
    rw [e]
    exact isl_mk h2 (IsL.append h3 h')
theorem IsL.one {B : Hp} {d : D} {v : V} (h : Is B d v) : IsL B [d] [v] := isl_mk h (isl_nil.mpr rfl)
theorem IsL.take {B : Hp} : ∀ {ds : List D} {vs : List V} (n : Nat), IsL B ds vs → IsL B (ds.take n) (vs.take n)
  | _, _, 0, _ => by simp [isl_nil]
  | [], vs, n + 1, h => by rw [isl_nil.mp h]; simp [isl_nil]
  | d :: ds, vs, n + 1, h => by
    obtain ⟨v, r, e, h2, h3⟩ := isl_cons.mp h
    rw [e]
    exact isl_mk h2 (IsL.take n h3)
theorem IsL.drop {B : Hp} : ∀ {ds : List D} {vs : List V} (n : Nat), IsL B ds vs → IsL B (ds.drop n) (vs.drop n)
  | _, _, 0, h => h
  | [], vs, n + 1, h => by rw [isl_nil.mp h]; simp [isl_nil]
  | d :: ds, vs, n + 1, h => by
    obtain ⟨v, r, e, h2, h3⟩ := isl_cons.mp h
    rw [e]
    exact IsL.drop n h3
theorem IsL.set {B : Hp} {d : D} {v : V} (hd : Is B d v) : ∀ {ds : List D} {vs : List V} (n : Nat), IsL B ds vs → IsL B (ds.set n d) (vs.set n v)
  | [], vs, n, h => by rw [isl_nil.mp h]; simp [isl_nil]
  | e :: ds, vs, 0, h => by
    obtain ⟨u, r, eq, h2, h3⟩ := isl_cons.mp h
    rw [eq]
    exact isl_mk hd h3
  | e :: ds, vs, n + 1, h => by
    obtain ⟨u, r, eq, h2, h3⟩ := isl_cons.mp h
    rw [eq]
    exact isl_mk h2 (IsL.set hd n h3)
theorem IsL.eraseIdx {B : Hp} : ∀ {ds : List D} {vs : List V} (n : Nat), IsL B ds vs → IsL B (ds.eraseIdx n) (vs.eraseIdx n)
  | [], vs, n, h => by rw [isl_nil.mp h]; simp [isl_nil]
  | e :: ds, vs, 0, h => by
    obtain ⟨u, r, eq, h2, h3⟩ := isl_cons.mp h
    rw [eq]
    exact h3
  | e :: ds, vs, n + 1, h => by
    obtain ⟨u, r, eq, h2, h3⟩ := isl_cons.mp h
    rw [eq]
    exact isl_mk h2 (IsL.eraseIdx n h3)
theorem IsL.dropLast {B : Hp} {ds : List D} {vs : List V} (h : IsL B ds vs) : IsL B ds.dropLast vs.dropLast := by
  rw [List.dropLast_eq_take, List.dropLast_eq_take, h.len]
  exact h.take _
theorem IsL.ints {B : Hp} : ∀ {is : List Int} {vs : List V}, IsL B (is.map D.int) vs ↔ vs = is.map V.int
  | [], vs => isl_nil
  | i :: is, vs => by
    rw [List.map_cons, isl_cons]
    constructor
    · rintro ⟨v, r, e, h2, h3⟩
      rw [e, is_int.mp h2, IsL.ints.mp h3] <;> rfl
    · intro e
      exact ⟨_, _, e, is_int.mpr rfl, IsL.ints.mpr rfl⟩
theorem IsL.strs {B : Hp} : ∀ {is : List Str} {vs : List V}, IsL B (is.map D.str) vs ↔ vs = is.map V.str
  | [], vs => isl_nil
  | i :: is, vs => by
    rw [List.map_cons, isl_cons]
    constructor
    · rintro ⟨v, r, e, h2, h3⟩
      rw [e, is_str.mp h2, IsL.strs.mp h3] <;> rfl
    · intro e
      exact ⟨_, _, e, is_str.mpr rfl, IsL.strs.mpr rfl⟩
theorem IsL.bls {B : Hp} : ∀ {is : List Bool} {vs : List V}, IsL B (is.map D.bl) vs ↔ vs = is.map V.bl
  | [], vs => isl_nil
  | i :: is, vs => by
    rw [List.map_cons, isl_cons]
    constructor
    · rintro ⟨v, r, e, h2, h3⟩
      rw [e, is_bl.mp h2, IsL.bls.mp h3] <;> rfl
    · intro e
      exact ⟨_, _, e, is_bl.mpr rfl, IsL.bls.mpr rfl⟩

/-! ### no lists within -/
mutual
def flat : D → Bool
  | .non => true
  | .bl _ => true
  | .int _ => true
  | .str _ => true
  | .tup ds => flatL ds
  | .lst _ => false
  | .obj _ _ _ => false
def flatL : List D → Bool
  | [] => true
  | d :: ds => flat d && flatL ds
end
mutual
theorem Is.flat {B B' : Hp} (e : ∀ a vs, B a = some (.tup vs) → B' a = some (.tup vs)) : ∀ (d : D) {v : V}, flat d = true → Is B d v → Is B' d v
  | .non, v, _, h => is_non.mpr (is_non.mp h)
  | .bl b, v, _, h => is_bl.mpr (is_bl.mp h)
  | .int i, v, _, h => is_int.mpr (is_int.mp h)
  | .str x, v, _, h => is_str.mpr (is_str.mp h)
  | .tup ds, v, f, h => by
    unfold Dl.flat at f
    obtain ⟨a, vs, h1, h2, h3⟩ := is_tup.mp h
    exact is_tup.mpr ⟨a, vs, h1, e _ _ h2, IsL.flat e ds f h3⟩
  | .lst ds, v, f, h => by unfold Dl.flat at f; cases f
  | .obj C ks ds, v, f, h => by unfold Dl.flat at f; cases f
theorem IsL.flat {B B' : Hp} (e : ∀ a vs, B a = some (.tup vs) → B' a = some (.tup vs)) : ∀ (ds : List D) {vs : List V}, flatL ds = true → IsL B ds vs → IsL B' ds vs
  | [], vs, _, h => isl_nil.mpr (isl_nil.mp h)
  | d :: ds, vs, f, h => by
    unfold flatL at f
    rw [Bool.and_eq_true] at f
    obtain ⟨v, r, h1, h2, h3⟩ := isl_cons.mp h
    exact isl_cons.mpr ⟨v, r, h1, Is.flat e d f.1 h2, IsL.flat e ds f.2 h3⟩
end

/-! ### what may change: a region with its own word -/
structure Reg where
  A : Addr → Prop
  ok : Hp → Prop
  st : ∀ H H', (∀ a, A a → H' a = H a) → ok H → ok H'
def triv : Reg := ⟨fun _ => False, fun _ => True, fun _ _ _ h => h⟩

structure Fz (R : Reg) (B H : Hp) : Prop where
  sub : Ex B H
  ok : R.ok H
  out : ∀ a, R.A a → B a = none ∧ ∃ o, H a = some o
structure Go (R : Reg) (B H B2 H2 : Hp) : Prop where
  fz : Fz R B2 H2
  ext : Ex B B2
  mv : ∀ a o, ¬ R.A a → H a = some o → H2 a = some o
  new : ∀ a o, H a = some o → B2 a = B a
section
variable {R : Reg} {B H B2 H2 B3 H3 : Hp} {p : Addr} {o : HO}
theorem Fz.triv (e : Ex B H) : Fz triv B H := ⟨e, True.intro, fun _ h => h.elim⟩
theorem Go.refl (f : Fz R B H) : Go R B H B H := ⟨f, Ex.refl B, fun _ _ _ h => h, fun _ _ _ => rfl⟩
theorem Go.trans (f : Fz R B H) (g : Go R B H B2 H2) (k : Go R B2 H2 B3 H3) : Go R B H B3 H3 := by
  refine ⟨k.fz, g.ext.trans k.ext, fun a o na h => k.mv a o na (g.mv a o na h), fun a o h => ?_⟩
  by_cases ra : R.A a
  · rw [(k.fz.out a ra).1, (f.out a ra).1]
  · rw [k.new a o (g.mv a o ra h), g.new a o h]
theorem Ex.upd2 {B H : Hp} {p : Addr} {o : HO} (e : Ex B H) : Ex (upd B p o) (upd H p o) := fun a u h => by
  by_cases ha : a = p
  · rw [ha, upd_same] at h ⊢
    exact h
  · rw [upd_ne ha] at h ⊢
    exact e a u h
theorem Reg.out (f : Fz R B H) (hp : H p = none) : ¬ R.A p := fun ra => by
  obtain ⟨_, o, e⟩ := f.out p ra
  rw [hp] at e
  cases e
theorem Fz.bnone (f : Fz R B H) (hp : H p = none) : B p = none := fresh_back f.sub hp
/-- a new object, frozen -/
theorem Go.newF (f : Fz R B H) (hp : H p = none) : Go R B H (upd B p o) (upd H p o) := by
  have np : ∀ a, R.A a → a ≠ p := fun a ra e => Reg.out f hp (e ▸ ra)
  refine ⟨⟨Ex.upd2 f.sub, R.st H _ (fun a ra => upd_ne (np a ra)) f.ok, fun a ra => ?_⟩, Ex.new (f.bnone hp), fun a o _ h => ?_, fun a o h => upd_ne (ne_of_none h hp)⟩
  · rw [upd_ne (np a ra), upd_ne (np a ra)]
    exact f.out a ra
  · rw [upd_ne (ne_of_none h hp)]
    exact h
/-- a new object, to be changed -/
theorem Go.own (f : Fz R B H) (hp : H p = none) : Go R B H B (upd H p o) := by
  have np : ∀ a, R.A a → a ≠ p := fun a ra e => Reg.out f hp (e ▸ ra)
  refine ⟨⟨f.sub.trans (Ex.new hp), R.st H _ (fun a ra => upd_ne (np a ra)) f.ok, fun a ra => ?_⟩, Ex.refl B, fun a o _ h => ?_, fun a o h => rfl⟩
  · rw [upd_ne (np a ra)]
    exact f.out a ra
  · rw [upd_ne (ne_of_none h hp)]
    exact h
/-- frozen now: what was not there ahead -/
theorem Go.freeze (g : Go R B H B2 H2) (hp : H p = none) (nb : B2 p = none) (ho : H2 p = some o) (nr : ¬ R.A p) : Go R B H (upd B2 p o) H2 := by
  refine ⟨⟨fun a u h => ?_, g.fz.ok, fun a ra => ?_⟩, g.ext.trans (Ex.new nb), g.mv, fun a u h => ?_⟩
  · by_cases ha : a = p
    · rw [ha, upd_same] at h
      rw [ha, ho, h]
    · rw [upd_ne ha] at h
      exact g.fz.sub a u h
  · have np : a ≠ p := fun e => nr (e ▸ ra)
    rw [upd_ne np]
    exact g.fz.out a ra
  · rw [upd_ne (ne_of_none h hp)]
    exact g.new a u h
theorem Go.lift (f : Fz R B H) (g : Go Dl.triv B H B2 H2) : Go R B H B2 H2 := by
  have same : ∀ a, R.A a → H2 a = H a := fun a ra => by
    obtain ⟨_, o, e⟩ := f.out a ra
    rw [e, g.mv a o (fun z => z) e]
  refine ⟨⟨g.fz.sub, R.st H _ same f.ok, fun a ra => ?_⟩, g.ext, fun a o _ h => g.mv a o (fun z => z) h, g.new⟩
  obtain ⟨h1, o, e⟩ := f.out a ra
  exact ⟨(g.new a o e).trans h1, o, g.mv a o (fun z => z) e⟩
end

/-! ### the slots -/
inductive Sl where
  | no | dat (d : D) | own (ds : List D) | at_ (v : V)
  /-- another thing of one's own -/
  | box (φ : Hp → Addr → HO → Prop)
def SlotOk (R : Reg) (B H : Hp) : Sl → Option V → Prop
  | .no, _ => True
  | .dat d, o => ∃ v, o = some v ∧ Is B d v
  | .own ds, o => ∃ l vs, o = some (.ref l) ∧ B l = none ∧ ¬ R.A l ∧ H l = some (.lst vs) ∧ IsL B ds vs
  | .at_ v, o => o = some v
  | .box φ, o => ∃ l u, o = some (.ref l) ∧ B l = none ∧ ¬ R.A l ∧ H l = some u ∧ ∀ B', Ex B B' → φ B' l u
def isOwn : Sl → Bool
  | .own _ => true
  | .box _ => true
  | _ => false
/-- the state of a body: entered with B0 in H0; now B is frozen of H -/
structure At (R : Reg) (B0 H0 B : Hp) (Γ : List Sl) (σ : L2.St) (H : Hp) : Prop where
  f0 : Fz R B0 H0
  go : Go R B0 H0 B H
  len : σ.length = Γ.length
  sl : ∀ (i : Nat) (s : Sl), Γ[i]? = some s → ∃ o, σ[i]? = some o ∧ SlotOk R B H s o
  dj : ∀ (i j : Nat) (s s' : Sl) (l : Addr), Γ[i]? = some s → Γ[j]? = some s' → isOwn s = true → isOwn s' = true → σ[i]? = some (some (.ref l)) → σ[j]? = some (some (.ref l)) → i = j
  fr : ∀ (i : Nat) (s : Sl) (l : Addr), Γ[i]? = some s → isOwn s = true → σ[i]? = some (some (.ref l)) → H0 l = none
section
variable {R : Reg} {B0 H0 B H B2 H2 : Hp} {Γ : List Sl} {σ : L2.St} {i : Nat} {d : D} {v : V} {ds : List D}
theorem At.fz (a : At R B0 H0 B Γ σ H) : Fz R B H := a.go.fz
theorem SlotOk.go (g : Go R B H B2 H2) {s : Sl} {o : Option V} (h : SlotOk R B H s o) : SlotOk R B2 H2 s o := by
  cases s with
  | no => exact True.intro
  | dat d =>
    obtain ⟨v, e, h⟩ := h
    exact ⟨v, e, h.mono g.ext⟩
  | own ds =>
    obtain ⟨l, vs, e, h1, h2, h3, h4⟩ := h
    exact ⟨l, vs, e, (g.new l _ h3).trans h1, h2, g.mv l _ h2 h3, h4.mono g.ext⟩
  | at_ v => exact h
  | box φ =>
    obtain ⟨l, u, e, h1, h2, h3, h4⟩ := h
    exact ⟨l, u, e, (g.new l _ h3).trans h1, h2, g.mv l _ h2 h3, fun B' e => h4 B' (g.ext.trans e)⟩
theorem At.step (a : At R B0 H0 B Γ σ H) (g : Go R B H B2 H2) : At R B0 H0 B2 Γ σ H2 :=
  ⟨a.f0, Go.trans a.f0 a.go g, a.len, fun i s e => by
    obtain ⟨o, h1, h2⟩ := a.sl i s e
    exact ⟨o, h1, h2.go g⟩, a.dj, a.fr⟩
theorem At.dat (a : At R B0 H0 B Γ σ H) (e : Γ[i]? = some (.dat d)) : ∃ v, σ[i]? = some (some v) ∧ Is B d v := by
  obtain ⟨o, h1, v, e2, h2⟩ := a.sl i _ e
  exact ⟨v, by rw [h1, e2], h2⟩
theorem At.raw (a : At R B0 H0 B Γ σ H) (e : Γ[i]? = some (.at_ v)) : σ[i]? = some (some v) := by
  obtain ⟨o, h1, h2⟩ := a.sl i _ e
  have h3 : o = some v := h2
  rw [h1, h3]
theorem At.own (a : At R B0 H0 B Γ σ H) (e : Γ[i]? = some (.own ds)) : ∃ l vs, σ[i]? = some (some (.ref l)) ∧ B l = none ∧ ¬ R.A l ∧ H l = some (.lst vs) ∧ IsL B ds vs ∧ H0 l = none := by
  obtain ⟨o, h1, l, vs, e2, h2, h3, h4, h5⟩ := a.sl i _ e
  rw [e2] at h1
  exact ⟨l, vs, h1, h2, h3, h4, h5, a.fr i _ l e rfl h1⟩
/-- what stands in an own slot -/
theorem At.ownS (a : At R B0 H0 B Γ σ H) {s : Sl} (e : Γ[i]? = some s) (hs : isOwn s = true) : ∃ l u, σ[i]? = some (some (.ref l)) ∧ B l = none ∧ ¬ R.A l ∧ H l = some u ∧ H0 l = none := by
  obtain ⟨o, h1, h2⟩ := a.sl i _ e
  cases s with
  | no => cases hs
  | dat d => cases hs
  | at_ v => cases hs
  | own ds =>
    obtain ⟨l, vs, e2, h2, h3, h4, h5⟩ := h2
    rw [e2] at h1
    exact ⟨l, _, h1, h2, h3, h4, a.fr i _ l e rfl h1⟩
  | box φ =>
    obtain ⟨l, u, e2, h2, h3, h4, h5⟩ := h2
    rw [e2] at h1
    exact ⟨l, _, h1, h2, h3, h4, a.fr i _ l e rfl h1⟩
theorem At.box (a : At R B0 H0 B Γ σ H) {φ : Hp → Addr → HO → Prop} (e : Γ[i]? = some (.box φ)) : ∃ l u, σ[i]? = some (some (.ref l)) ∧ B l = none ∧ ¬ R.A l ∧ H l = some u ∧ (∀ B', Ex B B' → φ B' l u) ∧ H0 l = none := by
  obtain ⟨o, h1, l, vs, e2, h2, h3, h4, h5⟩ := a.sl i _ e
  rw [e2] at h1
  exact ⟨l, vs, h1, h2, h3, h4, h5, a.fr i _ l e rfl h1⟩
theorem get_set {α : Type} {l : List α} {i j : Nat} {x y : α} (h : (l.set i x)[j]? = some y) : (i = j ∧ y = x ∧ i < l.length) ∨ (i ≠ j ∧ l[j]? = some y) := by
  rw [List.getElem?_set] at h
  by_cases e : i = j
  · rw [if_pos e] at h
    by_cases q : i < l.length
    · rw [if_pos q] at h
      exact .inl ⟨e, (Option.some.inj h).symm, q⟩
    · rw [if_neg q] at h
      cases h
  · rw [if_neg e] at h
    exact .inr ⟨e, h⟩
/-- a slot is given something that is not its own to change -/
theorem At.put (a : At R B0 H0 B Γ σ H) {s : Sl} {o : Option V} (hs : isOwn s = false) (ok : SlotOk R B H s o) : At R B0 H0 B (Γ.set i s) (σ.set i o) H := by
  refine ⟨a.f0, a.go, by rw [List.length_set, List.length_set]; exact a.len, fun j t e => ?_, fun j k t t' l e e' p p' q q' => ?_, fun j t l e p q => ?_⟩
  · rcases get_set e with ⟨rfl, rfl, hl⟩ | ⟨ne, e⟩
    · exact ⟨o, by rw [List.getElem?_set_self (by rw [a.len]; exact hl)], ok⟩
    · obtain ⟨o', h1, h2⟩ := a.sl j t e
      exact ⟨o', by rw [List.getElem?_set_ne ne]; exact h1, h2⟩
  · rcases get_set e with ⟨rfl, rfl, hl⟩ | ⟨ne, e⟩
    · rw [hs] at p
      cases p
    · rcases get_set e' with ⟨rfl, rfl, hl⟩ | ⟨ne', e'⟩
      · rw [hs] at p'
        cases p'
      · rw [List.getElem?_set_ne ne] at q
        rw [List.getElem?_set_ne ne'] at q'
        exact a.dj j k t t' l e e' p p' q q'
  · rcases get_set e with ⟨rfl, rfl, hl⟩ | ⟨ne, e⟩
    · rw [hs] at p
      cases p
    · rw [List.getElem?_set_ne ne] at q
      exact a.fr j t l e p q
theorem At.putDat (a : At R B0 H0 B Γ σ H) (h : Is B d v) : At R B0 H0 B (Γ.set i (.dat d)) (σ.set i (some v)) H := a.put rfl ⟨v, rfl, h⟩
theorem At.putNo (a : At R B0 H0 B Γ σ H) {o : Option V} : At R B0 H0 B (Γ.set i .no) (σ.set i o) H := a.put rfl True.intro
/-- a slot is forgotten, the value as it stands -/
theorem At.forget (a : At R B0 H0 B Γ σ H) : At R B0 H0 B (Γ.set i .no) σ H := by
  refine ⟨a.f0, a.go, by rw [List.length_set]; exact a.len, fun j t e => ?_, fun j k t t' l e e' p p' q q' => ?_, fun j t l e p q => ?_⟩
  · rcases get_set e with ⟨rfl, rfl, hl⟩ | ⟨ne, e⟩
    · have hl' : i < σ.length := by rw [a.len]; exact hl
      exact ⟨σ[i], List.getElem?_eq_getElem hl', True.intro⟩
    · exact a.sl j t e
  · rcases get_set e with ⟨rfl, rfl, hl⟩ | ⟨ne, e⟩
    · cases p
    · rcases get_set e' with ⟨rfl, rfl, hl⟩ | ⟨ne', e'⟩
      · cases p'
      · exact a.dj j k t t' l e e' p p' q q'
  · rcases get_set e with ⟨rfl, rfl, hl⟩ | ⟨ne, e⟩
    · cases p
    · exact a.fr j t l e p q
/-- a slot is given a new list -/
theorem At.putOwn (a : At R B0 H0 B Γ σ H) {l : Addr} {vs : List V} (hl : H l = none) (hds : IsL B ds vs) : At R B0 H0 B (Γ.set i (.own ds)) (σ.set i (some (.ref l))) (upd H l (.lst vs)) := by
  have g : Go R B H B (upd H l (.lst vs)) := Go.own a.fz hl
  have b := a.step g
  have h0 : H0 l = none := by
    cases q : H0 l with
    | none => rfl
    | some o =>
      by_cases ra : R.A l
      · exact absurd ra (Reg.out a.fz hl)
      · have z := a.go.mv l o ra q
        rw [hl] at z
        cases z
  have noown : ∀ j s, Γ[j]? = some s → isOwn s = true → σ[j]? = some (some (V.ref l)) → False := fun j s e p q => by
    obtain ⟨l', ws, e1, e2, e3, e4, _⟩ := a.ownS e p
    rw [e1] at q
    have z : l' = l := by
      injection q with q
      injection q with q
      injection q
    rw [z, hl] at e4
    cases e4
  refine ⟨a.f0, b.go, by rw [List.length_set, List.length_set]; exact a.len, fun j t e => ?_, fun j k t t' m e e' p p' q q' => ?_, fun j t m e p q => ?_⟩
  · rcases get_set e with ⟨rfl, rfl, hi⟩ | ⟨ne, e⟩
    · exact ⟨_, by rw [List.getElem?_set_self (by rw [a.len]; exact hi)], l, vs, rfl, a.fz.bnone hl, Reg.out a.fz hl, upd_same, hds⟩
    · obtain ⟨o', h1, h2⟩ := b.sl j t e
      exact ⟨o', by rw [List.getElem?_set_ne ne]; exact h1, h2⟩
  · rcases get_set e with ⟨rfl, rfl, hi⟩ | ⟨ne, e⟩
    · rcases get_set e' with ⟨rfl, rfl, _⟩ | ⟨ne', e'⟩
      · rfl
      · rw [List.getElem?_set_self (by rw [a.len]; exact hi)] at q
        rw [List.getElem?_set_ne ne'] at q'
        have z : l = m := by
          injection q with q
          injection q with q
          injection q
        rw [← z] at q'
        exact (noown k t' e' p' q').elim
    · rcases get_set e' with ⟨rfl, rfl, hi⟩ | ⟨ne', e'⟩
      · rw [List.getElem?_set_self (by rw [a.len]; exact hi)] at q'
        rw [List.getElem?_set_ne ne] at q
        have z : l = m := by
          injection q' with q'
          injection q' with q'
          injection q'
        rw [← z] at q
        exact (noown j t e p q).elim
      · rw [List.getElem?_set_ne ne] at q
        rw [List.getElem?_set_ne ne'] at q'
        exact a.dj j k t t' m e e' p p' q q'
  · rcases get_set e with ⟨rfl, rfl, hi⟩ | ⟨ne, e⟩
    · rw [List.getElem?_set_self (by rw [a.len]; exact hi)] at q
      have z : l = m := by
        injection q with q
        injection q with q
        injection q
      rw [← z]
      exact h0
    · rw [List.getElem?_set_ne ne] at q
      exact a.fr j t m e p q
/-- an own thing is written -/
theorem At.wrS (a : At R B0 H0 B Γ σ H) {s s' : Sl} {l : Addr} {u : HO} (e : Γ[i]? = some s) (hs : isOwn s = true) (hs' : isOwn s' = true) (hl : σ[i]? = some (some (.ref l))) (ok : SlotOk R B (upd H l u) s' (some (.ref l))) : At R B0 H0 B (Γ.set i s') σ (upd H l u) := by
  obtain ⟨l', ws, e1, b1, nr, h1, h0⟩ := a.ownS e hs
  have z : l' = l := by
    rw [e1] at hl
    injection hl with q
    injection q with q
    injection q
  rw [z] at b1 nr h1 h0 e1
  have hi : i < Γ.length := (List.getElem?_eq_some_iff.mp e).1
  have nl : ∀ {b : Addr} {o : HO}, B b = some o → b ≠ l := fun {b o} q y => by
    rw [y, b1] at q
    cases q
  have f2 : Fz R B (upd H l u) := by
    refine ⟨fun b o q => ?_, R.st H _ (fun b ra => upd_ne (fun y : b = l => nr (y ▸ ra))) a.fz.ok, fun b ra => ?_⟩
    · rw [upd_ne (nl q)]
      exact a.fz.sub b o q
    · rw [upd_ne (fun y : b = l => nr (y ▸ ra))]
      exact a.fz.out b ra
  refine ⟨a.f0, ⟨f2, a.go.ext, fun b o nb q => ?_, a.go.new⟩, by rw [List.length_set]; exact a.len, fun j t ej => ?_, fun j k t t' m ej ek p p' q q' => ?_, fun j t m ej p q => ?_⟩
  · rw [upd_ne (ne_of_none q h0)]
    exact a.go.mv b o nb q
  · rcases get_set ej with ⟨rfl, rfl, hi⟩ | ⟨ne, ej⟩
    · exact ⟨_, e1, ok⟩
    · obtain ⟨o', q1, q2⟩ := a.sl j t ej
      refine ⟨o', q1, ?_⟩
      cases t with
      | no => exact True.intro
      | dat d => exact q2
      | at_ v => exact q2
      | own xs =>
        obtain ⟨m, us, r1, r2, r3, r4, r5⟩ := q2
        have nm : m ≠ l := fun y => by
          rw [r1, y] at q1
          exact ne (a.dj i j _ _ l e ej hs rfl e1 q1)
        exact ⟨m, us, r1, r2, r3, by rw [upd_ne nm]; exact r4, r5⟩
      | box φ =>
        obtain ⟨m, us, r1, r2, r3, r4, r5⟩ := q2
        have nm : m ≠ l := fun y => by
          rw [r1, y] at q1
          exact ne (a.dj i j _ _ l e ej hs rfl e1 q1)
        exact ⟨m, us, r1, r2, r3, by rw [upd_ne nm]; exact r4, r5⟩
  · rcases get_set ej with ⟨ij, _, _⟩ | ⟨ne, ej2⟩
    · rcases get_set ek with ⟨ik, _, _⟩ | ⟨ne', ek2⟩
      · exact ij.symm.trans ik
      · rw [← ij] at q ⊢
        exact a.dj i k _ t' m e ek2 hs p' q q'
    · rcases get_set ek with ⟨ik, _, _⟩ | ⟨ne', ek2⟩
      · rw [← ik] at q' ⊢
        exact a.dj j i t _ m ej2 e p hs q q'
      · exact a.dj j k t t' m ej2 ek2 p p' q q'
  · rcases get_set ej with ⟨ij, _, _⟩ | ⟨ne, ej2⟩
    · rw [← ij] at q
      exact a.fr i _ m e hs q
    · exact a.fr j t m ej2 p q
/-- an own list is written -/
theorem At.wr (a : At R B0 H0 B Γ σ H) {l : Addr} {es : List D} {vs : List V} (e : Γ[i]? = some (.own ds)) (hl : σ[i]? = some (some (.ref l))) (hes : IsL B es vs) : At R B0 H0 B (Γ.set i (.own es)) σ (upd H l (.lst vs)) := by
  obtain ⟨l', ws, e1, b1, nr, h1, _, h0⟩ := a.own e
  have z : l' = l := by
    rw [e1] at hl
    injection hl with q
    injection q with q
    injection q
  rw [z] at b1 nr
  exact a.wrS e rfl rfl hl ⟨l, vs, rfl, b1, nr, upd_same, hes⟩
/-- an own list is frozen for good -/
theorem At.freeze (a : At R B0 H0 B Γ σ H) (e : Γ[i]? = some (.own ds)) : ∃ B2, Ex B B2 ∧ At R B0 H0 B2 (Γ.set i (.dat (.lst ds))) σ H := by
  obtain ⟨l, vs, e1, b1, nr, h1, hds, h0⟩ := a.own e
  have eb : Ex B (upd B l (.lst vs)) := Ex.new b1
  refine ⟨upd B l (.lst vs), eb, a.f0, Go.freeze a.go h0 b1 h1 nr, by rw [List.length_set]; exact a.len, fun j t ej => ?_, fun j k t t' m ej ek p p' q q' => ?_, fun j t m ej p q => ?_⟩
  · rcases get_set ej with ⟨rfl, rfl, hi⟩ | ⟨ne, ej⟩
    · exact ⟨_, e1, _, rfl, is_lst.mpr ⟨l, vs, rfl, upd_same, hds.mono eb⟩⟩
    · obtain ⟨o', q1, q2⟩ := a.sl j t ej
      refine ⟨o', q1, ?_⟩
      cases t with
      | no => exact True.intro
      | dat d =>
        obtain ⟨v, r1, r2⟩ := q2
        exact ⟨v, r1, r2.mono eb⟩
      | at_ v => exact q2
      | own xs =>
        obtain ⟨m, us, r1, r2, r3, r4, r5⟩ := q2
        have nm : m ≠ l := fun y => by
          rw [r1, y] at q1
          exact ne (a.dj i j _ _ l e ej rfl rfl e1 q1)
        exact ⟨m, us, r1, by rw [upd_ne nm]; exact r2, r3, r4, r5.mono eb⟩
      | box φ =>
        obtain ⟨m, us, r1, r2, r3, r4, r5⟩ := q2
        have nm : m ≠ l := fun y => by
          rw [r1, y] at q1
          exact ne (a.dj i j _ _ l e ej rfl rfl e1 q1)
        exact ⟨m, us, r1, by rw [upd_ne nm]; exact r2, r3, r4, fun B' e' => r5 B' (eb.trans e')⟩
  · rcases get_set ej with ⟨rfl, rfl, _⟩ | ⟨ne, ej⟩
    · cases p
    · rcases get_set ek with ⟨rfl, rfl, _⟩ | ⟨ne', ek⟩
      · cases p'
      · exact a.dj j k t t' m ej ek p p' q q'
  · rcases get_set ej with ⟨rfl, rfl, _⟩ | ⟨ne, ej⟩
    · cases p
    · exact a.fr j t m ej p q
end
end Dl
set_option Elab.async false
set_option linter.all false
set_option maxRecDepth 100000
/-! Dl2: what expressions are worth as data. EP: pure; EL: a new list; EA: arguments; EB: tests; OpS: operators by values; CbS: built-ins by values. -/
namespace Dl
open PySem L2 Evl

def EP (R : Reg) (te : TE) (Γ : List Sl) (S : D → Prop) : Prop := ∀ (B0 H0 B H : Hp) (σ : L2.St), At R B0 H0 B Γ σ H → ∀ Q : VK, (∀ v d B2 H2, Go R B H B2 H2 → S d → Is B2 d v → Q v H2) → te σ H Q
abbrev ED (R : Reg) (te : TE) (Γ : List Sl) (d : D) : Prop := EP R te Γ fun x => x = d
def EL (R : Reg) (te : TE) (Γ : List Sl) (S : List D → Prop) : Prop := ∀ (B0 H0 B H : Hp) (σ : L2.St), At R B0 H0 B Γ σ H → ∀ Q : VK, (∀ p vs ds B2 H2, Go R B H B2 H2 → H p = none → B2 p = none → H2 p = some (.lst vs) → S ds → IsL B2 ds vs → Q (.ref p) H2) → te σ H Q
abbrev EDL (R : Reg) (te : TE) (Γ : List Sl) (ds : List D) : Prop := EL R te Γ fun x => x = ds
def EA (R : Reg) (ta : TA) (Γ : List Sl) (S : List D → Prop) : Prop := ∀ (B0 H0 B H : Hp) (σ : L2.St), At R B0 H0 B Γ σ H → ∀ Q : List V → Hp → Prop, (∀ vs ds B2 H2, Go R B H B2 H2 → S ds → IsL B2 ds vs → Q vs H2) → ta σ H Q
abbrev EDA (R : Reg) (ta : TA) (Γ : List Sl) (ds : List D) : Prop := EA R ta Γ fun x => x = ds
def EB (R : Reg) (tt : TT) (Γ : List Sl) (S : Bool → Prop) : Prop := ∀ (B0 H0 B H : Hp) (σ : L2.St), At R B0 H0 B Γ σ H → ∀ Q : Bool → Hp → Prop, (∀ b B2 H2, Go R B H B2 H2 → S b → Q b H2) → tt σ H Q
abbrev EDB (R : Reg) (tt : TT) (Γ : List Sl) (b : Bool) : Prop := EB R tt Γ fun x => x = b
def EO (R : Reg) (to : TO) (Γ : List Sl) (S : Option Int → Prop) : Prop := ∀ (B0 H0 B H : Hp) (σ : L2.St), At R B0 H0 B Γ σ H → ∀ Q : Option Int → Hp → Prop, (∀ o B2 H2, Go R B H B2 H2 → S o → Q o H2) → to σ H Q
abbrev EDO (R : Reg) (to : TO) (Γ : List Sl) (o : Option Int) : Prop := EO R to Γ fun x => x = o
def OpS (R : Reg) (r : R2) (x y : D) (S : D → Prop) : Prop := ∀ (B H : Hp) (vx vy : V), Fz R B H → Is B x vx → Is B y vy → ∀ Q : VK, (∀ v d B2 H2, Go R B H B2 H2 → S d → Is B2 d v → Q v H2) → r vx vy H Q
abbrev OpD (R : Reg) (r : R2) (x y z : D) : Prop := OpS R r x y fun d => d = z
def OpL (R : Reg) (r : R2) (x y : D) (zs : List D) : Prop := ∀ (B H : Hp) (vx vy : V), Fz R B H → Is B x vx → Is B y vy → ∀ Q : VK, (∀ p vs B2 H2, Go R B H B2 H2 → H p = none → B2 p = none → H2 p = some (.lst vs) → IsL B2 zs vs → Q (.ref p) H2) → r vx vy H Q
def CbS (R : Reg) (r : List V → Hp → VK → Prop) (ds : List D) (S : D → Prop) : Prop := ∀ (B H : Hp) (vs : List V), Fz R B H → IsL B ds vs → ∀ Q : VK, (∀ v d B2 H2, Go R B H B2 H2 → S d → Is B2 d v → Q v H2) → r vs H Q
abbrev CbD (R : Reg) (r : List V → Hp → VK → Prop) (ds : List D) (d : D) : Prop := CbS R r ds fun x => x = d
def CbL (R : Reg) (r : List V → Hp → VK → Prop) (ds : List D) (zs : List D) : Prop := ∀ (B H : Hp) (vs : List V), Fz R B H → IsL B ds vs → ∀ Q : VK, (∀ p ws B2 H2, Go R B H B2 H2 → H p = none → B2 p = none → H2 p = some (.lst ws) → IsL B2 zs ws → Q (.ref p) H2) → r vs H Q

section
variable {R : Reg} {K : PySem.W.Frag} {Γ : List Sl} {ta tb te tx : TE} {tt tu : TT} {x y z d : D} {ds es : List D} {S S1 S2 : D → Prop} {r r' : R2} {b c : Bool}
theorem Fz.nr {B H : Hp} {p : Addr} (f : Fz R B H) (hp : H p = none) : ¬ R.A p := Reg.out f hp
theorem EP.imp (h : EP R te Γ S) (k : ∀ d, S d → S1 d) : EP R te Γ S1 := fun B0 H0 B H σ a Q q => h B0 H0 B H σ a Q fun v d B2 H2 g s i => q v d B2 H2 g (k d s) i
theorem EP.is (h : ED R te Γ x) (e : x = y) : ED R te Γ y := e ▸ h
theorem EL.imp {S S1 : List D → Prop} (h : EL R te Γ S) (k : ∀ d, S d → S1 d) : EL R te Γ S1 := fun B0 H0 B H σ a Q q => h B0 H0 B H σ a Q fun p vs d B2 H2 g h1 h2 h3 s i => q p vs d B2 H2 g h1 h2 h3 (k d s) i
theorem EB.imp {S S1 : Bool → Prop} (h : EB R tt Γ S) (k : ∀ d, S d → S1 d) : EB R tt Γ S1 := fun B0 H0 B H σ a Q q => h B0 H0 B H σ a Q fun b B2 H2 g s => q b B2 H2 g (k b s)
theorem EB.is (h : EDB R tt Γ b) (e : b = c) : EDB R tt Γ c := e ▸ h
theorem EA.imp {ta : TA} {S S1 : List D → Prop} (h : EA R ta Γ S) (k : ∀ d, S d → S1 d) : EA R ta Γ S1 := fun B0 H0 B H σ a Q q => h B0 H0 B H σ a Q fun vs d B2 H2 g s i => q vs d B2 H2 g (k d s) i
/-- a list that is new, as data -/
theorem ep_of_el {S : List D → Prop} (h : EL R te Γ S) : EP R te Γ fun d => ∃ ds, d = .lst ds ∧ S ds := fun B0 H0 B H σ a Q q => h B0 H0 B H σ a Q fun p vs ds B2 H2 g hp nb ho s i =>
  q (.ref p) (.lst ds) _ H2 (Go.freeze g hp nb ho (a.fz.nr hp)) ⟨ds, rfl, s⟩ (is_lst.mpr ⟨p, vs, rfl, upd_same, i.mono (Ex.new nb)⟩)
theorem ed_of_el (h : EDL R te Γ ds) : ED R te Γ (.lst ds) := (ep_of_el h).imp fun d ⟨es, e, e2⟩ => by rw [e, e2]
/-! ### leaves -/
theorem ed_var {i : Nat} (e : Γ[i]? = some (.dat d)) : ED R (tVar i) Γ d := fun B0 H0 B H σ a Q q => by
  obtain ⟨v, h1, h2⟩ := a.dat e
  exact ⟨v, h1, q v d B H (Go.refl a.fz) rfl h2⟩
theorem ed_c {v : V} (h : ∀ B, Is B d v) : ED R (tC v) Γ d := fun B0 H0 B H σ a Q q => q v d B H (Go.refl a.fz) rfl (h B)
theorem ed_int {i : Int} : ED R (tC (.int i)) Γ (.int i) := ed_c fun _ => is_int.mpr rfl
theorem ed_str {i : Str} : ED R (tC (.str i)) Γ (.str i) := ed_c fun _ => is_str.mpr rfl
theorem ed_bl {i : Bool} : ED R (tC (.bl i)) Γ (.bl i) := ed_c fun _ => is_bl.mpr rfl
theorem ed_non : ED R (tC .non) Γ .non := ed_c fun _ => is_non.mpr rfl
/-! ### operators -/
theorem ep_op {S2 : D → D → Prop} (ha : EP R ta Γ S1) (hb : ∀ x, S1 x → EP R tb Γ (S2 x)) (ho : ∀ x y, S1 x → S2 x y → OpS R r x y S) : EP R (tOp r ta tb) Γ S := fun B0 H0 B H σ a Q q =>
  ha B0 H0 B H σ a _ fun vx x B1 H1 g1 s1 i1 => hb x s1 B0 H0 B1 H1 σ (a.step g1) _ fun vy y B2 H2 g2 s2 i2 =>
    ho x y s1 s2 B2 H2 vx vy g2.fz (i1.mono g2.ext) i2 Q fun v d B3 H3 g3 s3 i3 => q v d B3 H3 (Go.trans a.fz (Go.trans a.fz g1 g2) g3) s3 i3
theorem ed_op (ha : ED R ta Γ x) (hb : ED R tb Γ y) (ho : OpD R r x y z) : ED R (tOp r ta tb) Γ z := ep_op (S2 := fun _ d => d = y) ha (fun _ _ => hb) fun a b e e' => by
  rw [e, e']
  exact ho
theorem el_op (ha : ED R ta Γ x) (hb : ED R tb Γ y) (ho : OpL R r x y ds) : EDL R (tOp r ta tb) Γ ds := fun B0 H0 B H σ a Q q =>
  ha B0 H0 B H σ a _ fun vx x' B1 H1 g1 s1 i1 => hb B0 H0 B1 H1 σ (a.step g1) _ fun vy y' B2 H2 g2 s2 i2 =>
    ho B2 H2 vx vy g2.fz (s1 ▸ i1.mono g2.ext) (s2 ▸ i2) Q fun p vs B3 H3 g3 h1 h2 h3 i3 => q p vs ds B3 H3 (Go.trans a.fz (Go.trans a.fz g1 g2) g3) (by
      cases h : H p with
      | none => rfl
      | some o =>
        have g := Go.trans a.fz g1 g2
        by_cases ra : R.A p
        · exact absurd ra (g2.fz.nr h1)
        · rw [g.mv p o ra h] at h1
          cases h1) h2 h3 rfl i3
theorem OpS.inl (h : OpS R r x y S) : OpS R (fun x y H Q => r x y H Q ∨ r' x y H Q) x y S := fun B H vx vy f i j Q q => .inl (h B H vx vy f i j Q q)
theorem OpS.inr (h : OpS R r' x y S) : OpS R (fun x y H Q => r x y H Q ∨ r' x y H Q) x y S := fun B H vx vy f i j Q q => .inr (h B H vx vy f i j Q q)
theorem OpL.inl (h : OpL R r x y ds) : OpL R (fun x y H Q => r x y H Q ∨ r' x y H Q) x y ds := fun B H vx vy f i j Q q => .inl (h B H vx vy f i j Q q)
theorem OpL.inr (h : OpL R r' x y ds) : OpL R (fun x y H Q => r x y H Q ∨ r' x y H Q) x y ds := fun B H vx vy f i j Q q => .inr (h B H vx vy f i j Q q)
/-- by values alone -/
theorem opd_val {vz : V} (hz : ∀ B, Is B z vz) (h : ∀ (B H : Hp) (vx vy : V), Ex B H → Is B x vx → Is B y vy → ∀ Q : VK, Q vz H → r vx vy H Q) : OpD R r x y z := fun B H vx vy f i j Q q => h B H vx vy f.sub i j Q (q vz z B H (Go.refl f) rfl (hz B))
theorem od_I0 {g : Int → Int → V} {i j : Int} {gd : D} (h : ∀ B, Is B gd (g i j)) : OpD R (rI0 g) (.int i) (.int j) gd := opd_val h fun B H vx vy _ e1 e2 Q q => ⟨i, j, is_int.mp e1, is_int.mp e2, q⟩
theorem od_I0i {g : Int → Int → Int} {i j : Int} : OpD R (rI0 fun i j => .int (g i j)) (.int i) (.int j) (.int (g i j)) := od_I0 fun _ => is_int.mpr rfl
theorem od_I0b {g : Int → Int → Bool} {i j : Int} : OpD R (rI0 fun i j => .bl (g i j)) (.int i) (.int j) (.bl (g i j)) := od_I0 fun _ => is_bl.mpr rfl
theorem od_I {C : Int → Int → Prop} {g : Int → Int → Int} {i j : Int} (hc : C i j) : OpD R (rI C fun i j => .int (g i j)) (.int i) (.int j) (.int (g i j)) := opd_val (fun _ => is_int.mpr rfl) fun B H vx vy _ e1 e2 Q q => ⟨i, j, is_int.mp e1, is_int.mp e2, hc, q⟩
/-- a scalar: what == compares at once -/
def scalD : D → Option V
  | .non => some .non
  | .bl b => some (.bl b)
  | .int i => some (.int i)
  | .str s => some (.str s)
  | _ => none
theorem scalD_is {B : Hp} {v u : V} (h : scalD d = some u) (i : Is B d v) : v = u := by
  cases d with
  | non => exact (is_non.mp i).trans (Option.some.inj h)
  | bl b => exact (is_bl.mp i).trans (Option.some.inj h)
  | int b => exact (is_int.mp i).trans (Option.some.inj h)
  | str b => exact (is_str.mp i).trans (Option.some.inj h)
  | tup _ => cases h
  | lst _ => cases h
  | obj _ _ _ => cases h
theorem od_eq {u w : V} (hx : scalD x = some u) (hy : scalD y = some w) (hs : scal u w = true) : OpD R rEq x y (.bl (decide (u = w))) := opd_val (fun _ => is_bl.mpr rfl) fun B H vx vy _ e1 e2 Q q => by
  rw [scalD_is hx e1, scalD_is hy e2]
  exact ⟨hs, q⟩
theorem od_ne {u w : V} (hx : scalD x = some u) (hy : scalD y = some w) (hs : scal u w = true) : OpD R rNe x y (.bl (!decide (u = w))) := opd_val (fun _ => is_bl.mpr rfl) fun B H vx vy _ e1 e2 Q q => by
  rw [scalD_is hx e1, scalD_is hy e2]
  exact ⟨hs, q⟩
theorem dec_i {i j : Int} : decide (V.int i = V.int j) = decide (i = j) := by
  by_cases h : i = j
  · subst h; simp
  · rw [decide_eq_false h, decide_eq_false (fun e => h (by injection e))]
theorem dec_s {i j : Str} : decide (V.str i = V.str j) = decide (i = j) := by
  by_cases h : i = j
  · subst h; simp
  · rw [decide_eq_false h, decide_eq_false (fun e => h (by injection e))]
theorem dec_b {i j : Bool} : decide (V.bl i = V.bl j) = decide (i = j) := by
  by_cases h : i = j
  · subst h; simp
  · rw [decide_eq_false h, decide_eq_false (fun e => h (by injection e))]
theorem od_eqI {i j : Int} : OpD R rEq (.int i) (.int j) (.bl (decide (i = j))) := by rw [← dec_i]; exact od_eq rfl rfl rfl
theorem od_neI {i j : Int} : OpD R rNe (.int i) (.int j) (.bl (!decide (i = j))) := by rw [← dec_i]; exact od_ne rfl rfl rfl
theorem od_eqS {i j : Str} : OpD R rEq (.str i) (.str j) (.bl (decide (i = j))) := by rw [← dec_s]; exact od_eq rfl rfl rfl
theorem od_neS {i j : Str} : OpD R rNe (.str i) (.str j) (.bl (!decide (i = j))) := by rw [← dec_s]; exact od_ne rfl rfl rfl
theorem od_eqB {i j : Bool} : OpD R rEq (.bl i) (.bl j) (.bl (decide (i = j))) := by rw [← dec_b]; exact od_eq rfl rfl rfl
/-- is None -/
def isNonD : D → Bool
  | .non => true
  | _ => false
theorem isNon_is {B : Hp} {v : V} (i : Is B d v) : decide (v = .non) = isNonD d := by
  cases d with
  | non => rw [is_non.mp i]; rfl
  | bl b => rw [is_bl.mp i]; rfl
  | int b => rw [is_int.mp i]; rfl
  | str b => rw [is_str.mp i]; rfl
  | tup ds =>
    obtain ⟨a, vs, e, _⟩ := is_tup.mp i
    rw [e]; rfl
  | lst ds =>
    obtain ⟨a, vs, e, _⟩ := is_lst.mp i
    rw [e]; rfl
  | obj C ks ds =>
    obtain ⟨a, dx, vs, e, _⟩ := is_obj.mp i
    rw [e]; rfl
theorem od_isN : OpD R (fun x y H Q => y = .non ∧ Q (.bl (decide (x = .non))) H) x .non (.bl (isNonD x)) := fun B H vx vy f i j Q q => ⟨is_non.mp j, by
  rw [isNon_is i]
  exact q _ _ B H (Go.refl f) rfl (is_bl.mpr rfl)⟩
theorem od_notN : OpD R (fun x y H Q => y = .non ∧ Q (.bl (!decide (x = .non))) H) x .non (.bl (!isNonD x)) := fun B H vx vy f i j Q q => ⟨is_non.mp j, by
  rw [isNon_is i]
  exact q _ _ B H (Go.refl f) rfl (is_bl.mpr rfl)⟩
/-! ### one-place -/
theorem ed_neg {i : Int} (h : ED R ta Γ (.int i)) : ED R (tUn (rU fun i => .int (-i)) ta) Γ (.int (-i)) := fun B0 H0 B H σ a Q q => h B0 H0 B H σ a _ fun v x B2 H2 g s i2 => by
  subst s
  exact ⟨i, is_int.mp i2, q _ _ B2 H2 g rfl (is_int.mpr rfl)⟩
theorem ed_notV (h : ED R ta Γ (.bl b)) : ED R (tNotV ta) Γ (.bl (!b)) := fun B0 H0 B H σ a Q q => h B0 H0 B H σ a _ fun v x B2 H2 g s i2 => by
  subst s
  exact ⟨b, is_bl.mp i2, q _ _ B2 H2 g rfl (is_bl.mpr rfl)⟩
theorem ed_andV (h : ED R ta Γ (.bl b)) (k : b = true → ED R tb Γ (.bl c)) : ED R (tAndV ta tb) Γ (.bl (b && c)) := fun B0 H0 B H σ a Q q => h B0 H0 B H σ a _ fun v x B2 H2 g s i2 => by
  subst s
  refine ⟨b, is_bl.mp i2, ?_⟩
  cases b with
  | true => exact iteT (k rfl B0 H0 B2 H2 σ (a.step g) Q fun v d B3 H3 g3 s3 i3 => q v d B3 H3 (Go.trans a.fz g g3) s3 i3)
  | false => exact iteF (q _ _ B2 H2 g rfl (is_bl.mpr rfl))
theorem ed_orV (h : ED R ta Γ (.bl b)) (k : b = false → ED R tb Γ (.bl c)) : ED R (tOrV ta tb) Γ (.bl (b || c)) := fun B0 H0 B H σ a Q q => h B0 H0 B H σ a _ fun v x B2 H2 g s i2 => by
  subst s
  refine ⟨b, is_bl.mp i2, ?_⟩
  cases b with
  | false => exact iteF (k rfl B0 H0 B2 H2 σ (a.step g) Q fun v d B3 H3 g3 s3 i3 => q v d B3 H3 (Go.trans a.fz g g3) s3 i3)
  | true => exact iteT (q _ _ B2 H2 g rfl (is_bl.mpr rfl))
/-! ### tests -/
theorem eb_of {tt : TT} (h : ED R te Γ (.bl b)) (ht : ∀ σ H Q, te σ H (fun x H1 => ∃ c, x = .bl c ∧ Q c H1) → tt σ H Q) : EDB R tt Γ b := fun B0 H0 B H σ a Q q => ht _ _ _ (h B0 H0 B H σ a _ fun v x B2 H2 g s i2 => by
  subst s
  exact ⟨b, is_bl.mp i2, q b B2 H2 g rfl⟩)
theorem eb_test (h : ED R te Γ (.bl b)) : EDB R (tTest te) Γ b := eb_of h fun _ _ _ h => h
theorem eb_B (h : ED R te Γ (.bl b)) : EDB R (tB te) Γ b := eb_of h fun _ _ _ h => h
theorem ebp_test {S : Bool → Prop} (h : EP R te Γ fun d => ∃ b, d = .bl b ∧ S b) : EB R (tTest te) Γ S := fun B0 H0 B H σ a Q q => h B0 H0 B H σ a _ fun v x B2 H2 g ⟨b, e, s⟩ i2 => by
  subst e
  exact ⟨b, is_bl.mp i2, q b B2 H2 g s⟩
def tru : D → Bool
  | .non => false
  | .bl b => b
  | .int i => i != 0
  | .str s => (s.length : Int) != 0
  | .tup ds => !ds.isEmpty
  | .lst ds => !ds.isEmpty
  | .obj _ _ _ => true
def truOk : D → Prop
  | .str s => s.length ≤ 100000
  | .obj _ _ _ => False
  | _ => True
theorem isl_empty {B : Hp} {ds : List D} {vs : List V} (h : IsL B ds vs) : (!ds.isEmpty) = !vs.isEmpty := by
  have e := h.len
  cases ds <;> cases vs <;> simp_all
theorem tru_is {B H : Hp} {v : V} (e : Ex B H) (i : Is B d v) (ok : truOk d) : TruV K v H (tru d) := by
  cases d with
  | non => rw [is_non.mp i]; exact (rfl : false = false)
  | bl b => rw [is_bl.mp i]; exact (rfl : b = b)
  | int b => rw [is_int.mp i]; exact (rfl : (b != 0) = (b != 0))
  | str s => rw [is_str.mp i]; exact ⟨sz_of ok, rfl⟩
  | tup ds =>
    obtain ⟨a, vs, ev, h1, h2⟩ := is_tup.mp i
    rw [ev]
    exact .inr (.inl ⟨vs, SqT.of (e _ _ h1), isl_empty h2⟩)
  | lst ds =>
    obtain ⟨a, vs, ev, h1, h2⟩ := is_lst.mp i
    rw [ev]
    exact .inl ⟨vs, SqL.of (e _ _ h1), isl_empty h2⟩
  | obj _ _ _ => exact ok.elim
theorem eb_tru (h : ED R te Γ d) (ok : truOk d := by exact True.intro) : EDB R (fun σ H Q => te σ H fun x H' => ∃ k, TruV K x H' k ∧ Q k H') Γ (tru d) := fun B0 H0 B H σ a Q q => h B0 H0 B H σ a _ fun v x B2 H2 g s i2 => by
  subst s
  exact ⟨_, tru_is g.fz.sub i2 ok, q _ B2 H2 g rfl⟩
theorem eb_truP {S : Bool → Prop} {P : D → Prop} (h : EP R te Γ P) (k : ∀ d, P d → truOk d ∧ S (tru d)) : EB R (fun σ H Q => te σ H fun x H' => ∃ k, TruV K x H' k ∧ Q k H') Γ S := fun B0 H0 B H σ a Q q => h B0 H0 B H σ a _ fun v x B2 H2 g s i2 => 
  ⟨_, tru_is g.fz.sub i2 (k x s).1, q _ B2 H2 g (k x s).2⟩
theorem eb_not (h : EDB R tt Γ b) : EDB R (tNot tt) Γ (!b) := fun B0 H0 B H σ a Q q => h B0 H0 B H σ a _ fun c B2 H2 g s => q _ B2 H2 g (by rw [s])
theorem eb_and (h : EDB R tt Γ b) (k : b = true → EDB R tu Γ c) : EDB R (tAnd tt tu) Γ (b && c) := fun B0 H0 B H σ a Q q => h B0 H0 B H σ a _ fun b' B2 H2 g s => by
  subst s
  cases b' with
  | true => exact iteT (k rfl B0 H0 B2 H2 σ (a.step g) Q fun b3 B3 H3 g3 s3 => q b3 B3 H3 (Go.trans a.fz g g3) (by rw [s3] <;> rfl))
  | false => exact iteF (q false B2 H2 g rfl)
theorem eb_or (h : EDB R tt Γ b) (k : b = false → EDB R tu Γ c) : EDB R (tOr tt tu) Γ (b || c) := fun B0 H0 B H σ a Q q => h B0 H0 B H σ a _ fun b' B2 H2 g s => by
  subst s
  cases b' with
  | false => exact iteF (k rfl B0 H0 B2 H2 σ (a.step g) Q fun b3 B3 H3 g3 s3 => q b3 B3 H3 (Go.trans a.fz g g3) (by rw [s3] <;> rfl))
  | true => exact iteT (q true B2 H2 g rfl)
theorem eb_andP {S S2 : Bool → Prop} (h : EB R tt Γ S) (k : S true → EB R tu Γ S2) (k2 : S false → S2 false) : EB R (tAnd tt tu) Γ S2 := fun B0 H0 B H σ a Q q => h B0 H0 B H σ a _ fun b' B2 H2 g s => by
  cases b' with
  | true => exact iteT (k s B0 H0 B2 H2 σ (a.step g) Q fun b3 B3 H3 g3 s3 => q b3 B3 H3 (Go.trans a.fz g g3) s3)
  | false => exact iteF (q false B2 H2 g (k2 s))
theorem ep_if {S0 : Bool → Prop} (h : EB R tt Γ S0) (k1 : S0 true → EP R ta Γ S) (k2 : S0 false → EP R tb Γ S) : EP R (tIf tt ta tb) Γ S := fun B0 H0 B H σ a Q q => h B0 H0 B H σ a _ fun b' B2 H2 g s => by
  cases b' with
  | true => exact iteT (k1 s B0 H0 B2 H2 σ (a.step g) Q fun v d B3 H3 g3 s3 => q v d B3 H3 (Go.trans a.fz g g3) s3)
  | false => exact iteF (k2 s B0 H0 B2 H2 σ (a.step g) Q fun v d B3 H3 g3 s3 => q v d B3 H3 (Go.trans a.fz g g3) s3)
theorem ed_if (h : EDB R tt Γ b) (k1 : b = true → ED R ta Γ x) (k2 : b = false → ED R tb Γ y) : ED R (tIf tt ta tb) Γ (if b = true then x else y) := by
  refine ep_if h (fun e => ?_) (fun e => ?_)
  · rw [← e]
    exact k1 e.symm
  · rw [← e]
    exact k2 e.symm
theorem ed_ifT (h : EDB R tt Γ true) (k1 : ED R ta Γ x) : ED R (tIf tt ta tb) Γ x := ep_if h (fun _ => k1) (fun e => by cases e)
theorem ed_ifF (h : EDB R tt Γ false) (k1 : ED R tb Γ x) : ED R (tIf tt ta tb) Γ x := ep_if h (fun e => by cases e) (fun _ => k1)
/-! ### arguments, displays -/
theorem eda_nil : EDA R tNil Γ [] := fun B0 H0 B H σ a Q q => q [] [] B H (Go.refl a.fz) rfl (isl_nil.mpr rfl)
theorem eap_cons {tr : TA} {Sl : D → List D → Prop} (h : EP R ta Γ S) (hr : ∀ x, S x → EA R tr Γ (Sl x)) : EA R (tCons ta tr) Γ fun ds => ∃ x r, ds = x :: r ∧ S x ∧ Sl x r := fun B0 H0 B H σ a Q q =>
  h B0 H0 B H σ a _ fun v x B2 H2 g s i => hr x s B0 H0 B2 H2 σ (a.step g) _ fun vs ds B3 H3 g3 s3 i3 => q _ (x :: ds) B3 H3 (Go.trans a.fz g g3) ⟨x, ds, rfl, s, s3⟩ (isl_mk (i.mono g3.ext) i3)
theorem eda_cons {tr : TA} (h : ED R ta Γ x) (hr : EDA R tr Γ ds) : EDA R (tCons ta tr) Γ (x :: ds) := (eap_cons (Sl := fun _ r => r = ds) h fun _ _ => hr).imp fun es ⟨y, r, e, e1, e2⟩ => by rw [e, e1, e2]
theorem ep_tup {t : TA} {Sl : List D → Prop} (h : EA R t Γ Sl) (hl : ∀ ds, Sl ds → ds.length ≤ 100000) : EP R (tTup t) Γ fun d => ∃ ds, d = .tup ds ∧ Sl ds := fun B0 H0 B H σ a Q q =>
  h B0 H0 B H σ a _ fun vs ds B2 H2 g s i => ⟨sz_of (by rw [← i.len]; exact hl ds s), fun p hp => q _ (.tup ds) _ _ (Go.trans a.fz g (Go.newF g.fz hp)) ⟨ds, rfl, s⟩ (is_tup.mpr ⟨p, vs, rfl, upd_same, i.mono (Ex.new (g.fz.bnone hp))⟩)⟩
theorem ed_tup {t : TA} (h : EDA R t Γ ds) (hl : ds.length ≤ 100000 := by simp) : ED R (tTup t) Γ (.tup ds) := (ep_tup h fun es e => by rw [e]; exact hl).imp fun d ⟨es, e, e2⟩ => by rw [e, e2]
theorem none_back {B H B2 H2 : Hp} {p : Addr} (f : Fz R B H) (g : Go R B H B2 H2) (h : H2 p = none) : H p = none := by
  cases q : H p with
  | none => rfl
  | some o =>
    by_cases ra : R.A p
    · exact absurd ra (g.fz.nr h)
    · rw [g.mv p o ra q] at h
      cases h
theorem ell_lst {t : TA} {Sl : List D → Prop} (h : EA R t Γ Sl) (hl : ∀ ds, Sl ds → ds.length ≤ 100000) : EL R (tLst t) Γ Sl := fun B0 H0 B H σ a Q q =>
  h B0 H0 B H σ a _ fun vs ds B2 H2 g s i => ⟨sz_of (by rw [← i.len]; exact hl ds s), fun p hp => q p vs ds B2 _ (Go.trans a.fz g (Go.own g.fz hp)) (none_back a.fz g hp) (g.fz.bnone hp) upd_same s i⟩
theorem edl_lst {t : TA} (h : EDA R t Γ ds) (hl : ds.length ≤ 100000 := by simp) : EDL R (tLst t) Γ ds := ell_lst h fun es e => by rw [e]; exact hl
/-! ### built-ins by values -/
theorem ep_cb {t : TA} {r : List V → Hp → VK → Prop} {Sl : List D → Prop} (h : EA R t Γ Sl) (k : ∀ ds, Sl ds → CbS R r ds S) : EP R (tCB r t) Γ S := fun B0 H0 B H σ a Q q =>
  h B0 H0 B H σ a _ fun vs ds B2 H2 g s i => k ds s B2 H2 vs g.fz i Q fun v d B3 H3 g3 s3 i3 => q v d B3 H3 (Go.trans a.fz g g3) s3 i3
theorem ed_cb {t : TA} {r : List V → Hp → VK → Prop} (h : EDA R t Γ ds) (k : CbD R r ds d) : ED R (tCB r t) Γ d := ep_cb h fun es e => by rw [e]; exact k
theorem ell_cb {t : TA} {r : List V → Hp → VK → Prop} (h : EDA R t Γ ds) (k : CbL R r ds es) : EDL R (tCB r t) Γ es := fun B0 H0 B H σ a Q q =>
  h B0 H0 B H σ a _ fun vs ds' B2 H2 g s i => k B2 H2 vs g.fz (s ▸ i) Q fun p ws B3 H3 g3 h1 h2 h3 i3 => q p ws es B3 H3 (Go.trans a.fz g g3) (none_back a.fz g h1) h2 h3 rfl i3
theorem isl1 {B : Hp} {x : D} {vs : List V} (h : IsL B [x] vs) : ∃ v, vs = [v] ∧ Is B x v := by
  obtain ⟨v, r, e, h1, h2⟩ := isl_cons.mp h
  rw [isl_nil.mp h2] at e
  exact ⟨v, e, h1⟩
theorem isl2 {B : Hp} {x y : D} {vs : List V} (h : IsL B [x, y] vs) : ∃ v u, vs = [v, u] ∧ Is B x v ∧ Is B y u := by
  obtain ⟨v, r, e, h1, h2⟩ := isl_cons.mp h
  obtain ⟨u, e2, h3⟩ := isl1 h2
  rw [e2] at e
  exact ⟨v, u, e, h1, h3⟩
def lenD : D → Option Nat
  | .str s => some s.length
  | .tup ds => some ds.length
  | .lst ds => some ds.length
  | _ => none
def lenOk : D → Prop
  | .str s => s.length ≤ 100000
  | _ => True
theorem cd_len {n : Nat} (h : lenD x = some n) (ok : lenOk x) : CbD R (fun xs H Q => ∃ x n, xs = [x] ∧ LenV K x H n ∧ Q (.int n) H) [x] (.int (n : Int)) := fun B H vs f i Q q => by
  obtain ⟨v, e, i1⟩ := isl1 i
  refine ⟨v, n, e, ?_, q _ _ B H (Go.refl f) rfl (is_int.mpr rfl)⟩
  cases x with
  | str s =>
    rw [is_str.mp i1]
    exact ⟨sz_of ok, (Option.some.inj h).symm⟩
  | tup ds =>
    obtain ⟨a, ws, ev, h1, h2⟩ := is_tup.mp i1
    rw [ev]
    exact .inr ⟨ws, SqT.of (f.sub _ _ h1), by rw [← h2.len]; exact (Option.some.inj h).symm⟩
  | lst ds =>
    obtain ⟨a, ws, ev, h1, h2⟩ := is_lst.mp i1
    rw [ev]
    exact .inl ⟨ws, SqL.of (f.sub _ _ h1), by rw [← h2.len]; exact (Option.some.inj h).symm⟩
  | _ => cases h
theorem cd_int {i : Int} : CbD R (fun xs H Q => (∃ i, xs = [.int i] ∧ Q (.int i) H) ∨ ∃ k, xs = [.bl k] ∧ Q (.int (if k then 1 else 0)) H) [.int i] (.int i) := fun B H vs f j Q q => by
  obtain ⟨v, e, i1⟩ := isl1 j
  rw [is_int.mp i1] at e
  exact .inl ⟨i, e, q _ _ B H (Go.refl f) rfl (is_int.mpr rfl)⟩
theorem cd_abs {i : Int} : CbD R (fun xs H Q => ∃ i, xs = [.int i] ∧ Q (.int (if i < 0 then -i else i)) H) [.int i] (.int (if i < 0 then -i else i)) := fun B H vs f j Q q => by
  obtain ⟨v, e, i1⟩ := isl1 j
  rw [is_int.mp i1] at e
  exact ⟨i, e, q _ _ B H (Go.refl f) rfl (is_int.mpr rfl)⟩
theorem cd_max2 {i j : Int} : CbD R (fun xs H Q => ∃ i j, xs = [.int i, .int j] ∧ Q (.int (if j > i then j else i)) H) [.int i, .int j] (.int (if j > i then j else i)) := fun B H vs f k Q q => by
  obtain ⟨v, u, e, i1, i2⟩ := isl2 k
  rw [is_int.mp i1, is_int.mp i2] at e
  exact ⟨i, j, e, q _ _ B H (Go.refl f) rfl (is_int.mpr rfl)⟩
theorem cd_any {bs : List Bool} : CbD R (rAny K) [.lst (bs.map .bl)] (.bl (bs.any id)) := fun B H vs f j Q q => by
  obtain ⟨v, e, i1⟩ := isl1 j
  obtain ⟨a, ws, ev, h1, h2⟩ := is_lst.mp i1
  rw [IsL.bls.mp h2] at h1
  exact ⟨a, bs, by rw [e, ev], SqL.of (f.sub _ _ h1), q _ _ B H (Go.refl f) rfl (is_bl.mpr rfl)⟩
theorem cd_all {bs : List Bool} : CbD R (rAll K) [.lst (bs.map .bl)] (.bl (bs.all id)) := fun B H vs f j Q q => by
  obtain ⟨v, e, i1⟩ := isl1 j
  obtain ⟨a, ws, ev, h1, h2⟩ := is_lst.mp i1
  rw [IsL.bls.mp h2] at h1
  exact ⟨a, bs, by rw [e, ev], SqL.of (f.sub _ _ h1), q _ _ B H (Go.refl f) rfl (is_bl.mpr rfl)⟩
/-- list(xs), of a list or a tuple -/
theorem cl_list (h : x = .lst ds ∨ x = .tup ds) : CbL R (fun xs H Q => ∃ p ys, xs = [.ref p] ∧ (SqL K H p ys ∨ SqT K H p ys) ∧ ∀ l, H l = none → Q (.ref l) (upd H l (.lst ys))) [x] ds := fun B H vs f j Q q => by
  obtain ⟨v, e, i1⟩ := isl1 j
  rcases h with rfl | rfl
  · obtain ⟨a, ws, ev, h1, h2⟩ := is_lst.mp i1
    exact ⟨a, ws, by rw [e, ev], .inl (SqL.of (f.sub _ _ h1)), fun l hl => q l ws B _ (Go.own f hl) hl (f.bnone hl) upd_same h2⟩
  · obtain ⟨a, ws, ev, h1, h2⟩ := is_tup.mp i1
    exact ⟨a, ws, by rw [e, ev], .inr (SqT.of (f.sub _ _ h1)), fun l hl => q l ws B _ (Go.own f hl) hl (f.bnone hl) upd_same h2⟩
/-- tuple(xs) -/
theorem cd_tuple (h : x = .lst ds ∨ x = .tup ds) : CbD R (fun xs H Q => ∃ p ys, xs = [.ref p] ∧ ((SqL K H p ys ∧ ∀ l, H l = none → Q (.ref l) (upd H l (.tup ys))) ∨ (SqT K H p ys ∧ Q (.ref p) H))) [x] (.tup ds) := fun B H vs f j Q q => by
  obtain ⟨v, e, i1⟩ := isl1 j
  rcases h with rfl | rfl
  · obtain ⟨a, ws, ev, h1, h2⟩ := is_lst.mp i1
    exact ⟨a, ws, by rw [e, ev], .inl ⟨SqL.of (f.sub _ _ h1), fun l hl => q _ _ _ _ (Go.newF f hl) rfl (is_tup.mpr ⟨l, ws, rfl, upd_same, h2.mono (Ex.new (f.bnone hl))⟩)⟩⟩
  · obtain ⟨a, ws, ev, h1, h2⟩ := is_tup.mp i1
    exact ⟨a, ws, by rw [e, ev], .inr ⟨SqT.of (f.sub _ _ h1), q _ _ B H (Go.refl f) rfl (is_tup.mpr ⟨a, ws, rfl, h1, h2⟩)⟩⟩
/-! ### subscripts -/
theorem IsL.atI {B : Hp} {ds : List D} {vs : List V} {i : Int} {d : D} (h : IsL B ds vs) (e : L2.atI ds i = some d) : ∃ v, L2.atI vs i = some v ∧ Is B d v := by
  unfold L2.atI at e ⊢
  rw [← h.len]
  cases q : ixN ds.length i with
  | none => rw [q] at e; cases e
  | some j =>
    rw [q] at e
    exact h.at e
theorem od_ixT {i : Int} (h : L2.atI ds i = some d) : OpD R (rIx K) (.tup ds) (.int i) d := fun B H vx vy f i1 i2 Q q => by
  obtain ⟨a, ws, ev, h1, h2⟩ := is_tup.mp i1
  obtain ⟨v, h3, h4⟩ := h2.atI h
  exact .inr (.inl ⟨a, ws, i, v, ev, is_int.mp i2, SqT.of (f.sub _ _ h1), h3, q v d B H (Go.refl f) rfl h4⟩)
theorem od_ixL {i : Int} (h : L2.atI ds i = some d) : OpD R (rIx K) (.lst ds) (.int i) d := fun B H vx vy f i1 i2 Q q => by
  obtain ⟨a, ws, ev, h1, h2⟩ := is_lst.mp i1
  obtain ⟨v, h3, h4⟩ := h2.atI h
  exact .inl ⟨a, ws, i, v, ev, is_int.mp i2, SqL.of (f.sub _ _ h1), h3, q v d B H (Go.refl f) rfl h4⟩
theorem od_ixS {z : Str} {i : Int} {c : Nat} (hz : z.length ≤ 100000) (h : L2.atI z.cps.toList i = some c) : OpD R (rIx K) (.str z) (.int i) (.str ⟨#[c]⟩) := fun B H vx vy f i1 i2 Q q =>
  .inr (.inr ⟨z, i, c, is_str.mp i1, is_int.mp i2, sz_of hz, h, q _ _ B H (Go.refl f) rfl (is_str.mpr rfl)⟩)
/-! ### slices -/
theorem edo_none : EDO R tNoPart Γ none := fun B0 H0 B H σ a Q q => q none B H (Go.refl a.fz) rfl
theorem edo_some {i : Int} (h : ED R te Γ (.int i)) : EDO R (tPart te) Γ (some i) := fun B0 H0 B H σ a Q q => h B0 H0 B H σ a _ fun v x B2 H2 g s i2 => by
  subst s
  exact ⟨i, is_int.mp i2, q _ B2 H2 g rfl⟩
def cutD (xs : List D) (lo hi : Option Int) : List D := (xs.drop (HT.sIx xs.length 0 lo)).take (HT.sIx xs.length xs.length hi - HT.sIx xs.length 0 lo)
theorem IsL.cut {B : Hp} {ds : List D} {vs : List V} (h : IsL B ds vs) (lo hi : Option Int) : IsL B (cutD ds lo hi) (cutV vs lo hi) := by
  unfold cutD cutV
  rw [← h.len]
  exact (h.drop _).take _
/-- slices of all kinds -/
def rSlU (K : PySem.W.Frag) : V → Option Int → Option Int → Hp → VK → Prop := fun x lo hi H Q => rSlL K x lo hi H Q ∨ rSlA K x lo hi H Q ∨ rSlS x lo hi H Q
theorem sl_all {X : Cx} : SlR X (rSlU X.K) := sl_list.or (sl_tupA.or sl_str)
theorem el_slL {tl th : TO} {lo hi : Option Int} (h : ED R te Γ (.lst ds)) (hl : EDO R tl Γ lo) (hh : EDO R th Γ hi) : EDL R (tSl (rSlU K) te tl th) Γ (cutD ds lo hi) := fun B0 H0 B H σ a Q q =>
  h B0 H0 B H σ a _ fun v x B1 H1 g1 s1 i1 => hl B0 H0 B1 H1 σ (a.step g1) _ fun l B2 H2 g2 s2 => hh B0 H0 B2 H2 σ ((a.step g1).step g2) _ fun u B3 H3 g3 s3 => by
    subst s1 s2 s3
    have g := Go.trans a.fz (Go.trans a.fz g1 g2) g3
    obtain ⟨p, ws, ev, h1, h2⟩ := is_lst.mp i1
    have e3 := g2.ext.trans g3.ext
    exact .inl ⟨p, ws, ev, SqL.of (g.fz.sub _ _ (e3 _ _ h1)), fun n hn => q n _ _ B3 _ (Go.trans a.fz g (Go.own g.fz hn)) (none_back a.fz g hn) (g.fz.bnone hn) upd_same rfl ((h2.mono e3).cut _ _)⟩
theorem ed_slS {tl th : TO} {lo hi : Option Int} {z : Str} (hz : z.length ≤ 100000) (h : ED R te Γ (.str z)) (hl : EDO R tl Γ lo) (hh : EDO R th Γ hi) : ED R (tSl (rSlU K) te tl th) Γ (.str (cutS z lo hi)) := fun B0 H0 B H σ a Q q =>
  h B0 H0 B H σ a _ fun v x B1 H1 g1 s1 i1 => hl B0 H0 B1 H1 σ (a.step g1) _ fun l B2 H2 g2 s2 => hh B0 H0 B2 H2 σ ((a.step g1).step g2) _ fun u B3 H3 g3 s3 => by
    subst s1 s2 s3
    exact .inr (.inr ⟨z, is_str.mp i1, sz_of hz, q _ _ B3 H3 (Go.trans a.fz (Go.trans a.fz g1 g2) g3) rfl (is_str.mpr rfl)⟩)
/-! ### fields -/
theorem lookup_zip {B : Hp} {f : Str} : ∀ {ks : List Str} {ds : List D} {vs : List V} {d : D}, IsL B ds vs → (ks.zip ds).lookup f = some d → ∃ v, (ks.zip vs).lookup f = some v ∧ Is B d v
  | [], ds, vs, d, _, e => by simp at e
  | k :: ks, [], vs, d, _, e => by simp at e
  | k :: ks, d0 :: ds, vs, d, h, e => by
    obtain ⟨v, r, ev, h2, h3⟩ := isl_cons.mp h
    rw [ev]
    rw [List.zip_cons_cons, List.lookup_cons] at e ⊢
    cases q : f == k with
    | true =>
      rw [q] at e
      exact ⟨v, rfl, (Option.some.inj e) ▸ h2⟩
    | false =>
      rw [q] at e
      exact lookup_zip h3 e
theorem ed_fld {f : Str} {C : Addr} {ks : List Str} (h : ED R te Γ (.obj C ks ds)) (c : Cls K C) (n : NoAttr K C f) (e : (ks.zip ds).lookup f = some d) : ED R (tFld K te f) Γ d := fun B0 H0 B H σ a Q q => h B0 H0 B H σ a _ fun v x B1 H1 g1 s1 i1 => by
  subst s1
  obtain ⟨p, dx, vs, ev, h1, _, h2⟩ := is_obj.mp i1
  obtain ⟨v2, h3, h4⟩ := lookup_zip h2 e
  exact ⟨p, C, dx, _, v2, ev, g1.fz.sub _ _ h1, c, n, h3, q v2 d B1 H1 g1 rfl h4⟩
end
/-! ### promises: a function of data -/
def psp (F : List D → D → Prop) : Sp := fun vs H Q _ => ∃ B ds d, Ex B H ∧ IsL B ds vs ∧ F ds d ∧ ∀ v B2 H2, Go triv B H B2 H2 → Is B2 d v → Q v H2
section
variable {R : Reg} {Γ : List Sl} {t : TA} {ds : List D} {d : D} {F : List D → D → Prop} {E : XK}
theorem ed_call (h : EDA R t Γ ds) (k : F ds d) : ED R (tCall (psp F) [] E t) Γ d := fun B0 H0 B H σ a Q q => h B0 H0 B H σ a _ fun vs ds' B2 H2 g s i => by
  subst s
  refine ⟨B2, ds', d, g.fz.sub, by rw [List.append_nil]; exact i, k, fun v B3 H3 g3 i3 => q v d B3 H3 (Go.trans a.fz g (Go.lift g.fz g3)) rfl i3⟩
end
end Dl
set_option Elab.async false
set_option linter.all false
set_option maxRecDepth 100000
/-! Dl3: what is walked, targets, comprehensions, statements, promises. -/
namespace Dl
open PySem L2 Evl

/-! ### targets -/
def setsV (σ : L2.St) : List Nat → List V → L2.St
  | j :: js, u :: us => setsV (σ.set j (some u)) js us
  | _, _ => σ
def setsD (Γ : List Sl) : List (Nat × D) → List Sl
  | [] => Γ
  | p :: ps => setsD (Γ.set p.1 (.dat p.2)) ps
def GS (R : Reg) (g : TG) (d : D) (ps : List (Nat × D)) : Prop := ∀ (B H : Hp) (σ : L2.St) (v : V), Fz R B H → Is B d v → ∀ Q : L2.St → Hp → Prop, (∀ us, IsL B (ps.map (·.2)) us → Q (setsV σ (ps.map (·.1)) us) H) → g v σ H Q
def GSs (R : Reg) (g : TGs) (ds : List D) (ps : List (Nat × D)) : Prop := ∀ (B H : Hp) (σ : L2.St) (vs : List V), Fz R B H → IsL B ds vs → ∀ Q : L2.St → Hp → Prop, (∀ us, IsL B (ps.map (·.2)) us → Q (setsV σ (ps.map (·.1)) us) H) → g vs σ H Q
section
variable {R : Reg} {K : PySem.W.Frag}
theorem gs_name {j : Nat} {d : D} : GS R (gName j) d [(j, d)] := fun B H σ v f i Q q => q [v] (IsL.one i)
theorem gss_nil : GSs R gNil [] [] := fun B H σ vs f i Q q => ⟨isl_nil.mp i, q [] (isl_nil.mpr rfl)⟩
theorem setsV_append : ∀ (js ks : List Nat) (us ws : List V) (σ : L2.St), js.length = us.length → setsV σ (js ++ ks) (us ++ ws) = setsV (setsV σ js us) ks ws
  | [], ks, us, ws, σ, h => by
    cases us with
    | nil => rfl
    | cons u us => simp at h
  | j :: js, ks, us, ws, σ, h => by
    cases us with
    | nil => simp at h
    | cons u us =>
      show setsV (σ.set j (some u)) (js ++ ks) (us ++ ws) = setsV (setsV (σ.set j (some u)) js us) ks ws
      exact setsV_append js ks us ws _ (by simpa using h)
theorem gss_cons {g : TG} {u : TGs} {d : D} {ds : List D} {ps qs : List (Nat × D)} (h1 : GS R g d ps) (h2 : GSs R u ds qs) : GSs R (gCons g u) (d :: ds) (ps ++ qs) := fun B H σ vs f i Q q => by
  obtain ⟨v, r, e, i1, i2⟩ := isl_cons.mp i
  refine ⟨v, r, e, h1 B H σ v f i1 _ fun us iu => h2 B H _ r f i2 Q fun ws iw => ?_⟩
  rw [← setsV_append _ _ _ _ _ (by rw [List.length_map, ← iu.len, List.length_map]), ← List.map_append]
  exact q (us ++ ws) (by rw [List.map_append]; exact iu.append iw)
theorem gs_tup {n : Nat} {u : TGs} {ds : List D} {ps : List (Nat × D)} (h : GSs R u ds ps) (hn : ds.length = n) : GS R (gTup K n u) (.tup ds) ps := fun B H σ v f i Q q => by
  obtain ⟨a, vs, e, h1, h2⟩ := is_tup.mp i
  exact ⟨a, vs, e, SqT.of (f.sub _ _ h1), by rw [← h2.len]; exact hn, h B H σ vs f h2 Q q⟩
variable {B0 H0 B H : Hp} {Γ : List Sl} {σ : L2.St}
theorem At.sets : ∀ {ps : List (Nat × D)} {us : List V} {Γ : List Sl} {σ : L2.St}, At R B0 H0 B Γ σ H → IsL B (ps.map (·.2)) us → At R B0 H0 B (setsD Γ ps) (setsV σ (ps.map (·.1)) us) H
  | [], us, Γ, σ, a, i => by
    rw [isl_nil.mp i]
    exact a
  | p :: ps, us, Γ, σ, a, i => by
    obtain ⟨v, r, e, i1, i2⟩ := isl_cons.mp i
    rw [e]
    exact At.sets (ps := ps) (Γ := Γ.set p.1 (.dat p.2)) (a.putDat (i := p.1) i1) i2
end
/-! ### what is walked -/
def Yields (R : Reg) (J : It) (B1 : Hp) (xs : List D) : Prop := ∀ (B H : Hp) (i : Nat), Ex B1 B → Fz R B H → (i = xs.length → J.stop i H) ∧ ∀ x, xs[i]? = some x → J.go i H ∧ ∀ v H', J.yld i H v H' → ∃ B', Go R B H B' H' ∧ Is B' x v
def WI (R : Reg) (wi : TI) (Γ : List Sl) (S : List D → Prop) : Prop := ∀ (B0 H0 B H : Hp) (σ : L2.St), At R B0 H0 B Γ σ H → ∀ Rr : It → Hp → Prop, (∀ J xs B2 H2, Go R B H B2 H2 → S xs → Yields R J B2 xs → Rr J H2) → wi σ H Rr
abbrev WID (R : Reg) (wi : TI) (Γ : List Sl) (xs : List D) : Prop := WI R wi Γ fun ys => ys = xs
section
variable {R : Reg} {K : PySem.W.Frag} {Γ : List Sl} {te : TE} {ta : TA}
theorem wi_list {S : List D → Prop} (h : EP R te Γ fun d => ∃ ds, d = .lst ds ∧ S ds) : WI R (iList K te) Γ S := fun B0 H0 B H σ a Rr q => h B0 H0 B H σ a _ fun v d B2 H2 g ⟨ds, e, s⟩ i => by
  subst e
  obtain ⟨p, vs, ev, h1, h2⟩ := is_lst.mp i
  refine ⟨p, ev, ⟨vs, SqL.of (g.fz.sub _ _ h1)⟩, q _ ds B2 H2 g s fun B3 H3 i e3 f3 => ⟨fun ei => ?_, fun x ex => ?_⟩⟩
  · exact ⟨vs, SqL.of (f3.sub _ _ (e3 _ _ h1)), by rw [ei, h2.len]; exact Nat.le_refl _⟩
  · obtain ⟨u, eu, iu⟩ := h2.at ex
    refine ⟨⟨vs, u, SqL.of (f3.sub _ _ (e3 _ _ h1)), eu⟩, fun v H' y => ?_⟩
    obtain ⟨rfl, y2⟩ := y
    have z := y2 vs (SqL.of (f3.sub _ _ (e3 _ _ h1)))
    rw [eu] at z
    rw [← Option.some.inj z]
    exact ⟨B3, Go.refl f3, iu.mono e3⟩
theorem wi_tup {S : List D → Prop} (h : EP R te Γ fun d => ∃ ds, d = .tup ds ∧ S ds) : WI R (iTup K te) Γ S := fun B0 H0 B H σ a Rr q => h B0 H0 B H σ a _ fun v d B2 H2 g ⟨ds, e, s⟩ i => by
  subst e
  obtain ⟨p, vs, ev, h1, h2⟩ := is_tup.mp i
  refine ⟨p, ev, ⟨vs, SqT.of (g.fz.sub _ _ h1)⟩, q _ ds B2 H2 g s fun B3 H3 i e3 f3 => ⟨fun ei => ?_, fun x ex => ?_⟩⟩
  · exact ⟨vs, SqT.of (f3.sub _ _ (e3 _ _ h1)), by rw [ei, h2.len]; exact Nat.le_refl _⟩
  · obtain ⟨u, eu, iu⟩ := h2.at ex
    refine ⟨⟨vs, u, SqT.of (f3.sub _ _ (e3 _ _ h1)), eu⟩, fun v H' y => ?_⟩
    obtain ⟨rfl, y2⟩ := y
    have z := y2 vs (SqT.of (f3.sub _ _ (e3 _ _ h1)))
    rw [eu] at z
    rw [← Option.some.inj z]
    exact ⟨B3, Go.refl f3, iu.mono e3⟩
theorem wid_list {ds : List D} (h : ED R te Γ (.lst ds)) : WID R (iList K te) Γ ds := wi_list (h.imp fun d e => ⟨ds, e, rfl⟩)
theorem wid_tup {ds : List D} (h : ED R te Γ (.tup ds)) : WID R (iTup K te) Γ ds := wi_tup (h.imp fun d e => ⟨ds, e, rfl⟩)
/-- a list or a tuple -/
def iSeq (K : PySem.W.Frag) (te : TE) : TI := fun σ H Rr => te σ H fun x H1 => ∃ a, x = .ref a ∧ ((∃ xs, SqL K H1 a xs) ∧ Rr (Itl K a) H1 ∨ (∃ xs, SqT K H1 a xs) ∧ Rr (Itt K a) H1)
def rngD (lo : Int) (n : Nat) : List D := (List.range n).map fun (i : Nat) => D.int (lo + (i : Int))
theorem rngD_at {lo : Int} {n i : Nat} {x : D} (h : (rngD lo n)[i]? = some x) : i < n ∧ x = .int (lo + (i : Int)) := by
  unfold rngD at h
  rw [List.getElem?_map] at h
  by_cases hi : i < n
  · rw [List.getElem?_range hi] at h
    exact ⟨hi, (Option.some.inj h).symm⟩
  · rw [List.getElem?_eq_none (by rw [List.length_range]; omega)] at h
    cases h
theorem rngD_len (lo : Int) (n : Nat) : (rngD lo n).length = n := by unfold rngD; rw [List.length_map, List.length_range]
theorem yields_rng {lo : Int} {n : Nat} {B1 : Hp} : Yields R (Itr lo n) B1 (rngD lo n) := fun B H i e f => ⟨fun ei => by
    rw [rngD_len] at ei
    show n ≤ i
    omega, fun x ex => by
    obtain ⟨h1, h2⟩ := rngD_at ex
    refine ⟨h1, fun v H' y => ?_⟩
    obtain ⟨rfl, rfl⟩ := y
    exact ⟨B, Go.refl f, by rw [h2]; exact is_int.mpr rfl⟩⟩
theorem wi_rng1 {S : Int → Prop} (h : EA R ta Γ fun ds => ∃ n, ds = [.int n] ∧ S n ∧ -(2 ^ 62) ≤ n ∧ n < 2 ^ 62) : WI R (iRng1 ta) Γ fun xs => ∃ n, S n ∧ xs = rngD 0 n.toNat := fun B0 H0 B H σ a Rr q => h B0 H0 B H σ a _ fun vs ds B2 H2 g ⟨n, e, s, l1, l2⟩ i => by
  subst e
  obtain ⟨v, ev, iv⟩ := isl1 i
  rw [is_int.mp iv] at ev
  exact ⟨n, ev, l1, l2, q _ _ B2 H2 g ⟨n, s, rfl⟩ yields_rng⟩
theorem wid_rng1 {n : Int} (h : EDA R ta Γ [.int n]) (hn : n < 2 ^ 62) (h0 : 0 ≤ n) : WID R (iRng1 ta) Γ (rngD 0 n.toNat) := fun B0 H0 B H σ a Rr q =>
  wi_rng1 (S := fun m => m = n) (h.imp fun ds e => ⟨n, e, rfl, by omega, hn⟩) B0 H0 B H σ a Rr fun J xs B2 H2 g ⟨m, em, e⟩ y => q J xs B2 H2 g (by rw [e, em]) y
theorem wid_rng2 {lo n : Int} (h : EDA R ta Γ [.int lo, .int n]) (h1 : -(2 ^ 62) ≤ lo ∧ lo < 2 ^ 62 ∧ -(2 ^ 62) ≤ n ∧ n < 2 ^ 62) : WID R (iRng2 ta) Γ (rngD lo (n - lo).toNat) := fun B0 H0 B H σ a Rr q => h B0 H0 B H σ a _ fun vs ds B2 H2 g s i => by
  subst s
  obtain ⟨v, u, ev, iv, iu⟩ := isl2 i
  rw [is_int.mp iv, is_int.mp iu] at ev
  exact ⟨lo, n, ev, h1, q _ _ B2 H2 g rfl yields_rng⟩
def stpD (lo c : Int) (n : Nat) : List D := (List.range n).map fun (i : Nat) => D.int (lo + (i : Int) * c)
theorem stpD_len (lo c : Int) (n : Nat) : (stpD lo c n).length = n := by unfold stpD; rw [List.length_map, List.length_range]
theorem stpD_at {lo c : Int} {n i : Nat} {x : D} (h : (stpD lo c n)[i]? = some x) : i < n ∧ x = .int (lo + (i : Int) * c) := by
  unfold stpD at h
  rw [List.getElem?_map] at h
  by_cases hi : i < n
  · rw [List.getElem?_range hi] at h
    exact ⟨hi, (Option.some.inj h).symm⟩
  · rw [List.getElem?_eq_none (by rw [List.length_range]; omega)] at h
    cases h
theorem wid_rng3 {lo hi c : Int} {n : Nat} (h : EDA R ta Γ [.int lo, .int hi, .int c]) (h1 : RgC lo hi c n) : WID R (iRng3 ta) Γ (stpD lo c n) := fun B0 H0 B H σ a Rr q => h B0 H0 B H σ a _ fun vs ds B2 H2 g s i => by
  subst s
  obtain ⟨v, r, ev, iv, ir⟩ := isl_cons.mp i
  obtain ⟨u, w, er, iu, iw⟩ := isl2 ir
  rw [er, is_int.mp iv, is_int.mp iu, is_int.mp iw] at ev
  refine ⟨lo, hi, c, n, ev, h1, q _ _ B2 H2 g rfl fun B3 H3 i e f => ⟨fun ei => ?_, fun x ex => ?_⟩⟩
  · rw [stpD_len] at ei
    show n ≤ i
    omega
  · obtain ⟨h1, h2⟩ := stpD_at ex
    refine ⟨h1, fun v H' y => ?_⟩
    obtain ⟨rfl, rfl⟩ := y
    exact ⟨B3, Go.refl f, by rw [h2]; exact is_int.mpr rfl⟩
/-- a text, sign by sign -/
def signsD (x : Str) : List D := x.cps.toList.map fun c => D.str ⟨#[c]⟩
theorem wid_str {x : Str} (h : ED R te Γ (.str x)) : WID R (iStr te) Γ (signsD x) := fun B0 H0 B H σ a Rr q => h B0 H0 B H σ a _ fun v d B2 H2 g s i => by
  subst s
  refine ⟨x, is_str.mp i, q _ _ B2 H2 g rfl fun B3 H3 i e f => ⟨fun ei => ?_, fun y ey => ?_⟩⟩
  · unfold signsD at ei
    rw [List.length_map, Array.length_toList] at ei
    show x.cps.size ≤ i
    omega
  · unfold signsD at ey
    rw [List.getElem?_map] at ey
    cases q : x.cps[i]? with
    | none =>
      rw [Array.getElem?_toList, q] at ey
      cases ey
    | some c =>
      rw [Array.getElem?_toList, q] at ey
      refine ⟨(Array.getElem?_eq_some_iff.mp q).1, fun v H' z => ?_⟩
      obtain ⟨rfl, c2, ec, rfl⟩ := z
      rw [q] at ec
      rw [← Option.some.inj ec]
      exact ⟨B3, Go.refl f, by rw [← Option.some.inj ey]; exact is_str.mpr rfl⟩
end
/-! ### comprehensions -/
def wipeG (Γ : List Sl) : List Nat → List Sl
  | [] => Γ
  | v :: vs => (wipeG Γ vs).set v .no
section
variable {R : Reg} {K : PySem.W.Frag} {Γ : List Sl} {B0 H0 B H : Hp} {σ : L2.St}
theorem At.wipe (a : At R B0 H0 B Γ σ H) : ∀ vs : List Nat, At R B0 H0 B (wipeG Γ vs) (wipe σ vs) H
  | [] => a
  | v :: vs => (a.wipe vs).putNo
theorem wipe_at {σ : L2.St} {i : Nat} : ∀ {vs : List Nat}, (wipe σ vs)[i]? = if i ∈ vs ∧ i < σ.length then some none else σ[i]?
  | [] => by simp [wipe]
  | v :: vs => by
    unfold wipe
    rw [List.getElem?_set, wipe_length, wipe_at (vs := vs)]
    by_cases e : v = i
    · subst e
      by_cases h : v < σ.length
      · simp [h]
      · simp [h]
    · have e' : ¬ i = v := fun z => e z.symm
      simp [e, e']
theorem wipe_set {τ : L2.St} {j : Nat} {o : Option V} {vs : List Nat} (h : j ∈ vs) : wipe (τ.set j o) vs = wipe τ vs := by
  apply List.ext_getElem?
  intro i
  rw [wipe_at, wipe_at, List.length_set, List.getElem?_set]
  by_cases e : j = i
  · subst e
    by_cases hl : j < τ.length
    · simp [h, hl]
    · simp [hl]
  · simp [e]
theorem wipe_wipe {σ : L2.St} {vs : List Nat} : wipe (wipe σ vs) vs = wipe σ vs := by
  apply List.ext_getElem?
  intro i
  rw [wipe_at, wipe_length, wipe_at]
  by_cases e : i ∈ vs ∧ i < σ.length
  · simp [e]
  · simp [e]
theorem wipe_sets {vs : List Nat} : ∀ {js : List Nat} {us : List V} {τ : L2.St}, (∀ j ∈ js, j ∈ vs) → wipe (setsV τ js us) vs = wipe τ vs
  | [], us, τ, _ => by cases us <;> rfl
  | j :: js, [], τ, _ => rfl
  | j :: js, u :: us, τ, h => by
    show wipe (setsV (τ.set j (some u)) js us) vs = wipe τ vs
    rw [wipe_sets fun k hk => h k (List.mem_cons_of_mem _ hk), wipe_set (h j List.mem_cons_self)]
/-- an object that was not there ahead is written -/
theorem Go.wr {B H B2 H2 : Hp} {p : Addr} {o : HO} (g : Go R B H B2 H2) (hp : H p = none) (nb : B2 p = none) (nr : ¬ R.A p) : Go R B H B2 (upd H2 p o) := by
  refine ⟨⟨fun a u h => ?_, R.st H2 _ (fun a ra => upd_ne (fun y : a = p => nr (y ▸ ra))) g.fz.ok, fun a ra => ?_⟩, g.ext, fun a u na h => ?_, g.new⟩
  · have ne : a ≠ p := fun y => by
      rw [y, nb] at h
      cases h
    rw [upd_ne ne]
    exact g.fz.sub a u h
  · rw [upd_ne (fun y : a = p => nr (y ▸ ra))]
    exact g.fz.out a ra
  · rw [upd_ne (ne_of_none h hp)]
    exact g.mv a u na h

/-- one turn of a comprehension: the item's targets, the test, the element, what the list so far then is -/
def Turn1 (R : Reg) (Γ : List Sl) (g : TG) (tt : TT) (te : TE) (vs : List Nat) (x : D) (ys : List D) (P : List D → Prop) : Prop :=
  ∃ ps : List (Nat × D), (∀ j ∈ ps.map (·.1), j ∈ vs) ∧ GS R g x ps ∧ ∃ T : Bool → Prop, EB R tt (setsD (wipeG Γ vs) ps) T ∧
    (T true → ∃ S, EP R te (setsD (wipeG Γ vs) ps) S ∧ ys.length < 100000 ∧ ∀ d, S d → P (ys ++ [d])) ∧ (T false → P ys)
theorem el_lc {wi : TI} {g : TG} {tt : TT} {te : TE} {vs : List Nat} {Sx : List D → Prop} {S : List D → Prop} (hi : WI R wi Γ Sx)
    (hs : ∀ xs, Sx xs → ∃ P : Nat → List D → Prop, P 0 [] ∧ (∀ i x ys, xs[i]? = some x → P i ys → Turn1 R Γ g tt te vs x ys (P (i + 1))) ∧ ∀ ys, P xs.length ys → S ys) : EL R (tLc wi g tt te vs) Γ S := fun B0 H0 B H σ a Q q =>
  hi B0 H0 B H σ a _ fun J xs B1 H1 g1 sx y => by
  obtain ⟨P, p0, pt, pe⟩ := hs xs sx
  have a1 := a.step g1
  intro Dl hD
  have nr := g1.fz.nr hD
  have b1 := g1.fz.bnone hD
  refine ⟨fun i m H' => m = xs.length - i ∧ i ≤ xs.length ∧ ∃ B' ys ws, Go R B1 H1 B' H' ∧ B' Dl = none ∧ H' Dl = some (.lst ws) ∧ IsL B' ys ws ∧ P i ys,
    ⟨xs.length, by omega, Nat.zero_le _, B1, [], [], Go.own g1.fz hD, b1, upd_same, isl_nil.mpr rfl, p0⟩, ?_⟩
  rintro i m H' ⟨rfl, hi, B', ys, ws, g2, b2, h2, i2, p⟩
  obtain ⟨y1, y2⟩ := y B' H' i g2.ext g2.fz
  rcases Nat.lt_or_ge i xs.length with hlt | hge
  · have ex : xs[i]? = some xs[i] := List.getElem?_eq_getElem hlt
    obtain ⟨go, yy⟩ := y2 _ ex
    obtain ⟨ps, pv, gs, T, eb, kt, kf⟩ := pt i _ ys ex p
    refine .inr ⟨go, fun H'' => ∃ B' ys ws, Go R B1 H1 B' H'' ∧ B' Dl = none ∧ H'' Dl = some (.lst ws) ∧ IsL B' ys ws ∧ P (i + 1) ys, fun H'' h => ⟨xs.length - (i + 1), by omega, rfl, hlt, h⟩, fun v H3 yv => ?_⟩
    obtain ⟨B3, g3, iv⟩ := yy v H3 yv
    have g23 := Go.trans g1.fz g2 g3
    have keep : ∀ {Bx Hx : Hp}, Go R B' H' Bx Hx → Bx Dl = none ∧ Hx Dl = some (.lst ws) := fun {Bx Hx} gx => ⟨(gx.new Dl _ h2).trans b2, gx.mv Dl _ nr h2⟩
    refine gs B3 H3 (wipe σ vs) v g3.fz iv _ fun us iu => ⟨by rw [wipe_sets pv, wipe_wipe], ?_⟩
    have a3 : At R B0 H0 B3 (setsD (wipeG Γ vs) ps) (setsV (wipe σ vs) (ps.map (·.1)) us) H3 := ((a1.step g23).wipe vs).sets iu
    refine eb B0 H0 B3 H3 _ a3 _ fun b B4 H4 g4 tb => ?_
    have g34 := Go.trans g2.fz g3 g4
    cases b with
    | true =>
      obtain ⟨S2, ee, hl, kd⟩ := kt tb
      refine iteT (ee B0 H0 B4 H4 _ (a3.step g4) _ fun u d B5 H5 g5 sd id => ?_)
      have g35 := Go.trans g2.fz g34 g5
      obtain ⟨k1, k2⟩ := keep g35
      refine ⟨ws, k2, by have := i2.len; exact sz_lt (by omega), B5, ys ++ [d], ws ++ [u], (Go.trans g1.fz g2 g35).wr hD k1 nr, k1, upd_same, (i2.mono g35.ext).append (IsL.one id), kd d sd⟩
    | false =>
      obtain ⟨k1, k2⟩ := keep g34
      exact iteF ⟨B4, ys, ws, Go.trans g1.fz g2 g34, k1, k2, i2.mono g34.ext, kf tb⟩
  · have e : i = xs.length := by omega
    subst e
    exact .inl ⟨y1 rfl, q Dl ws ys B' H' (Go.trans a.fz g1 g2) (none_back a.fz g1 hD) b2 h2 (pe ys p) i2⟩
/-- [f(x) for x in xs] -/
theorem edl_map {wi : TI} {g : TG} {tt : TT} {te : TE} {vs : List Nat} {xs : List D} (hi : WID R wi Γ xs) (f : D → D) (hx : xs.length ≤ 100000)
    (hs : ∀ x ∈ xs, ∃ ps : List (Nat × D), (∀ j ∈ ps.map (·.1), j ∈ vs) ∧ GS R g x ps ∧ EDB R tt (setsD (wipeG Γ vs) ps) true ∧ ED R te (setsD (wipeG Γ vs) ps) (f x)) : EDL R (tLc wi g tt te vs) Γ (xs.map f) :=
  el_lc hi fun ys e => by
    subst e
    refine ⟨fun i zs => zs = (ys.take i).map f, by simp, fun i x zs ex ez => ?_, fun zs e => by rw [e, List.take_length]⟩
    obtain ⟨ps, h1, h2, h3, h4⟩ := hs x (List.mem_of_getElem? ex)
    have hi := (List.getElem?_eq_some_iff.mp ex).1
    refine ⟨ps, h1, h2, _, h3, fun _ => ⟨_, h4, ?_, fun d ed => ?_⟩, fun e => by cases e⟩
    · have ez' : zs = (ys.take i).map f := ez
      rw [ez', List.length_map, List.length_take]
      omega
    · have ez' : zs = (ys.take i).map f := ez
      show zs ++ [d] = (ys.take (i + 1)).map f
      rw [ez', ed, List.take_add_one, ex, List.map_append]
      rfl
/-- [f(x) for x in xs if p(x)] -/
theorem edl_filt {wi : TI} {g : TG} {tt : TT} {te : TE} {vs : List Nat} {xs : List D} (hi : WID R wi Γ xs) (p : D → Bool) (f : D → D) (hx : xs.length ≤ 100000)
    (hs : ∀ x ∈ xs, ∃ ps : List (Nat × D), (∀ j ∈ ps.map (·.1), j ∈ vs) ∧ GS R g x ps ∧ EDB R tt (setsD (wipeG Γ vs) ps) (p x) ∧ (p x = true → ED R te (setsD (wipeG Γ vs) ps) (f x))) : EDL R (tLc wi g tt te vs) Γ ((xs.filter p).map f) :=
  el_lc hi fun ys e => by
    subst e
    refine ⟨fun i zs => zs = ((ys.take i).filter p).map f, by simp, fun i x zs ex ez => ?_, fun zs e => by rw [e, List.take_length]⟩
    obtain ⟨ps, h1, h2, h3, h4⟩ := hs x (List.mem_of_getElem? ex)
    have hi := (List.getElem?_eq_some_iff.mp ex).1
    have hf : ((ys.take (i + 1)).filter p).map f = ((ys.take i).filter p).map f ++ (if p x = true then [f x] else []) := by
      rw [List.take_add_one, ex, List.filter_append, List.map_append]
      show _ ++ List.map f (List.filter p [x]) = _
      cases hp : p x <;> simp [hp]
    refine ⟨ps, h1, h2, _, h3, fun ep => ⟨_, h4 ep.symm, ?_, fun d ed => ?_⟩, fun ep => ?_⟩
    · have ez' : zs = ((ys.take i).filter p).map f := ez
      rw [ez', List.length_map]
      have h5 := List.length_filter_le p (ys.take i)
      rw [List.length_take] at h5
      omega
    · have ez' : zs = ((ys.take i).filter p).map f := ez
      show zs ++ [d] = ((ys.take (i + 1)).filter p).map f
      rw [hf, if_pos ep.symm, ez', ed]
    · show zs = ((ys.take (i + 1)).filter p).map f
      rw [hf, if_neg (by rw [← ep]; decide), List.append_nil]
      exact ez
theorem yes_true {σ : L2.St} {H : Hp} {Q : Bool → Hp → Prop} (h : Q true H) : tYes σ H Q := h
/-- two fors, no ifs -/
theorem edl_map2 {wi wi1 : TI} {g g1 : TG} {te : TE} {vs vs1 : List Nat} {xs : List D} (hi : WID R wi Γ xs) (ins : D → List D) (f : D → D → D) (hx : (xs.flatMap fun x => (ins x).map (f x)).length ≤ 100000) (hv : ∀ j ∈ vs1, j ∈ vs)
    (hs : ∀ x ∈ xs, ∃ ps : List (Nat × D), (∀ j ∈ ps.map (·.1), j ∈ vs) ∧ GS R g x ps ∧ WID R wi1 (setsD (wipeG Γ vs) ps) (ins x) ∧
      ∀ y ∈ ins x, ∃ qs : List (Nat × D), (∀ j ∈ qs.map (·.1), j ∈ vs1) ∧ GS R g1 y qs ∧ ED R te (setsD (wipeG (setsD (wipeG Γ vs) ps) vs1) qs) (f x y)) :
    EDL R (tLc2 wi g tYes wi1 g1 tYes te vs vs1) Γ (xs.flatMap fun x => (ins x).map (f x)) := fun B0 H0 B H σ a Q q =>
  hi B0 H0 B H σ a _ fun J xs' B1 H1 g1' sx y => by
  subst sx
  have a1 := a.step g1'
  intro Dl hD
  have nr := g1'.fz.nr hD
  have b1 := g1'.fz.bnone hD
  refine ⟨fun i m H' => m = xs'.length - i ∧ i ≤ xs'.length ∧ ∃ B' ws, Go R B1 H1 B' H' ∧ B' Dl = none ∧ H' Dl = some (.lst ws) ∧ IsL B' ((xs'.take i).flatMap fun x => (ins x).map (f x)) ws,
    ⟨xs'.length, by omega, Nat.zero_le _, B1, [], Go.own g1'.fz hD, b1, upd_same, isl_nil.mpr rfl⟩, ?_⟩
  rintro i m H' ⟨rfl, hi, B', ws, g2, b2, h2, i2⟩
  obtain ⟨y1, y2⟩ := y B' H' i g2.ext g2.fz
  rcases Nat.lt_or_ge i xs'.length with hlt | hge
  · have ex : xs'[i]? = some xs'[i] := List.getElem?_eq_getElem hlt
    generalize hxe : xs'[i] = x at ex
    obtain ⟨go, yy⟩ := y2 _ ex
    obtain ⟨ps, pv, gs, wi1h, hin⟩ := hs x (List.mem_of_getElem? ex)
    refine .inr ⟨go, fun H'' => ∃ B' ws, Go R B1 H1 B' H'' ∧ B' Dl = none ∧ H'' Dl = some (.lst ws) ∧ IsL B' ((xs'.take (i + 1)).flatMap fun x => (ins x).map (f x)) ws, fun H'' h => ⟨xs'.length - (i + 1), by omega, rfl, hlt, h⟩, fun v H3 yv => ?_⟩
    obtain ⟨B3, g3, iv⟩ := yy v H3 yv
    refine gs B3 H3 (wipe σ vs) v g3.fz iv _ fun us iu => ⟨by rw [wipe_sets pv, wipe_wipe], ?_⟩
    refine yes_true ?_
    dsimp only
    rw [if_pos rfl]
    have g23 := Go.trans g1'.fz g2 g3
    have a3 : At R B0 H0 B3 (setsD (wipeG Γ vs) ps) (setsV (wipe σ vs) (ps.map (·.1)) us) H3 := ((a1.step g23).wipe vs).sets iu
    refine wi1h B0 H0 B3 H3 _ a3 _ fun J1 ys B4 H4 g4 sy yj => ?_
    subst sy
    have g34 := Go.trans g2.fz g3 g4
    have keep : ∀ {Bx Hx : Hp}, Go R B' H' Bx Hx → Bx Dl = none ∧ Hx Dl = some (.lst ws) := fun {Bx Hx} gx => ⟨(gx.new Dl _ h2).trans b2, gx.mv Dl _ nr h2⟩
    obtain ⟨k1, k2⟩ := keep g34
    have cl : ∀ j, j ≤ (ins x).length → ((xs'.take i).flatMap fun x => (ins x).map (f x)).length + j ≤ 100000 := fun j hj => by
      have e : xs'.flatMap (fun x => (ins x).map (f x)) = (xs'.take i).flatMap (fun x => (ins x).map (f x)) ++ ((ins x).map (f x) ++ (xs'.drop (i + 1)).flatMap fun x => (ins x).map (f x)) := by
        conv => lhs; rw [← List.take_append_drop i xs', List.flatMap_append, List.drop_eq_getElem_cons hlt, hxe, List.flatMap_cons]
      rw [e, List.length_append, List.length_append, List.length_map] at hx
      omega
    refine ⟨fun j k Hx => k = (ins x).length - j ∧ j ≤ (ins x).length ∧ ∃ B' ws, Ex B4 B' ∧ Go R B1 H1 B' Hx ∧ B' Dl = none ∧ Hx Dl = some (.lst ws) ∧ IsL B' (((xs'.take i).flatMap fun x => (ins x).map (f x)) ++ ((ins x).take j).map (f x)) ws,
      ⟨(ins x).length, by omega, Nat.zero_le _, B4, ws, Ex.refl B4, Go.trans g1'.fz g2 g34, k1, k2, by simpa using i2.mono g34.ext⟩, ?_⟩
    rintro j k Hx ⟨rfl, hj, Bx, wx, gx, gx1, bx, hx2, ix⟩
    obtain ⟨z1, z2⟩ := yj Bx Hx j gx gx1.fz
    rcases Nat.lt_or_ge j (ins x).length with jlt | jge
    · have ey : (ins x)[j]? = some (ins x)[j] := List.getElem?_eq_getElem jlt
      generalize hye : (ins x)[j] = y0 at ey
      obtain ⟨go2, yy2⟩ := z2 _ ey
      obtain ⟨qs, qv, gs2, ee⟩ := hin y0 (List.mem_of_getElem? ey)
      refine .inr ⟨go2, fun H'' => ∃ B' ws, Ex B4 B' ∧ Go R B1 H1 B' H'' ∧ B' Dl = none ∧ H'' Dl = some (.lst ws) ∧ IsL B' (((xs'.take i).flatMap fun x => (ins x).map (f x)) ++ ((ins x).take (j + 1)).map (f x)) ws, fun H'' h => ⟨(ins x).length - (j + 1), by omega, rfl, jlt, h⟩, fun v2 H5 yv2 => ?_⟩
      obtain ⟨B5, g5, iv2⟩ := yy2 v2 H5 yv2
      refine gs2 B5 H5 _ v2 g5.fz iv2 _ fun us2 iu2 => ⟨by rw [wipe_sets qv, wipe_wipe], ?_⟩
      refine yes_true ?_
      dsimp only
      rw [if_pos rfl]
      have a5 := ((((a1.step (Go.trans g1'.fz gx1 g5)).wipe vs).sets (iu.mono (g4.ext.trans (gx.trans g5.ext)))).wipe vs1).sets iu2
      refine ee B0 H0 B5 H5 _ a5 _ fun u d B6 H6 g6 sd id => ?_
      subst sd
      have g56 := Go.trans gx1.fz g5 g6
      have bx6 : B6 Dl = none := (g56.new Dl _ hx2).trans bx
      have hx6 : H6 Dl = some (.lst wx) := g56.mv Dl _ nr hx2
      have h4d : H4 Dl = some (.lst ws) := k2
      have ixl := ix.len
      have hle := cl j (by omega)
      refine ⟨wx, hx6, sz_lt ?_, B6, wx ++ [u], gx.trans g56.ext, (Go.trans g1'.fz gx1 g56).wr hD bx6 nr, bx6, upd_same, ?_⟩
      · rw [List.length_append, List.length_map, List.length_take] at ixl
        have := cl (j + 1) (by omega)
        omega
      · have e : (ins x).take (j + 1) = (ins x).take j ++ [y0] := by rw [List.take_add_one, ey]; rfl
        rw [e, List.map_append, ← List.append_assoc]
        exact (ix.mono g56.ext).append (IsL.one id)
    · have e : j = (ins x).length := by omega
      subst e
      refine .inl ⟨z1 rfl, Bx, wx, gx1, bx, hx2, ?_⟩
      have e : xs'.take (i + 1) = xs'.take i ++ [x] := by rw [List.take_add_one, ex]; rfl
      rw [e, List.flatMap_append]
      rw [List.take_length] at ix
      simpa using ix
  · have e : i = xs'.length := by omega
    subst e
    rw [List.take_length] at i2
    exact .inl ⟨y1 rfl, q Dl ws _ B' H' (Go.trans a.fz g1' g2) (none_back a.fz g1' hD) b2 h2 rfl i2⟩
end
end Dl
set_option Elab.async false
set_option linter.all false
set_option maxRecDepth 100000
/-! Dl4: statements, the bodies of defs. -/
namespace Dl
open PySem L2 Evl

/-- from such slots the block ends so: N next, Rt returned, Bk break, Ct continue -/
def SS (R : Reg) (B0 H0 : Hp) (ts : TS) (Γ : List Sl) (N : List Sl → Prop) (Rt : D → Prop) (Bk Ct : List Sl → Prop) : Prop := ∀ (B : Hp) (σ : L2.St) (H : Hp) (E : Ends), At R B0 H0 B Γ σ H →
  (∀ B' Γ' σ' H', N Γ' → At R B0 H0 B' Γ' σ' H' → Ex B B' → E.nx σ' H') → (∀ v d B' H', Rt d → Go R B0 H0 B' H' → Is B' d v → E.rt v H') →
  (∀ B' Γ' σ' H', Bk Γ' → At R B0 H0 B' Γ' σ' H' → Ex B B' → E.bk σ' H') → (∀ B' Γ' σ' H', Ct Γ' → At R B0 H0 B' Γ' σ' H' → Ex B B' → E.ct σ' H') → ts E σ H
/-- an expression that changes own lists -/
def EX (R : Reg) (te : TE) (Γ : List Sl) (S : D → List Sl → Prop) : Prop := ∀ (B0 H0 B H : Hp) (σ : L2.St), At R B0 H0 B Γ σ H → ∀ Q : VK, (∀ v d B2 H2 Γ', At R B0 H0 B2 Γ' σ H2 → Ex B B2 → S d Γ' → Is B2 d v → Q v H2) → te σ H Q
section
variable {R : Reg} {K : PySem.W.Frag} {B0 H0 : Hp} {Γ : List Sl} {N N' : List Sl → Prop} {Rt : D → Prop} {Bk Ct : List Sl → Prop} {te ta tb : TE} {tt : TT} {t u : TS} {S : D → Prop} {d : D} {i j : Nat} {ds : List D}
theorem ss_seq (h : SS R B0 H0 t Γ (fun Γ' => SS R B0 H0 u Γ' N Rt Bk Ct) Rt Bk Ct) : SS R B0 H0 (tSeq t u) Γ N Rt Bk Ct := fun B σ H E a n r b c =>
  h B σ H { E with nx := u E } a (fun B' Γ' σ' H' s a' e => s B' σ' H' E a' (fun B2 G2 s2 H2 x y z => n B2 G2 s2 H2 x y (e.trans z)) r (fun B2 G2 s2 H2 x y z => b B2 G2 s2 H2 x y (e.trans z)) (fun B2 G2 s2 H2 x y z => c B2 G2 s2 H2 x y (e.trans z))) r b c
theorem ss_imp (h : SS R B0 H0 t Γ N' Rt Bk Ct) (k : ∀ Γ', N' Γ' → N Γ') : SS R B0 H0 t Γ N Rt Bk Ct := fun B σ H E a n r b c => h B σ H E a (fun B' Γ' σ' H' s => n B' Γ' σ' H' (k _ s)) r b c
theorem ss_next (h : N Γ) : SS R B0 H0 tNext Γ N Rt Bk Ct := fun B σ H E a n r b c => n B Γ σ H h a (Ex.refl B)
theorem ss_break (h : Bk Γ) : SS R B0 H0 tBreak Γ N Rt Bk Ct := fun B σ H E a n r b c => b B Γ σ H h a (Ex.refl B)
theorem ss_cont (h : Ct Γ) : SS R B0 H0 tCont Γ N Rt Bk Ct := fun B σ H E a n r b c => c B Γ σ H h a (Ex.refl B)
theorem ss_forget (i : Nat) (h : SS R B0 H0 t (Γ.set i .no) N Rt Bk Ct) : SS R B0 H0 t Γ N Rt Bk Ct := fun B σ H E a n r b c => h B σ H E a.forget n r b c
theorem ss_freeze (i : Nat) (e : Γ[i]? = some (.own ds)) (h : SS R B0 H0 t (Γ.set i (.dat (.lst ds))) N Rt Bk Ct) : SS R B0 H0 t Γ N Rt Bk Ct := fun B σ H E a n r b c => by
  obtain ⟨B2, e2, a2⟩ := a.freeze e
  exact h B2 σ H E a2 (fun B' G s H' x y z => n B' G s H' x y (e2.trans z)) r (fun B' G s H' x y z => b B' G s H' x y (e2.trans z)) (fun B' G s H' x y z => c B' G s H' x y (e2.trans z))
theorem ss_asg (h : EP R te Γ S) (k : ∀ d, S d → N (Γ.set i (.dat d))) : SS R B0 H0 (tAsg te (gName i)) Γ N Rt Bk Ct := fun B σ H E a n r b c => h B0 H0 B H σ a _ fun v d B2 H2 g s is_ => n B2 _ _ H2 (k d s) ((a.step g).putDat is_) g.ext
theorem ssd_asg (h : ED R te Γ d) (k : N (Γ.set i (.dat d))) : SS R B0 H0 (tAsg te (gName i)) Γ N Rt Bk Ct := ss_asg h fun _ e => by rw [e]; exact k
/-- a slot is given a thing that was laid within g -/
theorem At.putNewS {B H B2 H2 : Hp} {σ : L2.St} {p : Addr} {s : Sl} (a : At R B0 H0 B Γ σ H) (g : Go R B H B2 H2) (hp : H p = none) (ok : SlotOk R B2 H2 s (some (.ref p))) : At R B0 H0 B2 (Γ.set i s) (σ.set i (some (.ref p))) H2 := by
  have a2 := a.step g
  have h0 : H0 p = none := none_back a.f0 a.go hp
  have noown : ∀ (j : Nat) (s : Sl), Γ[j]? = some s → isOwn s = true → σ[j]? = some (some (V.ref p)) → False := fun j s e pr q => by
    obtain ⟨l', ws, e1, e2, e3, e4, _⟩ := a.ownS e pr
    rw [e1] at q
    have z : l' = p := by
      injection q with q
      injection q with q
      injection q
    rw [z, hp] at e4
    cases e4
  refine ⟨a.f0, a2.go, by rw [List.length_set, List.length_set]; exact a.len, fun j t e => ?_, fun j k t t' m e e' pp p' q q' => ?_, fun j t m e pp q => ?_⟩
  · rcases get_set e with ⟨rfl, rfl, hi⟩ | ⟨ne, e⟩
    · exact ⟨_, by rw [List.getElem?_set_self (by rw [a.len]; exact hi)], ok⟩
    · obtain ⟨o', h1, h2⟩ := a2.sl j t e
      exact ⟨o', by rw [List.getElem?_set_ne ne]; exact h1, h2⟩
  · have pm : i < Γ.length → (σ.set i (some (V.ref p)))[i]? = some (some (V.ref m)) → p = m := fun hi y => by
      rw [List.getElem?_set_self (by rw [a.len]; exact hi)] at y
      injection y with y
      injection y with y
      injection y
    rcases get_set e with ⟨ij, _, hi⟩ | ⟨ne, e2⟩
    · rcases get_set e' with ⟨ik, _, _⟩ | ⟨ne', e2'⟩
      · exact ij.symm.trans ik
      · rw [← ij] at q
        rw [List.getElem?_set_ne ne'] at q'
        rw [← pm hi q] at q'
        exact (noown k t' e2' p' q').elim
    · rcases get_set e' with ⟨ik, _, hi⟩ | ⟨ne', e2'⟩
      · rw [← ik] at q'
        rw [List.getElem?_set_ne ne] at q
        rw [← pm hi q'] at q
        exact (noown j t e2 pp q).elim
      · rw [List.getElem?_set_ne ne] at q
        rw [List.getElem?_set_ne ne'] at q'
        exact a.dj j k t t' m e2 e2' pp p' q q'
  · rcases get_set e with ⟨ij, _, hi⟩ | ⟨ne, e2⟩
    · rw [← ij, List.getElem?_set_self (by rw [a.len]; exact hi)] at q
      have z : p = m := by
        injection q with q
        injection q with q
        injection q
      rw [← z]
      exact h0
    · rw [List.getElem?_set_ne ne] at q
      exact a.fr j t m e2 pp q
/-- a slot is given a list that was laid within g -/
theorem At.putNew {B H B2 H2 : Hp} {σ : L2.St} {p : Addr} {vs : List V} (a : At R B0 H0 B Γ σ H) (g : Go R B H B2 H2) (hp : H p = none) (nb : B2 p = none) (ho : H2 p = some (.lst vs)) (is_ : IsL B2 ds vs) : At R B0 H0 B2 (Γ.set i (.own ds)) (σ.set i (some (.ref p))) H2 := a.putNewS g hp ⟨p, vs, rfl, nb, a.fz.nr hp, ho, is_⟩
theorem ss_asgO {S : List D → Prop} (h : EL R te Γ S) (k : ∀ ds, S ds → N (Γ.set i (.own ds))) : SS R B0 H0 (tAsg te (gName i)) Γ N Rt Bk Ct := fun B σ H E a n r b c => h B0 H0 B H σ a _ fun p vs ds B2 H2 g hp nb ho s is_ => n B2 _ _ H2 (k ds s) (a.putNew g hp nb ho is_) g.ext
theorem ssd_asgO (h : EDL R te Γ ds) (k : N (Γ.set i (.own ds))) : SS R B0 H0 (tAsg te (gName i)) Γ N Rt Bk Ct := ss_asgO h fun _ e => by rw [e]; exact k
/-- to targets of any form -/
theorem ss_asgG {g : TG} (h : EP R te Γ S) (k : ∀ d, S d → ∃ ps, GS R g d ps ∧ N (setsD Γ ps)) : SS R B0 H0 (tAsg te g) Γ N Rt Bk Ct := fun B σ H E a n r b c => h B0 H0 B H σ a _ fun v d B2 H2 g1 s is_ => by
  obtain ⟨ps, hg, hn⟩ := k d s
  exact hg B2 H2 σ v g1.fz is_ _ fun us iu => n B2 _ _ H2 hn ((a.step g1).sets iu) g1.ext
/-- x, y = e1, e2 -/
theorem ss_par {ta : TA} {S : List D → Prop} (h : EA R ta Γ S) (k : ∀ ds, S ds → ∃ x y, ds = [x, y] ∧ N ((Γ.set i (.dat x)).set j (.dat y))) : SS R B0 H0 (tPar i j ta) Γ N Rt Bk Ct := fun B σ H E a n r b c => h B0 H0 B H σ a _ fun vs ds B2 H2 g s is_ => by
  obtain ⟨x, y, e, hn⟩ := k ds s
  subst e
  obtain ⟨v, w, ev, i1, i2⟩ := isl2 is_
  exact ⟨v, w, ev, n B2 _ _ H2 hn (((a.step g).putDat i1).putDat i2) g.ext⟩
theorem ssd_par {ta : TA} {x y : D} (h : EDA R ta Γ [x, y]) (k : N ((Γ.set i (.dat x)).set j (.dat y))) : SS R B0 H0 (tPar i j ta) Γ N Rt Bk Ct := ss_par h fun ds e => ⟨x, y, e, k⟩
theorem ss_ret (h : EP R te Γ S) (k : ∀ d, S d → Rt d) : SS R B0 H0 (tRet te) Γ N Rt Bk Ct := fun B σ H E a n r b c => h B0 H0 B H σ a _ fun v d B2 H2 g s is_ => r v d B2 H2 (k d s) (Go.trans a.f0 a.go g) is_
theorem ssd_ret (h : ED R te Γ d) (k : Rt d) : SS R B0 H0 (tRet te) Γ N Rt Bk Ct := ss_ret h fun _ e => by rw [e]; exact k
theorem ss_retN (k : Rt .non) : SS R B0 H0 tRetN Γ N Rt Bk Ct := fun B σ H E a n r b c => r .non .non B H k a.go (is_non.mpr rfl)
theorem ss_drop (h : EP R te Γ S) (k : N Γ) : SS R B0 H0 (tDrop te) Γ N Rt Bk Ct := fun B σ H E a n r b c => h B0 H0 B H σ a _ fun v d B2 H2 g s is_ => n B2 Γ σ H2 k (a.step g) g.ext
theorem ss_if {S : Bool → Prop} (h : EB R tt Γ S) (k1 : S true → SS R B0 H0 t Γ N Rt Bk Ct) (k2 : S false → SS R B0 H0 u Γ N Rt Bk Ct) : SS R B0 H0 (tIfS tt t u) Γ N Rt Bk Ct := fun B σ H E a n r b c => h B0 H0 B H σ a _ fun bb B2 H2 g s => by
  have n' : ∀ B' Γ' σ' H', N Γ' → At R B0 H0 B' Γ' σ' H' → Ex B2 B' → E.nx σ' H' := fun B' G s H' x y z => n B' G s H' x y (g.ext.trans z)
  have b' : ∀ B' Γ' σ' H', Bk Γ' → At R B0 H0 B' Γ' σ' H' → Ex B2 B' → E.bk σ' H' := fun B' G s H' x y z => b B' G s H' x y (g.ext.trans z)
  have c' : ∀ B' Γ' σ' H', Ct Γ' → At R B0 H0 B' Γ' σ' H' → Ex B2 B' → E.ct σ' H' := fun B' G s H' x y z => c B' G s H' x y (g.ext.trans z)
  cases bb with
  | true => exact iteT (k1 s B2 σ H2 E (a.step g) n' r b' c')
  | false => exact iteF (k2 s B2 σ H2 E (a.step g) n' r b' c')
theorem ssd_if {b : Bool} (h : EDB R tt Γ b) (k1 : b = true → SS R B0 H0 t Γ N Rt Bk Ct) (k2 : b = false → SS R B0 H0 u Γ N Rt Bk Ct) : SS R B0 H0 (tIfS tt t u) Γ N Rt Bk Ct := ss_if h (fun e => k1 e.symm) (fun e => k2 e.symm)
theorem ssd_ifT (h : EDB R tt Γ true) (k1 : SS R B0 H0 t Γ N Rt Bk Ct) : SS R B0 H0 (tIfS tt t u) Γ N Rt Bk Ct := ss_if h (fun _ => k1) (fun e => by cases e)
theorem ssd_ifF (h : EDB R tt Γ false) (k1 : SS R B0 H0 u Γ N Rt Bk Ct) : SS R B0 H0 (tIfS tt t u) Γ N Rt Bk Ct := ss_if h (fun e => by cases e) (fun _ => k1)
theorem ss_for {wi : TI} {g : TG} {tb : TS} {Sx : List D → Prop} (hi : WI R wi Γ Sx)
    (hs : ∀ xs, Sx xs → ∃ P : Nat → List Sl → Prop, P 0 Γ ∧ (∀ i x Γ', xs[i]? = some x → P i Γ' → ∃ ps, GS R g x ps ∧ SS R B0 H0 tb (setsD Γ' ps) (P (i + 1)) Rt N (P (i + 1))) ∧ ∀ Γ', P xs.length Γ' → N Γ') : SS R B0 H0 (tFor wi g tb) Γ N Rt Bk Ct := fun B σ H E a n r b c =>
  hi B0 H0 B H σ a _ fun J xs B1 H1 g1 sx y => by
  obtain ⟨P, p0, pt, pe⟩ := hs xs sx
  refine ⟨fun i m σ' H' => m = xs.length - i ∧ i ≤ xs.length ∧ ∃ B' Γ', P i Γ' ∧ At R B0 H0 B' Γ' σ' H' ∧ Ex B1 B', ⟨xs.length, by omega, Nat.zero_le _, B1, Γ, p0, a.step g1, Ex.refl B1⟩, ?_⟩
  rintro i m σ' H' ⟨rfl, hi, B', Γ', p, a', e'⟩
  obtain ⟨y1, y2⟩ := y B' H' i e' a'.fz
  rcases Nat.lt_or_ge i xs.length with hlt | hge
  · have ex : xs[i]? = some xs[i] := List.getElem?_eq_getElem hlt
    obtain ⟨go, yy⟩ := y2 _ ex
    obtain ⟨ps, gs, st⟩ := pt i _ Γ' ex p
    refine .inr ⟨go, fun σ2 H2 => ∃ B' Γ', P (i + 1) Γ' ∧ At R B0 H0 B' Γ' σ2 H2 ∧ Ex B1 B', fun σ2 H2 h => ⟨xs.length - (i + 1), by omega, rfl, hlt, h⟩, fun v H2 yv => ?_⟩
    obtain ⟨B2, g2, iv⟩ := yy v H2 yv
    refine gs B2 H2 σ' v g2.fz iv _ fun us iu => ?_
    refine st B2 _ H2 { E with nx := _, ct := _, bk := E.nx } ((a'.step g2).sets iu) (fun B3 G3 s3 H3 x y z => ⟨B3, G3, x, y, (e'.trans g2.ext).trans z⟩) r (fun B3 G3 s3 H3 x y z => n B3 G3 s3 H3 x y (((g1.ext.trans e').trans g2.ext).trans z))
      (fun B3 G3 s3 H3 x y z => ⟨B3, G3, x, y, (e'.trans g2.ext).trans z⟩)
  · have e : i = xs.length := by omega
    subst e
    exact .inl ⟨y1 rfl, n B' Γ' σ' H' (pe Γ' p) a' (g1.ext.trans e')⟩
theorem ssd_for {wi : TI} {g : TG} {tb : TS} {xs : List D} (hi : WID R wi Γ xs) (P : Nat → List Sl → Prop) (h0 : P 0 Γ) (hs : ∀ i x Γ', xs[i]? = some x → P i Γ' → ∃ ps, GS R g x ps ∧ SS R B0 H0 tb (setsD Γ' ps) (P (i + 1)) Rt N (P (i + 1)))
    (hn : ∀ Γ', P xs.length Γ' → N Γ') : SS R B0 H0 (tFor wi g tb) Γ N Rt Bk Ct := ss_for hi fun ys e => by
  subst e
  exact ⟨P, h0, hs, hn⟩
theorem ss_while {tb : TS} (W : Nat → List Sl → Prop) (h0 : ∃ m, W m Γ) (hs : ∀ m Γ', W m Γ' → ∃ S : Bool → Prop, EB R tt Γ' S ∧ (S true → SS R B0 H0 tb Γ' (fun G => ∃ m', m' < m ∧ W m' G) Rt N (fun G => ∃ m', m' < m ∧ W m' G)) ∧ (S false → N Γ')) : SS R B0 H0 (tWhile tt tb) Γ N Rt Bk Ct := fun B σ H E a n r b c => by
  obtain ⟨m0, w0⟩ := h0
  refine ⟨fun m σ' H' => ∃ B' Γ', W m Γ' ∧ At R B0 H0 B' Γ' σ' H' ∧ Ex B B', ⟨m0, B, Γ, w0, a, Ex.refl B⟩, ?_⟩
  rintro m σ' H' ⟨B', Γ', w, a', e'⟩
  obtain ⟨S, hb, k1, k2⟩ := hs m Γ' w
  refine hb B0 H0 B' H' σ' a' _ fun bb B2 H2 g s => ?_
  cases bb with
  | true =>
    refine iteT ⟨fun σ3 H3 => ∃ m', m' < m ∧ ∃ B' Γ', W m' Γ' ∧ At R B0 H0 B' Γ' σ3 H3 ∧ Ex B B', fun σ3 H3 h => h, ?_⟩
    exact k1 s B2 σ' H2 { E with nx := _, ct := _, bk := E.nx } (a'.step g) (fun B3 G3 s3 H3 ⟨m', hm, x⟩ y z => ⟨m', hm, B3, G3, x, y, (e'.trans g.ext).trans z⟩) r (fun B3 G3 s3 H3 x y z => n B3 G3 s3 H3 x y ((e'.trans g.ext).trans z))
      (fun B3 G3 s3 H3 ⟨m', hm, x⟩ y z => ⟨m', hm, B3, G3, x, y, (e'.trans g.ext).trans z⟩)
  | false => exact iteF (n B2 Γ' σ' H2 (k2 s) (a'.step g) (e'.trans g.ext))
theorem ssd_while {tb : TS} (W : Nat → List Sl → Prop) (h0 : ∃ m, W m Γ) (hs : ∀ m Γ', W m Γ' → ∃ b, EDB R tt Γ' b ∧ (b = true → SS R B0 H0 tb Γ' (fun G => ∃ m', m' < m ∧ W m' G) Rt N (fun G => ∃ m', m' < m ∧ W m' G)) ∧ (b = false → N Γ')) : SS R B0 H0 (tWhile tt tb) Γ N Rt Bk Ct :=
  ss_while W h0 fun m G w => by
  obtain ⟨b, h1, h2, h3⟩ := hs m G w
  exact ⟨_, h1, fun e => h2 e.symm, fun e => h3 e.symm⟩
/-! ### own lists -/
theorem ref_inj {l m : Addr} {o : Option (Option V)} (h : o = some (some (V.ref l))) (h' : o = some (some (V.ref m))) : l = m := by
  rw [h] at h'
  injection h' with q
  injection q with q
  injection q
theorem ex_of_ep (h : EP R te Γ S) : EX R te Γ fun d G => S d ∧ G = Γ := fun B0 H0 B H σ a Q q => h B0 H0 B H σ a Q fun v d B2 H2 g s i => q v d B2 H2 Γ (a.step g) g.ext ⟨s, rfl⟩ i
theorem EX.imp {S S' : D → List Sl → Prop} (h : EX R te Γ S) (k : ∀ d G, S d G → S' d G) : EX R te Γ S' := fun B0 H0 B H σ a Q q => h B0 H0 B H σ a Q fun v d B2 H2 G a2 e s i => q v d B2 H2 G a2 e (k d G s) i
theorem tyl {H : Hp} {l : Addr} {vs : List V} (h : H l = some (.lst vs)) : tyV K "list" (.ref l) H := .inl ⟨rfl, vs, SqL.of h⟩
theorem ss_append (e : Γ[i]? = some (.own ds)) (h : EP R te Γ S) (hl : ds.length < 100000) (k : ∀ d, S d → N (Γ.set i (.own (ds ++ [d])))) : SS R B0 H0 (tDrop (tBM K "list" rAppend (tVar i) (tCons te tNil))) Γ N Rt Bk Ct := fun B σ H E a n r b c => by
  obtain ⟨l, vs, e1, b1, nr, h1, hds, h0⟩ := a.own e
  refine ⟨_, e1, tyl h1, h B0 H0 B H σ a _ fun v d B2 H2 g s is_ => ?_⟩
  have h2 := g.mv l _ nr h1
  refine ⟨l, vs, v, rfl, rfl, h2, sz_lt (by rw [← hds.len]; exact hl), ?_⟩
  exact n B2 _ σ _ (k d s) ((a.step g).wr e e1 ((hds.mono g.ext).append (IsL.one is_))) g.ext
theorem ssd_append (e : Γ[i]? = some (.own ds)) (h : ED R te Γ d) (hl : ds.length < 100000) (k : N (Γ.set i (.own (ds ++ [d])))) : SS R B0 H0 (tDrop (tBM K "list" rAppend (tVar i) (tCons te tNil))) Γ N Rt Bk Ct := ss_append e h hl fun _ q => by rw [q]; exact k
/-- the item is found by an expression that changes own lists -/
theorem ss_appendX {S : D → List Sl → Prop} (e0 : ∃ ds, Γ[i]? = some (.own ds)) (h : EX R te Γ S) (k : ∀ d G, S d G → ∃ ds, G[i]? = some (.own ds) ∧ ds.length < 100000 ∧ N (G.set i (.own (ds ++ [d])))) : SS R B0 H0 (tDrop (tBM K "list" rAppend (tVar i) (tCons te tNil))) Γ N Rt Bk Ct := fun B σ H E a n r b c => by
  obtain ⟨ds0, e⟩ := e0
  obtain ⟨l, vs, e1, b1, nr, h1, hds, h0⟩ := a.own e
  refine ⟨_, e1, tyl h1, h B0 H0 B H σ a _ fun v d B2 H2 G a2 eb s is_ => ?_⟩
  obtain ⟨ds, e2, hl, hn⟩ := k d G s
  obtain ⟨l2, vs2, f1, _, _, h2, hds2, _⟩ := a2.own e2
  have z := ref_inj f1 e1
  subst z
  refine ⟨l2, vs2, v, rfl, rfl, h2, sz_lt (by rw [← hds2.len]; exact hl), ?_⟩
  exact n B2 _ σ _ hn (a2.wr e2 f1 (hds2.append (IsL.one is_))) eb
theorem ss_extend (e : Γ[i]? = some (.own ds)) {S : List D → Prop} (h : EL R te Γ S) (k : ∀ es, S es → ds.length + es.length ≤ 100000 ∧ N (Γ.set i (.own (ds ++ es)))) : SS R B0 H0 (tDrop (tBM K "list" rExtend (tVar i) (tCons te tNil))) Γ N Rt Bk Ct := fun B σ H E a n r b c => by
  obtain ⟨l, vs, e1, b1, nr, h1, hds, h0⟩ := a.own e
  refine ⟨_, e1, tyl h1, h B0 H0 B H σ a _ fun p ws es B2 H2 g hp nb ho s is_ => ?_⟩
  have h2 := g.mv l _ nr h1
  obtain ⟨hl, hn⟩ := k es s
  have q1 := hds.len
  have q2 := is_.len
  refine ⟨l, p, vs, ws, rfl, rfl, h2, ho, sz_of (by omega), ?_⟩
  exact n B2 _ σ _ hn ((a.step g).wr e e1 ((hds.mono g.ext).append is_)) g.ext
/-- xs.pop() -/
theorem ex_pop {x : D} (e : Γ[i]? = some (.own (ds ++ [x]))) : EX R (tBM0 K "list" rPop (tVar i)) Γ fun d G => d = x ∧ G = Γ.set i (.own ds) := fun B0 H0 B H σ a Q q => by
  obtain ⟨l, vs, e1, b1, nr, h1, hds, h0⟩ := a.own e
  have ln := hds.len
  rw [List.length_append, List.length_singleton] at ln
  obtain ⟨v, hv, iv⟩ := hds.at (i := ds.length) (d := x) (by simp)
  have dl := hds.dropLast
  rw [List.dropLast_concat] at dl
  refine ⟨_, e1, tyl h1, l, vs, v, rfl, rfl, h1, by rw [show vs.length - 1 = ds.length by omega]; exact hv, ?_⟩
  exact q v x B _ _ (a.wr e e1 dl) (Ex.refl B) ⟨rfl, rfl⟩ iv
/-- the value of an expression that changes own lists, to a name -/
theorem ss_asgX {S : D → List Sl → Prop} (h : EX R te Γ S) (k : ∀ d G, S d G → N (G.set i (.dat d))) : SS R B0 H0 (tAsg te (gName i)) Γ N Rt Bk Ct := fun B σ H E a n r b c => h B0 H0 B H σ a _ fun v d B2 H2 G a2 e s is_ => n B2 _ _ H2 (k d G s) (a2.putDat is_) e
/-- len of an own list -/
theorem ed_lenO (e : Γ[i]? = some (.own ds)) : ED R (tCB (fun xs H Q => ∃ x n, xs = [x] ∧ LenV K x H n ∧ Q (.int n) H) (tCons (tVar i) tNil)) Γ (.int (ds.length : Int)) := fun B0 H0 B H σ a Q q => by
  obtain ⟨l, vs, e1, b1, nr, h1, hds, h0⟩ := a.own e
  exact ⟨_, e1, _, ds.length, rfl, .inl ⟨vs, SqL.of h1, by rw [hds.len]⟩, q _ _ B H (Go.refl a.fz) rfl (is_int.mpr rfl)⟩
theorem eb_truO (e : Γ[i]? = some (.own ds)) : EDB R (fun σ H Q => tVar i σ H fun x H' => ∃ k, TruV K x H' k ∧ Q k H') Γ (!ds.isEmpty) := fun B0 H0 B H σ a Q q => by
  obtain ⟨l, vs, e1, b1, nr, h1, hds, h0⟩ := a.own e
  exact ⟨_, e1, _, .inl ⟨vs, SqL.of h1, rfl⟩, q _ B H (Go.refl a.fz) (isl_empty hds).symm⟩
theorem ep_ixO {S1 : D → Prop} (e : Γ[i]? = some (.own ds)) (h : EP R te Γ S1) (k : ∀ x, S1 x → ∃ n d, x = .int n ∧ L2.atI ds n = some d ∧ S d) : EP R (tOp (rIx K) (tVar i) te) Γ S := fun B0 H0 B H σ a Q q => by
  obtain ⟨l, vs, e1, b1, nr, h1, hds, h0⟩ := a.own e
  refine ⟨_, e1, h B0 H0 B H σ a _ fun v x B2 H2 g s is_ => ?_⟩
  obtain ⟨n, d, ex, ei, sd⟩ := k x s
  subst ex
  obtain ⟨u, hu, iu⟩ := (hds.mono g.ext).atI ei
  exact .inl ⟨l, vs, n, u, rfl, is_int.mp is_, SqL.of (g.mv l _ nr h1), hu, q u d B2 H2 g sd iu⟩
theorem ed_ixO {n : Int} (e : Γ[i]? = some (.own ds)) (h : ED R te Γ (.int n)) (k : L2.atI ds n = some d) : ED R (tOp (rIx K) (tVar i) te) Γ d := ep_ixO e h fun x ex => ⟨n, d, ex, k, rfl⟩
/-- xs[j] = v -/
theorem ss_setO {S1 S2 : D → Prop} (e : Γ[i]? = some (.own ds)) (hv : EP R te Γ S1) (hi : EP R ta Γ S2) (k : ∀ x y, S1 x → S2 y → ∃ (n : Nat), y = .int n ∧ n < ds.length ∧ N (Γ.set i (.own (ds.set n x)))) : SS R B0 H0 (tAsg te (gSub (tVar i) ta rSetL)) Γ N Rt Bk Ct := fun B σ H E a n r b c =>
  hv B0 H0 B H σ a _ fun v x B1 H1 g1 s1 i1 => by
  obtain ⟨l, vs, e1, b1, nr, h1, hds, h0⟩ := (a.step g1).own e
  refine ⟨_, e1, hi B0 H0 B1 H1 σ (a.step g1) _ fun w y B2 H2 g2 s2 i2 => ?_⟩
  obtain ⟨m, ey, hm, hn⟩ := k x y s1 s2
  subst ey
  have hm' : m < vs.length := by rw [← hds.len]; exact hm
  refine ⟨l, vs, _, m, rfl, is_int.mp i2, g2.mv l _ nr h1, ?_, ?_⟩
  · unfold ixN
    rw [if_pos (by omega), if_pos (by omega)]
    simp
  · exact n B2 _ σ _ hn (((a.step g1).step g2).wr e e1 ((hds.mono g2.ext).set (i1.mono g2.ext) m)) (g1.ext.trans g2.ext)
end
/-! ### bodies -/
theorem at_start {R : Reg} {B H : Hp} {N : List Str} {vs : List V} {ss : List Sl} (f : Fz R B H) (hl : ss.length = vs.length) (hs : ∀ (i : Nat) s v, ss[i]? = some s → vs[i]? = some v → isOwn s = false ∧ SlotOk R B H s (some v)) :
    At R B H B (ss ++ List.replicate (N.length - vs.length) .no) (L2.start N vs) H := by
  unfold L2.start
  have nown : ∀ (i : Nat) (s : Sl), (ss ++ List.replicate (N.length - vs.length) Sl.no)[i]? = some s → isOwn s = false := fun i s e => by
    by_cases hi : i < ss.length
    · rw [List.getElem?_append_left hi] at e
      have hv : i < vs.length := by omega
      exact (hs i s vs[i] e (List.getElem?_eq_getElem hv)).1
    · rw [List.getElem?_append_right (by omega)] at e
      have e2 := List.eq_of_mem_replicate (List.mem_of_getElem? e)
      rw [e2]
      rfl
  refine ⟨f, Go.refl f, by rw [List.length_append, List.length_append, List.length_map, List.length_replicate, List.length_replicate, hl], fun i s e => ?_, fun i j s s' l e e' p => ?_, fun i s l e p => ?_⟩
  · by_cases hi : i < ss.length
    · have hv : i < vs.length := by omega
      rw [List.getElem?_append_left hi] at e
      refine ⟨some vs[i], ?_, (hs i s vs[i] e (List.getElem?_eq_getElem hv)).2⟩
      rw [List.getElem?_append_left (by rw [List.length_map]; exact hv), List.getElem?_map, List.getElem?_eq_getElem hv]
      rfl
    · rw [List.getElem?_append_right (by omega)] at e
      have e2 := List.eq_of_mem_replicate (List.mem_of_getElem? e)
      have hl2 := (List.getElem?_eq_some_iff.mp e).1
      rw [List.length_replicate] at hl2
      refine ⟨none, ?_, by rw [e2]; exact True.intro⟩
      rw [List.getElem?_append_right (by rw [List.length_map]; omega), List.length_map, ← hl, List.getElem?_replicate, if_pos (by omega)]
  · rw [nown i s e] at p
    cases p
  · rw [nown i s e] at p
    cases p
/-- from the slots' word of a body to the reading that its promise asks -/
theorem run_body {t : TS} {N : List Str} {vs : List V} {H : Hp} {Q : VK} {F : List D → D → Prop} (hF : ∀ (B0 H0 : Hp) ds d, F ds d → SS triv B0 H0 t (ds.map Sl.dat ++ List.replicate (N.length - ds.length) .no) (fun _ => d = .non) (fun x => x = d) (fun _ => False) (fun _ => False))
    (E : XK) (h : psp F vs H Q E) : t { nx := fun _ H' => Q .non H', rt := Q } (L2.start N vs) H := by
  obtain ⟨B, ds, d, e, i, f, q⟩ := h
  have a : At triv B H B (ds.map Sl.dat ++ List.replicate (N.length - ds.length) .no) (L2.start N vs) H := by
    rw [i.len]
    refine at_start (Fz.triv e) (by rw [List.length_map, i.len]) fun k s v e1 e2 => ?_
    rw [List.getElem?_map] at e1
    cases q : ds[k]? with
    | none => rw [q] at e1; cases e1
    | some x =>
      rw [q] at e1
      have e3 : Sl.dat x = s := Option.some.inj e1
      obtain ⟨u, hu, iu⟩ := i.at q
      rw [e2] at hu
      rw [← e3, Option.some.inj hu]
      exact ⟨rfl, u, rfl, iu⟩
  exact hF B H ds d f B _ H _ a (fun B' G s H' n a' _ => q .non B' H' a'.go (by rw [n]; exact is_non.mpr rfl)) (fun v x B' H' r g iv => q v B' H' g (r ▸ iv)) (fun _ _ _ _ z _ _ => z.elim) (fun _ _ _ _ z _ _ => z.elim)
end Dl
set_option Elab.async false
set_option linter.all false
set_option maxRecDepth 100000
/-! Dl5: operators of all kinds at once, defs called, defs proved. -/
namespace Dl
open PySem PySem.Spec PyProof.Rows L2 Evl

/-! ### operators of all kinds -/
abbrev rAddS : R2 := fun x y H Q => ∃ i j, x = .str i ∧ y = .str j ∧ i.length + j.length ≤ sizeLine ∧ Q (.str (i ++ j)) H
def rAddU (K : PySem.W.Frag) : R2 := fun x y H Q => rI0 (fun i j => .int (i + j)) x y H Q ∨ (rAddS x y H Q ∨ (rCatA K x y H Q ∨ rCat x y H Q))
def rMulU (K : PySem.W.Frag) : R2 := fun x y H Q => rI CMulW (fun i j => .int (i * j)) x y H Q ∨ (rRepT K x y H Q ∨ rRep x y H Q)
def CDivU (_ j : Int) : Prop := j ≠ 0 ∧ j.natAbs.log2 < 9000
def rFdivU : R2 := rI CDivU fun i j => .int (i.fdiv j)
def rModU : R2 := rI (fun _ j => j ≠ 0) fun i j => .int (i.fmod j)
def CPowU (i j : Int) : Prop := 0 ≤ j ∧ (Builtin.Int.intBits i : Int) * j ≤ 2 ^ 27
def rPowU : R2 := rI CPowU fun i j => .int (i ^ j.toNat)
def rEqU (K : PySem.W.Frag) : R2 := fun x y H Q => rEq x y H Q ∨ rEqD K x y H Q
def rNeU (K : PySem.W.Frag) : R2 := fun x y H Q => rNe x y H Q ∨ rNeD K x y H Q
abbrev rInSt : R2 := fun x y H Q => ∃ i j, x = .str i ∧ y = .str j ∧ Q (.bl (!(Builtin.Str.occurrences j i 0 j.length 1).isEmpty)) H
abbrev rNiSt : R2 := fun x y H Q => ∃ i j, x = .str i ∧ y = .str j ∧ Q (.bl (!(!(Builtin.Str.occurrences j i 0 j.length 1).isEmpty))) H
def rInU (K : PySem.W.Frag) : R2 := fun x y H Q => rInSt x y H Q ∨ (rIn K false x y H Q ∨ rInD K x y H Q)
def rNiU (K : PySem.W.Frag) : R2 := fun x y H Q => rNiSt x y H Q ∨ (rIn K true x y H Q ∨ rNotInD K x y H Q)
section
variable {X : Cx}
theorem op_addU : OpR X (binaryOp .Add) (rAddU X.K) := op_add.or (op_add_str.or (op_catA.or op_cat))
theorem op_mulU : OpR X (binaryOp .Mult) (rMulU X.K) := op_mulW.or (op_repT.or op_rep)
theorem op_fdivU : OpR X (binaryOp .FloorDiv) rFdivU := opI fun _ _ _ _ _ _ _ hc q => floordiv_int hc.1 q (.inl (PyProof.noPylong_of_log2 hc.2))
theorem op_modU : OpR X (binaryOp .Mod) rModU := op_modN
theorem op_powU : OpR X (binaryOp .Pow) rPowU := opI fun _ _ _ _ _ _ _ hc q => pow_int hc.1 hc.2 q
theorem op_eqU (hu : X.A.units + 64 < cLine) : OpR X (compareOp .Eq) (rEqU X.K) := op_eq.or (op_eqD hu)
theorem op_neU (hu : X.A.units + 64 < cLine) : OpR X (compareOp .NotEq) (rNeU X.K) := op_ne.or (op_neD hu)
theorem op_inU (hu : X.A.units + 65 < cLine) : OpR X (compareOp .In) (rInU X.K) := op_in_str.or (op_in_seq.or (op_inD hu))
theorem op_niU (hu : X.A.units + 65 < cLine) : OpR X (compareOp .NotIn) (rNiU X.K) := op_notIn_str.or (op_notIn_seq.or (op_notInD hu))
theorem hu65 {A : Around} {k : Nat} (hr : Room k A) : A.units + 65 < cLine := by
  have h := hr.un
  omega
end
section
variable {R : Reg} {K : PySem.W.Frag} {i j : Int} {a b : Str} {x y d : D} {ds es : List D}
theorem od_add : OpD R (rAddU K) (.int i) (.int j) (.int (i + j)) := OpS.inl od_I0i
theorem od_addS (h : a.length + b.length ≤ 100000) : OpD R (rAddU K) (.str a) (.str b) (.str (a ++ b)) := OpS.inr (OpS.inl (opd_val (fun _ => is_str.mpr rfl) fun B H vx vy _ e1 e2 Q q => ⟨a, b, is_str.mp e1, is_str.mp e2, sz_of h, q⟩))
theorem od_addT (h : ds.length + es.length ≤ 100000) : OpD R (rAddU K) (.tup ds) (.tup es) (.tup (ds ++ es)) := OpS.inr (OpS.inr (OpS.inl fun B H vx vy f i1 i2 Q q => by
  obtain ⟨p, vs, e1, h1, k1⟩ := is_tup.mp i1
  obtain ⟨r, ws, e2, h2, k2⟩ := is_tup.mp i2
  have l1 := k1.len
  have l2 := k2.len
  refine ⟨p, r, vs, ws, e1, e2, SqT.of (f.sub _ _ h1), SqT.of (f.sub _ _ h2), sz_of (by omega), fun e => ?_, fun _ e => ?_, fun _ _ n hn => ?_⟩
  · subst e
    have e : ds = [] := List.eq_nil_of_length_eq_zero (by simpa using l1)
    subst e
    exact q _ _ B H (Go.refl f) rfl (is_tup.mpr ⟨r, ws, rfl, h2, k2⟩)
  · subst e
    have e : es = [] := List.eq_nil_of_length_eq_zero (by simpa using l2)
    subst e
    exact q _ _ B H (Go.refl f) rfl (is_tup.mpr ⟨p, vs, rfl, h1, by rw [List.append_nil]; exact k1⟩)
  · exact q _ _ _ _ (Go.newF f hn) rfl (is_tup.mpr ⟨n, _, rfl, upd_same, (k1.append k2).mono (Ex.new (f.bnone hn))⟩)))
theorem ol_add (h : ds.length + es.length ≤ 100000) : OpL R (rAddU K) (.lst ds) (.lst es) (ds ++ es) := OpL.inr (OpL.inr (OpL.inr fun B H vx vy f i1 i2 Q q => by
  obtain ⟨p, vs, e1, h1, k1⟩ := is_lst.mp i1
  obtain ⟨r, ws, e2, h2, k2⟩ := is_lst.mp i2
  have l1 := k1.len
  have l2 := k2.len
  exact ⟨p, r, vs, ws, e1, e2, f.sub _ _ h1, f.sub _ _ h2, sz_of (by omega), fun n hn => q n _ B _ (Go.own f hn) hn (f.bnone hn) upd_same (k1.append k2)⟩))
theorem IsL.rep {B : Hp} {vs : List V} (h : IsL B ds vs) : ∀ n : Nat, IsL B (List.replicate n ds).flatten (List.replicate n vs).flatten
  | 0 => isl_nil.mpr rfl
  | n + 1 => by
    rw [List.replicate_succ, List.replicate_succ, List.flatten_cons, List.flatten_cons]
    exact h.append (IsL.rep h n)
theorem ol_rep (h1 : -(2 ^ 63) ≤ j) (h2 : j < 2 ^ 63) (h : ds.length * j.toNat ≤ 100000) : OpL R (rMulU K) (.lst ds) (.int j) (List.replicate j.toNat ds).flatten := OpL.inr (OpL.inr fun B H vx vy f i1 i2 Q q => by
  obtain ⟨p, vs, e1, g1, k1⟩ := is_lst.mp i1
  have l1 := k1.len
  exact ⟨p, j, vs, e1, is_int.mp i2, f.sub _ _ g1, h1, h2, sz_of (by rw [← l1]; exact h), fun n hn => q n _ B _ (Go.own f hn) hn (f.bnone hn) upd_same (k1.rep _)⟩)
theorem od_repT (h0 : ds ≠ []) (h1 : 2 ≤ j) (h2 : j ≤ 1000) (h : ds.length ≤ 1000) : OpD R (rMulU K) (.tup ds) (.int j) (.tup (List.replicate j.toNat ds).flatten) := OpS.inr (OpS.inl fun B H vx vy f i1 i2 Q q => by
  obtain ⟨p, vs, e1, g1, k1⟩ := is_tup.mp i1
  have l1 := k1.len
  refine ⟨p, j, vs, e1, is_int.mp i2, SqT.of (f.sub _ _ g1), fun e => h0 (List.eq_nil_of_length_eq_zero (by rw [l1, e]; rfl)), h1, h2, by rw [← l1]; exact h, fun n hn => ?_⟩
  exact q _ _ _ _ (Go.newF f hn) rfl (is_tup.mpr ⟨n, _, rfl, upd_same, (k1.rep _).mono (Ex.new (f.bnone hn))⟩))
theorem od_sub : OpD R (rI0 fun i j => .int (i - j)) (.int i) (.int j) (.int (i - j)) := od_I0i
theorem od_mul (h : CMulW i j) : OpD R (rMulU K) (.int i) (.int j) (.int (i * j)) := OpS.inl (od_I (g := fun i j => i * j) h)
theorem od_fdiv (h : CDivU i j) : OpD R rFdivU (.int i) (.int j) (.int (i.fdiv j)) := od_I (g := fun i j => i.fdiv j) h
theorem od_mod (h : j ≠ 0) : OpD R rModU (.int i) (.int j) (.int (i.fmod j)) := od_I (C := fun _ j => j ≠ 0) (g := fun i j => i.fmod j) h
/-- by positive divisors -/
theorem od_div (h0 : 0 < j) (h : j < 2 ^ 62) : OpD R rFdivU (.int i) (.int j) (.int (i / j)) := by
  have e : i.fdiv j = i / j := Int.fdiv_eq_ediv_of_nonneg i (by omega)
  rw [← e]
  refine od_fdiv ⟨by omega, ?_⟩
  have hl : j.natAbs < 2 ^ 62 := by omega
  have := PySem.Flt.log2_lt_of (by decide) hl
  omega
theorem od_rem (h0 : 0 < j) : OpD R rModU (.int i) (.int j) (.int (i % j)) := by
  have e : i.fmod j = i % j := Int.fmod_eq_emod_of_nonneg i (by omega)
  rw [← e]
  exact od_mod (by omega)
theorem od_pow (h : CPowU i j) : OpD R rPowU (.int i) (.int j) (.int (i ^ j.toNat)) := od_I (C := CPowU) (g := fun i j => i ^ j.toNat) h
theorem od_eqi : OpD R (rEqU K) (.int i) (.int j) (.bl (decide (i = j))) := OpS.inl od_eqI
theorem od_nei : OpD R (rNeU K) (.int i) (.int j) (.bl (!decide (i = j))) := OpS.inl od_neI
theorem od_eqs : OpD R (rEqU K) (.str a) (.str b) (.bl (decide (a = b))) := OpS.inl od_eqS
theorem od_nes : OpD R (rNeU K) (.str a) (.str b) (.bl (!decide (a = b))) := OpS.inl od_neS
theorem od_lt : OpD R (rI0 fun i j => .bl (decide (i < j))) (.int i) (.int j) (.bl (decide (i < j))) := od_I0b
theorem od_le : OpD R (rI0 fun i j => .bl (decide (i ≤ j))) (.int i) (.int j) (.bl (decide (i ≤ j))) := od_I0b
theorem od_gt : OpD R (rI0 fun i j => .bl (decide (j < i))) (.int i) (.int j) (.bl (decide (j < i))) := od_I0b
theorem od_ge : OpD R (rI0 fun i j => .bl (decide (j ≤ i))) (.int i) (.int j) (.bl (decide (j ≤ i))) := od_I0b
theorem cd_gcd : CbD R rGcd [.int i, .int j] (.int ((Nat.gcd i.natAbs j.natAbs : Nat) : Int)) := fun B H vs f k Q q => by
  obtain ⟨v, u, e, i1, i2⟩ := isl2 k
  rw [is_int.mp i1, is_int.mp i2] at e
  refine ⟨i, j, e, ?_⟩
  exact q _ _ B H (Go.refl f) rfl (is_int.mpr rfl)
end

/-! ### defs that let nothing out -/
structure Cal (P : Program) (w : World) (K : PySem.W.Frag) (mg : Str → Option Value) (base : Heap) (x : Str) (k : Nat) (sp : Sp) : Prop where
  ex : ∃ f fd ps, FnOk P w K mg base CX0 k f fd ps sp ∧ mg x = some (.ref f) ∧ PySem.W.keepIn K (.ref f) = true ∧ Binds K fd ps []
section
variable {P : Program} {w : World} {K : PySem.W.Frag} {mg : Str → Option Value} {base : Heap} {X : Cx} {x : Str} {k : Nat} {sp : Sp} {p pos : Pos} {e : Expr} {es : List Expr} {t : TA}
theorem pe_cal (C : Cal X.prog X.w X.K X.mg X.base x k sp) (hr : Room k X.A) (hg : Gl X x) (ha : PA X (e :: es) t) (hdb : (x == ("__debug__" : Str)) = false := by decide)
    (he : starEach (e :: es) X.env = (false, eval e X.env) :: starEach es X.env := by rfl) (hpl : (backTo pos (starEach es X.env)).any (·.1) = false := by rfl) : PE X (.Call (.Name x p) (e :: es) [] pos) (tCall sp [] E0 t) := by
  obtain ⟨f, fd, ps, F, hm, hk, hb⟩ := C.ex
  exact pe_call F hr hg hm hk hb .nil pass0 ha hdb he hpl
theorem cal_mk {st : Stmt} {f : Addr} {N ps : List Str} (F : ∃ fd, FunD K x x (defArgs st) (defBody st) (defScope st) [] [] f fd) (g : mg x = some (.ref f)) (S : FnScope N ps (defScope st))
    (hb : ∀ (kV doc pm : Value) (an : Option Addr) (cdv ct : Value) (us : List Value), us.length = ps.length → bindArgs (PySem.W.fnOf x x (defArgs st) (defBody st) (defScope st) .none kV doc pm an cdv ct) ⟨us, []⟩ = pure (ps.zip us))
    (len : ∀ vs H Q E, sp vs H Q E → vs.length = ps.length)
    (hbody : ∀ (cdv : Value) (A : Around) (outer : List Env) (s : Shared) (H : Hp) (vs : List V) (Q : VK) (E : XK), Room k (A.deeper (envOfC x (defScope st) s.heap.objs.size f cdv)) → sp vs H Q E →
      ∃ t, PSs (cxOf CX0 P w K mg base N x (defScope st) f cdv A outer s H E).nox (defBody st) t ∧ t { nx := fun _ H' => Q .non H', rt := Q } (L2.start N vs) H) : Cal P w K mg base x (k + 1) sp := by
  obtain ⟨fd, F⟩ := F
  refine ⟨f, fd, ps, F.ok S len fun cdv A outer s H vs Q E hr h => ?_, g, F.kp, F.bindsN hb⟩
  obtain ⟨t, h1, h2⟩ := hbody cdv A outer s H vs Q E hr h
  exact ⟨t, PSs.nox h1, h2⟩
/-- a pure def: its body's slots -/
theorem psp_mk {st : Stmt} {f : Addr} {N ps : List Str} {F : List D → D → Prop} (Fd : ∃ fd, FunD K x x (defArgs st) (defBody st) (defScope st) [] [] f fd) (g : mg x = some (.ref f)) (S : FnScope N ps (defScope st))
    (hb : ∀ (kV doc pm : Value) (an : Option Addr) (cdv ct : Value) (us : List Value), us.length = ps.length → bindArgs (PySem.W.fnOf x x (defArgs st) (defBody st) (defScope st) .none kV doc pm an cdv ct) ⟨us, []⟩ = pure (ps.zip us))
    (len : ∀ ds d, F ds d → ds.length = ps.length)
    (hbody : ∀ (cdv : Value) (A : Around) (outer : List Env) (s : Shared) (H : Hp) (E : XK), Room k (A.deeper (envOfC x (defScope st) s.heap.objs.size f cdv)) →
      ∃ t, PSs (cxOf CX0 P w K mg base N x (defScope st) f cdv A outer s H E).nox (defBody st) t ∧
        ∀ (B0 H0 : Hp) ds d, F ds d → SS triv B0 H0 t (ds.map Sl.dat ++ List.replicate (N.length - ds.length) .no) (fun _ => d = .non) (fun x => x = d) (fun _ => False) (fun _ => False)) : Cal P w K mg base x (k + 1) (psp F) := by
  refine cal_mk Fd g S hb (fun vs H Q E h => ?_) fun cdv A outer s H vs Q E hr h => ?_
  · obtain ⟨B, ds, d, _, i, hF, _⟩ := h
    rw [← i.len]
    exact len ds d hF
  · obtain ⟨t, h1, h2⟩ := hbody cdv A outer s H E hr
    exact ⟨t, h1, run_body h2 E h⟩
end
/-- x, y, z = e1, e2, e3 -/
theorem ssd_par3 {R : Reg} {B0 H0 : Hp} {Γ : List Sl} {N : List Sl → Prop} {Rt : D → Prop} {Bk Ct : List Sl → Prop} {i j l : Nat} {ta : TA} {x y z : D} (h : EDA R ta Γ [x, y, z]) (k : N (((Γ.set i (.dat x)).set j (.dat y)).set l (.dat z))) :
    SS R B0 H0 (tPar3 i j l ta) Γ N Rt Bk Ct := fun B σ H E a n r b c => h B0 H0 B H σ a _ fun vs ds B2 H2 g s is_ => by
  subst s
  obtain ⟨v, rs, ev, i1, i2⟩ := isl_cons.mp is_
  obtain ⟨u, w, e2, i3, i4⟩ := isl2 i2
  rw [e2] at ev
  exact ⟨v, u, w, ev, n B2 _ _ H2 k ((((a.step g).putDat i1).putDat i3).putDat i4) g.ext⟩
/-- a module's int constant -/
theorem pe_gint {X : Cx} {x : Str} {i : Int} {pos : Pos} (hg : Gl X x) (hm : ∃ t, X.mg x = some (.int i t)) (hd : (x == ("__debug__" : Str)) = false := by decide) : PE X (.Name x pos) (tC (.int i)) := by
  obtain ⟨t, e⟩ := hm
  exact pe_glob hg e ⟨t, rfl⟩ hd
end Dl
set_option Elab.async false
set_option linter.all false
set_option maxRecDepth 100000
/-! Dl6: comprehensions over typed items, stars, lending an own list. -/
namespace Dl
open PySem PySem.Spec PyProof.Rows L2 Evl
section
variable {R : Reg} {K : PySem.W.Frag} {Γ : List Sl} {te : TE}
/-- [f(x) for x in xs], the items typed -/
theorem edl_mapA {α : Type} {wi : TI} {g : TG} {tt : TT} {vs : List Nat} {xs : List α} (e : α → D) (f : α → D) (hi : WID R wi Γ (xs.map e)) (hx : xs.length ≤ 100000)
    (hs : ∀ x ∈ xs, ∃ ps : List (Nat × D), (∀ j ∈ ps.map (·.1), j ∈ vs) ∧ GS R g (e x) ps ∧ EDB R tt (setsD (wipeG Γ vs) ps) true ∧ ED R te (setsD (wipeG Γ vs) ps) (f x)) : EDL R (tLc wi g tt te vs) Γ (xs.map f) :=
  el_lc hi fun ys ey => by
    subst ey
    refine ⟨fun i zs => zs = (xs.take i).map f, by simp, fun i x zs ex ez => ?_, fun zs e => by rw [e, List.length_map, List.take_length]⟩
    rw [List.getElem?_map] at ex
    cases ea : xs[i]? with
    | none =>
      rw [ea] at ex
      cases ex
    | some y =>
      rw [ea] at ex
      have ex : e y = x := Option.some.inj ex
      subst ex
      obtain ⟨ps, h1, h2, h3, h4⟩ := hs y (List.mem_of_getElem? ea)
      have hi := (List.getElem?_eq_some_iff.mp ea).1
      refine ⟨ps, h1, h2, _, h3, fun _ => ⟨_, h4, ?_, fun d ed => ?_⟩, fun e => by cases e⟩
      · rw [ez, List.length_map, List.length_take]
        omega
      · show zs ++ [d] = (xs.take (i + 1)).map f
        rw [ez, ed, List.take_add_one, ea, List.map_append]
        rfl
/-- one name, no test -/
theorem edl_map1 {α : Type} {wi : TI} {j : Nat} {xs : List α} (e : α → D) (f : α → D) (hi : WID R wi Γ (xs.map e)) (hx : xs.length ≤ 100000)
    (hs : ∀ x ∈ xs, ED R te ((Γ.set j .no).set j (.dat (e x))) (f x)) : EDL R (tLc wi (gName j) tYes te [j]) Γ (xs.map f) :=
  edl_mapA e f hi hx fun x hm => ⟨[(j, e x)], by simp, gs_name, fun B0 H0 B H σ a Q q => q true B H (Go.refl a.fz) rfl, hs x hm⟩
/-- one name, a test -/
theorem edl_filt1 {α : Type} {wi : TI} {j : Nat} {tt : TT} {xs : List α} (e : α → D) (p : α → Bool) (f : α → D) (hi : WID R wi Γ (xs.map e)) (hx : xs.length ≤ 100000)
    (hs : ∀ x ∈ xs, EDB R tt ((Γ.set j .no).set j (.dat (e x))) (p x) ∧ (p x = true → ED R te ((Γ.set j .no).set j (.dat (e x))) (f x))) : EDL R (tLc wi (gName j) tt te [j]) Γ ((xs.filter p).map f) :=
  el_lc hi fun ys ey => by
    subst ey
    refine ⟨fun i zs => zs = ((xs.take i).filter p).map f, by simp, fun i x zs ex ez => ?_, fun zs e => by rw [e, List.length_map, List.take_length]⟩
    rw [List.getElem?_map] at ex
    cases ea : xs[i]? with
    | none =>
      rw [ea] at ex
      cases ex
    | some y =>
      rw [ea] at ex
      have ex : e y = x := Option.some.inj ex
      subst ex
      obtain ⟨h3, h4⟩ := hs y (List.mem_of_getElem? ea)
      have hi := (List.getElem?_eq_some_iff.mp ea).1
      have hf : ((xs.take (i + 1)).filter p).map f = ((xs.take i).filter p).map f ++ (if p y = true then [f y] else []) := by
        rw [List.take_add_one, ea, List.filter_append, List.map_append]
        show _ ++ List.map f (List.filter p [y]) = _
        cases hp : p y <;> simp [hp]
      refine ⟨[(j, e y)], by simp, gs_name, _, h3, fun ep => ⟨_, h4 ep.symm, ?_, fun d ed => ?_⟩, fun ep => ?_⟩
      · rw [ez, List.length_map]
        have h5 := List.length_filter_le p (xs.take i)
        rw [List.length_take] at h5
        omega
      · show zs ++ [d] = ((xs.take (i + 1)).filter p).map f
        rw [hf, if_pos ep.symm, ez, ed]
      · show zs = ((xs.take (i + 1)).filter p).map f
        rw [hf, if_neg (by rw [← ep]; decide), List.append_nil]
        exact ez
theorem eda_star {t : TA} {ds es : List D} {x : D} (hx : x = .lst ds ∨ x = .tup ds) (h : ED R te Γ x) (hr : EDA R t Γ es) : EDA R (StX.tStar K te t) Γ (ds ++ es) := fun B0 H0 B H σ a Q q =>
  h B0 H0 B H σ a _ fun v d B2 H2 g s i => by
    subst s
    have key : ∃ p xs, v = V.ref p ∧ (SqT K H2 p xs ∨ SqL K H2 p xs) ∧ IsL B2 ds xs := by
      rcases hx with rfl | rfl
      · obtain ⟨p, xs, e, h1, h2⟩ := is_lst.mp i
        exact ⟨p, xs, e, .inr (SqL.of (g.fz.sub _ _ h1)), h2⟩
      · obtain ⟨p, xs, e, h1, h2⟩ := is_tup.mp i
        exact ⟨p, xs, e, .inl (SqT.of (g.fz.sub _ _ h1)), h2⟩
    obtain ⟨p, xs, e, h1, h2⟩ := key
    exact ⟨p, xs, e, h1, hr B0 H0 B2 H2 σ (a.step g) _ fun vs es' B3 H3 g3 s3 i3 => q (xs ++ vs) (ds ++ es') B3 H3 (Go.trans a.fz g g3) (by rw [s3]) ((h2.mono g3.ext).append i3)⟩
theorem yields_lst {B2 : Hp} {p : Addr} {vs : List V} {ds : List D} (h1 : B2 p = some (.lst vs)) (h2 : IsL B2 ds vs) : Yields R (Itl K p) B2 ds := fun B3 H3 i e3 f3 => ⟨fun ei => by
  refine ⟨vs, SqL.of (f3.sub _ _ (e3 _ _ h1)), ?_⟩
  rw [ei, h2.len]
  exact Nat.le_refl _, fun x ex => by
  obtain ⟨u, eu, iu⟩ := h2.at ex
  have sq := SqL.of (K := K) (f3.sub _ _ (e3 _ _ h1))
  refine ⟨⟨vs, u, sq, eu⟩, fun v H' ⟨e, y2⟩ => ?_⟩
  subst e
  have z := y2 vs sq
  rw [eu] at z
  rw [← Option.some.inj z]
  exact ⟨B3, Go.refl f3, iu.mono e3⟩⟩
theorem yields_tup {B2 : Hp} {p : Addr} {vs : List V} {ds : List D} (h1 : B2 p = some (.tup vs)) (h2 : IsL B2 ds vs) : Yields R (Itt K p) B2 ds := fun B3 H3 i e3 f3 => ⟨fun ei => by
  refine ⟨vs, SqT.of (f3.sub _ _ (e3 _ _ h1)), ?_⟩
  rw [ei, h2.len]
  exact Nat.le_refl _, fun x ex => by
  obtain ⟨u, eu, iu⟩ := h2.at ex
  have sq := SqT.of (K := K) (f3.sub _ _ (e3 _ _ h1))
  refine ⟨⟨vs, u, sq, eu⟩, fun v H' ⟨e, y2⟩ => ?_⟩
  subst e
  have z := y2 vs sq
  rw [eu] at z
  rw [← Option.some.inj z]
  exact ⟨B3, Go.refl f3, iu.mono e3⟩⟩
/-- a walked list or tuple -/
theorem wid_seq {x : D} {ds : List D} (hx : x = .lst ds ∨ x = .tup ds) (h : ED R te Γ x) : WID R (iSeq K te) Γ ds := fun B0 H0 B H σ a Rr q => h B0 H0 B H σ a _ fun v d B2 H2 g s i => by
  subst s
  rcases hx with rfl | rfl
  · obtain ⟨p, vs, ev, h1, h2⟩ := is_lst.mp i
    exact ⟨p, ev, .inl ⟨⟨vs, SqL.of (g.fz.sub _ _ h1)⟩, q _ ds B2 H2 g rfl (yields_lst h1 h2)⟩⟩
  · obtain ⟨p, vs, ev, h1, h2⟩ := is_tup.mp i
    exact ⟨p, ev, .inr ⟨⟨vs, SqT.of (g.fz.sub _ _ h1)⟩, q _ ds B2 H2 g rfl (yields_tup h1 h2)⟩⟩
end
section
variable {X : Cx} {tg : Expr}
theorem pi_seq {l : Expr} {tl : TE} (hl : PE X l tl) : PI X tg l (iSeq X.K tl) := ⟨fun pins s σ H R I h => thn (hl.run pins s σ H _ I h) fun v s1 ⟨x, H1, I1, r1, a, e, q1⟩ => by
  subst e
  cases r1
  have new : ∀ b ∈ [s1.heap.objs.size], b = s1.heap.objs.size := fun b hb => by simpa using hb
  rcases q1 with ⟨⟨xs, hq⟩, q⟩ | ⟨⟨xs, hq⟩, q⟩
  · obtain ⟨its, rv, p, hz⟩ := I1.list hq
    exact wpAny_pyIter_list p.isList ⟨_, [s1.heap.objs.size], _, _, H1, rfl, I1.kept (t' := s1.toks) (fun b o eb => Heap.get?_push_of_some _ eb), turn_list a _, ⟨_, Heap.get?_push_size _ rfl, rfl, rfl⟩, fun b hb => by rw [new b hb]; exact I1.fpOk (Nat.le_refl _) (I1.hok.fresh (Nat.le_refl _)), q⟩
  · obtain ⟨its, rv, p, hz⟩ := I1.tuple hq
    exact wpAny_pyIter_tuple (show s1.heap.IsTuple a its.toArray from p) ⟨_, [s1.heap.objs.size], _, _, H1, rfl, I1.kept (t' := s1.toks) (fun b o eb => Heap.get?_push_of_some _ eb), turn_tuple a _, ⟨_, Heap.get?_push_size _ rfl, rfl, rfl⟩, fun b hb => by rw [new b hb]; exact I1.fpOk (Nat.le_refl _) (I1.hok.fresh (Nat.le_refl _)), q⟩⟩
/-! ### the rules with the frag named (in a comprehension the context is another) -/
section
variable (K : PySem.W.Frag)
theorem op_addK {X : Cx} (e : X.K = K := by rfl) : OpR X (binaryOp .Add) (rAddU K) := e ▸ op_addU
theorem op_mulK {X : Cx} (e : X.K = K := by rfl) : OpR X (binaryOp .Mult) (rMulU K) := e ▸ op_mulU
theorem op_eqK {X : Cx} (hu : X.A.units + 64 < cLine) (e : X.K = K := by rfl) : OpR X (compareOp .Eq) (rEqU K) := e ▸ op_eqU hu
theorem op_neK {X : Cx} (hu : X.A.units + 64 < cLine) (e : X.K = K := by rfl) : OpR X (compareOp .NotEq) (rNeU K) := e ▸ op_neU hu
theorem op_inK {X : Cx} (hu : X.A.units + 65 < cLine) (e : X.K = K := by rfl) : OpR X (compareOp .In) (rInU K) := e ▸ op_inU hu
theorem op_niK {X : Cx} (hu : X.A.units + 65 < cLine) (e : X.K = K := by rfl) : OpR X (compareOp .NotIn) (rNiU K) := e ▸ op_niU hu
theorem ix_seqK {X : Cx} (e : X.K = K := by rfl) : IxR X (rIx K) := e ▸ ix_seq
theorem sl_allK {X : Cx} (e : X.K = K := by rfl) : SlR X (rSlU K) := e ▸ sl_all
theorem call_lenK {X : Cx} (e : X.K = K := by rfl) : CallR X (.builtin "len") (fun xs H Q => ∃ x n, xs = [x] ∧ LenV K x H n ∧ Q (.int n) H) := e ▸ call_len
theorem call_listK {X : Cx} (e : X.K = K := by rfl) : CallR X (.type "list") (fun xs H Q => ∃ p ys, xs = [.ref p] ∧ (SqL K H p ys ∨ SqT K H p ys) ∧ ∀ l, H l = none → Q (.ref l) (upd H l (.lst ys))) := e ▸ call_list_of
theorem call_tupleK {X : Cx} (e : X.K = K := by rfl) : CallR X (.type "tuple") (fun xs H Q => ∃ p ys, xs = [.ref p] ∧ ((SqL K H p ys ∧ ∀ l, H l = none → Q (.ref l) (upd H l (.tup ys))) ∨ (SqT K H p ys ∧ Q (.ref p) H))) := e ▸ call_tuple_of
theorem call_anyK {X : Cx} (hc : X.calm = true := by rfl) (e : X.K = K := by rfl) : CallR X (.builtin "any") (rAny K) := e ▸ cr_any hc
theorem call_allK {X : Cx} (hc : X.calm = true := by rfl) (e : X.K = K := by rfl) : CallR X (.builtin "all") (rAll K) := e ▸ cr_all hc
theorem pi_seqK {X : Cx} {tg l : Expr} {tl : TE} (hl : PE X l tl) (e : X.K = K := by rfl) : PI X tg l (iSeq K tl) := e ▸ pi_seq hl
theorem pt_truthK {X : Cx} {a : Expr} {ta : TE} (ha : PE X a ta) (he : ∀ whole, isTrue a X.env whole = (do let v ← whole; standAt a.pos; holding [v] (truthy v))) (e : X.K = K := by rfl) : PT X a (fun σ H Q => ta σ H fun x H' => ∃ k, TruV K x H' k ∧ Q k H') := e ▸ pt_truth ha he
theorem pe_fldK {X : Cx} {o : Expr} {f : Str} {pos : Pos} {ta : TE} (he : PE X o ta) (hb : attributeBase o f X.env (eval o X.env) = eval o X.env) (e : X.K = K := by rfl) : PE X (.Attribute o f pos) (tFld K ta f) := e ▸ pe_fld he hb
theorem pa_starK {X : Cx} {x : Expr} {es : List Expr} {p : Pos} {te : TE} {t : TA} (he : PE X x te) (hr : PA X es t) (hs : starEach (.Starred x p :: es) X.env = (true, eval x X.env) :: starEach es X.env := by rfl) (e : X.K = K := by rfl) : PA X (.Starred x p :: es) (StX.tStar K te t) := e ▸ StX.pa_star he hr hs
theorem pg_tupK {X : Cx} {es : List Expr} {k : Nat} {t : TGs} {n : Nat} {pos : Pos} (hc : X.calm = true) (h : PGs X es t) (hn : (assignEach es X.env).length = n := by rfl) (hst : (assignEach es X.env).findIdx? (·.1) = none := by rfl) (e : X.K = K := by rfl) : PG X (.Tuple es k pos) (gTup K n t) := e ▸ pg_tup hc h hn hst
theorem pe_bmK {X : Cx} {T name id : String} {o a : Expr} {es : List Expr} {r : V → List V → Hp → VK → Prop} {to : TE} {t : TA} {apos cpos : Pos} (pa : PlainAttrs T) (slot : Slot T name id) (hty : typeOf (.builtin id) = pure (.type "method_descriptor")) (hm : MtR X id r) (ho : PE X o to) (ha : PA X (a :: es) t)
    (hbase : attributeBase o name X.env (eval o X.env) = eval o X.env := by rfl)
    (hfew : ((backTo cpos (starEach (a :: es) X.env)).all (fun x => !x.1) && (backToKw cpos (keywordEach [] X.env)).all (fun x => x.1.isSome)
      && decide ((a :: es).length + ([] : List Keyword).length + (if ([] : List Keyword).isEmpty then 0 else 1) < 30)) = true := by rfl)
    (hline : (apos.endLine == cpos.line) = true := by rfl) (hs : starEach (a :: es) X.env = (false, eval a X.env) :: starEach es X.env := by rfl) (hplain : (backTo cpos (starEach es X.env)).any (fun x => x.1) = false := by rfl) (e : X.K = K := by rfl) : PE X (.Call (.Attribute o name apos) (a :: es) [] cpos) (tBM K T r to t) := e ▸ pe_bm pa slot hty hm ho ha hbase hfew hline hs hplain
theorem pe_bm0K {X : Cx} {T name id : String} {o : Expr} {r : V → List V → Hp → VK → Prop} {to : TE} {apos cpos : Pos} (pa : PlainAttrs T) (slot : Slot T name id) (hty : typeOf (.builtin id) = pure (.type "method_descriptor")) (hm : MtR X id r) (ho : PE X o to)
    (hbase : attributeBase o name X.env (eval o X.env) = eval o X.env := by rfl) (hline : (apos.endLine == cpos.line) = true := by rfl) (e : X.K = K := by rfl) : PE X (.Call (.Attribute o name apos) [] [] cpos) (tBM0 K T r to) := e ▸ pe_bm0 pa slot hty hm ho hbase hline
theorem pi_zipK {X : Cx} {e0 e2 : Expr} {ta : TA} {p pos tpos : Pos} {elts : List Expr} {kk : Nat} (hg : Gl X "zip") (hm : X.mg "zip" = none) (ha : PA X [e0, e2] ta)
    (hs : starEach [e0, e2] X.env = (false, eval e0 X.env) :: starEach [e2] X.env := by rfl) (hpl : (backTo pos (starEach [e2] X.env)).any (·.1) = false := by rfl) (e : X.K = K := by rfl) :
    PI X (.Tuple elts kk tpos) (.Call (.Name "zip" p) [e0, e2] [] pos) (RZ.iZipA K ta) := e ▸ RZ.pi_zipA hg hm ha hs hpl
theorem pe_joinK {X : Cx} {o x : Expr} {to te : TE} {apos pos : Pos} (ho : PE X o to) (he : PE X x te) (hs : starEach [x] X.env = [(false, eval x X.env)] := by rfl) (hbase : attributeBase o "join" X.env (eval o X.env) = eval o X.env := by rfl) (hline : (apos.endLine == pos.line) = true := by rfl) (e : X.K = K := by rfl) :
    PE X (.Call (.Attribute o "join" apos) [x] [] pos) (tM1 (fun x xs H Q => ∃ a p, ∃ ys : List Str, x = .str a ∧ xs = [.ref p] ∧ (SqL K H p (ys.map V.str) ∨ SqT K H p (ys.map V.str)) ∧
      (ys.map (·.length)).sum + ys.length * a.length ≤ 16777216 ∧ Q (.str (Txt.join a ys)) H) to te) := e ▸ pe_join ho he hs hbase hline
end
end
end Dl
set_option Elab.async false
set_option linter.all false
set_option maxRecDepth 100000
/-! Dl7: isinstance, methods of texts, chains. -/
namespace Dl
open PySem PySem.Spec PyProof.Rows L2 Evl
def tyD : D → Option String
  | .non => some "NoneType"
  | .bl _ => some "bool"
  | .int _ => some "int"
  | .str _ => some "str"
  | .tup _ => some "tuple"
  | .lst _ => some "list"
  | .obj _ _ _ => none
section
variable {R : Reg} {K : PySem.W.Frag} {Γ : List Sl} {te ta : TE} {x y d : D}
theorem tyD_is {B H : Hp} {v : V} {t : String} (e : Ex B H) (i : Is B x v) (h : tyD x = some t) : TyX K H v (.type t) := by
  cases x with
  | non => rw [is_non.mp i, ← Option.some.inj h]; exact .base .non
  | bl b => rw [is_bl.mp i, ← Option.some.inj h]; exact .base (.bl b)
  | int j => rw [is_int.mp i, ← Option.some.inj h]; exact .base (.int j)
  | str z => rw [is_str.mp i, ← Option.some.inj h]; exact .base (.str z)
  | tup ds =>
    obtain ⟨a, vs, ev, h1, _⟩ := is_tup.mp i
    rw [ev, ← Option.some.inj h]
    exact .base (.tup (e _ _ h1))
  | lst ds =>
    obtain ⟨a, vs, ev, h1, _⟩ := is_lst.mp i
    rw [ev, ← Option.some.inj h]
    exact .base (.lst (e _ _ h1))
  | obj C ks ds => cases h
theorem ed_isi {n t : String} {b : Bool} (h : ED R te Γ x) (ht : tyD x = some t) (hb : kitB t n = some b) : ED R (tCB (rIsi K) (tCons te (tCons (tC (.ty n)) tNil))) Γ (.bl b) := fun B0 H0 B H σ a Q q =>
  h B0 H0 B H σ a _ fun v d B2 H2 g s i => by
    subst s
    exact ⟨v, .ty n, .type t, .type n, b, rfl, .ty n, tyD_is g.fz.sub i ht, kit_ty hb, q _ (.bl b) B2 H2 g rfl (is_bl.mpr rfl)⟩
theorem ed_lenL {ds : List D} (h : ED R te Γ (.lst ds)) : ED R (tCB (fun xs H Q => ∃ x n, xs = [x] ∧ LenV K x H n ∧ Q (.int n) H) (tCons te tNil)) Γ (.int (ds.length : Int)) := ed_cb (eda_cons h eda_nil) (cd_len rfl True.intro)
theorem ed_lenT {ds : List D} (h : ED R te Γ (.tup ds)) : ED R (tCB (fun xs H Q => ∃ x n, xs = [x] ∧ LenV K x H n ∧ Q (.int n) H) (tCons te tNil)) Γ (.int (ds.length : Int)) := ed_cb (eda_cons h eda_nil) (cd_len rfl True.intro)
theorem ed_lenS {z : Str} (h : ED R te Γ (.str z)) (hz : z.length ≤ 100000) : ED R (tCB (fun xs H Q => ∃ x n, xs = [x] ∧ LenV K x H n ∧ Q (.int n) H) (tCons te tNil)) Γ (.int (z.length : Int)) := ed_cb (eda_cons h eda_nil) (cd_len rfl hz)
theorem ssd_asgG {B0 H0 : Hp} {N : List Sl → Prop} {Rt : D → Prop} {Bk Ct : List Sl → Prop} {g : TG} {ps : List (Nat × D)} (h : ED R te Γ d) (gs : GS R g d ps) (k : N (setsD Γ ps)) : SS R B0 H0 (tAsg te g) Γ N Rt Bk Ct := ss_asgG h fun x e => ⟨ps, by rw [e]; exact gs, k⟩
theorem call_isK (K : PySem.W.Frag) {X : Cx} (e : X.K = K := by rfl) : CallR X (.builtin "isinstance") (rIsi K) := e ▸ call_isi
/-! ### methods of texts -/
theorem ed_m0 {r : V → List V → Hp → VK → Prop} {a : Str} {v : V} (h : ED R te Γ (.str a)) (hd : ∀ B, Is B d v) (hr : ∀ (H : Hp) (Q : VK), Q v H → r (.str a) [] H Q) : ED R (tM0 r te) Γ d := fun B0 H0 B H σ at_ Q q =>
  h B0 H0 B H σ at_ _ fun u d' B2 H2 g s i => by
    subst s
    rw [is_str.mp i]
    exact ⟨⟨a, rfl⟩, hr _ _ (q _ d B2 H2 g rfl (hd _))⟩
theorem ed_m1 {r : V → List V → Hp → VK → Prop} {a b : Str} {v : V} (h : ED R te Γ (.str a)) (h2 : ED R ta Γ (.str b)) (hd : ∀ B, Is B d v) (hr : ∀ (H : Hp) (Q : VK), Q v H → r (.str a) [.str b] H Q) : ED R (tM1 r te ta) Γ d := fun B0 H0 B H σ at_ Q q =>
  h B0 H0 B H σ at_ _ fun u d' B2 H2 g s i => by
    subst s
    rw [is_str.mp i]
    refine ⟨⟨a, rfl⟩, h2 B0 H0 B2 H2 σ (at_.step g) _ fun u2 d2 B3 H3 g3 s3 i3 => ?_⟩
    subst s3
    rw [is_str.mp i3]
    exact hr _ _ (q _ d B3 H3 (Go.trans at_.fz g g3) rfl (hd _))
theorem ed_startswith {a b : Str} (h : ED R te Γ (.str a)) (h2 : ED R ta Γ (.str b)) : ED R (tM1 (fun x xs H Q => ∃ a b, x = .str a ∧ xs = [.str b] ∧ Q (.bl (Txt.startswith a b)) H) te ta) Γ (.bl (Txt.startswith a b)) :=
  ed_m1 h h2 (fun _ => is_bl.mpr rfl) fun H Q q => ⟨a, b, rfl, rfl, q⟩
theorem ed_isdecimal {a : Str} (h : ED R te Γ (.str a)) : ED R (tM0 (fun x xs H Q => ∃ a, x = .str a ∧ xs = [] ∧ True ∧ Q (.bl (Txt.isdecimal a)) H) te) Γ (.bl (Txt.isdecimal a)) :=
  ed_m0 h (fun _ => is_bl.mpr rfl) fun H Q q => ⟨a, rfl, rfl, True.intro, q⟩
theorem edl_split {a b : Str} (h : ED R te Γ (.str a)) (h2 : ED R ta Γ (.str b)) (hb : (b.length == 0) = false) (ha : a.length ≤ 90000) : EDL R (tM1 (fun x xs H Q => ∃ a b, x = .str a ∧ xs = [.str b] ∧ (b.length == 0) = false ∧ a.length + 2 ≤ sizeLine ∧ rNewStrs (Txt.split a b) H Q) te ta) Γ ((Txt.split a b).map .str) := fun B0 H0 B H σ at_ Q q =>
  h B0 H0 B H σ at_ _ fun u d' B2 H2 g s i => by
    subst s
    rw [is_str.mp i]
    refine ⟨⟨a, rfl⟩, h2 B0 H0 B2 H2 σ (at_.step g) _ fun u2 d2 B3 H3 g3 s3 i3 => ?_⟩
    subst s3
    rw [is_str.mp i3]
    have g13 := Go.trans at_.fz g g3
    refine ⟨a, b, rfl, rfl, hb, ?_, fun p hp => ?_⟩
    · exact sz_of (by omega)
    · exact q p _ _ B3 _ (Go.trans at_.fz g13 (Go.own g3.fz hp)) (none_back at_.fz g13 hp) (g3.fz.bnone hp) upd_same rfl (IsL.strs.mpr rfl)
theorem ed_join {a : Str} {ys : List Str} {xs : D} (h : ED R te Γ (.str a)) (h2 : ED R ta Γ xs) (hx : xs = .lst (ys.map .str) ∨ xs = .tup (ys.map .str)) (hl : (ys.map (·.length)).sum + ys.length * a.length ≤ 16777216) :
    ED R (tM1 (fun x xs H Q => ∃ a p, ∃ ys : List Str, x = .str a ∧ xs = [.ref p] ∧ (SqL K H p (ys.map V.str) ∨ SqT K H p (ys.map V.str)) ∧ (ys.map (·.length)).sum + ys.length * a.length ≤ 16777216 ∧ Q (.str (Txt.join a ys)) H) te ta) Γ (.str (Txt.join a ys)) := fun B0 H0 B H σ at_ Q q =>
  h B0 H0 B H σ at_ _ fun u d' B2 H2 g s i => by
    subst s
    rw [is_str.mp i]
    refine ⟨⟨a, rfl⟩, h2 B0 H0 B2 H2 σ (at_.step g) _ fun u2 d2 B3 H3 g3 s3 i3 => ?_⟩
    subst s3
    have key : ∃ p, u2 = V.ref p ∧ (SqL K H3 p (ys.map V.str) ∨ SqT K H3 p (ys.map V.str)) := by
      rcases hx with rfl | rfl
      · obtain ⟨p, vs, e, h1, h2⟩ := is_lst.mp i3
        rw [IsL.strs.mp h2] at h1
        exact ⟨p, e, .inl (SqL.of (g3.fz.sub _ _ h1))⟩
      · obtain ⟨p, vs, e, h1, h2⟩ := is_tup.mp i3
        rw [IsL.strs.mp h2] at h1
        exact ⟨p, e, .inr (SqT.of (g3.fz.sub _ _ h1))⟩
    obtain ⟨p, e, hq⟩ := key
    rw [e]
    exact ⟨a, p, ys, rfl, rfl, hq, hl, q _ (.str (Txt.join a ys)) B3 H3 (Go.trans at_.fz g g3) rfl (is_str.mpr rfl)⟩
theorem cd_intText {a : Str} {n : Int} (h : PySem.intText? a = some n) (ha : a.length ≤ 640) : CbD R (fun xs H Q => ∃ a n, xs = [.str a] ∧ PySem.intText? a = some n ∧ a.length ≤ 640 ∧ Q (.int n) H) [.str a] (.int n) := fun B H vs f i Q q => by
  obtain ⟨v, e, j⟩ := isl1 i
  rw [e, is_str.mp j]
  exact ⟨a, n, rfl, h, ha, q _ (.int n) B H (Go.refl f) rfl (is_int.mpr rfl)⟩
theorem cd_strInt {i : Int} (h : i.natAbs.log2 < 1920) : CbD R (fun xs H Q => ∃ i, xs = [.int i] ∧ i.natAbs.log2 < 1920 ∧ Q (.str (toString i)) H) [.int i] (.str (toString i)) := fun B H vs f j Q q => by
  obtain ⟨v, e, k⟩ := isl1 j
  rw [e, is_int.mp k]
  exact ⟨i, rfl, h, q _ (.str _) B H (Go.refl f) rfl (is_str.mpr rfl)⟩
/-! ### a < b < c -/
theorem ed_chain {r r' : R2} {tb tc : TE} {z : D} {b c : Bool} (ha : ED R ta Γ x) (hb : ED R tb Γ y) (ho : OpD R r x y (.bl b)) (hc : b = true → ED R tc Γ z) (ho2 : b = true → OpD R r' y z (.bl c)) : ED R (tChain r r' ta tb tc) Γ (.bl (b && c)) := fun B0 H0 B H σ a Q q =>
  ha B0 H0 B H σ a _ fun v1 d1 B1 H1 g1 s1 i1 => hb B0 H0 B1 H1 σ (a.step g1) _ fun v2 d2 B2 H2 g2 s2 i2 => by
    subst s1 s2
    refine ho B2 H2 v1 v2 g2.fz (i1.mono g2.ext) i2 _ fun v3 d3 B3 H3 g3 s3 i3 => ?_
    subst s3
    have g12 := Go.trans a.fz g1 g2
    have g13 := Go.trans a.fz g12 g3
    refine ⟨b, is_bl.mp i3, ?_⟩
    cases b with
    | true =>
      rw [if_pos rfl]
      refine hc rfl B0 H0 B3 H3 σ (a.step g13) _ fun v4 d4 B4 H4 g4 s4 i4 => ?_
      subst s4
      exact ho2 rfl B4 H4 v2 v4 g4.fz ((i2.mono g3.ext).mono g4.ext) i4 _ fun v5 d5 B5 H5 g5 s5 i5 => q v5 d5 B5 H5 (Go.trans a.fz (Go.trans a.fz g13 g4) g5) (by rw [s5, Bool.true_and]) i5
    | false =>
      rw [if_neg (by decide)]
      exact q _ (.bl false) B3 H3 g13 (by rw [Bool.false_and]) (is_bl.mpr rfl)
end
end Dl
set_option Elab.async false
set_option linter.all false
set_option maxRecDepth 100000
set_option maxHeartbeats 1000000
/-! Dl8: enumerate(xs, start=k). -/
namespace Dl
open PySem PySem.Spec PyProof.Rows L2 Evl
/-- the list at a, each item behind its count from k -/
def ItN (K : PySem.W.Frag) (k : Int) (a : Addr) : It where
  go := fun i H => ∃ (xs : List V) (x : V), SqL K H a xs ∧ xs[i]? = some x
  yld := fun i H v H' => ∃ T x, v = .ref T ∧ H T = none ∧ H' = upd H T (.tup [.int (k + (i : Nat)), x]) ∧ ∀ xs, SqL K H a xs → xs[i]? = some x
  stop := fun i H => ∃ xs : List V, SqL K H a xs ∧ xs.length ≤ i
theorem enum_end {prog : Program} {w : World} {A : Around} {E : Value → Shared → Prop} {s : Shared} {e it l : Addr} {c : Int} {i : Nat} {items : Array Value} {old : Value} {Q : Option Value → Shared → Prop} (hh : A.handled = none)
    (he : IsEnum s.heap e it c old) (hit : s.heap.IsListIter it l i) (hl : s.heap.IsList l items) (hx : items[i]? = none) (hQ : ∀ h', Heap.ExtBut it s.heap h' → Q none { s with heap := h' }) : wpAny (model prog w) A (pyNext (.ref e)) Q E s := by
  have D : Draws prog w A.in1 it [it, l] i (fun _ _ => True) (fun j h => j = i ∧ h.IsListIter it l i ∧ h.IsList l items) :=
    { live := fun _ _ st => by
        obtain ⟨o, ho, _⟩ := st.2.1
        exact ⟨o, ho⟩
      frame := fun j h h' st hk => ⟨st.1, st.2.1.at fun o e => hk it (by simp) o e, st.2.2.at fun o e => hk l (by simp) o e⟩
      item := fun j s Q E hj st hQ => by
        have := st.1
        omega
      done := fun s Q E st hE => wpAny_nextOf_list_end (A := A.in1) hh st.2.1 st.2.2 hx hE }
  exact wpAny_pyNext_enum_endD D he ⟨rfl, hit, hl⟩ hQ
theorem turn_enumN {P : Program} {w : World} {K : PySem.W.Frag} {elts : List Expr} {kk : Nat} {tpos : Pos} (k : Int) (a e it : Addr) :
    Turn P w K (.Tuple elts kk tpos) (ItN K k a) [e, it] e (fun i h => (∃ old, IsEnum h e it (k + ((i : Nat) : Int)) old) ∧ h.IsListIter it a i ∧ e ≠ it) where
  mem := List.mem_cons_self
  obj := fun i h ⟨⟨old, he⟩, ⟨o, ho, _, hd⟩, _⟩ b hb => by
    rcases List.mem_cons.mp hb with rfl | hb
    · exact ⟨_, he, fun v q => nomatch q⟩
    · rw [List.mem_singleton.mp hb]
      exact ⟨o, ho, fun v q => by rw [hd] at q; cases q⟩
  keep := fun i h h' ⟨⟨old, he⟩, hi, hne⟩ kp => ⟨⟨old, kp e (by simp) _ he⟩, hi.at fun o q => kp it (by simp) o q, hne⟩
  item := by
    intro X hP hw hK hc i pins s σ H E I hf st hg
    subst hP hw hK
    obtain ⟨⟨old, he⟩, hit, hne⟩ := st
    obtain ⟨xs, x, hq, hx⟩ := hg
    obtain ⟨its, rv, p, hz⟩ := I.list hq
    obtain ⟨u, hu, ru⟩ := rv.get hx
    have lt : ∀ b ∈ [e, it], b < s.heap.objs.size := fun b hb => by
      rcases List.mem_cons.mp hb with rfl | hb
      · exact Heap.lt_size he
      · rw [List.mem_singleton.mp hb]
        obtain ⟨_, q, _⟩ := hit
        exact Heap.lt_size q
    have hla : s.heap.IsList a its.toArray := p.isList
    have nai : a ≠ it := fun z => by
      obtain ⟨o, ho, hc1, _⟩ := hit
      obtain ⟨o2, ho2, hc2, _⟩ := hla
      rw [z, ho] at ho2
      cases ho2
      rw [hc1] at hc2
      injection hc2 with q
      exact absurd q (by decide)
    have nea : e ≠ a := fun z => by
      obtain ⟨o2, ho2, hc2, _⟩ := hla
      rw [← z] at ho2
      rw [show s.heap.get? e = _ from he] at ho2
      cases ho2
      injection hc2 with q
      exact absurd q (by decide)
    have hi : i < its.toArray.size := by
      have := (List.getElem?_eq_some_iff.mp hu).1
      simpa using this
    refine wpAny_pyNext_enum_itemC (Draws.list (A := X.A.in1) (I.ok.hd hc) it a nai its.toArray) he ⟨hit, hla⟩ hi hne (by simp [hne, nea]) fun u2 h1 tk hP ho hit1 hT hsz hk => ⟨_, rfl, wpAny_letOwnedTupleGo_enum (s := { s with heap := h1, toks := tk + 1 }) ho fun h2 he2 sb => ?_⟩
    have eu : u2 = u := by
      have hP2 : its.toArray[i]? = some u2 := hP
      have hu2 : its.toArray[i]? = some u := by simpa using hu
      rw [hP2] at hu2
      exact Option.some.inj hu2
    subst eu
    have hT2 := (sb.2 _ (Nat.ne_of_gt (lt e (by simp)))).trans hT
    have I1 : Inv X pins σ (upd H s.heap.objs.size (.tup [.int (k + (i : Nat)), x])) { s with heap := h2, toks := tk + 1 } :=
      I.turnedNew (ch := [e, it]) (fun b ob hb q => (sb.2 b fun z => hb (by simp [z])).trans (hk b ob (fun z => hb (by simp [z])) (fun z => hb (by simp [z])) q)) hf (Nat.le_refl _) ⟨by show 2 ≤ sizeLine; decide, [.int (k + (i : Nat)) tk, u2], .cons ⟨_, rfl⟩ (.cons ru .nil), ⟨_, hT2, rfl, _, rfl⟩⟩
    refine ⟨.ref s.heap.objs.size, _, I1, rfl, ⟨_, x, rfl, I.hok.fresh (Nat.le_refl _), rfl, fun ys hy => by rw [I.list_inj hy hq]; exact hx⟩, ⟨⟨u2, ?_⟩, hit1.1.at fun o q => (sb.2 it (Ne.symm hne)).trans q, hne⟩, fun b hb => ?_⟩
    · rw [show k + ((i + 1 : Nat) : Int) = k + (i : Int) + 1 by omega]
      exact he2
    · rw [upd_ne (Nat.ne_of_lt (lt b hb))]
      exact (hf b hb).1
  done := by
    intro X hP hw hK hc i pins s σ H E I hf st hg
    subst hP hw hK
    obtain ⟨⟨old, he⟩, hit, hne⟩ := st
    obtain ⟨xs, hq, hx⟩ := hg
    obtain ⟨its, rv, p, hz⟩ := I.list hq
    obtain ⟨f0, f1, f2, f3, f4, f5⟩ := hf it (by simp)
    have hl := rv.length
    exact enum_end (I.ok.hd hc) he hit p.isList (by simp; omega) fun h1 eb => ⟨rfl, I.turned (t' := s.toks) (fun b o hb q => eb b o hb q) f0 f1 f3 f4 f5⟩
  self := fun A i s Q E ⟨⟨_, he⟩, _⟩ h => wpAny_pyIter_enum he h
def iEnumN (K : PySem.W.Frag) (ta : TA) (tk : TE) : TI := fun σ H R => ta σ H fun vs H1 => ∃ a, vs = [.ref a] ∧ tk σ H1 fun y H2 => ∃ k xs, y = .int k ∧ -(2 ^ 62) ≤ k ∧ k < 2 ^ 62 ∧ SqL K H2 a xs ∧ R (ItN K k a) H2
theorem callTy_kw {M : Model} {A : Around} {E : Value → Shared → Prop} {s : Shared} {pos : Pos} {T : String} {first : List Value} {args : List (Bool × Sem Value)} {kws : List (Option Str × Sem Value)} {Q : Value → Shared → Prop}
    (hp : args.any (·.1) = false) (hk : kws.any (·.1.isNone) = false) (h : wpAny M A (evalArgs (.type T) true args kws) (fun a s₁ => wpAny M A (call (.type T) (first ++ a.pos) a.kw) Q E s₁) E s) : wpAny M A (callWith pos (.type T) first args kws) Q E s := by
  unfold callWith
  refine wpAny_bind (wpAny_holding (wpAny_mono h (fun a s₁ h1 => wpAny_bind (wpAny_standAt ?_)) fun _ _ x => x))
  simp only [hp, hk, Bool.or_false]
  exact wpAny_bind (wpAny_pure (wpAny_bind (wpAny_mono h1 (fun r s₂ hr => wpAny_bind (wpAny_holding (wpAny_point (wpAny_pure hr)))) fun _ _ x => x)))
/-- for .. in enumerate(e, start=e2) -/
theorem pi_enumN (K : PySem.W.Frag) {X : Cx} {e e2 : Expr} {ta : TA} {tk : TE} {p pos kp tpos : Pos} {elts : List Expr} {kk : Nat} (hg : Gl X "enumerate") (hm : X.mg "enumerate" = none) (ha : PA X [e] ta) (h2 : PE X e2 tk) (hs : starEach [e] X.env = [(false, eval e X.env)] := by rfl) (eK : X.K = K := by rfl) :
    PI X (.Tuple elts kk tpos) (.Call (.Name "enumerate" p) [e] [⟨some "start", e2, kp⟩] pos) (iEnumN K ta tk) := ⟨fun pins s σ H R I h => by
  subst eK
  refine wpAny_Call_Name_kw (ld_blt I hg hm boot_enumerate ?_ (by decide))
  refine callTy_kw (by rw [hs]; rfl) rfl ?_
  rw [hs]
  refine evalArgs_kwB rfl ?_
  have z := ha.run pos pins s σ H _ I h
  rw [hs] at z
  refine thn z fun us s1 ⟨vs, H1, I1, r1, a, ea, q1⟩ => ?_
  subst ea
  cases r1 with
  | cons r rr =>
    cases rr
    cases r
    refine kws_cons (thn (h2.run pins s1 σ H1 _ I1 q1) fun u s2 ⟨y, H2, I2, ry, k, xs, ey, k1, k2, hq, q⟩ => kws_nil ?_)
    subst ey
    obtain ⟨t, rfl⟩ := (show ∃ t, u = Value.int k t from ry)
    obtain ⟨its, rv, p', hz⟩ := I2.list hq
    refine enum_begins_start (begins_list a its.toArray) p'.isList (by omega) (by omega) fun h' he hit hsz hk => wpAny_pyIter_enum he ?_
    have I3 : Inv X pins σ H2 { s2 with heap := h' } := I2.kept (t' := s2.toks) hk
    have hit2 : h'.IsListIter s2.heap.objs.size a 0 := ⟨_, hit, rfl, rfl⟩
    refine ⟨s2.heap.objs.size + 1, [s2.heap.objs.size + 1, s2.heap.objs.size], _, _, H2, rfl, I3, turn_enumN k a (s2.heap.objs.size + 1) s2.heap.objs.size, ⟨⟨.none, by rw [show k + ((0 : Nat) : Int) = k by omega]; exact he⟩, hit2, Nat.succ_ne_self _⟩, fun b hb => ?_, q⟩
    have hle : s2.heap.objs.size ≤ b := by
      rcases List.mem_cons.mp hb with rfl | hb
      · exact Nat.le_add_right _ _
      · rw [List.mem_singleton.mp hb]
        exact Nat.le_refl _
    exact I2.fpOk hle (I2.hok.fresh hle)⟩
def enumD (k : Int) (ds : List D) : List D := ds.mapIdx fun i d => .tup [.int (k + (i : Nat)), d]
section
variable {R : Reg} {K : PySem.W.Frag} {Γ : List Sl} {te : TE} {ta : TA} {a b : Str} {zs : List Str}
theorem wid_enumN {ds : List D} {k : Int} {tk : TE} (h : EDA R ta Γ [.lst ds]) (h2 : ED R tk Γ (.int k)) (k1 : -(2 ^ 62) ≤ k) (k2 : k < 2 ^ 62) : WID R (iEnumN K ta tk) Γ (enumD k ds) := fun B0 H0 B H σ a Rr q => h B0 H0 B H σ a _ fun vs ds' B2 H2 g s i => by
  subst s
  obtain ⟨v, ev, iv⟩ := isl1 i
  obtain ⟨p, ws, ev2, h1, hw⟩ := is_lst.mp iv
  rw [ev2] at ev
  refine ⟨p, ev, h2 B0 H0 B2 H2 σ (a.step g) _ fun y d B3 H3 g3 s3 i3 => ?_⟩
  subst s3
  have hb := g3.ext _ _ h1
  refine ⟨k, ws, is_int.mp i3, k1, k2, SqL.of (g3.fz.sub _ _ hb), q _ _ B3 H3 (Go.trans a.fz g g3) rfl fun B4 H4 j e4 f4 => ⟨fun ej => ?_, fun x ex => ?_⟩⟩
  · refine ⟨ws, SqL.of (f4.sub _ _ (e4 _ _ hb)), ?_⟩
    rw [ej, ← hw.len]
    exact Nat.le_of_eq (List.length_mapIdx ..).symm
  · have ex2 := ex
    unfold enumD at ex2
    rw [List.getElem?_mapIdx] at ex2
    cases ed : ds[j]? with
    | none =>
      rw [ed] at ex2
      cases ex2
    | some d0 =>
      rw [ed] at ex2
      have ex2 : D.tup [.int (k + (j : Nat)), d0] = x := Option.some.inj ex2
      subst ex2
      obtain ⟨u, eu, iu⟩ := hw.at ed
      have sq := SqL.of (K := K) (f4.sub _ _ (e4 _ _ hb))
      refine ⟨⟨ws, u, sq, eu⟩, fun w2 H' ⟨T, y, ew, hT, eH, hy⟩ => ?_⟩
      subst ew eH
      have z := hy ws sq
      rw [eu] at z
      rw [← Option.some.inj z]
      exact ⟨upd B4 T (.tup [.int (k + (j : Nat)), u]), Go.newF f4 hT, is_tup.mpr ⟨T, _, rfl, upd_same, isl_mk (is_int.mpr rfl) (IsL.one (iu.mono ((g3.ext.trans e4).trans (Ex.new (f4.bnone hT)))))⟩⟩
/-! ### in -/
theorem od_inS : OpD R (rInU K) (.str a) (.str b) (.bl (!(Builtin.Str.occurrences b a 0 b.length 1).isEmpty)) := OpS.inl (opd_val (fun _ => is_bl.mpr rfl) fun B H vx vy _ e1 e2 Q q => ⟨a, b, is_str.mp e1, is_str.mp e2, q⟩)
theorem flat_strs : ∀ zs : List Str, (zs.map V.str).all flatV = true
  | [] => rfl
  | _ :: r => by
    rw [List.map_cons, List.all_cons, flat_strs r]
    rfl
theorem od_inSL : OpD R (rInU K) (.str a) (.lst (zs.map .str)) (.bl (inV (.str a) (zs.map .str))) := OpS.inr (OpS.inl fun B H vx vy f i1 i2 Q q => by
  obtain ⟨p, vs, e, h1, h2⟩ := is_lst.mp i2
  rw [IsL.strs.mp h2] at h1
  rw [is_str.mp i1, e]
  exact ⟨p, _, rfl, .inl (SqL.of (f.sub _ _ h1)), rfl, flat_strs zs, q _ (.bl _) B H (Go.refl f) rfl (is_bl.mpr rfl)⟩)
/-- not in a tuple that the module holds -/
theorem ed_niK {C : Addr} (h : ED R te Γ (.str a)) (hC : ∀ H, SqT K H C (zs.map .str)) : ED R (tOp (rNiU K) te (tC (.ref C))) Γ (.bl (!inV (.str a) (zs.map .str))) := fun B0 H0 B H σ at_ Q q =>
  h B0 H0 B H σ at_ _ fun v d B2 H2 g s i => by
    subst s
    rw [is_str.mp i]
    exact .inr (.inl ⟨C, _, rfl, .inr (hC H2), rfl, flat_strs zs, q _ (.bl _) B2 H2 g rfl (is_bl.mpr rfl)⟩)
end
theorem vals_abs : ∀ {xs : List V} {us : List Value}, us.map absV = xs.map some → (∀ x ∈ xs, ∃ z, x = V.str z) → Vals xs us
  | [], [], _, _ => .nil
  | [], u :: us, h, _ => by cases h
  | x :: xs, [], h, _ => by cases h
  | x :: xs, u :: us, h, hs => by
    rw [List.map_cons, List.map_cons] at h
    injection h with h1 h2
    obtain ⟨z, rfl⟩ := hs x List.mem_cons_self
    refine .cons ?_ (vals_abs h2 fun y hy => hs y (List.mem_cons_of_mem _ hy))
    cases u <;> first | cases h1 | skip
    exact ⟨_, rfl⟩
end Dl
set_option Elab.async false
set_option linter.all false
set_option maxRecDepth 100000
/-! Dl9: several values at once, some of them new lists; pops among them; lending. -/
namespace Dl
open PySem PySem.Spec PyProof.Rows L2 Evl
/-- the slots given in their order -/
def setsS (Γ : List Sl) : List Nat → List Sl → List Sl
  | i :: is, s :: ss => setsS (Γ.set i s) is ss
  | _, _ => Γ
/-- arguments: what they give to slots. Γ is read, Γ' is written -/
def EM (R : Reg) (ta : TA) (Γ : List Sl) (is : List Nat) (ss : List Sl) : Prop := ∀ (B0 H0 B H : Hp) (σ : L2.St) (Γ' : List Sl) (σ' : L2.St), At R B0 H0 B Γ σ H → At R B0 H0 B Γ' σ' H → ∀ Q : List V → Hp → Prop,
  (∀ vs B2 H2, Go R B H B2 H2 → vs.length = is.length → At R B0 H0 B2 (setsS Γ' is ss) (setsV σ' is vs) H2 → Q vs H2) → ta σ H Q
section
variable {R : Reg} {K : PySem.W.Frag} {Γ : List Sl} {te tf : TE} {ta tr : TA} {is : List Nat} {ss : List Sl} {i j l : Nat} {d x : D} {ds : List D} {B0 H0 : Hp} {N : List Sl → Prop} {Rt : D → Prop} {Bk Ct : List Sl → Prop} {tt : TT}
theorem em_nil : EM R tNil Γ [] [] := fun B0 H0 B H σ Γ' σ' a a' Q q => q [] B H (Go.refl a.fz) rfl a'
theorem em_dat (h : ED R te Γ d) (hr : EM R tr Γ is ss) : EM R (tCons te tr) Γ (i :: is) (.dat d :: ss) := fun B0 H0 B H σ Γ' σ' a a' Q q => h B0 H0 B H σ a _ fun v e B2 H2 g s iv => by
  subst s
  exact hr B0 H0 B2 H2 σ _ _ (a.step g) ((a'.step g).putDat (i := i) iv) _ fun vs B3 H3 g3 hl a3 => q (v :: vs) B3 H3 (Go.trans a.fz g g3) (by rw [List.length_cons, List.length_cons, hl]) a3
theorem em_own (h : EDL R te Γ ds) (hr : EM R tr Γ is ss) : EM R (tCons te tr) Γ (i :: is) (.own ds :: ss) := fun B0 H0 B H σ Γ' σ' a a' Q q => h B0 H0 B H σ a _ fun p vs es B2 H2 g hp nb ho s iv => by
  subst s
  exact hr B0 H0 B2 H2 σ _ _ (a.step g) (a'.putNew (i := i) g hp nb ho iv) _ fun vs B3 H3 g3 hl a3 => q (.ref p :: vs) B3 H3 (Go.trans a.fz g g3) (by rw [List.length_cons, List.length_cons, hl]) a3
theorem ss_parM {s1 s2 : Sl} (h : EM R ta Γ [i, j] [s1, s2]) (k : N ((Γ.set i s1).set j s2)) : SS R B0 H0 (tPar i j ta) Γ N Rt Bk Ct := fun B σ H E a n r b c => h B0 H0 B H σ Γ σ a a _ fun vs B2 H2 g hl a2 => by
  match vs, hl with
  | [v, w], _ => exact ⟨v, w, rfl, n B2 _ _ H2 k a2 g.ext⟩
theorem ss_par3M {s1 s2 s3 : Sl} (h : EM R ta Γ [i, j, l] [s1, s2, s3]) (k : N (((Γ.set i s1).set j s2).set l s3)) : SS R B0 H0 (tPar3 i j l ta) Γ N Rt Bk Ct := fun B σ H E a n r b c => h B0 H0 B H σ Γ σ a a _ fun vs B2 H2 g hl a2 => by
  match vs, hl with
  | [v, w, u], _ => exact ⟨v, w, u, rfl, n B2 _ _ H2 k a2 g.ext⟩
theorem ss_tup4M {m : Nat} {n4 : Nat} {s1 s2 s3 s4 : Sl} (h : EM R ta Γ [i, j, l, m] [s1, s2, s3, s4]) (hn : n4 = 4) (k : N ((((Γ.set i s1).set j s2).set l s3).set m s4)) : SS R B0 H0 (tAsg (tTup ta) (gTup K n4 (gCons (gName i) (gCons (gName j) (gCons (gName l) (gCons (gName m) gNil)))))) Γ N Rt Bk Ct := fun B σ H E a n r b c => h B0 H0 B H σ Γ σ a a _ fun vs B2 H2 g hl a2 => by
  match vs, hl with
  | [v, w, u, z], _ =>
    refine ⟨sz_of (by simp), fun p hp => ⟨p, [v, w, u, z], rfl, SqT.of upd_same, by rw [hn]; rfl, v, _, rfl, w, _, rfl, u, _, rfl, z, _, rfl, rfl, ?_⟩⟩
    have g2 : Go R B2 H2 B2 (upd H2 p (.tup [v, w, u, z])) := Go.own a2.fz hp
    exact n B2 _ _ _ k (a2.step g2) g.ext
/-! ### pops among pure values -/
theorem ex_ifT {S : D → List Sl → Prop} (h : EDB R tt Γ true) (k : EX R te Γ S) : EX R (tIf tt te tf) Γ S := fun B0 H0 B H σ a Q q => h B0 H0 B H σ a _ fun bb B2 H2 g s => by
  subst s
  show if true = true then _ else _
  rw [if_pos rfl]
  exact k B0 H0 B2 H2 σ (a.step g) Q fun v d B3 H3 Γ' a3 e s i => q v d B3 H3 Γ' a3 (g.ext.trans e) s i
theorem ex_ifF {S : D → List Sl → Prop} (h : EDB R tt Γ false) (k : EX R tf Γ S) : EX R (tIf tt te tf) Γ S := fun B0 H0 B H σ a Q q => h B0 H0 B H σ a _ fun bb B2 H2 g s => by
  subst s
  show if false = true then _ else _
  rw [if_neg (by decide)]
  exact k B0 H0 B2 H2 σ (a.step g) Q fun v d B3 H3 Γ' a3 e s i => q v d B3 H3 Γ' a3 (g.ext.trans e) s i
/-- i, j = e, xs.pop() -/
theorem ss_parX {S : D → List Sl → Prop} (h : ED R te Γ d) (h2 : EX R tf Γ S) (k : ∀ y G, S y G → N ((G.set i (.dat d)).set j (.dat y))) : SS R B0 H0 (tPar i j (tCons te (tCons tf tNil))) Γ N Rt Bk Ct := fun B σ H E a n r b c => h B0 H0 B H σ a _ fun v d2 B2 H2 g s iv => by
  subst s
  exact h2 B0 H0 B2 H2 σ (a.step g) _ fun w y B3 H3 G a3 e s3 i3 => ⟨v, w, rfl, n B3 _ _ H3 (k y G s3) ((a3.putDat (i := i) (iv.mono e)).putDat i3) (g.ext.trans e)⟩
end
/-! ### deep equality -/
mutual
def pd : D → PyData
  | .non => .none
  | .bl b => .bool b
  | .int i => .int i
  | .str z => .str z
  | .tup ds => .tuple (pdL ds)
  | .lst ds => .list (pdL ds)
  | .obj _ _ _ => .none
def pdL : List D → List PyData
  | [] => []
  | d :: ds => pd d :: pdL ds
end
mutual
def noObj : D → Bool
  | .non => true
  | .bl _ => true
  | .int _ => true
  | .str _ => true
  | .tup ds => noObjL ds
  | .lst ds => noObjL ds
  | .obj _ _ _ => false
def noObjL : List D → Bool
  | [] => true
  | d :: ds => noObj d && noObjL ds
end
mutual
theorem dp_of {K : PySem.W.Frag} {B H : Hp} (e : Ex B H) : ∀ (d : D) {v : V}, noObj d = true → Is B d v → Dp K H v (pd d)
  | .non, v, _, i => by rw [is_non.mp i]; exact .non
  | .bl b, v, _, i => by rw [is_bl.mp i]; exact .bl b
  | .int j, v, _, i => by rw [is_int.mp i]; exact .int j
  | .str z, v, _, i => by rw [is_str.mp i]; exact .str z
  | .tup ds, v, n, i => by
    obtain ⟨a, vs, ev, h1, h2⟩ := is_tup.mp i
    rw [ev]
    unfold noObj at n
    exact .tup (SqT.of (e _ _ h1)) (dp_ofL e ds n h2)
  | .lst ds, v, n, i => by
    obtain ⟨a, vs, ev, h1, h2⟩ := is_lst.mp i
    rw [ev]
    unfold noObj at n
    exact .lst (SqL.of (e _ _ h1)) (dp_ofL e ds n h2)
  | .obj _ _ _, v, n, i => by unfold noObj at n; cases n
theorem dp_ofL {K : PySem.W.Frag} {B H : Hp} (e : Ex B H) : ∀ (ds : List D) {vs : List V}, noObjL ds = true → IsL B ds vs → DpAll K H vs (pdL ds)
  | [], vs, _, i => by rw [isl_nil.mp i]; exact .nil
  | d :: ds, vs, n, i => by
    unfold noObjL at n
    rw [Bool.and_eq_true] at n
    obtain ⟨v, r, ev, h1, h2⟩ := isl_cons.mp i
    rw [ev]
    exact .cons (dp_of e d n.1 h1) (dp_ofL e ds n.2 h2)
end
section
variable {R : Reg} {K : PySem.W.Frag} {x y : D} {ds : List D}
theorem od_eqD (nx : noObj x = true) (ny : noObj y = true) (sx : SeqAt.shaped (pd x) = true) (sy : SeqAt.shaped (pd y) = true) : OpD R (rEqU K) x y (.bl (PyData.eqv (pd x) (pd y))) := OpS.inr fun B H vx vy f i1 i2 Q q => ⟨_, _, dp_of f.sub x nx i1, dp_of f.sub y ny i2, sx, sy, q _ (.bl _) B H (Go.refl f) rfl (is_bl.mpr rfl)⟩
theorem od_neD (nx : noObj x = true) (ny : noObj y = true) (sx : SeqAt.shaped (pd x) = true) (sy : SeqAt.shaped (pd y) = true) : OpD R (rNeU K) x y (.bl (!PyData.eqv (pd x) (pd y))) := OpS.inr fun B H vx vy f i1 i2 Q q => ⟨_, _, dp_of f.sub x nx i1, dp_of f.sub y ny i2, sx, sy, q _ (.bl _) B H (Go.refl f) rfl (is_bl.mpr rfl)⟩
theorem od_inD (nx : noObj x = true) (ny : noObjL ds = true) (sx : SeqAt.shaped (pd x) = true) (sy : SeqAt.shaped (.list (pdL ds)) = true) : OpD R (rInU K) x (.lst ds) (.bl ((pdL ds).any fun z => PyData.eqv z (pd x))) := OpS.inr (OpS.inr fun B H vx vy f i1 i2 Q q => by
  refine ⟨_, pdL ds, dp_of f.sub x nx i1, ?_, sx, sy, q _ (.bl _) B H (Go.refl f) rfl (is_bl.mpr rfl)⟩
  have z := dp_of (K := K) f.sub (.lst ds) (by unfold noObj; exact ny) i2
  unfold pd at z
  exact z)
theorem od_niD (nx : noObj x = true) (ny : noObjL ds = true) (sx : SeqAt.shaped (pd x) = true) (sy : SeqAt.shaped (.list (pdL ds)) = true) : OpD R (rNiU K) x (.lst ds) (.bl (!(pdL ds).any fun z => PyData.eqv z (pd x))) := OpS.inr (OpS.inr fun B H vx vy f i1 i2 Q q => by
  refine ⟨_, pdL ds, dp_of f.sub x nx i1, ?_, sx, sy, q _ (.bl _) B H (Go.refl f) rfl (is_bl.mpr rfl)⟩
  have z := dp_of (K := K) f.sub (.lst ds) (by unfold noObj; exact ny) i2
  unfold pd at z
  exact z)
variable {Γ : List Sl} {te tf : TE} {z : D}
theorem ex_tup2 {S : D → List Sl → Prop} (h : EX R te Γ S) (k : ∀ y G, S y G → ED R tf G z) : EX R (tTup (tCons te (tCons tf tNil))) Γ fun d G => ∃ y, S y G ∧ d = .tup [y, z] := fun B0 H0 B H σ a Q q => h B0 H0 B H σ a _ fun v d B2 H2 G a2 e s i => k d G s B0 H0 B2 H2 σ a2 _ fun w d3 B3 H3 g3 s3 i3 => ⟨sz_of (by simp), fun p hp => by
  subst s3
  have a3 := a2.step g3
  have g4 : Go R B3 H3 _ _ := Go.newF (o := .tup [v, w]) a3.fz hp
  exact q (.ref p) (.tup [d, d3]) _ _ G (a3.step g4) ((e.trans g3.ext).trans g4.ext) ⟨d, s, rfl⟩ (is_tup.mpr ⟨p, _, rfl, upd_same, (isl_mk (i.mono g3.ext) (IsL.one i3)).mono g4.ext⟩)⟩
end
end Dl
set_option Elab.async false
set_option linter.all false
set_option maxRecDepth 100000
/-! Dl10: own classes: __init__, making, fields. -/
namespace Dl
open PySem PySem.Spec PyProof.Rows L2 Evl
/-- what an __init__ lays: the fields ks with fs -/
def isp (C : Addr) (ks : List Str) (F : List D → List D → Prop) : Sp := fun vs H Q _ => ∃ (B : Hp) (x dx : Addr) (ds fs : List D) (rest : List V), vs = .ref x :: rest ∧ Ex B H ∧ B x = none ∧ H x = some (.ins C dx []) ∧ IsL B ds rest ∧ F ds fs ∧
  ∀ (B2 H2 : Hp) (us : List V), Ex B B2 → Ex B2 H2 → B2 x = none → ks.length = us.length → H2 x = some (.ins C dx (ks.zip us)) → IsL B2 fs us → (∀ a o, a ≠ x → H a = some o → H2 a = some o) → (∀ a o, H a = some o → B2 a = B a) → Q .non H2
structure MkC (P : Program) (w : World) (K : PySem.W.Frag) (mg : Str → Option Value) (base : Heap) (x : Str) (C : Addr) (k : Nat) (sp : Sp) : Prop where
  ex : ∃ f fd ps, Mk K C f ∧ FnOk P w K mg base CX0 k f fd ps sp ∧ mg x = some (.ref C) ∧ Binds K fd ps []
section
variable {P : Program} {w : World} {K : PySem.W.Frag} {mg : Str → Option Value} {base : Heap} {X : Cx} {x : Str} {C : Addr} {k : Nat} {sp : Sp} {p pos : Pos} {e : Expr} {es : List Expr} {t : TA}
theorem pe_mkc (M : MkC X.prog X.w X.K X.mg X.base x C k sp) (hr : Room (k + 1) X.A) (hg : Gl X x) (ha : PA X (e :: es) t) (hdb : (x == ("__debug__" : Str)) = false := by decide)
    (he : starEach (e :: es) X.env = (false, eval e X.env) :: starEach es X.env := by rfl) (hpl : (backTo pos (starEach es X.env)).any (·.1) = false := by rfl) : PE X (.Call (.Name x p) (e :: es) [] pos) (tMake C sp [] E0 t) := by
  obtain ⟨f, fd, ps, M, F, hm, hb⟩ := M.ex
  exact pe_make M F hr hg hm hb .nil pass0 ha hdb he hpl
end
section
variable {R : Reg} {K : PySem.W.Frag} {Γ : List Sl} {t : TA} {ds fs : List D} {C : Addr} {ks : List Str} {F : List D → List D → Prop} {E : XK}
theorem ed_make (h : EDA R t Γ ds) (k : F ds fs) : ED R (tMake C (isp C ks F) [] E t) Γ (.obj C ks fs) := fun B0 H0 B H σ a Q q => h B0 H0 B H σ a _ fun vs ds' B1 H1 g s i => by
  subst s
  intro x dx hx hd hne
  have h1 : ∀ a o, H1 a = some o → upd (upd H1 dx (.own x)) x (.ins C dx []) a = some o := fun a o e => by
    rw [upd_ne (ne_of_none e hx), upd_ne (ne_of_none e hd)]
    exact e
  have bx : B1 x = none := g.fz.bnone hx
  refine ⟨B1, x, dx, ds', fs, vs, by rw [List.append_nil], fun a o e => h1 a o (g.fz.sub a o e), bx, upd_same, i, k, fun B2 H2 us e12 e22 bx2 hl hH2 iu mv new => ⟨rfl, ?_⟩⟩
  have nrx := g.fz.nr hx
  have mv2 : ∀ a o, H1 a = some o → H2 a = some o := fun a o e => mv a o (ne_of_none e hx) (h1 a o e)
  have f3 : Fz R (upd B2 x (.ins C dx (ks.zip us))) H2 := by
    refine ⟨fun a o e => ?_, R.st H1 H2 (fun a ra => ?_) g.fz.ok, fun a ra => ?_⟩
    · by_cases hax : a = x
      · rw [hax, upd_same] at e
        rw [hax, hH2, e]
      · rw [upd_ne hax] at e
        exact e22 a o e
    · obtain ⟨_, o, e⟩ := g.fz.out a ra
      rw [e, mv2 a o e]
    · obtain ⟨hb, o, e⟩ := g.fz.out a ra
      have hax : a ≠ x := fun z => nrx (z ▸ ra)
      rw [upd_ne hax]
      exact ⟨(new a o (h1 a o e)).trans hb, o, mv2 a o e⟩
  have g3 : Go R B1 H1 (upd B2 x (.ins C dx (ks.zip us))) H2 := ⟨f3, e12.trans (Ex.new bx2), fun a o _ e => mv2 a o e, fun a o e => by
    rw [upd_ne (ne_of_none e hx)]
    exact new a o (h1 a o e)⟩
  exact q (.ref x) _ _ H2 (Go.trans a.fz g g3) rfl (is_obj.mpr ⟨x, dx, us, rfl, upd_same, hl, iu.mono (Ex.new bx2)⟩)
/-! ### the body of an __init__ -/
/-- from such slots the block ends as E wishes -/
def RT (E : Ends) (B0 H0 : Hp) (ts : TS) (Γ : List Sl) : Prop := ∀ (B : Hp) (σ : L2.St) (H : Hp), At triv B0 H0 B Γ σ H → ts E σ H
theorem rt_seq {E : Ends} {B0 H0 : Hp} {ts us : TS} (h : SS triv B0 H0 ts Γ (fun Γ' => RT E B0 H0 us Γ') (fun _ => False) (fun _ => False) (fun _ => False)) : RT E B0 H0 (tSeq ts us) Γ := fun B σ H a =>
  h B σ H _ a (fun B' Γ' σ' H' n a' _ => n B' σ' H' a') (fun _ _ _ _ z => z.elim) (fun _ _ _ _ z => z.elim) (fun _ _ _ _ z => z.elim)
theorem rt_freeze {E : Ends} {B0 H0 : Hp} {ts : TS} (i : Nat) (e : Γ[i]? = some (.own ds)) (h : RT E B0 H0 ts (Γ.set i (.dat (.lst ds)))) : RT E B0 H0 ts Γ := fun B σ H a => by
  obtain ⟨B2, _, a2⟩ := a.freeze e
  exact h B2 σ H a2
/-- self.f = e, .. at the end -/
def tailT (K : PySem.W.Frag) (j : Nat) : List (Str × TE) → TS
  | [] => tNext
  | [(f, te)] => sFld K (tVar j) te f
  | (f, te) :: p :: r => tSeq (sFld K (tVar j) te f) (tailT K j (p :: r))
theorem rebase {B0 H0 B H : Hp} {σ : L2.St} (a : At triv B0 H0 B Γ σ H) (no : ∀ s ∈ Γ, isOwn s = false) : At triv B H B Γ σ H :=
  ⟨a.fz, Go.refl a.fz, a.len, a.sl, a.dj, fun i s l e p _ => by
    rw [no s (List.mem_of_getElem? e)] at p
    cases p⟩
theorem putF_new {f : Str} {y : V} : ∀ {ks : List Str} {us : List V}, ks.length = us.length → f ∉ ks → putF f y (ks.zip us) = (ks ++ [f]).zip (us ++ [y])
  | [], [], _, _ => rfl
  | [], u :: us, h, _ => by simp at h
  | k :: ks, [], h, _ => by simp at h
  | k :: ks, u :: us, h, n => by
    have h2 : ks.length = us.length := by simpa using h
    have hk : ¬ k = f := fun z => n (z ▸ List.mem_cons_self)
    show putF f y ((k, u) :: ks.zip us) = (k, u) :: (ks ++ [f]).zip (us ++ [y])
    rw [← putF_new h2 fun z => n (List.mem_cons_of_mem _ z)]
    show (if k = f then (k, y) :: ks.zip us else (k, u) :: putF f y (ks.zip us)) = _
    rw [if_neg hk]
theorem tail_run {E : Ends} {j : Nat} {x dx : Addr} (c : Cls K C) (no : ∀ s ∈ Γ, isOwn s = false) (hj : Γ[j]? = some (.at_ (.ref x))) : ∀ (l : List (Str × TE)) (gs : List D) (k0 : List Str) (f0 : List D) (us : List V) (B H : Hp) (σ : L2.St),
    l ≠ [] → At triv B H B Γ σ H → B x = none → H x = some (.ins C dx (k0.zip us)) → k0.length = us.length → IsL B f0 us → l.length = gs.length → (∀ (i : Nat) (f : Str) (te : TE) (d : D), l[i]? = some (f, te) → gs[i]? = some d → ED triv te Γ d ∧ NoAttr K C f) → (k0 ++ l.map (·.1)).Nodup → k0.length + l.length < 1000 →
    (∀ (B2 H2 : Hp) (ws : List V), Ex B B2 → Ex B2 H2 → B2 x = none → (k0 ++ l.map (·.1)).length = ws.length → H2 x = some (.ins C dx ((k0 ++ l.map (·.1)).zip ws)) → IsL B2 (f0 ++ gs) ws → (∀ a o, a ≠ x → H a = some o → H2 a = some o) → (∀ a o, H a = some o → B2 a = B a) → E.nx σ H2) → tailT K j l E σ H
  | [], _, _, _, _, _, _, _, h, _, _, _, _, _, _, _, _, _, _ => absurd rfl h
  | (f, te) :: r, [], _, _, _, _, _, _, _, _, _, _, _, _, hl, _, _, _, _ => by simp at hl
  | (f, te) :: r, g :: gs, k0, f0, us, B, H, σ, _, a, bx, hx, hk, hf, hl, hd, nd, hz, q => by
    have one : ∀ (Q : L2.St → Hp → Prop), (∀ (B2 H2 : Hp) (y : V), Ex B B2 → B2 x = none → Is B2 g y → At triv B2 (upd H2 x (.ins C dx ((k0 ++ [f]).zip (us ++ [y])))) B2 Γ σ (upd H2 x (.ins C dx ((k0 ++ [f]).zip (us ++ [y])))) → (∀ a o, H a = some o → H2 a = some o) → (∀ a o, H a = some o → B2 a = B a) → Q σ (upd H2 x (.ins C dx ((k0 ++ [f]).zip (us ++ [y]))))) →
        sFld K (tVar j) te f { nx := Q, rt := E.rt, bk := E.bk, ct := E.ct } σ H := fun Q hQ => by
      obtain ⟨e1, na⟩ := hd 0 f te g rfl rfl
      refine e1 B H B H σ a _ fun y d' B2 H2 go s iy => ?_
      subst s
      have hx2 : H2 x = some (.ins C dx (k0.zip us)) := go.mv x _ (fun z => z) hx
      have bx2 : B2 x = none := (go.new x _ hx).trans bx
      have nf : f ∉ k0 := fun z => by
        rw [List.map_cons] at nd
        exact (List.nodup_append.mp nd).2.2 f z f List.mem_cons_self rfl
      refine ⟨_, a.raw hj, x, C, dx, _, rfl, hx2, c, na, ?_, ?_⟩
      · rw [List.length_zip]
        rw [List.length_cons] at hz
        omega
      · rw [putF_new hk nf]
        refine hQ B2 H2 y go.ext bx2 iy ?_ (fun a o e => go.mv a o (fun z => z) e) go.new
        have a2 := rebase (a.step go) no
        have nb : ∀ {b : Addr} {o : HO}, B2 b = some o → b ≠ x := fun {b o} z e => by
          rw [e, bx2] at z
          cases z
        have f2 : Fz triv B2 (upd H2 x (.ins C dx ((k0 ++ [f]).zip (us ++ [y])))) := ⟨fun b o z => by rw [upd_ne (nb z)]; exact a2.fz.sub b o z, True.intro, fun _ z => z.elim⟩
        refine ⟨f2, Go.refl f2, a2.len, fun i s e => ?_, a2.dj, fun i s l e p _ => by rw [no s (List.mem_of_getElem? e)] at p; cases p⟩
        obtain ⟨o, h1, h2⟩ := a2.sl i s e
        refine ⟨o, h1, ?_⟩
        cases s with
        | own es => exact absurd (no _ (List.mem_of_getElem? e)) (fun z => by cases z)
        | no => exact True.intro
        | dat d => exact h2
        | at_ v => exact h2
        | box φ => exact absurd (no _ (List.mem_of_getElem? e)) (fun z => by cases z)
    have fin : ∀ (B2 H2 : Hp) (y : V), Ex B B2 → B2 x = none → Is B2 g y → IsL B2 (f0 ++ [g]) (us ++ [y]) := fun B2 H2 y e _ iy => (hf.mono e).append (IsL.one iy)
    cases r with
    | nil =>
      have hg : gs = [] := by
        cases gs with
        | nil => rfl
        | cons _ _ => simp at hl
      subst hg
      refine one E.nx fun B2 H2 y e bx2 iy a2 mv new => q B2 _ (us ++ [y]) e a2.fz.sub bx2 ?_ upd_same (fin B2 H2 y e bx2 iy) (fun b o hb z => ?_) new
      · rw [List.map_cons, List.map_nil, List.length_append, List.length_append, hk] <;> rfl
      · rw [upd_ne hb]
        exact mv b o z
    | cons p r =>
      refine one _ fun B2 H2 y e bx2 iy a2 mv new => tail_run c no hj (p :: r) gs (k0 ++ [f]) (f0 ++ [g]) (us ++ [y]) B2 _ σ (by simp) a2 bx2 upd_same (by rw [List.length_append, List.length_append, hk]; rfl) (fin B2 H2 y e bx2 iy) (by simpa using hl) (fun i f' te' d h1 h2 => hd (i + 1) f' te' d h1 h2) (by rw [List.append_assoc]; exact nd) (by rw [List.length_append]; simp only [List.length_cons, List.length_nil] at hz ⊢; omega) ?_
      intro B3 H3 ws e3 e33 bx3 hl3 hx3 i3 mv3 new3
      have hb2 : ∀ b o, H b = some o → upd H2 x (.ins C dx ((k0 ++ [f]).zip (us ++ [y]))) b = if b = x then some (.ins C dx ((k0 ++ [f]).zip (us ++ [y]))) else some o := fun b o z => by
        by_cases hb : b = x
        · rw [hb, upd_same, if_pos rfl]
        · rw [upd_ne hb, if_neg hb]
          exact mv b o z
      refine q B3 H3 ws (e.trans e3) e33 bx3 (by rw [List.append_assoc] at hl3; exact hl3) (by rw [List.append_assoc] at hx3; exact hx3) (by rw [List.append_assoc] at i3; exact i3) (fun b o hb z => ?_) (fun b o z => ?_)
      · refine mv3 b o hb ?_
        rw [hb2 b o z, if_neg hb]
      · by_cases hb : b = x
        · rw [new3 b _ (by rw [hb2 b o z, if_pos hb]), new b o z]
        · rw [new3 b o (by rw [hb2 b o z, if_neg hb]), new b o z]
end
/-- a class's __init__, walked -/
theorem isp_mk {P : Program} {w : World} {K : PySem.W.Frag} {mg : Str → Option Value} {base : Heap} {x n q : Str} {k : Nat} {C : Addr} {ks : List Str} {st : Stmt} {f : Addr} {N ps : List Str} {F : List D → List D → Prop} (Fd : ∃ fd, FunD K n q (defArgs st) (defBody st) (defScope st) [] [] f fd) (M : Mk K C f) (g : mg x = some (.ref C)) (S : FnScope N ps (defScope st))
    (hb : ∀ (kV doc pm : Value) (an : Option Addr) (cdv ct : Value) (us : List Value), us.length = ps.length → bindArgs (PySem.W.fnOf n q (defArgs st) (defBody st) (defScope st) .none kV doc pm an cdv ct) ⟨us, []⟩ = pure (ps.zip us))
    (len : ∀ ds fs, F ds fs → ds.length + 1 = ps.length)
    (hbody : ∀ (cdv : Value) (A : Around) (outer : List Env) (s : Shared) (H : Hp) (E : XK), Room k (A.deeper (envOfC q (defScope st) s.heap.objs.size f cdv)) →
      ∃ t, PSs (cxOf CX0 P w K mg base N q (defScope st) f cdv A outer s H E).nox (defBody st) t ∧
        ∀ (B0 H0 : Hp) ds fs (y dx : Addr) (D : Ends), F ds fs → B0 y = none → H0 y = some (.ins C dx []) →
          (∀ (σ : L2.St) (B2 H2 : Hp) (us : List V), Ex B0 B2 → Ex B2 H2 → B2 y = none → ks.length = us.length → H2 y = some (.ins C dx (ks.zip us)) → IsL B2 fs us → (∀ a o, a ≠ y → H0 a = some o → H2 a = some o) → (∀ a o, H0 a = some o → B2 a = B0 a) → D.nx σ H2) →
          RT D B0 H0 t (Sl.at_ (.ref y) :: (ds.map Sl.dat ++ List.replicate (N.length - (ds.length + 1)) .no))) : MkC P w K mg base x C (k + 1) (isp C ks F) := by
  obtain ⟨fd, Fd⟩ := Fd
  refine ⟨f, fd, ps, M, Fd.ok S (fun vs H Q E h => ?_) fun cdv A outer s H vs Q E hr h => ?_, g, Fd.bindsN hb⟩
  · obtain ⟨B, y, dx, ds, fs, rest, ev, _, _, _, i, hF, _⟩ := h
    rw [ev, List.length_cons, ← i.len]
    exact len ds fs hF
  · obtain ⟨B, y, dx, ds, fs, rest, ev, e, by_, hy, i, hF, q⟩ := h
    obtain ⟨t, h1, h2⟩ := hbody cdv A outer s H E hr
    refine ⟨t, PSs.nox h1, ?_⟩
    subst ev
    have a : At triv B H B ((Sl.at_ (.ref y) :: ds.map Sl.dat) ++ List.replicate (N.length - (V.ref y :: rest).length) .no) (L2.start N (V.ref y :: rest)) H := by
      refine at_start (Fz.triv e) (by rw [List.length_cons, List.length_cons, List.length_map, i.len]) fun j sl v e1 e2 => ?_
      cases j with
      | zero =>
        have e3 : Sl.at_ (.ref y) = sl := Option.some.inj e1
        have e4 : V.ref y = v := Option.some.inj e2
        rw [← e3, ← e4]
        exact ⟨rfl, rfl⟩
      | succ j =>
        have e1 : (ds.map Sl.dat)[j]? = some sl := e1
        have e2 : rest[j]? = some v := e2
        rw [List.getElem?_map] at e1
        cases qd : ds[j]? with
        | none => rw [qd] at e1; cases e1
        | some x =>
          rw [qd] at e1
          have e3 : Sl.dat x = sl := Option.some.inj e1
          obtain ⟨u, hu, iu⟩ := i.at qd
          rw [e2] at hu
          rw [← e3, Option.some.inj hu]
          exact ⟨rfl, u, rfl, iu⟩
    rw [List.length_cons, ← i.len] at a
    exact h2 B H ds fs y dx _ hF by_ hy (fun σ B2 H2 us q1 q2 q3 q4 q5 q6 q7 q8 => q B2 H2 us q1 q2 q3 q4 q5 q6 q7 q8) B _ H a
theorem ps_fldK (K : PySem.W.Frag) {X : Cx} {o value : Expr} {f : Str} {pos pos' : Pos} {ta tv : TE} (ha : PE X o ta) (hv : PE X value tv) (hs : swapsWith value (some (.Attribute o f pos')) pos.line X.env = pure false) (e : X.K = K := by rfl) : PS X (.Assign [.Attribute o f pos'] value pos) (sFld K ta tv f) := e ▸ ps_fld ha hv hs
end Dl
set_option Elab.async false
set_option linter.all false
set_option maxRecDepth 100000
set_option maxHeartbeats 2000000
/-! Dl11: exceptions: a list comprehension whose element raises. -/
namespace Dl
open PySem PySem.Spec PyProof.Rows L2 Evl
/-- what an element's call lets out of a block -/
def XF (X : Cx) (E : XK) (u : Value) (s' : Shared) : Prop := ∃ (pins : List (Addr × Obj)) (σ : L2.St) (H : Hp) (s : Shared), Inv X pins σ H s ∧ L2.CX X.prog X.w X.stack H s E u s'
theorem passXF {X : Cx} {E : XK} : Passes (L2.CX X.prog X.w) (X.wish (XF X E)) E := fun pins σ H s e s' I c => ⟨pins, σ, H, s, I.unwish, c⟩
section
variable {X : Cx} {pins : List (Addr × Obj)} {σ : L2.St} {H3 H : Hp} {s3 s s' : Shared} {fp : List Addr} {C : Addr} {E : XK} {u : Value}
/-- out of the element, noted, the block's names let go, on in the def's own frame -/
theorem air_out {ce : Env} {m : Str → Option Value} (hs : X.stack = X.env :: X.outer) (hf : X.env.frame = some X.env.locals) (tk : Takes X fun cls d _ H => E cls d H) (I3 : Inv X pins σ H3 s3)
    (hch : ∀ b ∈ fp, (b ∈ X.ex ∨ X.s_0.heap.objs.size ≤ b) ∧ b ≠ X.env.locals ∧ (∀ x c, X.env.cells.lookup x = some c → c ≠ b) ∧ ∀ p ∈ X.pn ++ pins, p.1 ≠ b)
    (hC : s3.heap.get? C = none) (cL : ce.locals = C) (cF : ce.frame = X.env.frame) (un : Un (frs X.stack) fp H3 H s3.heap s.heap) (nC : H C = none) (hn : s.heap.Ns C m) (os0 : s.os = s3.os) (c : L2.CX X.prog X.w X.stack H s E u s') :
    notedBy (model X.prog X.w) X.A ce (fun e s'' => CompFails (model X.prog X.w) X.A X.xe ce e s'') u s' := by
  obtain ⟨a, B, H', cls, d, rfl, fl, hok, ub, na, os, ag, hE⟩ := c
  have hfr : X.A.frames = some (X.env :: X.outer) := by rw [I3.ok.frames, hs]
  have notFr : ∀ {b : Addr}, b ∈ frs X.stack → b ≠ C := fun {b} hb z => by
    obtain ⟨_, o, e, _⟩ := I3.stack.mem hb
    rw [z, hC] at e
    cases e
  obtain ⟨oC, es, ep, hoC, hdC, hm⟩ := hn
  have cB : B.get? C = some oC := ub.keep C oC hoC nC fun z => notFr z rfl
  have cS : s'.heap.get? C = some oC := fl.1 C oC cB
  show wpAny _ _ (noteFrame (.ref a) ce) _ _ s'
  rw [noteFrame_env _ cF]
  rw [hs] at fl
  refine HandSPX.looks_onZ Zc.steady hfr hf fl fun h1 hh1 up1 => ?_
  have ns1 : h1.Ns ce.locals m := by
    rw [cL]
    exact up1.ns ⟨oC, es, ep, cS, hdC, hm⟩
  refine ⟨m, ns1, fun h2 m2 hn2 sb => ?_⟩
  rw [cL] at ns1 hn2 sb
  obtain ⟨B2, b1, b2⟩ := restrict B fun b => decide (b ≠ C)
  have bB : ∀ b o, B2.get? b = some o → B.get? b = some o ∧ b ≠ C := fun b o e => by
    by_cases hb : b = C
    · rw [b2 b (by simp [hb])] at e
      cases e
    · rw [b1 b (by simp [hb])] at e
      exact ⟨e, hb⟩
  have Bb : ∀ b o, B.get? b = some o → b ≠ C → B2.get? b = some o := fun b o e hb => by
    rw [b1 b (by simp [hb])]
    exact e
  have none2 : ∀ b, B.get? b = none → B2.get? b = none := fun b e => by
    by_cases hb : b = C
    · exact b2 b (by simp [hb])
    · rw [b1 b (by simp [hb])]
      exact e
  obtain ⟨k1, k2, k3, oe, vs, T, oT, ts, he, hz, hd, hv1, hnT, hTe, hT, hdT, ht3⟩ := hh1
  have cD : ∀ b o ws, h1.get? b = some o → o.data = .fields ws → b ≠ C := fun b o ws e hd z => by
    obtain ⟨o2, es2, ep2, e2, hd2, _⟩ := ns1
    rw [z, e2] at e
    cases e
    rw [hd2] at hd
    cases hd
  have he2 := (sb.2 a (cD a oe vs he hd)).trans he
  have hT2 := (sb.2 T (cD T oT ts hT hdT)).trans hT
  have hh2 : HandSPX.HeldZ B2 (X.env :: X.outer) a (Zc cls d) X.env.locals h2 := by
    refine ⟨fun b o e => ?_, none2 a k2, ?_, oe, vs, T, oT, ts, he2, hz, hd, hv1, none2 T hnT, hTe, hT2, hdT, ht3⟩
    · obtain ⟨e1, hb⟩ := bB b o e
      exact (sb.2 b hb).trans (k1 b o e1)
    · exact funFrames_none (Heap.FunFrames.sameBut sb hn2 k3) fun L hL => none2 L (k3.mem hL).1
  unfold PySem.passOn
  refine wpAny_bind (wpAny_field he2 hd hv1 ?_)
  rw [if_neg (show ¬ ((Value.ref T == Value.none) = true) from by simp), cF, hf]
  refine wpAny_bind (HandSPX.setFlight_onZ hh2 fun h3 hh3 up3 => wpAny_throw (tk _ _ ?_))
  -- the state without the exception
  obtain ⟨G, g1, g2⟩ := restrict h3 fun b => (B2.get? b).isSome || decide (b ∈ frs X.stack)
  have gB : ∀ b o, B2.get? b = some o → G.get? b = some o := fun b o e => by
    rw [g1 b (by simp [e])]
    exact hh3.1 b o e
  have gF : ∀ b, b ∈ frs X.stack → G.get? b = h3.get? b := fun b hb => g1 b (by simp [hb])
  have og : ∀ b o, G.get? b = some o → h3.get? b = some o ∧ ((B2.get? b).isSome = true ∨ b ∈ frs X.stack) := fun b o e => by
    cases q : ((B2.get? b).isSome || decide (b ∈ frs X.stack)) with
    | false => rw [g2 b q] at e; cases e
    | true =>
      rw [g1 b q] at e
      exact ⟨e, by simpa [Bool.or_eq_true] using q⟩
  have up13 : h1.get? C = h1.get? C → ∀ b o, s'.heap.get? b = some o → b ≠ C → (∀ ws, o.data ≠ .fields ws) → ∃ sl, h3.get? b = some { o with slots := sl } := fun _ b o e hb hnf => by
    obtain ⟨sl, e1⟩ := up1 b o e hnf
    have e2 := (sb.2 b hb).trans e1
    obtain ⟨sl3, e3⟩ := up3 b _ e2 hnf
    exact ⟨sl3, e3⟩
  have frame : ∀ b o, s3.heap.get? b = some o → b ∈ frs X.stack → b ∉ fp → ∃ sl, G.get? b = some { o with slots := sl } := fun b o e hb hx => by
    have hHb := I3.stkFree b hb
    obtain ⟨_, o0, e0, hnf⟩ := I3.stack.mem hb
    rw [e] at e0
    cases e0
    obtain ⟨sl, e1⟩ := un.slot b o e hHb hb hx
    obtain ⟨sl2, e2⟩ := ub.slot b _ e1 hb
    obtain ⟨sl3, e3⟩ := up13 rfl b _ e2 (notFr hb) hnf
    exact ⟨sl3, by rw [gF b hb]; exact e3⟩
  have s3C : ∀ {b : Addr} {o : Obj}, s3.heap.get? b = some o → b ≠ C := fun {b o} e z => by
    rw [z, hC] at e
    cases e
  have hokB : HOk X.prog X.w H' B2 := fun b o q => (hok b o q).stay (fun b' u' hc r => Bb b' u' r fun z => by
    have hC' : H' C = none := ub.free C oC hoC nC
    rcases hc with hc | hc
    · rw [← hc, z, hC'] at q
      cases q
    · rw [z, hC'] at hc
      cases hc) (fun _ r => r) fun _ _ r => r
  have inF : ∀ b ∈ frs X.stack, b ∉ fp := fun b hb hx => by
    have z := (hch b hx).2.1
    rw [hs] at hb
    rcases List.mem_filterMap.mp hb with ⟨e, he', hq⟩
    rcases List.mem_cons.mp he' with rfl | he'
    · rw [hf] at hq
      exact z (Option.some.inj hq).symm
    · have hbf : b ∈ X.fs := List.mem_filterMap.mpr ⟨e, he', hq⟩
      rcases (hch b hx).1 with h | h
      · exact I3.ok.exfs b h hbf
      · obtain ⟨_, o, eo, _⟩ := I3.ok.funs.mem hbf
        exact absurd (Nat.lt_of_lt_of_le (Heap.lt_size eo) h) (Nat.lt_irrefl _)
  refine ⟨a, B2, { s3 with heap := G, gens := s'.gens, drawn := s'.drawn, toks := s'.toks }, pins, σ, H', cls, d, rfl, ?_, fun b o e hb => ?_, Heap.UpToSlots.of_keeps fun b o e => (og b o e).1, .inr (.inr (by rw [hs]; exact hh3)), na, os.trans os0, ag, hE⟩
  · refine I3.call (ch := fp) ⟨fun b o e n hb hx => ?_, fun b o e n hb hx => frame b o e hb hx, fun b o e n hx => ?_, fun b o e hx => ?_, fun b xs e => ub.tups b xs (un.tups b xs e), fun b o xs e => ub.frzs b o xs (un.frzs b o xs e), fun b ps e => ?_⟩ (hokB.kept gB) ag hch
    · exact gB b o (Bb b o (ub.keep b o (un.keep b o e n hb hx) (un.free b o e n hx) hb) (s3C e))
    · obtain ⟨o2, e2⟩ := un.there b o e hx
      exact ub.free b o2 e2 (un.free b o e n hx)
    · by_cases hb : b ∈ frs X.stack
      · obtain ⟨sl, q⟩ := frame b o e hb hx
        exact ⟨_, q⟩
      · obtain ⟨o2, e2⟩ := un.there b o e hx
        obtain ⟨o3, e3⟩ := ub.there b o2 e2 hb
        exact ⟨o3, gB b o3 (Bb b o3 e3 (s3C e))⟩
    · obtain ⟨m1, e1⟩ := un.tbls b ps e
      obtain ⟨m2', e2⟩ := ub.tbls b _ e1
      exact ⟨m1 ++ m2', by rw [← Array.append_assoc]; exact e2⟩
  · obtain ⟨e3, h⟩ := og b o e
    rcases h with h | h
    · obtain ⟨o2, q⟩ := Option.isSome_iff_exists.mp h
      have z := hh3.1 b o2 q
      rw [e3] at z
      cases z
      exact q
    · exact absurd h hb
end
section
variable {X : Cx} {E : XK} {elt tg iter : Expr} {scope : Scope} {own : List (Str × Nat)} {pos : Pos} {wi : TI} {g : TG} {te : TE}
/-- [elt for tg in iter], the element may raise -/
theorem pe_lcX (hs : X.stack = X.env :: X.outer) (hf : X.env.frame = some X.env.locals) (tk : Takes X fun cls d _ H => E cls d H) (hc : X.calm = true) (hN : X.N.Nodup) (hi : PI X tg iter wi) (ok : BlkOk X.N X.env.scope scope own)
    (hg : ∀ (s : Shared) (H : Hp) (C : Addr) (cl : List (Str × Addr)) (fp : List Addr), PG (X.blk s H scope (compEnvC scope cl C X.env) fp) tg g)
    (he : ∀ (s : Shared) (H : Hp) (C : Addr) (cl : List (Str × Addr)) (fp : List Addr), PE ((X.blk s H scope (compEnvC scope cl C X.env) fp).wish (XF (X.blk s H scope (compEnvC scope cl C X.env) fp) E)) elt te)
    (hsx : ∀ x, foldedSetIterable iter X.env x = pure x := by intro _; rfl) : PE X (.ListComp elt [⟨tg, iter, [], 0⟩] scope pos) (tLc wi g tYes te (own.map (·.2))) := ⟨fun pins s σ H Q I h => by
  rw [eval_ListComp]
  have hfree : ∀ y ∈ scope.names, y.2 = .free → ∃ c, X.env.cells.lookup y.1 = some c := fun y hy e => (ok.free y hy e).elim (fun k => I.ok.has _ (.inl k)) (fun k => I.ok.has _ (.inr k))
  refine comprehension_at (use := none) rfl hsx (closure_ok hfree) ok.kind (fun y hy e => by rw [ok.uniq y hy, e]) (thn (hi.run pins s σ H _ I h) fun xv s1 hx => thn hx fun itv s2 h2 => ?_)
  obtain ⟨it, fp, tn, J, H2, e, I2, T, st2, f2, q⟩ := h2
  subst e
  refine wpAny_newObj_type (newEnv_comp ?_) (by show 0 ≤ sizeLine; decide)
  generalize hD : s2.heap.objs.size = D
  have hDn : H2 D = none := I2.hok.fresh (Nat.le_of_eq hD)
  obtain ⟨W, ⟨m0, w0⟩, turn⟩ := q D hDn
  generalize hs3 : ({ s2 with heap := s2.heap.push { cls := .type "list", data := .seq ([] : List Value).toArray } } : Shared) = s3
  have h3 : s3.heap = s2.heap.push { cls := .type "list", data := .seq ([] : List Value).toArray } := by rw [← hs3]
  have I3 : Inv X pins σ (upd H2 D (.lst [])) s3 := by
    rw [← hs3]
    exact I2.laid (t' := s2.toks) (fun b o e => Heap.get?_push_of_some _ e) (Nat.le_of_eq hD) ⟨Nat.zero_le _, [], 0, .nil, by rw [← hD]; exact Heap.get?_push_size _ rfl⟩
  have f3 : ∀ b ∈ fp, FpOk X pins (upd H2 D (.lst [])) b ∧ b < s3.heap.objs.size := fun b hb => by
    obtain ⟨o, e, _⟩ := T.obj _ _ st2 b hb
    have hlt := Heap.lt_size e
    exact ⟨⟨by rw [upd_ne (by rw [← hD]; exact Nat.ne_of_lt hlt)]; exact (f2 b hb).1, (f2 b hb).2⟩, by rw [h3, Heap.size_push]; exact Nat.lt_succ_of_lt hlt⟩
  have st3 : tn 0 s3.heap := T.keep _ _ _ st2 fun b _ o e => by rw [h3]; exact Heap.get?_push_of_some _ e
  have I4 := block_start I3 ok hN f3
  have pg := hg s3 (upd H2 D (.lst [])) s3.heap.objs.size (cellsFrom (s3.heap.objs.size + 1) scope.names (cloFrom X.env.cells scope.names [])) fp
  have pe := he s3 (upd H2 D (.lst [])) s3.heap.objs.size (cellsFrom (s3.heap.objs.size + 1) scope.names (cloFrom X.env.cells scope.names [])) fp
  show codeAny _ _ (.compStart (.ListComp elt [⟨tg, iter, [], 0⟩] scope pos) 0 (.ref it) (.ref D) (compEnvC scope (cellsFrom (s3.heap.objs.size + 1) scope.names (cloFrom X.env.cells scope.names [])) s3.heap.objs.size X.env)) (compEnds (model X.prog X.w) X.A X.xe none (L2.EP X pins σ Q) (.ref D) (compEnvC scope (cellsFrom (s3.heap.objs.size + 1) scope.names (cloFrom X.env.cells scope.names [])) s3.heap.objs.size X.env)) { s3 with heap := pushCells (s3.heap.push { cls := .type "dict", data := .dict #[] }) scope.names }
  generalize hce : compEnvC scope (cellsFrom (s3.heap.objs.size + 1) scope.names (cloFrom X.env.cells scope.names [])) s3.heap.objs.size X.env = ce at I4 pg pe ⊢
  have cL : ce.locals = s3.heap.objs.size := by subst hce; rfl
  have cF : ce.frame = X.env.frame := by subst hce; rfl
  have nfp : ∀ b ∈ fp, (upd H2 D (.lst [])) b = none := fun b hb => (f3 b hb).1.1
  generalize hH3 : upd H2 D (.lst []) = H3 at I3 I4 pg pe w0 nfp f3
  generalize hs4 : ({ s3 with heap := pushCells (s3.heap.push { cls := .type "dict", data := .dict #[] }) scope.names } : Shared) = s4 at I4 ⊢
  have st4 : tn 0 s4.heap := T.keep _ _ _ st3 fun b _ o e => by rw [← hs4]; exact pushCells_keeps _ _ _ _ (Heap.get?_push_of_some _ e)
  have hch : ∀ b ∈ fp, (b ∈ X.ex ∨ X.s_0.heap.objs.size ≤ b) ∧ b ≠ X.env.locals ∧ (∀ x c, X.env.cells.lookup x = some c → c ≠ b) ∧ ∀ p ∈ X.pn ++ pins, p.1 ≠ b := fun b hb => ⟨(f3 b hb).1.2.2.2.1, (f3 b hb).1.2.1, (f3 b hb).1.2.2.2.2.1, (f3 b hb).1.2.2.2.2.2⟩
  have hCn : s3.heap.get? s3.heap.objs.size = none := by
    cases z : s3.heap.get? s3.heap.objs.size with
    | none => rfl
    | some o => exact absurd (Heap.lt_size z) (Nat.lt_irrefl _)
  -- an exception of the element
  have out : ∀ u s', XF (X.blk s3 H3 scope ce fp) E u s' → notedBy (model X.prog X.w) X.A ce (fun e s' => compEnds (model X.prog X.w) X.A X.xe none (L2.EP X pins σ Q) (.ref D) ce (.error e) s') u s' := fun u s' ⟨pn2, σ2, H5, s5, I5, c⟩ => by
    obtain ⟨m, hn, _⟩ := I5.loc
    have hn : s5.heap.Ns ce.locals m := hn
    have nC : H5 ce.locals = none := I5.free
    rw [cL] at hn nC
    exact air_out hs hf tk I3 hch hCn cL cF I5.base nC hn I5.os c
  have stat : ∀ {σ' : L2.St} {H' : Hp} {s' : Shared}, Inv (X.blk s3 H3 scope ce fp) [] σ' H' s' → (∀ b ∈ fp, H' b = none) → ∀ b ∈ fp, FpOk (X.blk s3 H3 scope ce fp) [] H' b := fun {σ' H' s'} I' hn b hb =>
    ⟨hn b hb, (I'.ok.exf b hb).1, I'.ok.exfs b hb, .inl hb, fun x c e => (I'.ok.exf b hb).2 x c e, fun p hp => absurd (show p ∈ ([] : List (Addr × Obj)) ++ [] from hp) (by simp)⟩
  have loop : codeAny (model X.prog X.w) X.A (.compLoop (.ListComp elt [⟨tg, iter, [], 0⟩] scope pos) 0 (.ref it) (.ref D) ce) (compEnds (model X.prog X.w) X.A X.xe none (L2.EP X pins σ Q) (.ref D) ce) s4 := by
    refine compLoop_any (fun n s' => ∃ i H', Inv (X.blk s3 H3 scope ce fp) [] (wipe σ (own.map (·.2))) H' s' ∧ tn i s'.heap ∧ (∀ b ∈ fp, H' b = none) ∧ W i n H') ?_ m0 ⟨0, H3, I4, st4, nfp, w0⟩
    rintro n s5 ⟨i, H5, I5, st5, n5, w5⟩
    rcases turn i n H5 w5 with ⟨stop, qq⟩ | ⟨go, Nx, hNx, step⟩
    · refine thnF (T.done (X.blk s3 H3 scope ce fp) rfl rfl rfl hc i [] s5 _ H5 (fun _ _ => False) I5 (stat I5 n5) st5 stop) fun r s6 ⟨hr, I6⟩ => ?_
      subst hr
      have I7 : Inv X pins σ H5 s6 := I3.call' (ch := fp) I6.os I6.base I6.hok I6.bare hch
      have nC : H5 ce.locals = none := I6.free
      obtain ⟨m, hn, _⟩ := I6.loc
      have hn : s6.heap.Ns ce.locals m := hn
      refine ⟨m, hn, fun h'' sb => ?_⟩
      rw [cL] at nC sb
      obtain ⟨f0, f1, f3', f4, f5, f6⟩ := I3.fpOk (Nat.le_refl _) nC
      exact ⟨.ref D, H5, I7.turned (t' := s6.toks) (fun b o hb e => (sb.2 b hb).trans e) f0 f1 f4 f5 f6, rfl, qq⟩
    · refine thnF (T.item (X.blk s3 H3 scope ce fp) rfl rfl rfl hc i [] s5 _ H5 (fun _ _ => False) I5 (stat I5 n5) st5 go) fun r s6 ⟨u, hr, h6⟩ => ?_
      subst hr
      refine thnF h6 fun _ s7 ⟨x, H7, I7, r7, y7, st7, n7⟩ => ?_
      have I7' := I7.pinned (stat I7 n7) (T.obj _ _ st7)
      refine thnF (pg.run _ s7 _ H7 x u _ I7' r7 (step x H7 y7)) fun _ s8 ⟨σ8, H8, I8, hw8, q8⟩ => ?_
      refine wpAny_tests_nil ?_
      have q9 : te σ8 H8 fun y H4 => ∃ acc, H4 D = some (.lst acc) ∧ acc.length < sizeLine ∧ Nx (upd H4 D (.lst (acc ++ [y]))) := by
        have z := q8
        simp only [tYes, if_true] at z
        exact z
      have fin : ∀ {s' : Shared} {H' : Hp}, Inv (X.blk s3 H3 scope ce fp) ([] ++ pinsAt fp s7.heap) σ8 H' s' → Nx H' → ∃ m, m < n ∧ ∃ i H', Inv (X.blk s3 H3 scope ce fp) [] (wipe σ (own.map (·.2))) H' s' ∧ tn i s'.heap ∧ (∀ b ∈ fp, H' b = none) ∧ W i m H' := fun {s' H'} I' nx => by
        obtain ⟨m', hm, w'⟩ := hNx H' nx
        have pin' : ∀ b ∈ fp, ∀ o, s7.heap.get? b = some o → s'.heap.get? b = some o ∧ H' b = none := fun b hb o e =>
          let z := I'.pin (b, o) (List.mem_append_right _ (List.mem_append_right _ (mem_pinsAt hb e)))
          ⟨z.1, z.2.1⟩
        have hl : (wipe σ (own.map (·.2))).length = σ8.length := by rw [← hw8, wipe_length]
        refine ⟨m', hm, i + 1, H', (I'.unpinned (pins := [])).weak hl (fun j v e => ?_), T.keep _ _ _ st7 fun b hb o e => (pin' b hb o e).1, fun b hb => ?_, w'⟩
        · rw [← hw8] at e
          exact (wipe_some e).1
        · obtain ⟨o, e, _⟩ := T.obj _ _ st7 b hb
          exact (pin' b hb o e).2
      rw [if_pos rfl]
      refine wpAny_mono (pe.run _ s8 σ8 H8 _ (I8.wish _) q9) (fun z s10 ⟨yv, H10, I10, r10, acc, hD10, hz10, nx⟩ => ?_) fun e s' x => out e s' x
      exact app_ok (X := X.blk s3 H3 scope ce fp) I10.unwish hD10 hz10 r10 fun s11 I11 => fin I11 nx
  exact codeAny_compStart_list loop (T.self X.A 0 _ _ _ st4 loop)⟩
end
end Dl
set_option Elab.async false
set_option linter.all false
set_option maxRecDepth 100000
set_option maxHeartbeats 2000000
/-! Dl12: raising defs over data. -/
namespace Dl
open PySem PySem.Spec PyProof.Rows L2 Evl
/-- E takes an exception of class C whose field f is y, raised behind (B0, H0) -/
def HX (B0 H0 : Hp) (E : XK) (C : Addr) (f : Str) (y : D) : Prop := ∀ (B2 H2 : Hp) (dd : Addr) (v : V), Go triv B0 H0 B2 H2 → H2 dd = some (.xd [(f, v)]) → Is B2 y v → E (.ref C) (some dd) H2
/-- a def that gives F's value or raises what Z says -/
def xsp (F : List D → D → Prop) (Z : List D → Addr → Str → D → Prop) : Sp := fun vs H Q E => ∃ (B : Hp) (ds : List D), Ex B H ∧ IsL B ds vs ∧ ((∃ d, F ds d ∧ ∀ v B2 H2, Go triv B H B2 H2 → Is B2 d v → Q v H2) ∨ ∃ C f y, Z ds C f y ∧ HX B H E C f y)
structure XCal (P : Program) (w : World) (K : PySem.W.Frag) (mg : Str → Option Value) (base : Heap) (x : Str) (k : Nat) (sp : Sp) : Prop where
  ex : ∃ f fd ps, FnOk P w K mg base (L2.CX P w) k f fd ps sp ∧ mg x = some (.ref f) ∧ PySem.W.keepIn K (.ref f) = true ∧ Binds K fd ps []
/-- an expression that raises from such slots -/
def RZ (B0 H0 : Hp) (te : TE) (Γ : List Sl) : Prop := ∀ (B : Hp) (σ : L2.St) (H : Hp) (Q : VK), At triv B0 H0 B Γ σ H → te σ H Q
def RZA (B0 H0 : Hp) (ta : TA) (Γ : List Sl) : Prop := ∀ (B : Hp) (σ : L2.St) (H : Hp) (Q : List V → Hp → Prop), At triv B0 H0 B Γ σ H → ta σ H Q
section
variable {P : Program} {w : World} {K : PySem.W.Frag} {mg : Str → Option Value} {base : Heap} {X : Cx} {x : Str} {k : Nat} {sp : Sp} {p pos : Pos} {e : Expr} {es : List Expr} {t : TA} {E : XK}
theorem pe_xcal (C : XCal X.prog X.w X.K X.mg X.base x k sp) (hr : Room k X.A) (hg : Gl X x) (hx : Passes (L2.CX X.prog X.w) X E) (ha : PA X (e :: es) t) (hdb : (x == ("__debug__" : Str)) = false := by decide)
    (he : starEach (e :: es) X.env = (false, eval e X.env) :: starEach es X.env := by rfl) (hpl : (backTo pos (starEach es X.env)).any (·.1) = false := by rfl) : PE X (.Call (.Name x p) (e :: es) [] pos) (tCall sp [] E t) := by
  obtain ⟨f, fd, ps, F, hm, hk, hb⟩ := C.ex
  exact pe_call F hr hg hm hk hb .nil hx ha hdb he hpl
theorem pe_xcalS {E : L2.St → XK} (C : XCal X.prog X.w X.K X.mg X.base x k sp) (hr : Room k X.A) (hg : Gl X x) (hx : ∀ σ, PassesAt (L2.CX X.prog X.w) X σ (E σ)) (ha : PA X (e :: es) t) (hdb : (x == ("__debug__" : Str)) = false := by decide)
    (he : starEach (e :: es) X.env = (false, eval e X.env) :: starEach es X.env := by rfl) (hpl : (backTo pos (starEach es X.env)).any (·.1) = false := by rfl) : PE X (.Call (.Name x p) (e :: es) [] pos) (tCallS sp E t) := by
  obtain ⟨f, fd, ps, F, hm, hk, hb⟩ := C.ex
  exact pe_callS F hr hg hm hk hb hx ha hdb he hpl
/-- a raising def: its body's slots -/
theorem xsp_ok {n q : Str} {st : Stmt} {f : Addr} {fd : FuncData} {N ps : List Str} {F : List D → D → Prop} {Z : List D → Addr → Str → D → Prop} (Fd : FunD K n q (defArgs st) (defBody st) (defScope st) [] [] f fd) (S : FnScope N ps (defScope st))
    (len : ∀ ds, ((∃ d, F ds d) ∨ ∃ C f y, Z ds C f y) → ds.length = ps.length)
    (hbody : ∀ (cdv : Value) (A : Around) (outer : List Env) (s : Shared) (H : Hp) (E : XK), Room k (A.deeper (envOfC q (defScope st) s.heap.objs.size f cdv)) →
      ∃ t, PSs (cxOf (L2.CX P w) P w K mg base N q (defScope st) f cdv A outer s H E) (defBody st) t ∧ ∀ (B0 H0 : Hp) ds,
        (∀ d, F ds d → SS triv B0 H0 t (ds.map Sl.dat ++ List.replicate (N.length - ds.length) .no) (fun _ => d = .non) (fun x => x = d) (fun _ => False) (fun _ => False)) ∧
        (∀ C f y, Z ds C f y → HX B0 H0 E C f y → SS triv B0 H0 t (ds.map Sl.dat ++ List.replicate (N.length - ds.length) .no) (fun _ => False) (fun _ => False) (fun _ => False) (fun _ => False))) : FnOk P w K mg base (L2.CX P w) (k + 1) f fd ps (xsp F Z) := by
  refine Fd.ok S (fun vs H Q E h => ?_) fun cdv A outer s H vs Q E hr h => ?_
  · obtain ⟨B, ds, _, i, h⟩ := h
    rw [← i.len]
    refine len ds ?_
    rcases h with ⟨d, hF, _⟩ | ⟨C, f, y, hZ, _⟩
    · exact .inl ⟨d, hF⟩
    · exact .inr ⟨C, f, y, hZ⟩
  · obtain ⟨t, h1, h2⟩ := hbody cdv A outer s H E hr
    refine ⟨t, h1, ?_⟩
    obtain ⟨B, ds, e, i, h⟩ := h
    have a : At triv B H B (ds.map Sl.dat ++ List.replicate (N.length - ds.length) .no) (L2.start N vs) H := by
      rw [i.len]
      refine at_start (Fz.triv e) (by rw [List.length_map, i.len]) fun k s v e1 e2 => ?_
      rw [List.getElem?_map] at e1
      cases q : ds[k]? with
      | none => rw [q] at e1; cases e1
      | some x =>
        rw [q] at e1
        have e3 : Sl.dat x = s := Option.some.inj e1
        obtain ⟨u, hu, iu⟩ := i.at q
        rw [e2] at hu
        rw [← e3, Option.some.inj hu]
        exact ⟨rfl, u, rfl, iu⟩
    obtain ⟨ha, hb⟩ := h2 B H ds
    rcases h with ⟨d, hF, hq⟩ | ⟨C, f, y, hZ, hx⟩
    · exact ha d hF B _ H _ a (fun B' G s H' n a' _ => hq .non B' H' a'.go (by rw [n]; exact is_non.mpr rfl)) (fun v x B' H' r g iv => hq v B' H' g (r ▸ iv)) (fun _ _ _ _ z _ _ => z.elim) (fun _ _ _ _ z _ _ => z.elim)
    · exact hb C f y hZ hx B _ H _ a (fun _ _ _ _ z => z.elim) (fun _ _ _ _ z => z.elim) (fun _ _ _ _ z => z.elim) (fun _ _ _ _ z => z.elim)
end
section
variable {R : Reg} {K : PySem.W.Frag} {Γ : List Sl} {te ta : TE} {t : TA} {ds : List D} {d y : D} {C : Addr} {f : Str} {E : XK} {F : List D → D → Prop} {Z : List D → Addr → Str → D → Prop} {B0 H0 : Hp} {N : List Sl → Prop} {Rt : D → Prop} {Bk Ct : List Sl → Prop}
theorem ed_xcal (h : EDA R t Γ ds) (k : F ds d) : ED R (tCall (xsp F Z) [] E t) Γ d := fun B0 H0 B H σ a Q q => h B0 H0 B H σ a _ fun vs ds' B2 H2 g s i => by
  subst s
  exact ⟨B2, ds', g.fz.sub, by rw [List.append_nil]; exact i, .inl ⟨d, k, fun v B3 H3 g3 i3 => q v d B3 H3 (Go.trans a.fz g (Go.lift g.fz g3)) rfl i3⟩⟩
theorem ed_xcalS {E : L2.St → XK} (h : EDA R t Γ ds) (k : F ds d) : ED R (tCallS (xsp F Z) E t) Γ d := fun B0 H0 B H σ a Q q => h B0 H0 B H σ a _ fun vs ds' B2 H2 g s i => by
  subst s
  exact ⟨B2, ds', g.fz.sub, i, .inl ⟨d, k, fun v B3 H3 g3 i3 => q v d B3 H3 (Go.trans a.fz g (Go.lift g.fz g3)) rfl i3⟩⟩
theorem rz_xcal (h : EDA triv t Γ ds) (k : Z ds C f y) (hx : HX B0 H0 E C f y) : RZ B0 H0 (tCall (xsp F Z) [] E t) Γ := fun B σ H Q a => h B0 H0 B H σ a _ fun vs ds' B2 H2 g s i => by
  subst s
  exact ⟨B2, ds', g.fz.sub, by rw [List.append_nil]; exact i, .inr ⟨C, f, y, k, fun B3 H3 dd v g3 hd iv => hx B3 H3 dd v (Go.trans a.f0 (Go.trans a.f0 a.go g) g3) hd iv⟩⟩
theorem rza_hd {tr : TA} (h : RZ B0 H0 te Γ) : RZA B0 H0 (tCons te tr) Γ := fun B σ H Q a => h B σ H _ a
theorem rza_tl {tr : TA} (h : ED triv te Γ d) (hr : RZA B0 H0 tr Γ) : RZA B0 H0 (tCons te tr) Γ := fun B σ H Q a => h B0 H0 B H σ a _ fun v x B2 H2 g s i => hr B2 σ H2 _ (a.step g)
theorem rz_call {sp : Sp} {dvs : List V} (h : RZA B0 H0 t Γ) : RZ B0 H0 (tCall sp dvs E t) Γ := fun B σ H Q a => h B σ H _ a
theorem rz_cb {r : List V → Hp → VK → Prop} (h : RZA B0 H0 t Γ) : RZ B0 H0 (tCB r t) Γ := fun B σ H Q a => h B σ H _ a
theorem ss_rz {g : TG} (h : RZ B0 H0 te Γ) : SS triv B0 H0 (tAsg te g) Γ N Rt Bk Ct := fun B σ H E a _ _ _ _ => h B σ H _ a
theorem ss_rz_ret (h : RZ B0 H0 te Γ) : SS triv B0 H0 (tRet te) Γ N Rt Bk Ct := fun B σ H E a _ _ _ _ => h B σ H _ a
theorem ss_rz_drop (h : RZ B0 H0 te Γ) : SS triv B0 H0 (tDrop te) Γ N Rt Bk Ct := fun B σ H E a _ _ _ _ => h B σ H _ a
/-- [e for x in xs], the element raises at the k-th item -/
theorem rz_lc1 {α : Type} {wi : TI} {j : Nat} {xs : List α} (e : α → D) (g : Nat → D) (hi : WID triv wi Γ (xs.map e)) (k : Nat) (hk : k < xs.length) (hl : xs.length ≤ 100000) (hs : ∀ (i : Nat) (h : i < k), ED triv te ((Γ.set j .no).set j (.dat (e (xs[i]'(Nat.lt_trans h hk))))) (g i)) (hz : RZ B0 H0 te ((Γ.set j .no).set j (.dat (e xs[k])))) :
    RZ B0 H0 (tLc wi (gName j) tYes te [j]) Γ := fun B σ H Q a => hi B0 H0 B H σ a _ fun J xs' B1 H1 g1 sx y => by
  subst sx
  have a1 := a.step g1
  intro Dl hD
  have nr := g1.fz.nr hD
  have b1 := g1.fz.bnone hD
  refine ⟨fun i m H' => m = k - i ∧ i ≤ k ∧ ∃ B' ws, Go triv B1 H1 B' H' ∧ B' Dl = none ∧ H' Dl = some (.lst ws) ∧ ws.length = i, ⟨k, by omega, Nat.zero_le _, B1, [], Go.own g1.fz hD, b1, upd_same, rfl⟩, ?_⟩
  rintro i m H' ⟨rfl, hik, B', ws, g2, b2, h2, hw⟩
  have hix : i < xs.length := Nat.lt_of_le_of_lt hik hk
  obtain ⟨_, y2⟩ := y B' H' i g2.ext g2.fz
  obtain ⟨go, yy⟩ := y2 (e xs[i]) (by rw [List.getElem?_map, List.getElem?_eq_getElem hix]; rfl)
  refine .inr ⟨go, fun H'' => i < k ∧ ∃ B' ws, Go triv B1 H1 B' H'' ∧ B' Dl = none ∧ H'' Dl = some (.lst ws) ∧ ws.length = i + 1, fun H'' h => ⟨k - (i + 1), by omega, rfl, h.1, h.2⟩, fun v H3 yv => ?_⟩
  obtain ⟨B3, g3, iv⟩ := yy v H3 yv
  have g23 := Go.trans g1.fz g2 g3
  have keep : ∀ {Bx Hx : Hp}, Go triv B' H' Bx Hx → Bx Dl = none ∧ Hx Dl = some (.lst ws) := fun {Bx Hx} gx => ⟨(gx.new Dl _ h2).trans b2, gx.mv Dl _ nr h2⟩
  refine ⟨by
    show (((σ.set j none).set j (some v)).set j none) = σ.set j none
    rw [List.set_set, List.set_set], ?_⟩
  have a3 : At triv B0 H0 B3 ((Γ.set j .no).set j (.dat (e xs[i]))) ((wipe σ [j]).set j (some v)) H3 := ((a1.step g23).wipe [j]).putDat iv
  refine yes_true ?_
  dsimp only
  rw [if_pos rfl]
  by_cases hlt : i < k
  · refine hs i hlt B0 H0 B3 H3 _ a3 _ fun u d' B5 H5 g5 sd id => ?_
    have g35 := Go.trans g2.fz g3 g5
    obtain ⟨k1, k2⟩ := keep g35
    exact ⟨ws, k2, sz_lt (by omega), hlt, B5, ws ++ [u], (Go.trans g1.fz g2 g35).wr hD k1 nr, k1, upd_same, by rw [List.length_append, hw]; rfl⟩
  · have hik2 : i = k := by omega
    subst hik2
    exact hz B3 _ H3 _ a3
end
/-! ### an own exception's __init__ with one field, raise -/
def eisp (C : Addr) (f : Str) : Sp := fun vs H Q _ => ∃ (a : Addr) (y : V), vs = [.ref a, y] ∧ H a = some (exo a C none) ∧ ∀ dx, H dx = none → dx ≠ a → Q .non (upd (upd H dx (exd dx [(f, y)])) a (exo a C (some dx)))
structure EIn (P : Program) (w : World) (K : PySem.W.Frag) (mg : Str → Option Value) (base : Heap) (x : Str) (C : Addr) (f : Str) (k : Nat) : Prop where
  ex : ∃ fI fd ps, OexC K C ∧ PySem.W.findIn K (.ref C) "__init__" = some (some (.ref fI)) ∧ PySem.W.typeIn K (.ref fI) = some (.type "function") ∧ FnOk P w K mg base CX0 k fI fd ps (eisp C f) ∧ Binds K fd ps [] ∧ mg x = some (.ref C)
/-- raise C(y) -/
def tRz (E : XK) (C : Addr) (f : Str) (ta : TA) : TS := fun _ σ H => tMkO C (eisp C f) [] ta σ H fun cls d H' => E cls d H'
section
variable {P : Program} {w : World} {K : PySem.W.Frag} {mg : Str → Option Value} {base : Heap} {X : Cx} {x f : Str} {C : Addr} {k : Nat} {p pos pos2 : Pos} {e : Expr} {es : List Expr} {t : TA} {E : XK}
theorem ps_rz (M : EIn X.prog X.w X.K X.mg X.base x C f k) (hc : X.calm = true) (hr : Room (k + 1) X.A) (tk : Takes X fun cls d _ H => E cls d H) (hg : Gl X x) (ha : PA X (e :: es) t) (hdb : (x == ("__debug__" : Str)) = false := by decide)
    (he : starEach (e :: es) X.env = (false, eval e X.env) :: starEach es X.env := by rfl) (hpl : (backTo pos (starEach es X.env)).any (·.1) = false := by rfl) : PS X (.Raise (some (.Call (.Name x p) (e :: es) [] pos)) none pos2) (tRz E C f t) := by
  obtain ⟨fI, fd, ps, T, iC, tI, F1, hb, hm⟩ := M.ex
  exact ps_raise hc tk (pmk_oex T iC tI F1 hr hb .nil pass0 hg hm ha hdb he hpl)
end
section
variable {Γ : List Sl} {t : TA} {y : D} {C : Addr} {f : Str} {E : XK} {B0 H0 : Hp} {N : List Sl → Prop} {Rt : D → Prop} {Bk Ct : List Sl → Prop}
theorem ss_raise (h : EDA triv t Γ [y]) (hx : HX B0 H0 E C f y) : SS triv B0 H0 (tRz E C f t) Γ N Rt Bk Ct := fun B σ H E' a _ _ _ _ => h B0 H0 B H σ a _ fun vs ds B2 H2 g s i => by
  subst s
  obtain ⟨v, ev, iv⟩ := isl1 i
  subst ev
  refine ⟨by show 1 ≤ 1000; decide, fun b hb => ⟨b, v, rfl, upd_same, fun dx hdx ne => ⟨rfl, dx, [(f, v)], upd_same, ?_, ?_, ?_⟩⟩⟩
  · rw [upd_ne ne, upd_same]
  · rw [upd_ne ne] at hdx
    exact hdx
  · have e : upd (del (upd (upd (upd H2 b (exo b C none)) dx (exd dx [(f, v)])) b (exo b C (some dx))) b) dx (.xd [(f, v)]) = upd H2 dx (.xd [(f, v)]) := by
      funext c
      by_cases hc : c = dx
      · rw [hc, upd_same, upd_same]
      · rw [upd_ne hc, upd_ne hc]
        by_cases hcb : c = b
        · rw [hcb, del_same, hb]
        · rw [del_ne hcb, upd_ne hcb, upd_ne hc, upd_ne hcb]
    rw [e]
    have hd : H2 dx = none := by
      rw [upd_ne ne] at hdx
      exact hdx
    have g2 : Go triv B2 H2 B2 (upd H2 dx (.xd [(f, v)])) := Go.own g.fz hd
    exact hx B2 _ dx v (Go.trans a.f0 (Go.trans a.f0 a.go g) g2) upd_same iv
end
/-- an exception's __init__ of that form -/
theorem ein_mk {P : Program} {w : World} {K : PySem.W.Frag} {mg : Str → Option Value} {base : Heap} {x n q f : Str} {C fI : Addr} {st : Stmt} {N ps : List Str} (Fd : ∃ fd, FunD K n q (defArgs st) (defBody st) (defScope st) [] [] fI fd) (T : OexC K C) (iC : PySem.W.findIn K (.ref C) "__init__" = some (some (.ref fI)))
    (tI : PySem.W.typeIn K (.ref fI) = some (.type "function")) (g : mg x = some (.ref C)) (hno : PySem.W.findIn K (.ref C) f = some none) (S : FnScope N ps (defScope st)) (hps : ps.length = 2) (hN : N.length = 2)
    (hb : ∀ (kV doc pm : Value) (an : Option Addr) (cdv ct : Value) (us : List Value), us.length = ps.length → bindArgs (PySem.W.fnOf n q (defArgs st) (defBody st) (defScope st) .none kV doc pm an cdv ct) ⟨us, []⟩ = pure (ps.zip us))
    (hbody : ∀ (cdv : Value) (A : Around) (outer : List Env) (s : Shared) (H : Hp) (E : XK), Room 0 (A.deeper (envOfC q (defScope st) s.heap.objs.size fI cdv)) → PSs (cxOf CX0 P w K mg base N q (defScope st) fI cdv A outer s H E).nox (defBody st) (tOst K f (tVar 0) (tVar 1))) : EIn P w K mg base x C f 1 := by
  obtain ⟨fd, Fd⟩ := Fd
  refine ⟨fI, fd, ps, T, iC, tI, Fd.ok S (fun vs H Q E h => ?_) fun cdv A outer s H vs Q E hr h => ⟨_, PSs.nox (hbody cdv A outer s H E hr), ?_⟩, Fd.bindsN hb, g⟩
  · obtain ⟨a, y, ev, _⟩ := h
    rw [ev, hps]
    rfl
  · obtain ⟨a, y, ev, ha, hq⟩ := h
    subst ev
    have st : L2.start N [V.ref a, y] = [some (.ref a), some y] := by
      unfold L2.start
      rw [hN]
      rfl
    rw [st]
    exact ⟨y, rfl, .ref a, rfl, a, C, rfl, T, hno, .inl ⟨ha, fun dx h1 h2 => hq dx h1 h2⟩⟩
/-! ### methods -/
theorem look_none {m : Str} : ∀ {ks : List Str} {vs : List V}, m ∉ ks → (ks.zip vs).lookup m = none
  | [], _, _ => rfl
  | _ :: _, [], _ => rfl
  | k :: ks, v :: vs, h => by
    have hk : ¬ m = k := fun z => h (z ▸ List.mem_cons_self)
    show ((k, v) :: ks.zip vs).lookup m = none
    rw [List.lookup_cons, beq_eq_false_iff_ne.mpr hk]
    exact look_none fun z => h (List.mem_cons_of_mem _ z)
structure XMet (P : Program) (w : World) (K : PySem.W.Frag) (mg : Str → Option Value) (base : Heap) (C : Addr) (m : Str) (k : Nat) (sp : Sp) : Prop where
  ex : ∃ f fd ps, Meth K C m f ∧ FnOk P w K mg base (L2.CX P w) k f fd ps sp ∧ Binds K fd ps []
def stsp (n : Nat) (sp : Sp) : Sp := fun vs H Q E => ∃ ws rest, vs = ws ++ rest ∧ ws.length = n ∧ rest.length ≤ sizeLine ∧ ∀ p, H p = none → sp (ws ++ [V.ref p]) (upd H p (.tup rest)) Q E
section
variable {X : Cx} {C g : Addr} {m : Str} {k : Nat} {sp : Sp} {o e : Expr} {es : List Expr} {ta te : TE} {t : TA} {apos pos p : Pos} {E : XK}
theorem pe_xmeth {pl : Sem Bool} (M : XMet X.prog X.w X.K X.mg X.base C m k sp) (he : PE X o ta) (c : Cls X.K C) (hr : Room k X.A) (hx : Passes (L2.CX X.prog X.w) X E) (ha : PA X (e :: es) t)
    (hst : starEach (e :: es) X.env = (false, eval e X.env) :: starEach es X.env := by rfl) (hpl : (backTo pos (starEach es X.env)).any (·.1) = false := by rfl)
    (ht : eval (.Call (.Attribute o m apos) (e :: es) [] pos) X.env = (do
      let ov ← eval o X.env
      standAt apos.atName
      let (f, first) ← holding [ov] (getMethod ov m pl)
      callWith pos f first (backTo pos (starEach (e :: es) X.env)) (backToKw pos (keywordEach [] X.env))) := by rfl) : PE X (.Call (.Attribute o m apos) (e :: es) [] pos) (tMeth C m sp [] E ta t) := by
  obtain ⟨f, fd, ps, hm, F, hb⟩ := M.ex
  exact pe_meth (pl := pl) he c hm F hr hb .nil hx ha hst hpl ht
theorem pe_methSK (K : PySem.W.Frag) {CX : CXT} (he : PE X o ta) (c : Cls X.K C) (b : BMeth X.K C m g) (F : FnR X.prog X.w X.K X.mg X.base CX k g sp) (hr : Room k X.A)
    (hx : Passes CX X E) (ha : PE X e te) (hbase : attributeBase o m X.env (eval o X.env) = eval o X.env := by rfl) (eK : X.K = K := by rfl) : PE X (.Call (.Attribute o m apos) [.Starred e p] [] pos) (tMethS K C m g sp E ta te) := eK ▸ pe_methS he c b F hr hx ha hbase
end
section
variable {R : Reg} {K : PySem.W.Frag} {Γ : List Sl} {te ta : TE} {t : TA} {ds fs : List D} {ks : List Str} {d y : D} {C D0 g : Addr} {m f : Str} {E : XK} {F : List D → D → Prop} {Z : List D → Addr → Str → D → Prop} {B0 H0 : Hp}
theorem ed_xmeth (h : ED R ta Γ (.obj C ks fs)) (hm : m ∉ ks) (ha : EDA R t Γ ds) (k : F (.obj C ks fs :: ds) d) : ED R (tMeth C m (xsp F Z) [] E ta t) Γ d := fun B0 H0 B H σ a Q q => h B0 H0 B H σ a _ fun v x B1 H1 g1 s1 i1 => by
  subst s1
  obtain ⟨b, dx, vs, ev, h1, _, _⟩ := is_obj.mp i1
  refine ⟨b, dx, _, ev, g1.fz.sub _ _ h1, look_none hm, ha B0 H0 B1 H1 σ (a.step g1) _ fun us ds' B2 H2 g2 s2 i2 => ?_⟩
  subst s2
  exact ⟨B2, .obj C ks fs :: ds', g2.fz.sub, by rw [List.append_nil]; exact isl_mk (i1.mono g2.ext) i2, .inl ⟨d, k, fun v B3 H3 g3 i3 => q v d B3 H3 (Go.trans a.fz (Go.trans a.fz g1 g2) (Go.lift g2.fz g3)) rfl i3⟩⟩
theorem rz_xmeth (h : ED triv ta Γ (.obj C ks fs)) (hm : m ∉ ks) (ha : EDA triv t Γ ds) (k : Z (.obj C ks fs :: ds) D0 f y) (hx : HX B0 H0 E D0 f y) : RZ B0 H0 (tMeth C m (xsp F Z) [] E ta t) Γ := fun B σ H Q a => h B0 H0 B H σ a _ fun v x B1 H1 g1 s1 i1 => by
  subst s1
  obtain ⟨b, dx, vs, ev, h1, _, _⟩ := is_obj.mp i1
  refine ⟨b, dx, _, ev, g1.fz.sub _ _ h1, look_none hm, ha B0 H0 B1 H1 σ (a.step g1) _ fun us ds' B2 H2 g2 s2 i2 => ?_⟩
  subst s2
  exact ⟨B2, .obj C ks fs :: ds', g2.fz.sub, by rw [List.append_nil]; exact isl_mk (i1.mono g2.ext) i2, .inr ⟨D0, f, y, k, fun B3 H3 dd v g3 hd iv => hx B3 H3 dd v (Go.trans a.f0 (Go.trans a.f0 (Go.trans a.f0 a.go g1) g2) g3) hd iv⟩⟩
theorem ed_xmethS (h : ED R ta Γ (.obj C ks fs)) (hm : m ∉ ks) (ha : ED R te Γ (.tup ds)) (hl : ds.length ≤ 100000) (k : F [.obj C ks fs, .tup ds] d) : ED R (tMethS K C m g (stsp 1 (xsp F Z)) E ta te) Γ d := fun B0 H0 B H σ a Q q => h B0 H0 B H σ a _ fun v x B1 H1 g1 s1 i1 => by
  subst s1
  obtain ⟨b, dx, vs, ev, h1, _, _⟩ := is_obj.mp i1
  refine ⟨b, dx, _, ev, g1.fz.sub _ _ h1, look_none hm, fun mq hq => ?_⟩
  have g2 : Go R B1 H1 B1 (upd H1 mq (.met g b)) := Go.own g1.fz hq
  refine ha B0 H0 B1 _ σ ((a.step g1).step g2) _ fun u y B3 H3 g3 s3 i3 => ?_
  subst s3
  obtain ⟨p, ws, eu, hp, iw⟩ := is_tup.mp i3
  refine ⟨p, ws, eu, SqT.of (g3.fz.sub _ _ hp), g3.mv mq _ (g1.fz.nr hq) upd_same, [.ref b], ws, rfl, rfl, sz_of (by rw [← iw.len]; exact hl), fun pn hn => ?_⟩
  have g4 : Go R B3 H3 (upd B3 pn (.tup ws)) (upd H3 pn (.tup ws)) := Go.newF g3.fz hn
  have ext4 := g3.ext.trans g4.ext
  rw [ev] at i1
  exact ⟨_, [.obj C ks fs, .tup ds], g4.fz.sub, isl_mk (i1.mono ext4) (IsL.one (is_tup.mpr ⟨pn, ws, rfl, upd_same, iw.mono g4.ext⟩)), .inl ⟨d, k, fun v B5 H5 g5 i5 => q v d B5 H5 (Go.trans a.fz (Go.trans a.fz (Go.trans a.fz (Go.trans a.fz g1 g2) g3) g4) (Go.lift g4.fz g5)) rfl i5⟩⟩
theorem rz_xmethS (h : ED triv ta Γ (.obj C ks fs)) (hm : m ∉ ks) (ha : ED triv te Γ (.tup ds)) (hl : ds.length ≤ 100000) (k : Z [.obj C ks fs, .tup ds] D0 f y) (hx : HX B0 H0 E D0 f y) : RZ B0 H0 (tMethS K C m g (stsp 1 (xsp F Z)) E ta te) Γ := fun B σ H Q a => h B0 H0 B H σ a _ fun v x B1 H1 g1 s1 i1 => by
  subst s1
  obtain ⟨b, dx, vs, ev, h1, _, _⟩ := is_obj.mp i1
  refine ⟨b, dx, _, ev, g1.fz.sub _ _ h1, look_none hm, fun mq hq => ?_⟩
  have g2 : Go triv B1 H1 B1 (upd H1 mq (.met g b)) := Go.own g1.fz hq
  refine ha B0 H0 B1 _ σ ((a.step g1).step g2) _ fun u y' B3 H3 g3 s3 i3 => ?_
  subst s3
  obtain ⟨p, ws, eu, hp, iw⟩ := is_tup.mp i3
  refine ⟨p, ws, eu, SqT.of (g3.fz.sub _ _ hp), g3.mv mq _ (g1.fz.nr hq) upd_same, [.ref b], ws, rfl, rfl, sz_of (by rw [← iw.len]; exact hl), fun pn hn => ?_⟩
  have g4 : Go triv B3 H3 (upd B3 pn (.tup ws)) (upd H3 pn (.tup ws)) := Go.newF g3.fz hn
  have ext4 := g3.ext.trans g4.ext
  rw [ev] at i1
  exact ⟨_, [.obj C ks fs, .tup ds], g4.fz.sub, isl_mk (i1.mono ext4) (IsL.one (is_tup.mpr ⟨pn, ws, rfl, upd_same, iw.mono g4.ext⟩)), .inr ⟨D0, f, y, k, fun B5 H5 dd v g5 hd iv => hx B5 H5 dd v (Go.trans a.f0 (Go.trans a.f0 (Go.trans a.f0 (Go.trans a.f0 (Go.trans a.f0 a.go g1) g2) g3) g4) g5) hd iv⟩⟩
end
/-! ### the promise by a witness -/
def FA {α : Type} (args : α → List D) (pre : α → Prop) (res : α → Option D) (ds : List D) (d : D) : Prop := ∃ a, pre a ∧ ds = args a ∧ res a = some d
def ZA {α : Type} (args : α → List D) (pre : α → Prop) (res : α → Option D) (exc : α → Addr × Str × D) (ds : List D) (C : Addr) (f : Str) (y : D) : Prop := ∃ a, pre a ∧ ds = args a ∧ res a = none ∧ C = (exc a).1 ∧ f = (exc a).2.1 ∧ y = (exc a).2.2
theorem ss_mono {R : Reg} {B0 H0 : Hp} {t : TS} {Γ : List Sl} {N N' Bk Bk' Ct Ct' : List Sl → Prop} {Rt Rt' : D → Prop} (h : SS R B0 H0 t Γ N Rt Bk Ct) (h1 : ∀ G, N G → N' G) (h2 : ∀ d, Rt d → Rt' d) (h3 : ∀ G, Bk G → Bk' G) (h4 : ∀ G, Ct G → Ct' G) : SS R B0 H0 t Γ N' Rt' Bk' Ct' := fun B σ H E a n r b c =>
  h B σ H E a (fun B' G σ' H' x => n B' G σ' H' (h1 G x)) (fun v d B' H' x => r v d B' H' (h2 d x)) (fun B' G σ' H' x => b B' G σ' H' (h3 G x)) (fun B' G σ' H' x => c B' G σ' H' (h4 G x))
theorem xspA_ok {P : Program} {w : World} {K : PySem.W.Frag} {mg : Str → Option Value} {base : Heap} {k : Nat} {α : Type} {args : α → List D} {pre : α → Prop} {res : α → Option D} {exc : α → Addr × Str × D} {n q : Str} {st : Stmt} {f : Addr} {fd : FuncData} {N ps : List Str}
    (Fd : FunD K n q (defArgs st) (defBody st) (defScope st) [] [] f fd) (S : FnScope N ps (defScope st)) (len : ∀ a, (args a).length = ps.length)
    (hbody : ∀ (cdv : Value) (A : Around) (outer : List Env) (s : Shared) (H : Hp) (E : XK), Room k (A.deeper (envOfC q (defScope st) s.heap.objs.size f cdv)) →
      ∃ t, PSs (cxOf (L2.CX P w) P w K mg base N q (defScope st) f cdv A outer s H E) (defBody st) t ∧ ∀ (B0 H0 : Hp) a, pre a → (res a = none → HX B0 H0 E (exc a).1 (exc a).2.1 (exc a).2.2) →
        SS triv B0 H0 t ((args a).map Sl.dat ++ List.replicate (N.length - (args a).length) .no) (fun _ => res a = some .non) (fun x => res a = some x) (fun _ => False) (fun _ => False)) : FnOk P w K mg base (L2.CX P w) (k + 1) f fd ps (xsp (FA args pre res) (ZA args pre res exc)) := by
  refine xsp_ok Fd S ?_ fun cdv A outer s H E hr => ?_
  · rintro ds (⟨d, a, _, e, _⟩ | ⟨C, f, y, a, _, e, _⟩) <;> rw [e] <;> exact len a
  · obtain ⟨t, h1, h2⟩ := hbody cdv A outer s H E hr
    refine ⟨t, h1, fun B0 H0 ds => ⟨?_, ?_⟩⟩
    · rintro d ⟨a, hp, rfl, hv⟩
      exact ss_mono (h2 B0 H0 a hp fun hz => by rw [hv] at hz; cases hz) (fun _ z => by rw [hv] at z; exact Option.some.inj z) (fun x z => by rw [hv] at z; exact (Option.some.inj z).symm) (fun _ z => z) (fun _ z => z)
    · rintro C f y ⟨a, hp, rfl, hv, rfl, rfl, rfl⟩ hx
      exact ss_mono (h2 B0 H0 a hp fun _ => hx) (fun _ z => by rw [hv] at z; cases z) (fun x z => by rw [hv] at z; cases z) (fun _ z => z) (fun _ z => z)
/-- a body that keeps a raising promise, from its slots' word -/
theorem xspA_run {α : Type} {args : α → List D} {pre : α → Prop} {res : α → Option D} {exc : α → Addr × Str × D} {t : TS} {N : List Str} {vs : List V} {H : Hp} {Q : VK} {E : XK} (h : xsp (FA args pre res) (ZA args pre res exc) vs H Q E)
    (h2 : ∀ (B0 H0 : Hp) a, pre a → (res a = none → HX B0 H0 E (exc a).1 (exc a).2.1 (exc a).2.2) → SS triv B0 H0 t ((args a).map Sl.dat ++ List.replicate (N.length - (args a).length) .no) (fun _ => res a = some .non) (fun x => res a = some x) (fun _ => False) (fun _ => False)) :
    t { nx := fun _ H' => Q .non H', rt := Q } (L2.start N vs) H := by
  obtain ⟨B, ds, e, i, h⟩ := h
  have st : ∀ ds', ds' = ds → At triv B H B (ds'.map Sl.dat ++ List.replicate (N.length - ds'.length) .no) (L2.start N vs) H := fun ds' ed => by
    rw [ed, i.len]
    refine at_start (Fz.triv e) (by rw [List.length_map, i.len]) fun k s v e1 e2 => ?_
    rw [List.getElem?_map] at e1
    cases q : ds[k]? with
    | none => rw [q] at e1; cases e1
    | some x =>
      rw [q] at e1
      have e3 : Sl.dat x = s := Option.some.inj e1
      obtain ⟨u, hu, iu⟩ := i.at q
      rw [e2] at hu
      rw [← e3, Option.some.inj hu]
      exact ⟨rfl, u, rfl, iu⟩
  rcases h with ⟨d, ⟨a, hp, ed, hv⟩, hq⟩ | ⟨C, f, y, ⟨a, hp, ed, hv, eC, ef, ey⟩, hx⟩
  · refine h2 B H a hp (fun hz => by rw [hv] at hz; cases hz) B _ H _ (st _ ed.symm) (fun B' G σ' H' n a' _ => hq .non B' H' a'.go ?_) (fun v x B' H' r g iv => hq v B' H' g ?_) (fun _ _ _ _ z _ _ => z.elim) (fun _ _ _ _ z _ _ => z.elim)
    · rw [hv] at n
      rw [Option.some.inj n]
      exact is_non.mpr rfl
    · rw [hv] at r
      rw [Option.some.inj r]
      exact iv
  · refine h2 B H a hp (fun _ => by rw [← eC, ← ef, ← ey]; exact hx) B _ H _ (st _ ed.symm) (fun B' G σ' H' n a' _ => ?_) (fun v x B' H' r g iv => ?_) (fun _ _ _ _ z _ _ => z.elim) (fun _ _ _ _ z _ _ => z.elim)
    · rw [hv] at n
      cases n
    · rw [hv] at r
      cases r
/-- a method self, *rest -/
theorem star_ok {P : Program} {w : World} {K : PySem.W.Frag} {mg : Str → Option Value} {base : Heap} {k : Nat} {α : Type} {args : α → List D} {pre : α → Prop} {res : α → Option D} {exc : α → Addr × Str × D} {n q p1 pv : Str} {st : Stmt} {f : Addr} {fd : FuncData} {N : List Str}
    (Fd : FunD K n q (defArgs st) (defBody st) (defScope st) [] [] f fd) (S : FnScope N [p1, pv] (defScope st))
    (h0 : ∀ (kV doc pm : Value) (an : Option Addr) (cdv ct a : Value), bindArgs (PySem.W.fnOf n q (defArgs st) (defBody st) (defScope st) .none kV doc pm an cdv ct) ⟨[a], []⟩ = (newTuple [] >>= fun t => pure [(p1, a), (pv, t)]))
    (h1 : ∀ (kV doc pm : Value) (an : Option Addr) (cdv ct a r : Value) (rs : List Value), bindArgs (PySem.W.fnOf n q (defArgs st) (defBody st) (defScope st) .none kV doc pm an cdv ct) ⟨a :: r :: rs, []⟩ = (newTuple (r :: rs) >>= fun t => pure [(p1, a), (pv, t)]))
    (hbody : ∀ (cdv : Value) (A : Around) (outer : List Env) (s : Shared) (H : Hp) (E : XK), Room k (A.deeper (envOfC q (defScope st) s.heap.objs.size f cdv)) →
      ∃ t, PSs (cxOf (L2.CX P w) P w K mg base N q (defScope st) f cdv A outer s H E) (defBody st) t ∧ ∀ (B0 H0 : Hp) a, pre a → (res a = none → HX B0 H0 E (exc a).1 (exc a).2.1 (exc a).2.2) →
        SS triv B0 H0 t ((args a).map Sl.dat ++ List.replicate (N.length - (args a).length) .no) (fun _ => res a = some .non) (fun x => res a = some x) (fun _ => False) (fun _ => False)) : FnR P w K mg base (L2.CX P w) (k + 1) f (stsp 1 (xsp (FA args pre res) (ZA args pre res exc))) := by
  obtain ⟨oc, od, dV, kV, doc, pm, an, cdv, ct, osl, rfl, lk, hcd, hD, _⟩ := Fd.ex
  have hn : dV = .none := by
    rcases hD with ⟨_, e⟩ | ⟨e, _⟩
    · exact e
    · exact absurd rfl e
  subst hn
  refine StX.fn_star (ps := [p1]) lk hcd S StX.cxUp (StX.bind_star1 (B := fun us => bindArgs (PySem.W.fnOf n q (defArgs st) (defBody st) (defScope st) .none kV doc pm an cdv ct) ⟨us, []⟩) (fun a => h0 kV doc pm an cdv ct a) (fun a r rs => h1 kV doc pm an cdv ct a r rs)) fun A outer s H vs Q E hr hsp => ?_
  obtain ⟨t, g1, g2⟩ := hbody cdv A outer s H E hr
  exact ⟨t, g1, xspA_run hsp g2⟩
theorem bmeth_of {K : PySem.W.Frag} {C g : Addr} {m : Str} (M : Meth K C m g) (hc : PySem.W.copiedNames.contains m = false) (hf : PySem.W.fnIn K g = true) : BMeth K C m g := by
  have ht : PySem.W.typeIn K (.ref g) = some (.type "function") := beq_iff_eq.mp M.fn
  refine ⟨M, ?_, ?_, hc, hf⟩
  · unfold PySem.W.specialIn
    rw [ht]
    rfl
  · unfold PySem.W.takesIn PySem.W.specialIn
    rw [ht]
    rfl
end Dl
set_option Elab.async false
set_option linter.all false
set_option maxRecDepth 100000
/-! Dl13: dicts of one's own whose keys are nested tuples. -/
namespace Dl
open PySem PySem.Spec PyProof.Rows L2 Evl
mutual
/-- a value as a key -/
def nk : D → NestedKey
  | .non => .none
  | .bl b => .num (if b = true then 1 else 0)
  | .int i => .num i
  | .str x => .text x
  | .tup ds => .tup (nks ds)
  | .lst _ => .none
  | .obj _ _ _ => .none
def nks : List D → List NestedKey
  | [] => []
  | d :: ds => nk d :: nks ds
end
section
variable {P : Program} {w : World} {B H : Hp} {h : Heap}
mutual
theorem nest_of (ok : HOk P w H h) (e : Ex B H) : ∀ (d : D) {v : V} {u : Value}, flat d = true → Is B d v → RelV v u → NestedIs h (nk d) u
  | .non, v, u, _, i, r => by
    rw [is_non.mp i] at r
    have e2 : u = Value.none := r
    rw [e2]
    exact .none
  | .bl b, v, u, _, i, r => by
    rw [is_bl.mp i] at r
    have e2 : u = Value.bool b := r
    rw [e2]
    exact .bool rfl
  | .int j, v, u, _, i, r => by
    rw [is_int.mp i] at r
    obtain ⟨t, e2⟩ := (show ∃ t, u = Value.int j t from r)
    rw [e2]
    exact .int j t
  | .str x, v, u, _, i, r => by
    rw [is_str.mp i] at r
    obtain ⟨t, e2⟩ := (show ∃ t, u = Value.str x t from r)
    rw [e2]
    exact .text x t
  | .tup ds, v, u, f, i, r => by
    obtain ⟨a, vs, e1, e2, e3⟩ := is_tup.mp i
    rw [e1] at r
    have eu : u = Value.ref a := r
    obtain ⟨_, its, rv, o, ho, hc, n, hd⟩ := (show ObjOk P w H h a (.tup vs) from ok a _ (e a _ e2))
    rw [eu]
    unfold flat at f
    exact .tup ho hc hd (by simpa using nests_of ok e ds f e3 rv)
  | .lst ds, v, u, f, i, r => by unfold flat at f; cases f
  | .obj C ks ds, v, u, f, i, r => by unfold flat at f; cases f
theorem nests_of (ok : HOk P w H h) (e : Ex B H) : ∀ (ds : List D) {vs : List V} {us : List Value}, flatL ds = true → IsL B ds vs → Vals vs us → NestedAll h (nks ds) us
  | [], vs, us, _, i, r => by
    rw [isl_nil.mp i] at r
    cases r
    exact .nil
  | d :: ds, vs, us, f, i, r => by
    obtain ⟨v, rest, e1, i1, i2⟩ := isl_cons.mp i
    rw [e1] at r
    unfold flatL at f
    rw [Bool.and_eq_true] at f
    cases r with
    | cons r1 r2 => exact .cons (nest_of ok e d f.1 i1 r1) (nests_of ok e ds f.2 i2 r2)
end
/-- at a stands a tuple that is the key k -/
def KeyAt (H : Hp) (k : NestedKey) (a : Addr) : Prop := ∃ d, flat d = true ∧ nk d = k ∧ k.depth ≤ 8 ∧ Is H d (.ref a)
theorem KeyAt.is (ok : HOk P w H h) {k : NestedKey} {a : Addr} (x : KeyAt H k a) : (nestedKind P w).is h k a := by
  obtain ⟨d, f, e, dp, i⟩ := x
  exact ⟨e ▸ nest_of ok (Ex.refl H) d f i rfl, dp⟩
theorem KeyAt.mono {H2 : Hp} {k : NestedKey} {a : Addr} (e : Ex H H2) (x : KeyAt H k a) : KeyAt H2 k a := by
  obtain ⟨d, f, e1, dp, i⟩ := x
  exact ⟨d, f, e1, dp, i.mono e⟩
end
/-! ### the dict, tracked -/
abbrev NRow := NestedKey × Addr × V
def rowsRel : List NRow → List (NestedKey × Addr × Value) → Prop := Paired fun p q => p.1 = q.1 ∧ p.2.1 = q.2.1 ∧ RelV p.2.2 q.2.2
def NdO (P : Program) (w : World) (a : Addr) (xs : List NRow) : HO := .ext fun h => (a == sysModules) = false ∧ ∃ (ys : List (NestedKey × Addr × Value)) (o : Obj) (es : Array DictEntry) (ep : Nat), rowsRel xs ys ∧ h.get? a = some o ∧ o.ExactDict ∧ o.data = .dict es ep ∧ es.toList = ys.map (entryOfKey (nestedKind P w)) ∧ (ys.map (·.1)).Nodup
def valN (xs : List NRow) (k : NestedKey) : Option V := (xs.find? fun x => decide (x.1 = k)).map fun x => x.2.2
def putN (xs : List NRow) (k : NestedKey) (b : Addr) (v : V) : List NRow := if (valN xs k).isSome then xs.map (fun x => if x.1 = k then (x.1, x.2.1, v) else x) else xs ++ [(k, b, v)]
theorem valN_nil {k : NestedKey} : valN [] k = none := rfl
theorem valN_cons {k : NestedKey} {x : NRow} {xs : List NRow} : valN (x :: xs) k = if x.1 = k then some x.2.2 else valN xs k := by
  unfold valN
  rw [List.find?_cons]
  by_cases e : x.1 = k
  · rw [if_pos e, decide_eq_true e]
    rfl
  · rw [if_neg e, decide_eq_false e]
theorem rows_val : ∀ {xs : List NRow} {ys : List (NestedKey × Addr × Value)} (r : rowsRel xs ys) (k : NestedKey), RelO (valN xs k) ((atKey ys k).map (·.2))
  | _, _, .nil, k => True.intro
  | _, _, .cons (a := p) (b := q) (l₁ := xs) (l₂ := ys) h t, k => by
    obtain ⟨h1, _, h2⟩ := h
    rw [valN_cons]
    by_cases e : p.1 = k
    · have b : atKey (q :: ys) k = some q.2 := by simp [atKey, List.find?_cons, h1.symm.trans e]
      rw [if_pos e, b]
      exact h2
    · have e' : ¬ q.1 = k := fun z => e (h1.trans z)
      have b : atKey (q :: ys) k = atKey ys k := by simp [atKey, List.find?_cons, e']
      rw [if_neg e, b]
      exact rows_val t k
theorem rows_repl {k : NestedKey} {y : V} {u : Value} (ry : RelV y u) : ∀ {xs : List NRow} {ys : List (NestedKey × Addr × Value)} (r : rowsRel xs ys), rowsRel (xs.map fun x => if x.1 = k then (x.1, x.2.1, y) else x) (ys.map (putAt k u))
  | _, _, .nil => .nil
  | _, _, .cons (a := p) (b := q) h t => by
    rw [List.map_cons, List.map_cons]
    refine .cons ?_ (rows_repl ry t)
    obtain ⟨h1, h2, h3⟩ := h
    unfold putAt
    by_cases e : p.1 = k
    · rw [if_pos e, if_pos (h1.symm.trans e)]
      exact ⟨h1, h2, ry⟩
    · rw [if_neg e, if_neg (fun z => e (h1.trans z))]
      exact ⟨h1, h2, h3⟩
theorem rows_put {xs : List NRow} {ys : List (NestedKey × Addr × Value)} (r : rowsRel xs ys) (k : NestedKey) {b : Addr} {y : V} {u : Value} (ry : RelV y u) : rowsRel (putN xs k b y) (storedH ys k b u) := by
  have e : (valN xs k).isSome = (atKey ys k).isSome := by rw [(rows_val r k).isSome_eq, Option.isSome_map]
  unfold putN storedH
  rw [e]
  by_cases q : (atKey ys k).isSome = true
  · rw [if_pos q, if_pos q]
    exact rows_repl ry r
  · rw [if_neg q, if_neg q]
    exact Paired.snoc r ⟨rfl, rfl, ry⟩
theorem putN_len (xs : List NRow) (k : NestedKey) (b : Addr) (v : V) : (putN xs k b v).length ≤ xs.length + 1 := by
  unfold putN
  split
  · rw [List.length_map]
    omega
  · rw [List.length_append, List.length_cons, List.length_nil]
    omega
section
variable {P : Program} {w : World} {H : Hp} {h : Heap} {a : Addr} {xs : List NRow}
abbrev KeysAt (H : Hp) (xs : List NRow) : Prop := ∀ z ∈ xs, KeyAt H z.1 z.2.1
theorem rows_all {H : Hp} {p : NestedKey → Addr → Prop} : ∀ {xs : List NRow} {ys : List (NestedKey × Addr × Value)}, rowsRel xs ys → (∀ z ∈ xs, p z.1 z.2.1) → ∀ z ∈ ys, p z.1 z.2.1
  | _, _, .nil, _, z, hz => by cases hz
  | _, _, .cons (a := x) (b := y) hh t, hx, z, hz => by
    rcases List.mem_cons.mp hz with e | hz
    · rw [e, ← hh.1, ← hh.2.1]
      exact hx _ List.mem_cons_self
    · exact rows_all (H := H) t (fun z' h' => hx z' (List.mem_cons_of_mem _ h')) z hz
theorem nd_of (ok : HOk P w H h) (e : H a = some (NdO P w a xs)) (hk : KeysAt H xs) : (a == sysModules) = false ∧ ∃ ys, rowsRel xs ys ∧ h.DictOfH (nestedKind P w) a ys := by
  obtain ⟨⟨hd, ys, o, es, ep, r, h1, h2, h3, h4, h5⟩, _, _⟩ := (show ObjOk P w H h a (NdO P w a xs) from ok a _ e)
  exact ⟨hd, ys, r, o, es, ep, h1, h2, h3, h4, rows_all (H := H) (p := fun k b => (nestedKind P w).is h k b) r (fun z hz => (hk z hz).is ok), h5⟩
theorem nd_new {H' : Hp} {ys : List (NestedKey × Addr × Value)} (hd : (a == sysModules) = false) (r : rowsRel xs ys) (dd : h.DictOfH (nestedKind P w) a ys) : ObjOk P w H' h a (NdO P w a xs) := by
  obtain ⟨o, es, ep, h1, h2, h3, h4, _, h5⟩ := dd
  refine ⟨⟨hd, ys, o, es, ep, r, h1, h2, h3, h4, h5⟩, ⟨o, h1⟩, fun g1 g2 x k => ?_⟩
  obtain ⟨hd, ys, o, es, ep, r, h1, q⟩ := x
  exact ⟨hd, ys, o, es, ep, r, k o h1, q⟩
end
/-! ### readings and rules -/
section
variable (P : Program) (w : World)
def tNNew : TE := fun _ H Q => ∀ p, H p = none → Q (.ref p) (upd H p (NdO P w p []))
def NGet (H : Hp) (x y : V) (o : Option V) : Prop := ∃ a b k xs, x = .ref a ∧ y = .ref b ∧ H a = some (NdO P w a xs) ∧ KeysAt H xs ∧ KeyAt H k b ∧ o = valN xs k
def tNGet (td ty : TE) : TE := fun σ H Q => td σ H fun x H1 => ty σ H1 fun y H2 => ∃ v, NGet P w H2 x y (some v) ∧ Q v H2
def tNNotIn (ty td : TE) : TE := fun σ H Q => ty σ H fun y H1 => td σ H1 fun x H2 => ∃ o, NGet P w H2 x y o ∧ Q (.bl (!o.isSome)) H2
def sNPut (td ty tv : TE) : TS := fun D σ H => tv σ H fun v H1 => td σ H1 fun x H2 => ty σ H2 fun y H3 => ∃ a b k xs, x = .ref a ∧ y = .ref b ∧ H3 a = some (NdO P w a xs) ∧ KeysAt H3 xs ∧ KeyAt H3 k b ∧ xs.length < 1000 ∧ D.nx σ (upd H3 a (NdO P w a (putN xs k b v)))
def rLenN : List V → Hp → VK → Prop := fun vs H Q => ∃ (a : Addr) (xs : List NRow), vs = [.ref a] ∧ H a = some (NdO P w a xs) ∧ KeysAt H xs ∧ xs.length < 100000 ∧ Q (.int ((xs.length : Nat) : Int)) H
end
section
variable {X : Cx} {o i value : Expr} {pos pos' : Pos} {td ty tv : TE}
theorem pe_nnew : PE X (.Dict [] [] pos) (tNNew X.prog X.w) := ⟨fun pins s σ H Q I h => by
  have I1 := I.laid (a := s.heap.objs.size) (o := NdO X.prog X.w s.heap.objs.size []) (h' := s.heap.push { cls := .type "dict", data := .dict #[] }) (t' := s.toks) (fun _ _ q => Heap.get?_push_of_some _ q) (Nat.le_refl _) (nd_new (ys := []) (beq_eq_false_iff_ne.mpr (Ne.symm (Nat.ne_of_lt I.big))) .nil (Heap.DictOfH.new s.heap))
  exact wpAny_Dict_empty ⟨.ref s.heap.objs.size, _, I1, rfl, h _ (I.hok.fresh (Nat.le_refl _))⟩⟩
theorem pe_nget (hu : X.A.units + 65 < cLine) (ho : PE X o td) (hi : PE X i ty) (hs : NoSl i) : PE X (.Subscript o i pos) (tNGet X.prog X.w td ty) := by
  refine ⟨fun pins s σ H Q I h => ?_⟩
  refine subD_of PySem.F.slot_dict_getitem.lookup hs (thn (ho.run pins s σ H _ I h) fun u s1 ⟨x, H1, I1, rx, q1⟩ => thn (hi.run pins s1 σ H1 _ I1 q1) fun iv s2 ⟨y, H2, I2, ry, v, ⟨a, b, k, xs, ex, ey, e, hk, hb, ev⟩, q2⟩ => ?_)
  subst ex ey
  obtain rfl : u = Value.ref a := rx
  obtain rfl : iv = Value.ref b := ry
  obtain ⟨hd, ys, rel, dd⟩ := nd_of I2.hok e hk
  obtain ⟨w', hw, rw'⟩ := RelO.some_of (v := v) (o := (atKey ys k).map (·.2)) (by rw [ev]; exact rows_val rel k)
  obtain ⟨p, hp, hp2⟩ := Option.map_eq_some_iff.mp hw
  refine ⟨dd.typeIs, wpAny_getItem_heap (show _ + 8 < cLine by simp only [Around.in1]; omega) (hb.is I2.hok) dd hp ?_⟩
  rw [hp2]
  exact ⟨v, H2, I2.tok _, rw', q2⟩
theorem pc_nnotin (hu : X.A.units + 65 < cLine) (hi : PE X i ty) (ho : PE X o td) : PC X .NotIn i o (tNNotIn X.prog X.w ty td) := by
  refine ⟨fun pins s σ H Q I h => ?_⟩
  refine thn (hi.run pins s σ H _ I h) fun iv s1 ⟨y, H1, I1, ry, q1⟩ => thn (ho.run pins s1 σ H1 _ I1 q1) fun u s2 ⟨x, H2, I2, rx, ov, ⟨a, b, k, xs, ex, ey, e, hk, hb, ev⟩, q2⟩ => ?_
  subst ex ey
  obtain rfl : u = Value.ref a := rx
  obtain rfl : iv = Value.ref b := ry
  obtain ⟨hd, ys, rel, dd⟩ := nd_of I2.hok e hk
  refine wpAny_notIn_heap (show _ + 8 < cLine by simp only [Around.in1]; omega) (hb.is I2.hok) hd dd ?_
  have q := (rows_val rel k).isSome_eq
  rw [Option.isSome_map] at q
  rw [← q, ← ev]
  exact ⟨.bl (!ov.isSome), H2, I2.tok _, rfl, q2⟩
theorem ps_nput (hu : X.A.units + 65 < cLine) (ho : PE X o td) (hi : PE X i ty) (hv : PE X value tv) (hs : swapsWith value (some (.Subscript o i pos')) pos.line X.env = pure false) :
    PS X (.Assign [.Subscript o i pos'] value pos) (sNPut X.prog X.w td ty tv) := by
  refine ⟨fun pins s σ H D I h => ?_⟩
  refine wpAny_Assign_Subscript (thn (hv.run pins s σ H _ I h) fun r s1 ⟨v, H1, I1, rv, q1⟩ => thn (ho.run pins s1 σ H1 _ I1 q1) fun u s2 ⟨x, H2, I2, rx, q2⟩ => thn (hi.run pins s2 σ H2 _ I2 q2) fun iv s3 ⟨y, H3, I3, ry, a, b, k, xs, ex, ey, e, hk, hb, hl, q3⟩ => ?_) hs
  subst ex ey
  obtain rfl : u = Value.ref a := rx
  obtain rfl : iv = Value.ref b := ry
  obtain ⟨hd, ys, rel, dd⟩ := nd_of I3.hok e hk
  have hlen : xs.length = ys.length := Paired.length rel
  refine wpAny_setItem_heap (hsz := by rw [← hlen, sizeLine_eq]; omega) (show _ + 8 < cLine by simp only [Around.in1]; omega) (hb.is I3.hok) dd fun h' dd' hs' => ?_
  have he : ∃ q, h'.get? a = some q := let ⟨q, _, _, hq, _⟩ := dd'; ⟨q, hq⟩
  exact ⟨σ, _, d_write I3 (by rw [e]; exact True.intro) hs' he (nd_new hd (rows_put rel k rv) dd'), q3⟩
theorem cr_lenN : CallR X (.builtin "len") (rLenN X.prog X.w) := by
  intro pins s σ H xs us Q I r h
  obtain ⟨a, rows, ex, e, hk, hl, q⟩ := h
  subst ex
  obtain ⟨u, eu, rx⟩ := vals1 r
  subst eu
  obtain rfl : u = .ref a := rx
  obtain ⟨hd, ys, rel, dd⟩ := nd_of I.hok e hk
  have hlen : rows.length = ys.length := Paired.length rel
  refine call_len_dictH hd dd (by rw [← hlen]; omega) ?_
  rw [← hlen]
  exact ⟨.int ((rows.length : Nat) : Int), H, I.tok _, ⟨_, rfl⟩, q⟩
end
end Dl
set_option Elab.async false
set_option linter.all false
set_option maxRecDepth 100000
/-! Dl14: slots that hold a dict with nested tuples as keys. -/
namespace Dl
open PySem PySem.Spec PyProof.Rows L2 Evl
abbrev NRowD := NestedKey × D
def drows (B : Hp) : List NRowD → List NRow → Prop := Paired fun p x => p.1 = x.1 ∧ KeyAt B x.1 x.2.1 ∧ Is B p.2 x.2.2
def valD (kvs : List NRowD) (k : NestedKey) : Option D := (kvs.find? fun x => decide (x.1 = k)).map (·.2)
def putD (kvs : List NRowD) (k : NestedKey) (d : D) : List NRowD := if (valD kvs k).isSome then kvs.map (fun x => if x.1 = k then (x.1, d) else x) else kvs ++ [(k, d)]
theorem valD_nil {k : NestedKey} : valD [] k = none := rfl
theorem valD_cons {k : NestedKey} {x : NRowD} {xs : List NRowD} : valD (x :: xs) k = if x.1 = k then some x.2 else valD xs k := by
  unfold valD
  rw [List.find?_cons]
  by_cases e : x.1 = k
  · rw [if_pos e, decide_eq_true e]
    rfl
  · rw [if_neg e, decide_eq_false e]
/-- the slot of such a dict -/
def dicS (P : Program) (w : World) (kvs : List NRowD) : Sl := .box fun B l u => ∃ xs, u = NdO P w l xs ∧ drows B kvs xs
section
variable {B B' : Hp}
theorem drows.mono (e : Ex B B') {kvs : List NRowD} {xs : List NRow} (r : drows B kvs xs) : drows B' kvs xs := Paired.mapP r fun _ _ z => ⟨z.1, z.2.1.mono e, z.2.2.mono e⟩
theorem drows.keys {H : Hp} (e : Ex B H) : ∀ {kvs : List NRowD} {xs : List NRow}, drows B kvs xs → KeysAt H xs
  | _, _, .nil, z, hz => by cases hz
  | _, _, .cons h t, z, hz => by
    rcases List.mem_cons.mp hz with e2 | hz
    · rw [e2]
      exact h.2.1.mono e
    · exact drows.keys e t z hz
theorem drows.val : ∀ {kvs : List NRowD} {xs : List NRow} (_ : drows B kvs xs) (k : NestedKey), (valD kvs k = none ∧ valN xs k = none) ∨ ∃ d v, valD kvs k = some d ∧ valN xs k = some v ∧ Is B d v
  | _, _, .nil, k => .inl ⟨rfl, rfl⟩
  | _, _, .cons (a := p) (b := q) h t, k => by
    rw [valD_cons, valN_cons]
    by_cases e : p.1 = k
    · rw [if_pos e, if_pos (h.1.symm.trans e)]
      exact .inr ⟨_, _, rfl, rfl, h.2.2⟩
    · rw [if_neg e, if_neg (fun z => e (h.1.trans z))]
      exact drows.val t k
theorem drows.isSome {kvs : List NRowD} {xs : List NRow} (r : drows B kvs xs) (k : NestedKey) : (valN xs k).isSome = (valD kvs k).isSome := by
  rcases r.val k with ⟨h1, h2⟩ | ⟨d, v, h1, h2, _⟩
  · rw [h1, h2] <;> rfl
  · rw [h1, h2] <;> rfl
theorem drows.repl {k : NestedKey} {d : D} {v : V} (i : Is B d v) : ∀ {kvs : List NRowD} {xs : List NRow} (_ : drows B kvs xs), drows B (kvs.map fun x => if x.1 = k then (x.1, d) else x) (xs.map fun x => if x.1 = k then (x.1, x.2.1, v) else x)
  | _, _, .nil => .nil
  | _, _, .cons (a := p) (b := q) h t => by
    rw [List.map_cons, List.map_cons]
    refine .cons ?_ (drows.repl i t)
    by_cases e : p.1 = k
    · rw [if_pos e, if_pos (h.1.symm.trans e)]
      exact ⟨h.1, h.2.1, i⟩
    · rw [if_neg e, if_neg (fun z => e (h.1.trans z))]
      exact h
theorem drows.put {kvs : List NRowD} {xs : List NRow} (r : drows B kvs xs) {k : NestedKey} {b : Addr} {d : D} {v : V} (hk : KeyAt B k b) (i : Is B d v) : drows B (putD kvs k d) (putN xs k b v) := by
  unfold putD putN
  rw [r.isSome k]
  by_cases q : (valD kvs k).isSome = true
  · rw [if_pos q, if_pos q]
    exact r.repl i
  · rw [if_neg q, if_neg q]
    exact Paired.snoc r ⟨rfl, hk, i⟩
end
section
variable {P : Program} {w : World} {R : Reg} {K : PySem.W.Frag} {B0 H0 : Hp} {Γ : List Sl} {N : List Sl → Prop} {Rt : D → Prop} {Bk Ct : List Sl → Prop} {te ty tv : TE} {d : D} {i : Nat} {ds : List D} {kvs : List NRowD}
theorem ss_ndNew (k : N (Γ.set i (dicS P w []))) : SS R B0 H0 (tAsg (tNNew P w) (gName i)) Γ N Rt Bk Ct := fun B σ H E a n r b c => by
  intro p hp
  have g : Go R B H B (upd H p (NdO P w p [])) := Go.own a.fz hp
  exact n B _ _ _ k (a.putNewS g hp ⟨p, _, rfl, a.fz.bnone hp, a.fz.nr hp, upd_same, fun B' e => ⟨[], rfl, .nil⟩⟩) g.ext
theorem keyAt_of {B H : Hp} {v : V} (e : Ex B H) (hf : flatL ds = true) (hd : (nk (.tup ds)).depth ≤ 8) (i : Is B (.tup ds) v) : ∃ b, v = .ref b ∧ KeyAt H (nk (.tup ds)) b := by
  obtain ⟨b, vs, e1, _, _⟩ := is_tup.mp i
  refine ⟨b, e1, .tup ds, by unfold flat; exact hf, rfl, hd, ?_⟩
  rw [← e1]
  exact i.mono e
theorem ss_ndPut (e : Γ[i]? = some (dicS P w kvs)) (hv : ED R tv Γ d) (hk : ED R ty Γ (.tup ds)) (hf : flatL ds = true) (hd : (nk (.tup ds)).depth ≤ 8) (hl : kvs.length < 1000) (k : N (Γ.set i (dicS P w (putD kvs (nk (.tup ds)) d)))) :
    SS R B0 H0 (sNPut P w (tVar i) ty tv) Γ N Rt Bk Ct := fun B σ H E a n r b c => by
  refine hv B0 H0 B H σ a _ fun v d' B1 H1 g1 s1 i1 => ?_
  subst s1
  have a1 := a.step g1
  obtain ⟨l0, _, e0, _⟩ := a1.box e
  refine ⟨_, e0, ?_⟩
  refine hk B0 H0 B1 H1 σ a1 _ fun y d2 B2 H2 g2 s2 i2 => ?_
  subst s2
  have a2 := a1.step g2
  obtain ⟨l, u, e1, b1, nr, h1, hφ, h0⟩ := a2.box e
  obtain ⟨xs, eu, rows⟩ := hφ B2 (Ex.refl B2)
  obtain ⟨b', ey, kb⟩ := keyAt_of (Ex.refl B2) hf hd i2
  have hll : l0 = l := by
    rw [e0] at e1
    injection e1 with q
    injection q with q
    injection q
  subst eu
  have hlen : kvs.length = xs.length := Paired.length rows
  refine ⟨l, b', nk (.tup ds), xs, by rw [hll], ey, h1, rows.keys a2.fz.sub, kb.mono a2.fz.sub, by omega, ?_⟩
  refine n B2 _ σ _ k (a2.wrS e rfl rfl e1 ⟨l, _, rfl, b1, nr, upd_same, fun B' eb => ⟨_, rfl, ?_⟩⟩) (g1.ext.trans g2.ext)
  exact (rows.put kb (i1.mono g2.ext)).mono eb
theorem nget_of {B H : Hp} {σ : L2.St} {v : V} (a : At R B0 H0 B Γ σ H) (e : Γ[i]? = some (dicS P w kvs)) (hf : flatL ds = true) (hd : (nk (.tup ds)).depth ≤ 8) (iv : Is B (.tup ds) v) :
    ∃ l xs, σ[i]? = some (some (.ref l)) ∧ drows B kvs xs ∧ NGet P w H (.ref l) v (valN xs (nk (.tup ds))) := by
  obtain ⟨l, u, e1, b1, nr, h1, hφ, h0⟩ := a.box e
  obtain ⟨xs, eu, rows⟩ := hφ B (Ex.refl B)
  obtain ⟨b', ey, kb⟩ := keyAt_of (Ex.refl B) hf hd iv
  subst eu
  exact ⟨l, xs, e1, rows, l, b', _, xs, rfl, ey, h1, rows.keys a.fz.sub, kb.mono a.fz.sub, rfl⟩
theorem ed_ndGet (e : Γ[i]? = some (dicS P w kvs)) (hk : ED R ty Γ (.tup ds)) (hf : flatL ds = true) (hd : (nk (.tup ds)).depth ≤ 8) (hv : valD kvs (nk (.tup ds)) = some d) : ED R (tNGet P w (tVar i) ty) Γ d := fun B0 H0 B H σ a Q q => by
  obtain ⟨l0, _, e0, _⟩ := a.box e
  refine ⟨_, e0, ?_⟩
  refine hk B0 H0 B H σ a _ fun v d2 B2 H2 g s iv => ?_
  subst s
  have a2 := a.step g
  obtain ⟨l, xs, e1, rows, ng⟩ := nget_of a2 e hf hd iv
  have hll : l0 = l := by
    rw [e0] at e1
    injection e1 with q
    injection q with q
    injection q
  subst hll
  rcases rows.val (nk (.tup ds)) with ⟨h1, h2⟩ | ⟨d', v', h1, h2, i'⟩
  · rw [hv] at h1
    cases h1
  · rw [hv] at h1
    injection h1 with h1
    subst h1
    rw [h2] at ng
    exact ⟨v', ng, q v' _ B2 H2 g rfl i'⟩
theorem ed_ndNotIn (e : Γ[i]? = some (dicS P w kvs)) (hk : ED R ty Γ (.tup ds)) (hf : flatL ds = true) (hd : (nk (.tup ds)).depth ≤ 8) : ED R (tNNotIn P w ty (tVar i)) Γ (.bl (!(valD kvs (nk (.tup ds))).isSome)) := fun B0 H0 B H σ a Q q => by
  refine hk B0 H0 B H σ a _ fun v d2 B2 H2 g s iv => ?_
  subst s
  have a2 := a.step g
  obtain ⟨l, xs, e1, rows, ng⟩ := nget_of a2 e hf hd iv
  refine ⟨_, e1, _, ng, ?_⟩
  rw [rows.isSome]
  exact q _ _ B2 H2 g rfl (is_bl.mpr rfl)
theorem ed_ndLen (e : Γ[i]? = some (dicS P w kvs)) (hl : kvs.length < 100000) : ED R (tCB (rLenN P w) (tCons (tVar i) tNil)) Γ (.int (kvs.length : Int)) := fun B0 H0 B H σ a Q q => by
  obtain ⟨l, u, e1, b1, nr, h1, hφ, h0⟩ := a.box e
  obtain ⟨xs, eu, rows⟩ := hφ B (Ex.refl B)
  subst eu
  have hlen : kvs.length = xs.length := Paired.length rows
  refine ⟨_, e1, l, xs, rfl, h1, rows.keys a.fz.sub, by omega, ?_⟩
  rw [← hlen]
  exact q _ _ B H (Go.refl a.fz) rfl (is_int.mpr rfl)
end
end Dl
set_option Elab.async false
set_option linter.all false
set_option maxRecDepth 100000
/-! Dl15: try .. except. -/
namespace Dl
open PySem PySem.Spec PyProof.Rows L2 Evl
def tTryO (K : PySem.W.Frag) (c : Value) (ts : Addr → Value → Option Addr → TS) (Wout : WX) (tb : WX → TS) : TS := fun D σ H => tb (wOnly K c ts Wout D) D σ H
section
variable {R : Reg} {K : PySem.W.Frag} {B0 H0 : Hp} {Γ : List Sl} {N : List Sl → Prop} {Rt : D → Prop} {Bk Ct : List Sl → Prop} {c : Value} {ts : Addr → Value → Option Addr → TS} {Wout : WX} {tb : WX → TS} {ta : TA} {ds : List D} {C : Addr} {f : Str} {y : D} {F : List D → D → Prop} {Z : List D → Addr → Str → D → Prop} {g : TG}
/-- nothing is raised -/
theorem ss_tryN (h : ∀ W, SS R B0 H0 (tb W) Γ N Rt Bk Ct) : SS R B0 H0 (tTryO K c ts Wout tb) Γ N Rt Bk Ct := fun B σ H E a n r b cc => h (wOnly K c ts Wout E) B σ H E a n r b cc
/-- the call in 'try: x = f(..)' raises what the clause names -/
theorem ss_tryX (h : EDA R ta Γ ds) (k : Z ds C f y) (hm : PySem.W.exmOne K (.ref C) c = some true) (hs : ∀ a d, SS R B0 H0 (ts a (.ref C) d) Γ N Rt Bk Ct) :
    SS R B0 H0 (tTryO K c ts Wout fun W => tAsg (tCallS (xsp F Z) (WE W) ta) g) Γ N Rt Bk Ct := fun B σ H E a n r b cc => by
  refine h B0 H0 B H σ a _ fun vs ds' B2 H2 g2 s i => ?_
  subst s
  refine ⟨B2, ds', g2.fz.sub, i, .inr ⟨C, f, y, k, fun B3 H3 dd v g3 hd iv => ⟨true, hm, fun _ a0 ha0 => ?_, fun z => by cases z⟩⟩⟩
  have g4 := Go.lift g2.fz g3
  exact hs a0 _ B3 σ H3 E ((a.step g2).step g4) (fun B' Γ' σ' H' x y z => n B' Γ' σ' H' x y (g2.ext.trans (g4.ext.trans z))) r (fun B' Γ' σ' H' x y z => b B' Γ' σ' H' x y (g2.ext.trans (g4.ext.trans z))) (fun B' Γ' σ' H' x y z => cc B' Γ' σ' H' x y (g2.ext.trans (g4.ext.trans z)))
end
theorem atI_hd {α : Type} {x : α} {r : List α} : L2.atI (x :: r) 0 = some x := by
  unfold L2.atI L2.ixN
  rw [if_pos (by decide), if_pos (by rw [List.length_cons]; omega)]
  rfl
theorem cd_anyM {R : Reg} {K : PySem.W.Frag} {α : Type} {xs : List α} {p : α → Bool} : CbD R (rAny K) [.lst (xs.map fun x => .bl (p x))] (.bl (xs.any p)) := by
  have z := cd_any (R := R) (K := K) (bs := xs.map p)
  rw [List.map_map, List.any_map] at z
  exact z
theorem cd_allM {R : Reg} {K : PySem.W.Frag} {α : Type} {xs : List α} {p : α → Bool} : CbD R (rAll K) [.lst (xs.map fun x => .bl (p x))] (.bl (xs.all p)) := by
  have z := cd_all (R := R) (K := K) (bs := xs.map p)
  rw [List.map_map, List.all_map] at z
  exact z
end Dl
set_option Elab.async false
set_option linter.all false
set_option maxRecDepth 100000
/-! Dl16: None among values; two names at once; what a dict holds behind a store. -/
namespace Dl
open PySem PySem.Spec PyProof.Rows L2 Evl
/-- nested, no objects, no texts, not deeper than n -/
structure SH (n : Nat) (d : D) : Prop where
  no : noObj d = true
  lay : PyData.canLay0 (pd d) = true
  dp : PyData.depth (pd d) ≤ n
theorem sh_non {n : Nat} : SH n .non := ⟨rfl, rfl, Nat.zero_le _⟩
theorem sh_bl {n : Nat} {b : Bool} : SH n (.bl b) := ⟨rfl, rfl, Nat.zero_le _⟩
theorem sh_int {n : Nat} {i : Int} : SH n (.int i) := ⟨rfl, rfl, Nat.zero_le _⟩
theorem sh_all {n : Nat} : ∀ {ds : List D}, (∀ x ∈ ds, SH n x) → noObjL ds = true ∧ PyData.canLayAll0 (pdL ds) = true ∧ PyData.depthAll (pdL ds) ≤ n
  | [], _ => ⟨rfl, rfl, Nat.zero_le _⟩
  | d :: ds, h => by
    obtain ⟨h1, h2, h3⟩ := sh_all (n := n) (ds := ds) fun x hx => h x (List.mem_cons_of_mem _ hx)
    obtain ⟨g1, g2, g3⟩ := h d List.mem_cons_self
    refine ⟨?_, ?_, ?_⟩
    · unfold noObjL
      rw [g1, h1]
      rfl
    · show PyData.canLayAll0 (pd d :: pdL ds) = true
      unfold PyData.canLayAll0
      rw [g2, h2]
      rfl
    · show PyData.depthAll (pd d :: pdL ds) ≤ n
      unfold PyData.depthAll
      omega
theorem sh_tup {n : Nat} {ds : List D} (h : ∀ x ∈ ds, SH n x) : SH (n + 1) (.tup ds) := by
  obtain ⟨h1, h2, h3⟩ := sh_all h
  refine ⟨by unfold noObj; exact h1, ?_, ?_⟩
  · show PyData.canLay0 (.tuple (pdL ds)) = true
    unfold PyData.canLay0
    exact h2
  · show PyData.depth (.tuple (pdL ds)) ≤ n + 1
    unfold PyData.depth
    omega
theorem sh_lst {n : Nat} {ds : List D} (h : ∀ x ∈ ds, SH n x) : SH (n + 1) (.lst ds) := by
  obtain ⟨h1, h2, h3⟩ := sh_all h
  refine ⟨by unfold noObj; exact h1, ?_, ?_⟩
  · show PyData.canLay0 (.list (pdL ds)) = true
    unfold PyData.canLay0
    exact h2
  · show PyData.depth (.list (pdL ds)) ≤ n + 1
    unfold PyData.depth
    omega
theorem SH.mono {n m : Nat} {d : D} (h : SH n d) (hl : n ≤ m) : SH m d := ⟨h.no, h.lay, Nat.le_trans h.dp hl⟩
theorem SH.shaped {d : D} (h : SH 64 d) : SeqAt.shaped (pd d) = true := by
  unfold SeqAt.shaped
  rw [h.lay, decide_eq_true h.dp]
  rfl
theorem eqv_none {n : Nat} {d : D} (h : SH n d) : PyData.eqv (pd d) .none = isNonD d := by
  cases d with
  | obj C ks ds => cases h.no
  | _ => rfl
theorem any_none {n : Nat} : ∀ {ds : List D}, (∀ x ∈ ds, SH n x) → ((pdL ds).any fun z => PyData.eqv z (pd .non)) = ds.any isNonD
  | [], _ => rfl
  | d :: ds, h => by
    show (PyData.eqv (pd d) (pd .non) || _) = (isNonD d || _)
    rw [show pd .non = PyData.none from rfl, eqv_none (h d List.mem_cons_self)]
    exact congrArg _ (any_none fun x hx => h x (List.mem_cons_of_mem _ hx))
section
variable {R : Reg} {K : PySem.W.Frag} {ds : List D}
theorem od_nonIn (h : ∀ x ∈ ds, SH 60 x) : OpD R (rInU K) .non (.lst ds) (.bl (ds.any isNonD)) := by
  rw [← any_none h]
  have z := sh_lst h
  exact od_inD rfl (sh_all h).1 rfl (by have q := (z.mono (by decide : 61 ≤ 64)).shaped; exact q)
theorem od_nonNi (h : ∀ x ∈ ds, SH 60 x) : OpD R (rNiU K) .non (.lst ds) (.bl (!ds.any isNonD)) := by
  rw [← any_none h]
  have z := sh_lst h
  exact od_niD rfl (sh_all h).1 rfl (by have q := (z.mono (by decide : 61 ≤ 64)).shaped; exact q)
end
section
variable {R : Reg} {K : PySem.W.Frag} {B0 H0 : Hp} {Γ : List Sl} {N : List Sl → Prop} {Rt : D → Prop} {Bk Ct : List Sl → Prop} {ta : TA} {i j : Nat}
theorem ss_tup2M {n2 : Nat} {s1 s2 : Sl} (h : EM R ta Γ [i, j] [s1, s2]) (hn : n2 = 2) (k : N ((Γ.set i s1).set j s2)) : SS R B0 H0 (tAsg (tTup ta) (gTup K n2 (gCons (gName i) (gCons (gName j) gNil)))) Γ N Rt Bk Ct := fun B σ H E a n r b c => h B0 H0 B H σ Γ σ a a _ fun vs B2 H2 g hl a2 => by
  match vs, hl with
  | [v, w], _ =>
    refine ⟨sz_of (by simp), fun p hp => ⟨p, [v, w], rfl, SqT.of upd_same, by rw [hn]; rfl, v, _, rfl, w, _, rfl, rfl, ?_⟩⟩
    have g2 : Go R B2 H2 B2 (upd H2 p (.tup [v, w])) := Go.own a2.fz hp
    exact n B2 _ _ _ k (a2.step g2) g.ext
/-- a new dict among several values -/
theorem em_dic {P : Program} {w : World} {tr : TA} {is : List Nat} {ss : List Sl} (hr : EM R tr Γ is ss) : EM R (tCons (tNNew P w) tr) Γ (i :: is) (dicS P w [] :: ss) := fun B0 H0 B H σ Γ' σ' a a' Q q => by
  intro p hp
  have g : Go R B H B (upd H p (NdO P w p [])) := Go.own a.fz hp
  refine hr B0 H0 B _ σ _ _ (a.step g) (a'.putNewS (i := i) g hp (s := dicS P w []) ⟨p, _, rfl, a.fz.bnone hp, a.fz.nr hp, upd_same, fun B' e => ⟨[], rfl, .nil⟩⟩) _ fun vs B3 H3 g3 hl a3 => q (.ref p :: vs) B3 H3 (Go.trans a.fz g g3) (by rw [List.length_cons, List.length_cons, hl]) a3
end
theorem valD_map (k j : NestedKey) (d : D) : ∀ kvs : List NRowD, valD (kvs.map fun x => if x.1 = k then (x.1, d) else x) j = (valD kvs j).map fun x => if j = k then d else x
  | [] => rfl
  | x :: r => by
    rw [List.map_cons, valD_cons, valD_cons, valD_map k j d r]
    by_cases h : x.1 = k
    · rw [if_pos h]
      by_cases e : x.1 = j
      · rw [if_pos e, if_pos e, Option.map_some, if_pos (e.symm.trans h)]
      · rw [if_neg e, if_neg e]
    · rw [if_neg h]
      by_cases e : x.1 = j
      · rw [if_pos e, if_pos e, Option.map_some, if_neg (fun z => h (e.trans z))]
      · rw [if_neg e, if_neg e]
theorem valD_snoc (k j : NestedKey) (d : D) : ∀ kvs : List NRowD, valD kvs k = none → valD (kvs ++ [(k, d)]) j = if j = k then some d else valD kvs j
  | [], _ => by
    rw [List.nil_append, valD_cons]
    by_cases e : k = j
    · rw [if_pos e, if_pos e.symm]
    · rw [if_neg e, if_neg (fun z => e z.symm)]
  | x :: r, hn => by
    rw [valD_cons] at hn
    by_cases hk : x.1 = k
    · rw [if_pos hk] at hn
      cases hn
    · rw [if_neg hk] at hn
      rw [List.cons_append, valD_cons, valD_cons, valD_snoc k j d r hn]
      by_cases e : x.1 = j
      · rw [if_pos e, if_pos e, if_neg (fun z => hk (e.trans z))]
      · rw [if_neg e, if_neg e]
theorem valD_put (kvs : List NRowD) (k j : NestedKey) (d : D) : valD (putD kvs k d) j = if j = k then some d else valD kvs j := by
  unfold putD
  by_cases h : (valD kvs k).isSome = true
  · rw [if_pos h, valD_map]
    obtain ⟨x, hx⟩ := Option.isSome_iff_exists.mp h
    by_cases e : j = k
    · rw [if_pos e, e, hx, Option.map_some, if_pos rfl]
    · rw [if_neg e]
      cases valD kvs j with
      | none => rfl
      | some y => rw [Option.map_some, if_neg e]
  · rw [if_neg h]
    refine valD_snoc k j d kvs ?_
    cases q : valD kvs k with
    | none => rfl
    | some x =>
      rw [q] at h
      exact absurd rfl h
theorem putD_len (kvs : List NRowD) (k : NestedKey) (d : D) : (putD kvs k d).length ≤ kvs.length + 1 := by
  unfold putD
  split
  · rw [List.length_map]
    omega
  · rw [List.length_append]
    exact Nat.le_refl _
end Dl
set_option Elab.async false
set_option linter.all false
set_option maxRecDepth 100000
/-! Dl17: set(xs), xs a list of nested tuples of numbers. -/
namespace NS
open PySem PySem.Spec PyProof.Rows L2
mutual
/-- no texts within -/
def numK : NestedKey → Bool
  | .none => true
  | .num _ => true
  | .text _ => false
  | .tup ks => numKs ks
def numKs : List NestedKey → Bool
  | [] => true
  | k :: ks => numK k && numKs ks
end
section
variable {P : Program} {w : World}
/-- the tuple at a is the key k, without texts -/
def IsK (P : Program) (w : World) (h : Heap) (k : NestedKey) (a : Addr) : Prop := (nestedKind P w).is h k a ∧ numK k = true
theorem IsK.keep {h h' : Heap} {k : NestedKey} {a : Addr} (x : IsK P w h k a) (hk : ∀ b o vs n, h.get? b = some o → o.data = .seq vs n → h'.get? b = some o) : IsK P w h' k a := ⟨nestedKind_stays.stays hk x.1, x.2⟩
/-- both questions about a value's class and hash, answered without telling -/
def Mute (P : Program) (w : World) (n : Nat) (s : Shared) (v : Value) : Prop := ∀ (A : Around) (E : Value → Shared → Prop) (Q : Bool → Shared → Prop), (Q false s → wpAny (model P w) A (ofAClassStatement n v) Q E s) ∧ (Q true s → wpAny (model P w) A (hashByValue n v) Q E s)
theorem mute_none {n : Nat} {s : Shared} : Mute P w n s .none := fun A E Q => by
  cases n <;> exact ⟨fun h => wpAny_pure h, fun h => wpAny_pure h⟩
theorem mute_bool {n : Nat} {s : Shared} {b : Bool} : Mute P w n s (.bool b) := fun A E Q => by
  cases n <;> exact ⟨fun h => wpAny_pure h, fun h => wpAny_pure h⟩
theorem mute_int {n : Nat} {s : Shared} {i : Int} {t : Tok} : Mute P w n s (.int i t) := fun A E Q => by
  cases n <;> exact ⟨fun h => wpAny_pure h, fun h => wpAny_pure h⟩
theorem mute_tup {n : Nat} {s : Shared} {a : Addr} {o : Obj} {vs : Array Value} {m : Nat} (ho : s.heap.get? a = some o) (hc : o.cls = .type "tuple") (hd : o.data = .seq vs m) (hq : ∀ v ∈ vs.toList, Mute P w n s v) : Mute P w (n + 1) s (.ref a) := fun A E Q => by
  have hT : s.TypeIs (.ref a) "tuple" := ⟨o, ho, hc⟩
  refine ⟨fun h => ?_, fun h => ?_⟩
  · unfold ofAClassStatement
    refine wpAny_bind (wpAny_typeOf hT ?_)
    dsimp only
    have e : (("tuple" : String) == "tuple") = true := by decide
    simp only [e, if_true, Bool.not_true, Bool.false_eq_true, if_false]
    try refine wpAny_bind (wpAny_pure ?_)
    try simp only [Bool.not_true, Bool.false_eq_true, if_false]
    show wpAny _ _ (seqItems? (.ref a) >>= _) _ _ s
    refine wpAny_bind (wpAny_seqItems ho hd ?_)
    dsimp only
    refine wpAny_bind ?_
    show wpAny _ _ (forIn vs _ _) _ _ s
    rw [← Array.forIn_toList]
    refine wpAny_forIn_list _ (fun rest r s' => r.1 = none ∧ s' = s ∧ ∀ v ∈ rest, Mute P w n s v) _ ?_ ?_ _ _ ⟨rfl, rfl, hq⟩
    · rintro v rest r s' ⟨hr, rfl, hall⟩
      refine wpAny_bind ((hall v List.mem_cons_self _ _ _).1 ?_)
      simp only [Bool.false_eq_true, if_false]
      exact wpAny_pure ⟨rfl, rfl, fun u hu' => hall u (List.mem_cons_of_mem _ hu')⟩
    · rintro ⟨r1, r2⟩ s' ⟨hr, rfl, _⟩
      simp only at hr
      subst hr
      exact wpAny_pure h
  · unfold hashByValue
    refine wpAny_bind (wpAny_specialOf hT F.slot_tuple_hash.lookup ?_)
    show wpAny _ _ (seqItems? (.ref a) >>= _) _ _ s
    refine wpAny_bind (wpAny_seqItems ho hd ?_)
    refine wpAny_bind ?_
    show wpAny _ _ (forIn vs _ _) _ _ s
    rw [← Array.forIn_toList]
    refine wpAny_forIn_list _ (fun rest r s' => r.1 = none ∧ s' = s ∧ ∀ v ∈ rest, Mute P w n s v) _ ?_ ?_ _ _ ⟨rfl, rfl, hq⟩
    · rintro v rest r s' ⟨hr, rfl, hall⟩
      refine wpAny_bind ((hall v List.mem_cons_self _ _ _).2 ?_)
      simp only [Bool.not_true, Bool.false_eq_true, if_false]
      exact wpAny_pure ⟨rfl, rfl, fun u hu' => hall u (List.mem_cons_of_mem _ hu')⟩
    · rintro ⟨r1, r2⟩ s' ⟨hr, rfl, _⟩
      simp only at hr
      subst hr
      exact wpAny_pure h
mutual
theorem mute_key : ∀ (k : NestedKey) (v : Value) (n : Nat) (s : Shared), NestedIs s.heap k v → numK k = true → k.depth ≤ n → Mute P w n s v
  | .none, _, n, s, x, _, _ => by cases x; exact mute_none
  | .num i, _, n, s, x, _, _ => by
    cases x with
    | bool e => exact mute_bool
    | int _ t => exact mute_int
  | .text y, _, n, s, x, q, _ => by
    unfold numK at q
    cases q
  | .tup ks, _, n, s, x, q, hn => by
    cases x with
    | tup hg hc hd hk =>
      simp only [NestedKey.depth] at hn
      unfold numK at q
      cases n with
      | zero => omega
      | succ n => exact mute_tup hg hc hd (mute_keys ks _ n s hk q (by omega))
theorem mute_keys : ∀ (ks : List NestedKey) (vs : List Value) (n : Nat) (s : Shared), NestedAll s.heap ks vs → numKs ks = true → NestedKey.depthAll ks ≤ n → ∀ v ∈ vs, Mute P w n s v
  | [], _, n, s, x, _, _, v, hv => by cases x; cases hv
  | k :: ks, _, n, s, x, q, hn, v, hv => by
    unfold numKs at q
    rw [Bool.and_eq_true] at q
    cases x with
    | cons x1 x2 =>
      simp only [NestedKey.depthAll] at hn
      rcases List.mem_cons.mp hv with e | hv
      · rw [e]
        exact mute_key k _ n s x1 q.1 (by omega)
      · exact mute_keys ks _ n s x2 q.2 (by omega) v hv
end
theorem IsK.mute {s : Shared} {k : NestedKey} {a : Addr} (x : IsK P w s.heap k a) : Mute P w 8 s (.ref a) := mute_key k _ 8 s x.1.1 x.2 x.1.2
/-- looking among keys tells nothing -/
theorem hidden {A : Around} {E : Value → Shared → Prop} {s : Shared} {k : NestedKey} {b : Addr} {Q : Bool → Shared → Prop} (hk : IsK P w s.heap k b) {ys : List Value} (hy : ∀ y ∈ ys, ∃ k' c, y = Value.ref c ∧ IsK P w s.heap k' c) (h : Q false s) :
    wpAny (model P w) A (searchCouldBeSeen (.ref b) ys) Q E s := by
  unfold searchCouldBeSeen
  refine wpAny_bind ?_
  refine wpAny_forIn_list _ (fun rest r s' => r.1 = none ∧ s' = s ∧ ∀ y ∈ rest, ∃ k' c, y = Value.ref c ∧ IsK P w s.heap k' c) _ ?_ ?_ _ _ ⟨rfl, rfl, hy⟩
  · rintro v rest r s' ⟨hr, rfl, hall⟩
    obtain ⟨k', c, rfl, hc⟩ := hall v List.mem_cons_self
    have more : ∀ y ∈ rest, ∃ k' c, y = Value.ref c ∧ IsK P w s'.heap k' c := fun u hu' => hall u (List.mem_cons_of_mem _ hu')
    dsimp only
    by_cases hv : (b == c || (carriedByValue (.ref b) && carriedByValue (.ref c))) = true
    · exact wp_if_pos hv (wpAny_pure ⟨rfl, rfl, more⟩)
    · refine wp_if_neg hv ?_
      refine wpAny_bind ((nestedKind P w).quiet hk.1 ?_)
      simp only [Bool.not_true, Bool.false_eq_true, if_false]
      refine wpAny_bind ((nestedKind P w).quiet hc.1 ?_)
      simp only [Bool.not_true, Bool.false_eq_true, if_false]
      refine wpAny_bind ((hk.mute _ _ _).1 ?_)
      simp only [Bool.false_eq_true, if_false]
      refine wpAny_bind ((hc.mute _ _ _).1 ?_)
      simp only [Bool.false_eq_true, if_false]
      exact wpAny_pure ⟨rfl, rfl, more⟩
  · rintro ⟨r1, r2⟩ s' ⟨hr, rfl, _⟩
    simp only at hr
    subst hr
    exact wpAny_pure h
end
end NS
set_option Elab.async false
set_option linter.all false
set_option maxRecDepth 100000
/-! Dl18: the table of a small set of nested tuples: looking and adding. -/
namespace NS
open PySem PySem.Spec PyProof.Rows L2
abbrev Mem := Addr × NestedKey
/-- what stands in the rows -/
def pairs (w : World) (L : List Mem) : List (Int × Value) := L.map fun m => (m.2.hash w, Value.ref m.1)
abbrev hashes (w : World) (L : List Mem) : List Int := L.map fun m => m.2.hash w
structure Good (P : Program) (w : World) (h : Heap) (a : Addr) (L : List Mem) (es : Array (Int × Value)) (t : SetTable) : Prop where
  rows : es.toList = pairs w L
  tab : TabOk t (hashes w L)
  nd : (L.map (·.2)).Nodup
  key : ∀ m ∈ L, IsK P w h m.2 m.1
  plain : t.plain = true
  led : w.params.followText "set-order" = true ∨ t.led = true
  room : L.length * 5 < t.mask * 3
  few : L.length ≤ 18
/-- the set at a -/
def SetAt (P : Program) (w : World) (h : Heap) (a : Addr) (L : List Mem) : Prop := ∃ o es ep t, h.get? a = some o ∧ o.ExactSet ∧ o.data = .set es ep t ∧ Good P w h a L es t
section
variable {P : Program} {w : World} {A : Around} {E : Value → Shared → Prop} {s : Shared} {h : Heap} {a : Addr} {L : List Mem} {es : Array (Int × Value)} {t : SetTable}
theorem pairs_len {L : List Mem} (e : es.toList = pairs w L) : es.size = L.length := by
  have q := congrArg List.length e
  unfold pairs at q
  rw [Array.length_toList, List.length_map] at q
  exact q
theorem Good.fits (G : Good P w h a L es t) : t.fits es.size = true := by
  have h1 := G.tab.sz
  rw [List.length_map] at h1
  have h2 := pairs_len G.rows
  have h3 := G.room
  unfold SetTable.fits SetTable.fill
  rw [G.tab.dm, Bool.and_eq_true, beq_iff_eq, decide_eq_true_eq]
  show t.place.size = es.size ∧ t.place.size + 0 ≤ t.mask
  omega
theorem row_at {L : List Mem} (e : es.toList = pairs w L) {i : Nat} {m : Mem} (q : L[i]? = some m) : es[i]? = some (m.2.hash w, Value.ref m.1) := by
  rw [← Array.getElem?_toList, e]
  unfold pairs
  rw [List.getElem?_map, q]
  rfl
theorem Good.ways (G : Good P w h a L es t) : ¬ t.gaveWay = true := by
  unfold SetTable.gaveWay
  rw [mask_odd G.tab.mok]
  decide
abbrev begin_ (t : SetTable) (n : Int) : SetTable.Probe := runAt t.mask (SetTable.bits n % (t.mask + 1)) (SetTable.bits n)
theorem quietProbe (m : Nat) : ∀ (n : Nat) (p : SetTable.Probe), p.dummy = none → (nth m p n).dummy = none
  | 0, _, e => e
  | n + 1, p, e => quietProbe m n (adv m p) (by unfold adv; split <;> exact e)
/-- the way from its c-th step on -/
theorem seek (G : Good P w s.heap a L es t) {o : Obj} {ep : Nat} (ho : s.heap.get? a = some o) (hd : o.data = .set es ep t) {x : Addr} {k : NestedKey} (hx : IsK P w s.heap k x) (hu : A.units + 8 < cLine) {K : Nat} (hKf : K < 10 * SetTable.turns t.mask)
    (hK : way t.mask (k.hash w) K ∉ t.place.toList) (hKb : ∀ c, c < K → way t.mask (k.hash w) c ∈ t.place.toList) {Q : SetFound → Shared → Prop}
    (yes : k ∈ L.map (·.2) → Q (.there none) s) (no : k ∉ L.map (·.2) → Q (.free (way t.mask (k.hash w) K) false) s) :
    ∀ (f c : Nat) (stand : Option SetTable.Probe), stand.getD (t.probeStart (k.hash w)) = nth t.mask (begin_ t (k.hash w)) c → c ≤ K → K - c < f →
      (∀ (i : Nat) (m : Mem), L[i]? = some m → m.2 = k → ∃ c', c ≤ c' ∧ c' < K ∧ t.place.toList[i]? = some (way t.mask (k.hash w) c')) →
      wpAny (model P w) A (setSearchFrom a (.ref x) (k.hash w) true f stand) Q E s
  | 0, c, stand, _, _, hf, _ => absurd hf (Nat.not_lt_zero _)
  | f + 1, c, stand, hst, hc, hf, hre => by
    rw [setSearchFrom_succ]
    refine wpAny_bind (wpAny_setState_of ho hd G.fits ?_)
    dsimp only
    refine wp_if_neg G.ways ?_
    try refine wpAny_bind (wpAny_pure ?_)
    have there : ∀ q, (nth t.mask (nth t.mask (begin_ t (k.hash w)) c) q).j = way t.mask (k.hash w) (c + q) := fun q => congrArg SetTable.Probe.j (nth_add t.mask c _ q).symm
    have spec := go_spec t G.tab.ris G.tab.dm (fun i => (es[i]?.map (·.1)).getD 0) (k.hash w) (10 * SetTable.turns t.mask) (K - c) _ (quietProbe t.mask c (begin_ t (k.hash w)) rfl) (by omega)
      (fun q hq => by rw [there]; exact hKb (c + q) (by omega)) (by rw [there, show c + (K - c) = K by omega]; exact hK)
    have hashAt : ∀ (i : Nat) (m : Mem), L[i]? = some m → (es[i]?.map (·.1)).getD 0 = m.2.hash w := fun i m q => by
      rw [row_at G.rows q]
      rfl
    rcases spec with ⟨q, i, hq, hi, hh, hno, hpr⟩ | ⟨hno, hpr⟩
    · have met : t.probe (fun i => (es[i]?.map (·.1)).getD 0) (k.hash w) (stand.getD (t.probeStart (k.hash w))) = some (.candidate (way t.mask (k.hash w) (c + q)) i (nth t.mask (begin_ t (k.hash w)) (c + (q + 1)))) := by
        rw [hst, ← there, nth_add t.mask c (begin_ t (k.hash w)) (q + 1)]
        exact hpr
      rw [met]
      dsimp only
      rw [there] at hi
      have hil : i < L.length := by
        have h1 : i < t.place.toList.length := (List.getElem?_eq_some_iff.mp hi).1
        have h2 := G.tab.sz
        rw [List.length_map] at h2
        rw [Array.length_toList] at h1
        omega
      obtain ⟨m, hm⟩ : ∃ m, L[i]? = some m := ⟨_, List.getElem?_eq_getElem hil⟩
      have hmem : m ∈ L := List.mem_of_getElem? hm
      have ask : wpAny (model P w) A (searchRest a (.ref x) (k.hash w) true f es t (way t.mask (k.hash w) (c + q)) i (nth t.mask (begin_ t (k.hash w)) (c + (q + 1)))) Q E s := by
        unfold searchRest
        rw [row_at G.rows hm]
        dsimp only
        refine wpAny_bind (wpAny_holding ((nestedKind P w).eqBool hu (G.key m hmem).1 hx.1 ?_))
        refine wpAny_bind (wpAny_setState_of ho hd G.fits ?_)
        dsimp only
        by_cases same : m.2 = k
        · exact wp_if_pos (by simp [same]) (wpAny_pure (yes (List.mem_map.mpr ⟨m, hmem, same⟩)))
        · refine wp_if_neg (by simp [same]) ?_
          try refine wpAny_bind (wpAny_pure ?_)
          rw [sameMem]
          dsimp only
          have hsl : t.slot (way t.mask (k.hash w) (c + q)) = .live i := slot_live G.tab.ris hi
          simp only [if_true, hsl, row_at G.rows hm]
          refine wpAny_bind (wpAny_isSame_ref_self (wpAny_bind (wpAny_pure ?_)))
          simp only [if_true]
          refine wp_if_neg (by simp [same]) ?_
          refine seek G ho hd hx hu hKf hK hKb yes no f (c + (q + 1)) _ rfl (by omega) (by omega) fun i0 m0 h0 k0 => ?_
          obtain ⟨c', a1, a2, a3⟩ := hre i0 m0 h0 k0
          refine ⟨c', ?_, a2, a3⟩
          rcases Nat.lt_trichotomy c' (c + q) with z | z | z
          · exact absurd ((hashAt i0 m0 h0).trans (by rw [k0])) (hno (c' - c) i0 (by omega) (by rw [there, show c + (c' - c) = c' by omega]; exact a3))
          · rw [z] at a3
            have s0 := slot_live G.tab.ris a3
            rw [hsl] at s0
            injection s0 with s0
            rw [← s0, hm] at h0
            exact absurd ((congrArg Prod.snd (Option.some.inj h0)).trans k0) same
          · omega
      by_cases hl : t.led = true
      · refine wp_if_neg (by simp [hl]) ?_
        try refine wpAny_bind (wpAny_pure ?_)
        exact ask
      · refine wp_if_pos (by simp [hl]) ?_
        refine wpAny_bind (hidden hx (fun y hy => ?_) ?_)
        · obtain ⟨e, he, ee⟩ := List.mem_map.mp hy
          have he1 : e ∈ es ∧ e.1 = k.hash w := by simpa using he
          have he2 : e ∈ es.toList := by simpa using he1.1
          rw [G.rows] at he2
          obtain ⟨m2, hm2, e2⟩ := List.mem_map.mp he2
          exact ⟨m2.2, m2.1, by rw [← ee, ← e2], G.key m2 hm2⟩
        · refine wp_if_neg (by decide) ?_
          try refine wpAny_bind (wpAny_pure ?_)
          exact ask
    · have met : t.probe (fun i => (es[i]?.map (·.1)).getD 0) (k.hash w) (stand.getD (t.probeStart (k.hash w))) = some (.empty (way t.mask (k.hash w) K) none) := by
        have e2 : way t.mask (k.hash w) K = (nth t.mask (nth t.mask (begin_ t (k.hash w)) c) (K - c)).j := by
          rw [there, show c + (K - c) = K by omega]
        rw [hst, e2]
        exact hpr
      rw [met]
      dsimp only
      refine wpAny_pure (no fun hmm => ?_)
      obtain ⟨m0, h0, k0⟩ := List.mem_map.mp hmm
      obtain ⟨i0, hi0, e0⟩ := List.getElem_of_mem h0
      have h00 : L[i0]? = some m0 := by rw [List.getElem?_eq_getElem hi0, e0]
      obtain ⟨c', a1, a2, a3⟩ := hre i0 m0 h00 k0
      exact hno (c' - c) i0 (by omega) (by rw [there, show c + (c' - c) = c' by omega]; exact a3) ((hashAt i0 m0 h00).trans (by rw [k0]))
/-- looking for a key, to add it -/
theorem lookFor (G : Good P w s.heap a L es t) {o : Obj} {ep : Nat} (ho : s.heap.get? a = some o) (hd : o.data = .set es ep t) {x : Addr} {k : NestedKey} (hx : IsK P w s.heap k x) (hu : A.units + 8 < cLine) {Q : SetFound → Shared → Prop}
    (yes : k ∈ L.map (·.2) → Q (.there none) s)
    (no : ∀ K, k ∉ L.map (·.2) → way t.mask (k.hash w) K ∉ t.place.toList → (∀ c, c < K → way t.mask (k.hash w) c ∈ t.place.toList) → Q (.free (way t.mask (k.hash w) K) false) s) :
    wpAny (model P w) A (setSearch a (.ref x) (k.hash w) true) Q E s := by
  have hroom := G.room
  obtain ⟨K, hKf, hK, hKb⟩ := G.tab.first (by rw [List.length_map]; omega) (k.hash w)
  have hbig : K < 100000 := by
    have : 10 * SetTable.turns t.mask ≤ 1420 := by
      unfold SetTable.turns
      rcases G.tab.mok with e | e | e <;> omega
    omega
  unfold setSearch
  refine seek G ho hd hx hu hKf hK hKb yes (fun hn => no K hn hK hKb) 100000 0 none rfl (Nat.zero_le _) (by omega) fun i m hm hk => ?_
  have hi : (hashes w L)[i]? = some (k.hash w) := by
    rw [List.getElem?_map, hm, ← hk]
    rfl
  have hil : i < t.place.toList.length := by
    have h1 : i < L.length := (List.getElem?_eq_some_iff.mp hm).1
    have h2 := G.tab.sz
    rw [List.length_map] at h2
    rw [Array.length_toList]
    omega
  have hj := List.getElem?_eq_getElem hil
  obtain ⟨c, hc, e⟩ := G.tab.before hK hi hj
  exact ⟨c, Nat.zero_le _, hc, by rw [hj, e]⟩
end
end NS
set_option Elab.async false
set_option linter.all false
set_option maxRecDepth 100000
/-! Dl19: adding to a small set of nested tuples; set(xs). -/
namespace NS
open PySem PySem.Spec PyProof.Rows L2
section
variable {P : Program} {w : World} {A : Around} {E : Value → Shared → Prop} {s : Shared} {a : Addr} {L : List Mem} {es : Array (Int × Value)} {ep : Nat} {t : SetTable}
theorem IsK.apart {h h' : Heap} {k : NestedKey} {a b : Addr} {o : Obj} {es : Array (Int × Value)} {ep : Nat} {t : SetTable} (x : IsK P w h k b) (ho : h.get? a = some o) (hd : o.data = .set es ep t) (hs : Heap.SameBut a h h') : IsK P w h' k b :=
  x.keep fun c oc vs n e d => (hs.2 c fun z => by
    rw [z, ho] at e
    rw [← Option.some.inj e, hd] at d
    cases d).trans e
/-- the rows in another order -/
theorem shuffled (L : List Mem) (es : Array (Int × Value)) (order : Array Nat) (hr : es.toList = pairs w L) (hp : order.toList.Perm (List.range L.length)) :
    ∃ L2, (order.filterMap (es[·]?)).toList = pairs w L2 ∧ L2.Perm L ∧ hashes w L2 = order.toList.map fun i => (es.map (·.1)).getD i 0 := by
  have hsz := pairs_len hr
  have upto : ∀ n, n ≤ L.length → (List.range n).filterMap (fun i => L[i]?) = L.take n := by
    intro n
    induction n with
    | zero => intro _; rfl
    | succ n ih =>
      intro hn
      have hlt : n < L.length := hn
      rw [List.range_succ, List.filterMap_append, ih (Nat.le_of_lt hlt), List.take_succ, List.getElem?_eq_getElem hlt]
      rw [List.filterMap_cons_some (List.getElem?_eq_getElem hlt)] <;> rfl
  have parts : ∀ l : List Nat, (∀ i ∈ l, i < L.length) → l.filterMap (fun i => es[i]?) = pairs w (l.filterMap fun i => L[i]?) ∧ hashes w (l.filterMap fun i => L[i]?) = l.map fun i => (es.map (·.1)).getD i 0 := by
    intro l
    induction l with
    | nil => intro _; exact ⟨rfl, rfl⟩
    | cons i l ih =>
      intro hl
      have hi := hl i List.mem_cons_self
      obtain ⟨e1, e2⟩ := ih fun j hj => hl j (List.mem_cons_of_mem _ hj)
      have hLi : L[i]? = some L[i] := List.getElem?_eq_getElem hi
      have ent := row_at hr hLi
      rw [List.filterMap_cons_some ent, List.filterMap_cons_some hLi, e1]
      refine ⟨rfl, ?_⟩
      have e5 : (es.map (·.1)).getD i 0 = (L[i]).2.hash w := by
        have e6 : (es.map (·.1))[i]? = some ((L[i]).2.hash w) := by rw [Array.getElem?_map, ent] <;> rfl
        simp [Array.getD_eq_getD_getElem?, e6]
      show (L[i]).2.hash w :: hashes w _ = _
      rw [e2, List.map_cons, e5]
  obtain ⟨e1, e2⟩ := parts order.toList fun i hi => List.mem_range.mp (hp.mem_iff.mp hi)
  refine ⟨order.toList.filterMap fun i => L[i]?, by first | (rw [Array.toList_filterMap]; exact e1) | simpa using e1, ?_, e2⟩
  have q : (order.toList.filterMap fun i => L[i]?).Perm ((List.range L.length).filterMap fun i => L[i]?) := hp.filterMap _
  rw [upto L.length (Nat.le_refl _), List.take_length] at q
  exact q
/-- the table laid anew, with 32 slots -/
theorem anew {o : Obj} (ho : s.heap.get? a = some o) (hex : o.ExactSet) (hd : o.data = .set es ep t) (hrows : es.toList = pairs w L) (hsz : t.place.size = es.size) (hdm : t.dummies = #[]) (hfl : es.size ≤ t.mask)
    (nd : (L.map (·.2)).Nodup) (key : ∀ m ∈ L, IsK P w s.heap m.2 m.1) (pl : t.plain = true) (ld : w.params.followText "set-order" = true ∨ t.led = true) (few : L.length ≤ 18) {wanted : Nat} (hw : SetTable.sizeAbove wanted = 32) {Q : Unit → Shared → Prop}
    (hQ : ∀ h' L', Heap.SameBut a s.heap h' → SetAt P w h' a L' → L'.Perm L → Q () { s with heap := h' }) : wpAny (model P w) A (setRelay a wanted) Q E s := by
  have hsl := pairs_len hrows
  have hfits : t.fits es.size = true := by
    unfold SetTable.fits SetTable.fill
    rw [hdm, Bool.and_eq_true, beq_iff_eq, decide_eq_true_eq]
    show t.place.size = es.size ∧ t.place.size + 0 ≤ t.mask
    omega
  obtain ⟨t', order, e, hp, T, em, el, ep', ed⟩ := relaid_ok t (hs := es.map (·.1)) (wanted := wanted) (M := 31) (by rw [hw]) (.inr (.inl rfl)) (by rw [Array.size_map, hsl]; omega)
  rw [Array.size_map, hsl] at hp
  obtain ⟨L2, r1, r2, r3⟩ := shuffled L es order hrows hp
  rw [← r3] at T
  have hs2 : (order.filterMap (es[·]?)).size = es.size := by rw [pairs_len r1, r2.length_eq, hsl]
  rw [setRelay_eq]
  refine wpAny_bind (wpAny_setState_of ho hd hfits ?_)
  dsimp only
  refine wp_if_neg (by rw [hw, sizeLine_eq]; omega) ?_
  try refine wpAny_bind (wpAny_pure ?_)
  rw [e]
  dsimp only
  refine wpAny_bind ?_
  refine wp_if_neg (by rw [hs2]; simp) ?_
  try refine wpAny_bind (wpAny_pure ?_)
  refine wpAny_pure ?_
  dsimp only
  refine wpAny_storeSet_of ho hd ?_ (by rw [hs2, hsl, sizeLine_eq]; omega)
  have sb : Heap.SameBut a s.heap (s.heap.update a (Obj.putSet (order.filterMap (es[·]?)) t')) := Heap.SameBut.update ..
  refine hQ _ L2 sb ⟨_, _, _, _, store_at ho hd, ⟨hex.1, hex.2.1, hex.2.2⟩, rfl, r1, T, (r2.map (·.2)).nodup_iff.mpr nd, fun m hm => (key m (r2.mem_iff.mp hm)).apart ho hd sb, by rw [ep']; exact pl, by rw [el]; exact ld, ?_, by rw [r2.length_eq]; exact few⟩ r2
  rw [r2.length_eq, em]
  omega
/-- adding a key -/
theorem adding (S : SetAt P w s.heap a L) {x : Addr} {k : NestedKey} (hx : IsK P w s.heap k x) (hu : A.units + 8 < cLine) (hfew : L.length + 1 ≤ 18) {Q : Bool → Shared → Prop}
    (hQ : ∀ b h' L', Heap.SameBut a s.heap h' → SetAt P w h' a L' → (k ∈ L.map (·.2) → L' = L) → (k ∉ L.map (·.2) → L'.Perm ((x, k) :: L)) → Q b { s with heap := h' }) :
    wpAny (model P w) A (setAddHashed a (.ref x) (k.hash w)) Q E s := by
  obtain ⟨o, es, ep, t, ho, hex, hd, G⟩ := id S
  have hsl := pairs_len G.rows
  have hroom := G.room
  unfold setAddHashed
  refine wpAny_holding ?_
  rw [show (100000 : Nat) = 99999 + 1 from rfl, setAddHashedIn_succ]
  refine wpAny_bind (wpAny_setState_of ho hd G.fits ?_)
  dsimp only
  refine wp_if_neg (by simp [byScan, Value.scannable]) ?_
  try refine wpAny_bind (wpAny_pure ?_)
  refine wpAny_bind (lookFor G ho hd hx hu (fun hm => ?_) fun K hm hK hb => ?_)
  · dsimp only
    exact wpAny_pure (hQ false s.heap L (Heap.SameBut.refl a s.heap) S (fun _ => rfl) fun z => absurd hm z)
  · dsimp only
    refine wpAny_bind (wpAny_setState_of ho hd G.fits ?_)
    dsimp only
    obtain ⟨q1, q2, q3, q4, q5, q6, q7, q8, q9⟩ := G.tab.put hK hb
    have hp1 : (t.put (way t.mask (k.hash w) K)).1.plain = true := by rw [q6]; exact G.plain
    generalize hpt : t.put (way t.mask (k.hash w) K) = pt at q1 q3 q4 q5 q6 q7 q8 q9 hp1 ⊢
    obtain ⟨t1, p⟩ := pt
    dsimp only at q1 q3 q4 q5 q6 q7 q8 q9 hp1 ⊢
    subst q1
    first
      | (refine wpAny_bind ?_; refine wp_if_pos hp1 ?_; refine (hx.mute _ _ _).2 ?_)
      | refine wp_if_pos hp1 (wpAny_bind ((hx.mute _ _ _).2 ?_))
    simp only [if_true]
    have hin : (SetTable.insertAt es (SetTable.below t.place (way t.mask (k.hash w) K)) (k.hash w, Value.ref x)).toList = pairs w (L.take (SetTable.below t.place (way t.mask (k.hash w) K)) ++ (x, k) :: L.drop (SetTable.below t.place (way t.mask (k.hash w) K))) := by
      rw [SetTable.toList_insertAt, G.rows]
      unfold pairs
      rw [List.map_append, List.map_cons, List.map_take, List.map_drop]
    generalize hpp : SetTable.below t.place (way t.mask (k.hash w) K) = p at q2 q3 hin ⊢
    have pm : (L.take p ++ (x, k) :: L.drop p).Perm ((x, k) :: L) := put_perm L p (x, k)
    have hlen : (L.take p ++ (x, k) :: L.drop p).length = L.length + 1 := pm.length_eq
    have hhs : hashes w (L.take p ++ (x, k) :: L.drop p) = (hashes w L).take p ++ k.hash w :: (hashes w L).drop p := by
      unfold hashes
      rw [List.map_append, List.map_cons, List.map_take, List.map_drop]
    rw [← hhs] at q3
    have nd1 : ((L.take p ++ (x, k) :: L.drop p).map (·.2)).Nodup := by
      refine (pm.map (·.2)).nodup_iff.mpr ?_
      rw [List.map_cons]
      exact List.nodup_cons.mpr ⟨hm, G.nd⟩
    have hes : (SetTable.insertAt es p (k.hash w, Value.ref x)).size = L.length + 1 := by rw [pairs_len hin, hlen]
    generalize SetTable.insertAt es p (k.hash w, Value.ref x) = es1 at hin hes ⊢
    generalize L.take p ++ (x, k) :: L.drop p = L1 at pm hlen q3 nd1 hin
    refine wpAny_bind (wpAny_storeSet_of ho hd ?_ (by rw [hes, sizeLine_eq]; omega))
    have sb : Heap.SameBut a s.heap (s.heap.update a (Obj.putSet es1 t1)) := Heap.SameBut.update ..
    have ho1 := store_at (es' := es1) (t' := t1) ho hd
    generalize s.heap.update a (Obj.putSet es1 t1) = h1 at sb ho1 ⊢
    have key1 : ∀ m ∈ L1, IsK P w h1 m.2 m.1 := fun m hm1 => by
      rcases List.mem_cons.mp (pm.mem_iff.mp hm1) with e | hm1
      · rw [e]
        exact hx.apart ho hd sb
      · exact (G.key m hm1).apart ho hd sb
    have ld1 : w.params.followText "set-order" = true ∨ t1.led = true := by rw [q5]; exact G.led
    by_cases hf : t1.tooFull = true
    · first
        | (refine wpAny_bind ?_; refine wp_if_pos (by simp [hf]) ?_)
        | (refine wp_if_pos (by simp [hf]) ?_; refine wpAny_bind ?_)
      have hfull : (L.length + 1) * 5 ≥ t1.mask * 3 := by
        have z := hf
        unfold SetTable.tooFull at z
        rw [decide_eq_true_eq, q9, List.length_map] at z
        exact z
      have four : t.mask = 7 ∧ L.length = 4 := by
        rcases G.tab.mok with e | e | e
        · rw [q4, e] at hfull
          rw [e] at hroom
          exact ⟨e, by omega⟩
        · exfalso
          rw [q4, e] at hfull
          omega
        · exfalso
          rw [q4, e] at hfull
          omega
      have hsz1 : t1.place.size = es1.size := by
        have z := q3.sz
        rw [List.length_map, hlen] at z
        rw [z, hes]
      rw [hsl]
      refine anew (s := { s with heap := h1 }) ho1 ⟨hex.1, hex.2.1, hex.2.2⟩ rfl hin hsz1 q3.dm (by rw [hes, q4]; omega) nd1 key1 hp1 ld1 (by rw [hlen]; exact hfew) (by rw [four.2, size_20]) ?_
      intro h2 L2 sb2 S2 pm2
      exact wpAny_pure (hQ true h2 L2 (sb.trans sb2) S2 (fun z => absurd z hm) fun _ => pm2.trans pm)
    · first
        | refine wp_if_neg (by simp [hf]) ?_
        | (refine wpAny_bind ?_; refine wp_if_neg (by simp [hf]) ?_; refine wpAny_pure ?_)
      refine wpAny_pure (hQ true h1 L1 sb ⟨_, _, _, _, ho1, ⟨hex.1, hex.2.1, hex.2.2⟩, rfl, hin, q3, nd1, key1, hp1, ld1, ?_, by rw [hlen]; exact hfew⟩ (fun z => absurd z hm) fun _ => pm)
      have z := hf
      unfold SetTable.tooFull at z
      rw [decide_eq_true_eq, q9, List.length_map] at z
      rw [hlen]
      omega
end
end NS
set_option Elab.async false
set_option linter.all false
set_option maxRecDepth 100000
/-! Dl20: set(xs) and len(set(xs)), xs a list of nested tuples of numbers. -/
namespace NS
open PySem PySem.Spec PyProof.Rows L2
/-- what the set has of the first i members of the list -/
structure Has (ks : List Mem) (i : Nat) (L : List Mem) : Prop where
  sub : ∀ m ∈ L, m ∈ ks.take i
  all : ∀ m ∈ ks.take i, m.2 ∈ L.map (·.2)
  len : L.length ≤ i
theorem Has.none (ks : List Mem) : Has ks 0 [] := ⟨fun m h => (by cases h), fun m h => (by simp at h), Nat.le_refl _⟩
theorem Has.same {ks L : List Mem} {i : Nat} {m : Mem} (g : Has ks i L) (h : ks[i]? = some m) (hm : m.2 ∈ L.map (·.2)) : Has ks (i + 1) L := by
  have e := take_next h
  refine ⟨fun p hp => by rw [e]; exact List.mem_append_left _ (g.sub p hp), fun p hp => ?_, Nat.le_succ_of_le g.len⟩
  rw [e, List.mem_append, List.mem_singleton] at hp
  rcases hp with z | z
  · exact g.all p z
  · rw [z]
    exact hm
theorem Has.more {ks L L' : List Mem} {i : Nat} {m : Mem} (g : Has ks i L) (h : ks[i]? = some m) (pm : L'.Perm (m :: L)) : Has ks (i + 1) L' := by
  have e := take_next h
  refine ⟨fun p hp => ?_, fun p hp => ?_, ?_⟩
  · rw [e, List.mem_append, List.mem_singleton]
    rcases List.mem_cons.mp (pm.mem_iff.mp hp) with z | z
    · exact .inr z
    · exact .inl (g.sub p z)
  · rw [(pm.map (·.2)).mem_iff, List.map_cons]
    rw [e, List.mem_append, List.mem_singleton] at hp
    rcases hp with z | z
    · exact List.mem_cons_of_mem _ (g.all p z)
    · rw [z]
      exact List.mem_cons_self
  · rw [pm.length_eq, List.length_cons]
    exact Nat.succ_le_succ g.len
section
variable {P : Program} {w : World} {A : Around} {E : Value → Shared → Prop} {s : Shared}
abbrev setNew (w : World) : Obj := { cls := .type "set", dict := none, data := .set #[] 0 (.fresh 0 0 (!w.params.followText "set-order")) }
theorem setAt_new {h : Heap} {a : Addr} (ho : h.get? a = some (setNew w)) : SetAt P w h a [] := by
  refine ⟨_, _, _, _, ho, ⟨rfl, rfl, rfl⟩, rfl, rfl, ⟨List.Pairwise.nil, rfl, rfl, .inl rfl, fun x hx => (by cases hx), fun i h j hi => (by simp at hi)⟩, List.nodup_nil, fun m hm => (by cases hm), rfl, ?_, ?_, Nat.zero_le _⟩
  · show _ ∨ (!w.params.followText "set-order") = true
    cases w.params.followText "set-order"
    · exact .inr rfl
    · exact .inl rfl
  · show 0 * 5 < 7 * 3
    decide
theorem SetAt.keep {h h' : Heap} {a : Addr} {L : List Mem} (S : SetAt P w h a L) (ha : ∀ o, h.get? a = some o → h'.get? a = some o) (hk : ∀ m ∈ L, IsK P w h' m.2 m.1) : SetAt P w h' a L := by
  obtain ⟨o, es, ep, t, ho, hex, hd, G⟩ := S
  exact ⟨o, es, ep, t, ha o ho, hex, hd, G.rows, G.tab, G.nd, hk, G.plain, G.led, G.room, G.few⟩
theorem IsK.keepAll {h h' : Heap} {k : NestedKey} {b : Addr} (x : IsK P w h k b) (hk : ∀ c o, h.get? c = some o → h'.get? c = some o) : IsK P w h' k b := x.keep fun c o _ _ e _ => hk c o e
/-- the loop that fills the set -/
theorem filling {I : Addr} {fp wr : List Addr} {G : Array GenState → Array GenState → Prop} {n : Nat} {Pv : Nat → Value → Prop} {St : Nat → Shared → Prop} {R : Result → Shared → Prop}
    (W : WalksS P w A.in1 I fp wr G n Pv St) (S : Addr) (hSf : S ∉ fp) (ks : List Mem) (hn : n = ks.length) (hfew : ks.length ≤ 17) (hval : ∀ i v, Pv i v → ∃ m, ks[i]? = some m ∧ v = .ref m.1)
    (h0 : Heap) (hk : ∀ m ∈ ks, IsK P w h0 m.2 m.1) (hS0 : h0.get? S = none) (hw0 : ∀ b ∈ wr, h0.get? b = none) (hu : A.in1.units + 8 < cLine) :
    ∀ (k i : Nat) (s : Shared), n - i = k → i ≤ n → St i s → (∀ b o, h0.get? b = some o → s.heap.get? b = some o) → (∃ L, SetAt P w s.heap S L ∧ Has ks i L) →
      (∀ s' L, Moved (S :: wr) G s s' → SetAt P w s'.heap S L → Has ks n L → (∀ b o, h0.get? b = some o → s'.heap.get? b = some o) → R (.ok (.ret .none)) s') →
      codeAny (model P w) A (.builtin "set.update.loop" ⟨[.ref S, .ref I], []⟩) R s := by
  have hSw : S ∉ wr := fun h => hSf (W.sub _ h)
  have hsub : ∀ b ∈ wr, b ∈ S :: wr := fun b hb => List.mem_cons_of_mem _ hb
  have stay : ∀ {s s' : Shared}, Moved wr G s s' → (∀ b o, h0.get? b = some o → s.heap.get? b = some o) → ∀ b o, h0.get? b = some o → s'.heap.get? b = some o := fun hm hkp b o e =>
    hm.heap b o (fun hb => by rw [hw0 b hb] at e; cases e) (hkp b o e)
  intro k
  induction k with
  | zero =>
    intro i s hk' hi hst hkp ⟨L, hS, g⟩ hR
    have hin : i = n := by omega
    subst hin
    refine codeAny_builtin F.entry_set_update_loop ?_
    rw [Around.under_plainId F.plain_set_update_loop _]
    show wpAny _ A.in1 (pyNext (.ref I) >>= _) _ _ s
    refine wpAny_bind (W.done s _ _ hst fun s' hm => ?_)
    show wpAny _ A.in1 (ret Value.none) _ _ s'
    have hkp' := stay hm hkp
    exact wpAny_pure (hR s' L (hm.mono hsub) (hS.keep (fun o e => hm.heap S o hSw e) fun m hm2 => (hk m (List.mem_of_mem_take (g.sub m hm2))).keepAll hkp') g hkp')
  | succ k ih =>
    intro i s hk' hi hst hkp ⟨L, hS, g⟩ hR
    have hlt : i < n := by omega
    refine codeAny_builtin F.entry_set_update_loop ?_
    rw [Around.under_plainId F.plain_set_update_loop _]
    show wpAny _ A.in1 (pyNext (.ref I) >>= _) _ _ s
    refine wpAny_bind (W.item i s _ _ hlt hst fun v s' hP hst' hm => ?_)
    obtain ⟨m, hmi, rfl⟩ := hval i v hP
    have hkp' := stay hm hkp
    have hS' : SetAt P w s'.heap S L := hS.keep (fun o e => hm.heap S o hSw e) fun q hq => (hk q (List.mem_of_mem_take (g.sub q hq))).keepAll hkp'
    have hx : IsK P w s'.heap m.2 m.1 := (hk m (List.mem_of_getElem? hmi)).keepAll hkp'
    show wpAny _ A.in1 (holding [Value.ref m.1] (setAdd S (.ref m.1)) >>= _) _ _ s'
    refine wpAny_bind (wpAny_holding ?_)
    unfold setAdd
    refine wpAny_holding ?_
    refine wpAny_bind ((nestedKind P w).pyHash hu hx.1 ?_)
    refine adding (s := { s' with toks := s'.toks + (nestedKind P w).draws m.2 }) hS' hx hu (by have := g.len; omega) fun b h' L' hsb hS2 c1 c2 => ?_
    have g' : Has ks (i + 1) L' := by
      rcases Classical.em (m.2 ∈ L.map (·.2)) with c | c
      · rw [c1 c]
        exact g.same hmi c
      · exact g.more hmi (c2 c)
    have hkp2 : ∀ b o, h0.get? b = some o → h'.get? b = some o := fun b o e => (hsb.2 b (fun z => by rw [z, hS0] at e; cases e)).trans (hkp' b o e)
    refine wpAny_pure ⟨plainId_quiet F.plain_set_update_loop _, ih (i + 1) _ (by omega) hlt (W.frame _ s' _ _ hst' (Nat.le_add_right _ _) fun b hb o e => ?_) hkp2 ⟨L', hS2, g'⟩ fun s'' L2 hm'' hS'' g'' hkp'' => ?_⟩
    · rw [hsb.2 b (fun h : b = S => hSf (by rw [← h]; exact hb))]
      exact e
    · refine hR s'' L2 (Moved.trans W.gtrans ((hm.mono hsub).then_heap (Nat.le_add_right _ _) fun b o hb e => ?_) hm'') hS'' g'' hkp''
      rw [hsb.2 b (fun h : b = S => hb (by rw [h]; exact List.mem_cons_self))]
      exact e

set_option maxHeartbeats 3200000 in
/-- set(xs) -/
theorem making {l : Addr} {items : Array Value} (ks : List Mem) {Q : Value → Shared → Prop} (hh : A.handled = none) (hl : s.heap.IsList l items) (hit : items.toList = ks.map fun m => Value.ref m.1)
    (hk : ∀ m ∈ ks, IsK P w s.heap m.2 m.1) (hfew : ks.length ≤ 17) (hu : A.units + 60 < cLine)
    (h : ∀ (h' : Heap) (tk : Nat) L, SetAt P w h' s.heap.objs.size L → Has ks ks.length L → (∀ b o, s.heap.get? b = some o → h'.get? b = some o) → Q (.ref s.heap.objs.size) { s with heap := h', toks := tk }) :
    wpAny (model P w) A (call (.type "set") [.ref l]) Q E s := by
  have hisz : items.size = ks.length := by
    have q := congrArg List.length hit
    rw [Array.length_toList, List.length_map] at q
    exact q
  obtain ⟨c, tl, hmro⟩ := F.called_set.mro
  have hmade := F.called_set.made
  have hsub := F.called_set.sub
  refine wpAny_call (codeAny_of_tree ?_)
  show wpAny _ _ (callAny (.type "set") _) _ _ _
  refine wpAny_pure ⟨Code.quiet_builtin _ (by decide +kernel), codeAny_builtin F.entry_type_call ?_⟩
  rw [Around.under_plain (weight_type_call_type "set" [.ref l] []) rfl]
  have h1 := F.called_set.notType
  have h2 := F.called_set.canCreate
  have hct := F.typeCall_set_1 (.ref l)
  repeat (any_goals (first | assumption | wp_step))
  refine codeAny_mono (code_set_led1 (.ref l) (E := E) (Q₁ := fun obj s₁ => obj = .ref s.heap.objs.size ∧ s₁ = { s with heap := s.heap.push (setNew w) }) ⟨rfl, rfl⟩) fun r s₁ hr => ?_
  cases r with
  | error e => exact hr
  | ok fl =>
    cases fl with
    | ret obj =>
      obtain ⟨rfl, rfl⟩ := hr
      have hS : (s.heap.push (setNew w)).get? s.heap.objs.size = some (setNew w) := Heap.get?_push_size _ rfl
      have hT : Shared.TypeIs { s with heap := s.heap.push (setNew w) } (.ref s.heap.objs.size) "set" := ⟨_, hS, rfl⟩
      have hli := F.called_set.init.lookup
      have hbi := F.called_set.init.bind (.ref s.heap.objs.size)
      repeat (any_goals (first | assumption | wp_step))
      refine codeAny_mono (codeAny_call_builtin (R := wants (fun r s₂ => r = .none ∧ ∃ h' tk L, s₂ = { s with heap := h', toks := tk } ∧ SetAt P w h' s.heap.objs.size L ∧ Has ks ks.length L ∧ (∀ b o, s.heap.get? b = some o → h'.get? b = some o)) E)
        F.called_set.init.plain F.entry_set_init (check_set_init_1 hT ?_)) fun r₂ s₂ hr₂ => ?_
      · obtain ⟨ol, hol, hcl, nl, hdl⟩ := hl
        obtain ⟨ocls, odict, odata, oslots⟩ := ol
        simp only at hcl hdl
        subst hcl
        subst hdl
        have hol' : (s.heap.push (setNew w)).get? l = some { cls := .type "list", dict := odict, data := .seq items nl, slots := oslots } := Heap.get?_push_of_some _ hol
        have hsls := F.sub_list_set
        have hslf := F.sub_list_frozenset
        have hne : (Value.type "list" == Value.type "dict") = false := by decide
        have hl1 : (s.heap.push (setNew w)).IsList l items := ⟨_, hol', rfl, nl, rfl⟩
        unfold Builtin.«set.__init__» noKeywords Builtin.Frozenset.updateFrom
        generalize hPI : pyIter = PI
        wp_walk
        subst hPI
        refine wpAny_pyIter_list hl1 ?_
        refine wpAny_bind (wpAny_runValue ?_)
        have hlS : l < s.heap.objs.size := Heap.lt_size hol
        have hh3 : A.in1.in1.in1.handled = none := by simp [hh]
        have hneI : l ≠ (s.heap.push (setNew w)).objs.size := by
          rw [Heap.size_push]
          exact Nat.ne_of_lt (Nat.lt_succ_of_lt hlS)
        have hSf : s.heap.objs.size ∉ [(s.heap.push (setNew w)).objs.size, l] := by
          rw [Heap.size_push]
          simp only [List.mem_cons, List.not_mem_nil, or_false, not_or]
          exact ⟨Nat.ne_of_lt (Nat.lt_succ_self _), Nat.ne_of_gt hlS⟩
        have hval : ∀ (i : Nat) (v : Value), items[i]? = some v → ∃ m, ks[i]? = some m ∧ v = .ref m.1 := fun i v hv => by
          have q : items.toList[i]? = some v := by
            rw [Array.getElem?_toList]
            exact hv
          rw [hit, List.getElem?_map] at q
          obtain ⟨m, hm, e⟩ := Option.map_eq_some_iff.mp q
          exact ⟨m, hm, e.symm⟩
        have noneAt : ∀ b, s.heap.objs.size ≤ b → s.heap.get? b = none := fun b hb => by
          cases q : s.heap.get? b with
          | none => rfl
          | some o => exact absurd (Nat.lt_of_lt_of_le (Heap.lt_size q) hb) (Nat.lt_irrefl _)
        refine filling ((Walks.list hh3 _ l hneI items).toS) s.heap.objs.size hSf ks hisz hfew hval s.heap hk (noneAt _ (Nat.le_refl _)) (fun b hb => noneAt b (by
            rw [List.mem_singleton.mp hb, Heap.size_push]
            exact Nat.le_succ _)) (by simp only [Around.in1]; omega) (items.size - 0) 0 _ (by omega) (Nat.zero_le _)
          ⟨⟨_, Heap.get?_push_size _ rfl, rfl, rfl⟩, (hl1.push _)⟩ (fun b o e => Heap.get?_push_of_some _ (Heap.get?_push_of_some _ e)) ?hS0 ?hR
        case hS0 => exact ⟨[], setAt_new (Heap.get?_push_of_some _ hS), Has.none ks⟩
        case hR =>
          intro s' L hm hS' g' hkp
          obtain ⟨h', g2, d', tk', os'⟩ := s'
          have eg : g2 = s.gens := hm.gens
          have ed : d' = s.drawn := hm.drawn
          have eo : os' = s.os := hm.os
          subst eg
          subst ed
          subst eo
          show wpAny _ _ _ _ _ _
          refine wpAny_pure ?_
          show wpAny _ _ (ret Value.none) _ _ _
          rw [hisz] at g'
          exact wpAny_pure ⟨rfl, h', tk', L, rfl, hS', g', hkp⟩
      · cases r₂ with
        | error e => exact hr₂
        | ok fl₂ =>
          cases fl₂ with
          | ret r =>
            obtain ⟨rfl, h', tk, L, rfl, hS', g', hk'⟩ := hr₂
            repeat (any_goals (first | assumption | wp_step))
            exact h _ _ _ hS' g' hk'
          | _ => exact hr₂.elim
    | _ => exact hr.elim
end
end NS
set_option Elab.async false
set_option linter.all false
set_option maxRecDepth 100000
/-! Dl21: len(set(xs)), xs a list of nested tuples of numbers. -/
namespace Dl
open PySem PySem.Spec PyProof.Rows L2 Evl
def tLenSetN (ta : TE) : TE := fun σ H Q => ta σ H fun x H1 => ∃ (l : Addr) (ks : List NS.Mem), x = V.ref l ∧ H1 l = some (.lst (ks.map fun m => V.ref m.1)) ∧ ks.length ≤ 17 ∧ (∀ m ∈ ks, KeyAt H1 m.2 m.1 ∧ NS.numK m.2 = true) ∧
  ∀ ds : List NestedKey, ds.Nodup → (∀ k, k ∈ ds ↔ k ∈ ks.map (·.2)) → Q (.int ((ds.length : Nat) : Int)) H1
section
variable {X : Cx}
theorem pe_lenSetN {a : Expr} {ta : TE} {p p2 q pos : Pos} (hc : X.calm = true) (hu : X.A.units + 65 < cLine) (hg : Gl X "len") (hm : X.mg "len" = none) (hg2 : Gl X "set") (hm2 : X.mg "set" = none) (ha : PE X a ta)
    (na : starEach [a] X.env = (false, eval a X.env) :: starEach [] X.env := by rfl) : PE X (.Call (.Name "len" p) [.Call (.Name "set" p2) [a] [] q] [] pos) (tLenSetN ta) := by
  refine ⟨fun pins s σ H Q I h => ?_⟩
  refine Call_ (ld_blt I hg hm PySem.boot_len ?_)
  refine PyProof.Rows.callWith_builtin1 (PyProof.Rows.args_cons ?_ rfl) rfl rfl
  refine Call_ (ld_blt I hg2 hm2 PyProof.Rows.boot_set ?_)
  refine PyProof.Rows.callWith_type1 (PyProof.Rows.args_cons (thn (ha.run pins s σ H _ I h) fun v s1 ⟨x, H1, I1, r1, q1⟩ => PyProof.Rows.args_nil ?_) na) na rfl
  obtain ⟨l, ks, ex, hl, hfew, hk, q1⟩ := q1
  subst ex
  cases r1
  obtain ⟨_, its, n, rv, he⟩ := (show ObjOk X.prog X.w H1 s1.heap l (.lst (ks.map fun m => V.ref m.1)) from I1.hok l _ hl)
  have ei : its = ks.map fun m => Value.ref m.1 := by
    have z : ∀ (ks : List NS.Mem) (its : List Value), Vals (ks.map fun m => V.ref m.1) its → its = ks.map fun m => Value.ref m.1 := by
      intro ks
      induction ks with
      | nil => intro its r; cases r; rfl
      | cons m ks ih =>
        intro its r
        cases r with
        | cons r1 r2 =>
          cases r1
          rw [ih _ r2]
          rfl
    exact z ks its rv
  refine NS.making (P := X.prog) (w := X.w) (items := its.toArray) ks (I1.ok.hd hc) ⟨_, he, rfl, n, rfl⟩ (by simpa using ei) (fun m hm => ⟨(hk m hm).1.is I1.hok, (hk m hm).2⟩) hfew (by omega) fun h' tk L S g keep => ?_
  refine PyProof.Rows.args_nil ?_
  obtain ⟨o, es, ep, t, ho, hex, hd, G⟩ := S
  have I2 : Inv X pins σ H1 { s1 with heap := h', toks := tk } := I1.kept keep
  have hsz := NS.pairs_len G.rows
  have hll := g.len
  refine call_len_set ho hex hd G.fits (by rw [hsz]; omega) ⟨.int ((L.length : Nat) : Int), H1, I2.tok _, ⟨_, by rw [hsz]⟩, ?_⟩
  have z := q1 (L.map (·.2)) G.nd fun k => ⟨fun hk1 => ?_, fun hk1 => ?_⟩
  · rw [List.length_map] at z
    exact z
  · obtain ⟨m, hm, e⟩ := List.mem_map.mp hk1
    exact List.mem_map.mpr ⟨m, List.mem_of_mem_take (g.sub m hm), e⟩
  · obtain ⟨m, hm, e⟩ := List.mem_map.mp hk1
    rw [← e]
    exact g.all m (by rw [List.take_length]; exact hm)
end
theorem nodup_le {α : Type} [DecidableEq α] : ∀ (l D : List α), l.Nodup → (∀ x ∈ l, x ∈ D) → l.length ≤ D.length
  | [], _, _, _ => Nat.zero_le _
  | x :: l, D, hn, hs => by
    rw [List.nodup_cons] at hn
    have hx := hs x List.mem_cons_self
    have h1 := nodup_le l (D.erase x) hn.2 fun y hy => (List.mem_erase_of_ne (fun e : y = x => hn.1 (by rw [← e]; exact hy))).mpr (hs y (List.mem_cons_of_mem _ hy))
    have h2 := List.length_erase_of_mem hx
    have h3 : 0 < D.length := List.length_pos_of_mem hx
    rw [List.length_cons]
    omega
theorem nodup_same {α : Type} [DecidableEq α] {l D : List α} (h1 : l.Nodup) (h2 : D.Nodup) (h : ∀ x, x ∈ l ↔ x ∈ D) : l.length = D.length :=
  Nat.le_antisymm (nodup_le l D h1 fun x hx => (h x).mp hx) (nodup_le D l h2 fun x hx => (h x).mpr hx)
/-- members: tuples of numbers -/
def KeyD (x : D) : Prop := ∃ ds, x = .tup ds ∧ flatL ds = true ∧ (nk x).depth ≤ 8 ∧ NS.numK (nk x) = true
theorem mems_of {B : Hp} : ∀ {xs : List D} {vs : List V}, IsL B xs vs → (∀ x ∈ xs, KeyD x) → ∃ ks : List NS.Mem, vs = ks.map (fun m => V.ref m.1) ∧ ks.map (·.2) = xs.map nk ∧ ∀ m ∈ ks, KeyAt B m.2 m.1 ∧ NS.numK m.2 = true
  | [], vs, i, _ => ⟨[], isl_nil.mp i, rfl, fun m h => by cases h⟩
  | x :: xs, vs, i, h => by
    obtain ⟨v, r, e, i1, i2⟩ := isl_cons.mp i
    obtain ⟨ks, e1, e2, e3⟩ := mems_of i2 fun y hy => h y (List.mem_cons_of_mem _ hy)
    obtain ⟨ds, ex, hf, hd, hn⟩ := h x List.mem_cons_self
    subst ex
    obtain ⟨b, eb, kb⟩ := keyAt_of (Ex.refl B) hf hd i1
    refine ⟨(b, nk (.tup ds)) :: ks, by rw [e, eb, e1]; rfl, by rw [List.map_cons, List.map_cons, e2], fun m hm => ?_⟩
    rcases List.mem_cons.mp hm with z | hm
    · rw [z]
      exact ⟨kb, hn⟩
    · exact e3 m hm
theorem ed_lenSetN {R : Reg} {Γ : List Sl} {te : TE} {xs : List D} {c : Nat} (h : ED R te Γ (.lst xs)) (hx : ∀ x ∈ xs, KeyD x) (hl : xs.length ≤ 17) (hc : ∀ ds : List NestedKey, ds.Nodup → (∀ k, k ∈ ds ↔ k ∈ xs.map nk) → ds.length = c) : ED R (tLenSetN te) Γ (.int (c : Int)) := fun B0 H0 B H σ a Q q =>
  h B0 H0 B H σ a _ fun v d B2 H2 g s iv => by
    subst s
    obtain ⟨l, vs, ev, h1, h2⟩ := is_lst.mp iv
    obtain ⟨ks, e1, e2, e3⟩ := mems_of h2 hx
    have hlen : ks.length = xs.length := by
      have z := congrArg List.length e2
      rw [List.length_map, List.length_map] at z
      exact z
    refine ⟨l, ks, ev, by rw [g.fz.sub _ _ h1, e1], by omega, fun m hm => ⟨(e3 m hm).1.mono g.fz.sub, (e3 m hm).2⟩, fun ds n1 n2 => ?_⟩
    rw [hc ds n1 (fun k => by rw [n2 k, e2])]
    exact q _ _ B2 H2 g rfl (is_int.mpr rfl)
end Dl
set_option Elab.async false
set_option linter.all false
set_option maxRecDepth 100000
set_option maxHeartbeats 4000000
/-! Dl22: a caught exception with fields: isinstance, its field. -/
namespace Dl
open PySem PySem.Spec PySem.Calls PyProof.Rows PySem.W
section
variable {prog : Program} {w : World} {A : Around} {E : Value → Shared → Prop} {s : Shared} {K : Frag} {x C : Addr} {ox : Obj} {od : Option Obj}
/-- e.__class__ of such an exception, whatever its dict holds -/
theorem clsOfExc {Q : Option Value → Shared → Prop} (T : L2.ExcC K C) (X : K.In s.heap) (I : InstAt s.heap x ox C od) (h : Q (some (.ref C)) { s with toks := s.toks + 1 }) : wpAny (model prog w) A (getAttr? (.ref x) "__class__") Q E s := by
  have found : findObj K C od "__class__" = some (.bind (.builtin "getset_descriptor.__get__") (.builtin "object.__class__")) := by
    obtain ⟨cd, hc, _⟩ := any_some T.hd
    unfold findObj
    rw [hc, Option.bind_some, T.ha, Option.bind_some]
    simp [T.hn, T.ht]
  obtain ⟨hp, g, d, t, os⟩ := s
  have at0 := I.type (M := model prog w)
  have at1 := looks_findIn (M := model prog w) X T.hg
  have at2 := looks_findIn (M := model prog w) X T.hk
  have at3 := looks_find (M := model prog w) X I found
  have isB : Looks (model prog w) hp (isInstance (.ref x) (.type "BaseException")) true := at0.andThen (looks_subIn X T.hs)
  have ne : (Value.builtin "BaseException.__getattribute__" == Value.builtin "object.__getattribute__") = false := by decide +kernel
  unfold getAttr? getAttrBy? getAttrBy
  refine wpAny_bind (wpAny_mkText (wpAny_bind (wpAny_attempt (wpAny_holding (wpAny_bind (at0.at (wpAny_bind (at1.at ?_))))))))
  show wpAny _ _ (if (onTheHeap (Value.ref C) && Value.builtin "BaseException.__getattribute__" == Value.builtin "object.__getattribute__") = true then _ else _) _ _ _
  rw [if_neg (by rw [ne, Bool.and_false]; exact Bool.false_ne_true)]
  unfold getAttrByItsOwn hookBefore
  refine wpAny_bind ?_
  rw [if_pos (show onTheHeap (Value.ref C) = true from rfl)]
  refine at2.at ?_
  refine wpAny_bind (wpAny_attempt (wpAny_holding ?_))
  unfold callGetattribute
  rw [if_neg (show ¬ (false && onTheHeap (Value.builtin "BaseException.__getattribute__")) = true from Bool.false_ne_true)]
  unfold boundAndCalled
  rw [PySem.F.excAttr_ValueError.ga.bind (.ref x)]
  refine wpAny_bind (wpAny_pure ?_)
  show wpAny _ _ (call (.builtin "BaseException.__getattribute__") [.ref x, .str "__class__" t]) _ _ _
  refine wpAny_call (codeAny_call_builtin PySem.F.excAttr_ValueError.ga.plain PySem.F.entry_bexc_ga ?_)
  refine @check_slot (model prog w) _ _ ⟨hp, g, d, t + 1, os⟩ "BaseException.__getattribute__" "BaseException" "__getattribute__" (.ref x) [.str "__class__" t] [] _ (by decide +kernel) (by decide +kernel) isB (PySem.F.args_bexc_ga (.ref x) (.str "__class__" t)) ?_
  unfold Builtin.«object.__getattribute__»
  refine wpAny_bind (wpAny_of_eq (a := ((Value.ref x : Value), [Value.str "__class__" t])) (by first | rfl | (simp only [slotArgs]; rfl)) ?_)
  refine wpAny_bind (wpAny_pure (wpAny_bind (at0.at (wpAny_bind (at3.at ?_)))))
  show wpAny _ _ (holding [Value.builtin "object.__class__"] (call (.builtin "getset_descriptor.__get__") [.builtin "object.__class__", .ref x, .ref C]) >>= ret) _ _ _
  refine wpAny_bind (wpAny_holding (wpAny_call (class_get (s := ⟨hp, g, d, t + 1, os⟩) (ox := ox) (od := od) X I T.hm ?_)))
  refine wpAny_pure ?_
  show wpAny _ _ (handedOut (.ref C)) _ _ _
  rw [handedOut_of (v := .ref C) rfl]
  first
    | exact wpAny_pure (wpAny_pure h)
    | exact wpAny_pure h
    | exact wpAny_pure (wpAny_bind (wpAny_pure (wpAny_pure h)))
theorem kitOfExc (T : L2.ExcC K C) : KitX K (.ref x) (.ref C) (fun h => ∃ ox od, InstAt h x ox C od) where
  ty := fun _ _ _ ⟨_, _, I⟩ => I.type
  it := fun _ _ X _ => by
    obtain ⟨cdD, hcD, _⟩ := any_some T.hd
    unfold clsIn at hcD
    split at hcD
    · rename_i c' d' cd' sl' ho
      intro A' Q' E' s' k q
      unfold isType loadHead
      exact wpAny_bind (wpAny_loadPart (k _ _ (X _ _ ho)) (wpAny_pure q))
    · cases hcD
  ne := fun h tp dd its n sl X htp => by
    obtain ⟨cdD, hcD, _⟩ := any_some T.hd
    refine Bool.eq_false_iff.mpr fun q => ?_
    have e : C = tp := Value.ref.inj (beq_iff_eq.mp q)
    subst e
    unfold clsIn at hcD
    split at hcD
    · rename_i c' d' cd' sl' ho
      have z := (X _ _ ho).symm.trans htp
      cases z
    · cases hcD
  ca := fun X ⟨_, _, I⟩ k => clsOfExc T X I k
end
end Dl
namespace Dl
open PySem PySem.Spec PyProof.Rows L2 Evl
/-- isinstance(e, c), e the caught exception of the class C with the dict dd -/
def rIsX (K : PySem.W.Frag) (C a : Addr) (d : Option Addr) : List V → Hp → VK → Prop := fun xs H Q => ∃ (c : V) (cv : Value) (b : Bool) (dd : Addr) (fs : List (Str × V)), xs = [.ref a, c] ∧ d = some dd ∧ H dd = some (.xd fs) ∧ (∀ u, RelV c u → u = cv) ∧ PySem.W.kitOne K (.ref C) cv = some b ∧ Q (.bl b) H
theorem call_isX {X : Cx} {a C : Addr} {d : Option Addr} {oe : Obj} {pn : List (Addr × Obj)} (T : ExcC X.K C) (hz : Zc (.ref C) d oe) (hf : ∃ vs, oe.data = .fields vs) : CallR (X.suite a ((a, oe) :: pn)) (.builtin "isinstance") (rIsX X.K C a d) := by
  intro pins s σ H xs us Q I r h
  obtain ⟨c, cv, b, dd, fs, rfl, ed, ea, hcv, e, q⟩ := h
  subst ed
  cases r with
  | cons rx rr =>
    cases rr with
    | cons rt rr =>
      cases rr
      cases rx
      have ec := hcv _ rt
      subst ec
      obtain ⟨hget, _⟩ := I.pin (a, oe) (List.mem_append.mpr (.inl List.mem_cons_self))
      obtain ⟨vs, hv⟩ := hf
      obtain ⟨mA, hns, hr⟩ := (show ObjOk X.prog X.w H s.heap dd (.xd fs) from I.hok dd _ ea)
      obtain ⟨od, ho, hl⟩ := lookIn_ns hns
      have J : PySem.W.InstAt s.heap a oe C (some od) := ⟨hget, hz.1, by unfold PySem.W.notCls; rw [hv] <;> rfl, by rw [hz.2]; exact ho⟩
      exact PySem.W.kia_one (kitOfExc T) I.kIn ⟨oe, some od, J⟩ e (fun z => nomatch z) fun tk => ⟨.bl b, H, I.kept (t' := tk) fun _ _ z => z, rfl, q⟩
end Dl
set_option Elab.async false
set_option linter.all false
set_option maxRecDepth 100000
/-! Dl23: len of an own instance; an own list lent to a call. -/
namespace Dl
open PySem PySem.Spec PyProof.Rows L2 Evl
/-- len(x), x an instance whose class has its own __len__ -/
def rLenM (C : Addr) (sp : Sp) : List V → Hp → VK → Prop := fun xs H Q => ∃ (p dx : Addr) (fs : List (Str × V)), xs = [.ref p] ∧ H p = some (.ins C dx fs) ∧ sp [.ref p] H (fun v H2 => ∃ n : Int, v = .int n ∧ 0 ≤ n ∧ n < 2 ^ 63 ∧ Q (.int n) H2) E0
theorem call_lenM {X : Cx} {C f : Addr} {fd : FuncData} {ps : List Str} {k : Nat} {sp : Sp} (hm : Meth X.K C "__len__" f) (F : FnOk X.prog X.w X.K X.mg X.base CX0 k f fd ps sp) (hb : Binds X.K fd ps []) (hr : Room (k + 1) X.A) : CallR X (.builtin "len") (rLenM C sp) := by
  intro pins s σ H xs us Q I rv h
  obtain ⟨a, dx, fs, rfl, ha, hsp⟩ := h
  obtain ⟨u, rfl, ru⟩ := rv.one
  cases ru
  have sb : L2.Sub X k X.A.in1 := (L2.Sub.in1 (⟨hr, rfl⟩ : L2.Sub X (k + 1) X.A))
  obtain ⟨mA, J, _⟩ := ins_get I.hok ha
  obtain ⟨od, J, _⟩ := J.look
  have e0 : Env0 X.prog X.w X.K X.mg X.base X.A.in1 X.stack s H := by
    have e := I.env0
    exact ⟨by rw [sb.fr]; exact e.frames, e.mod, e.bs, e.bsz, e.funs, e.frf, e.hok, e.bare⟩
  have hl := F.len _ _ _ _ hsp
  have r2 : Vals [V.ref a] [Value.ref a] := .cons rfl .nil
  refine Calls.call_function_entry kind_len plain_len entry_len (args_len1 _) ?_
  unfold Builtin.«len»
  refine wpAny_bind (m := oneArg "len" _) (wpAny_pure ?_)
  refine wpAny_bind (m := callSpecial? (.ref a) (Str.ofString "__len__")) (PySem.W.special_fn (name := "__len__") (args := []) I.kIn J hm.at_ (beq_iff_eq.mp hm.fn) ?_)
  refine wpAny_call (codeAny_mono (F.run X.A.in1 X.stack s H ⟨[.ref a], []⟩ [.ref a] [.ref a] _ E0 sb.room e0 (by
    have := hb s [.ref a] I.kIn (by simpa using hl)
    simpa using this) r2 hsp) fun r s' hq => ?_)
  cases r with
  | error e => exact hq.elim
  | ok fl =>
    cases fl with
    | next => exact False.elim hq
    | brk => exact False.elim hq
    | cont => exact False.elim hq
    | ret u =>
      obtain ⟨v, H', I', rv', n, ev, h0, h1, q⟩ := I.after hq
      subst ev
      obtain ⟨t, rfl⟩ := rv'
      refine wpAny_bind (wpAny_holding (wpAny_pure ?_))
      refine wpAny_bind (wpAny_letGo ?_)
      show wpAny _ _ (if n < 0 then _ else _) _ _ _
      rw [if_neg (by omega)]
      show wpAny _ _ (if n ≥ 2 ^ 63 then _ else _) _ _ _
      rw [if_neg (by omega)]
      exact wpAny_bind (wpAny_mkInt (wpAny_pure ⟨_, rfl, .int n, H', I'.tok _, ⟨_, rfl⟩, q⟩))
section
variable {R : Reg} {K : PySem.W.Frag} {Γ : List Sl} {te : TE} {C : Addr} {ks : List Str} {fs : List D} {n : Int} {F : List D → D → Prop}
theorem ed_lenM (h : ED R te Γ (.obj C ks fs)) (k : F [.obj C ks fs] (.int n)) (h0 : 0 ≤ n) (h1 : n < 2 ^ 63) : ED R (tCB (rLenM C (psp F)) (tCons te tNil)) Γ (.int n) := fun B0 H0 B H σ a Q q => h B0 H0 B H σ a _ fun v x B1 H1 g s i => by
  subst s
  obtain ⟨p, dx, vs, ev, hb, hl, iv⟩ := is_obj.mp i
  refine ⟨p, dx, _, by rw [ev], g.fz.sub _ _ hb, ?_⟩
  refine ⟨B1, [.obj C ks fs], .int n, g.fz.sub, isl_mk (by rw [← ev]; exact i) (isl_nil.mpr rfl), k, fun v2 B2 H2 g2 i2 => ?_⟩
  have e2 := is_int.mp i2
  subst e2
  exact ⟨n, rfl, h0, h1, q _ _ B2 H2 (Go.trans a.fz g (Go.lift g.fz g2)) rfl i2⟩
/-! ### no lists within -/
mutual
def nol : D → Bool
  | .non => true
  | .bl _ => true
  | .int _ => true
  | .str _ => true
  | .tup ds => nolL ds
  | .lst _ => false
  | .obj _ _ ds => nolL ds
def nolL : List D → Bool
  | [] => true
  | d :: ds => nol d && nolL ds
end
mutual
theorem Is.nol {B B' : Hp} (e : ∀ a o, (∀ vs, o ≠ .lst vs) → B a = some o → B' a = some o) : ∀ (d : D) {v : V}, nol d = true → Is B d v → Is B' d v
  | .non, v, _, h => is_non.mpr (is_non.mp h)
  | .bl b, v, _, h => is_bl.mpr (is_bl.mp h)
  | .int i, v, _, h => is_int.mpr (is_int.mp h)
  | .str x, v, _, h => is_str.mpr (is_str.mp h)
  | .tup ds, v, f, h => by
    unfold Dl.nol at f
    obtain ⟨a, vs, h1, h2, h3⟩ := is_tup.mp h
    exact is_tup.mpr ⟨a, vs, h1, e _ _ (fun _ z => by cases z) h2, IsL.nol e ds f h3⟩
  | .lst ds, v, f, h => by unfold Dl.nol at f; cases f
  | .obj C ks ds, v, f, h => by
    unfold Dl.nol at f
    obtain ⟨a, dx, vs, h1, h2, h4, h3⟩ := is_obj.mp h
    exact is_obj.mpr ⟨a, dx, vs, h1, e _ _ (fun _ z => by cases z) h2, h4, IsL.nol e ds f h3⟩
theorem IsL.nol {B B' : Hp} (e : ∀ a o, (∀ vs, o ≠ .lst vs) → B a = some o → B' a = some o) : ∀ (ds : List D) {vs : List V}, nolL ds = true → IsL B ds vs → IsL B' ds vs
  | [], vs, _, h => isl_nil.mpr (isl_nil.mp h)
  | d :: ds, vs, f, h => by
    unfold nolL at f
    rw [Bool.and_eq_true] at f
    obtain ⟨v, r, h1, h2, h3⟩ := isl_cons.mp h
    exact isl_cons.mpr ⟨v, r, h1, Is.nol e d f.1 h2, IsL.nol e ds f.2 h3⟩
end
/-- without what stands at a -/
def del (H : Hp) (a : Addr) : Hp := fun x => if x = a then none else H x
theorem del_same {H : Hp} {a : Addr} : del H a a = none := if_pos rfl
theorem del_ne {H : Hp} {a x : Addr} (h : x ≠ a) : del H a x = H x := if_neg h
/-- an own list is lent: the value has no list within -/
theorem ep_lend {i : Nat} {ds : List D} {S : D → Prop} (e : Γ[i]? = some (.own ds)) (h : EP R te (Γ.set i (.dat (.lst ds))) S) (hn : ∀ d, S d → nol d = true) : EP R te Γ S := fun B0 H0 B H σ a Q q => by
  obtain ⟨l, vs, e1, b1, nr, h1, hds, h0⟩ := a.own e
  have a2 : ∃ B2, B2 = upd B l (.lst vs) ∧ At R B0 H0 B2 (Γ.set i (.dat (.lst ds))) σ H := by
    have eb : Ex B (upd B l (.lst vs)) := Ex.new b1
    refine ⟨_, rfl, a.f0, Go.freeze a.go h0 b1 h1 nr, by rw [List.length_set]; exact a.len, fun j t ej => ?_, fun j k t t' m ej ek p p' q q' => ?_, fun j t m ej p q => ?_⟩
    · rcases get_set ej with ⟨rfl, rfl, hi⟩ | ⟨ne, ej⟩
      · exact ⟨_, e1, _, rfl, is_lst.mpr ⟨l, vs, rfl, upd_same, hds.mono eb⟩⟩
      · obtain ⟨o', q1, q2⟩ := a.sl j t ej
        refine ⟨o', q1, ?_⟩
        cases t with
        | no => exact True.intro
        | dat d =>
          obtain ⟨v, r1, r2⟩ := q2
          exact ⟨v, r1, r2.mono eb⟩
        | at_ v => exact q2
        | own xs =>
          obtain ⟨m, us, r1, r2, r3, r4, r5⟩ := q2
          have nm : m ≠ l := fun y => by
            rw [r1, y] at q1
            exact ne (a.dj i j _ _ l e ej rfl rfl e1 q1)
          exact ⟨m, us, r1, by rw [upd_ne nm]; exact r2, r3, r4, r5.mono eb⟩
        | box φ =>
          obtain ⟨m, us, r1, r2, r3, r4, r5⟩ := q2
          have nm : m ≠ l := fun y => by
            rw [r1, y] at q1
            exact ne (a.dj i j _ _ l e ej rfl rfl e1 q1)
          exact ⟨m, us, r1, by rw [upd_ne nm]; exact r2, r3, r4, fun B' e' => r5 B' (eb.trans e')⟩
    · rcases get_set ej with ⟨rfl, rfl, _⟩ | ⟨ne, ej⟩
      · cases p
      · rcases get_set ek with ⟨rfl, rfl, _⟩ | ⟨ne', ek⟩
        · cases p'
        · exact a.dj j k t t' m ej ek p p' q q'
    · rcases get_set ej with ⟨rfl, rfl, _⟩ | ⟨ne, ej⟩
      · cases p
      · exact a.fr j t m ej p q
  obtain ⟨B2, eB, a2⟩ := a2
  refine h B0 H0 B2 H σ a2 Q fun v d B3 H3 g s iv => ?_
  have nl : ∀ {b : Addr} {o : HO}, B b = some o → b ≠ l := fun {b o} q y => by
    rw [y, b1] at q
    cases q
  refine q v d (del B3 l) H3 ⟨⟨fun b o z => ?_, g.fz.ok, fun b ra => ?_⟩, fun b o z => ?_, g.mv, fun b o z => ?_⟩ s (Is.nol (fun b o no z => ?_) d (hn d s) iv)
  · by_cases hb : b = l
    · rw [hb, del_same] at z
      cases z
    · rw [del_ne hb] at z
      exact g.fz.sub b o z
  · obtain ⟨z1, z2⟩ := g.fz.out b ra
    refine ⟨?_, z2⟩
    by_cases hb : b = l
    · rw [hb, del_same]
    · rw [del_ne hb, z1]
  · rw [del_ne (nl z)]
    exact g.ext b o (by rw [eB, upd_ne (nl z)]; exact z)
  · by_cases hb : b = l
    · rw [hb, del_same, b1]
    · rw [del_ne hb, g.new b o z, eB, upd_ne hb]
  · have hb : b ≠ l := fun y => by
      have z2 : B3 l = some (.lst vs) := g.ext l _ (by rw [eB, upd_same])
      rw [y, z2] at z
      exact no vs (Option.some.inj z).symm
    rw [del_ne hb]
    exact z
theorem ed_lend {i : Nat} {ds : List D} {d : D} (e : Γ[i]? = some (.own ds)) (h : ED R te (Γ.set i (.dat (.lst ds))) d) (hn : nol d = true) : ED R te Γ d := ep_lend e h fun _ z => by rw [z]; exact hn
end
end Dl
set_option Elab.async false
set_option linter.all false
set_option maxRecDepth 100000
/-! Dl24: expressions that change own things, with all else as it was (EY); comprehensions of such. -/
namespace Dl
open PySem PySem.Spec PyProof.Rows L2 Evl
/-- addresses of own things -/
def Own (Γ : List Sl) (σ : L2.St) (a : Addr) : Prop := ∃ (i : Nat) (s : Sl), Γ[i]? = some s ∧ isOwn s = true ∧ σ[i]? = some (some (V.ref a))
/-- a step that changes own things alone -/
structure ST (R : Reg) (Γ : List Sl) (σ : L2.St) (B H : Hp) (Γ' : List Sl) (B2 H2 : Hp) : Prop where
  ext : Ex B B2
  mv : ∀ a o, ¬ R.A a → ¬ Own Γ σ a → H a = some o → H2 a = some o ∧ B2 a = B a
  ow : ∀ a, Own Γ' σ a → Own Γ σ a
section
variable {R : Reg} {Γ Γ1 Γ2 G : List Sl} {σ τ : L2.St} {B0 H0 B H B1 H1 B2 H2 : Hp} {vs : List Nat}
theorem ST.refl : ST R Γ σ B H Γ B H := ⟨Ex.refl B, fun _ _ _ _ h => ⟨h, rfl⟩, fun _ h => h⟩
theorem ST.trans (x : ST R Γ σ B H Γ1 B1 H1) (y : ST R Γ1 σ B1 H1 Γ2 B2 H2) : ST R Γ σ B H Γ2 B2 H2 := ⟨x.ext.trans y.ext, fun a o na no h => by
  obtain ⟨h1, b1⟩ := x.mv a o na no h
  obtain ⟨h2, b2⟩ := y.mv a o na (fun z => no (x.ow a z)) h1
  exact ⟨h2, b2.trans b1⟩, fun a z => x.ow a (y.ow a z)⟩
theorem ST.go (g : Go R B H B2 H2) : ST R Γ σ B H Γ B2 H2 := ⟨g.ext, fun a o na _ h => ⟨g.mv a o na h, g.new a o h⟩, fun _ h => h⟩
theorem ST.goW (g : Go R B H B2 H2) (ow : ∀ a, Own Γ1 σ a → Own Γ σ a) : ST R Γ σ B H Γ1 B2 H2 := ⟨g.ext, fun a o na _ h => ⟨g.mv a o na h, g.new a o h⟩, ow⟩
theorem Own.ne_none (a : At R B0 H0 B Γ σ H) {l : Addr} (h : Own Γ σ l) : ∃ u, H l = some u ∧ B l = none ∧ ¬ R.A l ∧ H0 l = none := by
  obtain ⟨i, s, e, hs, hl⟩ := h
  obtain ⟨l', u, e1, b1, nr, h1, h0⟩ := a.ownS e hs
  rw [e1] at hl
  have z : l' = l := by
    injection hl with q
    injection q with q
    injection q
  rw [← z]
  exact ⟨u, h1, b1, nr, h0⟩
/-- a slot becomes another of its own -/
theorem own_set {i : Nat} {s s' : Sl} (e : Γ[i]? = some s) (h : isOwn s' = true → isOwn s = true) : ∀ a, Own (Γ.set i s') σ a → Own Γ σ a := fun a ⟨j, t, ej, ht, hj⟩ => by
  rcases get_set ej with ⟨rfl, rfl, _⟩ | ⟨ne, ej⟩
  · exact ⟨_, s, e, h ht, hj⟩
  · exact ⟨j, t, ej, ht, hj⟩
theorem wipeG_len : ∀ {vs : List Nat}, (wipeG Γ vs).length = Γ.length
  | [] => rfl
  | v :: vs => by
    unfold wipeG
    rw [List.length_set, wipeG_len (vs := vs)]
theorem wipeG_at {i : Nat} : ∀ {vs : List Nat}, (wipeG Γ vs)[i]? = if i ∈ vs ∧ i < Γ.length then some .no else Γ[i]?
  | [] => by simp [wipeG]
  | v :: vs => by
    unfold wipeG
    rw [List.getElem?_set, wipeG_len, wipeG_at (vs := vs)]
    by_cases e : v = i
    · subst e
      by_cases h : v < Γ.length
      · simp [h]
      · simp [h]
    · have e' : ¬ i = v := fun z => e z.symm
      simp [e, e']
theorem wipe_out {σ τ : L2.St} (hw : wipe τ vs = wipe σ vs) : σ.length = τ.length ∧ ∀ i, i ∉ vs → τ[i]? = σ[i]? := by
  have hl : τ.length = σ.length := by
    have z := congrArg List.length hw
    rw [wipe_length, wipe_length] at z
    exact z
  refine ⟨hl.symm, fun i hi => ?_⟩
  have z : (wipe τ vs)[i]? = (wipe σ vs)[i]? := by rw [hw]
  rw [wipe_at, wipe_at, if_neg (fun y => hi y.1), if_neg (fun y => hi y.1)] at z
  exact z
/-- out of a comprehension's element -/
theorem At.back (a : At R B0 H0 B G τ H) (hw : L2.wipe τ vs = L2.wipe σ vs) : At R B0 H0 B (wipeG G vs) σ H := by
  obtain ⟨hl, ho⟩ := wipe_out hw
  have out : ∀ {i : Nat} {s : Sl}, (wipeG G vs)[i]? = some s → isOwn s = true → i ∉ vs ∧ G[i]? = some s := fun {i s} e p => by
    rw [wipeG_at] at e
    by_cases h : i ∈ vs ∧ i < G.length
    · rw [if_pos h] at e
      rw [← Option.some.inj e] at p
      cases p
    · rw [if_neg h] at e
      exact ⟨fun z => h ⟨z, (List.getElem?_eq_some_iff.mp e).1⟩, e⟩
  refine ⟨a.f0, a.go, by rw [wipeG_len, hl]; exact a.len, fun i s e => ?_, fun i j s s' l e e' p p' q q' => ?_, fun i s l e p q => ?_⟩
  · rw [wipeG_at] at e
    by_cases h : i ∈ vs ∧ i < G.length
    · rw [if_pos h] at e
      rw [← Option.some.inj e]
      have hi : i < σ.length := by rw [hl, a.len]; exact h.2
      exact ⟨_, List.getElem?_eq_getElem hi, True.intro⟩
    · rw [if_neg h] at e
      have hi : i ∉ vs := fun z => h ⟨z, (List.getElem?_eq_some_iff.mp e).1⟩
      obtain ⟨o, h1, h2⟩ := a.sl i s e
      exact ⟨o, by rw [← ho i hi]; exact h1, h2⟩
  · obtain ⟨n1, e⟩ := out e p
    obtain ⟨n2, e'⟩ := out e' p'
    exact a.dj i j s s' l e e' p p' (by rw [ho i n1]; exact q) (by rw [ho j n2]; exact q')
  · obtain ⟨n1, e⟩ := out e p
    exact a.fr i s l e p (by rw [ho i n1]; exact q)
theorem own_back (hw : wipe τ vs = wipe σ vs) {l : Addr} (h : Own (wipeG G vs) σ l) : Own G τ l := by
  obtain ⟨i, s, e, p, q⟩ := h
  obtain ⟨hl, ho⟩ := wipe_out hw
  rw [wipeG_at] at e
  by_cases h : i ∈ vs ∧ i < G.length
  · rw [if_pos h] at e
    rw [← Option.some.inj e] at p
    cases p
  · rw [if_neg h] at e
    have hi : i ∉ vs := fun z => h ⟨z, (List.getElem?_eq_some_iff.mp e).1⟩
    exact ⟨i, s, e, p, by rw [ho i hi]; exact q⟩
theorem setsD_len : ∀ {ps : List (Nat × D)} {Γ : List Sl}, (setsD Γ ps).length = Γ.length
  | [], Γ => rfl
  | p :: ps, Γ => by
    show (setsD (Γ.set p.1 (.dat p.2)) ps).length = _
    rw [setsD_len, List.length_set]
theorem setsD_own : ∀ {ps : List (Nat × D)} {Γ : List Sl} {i : Nat} {s : Sl}, (setsD Γ ps)[i]? = some s → isOwn s = true → Γ[i]? = some s
  | [], Γ, i, s, e, _ => e
  | p :: ps, Γ, i, s, e, h => by
    have e2 := setsD_own (ps := ps) (Γ := Γ.set p.1 (.dat p.2)) e h
    rcases get_set e2 with ⟨_, rfl, _⟩ | ⟨_, e2⟩
    · cases h
    · exact e2
theorem own_in {ps : List (Nat × D)} (hw : wipe τ vs = wipe σ vs) {l : Addr} (h : Own (setsD (wipeG G vs) ps) τ l) : Own G σ l := by
  obtain ⟨i, s, e, p, q⟩ := h
  obtain ⟨hl, ho⟩ := wipe_out hw
  have e := setsD_own e p
  rw [wipeG_at] at e
  by_cases h : i ∈ vs ∧ i < G.length
  · rw [if_pos h] at e
    rw [← Option.some.inj e] at p
    cases p
  · rw [if_neg h] at e
    have hi : i ∉ vs := fun z => h ⟨z, (List.getElem?_eq_some_iff.mp e).1⟩
    exact ⟨i, s, e, p, by rw [← ho i hi]; exact q⟩
/-- a thing outside the slots is written -/
theorem At.wrOut (a : At R B0 H0 B Γ σ H) {l : Addr} {u : HO} (b1 : B l = none) (nr : ¬ R.A l) (h0 : H0 l = none) (no : ¬ Own Γ σ l) : At R B0 H0 B Γ σ (upd H l u) := by
  have nl : ∀ {b : Addr} {o : HO}, B b = some o → b ≠ l := fun {b o} q y => by
    rw [y, b1] at q
    cases q
  have f2 : Fz R B (upd H l u) := by
    refine ⟨fun b o q => ?_, R.st H _ (fun b ra => upd_ne (fun y : b = l => nr (y ▸ ra))) a.fz.ok, fun b ra => ?_⟩
    · rw [upd_ne (nl q)]
      exact a.fz.sub b o q
    · rw [upd_ne (fun y : b = l => nr (y ▸ ra))]
      exact a.fz.out b ra
  refine ⟨a.f0, ⟨f2, a.go.ext, fun b o nb q => ?_, a.go.new⟩, a.len, fun j t ej => ?_, a.dj, a.fr⟩
  · rw [upd_ne (ne_of_none q h0)]
    exact a.go.mv b o nb q
  · obtain ⟨o', q1, q2⟩ := a.sl j t ej
    refine ⟨o', q1, ?_⟩
    cases t with
    | no => exact True.intro
    | dat d => exact q2
    | at_ v => exact q2
    | own xs =>
      obtain ⟨m, us, r1, r2, r3, r4, r5⟩ := q2
      have nm : m ≠ l := fun y => no ⟨j, _, ej, rfl, by rw [← y, ← r1]; exact q1⟩
      exact ⟨m, us, r1, r2, r3, by rw [upd_ne nm]; exact r4, r5⟩
    | box φ =>
      obtain ⟨m, us, r1, r2, r3, r4, r5⟩ := q2
      have nm : m ≠ l := fun y => no ⟨j, _, ej, rfl, by rw [← y, ← r1]; exact q1⟩
      exact ⟨m, us, r1, r2, r3, by rw [upd_ne nm]; exact r4, r5⟩
/-- a thing outside the slots is frozen -/
theorem At.frzOut (a : At R B0 H0 B Γ σ H) {l : Addr} {u : HO} (b1 : B l = none) (nr : ¬ R.A l) (h0 : H0 l = none) (no : ¬ Own Γ σ l) (h1 : H l = some u) : At R B0 H0 (upd B l u) Γ σ H := by
  have eb : Ex B (upd B l u) := Ex.new b1
  refine ⟨a.f0, Go.freeze a.go h0 b1 h1 nr, a.len, fun j t ej => ?_, a.dj, a.fr⟩
  obtain ⟨o', q1, q2⟩ := a.sl j t ej
  refine ⟨o', q1, ?_⟩
  cases t with
  | no => exact True.intro
  | dat d =>
    obtain ⟨v, r1, r2⟩ := q2
    exact ⟨v, r1, r2.mono eb⟩
  | at_ v => exact q2
  | own xs =>
    obtain ⟨m, us, r1, r2, r3, r4, r5⟩ := q2
    have nm : m ≠ l := fun y => no ⟨j, _, ej, rfl, by rw [← y, ← r1]; exact q1⟩
    exact ⟨m, us, r1, by rw [upd_ne nm]; exact r2, r3, r4, r5.mono eb⟩
  | box φ =>
    obtain ⟨m, us, r1, r2, r3, r4, r5⟩ := q2
    have nm : m ≠ l := fun y => no ⟨j, _, ej, rfl, by rw [← y, ← r1]; exact q1⟩
    exact ⟨m, us, r1, by rw [upd_ne nm]; exact r2, r3, r4, fun B' e' => r5 B' (eb.trans e')⟩
/-- a slot says less -/
theorem At.weak (a : At R B0 H0 B Γ σ H) {i : Nat} {s s' : Sl} (e : Γ[i]? = some s) (hs : isOwn s' = true → isOwn s = true) (k : ∀ o, SlotOk R B H s o → SlotOk R B H s' o) : At R B0 H0 B (Γ.set i s') σ H := by
  refine ⟨a.f0, a.go, by rw [List.length_set]; exact a.len, fun j t ej => ?_, fun j m t t' l ej em p p' q q' => ?_, fun j t l ej p q => ?_⟩
  · rcases get_set ej with ⟨rfl, rfl, _⟩ | ⟨ne, ej⟩
    · obtain ⟨o, h1, h2⟩ := a.sl _ _ e
      exact ⟨o, h1, k o h2⟩
    · exact a.sl j t ej
  · have key : ∀ {x : Nat} {y : Sl}, (Γ.set i s')[x]? = some y → isOwn y = true → ∃ z, Γ[x]? = some z ∧ isOwn z = true := fun {x y} ex py => by
      rcases get_set ex with ⟨rfl, rfl, _⟩ | ⟨_, ex⟩
      · exact ⟨s, e, hs py⟩
      · exact ⟨y, ex, py⟩
    obtain ⟨z1, f1, g1⟩ := key ej p
    obtain ⟨z2, f2, g2⟩ := key em p'
    exact a.dj j m z1 z2 l f1 f2 g1 g2 q q'
  · rcases get_set ej with ⟨rfl, rfl, _⟩ | ⟨_, ej⟩
    · exact a.fr _ s l e (hs p) q
    · exact a.fr j t l ej p q
theorem At.forgets (a : At R B0 H0 B Γ σ H) : ∀ vs : List Nat, At R B0 H0 B (wipeG Γ vs) σ H
  | [] => a
  | v :: vs => (a.forgets vs).forget
end
/-! ### the judgements -/
def EY (R : Reg) (te : TE) (Γ : List Sl) (S : D → List Sl → Prop) : Prop := ∀ (B0 H0 B H : Hp) (σ : L2.St), At R B0 H0 B Γ σ H → ∀ Q : VK, (∀ v d B2 H2 Γ', At R B0 H0 B2 Γ' σ H2 → ST R Γ σ B H Γ' B2 H2 → S d Γ' → Is B2 d v → Q v H2) → te σ H Q
def YA (R : Reg) (ta : TA) (Γ : List Sl) (S : List D → List Sl → Prop) : Prop := ∀ (B0 H0 B H : Hp) (σ : L2.St), At R B0 H0 B Γ σ H → ∀ Q : List V → Hp → Prop, (∀ vs ds B2 H2 Γ', At R B0 H0 B2 Γ' σ H2 → ST R Γ σ B H Γ' B2 H2 → S ds Γ' → IsL B2 ds vs → Q vs H2) → ta σ H Q
def YB (R : Reg) (tt : TT) (Γ : List Sl) (S : Bool → List Sl → Prop) : Prop := ∀ (B0 H0 B H : Hp) (σ : L2.St), At R B0 H0 B Γ σ H → ∀ Q : Bool → Hp → Prop, (∀ b B2 H2 Γ', At R B0 H0 B2 Γ' σ H2 → ST R Γ σ B H Γ' B2 H2 → S b Γ' → Q b H2) → tt σ H Q
def WY (R : Reg) (wi : TI) (Γ : List Sl) (S : List D → List Sl → Prop) : Prop := ∀ (B0 H0 B H : Hp) (σ : L2.St), At R B0 H0 B Γ σ H → ∀ Rr : It → Hp → Prop, (∀ J xs B2 H2 Γ', At R B0 H0 B2 Γ' σ H2 → ST R Γ σ B H Γ' B2 H2 → S xs Γ' → Yields R J B2 xs → Rr J H2) → wi σ H Rr
section
variable {R : Reg} {K : PySem.W.Frag} {Γ : List Sl} {te ta tb tf : TE} {tt tu : TT} {t tr : TA} {wi : TI} {S1 : D → List Sl → Prop} {S : D → List Sl → Prop} {r : R2} {d : D} {ds : List D} {B0 H0 : Hp} {N : List Sl → Prop} {Rt : D → Prop} {Bk Ct : List Sl → Prop} {i j : Nat}
theorem EY.ex (h : EY R te Γ S) : EX R te Γ S := fun B0 H0 B H σ a Q q => h B0 H0 B H σ a Q fun v d B2 H2 G a2 st s i => q v d B2 H2 G a2 st.ext s i
theorem EY.imp {S' : D → List Sl → Prop} (h : EY R te Γ S) (k : ∀ d G, S d G → S' d G) : EY R te Γ S' := fun B0 H0 B H σ a Q q => h B0 H0 B H σ a Q fun v d B2 H2 G a2 st s i => q v d B2 H2 G a2 st (k d G s) i
theorem YA.imp {S S' : List D → List Sl → Prop} (h : YA R t Γ S) (k : ∀ d G, S d G → S' d G) : YA R t Γ S' := fun B0 H0 B H σ a Q q => h B0 H0 B H σ a Q fun v d B2 H2 G a2 st s i => q v d B2 H2 G a2 st (k d G s) i
theorem YB.imp {S S' : Bool → List Sl → Prop} (h : YB R tt Γ S) (k : ∀ d G, S d G → S' d G) : YB R tt Γ S' := fun B0 H0 B H σ a Q q => h B0 H0 B H σ a Q fun b B2 H2 G a2 st s => q b B2 H2 G a2 st (k b G s)
theorem ey_of_ep {P : D → Prop} (h : EP R te Γ P) : EY R te Γ fun d G => P d ∧ G = Γ := fun B0 H0 B H σ a Q q => h B0 H0 B H σ a Q fun v d B2 H2 g s i => q v d B2 H2 Γ (a.step g) (ST.go g) ⟨s, rfl⟩ i
theorem ey_ed (h : ED R te Γ d) : EY R te Γ fun x G => x = d ∧ G = Γ := ey_of_ep h
theorem ya_of_ea {P : List D → Prop} (h : EA R t Γ P) : YA R t Γ fun d G => P d ∧ G = Γ := fun B0 H0 B H σ a Q q => h B0 H0 B H σ a Q fun v d B2 H2 g s i => q v d B2 H2 Γ (a.step g) (ST.go g) ⟨s, rfl⟩ i
theorem yb_of_eb {P : Bool → Prop} (h : EB R tt Γ P) : YB R tt Γ fun d G => P d ∧ G = Γ := fun B0 H0 B H σ a Q q => h B0 H0 B H σ a Q fun b B2 H2 g s => q b B2 H2 Γ (a.step g) (ST.go g) ⟨s, rfl⟩
theorem wy_of_wi {P : List D → Prop} (h : WI R wi Γ P) : WY R wi Γ fun d G => P d ∧ G = Γ := fun B0 H0 B H σ a Q q => h B0 H0 B H σ a Q fun J xs B2 H2 g s y => q J xs B2 H2 Γ (a.step g) (ST.go g) ⟨s, rfl⟩ y
theorem ey_op {S2 : D → D → List Sl → Prop} (ha : EY R ta Γ S1) (hb : ∀ x G, S1 x G → EY R tb G (S2 x)) (ho : ∀ x G0 y G, S1 x G0 → S2 x y G → OpS R r x y fun z => S z G) : EY R (tOp r ta tb) Γ S := fun B0 H0 B H σ a Q q =>
  ha B0 H0 B H σ a _ fun vx x B1 H1 G1 a1 st1 s1 i1 => hb x G1 s1 B0 H0 B1 H1 σ a1 _ fun vy y B2 H2 G2 a2 st2 s2 i2 =>
    ho x G1 y G2 s1 s2 B2 H2 vx vy a2.fz (i1.mono st2.ext) i2 Q fun v d B3 H3 g3 s3 i3 => q v d B3 H3 G2 (a2.step g3) ((st1.trans st2).trans (ST.go g3)) s3 i3
theorem ops_of_opl {x y : D} {zs : List D} {P : D → Prop} (h : OpL R r x y zs) (k : P (.lst zs)) : OpS R r x y P := fun B H vx vy f i1 i2 Q q => h B H vx vy f i1 i2 Q fun p vs B2 H2 g hp nb ho i =>
  q (.ref p) (.lst zs) _ H2 (Go.freeze g hp nb ho (f.nr hp)) k (is_lst.mpr ⟨p, vs, rfl, upd_same, i.mono (Ex.new nb)⟩)
theorem OpS.imp {x y : D} {P P' : D → Prop} (h : OpS R r x y P) (k : ∀ z, P z → P' z) : OpS R r x y P' := fun B H vx vy f i1 i2 Q q => h B H vx vy f i1 i2 Q fun v d B2 H2 g s i => q v d B2 H2 g (k d s) i
theorem ops_of {x y z : D} {P : D → Prop} (h : OpD R r x y z) (k : P z) : OpS R r x y P := OpS.imp h fun _ e => by rw [e]; exact k
theorem ya_nil : YA R tNil Γ fun ds G => ds = [] ∧ G = Γ := ya_of_ea eda_nil
theorem ya_cons {Sl : D → List D → List Sl → Prop} (h : EY R ta Γ S) (hr : ∀ x G, S x G → YA R tr G (Sl x)) : YA R (tCons ta tr) Γ fun ds G => ∃ x r G0, ds = x :: r ∧ S x G0 ∧ Sl x r G := fun B0 H0 B H σ a Q q =>
  h B0 H0 B H σ a _ fun v x B2 H2 G a2 st s i => hr x G s B0 H0 B2 H2 σ a2 _ fun vs ds B3 H3 G3 a3 st3 s3 i3 => q _ (x :: ds) B3 H3 G3 a3 (st.trans st3) ⟨x, ds, G, rfl, s, s3⟩ (isl_mk (i.mono st3.ext) i3)
theorem ey_tup {Sl : List D → List Sl → Prop} (h : YA R t Γ Sl) (hl : ∀ ds G, Sl ds G → ds.length ≤ 100000) (k : ∀ ds G, Sl ds G → S (.tup ds) G) : EY R (tTup t) Γ S := fun B0 H0 B H σ a Q q =>
  h B0 H0 B H σ a _ fun vs ds B2 H2 G a2 st s i => ⟨sz_of (by rw [← i.len]; exact hl ds G s), fun p hp => by
    have g := Go.newF (o := .tup vs) a2.fz hp
    exact q _ (.tup ds) _ _ G (a2.step g) (st.trans (ST.go g)) (k ds G s) (is_tup.mpr ⟨p, vs, rfl, upd_same, i.mono (Ex.new (a2.fz.bnone hp))⟩)⟩
theorem ey_lst {Sl : List D → List Sl → Prop} (h : YA R t Γ Sl) (hl : ∀ ds G, Sl ds G → ds.length ≤ 100000) (k : ∀ ds G, Sl ds G → S (.lst ds) G) : EY R (tLst t) Γ S := fun B0 H0 B H σ a Q q =>
  h B0 H0 B H σ a _ fun vs ds B2 H2 G a2 st s i => ⟨sz_of (by rw [← i.len]; exact hl ds G s), fun p hp => by
    have g := Go.newF (o := .lst vs) a2.fz hp
    exact q _ (.lst ds) _ _ G (a2.step g) (st.trans (ST.go g)) (k ds G s) (is_lst.mpr ⟨p, vs, rfl, upd_same, i.mono (Ex.new (a2.fz.bnone hp))⟩)⟩
theorem ey_cb {rr : List V → Hp → VK → Prop} {Sl : List D → List Sl → Prop} (h : YA R t Γ Sl) (k : ∀ ds G, Sl ds G → CbS R rr ds fun z => S z G) : EY R (tCB rr t) Γ S := fun B0 H0 B H σ a Q q =>
  h B0 H0 B H σ a _ fun vs ds B2 H2 G a2 st s i => k ds G s B2 H2 vs a2.fz i Q fun v d B3 H3 g3 s3 i3 => q v d B3 H3 G (a2.step g3) (st.trans (ST.go g3)) s3 i3
theorem CbS.imp {rr : List V → Hp → VK → Prop} {P P' : D → Prop} (h : CbS R rr ds P) (k : ∀ z, P z → P' z) : CbS R rr ds P' := fun B H vs f i Q q => h B H vs f i Q fun v d B2 H2 g s i2 => q v d B2 H2 g (k d s) i2
theorem cbs_of {rr : List V → Hp → VK → Prop} {z : D} {P : D → Prop} (h : CbD R rr ds z) (k : P z) : CbS R rr ds P := CbS.imp h fun _ e => by rw [e]; exact k
theorem ey_call {F : List D → D → Prop} {E : XK} {Sl : List D → List Sl → Prop} (h : YA R t Γ Sl) (k : ∀ ds G, Sl ds G → ∃ d, F ds d ∧ S d G) : EY R (tCall (psp F) [] E t) Γ S := fun B0 H0 B H σ a Q q =>
  h B0 H0 B H σ a _ fun vs ds B2 H2 G a2 st s i => by
    obtain ⟨d, hF, hS⟩ := k ds G s
    exact ⟨B2, ds, d, a2.fz.sub, by rw [List.append_nil]; exact i, hF, fun v B3 H3 g3 i3 => q v d B3 H3 G (a2.step (Go.lift a2.fz g3)) (st.trans (ST.go (Go.lift a2.fz g3))) hS i3⟩
/-- an expression pure from its own slots on, given as a rule for values -/
theorem ey_bind {te' : TE} {S' : D → List Sl → Prop} (h : EY R te Γ S) (k : ∀ d G, S d G → EY R te' G S') (ht : ∀ σ H Q, te σ H (fun _ H1 => te' σ H1 Q) → te' σ H Q) : EY R te' Γ S' := fun B0 H0 B H σ a Q q => ht σ H Q (h B0 H0 B H σ a _ fun v d B2 H2 G a2 st s i =>
  k d G s B0 H0 B2 H2 σ a2 Q fun v3 d3 B3 H3 G3 a3 st3 s3 i3 => q v3 d3 B3 H3 G3 a3 (st.trans st3) s3 i3)
/-! ### tests -/
theorem yb_test {P : Bool → List Sl → Prop} (h : EY R te Γ fun d G => ∃ b, d = .bl b ∧ P b G) : YB R (tTest te) Γ P := fun B0 H0 B H σ a Q q => h B0 H0 B H σ a _ fun v x B2 H2 G a2 st ⟨b, e, s⟩ i2 => by
  subst e
  exact ⟨b, is_bl.mp i2, q b B2 H2 G a2 st s⟩
theorem yb_and {P P2 : Bool → List Sl → Prop} (h : YB R tt Γ P) (k : ∀ G, P true G → YB R tu G P2) (k2 : ∀ G, P false G → P2 false G) : YB R (tAnd tt tu) Γ P2 := fun B0 H0 B H σ a Q q => h B0 H0 B H σ a _ fun b' B2 H2 G a2 st s => by
  cases b' with
  | true => exact iteT (k G s B0 H0 B2 H2 σ a2 Q fun b3 B3 H3 G3 a3 st3 s3 => q b3 B3 H3 G3 a3 (st.trans st3) s3)
  | false => exact iteF (q false B2 H2 G a2 st (k2 G s))
theorem ey_andV {P : Bool → List Sl → Prop} (h : EY R ta Γ fun d G => ∃ b, d = .bl b ∧ P b G) (k : ∀ G, P true G → EY R tb G S) (k2 : ∀ G, P false G → S (.bl false) G) : EY R (tAndV ta tb) Γ S := fun B0 H0 B H σ a Q q => h B0 H0 B H σ a _ fun v x B2 H2 G a2 st ⟨b, e, s⟩ i2 => by
  subst e
  refine ⟨b, is_bl.mp i2, ?_⟩
  cases b with
  | true => exact iteT (k G s B0 H0 B2 H2 σ a2 Q fun v3 d3 B3 H3 G3 a3 st3 s3 i3 => q v3 d3 B3 H3 G3 a3 (st.trans st3) s3 i3)
  | false => exact iteF (q _ _ B2 H2 G a2 st (k2 G s) (is_bl.mpr rfl))
theorem ey_if {P : Bool → List Sl → Prop} (h : YB R tt Γ P) (k1 : ∀ G, P true G → EY R ta G S) (k2 : ∀ G, P false G → EY R tb G S) : EY R (tIf tt ta tb) Γ S := fun B0 H0 B H σ a Q q => h B0 H0 B H σ a _ fun b' B2 H2 G a2 st s => by
  cases b' with
  | true => exact iteT (k1 G s B0 H0 B2 H2 σ a2 Q fun v d B3 H3 G3 a3 st3 s3 i3 => q v d B3 H3 G3 a3 (st.trans st3) s3 i3)
  | false => exact iteF (k2 G s B0 H0 B2 H2 σ a2 Q fun v d B3 H3 G3 a3 st3 s3 i3 => q v d B3 H3 G3 a3 (st.trans st3) s3 i3)
/-! ### slices of a list that is drawn -/
theorem ey_slL {tl th : TO} {lo hi : Option Int} {S0 : D → List Sl → Prop} (h : EY R te Γ S0) (k : ∀ d G, S0 d G → ∃ ds, d = .lst ds ∧ EDO R tl G lo ∧ EDO R th G hi ∧ S (.lst (cutD ds lo hi)) G) : EY R (tSl (rSlU K) te tl th) Γ S := fun B0 H0 B H σ a Q q =>
  h B0 H0 B H σ a _ fun v x B1 H1 G a1 st1 s1 i1 => by
    obtain ⟨ds, ex, hl, hh, hS⟩ := k x G s1
    subst ex
    refine hl B0 H0 B1 H1 σ a1 _ fun l B2 H2 g2 s2 => hh B0 H0 B2 H2 σ (a1.step g2) _ fun u B3 H3 g3 s3 => ?_
    subst s2 s3
    have g := Go.trans a1.fz g2 g3
    obtain ⟨p, ws, ev, h1, h2⟩ := is_lst.mp i1
    refine .inl ⟨p, ws, ev, SqL.of (g.fz.sub _ _ (g.ext _ _ h1)), fun n hn => ?_⟩
    have gn := Go.trans a1.fz g (Go.newF (o := .lst (cutV ws l u)) g.fz hn)
    exact q _ (.lst (cutD ds l u)) _ _ G (a1.step gn) (st1.trans (ST.go gn)) hS (is_lst.mpr ⟨n, _, rfl, upd_same, ((h2.mono g.ext).cut _ _).mono (Ex.new (g.fz.bnone hn))⟩)
/-! ### walks -/
theorem wy_rng1 {P : List D → List Sl → Prop} (h : YA R t Γ P) (k : ∀ ds G, P ds G → ∃ n : Nat, ds = [.int n] ∧ n < 2 ^ 62) : WY R (iRng1 t) Γ fun xs G => ∃ n : Nat, P [.int n] G ∧ xs = rngD 0 n := fun B0 H0 B H σ a Rr q => h B0 H0 B H σ a _ fun vs ds B2 H2 G a2 st s i => by
  obtain ⟨n, e, hn⟩ := k ds G s
  subst e
  obtain ⟨v, ev, iv⟩ := isl1 i
  rw [is_int.mp iv] at ev
  exact ⟨n, ev, by omega, by omega, q _ _ B2 H2 G a2 st ⟨n, s, rfl⟩ (by
    have y : Yields R (Itr 0 (n : Int).toNat) B2 (rngD 0 (n : Int).toNat) := yields_rng
    rw [Int.toNat_natCast] at y ⊢
    exact y)⟩
/-- [f(x) for x in xs], the element changes own things -/
theorem ey_lc {g : TG} {vs : List Nat} {Sx : List D → List Sl → Prop} (hi : WY R wi Γ Sx)
    (hs : ∀ xs G0, Sx xs G0 → ∃ P : Nat → List D → List Sl → Prop, P 0 [] (wipeG G0 vs) ∧
      (∀ i x ys G, xs[i]? = some x → P i ys G → ys.length < 100000 ∧ ∃ ps : List (Nat × D), (∀ j ∈ ps.map (·.1), j ∈ vs) ∧ GS R g x ps ∧ EY R te (setsD (wipeG G vs) ps) fun d G' => P (i + 1) (ys ++ [d]) (wipeG G' vs)) ∧
      ∀ ys G, P xs.length ys G → S (.lst ys) G) : EY R (tLc wi g tYes te vs) Γ S := fun B0 H0 B H σ a Q q =>
  hi B0 H0 B H σ a _ fun J xs B1 H1 G1 a1 st1 sx y => by
  obtain ⟨P, p0, pt, pe⟩ := hs xs G1 sx
  intro Dl hD
  have nr := a1.fz.nr hD
  have b1 := a1.fz.bnone hD
  have h0D : H0 Dl = none := none_back a1.f0 a1.go hD
  have noD : ¬ Own G1 σ Dl := fun z => by
    obtain ⟨u, hu, _⟩ := Own.ne_none a1 z
    rw [hD] at hu
    cases hu
  have stI : ST R G1 σ B1 H1 (wipeG G1 vs) B1 (upd H1 Dl (.lst [])) := ⟨Ex.refl _, fun c o _ _ hc => ⟨by rw [upd_ne (ne_of_none hc hD)]; exact hc, rfl⟩, fun c z => own_back (τ := σ) rfl z⟩
  refine ⟨fun i m H' => m = xs.length - i ∧ i ≤ xs.length ∧ ∃ B' ys ws G, At R B0 H0 B' G σ H' ∧ ST R G1 σ B1 H1 G B' H' ∧ B' Dl = none ∧ H' Dl = some (.lst ws) ∧ IsL B' ys ws ∧ P i ys G,
    ⟨xs.length, by omega, Nat.zero_le _, B1, [], [], wipeG G1 vs, (a1.step (Go.own a1.fz hD)).forgets vs, stI, b1, upd_same, isl_nil.mpr rfl, p0⟩, ?_⟩
  rintro i m H' ⟨rfl, hi, B', ys, ws, G, a2, st2, b2, h2, i2, p⟩
  obtain ⟨y1, y2⟩ := y B' H' i st2.ext a2.fz
  have noG : ¬ Own G σ Dl := fun z => noD (st2.ow Dl z)
  rcases Nat.lt_or_ge i xs.length with hlt | hge
  · have ex : xs[i]? = some xs[i] := List.getElem?_eq_getElem hlt
    obtain ⟨go, yy⟩ := y2 _ ex
    obtain ⟨hl, ps, pv, gs, ee⟩ := pt i _ ys G ex p
    refine .inr ⟨go, fun H'' => ∃ B' ys ws G, At R B0 H0 B' G σ H'' ∧ ST R G1 σ B1 H1 G B' H'' ∧ B' Dl = none ∧ H'' Dl = some (.lst ws) ∧ IsL B' ys ws ∧ P (i + 1) ys G, fun H'' h => ⟨xs.length - (i + 1), by omega, rfl, hlt, h⟩, fun v H3 yv => ?_⟩
    obtain ⟨B3, g3, iv⟩ := yy v H3 yv
    refine gs B3 H3 (wipe σ vs) v g3.fz iv _ fun us iu => ⟨by rw [wipe_sets pv, wipe_wipe], ?_⟩
    refine yes_true ?_
    dsimp only
    rw [if_pos rfl]
    have hw : wipe (setsV (wipe σ vs) (ps.map (·.1)) us) vs = wipe σ vs := by rw [wipe_sets pv, wipe_wipe]
    have a3 : At R B0 H0 B3 (setsD (wipeG G vs) ps) (setsV (wipe σ vs) (ps.map (·.1)) us) H3 := ((a2.step g3).wipe vs).sets iu
    generalize setsV (wipe σ vs) (ps.map (·.1)) us = τ at a3 hw
    have b3 : B3 Dl = none := (g3.new Dl _ h2).trans b2
    have h3 : H3 Dl = some (.lst ws) := g3.mv Dl _ nr h2
    refine ee B0 H0 B3 H3 τ a3 _ fun u d B4 H4 G4 a4 st4 sd id => ?_
    have noc : ¬ Own (setsD (wipeG G vs) ps) τ Dl := fun z => noG (own_in hw z)
    obtain ⟨h4, b4⟩ := st4.mv Dl _ nr noc h3
    rw [b3] at b4
    have no4 : ¬ Own G4 τ Dl := fun z => noc (st4.ow Dl z)
    refine ⟨ws, h4, by have := i2.len; exact sz_lt (by omega), B4, ys ++ [d], ws ++ [u], wipeG G4 vs, (a4.wrOut b4 nr h0D no4).back hw, ⟨st2.ext.trans (g3.ext.trans st4.ext), fun c o nc no hc => ?_, fun c z => ?_⟩, b4, upd_same, (i2.mono (g3.ext.trans st4.ext)).append (IsL.one id), sd⟩
    · obtain ⟨k1, k2⟩ := st2.mv c o nc no hc
      have k3 := g3.mv c o nc k1
      have k4 := g3.new c o k1
      have noC : ¬ Own (setsD (wipeG G vs) ps) τ c := fun z => no (st2.ow c (own_in hw z))
      obtain ⟨k5, k6⟩ := st4.mv c o nc noC k3
      exact ⟨by rw [upd_ne (ne_of_none hc hD)]; exact k5, k6.trans (k4.trans k2)⟩
    · exact st2.ow c (own_in hw (st4.ow c (own_back hw z)))
  · have e : i = xs.length := by omega
    subst e
    refine .inl ⟨y1 rfl, q (.ref Dl) (.lst ys) (upd B' Dl (.lst ws)) H' G (a2.frzOut b2 nr h0D noG h2) (st1.trans ⟨st2.ext.trans (Ex.new b2), fun c o nc no hc => ?_, st2.ow⟩) (pe ys G p) (is_lst.mpr ⟨Dl, ws, rfl, upd_same, i2.mono (Ex.new b2)⟩)⟩
    obtain ⟨k1, k2⟩ := st2.mv c o nc no hc
    exact ⟨k1, by rw [upd_ne (ne_of_none hc hD)]; exact k2⟩
/-! ### statements -/
theorem ss_asgY (h : EY R te Γ S) (k : ∀ d G, S d G → N (G.set i (.dat d))) : SS R B0 H0 (tAsg te (gName i)) Γ N Rt Bk Ct := ss_asgX h.ex k
theorem ss_asgGY {g : TG} (h : EY R te Γ S) (k : ∀ d G, S d G → ∃ ps, GS R g d ps ∧ N (setsD G ps)) : SS R B0 H0 (tAsg te g) Γ N Rt Bk Ct := fun B σ H E a n r b c => h B0 H0 B H σ a _ fun v d B2 H2 G a2 st s is_ => by
  obtain ⟨ps, hg, hn⟩ := k d G s
  exact hg B2 H2 σ v a2.fz is_ _ fun us iu => n B2 _ _ H2 hn (a2.sets iu) st.ext
theorem ss_parY {P : List D → List Sl → Prop} (h : YA R t Γ P) (k : ∀ ds G, P ds G → ∃ x y, ds = [x, y] ∧ N ((G.set i (.dat x)).set j (.dat y))) : SS R B0 H0 (tPar i j t) Γ N Rt Bk Ct := fun B σ H E a n r b c => h B0 H0 B H σ a _ fun vs ds B2 H2 G a2 st s is_ => by
  obtain ⟨x, y, e, hn⟩ := k ds G s
  subst e
  obtain ⟨v, w, ev, i1, i2⟩ := isl2 is_
  exact ⟨v, w, ev, n B2 _ _ H2 hn ((a2.putDat i1).putDat i2) st.ext⟩
theorem ss_weak {s s' : Sl} (e : Γ[i]? = some s) (hs : isOwn s' = true → isOwn s = true) (k : ∀ B H o, SlotOk R B H s o → SlotOk R B H s' o) {ts : TS} (h : SS R B0 H0 ts (Γ.set i s') N Rt Bk Ct) : SS R B0 H0 ts Γ N Rt Bk Ct := fun B σ H E a n r b c => h B σ H E (a.weak e hs (k B H)) n r b c
/-- a block whose end tells of the slots -/
def SX (R : Reg) (B0 H0 : Hp) (ts : TS) (Γ : List Sl) (N : List Sl → Prop) (Rt : D → List Sl → Prop) : Prop := ∀ (B : Hp) (σ : L2.St) (H : Hp) (E : Ends), At R B0 H0 B Γ σ H →
  (∀ B' Γ' σ' H', N Γ' → At R B0 H0 B' Γ' σ' H' → E.nx σ' H') → (∀ v d B' Γ' σ' H', Rt d Γ' → At R B0 H0 B' Γ' σ' H' → Is B' d v → E.rt v H') → ts E σ H
variable {RX : D → List Sl → Prop} {ts us : TS}
theorem sx_of (h : SS R B0 H0 ts Γ N (fun _ => False) (fun _ => False) (fun _ => False)) : SX R B0 H0 ts Γ N RX := fun B σ H E a n r => h B σ H E a (fun B' G s H' x y _ => n B' G s H' x y) (fun _ _ _ _ z => z.elim) (fun _ _ _ _ z => z.elim) (fun _ _ _ _ z => z.elim)
theorem sx_seq (h : SX R B0 H0 ts Γ (fun G => SX R B0 H0 us G N RX) RX) : SX R B0 H0 (tSeq ts us) Γ N RX := fun B σ H E a n r => h B σ H { E with nx := us E } a (fun B' G s H' x y => x B' s H' E y n r) r
theorem sx_seqS (h : SS R B0 H0 ts Γ (fun G => SX R B0 H0 us G N RX) (fun _ => False) (fun _ => False) (fun _ => False)) : SX R B0 H0 (tSeq ts us) Γ N RX := sx_seq (sx_of h)
theorem sx_next (h : N Γ) : SX R B0 H0 tNext Γ N RX := fun B σ H E a n r => n B Γ σ H h a
theorem sx_if {P : Bool → List Sl → Prop} (h : YB R tt Γ P) (k1 : ∀ G, P true G → SX R B0 H0 ts G N RX) (k2 : ∀ G, P false G → SX R B0 H0 us G N RX) : SX R B0 H0 (tIfS tt ts us) Γ N RX := fun B σ H E a n r => h B0 H0 B H σ a _ fun bb B2 H2 G a2 st s => by
  cases bb with
  | true => exact iteT (k1 G s B2 σ H2 E a2 n r)
  | false => exact iteF (k2 G s B2 σ H2 E a2 n r)
theorem sxd_if {b : Bool} (h : EDB R tt Γ b) (k1 : b = true → SX R B0 H0 ts Γ N RX) (k2 : b = false → SX R B0 H0 us Γ N RX) : SX R B0 H0 (tIfS tt ts us) Γ N RX := sx_if (yb_of_eb h) (fun G ⟨e, eG⟩ => by rw [eG]; exact k1 e.symm) (fun G ⟨e, eG⟩ => by rw [eG]; exact k2 e.symm)
theorem sx_ret (h : EY R te Γ S) (k : ∀ d G, S d G → RX d G) : SX R B0 H0 (tRet te) Γ N RX := fun B σ H E a n r => h B0 H0 B H σ a _ fun v d B2 H2 G a2 st s is_ => r v d B2 G σ H2 (k d G s) a2 is_
theorem sxd_ret (h : ED R te Γ d) (k : RX d Γ) : SX R B0 H0 (tRet te) Γ N RX := sx_ret (ey_ed h) fun x G ⟨e, e2⟩ => by rw [e, e2]; exact k
theorem sx_weak {s s' : Sl} (e : Γ[i]? = some s) (hs : isOwn s' = true → isOwn s = true) (k : ∀ B H o, SlotOk R B H s o → SlotOk R B H s' o) (h : SX R B0 H0 ts (Γ.set i s') N RX) : SX R B0 H0 ts Γ N RX := fun B σ H E a n r => h B σ H E (a.weak e hs (k B H)) n r
end
end Dl
set_option Elab.async false
set_option linter.all false
set_option maxRecDepth 100000
/-! Dl25: the bag of draws: a list of one's own, its cells a region. -/
namespace Dl
open PySem PySem.Spec PyProof.Rows L2 Evl
def bagU (c : Addr) (b m k : Int) : HO := .lst [.ref c, .int b, .int m, .int k]
structure BagOk (b m : Int) : Prop where
  b0 : 0 ≤ b
  b1 : b < 10 ^ 540
  m0 : 0 ≤ m
  m1 : m < 2 ^ 31
/-- a bag that has given at most n draws -/
def BagIs (c : Addr) (n : Nat) (u : HO) : Prop := ∃ b m k : Int, u = bagU c b m k ∧ BagOk b m ∧ 0 ≤ k ∧ k ≤ (n : Int)
theorem BagIs.mono {c : Addr} {n n' : Nat} {u : HO} (h : BagIs c n u) (hn : n ≤ n') : BagIs c n' u := by
  obtain ⟨b, m, k, e, o, h0, h1⟩ := h
  exact ⟨b, m, k, e, o, h0, by omega⟩
/-- the cells at c -/
def cells (c : Addr) : Reg := ⟨fun a => a = c, fun H => ∃ is : List Int, H c = some (.lst (is.map V.int)) ∧ is.length ≤ 63, fun H H' e ⟨is, h, hl⟩ => ⟨is, by rw [e c rfl]; exact h, hl⟩⟩
def bagS (a c : Addr) (n : Nat) : Sl := .box fun _ l u => l = a ∧ BagIs c n u
def bagX (a c : Addr) (b m k : Int) : Sl := .box fun _ l u => l = a ∧ u = bagU c b m k
/-- a def that draws at most kk times: its answers -/
def bsp (kk : Nat) (F : List D → (D → Prop) → Prop) : Sp := fun vs H Q _ => ∃ (a c : Addr) (n : Nat) (B : Hp) (ds : List D) (rest : List V) (S : D → Prop) (u : HO), vs = .ref a :: rest ∧ a ≠ c ∧ n + kk ≤ 2 ^ 60 ∧ Fz (cells c) B (del H a) ∧ B a = none ∧ H a = some u ∧ BagIs c n u ∧ IsL B ds rest ∧ F ds S ∧
  ∀ v d B2 H2 u2, Go (cells c) B (del H a) B2 H2 → B2 a = none → H2 a = some u2 → BagIs c (n + kk) u2 → S d → Is B2 d v → Q v H2
section
variable {R : Reg} {K : PySem.W.Frag} {Γ : List Sl} {te ta tb : TE} {t : TA} {B0 H0 B H B2 H2 : Hp} {σ : L2.St} {N : List Sl → Prop} {Rt : D → Prop} {Bk Ct : List Sl → Prop} {i j : Nat} {a c : Addr} {n : Nat}
theorem bagS_weak {n' : Nat} (hn : n ≤ n') : ∀ B H o, SlotOk R B H (bagS a c n) o → SlotOk R B H (bagS a c n') o := fun B H o h => by
  obtain ⟨l, u, e, h1, h2, h3, h4⟩ := h
  exact ⟨l, u, e, h1, h2, h3, fun B' e' => ⟨(h4 B' e').1, (h4 B' e').2.mono hn⟩⟩
theorem bagX_S {b m k : Int} (ok : BagOk b m) (h0 : 0 ≤ k) (hk : k ≤ (n : Int)) : ∀ B H o, SlotOk R B H (bagX a c b m k) o → SlotOk R B H (bagS a c n) o := fun B H o h => by
  obtain ⟨l, u, e, h1, h2, h3, h4⟩ := h
  exact ⟨l, u, e, h1, h2, h3, fun B' e' => ⟨(h4 B' e').1, b, m, k, (h4 B' e').2, ok, h0, hk⟩⟩
/-- what a bag is, now -/
theorem sx_bag {RX : D → List Sl → Prop} {ts : TS} (e : Γ[i]? = some (bagS a c n)) (h : ∀ b m k : Int, BagOk b m → 0 ≤ k → k ≤ (n : Int) → SX R B0 H0 ts (Γ.set i (bagX a c b m k)) N RX) : SX R B0 H0 ts Γ N RX := fun B σ H E at_ nx r => by
  obtain ⟨l, u, e1, b1, nr, h1, hφ, h0⟩ := at_.box e
  obtain ⟨hl, b, m, k, hu, ok, k0, k1⟩ := hφ B (Ex.refl B)
  refine h b m k ok k0 k1 B σ H E (at_.weak e (fun _ => rfl) fun o ho => ?_) nx r
  obtain ⟨o', q1, q2⟩ := at_.sl i _ e
  obtain ⟨l2, u2, r1, r2, r3, r4, r5⟩ := ho
  obtain ⟨z1, z2⟩ := r5 B (Ex.refl B)
  refine ⟨l2, u2, r1, r2, r3, r4, fun B' e' => ⟨z1, ?_⟩⟩
  have : l2 = l := z1.trans hl.symm
  rw [this, h1] at r4
  exact (Option.some.inj r4).symm.trans hu
/-- a call that leaves all but an own thing at a as it was -/
theorem At.delStep (at_ : At R B0 H0 B Γ σ H) {s s' : Sl} (e : Γ[j]? = some s) (hs : isOwn s = true) (hs' : isOwn s' = true) (hl : σ[j]? = some (some (V.ref a))) (g : Go R B (del H a) B2 H2) (ok : SlotOk R B2 H2 s' (some (V.ref a))) : At R B0 H0 B2 (Γ.set j s') σ H2 := by
  obtain ⟨l, u, e1, b1, nr, h1, h0⟩ := at_.ownS e hs
  have z : l = a := by
    rw [e1] at hl
    injection hl with q
    injection q with q
    injection q
  rw [z] at e1 b1 nr h1 h0
  have mv : ∀ x o, ¬ R.A x → x ≠ a → H x = some o → H2 x = some o ∧ B2 x = B x := fun x o nx ne h => ⟨g.mv x o nx (by rw [del_ne ne]; exact h), g.new x o (by rw [del_ne ne]; exact h)⟩
  refine ⟨at_.f0, ⟨g.fz, at_.go.ext.trans g.ext, fun x o nx h => ?_, fun x o h => ?_⟩, by rw [List.length_set]; exact at_.len, fun k t ek => ?_, fun k m t t' l ek em p p' q q' => ?_, fun k t l ek p q => ?_⟩
  · exact (mv x o nx (ne_of_none h h0) (at_.go.mv x o nx h)).1
  · by_cases ra : R.A x
    · rw [(g.fz.out x ra).1, (at_.f0.out x ra).1]
    · rw [(mv x o ra (ne_of_none h h0) (at_.go.mv x o ra h)).2, at_.go.new x o h]
  · rcases get_set ek with ⟨rfl, rfl, _⟩ | ⟨ne, ek⟩
    · exact ⟨_, e1, ok⟩
    · obtain ⟨o, q1, q2⟩ := at_.sl k t ek
      refine ⟨o, q1, ?_⟩
      cases t with
      | no => exact True.intro
      | dat d =>
        obtain ⟨v, r1, r2⟩ := q2
        exact ⟨v, r1, r2.mono g.ext⟩
      | at_ v => exact q2
      | own xs =>
        obtain ⟨m, us, r1, r2, r3, r4, r5⟩ := q2
        have nm : m ≠ a := fun y => by
          rw [r1, y] at q1
          exact ne (at_.dj j k _ _ a e ek hs rfl e1 q1)
        obtain ⟨m1, m2⟩ := mv m _ r3 nm r4
        exact ⟨m, us, r1, m2.trans r2, r3, m1, r5.mono g.ext⟩
      | box φ =>
        obtain ⟨m, us, r1, r2, r3, r4, r5⟩ := q2
        have nm : m ≠ a := fun y => by
          rw [r1, y] at q1
          exact ne (at_.dj j k _ _ a e ek hs rfl e1 q1)
        obtain ⟨m1, m2⟩ := mv m _ r3 nm r4
        exact ⟨m, us, r1, m2.trans r2, r3, m1, fun B' e' => r5 B' (g.ext.trans e')⟩
  · have key : ∀ {x : Nat} {y : Sl}, (Γ.set j s')[x]? = some y → isOwn y = true → ∃ z, Γ[x]? = some z ∧ isOwn z = true := fun {x y} ex py => by
      rcases get_set ex with ⟨rfl, rfl, _⟩ | ⟨_, ex⟩
      · exact ⟨s, e, hs⟩
      · exact ⟨y, ex, py⟩
    obtain ⟨z1, f1, g1⟩ := key ek p
    obtain ⟨z2, f2, g2⟩ := key em p'
    exact at_.dj k m z1 z2 l f1 f2 g1 g2 q q'
  · rcases get_set ek with ⟨rfl, rfl, _⟩ | ⟨_, ek⟩
    · exact at_.fr _ s l e hs q
    · exact at_.fr k t l ek p q
/-- a def that draws is called -/
theorem ey_bcall {kk : Nat} {F : List D → (D → Prop) → Prop} {S : D → Prop} {ds : List D} {E : XK} (e : Γ[j]? = some (bagS a c n)) (hn : n + kk ≤ 2 ^ 60) (h : EDA (cells c) t Γ ds) (hF : F ds S) : EY (cells c) (tCall (bsp kk F) [] E (tCons (tVar j) t)) Γ fun d G => S d ∧ G = Γ.set j (bagS a c (n + kk)) := fun B0 H0 B H σ at_ Q q => by
  obtain ⟨l, u, e1, b1, nr, h1, hφ, h0⟩ := at_.box e
  obtain ⟨hl, hu⟩ := hφ B (Ex.refl B)
  subst hl
  have hac : l ≠ c := nr
  refine ⟨_, e1, h B0 H0 B H σ at_ _ fun vs ds' B1 H1 g s i => ?_⟩
  subst s
  have h1' := g.mv l u nr h1
  have b1' : B1 l = none := (g.new l u h1).trans b1
  have fz1 : Fz (cells c) B1 (del H1 l) := by
    refine ⟨fun x o hx => ?_, ?_, fun x ra => ?_⟩
    · have ne : x ≠ l := fun y => by
        rw [y, b1'] at hx
        cases hx
      rw [del_ne ne]
      exact g.fz.sub x o hx
    · obtain ⟨is, k1, k2⟩ := g.fz.ok
      exact ⟨is, by rw [del_ne (Ne.symm hac)]; exact k1, k2⟩
    · have ne : x ≠ l := fun y => nr (y ▸ ra)
      rw [del_ne ne]
      exact g.fz.out x ra
  refine ⟨l, c, n, B1, ds', vs, S, u, by rw [List.append_nil], hac, hn, fz1, b1', h1', hu, i, hF, fun v d B2 H2 u2 g2 hb2 hu2 hbag hS iv => ?_⟩
  have at1 := at_.step g
  refine q v d B2 H2 _ (at1.delStep (s' := bagS l c (n + kk)) e rfl rfl e1 g2 ⟨l, u2, rfl, hb2, nr, hu2, fun _ _ => ⟨rfl, hbag⟩⟩) ⟨g.ext.trans g2.ext, fun x o nx no hx => ?_, own_set e fun _ => rfl⟩ ⟨hS, rfl⟩ iv
  have ne : x ≠ l := fun y => no ⟨j, _, e, rfl, by rw [y]; exact e1⟩
  have hx1 := g.mv x o nx hx
  exact ⟨g2.mv x o nx (by rw [del_ne ne]; exact hx1), (g2.new x o (by rw [del_ne ne]; exact hx1)).trans (g.new x o hx)⟩
theorem at_bag {N : List Str} {ds : List D} {rest : List V} {u : HO} (hac : a ≠ c) (f : Fz (cells c) B (del H a)) (hb : B a = none) (hu : H a = some u) (bg : BagIs c n u) (i : IsL B ds rest) :
    At (cells c) B (del H a) B (bagS a c n :: (ds.map Sl.dat ++ List.replicate (N.length - (ds.length + 1)) .no)) (L2.start N (.ref a :: rest)) H := by
  have fz : Fz (cells c) B H := by
    refine ⟨fun x o hx => ?_, ?_, fun x ra => ?_⟩
    · have ne : x ≠ a := fun y => by
        rw [y, hb] at hx
        cases hx
      have z := f.sub x o hx
      rw [del_ne ne] at z
      exact z
    · obtain ⟨is, k1, k2⟩ := f.ok
      rw [del_ne (Ne.symm hac)] at k1
      exact ⟨is, k1, k2⟩
    · have ne : x ≠ a := fun y => hac (y.symm.trans ra)
      have z := f.out x ra
      rw [del_ne ne] at z
      exact z
  have hlen := i.len
  have nown : ∀ (k : Nat) (s : Sl), (ds.map Sl.dat ++ List.replicate (N.length - (ds.length + 1)) Sl.no)[k]? = some s → isOwn s = false := fun k s e => by
    have m := List.mem_of_getElem? e
    rw [List.mem_append] at m
    rcases m with m | m
    · obtain ⟨d, _, rfl⟩ := List.mem_map.mp m
      rfl
    · rw [List.eq_of_mem_replicate m]
      rfl
  unfold L2.start
  rw [List.map_cons, List.cons_append]
  refine ⟨f, ⟨fz, Ex.refl B, fun x o _ h => ?_, fun x o h => rfl⟩, by simp only [List.length_cons, List.length_append, List.length_map, List.length_replicate, hlen], fun k s e => ?_, fun k m s s' l e e' p p' => ?_, fun k s l e p q => ?_⟩
  · by_cases ne : x = a
    · rw [ne, del_same] at h
      cases h
    · rw [del_ne ne] at h
      exact h
  · cases k with
    | zero =>
      rw [List.getElem?_cons_zero] at e ⊢
      rw [← Option.some.inj e]
      exact ⟨_, rfl, a, u, rfl, hb, hac, hu, fun _ _ => ⟨rfl, bg⟩⟩
    | succ k =>
      rw [List.getElem?_cons_succ] at e ⊢
      by_cases hk : k < ds.length
      · rw [List.getElem?_append_left (by rw [List.length_map]; exact hk), List.getElem?_map] at e
        rw [List.getElem?_append_left (by rw [List.length_map]; omega), List.getElem?_map]
        have ed : ds[k]? = some ds[k] := List.getElem?_eq_getElem hk
        obtain ⟨v, hv, iv⟩ := i.at ed
        rw [ed] at e
        rw [hv, ← Option.some.inj e]
        exact ⟨_, rfl, v, rfl, iv⟩
      · rw [List.getElem?_append_right (by rw [List.length_map]; omega)] at e
        have e2 := List.eq_of_mem_replicate (List.mem_of_getElem? e)
        have hl2 := (List.getElem?_eq_some_iff.mp e).1
        rw [List.length_replicate, List.length_map] at hl2
        refine ⟨none, ?_, by rw [e2]; exact True.intro⟩
        rw [List.getElem?_append_right (by rw [List.length_map]; omega), List.length_map, List.getElem?_replicate, if_pos (by rw [List.length_cons]; omega)]
  · cases k with
    | zero =>
      cases m with
      | zero => exact fun _ _ => rfl
      | succ m =>
        rw [List.getElem?_cons_succ] at e'
        rw [nown m s' e'] at p'
        cases p'
    | succ k =>
      rw [List.getElem?_cons_succ] at e
      rw [nown k s e] at p
      cases p
  · cases k with
    | zero =>
      rw [List.getElem?_cons_zero] at q
      injection q with q
      injection q with q
      injection q with q
      rw [← q, del_same]
    | succ k =>
      rw [List.getElem?_cons_succ] at e
      rw [nown k s e] at p
      cases p
theorem bsp_run {ts : TS} {N : List Str} {vs : List V} {H : Hp} {Q : VK} {kk : Nat} {F : List D → (D → Prop) → Prop}
    (hF : ∀ (B0 H0 : Hp) (a c : Addr) (n : Nat) ds S, F ds S → a ≠ c → n + kk ≤ 2 ^ 60 → SX (cells c) B0 H0 ts (bagS a c n :: (ds.map Sl.dat ++ List.replicate (N.length - (ds.length + 1)) .no)) (fun _ => False) fun d G => S d ∧ ∃ m, m ≤ n + kk ∧ G[0]? = some (bagS a c m))
    (E : XK) (h : bsp kk F vs H Q E) : ts { nx := fun _ H' => Q .non H', rt := Q } (L2.start N vs) H := by
  obtain ⟨a, c, n, B, ds, rest, S, u, rfl, hac, hn, f, hb, hu, bg, i, hf, q⟩ := h
  refine hF B (del H a) a c n ds S hf hac hn B _ H _ (at_bag hac f hb hu bg i) (fun _ _ _ _ z => z.elim) fun v d B' G' σ' H' ⟨hS, m, hm, e⟩ a' iv => ?_
  obtain ⟨l, u2, e1, b1, nr, h1, hφ, h0⟩ := a'.box e
  obtain ⟨hl, hbag⟩ := hφ B' (Ex.refl B')
  subst hl
  exact q v d B' H' u2 a'.go b1 h1 (hbag.mono hm) hS iv
end
section
variable {P : Program} {w : World} {K : PySem.W.Frag} {mg : Str → Option Value} {base : Heap} {x : Str} {k : Nat}
/-- a def that draws: its body's slots -/
theorem bsp_mk {st : Stmt} {f : Addr} {N ps : List Str} {kk : Nat} {F : List D → (D → Prop) → Prop} (Fd : ∃ fd, FunD K x x (defArgs st) (defBody st) (defScope st) [] [] f fd) (g : mg x = some (.ref f)) (S : FnScope N ps (defScope st))
    (hb : ∀ (kV doc pm : Value) (an : Option Addr) (cdv ct : Value) (us : List Value), us.length = ps.length → bindArgs (PySem.W.fnOf x x (defArgs st) (defBody st) (defScope st) .none kV doc pm an cdv ct) ⟨us, []⟩ = pure (ps.zip us))
    (len : ∀ ds S, F ds S → ds.length + 1 = ps.length)
    (hbody : ∀ (cdv : Value) (A : Around) (outer : List Env) (s : Shared) (H : Hp) (E : XK), Room k (A.deeper (envOfC x (defScope st) s.heap.objs.size f cdv)) →
      ∃ t, PSs (cxOf CX0 P w K mg base N x (defScope st) f cdv A outer s H E).nox (defBody st) t ∧
        ∀ (B0 H0 : Hp) (a c : Addr) (n : Nat) ds S, F ds S → a ≠ c → n + kk ≤ 2 ^ 60 → SX (cells c) B0 H0 t (bagS a c n :: (ds.map Sl.dat ++ List.replicate (N.length - (ds.length + 1)) .no)) (fun _ => False) fun d G => S d ∧ ∃ m, m ≤ n + kk ∧ G[0]? = some (bagS a c m)) : Cal P w K mg base x (k + 1) (bsp kk F) := by
  refine cal_mk Fd g S hb (fun vs H Q E h => ?_) fun cdv A outer s H vs Q E hr h => ?_
  · obtain ⟨a, c, n, B, ds, rest, S, u, rfl, _, _, _, _, _, _, i, hf, _⟩ := h
    rw [List.length_cons, ← i.len]
    exact len ds S hf
  · obtain ⟨t, h1, h2⟩ := hbody cdv A outer s H E hr
    exact ⟨t, h1, bsp_run h2 E h⟩
end
end Dl
set_option Elab.async false
set_option linter.all false
set_option maxRecDepth 100000
/-! Dl26: zip of two lists or two tuples; a promise that asks the impossible; pops at a place. -/
namespace Dl
open PySem PySem.Spec PyProof.Rows L2 Evl
def zipD : List D → List D → List D
  | x :: xs, y :: ys => .tup [x, y] :: zipD xs ys
  | _, _ => []
theorem zipD_len : ∀ {xs ys : List D}, (zipD xs ys).length = min xs.length ys.length
  | [], _ => by simp [zipD]
  | x :: xs, [] => by simp [zipD]
  | x :: xs, y :: ys => by
    rw [zipD, List.length_cons, zipD_len, List.length_cons, List.length_cons]
    omega
theorem zipD_at : ∀ {xs ys : List D} {i : Nat} {d : D}, (zipD xs ys)[i]? = some d → ∃ x y, xs[i]? = some x ∧ ys[i]? = some y ∧ d = .tup [x, y]
  | [], _, i, d, h => by simp [zipD] at h
  | x :: xs, [], i, d, h => by simp [zipD] at h
  | x :: xs, y :: ys, 0, d, h => ⟨x, y, rfl, rfl, (Option.some.inj h).symm⟩
  | x :: xs, y :: ys, i + 1, d, h => by
    obtain ⟨a, b, h1, h2, h3⟩ := zipD_at (xs := xs) (ys := ys) (i := i) h
    exact ⟨a, b, h1, h2, h3⟩
theorem zipD_self : ∀ {xs : List D}, zipD xs xs = xs.map fun x => .tup [x, x]
  | [] => rfl
  | x :: xs => by rw [zipD, zipD_self]; rfl
section
variable {R : Reg} {K : PySem.W.Frag} {Γ : List Sl} {te : TE} {ta : TA} {xs ys : List D}
theorem wid_zip {x y : D} (hx : (x = .lst xs ∧ y = .lst ys) ∨ (x = .tup xs ∧ y = .tup ys)) (h : EDA R ta Γ [x, y]) : WID R (RZ.iZipA K ta) Γ (zipD xs ys) := fun B0 H0 B H σ a Rr q => h B0 H0 B H σ a _ fun vs ds B1 H1 g s i => by
  subst s
  obtain ⟨v, u, ev, i1, i2⟩ := isl2 i
  have tail : ∀ {B3 H3 : Hp} {j : Nat} {p r : D} {v' u' : V} {T : Addr}, Fz R B3 H3 → Is B3 p v' → Is B3 r u' → H3 T = none → ∃ B', Go R B3 H3 B' (upd H3 T (.tup [v', u'])) ∧ Is B' (.tup [p, r]) (.ref T) := fun {B3 H3 j p r v' u' T} f hp hr hT => ⟨_, Go.newF f hT, is_tup.mpr ⟨T, _, rfl, upd_same, isl_mk (hp.mono (Ex.new (f.bnone hT))) (isl_mk (hr.mono (Ex.new (f.bnone hT))) (isl_nil.mpr rfl))⟩⟩
  rcases hx with ⟨rfl, rfl⟩ | ⟨rfl, rfl⟩
  · obtain ⟨p, us, e1, h1, k1⟩ := is_lst.mp i1
    obtain ⟨r, ws, e2, h2, k2⟩ := is_lst.mp i2
    refine ⟨p, r, us, ws, by rw [ev, e1, e2], .inl ⟨SqL.of (g.fz.sub _ _ h1), SqL.of (g.fz.sub _ _ h2), q _ _ B1 H1 g rfl fun B3 H3 j e3 f3 => ⟨fun ej => ?_, fun d ed => ?_⟩⟩⟩
    · refine ⟨us, ws, SqL.of (f3.sub _ _ (e3 _ _ h1)), SqL.of (f3.sub _ _ (e3 _ _ h2)), ?_⟩
      rw [zipD_len, k1.len, k2.len] at ej
      omega
    · obtain ⟨c, b, hc, hb, rfl⟩ := zipD_at ed
      obtain ⟨c', hc', ic⟩ := k1.at hc
      obtain ⟨b', hb', ib⟩ := k2.at hb
      have q1 := SqL.of (K := K) (f3.sub _ _ (e3 _ _ h1))
      have q2 := SqL.of (K := K) (f3.sub _ _ (e3 _ _ h2))
      refine ⟨⟨us, ws, c', b', q1, q2, hc', hb'⟩, fun v' H' yv => ?_⟩
      obtain ⟨T, x', y', rfl, hT, rfl, z1, z2⟩ := yv
      have w1 := z1 us q1
      have w2 := z2 ws q2
      rw [hc'] at w1
      rw [hb'] at w2
      rw [← Option.some.inj w1, ← Option.some.inj w2]
      exact tail (j := j) f3 (ic.mono e3) (ib.mono e3) hT
  · obtain ⟨p, us, e1, h1, k1⟩ := is_tup.mp i1
    obtain ⟨r, ws, e2, h2, k2⟩ := is_tup.mp i2
    refine ⟨p, r, us, ws, by rw [ev, e1, e2], .inr ⟨SqT.of (g.fz.sub _ _ h1), SqT.of (g.fz.sub _ _ h2), q _ _ B1 H1 g rfl fun B3 H3 j e3 f3 => ⟨fun ej => ?_, fun d ed => ?_⟩⟩⟩
    · refine ⟨us, ws, SqT.of (f3.sub _ _ (e3 _ _ h1)), SqT.of (f3.sub _ _ (e3 _ _ h2)), ?_⟩
      rw [zipD_len, k1.len, k2.len] at ej
      omega
    · obtain ⟨c, b, hc, hb, rfl⟩ := zipD_at ed
      obtain ⟨c', hc', ic⟩ := k1.at hc
      obtain ⟨b', hb', ib⟩ := k2.at hb
      have q1 := SqT.of (K := K) (f3.sub _ _ (e3 _ _ h1))
      have q2 := SqT.of (K := K) (f3.sub _ _ (e3 _ _ h2))
      refine ⟨⟨us, ws, c', b', q1, q2, hc', hb'⟩, fun v' H' yv => ?_⟩
      obtain ⟨T, x', y', rfl, hT, rfl, z1, z2⟩ := yv
      have w1 := z1 us q1
      have w2 := z2 ws q2
      rw [hc'] at w1
      rw [hb'] at w2
      rw [← Option.some.inj w1, ← Option.some.inj w2]
      exact tail (j := j) f3 (ic.mono e3) (ib.mono e3) hT
/-- two names, no test -/
theorem edl_map2n {wi : TI} {j l : Nat} {α : Type} {xs : List α} (e : α → D) (e2 : α → D) (f : α → D) {n2 : Nat} (h2 : n2 = 2) (hi : WID R wi Γ (xs.map fun x => .tup [e x, e2 x])) (hx : xs.length ≤ 100000)
    (hs : ∀ x ∈ xs, ED R te (setsD (wipeG Γ [j, l]) [(j, e x), (l, e2 x)]) (f x)) : EDL R (tLc wi (gTup K n2 (gCons (gName j) (gCons (gName l) gNil))) tYes te [j, l]) Γ (xs.map f) :=
  edl_mapA (fun x => .tup [e x, e2 x]) f hi hx fun x hm => ⟨[(j, e x), (l, e2 x)], by simp, gs_tup (gss_cons gs_name (gss_cons gs_name gss_nil)) (by rw [h2]; rfl), fun B0 H0 B H σ a Q q => q true B H (Go.refl a.fz) rfl, hs x hm⟩
end
section
variable {P : Program} {w : World} {K : PySem.W.Frag} {mg : Str → Option Value} {base : Heap} {x : Str}
/-- a promise that no call asks -/
theorem cal_none {st : Stmt} {f : Addr} {N ps : List Str} (F : ∃ fd, FunD K x x (defArgs st) (defBody st) (defScope st) [] [] f fd) (g : mg x = some (.ref f))
    (hb : ∀ (kV doc pm : Value) (an : Option Addr) (cdv ct : Value) (us : List Value), us.length = ps.length → bindArgs (PySem.W.fnOf x x (defArgs st) (defBody st) (defScope st) .none kV doc pm an cdv ct) ⟨us, []⟩ = pure (ps.zip us)) : Cal P w K mg base x 0 (psp fun _ _ => False) := by
  obtain ⟨fd, F⟩ := F
  exact ⟨f, fd, ps, ⟨fun vs H Q E ⟨_, _, _, _, _, h, _⟩ => h.elim, fun A outer s H args us vs Q E _ _ _ _ ⟨_, _, _, _, _, h, _⟩ => h.elim⟩, g, F.kp, F.bindsN hb⟩
end
section
variable {R : Reg} {K : PySem.W.Frag} {Γ : List Sl} {te : TE} {ds : List D} {i : Nat} {S : D → List Sl → Prop}
/-- xs.pop(e), e found by an expression that changes own things -/
theorem ey_popAt {S1 : D → List Sl → Prop} (e0 : ∃ ds, Γ[i]? = some (.own ds)) (h : EY R te Γ S1) (k : ∀ d G, S1 d G → ∃ (ds : List D) (n : Nat) (x : D), d = .int n ∧ G[i]? = some (.own ds) ∧ ds[n]? = some x ∧ ds.length ≤ 100000 ∧ S x (G.set i (.own (ds.eraseIdx n)))) :
    EY R (tBM K "list" rPopAt (tVar i) (tCons te tNil)) Γ S := fun B0 H0 B H σ a Q q => by
  obtain ⟨ds0, e⟩ := e0
  obtain ⟨l, vs, e1, b1, nr, h1, hds, h0⟩ := a.own e
  refine ⟨_, e1, tyl h1, h B0 H0 B H σ a _ fun v d B2 H2 G a2 st s is_ => ?_⟩
  obtain ⟨ds, n, x, ed, e2, hx, hl, hS⟩ := k d G s
  subst ed
  obtain ⟨l2, vs2, f1, b2, _, h2, hds2, _⟩ := a2.own e2
  have z := ref_inj f1 e1
  subst z
  obtain ⟨u, hu, iu⟩ := hds2.at hx
  have hn : n < vs2.length := (List.getElem?_eq_some_iff.mp hu).1
  have hl2 := hds2.len
  refine ⟨l2, vs2, (n : Int), n, u, rfl, by rw [is_int.mp is_], h2, by omega, by omega, ?_, hu, ?_⟩
  · unfold seqIndex?
    simp
    omega
  · refine q u x B2 _ _ (a2.wr e2 f1 (hds2.eraseIdx n)) (st.trans ⟨Ex.refl _, fun c o _ no hc => ⟨?_, rfl⟩, own_set e2 fun _ => rfl⟩) hS iu
    have ne : c ≠ l2 := fun y => no ⟨i, _, e2, rfl, by rw [y]; exact f1⟩
    rw [upd_ne ne]
    exact hc
end
end Dl
set_option Elab.async false
set_option linter.all false
set_option maxRecDepth 100000
/-! Dl27: reading and writing the bag. -/
namespace Dl
open PySem PySem.Spec PyProof.Rows L2 Evl
section
variable {R : Reg} {K : PySem.W.Frag} {Γ : List Sl} {te : TE} {tt : TT} {B0 H0 B H : Hp} {σ : L2.St} {N : List Sl → Prop} {Rt : D → Prop} {Bk Ct : List Sl → Prop} {i j : Nat} {a c : Addr} {b m k : Int} {S : D → Prop}
theorem ed_bagGet {x n : Int} (e : Γ[j]? = some (bagX a c b m k)) (hx : L2.atI [V.ref c, .int b, .int m, .int k] n = some (.int x)) : ED R (tOp (rIx K) (tVar j) (tC (.int n))) Γ (.int x) := fun B0 H0 B H σ at_ Q q => by
  obtain ⟨l, u, e1, b1, nr, h1, hφ, h0⟩ := at_.box e
  obtain ⟨hl, hu⟩ := hφ B (Ex.refl B)
  rw [hu] at h1
  exact ⟨_, e1, .inl ⟨l, _, n, .int x, rfl, rfl, SqL.of h1, hx, q _ _ B H (Go.refl at_.fz) rfl (is_int.mpr rfl)⟩⟩
theorem ss_bagSet {n : Int} {nn : Nat} (e : Γ[j]? = some (bagX a c b m k)) (h : EP R te Γ S) (hn : ixN 4 n = some nn) (kk : ∀ d, S d → ∃ x b' m' k' : Int, d = .int x ∧ [V.ref c, .int b, .int m, .int k].set nn (.int x) = [V.ref c, .int b', .int m', .int k'] ∧ N (Γ.set j (bagX a c b' m' k'))) :
    SS R B0 H0 (tAsg te (gSub (tVar j) (tC (.int n)) rSetL)) Γ N Rt Bk Ct := fun B σ H E at_ nx r bb cc => h B0 H0 B H σ at_ _ fun v d B2 H2 g s is_ => by
  have a2 := at_.step g
  obtain ⟨l, u, e1, b1, nr, h1, hφ, h0⟩ := a2.box e
  obtain ⟨hl, hu⟩ := hφ B2 (Ex.refl B2)
  obtain ⟨x, b', m', k', ed, es, hN⟩ := kk d s
  subst ed
  rw [hu] at h1
  refine ⟨_, e1, l, _, n, nn, rfl, rfl, h1, hn, ?_⟩
  rw [is_int.mp is_, es]
  exact nx B2 _ σ _ hN (a2.wrS (s' := bagX a c b' m' k') e rfl rfl e1 ⟨l, _, rfl, b1, nr, upd_same, fun _ _ => ⟨hl, rfl⟩⟩) g.ext
/-- the slots say less behind the value -/
theorem sx_retW {RX : D → List Sl → Prop} {S : D → List Sl → Prop} (h : EY R te Γ S) (kk : ∀ d G, S d G → ∃ (i : Nat) (s s' : Sl), G[i]? = some s ∧ (isOwn s' = true → isOwn s = true) ∧ (∀ B H o, SlotOk R B H s o → SlotOk R B H s' o) ∧ RX d (G.set i s')) : SX R B0 H0 (tRet te) Γ N RX := fun B σ H E a n r => h B0 H0 B H σ a _ fun v d B2 H2 G a2 st s is_ => by
  obtain ⟨i, s1, s2, e, hs, k, hr⟩ := kk d G s
  exact r v d B2 _ σ H2 hr (a2.weak e hs (k B2 H2)) is_
/-- a thing of the region is written -/
theorem At.regWr (at_ : At R B0 H0 B Γ σ H) {l : Addr} {u : HO} (ra : R.A l) (ok : R.ok (upd H l u)) : At R B0 H0 B Γ σ (upd H l u) := by
  have nl : ∀ {x : Addr} {o : HO}, B x = some o → x ≠ l := fun {x o} q y => by
    rw [y, (at_.fz.out l ra).1] at q
    cases q
  refine ⟨at_.f0, ⟨⟨fun x o q => ?_, ok, fun x rx => ?_⟩, at_.go.ext, fun x o nx q => ?_, at_.go.new⟩, at_.len, fun k t ek => ?_, at_.dj, at_.fr⟩
  · rw [upd_ne (nl q)]
    exact at_.fz.sub x o q
  · refine ⟨(at_.fz.out x rx).1, ?_⟩
    by_cases hx : x = l
    · rw [hx, upd_same]
      exact ⟨_, rfl⟩
    · rw [upd_ne hx]
      exact (at_.fz.out x rx).2
  · rw [upd_ne (fun y : x = l => nx (y ▸ ra))]
    exact at_.go.mv x o nx q
  · obtain ⟨o, q1, q2⟩ := at_.sl k t ek
    refine ⟨o, q1, ?_⟩
    cases t with
    | no => exact True.intro
    | dat d => exact q2
    | at_ v => exact q2
    | own xs =>
      obtain ⟨m, us, r1, r2, r3, r4, r5⟩ := q2
      exact ⟨m, us, r1, r2, r3, by rw [upd_ne (fun y : m = l => r3 (y ▸ ra))]; exact r4, r5⟩
    | box φ =>
      obtain ⟨m, us, r1, r2, r3, r4, r5⟩ := q2
      exact ⟨m, us, r1, r2, r3, by rw [upd_ne (fun y : m = l => r3 (y ▸ ra))]; exact r4, r5⟩
/-- if .. and bag[0]: x = abs(bag[0].pop(0)); .. -/
theorem ss_take {p : Bool} {tr tn : TS} (e : Γ[j]? = some (bagX a c b m k)) (ht : EDB (cells c) tt Γ p) (h1 : p = true → ∀ x : Int, 0 ≤ x → SS (cells c) B0 H0 tr (Γ.set i (.dat (.int x))) N Rt Bk Ct) (h2 : SS (cells c) B0 H0 tn Γ N Rt Bk Ct) :
    SS (cells c) B0 H0 (tIfS (tAnd tt (fun σ H Q => tOp (rIx K) (tVar j) (tC (.int 0)) σ H fun x H' => ∃ k, TruV K x H' k ∧ Q k H')) (tSeq (tAsg (tCB (fun xs H Q => ∃ i, xs = [.int i] ∧ Q (.int (if i < 0 then -i else i)) H) (tCons (tBM K "list" rPopAt (tOp (rIx K) (tVar j) (tC (.int 0))) (tCons (tC (.int 0)) tNil)) tNil)) (gName i)) tr) tn) Γ N Rt Bk Ct := fun B σ H E at_ nx r bb cc => by
  refine ht B0 H0 B H σ at_ _ fun p' B2 H2 g s => ?_
  have a2 := at_.step g
  have nx2 : ∀ B' Γ' σ' H', N Γ' → At (cells c) B0 H0 B' Γ' σ' H' → Ex B2 B' → E.nx σ' H' := fun B' G s H' x y z => nx B' G s H' x y (g.ext.trans z)
  have bb2 : ∀ B' Γ' σ' H', Bk Γ' → At (cells c) B0 H0 B' Γ' σ' H' → Ex B2 B' → E.bk σ' H' := fun B' G s H' x y z => bb B' G s H' x y (g.ext.trans z)
  have cc2 : ∀ B' Γ' σ' H', Ct Γ' → At (cells c) B0 H0 B' Γ' σ' H' → Ex B2 B' → E.ct σ' H' := fun B' G s H' x y z => cc B' G s H' x y (g.ext.trans z)
  cases p' with
  | false => exact iteF (iteF (h2 B2 σ H2 E a2 nx2 r bb2 cc2))
  | true =>
    refine iteT ?_
    obtain ⟨l, u, e1, b1, nr, hh, hφ, h0⟩ := a2.box e
    obtain ⟨hl, hu⟩ := hφ B2 (Ex.refl B2)
    rw [hu] at hh
    obtain ⟨is, hc, hlen⟩ := a2.fz.ok
    have at0 : L2.atI [V.ref c, .int b, .int m, .int k] 0 = some (.ref c) := rfl
    refine ⟨_, e1, .inl ⟨l, _, 0, .ref c, rfl, rfl, SqL.of hh, at0, _, .inl ⟨_, SqL.of hc, rfl⟩, ?_⟩⟩
    cases is with
    | nil => exact iteF (h2 B2 σ H2 E a2 nx2 r bb2 cc2)
    | cons x rest =>
      refine iteT ?_
      refine ⟨_, e1, .inl ⟨l, _, 0, .ref c, rfl, rfl, SqL.of hh, at0, tyl hc, ?_⟩⟩
      refine ⟨c, _, 0, 0, .int x, rfl, rfl, hc, by decide, by decide, ?_, rfl, x, rfl, ?_⟩
      · unfold seqIndex?
        simp
      · have a3 := a2.regWr (l := c) (u := .lst (((x :: rest).map V.int).eraseIdx 0)) rfl ⟨rest, by rw [upd_same]; rfl, by rw [List.length_cons] at hlen; omega⟩
        exact h1 s.symm (if x < 0 then -x else x) (by split <;> omega) B2 _ _ E (a3.putDat (is_int.mpr rfl)) nx2 r bb2 cc2
end
end Dl
set_option Elab.async false
set_option linter.all false
set_option maxRecDepth 100000
/-! Dl28: a drawn value stored in an own list; join of a drawn list. -/
namespace Dl
open PySem PySem.Spec PyProof.Rows L2 Evl
section
variable {R : Reg} {K : PySem.W.Frag} {Γ : List Sl} {te ti ta : TE} {B0 H0 : Hp} {N : List Sl → Prop} {Rt : D → Prop} {Bk Ct : List Sl → Prop} {i : Nat} {S S0 : D → List Sl → Prop}
theorem ss_setOY (hv : EY R te Γ S) (k : ∀ x G, S x G → ∃ (ds : List D) (n : Nat), G[i]? = some (.own ds) ∧ ED R ti G (.int n) ∧ n < ds.length ∧ N (G.set i (.own (ds.set n x)))) : SS R B0 H0 (tAsg te (gSub (tVar i) ti rSetL)) Γ N Rt Bk Ct := fun B σ H E a n r b c =>
  hv B0 H0 B H σ a _ fun v x B1 H1 G a1 st s1 i1 => by
  obtain ⟨ds, m, e, hi, hm, hn⟩ := k x G s1
  obtain ⟨l, vs, e1, b1, nr, h1, hds, h0⟩ := a1.own e
  refine ⟨_, e1, hi B0 H0 B1 H1 σ a1 _ fun w y B2 H2 g2 s2 i2 => ?_⟩
  subst s2
  have hm' : m < vs.length := by rw [← hds.len]; exact hm
  refine ⟨l, vs, _, m, rfl, is_int.mp i2, g2.mv l _ nr h1, ?_, ?_⟩
  · unfold ixN
    rw [if_pos (by omega), if_pos (by omega)]
    simp
  · exact n B2 _ σ _ hn ((a1.step g2).wr e e1 ((hds.mono g2.ext).set (i1.mono g2.ext) m)) (st.ext.trans g2.ext)
theorem ey_join {a : Str} (h : EY R ta Γ S0) (k : ∀ d G, S0 d G → ∃ ys : List Str, d = .lst (ys.map .str) ∧ (ys.map (·.length)).sum + ys.length * a.length ≤ 16777216 ∧ S (.str (Txt.join a ys)) G) :
    EY R (tM1 (fun x xs H Q => ∃ a p, ∃ ys : List Str, x = .str a ∧ xs = [.ref p] ∧ (SqL K H p (ys.map V.str) ∨ SqT K H p (ys.map V.str)) ∧ (ys.map (·.length)).sum + ys.length * a.length ≤ 16777216 ∧ Q (.str (Txt.join a ys)) H) (tC (.str a)) ta) Γ S := fun B0 H0 B H σ at_ Q q => by
  refine ⟨⟨a, rfl⟩, h B0 H0 B H σ at_ _ fun u2 d2 B3 H3 G a3 st3 s3 i3 => ?_⟩
  obtain ⟨ys, ed, hl, hS⟩ := k d2 G s3
  subst ed
  obtain ⟨p, vs, e, h1, h2⟩ := is_lst.mp i3
  rw [IsL.strs.mp h2] at h1
  rw [e]
  exact ⟨a, p, ys, rfl, rfl, .inl (SqL.of (a3.fz.sub _ _ h1)), hl, q _ (.str (Txt.join a ys)) B3 H3 G a3 st3 hS (is_str.mpr rfl)⟩
/-- the right side pure -/
theorem ey_opC {r : R2} {y : D} {S1 : D → List Sl → Prop} (h : EY R ta Γ S1) (hy : ∀ x G, S1 x G → ED R te G y) (ho : ∀ x G, S1 x G → OpS R r x y fun z => S z G) : EY R (tOp r ta te) Γ S := fun B0 H0 B H σ a Q q =>
  h B0 H0 B H σ a _ fun vx x B1 H1 G1 a1 st1 s1 i1 => hy x G1 s1 B0 H0 B1 H1 σ a1 _ fun vy y' B2 H2 g2 s2 i2 => by
    subst s2
    exact ho x G1 s1 B2 H2 vx vy g2.fz (i1.mono g2.ext) i2 Q fun v d B3 H3 g3 s3 i3 => q v d B3 H3 G1 ((a1.step g2).step g3) ((st1.trans (ST.go g2)).trans (ST.go g3)) s3 i3
/-- the left side pure -/
theorem ey_opL {r : R2} {x : D} {S1 : D → List Sl → Prop} (h : ED R te Γ x) (hy : EY R ta Γ S1) (ho : ∀ y G, S1 y G → OpS R r x y fun z => S z G) : EY R (tOp r te ta) Γ S := fun B0 H0 B H σ a Q q =>
  h B0 H0 B H σ a _ fun vx x' B1 H1 g1 s1 i1 => hy B0 H0 B1 H1 σ (a.step g1) _ fun vy y B2 H2 G2 a2 st2 s2 i2 => by
    subst s1
    exact ho y G2 s2 B2 H2 vx vy a2.fz (i1.mono st2.ext) i2 Q fun v d B3 H3 g3 s3 i3 => q v d B3 H3 G2 (a2.step g3) (((ST.go g1).trans st2).trans (ST.go g3)) s3 i3
theorem cut_to (xs : List D) (k : Nat) : cutD xs none (some (k : Int)) = xs.take k := by
  unfold cutD
  rw [HT.sIx_none, HT.sIx_nat, List.drop_zero, Nat.sub_zero]
  by_cases h : k ≤ xs.length
  · rw [Nat.min_eq_left h]
  · rw [Nat.min_eq_right (by omega), List.take_length, List.take_of_length_le (by omega)]
theorem cut_from (xs : List D) (k : Nat) : cutD xs (some (k : Int)) none = xs.drop k := by
  unfold cutD
  rw [HT.sIx_none, HT.sIx_nat]
  by_cases h : k ≤ xs.length
  · rw [Nat.min_eq_left h, List.take_of_length_le (by rw [List.length_drop]; exact Nat.le_refl _)]
  · rw [Nat.min_eq_right (by omega), Nat.sub_self, List.take_zero, List.drop_of_length_le (by omega)]
theorem IsL.cutT {B : Hp} {ds : List D} {vs : List V} (h : IsL B ds vs) (lo hi : Option Int) : IsL B (cutD ds lo hi) (cutV vs lo hi) := h.cut lo hi
/-- a slice of a tuple -/
theorem ed_slT {tl th : TO} {lo hi : Option Int} {ds : List D} (h : ED R te Γ (.tup ds)) (hl : EDO R tl Γ lo) (hh : EDO R th Γ hi) : ED R (tSl (rSlU K) te tl th) Γ (.tup (cutD ds lo hi)) := fun B0 H0 B H σ a Q q =>
  h B0 H0 B H σ a _ fun v x B1 H1 g1 s1 i1 => hl B0 H0 B1 H1 σ (a.step g1) _ fun l B2 H2 g2 s2 => hh B0 H0 B2 H2 σ ((a.step g1).step g2) _ fun u B3 H3 g3 s3 => by
    subst s1 s2 s3
    have g := Go.trans a.fz (Go.trans a.fz g1 g2) g3
    obtain ⟨p, ws, ev, h1, h2⟩ := is_tup.mp i1
    have e3 := g2.ext.trans g3.ext
    refine .inr (.inl ⟨p, ws, ev, SqT.of (g.fz.sub _ _ (e3 _ _ h1)), fun hz => ?_, fun _ n hn => ?_⟩)
    · have e : cutD ds l u = ds := by
        unfold cutD
        rw [h2.len, hz.1, hz.2, List.drop_zero, Nat.sub_zero, ← h2.len, List.take_length]
      exact q (.ref p) _ B3 H3 g rfl (is_tup.mpr ⟨p, ws, rfl, e3 _ _ h1, by rw [e]; exact h2.mono e3⟩)
    · have gn := Go.trans a.fz g (Go.newF (o := .tup (cutV ws l u)) g.fz hn)
      exact q (.ref n) _ _ _ gn rfl (is_tup.mpr ⟨n, _, rfl, upd_same, ((h2.mono e3).cut _ _).mono (Ex.new (g.fz.bnone hn))⟩)
def strsT : List Str → TA
  | [] => tNil
  | z :: r => tCons (tC (.str z)) (strsT r)
theorem eda_strs : ∀ zs : List Str, EDA R (strsT zs) Γ (zs.map D.str)
  | [] => eda_nil
  | z :: r => eda_cons ed_str (eda_strs r)
theorem ya_one (h : EY R te Γ S) : YA R (tCons te tNil) Γ fun ds G => ∃ x, ds = [x] ∧ S x G := fun B0 H0 B H σ a Q q => h B0 H0 B H σ a _ fun v x B2 H2 G a2 st s i => q [v] [x] B2 H2 G a2 st ⟨x, rfl, s⟩ (IsL.one i)
/-- a pure head -/
theorem ya_hd {tr : TA} {d : D} {Sl : List D → List Sl → Prop} (h : ED R te Γ d) (hr : YA R tr Γ Sl) : YA R (tCons te tr) Γ fun ds G => ∃ r, ds = d :: r ∧ Sl r G := fun B0 H0 B H σ a Q q => h B0 H0 B H σ a _ fun v x B2 H2 g s i => hr B0 H0 B2 H2 σ (a.step g) _ fun vs r B3 H3 G a3 st s3 i3 => by
  subst s
  exact q (v :: vs) (x :: r) B3 H3 G a3 ((ST.go g).trans st) ⟨r, rfl, s3⟩ (isl_mk (i.mono st.ext) i3)
end
end Dl
set_option Elab.async false
set_option linter.all false
set_option maxRecDepth 100000
/-! Dl29: an own object made of drawn things; tests that draw. -/
namespace Dl
open PySem PySem.Spec PyProof.Rows L2 Evl
section
variable {R : Reg} {K : PySem.W.Frag} {Γ : List Sl} {te ta : TE} {t : TA} {tt tu : TT} {S S0 : D → List Sl → Prop} {C : Addr} {ks : List Str} {F : List D → List D → Prop} {E : XK}
theorem ey_make {Sl : List D → List Sl → Prop} (h : YA R t Γ Sl) (kk : ∀ ds G, Sl ds G → ∃ fs, F ds fs ∧ S (.obj C ks fs) G) : EY R (tMake C (isp C ks F) [] E t) Γ S := fun B0 H0 B H σ a Q q => h B0 H0 B H σ a _ fun vs ds B1 H1 G a1 st s i => by
  obtain ⟨fs, k, hS⟩ := kk ds G s
  intro x dx hx hd hne
  have h1 : ∀ a o, H1 a = some o → upd (upd H1 dx (.own x)) x (.ins C dx []) a = some o := fun a o e => by
    rw [upd_ne (ne_of_none e hx), upd_ne (ne_of_none e hd)]
    exact e
  have bx : B1 x = none := a1.fz.bnone hx
  refine ⟨B1, x, dx, ds, fs, vs, by rw [List.append_nil], fun a o e => h1 a o (a1.fz.sub a o e), bx, upd_same, i, k, fun B2 H2 us e12 e22 bx2 hl hH2 iu mv new => ⟨rfl, ?_⟩⟩
  have nrx := a1.fz.nr hx
  have mv2 : ∀ a o, H1 a = some o → H2 a = some o := fun a o e => mv a o (ne_of_none e hx) (h1 a o e)
  have f3 : Fz R (upd B2 x (.ins C dx (ks.zip us))) H2 := by
    refine ⟨fun a o e => ?_, R.st H1 H2 (fun a ra => ?_) a1.fz.ok, fun a ra => ?_⟩
    · by_cases hax : a = x
      · rw [hax, upd_same] at e
        rw [hax, hH2, e]
      · rw [upd_ne hax] at e
        exact e22 a o e
    · obtain ⟨_, o, e⟩ := a1.fz.out a ra
      rw [e, mv2 a o e]
    · obtain ⟨hb, o, e⟩ := a1.fz.out a ra
      have hax : a ≠ x := fun z => nrx (z ▸ ra)
      rw [upd_ne hax]
      exact ⟨(new a o (h1 a o e)).trans hb, o, mv2 a o e⟩
  have g3 : Go R B1 H1 (upd B2 x (.ins C dx (ks.zip us))) H2 := ⟨f3, e12.trans (Ex.new bx2), fun a o _ e => mv2 a o e, fun a o e => by
    rw [upd_ne (ne_of_none e hx)]
    exact new a o (h1 a o e)⟩
  exact q (.ref x) _ _ H2 G (a1.step g3) (st.trans (ST.go g3)) hS (is_obj.mpr ⟨x, dx, us, rfl, upd_same, hl, iu.mono (Ex.new bx2)⟩)
end
end Dl
set_option Elab.async false
set_option linter.all false
set_option maxRecDepth 100000
set_option maxHeartbeats 0
namespace K82Head
open PySem PySem.Spec PyProof.Rows L2
/-! ### the text by places -/
def top (i : Nat) : Stmt := PySem.Challenge.pw_bendless_k82_whole_bars_judged.main.body.getD i (.Pass ⟨0, 0, 0, 0⟩)
abbrev s_BadTarget_init : Stmt := inClass (top 4) 0
abbrev s_Unlike_init : Stmt := inClass (top 5) 0
abbrev s_NoValue_init : Stmt := inClass (top 6) 0
abbrev s_TooMany_init : Stmt := inClass (top 7) 0
abbrev s_power : Stmt := top 9
abbrev s_fold : Stmt := top 10
abbrev s_digit_of : Stmt := top 11
abbrev s_digits_for : Stmt := top 12
abbrev s_read_integer : Stmt := top 17
abbrev s_is_fraction : Stmt := top 19
abbrev s_fraction : Stmt := top 20
abbrev s_difference : Stmt := top 21
abbrev s_product_of : Stmt := top 22
abbrev s_read_fraction : Stmt := top 23
abbrev s_cell : Stmt := top 25
abbrev s_corners_of : Stmt := top 26
abbrev s_check_target : Stmt := top 28
abbrev s_chords : Stmt := top 29
abbrev s_flat : Stmt := top 30
abbrev s_chord_list : Stmt := top 31
abbrev s_Bar_init : Stmt := inClass (top 32) 0
abbrev s_Bar_len : Stmt := inClass (top 32) 1
abbrev s_Bar_repr : Stmt := inClass (top 32) 2
abbrev s_takes_bar : Stmt := top 33
abbrev s_term_step : Stmt := top 36
abbrev s_postfix : Stmt := top 37
abbrev s_joined : Stmt := top 38
abbrev s_Target_init : Stmt := inClass (top 39) 0
abbrev s_Target_worth : Stmt := inClass (top 39) 1
abbrev s_Target_square : Stmt := inClass (top 39) 2
abbrev s_Target_at : Stmt := inClass (top 39) 3
abbrev s_Target_is_value : Stmt := inClass (top 39) 4
abbrev s_Target_text : Stmt := inClass (top 39) 5
abbrev s_Target_eq : Stmt := inClass (top 39) 6
abbrev s_Target_repr : Stmt := inClass (top 39) 7
abbrev s_law_bag : Stmt := top 41
abbrev s_law_draw : Stmt := top 42
abbrev s_law_of : Stmt := top 43
abbrev s_law_mixed : Stmt := top 44
abbrev s_law_same : Stmt := top 45
abbrev s_law_gcd : Stmt := top 46
abbrev s_law_frac : Stmt := top 47
abbrev s_law_add : Stmt := top 48
abbrev s_law_sub : Stmt := top 49
abbrev s_law_mul : Stmt := top 50
abbrev s_law_power : Stmt := top 51
abbrev s_law_digits : Stmt := top 52
abbrev s_law_words : Stmt := top 53
abbrev s_law_whole_text : Stmt := top 54
abbrev s_law_read_frac : Stmt := top 55
abbrev s_law_parse : Stmt := top 56
abbrev s_law_eval : Stmt := top 57
abbrev s_law_term : Stmt := top 58
abbrev s_law_text_items : Stmt := top 59
abbrev s_law_deeds : Stmt := top 60
abbrev s_law_lists : Stmt := top 61
abbrev s_law_goal : Stmt := top 62
abbrev s_law_width : Stmt := top 63
abbrev s_law_called : Stmt := top 64
abbrev s_law_judge : Stmt := top 65
abbrev s_law_drawn : Stmt := top 66
abbrev s_law_picked : Stmt := top 67
abbrev s_law_bent : Stmt := top 68
abbrev s_law_round : Stmt := top 69
abbrev s_law : Stmt := top 70
/-! ### defs, facts -/
def dd_BadTarget_init : He.DefD := ⟨("BadTarget", some "__init__"), "__init__", "BadTarget.__init__", defArgs s_BadTarget_init, defBody s_BadTarget_init, defScope s_BadTarget_init, [], []⟩
def dd_Unlike_init : He.DefD := ⟨("Unlike", some "__init__"), "__init__", "Unlike.__init__", defArgs s_Unlike_init, defBody s_Unlike_init, defScope s_Unlike_init, [], []⟩
def dd_NoValue_init : He.DefD := ⟨("NoValue", some "__init__"), "__init__", "NoValue.__init__", defArgs s_NoValue_init, defBody s_NoValue_init, defScope s_NoValue_init, [], []⟩
def dd_TooMany_init : He.DefD := ⟨("TooMany", some "__init__"), "__init__", "TooMany.__init__", defArgs s_TooMany_init, defBody s_TooMany_init, defScope s_TooMany_init, [], []⟩
def dd_power : He.DefD := ⟨("power", none), "power", "power", defArgs s_power, defBody s_power, defScope s_power, [], []⟩
def dd_fold : He.DefD := ⟨("fold", none), "fold", "fold", defArgs s_fold, defBody s_fold, defScope s_fold, [], []⟩
def dd_digit_of : He.DefD := ⟨("digit_of", none), "digit_of", "digit_of", defArgs s_digit_of, defBody s_digit_of, defScope s_digit_of, [], []⟩
def dd_digits_for : He.DefD := ⟨("digits_for", none), "digits_for", "digits_for", defArgs s_digits_for, defBody s_digits_for, defScope s_digits_for, [], []⟩
def dd_read_integer : He.DefD := ⟨("read_integer", none), "read_integer", "read_integer", defArgs s_read_integer, defBody s_read_integer, defScope s_read_integer, [], []⟩
def dd_is_fraction : He.DefD := ⟨("is_fraction", none), "is_fraction", "is_fraction", defArgs s_is_fraction, defBody s_is_fraction, defScope s_is_fraction, [], []⟩
def dd_fraction : He.DefD := ⟨("fraction", none), "fraction", "fraction", defArgs s_fraction, defBody s_fraction, defScope s_fraction, [], []⟩
def dd_difference : He.DefD := ⟨("difference", none), "difference", "difference", defArgs s_difference, defBody s_difference, defScope s_difference, [], []⟩
def dd_product_of : He.DefD := ⟨("product_of", none), "product_of", "product_of", defArgs s_product_of, defBody s_product_of, defScope s_product_of, [], []⟩
def dd_read_fraction : He.DefD := ⟨("read_fraction", none), "read_fraction", "read_fraction", defArgs s_read_fraction, defBody s_read_fraction, defScope s_read_fraction, [], []⟩
def dd_cell : He.DefD := ⟨("cell", none), "cell", "cell", defArgs s_cell, defBody s_cell, defScope s_cell, [], []⟩
def dd_corners_of : He.DefD := ⟨("corners_of", none), "corners_of", "corners_of", defArgs s_corners_of, defBody s_corners_of, defScope s_corners_of, [], []⟩
def dd_check_target : He.DefD := ⟨("_check_target", none), "_check_target", "_check_target", defArgs s_check_target, defBody s_check_target, defScope s_check_target, [], []⟩
def dd_chords : He.DefD := ⟨("_chords", none), "_chords", "_chords", defArgs s_chords, defBody s_chords, defScope s_chords, [], []⟩
def dd_flat : He.DefD := ⟨("_flat", none), "_flat", "_flat", defArgs s_flat, defBody s_flat, defScope s_flat, [], []⟩
def dd_chord_list : He.DefD := ⟨("chord_list", none), "chord_list", "chord_list", defArgs s_chord_list, defBody s_chord_list, defScope s_chord_list, [], []⟩
def dd_Bar_init : He.DefD := ⟨("Bar", some "__init__"), "__init__", "Bar.__init__", defArgs s_Bar_init, defBody s_Bar_init, defScope s_Bar_init, [], []⟩
def dd_Bar_len : He.DefD := ⟨("Bar", some "__len__"), "__len__", "Bar.__len__", defArgs s_Bar_len, defBody s_Bar_len, defScope s_Bar_len, [], []⟩
def dd_Bar_repr : He.DefD := ⟨("Bar", some "__repr__"), "__repr__", "Bar.__repr__", defArgs s_Bar_repr, defBody s_Bar_repr, defScope s_Bar_repr, [], []⟩
def dd_takes_bar : He.DefD := ⟨("takes_bar", none), "takes_bar", "takes_bar", defArgs s_takes_bar, defBody s_takes_bar, defScope s_takes_bar, [], []⟩
def dd_term_step : He.DefD := ⟨("_term_step", none), "_term_step", "_term_step", defArgs s_term_step, defBody s_term_step, defScope s_term_step, [], []⟩
def dd_postfix : He.DefD := ⟨("_postfix", none), "_postfix", "_postfix", defArgs s_postfix, defBody s_postfix, defScope s_postfix, [], []⟩
def dd_joined : He.DefD := ⟨("_joined", none), "_joined", "_joined", defArgs s_joined, defBody s_joined, defScope s_joined, [], []⟩
def dd_Target_init : He.DefD := ⟨("Target", some "__init__"), "__init__", "Target.__init__", defArgs s_Target_init, defBody s_Target_init, defScope s_Target_init, [], []⟩
def dd_Target_worth : He.DefD := ⟨("Target", some "_worth"), "_worth", "Target._worth", defArgs s_Target_worth, defBody s_Target_worth, defScope s_Target_worth, [], []⟩
def dd_Target_square : He.DefD := ⟨("Target", some "square"), "square", "Target.square", defArgs s_Target_square, defBody s_Target_square, defScope s_Target_square, [], []⟩
def dd_Target_at : He.DefD := ⟨("Target", some "at"), "at", "Target.at", defArgs s_Target_at, defBody s_Target_at, defScope s_Target_at, [], []⟩
def dd_Target_is_value : He.DefD := ⟨("Target", some "is_value"), "is_value", "Target.is_value", defArgs s_Target_is_value, defBody s_Target_is_value, defScope s_Target_is_value, [], []⟩
def dd_Target_text : He.DefD := ⟨("Target", some "text"), "text", "Target.text", defArgs s_Target_text, defBody s_Target_text, defScope s_Target_text, [], []⟩
def dd_Target_eq : He.DefD := ⟨("Target", some "__eq__"), "__eq__", "Target.__eq__", defArgs s_Target_eq, defBody s_Target_eq, defScope s_Target_eq, [], []⟩
def dd_Target_repr : He.DefD := ⟨("Target", some "__repr__"), "__repr__", "Target.__repr__", defArgs s_Target_repr, defBody s_Target_repr, defScope s_Target_repr, [], []⟩
def dd_law_bag : He.DefD := ⟨("_law_bag", none), "_law_bag", "_law_bag", defArgs s_law_bag, defBody s_law_bag, defScope s_law_bag, [], []⟩
def dd_law_draw : He.DefD := ⟨("_law_draw", none), "_law_draw", "_law_draw", defArgs s_law_draw, defBody s_law_draw, defScope s_law_draw, [], []⟩
def dd_law_of : He.DefD := ⟨("_law_of", none), "_law_of", "_law_of", defArgs s_law_of, defBody s_law_of, defScope s_law_of, [], []⟩
def dd_law_mixed : He.DefD := ⟨("_law_mixed", none), "_law_mixed", "_law_mixed", defArgs s_law_mixed, defBody s_law_mixed, defScope s_law_mixed, [], []⟩
def dd_law_same : He.DefD := ⟨("_law_same", none), "_law_same", "_law_same", defArgs s_law_same, defBody s_law_same, defScope s_law_same, [], []⟩
def dd_law_gcd : He.DefD := ⟨("_law_gcd", none), "_law_gcd", "_law_gcd", defArgs s_law_gcd, defBody s_law_gcd, defScope s_law_gcd, [], []⟩
def dd_law_frac : He.DefD := ⟨("_law_frac", none), "_law_frac", "_law_frac", defArgs s_law_frac, defBody s_law_frac, defScope s_law_frac, [], []⟩
def dd_law_add : He.DefD := ⟨("_law_add", none), "_law_add", "_law_add", defArgs s_law_add, defBody s_law_add, defScope s_law_add, [], []⟩
def dd_law_sub : He.DefD := ⟨("_law_sub", none), "_law_sub", "_law_sub", defArgs s_law_sub, defBody s_law_sub, defScope s_law_sub, [], []⟩
def dd_law_mul : He.DefD := ⟨("_law_mul", none), "_law_mul", "_law_mul", defArgs s_law_mul, defBody s_law_mul, defScope s_law_mul, [], []⟩
def dd_law_power : He.DefD := ⟨("_law_power", none), "_law_power", "_law_power", defArgs s_law_power, defBody s_law_power, defScope s_law_power, [], []⟩
def dd_law_digits : He.DefD := ⟨("_law_digits", none), "_law_digits", "_law_digits", defArgs s_law_digits, defBody s_law_digits, defScope s_law_digits, [], []⟩
def dd_law_words : He.DefD := ⟨("_law_words", none), "_law_words", "_law_words", defArgs s_law_words, defBody s_law_words, defScope s_law_words, [], []⟩
def dd_law_whole_text : He.DefD := ⟨("_law_whole_text", none), "_law_whole_text", "_law_whole_text", defArgs s_law_whole_text, defBody s_law_whole_text, defScope s_law_whole_text, [], []⟩
def dd_law_read_frac : He.DefD := ⟨("_law_read_frac", none), "_law_read_frac", "_law_read_frac", defArgs s_law_read_frac, defBody s_law_read_frac, defScope s_law_read_frac, [], []⟩
def dd_law_parse : He.DefD := ⟨("_law_parse", none), "_law_parse", "_law_parse", defArgs s_law_parse, defBody s_law_parse, defScope s_law_parse, [], []⟩
def dd_law_eval : He.DefD := ⟨("_law_eval", none), "_law_eval", "_law_eval", defArgs s_law_eval, defBody s_law_eval, defScope s_law_eval, [], []⟩
def dd_law_term : He.DefD := ⟨("_law_term", none), "_law_term", "_law_term", defArgs s_law_term, defBody s_law_term, defScope s_law_term, [], []⟩
def dd_law_text_items : He.DefD := ⟨("_law_text_items", none), "_law_text_items", "_law_text_items", defArgs s_law_text_items, defBody s_law_text_items, defScope s_law_text_items, [], []⟩
def dd_law_deeds : He.DefD := ⟨("_law_deeds", none), "_law_deeds", "_law_deeds", defArgs s_law_deeds, defBody s_law_deeds, defScope s_law_deeds, [], []⟩
def dd_law_lists : He.DefD := ⟨("_law_lists", none), "_law_lists", "_law_lists", defArgs s_law_lists, defBody s_law_lists, defScope s_law_lists, [], []⟩
def dd_law_goal : He.DefD := ⟨("_law_goal", none), "_law_goal", "_law_goal", defArgs s_law_goal, defBody s_law_goal, defScope s_law_goal, [], []⟩
def dd_law_width : He.DefD := ⟨("_law_width", none), "_law_width", "_law_width", defArgs s_law_width, defBody s_law_width, defScope s_law_width, [], []⟩
def dd_law_called : He.DefD := ⟨("_law_called", none), "_law_called", "_law_called", defArgs s_law_called, defBody s_law_called, defScope s_law_called, [], []⟩
def dd_law_judge : He.DefD := ⟨("_law_judge", none), "_law_judge", "_law_judge", defArgs s_law_judge, defBody s_law_judge, defScope s_law_judge, [], []⟩
def dd_law_drawn : He.DefD := ⟨("_law_drawn", none), "_law_drawn", "_law_drawn", defArgs s_law_drawn, defBody s_law_drawn, defScope s_law_drawn, [], []⟩
def dd_law_picked : He.DefD := ⟨("_law_picked", none), "_law_picked", "_law_picked", defArgs s_law_picked, defBody s_law_picked, defScope s_law_picked, [], []⟩
def dd_law_bent : He.DefD := ⟨("_law_bent", none), "_law_bent", "_law_bent", defArgs s_law_bent, defBody s_law_bent, defScope s_law_bent, [], []⟩
def dd_law_round : He.DefD := ⟨("_law_round", none), "_law_round", "_law_round", defArgs s_law_round, defBody s_law_round, defScope s_law_round, [], []⟩
def dd_law : He.DefD := ⟨("law", none), "law", "law", defArgs s_law, defBody s_law, defScope s_law, [], []⟩
def fn0 : List He.DefD := [dd_BadTarget_init, dd_Unlike_init, dd_NoValue_init, dd_TooMany_init, dd_power, dd_fold, dd_digit_of, dd_digits_for, dd_read_integer, dd_is_fraction, dd_fraction, dd_difference, dd_product_of, dd_read_fraction, dd_cell, dd_corners_of, dd_check_target, dd_chords, dd_flat, dd_chord_list, dd_Bar_init, dd_Bar_len, dd_Bar_repr, dd_takes_bar, dd_term_step, dd_postfix, dd_joined, dd_Target_init, dd_Target_worth, dd_Target_square]
def fn1 : List He.DefD := [dd_Target_at, dd_Target_is_value, dd_Target_text, dd_Target_eq, dd_Target_repr, dd_law_bag, dd_law_draw, dd_law_of, dd_law_mixed, dd_law_same, dd_law_gcd, dd_law_frac, dd_law_add, dd_law_sub, dd_law_mul, dd_law_power, dd_law_digits, dd_law_words, dd_law_whole_text, dd_law_read_frac, dd_law_parse, dd_law_eval, dd_law_term, dd_law_text_items, dd_law_deeds, dd_law_lists, dd_law_goal, dd_law_width, dd_law_called, dd_law_judge]
def fn2 : List He.DefD := [dd_law_drawn, dd_law_picked, dd_law_bent, dd_law_round, dd_law]
def fn : List He.DefD := fn0 ++ fn1 ++ fn2
def fa0 : List He.Fa := [.glo "BendlessError", .glo "BadTarget", .glo "Unlike", .glo "NoValue", .glo "TooMany", .glo "power", .glo "fold", .glo "digit_of", .glo "digits_for", .int "TEXT" 40000, .int "FRACTION" 1000, .int "ITEMS" 30, .glo "read_integer", .glo "is_fraction", .glo "fraction", .glo "difference", .glo "product_of", .glo "read_fraction", .glo "cell", .glo "corners_of", .glo "_check_target", .glo "_chords", .glo "_flat", .glo "chord_list", .glo "Bar", .glo "takes_bar", .glo "_term_step", .glo "_postfix", .glo "_joined", .glo "Target"]
def fa1 : List He.Fa := [.glo "_law_bag", .glo "_law_draw", .glo "_law_of", .glo "_law_mixed", .glo "_law_same", .glo "_law_gcd", .glo "_law_frac", .glo "_law_add", .glo "_law_sub", .glo "_law_mul", .glo "_law_power", .glo "_law_digits", .glo "_law_words", .glo "_law_whole_text", .glo "_law_read_frac", .glo "_law_parse", .glo "_law_eval", .glo "_law_term", .glo "_law_text_items", .glo "_law_deeds", .glo "_law_lists", .glo "_law_goal", .glo "_law_width", .glo "_law_called", .glo "_law_judge", .glo "_law_drawn", .glo "_law_picked", .glo "_law_bent", .glo "_law_round", .glo "law"]
def fa2 : List He.Fa := [.free "ValueError", .free "abs", .free "all", .free "any", .free "bool", .free "enumerate", .free "int", .free "isinstance", .free "len", .free "list", .free "max", .free "range", .free "set", .free "str", .free "tuple", .free "zip", .cls "Bar", .mkr "Bar", .noat "Bar" "base", .noat "Bar" "width", .noat "Bar" "words", .meth "Bar" "__len__", .cls "Target", .mkr "Target", .noat "Target" "width", .noat "Target" "root", .noat "Target" "_text", .noat "Target" "_steps", .meth "Target" "_worth", .meth "Target" "square"]
def fa3 : List He.Fa := [.meth "Target" "at", .meth "Target" "is_value", .meth "Target" "text", .meth "BadTarget" "__init__", .exm "BadTarget" "BadTarget" true, .noat "BadTarget" "item", .noat "BadTarget" "why", .meth "Unlike" "__init__", .exm "Unlike" "Unlike" true, .noat "Unlike" "what", .meth "NoValue" "__init__", .exm "NoValue" "NoValue" true, .noat "NoValue" "spot", .meth "TooMany" "__init__", .exm "TooMany" "TooMany" true, .noat "TooMany" "what", .noat "TooMany" "limit"]
def fa : List He.Fa := fa0 ++ fa1 ++ fa2 ++ fa3
/-- an own exception class over ValueError -/
def excB (K : PySem.W.Frag) (x : Str) : Bool := (match K.lookup (He.ga K x) with
  | some ⟨.type "type", _, .cls cd, sl⟩ => (match cd.mro, sl.toList with
    | .ref C :: r, [_, _, _, _, some (.builtin n), _] => C == He.ga K x && (n == "ValueError.__new__" && (!cd.hasDel && (cd.hasDict && PySem.HandSPX.refsVE r)))
    | _, _ => false)
  | _ => false) && (L2.xfB K (He.ga K x) && (He.eqO (PySem.W.findIn K (.ref (He.ga K x)) "__setattr__") (some (some (.builtin "object.__setattr__"))) && (decide (PySem.W.typeIn K (.ref (He.ga K x)) = some (.type "type")) && PySem.W.keepIn K (.ref (He.ga K x)))))
/-- a tuple of texts -/
def tupB (K : PySem.W.Frag) (x : Str) (zs : List Str) : Bool := He.eqO (PySem.W.nsIn K mainGlobals x) (some (some (.ref (He.ga K x)))) && match K.lookup (He.ga K x) with
  | some o => decide (o.cls = .type "tuple") && (match o.data with
    | .seq its _ => decide (its.toList.map absV = zs.map fun z => some (V.str z))
    | _ => false)
  | none => false
/-- isinstance asks an own exception's instances rightly -/
def isxB (K : PySem.W.Frag) (x : Str) : Bool := He.eqO (PySem.W.findIn K (.ref (He.ga K x)) "__class__") (some (some (.builtin "object.__class__"))) && (He.eqO (PySem.W.specialIn K (.builtin "object.__class__") "__get__") (some (some (.builtin "getset_descriptor.__get__"))) && (decide (PySem.W.takesIn K (.builtin "object.__class__") = some true) && decide (PySem.W.mroIn K (He.ga K x) (.type "object") = some true)))
def kitB (K : PySem.W.Frag) (x y : Str) (b : Bool) : Bool := decide (PySem.W.kitOne K (.ref (He.ga K x)) (.ref (He.ga K y)) = some b)
def ex0 (K : PySem.W.Frag) : Bool := He.eqO (PySem.W.nsIn K mainGlobals "gcd") (some (some (.builtin "math.gcd"))) && He.eqO (PySem.W.nsIn K mainGlobals "isqrt") (some (some (.builtin "math.isqrt"))) && excB K "BendlessError" && excB K "BadTarget" && excB K "Unlike" && excB K "NoValue" && excB K "TooMany"
def ex (K : PySem.W.Frag) : Bool := ex0 K && (tupB K "SIGNS" ["+", "-", "*", "/"] && (isxB K "Unlike" && (kitB K "Unlike" "NoValue" false && (kitB K "Unlike" "TooMany" false))))
def loose0 : List Str := ["_wall", "BendlessError", "BadTarget", "Unlike", "NoValue", "TooMany", "power", "fold", "digit_of", "digits_for", "TEXT", "FRACTION", "ITEMS", "read_integer", "is_fraction", "fraction", "difference", "product_of", "read_fraction", "cell", "corners_of", "_check_target", "_chords", "_flat", "chord_list", "Bar", "takes_bar", "SIGNS", "_term_step", "_postfix"]
def loose1 : List Str := ["_joined", "Target", "_law_bag", "_law_draw", "_law_of", "_law_mixed", "_law_same", "_law_gcd", "_law_frac", "_law_add", "_law_sub", "_law_mul", "_law_power", "_law_digits", "_law_words", "_law_whole_text", "_law_read_frac", "_law_parse", "_law_eval", "_law_term", "_law_text_items", "_law_deeds", "_law_lists", "_law_goal", "_law_width", "_law_called", "_law_judge", "_law_drawn", "_law_picked", "_law_bent"]
def loose2 : List Str := ["_law_round"]
def loose : List Str := loose0 ++ loose1 ++ loose2
abbrev R : PySem.W.OpenRow := PySem.W.OpenLaw.row PySem.Challenge.rw_bendless_k82_whole_bars_judged
abbrev hk : PySem.W.Hook := He.hookX 4 fa fn [] [] ex
def ob (s : PySem.W.SharedT) : He.AlX := He.obsX 4 fa fn [] [] ex (HandSHeadRun.getT s)
theorem ob_eq (s : PySem.W.SharedT) : ob s = hk.obs s.abs := He.obsX_eq (HandSHeadRun.getT_eq s)
theorem run (w : World) : HandSHeadRun.RunEqI R (PySem.W.view R.prog [0, 70]) hk ob 30000 loose w := by
  unfold HandSHeadRun.RunEqI
  kernel_rfl
/-! ### what the top has left -/
structure Txt (K : PySem.W.Frag) (mg : Str → Option Value) : Prop where
  h : ∃ h : Heap, K.In h ∧ h.Ns mainGlobals mg
  s : He.SaysD fa fn K
  x : ex K = true
section
variable {K : PySem.W.Frag} {mg : Str → Option Value}
theorem Txt.glo (T : Txt K mg) {x : Str} (c : (He.Fa.glo x).ok K = true) : mg x = some (.ref (He.ga K x)) := by
  obtain ⟨h, X, G⟩ := T.h
  exact He.glo_ok X G c
theorem Txt.fre (T : Txt K mg) {x : Str} (c : (He.Fa.free x).ok K = true) : mg x = none := by
  obtain ⟨h, X, G⟩ := T.h
  exact He.free_ok X G c
theorem Txt.intg (T : Txt K mg) {x : Str} {i : Int} (c : (He.Fa.int x i).ok K = true) : ∃ t, mg x = some (.int i t) := by
  obtain ⟨h, X, G⟩ := T.h
  exact He.int_ok X G c
theorem Txt.g_BendlessError (T : Txt K mg) : mg "BendlessError" = some (.ref (He.ga K "BendlessError")) := T.glo (T.s.fact 0 rfl)
theorem Txt.g_BadTarget (T : Txt K mg) : mg "BadTarget" = some (.ref (He.ga K "BadTarget")) := T.glo (T.s.fact 1 rfl)
theorem Txt.g_Unlike (T : Txt K mg) : mg "Unlike" = some (.ref (He.ga K "Unlike")) := T.glo (T.s.fact 2 rfl)
theorem Txt.g_NoValue (T : Txt K mg) : mg "NoValue" = some (.ref (He.ga K "NoValue")) := T.glo (T.s.fact 3 rfl)
theorem Txt.g_TooMany (T : Txt K mg) : mg "TooMany" = some (.ref (He.ga K "TooMany")) := T.glo (T.s.fact 4 rfl)
theorem Txt.g_power (T : Txt K mg) : mg "power" = some (.ref (He.ga K "power")) := T.glo (T.s.fact 5 rfl)
theorem Txt.g_fold (T : Txt K mg) : mg "fold" = some (.ref (He.ga K "fold")) := T.glo (T.s.fact 6 rfl)
theorem Txt.g_digit_of (T : Txt K mg) : mg "digit_of" = some (.ref (He.ga K "digit_of")) := T.glo (T.s.fact 7 rfl)
theorem Txt.g_digits_for (T : Txt K mg) : mg "digits_for" = some (.ref (He.ga K "digits_for")) := T.glo (T.s.fact 8 rfl)
theorem Txt.i_TEXT (T : Txt K mg) : ∃ t, mg "TEXT" = some (.int 40000 t) := T.intg (T.s.fact 9 rfl)
theorem Txt.i_FRACTION (T : Txt K mg) : ∃ t, mg "FRACTION" = some (.int 1000 t) := T.intg (T.s.fact 10 rfl)
theorem Txt.i_ITEMS (T : Txt K mg) : ∃ t, mg "ITEMS" = some (.int 30 t) := T.intg (T.s.fact 11 rfl)
theorem Txt.g_read_integer (T : Txt K mg) : mg "read_integer" = some (.ref (He.ga K "read_integer")) := T.glo (T.s.fact 12 rfl)
theorem Txt.g_is_fraction (T : Txt K mg) : mg "is_fraction" = some (.ref (He.ga K "is_fraction")) := T.glo (T.s.fact 13 rfl)
theorem Txt.g_fraction (T : Txt K mg) : mg "fraction" = some (.ref (He.ga K "fraction")) := T.glo (T.s.fact 14 rfl)
theorem Txt.g_difference (T : Txt K mg) : mg "difference" = some (.ref (He.ga K "difference")) := T.glo (T.s.fact 15 rfl)
theorem Txt.g_product_of (T : Txt K mg) : mg "product_of" = some (.ref (He.ga K "product_of")) := T.glo (T.s.fact 16 rfl)
theorem Txt.g_read_fraction (T : Txt K mg) : mg "read_fraction" = some (.ref (He.ga K "read_fraction")) := T.glo (T.s.fact 17 rfl)
theorem Txt.g_cell (T : Txt K mg) : mg "cell" = some (.ref (He.ga K "cell")) := T.glo (T.s.fact 18 rfl)
theorem Txt.g_corners_of (T : Txt K mg) : mg "corners_of" = some (.ref (He.ga K "corners_of")) := T.glo (T.s.fact 19 rfl)
theorem Txt.g_check_target (T : Txt K mg) : mg "_check_target" = some (.ref (He.ga K "_check_target")) := T.glo (T.s.fact 20 rfl)
theorem Txt.g_chords (T : Txt K mg) : mg "_chords" = some (.ref (He.ga K "_chords")) := T.glo (T.s.fact 21 rfl)
theorem Txt.g_flat (T : Txt K mg) : mg "_flat" = some (.ref (He.ga K "_flat")) := T.glo (T.s.fact 22 rfl)
theorem Txt.g_chord_list (T : Txt K mg) : mg "chord_list" = some (.ref (He.ga K "chord_list")) := T.glo (T.s.fact 23 rfl)
theorem Txt.g_Bar (T : Txt K mg) : mg "Bar" = some (.ref (He.ga K "Bar")) := T.glo (T.s.fact 24 rfl)
theorem Txt.g_takes_bar (T : Txt K mg) : mg "takes_bar" = some (.ref (He.ga K "takes_bar")) := T.glo (T.s.fact 25 rfl)
theorem Txt.g_term_step (T : Txt K mg) : mg "_term_step" = some (.ref (He.ga K "_term_step")) := T.glo (T.s.fact 26 rfl)
theorem Txt.g_postfix (T : Txt K mg) : mg "_postfix" = some (.ref (He.ga K "_postfix")) := T.glo (T.s.fact 27 rfl)
theorem Txt.g_joined (T : Txt K mg) : mg "_joined" = some (.ref (He.ga K "_joined")) := T.glo (T.s.fact 28 rfl)
theorem Txt.g_Target (T : Txt K mg) : mg "Target" = some (.ref (He.ga K "Target")) := T.glo (T.s.fact 29 rfl)
theorem Txt.g_law_bag (T : Txt K mg) : mg "_law_bag" = some (.ref (He.ga K "_law_bag")) := T.glo (T.s.fact 30 rfl)
theorem Txt.g_law_draw (T : Txt K mg) : mg "_law_draw" = some (.ref (He.ga K "_law_draw")) := T.glo (T.s.fact 31 rfl)
theorem Txt.g_law_of (T : Txt K mg) : mg "_law_of" = some (.ref (He.ga K "_law_of")) := T.glo (T.s.fact 32 rfl)
theorem Txt.g_law_mixed (T : Txt K mg) : mg "_law_mixed" = some (.ref (He.ga K "_law_mixed")) := T.glo (T.s.fact 33 rfl)
theorem Txt.g_law_same (T : Txt K mg) : mg "_law_same" = some (.ref (He.ga K "_law_same")) := T.glo (T.s.fact 34 rfl)
theorem Txt.g_law_gcd (T : Txt K mg) : mg "_law_gcd" = some (.ref (He.ga K "_law_gcd")) := T.glo (T.s.fact 35 rfl)
theorem Txt.g_law_frac (T : Txt K mg) : mg "_law_frac" = some (.ref (He.ga K "_law_frac")) := T.glo (T.s.fact 36 rfl)
theorem Txt.g_law_add (T : Txt K mg) : mg "_law_add" = some (.ref (He.ga K "_law_add")) := T.glo (T.s.fact 37 rfl)
theorem Txt.g_law_sub (T : Txt K mg) : mg "_law_sub" = some (.ref (He.ga K "_law_sub")) := T.glo (T.s.fact 38 rfl)
theorem Txt.g_law_mul (T : Txt K mg) : mg "_law_mul" = some (.ref (He.ga K "_law_mul")) := T.glo (T.s.fact 39 rfl)
theorem Txt.g_law_power (T : Txt K mg) : mg "_law_power" = some (.ref (He.ga K "_law_power")) := T.glo (T.s.fact 40 rfl)
theorem Txt.g_law_digits (T : Txt K mg) : mg "_law_digits" = some (.ref (He.ga K "_law_digits")) := T.glo (T.s.fact 41 rfl)
theorem Txt.g_law_words (T : Txt K mg) : mg "_law_words" = some (.ref (He.ga K "_law_words")) := T.glo (T.s.fact 42 rfl)
theorem Txt.g_law_whole_text (T : Txt K mg) : mg "_law_whole_text" = some (.ref (He.ga K "_law_whole_text")) := T.glo (T.s.fact 43 rfl)
theorem Txt.g_law_read_frac (T : Txt K mg) : mg "_law_read_frac" = some (.ref (He.ga K "_law_read_frac")) := T.glo (T.s.fact 44 rfl)
theorem Txt.g_law_parse (T : Txt K mg) : mg "_law_parse" = some (.ref (He.ga K "_law_parse")) := T.glo (T.s.fact 45 rfl)
theorem Txt.g_law_eval (T : Txt K mg) : mg "_law_eval" = some (.ref (He.ga K "_law_eval")) := T.glo (T.s.fact 46 rfl)
theorem Txt.g_law_term (T : Txt K mg) : mg "_law_term" = some (.ref (He.ga K "_law_term")) := T.glo (T.s.fact 47 rfl)
theorem Txt.g_law_text_items (T : Txt K mg) : mg "_law_text_items" = some (.ref (He.ga K "_law_text_items")) := T.glo (T.s.fact 48 rfl)
theorem Txt.g_law_deeds (T : Txt K mg) : mg "_law_deeds" = some (.ref (He.ga K "_law_deeds")) := T.glo (T.s.fact 49 rfl)
theorem Txt.g_law_lists (T : Txt K mg) : mg "_law_lists" = some (.ref (He.ga K "_law_lists")) := T.glo (T.s.fact 50 rfl)
theorem Txt.g_law_goal (T : Txt K mg) : mg "_law_goal" = some (.ref (He.ga K "_law_goal")) := T.glo (T.s.fact 51 rfl)
theorem Txt.g_law_width (T : Txt K mg) : mg "_law_width" = some (.ref (He.ga K "_law_width")) := T.glo (T.s.fact 52 rfl)
theorem Txt.g_law_called (T : Txt K mg) : mg "_law_called" = some (.ref (He.ga K "_law_called")) := T.glo (T.s.fact 53 rfl)
theorem Txt.g_law_judge (T : Txt K mg) : mg "_law_judge" = some (.ref (He.ga K "_law_judge")) := T.glo (T.s.fact 54 rfl)
theorem Txt.g_law_drawn (T : Txt K mg) : mg "_law_drawn" = some (.ref (He.ga K "_law_drawn")) := T.glo (T.s.fact 55 rfl)
theorem Txt.g_law_picked (T : Txt K mg) : mg "_law_picked" = some (.ref (He.ga K "_law_picked")) := T.glo (T.s.fact 56 rfl)
theorem Txt.g_law_bent (T : Txt K mg) : mg "_law_bent" = some (.ref (He.ga K "_law_bent")) := T.glo (T.s.fact 57 rfl)
theorem Txt.g_law_round (T : Txt K mg) : mg "_law_round" = some (.ref (He.ga K "_law_round")) := T.glo (T.s.fact 58 rfl)
theorem Txt.g_law (T : Txt K mg) : mg "law" = some (.ref (He.ga K "law")) := T.glo (T.s.fact 59 rfl)
theorem Txt.b_ValueError (T : Txt K mg) : mg "ValueError" = none := T.fre (T.s.fact 60 rfl)
theorem Txt.b_abs (T : Txt K mg) : mg "abs" = none := T.fre (T.s.fact 61 rfl)
theorem Txt.b_all (T : Txt K mg) : mg "all" = none := T.fre (T.s.fact 62 rfl)
theorem Txt.b_any (T : Txt K mg) : mg "any" = none := T.fre (T.s.fact 63 rfl)
theorem Txt.b_bool (T : Txt K mg) : mg "bool" = none := T.fre (T.s.fact 64 rfl)
theorem Txt.b_enumerate (T : Txt K mg) : mg "enumerate" = none := T.fre (T.s.fact 65 rfl)
theorem Txt.b_int (T : Txt K mg) : mg "int" = none := T.fre (T.s.fact 66 rfl)
theorem Txt.b_isinstance (T : Txt K mg) : mg "isinstance" = none := T.fre (T.s.fact 67 rfl)
theorem Txt.b_len (T : Txt K mg) : mg "len" = none := T.fre (T.s.fact 68 rfl)
theorem Txt.b_list (T : Txt K mg) : mg "list" = none := T.fre (T.s.fact 69 rfl)
theorem Txt.b_max (T : Txt K mg) : mg "max" = none := T.fre (T.s.fact 70 rfl)
theorem Txt.b_range (T : Txt K mg) : mg "range" = none := T.fre (T.s.fact 71 rfl)
theorem Txt.b_set (T : Txt K mg) : mg "set" = none := T.fre (T.s.fact 72 rfl)
theorem Txt.b_str (T : Txt K mg) : mg "str" = none := T.fre (T.s.fact 73 rfl)
theorem Txt.b_tuple (T : Txt K mg) : mg "tuple" = none := T.fre (T.s.fact 74 rfl)
theorem Txt.b_zip (T : Txt K mg) : mg "zip" = none := T.fre (T.s.fact 75 rfl)
theorem Txt.cls_Bar (T : Txt K mg) : Cls K (He.ga K "Bar") := He.cls_ok (T.s.fact 76 rfl)
theorem Txt.cls_Target (T : Txt K mg) : Cls K (He.ga K "Target") := He.cls_ok (T.s.fact 82 rfl)
theorem Txt.d_BadTarget_init (T : Txt K mg) : ∃ fd, FunD K "__init__" "BadTarget.__init__" (defArgs s_BadTarget_init) (defBody s_BadTarget_init) (defScope s_BadTarget_init) [] [] (He.fAd K ("BadTarget", some "__init__")) fd := T.s.def_ 0 (d := dd_BadTarget_init) rfl
theorem Txt.d_Unlike_init (T : Txt K mg) : ∃ fd, FunD K "__init__" "Unlike.__init__" (defArgs s_Unlike_init) (defBody s_Unlike_init) (defScope s_Unlike_init) [] [] (He.fAd K ("Unlike", some "__init__")) fd := T.s.def_ 1 (d := dd_Unlike_init) rfl
theorem Txt.d_NoValue_init (T : Txt K mg) : ∃ fd, FunD K "__init__" "NoValue.__init__" (defArgs s_NoValue_init) (defBody s_NoValue_init) (defScope s_NoValue_init) [] [] (He.fAd K ("NoValue", some "__init__")) fd := T.s.def_ 2 (d := dd_NoValue_init) rfl
theorem Txt.d_TooMany_init (T : Txt K mg) : ∃ fd, FunD K "__init__" "TooMany.__init__" (defArgs s_TooMany_init) (defBody s_TooMany_init) (defScope s_TooMany_init) [] [] (He.fAd K ("TooMany", some "__init__")) fd := T.s.def_ 3 (d := dd_TooMany_init) rfl
theorem Txt.d_power (T : Txt K mg) : ∃ fd, FunD K "power" "power" (defArgs s_power) (defBody s_power) (defScope s_power) [] [] (He.fAd K ("power", none)) fd := T.s.def_ 4 (d := dd_power) rfl
theorem Txt.d_fold (T : Txt K mg) : ∃ fd, FunD K "fold" "fold" (defArgs s_fold) (defBody s_fold) (defScope s_fold) [] [] (He.fAd K ("fold", none)) fd := T.s.def_ 5 (d := dd_fold) rfl
theorem Txt.d_digit_of (T : Txt K mg) : ∃ fd, FunD K "digit_of" "digit_of" (defArgs s_digit_of) (defBody s_digit_of) (defScope s_digit_of) [] [] (He.fAd K ("digit_of", none)) fd := T.s.def_ 6 (d := dd_digit_of) rfl
theorem Txt.d_digits_for (T : Txt K mg) : ∃ fd, FunD K "digits_for" "digits_for" (defArgs s_digits_for) (defBody s_digits_for) (defScope s_digits_for) [] [] (He.fAd K ("digits_for", none)) fd := T.s.def_ 7 (d := dd_digits_for) rfl
theorem Txt.d_read_integer (T : Txt K mg) : ∃ fd, FunD K "read_integer" "read_integer" (defArgs s_read_integer) (defBody s_read_integer) (defScope s_read_integer) [] [] (He.fAd K ("read_integer", none)) fd := T.s.def_ 8 (d := dd_read_integer) rfl
theorem Txt.d_is_fraction (T : Txt K mg) : ∃ fd, FunD K "is_fraction" "is_fraction" (defArgs s_is_fraction) (defBody s_is_fraction) (defScope s_is_fraction) [] [] (He.fAd K ("is_fraction", none)) fd := T.s.def_ 9 (d := dd_is_fraction) rfl
theorem Txt.d_fraction (T : Txt K mg) : ∃ fd, FunD K "fraction" "fraction" (defArgs s_fraction) (defBody s_fraction) (defScope s_fraction) [] [] (He.fAd K ("fraction", none)) fd := T.s.def_ 10 (d := dd_fraction) rfl
theorem Txt.d_difference (T : Txt K mg) : ∃ fd, FunD K "difference" "difference" (defArgs s_difference) (defBody s_difference) (defScope s_difference) [] [] (He.fAd K ("difference", none)) fd := T.s.def_ 11 (d := dd_difference) rfl
theorem Txt.d_product_of (T : Txt K mg) : ∃ fd, FunD K "product_of" "product_of" (defArgs s_product_of) (defBody s_product_of) (defScope s_product_of) [] [] (He.fAd K ("product_of", none)) fd := T.s.def_ 12 (d := dd_product_of) rfl
theorem Txt.d_read_fraction (T : Txt K mg) : ∃ fd, FunD K "read_fraction" "read_fraction" (defArgs s_read_fraction) (defBody s_read_fraction) (defScope s_read_fraction) [] [] (He.fAd K ("read_fraction", none)) fd := T.s.def_ 13 (d := dd_read_fraction) rfl
theorem Txt.d_cell (T : Txt K mg) : ∃ fd, FunD K "cell" "cell" (defArgs s_cell) (defBody s_cell) (defScope s_cell) [] [] (He.fAd K ("cell", none)) fd := T.s.def_ 14 (d := dd_cell) rfl
theorem Txt.d_corners_of (T : Txt K mg) : ∃ fd, FunD K "corners_of" "corners_of" (defArgs s_corners_of) (defBody s_corners_of) (defScope s_corners_of) [] [] (He.fAd K ("corners_of", none)) fd := T.s.def_ 15 (d := dd_corners_of) rfl
theorem Txt.d_check_target (T : Txt K mg) : ∃ fd, FunD K "_check_target" "_check_target" (defArgs s_check_target) (defBody s_check_target) (defScope s_check_target) [] [] (He.fAd K ("_check_target", none)) fd := T.s.def_ 16 (d := dd_check_target) rfl
theorem Txt.d_chords (T : Txt K mg) : ∃ fd, FunD K "_chords" "_chords" (defArgs s_chords) (defBody s_chords) (defScope s_chords) [] [] (He.fAd K ("_chords", none)) fd := T.s.def_ 17 (d := dd_chords) rfl
theorem Txt.d_flat (T : Txt K mg) : ∃ fd, FunD K "_flat" "_flat" (defArgs s_flat) (defBody s_flat) (defScope s_flat) [] [] (He.fAd K ("_flat", none)) fd := T.s.def_ 18 (d := dd_flat) rfl
theorem Txt.d_chord_list (T : Txt K mg) : ∃ fd, FunD K "chord_list" "chord_list" (defArgs s_chord_list) (defBody s_chord_list) (defScope s_chord_list) [] [] (He.fAd K ("chord_list", none)) fd := T.s.def_ 19 (d := dd_chord_list) rfl
theorem Txt.d_Bar_init (T : Txt K mg) : ∃ fd, FunD K "__init__" "Bar.__init__" (defArgs s_Bar_init) (defBody s_Bar_init) (defScope s_Bar_init) [] [] (He.fAd K ("Bar", some "__init__")) fd := T.s.def_ 20 (d := dd_Bar_init) rfl
theorem Txt.d_Bar_len (T : Txt K mg) : ∃ fd, FunD K "__len__" "Bar.__len__" (defArgs s_Bar_len) (defBody s_Bar_len) (defScope s_Bar_len) [] [] (He.fAd K ("Bar", some "__len__")) fd := T.s.def_ 21 (d := dd_Bar_len) rfl
theorem Txt.d_Bar_repr (T : Txt K mg) : ∃ fd, FunD K "__repr__" "Bar.__repr__" (defArgs s_Bar_repr) (defBody s_Bar_repr) (defScope s_Bar_repr) [] [] (He.fAd K ("Bar", some "__repr__")) fd := T.s.def_ 22 (d := dd_Bar_repr) rfl
theorem Txt.d_takes_bar (T : Txt K mg) : ∃ fd, FunD K "takes_bar" "takes_bar" (defArgs s_takes_bar) (defBody s_takes_bar) (defScope s_takes_bar) [] [] (He.fAd K ("takes_bar", none)) fd := T.s.def_ 23 (d := dd_takes_bar) rfl
theorem Txt.d_term_step (T : Txt K mg) : ∃ fd, FunD K "_term_step" "_term_step" (defArgs s_term_step) (defBody s_term_step) (defScope s_term_step) [] [] (He.fAd K ("_term_step", none)) fd := T.s.def_ 24 (d := dd_term_step) rfl
theorem Txt.d_postfix (T : Txt K mg) : ∃ fd, FunD K "_postfix" "_postfix" (defArgs s_postfix) (defBody s_postfix) (defScope s_postfix) [] [] (He.fAd K ("_postfix", none)) fd := T.s.def_ 25 (d := dd_postfix) rfl
theorem Txt.d_joined (T : Txt K mg) : ∃ fd, FunD K "_joined" "_joined" (defArgs s_joined) (defBody s_joined) (defScope s_joined) [] [] (He.fAd K ("_joined", none)) fd := T.s.def_ 26 (d := dd_joined) rfl
theorem Txt.d_Target_init (T : Txt K mg) : ∃ fd, FunD K "__init__" "Target.__init__" (defArgs s_Target_init) (defBody s_Target_init) (defScope s_Target_init) [] [] (He.fAd K ("Target", some "__init__")) fd := T.s.def_ 27 (d := dd_Target_init) rfl
theorem Txt.d_Target_worth (T : Txt K mg) : ∃ fd, FunD K "_worth" "Target._worth" (defArgs s_Target_worth) (defBody s_Target_worth) (defScope s_Target_worth) [] [] (He.fAd K ("Target", some "_worth")) fd := T.s.def_ 28 (d := dd_Target_worth) rfl
theorem Txt.d_Target_square (T : Txt K mg) : ∃ fd, FunD K "square" "Target.square" (defArgs s_Target_square) (defBody s_Target_square) (defScope s_Target_square) [] [] (He.fAd K ("Target", some "square")) fd := T.s.def_ 29 (d := dd_Target_square) rfl
theorem Txt.d_Target_at (T : Txt K mg) : ∃ fd, FunD K "at" "Target.at" (defArgs s_Target_at) (defBody s_Target_at) (defScope s_Target_at) [] [] (He.fAd K ("Target", some "at")) fd := T.s.def_ 30 (d := dd_Target_at) rfl
theorem Txt.d_Target_is_value (T : Txt K mg) : ∃ fd, FunD K "is_value" "Target.is_value" (defArgs s_Target_is_value) (defBody s_Target_is_value) (defScope s_Target_is_value) [] [] (He.fAd K ("Target", some "is_value")) fd := T.s.def_ 31 (d := dd_Target_is_value) rfl
theorem Txt.d_Target_text (T : Txt K mg) : ∃ fd, FunD K "text" "Target.text" (defArgs s_Target_text) (defBody s_Target_text) (defScope s_Target_text) [] [] (He.fAd K ("Target", some "text")) fd := T.s.def_ 32 (d := dd_Target_text) rfl
theorem Txt.d_Target_eq (T : Txt K mg) : ∃ fd, FunD K "__eq__" "Target.__eq__" (defArgs s_Target_eq) (defBody s_Target_eq) (defScope s_Target_eq) [] [] (He.fAd K ("Target", some "__eq__")) fd := T.s.def_ 33 (d := dd_Target_eq) rfl
theorem Txt.d_Target_repr (T : Txt K mg) : ∃ fd, FunD K "__repr__" "Target.__repr__" (defArgs s_Target_repr) (defBody s_Target_repr) (defScope s_Target_repr) [] [] (He.fAd K ("Target", some "__repr__")) fd := T.s.def_ 34 (d := dd_Target_repr) rfl
theorem Txt.d_law_bag (T : Txt K mg) : ∃ fd, FunD K "_law_bag" "_law_bag" (defArgs s_law_bag) (defBody s_law_bag) (defScope s_law_bag) [] [] (He.fAd K ("_law_bag", none)) fd := T.s.def_ 35 (d := dd_law_bag) rfl
theorem Txt.d_law_draw (T : Txt K mg) : ∃ fd, FunD K "_law_draw" "_law_draw" (defArgs s_law_draw) (defBody s_law_draw) (defScope s_law_draw) [] [] (He.fAd K ("_law_draw", none)) fd := T.s.def_ 36 (d := dd_law_draw) rfl
theorem Txt.d_law_of (T : Txt K mg) : ∃ fd, FunD K "_law_of" "_law_of" (defArgs s_law_of) (defBody s_law_of) (defScope s_law_of) [] [] (He.fAd K ("_law_of", none)) fd := T.s.def_ 37 (d := dd_law_of) rfl
theorem Txt.d_law_mixed (T : Txt K mg) : ∃ fd, FunD K "_law_mixed" "_law_mixed" (defArgs s_law_mixed) (defBody s_law_mixed) (defScope s_law_mixed) [] [] (He.fAd K ("_law_mixed", none)) fd := T.s.def_ 38 (d := dd_law_mixed) rfl
theorem Txt.d_law_same (T : Txt K mg) : ∃ fd, FunD K "_law_same" "_law_same" (defArgs s_law_same) (defBody s_law_same) (defScope s_law_same) [] [] (He.fAd K ("_law_same", none)) fd := T.s.def_ 39 (d := dd_law_same) rfl
theorem Txt.d_law_gcd (T : Txt K mg) : ∃ fd, FunD K "_law_gcd" "_law_gcd" (defArgs s_law_gcd) (defBody s_law_gcd) (defScope s_law_gcd) [] [] (He.fAd K ("_law_gcd", none)) fd := T.s.def_ 40 (d := dd_law_gcd) rfl
theorem Txt.d_law_frac (T : Txt K mg) : ∃ fd, FunD K "_law_frac" "_law_frac" (defArgs s_law_frac) (defBody s_law_frac) (defScope s_law_frac) [] [] (He.fAd K ("_law_frac", none)) fd := T.s.def_ 41 (d := dd_law_frac) rfl
theorem Txt.d_law_add (T : Txt K mg) : ∃ fd, FunD K "_law_add" "_law_add" (defArgs s_law_add) (defBody s_law_add) (defScope s_law_add) [] [] (He.fAd K ("_law_add", none)) fd := T.s.def_ 42 (d := dd_law_add) rfl
theorem Txt.d_law_sub (T : Txt K mg) : ∃ fd, FunD K "_law_sub" "_law_sub" (defArgs s_law_sub) (defBody s_law_sub) (defScope s_law_sub) [] [] (He.fAd K ("_law_sub", none)) fd := T.s.def_ 43 (d := dd_law_sub) rfl
theorem Txt.d_law_mul (T : Txt K mg) : ∃ fd, FunD K "_law_mul" "_law_mul" (defArgs s_law_mul) (defBody s_law_mul) (defScope s_law_mul) [] [] (He.fAd K ("_law_mul", none)) fd := T.s.def_ 44 (d := dd_law_mul) rfl
theorem Txt.d_law_power (T : Txt K mg) : ∃ fd, FunD K "_law_power" "_law_power" (defArgs s_law_power) (defBody s_law_power) (defScope s_law_power) [] [] (He.fAd K ("_law_power", none)) fd := T.s.def_ 45 (d := dd_law_power) rfl
theorem Txt.d_law_digits (T : Txt K mg) : ∃ fd, FunD K "_law_digits" "_law_digits" (defArgs s_law_digits) (defBody s_law_digits) (defScope s_law_digits) [] [] (He.fAd K ("_law_digits", none)) fd := T.s.def_ 46 (d := dd_law_digits) rfl
theorem Txt.d_law_words (T : Txt K mg) : ∃ fd, FunD K "_law_words" "_law_words" (defArgs s_law_words) (defBody s_law_words) (defScope s_law_words) [] [] (He.fAd K ("_law_words", none)) fd := T.s.def_ 47 (d := dd_law_words) rfl
theorem Txt.d_law_whole_text (T : Txt K mg) : ∃ fd, FunD K "_law_whole_text" "_law_whole_text" (defArgs s_law_whole_text) (defBody s_law_whole_text) (defScope s_law_whole_text) [] [] (He.fAd K ("_law_whole_text", none)) fd := T.s.def_ 48 (d := dd_law_whole_text) rfl
theorem Txt.d_law_read_frac (T : Txt K mg) : ∃ fd, FunD K "_law_read_frac" "_law_read_frac" (defArgs s_law_read_frac) (defBody s_law_read_frac) (defScope s_law_read_frac) [] [] (He.fAd K ("_law_read_frac", none)) fd := T.s.def_ 49 (d := dd_law_read_frac) rfl
theorem Txt.d_law_parse (T : Txt K mg) : ∃ fd, FunD K "_law_parse" "_law_parse" (defArgs s_law_parse) (defBody s_law_parse) (defScope s_law_parse) [] [] (He.fAd K ("_law_parse", none)) fd := T.s.def_ 50 (d := dd_law_parse) rfl
theorem Txt.d_law_eval (T : Txt K mg) : ∃ fd, FunD K "_law_eval" "_law_eval" (defArgs s_law_eval) (defBody s_law_eval) (defScope s_law_eval) [] [] (He.fAd K ("_law_eval", none)) fd := T.s.def_ 51 (d := dd_law_eval) rfl
theorem Txt.d_law_term (T : Txt K mg) : ∃ fd, FunD K "_law_term" "_law_term" (defArgs s_law_term) (defBody s_law_term) (defScope s_law_term) [] [] (He.fAd K ("_law_term", none)) fd := T.s.def_ 52 (d := dd_law_term) rfl
theorem Txt.d_law_text_items (T : Txt K mg) : ∃ fd, FunD K "_law_text_items" "_law_text_items" (defArgs s_law_text_items) (defBody s_law_text_items) (defScope s_law_text_items) [] [] (He.fAd K ("_law_text_items", none)) fd := T.s.def_ 53 (d := dd_law_text_items) rfl
theorem Txt.d_law_deeds (T : Txt K mg) : ∃ fd, FunD K "_law_deeds" "_law_deeds" (defArgs s_law_deeds) (defBody s_law_deeds) (defScope s_law_deeds) [] [] (He.fAd K ("_law_deeds", none)) fd := T.s.def_ 54 (d := dd_law_deeds) rfl
theorem Txt.d_law_lists (T : Txt K mg) : ∃ fd, FunD K "_law_lists" "_law_lists" (defArgs s_law_lists) (defBody s_law_lists) (defScope s_law_lists) [] [] (He.fAd K ("_law_lists", none)) fd := T.s.def_ 55 (d := dd_law_lists) rfl
theorem Txt.d_law_goal (T : Txt K mg) : ∃ fd, FunD K "_law_goal" "_law_goal" (defArgs s_law_goal) (defBody s_law_goal) (defScope s_law_goal) [] [] (He.fAd K ("_law_goal", none)) fd := T.s.def_ 56 (d := dd_law_goal) rfl
theorem Txt.d_law_width (T : Txt K mg) : ∃ fd, FunD K "_law_width" "_law_width" (defArgs s_law_width) (defBody s_law_width) (defScope s_law_width) [] [] (He.fAd K ("_law_width", none)) fd := T.s.def_ 57 (d := dd_law_width) rfl
theorem Txt.d_law_called (T : Txt K mg) : ∃ fd, FunD K "_law_called" "_law_called" (defArgs s_law_called) (defBody s_law_called) (defScope s_law_called) [] [] (He.fAd K ("_law_called", none)) fd := T.s.def_ 58 (d := dd_law_called) rfl
theorem Txt.d_law_judge (T : Txt K mg) : ∃ fd, FunD K "_law_judge" "_law_judge" (defArgs s_law_judge) (defBody s_law_judge) (defScope s_law_judge) [] [] (He.fAd K ("_law_judge", none)) fd := T.s.def_ 59 (d := dd_law_judge) rfl
theorem Txt.d_law_drawn (T : Txt K mg) : ∃ fd, FunD K "_law_drawn" "_law_drawn" (defArgs s_law_drawn) (defBody s_law_drawn) (defScope s_law_drawn) [] [] (He.fAd K ("_law_drawn", none)) fd := T.s.def_ 60 (d := dd_law_drawn) rfl
theorem Txt.d_law_picked (T : Txt K mg) : ∃ fd, FunD K "_law_picked" "_law_picked" (defArgs s_law_picked) (defBody s_law_picked) (defScope s_law_picked) [] [] (He.fAd K ("_law_picked", none)) fd := T.s.def_ 61 (d := dd_law_picked) rfl
theorem Txt.d_law_bent (T : Txt K mg) : ∃ fd, FunD K "_law_bent" "_law_bent" (defArgs s_law_bent) (defBody s_law_bent) (defScope s_law_bent) [] [] (He.fAd K ("_law_bent", none)) fd := T.s.def_ 62 (d := dd_law_bent) rfl
theorem Txt.d_law_round (T : Txt K mg) : ∃ fd, FunD K "_law_round" "_law_round" (defArgs s_law_round) (defBody s_law_round) (defScope s_law_round) [] [] (He.fAd K ("_law_round", none)) fd := T.s.def_ 63 (d := dd_law_round) rfl
theorem Txt.d_law (T : Txt K mg) : ∃ fd, FunD K "law" "law" (defArgs s_law) (defBody s_law) (defScope s_law) [] [] (He.fAd K ("law", none)) fd := T.s.def_ 64 (d := dd_law) rfl
end
end K82Head
set_option Elab.async false
set_option linter.all false
set_option maxRecDepth 100000
namespace K82Head
open PySem PySem.Spec PyProof.Rows L2
section
variable {K : PySem.W.Frag} {mg : Str → Option Value}
theorem Txt.mk_Bar (T : Txt K mg) : Mk K (He.ga K "Bar") (He.ma K (He.ga K "Bar") "__init__") := He.mkr_ok (T.s.fact 77 rfl)
theorem Txt.na_Bar_base (T : Txt K mg) : NoAttr K (He.ga K "Bar") "base" := He.noat_ok (T.s.fact 78 rfl)
theorem Txt.na_Bar_width (T : Txt K mg) : NoAttr K (He.ga K "Bar") "width" := He.noat_ok (T.s.fact 79 rfl)
theorem Txt.na_Bar_words (T : Txt K mg) : NoAttr K (He.ga K "Bar") "words" := He.noat_ok (T.s.fact 80 rfl)
theorem Txt.me_Bar_len (T : Txt K mg) : Meth K (He.ga K "Bar") "__len__" (He.ma K (He.ga K "Bar") "__len__") := He.meth_ok (T.s.fact 81 rfl)
theorem Txt.mk_Target (T : Txt K mg) : Mk K (He.ga K "Target") (He.ma K (He.ga K "Target") "__init__") := He.mkr_ok (T.s.fact 83 rfl)
theorem Txt.na_Target_width (T : Txt K mg) : NoAttr K (He.ga K "Target") "width" := He.noat_ok (T.s.fact 84 rfl)
theorem Txt.na_Target_root (T : Txt K mg) : NoAttr K (He.ga K "Target") "root" := He.noat_ok (T.s.fact 85 rfl)
theorem Txt.na_Target__text (T : Txt K mg) : NoAttr K (He.ga K "Target") "_text" := He.noat_ok (T.s.fact 86 rfl)
theorem Txt.na_Target__steps (T : Txt K mg) : NoAttr K (He.ga K "Target") "_steps" := He.noat_ok (T.s.fact 87 rfl)
theorem Txt.me_Target__worth (T : Txt K mg) : Meth K (He.ga K "Target") "_worth" (He.ma K (He.ga K "Target") "_worth") := He.meth_ok (T.s.fact 88 rfl)
theorem Txt.me_Target_square (T : Txt K mg) : Meth K (He.ga K "Target") "square" (He.ma K (He.ga K "Target") "square") := He.meth_ok (T.s.fact 89 rfl)
theorem Txt.me_Target_at (T : Txt K mg) : Meth K (He.ga K "Target") "at" (He.ma K (He.ga K "Target") "at") := He.meth_ok (T.s.fact 90 rfl)
theorem Txt.me_Target_is_value (T : Txt K mg) : Meth K (He.ga K "Target") "is_value" (He.ma K (He.ga K "Target") "is_value") := He.meth_ok (T.s.fact 91 rfl)
theorem Txt.me_Target_text (T : Txt K mg) : Meth K (He.ga K "Target") "text" (He.ma K (He.ga K "Target") "text") := He.meth_ok (T.s.fact 92 rfl)
theorem Txt.me_BadTarget_init (T : Txt K mg) : Meth K (He.ga K "BadTarget") "__init__" (He.ma K (He.ga K "BadTarget") "__init__") := He.meth_ok (T.s.fact 93 rfl)
theorem Txt.ex_BadTarget_BadTarget (T : Txt K mg) : PySem.W.exmOne K (.ref (He.ga K "BadTarget")) (.ref (He.ga K "BadTarget")) = some true := He.exm_ok (T.s.fact 94 rfl)
theorem Txt.na_BadTarget_item (T : Txt K mg) : NoAttr K (He.ga K "BadTarget") "item" := He.noat_ok (T.s.fact 95 rfl)
theorem Txt.na_BadTarget_why (T : Txt K mg) : NoAttr K (He.ga K "BadTarget") "why" := He.noat_ok (T.s.fact 96 rfl)
theorem Txt.me_Unlike_init (T : Txt K mg) : Meth K (He.ga K "Unlike") "__init__" (He.ma K (He.ga K "Unlike") "__init__") := He.meth_ok (T.s.fact 97 rfl)
theorem Txt.ex_Unlike_Unlike (T : Txt K mg) : PySem.W.exmOne K (.ref (He.ga K "Unlike")) (.ref (He.ga K "Unlike")) = some true := He.exm_ok (T.s.fact 98 rfl)
theorem Txt.na_Unlike_what (T : Txt K mg) : NoAttr K (He.ga K "Unlike") "what" := He.noat_ok (T.s.fact 99 rfl)
theorem Txt.me_NoValue_init (T : Txt K mg) : Meth K (He.ga K "NoValue") "__init__" (He.ma K (He.ga K "NoValue") "__init__") := He.meth_ok (T.s.fact 100 rfl)
theorem Txt.ex_NoValue_NoValue (T : Txt K mg) : PySem.W.exmOne K (.ref (He.ga K "NoValue")) (.ref (He.ga K "NoValue")) = some true := He.exm_ok (T.s.fact 101 rfl)
theorem Txt.na_NoValue_spot (T : Txt K mg) : NoAttr K (He.ga K "NoValue") "spot" := He.noat_ok (T.s.fact 102 rfl)
theorem Txt.me_TooMany_init (T : Txt K mg) : Meth K (He.ga K "TooMany") "__init__" (He.ma K (He.ga K "TooMany") "__init__") := He.meth_ok (T.s.fact 103 rfl)
theorem Txt.ex_TooMany_TooMany (T : Txt K mg) : PySem.W.exmOne K (.ref (He.ga K "TooMany")) (.ref (He.ga K "TooMany")) = some true := He.exm_ok (T.s.fact 104 rfl)
theorem Txt.na_TooMany_what (T : Txt K mg) : NoAttr K (He.ga K "TooMany") "what" := He.noat_ok (T.s.fact 105 rfl)
theorem Txt.na_TooMany_limit (T : Txt K mg) : NoAttr K (He.ga K "TooMany") "limit" := He.noat_ok (T.s.fact 106 rfl)
end
end K82Head
set_option Elab.async false
set_option linter.all false
set_option maxRecDepth 100000
/-! K82M: the numbers of k82, plain: a pair of ints as a Rat -/
namespace K82
open PySem L2 Evl Dl
/-- the reduced pair -/
def dq (q : Rat) : D := .tup [.int q.num, .int (q.den : Int)]
/-- a pair as it stands -/
def dr (t b : Int) : D := .tup [.int t, .int b]
theorem dq_dr (q : Rat) : dq q = dr q.num (q.den : Int) := rfl
theorem dq_inj {p q : Rat} (h : dq p = dq q) : p = q := by
  unfold dq at h
  injection h with h
  injection h with h1 h2
  injection h2 with h2 _
  injection h1 with h1
  injection h2 with h2
  exact Rat.ext h1 (by omega)
theorem gcd_pos {t b : Int} (hb : b ≠ 0) : (0 : Int) < ((Nat.gcd t.natAbs b.natAbs : Nat) : Int) := by
  have : 0 < Nat.gcd t.natAbs b.natAbs := Nat.gcd_pos_of_pos_right _ (by omega)
  omega
theorem frac_pos {t b : Int} (hb : 0 < b) : D.tup [.int (t / ((Nat.gcd t.natAbs b.natAbs : Nat) : Int)), .int (b / ((Nat.gcd t.natAbs b.natAbs : Nat) : Int))] = dq (Rat.divInt t b) := by
  unfold dq
  rw [Rat.num_divInt, Rat.den_divInt, if_neg (by omega), Int.sign_eq_one_of_pos hb, Int.one_mul, Int.gcd, Nat.gcd_comm b.natAbs]
  have e : (((b.natAbs / Nat.gcd t.natAbs b.natAbs : Nat)) : Int) = b / ((Nat.gcd t.natAbs b.natAbs : Nat) : Int) := by
    rw [Int.natCast_ediv, Int.natAbs_of_nonneg (by omega)]
  rw [e]
theorem frac_neg {t b : Int} (hb : b < 0) : D.tup [.int (-t / ((Nat.gcd (-t).natAbs (-b).natAbs : Nat) : Int)), .int (-b / ((Nat.gcd (-t).natAbs (-b).natAbs : Nat) : Int))] = dq (Rat.divInt t b) := by
  rw [frac_pos (by omega), Rat.neg_divInt_neg]
theorem fdiv_neg {t g : Int} (h : g ∣ t) : t.fdiv (-g) = -t / g := by
  rw [Int.fdiv_eq_ediv_of_dvd (Int.neg_dvd.mpr h), Int.ediv_neg, Int.neg_ediv_of_dvd h]
theorem gcd_dl (t b : Int) : ((Nat.gcd t.natAbs b.natAbs : Nat) : Int) ∣ t := Int.ofNat_dvd_left.mpr (Nat.gcd_dvd_left _ _)
theorem gcd_dr (t b : Int) : ((Nat.gcd t.natAbs b.natAbs : Nat) : Int) ∣ b := Int.ofNat_dvd_left.mpr (Nat.gcd_dvd_right _ _)
theorem lfrac {t b : Int} (hb : b ≠ 0) : D.tup [.int (t.fdiv (if b < 0 then -((Nat.gcd t.natAbs b.natAbs : Nat) : Int) else ((Nat.gcd t.natAbs b.natAbs : Nat) : Int))), .int (b.fdiv (if b < 0 then -((Nat.gcd t.natAbs b.natAbs : Nat) : Int) else ((Nat.gcd t.natAbs b.natAbs : Nat) : Int)))] = dq (Rat.divInt t b) := by
  by_cases h : b < 0
  · rw [if_pos h, fdiv_neg (gcd_dl t b), fdiv_neg (gcd_dr t b), ← frac_neg h, Int.natAbs_neg, Int.natAbs_neg]
  · rw [if_neg h, Int.fdiv_eq_ediv_of_dvd (gcd_dl t b), Int.fdiv_eq_ediv_of_dvd (gcd_dr t b), ← frac_pos (by omega)]
/-! ### sizes -/
def Sz (k : Nat) (i : Int) : Prop := i.natAbs < 2 ^ k
theorem Sz.mono {k l : Nat} {i : Int} (h : Sz k i) (hl : k ≤ l) : Sz l i := Nat.lt_of_lt_of_le h (Nat.pow_le_pow_right (by decide) hl)
theorem Sz.mul {k l : Nat} {i j : Int} (h : Sz k i) (h' : Sz l j) : Sz (k + l) (i * j) := by
  unfold Sz at *
  rw [Int.natAbs_mul, Nat.pow_add]
  exact Nat.mul_lt_mul'' h h'
theorem Sz.add {k : Nat} {i j : Int} (h : Sz k i) (h' : Sz k j) : Sz (k + 1) (i + j) := by
  unfold Sz at *
  rw [Nat.pow_succ]
  omega
theorem Sz.sub {k : Nat} {i j : Int} (h : Sz k i) (h' : Sz k j) : Sz (k + 1) (i - j) := by
  unfold Sz at *
  rw [Nat.pow_succ]
  omega
theorem Sz.neg {k : Nat} {i : Int} (h : Sz k i) : Sz k (-i) := by
  unfold Sz at *
  omega
def Sq (k : Nat) (q : Rat) : Prop := Sz k q.num ∧ Sz k (q.den : Int)
theorem Sq.mono {k l : Nat} {q : Rat} (h : Sq k q) (hl : k ≤ l) : Sq l q := ⟨h.1.mono hl, h.2.mono hl⟩
theorem sq_div {k : Nat} {t b : Int} (hb : b ≠ 0) (ht : Sz k t) (hb2 : Sz k b) : Sq k (Rat.divInt t b) := by
  have e := Rat.num_divInt t b
  have e2 := Rat.den_divInt t b
  rw [if_neg hb] at e2
  constructor
  · unfold Sz
    rw [e]
    have : (b.sign * t / (b.gcd t : Int)).natAbs ≤ (b.sign * t).natAbs := by
      rw [Int.natAbs_ediv_of_dvd (Int.dvd_trans (Int.gcd_dvd_right ..) (Int.dvd_mul_left ..))]
      exact Nat.div_le_self _ _
    have h3 : (b.sign * t).natAbs = t.natAbs := by
      rw [Int.natAbs_mul, Int.natAbs_sign_of_ne_zero hb, Nat.one_mul]
    unfold Sz at ht
    omega
  · unfold Sz
    rw [e2, Int.natAbs_natCast]
    exact Nat.lt_of_le_of_lt (Nat.div_le_self _ _) hb2
theorem den_ne (q : Rat) : (q.den : Int) ≠ 0 := by
  have := q.den_nz
  omega
theorem den_pos (q : Rat) : (0 : Int) < (q.den : Int) := by
  have := q.den_nz
  omega
theorem q_eq (q : Rat) : Rat.divInt q.num (q.den : Int) = q := by
  rw [Rat.divInt_ofNat, Rat.mkRat_self]
theorem div_add {a b c d : Int} (hb : b ≠ 0) (hd : d ≠ 0) : Rat.divInt (a * d + c * b) (b * d) = Rat.divInt a b + Rat.divInt c d := (Rat.divInt_add_divInt _ _ hb hd).symm
theorem div_sub {a b c d : Int} (hb : b ≠ 0) (hd : d ≠ 0) : Rat.divInt (a * d - c * b) (b * d) = Rat.divInt a b - Rat.divInt c d := (Rat.divInt_sub_divInt _ _ hb hd).symm
theorem div_mul {a b c d : Int} : Rat.divInt (a * c) (b * d) = Rat.divInt a b * Rat.divInt c d := (Rat.divInt_mul_divInt _ _).symm
theorem div_div {a b c d : Int} : Rat.divInt (a * d) (b * c) = Rat.divInt a b / Rat.divInt c d := by
  rw [Rat.div_def, Rat.inv_divInt, Rat.divInt_mul_divInt]
theorem q_add (p q : Rat) : Rat.divInt (p.num * (q.den : Int) + q.num * (p.den : Int)) ((p.den : Int) * (q.den : Int)) = p + q := by
  rw [div_add (den_ne p) (den_ne q), q_eq, q_eq]
theorem q_sub (p q : Rat) : Rat.divInt (p.num * (q.den : Int) - q.num * (p.den : Int)) ((p.den : Int) * (q.den : Int)) = p - q := by
  rw [div_sub (den_ne p) (den_ne q), q_eq, q_eq]
theorem q_mul (p q : Rat) : Rat.divInt (p.num * q.num) ((p.den : Int) * (q.den : Int)) = p * q := by
  rw [div_mul, q_eq, q_eq]
theorem q_div (p q : Rat) : Rat.divInt (p.num * (q.den : Int)) ((p.den : Int) * q.num) = p / q := by
  rw [div_div, q_eq, q_eq]
theorem num_zero {t b : Int} (hb : b ≠ 0) : (Rat.divInt t b).num = 0 ↔ t = 0 := by
  rw [Rat.num_eq_zero]
  have z : (0 : Rat) = Rat.divInt 0 1 := by rw [Rat.zero_divInt]
  rw [z, Rat.divInt_eq_divInt_iff hb (by decide)]
  omega
end K82
set_option Elab.async false
set_option linter.all false
set_option maxRecDepth 100000
set_option maxHeartbeats 2000000
namespace K82
open PySem PySem.Spec PyProof.Rows L2 Evl Dl K82Head
local macro_rules | `(tactic| walk_at "ed") => `(tactic| first
  | exact ed_var rfl | exact ed_int | exact ed_str | exact ed_bl | exact ed_non | exact eda_nil | exact edo_none
  | exact od_add | exact od_sub | exact od_lt | exact od_le | exact od_gt | exact od_ge | exact od_eqi | exact od_nei | exact od_eqs | exact od_nes | exact od_isN | exact od_notN | exact cd_int | exact cd_abs | exact cd_max2 | exact cd_gcd
  | ((with_reducible apply eda_cons) <;> walk_at "ed") | ((with_reducible apply ed_op) <;> walk_at "ed") | ((with_reducible apply ed_cb) <;> walk_at "ed") | ((with_reducible apply eb_test) <;> walk_at "ed") | ((with_reducible apply eb_tru) <;> walk_at "ed") | ((with_reducible apply ed_tup) <;> walk_at "ed")
  | ((with_reducible apply ed_neg) <;> walk_at "ed") | ((with_reducible apply eb_not) <;> walk_at "ed") | ((with_reducible apply edl_lst) <;> walk_at "ed") | ((with_reducible apply edo_some) <;> walk_at "ed") | ((with_reducible apply ed_call) <;> walk_at "ed")
  | (apply od_mul; assumption) | (apply od_rem; omega) | (apply od_div <;> omega) | (apply od_ixT; rfl) | (apply od_ixL; rfl)
  | (with_reducible exact True.intro) | (simp; done) | skip)
section
variable {P : Program} {w : World} {K : PySem.W.Frag} {mg : Str → Option Value} {base : Heap}
/-! ### power -/
theorem sc_power : FnScope ["number", "exponent", "result", "square", "left"] ["number", "exponent"] (defScope s_power) := ⟨rfl, rfl, rfl, by decide +kernel, rfl, by decide +kernel, by decide +kernel⟩
def F_power (ds : List D) (d : D) : Prop := ∃ (a : Int) (n : Nat), ds = [.int a, .int n] ∧ 1 ≤ a ∧ a ≤ 1000 ∧ n ≤ 500 ∧ d = .int (a ^ n)
theorem pw_lt {a : Int} {n : Nat} (h1 : 1 ≤ a) (h2 : a ≤ 1000) (h : n ≤ 500) : (a ^ n).natAbs < 2 ^ 5000 := by
  rw [Int.natAbs_pow]
  have h3 : a.natAbs ≤ 1024 := by omega
  have h4 : a.natAbs ^ n ≤ 1024 ^ n := Nat.pow_le_pow_left h3 n
  have h5 : 1024 ^ n ≤ 1024 ^ 499 ∨ n = 500 := by
    by_cases e : n = 500
    · exact .inr e
    · exact .inl (Nat.pow_le_pow_right (by decide) (by omega))
  rcases h5 with h5 | h5
  · have h6 : (1024 : Nat) ^ 499 < 2 ^ 5000 := by
      rw [show (1024 : Nat) = 2 ^ 10 by decide, ← Nat.pow_mul]
      exact Nat.pow_lt_pow_right (by decide) (by decide)
    omega
  · have h7 : a.natAbs ^ n ≤ 1000 ^ n := Nat.pow_le_pow_left (by omega) n
    have h8 : (1000 : Nat) ^ 500 < 1024 ^ 500 := Nat.pow_lt_pow_left (by decide) (by decide)
    rw [h5] at h7 ⊢
    have h9 : (1024 : Nat) ^ 500 = 2 ^ 5000 := by rw [show (1024 : Nat) = 2 ^ 10 by decide, ← Nat.pow_mul]
    omega
theorem ok_power (T : Txt K mg) : Cal P w K mg base "power" 1 (psp F_power) := by
  refine psp_mk T.d_power T.g_power sc_power (fun _ _ _ _ _ _ us hl => match us, hl with | [_, _], _ => rfl) (fun ds d ⟨a, n, e, _⟩ => by rw [e] <;> rfl) (fun cdv A outer s H E hr => ⟨_, (pss_cons (ps_par3 (i := 2) (j := 3) (l := 4) (by rfl) sc_power.nd rfl rfl rfl (by decide) (by decide) (by decide) rfl rfl rfl (pa_cons pe_int (pa_cons (pv 0) (pa_cons (pv 1) pa_nil))) (by rfl))
    (pss_cons (ps_while PassesOwn.never (pt_cmpR op_gt (pv 4) pe_int (nomark _))
      (pss_cons (ps_if (pt_cmpR (op_eqK K hr.units) (pe_op op_modU (pv 4) pe_int) pe_int (nomark _))
          (pss_one (ps_set (i := 2) sc_power.nd rfl (Or.inl rfl) (pe_op (op_mulK K) (pv 2) (pv 3))))
          pss_nil)
        (pss_cons (ps_set (i := 4) sc_power.nd rfl (Or.inl rfl) (pe_op op_fdivU (pv 4) pe_int))
        (pss_one (ps_if (pt_cmpR op_gt (pv 4) pe_int (nomark _))
          (pss_one (ps_set (i := 3) sc_power.nd rfl (Or.inl rfl) (pe_op (op_mulK K) (pv 3) (pv 3))))
          pss_nil)))))
    (pss_one (ps_ret (pv 2))))), ?_⟩)
  intro B0 H0 ds d h
  obtain ⟨a, n, rfl, h1, h2, h3, rfl⟩ := h
  have hb := pw_lt h1 h2 h3
  have pp : ∀ (x : Int) (k : Nat), 1 ≤ x → 1 ≤ x ^ k := fun x k hx => Int.pow_pos (by omega)
  show SS triv B0 H0 _ [.dat (.int a), .dat (.int n), .no, .no, .no] _ _ _ _
  refine ss_seq (ssd_par3 (x := .int 1) (y := .int a) (z := .int n) (by walk_at "ed") ?_)
  refine ss_seq (ssd_while (fun m Γ => ∃ (r s : Int) (l : Nat), Γ = [.dat (.int a), .dat (.int n), .dat (.int r), .dat (.int s), .dat (.int l)] ∧ m = l ∧ r * s ^ l = a ^ n ∧ 1 ≤ r ∧ 1 ≤ s) ⟨n, 1, a, n, rfl, rfl, by simp, by omega, h1⟩ ?_)
  rintro m Γ ⟨r, s, l, rfl, rfl, e, hr1, hs1⟩
  refine ⟨_, by walk_at "ed", fun hl => ?_, fun hl => ?_⟩
  · have hl : 0 < m := by simpa using hl
    have hs2 : 1 ≤ s ^ (m - 1) := pp s _ hs1
    have es : s ^ m = s ^ (m - 1) * s := by rw [← Int.pow_succ, show (m - 1).succ = m by omega]
    have hrs : r * s ≤ a ^ n := by
      rw [← e, es]
      have : r * s * 1 ≤ r * s * s ^ (m - 1) := Int.mul_le_mul_of_nonneg_left hs2 (Int.mul_nonneg (by omega) (by omega))
      rw [Int.mul_comm (s ^ (m - 1)) s, ← Int.mul_assoc]
      omega
    have b1 : r ≤ r * s := by
      have : r * 1 ≤ r * s := Int.mul_le_mul_of_nonneg_left hs1 (by omega)
      omega
    have b2 : s ≤ r * s := by
      have : 1 * s ≤ r * s := Int.mul_le_mul_of_nonneg_right hr1 (by omega)
      omega
    have w1 : r.natAbs < 2 ^ 5000 := by omega
    have w2 : s.natAbs < 2 ^ 5000 := by omega
    have go : ∀ r' : Int, r' * (s * s) ^ (m / 2) = a ^ n → 1 ≤ r' → SS triv B0 H0 (tSeq (tAsg (tOp rFdivU (tVar 4) (tC (.int 2))) (gName 4)) (tIfS (tTest (tOp (rI0 fun i j => .bl (decide (j < i))) (tVar 4) (tC (.int 0)))) (tAsg (tOp (rMulU K) (tVar 3) (tVar 3)) (gName 3)) tNext))
        [.dat (.int a), .dat (.int n), .dat (.int r'), .dat (.int s), .dat (.int m)] (fun G => ∃ m', m' < m ∧ ∃ (r s : Int) (l : Nat), G = [.dat (.int a), .dat (.int n), .dat (.int r), .dat (.int s), .dat (.int l)] ∧ m' = l ∧ r * s ^ l = a ^ n ∧ 1 ≤ r ∧ 1 ≤ s) (fun x => x = .int (a ^ n))
        (fun Γ' => SS triv B0 H0 (tRet (tVar 2)) Γ' (fun x => D.int (a ^ n) = D.non) (fun x => x = D.int (a ^ n)) (fun x => False) fun x => False)
        (fun G => ∃ m', m' < m ∧ ∃ (r s : Int) (l : Nat), G = [.dat (.int a), .dat (.int n), .dat (.int r), .dat (.int s), .dat (.int l)] ∧ m' = l ∧ r * s ^ l = a ^ n ∧ 1 ≤ r ∧ 1 ≤ s) := fun r' e' hr' => by
      refine ss_seq (ssd_asg (d := .int ((m / 2 : Nat) : Int)) (by walk_at "ed") ?_)
      refine ssd_if (by walk_at "ed") (fun h2 => ?_) (fun h2 => ?_)
      · refine ssd_asg (d := .int (s * s)) (ed_op (ed_var rfl) (ed_var rfl) (od_mul (wide_mul w2 w2 (by decide) (by decide) (by decide)))) ?_
        exact ⟨m / 2, by omega, r', s * s, m / 2, rfl, rfl, e', hr', by have := Int.mul_pos (a := s) (b := s) (by omega) (by omega); omega⟩
      · have h0 : m / 2 = 0 := by
          have : ¬ (0 : Int) < ((m / 2 : Nat) : Int) := by simpa using h2
          omega
        refine ss_next ⟨m / 2, by omega, r', s, m / 2, rfl, rfl, ?_, hr', hs1⟩
        rw [h0] at e' ⊢
        simpa using e'
    have sq : ∀ k : Nat, (s * s) ^ k = s ^ (2 * k) := fun k => by rw [Int.pow_mul, Int.pow_succ, Int.pow_succ, Int.pow_zero, Int.one_mul]
    refine ss_seq (ssd_if (by walk_at "ed") (fun hodd => ?_) (fun hodd => ?_))
    · have ho : m % 2 = 1 := by
        have : (m : Int) % 2 = 1 := by simpa using hodd
        omega
      refine ssd_asg (d := .int (r * s)) (ed_op (ed_var rfl) (ed_var rfl) (od_mul (wide_mul w1 w2 (by decide) (by decide) (by decide)))) ?_
      refine go (r * s) ?_ (by omega)
      rw [sq, ← e, Int.mul_assoc, ← Int.pow_succ', show 2 * (m / 2) + 1 = m by omega]
    · have ho : m % 2 = 0 := by
        have : ¬ (m : Int) % 2 = 1 := by simpa using hodd
        omega
      refine ss_next (go r ?_ hr1)
      rw [sq, ← e, show 2 * (m / 2) = m by omega]
  · have hl : m = 0 := by simpa using hl
    subst hl
    refine ssd_ret (by walk_at "ed") ?_
    rw [← e]
    simp
end
end K82
set_option Elab.async false
set_option linter.all false
set_option maxRecDepth 100000
set_option maxHeartbeats 2000000
namespace K82
open PySem PySem.Spec PyProof.Rows L2 Evl Dl K82Head
local macro_rules | `(tactic| walk_at "ed") => `(tactic| first
  | exact ed_var rfl | exact ed_int | exact ed_str | exact ed_bl | exact ed_non | exact eda_nil | exact edo_none
  | exact od_add | exact od_sub | exact od_lt | exact od_le | exact od_gt | exact od_ge | exact od_eqi | exact od_nei | exact od_eqs | exact od_nes | exact od_isN | exact od_notN | exact cd_int | exact cd_abs | exact cd_max2 | exact cd_gcd
  | ((with_reducible apply eda_cons) <;> walk_at "ed") | ((with_reducible apply ed_op) <;> walk_at "ed") | ((with_reducible apply ed_cb) <;> walk_at "ed") | ((with_reducible apply eb_test) <;> walk_at "ed") | ((with_reducible apply eb_tru) <;> walk_at "ed") | ((with_reducible apply ed_tup) <;> walk_at "ed")
  | ((with_reducible apply ed_neg) <;> walk_at "ed") | ((with_reducible apply eb_not) <;> walk_at "ed") | ((with_reducible apply edl_lst) <;> walk_at "ed") | ((with_reducible apply edo_some) <;> walk_at "ed") | ((with_reducible apply ed_call) <;> walk_at "ed")
  | (apply od_mul; assumption) | (apply od_rem; omega) | (apply od_div <;> omega) | (apply od_ixT; rfl) | (apply od_ixL; rfl)
  | (with_reducible exact True.intro) | (simp; done) | skip)
theorem _root_.K82Head.Txt.m_gcd {K : PySem.W.Frag} {mg : Str → Option Value} (T : Txt K mg) : mg "gcd" = some (.builtin "math.gcd") := by
  obtain ⟨h, X, G⟩ := T.h
  have e : ex0 K = true := (He.ba T.x).1
  unfold ex0 at e
  exact PySem.W.mg_of X G (He.eqO_ok (He.ba (He.ba (He.ba (He.ba (He.ba (He.ba e).1).1).1).1).1).1)
theorem _root_.K82Head.Txt.m_isqrt {K : PySem.W.Frag} {mg : Str → Option Value} (T : Txt K mg) : mg "isqrt" = some (.builtin "math.isqrt") := by
  obtain ⟨h, X, G⟩ := T.h
  have e : ex0 K = true := (He.ba T.x).1
  unfold ex0 at e
  exact PySem.W.mg_of X G (He.eqO_ok (He.ba (He.ba (He.ba (He.ba (He.ba (He.ba e).1).1).1).1).1).2)
theorem od_mulZ {R : Reg} {K : PySem.W.Frag} {i j : Int} {k l : Nat} (hi : Sz k i) (hj : Sz l j) (h0 : k + l + 2 ≤ 900000) : OpD R (rMulU K) (.int i) (.int j) (.int (i * j)) :=
  od_mul (wide_mul (hi.mono (Nat.le_succ k)) (hj.mono (Nat.le_succ l)) (by omega) (by omega) (by omega))
theorem od_fdivZ {R : Reg} {i j : Int} {k : Nat} (h0 : j ≠ 0) (hj : Sz k j) (h : k ≤ 8000) : OpD R rFdivU (.int i) (.int j) (.int (i.fdiv j)) := od_fdiv ⟨h0, by
  have h2 := (Nat.log2_lt (by omega : j.natAbs ≠ 0)).mpr hj
  omega⟩
theorem od_divZ {R : Reg} {i j : Int} {k : Nat} (h0 : 0 < j) (hj : Sz k j) (h : k ≤ 8000) : OpD R rFdivU (.int i) (.int j) (.int (i / j)) := by
  rw [← Int.fdiv_eq_ediv_of_nonneg i (by omega : 0 ≤ j)]
  exact od_fdivZ (by omega) hj h
section
variable {P : Program} {w : World} {K : PySem.W.Frag} {mg : Str → Option Value} {base : Heap}
/-! ### fraction -/
theorem sc_fraction : FnScope ["top", "bottom", "common"] ["top", "bottom"] (defScope s_fraction) := ⟨rfl, rfl, rfl, by decide +kernel, rfl, by decide +kernel, by decide +kernel⟩
def F_fraction (ds : List D) (d : D) : Prop := ∃ (t b : Int), ds = [.int t, .int b] ∧ b ≠ 0 ∧ Sz 8000 b ∧ d = dq (Rat.divInt t b)
theorem ok_fraction (T : Txt K mg) : Cal P w K mg base "fraction" 1 (psp F_fraction) := by
  refine psp_mk T.d_fraction T.g_fraction sc_fraction (fun _ _ _ _ _ _ us hl => match us, hl with | [_, _], _ => rfl) (fun ds d ⟨a, n, e, _⟩ => by rw [e] <;> rfl) (fun cdv A outer s H E hr => ⟨_, (pss_cons (ps_if (pt_cmpR (op_eqK K hr.units) (pv 1) pe_int (nomark _))
      (pss_one ps_never)
      pss_nil)
    (pss_cons (ps_if (pt_cmpR op_lt (pv 1) pe_int (nomark _))
      (pss_one (ps_par (i := 0) (j := 1) (by rfl) sc_fraction.nd rfl rfl (by decide) rfl rfl (pa_cons (pe_un un_neg (pv 0)) (pa_cons (pe_un un_neg (pv 1)) pa_nil)) (by rfl)))
      pss_nil)
    (pss_cons (ps_set (i := 2) sc_fraction.nd rfl (Or.inl rfl) (pe_callBfun cr_gcd rfl T.m_gcd (pa_cons (pv 0) (pa_cons (pv 1) pa_nil))))
    (pss_one (ps_ret (pe_tup (pa_cons (pe_op op_fdivU (pv 0) (pv 2)) (pa_cons (pe_op op_fdivU (pv 1) (pv 2)) pa_nil)))))))), ?_⟩)
  intro B0 H0 ds d h
  obtain ⟨t, b, rfl, h1, h2, rfl⟩ := h
  show SS triv B0 H0 _ [.dat (.int t), .dat (.int b), .no] _ _ _ _
  refine ss_seq (ssd_if (by walk_at "ed") (fun h => absurd (by simpa using h) h1) (fun _ => ss_next ?_))
  have fin : ∀ (t' b' : Int), 0 < b' → Sz 8000 b' → D.tup [.int (t' / ((Nat.gcd t'.natAbs b'.natAbs : Nat) : Int)), .int (b' / ((Nat.gcd t'.natAbs b'.natAbs : Nat) : Int))] = dq (Rat.divInt t b) → Sz 8000 ((Nat.gcd t'.natAbs b'.natAbs : Nat) : Int) := fun t' b' hb hs _ => by
    unfold Sz at *
    have := Nat.gcd_le_right t'.natAbs (n := b'.natAbs) (by omega)
    omega
  by_cases hb : b < 0
  · have e := frac_neg (t := t) hb
    have hg := fin (-t) (-b) (by omega) h2.neg e
    have hp := gcd_pos (t := -t) (b := -b) (by omega)
    refine ss_seq (ssd_if (by walk_at "ed") (fun _ => ?_) (fun h => absurd hb (by simpa using h)))
    refine ssd_par (x := .int (-t)) (y := .int (-b)) (by walk_at "ed") ?_
    refine ss_seq (ssd_asg (by walk_at "ed") ?_)
    refine ssd_ret (d := dq (Rat.divInt t b)) ?_ rfl
    rw [← e]
    exact ed_tup (eda_cons (ed_op (ed_var rfl) (ed_var rfl) (od_divZ hp hg (by decide))) (eda_cons (ed_op (ed_var rfl) (ed_var rfl) (od_divZ hp hg (by decide))) eda_nil))
  · have e := frac_pos (t := t) (b := b) (by omega)
    have hg := fin t b (by omega) h2 e
    have hp := gcd_pos (t := t) (b := b) (by omega)
    refine ss_seq (ssd_if (by walk_at "ed") (fun h => absurd (by simpa using h) hb) (fun h => ss_next ?_))
    refine ss_seq (ssd_asg (by walk_at "ed") ?_)
    refine ssd_ret (d := dq (Rat.divInt t b)) ?_ rfl
    rw [← e]
    exact ed_tup (eda_cons (ed_op (ed_var rfl) (ed_var rfl) (od_divZ hp hg (by decide))) (eda_cons (ed_op (ed_var rfl) (ed_var rfl) (od_divZ hp hg (by decide))) eda_nil))
/-! ### _law_gcd -/
theorem sc_law_gcd : FnScope ["a", "b", "step"] ["a", "b"] (defScope s_law_gcd) := ⟨rfl, rfl, rfl, by decide +kernel, rfl, by decide +kernel, by decide +kernel⟩
def F_law_gcd (ds : List D) (d : D) : Prop := ∃ (a b : Int), ds = [.int a, .int b] ∧ Sz 8000 a ∧ Sz 8000 b ∧ d = .int ((Nat.gcd a.natAbs b.natAbs : Nat) : Int)
theorem abs_nat (a : Int) : (if a < 0 then -a else a) = ((a.natAbs : Nat) : Int) := by
  split <;> omega
theorem gcd_turn {P0 a b i : Nat} (hb : 0 < b) (h : i = 0 ∧ a * b ≤ P0 ∨ 0 < i ∧ b < a ∧ a * b * 2 ^ (i - 1) ≤ P0) : b * (a % b) * 2 ^ i ≤ P0 := by
  have hm : a % b < b := Nat.mod_lt _ hb
  rcases h with ⟨hi, h⟩ | ⟨hi, hl, h⟩
  · rw [hi, Nat.pow_zero, Nat.mul_one, Nat.mul_comm]
    exact Nat.le_trans (Nat.mul_le_mul_right b (Nat.mod_le a b)) h
  · have h2 : 2 * (a % b) ≤ a := by
      have hd := Nat.div_add_mod a b
      have : 1 ≤ a / b := Nat.div_pos (by omega) hb
      have h3 : b * 1 ≤ b * (a / b) := Nat.mul_le_mul_left b this
      omega
    have e : b * (a % b) * 2 ^ i = b * (2 * (a % b)) * 2 ^ (i - 1) := by
      have : (2 : Nat) ^ i = 2 ^ (i - 1) * 2 := by rw [← Nat.pow_succ, show (i - 1).succ = i by omega]
      rw [this]
      simp only [Nat.mul_comm, Nat.mul_left_comm, Nat.mul_assoc]
    rw [e]
    refine Nat.le_trans (Nat.mul_le_mul_right _ ?_) h
    rw [Nat.mul_comm a b]
    exact Nat.mul_le_mul_left b h2
theorem ok_law_gcd (T : Txt K mg) : Cal P w K mg base "_law_gcd" 1 (psp F_law_gcd) := by
  refine psp_mk T.d_law_gcd T.g_law_gcd sc_law_gcd (fun _ _ _ _ _ _ us hl => match us, hl with | [_, _], _ => rfl) (fun ds d ⟨a, n, e, _⟩ => by rw [e] <;> rfl) (fun cdv A outer s H E hr => ⟨_, (pss_cons (ps_par (i := 0) (j := 1) (by rfl) sc_law_gcd.nd rfl rfl (by decide) rfl rfl (pa_cons (pe_callB call_abs (by rfl) T.b_abs (by decide +kernel) (pa_cons (pv 0) pa_nil)) (pa_cons (pe_callB call_abs (by rfl) T.b_abs (by decide +kernel) (pa_cons (pv 1) pa_nil)) pa_nil)) (by rfl))
    (pss_cons (ps_for PassesOwn.never rfl (pi_range1 (by rfl) T.b_range (pa_cons pe_int pa_nil)) (pg_name (i := 2) sc_law_gcd.nd rfl (Or.inl rfl))
      (pss_cons (ps_if (pt_cmpR (op_eqK K hr.units) (pv 1) pe_int (nomark _))
          (pss_one ps_break)
          pss_nil)
        (pss_one (ps_par (i := 0) (j := 1) (by rfl) sc_law_gcd.nd rfl rfl (by decide) rfl rfl (pa_cons (pv 1) (pa_cons (pe_op op_modU (pe_callTy call_int1 (by rfl) T.b_int (by decide +kernel) (pa_cons (pv 0) pa_nil)) (pv 1)) pa_nil)) (by rfl)))))
    (pss_one (ps_ret (pv 0))))), ?_⟩)
  intro B0 H0 ds d h
  obtain ⟨a, b, rfl, h1, h2, rfl⟩ := h
  show SS triv B0 H0 _ [.dat (.int a), .dat (.int b), .no] _ _ _ _
  refine ss_seq (ssd_par (x := .int ((a.natAbs : Nat) : Int)) (y := .int ((b.natAbs : Nat) : Int)) (by rw [← abs_nat, ← abs_nat]; walk_at "ed") ?_)
  refine ss_seq (ssd_for (xs := rngD 0 100000) (P := fun i Γ => ∃ (x y : Nat) (s : Sl), Γ = [.dat (.int x), .dat (.int y), s] ∧ Nat.gcd x y = Nat.gcd a.natAbs b.natAbs ∧ (y = 0 ∨ i = 0 ∧ x * y ≤ a.natAbs * b.natAbs ∨ 0 < i ∧ y < x ∧ x * y * 2 ^ (i - 1) ≤ a.natAbs * b.natAbs)) (wid_rng1 (n := 100000) (by walk_at "ed") (by decide) (by decide)) ⟨_, _, _, rfl, rfl, .inr (.inl ⟨rfl, Nat.le_refl _⟩)⟩ ?_ ?_)
  · rintro i x Γ hx ⟨p, q, s, rfl, hg, hq⟩
    refine ⟨_, gs_name, ?_⟩
    show SS triv B0 H0 _ [.dat (.int p), .dat (.int q), .dat x] _ _ _ _
    refine ss_seq (ssd_if (by walk_at "ed") (fun h => ?_) (fun h => ?_))
    · have hz : q = 0 := by simpa using h
      refine ss_break ?_
      refine ssd_ret (d := .int p) (by walk_at "ed") ?_
      rw [← hg, hz, Nat.gcd_zero_right]
    · have hz : 0 < q := by
        have : ¬ q = 0 := by simpa using h
        omega
      refine ss_next ?_
      refine ssd_par (x := .int q) (y := .int ((p % q : Nat) : Int)) ?_ ?_
      · exact eda_cons (ed_var rfl) (eda_cons (by rw [Int.natCast_emod]; exact ed_op (by walk_at "ed") (ed_var rfl) (od_rem (by omega))) eda_nil)
      · refine ⟨q, p % q, _, rfl, ?_, ?_⟩
        · rw [← hg, Nat.gcd_comm p q, Nat.gcd_rec q p, Nat.gcd_comm]
        · by_cases hm : p % q = 0
          · exact .inl hm
          · exact .inr (.inr ⟨by omega, Nat.mod_lt _ hz, gcd_turn hz (hq.resolve_left (by omega))⟩)
  · rintro Γ ⟨p, q, s, rfl, hg, hq⟩
    have hz : q = 0 := by
      rcases hq with h | ⟨h, _⟩ | ⟨_, hl, h⟩
      · exact h
      · rw [rngD_len] at h
        cases h
      · rw [rngD_len] at h
        by_cases hz : q = 0
        · exact hz
        · have h3 : 1 ≤ p * q := Nat.mul_pos (by omega) (by omega)
          have h4 : 2 ^ 99999 ≤ a.natAbs * b.natAbs := by
            refine Nat.le_trans ?_ h
            rw [show 100000 - 1 = 99999 by decide]
            exact Nat.le_mul_of_pos_left _ h3
          have h5 : a.natAbs * b.natAbs < 2 ^ (8000 + 8000) := by
            rw [Nat.pow_add]
            exact Nat.mul_lt_mul'' h1 h2
          have h6 : (2 : Nat) ^ (8000 + 8000) ≤ 2 ^ 99999 := Nat.pow_le_pow_right (by decide) (by decide)
          exact absurd (Nat.lt_of_lt_of_le h5 h6) (Nat.not_lt.mpr h4)
    refine ssd_ret (d := .int p) (by walk_at "ed") ?_
    rw [← hg, hz, Nat.gcd_zero_right]
/-! ### _law_frac -/
theorem sc_law_frac : FnScope ["top", "bottom", "d"] ["top", "bottom"] (defScope s_law_frac) := ⟨rfl, rfl, rfl, by decide +kernel, rfl, by decide +kernel, by decide +kernel⟩
def F_law_frac (ds : List D) (d : D) : Prop := ∃ (t b : Int), ds = [.int t, .int b] ∧ b ≠ 0 ∧ Sz 8000 t ∧ Sz 8000 b ∧ d = dq (Rat.divInt t b)
theorem ok_law_frac (T : Txt K mg) : Cal P w K mg base "_law_frac" 2 (psp F_law_frac) := by
  have c_law_gcd := ok_law_gcd (P := P) (w := w) (base := base) T
  refine psp_mk T.d_law_frac T.g_law_frac sc_law_frac (fun _ _ _ _ _ _ us hl => match us, hl with | [_, _], _ => rfl) (fun ds d ⟨a, n, e, _⟩ => by rw [e] <;> rfl) (fun cdv A outer s H E hr => ⟨_, (pss_cons (ps_set (i := 2) sc_law_frac.nd rfl (Or.inl rfl) (pe_cal c_law_gcd (hr.mono (by decide)) rfl (pa_cons (pv 0) (pa_cons (pv 1) pa_nil))))
    (pss_cons (ps_set (i := 2) sc_law_frac.nd rfl (Or.inl rfl) (pe_ifExp (pt_cmpR op_lt (pv 1) pe_int (nomark _)) (pe_un un_neg (pv 2)) (pv 2)))
    (pss_one (ps_ret (pe_tup (pa_cons (pe_op op_fdivU (pv 0) (pv 2)) (pa_cons (pe_op op_fdivU (pv 1) (pv 2)) pa_nil))))))), ?_⟩)
  intro B0 H0 ds d h
  obtain ⟨t, b, rfl, h0, h1, h2, rfl⟩ := h
  show SS triv B0 H0 _ [.dat (.int t), .dat (.int b), .no] _ _ _ _
  refine ss_seq (ssd_asg (ed_call (by walk_at "ed") ⟨t, b, rfl, h1, h2, rfl⟩) ?_)
  have hp := gcd_pos (t := t) h0
  have hg : Sz 8000 ((Nat.gcd t.natAbs b.natAbs : Nat) : Int) := by
    unfold Sz at *
    have := Nat.gcd_le_right t.natAbs (n := b.natAbs) (by omega)
    omega
  refine ss_seq (ssd_asg (d := .int (if b < 0 then -((Nat.gcd t.natAbs b.natAbs : Nat) : Int) else ((Nat.gcd t.natAbs b.natAbs : Nat) : Int))) ?_ ?_)
  · refine (ed_if (by walk_at "ed") (fun _ => ed_neg (ed_var rfl)) (fun _ => ed_var rfl)).is ?_
    by_cases hb : b < 0 <;> simp [hb]
  · rw [← lfrac h0]
    have q0 : (if b < 0 then -((Nat.gcd t.natAbs b.natAbs : Nat) : Int) else ((Nat.gcd t.natAbs b.natAbs : Nat) : Int)) ≠ 0 := by split <;> omega
    have q1 : Sz 8000 (if b < 0 then -((Nat.gcd t.natAbs b.natAbs : Nat) : Int) else ((Nat.gcd t.natAbs b.natAbs : Nat) : Int)) := by
      split
      · exact hg.neg
      · exact hg
    exact ssd_ret (ed_tup (eda_cons (ed_op (ed_var rfl) (ed_var rfl) (od_fdivZ q0 q1 (by decide))) (eda_cons (ed_op (ed_var rfl) (ed_var rfl) (od_fdivZ q0 q1 (by decide))) eda_nil))) rfl
end
end K82
set_option Elab.async false
set_option linter.all false
set_option maxRecDepth 100000
set_option maxHeartbeats 2000000
namespace K82
open PySem PySem.Spec PyProof.Rows L2 Evl Dl K82Head
local macro_rules | `(tactic| walk_at "ed") => `(tactic| first
  | exact ed_var rfl | exact ed_int | exact ed_str | exact ed_bl | exact ed_non | exact eda_nil | exact edo_none
  | exact od_add | exact od_sub | exact od_lt | exact od_le | exact od_gt | exact od_ge | exact od_eqi | exact od_nei | exact od_eqs | exact od_nes | exact od_isN | exact od_notN | exact cd_int | exact cd_abs | exact cd_max2 | exact cd_gcd
  | ((with_reducible apply eda_cons) <;> walk_at "ed") | ((with_reducible apply ed_op) <;> walk_at "ed") | ((with_reducible apply ed_cb) <;> walk_at "ed") | ((with_reducible apply eb_test) <;> walk_at "ed") | ((with_reducible apply eb_tru) <;> walk_at "ed") | ((with_reducible apply ed_tup) <;> walk_at "ed")
  | ((with_reducible apply ed_neg) <;> walk_at "ed") | ((with_reducible apply eb_not) <;> walk_at "ed") | ((with_reducible apply edl_lst) <;> walk_at "ed") | ((with_reducible apply edo_some) <;> walk_at "ed") | ((with_reducible apply ed_call) <;> walk_at "ed")
  | (apply od_mul; assumption) | (apply od_rem; omega) | (apply od_div <;> omega) | (apply od_ixT; rfl) | (apply od_ixL; rfl)
  | (with_reducible exact True.intro) | (simp; done) | skip)
theorem cm {i j : Int} {k l : Nat} (hi : Sz k i) (hj : Sz l j) (h0 : k + l + 2 ≤ 900000) : CMulW i j := wide_mul (hi.mono (Nat.le_succ k)) (hj.mono (Nat.le_succ l)) (by omega) (by omega) (by omega)
section
variable {P : Program} {w : World} {K : PySem.W.Frag} {mg : Str → Option Value} {base : Heap}
/-! ### one operation -/
def F_two (g : Rat → Rat → Rat) (ds : List D) (d : D) : Prop := ∃ p q : Rat, ds = [dq p, dq q] ∧ Sq 3000 p ∧ Sq 3000 q ∧ d = dq (g p q)
theorem sc_difference : FnScope ["one", "other"] ["one", "other"] (defScope s_difference) := ⟨rfl, rfl, rfl, by decide +kernel, rfl, by decide +kernel, by decide +kernel⟩
abbrev F_difference : List D → D → Prop := F_two fun p q => p - q
theorem ok_difference (T : Txt K mg) : Cal P w K mg base "difference" 2 (psp F_difference) := by
  have c_fraction := ok_fraction (P := P) (w := w) (base := base) T
  refine psp_mk T.d_difference T.g_difference sc_difference (fun _ _ _ _ _ _ us hl => match us, hl with | [_, _], _ => rfl) (fun ds d ⟨a, n, e, _⟩ => by rw [e] <;> rfl) (fun cdv A outer s H E hr => ⟨_, (pss_one (ps_ret (pe_cal c_fraction (hr.mono (by decide)) rfl (pa_cons (pe_op op_sub (pe_op (op_mulK K) (pe_ix (ix_seqK K) (pv 0) pe_int (fun _ _ => rfl)) (pe_ix (ix_seqK K) (pv 1) pe_int (fun _ _ => rfl))) (pe_op (op_mulK K) (pe_ix (ix_seqK K) (pv 1) pe_int (fun _ _ => rfl)) (pe_ix (ix_seqK K) (pv 0) pe_int (fun _ _ => rfl)))) (pa_cons (pe_op (op_mulK K) (pe_ix (ix_seqK K) (pv 0) pe_int (fun _ _ => rfl)) (pe_ix (ix_seqK K) (pv 1) pe_int (fun _ _ => rfl))) pa_nil))))), ?_⟩)
  intro B0 H0 ds d h
  obtain ⟨p, q, rfl, ⟨p1, p2⟩, ⟨q1, q2⟩, rfl⟩ := h
  show SS triv B0 H0 _ [.dat (.tup [.int p.num, .int p.den]), .dat (.tup [.int q.num, .int q.den])] _ _ _ _
  have m1 := cm p1 q2 (by decide)
  have m2 := cm q1 p2 (by decide)
  have m3 := cm p2 q2 (by decide)
  refine ssd_ret (ed_call (by walk_at "ed") ⟨_, _, rfl, Int.mul_ne_zero (den_ne p) (den_ne q), (p2.mul q2).mono (by decide), rfl⟩) ?_
  rw [q_sub]
theorem sc_law_add : FnScope ["one", "two"] ["one", "two"] (defScope s_law_add) := ⟨rfl, rfl, rfl, by decide +kernel, rfl, by decide +kernel, by decide +kernel⟩
abbrev F_law_add : List D → D → Prop := F_two fun p q => p + q
theorem ok_law_add (T : Txt K mg) : Cal P w K mg base "_law_add" 3 (psp F_law_add) := by
  have c_law_frac := ok_law_frac (P := P) (w := w) (base := base) T
  refine psp_mk T.d_law_add T.g_law_add sc_law_add (fun _ _ _ _ _ _ us hl => match us, hl with | [_, _], _ => rfl) (fun ds d ⟨a, n, e, _⟩ => by rw [e] <;> rfl) (fun cdv A outer s H E hr => ⟨_, (pss_one (ps_ret (pe_cal c_law_frac (hr.mono (by decide)) rfl (pa_cons (pe_op (op_addK K) (pe_op (op_mulK K) (pe_ix (ix_seqK K) (pv 0) pe_int (fun _ _ => rfl)) (pe_ix (ix_seqK K) (pv 1) pe_int (fun _ _ => rfl))) (pe_op (op_mulK K) (pe_ix (ix_seqK K) (pv 1) pe_int (fun _ _ => rfl)) (pe_ix (ix_seqK K) (pv 0) pe_int (fun _ _ => rfl)))) (pa_cons (pe_op (op_mulK K) (pe_ix (ix_seqK K) (pv 0) pe_int (fun _ _ => rfl)) (pe_ix (ix_seqK K) (pv 1) pe_int (fun _ _ => rfl))) pa_nil))))), ?_⟩)
  intro B0 H0 ds d h
  obtain ⟨p, q, rfl, ⟨p1, p2⟩, ⟨q1, q2⟩, rfl⟩ := h
  show SS triv B0 H0 _ [.dat (.tup [.int p.num, .int p.den]), .dat (.tup [.int q.num, .int q.den])] _ _ _ _
  have m1 := cm p1 q2 (by decide)
  have m2 := cm q1 p2 (by decide)
  have m3 := cm p2 q2 (by decide)
  refine ssd_ret (ed_call (by walk_at "ed") ⟨_, _, rfl, Int.mul_ne_zero (den_ne p) (den_ne q), ((p1.mul q2).add (q1.mul p2)).mono (by decide), (p2.mul q2).mono (by decide), rfl⟩) ?_
  rw [q_add]
theorem sc_law_sub : FnScope ["one", "two"] ["one", "two"] (defScope s_law_sub) := ⟨rfl, rfl, rfl, by decide +kernel, rfl, by decide +kernel, by decide +kernel⟩
abbrev F_law_sub : List D → D → Prop := F_two fun p q => p - q
theorem ok_law_sub (T : Txt K mg) : Cal P w K mg base "_law_sub" 3 (psp F_law_sub) := by
  have c_law_frac := ok_law_frac (P := P) (w := w) (base := base) T
  refine psp_mk T.d_law_sub T.g_law_sub sc_law_sub (fun _ _ _ _ _ _ us hl => match us, hl with | [_, _], _ => rfl) (fun ds d ⟨a, n, e, _⟩ => by rw [e] <;> rfl) (fun cdv A outer s H E hr => ⟨_, (pss_one (ps_ret (pe_cal c_law_frac (hr.mono (by decide)) rfl (pa_cons (pe_op op_sub (pe_op (op_mulK K) (pe_ix (ix_seqK K) (pv 0) pe_int (fun _ _ => rfl)) (pe_ix (ix_seqK K) (pv 1) pe_int (fun _ _ => rfl))) (pe_op (op_mulK K) (pe_ix (ix_seqK K) (pv 1) pe_int (fun _ _ => rfl)) (pe_ix (ix_seqK K) (pv 0) pe_int (fun _ _ => rfl)))) (pa_cons (pe_op (op_mulK K) (pe_ix (ix_seqK K) (pv 0) pe_int (fun _ _ => rfl)) (pe_ix (ix_seqK K) (pv 1) pe_int (fun _ _ => rfl))) pa_nil))))), ?_⟩)
  intro B0 H0 ds d h
  obtain ⟨p, q, rfl, ⟨p1, p2⟩, ⟨q1, q2⟩, rfl⟩ := h
  show SS triv B0 H0 _ [.dat (.tup [.int p.num, .int p.den]), .dat (.tup [.int q.num, .int q.den])] _ _ _ _
  have m1 := cm p1 q2 (by decide)
  have m2 := cm q1 p2 (by decide)
  have m3 := cm p2 q2 (by decide)
  refine ssd_ret (ed_call (by walk_at "ed") ⟨_, _, rfl, Int.mul_ne_zero (den_ne p) (den_ne q), ((p1.mul q2).sub (q1.mul p2)).mono (by decide), (p2.mul q2).mono (by decide), rfl⟩) ?_
  rw [q_sub]
theorem sc_law_mul : FnScope ["one", "two"] ["one", "two"] (defScope s_law_mul) := ⟨rfl, rfl, rfl, by decide +kernel, rfl, by decide +kernel, by decide +kernel⟩
abbrev F_law_mul : List D → D → Prop := F_two fun p q => p * q
theorem ok_law_mul (T : Txt K mg) : Cal P w K mg base "_law_mul" 3 (psp F_law_mul) := by
  have c_law_frac := ok_law_frac (P := P) (w := w) (base := base) T
  refine psp_mk T.d_law_mul T.g_law_mul sc_law_mul (fun _ _ _ _ _ _ us hl => match us, hl with | [_, _], _ => rfl) (fun ds d ⟨a, n, e, _⟩ => by rw [e] <;> rfl) (fun cdv A outer s H E hr => ⟨_, (pss_one (ps_ret (pe_cal c_law_frac (hr.mono (by decide)) rfl (pa_cons (pe_op (op_mulK K) (pe_ix (ix_seqK K) (pv 0) pe_int (fun _ _ => rfl)) (pe_ix (ix_seqK K) (pv 1) pe_int (fun _ _ => rfl))) (pa_cons (pe_op (op_mulK K) (pe_ix (ix_seqK K) (pv 0) pe_int (fun _ _ => rfl)) (pe_ix (ix_seqK K) (pv 1) pe_int (fun _ _ => rfl))) pa_nil))))), ?_⟩)
  intro B0 H0 ds d h
  obtain ⟨p, q, rfl, ⟨p1, p2⟩, ⟨q1, q2⟩, rfl⟩ := h
  show SS triv B0 H0 _ [.dat (.tup [.int p.num, .int p.den]), .dat (.tup [.int q.num, .int q.den])] _ _ _ _
  have m1 := cm p1 q1 (by decide)
  have m3 := cm p2 q2 (by decide)
  refine ssd_ret (ed_call (by walk_at "ed") ⟨_, _, rfl, Int.mul_ne_zero (den_ne p) (den_ne q), (p1.mul q1).mono (by decide), (p2.mul q2).mono (by decide), rfl⟩) ?_
  rw [q_mul]
/-! ### _joined -/
inductive Sg where
  | add | sub | mul | dvd
  deriving DecidableEq
def Sg.z : Sg → Str
  | .add => "+" | .sub => "-" | .mul => "*" | .dvd => "/"
/-- the raw pair -/
def joinP : Sg → Int × Int → Int × Int → Int × Int
  | .add, x, y => (x.1 * y.2 + y.1 * x.2, x.2 * y.2)
  | .sub, x, y => (x.1 * y.2 - y.1 * x.2, x.2 * y.2)
  | .mul, x, y => (x.1 * y.1, x.2 * y.2)
  | .dvd, x, y => (x.1 * y.2, x.2 * y.1)
def dp (x : Int × Int) : D := .tup [.int x.1, .int x.2]
theorem sc_joined : FnScope ["sign", "left", "right"] ["sign", "left", "right"] (defScope s_joined) := ⟨rfl, rfl, rfl, by decide +kernel, rfl, by decide +kernel, by decide +kernel⟩
def F_joined (ds : List D) (d : D) : Prop := ∃ (s : Sg) (x y : Int × Int), ds = [.str s.z, dp x, dp y] ∧ Sz 3000 x.1 ∧ Sz 3000 x.2 ∧ Sz 3000 y.1 ∧ Sz 3000 y.2 ∧ d = dp (joinP s x y)
theorem ok_joined (T : Txt K mg) : Cal P w K mg base "_joined" 1 (psp F_joined) := by
  refine psp_mk T.d_joined T.g_joined sc_joined (fun _ _ _ _ _ _ us hl => match us, hl with | [_, _, _], _ => rfl) (fun ds d ⟨a, n, y, e, _⟩ => by rw [e] <;> rfl) (fun cdv A outer s H E hr => ⟨_, (pss_cons (ps_if (pt_cmpR (op_eqK K hr.units) (pv 0) pe_str (nomark _))
      (pss_one (ps_ret (pe_tup (pa_cons (pe_op (op_addK K) (pe_op (op_mulK K) (pe_ix (ix_seqK K) (pv 1) pe_int (fun _ _ => rfl)) (pe_ix (ix_seqK K) (pv 2) pe_int (fun _ _ => rfl))) (pe_op (op_mulK K) (pe_ix (ix_seqK K) (pv 2) pe_int (fun _ _ => rfl)) (pe_ix (ix_seqK K) (pv 1) pe_int (fun _ _ => rfl)))) (pa_cons (pe_op (op_mulK K) (pe_ix (ix_seqK K) (pv 1) pe_int (fun _ _ => rfl)) (pe_ix (ix_seqK K) (pv 2) pe_int (fun _ _ => rfl))) pa_nil)))))
      pss_nil)
    (pss_cons (ps_if (pt_cmpR (op_eqK K hr.units) (pv 0) pe_str (nomark _))
      (pss_one (ps_ret (pe_tup (pa_cons (pe_op op_sub (pe_op (op_mulK K) (pe_ix (ix_seqK K) (pv 1) pe_int (fun _ _ => rfl)) (pe_ix (ix_seqK K) (pv 2) pe_int (fun _ _ => rfl))) (pe_op (op_mulK K) (pe_ix (ix_seqK K) (pv 2) pe_int (fun _ _ => rfl)) (pe_ix (ix_seqK K) (pv 1) pe_int (fun _ _ => rfl)))) (pa_cons (pe_op (op_mulK K) (pe_ix (ix_seqK K) (pv 1) pe_int (fun _ _ => rfl)) (pe_ix (ix_seqK K) (pv 2) pe_int (fun _ _ => rfl))) pa_nil)))))
      pss_nil)
    (pss_cons (ps_if (pt_cmpR (op_eqK K hr.units) (pv 0) pe_str (nomark _))
      (pss_one (ps_ret (pe_tup (pa_cons (pe_op (op_mulK K) (pe_ix (ix_seqK K) (pv 1) pe_int (fun _ _ => rfl)) (pe_ix (ix_seqK K) (pv 2) pe_int (fun _ _ => rfl))) (pa_cons (pe_op (op_mulK K) (pe_ix (ix_seqK K) (pv 1) pe_int (fun _ _ => rfl)) (pe_ix (ix_seqK K) (pv 2) pe_int (fun _ _ => rfl))) pa_nil)))))
      pss_nil)
    (pss_one (ps_ret (pe_tup (pa_cons (pe_op (op_mulK K) (pe_ix (ix_seqK K) (pv 1) pe_int (fun _ _ => rfl)) (pe_ix (ix_seqK K) (pv 2) pe_int (fun _ _ => rfl))) (pa_cons (pe_op (op_mulK K) (pe_ix (ix_seqK K) (pv 1) pe_int (fun _ _ => rfl)) (pe_ix (ix_seqK K) (pv 2) pe_int (fun _ _ => rfl))) pa_nil)))))))), ?_⟩)
  intro B0 H0 ds d h
  obtain ⟨s, ⟨a, b⟩, ⟨c, e⟩, rfl, h1, h2, h3, h4, rfl⟩ := h
  have h1 : Sz 3000 a := h1
  have h2 : Sz 3000 b := h2
  have h3 : Sz 3000 c := h3
  have h4 : Sz 3000 e := h4
  have m1 := cm h1 h4 (by decide)
  have m2 := cm h3 h2 (by decide)
  have m3 := cm h2 h4 (by decide)
  have m4 := cm h1 h3 (by decide)
  have m5 := cm h2 h3 (by decide)
  show SS triv B0 H0 _ [.dat (.str s.z), .dat (.tup [.int a, .int b]), .dat (.tup [.int c, .int e])] _ _ _ _
  cases s with
  | add =>
    refine ss_seq (ssd_ifT (EB.is (c := true) (by walk_at "ed") (by decide)) ?_)
    exact ssd_ret (by walk_at "ed") (by rfl)
  | sub =>
    refine ss_seq (ssd_ifF (EB.is (c := false) (by walk_at "ed") (by decide)) (ss_next ?_))
    refine ss_seq (ssd_ifT (EB.is (c := true) (by walk_at "ed") (by decide)) ?_)
    exact ssd_ret (by walk_at "ed") (by rfl)
  | mul =>
    refine ss_seq (ssd_ifF (EB.is (c := false) (by walk_at "ed") (by decide)) (ss_next ?_))
    refine ss_seq (ssd_ifF (EB.is (c := false) (by walk_at "ed") (by decide)) (ss_next ?_))
    refine ss_seq (ssd_ifT (EB.is (c := true) (by walk_at "ed") (by decide)) ?_)
    exact ssd_ret (by walk_at "ed") (by rfl)
  | dvd =>
    refine ss_seq (ssd_ifF (EB.is (c := false) (by walk_at "ed") (by decide)) (ss_next ?_))
    refine ss_seq (ssd_ifF (EB.is (c := false) (by walk_at "ed") (by decide)) (ss_next ?_))
    refine ss_seq (ssd_ifF (EB.is (c := false) (by walk_at "ed") (by decide)) (ss_next ?_))
    exact ssd_ret (by walk_at "ed") (by rfl)
/-! ### _law_power -/
theorem sc_law_power : FnScope ["base", "n", "found", "step"] ["base", "n"] (defScope s_law_power) := ⟨rfl, rfl, rfl, by decide +kernel, rfl, by decide +kernel, by decide +kernel⟩
def F_law_power (ds : List D) (d : D) : Prop := ∃ (a n : Nat), ds = [.int a, .int n] ∧ a ≤ 1000 ∧ n ≤ 500 ∧ d = .int ((a ^ n : Nat) : Int)
theorem ok_law_power (T : Txt K mg) : Cal P w K mg base "_law_power" 1 (psp F_law_power) := by
  refine psp_mk T.d_law_power T.g_law_power sc_law_power (fun _ _ _ _ _ _ us hl => match us, hl with | [_, _], _ => rfl) (fun ds d ⟨a, n, e, _⟩ => by rw [e] <;> rfl) (fun cdv A outer s H E hr => ⟨_, (pss_cons (ps_set (i := 2) sc_law_power.nd rfl (Or.inl rfl) pe_int)
    (pss_cons (ps_for PassesOwn.never rfl (pi_range1 (by rfl) T.b_range (pa_cons (pv 1) pa_nil)) (pg_name (i := 3) sc_law_power.nd rfl (Or.inl rfl))
      (pss_one (ps_set (i := 2) sc_law_power.nd rfl (Or.inl rfl) (pe_op (op_mulK K) (pv 2) (pv 0)))))
    (pss_one (ps_ret (pv 2))))), ?_⟩)
  intro B0 H0 ds d h
  obtain ⟨a, n, rfl, h1, h2, rfl⟩ := h
  show SS triv B0 H0 _ [.dat (.int a), .dat (.int n), .no, .no] _ _ _ _
  refine ss_seq (ssd_asg (by walk_at "ed") ?_)
  refine ss_seq (ssd_for (xs := rngD 0 n) (P := fun i Γ => ∃ s, Γ = [.dat (.int a), .dat (.int n), .dat (.int ((a ^ i : Nat) : Int)), s]) (wid_rng1 (n := (n : Int)) (by walk_at "ed") (by omega) (by omega)) ⟨_, rfl⟩ ?_ ?_)
  · rintro i x Γ hx ⟨s, rfl⟩
    have hi := (rngD_at hx).1
    refine ⟨_, gs_name, ?_⟩
    show SS triv B0 H0 _ [.dat (.int a), .dat (.int n), .dat (.int ((a ^ i : Nat) : Int)), .dat x] _ _ _ _
    have z1 : Sz 10 (a : Int) := by
      unfold Sz
      omega
    have z2 : Sz 5000 ((a ^ i : Nat) : Int) := by
      unfold Sz
      rw [Int.natAbs_natCast]
      have : a ^ i < (2 ^ 10) ^ 500 := by
        have h3 : a ^ i ≤ 1000 ^ i := Nat.pow_le_pow_left h1 i
        have h4 : 1000 ^ i ≤ 1000 ^ 500 := Nat.pow_le_pow_right (by decide) (by omega)
        have h5 : 1000 ^ 500 < (2 ^ 10) ^ 500 := Nat.pow_lt_pow_left (by decide) (by decide)
        omega
      rw [← Nat.pow_mul] at this
      exact this
    have m := cm z2 z1 (by decide)
    refine ssd_asg (by walk_at "ed") ⟨.dat x, ?_⟩
    rw [Nat.pow_succ, Int.natCast_mul]
    rfl
  · rintro Γ ⟨s, rfl⟩
    rw [rngD_len]
    exact ssd_ret (by walk_at "ed") rfl
/-! ### digits -/
def dig (b w a i : Nat) : Nat := if w = 1 then a else if i = 0 then a / b else a % b
theorem sc_digit_of : FnScope ["base", "width", "letter", "index"] ["base", "width", "letter", "index"] (defScope s_digit_of) := ⟨rfl, rfl, rfl, by decide +kernel, rfl, by decide +kernel, by decide +kernel⟩
def F_digit_of (ds : List D) (d : D) : Prop := ∃ b w a i : Nat, ds = [.int b, .int w, .int a, .int i] ∧ 0 < b ∧ b ≤ 1000 ∧ d = .int (dig b w a i)
theorem ok_digit_of (T : Txt K mg) : Cal P w K mg base "digit_of" 1 (psp F_digit_of) := by
  refine psp_mk T.d_digit_of T.g_digit_of sc_digit_of (fun _ _ _ _ _ _ us hl => match us, hl with | [_, _, _, _], _ => rfl) (fun ds d ⟨a, n, x, y, e, _⟩ => by rw [e] <;> rfl) (fun cdv A outer s H E hr => ⟨_, (pss_cons (ps_if (pt_cmpR (op_eqK K hr.units) (pv 1) pe_int (nomark _))
      (pss_one (ps_ret (pv 2)))
      pss_nil)
    (pss_one (ps_ret (pe_ifExp (pt_cmpR (op_eqK K hr.units) (pv 3) pe_int (nomark _)) (pe_op op_fdivU (pv 2) (pv 0)) (pe_op op_modU (pv 2) (pv 0)))))), ?_⟩)
  intro B0 H0 ds d h
  obtain ⟨b, u, a, i, rfl, h1, h2, rfl⟩ := h
  show SS triv B0 H0 _ [.dat (.int b), .dat (.int u), .dat (.int a), .dat (.int i)] _ _ _ _
  refine ss_seq (ssd_if (by walk_at "ed") (fun h => ?_) (fun h => ss_next ?_))
  · have hw : u = 1 := by
      have : (u : Int) = 1 := by simpa using h
      omega
    refine ssd_ret (by walk_at "ed") ?_
    unfold dig
    rw [if_pos hw]
  · have hw : ¬ u = 1 := by
      have : ¬ (u : Int) = 1 := by simpa using h
      omega
    refine ssd_ret (ed_if (by walk_at "ed") (fun _ => by walk_at "ed") (fun _ => by walk_at "ed")) ?_
    unfold dig
    rw [if_neg hw]
    by_cases hi : i = 0
    · simp [hi]
    · simp [hi]
theorem sc_digits_for : FnScope ["base", "width", "word", "index", "letter"] ["base", "width", "word", "index"] (defScope s_digits_for) := ⟨rfl, rfl, rfl, by decide +kernel, rfl, by decide +kernel, by decide +kernel⟩
def wd (l : List Nat) : D := .tup (l.map fun (a : Nat) => .int (a : Int))
def F_digits_for (ds : List D) (d : D) : Prop := ∃ (b w i : Nat) (l : List Nat), ds = [.int b, .int w, wd l, .int i] ∧ 0 < b ∧ b ≤ 1000 ∧ l.length ≤ 1000 ∧ d = .lst (l.map fun (a : Nat) => .int (dig b w a i : Int))
theorem ok_digits_for (T : Txt K mg) : Cal P w K mg base "digits_for" 2 (psp F_digits_for) := by
  have c_digit_of := ok_digit_of (P := P) (w := w) (base := base) T
  refine psp_mk T.d_digits_for T.g_digits_for sc_digits_for (fun _ _ _ _ _ _ us hl => match us, hl with | [_, _, _, _], _ => rfl) (fun ds d ⟨a, n, x, y, e, _⟩ => by rw [e] <;> rfl) (fun cdv A outer s H E hr => ⟨_, (pss_one (ps_ret (pe_lc (own := [("letter", 4)]) (g := gName 4) rfl sc_digits_for.nd  (pi_seqK K (pv 2)) (blkOk_by (N := ["base", "width", "word", "index", "letter"]) (sc := defScope s_digits_for) (by decide +kernel)) (fun _ _ _ _ _ => (pg_name (i := 4) sc_digits_for.nd rfl (Or.inl rfl))) (fun _ _ _ _ _ => pts_nil) (fun _ _ _ _ _ => (pe_cal c_digit_of (hr.mono (by decide)) rfl (pa_cons (pv 0) (pa_cons (pv 1) (pa_cons (pv 4) (pa_cons (pv 3) pa_nil))))))))), ?_⟩)
  intro B0 H0 ds d h
  obtain ⟨b, u, i, l, rfl, h1, h2, h3, rfl⟩ := h
  show SS triv B0 H0 _ [.dat (.int b), .dat (.int u), .dat (wd l), .dat (.int i), .no] _ _ _ _
  refine ssd_ret (ed_of_el (edl_map1 (xs := l) (fun (a : Nat) => .int (a : Int)) _ (wid_seq (.inr rfl) (ed_var rfl)) (by omega) fun a _ => ?_)) rfl
  exact ed_call (ds := [.int b, .int u, .int a, .int i]) (by walk_at "ed") ⟨b, u, a, i, rfl, h1, h2, rfl⟩
end
end K82
set_option Elab.async false
set_option linter.all false
set_option maxRecDepth 100000
set_option maxHeartbeats 2000000
namespace K82
open PySem PySem.Spec PyProof.Rows L2 Evl Dl K82Head
local macro_rules | `(tactic| walk_at "ed") => `(tactic| first
  | exact ed_var rfl | exact ed_int | exact ed_str | exact ed_bl | exact ed_non | exact eda_nil | exact edo_none
  | exact od_add | exact od_sub | exact od_lt | exact od_le | exact od_gt | exact od_ge | exact od_eqi | exact od_nei | exact od_eqs | exact od_nes | exact od_isN | exact od_notN | exact cd_int | exact cd_abs | exact cd_max2 | exact cd_gcd
  | ((with_reducible apply eda_cons) <;> walk_at "ed") | ((with_reducible apply ed_op) <;> walk_at "ed") | ((with_reducible apply ed_cb) <;> walk_at "ed") | ((with_reducible apply eb_test) <;> walk_at "ed") | ((with_reducible apply eb_tru) <;> walk_at "ed") | ((with_reducible apply ed_tup) <;> walk_at "ed")
  | ((with_reducible apply ed_neg) <;> walk_at "ed") | ((with_reducible apply eb_not) <;> walk_at "ed") | ((with_reducible apply edl_lst) <;> walk_at "ed") | ((with_reducible apply edo_some) <;> walk_at "ed") | ((with_reducible apply ed_call) <;> walk_at "ed")
  | (apply od_mul; assumption) | (apply od_rem; omega) | (apply od_div <;> omega) | (apply od_ixT; rfl) | (apply od_ixL; rfl)
  | (with_reducible exact True.intro) | (simp; done) | skip)
/-! ### Horner -/
def horF (u s : Nat) (l : List Nat) : Nat := l.foldl (fun s x => s * u + x) s
def hor (u : Nat) (l : List Nat) : Nat := horF u 0 l
def prs (u : Nat) : List Nat → List Nat
  | a :: b :: r => (a * u + b) :: prs u r
  | _ => []
theorem prs_len (u : Nat) : ∀ l : List Nat, (prs u l).length = l.length / 2
  | [] => rfl
  | [_] => by simp [prs]
  | _ :: _ :: r => by
    unfold prs
    rw [List.length_cons, prs_len u r, List.length_cons, List.length_cons]
    omega
theorem prs_hor (u : Nat) : ∀ (l : List Nat) (s : Nat), l.length % 2 = 0 → horF (u * u) s (prs u l) = horF u s l
  | [], s, _ => rfl
  | [_], s, h => by simp at h
  | a :: b :: r, s, h => by
    have h2 : r.length % 2 = 0 := by
      rw [List.length_cons, List.length_cons] at h
      omega
    have z := prs_hor u r (s * (u * u) + (a * u + b)) h2
    show horF (u * u) (s * (u * u) + (a * u + b)) (prs u r) = horF u ((s * u + a) * u + b) r
    rw [z]
    congr 1
    rw [Nat.add_mul, Nat.mul_assoc]
    omega
theorem prs_map (u : Nat) : ∀ l : List Nat, prs u l = (List.range (l.length / 2)).map fun i => l.getD (2 * i) 0 * u + l.getD (2 * i + 1) 0
  | [] => rfl
  | [_] => by simp [prs]
  | a :: b :: r => by
    unfold prs
    rw [prs_map u r, List.length_cons, List.length_cons, show (r.length + 1 + 1) / 2 = r.length / 2 + 1 by omega, List.range_succ_eq_map, List.map_cons, List.map_map]
    rfl
theorem prs_lt {u : Nat} : ∀ {l : List Nat}, (∀ x ∈ l, x < u) → ∀ x ∈ prs u l, x < u * u
  | [], _, x, hx => by cases hx
  | [_], _, x, hx => by cases hx
  | a :: b :: r, h, x, hx => by
    unfold prs at hx
    rcases List.mem_cons.mp hx with rfl | hx
    · have h1 := h a (by simp)
      have h2 := h b (by simp)
      have h3 : (a + 1) * u ≤ u * u := Nat.mul_le_mul_right u h1
      rw [Nat.add_mul] at h3
      omega
    · exact prs_lt (fun y hy => h y (by simp [hy])) x hx
theorem rg2 : ∀ m, m < 50 → RgC 0 ((2 * m : Nat) : Int) 2 m := by
  unfold RgC
  decide
theorem ints_at {l : List Nat} {i : Nat} (h : i < l.length) : L2.atI (l.map fun (a : Nat) => D.int (a : Int)) (i : Int) = some (.int (l.getD i 0 : Nat)) := by
  apply L2.atI_nat
  rw [List.getElem?_map, List.getElem?_eq_getElem h, List.getD_eq_getElem?_getD, List.getElem?_eq_getElem h]
  rfl
abbrev nl (l : List Nat) : List D := l.map fun (a : Nat) => D.int (a : Int)
section
variable {P : Program} {w : World} {K : PySem.W.Frag} {mg : Str → Option Value} {base : Heap}
/-! ### fold -/
theorem sc_fold : FnScope ["digits", "unit", "parts", "at"] ["digits", "unit"] (defScope s_fold) := ⟨rfl, rfl, rfl, by decide +kernel, rfl, by decide +kernel, by decide +kernel⟩
def F_fold (ds : List D) (d : D) : Prop := ∃ (l : List Nat) (u : Nat), ds = [.lst (nl l), .int u] ∧ u ≤ 1000 ∧ l.length ≤ 65 ∧ (∀ x ∈ l, x < u) ∧ d = .int (hor u l : Nat)
theorem ok_fold (T : Txt K mg) : Cal P w K mg base "fold" 1 (psp F_fold) := by
  refine psp_mk T.d_fold T.g_fold sc_fold (fun _ _ _ _ _ _ us hl => match us, hl with | [_, _], _ => rfl) (fun ds d ⟨a, n, e, _⟩ => by rw [e] <;> rfl) (fun cdv A outer s H E hr => ⟨_, (pss_cons (ps_set (i := 2) sc_fold.nd rfl (Or.inr rfl) (pe_callTy (call_listK K) (by rfl) T.b_list (by decide +kernel) (pa_cons (pv 0) pa_nil)))
    (pss_cons (ps_while PassesOwn.never (pt_cmpR op_gt (pe_callB (call_lenK K) (by rfl) T.b_len (by decide +kernel) (pa_cons (pv 2) pa_nil)) pe_int (nomark _))
      (pss_cons (ps_if (pt_cmpR (op_eqK K hr.units) (pe_op op_modU (pe_callB (call_lenK K) (by rfl) T.b_len (by decide +kernel) (pa_cons (pv 2) pa_nil)) pe_int) pe_int (nomark _))
          (pss_one (ps_set (i := 2) sc_fold.nd rfl (Or.inr rfl) (pe_lst (pa_cons pe_int (pa_starK K (pv 2) pa_nil)))))
          pss_nil)
        (pss_cons (ps_set (i := 2) sc_fold.nd rfl (Or.inr rfl) (pe_lc (own := [("at", 3)]) (g := gName 3) rfl sc_fold.nd  (pi_range3 (by rfl) T.b_range (pa_cons pe_int (pa_cons (pe_callB (call_lenK K) (by rfl) T.b_len (by decide +kernel) (pa_cons (pv 2) pa_nil)) (pa_cons pe_int pa_nil)))) (blkOk_by (N := ["digits", "unit", "parts", "at"]) (sc := defScope s_fold) (by decide +kernel)) (fun _ _ _ _ _ => (pg_name (i := 3) sc_fold.nd rfl (Or.inl rfl))) (fun _ _ _ _ _ => pts_nil) (fun _ _ _ _ _ => (pe_op (op_addK K) (pe_op (op_mulK K) (pe_ix (ix_seqK K) (pv 2) (pv 3) (fun _ _ => rfl)) (pv 1)) (pe_ix (ix_seqK K) (pv 2) (pe_op (op_addK K) (pv 3) pe_int) (fun _ _ => rfl))))))
        (pss_one (ps_if (pt_cmpR op_gt (pe_callB (call_lenK K) (by rfl) T.b_len (by decide +kernel) (pa_cons (pv 2) pa_nil)) pe_int (nomark _))
          (pss_one (ps_set (i := 1) sc_fold.nd rfl (Or.inr rfl) (pe_op (op_mulK K) (pv 1) (pv 1))))
          pss_nil)))))
    (pss_one (ps_ret (pe_ifExp (pt_truthK K (pv 2) (by intro _; rfl)) (pe_ix (ix_seqK K) (pv 2) pe_int (fun _ _ => rfl)) pe_int))))), ?_⟩)
  intro B0 H0 ds d h
  obtain ⟨l, u, rfl, h1, h2, h3, rfl⟩ := h
  show SS triv B0 H0 _ [.dat (.lst (nl l)), .dat (.int u), .no, .no] _ _ _ _
  refine ss_seq (ssd_asg (d := .lst (nl l)) (ed_of_el (ell_cb (by walk_at "ed") (cl_list (.inl rfl)))) ?_)
  refine ss_seq (ssd_while (fun m Γ => ∃ (q : List Nat) (v j : Nat) (s : Sl), Γ = [.dat (.lst (nl l)), .dat (.int v), .dat (.lst (nl q)), s] ∧ m = q.length ∧ hor v q = hor u l ∧ q.length ≤ 65 ∧ (q.length - 1) * 2 ^ j ≤ 64 ∧ Sz (10 * 2 ^ j) (v : Int) ∧ (1 < q.length → ∀ x ∈ q, x < v)) ?_ ?_)
  · refine ⟨l.length, l, u, 0, .no, rfl, rfl, rfl, h2, by omega, ?_, fun _ => h3⟩
    unfold Sz
    omega
  rintro m Γ ⟨q, v, j, s, rfl, rfl, e, hl, hj, hv, hq⟩
  have ln : ∀ q' : List Nat, lenD (.lst (nl q')) = some q'.length := fun q' => by
    show some _ = some _
    rw [List.length_map]
  refine ⟨_, eb_test (ed_op (ed_cb (by walk_at "ed") (cd_len (ln q) True.intro)) (by walk_at "ed") od_gt), fun hg => ?_, fun hg => ?_⟩
  · have hg : 1 < q.length := by
      have : (1 : Int) < q.length := by simpa using hg
      omega
    -- after the padding
    have go : ∀ (q' : List Nat) (s : Sl), q'.length % 2 = 0 → hor v q' = hor u l → q'.length ≤ q.length + 1 → 2 ≤ q'.length → (∀ x ∈ q', x < v) → ∀ N : List Sl → Prop, (∀ s, N [.dat (.lst (nl l)), .dat (.int v), .dat (.lst (nl (prs v q'))), s]) →
        ∀ (Rt : D → Prop) (Bk Ct : List Sl → Prop), SS triv B0 H0 (tAsg (tLc (iRng3 (tCons (tC (.int 0)) (tCons (tCB (fun xs H Q => ∃ x n, xs = [x] ∧ LenV K x H n ∧ Q (.int n) H) (tCons (tVar 2) tNil)) (tCons (tC (.int 2)) tNil)))) (gName 3) tYes (tOp (rAddU K) (tOp (rMulU K) (tOp (rIx K) (tVar 2) (tVar 3)) (tVar 1)) (tOp (rIx K) (tVar 2) (tOp (rAddU K) (tVar 3) (tC (.int 1))))) [3]) (gName 2)) [.dat (.lst (nl l)), .dat (.int v), .dat (.lst (nl q')), s] N Rt Bk Ct := by
      intro q' s he eh hl1 hl2 hq' N hN Rt Bk Ct
      have hlen : q'.length = 2 * (q'.length / 2) := by omega
      refine ssd_asg (d := .lst (nl (prs v q'))) (ed_of_el ?_) (hN s)
      rw [prs_map]
      unfold nl
      rw [List.map_map]
      refine edl_map1 (xs := List.range (q'.length / 2)) (fun (i : Nat) => .int (0 + (i : Int) * 2)) _ (wid_rng3 (lo := 0) (hi := (q'.length : Int)) (c := 2) (n := q'.length / 2) (eda_cons (by walk_at "ed") (eda_cons (ed_cb (by walk_at "ed") (cd_len (ln q') True.intro)) (eda_cons (by walk_at "ed") eda_nil))) ?_) ?_ ?_
      · have z := rg2 (q'.length / 2) (by omega)
        rw [← hlen] at z
        exact z
      · rw [List.length_range]
        omega
      · intro i hi
        have hi : i < q'.length / 2 := List.mem_range.mp hi
        have a1 : L2.atI (nl q') (0 + (i : Int) * 2) = some (.int (q'.getD (2 * i) 0 : Nat)) := by
          have z := ints_at (l := q') (i := 2 * i) (by omega)
          rw [show ((2 * i : Nat) : Int) = 0 + (i : Int) * 2 by omega] at z
          exact z
        have a2 : L2.atI (nl q') (0 + (i : Int) * 2 + 1) = some (.int (q'.getD (2 * i + 1) 0 : Nat)) := by
          have z := ints_at (l := q') (i := 2 * i + 1) (by omega)
          rw [show ((2 * i + 1 : Nat) : Int) = 0 + (i : Int) * 2 + 1 by omega] at z
          exact z
        have hx : q'.getD (2 * i) 0 < v := by
          rw [List.getD_eq_getElem?_getD, List.getElem?_eq_getElem (by omega)]
          exact hq' _ (List.getElem_mem _)
        have hx2 : Sz (10 * 2 ^ j) ((q'.getD (2 * i) 0 : Nat) : Int) := by
          unfold Sz at hv ⊢
          omega
        have hj2 : 2 ^ j ≤ 64 := by
          have : 1 * 2 ^ j ≤ (q.length - 1) * 2 ^ j := Nat.mul_le_mul_right _ (by omega)
          omega
        have m1 := cm hx2 hv (by omega)
        have z : ED triv (tOp (rAddU K) (tOp (rMulU K) (tOp (rIx K) (tVar 2) (tVar 3)) (tVar 1)) (tOp (rIx K) (tVar 2) (tOp (rAddU K) (tVar 3) (tC (.int 1))))) [.dat (.lst (nl l)), .dat (.int v), .dat (.lst (nl q')), .dat (.int (0 + (i : Int) * 2))] (.int (((q'.getD (2 * i) 0 : Nat) : Int) * (v : Int) + ((q'.getD (2 * i + 1) 0 : Nat) : Int))) :=
          ed_op (ed_op (ed_op (ed_var rfl) (ed_var rfl) (od_ixL a1)) (ed_var rfl) (od_mul m1)) (ed_op (ed_var rfl) (ed_op (ed_var rfl) ed_int od_add) (od_ixL a2)) od_add
        refine z.is ?_
        show D.int _ = D.int _
        rw [Int.natCast_add, Int.natCast_mul]
    have fin : ∀ (q' : List Nat) (s : Sl), q'.length % 2 = 0 → hor v q' = hor u l → q'.length ≤ q.length + 1 → 2 ≤ q'.length → (∀ x ∈ q', x < v) → q'.length / 2 = (q.length + 1) / 2 → ∀ (Rt : D → Prop) (Bk : List Sl → Prop),
        SS triv B0 H0 (tIfS (tTest (tOp (rI0 fun i j => .bl (decide (j < i))) (tCB (fun xs H Q => ∃ x n, xs = [x] ∧ LenV K x H n ∧ Q (.int n) H) (tCons (tVar 2) tNil)) (tC (.int 1)))) (tAsg (tOp (rMulU K) (tVar 1) (tVar 1)) (gName 1)) tNext) [.dat (.lst (nl l)), .dat (.int v), .dat (.lst (nl (prs v q'))), s] (fun G => ∃ m', m' < q.length ∧ ∃ (q : List Nat) (v j : Nat) (s : Sl), G = [.dat (.lst (nl l)), .dat (.int v), .dat (.lst (nl q)), s] ∧ m' = q.length ∧ hor v q = hor u l ∧ q.length ≤ 65 ∧ (q.length - 1) * 2 ^ j ≤ 64 ∧ Sz (10 * 2 ^ j) (v : Int) ∧ (1 < q.length → ∀ x ∈ q, x < v)) Rt Bk
          (fun G => ∃ m', m' < q.length ∧ ∃ (q : List Nat) (v j : Nat) (s : Sl), G = [.dat (.lst (nl l)), .dat (.int v), .dat (.lst (nl q)), s] ∧ m' = q.length ∧ hor v q = hor u l ∧ q.length ≤ 65 ∧ (q.length - 1) * 2 ^ j ≤ 64 ∧ Sz (10 * 2 ^ j) (v : Int) ∧ (1 < q.length → ∀ x ∈ q, x < v)) := by
      intro q' s he eh hl1 hl2 hq' hll Rt Bk
      have hlen := prs_len v q'
      have hor2 : hor (v * v) (prs v q') = hor u l := by
        rw [← eh]
        exact prs_hor v q' 0 he
      refine ssd_if (eb_test (ed_op (ed_cb (by walk_at "ed") (cd_len (ln _) True.intro)) (by walk_at "ed") od_gt)) (fun h => ?_) (fun h => ss_next ?_)
      · have h : 1 < (prs v q').length := by
          have : (1 : Int) < (prs v q').length := by simpa using h
          omega
        have hj3 : ((prs v q').length - 1) * 2 ^ (j + 1) ≤ 64 := by
          have e1 : ((prs v q').length - 1) * 2 ^ (j + 1) = (((prs v q').length - 1) * 2) * 2 ^ j := by rw [Nat.pow_succ, Nat.mul_assoc, Nat.mul_comm (2 ^ j) 2]
          rw [e1]
          exact Nat.le_trans (Nat.mul_le_mul_right _ (by omega)) hj
        have hj2 : 2 ^ j ≤ 64 := by
          have : 1 * 2 ^ j ≤ (q.length - 1) * 2 ^ j := Nat.mul_le_mul_right _ (by omega)
          omega
        have m1 := cm hv hv (by omega)
        refine ssd_asg (d := .int ((v * v : Nat) : Int)) (by rw [Int.natCast_mul]; walk_at "ed") ?_
        exact ⟨_, by omega, prs v q', v * v, j + 1, s, rfl, rfl, hor2, by omega, hj3, by rw [Int.natCast_mul, show 10 * 2 ^ (j + 1) = 10 * 2 ^ j + 10 * 2 ^ j by rw [Nat.pow_succ]; omega]; exact hv.mul hv, fun _ => prs_lt hq'⟩
      · have h : (prs v q').length = 1 := by
          have : ¬ (1 : Int) < (prs v q').length := by simpa using h
          omega
        refine ⟨1, by omega, prs v q', v, j, s, rfl, h.symm, ?_, by omega, by rw [h]; simp, hv, fun h2 => by omega⟩
        rw [← hor2]
        match hp : prs v q', h with
        | [a], _ => simp [hor, horF]
    refine ss_seq (ssd_if (eb_test (ed_op (ed_op (ed_cb (by walk_at "ed") (cd_len (ln q) True.intro)) (by walk_at "ed") (od_rem (by decide))) (by walk_at "ed") od_eqi)) (fun h => ?_) (fun h => ss_next ?_))
    · have ho : q.length % 2 = 1 := by
        have : (q.length : Int) % 2 = 1 := by simpa using h
        omega
      have hq0 : ∀ x ∈ 0 :: q, x < v := fun x hx => by
        rcases List.mem_cons.mp hx with rfl | hx
        · have := hq hg (q[0]'(by omega)) (List.getElem_mem _)
          omega
        · exact hq hg x hx
      have e0 : hor v (0 :: q) = hor u l := by
        rw [← e]
        show horF v (0 * v + 0) q = horF v 0 q
        rw [Nat.zero_mul]
      refine ssd_asg (d := .lst (nl (0 :: q))) (ed_of_el (edl_lst (eda_cons ed_int (eda_star (es := []) (.inl rfl) (ed_var rfl) eda_nil |> fun z => by rw [List.append_nil] at z; exact z)) (by simp only [nl, List.length_map, List.length_cons]; omega))) ?_
      refine ss_seq (go (0 :: q) s (by rw [List.length_cons]; omega) e0 (by rw [List.length_cons]; omega) (by rw [List.length_cons]; omega) hq0 _ (fun s' => ?_) _ _ _)
      exact fin (0 :: q) s' (by rw [List.length_cons]; omega) e0 (by rw [List.length_cons]; omega) (by rw [List.length_cons]; omega) hq0 (by rw [List.length_cons]) _ _
    · have ho : q.length % 2 = 0 := by
        have : ¬ (q.length : Int) % 2 = 1 := by simpa using h
        omega
      refine ss_seq (go q s ho e (by omega) hg (hq hg) _ (fun s' => ?_) _ _ _)
      exact fin q s' ho e (by omega) hg (hq hg) (by omega) _ _
  · have hg : q.length ≤ 1 := by
      have : ¬ (1 : Int) < q.length := by simpa using hg
      omega
    match q, hg, e with
    | [], _, e =>
      refine ssd_ret (ed_ifF (eb_tru (d := .lst (nl [])) (ed_var rfl) True.intro) ed_int) ?_
      rw [← e]
      rfl
    | [a], _, e =>
      refine ssd_ret (ed_ifT (eb_tru (d := .lst (nl [a])) (ed_var rfl) True.intro) (ed_op (ed_var rfl) ed_int (od_ixL rfl))) ?_
      rw [← e]
      simp [hor, horF]
end
end K82
set_option Elab.async false
set_option linter.all false
set_option maxRecDepth 100000
set_option maxHeartbeats 2000000
namespace K82
open PySem PySem.Spec PyProof.Rows L2 Evl Dl K82Head
local macro_rules | `(tactic| walk_at "ed") => `(tactic| first
  | exact ed_var rfl | exact ed_int | exact ed_str | exact ed_bl | exact ed_non | exact eda_nil | exact edo_none
  | exact od_add | exact od_sub | exact od_lt | exact od_le | exact od_gt | exact od_ge | exact od_eqi | exact od_nei | exact od_eqs | exact od_nes | exact od_isN | exact od_notN | exact cd_int | exact cd_abs | exact cd_max2 | exact cd_gcd
  | ((with_reducible apply eda_cons) <;> walk_at "ed") | ((with_reducible apply ed_op) <;> walk_at "ed") | ((with_reducible apply ed_cb) <;> walk_at "ed") | ((with_reducible apply eb_test) <;> walk_at "ed") | ((with_reducible apply eb_tru) <;> walk_at "ed") | ((with_reducible apply ed_tup) <;> walk_at "ed")
  | ((with_reducible apply ed_neg) <;> walk_at "ed") | ((with_reducible apply eb_not) <;> walk_at "ed") | ((with_reducible apply edl_lst) <;> walk_at "ed") | ((with_reducible apply edo_some) <;> walk_at "ed") | ((with_reducible apply ed_call) <;> walk_at "ed")
  | (apply od_mul; assumption) | (apply od_rem; omega) | (apply od_div <;> omega) | (apply od_ixT; rfl) | (apply od_ixL; rfl)
  | (with_reducible exact True.intro) | (simp; done) | skip)
/-! ### a word's cell -/
/-- the side's whole number -/
def lowOf (b w : Nat) (l : List Nat) (i : Nat) : Nat := hor b (l.map fun a => dig b w a i)
def sideQ (b w : Nat) (l : List Nat) (i k : Nat) : Rat := Rat.divInt ((lowOf b w l i + k : Nat) : Int) ((b ^ l.length : Nat) : Int)
def sideD (b w : Nat) (l : List Nat) (i : Nat) : D := .tup [dq (sideQ b w l i 0), dq (sideQ b w l i 1)]
/-- a word that may be asked about -/
structure WordOk (b w : Nat) (l : List Nat) : Prop where
  b1 : 1 ≤ b
  b2 : b ≤ 1000
  wd : w = 1 ∨ w = 2
  n : l.length ≤ 60
  ok : ∀ a ∈ l, ∀ i, i < w → dig b w a i < b
/-- the corners of a word's cell, as lists of numbers -/
def cornersQ (b w : Nat) (l : List Nat) : List (List Rat) :=
  if w = 1 then [[sideQ b w l 0 0], [sideQ b w l 0 1]]
  else [[sideQ b w l 0 0, sideQ b w l 1 0], [sideQ b w l 0 0, sideQ b w l 1 1], [sideQ b w l 0 1, sideQ b w l 1 0], [sideQ b w l 0 1, sideQ b w l 1 1]]
def ptD (ps : List Rat) : D := .tup (ps.map dq)
section
variable {P : Program} {w : World} {K : PySem.W.Frag} {mg : Str → Option Value} {base : Heap}
theorem pow_sz {b n : Nat} (hb : b ≤ 1000) (hn : n ≤ 500) : Sz 5000 ((b ^ n : Nat) : Int) := by
  unfold Sz
  rw [Int.natAbs_natCast]
  have h3 : b ^ n ≤ 1024 ^ n := Nat.pow_le_pow_left (by omega) n
  have h4 : (1024 : Nat) ^ n = 2 ^ (10 * n) := by rw [show (1024 : Nat) = 2 ^ 10 by decide, ← Nat.pow_mul]
  have h5 : b ^ n ≤ 1000 ^ n := Nat.pow_le_pow_left hb n
  by_cases e : n = 0
  · subst e
    exact Nat.one_lt_two_pow (by decide)
  · have h6 : (1000 : Nat) ^ n < 1024 ^ n := Nat.pow_lt_pow_left (by decide) e
    have h7 : 2 ^ (10 * n) ≤ 2 ^ 5000 := Nat.pow_le_pow_right (by decide) (by omega)
    omega
theorem sc_cell : FnScope ["base", "width", "word", "unit", "sides", "index", "low"] ["base", "width", "word"] (defScope s_cell) := ⟨rfl, rfl, rfl, by decide +kernel, rfl, by decide +kernel, by decide +kernel⟩
def F_cell (ds : List D) (d : D) : Prop := ∃ (b u : Nat) (l : List Nat), ds = [.int b, .int u, wd l] ∧ WordOk b u l ∧ d = .tup ((List.range u).map (sideD b u l))
theorem ok_cell (T : Txt K mg) : Cal P w K mg base "cell" 3 (psp F_cell) := by
  have c_power := ok_power (P := P) (w := w) (base := base) T
  have c_fold := ok_fold (P := P) (w := w) (base := base) T
  have c_digits_for := ok_digits_for (P := P) (w := w) (base := base) T
  have c_fraction := ok_fraction (P := P) (w := w) (base := base) T
  refine psp_mk T.d_cell T.g_cell sc_cell (fun _ _ _ _ _ _ us hl => match us, hl with | [_, _, _], _ => rfl) (fun ds d ⟨a, n, y, e, _⟩ => by rw [e] <;> rfl) (fun cdv A outer s H E hr => ⟨_, (pss_cons (ps_set (i := 3) sc_cell.nd rfl (Or.inl rfl) (pe_cal c_power (hr.mono (by decide)) rfl (pa_cons (pv 0) (pa_cons (pe_callB (call_lenK K) (by rfl) T.b_len (by decide +kernel) (pa_cons (pv 2) pa_nil)) pa_nil))))
    (pss_cons (ps_set (i := 4) sc_cell.nd rfl (Or.inl rfl) (pe_lst pa_nil))
    (pss_cons (ps_for PassesOwn.never rfl (pi_range1 (by rfl) T.b_range (pa_cons (pv 1) pa_nil)) (pg_name (i := 5) sc_cell.nd rfl (Or.inl rfl))
      (pss_cons (ps_set (i := 6) sc_cell.nd rfl (Or.inl rfl) (pe_cal c_fold (hr.mono (by decide)) rfl (pa_cons (pe_cal c_digits_for (hr.mono (by decide)) rfl (pa_cons (pv 0) (pa_cons (pv 1) (pa_cons (pv 2) (pa_cons (pv 5) pa_nil))))) (pa_cons (pv 0) pa_nil))))
        (pss_one (ps_expr (pe_bmK K PySem.F.plainAttrs_list PySem.F.slot_list_append PySem.F.type_list_append mt_append (pv 4) (pa_cons (pe_tup (pa_cons (pe_cal c_fraction (hr.mono (by decide)) rfl (pa_cons (pv 6) (pa_cons (pv 3) pa_nil))) (pa_cons (pe_cal c_fraction (hr.mono (by decide)) rfl (pa_cons (pe_op (op_addK K) (pv 6) pe_int) (pa_cons (pv 3) pa_nil))) pa_nil))) pa_nil))))))
    (pss_one (ps_ret (pe_callTy (call_tupleK K) (by rfl) T.b_tuple (by decide +kernel) (pa_cons (pv 4) pa_nil))))))), ?_⟩)
  intro B0 H0 ds d h
  obtain ⟨b, u, l, rfl, h, rfl⟩ := h
  have hu : (u : Int) < 2 ^ 62 := by
    have := h.wd
    omega
  have hb1 := h.b1
  have hb2 := h.b2
  have hn := h.n
  have hun : (b ^ l.length : Nat) ≠ 0 := Nat.ne_of_gt (Nat.pow_pos (by omega))
  show SS triv B0 H0 _ [.dat (.int b), .dat (.int u), .dat (wd l), .no, .no, .no, .no] _ _ _ _
  refine ss_seq (ssd_asg (d := .int ((b ^ l.length : Nat) : Int)) ?_ ?_)
  · refine ed_call (eda_cons (ed_var rfl) (eda_cons (ed_cb (eda_cons (ed_var rfl) eda_nil) (cd_len (n := l.length) ?_ True.intro)) eda_nil)) ⟨b, l.length, rfl, by omega, by omega, by omega, by rw [Int.natCast_pow]⟩
    show some _ = some _
    rw [List.length_map]
  refine ss_seq (ssd_asgO (edl_lst eda_nil) ?_)
  refine ss_seq (ssd_for (xs := rngD 0 u) (P := fun i Γ => ∃ s t, Γ = [.dat (.int b), .dat (.int u), .dat (wd l), .dat (.int ((b ^ l.length : Nat) : Int)), .own ((List.range i).map (sideD b u l)), s, t]) (wid_rng1 (n := (u : Int)) (by walk_at "ed") hu (by omega)) ⟨.no, .no, rfl⟩ ?_ ?_)
  · rintro i x Γ hx ⟨s, t, rfl⟩
    obtain ⟨hi, rfl⟩ := rngD_at hx
    refine ⟨_, gs_name, ?_⟩
    rw [show (0 : Int) + (i : Int) = (i : Int) by omega]
    show SS triv B0 H0 _ [.dat (.int b), .dat (.int u), .dat (wd l), .dat (.int ((b ^ l.length : Nat) : Int)), .own ((List.range i).map (sideD b u l)), .dat (.int (i : Int)), t] _ _ _ _
    refine ss_seq (ssd_asg (d := .int ((lowOf b u l i : Nat) : Int)) ?_ ?_)
    · refine ed_call (eda_cons (ed_call (d := .lst (nl (l.map fun a => dig b u a i))) (by walk_at "ed") ⟨b, u, i, l, rfl, by omega, by omega, by omega, by unfold nl; rw [List.map_map]; rfl⟩) (eda_cons (ed_var rfl) eda_nil)) ⟨l.map fun a => dig b u a i, b, rfl, by omega, by rw [List.length_map]; omega, ?_, rfl⟩
      intro x hx
      obtain ⟨a, ha, rfl⟩ := List.mem_map.mp hx
      exact h.ok a ha i hi
    · have sz := pow_sz (b := b) (n := l.length) hb2 (by omega)
      refine ssd_append rfl (d := sideD b u l i) ?_ ?_ ⟨.dat (.int (i : Int)), .dat (.int ((lowOf b u l i : Nat) : Int)), ?_⟩
      · refine ed_tup (eda_cons (ed_call (by walk_at "ed") ⟨_, _, rfl, by omega, sz.mono (by decide), rfl⟩) (eda_cons (ed_call (d := dq (sideQ b u l i 1)) (by walk_at "ed") ⟨_, _, rfl, by omega, sz.mono (by decide), rfl⟩) eda_nil))
      · rw [List.length_map, List.length_range]
        have := h.wd
        omega
      · rw [List.range_succ, List.map_append]
        rfl
  · rintro Γ ⟨s, t, rfl⟩
    rw [rngD_len]
    refine ss_freeze 4 rfl ?_
    exact ssd_ret (ed_cb (by walk_at "ed") (cd_tuple (.inl rfl))) rfl
theorem sc_corners_of : FnScope ["base", "width", "word", "sides", "one", "other", "number"] ["base", "width", "word"] (defScope s_corners_of) := ⟨rfl, rfl, rfl, by decide +kernel, rfl, by decide +kernel, by decide +kernel⟩
def F_corners_of (ds : List D) (d : D) : Prop := ∃ (b u : Nat) (l : List Nat), ds = [.int b, .int u, wd l] ∧ WordOk b u l ∧ d = .lst ((cornersQ b u l).map ptD)
theorem ok_corners_of (T : Txt K mg) : Cal P w K mg base "corners_of" 4 (psp F_corners_of) := by
  have c_cell := ok_cell (P := P) (w := w) (base := base) T
  refine psp_mk T.d_corners_of T.g_corners_of sc_corners_of (fun _ _ _ _ _ _ us hl => match us, hl with | [_, _, _], _ => rfl) (fun ds d ⟨a, n, y, e, _⟩ => by rw [e] <;> rfl) (fun cdv A outer s H E hr => ⟨_, (pss_cons (ps_set (i := 3) sc_corners_of.nd rfl (Or.inr rfl) (pe_cal c_cell (hr.mono (by decide)) rfl (pa_cons (pv 0) (pa_cons (pv 1) (pa_cons (pv 2) pa_nil)))))
    (pss_cons (ps_if (pt_cmpR (op_eqK K hr.units) (pv 1) pe_int (nomark _))
      (pss_one (ps_ret (pe_lc (own := [("number", 6)]) (g := gName 6) rfl sc_corners_of.nd  (pi_seqK K (pe_ix (ix_seqK K) (pv 3) pe_int (fun _ _ => rfl))) (blkOk_by (N := ["base", "width", "word", "sides", "one", "other", "number"]) (sc := defScope s_corners_of) (by decide +kernel)) (fun _ _ _ _ _ => (pg_name (i := 6) sc_corners_of.nd rfl (Or.inl rfl))) (fun _ _ _ _ _ => pts_nil) (fun _ _ _ _ _ => (pe_tup (pa_cons (pv 6) pa_nil))))))
      pss_nil)
    (pss_one (ps_ret (pe_lc2 (own := [("one", 4), ("other", 5)]) (vs1 := [5]) rfl sc_corners_of.nd  (pi_seqK K (pe_ix (ix_seqK K) (pv 3) pe_int (fun _ _ => rfl))) (blkOk_by (N := ["base", "width", "word", "sides", "one", "other", "number"]) (sc := defScope s_corners_of) (by decide +kernel)) (by decide) (fun _ _ _ _ _ => (pg_name (i := 4) sc_corners_of.nd rfl (Or.inl rfl))) (fun _ _ _ _ _ => pts_nil) (fun _ _ _ _ _ => (pi_seqK K (pe_ix (ix_seqK K) (pv 3) pe_int (fun _ _ => rfl)))) (fun _ _ _ _ _ => (pg_name (i := 5) sc_corners_of.nd rfl (Or.inl rfl))) (fun _ _ _ _ _ => pts_nil) (fun _ _ _ _ _ => (pe_tup (pa_cons (pv 4) (pa_cons (pv 5) pa_nil))))))))), ?_⟩)
  intro B0 H0 ds d h
  obtain ⟨b, u, l, rfl, h, rfl⟩ := h
  show SS triv B0 H0 _ [.dat (.int b), .dat (.int u), .dat (wd l), .no, .no, .no, .no] _ _ _ _
  refine ss_seq (ssd_asg (ed_call (by walk_at "ed") ⟨b, u, l, rfl, h, rfl⟩) ?_)
  rcases h.wd with hw | hw
  · subst hw
    refine ss_seq (ssd_ifT (EB.is (by walk_at "ed") (by decide)) ?_)
    refine ssd_ret (ed_of_el (edl_map1 (xs := [dq (sideQ b 1 l 0 0), dq (sideQ b 1 l 0 1)]) id (fun x => .tup [x]) (wid_seq (x := sideD b 1 l 0) (.inr rfl) (ed_op (ed_var rfl) ed_int (od_ixT rfl))) (by simp) fun x _ => by walk_at "ed")) ?_
    rfl
  · subst hw
    refine ss_seq (ssd_ifF (EB.is (by walk_at "ed") (by decide)) (ss_next ?_))
    refine ssd_ret (ed_of_el (edl_map2 (xs := [dq (sideQ b 2 l 0 0), dq (sideQ b 2 l 0 1)]) (wid_seq (x := sideD b 2 l 0) (.inr rfl) (ed_op (ed_var rfl) ed_int (od_ixT rfl))) (fun _ => [dq (sideQ b 2 l 1 0), dq (sideQ b 2 l 1 1)]) (fun x y => .tup [x, y]) (by simp) (by simp) fun x _ => ⟨[(4, x)], by simp, gs_name, wid_seq (x := sideD b 2 l 1) (.inr rfl) (ed_op (ed_var rfl) ed_int (od_ixT rfl)), fun y _ => ⟨[(5, y)], by simp, gs_name, by walk_at "ed"⟩⟩)) ?_
    rfl
/-! ### chords -/
theorem sc_chords : FnScope ["values", "low", "value"] ["values"] (defScope s_chords) := ⟨rfl, rfl, rfl, by decide +kernel, rfl, by decide +kernel, by decide +kernel⟩
def F_chords (ds : List D) (d : D) : Prop := ∃ (q : Rat) (qs : List Rat), ds = [.lst ((q :: qs).map dq)] ∧ (∀ x ∈ q :: qs, Sq 3000 x) ∧ qs.length ≤ 1000 ∧ d = .tup (qs.map fun x => dq (x - q))
theorem ok_chords (T : Txt K mg) : Cal P w K mg base "_chords" 3 (psp F_chords) := by
  have c_difference := ok_difference (P := P) (w := w) (base := base) T
  refine psp_mk T.d_chords T.g_chords sc_chords (fun _ _ _ _ _ _ us hl => match us, hl with | [_], _ => rfl) (fun ds d ⟨a, n, e, _⟩ => by rw [e] <;> rfl) (fun cdv A outer s H E hr => ⟨_, (pss_cons (ps_set (i := 1) sc_chords.nd rfl (Or.inr rfl) (pe_ix (ix_seqK K) (pv 0) pe_int (fun _ _ => rfl)))
    (pss_one (ps_ret (pe_callTy (call_tupleK K) (by rfl) T.b_tuple (by decide +kernel) (pa_cons (pe_lc (own := [("value", 2)]) (g := gName 2) rfl sc_chords.nd  (pi_seqK K (pe_slice (sl_allK K) (pv 0) (po_some pe_int) po_none)) (blkOk_by (N := ["values", "low", "value"]) (sc := defScope s_chords) (by decide +kernel)) (fun _ _ _ _ _ => (pg_name (i := 2) sc_chords.nd rfl (Or.inl rfl))) (fun _ _ _ _ _ => pts_nil) (fun _ _ _ _ _ => (pe_cal c_difference (hr.mono (by decide)) rfl (pa_cons (pv 2) (pa_cons (pv 1) pa_nil))))) pa_nil))))), ?_⟩)
  intro B0 H0 ds d h
  obtain ⟨q, qs, rfl, h1, h2, rfl⟩ := h
  show SS triv B0 H0 _ [.dat (.lst (dq q :: qs.map dq)), .no, .no] _ _ _ _
  refine ss_seq (ssd_asg (d := dq q) (ed_op (ed_var rfl) ed_int (od_ixL (L2.atI_nat (j := 0) rfl))) ?_)
  have e : Dl.cutD (dq q :: qs.map dq) (some 1) none = qs.map dq := by
    unfold Dl.cutD
    have e1 : HT.sIx (dq q :: qs.map dq).length 0 (some 1) = 1 := by
      unfold HT.sIx
      simp
    have e2 : HT.sIx (dq q :: qs.map dq).length (dq q :: qs.map dq).length none = qs.length + 1 := by
      unfold HT.sIx
      simp
    rw [e1, e2]
    show List.take (qs.length + 1 - 1) (qs.map dq) = _
    exact List.take_of_length_le (by simp)
  refine ssd_ret (ed_cb (eda_cons (ed_of_el (edl_map1 (xs := qs) dq (fun x => dq (x - q)) (by have z := wid_seq (R := triv) (K := K) (.inl rfl) (ed_of_el (el_slL (K := K) (R := triv) (Γ := [.dat (.lst (dq q :: qs.map dq)), .dat (dq q), .no]) (te := tVar 0) (lo := some 1) (hi := none) (ed_var rfl) (edo_some ed_int) edo_none)); rw [e] at z; exact z) (by omega) fun x hx => ?_)) eda_nil) (cd_tuple (.inl rfl))) rfl
  exact ed_call (by walk_at "ed") ⟨x, q, rfl, h1 x (by simp [hx]), h1 q (by simp), rfl⟩
theorem sc_flat : FnScope ["chords", "chord", "part"] ["chords"] (defScope s_flat) := ⟨rfl, rfl, rfl, by decide +kernel, rfl, by decide +kernel, by decide +kernel⟩
def F_flat (ds : List D) (d : D) : Prop := ∃ (xs : List (List D)), ds = [.tup (xs.map D.tup)] ∧ xs.flatten.length ≤ 1000 ∧ d = .tup xs.flatten
def tupOf : D → List D
  | .tup ds => ds
  | _ => []
theorem ok_flat (T : Txt K mg) : Cal P w K mg base "_flat" 1 (psp F_flat) := by
  refine psp_mk T.d_flat T.g_flat sc_flat (fun _ _ _ _ _ _ us hl => match us, hl with | [_], _ => rfl) (fun ds d ⟨a, e, _⟩ => by rw [e] <;> rfl) (fun cdv A outer s H E hr => ⟨_, (pss_one (ps_ret (pe_callTy (call_tupleK K) (by rfl) T.b_tuple (by decide +kernel) (pa_cons (pe_lc2 (own := [("chord", 1), ("part", 2)]) (vs1 := [2]) rfl sc_flat.nd  (pi_seqK K (pv 0)) (blkOk_by (N := ["chords", "chord", "part"]) (sc := defScope s_flat) (by decide +kernel)) (by decide) (fun _ _ _ _ _ => (pg_name (i := 1) sc_flat.nd rfl (Or.inl rfl))) (fun _ _ _ _ _ => pts_nil) (fun _ _ _ _ _ => (pi_seqK K (pv 1))) (fun _ _ _ _ _ => (pg_name (i := 2) sc_flat.nd rfl (Or.inl rfl))) (fun _ _ _ _ _ => pts_nil) (fun _ _ _ _ _ => (pv 2))) pa_nil)))), ?_⟩)
  intro B0 H0 ds d h
  obtain ⟨xs, rfl, h1, rfl⟩ := h
  show SS triv B0 H0 _ [.dat (.tup (xs.map D.tup)), .no, .no] _ _ _ _
  have e : (xs.map D.tup).flatMap (fun x => (tupOf x).map ((fun _ y => y) x)) = xs.flatten := by
    rw [List.flatMap_map]
    show xs.flatMap (fun x => List.map (fun y => y) x) = _
    simp [List.flatMap_id']
  refine ssd_ret (ed_cb (eda_cons (ed_of_el (edl_map2 (xs := xs.map D.tup) (wid_seq (.inr rfl) (ed_var rfl)) tupOf (fun _ y => y) ?_ (by simp) fun x hx => ?_)) eda_nil) (cd_tuple (.inl rfl))) ?_
  · rw [e]
    omega
  · obtain ⟨y, hy, rfl⟩ := List.mem_map.mp hx
    exact ⟨[(1, _)], by simp, gs_name, wid_seq (x := .tup y) (.inr rfl) (ed_var rfl), fun z _ => ⟨[(2, z)], by simp, gs_name, by walk_at "ed"⟩⟩
  · rw [e]
/-! ### _law_digits -/
theorem sc_law_digits : FnScope ["base", "width", "a"] ["base", "width", "a"] (defScope s_law_digits) := ⟨rfl, rfl, rfl, by decide +kernel, rfl, by decide +kernel, by decide +kernel⟩
def F_law_digits (ds : List D) (d : D) : Prop := ∃ (b u a : Nat), ds = [.int b, .int u, .int a] ∧ 1 ≤ b ∧ b ≤ 1000 ∧ (u = 1 ∨ u = 2) ∧ d = .tup ((List.range u).map fun i => .int (dig b u a i : Nat))
theorem ok_law_digits (T : Txt K mg) : Cal P w K mg base "_law_digits" 1 (psp F_law_digits) := by
  refine psp_mk T.d_law_digits T.g_law_digits sc_law_digits (fun _ _ _ _ _ _ us hl => match us, hl with | [_, _, _], _ => rfl) (fun ds d ⟨a, n, y, e, _⟩ => by rw [e] <;> rfl) (fun cdv A outer s H E hr => ⟨_, (pss_one (ps_ret (pe_ifExp (pt_cmpR (op_eqK K hr.units) (pv 1) pe_int (nomark _)) (pe_tup (pa_cons (pv 2) pa_nil)) (pe_tup (pa_cons (pe_op op_fdivU (pv 2) (pv 0)) (pa_cons (pe_op op_modU (pe_callTy call_int1 (by rfl) T.b_int (by decide +kernel) (pa_cons (pv 2) pa_nil)) (pv 0)) pa_nil)))))), ?_⟩)
  intro B0 H0 ds d h
  obtain ⟨b, u, a, rfl, h1, h2, hw, rfl⟩ := h
  show SS triv B0 H0 _ [.dat (.int b), .dat (.int u), .dat (.int a)] _ _ _ _
  rcases hw with rfl | rfl
  · exact ssd_ret (ed_ifT (EB.is (by walk_at "ed") (by decide)) (by walk_at "ed")) (by rfl)
  · exact ssd_ret (ed_ifF (EB.is (by walk_at "ed") (by decide)) (by walk_at "ed")) (by rfl)
end
end K82
set_option Elab.async false
set_option linter.all false
set_option maxRecDepth 100000
set_option maxHeartbeats 2000000
namespace K82
open PySem PySem.Spec PyProof.Rows L2 Evl Dl K82Head
local macro_rules | `(tactic| walk_at "ed") => `(tactic| first
  | exact ed_var rfl | exact ed_int | exact ed_str | exact ed_bl | exact ed_non | exact eda_nil | exact edo_none
  | exact od_add | exact od_sub | exact od_lt | exact od_le | exact od_gt | exact od_ge | exact od_eqi | exact od_nei | exact od_eqs | exact od_nes | exact od_isN | exact od_notN | exact cd_int | exact cd_abs | exact cd_max2 | exact cd_gcd
  | ((with_reducible apply eda_cons) <;> walk_at "ed") | ((with_reducible apply ed_op) <;> walk_at "ed") | ((with_reducible apply ed_cb) <;> walk_at "ed") | ((with_reducible apply eb_test) <;> walk_at "ed") | ((with_reducible apply eb_tru) <;> walk_at "ed") | ((with_reducible apply ed_tup) <;> walk_at "ed")
  | ((with_reducible apply ed_neg) <;> walk_at "ed") | ((with_reducible apply eb_not) <;> walk_at "ed") | ((with_reducible apply edl_lst) <;> walk_at "ed") | ((with_reducible apply edo_some) <;> walk_at "ed") | ((with_reducible apply ed_call) <;> walk_at "ed")
  | (apply od_mul; assumption) | (apply od_rem; omega) | (apply od_div <;> omega) | (apply od_ixT; rfl) | (apply od_ixL; rfl)
  | (with_reducible exact True.intro) | (simp; done) | skip)
/-! ### texts of numbers -/
def intT : List (Str × Int) := [("1", 1), ("2", 2), ("3", 3), ("4", 4), ("-1", -1)]
def dgT (z : Str) : Str := if Txt.startswith z "-" = true then cutS z (some 1) none else z
def resT (z : Str) : Str := if cutS z none (some 1) = "-" then cutS z (some 1) none else z
theorem intT_ok : ∀ p ∈ intT, p.1.length ≤ 600 ∧ (1 ≤ (dgT p.1).length ∧ (dgT p.1).length ≤ 9) ∧ Txt.isdecimal (dgT p.1) = true ∧ PySem.intText? p.1 = some p.2 ∧ (Str.ofString (toString p.2)) = p.1 ∧ p.2.natAbs ≤ 4 ∧ resT p.1 = dgT p.1 := by decide +kernel
theorem intT_ok2 : ∀ p ∈ intT, dgT p.1 ≠ "" ∧ (∀ c ∈ (dgT p.1).cps.toList, (!(Builtin.Str.occurrences "0123456789" ⟨#[c]⟩ 0 10 1).isEmpty) = true) ∧ (∃ c, L2.atI (dgT p.1).cps.toList 0 = some c ∧ (⟨#[c]⟩ : Str) ≠ "0") := by
  intro p hp
  simp only [intT, List.mem_cons, List.not_mem_nil, or_false] at hp
  rcases hp with rfl | rfl | rfl | rfl | rfl
  · exact ⟨by decide +kernel, by decide +kernel, 49, by decide +kernel, by decide +kernel⟩
  · exact ⟨by decide +kernel, by decide +kernel, 50, by decide +kernel, by decide +kernel⟩
  · exact ⟨by decide +kernel, by decide +kernel, 51, by decide +kernel, by decide +kernel⟩
  · exact ⟨by decide +kernel, by decide +kernel, 52, by decide +kernel, by decide +kernel⟩
  · exact ⟨by decide +kernel, by decide +kernel, 49, by decide +kernel, by decide +kernel⟩
/-- a leaf -/
inductive Lf where
  | x | y | n1 | n12 | m1 | n3 | n23 | m14 | n13 | n2
  deriving DecidableEq
def Lf.z : Lf → Str
  | .x => "x" | .y => "y" | .n1 => "1" | .n12 => "1/2" | .m1 => "-1" | .n3 => "3" | .n23 => "2/3" | .m14 => "-1/4" | .n13 => "1/3" | .n2 => "2"
def Lf.v : Lf → Option (Int × Int)
  | .x => none | .y => none | .n1 => some (1, 1) | .n12 => some (1, 2) | .m1 => some (-1, 1) | .n3 => some (3, 1) | .n23 => some (2, 3) | .m14 => some (-1, 4) | .n13 => some (1, 3) | .n2 => some (2, 1)
/-- the parts of a number's text -/
def Lf.parts : Lf → List (Str × Int)
  | .x => [] | .y => [] | .n1 => [("1", 1)] | .n12 => [("1", 1), ("2", 2)] | .m1 => [("-1", -1)] | .n3 => [("3", 3)] | .n23 => [("2", 2), ("3", 3)] | .m14 => [("-1", -1), ("4", 4)] | .n13 => [("1", 1), ("3", 3)] | .n2 => [("2", 2)]
theorem lf_ok (l : Lf) (q : Int × Int) (h : l.v = some q) : l.z.length ≤ 600 ∧ Txt.split l.z "/" = l.parts.map (·.1) ∧ (∀ p ∈ l.parts, p ∈ intT) ∧ ((l.parts = [(l.z, q.1)] ∧ q.2 = 1) ∨ (∃ a b, l.parts = [(a, q.1), (b, q.2)] ∧ 2 ≤ q.2 ∧ q.2 ≤ 4 ∧ Nat.gcd q.1.natAbs q.2.natAbs = 1)) ∧ q.1.natAbs ≤ 4 ∧ 1 ≤ q.2 ∧ q.2 ≤ 4 := by
  cases l <;> simp only [Lf.v, reduceCtorEq, Option.some.injEq] at h <;> subst h <;>
    refine ⟨by decide +kernel, by decide +kernel, by decide +kernel, ?_, by decide, by decide, by decide⟩ <;>
    first
    | exact .inl ⟨rfl, rfl⟩
    | exact .inr ⟨_, _, rfl, by decide, by decide, by decide⟩
section
variable {P : Program} {w : World} {K : PySem.W.Frag} {mg : Str → Option Value} {base : Heap}
theorem sc_read_integer : FnScope ["text", "digits", "number"] ["text"] (defScope s_read_integer) := ⟨rfl, rfl, rfl, by decide +kernel, rfl, by decide +kernel, by decide +kernel⟩
def F_read_integer (ds : List D) (d : D) : Prop := ∃ p ∈ intT, ds = [.str p.1] ∧ d = .int p.2
theorem ok_read_integer (T : Txt K mg) : Cal P w K mg base "read_integer" 1 (psp F_read_integer) := by
  refine psp_mk T.d_read_integer T.g_read_integer sc_read_integer (fun _ _ _ _ _ _ us hl => match us, hl with | [_], _ => rfl) (fun ds d ⟨a, _, e, _⟩ => by rw [e] <;> rfl) (fun cdv A outer s H E hr => ⟨_, (pss_cons (ps_set (i := 1) sc_read_integer.nd rfl (Or.inl rfl) (pe_ifExp (pt_truthK K (pe_m1 PySem.F.slot_str_startswith PySem.F.type_str_startswith mt_startswith (pv 0) pe_str) (by intro _; rfl)) (pe_slice (sl_allK K) (pv 0) (po_some pe_int) po_none) (pv 0)))
    (pss_cons (ps_if (PW.pt (pw_or (pt_not (pt_chain op_le op_le pe_int (pe_callB (call_lenK K) (by rfl) T.b_len (by decide +kernel) (pa_cons (pv 1) pa_nil)) pe_int)) (pw_or1 (pt_not (pt_truthK K (pe_m0 PySem.F.slot_str_isdecimal PySem.F.type_str_isdecimal mt_isdecimal (pv 1)) (by intro _; rfl))))))
      (pss_one (ps_ret pe_non))
      pss_nil)
    (pss_cons (ps_set (i := 2) sc_read_integer.nd rfl (Or.inl rfl) (pe_callTy call_int_str (by rfl) T.b_int (by decide +kernel) (pa_cons (pv 0) pa_nil)))
    (pss_one (ps_ret (pe_ifExp (pt_cmpR (op_eqK K hr.units) (pe_callTy call_str_int (by rfl) T.b_str (by decide +kernel) (pa_cons (pv 2) pa_nil)) (pv 0) (nomark _)) (pv 2) pe_non)))))), ?_⟩)
  intro B0 H0 ds d h
  obtain ⟨⟨z, i⟩, hp, rfl, rfl⟩ := h
  obtain ⟨h1, ⟨h2, h3⟩, h4, h5, h6, h7, _⟩ := intT_ok _ hp
  dsimp only at h1 h2 h3 h4 h5 h6 h7
  show SS triv B0 H0 _ [.dat (.str z), .no, .no] _ _ _ _
  refine ss_seq (ssd_asg (d := .str (dgT z)) ?_ ?_)
  · refine (ed_if (eb_tru (ed_startswith (by walk_at "ed") (by walk_at "ed"))) (fun _ => ed_slS (z := z) (by omega) (by walk_at "ed") (edo_some ed_int) edo_none) (fun _ => by walk_at "ed")).is ?_
    show (if Txt.startswith z "-" = true then _ else _) = _
    unfold dgT
    split <;> rfl
  · have len : ED triv (tCB (fun xs H Q => ∃ x n, xs = [x] ∧ LenV K x H n ∧ Q (.int n) H) (tCons (tVar 1) tNil)) [.dat (.str z), .dat (.str (dgT z)), .no] (.int ((dgT z).length : Nat)) := ed_cb (by walk_at "ed") (cd_len rfl (by show (dgT z).length ≤ 100000; omega))
    refine ss_seq (ssd_ifF (EB.is (eb_or (eb_not (eb_test (ed_chain ed_int len od_le (fun _ => ed_int) (fun _ => od_le)))) (fun _ => eb_not (eb_tru (ed_isdecimal (by walk_at "ed"))))) ?_) (ss_next ?_))
    · have e1 : decide ((1 : Int) ≤ ((dgT z).length : Nat)) = true := by
        rw [decide_eq_true_eq]
        omega
      have e2 : decide (((dgT z).length : Nat) ≤ (9 : Int)) = true := by
        rw [decide_eq_true_eq]
        omega
      show ((!(decide ((1 : Int) ≤ ((dgT z).length : Nat)) && decide (((dgT z).length : Nat) ≤ (9 : Int)))) || !Txt.isdecimal (dgT z)) = false
      rw [e1, e2, h4]
      rfl
    · refine ss_seq (ssd_asg (d := .int i) (ed_cb (by walk_at "ed") (cd_intText h5 (by omega))) ?_)
      refine ssd_ret (ed_ifT (EB.is (eb_test (ed_op (ed_cb (eda_cons (ed_var rfl) eda_nil) (cd_strInt (i := i) ?_)) (ed_var rfl) od_eqs)) ?_) (by walk_at "ed")) rfl
      · have : i.natAbs < 2 ^ 3 := by omega
        by_cases hz : i.natAbs = 0
        · rw [hz]
          decide
        · have := (Nat.log2_lt hz).mpr this
          omega
      · exact decide_eq_true h6
theorem sc_is_fraction : FnScope ["value", "part", "top", "bottom"] ["value"] (defScope s_is_fraction) := ⟨rfl, rfl, rfl, by decide +kernel, rfl, by decide +kernel, by decide +kernel⟩
def F_is_fraction (ds : List D) (d : D) : Prop := ∃ t b : Int, ds = [dr t b] ∧ 1 ≤ b ∧ d = .bl (decide (Nat.gcd t.natAbs b.natAbs = 1))
theorem ok_is_fraction (T : Txt K mg) : Cal P w K mg base "is_fraction" 1 (psp F_is_fraction) := by
  refine psp_mk T.d_is_fraction T.g_is_fraction sc_is_fraction (fun _ _ _ _ _ _ us hl => match us, hl with | [_], _ => rfl) (fun ds d ⟨a, _, e, _⟩ => by rw [e] <;> rfl) (fun cdv A outer s H E hr => ⟨_, (pss_cons (ps_if (PW.pt (pw_or (pt_not (pt_truthK K (pe_callB (call_isK K) (by rfl) T.b_isinstance (by decide +kernel) (pa_cons (pv 0) (pa_cons (pe_bltn (v := .ty "tuple") (by rfl) T.b_tuple (by decide +kernel) rfl) pa_nil))) (by intro _; rfl))) (pw_or1 (pt_cmpR (op_neK K hr.units) (pe_callB (call_lenK K) (by rfl) T.b_len (by decide +kernel) (pa_cons (pv 0) pa_nil)) pe_int (nomark _)))))
      (pss_one (ps_ret pe_bl))
      pss_nil)
    (pss_cons (ps_asg (pv 0) (pg_tupK K rfl (pgs_cons (pg_name (i := 2) sc_is_fraction.nd rfl (Or.inl rfl)) (pgs_cons (pg_name (i := 3) sc_is_fraction.nd rfl (Or.inl rfl)) pgs_nil))))
    (pss_cons (ps_for PassesOwn.never rfl (pi_seqK K (pe_tup (pa_cons (pv 2) (pa_cons (pv 3) pa_nil)))) (pg_name (i := 1) sc_is_fraction.nd rfl (Or.inl rfl))
      (pss_one (ps_if (PW.pt (pw_or (pt_truthK K (pe_callB (call_isK K) (by rfl) T.b_isinstance (by decide +kernel) (pa_cons (pv 1) (pa_cons (pe_bltn (v := .ty "bool") (by rfl) T.b_bool (by decide +kernel) rfl) pa_nil))) (by intro _; rfl)) (pw_or1 (pt_not (pt_truthK K (pe_callB (call_isK K) (by rfl) T.b_isinstance (by decide +kernel) (pa_cons (pv 1) (pa_cons (pe_bltn (v := .ty "int") (by rfl) T.b_int (by decide +kernel) rfl) pa_nil))) (by intro _; rfl))))))
          (pss_one (ps_ret pe_bl))
          pss_nil)))
    (pss_one (ps_ret (pe_and (pe_cmpR op_ge (pv 3) pe_int (nomark _)) (pe_one (pe_cmpR (op_eqK K hr.units) (pe_callBfun cr_gcd rfl T.m_gcd (pa_cons (pv 2) (pa_cons (pv 3) pa_nil))) pe_int (nomark _))))))))), ?_⟩)
  intro B0 H0 ds d h
  obtain ⟨t, b, rfl, hb, rfl⟩ := h
  show SS triv B0 H0 _ [.dat (dr t b), .no, .no, .no] _ _ _ _
  refine ss_seq (ssd_ifF (EB.is (eb_or (eb_not (eb_tru (ed_isi (x := .tup [.int t, .int b]) (b := true) (ed_var rfl) rfl (by decide +kernel)))) (fun _ => eb_test (ed_op (ed_lenT (ed_var rfl)) ed_int od_nei))) (by rfl)) (ss_next ?_))
  refine ss_seq (ssd_asgG (ed_var rfl) (gs_tup (ds := [.int t, .int b]) (gss_cons gs_name (gss_cons gs_name gss_nil)) rfl) ?_)
  show SS triv B0 H0 _ [.dat (dr t b), .no, .dat (.int t), .dat (.int b)] _ _ _ _
  refine ss_seq (ssd_for (xs := [.int t, .int b]) (P := fun _ Γ => ∃ s, Γ = [.dat (dr t b), s, .dat (.int t), .dat (.int b)]) (wid_seq (.inr rfl) (by walk_at "ed")) ⟨_, rfl⟩ ?_ ?_)
  · rintro i x Γ hx ⟨s, rfl⟩
    refine ⟨_, gs_name, ?_⟩
    have hx : ∃ j, x = .int j := by
      have := List.mem_of_getElem? hx
      simp only [List.mem_cons, List.not_mem_nil, or_false] at this
      rcases this with rfl | rfl
      · exact ⟨_, rfl⟩
      · exact ⟨_, rfl⟩
    obtain ⟨j, rfl⟩ := hx
    show SS triv B0 H0 _ [.dat (dr t b), .dat (.int j), .dat (.int t), .dat (.int b)] _ _ _ _
    exact ssd_ifF (EB.is (eb_or (eb_tru (ed_isi (x := .int j) (b := false) (ed_var rfl) rfl (by decide +kernel))) (fun _ => eb_not (eb_tru (ed_isi (x := .int j) (b := true) (ed_var rfl) rfl (by decide +kernel))))) (by rfl)) (ss_next ⟨_, rfl⟩)
  · rintro Γ ⟨s, rfl⟩
    refine ssd_ret (ed_andV (ed_op (ed_var rfl) ed_int od_ge) (fun _ => ed_op (ed_cb (by walk_at "ed") cd_gcd) ed_int od_eqi)) ?_
    rw [decide_eq_true hb, Bool.true_and]
    congr 1
    rw [decide_eq_decide]
    omega
theorem sc_read_fraction : FnScope ["text", "parts", "top", "bottom"] ["text"] (defScope s_read_fraction) := ⟨rfl, rfl, rfl, by decide +kernel, rfl, by decide +kernel, by decide +kernel⟩
def F_read_fraction (ds : List D) (d : D) : Prop := ∃ (l : Lf) (q : Int × Int), l.v = some q ∧ ds = [.str l.z] ∧ d = dp q
theorem ok_read_fraction (T : Txt K mg) : Cal P w K mg base "read_fraction" 2 (psp F_read_fraction) := by
  have c_read_integer := ok_read_integer (P := P) (w := w) (base := base) T
  have c_is_fraction := ok_is_fraction (P := P) (w := w) (base := base) T
  refine psp_mk T.d_read_fraction T.g_read_fraction sc_read_fraction (fun _ _ _ _ _ _ us hl => match us, hl with | [_], _ => rfl) (fun ds d ⟨a, _, _, e, _⟩ => by rw [e] <;> rfl) (fun cdv A outer s H E hr => ⟨_, (pss_cons (ps_set (i := 1) sc_read_fraction.nd rfl (Or.inl rfl) (pe_split (pv 0) pe_str))
    (pss_cons (ps_if (pt_cmpR op_gt (pe_callB (call_lenK K) (by rfl) T.b_len (by decide +kernel) (pa_cons (pv 1) pa_nil)) pe_int (nomark _))
      (pss_one (ps_ret pe_non))
      pss_nil)
    (pss_cons (ps_set (i := 2) sc_read_fraction.nd rfl (Or.inl rfl) (pe_cal c_read_integer (hr.mono (by decide)) rfl (pa_cons (pe_ix (ix_seqK K) (pv 1) pe_int (fun _ _ => rfl)) pa_nil)))
    (pss_cons (ps_if (PW.pt (pw_or (pt_cmpR op_isN (pv 2) pe_non (nomark _)) (pw_or1 (pt_cmpR (op_eqK K hr.units) (pe_callB (call_lenK K) (by rfl) T.b_len (by decide +kernel) (pa_cons (pv 1) pa_nil)) pe_int (nomark _)))))
      (pss_one (ps_ret (pe_ifExp (pt_cmpR op_isN (pv 2) pe_non (nomark _)) pe_non (pe_tup (pa_cons (pv 2) (pa_cons pe_int pa_nil))))))
      pss_nil)
    (pss_cons (ps_set (i := 3) sc_read_fraction.nd rfl (Or.inl rfl) (pe_cal c_read_integer (hr.mono (by decide)) rfl (pa_cons (pe_ix (ix_seqK K) (pv 1) pe_int (fun _ _ => rfl)) pa_nil)))
    (pss_cons (ps_if (PW.pt (pw_or (pt_cmpR op_isN (pv 3) pe_non (nomark _)) (pw_or (pt_cmpR op_lt (pv 3) pe_int (nomark _)) (pw_or1 (pt_not (pt_truthK K (pe_cal c_is_fraction (hr.mono (by decide)) rfl (pa_cons (pe_tup (pa_cons (pv 2) (pa_cons (pv 3) pa_nil))) pa_nil)) (by intro _; rfl)))))))
      (pss_one (ps_ret pe_non))
      pss_nil)
    (pss_one (ps_ret (pe_tup (pa_cons (pv 2) (pa_cons (pv 3) pa_nil))))))))))), ?_⟩)
  intro B0 H0 ds d h
  obtain ⟨l, ⟨t, b⟩, hv, rfl, rfl⟩ := h
  obtain ⟨h1, h2, h3, h4, h5, h6, h7⟩ := lf_ok _ _ hv
  show SS triv B0 H0 _ [.dat (.str l.z), .no, .no, .no] _ _ _ _
  refine ss_seq (ssd_asg (d := .lst (l.parts.map fun p => .str p.1)) ?_ ?_)
  · refine (ed_of_el (edl_split (by walk_at "ed") ed_str (by decide) (by omega))).is ?_
    rw [h2, List.map_map]
    rfl
  rcases h4 with ⟨e, hb⟩ | ⟨x, y, e, hb2, hb4, hg⟩
  · have hm : (l.z, t) ∈ intT := h3 _ (by rw [e]; simp)
    rw [e]
    show SS triv B0 H0 _ [.dat (.str l.z), .dat (.lst [.str l.z]), .no, .no] _ _ _ _
    have hb : b = 1 := hb
    subst hb
    refine ss_seq (ssd_ifF (EB.is (eb_test (ed_op (ed_lenL (ed_var rfl)) ed_int od_gt)) (by rfl)) (ss_next ?_))
    refine ss_seq (ssd_asg (ed_call (by walk_at "ed") ⟨_, hm, rfl, rfl⟩) ?_)
    refine ss_seq (ssd_ifT (EB.is (eb_or (eb_test (ed_op (ed_var rfl) ed_non od_isN)) (fun _ => eb_test (ed_op (ed_lenL (ed_var rfl)) ed_int od_eqi))) (by rfl)) ?_)
    exact ssd_ret (ed_ifF (EB.is (eb_test (ed_op (ed_var rfl) ed_non od_isN)) (by rfl)) (by walk_at "ed")) (by rfl)
  · have hm : (x, t) ∈ intT := h3 _ (by rw [e]; simp)
    have hm2 : (y, b) ∈ intT := h3 _ (by rw [e]; simp)
    rw [e]
    show SS triv B0 H0 _ [.dat (.str l.z), .dat (.lst [.str x, .str y]), .no, .no] _ _ _ _
    have hb2 : 2 ≤ b := hb2
    refine ss_seq (ssd_ifF (EB.is (eb_test (ed_op (ed_lenL (ed_var rfl)) ed_int od_gt)) (by rfl)) (ss_next ?_))
    refine ss_seq (ssd_asg (ed_call (by walk_at "ed") ⟨_, hm, rfl, rfl⟩) ?_)
    refine ss_seq (ssd_ifF (EB.is (eb_or (eb_test (ed_op (ed_var rfl) ed_non od_isN)) (fun _ => eb_test (ed_op (ed_lenL (ed_var rfl)) ed_int od_eqi))) (by rfl)) (ss_next ?_))
    refine ss_seq (ssd_asg (ed_call (by walk_at "ed") ⟨_, hm2, rfl, rfl⟩) ?_)
    refine ss_seq (ssd_ifF (EB.is (eb_or (eb_test (ed_op (ed_var rfl) ed_non od_isN)) (fun _ => eb_or (eb_test (ed_op (ed_var rfl) ed_int od_lt)) (fun _ => eb_not (eb_tru (ed_call (ds := [.tup [.int t, .int b]]) (by walk_at "ed") ⟨t, b, rfl, by omega, rfl⟩))))) ?_) (ss_next ?_))
    · have e1 : decide (b < 2) = false := by
        rw [decide_eq_false_iff_not]
        omega
      show (false || (decide (b < 2) || !decide (Nat.gcd t.natAbs b.natAbs = 1))) = false
      rw [e1, decide_eq_true hg]
      rfl
    · exact ssd_ret (by walk_at "ed") (by rfl)
end
end K82
set_option Elab.async false
set_option linter.all false
set_option maxRecDepth 100000
set_option maxHeartbeats 2000000
namespace K82
open PySem PySem.Spec PyProof.Rows L2 Evl Dl K82Head
local macro_rules | `(tactic| walk_at "ed") => `(tactic| first
  | exact ed_var rfl | exact ed_int | exact ed_str | exact ed_bl | exact ed_non | exact eda_nil | exact edo_none
  | exact od_add | exact od_sub | exact od_lt | exact od_le | exact od_gt | exact od_ge | exact od_eqi | exact od_nei | exact od_eqs | exact od_nes | exact od_isN | exact od_notN | exact cd_int | exact cd_abs | exact cd_max2 | exact cd_gcd
  | ((with_reducible apply eda_cons) <;> walk_at "ed") | ((with_reducible apply ed_op) <;> walk_at "ed") | ((with_reducible apply ed_cb) <;> walk_at "ed") | ((with_reducible apply eb_test) <;> walk_at "ed") | ((with_reducible apply eb_tru) <;> walk_at "ed") | ((with_reducible apply ed_tup) <;> walk_at "ed")
  | ((with_reducible apply ed_neg) <;> walk_at "ed") | ((with_reducible apply eb_not) <;> walk_at "ed") | ((with_reducible apply edl_lst) <;> walk_at "ed") | ((with_reducible apply edo_some) <;> walk_at "ed") | ((with_reducible apply ed_call) <;> walk_at "ed")
  | (apply od_mul; assumption) | (apply od_rem; omega) | (apply od_div <;> omega) | (apply od_ixT; rfl) | (apply od_ixL; rfl)
  | (with_reducible exact True.intro) | (simp; done) | skip)
/-! ### terms, tokens, the machine of both readers -/
inductive Tm where
  | lf (l : Lf) | nd (s : Sg) (a b : Tm)
inductive Tok where
  | lp | rp | sg (s : Sg) | lf (l : Lf)
  deriving DecidableEq
def Tok.z : Tok → Str
  | .lp => "(" | .rp => ")" | .sg s => s.z | .lf l => l.z
inductive Po where
  | lf (l : Lf) | op (s : Sg)
  deriving DecidableEq
def Tm.toks : Tm → List Tok
  | .lf l => [.lf l]
  | .nd s a b => .lp :: (a.toks ++ .sg s :: (b.toks ++ [.rp]))
def Tm.post : Tm → List Po
  | .lf l => [.lf l]
  | .nd s a b => a.post ++ b.post ++ [.op s]
inductive Wt where
  | t | s | c
def Wt.zP : Wt → Str
  | .t => "term" | .s => "sign" | .c => ")"
def Wt.zL : Wt → Str
  | .t => "T" | .s => "sign" | .c => ")"
structure Ms where
  W : List Wt
  S : List Sg
  O : List Po
inductive Stp : Tok → Ms → Ms → Prop where
  | lp (W S O) : Stp .lp ⟨W ++ [.t], S, O⟩ ⟨W ++ [.c, .t, .s, .t], S, O⟩
  | lf (l W S O) : Stp (.lf l) ⟨W ++ [.t], S, O⟩ ⟨W, S, O ++ [.lf l]⟩
  | sg (s W S O) : Stp (.sg s) ⟨W ++ [.s], S, O⟩ ⟨W, S ++ [s], O⟩
  | rp (s W S O) : Stp .rp ⟨W ++ [.c], S ++ [s], O⟩ ⟨W, S, O ++ [.op s]⟩
inductive Run : List Tok → Ms → Ms → Prop where
  | nil (m) : Run [] m m
  | cons {t r m1 m2 m3} : Stp t m1 m2 → Run r m2 m3 → Run (t :: r) m1 m3
theorem Run.append {a b : List Tok} {m1 m2 m3 : Ms} (h : Run a m1 m2) (h2 : Run b m2 m3) : Run (a ++ b) m1 m3 := by
  induction h with
  | nil m => exact h2
  | cons s _ ih => exact .cons s (ih h2)
theorem run_tm : ∀ (t : Tm) (W : List Wt) (S : List Sg) (O : List Po), Run t.toks ⟨W ++ [.t], S, O⟩ ⟨W, S, O ++ t.post⟩
  | .lf l, W, S, O => .cons (.lf l W S O) (.nil _)
  | .nd s a b, W, S, O => by
    have h1 := run_tm a (W ++ [.c, .t, .s]) S O
    have h2 := run_tm b (W ++ [.c]) (S ++ [s]) (O ++ a.post)
    rw [List.append_assoc] at h1 h2
    refine .cons (.lp W S O) (h1.append (.cons ?_ (h2.append (.cons (m2 := ⟨W, S, O ++ a.post ++ b.post ++ [.op s]⟩) ?_ ?_))))
    · have z := Stp.sg s (W ++ [.c, .t]) S (O ++ a.post)
      rw [List.append_assoc] at z
      exact z
    · exact Stp.rp s W S (O ++ a.post ++ b.post)
    · show Run [] _ ⟨W, S, O ++ (a.post ++ b.post ++ [.op s])⟩
      rw [← List.append_assoc, ← List.append_assoc]
      exact .nil _
def m0 : Ms := ⟨[.t], [], []⟩
theorem run_all (t : Tm) : Run t.toks m0 ⟨[], [], t.post⟩ := run_tm t [] [] []
/-! ### as data -/
def lfP (l : Lf) : D := match l.v with
  | some q => .tup [.str "number", dp q]
  | none => .tup [.str l.z, .non]
def lfL (l : Lf) : D := match l.v with
  | some q => dp q
  | none => .str l.z
def Po.dP : Po → D
  | .lf l => lfP l
  | .op s => .tup [.str s.z, .non]
def Po.dL : Po → D
  | .lf l => lfL l
  | .op s => .str s.z
def toksD (ts : List Tok) : List D := ts.map fun t => .str t.z
theorem lf_none {l : Lf} (h : l.v = none) : l = .x ∨ l = .y := by
  cases l <;> simp [Lf.v] at h ⊢
theorem lf_some {l : Lf} {q : Int × Int} (h : l.v = some q) : decide (l.z = "x") = false ∧ decide (l.z = "y") = false ∧ decide (l.z = "(") = false ∧ decide (l.z = "root") = false ∧ decide (l.z = ")") = false := by
  cases l <;> simp [Lf.v] at h <;> decide +kernel
theorem sg_in (s : Sg) : inV (.str s.z) ((["+", "-", "*", "/"] : List Str).map V.str) = true := by
  cases s <;> decide +kernel
section
variable {P : Program} {w : World} {K : PySem.W.Frag} {mg : Str → Option Value} {base : Heap}
theorem _root_.K82Head.Txt.g_SIGNS (T : Txt K mg) : mg "SIGNS" = some (.ref (He.ga K "SIGNS")) := by
  obtain ⟨h, X, G⟩ := T.h
  have e : tupB K "SIGNS" ["+", "-", "*", "/"] = true := (He.ba (He.ba T.x).2).1
  unfold tupB at e
  exact PySem.W.mg_of X G (He.eqO_ok (He.ba e).1)
theorem signs_at (T : Txt K mg) (H : Hp) : SqT K H (He.ga K "SIGNS") ((["+", "-", "*", "/"] : List Str).map V.str) := by
  have e : tupB K "SIGNS" ["+", "-", "*", "/"] = true := (He.ba (He.ba T.x).2).1
  unfold tupB at e
  have e2 := (He.ba e).2
  cases eo : K.lookup (He.ga K "SIGNS") with
  | none =>
    rw [eo] at e2
    cases e2
  | some o =>
    rw [eo] at e2
    obtain ⟨e3, e4⟩ := He.ba e2
    cases ed : o.data with
    | seq its n =>
      rw [ed] at e4
      have e5 := of_decide_eq_true e4
      have hl : its.toList.length = 4 := by
        have := congrArg List.length e5
        simpa using this
      exact .inr ⟨o, its, n, eo, of_decide_eq_true e3, ed, sz_of (by rw [Array.length_toList] at hl; omega), vals_abs e5 (by simp)⟩
    | _ =>
      rw [ed] at e4
      cases e4
theorem sc_term_step : FnScope ["at", "item", "value"] ["at", "item"] (defScope s_term_step) := ⟨rfl, rfl, rfl, by decide +kernel, rfl, by decide +kernel, by decide +kernel⟩
def F_term_step (ds : List D) (d : D) : Prop := ∃ (k : Int) (l : Lf), ds = [.int k, .str l.z] ∧ d = lfP l
theorem ok_term_step (T : Txt K mg) : Cal P w K mg base "_term_step" 3 (psp F_term_step) := by
  have c_read_fraction := ok_read_fraction (P := P) (w := w) (base := base) T
  refine psp_mk T.d_term_step T.g_term_step sc_term_step (fun _ _ _ _ _ _ us hl => match us, hl with | [_, _], _ => rfl) (fun ds d ⟨a, _, e, _⟩ => by rw [e] <;> rfl) (fun cdv A outer s H E hr => ⟨_, (pss_cons (ps_if (PW.pt (pw_or (pt_cmpR (op_eqK K hr.units) (pv 1) pe_str (nomark _)) (pw_or1 (pt_cmpR (op_eqK K hr.units) (pv 1) pe_str (nomark _)))))
      (pss_one (ps_ret (pe_tup (pa_cons (pv 1) (pa_cons pe_non pa_nil)))))
      pss_nil)
    (pss_cons (ps_set (i := 2) sc_term_step.nd rfl (Or.inl rfl) (pe_cal c_read_fraction (hr.mono (by decide)) rfl (pa_cons (pv 1) pa_nil)))
    (pss_cons (ps_if (pt_cmpR op_isN (pv 2) pe_non (nomark _))
      (pss_one ps_never)
      pss_nil)
    (pss_one (ps_ret (pe_tup (pa_cons pe_str (pa_cons (pv 2) pa_nil)))))))), ?_⟩)
  intro B0 H0 ds d h
  obtain ⟨k, l, rfl, rfl⟩ := h
  show SS triv B0 H0 _ [.dat (.int k), .dat (.str l.z), .no] _ _ _ _
  cases hv : l.v with
  | none =>
    have e : lfP l = .tup [.str l.z, .non] := by
      unfold lfP
      rw [hv]
    rw [e]
    refine ss_seq (ssd_ifT (EB.is (eb_or (eb_test (ed_op (ed_var rfl) ed_str od_eqs)) (fun _ => eb_test (ed_op (ed_var rfl) ed_str od_eqs))) ?_) (ssd_ret (by walk_at "ed") rfl))
    rcases lf_none hv with rfl | rfl <;> decide +kernel
  | some q =>
    have e : lfP l = .tup [.str "number", dp q] := by
      unfold lfP
      rw [hv]
    rw [e]
    obtain ⟨h1, h2, _⟩ := lf_some hv
    refine ss_seq (ssd_ifF (EB.is (eb_or (eb_test (ed_op (ed_var rfl) ed_str od_eqs)) (fun _ => eb_test (ed_op (ed_var rfl) ed_str od_eqs))) (by rw [h1, h2]; rfl)) (ss_next ?_))
    refine ss_seq (ssd_asg (ed_call (by walk_at "ed") ⟨l, q, hv, rfl, rfl⟩) ?_)
    refine ss_seq (ssd_ifF (EB.is (eb_test (ed_op (ed_var rfl) ed_non od_isN)) (by rfl)) (ss_next ?_))
    exact ssd_ret (by walk_at "ed") rfl
/-! ### _postfix -/
theorem sc_postfix : FnScope ["items", "begin", "wanted", "signs", "steps", "at", "item", "part"] ["items"] (defScope s_postfix) := ⟨rfl, rfl, rfl, by decide +kernel, rfl, by decide +kernel, by decide +kernel⟩
def gapP (m : Ms) : List D := m.W.map fun x => .str x.zP
def F_postfix (ds : List D) (d : D) : Prop := ∃ (r : Bool) (t : Tm), t.toks.length ≤ 100 ∧ ds = [.lst ((if r = true then [.str "root"] else []) ++ toksD t.toks)] ∧ d = .lst (t.post.map Po.dP)
theorem cut_one {x : D} {r : List D} : Dl.cutD (x :: r) none (some 1) = [x] := by
  unfold Dl.cutD
  have e1 : HT.sIx (x :: r).length 0 none = 0 := rfl
  have e2 : HT.sIx (x :: r).length (x :: r).length (some 1) = 1 := by
    unfold HT.sIx
    simp
  rw [e1, e2]
  rfl
theorem cut_rest {x : D} {r : List D} : Dl.cutD (x :: r) (some 1) none = r := by
  unfold Dl.cutD
  have e1 : HT.sIx (x :: r).length 0 (some 1) = 1 := by
    unfold HT.sIx
    simp
  have e2 : HT.sIx (x :: r).length (x :: r).length none = r.length + 1 := rfl
  rw [e1, e2]
  show List.take (r.length + 1 - 1) r = r
  exact List.take_of_length_le (by omega)
theorem cut_all {r : List D} : Dl.cutD r (some 0) none = r := by
  unfold Dl.cutD
  have e1 : HT.sIx r.length 0 (some 0) = 0 := by
    unfold HT.sIx
    simp
  have e2 : HT.sIx r.length r.length none = r.length := rfl
  rw [e1, e2]
  show List.take (r.length - 0) r = r
  exact List.take_of_length_le (by omega)
theorem toks_cons : ∀ t : Tm, ∃ a r, t.toks = a :: r ∧ (a = .lp ∨ ∃ l, a = .lf l)
  | .lf l => ⟨_, _, rfl, .inr ⟨l, rfl⟩⟩
  | .nd s a b => ⟨_, _, rfl, .inl rfl⟩
theorem not_root (t : Tm) : ∃ a r, t.toks = a :: r ∧ SeqAt.shaped (pd (.lst [.str a.z])) = true ∧ PyData.eqv (pd (.lst [.str a.z])) (pd (.lst [.str "root"])) = false := by
  obtain ⟨a, r, e, h⟩ := toks_cons t
  refine ⟨a, r, e, ?_⟩
  rcases h with rfl | ⟨l, rfl⟩
  · decide +kernel
  · cases l <;> decide +kernel
theorem zP_ne : decide ((Wt.s.zP : Str) = "term") = false ∧ decide ((Wt.c.zP : Str) = "term") = false ∧ decide ((Wt.c.zP : Str) = "sign") = false := by decide +kernel
theorem lf_lp (l : Lf) : decide (l.z = "(") = false := by cases l <;> decide +kernel
/-- what a run keeps within bounds -/
structure Fits (i : Nat) (m : Ms) : Prop where
  w : m.W.length ≤ 3 * i + 1
  s : m.S.length ≤ i
  o : m.O.length ≤ i
theorem Fits.step {i : Nat} {t : Tok} {m m2 : Ms} (f : Fits i m) (h : Stp t m m2) : Fits (i + 1) m2 := by
  obtain ⟨f1, f2, f3⟩ := f
  cases h <;> constructor <;> simp only [List.length_append, List.length_cons, List.length_nil] at * <;> omega
theorem ok_postfix (T : Txt K mg) : Cal P w K mg base "_postfix" 4 (psp F_postfix) := by
  have c_term_step := ok_term_step (P := P) (w := w) (base := base) T
  refine psp_mk T.d_postfix T.g_postfix sc_postfix (fun _ _ _ _ _ _ us hl => match us, hl with | [_], _ => rfl) (fun ds d ⟨a, _, _, e, _⟩ => by rw [e] <;> rfl) (fun cdv A outer s H E hr => ⟨_, (pss_cons (ps_set (i := 1) sc_postfix.nd rfl (Or.inl rfl) (pe_ifExp (pt_cmpR (op_eqK K hr.units) (pe_slice (sl_allK K) (pv 0) po_none (po_some pe_int)) (pe_lst (pa_cons pe_str pa_nil)) (nomark _)) pe_int pe_int))
    (pss_cons (ps_set (i := 2) sc_postfix.nd rfl (Or.inl rfl) (pe_lst (pa_cons pe_str pa_nil)))
    (pss_cons (ps_set (i := 3) sc_postfix.nd rfl (Or.inl rfl) (pe_lst pa_nil))
    (pss_cons (ps_set (i := 4) sc_postfix.nd rfl (Or.inl rfl) (pe_lst pa_nil))
    (pss_cons (ps_for PassesOwn.never rfl (pi_enumN K rfl T.b_enumerate (pa_cons (pe_slice (sl_allK K) (pv 0) (po_some (pv 1)) po_none) pa_nil) (pe_op (op_addK K) (pv 1) pe_int)) (pg_tupK K rfl (pgs_cons (pg_name (i := 5) sc_postfix.nd rfl (Or.inl rfl)) (pgs_cons (pg_name (i := 6) sc_postfix.nd rfl (Or.inl rfl)) pgs_nil)))
      (pss_cons (ps_if (pt_not (pt_truthK K (pv 2) (by intro _; rfl)))
          (pss_one ps_never)
          pss_nil)
        (pss_cons (ps_set (i := 7) sc_postfix.nd rfl (Or.inl rfl) (pe_bm0K K PySem.F.plainAttrs_list PySem.F.slot_list_pop PySem.F.type_list_pop mt_pop (pv 2)))
        (pss_one (ps_if (PW.pt (pw_and (pt_cmpR (op_eqK K hr.units) (pv 7) pe_str (nomark _)) (pw_and1 (pt_cmpR (op_eqK K hr.units) (pv 6) pe_str (nomark _)))))
          (pss_one (ps_expr (pe_bmK K PySem.F.plainAttrs_list PySem.F.slot_list_extend PySem.F.type_list_extend mt_extend (pv 2) (pa_cons (pe_lst (pa_cons pe_str (pa_cons pe_str (pa_cons pe_str (pa_cons pe_str pa_nil))))) pa_nil))))
          (pss_one (ps_if (pt_cmpR (op_eqK K hr.units) (pv 7) pe_str (nomark _))
              (pss_one (ps_expr (pe_bmK K PySem.F.plainAttrs_list PySem.F.slot_list_append PySem.F.type_list_append mt_append (pv 4) (pa_cons (pe_cal c_term_step (hr.mono (by decide)) rfl (pa_cons (pv 5) (pa_cons (pv 6) pa_nil))) pa_nil))))
              (pss_one (ps_if (pt_cmpR (op_eqK K hr.units) (pv 7) pe_str (nomark _))
                  (pss_cons (ps_if (pt_cmpR (op_niK K (hu65 hr)) (pv 6) (pe_glob (v := .ref (He.ga K "SIGNS")) rfl T.g_SIGNS rfl) (by with_unfolding_all rfl))
                      (pss_one ps_never)
                      pss_nil)
                    (pss_one (ps_expr (pe_bmK K PySem.F.plainAttrs_list PySem.F.slot_list_append PySem.F.type_list_append mt_append (pv 3) (pa_cons (pv 6) pa_nil)))))
                  (pss_cons (ps_if (pt_cmpR (op_neK K hr.units) (pv 6) pe_str (nomark _))
                      (pss_one ps_never)
                      pss_nil)
                    (pss_one (ps_expr (pe_bmK K PySem.F.plainAttrs_list PySem.F.slot_list_append PySem.F.type_list_append mt_append (pv 4) (pa_cons (pe_tup (pa_cons (pe_bm0K K PySem.F.plainAttrs_list PySem.F.slot_list_pop PySem.F.type_list_pop mt_pop (pv 3)) (pa_cons pe_non pa_nil))) pa_nil))))))))))))))
    (pss_cons (ps_if (pt_truthK K (pv 2) (by intro _; rfl))
      (pss_one ps_never)
      pss_nil)
    (pss_one (ps_ret (pv 4))))))))), ?_⟩)
  intro B0 H0 ds d h
  obtain ⟨r, t, hl, rfl, rfl⟩ := h
  generalize hxs : ((if r = true then [.str "root"] else []) ++ toksD t.toks : List D) = xs
  show SS triv B0 H0 _ [.dat (.lst xs), .no, .no, .no, .no, .no, .no, .no] _ _ _ _
  have hb : ∃ b : Int, (b = 0 ∨ b = 1) ∧ Dl.cutD xs (some b) none = toksD t.toks ∧ ED triv (tIf (tTest (tOp (rEqU K) (tSl (rSlU K) (tVar 0) tNoPart (tPart (tC (.int 1)))) (tLst (tCons (tC (.str "root")) tNil)))) (tC (.int 1)) (tC (.int 0))) [.dat (.lst xs), .no, .no, .no, .no, .no, .no, .no] (.int b) := by
    cases r with
    | true =>
      have exs : xs = .str "root" :: toksD t.toks := hxs.symm
      rw [exs]
      refine ⟨1, .inr rfl, cut_rest, ed_ifT (EB.is (eb_test (ed_op (ed_of_el (el_slL (ed_var rfl) edo_none (edo_some ed_int))) (ed_of_el (edl_lst (eda_cons ed_str eda_nil))) (od_eqD ?_ rfl ?_ ?_))) ?_) ed_int⟩
      all_goals try rw [cut_one]
      all_goals decide +kernel
    | false =>
      have exs : xs = toksD t.toks := hxs.symm
      obtain ⟨a, r, e, h1, h2⟩ := not_root t
      rw [exs]
      refine ⟨0, .inl rfl, cut_all, ?_⟩
      rw [e]
      show ED triv _ [.dat (.lst (.str a.z :: toksD r)), .no, .no, .no, .no, .no, .no, .no] _
      refine ed_ifF (EB.is (eb_test (ed_op (ed_of_el (el_slL (ed_var rfl) edo_none (edo_some ed_int))) (ed_of_el (edl_lst (eda_cons ed_str eda_nil))) (od_eqD ?_ rfl ?_ (by decide +kernel)))) ?_) ed_int
      · rw [cut_one]
        rfl
      · rw [cut_one]
        exact h1
      · rw [cut_one]
        exact h2
  obtain ⟨b, hb01, hcut, hbeg⟩ := hb
  refine ss_seq (ssd_asg (d := .int b) hbeg ?_)
  refine ss_seq (ssd_asgO (edl_lst (eda_cons ed_str eda_nil)) ?_)
  refine ss_seq (ssd_asgO (edl_lst eda_nil) ?_)
  refine ss_seq (ssd_asgO (edl_lst eda_nil) ?_)
  refine ss_seq (ssd_for (xs := enumD (b + 1) (toksD t.toks)) (P := fun i Γ => ∃ m s5 s6 s7, Run (t.toks.drop i) m ⟨[], [], t.post⟩ ∧ Fits i m ∧ Γ = [.dat (.lst xs), .dat (.int b), .own (m.W.map fun x => .str x.zP), .own (m.S.map fun x => .str x.z), .own (m.O.map Po.dP), s5, s6, s7]) ?_ ⟨m0, .no, .no, .no, run_all t, ⟨by decide, by decide, by decide⟩, rfl⟩ ?_ ?_)
  · refine wid_enumN (eda_cons ?_ eda_nil) (ed_op (ed_var rfl) ed_int od_add) (by omega) (by omega)
    rw [← hcut]
    exact ed_of_el (el_slL (ed_var rfl) (edo_some (ed_var rfl)) edo_none)
  · rintro i x Γ hx ⟨m, s5, s6, s7, hr, hf, rfl⟩
    have hi : i < t.toks.length := by
      have := (List.getElem?_eq_some_iff.mp hx).1
      unfold enumD toksD at this
      rw [List.length_mapIdx, List.length_map] at this
      exact this
    have hx2 : x = .tup [.int (b + 1 + (i : Nat)), .str (t.toks[i]).z] := by
      unfold enumD toksD at hx
      rw [List.getElem?_mapIdx, List.getElem?_map, List.getElem?_eq_getElem hi] at hx
      exact (Option.some.inj hx).symm
    subst hx2
    rw [List.drop_eq_getElem_cons hi] at hr
    generalize t.toks[i] = tk at hr
    refine ⟨_, gs_tup (gss_cons gs_name (gss_cons gs_name gss_nil)) rfl, ?_⟩
    show SS triv B0 H0 _ [.dat (.lst xs), .dat (.int b), .own (m.W.map fun x => .str x.zP), .own (m.S.map fun x => .str x.z), .own (m.O.map Po.dP), .dat (.int (b + 1 + (i : Nat))), .dat (.str tk.z), s7] _ _ _ _
    cases hr with
    | cons st hr =>
      have hf2 := hf.step st
      obtain ⟨f1, f2, f3⟩ := hf2
      cases st with
      | lp W S O =>
        simp only [List.map_append, List.map_cons, List.map_nil]
        refine ss_seq (ssd_ifF (EB.is (eb_not (eb_truO rfl)) (by simp)) (ss_next ?_))
        refine ss_seq (ss_asgX (ex_pop rfl) ?_)
        rintro d G ⟨rfl, rfl⟩
        refine ssd_ifT (EB.is (eb_and (eb_test (ed_op (ed_var rfl) ed_str od_eqs)) (fun _ => eb_test (ed_op (ed_var rfl) ed_str od_eqs))) (by decide +kernel)) ?_
        refine ss_extend rfl (S := fun es => es = [.str ")", .str "term", .str "sign", .str "term"]) (edl_lst (by walk_at "ed")) fun es e => ⟨?_, ?_⟩
        · rw [e, List.length_map]
          simp only [List.length_append, List.length_cons, List.length_nil] at f1 ⊢
          omega
        · rw [e]
          exact ⟨_, _, _, _, hr, ⟨f1, f2, f3⟩, by simp only [List.map_append]; rfl⟩
      | lf l W S O =>
        simp only [List.map_append, List.map_cons, List.map_nil]
        refine ss_seq (ssd_ifF (EB.is (eb_not (eb_truO rfl)) (by simp)) (ss_next ?_))
        refine ss_seq (ss_asgX (ex_pop rfl) ?_)
        rintro d G ⟨rfl, rfl⟩
        refine ssd_ifF (EB.is (eb_and (eb_test (ed_op (ed_var rfl) ed_str od_eqs)) (fun _ => eb_test (ed_op (ed_var rfl) ed_str od_eqs))) ?_) ?_
        · show (decide ((Wt.t.zP : Str) = "term") && decide (l.z = "(")) = false
          rw [lf_lp, Bool.and_false]
        refine ssd_ifT (EB.is (eb_test (ed_op (ed_var rfl) ed_str od_eqs)) (by decide +kernel)) ?_
        refine ssd_append rfl (d := lfP l) (ed_call (by walk_at "ed") ⟨_, l, rfl, rfl⟩) ?_ ?_
        · rw [List.length_map]
          simp only [List.length_append, List.length_cons, List.length_nil] at f3
          omega
        · exact ⟨_, _, _, _, hr, ⟨f1, f2, f3⟩, by simp only [List.map_append]; rfl⟩
      | sg s W S O =>
        simp only [List.map_append, List.map_cons, List.map_nil]
        refine ss_seq (ssd_ifF (EB.is (eb_not (eb_truO rfl)) (by simp)) (ss_next ?_))
        refine ss_seq (ss_asgX (ex_pop rfl) ?_)
        rintro d G ⟨rfl, rfl⟩
        refine ssd_ifF (EB.is (eb_and (eb_test (ed_op (ed_var rfl) ed_str od_eqs)) (fun _ => eb_test (ed_op (ed_var rfl) ed_str od_eqs))) (by cases s <;> decide +kernel)) ?_
        refine ssd_ifF (EB.is (eb_test (ed_op (ed_var rfl) ed_str od_eqs)) (by decide +kernel)) ?_
        refine ssd_ifT (EB.is (eb_test (ed_op (ed_var rfl) ed_str od_eqs)) (by decide +kernel)) ?_
        refine ss_seq (ssd_ifF (EB.is (eb_test (ed_niK (a := s.z) (ed_var rfl) (signs_at T))) (by rw [sg_in]; rfl)) (ss_next ?_))
        refine ssd_append rfl (d := .str s.z) (ed_var rfl) ?_ ?_
        · rw [List.length_map]
          simp only [List.length_append, List.length_cons, List.length_nil] at f2
          omega
        · exact ⟨_, _, _, _, hr, ⟨f1, f2, f3⟩, by simp only [List.map_append]; rfl⟩
      | rp s W S O =>
        simp only [List.map_append, List.map_cons, List.map_nil]
        refine ss_seq (ssd_ifF (EB.is (eb_not (eb_truO rfl)) (by simp)) (ss_next ?_))
        refine ss_seq (ss_asgX (ex_pop rfl) ?_)
        rintro d G ⟨rfl, rfl⟩
        refine ssd_ifF (EB.is (eb_and (eb_test (ed_op (ed_var rfl) ed_str od_eqs)) (fun _ => eb_test (ed_op (ed_var rfl) ed_str od_eqs))) (by decide +kernel)) ?_
        refine ssd_ifF (EB.is (eb_test (ed_op (ed_var rfl) ed_str od_eqs)) (by decide +kernel)) ?_
        refine ssd_ifF (EB.is (eb_test (ed_op (ed_var rfl) ed_str od_eqs)) (by decide +kernel)) ?_
        refine ss_seq (ssd_ifF (EB.is (eb_test (ed_op (ed_var rfl) ed_str od_nes)) (by decide +kernel)) (ss_next ?_))
        refine ss_appendX ⟨_, rfl⟩ (ex_tup2 (z := .non) (ex_pop rfl) fun y G _ => ed_non) ?_
        rintro d G ⟨y, ⟨rfl, rfl⟩, rfl⟩
        refine ⟨_, rfl, ?_, ?_⟩
        · rw [List.length_map]
          simp only [List.length_append, List.length_cons, List.length_nil] at f3
          omega
        · exact ⟨_, _, _, _, hr, ⟨f1, f2, f3⟩, by simp only [List.map_append]; rfl⟩
  · rintro Γ ⟨m, s5, s6, s7, hr, hf, rfl⟩
    have hd : t.toks.drop (enumD (b + 1) (toksD t.toks)).length = [] := by
      refine List.drop_eq_nil_of_le ?_
      unfold enumD toksD
      rw [List.length_mapIdx, List.length_map]
      exact Nat.le_refl _
    rw [hd] at hr
    cases hr
    refine ss_seq (ssd_ifF (EB.is (eb_truO rfl) (by rfl)) (ss_next ?_))
    refine ss_freeze 4 rfl ?_
    exact ssd_ret (ed_var rfl) rfl
end
end K82
set_option Elab.async false
set_option linter.all false
set_option maxRecDepth 100000
set_option maxHeartbeats 2000000
namespace K82
open PySem PySem.Spec PyProof.Rows L2 Evl Dl K82Head TL
local macro_rules | `(tactic| walk_at "ed") => `(tactic| first
  | exact ed_var rfl | exact ed_int | exact ed_str | exact ed_bl | exact ed_non | exact eda_nil | exact edo_none
  | exact od_add | exact od_sub | exact od_lt | exact od_le | exact od_gt | exact od_ge | exact od_eqi | exact od_nei | exact od_eqs | exact od_nes | exact od_isN | exact od_notN | exact cd_int | exact cd_abs | exact cd_max2 | exact cd_gcd
  | ((with_reducible apply eda_cons) <;> walk_at "ed") | ((with_reducible apply ed_op) <;> walk_at "ed") | ((with_reducible apply ed_cb) <;> walk_at "ed") | ((with_reducible apply eb_test) <;> walk_at "ed") | ((with_reducible apply eb_tru) <;> walk_at "ed") | ((with_reducible apply ed_tup) <;> walk_at "ed")
  | ((with_reducible apply ed_neg) <;> walk_at "ed") | ((with_reducible apply eb_not) <;> walk_at "ed") | ((with_reducible apply edl_lst) <;> walk_at "ed") | ((with_reducible apply edo_some) <;> walk_at "ed") | ((with_reducible apply ed_call) <;> walk_at "ed")
  | (apply od_mul; assumption) | (apply od_rem; omega) | (apply od_div <;> omega) | (apply od_ixT; rfl) | (apply od_ixL; rfl)
  | (with_reducible exact True.intro) | (simp; done) | skip)
/-! ### texts of terms -/
def itemsOf (r : Bool) (t : Tm) : List Str := (if r = true then [("root" : Str)] else []) ++ t.toks.map Tok.z
def textOf (r : Bool) (t : Tm) : Str := Txt.join " " (itemsOf r t)
theorem tok_ok (a : Tok) : a.z ≠ "" ∧ a.z.length ≤ 4 ∧ 32 ∉ tl a.z ∧ (decide (121 ∈ a.z.cps.toList) = decide (a = .lf .y)) := by
  rcases a with _ | _ | s | l
  · decide +kernel
  · decide +kernel
  · cases s <;> decide +kernel
  · cases l <;> decide +kernel
theorem item_ok {r : Bool} {t : Tm} {z : Str} (h : z ∈ itemsOf r t) : z ≠ "" ∧ z.length ≤ 4 ∧ 32 ∉ tl z := by
  unfold itemsOf at h
  rcases List.mem_append.mp h with h | h
  · cases r with
    | true =>
      rw [if_pos rfl] at h
      rw [List.mem_singleton.mp h]
      decide +kernel
    | false => cases h
  · obtain ⟨a, _, rfl⟩ := List.mem_map.mp h
    exact ⟨(tok_ok a).1, (tok_ok a).2.1, (tok_ok a).2.2.1⟩
theorem items_ne (r : Bool) (t : Tm) : itemsOf r t ≠ [] := by
  obtain ⟨a, q, e, _⟩ := toks_cons t
  unfold itemsOf
  rw [e]
  simp
theorem items_len {r : Bool} {t : Tm} (h : t.toks.length ≤ 100) : (itemsOf r t).length ≤ 101 := by
  unfold itemsOf
  rw [List.length_append, List.length_map]
  split <;> simp only [List.length_cons, List.length_nil] <;> omega
theorem split_text (r : Bool) (t : Tm) : Txt.split (textOf r t) " " = itemsOf r t := split_join (s := 32) (S := []) (by decide +kernel) (by decide +kernel) (items_ne r t) fun p hp => (item_ok hp).2.2
theorem sum_le {n k : Nat} : ∀ {l : List Str}, (∀ z ∈ l, z.length ≤ k) → l.length ≤ n → (l.map (·.length)).sum ≤ n * k
  | [], _, _ => Nat.zero_le _
  | a :: r, h, hl => by
    rw [List.length_cons] at hl
    have h1 := sum_le (n := n - 1) (fun z hz => h z (List.mem_cons_of_mem _ hz)) (show r.length ≤ n - 1 by omega)
    have h2 := h a List.mem_cons_self
    rw [List.map_cons, List.sum_cons]
    have h3 : n * k = (n - 1) * k + k := by
      rw [← Nat.succ_mul, show (n - 1).succ = n by omega]
    omega
theorem text_len {r : Bool} {t : Tm} (h : t.toks.length ≤ 100) : (textOf r t).length ≤ 600 := by
  have h1 := StrLaws.join_length_le " " (itemsOf r t)
  have h2 := items_len (r := r) h
  have h3 := sum_le (n := 101) (k := 4) (fun z hz => (item_ok hz).2.1) h2
  have h4 : (" " : Str).length = 1 := by decide +kernel
  rw [h4, Nat.mul_one] at h1
  unfold textOf
  rw [join_eq]
  omega
def Tm.hasY (t : Tm) : Bool := decide (Tok.lf .y ∈ t.toks)
def Tm.wid (t : Tm) : Nat := if t.hasY = true then 2 else 1
theorem mem_joinL {c : Nat} {S : List Nat} (hc : c ∉ S) : ∀ ps : List (List Nat), c ∈ joinL S ps ↔ ∃ p ∈ ps, c ∈ p
  | [] => by simp [joinL]
  | [p] => by simp [joinL]
  | p :: q :: r => by
    show c ∈ p ++ (S ++ joinL S (q :: r)) ↔ _
    rw [List.mem_append, List.mem_append, mem_joinL hc (q :: r)]
    constructor
    · rintro (h | h | ⟨p', h1, h2⟩)
      · exact ⟨p, List.mem_cons_self, h⟩
      · exact absurd h hc
      · exact ⟨p', List.mem_cons_of_mem _ h1, h2⟩
    · rintro ⟨p', h1, h2⟩
      rcases List.mem_cons.mp h1 with rfl | h1
      · exact .inl h2
      · exact .inr (.inr ⟨p', h1, h2⟩)
theorem y_in (t : Tm) : (!(Builtin.Str.occurrences (textOf false t) "y" 0 (textOf false t).length 1).isEmpty) = t.hasY := by
  have h := StrLaws.found_one (textOf false t) 121
  refine Eq.trans h ?_
  unfold Tm.hasY
  rw [decide_eq_decide]
  have e : (textOf false t).cps.toList = joinL (tl " ") ((itemsOf false t).map tl) := by
    show tl (textOf false t) = _
    unfold textOf
    rw [join_eq, tl_join]
  rw [e, mem_joinL (by decide +kernel)]
  constructor
  · rintro ⟨p, hp, hc⟩
    obtain ⟨z, hz, rfl⟩ := List.mem_map.mp hp
    unfold itemsOf at hz
    rw [if_neg (by decide), List.nil_append] at hz
    obtain ⟨a, ha, rfl⟩ := List.mem_map.mp hz
    have q := (tok_ok a).2.2.2
    have q2 : decide (a = .lf .y) = true := by
      rw [← q]
      exact decide_eq_true hc
    rw [← of_decide_eq_true q2]
    exact ha
  · intro h
    refine ⟨tl (Tok.lf .y).z, List.mem_map.mpr ⟨_, ?_, rfl⟩, by decide +kernel⟩
    unfold itemsOf
    rw [if_neg (by decide), List.nil_append]
    exact List.mem_map.mpr ⟨_, h, rfl⟩
section
variable {P : Program} {w : World} {K : PySem.W.Frag} {mg : Str → Option Value} {base : Heap}
/-! ### the law's reader -/
theorem sc_law_whole_text : FnScope ["item", "rest", "c"] ["item"] (defScope s_law_whole_text) := ⟨rfl, rfl, rfl, by decide +kernel, rfl, by decide +kernel, by decide +kernel⟩
def F_law_whole_text (ds : List D) (d : D) : Prop := ∃ p ∈ intT, ds = [.str p.1] ∧ d = .bl true
theorem ok_law_whole_text (T : Txt K mg) : Cal P w K mg base "_law_whole_text" 1 (psp F_law_whole_text) := by
  refine psp_mk T.d_law_whole_text T.g_law_whole_text sc_law_whole_text (fun _ _ _ _ _ _ us hl => match us, hl with | [_], _ => rfl) (fun ds d ⟨a, _, e, _⟩ => by rw [e] <;> rfl) (fun cdv A outer s H E hr => ⟨_, (pss_cons (ps_set (i := 1) sc_law_whole_text.nd rfl (Or.inl rfl) (pe_ifExp (pt_cmpR (op_eqK K hr.units) (pe_slice (sl_allK K) (pv 0) po_none (po_some pe_int)) pe_str (nomark _)) (pe_slice (sl_allK K) (pv 0) (po_some pe_int) po_none) (pv 0)))
    (pss_cons (ps_if (PW.pt (pw_or (pt_cmpR (op_eqK K hr.units) (pv 1) pe_str (nomark _)) (pw_or (pt_cmpR op_gt (pe_callB (call_lenK K) (by rfl) T.b_len (by decide +kernel) (pa_cons (pv 1) pa_nil)) pe_int (nomark _)) (pw_or1 (pt_not (pt_truthK K (pe_callB (call_allK K) (by rfl) T.b_all (by decide +kernel) (pa_cons (pe_lc (own := [("c", 2)]) (g := gName 2) rfl sc_law_whole_text.nd  (pi_str (pv 1)) (blkOk_by (N := ["item", "rest", "c"]) (sc := defScope s_law_whole_text) (by decide +kernel)) (fun _ _ _ _ _ => (pg_name (i := 2) sc_law_whole_text.nd rfl (Or.inl rfl))) (fun _ _ _ _ _ => pts_nil) (fun _ _ _ _ _ => (pe_cmpR (op_inK K (hu65 hr)) (pv 2) pe_str (by with_unfolding_all rfl)))) pa_nil)) (by intro _; rfl)))))))
      (pss_one (ps_ret pe_bl))
      pss_nil)
    (pss_one (ps_ret (pe_or (pe_cmpR (op_eqK K hr.units) (pv 0) pe_str (nomark _)) (pe_one (pe_cmpR (op_neK K hr.units) (pe_ix (ix_seqK K) (pv 1) pe_int (fun _ _ => rfl)) pe_str (nomark _)))))))), ?_⟩)
  intro B0 H0 ds d h
  obtain ⟨⟨z, i⟩, hp, rfl, rfl⟩ := h
  obtain ⟨h1, ⟨h2, h3⟩, h4, h5, h6, h7, h8⟩ := intT_ok _ hp
  obtain ⟨g1, g2, c0, g3, g4⟩ := intT_ok2 _ hp
  dsimp only at h1 h2 h3 h4 h5 h6 h7 h8 g1 g2 g3 g4
  show SS triv B0 H0 _ [.dat (.str z), .no, .no] _ _ _ _
  refine ss_seq (ssd_asg (d := .str (dgT z)) ?_ ?_)
  · refine (ed_if (eb_test (ed_op (ed_slS (z := z) (by omega) (ed_var rfl) edo_none (edo_some ed_int)) ed_str od_eqs)) (fun _ => ed_slS (z := z) (by omega) (ed_var rfl) (edo_some ed_int) edo_none) (fun _ => ed_var rfl)).is ?_
    rw [← h8]
    unfold resT
    by_cases q : cutS z none (some 1) = "-" <;> simp [q]
  · have len : ED triv (tCB (fun xs H Q => ∃ x n, xs = [x] ∧ LenV K x H n ∧ Q (.int n) H) (tCons (tVar 1) tNil)) [.dat (.str z), .dat (.str (dgT z)), .no] (.int ((dgT z).length : Nat)) := ed_lenS (ed_var rfl) (by omega)
    refine ss_seq (ssd_ifF (EB.is (eb_or (eb_test (ed_op (ed_var rfl) ed_str od_eqs)) (fun _ => eb_or (eb_test (ed_op len ed_int od_gt)) (fun _ => eb_not (eb_tru (ed_cb (eda_cons (ed_of_el (edl_map1 (xs := (dgT z).cps.toList) (fun c => .str ⟨#[c]⟩) (fun _ => .bl true) (wid_str (ed_var rfl)) ?_ ?_)) eda_nil) (by rw [show (dgT z).cps.toList.map (fun _ => D.bl true) = ((dgT z).cps.toList.map fun _ => true).map .bl by rw [List.map_map]; rfl]; exact cd_all)))))) ?_) (ss_next ?_))
    · have : (dgT z).cps.toList.length = (dgT z).length := by
        rw [Array.length_toList]
        rfl
      omega
    · intro c hc
      refine (ed_op (ed_var rfl) ed_str od_inS).is ?_
      have q := g2 c hc
      exact congrArg D.bl q
    · have e1 : decide (dgT z = "") = false := decide_eq_false g1
      have e2 : decide ((9 : Int) < ((dgT z).length : Nat)) = false := by
        rw [decide_eq_false_iff_not]
        omega
      have e3 : (((dgT z).cps.toList.map fun _ => true).all id) = true := by
        rw [List.all_map]
        simp
      show (decide (dgT z = "") || (decide ((9 : Int) < ((dgT z).length : Nat)) || !(((dgT z).cps.toList.map fun _ => true).all id))) = false
      rw [e1, e2, e3]
      rfl
    · refine ssd_ret (ed_orV (ed_op (ed_var rfl) ed_str od_eqs) (fun _ => ed_op (ed_op (ed_var rfl) ed_int (od_ixS (by omega) g3)) ed_str od_nes)) ?_
      have e4 : (!decide ((⟨#[c0]⟩ : Str) = "0")) = true := by
        rw [decide_eq_false g4]
        rfl
      rw [e4, Bool.or_true]
theorem sc_law_read_frac : FnScope ["item", "parts", "top", "bottom", "part"] ["item"] (defScope s_law_read_frac) := ⟨rfl, rfl, rfl, by decide +kernel, rfl, by decide +kernel, by decide +kernel⟩
theorem ok_law_read_frac (T : Txt K mg) : Cal P w K mg base "_law_read_frac" 2 (psp F_read_fraction) := by
  have c_law_whole_text := ok_law_whole_text (P := P) (w := w) (base := base) T
  have c_law_gcd := ok_law_gcd (P := P) (w := w) (base := base) T
  refine psp_mk T.d_law_read_frac T.g_law_read_frac sc_law_read_frac (fun _ _ _ _ _ _ us hl => match us, hl with | [_], _ => rfl) (fun ds d ⟨a, _, _, e, _⟩ => by rw [e] <;> rfl) (fun cdv A outer s H E hr => ⟨_, (pss_cons (ps_set (i := 1) sc_law_read_frac.nd rfl (Or.inl rfl) (pe_split (pv 0) pe_str))
    (pss_cons (ps_if (PW.pt (pw_or (pt_cmpR op_gt (pe_callB (call_lenK K) (by rfl) T.b_len (by decide +kernel) (pa_cons (pv 1) pa_nil)) pe_int (nomark _)) (pw_or1 (pt_not (pt_truthK K (pe_callB (call_allK K) (by rfl) T.b_all (by decide +kernel) (pa_cons (pe_lc (own := [("part", 4)]) (g := gName 4) rfl sc_law_read_frac.nd  (pi_seqK K (pv 1)) (blkOk_by (N := ["item", "parts", "top", "bottom", "part"]) (sc := defScope s_law_read_frac) (by decide +kernel)) (fun _ _ _ _ _ => (pg_name (i := 4) sc_law_read_frac.nd rfl (Or.inl rfl))) (fun _ _ _ _ _ => pts_nil) (fun _ _ _ _ _ => (pe_cal c_law_whole_text (hr.mono (by decide)) rfl (pa_cons (pv 4) pa_nil)))) pa_nil)) (by intro _; rfl))))))
      (pss_one (ps_ret pe_non))
      pss_nil)
    (pss_cons (ps_if (pt_cmpR (op_eqK K hr.units) (pe_callB (call_lenK K) (by rfl) T.b_len (by decide +kernel) (pa_cons (pv 1) pa_nil)) pe_int (nomark _))
      (pss_one (ps_ret (pe_tup (pa_cons (pe_callTy call_int_str (by rfl) T.b_int (by decide +kernel) (pa_cons (pv 0) pa_nil)) (pa_cons pe_int pa_nil)))))
      pss_nil)
    (pss_cons (ps_par (i := 2) (j := 3) (by rfl) sc_law_read_frac.nd rfl rfl (by decide) rfl rfl (pa_cons (pe_callTy call_int_str (by rfl) T.b_int (by decide +kernel) (pa_cons (pe_ix (ix_seqK K) (pv 1) pe_int (fun _ _ => rfl)) pa_nil)) (pa_cons (pe_callTy call_int_str (by rfl) T.b_int (by decide +kernel) (pa_cons (pe_ix (ix_seqK K) (pv 1) pe_int (fun _ _ => rfl)) pa_nil)) pa_nil)) (by rfl))
    (pss_one (ps_ret (pe_ifExp (PW.pt (pw_and (pt_cmpR op_gt (pv 3) pe_int (nomark _)) (pw_and1 (pt_cmpR (op_eqK K hr.units) (pe_cal c_law_gcd (hr.mono (by decide)) rfl (pa_cons (pv 2) (pa_cons (pv 3) pa_nil))) pe_int (nomark _))))) (pe_tup (pa_cons (pv 2) (pa_cons (pv 3) pa_nil))) pe_non))))))), ?_⟩)
  intro B0 H0 ds d h
  obtain ⟨l, ⟨t, b⟩, hv, rfl, rfl⟩ := h
  obtain ⟨h1, h2, h3, h4, h5, h6, h7⟩ := lf_ok _ _ hv
  show SS triv B0 H0 _ [.dat (.str l.z), .no, .no, .no, .no] _ _ _ _
  have h6 : 1 ≤ b := h6
  have h7 : b ≤ 4 := h7
  have h5 : t.natAbs ≤ 4 := h5
  have it : ∀ p ∈ l.parts, PySem.intText? p.1 = some p.2 ∧ p.1.length ≤ 600 := fun p hp => ⟨(intT_ok p (h3 p hp)).2.2.2.1, (intT_ok p (h3 p hp)).1⟩
  refine ss_seq (ssd_asg (d := .lst (l.parts.map fun p => .str p.1)) ?_ ?_)
  · refine (ed_of_el (edl_split (by walk_at "ed") ed_str (by decide) (by omega))).is ?_
    rw [h2, List.map_map]
    rfl
  have pl : l.parts.length = 1 ∨ l.parts.length = 2 := by
    rcases h4 with ⟨e, _⟩ | ⟨x, y, e, _⟩ <;> rw [e] <;> simp
  refine ss_seq (ssd_ifF (EB.is (eb_or (eb_test (ed_op (ed_lenL (ed_var rfl)) ed_int od_gt)) (fun _ => eb_not (eb_tru (ed_cb (eda_cons (ed_of_el (edl_map1 (xs := l.parts) (fun p => .str p.1) (fun _ => .bl true) (wid_seq (.inl rfl) (ed_var rfl)) (by omega) fun p hp => ?_)) eda_nil) (by rw [show l.parts.map (fun _ => D.bl true) = (l.parts.map fun _ => true).map .bl by rw [List.map_map]; rfl]; exact cd_all))))) ?_) (ss_next ?_))
  · exact ed_call (ds := [.str p.1]) (by walk_at "ed") ⟨p, h3 p hp, rfl, rfl⟩
  · have e1 : decide ((2 : Int) < ((l.parts.map fun p => D.str p.1).length : Nat)) = false := by
      rw [decide_eq_false_iff_not, List.length_map]
      omega
    have e3 : ((l.parts.map fun _ => true).all id) = true := by
      rw [List.all_map]
      simp
    show (decide ((2 : Int) < ((l.parts.map fun p => D.str p.1).length : Nat)) || !((l.parts.map fun _ => true).all id)) = false
    rw [e1, e3]
    rfl
  rcases h4 with ⟨e, hb⟩ | ⟨x, y, e, hb2, hb4, hg⟩
  · obtain ⟨i1, i2⟩ := it (l.z, t) (by rw [e]; simp)
    rw [e]
    show SS triv B0 H0 _ [.dat (.str l.z), .dat (.lst [.str l.z]), .no, .no, .no] _ _ _ _
    have hb : b = 1 := hb
    subst hb
    refine ss_seq (ssd_ifT (EB.is (eb_test (ed_op (ed_lenL (ed_var rfl)) ed_int od_eqi)) (by rfl)) ?_)
    exact ssd_ret (ed_tup (eda_cons (ed_cb (eda_cons (ed_var rfl) eda_nil) (cd_intText i1 (by omega))) (eda_cons ed_int eda_nil))) rfl
  · obtain ⟨i1, i2⟩ := it (x, t) (by rw [e]; simp)
    obtain ⟨i3, i4⟩ := it (y, b) (by rw [e]; simp)
    dsimp only at i1 i2 i3 i4
    rw [e]
    show SS triv B0 H0 _ [.dat (.str l.z), .dat (.lst [.str x, .str y]), .no, .no, .no] _ _ _ _
    have hb2 : 2 ≤ b := hb2
    refine ss_seq (ssd_ifF (EB.is (eb_test (ed_op (ed_lenL (ed_var rfl)) ed_int od_eqi)) (by rfl)) (ss_next ?_))
    refine ss_seq (ssd_par (x := .int t) (y := .int b) (eda_cons (ed_cb (eda_cons (ed_op (ed_var rfl) ed_int (od_ixL rfl)) eda_nil) (cd_intText i1 (by omega))) (eda_cons (ed_cb (eda_cons (ed_op (ed_var rfl) ed_int (od_ixL rfl)) eda_nil) (cd_intText i3 (by omega))) eda_nil)) ?_)
    have z1 : Sz 8000 t := by
      unfold Sz
      exact Nat.lt_of_le_of_lt h5 (by decide +kernel)
    have z2 : Sz 8000 b := by
      unfold Sz
      exact Nat.lt_of_le_of_lt (show b.natAbs ≤ 4 by omega) (by decide +kernel)
    refine ssd_ret (ed_ifT (EB.is (eb_and (eb_test (ed_op (ed_var rfl) ed_int od_gt)) (fun _ => eb_test (ed_op (ed_call (by walk_at "ed") ⟨t, b, rfl, z1, z2, rfl⟩) ed_int od_eqi))) ?_) (by walk_at "ed")) (by rfl)
    have e1 : decide ((1 : Int) < b) = true := by
      rw [decide_eq_true_eq]
      omega
    have hg2 : Nat.gcd t.natAbs b.natAbs = 1 := hg
    show (decide ((1 : Int) < b) && decide (((Nat.gcd t.natAbs b.natAbs : Nat) : Int) = 1)) = true
    rw [e1, hg2]
    rfl
theorem sc_law_text_items : FnScope ["text", "item"] ["text"] (defScope s_law_text_items) := ⟨rfl, rfl, rfl, by decide +kernel, rfl, by decide +kernel, by decide +kernel⟩
def F_law_text_items (ds : List D) (d : D) : Prop := ∃ (r : Bool) (t : Tm), t.toks.length ≤ 100 ∧ ds = [.str (textOf r t)] ∧ d = .lst ((itemsOf r t).map .str)
theorem ok_law_text_items (T : Txt K mg) : Cal P w K mg base "_law_text_items" 1 (psp F_law_text_items) := by
  refine psp_mk T.d_law_text_items T.g_law_text_items sc_law_text_items (fun _ _ _ _ _ _ us hl => match us, hl with | [_], _ => rfl) (fun ds d ⟨a, _, _, e, _⟩ => by rw [e] <;> rfl) (fun cdv A outer s H E hr => ⟨_, (pss_one (ps_ret (pe_lc (own := [("item", 1)]) (g := gName 1) rfl sc_law_text_items.nd  (pi_seqK K (pe_split (pv 0) pe_str)) (blkOk_by (N := ["text", "item"]) (sc := defScope s_law_text_items) (by decide +kernel)) (fun _ _ _ _ _ => (pg_name (i := 1) sc_law_text_items.nd rfl (Or.inl rfl))) (fun _ _ _ _ _ => (pts_one (pt_cmpR (op_neK K hr.units) (pv 1) pe_str (nomark _)))) (fun _ _ _ _ _ => (pv 1))))), ?_⟩)
  intro B0 H0 ds d h
  obtain ⟨r, t, hl, rfl, rfl⟩ := h
  have h1 := text_len (r := r) hl
  have h2 := items_len (r := r) hl
  show SS triv B0 H0 _ [.dat (.str (textOf r t)), .no] _ _ _ _
  have e : (itemsOf r t).filter (fun (z : Str) => !decide (z = "")) = itemsOf r t := List.filter_eq_self.mpr fun z hz => by
    rw [decide_eq_false (item_ok hz).1]
    rfl
  have key := edl_filt1 (R := triv) (wi := iSeq K (tM1 (fun x xs H Q => ∃ a b, x = .str a ∧ xs = [.str b] ∧ (b.length == 0) = false ∧ a.length + 2 ≤ sizeLine ∧ rNewStrs (Txt.split a b) H Q) (tVar 0) (tC (.str " ")))) (Γ := [.dat (.str (textOf r t)), .no]) (j := 1) (tt := tTest (tOp (rNeU K) (tVar 1) (tC (.str "")))) (te := tVar 1) (xs := itemsOf r t) .str (fun (z : Str) => !decide (z = "")) .str
    (by have z := wid_seq (K := K) (R := triv) (.inl rfl) (ed_of_el (edl_split (te := tVar 0) (ta := tC (.str " ")) (a := textOf r t) (b := " ") (Γ := [.dat (.str (textOf r t)), .no]) (ed_var rfl) ed_str (by decide) (by omega)))
        rw [split_text] at z
        exact z) (by omega) (fun z hz => ⟨eb_test (ed_op (ed_var rfl) ed_str od_nes), fun _ => ed_var rfl⟩)
  rw [e] at key
  exact ssd_ret (ed_of_el key) rfl
end
end K82
set_option Elab.async false
set_option linter.all false
set_option maxRecDepth 100000
set_option maxHeartbeats 2000000
namespace K82
open PySem PySem.Spec PyProof.Rows L2 Evl Dl K82Head TL
local macro_rules | `(tactic| walk_at "ed") => `(tactic| first
  | exact ed_var rfl | exact ed_int | exact ed_str | exact ed_bl | exact ed_non | exact eda_nil | exact edo_none
  | exact od_add | exact od_sub | exact od_lt | exact od_le | exact od_gt | exact od_ge | exact od_eqi | exact od_nei | exact od_eqs | exact od_nes | exact od_isN | exact od_notN | exact cd_int | exact cd_abs | exact cd_max2 | exact cd_gcd
  | ((with_reducible apply eda_cons) <;> walk_at "ed") | ((with_reducible apply ed_op) <;> walk_at "ed") | ((with_reducible apply ed_cb) <;> walk_at "ed") | ((with_reducible apply eb_test) <;> walk_at "ed") | ((with_reducible apply eb_tru) <;> walk_at "ed") | ((with_reducible apply ed_tup) <;> walk_at "ed")
  | ((with_reducible apply ed_neg) <;> walk_at "ed") | ((with_reducible apply eb_not) <;> walk_at "ed") | ((with_reducible apply edl_lst) <;> walk_at "ed") | ((with_reducible apply edo_some) <;> walk_at "ed") | ((with_reducible apply ed_call) <;> walk_at "ed")
  | (apply od_mul; assumption) | (apply od_rem; omega) | (apply od_div <;> omega) | (apply od_ixT; rfl) | (apply od_ixL; rfl)
  | (with_reducible exact True.intro) | (simp; done) | skip)
section
variable {P : Program} {w : World} {K : PySem.W.Frag} {mg : Str → Option Value} {base : Heap}
theorem sc_law_parse : FnScope ["items", "k", "want", "signs", "deeds", "root", "item", "now"] ["items"] (defScope s_law_parse) := ⟨rfl, rfl, rfl, by decide +kernel, rfl, by decide +kernel, by decide +kernel⟩
def F_law_parse (ds : List D) (d : D) : Prop := ∃ (t : Tm), t.toks.length ≤ 100 ∧ ds = [.lst (toksD t.toks)] ∧ d = .tup [.int (-1), .lst (t.post.map Po.dL), .bl false]
theorem ok_law_parse (T : Txt K mg) : Cal P w K mg base "_law_parse" 3 (psp F_law_parse) := by
  have c_law_read_frac := ok_law_read_frac (P := P) (w := w) (base := base) T
  refine psp_mk T.d_law_parse T.g_law_parse sc_law_parse (fun _ _ _ _ _ _ us hl => match us, hl with | [_], _ => rfl) (fun ds d ⟨a, _, e, _⟩ => by rw [e] <;> rfl) (fun cdv A outer s H E hr => ⟨_, (pss_cons (ps_asg (pe_tup (pa_cons (pe_lst (pa_cons pe_str pa_nil)) (pa_cons (pe_lst pa_nil) (pa_cons (pe_lst pa_nil) (pa_cons pe_bl pa_nil))))) (pg_tupK K rfl (pgs_cons (pg_name (i := 2) sc_law_parse.nd rfl (Or.inl rfl)) (pgs_cons (pg_name (i := 3) sc_law_parse.nd rfl (Or.inl rfl)) (pgs_cons (pg_name (i := 4) sc_law_parse.nd rfl (Or.inl rfl)) (pgs_cons (pg_name (i := 5) sc_law_parse.nd rfl (Or.inl rfl)) pgs_nil))))))
    (pss_cons (ps_for PassesOwn.never rfl (pi_range1 (by rfl) T.b_range (pa_cons (pe_callB (call_lenK K) (by rfl) T.b_len (by decide +kernel) (pa_cons (pv 0) pa_nil)) pa_nil)) (pg_name (i := 1) sc_law_parse.nd rfl (Or.inl rfl))
      (pss_cons (ps_par (i := 6) (j := 7) (by rfl) sc_law_parse.nd rfl rfl (by decide) rfl rfl (pa_cons (pe_ix (ix_seqK K) (pv 0) (pv 1) (fun _ _ => rfl)) (pa_cons (pe_ifExp (pt_truthK K (pv 2) (by intro _; rfl)) (pe_bm0K K PySem.F.plainAttrs_list PySem.F.slot_list_pop PySem.F.type_list_pop mt_pop (pv 2)) pe_str) pa_nil)) (by rfl))
        (pss_one (ps_if (PW.pt (pw_and (pt_cmpR (op_eqK K hr.units) (pv 7) pe_str (nomark _)) (pw_and (pt_cmpR (op_eqK K hr.units) (pv 6) pe_str (nomark _)) (pw_and1 (pt_cmpR (op_eqK K hr.units) (pv 1) pe_int (nomark _))))))
          (pss_cons (ps_set (i := 5) sc_law_parse.nd rfl (Or.inl rfl) pe_bl)
            (pss_one (ps_expr (pe_bmK K PySem.F.plainAttrs_list PySem.F.slot_list_append PySem.F.type_list_append mt_append (pv 2) (pa_cons pe_str pa_nil)))))
          (pss_one (ps_if (PW.pt (pw_and (pt_cmpR (op_eqK K hr.units) (pv 7) pe_str (nomark _)) (pw_and1 (pt_cmpR (op_eqK K hr.units) (pv 6) pe_str (nomark _)))))
              (pss_one (ps_expr (pe_bmK K PySem.F.plainAttrs_list PySem.F.slot_list_extend PySem.F.type_list_extend mt_extend (pv 2) (pa_cons (pe_lst (pa_cons pe_str (pa_cons pe_str (pa_cons pe_str (pa_cons pe_str pa_nil))))) pa_nil))))
              (pss_one (ps_if (PW.pt (pw_and (pt_cmpR (op_eqK K hr.units) (pv 7) pe_str (nomark _)) (pw_and1 (PW.pt (pw_or (pt_cmpR (op_eqK K hr.units) (pv 6) pe_str (nomark _)) (pw_or1 (pt_cmpR (op_eqK K hr.units) (pv 6) pe_str (nomark _))))))))
                  (pss_one (ps_expr (pe_bmK K PySem.F.plainAttrs_list PySem.F.slot_list_append PySem.F.type_list_append mt_append (pv 4) (pa_cons (pv 6) pa_nil))))
                  (pss_one (ps_if (PW.pt (pw_and (pt_cmpR (op_eqK K hr.units) (pv 7) pe_str (nomark _)) (pw_and1 (pt_cmpR op_notN (pe_cal c_law_read_frac (hr.mono (by decide)) rfl (pa_cons (pv 6) pa_nil)) pe_non (nomark _)))))
                      (pss_one (ps_expr (pe_bmK K PySem.F.plainAttrs_list PySem.F.slot_list_append PySem.F.type_list_append mt_append (pv 4) (pa_cons (pe_cal c_law_read_frac (hr.mono (by decide)) rfl (pa_cons (pv 6) pa_nil)) pa_nil))))
                      (pss_one (ps_if (PW.pt (pw_and (pt_cmpR (op_eqK K hr.units) (pv 7) pe_str (nomark _)) (pw_and1 (pt_cmpR (op_inK K (hu65 hr)) (pv 6) (pe_lst (pa_cons pe_str (pa_cons pe_str (pa_cons pe_str (pa_cons pe_str pa_nil))))) (by with_unfolding_all rfl)))))
                          (pss_one (ps_expr (pe_bmK K PySem.F.plainAttrs_list PySem.F.slot_list_append PySem.F.type_list_append mt_append (pv 3) (pa_cons (pv 6) pa_nil))))
                          (pss_one (ps_if (PW.pt (pw_and (pt_cmpR (op_eqK K hr.units) (pv 7) pe_str (nomark _)) (pw_and1 (pt_cmpR (op_eqK K hr.units) (pv 6) pe_str (nomark _)))))
                              (pss_one (ps_expr (pe_bmK K PySem.F.plainAttrs_list PySem.F.slot_list_append PySem.F.type_list_append mt_append (pv 4) (pa_cons (pe_bm0K K PySem.F.plainAttrs_list PySem.F.slot_list_pop PySem.F.type_list_pop mt_pop (pv 3)) pa_nil))))
                              (pss_one (ps_ret (pe_tup (pa_cons (pe_op (op_addK K) (pv 1) pe_int) (pa_cons (pe_lst pa_nil) (pa_cons (pv 5) pa_nil))))))))))))))))))))
    (pss_one (ps_ret (pe_tup (pa_cons (pe_ifExp (pt_truthK K (pv 2) (by intro _; rfl)) pe_int (pe_un un_neg pe_int)) (pa_cons (pv 4) (pa_cons (pv 5) pa_nil)))))))), ?_⟩)
  intro B0 H0 ds d h
  obtain ⟨t, hl, rfl, rfl⟩ := h
  show SS triv B0 H0 _ [.dat (.lst (toksD t.toks)), .no, .no, .no, .no, .no, .no, .no] _ _ _ _
  refine ss_seq (ss_tup4M (em_own (edl_lst (eda_cons ed_str eda_nil)) (em_own (edl_lst eda_nil) (em_own (edl_lst eda_nil) (em_dat ed_bl em_nil)))) rfl ?_)
  have ht : (toksD t.toks).length = t.toks.length := List.length_map ..
  refine ss_seq (ssd_for (xs := rngD 0 t.toks.length) (P := fun i Γ => ∃ m s5 s6 s7, Run (t.toks.drop i) m ⟨[], [], t.post⟩ ∧ Fits i m ∧ Γ = [.dat (.lst (toksD t.toks)), s5, .own (m.W.map fun x => .str x.zL), .own (m.S.map fun x => .str x.z), .own (m.O.map Po.dL), .dat (.bl false), s6, s7]) ?_ ⟨m0, .no, .no, .no, run_all t, ⟨by decide, by decide, by decide⟩, rfl⟩ ?_ ?_)
  · have e : rngD 0 t.toks.length = rngD 0 ((toksD t.toks).length : Int).toNat := by rw [ht]; rfl
    rw [e]
    exact wid_rng1 (eda_cons (ed_lenL (ed_var rfl)) eda_nil) (by omega) (by omega)
  · rintro i x Γ hx ⟨m, s5, s6, s7, hr, hf, rfl⟩
    obtain ⟨hi, rfl⟩ := rngD_at hx
    rw [List.drop_eq_getElem_cons hi] at hr
    have hix : L2.atI (toksD t.toks) (0 + (i : Int)) = some (.str (t.toks[i]).z) := by
      rw [show (0 : Int) + (i : Int) = (i : Nat) by omega]
      refine L2.atI_nat ?_
      unfold toksD
      rw [List.getElem?_map, List.getElem?_eq_getElem hi]
      rfl
    generalize t.toks[i] = tk at hr hix
    refine ⟨_, gs_name, ?_⟩
    show SS triv B0 H0 _ [.dat (.lst (toksD t.toks)), .dat (.int (0 + (i : Int))), .own (m.W.map fun x => .str x.zL), .own (m.S.map fun x => .str x.z), .own (m.O.map Po.dL), .dat (.bl false), s6, s7] _ _ _ _
    cases hr with
    | cons st hr =>
      have hf2 := hf.step st
      obtain ⟨f1, f2, f3⟩ := hf2
      cases st with
      | lp W S O =>
        simp only [List.map_append, List.map_cons, List.map_nil]
        refine ss_seq (ss_parX (ed_op (ed_var rfl) (ed_var rfl) (od_ixL hix)) (ex_ifT (EB.is (eb_truO rfl) (by simp)) (ex_pop rfl)) ?_)
        rintro d G ⟨rfl, rfl⟩
        refine ssd_ifF (EB.is (eb_and (eb_test (ed_op (ed_var rfl) ed_str od_eqs)) (fun _ => eb_and (eb_test (ed_op (ed_var rfl) ed_str od_eqs)) (fun _ => eb_test (ed_op (ed_var rfl) ed_int od_eqi)))) ?_) ?_
        · show (decide ((Wt.t.zL : Str) = "T") && (decide ((Tok.lp.z : Str) = "root") && _)) = false
          rw [show decide ((Tok.lp.z : Str) = "root") = false by decide +kernel, Bool.false_and, Bool.and_false]
        refine ssd_ifT (EB.is (eb_and (eb_test (ed_op (ed_var rfl) ed_str od_eqs)) (fun _ => eb_test (ed_op (ed_var rfl) ed_str od_eqs))) (by decide +kernel)) ?_
        refine ss_extend rfl (S := fun es => es = [.str ")", .str "T", .str "sign", .str "T"]) (edl_lst (by walk_at "ed")) fun es e => ⟨?_, ?_⟩
        · rw [e, List.length_map]
          simp only [List.length_append, List.length_cons, List.length_nil] at f1 ⊢
          omega
        · rw [e]
          exact ⟨_, _, _, _, hr, ⟨f1, f2, f3⟩, by simp only [List.map_append]; rfl⟩
      | lf l W S O =>
        simp only [List.map_append, List.map_cons, List.map_nil]
        refine ss_seq (ss_parX (ed_op (ed_var rfl) (ed_var rfl) (od_ixL hix)) (ex_ifT (EB.is (eb_truO rfl) (by simp)) (ex_pop rfl)) ?_)
        rintro d G ⟨rfl, rfl⟩
        have hT : decide ((Wt.t.zL : Str) = "T") = true := by decide +kernel
        have hroot : decide (l.z = "root") = false := by cases l <;> decide +kernel
        refine ssd_ifF (EB.is (eb_and (eb_test (ed_op (ed_var rfl) ed_str od_eqs)) (fun _ => eb_and (eb_test (ed_op (ed_var rfl) ed_str od_eqs)) (fun _ => eb_test (ed_op (ed_var rfl) ed_int od_eqi)))) ?_) ?_
        · show (_ && (decide (l.z = "root") && _)) = false
          rw [hroot, Bool.false_and, Bool.and_false]
        refine ssd_ifF (EB.is (eb_and (eb_test (ed_op (ed_var rfl) ed_str od_eqs)) (fun _ => eb_test (ed_op (ed_var rfl) ed_str od_eqs))) ?_) ?_
        · show (_ && decide (l.z = "(")) = false
          rw [lf_lp, Bool.and_false]
        have hlen : (O.map Po.dL).length < 100000 := by
          rw [List.length_map]
          simp only [List.length_append, List.length_cons, List.length_nil] at f3
          omega
        cases hv : l.v with
        | none =>
          refine ssd_ifT (EB.is (eb_and (eb_test (ed_op (ed_var rfl) ed_str od_eqs)) (fun _ => eb_or (eb_test (ed_op (ed_var rfl) ed_str od_eqs)) (fun _ => eb_test (ed_op (ed_var rfl) ed_str od_eqs)))) ?_) ?_
          · rcases lf_none hv with rfl | rfl <;> decide +kernel
          · refine ssd_append rfl (d := .str l.z) (ed_var rfl) hlen ⟨_, .dat (.int (0 + (i : Int))), .dat (.str l.z), .dat (.str Wt.t.zL), hr, ⟨f1, f2, f3⟩, ?_⟩
            have e : Po.dL (.lf l) = .str l.z := by
              show lfL l = _
              unfold lfL
              rw [hv]
            simp only [List.map_append, List.map_cons, List.map_nil, e]
            rfl
        | some q =>
          obtain ⟨h1, h2, _⟩ := lf_some hv
          refine ssd_ifF (EB.is (eb_and (eb_test (ed_op (ed_var rfl) ed_str od_eqs)) (fun _ => eb_or (eb_test (ed_op (ed_var rfl) ed_str od_eqs)) (fun _ => eb_test (ed_op (ed_var rfl) ed_str od_eqs)))) ?_) ?_
          · show (_ && (decide (l.z = "x") || decide (l.z = "y"))) = false
            rw [h1, h2]
            exact Bool.and_false _
          · refine ssd_ifT (EB.is (eb_and (eb_test (ed_op (ed_var rfl) ed_str od_eqs)) (fun _ => eb_test (ed_op (ed_call (ds := [.str l.z]) (by walk_at "ed") ⟨l, q, hv, rfl, rfl⟩) ed_non od_notN))) ?_) ?_
            · show (decide ((Wt.t.zL : Str) = "T") && !isNonD (dp q)) = true
              rw [hT]
              rfl
            · refine ssd_append rfl (d := dp q) (ed_call (ds := [.str l.z]) (by walk_at "ed") ⟨l, q, hv, rfl, rfl⟩) hlen ⟨_, .dat (.int (0 + (i : Int))), .dat (.str l.z), .dat (.str Wt.t.zL), hr, ⟨f1, f2, f3⟩, ?_⟩
              have e : Po.dL (.lf l) = dp q := by
                show lfL l = _
                unfold lfL
                rw [hv]
              simp only [List.map_append, List.map_cons, List.map_nil, e]
              rfl
      | sg s W S O =>
        simp only [List.map_append, List.map_cons, List.map_nil]
        refine ss_seq (ss_parX (ed_op (ed_var rfl) (ed_var rfl) (od_ixL hix)) (ex_ifT (EB.is (eb_truO rfl) (by simp)) (ex_pop rfl)) ?_)
        rintro d G ⟨rfl, rfl⟩
        have nT : ¬ decide ((Wt.s.zL : Str) = "T") = true := by decide +kernel
        have fT : ∀ c, (decide ((Wt.s.zL : Str) = "T") && c) = false := fun c => by
          rw [show decide ((Wt.s.zL : Str) = "T") = false by decide +kernel, Bool.false_and]
        refine ssd_ifF (EB.is (eb_and (c := false) (eb_test (ed_op (ed_var rfl) ed_str od_eqs)) (fun h => absurd h nT)) (fT _)) ?_
        refine ssd_ifF (EB.is (eb_and (c := false) (eb_test (ed_op (ed_var rfl) ed_str od_eqs)) (fun h => absurd h nT)) (fT _)) ?_
        refine ssd_ifF (EB.is (eb_and (c := false) (eb_test (ed_op (ed_var rfl) ed_str od_eqs)) (fun h => absurd h nT)) (fT _)) ?_
        refine ssd_ifF (EB.is (eb_and (c := false) (eb_test (ed_op (ed_var rfl) ed_str od_eqs)) (fun h => absurd h nT)) (fT _)) ?_
        refine ssd_ifT (EB.is (eb_and (eb_test (ed_op (ed_var rfl) ed_str od_eqs)) (fun _ => eb_test (ed_op (ed_var rfl) (ed_of_el (edl_lst (ds := (["+", "-", "*", "/"] : List Str).map .str) (eda_cons ed_str (eda_cons ed_str (eda_cons ed_str (eda_cons ed_str eda_nil)))))) od_inSL))) ?_) ?_
        · show (decide ((Wt.s.zL : Str) = "sign") && inV (.str s.z) _) = true
          rw [sg_in]
          decide +kernel
        refine ssd_append rfl (d := .str s.z) (ed_var rfl) ?_ ⟨_, .dat (.int (0 + (i : Int))), .dat (.str s.z), .dat (.str Wt.s.zL), hr, ⟨f1, f2, f3⟩, ?_⟩
        · rw [List.length_map]
          simp only [List.length_append, List.length_cons, List.length_nil] at f2
          omega
        · simp only [List.map_append]
          rfl
      | rp s W S O =>
        simp only [List.map_append, List.map_cons, List.map_nil]
        refine ss_seq (ss_parX (ed_op (ed_var rfl) (ed_var rfl) (od_ixL hix)) (ex_ifT (EB.is (eb_truO rfl) (by simp)) (ex_pop rfl)) ?_)
        rintro d G ⟨rfl, rfl⟩
        have nT : ¬ decide ((Wt.c.zL : Str) = "T") = true := by decide +kernel
        have fT : ∀ c, (decide ((Wt.c.zL : Str) = "T") && c) = false := fun c => by
          rw [show decide ((Wt.c.zL : Str) = "T") = false by decide +kernel, Bool.false_and]
        have nS : ¬ decide ((Wt.c.zL : Str) = "sign") = true := by decide +kernel
        have fS : ∀ c, (decide ((Wt.c.zL : Str) = "sign") && c) = false := fun c => by
          rw [show decide ((Wt.c.zL : Str) = "sign") = false by decide +kernel, Bool.false_and]
        refine ssd_ifF (EB.is (eb_and (c := false) (eb_test (ed_op (ed_var rfl) ed_str od_eqs)) (fun h => absurd h nT)) (fT _)) ?_
        refine ssd_ifF (EB.is (eb_and (c := false) (eb_test (ed_op (ed_var rfl) ed_str od_eqs)) (fun h => absurd h nT)) (fT _)) ?_
        refine ssd_ifF (EB.is (eb_and (c := false) (eb_test (ed_op (ed_var rfl) ed_str od_eqs)) (fun h => absurd h nT)) (fT _)) ?_
        refine ssd_ifF (EB.is (eb_and (c := false) (eb_test (ed_op (ed_var rfl) ed_str od_eqs)) (fun h => absurd h nT)) (fT _)) ?_
        refine ssd_ifF (EB.is (eb_and (c := false) (eb_test (ed_op (ed_var rfl) ed_str od_eqs)) (fun h => absurd h nS)) (fS _)) ?_
        refine ssd_ifT (EB.is (eb_and (eb_test (ed_op (ed_var rfl) ed_str od_eqs)) (fun _ => eb_test (ed_op (ed_var rfl) ed_str od_eqs))) (by decide +kernel)) ?_
        refine ss_appendX ⟨_, rfl⟩ (ex_pop rfl) ?_
        rintro d G ⟨rfl, rfl⟩
        refine ⟨_, rfl, ?_, ?_⟩
        · rw [List.length_map]
          simp only [List.length_append, List.length_cons, List.length_nil] at f3
          omega
        · exact ⟨_, _, _, _, hr, ⟨f1, f2, f3⟩, by simp only [List.map_append]; rfl⟩
  · rintro Γ ⟨m, s5, s6, s7, hr, hf, rfl⟩
    rw [rngD_len, List.drop_length] at hr
    cases hr
    refine ss_freeze 4 rfl ?_
    exact ssd_ret (ed_tup (eda_cons (ed_ifF (EB.is (eb_truO rfl) (by rfl)) (by walk_at "ed")) (eda_cons (ed_var rfl) (eda_cons (ed_var rfl) eda_nil)))) (by rfl)
theorem sc_law_deeds : FnScope ["text"] ["text"] (defScope s_law_deeds) := ⟨rfl, rfl, rfl, by decide +kernel, rfl, by decide +kernel, by decide +kernel⟩
def F_law_deeds (ds : List D) (d : D) : Prop := ∃ (t : Tm), t.toks.length ≤ 100 ∧ ds = [.str (textOf false t)] ∧ d = .lst (t.post.map Po.dL)
theorem ok_law_deeds (T : Txt K mg) : Cal P w K mg base "_law_deeds" 4 (psp F_law_deeds) := by
  have c_law_parse := ok_law_parse (P := P) (w := w) (base := base) T
  have c_law_text_items := ok_law_text_items (P := P) (w := w) (base := base) T
  refine psp_mk T.d_law_deeds T.g_law_deeds sc_law_deeds (fun _ _ _ _ _ _ us hl => match us, hl with | [_], _ => rfl) (fun ds d ⟨a, _, e, _⟩ => by rw [e] <;> rfl) (fun cdv A outer s H E hr => ⟨_, (pss_one (ps_ret (pe_ix (ix_seqK K) (pe_cal c_law_parse (hr.mono (by decide)) rfl (pa_cons (pe_cal c_law_text_items (hr.mono (by decide)) rfl (pa_cons (pv 0) pa_nil)) pa_nil)) pe_int (fun _ _ => rfl)))), ?_⟩)
  intro B0 H0 ds d h
  obtain ⟨t, hl, rfl, rfl⟩ := h
  show SS triv B0 H0 _ [.dat (.str (textOf false t))] _ _ _ _
  have e : (itemsOf false t).map D.str = toksD t.toks := by
    unfold itemsOf toksD
    rw [if_neg (by decide), List.nil_append, List.map_map]
    rfl
  refine ssd_ret (ed_op (ed_call (ds := [.lst (toksD t.toks)]) (eda_cons (ed_call (ds := [.str (textOf false t)]) (by walk_at "ed") ⟨false, t, hl, rfl, by rw [e]⟩) eda_nil) ⟨t, hl, rfl, rfl⟩) ed_int (od_ixT rfl)) rfl
theorem sc_law_width : FnScope ["text"] ["text"] (defScope s_law_width) := ⟨rfl, rfl, rfl, by decide +kernel, rfl, by decide +kernel, by decide +kernel⟩
def F_law_width (ds : List D) (d : D) : Prop := ∃ (t : Tm), ds = [.str (textOf false t)] ∧ d = .int (t.wid : Nat)
theorem ok_law_width (T : Txt K mg) : Cal P w K mg base "_law_width" 1 (psp F_law_width) := by
  refine psp_mk T.d_law_width T.g_law_width sc_law_width (fun _ _ _ _ _ _ us hl => match us, hl with | [_], _ => rfl) (fun ds d ⟨a, e, _⟩ => by rw [e] <;> rfl) (fun cdv A outer s H E hr => ⟨_, (pss_one (ps_ret (pe_ifExp (pt_cmpR (op_inK K (hu65 hr)) pe_str (pv 0) (by with_unfolding_all rfl)) pe_int pe_int))), ?_⟩)
  intro B0 H0 ds d h
  obtain ⟨t, rfl, rfl⟩ := h
  show SS triv B0 H0 _ [.dat (.str (textOf false t))] _ _ _ _
  refine ssd_ret ((ed_if (eb_test (ed_op ed_str (ed_var rfl) od_inS)) (fun _ => ed_int) (fun _ => ed_int)).is ?_) rfl
  rw [y_in]
  unfold Tm.wid
  cases t.hasY <;> rfl
end
end K82
set_option Elab.async false
set_option linter.all false
set_option maxRecDepth 100000
set_option maxHeartbeats 2000000
namespace K82
open PySem PySem.Spec PyProof.Rows L2 Evl Dl K82Head TL
local macro_rules | `(tactic| walk_at "ed") => `(tactic| first
  | exact ed_var rfl | exact ed_int | exact ed_str | exact ed_bl | exact ed_non | exact eda_nil | exact edo_none
  | exact od_add | exact od_sub | exact od_lt | exact od_le | exact od_gt | exact od_ge | exact od_eqi | exact od_nei | exact od_eqs | exact od_nes | exact od_isN | exact od_notN | exact cd_int | exact cd_abs | exact cd_max2 | exact cd_gcd
  | ((with_reducible apply eda_cons) <;> walk_at "ed") | ((with_reducible apply ed_op) <;> walk_at "ed") | ((with_reducible apply ed_cb) <;> walk_at "ed") | ((with_reducible apply eb_test) <;> walk_at "ed") | ((with_reducible apply eb_tru) <;> walk_at "ed") | ((with_reducible apply ed_tup) <;> walk_at "ed")
  | ((with_reducible apply ed_neg) <;> walk_at "ed") | ((with_reducible apply eb_not) <;> walk_at "ed") | ((with_reducible apply edl_lst) <;> walk_at "ed") | ((with_reducible apply edo_some) <;> walk_at "ed") | ((with_reducible apply ed_call) <;> walk_at "ed")
  | (apply od_mul; assumption) | (apply od_rem; omega) | (apply od_div <;> omega) | (apply od_ixT; rfl) | (apply od_ixL; rfl)
  | (with_reducible exact True.intro) | (simp; done) | skip)
def targetKs : List Str := ["width", "root", "_text", "_steps"]
def targetFs (r : Bool) (t : Tm) : List D := [.int (t.wid : Nat), .bl r, .str (textOf r t), .lst (t.post.map Po.dP)]
def targetD (K : PySem.W.Frag) (r : Bool) (t : Tm) : D := .obj (He.ga K "Target") targetKs (targetFs r t)
def barKs : List Str := ["base", "width", "words"]
def barD (K : PySem.W.Frag) (b w : Nat) (ws : List (List Nat)) : D := .obj (He.ga K "Bar") barKs [.int b, .int w, .tup (ws.map wd)]
theorem fst_root (r : Bool) (t : Tm) : ∃ z q, itemsOf r t = z :: q ∧ decide (z = "root") = r := by
  cases r with
  | true => exact ⟨"root", _, rfl, by decide +kernel⟩
  | false =>
    obtain ⟨a, q, e, h⟩ := toks_cons t
    refine ⟨a.z, q.map Tok.z, by unfold itemsOf; rw [e]; rfl, ?_⟩
    rcases h with rfl | ⟨l, rfl⟩
    · decide +kernel
    · cases l <;> decide +kernel
theorem tok_y (a : Tok) : (a.z == ("y" : Str)) = decide (a = .lf .y) := by
  rcases a with _ | _ | s | l
  · decide +kernel
  · decide +kernel
  · cases s <;> decide +kernel
  · cases l <;> decide +kernel
theorem y_items (r : Bool) (t : Tm) : inV (.str "y") ((itemsOf r t).map V.str) = t.hasY := by
  unfold inV itemsOf Tm.hasY
  rw [List.any_map, List.any_append]
  have h1 : ((if r = true then [("root" : Str)] else []) : List Str).any ((fun y => eqV y (V.str "y")) ∘ V.str) = false := by
    cases r <;> decide +kernel
  rw [h1, Bool.false_or, List.any_map]
  rw [Bool.eq_iff_iff, List.any_eq_true, decide_eq_true_eq]
  constructor
  · rintro ⟨a, ha, e⟩
    have e2 : (a.z == ("y" : Str)) = true := e
    rw [tok_y] at e2
    rw [← of_decide_eq_true e2]
    exact ha
  · intro h
    refine ⟨_, h, ?_⟩
    show ((Tok.lf .y).z == ("y" : Str)) = true
    decide +kernel
theorem post_num (l : Lf) (q : Int × Int) (h : l.v = some q) : (decide (1000 < (if q.2 > (if q.1 < 0 then -q.1 else q.1) then q.2 else (if q.1 < 0 then -q.1 else q.1)))) = false := by
  obtain ⟨_, _, _, _, h1, h2, h3⟩ := lf_ok l q h
  rw [decide_eq_false_iff_not]
  split <;> split <;> omega
theorem sg_num (s : Sg) : decide (s.z = "number") = false := by cases s <;> decide +kernel
section
variable {P : Program} {w : World} {K : PySem.W.Frag} {mg : Str → Option Value} {base : Heap}
theorem sc_Target_init : FnScope ["self", "text", "items", "steps", "word", "value", "item"] ["self", "text"] (defScope s_Target_init) := ⟨rfl, rfl, rfl, by decide +kernel, rfl, by decide +kernel, by decide +kernel⟩
def F_Target (ds fs : List D) : Prop := ∃ (r : Bool) (t : Tm), t.toks.length ≤ 29 ∧ ds = [.str (textOf r t)] ∧ fs = targetFs r t
theorem ok_Target (T : Txt K mg) : MkC P w K mg base "Target" (He.ga K "Target") 5 (isp (He.ga K "Target") targetKs F_Target) := by
  have c_postfix := ok_postfix (P := P) (w := w) (base := base) T
  refine isp_mk T.d_Target_init T.mk_Target T.g_Target sc_Target_init (fun _ _ _ _ _ _ us hl => match us, hl with | [_, _], _ => rfl) (fun ds d ⟨a, _, _, e, _⟩ => by rw [e] <;> rfl) (fun cdv A outer s H E hr => ⟨_, (pss_cons (ps_if (pt_cmpR op_gt (pe_callB (call_lenK K) (by rfl) T.b_len (by decide +kernel) (pa_cons (pv 1) pa_nil)) (pe_gint rfl T.i_TEXT) (nomark _))
      (pss_one ps_never)
      pss_nil)
    (pss_cons (ps_setLc (i := 2) (own := [("item", 6)]) (g := gName 6) rfl sc_Target_init.nd rfl rfl (sw_true rfl rfl rfl (by decide +kernel)) (pi_seqK K (pe_split (pv 1) pe_str)) (blkOk_by (N := ["self", "text", "items", "steps", "word", "value", "item"]) (sc := defScope s_Target_init) (by decide +kernel)) (fun _ _ _ _ _ => (pg_name (i := 6) sc_Target_init.nd rfl (Or.inl rfl))) (fun _ _ _ _ _ => (pts_one (pt_cmpR (op_neK K hr.units) (pv 6) pe_str (nomark _)))) (fun _ _ _ _ _ => (pv 6)))
    (pss_cons (ps_if (pt_cmpR op_gt (pe_callB (call_lenK K) (by rfl) T.b_len (by decide +kernel) (pa_cons (pv 2) pa_nil)) (pe_gint rfl T.i_ITEMS) (nomark _))
      (pss_one ps_never)
      pss_nil)
    (pss_cons (ps_set (i := 3) sc_Target_init.nd rfl (Or.inl rfl) (pe_cal c_postfix (hr.mono (by decide)) rfl (pa_cons (pv 2) pa_nil)))
    (pss_cons (ps_for PassesOwn.never rfl (pi_seqK K (pv 3)) (pg_tupK K rfl (pgs_cons (pg_name (i := 4) sc_Target_init.nd rfl (Or.inl rfl)) (pgs_cons (pg_name (i := 5) sc_Target_init.nd rfl (Or.inl rfl)) pgs_nil)))
      (pss_one (ps_if (PW.pt (pw_and (pt_cmpR (op_eqK K hr.units) (pv 4) pe_str (nomark _)) (pw_and1 (pt_cmpR op_gt (pe_callB (call_max2 rfl) (by rfl) T.b_max (by decide +kernel) (pa_cons (pe_callB call_abs (by rfl) T.b_abs (by decide +kernel) (pa_cons (pe_ix (ix_seqK K) (pv 5) pe_int (fun _ _ => rfl)) pa_nil)) (pa_cons (pe_ix (ix_seqK K) (pv 5) pe_int (fun _ _ => rfl)) pa_nil))) (pe_gint rfl T.i_FRACTION) (nomark _)))))
          (pss_one ps_never)
          pss_nil)))
    (pss_cons (ps_fldK K (pv 0) (pe_ifExp (pt_cmpR (op_inK K (hu65 hr)) pe_str (pv 2) (by with_unfolding_all rfl)) pe_int pe_int) rfl)
    (pss_cons (ps_fldK K (pv 0) (pe_cmpR (op_eqK K hr.units) (pe_ix (ix_seqK K) (pv 2) pe_int (fun _ _ => rfl)) pe_str (nomark _)) rfl)
    (pss_cons (ps_fldK K (pv 0) (pe_joinK K pe_str (pv 2)) rfl)
    (pss_one (ps_fldK K (pv 0) (pv 3) rfl)))))))))), ?_⟩)
  intro B0 H0 ds fs y dx En h hB hH q
  obtain ⟨r, t, hl, rfl, rfl⟩ := h
  show RT En B0 H0 _ [.at_ (.ref y), .dat (.str (textOf r t)), .no, .no, .no, .no, .no]
  have h1 := text_len (r := r) (t := t) (by omega)
  have hil : (itemsOf r t).length ≤ 30 := by
    unfold itemsOf
    rw [List.length_append, List.length_map]
    split <;> simp only [List.length_cons, List.length_nil] <;> omega
  refine rt_seq (ssd_ifF (EB.is (eb_test (ed_op (ed_lenS (ed_var rfl) (by omega)) ed_int od_gt)) ?_) (ss_next ?_))
  · rw [decide_eq_false_iff_not]
    omega
  have e : (itemsOf r t).filter (fun (z : Str) => !decide (z = "")) = itemsOf r t := List.filter_eq_self.mpr fun z hz => by
    rw [decide_eq_false (item_ok hz).1]
    rfl
  have key := edl_filt1 (R := triv) (wi := iSeq K (tM1 (fun x xs H Q => ∃ a b, x = .str a ∧ xs = [.str b] ∧ (b.length == 0) = false ∧ a.length + 2 ≤ sizeLine ∧ rNewStrs (Txt.split a b) H Q) (tVar 1) (tC (.str " ")))) (Γ := [.at_ (.ref y), .dat (.str (textOf r t)), .no, .no, .no, .no, .no]) (j := 6) (tt := tTest (tOp (rNeU K) (tVar 6) (tC (.str "")))) (te := tVar 6) (xs := itemsOf r t) .str (fun (z : Str) => !decide (z = "")) .str
    (by have z := wid_seq (K := K) (R := triv) (.inl rfl) (ed_of_el (edl_split (te := tVar 1) (ta := tC (.str " ")) (a := textOf r t) (b := " ") (Γ := [.at_ (.ref y), .dat (.str (textOf r t)), .no, .no, .no, .no, .no]) (ed_var rfl) ed_str (by decide) (by omega)))
        rw [split_text] at z
        exact z) (by omega) (fun z hz => ⟨eb_test (ed_op (ed_var rfl) ed_str od_nes), fun _ => ed_var rfl⟩)
  rw [e] at key
  refine rt_seq (ssd_asg (d := .lst ((itemsOf r t).map .str)) (ed_of_el key) ?_)
  refine rt_seq (ssd_ifF (EB.is (eb_test (ed_op (ed_lenL (ed_var rfl)) ed_int od_gt)) ?_) (ss_next ?_))
  · rw [decide_eq_false_iff_not, List.length_map]
    omega
  have ei : (itemsOf r t).map D.str = (if r = true then [.str "root"] else []) ++ toksD t.toks := by
    unfold itemsOf toksD
    rw [List.map_append, List.map_map]
    cases r <;> rfl
  refine rt_seq (ssd_asg (d := .lst (t.post.map Po.dP)) (ed_call (ds := [.lst ((itemsOf r t).map .str)]) (by walk_at "ed") ⟨r, t, by omega, by rw [ei], rfl⟩) ?_)
  refine rt_seq (ssd_for (xs := t.post.map Po.dP) (P := fun _ Γ => ∃ s4 s5, isOwn s4 = false ∧ isOwn s5 = false ∧ Γ = [.at_ (.ref y), .dat (.str (textOf r t)), .dat (.lst ((itemsOf r t).map .str)), .dat (.lst (t.post.map Po.dP)), s4, s5, .no]) (wid_seq (.inl rfl) (ed_var rfl)) ⟨.no, .no, rfl, rfl, rfl⟩ ?_ ?_)
  · rintro i x Γ hx ⟨s4, s5, _, _, rfl⟩
    obtain ⟨o, ho, rfl⟩ := List.mem_map.mp (List.mem_of_getElem? hx)
    cases o with
    | op s =>
      refine ⟨_, gs_tup (ds := [.str s.z, .non]) (gss_cons gs_name (gss_cons gs_name gss_nil)) rfl, ?_⟩
      show SS triv B0 H0 _ [.at_ (.ref y), .dat (.str (textOf r t)), .dat (.lst ((itemsOf r t).map .str)), .dat (.lst (t.post.map Po.dP)), .dat (.str s.z), .dat .non, .no] _ _ _ _
      refine ssd_ifF (EB.is (eb_and (c := false) (eb_test (ed_op (ed_var rfl) ed_str od_eqs)) (fun h => absurd h (by rw [sg_num]; decide))) (by rw [sg_num]; rfl)) (ss_next ⟨_, _, rfl, rfl, rfl⟩)
    | lf l =>
      cases hv : l.v with
      | none =>
        have e : Po.dP (.lf l) = .tup [.str l.z, .non] := by
          show lfP l = _
          unfold lfP
          rw [hv]
        rw [e]
        refine ⟨_, gs_tup (ds := [.str l.z, .non]) (gss_cons gs_name (gss_cons gs_name gss_nil)) rfl, ?_⟩
        have hn : decide (l.z = "number") = false := by rcases lf_none hv with rfl | rfl <;> decide +kernel
        show SS triv B0 H0 _ [.at_ (.ref y), .dat (.str (textOf r t)), .dat (.lst ((itemsOf r t).map .str)), .dat (.lst (t.post.map Po.dP)), .dat (.str l.z), .dat .non, .no] _ _ _ _
        refine ssd_ifF (EB.is (eb_and (c := false) (eb_test (ed_op (ed_var rfl) ed_str od_eqs)) (fun h => absurd h (by rw [hn]; decide))) (by rw [hn]; rfl)) (ss_next ⟨_, _, rfl, rfl, rfl⟩)
      | some q =>
        have e : Po.dP (.lf l) = .tup [.str "number", .tup [.int q.1, .int q.2]] := by
          show lfP l = _
          unfold lfP
          rw [hv]
          rfl
        rw [e]
        refine ⟨_, gs_tup (ds := [.str "number", .tup [.int q.1, .int q.2]]) (gss_cons gs_name (gss_cons gs_name gss_nil)) rfl, ?_⟩
        show SS triv B0 H0 _ [.at_ (.ref y), .dat (.str (textOf r t)), .dat (.lst ((itemsOf r t).map .str)), .dat (.lst (t.post.map Po.dP)), .dat (.str "number"), .dat (.tup [.int q.1, .int q.2]), .no] _ _ _ _
        refine ssd_ifF (EB.is (eb_and (eb_test (ed_op (ed_var rfl) ed_str od_eqs)) (fun _ => eb_test (ed_op (ed_cb (eda_cons (ed_cb (by walk_at "ed") cd_abs) (by walk_at "ed")) cd_max2) ed_int od_gt))) ?_) (ss_next ⟨_, _, rfl, rfl, rfl⟩)
        rw [post_num l q hv, Bool.and_false]
  · rintro Γ ⟨s4, s5, o4, o5, rfl⟩
    obtain ⟨z0, zq, ez, hz⟩ := fst_root r t
    intro B σ H a
    have hy : H y = some (.ins (He.ga K "Target") dx []) := a.go.mv y _ (fun z => z) hH
    have by2 : B y = none := (a.go.new y _ hH).trans hB
    have no : ∀ s ∈ ([.at_ (.ref y), .dat (.str (textOf r t)), .dat (.lst ((itemsOf r t).map .str)), .dat (.lst (t.post.map Po.dP)), s4, s5, .no] : List Sl), isOwn s = false := by
      intro s hs
      simp only [List.mem_cons, List.not_mem_nil, or_false] at hs
      rcases hs with rfl | rfl | rfl | rfl | rfl | rfl | rfl <;> first | rfl | assumption
    refine tail_run (K := K) (C := He.ga K "Target") (j := 0) T.cls_Target no rfl [("width", _), ("root", _), ("_text", _), ("_steps", _)] (targetFs r t) [] [] [] B H σ (by simp) (rebase a no) by2 hy rfl (isl_nil.mpr rfl) rfl ?_ (by show targetKs.Nodup; decide +kernel) (by simp) ?_
    · intro i f te d h1 h2
      match i, h1, h2 with
      | 0, h1, h2 =>
        cases h1
        cases h2
        refine ⟨(ed_if (eb_test (ed_op ed_str (ed_var rfl) (od_inSL (zs := itemsOf r t)))) (fun _ => ed_int) (fun _ => ed_int)).is ?_, T.na_Target_width⟩
        rw [y_items]
        unfold Tm.wid
        cases t.hasY <;> rfl
      | 1, h1, h2 =>
        cases h1
        cases h2
        refine ⟨(ed_op (ed_op (ed_var rfl) ed_int (od_ixL (d := .str z0) ?_)) ed_str od_eqs).is (by rw [hz]), T.na_Target_root⟩
        rw [ez]
        exact L2.atI_nat (j := 0) rfl
      | 2, h1, h2 =>
        cases h1
        cases h2
        refine ⟨ed_join ed_str (ed_var rfl) (.inl rfl) ?_, T.na_Target__text⟩
        have h3 := sum_le (n := 101) (k := 4) (fun z hz => (item_ok hz).2.1) (show (itemsOf r t).length ≤ 101 by omega)
        have h4 : (" " : Str).length = 1 := by decide +kernel
        rw [h4]
        omega
      | 3, h1, h2 =>
        cases h1
        cases h2
        exact ⟨ed_var rfl, T.na_Target__steps⟩
      | i + 4, h1, h2 => simp at h1
    · intro B2 H2 ws q1 q2 q3 q4 q5 q6 q7 q8
      refine q σ B2 H2 ws (a.go.ext.trans q1) q2 q3 q4 q5 q6 (fun b o hb z => q7 b o hb (a.go.mv b o (fun z => z) z)) fun b o z => ?_
      rw [q8 b o (a.go.mv b o (fun z => z) z), a.go.new b o z]
theorem sc_Bar_init : FnScope ["self", "base", "width", "words", "word"] ["self", "base", "width", "words"] (defScope s_Bar_init) := ⟨rfl, rfl, rfl, by decide +kernel, rfl, by decide +kernel, by decide +kernel⟩
def F_Bar (ds fs : List D) : Prop := ∃ (b u : Nat) (ws : List (List Nat)), ws.length ≤ 100000 ∧ ds = [.int b, .int u, .lst (ws.map wd)] ∧ fs = [.int b, .int u, .tup (ws.map wd)]
theorem ok_Bar (T : Txt K mg) : MkC P w K mg base "Bar" (He.ga K "Bar") 1 (isp (He.ga K "Bar") barKs F_Bar) := by
  refine isp_mk T.d_Bar_init T.mk_Bar T.g_Bar sc_Bar_init (fun _ _ _ _ _ _ us hl => match us, hl with | [_, _, _, _], _ => rfl) (fun ds d ⟨a, _, _, _, e, _⟩ => by rw [e] <;> rfl) (fun cdv A outer s H E hr => ⟨_, (pss_cons (ps_fldK K (pv 0) (pv 1) rfl)
    (pss_cons (ps_fldK K (pv 0) (pv 2) rfl)
    (pss_one (ps_fldK K (pv 0) (pe_callTy (call_tupleK K) (by rfl) T.b_tuple (by decide +kernel) (pa_cons (pe_lc (own := [("word", 4)]) (g := gName 4) rfl sc_Bar_init.nd  (pi_seqK K (pv 3)) (blkOk_by (N := ["self", "base", "width", "words", "word"]) (sc := defScope s_Bar_init) (by decide +kernel)) (fun _ _ _ _ _ => (pg_name (i := 4) sc_Bar_init.nd rfl (Or.inl rfl))) (fun _ _ _ _ _ => pts_nil) (fun _ _ _ _ _ => (pe_callTy (call_tupleK K) (by rfl) T.b_tuple (by decide +kernel) (pa_cons (pv 4) pa_nil)))) pa_nil)) rfl)))), ?_⟩)
  intro B0 H0 ds fs y dx En h hB hH q
  obtain ⟨b, u, ws, hl, rfl, rfl⟩ := h
  show RT En B0 H0 _ [.at_ (.ref y), .dat (.int b), .dat (.int u), .dat (.lst (ws.map wd)), .no]
  intro B σ H a
  have hy : H y = some (.ins (He.ga K "Bar") dx []) := a.go.mv y _ (fun z => z) hH
  have by2 : B y = none := (a.go.new y _ hH).trans hB
  have no : ∀ s ∈ ([.at_ (.ref y), .dat (.int b), .dat (.int u), .dat (.lst (ws.map wd)), .no] : List Sl), isOwn s = false := by
    intro s hs
    simp only [List.mem_cons, List.not_mem_nil, or_false] at hs
    rcases hs with rfl | rfl | rfl | rfl | rfl <;> rfl
  refine tail_run (K := K) (C := He.ga K "Bar") (j := 0) T.cls_Bar no rfl [("base", _), ("width", _), ("words", _)] [.int b, .int u, .tup (ws.map wd)] [] [] [] B H σ (by simp) (rebase a no) by2 hy rfl (isl_nil.mpr rfl) rfl ?_ (by show barKs.Nodup; decide +kernel) (by simp) ?_
  · intro i f te d h1 h2
    match i, h1, h2 with
    | 0, h1, h2 =>
      cases h1
      cases h2
      exact ⟨ed_var rfl, T.na_Bar_base⟩
    | 1, h1, h2 =>
      cases h1
      cases h2
      exact ⟨ed_var rfl, T.na_Bar_width⟩
    | 2, h1, h2 =>
      cases h1
      cases h2
      exact ⟨ed_cb (eda_cons (ed_of_el (edl_map1 (xs := ws) wd wd (wid_seq (.inl rfl) (ed_var rfl)) hl fun x _ => ed_cb (eda_cons (ed_var rfl) eda_nil) (cd_tuple (.inr rfl)))) eda_nil) (cd_tuple (.inl rfl)), T.na_Bar_words⟩
    | i + 3, h1, h2 => simp at h1
  · intro B2 H2 us q1 q2 q3 q4 q5 q6 q7 q8
    refine q σ B2 H2 us (a.go.ext.trans q1) q2 q3 q4 q5 q6 (fun b o hb z => q7 b o hb (a.go.mv b o (fun z => z) z)) fun b o z => ?_
    rw [q8 b o (a.go.mv b o (fun z => z) z), a.go.new b o z]
end
end K82
set_option Elab.async false
set_option linter.all false
set_option maxRecDepth 100000
set_option maxHeartbeats 2000000
namespace K82
open PySem PySem.Spec PyProof.Rows L2 Evl Dl K82Head TL
local macro_rules | `(tactic| walk_at "ed") => `(tactic| first
  | exact ed_var rfl | exact ed_int | exact ed_str | exact ed_bl | exact ed_non | exact eda_nil | exact edo_none
  | exact od_add | exact od_sub | exact od_lt | exact od_le | exact od_gt | exact od_ge | exact od_eqi | exact od_nei | exact od_eqs | exact od_nes | exact od_isN | exact od_notN | exact cd_int | exact cd_abs | exact cd_max2 | exact cd_gcd
  | ((with_reducible apply eda_cons) <;> walk_at "ed") | ((with_reducible apply ed_op) <;> walk_at "ed") | ((with_reducible apply ed_cb) <;> walk_at "ed") | ((with_reducible apply eb_test) <;> walk_at "ed") | ((with_reducible apply eb_tru) <;> walk_at "ed") | ((with_reducible apply ed_tup) <;> walk_at "ed")
  | ((with_reducible apply ed_neg) <;> walk_at "ed") | ((with_reducible apply eb_not) <;> walk_at "ed") | ((with_reducible apply edl_lst) <;> walk_at "ed") | ((with_reducible apply edo_some) <;> walk_at "ed") | ((with_reducible apply ed_call) <;> walk_at "ed")
  | (apply od_mul; assumption) | (apply od_rem; omega) | (apply od_div <;> omega) | (apply od_ixT; rfl) | (apply od_ixL; rfl)
  | (with_reducible exact True.intro) | (simp; done) | skip)
/-! ### what a term is worth -/
def opQ : Sg → Rat → Rat → Rat
  | .add, a, b => a + b
  | .sub, a, b => a - b
  | .mul, a, b => a * b
  | .dvd, a, b => a / b
def lfQ (pt : Rat × Rat) (l : Lf) : Rat := match l.v with
  | some q => Rat.divInt q.1 q.2
  | none => if l = .x then pt.1 else pt.2
def nil (s : Sg) (b : Rat) : Prop := s = .dvd ∧ b = 0
instance (s : Sg) (b : Rat) : Decidable (nil s b) := by unfold nil; infer_instance
def val (pt : Rat × Rat) : Tm → Option Rat
  | .lf l => some (lfQ pt l)
  | .nd s a b => (val pt a).bind fun x => (val pt b).bind fun y => if nil s y then none else some (opQ s x y)
/-- the stack machine, the top of the stack first -/
def mach (pt : Rat × Rat) : List Po → List Rat → Option (List Rat)
  | [], S => some S
  | .lf l :: r, S => mach pt r (lfQ pt l :: S)
  | .op s :: r, b :: a :: S => if nil s b then none else mach pt r (opQ s a b :: S)
  | .op _ :: _, _ => none
theorem mach_tm (pt : Rat × Rat) : ∀ (t : Tm) (r : List Po) (S : List Rat), mach pt (t.post ++ r) S = (val pt t).bind fun q => mach pt r (q :: S)
  | .lf l, r, S => rfl
  | .nd s a b, r, S => by
    show mach pt (a.post ++ b.post ++ [.op s] ++ r) S = _
    rw [List.append_assoc, List.append_assoc, mach_tm pt a]
    show _ = ((val pt a).bind fun x => (val pt b).bind fun y => if nil s y then none else some (opQ s x y)).bind fun q => mach pt r (q :: S)
    rw [Option.bind_assoc]
    congr 1
    funext x
    rw [mach_tm pt b, Option.bind_assoc]
    congr 1
    funext y
    show mach pt (.op s :: r) (y :: x :: S) = _
    show (if nil s y then none else mach pt r (opQ s x y :: S)) = _
    split <;> rfl
theorem mach_all (pt : Rat × Rat) (t : Tm) : mach pt t.post [] = (val pt t).map fun q => [q] := by
  have z := mach_tm pt t [] []
  rw [List.append_nil] at z
  rw [z]
  cases val pt t <;> rfl
/-- the stack never lacks -/
def okd : List Po → Nat → Prop
  | [], n => n = 1
  | .lf _ :: r, n => okd r (n + 1)
  | .op _ :: r, n => 2 ≤ n ∧ okd r (n - 1)
theorem okd_tm : ∀ (t : Tm) (r : List Po) (n : Nat), okd r (n + 1) → okd (t.post ++ r) n
  | .lf l, r, n, h => h
  | .nd s a b, r, n, h => by
    show okd (a.post ++ b.post ++ [.op s] ++ r) n
    rw [List.append_assoc, List.append_assoc]
    exact okd_tm a _ n (okd_tm b _ (n + 1) ⟨by omega, h⟩)
theorem okd_all (t : Tm) : okd t.post 0 := by
  have z := okd_tm t [] 0 rfl
  rw [List.append_nil] at z
  exact z
def opsN : List Po → Nat
  | [] => 0
  | .lf _ :: r => opsN r
  | .op _ :: r => opsN r + 1
theorem opsN_app : ∀ a b : List Po, opsN (a ++ b) = opsN a + opsN b
  | [], b => (Nat.zero_add _).symm
  | .lf _ :: r, b => opsN_app r b
  | .op _ :: r, b => by
    show opsN (r ++ b) + 1 = opsN r + 1 + opsN b
    rw [opsN_app r b]
    omega
def kz (j : Nat) : Nat := 42 * 2 ^ j - 1
theorem kz_le {j : Nat} (h : j ≤ 5) : kz j ≤ 1400 := by
  unfold kz
  have : 2 ^ j ≤ 2 ^ 5 := Nat.pow_le_pow_right (by decide) h
  omega
theorem kz_ge (j : Nat) : 41 ≤ kz j := by
  unfold kz
  have : 1 ≤ 2 ^ j := Nat.one_le_two_pow
  omega
theorem kz_step (j : Nat) : kz j + kz j + 1 ≤ kz (j + 1) := by
  unfold kz
  have : 1 ≤ 2 ^ j := Nat.one_le_two_pow
  have : (2 : Nat) ^ (j + 1) = 2 ^ j * 2 := Nat.pow_succ 2 j
  omega
theorem kz_mono (j : Nat) : kz j ≤ kz (j + 1) := by
  have := kz_step j
  omega
theorem lf_sz {l : Lf} {q : Int × Int} (h : l.v = some q) (k : Nat) (hk : 41 ≤ k) : q.2 ≠ 0 ∧ Sz k q.1 ∧ Sz k q.2 := by
  obtain ⟨_, _, _, _, h1, h2, h3⟩ := lf_ok l q h
  have z : (2 : Nat) ^ 41 ≤ 2 ^ k := Nat.pow_le_pow_right (by decide) hk
  refine ⟨by omega, ?_, ?_⟩
  · unfold Sz
    omega
  · unfold Sz
    omega
/-- a point that has what the term's names ask -/
structure PtOk (ps : List Rat) (pos : List Po) : Prop where
  sz : ∀ q ∈ ps, Sq 41 q
  x : ∃ a r, ps = a :: r
  y : .lf .y ∈ pos → ∃ a b r, ps = a :: b :: r
def ptOf (ps : List Rat) : Rat × Rat := (ps.getD 0 0, ps.getD 1 0)
theorem PtOk.at {ps : List Rat} {pos : List Po} (h : PtOk ps pos) {l : Lf} (hm : .lf l ∈ pos) (hv : l.v = none) : ps[(if l = .x then 0 else 1 : Nat)]? = some (lfQ (ptOf ps) l) ∧ Sq 41 (lfQ (ptOf ps) l) := by
  have e : ps[(if l = .x then 0 else 1 : Nat)]? = some (lfQ (ptOf ps) l) := by
    unfold lfQ ptOf
    rw [hv]
    rcases lf_none hv with rfl | rfl
    · obtain ⟨a, r, e⟩ := h.x
      rw [e]
      rfl
    · obtain ⟨a, b, r, e⟩ := h.y hm
      rw [e]
      rfl
  exact ⟨e, h.sz _ (List.mem_of_getElem? e)⟩
def outQ : Option Rat → D
  | some q => dq q
  | none => .non
theorem q_zero {q : Rat} : q.num = 0 ↔ q = 0 := Rat.num_eq_zero
section
variable {P : Program} {w : World} {K : PySem.W.Frag} {mg : Str → Option Value} {base : Heap}
theorem sc_law_eval : FnScope ["deeds", "point", "held", "one", "two", "left"] ["deeds", "point"] (defScope s_law_eval) := ⟨rfl, rfl, rfl, by decide +kernel, rfl, by decide +kernel, by decide +kernel⟩
def F_law_eval (ds : List D) (d : D) : Prop := ∃ (t : Tm) (ps : List Rat), t.post.length ≤ 100 ∧ opsN t.post ≤ 5 ∧ PtOk ps t.post ∧ ds = [.lst (t.post.map Po.dL), ptD ps] ∧ d = outQ (val (ptOf ps) t)
theorem opQ_sz {j : Nat} {s : Sg} {a b : Rat} (ha : Sq (kz j) a) (hb : Sq (kz j) b) (hn : ¬ nil s b) : Sq (kz (j + 1)) (opQ s a b) := by
  obtain ⟨a1, a2⟩ := ha
  obtain ⟨b1, b2⟩ := hb
  have k1 := kz_step j
  cases s with
  | add =>
    show Sq _ (a + b)
    rw [← q_add]
    exact sq_div (Int.mul_ne_zero (den_ne a) (den_ne b)) (((a1.mul b2).add (b1.mul a2)).mono (by omega)) ((a2.mul b2).mono (by omega))
  | sub =>
    show Sq _ (a - b)
    rw [← q_sub]
    exact sq_div (Int.mul_ne_zero (den_ne a) (den_ne b)) (((a1.mul b2).sub (b1.mul a2)).mono (by omega)) ((a2.mul b2).mono (by omega))
  | mul =>
    show Sq _ (a * b)
    rw [← q_mul]
    exact sq_div (Int.mul_ne_zero (den_ne a) (den_ne b)) ((a1.mul b1).mono (by omega)) ((a2.mul b2).mono (by omega))
  | dvd =>
    show Sq _ (a / b)
    rw [← q_div]
    have hb0 : b.num ≠ 0 := fun z => hn ⟨rfl, q_zero.mp z⟩
    exact sq_div (Int.mul_ne_zero (den_ne a) hb0) ((a1.mul b2).mono (by omega)) ((a2.mul b1).mono (by omega))
theorem lf_dq {l : Lf} {q : Int × Int} (h : l.v = some q) : dp q = dq (Rat.divInt q.1 q.2) := by
  cases l <;> simp only [Lf.v, reduceCtorEq, Option.some.injEq] at h <;> subst h <;> rfl
theorem sq_lf {l : Lf} {q : Int × Int} (h : l.v = some q) : Sq 41 (Rat.divInt q.1 q.2) := by
  obtain ⟨h1, h2, h3⟩ := lf_sz h 41 (Nat.le_refl _)
  exact sq_div h1 h2 h3
theorem lfQ_some {l : Lf} {q : Int × Int} (pt : Rat × Rat) (h : l.v = some q) : lfQ pt l = Rat.divInt q.1 q.2 := by
  unfold lfQ
  rw [h]
theorem two_of {S : List Rat} (h : 2 ≤ S.length) : ∃ b a r, S = b :: a :: r := by
  match S, h with
  | b :: a :: r, _ => exact ⟨b, a, r, rfl⟩
theorem sg_xy (s : Sg) : (decide (s.z = "x") || decide (s.z = "y")) = false := by cases s <;> decide +kernel
theorem sg_dvd (s : Sg) : decide (s.z = "/") = decide (s = .dvd) := by cases s <;> decide +kernel
theorem ok_law_eval (T : Txt K mg) : Cal P w K mg base "_law_eval" 4 (psp F_law_eval) := by
  have c_law_add := ok_law_add (P := P) (w := w) (base := base) T
  have c_law_sub := ok_law_sub (P := P) (w := w) (base := base) T
  have c_law_mul := ok_law_mul (P := P) (w := w) (base := base) T
  have c_law_frac := ok_law_frac (P := P) (w := w) (base := base) T
  refine psp_mk T.d_law_eval T.g_law_eval sc_law_eval (fun _ _ _ _ _ _ us hl => match us, hl with | [_, _], _ => rfl) (fun ds d ⟨a, _, _, _, _, e, _⟩ => by rw [e] <;> rfl) (fun cdv A outer s H E hr => ⟨_, (pss_cons (ps_set (i := 2) sc_law_eval.nd rfl (Or.inl rfl) (pe_lst pa_nil))
    (pss_cons (ps_for PassesOwn.never rfl (pi_seqK K (pv 0)) (pg_name (i := 3) sc_law_eval.nd rfl (Or.inl rfl))
      (pss_one (ps_if (pt_truthK K (pe_callB (call_isK K) (by rfl) T.b_isinstance (by decide +kernel) (pa_cons (pv 3) (pa_cons (pe_bltn (v := .ty "tuple") (by rfl) T.b_tuple (by decide +kernel) rfl) pa_nil))) (by intro _; rfl))
          (pss_one (ps_expr (pe_bmK K PySem.F.plainAttrs_list PySem.F.slot_list_append PySem.F.type_list_append mt_append (pv 2) (pa_cons (pv 3) pa_nil))))
          (pss_one (ps_if (PW.pt (pw_or (pt_cmpR (op_eqK K hr.units) (pv 3) pe_str (nomark _)) (pw_or1 (pt_cmpR (op_eqK K hr.units) (pv 3) pe_str (nomark _)))))
              (pss_one (ps_expr (pe_bmK K PySem.F.plainAttrs_list PySem.F.slot_list_append PySem.F.type_list_append mt_append (pv 2) (pa_cons (pe_ix (ix_seqK K) (pv 1) (pe_ifExp (pt_cmpR (op_eqK K hr.units) (pv 3) pe_str (nomark _)) pe_int pe_int) (fun _ _ => rfl)) pa_nil))))
              (pss_cons (ps_set (i := 4) sc_law_eval.nd rfl (Or.inl rfl) (pe_bm0K K PySem.F.plainAttrs_list PySem.F.slot_list_pop PySem.F.type_list_pop mt_pop (pv 2)))
                (pss_cons (ps_set (i := 5) sc_law_eval.nd rfl (Or.inl rfl) (pe_bm0K K PySem.F.plainAttrs_list PySem.F.slot_list_pop PySem.F.type_list_pop mt_pop (pv 2)))
                (pss_cons (ps_if (PW.pt (pw_and (pt_cmpR (op_eqK K hr.units) (pv 3) pe_str (nomark _)) (pw_and1 (pt_cmpR (op_eqK K hr.units) (pe_ix (ix_seqK K) (pv 4) pe_int (fun _ _ => rfl)) pe_int (nomark _)))))
                  (pss_one (ps_ret pe_non))
                  pss_nil)
                (pss_one (ps_expr (pe_bmK K PySem.F.plainAttrs_list PySem.F.slot_list_append PySem.F.type_list_append mt_append (pv 2) (pa_cons (pe_ifExp (pt_cmpR (op_eqK K hr.units) (pv 3) pe_str (nomark _)) (pe_cal c_law_add (hr.mono (by decide)) rfl (pa_cons (pv 5) (pa_cons (pv 4) pa_nil))) (pe_ifExp (pt_cmpR (op_eqK K hr.units) (pv 3) pe_str (nomark _)) (pe_cal c_law_sub (hr.mono (by decide)) rfl (pa_cons (pv 5) (pa_cons (pv 4) pa_nil))) (pe_ifExp (pt_cmpR (op_eqK K hr.units) (pv 3) pe_str (nomark _)) (pe_cal c_law_mul (hr.mono (by decide)) rfl (pa_cons (pv 5) (pa_cons (pv 4) pa_nil))) (pe_cal c_law_frac (hr.mono (by decide)) rfl (pa_cons (pe_op (op_mulK K) (pe_ix (ix_seqK K) (pv 5) pe_int (fun _ _ => rfl)) (pe_ix (ix_seqK K) (pv 4) pe_int (fun _ _ => rfl))) (pa_cons (pe_op (op_mulK K) (pe_ix (ix_seqK K) (pv 5) pe_int (fun _ _ => rfl)) (pe_ix (ix_seqK K) (pv 4) pe_int (fun _ _ => rfl))) pa_nil)))))) pa_nil))))))))))))
    (pss_one (ps_ret (pe_ix (ix_seqK K) (pv 2) pe_int (fun _ _ => rfl)))))), ?_⟩)
  intro B0 H0 ds d h
  obtain ⟨t, ps, hl, ho, hp, rfl, rfl⟩ := h
  show SS triv B0 H0 _ [.dat (.lst (t.post.map Po.dL)), .dat (ptD ps), .no, .no, .no, .no] _ _ _ _
  refine ss_seq (ssd_asgO (edl_lst eda_nil) ?_)
  refine ss_seq (ssd_for (xs := t.post.map Po.dL) (P := fun i Γ => ∃ S j s3 s4 s5, mach (ptOf ps) (t.post.drop i) S = (val (ptOf ps) t).map (fun q => [q]) ∧ okd (t.post.drop i) S.length ∧ j + opsN (t.post.drop i) ≤ 5 ∧ (∀ q ∈ S, Sq (kz j) q) ∧ S.length ≤ i ∧
    Γ = [.dat (.lst (t.post.map Po.dL)), .dat (ptD ps), .own (S.reverse.map dq), s3, s4, s5]) (wid_seq (.inl rfl) (ed_var rfl)) ⟨[], 0, .no, .no, .no, mach_all _ t, okd_all t, by simpa using ho, by simp, Nat.le_refl _, rfl⟩ ?_ ?_)
  · rintro i x Γ hx ⟨S, j, s3, s4, s5, hm, hd, hj, hS, hi, rfl⟩
    have hil : i < t.post.length := by
      have := (List.getElem?_eq_some_iff.mp hx).1
      rw [List.length_map] at this
      exact this
    have hx2 : x = (t.post[i]).dL := by
      rw [List.getElem?_map, List.getElem?_eq_getElem hil] at hx
      exact (Option.some.inj hx).symm
    have hmem : t.post[i] ∈ t.post := List.getElem_mem hil
    rw [List.drop_eq_getElem_cons hil] at hm hd hj
    generalize t.post[i] = o at hm hd hj hx2 hmem
    subst hx2
    refine ⟨_, gs_name, ?_⟩
    show SS triv B0 H0 _ [.dat (.lst (t.post.map Po.dL)), .dat (ptD ps), .own (S.reverse.map dq), .dat o.dL, s4, s5] _ _ _ _
    have hlen : (S.reverse.map dq).length < 100000 := by
      rw [List.length_map, List.length_reverse]
      omega
    cases o with
    | lf l =>
      have hm2 : mach (ptOf ps) (t.post.drop (i + 1)) (lfQ (ptOf ps) l :: S) = (val (ptOf ps) t).map (fun q => [q]) := hm
      have fin : ∀ s3, Sq 41 (lfQ (ptOf ps) l) → ∃ S2 j2 s3' s4' s5', mach (ptOf ps) (t.post.drop (i + 1)) S2 = (val (ptOf ps) t).map (fun q => [q]) ∧ okd (t.post.drop (i + 1)) S2.length ∧ j2 + opsN (t.post.drop (i + 1)) ≤ 5 ∧ (∀ q ∈ S2, Sq (kz j2) q) ∧ S2.length ≤ i + 1 ∧
          ([.dat (.lst (t.post.map Po.dL)), .dat (ptD ps), .own (S.reverse.map dq ++ [dq (lfQ (ptOf ps) l)]), s3, s4, s5] : List Sl) = [.dat (.lst (t.post.map Po.dL)), .dat (ptD ps), .own (S2.reverse.map dq), s3', s4', s5'] := fun s3 hq =>
        ⟨lfQ (ptOf ps) l :: S, j, s3, s4, s5, hm2, hd, hj, fun q hqm => by
          rcases List.mem_cons.mp hqm with rfl | hqm
          · exact hq.mono (kz_ge j)
          · exact hS q hqm, by rw [List.length_cons]; omega, by rw [List.reverse_cons, List.map_append]; rfl⟩
      cases hv : l.v with
      | none =>
        have e : Po.dL (.lf l) = .str l.z := by
          show lfL l = _
          unfold lfL
          rw [hv]
        rw [e]
        obtain ⟨hat, hq⟩ := hp.at hmem hv
        refine ssd_ifF (EB.is (eb_tru (ed_isi (x := .str l.z) (b := false) (ed_var rfl) rfl (by decide +kernel))) (by rfl)) ?_
        refine ssd_ifT (EB.is (eb_or (eb_test (ed_op (ed_var rfl) ed_str od_eqs)) (fun _ => eb_test (ed_op (ed_var rfl) ed_str od_eqs))) (by rcases lf_none hv with rfl | rfl <;> decide +kernel)) ?_
        refine ssd_append rfl (d := dq (lfQ (ptOf ps) l)) (ed_op (ed_var rfl) (EP.is (y := .int (if l = .x then 0 else 1 : Nat)) (ed_if (eb_test (ed_op (ed_var rfl) ed_str od_eqs)) (fun _ => ed_int) (fun _ => ed_int)) ?_) (od_ixT (L2.atI_nat ?_))) hlen (fin _ hq)
        · rcases lf_none hv with rfl | rfl <;> rfl
        · rw [List.getElem?_map, hat]
          rfl
      | some q =>
        have e : Po.dL (.lf l) = dp q := by
          show lfL l = _
          unfold lfL
          rw [hv]
        have eq : dp q = dq (lfQ (ptOf ps) l) := by rw [lfQ_some _ hv, lf_dq hv]
        rw [e]
        refine ssd_ifT (EB.is (eb_tru (ed_isi (x := dp q) (b := true) (ed_var rfl) rfl (by decide +kernel))) (by rfl)) ?_
        refine ssd_append rfl (d := dq (lfQ (ptOf ps) l)) (EP.is (ed_var rfl) eq) hlen (fin _ ?_)
        rw [lfQ_some _ hv]
        exact sq_lf hv
    | op s =>
      obtain ⟨h2, hd2⟩ := hd
      obtain ⟨b, a, S2, rfl⟩ := two_of h2
      have hb := hS b (by simp)
      have ha := hS a (by simp)
      have hj5 : j + 1 ≤ 5 := by
        have : j + (opsN (t.post.drop (i + 1)) + 1) ≤ 5 := hj
        omega
      have k0 := kz_le (j := j) (by omega)
      have hb3 : Sq 3000 b := hb.mono (by omega)
      have ha3 : Sq 3000 a := ha.mono (by omega)
      have hrev : (b :: a :: S2).reverse.map dq = (S2.reverse.map dq ++ [dq a]) ++ [dq b] := by
        rw [List.reverse_cons, List.reverse_cons, List.map_append, List.map_append]
        rfl
      rw [hrev]
      show SS triv B0 H0 _ [.dat (.lst (t.post.map Po.dL)), .dat (ptD ps), .own ((S2.reverse.map dq ++ [dq a]) ++ [dq b]), .dat (.str s.z), s4, s5] _ _ _ _
      refine ssd_ifF (EB.is (eb_tru (ed_isi (x := .str s.z) (b := false) (ed_var rfl) rfl (by decide +kernel))) (by rfl)) ?_
      refine ssd_ifF (EB.is (eb_or (eb_test (ed_op (ed_var rfl) ed_str od_eqs)) (fun _ => eb_test (ed_op (ed_var rfl) ed_str od_eqs))) (sg_xy s)) ?_
      refine ss_seq (ss_asgX (ex_pop rfl) ?_)
      rintro d G ⟨rfl, rfl⟩
      refine ss_seq (ss_asgX (ex_pop rfl) ?_)
      rintro d G ⟨rfl, rfl⟩
      show SS triv B0 H0 _ [.dat (.lst (t.post.map Po.dL)), .dat (ptD ps), .own (S2.reverse.map dq), .dat (.str s.z), .dat (dq b), .dat (dq a)] _ _ _ _
      have hm2 : (if nil s b then none else mach (ptOf ps) (t.post.drop (i + 1)) (opQ s a b :: S2)) = (val (ptOf ps) t).map (fun q => [q]) := hm
      refine ss_seq (ssd_if (b := decide (nil s b)) (EB.is (eb_and (eb_test (ed_op (ed_var rfl) ed_str od_eqs)) (fun _ => eb_test (ed_op (ed_op (ed_var rfl) ed_int (od_ixT (d := .int b.num) rfl)) ed_int od_eqi))) ?_) (fun hn => ?_) (fun hn => ss_next ?_))
      · rw [sg_dvd, Bool.eq_iff_iff, Bool.and_eq_true, decide_eq_true_eq, decide_eq_true_eq, decide_eq_true_eq, q_zero]
        exact Iff.rfl
      · have hn : nil s b := of_decide_eq_true hn
        rw [if_pos hn] at hm2
        refine ssd_ret ed_non ?_
        cases hv : val (ptOf ps) t with
        | none => rfl
        | some q =>
          rw [hv] at hm2
          cases hm2
      · have hn : ¬ nil s b := of_decide_eq_false hn
        rw [if_neg hn] at hm2
        refine ssd_append rfl (d := dq (opQ s a b)) ?_ ?_ ⟨opQ s a b :: S2, j + 1, .dat (.str s.z), .dat (dq b), .dat (dq a), hm2, ?_, ?_, ?_, ?_, ?_⟩
        · cases s with
          | add => exact ed_ifT (EB.is (eb_test (ed_op (ed_var rfl) ed_str od_eqs)) (by decide +kernel)) (ed_call (ds := [dq a, dq b]) (by walk_at "ed") ⟨a, b, rfl, ha3, hb3, rfl⟩)
          | sub => exact ed_ifF (EB.is (eb_test (ed_op (ed_var rfl) ed_str od_eqs)) (by decide +kernel)) (ed_ifT (EB.is (eb_test (ed_op (ed_var rfl) ed_str od_eqs)) (by decide +kernel)) (ed_call (ds := [dq a, dq b]) (by walk_at "ed") ⟨a, b, rfl, ha3, hb3, rfl⟩))
          | mul => exact ed_ifF (EB.is (eb_test (ed_op (ed_var rfl) ed_str od_eqs)) (by decide +kernel)) (ed_ifF (EB.is (eb_test (ed_op (ed_var rfl) ed_str od_eqs)) (by decide +kernel)) (ed_ifT (EB.is (eb_test (ed_op (ed_var rfl) ed_str od_eqs)) (by decide +kernel)) (ed_call (ds := [dq a, dq b]) (by walk_at "ed") ⟨a, b, rfl, ha3, hb3, rfl⟩)))
          | dvd =>
            have hb0 : b.num ≠ 0 := fun z => hn ⟨rfl, q_zero.mp z⟩
            have m1 := cm ha3.1 hb3.2 (by decide)
            have m2 := cm ha3.2 hb3.1 (by decide)
            refine ed_ifF (EB.is (eb_test (ed_op (ed_var rfl) ed_str od_eqs)) (by decide +kernel)) (ed_ifF (EB.is (eb_test (ed_op (ed_var rfl) ed_str od_eqs)) (by decide +kernel)) (ed_ifF (EB.is (eb_test (ed_op (ed_var rfl) ed_str od_eqs)) (by decide +kernel)) ?_))
            show ED triv _ [.dat (.lst (t.post.map Po.dL)), .dat (ptD ps), .own (S2.reverse.map dq), .dat (.str Sg.dvd.z), .dat (.tup [.int b.num, .int b.den]), .dat (.tup [.int a.num, .int a.den])] (dq (a / b))
            refine ed_call (ds := [.int (a.num * b.den), .int (a.den * b.num)]) (by walk_at "ed") ⟨_, _, rfl, Int.mul_ne_zero (den_ne a) hb0, (ha3.1.mul hb3.2).mono (by decide), (ha3.2.mul hb3.1).mono (by decide), ?_⟩
            rw [q_div]
        · rw [List.length_map, List.length_reverse]
          rw [List.length_cons, List.length_cons] at hi
          omega
        · exact hd2
        · have : j + (opsN (t.post.drop (i + 1)) + 1) ≤ 5 := hj
          omega
        · intro q hq
          rcases List.mem_cons.mp hq with rfl | hq
          · exact opQ_sz ha hb hn
          · exact (hS q (by simp [hq])).mono (kz_mono j)
        · rw [List.length_cons] at hi ⊢
          rw [List.length_cons] at hi
          omega
        · rw [List.reverse_cons, List.map_append]
          rfl
  · rintro Γ ⟨S, j, s3, s4, s5, hm, hd, hj, hS, hi, rfl⟩
    rw [List.length_map, List.drop_length] at hm hd
    have hd1 : S.length = 1 := hd
    match S, hd1 with
    | [q], _ =>
      have hm : some [q] = (val (ptOf ps) t).map (fun q => [q]) := hm
      cases hv : val (ptOf ps) t with
      | none =>
        rw [hv] at hm
        cases hm
      | some q2 =>
        rw [hv] at hm
        have : q = q2 := by
          have := Option.some.inj hm
          injection this
        subst this
        exact ssd_ret (ed_ixO (ds := [dq q]) rfl ed_int rfl) rfl
end
end K82
set_option Elab.async false
set_option linter.all false
set_option maxRecDepth 100000
set_option maxHeartbeats 2000000
namespace K82
open PySem PySem.Spec PyProof.Rows L2 Evl Dl K82Head TL
local macro_rules | `(tactic| walk_at "ed") => `(tactic| first
  | exact ed_var rfl | exact ed_int | exact ed_str | exact ed_bl | exact ed_non | exact eda_nil | exact edo_none
  | exact od_add | exact od_sub | exact od_lt | exact od_le | exact od_gt | exact od_ge | exact od_eqi | exact od_nei | exact od_eqs | exact od_nes | exact od_isN | exact od_notN | exact cd_int | exact cd_abs | exact cd_max2 | exact cd_gcd
  | ((with_reducible apply eda_cons) <;> walk_at "ed") | ((with_reducible apply ed_op) <;> walk_at "ed") | ((with_reducible apply ed_cb) <;> walk_at "ed") | ((with_reducible apply eb_test) <;> walk_at "ed") | ((with_reducible apply eb_tru) <;> walk_at "ed") | ((with_reducible apply ed_tup) <;> walk_at "ed")
  | ((with_reducible apply ed_neg) <;> walk_at "ed") | ((with_reducible apply eb_not) <;> walk_at "ed") | ((with_reducible apply edl_lst) <;> walk_at "ed") | ((with_reducible apply edo_some) <;> walk_at "ed") | ((with_reducible apply ed_call) <;> walk_at "ed")
  | (apply od_mul; assumption) | (apply od_rem; omega) | (apply od_div <;> omega) | (apply od_ixT; rfl) | (apply od_ixL; rfl)
  | (with_reducible exact True.intro) | (simp; done) | skip)
theorem pss_nv {X : Cx} {st : List Stmt} : PSs X st (fun _ _ _ => False) := ⟨fun _ _ _ _ _ _ h => h.elim⟩
/-! ### the exceptions' classes -/
theorem exc_of {K : PySem.W.Frag} {x : Str} (h : excB K x = true) : OexC K (He.ga K x) ∧ XfC K (He.ga K x) := by
  unfold excB at h
  obtain ⟨h1, h2⟩ := He.ba h
  obtain ⟨h3, h4⟩ := He.ba h2
  obtain ⟨h5, h6⟩ := He.ba h4
  obtain ⟨h7, h8⟩ := He.ba h6
  have xf := xfB_ok h3
  refine ⟨⟨?_, He.eqO_ok h5, xf.exC, of_decide_eq_true h7, h8⟩, xf⟩
  split at h1
  · rename_i od cd sl eo
    split at h1
    · rename_i C r k0 k1 k2 k3 n k5 e1 e2
      obtain ⟨g1, g2⟩ := He.ba h1
      obtain ⟨g3, g4⟩ := He.ba g2
      obtain ⟨g5, g6⟩ := He.ba g4
      obtain ⟨g7, g8⟩ := He.ba g6
      have eC : C = He.ga K x := beq_iff_eq.mp g1
      have en : n = "ValueError.__new__" := beq_iff_eq.mp g3
      subst en
      obtain ⟨nm, bs, mro, ns, q, hd, sn, sub, ab, col, hdl⟩ := cd
      dsimp only at e1 g5 g7
      subst e1
      rw [eC] at eo
      have hdl0 : hdl = false := by
        cases hdl
        · rfl
        · cases g5
      subst hdl0 g7
      have esl : sl = #[k0, k1, k2, k3, some (.builtin "ValueError.__new__"), k5] := by
        apply Array.toList_inj.mp
        exact e2
      subst esl
      exact ⟨nm, q, ns, bs, r, sn, sub, ab, col, od, k0, k1, k2, k3, k5, eo, g8⟩
    · cases h1
  · cases h1
section
variable {P : Program} {w : World} {K : PySem.W.Frag} {mg : Str → Option Value} {base : Heap}
theorem exs (T : Txt K mg) : excB K "Unlike" = true ∧ excB K "NoValue" = true := by
  have e : ex0 K = true := (He.ba T.x).1
  unfold ex0 at e
  exact ⟨(He.ba (He.ba (He.ba e).1).1).2, (He.ba (He.ba e).1).2⟩
theorem sc_Unlike_init : FnScope ["self", "what"] ["self", "what"] (defScope s_Unlike_init) := ⟨rfl, rfl, rfl, by decide +kernel, rfl, by decide +kernel, by decide +kernel⟩
theorem ok_Unlike (T : Txt K mg) : EIn P w K mg base "Unlike" (He.ga K "Unlike") "what" 1 := by
  have M := T.me_Unlike_init
  exact ein_mk T.d_Unlike_init (exc_of (exs T).1).1 M.at_ (beq_iff_eq.mp M.fn) T.g_Unlike T.na_Unlike_what sc_Unlike_init rfl rfl (fun _ _ _ _ _ _ us hl => match us, hl with | [_, _], _ => rfl) (fun cdv A outer s H E hr => pss_one (ps_ost (pv 0) (pv 1)))
theorem sc_NoValue_init : FnScope ["self", "spot"] ["self", "spot"] (defScope s_NoValue_init) := ⟨rfl, rfl, rfl, by decide +kernel, rfl, by decide +kernel, by decide +kernel⟩
theorem ok_NoValue (T : Txt K mg) : EIn P w K mg base "NoValue" (He.ga K "NoValue") "spot" 1 := by
  have M := T.me_NoValue_init
  exact ein_mk T.d_NoValue_init (exc_of (exs T).2).1 M.at_ (beq_iff_eq.mp M.fn) T.g_NoValue T.na_NoValue_spot sc_NoValue_init rfl rfl (fun _ _ _ _ _ _ us hl => match us, hl with | [_, _], _ => rfl) (fun cdv A outer s H E hr => pss_one (ps_ost (pv 0) (pv 1)))
/-! ### _check_target -/
theorem sc_check_target : FnScope ["target", "width"] ["target", "width"] (defScope s_check_target) := ⟨rfl, rfl, rfl, by decide +kernel, rfl, by decide +kernel, by decide +kernel⟩
/-- why a target may not be asked of that width -/
def whyNot (r : Bool) (t : Tm) (u : Nat) : Option Str := if u < t.wid then some "width" else if r = true then some "root" else none
def F_check (K : PySem.W.Frag) (ds : List D) (d : D) : Prop := ∃ r t u, ds = [targetD K r t, .int (u : Nat)] ∧ whyNot r t u = none ∧ d = .non
def Z_check (K : PySem.W.Frag) (ds : List D) (C : Addr) (f : Str) (y : D) : Prop := ∃ r t u z, ds = [targetD K r t, .int (u : Nat)] ∧ whyNot r t u = some z ∧ C = He.ga K "Unlike" ∧ f = "what" ∧ y = .str z
theorem ok_check_target (T : Txt K mg) : XCal P w K mg base "_check_target" 3 (xsp (F_check K) (Z_check K)) := by
  obtain ⟨fd, Fd⟩ := T.d_check_target
  refine ⟨_, fd, ["target", "width"], xsp_ok Fd sc_check_target ?_ (fun cdv A outer s H E hr => ⟨_, (pss_cons (ps_if (pt_cmpR op_lt (pv 1) (pe_fldK K (pv 0) rfl) (nomark _))
      (pss_one (ps_rz (ok_Unlike T) rfl (hr.mono (by decide)) (takes_of rfl rfl rfl rfl) rfl (pa_cons pe_str pa_nil)))
      pss_nil)
    (pss_one (ps_if (pt_truthK K (pe_fldK K (pv 0) rfl) (by intro _; rfl))
      (pss_one (ps_rz (ok_Unlike T) rfl (hr.mono (by decide)) (takes_of rfl rfl rfl rfl) rfl (pa_cons pe_str pa_nil)))
      pss_nil))), ?_⟩), T.g_check_target, Fd.kp, Fd.bindsN (fun _ _ _ _ _ _ us hl => match us, hl with | [_, _], _ => rfl)⟩
  · rintro ds (⟨d, r, t, u, e, _⟩ | ⟨C, f, y, r, t, u, z, e, _⟩) <;> rw [e] <;> rfl
  · intro B0 H0 ds
    have key : ∀ (r : Bool) (t : Tm) (u : Nat), (∀ z, whyNot r t u = some z → HX B0 H0 E (He.ga K "Unlike") "what" (.str z)) → SS triv B0 H0 (tSeq (tIfS (tTest (tOp (rI0 fun i j => .bl (decide (i < j))) (tVar 1) (tFld K (tVar 0) "width"))) (tRz E (He.ga K "Unlike") "what" (tCons (tC (.str "width")) tNil)) tNext)
        (tIfS (fun σ H Q => tFld K (tVar 0) "root" σ H fun x H' => ∃ k, TruV K x H' k ∧ Q k H') (tRz E (He.ga K "Unlike") "what" (tCons (tC (.str "root")) tNil)) tNext)) [.dat (targetD K r t), .dat (.int (u : Nat))] (fun _ => whyNot r t u = none) (fun _ => False) (fun _ => False) (fun _ => False) := fun r t u hx => by
      have w1 : ED triv (tFld K (tVar 0) "width") [.dat (targetD K r t), .dat (.int (u : Nat))] (.int (t.wid : Nat)) := ed_fld (C := He.ga K "Target") (ks := targetKs) (ed_var rfl) T.cls_Target T.na_Target_width rfl
      have w2 : ED triv (tFld K (tVar 0) "root") [.dat (targetD K r t), .dat (.int (u : Nat))] (.bl r) := ed_fld (C := He.ga K "Target") (ks := targetKs) (ed_var rfl) T.cls_Target T.na_Target_root rfl
      refine ss_seq (ssd_if (eb_test (ed_op (ed_var rfl) w1 od_lt)) (fun h => ?_) (fun h => ss_next ?_))
      · have hu : u < t.wid := by
          have := of_decide_eq_true h
          omega
        exact ss_raise (eda_cons ed_str eda_nil) (hx _ (by unfold whyNot; rw [if_pos hu]))
      · have hu : ¬ u < t.wid := by
          have := of_decide_eq_false h
          omega
        refine ssd_if (eb_tru w2) (fun h2 => ?_) (fun h2 => ss_next ?_)
        · have h2 : r = true := h2
          exact ss_raise (eda_cons ed_str eda_nil) (hx _ (by unfold whyNot; rw [if_neg hu, if_pos h2]))
        · have h2 : r = false := h2
          unfold whyNot
          rw [if_neg hu, h2]
          rfl
    constructor
    · rintro d ⟨r, t, u, rfl, hw, rfl⟩
      exact ss_mono (key r t u fun z hz => by rw [hw] at hz; cases hz) (fun _ _ => rfl) (fun _ z => z.elim) (fun _ z => z) (fun _ z => z)
    · rintro C f y ⟨r, t, u, z, rfl, hw, rfl, rfl, rfl⟩ hx
      exact ss_mono (key r t u fun z' hz => by rw [hw] at hz; rw [← Option.some.inj hz]; exact hx) (fun _ hn => by rw [hw] at hn; cases hn) (fun _ z => z) (fun _ z => z) (fun _ z => z)
end
end K82
set_option Elab.async false
set_option linter.all false
set_option maxRecDepth 100000
set_option maxHeartbeats 2000000
namespace K82
open PySem PySem.Spec PyProof.Rows L2 Evl Dl K82Head TL
local macro_rules | `(tactic| walk_at "ed") => `(tactic| first
  | exact ed_var rfl | exact ed_int | exact ed_str | exact ed_bl | exact ed_non | exact eda_nil | exact edo_none
  | exact od_add | exact od_sub | exact od_lt | exact od_le | exact od_gt | exact od_ge | exact od_eqi | exact od_nei | exact od_eqs | exact od_nes | exact od_isN | exact od_notN | exact cd_int | exact cd_abs | exact cd_max2 | exact cd_gcd
  | ((with_reducible apply eda_cons) <;> walk_at "ed") | ((with_reducible apply ed_op) <;> walk_at "ed") | ((with_reducible apply ed_cb) <;> walk_at "ed") | ((with_reducible apply eb_test) <;> walk_at "ed") | ((with_reducible apply eb_tru) <;> walk_at "ed") | ((with_reducible apply ed_tup) <;> walk_at "ed")
  | ((with_reducible apply ed_neg) <;> walk_at "ed") | ((with_reducible apply eb_not) <;> walk_at "ed") | ((with_reducible apply edl_lst) <;> walk_at "ed") | ((with_reducible apply edo_some) <;> walk_at "ed") | ((with_reducible apply ed_call) <;> walk_at "ed")
  | (apply od_mul; assumption) | (apply od_rem; omega) | (apply od_div <;> omega) | (apply od_ixT; rfl) | (apply od_ixL; rfl)
  | (with_reducible exact True.intro) | (simp; done) | skip)
/-! ### raw pairs -/
def rq (x : Int × Int) : Rat := Rat.divInt x.1 x.2
structure Rw (k : Nat) (x : Int × Int) : Prop where
  nz : x.2 ≠ 0
  s1 : Sz k x.1
  s2 : Sz k x.2
theorem Rw.mono {k l : Nat} {x : Int × Int} (h : Rw k x) (hl : k ≤ l) : Rw l x := ⟨h.nz, h.s1.mono hl, h.s2.mono hl⟩
theorem rw_q {k : Nat} {q : Rat} (h : Sq k q) : Rw k (q.num, (q.den : Int)) := ⟨den_ne q, h.1, h.2⟩
theorem rq_q (q : Rat) : rq (q.num, (q.den : Int)) = q := q_eq q
theorem rq_zero {x : Int × Int} (h : x.2 ≠ 0) : rq x = 0 ↔ x.1 = 0 := by
  unfold rq
  have z : (0 : Rat) = Rat.divInt 0 1 := by rw [Rat.zero_divInt]
  rw [z, Rat.divInt_eq_divInt_iff h (by decide)]
  omega
theorem join_rq {s : Sg} {x y : Int × Int} {j : Nat} (hx : Rw (kz j) x) (hy : Rw (kz j) y) (hn : ¬ nil s (rq y)) : rq (joinP s x y) = opQ s (rq x) (rq y) ∧ Rw (kz (j + 1)) (joinP s x y) := by
  have k1 := kz_step j
  obtain ⟨x0, x1, x2⟩ := hx
  obtain ⟨y0, y1, y2⟩ := hy
  cases s with
  | add => exact ⟨div_add x0 y0, Int.mul_ne_zero x0 y0, ((x1.mul y2).add (y1.mul x2)).mono (by omega), (x2.mul y2).mono (by omega)⟩
  | sub => exact ⟨div_sub x0 y0, Int.mul_ne_zero x0 y0, ((x1.mul y2).sub (y1.mul x2)).mono (by omega), (x2.mul y2).mono (by omega)⟩
  | mul => exact ⟨div_mul, Int.mul_ne_zero x0 y0, (x1.mul y1).mono (by omega), (x2.mul y2).mono (by omega)⟩
  | dvd =>
    have hy1 : y.1 ≠ 0 := fun z => hn ⟨rfl, (rq_zero y0).mpr z⟩
    exact ⟨div_div, Int.mul_ne_zero x0 hy1, (x1.mul y2).mono (by omega), (x2.mul y1).mono (by omega)⟩
theorem two_of' {α : Type} {S : List α} (h : 2 ≤ S.length) : ∃ b a r, S = b :: a :: r := by
  match S, h with
  | b :: a :: r, _ => exact ⟨b, a, r, rfl⟩
theorem lf_x_y : decide ((Lf.x.z : Str) = "number") = false ∧ decide ((Lf.y.z : Str) = "number") = false ∧ decide ((Lf.x.z : Str) = "x") = true ∧ decide ((Lf.y.z : Str) = "x") = false ∧ decide ((Lf.y.z : Str) = "y") = true := by decide +kernel
theorem sg_x (s : Sg) : decide (s.z = "x") = false ∧ decide (s.z = "y") = false := by cases s <;> decide +kernel
/-- a point for a target asked at that width -/
structure Ask (r : Bool) (t : Tm) (ps : List Rat) : Prop where
  r0 : r = false
  n : t.post.length ≤ 100
  o : opsN t.post ≤ 5
  pt : PtOk ps t.post
  two : ps.length ≤ 2
  wide : t.wid ≤ ps.length
section
variable {P : Program} {w : World} {K : PySem.W.Frag} {mg : Str → Option Value} {base : Heap}
theorem sc_Target_worth : FnScope ["self", "numbers", "stack", "worth", "word", "value", "right", "left"] ["self", "numbers"] (defScope s_Target_worth) := ⟨rfl, rfl, rfl, by decide +kernel, rfl, by decide +kernel, by decide +kernel⟩
/-- what is asked of a target at a point -/
structure AskT where
  r : Bool
  t : Tm
  ps : List Rat
def AskT.pre (a : AskT) : Prop := Ask a.r a.t a.ps
def AskT.res (a : AskT) : Option D := (val (ptOf a.ps) a.t).map dq
def AskT.args (K : PySem.W.Frag) (a : AskT) : List D := [targetD K a.r a.t, ptD a.ps]
def AskT.exc (K : PySem.W.Frag) (a : AskT) : Addr × Str × D := (He.ga K "NoValue", "spot", ptD a.ps)
abbrev spWorth (K : PySem.W.Frag) : Sp := xsp (FA (AskT.args K) AskT.pre AskT.res) (ZA (AskT.args K) AskT.pre AskT.res (AskT.exc K))
theorem ok_worth (T : Txt K mg) : XMet P w K mg base (He.ga K "Target") "_worth" 3 (spWorth K) := by
  have c_joined := ok_joined (P := P) (w := w) (base := base) T
  have c_fraction := ok_fraction (P := P) (w := w) (base := base) T
  obtain ⟨fd, Fd⟩ := T.d_Target_worth
  refine ⟨_, fd, ["self", "numbers"], T.me_Target__worth, xspA_ok Fd sc_Target_worth (fun _ => rfl) (fun cdv A outer s H E hr => ⟨_, (pss_cons (ps_if (PW.pt (pw_or (pt_cmpR op_gt (pe_callB (call_lenK K) (by rfl) T.b_len (by decide +kernel) (pa_cons (pv 1) pa_nil)) pe_int (nomark _)) (pw_or1 (pt_cmpR op_lt (pe_callB (call_lenK K) (by rfl) T.b_len (by decide +kernel) (pa_cons (pv 1) pa_nil)) (pe_fldK K (pv 0) rfl) (nomark _)))))
      (pss_one ps_never)
      pss_nil)
    (pss_cons (ps_set (i := 2) sc_Target_worth.nd rfl (Or.inl rfl) (pe_lst pa_nil))
    (pss_cons (ps_for (passes_of rfl) rfl (pi_seqK K (pe_fldK K (pv 0) rfl)) (pg_tupK K rfl (pgs_cons (pg_name (i := 4) sc_Target_worth.nd rfl (Or.inl rfl)) (pgs_cons (pg_name (i := 5) sc_Target_worth.nd rfl (Or.inl rfl)) pgs_nil)))
      (pss_one (ps_if (pt_cmpR (op_eqK K hr.units) (pv 4) pe_str (nomark _))
          (pss_one (ps_expr (pe_bmK K PySem.F.plainAttrs_list PySem.F.slot_list_append PySem.F.type_list_append mt_append (pv 2) (pa_cons (pv 5) pa_nil))))
          (pss_one (ps_if (pt_cmpR (op_eqK K hr.units) (pv 4) pe_str (nomark _))
              (pss_one (ps_expr (pe_bmK K PySem.F.plainAttrs_list PySem.F.slot_list_append PySem.F.type_list_append mt_append (pv 2) (pa_cons (pe_ix (ix_seqK K) (pv 1) pe_int (fun _ _ => rfl)) pa_nil))))
              (pss_one (ps_if (pt_cmpR (op_eqK K hr.units) (pv 4) pe_str (nomark _))
                  (pss_one (ps_expr (pe_bmK K PySem.F.plainAttrs_list PySem.F.slot_list_append PySem.F.type_list_append mt_append (pv 2) (pa_cons (pe_ix (ix_seqK K) (pv 1) pe_int (fun _ _ => rfl)) pa_nil))))
                  (pss_cons (ps_set (i := 6) sc_Target_worth.nd rfl (Or.inl rfl) (pe_bm0K K PySem.F.plainAttrs_list PySem.F.slot_list_pop PySem.F.type_list_pop mt_pop (pv 2)))
                    (pss_cons (ps_set (i := 7) sc_Target_worth.nd rfl (Or.inl rfl) (pe_bm0K K PySem.F.plainAttrs_list PySem.F.slot_list_pop PySem.F.type_list_pop mt_pop (pv 2)))
                    (pss_cons (ps_if (PW.pt (pw_and (pt_cmpR (op_eqK K hr.units) (pv 4) pe_str (nomark _)) (pw_and1 (pt_cmpR (op_eqK K hr.units) (pe_ix (ix_seqK K) (pv 6) pe_int (fun _ _ => rfl)) pe_int (nomark _)))))
                      (pss_one (ps_rz (ok_NoValue T) rfl (hr.mono (by decide)) (takes_of rfl rfl rfl rfl) rfl (pa_cons (pv 1) pa_nil)))
                      pss_nil)
                    (pss_one (ps_expr (pe_bmK K PySem.F.plainAttrs_list PySem.F.slot_list_append PySem.F.type_list_append mt_append (pv 2) (pa_cons (pe_cal c_joined (hr.mono (by decide)) rfl (pa_cons (pv 4) (pa_cons (pv 7) (pa_cons (pv 6) pa_nil)))) pa_nil))))))))))))))
    (pss_cons (ps_set (i := 3) sc_Target_worth.nd rfl (Or.inl rfl) (pe_cal c_fraction (hr.mono (by decide)) rfl (pa_cons (pe_ix (ix_seqK K) (pe_ix (ix_seqK K) (pv 2) pe_int (fun _ _ => rfl)) pe_int (fun _ _ => rfl)) (pa_cons (pe_ix (ix_seqK K) (pe_ix (ix_seqK K) (pv 2) pe_int (fun _ _ => rfl)) pe_int (fun _ _ => rfl)) pa_nil))))
    (pss_cons (ps_if (PW.pt (pw_and (pt_truthK K (pe_fldK K (pv 0) rfl) (by intro _; rfl)) (pw_and1 (pt_cmpR op_lt (pe_ix (ix_seqK K) (pv 3) pe_int (fun _ _ => rfl)) pe_int (nomark _)))))
      (pss_one (ps_rz (ok_NoValue T) rfl (hr.mono (by decide)) (takes_of rfl rfl rfl rfl) rfl (pa_cons (pv 1) pa_nil)))
      pss_nil)
    (pss_one (ps_ret (pv 3)))))))), ?_⟩), Fd.bindsN (fun _ _ _ _ _ _ us hl => match us, hl with | [_, _], _ => rfl)⟩
  · rintro B0 H0 ⟨r, t, ps⟩ ⟨r0, hl, ho, hp, htwo, hwide⟩ hx
    have r0 : r = false := r0
    subst r0
    have hl : t.post.length ≤ 100 := hl
    have ho : opsN t.post ≤ 5 := ho
    have hp : PtOk ps t.post := hp
    have htwo : ps.length ≤ 2 := htwo
    have hwide : t.wid ≤ ps.length := hwide
    show SS triv B0 H0 _ [.dat (targetD K false t), .dat (ptD ps), .no, .no, .no, .no, .no, .no] _ _ _ _
    have hx : val (ptOf ps) t = none → HX B0 H0 E (He.ga K "NoValue") "spot" (ptD ps) := fun hz => hx (by unfold AskT.res; rw [show val (ptOf (AskT.mk false t ps).ps) (AskT.mk false t ps).t = none from hz]; rfl)
    have fw : ∀ {Γ : List Sl}, Γ[0]? = some (.dat (targetD K false t)) → ED triv (tFld K (tVar 0) "width") Γ (.int (t.wid : Nat)) := fun e => ed_fld (C := He.ga K "Target") (ks := targetKs) (ed_var e) T.cls_Target T.na_Target_width rfl
    have fr : ∀ {Γ : List Sl}, Γ[0]? = some (.dat (targetD K false t)) → ED triv (tFld K (tVar 0) "root") Γ (.bl false) := fun e => ed_fld (C := He.ga K "Target") (ks := targetKs) (ed_var e) T.cls_Target T.na_Target_root rfl
    have fs : ∀ {Γ : List Sl}, Γ[0]? = some (.dat (targetD K false t)) → ED triv (tFld K (tVar 0) "_steps") Γ (.lst (t.post.map Po.dP)) := fun e => ed_fld (C := He.ga K "Target") (ks := targetKs) (ed_var e) T.cls_Target T.na_Target__steps rfl
    refine ss_seq (ssd_ifF (EB.is (eb_or (eb_test (ed_op (ed_lenT (ds := ps.map dq) (ed_var rfl)) ed_int od_gt)) (fun _ => eb_test (ed_op (ed_lenT (ds := ps.map dq) (ed_var rfl)) (fw rfl) od_lt))) ?_) (ss_next ?_))
    · rw [List.length_map, Bool.or_eq_false_iff, decide_eq_false_iff_not, decide_eq_false_iff_not]
      omega
    refine ss_seq (ssd_asgO (edl_lst eda_nil) ?_)
    refine ss_seq (ssd_for (xs := t.post.map Po.dP) (P := fun i Γ => ∃ (S : List (Int × Int)) (j : Nat) (s4 s5 s6 s7 : Sl), mach (ptOf ps) (t.post.drop i) (S.map rq) = (val (ptOf ps) t).map (fun q => [q]) ∧ okd (t.post.drop i) S.length ∧ j + opsN (t.post.drop i) ≤ 5 ∧ (∀ x ∈ S, Rw (kz j) x) ∧ S.length ≤ i ∧
      Γ = [.dat (targetD K false t), .dat (ptD ps), .own (S.reverse.map dp), .no, s4, s5, s6, s7]) (wid_seq (.inl rfl) (fs rfl)) ⟨[], 0, .no, .no, .no, .no, mach_all _ t, okd_all t, by simpa using ho, by simp, Nat.le_refl _, rfl⟩ ?_ ?_)
    · rintro i x Γ hxi ⟨S, j, s4, s5, s6, s7, hm, hd, hj, hS, hi, rfl⟩
      have hil : i < t.post.length := by
        have := (List.getElem?_eq_some_iff.mp hxi).1
        rw [List.length_map] at this
        exact this
      have hx2 : x = (t.post[i]).dP := by
        rw [List.getElem?_map, List.getElem?_eq_getElem hil] at hxi
        exact (Option.some.inj hxi).symm
      have hmem : t.post[i] ∈ t.post := List.getElem_mem hil
      rw [List.drop_eq_getElem_cons hil] at hm hd hj
      generalize t.post[i] = o at hm hd hj hx2 hmem
      subst hx2
      have hlen : (S.reverse.map dp).length < 100000 := by
        rw [List.length_map, List.length_reverse]
        omega
      cases o with
      | lf l =>
        have hm2 : mach (ptOf ps) (t.post.drop (i + 1)) (lfQ (ptOf ps) l :: S.map rq) = (val (ptOf ps) t).map (fun q => [q]) := hm
        have fin : ∀ (y : Int × Int) (s4 s5 : Sl), rq y = lfQ (ptOf ps) l → Rw 41 y → ∃ (S2 : List (Int × Int)) (j2 : Nat) (s4' s5' s6' s7' : Sl), mach (ptOf ps) (t.post.drop (i + 1)) (S2.map rq) = (val (ptOf ps) t).map (fun q => [q]) ∧ okd (t.post.drop (i + 1)) S2.length ∧ j2 + opsN (t.post.drop (i + 1)) ≤ 5 ∧ (∀ x ∈ S2, Rw (kz j2) x) ∧ S2.length ≤ i + 1 ∧
            ([.dat (targetD K false t), .dat (ptD ps), .own (S.reverse.map dp ++ [dp y]), .no, s4, s5, s6, s7] : List Sl) = [.dat (targetD K false t), .dat (ptD ps), .own (S2.reverse.map dp), .no, s4', s5', s6', s7'] := fun y s4 s5 hy hw =>
          ⟨y :: S, j, s4, s5, s6, s7, by rw [List.map_cons, hy]; exact hm2, hd, hj, fun x hxm => by
            rcases List.mem_cons.mp hxm with rfl | hxm
            · exact hw.mono (kz_ge j)
            · exact hS x hxm, by rw [List.length_cons]; omega, by rw [List.reverse_cons, List.map_append]; rfl⟩
        cases hv : l.v with
        | some q =>
          have e : Po.dP (.lf l) = .tup [.str "number", dp q] := by
            show lfP l = _
            unfold lfP
            rw [hv]
          rw [e]
          refine ⟨_, gs_tup (ds := [.str "number", dp q]) (gss_cons gs_name (gss_cons gs_name gss_nil)) rfl, ?_⟩
          show SS triv B0 H0 _ [.dat (targetD K false t), .dat (ptD ps), .own (S.reverse.map dp), .no, .dat (.str "number"), .dat (dp q), s6, s7] _ _ _ _
          refine ssd_ifT (EB.is (eb_test (ed_op (ed_var rfl) ed_str od_eqs)) (by decide +kernel)) ?_
          obtain ⟨z1, z2, z3⟩ := lf_sz hv 41 (Nat.le_refl _)
          exact ssd_append rfl (d := dp q) (ed_var rfl) hlen (fin q _ _ (by rw [lfQ_some _ hv]; rfl) ⟨z1, z2, z3⟩)
        | none =>
          have e : Po.dP (.lf l) = .tup [.str l.z, .non] := by
            show lfP l = _
            unfold lfP
            rw [hv]
          rw [e]
          obtain ⟨hat, hq⟩ := hp.at hmem hv
          refine ⟨_, gs_tup (ds := [.str l.z, .non]) (gss_cons gs_name (gss_cons gs_name gss_nil)) rfl, ?_⟩
          show SS triv B0 H0 _ [.dat (targetD K false t), .dat (ptD ps), .own (S.reverse.map dp), .no, .dat (.str l.z), .dat .non, s6, s7] _ _ _ _
          have hix : (ps.map dq)[(if l = .x then 0 else 1 : Nat)]? = some (dp ((lfQ (ptOf ps) l).num, ((lfQ (ptOf ps) l).den : Int))) := by
            rw [List.getElem?_map, hat]
            rfl
          obtain ⟨x1, x2, x3, x4, x5⟩ := lf_x_y
          rcases lf_none hv with rfl | rfl
          · refine ssd_ifF (EB.is (eb_test (ed_op (ed_var rfl) ed_str od_eqs)) x1) ?_
            refine ssd_ifT (EB.is (eb_test (ed_op (ed_var rfl) ed_str od_eqs)) x3) ?_
            exact ssd_append rfl (ed_op (ed_var rfl) ed_int (od_ixT (L2.atI_nat (j := 0) hix))) hlen (fin _ _ _ (rq_q _) (rw_q hq))
          · refine ssd_ifF (EB.is (eb_test (ed_op (ed_var rfl) ed_str od_eqs)) x2) ?_
            refine ssd_ifF (EB.is (eb_test (ed_op (ed_var rfl) ed_str od_eqs)) x4) ?_
            refine ssd_ifT (EB.is (eb_test (ed_op (ed_var rfl) ed_str od_eqs)) x5) ?_
            exact ssd_append rfl (ed_op (ed_var rfl) ed_int (od_ixT (L2.atI_nat (j := 1) hix))) hlen (fin _ _ _ (rq_q _) (rw_q hq))
      | op s =>
        obtain ⟨h2, hd2⟩ := hd
        obtain ⟨b, a, S2, rfl⟩ := two_of' h2
        have hb := hS b (by simp)
        have ha := hS a (by simp)
        have hj5 : j + 1 ≤ 5 := by
          have : j + (opsN (t.post.drop (i + 1)) + 1) ≤ 5 := hj
          omega
        have k0 := kz_le (j := j) (by omega)
        have hrev : (b :: a :: S2).reverse.map dp = (S2.reverse.map dp ++ [dp a]) ++ [dp b] := by
          rw [List.reverse_cons, List.reverse_cons, List.map_append, List.map_append]
          rfl
        rw [hrev]
        refine ⟨_, gs_tup (ds := [.str s.z, .non]) (gss_cons gs_name (gss_cons gs_name gss_nil)) rfl, ?_⟩
        show SS triv B0 H0 _ [.dat (targetD K false t), .dat (ptD ps), .own ((S2.reverse.map dp ++ [dp a]) ++ [dp b]), .no, .dat (.str s.z), .dat .non, s6, s7] _ _ _ _
        refine ssd_ifF (EB.is (eb_test (ed_op (ed_var rfl) ed_str od_eqs)) (sg_num s)) ?_
        refine ssd_ifF (EB.is (eb_test (ed_op (ed_var rfl) ed_str od_eqs)) (sg_x s).1) ?_
        refine ssd_ifF (EB.is (eb_test (ed_op (ed_var rfl) ed_str od_eqs)) (sg_x s).2) ?_
        refine ss_seq (ss_asgX (ex_pop rfl) ?_)
        rintro d G ⟨rfl, rfl⟩
        refine ss_seq (ss_asgX (ex_pop rfl) ?_)
        rintro d G ⟨rfl, rfl⟩
        show SS triv B0 H0 _ [.dat (targetD K false t), .dat (ptD ps), .own (S2.reverse.map dp), .no, .dat (.str s.z), .dat .non, .dat (dp b), .dat (dp a)] _ _ _ _
        have hm2 : (if nil s (rq b) then none else mach (ptOf ps) (t.post.drop (i + 1)) (opQ s (rq a) (rq b) :: S2.map rq)) = (val (ptOf ps) t).map (fun q => [q]) := hm
        refine ss_seq (ssd_if (b := decide (nil s (rq b))) (EB.is (eb_and (eb_test (ed_op (ed_var rfl) ed_str od_eqs)) (fun _ => eb_test (ed_op (ed_op (ed_var rfl) ed_int (od_ixT (d := .int b.1) rfl)) ed_int od_eqi))) ?_) (fun hn => ?_) (fun hn => ss_next ?_))
        · rw [sg_dvd, Bool.eq_iff_iff, Bool.and_eq_true, decide_eq_true_eq, decide_eq_true_eq, decide_eq_true_eq, ← rq_zero hb.nz]
          exact Iff.rfl
        · have hn : nil s (rq b) := of_decide_eq_true hn
          rw [if_pos hn] at hm2
          refine ss_raise (eda_cons (ed_var rfl) eda_nil) (hx ?_)
          cases hv : val (ptOf ps) t with
          | none => rfl
          | some q =>
            rw [hv] at hm2
            cases hm2
        · have hn : ¬ nil s (rq b) := of_decide_eq_false hn
          rw [if_neg hn] at hm2
          obtain ⟨j1, j2⟩ := join_rq ha hb hn
          refine ssd_append rfl (d := dp (joinP s a b)) (ed_call (ds := [.str s.z, dp a, dp b]) (by walk_at "ed") ⟨s, a, b, rfl, ha.s1.mono (by omega), ha.s2.mono (by omega), hb.s1.mono (by omega), hb.s2.mono (by omega), rfl⟩) ?_ ⟨joinP s a b :: S2, j + 1, .dat (.str s.z), .dat .non, .dat (dp b), .dat (dp a), ?_, hd2, ?_, ?_, ?_, ?_⟩
          · rw [List.length_map, List.length_reverse]
            rw [List.length_cons, List.length_cons] at hi
            omega
          · rw [List.map_cons, j1]
            exact hm2
          · have : j + (opsN (t.post.drop (i + 1)) + 1) ≤ 5 := hj
            omega
          · intro y hy
            rcases List.mem_cons.mp hy with rfl | hy
            · exact j2
            · exact (hS y (by simp [hy])).mono (kz_mono j)
          · rw [List.length_cons] at hi ⊢
            rw [List.length_cons] at hi
            omega
          · rw [List.reverse_cons, List.map_append]
            rfl
    · rintro Γ ⟨S, j, s4, s5, s6, s7, hm, hd, hj, hS, hi, rfl⟩
      rw [List.length_map, List.drop_length] at hm hd
      rw [List.length_map, List.drop_length] at hj
      have hd1 : S.length = 1 := hd
      match S, hd1 with
      | [⟨a, b⟩], _ =>
        have hab := hS (a, b) (by simp)
        have k0 := kz_le (j := j) (by omega)
        have hm : some [rq (a, b)] = (val (ptOf ps) t).map (fun q => [q]) := hm
        cases hv : val (ptOf ps) t with
        | none =>
          rw [hv] at hm
          cases hm
        | some q2 =>
          rw [hv] at hm
          have e : rq (a, b) = q2 := by
            have := Option.some.inj hm
            injection this
          show SS triv B0 H0 _ [.dat (targetD K false t), .dat (ptD ps), .own [.tup [.int a, .int b]], .no, s4, s5, s6, s7] _ _ _ _
          refine ss_seq (ssd_asg (d := dq q2) (ed_call (ds := [.int a, .int b]) (eda_cons (ed_op (ed_ixO (ds := [.tup [.int a, .int b]]) rfl ed_int rfl) ed_int (od_ixT rfl)) (eda_cons (ed_op (ed_ixO (ds := [.tup [.int a, .int b]]) rfl ed_int rfl) ed_int (od_ixT rfl)) eda_nil)) ⟨a, b, rfl, hab.nz, hab.s2.mono (by omega), by rw [← e]; rfl⟩) ?_)
          refine ss_seq (ssd_ifF (EB.is (eb_and (c := false) (eb_tru (fr rfl)) (fun h => by cases h)) (by rfl)) (ss_next ?_))
          refine ssd_ret (ed_var rfl) ?_
          unfold AskT.res
          rw [show val (ptOf (AskT.mk false t ps).ps) (AskT.mk false t ps).t = some q2 from hv]
          rfl
end
end K82
set_option Elab.async false
set_option linter.all false
set_option maxRecDepth 100000
set_option maxHeartbeats 2000000
namespace K82
open PySem PySem.Spec PyProof.Rows L2 Evl Dl K82Head TL
local macro_rules | `(tactic| walk_at "ed") => `(tactic| first
  | exact ed_var rfl | exact ed_int | exact ed_str | exact ed_bl | exact ed_non | exact eda_nil | exact edo_none
  | exact od_add | exact od_sub | exact od_lt | exact od_le | exact od_gt | exact od_ge | exact od_eqi | exact od_nei | exact od_eqs | exact od_nes | exact od_isN | exact od_notN | exact cd_int | exact cd_abs | exact cd_max2 | exact cd_gcd
  | ((with_reducible apply eda_cons) <;> walk_at "ed") | ((with_reducible apply ed_op) <;> walk_at "ed") | ((with_reducible apply ed_cb) <;> walk_at "ed") | ((with_reducible apply eb_test) <;> walk_at "ed") | ((with_reducible apply eb_tru) <;> walk_at "ed") | ((with_reducible apply ed_tup) <;> walk_at "ed")
  | ((with_reducible apply ed_neg) <;> walk_at "ed") | ((with_reducible apply eb_not) <;> walk_at "ed") | ((with_reducible apply edl_lst) <;> walk_at "ed") | ((with_reducible apply edo_some) <;> walk_at "ed") | ((with_reducible apply ed_call) <;> walk_at "ed")
  | (apply od_mul; assumption) | (apply od_rem; omega) | (apply od_div <;> omega) | (apply od_ixT; rfl) | (apply od_ixL; rfl)
  | (with_reducible exact True.intro) | (simp; done) | skip)
/-! ### sizes of what a term is worth -/
theorem kz_up {i j : Nat} (h : i ≤ j) : kz i ≤ kz j := by
  induction h with
  | refl => exact Nat.le_refl _
  | step _ ih => exact Nat.le_trans ih (kz_mono _)
theorem val_sz (ps : List Rat) : ∀ (t : Tm), PtOk ps t.post → ∀ q, val (ptOf ps) t = some q → Sq (kz (opsN t.post)) q
  | .lf l, hp, q, hv => by
    have e : lfQ (ptOf ps) l = q := Option.some.inj hv
    rw [← e]
    cases hl : l.v with
    | none => exact ((hp.at (l := l) (by show Po.lf l ∈ [Po.lf l]; simp) hl).2).mono (kz_ge 0)
    | some z =>
      rw [lfQ_some _ hl]
      exact (sq_lf hl).mono (kz_ge 0)
  | .nd s a b, hp, q, hv => by
    have pa : PtOk ps a.post := ⟨hp.sz, hp.x, fun h => hp.y (by show _ ∈ a.post ++ b.post ++ [Po.op s]; simp [h])⟩
    have pb : PtOk ps b.post := ⟨hp.sz, hp.x, fun h => hp.y (by show _ ∈ a.post ++ b.post ++ [Po.op s]; simp [h])⟩
    have e : opsN (Tm.nd s a b).post = opsN a.post + opsN b.post + 1 := by
      show opsN (a.post ++ b.post ++ [Po.op s]) = _
      rw [opsN_app, opsN_app]
      rfl
    have hv : ((val (ptOf ps) a).bind fun x => (val (ptOf ps) b).bind fun y => if nil s y then none else some (opQ s x y)) = some q := hv
    cases ha : val (ptOf ps) a with
    | none => rw [ha] at hv; cases hv
    | some x =>
      cases hb : val (ptOf ps) b with
      | none => rw [ha, hb] at hv; cases hv
      | some y =>
        rw [ha, hb] at hv
        have hv : (if nil s y then none else some (opQ s x y)) = some q := hv
        by_cases hn : nil s y
        · rw [if_pos hn] at hv
          cases hv
        · rw [if_neg hn] at hv
          rw [← Option.some.inj hv, e]
          have h1 := (val_sz ps a pa x ha).mono (kz_up (show opsN a.post ≤ opsN a.post + opsN b.post by omega))
          have h2 := (val_sz ps b pb y hb).mono (kz_up (show opsN b.post ≤ opsN a.post + opsN b.post by omega))
          exact opQ_sz h1 h2 hn
/-! ### words that may be asked about -/
structure Word2 (b u : Nat) (l : List Nat) : Prop where
  ok : WordOk b u l
  b9 : b ≤ 9
  n12 : l.length ≤ 12
theorem horF_lt {u : Nat} : ∀ {l : List Nat} {s : Nat}, (∀ x ∈ l, x < u) → horF u s l + 1 ≤ (s + 1) * u ^ l.length
  | [], s, _ => by
    show s + 1 ≤ (s + 1) * 1
    omega
  | a :: r, s, h => by
    have h1 := horF_lt (l := r) (s := s * u + a) fun x hx => h x (List.mem_cons_of_mem _ hx)
    have h2 := h a List.mem_cons_self
    show horF u (s * u + a) r + 1 ≤ (s + 1) * u ^ (r.length + 1)
    refine Nat.le_trans h1 ?_
    rw [Nat.pow_succ, Nat.mul_comm (u ^ r.length) u, ← Nat.mul_assoc]
    refine Nat.mul_le_mul_right _ ?_
    rw [Nat.add_mul]
    omega
theorem low_lt {b u : Nat} {l : List Nat} (h : WordOk b u l) {i : Nat} (hi : i < u) : lowOf b u l i + 1 ≤ b ^ l.length := by
  have z := horF_lt (u := b) (l := l.map fun a => dig b u a i) (s := 0) fun x hx => by
    obtain ⟨a, ha, rfl⟩ := List.mem_map.mp hx
    exact h.ok a ha i hi
  rw [List.length_map, Nat.zero_add, Nat.one_mul] at z
  exact z
theorem side_sz {b u : Nat} {l : List Nat} (h : Word2 b u l) {i k : Nat} (hi : i < u) (hk : k ≤ 1) : Sq 41 (sideQ b u l i k) := by
  have h1 := low_lt h.ok hi
  have h2 : b ^ l.length ≤ 9 ^ 12 := Nat.le_trans (Nat.pow_le_pow_left h.b9 _) (Nat.pow_le_pow_right (by decide) h.n12)
  have h0 : b ^ l.length ≠ 0 := by omega
  have h3 : (9 : Nat) ^ 12 < 2 ^ 40 := by decide
  have h4 : (2 : Nat) ^ 40 ≤ 2 ^ 41 := by decide
  refine sq_div (by omega) ?_ ?_
  · unfold Sz
    rw [Int.natAbs_natCast]
    omega
  · unfold Sz
    rw [Int.natAbs_natCast]
    omega
theorem corner_ok {b u : Nat} {l : List Nat} (h : Word2 b u l) {ps : List Rat} (hp : ps ∈ cornersQ b u l) : (∀ q ∈ ps, Sq 41 q) ∧ ps.length = u := by
  have hs : ∀ i k, i < u → k ≤ 1 → Sq 41 (sideQ b u l i k) := fun i k hi hk => side_sz h hi hk
  unfold cornersQ at hp
  rcases h.ok.wd with hu | hu
  · rw [if_pos hu] at hp
    subst hu
    simp only [List.mem_cons, List.not_mem_nil, or_false] at hp
    rcases hp with rfl | rfl
    · exact ⟨by simp only [List.mem_singleton, forall_eq]; exact hs 0 0 (by omega) (by omega), rfl⟩
    · exact ⟨by simp only [List.mem_singleton, forall_eq]; exact hs 0 1 (by omega) (by omega), rfl⟩
  · rw [if_neg (by omega)] at hp
    subst hu
    simp only [List.mem_cons, List.not_mem_nil, or_false] at hp
    rcases hp with rfl | rfl | rfl | rfl
    · exact ⟨by simp only [List.mem_cons, List.not_mem_nil, or_false, forall_eq_or_imp, forall_eq]; exact ⟨hs 0 0 (by omega) (by omega), hs 1 0 (by omega) (by omega)⟩, rfl⟩
    · exact ⟨by simp only [List.mem_cons, List.not_mem_nil, or_false, forall_eq_or_imp, forall_eq]; exact ⟨hs 0 0 (by omega) (by omega), hs 1 1 (by omega) (by omega)⟩, rfl⟩
    · exact ⟨by simp only [List.mem_cons, List.not_mem_nil, or_false, forall_eq_or_imp, forall_eq]; exact ⟨hs 0 1 (by omega) (by omega), hs 1 0 (by omega) (by omega)⟩, rfl⟩
    · exact ⟨by simp only [List.mem_cons, List.not_mem_nil, or_false, forall_eq_or_imp, forall_eq]; exact ⟨hs 0 1 (by omega) (by omega), hs 1 1 (by omega) (by omega)⟩, rfl⟩
theorem corners_len {b u : Nat} {l : List Nat} (h : WordOk b u l) : (cornersQ b u l).length = 2 * u ∧ cornersQ b u l ≠ [] := by
  unfold cornersQ
  rcases h.wd with hu | hu
  · rw [if_pos hu, hu]
    exact ⟨rfl, by simp⟩
  · rw [if_neg (by omega), hu]
    exact ⟨rfl, by simp⟩
theorem post_y {t : Tm} (h : .lf .y ∈ t.post) : t.hasY = true := by
  have key : ∀ t : Tm, Po.lf .y ∈ t.post → Tok.lf .y ∈ t.toks := by
    intro t
    induction t with
    | lf l =>
      intro h
      have h : Po.lf Lf.y ∈ [Po.lf l] := h
      have e := List.mem_singleton.mp h
      injection e with e
      show Tok.lf .y ∈ [Tok.lf l]
      rw [e]
      simp
    | nd s a b iha ihb =>
      intro h
      have h : Po.lf Lf.y ∈ a.post ++ b.post ++ [Po.op s] := h
      show Tok.lf .y ∈ .lp :: (a.toks ++ .sg s :: (b.toks ++ [.rp]))
      simp only [List.mem_append, List.mem_singleton, reduceCtorEq, or_false] at h
      rcases h with h | h
      · simp [iha h]
      · simp [ihb h]
  exact decide_eq_true (key t h)
theorem pt_corner {b u : Nat} {l : List Nat} (h : Word2 b u l) {t : Tm} (hw : t.wid ≤ u) {ps : List Rat} (hp : ps ∈ cornersQ b u l) : PtOk ps t.post := by
  obtain ⟨h1, h2⟩ := corner_ok h hp
  have hu := h.ok.wd
  refine ⟨h1, ?_, fun hy => ?_⟩
  · match ps, h2 with
    | [], e => simp at e; omega
    | a :: r, _ => exact ⟨a, r, rfl⟩
  · have : t.wid = 2 := by
      unfold Tm.wid
      rw [if_pos (post_y hy)]
    match ps, h2 with
    | [], e => simp at e; omega
    | [a], e => simp at e; omega
    | a :: b' :: r, _ => exact ⟨a, b', r, rfl⟩
/-! ### the values at the corners -/
def vals (t : Tm) : List (List Rat) → Option (List Rat)
  | [] => some []
  | c :: r => (val (ptOf c) t).bind fun q => (vals t r).map fun qs => q :: qs
def firstBad (t : Tm) : List (List Rat) → List Rat
  | [] => []
  | c :: r => if (val (ptOf c) t).isSome = true then firstBad t r else c
def diffs : List Rat → List Rat
  | [] => []
  | q :: r => r.map fun x => x - q
def chordsOf (t : Tm) (cs : List (List Rat)) : Option (List Rat) := (vals t cs).map diffs
theorem vals_some {t : Tm} : ∀ {cs : List (List Rat)} {qs : List Rat}, vals t cs = some qs → qs.length = cs.length ∧ ∀ (i : Nat) (h : i < cs.length), val (ptOf cs[i]) t = qs[i]?
  | [], qs, h => by
    rw [← Option.some.inj h]
    exact ⟨rfl, fun i hi => by simp at hi⟩
  | c :: r, qs, h => by
    have h : ((val (ptOf c) t).bind fun q => (vals t r).map fun qs => q :: qs) = some qs := h
    cases hv : val (ptOf c) t with
    | none => rw [hv] at h; cases h
    | some q =>
      cases hr : vals t r with
      | none => rw [hv, hr] at h; cases h
      | some qr =>
        rw [hv, hr] at h
        have h : q :: qr = qs := Option.some.inj h
        obtain ⟨h1, h2⟩ := vals_some hr
        rw [← h]
        refine ⟨by rw [List.length_cons, List.length_cons, h1], fun i hi => ?_⟩
        cases i with
        | zero => exact hv
        | succ i => exact h2 i (by simpa using hi)
theorem vals_none {t : Tm} : ∀ {cs : List (List Rat)}, vals t cs = none → ∃ (k : Nat) (h : k < cs.length), (∀ (i : Nat) (hi : i < k), ∃ q, val (ptOf (cs[i]'(Nat.lt_trans hi h))) t = some q) ∧ val (ptOf cs[k]) t = none ∧ firstBad t cs = cs[k]
  | [], h => by cases h
  | c :: r, h => by
    have h : ((val (ptOf c) t).bind fun q => (vals t r).map fun qs => q :: qs) = none := h
    cases hv : val (ptOf c) t with
    | none =>
      refine ⟨0, by simp, fun i hi => absurd hi (Nat.not_lt_zero i), hv, ?_⟩
      show (if (val (ptOf c) t).isSome = true then firstBad t r else c) = c
      rw [hv]
      rfl
    | some q =>
      rw [hv] at h
      have h : (vals t r).map (fun qs => q :: qs) = none := h
      have hr : vals t r = none := by
        cases hr : vals t r with
        | none => rfl
        | some z => rw [hr] at h; cases h
      obtain ⟨k, hk, h1, h2, h3⟩ := vals_none hr
      refine ⟨k + 1, by simp [hk], fun i hi => ?_, h2, ?_⟩
      · cases i with
        | zero => exact ⟨q, hv⟩
        | succ i => exact h1 i (by omega)
      · show (if (val (ptOf c) t).isSome = true then firstBad t r else c) = r[k]
        rw [hv, if_pos (show (some q).isSome = true from rfl)]
        exact h3
section
variable {P : Program} {w : World} {K : PySem.W.Frag} {mg : Str → Option Value} {base : Heap}
theorem sc_Target_at : FnScope ["self", "numbers", "worth", "top", "bottom"] ["self", "numbers"] (defScope s_Target_at) := ⟨rfl, rfl, rfl, by decide +kernel, rfl, by decide +kernel, by decide +kernel⟩
theorem ok_at (T : Txt K mg) : FnR P w K mg base (L2.CX P w) 4 (He.ma K (He.ga K "Target") "at") (stsp 1 (spWorth K)) := by
  have c_worth := ok_worth (P := P) (w := w) (base := base) T
  obtain ⟨fd, Fd⟩ := T.d_Target_at
  refine star_ok Fd sc_Target_at (fun _ _ _ _ _ _ _ => rfl) (fun _ _ _ _ _ _ _ _ _ => rfl) fun cdv A outer s H E hr => ⟨_, (pss_cons (ps_set (i := 2) sc_Target_at.nd rfl (Or.inl rfl) (pe_xmeth c_worth (pv 0) T.cls_Target (hr.mono (by decide)) (passes_call (takes_of rfl rfl rfl rfl) (fun _ _ _ _ h => h)) (pa_cons (pv 1) pa_nil)))
    (pss_cons (ps_if (pt_not (pt_truthK K (pe_fldK K (pv 0) rfl) (by intro _; rfl))) (pss_one (ps_ret (pv 2))) pss_nil) pss_nv)), ?_⟩
  rintro B0 H0 ⟨r, t, ps⟩ ha hx
  have r0 : r = false := ha.r0
  subst r0
  show SS triv B0 H0 _ [.dat (targetD K false t), .dat (ptD ps), .no, .no, .no] _ _ _ _
  cases hv : val (ptOf ps) t with
  | none =>
    have hz : AskT.res ⟨false, t, ps⟩ = none := by
      unfold AskT.res
      rw [show val (ptOf (AskT.mk false t ps).ps) (AskT.mk false t ps).t = none from hv]
      rfl
    exact ss_seq (ss_rz (rz_xmeth (C := He.ga K "Target") (ks := targetKs) (ed_var rfl) (by decide +kernel) (ds := [ptD ps]) (by walk_at "ed") ⟨⟨false, t, ps⟩, ha, rfl, hz, rfl, rfl, rfl⟩ (hx hz)))
  | some q =>
    have hz : AskT.res ⟨false, t, ps⟩ = some (dq q) := by
      unfold AskT.res
      rw [show val (ptOf (AskT.mk false t ps).ps) (AskT.mk false t ps).t = some q from hv]
      rfl
    refine ss_seq (ssd_asg (d := dq q) (ed_xmeth (C := He.ga K "Target") (ks := targetKs) (ed_var rfl) (by decide +kernel) (ds := [ptD ps]) (by walk_at "ed") ⟨⟨false, t, ps⟩, ha, rfl, hz⟩) ?_)
    refine ss_seq (ssd_ifT (EB.is (eb_not (eb_tru (ed_fld (C := He.ga K "Target") (ks := targetKs) (d := .bl false) (ed_var rfl) T.cls_Target T.na_Target_root rfl))) (by rfl)) ?_)
    exact ssd_ret (ed_var rfl) hz
end
end K82
set_option Elab.async false
set_option linter.all false
set_option maxRecDepth 100000
set_option maxHeartbeats 2000000
namespace K82
open PySem PySem.Spec PyProof.Rows L2 Evl Dl K82Head TL
local macro_rules | `(tactic| walk_at "ed") => `(tactic| first
  | exact ed_var rfl | exact ed_int | exact ed_str | exact ed_bl | exact ed_non | exact eda_nil | exact edo_none
  | exact od_add | exact od_sub | exact od_lt | exact od_le | exact od_gt | exact od_ge | exact od_eqi | exact od_nei | exact od_eqs | exact od_nes | exact od_isN | exact od_notN | exact cd_int | exact cd_abs | exact cd_max2 | exact cd_gcd
  | ((with_reducible apply eda_cons) <;> walk_at "ed") | ((with_reducible apply ed_op) <;> walk_at "ed") | ((with_reducible apply ed_cb) <;> walk_at "ed") | ((with_reducible apply eb_test) <;> walk_at "ed") | ((with_reducible apply eb_tru) <;> walk_at "ed") | ((with_reducible apply ed_tup) <;> walk_at "ed")
  | ((with_reducible apply ed_neg) <;> walk_at "ed") | ((with_reducible apply eb_not) <;> walk_at "ed") | ((with_reducible apply edl_lst) <;> walk_at "ed") | ((with_reducible apply edo_some) <;> walk_at "ed") | ((with_reducible apply ed_call) <;> walk_at "ed")
  | (apply od_mul; assumption) | (apply od_rem; omega) | (apply od_div <;> omega) | (apply od_ixT; rfl) | (apply od_ixL; rfl)
  | (with_reducible exact True.intro) | (simp; done) | skip)
/-- what is asked of chord_list -/
structure ChT where
  t : Tm
  b : Nat
  u : Nat
  l : List Nat
structure ChT.pre (a : ChT) : Prop where
  n : a.t.post.length ≤ 100
  o : opsN a.t.post ≤ 5
  wide : a.t.wid ≤ a.u
  ok : Word2 a.b a.u a.l
def ChT.args (K : PySem.W.Frag) (a : ChT) : List D := [targetD K false a.t, .int (a.b : Nat), .int (a.u : Nat), wd a.l]
def qsD (qs : List Rat) : D := .tup (qs.map dq)
def ChT.res (a : ChT) : Option D := (chordsOf a.t (cornersQ a.b a.u a.l)).map qsD
def ChT.exc (K : PySem.W.Frag) (a : ChT) : Addr × Str × D := (He.ga K "NoValue", "spot", ptD (firstBad a.t (cornersQ a.b a.u a.l)))
abbrev spChords (K : PySem.W.Frag) : Sp := xsp (FA (ChT.args K) ChT.pre ChT.res) (ZA (ChT.args K) ChT.pre ChT.res (ChT.exc K))
theorem ChT.pre.ask {a : ChT} (h : a.pre) {ps : List Rat} (hp : ps ∈ cornersQ a.b a.u a.l) : Ask false a.t ps := by
  have h2 := (corner_ok h.ok hp).2
  have hu := h.ok.ok.wd
  have hw := h.wide
  exact ⟨rfl, h.n, h.o, pt_corner h.ok h.wide hp, by omega, by omega⟩
theorem ask_res {t : Tm} {ps : List Rat} {q : Rat} (h : val (ptOf ps) t = some q) : AskT.res ⟨false, t, ps⟩ = some (dq q) := by
  unfold AskT.res
  rw [show val (ptOf (AskT.mk false t ps).ps) (AskT.mk false t ps).t = some q from h]
  rfl
theorem ask_none {t : Tm} {ps : List Rat} (h : val (ptOf ps) t = none) : AskT.res ⟨false, t, ps⟩ = none := by
  unfold AskT.res
  rw [show val (ptOf (AskT.mk false t ps).ps) (AskT.mk false t ps).t = none from h]
  rfl
section
variable {P : Program} {w : World} {K : PySem.W.Frag} {mg : Str → Option Value} {base : Heap}
theorem at_b (T : Txt K mg) : BMeth K (He.ga K "Target") "at" (He.ma K (He.ga K "Target") "at") := by
  refine bmeth_of T.me_Target_at (by decide +kernel) ?_
  obtain ⟨fd, Fd⟩ := T.d_Target_at
  obtain ⟨oc, od, dV, kV, doc, pm, an, cdv, ct, osl, rfl, lk, _⟩ := Fd.ex
  unfold PySem.W.fnIn
  rw [show K.lookup (He.ma K (He.ga K "Target") "at") = _ from lk]
theorem sc_chord_list : FnScope ["target", "base", "width", "word", "corner"] ["target", "base", "width", "word"] (defScope s_chord_list) := ⟨rfl, rfl, rfl, by decide +kernel, rfl, by decide +kernel, by decide +kernel⟩
theorem ok_chord_list (T : Txt K mg) : XCal P w K mg base "chord_list" 6 (spChords K) := by
  have c_check := ok_check_target (P := P) (w := w) (base := base) T
  have c_at := ok_at (P := P) (w := w) (base := base) T
  have c_corners_of := ok_corners_of (P := P) (w := w) (base := base) T
  have c_chords := ok_chords (P := P) (w := w) (base := base) T
  obtain ⟨fd, Fd⟩ := T.d_chord_list
  refine ⟨_, fd, ["target", "base", "width", "word"], xspA_ok Fd sc_chord_list (fun _ => rfl) (fun cdv A outer s H E hr => ⟨_, (pss_cons (ps_expr (pe_xcal c_check (hr.mono (by decide)) rfl (passes_call (takes_of rfl rfl rfl rfl) (fun _ _ _ _ h => h)) (pa_cons (pv 0) (pa_cons (pv 2) pa_nil))))
    (pss_one (ps_ret (pe_cal c_chords (hr.mono (by decide)) rfl (pa_cons (pe_lcX (own := [("corner", 4)]) (g := gName 4) rfl rfl (takes_of rfl rfl rfl rfl) rfl sc_chord_list.nd (pi_seqK K (pe_cal c_corners_of (hr.mono (by decide)) rfl (pa_cons (pv 1) (pa_cons (pv 2) (pa_cons (pv 3) pa_nil)))))
      (blkOk_by (N := ["target", "base", "width", "word", "corner"]) (sc := defScope s_chord_list) (by decide +kernel)) (fun _ _ _ _ _ => (pg_name (i := 4) sc_chord_list.nd rfl (Or.inl rfl))) (fun _ _ _ _ _ => (pe_methSK K (pv 0) T.cls_Target (at_b T) c_at (hr.mono (by decide)) passXF (pv 4)))) pa_nil))))), ?_⟩), T.g_chord_list, Fd.kp, Fd.bindsN (fun _ _ _ _ _ _ us hl => match us, hl with | [_, _, _, _], _ => rfl)⟩
  rintro B0 H0 ⟨t, b, u, l⟩ hp hx
  obtain ⟨hn, ho, hw, hk⟩ := hp
  have hn : t.post.length ≤ 100 := hn
  have ho : opsN t.post ≤ 5 := ho
  have hw : t.wid ≤ u := hw
  have hk : Word2 b u l := hk
  have hpre : ChT.pre ⟨t, b, u, l⟩ := ⟨hn, ho, hw, hk⟩
  show SS triv B0 H0 _ [.dat (targetD K false t), .dat (.int (b : Nat)), .dat (.int (u : Nat)), .dat (wd l), .no] _ _ _ _
  refine ss_seq (ss_drop (ed_xcal (ds := [targetD K false t, .int (u : Nat)]) (by walk_at "ed") ⟨false, t, u, rfl, by unfold whyNot; rw [if_neg (by omega)]; rfl, rfl⟩) ?_)
  obtain ⟨cl, cne⟩ := corners_len hk.ok
  have hu := hk.ok.wd
  have iter : WID triv (iSeq K (tCall (psp F_corners_of) [] E0 (tCons (tVar 1) (tCons (tVar 2) (tCons (tVar 3) tNil))))) [.dat (targetD K false t), .dat (.int (b : Nat)), .dat (.int (u : Nat)), .dat (wd l), .no] ((cornersQ b u l).map ptD) :=
    wid_seq (.inl rfl) (ed_call (ds := [.int (b : Nat), .int (u : Nat), wd l]) (by walk_at "ed") ⟨b, u, l, rfl, hk.ok, rfl⟩)
  have elt : ∀ ps ∈ cornersQ b u l, ∀ q, val (ptOf ps) t = some q → ED triv (tMethS K (He.ga K "Target") "at" (He.ma K (He.ga K "Target") "at") (stsp 1 (spWorth K)) E (tVar 0) (tVar 4)) [.dat (targetD K false t), .dat (.int (b : Nat)), .dat (.int (u : Nat)), .dat (wd l), .dat (ptD ps)] (dq q) := fun ps hm q hv =>
    ed_xmethS (C := He.ga K "Target") (ks := targetKs) (ds := ps.map dq) (ed_var rfl) (by decide +kernel) (ed_var rfl) (by have := (corner_ok hk hm).2; rw [List.length_map]; omega) ⟨⟨false, t, ps⟩, hpre.ask hm, rfl, ask_res hv⟩
  cases hv : vals t (cornersQ b u l) with
  | none =>
    obtain ⟨k, hkl, h1, h2, h3⟩ := vals_none hv
    have hz : ChT.res ⟨t, b, u, l⟩ = none := by
      show ((vals t (cornersQ b u l)).map diffs).map qsD = none
      rw [hv]
      rfl
    have hx2 : HX B0 H0 E (He.ga K "NoValue") "spot" (ptD (cornersQ b u l)[k]) := by
      rw [← h3]
      exact hx hz
    have hm : (cornersQ b u l)[k] ∈ cornersQ b u l := List.getElem_mem _
    refine ss_rz_ret (rz_call (rza_hd (rz_lc1 (xs := cornersQ b u l) ptD (fun i => if h : i < k then dq ((h1 i h).choose) else .non) iter k hkl (by omega) (fun i hi => ?_) ?_)))
    · show ED triv _ _ (if h : i < k then dq ((h1 i h).choose) else .non)
      rw [dif_pos hi]
      exact elt _ (List.getElem_mem _) _ (h1 i hi).choose_spec
    · exact rz_xmethS (C := He.ga K "Target") (ks := targetKs) (ds := ((cornersQ b u l)[k]).map dq) (ed_var rfl) (by decide +kernel) (ed_var rfl) (by have := (corner_ok hk hm).2; rw [List.length_map]; omega) ⟨⟨false, t, _⟩, hpre.ask hm, rfl, ask_none h2, rfl, rfl, rfl⟩ hx2
  | some qs =>
    obtain ⟨h1, h2⟩ := vals_some hv
    have hz : ChT.res ⟨t, b, u, l⟩ = some (qsD (diffs qs)) := by
      show ((vals t (cornersQ b u l)).map diffs).map qsD = _
      rw [hv]
      rfl
    have hsz : ∀ q ∈ qs, Sq 3000 q := fun q hq => by
      obtain ⟨i, hi, e⟩ := List.mem_iff_getElem.mp hq
      have hi2 : i < (cornersQ b u l).length := by omega
      have e2 := h2 i hi2
      rw [List.getElem?_eq_getElem hi, e] at e2
      have hm : (cornersQ b u l)[i] ∈ cornersQ b u l := List.getElem_mem _
      exact (val_sz _ t (pt_corner hk hw hm) q e2).mono (Nat.le_trans (kz_le ho) (by decide))
    match qs, h1, h2, hz, hsz with
    | [], h1, _, _, _ =>
      exact absurd (List.eq_nil_of_length_eq_zero h1.symm) cne
    | q :: r, h1, h2, hz, hsz =>
      have hr : r.length ≤ 1000 := by
        rw [List.length_cons] at h1
        omega
      refine ssd_ret (ed_call (ds := [.lst ((q :: r).map dq)]) (eda_cons (ed_of_el ?_) eda_nil) ⟨q, r, rfl, hsz, hr, rfl⟩) (by rw [hz]; unfold qsD diffs; rw [List.map_map]; rfl)
      have e : (cornersQ b u l).map (fun ps => (val (ptOf ps) t).elim D.non dq) = (q :: r).map dq := by
        apply List.ext_getElem?
        intro i
        rw [List.getElem?_map, List.getElem?_map]
        by_cases hi : i < (cornersQ b u l).length
        · rw [List.getElem?_eq_getElem hi]
          have hi2 : i < (q :: r).length := by omega
          have e2 := h2 i hi
          rw [List.getElem?_eq_getElem hi2] at e2 ⊢
          show some ((val (ptOf (cornersQ b u l)[i]) t).elim D.non dq) = some (dq (q :: r)[i])
          rw [e2]
          rfl
        · rw [List.getElem?_eq_none (by omega), List.getElem?_eq_none (by omega)]
          rfl
      rw [← e]
      refine edl_map1 (xs := cornersQ b u l) ptD _ iter (by omega) fun ps hm => ?_
      obtain ⟨i, hi, e3⟩ := List.mem_iff_getElem.mp hm
      have hi2 : i < (q :: r).length := by omega
      have e2 := h2 i hi
      rw [List.getElem?_eq_getElem hi2, e3] at e2
      rw [e2]
      exact elt ps hm _ e2
end
end K82
set_option Elab.async false
set_option linter.all false
set_option maxRecDepth 100000
set_option maxHeartbeats 2000000
namespace K82
open PySem PySem.Spec PyProof.Rows L2 Evl Dl K82Head TL
local macro_rules | `(tactic| walk_at "ed") => `(tactic| first
  | exact ed_var rfl | exact ed_int | exact ed_str | exact ed_bl | exact ed_non | exact eda_nil | exact edo_none
  | exact od_add | exact od_sub | exact od_lt | exact od_le | exact od_gt | exact od_ge | exact od_eqi | exact od_nei | exact od_eqs | exact od_nes | exact od_isN | exact od_notN | exact cd_int | exact cd_abs | exact cd_max2 | exact cd_gcd
  | ((with_reducible apply eda_cons) <;> walk_at "ed") | ((with_reducible apply ed_op) <;> walk_at "ed") | ((with_reducible apply ed_cb) <;> walk_at "ed") | ((with_reducible apply eb_test) <;> walk_at "ed") | ((with_reducible apply eb_tru) <;> walk_at "ed") | ((with_reducible apply ed_tup) <;> walk_at "ed")
  | ((with_reducible apply ed_neg) <;> walk_at "ed") | ((with_reducible apply eb_not) <;> walk_at "ed") | ((with_reducible apply edl_lst) <;> walk_at "ed") | ((with_reducible apply edo_some) <;> walk_at "ed") | ((with_reducible apply ed_call) <;> walk_at "ed")
  | (apply od_mul; assumption) | (apply od_rem; omega) | (apply od_div <;> omega) | (apply od_ixT; rfl) | (apply od_ixL; rfl)
  | (with_reducible exact True.intro) | (simp; done) | skip)
/-! ### keys that differ -/
def addK (acc : List NestedKey) (k : NestedKey) : List NestedKey := if k ∈ acc then acc else acc ++ [k]
theorem valD_mem (k : NestedKey) : ∀ kvs : List NRowD, (valD kvs k).isSome = decide (k ∈ kvs.map (·.1))
  | [] => rfl
  | x :: r => by
    rw [valD_cons, List.map_cons]
    by_cases e : x.1 = k
    · rw [if_pos e, decide_eq_true (by rw [← e]; exact List.mem_cons_self)]
      rfl
    · rw [if_neg e, valD_mem k r]
      exact decide_eq_decide.mpr ⟨List.mem_cons_of_mem _, fun h => (List.mem_cons.mp h).resolve_left fun z => e z.symm⟩
theorem putD_keys (kvs : List NRowD) (k : NestedKey) (d : D) : (putD kvs k d).map (·.1) = addK (kvs.map (·.1)) k := by
  unfold putD addK
  rw [valD_mem]
  by_cases h : k ∈ kvs.map (·.1)
  · rw [if_pos (decide_eq_true h), if_pos h, List.map_map]
    refine List.map_congr_left fun x _ => ?_
    show (if x.1 = k then (x.1, d) else x).1 = x.1
    split <;> rfl
  · rw [if_neg (by rw [decide_eq_false h]; decide), if_neg h, List.map_append]
    rfl
theorem fold_len : ∀ (ks acc : List NestedKey), (ks.foldl addK acc).length ≤ acc.length + ks.length ∧ ((ks.foldl addK acc).length = acc.length + ks.length ↔ ks.Nodup ∧ ∀ k ∈ ks, k ∉ acc)
  | [], acc => by simp
  | k :: ks, acc => by
    obtain ⟨h1, h2⟩ := fold_len ks (addK acc k)
    rw [List.foldl_cons]
    have hl : (addK acc k).length ≤ acc.length + 1 := by
      unfold addK
      split
      · omega
      · simp
    rw [List.length_cons]
    refine ⟨by omega, ?_⟩
    by_cases h : k ∈ acc
    · have ha : addK acc k = acc := by
        unfold addK
        rw [if_pos h]
      rw [ha] at h1 ⊢
      constructor
      · intro e
        omega
      · rintro ⟨_, e⟩
        exact absurd h (e k List.mem_cons_self)
    · have ha : addK acc k = acc ++ [k] := by
        unfold addK
        rw [if_neg h]
      have hl2 : (addK acc k).length = acc.length + 1 := by
        rw [ha]
        simp
      rw [List.nodup_cons]
      constructor
      · intro e
        obtain ⟨e1, e2⟩ := h2.mp (by omega)
        rw [ha] at e2
        refine ⟨⟨fun z => e2 k z (by simp), e1⟩, fun j hj => ?_⟩
        rcases List.mem_cons.mp hj with rfl | hj
        · exact h
        · exact fun z => e2 j hj (by simp [z])
      · rintro ⟨⟨e1, e2⟩, e3⟩
        have z := h2.mpr ⟨e2, fun j hj => by
          rw [ha]
          intro q
          rcases List.mem_append.mp q with q | q
          · exact e3 j (List.mem_cons_of_mem _ hj) q
          · rw [List.mem_singleton] at q
            exact e1 (q ▸ hj)⟩
        omega
/-- the chords of a word, and their flat key -/
def chs (t : Tm) (b u : Nat) (l : List Nat) : Option (List Rat) := chordsOf t (cornersQ b u l)
def qP (q : Rat) : List D := [.int q.num, .int (q.den : Int)]
def kq (qs : List Rat) : NestedKey := nk (.tup (qs.map qP).flatten)
theorem kq_cons (q : Rat) (r : List Rat) : nks ((q :: r).map qP).flatten = .num q.num :: .num (q.den : Int) :: nks (r.map qP).flatten := rfl
theorem kq_inj : ∀ {a b : List Rat}, nks (a.map qP).flatten = nks (b.map qP).flatten → a = b
  | [], [], _ => rfl
  | [], q :: r, h => by rw [kq_cons] at h; cases h
  | q :: r, [], h => by rw [kq_cons] at h; cases h
  | q :: r, p :: s, h => by
    rw [kq_cons, kq_cons] at h
    injection h with h1 h
    injection h with h2 h
    injection h1 with h1
    injection h2 with h2
    rw [kq_inj h, Rat.ext h1 (by omega)]
theorem kq_ne {a b : List Rat} : kq a ≠ kq b ↔ a ≠ b := by
  constructor
  · exact fun h e => h (by rw [e])
  · intro h e
    have e : NestedKey.tup (nks (a.map qP).flatten) = .tup (nks (b.map qP).flatten) := e
    injection e with e
    exact h (kq_inj e)
theorem kq_nodup {L : List (List Rat)} : (L.map kq).Nodup ↔ L.Nodup := by
  unfold List.Nodup
  rw [List.pairwise_map]
  exact ⟨fun h => h.imp fun e => kq_ne.mp e, fun h => h.imp fun e => kq_ne.mpr e⟩
theorem flat_qs : ∀ qs : List Rat, flatL (qs.map qP).flatten = true
  | [] => rfl
  | q :: r => flat_qs r
theorem depth_qs : ∀ qs : List Rat, NestedKey.depthAll (nks (qs.map qP).flatten) = 0
  | [] => rfl
  | q :: r => by
    rw [kq_cons]
    show max 0 (max 0 (NestedKey.depthAll (nks (r.map qP).flatten))) = 0
    rw [depth_qs r]
    rfl
theorem len_qs : ∀ qs : List Rat, (qs.map qP).flatten.length = 2 * qs.length
  | [] => rfl
  | q :: r => by
    show (qP q ++ (r.map qP).flatten).length = _
    rw [List.length_append, len_qs r, List.length_cons]
    show 2 + _ = _
    omega
/-- does the bar take the target? -/
def takesB (t : Tm) (b u : Nat) (ws : List (List Nat)) (m : Int) : Bool :=
  if m < 1 ∨ (ws.length : Int) ≠ m + 1 then false
  else if ws.any (fun l => !decide ((l.length : Int) = ((ws.headD []).length : Int))) = true then false
  else ws.all (fun l => (chs t b u l).isSome) && decide ((ws.map fun l => (chs t b u l).getD []).Nodup)
structure TkT where
  r : Bool
  t : Tm
  b : Nat
  u : Nat
  ws : List (List Nat)
  m : Int
structure TkT.pre (a : TkT) : Prop where
  n : a.t.post.length ≤ 100
  o : opsN a.t.post ≤ 5
  few : a.ws.length ≤ 900
  ok : ∀ l ∈ a.ws, Word2 a.b a.u l
def TkT.args (K : PySem.W.Frag) (a : TkT) : List D := [targetD K a.r a.t, barD K a.b a.u a.ws, .int a.m]
def TkT.res (a : TkT) : Option D := if whyNot a.r a.t a.u = none then some (.bl (takesB a.t a.b a.u a.ws a.m)) else none
def TkT.exc (K : PySem.W.Frag) (a : TkT) : Addr × Str × D := (He.ga K "Unlike", "what", .str ((whyNot a.r a.t a.u).getD ""))
abbrev spTakes (K : PySem.W.Frag) : Sp := xsp (FA (TkT.args K) TkT.pre TkT.res) (ZA (TkT.args K) TkT.pre TkT.res (TkT.exc K))
theorem chs_len {t : Tm} {b u : Nat} {l : List Nat} {qs : List Rat} (hk : Word2 b u l) (h : chs t b u l = some qs) : qs.length ≤ 100 := by
  unfold chs chordsOf at h
  obtain ⟨q0, hv, e⟩ := Option.map_eq_some_iff.mp h
  obtain ⟨h1, _⟩ := vals_some hv
  obtain ⟨cl, _⟩ := corners_len hk.ok
  have : (diffs q0).length ≤ q0.length := by
    cases q0 with
    | nil => exact Nat.le_refl _
    | cons a r =>
      show (r.map _).length ≤ _
      rw [List.length_map, List.length_cons]
      omega
  rw [← e]
  have := hk.ok.wd
  omega
section
variable {P : Program} {w : World} {K : PySem.W.Frag} {mg : Str → Option Value} {base : Heap}
theorem sc_takes_bar : FnScope ["target", "bar", "states", "words", "seen", "word", "chords"] ["target", "bar", "states"] (defScope s_takes_bar) := ⟨rfl, rfl, rfl, by decide +kernel, rfl, by decide +kernel, by decide +kernel⟩
theorem ok_takes_bar (T : Txt K mg) : XCal P w K mg base "takes_bar" 7 (spTakes K) := by
  have c_check := ok_check_target (P := P) (w := w) (base := base) T
  have c_chord_list := ok_chord_list (P := P) (w := w) (base := base) T
  have c_flat := ok_flat (P := P) (w := w) (base := base) T
  obtain ⟨fd, Fd⟩ := T.d_takes_bar
  refine ⟨_, fd, ["target", "bar", "states"], xspA_ok Fd sc_takes_bar (fun _ => rfl) (fun cdv A outer s H E hr => ⟨_, (pss_cons (ps_expr (pe_xcal c_check (hr.mono (by decide)) rfl (passes_call (takes_of rfl rfl rfl rfl) (fun _ _ _ _ h => h)) (pa_cons (pv 0) (pa_cons (pe_fldK K (pv 1) rfl) pa_nil))))
    (pss_cons (ps_set (i := 3) sc_takes_bar.nd rfl (Or.inr rfl) (pe_fldK K (pv 1) rfl))
    (pss_cons (ps_if (PW.pt (pw_or (pt_cmpR op_lt (pv 2) pe_int (nomark _)) (pw_or1 (pt_cmpR (op_neK K hr.units) (pe_callB (call_lenK K) (by rfl) T.b_len (by decide +kernel) (pa_cons (pv 3) pa_nil)) (pe_op (op_addK K) (pv 2) pe_int) (nomark _)))))
      (pss_one (ps_ret pe_bl))
      pss_nil)
    (pss_cons (ps_if (pt_truthK K (pe_callB (call_anyK K) (by rfl) T.b_any (by decide +kernel) (pa_cons (pe_lc (own := [("word", 5)]) (g := gName 5) rfl sc_takes_bar.nd  (pi_seqK K (pv 3)) (blkOk_by (N := ["target", "bar", "states", "words", "seen", "word", "chords"]) (sc := defScope s_takes_bar) (by decide +kernel)) (fun _ _ _ _ _ => (pg_name (i := 5) sc_takes_bar.nd rfl (Or.inl rfl))) (fun _ _ _ _ _ => pts_nil) (fun _ _ _ _ _ => (pe_cmpR (op_neK K hr.units) (pe_callB (call_lenK K) (by rfl) T.b_len (by decide +kernel) (pa_cons (pv 5) pa_nil)) (pe_callB (call_lenK K) (by rfl) T.b_len (by decide +kernel) (pa_cons (pe_ix (ix_seqK K) (pv 3) pe_int (fun _ _ => rfl)) pa_nil)) (nomark _)))) pa_nil)) (by intro _; rfl))
      (pss_one (ps_ret pe_bl))
      pss_nil)
    (pss_cons (ps_set (i := 4) sc_takes_bar.nd rfl (Or.inl rfl) pe_nnew)
    (pss_cons (ps_for (passes_of rfl) rfl (pi_seqK K (pv 3)) (pg_name (i := 5) sc_takes_bar.nd rfl (Or.inl rfl))
      (pss_cons (ps_try_only (c := .ref (He.ga K "NoValue")) (Wout := fun cls d _ H => E cls d H) (ts := fun _ _ _ => tRet (tC (.bl false))) rfl rfl ⟨rfl, by decide, .inl T.g_NoValue⟩ (takes_of rfl rfl rfl rfl) (fun W pn xe tk _ => pss_one (ps_set (i := 6) sc_takes_bar.nd rfl (Or.inl rfl) (pe_xcalS c_chord_list (hr.mono (by decide)) rfl (fun σ => passAt tk σ) (pa_cons (pv 0) (pa_cons (pe_fldK K (pv 1) rfl) (pa_cons (pe_fldK K (pv 1) rfl) (pa_cons (pv 5) pa_nil))))))) (fun a oe cls d pn hz hd => pss_one (ps_ret pe_bl)))
        (pss_one (ps_nput (hu65 hr) (pv 4) (pe_cal c_flat (hr.mono (by decide)) rfl (pa_cons (pv 6) pa_nil)) pe_bl rfl))))
    (pss_one (ps_ret (pe_cmpR (op_eqK K hr.units) (pe_callB cr_lenN (by rfl) T.b_len (by decide +kernel) (pa_cons (pv 4) pa_nil)) (pe_callB (call_lenK K) (by rfl) T.b_len (by decide +kernel) (pa_cons (pv 3) pa_nil)) (nomark _)))))))))), ?_⟩), T.g_takes_bar, Fd.kp, Fd.bindsN (fun _ _ _ _ _ _ us hl => match us, hl with | [_, _, _], _ => rfl)⟩
  rintro B0 H0 ⟨r, t, b, u, ws, m⟩ ⟨hn, ho, hf, hk⟩ hx
  have hn : t.post.length ≤ 100 := hn
  have ho : opsN t.post ≤ 5 := ho
  have hf : ws.length ≤ 900 := hf
  have hk : ∀ l ∈ ws, Word2 b u l := hk
  show SS triv B0 H0 _ [.dat (targetD K r t), .dat (barD K b u ws), .dat (.int m), .no, .no, .no, .no] _ _ _ _
  have f1 : ∀ Γ : List Sl, Γ[1]? = some (.dat (barD K b u ws)) → ED triv (tFld K (tVar 1) "base") Γ (.int (b : Nat)) := fun Γ e => ed_fld (C := He.ga K "Bar") (ks := barKs) (ed_var e) T.cls_Bar T.na_Bar_base rfl
  have f2 : ∀ Γ : List Sl, Γ[1]? = some (.dat (barD K b u ws)) → ED triv (tFld K (tVar 1) "width") Γ (.int (u : Nat)) := fun Γ e => ed_fld (C := He.ga K "Bar") (ks := barKs) (ed_var e) T.cls_Bar T.na_Bar_width rfl
  have f3 : ∀ Γ : List Sl, Γ[1]? = some (.dat (barD K b u ws)) → ED triv (tFld K (tVar 1) "words") Γ (.tup (ws.map wd)) := fun Γ e => ed_fld (C := He.ga K "Bar") (ks := barKs) (ed_var e) T.cls_Bar T.na_Bar_words rfl
  cases hw : whyNot r t u with
  | some z =>
    have hx2 : HX B0 H0 E (He.ga K "Unlike") "what" (.str z) := by
      have q := hx (by show (if whyNot r t u = none then _ else none) = none; rw [hw]; rfl)
      have e : (TkT.exc K ⟨r, t, b, u, ws, m⟩) = ((He.ga K "Unlike", "what", D.str z) : Addr × Str × D) := by
        show ((He.ga K "Unlike", "what", D.str ((whyNot r t u).getD "")) : Addr × Str × D) = _
        rw [hw]
        rfl
      rw [e] at q
      exact q
    exact ss_seq (ss_rz_drop (rz_xcal (ds := [targetD K r t, .int (u : Nat)]) (eda_cons (ed_var rfl) (eda_cons (f2 _ rfl) eda_nil)) ⟨r, t, u, z, rfl, hw, rfl, rfl, rfl⟩ hx2))
  | none =>
    have hr0 : t.wid ≤ u ∧ r = false := by
      unfold whyNot at hw
      by_cases h1 : u < t.wid
      · rw [if_pos h1] at hw
        cases hw
      · rw [if_neg h1] at hw
        cases r with
        | false => exact ⟨by omega, rfl⟩
        | true => cases hw
    obtain ⟨hwd, r0⟩ := hr0
    subst r0
    have hres : TkT.res ⟨false, t, b, u, ws, m⟩ = some (.bl (takesB t b u ws m)) := by
      show (if whyNot false t u = none then some (D.bl (takesB t b u ws m)) else none) = _
      rw [if_pos hw]
    rw [hres]
    refine ss_seq (ss_drop (ed_xcal (ds := [targetD K false t, .int (u : Nat)]) (eda_cons (ed_var rfl) (eda_cons (f2 _ rfl) eda_nil)) ⟨false, t, u, rfl, hw, rfl⟩) ?_)
    refine ss_seq (ssd_asg (f3 _ rfl) ?_)
    have lenW : ED triv (tCB (fun xs H Q => ∃ x n, xs = [x] ∧ LenV K x H n ∧ Q (.int n) H) (tCons (tVar 3) tNil)) [.dat (targetD K false t), .dat (barD K b u ws), .dat (.int m), .dat (.tup (ws.map wd)), .no, .no, .no] (.int (ws.length : Nat)) := by
      have z := ed_lenT (K := K) (R := triv) (Γ := [.dat (targetD K false t), .dat (barD K b u ws), .dat (.int m), .dat (.tup (ws.map wd)), .no, .no, .no]) (te := tVar 3) (ds := ws.map wd) (ed_var rfl)
      rw [List.length_map] at z
      exact z
    refine ss_seq (ssd_if (eb_or (eb_test (ed_op (ed_var rfl) ed_int od_lt)) (fun _ => eb_test (ed_op lenW (ed_op (ed_var rfl) ed_int od_add) od_nei))) (fun h => ssd_ret ed_bl ?_) (fun h => ss_next ?_))
    · unfold takesB
      rw [if_pos]
      rw [Bool.or_eq_true, decide_eq_true_eq, Bool.not_eq_true', decide_eq_false_iff_not] at h
      exact h
    rw [Bool.or_eq_false_iff, decide_eq_false_iff_not, Bool.not_eq_false', decide_eq_true_eq] at h
    obtain ⟨hm1, hm2⟩ := h
    have hnA : ¬ (m < 1 ∨ (ws.length : Int) ≠ m + 1) := fun z => z.elim hm1 (fun q => q hm2)
    obtain ⟨w0, wr, ew⟩ : ∃ w0 wr, ws = w0 :: wr := by
      cases ws with
      | nil =>
        rw [List.length_nil] at hm2
        omega
      | cons a r => exact ⟨a, r, rfl⟩
    have hd0 : ws.headD [] = w0 := by rw [ew]; rfl
    refine ss_seq (ssd_if (b := ws.any (fun l => !decide ((l.length : Int) = (w0.length : Int)))) (eb_tru (EP.is (ed_cb (eda_cons (ed_of_el (edl_map1 (xs := ws) wd (fun l => .bl (!decide ((l.length : Int) = (w0.length : Int)))) (wid_seq (.inr rfl) (ed_var rfl)) (by omega) fun l _ => ?_)) eda_nil) cd_anyM) rfl)) (fun h => ssd_ret ed_bl ?_) (fun h => ss_next ?_))
    · have l1 : ED triv (tCB (fun xs H Q => ∃ x n, xs = [x] ∧ LenV K x H n ∧ Q (.int n) H) (tCons (tVar 5) tNil)) [.dat (targetD K false t), .dat (barD K b u ws), .dat (.int m), .dat (.tup (ws.map wd)), .no, .dat (wd l), .no] (.int (l.length : Nat)) := (ed_lenT (ds := l.map fun (a : Nat) => .int (a : Int)) (ed_var rfl)).is (by rw [List.length_map])
      have l2 : ED triv (tCB (fun xs H Q => ∃ x n, xs = [x] ∧ LenV K x H n ∧ Q (.int n) H) (tCons (tOp (rIx K) (tVar 3) (tC (.int 0))) tNil)) [.dat (targetD K false t), .dat (barD K b u ws), .dat (.int m), .dat (.tup (ws.map wd)), .no, .dat (wd l), .no] (.int (w0.length : Nat)) := (ed_lenT (ds := w0.map fun (a : Nat) => .int (a : Int)) (ed_op (ed_var rfl) ed_int (od_ixT (by rw [ew]; exact atI_hd)))).is (by rw [List.length_map])
      exact ed_op l1 l2 od_nei
    · unfold takesB
      rw [if_neg hnA, hd0, if_pos h]
    have hT : takesB t b u ws m = (ws.all (fun l => (chs t b u l).isSome) && decide ((ws.map fun l => (chs t b u l).getD []).Nodup)) := by
      unfold takesB
      rw [if_neg hnA, hd0, if_neg (by rw [h]; decide)]
    rw [hT]
    refine ss_seq (ss_ndNew ?_)
    refine ss_seq (ssd_for (xs := ws.map wd) (P := fun i Γ => ∃ (kvs : List NRowD) (s5 s6 : Sl), Γ = [.dat (targetD K false t), .dat (barD K b u ws), .dat (.int m), .dat (.tup (ws.map wd)), dicS P w kvs, s5, s6] ∧ (∀ l ∈ ws.take i, (chs t b u l).isSome = true) ∧ kvs.length ≤ i ∧ kvs.map (·.1) = (((ws.take i).map fun l => (chs t b u l).getD []).map kq).foldl addK []) (wid_seq (.inr rfl) (ed_var rfl)) ⟨[], .no, .no, rfl, by simp, by simp, by simp⟩ ?_ ?_)
    · rintro i x Γ ex ⟨kvs, s5, s6, rfl, ha, hl, hk2⟩
      rw [List.getElem?_map] at ex
      obtain ⟨l, el, rfl⟩ := Option.map_eq_some_iff.mp ex
      have hlm : l ∈ ws := List.mem_of_getElem? el
      have hi : i < ws.length := (List.getElem?_eq_some_iff.mp el).1
      have htk : ws.take (i + 1) = ws.take i ++ [l] := by
        rw [List.take_add_one, el]
        rfl
      have hpre : ChT.pre ⟨t, b, u, l⟩ := ⟨hn, ho, hwd, hk l hlm⟩
      refine ⟨[(5, wd l)], gs_name, ?_⟩
      show SS triv B0 H0 _ [.dat (targetD K false t), .dat (barD K b u ws), .dat (.int m), .dat (.tup (ws.map wd)), dicS P w kvs, .dat (wd l), s6] _ _ _ _
      have args : EDA triv (tCons (tVar 0) (tCons (tFld K (tVar 1) "base") (tCons (tFld K (tVar 1) "width") (tCons (tVar 5) tNil)))) [.dat (targetD K false t), .dat (barD K b u ws), .dat (.int m), .dat (.tup (ws.map wd)), dicS P w kvs, .dat (wd l), s6] (ChT.args K ⟨t, b, u, l⟩) := eda_cons (ed_var rfl) (eda_cons (f1 _ rfl) (eda_cons (f2 _ rfl) (eda_cons (ed_var rfl) eda_nil)))
      cases hc : chs t b u l with
      | none =>
        have hz : ChT.res ⟨t, b, u, l⟩ = none := by
          show (chs t b u l).map qsD = none
          rw [hc]
          rfl
        refine ss_seq (ss_tryX args ⟨⟨t, b, u, l⟩, hpre, rfl, hz, rfl, rfl, rfl⟩ T.ex_NoValue_NoValue (fun a d => ssd_ret ed_bl ?_))
        have : ws.all (fun l => (chs t b u l).isSome) = false := by
          rw [List.all_eq_false]
          exact ⟨l, hlm, by rw [hc]; decide⟩
        rw [this]
        rfl
      | some qs =>
        have hz : ChT.res ⟨t, b, u, l⟩ = some (qsD qs) := by
          show (chs t b u l).map qsD = _
          rw [hc]
          rfl
        have hq := chs_len (hk l hlm) hc
        refine ss_seq (ss_tryN (fun W => ssd_asg (ed_xcalS (ds := ChT.args K ⟨t, b, u, l⟩) args ⟨⟨t, b, u, l⟩, hpre, rfl, hz⟩) ?_))
        show SS triv B0 H0 _ [.dat (targetD K false t), .dat (barD K b u ws), .dat (.int m), .dat (.tup (ws.map wd)), dicS P w kvs, .dat (wd l), .dat (qsD qs)] _ _ _ _
        refine ss_ndPut (ds := (qs.map qP).flatten) (kvs := kvs) rfl ed_bl (ed_call (ds := [qsD qs]) (eda_cons (ed_var rfl) eda_nil) ⟨qs.map qP, by unfold qsD; rw [List.map_map]; rfl, by rw [len_qs]; omega, rfl⟩) (flat_qs qs) (by show NestedKey.depthAll _ + 1 ≤ 8; rw [depth_qs]; decide) (by omega) ⟨_, _, _, rfl, ?_, ?_, ?_⟩
        · intro l' hl'
          rw [htk, List.mem_append, List.mem_singleton] at hl'
          rcases hl' with hl' | rfl
          · exact ha l' hl'
          · rw [hc]
            rfl
        · have z := congrArg List.length (putD_keys kvs (kq qs) (.bl true))
          rw [List.length_map] at z
          show (putD kvs (kq qs) (.bl true)).length ≤ i + 1
          rw [z]
          unfold addK
          split
          · rw [List.length_map]
            omega
          · rw [List.length_append, List.length_map]
            simp only [List.length_cons, List.length_nil]
            omega
        · show (putD kvs (kq qs) (.bl true)).map (·.1) = _
          rw [putD_keys, hk2, htk, List.map_append, List.map_append, List.foldl_append]
          show addK _ (kq qs) = addK _ (kq ((chs t b u l).getD []))
          rw [hc]
          rfl
    · rintro Γ ⟨kvs, s5, s6, rfl, ha, hl, hk2⟩
      rw [List.length_map] at ha hl hk2
      rw [List.take_length] at ha hk2
      have hall : ws.all (fun l => (chs t b u l).isSome) = true := List.all_eq_true.mpr ha
      rw [hall, Bool.true_and]
      refine ssd_ret ((ed_op (ed_ndLen (P := P) (w := w) (kvs := kvs) rfl (by omega)) ((ed_lenT (K := K) (ds := ws.map wd) (ed_var rfl)).is (by rw [List.length_map])) od_eqi).is ?_) rfl
      have e1 : kvs.length = ((((ws.map fun l => (chs t b u l).getD []).map kq)).foldl addK []).length := by
        rw [← hk2, List.length_map]
      have e2 := (fold_len ((ws.map fun l => (chs t b u l).getD []).map kq) []).2
      rw [← e1, List.length_map, List.length_map, List.length_nil, Nat.zero_add, kq_nodup] at e2
      have e3 : (kvs.length = ws.length) ↔ (ws.map fun l => (chs t b u l).getD []).Nodup := e2.trans ⟨fun z => z.1, fun z => ⟨z, by simp⟩⟩
      congr 1
      exact decide_eq_decide.mpr ⟨fun z => e3.mp (by omega), fun z => by rw [e3.mpr z]⟩
end
end K82
set_option Elab.async false
set_option linter.all false
set_option maxRecDepth 100000
set_option maxHeartbeats 2000000
namespace K82
open PySem PySem.Spec PyProof.Rows L2 Evl Dl K82Head TL
local macro_rules | `(tactic| walk_at "ed") => `(tactic| first
  | exact ed_var rfl | exact ed_int | exact ed_str | exact ed_bl | exact ed_non | exact eda_nil | exact edo_none
  | exact od_add | exact od_sub | exact od_lt | exact od_le | exact od_gt | exact od_ge | exact od_eqi | exact od_nei | exact od_eqs | exact od_nes | exact od_isN | exact od_notN | exact cd_int | exact cd_abs | exact cd_max2 | exact cd_gcd
  | ((with_reducible apply eda_cons) <;> walk_at "ed") | ((with_reducible apply ed_op) <;> walk_at "ed") | ((with_reducible apply ed_cb) <;> walk_at "ed") | ((with_reducible apply eb_test) <;> walk_at "ed") | ((with_reducible apply eb_tru) <;> walk_at "ed") | ((with_reducible apply ed_tup) <;> walk_at "ed")
  | ((with_reducible apply ed_neg) <;> walk_at "ed") | ((with_reducible apply eb_not) <;> walk_at "ed") | ((with_reducible apply edl_lst) <;> walk_at "ed") | ((with_reducible apply edo_some) <;> walk_at "ed") | ((with_reducible apply ed_call) <;> walk_at "ed")
  | (apply od_mul; assumption) | (apply od_rem; omega) | (apply od_div <;> omega) | (apply od_ixT; rfl) | (apply od_ixL; rfl)
  | (with_reducible exact True.intro) | (simp; done) | skip)
/-! ### the law's lists of chords -/
def keyI (b u : Nat) (l : List Nat) (i : Nat) : List Nat := if u = 1 then [lowOf b u l 0 + i] else [lowOf b u l 0 + i / 2, lowOf b u l 1 + i % 2]
def ptI (b u : Nat) (l : List Nat) (i : Nat) : List Rat := (keyI b u l i).map fun (c : Nat) => Rat.divInt (c : Int) ((b ^ l.length : Nat) : Int)
theorem corners_keys {b u : Nat} {l : List Nat} (hu : u = 1 ∨ u = 2) : cornersQ b u l = (List.range (2 * u)).map (ptI b u l) := by
  rcases hu with rfl | rfl <;> rfl
def chD (t : Tm) (b u : Nat) (l : List Nat) : D := (chs t b u l).elim .non qsD
def F_law_lists (ds : List D) (d : D) : Prop := ∃ (t : Tm) (b u n : Nat) (ws : List (List Nat)), t.post.length ≤ 100 ∧ opsN t.post ≤ 5 ∧ t.wid ≤ u ∧ ws.length ≤ 200 ∧ ws ≠ [] ∧ (∀ l ∈ ws, Word2 b u l ∧ l.length = n) ∧ ds = [.lst (t.post.map Po.dL), .int (b : Nat), .int (u : Nat), .lst (ws.map wd)] ∧ d = .lst (ws.map (chD t b u))
/-- the keys of the table -/
def kc (cs : List Nat) : NestedKey := nk (.tup (cs.map fun (c : Nat) => .int (c : Int)))
theorem kc_inj : ∀ {a b : List Nat}, nks (a.map fun (c : Nat) => D.int (c : Int)) = nks (b.map fun (c : Nat) => D.int (c : Int)) → a = b
  | [], [], _ => rfl
  | [], q :: r, h => by cases h
  | q :: r, [], h => by cases h
  | q :: r, p :: s, h => by
    have h : NestedKey.num (q : Int) :: nks (r.map fun (c : Nat) => D.int (c : Int)) = NestedKey.num (p : Int) :: nks (s.map fun (c : Nat) => D.int (c : Int)) := h
    injection h with h1 h
    injection h1 with h1
    rw [kc_inj h, Int.ofNat.inj h1]
theorem kc_eq {a b : List Nat} (h : kc a = kc b) : a = b := by
  have e : NestedKey.tup (nks (a.map fun (c : Nat) => D.int (c : Int))) = .tup (nks (b.map fun (c : Nat) => D.int (c : Int))) := h
  injection e with e
  exact kc_inj e
theorem flat_cs : ∀ cs : List Nat, flatL (cs.map fun (c : Nat) => D.int (c : Int)) = true
  | [] => rfl
  | c :: r => flat_cs r
theorem depth_cs : ∀ cs : List Nat, NestedKey.depthAll (nks (cs.map fun (c : Nat) => D.int (c : Int))) = 0
  | [] => rfl
  | c :: r => by
    show max 0 (NestedKey.depthAll (nks (r.map fun (c : Nat) => D.int (c : Int)))) = 0
    rw [depth_cs r]
    rfl
theorem kc_dp (cs : List Nat) : (nk (.tup (cs.map fun (c : Nat) => .int (c : Int)))).depth ≤ 8 := by
  show NestedKey.depthAll _ + 1 ≤ 8
  rw [depth_cs]
  decide
/-- what the table holds -/
def KnOk (t : Tm) (N : Nat) (kvs : List NRowD) : Prop := ∀ (cs : List Nat) (d : D), valD kvs (kc cs) = some d → d = outQ (val (ptOf (cs.map fun (c : Nat) => Rat.divInt (c : Int) (N : Int))) t)
theorem kn_nil {t : Tm} {N : Nat} : KnOk t N [] := fun cs d e => by
  rw [valD_nil] at e
  cases e
theorem key_le {b u : Nat} {l : List Nat} (h : Word2 b u l) {j : Nat} (hj : j < 2 * u) {c : Nat} (hc : c ∈ keyI b u l j) : c ≤ b ^ l.length := by
  have hu := h.ok.wd
  have l0 := low_lt h.ok (i := 0) (by omega)
  unfold keyI at hc
  by_cases e : u = 1
  · rw [if_pos e, List.mem_singleton] at hc
    omega
  · rw [if_neg e] at hc
    have l1 := low_lt h.ok (i := 1) (by omega)
    simp only [List.mem_cons, List.not_mem_nil, or_false] at hc
    omega
theorem KnOk.put {t : Tm} {N : Nat} {kvs : List NRowD} (h : KnOk t N kvs) (cs : List Nat) : KnOk t N (putD kvs (kc cs) (outQ (val (ptOf (cs.map fun (c : Nat) => Rat.divInt (c : Int) (N : Int))) t))) := fun cs' d e => by
  rw [valD_put] at e
  by_cases q : kc cs' = kc cs
  · rw [if_pos q] at e
    rw [kc_eq q]
    exact (Option.some.inj e).symm
  · rw [if_neg q] at e
    exact h cs' d e
theorem horF_snoc (u : Nat) (x : Nat) : ∀ (l : List Nat) (s : Nat), horF u s (l ++ [x]) = horF u s l * u + x := fun l s => by
  unfold horF
  rw [List.foldl_append]
  rfl
theorem low_snoc (b u : Nat) (l : List Nat) (a i : Nat) : lowOf b u (l ++ [a]) i = b * lowOf b u l i + dig b u a i := by
  unfold lowOf hor
  rw [List.map_append, List.map_cons, List.map_nil, horF_snoc, Nat.mul_comm]
theorem rng_at {f : Nat → D} {n i : Nat} (h : i < n) : L2.atI ((List.range n).map f) (i : Int) = some (f i) := by
  refine L2.atI_nat ?_
  rw [List.getElem?_map, List.getElem?_range h]
  rfl
theorem cut1 (x : D) (r : List D) : Dl.cutD (x :: r) (some 1) none = r := by
  unfold Dl.cutD
  have e1 : HT.sIx (x :: r).length 0 (some 1) = 1 := by
    unfold HT.sIx
    simp
  have e2 : HT.sIx (x :: r).length (x :: r).length none = r.length + 1 := by
    unfold HT.sIx
    simp
  rw [e1, e2]
  show List.take (r.length + 1 - 1) r = _
  exact List.take_of_length_le (by omega)
theorem vals_none_mem {t : Tm} {cs : List (List Rat)} (h : vals t cs = none) : ∃ ps ∈ cs, val (ptOf ps) t = none := by
  obtain ⟨k, hk, _, h2, _⟩ := vals_none h
  exact ⟨_, List.getElem_mem hk, h2⟩
theorem vals_map {t : Tm} {cs : List (List Rat)} {qs : List Rat} (h : vals t cs = some qs) : cs.map (fun ps => outQ (val (ptOf ps) t)) = qs.map dq := by
  obtain ⟨h1, h2⟩ := vals_some h
  apply List.ext_getElem?
  intro i
  rw [List.getElem?_map, List.getElem?_map]
  by_cases hi : i < cs.length
  · have e2 := h2 i hi
    rw [List.getElem?_eq_getElem hi, ← e2]
    have hi2 : i < qs.length := by omega
    rw [List.getElem?_eq_getElem hi2] at e2
    show some (outQ (val (ptOf cs[i]) t)) = Option.map dq (val (ptOf cs[i]) t)
    rw [e2]
    rfl
  · rw [List.getElem?_eq_none (by omega), List.getElem?_eq_none (by omega)]
    rfl
theorem outQ_sh (o : Option Rat) {n : Nat} : SH (n + 1) (outQ o) := by
  cases o with
  | none => exact sh_non
  | some q =>
    refine sh_tup fun x hx => ?_
    simp only [List.mem_cons, List.not_mem_nil, or_false] at hx
    rcases hx with rfl | rfl <;> exact sh_int
section
variable {P : Program} {w : World} {K : PySem.W.Frag} {mg : Str → Option Value} {base : Heap}
theorem sc_law_lists : FnScope ["deeds", "base", "width", "words", "known", "word", "size", "found", "tops", "a", "ends", "i", "pair", "key", "x", "c"] ["deeds", "base", "width", "words"] (defScope s_law_lists) := ⟨rfl, rfl, rfl, by decide +kernel, rfl, by decide +kernel, by decide +kernel⟩
abbrev GL (P : Program) (w : World) (t : Tm) (b u n : Nat) (ws : List (List Nat)) (kvs : List NRowD) (s5 : Sl) (found : List D) (s8 s9 s10 s11 s12 s13 : Sl) : List Sl :=
  [.dat (.lst (t.post.map Po.dL)), .dat (.int (b : Nat)), .dat (.int (u : Nat)), .dat (.lst (ws.map wd)), dicS P w kvs, s5, .dat (.int (((b ^ n : Nat) : Int) + 1)), .own found, s8, s9, s10, s11, s12, s13, .no, .no]
theorem ok_law_lists (T : Txt K mg) : Cal P w K mg base "_law_lists" 5 (psp F_law_lists) := by
  have c_law_power := ok_law_power (P := P) (w := w) (base := base) T
  have c_law_digits := ok_law_digits (P := P) (w := w) (base := base) T
  have c_law_eval := ok_law_eval (P := P) (w := w) (base := base) T
  have c_law_frac := ok_law_frac (P := P) (w := w) (base := base) T
  have c_law_sub := ok_law_sub (P := P) (w := w) (base := base) T
  refine psp_mk T.d_law_lists T.g_law_lists sc_law_lists (fun _ _ _ _ _ _ us hl => match us, hl with | [_, _, _, _], _ => rfl) (fun ds d ⟨_, _, _, _, _, _, _, _, _, _, _, e, _⟩ => by rw [e] <;> rfl) (fun cdv A outer s H E hr => ⟨_, (pss_cons (ps_asg (pe_tup (pa_cons (pe_op (op_addK K) (pe_cal c_law_power (hr.mono (by decide)) rfl (pa_cons (pv 1) (pa_cons (pe_callB (call_lenK K) (by rfl) T.b_len (by decide +kernel) (pa_cons (pe_ix (ix_seqK K) (pv 3) pe_int (fun _ _ => rfl)) pa_nil)) pa_nil))) pe_int) (pa_cons (pe_lst pa_nil) pa_nil))) (pg_tupK K rfl (pgs_cons (pg_name (i := 6) sc_law_lists.nd rfl (Or.inr rfl)) (pgs_cons (pg_name (i := 7) sc_law_lists.nd rfl (Or.inl rfl)) pgs_nil))))
    (pss_cons (ps_set (i := 4) sc_law_lists.nd rfl (Or.inl rfl) pe_nnew)
    (pss_cons (ps_for PassesOwn.never rfl (pi_seqK K (pv 3)) (pg_name (i := 5) sc_law_lists.nd rfl (Or.inl rfl))
      (pss_cons (ps_set (i := 8) sc_law_lists.nd rfl (Or.inr rfl) (pe_op (op_mulK K) (pe_lst (pa_cons pe_int pa_nil)) (pv 2)))
        (pss_cons (ps_for PassesOwn.never rfl (pi_seqK K (pv 5)) (pg_name (i := 9) sc_law_lists.nd rfl (Or.inl rfl))
          (pss_cons (ps_set (i := 12) sc_law_lists.nd rfl (Or.inr rfl) (pe_cal c_law_digits (hr.mono (by decide)) rfl (pa_cons (pv 1) (pa_cons (pv 2) (pa_cons (pv 9) pa_nil)))))
            (pss_one (ps_set (i := 8) sc_law_lists.nd rfl (Or.inr rfl) (pe_lc (own := [("i", 11)]) (g := gName 11) rfl sc_law_lists.nd  (pi_range1 (by rfl) T.b_range (pa_cons (pv 2) pa_nil)) (blkOk_by (N := ["deeds", "base", "width", "words", "known", "word", "size", "found", "tops", "a", "ends", "i", "pair", "key", "x", "c"]) (sc := defScope s_law_lists) (by decide +kernel)) (fun _ _ _ _ _ => (pg_name (i := 11) sc_law_lists.nd rfl (Or.inl rfl))) (fun _ _ _ _ _ => pts_nil) (fun _ _ _ _ _ => (pe_op (op_addK K) (pe_op (op_mulK K) (pv 1) (pe_ix (ix_seqK K) (pv 8) (pv 11) (fun _ _ => rfl))) (pe_ix (ix_seqK K) (pv 12) (pv 11) (fun _ _ => rfl)))))))))
        (pss_cons (ps_set (i := 10) sc_law_lists.nd rfl (Or.inr rfl) (pe_lst pa_nil))
        (pss_cons (ps_for PassesOwn.never rfl (pi_range1 (by rfl) T.b_range (pa_cons (pe_op (op_mulK K) pe_int (pv 2)) pa_nil)) (pg_name (i := 11) sc_law_lists.nd rfl (Or.inl rfl))
          (pss_cons (ps_set (i := 13) sc_law_lists.nd rfl (Or.inl rfl) (pe_ifExp (pt_cmpR (op_eqK K hr.units) (pv 2) pe_int (nomark _)) (pe_tup (pa_cons (pe_op (op_addK K) (pe_ix (ix_seqK K) (pv 8) pe_int (fun _ _ => rfl)) (pv 11)) pa_nil)) (pe_tup (pa_cons (pe_op (op_addK K) (pe_ix (ix_seqK K) (pv 8) pe_int (fun _ _ => rfl)) (pe_op op_fdivU (pv 11) pe_int)) (pa_cons (pe_op (op_addK K) (pe_ix (ix_seqK K) (pv 8) pe_int (fun _ _ => rfl)) (pe_op op_modU (pe_callTy call_int1 (by rfl) T.b_int (by decide +kernel) (pa_cons (pv 11) pa_nil)) pe_int)) pa_nil)))))
            (pss_cons (ps_if (pt_cmp (pc_nnotin (hu65 hr) (pv 13) (pv 4)) (by with_unfolding_all rfl))
              (pss_one (ps_nput (hu65 hr) (pv 4) (pv 13) (pe_cal c_law_eval (hr.mono (by decide)) rfl (pa_cons (pv 0) (pa_cons (pe_callTy (call_tupleK K) (by rfl) T.b_tuple (by decide +kernel) (pa_cons (pe_lc (own := [("c", 15)]) (g := gName 15) rfl sc_law_lists.nd  (pi_seqK K (pv 13)) (blkOk_by (N := ["deeds", "base", "width", "words", "known", "word", "size", "found", "tops", "a", "ends", "i", "pair", "key", "x", "c"]) (sc := defScope s_law_lists) (by decide +kernel)) (fun _ _ _ _ _ => (pg_name (i := 15) sc_law_lists.nd rfl (Or.inl rfl))) (fun _ _ _ _ _ => pts_nil) (fun _ _ _ _ _ => (pe_cal c_law_frac (hr.mono (by decide)) rfl (pa_cons (pv 15) (pa_cons (pe_op op_sub (pv 6) pe_int) pa_nil))))) pa_nil)) pa_nil))) rfl))
              pss_nil)
            (pss_one (ps_expr (pe_bmK K PySem.F.plainAttrs_list PySem.F.slot_list_append PySem.F.type_list_append mt_append (pv 10) (pa_cons (pe_nget (hu65 hr) (pv 4) (pv 13) (fun _ _ => rfl)) pa_nil)))))))
        (pss_one (ps_expr (pe_bmK K PySem.F.plainAttrs_list PySem.F.slot_list_append PySem.F.type_list_append mt_append (pv 7) (pa_cons (pe_ifExp (pt_cmpR (op_inK K (hu65 hr)) pe_non (pv 10) (by with_unfolding_all rfl)) pe_non (pe_callTy (call_tupleK K) (by rfl) T.b_tuple (by decide +kernel) (pa_cons (pe_lc (own := [("x", 14)]) (g := gName 14) rfl sc_law_lists.nd  (pi_seqK K (pe_slice (sl_allK K) (pv 10) (po_some pe_int) po_none)) (blkOk_by (N := ["deeds", "base", "width", "words", "known", "word", "size", "found", "tops", "a", "ends", "i", "pair", "key", "x", "c"]) (sc := defScope s_law_lists) (by decide +kernel)) (fun _ _ _ _ _ => (pg_name (i := 14) sc_law_lists.nd rfl (Or.inl rfl))) (fun _ _ _ _ _ => pts_nil) (fun _ _ _ _ _ => (pe_cal c_law_sub (hr.mono (by decide)) rfl (pa_cons (pv 14) (pa_cons (pe_ix (ix_seqK K) (pv 10) pe_int (fun _ _ => rfl)) pa_nil))))) pa_nil))) pa_nil)))))))))
    (pss_one (ps_ret (pv 7)))))), ?_⟩)
  intro B0 H0 ds d h
  obtain ⟨t, b, u, n, ws, hn, ho, hwd, hf, hne, hk, rfl, rfl⟩ := h
  obtain ⟨w0, wr, ew⟩ : ∃ w0 wr, ws = w0 :: wr := by
    cases ws with
    | nil => exact absurd rfl hne
    | cons a r => exact ⟨a, r, rfl⟩
  have h0 : Word2 b u w0 ∧ w0.length = n := hk w0 (by rw [ew]; simp)
  have hu := h0.1.ok.wd
  have hb1 := h0.1.ok.b1
  have hb9 := h0.1.b9
  have hn12 : n ≤ 12 := by
    have := h0.1.n12
    omega
  have hN : b ^ n < 2 ^ 40 := by
    have h2 : b ^ n ≤ 9 ^ 12 := Nat.le_trans (Nat.pow_le_pow_left hb9 _) (Nat.pow_le_pow_right (by decide) hn12)
    have h3 : (9 : Nat) ^ 12 < 2 ^ 40 := by decide
    omega
  have e2u : (2 * (u : Int)).toNat = 2 * u := by omega
  show SS triv B0 H0 _ [.dat (.lst (t.post.map Po.dL)), .dat (.int (b : Nat)), .dat (.int (u : Nat)), .dat (.lst (ws.map wd)), .no, .no, .no, .no, .no, .no, .no, .no, .no, .no, .no, .no] _ _ _ _
  refine ss_seq (ss_tup2M (em_dat (d := .int (((b ^ n : Nat) : Int) + 1)) (ed_op (ed_call (ds := [.int (b : Nat), .int (n : Nat)]) (eda_cons (ed_var rfl) (eda_cons ((ed_lenT (ds := w0.map fun (a : Nat) => .int (a : Int)) (ed_op (ed_var rfl) ed_int (od_ixL (by rw [ew]; exact atI_hd)))).is (by rw [List.length_map, h0.2])) eda_nil)) ⟨b, n, rfl, by omega, by omega, rfl⟩) ed_int od_add) (em_own (ds := []) (edl_lst eda_nil) em_nil)) rfl ?_)
  refine ss_seq (ss_ndNew ?_)
  refine ss_seq (ssd_for (xs := ws.map wd) (P := fun i Γ => ∃ (kvs : List NRowD) (s5 s8 s9 s10 s11 s12 s13 : Sl), Γ = GL P w t b u n ws kvs s5 ((ws.take i).map (chD t b u)) s8 s9 s10 s11 s12 s13 ∧ KnOk t (b ^ n) kvs ∧ kvs.length ≤ 4 * i) (wid_seq (.inl rfl) (ed_var rfl)) ⟨[], .no, .no, .no, .no, .no, .no, .no, rfl, kn_nil, Nat.zero_le _⟩ ?_ ?_)
  · rintro i x Γ ex ⟨kvs, s5, s8, s9, s10, s11, s12, s13, rfl, hkn, hkl⟩
    rw [List.getElem?_map] at ex
    obtain ⟨l, el, rfl⟩ := Option.map_eq_some_iff.mp ex
    have hlm : l ∈ ws := List.mem_of_getElem? el
    have hi : i < ws.length := (List.getElem?_eq_some_iff.mp el).1
    obtain ⟨hw2, hll⟩ := hk l hlm
    have htk : ws.take (i + 1) = ws.take i ++ [l] := by
      rw [List.take_add_one, el]
      rfl
    refine ⟨[(5, wd l)], gs_name, ?_⟩
    show SS triv B0 H0 _ (GL P w t b u n ws kvs (.dat (wd l)) ((ws.take i).map (chD t b u)) s8 s9 s10 s11 s12 s13) _ _ _ _
    refine ss_seq (ssd_asg (d := .lst ((List.range u).map fun (k : Nat) => .int (lowOf b u ([] : List Nat) k : Nat))) ((ed_of_el (el_op (ed_of_el (edl_lst (eda_cons ed_int eda_nil))) (ed_var rfl) (ol_rep (by omega) (by omega) (by rw [List.length_cons, List.length_nil]; omega)))).is ?_) ?_)
    · rcases hu with rfl | rfl <;> rfl
    refine ss_seq (ssd_for (xs := l.map fun (a : Nat) => .int (a : Int)) (P := fun j Γ => ∃ s9 s12, Γ = GL P w t b u n ws kvs (.dat (wd l)) ((ws.take i).map (chD t b u)) (.dat (.lst ((List.range u).map fun (k : Nat) => .int (lowOf b u (l.take j) k : Nat)))) s9 s10 s11 s12 s13) (wid_seq (.inr rfl) (ed_var rfl)) ⟨_, _, rfl⟩ ?_ ?_)
    · rintro j x Γ ex ⟨s9, s12, rfl⟩
      rw [List.getElem?_map] at ex
      obtain ⟨a, ea, rfl⟩ := Option.map_eq_some_iff.mp ex
      have hjt : l.take (j + 1) = l.take j ++ [a] := by
        rw [List.take_add_one, ea]
        rfl
      refine ⟨[(9, .int (a : Int))], gs_name, ?_⟩
      show SS triv B0 H0 _ (GL P w t b u n ws kvs (.dat (wd l)) ((ws.take i).map (chD t b u)) (.dat (.lst ((List.range u).map fun (k : Nat) => .int (lowOf b u (l.take j) k : Nat)))) (.dat (.int (a : Int))) s10 s11 s12 s13) _ _ _ _
      refine ss_seq (ssd_asg (d := .tup ((List.range u).map fun k => .int (dig b u a k : Nat))) (ed_call (ds := [.int (b : Nat), .int (u : Nat), .int (a : Nat)]) (by walk_at "ed") ⟨b, u, a, rfl, hb1, by omega, hu, rfl⟩) ?_)
      refine ssd_asg (d := .lst ((List.range u).map fun (k : Nat) => .int (lowOf b u (l.take (j + 1)) k : Nat))) (ed_of_el (edl_map1 (xs := List.range u) (fun (k : Nat) => .int (0 + (k : Int))) _ (wid_rng1 (n := (u : Int)) (by walk_at "ed") (by omega) (by omega)) (by rw [List.length_range]; omega) fun k hk2 => ?_)) ⟨_, _, rfl⟩
      have hk3 : k < u := List.mem_range.mp hk2
      have hsz : Sz 60 ((lowOf b u (l.take j) k : Nat) : Int) := by
        have z := low_lt (l := l.take j) ⟨hw2.ok.b1, hw2.ok.b2, hw2.ok.wd, by have := hw2.ok.n; rw [List.length_take]; omega, fun a ha => hw2.ok.ok a (List.mem_of_mem_take ha)⟩ hk3
        have z2 : b ^ (l.take j).length ≤ b ^ n := Nat.pow_le_pow_right hb1 (by rw [List.length_take]; omega)
        unfold Sz
        rw [Int.natAbs_natCast]
        have : (2 : Nat) ^ 40 < 2 ^ 60 := by decide
        omega
      have hbs : Sz 60 (b : Int) := by
        unfold Sz
        rw [Int.natAbs_natCast]
        have : 9 < (2 : Nat) ^ 60 := by decide
        omega
      refine (ed_op (ed_op (ed_var rfl) (ed_op (ed_var rfl) (ed_var rfl) (od_ixL (d := .int (lowOf b u (l.take j) k : Nat)) ?_)) (od_mul (cm hbs hsz (by decide)))) (ed_op (ed_var rfl) (ed_var rfl) (od_ixT (d := .int (dig b u a k : Nat)) ?_)) od_add).is ?_
      · rw [Int.zero_add]
        exact rng_at (f := fun (k : Nat) => .int (lowOf b u (l.take j) k : Nat)) hk3
      · rw [Int.zero_add]
        exact rng_at (f := fun (k : Nat) => .int (dig b u a k : Nat)) hk3
      · rw [hjt, low_snoc, Int.natCast_add, Int.natCast_mul]
    · rintro Γ ⟨s9, s12, rfl⟩
      rw [List.length_map, List.take_length]
      refine ss_seq (ssd_asgO (edl_lst eda_nil) ?_)
      refine ss_seq (ssd_for (xs := rngD 0 (2 * (u : Int)).toNat) (P := fun j Γ => ∃ (kvs : List NRowD) (s11 s13 : Sl), Γ = GL P w t b u n ws kvs (.dat (wd l)) ((ws.take i).map (chD t b u)) (.dat (.lst ((List.range u).map fun (k : Nat) => .int (lowOf b u l k : Nat)))) s9 (.own ((List.range j).map fun k => outQ (val (ptOf (ptI b u l k)) t))) s11 s12 s13 ∧ KnOk t (b ^ n) kvs ∧ kvs.length ≤ 4 * i + j) (wid_rng1 (n := 2 * (u : Int)) (eda_cons (ed_op ed_int (ed_var rfl) (od_mul (cm (k := 60) (l := 60) (by unfold Sz; decide) (by unfold Sz; rw [Int.natAbs_natCast]; exact Nat.lt_of_le_of_lt (show u ≤ 2 by omega) (by decide)) (by decide)))) eda_nil) (by omega) (by omega)) ⟨kvs, _, _, rfl, hkn, by omega⟩ ?_ ?_)
      · rintro j x Γ ex ⟨kvs, s11, s13, rfl, hkn, hkl⟩
        obtain ⟨hj, rfl⟩ := rngD_at ex
        rw [e2u] at hj
        refine ⟨_, gs_name, ?_⟩
        rw [Int.zero_add]
        show SS triv B0 H0 _ (GL P w t b u n ws kvs (.dat (wd l)) ((ws.take i).map (chD t b u)) (.dat (.lst ((List.range u).map fun (k : Nat) => .int (lowOf b u l k : Nat)))) s9 (.own ((List.range j).map fun k => outQ (val (ptOf (ptI b u l k)) t))) (.dat (.int (j : Int))) s12 s13) _ _ _ _
        have at0 : L2.atI ((List.range u).map fun (k : Nat) => D.int (lowOf b u l k : Nat)) 0 = some (.int (lowOf b u l 0 : Nat)) := rng_at (f := fun (k : Nat) => D.int (lowOf b u l k : Nat)) (i := 0) (by omega)
        refine ss_seq (ssd_asg (d := .tup ((keyI b u l j).map fun (c : Nat) => .int (c : Int))) ?_ ?_)
        · by_cases h1 : u = 1
          · refine (ed_ifT (EB.is (eb_test (ed_op (ed_var rfl) ed_int od_eqi)) (by rw [h1]; rfl)) (ed_tup (eda_cons (ed_op (ed_op (ed_var rfl) ed_int (od_ixL at0)) (ed_var rfl) od_add) eda_nil))).is ?_
            unfold keyI
            rw [if_pos h1]
            rfl
          · have at1 : L2.atI ((List.range u).map fun (k : Nat) => D.int (lowOf b u l k : Nat)) 1 = some (.int (lowOf b u l 1 : Nat)) := rng_at (f := fun (k : Nat) => D.int (lowOf b u l k : Nat)) (i := 1) (by omega)
            refine (ed_ifF (EB.is (eb_test (ed_op (ed_var rfl) ed_int od_eqi)) (decide_eq_false (by omega))) (ed_tup (eda_cons (ed_op (ed_op (ed_var rfl) ed_int (od_ixL at0)) (ed_op (ed_var rfl) ed_int (od_div (by decide) (by decide))) od_add) (eda_cons (ed_op (ed_op (ed_var rfl) ed_int (od_ixL at1)) (ed_op (ed_cb (eda_cons (ed_var rfl) eda_nil) cd_int) ed_int (od_rem (by decide))) od_add) eda_nil)))).is ?_
            unfold keyI
            rw [if_neg h1]
            rfl
        have hpt : ptI b u l j = (keyI b u l j).map fun (c : Nat) => Rat.divInt (c : Int) ((b ^ n : Nat) : Int) := by
          unfold ptI
          rw [hll]
        have fin : ∀ (Bk Ct : List Sl → Prop) (kvs' : List NRowD), KnOk t (b ^ n) kvs' → kvs'.length ≤ 4 * i + (j + 1) → valD kvs' (kc (keyI b u l j)) = some (outQ (val (ptOf (ptI b u l j)) t)) →
            SS triv B0 H0 (tDrop (tBM K "list" rAppend (tVar 10) (tCons (tNGet P w (tVar 4) (tVar 13)) tNil))) (GL P w t b u n ws kvs' (.dat (wd l)) ((ws.take i).map (chD t b u)) (.dat (.lst ((List.range u).map fun (k : Nat) => .int (lowOf b u l k : Nat)))) s9 (.own ((List.range j).map fun k => outQ (val (ptOf (ptI b u l k)) t))) (.dat (.int (j : Int))) s12 (.dat (.tup ((keyI b u l j).map fun (c : Nat) => .int (c : Int)))))
              (fun Γ => ∃ (kvs : List NRowD) (s11 s13 : Sl), Γ = GL P w t b u n ws kvs (.dat (wd l)) ((ws.take i).map (chD t b u)) (.dat (.lst ((List.range u).map fun (k : Nat) => .int (lowOf b u l k : Nat)))) s9 (.own ((List.range (j + 1)).map fun k => outQ (val (ptOf (ptI b u l k)) t))) s11 s12 s13 ∧ KnOk t (b ^ n) kvs ∧ kvs.length ≤ 4 * i + (j + 1)) (fun x => x = .lst (ws.map (chD t b u))) Bk Ct := fun Bk Ct kvs' k1 k2 k3 => by
          refine ssd_append rfl (ed_ndGet (kvs := kvs') rfl (ed_var rfl) (flat_cs _) (kc_dp _) k3) (by rw [List.length_map, List.length_range]; omega) ⟨kvs', .dat (.int (j : Int)), .dat (.tup ((keyI b u l j).map fun (c : Nat) => .int (c : Int))), ?_, k1, k2⟩
          rw [List.range_succ, List.map_append]
          rfl
        have hkd : kc (keyI b u l j) = nk (.tup ((keyI b u l j).map fun (c : Nat) => .int (c : Int))) := rfl
        refine ss_seq (ssd_if (eb_test (ed_ndNotIn (kvs := kvs) (ds := (keyI b u l j).map fun (c : Nat) => .int (c : Int)) rfl (ed_var rfl) (flat_cs _) (kc_dp _))) (fun h => ?_) (fun h => ss_next ?_))
        · refine ss_ndPut (kvs := kvs) (ds := (keyI b u l j).map fun (c : Nat) => .int (c : Int)) (d := outQ (val (ptOf (ptI b u l j)) t)) rfl ?_ (ed_var rfl) (flat_cs _) (kc_dp _) (by omega) (fin _ _ _ ?_ ?_ ?_)
          · refine ed_call (ds := [.lst (t.post.map Po.dL), .tup ((keyI b u l j).map fun (c : Nat) => dq (Rat.divInt (c : Int) ((b ^ n : Nat) : Int)))]) (eda_cons (ed_var rfl) (eda_cons (ed_cb (eda_cons (ed_of_el (edl_map1 (xs := keyI b u l j) (fun (c : Nat) => .int (c : Int)) (fun (c : Nat) => dq (Rat.divInt (c : Int) ((b ^ n : Nat) : Int))) (wid_seq (.inr rfl) (ed_var rfl)) ?_ fun c hc => ?_)) eda_nil) (cd_tuple (.inl rfl))) eda_nil)) ⟨t, ptI b u l j, hn, ho, pt_corner hw2 hwd (by rw [corners_keys hu]; exact List.mem_map.mpr ⟨j, List.mem_range.mpr hj, rfl⟩), ?_, rfl⟩
            · unfold keyI
              split <;> simp
            · have hcl := key_le hw2 hj hc
              rw [hll] at hcl
              have hp0 : 0 < b ^ n := Nat.pos_of_ne_zero (by have := Nat.pow_pos (n := n) (show 0 < b by omega); omega)
              have hs1 : Sz 8000 (c : Int) := by
                unfold Sz
                rw [Int.natAbs_natCast]
                exact Nat.lt_of_le_of_lt hcl (Nat.lt_of_lt_of_le hN (Nat.pow_le_pow_right (by decide) (by decide)))
              have hs2 : Sz 8000 ((b ^ n : Nat) : Int) := by
                unfold Sz
                rw [Int.natAbs_natCast]
                exact Nat.lt_of_lt_of_le hN (Nat.pow_le_pow_right (by decide) (by decide))
              exact ed_call (ds := [.int (c : Int), .int ((b ^ n : Nat) : Int)]) (eda_cons (ed_var rfl) (eda_cons ((ed_op (ed_var rfl) ed_int od_sub).is (by rw [Int.add_sub_cancel])) eda_nil)) ⟨(c : Int), ((b ^ n : Nat) : Int), rfl, by omega, hs1, hs2, rfl⟩
            · rw [hpt]
              unfold ptD
              rw [List.map_map]
              rfl
          · rw [hpt]
            exact hkn.put _
          · have := putD_len kvs (kc (keyI b u l j)) (outQ (val (ptOf (ptI b u l j)) t))
            rw [← hkd]
            omega
          · rw [← hkd, valD_put, if_pos rfl]
        · refine fin _ _ kvs hkn (by omega) ?_
          rw [← hkd, Bool.not_eq_false'] at h
          obtain ⟨d, hd⟩ := Option.isSome_iff_exists.mp h
          rw [hd, hkn _ d hd, hpt]
      · rintro Γ ⟨kvs, s11, s13, rfl, hkn, hkl⟩
        rw [rngD_len, e2u] at hkl ⊢
        have eE : ((List.range (2 * u)).map fun k => outQ (val (ptOf (ptI b u l k)) t)) = (cornersQ b u l).map fun ps => outQ (val (ptOf ps) t) := by
          rw [corners_keys hu, List.map_map]
          rfl
        rw [eE]
        refine ss_freeze 10 rfl ?_
        show SS triv B0 H0 _ (GL P w t b u n ws kvs (.dat (wd l)) ((ws.take i).map (chD t b u)) (.dat (.lst ((List.range u).map fun (k : Nat) => .int (lowOf b u l k : Nat)))) s9 (.dat (.lst ((cornersQ b u l).map fun ps => outQ (val (ptOf ps) t)))) s11 s12 s13) _ _ _ _
        have hsh : ∀ x ∈ (cornersQ b u l).map (fun ps => outQ (val (ptOf ps) t)), SH 60 x := fun x hx => by
          obtain ⟨ps, _, rfl⟩ := List.mem_map.mp hx
          exact outQ_sh _
        refine ssd_append rfl (d := chD t b u l) ?_ (by rw [List.length_map, List.length_take]; omega) ⟨kvs, .dat (wd l), _, _, _, _, _, _, by rw [htk, List.map_append]; rfl, hkn, by omega⟩
        unfold chD chs chordsOf
        cases hv : vals t (cornersQ b u l) with
        | none =>
          obtain ⟨ps, hm, hps⟩ := vals_none_mem hv
          refine ed_ifT (EB.is (eb_test (ed_op ed_non (ed_var rfl) (od_nonIn hsh))) ?_) ed_non
          exact List.any_eq_true.mpr ⟨_, List.mem_map.mpr ⟨ps, hm, rfl⟩, by rw [hps]; rfl⟩
        | some qs =>
          have hE := vals_map hv
          obtain ⟨hq1, hq2⟩ := vals_some hv
          have hsz : ∀ q ∈ qs, Sq 3000 q := fun q hq => by
            obtain ⟨i, hi, e⟩ := List.mem_iff_getElem.mp hq
            have hi2 : i < (cornersQ b u l).length := by omega
            have e2 := hq2 i hi2
            rw [List.getElem?_eq_getElem hi, e] at e2
            have hm : (cornersQ b u l)[i] ∈ cornersQ b u l := List.getElem_mem _
            exact (val_sz _ t (pt_corner hw2 hwd hm) q e2).mono (Nat.le_trans (kz_le ho) (by decide))
          obtain ⟨cl, cne⟩ := corners_len hw2.ok
          rw [hE] at hsh ⊢
          match qs, hq1, hsz, hsh with
          | [], hq1, _, _ => exact absurd (List.eq_nil_of_length_eq_zero hq1.symm) cne
          | q :: r, hq1, hsz, hsh =>
            rw [List.length_cons] at hq1
            refine ed_ifF (EB.is (eb_test (ed_op ed_non (ed_var rfl) (od_nonIn hsh))) ?_) (EP.is (ed_cb (eda_cons (ed_of_el (edl_map1 (xs := r) dq (fun x => dq (x - q)) (by have z := wid_seq (R := triv) (K := K) (.inl rfl) (ed_of_el (el_slL (K := K) (R := triv) (Γ := GL P w t b u n ws kvs (.dat (wd l)) ((ws.take i).map (chD t b u)) (.dat (.lst ((List.range u).map fun (k : Nat) => .int (lowOf b u l k : Nat)))) s9 (.dat (.lst (dq q :: r.map dq))) s11 s12 s13) (te := tVar 10) (lo := some 1) (hi := none) (ed_var rfl) (edo_some ed_int) edo_none)); rw [cut1] at z; exact z) (by omega) fun x hx => ?_)) eda_nil) (cd_tuple (.inl rfl))) ?_)
            · rw [List.any_map, List.any_eq_false]
              intro x _
              exact Bool.false_ne_true
            · exact ed_call (ds := [dq x, dq q]) (eda_cons (ed_var rfl) (eda_cons (ed_op (ed_var rfl) ed_int (od_ixL atI_hd)) eda_nil)) ⟨x, q, rfl, hsz x (by simp [hx]), hsz q (by simp), rfl⟩
            · show _ = qsD (diffs (q :: r))
              unfold qsD diffs
              rw [List.map_map]
              rfl
  · rintro Γ ⟨kvs, s5, s8, s9, s10, s11, s12, s13, rfl, hkn, hkl⟩
    rw [List.length_map, List.take_length]
    refine ss_freeze 7 rfl ?_
    exact ssd_ret (ed_var rfl) rfl
end
end K82
set_option Elab.async false
set_option linter.all false
set_option maxRecDepth 100000
set_option maxHeartbeats 2000000
namespace K82
open PySem PySem.Spec PyProof.Rows L2 Evl Dl K82Head TL
local macro_rules | `(tactic| walk_at "ed") => `(tactic| first
  | exact ed_var rfl | exact ed_int | exact ed_str | exact ed_bl | exact ed_non | exact eda_nil | exact edo_none
  | exact od_add | exact od_sub | exact od_lt | exact od_le | exact od_gt | exact od_ge | exact od_eqi | exact od_nei | exact od_eqs | exact od_nes | exact od_isN | exact od_notN | exact cd_int | exact cd_abs | exact cd_max2 | exact cd_gcd
  | ((with_reducible apply eda_cons) <;> walk_at "ed") | ((with_reducible apply ed_op) <;> walk_at "ed") | ((with_reducible apply ed_cb) <;> walk_at "ed") | ((with_reducible apply eb_test) <;> walk_at "ed") | ((with_reducible apply eb_tru) <;> walk_at "ed") | ((with_reducible apply ed_tup) <;> walk_at "ed")
  | ((with_reducible apply ed_neg) <;> walk_at "ed") | ((with_reducible apply eb_not) <;> walk_at "ed") | ((with_reducible apply edl_lst) <;> walk_at "ed") | ((with_reducible apply edo_some) <;> walk_at "ed") | ((with_reducible apply ed_call) <;> walk_at "ed")
  | (apply od_mul; assumption) | (apply od_rem; omega) | (apply od_div <;> omega) | (apply od_ixT; rfl) | (apply od_ixL; rfl)
  | (with_reducible exact True.intro) | (simp; done) | skip)
/-! ### picking words whose chords differ -/
abbrev Wds := List (List Nat)
def pickStep (t : Tm) (b u most : Nat) (s : Wds × Wds) (l : List Nat) : Wds × Wds :=
  if (chs t b u l).isSome = true ∧ chs t b u l ∉ s.1.map (chs t b u) ∧ s.1.length < most then (s.1 ++ [l], s.2) else (s.1, s.2 ++ [l])
def pick (t : Tm) (b u most : Nat) (ws : Wds) : Wds × Wds := ws.foldl (pickStep t b u most) ([], [])
def F_law_picked (ds : List D) (d : D) : Prop := ∃ (t : Tm) (b u n most : Nat) (ws : Wds), t.post.length ≤ 100 ∧ opsN t.post ≤ 5 ∧ t.wid ≤ u ∧ ws.length ≤ 200 ∧ ws ≠ [] ∧ (∀ l ∈ ws, Word2 b u l ∧ l.length = n) ∧
  ds = [.lst (t.post.map Po.dL), .int (b : Nat), .int (u : Nat), .lst (ws.map wd), .int (most : Nat)] ∧ d = .tup [.lst ((pick t b u most ws).1.map wd), .lst ((pick t b u most ws).2.map wd)]
/-- the key of a list of chords -/
def kn (qs : List Rat) : NestedKey := nk (.tup (qs.map dq))
theorem kn_inj : ∀ {a b : List Rat}, nks (a.map dq) = nks (b.map dq) → a = b
  | [], [], _ => rfl
  | [], q :: r, h => by cases h
  | q :: r, [], h => by cases h
  | q :: r, p :: s, h => by
    have h : NestedKey.tup [.num q.num, .num (q.den : Int)] :: nks (r.map dq) = NestedKey.tup [.num p.num, .num (p.den : Int)] :: nks (s.map dq) := h
    injection h with h1 h
    injection h1 with h1
    injection h1 with h1 h2
    injection h1 with h1
    injection h2 with h2 _
    injection h2 with h2
    rw [kn_inj h, Rat.ext h1 (by omega)]
theorem kn_eq {a b : List Rat} (h : kn a = kn b) : a = b := by
  have e : NestedKey.tup (nks (a.map dq)) = .tup (nks (b.map dq)) := h
  injection e with e
  exact kn_inj e
theorem kn_nodup {L : List (List Rat)} : (L.map kn).Nodup ↔ L.Nodup := by
  unfold List.Nodup
  rw [List.pairwise_map]
  exact ⟨fun h => h.imp fun e z => e (by rw [z]), fun h => h.imp fun e z => e (kn_eq z)⟩
theorem flat_dq : ∀ qs : List Rat, flatL (qs.map dq) = true
  | [] => rfl
  | q :: r => flat_dq r
theorem depth_dq : ∀ qs : List Rat, NestedKey.depthAll (nks (qs.map dq)) ≤ 1
  | [] => by decide
  | q :: r => by
    show max 1 (NestedKey.depthAll (nks (r.map dq))) ≤ 1
    have := depth_dq r
    omega
theorem kn_dp (qs : List Rat) : (nk (.tup (qs.map dq))).depth ≤ 8 := by
  show NestedKey.depthAll _ + 1 ≤ 8
  have := depth_dq qs
  omega
section
variable {P : Program} {w : World} {K : PySem.W.Frag} {mg : Str → Option Value} {base : Heap}
theorem sc_law_picked : FnScope ["deeds", "base", "width", "words", "most", "lists", "k", "found", "seen", "other"] ["deeds", "base", "width", "words", "most"] (defScope s_law_picked) := ⟨rfl, rfl, rfl, by decide +kernel, rfl, by decide +kernel, by decide +kernel⟩
abbrev GP (P : Program) (w : World) (t : Tm) (b u most : Nat) (ws : Wds) (s6 : Sl) (found other : Wds) (kvs : List NRowD) : List Sl :=
  [.dat (.lst (t.post.map Po.dL)), .dat (.int (b : Nat)), .dat (.int (u : Nat)), .dat (.lst (ws.map wd)), .dat (.int (most : Nat)), .dat (.lst (ws.map (chD t b u))), s6, .own (found.map wd), dicS P w kvs, .own (other.map wd)]
theorem ok_law_picked (T : Txt K mg) : Cal P w K mg base "_law_picked" 6 (psp F_law_picked) := by
  have c_law_lists := ok_law_lists (P := P) (w := w) (base := base) T
  refine psp_mk T.d_law_picked T.g_law_picked sc_law_picked (fun _ _ _ _ _ _ us hl => match us, hl with | [_, _, _, _, _], _ => rfl) (fun ds d ⟨_, _, _, _, _, _, _, _, _, _, _, _, e, _⟩ => by rw [e] <;> rfl) (fun cdv A outer s H E hr => ⟨_, (pss_cons (ps_par3 (i := 7) (j := 8) (l := 9) (by rfl) sc_law_picked.nd rfl rfl rfl (by decide) (by decide) (by decide) rfl rfl rfl (pa_cons (pe_lst pa_nil) (pa_cons pe_nnew (pa_cons (pe_lst pa_nil) pa_nil))) (by rfl))
    (pss_cons (ps_set (i := 5) sc_law_picked.nd rfl (Or.inl rfl) (pe_cal c_law_lists (hr.mono (by decide)) rfl (pa_cons (pv 0) (pa_cons (pv 1) (pa_cons (pv 2) (pa_cons (pv 3) pa_nil))))))
    (pss_cons (ps_for PassesOwn.never rfl (pi_range1 (by rfl) T.b_range (pa_cons (pe_callB (call_lenK K) (by rfl) T.b_len (by decide +kernel) (pa_cons (pv 3) pa_nil)) pa_nil)) (pg_name (i := 6) sc_law_picked.nd rfl (Or.inl rfl))
      (pss_one (ps_if (PW.pt (pw_and (pt_cmpR op_notN (pe_ix (ix_seqK K) (pv 5) (pv 6) (fun _ _ => rfl)) pe_non (nomark _)) (pw_and (pt_cmp (pc_nnotin (hu65 hr) (pe_ix (ix_seqK K) (pv 5) (pv 6) (fun _ _ => rfl)) (pv 8)) (by with_unfolding_all rfl)) (pw_and1 (pt_cmpR op_lt (pe_callB (call_lenK K) (by rfl) T.b_len (by decide +kernel) (pa_cons (pv 7) pa_nil)) (pv 4) (nomark _))))))
          (pss_cons (ps_nput (hu65 hr) (pv 8) (pe_ix (ix_seqK K) (pv 5) (pv 6) (fun _ _ => rfl)) pe_int rfl)
            (pss_one (ps_expr (pe_bmK K PySem.F.plainAttrs_list PySem.F.slot_list_append PySem.F.type_list_append mt_append (pv 7) (pa_cons (pe_ix (ix_seqK K) (pv 3) (pv 6) (fun _ _ => rfl)) pa_nil)))))
          (pss_one (ps_expr (pe_bmK K PySem.F.plainAttrs_list PySem.F.slot_list_append PySem.F.type_list_append mt_append (pv 9) (pa_cons (pe_ix (ix_seqK K) (pv 3) (pv 6) (fun _ _ => rfl)) pa_nil)))))))
    (pss_one (ps_ret (pe_tup (pa_cons (pv 7) (pa_cons (pv 9) pa_nil)))))))), ?_⟩)
  intro B0 H0 ds d h
  obtain ⟨t, b, u, n, most, ws, hn, ho, hwd, hf, hne, hk, rfl, rfl⟩ := h
  show SS triv B0 H0 _ [.dat (.lst (t.post.map Po.dL)), .dat (.int (b : Nat)), .dat (.int (u : Nat)), .dat (.lst (ws.map wd)), .dat (.int (most : Nat)), .no, .no, .no, .no, .no] _ _ _ _
  refine ss_seq (ss_par3M (em_own (ds := []) (edl_lst eda_nil) (em_dic (em_own (ds := []) (edl_lst eda_nil) em_nil))) ?_)
  refine ss_seq (ssd_asg (d := .lst (ws.map (chD t b u))) (ed_call (ds := [.lst (t.post.map Po.dL), .int (b : Nat), .int (u : Nat), .lst (ws.map wd)]) (by walk_at "ed") ⟨t, b, u, n, ws, hn, ho, hwd, hf, hne, hk, rfl, rfl⟩) ?_)
  refine ss_seq (ssd_for (xs := rngD 0 ws.length) (P := fun i Γ => ∃ (s6 : Sl) (found other : Wds) (kvs : List NRowD), Γ = GP P w t b u most ws s6 found other kvs ∧ (ws.take i).foldl (pickStep t b u most) ([], []) = (found, other) ∧ found.length ≤ i ∧ other.length ≤ i ∧ (∀ l ∈ found, (chs t b u l).isSome = true) ∧ kvs.map (·.1) = found.map (fun l => kn ((chs t b u l).getD []))) (wid_rng1 (n := (ws.length : Int)) (eda_cons ((ed_lenL (ds := ws.map wd) (ed_var rfl)).is (by rw [List.length_map])) eda_nil) (by omega) (by omega)) ⟨.no, [], [], [], rfl, rfl, Nat.zero_le _, Nat.zero_le _, by simp, rfl⟩ ?_ ?_)
  · rintro i x Γ ex ⟨s6, found, other, kvs, rfl, hfo, hfl, hol, hfs, hkv⟩
    obtain ⟨hi, rfl⟩ := rngD_at ex
    refine ⟨_, gs_name, ?_⟩
    rw [Int.zero_add]
    show SS triv B0 H0 _ (GP P w t b u most ws (.dat (.int (i : Int))) found other kvs) _ _ _ _
    have el : ws[i]? = some ws[i] := List.getElem?_eq_getElem hi
    generalize hl0 : ws[i] = l at el
    have htk : ws.take (i + 1) = ws.take i ++ [l] := by
      rw [List.take_add_one, el]
      rfl
    have hst : (ws.take (i + 1)).foldl (pickStep t b u most) ([], []) = pickStep t b u most (found, other) l := by
      rw [htk, List.foldl_append, hfo]
      rfl
    have atL : L2.atI (ws.map (chD t b u)) (i : Int) = some (chD t b u l) := L2.atI_nat (by rw [List.getElem?_map, el]; rfl)
    have atW : L2.atI (ws.map wd) (i : Int) = some (wd l) := L2.atI_nat (by rw [List.getElem?_map, el]; rfl)
    have ixL : ED triv (tOp (rIx K) (tVar 5) (tVar 6)) (GP P w t b u most ws (.dat (.int (i : Int))) found other kvs) (chD t b u l) := ed_op (ed_var rfl) (ed_var rfl) (od_ixL atL)
    have other_ok : ¬ ((chs t b u l).isSome = true ∧ chs t b u l ∉ found.map (chs t b u) ∧ found.length < most) → ∀ (Bk Ct : List Sl → Prop), SS triv B0 H0 (tDrop (tBM K "list" rAppend (tVar 9) (tCons (tOp (rIx K) (tVar 3) (tVar 6)) tNil))) (GP P w t b u most ws (.dat (.int (i : Int))) found other kvs)
        (fun Γ => ∃ (s6 : Sl) (found other : Wds) (kvs : List NRowD), Γ = GP P w t b u most ws s6 found other kvs ∧ (ws.take (i + 1)).foldl (pickStep t b u most) ([], []) = (found, other) ∧ found.length ≤ i + 1 ∧ other.length ≤ i + 1 ∧ (∀ l ∈ found, (chs t b u l).isSome = true) ∧ kvs.map (·.1) = found.map (fun l => kn ((chs t b u l).getD []))) (fun x => x = .tup [.lst ((pick t b u most ws).1.map wd), .lst ((pick t b u most ws).2.map wd)]) Bk Ct := fun hno Bk Ct => by
      refine ssd_append rfl (ed_op (ed_var rfl) (ed_var rfl) (od_ixL atW)) (by rw [List.length_map]; omega) ⟨.dat (.int (i : Int)), found, other ++ [l], kvs, by dsimp only [GP]; rw [List.map_append]; rfl, ?_, by omega, by rw [List.length_append]; simp only [List.length_cons, List.length_nil]; omega, hfs, hkv⟩
      rw [hst]
      unfold pickStep
      rw [if_neg hno]
    cases hc : chs t b u l with
    | none =>
      have hD : chD t b u l = .non := by
        unfold chD
        rw [hc]
        rfl
      rw [hD] at ixL
      refine ssd_ifF (EB.is (eb_and (c := false) (eb_test (ed_op ixL ed_non od_notN)) (fun h => by cases h)) (by rfl)) (other_ok (fun z => by rw [hc] at z; cases z.1) _ _)
    | some qs =>
      have hD : chD t b u l = .tup (qs.map dq) := by
        unfold chD
        rw [hc]
        rfl
      rw [hD] at ixL
      have hmem : (valD kvs (kn qs)).isSome = decide (chs t b u l ∈ found.map (chs t b u)) := by
        rw [valD_mem, hkv]
        refine decide_eq_decide.mpr ⟨fun h => ?_, fun h => ?_⟩
        · obtain ⟨l', hl', e⟩ := List.mem_map.mp h
          refine List.mem_map.mpr ⟨l', hl', ?_⟩
          obtain ⟨qs', hq'⟩ := Option.isSome_iff_exists.mp (hfs l' hl')
          rw [hq'] at e ⊢
          have e2 : qs' = qs := kn_eq e
          rw [hc, e2]
        · obtain ⟨l', hl', e⟩ := List.mem_map.mp h
          refine List.mem_map.mpr ⟨l', hl', ?_⟩
          rw [e, hc]
          rfl
      refine ssd_if (eb_and (eb_test (ed_op ixL ed_non od_notN)) (fun _ => eb_and (eb_test (ed_ndNotIn (kvs := kvs) (ds := qs.map dq) rfl ixL (flat_dq _) (kn_dp _))) (fun _ => eb_test (ed_op (ed_lenO (ds := found.map wd) rfl) (ed_var rfl) od_lt)))) (fun h => ?_) (fun h => ?_)
      · rw [Bool.and_eq_true, Bool.and_eq_true, Bool.not_eq_true', decide_eq_true_eq, List.length_map] at h
        obtain ⟨_, h2, h3⟩ := h
        have h2 : (valD kvs (kn qs)).isSome = false := (Bool.not_eq_true' _).mp h2
        rw [hmem, decide_eq_false_iff_not] at h2
        have hpk : pickStep t b u most (found, other) l = (found ++ [l], other) := by
          unfold pickStep
          rw [if_pos ⟨by rw [hc]; rfl, h2, by show found.length < most; omega⟩]
        have hkl : kvs.length = found.length := by
          have z := congrArg List.length hkv
          rw [List.length_map, List.length_map] at z
          exact z
        refine ss_seq (ss_ndPut (kvs := kvs) (ds := qs.map dq) (d := .int 0) rfl ed_int ixL (flat_dq _) (kn_dp _) (by omega) ?_)
        show SS triv B0 H0 _ (GP P w t b u most ws (.dat (.int (i : Int))) found other (putD kvs (kn qs) (.int 0))) _ _ _ _
        refine ssd_append rfl (ed_op (ed_var rfl) (ed_var rfl) (od_ixL atW)) (by rw [List.length_map]; omega) ⟨.dat (.int (i : Int)), found ++ [l], other, putD kvs (kn qs) (.int 0), by dsimp only [GP]; rw [List.map_append]; rfl, by rw [hst, hpk], by rw [List.length_append]; simp only [List.length_cons, List.length_nil]; omega, by omega, ?_, ?_⟩
        · intro l' hl'
          rw [List.mem_append, List.mem_singleton] at hl'
          rcases hl' with hl' | rfl
          · exact hfs l' hl'
          · rw [hc]
            rfl
        · rw [putD_keys]
          unfold addK
          rw [if_neg, hkv, List.map_append, List.map_cons, List.map_nil, hc]
          · rfl
          · intro z
            have z2 := valD_mem (kn qs) kvs
            rw [hmem, decide_eq_false h2, decide_eq_true z] at z2
            cases z2
      · refine other_ok (fun z => ?_) _ _
        obtain ⟨_, z2, z3⟩ := z
        have e1 : (valD kvs (nk (.tup (qs.map dq)))).isSome = false := by
          show (valD kvs (kn qs)).isSome = false
          rw [hmem, decide_eq_false z2]
        rw [e1, List.length_map, decide_eq_true (by omega)] at h
        cases h
  · rintro Γ ⟨s6, found, other, kvs, rfl, hfo, hfl, hol, hfs, hkv⟩
    rw [rngD_len, List.take_length] at hfo
    refine ss_freeze 7 rfl ?_
    refine ss_freeze 9 rfl ?_
    refine ssd_ret (ed_tup (eda_cons (ed_var rfl) (eda_cons (ed_var rfl) eda_nil))) ?_
    unfold pick
    rw [hfo]
end
end K82
set_option Elab.async false
set_option linter.all false
set_option maxRecDepth 100000
set_option maxHeartbeats 2000000
namespace K82
open PySem PySem.Spec PyProof.Rows L2 Evl Dl K82Head TL
local macro_rules | `(tactic| walk_at "ed") => `(tactic| first
  | exact ed_var rfl | exact ed_int | exact ed_str | exact ed_bl | exact ed_non | exact eda_nil | exact edo_none
  | exact od_add | exact od_sub | exact od_lt | exact od_le | exact od_gt | exact od_ge | exact od_eqi | exact od_nei | exact od_eqs | exact od_nes | exact od_isN | exact od_notN | exact cd_int | exact cd_abs | exact cd_max2 | exact cd_gcd
  | ((with_reducible apply eda_cons) <;> walk_at "ed") | ((with_reducible apply ed_op) <;> walk_at "ed") | ((with_reducible apply ed_cb) <;> walk_at "ed") | ((with_reducible apply eb_test) <;> walk_at "ed") | ((with_reducible apply eb_tru) <;> walk_at "ed") | ((with_reducible apply ed_tup) <;> walk_at "ed")
  | ((with_reducible apply ed_neg) <;> walk_at "ed") | ((with_reducible apply eb_not) <;> walk_at "ed") | ((with_reducible apply edl_lst) <;> walk_at "ed") | ((with_reducible apply edo_some) <;> walk_at "ed") | ((with_reducible apply ed_call) <;> walk_at "ed")
  | (apply od_mul; assumption) | (apply od_rem; omega) | (apply od_div <;> omega) | (apply od_ixT; rfl) | (apply od_ixL; rfl)
  | (with_reducible exact True.intro) | (simp; done) | skip)
theorem num_dq : ∀ qs : List Rat, NS.numKs (nks (qs.map dq)) = true
  | [] => rfl
  | q :: r => num_dq r
theorem keyD_qs (qs : List Rat) : KeyD (qsD qs) := ⟨qs.map dq, rfl, flat_dq qs, kn_dp qs, num_dq qs⟩
theorem mem_fold : ∀ (ks acc : List NestedKey) (k : NestedKey), k ∈ ks.foldl addK acc ↔ k ∈ acc ∨ k ∈ ks
  | [], acc, k => by simp
  | j :: ks, acc, k => by
    rw [List.foldl_cons, mem_fold ks (addK acc j) k]
    have : k ∈ addK acc j ↔ k ∈ acc ∨ k = j := by
      unfold addK
      by_cases h : j ∈ acc
      · rw [if_pos h]
        exact ⟨.inl, fun z => z.elim id fun e => e ▸ h⟩
      · rw [if_neg h, List.mem_append, List.mem_singleton]
    rw [this, List.mem_cons, or_assoc]
theorem nodup_fold : ∀ (ks acc : List NestedKey), acc.Nodup → (ks.foldl addK acc).Nodup
  | [], acc, h => h
  | j :: ks, acc, h => by
    rw [List.foldl_cons]
    refine nodup_fold ks _ ?_
    unfold addK
    by_cases hj : j ∈ acc
    · rw [if_pos hj]
      exact h
    · rw [if_neg hj]
      refine List.nodup_append.mpr ⟨h, by simp, fun a ha b hb e => ?_⟩
      rw [List.mem_singleton] at hb
      exact hj (by rw [← hb, ← e]; exact ha)
def F_law_judge (ds : List D) (d : D) : Prop := ∃ (t : Tm) (b u : Nat) (ws : Wds) (m : Int), t.post.length ≤ 100 ∧ opsN t.post ≤ 5 ∧ t.wid ≤ u ∧ ws.length ≤ 17 ∧ (∀ l ∈ ws, Word2 b u l) ∧
  ds = [.lst (t.post.map Po.dL), .int (b : Nat), .int (u : Nat), .lst (ws.map wd), .int m] ∧ d = .bl (takesB t b u ws m)
section
variable {P : Program} {w : World} {K : PySem.W.Frag} {mg : Str → Option Value} {base : Heap}
theorem sc_law_judge : FnScope ["deeds", "base", "width", "words", "many", "found", "word"] ["deeds", "base", "width", "words", "many"] (defScope s_law_judge) := ⟨rfl, rfl, rfl, by decide +kernel, rfl, by decide +kernel, by decide +kernel⟩
theorem ok_law_judge (T : Txt K mg) : Cal P w K mg base "_law_judge" 6 (psp F_law_judge) := by
  have c_law_lists := ok_law_lists (P := P) (w := w) (base := base) T
  refine psp_mk T.d_law_judge T.g_law_judge sc_law_judge (fun _ _ _ _ _ _ us hl => match us, hl with | [_, _, _, _, _], _ => rfl) (fun ds d ⟨_, _, _, _, _, _, _, _, _, _, e, _⟩ => by rw [e] <;> rfl) (fun cdv A outer s H E hr => ⟨_, (pss_cons (ps_if (PW.pt (pw_or (pt_cmpR op_lt (pv 4) pe_int (nomark _)) (pw_or (pt_cmpR (op_neK K hr.units) (pe_callB (call_lenK K) (by rfl) T.b_len (by decide +kernel) (pa_cons (pv 3) pa_nil)) (pe_op (op_addK K) (pv 4) pe_int) (nomark _)) (pw_or1 (pt_not (pt_truthK K (pe_callB (call_allK K) (by rfl) T.b_all (by decide +kernel) (pa_cons (pe_lc (own := [("word", 6)]) (g := gName 6) rfl sc_law_judge.nd  (pi_seqK K (pv 3)) (blkOk_by (N := ["deeds", "base", "width", "words", "many", "found", "word"]) (sc := defScope s_law_judge) (by decide +kernel)) (fun _ _ _ _ _ => (pg_name (i := 6) sc_law_judge.nd rfl (Or.inl rfl))) (fun _ _ _ _ _ => pts_nil) (fun _ _ _ _ _ => (pe_cmpR (op_eqK K hr.units) (pe_callB (call_lenK K) (by rfl) T.b_len (by decide +kernel) (pa_cons (pv 6) pa_nil)) (pe_callB (call_lenK K) (by rfl) T.b_len (by decide +kernel) (pa_cons (pe_ix (ix_seqK K) (pv 3) pe_int (fun _ _ => rfl)) pa_nil)) (nomark _)))) pa_nil)) (by intro _; rfl)))))))
      (pss_one (ps_ret pe_bl))
      pss_nil)
    (pss_cons (ps_set (i := 5) sc_law_judge.nd rfl (Or.inl rfl) (pe_cal c_law_lists (hr.mono (by decide)) rfl (pa_cons (pv 0) (pa_cons (pv 1) (pa_cons (pv 2) (pa_cons (pv 3) pa_nil))))))
    (pss_one (ps_ret (pe_and (pe_cmpR (op_niK K (hu65 hr)) pe_non (pv 5) (by with_unfolding_all rfl)) (pe_one (pe_cmpR (op_eqK K hr.units) (pe_lenSetN rfl (hu65 hr) (by rfl) T.b_len (by rfl) T.b_set (pv 5)) (pe_op (op_addK K) (pv 4) pe_int) (nomark _)))))))), ?_⟩)
  intro B0 H0 ds d h
  obtain ⟨t, b, u, ws, m, hn, ho, hwd, hf, hk, rfl, rfl⟩ := h
  show SS triv B0 H0 _ [.dat (.lst (t.post.map Po.dL)), .dat (.int (b : Nat)), .dat (.int (u : Nat)), .dat (.lst (ws.map wd)), .dat (.int m), .no, .no] _ _ _ _
  have lenW : ED triv (tCB (fun xs H Q => ∃ x n, xs = [x] ∧ LenV K x H n ∧ Q (.int n) H) (tCons (tVar 3) tNil)) [.dat (.lst (t.post.map Po.dL)), .dat (.int (b : Nat)), .dat (.int (u : Nat)), .dat (.lst (ws.map wd)), .dat (.int m), .no, .no] (.int (ws.length : Nat)) := (ed_lenL (ds := ws.map wd) (ed_var rfl)).is (by rw [List.length_map])
  by_cases hA : m < 1 ∨ (ws.length : Int) ≠ m + 1
  · have hT : takesB t b u ws m = false := by
      unfold takesB
      rw [if_pos hA]
    rw [hT]
    refine ss_seq (ssd_ifT (EB.is (eb_or (c := true) (eb_test (ed_op (ed_var rfl) ed_int od_lt)) (fun h => EB.is (eb_or (c := true) (eb_test (ed_op lenW (ed_op (ed_var rfl) ed_int od_add) od_nei)) (fun h2 => ?_)) (Bool.or_true _))) (Bool.or_true _)) (ssd_ret ed_bl rfl))
    rw [decide_eq_false_iff_not] at h
    rw [Bool.not_eq_false', decide_eq_true_eq] at h2
    exact absurd hA (fun z => z.elim h fun q => q h2)
  · have hm1 : ¬ m < 1 := fun z => hA (.inl z)
    have hm2 : (ws.length : Int) = m + 1 := Classical.byContradiction fun z => hA (.inr z)
    obtain ⟨w0, wr, ew⟩ : ∃ w0 wr, ws = w0 :: wr := by
      cases ws with
      | nil =>
        rw [List.length_nil] at hm2
        omega
      | cons a r => exact ⟨a, r, rfl⟩
    have hd0 : ws.headD [] = w0 := by rw [ew]; rfl
    refine ss_seq (ssd_if (b := !(ws.all fun l => decide ((l.length : Int) = (w0.length : Int)))) (EB.is (eb_or (eb_test (ed_op (ed_var rfl) ed_int od_lt)) (fun _ => eb_or (eb_test (ed_op lenW (ed_op (ed_var rfl) ed_int od_add) od_nei)) (fun _ => eb_not (eb_tru (ed_cb (eda_cons (ed_of_el (edl_map1 (xs := ws) wd (fun l => .bl (decide ((l.length : Int) = (w0.length : Int)))) (wid_seq (.inl rfl) (ed_var rfl)) (by omega) fun l _ => ?_)) eda_nil) cd_allM))))) ?_) (fun h => ssd_ret ed_bl ?_) (fun h => ss_next ?_))
    · have l1 : ED triv (tCB (fun xs H Q => ∃ x n, xs = [x] ∧ LenV K x H n ∧ Q (.int n) H) (tCons (tVar 6) tNil)) [.dat (.lst (t.post.map Po.dL)), .dat (.int (b : Nat)), .dat (.int (u : Nat)), .dat (.lst (ws.map wd)), .dat (.int m), .no, .dat (wd l)] (.int (l.length : Nat)) := (ed_lenT (ds := l.map fun (a : Nat) => .int (a : Int)) (ed_var rfl)).is (by rw [List.length_map])
      have l2 : ED triv (tCB (fun xs H Q => ∃ x n, xs = [x] ∧ LenV K x H n ∧ Q (.int n) H) (tCons (tOp (rIx K) (tVar 3) (tC (.int 0))) tNil)) [.dat (.lst (t.post.map Po.dL)), .dat (.int (b : Nat)), .dat (.int (u : Nat)), .dat (.lst (ws.map wd)), .dat (.int m), .no, .dat (wd l)] (.int (w0.length : Nat)) := (ed_lenT (ds := w0.map fun (a : Nat) => .int (a : Int)) (ed_op (ed_var rfl) ed_int (od_ixL (by rw [ew]; exact atI_hd)))).is (by rw [List.length_map])
      exact ed_op l1 l2 od_eqi
    · rw [decide_eq_false hm1, decide_eq_true hm2]
      rfl
    · have e : ws.any (fun l => !decide ((l.length : Int) = ((ws.headD []).length : Int))) = true := by
        rw [hd0, ← h, List.not_all_eq_any_not]
      unfold takesB
      rw [if_neg hA, if_pos e]
    · have e : ¬ ws.any (fun l => !decide ((l.length : Int) = ((ws.headD []).length : Int))) = true := by
        rw [hd0, ← List.not_all_eq_any_not, h]
        decide
      have hT : takesB t b u ws m = (ws.all (fun l => (chs t b u l).isSome) && decide ((ws.map fun l => (chs t b u l).getD []).Nodup)) := by
        unfold takesB
        rw [if_neg hA, if_neg e]
      rw [hT]
      rw [Bool.not_eq_false', List.all_eq_true] at h
      have hlen : ∀ l ∈ ws, l.length = w0.length := fun l hl => by
        have z := of_decide_eq_true (h l hl)
        omega
      refine ss_seq (ssd_asg (d := .lst (ws.map (chD t b u))) (ed_call (ds := [.lst (t.post.map Po.dL), .int (b : Nat), .int (u : Nat), .lst (ws.map wd)]) (by walk_at "ed") ⟨t, b, u, w0.length, ws, hn, ho, hwd, by omega, by rw [ew]; simp, fun l hl => ⟨hk l hl, hlen l hl⟩, rfl, rfl⟩) ?_)
      have isN : ∀ l, isNonD (chD t b u l) = !(chs t b u l).isSome := fun l => by
        unfold chD
        cases chs t b u l <;> rfl
      have hsh : ∀ x ∈ ws.map (chD t b u), SH 60 x := fun x hx => by
        obtain ⟨l, _, rfl⟩ := List.mem_map.mp hx
        unfold chD
        cases chs t b u l with
        | none => exact sh_non
        | some qs =>
          refine sh_tup (n := 59) fun y hy => ?_
          obtain ⟨q, _, rfl⟩ := List.mem_map.mp hy
          exact outQ_sh (some q)
      have hany : (!(ws.map (chD t b u)).any isNonD) = ws.all (fun l => (chs t b u l).isSome) := by
        rw [List.any_map, List.not_any_eq_all_not]
        congr 1
        funext l
        show (!isNonD (chD t b u l)) = _
        rw [isN, Bool.not_not]
      refine ssd_ret (ed_andV ((ed_op ed_non (ed_var rfl) (od_nonNi hsh)).is (by rw [hany])) (fun hall => (ed_op (ed_lenSetN (xs := ws.map (chD t b u)) (c := ((ws.map (chD t b u)).map nk |>.foldl addK []).length) (ed_var rfl) ?_ (by rw [List.length_map]; exact hf) ?_) (ed_op (ed_var rfl) ed_int od_add) od_eqi).is ?_)) rfl
      · intro x hx
        obtain ⟨l, hl, rfl⟩ := List.mem_map.mp hx
        obtain ⟨qs, hq⟩ := Option.isSome_iff_exists.mp (List.all_eq_true.mp hall l hl)
        unfold chD
        rw [hq]
        exact keyD_qs qs
      · intro D h1 h2
        exact nodup_same h1 (nodup_fold _ _ List.nodup_nil) fun k => by rw [h2 k, mem_fold]; simp
      · have ek : (ws.map (chD t b u)).map nk = (ws.map fun l => (chs t b u l).getD []).map kn := by
          rw [List.map_map, List.map_map]
          refine List.map_congr_left fun l hl => ?_
          obtain ⟨qs, hq⟩ := Option.isSome_iff_exists.mp (List.all_eq_true.mp hall l hl)
          show nk (chD t b u l) = kn ((chs t b u l).getD [])
          unfold chD
          rw [hq]
          rfl
        rw [ek]
        have e2 := (fold_len ((ws.map fun l => (chs t b u l).getD []).map kn) []).2
        rw [List.length_map, List.length_map, List.length_nil, Nat.zero_add, kn_nodup] at e2
        congr 1
        refine decide_eq_decide.mpr ⟨fun z => (e2.mp (by omega)).1, fun z => ?_⟩
        rw [e2.mpr ⟨z, by simp⟩]
        exact hm2
end
end K82
set_option Elab.async false
set_option linter.all false
set_option maxRecDepth 100000
set_option maxHeartbeats 2000000
namespace K82
open PySem PySem.Spec PyProof.Rows L2 Evl Dl K82Head TL
local macro_rules | `(tactic| walk_at "ed") => `(tactic| first
  | exact ed_var rfl | exact ed_int | exact ed_str | exact ed_bl | exact ed_non | exact eda_nil | exact edo_none
  | exact od_add | exact od_sub | exact od_lt | exact od_le | exact od_gt | exact od_ge | exact od_eqi | exact od_nei | exact od_eqs | exact od_nes | exact od_isN | exact od_notN | exact cd_int | exact cd_abs | exact cd_max2 | exact cd_gcd
  | ((with_reducible apply eda_cons) <;> walk_at "ed") | ((with_reducible apply ed_op) <;> walk_at "ed") | ((with_reducible apply ed_cb) <;> walk_at "ed") | ((with_reducible apply eb_test) <;> walk_at "ed") | ((with_reducible apply eb_tru) <;> walk_at "ed") | ((with_reducible apply ed_tup) <;> walk_at "ed")
  | ((with_reducible apply ed_neg) <;> walk_at "ed") | ((with_reducible apply eb_not) <;> walk_at "ed") | ((with_reducible apply edl_lst) <;> walk_at "ed") | ((with_reducible apply edo_some) <;> walk_at "ed") | ((with_reducible apply ed_call) <;> walk_at "ed")
  | (apply od_mul; assumption) | (apply od_rem; omega) | (apply od_div <;> omega) | (apply od_ixT; rfl) | (apply od_ixL; rfl)
  | (with_reducible exact True.intro) | (simp; done) | skip)
def tWhen (p : Prop) (t : TS) : TS := fun D σ H => p ∧ t D σ H
theorem pss_when {X : Cx} {b : List Stmt} {p : Prop} {t : TS} (h : p → PSs X b t) : PSs X b (tWhen p t) := ⟨fun pins s σ H D I q => (h q.1).run pins s σ H D I q.2⟩
theorem isx {K : PySem.W.Frag} {mg : Str → Option Value} (T : Txt K mg) : ExcC K (He.ga K "Unlike") ∧ PySem.W.kitOne K (.ref (He.ga K "Unlike")) (.ref (He.ga K "NoValue")) = some false ∧ PySem.W.kitOne K (.ref (He.ga K "Unlike")) (.ref (He.ga K "TooMany")) = some false := by
  obtain ⟨_, h⟩ := He.ba (He.ba T.x).2
  obtain ⟨h1, h2⟩ := He.ba h
  obtain ⟨h3, h4⟩ := He.ba h2
  have xf := (exc_of (exs T).1).2
  unfold isxB at h1
  obtain ⟨g1, g⟩ := He.ba h1
  obtain ⟨g2, g⟩ := He.ba g
  obtain ⟨g3, g4⟩ := He.ba g
  exact ⟨⟨xf.ga, xf.gg, xf.exC, xf.hdC, He.eqO_ok g1, He.eqO_ok g2, of_decide_eq_true g3, of_decide_eq_true g4⟩, of_decide_eq_true h3, of_decide_eq_true h4⟩
section
variable {P : Program} {w : World} {K : PySem.W.Frag} {mg : Str → Option Value} {base : Heap}
theorem sc_law_called : FnScope ["goal", "bar", "many", "e"] ["goal", "bar", "many"] (defScope s_law_called) := ⟨rfl, rfl, rfl, by decide +kernel, rfl, by decide +kernel, by decide +kernel⟩
def F_law_called (K : PySem.W.Frag) (ds : List D) (d : D) : Prop := ∃ a : TkT, a.pre ∧ ds = a.args K ∧ d = match whyNot a.r a.t a.u with
  | none => .bl (takesB a.t a.b a.u a.ws a.m)
  | some z => .tup [.str "Unlike", .str z, .bl false]
theorem takes_no {X : Cx} : Takes X (fun _ _ _ _ => False) := fun u s' ⟨_, _, _, _, _, _, _, _, _, _, _, _, _, _, _, _, w⟩ => w.elim
def calledT (K : PySem.W.Frag) (a : Addr) (cls : Value) (d : Option Addr) : TE := tTup (tCons (tC (.str "Unlike")) (tCons (tXf a cls d (He.ga K "Unlike") "what" (tVar 3)) (tCons (tOrV (tCB (rIsX K (He.ga K "Unlike") a d) (tCons (tVar 3) (tCons (tC (.ref (He.ga K "NoValue"))) tNil))) (tCB (rIsX K (He.ga K "Unlike") a d) (tCons (tVar 3) (tCons (tC (.ref (He.ga K "TooMany"))) tNil)))) tNil)))
theorem ok_law_called (T : Txt K mg) : Cal P w K mg base "_law_called" 8 (psp (F_law_called K)) := by
  have c_takes_bar := ok_takes_bar (P := P) (w := w) (base := base) T
  obtain ⟨xc, k1, k2⟩ := isx T
  have xf := (exc_of (exs T).1).2
  refine psp_mk T.d_law_called T.g_law_called sc_law_called (fun _ _ _ _ _ _ us hl => match us, hl with | [_, _, _], _ => rfl) (fun ds d ⟨_, _, e, _⟩ => by rw [e] <;> rfl) (fun cdv A outer s H E hr => ⟨_, pss_one (ps_try_as (c := .ref (He.ga K "Unlike")) (i := 3) (Wout := fun _ _ _ _ => False) (ts := fun a cls d => tWhen (cls = .ref (He.ga K "Unlike")) (tRet (calledT K a cls d))) rfl rfl sc_law_called.nd rfl rfl ⟨rfl, by decide, .inl T.g_Unlike⟩ takes_no (fun W pn xe tk _ => pss_one (ps_ret (pe_xcalS c_takes_bar (hr.mono (by decide)) rfl (fun σ => passAt tk σ) (pa_cons (pv 0) (pa_cons (pv 1) (pa_cons (pv 2) pa_nil)))))) (fun a oe cls d pn hz hd => pss_when fun e => ?_)), ?_⟩)
  · subst e
    exact pss_one (ps_ret (pe_tup (pa_cons pe_str (pa_cons (pe_xf xf T.na_Unlike_what hz hd (pv 3)) (pa_cons (pe_or (pe_callB (call_isX xc hz hd) (by rfl) T.b_isinstance (by decide +kernel) (pa_cons (pv 3) (pa_cons (pe_glob (v := .ref (He.ga K "NoValue")) rfl T.g_NoValue rfl) pa_nil))) (pe_one (pe_callB (call_isX xc hz hd) (by rfl) T.b_isinstance (by decide +kernel) (pa_cons (pv 3) (pa_cons (pe_glob (v := .ref (He.ga K "TooMany")) rfl T.g_TooMany rfl) pa_nil))))) pa_nil)))))
  intro B0 H0 ds d h
  obtain ⟨⟨r, t, b, u, ws, m⟩, hp, rfl, rfl⟩ := h
  show SS triv B0 H0 _ [.dat (targetD K r t), .dat (barD K b u ws), .dat (.int m), .no] _ _ _ _
  have args : EDA triv (tCons (tVar 0) (tCons (tVar 1) (tCons (tVar 2) tNil))) [.dat (targetD K r t), .dat (barD K b u ws), .dat (.int m), .no] (TkT.args K ⟨r, t, b, u, ws, m⟩) := eda_cons (ed_var rfl) (eda_cons (ed_var rfl) (eda_cons (ed_var rfl) eda_nil))
  cases hw : whyNot r t u with
  | none =>
    have hz : TkT.res ⟨r, t, b, u, ws, m⟩ = some (.bl (takesB t b u ws m)) := by
      show (if whyNot r t u = none then some (D.bl (takesB t b u ws m)) else none) = _
      rw [if_pos hw]
    exact fun B σ H En a n rt bb c => ssd_ret (Rt := fun x => x = .bl (takesB t b u ws m)) (N := fun _ => False) (Bk := fun _ => False) (Ct := fun _ => False) (ed_xcalS (ds := TkT.args K ⟨r, t, b, u, ws, m⟩) args ⟨⟨r, t, b, u, ws, m⟩, hp, rfl, hz⟩) rfl B σ H En a (fun _ _ _ _ z => z.elim) rt (fun _ _ _ _ z => z.elim) (fun _ _ _ _ z => z.elim)
  | some z =>
    have hz : TkT.res ⟨r, t, b, u, ws, m⟩ = none := by
      show (if whyNot r t u = none then some (D.bl (takesB t b u ws m)) else none) = _
      rw [hw, if_neg (by simp)]
    intro B σ H En a n rt bb c
    unfold tRet tCallS
    dsimp only
    refine args B0 H0 B H σ a _ fun vs ds' B2 H2 g2 s i => ?_
    subst s
    refine ⟨B2, _, g2.fz.sub, i, .inr ⟨He.ga K "Unlike", "what", .str z, ⟨⟨r, t, b, u, ws, m⟩, hp, rfl, hz, rfl, rfl, ?_⟩, fun B3 H3 dd v g3 hd iv => ⟨true, T.ex_Unlike_Unlike, fun _ a0 ha0 => ⟨rfl, ?_⟩, fun z => by cases z⟩⟩⟩
    · show D.str z = D.str ((whyNot r t u).getD "")
      rw [hw]
      rfl
    · have a3 := ((a.step g2).step g3).put (i := 3) (s := .at_ (.ref a0)) (o := some (.ref a0)) rfl rfl
      have v3 : (σ.set 3 (some (.ref a0)))[3]? = some (some (.ref a0)) := a3.raw rfl
      have hv := is_str.mp iv
      refine ⟨_, v3, rfl, rfl, dd, _, v, rfl, hd, rfl, ?_⟩
      refine ⟨_, v3, .ref (He.ga K "NoValue"), _, false, dd, _, rfl, rfl, hd, fun u e => e, k1, false, rfl, ?_⟩
      refine ⟨_, v3, .ref (He.ga K "TooMany"), _, false, dd, _, rfl, rfl, hd, fun u e => e, k2, ?_⟩
      refine ⟨sz_of (by simp), fun p hp => ?_⟩
      have gn := Go.newF (o := .tup [.str "Unlike", v, .bl false]) a3.fz hp
      refine rt (.ref p) (.tup [.str "Unlike", .str z, .bl false]) _ _ ?_ (Go.trans a3.f0 a3.go gn) (is_tup.mpr ⟨p, _, rfl, upd_same, isl_mk (is_str.mpr rfl) (isl_mk (is_str.mpr hv) (isl_mk (is_bl.mpr rfl) (isl_nil.mpr rfl)))⟩)
      rfl
end
end K82
set_option Elab.async false
set_option linter.all false
set_option maxRecDepth 100000
set_option maxHeartbeats 2000000
namespace K82
open PySem PySem.Spec PyProof.Rows L2 Evl Dl K82Head TL
local macro_rules | `(tactic| walk_at "ed") => `(tactic| first
  | exact ed_var rfl | exact ed_int | exact ed_str | exact ed_bl | exact ed_non | exact eda_nil | exact edo_none
  | exact od_add | exact od_sub | exact od_lt | exact od_le | exact od_gt | exact od_ge | exact od_eqi | exact od_nei | exact od_eqs | exact od_nes | exact od_isN | exact od_notN | exact cd_int | exact cd_abs | exact cd_max2 | exact cd_gcd
  | ((with_reducible apply eda_cons) <;> walk_at "ed") | ((with_reducible apply ed_op) <;> walk_at "ed") | ((with_reducible apply ed_cb) <;> walk_at "ed") | ((with_reducible apply eb_test) <;> walk_at "ed") | ((with_reducible apply eb_tru) <;> walk_at "ed") | ((with_reducible apply ed_tup) <;> walk_at "ed")
  | ((with_reducible apply ed_neg) <;> walk_at "ed") | ((with_reducible apply eb_not) <;> walk_at "ed") | ((with_reducible apply edl_lst) <;> walk_at "ed") | ((with_reducible apply edo_some) <;> walk_at "ed") | ((with_reducible apply ed_call) <;> walk_at "ed")
  | (apply od_mul; assumption) | (apply od_rem; omega) | (apply od_div <;> omega) | (apply od_ixT; rfl) | (apply od_ixL; rfl)
  | (with_reducible exact True.intro) | (simp; done) | skip)
/-! ### the length of a bar -/
section
variable {P : Program} {w : World} {K : PySem.W.Frag} {mg : Str → Option Value} {base : Heap}
theorem sc_Bar_len : FnScope ["self"] ["self"] (defScope s_Bar_len) := ⟨rfl, rfl, rfl, by decide +kernel, rfl, by decide +kernel, by decide +kernel⟩
def F_Bar_len (K : PySem.W.Frag) (ds : List D) (d : D) : Prop := ∃ (b u : Nat) (ws : Wds), ds = [barD K b u ws] ∧ d = .int (ws.length : Nat)
theorem ok_Bar_len (T : Txt K mg) : ∃ fd, FnOk P w K mg base CX0 1 (He.ma K (He.ga K "Bar") "__len__") fd ["self"] (psp (F_Bar_len K)) ∧ Binds K fd ["self"] [] := by
  obtain ⟨fd, Fd⟩ := T.d_Bar_len
  refine ⟨fd, Fd.ok sc_Bar_len (fun vs H Q E ⟨B, ds, d, _, i, ⟨_, _, _, e, _⟩, _⟩ => by rw [← i.len, e]; rfl) (fun cdv A outer s H vs Q E hr h => ⟨_, PSs.nox (pss_one (ps_ret (pe_callB (call_lenK K) (by rfl) T.b_len (by decide +kernel) (pa_cons (pe_fldK K (pv 0) rfl) pa_nil)))), run_body (F := F_Bar_len K) ?_ E h⟩), Fd.bindsN (fun _ _ _ _ _ _ us hl => match us, hl with | [_], _ => rfl)⟩
  intro B0 H0 ds d hf
  obtain ⟨b, u, ws, rfl, rfl⟩ := hf
  show SS triv B0 H0 _ [.dat (barD K b u ws)] _ _ _ _
  exact ssd_ret ((ed_lenT (ds := ws.map wd) (ed_fld (ed_var rfl) T.cls_Bar T.na_Bar_words rfl)).is (by rw [List.length_map])) rfl
/-! ### the law's own equality -/
theorem sc_law_same : FnScope ["told", "due", "a", "b"] ["told", "due"] (defScope s_law_same) := ⟨rfl, rfl, rfl, by decide +kernel, rfl, by decide +kernel, by decide +kernel⟩
/-- what it is asked of: not deeper than n -/
def SameOk : Nat → D → Prop
  | 0, d => match d with
    | .tup _ => False
    | .lst _ => False
    | .obj _ _ _ => False
    | _ => True
  | n + 1, d => match d with
    | .tup ds => ds.length ≤ 100000 ∧ ∀ x ∈ ds, SameOk n x
    | .lst ds => ds.length ≤ 100000 ∧ ∀ x ∈ ds, SameOk n x
    | .obj _ _ _ => False
    | _ => True
def F_law_same (n : Nat) (ds : List D) (d : D) : Prop := ∃ x, SameOk n x ∧ ds = [x, x] ∧ d = .bl true
def F_rec : Nat → List D → D → Prop
  | 0 => fun _ _ => False
  | n + 1 => F_law_same n
theorem ok_law_same_step (T : Txt K mg) (n : Nat) (c_law_same : Cal P w K mg base "_law_same" n (psp (F_rec n))) : Cal P w K mg base "_law_same" (n + 1) (psp (F_law_same n)) := by
  refine psp_mk T.d_law_same T.g_law_same sc_law_same (fun _ _ _ _ _ _ us hl => match us, hl with | [_, _], _ => rfl) (fun ds d ⟨_, _, e, _⟩ => by rw [e] <;> rfl) (fun cdv A outer s H E hr => ⟨_, (pss_cons (ps_if (pt_truthK K (pe_callB (call_isK K) (by rfl) T.b_isinstance (by decide +kernel) (pa_cons (pv 1) (pa_cons (pe_bltn (v := .ty "tuple") (by rfl) T.b_tuple (by decide +kernel) rfl) pa_nil))) (by intro _; rfl))
      (pss_one (ps_ret (pe_and (pe_callB (call_isK K) (by rfl) T.b_isinstance (by decide +kernel) (pa_cons (pv 0) (pa_cons (pe_bltn (v := .ty "tuple") (by rfl) T.b_tuple (by decide +kernel) rfl) pa_nil))) (pe_and (pe_cmpR (op_eqK K hr.units) (pe_callB (call_lenK K) (by rfl) T.b_len (by decide +kernel) (pa_cons (pv 0) pa_nil)) (pe_callB (call_lenK K) (by rfl) T.b_len (by decide +kernel) (pa_cons (pv 1) pa_nil)) (nomark _)) (pe_one (pe_callB (call_allK K) (by rfl) T.b_all (by decide +kernel) (pa_cons (pe_lc (own := [("a", 2), ("b", 3)]) rfl sc_law_same.nd  (pi_zipK K (by rfl) T.b_zip (pa_cons (pv 0) (pa_cons (pv 1) pa_nil))) (blkOk_by (N := ["told", "due", "a", "b"]) (sc := defScope s_law_same) (by decide +kernel)) (fun _ _ _ _ _ => (pg_tupK K (n := 2) rfl (pgs_cons (pg_name (i := 2) sc_law_same.nd rfl (Or.inl rfl)) (pgs_cons (pg_name (i := 3) sc_law_same.nd rfl (Or.inl rfl)) pgs_nil)))) (fun _ _ _ _ _ => pts_nil) (fun _ _ _ _ _ => (pe_cal c_law_same (hr.mono (Nat.le_refl _)) rfl (pa_cons (pv 2) (pa_cons (pv 3) pa_nil))))) pa_nil)))))))
      pss_nil)
    (pss_cons (ps_if (pt_truthK K (pe_callB (call_isK K) (by rfl) T.b_isinstance (by decide +kernel) (pa_cons (pv 1) (pa_cons (pe_bltn (v := .ty "list") (by rfl) T.b_list (by decide +kernel) rfl) pa_nil))) (by intro _; rfl))
      (pss_one (ps_ret (pe_and (pe_callB (call_isK K) (by rfl) T.b_isinstance (by decide +kernel) (pa_cons (pv 0) (pa_cons (pe_bltn (v := .ty "list") (by rfl) T.b_list (by decide +kernel) rfl) pa_nil))) (pe_and (pe_cmpR (op_eqK K hr.units) (pe_callB (call_lenK K) (by rfl) T.b_len (by decide +kernel) (pa_cons (pv 0) pa_nil)) (pe_callB (call_lenK K) (by rfl) T.b_len (by decide +kernel) (pa_cons (pv 1) pa_nil)) (nomark _)) (pe_one (pe_callB (call_allK K) (by rfl) T.b_all (by decide +kernel) (pa_cons (pe_lc (own := [("a", 2), ("b", 3)]) rfl sc_law_same.nd  (pi_zipK K (by rfl) T.b_zip (pa_cons (pv 0) (pa_cons (pv 1) pa_nil))) (blkOk_by (N := ["told", "due", "a", "b"]) (sc := defScope s_law_same) (by decide +kernel)) (fun _ _ _ _ _ => (pg_tupK K (n := 2) rfl (pgs_cons (pg_name (i := 2) sc_law_same.nd rfl (Or.inl rfl)) (pgs_cons (pg_name (i := 3) sc_law_same.nd rfl (Or.inl rfl)) pgs_nil)))) (fun _ _ _ _ _ => pts_nil) (fun _ _ _ _ _ => (pe_cal c_law_same (hr.mono (Nat.le_refl _)) rfl (pa_cons (pv 2) (pa_cons (pv 3) pa_nil))))) pa_nil)))))))
      pss_nil)
    (pss_cons (ps_if (pt_truthK K (pe_callB (call_isK K) (by rfl) T.b_isinstance (by decide +kernel) (pa_cons (pv 1) (pa_cons (pe_bltn (v := .ty "str") (by rfl) T.b_str (by decide +kernel) rfl) pa_nil))) (by intro _; rfl))
      (pss_one (ps_ret (pe_and (pe_callB (call_isK K) (by rfl) T.b_isinstance (by decide +kernel) (pa_cons (pv 0) (pa_cons (pe_bltn (v := .ty "str") (by rfl) T.b_str (by decide +kernel) rfl) pa_nil))) (pe_one (pe_cmpR (op_eqK K hr.units) (pv 0) (pv 1) (nomark _))))))
      pss_nil)
    (pss_cons (ps_if (PW.pt (pw_or (pt_cmpR op_isN (pv 1) pe_non (nomark _)) (pw_or1 (pt_truthK K (pe_callB (call_isK K) (by rfl) T.b_isinstance (by decide +kernel) (pa_cons (pv 1) (pa_cons (pe_bltn (v := .ty "bool") (by rfl) T.b_bool (by decide +kernel) rfl) pa_nil))) (by intro _; rfl)))))
      (pss_one (ps_ret (pe_ifExp (pt_cmpR op_isN (pv 1) pe_non (nomark _)) (pe_cmpR op_isN (pv 0) pe_non (nomark _)) (pe_and (pe_callB (call_isK K) (by rfl) T.b_isinstance (by decide +kernel) (pa_cons (pv 0) (pa_cons (pe_bltn (v := .ty "bool") (by rfl) T.b_bool (by decide +kernel) rfl) pa_nil))) (pe_one (pe_cmpR (op_eqK K hr.units) (pv 0) (pv 1) (nomark _)))))))
      pss_nil)
    (pss_one (ps_ret (pe_and (pe_callB (call_isK K) (by rfl) T.b_isinstance (by decide +kernel) (pa_cons (pv 0) (pa_cons (pe_bltn (v := .ty "int") (by rfl) T.b_int (by decide +kernel) rfl) pa_nil))) (pe_and (pe_not (pe_callB (call_isK K) (by rfl) T.b_isinstance (by decide +kernel) (pa_cons (pv 0) (pa_cons (pe_bltn (v := .ty "bool") (by rfl) T.b_bool (by decide +kernel) rfl) pa_nil)))) (pe_one (pe_cmpR (op_eqK K hr.units) (pv 0) (pv 1) (nomark _))))))))))), ?_⟩)
  intro B0 H0 ds d h
  obtain ⟨x, hx, rfl, rfl⟩ := h
  show SS triv B0 H0 _ [.dat x, .dat x, .no, .no] _ _ _ _
  have kt : L2.kitB "tuple" "tuple" = some true := by decide +kernel
  have kl : L2.kitB "list" "list" = some true := by decide +kernel
  have ks : L2.kitB "str" "str" = some true := by decide +kernel
  have kb : L2.kitB "bool" "bool" = some true := by decide +kernel
  have ki : L2.kitB "int" "int" = some true := by decide +kernel
  have kno : ∀ p ∈ [("list", "tuple"), ("str", "tuple"), ("bool", "tuple"), ("int", "tuple"), ("NoneType", "tuple"), ("str", "list"), ("bool", "list"), ("int", "list"), ("NoneType", "list"), ("bool", "str"), ("int", "str"), ("NoneType", "str"), ("int", "bool")], L2.kitB p.1 p.2 = some false := by decide +kernel
  have no : ∀ {t nm : String}, tyD x = some t → L2.kitB t nm = some false → EDB triv (fun σ H Q => tCB (rIsi K) (tCons (tVar 1) (tCons (tC (.ty nm)) tNil)) σ H fun x H' => ∃ k, TruV K x H' k ∧ Q k H') [.dat x, .dat x, .no, .no] false := fun h1 h2 => eb_tru (ed_isi (ed_var rfl) h1 h2)
  have yes : ∀ {t nm : String}, tyD x = some t → L2.kitB t nm = some true → EDB triv (fun σ H Q => tCB (rIsi K) (tCons (tVar 1) (tCons (tC (.ty nm)) tNil)) σ H fun x H' => ∃ k, TruV K x H' k ∧ Q k H') [.dat x, .dat x, .no, .no] true := fun h1 h2 => eb_tru (ed_isi (ed_var rfl) h1 h2)
  have self0 : ∀ {t nm : String}, tyD x = some t → L2.kitB t nm = some true → ED triv (tCB (rIsi K) (tCons (tVar 0) (tCons (tC (.ty nm)) tNil))) [.dat x, .dat x, .no, .no] (.bl true) := fun h1 h2 => ed_isi (ed_var rfl) h1 h2
  cases x with
  | obj C ks ds => cases n <;> exact hx.elim
  | tup ds =>
    cases n with
    | zero => exact hx.elim
    | succ m =>
      obtain ⟨hl, hall⟩ := hx
      refine ss_seq (ssd_ifT (yes rfl kt) (ssd_ret (ed_andV (b := true) (c := true) (self0 rfl kt) (fun _ => (ed_andV (b := true) (c := true) ((ed_op (ed_lenT (ed_var rfl)) (ed_lenT (ed_var rfl)) od_eqi).is (by simp)) (fun _ => (ed_cb (eda_cons (ed_of_el (edl_map2n (xs := ds) (fun y => y) (fun y => y) (fun _ => .bl true) rfl ?_ hl fun y hy => ?_)) eda_nil) (cd_allM (p := fun _ => true))).is (by simp))))) rfl))
      · rw [← zipD_self]
        exact wid_zip (.inr ⟨rfl, rfl⟩) (eda_cons (ed_var rfl) (eda_cons (ed_var rfl) eda_nil))
      · exact ed_call (ds := [y, y]) (eda_cons (ed_var rfl) (eda_cons (ed_var rfl) eda_nil)) (F := F_rec (m + 1)) ⟨y, hall y hy, rfl, rfl⟩
  | lst ds =>
    cases n with
    | zero => exact hx.elim
    | succ m =>
      obtain ⟨hl, hall⟩ := hx
      refine ss_seq (ssd_ifF (no rfl (kno ("list", "tuple") (by decide))) (ss_next ?_))
      refine ss_seq (ssd_ifT (yes rfl kl) (ssd_ret (ed_andV (b := true) (c := true) (self0 rfl kl) (fun _ => (ed_andV (b := true) (c := true) ((ed_op (ed_lenL (ed_var rfl)) (ed_lenL (ed_var rfl)) od_eqi).is (by simp)) (fun _ => (ed_cb (eda_cons (ed_of_el (edl_map2n (xs := ds) (fun y => y) (fun y => y) (fun _ => .bl true) rfl ?_ hl fun y hy => ?_)) eda_nil) (cd_allM (p := fun _ => true))).is (by simp))))) rfl))
      · rw [← zipD_self]
        exact wid_zip (.inl ⟨rfl, rfl⟩) (eda_cons (ed_var rfl) (eda_cons (ed_var rfl) eda_nil))
      · exact ed_call (ds := [y, y]) (eda_cons (ed_var rfl) (eda_cons (ed_var rfl) eda_nil)) (F := F_rec (m + 1)) ⟨y, hall y hy, rfl, rfl⟩
  | str z =>
    refine ss_seq (ssd_ifF (no rfl (kno ("str", "tuple") (by decide))) (ss_next ?_))
    refine ss_seq (ssd_ifF (no rfl (kno ("str", "list") (by decide))) (ss_next ?_))
    exact ss_seq (ssd_ifT (yes rfl ks) (ssd_ret (ed_andV (b := true) (c := true) (self0 rfl ks) (fun _ => (ed_op (ed_var rfl) (ed_var rfl) od_eqs).is (by simp))) rfl))
  | non =>
    refine ss_seq (ssd_ifF (no rfl (kno ("NoneType", "tuple") (by decide))) (ss_next ?_))
    refine ss_seq (ssd_ifF (no rfl (kno ("NoneType", "list") (by decide))) (ss_next ?_))
    refine ss_seq (ssd_ifF (no rfl (kno ("NoneType", "str") (by decide))) (ss_next ?_))
    exact ss_seq (ssd_ifT (EB.is (eb_or (b := true) (c := true) (eb_test (ed_op (ed_var rfl) ed_non od_isN)) (fun z => by cases z)) rfl) (ssd_ret (ed_ifT (eb_test (ed_op (ed_var rfl) ed_non od_isN)) (ed_op (ed_var rfl) ed_non od_isN)) rfl))
  | bl b =>
    refine ss_seq (ssd_ifF (no rfl (kno ("bool", "tuple") (by decide))) (ss_next ?_))
    refine ss_seq (ssd_ifF (no rfl (kno ("bool", "list") (by decide))) (ss_next ?_))
    refine ss_seq (ssd_ifF (no rfl (kno ("bool", "str") (by decide))) (ss_next ?_))
    exact ss_seq (ssd_ifT (EB.is (eb_or (b := false) (c := true) (eb_test (ed_op (ed_var rfl) ed_non od_isN)) (fun _ => yes rfl kb)) rfl) (ssd_ret (ed_ifF (eb_test (ed_op (ed_var rfl) ed_non od_isN)) (ed_andV (b := true) (c := true) (self0 rfl kb) (fun _ => (ed_op (ed_var rfl) (ed_var rfl) (OpS.inl od_eqB)).is (by simp)))) rfl))
  | int i =>
    refine ss_seq (ssd_ifF (no rfl (kno ("int", "tuple") (by decide))) (ss_next ?_))
    refine ss_seq (ssd_ifF (no rfl (kno ("int", "list") (by decide))) (ss_next ?_))
    refine ss_seq (ssd_ifF (no rfl (kno ("int", "str") (by decide))) (ss_next ?_))
    refine ss_seq (ssd_ifF (EB.is (eb_or (b := false) (c := false) (eb_test (ed_op (ed_var rfl) ed_non od_isN)) (fun _ => no rfl (kno ("int", "bool") (by decide)))) rfl) (ss_next ?_))
    exact ssd_ret (ed_andV (b := true) (c := true) (self0 rfl ki) (fun _ => ed_andV (b := true) (c := true) ((ed_notV (ed_isi (x := .int i) (ed_var rfl) rfl (kno ("int", "bool") (by decide)))).is rfl) (fun _ => (ed_op (ed_var rfl) (ed_var rfl) od_eqi).is (by simp)))) rfl
theorem ok_law_same (T : Txt K mg) : ∀ n, Cal P w K mg base "_law_same" n (psp (F_rec n))
  | 0 => cal_none (N := ["told", "due", "a", "b"]) (ps := ["told", "due"]) T.d_law_same T.g_law_same (fun _ _ _ _ _ _ us hl => match us, hl with | [_, _], _ => rfl)
  | n + 1 => ok_law_same_step T n (ok_law_same T n)
theorem ok_law_same5 (T : Txt K mg) : Cal P w K mg base "_law_same" 6 (psp (F_law_same 5)) := ok_law_same T 6
end
end K82
set_option Elab.async false
set_option linter.all false
set_option maxRecDepth 100000
set_option maxHeartbeats 2000000
namespace K82
open PySem PySem.Spec PyProof.Rows L2 Evl Dl K82Head TL
local macro_rules | `(tactic| walk_at "ed") => `(tactic| first
  | exact ed_var rfl | exact ed_int | exact ed_str | exact ed_bl | exact ed_non | exact eda_nil | exact edo_none
  | exact od_add | exact od_sub | exact od_lt | exact od_le | exact od_gt | exact od_ge | exact od_eqi | exact od_nei | exact od_eqs | exact od_nes | exact od_isN | exact od_notN | exact cd_int | exact cd_abs | exact cd_max2 | exact cd_gcd
  | ((with_reducible apply eda_cons) <;> walk_at "ed") | ((with_reducible apply ed_op) <;> walk_at "ed") | ((with_reducible apply ed_cb) <;> walk_at "ed") | ((with_reducible apply eb_test) <;> walk_at "ed") | ((with_reducible apply eb_tru) <;> walk_at "ed") | ((with_reducible apply ed_tup) <;> walk_at "ed")
  | ((with_reducible apply ed_neg) <;> walk_at "ed") | ((with_reducible apply eb_not) <;> walk_at "ed") | ((with_reducible apply edl_lst) <;> walk_at "ed") | ((with_reducible apply edo_some) <;> walk_at "ed") | ((with_reducible apply ed_call) <;> walk_at "ed")
  | (apply od_mul; assumption) | (apply od_rem; omega) | (apply od_div <;> omega) | (apply od_ixT; rfl) | (apply od_ixL; rfl)
  | (with_reducible exact True.intro) | (simp; done) | skip)
/-! ### draws -/
def F_draw (ds : List D) (S : D → Prop) : Prop := ∃ sz : Nat, 0 < sz ∧ sz < 2 ^ 62 ∧ ds = [.int (sz : Nat)] ∧ S = fun d => ∃ i : Nat, i < sz ∧ d = .int (i : Nat)
theorem mul_ok {i j : Int} {x y : Nat} (hi : i.natAbs < 2 ^ (x + 1)) (hj : j.natAbs < 2 ^ (y + 1)) (h : x + y ≤ 900000) : CMulW i j := wide_mul hi hj (by omega) (by omega) (by omega)
theorem big_eq : ((10 : Int) ^ (60 : Int).toNat) ^ (9 : Int).toNat = 10 ^ 540 := by
  have h1 : (60 : Int).toNat = 60 := rfl
  have h2 : (9 : Int).toNat = 9 := rfl
  rw [h1, h2, ← Int.pow_mul]
theorem big_pos : (0 : Int) < 10 ^ 540 := Int.pow_pos (by decide)
section
variable {P : Program} {w : World} {K : PySem.W.Frag} {mg : Str → Option Value} {base : Heap}
theorem sc_law_draw : FnScope ["bag", "size", "cell_v", "digit"] ["bag", "size"] (defScope s_law_draw) := ⟨rfl, rfl, rfl, by decide +kernel, rfl, by decide +kernel, by decide +kernel⟩
theorem ok_law_draw (T : Txt K mg) : Cal P w K mg base "_law_draw" 1 (bsp 1 F_draw) := by
  refine bsp_mk T.d_law_draw T.g_law_draw sc_law_draw (fun _ _ _ _ _ _ us hl => match us, hl with | [_, _], _ => rfl) (fun ds S ⟨_, _, _, e, _⟩ => by rw [e] <;> rfl) (fun cdv A outer s H E hr => ⟨_, (pss_cons (ps_asg (pe_op (op_addK K) (pe_ix (ix_seqK K) (pv 0) pe_int (fun _ _ => rfl)) pe_int) (pg_sub (pv 0) pe_int set_list))
    (pss_cons (ps_if (PW.pt (pw_and (pt_cmpR (op_eqK K hr.units) (pe_ix (ix_seqK K) (pv 0) pe_int (fun _ _ => rfl)) pe_int (nomark _)) (pw_and1 (pt_truthK K (pe_ix (ix_seqK K) (pv 0) pe_int (fun _ _ => rfl)) (by intro _; rfl)))))
      (pss_cons (ps_set (i := 2) sc_law_draw.nd rfl (Or.inl rfl) (pe_callB call_abs (by rfl) T.b_abs (by decide +kernel) (pa_cons (pe_bmK K PySem.F.plainAttrs_list PySem.F.slot_list_pop PySem.F.type_list_pop mt_popAt (pe_ix (ix_seqK K) (pv 0) pe_int (fun _ _ => rfl)) (pa_cons pe_int pa_nil)) pa_nil)))
        (pss_cons (ps_asg (pe_ifExp (pt_cmpR op_ge (pv 2) (pe_op op_powU pe_int pe_int) (nomark _)) (pe_op op_modU (pe_callTy call_int1 (by rfl) T.b_int (by decide +kernel) (pa_cons (pv 2) pa_nil)) (pe_op op_powU (pe_op op_powU pe_int pe_int) pe_int)) pe_int) (pg_sub (pv 0) pe_int set_list))
        (pss_one (ps_asg (pe_op op_modU (pe_callTy call_int1 (by rfl) T.b_int (by decide +kernel) (pa_cons (pe_op (op_addK K) (pe_op (op_addK K) (pe_op (op_mulK K) (pe_ix (ix_seqK K) (pv 0) pe_int (fun _ _ => rfl)) pe_int) (pe_op (op_mulK K) (pe_op op_modU (pe_callTy call_int1 (by rfl) T.b_int (by decide +kernel) (pa_cons (pv 2) pa_nil)) pe_int) pe_int)) pe_int) pa_nil)) pe_int) (pg_sub (pv 0) pe_int set_list)))))
      pss_nil)
    (pss_cons (ps_if (pt_cmpR op_gt (pe_ix (ix_seqK K) (pv 0) pe_int (fun _ _ => rfl)) pe_int (nomark _))
      (pss_cons (ps_set (i := 3) sc_law_draw.nd rfl (Or.inl rfl) (pe_op op_modU (pe_callTy call_int1 (by rfl) T.b_int (by decide +kernel) (pa_cons (pe_ix (ix_seqK K) (pv 0) pe_int (fun _ _ => rfl)) pa_nil)) (pv 1)))
        (pss_cons (ps_asg (pe_op op_fdivU (pe_ix (ix_seqK K) (pv 0) pe_int (fun _ _ => rfl)) (pv 1)) (pg_sub (pv 0) pe_int set_list))
        (pss_one (ps_ret (pv 3)))))
      pss_nil)
    (pss_cons (ps_asg (pe_op op_modU (pe_callTy call_int1 (by rfl) T.b_int (by decide +kernel) (pa_cons (pe_op (op_addK K) (pe_op (op_addK K) (pe_op (op_addK K) (pe_op (op_mulK K) (pe_op (op_mulK K) (pe_ix (ix_seqK K) (pv 0) pe_int (fun _ _ => rfl)) (pe_ix (ix_seqK K) (pv 0) pe_int (fun _ _ => rfl))) pe_int) (pe_op (op_mulK K) (pe_ix (ix_seqK K) (pv 0) pe_int (fun _ _ => rfl)) pe_int)) (pe_op (op_mulK K) (pe_ix (ix_seqK K) (pv 0) pe_int (fun _ _ => rfl)) pe_int)) pe_int) pa_nil)) pe_int) (pg_sub (pv 0) pe_int set_list))
    (pss_one (ps_ret (pe_op op_modU (pe_callTy call_int1 (by rfl) T.b_int (by decide +kernel) (pa_cons (pe_op (op_addK K) (pe_op op_fdivU (pe_ix (ix_seqK K) (pv 0) pe_int (fun _ _ => rfl)) pe_int) (pe_op (op_mulK K) (pe_op op_modU (pe_callTy call_int1 (by rfl) T.b_int (by decide +kernel) (pa_cons (pe_ix (ix_seqK K) (pv 0) pe_int (fun _ _ => rfl)) pa_nil)) pe_int) pe_int)) pa_nil)) (pv 1)))))))), ?_⟩)
  intro B0 H0 a c n ds S hf hac hn
  obtain ⟨sz, hs0, hs1, rfl, rfl⟩ := hf
  show SX (cells c) B0 H0 _ [bagS a c n, .dat (.int (sz : Nat)), .no, .no] _ _
  refine sx_bag (i := 0) rfl fun b m k ok k0 k1 => ?_
  show SX (cells c) B0 H0 _ [bagX a c b m k, .dat (.int (sz : Nat)), .no, .no] _ _
  refine sx_seqS (ss_bagSet (n := 3) (nn := 3) rfl (ed_op (ed_bagGet (n := 3) rfl rfl) ed_int od_add) rfl fun d ed => ⟨_, b, m, k + 1, ed, rfl, ?_⟩)
  show SX (cells c) B0 H0 _ [bagX a c b m (k + 1), .dat (.int (sz : Nat)), .no, .no] _ _
  refine sx_seqS (ss_imp (N' := fun G => ∃ (b m : Int) (s2 : Sl), G = [bagX a c b m (k + 1), .dat (.int (sz : Nat)), s2, .no] ∧ BagOk b m) ?_ ?_)
  · refine ss_take (i := 2) rfl (eb_test (ed_op (ed_bagGet (n := 1) (x := b) rfl rfl) ed_int od_eqi)) (fun _ x hx => ?_) (ss_next ⟨b, m, .no, rfl, ok⟩)
    have b0 := ok.b0
    have b1 := ok.b1
    have m0 := ok.m0
    have m1 := ok.m1
    have p60 : ED (cells c) (tOp rPowU (tOp rPowU (tC (.int 10)) (tC (.int 60))) (tC (.int 9))) [bagX a c b m (k + 1), .dat (.int (sz : Nat)), .dat (.int x), .no] (.int (10 ^ 540)) := (ed_op (ed_op ed_int ed_int (od_pow ⟨by decide, by decide +kernel⟩)) ed_int (od_pow ⟨by decide, by decide +kernel⟩)).is (by rw [big_eq])
    have vx : ED (cells c) (tVar 2) [bagX a c b m (k + 1), .dat (.int (sz : Nat)), .dat (.int x), .no] (.int x) := ed_var rfl
    refine ss_seq (ss_bagSet (n := 1) (nn := 1) rfl (S := fun d => ∃ b' : Int, d = .int b' ∧ 0 ≤ b' ∧ b' < 10 ^ 540) (ep_if (S0 := fun _ => True) ((eb_test (ed_op vx (ed_op ed_int ed_int (od_pow ⟨by decide, by decide +kernel⟩)) od_ge)).imp fun _ _ => True.intro) (fun _ => ((ed_op (ed_cb (eda_cons vx eda_nil) cd_int) p60 (od_rem big_pos)).imp fun d ed => ⟨_, ed, Int.emod_nonneg _ (Int.ne_of_gt big_pos), Int.emod_lt_of_pos _ big_pos⟩)) (fun _ => ed_int.imp fun d ed => ⟨_, ed, Int.le_refl _, big_pos⟩)) rfl fun d ⟨b', ed, h0, h1⟩ => ⟨b', b', m, k + 1, ed, rfl, ?_⟩)
    have vx' : ED (cells c) (tVar 2) [bagX a c b' m (k + 1), .dat (.int (sz : Nat)), .dat (.int x), .no] (.int x) := ed_var rfl
    have g2 : ED (cells c) (tOp (rIx K) (tVar 0) (tC (.int 2))) [bagX a c b' m (k + 1), .dat (.int (sz : Nat)), .dat (.int x), .no] (.int m) := ed_bagGet (n := 2) rfl rfl
    refine ss_bagSet (n := 2) (nn := 2) rfl (ed_op (ed_cb (eda_cons (ed_op (ed_op (ed_op g2 ed_int (od_mul (mul_ok (x := 31) (y := 31) (by omega) (by omega) (by omega)))) (ed_op (ed_op (ed_cb (eda_cons vx' eda_nil) cd_int) ed_int (od_rem (by omega))) ed_int (od_mul (mul_ok (x := 31) (y := 31) (by omega) (by omega) (by omega)))) od_add) ed_int od_add) eda_nil) cd_int) ed_int (od_rem (by omega))) rfl fun d ed => ⟨_, b', (m * 40692 + x % 1000033 * 881 + 61) % 2147483579, k + 1, ed, rfl, b', (m * 40692 + x % 1000033 * 881 + 61) % 2147483579, .dat (.int x), rfl, h0, h1, by omega, by omega⟩
  · rintro G ⟨b, m, s2, rfl, ok⟩
    have b0 := ok.b0
    have b1 := ok.b1
    have m0 := ok.m0
    have m1 := ok.m1
    refine sx_seq (sxd_if (eb_test (ed_op (ed_bagGet (n := 1) (x := b) rfl rfl) ed_int od_gt)) (fun h => ?_) (fun h => sx_next ?_))
    · rw [decide_eq_true_eq] at h
      refine sx_seqS (ssd_asg (d := .int (b % (sz : Nat))) (ed_op (ed_cb (eda_cons (ed_bagGet (n := 1) (x := b) rfl rfl) eda_nil) cd_int) (ed_var rfl) (od_rem (by omega))) ?_)
      refine sx_seqS (ss_bagSet (n := 1) (nn := 1) rfl (ed_op (ed_bagGet (n := 1) (x := b) rfl rfl) (ed_var rfl) (od_div (by omega) (by omega))) rfl fun d ed => ⟨_, b / (sz : Nat), m, k + 1, ed, rfl, ?_⟩)
      refine sx_weak (i := 0) (s := bagX a c (b / (sz : Nat)) m (k + 1)) (s' := bagS a c (n + 1)) rfl (fun _ => rfl) (bagX_S ⟨Int.ediv_nonneg b0 (by omega), Int.lt_of_le_of_lt (Int.ediv_le_self _ b0) b1, m0, m1⟩ (by omega) (by omega)) ?_
      refine sxd_ret (ed_var rfl) ⟨⟨(b % (sz : Nat)).toNat, ?_, ?_⟩, n + 1, Nat.le_refl _, rfl⟩
      · have := Int.emod_lt_of_pos b (show (0 : Int) < (sz : Nat) by omega)
        have := Int.emod_nonneg b (show ((sz : Nat) : Int) ≠ 0 by omega)
        omega
      · have := Int.emod_nonneg b (show ((sz : Nat) : Int) ≠ 0 by omega)
        rw [Int.toNat_of_nonneg this]
    · have hmm : m * m < 2 ^ 62 ∧ 0 ≤ m * m := by
        refine ⟨?_, Int.mul_nonneg m0 m0⟩
        have z : m * m ≤ m * 2 ^ 31 := Int.mul_le_mul_of_nonneg_left (by omega) m0
        omega
      have g2 : ED (cells c) (tOp (rIx K) (tVar 0) (tC (.int 2))) [bagX a c b m (k + 1), .dat (.int (sz : Nat)), s2, .no] (.int m) := ed_bagGet (n := 2) rfl rfl
      have g3 : ED (cells c) (tOp (rIx K) (tVar 0) (tC (.int 3))) [bagX a c b m (k + 1), .dat (.int (sz : Nat)), s2, .no] (.int (k + 1)) := ed_bagGet (n := 3) rfl rfl
      refine sx_seqS (ss_bagSet (n := 2) (nn := 2) rfl (ed_op (ed_cb (eda_cons (ed_op (ed_op (ed_op (ed_op (ed_op g2 g2 (od_mul (mul_ok (x := 31) (y := 31) (by omega) (by omega) (by omega)))) ed_int (od_mul (mul_ok (x := 62) (y := 31) (by omega) (by omega) (by omega)))) (ed_op g2 ed_int (od_mul (mul_ok (x := 31) (y := 31) (by omega) (by omega) (by omega)))) od_add) (ed_op g3 ed_int (od_mul (mul_ok (x := 61) (y := 31) (by omega) (by omega) (by omega)))) od_add) ed_int od_add) eda_nil) cd_int) ed_int (od_rem (by omega))) rfl fun d ed => ⟨_, b, (m * m * 31 + m * 16811 + (k + 1) * 104729 + 7907) % 2147483549, k + 1, ed, rfl, ?_⟩)
      generalize hm' : (m * m * 31 + m * 16811 + (k + 1) * 104729 + 7907) % 2147483549 = m'
      have l0 : 0 ≤ m' := by omega
      have l1 : m' < 2 ^ 31 := by omega
      have g2' : ED (cells c) (tOp (rIx K) (tVar 0) (tC (.int 2))) [bagX a c b m' (k + 1), .dat (.int (sz : Nat)), s2, .no] (.int m') := ed_bagGet (n := 2) rfl rfl
      refine sx_retW (ey_ed (ed_op (ed_cb (eda_cons (ed_op (ed_op g2' ed_int (od_div (by omega) (by omega))) (ed_op (ed_op (ed_cb (eda_cons g2' eda_nil) cd_int) ed_int (od_rem (by omega))) ed_int (od_mul (mul_ok (x := 31) (y := 31) (by omega) (by omega) (by omega)))) od_add) eda_nil) cd_int) (ed_var rfl) (od_rem (by omega)))) fun d G ⟨ed, eG⟩ => ⟨0, bagX a c b m' (k + 1), bagS a c (n + 1), by rw [eG]; rfl, fun _ => rfl, bagX_S ⟨b0, b1, l0, l1⟩ (by omega) (by omega), ?_⟩
      refine ⟨⟨((m' / 97 + m' % 8009 * 71) % (sz : Nat)).toNat, ?_, ?_⟩, n + 1, Nat.le_refl _, by rw [eG]; rfl⟩
      · have := Int.emod_lt_of_pos (m' / 97 + m' % 8009 * 71) (show (0 : Int) < (sz : Nat) by omega)
        have := Int.emod_nonneg (m' / 97 + m' % 8009 * 71) (show ((sz : Nat) : Int) ≠ 0 by omega)
        omega
      · have := Int.emod_nonneg (m' / 97 + m' % 8009 * 71) (show ((sz : Nat) : Int) ≠ 0 by omega)
        rw [Int.toNat_of_nonneg this]
        exact ed
end
end K82
set_option Elab.async false
set_option linter.all false
set_option maxRecDepth 100000
set_option maxHeartbeats 2000000
namespace K82
open PySem PySem.Spec PyProof.Rows L2 Evl Dl K82Head TL
local macro_rules | `(tactic| walk_at "ed") => `(tactic| first
  | exact ed_var rfl | exact ed_int | exact ed_str | exact ed_bl | exact ed_non | exact eda_nil | exact edo_none
  | exact od_add | exact od_sub | exact od_lt | exact od_le | exact od_gt | exact od_ge | exact od_eqi | exact od_nei | exact od_eqs | exact od_nes | exact od_isN | exact od_notN | exact cd_int | exact cd_abs | exact cd_max2 | exact cd_gcd
  | ((with_reducible apply eda_cons) <;> walk_at "ed") | ((with_reducible apply ed_op) <;> walk_at "ed") | ((with_reducible apply ed_cb) <;> walk_at "ed") | ((with_reducible apply eb_test) <;> walk_at "ed") | ((with_reducible apply eb_tru) <;> walk_at "ed") | ((with_reducible apply ed_tup) <;> walk_at "ed")
  | ((with_reducible apply ed_neg) <;> walk_at "ed") | ((with_reducible apply eb_not) <;> walk_at "ed") | ((with_reducible apply edl_lst) <;> walk_at "ed") | ((with_reducible apply edo_some) <;> walk_at "ed") | ((with_reducible apply ed_call) <;> walk_at "ed")
  | (apply od_mul; assumption) | (apply od_rem; omega) | (apply od_div <;> omega) | (apply od_ixT; rfl) | (apply od_ixL; rfl)
  | (with_reducible exact True.intro) | (simp; done) | skip)
/-! ### picks, orders, all words -/
def F_of (ds : List D) (S : D → Prop) : Prop := ∃ xs : List D, xs ≠ [] ∧ xs.length ≤ 100000 ∧ ds = [.lst xs] ∧ S = fun d => d ∈ xs
def F_mixed (ds : List D) (S : D → Prop) : Prop := ∃ xs : List D, xs.length ≤ 100 ∧ ds = [.lst xs] ∧ S = fun d => ∃ ys : List D, d = .lst ys ∧ ys.Perm xs
def allW (b : Nat) : Nat → Wds
  | 0 => [[]]
  | n + 1 => (allW b n).flatMap fun l => (List.range b).map fun a => l ++ [a]
theorem allW_len (b : Nat) : ∀ n, (allW b n).length = b ^ n
  | 0 => rfl
  | n + 1 => by
    show ((allW b n).flatMap fun l => (List.range b).map fun a => l ++ [a]).length = _
    rw [List.length_flatMap]
    simp only [List.length_map, List.length_range]
    rw [List.map_const', List.sum_replicate_nat, allW_len b n, Nat.pow_succ]
theorem allW_mem (b : Nat) : ∀ (n : Nat) (l : List Nat), l ∈ allW b n ↔ l.length = n ∧ ∀ a ∈ l, a < b
  | 0, l => by
    show l ∈ [[]] ↔ _
    rw [List.mem_singleton]
    constructor
    · rintro rfl
      exact ⟨rfl, by simp⟩
    · rintro ⟨h, _⟩
      exact List.eq_nil_of_length_eq_zero h
  | n + 1, l => by
    show l ∈ ((allW b n).flatMap fun l => (List.range b).map fun a => l ++ [a]) ↔ _
    simp only [List.mem_flatMap, List.mem_map, List.mem_range]
    constructor
    · rintro ⟨l0, h0, a, ha, rfl⟩
      obtain ⟨h1, h2⟩ := (allW_mem b n l0).mp h0
      refine ⟨by simp [h1], fun x hx => ?_⟩
      rw [List.mem_append, List.mem_singleton] at hx
      rcases hx with hx | rfl
      · exact h2 x hx
      · exact ha
    · rintro ⟨h1, h2⟩
      have hne : l ≠ [] := fun e => by rw [e] at h1; cases h1
      have e := List.dropLast_concat_getLast hne
      refine ⟨l.dropLast, (allW_mem b n _).mpr ⟨by rw [List.length_dropLast]; omega, fun x hx => h2 x (List.dropLast_subset l hx)⟩, l.getLast hne, h2 _ (List.getLast_mem hne), e⟩
theorem perm_erase {α : Type} : ∀ {l : List α} {i : Nat} (h : i < l.length), (l[i] :: l.eraseIdx i).Perm l
  | [], i, h => by simp at h
  | x :: l, 0, h => List.Perm.refl _
  | x :: l, i + 1, h => by
    show (l[i]'(by simpa using h) :: x :: l.eraseIdx i).Perm (x :: l)
    exact (List.Perm.swap x _ _).trans (List.Perm.cons x (perm_erase (by simpa using h)))
def F_law_words (ds : List D) (d : D) : Prop := ∃ b n : Nat, 1 ≤ b ∧ b ^ n ≤ 90 ∧ n ≤ 100 ∧ ds = [.int (b : Nat), .int (n : Nat)] ∧ d = .lst ((allW b n).map wd)
section
variable {P : Program} {w : World} {K : PySem.W.Frag} {mg : Str → Option Value} {base : Heap}
theorem sc_law_of : FnScope ["bag", "rows"] ["bag", "rows"] (defScope s_law_of) := ⟨rfl, rfl, rfl, by decide +kernel, rfl, by decide +kernel, by decide +kernel⟩
theorem ok_law_of (T : Txt K mg) : Cal P w K mg base "_law_of" 2 (bsp 1 F_of) := by
  have c_law_draw := ok_law_draw (P := P) (w := w) (base := base) T
  refine bsp_mk T.d_law_of T.g_law_of sc_law_of (fun _ _ _ _ _ _ us hl => match us, hl with | [_, _], _ => rfl) (fun ds S ⟨_, _, _, e, _⟩ => by rw [e] <;> rfl) (fun cdv A outer s H E hr => ⟨_, (pss_one (ps_ret (pe_ix (ix_seqK K) (pv 1) (pe_cal c_law_draw (hr.mono (by decide)) rfl (pa_cons (pv 0) (pa_cons (pe_callB (call_lenK K) (by rfl) T.b_len (by decide +kernel) (pa_cons (pv 1) pa_nil)) pa_nil))) (fun _ _ => rfl)))), ?_⟩)
  intro B0 H0 a c n ds S hf hac hn
  obtain ⟨xs, hne, hl, rfl, rfl⟩ := hf
  show SX (cells c) B0 H0 _ [bagS a c n, .dat (.lst xs)] _ _
  have h0 : 0 < xs.length := List.length_pos_iff.mpr hne
  refine sx_ret (S := fun d G => d ∈ xs ∧ G = [bagS a c (n + 1), .dat (.lst xs)]) (ey_op (S2 := fun _ d G => (∃ i : Nat, i < xs.length ∧ d = .int (i : Nat)) ∧ G = [bagS a c (n + 1), .dat (.lst xs)]) (ey_ed (ed_var (i := 1) rfl)) (fun x G ⟨_, eG⟩ => by
    rw [eG]
    exact ey_bcall (j := 0) rfl hn (eda_cons (ed_lenL (ds := xs) (ed_var rfl)) eda_nil) ⟨xs.length, h0, by omega, rfl, rfl⟩) (fun x G0 y G ⟨ex, _⟩ ⟨⟨i, hi, ey⟩, eG⟩ => ?_)) (fun d G ⟨h1, h2⟩ => ⟨h1, n + 1, Nat.le_refl _, by rw [h2]; rfl⟩)
  rw [ex, ey]
  exact ops_of (od_ixL (L2.atI_nat (List.getElem?_eq_getElem hi))) ⟨List.getElem_mem hi, eG⟩
theorem sc_law_mixed : FnScope ["bag", "rows", "left", "k"] ["bag", "rows"] (defScope s_law_mixed) := ⟨rfl, rfl, rfl, by decide +kernel, rfl, by decide +kernel, by decide +kernel⟩
theorem ok_law_mixed (T : Txt K mg) : Cal P w K mg base "_law_mixed" 2 (bsp 100 F_mixed) := by
  have c_law_draw := ok_law_draw (P := P) (w := w) (base := base) T
  refine bsp_mk T.d_law_mixed T.g_law_mixed sc_law_mixed (fun _ _ _ _ _ _ us hl => match us, hl with | [_, _], _ => rfl) (fun ds S ⟨_, _, e, _⟩ => by rw [e] <;> rfl) (fun cdv A outer s H E hr => ⟨_, (pss_cons (ps_set (i := 2) sc_law_mixed.nd rfl (Or.inr rfl) (pe_callTy (call_listK K) (by rfl) T.b_list (by decide +kernel) (pa_cons (pv 1) pa_nil)))
    (pss_one (ps_ret (pe_lc (own := [("k", 3)]) (g := gName 3) rfl sc_law_mixed.nd  (pi_range1 (by rfl) T.b_range (pa_cons (pe_callB (call_lenK K) (by rfl) T.b_len (by decide +kernel) (pa_cons (pv 1) pa_nil)) pa_nil)) (blkOk_by (N := ["bag", "rows", "left", "k"]) (sc := defScope s_law_mixed) (by decide +kernel)) (fun _ _ _ _ _ => (pg_name (i := 3) sc_law_mixed.nd rfl (Or.inl rfl))) (fun _ _ _ _ _ => pts_nil) (fun _ _ _ _ _ => (pe_bmK K PySem.F.plainAttrs_list PySem.F.slot_list_pop PySem.F.type_list_pop mt_popAt (pv 2) (pa_cons (pe_cal c_law_draw (hr.mono (by decide)) rfl (pa_cons (pv 0) (pa_cons (pe_callB (call_lenK K) (by rfl) T.b_len (by decide +kernel) (pa_cons (pv 2) pa_nil)) pa_nil))) pa_nil))))))), ?_⟩)
  intro B0 H0 a c n ds S hf hac hn
  obtain ⟨xs, hl, rfl, rfl⟩ := hf
  show SX (cells c) B0 H0 _ [bagS a c n, .dat (.lst xs), .no, .no] _ _
  refine sx_seqS (ssd_asgO (ell_cb (eda_cons (ed_var rfl) eda_nil) (cl_list (.inl rfl))) ?_)
  show SX (cells c) B0 H0 _ [bagS a c n, .dat (.lst xs), .own xs, .no] _ _
  refine sx_ret (S := fun d G => (∃ ys : List D, d = .lst ys ∧ ys.Perm xs) ∧ ∃ m, m ≤ n + 100 ∧ G[0]? = some (bagS a c m)) (ey_lc (wy_of_wi (wid_rng1 (n := (xs.length : Int)) (eda_cons (ed_lenL (ds := xs) (ed_var rfl)) eda_nil) (by omega) (by omega))) fun ks G0 ⟨ek, eG⟩ => ?_) (fun d G h => h)
  subst ek eG
  rw [Int.toNat_natCast]
  refine ⟨fun i ys G => ∃ (rest : List D) (m : Nat), G = [bagS a c m, .dat (.lst xs), .own rest, .no] ∧ m ≤ n + i ∧ rest.length + i = xs.length ∧ (ys ++ rest).Perm xs ∧ ys.length = i, ⟨xs, n, rfl, by omega, by omega, List.Perm.refl _, rfl⟩, ?_, ?_⟩
  · rintro i x ys G ex ⟨rest, m, rfl, hm, hr1, hp, hy⟩
    obtain ⟨hi, rfl⟩ := rngD_at ex
    refine ⟨by omega, [(3, .int (0 + (i : Int)))], by simp, gs_name, ?_⟩
    show EY (cells c) _ [bagS a c m, .dat (.lst xs), .own rest, .dat (.int (0 + (i : Int)))] _
    refine ey_popAt (S1 := fun d G => (∃ j : Nat, j < rest.length ∧ d = .int (j : Nat)) ∧ G = [bagS a c (m + 1), .dat (.lst xs), .own rest, .dat (.int (0 + (i : Int)))]) ⟨rest, rfl⟩ (ey_bcall (j := 0) rfl (by omega) (eda_cons (ed_lenO (ds := rest) rfl) eda_nil) ⟨rest.length, by omega, by omega, rfl, rfl⟩) (fun d G ⟨⟨j, hj, ed⟩, eG⟩ => ⟨rest, j, rest[j], ed, by rw [eG]; rfl, List.getElem?_eq_getElem hj, by omega, rest.eraseIdx j, m + 1, by rw [eG]; rfl, by omega, ?_, ?_, ?_⟩)
    · rw [List.length_eraseIdx_of_lt hj]
      omega
    · rw [List.append_assoc]
      refine List.Perm.trans (List.Perm.append_left ys ?_) hp
      exact perm_erase hj
    · rw [List.length_append, hy]
      rfl
  · rintro ys G ⟨rest, m, rfl, hm, hr1, hp, hy⟩
    rw [rngD_len] at hm hr1 hy
    have e : rest = [] := List.eq_nil_of_length_eq_zero (by omega)
    rw [e, List.append_nil] at hp
    exact ⟨⟨ys, rfl, hp⟩, m, by omega, rfl⟩
theorem sc_law_words : FnScope ["letters", "length", "found", "k", "longer", "word", "a"] ["letters", "length"] (defScope s_law_words) := ⟨rfl, rfl, rfl, by decide +kernel, rfl, by decide +kernel, by decide +kernel⟩
theorem ok_law_words (T : Txt K mg) : Cal P w K mg base "_law_words" 1 (psp F_law_words) := by
  refine psp_mk T.d_law_words T.g_law_words sc_law_words (fun _ _ _ _ _ _ us hl => match us, hl with | [_, _], _ => rfl) (fun ds d ⟨_, _, _, _, _, e, _⟩ => by rw [e] <;> rfl) (fun cdv A outer s H E hr => ⟨_, (pss_cons (ps_set (i := 2) sc_law_words.nd rfl (Or.inl rfl) (pe_lst (pa_cons (pe_tup pa_nil) pa_nil)))
    (pss_cons (ps_for PassesOwn.never rfl (pi_range1 (by rfl) T.b_range (pa_cons (pv 1) pa_nil)) (pg_name (i := 3) sc_law_words.nd rfl (Or.inl rfl))
      (pss_cons (ps_set (i := 4) sc_law_words.nd rfl (Or.inl rfl) (pe_lst pa_nil))
        (pss_cons (ps_for PassesOwn.never rfl (pi_seqK K (pv 2)) (pg_name (i := 5) sc_law_words.nd rfl (Or.inr rfl))
          (pss_one (ps_expr (pe_bmK K PySem.F.plainAttrs_list PySem.F.slot_list_extend PySem.F.type_list_extend mt_extend (pv 4) (pa_cons (pe_lc (own := [("a", 6)]) (g := gName 6) rfl sc_law_words.nd  (pi_range1 (by rfl) T.b_range (pa_cons (pv 0) pa_nil)) (blkOk_by (N := ["letters", "length", "found", "k", "longer", "word", "a"]) (sc := defScope s_law_words) (by decide +kernel)) (fun _ _ _ _ _ => (pg_name (i := 6) sc_law_words.nd rfl (Or.inl rfl))) (fun _ _ _ _ _ => pts_nil) (fun _ _ _ _ _ => (pe_op (op_addK K) (pv 5) (pe_tup (pa_cons (pv 6) pa_nil))))) pa_nil)))))
        (pss_one (ps_set (i := 2) sc_law_words.nd rfl (Or.inl rfl) (pe_callTy (call_listK K) (by rfl) T.b_list (by decide +kernel) (pa_cons (pv 4) pa_nil)))))))
    (pss_one (ps_ret (pv 2))))), ?_⟩)
  intro B0 H0 ds d h
  obtain ⟨b, n, hb, hbn, hn, rfl, rfl⟩ := h
  have hpow : ∀ k, k ≤ n → b ^ k ≤ 90 := fun k hk => Nat.le_trans (Nat.pow_le_pow_right hb hk) hbn
  show SS triv B0 H0 _ [.dat (.int (b : Nat)), .dat (.int (n : Nat)), .no, .no, .no, .no, .no] _ _ _ _
  refine ss_seq (ssd_asgO (ds := [wd []]) (edl_lst (eda_cons (ed_tup eda_nil) eda_nil)) ?_)
  refine ss_freeze 2 rfl ?_
  show SS triv B0 H0 _ [.dat (.int (b : Nat)), .dat (.int (n : Nat)), .dat (.lst ((allW b 0).map wd)), .no, .no, .no, .no] _ _ _ _
  refine ss_seq (ssd_for (xs := rngD 0 n) (P := fun i Γ => ∃ s3 s4 s5 s6, Γ = [.dat (.int (b : Nat)), .dat (.int (n : Nat)), .dat (.lst ((allW b i).map wd)), s3, s4, s5, s6]) (wid_rng1 (n := (n : Int)) (eda_cons (ed_var rfl) eda_nil) (by omega) (by omega)) ⟨_, _, _, _, rfl⟩ ?_ ?_)
  · rintro i x Γ ex ⟨s3, s4, s5, s6, rfl⟩
    obtain ⟨hi, rfl⟩ := rngD_at ex
    refine ⟨_, gs_name, ?_⟩
    have hi1 := hpow (i + 1) (by omega)
    have hi0 := hpow i (by omega)
    have hb90 : b ≤ 90 := by
      have := hpow 1 (by omega)
      rw [Nat.pow_one] at this
      exact this
    show SS triv B0 H0 _ [.dat (.int (b : Nat)), .dat (.int (n : Nat)), .dat (.lst ((allW b i).map wd)), .dat (.int (0 + (i : Int))), s4, s5, s6] _ _ _ _
    refine ss_seq (ssd_asgO (ds := []) (edl_lst eda_nil) ?_)
    refine ss_seq (ssd_for (xs := (allW b i).map wd) (P := fun j Γ => ∃ s5 s6, Γ = [.dat (.int (b : Nat)), .dat (.int (n : Nat)), .dat (.lst ((allW b i).map wd)), .dat (.int (0 + (i : Int))), .own ((((allW b i).take j).flatMap fun l => (List.range b).map fun a => l ++ [a]).map wd), s5, s6]) (wid_seq (.inl rfl) (ed_var rfl)) ⟨_, _, rfl⟩ ?_ ?_)
    · rintro j x Γ ex ⟨s5, s6, rfl⟩
      rw [List.getElem?_map] at ex
      cases el : (allW b i)[j]? with
      | none =>
        rw [el] at ex
        cases ex
      | some l =>
        rw [el] at ex
        have ex : wd l = x := Option.some.inj ex
        subst ex
        refine ⟨_, gs_name, ?_⟩
        have hl : l.length = i := ((allW_mem b i l).mp (List.mem_of_getElem? el)).1
        show SS triv B0 H0 _ [.dat (.int (b : Nat)), .dat (.int (n : Nat)), .dat (.lst ((allW b i).map wd)), .dat (.int (0 + (i : Int))), .own ((((allW b i).take j).flatMap fun l => (List.range b).map fun a => l ++ [a]).map wd), .dat (wd l), s6] _ _ _ _
        have etk : (allW b i).take (j + 1) = (allW b i).take j ++ [l] := by
          rw [List.take_add_one, el]
          rfl
        refine ss_extend rfl (S := fun es => es = ((List.range b).map fun a => l ++ [a]).map wd) ?_ (fun es ee => ?_)
        · rw [List.map_map]
          refine edl_map1 (xs := List.range b) (fun (x : Nat) => D.int (0 + (x : Int))) _ (wid_rng1 (n := (b : Int)) (eda_cons (ed_var rfl) eda_nil) (by omega) (by omega)) (by rw [List.length_range]; omega) fun x hx => ?_
          refine (ed_op (ed_var rfl) (ed_tup (eda_cons (ed_var rfl) eda_nil)) (od_addT (ds := l.map fun (a : Nat) => .int (a : Int)) (es := [.int (0 + (x : Int))]) (by rw [List.length_map]; simp; omega))).is ?_
          show D.tup _ = D.tup _
          rw [List.map_append, Int.zero_add]
          rfl
        · subst ee
          have hlen : ((((allW b i).take (j + 1)).flatMap fun l => (List.range b).map fun a => l ++ [a])).length ≤ 90 := by
            refine Nat.le_trans ?_ hi1
            rw [← allW_len b (i + 1)]
            show _ ≤ ((allW b i).flatMap fun l => (List.range b).map fun a => l ++ [a]).length
            conv => rhs; rw [← List.take_append_drop (j + 1) (allW b i), List.flatMap_append, List.length_append]
            omega
          rw [etk, List.flatMap_append, List.flatMap_cons, List.flatMap_nil, List.append_nil] at hlen
          refine ⟨?_, .dat (wd l), s6, ?_⟩
          · rw [List.length_map, List.length_map, ← List.length_append]
            omega
          · rw [etk, List.flatMap_append, List.flatMap_cons, List.flatMap_nil, List.append_nil, List.map_append]
            rfl
    · rintro Γ ⟨s5, s6, rfl⟩
      rw [List.length_map, List.take_length]
      refine ss_freeze 4 rfl ?_
      exact ssd_asg (ed_of_el (ell_cb (eda_cons (ed_var rfl) eda_nil) (cl_list (.inl rfl)))) ⟨_, _, _, _, rfl⟩
  · rintro Γ ⟨s3, s4, s5, s6, rfl⟩
    rw [rngD_len]
    exact ssd_ret (ed_var rfl) rfl
end
end K82
set_option Elab.async false
set_option linter.all false
set_option maxRecDepth 100000
set_option maxHeartbeats 2000000
namespace K82
open PySem PySem.Spec PyProof.Rows L2 Evl Dl K82Head TL
local macro_rules | `(tactic| walk_at "ed") => `(tactic| first
  | exact ed_var rfl | exact ed_int | exact ed_str | exact ed_bl | exact ed_non | exact eda_nil | exact edo_none
  | exact od_add | exact od_sub | exact od_lt | exact od_le | exact od_gt | exact od_ge | exact od_eqi | exact od_nei | exact od_eqs | exact od_nes | exact od_isN | exact od_notN | exact cd_int | exact cd_abs | exact cd_max2 | exact cd_gcd
  | ((with_reducible apply eda_cons) <;> walk_at "ed") | ((with_reducible apply ed_op) <;> walk_at "ed") | ((with_reducible apply ed_cb) <;> walk_at "ed") | ((with_reducible apply eb_test) <;> walk_at "ed") | ((with_reducible apply eb_tru) <;> walk_at "ed") | ((with_reducible apply ed_tup) <;> walk_at "ed")
  | ((with_reducible apply ed_neg) <;> walk_at "ed") | ((with_reducible apply eb_not) <;> walk_at "ed") | ((with_reducible apply edl_lst) <;> walk_at "ed") | ((with_reducible apply edo_some) <;> walk_at "ed") | ((with_reducible apply ed_call) <;> walk_at "ed")
  | (apply od_mul; assumption) | (apply od_rem; omega) | (apply od_div <;> omega) | (apply od_ixT; rfl) | (apply od_ixL; rfl)
  | (with_reducible exact True.intro) | (simp; done) | skip)
/-! ### terms that are drawn -/
def Tm.lvs : Tm → Nat
  | .lf _ => 1
  | .nd _ a b => a.lvs + b.lvs
theorem lvs_pos : ∀ t : Tm, 1 ≤ t.lvs
  | .lf _ => Nat.le_refl _
  | .nd _ a b => by
    show 1 ≤ a.lvs + b.lvs
    have := lvs_pos a
    omega
theorem toks_lvs : ∀ t : Tm, t.toks.length + 3 = 4 * t.lvs
  | .lf _ => rfl
  | .nd _ a b => by
    show (Tok.lp :: (a.toks ++ .sg _ :: (b.toks ++ [.rp]))).length + 3 = 4 * (a.lvs + b.lvs)
    simp only [List.length_cons, List.length_append, List.length_nil]
    have := toks_lvs a
    have := toks_lvs b
    omega
theorem ops_lvs : ∀ t : Tm, opsN t.post + 1 = t.lvs
  | .lf _ => rfl
  | .nd _ a b => by
    show opsN (a.post ++ b.post ++ [Po.op _]) + 1 = a.lvs + b.lvs
    rw [opsN_app, opsN_app]
    have := ops_lvs a
    have := ops_lvs b
    show opsN a.post + opsN b.post + 1 + 1 = _
    omega
theorem post_lvs : ∀ t : Tm, t.post.length + 1 = 2 * t.lvs
  | .lf _ => rfl
  | .nd _ a b => by
    show (a.post ++ b.post ++ [Po.op _]).length + 1 = 2 * (a.lvs + b.lvs)
    rw [List.length_append, List.length_append]
    have := post_lvs a
    have := post_lvs b
    show a.post.length + b.post.length + 1 + 1 = _
    omega
theorem hasY_nd (s : Sg) (a b : Tm) : (Tm.nd s a b).hasY = (a.hasY || b.hasY) := by
  unfold Tm.hasY
  show decide (Tok.lf Lf.y ∈ Tok.lp :: (a.toks ++ .sg s :: (b.toks ++ [.rp]))) = _
  rw [Bool.eq_iff_iff]
  simp [List.mem_append]
def tD (t : Tm) : D := .lst (toksD t.toks)
theorem nd_toks (s : Sg) (a b : Tm) : ([D.str "("] ++ toksD a.toks ++ [D.str s.z] ++ toksD b.toks) ++ [D.str ")"] = toksD (Tm.nd s a b).toks := by
  show _ = toksD (Tok.lp :: (a.toks ++ .sg s :: (b.toks ++ [.rp])))
  unfold toksD
  simp only [List.map_cons, List.map_append, List.map_nil, List.append_assoc, List.cons_append, List.nil_append]
  rfl
theorem tmS : (["+", "-", "*", "/", "*"] : List Str).map D.str = [Sg.add, .sub, .mul, .dvd, .mul].map fun s => D.str s.z := rfl
/-- two neighbours become one -/
theorem sum_merge {α : Type} (f : α → Nat) : ∀ (l : List α) (i : Nat) (h : i + 1 < l.length) (x : α), f x = f (l[i]'(by omega)) + f l[i + 1] → (((l.eraseIdx (i + 1)).set i x).map f).sum = (l.map f).sum
  | [], i, h, x, e => by simp at h
  | [a], i, h, x, e => by simp at h
  | a :: b :: l, 0, h, x, e => by
    show f x + (l.map f).sum = f a + (f b + (l.map f).sum)
    have e : f x = f a + f b := e
    omega
  | a :: b :: l, i + 1, h, x, e => by
    have z := sum_merge f (b :: l) i (by simpa using h) x e
    show f a + (((((b :: l).eraseIdx (i + 1)).set i x)).map f).sum = f a + ((b :: l).map f).sum
    rw [z]
theorem map_erase {α β : Type} (f : α → β) : ∀ (l : List α) (i : Nat), (l.map f).eraseIdx i = (l.eraseIdx i).map f
  | [], i => by simp
  | x :: l, 0 => rfl
  | x :: l, i + 1 => by
    show f x :: (l.map f).eraseIdx i = f x :: (l.eraseIdx i).map f
    rw [map_erase f l i]
theorem le_sum_map {α : Type} (f : α → Nat) : ∀ (l : List α) (x : α), x ∈ l → f x ≤ (l.map f).sum
  | y :: l, x, h => by
    rw [List.map_cons, List.sum_cons]
    rcases List.mem_cons.mp h with rfl | h
    · omega
    · have := le_sum_map f l x h
      omega
def F_term (ds : List D) (S : D → Prop) : Prop := ∃ ls : List Lf, 1 ≤ ls.length ∧ ls.length ≤ 5 ∧ ds = [.lst (ls.map fun l => .str l.z)] ∧ S = fun d => ∃ t : Tm, t.lvs = ls.length ∧ (t.hasY = true → Lf.y ∈ ls) ∧ d = tD t
section
variable {P : Program} {w : World} {K : PySem.W.Frag} {mg : Str → Option Value} {base : Heap}
theorem sc_law_term : FnScope ["bag", "leaves", "parts", "k", "i", "two", "leaf"] ["bag", "leaves"] (defScope s_law_term) := ⟨rfl, rfl, rfl, by decide +kernel, rfl, by decide +kernel, by decide +kernel⟩
abbrev GT (a c : Addr) (m : Nat) (ls : List Lf) (ts : List Tm) (s3 s4 s5 : Sl) : List Sl := [bagS a c m, .dat (.lst (ls.map fun l => .str l.z)), .own (ts.map tD), s3, s4, s5, .no]
theorem ok_law_term (T : Txt K mg) : Cal P w K mg base "_law_term" 3 (bsp 10 F_term) := by
  have c_law_draw := ok_law_draw (P := P) (w := w) (base := base) T
  have c_law_of := ok_law_of (P := P) (w := w) (base := base) T
  refine bsp_mk T.d_law_term T.g_law_term sc_law_term (fun _ _ _ _ _ _ us hl => match us, hl with | [_, _], _ => rfl) (fun ds S ⟨_, _, _, e, _⟩ => by rw [e] <;> rfl) (fun cdv A outer s H E hr => ⟨_, (pss_cons (ps_setLc (i := 2) (own := [("leaf", 6)]) (g := gName 6) rfl sc_law_term.nd rfl rfl (sw_true rfl rfl rfl (by decide +kernel)) (pi_seqK K (pv 1)) (blkOk_by (N := ["bag", "leaves", "parts", "k", "i", "two", "leaf"]) (sc := defScope s_law_term) (by decide +kernel)) (fun _ _ _ _ _ => (pg_name (i := 6) sc_law_term.nd rfl (Or.inl rfl))) (fun _ _ _ _ _ => pts_nil) (fun _ _ _ _ _ => (pe_lst (pa_cons (pv 6) pa_nil))))
    (pss_cons (ps_for PassesOwn.never rfl (pi_range1 (by rfl) T.b_range (pa_cons (pe_op op_sub (pe_callB (call_lenK K) (by rfl) T.b_len (by decide +kernel) (pa_cons (pv 1) pa_nil)) pe_int) pa_nil)) (pg_name (i := 3) sc_law_term.nd rfl (Or.inl rfl))
      (pss_cons (ps_set (i := 4) sc_law_term.nd rfl (Or.inl rfl) (pe_cal c_law_draw (hr.mono (by decide)) rfl (pa_cons (pv 0) (pa_cons (pe_op op_sub (pe_callB (call_lenK K) (by rfl) T.b_len (by decide +kernel) (pa_cons (pv 2) pa_nil)) pe_int) pa_nil))))
        (pss_cons (ps_set (i := 5) sc_law_term.nd rfl (Or.inl rfl) (pe_bmK K PySem.F.plainAttrs_list PySem.F.slot_list_pop PySem.F.type_list_pop mt_popAt (pv 2) (pa_cons (pe_op (op_addK K) (pv 4) pe_int) pa_nil)))
        (pss_one (ps_asg (pe_op (op_addK K) (pe_op (op_addK K) (pe_op (op_addK K) (pe_op (op_addK K) (pe_lst (pa_cons pe_str pa_nil)) (pe_ix (ix_seqK K) (pv 2) (pv 4) (fun _ _ => rfl))) (pe_lst (pa_cons (pe_cal c_law_of (hr.mono (by decide)) rfl (pa_cons (pv 0) (pa_cons (pe_lst (pa_cons pe_str (pa_cons pe_str (pa_cons pe_str (pa_cons pe_str (pa_cons pe_str pa_nil)))))) pa_nil))) pa_nil))) (pv 5)) (pe_lst (pa_cons pe_str pa_nil))) (pg_sub (pv 2) (pv 4) set_list))))))
    (pss_one (ps_ret (pe_ix (ix_seqK K) (pv 2) pe_int (fun _ _ => rfl)))))), ?_⟩)
  intro B0 H0 a c n ds S hf hac hn
  obtain ⟨ls, h1, h5, rfl, rfl⟩ := hf
  show SX (cells c) B0 H0 _ [bagS a c n, .dat (.lst (ls.map fun l => .str l.z)), .no, .no, .no, .no, .no] _ _
  refine sx_seqS (ssd_asgO (ds := (ls.map Tm.lf).map tD) ?_ ?_)
  · rw [List.map_map]
    exact edl_map1 (xs := ls) (fun l => D.str l.z) _ (wid_seq (.inl rfl) (ed_var rfl)) (by omega) fun l _ => ed_of_el (edl_lst (ds := [D.str l.z]) (eda_cons (ed_var rfl) eda_nil))
  show SX (cells c) B0 H0 _ (GT a c n ls (ls.map Tm.lf) .no .no .no) _ _
  refine sx_seqS (ssd_for (xs := rngD 0 (ls.length - 1)) (P := fun i Γ => ∃ (ts : List Tm) (m : Nat) (s3 s4 s5 : Sl), Γ = GT a c m ls ts s3 s4 s5 ∧ m ≤ n + 2 * i ∧ ts.length + i = ls.length ∧ (ts.map Tm.lvs).sum = ls.length ∧ ∀ t ∈ ts, t.hasY = true → Lf.y ∈ ls) ?_ ⟨ls.map Tm.lf, n, _, _, _, rfl, by omega, by rw [List.length_map]; rfl, ?_, ?_⟩ ?_ ?_)
  · have z := wid_rng1 (R := cells c) (Γ := GT a c n ls (ls.map Tm.lf) .no .no .no) (ta := tCons (tOp (rI0 fun i j => .int (i - j)) (tCB (fun xs H Q => ∃ x n, xs = [x] ∧ LenV K x H n ∧ Q (.int n) H) (tCons (tVar 1) tNil)) (tC (.int 1))) tNil) (n := (ls.length : Int) - 1) (eda_cons ((ed_op (ed_lenL (ds := ls.map fun l => .str l.z) (ed_var rfl)) ed_int od_sub).is (by rw [List.length_map])) eda_nil) (by omega) (by omega)
    rw [show ((ls.length : Int) - 1).toNat = ls.length - 1 by omega] at z
    exact z
  · rw [List.map_map]
    have : ∀ l : List Lf, (l.map (Tm.lvs ∘ Tm.lf)).sum = l.length := fun l => by
      induction l with
      | nil => rfl
      | cons x r ih =>
        rw [List.map_cons, List.sum_cons, ih, List.length_cons]
        show 1 + r.length = _
        omega
    exact this ls
  · intro t ht hy
    obtain ⟨l, hl, rfl⟩ := List.mem_map.mp ht
    have : l = .y := by
      unfold Tm.hasY Tm.toks at hy
      simpa [eq_comm] using hy
    rw [← this]
    exact hl
  · rintro i x Γ ex ⟨ts, m, s3, s4, s5, rfl, hm, hlen, hsum, hy⟩
    obtain ⟨hi, rfl⟩ := rngD_at ex
    refine ⟨_, gs_name, ?_⟩
    show SS (cells c) B0 H0 _ (GT a c m ls ts (.dat (.int (0 + (i : Int)))) s4 s5) _ _ _ _
    refine ss_seq (ss_asgY (ey_bcall (j := 0) rfl (by omega) (eda_cons ((ed_op (ed_lenO (ds := ts.map tD) rfl) ed_int od_sub).is (y := .int ((ts.length - 1 : Nat) : Int)) (by rw [List.length_map]; congr 1; omega)) eda_nil) ⟨ts.length - 1, by omega, by omega, rfl, rfl⟩) ?_)
    rintro d G ⟨⟨j, hj, rfl⟩, rfl⟩
    show SS (cells c) B0 H0 _ (GT a c (m + 1) ls ts (.dat (.int (0 + (i : Int)))) (.dat (.int (j : Nat))) s5) _ _ _ _
    have hj1 : j + 1 < ts.length := by omega
    refine ss_seq (ss_asgY (S := fun d G => d = tD ts[j + 1] ∧ G = GT a c (m + 1) ls (ts.eraseIdx (j + 1)) (.dat (.int (0 + (i : Int)))) (.dat (.int (j : Nat))) s5) (ey_popAt ⟨_, rfl⟩ (ey_ed ((ed_op (ed_var rfl) ed_int od_add).is (y := .int ((j + 1 : Nat) : Int)) rfl)) fun d G ⟨ed, eG⟩ => ⟨ts.map tD, j + 1, tD ts[j + 1], ed, by rw [eG]; rfl, by rw [List.getElem?_map, List.getElem?_eq_getElem hj1]; rfl, by rw [List.length_map]; omega, rfl, ?_⟩) ?_)
    · rw [eG, map_erase]
      rfl
    rintro d G ⟨rfl, rfl⟩
    show SS (cells c) B0 H0 _ (GT a c (m + 1) ls (ts.eraseIdx (j + 1)) (.dat (.int (0 + (i : Int)))) (.dat (.int (j : Nat))) (.dat (tD ts[j + 1]))) _ _ _ _
    have hje : j < (ts.eraseIdx (j + 1)).length := by
      rw [List.length_eraseIdx_of_lt hj1]
      omega
    have ege : (ts.eraseIdx (j + 1))[j]? = some (ts[j]'(by omega)) := by
      rw [List.getElem?_eraseIdx_of_lt (by omega), List.getElem?_eq_getElem]
    have len5 : ∀ t ∈ ts, t.toks.length ≤ 20 := fun t ht => by
      have h1 : t.lvs ≤ (ts.map Tm.lvs).sum := le_sum_map Tm.lvs ts t ht
      have h2 := toks_lvs t
      omega
    have la := len5 _ (List.getElem_mem (show j < ts.length by omega))
    have lb := len5 _ (List.getElem_mem hj1)
    have dl : ∀ t : Tm, (toksD t.toks).length = t.toks.length := fun t => by
      unfold toksD
      rw [List.length_map]
    refine ss_setOY (S := fun d G => (∃ s : Sg, d = tD (.nd s (ts[j]'(by omega)) ts[j + 1])) ∧ G = GT a c (m + 1 + 1) ls (ts.eraseIdx (j + 1)) (.dat (.int (0 + (i : Int)))) (.dat (.int (j : Nat))) (.dat (tD ts[j + 1]))) ?_ ?_
    · generalize ha : ts[j]'(by omega) = ta at la ege ⊢
      generalize hb : ts[j + 1] = tb at lb ⊢
      let G1 : List Sl := GT a c (m + 1) ls (ts.eraseIdx (j + 1)) (.dat (.int (0 + (i : Int)))) (.dat (.int (j : Nat))) (.dat (tD tb))
      let G2 : List Sl := GT a c (m + 1 + 1) ls (ts.eraseIdx (j + 1)) (.dat (.int (0 + (i : Int)))) (.dat (.int (j : Nat))) (.dat (tD tb))
      have e1 : ED (cells c) (tOp (rAddU K) (tLst (tCons (tC (.str "(")) tNil)) (tOp (rIx K) (tVar 2) (tVar 4))) G1 (.lst ([D.str "("] ++ toksD ta.toks)) := ed_of_el (el_op (ed_of_el (edl_lst (ds := [D.str "("]) (eda_cons ed_str eda_nil))) (ed_ixO (ds := (ts.eraseIdx (j + 1)).map tD) (n := (j : Nat)) (d := tD ta) rfl (ed_var rfl) (L2.atI_nat (by rw [List.getElem?_map, ege]; rfl))) (ol_add (by rw [dl]; simp; omega)))
      have e2 : EY (cells c) (tOp (rAddU K) (tOp (rAddU K) (tLst (tCons (tC (.str "(")) tNil)) (tOp (rIx K) (tVar 2) (tVar 4))) (tLst (tCons (tCall (bsp 1 F_of) [] E0 (tCons (tVar 0) (tCons (tLst (tCons (tC (.str "+")) (tCons (tC (.str "-")) (tCons (tC (.str "*")) (tCons (tC (.str "/")) (tCons (tC (.str "*")) tNil)))))) tNil))) tNil))) G1 (fun d G => (∃ s : Sg, d = .lst ([D.str "("] ++ toksD ta.toks ++ [D.str s.z])) ∧ G = G2) := by
        refine ey_op (S2 := fun _ d G => (∃ s : Sg, d = .lst [D.str s.z]) ∧ G = G2) (ey_ed e1) (fun x G ⟨_, eG⟩ => ?_) (fun x G0 y G ⟨ex, _⟩ ⟨⟨s, ey⟩, eG⟩ => ?_)
        · rw [eG]
          refine ey_lst (ya_one (ey_bcall (j := 0) (ds := [.lst ((["+", "-", "*", "/", "*"] : List Str).map D.str)]) rfl (by omega) (eda_cons (ed_of_el (edl_lst (eda_cons ed_str (eda_cons ed_str (eda_cons ed_str (eda_cons ed_str (eda_cons ed_str eda_nil))))))) eda_nil) ⟨_, by simp, by simp, rfl, rfl⟩)) (fun ds G h => ?_) (fun ds G h => ?_)
          · obtain ⟨x, rfl, _⟩ := h
            simp
          · obtain ⟨x, rfl, hx, eG⟩ := h
            rw [tmS] at hx
            obtain ⟨s, _, rfl⟩ := List.mem_map.mp hx
            exact ⟨⟨s, rfl⟩, by rw [eG]; rfl⟩
        · rw [ex, ey]
          exact ops_of_opl (ol_add (by simp only [List.length_append, dl, List.length_cons, List.length_nil]; omega)) ⟨⟨s, rfl⟩, eG⟩
      have e3 := ey_op (R := cells c) (r := rAddU K) (tb := tVar 5) (S2 := fun _ d G => d = tD tb ∧ G = G2) (S := fun d G => (∃ s : Sg, d = .lst ([D.str "("] ++ toksD ta.toks ++ [D.str s.z] ++ toksD tb.toks)) ∧ G = G2) e2 (fun x G ⟨_, eG⟩ => by
        rw [eG]
        exact ey_ed (d := tD tb) (ed_var rfl)) (fun x G0 y G ⟨⟨s, ex⟩, eG0⟩ ⟨ey, eG⟩ => by
        rw [ex, ey]
        exact ops_of_opl (ol_add (by simp only [List.length_append, dl, List.length_cons, List.length_nil]; omega)) ⟨⟨s, rfl⟩, eG⟩)
      exact ey_op (R := cells c) (r := rAddU K) (S2 := fun _ d G => d = .lst [D.str ")"] ∧ G = G2) (S := fun d G => (∃ s : Sg, d = tD (.nd s ta tb)) ∧ G = G2) e3 (fun x G ⟨_, eG⟩ => by
        rw [eG]
        exact ey_ed (d := .lst [D.str ")"]) (ed_of_el (edl_lst (eda_cons ed_str eda_nil)))) (fun x G0 y G ⟨⟨s, ex⟩, eG0⟩ ⟨ey, eG⟩ => by
        rw [ex, ey]
        exact ops_of_opl (ol_add (by simp only [List.length_append, dl, List.length_cons, List.length_nil]; omega)) ⟨⟨s, by rw [nd_toks]; rfl⟩, eG⟩)
    · rintro x G ⟨⟨s, rfl⟩, rfl⟩
      refine ⟨(ts.eraseIdx (j + 1)).map tD, j, rfl, ed_var rfl, by rw [List.length_map]; exact hje, (ts.eraseIdx (j + 1)).set j (.nd s (ts[j]'(by omega)) ts[j + 1]), m + 1 + 1, .dat (.int (0 + (i : Int))), .dat (.int (j : Nat)), .dat (tD ts[j + 1]), ?_, by omega, ?_, ?_, ?_⟩
      · rw [← List.map_set]
        rfl
      · rw [List.length_set, List.length_eraseIdx_of_lt hj1]
        omega
      · rw [sum_merge Tm.lvs ts j hj1 _ rfl]
        exact hsum
      · intro t ht hyt
        rcases List.mem_or_eq_of_mem_set ht with ht | rfl
        · exact hy t (List.mem_of_mem_eraseIdx ht) hyt
        · rw [hasY_nd, Bool.or_eq_true] at hyt
          rcases hyt with h | h
          · exact hy _ (List.getElem_mem _) h
          · exact hy _ (List.getElem_mem _) h
  · rintro Γ ⟨ts, m, s3, s4, s5, rfl, hm, hlen, hsum, hy⟩
    rw [rngD_len] at hm hlen
    obtain ⟨t, ht⟩ : ∃ t, ts = [t] := by
      cases ts with
      | nil =>
        rw [List.length_nil] at hlen
        omega
      | cons t r =>
        cases r with
        | nil => exact ⟨t, rfl⟩
        | cons u r =>
          rw [List.length_cons, List.length_cons] at hlen
          omega
    subst ht
    refine sxd_ret (ed_ixO (ds := [t].map tD) rfl ed_int atI_hd) ⟨⟨t, ?_, hy t (by simp), rfl⟩, m, by omega, rfl⟩
    rw [← hsum]
    simp
end
end K82
set_option Elab.async false
set_option linter.all false
set_option maxRecDepth 100000
set_option maxHeartbeats 2000000
namespace K82
open PySem PySem.Spec PyProof.Rows L2 Evl Dl K82Head TL
local macro_rules | `(tactic| walk_at "ed") => `(tactic| first
  | exact ed_var rfl | exact ed_int | exact ed_str | exact ed_bl | exact ed_non | exact eda_nil | exact edo_none
  | exact od_add | exact od_sub | exact od_lt | exact od_le | exact od_gt | exact od_ge | exact od_eqi | exact od_nei | exact od_eqs | exact od_nes | exact od_isN | exact od_notN | exact cd_int | exact cd_abs | exact cd_max2 | exact cd_gcd
  | ((with_reducible apply eda_cons) <;> walk_at "ed") | ((with_reducible apply ed_op) <;> walk_at "ed") | ((with_reducible apply ed_cb) <;> walk_at "ed") | ((with_reducible apply eb_test) <;> walk_at "ed") | ((with_reducible apply eb_tru) <;> walk_at "ed") | ((with_reducible apply ed_tup) <;> walk_at "ed")
  | ((with_reducible apply ed_neg) <;> walk_at "ed") | ((with_reducible apply eb_not) <;> walk_at "ed") | ((with_reducible apply edl_lst) <;> walk_at "ed") | ((with_reducible apply edo_some) <;> walk_at "ed") | ((with_reducible apply ed_call) <;> walk_at "ed")
  | (apply od_mul; assumption) | (apply od_rem; omega) | (apply od_div <;> omega) | (apply od_ixT; rfl) | (apply od_ixL; rfl)
  | (with_reducible exact True.intro) | (simp; done) | skip)
/-! ### goals -/
def lx : Tm := .lf .x
def ly : Tm := .lf .y
def goals1 : List Tm := [.nd .mul lx lx, .nd .dvd (.lf .n1) (.nd .add lx (.lf .n1)), .nd .dvd lx (.lf .n3), lx, .nd .mul (.nd .mul lx lx) lx, .nd .dvd (.lf .n1) (.nd .sub lx (.lf .n12)), .nd .dvd (.lf .n1) lx, .nd .mul lx (.nd .sub lx (.lf .n1)), .lf .n23,
  .nd .dvd lx (.nd .sub (.lf .n1) lx), .nd .mul (.nd .add lx (.lf .n13)) (.nd .sub lx (.lf .n2))]
def goals2 : List Tm := [.nd .mul lx ly, .nd .dvd lx (.nd .add ly (.lf .n1)), .nd .add lx ly, .nd .mul lx lx, ly, .nd .dvd (.lf .n1) (.nd .sub lx ly), .nd .dvd (.lf .n1) (.nd .sub ly (.lf .n12)), .nd .sub (.nd .mul lx ly) ly, .nd .mul ly ly,
  .nd .mul (.nd .sub lx ly) (.nd .add lx ly)]
def goalsOf (u : Nat) : List Tm := if u = 1 then goals1 else goals2
theorem goals1_text : (["( x * x )", "( 1 / ( x + 1 ) )", "( x / 3 )", "x", "( ( x * x ) * x )", "( 1 / ( x - 1/2 ) )", "( 1 / x )", "( x * ( x - 1 ) )", "2/3", "( x / ( 1 - x ) )", "( ( x + 1/3 ) * ( x - 2 ) )"] : List Str) = goals1.map (textOf false) := by decide +kernel
theorem goals2_text : (["( x * y )", "( x / ( y + 1 ) )", "( x + y )", "( x * x )", "y", "( 1 / ( x - y ) )", "( 1 / ( y - 1/2 ) )", "( ( x * y ) - y )", "( y * y )", "( ( x - y ) * ( x + y ) )"] : List Str) = goals2.map (textOf false) := by decide +kernel
structure GoalOk (t : Tm) (u : Nat) : Prop where
  lv : t.lvs ≤ 5
  wd : t.wid ≤ u
theorem goals_ok {u : Nat} (hu : u = 1 ∨ u = 2) : ∀ t ∈ goalsOf u, GoalOk t u := by
  have h1 : ∀ t ∈ goals1, t.lvs ≤ 5 ∧ t.wid ≤ 1 := by decide +kernel
  have h2 : ∀ t ∈ goals2, t.lvs ≤ 5 ∧ t.wid ≤ 2 := by decide +kernel
  rcases hu with rfl | rfl
  · exact fun t ht => ⟨(h1 t ht).1, (h1 t ht).2⟩
  · exact fun t ht => ⟨(h2 t ht).1, (h2 t ht).2⟩
theorem goals_ne (u : Nat) : goalsOf u ≠ [] ∧ (goalsOf u).length ≤ 11 := by
  unfold goalsOf
  by_cases h : u = 1
  · rw [if_pos h]
    exact ⟨by decide, by decide⟩
  · rw [if_neg h]
    exact ⟨by decide, by decide⟩
def leaves (u : Nat) : List Lf := [.x, .x, if u = 2 then .y else .n1, .n12, .m1, .n3, .n23, .m14]
def F_goal (ds : List D) (S : D → Prop) : Prop := ∃ u : Nat, (u = 1 ∨ u = 2) ∧ ds = [.int (u : Nat)] ∧ S = fun d => ∃ t : Tm, GoalOk t u ∧ d = .str (textOf false t)
theorem text_toks (t : Tm) : textOf false t = Txt.join " " (t.toks.map Tok.z) := rfl
section
variable {P : Program} {w : World} {K : PySem.W.Frag} {mg : Str → Option Value} {base : Heap}
theorem ey_draw {Γ : List Sl} {te : TE} {a c : Addr} {n sz : Nat} (e : Γ[0]? = some (bagS a c n)) (hn : n + 1 ≤ 2 ^ 60) (h : ED (cells c) te Γ (.int (sz : Nat))) (h0 : 0 < sz) (h1 : sz < 2 ^ 62) :
    EY (cells c) (tCall (bsp 1 F_draw) [] E0 (tCons (tVar 0) (tCons te tNil))) Γ fun d G => (∃ i : Nat, i < sz ∧ d = .int (i : Nat)) ∧ G = Γ.set 0 (bagS a c (n + 1)) := ey_bcall (j := 0) e hn (eda_cons h eda_nil) ⟨sz, h0, h1, rfl, rfl⟩
theorem sc_law_goal : FnScope ["bag", "width", "leaves", "goals", "k"] ["bag", "width"] (defScope s_law_goal) := ⟨rfl, rfl, rfl, by decide +kernel, rfl, by decide +kernel, by decide +kernel⟩
theorem ok_law_goal (T : Txt K mg) : Cal P w K mg base "_law_goal" 4 (bsp 20 F_goal) := by
  have c_law_draw := ok_law_draw (P := P) (w := w) (base := base) T
  have c_law_of := ok_law_of (P := P) (w := w) (base := base) T
  have c_law_term := ok_law_term (P := P) (w := w) (base := base) T
  refine bsp_mk T.d_law_goal T.g_law_goal sc_law_goal (fun _ _ _ _ _ _ us hl => match us, hl with | [_, _], _ => rfl) (fun ds S ⟨_, _, e, _⟩ => by rw [e] <;> rfl) (fun cdv A outer s H E hr => ⟨_, (pss_cons (ps_if (pt_cmpR (op_eqK K hr.units) (pv 1) pe_int (nomark _))
      (pss_one (ps_set (i := 3) sc_law_goal.nd rfl (Or.inl rfl) (pe_lst (pa_cons pe_str (pa_cons pe_str (pa_cons pe_str (pa_cons pe_str (pa_cons pe_str (pa_cons pe_str (pa_cons pe_str (pa_cons pe_str (pa_cons pe_str (pa_cons pe_str (pa_cons pe_str pa_nil))))))))))))))
      (pss_one (ps_set (i := 3) sc_law_goal.nd rfl (Or.inl rfl) (pe_lst (pa_cons pe_str (pa_cons pe_str (pa_cons pe_str (pa_cons pe_str (pa_cons pe_str (pa_cons pe_str (pa_cons pe_str (pa_cons pe_str (pa_cons pe_str (pa_cons pe_str pa_nil))))))))))))))
    (pss_cons (ps_if (pt_cmpR op_gt (pe_cal c_law_draw (hr.mono (by decide)) rfl (pa_cons (pv 0) (pa_cons pe_int pa_nil))) pe_int (nomark _))
      (pss_one (ps_ret (pe_cal c_law_of (hr.mono (by decide)) rfl (pa_cons (pv 0) (pa_cons (pv 3) pa_nil)))))
      pss_nil)
    (pss_cons (ps_setLc (i := 2) (own := [("k", 4)]) (g := gName 4) rfl sc_law_goal.nd rfl rfl (sw_true rfl rfl rfl (by decide +kernel)) (pi_range1 (by rfl) T.b_range (pa_cons (pe_op (op_addK K) pe_int (pe_cal c_law_draw (hr.mono (by decide)) rfl (pa_cons (pv 0) (pa_cons pe_int pa_nil)))) pa_nil)) (blkOk_by (N := ["bag", "width", "leaves", "goals", "k"]) (sc := defScope s_law_goal) (by decide +kernel)) (fun _ _ _ _ _ => (pg_name (i := 4) sc_law_goal.nd rfl (Or.inl rfl))) (fun _ _ _ _ _ => pts_nil) (fun _ _ _ _ _ => (pe_cal c_law_of (hr.mono (by decide)) rfl (pa_cons (pv 0) (pa_cons (pe_lst (pa_cons pe_str (pa_cons pe_str (pa_cons (pe_ifExp (pt_cmpR (op_eqK K hr.units) (pv 1) pe_int (nomark _)) pe_str pe_str) (pa_cons pe_str (pa_cons pe_str (pa_cons pe_str (pa_cons pe_str (pa_cons pe_str pa_nil))))))))) pa_nil)))))
    (pss_one (ps_ret (pe_joinK K pe_str (pe_cal c_law_term (hr.mono (by decide)) rfl (pa_cons (pv 0) (pa_cons (pv 2) pa_nil))))))))), ?_⟩)
  intro B0 H0 a c n ds S hf hac hn
  obtain ⟨u, hu, rfl, rfl⟩ := hf
  show SX (cells c) B0 H0 _ [bagS a c n, .dat (.int (u : Nat)), .no, .no, .no] _ _
  let G1 : Nat → List Sl := fun m => [bagS a c m, .dat (.int (u : Nat)), .no, .dat (.lst ((goalsOf u).map fun t => .str (textOf false t))), .no]
  have goal_str : ∀ {ts : List Tm} {zs : List Str}, zs = ts.map (textOf false) → zs.map D.str = ts.map fun t => D.str (textOf false t) := fun e => by
    rw [e, List.map_map]
    rfl
  refine sx_seqS (ss_imp (N' := fun G => G = G1 n) (ssd_if (eb_test (ed_op (ed_var rfl) ed_int od_eqi)) (fun h => ?_) (fun h => ?_)) (fun G eG => ?_))
  · rw [decide_eq_true_eq] at h
    have h1 : u = 1 := by omega
    refine ssd_asg (d := .lst ((goalsOf u).map fun t => .str (textOf false t))) ?_ rfl
    rw [show goalsOf u = goals1 by unfold goalsOf; rw [if_pos h1], ← goal_str goals1_text]
    exact ed_of_el (edl_lst (eda_strs _) (by simp))
  · rw [decide_eq_false_iff_not] at h
    have h1 : ¬ u = 1 := by omega
    refine ssd_asg (d := .lst ((goalsOf u).map fun t => .str (textOf false t))) ?_ rfl
    rw [show goalsOf u = goals2 by unfold goalsOf; rw [if_neg h1], ← goal_str goals2_text]
    exact ed_of_el (edl_lst (eda_strs _) (by simp))
  subst eG
  obtain ⟨gne, gl⟩ := goals_ne u
  refine sx_seq (sx_if (P := fun b G => G = G1 (n + 1)) (yb_test (ey_opC (ey_draw (Γ := G1 n) (sz := 3) rfl (by omega) ed_int (by omega) (by omega)) (fun _ _ _ => ed_int) (fun x G ⟨⟨i, hi, ex⟩, eG⟩ => ?_))) (fun G eG => ?_) (fun G eG => sx_next ?_))
  · rw [ex]
    exact ops_of od_gt ⟨_, rfl, eG⟩
  · subst eG
    refine sx_ret (ey_bcall (j := 0) rfl (by omega) (eda_cons (ed_var rfl) eda_nil) ⟨(goalsOf u).map fun t => .str (textOf false t), by simpa using gne, by rw [List.length_map]; omega, rfl, rfl⟩) (fun d G ⟨h1, h2⟩ => ?_)
    obtain ⟨t, ht, rfl⟩ := List.mem_map.mp h1
    exact ⟨⟨t, goals_ok hu t ht, rfl⟩, n + 1 + 1, by omega, by rw [h2]; rfl⟩
  subst eG
  let G2 : Nat → Sl → List Sl := fun m s => [bagS a c m, .dat (.int (u : Nat)), s, .dat (.lst ((goalsOf u).map fun t => .str (textOf false t))), .no]
  refine sx_seqS (ss_asgY (S := fun d G => ∃ (ls : List Lf) (m : Nat), 2 ≤ ls.length ∧ ls.length ≤ 4 ∧ (Lf.y ∈ ls → u = 2) ∧ d = .lst (ls.map fun l => .str l.z) ∧ m ≤ n + 6 ∧ G = G2 m .no) (ey_lc (wy_rng1 (P := fun ds G => ∃ i : Nat, i < 3 ∧ ds = [.int ((2 + i : Nat) : Int)] ∧ G = G1 (n + 2)) ((ya_one (S := fun d G => ∃ i : Nat, i < 3 ∧ d = .int ((2 + i : Nat) : Int) ∧ G = G1 (n + 2)) (ey_opL ed_int (ey_draw (Γ := G1 (n + 1)) (sz := 3) rfl (by omega) ed_int (by omega) (by omega)) (fun y G ⟨⟨i, hi, ey⟩, eG⟩ => by
      rw [ey]
      exact ops_of od_add ⟨i, hi, by congr 1, eG⟩))).imp fun ds G ⟨x, e, i, hi, ex, eG⟩ => ⟨i, hi, by rw [e, ex], eG⟩) (fun ds G ⟨i, hi, e, _⟩ => ⟨2 + i, e, by omega⟩)) fun xs G0 ⟨k, ⟨i0, hi0, ek, eG⟩, exs⟩ => ?_) ?_)
  · have hk : k = 2 + i0 := by
      injection ek with ek _
      injection ek with ek
      omega
    subst eG exs hk
    refine ⟨fun i ys G => ∃ (ls : List Lf) (m : Nat), ys = (ls.map fun l => .str l.z) ∧ ls.length = i ∧ (Lf.y ∈ ls → u = 2) ∧ m ≤ n + 2 + i ∧ G = G2 m .no, ⟨[], n + 2, rfl, rfl, by simp, by omega, rfl⟩, ?_, ?_⟩
    · rintro i x ys G ex ⟨ls, m, rfl, hl, hy, hm, rfl⟩
      obtain ⟨hi, rfl⟩ := rngD_at ex
      refine ⟨by rw [List.length_map]; omega, [(4, .int (0 + (i : Int)))], by simp, gs_name, ?_⟩
      show EY (cells c) _ [bagS a c m, .dat (.int (u : Nat)), .no, .dat (.lst ((goalsOf u).map fun t => .str (textOf false t))), .dat (.int (0 + (i : Int)))] _
      refine EY.imp (Γ := [bagS a c m, .dat (.int (u : Nat)), .no, .dat (.lst ((goalsOf u).map fun t => .str (textOf false t))), .dat (.int (0 + (i : Int)))]) (ey_bcall (j := 0) (a := a) (c := c) (n := m) (kk := 1) (F := F_of) (S := fun d => d ∈ (leaves u).map fun l => D.str l.z) (ds := [.lst ((leaves u).map fun l => .str l.z)]) rfl (by omega) (eda_cons (ed_of_el (edl_lst (eda_cons ed_str (eda_cons ed_str (eda_cons ((ed_if (b := decide (u = 2)) ((eb_test (ed_op (ed_var rfl) ed_int od_eqi)).is (by rw [Bool.eq_iff_iff]; simp; omega)) (fun _ => ed_str) (fun _ => ed_str)).is (y := .str (if u = 2 then Lf.y else .n1).z) (by by_cases h : u = 2 <;> simp [h] <;> rfl)) (eda_cons ed_str (eda_cons ed_str (eda_cons ed_str (eda_cons ed_str (eda_cons ed_str eda_nil)))))))) (by simp [leaves]))) eda_nil) ⟨_, by simp [leaves], by simp [leaves], rfl, rfl⟩) fun d G' ⟨hd, eG⟩ => ?_
      obtain ⟨l, hl2, rfl⟩ := List.mem_map.mp hd
      refine ⟨ls ++ [l], m + 1, by rw [List.map_append]; rfl, by rw [List.length_append, hl]; rfl, fun h => ?_, by omega, by rw [eG]; rfl⟩
      rw [List.mem_append, List.mem_singleton] at h
      rcases h with h | h
      · exact hy h
      · subst h
        unfold leaves at hl2
        by_cases h : u = 2
        · exact h
        · simp [h] at hl2
    · rintro ys G ⟨ls, m, rfl, hl, hy, hm, eG⟩
      rw [rngD_len] at hl hm
      exact ⟨ls, m, by omega, by omega, hy, rfl, by omega, eG⟩
  · rintro d G ⟨ls, m, h2, h4, hy, rfl, hm, rfl⟩
    show SX (cells c) B0 H0 _ [bagS a c m, .dat (.int (u : Nat)), .dat (.lst (ls.map fun l => .str l.z)), .dat (.lst ((goalsOf u).map fun t => .str (textOf false t))), .no] _ _
    refine sx_ret (ey_join (ey_bcall (j := 0) rfl (by omega) (eda_cons (ed_var rfl) eda_nil) ⟨ls, by omega, by omega, rfl, rfl⟩) (S := fun d G => (∃ t : Tm, GoalOk t u ∧ d = .str (textOf false t)) ∧ G[0]? = some (bagS a c (m + 10))) fun d G ⟨⟨t, hlv, hyt, ed⟩, eG⟩ => ?_) (fun d G ⟨h1, h2⟩ => ⟨h1, m + 10, by omega, h2⟩)
    have htk := toks_lvs t
    refine ⟨t.toks.map Tok.z, ?_, ?_, ⟨t, ⟨by omega, ?_⟩, rfl⟩, by rw [eG]; rfl⟩
    · rw [ed]
      unfold tD toksD
      rw [List.map_map]
      rfl
    · have z := sum_le (n := 20) (k := 4) (l := t.toks.map Tok.z) (fun z hz => by
        obtain ⟨tk, _, rfl⟩ := List.mem_map.mp hz
        exact (tok_ok tk).2.1) (by rw [List.length_map]; omega)
      have e1 : (" " : Str).length = 1 := by decide
      rw [e1, List.length_map]
      omega
    · unfold Tm.wid
      by_cases h : t.hasY = true
      · rw [if_pos h, hy (hyt h)]
        exact Nat.le_refl _
      · rw [if_neg h]
        omega
end
end K82
set_option Elab.async false
set_option linter.all false
set_option maxRecDepth 100000
set_option maxHeartbeats 2000000
namespace K82
open PySem PySem.Spec PyProof.Rows L2 Evl Dl K82Head TL
local macro_rules | `(tactic| walk_at "ed") => `(tactic| first
  | exact ed_var rfl | exact ed_int | exact ed_str | exact ed_bl | exact ed_non | exact eda_nil | exact edo_none
  | exact od_add | exact od_sub | exact od_lt | exact od_le | exact od_gt | exact od_ge | exact od_eqi | exact od_nei | exact od_eqs | exact od_nes | exact od_isN | exact od_notN | exact cd_int | exact cd_abs | exact cd_max2 | exact cd_gcd
  | ((with_reducible apply eda_cons) <;> walk_at "ed") | ((with_reducible apply ed_op) <;> walk_at "ed") | ((with_reducible apply ed_cb) <;> walk_at "ed") | ((with_reducible apply eb_test) <;> walk_at "ed") | ((with_reducible apply eb_tru) <;> walk_at "ed") | ((with_reducible apply ed_tup) <;> walk_at "ed")
  | ((with_reducible apply ed_neg) <;> walk_at "ed") | ((with_reducible apply eb_not) <;> walk_at "ed") | ((with_reducible apply edl_lst) <;> walk_at "ed") | ((with_reducible apply edo_some) <;> walk_at "ed") | ((with_reducible apply ed_call) <;> walk_at "ed")
  | (apply od_mul; assumption) | (apply od_rem; omega) | (apply od_div <;> omega) | (apply od_ixT; rfl) | (apply od_ixL; rfl)
  | (with_reducible exact True.intro) | (simp; done) | skip)
/-! ### words that are drawn -/
theorem perm_map_inv {α β : Type} (f : α → β) : ∀ {ys zs : List β}, ys.Perm zs → ∀ xs : List α, zs = xs.map f → ∃ ws : List α, ys = ws.map f ∧ ws.Perm xs := fun {ys zs} h => by
  induction h with
  | nil =>
    intro xs e
    have : xs = [] := by
      cases xs with
      | nil => rfl
      | cons x r => cases e
    exact ⟨[], rfl, by rw [this]⟩
  | cons x _ ih =>
    intro xs e
    cases xs with
    | nil => cases e
    | cons y r =>
      rw [List.map_cons] at e
      injection e with e1 e2
      obtain ⟨ws, h1, h2⟩ := ih r e2
      exact ⟨y :: ws, by rw [List.map_cons, ← e1, ← h1], h2.cons y⟩
  | swap x y l =>
    intro xs e
    cases xs with
    | nil => cases e
    | cons a r =>
      cases r with
      | nil => rw [List.map_cons] at e; injection e with _ e; cases e
      | cons b r =>
        rw [List.map_cons, List.map_cons] at e
        injection e with e1 e
        injection e with e2 e3
        exact ⟨b :: a :: r, by rw [List.map_cons, List.map_cons, ← e1, ← e2, ← e3], List.Perm.swap a b r⟩
  | trans _ _ ih1 ih2 =>
    intro xs e
    obtain ⟨ws, h1, h2⟩ := ih2 xs e
    obtain ⟨vs, h3, h4⟩ := ih1 ws h1
    exact ⟨vs, h3, h4.trans h2⟩
/-- a word of letters below L, of length n -/
def WL (L n : Nat) (l : List Nat) : Prop := l.length = n ∧ ∀ a ∈ l, a < L
structure DrawnOk (L n : Nat) (ws : Wds) : Prop where
  ne : ws ≠ []
  few : ws.length ≤ 90
  ok : ∀ l ∈ ws, WL L n l
  all : L ^ n ≤ 90 → ws.Perm (allW L n)
def F_drawn (ds : List D) (S : D → Prop) : Prop := ∃ b u n : Nat, 2 ≤ b ∧ b ≤ 9 ∧ (u = 1 ∨ u = 2) ∧ 1 ≤ n ∧ n ≤ 9 ∧ ds = [.int (b : Nat), .int (u : Nat), .int (n : Nat)] ∧ S = fun d => ∃ ws : Wds, DrawnOk (b ^ u) n ws ∧ d = .lst (ws.map wd)
section
variable {P : Program} {w : World} {K : PySem.W.Frag} {mg : Str → Option Value} {base : Heap}
theorem sc_law_drawn : FnScope ["bag", "base", "width", "n", "letters", "i", "k"] ["bag", "base", "width", "n"] (defScope s_law_drawn) := ⟨rfl, rfl, rfl, by decide +kernel, rfl, by decide +kernel, by decide +kernel⟩
theorem ok_law_drawn (T : Txt K mg) : Cal P w K mg base "_law_drawn" 3 (bsp 300 F_drawn) := by
  have c_law_draw := ok_law_draw (P := P) (w := w) (base := base) T
  have c_law_power := ok_law_power (P := P) (w := w) (base := base) T
  have c_law_mixed := ok_law_mixed (P := P) (w := w) (base := base) T
  have c_law_words := ok_law_words (P := P) (w := w) (base := base) T
  refine bsp_mk T.d_law_drawn T.g_law_drawn sc_law_drawn (fun _ _ _ _ _ _ us hl => match us, hl with | [_, _, _, _], _ => rfl) (fun ds S ⟨_, _, _, _, _, _, _, _, e, _⟩ => by rw [e] <;> rfl) (fun cdv A outer s H E hr => ⟨_, (pss_cons (ps_set (i := 4) sc_law_drawn.nd rfl (Or.inr rfl) (pe_cal c_law_power (hr.mono (by decide)) rfl (pa_cons (pv 1) (pa_cons (pv 2) pa_nil))))
    (pss_cons (ps_if (pt_cmpR op_le (pe_cal c_law_power (hr.mono (by decide)) rfl (pa_cons (pv 4) (pa_cons (pv 3) pa_nil))) pe_int (nomark _))
      (pss_one (ps_ret (pe_cal c_law_mixed (hr.mono (by decide)) rfl (pa_cons (pv 0) (pa_cons (pe_cal c_law_words (hr.mono (by decide)) rfl (pa_cons (pv 4) (pa_cons (pv 3) pa_nil))) pa_nil)))))
      pss_nil)
    (pss_one (ps_ret (pe_lc (own := [("i", 5)]) (g := gName 5) rfl sc_law_drawn.nd  (pi_range1 (by rfl) T.b_range (pa_cons pe_int pa_nil)) (blkOk_by (N := ["bag", "base", "width", "n", "letters", "i", "k"]) (sc := defScope s_law_drawn) (by decide +kernel)) (fun _ _ _ _ _ => (pg_name (i := 5) sc_law_drawn.nd rfl (Or.inl rfl))) (fun _ _ _ _ _ => pts_nil) (fun _ _ _ _ _ => (pe_callTy (call_tupleK K) (by rfl) T.b_tuple (by decide +kernel) (pa_cons (pe_lc (own := [("k", 6)]) (g := gName 6) rfl sc_law_drawn.nd  (pi_range1 (by rfl) T.b_range (pa_cons (pv 3) pa_nil)) (blkOk_by (by with_unfolding_all rfl)) (fun _ _ _ _ _ => (pg_name (i := 6) sc_law_drawn.nd rfl (Or.inl rfl))) (fun _ _ _ _ _ => pts_nil) (fun _ _ _ _ _ => (pe_cal c_law_draw (hr.mono (by decide)) rfl (pa_cons (pv 0) (pa_cons (pv 4) pa_nil))))) pa_nil)))))))), ?_⟩)
  intro B0 H0 a c n ds S hf hac hn
  obtain ⟨b, u, k, hb2, hb9, hu, hk1, hk9, rfl, rfl⟩ := hf
  have hL : 2 ≤ b ^ u ∧ b ^ u ≤ 81 := by
    rcases hu with rfl | rfl
    · rw [Nat.pow_one]
      omega
    · rw [Nat.pow_two]
      exact ⟨Nat.le_trans hb2 (Nat.le_mul_of_pos_left b (by omega)), Nat.mul_le_mul hb9 hb9⟩
  show SX (cells c) B0 H0 _ [bagS a c n, .dat (.int (b : Nat)), .dat (.int (u : Nat)), .dat (.int (k : Nat)), .no, .no, .no] _ _
  refine sx_seqS (ssd_asg (d := .int ((b ^ u : Nat) : Int)) (ed_call (ds := [.int (b : Nat), .int (u : Nat)]) (eda_cons (ed_var rfl) (eda_cons (ed_var rfl) eda_nil)) ⟨b, u, rfl, by omega, by omega, rfl⟩) ?_)
  generalize b ^ u = L at hL ⊢
  show SX (cells c) B0 H0 _ [bagS a c n, .dat (.int (b : Nat)), .dat (.int (u : Nat)), .dat (.int (k : Nat)), .dat (.int (L : Nat)), .no, .no] _ _
  refine sx_seq (sxd_if (eb_test (ed_op (ed_call (d := .int ((L ^ k : Nat) : Int)) (ds := [.int (L : Nat), .int (k : Nat)]) (eda_cons (ed_var rfl) (eda_cons (ed_var rfl) eda_nil)) ⟨L, k, rfl, by omega, by omega, rfl⟩) ed_int od_le)) (fun h => ?_) (fun h => sx_next ?_))
  · rw [decide_eq_true_eq] at h
    have h : L ^ k ≤ 90 := by omega
    refine sx_ret (ey_bcall (j := 0) (ds := [.lst ((allW L k).map wd)]) rfl (by omega) (eda_cons (ed_call (ds := [.int (L : Nat), .int (k : Nat)]) (eda_cons (ed_var rfl) (eda_cons (ed_var rfl) eda_nil)) ⟨L, k, by omega, h, by omega, rfl, rfl⟩) eda_nil) ⟨_, by rw [List.length_map, allW_len]; omega, rfl, rfl⟩) (fun d G ⟨⟨ys, ed, hp⟩, eG⟩ => ?_)
    obtain ⟨ws, ey, hw⟩ := perm_map_inv wd hp _ rfl
    refine ⟨⟨ws, ⟨?_, ?_, fun l hl => (allW_mem L k l).mp (hw.mem_iff.mp hl), fun _ => hw⟩, by rw [ed, ey]⟩, n + 100, by omega, by rw [eG]; rfl⟩
    · intro e
      have z := hw.length_eq
      rw [e, allW_len] at z
      have : 0 < L ^ k := Nat.pow_pos (by omega)
      rw [← z] at this
      exact absurd this (by simp)
    · rw [hw.length_eq, allW_len]
      exact h
  · rw [decide_eq_false_iff_not] at h
    have h : ¬ L ^ k ≤ 90 := by omega
    let G0 : Nat → Sl → Sl → List Sl := fun m s5 s6 => [bagS a c m, .dat (.int (b : Nat)), .dat (.int (u : Nat)), .dat (.int (k : Nat)), .dat (.int (L : Nat)), s5, s6]
    refine sx_ret (S := fun d G => (∃ ws : Wds, DrawnOk L k ws ∧ d = .lst (ws.map wd)) ∧ ∃ m, m ≤ n + 300 ∧ G = G0 m .no .no) (ey_lc (wy_of_wi (wid_rng1 (n := 30) (eda_cons ed_int eda_nil) (by decide) (by decide))) fun xs G1 ⟨exs, eG⟩ => ?_) (fun d G ⟨h1, m, hm, eG⟩ => ⟨h1, m, hm, by rw [eG]; rfl⟩)
    subst exs eG
    refine ⟨fun i ys G => ∃ (ws : Wds) (m : Nat), ys = ws.map wd ∧ ws.length = i ∧ (∀ l ∈ ws, WL L k l) ∧ m ≤ n + 10 * i ∧ G = G0 m .no .no, ⟨[], n, rfl, rfl, by simp, by omega, rfl⟩, ?_, ?_⟩
    · rintro i x ys G ex ⟨ws, m, rfl, hl, hok, hm, rfl⟩
      obtain ⟨hi, rfl⟩ := rngD_at ex
      have hi : i < 30 := hi
      refine ⟨by rw [List.length_map]; omega, [(5, .int (0 + (i : Int)))], by simp, gs_name, ?_⟩
      show EY (cells c) _ (G0 m (.dat (.int (0 + (i : Int)))) .no) _
      refine EY.imp (Γ := G0 m (.dat (.int (0 + (i : Int)))) .no) (S := fun d G => ∃ (l : List Nat) (m' : Nat), WL L k l ∧ d = wd l ∧ m' ≤ m + 10 ∧ G = G0 m' (.dat (.int (0 + (i : Int)))) .no) (ey_cb (ya_one (ey_lc (S := fun d G => ∃ (l : List Nat) (m' : Nat), WL L k l ∧ d = .lst (l.map fun (x : Nat) => .int (x : Int)) ∧ m' ≤ m + 10 ∧ G = G0 m' (.dat (.int (0 + (i : Int)))) .no) (wy_of_wi (wid_rng1 (n := (k : Int)) (eda_cons (ed_var rfl) eda_nil) (by omega) (by omega))) fun xs G1 ⟨exs, eG⟩ => ?_)) fun ds G ⟨x, eds, l, m', hl', ex', hm', eG⟩ => ?_) fun d G ⟨l, m', hl', ed, hm', eG⟩ => ?_
      · subst exs eG
        refine ⟨fun i2 ys G => ∃ (l : List Nat) (m' : Nat), ys = (l.map fun (x : Nat) => .int (x : Int)) ∧ l.length = i2 ∧ (∀ x ∈ l, x < L) ∧ m' ≤ m + i2 ∧ G = G0 m' (.dat (.int (0 + (i : Int)))) .no, ⟨[], m, rfl, rfl, by simp, by omega, rfl⟩, ?_, ?_⟩
        · rintro i2 x ys G ex2 ⟨l, m', rfl, hl2, hok2, hm2, rfl⟩
          obtain ⟨hi2, rfl⟩ := rngD_at ex2
          have hi2 : i2 < k := by omega
          refine ⟨by rw [List.length_map]; omega, [(6, .int (0 + (i2 : Int)))], by simp, gs_name, ?_⟩
          show EY (cells c) _ (G0 m' (.dat (.int (0 + (i : Int)))) (.dat (.int (0 + (i2 : Int))))) _
          refine EY.imp (Γ := G0 m' (.dat (.int (0 + (i : Int)))) (.dat (.int (0 + (i2 : Int))))) (ey_draw (sz := L) rfl (by omega) (ed_var rfl) (by omega) (by omega)) fun d G ⟨⟨x, hx, ed⟩, eG⟩ => ?_
          refine ⟨l ++ [x], m' + 1, by rw [ed, List.map_append]; rfl, by rw [List.length_append, hl2]; rfl, fun y hy => ?_, by omega, by rw [eG]; rfl⟩
          rw [List.mem_append, List.mem_singleton] at hy
          rcases hy with hy | rfl
          · exact hok2 y hy
          · exact hx
        · rintro ys G ⟨l, m', rfl, hl2, hok2, hm2, eG⟩
          rw [rngD_len] at hl2 hm2
          have e : (k : Int).toNat = k := rfl
          rw [e] at hl2 hm2
          exact ⟨l, m', ⟨hl2, hok2⟩, rfl, by omega, eG⟩
      · rw [eds, ex']
        exact cbs_of (cd_tuple (.inl rfl)) ⟨l, m', hl', rfl, hm', eG⟩
      · refine ⟨ws ++ [l], m', by rw [ed, List.map_append]; rfl, by rw [List.length_append, hl]; rfl, fun l2 h2 => ?_, by omega, by rw [eG]; rfl⟩
        rw [List.mem_append, List.mem_singleton] at h2
        rcases h2 with h2 | rfl
        · exact hok l2 h2
        · exact hl'
    · rintro ys G ⟨ws, m, rfl, hl, hok, hm, eG⟩
      have hl : ws.length = 30 := hl
      have hm : m ≤ n + 10 * 30 := hm
      exact ⟨⟨ws, ⟨fun e => (by rw [e] at hl; cases hl), by omega, hok, fun z => absurd z h⟩, rfl⟩, m, by omega, eG⟩
end
end K82
set_option Elab.async false
set_option linter.all false
set_option maxRecDepth 100000
set_option maxHeartbeats 2000000
namespace K82
open PySem PySem.Spec PyProof.Rows L2 Evl Dl K82Head TL
local macro_rules | `(tactic| walk_at "ed") => `(tactic| first
  | exact ed_var rfl | exact ed_int | exact ed_str | exact ed_bl | exact ed_non | exact eda_nil | exact edo_none
  | exact od_add | exact od_sub | exact od_lt | exact od_le | exact od_gt | exact od_ge | exact od_eqi | exact od_nei | exact od_eqs | exact od_nes | exact od_isN | exact od_notN | exact cd_int | exact cd_abs | exact cd_max2 | exact cd_gcd
  | ((with_reducible apply eda_cons) <;> walk_at "ed") | ((with_reducible apply ed_op) <;> walk_at "ed") | ((with_reducible apply ed_cb) <;> walk_at "ed") | ((with_reducible apply eb_test) <;> walk_at "ed") | ((with_reducible apply eb_tru) <;> walk_at "ed") | ((with_reducible apply ed_tup) <;> walk_at "ed")
  | ((with_reducible apply ed_neg) <;> walk_at "ed") | ((with_reducible apply eb_not) <;> walk_at "ed") | ((with_reducible apply edl_lst) <;> walk_at "ed") | ((with_reducible apply edo_some) <;> walk_at "ed") | ((with_reducible apply ed_call) <;> walk_at "ed")
  | (apply od_mul; assumption) | (apply od_rem; omega) | (apply od_div <;> omega) | (apply od_ixT; rfl) | (apply od_ixL; rfl)
  | (with_reducible exact True.intro) | (simp; done) | skip)
/-! ### words with one change -/
def WB (L N : Nat) (l : List Nat) : Prop := l.length ≤ N ∧ ∀ a ∈ l, a < L
theorem WB.up {L N : Nat} {l : List Nat} (h : WB L N l) : WB L (N + 1) l := ⟨by have := h.1; omega, h.2⟩
def Bent (L N k : Nat) (d : D) : Prop := ∃ vs : Wds, vs.length ≤ k + 2 ∧ (∀ l ∈ vs, WB L (N + 1) l) ∧ d = .lst (vs.map wd)
def F_bent (ds : List D) (S : D → Prop) : Prop := ∃ (ws os : Wds) (L N : Nat), 1 ≤ L ∧ L < 2 ^ 62 ∧ ws.length ≤ 200 ∧ os.length ≤ 200 ∧ N ≤ 100 ∧ (∀ l ∈ ws, WB L N l) ∧ (∀ l ∈ os, WB L N l) ∧ ds = [.lst (ws.map wd), .lst (os.map wd), .int (L : Nat)] ∧ S = Bent L N ws.length
section
variable {P : Program} {w : World} {K : PySem.W.Frag} {mg : Str → Option Value} {base : Heap}
theorem sc_law_bent : FnScope ["bag", "words", "other", "letters", "kind", "at"] ["bag", "words", "other", "letters"] (defScope s_law_bent) := ⟨rfl, rfl, rfl, by decide +kernel, rfl, by decide +kernel, by decide +kernel⟩
abbrev GB (a c : Addr) (m : Nat) (ws os : Wds) (L : Nat) (s4 s5 : Sl) : List Sl := [bagS a c m, .dat (.lst (ws.map wd)), .dat (.lst (os.map wd)), .dat (.int (L : Nat)), s4, s5]
theorem ok_law_bent (T : Txt K mg) : Cal P w K mg base "_law_bent" 3 (bsp 5 F_bent) := by
  have c_law_draw := ok_law_draw (P := P) (w := w) (base := base) T
  have c_law_of := ok_law_of (P := P) (w := w) (base := base) T
  refine bsp_mk T.d_law_bent T.g_law_bent sc_law_bent (fun _ _ _ _ _ _ us hl => match us, hl with | [_, _, _, _], _ => rfl) (fun ds S ⟨_, _, _, _, _, _, _, _, _, _, _, e, _⟩ => by rw [e] <;> rfl) (fun cdv A outer s H E hr => ⟨_, (pss_cons (ps_par (i := 4) (j := 5) (by rfl) sc_law_bent.nd rfl rfl (by decide) rfl rfl (pa_cons (pe_cal c_law_draw (hr.mono (by decide)) rfl (pa_cons (pv 0) (pa_cons pe_int pa_nil))) (pa_cons (pe_ifExp (pt_truthK K (pv 1) (by intro _; rfl)) (pe_cal c_law_draw (hr.mono (by decide)) rfl (pa_cons (pv 0) (pa_cons (pe_callB (call_lenK K) (by rfl) T.b_len (by decide +kernel) (pa_cons (pv 1) pa_nil)) pa_nil))) pe_int) pa_nil)) (by rfl))
    (pss_cons (ps_if (pt_cmpR (op_eqK K hr.units) (pe_callB (call_lenK K) (by rfl) T.b_len (by decide +kernel) (pa_cons (pv 1) pa_nil)) pe_int (nomark _))
      (pss_one (ps_ret (pe_op (op_mulK K) (pe_lst (pa_cons (pe_tup (pa_cons pe_int pa_nil)) pa_nil)) (pe_cal c_law_draw (hr.mono (by decide)) rfl (pa_cons (pv 0) (pa_cons pe_int pa_nil))))))
      pss_nil)
    (pss_cons (ps_if (pt_cmpR op_lt (pv 4) pe_int (nomark _))
      (pss_one (ps_ret (pe_op (op_addK K) (pe_op (op_addK K) (pe_slice (sl_allK K) (pv 1) po_none (po_some (pv 5))) (pe_lst (pa_cons (pe_cal c_law_of (hr.mono (by decide)) rfl (pa_cons (pv 0) (pa_cons (pe_ifExp (pt_truthK K (pv 2) (by intro _; rfl)) (pv 2) (pv 1)) pa_nil))) pa_nil))) (pe_slice (sl_allK K) (pv 1) (po_some (pe_op (op_addK K) (pv 5) pe_int)) po_none))))
      pss_nil)
    (pss_cons (ps_if (pt_cmpR (op_eqK K hr.units) (pv 4) pe_int (nomark _))
      (pss_one (ps_ret (pe_op (op_addK K) (pe_op (op_addK K) (pe_slice (sl_allK K) (pv 1) po_none (po_some (pv 5))) (pe_lst (pa_cons (pe_op (op_addK K) (pe_ix (ix_seqK K) (pv 1) (pv 5) (fun _ _ => rfl)) (pe_tup (pa_cons (pe_cal c_law_draw (hr.mono (by decide)) rfl (pa_cons (pv 0) (pa_cons (pv 3) pa_nil))) pa_nil))) pa_nil))) (pe_slice (sl_allK K) (pv 1) (po_some (pe_op (op_addK K) (pv 5) pe_int)) po_none))))
      pss_nil)
    (pss_cons (ps_if (pt_cmpR (op_eqK K hr.units) (pv 4) pe_int (nomark _))
      (pss_one (ps_ret (pe_op (op_addK K) (pe_op (op_addK K) (pe_slice (sl_allK K) (pv 1) po_none (po_some (pv 5))) (pe_lst (pa_cons (pe_slice (sl_allK K) (pe_ix (ix_seqK K) (pv 1) (pv 5) (fun _ _ => rfl)) (po_some pe_int) po_none) pa_nil))) (pe_slice (sl_allK K) (pv 1) (po_some (pe_op (op_addK K) (pv 5) pe_int)) po_none))))
      pss_nil)
    (pss_cons (ps_if (pt_cmpR (op_eqK K hr.units) (pv 4) pe_int (nomark _))
      (pss_one (ps_ret (pe_op (op_addK K) (pe_slice (sl_allK K) (pv 1) po_none (po_some (pv 5))) (pe_slice (sl_allK K) (pv 1) (po_some (pe_op (op_addK K) (pv 5) pe_int)) po_none))))
      pss_nil)
    (pss_one (ps_ret (pe_op (op_addK K) (pe_op (op_addK K) (pe_slice (sl_allK K) (pv 1) po_none (po_some (pv 5))) (pe_lst (pa_cons (pe_cal c_law_of (hr.mono (by decide)) rfl (pa_cons (pv 0) (pa_cons (pe_ifExp (pt_truthK K (pv 2) (by intro _; rfl)) (pv 2) (pv 1)) pa_nil))) pa_nil))) (pe_slice (sl_allK K) (pv 1) (po_some (pv 5)) po_none)))))))))), ?_⟩)
  intro B0 H0 a c n ds S hf hac hn
  obtain ⟨ws, os, L, N, hL1, hL2, hw, ho, hN, hws, hos, rfl, rfl⟩ := hf
  show SX (cells c) B0 H0 _ (GB a c n ws os L .no .no) _ _
  refine sx_seqS (ss_parY (P := fun ds G => ∃ kd at_ m : Nat, kd < 6 ∧ (at_ < ws.length ∨ ws = []) ∧ m ≤ n + 2 ∧ ds = [.int (kd : Nat), .int (at_ : Nat)] ∧ G = GB a c m ws os L .no .no) ?_ fun ds G ⟨kd, at_, m, hkd, hat, hm, eds, eG⟩ => ⟨_, _, eds, ?_⟩)
  · refine YA.imp (ya_cons (Sl := fun _ r G => ∃ at_ m : Nat, (at_ < ws.length ∨ ws = []) ∧ m ≤ n + 2 ∧ r = [.int (at_ : Nat)] ∧ G = GB a c m ws os L .no .no) (ey_draw (Γ := GB a c n ws os L .no .no) (sz := 6) rfl (by omega) ed_int (by omega) (by omega)) fun x G ⟨_, eG⟩ => ?_) fun ds G ⟨x, r, G0, eds, ⟨⟨kd, hkd, ex⟩, _⟩, at_, m, h1, h2, h3, h4⟩ => ⟨kd, at_, m, hkd, h1, h2, by rw [eds, ex, h3], h4⟩
    rw [eG]
    show YA (cells c) _ (GB a c (n + 1) ws os L .no .no) _
    refine YA.imp (ya_one (S := fun d G => ∃ at_ m : Nat, (at_ < ws.length ∨ ws = []) ∧ m ≤ n + 2 ∧ d = .int (at_ : Nat) ∧ G = GB a c m ws os L .no .no) (ey_if (yb_of_eb (eb_tru (ed_var rfl))) (fun G ⟨e, eG⟩ => ?_) (fun G ⟨e, eG⟩ => ?_))) fun ds G ⟨x, e, at_, m, h1, h2, h3, h4⟩ => ⟨at_, m, h1, h2, by rw [e, h3], h4⟩
    · subst eG
      have hne : 0 < ws.length := by
        have e : true = !((ws.map wd).isEmpty) := e
        cases ws with
        | nil => cases e
        | cons x r => simp
      exact EY.imp (ey_draw (Γ := GB a c (n + 1) ws os L .no .no) (sz := ws.length) rfl (by omega) ((ed_lenL (ds := ws.map wd) (ed_var rfl)).is (by rw [List.length_map])) hne (by omega)) fun d G ⟨⟨i, hi, ed⟩, eG⟩ => ⟨i, n + 2, .inl hi, Nat.le_refl _, ed, by rw [eG]; rfl⟩
    · subst eG
      have hne : ws = [] := by
        have e : false = !((ws.map wd).isEmpty) := e
        cases ws with
        | nil => rfl
        | cons x r => cases e
      exact EY.imp (ey_ed (Γ := GB a c (n + 1) ws os L .no .no) ed_int) fun d G ⟨ed, eG⟩ => ⟨0, n + 1, .inr hne, by omega, ed, eG⟩
  subst eG
  show SX (cells c) B0 H0 _ (GB a c m ws os L (.dat (.int (kd : Nat))) (.dat (.int (at_ : Nat)))) _ _
  have lenW : ED (cells c) (tCB (fun xs H Q => ∃ x n, xs = [x] ∧ LenV K x H n ∧ Q (.int n) H) (tCons (tVar 1) tNil)) (GB a c m ws os L (.dat (.int (kd : Nat))) (.dat (.int (at_ : Nat)))) (.int (ws.length : Nat)) := (ed_lenL (ds := ws.map wd) (ed_var rfl)).is (by rw [List.length_map])
  -- the end of each way
  have fin : ∀ {te : TE} {Nx : List Sl → Prop}, EY (cells c) te (GB a c m ws os L (.dat (.int (kd : Nat))) (.dat (.int (at_ : Nat)))) (fun d G => Bent L N ws.length d ∧ ∃ m', m' ≤ m + 1 ∧ G = GB a c m' ws os L (.dat (.int (kd : Nat))) (.dat (.int (at_ : Nat)))) → SX (cells c) B0 H0 (tRet te) (GB a c m ws os L (.dat (.int (kd : Nat))) (.dat (.int (at_ : Nat)))) Nx (fun d G => Bent L N ws.length d ∧ ∃ m, m ≤ n + 5 ∧ G[0]? = some (bagS a c m)) := fun h => sx_ret h fun d G ⟨h1, m', hm', eG⟩ => ⟨h1, m', by omega, by rw [eG]; rfl⟩
  refine sx_seq (sxd_if (eb_test (ed_op lenW ed_int od_eqi)) (fun h => ?_) (fun h => sx_next ?_))
  · refine fin (ey_opL (x := .lst [wd [0]]) (ed_of_el (edl_lst (eda_cons (ed_tup (eda_cons ed_int eda_nil)) eda_nil))) (ey_draw (sz := 3) rfl (by omega) ed_int (by omega) (by omega)) fun y G ⟨⟨i, hi, ey⟩, eG⟩ => ?_)
    rw [ey]
    refine ops_of_opl (ol_rep (by omega) (by omega) (by simp; omega)) ⟨⟨List.replicate i [0], by rw [List.length_replicate]; omega, fun l hl => ?_, ?_⟩, m + 1, Nat.le_refl _, by rw [eG]; rfl⟩
    · rw [(List.mem_replicate.mp hl).2]
      exact ⟨by simp, fun a ha => by rw [List.mem_singleton] at ha; omega⟩
    · rw [Int.toNat_natCast, List.flatten_replicate_singleton, List.map_replicate]
  rw [decide_eq_false_iff_not] at h
  have hat : at_ < ws.length := hat.elim id fun e => absurd (by rw [e]; rfl) h
  have c1 : ED (cells c) (tSl (rSlU K) (tVar 1) tNoPart (tPart (tVar 5))) (GB a c m ws os L (.dat (.int (kd : Nat))) (.dat (.int (at_ : Nat)))) (.lst ((ws.take at_).map wd)) := (ed_of_el (el_slL (ed_var rfl) edo_none (edo_some (ed_var rfl)))).is (by rw [cut_to, List.map_take])
  have c2 : ∀ m', ED (cells c) (tSl (rSlU K) (tVar 1) (tPart (tOp (rAddU K) (tVar 5) (tC (.int 1)))) tNoPart) (GB a c m' ws os L (.dat (.int (kd : Nat))) (.dat (.int (at_ : Nat)))) (.lst ((ws.drop (at_ + 1)).map wd)) := fun m' => (ed_of_el (el_slL (lo := some ((at_ + 1 : Nat) : Int)) (ed_var rfl) (edo_some (ed_op (ed_var rfl) ed_int od_add)) edo_none)).is (by rw [cut_from, List.map_drop])
  have c3 : ∀ m', ED (cells c) (tSl (rSlU K) (tVar 1) (tPart (tVar 5)) tNoPart) (GB a c m' ws os L (.dat (.int (kd : Nat))) (.dat (.int (at_ : Nat)))) (.lst ((ws.drop at_).map wd)) := fun m' => (ed_of_el (el_slL (ed_var rfl) (edo_some (ed_var rfl)) edo_none)).is (by rw [cut_from, List.map_drop])
  have ixW : ED (cells c) (tOp (rIx K) (tVar 1) (tVar 5)) (GB a c m ws os L (.dat (.int (kd : Nat))) (.dat (.int (at_ : Nat)))) (wd ws[at_]) := ed_op (ed_var rfl) (ed_var rfl) (od_ixL (L2.atI_nat (by rw [List.getElem?_map, List.getElem?_eq_getElem hat]; rfl)))
  have pool : ED (cells c) (tIf (fun σ H Q => tVar 2 σ H fun x H' => ∃ k, TruV K x H' k ∧ Q k H') (tVar 2) (tVar 1)) (GB a c m ws os L (.dat (.int (kd : Nat))) (.dat (.int (at_ : Nat)))) (.lst ((if (!((os.map wd).isEmpty)) = true then os else ws).map wd)) := by
    refine (ed_if (eb_tru (ed_var rfl)) (fun _ => ed_var rfl) (fun _ => ed_var rfl)).is ?_
    show (if (!((os.map wd).isEmpty)) = true then D.lst (os.map wd) else D.lst (ws.map wd)) = _
    by_cases h : (!((os.map wd).isEmpty)) = true
    · rw [if_pos h, if_pos h]
    · rw [if_neg h, if_neg h]
  have poolOk : ∃ ps : Wds, (if (!((os.map wd).isEmpty)) = true then os else ws) = ps ∧ ps ≠ [] ∧ ps.length ≤ 200 ∧ ∀ l ∈ ps, WB L N l := by
    by_cases h : (!((os.map wd).isEmpty)) = true
    · rw [if_pos h]
      refine ⟨os, rfl, fun e => ?_, ho, hos⟩
      rw [e] at h
      cases h
    · rw [if_neg h]
      refine ⟨ws, rfl, fun e => ?_, hw, hws⟩
      rw [e] at hat
      exact absurd hat (by simp)
  obtain ⟨ps, eps, hpne, hpl, hps⟩ := poolOk
  rw [eps] at pool
  -- words[:at] + [one] + rest
  have three : ∀ {tx tr : TE} (rest : Wds), rest.length ≤ ws.length - at_ → (∀ l ∈ rest, l ∈ ws) → (∀ m', ED (cells c) tr (GB a c m' ws os L (.dat (.int (kd : Nat))) (.dat (.int (at_ : Nat)))) (.lst (rest.map wd))) →
      EY (cells c) tx (GB a c m ws os L (.dat (.int (kd : Nat))) (.dat (.int (at_ : Nat)))) (fun d G => (∃ l, WB L (N + 1) l ∧ d = .lst [wd l]) ∧ ∃ m', m' ≤ m + 1 ∧ G = GB a c m' ws os L (.dat (.int (kd : Nat))) (.dat (.int (at_ : Nat)))) →
      EY (cells c) (tOp (rAddU K) (tOp (rAddU K) (tSl (rSlU K) (tVar 1) tNoPart (tPart (tVar 5))) tx) tr) (GB a c m ws os L (.dat (.int (kd : Nat))) (.dat (.int (at_ : Nat)))) (fun d G => Bent L N ws.length d ∧ ∃ m', m' ≤ m + 1 ∧ G = GB a c m' ws os L (.dat (.int (kd : Nat))) (.dat (.int (at_ : Nat)))) := by
    intro tx tr rest hr1 hr2 hr3 hx
    refine ey_opC (S1 := fun d G => (∃ l, WB L (N + 1) l ∧ d = .lst ((ws.take at_).map wd ++ [wd l])) ∧ ∃ m', m' ≤ m + 1 ∧ G = GB a c m' ws os L (.dat (.int (kd : Nat))) (.dat (.int (at_ : Nat)))) (y := .lst (rest.map wd)) (ey_opL c1 hx fun y G ⟨⟨l, hl, ey⟩, hG⟩ => ?_) (fun x G ⟨_, m', _, eG⟩ => by rw [eG]; exact hr3 m') (fun x G ⟨⟨l, hl, ex⟩, hG⟩ => ?_)
    · rw [ey]
      exact ops_of_opl (ol_add (by rw [List.length_map, List.length_take]; simp; omega)) ⟨⟨l, hl, rfl⟩, hG⟩
    · rw [ex]
      refine ops_of_opl (ol_add (by rw [List.length_append, List.length_map, List.length_map, List.length_take]; simp; omega)) ⟨⟨ws.take at_ ++ [l] ++ rest, ?_, fun l2 h2 => ?_, ?_⟩, hG⟩
      · rw [List.length_append, List.length_append, List.length_take]
        simp
        omega
      · rw [List.mem_append, List.mem_append, List.mem_singleton] at h2
        rcases h2 with (h2 | rfl) | h2
        · exact (hws l2 (List.mem_of_mem_take h2)).up
        · exact hl
        · exact (hws l2 (hr2 l2 h2)).up
      · rw [List.map_append, List.map_append]
        rfl
  have ofOne : EY (cells c) (tLst (tCons (tCall (bsp 1 F_of) [] E0 (tCons (tVar 0) (tCons (tIf (fun σ H Q => tVar 2 σ H fun x H' => ∃ k, TruV K x H' k ∧ Q k H') (tVar 2) (tVar 1)) tNil))) tNil)) (GB a c m ws os L (.dat (.int (kd : Nat))) (.dat (.int (at_ : Nat)))) (fun d G => (∃ l, WB L (N + 1) l ∧ d = .lst [wd l]) ∧ ∃ m', m' ≤ m + 1 ∧ G = GB a c m' ws os L (.dat (.int (kd : Nat))) (.dat (.int (at_ : Nat)))) := by
    refine ey_lst (ya_one (ey_bcall (j := 0) rfl (by omega) (eda_cons pool eda_nil) ⟨ps.map wd, by simpa using hpne, by rw [List.length_map]; omega, rfl, rfl⟩)) (fun ds G ⟨x, e, _⟩ => by rw [e]; simp) (fun ds G ⟨x, e, h1, h2⟩ => ?_)
    obtain ⟨l, hl, rfl⟩ := List.mem_map.mp h1
    exact ⟨⟨l, (hps l hl).up, by rw [e]⟩, m + 1, Nat.le_refl _, by rw [h2]; rfl⟩
  refine sx_seq (sxd_if (eb_test (ed_op (ed_var rfl) ed_int od_lt)) (fun _ => fin (three (ws.drop (at_ + 1)) (by rw [List.length_drop]; omega) (fun l hl => List.mem_of_mem_drop hl) c2 ofOne)) (fun _ => sx_next ?_))
  refine sx_seq (sxd_if (eb_test (ed_op (ed_var rfl) ed_int od_eqi)) (fun _ => fin (three (ws.drop (at_ + 1)) (by rw [List.length_drop]; omega) (fun l hl => List.mem_of_mem_drop hl) c2 ?_)) (fun _ => sx_next ?_))
  · refine ey_lst (ya_one (S := fun d G => (∃ l, WB L (N + 1) l ∧ d = wd l) ∧ ∃ m', m' ≤ m + 1 ∧ G = GB a c m' ws os L (.dat (.int (kd : Nat))) (.dat (.int (at_ : Nat)))) (ey_opL ixW (ey_tup (ya_one (ey_draw (sz := L) rfl (by omega) (ed_var rfl) (by omega) (by omega))) (fun ds G ⟨x, e, _⟩ => by rw [e]; simp) (S := fun d G => (∃ i : Nat, i < L ∧ d = .tup [.int (i : Nat)]) ∧ ∃ m', m' ≤ m + 1 ∧ G = GB a c m' ws os L (.dat (.int (kd : Nat))) (.dat (.int (at_ : Nat)))) (fun ds G ⟨x, e, ⟨i, hi, ex⟩, eG⟩ => ⟨⟨i, hi, by rw [e, ex]⟩, m + 1, Nat.le_refl _, by rw [eG]; rfl⟩)) fun y G ⟨⟨i, hi, ey⟩, hG⟩ => ?_)) (fun ds G ⟨x, e, _⟩ => by rw [e]; simp) (fun ds G ⟨x, e, ⟨l, hl, ex⟩, hG⟩ => ⟨⟨l, hl, by rw [e, ex]⟩, hG⟩)
    rw [ey]
    have hwa := hws _ (List.getElem_mem hat)
    refine ops_of (od_addT (ds := ws[at_].map fun (a : Nat) => .int (a : Int)) (es := [.int (i : Nat)]) (by rw [List.length_map]; have := hwa.1; simp; omega)) ⟨⟨ws[at_] ++ [i], ⟨by rw [List.length_append]; have := hwa.1; simp; omega, fun x hx => ?_⟩, ?_⟩, hG⟩
    · rw [List.mem_append, List.mem_singleton] at hx
      rcases hx with hx | rfl
      · exact hwa.2 x hx
      · exact hi
    · show D.tup _ = D.tup _
      rw [List.map_append]
      rfl
  refine sx_seq (sxd_if (eb_test (ed_op (ed_var rfl) ed_int od_eqi)) (fun _ => fin (three (ws.drop (at_ + 1)) (by rw [List.length_drop]; omega) (fun l hl => List.mem_of_mem_drop hl) c2 ?_)) (fun _ => sx_next ?_))
  · have hwa := hws _ (List.getElem_mem hat)
    refine EY.imp (ey_ed (d := .lst [wd (ws[at_].drop 1)]) (ed_of_el (edl_lst (eda_cons ((ed_slT (ds := ws[at_].map fun (a : Nat) => .int (a : Int)) (lo := some ((1 : Nat) : Int)) ixW (edo_some ed_int) edo_none).is (by rw [cut_from, ← List.map_drop]; rfl)) eda_nil)))) fun d G ⟨ed, eG⟩ => ⟨⟨_, ⟨by rw [List.length_drop]; have := hwa.1; omega, fun x hx => hwa.2 x (List.mem_of_mem_drop hx)⟩, ed⟩, m, by omega, eG⟩
  refine sx_seq (sxd_if (eb_test (ed_op (ed_var rfl) ed_int od_eqi)) (fun _ => fin ?_) (fun _ => sx_next ?_))
  · refine EY.imp (ey_ed (d := .lst ((ws.take at_).map wd ++ (ws.drop (at_ + 1)).map wd)) (ed_of_el (el_op c1 (c2 m) (ol_add (by rw [List.length_map, List.length_map, List.length_take, List.length_drop]; omega))))) fun d G ⟨ed, eG⟩ => ⟨⟨ws.take at_ ++ ws.drop (at_ + 1), by rw [List.length_append, List.length_take, List.length_drop]; omega, fun l hl => ?_, by rw [ed, List.map_append]⟩, m, by omega, eG⟩
    rw [List.mem_append] at hl
    rcases hl with hl | hl
    · exact (hws l (List.mem_of_mem_take hl)).up
    · exact (hws l (List.mem_of_mem_drop hl)).up
  exact fin (three (ws.drop at_) (by rw [List.length_drop]; omega) (fun l hl => List.mem_of_mem_drop hl) c3 ofOne)
end
end K82
set_option Elab.async false
set_option linter.all false
set_option maxRecDepth 100000
set_option maxHeartbeats 2000000
namespace K82
open PySem PySem.Spec PyProof.Rows L2 Evl Dl K82Head TL
/-! ### what is picked, plainly -/
structure PkI (t : Tm) (b u most : Nat) (done : Wds) (s : Wds × Wds) : Prop where
  s1 : ∀ l ∈ s.1, l ∈ done
  s2 : ∀ l ∈ s.2, l ∈ done
  few : s.1.length ≤ most
  sum : s.1.length + s.2.length = done.length
  val : ∀ l ∈ s.1, (chs t b u l).isSome = true
  nd : (s.1.map (chs t b u)).Nodup
  all : ∀ l ∈ done, (chs t b u l).isSome = true → chs t b u l ∈ s.1.map (chs t b u) ∨ s.1.length = most
theorem pick_step {t : Tm} {b u most : Nat} {done : Wds} {s : Wds × Wds} (h : PkI t b u most done s) (l : List Nat) : PkI t b u most (done ++ [l]) (pickStep t b u most s l) := by
  unfold pickStep
  by_cases hc : (chs t b u l).isSome = true ∧ chs t b u l ∉ s.1.map (chs t b u) ∧ s.1.length < most
  · rw [if_pos hc]
    refine ⟨fun x hx => ?_, fun x hx => List.mem_append_left _ (h.s2 x hx), ?_, ?_, fun x hx => ?_, ?_, fun x hx hs => ?_⟩
    · have hx : x ∈ s.1 ++ [l] := hx
      rw [List.mem_append, List.mem_singleton] at hx
      rcases hx with hx | rfl
      · exact List.mem_append_left _ (h.s1 x hx)
      · simp
    · show (s.1 ++ [l]).length ≤ most
      rw [List.length_append]
      simp
      omega
    · show (s.1 ++ [l]).length + s.2.length = (done ++ [l]).length
      rw [List.length_append, List.length_append]
      have := h.sum
      simp
      omega
    · have hx : x ∈ s.1 ++ [l] := hx
      rw [List.mem_append, List.mem_singleton] at hx
      rcases hx with hx | rfl
      · exact h.val x hx
      · exact hc.1
    · show ((s.1 ++ [l]).map (chs t b u)).Nodup
      rw [List.map_append, List.nodup_append]
      refine ⟨h.nd, by simp, fun x hx y hy e => ?_⟩
      rw [List.map_cons, List.map_nil, List.mem_singleton] at hy
      exact hc.2.1 (by rw [← hy, ← e]; exact hx)
    · show chs t b u x ∈ (s.1 ++ [l]).map (chs t b u) ∨ (s.1 ++ [l]).length = most
      rw [List.mem_append, List.mem_singleton] at hx
      rw [List.map_append, List.mem_append, List.length_append]
      rcases hx with hx | rfl
      · rcases h.all x hx hs with h2 | h2
        · exact .inl (.inl h2)
        · exact absurd hc.2.2 (by omega)
      · exact .inl (.inr (by simp))
  · rw [if_neg hc]
    refine ⟨fun x hx => List.mem_append_left _ (h.s1 x hx), fun x hx => ?_, h.few, ?_, h.val, h.nd, fun x hx hs => ?_⟩
    · have hx : x ∈ s.2 ++ [l] := hx
      rw [List.mem_append, List.mem_singleton] at hx
      rcases hx with hx | rfl
      · exact List.mem_append_left _ (h.s2 x hx)
      · simp
    · show s.1.length + (s.2 ++ [l]).length = (done ++ [l]).length
      rw [List.length_append, List.length_append]
      have := h.sum
      simp
      omega
    · show chs t b u x ∈ s.1.map (chs t b u) ∨ s.1.length = most
      rw [List.mem_append, List.mem_singleton] at hx
      rcases hx with hx | rfl
      · exact h.all x hx hs
      · by_cases h2 : chs t b u x ∈ s.1.map (chs t b u)
        · exact .inl h2
        · have := h.few
          have h3 : ¬ s.1.length < most := fun z => hc ⟨hs, h2, z⟩
          exact .inr (by omega)
theorem pick_fold {t : Tm} {b u most : Nat} : ∀ (ws done : Wds) (s : Wds × Wds), PkI t b u most done s → PkI t b u most (done ++ ws) (ws.foldl (pickStep t b u most) s)
  | [], done, s, h => by rw [List.append_nil]; exact h
  | l :: ws, done, s, h => by
    have z := pick_fold ws (done ++ [l]) _ (pick_step h l)
    rw [List.append_assoc] at z
    exact z
theorem pick_ok (t : Tm) (b u most : Nat) (ws : Wds) : PkI t b u most ws (pick t b u most ws) := pick_fold ws [] ([], []) ⟨by simp, by simp, Nat.zero_le _, rfl, by simp, by simp, by simp⟩
theorem pick_two {t : Tm} {b u most : Nat} {ws : Wds} (hm : 2 ≤ most) {l1 l2 : List Nat} (h1 : l1 ∈ ws) (h2 : l2 ∈ ws) (v1 : (chs t b u l1).isSome = true) (v2 : (chs t b u l2).isSome = true) (ne : chs t b u l1 ≠ chs t b u l2) : 2 ≤ (pick t b u most ws).1.length := by
  have p := pick_ok t b u most ws
  rcases p.all l1 h1 v1 with e1 | e1
  · rcases p.all l2 h2 v2 with e2 | e2
    · generalize hL : (pick t b u most ws).1.map (chs t b u) = L at e1 e2
      have hl : L.length = (pick t b u most ws).1.length := by rw [← hL, List.length_map]
      rw [← hl]
      cases L with
      | nil => cases e1
      | cons x r =>
        cases r with
        | nil =>
          rw [List.mem_singleton] at e1 e2
          exact absurd (e1.trans e2.symm) ne
        | cons y r => simp
    · omega
  · omega
theorem takes_found {t : Tm} {b u most n : Nat} {ws : Wds} (hn : ∀ l ∈ ws, l.length = n) (h2 : 2 ≤ (pick t b u most ws).1.length) : takesB t b u (pick t b u most ws).1 ((pick t b u most ws).1.length - 1) = true := by
  have p := pick_ok t b u most ws
  generalize pick t b u most ws = s at p h2 ⊢
  have hlen : ∀ l ∈ s.1, l.length = n := fun l hl => hn l (p.s1 l hl)
  have hd : (s.1.headD []).length = n := by
    cases hs : s.1 with
    | nil =>
      rw [hs] at h2
      simp at h2
    | cons x r => exact hlen x (by rw [hs]; simp)
  unfold takesB
  rw [if_neg (by omega), if_neg, Bool.and_eq_true, List.all_eq_true, decide_eq_true_eq]
  · refine ⟨p.val, ?_⟩
    have e : (s.1.map (chs t b u)) = (s.1.map fun l => (chs t b u l).getD []).map some := by
      rw [List.map_map]
      refine List.map_congr_left fun l hl => ?_
      obtain ⟨q, hq⟩ := Option.isSome_iff_exists.mp (p.val l hl)
      show _ = some ((chs t b u l).getD [])
      rw [hq]
      rfl
    have nd := p.nd
    rw [e] at nd
    unfold List.Nodup at nd ⊢
    rw [List.pairwise_map] at nd
    exact nd.imp fun h z => h (by rw [z])
  · intro z
    obtain ⟨l, hl, hz⟩ := List.any_eq_true.mp z
    rw [hd, hlen l hl] at hz
    simp at hz
/-! ### the square has different chords -/
def sq (u : Nat) : Tm := if u = 1 then .nd .mul lx lx else .nd .add (.nd .mul lx lx) ly
theorem sq_ok {u : Nat} (hu : u = 1 ∨ u = 2) : GoalOk (sq u) u := by
  rcases hu with rfl | rfl
  · exact ⟨by decide +kernel, by decide +kernel⟩
  · exact ⟨by decide +kernel, by decide +kernel⟩
theorem sq_text1 : ("( x * x )" : Str) = textOf false (sq 1) := by decide +kernel
theorem sq_text2 : ("( ( x * x ) + y )" : Str) = textOf false (sq 2) := by decide +kernel
theorem chs_sq1 (b : Nat) (l : List Nat) : chs (sq 1) b 1 l = some [sideQ b 1 l 0 1 * sideQ b 1 l 0 1 - sideQ b 1 l 0 0 * sideQ b 1 l 0 0] := rfl
theorem chs_sq2 (b : Nat) (l : List Nat) : chs (sq 2) b 2 l = some [(sideQ b 2 l 0 0 * sideQ b 2 l 0 0 + sideQ b 2 l 1 1) - (sideQ b 2 l 0 0 * sideQ b 2 l 0 0 + sideQ b 2 l 1 0), (sideQ b 2 l 0 1 * sideQ b 2 l 0 1 + sideQ b 2 l 1 0) - (sideQ b 2 l 0 0 * sideQ b 2 l 0 0 + sideQ b 2 l 1 0), (sideQ b 2 l 0 1 * sideQ b 2 l 0 1 + sideQ b 2 l 1 1) - (sideQ b 2 l 0 0 * sideQ b 2 l 0 0 + sideQ b 2 l 1 0)] := rfl
theorem dig_zero (b u i : Nat) : dig b u 0 i = 0 := by
  unfold dig
  by_cases h : u = 1
  · rw [if_pos h]
  · rw [if_neg h]
    by_cases h : i = 0
    · rw [if_pos h, Nat.zero_div]
    · rw [if_neg h, Nat.zero_mod]
theorem low_zeros (b u i : Nat) : ∀ n, lowOf b u (List.replicate n 0) i = 0
  | 0 => rfl
  | n + 1 => by rw [List.replicate_succ', low_snoc, low_zeros b u i n, dig_zero]; omega
def wzero (n : Nat) : List Nat := List.replicate n 0
def wone (b u n : Nat) : List Nat := List.replicate (n - 1) 0 ++ [if u = 1 then 1 else b]
theorem low_one {b u n : Nat} (hb : 2 ≤ b) : lowOf b u (wone b u n) 0 = 1 := by
  unfold wone
  rw [low_snoc, low_zeros]
  unfold dig
  by_cases h : u = 1
  · rw [if_pos h, if_pos h]
    omega
  · rw [if_neg h, if_neg h, if_pos rfl, Nat.div_self (by omega)]
    omega
theorem wl_zero {b u n : Nat} (hb : 2 ≤ b) : WL (b ^ u) n (wzero n) := ⟨by unfold wzero; rw [List.length_replicate], fun a ha => by
  rw [(List.mem_replicate.mp ha).2]
  exact Nat.pow_pos (by omega)⟩
theorem wl_one {b u n : Nat} (hb : 2 ≤ b) (hu : u = 1 ∨ u = 2) (hn : 1 ≤ n) : WL (b ^ u) n (wone b u n) := by
  refine ⟨by unfold wone; rw [List.length_append, List.length_replicate]; simp; omega, fun a ha => ?_⟩
  unfold wone at ha
  rw [List.mem_append, List.mem_singleton] at ha
  rcases ha with ha | rfl
  · rw [(List.mem_replicate.mp ha).2]
    exact Nat.pow_pos (by omega)
  · rcases hu with rfl | rfl
    · rw [if_pos rfl, Nat.pow_one]
      omega
    · rw [if_neg (by decide), Nat.pow_two]
      exact Nat.lt_of_lt_of_le (by omega : b < 2 * b) (Nat.mul_le_mul_right b hb)
theorem side_of {b u n : Nat} {l : List Nat} (hl : l.length = n) (i k : Nat) : sideQ b u l i k = Rat.divInt ((lowOf b u l i + k : Nat) : Int) ((b ^ n : Nat) : Int) := by
  unfold sideQ
  rw [hl]
theorem rat_ne {N : Int} (hN : N ≠ 0) : Rat.divInt 1 N * Rat.divInt 1 N - Rat.divInt 0 N * Rat.divInt 0 N ≠ Rat.divInt 2 N * Rat.divInt 2 N - Rat.divInt 1 N * Rat.divInt 1 N := by
  intro h
  rw [Rat.divInt_mul_divInt, Rat.divInt_mul_divInt, Rat.divInt_mul_divInt, Rat.divInt_sub_divInt _ _ (Int.mul_ne_zero hN hN) (Int.mul_ne_zero hN hN), Rat.divInt_sub_divInt _ _ (Int.mul_ne_zero hN hN) (Int.mul_ne_zero hN hN), Rat.divInt_eq_divInt_iff (Int.mul_ne_zero (Int.mul_ne_zero hN hN) (Int.mul_ne_zero hN hN)) (Int.mul_ne_zero (Int.mul_ne_zero hN hN) (Int.mul_ne_zero hN hN))] at h
  have hM : N * N ≠ 0 := Int.mul_ne_zero hN hN
  generalize N * N = M at h hM
  have h2 : (1 * 1 * M - 0 * 0 * M) = (2 * 2 * M - 1 * 1 * M) := Int.eq_of_mul_eq_mul_right (Int.mul_ne_zero hM hM) h
  omega
theorem sq_two {b u n : Nat} (hb : 2 ≤ b) (hu : u = 1 ∨ u = 2) (hn : 1 ≤ n) : (chs (sq u) b u (wzero n)).isSome = true ∧ (chs (sq u) b u (wone b u n)).isSome = true ∧ chs (sq u) b u (wzero n) ≠ chs (sq u) b u (wone b u n) := by
  have z0 : lowOf b u (wzero n) 0 = 0 := low_zeros b u 0 n
  have z1 : lowOf b u (wone b u n) 0 = 1 := low_one hb
  have l0 := (wl_zero (b := b) (u := u) (n := n) hb).1
  have l1 := (wl_one hb hu hn).1
  have hN : ((b ^ n : Nat) : Int) ≠ 0 := by
    have : 0 < b ^ n := Nat.pow_pos (by omega)
    omega
  have a0 := side_of (b := b) (u := u) l0 0 0
  have a1 := side_of (b := b) (u := u) l0 0 1
  have b0 := side_of (b := b) (u := u) l1 0 0
  have b1 := side_of (b := b) (u := u) l1 0 1
  rw [z0] at a0 a1
  rw [z1] at b0 b1
  have key := rat_ne hN
  rcases hu with rfl | rfl
  · refine ⟨rfl, rfl, fun h => ?_⟩
    rw [chs_sq1, chs_sq1, a0, a1, b0, b1] at h
    injection h with h
    injection h with h
    exact key h
  · refine ⟨rfl, rfl, fun h => ?_⟩
    rw [chs_sq2, chs_sq2] at h
    injection h with h
    injection h with _ h
    injection h with h _
    rw [a0, a1, b0, b1] at h
    generalize sideQ b 2 (wzero n) 1 0 = p at h
    generalize sideQ b 2 (wone b 2 n) 1 0 = q at h
    have c : ∀ x y p : Rat, (x + p) - (y + p) = x - y := fun x y p => by grind
    rw [c, c] at h
    exact key h
/-! ### letters and words -/
theorem word2_of {b u N : Nat} {l : List Nat} (hb : 2 ≤ b) (hb9 : b ≤ 9) (hu : u = 1 ∨ u = 2) (hN : N ≤ 12) (h : WB (b ^ u) N l) : Word2 b u l := by
  refine ⟨⟨by omega, by omega, hu, by have := h.1; omega, fun a ha i hi => ?_⟩, hb9, by have := h.1; omega⟩
  have hl := h.2 a ha
  rcases hu with rfl | rfl
  · unfold dig
    rw [if_pos rfl]
    rw [Nat.pow_one] at hl
    exact hl
  · unfold dig
    rw [if_neg (by decide)]
    rw [Nat.pow_two] at hl
    by_cases h0 : i = 0
    · rw [if_pos h0]
      exact Nat.div_lt_of_lt_mul hl
    · rw [if_neg h0]
      exact Nat.mod_lt _ (by omega)
theorem root_text (t : Tm) : ("root " : Str) ++ textOf false t = textOf true t := by
  unfold textOf
  rw [join_eq, join_eq]
  have hne := items_ne false t
  have e : itemsOf true t = ("root" : Str) :: itemsOf false t := rfl
  rw [e]
  cases h : itemsOf false t with
  | nil => exact absurd h hne
  | cons x r =>
    show _ = (("root" : Str) ++ (" " : Str)) ++ Str.join " " (x :: r)
    rw [show ("root" : Str) ++ (" " : Str) = ("root " : Str) by decide +kernel]
theorem no_root_text (t : Tm) : ("" : Str) ++ textOf false t = textOf false t := by
  generalize textOf false t = z
  have e : ∀ z : Str, (⟨#[]⟩ : Str) ++ z = z := fun ⟨a⟩ => by
    show (⟨#[] ++ a⟩ : Str) = ⟨a⟩
    rw [Array.empty_append]
  exact e z
end K82
set_option Elab.async false
set_option linter.all false
set_option maxRecDepth 100000
set_option maxHeartbeats 4000000
namespace K82
open PySem PySem.Spec PyProof.Rows L2 Evl Dl K82Head TL
local macro_rules | `(tactic| walk_at "ed") => `(tactic| first
  | exact ed_var rfl | exact ed_int | exact ed_str | exact ed_bl | exact ed_non | exact eda_nil | exact edo_none
  | exact od_add | exact od_sub | exact od_lt | exact od_le | exact od_gt | exact od_ge | exact od_eqi | exact od_nei | exact od_eqs | exact od_nes | exact od_isN | exact od_notN | exact cd_int | exact cd_abs | exact cd_max2 | exact cd_gcd
  | ((with_reducible apply eda_cons) <;> walk_at "ed") | ((with_reducible apply ed_op) <;> walk_at "ed") | ((with_reducible apply ed_cb) <;> walk_at "ed") | ((with_reducible apply eb_test) <;> walk_at "ed") | ((with_reducible apply eb_tru) <;> walk_at "ed") | ((with_reducible apply ed_tup) <;> walk_at "ed")
  | ((with_reducible apply ed_neg) <;> walk_at "ed") | ((with_reducible apply eb_not) <;> walk_at "ed") | ((with_reducible apply edl_lst) <;> walk_at "ed") | ((with_reducible apply edo_some) <;> walk_at "ed") | ((with_reducible apply ed_call) <;> walk_at "ed")
  | (apply od_mul; assumption) | (apply od_rem; omega) | (apply od_div <;> omega) | (apply od_ixT; rfl) | (apply od_ixL; rfl)
  | (with_reducible exact True.intro) | (simp; done) | skip)
/-! ### one round -/
abbrev o_ : Sl := .no
abbrev GR (a c : Addr) (k m : Nat) (s2 s3 s4 s5 s6 s7 s8 s9 s10 s11 s12 s13 s14 s15 s16 s17 s18 s19 : Sl) : List Sl :=
  [bagS a c m, .dat (.int (k : Nat)), s2, s3, s4, s5, s6, s7, s8, s9, s10, s11, s12, s13, s14, s15, s16, s17, s18, s19]
def F_round (ds : List D) (S : D → Prop) : Prop := ∃ k : Nat, k ≤ 3 ∧ ds = [.int (k : Nat)] ∧ S = fun d => d = .bl true
theorem nat2 {x y : Nat} {d : D} (h : d = .int ((x : Int) + (y : Int))) : d = .int ((x + y : Nat) : Int) := by rw [h, Int.natCast_add]
theorem nol_wd (l : List Nat) : nol (wd l) = true := by
  show nolL (l.map fun (a : Nat) => D.int (a : Int)) = true
  induction l with
  | nil => rfl
  | cons a r ih => exact ih
theorem nol_wds : ∀ vs : Wds, nolL (vs.map wd) = true
  | [] => rfl
  | l :: r => by
    show (nol (wd l) && nolL (r.map wd)) = true
    rw [nol_wd, nol_wds r]
    rfl
theorem nol_bar (K : PySem.W.Frag) (b u : Nat) (vs : Wds) : nol (barD K b u vs) = true := by
  show (true && (true && (nolL (vs.map wd) && true))) = true
  rw [nol_wds]
  rfl
theorem same_words {n : Nat} {x : D} {vs : Wds} {L N : Nat} (hx : x = .lst (vs.map wd) ∨ x = .tup (vs.map wd)) (hl : vs.length ≤ 100000) (hw : ∀ l ∈ vs, WB L (N + 1) l) (hN : N ≤ 9) : SameOk (n + 2) x := by
  have key : (vs.map wd).length ≤ 100000 ∧ ∀ y ∈ vs.map wd, SameOk (n + 1) y := by
    refine ⟨by rw [List.length_map]; exact hl, fun y hy => ?_⟩
    obtain ⟨l, hm, rfl⟩ := List.mem_map.mp hy
    refine ⟨by rw [List.length_map]; have := (hw l hm).1; omega, fun z hz => ?_⟩
    obtain ⟨a, _, rfl⟩ := List.mem_map.mp hz
    cases n <;> exact True.intro
  rcases hx with rfl | rfl
  · exact key
  · exact key
section
variable {P : Program} {w : World} {K : PySem.W.Frag} {mg : Str → Option Value} {base : Heap}
theorem sc_law_round : FnScope ["bag", "number", "wide", "text", "root", "width", "base", "n", "turn", "deeds", "own", "goal", "letters", "due", "words", "other", "now", "many", "handed", "bar"] ["bag", "number"] (defScope s_law_round) := ⟨rfl, rfl, rfl, by decide +kernel, rfl, by decide +kernel, by decide +kernel⟩
theorem ok_law_round (T : Txt K mg) : Cal P w K mg base "_law_round" 9 (bsp 1000 F_round) := by
  have c_law_draw := ok_law_draw (P := P) (w := w) (base := base) T
  have c_law_of := ok_law_of (P := P) (w := w) (base := base) T
  have c_law_goal := ok_law_goal (P := P) (w := w) (base := base) T
  have c_law_deeds := ok_law_deeds (P := P) (w := w) (base := base) T
  have c_law_width := ok_law_width (P := P) (w := w) (base := base) T
  have c_Target := ok_Target (P := P) (w := w) (base := base) T
  have c_Bar := ok_Bar (P := P) (w := w) (base := base) T
  have c_law_power := ok_law_power (P := P) (w := w) (base := base) T
  have c_law_same := ok_law_same5 (P := P) (w := w) (base := base) T
  have c_law_called := ok_law_called (P := P) (w := w) (base := base) T
  have c_law_drawn := ok_law_drawn (P := P) (w := w) (base := base) T
  have c_law_picked := ok_law_picked (P := P) (w := w) (base := base) T
  have c_law_bent := ok_law_bent (P := P) (w := w) (base := base) T
  have c_law_judge := ok_law_judge (P := P) (w := w) (base := base) T
  obtain ⟨fd_len, F_len, B_len⟩ := ok_Bar_len (P := P) (w := w) (base := base) T
  refine bsp_mk T.d_law_round T.g_law_round sc_law_round (fun _ _ _ _ _ _ us hl => match us, hl with | [_, _], _ => rfl) (fun ds S ⟨_, _, e, _⟩ => by rw [e] <;> rfl) (fun cdv A outer s H E hr => ⟨_, (pss_cons (ps_set (i := 2) sc_law_round.nd rfl (Or.inl rfl) (pe_op (op_addK K) pe_int (pe_cal c_law_draw (hr.mono (by decide)) rfl (pa_cons (pv 0) (pa_cons pe_int pa_nil)))))
    (pss_cons (ps_set (i := 3) sc_law_round.nd rfl (Or.inl rfl) (pe_ifExp (pt_cmpR op_gt (pv 1) pe_int (nomark _)) (pe_cal c_law_goal (hr.mono (by decide)) rfl (pa_cons (pv 0) (pa_cons (pv 2) pa_nil))) (pe_ix (ix_seqK K) (pe_lst (pa_cons pe_str (pa_cons pe_str pa_nil))) (pe_op op_sub (pv 2) pe_int) (fun _ _ => rfl))))
    (pss_cons (ps_set (i := 4) sc_law_round.nd rfl (Or.inl rfl) (pe_and (pe_cmpR (op_eqK K hr.units) (pe_cal c_law_draw (hr.mono (by decide)) rfl (pa_cons (pv 0) (pa_cons pe_int pa_nil))) pe_int (nomark _)) (pe_one (pe_cmpR op_gt (pv 1) pe_int (nomark _)))))
    (pss_cons (ps_par (i := 9) (j := 10) (by rfl) sc_law_round.nd rfl rfl (by decide) rfl rfl (pa_cons (pe_cal c_law_deeds (hr.mono (by decide)) rfl (pa_cons (pv 3) pa_nil)) (pa_cons (pe_cal c_law_width (hr.mono (by decide)) rfl (pa_cons (pv 3) pa_nil)) pa_nil)) (by rfl))
    (pss_cons (ps_set (i := 5) sc_law_round.nd rfl (Or.inl rfl) (pe_ifExp (PW.pt (pw_and (pt_cmpR (op_eqK K hr.units) (pe_cal c_law_draw (hr.mono (by decide)) rfl (pa_cons (pv 0) (pa_cons pe_int pa_nil))) pe_int (nomark _)) (pw_and1 (pt_cmpR op_gt (pv 1) pe_int (nomark _))))) pe_int (pv 2)))
    (pss_cons (ps_set (i := 6) sc_law_round.nd rfl (Or.inl rfl) (pe_op (op_addK K) pe_int (pe_cal c_law_draw (hr.mono (by decide)) rfl (pa_cons (pv 0) (pa_cons (pe_ifExp (pt_cmpR (op_eqK K hr.units) (pv 5) pe_int (nomark _)) pe_int pe_int) pa_nil)))))
    (pss_cons (ps_par (i := 11) (j := 12) (by rfl) sc_law_round.nd rfl rfl (by decide) rfl rfl (pa_cons (pe_mkc c_Target (hr.mono (by decide)) rfl (pa_cons (pe_op (op_addK K) (pe_ifExp (pt_truthK K (pv 4) (by intro _; rfl)) pe_str pe_str) (pv 3)) pa_nil)) (pa_cons (pe_cal c_law_power (hr.mono (by decide)) rfl (pa_cons (pv 6) (pa_cons (pv 5) pa_nil))) pa_nil)) (by rfl))
    (pss_cons (ps_set (i := 7) sc_law_round.nd rfl (Or.inl rfl) (pe_ifExp (pt_cmpR (op_eqK K hr.units) (pv 1) pe_int (nomark _)) (pe_op (op_addK K) pe_int (pe_cal c_law_draw (hr.mono (by decide)) rfl (pa_cons (pv 0) (pa_cons pe_int pa_nil)))) (pe_ifExp (pt_cmpR (op_eqK K hr.units) (pe_cal c_law_draw (hr.mono (by decide)) rfl (pa_cons (pv 0) (pa_cons pe_int pa_nil))) pe_int (nomark _)) pe_int (pe_op (op_addK K) pe_int (pe_cal c_law_draw (hr.mono (by decide)) rfl (pa_cons (pv 0) (pa_cons pe_int pa_nil)))))))
    (pss_cons (ps_if (PW.pt (pw_or (pt_cmpR op_lt (pv 5) (pv 10) (nomark _)) (pw_or1 (pt_truthK K (pv 4) (by intro _; rfl)))))
      (pss_cons (ps_set (i := 13) sc_law_round.nd rfl (Or.inl rfl) (pe_tup (pa_cons pe_str (pa_cons (pe_ifExp (pt_cmpR op_lt (pv 5) (pv 10) (nomark _)) pe_str pe_str) (pa_cons pe_bl pa_nil)))))
        (pss_one (ps_ret (pe_cal c_law_same (hr.mono (by decide)) rfl (pa_cons (pe_cal c_law_called (hr.mono (by decide)) rfl (pa_cons (pv 11) (pa_cons (pe_mkc c_Bar (hr.mono (by decide)) rfl (pa_cons (pv 6) (pa_cons (pv 5) (pa_cons (pe_slice (sl_allK K) (pe_cal c_law_drawn (hr.mono (by decide)) rfl (pa_cons (pv 0) (pa_cons (pv 6) (pa_cons (pv 5) (pa_cons (pv 7) pa_nil))))) po_none (po_some pe_int)) pa_nil)))) (pa_cons (pe_cal c_law_draw (hr.mono (by decide)) rfl (pa_cons (pv 0) (pa_cons pe_int pa_nil))) pa_nil)))) (pa_cons (pv 13) pa_nil))))))
      pss_nil)
    (pss_cons (ps_asg (pe_cal c_law_picked (hr.mono (by decide)) rfl (pa_cons (pv 9) (pa_cons (pv 6) (pa_cons (pv 5) (pa_cons (pe_cal c_law_drawn (hr.mono (by decide)) rfl (pa_cons (pv 0) (pa_cons (pv 6) (pa_cons (pv 5) (pa_cons (pv 7) pa_nil))))) (pa_cons (pe_op (op_addK K) pe_int (pe_cal c_law_draw (hr.mono (by decide)) rfl (pa_cons (pv 0) (pa_cons pe_int pa_nil)))) pa_nil)))))) (pg_tupK K (n := 2) rfl (pgs_cons (pg_name (i := 14) sc_law_round.nd rfl (Or.inl rfl)) (pgs_cons (pg_name (i := 15) sc_law_round.nd rfl (Or.inl rfl)) pgs_nil))))
    (pss_cons (ps_for PassesOwn.never rfl (pi_range1 (by rfl) T.b_range (pa_cons pe_int pa_nil)) (pg_name (i := 8) sc_law_round.nd rfl (Or.inl rfl))
      (pss_cons (ps_set (i := 16) sc_law_round.nd rfl (Or.inl rfl) (pe_ifExp (pt_cmpR (op_eqK K hr.units) (pv 8) pe_int (nomark _)) (pv 14) (pe_cal c_law_bent (hr.mono (by decide)) rfl (pa_cons (pv 0) (pa_cons (pv 14) (pa_cons (pv 15) (pa_cons (pv 12) pa_nil)))))))
        (pss_cons (ps_set (i := 17) sc_law_round.nd rfl (Or.inl rfl) (pe_op (op_addK K) (pe_op op_sub (pe_callB (call_lenK K) (by rfl) T.b_len (by decide +kernel) (pa_cons (pv 16) pa_nil)) pe_int) (pe_ifExp (pt_cmpR op_gt (pv 8) pe_int (nomark _)) (pe_cal c_law_of (hr.mono (by decide)) rfl (pa_cons (pv 0) (pa_cons (pe_lst (pa_cons pe_int (pa_cons pe_int (pa_cons pe_int (pa_cons pe_int (pa_cons pe_int (pa_cons (pe_un un_neg pe_int) (pa_cons (pe_un un_neg (pe_callB (call_lenK K) (by rfl) T.b_len (by decide +kernel) (pa_cons (pv 16) pa_nil))) (pa_cons (pe_op op_sub (pe_un un_neg pe_int) (pe_callB (call_lenK K) (by rfl) T.b_len (by decide +kernel) (pa_cons (pv 16) pa_nil))) pa_nil))))))))) pa_nil))) pe_int)))
        (pss_cons (ps_set (i := 18) sc_law_round.nd rfl (Or.inl rfl) (pe_callTy (call_listK K) (by rfl) T.b_list (by decide +kernel) (pa_cons (pv 16) pa_nil)))
        (pss_cons (ps_set (i := 19) sc_law_round.nd rfl (Or.inl rfl) (pe_mkc c_Bar (hr.mono (by decide)) rfl (pa_cons (pv 6) (pa_cons (pv 5) (pa_cons (pv 18) pa_nil)))))
        (pss_cons (ps_if (PW.pt (pw_or (pt_not (pt_truthK K (pe_cal c_law_same (hr.mono (by decide)) rfl (pa_cons (pv 18) (pa_cons (pv 16) pa_nil))) (by intro _; rfl))) (pw_or1 (pt_not (pt_truthK K (pe_cal c_law_same (hr.mono (by decide)) rfl (pa_cons (pe_tup (pa_cons (pe_fldK K (pv 19) rfl) (pa_cons (pe_callB (call_lenM T.me_Bar_len F_len B_len (hr.mono (by decide))) (by rfl) T.b_len (by decide +kernel) (pa_cons (pv 19) pa_nil)) pa_nil))) (pa_cons (pe_tup (pa_cons (pe_callTy (call_tupleK K) (by rfl) T.b_tuple (by decide +kernel) (pa_cons (pv 16) pa_nil)) (pa_cons (pe_callB (call_lenK K) (by rfl) T.b_len (by decide +kernel) (pa_cons (pv 16) pa_nil)) pa_nil))) pa_nil))) (by intro _; rfl))))))
          (pss_one (ps_ret pe_bl))
          pss_nil)
        (pss_cons (ps_expr (pe_bmK K PySem.F.plainAttrs_list PySem.F.slot_list_append PySem.F.type_list_append mt_append (pv 18) (pa_cons (pe_op (op_mulK K) (pe_tup (pa_cons pe_int pa_nil)) pe_int) pa_nil)))
        (pss_cons (ps_if (PW.pt (pw_and (pt_cmpR (op_eqK K hr.units) (pv 1) pe_int (nomark _)) (pw_and (pt_cmpR (op_eqK K hr.units) (pv 8) pe_int (nomark _)) (pw_and1 (pt_not (pt_truthK K (pe_cal c_law_judge (hr.mono (by decide)) rfl (pa_cons (pv 9) (pa_cons (pv 6) (pa_cons (pv 5) (pa_cons (pv 16) (pa_cons (pv 17) pa_nil)))))) (by intro _; rfl)))))))
          (pss_one (ps_ret pe_bl))
          pss_nil)
        (pss_one (ps_if (pt_not (pt_truthK K (pe_cal c_law_same (hr.mono (by decide)) rfl (pa_cons (pe_cal c_law_called (hr.mono (by decide)) rfl (pa_cons (pv 11) (pa_cons (pv 19) (pa_cons (pv 17) pa_nil)))) (pa_cons (pe_cal c_law_judge (hr.mono (by decide)) rfl (pa_cons (pv 9) (pa_cons (pv 6) (pa_cons (pv 5) (pa_cons (pv 16) (pa_cons (pv 17) pa_nil)))))) pa_nil))) (by intro _; rfl)))
          (pss_one (ps_ret pe_bl))
          pss_nil))))))))))
    (pss_one (ps_ret pe_bl))))))))))))), ?_⟩)
  intro B0 H0 a c n ds S hf hac hn
  obtain ⟨k, hk, rfl, rfl⟩ := hf
  show SX (cells c) B0 H0 _ (GR a c k n o_ o_ o_ o_ o_ o_ o_ o_ o_ o_ o_ o_ o_ o_ o_ o_ o_ o_) _ _
  -- wide
  refine sx_seqS (ss_asgY (S := fun d G => ∃ v : Nat, (v = 1 ∨ v = 2) ∧ d = .int (v : Nat) ∧ G = GR a c k (n + 1) o_ o_ o_ o_ o_ o_ o_ o_ o_ o_ o_ o_ o_ o_ o_ o_ o_ o_) (ey_opL ed_int (ey_draw (sz := 2) rfl (by omega) ed_int (by omega) (by omega)) fun y G ⟨⟨i, hi, ey⟩, eG⟩ => by
    rw [ey]
    exact ops_of od_add ⟨1 + i, by omega, nat2 rfl, eG⟩) ?_)
  rintro d G ⟨v, hv, rfl, rfl⟩
  show SX (cells c) B0 H0 _ (GR a c k (n + 1) (.dat (.int (v : Nat))) o_ o_ o_ o_ o_ o_ o_ o_ o_ o_ o_ o_ o_ o_ o_ o_ o_) _ _
  -- text
  refine sx_seqS (ss_asgY (S := fun d G => ∃ (t : Tm) (m : Nat), GoalOk t v ∧ (k = 0 → t = sq v) ∧ m ≤ n + 21 ∧ d = .str (textOf false t) ∧ G = GR a c k m (.dat (.int (v : Nat))) o_ o_ o_ o_ o_ o_ o_ o_ o_ o_ o_ o_ o_ o_ o_ o_ o_) (ey_if (yb_of_eb (eb_test (ed_op (ed_var rfl) ed_int od_gt))) (fun G ⟨e, eG⟩ => ?_) (fun G ⟨e, eG⟩ => ?_)) ?_)
  · have hk1 : 1 < k := by
      have := of_decide_eq_true e.symm
      omega
    subst eG
    refine EY.imp (ey_bcall (j := 0) rfl (by omega) (eda_cons (ed_var rfl) eda_nil) ⟨v, hv, rfl, rfl⟩) fun d G ⟨⟨t, ht, ed⟩, eG⟩ => ⟨t, n + 1 + 20, ht, fun z => by omega, by omega, ed, by rw [eG]; rfl⟩
  · subst eG
    have hs : ([D.str "( x * x )", .str "( ( x * x ) + y )"] : List D)[v - 1]? = some (.str (textOf false (sq v))) := by
      rcases hv with rfl | rfl
      · rw [← sq_text1]
        rfl
      · rw [← sq_text2]
        rfl
    refine EY.imp (ey_ed (Γ := GR a c k (n + 1) (.dat (.int (v : Nat))) o_ o_ o_ o_ o_ o_ o_ o_ o_ o_ o_ o_ o_ o_ o_ o_ o_) (d := .str (textOf false (sq v))) (ed_op (ed_of_el (edl_lst (eda_cons ed_str (eda_cons ed_str eda_nil)))) (ed_op (ed_var rfl) ed_int od_sub) (od_ixL (by
      rw [show ((v : Nat) : Int) - 1 = ((v - 1 : Nat) : Int) by omega]
      exact L2.atI_nat hs)))) fun d G ⟨ed, eG⟩ => ⟨sq v, n + 1, sq_ok hv, fun _ => rfl, by omega, ed, eG⟩
  rintro d G ⟨t, m1, hgo, ht0, hm1, rfl, rfl⟩
  show SX (cells c) B0 H0 _ (GR a c k m1 (.dat (.int (v : Nat))) (.dat (.str (textOf false t))) o_ o_ o_ o_ o_ o_ o_ o_ o_ o_ o_ o_ o_ o_ o_ o_) _ _
  have htk : t.toks.length ≤ 17 := by
    have := toks_lvs t
    have := hgo.lv
    omega
  have hpo : t.post.length ≤ 100 := by
    have := post_lvs t
    have := hgo.lv
    omega
  have hop : opsN t.post ≤ 5 := by
    have := ops_lvs t
    have := hgo.lv
    omega
  -- root
  refine sx_seqS (ss_asgY (S := fun d G => ∃ r : Bool, (k = 0 → r = false) ∧ d = .bl r ∧ G = GR a c k (m1 + 1) (.dat (.int (v : Nat))) (.dat (.str (textOf false t))) o_ o_ o_ o_ o_ o_ o_ o_ o_ o_ o_ o_ o_ o_ o_ o_) (ey_andV (P := fun b G => G = GR a c k (m1 + 1) (.dat (.int (v : Nat))) (.dat (.str (textOf false t))) o_ o_ o_ o_ o_ o_ o_ o_ o_ o_ o_ o_ o_ o_ o_ o_) (ey_opC (ey_draw (sz := 8) rfl (by omega) ed_int (by omega) (by omega)) (fun _ _ _ => ed_int) fun x G ⟨⟨i, hi, ex⟩, eG⟩ => ?_) (fun G eG => ?_) (fun G eG => ⟨false, fun _ => rfl, rfl, eG⟩)) ?_)
  · rw [ex]
    exact ops_of od_eqi ⟨_, rfl, eG⟩
  · subst eG
    exact EY.imp (ey_ed (Γ := GR a c k (m1 + 1) (.dat (.int (v : Nat))) (.dat (.str (textOf false t))) o_ o_ o_ o_ o_ o_ o_ o_ o_ o_ o_ o_ o_ o_ o_ o_) (ed_op (ed_var rfl) ed_int od_gt)) fun d G ⟨ed, eG⟩ => ⟨_, fun z => by rw [z]; rfl, ed, eG⟩
  rintro d G ⟨r, hr0, rfl, rfl⟩
  show SX (cells c) B0 H0 _ (GR a c k (m1 + 1) (.dat (.int (v : Nat))) (.dat (.str (textOf false t))) (.dat (.bl r)) o_ o_ o_ o_ o_ o_ o_ o_ o_ o_ o_ o_ o_ o_ o_) _ _
  -- deeds, own
  refine sx_seqS (ssd_par (x := .lst (t.post.map Po.dL)) (y := .int (t.wid : Nat)) (eda_cons (ed_call (ds := [.str (textOf false t)]) (eda_cons (ed_var rfl) eda_nil) ⟨t, by omega, rfl, rfl⟩) (eda_cons (ed_call (ds := [.str (textOf false t)]) (eda_cons (ed_var rfl) eda_nil) ⟨t, rfl, rfl⟩) eda_nil)) ?_)
  show SX (cells c) B0 H0 _ (GR a c k (m1 + 1) (.dat (.int (v : Nat))) (.dat (.str (textOf false t))) (.dat (.bl r)) o_ o_ o_ o_ (.dat (.lst (t.post.map Po.dL))) (.dat (.int (t.wid : Nat))) o_ o_ o_ o_ o_ o_ o_ o_ o_) _ _
  -- width
  refine sx_seqS (ss_asgY (S := fun d G => ∃ u : Nat, (u = 1 ∨ u = 2) ∧ (k = 0 → u = v) ∧ d = .int (u : Nat) ∧ G = GR a c k (m1 + 2) (.dat (.int (v : Nat))) (.dat (.str (textOf false t))) (.dat (.bl r)) o_ o_ o_ o_ (.dat (.lst (t.post.map Po.dL))) (.dat (.int (t.wid : Nat))) o_ o_ o_ o_ o_ o_ o_ o_ o_) (ey_if (P := fun b G => (k = 0 → b = false) ∧ G = GR a c k (m1 + 2) (.dat (.int (v : Nat))) (.dat (.str (textOf false t))) (.dat (.bl r)) o_ o_ o_ o_ (.dat (.lst (t.post.map Po.dL))) (.dat (.int (t.wid : Nat))) o_ o_ o_ o_ o_ o_ o_ o_ o_) (yb_and (P := fun b G => G = GR a c k (m1 + 2) (.dat (.int (v : Nat))) (.dat (.str (textOf false t))) (.dat (.bl r)) o_ o_ o_ o_ (.dat (.lst (t.post.map Po.dL))) (.dat (.int (t.wid : Nat))) o_ o_ o_ o_ o_ o_ o_ o_ o_) (yb_test (ey_opC (ey_draw (sz := 8) rfl (by omega) ed_int (by omega) (by omega)) (fun _ _ _ => ed_int) fun x G ⟨⟨i, hi, ex⟩, eG⟩ => ?_)) (fun G eG => ?_) (fun G eG => ⟨fun _ => rfl, eG⟩)) (fun G ⟨hb, eG⟩ => ?_) (fun G ⟨hb, eG⟩ => ?_)) ?_)
  · rw [ex]
    exact ops_of od_eqi ⟨_, rfl, eG⟩
  · subst eG
    exact YB.imp (yb_of_eb (Γ := GR a c k (m1 + 2) (.dat (.int (v : Nat))) (.dat (.str (textOf false t))) (.dat (.bl r)) o_ o_ o_ o_ (.dat (.lst (t.post.map Po.dL))) (.dat (.int (t.wid : Nat))) o_ o_ o_ o_ o_ o_ o_ o_ o_) (eb_test (ed_op (ed_var rfl) ed_int od_gt))) fun b G ⟨eb, eG⟩ => ⟨fun z => by rw [eb, z]; rfl, eG⟩
  · subst eG
    exact EY.imp (ey_ed (Γ := GR a c k (m1 + 2) (.dat (.int (v : Nat))) (.dat (.str (textOf false t))) (.dat (.bl r)) o_ o_ o_ o_ (.dat (.lst (t.post.map Po.dL))) (.dat (.int (t.wid : Nat))) o_ o_ o_ o_ o_ o_ o_ o_ o_) ed_int) fun d G ⟨ed, eG⟩ => ⟨1, .inl rfl, fun z => (by cases hb z), ed, eG⟩
  · subst eG
    exact EY.imp (ey_ed (Γ := GR a c k (m1 + 2) (.dat (.int (v : Nat))) (.dat (.str (textOf false t))) (.dat (.bl r)) o_ o_ o_ o_ (.dat (.lst (t.post.map Po.dL))) (.dat (.int (t.wid : Nat))) o_ o_ o_ o_ o_ o_ o_ o_ o_) (ed_var rfl)) fun d G ⟨ed, eG⟩ => ⟨v, hv, fun _ => rfl, ed, eG⟩
  rintro d G ⟨u, hu, hu0, rfl, rfl⟩
  show SX (cells c) B0 H0 _ (GR a c k (m1 + 2) (.dat (.int (v : Nat))) (.dat (.str (textOf false t))) (.dat (.bl r)) (.dat (.int (u : Nat))) o_ o_ o_ (.dat (.lst (t.post.map Po.dL))) (.dat (.int (t.wid : Nat))) o_ o_ o_ o_ o_ o_ o_ o_ o_) _ _
  -- base
  refine sx_seqS (ss_asgY (S := fun d G => ∃ b : Nat, 2 ≤ b ∧ b ≤ 5 ∧ (u = 2 → b ≤ 3) ∧ d = .int (b : Nat) ∧ G = GR a c k (m1 + 3) (.dat (.int (v : Nat))) (.dat (.str (textOf false t))) (.dat (.bl r)) (.dat (.int (u : Nat))) o_ o_ o_ (.dat (.lst (t.post.map Po.dL))) (.dat (.int (t.wid : Nat))) o_ o_ o_ o_ o_ o_ o_ o_ o_) (ey_opL ed_int (ey_draw (sz := if u = 1 then 4 else 2) rfl (by omega) ((ed_if (b := decide (u = 1)) ((eb_test (ed_op (ed_var rfl) ed_int od_eqi)).is (by rw [Bool.eq_iff_iff]; simp; omega)) (fun _ => ed_int) (fun _ => ed_int)).is (by by_cases h : u = 1 <;> simp [h])) (by split <;> omega) (by split <;> omega)) fun y G ⟨⟨i, hi, ey⟩, eG⟩ => ?_) ?_)
  · rw [ey]
    refine ops_of od_add ⟨2 + i, by omega, ?_, fun h => ?_, nat2 rfl, eG⟩
    · split at hi <;> omega
    · rw [if_neg (by omega)] at hi
      omega
  rintro d G ⟨b, hb2, hb5, hb3, rfl, rfl⟩
  show SX (cells c) B0 H0 _ (GR a c k (m1 + 3) (.dat (.int (v : Nat))) (.dat (.str (textOf false t))) (.dat (.bl r)) (.dat (.int (u : Nat))) (.dat (.int (b : Nat))) o_ o_ (.dat (.lst (t.post.map Po.dL))) (.dat (.int (t.wid : Nat))) o_ o_ o_ o_ o_ o_ o_ o_ o_) _ _
  -- goal, letters
  have tl := text_len (r := false) (t := t) (by omega)
  refine sx_seqS (ssd_par (x := targetD K r t) (y := .int ((b ^ u : Nat) : Int)) (eda_cons (ed_make (ds := [.str (textOf r t)]) (eda_cons ?_ eda_nil) ⟨r, t, by omega, rfl, rfl⟩) (eda_cons (ed_call (ds := [.int (b : Nat), .int (u : Nat)]) (eda_cons (ed_var rfl) (eda_cons (ed_var rfl) eda_nil)) ⟨b, u, rfl, by omega, by omega, rfl⟩) eda_nil)) ?_)
  · cases r with
    | true =>
      refine (ed_op (ed_ifT (eb_tru (d := .bl true) (ed_var rfl)) ed_str) (ed_var rfl) (od_addS ?_)).is (by rw [root_text])
      have e1 : ("root " : Str).length = 5 := by decide
      omega
    | false =>
      refine (ed_op (ed_ifF (eb_tru (d := .bl false) (ed_var rfl)) ed_str) (ed_var rfl) (od_addS ?_)).is (by rw [no_root_text])
      have e1 : ("" : Str).length = 0 := by decide
      omega
  show SX (cells c) B0 H0 _ (GR a c k (m1 + 3) (.dat (.int (v : Nat))) (.dat (.str (textOf false t))) (.dat (.bl r)) (.dat (.int (u : Nat))) (.dat (.int (b : Nat))) o_ o_ (.dat (.lst (t.post.map Po.dL))) (.dat (.int (t.wid : Nat))) (.dat (targetD K r t)) (.dat (.int ((b ^ u : Nat) : Int))) o_ o_ o_ o_ o_ o_ o_) _ _
  let G5 : Nat → Sl → Sl → Sl → Sl → Sl → Sl → Sl → Sl → Sl → List Sl := fun m s7 s8 s13 s14 s15 s16 s17 s18 s19 => GR a c k m (.dat (.int (v : Nat))) (.dat (.str (textOf false t))) (.dat (.bl r)) (.dat (.int (u : Nat))) (.dat (.int (b : Nat))) s7 s8 (.dat (.lst (t.post.map Po.dL))) (.dat (.int (t.wid : Nat))) (.dat (targetD K r t)) (.dat (.int ((b ^ u : Nat) : Int))) s13 s14 s15 s16 s17 s18 s19
  -- n
  refine sx_seqS (ss_asgY (S := fun d G => ∃ (N m : Nat), 1 ≤ N ∧ N ≤ 9 ∧ (k = 0 → N ≤ 2) ∧ m ≤ m1 + 5 ∧ d = .int (N : Nat) ∧ G = G5 m o_ o_ o_ o_ o_ o_ o_ o_ o_) (ey_if (yb_of_eb (eb_test (ed_op (ed_var rfl) ed_int od_eqi))) (fun G ⟨e, eG⟩ => ?_) (fun G ⟨e, eG⟩ => ?_)) ?_)
  · subst eG
    refine EY.imp (Γ := G5 (m1 + 3) o_ o_ o_ o_ o_ o_ o_ o_ o_) (S := fun d G => ∃ i : Nat, i < 2 ∧ d = .int ((1 + i : Nat) : Int) ∧ G = G5 (m1 + 4) o_ o_ o_ o_ o_ o_ o_ o_ o_) (ey_opL ed_int (ey_draw (sz := 2) rfl (by omega) ed_int (by omega) (by omega)) fun y G ⟨⟨i, hi, ey⟩, eG⟩ => ?_) fun d G ⟨i, hi, ed, eG⟩ => ⟨1 + i, m1 + 4, by omega, by omega, fun _ => by omega, by omega, ed, eG⟩
    rw [ey]
    exact ops_of od_add ⟨i, hi, nat2 rfl, eG⟩
  · subst eG
    have hk0 : k ≠ 0 := fun z => by
      rw [z] at e
      cases e
    refine EY.imp (Γ := G5 (m1 + 3) o_ o_ o_ o_ o_ o_ o_ o_ o_) (S := fun d G => ∃ (N m : Nat), 1 ≤ N ∧ N ≤ 9 ∧ m ≤ m1 + 5 ∧ d = .int (N : Nat) ∧ G = G5 m o_ o_ o_ o_ o_ o_ o_ o_ o_) (ey_if (P := fun b G => G = G5 (m1 + 4) o_ o_ o_ o_ o_ o_ o_ o_ o_) (yb_test (ey_opC (ey_draw (sz := 8) rfl (by omega) ed_int (by omega) (by omega)) (fun _ _ _ => ed_int) fun x G ⟨⟨i, hi, ex⟩, eG⟩ => ?_)) (fun G eG => ?_) (fun G eG => ?_)) fun d G ⟨N, m, h1, h2, h3, h4, h5⟩ => ⟨N, m, h1, h2, fun z => absurd z hk0, h3, h4, h5⟩
    · rw [ex]
      exact ops_of od_eqi ⟨_, rfl, eG⟩
    · subst eG
      exact EY.imp (ey_ed (Γ := G5 (m1 + 4) o_ o_ o_ o_ o_ o_ o_ o_ o_) ed_int) fun d G ⟨ed, eG⟩ => ⟨9, m1 + 4, by omega, by omega, by omega, ed, eG⟩
    · subst eG
      refine EY.imp (Γ := G5 (m1 + 4) o_ o_ o_ o_ o_ o_ o_ o_ o_) (S := fun d G => ∃ i : Nat, i < 3 ∧ d = .int ((1 + i : Nat) : Int) ∧ G = G5 (m1 + 5) o_ o_ o_ o_ o_ o_ o_ o_ o_) (ey_opL ed_int (ey_draw (sz := 3) rfl (by omega) ed_int (by omega) (by omega)) fun y G ⟨⟨i, hi, ey⟩, eG⟩ => ?_) fun d G ⟨i, hi, ed, eG⟩ => ⟨1 + i, m1 + 5, by omega, by omega, by omega, ed, eG⟩
      rw [ey]
      exact ops_of od_add ⟨i, hi, nat2 rfl, eG⟩
  rintro d G ⟨N, m2, hN1, hN9, hN0, hm2, rfl, rfl⟩
  have drawn : ∀ (m : Nat) (s7 s8 s13 s14 s15 s16 s17 s18 s19 : Sl), s7 = .dat (.int (N : Nat)) → m ≤ n + 600 → EY (cells c) (tCall (bsp 300 F_drawn) [] E0 (tCons (tVar 0) (tCons (tVar 6) (tCons (tVar 5) (tCons (tVar 7) tNil))))) (G5 m s7 s8 s13 s14 s15 s16 s17 s18 s19) (fun d G => (∃ ws : Wds, DrawnOk (b ^ u) N ws ∧ d = .lst (ws.map wd)) ∧ G = G5 (m + 300) s7 s8 s13 s14 s15 s16 s17 s18 s19) := by
    intro m s7 s8 s13 s14 s15 s16 s17 s18 s19 e7 hm
    subst e7
    exact ey_bcall (j := 0) rfl (by omega) (eda_cons (ed_var rfl) (eda_cons (ed_var rfl) (eda_cons (ed_var rfl) eda_nil))) ⟨b, u, N, hb2, by omega, hu, hN1, hN9, rfl, rfl⟩
  show SX (cells c) B0 H0 _ (G5 m2 (.dat (.int (N : Nat))) o_ o_ o_ o_ o_ o_ o_ o_) _ _
  have w2 : ∀ {l : List Nat} {N' : Nat}, N' ≤ 12 → WB (b ^ u) N' l → Word2 b u l := fun h1 h2 => word2_of hb2 (by omega) hu h1 h2
  -- the targets that are refused
  refine sx_seq (sxd_if (b := decide ((u : Int) < (t.wid : Nat)) || r) (eb_or (eb_test (ed_op (ed_var rfl) (ed_var rfl) od_lt)) (fun _ => eb_tru (d := .bl r) (ed_var rfl))) (fun h => ?_) (fun h => sx_next ?_))
  · obtain ⟨z, hz, hz2⟩ : ∃ z : Str, whyNot r t u = some z ∧ (if decide ((u : Int) < (t.wid : Nat)) = true then D.str "width" else D.str "root") = .str z := by
      unfold whyNot
      by_cases h1 : u < t.wid
      · rw [if_pos h1, if_pos (decide_eq_true (by omega))]
        exact ⟨_, rfl, rfl⟩
      · rw [decide_eq_false (by omega), Bool.false_or] at h
        rw [if_neg h1, if_pos h, if_neg (by rw [decide_eq_false (by omega)]; decide)]
        exact ⟨_, rfl, rfl⟩
    refine sx_seqS (ssd_asg (d := .tup [.str "Unlike", .str z, .bl false]) (ed_tup (eda_cons ed_str (eda_cons ((ed_if (eb_test (ed_op (ed_var rfl) (ed_var rfl) od_lt)) (fun _ => ed_str) (fun _ => ed_str)).is hz2) (eda_cons ed_bl eda_nil)))) ?_)
    show SX (cells c) B0 H0 _ (G5 m2 (.dat (.int (N : Nat))) o_ (.dat (.tup [.str "Unlike", .str z, .bl false])) o_ o_ o_ o_ o_ o_) _ _
    refine sx_ret (S := fun d G => d = .bl true ∧ ∃ m, m ≤ n + 1000 ∧ G[0]? = some (bagS a c m)) (ey_call (Sl := fun ds G => ds = [.tup [.str "Unlike", .str z, .bl false], .tup [.str "Unlike", .str z, .bl false]] ∧ ∃ m, m ≤ n + 1000 ∧ G = G5 m (.dat (.int (N : Nat))) o_ (.dat (.tup [.str "Unlike", .str z, .bl false])) o_ o_ o_ o_ o_ o_) (YA.imp (ya_cons (S := fun d G => d = .tup [.str "Unlike", .str z, .bl false] ∧ ∃ m, m ≤ n + 1000 ∧ G = G5 m (.dat (.int (N : Nat))) o_ (.dat (.tup [.str "Unlike", .str z, .bl false])) o_ o_ o_ o_ o_ o_) (Sl := fun _ r G => r = [.tup [.str "Unlike", .str z, .bl false]] ∧ ∃ m, m ≤ n + 1000 ∧ G = G5 m (.dat (.int (N : Nat))) o_ (.dat (.tup [.str "Unlike", .str z, .bl false])) o_ o_ o_ o_ o_ o_) ?_ (fun x G ⟨_, m, hm, eG⟩ => ?_)) fun ds G ⟨x, r, G0, e, ⟨ex, _⟩, er, hG⟩ => ⟨by rw [e, ex, er], hG⟩) fun ds G ⟨e, m, hm, eG⟩ => ⟨.bl true, ⟨.tup [.str "Unlike", .str z, .bl false], ⟨by simp, fun x hx => ?_⟩, e, rfl⟩, rfl, m, hm, by rw [eG]; rfl⟩) (fun d G h => h)
    · refine ey_call (Sl := fun ds G => ∃ (ws : Wds) (j : Int) (m : Nat), (∀ l ∈ ws, Word2 b u l) ∧ ws.length ≤ 900 ∧ m ≤ n + 1000 ∧ ds = [targetD K r t, barD K b u ws, .int j] ∧ G = G5 m (.dat (.int (N : Nat))) o_ (.dat (.tup [.str "Unlike", .str z, .bl false])) o_ o_ o_ o_ o_ o_) (YA.imp (ya_hd (ed_var rfl) (ya_cons (S := fun d G => ∃ ws : Wds, (∀ l ∈ ws, Word2 b u l) ∧ ws.length ≤ 900 ∧ d = barD K b u ws ∧ G = G5 (m2 + 300) (.dat (.int (N : Nat))) o_ (.dat (.tup [.str "Unlike", .str z, .bl false])) o_ o_ o_ o_ o_ o_) (Sl := fun _ r G => ∃ j : Int, r = [.int j] ∧ G = G5 (m2 + 301) (.dat (.int (N : Nat))) o_ (.dat (.tup [.str "Unlike", .str z, .bl false])) o_ o_ o_ o_ o_ o_) ?_ (fun x G ⟨_, _, _, _, eG⟩ => ?_))) fun ds G ⟨r', e, x, r2, G0, e2, ⟨ws, h1, h2, ex, _⟩, j, er, eG⟩ => ⟨ws, j, m2 + 301, h1, h2, by omega, by rw [e, e2, ex, er], eG⟩) fun ds G ⟨ws, j, m, h1, h2, hm, e, eG⟩ => ⟨_, ⟨⟨r, t, b, u, ws, j⟩, ⟨hpo, hop, h2, h1⟩, e, rfl⟩, ?_, m, hm, eG⟩
      · refine ey_make (Sl := fun ds G => ∃ ws : Wds, (∀ l ∈ ws, Word2 b u l) ∧ ws.length ≤ 900 ∧ ds = [.int (b : Nat), .int (u : Nat), .lst (ws.map wd)] ∧ G = G5 (m2 + 300) (.dat (.int (N : Nat))) o_ (.dat (.tup [.str "Unlike", .str z, .bl false])) o_ o_ o_ o_ o_ o_) (YA.imp (ya_hd (ed_var rfl) (ya_hd (ed_var rfl) (ya_one (ey_slL (S := fun d G => ∃ ws : Wds, (∀ l ∈ ws, Word2 b u l) ∧ ws.length ≤ 900 ∧ d = .lst (ws.map wd) ∧ G = G5 (m2 + 300) (.dat (.int (N : Nat))) o_ (.dat (.tup [.str "Unlike", .str z, .bl false])) o_ o_ o_ o_ o_ o_) (drawn m2 _ o_ (.dat (.tup [.str "Unlike", .str z, .bl false])) o_ o_ o_ o_ o_ o_ rfl (by omega)) fun d G ⟨⟨ws, hws, ed⟩, eG⟩ => ⟨ws.map wd, ed, edo_none, edo_some (i := ((3 : Nat) : Int)) ed_int, ws.take 3, fun l hl => ?_, ?_, ?_, eG⟩)))) fun ds G ⟨r1, e1, r2, e2, x, e3, ws, h1, h2, ex, eG⟩ => ⟨ws, h1, h2, by rw [e1, e2, e3, ex], eG⟩) fun ds G ⟨ws, h1, h2, e, eG⟩ => ⟨_, ⟨b, u, ws, by omega, e, rfl⟩, ws, h1, h2, rfl, eG⟩
        · have z := hws.ok l (List.mem_of_mem_take hl)
          exact w2 (N' := N) (by omega) ⟨by rw [z.1]; exact Nat.le_refl _, z.2⟩
        · rw [List.length_take]
          omega
        · rw [cut_to, List.map_take]
      · rw [eG]
        exact YA.imp (ya_one (ey_draw (Γ := G5 (m2 + 300) (.dat (.int (N : Nat))) o_ (.dat (.tup [.str "Unlike", .str z, .bl false])) o_ o_ o_ o_ o_ o_) (sz := 4) rfl (by omega) ed_int (by omega) (by omega))) fun ds G ⟨x, e, ⟨i, _, ex⟩, eG⟩ => ⟨(i : Int), by rw [e, ex], by rw [eG]; rfl⟩
      · show (match whyNot r t u with
          | none => D.bl (takesB t b u ws j)
          | some z => .tup [.str "Unlike", .str z, .bl false]) = _
        rw [hz]
    · rw [eG]
      exact YA.imp (ya_one (ey_ed (Γ := G5 m (.dat (.int (N : Nat))) o_ (.dat (.tup [.str "Unlike", .str z, .bl false])) o_ o_ o_ o_ o_ o_) (ed_var rfl))) fun ds G ⟨x, e, ex, eG⟩ => ⟨by rw [e, ex], m, hm, eG⟩
    · simp only [List.mem_cons, List.not_mem_nil, or_false] at hx
      rcases hx with rfl | rfl | rfl <;> exact True.intro
  rw [Bool.or_eq_false_iff, decide_eq_false_iff_not] at h
  obtain ⟨hwu, hr⟩ := h
  subst hr
  have hwu : t.wid ≤ u := by omega
  have hwhy : whyNot false t u = none := by
    unfold whyNot
    rw [if_neg (by omega), if_neg (by decide)]
  -- words, other
  refine sx_seqS (ss_asgGY (S := fun d G => ∃ (ws : Wds) (most : Nat), DrawnOk (b ^ u) N ws ∧ 2 ≤ most ∧ most ≤ 12 ∧ d = .tup [.lst ((pick t b u most ws).1.map wd), .lst ((pick t b u most ws).2.map wd)] ∧ G = G5 (m2 + 301) (.dat (.int (N : Nat))) o_ o_ o_ o_ o_ o_ o_ o_) (ey_call (Sl := fun ds G => ∃ (ws : Wds) (most : Nat), DrawnOk (b ^ u) N ws ∧ 2 ≤ most ∧ most ≤ 12 ∧ ds = [.lst (t.post.map Po.dL), .int (b : Nat), .int (u : Nat), .lst (ws.map wd), .int (most : Nat)] ∧ G = G5 (m2 + 301) (.dat (.int (N : Nat))) o_ o_ o_ o_ o_ o_ o_ o_) (YA.imp (ya_hd (ed_var rfl) (ya_hd (ed_var rfl) (ya_hd (ed_var rfl) (ya_cons (Sl := fun _ r G => ∃ most : Nat, 2 ≤ most ∧ most ≤ 12 ∧ r = [.int (most : Nat)] ∧ G = G5 (m2 + 301) (.dat (.int (N : Nat))) o_ o_ o_ o_ o_ o_ o_ o_) (drawn m2 _ o_ o_ o_ o_ o_ o_ o_ o_ rfl (by omega)) (fun x G ⟨_, eG⟩ => ?_))))) fun ds G ⟨r1, e1, r2, e2, r3, e3, x, r4, G0, e4, ⟨⟨ws, hws, ex⟩, _⟩, most, h1, h2, e5, eG⟩ => ⟨ws, most, hws, h1, h2, by rw [e1, e2, e3, e4, ex, e5], eG⟩) fun ds G ⟨ws, most, hws, h1, h2, e, eG⟩ => ⟨_, ⟨t, b, u, N, most, ws, hpo, hop, hwu, by have := hws.few; omega, hws.ne, fun l hl => ⟨w2 (N' := N) (by omega) ⟨by rw [(hws.ok l hl).1]; exact Nat.le_refl _, (hws.ok l hl).2⟩, (hws.ok l hl).1⟩, e, rfl⟩, ws, most, hws, h1, h2, rfl, eG⟩) fun d G ⟨ws, most, hws, h1, h2, ed, eG⟩ => ⟨[(14, .lst ((pick t b u most ws).1.map wd)), (15, .lst ((pick t b u most ws).2.map wd))], by rw [ed]; exact gs_tup (gss_cons gs_name (gss_cons gs_name gss_nil)) rfl, ?_⟩)
  · rw [eG]
    refine YA.imp (ya_one (S := fun d G => ∃ i : Nat, i < 11 ∧ d = .int ((2 + i : Nat) : Int) ∧ G = G5 (m2 + 301) (.dat (.int (N : Nat))) o_ o_ o_ o_ o_ o_ o_ o_) (ey_opL ed_int (ey_draw (Γ := G5 (m2 + 300) (.dat (.int (N : Nat))) o_ o_ o_ o_ o_ o_ o_ o_) (sz := 11) rfl (by omega) ed_int (by omega) (by omega)) fun y G ⟨⟨i, hi, ey⟩, eG⟩ => ?_)) fun ds G ⟨x, e, i, hi, ex, eG⟩ => ⟨2 + i, by omega, by omega, by rw [e, ex], eG⟩
    rw [ey]
    exact ops_of od_add ⟨i, hi, nat2 rfl, eG⟩
  subst eG
  have pk := pick_ok t b u most ws
  have two : k = 0 → 2 ≤ (pick t b u most ws).1.length := fun hk0 => by
    have e1 := ht0 hk0
    have e2 := hu0 hk0
    have hN2 := hN0 hk0
    have hall : ws.Perm (allW (b ^ u) N) := hws.all (by
      have h1 : b ^ u ≤ 9 := by
        rcases hu with rfl | rfl
        · rw [Nat.pow_one]
          omega
        · have := hb3 rfl
          rw [Nat.pow_two]
          exact Nat.mul_le_mul this this
      have h2 : (b ^ u) ^ N ≤ 9 ^ 2 := Nat.le_trans (Nat.pow_le_pow_left h1 N) (Nat.pow_le_pow_right (by decide) hN2)
      omega)
    obtain ⟨v1, v2, ne⟩ := sq_two hb2 hu hN1
    have et : t = sq u := by rw [e1, e2]
    rw [et]
    exact pick_two h1 (hall.mem_iff.mpr ((allW_mem _ _ _).mpr (wl_zero hb2))) (hall.mem_iff.mpr ((allW_mem _ _ _).mpr (wl_one hb2 hu hN1))) v1 v2 ne
  have taken : k = 0 → takesB t b u (pick t b u most ws).1 ((pick t b u most ws).1.length - 1) = true := fun hk0 => takes_found (fun l hl => (hws.ok l hl).1) (two hk0)
  generalize hfd : (pick t b u most ws).1 = fd at pk taken two ⊢
  generalize hot : (pick t b u most ws).2 = ot at pk ⊢
  have hfdl : fd.length ≤ 12 := by
    have := pk.few
    rw [hfd] at this
    omega
  have hotl : ot.length ≤ 200 := by
    have := pk.sum
    have := hws.few
    rw [hfd, hot] at *
    omega
  have hfdw : ∀ l ∈ fd, WB (b ^ u) N l := fun l hl => by
    have z := hws.ok l (pk.s1 l (by rw [hfd]; exact hl))
    exact ⟨by rw [z.1]; exact Nat.le_refl _, z.2⟩
  have hotw : ∀ l ∈ ot, WB (b ^ u) N l := fun l hl => by
    have z := hws.ok l (pk.s2 l (by rw [hot]; exact hl))
    exact ⟨by rw [z.1]; exact Nat.le_refl _, z.2⟩
  let G6 : Nat → Sl → Sl → Sl → Sl → Sl → List Sl := fun m s8 s16 s17 s18 s19 => G5 m (.dat (.int (N : Nat))) s8 o_ (.dat (.lst (fd.map wd))) (.dat (.lst (ot.map wd))) s16 s17 s18 s19
  show SX (cells c) B0 H0 _ (G6 (m2 + 301) o_ o_ o_ o_ o_) _ _
  refine sx_seqS (ssd_for (xs := rngD 0 4) (P := fun i Γ => ∃ (m : Nat) (s8 s16 s17 s18 s19 : Sl), m ≤ n + 400 + 6 * i ∧ Γ = G6 m s8 s16 s17 s18 s19) (wid_rng1 (n := 4) (eda_cons ed_int eda_nil) (by decide) (by decide)) ⟨m2 + 301, _, _, _, _, _, by omega, rfl⟩ ?_ ?_)
  · rintro i x Γ ex ⟨m, s8, s16, s17, s18, s19, hm, rfl⟩
    obtain ⟨hi, rfl⟩ := rngD_at ex
    refine ⟨_, gs_name, ?_⟩
    rw [Int.zero_add]
    have hi : i < 4 := hi
    show SS (cells c) B0 H0 _ (G6 m (.dat (.int (i : Nat))) s16 s17 s18 s19) _ _ _ _
    -- now
    refine ss_seq (ss_asgY (S := fun d G => ∃ (vs : Wds) (m' : Nat), (i = 0 → vs = fd) ∧ vs.length ≤ 14 ∧ (∀ l ∈ vs, WB (b ^ u) (N + 1) l) ∧ m' ≤ m + 5 ∧ d = .lst (vs.map wd) ∧ G = G6 m' (.dat (.int (i : Nat))) s16 s17 s18 s19) (ey_if (yb_of_eb (eb_test (ed_op (ed_var rfl) ed_int od_eqi))) (fun G ⟨e, eG⟩ => ?_) (fun G ⟨e, eG⟩ => ?_)) ?_)
    · subst eG
      exact EY.imp (ey_ed (Γ := G6 m (.dat (.int (i : Nat))) s16 s17 s18 s19) (ed_var rfl)) fun d G ⟨ed, eG⟩ => ⟨fd, m, fun _ => rfl, by omega, fun l hl => (hfdw l hl).up, by omega, ed, eG⟩
    · subst eG
      have hi0 : i ≠ 0 := fun z => by
        rw [z] at e
        cases e
      have hL : 1 ≤ b ^ u ∧ b ^ u ≤ 81 := by
        refine ⟨Nat.pow_pos (by omega), ?_⟩
        rcases hu with rfl | rfl
        · rw [Nat.pow_one]
          omega
        · rw [Nat.pow_two]
          exact Nat.mul_le_mul (show b ≤ 9 by omega) (show b ≤ 9 by omega)
      refine EY.imp (ey_bcall (Γ := G6 m (.dat (.int (i : Nat))) s16 s17 s18 s19) (j := 0) rfl (by omega) (eda_cons (ed_var rfl) (eda_cons (ed_var rfl) (eda_cons (ed_var rfl) eda_nil))) ⟨fd, ot, b ^ u, N, hL.1, by omega, by omega, hotl, by omega, hfdw, hotw, rfl, rfl⟩) fun d G ⟨⟨vs, h1, h2, ed⟩, eG⟩ => ⟨vs, m + 5, fun z => absurd z hi0, by omega, h2, by omega, ed, by rw [eG]; rfl⟩
    rintro d G ⟨vs, m3, hv0, hvl, hvw, hm3, rfl, rfl⟩
    show SS (cells c) B0 H0 _ (G6 m3 (.dat (.int (i : Nat))) (.dat (.lst (vs.map wd))) s17 s18 s19) _ _ _ _
    have lenV : ∀ (m : Nat) (s17 s18 s19 : Sl), ED (cells c) (tCB (fun xs H Q => ∃ x n, xs = [x] ∧ LenV K x H n ∧ Q (.int n) H) (tCons (tVar 16) tNil)) (G6 m (.dat (.int (i : Nat))) (.dat (.lst (vs.map wd))) s17 s18 s19) (.int (vs.length : Nat)) := fun m s17 s18 s19 => (ed_lenL (ds := vs.map wd) (ed_var rfl)).is (by rw [List.length_map])
    -- many
    refine ss_seq (ss_asgY (S := fun d G => ∃ (M : Int) (m' : Nat), (i = 0 → M = (vs.length : Int) - 1) ∧ m' ≤ m3 + 1 ∧ d = .int M ∧ G = G6 m' (.dat (.int (i : Nat))) (.dat (.lst (vs.map wd))) s17 s18 s19) (ey_opL (x := .int ((vs.length : Int) - 1)) (S1 := fun d G => ∃ (M : Int) (m' : Nat), (i = 0 → M = 0) ∧ m' ≤ m3 + 1 ∧ d = .int M ∧ G = G6 m' (.dat (.int (i : Nat))) (.dat (.lst (vs.map wd))) s17 s18 s19) (ed_op (lenV m3 s17 s18 s19) ed_int od_sub) (ey_if (yb_of_eb (eb_test (ed_op (ed_var rfl) ed_int od_gt))) (fun G ⟨e, eG⟩ => ?_) (fun G ⟨e, eG⟩ => ?_)) (fun y G ⟨M, m', h1, h2, ey, eG⟩ => ?_)) ?_)
    · subst eG
      have hi0 : i ≠ 0 := fun z => by
        rw [z] at e
        cases e
      refine EY.imp (ey_bcall (Γ := G6 m3 (.dat (.int (i : Nat))) (.dat (.lst (vs.map wd))) s17 s18 s19) (ds := [.lst [.int 0, .int 0, .int 0, .int 0, .int 1, .int (-1), .int (-(vs.length : Int)), .int (-1 - (vs.length : Int))]]) (j := 0) rfl (by omega) (eda_cons (ed_of_el (edl_lst (eda_cons ed_int (eda_cons ed_int (eda_cons ed_int (eda_cons ed_int (eda_cons ed_int (eda_cons (ed_neg ed_int) (eda_cons (ed_neg (lenV m3 s17 s18 s19)) (eda_cons (ed_op (ed_neg ed_int) (lenV m3 s17 s18 s19) od_sub) eda_nil)))))))))) eda_nil) ⟨_, by simp, by simp, rfl, rfl⟩) fun d G ⟨hd, eG⟩ => ?_
      have : ∃ M : Int, d = .int M := by
        simp only [List.mem_cons, List.not_mem_nil, or_false] at hd
        rcases hd with rfl | rfl | rfl | rfl | rfl | rfl | rfl | rfl <;> exact ⟨_, rfl⟩
      obtain ⟨M, ed⟩ := this
      exact ⟨M, m3 + 1, fun z => absurd z hi0, Nat.le_refl _, ed, by rw [eG]; rfl⟩
    · subst eG
      exact EY.imp (ey_ed (Γ := G6 m3 (.dat (.int (i : Nat))) (.dat (.lst (vs.map wd))) s17 s18 s19) ed_int) fun d G ⟨ed, eG⟩ => ⟨0, m3, fun _ => rfl, by omega, ed, eG⟩
    · rw [ey]
      exact ops_of od_add ⟨_, m', fun z => by rw [h1 z, Int.add_zero], h2, rfl, eG⟩
    rintro d G ⟨M, m4, hM0, hm4, rfl, rfl⟩
    show SS (cells c) B0 H0 _ (G6 m4 (.dat (.int (i : Nat))) (.dat (.lst (vs.map wd))) (.dat (.int M)) s18 s19) _ _ _ _
    have hvk : ∀ l ∈ vs, Word2 b u l := fun l hl => w2 (N' := N + 1) (by omega) (hvw l hl)
    -- handed, bar
    refine ss_seq (ssd_asgO (ell_cb (eda_cons (ed_var rfl) eda_nil) (cl_list (.inl rfl))) ?_)
    show SS (cells c) B0 H0 _ (G6 m4 (.dat (.int (i : Nat))) (.dat (.lst (vs.map wd))) (.dat (.int M)) (.own (vs.map wd)) s19) _ _ _ _
    refine ss_seq (ssd_asg (d := barD K b u vs) (ed_lend (i := 18) rfl (ed_make (ds := [.int (b : Nat), .int (u : Nat), .lst (vs.map wd)]) (eda_cons (ed_var rfl) (eda_cons (ed_var rfl) (eda_cons (ed_var rfl) eda_nil))) ⟨b, u, vs, by omega, rfl, rfl⟩) (nol_bar K b u vs)) ?_)
    show SS (cells c) B0 H0 _ (G6 m4 (.dat (.int (i : Nat))) (.dat (.lst (vs.map wd))) (.dat (.int M)) (.own (vs.map wd)) (.dat (barD K b u vs))) _ _ _ _
    -- the list that was handed in
    refine ss_seq (ssd_ifF (EB.is (eb_or (b := false) (c := false) (EB.is (eb_not (eb_tru (d := .bl true) (ed_lend (i := 18) rfl (ed_call (ds := [.lst (vs.map wd), .lst (vs.map wd)]) (eda_cons (ed_var rfl) (eda_cons (ed_var rfl) eda_nil)) ⟨.lst (vs.map wd), same_words (n := 3) (.inl rfl) (by omega) hvw hN9, rfl, rfl⟩) rfl))) rfl) (fun _ => EB.is (eb_not (eb_tru (d := .bl true) (ed_call (ds := [.tup [.tup (vs.map wd), .int (vs.length : Nat)], .tup [.tup (vs.map wd), .int (vs.length : Nat)]]) (eda_cons (ed_tup (eda_cons (ed_fld (ed_var rfl) T.cls_Bar T.na_Bar_words rfl) (eda_cons (ed_lenM (F := F_Bar_len K) (ed_var rfl) ⟨b, u, vs, rfl, rfl⟩ (by omega) (by omega)) eda_nil))) (eda_cons (ed_tup (eda_cons (ed_cb (eda_cons (ed_var rfl) eda_nil) (cd_tuple (.inl rfl))) (eda_cons (lenV m4 _ _ _) eda_nil))) eda_nil)) ⟨.tup [.tup (vs.map wd), .int (vs.length : Nat)], ⟨by simp, fun x hx => ?_⟩, rfl, rfl⟩))) rfl)) rfl) (ss_next ?_))
    · simp only [List.mem_cons, List.not_mem_nil, or_false] at hx
      rcases hx with rfl | rfl
      · exact same_words (n := 2) (.inr rfl) (by omega) hvw hN9
      · exact True.intro
    refine ss_seq (ssd_append rfl (ed_op (ed_tup (eda_cons ed_int eda_nil)) ed_int (od_repT (by simp) (by decide) (by decide) (by simp))) (by rw [List.length_map]; omega) ?_)
    generalize vs.map wd ++ [_] = hd
    show SS (cells c) B0 H0 _ (G6 m4 (.dat (.int (i : Nat))) (.dat (.lst (vs.map wd))) (.dat (.int M)) (.own hd) (.dat (barD K b u vs))) _ _ _ _
    have judge : ED (cells c) (tCall (psp F_law_judge) [] E0 (tCons (tVar 9) (tCons (tVar 6) (tCons (tVar 5) (tCons (tVar 16) (tCons (tVar 17) tNil)))))) (G6 m4 (.dat (.int (i : Nat))) (.dat (.lst (vs.map wd))) (.dat (.int M)) (.own hd) (.dat (barD K b u vs))) (.bl (takesB t b u vs M)) := ed_call (ds := [.lst (t.post.map Po.dL), .int (b : Nat), .int (u : Nat), .lst (vs.map wd), .int M]) (eda_cons (ed_var rfl) (eda_cons (ed_var rfl) (eda_cons (ed_var rfl) (eda_cons (ed_var rfl) (eda_cons (ed_var rfl) eda_nil))))) ⟨t, b, u, vs, M, hpo, hop, hwu, by omega, hvk, rfl, rfl⟩
    refine ss_seq (ssd_ifF (EB.is (eb_and (eb_test (ed_op (ed_var rfl) ed_int od_eqi)) (fun hk0 => eb_and (eb_test (ed_op (ed_var rfl) ed_int od_eqi)) (fun hi0 => EB.is (c := false) (eb_not (eb_tru judge)) ?_))) ?_) (ss_next ?_))
    · rw [decide_eq_true_eq] at hk0 hi0
      have hk0 : k = 0 := by omega
      have hi0 : i = 0 := by omega
      rw [hM0 hi0, hv0 hi0, taken hk0]
      rfl
    · rw [Bool.and_false, Bool.and_false]
    refine ssd_ifF (EB.is (eb_not (eb_tru (d := .bl true) (ed_call (ds := [.bl (takesB t b u vs M), .bl (takesB t b u vs M)]) (eda_cons (ed_call (ds := [targetD K false t, barD K b u vs, .int M]) (eda_cons (ed_var rfl) (eda_cons (ed_var rfl) (eda_cons (ed_var rfl) eda_nil))) ⟨⟨false, t, b, u, vs, M⟩, ⟨hpo, hop, by show vs.length ≤ 900; omega, hvk⟩, rfl, ?_⟩) (eda_cons judge eda_nil)) ⟨.bl (takesB t b u vs M), True.intro, rfl, rfl⟩))) rfl) (ss_next ⟨m4, _, _, _, _, _, by omega, rfl⟩)
    show _ = (match whyNot false t u with
      | none => D.bl (takesB t b u vs M)
      | some z => .tup [.str "Unlike", .str z, .bl false])
    rw [hwhy]
  · rintro Γ ⟨m, s8, s16, s17, s18, s19, hm, rfl⟩
    rw [rngD_len] at hm
    exact sxd_ret ed_bl ⟨rfl, m, by omega, rfl⟩
end
end K82
set_option Elab.async false
set_option linter.all false
set_option maxRecDepth 100000
set_option maxHeartbeats 4000000
namespace K82
open PySem PySem.Spec PyProof.Rows L2 Evl Dl K82Head TL
local macro_rules | `(tactic| walk_at "ed") => `(tactic| first
  | exact ed_var rfl | exact ed_int | exact ed_str | exact ed_bl | exact ed_non | exact eda_nil | exact edo_none
  | exact od_add | exact od_sub | exact od_lt | exact od_le | exact od_gt | exact od_ge | exact od_eqi | exact od_nei | exact od_eqs | exact od_nes | exact od_isN | exact od_notN | exact cd_int | exact cd_abs | exact cd_max2 | exact cd_gcd
  | ((with_reducible apply eda_cons) <;> walk_at "ed") | ((with_reducible apply ed_op) <;> walk_at "ed") | ((with_reducible apply ed_cb) <;> walk_at "ed") | ((with_reducible apply eb_test) <;> walk_at "ed") | ((with_reducible apply eb_tru) <;> walk_at "ed") | ((with_reducible apply ed_tup) <;> walk_at "ed")
  | ((with_reducible apply ed_neg) <;> walk_at "ed") | ((with_reducible apply eb_not) <;> walk_at "ed") | ((with_reducible apply edl_lst) <;> walk_at "ed") | ((with_reducible apply edo_some) <;> walk_at "ed") | ((with_reducible apply ed_call) <;> walk_at "ed")
  | (apply od_mul; assumption) | (apply od_rem; omega) | (apply od_div <;> omega) | (apply od_ixT; rfl) | (apply od_ixL; rfl)
  | (with_reducible exact True.intro) | (simp; done) | skip)
/-! ### the bag, the law -/
/-- the script: to be read, where it stands -/
def scrR (K : PySem.W.Frag) (a : Addr) (xs : List V) (p : Prop) (hk : ¬ p → ∀ H, SqL K H a xs) : Reg := ⟨fun x => x = a ∧ p, fun H => SqL K H a xs, fun H H' e h => by
  by_cases hp : p
  · have e2 := e a ⟨rfl, hp⟩
    rcases h with (h | ⟨o, h⟩) | h
    · exact .inl (.inl (by rw [e2]; exact h))
    · exact .inl (.inr ⟨o, by rw [e2]; exact h⟩)
    · exact .inr h
  · exact hk hp H'⟩
section
variable {K : PySem.W.Frag} {a : Addr} {xs : List V} {p : Prop} {hk : ¬ p → ∀ H, SqL K H a xs} {Γ : List Sl}
theorem el_scr {is : List Int} (hx : xs = is.map V.int) {th : TO} {k j : Nat} (e : Γ[j]? = some (.at_ (.ref a))) (h : EDO (scrR K a xs p hk) th Γ (some (k : Int))) : EDL (scrR K a xs p hk) (tSl (rSlU K) (tVar j) tNoPart th) Γ ((is.take k).map D.int) := fun B0 H0 B H σ at_ Q q =>
  ⟨_, at_.raw e, h B0 H0 B H σ at_ _ fun o B2 H2 g s => by
    subst s
    refine .inl ⟨a, xs, rfl, g.fz.ok, fun n hn => q n _ _ B2 _ (Go.trans at_.fz g (Go.own g.fz hn)) (none_back at_.fz g hn) (g.fz.bnone hn) upd_same rfl ?_⟩
    have z : IsL B2 (is.map D.int) xs := IsL.ints.mpr hx
    have z2 := z.cut none (some (k : Int))
    rw [cut_to, ← List.map_take] at z2
    exact z2⟩
end
/-- from such slots the block ends as E wishes -/
def RTR (R : Reg) (E : Ends) (B0 H0 : Hp) (ts : TS) (Γ : List Sl) : Prop := ∀ (B : Hp) (σ : L2.St) (H : Hp), At R B0 H0 B Γ σ H → ts E σ H
theorem rtr_seq {R : Reg} {E : Ends} {B0 H0 : Hp} {ts us : TS} {Γ : List Sl} (h : SS R B0 H0 ts Γ (fun Γ' => RTR R E B0 H0 us Γ') (fun _ => False) (fun _ => False) (fun _ => False)) : RTR R E B0 H0 (tSeq ts us) Γ := fun B σ H a =>
  h B σ H _ a (fun B' Γ' σ' H' n a' _ => n B' σ' H' a') (fun _ _ _ _ z => z.elim) (fun _ _ _ _ z => z.elim) (fun _ _ _ _ z => z.elim)
def sp_bag (K : PySem.W.Frag) : Sp := fun vs H Q _ => ∃ (a : Addr) (is : List Int), vs = [.ref a] ∧ SqL K H a (is.map V.int) ∧
  ∀ (p c : Addr) (H2 : Hp) (m : Int) (js : List Int), p ≠ c → H2 c = some (.lst (js.map V.int)) → js.length ≤ 63 → H2 p = some (bagU c 0 m 0) → 0 ≤ m → m < 2 ^ 31 → Q (.ref p) H2
def sp_law (K : PySem.W.Frag) : Sp := fun vs H Q _ => ∃ (a : Addr) (is : List Int), vs = [.ref a] ∧ SqL K H a (is.map V.int) ∧ ∀ H', Q (.bl true) H'
section
variable {P : Program} {w : World} {K : PySem.W.Frag} {mg : Str → Option Value} {base : Heap}
theorem sc_law_bag : FnScope ["script", "mixed", "cell_v"] ["script"] (defScope s_law_bag) := ⟨rfl, rfl, rfl, by decide +kernel, rfl, by decide +kernel, by decide +kernel⟩
theorem ok_law_bag (T : Txt K mg) : Cal P w K mg base "_law_bag" 1 (sp_bag K) := by
  refine cal_mk T.d_law_bag T.g_law_bag sc_law_bag (fun _ _ _ _ _ _ us hl => match us, hl with | [_], _ => rfl) (fun vs H Q E ⟨_, _, e, _⟩ => by rw [e]; rfl) fun cdv A outer s H vs Q E hr h => ⟨_, PSs.nox (pss_cons (ps_set (i := 1) sc_law_bag.nd rfl (Or.inl rfl) pe_int)
    (pss_cons (ps_for PassesOwn.never rfl (pi_seqK K (pe_slice (sl_allK K) (pv 0) po_none (po_some pe_int))) (pg_name (i := 2) sc_law_bag.nd rfl (Or.inl rfl))
      (pss_one (ps_set (i := 1) sc_law_bag.nd rfl (Or.inl rfl) (pe_op op_modU (pe_callTy call_int1 (by rfl) T.b_int (by decide +kernel) (pa_cons (pe_op (op_addK K) (pe_op (op_addK K) (pe_op (op_mulK K) (pv 1) pe_int) (pe_op (op_mulK K) (pe_op op_modU (pe_callTy call_int1 (by rfl) T.b_int (by decide +kernel) (pa_cons (pv 2) pa_nil)) pe_int) pe_int)) pe_int) pa_nil)) pe_int))))
    (pss_one (ps_ret (pe_lst (pa_cons (pe_lc (own := [("cell_v", 2)]) (g := gName 2) rfl sc_law_bag.nd  (pi_seqK K (pe_slice (sl_allK K) (pv 0) po_none (po_some pe_int))) (blkOk_by (N := ["script", "mixed", "cell_v"]) (sc := defScope s_law_bag) (by decide +kernel)) (fun _ _ _ _ _ => (pg_name (i := 2) sc_law_bag.nd rfl (Or.inl rfl))) (fun _ _ _ _ _ => pts_nil) (fun _ _ _ _ _ => (pe_callTy call_int1 (by rfl) T.b_int (by decide +kernel) (pa_cons (pv 2) pa_nil)))) (pa_cons pe_int (pa_cons (pv 1) (pa_cons pe_int pa_nil))))))))), ?_⟩
  obtain ⟨a, is, rfl, hS, q⟩ := h
  have hk : ¬ Rd H a (.lst (is.map V.int)) → ∀ H, SqL K H a (is.map V.int) := fun np H' => .inr (hS.elim (fun z => absurd z np) id)
  let R := scrR K a (is.map V.int) (Rd H a (.lst (is.map V.int))) hk
  have fz : Fz R (fun _ => none) H := ⟨fun _ _ z => (by cases z), hS, fun x ⟨ex, hp⟩ => ⟨rfl, by
    rw [ex]
    rcases hp with hp | ⟨o, hp⟩
    · exact ⟨_, hp⟩
    · exact ⟨_, hp⟩⟩⟩
  have at0 : At R (fun _ => none) H (fun _ => none) [.at_ (.ref a), .no, .no] (L2.start ["script", "mixed", "cell_v"] [.ref a]) H := by
    have z := at_start (N := ["script", "mixed", "cell_v"]) (vs := [.ref a]) (ss := [.at_ (.ref a)]) fz rfl fun i s v e1 e2 => by
      cases i with
      | zero =>
        rw [List.getElem?_cons_zero] at e1 e2
        rw [← Option.some.inj e1, ← Option.some.inj e2]
        exact ⟨rfl, rfl⟩
      | succ i =>
        rw [List.getElem?_cons_succ] at e1
        simp at e1
    exact z
  have sl63 : ∀ (s1 s2 : Sl), EDL R (tSl (rSlU K) (tVar 0) tNoPart (tPart (tC (.int 63)))) [.at_ (.ref a), s1, s2] ((is.take 63).map D.int) := fun s1 s2 => el_scr rfl (k := 63) rfl (edo_some ed_int)
  have cells_ : ∀ (m : Int) (s2 : Sl), EDL R (tLc (iSeq K (tSl (rSlU K) (tVar 0) tNoPart (tPart (tC (.int 63))))) (gName 2) tYes (tCB (fun xs H Q => (∃ i, xs = [.int i] ∧ Q (.int i) H) ∨ ∃ k, xs = [.bl k] ∧ Q (.int (if k then 1 else 0)) H) (tCons (tVar 2) tNil)) [2]) [.at_ (.ref a), .dat (.int m), s2] ((is.take 63).map D.int) := fun m s2 => edl_map1 (j := 2) (xs := is.take 63) (fun z => D.int z) (fun z => D.int z) (wid_seq (.inl rfl) (ed_of_el (sl63 _ _))) (by rw [List.length_take]; omega) fun z _ => ed_cb (eda_cons (ed_var rfl) eda_nil) cd_int
  refine (?_ : RTR R _ (fun _ => none) H _ [.at_ (.ref a), .no, .no]) _ _ H at0
  refine rtr_seq (ssd_asg ed_int ?_)
  refine rtr_seq (ssd_for (xs := (is.take 63).map D.int) (P := fun _ G => ∃ (m : Int) (s2 : Sl), 0 ≤ m ∧ m < 2 ^ 31 ∧ G = [.at_ (.ref a), .dat (.int m), s2]) (wid_seq (.inl rfl) (ed_of_el (sl63 _ _))) ⟨17789, .no, by decide, by decide, rfl⟩ (fun i x G ex ⟨m, s2, m0, m1, eG⟩ => ?_) (fun G ⟨m, s2, m0, m1, eG⟩ => ?_))
  · subst eG
    rw [List.getElem?_map] at ex
    cases ez : (is.take 63)[i]? with
    | none =>
      rw [ez] at ex
      cases ex
    | some z =>
      rw [ez] at ex
      have ex : D.int z = x := Option.some.inj ex
      subst ex
      refine ⟨_, gs_name, ?_⟩
      show SS R _ H _ [.at_ (.ref a), .dat (.int m), .dat (.int z)] _ _ _ _
      exact ssd_asg (ed_op (ed_cb (eda_cons (ed_op (ed_op (ed_op (ed_var rfl) ed_int (od_mul (mul_ok (x := 31) (y := 31) (by omega) (by omega) (by omega)))) (ed_op (ed_op (ed_cb (eda_cons (ed_var rfl) eda_nil) cd_int) ed_int (od_rem (by omega))) ed_int (od_mul (mul_ok (x := 31) (y := 31) (by omega) (by omega) (by omega)))) od_add) ed_int od_add) eda_nil) cd_int) ed_int (od_rem (by omega))) ⟨(m * 48271 + z % 1000003 * 617 + 103) % 2147483587, .dat (.int z), by omega, by omega, rfl⟩
  · subst eG
    intro B σ H' at_
    unfold tRet tLst tCons
    refine cells_ m s2 _ _ B H' σ at_ _ fun c vs ds B2 H2 g hp nb ho s i => ?_
    subst s
    have a2 := at_.step g
    obtain ⟨v, hv, iv⟩ := a2.dat (i := 1) rfl
    rw [is_int.mp iv] at hv
    refine ⟨_, hv, ?_⟩
    refine ⟨sz_of (by simp), fun l hl => ?_⟩
    have ncl : l ≠ c := fun e => by
      rw [e, ho] at hl
      cases hl
    refine q l c _ m (is.take 63) ncl ?_ (by rw [List.length_take]; omega) upd_same m0 m1
    rw [upd_ne (Ne.symm ncl), ho, IsL.ints.mp i]
theorem sc_law : FnScope ["script", "bag", "k"] ["script"] (defScope s_law) := ⟨rfl, rfl, rfl, by decide +kernel, rfl, by decide +kernel, by decide +kernel⟩
theorem at_bag1 {p c : Addr} {m : Int} {H : Hp} {js : List Int} {v : V} (hpc : p ≠ c) (hc : H c = some (.lst (js.map V.int))) (hl : js.length ≤ 63) (hp : H p = some (bagU c 0 m 0)) (m0 : 0 ≤ m) (m1 : m < 2 ^ 31) :
    At (cells c) (fun _ => none) (Dl.del H p) (fun _ => none) [.no, bagS p c 0, .no] [some v, some (.ref p), none] H := by
  have ok : ∀ {H' : Hp}, H' c = H c → (cells c).ok H' := fun e => ⟨js, by rw [e]; exact hc, hl⟩
  refine ⟨⟨fun _ _ z => (by cases z), ok (Dl.del_ne (Ne.symm hpc)), fun x (rx : x = c) => ⟨rfl, .lst (js.map V.int), by rw [rx, Dl.del_ne (Ne.symm hpc)]; exact hc⟩⟩, ⟨⟨fun _ _ z => (by cases z), ok rfl, fun x (rx : x = c) => ⟨rfl, .lst (js.map V.int), by rw [rx]; exact hc⟩⟩, Ex.refl _, fun x o _ h => ?_, fun _ _ _ => rfl⟩, rfl, fun i s e => ?_, fun i j s s' l e e' p1 p2 => ?_, fun i s l e p1 q => ?_⟩
  · by_cases ne : x = p
    · rw [ne, Dl.del_same] at h
      cases h
    · rw [Dl.del_ne ne] at h
      exact h
  · match i, e with
    | 0, e => rw [← (Option.some.inj e : Sl.no = s)]; exact ⟨_, rfl, True.intro⟩
    | 1, e =>
      rw [← (Option.some.inj e : bagS p c 0 = s)]
      exact ⟨_, rfl, p, _, rfl, rfl, hpc, hp, fun _ _ => ⟨rfl, 0, m, 0, rfl, ⟨by decide, big_pos, m0, m1⟩, by decide, by decide⟩⟩
    | 2, e => rw [← (Option.some.inj e : Sl.no = s)]; exact ⟨_, rfl, True.intro⟩
    | i + 3, e => cases e
  · have key : ∀ {i : Nat} {s : Sl}, [Sl.no, bagS p c 0, .no][i]? = some s → isOwn s = true → i = 1 := fun {i s} e p1 => by
      match i, e with
      | 0, e => rw [← (Option.some.inj e : Sl.no = s)] at p1; cases p1
      | 1, e => rfl
      | 2, e => rw [← (Option.some.inj e : Sl.no = s)] at p1; cases p1
      | i + 3, e => cases e
    intro _ _
    rw [key e p1, key e' p2]
  · match i, e with
    | 0, e => rw [← (Option.some.inj e : Sl.no = s)] at p1; cases p1
    | 1, e =>
      have z : p = l := by
        injection q with q
        injection q with q
        injection q
      rw [← z, Dl.del_same]
    | 2, e => rw [← (Option.some.inj e : Sl.no = s)] at p1; cases p1
    | i + 3, e => cases e
theorem ok_law (T : Txt K mg) {f : Addr} {fd : FuncData} (F : FunD K "law" "law" (defArgs s_law) (defBody s_law) (defScope s_law) [] [] f fd) : FnOk P w K mg base CX0 10 f fd ["script"] (sp_law K) := by
  have c_law_bag := ok_law_bag (P := P) (w := w) (base := base) T
  have c_law_round := ok_law_round (P := P) (w := w) (base := base) T
  refine F.ok sc_law (fun vs H Q E ⟨_, _, e, _⟩ => by rw [e]; rfl) fun cdv A outer s H vs Q E hr h => ⟨_, PSs.nox (pss_cons (ps_set (i := 1) sc_law.nd rfl (Or.inr rfl) (pe_cal c_law_bag (hr.mono (by decide)) rfl (pa_cons (pv 0) pa_nil)))
    (pss_one (ps_ret (pe_callB (call_allK K) (by rfl) T.b_all (by decide +kernel) (pa_cons (pe_lc (own := [("k", 2)]) (g := gName 2) rfl sc_law.nd  (pi_range1 (by rfl) T.b_range (pa_cons pe_int pa_nil)) (blkOk_by (N := ["script", "bag", "k"]) (sc := defScope s_law) (by decide +kernel)) (fun _ _ _ _ _ => (pg_name (i := 2) sc_law.nd rfl (Or.inl rfl))) (fun _ _ _ _ _ => pts_nil) (fun _ _ _ _ _ => (pe_cal c_law_round (hr.mono (by decide)) rfl (pa_cons (pv 1) (pa_cons (pv 2) pa_nil))))) pa_nil))))), ?_⟩
  obtain ⟨a, is, rfl, hS, q⟩ := h
  refine ⟨_, rfl, a, is, rfl, hS, fun p c H2 m js hpc hc hl hp m0 m1 => ?_⟩
  have at1 : At (cells c) (fun _ => none) (Dl.del H2 p) (fun _ => none) [.no, bagS p c 0, .no] [some (.ref a), some (.ref p), none] H2 := at_bag1 hpc hc hl hp m0 m1
  have rounds : EY (cells c) (tCB (rAll K) (tCons (tLc (iRng1 (tCons (tC (.int 4)) tNil)) (gName 2) tYes (tCall (bsp 1000 F_round) [] E0 (tCons (tVar 1) (tCons (tVar 2) tNil))) [2]) tNil)) [.no, bagS p c 0, .no] (fun d G => d = .bl true) := by
    refine ey_cb (ya_one (ey_lc (S := fun d G => ∃ k : Nat, k ≤ 100000 ∧ d = .lst ((List.range k).map fun _ => .bl true)) (wy_of_wi (wid_rng1 (n := 4) (eda_cons ed_int eda_nil) (by decide) (by decide))) fun xs G0 ⟨exs, eG⟩ => ?_)) fun ds G ⟨x, e, k, hk, ex⟩ => ?_
    · subst exs eG
      refine ⟨fun i ys G => ys = ((List.range i).map fun _ => .bl true) ∧ ∃ m, m ≤ 1000 * i ∧ G = [.no, bagS p c m, .no], ⟨rfl, 0, by omega, rfl⟩, ?_, ?_⟩
      · rintro i x ys G ex ⟨rfl, m, hm, rfl⟩
        obtain ⟨hi, rfl⟩ := rngD_at ex
        have hi : i < 4 := hi
        refine ⟨by rw [List.length_map, List.length_range]; omega, [(2, .int (0 + (i : Int)))], by simp, gs_name, ?_⟩
        show EY (cells c) _ [.no, bagS p c m, .dat (.int (0 + (i : Int)))] _
        rw [Int.zero_add]
        refine EY.imp (ey_bcall (Γ := [.no, bagS p c m, .dat (.int (i : Int))]) (j := 1) rfl (by omega) (eda_cons (ed_var rfl) eda_nil) ⟨i, by omega, rfl, rfl⟩) fun d G ⟨ed, eG⟩ => ⟨?_, m + 1000, by omega, by rw [eG]; rfl⟩
        rw [ed, List.range_succ, List.map_append]
        rfl
      · rintro ys G ⟨rfl, m, hm, rfl⟩
        exact ⟨_, by rw [rngD_len]; decide, rfl⟩
    · rw [e, ex]
      exact cbs_of cd_allM (by
        congr 1
        rw [List.all_eq_true]
        exact fun _ _ => rfl)
  refine rounds _ _ _ H2 _ at1 _ fun v d B' H' G a2 st s i => ?_
  subst s
  rw [is_bl.mp i]
  exact q H'
end
end K82
set_option Elab.async false
set_option linter.all false
set_option maxRecDepth 100000
set_option maxHeartbeats 0
open PySem PySem.W PySem.Calls PyProof.Rows
theorem PySem.Challenge.cw_bendless_k82_whole_bars_judged_holds : PySem.Challenge.rw_bendless_k82_whole_bars_judged.Holds := by
  w_on; o_law
  refine HandSHeadRun.head_imp (r := OpenLaw.row PySem.Challenge.rw_bendless_k82_whole_bars_judged) (q := view (OpenLaw.row PySem.Challenge.rw_bendless_k82_whole_bars_judged).prog [0, 70]) (H := K82Head.hk) (ob := K82Head.ob) (M := 30000) (loose := K82Head.loose) (d := HandSHeadRun.topDef (OpenLaw.row PySem.Challenge.rw_bendless_k82_whole_bars_judged).prog 70) (kwd := []) K82Head.ob_eq K82Head.run
    (by kernel_rfl) (by kernel_rfl) (by kernel_rfl) (by rfl) (by first | assumption | decide +kernel) (by decide +kernel) ⟨rfl, rfl, rfl, rfl, rfl, by decide +kernel⟩ ?hw ?hc
  case hw => w_witness2
  case hc =>
    refine L2.walk_ofE (l := PySem.Challenge.rw_bendless_k82_whole_bars_judged) (n := 63) (k := 10) (x := "script") (CX := L2.CX0) rfl (by decide) (by kernel_rfl) ⟨rfl, by decide, by decide⟩ ?F (fun _ _ _ _ z => z)
    intro w mg fa h Y G hmg0
    obtain ⟨K, KX, c⟩ := Y
    have T : K82Head.Txt K mg := ⟨⟨h, KX, G⟩, c.t.d, c.more⟩
    have hmg : mg ("law" : PySem.Str) = some (.ref fa) := by
      have e : (HandSHeadRun.topDef (OpenLaw.row PySem.Challenge.rw_bendless_k82_whole_bars_judged).prog 70).name = ("law" : PySem.Str) := by kernel_rfl
      rw [← e]
      exact hmg0
    obtain ⟨fd, F⟩ := T.d_law
    have e := hmg.symm.trans T.g_law
    injection e with e
    injection e with e
    subst e
    have b := L2.FunD.bindsA (ps := ["script"]) F fun _ _ _ _ _ _ us hl => match us, hl with | [_], _ => rfl
    exact ⟨K, fd, K82.sp_law K, KX, fun s v => b s [v] rfl, fun H a ns hl _ hS => ⟨a, ns, rfl, hS, fun _ => rfl⟩, fun base _ _ => K82.ok_law T F⟩
