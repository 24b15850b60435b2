import PyProof.Rows.All
import Wide.All
import OpenK.AllK
import Wide.FinOn
import PySem.Challenge.RW_beatfabric_k86_whole_compared
import HandS.HeadWalk
import HandS.HeadHook4
import HandS.Head2
import HandS.ForMost
import HandS.Defaults
import HandS.Text
import HandS.TupAny
import HandS.Wide
import HandS.WideBits
import HandS.TryOnly
import HandS.Zip
import HandS.Rev
import HandS.Conv
import HandS.Dict
import HandS.DictTup
import HandS.SortInts
import HandS.Style
import HandS.SortRule
import HandS.NamedTupSort
import PyProof.P3Eq
import KE.KDictKeyed
import KE.KeyNested
import HandS.TupLen
import HandS.IsInst
import PyProof.Draws
import PyProof.EnumMake
import HandS.Zip0
import KE.KDictZip
import PyProof.ListNew
import HandS.Exc
import HandS.ExcOwn
import HandS.ExcField
import HandS.ExcInit
import HandS.CallSlots
import KE.KExcSuper
import KE.KExcIs
import KE.KIsAll
import HandS.ExcSuper
import HandS.Nested
import HandS.ExcIs
set_option Elab.async false
set_option linter.all false
set_option maxRecDepth 100000
set_option maxHeartbeats 4000000
namespace Bf
open PySem PySem.Spec PyProof.Rows L2
/-! ### data in the abstract heap -/
abbrev Ad : Type := Addr → Prop
/-- an int that is told -/
def intO : PyData → Int
  | .int i => i
  | _ => 0
/-- a dict's entry, key and value ints -/
def kvI (p : PyData × PyData) : Key × V := (Sum.inl (intO p.1), V.int (intO p.2))
mutual
def Is (M : Ad) (H : Hp) : PyData → V → Prop
  | .none, v => v = .non
  | .bool b, v => v = .bl b
  | .int i, v => v = .int i
  | .str x, v => v = .str x
  | .list ds, v => ∃ a vs, v = .ref a ∧ ¬ M a ∧ H a = some (.lst vs) ∧ IsAll M H ds vs
  | .tuple ds, v => ∃ a vs, v = .ref a ∧ ¬ M a ∧ H a = some (.tup vs) ∧ IsAll M H ds vs
  | .dict kvs, v => ∃ a, v = .ref a ∧ ¬ M a ∧ H a = some (.dK (kvs.map kvI))
def IsAll (M : Ad) (H : Hp) : List PyData → List V → Prop
  | [], [] => True
  | d :: ds, v :: vs => Is M H d v ∧ IsAll M H ds vs
  | [], _ :: _ => False
  | _ :: _, [] => False
end
/-- what is tracked and lies outside M stands -/
def Fr (M : Ad) (H H' : Hp) : Prop := ∀ a o, H a = some o → ¬ M a → H' a = some o
def Ex (H H' : Hp) : Prop := ∀ a o, H a = some o → H' a = some o
theorem Ex.refl (H : Hp) : Ex H H := fun _ _ h => h
theorem Ex.trans {H H1 H2 : Hp} (a : Ex H H1) (b : Ex H1 H2) : Ex H H2 := fun x o h => b x o (a x o h)
theorem Ex.new {H : Hp} {p : Addr} {o : HO} (h : H p = none) : Ex H (upd H p o) := fun a u e => by
  rw [upd_ne (ne_of_none e h)]
  exact e
theorem Ex.fr {M : Ad} {H H' : Hp} (e : Ex H H') : Fr M H H' := fun a o h _ => e a o h
theorem Ex.back {H H' : Hp} (e : Ex H H') {p : Addr} (h : H' p = none) : H p = none := by
  cases q : H p with
  | none => rfl
  | some o =>
    rw [e p o q] at h
    cases h
theorem Fr.refl (M : Ad) (H : Hp) : Fr M H H := fun _ _ h _ => h
theorem Fr.trans {M : Ad} {H H1 H2 : Hp} (a : Fr M H H1) (b : Fr M H1 H2) : Fr M H H2 := fun x o h n => b x o (a x o h n) n
theorem Fr.upd {M : Ad} {H : Hp} {p : Addr} {o : HO} (h : M p) : Fr M H (upd H p o) := fun a u e n => by
  rw [upd_ne (fun z => n (by rw [z]; exact h))]
  exact e
mutual
theorem Is.fr {M : Ad} {H H' : Hp} (e : Fr M H H') : ∀ {d : PyData} {v : V}, Is M H d v → Is M H' d v
  | .none, _, h => h
  | .bool _, _, h => h
  | .int _, _, h => h
  | .str _, _, h => h
  | .list _, _, h => by
    obtain ⟨a, vs, h1, h2, h3, h4⟩ := h
    exact ⟨a, vs, h1, h2, e a _ h3 h2, IsAll.fr e h4⟩
  | .tuple _, _, h => by
    obtain ⟨a, vs, h1, h2, h3, h4⟩ := h
    exact ⟨a, vs, h1, h2, e a _ h3 h2, IsAll.fr e h4⟩
  | .dict _, _, h => by
    obtain ⟨a, h1, h2, h3⟩ := h
    exact ⟨a, h1, h2, e a _ h3 h2⟩
theorem IsAll.fr {M : Ad} {H H' : Hp} (e : Fr M H H') : ∀ {ds : List PyData} {vs : List V}, IsAll M H ds vs → IsAll M H' ds vs
  | [], [], _ => True.intro
  | _ :: _, _ :: _, h => ⟨Is.fr e h.1, IsAll.fr e h.2⟩
  | [], _ :: _, h => h
  | _ :: _, [], h => h
end
mutual
theorem Is.weak {M M' : Ad} {H : Hp} (w : ∀ a, M' a → H a ≠ none → M a) : ∀ {d : PyData} {v : V}, Is M H d v → Is M' H d v
  | .none, _, h => h
  | .bool _, _, h => h
  | .int _, _, h => h
  | .str _, _, h => h
  | .list _, _, h => by
    obtain ⟨a, vs, h1, h2, h3, h4⟩ := h
    exact ⟨a, vs, h1, fun z => h2 (w a z (by rw [h3]; exact fun z => by cases z)), h3, IsAll.weak w h4⟩
  | .tuple _, _, h => by
    obtain ⟨a, vs, h1, h2, h3, h4⟩ := h
    exact ⟨a, vs, h1, fun z => h2 (w a z (by rw [h3]; exact fun z => by cases z)), h3, IsAll.weak w h4⟩
  | .dict _, _, h => by
    obtain ⟨a, h1, h2, h3⟩ := h
    exact ⟨a, h1, fun z => h2 (w a z (by rw [h3]; exact fun z => by cases z)), h3⟩
theorem IsAll.weak {M M' : Ad} {H : Hp} (w : ∀ a, M' a → H a ≠ none → M a) : ∀ {ds : List PyData} {vs : List V}, IsAll M H ds vs → IsAll M' H ds vs
  | [], [], _ => True.intro
  | _ :: _, _ :: _, h => ⟨Is.weak w h.1, IsAll.weak w h.2⟩
  | [], _ :: _, h => h
  | _ :: _, [], h => h
end
theorem Is.ex {M : Ad} {H H' : Hp} (e : Ex H H') {d : PyData} {v : V} (h : Is M H d v) : Is M H' d v := Is.fr e.fr h
theorem IsAll.ex {M : Ad} {H H' : Hp} (e : Ex H H') {ds : List PyData} {vs : List V} (h : IsAll M H ds vs) : IsAll M H' ds vs := IsAll.fr e.fr h
theorem IsAll.length {M : Ad} {H : Hp} : ∀ {ds : List PyData} {vs : List V}, IsAll M H ds vs → ds.length = vs.length
  | [], [], _ => rfl
  | _ :: _, _ :: _, h => by
    rw [List.length_cons, List.length_cons, IsAll.length h.2]
  | [], _ :: _, h => h.elim
  | _ :: _, [], h => h.elim
theorem IsAll.get {M : Ad} {H : Hp} : ∀ {ds : List PyData} {vs : List V} {i : Nat} {d : PyData}, IsAll M H ds vs → ds[i]? = some d → ∃ v, vs[i]? = some v ∧ Is M H d v
  | [], _, _, _, _, e => by simp at e
  | d :: ds, v :: vs, 0, _, h, e => by
    have e' : d = _ := Option.some.inj e
    subst e'
    exact ⟨v, rfl, h.1⟩
  | d :: ds, v :: vs, i + 1, x, h, e => by
    obtain ⟨u, h1, h2⟩ := IsAll.get (i := i) (d := x) h.2 (by simpa using e)
    exact ⟨u, by simpa using h1, h2⟩
  | _ :: _, [], _, _, h, _ => h.elim
theorem IsAll.getV {M : Ad} {H : Hp} : ∀ {ds : List PyData} {vs : List V} {i : Nat} {v : V}, IsAll M H ds vs → vs[i]? = some v → ∃ d, ds[i]? = some d ∧ Is M H d v
  | _, [], _, _, _, e => by simp at e
  | d :: ds, v :: vs, 0, _, h, e => by
    have e' : v = _ := Option.some.inj e
    subst e'
    exact ⟨d, rfl, h.1⟩
  | d :: ds, v :: vs, i + 1, x, h, e => by
    obtain ⟨u, h1, h2⟩ := IsAll.getV (i := i) (v := x) h.2 (by simpa using e)
    exact ⟨u, by simpa using h1, h2⟩
  | [], _ :: _, _, _, h, _ => h.elim
theorem IsAll.append {M : Ad} {H : Hp} : ∀ {ds es : List PyData} {vs ws : List V}, IsAll M H ds vs → IsAll M H es ws → IsAll M H (ds ++ es) (vs ++ ws)
  | [], _, [], _, _, h => h
  | _ :: _, _, _ :: _, _, h, g => ⟨h.1, IsAll.append h.2 g⟩
  | [], _, _ :: _, _, h, _ => h.elim
  | _ :: _, _, [], _, h, _ => h.elim
theorem IsAll.nil {M : Ad} {H : Hp} : IsAll M H [] [] := True.intro
theorem IsAll.cons {M : Ad} {H : Hp} {d : PyData} {ds : List PyData} {v : V} {vs : List V} (h : Is M H d v) (g : IsAll M H ds vs) : IsAll M H (d :: ds) (v :: vs) := ⟨h, g⟩
theorem IsAll.one {M : Ad} {H : Hp} {d : PyData} {v : V} (h : Is M H d v) : IsAll M H [d] [v] := ⟨h, True.intro⟩
theorem IsAll.set {M : Ad} {H : Hp} {d : PyData} {v : V} (g : Is M H d v) : ∀ {ds : List PyData} {vs : List V} (i : Nat), IsAll M H ds vs → IsAll M H (ds.set i d) (vs.set i v)
  | [], [], _, _ => True.intro
  | _ :: _, _ :: _, 0, h => ⟨g, h.2⟩
  | _ :: _, _ :: _, i + 1, h => ⟨h.1, IsAll.set g i h.2⟩
  | [], _ :: _, _, h => h.elim
  | _ :: _, [], _, h => h.elim
theorem IsAll.take {M : Ad} {H : Hp} : ∀ {ds : List PyData} {vs : List V} (n : Nat), IsAll M H ds vs → IsAll M H (ds.take n) (vs.take n)
  | [], [], n, _ => by
    rw [List.take_nil, List.take_nil]
    exact True.intro
  | _ :: _, _ :: _, 0, _ => True.intro
  | _ :: _, _ :: _, n + 1, h => ⟨h.1, IsAll.take n h.2⟩
  | [], _ :: _, _, h => h.elim
  | _ :: _, [], _, h => h.elim
theorem IsAll.drop {M : Ad} {H : Hp} : ∀ {ds : List PyData} {vs : List V} (n : Nat), IsAll M H ds vs → IsAll M H (ds.drop n) (vs.drop n)
  | [], [], n, _ => by
    rw [List.drop_nil, List.drop_nil]
    exact True.intro
  | _ :: _, _ :: _, 0, h => h
  | _ :: _, _ :: _, n + 1, h => IsAll.drop n h.2
  | [], _ :: _, _, h => h.elim
  | _ :: _, [], _, h => h.elim
theorem IsAll.eraseIdx {M : Ad} {H : Hp} : ∀ {ds : List PyData} {vs : List V} (n : Nat), IsAll M H ds vs → IsAll M H (ds.eraseIdx n) (vs.eraseIdx n)
  | [], [], n, _ => True.intro
  | _ :: _, _ :: _, 0, h => h.2
  | _ :: _, _ :: _, n + 1, h => ⟨h.1, IsAll.eraseIdx n h.2⟩
  | [], _ :: _, _, h => h.elim
  | _ :: _, [], _, h => h.elim
theorem IsAll.reverse {M : Ad} {H : Hp} : ∀ {ds : List PyData} {vs : List V}, IsAll M H ds vs → IsAll M H ds.reverse vs.reverse
  | [], [], _ => True.intro
  | d :: ds, v :: vs, h => by
    rw [List.reverse_cons, List.reverse_cons]
    exact IsAll.append (IsAll.reverse h.2) (IsAll.one h.1)
  | [], _ :: _, h => h.elim
  | _ :: _, [], h => h.elim
theorem IsAll.ints {M : Ad} {H : Hp} : ∀ {ns : List Int} {vs : List V}, IsAll M H (ns.map PyData.int) vs → vs = ns.map V.int
  | [], [], _ => rfl
  | n :: ns, v :: vs, h => by
    have h1 : v = .int n := h.1
    rw [h1, IsAll.ints (ns := ns) h.2, List.map_cons]
  | [], _ :: _, h => h.elim
  | _ :: _, [], h => h.elim
theorem IsAll.ofInts {M : Ad} {H : Hp} : ∀ (ns : List Int), IsAll M H (ns.map PyData.int) (ns.map V.int)
  | [] => True.intro
  | n :: ns => ⟨rfl, IsAll.ofInts ns⟩
/-- data by one rule on each item -/
theorem IsAll.of {M : Ad} {H : Hp} : ∀ {ds : List PyData} {vs : List V}, ds.length = vs.length → (∀ (i : Nat) (d : PyData) (v : V), ds[i]? = some d → vs[i]? = some v → Is M H d v) → IsAll M H ds vs
  | [], [], _, _ => True.intro
  | d :: ds, v :: vs, e, h => ⟨h 0 d v rfl rfl, IsAll.of (by simpa using e) fun i d' v' h1 h2 => h (i + 1) d' v' (by simpa using h1) (by simpa using h2)⟩
  | [], _ :: _, e, _ => by simp at e
  | _ :: _, [], e, _ => by simp at e
/-! no dict within -/
mutual
def flatD : PyData → Bool
  | .dict _ => false
  | .list ds => flatAll ds
  | .tuple ds => flatAll ds
  | _ => true
def flatAll : List PyData → Bool
  | [] => true
  | d :: ds => flatD d && flatAll ds
end
mutual
theorem Is.dp {K : PySem.W.Frag} {M : Ad} {H : Hp} : ∀ {d : PyData} {v : V}, flatD d = true → Is M H d v → Dp K H v d
  | .none, _, _, h => by
    have h' : _ = V.non := h
    subst h'
    exact .non
  | .bool b, _, f, h => by
    have h' : _ = V.bl b := h
    subst h'
    exact .bl b
  | .int i, _, f, h => by
    have h' : _ = V.int i := h
    subst h'
    exact .int i
  | .str x, _, f, h => by
    have h' : _ = V.str x := h
    subst h'
    exact .str x
  | .list _, _, f, h => by
    obtain ⟨a, vs, h1, _, h3, h4⟩ := h
    subst h1
    exact .lst (SqL.of h3) (IsAll.dp f h4)
  | .tuple _, _, f, h => by
    obtain ⟨a, vs, h1, _, h3, h4⟩ := h
    subst h1
    exact .tup (SqT.of h3) (IsAll.dp f h4)
  | .dict _, _, f, _ => by cases f
theorem IsAll.dp {K : PySem.W.Frag} {M : Ad} {H : Hp} : ∀ {ds : List PyData} {vs : List V}, flatAll ds = true → IsAll M H ds vs → DpAll K H vs ds
  | [], [], _, _ => .nil
  | d :: ds, _ :: _, f, h => by
    have f' : flatD d = true ∧ flatAll ds = true := Bool.and_eq_true_iff.mp f
    exact .cons (Is.dp f'.1 h.1) (IsAll.dp f'.2 h.2)
  | [], _ :: _, _, h => h.elim
  | _ :: _, [], _, h => h.elim
end
end Bf
set_option Elab.async false
set_option linter.all false
set_option maxRecDepth 100000
set_option maxHeartbeats 4000000
namespace Bf
open PySem PySem.Spec PyProof.Rows L2
/-! ### objects that one slot alone holds and may change -/
structure OP where
  is : Ad → Hp → Addr → Prop
  there : ∀ {M : Ad} {H : Hp} {a : Addr}, is M H a → H a ≠ none
  fr : ∀ {M : Ad} {H H' : Hp} {a : Addr}, is M H a → (∀ b o, H b = some o → (b = a ∨ ¬ M b) → H' b = some o) → is M H' a
  weak : ∀ {M M' : Ad} {H : Hp} {a : Addr}, is M H a → (∀ b, M' b → H b ≠ none → M b) → is M' H a
theorem ne_none {α : Type} {o : Option α} {x : α} (h : o = some x) : o ≠ none := by
  rw [h]
  exact fun z => by cases z
/-- a list of these -/
def oL (ds : List PyData) : OP where
  is := fun M H a => ∃ vs, H a = some (.lst vs) ∧ IsAll M H ds vs
  there := fun ⟨_, h, _⟩ => ne_none h
  fr := fun ⟨vs, h, g⟩ k => ⟨vs, k _ _ h (.inl rfl), IsAll.fr (fun b o e n => k b o e (.inr n)) g⟩
  weak := fun ⟨vs, h, g⟩ w => ⟨vs, h, IsAll.weak w g⟩
inductive SV where
  | d (x : PyData)
  | o (l : Bool) (p : OP)
abbrev Rho : Type := List (Option SV)
/-- what a def's body is in: M0: objects that the caller may change, A: objects that this def may change for its caller; H0: the entry; S: earlier heaps, and what of them may change since -/
structure Cn where
  M0 : Ad
  P : Nat → Addr → Prop
  H0 : Hp
  S : Ad → Hp → Prop
  T : Ad
def Cn.A (C : Cn) : Ad := fun a => ∃ j, C.P j a
def All (C : Cn) (ρ : Rho) (σ : L2.St) : Ad := fun a => C.M0 a ∨ C.A a ∨ ∃ (i : Nat) (l : Bool) (p : OP), ρ[i]? = some (some (SV.o l p)) ∧ σ[i]? = some (some (V.ref a))
structure Holds (C : Cn) (ρ : Rho) (σ : L2.St) (H : Hp) : Prop where
  len : σ.length = ρ.length
  dat : ∀ (i : Nat) (x : PyData), ρ[i]? = some (some (SV.d x)) → ∃ v : V, σ[i]? = some (some v) ∧ Is (All C ρ σ) H x v
  own : ∀ (i : Nat) (l : Bool) (p : OP), ρ[i]? = some (some (SV.o l p)) → ∃ a : Addr, σ[i]? = some (some (V.ref a)) ∧ p.is (All C ρ σ) H a ∧ ¬ C.M0 a ∧ (if l = true then C.H0 a = none else C.P i a)
  sep : ∀ (i j : Nat) (l l' : Bool) (p q : OP) (a : Addr), ρ[i]? = some (some (SV.o l p)) → ρ[j]? = some (some (SV.o l' q)) → σ[i]? = some (some (V.ref a)) → σ[j]? = some (some (V.ref a)) → i = j
  fr : ∀ a o, C.H0 a = some o → ¬ C.A a → H a = some o
  m0 : ∀ a, C.M0 a → H a ≠ none
  a0 : ∀ j a, C.P j a → C.H0 a ≠ none ∧ ∃ (p : OP), ρ[j]? = some (some (SV.o false p)) ∧ σ[j]? = some (some (V.ref a))
  th : ∀ a, (C.H0 a ≠ none ∨ C.T a) → H a ≠ none
  sn : ∀ W Hs, C.S W Hs → Fr W Hs H ∧ ∀ a, All C ρ σ a → Hs a ≠ none → W a
theorem Ex.ne {H H' : Hp} (e : Ex H H') {a : Addr} (z : H a ≠ none) : H' a ≠ none := by
  cases q : H a with
  | none => exact absurd q z
  | some o => exact ne_none (e a o q)
section
variable {C : Cn} {ρ ρ' : Rho} {σ σ' : L2.St} {H H' : Hp}
theorem Holds.old (h : Holds C ρ σ H) {p : Addr} (n : H p = none) : C.H0 p = none := by
  cases q : C.H0 p with
  | none => rfl
  | some o => exact absurd n (h.th p (.inl (ne_none q)))
theorem Holds.aH (h : Holds C ρ σ H) {a : Addr} (m : C.A a) : C.H0 a ≠ none := let ⟨j, q⟩ := m; (h.a0 j a q).1
theorem Holds.allIn (h : Holds C ρ σ H) {a : Addr} (m : All C ρ σ a) : H a ≠ none := by
  rcases m with m | m | ⟨i, l, p, e1, e2⟩
  · exact h.m0 a m
  · exact h.th a (.inl (h.aH m))
  · obtain ⟨b, f1, f2, _⟩ := h.own i l p e1
    rw [e2] at f1
    cases f1
    exact p.there f2
theorem Holds.fresh (h : Holds C ρ σ H) {p : Addr} (n : H p = none) : ¬ All C ρ σ p := fun m => h.allIn m n
theorem Holds.ex (h : Holds C ρ σ H) (e : Ex H H') : Holds C ρ σ H' where
  len := h.len
  dat := fun i x q => let ⟨v, h1, h2⟩ := h.dat i x q; ⟨v, h1, Is.ex e h2⟩
  own := fun i l p q => let ⟨a, h1, h2, h3⟩ := h.own i l p q; ⟨a, h1, p.fr h2 fun b o z _ => e b o z, h3⟩
  sep := h.sep
  fr := fun a o z n => e a o (h.fr a o z n)
  m0 := fun a z => e.ne (h.m0 a z)
  a0 := h.a0
  th := fun a z => e.ne (h.th a z)
  sn := fun W Hs z => ⟨(h.sn W Hs z).1.trans e.fr, (h.sn W Hs z).2⟩
theorem Holds.snew (h : Holds C ρ σ H) {W : Ad} {Hs : Hp} (z : C.S W Hs) {p : Addr} (n : H p = none) (k : Hs p ≠ none) : W p := by
  by_cases w : W p
  · exact w
  · cases q : Hs p with
    | none => exact absurd q k
    | some o =>
      have := (h.sn W Hs z).1 p o q w
      rw [n] at this
      cases this
theorem set_get {α : Type} {l : List α} {i j : Nat} {x y : α} (h : (l.set i x)[j]? = some y) : (i = j ∧ y = x ∧ i < l.length) ∨ (i ≠ j ∧ l[j]? = some y) := by
  rw [List.getElem?_set] at h
  by_cases e : i = j
  · rw [if_pos e] at h
    by_cases l' : i < l.length
    · rw [if_pos l'] at h
      exact .inl ⟨e, (Option.some.inj h).symm, l'⟩
    · rw [if_neg l'] at h
      cases h
  · rw [if_neg e] at h
    exact .inr ⟨e, h⟩
theorem set_same {α : Type} {l : List α} {i : Nat} {x : α} (h : i < l.length) : (l.set i x)[i]? = some x := by
  rw [List.getElem?_set, if_pos rfl, if_pos h]
theorem set_other {α : Type} {l : List α} {i j : Nat} {x : α} (h : i ≠ j) : (l.set i x)[j]? = l[j]? := by
  rw [List.getElem?_set, if_neg h]
/-- a slot gets data -/
theorem Holds.setD {i : Nat} {x : PyData} {v : V} (h : Holds C ρ σ H) (g : Is (All C ρ σ) H x v) (hi : ∀ p, ρ[i]? ≠ some (some (.o false p))) : Holds C (ρ.set i (some (.d x))) (σ.set i (some v)) H := by
  have sub : ∀ a, All C (ρ.set i (some (.d x))) (σ.set i (some v)) a → All C ρ σ a := fun a m => by
    rcases m with m | m | ⟨j, l, p, e1, e2⟩
    · exact .inl m
    · exact .inr (.inl m)
    · rcases set_get e1 with ⟨_, z, _⟩ | ⟨n, e1⟩
      · cases z
      · rw [set_other n] at e2
        exact .inr (.inr ⟨j, l, p, e1, e2⟩)
  refine ⟨by rw [List.length_set, List.length_set, h.len], fun j y e => ?_, fun j l p e => ?_, fun j k l l' p q a e1 e2 e3 e4 => ?_, h.fr, h.m0, fun j a m => ⟨(h.a0 j a m).1, ?_⟩, h.th, fun W Hs z => ⟨(h.sn W Hs z).1, fun a m k => (h.sn W Hs z).2 a (sub a m) k⟩⟩
  · rcases set_get e with ⟨z, e, l⟩ | ⟨n, e⟩
    · cases e
      subst z
      exact ⟨v, set_same (by rw [h.len]; exact l), Is.weak (fun a m _ => sub a m) g⟩
    · obtain ⟨u, h1, h2⟩ := h.dat j y e
      exact ⟨u, by rw [set_other n]; exact h1, Is.weak (fun a m _ => sub a m) h2⟩
  · rcases set_get e with ⟨_, z, _⟩ | ⟨n, e⟩
    · cases z
    · obtain ⟨a, h1, h2, h3⟩ := h.own j l p e
      exact ⟨a, by rw [set_other n]; exact h1, p.weak h2 fun a m _ => sub a m, h3⟩
  · rcases set_get e1 with ⟨_, z, _⟩ | ⟨n1, e1⟩
    · cases z
    · rcases set_get e2 with ⟨_, z, _⟩ | ⟨n2, e2⟩
      · cases z
      · rw [set_other n1] at e3
        rw [set_other n2] at e4
        exact h.sep j k l l' p q a e1 e2 e3 e4
  · obtain ⟨p, e1, e2⟩ := (h.a0 j a m).2
    have n : i ≠ j := fun z => hi p (by rw [z]; exact e1)
    exact ⟨p, by rw [set_other n]; exact e1, by rw [set_other n]; exact e2⟩
/-- a slot gets an object just made -/
theorem Holds.setO {i : Nat} {P : OP} {p : Addr} (h : Holds C ρ σ H) (n : H p = none) (e : Ex H H') (g : P.is (fun a => All C ρ σ a ∨ a = p) H' p) (hi : ∀ p, ρ[i]? ≠ some (some (.o false p))) :
    Holds C (ρ.set i (some (.o true P))) (σ.set i (some (.ref p))) H' := by
  have sub' : ∀ a, All C (ρ.set i (some (.o true P))) (σ.set i (some (.ref p))) a → All C ρ σ a ∨ a = p := fun a m => by
    rcases m with m | m | ⟨j, l, q, e1, e2⟩
    · exact .inl (.inl m)
    · exact .inl (.inr (.inl m))
    · rcases set_get e1 with ⟨z, _, _⟩ | ⟨ne, e1⟩
      · subst z
        rcases set_get e2 with ⟨_, z, _⟩ | ⟨ne, _⟩
        · cases z
          exact .inr rfl
        · exact absurd rfl ne
      · rw [set_other ne] at e2
        exact .inl (.inr (.inr ⟨j, l, q, e1, e2⟩))
  have sub : ∀ a, All C (ρ.set i (some (.o true P))) (σ.set i (some (.ref p))) a → H a ≠ none → All C ρ σ a := fun a m k => (sub' a m).resolve_right fun z => k (by rw [z]; exact n)
  have h' := h.ex e
  refine ⟨by rw [List.length_set, List.length_set, h.len], fun j y z => ?_, fun j l q z => ?_, fun j k l l' q r a e1 e2 e3 e4 => ?_, h'.fr, h'.m0, fun j a m => ⟨(h.a0 j a m).1, ?_⟩, h'.th, fun W Hs z => ⟨(h'.sn W Hs z).1, fun a m k => (sub' a m).elim (fun m => (h.sn W Hs z).2 a m k) fun w => by rw [w] at k ⊢; exact h.snew z n k⟩⟩
  · rcases set_get z with ⟨_, z, _⟩ | ⟨ne, z⟩
    · cases z
    · obtain ⟨u, h1, h2⟩ := h.dat j y z
      exact ⟨u, by rw [set_other ne]; exact h1, Is.ex e (Is.weak sub h2)⟩
  · rcases set_get z with ⟨zz, q', lt⟩ | ⟨ne, z⟩
    · cases q'
      subst zz
      exact ⟨p, set_same (by rw [h.len]; exact lt), P.weak g fun a m _ => sub' a m, fun m => h.fresh n (.inl m), by rw [if_pos rfl]; exact h.old n⟩
    · obtain ⟨a, h1, h2, h3⟩ := h.own j l q z
      exact ⟨a, by rw [set_other ne]; exact h1, q.fr (q.weak h2 sub) fun b o z _ => e b o z, h3⟩
  · have key : ∀ (m : Nat) l q b, i ≠ m → (ρ.set i (some (.o true P)))[m]? = some (some (.o l q)) → (σ.set i (some (.ref p)))[m]? = some (some (.ref b)) → H b ≠ none := fun m l q b ne z1 z2 => by
      rw [set_other ne] at z1 z2
      exact h.allIn (.inr (.inr ⟨m, l, q, z1, z2⟩))
    by_cases ij : i = j
    · by_cases ik : i = k
      · exact ij.symm.trans ik
      · subst ij
        rcases set_get e3 with ⟨_, z, _⟩ | ⟨ne, _⟩
        · cases z
          exact absurd n (key k _ _ _ ik e2 e4)
        · exact absurd rfl ne
    · by_cases ik : i = k
      · subst ik
        rcases set_get e4 with ⟨_, z, _⟩ | ⟨ne, _⟩
        · cases z
          exact absurd n (key j _ _ _ ij e1 e3)
        · exact absurd rfl ne
      · rw [set_other ij] at e1 e3
        rw [set_other ik] at e2 e4
        exact h.sep j k l l' q r a e1 e2 e3 e4
  · obtain ⟨q, e1, e2⟩ := (h.a0 j a m).2
    have ne : i ≠ j := fun z => hi q (by rw [z]; exact e1)
    exact ⟨q, by rw [set_other ne]; exact e1, by rw [set_other ne]; exact e2⟩
/-- the object of a slot has changed, nothing else -/
theorem Holds.mut {i : Nat} {l : Bool} {P Q : OP} {a : Addr} (h : Holds C ρ σ H) (e1 : ρ[i]? = some (some (.o l P))) (e2 : σ[i]? = some (some (.ref a))) (k : ∀ b o, H b = some o → b ≠ a → H' b = some o) (g : Q.is (All C ρ σ) H' a) :
    Holds C (ρ.set i (some (.o l Q))) σ H' := by
  have lt : i < ρ.length := (List.getElem?_eq_some_iff.mp e1).1
  have eq : ∀ b, All C (ρ.set i (some (.o l Q))) σ b ↔ All C ρ σ b := fun b => by
    constructor
    · rintro (m | m | ⟨j, l', p, f1, f2⟩)
      · exact .inl m
      · exact .inr (.inl m)
      · rcases set_get f1 with ⟨z, _, _⟩ | ⟨n, f1⟩
        · subst z
          exact .inr (.inr ⟨i, l, P, e1, f2⟩)
        · exact .inr (.inr ⟨j, l', p, f1, f2⟩)
    · rintro (m | m | ⟨j, l', p, f1, f2⟩)
      · exact .inl m
      · exact .inr (.inl m)
      · by_cases z : i = j
        · subst z
          exact .inr (.inr ⟨i, l, Q, set_same lt, f2⟩)
        · exact .inr (.inr ⟨j, l', p, by rw [set_other z]; exact f1, f2⟩)
  have inA : All C ρ σ a := .inr (.inr ⟨i, l, P, e1, e2⟩)
  have fr : Fr (All C ρ σ) H H' := fun b o z n => k b o z fun w => n (by rw [w]; exact inA)
  have there : ∀ b, H b ≠ none → H' b ≠ none := fun b z => by
    by_cases w : b = a
    · rw [w]
      exact Q.there g
    · cases q : H b with
      | none => exact absurd q z
      | some o => exact ne_none (k b o q w)
  obtain ⟨a', f1, f2, f3, f4⟩ := h.own i l P e1
  rw [e2] at f1
  cases f1
  refine ⟨by rw [List.length_set, h.len], fun j y z => ?_, fun j l' q z => ?_, fun j m l1 l2 q r b z1 z2 z3 z4 => ?_, fun b o z n => ?_, fun b z => there b (h.m0 b z), fun j b m => ⟨(h.a0 j b m).1, ?_⟩, fun b z => there b (h.th b z), fun W Hs z => ⟨fun b o w n => k b o ((h.sn W Hs z).1 b o w n) fun y => n (by rw [y] at w ⊢; exact (h.sn W Hs z).2 a inA (ne_none w)), fun b m k => (h.sn W Hs z).2 b ((eq b).mp m) k⟩⟩
  · rcases set_get z with ⟨_, z, _⟩ | ⟨n, z⟩
    · cases z
    · obtain ⟨u, h1, h2⟩ := h.dat j y z
      exact ⟨u, h1, Is.weak (fun b m _ => (eq b).mp m) (Is.fr fr h2)⟩
  · rcases set_get z with ⟨zz, w, _⟩ | ⟨n, z⟩
    · cases w
      subst zz
      exact ⟨a, e2, Q.weak g fun b m _ => (eq b).mp m, f3, f4⟩
    · obtain ⟨b, h1, h2, h3⟩ := h.own j l' q z
      refine ⟨b, h1, q.weak (q.fr h2 fun c o w m => k c o w fun y => ?_) fun b m _ => (eq b).mp m, h3⟩
      rcases m with m | m
      · have : i = j := h.sep i j l l' P q a e1 z e2 (by rw [← y, m]; exact h1)
        exact n this
      · exact m (by rw [y]; exact inA)
  · have back : ∀ (m : Nat) l2 r, (ρ.set i (some (.o l Q)))[m]? = some (some (.o l2 r)) → ∃ l3 r3, ρ[m]? = some (some (.o l3 r3)) := fun m l2 r w => by
      rcases set_get w with ⟨w, _, _⟩ | ⟨_, w⟩
      · subst w
        exact ⟨_, _, e1⟩
      · exact ⟨_, _, w⟩
    obtain ⟨l3, r3, w1⟩ := back j _ _ z1
    obtain ⟨l4, r4, w2⟩ := back m _ _ z2
    exact h.sep j m _ _ _ _ b w1 w2 z3 z4
  · refine k b o (h.fr b o z n) fun w => ?_
    subst w
    cases l with
    | true =>
      rw [if_pos rfl] at f4
      rw [f4] at z
      cases z
    | false =>
      rw [if_neg Bool.false_ne_true] at f4
      exact n ⟨_, f4⟩
  · obtain ⟨q, z1, z2⟩ := (h.a0 j b m).2
    by_cases w : i = j
    · subst w
      rw [e1] at z1
      cases z1
      exact ⟨Q, set_same lt, z2⟩
    · exact ⟨q, by rw [set_other w]; exact z1, z2⟩
/-- a list that is not to be changed any more becomes data -/
theorem Holds.keep {i : Nat} {ds : List PyData} (h : Holds C ρ σ H) (e : ρ[i]? = some (some (.o true (oL ds)))) : Holds C (ρ.set i (some (.d (.list ds)))) σ H := by
  obtain ⟨a, f1, ⟨vs, g1, g2⟩, f3, f4⟩ := h.own i true _ e
  rw [if_pos rfl] at f4
  have lt : i < ρ.length := (List.getElem?_eq_some_iff.mp e).1
  have sub : ∀ b, All C (ρ.set i (some (.d (.list ds)))) σ b → All C ρ σ b := fun b m => by
    rcases m with m | m | ⟨j, l, p, e1, e2⟩
    · exact .inl m
    · exact .inr (.inl m)
    · rcases set_get e1 with ⟨_, z, _⟩ | ⟨n, e1⟩
      · cases z
      · exact .inr (.inr ⟨j, l, p, e1, e2⟩)
  refine ⟨by rw [List.length_set, h.len], fun j y z => ?_, fun j l p z => ?_, fun j k l l' p q b z1 z2 z3 z4 => ?_, h.fr, h.m0, fun j b m => ⟨(h.a0 j b m).1, ?_⟩, h.th, fun W Hs z => ⟨(h.sn W Hs z).1, fun a m k => (h.sn W Hs z).2 a (sub a m) k⟩⟩
  · rcases set_get z with ⟨zz, w, _⟩ | ⟨n, z⟩
    · cases w
      subst zz
      refine ⟨.ref a, f1, a, vs, rfl, ?_, g1, IsAll.weak (fun b m _ => sub b m) g2⟩
      rintro (m | m | ⟨j, l, p, e1, e2⟩)
      · exact f3 m
      · exact h.aH m f4
      · rcases set_get e1 with ⟨_, z, _⟩ | ⟨n, e1⟩
        · cases z
        · exact n (h.sep i j _ _ _ _ a e e1 f1 e2)
    · obtain ⟨u, h1, h2⟩ := h.dat j y z
      exact ⟨u, h1, Is.weak (fun b m _ => sub b m) h2⟩
  · rcases set_get z with ⟨_, z, _⟩ | ⟨n, z⟩
    · cases z
    · obtain ⟨b, h1, h2, h3⟩ := h.own j l p z
      exact ⟨b, h1, p.weak h2 fun c m _ => sub c m, h3⟩
  · rcases set_get z1 with ⟨_, z, _⟩ | ⟨_, z1⟩
    · cases z
    · rcases set_get z2 with ⟨_, z, _⟩ | ⟨_, z2⟩
      · cases z
      · exact h.sep j k l l' p q b z1 z2 z3 z4
  · obtain ⟨q, z1, z2⟩ := (h.a0 j b m).2
    have n : i ≠ j := fun z => by
      subst z
      rw [e] at z1
      cases z1
    exact ⟨q, by rw [set_other n]; exact z1, z2⟩
/-- slots that hold no object of their own may get data: who may change is the same -/
theorem all_set {C : Cn} {ρ : Rho} {σ : L2.St} {i : Nat} {x : PyData} {v : V} (hi : ∀ l p, ρ[i]? ≠ some (some (SV.o l p))) (a : Addr) : All C (ρ.set i (some (.d x))) (σ.set i (some v)) a ↔ All C ρ σ a := by
  constructor
  · rintro (m | m | ⟨j, l, p, e1, e2⟩)
    · exact .inl m
    · exact .inr (.inl m)
    · rcases set_get e1 with ⟨_, z, _⟩ | ⟨n, e1⟩
      · cases z
      · rw [set_other n] at e2
        exact .inr (.inr ⟨j, l, p, e1, e2⟩)
  · rintro (m | m | ⟨j, l, p, e1, e2⟩)
    · exact .inl m
    · exact .inr (.inl m)
    · have n : i ≠ j := fun z => hi l p (by rw [z]; exact e1)
      exact .inr (.inr ⟨j, l, p, by rw [set_other n]; exact e1, by rw [set_other n]; exact e2⟩)
def wipeR (ρ : Rho) : List Nat → Rho
  | [] => ρ
  | v :: vs => (wipeR ρ vs).set v none
theorem Holds.wipe1 {i : Nat} (h : Holds C ρ σ H) (hi : ∀ l p, ρ[i]? ≠ some (some (SV.o l p))) : Holds C (ρ.set i none) (σ.set i none) H ∧ ∀ a, All C (ρ.set i none) (σ.set i none) a ↔ All C ρ σ a := by
  have eq : ∀ a, All C (ρ.set i none) (σ.set i none) a ↔ All C ρ σ a := fun a => by
    constructor
    · rintro (m | m | ⟨j, l, p, e1, e2⟩)
      · exact .inl m
      · exact .inr (.inl m)
      · rcases set_get e1 with ⟨_, z, _⟩ | ⟨n, e1⟩
        · cases z
        · rw [set_other n] at e2
          exact .inr (.inr ⟨j, l, p, e1, e2⟩)
    · rintro (m | m | ⟨j, l, p, e1, e2⟩)
      · exact .inl m
      · exact .inr (.inl m)
      · have n : i ≠ j := fun z => hi l p (by rw [z]; exact e1)
        exact .inr (.inr ⟨j, l, p, by rw [set_other n]; exact e1, by rw [set_other n]; exact e2⟩)
  refine ⟨⟨by rw [List.length_set, List.length_set, h.len], fun j y z => ?_, fun j l p z => ?_, fun j k l l' p q b z1 z2 z3 z4 => ?_, h.fr, h.m0, fun j b m => ⟨(h.a0 j b m).1, ?_⟩, h.th, fun W Hs z => ⟨(h.sn W Hs z).1, fun a m k => (h.sn W Hs z).2 a ((eq a).mp m) k⟩⟩, eq⟩
  · rcases set_get z with ⟨_, z, _⟩ | ⟨n, z⟩
    · cases z
    · obtain ⟨u, h1, h2⟩ := h.dat j y z
      exact ⟨u, by rw [set_other n]; exact h1, Is.weak (fun b m _ => (eq b).mp m) h2⟩
  · rcases set_get z with ⟨_, z, _⟩ | ⟨n, z⟩
    · cases z
    · obtain ⟨b, h1, h2, h3⟩ := h.own j l p z
      exact ⟨b, by rw [set_other n]; exact h1, p.weak h2 fun c m _ => (eq c).mp m, h3⟩
  · rcases set_get z1 with ⟨_, z, _⟩ | ⟨n1, z1⟩
    · cases z
    · rcases set_get z2 with ⟨_, z, _⟩ | ⟨n2, z2⟩
      · cases z
      · rw [set_other n1] at z3
        rw [set_other n2] at z4
        exact h.sep j k l l' p q b z1 z2 z3 z4
  · obtain ⟨q, z1, z2⟩ := (h.a0 j b m).2
    have n : i ≠ j := fun z => hi false q (by rw [z]; exact z1)
    exact ⟨q, by rw [set_other n]; exact z1, by rw [set_other n]; exact z2⟩
/-- an earlier heap to come back to -/
def Cn.snap (C : Cn) (W : Ad) (H : Hp) : Cn := { C with S := fun W' H' => C.S W' H' ∨ (W' = W ∧ H' = H), T := fun a => C.T a ∨ H a ≠ none }
theorem Holds.snap (h : Holds C ρ σ H) : Holds (C.snap (All C ρ σ) H) ρ σ H :=
  ⟨h.len, h.dat, h.own, h.sep, h.fr, h.m0, h.a0, fun a z => z.elim (fun z => h.th a (.inl z)) fun z => z.elim (fun z => h.th a (.inr z)) fun z => z, fun W Hs z => by
    rcases z with z | ⟨rfl, rfl⟩
    · exact h.sn W Hs z
    · exact ⟨Fr.refl _ _, fun a m _ => m⟩⟩
theorem Holds.unsnap {W : Ad} {Hs : Hp} (h : Holds (C.snap W Hs) ρ σ H) : Holds C ρ σ H ∧ Fr W Hs H ∧ (∀ a, All C ρ σ a → Hs a ≠ none → W a) ∧ ∀ a, Hs a ≠ none → H a ≠ none :=
  ⟨⟨h.len, h.dat, h.own, h.sep, h.fr, h.m0, h.a0, fun a z => h.th a (z.elim .inl fun z => .inr (.inl z)), fun W' Hs' z => h.sn W' Hs' (.inl z)⟩, (h.sn W Hs (.inr ⟨rfl, rfl⟩)).1, (h.sn W Hs (.inr ⟨rfl, rfl⟩)).2, fun a z => h.th a (.inr (.inr z))⟩
theorem wipeR_get {ρ : Rho} {j : Nat} {y : SV} : ∀ {vs : List Nat}, (wipeR ρ vs)[j]? = some (some y) → ρ[j]? = some (some y)
  | [], h => h
  | v :: vs, h => by
    have h' : ((wipeR ρ vs).set v none)[j]? = some (some y) := h
    rcases set_get h' with ⟨_, z, _⟩ | ⟨_, z⟩
    · cases z
    · exact wipeR_get z
theorem Holds.wipe (h : Holds C ρ σ H) : ∀ {vs : List Nat}, (∀ i ∈ vs, ∀ l p, ρ[i]? ≠ some (some (SV.o l p))) → Holds C (wipeR ρ vs) (L2.wipe σ vs) H ∧ ∀ a, All C (wipeR ρ vs) (L2.wipe σ vs) a ↔ All C ρ σ a
  | [], _ => ⟨h, fun _ => Iff.rfl⟩
  | v :: vs, hi => by
    obtain ⟨h1, e1⟩ := Holds.wipe h (vs := vs) fun i m => hi i (List.mem_cons_of_mem _ m)
    obtain ⟨h2, e2⟩ := h1.wipe1 (i := v) fun l p z => hi v List.mem_cons_self l p (wipeR_get z)
    exact ⟨h2, fun a => (e2 a).trans (e1 a)⟩
theorem wipe_at {σ : L2.St} {i : Nat} : ∀ {vs : List Nat}, i ∈ vs → (L2.wipe σ vs)[i]? = if i < σ.length then some none else none
  | [], h => by simp at h
  | v :: vs, h => by
    show ((L2.wipe σ vs).set v none)[i]? = _
    rw [List.getElem?_set, L2.wipe_length]
    by_cases e : v = i
    · rw [if_pos e, e]
    · rw [if_neg e]
      exact wipe_at ((List.mem_cons.mp h).resolve_left fun z => e z.symm)
theorem wipe_out' {σ : L2.St} {i : Nat} : ∀ {vs : List Nat}, i ∉ vs → (L2.wipe σ vs)[i]? = σ[i]?
  | [], _ => rfl
  | v :: vs, h => by
    show ((L2.wipe σ vs).set v none)[i]? = _
    rw [List.getElem?_set, if_neg (fun z => h (by rw [z]; exact List.mem_cons_self))]
    exact wipe_out' fun z => h (List.mem_cons_of_mem _ z)
/-- the block's own slots forgotten again -/
theorem wipe_eq {σ σ' : L2.St} {vs : List Nat} (hl : σ'.length = σ.length) (h : ∀ i, i ∉ vs → σ'[i]? = σ[i]?) : L2.wipe σ' vs = L2.wipe σ vs := by
  apply List.ext_getElem?
  intro i
  by_cases m : i ∈ vs
  · rw [wipe_at m, wipe_at m, hl]
  · rw [wipe_out' m, wipe_out' m]
    exact h i m
theorem wipe_back {σ : L2.St} {vs : List Nat} {j : Nat} {v : Option V} (h : j ∈ vs) : L2.wipe ((L2.wipe σ vs).set j v) vs = L2.wipe σ vs := by
  refine wipe_eq (by rw [List.length_set, L2.wipe_length]) fun i n => ?_
  rw [set_other (fun z => n (by rw [← z]; exact h))]
  exact wipe_out' n
theorem wipe_back2 {σ : L2.St} {vs : List Nat} {j k : Nat} {v w : Option V} (h : j ∈ vs) (g : k ∈ vs) : L2.wipe (((L2.wipe σ vs).set j v).set k w) vs = L2.wipe σ vs := by
  refine wipe_eq (by rw [List.length_set, List.length_set, L2.wipe_length]) fun i n => ?_
  rw [set_other (fun z => n (by rw [← z]; exact g)), set_other (fun z => n (by rw [← z]; exact h))]
  exact wipe_out' n
end
end Bf
set_option Elab.async false
set_option linter.all false
set_option maxRecDepth 100000
set_option maxHeartbeats 4000000
namespace Bf
open PySem PySem.Spec PyProof.Rows L2
/-! ### an expression that gives data and changes nothing -/
/-- s = true: what is given leans on nothing that may change; s = false: for the moment only -/
def Wk (C : Cn) (ρ : Rho) (σ : L2.St) (s : Bool) : Ad := fun a => s = true ∧ All C ρ σ a
def tD (ρ : Rho) (s : Bool) (x : PyData) : TE := fun σ H Q => ∃ C, Holds C ρ σ H ∧ ∀ v H', Ex H H' → Is (Wk C ρ σ s) H' x v → Q v H'
abbrev PX (X : Cx) (ρ : Rho) (s : Bool) (e : Expr) (x : PyData) : Prop := PE X e (tD ρ s x)
def tDs (ρ : Rho) (s : Bool) (xs : List PyData) : TA := fun σ H Q => ∃ C, Holds C ρ σ H ∧ ∀ vs H', Ex H H' → IsAll (Wk C ρ σ s) H' xs vs → Q vs H'
abbrev PXs (X : Cx) (ρ : Rho) (s : Bool) (es : List Expr) (xs : List PyData) : Prop := PA X es (tDs ρ s xs)
def tDt (ρ : Rho) (b : Bool) : TT := fun σ H Q => ∃ C, Holds C ρ σ H ∧ ∀ H', Ex H H' → Q b H'
abbrev PXt (X : Cx) (ρ : Rho) (e : Expr) (b : Bool) : Prop := PT X e (tDt ρ b)
section
variable {X : Cx} {ρ : Rho} {s : Bool} {e a b : Expr} {es : List Expr} {x y z : PyData} {xs ys : List PyData} {pos p apos : Pos} {C : Cn} {σ : L2.St} {H H' : Hp}
theorem PEimp {t t' : TE} (h : PE X e t) (w : ∀ σ H Q, t' σ H Q → t σ H Q) : PE X e t' := ⟨fun pins s σ H Q I q => h.run pins s σ H Q I (w σ H Q q)⟩
theorem PTimp {t t' : TT} (h : PT X e t) (w : ∀ σ H Q, t' σ H Q → t σ H Q) : PT X e t' := ⟨fun pins s σ H Q I q => h.run pins s σ H Q I (w σ H Q q)⟩
theorem PAimp {t t' : TA} (h : PA X es t) (w : ∀ σ H Q, t' σ H Q → t σ H Q) : PA X es t' := ⟨fun pos pins s σ H Q I q => h.run pos pins s σ H Q I (w σ H Q q)⟩
theorem wk_all {a : Addr} (h : Wk C ρ σ s a) : All C ρ σ a := h.2
theorem wk_fresh (h : Holds C ρ σ H) {p : Addr} (n : H p = none) : ¬ Wk C ρ σ s p := fun m => h.fresh n m.2
theorem Is.wk {v : V} (h : Is (All C ρ σ) H x v) : Is (Wk C ρ σ s) H x v := Is.weak (fun _ m _ => m.2) h
theorem Is.ofT {v : V} (h : Is (Wk C ρ σ true) H x v) : Is (All C ρ σ) H x v := Is.weak (fun _ m _ => ⟨rfl, m⟩) h
theorem Is.toF {v : V} (h : Is (Wk C ρ σ s) H x v) : Is (Wk C ρ σ false) H x v := Is.weak (fun _ m _ => by cases m.1) h
theorem IsAll.wk {vs : List V} (h : IsAll (All C ρ σ) H xs vs) : IsAll (Wk C ρ σ s) H xs vs := IsAll.weak (fun _ m _ => m.2) h
theorem IsAll.ofT {vs : List V} (h : IsAll (Wk C ρ σ true) H xs vs) : IsAll (All C ρ σ) H xs vs := IsAll.weak (fun _ m _ => ⟨rfl, m⟩) h
def okD (x : PyData) : Bool := flatD x && SeqAt.shaped x
theorem okD_f (h : okD x = true) : flatD x = true := (Bool.and_eq_true_iff.mp h).1
theorem okD_s (h : okD x = true) : SeqAt.shaped x = true := (Bool.and_eq_true_iff.mp h).2
/-! ### names, constants -/
theorem px_v (i : Nat) {nm : Str} (hx : ρ[i]? = some (some (.d x)) := by rfl) (hN : X.N[i]? = some nm := by rfl) (hv : Vis X.env.scope nm := by first | exact Or.inl rfl | exact Or.inr (Or.inl rfl) | exact Or.inr (Or.inr rfl)) (hd : (nm == ("__debug__" : Str)) = false := by decide)
    (hcd : (nm == ("__classdict__" : Str)) = false := by decide) : PX X ρ s (.Name nm pos) x := PEimp (pe_var hN hv hd hcd) fun σ H Q ⟨C, h, q⟩ => by
  obtain ⟨v, e1, g⟩ := h.dat i x hx
  exact ⟨v, e1, q v H (Ex.refl H) g.wk⟩
/-- a list that the slot holds, for the moment -/
theorem px_b (i : Nat) {nm : Str} {l : Bool} {ds : List PyData} (hx : ρ[i]? = some (some (.o l (oL ds))) := by rfl) (hN : X.N[i]? = some nm := by rfl) (hv : Vis X.env.scope nm := by first | exact Or.inl rfl | exact Or.inr (Or.inl rfl) | exact Or.inr (Or.inr rfl)) (hd : (nm == ("__debug__" : Str)) = false := by decide)
    (hcd : (nm == ("__classdict__" : Str)) = false := by decide) : PX X ρ false (.Name nm pos) (.list ds) := PEimp (pe_var hN hv hd hcd) fun σ H Q ⟨C, h, q⟩ => by
  obtain ⟨a, e1, ⟨vs, g1, g2⟩, _⟩ := h.own i l _ hx
  exact ⟨.ref a, e1, q _ H (Ex.refl H) ⟨a, vs, rfl, (fun m => by cases m.1), g1, g2.wk⟩⟩
theorem px_c {v : V} (h : PE X e (tC v)) (g : ∀ M H, Is M H x v) : PX X ρ s e x := PEimp h fun σ H Q ⟨C, hh, q⟩ => q v H (Ex.refl H) (g _ _)
theorem px_int {i : Int} {j : Nat} : PX X ρ s (.Constant (.int i) j pos) (.int i) := px_c pe_int fun _ _ => rfl
theorem px_bl {i : Bool} {j : Nat} : PX X ρ s (.Constant (.bool i) j pos) (.bool i) := px_c pe_bl fun _ _ => rfl
theorem px_str {i : Str} {j : Nat} : PX X ρ s (.Constant (.str i) j pos) (.str i) := px_c pe_str fun _ _ => rfl
theorem px_non {j : Nat} : PX X ρ s (.Constant .none j pos) .none := px_c pe_non fun _ _ => rfl
theorem px_glob {nm : Str} {i : Int} (hg : Gl X nm) (hm : ∃ t, X.mg nm = some (.int i t)) (hd : (nm == ("__debug__" : Str)) = false := by decide) : PX X ρ s (.Name nm pos) (.int i) := by
  obtain ⟨t, hm⟩ := hm
  exact px_c (pe_glob (v := .int i) hg hm ⟨t, rfl⟩ hd) fun _ _ => rfl
/-- scalars lean on nothing -/
theorem px_i {i : Int} (h : PX X ρ false e (.int i)) : PX X ρ s e (.int i) := PEimp h fun σ H Q ⟨C, hh, q⟩ => ⟨C, hh, fun v H' e1 g => q v H' e1 (show v = .int i from g)⟩
theorem px_s {i : Str} (h : PX X ρ false e (.str i)) : PX X ρ s e (.str i) := PEimp h fun σ H Q ⟨C, hh, q⟩ => ⟨C, hh, fun v H' e1 g => q v H' e1 (show v = .str i from g)⟩
theorem px_bool {i : Bool} (h : PX X ρ false e (.bool i)) : PX X ρ s e (.bool i) := PEimp h fun σ H Q ⟨C, hh, q⟩ => ⟨C, hh, fun v H' e1 g => q v H' e1 (show v = .bl i from g)⟩
theorem px_n (h : PX X ρ false e .none) : PX X ρ s e .none := PEimp h fun σ H Q ⟨C, hh, q⟩ => ⟨C, hh, fun v H' e1 g => q v H' e1 (show v = .non from g)⟩
theorem px_f (h : PX X ρ s e x) : PX X ρ false e x := PEimp h fun σ H Q ⟨C, hh, q⟩ => ⟨C, hh, fun v H' e1 g => q v H' e1 g.toF⟩
theorem px_eq (h : PX X ρ s e x) (w : x = y) : PX X ρ s e y := w ▸ h
theorem pxs_eq (h : PXs X ρ s es xs) (w : xs = ys) : PXs X ρ s es ys := w ▸ h
/-! ### argument lists, displays -/
theorem pxs_nil : PXs X ρ s [] [] := PAimp pa_nil fun σ H Q ⟨C, hh, q⟩ => q [] H (Ex.refl H) True.intro
theorem pxs_cons (h : PX X ρ s e x) (hr : PXs X ρ s es xs) (hs : starEach (e :: es) X.env = (false, eval e X.env) :: starEach es X.env := by rfl) : PXs X ρ s (e :: es) (x :: xs) := PAimp (pa_cons h hr hs) fun σ H Q ⟨C, hh, q⟩ =>
  ⟨C, hh, fun v H1 e1 g1 => ⟨C, hh.ex e1, fun vs H2 e2 g2 => q (v :: vs) H2 (e1.trans e2) ⟨Is.ex e2 g1, g2⟩⟩⟩
theorem sz_of {n : Nat} (h : n ≤ 1000000) : n ≤ sizeLine := Nat.le_trans h (by decide)
theorem sz_lt {n : Nat} (h : n < 1000000) : n < sizeLine := Nat.lt_of_lt_of_le h (by decide)
theorem px_tup {k : Nat} (h : PXs X ρ s es xs) (hl : xs.length ≤ 1000000 := by first | decide | exact Nat.le_of_ble_eq_true rfl) : PX X ρ s (.Tuple es k pos) (.tuple xs) := PEimp (pe_tup h) fun σ H Q ⟨C, hh, q⟩ =>
  ⟨C, hh, fun vs H1 e1 g1 => ⟨by rw [← g1.length]; exact sz_of hl, fun p hp => q (.ref p) _ (e1.trans (Ex.new hp)) ⟨p, vs, rfl, wk_fresh hh (e1.back hp), upd_same, IsAll.ex (Ex.new hp) g1⟩⟩⟩
theorem px_lst (h : PXs X ρ s es xs) (hl : xs.length ≤ 1000000 := by first | decide | exact Nat.le_of_ble_eq_true rfl) : PX X ρ s (.List es pos) (.list xs) := PEimp (pe_lst h) fun σ H Q ⟨C, hh, q⟩ =>
  ⟨C, hh, fun vs H1 e1 g1 => ⟨by rw [← g1.length]; exact sz_of hl, fun p hp => q (.ref p) _ (e1.trans (Ex.new hp)) ⟨p, vs, rfl, wk_fresh hh (e1.back hp), upd_same, IsAll.ex (Ex.new hp) g1⟩⟩⟩
/-! ### operators on ints -/
variable {op : Operator} {cop : CmpOp} {i j : Int}
theorem px_o {g : Int → Int → Int} (ho : OpR X (binaryOp op) (rI0 fun i j => .int (g i j))) (ha : PX X ρ false a (.int i)) (hb : PX X ρ false b (.int j)) : PX X ρ s (.BinOp a op b pos) (.int (g i j)) := PEimp (pe_op ho ha hb) fun σ H Q ⟨C, hh, q⟩ =>
  ⟨C, hh, fun v H1 e1 g1 => ⟨C, hh.ex e1, fun w H2 e2 g2 => ⟨i, j, g1, g2, q _ H2 (e1.trans e2) rfl⟩⟩⟩
theorem px_oC {Cd : Int → Int → Prop} {g : Int → Int → Int} (ho : OpR X (binaryOp op) (rI Cd fun i j => .int (g i j))) (ha : PX X ρ false a (.int i)) (hb : PX X ρ false b (.int j)) (hc : Cd i j) : PX X ρ s (.BinOp a op b pos) (.int (g i j)) := PEimp (pe_op ho ha hb) fun σ H Q ⟨C, hh, q⟩ =>
  ⟨C, hh, fun v H1 e1 g1 => ⟨C, hh.ex e1, fun w H2 e2 g2 => ⟨i, j, g1, g2, hc, q _ H2 (e1.trans e2) rfl⟩⟩⟩
theorem px_add (ha : PX X ρ false a (.int i)) (hb : PX X ρ false b (.int j)) : PX X ρ s (.BinOp a .Add b pos) (.int (i + j)) := px_o op_add ha hb
theorem px_sub (ha : PX X ρ false a (.int i)) (hb : PX X ρ false b (.int j)) : PX X ρ s (.BinOp a .Sub b pos) (.int (i - j)) := px_o op_sub ha hb
theorem px_mul (ha : PX X ρ false a (.int i)) (hb : PX X ρ false b (.int j)) (hc : CMul i j) : PX X ρ s (.BinOp a .Mult b pos) (.int (i * j)) := px_oC op_mul ha hb hc
/-- 2 * b -/
theorem px_mul2 {k : Nat} {p1 : Pos} (hb : PX X ρ false b (.int j)) : PX X ρ s (.BinOp (.Constant (.int 2) k p1) .Mult b pos) (.int (2 * j)) := px_mul px_int hb (.inl ⟨by decide, by decide⟩)
theorem px_xor (ha : PX X ρ false a (.int i)) (hb : PX X ρ false b (.int j)) : PX X ρ s (.BinOp a .BitXor b pos) (.int (Builtin.bitXor i j)) := px_o op_xor ha hb
theorem px_and (ha : PX X ρ false a (.int i)) (hb : PX X ρ false b (.int j)) : PX X ρ s (.BinOp a .BitAnd b pos) (.int (Builtin.bitAnd i j)) := px_o op_and ha hb
theorem px_or (ha : PX X ρ false a (.int i)) (hb : PX X ρ false b (.int j)) : PX X ρ s (.BinOp a .BitOr b pos) (.int (Builtin.bitOr i j)) := px_o op_or ha hb
theorem px_shr (ha : PX X ρ false a (.int i)) (hb : PX X ρ false b (.int j)) (hc : 0 ≤ j) : PX X ρ s (.BinOp a .RShift b pos) (.int (i / 2 ^ j.toNat)) := px_oC (g := fun i j => i / 2 ^ j.toNat) op_shr ha hb hc
theorem px_shl (ha : PX X ρ false a (.int i)) (hb : PX X ρ false b (.int j)) (hc : CPow i j) : PX X ρ s (.BinOp a .LShift b pos) (.int (i * 2 ^ j.toNat)) := px_oC (g := fun i j => i * 2 ^ j.toNat) op_shl ha hb hc
theorem px_mod (ha : PX X ρ false a (.int i)) (hb : PX X ρ false b (.int j)) (hc : 0 < j) : PX X ρ s (.BinOp a .Mod b pos) (.int (i % j)) := px_oC op_mod ha hb hc
theorem px_fdiv (ha : PX X ρ false a (.int i)) (hb : PX X ρ false b (.int j)) (hc : CDiv i j) : PX X ρ s (.BinOp a .FloorDiv b pos) (.int (i / j)) := px_oC op_fdiv ha hb hc
theorem px_adds {t u : Str} (ha : PX X ρ false a (.str t)) (hb : PX X ρ false b (.str u)) (hl : t.length + u.length ≤ 1000000) : PX X ρ s (.BinOp a .Add b pos) (.str (t ++ u)) := PEimp (pe_op op_add_str ha hb) fun σ H Q ⟨C, hh, q⟩ =>
  ⟨C, hh, fun v H1 e1 g1 => ⟨C, hh.ex e1, fun w H2 e2 g2 => ⟨t, u, g1, g2, sz_of hl, q _ H2 (e1.trans e2) rfl⟩⟩⟩
theorem px_neg (ha : PX X ρ false a (.int i)) : PX X ρ s (.UnaryOp .USub a pos) (.int (-i)) := PEimp (pe_un un_neg ha) fun σ H Q ⟨C, hh, q⟩ =>
  ⟨C, hh, fun v H1 e1 g1 => ⟨i, g1, q _ H1 e1 rfl⟩⟩
/-! ### comparisons, as values -/
theorem px_cI {g : Int → Int → Bool} (ho : OpR X (compareOp cop) (rI0 fun i j => .bl (g i j))) (ha : PX X ρ false a (.int i)) (hb : PX X ρ false b (.int j)) (hm : behindInMarks cop b = false) : PX X ρ s (.Compare a [cop] [b] pos) (.bool (g i j)) := PEimp (pe_cmpR ho ha hb hm) fun σ H Q ⟨C, hh, q⟩ =>
  ⟨C, hh, fun v H1 e1 g1 => ⟨C, hh.ex e1, fun w H2 e2 g2 => ⟨i, j, g1, g2, q _ H2 (e1.trans e2) rfl⟩⟩⟩
theorem px_lt (ha : PX X ρ false a (.int i)) (hb : PX X ρ false b (.int j)) : PX X ρ s (.Compare a [.Lt] [b] pos) (.bool (decide (i < j))) := px_cI op_lt ha hb (nomark _)
theorem px_gt (ha : PX X ρ false a (.int i)) (hb : PX X ρ false b (.int j)) : PX X ρ s (.Compare a [.Gt] [b] pos) (.bool (decide (j < i))) := px_cI op_gt ha hb (nomark _)
theorem px_ge (ha : PX X ρ false a (.int i)) (hb : PX X ρ false b (.int j)) : PX X ρ s (.Compare a [.GtE] [b] pos) (.bool (decide (j ≤ i))) := px_cI op_ge ha hb (nomark _)
theorem px_eqI (ha : PX X ρ false a (.int i)) (hb : PX X ρ false b (.int j)) : PX X ρ s (.Compare a [.Eq] [b] pos) (.bool (decide (i = j))) := PEimp (pe_cmpR op_eq ha hb (nomark _)) fun σ H Q ⟨C, hh, q⟩ =>
  ⟨C, hh, fun v H1 e1 g1 => ⟨C, hh.ex e1, fun w H2 e2 g2 => by
    have g1' : v = .int i := g1
    have g2' : w = .int j := g2
    subst g1' g2'
    refine ⟨rfl, q _ H2 (e1.trans e2) ?_⟩
    show V.bl _ = V.bl _
    congr 1
    by_cases z : i = j
    · rw [decide_eq_true z, z, decide_eq_true rfl]
    · rw [decide_eq_false z, decide_eq_false (fun w => z (V.int.inj w))]⟩⟩
/-- == of data at any depth -/
theorem px_eqD (hu : X.A.units + 64 < cLine) (ha : PX X ρ false a x) (hb : PX X ρ false b y) (hx : okD x = true) (hy : okD y = true) : PX X ρ s (.Compare a [.Eq] [b] pos) (.bool (PyData.eqv x y)) := PEimp (pe_cmpR (op_eqD hu) ha hb (nomark _)) fun σ H Q ⟨C, hh, q⟩ =>
  ⟨C, hh, fun v H1 e1 g1 => ⟨C, hh.ex e1, fun w H2 e2 g2 => ⟨x, y, Is.dp (okD_f hx) (Is.ex e2 g1), Is.dp (okD_f hy) g2, okD_s hx, okD_s hy, q _ H2 (e1.trans e2) rfl⟩⟩⟩
theorem px_neD (hu : X.A.units + 64 < cLine) (ha : PX X ρ false a x) (hb : PX X ρ false b y) (hx : okD x = true) (hy : okD y = true) : PX X ρ s (.Compare a [.NotEq] [b] pos) (.bool (!PyData.eqv x y)) := PEimp (pe_cmpR (op_neD hu) ha hb (nomark _)) fun σ H Q ⟨C, hh, q⟩ =>
  ⟨C, hh, fun v H1 e1 g1 => ⟨C, hh.ex e1, fun w H2 e2 g2 => ⟨x, y, Is.dp (okD_f hx) (Is.ex e2 g1), Is.dp (okD_f hy) g2, okD_s hx, okD_s hy, q _ H2 (e1.trans e2) rfl⟩⟩⟩
/-! ### tests -/
theorem pt_px {c : Bool} (h : PX X ρ s e (.bool c)) (he : ∀ whole, isTrue e X.env whole = (do let v ← whole; standAt e.pos; holding [v] (truthy v)) := by intro _; rfl) : PXt X ρ e c := PTimp (pt_val h he) fun σ H Q ⟨C, hh, q⟩ =>
  ⟨C, hh, fun v H1 e1 g1 => ⟨c, g1, q H1 e1⟩⟩
theorem pt_cI {g : Int → Int → Bool} (ho : OpR X (compareOp cop) (rI0 fun i j => .bl (g i j))) (ha : PX X ρ false a (.int i)) (hb : PX X ρ false b (.int j)) (hm : behindInMarks cop b = false) : PXt X ρ (.Compare a [cop] [b] pos) (g i j) := PTimp (pt_cmpR ho ha hb hm) fun σ H Q ⟨C, hh, q⟩ =>
  ⟨C, hh, fun v H1 e1 g1 => ⟨C, hh.ex e1, fun w H2 e2 g2 => ⟨i, j, g1, g2, _, rfl, q H2 (e1.trans e2)⟩⟩⟩
theorem pt_lt (ha : PX X ρ false a (.int i)) (hb : PX X ρ false b (.int j)) : PXt X ρ (.Compare a [.Lt] [b] pos) (decide (i < j)) := pt_cI op_lt ha hb (nomark _)
theorem pt_gt (ha : PX X ρ false a (.int i)) (hb : PX X ρ false b (.int j)) : PXt X ρ (.Compare a [.Gt] [b] pos) (decide (j < i)) := pt_cI op_gt ha hb (nomark _)
theorem pt_ge (ha : PX X ρ false a (.int i)) (hb : PX X ρ false b (.int j)) : PXt X ρ (.Compare a [.GtE] [b] pos) (decide (j ≤ i)) := pt_cI op_ge ha hb (nomark _)
theorem scal_dec {i j : Int} : decide (V.int i = V.int j) = decide (i = j) := by
  by_cases z : i = j
  · rw [decide_eq_true z, z, decide_eq_true rfl]
  · rw [decide_eq_false z, decide_eq_false (fun w => z (V.int.inj w))]
theorem pt_eqI (ha : PX X ρ false a (.int i)) (hb : PX X ρ false b (.int j)) : PXt X ρ (.Compare a [.Eq] [b] pos) (decide (i = j)) := PTimp (pt_cmpR op_eq ha hb (nomark _)) fun σ H Q ⟨C, hh, q⟩ =>
  ⟨C, hh, fun v H1 e1 g1 => ⟨C, hh.ex e1, fun w H2 e2 g2 => by
    have g1' : v = .int i := g1
    have g2' : w = .int j := g2
    subst g1' g2'
    exact ⟨rfl, _, rfl, by rw [scal_dec]; exact q H2 (e1.trans e2)⟩⟩⟩
theorem pt_neI (ha : PX X ρ false a (.int i)) (hb : PX X ρ false b (.int j)) : PXt X ρ (.Compare a [.NotEq] [b] pos) (!decide (i = j)) := PTimp (pt_cmpR op_ne ha hb (nomark _)) fun σ H Q ⟨C, hh, q⟩ =>
  ⟨C, hh, fun v H1 e1 g1 => ⟨C, hh.ex e1, fun w H2 e2 g2 => by
    have g1' : v = .int i := g1
    have g2' : w = .int j := g2
    subst g1' g2'
    exact ⟨rfl, _, rfl, by rw [scal_dec]; exact q H2 (e1.trans e2)⟩⟩⟩
theorem pt_neS {t u : Str} (ha : PX X ρ false a (.str t)) (hb : PX X ρ false b (.str u)) : PXt X ρ (.Compare a [.NotEq] [b] pos) (!decide (t = u)) := PTimp (pt_cmpR op_ne ha hb (nomark _)) fun σ H Q ⟨C, hh, q⟩ =>
  ⟨C, hh, fun v H1 e1 g1 => ⟨C, hh.ex e1, fun w H2 e2 g2 => by
    have g1' : v = .str t := g1
    have g2' : w = .str u := g2
    subst g1' g2'
    refine ⟨rfl, _, rfl, ?_⟩
    have z : decide (V.str t = V.str u) = decide (t = u) := by
      by_cases z : t = u
      · rw [decide_eq_true z, z, decide_eq_true rfl]
      · rw [decide_eq_false z, decide_eq_false (fun w => z (V.str.inj w))]
    rw [z]
    exact q H2 (e1.trans e2)⟩⟩
theorem pt_eqS {t u : Str} (ha : PX X ρ false a (.str t)) (hb : PX X ρ false b (.str u)) : PXt X ρ (.Compare a [.Eq] [b] pos) (decide (t = u)) := PTimp (pt_cmpR op_eq ha hb (nomark _)) fun σ H Q ⟨C, hh, q⟩ =>
  ⟨C, hh, fun v H1 e1 g1 => ⟨C, hh.ex e1, fun w H2 e2 g2 => by
    have g1' : v = .str t := g1
    have g2' : w = .str u := g2
    subst g1' g2'
    refine ⟨rfl, _, rfl, ?_⟩
    have z : decide (V.str t = V.str u) = decide (t = u) := by
      by_cases z : t = u
      · rw [decide_eq_true z, z, decide_eq_true rfl]
      · rw [decide_eq_false z, decide_eq_false (fun w => z (V.str.inj w))]
    rw [z]
    exact q H2 (e1.trans e2)⟩⟩
theorem pt_neD (hu : X.A.units + 64 < cLine) (ha : PX X ρ false a x) (hb : PX X ρ false b y) (hx : okD x = true) (hy : okD y = true) : PXt X ρ (.Compare a [.NotEq] [b] pos) (!PyData.eqv x y) := PTimp (pt_cmpR (op_neD hu) ha hb (nomark _)) fun σ H Q ⟨C, hh, q⟩ =>
  ⟨C, hh, fun v H1 e1 g1 => ⟨C, hh.ex e1, fun w H2 e2 g2 => ⟨x, y, Is.dp (okD_f hx) (Is.ex e2 g1), Is.dp (okD_f hy) g2, okD_s hx, okD_s hy, _, rfl, q H2 (e1.trans e2)⟩⟩⟩
theorem pt_not {c : Bool} (h : PXt X ρ e c) (pos : Pos) : PXt X ρ (.UnaryOp .Not e pos) (!c) := PTimp (L2.pt_not h) fun σ H Q ⟨C, hh, q⟩ => ⟨C, hh, fun H1 e1 => q H1 e1⟩
/-- an and, an or of two tests; the second one is only asked where it must be -/
abbrev PXw (X : Cx) (ρ : Rho) (e : Expr) (b : Bool) : Prop := PW X e (tDt ρ b)
theorem PWimp {t t' : TT} (h : PW X e t) (w : ∀ σ H Q, t' σ H Q → t σ H Q) : PW X e t' := ⟨fun wh pins s σ H Q I q => h.run wh pins s σ H Q I (w σ H Q q)⟩
theorem pw_an1 {c : Bool} (h : PXt X ρ a c) : PXw X ρ (.BoolOp .And [a] pos) c := pw_and1 h
theorem pw_o1 {c : Bool} (h : PXt X ρ a c) : PXw X ρ (.BoolOp .Or [a] pos) c := pw_or1 h
theorem pw_an {c d : Bool} {rest : List Expr} (h : PXt X ρ a c) (g : c = true → PXw X ρ (.BoolOp .And (b :: rest) pos) d) : PXw X ρ (.BoolOp .And (a :: b :: rest) pos) (c && d) := by
  cases c with
  | true =>
    refine PWimp (pw_and h (g rfl)) fun σ H Q ⟨C, hh, q⟩ => ⟨C, hh, fun H1 e1 => ?_⟩
    show (if true = true then _ else _)
    rw [if_pos rfl]
    exact ⟨C, hh.ex e1, fun H2 e2 => q H2 (e1.trans e2)⟩
  | false =>
    have nv : PW X (.BoolOp .And (b :: rest) pos) (fun _ _ _ => False) := ⟨fun _ _ _ _ _ _ _ z => z.elim⟩
    refine PWimp (pw_and h nv) fun σ H Q ⟨C, hh, q⟩ => ⟨C, hh, fun H1 e1 => ?_⟩
    show (if false = true then _ else _)
    rw [if_neg Bool.false_ne_true]
    exact q H1 e1
theorem pw_o {c d : Bool} {rest : List Expr} (h : PXt X ρ a c) (g : c = false → PXw X ρ (.BoolOp .Or (b :: rest) pos) d) : PXw X ρ (.BoolOp .Or (a :: b :: rest) pos) (c || d) := by
  cases c with
  | false =>
    refine PWimp (pw_or h (g rfl)) fun σ H Q ⟨C, hh, q⟩ => ⟨C, hh, fun H1 e1 => ?_⟩
    show (if false = true then _ else _)
    rw [if_neg Bool.false_ne_true]
    exact ⟨C, hh.ex e1, fun H2 e2 => q H2 (e1.trans e2)⟩
  | true =>
    have nv : PW X (.BoolOp .Or (b :: rest) pos) (fun _ _ _ => False) := ⟨fun _ _ _ _ _ _ _ z => z.elim⟩
    refine PWimp (pw_or h nv) fun σ H Q ⟨C, hh, q⟩ => ⟨C, hh, fun H1 e1 => ?_⟩
    show (if true = true then _ else _)
    rw [if_pos rfl]
    exact q H1 e1
theorem pt_w {c : Bool} (h : PXw X ρ e c) : PXt X ρ e c := PW.pt h
theorem px_if {c : Expr} {d : Bool} (hc : PXt X ρ c d) (ha : d = true → PX X ρ s a x) (hb : d = false → PX X ρ s b x) : PX X ρ s (.IfExp c a b pos) x := by
  have nv : ∀ e, PE X e (fun _ _ _ => False) := fun e => ⟨fun _ _ _ _ _ _ z => z.elim⟩
  cases d with
  | true =>
    refine PEimp (pe_ifExp hc (ha rfl) (nv b)) fun σ H Q ⟨C, hh, q⟩ => ⟨C, hh, fun H1 e1 => ?_⟩
    show (if true = true then _ else _)
    rw [if_pos rfl]
    exact ⟨C, hh.ex e1, fun v H2 e2 g => q v H2 (e1.trans e2) g⟩
  | false =>
    refine PEimp (pe_ifExp hc (nv a) (hb rfl)) fun σ H Q ⟨C, hh, q⟩ => ⟨C, hh, fun H1 e1 => ?_⟩
    show (if false = true then _ else _)
    rw [if_neg Bool.false_ne_true]
    exact ⟨C, hh.ex e1, fun v H2 e2 g => q v H2 (e1.trans e2) g⟩
/-! ### subscripts, len, list(), tuple() -/
theorem atI_all {M : Ad} {ds : List PyData} {vs : List V} {k : Int} (h : IsAll M H ds vs) (e : atI ds k = some x) : ∃ v, atI vs k = some v ∧ Is M H x v := by
  unfold atI at e ⊢
  rw [← h.length]
  cases q : ixN ds.length k with
  | none =>
    rw [q] at e
    cases e
  | some j =>
    rw [q] at e
    exact h.get e
theorem px_ixT {ds : List PyData} (ha : PX X ρ s a (.tuple ds)) (hb : PX X ρ false b (.int i)) (hx : atI ds i = some x) (hs : PlainIx b := by exact fun _ _ => rfl) : PX X ρ s (.Subscript a b pos) x := PEimp (pe_ix ix_tup ha hb hs) fun σ H Q ⟨C, hh, q⟩ =>
  ⟨C, hh, fun v H1 e1 ⟨p, vs, g1, g2, g3, g4⟩ => ⟨C, hh.ex e1, fun w H2 e2 gw => by
    obtain ⟨u, h1, h2⟩ := atI_all (IsAll.ex e2 g4) hx
    exact ⟨p, vs, i, u, g1, gw, SqT.of (e2 _ _ g3), h1, q u H2 (e1.trans e2) h2⟩⟩⟩
theorem px_ixL {ds : List PyData} (ha : PX X ρ s a (.list ds)) (hb : PX X ρ false b (.int i)) (hx : atI ds i = some x) (hs : PlainIx b := by exact fun _ _ => rfl) : PX X ρ s (.Subscript a b pos) x := PEimp (pe_ix ix_list ha hb hs) fun σ H Q ⟨C, hh, q⟩ =>
  ⟨C, hh, fun v H1 e1 ⟨p, vs, g1, g2, g3, g4⟩ => ⟨C, hh.ex e1, fun w H2 e2 gw => by
    obtain ⟨u, h1, h2⟩ := atI_all (IsAll.ex e2 g4) hx
    exact ⟨p, vs, i, u, g1, gw, SqL.of (e2 _ _ g3), h1, q u H2 (e1.trans e2) h2⟩⟩⟩
/-- an item of a list that the slot holds -/
theorem px_ixO (k : Nat) {nm : Str} {l : Bool} {ds : List PyData} {p1 : Pos} (hk : ρ[k]? = some (some (.o l (oL ds)))) (hb : PX X ρ false b (.int i)) (hx : atI ds i = some x) (hs : PlainIx b := by exact fun _ _ => rfl) (hN : X.N[k]? = some nm := by rfl)
    (hv : Vis X.env.scope nm := by first | exact Or.inl rfl | exact Or.inr (Or.inl rfl) | exact Or.inr (Or.inr rfl)) (hd : (nm == ("__debug__" : Str)) = false := by decide)
    (hcd : (nm == ("__classdict__" : Str)) = false := by decide) : PX X ρ s (.Subscript (.Name nm p1) b pos) x := PEimp (pe_ix ix_list (pe_var hN hv hd hcd) hb hs) fun σ H Q ⟨C, hh, q⟩ => by
  obtain ⟨p, e1, ⟨vs, g1, g2⟩, _⟩ := hh.own k l _ hk
  refine ⟨.ref p, e1, C, hh, fun w H2 e2 gw => ?_⟩
  obtain ⟨u, h1, h2⟩ := atI_all (IsAll.ex e2 g2) hx
  exact ⟨p, vs, i, u, rfl, gw, SqL.of (e2 _ _ g1), h1, q u H2 e2 h2.wk⟩
theorem px_lenT {nm : Str} {ds : List PyData} (hg : Gl X nm) (hm : X.mg nm = none) (hv : bootBuiltins nm = some (.builtin "len")) (ha : PX X ρ false a (.tuple ds)) (hn : nm ≠ "__name__" := by decide) (hdb : (nm == ("__debug__" : Str)) = false := by decide) (he : starEach [a] X.env = (false, eval a X.env) :: starEach [] X.env := by rfl) (hpl : (backTo pos (starEach [] X.env)).any (·.1) = false := by rfl) :
    PX X ρ s (.Call (.Name nm p) [a] [] pos) (.int ds.length) := PEimp (pe_callB call_len_seq hg hm hv (pa_cons ha pa_nil he) hn hdb he hpl) fun σ H Q ⟨C, hh, q⟩ =>
  ⟨C, hh, fun v H1 e1 ⟨pp, vs, g1, g2, g3, g4⟩ => ⟨pp, vs, by rw [g1], .inr (SqT.of g3), q _ H1 e1 (by show V.int _ = V.int _; rw [g4.length])⟩⟩
theorem px_lenL {nm : Str} {ds : List PyData} (hg : Gl X nm) (hm : X.mg nm = none) (hv : bootBuiltins nm = some (.builtin "len")) (ha : PX X ρ false a (.list ds)) (hn : nm ≠ "__name__" := by decide) (hdb : (nm == ("__debug__" : Str)) = false := by decide) (he : starEach [a] X.env = (false, eval a X.env) :: starEach [] X.env := by rfl) (hpl : (backTo pos (starEach [] X.env)).any (·.1) = false := by rfl) :
    PX X ρ s (.Call (.Name nm p) [a] [] pos) (.int ds.length) := PEimp (pe_callB call_len_seq hg hm hv (pa_cons ha pa_nil he) hn hdb he hpl) fun σ H Q ⟨C, hh, q⟩ =>
  ⟨C, hh, fun v H1 e1 ⟨pp, vs, g1, g2, g3, g4⟩ => ⟨pp, vs, by rw [g1], .inl (SqL.of g3), q _ H1 e1 (by show V.int _ = V.int _; rw [g4.length])⟩⟩
/-- tuple(a list) -/
theorem px_tupL {nm : Str} {ds : List PyData} (hg : Gl X nm) (hm : X.mg nm = none) (hv : bootBuiltins nm = some (.type "tuple")) (ha : PX X ρ s a (.list ds)) (hn : nm ≠ "__name__" := by decide) (hdb : (nm == ("__debug__" : Str)) = false := by decide) (he : starEach [a] X.env = (false, eval a X.env) :: starEach [] X.env := by rfl) (hpl : (backTo pos (starEach [] X.env)).any (·.1) = false := by rfl) :
    PX X ρ s (.Call (.Name nm p) [a] [] pos) (.tuple ds) := PEimp (pe_callTy call_tuple_of hg hm hv (pa_cons ha pa_nil he) hn hdb he hpl) fun σ H Q ⟨C, hh, q⟩ =>
  ⟨C, hh, fun v H1 e1 ⟨pp, vs, g1, g2, g3, g4⟩ => ⟨pp, vs, by rw [g1], .inl ⟨SqL.of g3, fun l hl => q _ _ (e1.trans (Ex.new hl)) ⟨l, vs, rfl, wk_fresh hh (e1.back hl), upd_same, IsAll.ex (Ex.new hl) g4⟩⟩⟩⟩
theorem px_tupT {nm : Str} {ds : List PyData} (hg : Gl X nm) (hm : X.mg nm = none) (hv : bootBuiltins nm = some (.type "tuple")) (ha : PX X ρ s a (.tuple ds)) (hn : nm ≠ "__name__" := by decide) (hdb : (nm == ("__debug__" : Str)) = false := by decide) (he : starEach [a] X.env = (false, eval a X.env) :: starEach [] X.env := by rfl) (hpl : (backTo pos (starEach [] X.env)).any (·.1) = false := by rfl) :
    PX X ρ s (.Call (.Name nm p) [a] [] pos) (.tuple ds) := PEimp (pe_callTy call_tuple_of hg hm hv (pa_cons ha pa_nil he) hn hdb he hpl) fun σ H Q ⟨C, hh, q⟩ =>
  ⟨C, hh, fun v H1 e1 ⟨pp, vs, g1, g2, g3, g4⟩ => ⟨pp, vs, by rw [g1], .inr ⟨SqT.of g3, q _ _ e1 ⟨pp, vs, rfl, g2, g3, g4⟩⟩⟩⟩
/-- list(a tuple) | list(a list) -/
theorem px_lstT {nm : Str} {ds : List PyData} (hg : Gl X nm) (hm : X.mg nm = none) (hv : bootBuiltins nm = some (.type "list")) (ha : PX X ρ s a (.tuple ds)) (hn : nm ≠ "__name__" := by decide) (hdb : (nm == ("__debug__" : Str)) = false := by decide) (he : starEach [a] X.env = (false, eval a X.env) :: starEach [] X.env := by rfl) (hpl : (backTo pos (starEach [] X.env)).any (·.1) = false := by rfl) :
    PX X ρ s (.Call (.Name nm p) [a] [] pos) (.list ds) := PEimp (pe_callTy call_list_of hg hm hv (pa_cons ha pa_nil he) hn hdb he hpl) fun σ H Q ⟨C, hh, q⟩ =>
  ⟨C, hh, fun v H1 e1 ⟨pp, vs, g1, g2, g3, g4⟩ => ⟨pp, vs, by rw [g1], .inr (SqT.of g3), fun l hl => q _ _ (e1.trans (Ex.new hl)) ⟨l, vs, rfl, wk_fresh hh (e1.back hl), upd_same, IsAll.ex (Ex.new hl) g4⟩⟩⟩
theorem px_lstL {nm : Str} {ds : List PyData} (hg : Gl X nm) (hm : X.mg nm = none) (hv : bootBuiltins nm = some (.type "list")) (ha : PX X ρ s a (.list ds)) (hn : nm ≠ "__name__" := by decide) (hdb : (nm == ("__debug__" : Str)) = false := by decide) (he : starEach [a] X.env = (false, eval a X.env) :: starEach [] X.env := by rfl) (hpl : (backTo pos (starEach [] X.env)).any (·.1) = false := by rfl) :
    PX X ρ s (.Call (.Name nm p) [a] [] pos) (.list ds) := PEimp (pe_callTy call_list_of hg hm hv (pa_cons ha pa_nil he) hn hdb he hpl) fun σ H Q ⟨C, hh, q⟩ =>
  ⟨C, hh, fun v H1 e1 ⟨pp, vs, g1, g2, g3, g4⟩ => ⟨pp, vs, by rw [g1], .inl (SqL.of g3), fun l hl => q _ _ (e1.trans (Ex.new hl)) ⟨l, vs, rfl, wk_fresh hh (e1.back hl), upd_same, IsAll.ex (Ex.new hl) g4⟩⟩⟩
end
end Bf
set_option Elab.async false
set_option linter.all false
set_option maxRecDepth 100000
set_option maxHeartbeats 4000000
namespace Bf
open PySem PySem.Spec PyProof.Rows L2
/-! ### one of many -/
section
variable {X : Cx} {e : Expr} {es : List Expr} {st : Stmt} {sts : List Stmt} {ι : Type}
theorem pe_ex {P : ι → Prop} {t : ι → TE} (h : ∀ i, P i → PE X e (t i)) : PE X e (fun σ H Q => ∃ i, P i ∧ t i σ H Q) := ⟨fun pins s σ H Q I ⟨i, p, q⟩ => (h i p).run pins s σ H Q I q⟩
theorem pss_ex {P : ι → Prop} {t : ι → TS} (h : ∀ i, P i → PSs X sts (t i)) : PSs X sts (fun D σ H => ∃ i, P i ∧ t i D σ H) := ⟨fun pins s σ H Q I ⟨i, p, q⟩ => (h i p).run pins s σ H Q I q⟩
theorem pg_ex {tg : Expr} {P : ι → Prop} {t : ι → TG} (h : ∀ i, P i → PG X tg (t i)) : PG X tg (fun v σ H Q => ∃ i, P i ∧ t i v σ H Q) := ⟨fun pins s σ H v u Q I r ⟨i, p, q⟩ => (h i p).run pins s σ H v u Q I r q⟩
theorem PSimp {t t' : TS} (h : PS X st t) (w : ∀ D σ H, t' D σ H → t D σ H) : PS X st t' := ⟨fun pins s σ H D I q => h.run pins s σ H D I (w D σ H q)⟩
theorem PSsimp {t t' : TS} (h : PSs X sts t) (w : ∀ D σ H, t' D σ H → t D σ H) : PSs X sts t' := ⟨fun pins s σ H D I q => h.run pins s σ H D I (w D σ H q)⟩
theorem PGimp {tg : Expr} {t t' : TG} (h : PG X tg t) (w : ∀ v σ H Q, t' v σ H Q → t v σ H Q) : PG X tg t' := ⟨fun pins s σ H v u Q I r q => h.run pins s σ H v u Q I r (w v σ H Q q)⟩
theorem PGsimp {t t' : TGs} (h : PGs X es t) (w : ∀ v σ H Q, t' v σ H Q → t v σ H Q) : PGs X es t' := ⟨fun pins s σ H v u Q I r q => h.run pins s σ H v u Q I r (w v σ H Q q)⟩
theorem PIimp {tg : Expr} {t t' : TI} (h : PI X tg e t) (w : ∀ σ H R, t' σ H R → t σ H R) : PI X tg e t' := ⟨fun pins s σ H R I q => h.run pins s σ H R I (w σ H R q)⟩
theorem pe_never : PE X e (fun _ _ _ => False) := ⟨fun _ _ _ _ _ _ z => z.elim⟩
end
/-! ### what is walked -/
/-- the items of J are the data ds, while what may not change stands -/
def WalkOk (J : It) (W : Ad) (ds : List PyData) (H : Hp) : Prop := ∀ (H1 : Hp) (W' : Ad), (∀ a, W' a → H1 a ≠ none) → (∀ a, W' a → H a ≠ none → W a) → Fr W' H H1 → (∀ (i : Nat) d, ds[i]? = some d → J.go i H1 ∧ ∀ x H2, J.yld i H1 x H2 → Ex H1 H2 ∧ Is W' H2 d x) ∧ J.stop ds.length H1
def wD (ρ : Rho) (ds : List PyData) : TI := fun σ H R => ∃ C, Holds C ρ σ H ∧ ∀ J H', Ex H H' → WalkOk J (All C ρ σ) ds H' → R J H'
abbrev PIW (X : Cx) (tg e : Expr) (ρ : Rho) (ds : List PyData) : Prop := PI X tg e (wD ρ ds)
section
variable {X : Cx} {tg e a b : Expr} {ρ : Rho} {ds : List PyData} {p pos : Pos}
theorem piw_L (h : PX X ρ true e (.list ds)) : PIW X tg e ρ ds := PIimp (pi_list h) fun σ H R ⟨C, hh, q⟩ =>
  ⟨C, hh, fun v H1 e1 ⟨p, vs, g1, g2, g3, g4⟩ => ⟨p, g1, ⟨vs, SqL.of g3⟩, q _ H1 e1 fun H2 W' _ ww fr => by
    have st : H2 p = some (.lst vs) := fr p _ g3 fun m => g2 ⟨rfl, ww p m (ne_none g3)⟩
    refine ⟨fun i d hd => ?_, ⟨vs, SqL.of st, by rw [g4.length]; exact Nat.le_refl _⟩⟩
    obtain ⟨v', h1, h2⟩ := (IsAll.ofT g4).get hd
    refine ⟨⟨vs, v', SqL.of st, h1⟩, fun x H3 ⟨ee, y⟩ => ?_⟩
    subst ee
    have z := y vs (SqL.of st)
    rw [h1] at z
    cases z
    exact ⟨Ex.refl _, Is.fr fr (Is.weak ww h2)⟩⟩⟩
theorem piw_T (h : PX X ρ true e (.tuple ds)) : PIW X tg e ρ ds := PIimp (pi_tup h) fun σ H R ⟨C, hh, q⟩ =>
  ⟨C, hh, fun v H1 e1 ⟨p, vs, g1, g2, g3, g4⟩ => ⟨p, g1, ⟨vs, SqT.of g3⟩, q _ H1 e1 fun H2 W' _ ww fr => by
    have st : H2 p = some (.tup vs) := fr p _ g3 fun m => g2 ⟨rfl, ww p m (ne_none g3)⟩
    refine ⟨fun i d hd => ?_, ⟨vs, SqT.of st, by rw [g4.length]; exact Nat.le_refl _⟩⟩
    obtain ⟨v', h1, h2⟩ := (IsAll.ofT g4).get hd
    refine ⟨⟨vs, v', SqT.of st, h1⟩, fun x H3 ⟨ee, y⟩ => ?_⟩
    subst ee
    have z := y vs (SqT.of st)
    rw [h1] at z
    cases z
    exact ⟨Ex.refl _, Is.fr fr (Is.weak ww h2)⟩⟩⟩
/-- the numbers lo, lo + 1, .., n of them -/
def rngD (lo : Int) (n : Nat) : List PyData := (List.range n).map fun i : Nat => PyData.int (lo + (i : Int))
theorem walk_rng {W : Ad} {H : Hp} (lo : Int) (n : Nat) : WalkOk (Itr lo n) W (rngD lo n) H := fun H1 _ _ _ _ => by
  refine ⟨fun i d hd => ?_, ?_⟩
  · unfold rngD at hd
    rw [List.getElem?_map] at hd
    cases q : (List.range n)[i]? with
    | none =>
      rw [q] at hd
      cases hd
    | some k =>
      rw [q] at hd
      obtain ⟨h1, h2⟩ := List.getElem?_eq_some_iff.mp q
      rw [List.length_range] at h1
      rw [List.getElem_range] at h2
      refine ⟨h1, fun x H2 ⟨e1, e2⟩ => ?_⟩
      subst e1 e2 h2
      have hd' : PyData.int (lo + (i : Int)) = d := Option.some.inj hd
      subst hd'
      exact ⟨Ex.refl _, rfl⟩
  · show n ≤ (rngD lo n).length
    unfold rngD
    rw [List.length_map, List.length_range]
    exact Nat.le_refl _
theorem piw_r1 {n : Int} (hg : Gl X "range") (hm : X.mg "range" = none) (ha : PX X ρ false a (.int n)) (hn : -1000000000 ≤ n ∧ n ≤ 1000000000) (he : starEach [a] X.env = (false, eval a X.env) :: starEach [] X.env := by rfl) (hs : starEach [a] X.env = [(false, eval a X.env)] := by rfl) :
    PIW X tg (.Call (.Name "range" p) [a] [] pos) ρ (rngD 0 n.toNat) := PIimp (pi_range1 hg hm (pa_cons ha pa_nil he) hs) fun σ H R ⟨C, hh, q⟩ =>
  ⟨C, hh, fun v H1 e1 g => ⟨n, by rw [show v = .int n from g], by omega, by omega, q _ H1 e1 (walk_rng 0 _)⟩⟩
theorem piw_r2 {lo n : Int} (hg : Gl X "range") (hm : X.mg "range" = none) (ha : PX X ρ false a (.int lo)) (hb : PX X ρ false b (.int n)) (hn : (-1000000000 ≤ lo ∧ lo ≤ 1000000000) ∧ -1000000000 ≤ n ∧ n ≤ 1000000000)
    (he : starEach [a, b] X.env = (false, eval a X.env) :: starEach [b] X.env := by rfl) (he2 : starEach [b] X.env = (false, eval b X.env) :: starEach [] X.env := by rfl) (hs : starEach [a, b] X.env = [(false, eval a X.env), (false, eval b X.env)] := by rfl) (hs2 : starEach [b] X.env = [(false, eval b X.env)] := by rfl) :
    PIW X tg (.Call (.Name "range" p) [a, b] [] pos) ρ (rngD lo (n - lo).toNat) := PIimp (pi_range2 hg hm (pa_cons ha (pa_cons hb pa_nil he2) he) hs hs2) fun σ H R ⟨C, hh, q⟩ =>
  ⟨C, hh, fun v H1 e1 g => ⟨C, hh.ex e1, fun w H2 e2 g2 => ⟨lo, n, by rw [show v = .int lo from g, show w = .int n from g2], ⟨by omega, by omega, by omega, by omega⟩, q _ H2 (e1.trans e2) (walk_rng lo _)⟩⟩⟩
end
/-! ### targets -/
def isO : Option (Option SV) → Bool
  | some (some (.o _ _)) => true
  | _ => false
theorem isO_no {o : Option (Option SV)} (h : isO o = false) : ∀ l p, o ≠ some (some (SV.o l p)) := fun l p z => by
  rw [z] at h
  cases h
def noOwn (ρ : Rho) (vs : List Nat) : Bool := vs.all fun i => !isO ρ[i]?
theorem noOwn_ok {ρ : Rho} {vs : List Nat} (h : noOwn ρ vs = true) : ∀ i ∈ vs, isO ρ[i]? = false := fun i m => by
  have := List.all_eq_true.mp h i m
  cases q : isO ρ[i]? with
  | false => rfl
  | true =>
    rw [q] at this
    cases this
def within (ts vs : List Nat) : Bool := ts.all fun i => vs.contains i
theorem within_ok {ts vs : List Nat} (h : within ts vs = true) : ∀ i ∈ ts, i ∈ vs := fun i m => by
  have := List.all_eq_true.mp h i m
  exact List.contains_iff_mem.mp this
/-- d is taken: the slots ts get new data, ρ' holds -/
def gD (ts : List Nat) (ρ : Rho) (d : PyData) (ρ' : Rho) : TG := fun v σ H Q => ∃ C, Holds C ρ σ H ∧ Is (All C ρ σ) H d v ∧ ∀ σ', Holds C ρ' σ' H → (∀ a, All C ρ' σ' a ↔ All C ρ σ a) → σ'.length = σ.length → (∀ i, i ∉ ts → σ'[i]? = σ[i]?) → Q σ' H
def gDs (ts : List Nat) (ρ : Rho) (ds : List PyData) (ρ' : Rho) : TGs := fun vs σ H Q => ∃ C, Holds C ρ σ H ∧ IsAll (All C ρ σ) H ds vs ∧ ∀ σ', Holds C ρ' σ' H → (∀ a, All C ρ' σ' a ↔ All C ρ σ a) → σ'.length = σ.length → (∀ i, i ∉ ts → σ'[i]? = σ[i]?) → Q σ' H
abbrev PGD (X : Cx) (tg : Expr) (ts : List Nat) (ρ : Rho) (d : PyData) (ρ' : Rho) : Prop := PG X tg (gD ts ρ d ρ')
abbrev PGDs (X : Cx) (es : List Expr) (ts : List Nat) (ρ : Rho) (ds : List PyData) (ρ' : Rho) : Prop := PGs X es (gDs ts ρ ds ρ')
section
variable {X : Cx} {tg e : Expr} {es : List Expr} {ρ ρ1 ρ2 : Rho} {d : PyData} {ds : List PyData} {ts us : List Nat} {pos : Pos}
theorem gd_n (j : Nat) {x : Str} (nd : X.N.Nodup) (hj : isO ρ[j]? = false := by rfl) (hi : X.N[j]? = some x := by rfl) (hx : Loc X.env.scope x := by first | exact Or.inl rfl | exact Or.inr rfl)
    (hf : X.fn x = true ∨ X.env.scope.names.lookup x = some .local := by first | exact .inl rfl | exact .inr rfl) : PGD X (.Name x pos) [j] ρ d (ρ.set j (some (.d d))) := PGimp (pg_name nd hi hx hf) fun v σ H Q ⟨C, hh, g, q⟩ => by
  refine q (σ.set j (some v)) (hh.setD g fun p => isO_no hj false p) (fun a => all_set (isO_no hj) a) (List.length_set ..) fun i n => ?_
  exact set_other (fun z => n (by rw [z]; exact List.mem_singleton.mpr rfl))
theorem gds_nil : PGDs X [] [] ρ [] ρ := PGsimp pgs_nil fun vs σ H Q ⟨C, hh, g, q⟩ => by
  cases vs with
  | nil => exact ⟨rfl, q σ hh (fun _ => Iff.rfl) rfl fun _ _ => rfl⟩
  | cons v vs => exact g.elim
theorem gds_cons (h1 : PGD X e ts ρ d ρ1) (h2 : PGDs X es us ρ1 ds ρ2) (hs : (assignEach (e :: es) X.env).map (·.2) = assign e X.env :: (assignEach es X.env).map (·.2) := by rfl) : PGDs X (e :: es) (ts ++ us) ρ (d :: ds) ρ2 := PGsimp (pgs_cons h1 h2 hs) fun vs σ H Q ⟨C, hh, g, q⟩ => by
  cases vs with
  | nil => exact g.elim
  | cons v vs =>
    refine ⟨v, vs, rfl, C, hh, g.1, fun σ' h' eq l' o' => ⟨C, h', IsAll.weak (fun a m _ => (eq a).mp m) g.2, fun σ2 h2 eq2 l2 o2 => q σ2 h2 (fun a => (eq2 a).trans (eq a)) (l2.trans l') fun i n => ?_⟩⟩
    rw [o2 i fun z => n (List.mem_append_right _ z), o' i fun z => n (List.mem_append_left _ z)]
theorem gd_t {k : Nat} (hc : X.calm = true) (h : PGDs X es ts ρ ds ρ1) (hn : (assignEach es X.env).length = ds.length := by rfl) (hst : (assignEach es X.env).findIdx? (·.1) = none := by rfl) : PGD X (.Tuple es k pos) ts ρ (.tuple ds) ρ1 := PGimp (pg_tup hc h hn hst) fun v σ H Q ⟨C, hh, ⟨a, vs, g1, g2, g3, g4⟩, q⟩ =>
  ⟨a, vs, g1, SqT.of g3, g4.length.symm, C, hh, g4, q⟩
end
/-! ### comprehensions -/
theorem exD {H1 H : Hp} {D : Addr} {o : HO} (n : H1 D = none) (e : Ex H1 H) : Ex H1 (upd H D o) := fun a u h => by
  rw [upd_ne (ne_of_none h n)]
  exact e a u h
section
variable {X : Cx} {ρ : Rho} {s : Bool} {elt tg it : Expr} {scope : Scope} {own : List (Str × Nat)} {pos : Pos} {α : Type} {l : List α} {g f : α → PyData} {ts : List Nat} {ρt : α → Rho}
def Cn.add (C : Cn) (D : Addr) : Cn := { C with M0 := fun a => C.M0 a ∨ a = D }
theorem all_add {C : Cn} {ρ : Rho} {σ : L2.St} {D a : Addr} : All (C.add D) ρ σ a ↔ All C ρ σ a ∨ a = D := by
  constructor
  · rintro ((m | m) | m | m)
    · exact .inl (.inl m)
    · exact .inr m
    · exact .inl (.inr (.inl m))
    · exact .inl (.inr (.inr m))
  · rintro ((m | m | m) | m)
    · exact .inl (.inl m)
    · exact .inr (.inl m)
    · exact .inr (.inr m)
    · exact .inl (.inr m)
/-- a tracked object that nobody knows is added to what may change -/
theorem Holds.addM {C : Cn} {ρ : Rho} {σ : L2.St} {H H' : Hp} {D : Addr} (h : Holds C ρ σ H) (n : H D = none) (e : Ex H H') (t : H' D ≠ none) : Holds (C.add D) ρ σ H' where
  len := h.len
  dat := fun i x q => let ⟨v, h1, h2⟩ := h.dat i x q; ⟨v, h1, Is.ex e (Is.weak (fun a m k => (all_add.mp m).resolve_right fun z => k (by rw [z]; exact n)) h2)⟩
  own := fun i l p q => by
    obtain ⟨a, h1, h2, h3, h4⟩ := h.own i l p q
    refine ⟨a, h1, p.fr (p.weak h2 fun a m k => (all_add.mp m).resolve_right fun z => k (by rw [z]; exact n)) fun b o z _ => e b o z, ?_, h4⟩
    rintro (m | m)
    · exact h3 m
    · exact p.there h2 (by rw [m]; exact n)
  sep := h.sep
  fr := (h.ex e).fr
  m0 := fun a m => by
    rcases m with m | m
    · exact e.ne (h.m0 a m)
    · rw [m]
      exact t
  a0 := h.a0
  th := (h.ex e).th
  sn := fun W Hs z => ⟨((h.ex e).sn W Hs z).1, fun a m k => (all_add.mp m).elim (fun m => (h.sn W Hs z).2 a m k) fun w => by rw [w] at k ⊢; exact h.snew z n k⟩
/-- the turn's state in a comprehension: the new list at D holds the first i of ys -/
structure LcI (W : Ad) (H1 : Hp) (D : Addr) (ys : List PyData) (i : Nat) (H : Hp) : Prop where
  n : H1 D = none
  e : Ex H1 H
  l : ∃ vs, H D = some (.lst vs) ∧ IsAll (fun a => W a ∨ a = D) H (ys.take i) vs
theorem mem_at {l : List α} {i : Nat} {a : α} (h : l[i]? = some a) : a ∈ l := List.mem_of_getElem? h
theorem lc_read (hl : l.length ≤ 1000000) (hw : ∀ i ∈ own.map (·.2), isO ρ[i]? = false) (hts : ∀ i ∈ ts, i ∈ own.map (·.2)) {σ : L2.St} {H : Hp} {Q : VK} {C : Cn} (hh : Holds C ρ σ H) (q : ∀ D H' vs, H D = none → Ex H H' → H' D = some (.lst vs) → IsAll (fun a => All C ρ σ a ∨ a = D) H' (l.map f) vs → Q (.ref D) H') :
    tLc (wD ρ (l.map g)) (fun v σ H Q => ∃ a, a ∈ l ∧ gD ts (wipeR ρ (own.map (·.2))) (g a) (ρt a) v σ H Q) tYes (fun σ H Q => ∃ a, a ∈ l ∧ tD (ρt a) true (f a) σ H Q) (own.map (·.2)) σ H Q := by
  refine ⟨C, hh, fun J H1 e1 wk D nD => ?_⟩
  have hw' : ∀ i ∈ own.map (·.2), ∀ l p, ρ[i]? ≠ some (some (SV.o l p)) := fun i m => isO_no (hw i m)
  have wW : ∀ a, (All C ρ σ a ∨ a = D) → H1 a ≠ none → All C ρ σ a := fun a m k => m.resolve_right fun z => k (by rw [z]; exact nD)
  refine ⟨fun i m H' => m = l.length - i ∧ i ≤ l.length ∧ LcI (All C ρ σ) H1 D (l.map f) i H', ⟨l.length, by simp, Nat.zero_le _, nD, Ex.new nD, ⟨[], upd_same, by rw [List.take_zero]; exact True.intro⟩⟩, ?_⟩
  rintro i m H' ⟨rfl, hi, I⟩
  obtain ⟨k1, k2⟩ := wk H' (fun a => All C ρ σ a ∨ a = D) (fun a m => m.elim (fun m => I.e.ne (e1.ne (hh.allIn m))) fun m => by rw [m]; exact let ⟨_, z, _⟩ := I.l; ne_none z) wW (I.e.fr)
  by_cases lt : i < l.length
  · have ga : l[i]? = some l[i] := List.getElem?_eq_getElem lt
    have gd : (l.map g)[i]? = some (g l[i]) := by rw [List.getElem?_map, ga, Option.map_some]
    have gf : (l.map f)[i]? = some (f l[i]) := by rw [List.getElem?_map, ga, Option.map_some]
    obtain ⟨go, yl⟩ := k1 i _ gd
    refine .inr ⟨go, fun H2 => LcI (All C ρ σ) H1 D (l.map f) (i + 1) H2, fun H2 I2 => ⟨l.length - (i + 1), by omega, rfl, lt, I2⟩, fun x H2 y => ?_⟩
    obtain ⟨e2, isx⟩ := yl x H2 y
    have nH : H D = none := e1.back nD
    have exH : Ex H H2 := (e1.trans I.e).trans e2
    obtain ⟨vs, hv, iv⟩ := I.l
    have hv2 : H2 D = some (.lst vs) := e2 _ _ hv
    have hA : Holds (C.add D) ρ σ H2 := hh.addM nH exH (ne_none hv2)
    obtain ⟨hB, eB⟩ := hA.wipe (vs := own.map (·.2)) hw'
    have eAll : ∀ a, All (C.add D) (wipeR ρ (own.map (·.2))) (L2.wipe σ (own.map (·.2))) a ↔ All C ρ σ a ∨ a = D := fun a => (eB a).trans all_add
    refine ⟨l[i], mem_at ga, C.add D, hB, Is.weak (fun a m _ => (eAll a).mp m) isx, fun σ2 h2 eq2 l2 o2 => ⟨?_, ?_⟩⟩
    · refine wipe_eq (by rw [l2, L2.wipe_length]) fun j n => ?_
      rw [o2 j fun z => n (hts j z)]
      exact wipe_out' n
    · show ∃ a, a ∈ l ∧ tD (ρt a) true (f a) σ2 H2 (fun y H4 => ∃ acc, H4 D = some (HO.lst acc) ∧ acc.length < sizeLine ∧ LcI (All C ρ σ) H1 D (l.map f) (i + 1) (upd H4 D (.lst (acc ++ [y]))))
      refine ⟨l[i], mem_at ga, C.add D, h2, fun y' H4 e4 iy => ⟨vs, e4 _ _ hv2, ?_, nD, exD nD ((I.e.trans e2).trans e4), vs ++ [y'], upd_same, ?_⟩⟩
      · rw [← iv.length, List.length_take, List.length_map]
        exact sz_lt (by omega)
      · have fu : Fr (fun a => All C ρ σ a ∨ a = D) H4 (upd H4 D (.lst (vs ++ [y']))) := Fr.upd (.inr rfl)
        rw [List.take_add_one, gf]
        refine IsAll.append (IsAll.fr fu (IsAll.ex (e2.trans e4) iv)) (IsAll.one (Is.fr fu (Is.weak (fun a m _ => ?_) iy)))
        exact ⟨rfl, (eq2 a).mpr ((eAll a).mpr m)⟩
  · have e : i = l.length := by omega
    subst e
    rw [List.length_map] at k2
    obtain ⟨vs, hv, iv⟩ := I.l
    rw [List.take_of_length_le (by rw [List.length_map]; exact Nat.le_refl _)] at iv
    exact .inl ⟨k2, q D H' vs (e1.back nD) (e1.trans I.e) hv iv⟩
/-- [elt for tg in it], as data -/
theorem px_lc (hc : X.calm = true) (nd : X.N.Nodup) (ok : BlkOk X.N X.env.scope scope own) (hi : PIW X tg it ρ (l.map g)) (hl : l.length ≤ 1000000)
    (ht : ∀ a, a ∈ l → ∀ (s : Shared) (H : Hp) (C : Addr) (cl : List (Str × Addr)) (fp : List Addr), PGD (X.blk s H scope (compEnvC scope cl C X.env) fp) tg ts (wipeR ρ (own.map (·.2))) (g a) (ρt a))
    (he : ∀ a, a ∈ l → ∀ (s : Shared) (H : Hp) (C : Addr) (cl : List (Str × Addr)) (fp : List Addr), PX (X.blk s H scope (compEnvC scope cl C X.env) fp) (ρt a) true elt (f a)) (hw : noOwn ρ (own.map (·.2)) = true := by rfl) (hts : within ts (own.map (·.2)) = true := by rfl) (hs : ∀ x, foldedSetIterable it X.env x = pure x := by intro _; rfl) :
    PX X ρ s (.ListComp elt [⟨tg, it, [], 0⟩] scope pos) (.list (l.map f)) :=
  PEimp (pe_lc hc nd hi ok (fun s H C cl fp => pg_ex fun a m => ht a m s H C cl fp) (fun _ _ _ _ _ => pts_nil) (fun s H C cl fp => pe_ex fun a m => he a m s H C cl fp) hs) fun σ H Q ⟨C, hh, q⟩ =>
    lc_read hl (noOwn_ok hw) (within_ok hts) hh fun D H' vs n e hv iv => q _ H' e ⟨D, vs, rfl, wk_fresh hh n, hv, IsAll.weak (fun a m _ => .inl m.2) iv⟩
end
end Bf
set_option Elab.async false
set_option linter.all false
set_option maxRecDepth 100000
set_option maxHeartbeats 4000000
namespace Bf
open PySem PySem.Spec PyProof.Rows L2
/-! ### a new list -/
theorem IsAll.plus {W : Ad} {H : Hp} {p : Addr} {ds : List PyData} {vs : List V} (n : H p = none) (h : IsAll W H ds vs) : IsAll (fun a => W a ∨ a = p) H ds vs := IsAll.weak (fun a m k => m.resolve_right fun z => k (by rw [z]; exact n)) h
def tF (ρ : Rho) (ds : List PyData) : TE := fun σ H Q => ∃ C, Holds C ρ σ H ∧ ∀ p vs H', H p = none → Ex H H' → H' p = some (.lst vs) → IsAll (fun a => All C ρ σ a ∨ a = p) H' ds vs → Q (.ref p) H'
abbrev PXF (X : Cx) (ρ : Rho) (e : Expr) (ds : List PyData) : Prop := PE X e (tF ρ ds)
/-- one of many data -/
def tN (ρ : Rho) (s : Bool) (P : PyData → Prop) : TE := fun σ H Q => ∃ C, Holds C ρ σ H ∧ ∀ y v H', P y → Ex H H' → Is (Wk C ρ σ s) H' y v → Q v H'
abbrev PXN (X : Cx) (ρ : Rho) (s : Bool) (e : Expr) (P : PyData → Prop) : Prop := PE X e (tN ρ s P)
section
variable {X : Cx} {ρ : Rho} {s : Bool} {e a b elt tg it : Expr} {es : List Expr} {x y z : PyData} {xs ys ds : List PyData} {pos p apos : Pos} {C : Cn} {σ : L2.St} {H H' : Hp} {scope : Scope} {own : List (Str × Nat)} {α : Type} {l : List α} {g f : α → PyData} {ts : List Nat} {ρt : α → Rho} {P : PyData → Prop}
theorem px_F (h : PXF X ρ e ds) : PX X ρ s e (.list ds) := PEimp h fun σ H Q ⟨C, hh, q⟩ => ⟨C, hh, fun p vs H' n e hv iv => q _ H' e ⟨p, vs, rfl, wk_fresh hh n, hv, IsAll.weak (fun a m _ => .inl m.2) iv⟩⟩
theorem pf_eq (h : PXF X ρ e xs) (w : xs = ys) : PXF X ρ e ys := w ▸ h
theorem pf_lst (h : PXs X ρ true es xs) (hl : xs.length ≤ 1000000 := by first | decide | exact Nat.le_of_ble_eq_true rfl) : PXF X ρ (.List es pos) xs := PEimp (pe_lst h) fun σ H Q ⟨C, hh, q⟩ =>
  ⟨C, hh, fun vs H1 e1 g1 => ⟨by rw [← g1.length]; exact sz_of hl, fun p hp => q p vs _ (e1.back hp) (e1.trans (Ex.new hp)) upd_same (IsAll.ex (Ex.new hp) (g1.ofT.plus hp))⟩⟩
theorem pf_lc (hc : X.calm = true) (nd : X.N.Nodup) (ok : BlkOk X.N X.env.scope scope own) (hi : PIW X tg it ρ (l.map g)) (hl : l.length ≤ 1000000)
    (ht : ∀ a, a ∈ l → ∀ (s : Shared) (H : Hp) (C : Addr) (cl : List (Str × Addr)) (fp : List Addr), PGD (X.blk s H scope (compEnvC scope cl C X.env) fp) tg ts (wipeR ρ (own.map (·.2))) (g a) (ρt a))
    (he : ∀ a, a ∈ l → ∀ (s : Shared) (H : Hp) (C : Addr) (cl : List (Str × Addr)) (fp : List Addr), PX (X.blk s H scope (compEnvC scope cl C X.env) fp) (ρt a) true elt (f a)) (hw : noOwn ρ (own.map (·.2)) = true := by rfl) (hts : within ts (own.map (·.2)) = true := by rfl) (hs : ∀ x, foldedSetIterable it X.env x = pure x := by intro _; rfl) :
    PXF X ρ (.ListComp elt [⟨tg, it, [], 0⟩] scope pos) (l.map f) :=
  PEimp (pe_lc hc nd hi ok (fun s H C cl fp => pg_ex fun a m => ht a m s H C cl fp) (fun _ _ _ _ _ => pts_nil) (fun s H C cl fp => pe_ex fun a m => he a m s H C cl fp) hs) fun σ H Q ⟨C, hh, q⟩ =>
    lc_read hl (noOwn_ok hw) (within_ok hts) hh fun D H' vs n e hv iv => q D vs H' n e hv iv
theorem pf_lstT {nm : Str} (hg : Gl X nm) (hm : X.mg nm = none) (hv : bootBuiltins nm = some (.type "list")) (ha : PX X ρ true a (.tuple ds)) (hn : nm ≠ "__name__" := by decide) (hdb : (nm == ("__debug__" : Str)) = false := by decide) (he : starEach [a] X.env = (false, eval a X.env) :: starEach [] X.env := by rfl) (hpl : (backTo pos (starEach [] X.env)).any (·.1) = false := by rfl) :
    PXF X ρ (.Call (.Name nm p) [a] [] pos) ds := PEimp (pe_callTy call_list_of hg hm hv (pa_cons ha pa_nil he) hn hdb he hpl) fun σ H Q ⟨C, hh, q⟩ =>
  ⟨C, hh, fun v H1 e1 ⟨pp, vs, g1, g2, g3, g4⟩ => ⟨pp, vs, by rw [g1], .inr (SqT.of g3), fun l hl => q l vs _ (e1.back hl) (e1.trans (Ex.new hl)) upd_same (IsAll.ex (Ex.new hl) (g4.ofT.plus hl))⟩⟩
theorem pf_lstL {nm : Str} (hg : Gl X nm) (hm : X.mg nm = none) (hv : bootBuiltins nm = some (.type "list")) (ha : PX X ρ true a (.list ds)) (hn : nm ≠ "__name__" := by decide) (hdb : (nm == ("__debug__" : Str)) = false := by decide) (he : starEach [a] X.env = (false, eval a X.env) :: starEach [] X.env := by rfl) (hpl : (backTo pos (starEach [] X.env)).any (·.1) = false := by rfl) :
    PXF X ρ (.Call (.Name nm p) [a] [] pos) ds := PEimp (pe_callTy call_list_of hg hm hv (pa_cons ha pa_nil he) hn hdb he hpl) fun σ H Q ⟨C, hh, q⟩ =>
  ⟨C, hh, fun v H1 e1 ⟨pp, vs, g1, g2, g3, g4⟩ => ⟨pp, vs, by rw [g1], .inl (SqL.of g3), fun l hl => q l vs _ (e1.back hl) (e1.trans (Ex.new hl)) upd_same (IsAll.ex (Ex.new hl) (g4.ofT.plus hl))⟩⟩
/-- list + list -/
theorem pf_cat (ha : PX X ρ true a (.list xs)) (hb : PX X ρ true b (.list ys)) (hl : xs.length + ys.length ≤ 1000000) : PXF X ρ (.BinOp a .Add b pos) (xs ++ ys) := PEimp (pe_op op_cat ha hb) fun σ H Q ⟨C, hh, q⟩ =>
  ⟨C, hh, fun v H1 e1 ⟨p1, vs, g1, g2, g3, g4⟩ => ⟨C, hh.ex e1, fun w H2 e2 ⟨p2, ws, k1, k2, k3, k4⟩ => ⟨p1, p2, vs, ws, g1, k1, e2 _ _ g3, k3, by rw [← g4.length, ← k4.length]; exact sz_of hl, fun p hp =>
    q p _ _ (e1.back (e2.back hp)) ((e1.trans e2).trans (Ex.new hp)) upd_same (IsAll.ex (Ex.new hp) (IsAll.plus hp (IsAll.append (IsAll.ex e2 g4.ofT) k4.ofT)))⟩⟩⟩
/-- a list that the slot holds, a list of one's own beside it: x + [..] -/
theorem pf_catO (k : Nat) {nm : Str} {lc : Bool} {p1 : Pos} (hk : ρ[k]? = some (some (.o lc (oL xs)))) (hb : PX X ρ true b (.list ys)) (hl : xs.length + ys.length ≤ 1000000) (hN : X.N[k]? = some nm := by rfl)
    (hv : Vis X.env.scope nm := by first | exact Or.inl rfl | exact Or.inr (Or.inl rfl) | exact Or.inr (Or.inr rfl)) (hd : (nm == ("__debug__" : Str)) = false := by decide)
    (hcd : (nm == ("__classdict__" : Str)) = false := by decide) : PXF X ρ (.BinOp (.Name nm p1) .Add b pos) (xs ++ ys) := PEimp (pe_op op_cat (pe_var hN hv hd hcd) hb) fun σ H Q ⟨C, hh, q⟩ => by
  obtain ⟨p1, e1, ⟨vs, g1, g2⟩, _⟩ := hh.own k lc _ hk
  refine ⟨.ref p1, e1, C, hh, fun w H2 e2 ⟨p2, ws, k1, k2, k3, k4⟩ => ⟨p1, p2, vs, ws, rfl, k1, e2 _ _ g1, k3, by rw [← g2.length, ← k4.length]; exact sz_of hl, fun p hp => ?_⟩⟩
  exact q p _ _ (e2.back hp) (e2.trans (Ex.new hp)) upd_same (IsAll.ex (Ex.new hp) (IsAll.plus hp (IsAll.append (IsAll.ex e2 g2) k4.ofT)))
/-- [c] * n -/
theorem IsAll.rep {M : Ad} {H : Hp} {d : PyData} {v : V} (h : Is M H d v) : ∀ n : Nat, IsAll M H (List.replicate n d) (List.replicate n [v]).flatten
  | 0 => True.intro
  | n + 1 => ⟨h, IsAll.rep h n⟩
theorem pf_rep {n : Int} (ha : PX X ρ true a (.list [x])) (hb : PX X ρ false b (.int n)) (hn : 0 ≤ n ∧ n ≤ 1000000) : PXF X ρ (.BinOp a .Mult b pos) (List.replicate n.toNat x) := PEimp (pe_op op_rep ha hb) fun σ H Q ⟨C, hh, q⟩ =>
  ⟨C, hh, fun v H1 e1 ⟨p1, vs, g1, g2, g3, g4⟩ => ⟨C, hh.ex e1, fun w H2 e2 gw => by
    obtain ⟨u, rfl, iu⟩ : ∃ u, vs = [u] ∧ Is (Wk C ρ σ true) H1 x u := by
      cases vs with
      | nil => exact g4.elim
      | cons u us => cases us with
        | nil => exact ⟨u, rfl, g4.1⟩
        | cons _ _ => exact g4.2.elim
    refine ⟨p1, n, [u], g1, gw, e2 _ _ g3, by omega, by omega, ?_, fun p hp => ?_⟩
    · show 1 * n.toNat ≤ sizeLine
      exact sz_of (by omega)
    · exact q p _ _ (e1.back (e2.back hp)) ((e1.trans e2).trans (Ex.new hp)) upd_same (IsAll.ex (Ex.new hp) (IsAll.plus hp (IsAll.rep (Is.ex e2 iu.ofT) _)))⟩⟩
theorem px_n1 (h : PX X ρ s e x) : PXN X ρ s e (fun y => y = x) := PEimp h fun σ H Q ⟨C, hh, q⟩ => ⟨C, hh, fun v H' e1 g => q x v H' rfl e1 g⟩
theorem px_of (h : PXN X ρ s e P) (w : ∀ y, P y → y = x) : PX X ρ s e x := PEimp h fun σ H Q ⟨C, hh, q⟩ => ⟨C, hh, fun y v H' py e1 g => q v H' e1 (by rw [w y py] at g; exact g)⟩
end
/-! ### defs that change nothing -/
/-- arguments args i, where pre i holds; each result y of res i -/
def spP {ι : Type} (args : ι → List PyData) (pre : ι → Prop) (res : ι → PyData → Prop) : Sp := fun vs H Q _ => ∃ (M : Ad) (i : ι), (∀ a, M a → H a ≠ none) ∧ IsAll M H (args i) vs ∧ pre i ∧ ∀ y v H', res i y → Ex H H' → Is M H' y v → Q v H'
/-- the same, each result a new list -/
def spF {ι : Type} (args : ι → List PyData) (pre : ι → Prop) (res : ι → List PyData → Prop) : Sp := fun vs H Q _ => ∃ (M : Ad) (i : ι), (∀ a, M a → H a ≠ none) ∧ IsAll M H (args i) vs ∧ pre i ∧ ∀ ds p us H', res i ds → H p = none → Ex H H' → H' p = some (.lst us) → IsAll (fun a => M a ∨ a = p) H' ds us → Q (.ref p) H'
structure Cal (P : Program) (w : World) (K : PySem.W.Frag) (mg : Str → Option Value) (base : Heap) (k : Nat) (x : Str) (ps : List Str) (sp : Sp) : Prop where
  ex : ∃ f fd, mg x = some (.ref f) ∧ FnOk P w K mg base CX0 k f fd ps sp ∧ PySem.W.keepIn K (.ref f) = true ∧ L2.Binds K fd ps []
/-- the def st of the text stands behind the top under its name x -/
structure Has (K : PySem.W.Frag) (mg : Str → Option Value) (x : Str) (st : Stmt) : Prop where
  ex : ∃ f fd, mg x = some (.ref f) ∧ FunD K x x (defArgs st) (defBody st) (defScope st) [] [] f fd
section
variable {X : Cx} {ρ : Rho} {s : Bool} {e : Expr} {es : List Expr} {k : Nat} {x : Str} {ps : List Str} {pos p : Pos} {ι : Type} {args : ι → List PyData} {pre : ι → Prop} {res : ι → PyData → Prop} {xs : List PyData} {z : PyData}
theorem px_callN (G : Cal X.prog X.w X.K X.mg X.base k x ps (spP args pre res)) (i : ι) (hp : pre i) (ha : PXs X ρ s (e :: es) (args i)) (hr : Room k X.A := by first | assumption | exact Room.mono (by assumption) (by decide)) (hg : Gl X x := by rfl) (hdb : (x == ("__debug__" : Str)) = false := by decide) (he : starEach (e :: es) X.env = (false, eval e X.env) :: starEach es X.env := by rfl)
    (hpl : (backTo pos (starEach es X.env)).any (·.1) = false := by rfl) : PXN X ρ s (.Call (.Name x p) (e :: es) [] pos) (res i) := by
  obtain ⟨f, fd, hm, F, hk, hb⟩ := G.ex
  refine PEimp (pe_call F hr hg hm hk hb .nil pass0 ha hdb he hpl) fun σ H Q ⟨C, hh, q⟩ => ⟨C, hh, fun vs H1 e1 g => ?_⟩
  show spP args pre res (vs ++ []) H1 Q E0
  rw [List.append_nil]
  exact ⟨Wk C ρ σ s, i, fun a m => (hh.ex e1).allIn m.2, g, hp, fun y v H2 r e2 iy => q y v H2 r (e1.trans e2) iy⟩
theorem px_call (G : Cal X.prog X.w X.K X.mg X.base k x ps (spP args pre res)) (i : ι) (hp : pre i) (ha : PXs X ρ s (e :: es) (args i)) (hz : ∀ y, res i y → y = z) (hr : Room k X.A := by first | assumption | exact Room.mono (by assumption) (by decide)) (hg : Gl X x := by rfl) (hdb : (x == ("__debug__" : Str)) = false := by decide) (he : starEach (e :: es) X.env = (false, eval e X.env) :: starEach es X.env := by rfl)
    (hpl : (backTo pos (starEach es X.env)).any (·.1) = false := by rfl) : PX X ρ s (.Call (.Name x p) (e :: es) [] pos) z := px_of (px_callN G i hp ha hr hg hdb he hpl) hz
end
section
variable {X : Cx} {ρ : Rho} {e : Expr} {es : List Expr} {k : Nat} {x : Str} {ps : List Str} {pos p : Pos} {ι : Type} {args : ι → List PyData} {pre : ι → Prop} {res : ι → List PyData → Prop} {ds : List PyData}
theorem pf_call (G : Cal X.prog X.w X.K X.mg X.base k x ps (spF args pre res)) (i : ι) (hp : pre i) (ha : PXs X ρ true (e :: es) (args i)) (hz : ∀ y, res i y → y = ds) (hr : Room k X.A := by first | assumption | exact Room.mono (by assumption) (by decide)) (hg : Gl X x := by rfl) (hdb : (x == ("__debug__" : Str)) = false := by decide) (he : starEach (e :: es) X.env = (false, eval e X.env) :: starEach es X.env := by rfl)
    (hpl : (backTo pos (starEach es X.env)).any (·.1) = false := by rfl) : PXF X ρ (.Call (.Name x p) (e :: es) [] pos) ds := by
  obtain ⟨f, fd, hm, F, hk, hb⟩ := G.ex
  refine PEimp (pe_call F hr hg hm hk hb .nil pass0 ha hdb he hpl) fun σ H Q ⟨C, hh, q⟩ => ⟨C, hh, fun vs H1 e1 g => ?_⟩
  show spF args pre res (vs ++ []) H1 Q E0
  rw [List.append_nil]
  refine ⟨All C ρ σ, i, fun a m => (hh.ex e1).allIn m, g.ofT, hp, fun ds' p us H2 r n e2 hv iv => ?_⟩
  rw [hz ds' r] at iv
  exact q p us H2 (e1.back n) (e1.trans e2) hv iv
end
/-! ### statements -/
structure Po where
  nx : Rho → Prop
  rt : PyData → Rho → Prop
  bk : Rho → Prop := fun _ => False
  ct : Rho → Prop := fun _ => False
  rf : List PyData → Rho → Prop := fun _ _ => False
structure PoOk (C : Cn) (R : Po) (D : Ends) : Prop where
  nx : ∀ ρ σ H, R.nx ρ → Holds C ρ σ H → D.nx σ H
  rt : ∀ y v ρ σ H, R.rt y ρ → Holds C ρ σ H → Is (fun a => C.M0 a ∨ C.A a) H y v → D.rt v H
  bk : ∀ ρ σ H, R.bk ρ → Holds C ρ σ H → D.bk σ H
  ct : ∀ ρ σ H, R.ct ρ → Holds C ρ σ H → D.ct σ H
  rf : ∀ ds p vs ρ σ H, R.rf ds ρ → Holds C ρ σ H → C.H0 p = none → ¬ C.M0 p → H p = some (.lst vs) → IsAll (fun a => C.M0 a ∨ C.A a ∨ a = p) H ds vs → D.rt (.ref p) H
def tS (ρ : Rho) (R : Po) : TS := fun D σ H => ∃ C, Holds C ρ σ H ∧ PoOk C R D
abbrev PSD (X : Cx) (ρ : Rho) (sts : List Stmt) (R : Po) : Prop := PSs X sts (tS ρ R)
def isP : Option (Option SV) → Bool
  | some (some (.o false _)) => true
  | _ => false
theorem isP_no {o : Option (Option SV)} (h : isP o = false) : ∀ p, o ≠ some (some (SV.o false p)) := fun p z => by
  rw [z] at h
  cases h
/-- the readings with the context told -/
theorem tN_at {ρ : Rho} {P : PyData → Prop} {C : Cn} {σ : L2.St} {H : Hp} {Q : VK} (hh : Holds C ρ σ H) (q : ∀ y v H', P y → Ex H H' → Is (All C ρ σ) H' y v → Q v H') : tN ρ true P σ H Q := ⟨C, hh, fun y v H' py e g => q y v H' py e g.ofT⟩
theorem tD_at {ρ : Rho} {x : PyData} {C : Cn} {σ : L2.St} {H : Hp} {Q : VK} (hh : Holds C ρ σ H) (q : ∀ v H', Ex H H' → Is (All C ρ σ) H' x v → Q v H') : tD ρ true x σ H Q := ⟨C, hh, fun v H' e g => q v H' e g.ofT⟩
section
variable {X : Cx} {ρ : Rho} {R : Po} {sts : List Stmt} {st : Stmt} {e a b : Expr} {x y : PyData} {xs ds : List PyData} {pos p apos : Pos} {P : PyData → Prop}
theorem sd_nil (h : R.nx ρ) : PSD X ρ [] R := PSsimp pss_nil fun D σ H ⟨C, hh, q⟩ => q.nx ρ σ H h hh
/-- what one knows by a proof of one's own -/
theorem sd_if_ {c : Prop} (h : c → PSD X ρ sts R) : PSs X sts (fun D σ H => c ∧ tS ρ R D σ H) := ⟨fun pins s σ H D I ⟨hc, q⟩ => (h hc).run pins s σ H D I q⟩
/-- x = e -/
theorem sd_setN (i : Nat) {nm : Str} (nd : X.N.Nodup) (he : PXN X ρ true e P) (hrest : ∀ y, P y → PSD X (ρ.set i (some (.d y))) sts R) (hp : isP ρ[i]? = false := by rfl) (hi : X.N[i]? = some nm := by rfl) (hx : Loc X.env.scope nm := by first | exact Or.inl rfl | exact Or.inr rfl)
    (hs : swapsWith e (some (.Name nm p)) pos.line X.env = pure false := by rfl) (hf : X.fn nm = true ∨ X.env.scope.names.lookup nm = some .local := by first | exact .inl rfl | exact .inr rfl) :
    PSD X ρ (.Assign [.Name nm p] e pos :: sts) R := PSsimp (pss_cons (ps_set nd hi hx he hs hf) (pss_ex hrest)) fun D σ H ⟨C, hh, q⟩ =>
  tN_at hh fun y v H' py e1 g => ⟨y, py, C, (hh.ex e1).setD g (isP_no hp), q⟩
theorem sd_set (i : Nat) {nm : Str} (nd : X.N.Nodup) (he : PX X ρ true e x) (hrest : PSD X (ρ.set i (some (.d x))) sts R) (hp : isP ρ[i]? = false := by rfl) (hi : X.N[i]? = some nm := by rfl) (hx : Loc X.env.scope nm := by first | exact Or.inl rfl | exact Or.inr rfl)
    (hs : swapsWith e (some (.Name nm p)) pos.line X.env = pure false := by rfl) (hf : X.fn nm = true ∨ X.env.scope.names.lookup nm = some .local := by first | exact .inl rfl | exact .inr rfl) :
    PSD X ρ (.Assign [.Name nm p] e pos :: sts) R := sd_setN i nd (px_n1 he) (fun y e => by rw [e]; exact hrest) hp hi hx hs hf
/-- x = a new list, which the slot holds from now on -/
theorem sd_new (i : Nat) {nm : Str} (nd : X.N.Nodup) (he : PXF X ρ e ds) (hrest : PSD X (ρ.set i (some (.o true (oL ds)))) sts R) (hp : isP ρ[i]? = false := by rfl) (hi : X.N[i]? = some nm := by rfl) (hx : Loc X.env.scope nm := by first | exact Or.inl rfl | exact Or.inr rfl)
    (hs : swapsWith e (some (.Name nm p)) pos.line X.env = pure false := by rfl) (hf : X.fn nm = true ∨ X.env.scope.names.lookup nm = some .local := by first | exact .inl rfl | exact .inr rfl) :
    PSD X ρ (.Assign [.Name nm p] e pos :: sts) R := PSsimp (pss_cons (ps_set nd hi hx he hs hf) hrest) fun D σ H ⟨C, hh, q⟩ =>
  ⟨C, hh, fun p vs H' n e1 hv iv => ⟨C, hh.setO n e1 ⟨vs, hv, iv⟩ (isP_no hp), q⟩⟩
/-- x = [elt for ..], the name of the statement stored within -/
theorem sd_newLc (i : Nat) {nm : Str} {py spos : Pos} {elt tg it : Expr} {scope : Scope} {own : List (Str × Nat)} {α : Type} {l : List α} {g f : α → PyData} {ts : List Nat} {ρt : α → Rho} (hc : X.calm = true) (nd : X.N.Nodup) (hyl : X.env.scope.names.lookup nm = some .local)
    (hsw : swapsWith (.ListComp elt [⟨tg, it, [], 0⟩] scope pos) (some (.Name nm py)) spos.line X.env = pure true) (ok : BlkOk X.N X.env.scope scope own) (hi : PIW X tg it ρ (l.map g)) (hl : l.length ≤ 1000000)
    (ht : ∀ a, a ∈ l → ∀ (s : Shared) (H : Hp) (C : Addr) (cl : List (Str × Addr)) (fp : List Addr), PGD (X.blk s H scope (compEnvC scope cl C X.env) fp) tg ts (wipeR ρ (own.map (·.2))) (g a) (ρt a))
    (he : ∀ a, a ∈ l → ∀ (s : Shared) (H : Hp) (C : Addr) (cl : List (Str × Addr)) (fp : List Addr), PX (X.blk s H scope (compEnvC scope cl C X.env) fp) (ρt a) true elt (f a))
    (hrest : PSD X (ρ.set i (some (.o true (oL (l.map f))))) sts R) (hp : isP ρ[i]? = false := by rfl) (hN : X.N[i]? = some nm := by rfl) (hw : noOwn ρ (own.map (·.2)) = true := by rfl) (hts : within ts (own.map (·.2)) = true := by rfl) (hs : ∀ x, foldedSetIterable it X.env x = pure x := by intro _; rfl) :
    PSD X ρ (.Assign [.Name nm py] (.ListComp elt [⟨tg, it, [], 0⟩] scope pos) spos :: sts) R :=
  PSsimp (pss_cons (ps_setLc hc nd hN hyl hsw hi ok (fun s H C cl fp => pg_ex fun a m => ht a m s H C cl fp) (fun _ _ _ _ _ => pts_nil) (fun s H C cl fp => pe_ex fun a m => he a m s H C cl fp) hs) hrest) fun D σ H ⟨C, hh, q⟩ =>
    lc_read (Q := fun v H' => tS _ R D (σ.set i (some v)) H') hl (noOwn_ok hw) (within_ok hts) hh fun DD H' vs n e hv iv => ⟨C, hh.setO n e ⟨vs, hv, iv⟩ (isP_no hp), q⟩
/-- the list that slot i holds is not changed any more -/
theorem sd_keep (i : Nat) (hx : ρ[i]? = some (some (.o true (oL ds)))) (h : PSD X (ρ.set i (some (.d (.list ds)))) sts R) : PSD X ρ sts R := PSsimp h fun D σ H ⟨C, hh, q⟩ => ⟨C, hh.keep hx, q⟩
/-- x = [..] that is only read -/
theorem sd_setLc (i : Nat) {nm : Str} {py spos : Pos} {elt tg it : Expr} {scope : Scope} {own : List (Str × Nat)} {α : Type} {l : List α} {g f : α → PyData} {ts : List Nat} {ρt : α → Rho} (hc : X.calm = true) (nd : X.N.Nodup) (hyl : X.env.scope.names.lookup nm = some .local)
    (hsw : swapsWith (.ListComp elt [⟨tg, it, [], 0⟩] scope pos) (some (.Name nm py)) spos.line X.env = pure true) (ok : BlkOk X.N X.env.scope scope own) (hi : PIW X tg it ρ (l.map g)) (hl : l.length ≤ 1000000)
    (ht : ∀ a, a ∈ l → ∀ (s : Shared) (H : Hp) (C : Addr) (cl : List (Str × Addr)) (fp : List Addr), PGD (X.blk s H scope (compEnvC scope cl C X.env) fp) tg ts (wipeR ρ (own.map (·.2))) (g a) (ρt a))
    (he : ∀ a, a ∈ l → ∀ (s : Shared) (H : Hp) (C : Addr) (cl : List (Str × Addr)) (fp : List Addr), PX (X.blk s H scope (compEnvC scope cl C X.env) fp) (ρt a) true elt (f a))
    (hrest : PSD X (ρ.set i (some (.d (.list (l.map f))))) sts R) (hp : isP ρ[i]? = false := by rfl) (hN : X.N[i]? = some nm := by rfl) (hlt : i < ρ.length := by first | decide | exact Nat.le_of_ble_eq_true rfl) (hw : noOwn ρ (own.map (·.2)) = true := by rfl) (hts : within ts (own.map (·.2)) = true := by rfl) (hs : ∀ x, foldedSetIterable it X.env x = pure x := by intro _; rfl) :
    PSD X ρ (.Assign [.Name nm py] (.ListComp elt [⟨tg, it, [], 0⟩] scope pos) spos :: sts) R :=
  sd_newLc i hc nd hyl hsw ok hi hl ht he (sd_keep i (set_same hlt) (by rw [List.set_set]; exact hrest)) hp hN hw hts hs
theorem sd_ret (he : PXN X ρ true e P) (h : ∀ y, P y → R.rt y ρ) : PSD X ρ (.Return (some e) pos :: sts) R := PSsimp (pss_cons (ps_ret he) (pss_never)) fun D σ H ⟨C, hh, q⟩ =>
  tN_at hh fun y v H' py e1 g => q.rt y v ρ σ H' (h y py) (hh.ex e1) (Is.weak (fun a m _ => m.elim .inl fun m => .inr (.inl m)) g)
/-- return a new list -/
theorem sd_retF (he : PXF X ρ e ds) (h : R.rf ds ρ) : PSD X ρ (.Return (some e) pos :: sts) R := PSsimp (pss_cons (ps_ret he) pss_never) fun D σ H ⟨C, hh, q⟩ =>
  ⟨C, hh, fun p vs H' n e1 hv iv => q.rf ds p vs ρ σ H' h (hh.ex e1) (hh.old n) (fun m => hh.fresh n (.inl m)) hv (IsAll.weak (fun a m _ => m.elim (fun m => .inl (.inl m)) fun m => m.elim (fun m => .inl (.inr (.inl m))) .inr) iv)⟩
theorem sd_retD (he : PX X ρ true e x) (h : R.rt x ρ) : PSD X ρ (.Return (some e) pos :: sts) R := sd_ret (px_n1 he) fun y e => by rw [e]; exact h
/-- return x, x a list of this def's own -/
theorem sd_retO (k : Nat) {nm : Str} (hk : ρ[k]? = some (some (.o true (oL ds)))) (h : R.rt (.list ds) (ρ.set k (some (.d (.list ds))))) (hlt : k < ρ.length := by first | decide | exact Nat.le_of_ble_eq_true rfl) (hN : X.N[k]? = some nm := by rfl) (hv : Vis X.env.scope nm := by first | exact Or.inl rfl | exact Or.inr (Or.inl rfl) | exact Or.inr (Or.inr rfl))
    (hd : (nm == ("__debug__" : Str)) = false := by decide) (hcd : (nm == ("__classdict__" : Str)) = false := by decide) : PSD X ρ (.Return (some (.Name nm p)) pos :: sts) R :=
  sd_keep k hk (sd_retD (px_v k (by rw [set_same hlt]) hN hv hd hcd) h)
/-- an expression alone -/
theorem sd_expr (he : PX X ρ false e x) (hrest : PSD X ρ sts R) (hs : swapsWith e none pos.line X.env = pure false := by rfl) : PSD X ρ (.Expr e pos :: sts) R := PSsimp (pss_cons (ps_expr he hs) hrest) fun D σ H ⟨C, hh, q⟩ =>
  ⟨C, hh, fun v H' e1 g => ⟨C, hh.ex e1, q⟩⟩
/-- x.append(e) -/
theorem sd_app (k : Nat) {nm : Str} {l : Bool} {cpos : Pos} (hk : ρ[k]? = some (some (.o l (oL ds)))) (he : PX X ρ true e x) (hl : ds.length < 1000000) (hrest : PSD X (ρ.set k (some (.o l (oL (ds ++ [x]))))) sts R) (hN : X.N[k]? = some nm := by rfl)
    (hv : Vis X.env.scope nm := by first | exact Or.inl rfl | exact Or.inr (Or.inl rfl) | exact Or.inr (Or.inr rfl)) (hd : (nm == ("__debug__" : Str)) = false := by decide) (hcd : (nm == ("__classdict__" : Str)) = false := by decide)
    (hbase : attributeBase (.Name nm p) "append" X.env (eval (.Name nm p) X.env) = eval (.Name nm p) X.env := by rfl)
    (hfew : ((backTo cpos (starEach [e] X.env)).all (fun x => !x.1) && (backToKw cpos (keywordEach [] X.env)).all (fun x => x.1.isSome)
      && decide ([e].length + ([] : List Keyword).length + (if ([] : List Keyword).isEmpty then 0 else 1) < 30)) = true := by rfl)
    (hline : (apos.endLine == cpos.line) = true := by rfl) (hse : starEach [e] X.env = (false, eval e X.env) :: starEach [] X.env := by rfl) (hpl : (backTo cpos (starEach [] X.env)).any (·.1) = false := by rfl)
    (hs : swapsWith (.Call (.Attribute (.Name nm p) "append" apos) [e] [] cpos) none pos.line X.env = pure false := by rfl) :
    PSD X ρ (.Expr (.Call (.Attribute (.Name nm p) "append" apos) [e] [] cpos) pos :: sts) R :=
  PSsimp (pss_cons (ps_expr (pe_bm PySem.F.plainAttrs_list PySem.F.slot_list_append PySem.F.type_list_append mt_append (pe_var hN hv hd hcd) (pa_cons he pa_nil hse) hbase hfew hline hse hpl) hs) hrest) fun D σ H ⟨C, hh, q⟩ => by
    obtain ⟨a, e1, ⟨vs, g1, g2⟩, _⟩ := hh.own k l _ hk
    refine ⟨.ref a, e1, .inl ⟨rfl, vs, SqL.of g1⟩, tD_at hh fun v H1 e2 g => ⟨a, vs, v, rfl, rfl, e2 _ _ g1, by rw [← g2.length]; exact sz_lt hl, C, ?_, q⟩⟩
    refine (hh.ex e2).mut hk e1 (fun b o z n => by rw [upd_ne n]; exact z) ⟨vs ++ [v], upd_same, ?_⟩
    have inA : All C ρ σ a := .inr (.inr ⟨k, l, _, hk, e1⟩)
    exact IsAll.fr (Fr.upd inA) (IsAll.append (IsAll.ex e2 g2) (IsAll.one g))
/-- x[i] = e -/
theorem sd_seti (k : Nat) {nm : Str} {l : Bool} {j : Int} {n : Nat} (hk : ρ[k]? = some (some (.o l (oL ds)))) (he : PX X ρ true e x) (hb : PX X ρ false b (.int j)) (hj : ixN ds.length j = some n) (hrest : PSD X (ρ.set k (some (.o l (oL (ds.set n x))))) sts R) (hN : X.N[k]? = some nm := by rfl)
    (hv : Vis X.env.scope nm := by first | exact Or.inl rfl | exact Or.inr (Or.inl rfl) | exact Or.inr (Or.inr rfl)) (hd : (nm == ("__debug__" : Str)) = false := by decide) (hcd : (nm == ("__classdict__" : Str)) = false := by decide)
    (ha : ∀ v, assign (.Subscript (.Name nm p) b apos) X.env v = (do
      let ov ← holding [v] (eval (.Name nm p) X.env)
      let iv ← holding [v, ov] (eval b X.env)
      standAt apos
      holding [v, ov, iv] (setItem ov iv v)
      release [v, ov, iv] []) := by intro _; rfl)
    (hs : swapsWithSole [.Subscript (.Name nm p) b apos] e pos.line X.env = pure false := by rfl) (hw : swappedStores [.Subscript (.Name nm p) b apos] e X.env = pure none := by rfl)
    (h1 : (assignEach [.Subscript (.Name nm p) b apos] X.env).map (·.2) = [assign (.Subscript (.Name nm p) b apos) X.env] := by rfl) :
    PSD X ρ (.Assign [.Subscript (.Name nm p) b apos] e pos :: sts) R :=
  PSsimp (pss_cons (ps_asg he (pg_sub (pe_var hN hv hd hcd) hb set_list ha) hs hw h1) hrest) fun D σ H ⟨C, hh, q⟩ => by
    refine tD_at hh fun v H1 e1 g => ?_
    have hh1 := hh.ex e1
    obtain ⟨a, f1, ⟨vs, g1, g2⟩, _⟩ := hh1.own k l _ hk
    refine ⟨.ref a, f1, C, hh1, fun w H2 e2 gw => ⟨a, vs, j, n, rfl, gw, e2 _ _ g1, by rw [← g2.length]; exact hj, C, ?_, q⟩⟩
    refine (hh1.ex e2).mut hk f1 (fun b o z n => by rw [upd_ne n]; exact z) ⟨vs.set n v, upd_same, ?_⟩
    have inA : All C ρ σ a := .inr (.inr ⟨k, l, _, hk, f1⟩)
    exact IsAll.fr (Fr.upd inA) (IsAll.set (Is.ex e2 g) n (IsAll.ex e2 g2))
/-- if -/
theorem sd_if {c : Expr} {d : Bool} {A B : List Stmt} (Mid : Rho → Prop) (hc : PXt X ρ c d) (ht : d = true → PSD X ρ A { R with nx := Mid }) (hf : d = false → PSD X ρ B { R with nx := Mid }) (hrest : ∀ ρ', Mid ρ' → PSD X ρ' sts R) :
    PSD X ρ (.If c A B pos :: sts) R := PSsimp (pss_cons (ps_if hc (sd_if_ ht) (sd_if_ hf)) (pss_ex hrest)) fun D σ H ⟨C, hh, q⟩ => ⟨C, hh, fun H' e1 => by
  have q' : PoOk C { R with nx := Mid } { D with nx := fun σ H => ∃ ρ', Mid ρ' ∧ tS ρ' R D σ H } := ⟨fun ρ σ H m h => ⟨ρ, m, C, h, q⟩, q.rt, q.bk, q.ct, q.rf⟩
  cases d with
  | true => exact (show (_ ∧ tS ρ _ _ σ H') from ⟨rfl, C, hh.ex e1, q'⟩)
  | false => exact (show (_ ∧ tS ρ _ _ σ H') from ⟨rfl, C, hh.ex e1, q'⟩)⟩
/-- if c: .. return -/
theorem sd_ifr {c : Expr} {d : Bool} {A : List Stmt} (hc : PXt X ρ c d) (ht : d = true → PSD X ρ A { R with nx := fun _ => False }) (hrest : d = false → PSD X ρ sts R) : PSD X ρ (.If c A [] pos :: sts) R :=
  sd_if (fun ρ' => ρ' = ρ ∧ d = false) hc (fun h => PSsimp (ht h) fun D σ H ⟨C, hh, q⟩ => ⟨C, hh, fun _ _ _ m => m.elim, q.rt, q.bk, q.ct, q.rf⟩) (fun h => sd_nil ⟨rfl, h⟩) fun ρ' ⟨e, h⟩ => by rw [e]; exact hrest h
/-- targets: a, b = e -/
theorem sd_asg {tg : Expr} {ts : List Nat} {ρ' : Rho} (he : PX X ρ true e x) (hg : PGD X tg ts ρ x ρ') (hrest : PSD X ρ' sts R) (hs : swapsWithSole [tg] e pos.line X.env = pure false := by rfl) (hw : swappedStores [tg] e X.env = pure none := by rfl)
    (h1 : (assignEach [tg] X.env).map (·.2) = [assign tg X.env] := by rfl) : PSD X ρ (.Assign [tg] e pos :: sts) R := PSsimp (pss_cons (ps_asg he hg hs hw h1) hrest) fun D σ H ⟨C, hh, q⟩ =>
  tD_at hh fun v H' e1 g => ⟨C, hh.ex e1, g, fun σ' h' _ _ _ => ⟨C, h', q⟩⟩
theorem sd_asgN {tg : Expr} (he : PXN X ρ true e P) (hg : ∀ y, P y → ∃ ts ρ', PGD X tg ts ρ y ρ' ∧ PSD X ρ' sts R) (hs : swapsWithSole [tg] e pos.line X.env = pure false := by rfl) (hw : swappedStores [tg] e X.env = pure none := by rfl)
    (h1 : (assignEach [tg] X.env).map (·.2) = [assign tg X.env] := by rfl) : PSD X ρ (.Assign [tg] e pos :: sts) R :=
  PSsimp (pss_cons (ps_asg he (pg_ex (ι := PyData × List Nat × Rho) (P := fun i => PGD X tg i.2.1 ρ i.1 i.2.2) (t := fun i => gD i.2.1 ρ i.1 i.2.2) fun i h => h) hs hw h1) (pss_ex (ι := Rho) (P := fun ρ' => PSD X ρ' sts R) (t := fun ρ' => tS ρ' R) fun i h => h)) fun D σ H ⟨C, hh, q⟩ =>
    tN_at hh fun y v H' py e1 g => by
      obtain ⟨ts, ρ', h1, h2⟩ := hg y py
      exact ⟨(y, ts, ρ'), h1, C, hh.ex e1, g, fun σ' h' _ _ _ => ⟨ρ', h2, C, h', q⟩⟩
/-- for tg in it: Inv by the turn -/
theorem sd_for {tg it : Expr} {body : List Stmt} {α : Type} {l : List α} {g : α → PyData} (Inv Bk : Nat → Rho → Prop) (hcalm : X.calm = true) (nv : PassesOwn (model X.prog X.w) X.A X.env X.xe) (hi : PIW X tg it ρ (l.map g)) (h0 : Inv 0 ρ)
    (hb : ∀ (i : Nat) (a : α) (ρ' : Rho), l[i]? = some a → Inv i ρ' → ∃ ts ρ'', PGD X tg ts ρ' (g a) ρ'' ∧ PSD X ρ'' body { R with nx := Inv (i + 1), ct := Inv (i + 1), bk := Bk i })
    (hrest : ∀ ρ', Inv l.length ρ' → PSD X ρ' sts R) (hbk : ∀ i ρ', Bk i ρ' → PSD X ρ' sts R) (hs : ∀ x, foldedSetIterable it X.env x = pure x := by intro _; rfl) :
    PSD X ρ (.For tg it body [] pos :: sts) R :=
  PSsimp (pss_cons (ps_for nv hcalm hi (pg_ex (ι := PyData × List Nat × Rho × Rho) (P := fun i => PGD X tg i.2.1 i.2.2.1 i.1 i.2.2.2) (t := fun i => gD i.2.1 i.2.2.1 i.1 i.2.2.2) fun i h => h)
      (pss_ex (ι := Rho × Nat) (P := fun i => PSD X i.1 body { R with nx := Inv (i.2 + 1), ct := Inv (i.2 + 1), bk := Bk i.2 }) (t := fun i => tS i.1 { R with nx := Inv (i.2 + 1), ct := Inv (i.2 + 1), bk := Bk i.2 }) fun i h => h) hs)
      (pss_ex (ι := Rho) (P := fun ρ' => PSD X ρ' sts R) (t := fun ρ' => tS ρ' R) fun i h => h)) fun D σ H ⟨C, hh, q⟩ => by
    refine ⟨C, hh, fun J H1 e1 wk => ⟨fun i m σ' H' => m = l.length - i ∧ i ≤ l.length ∧ ∃ ρ', Inv i ρ' ∧ Holds (C.snap (All C ρ σ) H1) ρ' σ' H', ⟨l.length, by simp, Nat.zero_le _, ρ, h0, (hh.ex e1).snap⟩, ?_⟩⟩
    rintro i m σ' H' ⟨rfl, hle, ρ', inv, hh'⟩
    obtain ⟨hc, fr, al, tr⟩ := hh'.unsnap
    obtain ⟨k1, k2⟩ := wk H' (fun a => All C ρ' σ' a ∨ All C ρ σ a) (fun a z => z.elim (fun z => hc.allIn z) fun z => tr a (e1.ne (hh.allIn z))) (fun a z k => z.elim (fun z => al a z k) fun z => z) (fun a o z n => fr a o z fun w => n (.inr w))
    by_cases lt : i < l.length
    · have ga : l[i]? = some l[i] := List.getElem?_eq_getElem lt
      have gd : (l.map g)[i]? = some (g l[i]) := by rw [List.getElem?_map, ga, Option.map_some]
      obtain ⟨go, yl⟩ := k1 i _ gd
      obtain ⟨ts, ρ'', hg, hbd⟩ := hb i l[i] ρ' ga inv
      refine .inr ⟨go, fun σ2 H2 => ∃ ρ2, Inv (i + 1) ρ2 ∧ Holds (C.snap (All C ρ σ) H1) ρ2 σ2 H2, fun σ2 H2 ⟨ρ2, i2, h2⟩ => ⟨l.length - (i + 1), by omega, rfl, lt, ρ2, i2, h2⟩, fun x H2 y => ?_⟩
      obtain ⟨e2, ix⟩ := yl x H2 y
      refine ⟨(g l[i], ts, ρ', ρ''), hg, C.snap (All C ρ σ) H1, hh'.ex e2, Is.weak (fun a m _ => .inl m) ix, fun σ3 h3 _ _ _ => ⟨(ρ'', i), hbd, C.snap (All C ρ σ) H1, h3, ?_, ?_, ?_, ?_, ?_⟩⟩
      · exact fun ρ4 σ4 H4 i4 h4 => ⟨ρ4, i4, h4⟩
      · exact fun y v ρ4 σ4 H4 r4 h4 g4 => q.rt y v ρ4 σ4 H4 r4 h4.unsnap.1 g4
      · exact fun ρ4 σ4 H4 b4 h4 => ⟨ρ4, hbk i ρ4 b4, C, h4.unsnap.1, q⟩
      · exact fun ρ4 σ4 H4 i4 h4 => ⟨ρ4, i4, h4⟩
      · exact fun ds p vs ρ4 σ4 H4 r4 h4 n4 m4 hv iv => q.rf ds p vs ρ4 σ4 H4 r4 h4.unsnap.1 n4 m4 hv iv
    · have e : i = l.length := by omega
      subst e
      rw [List.length_map] at k2
      exact .inl ⟨k2, ρ', hrest ρ' inv, C, hc, q⟩
theorem sd_brk (h : R.bk ρ) : PSD X ρ (.Break pos :: sts) R := PSsimp (pss_cons ps_break pss_never) fun D σ H ⟨C, hh, q⟩ => q.bk ρ σ H h hh
end
end Bf
set_option Elab.async false
set_option linter.all false
set_option maxRecDepth 100000
set_option maxHeartbeats 4000000
namespace Bf
open PySem PySem.Spec PyProof.Rows L2
def topS (i : Nat) : Stmt := PySem.Challenge.pw_beatfabric_k86_whole_compared.main.body.getD i (.Pass ⟨0, 0, 0, 0⟩)
abbrev S_first_reg : Stmt := topS 7
abbrev S_first_and : Stmt := topS 8
abbrev S_shown_of : Stmt := topS 9
abbrev S_full : Stmt := topS 11
abbrev S_patterns : Stmt := topS 12
abbrev S_node_masks : Stmt := topS 13
abbrev S_mask_of : Stmt := topS 14
abbrev S_first_state : Stmt := topS 18
abbrev S_inputs_with : Stmt := topS 19
abbrev S_masks_from : Stmt := topS 20
abbrev S_all_beats : Stmt := topS 21
abbrev S_least_one : Stmt := topS 22
abbrev S_search_levels : Stmt := topS 23
abbrev S_next_level : Stmt := topS 24
abbrev S_look_alike : Stmt := topS 26
abbrev S_look_at_pair : Stmt := topS 27
abbrev S_compared : Stmt := topS 28
abbrev S_law_begin : Stmt := topS 30
abbrev S_law_draw : Stmt := topS 31
abbrev S_law_pick : Stmt := topS 32
abbrev S_law_pop : Stmt := topS 33
abbrev S_law_rare : Stmt := topS 34
abbrev S_law_shuffled : Stmt := topS 35
abbrev S_law_pool : Stmt := topS 36
abbrev S_law_is_int : Stmt := topS 37
abbrev S_law_lit : Stmt := topS 38
abbrev S_law_drawn_literal : Stmt := topS 39
abbrev S_law_net : Stmt := topS 40
abbrev S_law_net_bits : Stmt := topS 41
abbrev S_law_net_start : Stmt := topS 42
abbrev S_law_net_beat : Stmt := topS 43
abbrev S_law_all_bits : Stmt := topS 44
abbrev S_law_tidied : Stmt := topS 45
abbrev S_law_closed_up : Stmt := topS 46
abbrev S_law_table_of : Stmt := topS 47
abbrev S_law_renewed : Stmt := topS 48
abbrev S_law_inverted : Stmt := topS 49
abbrev S_law_exchanged : Stmt := topS 50
abbrev S_law_doubled : Stmt := topS 51
abbrev S_law_variant : Stmt := topS 52
abbrev S_law_trapped : Stmt := topS 53
abbrev S_law_spoilt : Stmt := topS 54
abbrev S_law_ringed : Stmt := topS 55
abbrev S_law_shifted : Stmt := topS 56
abbrev S_law_dear : Stmt := topS 57
abbrev S_law_plain : Stmt := topS 58
abbrev S_law_search : Stmt := topS 59
abbrev S_law_due : Stmt := topS 60
abbrev S_law_turned : Stmt := topS 61
abbrev S_law_told : Stmt := topS 62
abbrev S_law_right : Stmt := topS 63
abbrev S_law_unlike : Stmt := topS 64
abbrev S_law_small : Stmt := topS 65
abbrev S_law : Stmt := topS 66
abbrev S_TooMany_init : Stmt := inClass (topS 4) 0
end Bf
set_option Elab.async false
set_option linter.all false
set_option maxRecDepth 100000
set_option maxHeartbeats 4000000
namespace Bf
open PySem PySem.Spec PyProof.Rows L2
/-! ### a def's promise by its body -/
def rho0 (N : List Str) (xs : List SV) : Rho := xs.map some ++ List.replicate (N.length - xs.length) none
theorem start_get {N : List Str} {vs : List V} {i : Nat} {v : V} (h : vs[i]? = some v) : (L2.start N vs)[i]? = some (some v) := by
  unfold L2.start
  have lt : i < vs.length := (List.getElem?_eq_some_iff.mp h).1
  rw [List.getElem?_append_left (by rw [List.length_map]; exact lt), List.getElem?_map, h]
  rfl
theorem rho0_get {N : List Str} {xs : List SV} {i : Nat} {y : SV} (h : (rho0 N xs)[i]? = some (some y)) : xs[i]? = some y := by
  unfold rho0 at h
  by_cases lt : i < xs.length
  · rw [List.getElem?_append_left (by rw [List.length_map]; exact lt), List.getElem?_map] at h
    cases q : xs[i]? with
    | none =>
      rw [q] at h
      cases h
    | some z =>
      rw [q] at h
      have : z = y := Option.some.inj (Option.some.inj h)
      rw [this]
  · rw [List.getElem?_append_right (by rw [List.length_map]; omega), List.getElem?_replicate] at h
    split at h <;> cases h
theorem holds_start {M : Ad} {H : Hp} {N : List Str} {xs : List PyData} {vs : List V} (hM : ∀ a, M a → H a ≠ none) (h : IsAll M H xs vs) (hl : xs.length ≤ N.length) :
    Holds ⟨M, fun _ _ => False, H, fun _ _ => False, fun _ => False⟩ (rho0 N (xs.map SV.d)) (L2.start N vs) H := by
  have len := h.length
  have noO : ∀ (i : Nat) (l : Bool) (p : OP), (rho0 N (xs.map SV.d))[i]? ≠ some (some (SV.o l p)) := fun i l p z => by
    have q := rho0_get z
    rw [List.getElem?_map] at q
    cases e : xs[i]? with
    | none =>
      rw [e] at q
      cases q
    | some d =>
      rw [e] at q
      cases q
  have al : ∀ a, All ⟨M, fun _ _ => False, H, fun _ _ => False, fun _ => False⟩ (rho0 N (xs.map SV.d)) (L2.start N vs) a → M a := fun a m => by
    rcases m with m | m | ⟨i, l, p, e, _⟩
    · exact m
    · exact m.elim fun _ z => z.elim
    · exact absurd e (noO i l p)
  refine ⟨?_, fun i x e => ?_, fun i l p e => absurd e (noO i l p), fun i j l l' p q a e => absurd e (noO i l p), fun a o e _ => e, hM, fun j a z => z.elim, fun a z => z.elim (fun z => z) fun z => z.elim, fun W Hs z => z.elim⟩
  · unfold L2.start rho0
    rw [List.length_append, List.length_append, List.length_map, List.length_map, List.length_map, List.length_replicate, List.length_replicate, len]
  · have q := rho0_get e
    rw [List.getElem?_map] at q
    cases e2 : xs[i]? with
    | none =>
      rw [e2] at q
      cases q
    | some d =>
      rw [e2] at q
      have dx : d = x := by
        have q' : some (SV.d d) = some (SV.d x) := q
        cases q'
        rfl
      subst dx
      obtain ⟨v, h1, h2⟩ := h.get e2
      exact ⟨v, start_get h1, Is.weak (fun a m _ => al a m) h2⟩
section
variable {P : Program} {w : World} {K : PySem.W.Frag} {mg : Str → Option Value} {base : Heap}
/-- a def that changes nothing: hb its body -/
theorem fnP {x : Str} {st : Stmt} {N ps : List Str} {k : Nat} {ι : Type} {args : ι → List PyData} {pre : ι → Prop} {res : ι → PyData → Prop} (F : Has K mg x st) (S : FnScope N ps (defScope st)) (hl : ∀ i, (args i).length = ps.length)
    (bn : ∀ (kV doc pm : Value) (an : Option Addr) (cdv ct : Value) (us : List Value), us.length = ps.length → bindArgs (PySem.W.fnOf x x (defArgs st) (defBody st) (defScope st) .none kV doc pm an cdv ct) ⟨us, []⟩ = pure (ps.zip us))
    (hb : ∀ (f : Addr) (cdv : Value) (A : Around) (outer : List Env) (s : Shared) (H : Hp) (E : XK), Room k (A.deeper (envOfC x (defScope st) s.heap.objs.size f cdv)) → ∀ i, pre i →
      PSD (cxOf CX0 P w K mg base N x (defScope st) f cdv A outer s H E).nox (rho0 N ((args i).map SV.d)) (defBody st) { nx := fun _ => res i .none, rt := fun y _ => res i y }) :
    Cal P w K mg base (k + 1) x ps (spP args pre res) := by
  obtain ⟨f, fd, hm, F⟩ := F.ex
  refine ⟨f, fd, hm, F.ok S (fun vs H Q E h => ?_) (fun cdv A outer s H vs Q E hr h => ?_), F.kp, FunD.bindsN F bn⟩
  · obtain ⟨M, i, _, h, _⟩ := h
    rw [← h.length, hl]
  · obtain ⟨M, i, hM, h, hp, q⟩ := h
    have le : (args i).length ≤ N.length := by
      rw [hl]
      have := congrArg List.length S.pre
      rw [List.length_take] at this
      omega
    refine ⟨_, (hb f cdv A outer s H E hr i hp).nox, _, holds_start hM h le, ⟨fun ρ σ H' r hh => ?_, fun y v ρ σ H' r hh g => ?_, fun _ _ _ z => z.elim, fun _ _ _ z => z.elim, fun _ _ _ _ _ _ z => z.elim⟩⟩
    · exact q .none .non H' r (fun a o e => hh.fr a o e fun z => z.elim fun _ z => z) rfl
    · exact q y v H' r (fun a o e => hh.fr a o e fun z => z.elim fun _ z => z) (Is.weak (fun a m _ => .inl m) g)
/-- a def that gives a new list -/
theorem fnF {x : Str} {st : Stmt} {N ps : List Str} {k : Nat} {ι : Type} {args : ι → List PyData} {pre : ι → Prop} {res : ι → List PyData → Prop} (F : Has K mg x st) (S : FnScope N ps (defScope st)) (hl : ∀ i, (args i).length = ps.length)
    (bn : ∀ (kV doc pm : Value) (an : Option Addr) (cdv ct : Value) (us : List Value), us.length = ps.length → bindArgs (PySem.W.fnOf x x (defArgs st) (defBody st) (defScope st) .none kV doc pm an cdv ct) ⟨us, []⟩ = pure (ps.zip us))
    (hb : ∀ (f : Addr) (cdv : Value) (A : Around) (outer : List Env) (s : Shared) (H : Hp) (E : XK), Room k (A.deeper (envOfC x (defScope st) s.heap.objs.size f cdv)) → ∀ i, pre i →
      PSD (cxOf CX0 P w K mg base N x (defScope st) f cdv A outer s H E).nox (rho0 N ((args i).map SV.d)) (defBody st) { nx := fun _ => False, rt := fun _ _ => False, rf := fun ds _ => res i ds }) :
    Cal P w K mg base (k + 1) x ps (spF args pre res) := by
  obtain ⟨f, fd, hm, F⟩ := F.ex
  refine ⟨f, fd, hm, F.ok S (fun vs H Q E h => ?_) (fun cdv A outer s H vs Q E hr h => ?_), F.kp, FunD.bindsN F bn⟩
  · obtain ⟨M, i, _, h, _⟩ := h
    rw [← h.length, hl]
  · obtain ⟨M, i, hM, h, hp, q⟩ := h
    have le : (args i).length ≤ N.length := by
      rw [hl]
      have := congrArg List.length S.pre
      rw [List.length_take] at this
      omega
    refine ⟨_, (hb f cdv A outer s H E hr i hp).nox, _, holds_start hM h le, ⟨fun _ _ _ z => z.elim, fun _ _ _ _ _ z => z.elim, fun _ _ _ z => z.elim, fun _ _ _ z => z.elim, fun ds p us ρ σ H' r hh n _ hv iv => ?_⟩⟩
    exact q ds p us H' r n (fun a o e => hh.fr a o e fun z => z.elim fun _ z => z) hv (IsAll.weak (fun a m _ => m.elim .inl fun m => .inr (.inr m)) iv)
end
end Bf
set_option Elab.async false
set_option linter.all false
set_option maxRecDepth 100000
set_option maxHeartbeats 4000000
namespace Bf
open PySem PySem.Spec PyProof.Rows L2
/-! ### some of the held objects have changed -/
/-- the same slots hold objects, the rest stands -/
structure Sames (ρ ρ' : Rho) : Prop where
  len : ρ'.length = ρ.length
  dat : ∀ (i : Nat) (x : PyData), ρ'[i]? = some (some (SV.d x)) → ρ[i]? = some (some (SV.d x))
  own : ∀ (i : Nat) (l : Bool) (p : OP), ρ'[i]? = some (some (SV.o l p)) → ∃ q, ρ[i]? = some (some (SV.o l q))
  nwo : ∀ (i : Nat) (l : Bool) (p : OP), ρ[i]? = some (some (SV.o l p)) → ∃ q, ρ'[i]? = some (some (SV.o l q))
theorem Sames.refl (ρ : Rho) : Sames ρ ρ := ⟨rfl, fun _ _ h => h, fun _ _ p h => ⟨p, h⟩, fun _ _ p h => ⟨p, h⟩⟩
theorem Sames.trans {ρ ρ1 ρ2 : Rho} (a : Sames ρ ρ1) (b : Sames ρ1 ρ2) : Sames ρ ρ2 := ⟨b.len.trans a.len, fun i x h => a.dat i x (b.dat i x h), fun i l p h => let ⟨q, z⟩ := b.own i l p h; a.own i l q z, fun i l p h => let ⟨q, z⟩ := a.nwo i l p h; b.nwo i l q z⟩
theorem Sames.all {ρ ρ' : Rho} (S : Sames ρ ρ') {C : Cn} {σ : L2.St} (a : Addr) : All C ρ' σ a ↔ All C ρ σ a := by
  constructor
  · rintro (m | m | ⟨j, l, p, e1, e2⟩)
    · exact .inl m
    · exact .inr (.inl m)
    · obtain ⟨q, z⟩ := S.own j l p e1
      exact .inr (.inr ⟨j, l, q, z, e2⟩)
  · rintro (m | m | ⟨j, l, p, e1, e2⟩)
    · exact .inl m
    · exact .inr (.inl m)
    · obtain ⟨q, z⟩ := S.nwo j l p e1
      exact .inr (.inr ⟨j, l, q, z, e2⟩)
theorem sames_set {ρ : Rho} {i : Nat} {l : Bool} {p q : OP} (h : ρ[i]? = some (some (.o l p))) : Sames ρ (ρ.set i (some (.o l q))) := by
  have lt : i < ρ.length := (List.getElem?_eq_some_iff.mp h).1
  refine ⟨List.length_set .., fun j x e => ?_, fun j l' p' e => ?_, fun j l' p' e => ?_⟩
  · rcases set_get e with ⟨_, z, _⟩ | ⟨_, z⟩
    · cases z
    · exact z
  · rcases set_get e with ⟨z, w, _⟩ | ⟨_, z⟩
    · cases w
      subst z
      exact ⟨p, h⟩
    · exact ⟨p', z⟩
  · by_cases z : i = j
    · subst z
      rw [h] at e
      cases e
      exact ⟨q, set_same lt⟩
    · exact ⟨p', by rw [set_other z]; exact e⟩
theorem Holds.muts {C : Cn} {ρ ρ' : Rho} {σ : L2.St} {H H' : Hp} {A : Ad} (h : Holds C ρ σ H) (S : Sames ρ ρ') (hA : ∀ a, A a → ∃ (i : Nat) (l : Bool) (p : OP), ρ[i]? = some (some (SV.o l p)) ∧ σ[i]? = some (some (V.ref a))) (k : ∀ b o, H b = some o → ¬ A b → H' b = some o) (t : ∀ b, A b → H' b ≠ none)
    (g : ∀ (i : Nat) (l : Bool) (p : OP) (a : Addr), ρ'[i]? = some (some (SV.o l p)) → σ[i]? = some (some (V.ref a)) → (A a → p.is (All C ρ σ) H' a) ∧ (¬ A a → ρ[i]? = some (some (SV.o l p)))) : Holds C ρ' σ H' := by
  have inA : ∀ a, A a → All C ρ σ a := fun a m => let ⟨i, l, p, e1, e2⟩ := hA a m; .inr (.inr ⟨i, l, p, e1, e2⟩)
  have fr : Fr (All C ρ σ) H H' := fun b o z n => k b o z fun w => n (inA b w)
  have there : ∀ b, H b ≠ none → H' b ≠ none := fun b z => by
    by_cases w : A b
    · exact t b w
    · cases q : H b with
      | none => exact absurd q z
      | some o => exact ne_none (k b o q w)
  have eq := S.all (C := C) (σ := σ)
  refine ⟨by rw [S.len]; exact h.len, fun j y z => ?_, fun j l q z => ?_, fun j m l1 l2 q r b z1 z2 z3 z4 => ?_, fun b o z n => ?_, fun b z => there b (h.m0 b z), fun j b m => ⟨(h.a0 j b m).1, ?_⟩, fun b z => there b (h.th b z), fun W Hs z => ⟨fun b o w n => k b o ((h.sn W Hs z).1 b o w n) fun y => n ((h.sn W Hs z).2 b (inA b y) (ne_none w)), fun b m k => (h.sn W Hs z).2 b ((eq b).mp m) k⟩⟩
  · obtain ⟨u, h1, h2⟩ := h.dat j y (S.dat j y z)
    exact ⟨u, h1, Is.weak (fun b m _ => (eq b).mp m) (Is.fr fr h2)⟩
  · obtain ⟨q1, e⟩ := S.own j l q z
    obtain ⟨b, h1, h2, h3, h4⟩ := h.own j l q1 e
    obtain ⟨g1, g2⟩ := g j l q b z h1
    refine ⟨b, h1, ?_, h3, h4⟩
    by_cases w : A b
    · exact q.weak (g1 w) fun c m _ => (eq c).mp m
    · have e' := g2 w
      rw [e] at e'
      cases e'
      exact q.weak (q.fr h2 fun c o y m => k c o y fun n => m.elim (fun m => w (by rw [← m]; exact n)) fun m => m (inA c n)) fun c m _ => (eq c).mp m
  · obtain ⟨q1, y1⟩ := S.own j _ _ z1
    obtain ⟨r1, y2⟩ := S.own m _ _ z2
    exact h.sep j m _ _ _ _ b y1 y2 z3 z4
  · refine k b o (h.fr b o z n) fun w => ?_
    obtain ⟨i, l, p, e1, e2⟩ := hA b w
    obtain ⟨a, f1, _, _, f4⟩ := h.own i l p e1
    rw [e2] at f1
    cases f1
    cases l with
    | true =>
      rw [if_pos rfl] at f4
      rw [f4] at z
      cases z
    | false =>
      rw [if_neg Bool.false_ne_true] at f4
      exact n ⟨_, f4⟩
  · obtain ⟨q, z1, z2⟩ := (h.a0 j b m).2
    obtain ⟨q', z⟩ := S.nwo j _ _ z1
    exact ⟨q', z, z2⟩
/-- the objects of the slots -/
def Own (ρ : Rho) (σ : L2.St) : Ad := fun a => ∃ (i : Nat) (l : Bool) (p : OP), ρ[i]? = some (some (SV.o l p)) ∧ σ[i]? = some (some (V.ref a))
theorem Own.all {C : Cn} {ρ : Rho} {σ : L2.St} {a : Addr} (h : Own ρ σ a) : All C ρ σ a := .inr (.inr h)
theorem Sames.ow {ρ ρ' : Rho} (S : Sames ρ ρ') {σ : L2.St} {a : Addr} : Own ρ' σ a ↔ Own ρ σ a := by
  constructor
  · rintro ⟨j, l, p, e1, e2⟩
    obtain ⟨q, z⟩ := S.own j l p e1
    exact ⟨j, l, q, z, e2⟩
  · rintro ⟨j, l, p, e1, e2⟩
    obtain ⟨q, z⟩ := S.nwo j l p e1
    exact ⟨j, l, q, z, e2⟩
theorem Fr.all {C : Cn} {ρ : Rho} {σ : L2.St} {H H' : Hp} (h : Fr (Own ρ σ) H H') : Fr (All C ρ σ) H H' := fun a o e n => h a o e fun m => n m.all
/-! ### an expression that gives one of many, and may change held objects -/
def tM (ρ : Rho) (P : PyData → Rho → Prop) : TE := fun σ H Q => ∃ C, Holds C ρ σ H ∧ ∀ y v ρ' H', P y ρ' → Sames ρ ρ' → Holds C ρ' σ H' → Fr (Own ρ σ) H H' → Is (All C ρ σ) H' y v → Q v H'
abbrev PM (X : Cx) (ρ : Rho) (e : Expr) (P : PyData → Rho → Prop) : Prop := PE X e (tM ρ P)
/-- the same, what is given is a new list -/
def tMF (ρ : Rho) (P : List PyData → Rho → Prop) : TE := fun σ H Q => ∃ C, Holds C ρ σ H ∧ ∀ ys p vs ρ' H', P ys ρ' → Sames ρ ρ' → Holds (C.add p) ρ' σ H' → H p = none → Fr (Own ρ σ) H H' → H' p = some (.lst vs) → IsAll (fun a => All C ρ σ a ∨ a = p) H' ys vs → Q (.ref p) H'
abbrev PMF (X : Cx) (ρ : Rho) (e : Expr) (P : List PyData → Rho → Prop) : Prop := PE X e (tMF ρ P)
inductive Arg where
  | x (d : PyData)
  | s (k : Nat)
def IsArg (M : Ad) (H : Hp) (σ : L2.St) : Arg → V → Prop
  | .x d, v => Is M H d v
  | .s k, v => σ[k]? = some (some v)
def IsArgs (M : Ad) (H : Hp) (σ : L2.St) : List Arg → List V → Prop
  | [], [] => True
  | a :: as, v :: vs => IsArg M H σ a v ∧ IsArgs M H σ as vs
  | [], _ :: _ => False
  | _ :: _, [] => False
def tMs (ρ : Rho) (P : List Arg → Rho → Prop) : TA := fun σ H Q => ∃ C, Holds C ρ σ H ∧ ∀ ys vs ρ' H', P ys ρ' → Sames ρ ρ' → Holds C ρ' σ H' → Fr (Own ρ σ) H H' → IsArgs (All C ρ σ) H' σ ys vs → Q vs H'
abbrev PMs (X : Cx) (ρ : Rho) (es : List Expr) (P : List Arg → Rho → Prop) : Prop := PA X es (tMs ρ P)
theorem IsArgs.all {M : Ad} {H : Hp} {σ : L2.St} : ∀ {ds : List PyData} {vs : List V}, IsArgs M H σ (ds.map .x) vs → IsAll M H ds vs
  | [], [], _ => True.intro
  | _ :: _, _ :: _, h => ⟨h.1, IsArgs.all h.2⟩
  | [], _ :: _, h => h.elim
  | _ :: _, [], h => h.elim
theorem IsArgs.length {M : Ad} {H : Hp} {σ : L2.St} : ∀ {ys : List Arg} {vs : List V}, IsArgs M H σ ys vs → ys.length = vs.length
  | [], [], _ => rfl
  | _ :: _, _ :: _, h => by rw [List.length_cons, List.length_cons, IsArgs.length h.2]
  | [], _ :: _, h => h.elim
  | _ :: _, [], h => h.elim
theorem IsArgs.get {M : Ad} {H : Hp} {σ : L2.St} : ∀ {ys : List Arg} {vs : List V} {i : Nat} {a : Arg}, IsArgs M H σ ys vs → ys[i]? = some a → ∃ v, vs[i]? = some v ∧ IsArg M H σ a v
  | [], _, _, _, _, e => by simp at e
  | d :: ds, v :: vs, 0, _, h, e => by
    have e' : d = _ := Option.some.inj e
    subst e'
    exact ⟨v, rfl, h.1⟩
  | d :: ds, v :: vs, i + 1, x, h, e => by
    obtain ⟨u, h1, h2⟩ := IsArgs.get (i := i) (a := x) h.2 (by simpa using e)
    exact ⟨u, by simpa using h1, h2⟩
  | _ :: _, [], _, _, h, _ => h.elim
theorem IsArg.fr {M : Ad} {H H' : Hp} {σ : L2.St} {a : Arg} {v : V} (e : Fr M H H') (h : IsArg M H σ a v) : IsArg M H' σ a v := by
  cases a with
  | x d => exact Is.fr e h
  | s k => exact h
theorem IsArg.weak {M M' : Ad} {H : Hp} {σ : L2.St} {a : Arg} {v : V} (w : ∀ a, M' a → H a ≠ none → M a) (h : IsArg M H σ a v) : IsArg M' H σ a v := by
  cases a with
  | x d => exact Is.weak w h
  | s k => exact h
theorem IsArgs.weak {M M' : Ad} {H : Hp} {σ : L2.St} (w : ∀ a, M' a → H a ≠ none → M a) : ∀ {ys : List Arg} {vs : List V}, IsArgs M H σ ys vs → IsArgs M' H σ ys vs
  | [], [], _ => True.intro
  | _ :: _, _ :: _, h => ⟨IsArg.weak w h.1, IsArgs.weak w h.2⟩
  | [], _ :: _, h => h
  | _ :: _, [], h => h
section
variable {X : Cx} {ρ : Rho} {e a b c : Expr} {es : List Expr} {x : PyData} {pos p apos : Pos} {P P' : PyData → Rho → Prop} {F F' : List PyData → Rho → Prop} {G : List Arg → Rho → Prop}
theorem pm_imp (h : PM X ρ e P) (w : ∀ y ρ', Sames ρ ρ' → P y ρ' → P' y ρ') : PM X ρ e P' := PEimp h fun σ H Q ⟨C, hh, q⟩ => ⟨C, hh, fun y v ρ' H' py S h' f g => q y v ρ' H' (w y ρ' S py) S h' f g⟩
theorem pm_x (h : PX X ρ true e x) (w : P x ρ) : PM X ρ e P := PEimp h fun σ H Q ⟨C, hh, q⟩ => ⟨C, hh, fun v H' e1 g => q x v ρ H' w (Sames.refl ρ) (hh.ex e1) e1.fr g.ofT⟩
theorem pm_n {R : PyData → Prop} (h : PXN X ρ true e R) (w : ∀ y, R y → P y ρ) : PM X ρ e P := PEimp h fun σ H Q ⟨C, hh, q⟩ => ⟨C, hh, fun y v H' ry e1 g => q y v ρ H' (w y ry) (Sames.refl ρ) (hh.ex e1) e1.fr g.ofT⟩
theorem Holds.unadd {C : Cn} {ρ : Rho} {σ : L2.St} {H : Hp} {p : Addr} (h : Holds (C.add p) ρ σ H) : Holds C ρ σ H := by
  have w : ∀ a, All C ρ σ a → All (C.add p) ρ σ a := fun a m => all_add.mpr (.inl m)
  exact ⟨h.len, fun i x e => let ⟨v, h1, h2⟩ := h.dat i x e; ⟨v, h1, Is.weak (fun a m _ => w a m) h2⟩, fun i l q e => let ⟨a, h1, h2, h3, h4⟩ := h.own i l q e; ⟨a, h1, q.weak h2 fun b m _ => w b m, fun m => h3 (.inl m), h4⟩, h.sep, h.fr, fun a m => h.m0 a (.inl m), h.a0, h.th, fun W Hs z => ⟨(h.sn W Hs z).1, fun a m k => (h.sn W Hs z).2 a (w a m) k⟩⟩
theorem Holds.noAdd {C : Cn} {ρ ρ' : Rho} {σ : L2.St} {H H' : Hp} {p : Addr} (hh : Holds C ρ σ H) (n : H p = none) (S : Sames ρ ρ') : ¬ All C ρ' σ p := fun m => hh.fresh n ((S.all p).mp m)
theorem Holds.backN {C : Cn} {ρ ρ' : Rho} {σ : L2.St} {H H' : Hp} {p : Addr} (h' : Holds C ρ' σ H') (S : Sames ρ ρ') (f : Fr (Own ρ σ) H H') (n : H' p = none) : H p = none := by
  cases q : H p with
  | none => rfl
  | some o =>
    by_cases m : Own ρ σ p
    · exact absurd n (h'.allIn ((S.all p).mpr m.all))
    · rw [f p o q m] at n
      cases n
theorem pm_F (h : PMF X ρ e F) (w : ∀ ys ρ', F ys ρ' → P (.list ys) ρ') : PM X ρ e P := PEimp h fun σ H Q ⟨C, hh, q⟩ => ⟨C, hh, fun ys p vs ρ' H' f S h' n fr hv iv =>
  q (.list ys) _ ρ' H' (w ys ρ' f) S h'.unadd fr ⟨p, vs, rfl, hh.fresh n, hv, IsAll.weak (fun a m _ => .inl m) iv⟩⟩
theorem pmf_x {ds : List PyData} (h : PXF X ρ e ds) (w : F ds ρ) : PMF X ρ e F := PEimp h fun σ H Q ⟨C, hh, q⟩ => ⟨C, hh, fun p vs H' n e hv iv => q ds p vs ρ H' w (Sames.refl ρ) (hh.addM n e (ne_none hv)) n e.fr hv iv⟩
theorem pms_nil (w : G [] ρ) : PMs X ρ [] G := PAimp pa_nil fun σ H Q ⟨C, hh, q⟩ => q [] [] ρ H w (Sames.refl ρ) hh (Fr.refl _ _) True.intro
theorem pms_cons (h : PM X ρ e (fun y ρ1 => PMs X ρ1 es (fun zs ρ2 => G (.x y :: zs) ρ2))) (hs : starEach (e :: es) X.env = (false, eval e X.env) :: starEach es X.env := by rfl) : PMs X ρ (e :: es) G := by
  have k : PA X es (fun σ H Q => ∃ i : PyData × Rho, PMs X i.2 es (fun zs ρ2 => G (.x i.1 :: zs) ρ2) ∧ tMs i.2 (fun zs ρ2 => G (.x i.1 :: zs) ρ2) σ H Q) := ⟨fun pos pins s σ H Q I ⟨i, p, q⟩ => p.run pos pins s σ H Q I q⟩
  refine PAimp (pa_cons h k hs) fun σ H Q ⟨C, hh, q⟩ => ⟨C, hh, fun y v ρ1 H1 py S1 h1 f1 g1 => ⟨(y, ρ1), py, C, h1, fun zs vs ρ2 H2 gz S2 h2 f2 g2 => ?_⟩⟩
  have ff : Fr (Own ρ σ) H1 H2 := fun a o z n => f2 a o z fun m => n (S1.ow.mp m)
  exact q (.x y :: zs) (v :: vs) ρ2 H2 gz (S1.trans S2) h2 (f1.trans ff) ⟨Is.fr ff.all g1, IsArgs.weak (fun a m _ => (S1.all a).mpr m) g2⟩
theorem pms_s (k : Nat) {nm : Str} {l : Bool} {o : OP} (hk : ρ[k]? = some (some (.o l o))) (h : PMs X ρ es (fun zs ρ2 => G (.s k :: zs) ρ2)) (hN : X.N[k]? = some nm := by rfl) (hv : Vis X.env.scope nm := by first | exact Or.inl rfl | exact Or.inr (Or.inl rfl) | exact Or.inr (Or.inr rfl)) (hd : (nm == ("__debug__" : Str)) = false := by decide)
    (hcd : (nm == ("__classdict__" : Str)) = false := by decide) (hs : starEach (.Name nm p :: es) X.env = (false, eval (.Name nm p) X.env) :: starEach es X.env := by rfl) : PMs X ρ (.Name nm p :: es) G := by
  refine PAimp (pa_cons (pe_var hN hv hd hcd) h hs) fun σ H Q ⟨C, hh, q⟩ => ?_
  obtain ⟨a, e1, _⟩ := hh.own k l _ hk
  exact ⟨.ref a, e1, C, hh, fun zs vs ρ2 H2 gz S2 h2 f2 g2 => q (.s k :: zs) (.ref a :: vs) ρ2 H2 gz S2 h2 f2 ⟨e1, g2⟩⟩
theorem pms_x {xs : List PyData} (h : PXs X ρ true es xs) (w : G (xs.map .x) ρ) : PMs X ρ es G := PAimp h fun σ H Q ⟨C, hh, q⟩ => ⟨C, hh, fun vs H' e1 g => q _ vs ρ H' w (Sames.refl ρ) (hh.ex e1) e1.fr (by
  have : ∀ {xs : List PyData} {vs : List V}, IsAll (Wk C ρ σ true) H' xs vs → IsArgs (All C ρ σ) H' σ (xs.map .x) vs := by
    intro xs
    induction xs with
    | nil =>
      intro vs g
      cases vs with
      | nil => exact True.intro
      | cons => exact g.elim
    | cons x xs ih =>
      intro vs g
      cases vs with
      | nil => exact g.elim
      | cons v vs => exact ⟨Is.ofT g.1, ih g.2⟩
  exact this g)⟩
theorem pm_tup {k : Nat} (h : PMs X ρ es (fun ys ρ' => ∃ ds : List PyData, ys = ds.map .x ∧ ds.length ≤ 1000000 ∧ P (.tuple ds) ρ')) : PM X ρ (.Tuple es k pos) P := PEimp (pe_tup h) fun σ H Q ⟨C, hh, q⟩ =>
  ⟨C, hh, fun ys vs ρ' H1 ⟨ds, e, hl, w⟩ S h1 f1 g1 => by
    subst e
    have g2 := IsArgs.all g1
    refine ⟨by rw [← g2.length]; exact sz_of hl, fun p hp => q (.tuple ds) _ ρ' _ w S (h1.ex (Ex.new hp)) (f1.trans (Ex.new hp).fr) ⟨p, vs, rfl, fun m => h1.fresh hp ((S.all _).mpr m), upd_same, IsAll.ex (Ex.new hp) g2⟩⟩⟩
theorem pmf_lst (h : PMs X ρ es (fun ys ρ' => ∃ ds : List PyData, ys = ds.map .x ∧ ds.length ≤ 1000000 ∧ F ds ρ')) : PMF X ρ (.List es pos) F := PEimp (pe_lst h) fun σ H Q ⟨C, hh, q⟩ =>
  ⟨C, hh, fun ys vs ρ' H1 ⟨ds, e, hl, w⟩ S h1 f1 g1 => by
    subst e
    have g2 := IsArgs.all g1
    exact ⟨by rw [← g2.length]; exact sz_of hl, fun p hp => q ds p vs ρ' _ w S (h1.addM hp (Ex.new hp) (ne_none upd_same)) (h1.backN S f1 hp) (f1.trans (Ex.new hp).fr) upd_same (IsAll.ex (Ex.new hp) (g2.plus hp))⟩⟩
/-- operators -/
theorem pm_op {op : Operator} {Cd : Int → Int → Prop} {g : Int → Int → Int} (ho : OpR X (binaryOp op) (rI Cd fun i j => .int (g i j))) (h : PM X ρ a (fun y ρ1 => ∃ i, y = .int i ∧ PM X ρ1 b (fun z ρ2 => ∃ j, z = .int j ∧ Cd i j ∧ P (.int (g i j)) ρ2))) : PM X ρ (.BinOp a op b pos) P := by
  have k := pe_ex (X := X) (e := b) (ι := Int × Rho) (P := fun i => PM X i.2 b (fun z ρ2 => ∃ j, z = .int j ∧ Cd i.1 j ∧ P (.int (g i.1 j)) ρ2)) (t := fun i => tM i.2 (fun z ρ2 => ∃ j, z = .int j ∧ Cd i.1 j ∧ P (.int (g i.1 j)) ρ2)) fun i h => h
  refine PEimp (pe_op ho h k) fun σ H Q ⟨C, hh, q⟩ => ⟨C, hh, fun y v ρ1 H1 ⟨i, ei, hb⟩ S1 h1 f1 g1 => ⟨(i, ρ1), hb, C, h1, fun z w ρ2 H2 ⟨j, ej, hc, pj⟩ S2 h2 f2 g2 => ?_⟩⟩
  subst ei ej
  have ff : Fr (Own ρ σ) H1 H2 := fun a o z n => f2 a o z fun m => n (S1.ow.mp m)
  exact ⟨i, j, g1, g2, hc, q _ _ ρ2 H2 pj (S1.trans S2) h2 (f1.trans ff) rfl⟩
theorem pm_op0 {op : Operator} {g : Int → Int → Int} (ho : OpR X (binaryOp op) (rI0 fun i j => .int (g i j))) (h : PM X ρ a (fun y ρ1 => ∃ i, y = .int i ∧ PM X ρ1 b (fun z ρ2 => ∃ j, z = .int j ∧ P (.int (g i j)) ρ2))) : PM X ρ (.BinOp a op b pos) P := by
  have k := pe_ex (X := X) (e := b) (ι := Int × Rho) (P := fun i => PM X i.2 b (fun z ρ2 => ∃ j, z = .int j ∧ P (.int (g i.1 j)) ρ2)) (t := fun i => tM i.2 (fun z ρ2 => ∃ j, z = .int j ∧ P (.int (g i.1 j)) ρ2)) fun i h => h
  refine PEimp (pe_op ho h k) fun σ H Q ⟨C, hh, q⟩ => ⟨C, hh, fun y v ρ1 H1 ⟨i, ei, hb⟩ S1 h1 f1 g1 => ⟨(i, ρ1), hb, C, h1, fun z w ρ2 H2 ⟨j, ej, pj⟩ S2 h2 f2 g2 => ?_⟩⟩
  subst ei ej
  have ff : Fr (Own ρ σ) H1 H2 := fun a o z n => f2 a o z fun m => n (S1.ow.mp m)
  exact ⟨i, j, g1, g2, q _ _ ρ2 H2 pj (S1.trans S2) h2 (f1.trans ff) rfl⟩
theorem pm_add (h : PM X ρ a (fun y ρ1 => ∃ i, y = .int i ∧ PM X ρ1 b (fun z ρ2 => ∃ j, z = .int j ∧ P (.int (i + j)) ρ2))) : PM X ρ (.BinOp a .Add b pos) P := pm_op0 op_add h
theorem pm_eqI (h : PM X ρ a (fun y ρ1 => ∃ i, y = .int i ∧ PM X ρ1 b (fun z ρ2 => ∃ j, z = .int j ∧ P (.bool (decide (i = j))) ρ2))) : PM X ρ (.Compare a [.Eq] [b] pos) P := by
  have k := pe_ex (X := X) (e := b) (ι := Int × Rho) (P := fun i => PM X i.2 b (fun z ρ2 => ∃ j, z = .int j ∧ P (.bool (decide (i.1 = j))) ρ2)) (t := fun i => tM i.2 (fun z ρ2 => ∃ j, z = .int j ∧ P (.bool (decide (i.1 = j))) ρ2)) fun i h => h
  refine PEimp (pe_cmpR op_eq h k (nomark _)) fun σ H Q ⟨C, hh, q⟩ => ⟨C, hh, fun y v ρ1 H1 ⟨i, ei, hb⟩ S1 h1 f1 g1 => ⟨(i, ρ1), hb, C, h1, fun z w ρ2 H2 ⟨j, ej, pj⟩ S2 h2 f2 g2 => ?_⟩⟩
  subst ei ej
  have ff : Fr (Own ρ σ) H1 H2 := fun a o z n => f2 a o z fun m => n (S1.ow.mp m)
  have g1' : v = .int i := g1
  have g2' : w = .int j := g2
  subst g1' g2'
  exact ⟨rfl, q _ _ ρ2 H2 pj (S1.trans S2) h2 (f1.trans ff) (by show V.bl _ = V.bl _; rw [scal_dec])⟩
end
end Bf
set_option Elab.async false
set_option linter.all false
set_option maxRecDepth 100000
set_option maxHeartbeats 4000000
namespace Bf
open PySem PySem.Spec PyProof.Rows L2
/-! ### defs that change objects of their caller -/
def slotsA : List Arg → List Nat
  | [] => []
  | .s k :: ys => k :: slotsA ys
  | .x _ :: ys => slotsA ys
def Pass (ρ : Rho) : List Arg → List SV → Prop
  | [], [] => True
  | .x d :: ys, .d e :: as => d = e ∧ Pass ρ ys as
  | .s k :: ys, .o l p :: as => l = false ∧ (∃ l', ρ[k]? = some (some (.o l' p))) ∧ k ∉ slotsA ys ∧ Pass ρ ys as
  | _, _ => False
def updR (ρ : Rho) : List Arg → List SV → Rho
  | .s k :: ys, .o _ q :: sv => match ρ[k]? with
    | some (some (.o l _)) => (updR ρ ys sv).set k (some (.o l q))
    | _ => updR ρ ys sv
  | _ :: ys, _ :: sv => updR ρ ys sv
  | _, _ => ρ
def aft : List SV → Rho → List SV
  | .o l p :: xs, r :: ρ => (match r with
    | some (.o _ q) => .o l q
    | _ => .o l p) :: aft xs ρ
  | .d x :: xs, _ :: ρ => .d x :: aft xs ρ
  | xs, [] => xs
  | [], _ => []
theorem mem_slotsA {k : Nat} : ∀ {ys : List Arg}, k ∈ slotsA ys ↔ ∃ j : Nat, ys[j]? = some (.s k)
  | [] => by simp [slotsA]
  | .x d :: ys => by
    show k ∈ slotsA ys ↔ _
    rw [mem_slotsA]
    constructor
    · rintro ⟨j, h⟩
      exact ⟨j + 1, by simpa using h⟩
    · rintro ⟨j, h⟩
      cases j with
      | zero => simp at h
      | succ j => exact ⟨j, by simpa using h⟩
  | .s i :: ys => by
    show k ∈ i :: slotsA ys ↔ _
    rw [List.mem_cons, mem_slotsA]
    constructor
    · rintro (h | ⟨j, h⟩)
      · subst h
        exact ⟨0, rfl⟩
      · exact ⟨j + 1, by simpa using h⟩
    · rintro ⟨j, h⟩
      cases j with
      | zero =>
        have : Arg.s i = .s k := Option.some.inj h
        cases this
        exact .inl rfl
      | succ j => exact .inr ⟨j, by simpa using h⟩
theorem Pass.own {ρ : Rho} : ∀ {ys : List Arg} {as : List SV} {j k : Nat}, Pass ρ ys as → ys[j]? = some (.s k) → ∃ p l, as[j]? = some (.o false p) ∧ ρ[k]? = some (some (.o l p))
  | [], [], _, _, _, e => by simp at e
  | .x _ :: ys, .d _ :: as, 0, _, h, e => by simp at e
  | .x _ :: ys, .d _ :: as, j + 1, k, h, e => by
    obtain ⟨p, l, h1, h2⟩ := Pass.own (j := j) (k := k) h.2 (by simpa using e)
    exact ⟨p, l, by simpa using h1, h2⟩
  | .s i :: ys, .o l p :: as, 0, k, h, e => by
    have : Arg.s i = .s k := Option.some.inj e
    cases this
    obtain ⟨h1, ⟨l', h2⟩, _⟩ := h
    subst h1
    exact ⟨p, l', rfl, h2⟩
  | .s i :: ys, .o l p :: as, j + 1, k, h, e => by
    obtain ⟨p, l, h1, h2⟩ := Pass.own (j := j) (k := k) h.2.2.2 (by simpa using e)
    exact ⟨p, l, by simpa using h1, h2⟩
  | [], _ :: _, _, _, h, _ => by simp [Pass] at h
  | .x _ :: _, [], _, _, h, _ => by simp [Pass] at h
  | .s _ :: _, [], _, _, h, _ => by simp [Pass] at h
  | .x _ :: _, .o _ _ :: _, _, _, h, _ => by simp [Pass] at h
  | .s _ :: _, .d _ :: _, _, _, h, _ => by simp [Pass] at h
theorem Pass.back {ρ : Rho} : ∀ {ys : List Arg} {as : List SV} {j : Nat} {l : Bool} {p : OP}, Pass ρ ys as → as[j]? = some (.o l p) → l = false ∧ ∃ k l', ys[j]? = some (.s k) ∧ ρ[k]? = some (some (.o l' p))
  | [], [], _, _, _, _, e => by simp at e
  | .x _ :: ys, .d _ :: as, 0, _, _, h, e => by simp at e
  | .x _ :: ys, .d _ :: as, j + 1, l, p, h, e => by
    obtain ⟨h0, k, l', h1, h2⟩ := Pass.back (j := j) (l := l) (p := p) h.2 (by simpa using e)
    exact ⟨h0, k, l', by simpa using h1, h2⟩
  | .s i :: ys, .o l0 p0 :: as, 0, l, p, h, e => by
    have : SV.o l0 p0 = .o l p := Option.some.inj e
    cases this
    obtain ⟨h1, ⟨l', h2⟩, _⟩ := h
    exact ⟨h1, i, l', rfl, h2⟩
  | .s i :: ys, .o l0 p0 :: as, j + 1, l, p, h, e => by
    obtain ⟨h0, k, l', h1, h2⟩ := Pass.back (j := j) (l := l) (p := p) h.2.2.2 (by simpa using e)
    exact ⟨h0, k, l', by simpa using h1, h2⟩
  | [], _ :: _, _, _, _, h, _ => by simp [Pass] at h
  | .x _ :: _, [], _, _, _, h, _ => by simp [Pass] at h
  | .s _ :: _, [], _, _, _, h, _ => by simp [Pass] at h
  | .x _ :: _, .o _ _ :: _, _, _, _, h, _ => by simp [Pass] at h
  | .s _ :: _, .d _ :: _, _, _, _, h, _ => by simp [Pass] at h
theorem Pass.dat {ρ : Rho} : ∀ {ys : List Arg} {as : List SV} {j : Nat} {x : PyData}, Pass ρ ys as → as[j]? = some (.d x) → ys[j]? = some (.x x)
  | [], [], _, _, _, e => by simp at e
  | .x _ :: ys, .d _ :: as, 0, x, h, e => by
    have : SV.d _ = .d x := Option.some.inj e
    cases this
    obtain ⟨h1, _⟩ := h
    subst h1
    rfl
  | .x _ :: ys, .d _ :: as, j + 1, x, h, e => by
    have := Pass.dat (j := j) (x := x) h.2 (by simpa using e)
    simpa using this
  | .s i :: ys, .o l0 p0 :: as, 0, x, h, e => by simp at e
  | .s i :: ys, .o l0 p0 :: as, j + 1, x, h, e => by
    have := Pass.dat (j := j) (x := x) h.2.2.2 (by simpa using e)
    simpa using this
  | [], _ :: _, _, _, h, _ => by simp [Pass] at h
  | .x _ :: _, [], _, _, h, _ => by simp [Pass] at h
  | .s _ :: _, [], _, _, h, _ => by simp [Pass] at h
  | .x _ :: _, .o _ _ :: _, _, _, h, _ => by simp [Pass] at h
  | .s _ :: _, .d _ :: _, _, _, h, _ => by simp [Pass] at h
theorem Pass.one {ρ : Rho} : ∀ {ys : List Arg} {as : List SV} {i j k : Nat}, Pass ρ ys as → ys[i]? = some (.s k) → ys[j]? = some (.s k) → i = j
  | [], [], _, _, _, _, e, _ => by simp at e
  | .x _ :: ys, .d _ :: as, i, j, k, h, e, f => by
    cases i with
    | zero => simp at e
    | succ i => cases j with
      | zero => simp at f
      | succ j => rw [Pass.one (i := i) (j := j) (k := k) h.2 (by simpa using e) (by simpa using f)]
  | .s m :: ys, .o l0 p0 :: as, i, j, k, h, e, f => by
    cases i with
    | zero =>
      cases j with
      | zero => rfl
      | succ j =>
        have : Arg.s m = .s k := Option.some.inj e
        cases this
        exact absurd (mem_slotsA.mpr ⟨j, by simpa using f⟩) h.2.2.1
    | succ i => cases j with
      | zero =>
        have : Arg.s m = .s k := Option.some.inj f
        cases this
        exact absurd (mem_slotsA.mpr ⟨i, by simpa using e⟩) h.2.2.1
      | succ j => rw [Pass.one (i := i) (j := j) (k := k) h.2.2.2 (by simpa using e) (by simpa using f)]
  | [], _ :: _, _, _, _, h, _, _ => by simp [Pass] at h
  | .x _ :: _, [], _, _, _, h, _, _ => by simp [Pass] at h
  | .s _ :: _, [], _, _, _, h, _, _ => by simp [Pass] at h
  | .x _ :: _, .o _ _ :: _, _, _, _, h, _, _ => by simp [Pass] at h
  | .s _ :: _, .d _ :: _, _, _, _, h, _, _ => by simp [Pass] at h
theorem Pass.length {ρ : Rho} : ∀ {ys : List Arg} {as : List SV}, Pass ρ ys as → ys.length = as.length
  | [], [], _ => rfl
  | .x _ :: ys, .d _ :: as, h => by rw [List.length_cons, List.length_cons, Pass.length h.2]
  | .s _ :: ys, .o _ _ :: as, h => by rw [List.length_cons, List.length_cons, Pass.length h.2.2.2]
  | [], _ :: _, h => by simp [Pass] at h
  | .x _ :: _, [], h => by simp [Pass] at h
  | .s _ :: _, [], h => by simp [Pass] at h
  | .x _ :: _, .o _ _ :: _, h => by simp [Pass] at h
  | .s _ :: _, .d _ :: _, h => by simp [Pass] at h
theorem updR_sames (ρ : Rho) : ∀ (ys : List Arg) (sv : List SV), Sames ρ (updR ρ ys sv)
  | [], _ => by unfold updR; exact Sames.refl _
  | .x _ :: ys, [] => by unfold updR; exact Sames.refl _
  | .s _ :: ys, [] => by unfold updR; exact Sames.refl _
  | .x _ :: ys, s :: sv => by
    show Sames ρ (updR ρ ys sv)
    exact updR_sames ρ ys sv
  | .s k :: ys, .d _ :: sv => by
    show Sames ρ (updR ρ ys sv)
    exact updR_sames ρ ys sv
  | .s k :: ys, .o l' q :: sv => by
    have ih := updR_sames ρ ys sv
    unfold updR
    split
    · rename_i l p e
      obtain ⟨q1, e1⟩ := ih.nwo k l p e
      exact ih.trans (sames_set e1)
    · exact ih
theorem updR_out {ρ : Rho} {k : Nat} : ∀ {ys : List Arg} {sv : List SV}, k ∉ slotsA ys → (updR ρ ys sv)[k]? = ρ[k]?
  | [], _, _ => by unfold updR; rfl
  | .x _ :: ys, [], _ => by unfold updR; rfl
  | .s _ :: ys, [], _ => by unfold updR; rfl
  | .x _ :: ys, s :: sv, h => by
    show (updR ρ ys sv)[k]? = _
    exact updR_out h
  | .s i :: ys, .d _ :: sv, h => by
    show (updR ρ ys sv)[k]? = _
    exact updR_out fun z => h (List.mem_cons_of_mem _ z)
  | .s i :: ys, .o l' q :: sv, h => by
    have ih := updR_out (ρ := ρ) (k := k) (ys := ys) (sv := sv) fun z => h (List.mem_cons_of_mem _ z)
    unfold updR
    split
    · rw [set_other fun z => h (by rw [z]; exact List.mem_cons_self)]
      exact ih
    · exact ih
theorem updR_at {ρ : Rho} {k : Nat} {l l' : Bool} {p q : OP} (hk : ρ[k]? = some (some (.o l p))) : ∀ {ys : List Arg} {as sv : List SV} {j : Nat}, Pass ρ ys as → ys[j]? = some (.s k) → sv[j]? = some (.o l' q) → (updR ρ ys sv)[k]? = some (some (.o l q))
  | [], _, _, _, _, e, _ => by simp at e
  | _ :: _, _, [], _, _, _, e => by simp at e
  | .x _ :: ys, .d _ :: as, s :: sv, j, h, e, f => by
    cases j with
    | zero => simp at e
    | succ j =>
      show (updR ρ ys sv)[k]? = _
      exact updR_at hk (j := j) h.2 (by simpa using e) (by simpa using f)
  | .s m :: ys, .o l0 p0 :: as, .d _ :: sv, j, h, e, f => by
    cases j with
    | zero => simp at f
    | succ j =>
      show (updR ρ ys sv)[k]? = _
      exact updR_at hk (j := j) h.2.2.2 (by simpa using e) (by simpa using f)
  | .s m :: ys, .o l0 p0 :: as, .o l1 p1 :: sv, j, h, e, f => by
    cases j with
    | zero =>
      have : Arg.s m = .s k := Option.some.inj e
      cases this
      have : SV.o l1 p1 = .o l' q := Option.some.inj f
      cases this
      unfold updR
      rw [hk]
      have lt : k < ρ.length := (List.getElem?_eq_some_iff.mp hk).1
      exact set_same (by rw [(updR_sames ρ ys sv).len]; exact lt)
    | succ j =>
      have e' : ys[j]? = some (.s k) := by simpa using e
      have ih := updR_at hk (j := j) h.2.2.2 e' (by simpa using f : sv[j]? = some (.o l' q))
      have n : m ≠ k := fun z => h.2.2.1 (by rw [z]; exact mem_slotsA.mpr ⟨j, e'⟩)
      unfold updR
      split
      · rw [set_other n]
        exact ih
      · exact ih
  | .x _ :: _, [], _ :: _, _, h, _, _ => by simp [Pass] at h
  | .s _ :: _, [], _ :: _, _, h, _, _ => by simp [Pass] at h
  | .x _ :: _, .o _ _ :: _, _ :: _, _, h, _, _ => by simp [Pass] at h
  | .s _ :: _, .d _ :: _, _ :: _, _, h, _, _ => by simp [Pass] at h
theorem aft_own {l l' l2 : Bool} {p q : OP} : ∀ {xs : List SV} {ρ : Rho} {j : Nat}, (aft xs ρ)[j]? = some (.o l p) → ρ[j]? = some (some (.o l' q)) → p = q
  | [], ρ, j, e, f => by
    cases ρ <;> simp [aft] at e
  | x :: xs, [], j, e, f => by simp at f
  | .o l0 p0 :: xs, r :: ρ, 0, e, f => by
    have f' : r = some (.o l' q) := Option.some.inj f
    subst f'
    have : SV.o l0 q = .o l p := Option.some.inj e
    cases this
    rfl
  | .d x :: xs, r :: ρ, 0, e, f => by
    have : SV.d x = .o l p := Option.some.inj e
    cases this
  | .o l0 p0 :: xs, r :: ρ, j + 1, e, f => aft_own (l' := l') (l2 := l2) (j := j) (by simpa [aft] using e) (by simpa using f)
  | .d x :: xs, r :: ρ, j + 1, e, f => aft_own (l' := l') (l2 := l2) (j := j) (by simpa [aft] using e) (by simpa using f)
theorem aft_kind : ∀ (xs : List SV) (ρ : Rho) (j : Nat), (∀ x, (aft xs ρ)[j]? = some (.d x) ↔ xs[j]? = some (.d x)) ∧ (∀ l p, (aft xs ρ)[j]? = some (.o l p) → ∃ q, xs[j]? = some (.o l q)) ∧ ∀ l p, xs[j]? = some (.o l p) → ∃ q, (aft xs ρ)[j]? = some (.o l q)
  | [], ρ, j => by cases ρ <;> simp [aft]
  | x :: xs, [], j => by
    have : aft (x :: xs) [] = x :: xs := by cases x <;> rfl
    rw [this]
    exact ⟨fun _ => Iff.rfl, fun l p e => ⟨p, e⟩, fun l p e => ⟨p, e⟩⟩
  | .o l0 p0 :: xs, r :: ρ, 0 => by
    unfold aft
    cases r with
    | none =>
      refine ⟨fun x => Iff.rfl, fun l p e => ⟨p, e⟩, fun l p e => ⟨p, e⟩⟩
    | some r => cases r with
      | d y => refine ⟨fun x => Iff.rfl, fun l p e => ⟨p, e⟩, fun l p e => ⟨p, e⟩⟩
      | o l1 q1 =>
        refine ⟨fun x => by simp, fun l p e => ?_, fun l p e => ?_⟩
        · have : SV.o l0 q1 = .o l p := Option.some.inj e
          cases this
          exact ⟨p0, rfl⟩
        · have : SV.o l0 p0 = .o l p := Option.some.inj e
          cases this
          exact ⟨q1, rfl⟩
  | .d x :: xs, r :: ρ, 0 => by
    unfold aft
    exact ⟨fun x => Iff.rfl, fun l p e => ⟨p, e⟩, fun l p e => ⟨p, e⟩⟩
  | .o l0 p0 :: xs, r :: ρ, j + 1 => by
    have := aft_kind xs ρ j
    simpa [aft] using this
  | .d x :: xs, r :: ρ, j + 1 => by
    have := aft_kind xs ρ j
    simpa [aft] using this
theorem aft_length : ∀ (xs : List SV) (ρ : Rho), (aft xs ρ).length = xs.length
  | [], ρ => by cases ρ <;> simp [aft]
  | x :: xs, [] => by cases x <;> simp [aft]
  | .o l0 p0 :: xs, r :: ρ => by simp [aft, aft_length xs ρ]
  | .d x :: xs, r :: ρ => by simp [aft, aft_length xs ρ]
theorem map_some_get {α : Type} {xs : List α} {j : Nat} {y : α} : (xs.map some)[j]? = some (some y) ↔ xs[j]? = some y := by
  rw [List.getElem?_map]
  cases xs[j]? with
  | none => simp
  | some z => simp
theorem aft_sames (xs : List SV) (ρ : Rho) : Sames (xs.map some) ((aft xs ρ).map some) := by
  refine ⟨by rw [List.length_map, List.length_map, aft_length], fun j x e => ?_, fun j l p e => ?_, fun j l p e => ?_⟩
  · exact map_some_get.mpr (((aft_kind xs ρ j).1 x).mp (map_some_get.mp e))
  · obtain ⟨q, h⟩ := (aft_kind xs ρ j).2.1 l p (map_some_get.mp e)
    exact ⟨q, map_some_get.mpr h⟩
  · obtain ⟨q, h⟩ := (aft_kind xs ρ j).2.2 l p (map_some_get.mp e)
    exact ⟨q, map_some_get.mpr h⟩
abbrev callC (M : Ad) (P : Nat → Addr → Prop) (H : Hp) : Cn := ⟨M, P, H, fun _ _ => False, fun _ => False⟩
def spO {ι : Type} (args : ι → List SV) (pre : ι → Prop) (res : ι → PyData → List SV → Prop) : Sp := fun vs H Q _ => ∃ (M : Ad) (P : Nat → Addr → Prop) (i : ι), Holds (callC M P H) ((args i).map some) (vs.map some) H ∧ pre i ∧
  ∀ y v sv H', res i y sv → Sames ((args i).map some) (sv.map some) → Holds (callC M P H) (sv.map some) (vs.map some) H' → Is (fun a => M a ∨ (callC M P H).A a) H' y v → Q v H'
theorem pad_get {α : Type} {l : List (Option α)} {n j : Nat} {y : α} : (l ++ List.replicate n none)[j]? = some (some y) ↔ l[j]? = some (some y) := by
  by_cases lt : j < l.length
  · rw [List.getElem?_append_left lt]
  · rw [List.getElem?_append_right (by omega), List.getElem?_replicate]
    constructor
    · intro z
      split at z <;> cases z
    · intro z
      exact absurd (List.getElem?_eq_some_iff.mp z).1 lt
theorem Holds.pad {C : Cn} {ρ : Rho} {σ : L2.St} {H : Hp} (h : Holds C ρ σ H) (n m : Nat) (e : n = m) : Holds C (ρ ++ List.replicate n none) (σ ++ List.replicate m none) H := by
  subst e
  have al : ∀ a, All C (ρ ++ List.replicate n none) (σ ++ List.replicate n none) a ↔ All C ρ σ a := fun a => by
    constructor
    · rintro (m | m | ⟨i, l, p, e1, e2⟩)
      · exact .inl m
      · exact .inr (.inl m)
      · exact .inr (.inr ⟨i, l, p, pad_get.mp e1, pad_get.mp e2⟩)
    · rintro (m | m | ⟨i, l, p, e1, e2⟩)
      · exact .inl m
      · exact .inr (.inl m)
      · exact .inr (.inr ⟨i, l, p, pad_get.mpr e1, pad_get.mpr e2⟩)
  refine ⟨by rw [List.length_append, List.length_append, h.len, List.length_replicate, List.length_replicate], fun i x e => ?_, fun i l p e => ?_, fun i j l l' p q a e1 e2 e3 e4 => h.sep i j l l' p q a (pad_get.mp e1) (pad_get.mp e2) (pad_get.mp e3) (pad_get.mp e4), h.fr, h.m0, fun j a m => ⟨(h.a0 j a m).1, ?_⟩, h.th, fun W Hs z => ⟨(h.sn W Hs z).1, fun a m k => (h.sn W Hs z).2 a ((al a).mp m) k⟩⟩
  · obtain ⟨v, h1, h2⟩ := h.dat i x (pad_get.mp e)
    exact ⟨v, pad_get.mpr h1, Is.weak (fun a m _ => (al a).mp m) h2⟩
  · obtain ⟨a, h1, h2, h3⟩ := h.own i l p (pad_get.mp e)
    exact ⟨a, pad_get.mpr h1, p.weak h2 fun b m _ => (al b).mp m, h3⟩
  · obtain ⟨p, e1, e2⟩ := (h.a0 j a m).2
    exact ⟨p, pad_get.mpr e1, pad_get.mpr e2⟩
/-- what the caller may know at the end -/
theorem Holds.back {M : Ad} {P : Nat → Addr → Prop} {H H' : Hp} {xs : List SV} {vs : List V} {ρ : Rho} {σ : L2.St} (h0 : Holds (callC M P H) (xs.map some) (vs.map some) H) (h : Holds (callC M P H) ρ σ H') :
    Holds (callC M P H) ((aft xs ρ).map some) (vs.map some) H' := by
  refine h0.muts (aft_sames xs ρ) (A := (callC M P H).A) (fun a ⟨j, m⟩ => ?_) h.fr (fun b m => h.th b (.inl (h0.aH m))) fun j l p a e1 e2 => ?_
  · obtain ⟨_, p, e1, e2⟩ := h0.a0 j a m
    exact ⟨j, false, p, e1, e2⟩
  · obtain ⟨q, e⟩ := (aft_sames xs ρ).own j l p e1
    obtain ⟨b, f1, f2, f3, f4⟩ := h0.own j l q e
    rw [e2] at f1
    cases f1
    cases l with
    | true =>
      rw [if_pos rfl] at f4
      exact absurd f4 (q.there f2)
    | false =>
      rw [if_neg Bool.false_ne_true] at f4
      refine ⟨fun _ => ?_, fun n => absurd ⟨j, f4⟩ n⟩
      obtain ⟨_, p', k1, k2⟩ := h.a0 j a f4
      have pp := aft_own (l' := false) (l2 := false) (map_some_get.mp e1) k1
      subst pp
      obtain ⟨b, g1, g2, _⟩ := h.own j false p k1
      rw [k2] at g1
      cases g1
      refine p.weak g2 fun c m _ => ?_
      rcases m with m | m | ⟨i, l2, p2, y1, y2⟩
      · exact .inl m
      · exact .inr (.inl m)
      · obtain ⟨d, g1, g3, g4, g5⟩ := h0.own i l2 p2 y1
        rw [y2] at g1
        cases g1
        cases l2 with
        | true =>
          rw [if_pos rfl] at g5
          exact absurd g5 (p2.there g3)
        | false =>
          rw [if_neg Bool.false_ne_true] at g5
          exact .inr (.inl ⟨i, g5⟩)
section
variable {P : Program} {w : World} {K : PySem.W.Frag} {mg : Str → Option Value} {base : Heap}
theorem fnO {x : Str} {st : Stmt} {N ps : List Str} {k : Nat} {ι : Type} {args : ι → List SV} {pre : ι → Prop} {res : ι → PyData → List SV → Prop} (F : Has K mg x st) (S : FnScope N ps (defScope st)) (hl : ∀ i, (args i).length = ps.length)
    (bn : ∀ (kV doc pm : Value) (an : Option Addr) (cdv ct : Value) (us : List Value), us.length = ps.length → bindArgs (PySem.W.fnOf x x (defArgs st) (defBody st) (defScope st) .none kV doc pm an cdv ct) ⟨us, []⟩ = pure (ps.zip us))
    (hb : ∀ (f : Addr) (cdv : Value) (A : Around) (outer : List Env) (s : Shared) (H : Hp) (E : XK), Room k (A.deeper (envOfC x (defScope st) s.heap.objs.size f cdv)) → ∀ i, pre i →
      PSD (cxOf CX0 P w K mg base N x (defScope st) f cdv A outer s H E).nox (rho0 N (args i)) (defBody st) { nx := fun ρ => res i .none (aft (args i) ρ), rt := fun y ρ => res i y (aft (args i) ρ) }) :
    Cal P w K mg base (k + 1) x ps (spO args pre res) := by
  obtain ⟨f, fd, hm, F⟩ := F.ex
  have vl : ∀ {vs : List V} {M : Ad} {Pp : Nat → Addr → Prop} {H : Hp} {i : ι}, Holds (callC M Pp H) ((args i).map some) (vs.map some) H → vs.length = ps.length := fun {vs M Pp H i} h => by
    have := h.len
    rw [List.length_map, List.length_map] at this
    rw [this, hl]
  refine ⟨f, fd, hm, F.ok S (fun vs H Q E h => ?_) (fun cdv A outer s H vs Q E hr h => ?_), F.kp, FunD.bindsN F bn⟩
  · obtain ⟨M, Pp, i, h, _⟩ := h
    exact vl h
  · obtain ⟨M, Pp, i, h, hp, q⟩ := h
    have st : Holds (callC M Pp H) (rho0 N (args i)) (L2.start N vs) H := h.pad _ _ (by rw [hl, vl h])
    refine ⟨_, (hb f cdv A outer s H E hr i hp).nox, _, st, ⟨fun ρ σ H' r hh => ?_, fun y v ρ σ H' r hh g => ?_, fun _ _ _ z => z.elim, fun _ _ _ z => z.elim, fun _ _ _ _ _ _ z => z.elim⟩⟩
    · exact q .none .non _ H' r (aft_sames _ _) (h.back hh) rfl
    · exact q y v _ H' r (aft_sames _ _) (h.back hh) g
end
section
variable {X : Cx} {ρ : Rho} {e : Expr} {es : List Expr} {k : Nat} {x : Str} {ps : List Str} {pos p : Pos} {ι : Type} {args : ι → List SV} {pre : ι → Prop} {res : ι → PyData → List SV → Prop} {P : PyData → Rho → Prop}
theorem pm_call (G : Cal X.prog X.w X.K X.mg X.base k x ps (spO args pre res)) (ha : PMs X ρ (e :: es) (fun ys ρ1 => ∃ i, Pass ρ1 ys (args i) ∧ pre i ∧ ∀ y sv, res i y sv → P y (updR ρ1 ys sv)))
    (hr : Room k X.A := by first | assumption | exact Room.mono (by assumption) (by decide)) (hg : Gl X x := by rfl) (hdb : (x == ("__debug__" : Str)) = false := by decide) (he : starEach (e :: es) X.env = (false, eval e X.env) :: starEach es X.env := by rfl)
    (hpl : (backTo pos (starEach es X.env)).any (·.1) = false := by rfl) : PM X ρ (.Call (.Name x p) (e :: es) [] pos) P := by
  obtain ⟨f, fd, hm, F, hk, hb⟩ := G.ex
  refine PEimp (pe_call F hr hg hm hk hb .nil pass0 ha hdb he hpl) fun σ H Q ⟨C, hh, q⟩ => ⟨C, hh, fun ys vs ρ1 H1 ⟨i, ps, hp, w⟩ S1 h1 f1 g => ?_⟩
  show spO args pre res (vs ++ []) H1 Q E0
  rw [List.append_nil]
  have g' : IsArgs (All C ρ1 σ) H1 σ ys vs := IsArgs.weak (fun a m _ => (S1.all a).mp m) g
  let Pp : Nat → Addr → Prop := fun j a => ∃ k, ys[j]? = some (.s k) ∧ σ[k]? = some (some (V.ref a))
  let M : Ad := fun a => All C ρ1 σ a ∧ ¬ ∃ j, Pp j a
  have vs_at : ∀ {j k : Nat} {a : Addr}, ys[j]? = some (.s k) → σ[k]? = some (some (V.ref a)) → vs[j]? = some (.ref a) := fun {j k a} e1 e2 => by
    obtain ⟨v, h1, h2⟩ := g'.get e1
    have h2' : σ[k]? = some (some v) := h2
    rw [e2] at h2'
    cases h2'
    exact h1
  have pAll : ∀ {j : Nat} {a : Addr}, Pp j a → All C ρ1 σ a := fun {j a} ⟨k, e1, e2⟩ => by
    obtain ⟨p, l, _, e4⟩ := ps.own e1
    exact .inr (.inr ⟨k, l, p, e4, e2⟩)
  have own : ∀ {j : Nat} {l : Bool} {p : OP}, (args i)[j]? = some (.o l p) → l = false ∧ ∃ k l' a, ys[j]? = some (.s k) ∧ ρ1[k]? = some (some (.o l' p)) ∧ σ[k]? = some (some (V.ref a)) ∧ vs[j]? = some (.ref a) ∧ p.is (All C ρ1 σ) H1 a := fun {j l p} e => by
    obtain ⟨h0, k, l', e1, e2⟩ := ps.back e
    obtain ⟨a, f1, f2, _⟩ := h1.own k l' p e2
    exact ⟨h0, k, l', a, e1, e2, f1, vs_at e1 f1, f2⟩
  have al : ∀ a, All (callC M Pp H1) ((args i).map some) (vs.map some) a ↔ All C ρ1 σ a := fun a => by
    constructor
    · rintro (m | ⟨j, m⟩ | ⟨j, l, p, e1, e2⟩)
      · exact m.1
      · exact pAll m
      · obtain ⟨_, k, l', b, y1, y2, y3, y4, _⟩ := own (map_some_get.mp e1)
        have e2' := map_some_get.mp e2
        rw [y4] at e2'
        cases e2'
        exact pAll ⟨k, y1, y3⟩
    · intro m
      by_cases z : ∃ j, Pp j a
      · exact .inr (.inl z)
      · exact .inl ⟨m, z⟩
  have st : Holds (callC M Pp H1) ((args i).map some) (vs.map some) H1 := by
    refine ⟨by rw [List.length_map, List.length_map, ← g'.length, ps.length], fun j x e => ?_, fun j l p e => ?_, fun j m l l' p q a e1 e2 e3 e4 => ?_, fun a o e _ => e, fun a m => h1.allIn m.1, fun j a m => ?_, fun a m => m.elim (fun m => m) fun m => m.elim, fun W Hs z => z.elim⟩
    · obtain ⟨v, y1, y2⟩ := g'.get (ps.dat (map_some_get.mp e))
      exact ⟨v, map_some_get.mpr y1, Is.weak (fun a m _ => (al a).mp m) y2⟩
    · obtain ⟨h0, k, l', a, y1, y2, y3, y4, y5⟩ := own (map_some_get.mp e)
      subst h0
      exact ⟨a, map_some_get.mpr y4, p.weak y5 fun b m _ => (al b).mp m, fun m => m.2 ⟨j, k, y1, y3⟩, by rw [if_neg Bool.false_ne_true]; exact ⟨k, y1, y3⟩⟩
    · obtain ⟨_, k1, l1, a1, y1, y2, y3, y4, _⟩ := own (map_some_get.mp e1)
      obtain ⟨_, k2, l2, a2, z1, z2, z3, z4, _⟩ := own (map_some_get.mp e2)
      have e3' := map_some_get.mp e3
      have e4' := map_some_get.mp e4
      rw [y4] at e3'
      rw [z4] at e4'
      cases e3'
      cases e4'
      have kk : k1 = k2 := h1.sep k1 k2 _ _ _ _ _ y2 z2 y3 z3
      subst kk
      exact ps.one y1 z1
    · have ma := pAll m
      obtain ⟨k, e1, e2⟩ := m
      obtain ⟨p, l, e3, e4⟩ := ps.own e1
      exact ⟨h1.allIn ma, p, map_some_get.mpr e3, map_some_get.mpr (vs_at e1 e2)⟩
  refine ⟨M, Pp, i, st, hp, fun y v sv H2 r Ss hs gy => ?_⟩
  have big : Holds C (updR ρ1 ys sv) σ H2 := by
    refine h1.muts (updR_sames ρ1 ys sv) (A := (callC M Pp H1).A) (fun a ⟨j, m⟩ => ?_) hs.fr (fun b m => hs.th b (.inl (st.aH m))) fun k l p a e1 e2 => ⟨fun ⟨j, m⟩ => ?_, fun n => ?_⟩
    · obtain ⟨k, e1, e2⟩ := m
      obtain ⟨p, l, _, e4⟩ := ps.own e1
      exact ⟨k, l, p, e4, e2⟩
    · obtain ⟨k', y1, y2⟩ := m
      obtain ⟨p0, l0, y3, y4⟩ := ps.own y1
      obtain ⟨q0, y5⟩ := (updR_sames ρ1 ys sv).own k l p e1
      have kk : k' = k := h1.sep k' k _ _ _ _ a y4 y5 y2 e2
      subst kk
      obtain ⟨q, z1⟩ := Ss.nwo j false p0 (map_some_get.mpr y3)
      have z2 := updR_at y4 ps y1 (map_some_get.mp z1)
      rw [e1] at z2
      cases z2
      obtain ⟨b, k1, k2, _⟩ := hs.own j false p z1
      have k3 := map_some_get.mp k1
      rw [vs_at y1 y2] at k3
      cases k3
      exact p.weak k2 fun c m _ => (Ss.all c).mpr ((al c).mpr m)
    · rw [← e1]
      refine (updR_out fun z => n ?_).symm
      obtain ⟨j, e⟩ := mem_slotsA.mp z
      exact ⟨j, k, e, e2⟩
  have ff : Fr (Own ρ σ) H1 H2 := fun a o e n => hs.fr a o e fun ⟨j, k, y1, y2⟩ => n (S1.ow.mp (let ⟨p, l, _, y4⟩ := ps.own y1; ⟨k, l, p, y4, y2⟩))
  refine q y v (updR ρ1 ys sv) H2 (w y sv r) (S1.trans (updR_sames ρ1 ys sv)) big (f1.trans ff) (Is.weak (fun a m _ => ?_) gy)
  have m' := (S1.all a).mpr m
  by_cases z : ∃ j, Pp j a
  · exact .inr z
  · exact .inl ⟨m', z⟩
end
end Bf
set_option Elab.async false
set_option linter.all false
set_option maxRecDepth 100000
set_option maxHeartbeats 4000000
namespace Bf
open PySem PySem.Spec PyProof.Rows L2
/-- a slot gets an object that nobody else knows -/
theorem Holds.setA {C : Cn} {ρ : Rho} {σ : L2.St} {H : Hp} {i : Nat} {p : Addr} {P : OP} (h : Holds (C.add p) ρ σ H) (hn : C.H0 p = none) (hm : ¬ C.M0 p) (hs : ∀ W Hs, C.S W Hs → Hs p ≠ none → W p) (g : P.is (fun a => All C ρ σ a ∨ a = p) H p) (hi : ∀ q, ρ[i]? ≠ some (some (.o false q))) :
    Holds C (ρ.set i (some (.o true P))) (σ.set i (some (.ref p))) H := by
  have np : ∀ (m : Nat) (l : Bool) (q : OP), ρ[m]? = some (some (.o l q)) → σ[m]? ≠ some (some (V.ref p)) := fun m l q z1 z2 => by
    obtain ⟨a, f1, _, f3, _⟩ := h.own m l q z1
    rw [z2] at f1
    cases f1
    exact f3 (.inr rfl)
  have sub' : ∀ a, All C (ρ.set i (some (.o true P))) (σ.set i (some (.ref p))) a → All C ρ σ a ∨ a = p := fun a m => by
    rcases m with m | m | ⟨j, l, q, e1, e2⟩
    · exact .inl (.inl m)
    · exact .inl (.inr (.inl m))
    · rcases set_get e1 with ⟨z, _, _⟩ | ⟨ne, e1⟩
      · subst z
        rcases set_get e2 with ⟨_, z, _⟩ | ⟨ne, _⟩
        · cases z
          exact .inr rfl
        · exact absurd rfl ne
      · rw [set_other ne] at e2
        exact .inl (.inr (.inr ⟨j, l, q, e1, e2⟩))
  have sub : ∀ a, All C (ρ.set i (some (.o true P))) (σ.set i (some (.ref p))) a → All (C.add p) ρ σ a := fun a m => all_add.mpr (sub' a m)
  refine ⟨by rw [List.length_set, List.length_set, h.len], fun j y z => ?_, fun j l q z => ?_, fun j k l l' q r a e1 e2 e3 e4 => ?_, h.fr, fun a m => h.m0 a (.inl m), fun j a m => ⟨(h.a0 j a m).1, ?_⟩, h.th, fun W Hs z => ⟨(h.sn W Hs z).1, fun a m k => (h.sn W Hs z).2 a (sub a m) k⟩⟩
  · rcases set_get z with ⟨_, z, _⟩ | ⟨ne, z⟩
    · cases z
    · obtain ⟨u, h1, h2⟩ := h.dat j y z
      exact ⟨u, by rw [set_other ne]; exact h1, Is.weak (fun a m _ => sub a m) h2⟩
  · rcases set_get z with ⟨zz, q', lt⟩ | ⟨ne, z⟩
    · cases q'
      subst zz
      exact ⟨p, set_same (by rw [h.len]; exact lt), P.weak g fun a m _ => sub' a m, hm, by rw [if_pos rfl]; exact hn⟩
    · obtain ⟨a, h1, h2, h3, h4⟩ := h.own j l q z
      exact ⟨a, by rw [set_other ne]; exact h1, q.weak h2 fun a m _ => sub a m, fun m => h3 (.inl m), h4⟩
  · by_cases ij : i = j
    · by_cases ik : i = k
      · exact ij.symm.trans ik
      · subst ij
        rcases set_get e3 with ⟨_, z, _⟩ | ⟨ne, _⟩
        · cases z
          rw [set_other ik] at e2 e4
          exact absurd e4 (np k _ _ e2)
        · exact absurd rfl ne
    · by_cases ik : i = k
      · subst ik
        rcases set_get e4 with ⟨_, z, _⟩ | ⟨ne, _⟩
        · cases z
          rw [set_other ij] at e1 e3
          exact absurd e3 (np j _ _ e1)
        · exact absurd rfl ne
      · rw [set_other ij] at e1 e3
        rw [set_other ik] at e2 e4
        exact h.sep j k l l' q r a e1 e2 e3 e4
  · obtain ⟨q, e1, e2⟩ := (h.a0 j a m).2
    have ne : i ≠ j := fun z => hi q (by rw [z]; exact e1)
    exact ⟨q, by rw [set_other ne]; exact e1, by rw [set_other ne]; exact e2⟩
/-! ### tests with effects -/
def tMt (ρ : Rho) (P : Bool → Rho → Prop) : TT := fun σ H Q => ∃ C, Holds C ρ σ H ∧ ∀ b ρ' H', P b ρ' → Sames ρ ρ' → Holds C ρ' σ H' → Fr (Own ρ σ) H H' → Q b H'
abbrev PMt (X : Cx) (ρ : Rho) (e : Expr) (P : Bool → Rho → Prop) : Prop := PT X e (tMt ρ P)
theorem Fr.step {ρ ρ1 : Rho} {σ : L2.St} {H H1 H2 : Hp} (S : Sames ρ ρ1) (f1 : Fr (Own ρ σ) H H1) (f2 : Fr (Own ρ1 σ) H1 H2) : Fr (Own ρ σ) H H2 := f1.trans fun a o z n => f2 a o z fun m => n (S.ow.mp m)
section
variable {X : Cx} {ρ : Rho} {e a b c : Expr} {es : List Expr} {x : PyData} {pos p apos : Pos} {P : PyData → Rho → Prop} {T : Bool → Rho → Prop} {F : List PyData → Rho → Prop} {G : List Arg → Rho → Prop} {d : Bool}
theorem mt_x (h : PXt X ρ e d) (w : T d ρ) : PMt X ρ e T := PTimp h fun σ H Q ⟨C, hh, q⟩ => ⟨C, hh, fun H' e1 => q d ρ H' w (Sames.refl ρ) (hh.ex e1) e1.fr⟩
theorem mt_m (h : PM X ρ e (fun y ρ' => ∃ d, y = .bool d ∧ T d ρ')) (he : ∀ whole, isTrue e X.env whole = (do let v ← whole; standAt e.pos; holding [v] (truthy v)) := by intro _; rfl) : PMt X ρ e T := PTimp (pt_val h he) fun σ H Q ⟨C, hh, q⟩ =>
  ⟨C, hh, fun y v ρ' H' ⟨d, ey, t⟩ S h' f g => by
    subst ey
    exact ⟨d, g, q d ρ' H' t S h' f⟩⟩
theorem mt_eqI (h : PM X ρ a (fun y ρ1 => ∃ i, y = .int i ∧ PM X ρ1 b (fun z ρ2 => ∃ j, z = .int j ∧ T (decide (i = j)) ρ2))) : PMt X ρ (.Compare a [.Eq] [b] pos) T := by
  have k := pe_ex (X := X) (e := b) (ι := Int × Rho) (P := fun i => PM X i.2 b (fun z ρ2 => ∃ j, z = .int j ∧ T (decide (i.1 = j)) ρ2)) (t := fun i => tM i.2 (fun z ρ2 => ∃ j, z = .int j ∧ T (decide (i.1 = j)) ρ2)) fun i h => h
  refine PTimp (pt_cmpR op_eq h k (nomark _)) fun σ H Q ⟨C, hh, q⟩ => ⟨C, hh, fun y v ρ1 H1 ⟨i, ei, hb⟩ S1 h1 f1 g1 => ⟨(i, ρ1), hb, C, h1, fun z w ρ2 H2 ⟨j, ej, pj⟩ S2 h2 f2 g2 => ?_⟩⟩
  subst ei ej
  have g1' : v = .int i := g1
  have g2' : w = .int j := g2
  subst g1' g2'
  exact ⟨rfl, _, rfl, by rw [scal_dec]; exact q _ ρ2 H2 pj (S1.trans S2) h2 (Fr.step S1 f1 f2)⟩
theorem mt_and (ha : PXt X ρ a d) (hb : d = true → PMt X ρ b T) (hf : d = false → T false ρ) : PMt X ρ (.BoolOp .And [a, b] pos) T := by
  have nv : PT X b (fun _ _ _ => False) := ⟨fun _ _ _ _ _ _ z => z.elim⟩
  cases d with
  | true =>
    refine PTimp (pw_and ha (pw_and1 (hb rfl))).pt fun σ H Q ⟨C, hh, q⟩ => ⟨C, hh, fun H1 e1 => ?_⟩
    show (if true = true then _ else _)
    rw [if_pos rfl]
    exact ⟨C, hh.ex e1, fun t ρ' H' t1 S h' f => q t ρ' H' t1 S h' (e1.fr.trans f)⟩
  | false =>
    refine PTimp (pw_and ha (pw_and1 nv)).pt fun σ H Q ⟨C, hh, q⟩ => ⟨C, hh, fun H1 e1 => ?_⟩
    show (if false = true then _ else _)
    rw [if_neg Bool.false_ne_true]
    exact q false ρ H1 (hf rfl) (Sames.refl ρ) (hh.ex e1) e1.fr
theorem pm_if (hc : PMt X ρ c (fun d ρ1 => (d = true → PM X ρ1 a P) ∧ (d = false → PM X ρ1 b P))) : PM X ρ (.IfExp c a b pos) P := by
  have ka := pe_ex (X := X) (e := a) (ι := Rho) (P := fun i => PM X i a P) (t := fun i => tM i P) fun i h => h
  have kb := pe_ex (X := X) (e := b) (ι := Rho) (P := fun i => PM X i b P) (t := fun i => tM i P) fun i h => h
  refine PEimp (pe_ifExp hc ka kb) fun σ H Q ⟨C, hh, q⟩ => ⟨C, hh, fun d ρ1 H1 ⟨ta, tb⟩ S1 h1 f1 => ?_⟩
  have fin : tM ρ1 P σ H1 Q := ⟨C, h1, fun y v ρ2 H2 py S2 h2 f2 g2 => q y v ρ2 H2 py (S1.trans S2) h2 (Fr.step S1 f1 f2) (Is.weak (fun a m _ => (S1.all a).mpr m) g2)⟩
  cases d with
  | true => exact (show (if true = true then _ else _) by rw [if_pos rfl]; exact ⟨ρ1, ta rfl, fin⟩)
  | false => exact (show (if false = true then _ else _) by rw [if_neg Bool.false_ne_true]; exact ⟨ρ1, tb rfl, fin⟩)
/-- an item taken out of a list that the slot holds -/
theorem pm_pop (k : Nat) {nm : Str} {l : Bool} {ds0 : List PyData} {cpos : Pos} (hk : ρ[k]? = some (some (.o l (oL ds0)))) (he : PM X ρ e (fun y ρ1 => ∃ (ds : List PyData) (j : Int) (n : Nat) (z : PyData), ρ1[k]? = some (some (.o l (oL ds))) ∧ y = .int j ∧ (-(2 ^ 63) ≤ j ∧ j < 2 ^ 63) ∧ seqIndex? j ds.length = some n ∧ ds[n]? = some z ∧ P z (ρ1.set k (some (.o l (oL (ds.eraseIdx n))))))) (hN : X.N[k]? = some nm := by rfl)
    (hv : Vis X.env.scope nm := by first | exact Or.inl rfl | exact Or.inr (Or.inl rfl) | exact Or.inr (Or.inr rfl)) (hd : (nm == ("__debug__" : Str)) = false := by decide) (hcd : (nm == ("__classdict__" : Str)) = false := by decide)
    (hbase : attributeBase (.Name nm p) "pop" X.env (eval (.Name nm p) X.env) = eval (.Name nm p) X.env := by rfl)
    (hfew : ((backTo cpos (starEach [e] X.env)).all (fun x => !x.1) && (backToKw cpos (keywordEach [] X.env)).all (fun x => x.1.isSome)
      && decide ([e].length + ([] : List Keyword).length + (if ([] : List Keyword).isEmpty then 0 else 1) < 30)) = true := by rfl)
    (hline : (apos.endLine == cpos.line) = true := by rfl) (hse : starEach [e] X.env = (false, eval e X.env) :: starEach [] X.env := by rfl) (hpl : (backTo cpos (starEach [] X.env)).any (·.1) = false := by rfl) :
    PM X ρ (.Call (.Attribute (.Name nm p) "pop" apos) [e] [] cpos) P :=
  PEimp (pe_bm PySem.F.plainAttrs_list PySem.F.slot_list_pop PySem.F.type_list_pop mt_popAt (pe_var hN hv hd hcd) (pa_cons he pa_nil hse) hbase hfew hline hse hpl) fun σ H Q ⟨C, hh, q⟩ => by
    obtain ⟨a, e1, ⟨vs, g1, g2⟩, _⟩ := hh.own k l _ hk
    refine ⟨.ref a, e1, .inl ⟨rfl, vs, SqL.of g1⟩, C, hh, fun y v ρ1 H1 ⟨ds, j, n, z, k1, ey, hj, hn, hz, w⟩ S1 h1 f1 g => ?_⟩
    subst ey
    have gv : v = .int j := g
    subst gv
    obtain ⟨a', y1, ⟨us, y2, y3⟩, _⟩ := h1.own k l _ k1
    rw [e1] at y1
    cases y1
    obtain ⟨u, z1, z2⟩ := y3.get hz
    refine ⟨a, us, j, n, u, rfl, rfl, y2, hj.1, hj.2, by rw [← y3.length]; exact hn, z1, ?_⟩
    have inA : Own ρ1 σ a := ⟨k, l, _, k1, e1⟩
    have fu : Fr (Own ρ1 σ) H1 (upd H1 a (.lst (us.eraseIdx n))) := Fr.upd inA
    have z3 : Is (All C ρ σ) H1 z u := Is.weak (fun a m _ => (S1.all a).mpr m) z2
    exact q z u _ _ w (S1.trans (sames_set k1)) (h1.mut k1 e1 (fun b o z n => by rw [upd_ne n]; exact z) ⟨_, upd_same, IsAll.fr fu.all (IsAll.eraseIdx n y3)⟩) (Fr.step S1 f1 fu) (Is.fr (fun a o q n => fu a o q fun m => n ((S1.all a).mp m.all)) z3)
end
end Bf
set_option Elab.async false
set_option linter.all false
set_option maxRecDepth 100000
set_option maxHeartbeats 4000000
namespace Bf
open PySem PySem.Spec PyProof.Rows L2
/-! ### comprehensions with effects -/
def mrg1 : Option SV → Option SV → Option SV
  | some (.o l _), some (.o _ q) => some (.o l q)
  | x, _ => x
/-- ρ, what it holds being as in ρ3 -/
def mrg (ρ ρ3 : Rho) : Rho := List.zipWith mrg1 ρ ρ3
theorem mrg_get {ρ ρ3 : Rho} (hl : ρ3.length = ρ.length) (i : Nat) : (mrg ρ ρ3)[i]? = match ρ[i]?, ρ3[i]? with
    | some x, some y => some (mrg1 x y)
    | _, _ => none := by
  unfold mrg
  rw [List.getElem?_zipWith]
  cases ρ[i]? <;> cases ρ3[i]? <;> rfl
theorem mrg_sames {ρ ρ3 : Rho} (hl : ρ3.length = ρ.length) : Sames ρ (mrg ρ ρ3) := by
  have both : ∀ {i : Nat} {x : Option SV}, ρ[i]? = some x → ∃ y, ρ3[i]? = some y := fun {i x} e => by
    have lt := (List.getElem?_eq_some_iff.mp e).1
    exact ⟨_, List.getElem?_eq_getElem (by rw [hl]; exact lt)⟩
  refine ⟨by unfold mrg; rw [List.length_zipWith, hl, Nat.min_self], fun i x e => ?_, fun i l p e => ?_, fun i l p e => ?_⟩
  · rw [mrg_get hl] at e
    cases h1 : ρ[i]? with
    | none =>
      rw [h1] at e
      cases e
    | some a =>
      obtain ⟨b, h2⟩ := both h1
      rw [h1, h2] at e
      cases a with
      | none => exact (by cases e)
      | some a => cases a with
        | d y => cases b with
          | none => exact e
          | some b => cases b <;> exact e
        | o l p => cases b with
          | none => exact (by cases e)
          | some b => cases b <;> exact (by cases e)
  · rw [mrg_get hl] at e
    cases h1 : ρ[i]? with
    | none =>
      rw [h1] at e
      cases e
    | some a =>
      obtain ⟨b, h2⟩ := both h1
      rw [h1, h2] at e
      cases a with
      | none => exact (by cases e)
      | some a => cases a with
        | d y => cases b with
          | none => exact (by cases e)
          | some b => cases b <;> exact (by cases e)
        | o l1 p1 => cases b with
          | none =>
            cases e
            exact ⟨_, rfl⟩
          | some b => cases b <;> cases e <;> exact ⟨_, rfl⟩
  · obtain ⟨b, h2⟩ := both e
    rw [mrg_get hl, e, h2]
    cases b with
    | none => exact ⟨p, rfl⟩
    | some b => cases b with
      | d y => exact ⟨p, rfl⟩
      | o l1 q => exact ⟨q, rfl⟩
theorem wipeR_len {ρ : Rho} : ∀ {vs : List Nat}, (wipeR ρ vs).length = ρ.length
  | [] => rfl
  | v :: vs => by
    show ((wipeR ρ vs).set v none).length = _
    rw [List.length_set, wipeR_len]
theorem wipeR_own {ρ : Rho} {i : Nat} {y : SV} : ∀ {vs : List Nat}, i ∉ vs → ρ[i]? = some (some y) → (wipeR ρ vs)[i]? = some (some y)
  | [], _, h => h
  | v :: vs, n, h => by
    show ((wipeR ρ vs).set v none)[i]? = _
    rw [set_other fun z => n (by rw [z]; exact List.mem_cons_self)]
    exact wipeR_own (fun z => n (List.mem_cons_of_mem _ z)) h
section
variable {X : Cx} {ρ : Rho} {s : Bool} {elt tg it : Expr} {scope : Scope} {own : List (Str × Nat)} {pos : Pos} {α : Type} {l : List α} {g : α → PyData} {F : List PyData → Rho → Prop}
/-- a tracked object that nobody knows has changed -/
theorem Holds.mutM {C : Cn} {ρ : Rho} {σ : L2.St} {H : Hp} {D : Addr} {o : HO} (h : Holds C ρ σ H) (m : C.M0 D) (n : C.H0 D = none) : Holds C ρ σ (upd H D o) := by
  have inA : All C ρ σ D := .inl m
  have k : ∀ b u, H b = some u → b ≠ D → upd H D o b = some u := fun b u e ne => by
    rw [upd_ne ne]
    exact e
  have there : ∀ b, H b ≠ none → upd H D o b ≠ none := fun b z => by
    by_cases w : b = D
    · rw [w, upd_same]
      exact fun z => by cases z
    · rw [upd_ne w]
      exact z
  have fr : Fr (All C ρ σ) H (upd H D o) := Fr.upd inA
  refine ⟨h.len, fun i x e => let ⟨v, h1, h2⟩ := h.dat i x e; ⟨v, h1, Is.fr fr h2⟩, fun i l p e => ?_, h.sep, fun a u e ne => k a u (h.fr a u e ne) fun w => (by rw [w, n] at e; cases e), fun a z => there a (h.m0 a z), h.a0, fun a z => there a (h.th a z), fun W Hs z => ⟨fun b u e ne => k b u ((h.sn W Hs z).1 b u e ne) fun w => ne (by rw [w] at e ⊢; exact (h.sn W Hs z).2 D inA (ne_none e)), (h.sn W Hs z).2⟩⟩
  obtain ⟨a, h1, h2, h3, h4⟩ := h.own i l p e
  refine ⟨a, h1, p.fr h2 fun b u e w => k b u e fun y => ?_, h3, h4⟩
  rcases w with w | w
  · exact h3 (by rw [← w, y]; exact m)
  · exact w (by rw [y]; exact inA)
/-- a turn -/
structure LcM (C : Cn) (ρ : Rho) (σ : L2.St) (H1 : Hp) (D : Addr) (Inv : Nat → List PyData → Rho → Prop) (i : Nat) (H : Hp) : Prop where
  ex : ∃ ys ρ' vs, Inv i ys ρ' ∧ ys.length = i ∧ Sames ρ ρ' ∧ Holds (C.add D) ρ' σ H ∧ H D = some (.lst vs) ∧ IsAll (fun a => All C ρ σ a ∨ a = D) H ys vs ∧ Fr (Own ρ σ) H1 H
theorem lcM_read (Inv : Nat → List PyData → Rho → Prop) (hl : l.length ≤ 1000000) (h0 : Inv 0 [] ρ)
    (hb : ∀ (i : Nat) (a : α) (ys : List PyData) (ρ' : Rho), l[i]? = some a → ys.length = i → Inv i ys ρ' → ∃ ts ρt, within ts (own.map (·.2)) = true ∧ (∀ j, j ∉ own.map (·.2) → ρt[j]? = (wipeR ρ' (own.map (·.2)))[j]?) ∧
      (∀ (s : Shared) (H : Hp) (C : Addr) (cl : List (Str × Addr)) (fp : List Addr), PGD (X.blk s H scope (compEnvC scope cl C X.env) fp) tg ts (wipeR ρ' (own.map (·.2))) (g a) ρt) ∧
      (∀ (s : Shared) (H : Hp) (C : Addr) (cl : List (Str × Addr)) (fp : List Addr), PM (X.blk s H scope (compEnvC scope cl C X.env) fp) ρt elt (fun y ρ3 => Inv (i + 1) (ys ++ [y]) (mrg ρ' ρ3))))
    (hF : ∀ ys ρ', ys.length = l.length → Inv l.length ys ρ' → F ys ρ') (hw : noOwn ρ (own.map (·.2)) = true) {C : Cn} {σ : L2.St} {H : Hp} {Q : VK} (hh : Holds C ρ σ H)
    (q : ∀ ys p vs ρ' H', F ys ρ' → Sames ρ ρ' → Holds (C.add p) ρ' σ H' → H p = none → Fr (Own ρ σ) H H' → H' p = some (.lst vs) → IsAll (fun a => All C ρ σ a ∨ a = p) H' ys vs → Q (.ref p) H') :
    tLc (wD ρ (l.map g)) (fun v σ H Q => ∃ i : PyData × List Nat × Rho × Rho, (∀ (s : Shared) (H : Hp) (C : Addr) (cl : List (Str × Addr)) (fp : List Addr), PGD (X.blk s H scope (compEnvC scope cl C X.env) fp) tg i.2.1 i.2.2.1 i.1 i.2.2.2) ∧ gD i.2.1 i.2.2.1 i.1 i.2.2.2 v σ H Q) tYes
      (fun σ H Q => ∃ i : Rho × (PyData → Rho → Prop), (∀ (s : Shared) (H : Hp) (C : Addr) (cl : List (Str × Addr)) (fp : List Addr), PM (X.blk s H scope (compEnvC scope cl C X.env) fp) i.1 elt i.2) ∧ tM i.1 i.2 σ H Q) (own.map (·.2)) σ H Q := by
  refine ⟨C, hh, fun J H1 e1 wk D nD => ?_⟩
  have hw0 : ∀ i ∈ own.map (·.2), ∀ l p, ρ[i]? ≠ some (some (SV.o l p)) := fun i m => isO_no (noOwn_ok hw i m)
  refine ⟨fun i m H' => m = l.length - i ∧ i ≤ l.length ∧ LcM C ρ σ H1 D Inv i H', ⟨l.length, by simp, Nat.zero_le _, ⟨[], ρ, [], h0, rfl, Sames.refl ρ, (hh.ex e1).addM nD (Ex.new nD) (ne_none upd_same), upd_same, True.intro, (Ex.new nD).fr⟩⟩, ?_⟩
  rintro i m H' ⟨rfl, hle, ⟨ys, ρ', vs, inv, ly, S, hD, hv, iv, ff⟩⟩
  have wW : ∀ a, (All C ρ σ a ∨ a = D) → H1 a ≠ none → All C ρ σ a := fun a m k => m.resolve_right fun z => k (by rw [z]; exact nD)
  obtain ⟨k1, k2⟩ := wk H' (fun a => All C ρ σ a ∨ a = D) (fun a m => m.elim (fun m => hD.allIn (all_add.mpr (.inl ((S.all a).mpr m)))) fun m => by rw [m]; exact ne_none hv) wW (fun a o e n => ff a o e fun m => n (.inl m.all))
  have nH : H D = none := e1.back nD
  by_cases lt : i < l.length
  · have ga : l[i]? = some l[i] := List.getElem?_eq_getElem lt
    have gd : (l.map g)[i]? = some (g l[i]) := by rw [List.getElem?_map, ga, Option.map_some]
    obtain ⟨go, yl⟩ := k1 i _ gd
    refine .inr ⟨go, fun H2 => LcM C ρ σ H1 D Inv (i + 1) H2, fun H2 I2 => ⟨l.length - (i + 1), by omega, rfl, lt, I2⟩, fun x H2 y => ?_⟩
    obtain ⟨e2, isx⟩ := yl x H2 y
    obtain ⟨ts, ρt, hts, hk, hg, he⟩ := hb i l[i] ys ρ' ga ly inv
    have hA : Holds (C.add D) ρ' σ H2 := hD.ex e2
    have hw' : ∀ i ∈ own.map (·.2), ∀ l p, ρ'[i]? ≠ some (some (SV.o l p)) := fun i m l p z => let ⟨q, z'⟩ := S.own i l p z; hw0 i m l q z'
    obtain ⟨hB, eB⟩ := hA.wipe (vs := own.map (·.2)) hw'
    have eAll : ∀ a, All (C.add D) (wipeR ρ' (own.map (·.2))) (L2.wipe σ (own.map (·.2))) a ↔ All C ρ σ a ∨ a = D := fun a => (eB a).trans (all_add.trans (or_congr_left (S.all a)))
    refine ⟨(g l[i], ts, wipeR ρ' (own.map (·.2)), ρt), hg, C.add D, hB, Is.weak (fun a m _ => (eAll a).mp m) isx, fun σ2 h2 eq2 l2 o2 => ?_⟩
    have we : L2.wipe σ2 (own.map (·.2)) = L2.wipe σ (own.map (·.2)) := wipe_eq (by rw [l2, L2.wipe_length]) fun j n => by
      rw [o2 j fun z => n (within_ok hts j z)]
      exact wipe_out' n
    refine ⟨we, ?_⟩
    show ∃ i1 : Rho × (PyData → Rho → Prop), _ ∧ tM i1.1 i1.2 σ2 H2 _
    refine ⟨(ρt, fun y ρ3 => Inv (i + 1) (ys ++ [y]) (mrg ρ' ρ3)), he, C.add D, h2, fun y' v ρ3 H4 inv' S3 h3 f4 iy => ?_⟩
    -- what the element's slots hold
    have len3 : ρ3.length = ρ'.length := by
      have a1 := h2.len
      have a2 := hA.len
      rw [S3.len, ← a1, l2, L2.wipe_length, a2]
    -- a slot that is held is held before and after the block
    have out : ∀ {j : Nat} {l : Bool} {p : OP}, ρ'[j]? = some (some (SV.o l p)) → σ2[j]? = σ[j]? := fun {j l p} z => by
      have n : j ∉ own.map (·.2) := fun m => hw' j m l p z
      rw [o2 j fun z => n (within_ok hts j z)]
      exact wipe_out' n
    have nDown : ∀ {σ' : L2.St} {ρ' : Rho} {H' : Hp}, Holds (C.add D) ρ' σ' H' → ∀ {j : Nat} {l : Bool} {p : OP}, ρ'[j]? = some (some (SV.o l p)) → σ'[j]? ≠ some (some (V.ref D)) := fun {σ' ρ' H'} h {j l p} z1 z2 => by
      obtain ⟨a, f1, _, f3, _⟩ := h.own j l p z1
      rw [z2] at f1
      cases f1
      exact f3 (.inr rfl)
    have ownt : ∀ a, Own ρt σ2 a → Own ρ' σ a := fun a ⟨j, lb, p, z1, z2⟩ => by
      obtain ⟨b, f1, f2, f3, f4'⟩ := h2.own j lb p z1
      rw [z2] at f1
      cases f1
      have aIn := (eq2 a).mp (.inr (.inr ⟨j, lb, p, z1, z2⟩))
      rcases (eAll a).mp aIn with m | m
      · rcases m with m | ⟨jj, m⟩ | m
        · exact absurd (.inl m) f3
        · obtain ⟨_, p', y1, y2⟩ := hD.a0 jj a m
          exact ⟨jj, false, p', y1, y2⟩
        · exact S.ow.mpr m
      · exact absurd (.inr m) f3
    have fO : Fr (Own ρ' σ) H2 H4 := fun a o z n => f4 a o z fun m => n (ownt a m)
    have hM : Holds (C.add D) (mrg ρ' ρ3) σ H4 := by
      refine hA.muts (mrg_sames len3) (A := Own ρ' σ) (fun a m => m) fO (fun b ⟨j, lb, p, z1, z2⟩ => ?_) fun j lb p a z1 z2 => ⟨fun _ => ?_, fun n => ?_⟩
      · have ba : All (C.add D) ρ' σ b := .inr (.inr ⟨j, lb, p, z1, z2⟩)
        exact h3.allIn ((S3.all b).mpr ((eq2 b).mpr ((eB b).mpr ba)))
      · obtain ⟨p0, z0⟩ := (mrg_sames len3).own j lb p z1
        -- the same slot holds the object behind the element
        have so : σ2[j]? = some (some (V.ref a)) := by rw [out z0, z2]
        have wj : (wipeR ρ' (own.map (·.2)))[j]? = some (some (SV.o lb p0)) := wipeR_own (fun m => hw' j m _ _ z0) z0
        obtain ⟨q3, x1⟩ := S3.nwo j lb p0 (by rw [hk j fun m => hw' j m _ _ z0]; exact wj)
        obtain ⟨b, f1, f2, _⟩ := h3.own j lb q3 x1
        rw [so] at f1
        cases f1
        rw [mrg_get len3, z0, x1] at z1
        have zz : some (SV.o lb q3) = some (SV.o lb p) := Option.some.inj z1
        cases zz
        exact p.weak f2 fun c m _ => (S3.all c).mpr ((eq2 c).mpr ((eB c).mpr m))
      · exact absurd ⟨j, lb, _, ((mrg_sames len3).own j lb p z1).choose_spec, z2⟩ n
    have nDO : ¬ Own ρ' σ D := fun ⟨j, lb, p, z1, z2⟩ => nDown hA z1 z2
    have hv4 : H4 D = some (.lst vs) := fO D _ (e2 _ _ hv) nDO
    have f14 : Fr (Own ρ σ) H1 H4 := (ff.trans e2.fr).trans fun a o z n => fO a o z fun m => n (S.ow.mp m)
    have fu : Fr (fun a => All C ρ σ a ∨ a = D) H4 (upd H4 D (.lst (vs ++ [v]))) := Fr.upd (.inr rfl)
    have i4 : IsAll (fun a => All C ρ σ a ∨ a = D) H4 ys vs := IsAll.fr (fun a o z n => fO a o (e2 a o z) fun m => n (.inl (S.ow.mp m).all)) iv
    refine ⟨vs, hv4, by rw [← i4.length, ly]; exact sz_lt (by omega), ys ++ [y'], mrg ρ' ρ3, vs ++ [v], inv', by rw [List.length_append, ly]; rfl, S.trans (mrg_sames len3), ?_, upd_same, ?_, ?_⟩
    · exact hM.mutM (.inr rfl) (hh.old nH)
    · refine IsAll.append (IsAll.fr fu i4) (IsAll.one (Is.fr fu (Is.weak (fun a m _ => ?_) iy)))
      exact (eq2 a).mpr ((eAll a).mpr m)
    · exact fun a o z n => by
        rw [upd_ne (ne_of_none z nD)]
        exact f14 a o z n
  · have e : i = l.length := by omega
    subst e
    rw [List.length_map] at k2
    exact .inl ⟨k2, q ys D vs ρ' H' (hF ys ρ' ly inv) S hD nH (e1.fr.trans ff) hv iv⟩
theorem pmf_lc (hc : X.calm = true) (nd : X.N.Nodup) (ok : BlkOk X.N X.env.scope scope own) (Inv : Nat → List PyData → Rho → Prop) (hi : PIW X tg it ρ (l.map g)) (hl : l.length ≤ 1000000) (h0 : Inv 0 [] ρ)
    (hb : ∀ (i : Nat) (a : α) (ys : List PyData) (ρ' : Rho), l[i]? = some a → ys.length = i → Inv i ys ρ' → ∃ ts ρt, within ts (own.map (·.2)) = true ∧ (∀ j, j ∉ own.map (·.2) → ρt[j]? = (wipeR ρ' (own.map (·.2)))[j]?) ∧
      (∀ (s : Shared) (H : Hp) (C : Addr) (cl : List (Str × Addr)) (fp : List Addr), PGD (X.blk s H scope (compEnvC scope cl C X.env) fp) tg ts (wipeR ρ' (own.map (·.2))) (g a) ρt) ∧
      (∀ (s : Shared) (H : Hp) (C : Addr) (cl : List (Str × Addr)) (fp : List Addr), PM (X.blk s H scope (compEnvC scope cl C X.env) fp) ρt elt (fun y ρ3 => Inv (i + 1) (ys ++ [y]) (mrg ρ' ρ3))))
    (hF : ∀ ys ρ', ys.length = l.length → Inv l.length ys ρ' → F ys ρ')
    (hw : noOwn ρ (own.map (·.2)) = true := by rfl) (hs : ∀ x, foldedSetIterable it X.env x = pure x := by intro _; rfl) :
    PMF X ρ (.ListComp elt [⟨tg, it, [], 0⟩] scope pos) F :=
  PEimp (pe_lc hc nd hi ok (fun s H C cl fp => pg_ex (ι := PyData × List Nat × Rho × Rho) fun i m => m s H C cl fp) (fun _ _ _ _ _ => pts_nil) (fun s H C cl fp => pe_ex (ι := Rho × (PyData → Rho → Prop)) fun i m => m s H C cl fp) hs) fun σ H Q ⟨C, hh, q⟩ => lcM_read Inv hl h0 hb hF hw hh q
end
/-! ### statements with effects -/
theorem isP_same {ρ ρ' : Rho} (S : Sames ρ ρ') {i : Nat} (h : isP ρ[i]? = false) : isP ρ'[i]? = false := by
  cases q : ρ'[i]? with
  | none => rfl
  | some a => cases a with
    | none => rfl
    | some a => cases a with
      | d x => rfl
      | o l p =>
        cases l with
        | true => rfl
        | false =>
          obtain ⟨q', z⟩ := S.own i false p q
          rw [z] at h
          cases h
section
variable {X : Cx} {ρ : Rho} {R : Po} {sts : List Stmt} {e a b c : Expr} {pos p apos : Pos}
theorem sd_setM (i : Nat) {nm : Str} (nd : X.N.Nodup) (he : PM X ρ e (fun y ρ' => PSD X (ρ'.set i (some (.d y))) sts R)) (hp : isP ρ[i]? = false := by rfl) (hi : X.N[i]? = some nm := by rfl) (hx : Loc X.env.scope nm := by first | exact Or.inl rfl | exact Or.inr rfl)
    (hs : swapsWith e (some (.Name nm p)) pos.line X.env = pure false := by rfl) (hf : X.fn nm = true ∨ X.env.scope.names.lookup nm = some .local := by first | exact .inl rfl | exact .inr rfl) :
    PSD X ρ (.Assign [.Name nm p] e pos :: sts) R := PSsimp (pss_cons (ps_set nd hi hx he hs hf) (pss_ex (ι := Rho) (P := fun ρ' => PSD X ρ' sts R) (t := fun ρ' => tS ρ' R) fun i h => h)) fun D σ H ⟨C, hh, q⟩ =>
  ⟨C, hh, fun y v ρ' H' py S h' f g => ⟨_, py, C, h'.setD (Is.weak (fun a m _ => (S.all a).mp m) g) (isP_no (isP_same S hp)), q⟩⟩
theorem sd_newM (i : Nat) {nm : Str} (nd : X.N.Nodup) (he : PMF X ρ e (fun ys ρ' => PSD X (ρ'.set i (some (.o true (oL ys)))) sts R)) (hp : isP ρ[i]? = false := by rfl) (hi : X.N[i]? = some nm := by rfl) (hx : Loc X.env.scope nm := by first | exact Or.inl rfl | exact Or.inr rfl)
    (hs : swapsWith e (some (.Name nm p)) pos.line X.env = pure false := by rfl) (hf : X.fn nm = true ∨ X.env.scope.names.lookup nm = some .local := by first | exact .inl rfl | exact .inr rfl) :
    PSD X ρ (.Assign [.Name nm p] e pos :: sts) R := PSsimp (pss_cons (ps_set nd hi hx he hs hf) (pss_ex (ι := Rho) (P := fun ρ' => PSD X ρ' sts R) (t := fun ρ' => tS ρ' R) fun i h => h)) fun D σ H ⟨C, hh, q⟩ =>
  ⟨C, hh, fun ys p vs ρ' H' py S h' n f hv iv => ⟨_, py, C, h'.setA (hh.old n) (fun m => hh.fresh n (.inl m)) (fun W Hs z k => hh.snew z n k) ⟨vs, hv, IsAll.weak (fun a m _ => m.elim (fun m => .inl ((S.all a).mp m)) .inr) iv⟩ (isP_no (isP_same S hp)), q⟩⟩
theorem sd_newLcM (i : Nat) {nm : Str} {py spos : Pos} {elt tg it : Expr} {scope : Scope} {own : List (Str × Nat)} {α : Type} {l : List α} {g : α → PyData} (hc : X.calm = true) (nd : X.N.Nodup) (hyl : X.env.scope.names.lookup nm = some .local)
    (hsw : swapsWith (.ListComp elt [⟨tg, it, [], 0⟩] scope pos) (some (.Name nm py)) spos.line X.env = pure true) (ok : BlkOk X.N X.env.scope scope own) (Inv : Nat → List PyData → Rho → Prop) (hi : PIW X tg it ρ (l.map g)) (hl : l.length ≤ 1000000) (h0 : Inv 0 [] ρ)
    (hb : ∀ (i : Nat) (a : α) (ys : List PyData) (ρ' : Rho), l[i]? = some a → ys.length = i → Inv i ys ρ' → ∃ ts ρt, within ts (own.map (·.2)) = true ∧ (∀ j, j ∉ own.map (·.2) → ρt[j]? = (wipeR ρ' (own.map (·.2)))[j]?) ∧
      (∀ (s : Shared) (H : Hp) (C : Addr) (cl : List (Str × Addr)) (fp : List Addr), PGD (X.blk s H scope (compEnvC scope cl C X.env) fp) tg ts (wipeR ρ' (own.map (·.2))) (g a) ρt) ∧
      (∀ (s : Shared) (H : Hp) (C : Addr) (cl : List (Str × Addr)) (fp : List Addr), PM (X.blk s H scope (compEnvC scope cl C X.env) fp) ρt elt (fun y ρ3 => Inv (i + 1) (ys ++ [y]) (mrg ρ' ρ3))))
    (hrest : ∀ ys ρ', ys.length = l.length → Inv l.length ys ρ' → PSD X (ρ'.set i (some (.o true (oL ys)))) sts R) (hp : isP ρ[i]? = false := by rfl) (hN : X.N[i]? = some nm := by rfl)
    (hw : noOwn ρ (own.map (·.2)) = true := by rfl) (hs : ∀ x, foldedSetIterable it X.env x = pure x := by intro _; rfl) :
    PSD X ρ (.Assign [.Name nm py] (.ListComp elt [⟨tg, it, [], 0⟩] scope pos) spos :: sts) R :=
  PSsimp (pss_cons (ps_setLc hc nd hN hyl hsw hi ok (fun s H C cl fp => pg_ex (ι := PyData × List Nat × Rho × Rho) fun i m => m s H C cl fp) (fun _ _ _ _ _ => pts_nil) (fun s H C cl fp => pe_ex (ι := Rho × (PyData → Rho → Prop)) fun i m => m s H C cl fp) hs) (pss_ex (ι := Rho) (P := fun ρ' => PSD X ρ' sts R) (t := fun ρ' => tS ρ' R) fun i h => h)) fun D σ H ⟨C, hh, q⟩ =>
    lcM_read (F := fun ys ρ' => PSD X (ρ'.set i (some (.o true (oL ys)))) sts R) (Q := fun v H' => ∃ ρ' : Rho, PSD X ρ' sts R ∧ tS ρ' R D (σ.set i (some v)) H') Inv hl h0 hb hrest hw hh fun ys p vs ρ' H' py S h' n f hv iv =>
      ⟨_, py, C, h'.setA (hh.old n) (fun m => hh.fresh n (.inl m)) (fun W Hs z k => hh.snew z n k) ⟨vs, hv, IsAll.weak (fun a m _ => m.elim (fun m => .inl ((S.all a).mp m)) .inr) iv⟩ (isP_no (isP_same S hp)), q⟩
theorem sd_retM (he : PM X ρ e (fun y ρ' => R.rt y ρ')) : PSD X ρ (.Return (some e) pos :: sts) R := PSsimp (pss_cons (ps_ret he) pss_never) fun D σ H ⟨C, hh, q⟩ =>
  ⟨C, hh, fun y v ρ' H' py S h' f g => q.rt y v ρ' σ H' py h' (Is.weak (fun a m _ => m.elim .inl fun m => .inr (.inl m)) g)⟩
theorem sd_appM (k : Nat) {nm : Str} {l : Bool} {ds0 : List PyData} {cpos : Pos} (hk : ρ[k]? = some (some (.o l (oL ds0)))) (he : PM X ρ e (fun y ρ1 => ∃ ds, ρ1[k]? = some (some (.o l (oL ds))) ∧ ds.length < 1000000 ∧ PSD X (ρ1.set k (some (.o l (oL (ds ++ [y]))))) sts R)) (hN : X.N[k]? = some nm := by rfl)
    (hv : Vis X.env.scope nm := by first | exact Or.inl rfl | exact Or.inr (Or.inl rfl) | exact Or.inr (Or.inr rfl)) (hd : (nm == ("__debug__" : Str)) = false := by decide) (hcd : (nm == ("__classdict__" : Str)) = false := by decide)
    (hbase : attributeBase (.Name nm p) "append" X.env (eval (.Name nm p) X.env) = eval (.Name nm p) X.env := by rfl)
    (hfew : ((backTo cpos (starEach [e] X.env)).all (fun x => !x.1) && (backToKw cpos (keywordEach [] X.env)).all (fun x => x.1.isSome)
      && decide ([e].length + ([] : List Keyword).length + (if ([] : List Keyword).isEmpty then 0 else 1) < 30)) = true := by rfl)
    (hline : (apos.endLine == cpos.line) = true := by rfl) (hse : starEach [e] X.env = (false, eval e X.env) :: starEach [] X.env := by rfl) (hpl : (backTo cpos (starEach [] X.env)).any (·.1) = false := by rfl)
    (hs : swapsWith (.Call (.Attribute (.Name nm p) "append" apos) [e] [] cpos) none pos.line X.env = pure false := by rfl) :
    PSD X ρ (.Expr (.Call (.Attribute (.Name nm p) "append" apos) [e] [] cpos) pos :: sts) R :=
  PSsimp (pss_cons (ps_expr (pe_bm PySem.F.plainAttrs_list PySem.F.slot_list_append PySem.F.type_list_append mt_append (pe_var hN hv hd hcd) (pa_cons he pa_nil hse) hbase hfew hline hse hpl) hs) (pss_ex (ι := Rho) (P := fun ρ' => PSD X ρ' sts R) (t := fun ρ' => tS ρ' R) fun i h => h)) fun D σ H ⟨C, hh, q⟩ => by
    obtain ⟨a, e1, ⟨vs, g1, g2⟩, _⟩ := hh.own k l _ hk
    refine ⟨.ref a, e1, .inl ⟨rfl, vs, SqL.of g1⟩, C, hh, fun y v ρ1 H1 ⟨ds, k1, hl, w⟩ S h1 f g => ?_⟩
    obtain ⟨a', y1, ⟨us, y2, y3⟩, _⟩ := h1.own k l _ k1
    rw [e1] at y1
    cases y1
    refine ⟨a, us, v, rfl, rfl, y2, by rw [← y3.length]; exact sz_lt hl, _, w, C, ?_, q⟩
    refine h1.mut k1 e1 (fun b o z n => by rw [upd_ne n]; exact z) ⟨us ++ [v], upd_same, ?_⟩
    have inA : All C ρ1 σ a := .inr (.inr ⟨k, l, _, k1, e1⟩)
    exact IsAll.fr (Fr.upd inA) (IsAll.append y3 (IsAll.one (Is.weak (fun a m _ => (S.all a).mp m) g)))
theorem sd_asgM {tg : Expr} (he : PM X ρ e (fun y ρ1 => ∃ ts ρ', PGD X tg ts ρ1 y ρ' ∧ PSD X ρ' sts R)) (hs : swapsWithSole [tg] e pos.line X.env = pure false := by rfl) (hw : swappedStores [tg] e X.env = pure none := by rfl)
    (h1 : (assignEach [tg] X.env).map (·.2) = [assign tg X.env] := by rfl) : PSD X ρ (.Assign [tg] e pos :: sts) R :=
  PSsimp (pss_cons (ps_asg he (pg_ex (ι := PyData × List Nat × Rho × Rho) (P := fun i => PGD X tg i.2.1 i.2.2.1 i.1 i.2.2.2) (t := fun i => gD i.2.1 i.2.2.1 i.1 i.2.2.2) fun i h => h) hs hw h1) (pss_ex (ι := Rho) (P := fun ρ' => PSD X ρ' sts R) (t := fun ρ' => tS ρ' R) fun i h => h)) fun D σ H ⟨C, hh, q⟩ =>
    ⟨C, hh, fun y v ρ1 H1 ⟨ts, ρ', hg, hr⟩ S h1 f g => ⟨(y, ts, ρ1, ρ'), hg, C, h1, Is.weak (fun a m _ => (S.all a).mp m) g, fun σ' h' _ _ _ => ⟨ρ', hr, C, h', q⟩⟩⟩
theorem sd_ifM {A B : List Stmt} (Mid : Rho → Prop) (hc : PMt X ρ c (fun d ρ1 => (d = true → PSD X ρ1 A { R with nx := Mid }) ∧ (d = false → PSD X ρ1 B { R with nx := Mid }))) (hrest : ∀ ρ', Mid ρ' → PSD X ρ' sts R) :
    PSD X ρ (.If c A B pos :: sts) R :=
  PSsimp (pss_cons (ps_if hc (pss_ex (ι := Rho) (P := fun ρ' => PSD X ρ' A { R with nx := Mid }) (t := fun ρ' => tS ρ' { R with nx := Mid }) fun i h => h) (pss_ex (ι := Rho) (P := fun ρ' => PSD X ρ' B { R with nx := Mid }) (t := fun ρ' => tS ρ' { R with nx := Mid }) fun i h => h)) (pss_ex hrest)) fun D σ H ⟨C, hh, q⟩ => ⟨C, hh, fun d ρ1 H1 ⟨ta, tb⟩ S h1 f => by
  have q' : PoOk C { R with nx := Mid } { D with nx := fun σ H => ∃ ρ', Mid ρ' ∧ tS ρ' R D σ H } := ⟨fun ρ σ H m h => ⟨ρ, m, C, h, q⟩, q.rt, q.bk, q.ct, q.rf⟩
  cases d with
  | true => exact (show (if true = true then _ else _) by rw [if_pos rfl]; exact ⟨ρ1, ta rfl, C, h1, q'⟩)
  | false => exact (show (if false = true then _ else _) by rw [if_neg Bool.false_ne_true]; exact ⟨ρ1, tb rfl, C, h1, q'⟩)⟩
theorem sd_ifrM {A : List Stmt} (hc : PMt X ρ c (fun d ρ1 => (d = true → PSD X ρ1 A { R with nx := fun _ => False }) ∧ (d = false → PSD X ρ1 sts R))) : PSD X ρ (.If c A [] pos :: sts) R :=
  sd_ifM (fun ρ' => PSD X ρ' sts R) (PTimp hc fun σ H Q ⟨C, hh, q⟩ => ⟨C, hh, fun d ρ' H' ⟨ta, tb⟩ S h' f => q d ρ' H' ⟨fun e => PSsimp (ta e) fun D σ H ⟨C, hh, q⟩ => ⟨C, hh, fun _ _ _ m => m.elim, q.rt, q.bk, q.ct, q.rf⟩, fun e => sd_nil (tb e)⟩ S h' f⟩) fun ρ' h => h
end
end Bf
set_option Elab.async false
set_option linter.all false
set_option maxRecDepth 100000
set_option maxHeartbeats 4000000
namespace Bf
open PySem PySem.Spec PyProof.Rows L2
abbrev N_first_reg : List Str := ["net"]
abbrev P_first_reg : List Str := ["net"]
theorem sc_first_reg : FnScope N_first_reg P_first_reg (defScope S_first_reg) := ⟨rfl, rfl, rfl, by decide +kernel, rfl, by decide +kernel, by decide +kernel⟩
abbrev N_first_and : List Str := ["net"]
abbrev P_first_and : List Str := ["net"]
theorem sc_first_and : FnScope N_first_and P_first_and (defScope S_first_and) := ⟨rfl, rfl, rfl, by decide +kernel, rfl, by decide +kernel, by decide +kernel⟩
abbrev N_shown_of : List Str := ["net", "row"]
abbrev P_shown_of : List Str := ["net"]
theorem sc_shown_of : FnScope N_shown_of P_shown_of (defScope S_shown_of) := ⟨rfl, rfl, rfl, by decide +kernel, rfl, by decide +kernel, by decide +kernel⟩
abbrev N_full : List Str := ["many"]
abbrev P_full : List Str := ["many"]
theorem sc_full : FnScope N_full P_full (defScope S_full) := ⟨rfl, rfl, rfl, by decide +kernel, rfl, by decide +kernel, by decide +kernel⟩
abbrev N_patterns : List Str := ["many", "whole", "found", "j", "step", "block"]
abbrev P_patterns : List Str := ["many"]
theorem sc_patterns : FnScope N_patterns P_patterns (defScope S_patterns) := ⟨rfl, rfl, rfl, by decide +kernel, rfl, by decide +kernel, by decide +kernel⟩
abbrev N_node_masks : List Str := ["net", "given", "whole", "masks", "node", "left", "right"]
abbrev P_node_masks : List Str := ["net", "given", "whole"]
theorem sc_node_masks : FnScope N_node_masks P_node_masks (defScope S_node_masks) := ⟨rfl, rfl, rfl, by decide +kernel, rfl, by decide +kernel, by decide +kernel⟩
abbrev N_mask_of : List Str := ["masks", "literal", "whole"]
abbrev P_mask_of : List Str := ["masks", "literal", "whole"]
theorem sc_mask_of : FnScope N_mask_of P_mask_of (defScope S_mask_of) := ⟨rfl, rfl, rfl, by decide +kernel, rfl, by decide +kernel, by decide +kernel⟩
abbrev N_first_state : List Str := ["net", "row"]
abbrev P_first_state : List Str := ["net"]
theorem sc_first_state : FnScope N_first_state P_first_state (defScope S_first_state) := ⟨rfl, rfl, rfl, by decide +kernel, rfl, by decide +kernel, by decide +kernel⟩
abbrev N_inputs_with : List Str := ["number", "many", "k"]
abbrev P_inputs_with : List Str := ["number", "many"]
theorem sc_inputs_with : FnScope N_inputs_with P_inputs_with (defScope S_inputs_with) := ⟨rfl, rfl, rfl, by decide +kernel, rfl, by decide +kernel, by decide +kernel⟩
abbrev N_masks_from : List Str := ["net", "state", "whole", "many", "rows", "given", "k", "bit"]
abbrev P_masks_from : List Str := ["net", "state", "whole"]
theorem sc_masks_from : FnScope N_masks_from P_masks_from (defScope S_masks_from) := ⟨rfl, rfl, rfl, by decide +kernel, rfl, by decide +kernel, by decide +kernel⟩
abbrev N_all_beats : List Str := ["net", "state", "whole", "masks", "literal", "shown", "row", "nexts", "behind", "number", "mask"]
abbrev P_all_beats : List Str := ["net", "state"]
theorem sc_all_beats : FnScope N_all_beats P_all_beats (defScope S_all_beats) := ⟨rfl, rfl, rfl, by decide +kernel, rfl, by decide +kernel, by decide +kernel⟩
abbrev N_least_one : List Str := ["mask"]
abbrev P_least_one : List Str := ["mask"]
theorem sc_least_one : FnScope N_least_one P_least_one (defScope S_least_one) := ⟨rfl, rfl, rfl, by decide +kernel, rfl, by decide +kernel, by decide +kernel⟩
abbrev N_search_levels : List Str := ["start", "look", "many", "met", "level", "state", "row", "looked", "bad", "behind", "number"]
abbrev P_search_levels : List Str := ["start", "look", "many"]
theorem sc_search_levels : FnScope N_search_levels P_search_levels (defScope S_search_levels) := ⟨rfl, rfl, rfl, by decide +kernel, rfl, by decide +kernel, by decide +kernel⟩
abbrev N_next_level : List Str := ["met", "level", "looked", "found", "state", "row", "bad", "behind", "number", "after"]
abbrev P_next_level : List Str := ["met", "level", "looked"]
theorem sc_next_level : FnScope N_next_level P_next_level (defScope S_next_level) := ⟨rfl, rfl, rfl, by decide +kernel, rfl, by decide +kernel, by decide +kernel⟩
abbrev N_look_alike : List Str := ["net", "other"]
abbrev P_look_alike : List Str := ["net", "other"]
theorem sc_look_alike : FnScope N_look_alike P_look_alike (defScope S_look_alike) := ⟨rfl, rfl, rfl, by decide +kernel, rfl, by decide +kernel, by decide +kernel⟩
abbrev N_look_at_pair : List Str := ["net", "other", "pair", "shown", "behind", "others", "beside", "differ", "mask", "another"]
abbrev P_look_at_pair : List Str := ["net", "other", "pair"]
theorem sc_look_at_pair : FnScope N_look_at_pair P_look_at_pair (defScope S_look_at_pair) := ⟨rfl, rfl, rfl, by decide +kernel, rfl, by decide +kernel, by decide +kernel⟩
abbrev N_compared : List Str := ["net", "other", "start", "word", "told"]
abbrev P_compared : List Str := ["net", "other"]
theorem sc_compared : FnScope N_compared P_compared (defScope S_compared) := ⟨rfl, rfl, rfl, by decide +kernel, rfl, by decide +kernel, by decide +kernel⟩
abbrev N_law_begin : List Str := ["_law_script", "_law_cell"]
abbrev P_law_begin : List Str := ["_law_script"]
theorem sc_law_begin : FnScope N_law_begin P_law_begin (defScope S_law_begin) := ⟨rfl, rfl, rfl, by decide +kernel, rfl, by decide +kernel, by decide +kernel⟩
abbrev N_law_draw : List Str := ["_law_d", "_law_many", "_law_found", "_law_size", "_law_cell"]
abbrev P_law_draw : List Str := ["_law_d", "_law_many"]
theorem sc_law_draw : FnScope N_law_draw P_law_draw (defScope S_law_draw) := ⟨rfl, rfl, rfl, by decide +kernel, rfl, by decide +kernel, by decide +kernel⟩
abbrev N_law_pick : List Str := ["_law_d", "_law_row"]
abbrev P_law_pick : List Str := ["_law_d", "_law_row"]
theorem sc_law_pick : FnScope N_law_pick P_law_pick (defScope S_law_pick) := ⟨rfl, rfl, rfl, by decide +kernel, rfl, by decide +kernel, by decide +kernel⟩
abbrev N_law_pop : List Str := ["_law_d", "_law_row"]
abbrev P_law_pop : List Str := ["_law_d", "_law_row"]
theorem sc_law_pop : FnScope N_law_pop P_law_pop (defScope S_law_pop) := ⟨rfl, rfl, rfl, by decide +kernel, rfl, by decide +kernel, by decide +kernel⟩
abbrev N_law_rare : List Str := ["_law_d", "_law_many"]
abbrev P_law_rare : List Str := ["_law_d", "_law_many"]
theorem sc_law_rare : FnScope N_law_rare P_law_rare (defScope S_law_rare) := ⟨rfl, rfl, rfl, by decide +kernel, rfl, by decide +kernel, by decide +kernel⟩
abbrev N_law_shuffled : List Str := ["_law_d", "_law_row", "_law_left", "_law_found", "_law_k"]
abbrev P_law_shuffled : List Str := ["_law_d", "_law_row"]
theorem sc_law_shuffled : FnScope N_law_shuffled P_law_shuffled (defScope S_law_shuffled) := ⟨rfl, rfl, rfl, by decide +kernel, rfl, by decide +kernel, by decide +kernel⟩
abbrev N_law_pool : List Str := ["_law_text"]
abbrev P_law_pool : List Str := []
theorem sc_law_pool : FnScope N_law_pool P_law_pool (defScope S_law_pool) := ⟨rfl, rfl, rfl, by decide +kernel, rfl, by decide +kernel, by decide +kernel⟩
abbrev N_law_is_int : List Str := ["_law_thing"]
abbrev P_law_is_int : List Str := ["_law_thing"]
theorem sc_law_is_int : FnScope N_law_is_int P_law_is_int (defScope S_law_is_int) := ⟨rfl, rfl, rfl, by decide +kernel, rfl, by decide +kernel, by decide +kernel⟩
abbrev N_law_lit : List Str := ["_law_bits", "_law_literal"]
abbrev P_law_lit : List Str := ["_law_bits", "_law_literal"]
theorem sc_law_lit : FnScope N_law_lit P_law_lit (defScope S_law_lit) := ⟨rfl, rfl, rfl, by decide +kernel, rfl, by decide +kernel, by decide +kernel⟩
abbrev N_law_drawn_literal : List Str := ["_law_d", "_law_size", "_law_node"]
abbrev P_law_drawn_literal : List Str := ["_law_d", "_law_size"]
theorem sc_law_drawn_literal : FnScope N_law_drawn_literal P_law_drawn_literal (defScope S_law_drawn_literal) := ⟨rfl, rfl, rfl, by decide +kernel, rfl, by decide +kernel, by decide +kernel⟩
abbrev N_law_net : List Str := ["_law_d", "_law_inputs", "_law_regs", "_law_ands", "_law_outputs", "_law_claims", "_law_names", "_law_first", "_law_k", "_law_pairs", "_law_size", "_law_given", "_law_rows", "_law_shown", "_law_asked"]
abbrev P_law_net : List Str := ["_law_d", "_law_inputs", "_law_regs", "_law_ands", "_law_outputs", "_law_claims"]
theorem sc_law_net : FnScope N_law_net P_law_net (defScope S_law_net) := ⟨rfl, rfl, rfl, by decide +kernel, rfl, by decide +kernel, by decide +kernel⟩
abbrev N_law_net_bits : List Str := ["_law_net_here", "_law_given", "_law_state", "_law_bits", "_law_left", "_law_right_here"]
abbrev P_law_net_bits : List Str := ["_law_net_here", "_law_given", "_law_state"]
theorem sc_law_net_bits : FnScope N_law_net_bits P_law_net_bits (defScope S_law_net_bits) := ⟨rfl, rfl, rfl, by decide +kernel, rfl, by decide +kernel, by decide +kernel⟩
abbrev N_law_net_start : List Str := ["_law_net_here", "_law_row"]
abbrev P_law_net_start : List Str := ["_law_net_here"]
theorem sc_law_net_start : FnScope N_law_net_start P_law_net_start (defScope S_law_net_start) := ⟨rfl, rfl, rfl, by decide +kernel, rfl, by decide +kernel, by decide +kernel⟩
abbrev N_law_net_beat : List Str := ["_law_net_here", "_law_given", "_law_state", "_law_bits", "_law_row", "_law_shown"]
abbrev P_law_net_beat : List Str := ["_law_net_here", "_law_given", "_law_state"]
theorem sc_law_net_beat : FnScope N_law_net_beat P_law_net_beat (defScope S_law_net_beat) := ⟨rfl, rfl, rfl, by decide +kernel, rfl, by decide +kernel, by decide +kernel⟩
abbrev N_law_all_bits : List Str := ["_law_many", "_law_b", "_law_k"]
abbrev P_law_all_bits : List Str := ["_law_many"]
theorem sc_law_all_bits : FnScope N_law_all_bits P_law_all_bits (defScope S_law_all_bits) := ⟨rfl, rfl, rfl, by decide +kernel, rfl, by decide +kernel, by decide +kernel⟩
abbrev N_law_tidied : List Str := ["_law_net_here", "_law_first", "_law_node", "_law_news", "_law_pairs", "_law_known", "_law_left", "_law_right_here", "_law_low", "_law_high", "_law_row", "_law_rows", "_law_shown", "_law_asked"]
abbrev P_law_tidied : List Str := ["_law_net_here"]
theorem sc_law_tidied : FnScope N_law_tidied P_law_tidied (defScope S_law_tidied) := ⟨rfl, rfl, rfl, by decide +kernel, rfl, by decide +kernel, by decide +kernel⟩
abbrev N_law_closed_up : List Str := ["_law_given", "_law_rows", "_law_pairs", "_law_shown", "_law_asked", "_law_first", "_law_needed", "_law_row", "_law_literal", "_law_k", "_law_node", "_law_news", "_law_kept"]
abbrev P_law_closed_up : List Str := ["_law_given", "_law_rows", "_law_pairs", "_law_shown", "_law_asked"]
theorem sc_law_closed_up : FnScope N_law_closed_up P_law_closed_up (defScope S_law_closed_up) := ⟨rfl, rfl, rfl, by decide +kernel, rfl, by decide +kernel, by decide +kernel⟩
abbrev N_law_table_of : List Str := ["_law_net_here", "_law_node"]
abbrev P_law_table_of : List Str := ["_law_net_here"]
theorem sc_law_table_of : FnScope N_law_table_of P_law_table_of (defScope S_law_table_of) := ⟨rfl, rfl, rfl, by decide +kernel, rfl, by decide +kernel, by decide +kernel⟩
abbrev N_law_renewed : List Str := ["_law_net_here", "_law_table", "_law_other", "_law_regs", "_law_left", "_law_right_here", "_law_pairs", "_law_row", "_law_shown", "_law_asked"]
abbrev P_law_renewed : List Str := ["_law_net_here", "_law_table", "_law_other", "_law_regs"]
theorem sc_law_renewed : FnScope N_law_renewed P_law_renewed (defScope S_law_renewed) := ⟨rfl, rfl, rfl, by decide +kernel, rfl, by decide +kernel, by decide +kernel⟩
abbrev N_law_inverted : List Str := ["_law_net_here", "_law_at", "_law_table", "_law_regs", "_law_k", "_law_name", "_law_start", "_law_after", "_law_turned_here"]
abbrev P_law_inverted : List Str := ["_law_net_here", "_law_at"]
theorem sc_law_inverted : FnScope N_law_inverted P_law_inverted (defScope S_law_inverted) := ⟨rfl, rfl, rfl, by decide +kernel, rfl, by decide +kernel, by decide +kernel⟩
abbrev N_law_exchanged : List Str := ["_law_d", "_law_net_here", "_law_first", "_law_table", "_law_order", "_law_place", "_law_k", "_law_regs"]
abbrev P_law_exchanged : List Str := ["_law_d", "_law_net_here"]
theorem sc_law_exchanged : FnScope N_law_exchanged P_law_exchanged (defScope S_law_exchanged) := ⟨rfl, rfl, rfl, by decide +kernel, rfl, by decide +kernel, by decide +kernel⟩
abbrev N_law_doubled : List Str := ["_law_net_here", "_law_at", "_law_name", "_law_first", "_law_table", "_law_node", "_law_other", "_law_row", "_law_regs"]
abbrev P_law_doubled : List Str := ["_law_net_here", "_law_at", "_law_name"]
theorem sc_law_doubled : FnScope N_law_doubled P_law_doubled (defScope S_law_doubled) := ⟨rfl, rfl, rfl, by decide +kernel, rfl, by decide +kernel, by decide +kernel⟩
abbrev N_law_variant : List Str := ["_law_d", "_law_net_here", "_law_steps", "_law_k", "_law_ties", "_law_step", "_law_turn", "_law_at", "_law_order"]
abbrev P_law_variant : List Str := ["_law_d", "_law_net_here", "_law_steps"]
theorem sc_law_variant : FnScope N_law_variant P_law_variant (defScope S_law_variant) := ⟨rfl, rfl, rfl, by decide +kernel, rfl, by decide +kernel, by decide +kernel⟩
abbrev N_law_trapped : List Str := ["_law_d", "_law_net_here", "_law_stages", "_law_first", "_law_table", "_law_node", "_law_left", "_law_right_here", "_law_pairs", "_law_row", "_law_regs", "_law_k", "_law_after", "_law_last", "_law_shown", "_law_end", "_law_at", "_law_many"]
abbrev P_law_trapped : List Str := ["_law_d", "_law_net_here", "_law_stages"]
theorem sc_law_trapped : FnScope N_law_trapped P_law_trapped (defScope S_law_trapped) := ⟨rfl, rfl, rfl, by decide +kernel, rfl, by decide +kernel, by decide +kernel⟩
abbrev N_law_spoilt : List Str := ["_law_d", "_law_net_here", "_law_first", "_law_size", "_law_turn", "_law_at", "_law_name", "_law_start", "_law_after", "_law_row", "_law_pair"]
abbrev P_law_spoilt : List Str := ["_law_d", "_law_net_here"]
theorem sc_law_spoilt : FnScope N_law_spoilt P_law_spoilt (defScope S_law_spoilt) := ⟨rfl, rfl, rfl, by decide +kernel, rfl, by decide +kernel, by decide +kernel⟩
abbrev N_law_ringed : List Str := ["_law_given", "_law_sizes", "_law_when", "_law_base", "_law_regs", "_law_marks", "_law_size", "_law_k"]
abbrev P_law_ringed : List Str := ["_law_given", "_law_sizes", "_law_when"]
theorem sc_law_ringed : FnScope N_law_ringed P_law_ringed (defScope S_law_ringed) := ⟨rfl, rfl, rfl, by decide +kernel, rfl, by decide +kernel, by decide +kernel⟩
abbrev N_law_shifted : List Str := ["_law_given", "_law_many", "_law_k", "_law_regs"]
abbrev P_law_shifted : List Str := ["_law_given", "_law_many"]
theorem sc_law_shifted : FnScope N_law_shifted P_law_shifted (defScope S_law_shifted) := ⟨rfl, rfl, rfl, by decide +kernel, rfl, by decide +kernel, by decide +kernel⟩
abbrev N_law_dear : List Str := ["_law_d", "_law_turn", "_law_sizes", "_law_most", "_law_when"]
abbrev P_law_dear : List Str := ["_law_d"]
theorem sc_law_dear : FnScope N_law_dear P_law_dear (defScope S_law_dear) := ⟨rfl, rfl, rfl, by decide +kernel, rfl, by decide +kernel, by decide +kernel⟩
abbrev N_law_plain : List Str := ["_law_thing", "_law_part"]
abbrev P_law_plain : List Str := ["_law_thing"]
theorem sc_law_plain : FnScope N_law_plain P_law_plain (defScope S_law_plain) := ⟨rfl, rfl, rfl, by decide +kernel, rfl, by decide +kernel, by decide +kernel⟩
abbrev N_law_search : List Str := ["_law_net_here", "_law_other", "_law_rows", "_law_start", "_law_met", "_law_level", "_law_turn", "_law_after", "_law_pair", "_law_row", "_law_given", "_law_shown", "_law_state", "_law_others", "_law_beside"]
abbrev P_law_search : List Str := ["_law_net_here", "_law_other"]
theorem sc_law_search : FnScope N_law_search P_law_search (defScope S_law_search) := ⟨rfl, rfl, rfl, by decide +kernel, rfl, by decide +kernel, by decide +kernel⟩
abbrev N_law_due : List Str := ["_law_net_here", "_law_other"]
abbrev P_law_due : List Str := ["_law_net_here", "_law_other"]
theorem sc_law_due : FnScope N_law_due P_law_due (defScope S_law_due) := ⟨rfl, rfl, rfl, by decide +kernel, rfl, by decide +kernel, by decide +kernel⟩
abbrev N_law_turned : List Str := ["_law_due_here", "_law_pair"]
abbrev P_law_turned : List Str := ["_law_due_here"]
theorem sc_law_turned : FnScope N_law_turned P_law_turned (defScope S_law_turned) := ⟨rfl, rfl, rfl, by decide +kernel, rfl, by decide +kernel, by decide +kernel⟩
abbrev N_law_told : List Str := ["_law_net_here", "_law_other", "_law_told_here", "_law_raised"]
abbrev P_law_told : List Str := ["_law_net_here", "_law_other"]
theorem sc_law_told : FnScope N_law_told P_law_told (defScope S_law_told) := ⟨rfl, rfl, rfl, by decide +kernel, rfl, by decide +kernel, by decide +kernel⟩
abbrev N_law_right : List Str := ["_law_told_here", "_law_due_here"]
abbrev P_law_right : List Str := ["_law_told_here", "_law_due_here"]
theorem sc_law_right : FnScope N_law_right P_law_right (defScope S_law_right) := ⟨rfl, rfl, rfl, by decide +kernel, rfl, by decide +kernel, by decide +kernel⟩
abbrev N_law_unlike : List Str := ["_law_d", "_law_net_here", "_law_other", "_law_turn", "_law_given", "_law_regs", "_law_pairs", "_law_shown", "_law_asked", "_law_first"]
abbrev P_law_unlike : List Str := ["_law_d", "_law_net_here", "_law_other"]
theorem sc_law_unlike : FnScope N_law_unlike P_law_unlike (defScope S_law_unlike) := ⟨rfl, rfl, rfl, by decide +kernel, rfl, by decide +kernel, by decide +kernel⟩
abbrev N_law_small : List Str := ["_law_d", "_law_inputs", "_law_regs", "_law_net_here", "_law_turn", "_law_one", "_law_k", "_law_kept", "_law_other", "_law_ties"]
abbrev P_law_small : List Str := ["_law_d"]
theorem sc_law_small : FnScope N_law_small P_law_small (defScope S_law_small) := ⟨rfl, rfl, rfl, by decide +kernel, rfl, by decide +kernel, by decide +kernel⟩
abbrev N_law : List Str := ["_law_script", "_law_d", "_law_net_here", "_law_other", "_law_ties", "_law_due_here"]
abbrev P_law : List Str := ["_law_script"]
theorem sc_law : FnScope N_law P_law (defScope S_law) := ⟨rfl, rfl, rfl, by decide +kernel, rfl, by decide +kernel, by decide +kernel⟩
end Bf
set_option Elab.async false
set_option linter.all false
set_option maxRecDepth 100000
set_option maxHeartbeats 4000000
namespace Bf
open PySem PySem.Spec PyProof.Rows L2
/-! ### nets as plain data -/
structure Reg where
  nm : Str
  st : Nat
  nx : Nat
  deriving DecidableEq
structure Out where
  nm : Str
  li : Nat
  deriving DecidableEq
structure Net where
  ins : List Str
  regs : List Reg
  ands : List (Nat × Nat)
  outs : List Out
  clms : List Out
  deriving DecidableEq
abbrev nD (n : Nat) : PyData := .int (n : Int)
def regD (r : Reg) : PyData := .tuple [.str r.nm, nD r.st, nD r.nx]
def andD (p : Nat × Nat) : PyData := .tuple [nD p.1, nD p.2]
def outD (o : Out) : PyData := .tuple [.str o.nm, nD o.li]
def netD (n : Net) : PyData := .tuple [.str "net", .tuple (n.ins.map .str), .tuple (n.regs.map regD), .tuple (n.ands.map andD), .tuple (n.outs.map outD), .tuple (n.clms.map outD)]
/-- the bit (the literal) that a literal has by a list of those of the nodes -/
def litN (bs : List Nat) (l : Nat) : Nat := bs.getD (l / 2) 0 ^^^ (l % 2)
def Net.freg (n : Net) : Nat := 1 + n.ins.length
def Net.fand (n : Net) : Nat := 1 + n.ins.length + n.regs.length
def Net.size (n : Net) : Nat := n.fand + n.ands.length
def Net.shown (n : Net) : List Nat := n.outs.map Out.li ++ n.clms.map Out.li
/-! ### numbers that are not negative -/
section
variable {X : Cx} {ρ : Rho} {s : Bool} {a b : Expr} {pos p : Pos} {m n : Nat}
theorem pn_add (ha : PX X ρ false a (nD m)) (hb : PX X ρ false b (nD n)) : PX X ρ s (.BinOp a .Add b pos) (nD (m + n)) := px_eq (px_add ha hb) (by show PyData.int _ = PyData.int _; rw [Int.natCast_add])
theorem pn_c {k : Nat} {j : Nat} : PX X ρ s (.Constant (.int (k : Int)) j pos) (nD k) := px_int
theorem pn_0 {j : Nat} : PX X ρ s (.Constant (.int 0) j pos) (nD 0) := px_int
theorem pn_1 {j : Nat} : PX X ρ s (.Constant (.int 1) j pos) (nD 1) := px_int
theorem pn_2 {j : Nat} : PX X ρ s (.Constant (.int 2) j pos) (nD 2) := px_int
theorem pn_mul2 {j : Nat} (hb : PX X ρ false b (nD n)) : PX X ρ s (.BinOp (.Constant (.int 2) j p) .Mult b pos) (nD (2 * n)) := px_eq (px_mul2 hb) (by show PyData.int _ = PyData.int _; rw [Int.natCast_mul]; rfl)
theorem pn_xor (ha : PX X ρ false a (nD m)) (hb : PX X ρ false b (nD n)) : PX X ρ s (.BinOp a .BitXor b pos) (nD (m ^^^ n)) := px_eq (px_xor ha hb) (by show PyData.int _ = PyData.int _; rw [Bits.bitXor_pp (Int.natCast_nonneg _) (Int.natCast_nonneg _), Int.toNat_natCast, Int.toNat_natCast])
theorem pn_and (ha : PX X ρ false a (nD m)) (hb : PX X ρ false b (nD n)) : PX X ρ s (.BinOp a .BitAnd b pos) (nD (m &&& n)) := px_eq (px_and ha hb) (by show PyData.int _ = PyData.int _; rw [bitAnd_pp (Int.natCast_nonneg _) (Int.natCast_nonneg _), Int.toNat_natCast, Int.toNat_natCast])
theorem pn_or (ha : PX X ρ false a (nD m)) (hb : PX X ρ false b (nD n)) : PX X ρ s (.BinOp a .BitOr b pos) (nD (m ||| n)) := px_eq (px_or ha hb) (by show PyData.int _ = PyData.int _; rw [Bits.bitOr_pp (Int.natCast_nonneg _) (Int.natCast_nonneg _), Int.toNat_natCast, Int.toNat_natCast])
theorem pn_shr (ha : PX X ρ false a (nD m)) (hb : PX X ρ false b (nD n)) : PX X ρ s (.BinOp a .RShift b pos) (nD (m / 2 ^ n)) := px_eq (px_shr ha hb (Int.natCast_nonneg _)) (by show PyData.int _ = PyData.int _; rw [Int.toNat_natCast, Int.natCast_ediv, Int.natCast_pow]; rfl)
theorem pn_shl (ha : PX X ρ false a (nD m)) (hb : PX X ρ false b (nD n)) (hm : m < 2 ^ 64) (hn : n ≤ 1000000) : PX X ρ s (.BinOp a .LShift b pos) (nD (m * 2 ^ n)) := px_eq (px_shl ha hb ⟨Int.natCast_nonneg _, by omega, by rw [Int.natAbs_natCast]; exact hm⟩) (by show PyData.int _ = PyData.int _; rw [Int.toNat_natCast, Int.natCast_mul, Int.natCast_pow]; rfl)
theorem pn_lenT {nm : Str} {ds : List PyData} (hg : Gl X nm) (hm : X.mg nm = none) (hv : bootBuiltins nm = some (.builtin "len")) (ha : PX X ρ false a (.tuple ds)) (hn : nm ≠ "__name__" := by decide) (hdb : (nm == ("__debug__" : Str)) = false := by decide) (he : starEach [a] X.env = (false, eval a X.env) :: starEach [] X.env := by rfl) (hpl : (backTo pos (starEach [] X.env)).any (·.1) = false := by rfl) :
    PX X ρ s (.Call (.Name nm p) [a] [] pos) (nD ds.length) := px_lenT hg hm hv ha hn hdb he hpl
theorem atI_n {xs : List PyData} {j : Nat} {v : PyData} (h : xs[j]? = some v) : atI xs ((j : Nat) : Int) = some v := atI_nat h
end
theorem rngD0 (n : Nat) : rngD 0 n = (List.range n).map nD := by
  unfold rngD
  apply List.map_congr_left
  intro i _
  show PyData.int _ = PyData.int _
  rw [Int.zero_add]
theorem pw_r {X : Cx} {ρ : Rho} {tg a : Expr} {p pos : Pos} {n : Nat} {y : PyData} (hg : Gl X "range") (hm : X.mg "range" = none) (ha : PX X ρ false a y) (e : y = nD n) (hn : n ≤ 1000000) (he : starEach [a] X.env = (false, eval a X.env) :: starEach [] X.env := by rfl) (hs : starEach [a] X.env = [(false, eval a X.env)] := by rfl) :
    PIW X tg (.Call (.Name "range" p) [a] [] pos) ρ ((List.range n).map nD) := by
  subst e
  have h := piw_r1 (tg := tg) (pos := pos) (p := p) hg hm ha (by omega) he hs
  rw [Int.toNat_natCast, rngD0] at h
  exact h
/-- what the law and the program call of the built-ins -/
structure Blt (mg : Str → Option Value) : Prop where
  len : mg "len" = none
  range : mg "range" = none
  tuple : mg "tuple" = none
  list : mg "list" = none
  int : mg "int" = none
  abs : mg "abs" = none
  max : mg "max" = none
  str : mg "str" = none
  sorted : mg "sorted" = none
  zip : mg "zip" = none
  enumerate : mg "enumerate" = none
  reversed : mg "reversed" = none
  isinstance : mg "isinstance" = none
  all : mg "all" = none
  bool : mg "bool" = none
theorem b_len : bootBuiltins ("len" : Str) = some (.builtin "len") := by decide +kernel
theorem b_tuple : bootBuiltins ("tuple" : Str) = some (.type "tuple") := by decide +kernel
theorem b_list : bootBuiltins ("list" : Str) = some (.type "list") := by decide +kernel
end Bf
set_option Elab.async false
set_option linter.all false
set_option maxRecDepth 100000
set_option maxHeartbeats 4000000
namespace Bf
open PySem PySem.Spec PyProof.Rows L2
theorem b_int : bootBuiltins ("int" : Str) = some (.type "int") := by decide +kernel
theorem b_str : bootBuiltins ("str" : Str) = some (.type "str") := by decide +kernel
theorem b_abs : bootBuiltins ("abs" : Str) = some (.builtin "abs") := by decide +kernel
theorem b_max : bootBuiltins ("max" : Str) = some (.builtin "max") := by decide +kernel
theorem b_all : bootBuiltins ("all" : Str) = some (.builtin "all") := by decide +kernel
theorem b_sorted : bootBuiltins ("sorted" : Str) = some (.builtin "sorted") := by decide +kernel
theorem b_isinstance : bootBuiltins ("isinstance" : Str) = some (.builtin "isinstance") := by decide +kernel
section
variable {X : Cx} {ρ : Rho} {s : Bool} {e a b : Expr} {es : List Expr} {x y : PyData} {xs ys ds : List PyData} {pos p apos p2 : Pos} {i j : Int} {R : Po} {sts : List Stmt} {P : PyData → Rho → Prop}
/-! ### built-ins on ints -/
theorem px_int1 (hg : Gl X "int") (hm : X.mg "int" = none) (ha : PX X ρ false a (.int i)) (he : starEach [a] X.env = (false, eval a X.env) :: starEach [] X.env := by rfl) (hpl : (backTo pos (starEach [] X.env)).any (·.1) = false := by rfl) : PX X ρ s (.Call (.Name "int" p) [a] [] pos) (.int i) :=
  PEimp (pe_callTy call_int1 hg hm b_int (pa_cons ha pa_nil he) (by decide) (by decide) he hpl) fun σ H Q ⟨C, hh, q⟩ => ⟨C, hh, fun v H1 e1 g => .inl ⟨i, by rw [show v = .int i from g], q _ H1 e1 rfl⟩⟩
theorem px_intB {c : Bool} (hg : Gl X "int") (hm : X.mg "int" = none) (ha : PX X ρ false a (.bool c)) (he : starEach [a] X.env = (false, eval a X.env) :: starEach [] X.env := by rfl) (hpl : (backTo pos (starEach [] X.env)).any (·.1) = false := by rfl) : PX X ρ s (.Call (.Name "int" p) [a] [] pos) (.int (if c then 1 else 0)) :=
  PEimp (pe_callTy call_int1 hg hm b_int (pa_cons ha pa_nil he) (by decide) (by decide) he hpl) fun σ H Q ⟨C, hh, q⟩ => ⟨C, hh, fun v H1 e1 g => .inr ⟨c, by rw [show v = .bl c from g], q _ H1 e1 rfl⟩⟩
theorem px_abs (hg : Gl X "abs") (hm : X.mg "abs" = none) (ha : PX X ρ false a (.int i)) (he : starEach [a] X.env = (false, eval a X.env) :: starEach [] X.env := by rfl) (hpl : (backTo pos (starEach [] X.env)).any (·.1) = false := by rfl) : PX X ρ s (.Call (.Name "abs" p) [a] [] pos) (.int (if i < 0 then -i else i)) :=
  PEimp (pe_callB call_abs hg hm b_abs (pa_cons ha pa_nil he) (by decide) (by decide) he hpl) fun σ H Q ⟨C, hh, q⟩ => ⟨C, hh, fun v H1 e1 g => ⟨i, by rw [show v = .int i from g], q _ H1 e1 rfl⟩⟩
theorem pm_max {e2 : Expr} (hc : X.calm = true) (hg : Gl X "max") (hm : X.mg "max" = none) (ha : PMs X ρ [e, e2] (fun ys ρ1 => ∃ i j, ys = [.x (.int i), .x (.int j)] ∧ P (.int (if j > i then j else i)) ρ1)) (he : starEach [e, e2] X.env = (false, eval e X.env) :: starEach [e2] X.env := by rfl)
    (hpl : (backTo pos (starEach [e2] X.env)).any (·.1) = false := by rfl) : PM X ρ (.Call (.Name "max" p) [e, e2] [] pos) P :=
  PEimp (pe_callB (call_max2 hc) hg hm b_max ha (by decide) (by decide) he hpl) fun σ H Q ⟨C, hh, q⟩ => ⟨C, hh, fun ys vs ρ1 H1 ⟨i, j, ey, w⟩ S h1 f g => by
    subst ey
    match vs, g with
    | [v1, v2], g =>
      obtain ⟨g1, g2, _⟩ := g
      have g1' : v1 = .int i := g1
      have g2' : v2 = .int j := g2
      subst g1' g2'
      exact ⟨i, j, rfl, q _ _ ρ1 H1 w S h1 f rfl⟩⟩
theorem px_strI (hg : Gl X "str") (hm : X.mg "str" = none) (ha : PX X ρ false a (.int i)) (hi : i.natAbs.log2 < 1920) (he : starEach [a] X.env = (false, eval a X.env) :: starEach [] X.env := by rfl) (hpl : (backTo pos (starEach [] X.env)).any (·.1) = false := by rfl) : PX X ρ s (.Call (.Name "str" p) [a] [] pos) (.str (toString i : String)) :=
  PEimp (pe_callTy call_str_int hg hm b_str (pa_cons ha pa_nil he) (by decide) (by decide) he hpl) fun σ H Q ⟨C, hh, q⟩ => ⟨C, hh, fun v H1 e1 g => ⟨i, by rw [show v = .int i from g], hi, q _ H1 e1 rfl⟩⟩
theorem px_pow (ha : PX X ρ false a (.int i)) (hb : PX X ρ false b (.int j)) (hc : CPow i j) : PX X ρ s (.BinOp a .Pow b pos) (.int (i ^ j.toNat)) := px_oC (g := fun i j => i ^ j.toNat) op_pow ha hb hc
theorem px_all {bs : List Bool} (hc : X.calm = true) (hg : Gl X "all") (hm : X.mg "all" = none) (ha : PX X ρ false a (.list (bs.map .bool))) (he : starEach [a] X.env = (false, eval a X.env) :: starEach [] X.env := by rfl) (hpl : (backTo pos (starEach [] X.env)).any (·.1) = false := by rfl) : PX X ρ s (.Call (.Name "all" p) [a] [] pos) (.bool (bs.all id)) :=
  PEimp (pe_callB (cr_all hc) hg hm b_all (pa_cons ha pa_nil he) (by decide) (by decide) he hpl) fun σ H Q ⟨C, hh, q⟩ => ⟨C, hh, fun v H1 e1 ⟨pp, vs, g1, g2, g3, g4⟩ => by
    have ev : ∀ {bs : List Bool} {vs : List V}, IsAll (Wk C ρ σ false) H1 (bs.map .bool) vs → vs = bs.map V.bl := by
      intro bs
      induction bs with
      | nil =>
        intro vs g
        cases vs with
        | nil => rfl
        | cons _ _ => exact g.elim
      | cons c bs ih =>
        intro vs g
        cases vs with
        | nil => exact g.elim
        | cons v vs =>
          have h1 : v = .bl c := g.1
          rw [h1, ih g.2]
          rfl
    have e := ev g4
    subst e
    exact ⟨pp, bs, by rw [g1], SqL.of g3, q _ H1 e1 rfl⟩⟩
/-! ### slices, + of tuples -/
theorem IsAll.cut {M : Ad} {H : Hp} {ds : List PyData} {vs : List V} (h : IsAll M H ds vs) (lo hi : Option Int) : IsAll M H ((ds.drop (HT.sIx ds.length 0 lo)).take (HT.sIx ds.length ds.length hi - HT.sIx ds.length 0 lo)) (cutV vs lo hi) := by
  unfold cutV
  rw [← h.length]
  exact IsAll.take _ (IsAll.drop _ h)
/-- the bounds of a slice, as expressions -/
inductive Bd (X : Cx) (ρ : Rho) : Option Expr → Option Int → Prop where
  | no : Bd X ρ none none
  | ex {e : Expr} {i : Int} (h : PX X ρ false e (.int i)) : Bd X ρ (some e) (some i)
def tBd (ρ : Rho) (o : Option Int) : TO := fun σ H Q => ∃ C, Holds C ρ σ H ∧ ∀ H', Ex H H' → Q o H'
theorem Bd.po {e : Option Expr} {o : Option Int} (h : Bd X ρ e o) : PO X e (tBd ρ o) := by
  cases h with
  | no => exact ⟨fun pins s σ H Q I ⟨C, hh, q⟩ => po_none.run pins s σ H Q I (q H (Ex.refl H))⟩
  | ex h => exact ⟨fun pins s σ H Q I ⟨C, hh, q⟩ => (po_some h).run pins s σ H Q I ⟨C, hh, fun v H1 e1 g => ⟨_, g, q H1 e1⟩⟩⟩
theorem px_slT {lo hi : Option Expr} {l h : Option Int} (ha : PX X ρ s a (.tuple ds)) (hl : Bd X ρ lo l) (hh : Bd X ρ hi h) (e : ys = (ds.drop (HT.sIx ds.length 0 l)).take (HT.sIx ds.length ds.length h - HT.sIx ds.length 0 l)) : PX X ρ s (.Subscript a (.Slice lo hi none p2) pos) (.tuple ys) :=
  PEimp (pe_slice sl_tupA ha hl.po hh.po) fun σ H Q ⟨C, hC, q⟩ => ⟨C, hC, fun v H1 e1 ⟨pp, vs, g1, g2, g3, g4⟩ => ⟨C, hC.ex e1, fun H2 e2 => ⟨C, (hC.ex e1).ex e2, fun H3 e3 => by
    subst e
    have len := g4.length
    refine ⟨pp, vs, g1, SqT.of (e3 _ _ (e2 _ _ g3)), fun ⟨w1, w2⟩ => ?_, fun _ pq hp => ?_⟩
    · refine q _ H3 ((e1.trans e2).trans e3) ⟨pp, vs, rfl, g2, e3 _ _ (e2 _ _ g3), ?_⟩
      rw [len, w1, w2, List.drop_zero, Nat.sub_zero, ← len, List.take_length]
      exact IsAll.ex (e2.trans e3) g4
    · exact q _ _ (((e1.trans e2).trans e3).trans (Ex.new hp)) ⟨pq, _, rfl, wk_fresh hC (e1.back (e2.back (e3.back hp))), upd_same, IsAll.ex ((e2.trans e3).trans (Ex.new hp)) (IsAll.cut g4 l h)⟩⟩⟩⟩
theorem px_slL {lo hi : Option Expr} {l h : Option Int} (ha : PX X ρ s a (.list ds)) (hl : Bd X ρ lo l) (hh : Bd X ρ hi h) (e : ys = (ds.drop (HT.sIx ds.length 0 l)).take (HT.sIx ds.length ds.length h - HT.sIx ds.length 0 l)) : PX X ρ s (.Subscript a (.Slice lo hi none p2) pos) (.list ys) :=
  PEimp (pe_slice sl_list ha hl.po hh.po) fun σ H Q ⟨C, hC, q⟩ => ⟨C, hC, fun v H1 e1 ⟨pp, vs, g1, g2, g3, g4⟩ => ⟨C, hC.ex e1, fun H2 e2 => ⟨C, (hC.ex e1).ex e2, fun H3 e3 => by
    subst e
    refine ⟨pp, vs, g1, SqL.of (e3 _ _ (e2 _ _ g3)), fun pq hp => ?_⟩
    exact q _ _ (((e1.trans e2).trans e3).trans (Ex.new hp)) ⟨pq, _, rfl, wk_fresh hC (e1.back (e2.back (e3.back hp))), upd_same, IsAll.ex ((e2.trans e3).trans (Ex.new hp)) (IsAll.cut g4 l h)⟩⟩⟩⟩
/-- the results of x[:n], x[n:] -/
theorem cut_to {ds : List PyData} {n : Nat} : (ds.drop (HT.sIx ds.length 0 none)).take (HT.sIx ds.length ds.length (some (n : Int)) - HT.sIx ds.length 0 none) = ds.take n := by
  rw [HT.sIx_none, HT.sIx_nat, List.drop_zero, Nat.sub_zero, List.take_eq_take_iff]
  omega
theorem cut_from {ds : List PyData} {n : Nat} : (ds.drop (HT.sIx ds.length 0 (some (n : Int)))).take (HT.sIx ds.length ds.length none - HT.sIx ds.length 0 (some (n : Int))) = ds.drop n := by
  rw [HT.sIx_none, HT.sIx_nat]
  by_cases h : n ≤ ds.length
  · rw [Nat.min_eq_left h]
    exact List.take_of_length_le (by rw [List.length_drop]; exact Nat.le_refl _)
  · rw [Nat.min_eq_right (by omega), List.drop_eq_nil_of_le (Nat.le_refl _), List.drop_eq_nil_of_le (by omega), List.take_nil]
theorem px_to {n : Nat} (ha : PX X ρ s a (.tuple ds)) (hb : PX X ρ false b (nD n)) : PX X ρ s (.Subscript a (.Slice none (some b) none p2) pos) (.tuple (ds.take n)) := px_slT ha .no (.ex hb) cut_to.symm
theorem px_from {n : Nat} (ha : PX X ρ s a (.tuple ds)) (hb : PX X ρ false b (nD n)) : PX X ρ s (.Subscript a (.Slice (some b) none none p2) pos) (.tuple (ds.drop n)) := px_slT ha (.ex hb) .no cut_from.symm
theorem px_toL {n : Nat} (ha : PX X ρ s a (.list ds)) (hb : PX X ρ false b (nD n)) : PX X ρ s (.Subscript a (.Slice none (some b) none p2) pos) (.list (ds.take n)) := px_slL ha .no (.ex hb) cut_to.symm
theorem px_fromL {n : Nat} (ha : PX X ρ s a (.list ds)) (hb : PX X ρ false b (nD n)) : PX X ρ s (.Subscript a (.Slice (some b) none none p2) pos) (.list (ds.drop n)) := px_slL ha (.ex hb) .no cut_from.symm
theorem px_catT (ha : PX X ρ s a (.tuple xs)) (hb : PX X ρ s b (.tuple ys)) (hl : xs.length + ys.length ≤ 1000000) : PX X ρ s (.BinOp a .Add b pos) (.tuple (xs ++ ys)) := PEimp (pe_op op_catA ha hb) fun σ H Q ⟨C, hh, q⟩ =>
  ⟨C, hh, fun v H1 e1 ⟨p1, vs, g1, g2, g3, g4⟩ => ⟨C, hh.ex e1, fun w H2 e2 ⟨p2, ws, k1, k2, k3, k4⟩ => by
    refine ⟨p1, p2, vs, ws, g1, k1, SqT.of (e2 _ _ g3), SqT.of k3, by rw [← g4.length, ← k4.length]; exact sz_of hl, fun z => ?_, fun _ z => ?_, fun _ _ p hp => ?_⟩
    · subst z
      have : xs = [] := by
        cases xs with
        | nil => rfl
        | cons _ _ => exact g4.elim
      subst this
      exact q _ H2 (e1.trans e2) ⟨p2, ws, rfl, k2, k3, k4⟩
    · subst z
      have : ys = [] := by
        cases ys with
        | nil => rfl
        | cons _ _ => exact k4.elim
      subst this
      rw [List.append_nil] at *
      exact q _ H2 (e1.trans e2) ⟨p1, vs, rfl, g2, e2 _ _ g3, IsAll.ex e2 g4⟩
    · exact q _ _ ((e1.trans e2).trans (Ex.new hp)) ⟨p, _, rfl, wk_fresh hh (e1.back (e2.back hp)), upd_same, IsAll.ex (Ex.new hp) (IsAll.append (IsAll.ex e2 g4) k4)⟩⟩⟩
theorem pm_catT (ha : PM X ρ a (fun y ρ1 => ∃ xs, y = .tuple xs ∧ PM X ρ1 b (fun z ρ2 => ∃ ys, z = .tuple ys ∧ xs.length + ys.length ≤ 1000000 ∧ P (.tuple (xs ++ ys)) ρ2))) : PM X ρ (.BinOp a .Add b pos) P := by
  have k := pe_ex (X := X) (e := b) (ι := List PyData × Rho) (P := fun i => PM X i.2 b (fun z ρ2 => ∃ ys, z = .tuple ys ∧ i.1.length + ys.length ≤ 1000000 ∧ P (.tuple (i.1 ++ ys)) ρ2)) (t := fun i => tM i.2 (fun z ρ2 => ∃ ys, z = .tuple ys ∧ i.1.length + ys.length ≤ 1000000 ∧ P (.tuple (i.1 ++ ys)) ρ2)) fun i h => h
  refine PEimp (pe_op op_catA ha k) fun σ H Q ⟨C, hh, q⟩ => ⟨C, hh, fun y v ρ1 H1 ⟨xs, ei, hb⟩ S1 h1 f1 g1 => ⟨(xs, ρ1), hb, C, h1, fun z w ρ2 H2 ⟨ys, ej, hl, pj⟩ S2 h2 f2 g2 => ?_⟩⟩
  subst ei ej
  have ff : Fr (Own ρ σ) H1 H2 := fun a o z n => f2 a o z fun m => n (S1.ow.mp m)
  have g1 := Is.fr ff.all g1
  have g2 : Is (All C ρ σ) H2 (.tuple ys) w := Is.weak (fun a m _ => (S1.all a).mpr m) g2
  obtain ⟨p1, vs, rfl, n1, g3, g4⟩ := g1
  obtain ⟨p2, ws, rfl, n2, k3, k4⟩ := g2
  refine ⟨p1, p2, vs, ws, rfl, rfl, SqT.of g3, SqT.of k3, by rw [← g4.length, ← k4.length]; exact sz_of hl, fun z => ?_, fun _ z => ?_, fun _ _ p hp => ?_⟩
  · subst z
    have : xs = [] := by
      cases xs with
      | nil => rfl
      | cons _ _ => exact g4.elim
    subst this
    exact q _ _ ρ2 H2 pj (S1.trans S2) h2 (f1.trans ff) ⟨p2, ws, rfl, n2, k3, k4⟩
  · subst z
    have : ys = [] := by
      cases ys with
      | nil => rfl
      | cons _ _ => exact k4.elim
    subst this
    rw [List.append_nil] at *
    exact q _ _ ρ2 H2 pj (S1.trans S2) h2 (f1.trans ff) ⟨p1, vs, rfl, n1, g3, g4⟩
  · exact q _ _ ρ2 _ pj (S1.trans S2) (h2.ex (Ex.new hp)) ((f1.trans ff).trans (Ex.new hp).fr) ⟨p, _, rfl, fun m => h2.fresh hp ((S2.all p).mpr ((S1.all p).mpr m)), upd_same, IsAll.ex (Ex.new hp) (IsAll.append g4 k4)⟩
/-! ### a list taken apart; x += e; x[i] += e -/
theorem gd_l {ts : List Nat} {ρ1 : Rho} {k : Nat} (hc : X.calm = true) (h : PGDs X es ts ρ ds ρ1) (hn : (assignEach es X.env).length = ds.length := by rfl) (hst : (assignEach es X.env).findIdx? (·.1) = none := by rfl) : PGD X (.Tuple es k pos) ts ρ (.list ds) ρ1 := PGimp (pg_lst hc h hn hst) fun v σ H Q ⟨C, hh, ⟨a, vs, g1, g2, g3, g4⟩, q⟩ =>
  ⟨a, vs, g1, SqL.of g3, g4.length.symm, C, hh, g4, q⟩
theorem sd_augA (k : Nat) {nm : Str} (nd : X.N.Nodup) (hk : ρ[k]? = some (some (.d (.int i)))) (he : PX X ρ false e (.int j)) (hrest : PSD X (ρ.set k (some (.d (.int (i + j))))) sts R) (hi : X.N[k]? = some nm := by rfl) (hx : Loc X.env.scope nm := by first | exact Or.inl rfl | exact Or.inr rfl)
    (hf : X.fn nm = true ∨ X.env.scope.names.lookup nm = some .local := by first | exact .inl rfl | exact .inr rfl) : PSD X ρ (.AugAssign (.Name nm p) .Add e pos :: sts) R :=
  PSsimp (pss_cons (ps_aug nd hi hx he ip_add hf) hrest) fun D σ H ⟨C, hh, q⟩ => by
    obtain ⟨v, e1, g⟩ := hh.dat k _ hk
    have g' : v = .int i := g
    subst g'
    refine ⟨_, e1, C, hh, fun w H1 e2 gw => ⟨i, j, rfl, gw, C, (hh.ex e2).setD rfl (fun p z => ?_), q⟩⟩
    rw [hk] at z
    cases z
/-- what the list in a slot holds, by place -/
def rGetL : V → V → Hp → VK → Prop := fun o i H Q => ∃ p xs k v, o = .ref p ∧ i = .int k ∧ H p = some (.lst xs) ∧ atI xs k = some v ∧ Q v H
theorem get_lst : PGet X rGetL := by
  intro pins s σ H o i ov iv Q I ro ri h
  obtain ⟨p, xs, k, z, rfl, rfl, hq, he, q⟩ := h
  cases ro
  obtain ⟨t, rfl⟩ := ri
  obtain ⟨its, r, pl, hz⟩ := I.list (SqL.of hq)
  obtain ⟨j, h1, h2, h3, h4, h5⟩ := atI_get he
  obtain ⟨w, ew, rw'⟩ := r.get h2
  have hl := r.length
  have hn := line63
  have fin : EP X pins σ Q w s := ⟨z, H, I, rw', q⟩
  by_cases h0 : 0 ≤ k
  · have hj : k.toNat = j := by
      rw [seqIndex_of h0 h5] at h1
      exact Option.some.inj h1
    exact wpAny_getItem_list pl.isList h0 (by omega) (by rw [hj]; simpa using ew) fin
  · have hj : (k + (its.toArray.size : Int)).toNat = j := by
      rw [seqIndex_neg (by omega) h4] at h1
      rw [List.size_toArray, ← hl]
      exact Option.some.inj h1
    exact wpAny_getItem_list_neg pl.isList (by omega) (by rw [List.size_toArray] <;> omega) (by omega) (by rw [hj]; simpa using ew) fin
theorem ixN_n {n m : Nat} (h : m < n) : ixN n (m : Int) = some m := by
  unfold ixN
  rw [if_pos (by omega), if_pos (by omega)]; simp
/-- x[b] += e on a list that the slot holds -/
theorem sd_augI (k : Nat) {nm : Str} {l : Bool} {m : Nat} (hk : ρ[k]? = some (some (.o l (oL ds)))) (hb : PX X ρ false b (nD m)) (hm : ds[m]? = some (.int i)) (he : PX X ρ false e (.int j)) (hrest : PSD X (ρ.set k (some (.o l (oL (ds.set m (.int (i + j))))))) sts R) (hN : X.N[k]? = some nm := by rfl)
    (hv : Vis X.env.scope nm := by first | exact Or.inl rfl | exact Or.inr (Or.inl rfl) | exact Or.inr (Or.inr rfl)) (hd : (nm == ("__debug__" : Str)) = false := by decide) (hcd : (nm == ("__classdict__" : Str)) = false := by decide)
    (ha : ∀ ov iv new, augStore b ov iv new = (do holding [new, ov, iv] (setItem ov iv new); release [new, ov, iv] []; pure .next) := by intros; rfl) : PSD X ρ (.AugAssign (.Subscript (.Name nm p) b apos) .Add e pos :: sts) R :=
  PSsimp (pss_cons (ps_augS (pe_var hN hv hd hcd) hb get_lst he ip_add set_list ha) hrest) fun D σ H ⟨C, hh, q⟩ => by
    obtain ⟨a, e1, ⟨vs, g1, g2⟩, _⟩ := hh.own k l _ hk
    refine ⟨.ref a, e1, C, hh, fun w H1 x1 gw => ?_⟩
    have gw' : w = .int (m : Int) := gw
    subst gw'
    obtain ⟨u, u1, u2⟩ := g2.get hm
    have u2' : u = .int i := u2
    subst u2'
    refine ⟨a, vs, m, _, rfl, rfl, x1 _ _ g1, atI_nat u1, C, hh.ex x1, fun z H2 x2 gz => ⟨i, j, rfl, gz, a, vs, m, m, rfl, rfl, x2 _ _ (x1 _ _ g1), ?_, C, ?_, q⟩⟩
    · have lt : m < vs.length := (List.getElem?_eq_some_iff.mp u1).1
      exact ixN_n lt
    · refine ((hh.ex x1).ex x2).mut hk e1 (fun b o z n => by rw [upd_ne n]; exact z) ⟨_, upd_same, ?_⟩
      have inA : All C ρ σ a := .inr (.inr ⟨k, l, _, hk, e1⟩)
      exact IsAll.fr (Fr.upd inA) (IsAll.set (d := .int (i + j)) (v := .int (i + j)) rfl m (IsAll.ex (x1.trans x2) g2))
end
end Bf
set_option Elab.async false
set_option linter.all false
set_option maxRecDepth 100000
set_option maxHeartbeats 4000000
namespace Bf
open PySem PySem.Spec PyProof.Rows L2
/-- one of many kinds of object -/
def oX {ι : Type} (p : ι → OP) : OP where
  is := fun M H a => ∃ i, (p i).is M H a
  there := fun ⟨i, h⟩ => (p i).there h
  fr := fun ⟨i, h⟩ k => ⟨i, (p i).fr h k⟩
  weak := fun ⟨i, h⟩ w => ⟨i, (p i).weak h w⟩
theorem Holds.reown {C : Cn} {ρ : Rho} {σ : L2.St} {H : Hp} {k : Nat} {l : Bool} {P Q : OP} (h : Holds C ρ σ H) (e : ρ[k]? = some (some (.o l P))) (w : ∀ a, P.is (All C ρ σ) H a → Q.is (All C ρ σ) H a) : Holds C (ρ.set k (some (.o l Q))) σ H := by
  obtain ⟨a, e1, g, _⟩ := h.own k l P e
  exact h.mut e e1 (fun b o z _ => z) (w a g)
section
variable {X : Cx} {ρ : Rho} {R : Po} {sts : List Stmt} {ι : Type} {p : ι → OP} {l : Bool}
theorem sd_open (k : Nat) (hk : ρ[k]? = some (some (.o l (oX p)))) (h : ∀ i, PSD X (ρ.set k (some (.o l (p i)))) sts R) : PSD X ρ sts R :=
  PSsimp (pss_ex (ι := Rho) (P := fun ρ' => PSD X ρ' sts R) (t := fun ρ' => tS ρ' R) fun i h => h) fun D σ H ⟨C, hh, q⟩ => by
    obtain ⟨a, e1, ⟨i, g⟩, _⟩ := hh.own k l _ hk
    exact ⟨_, h i, C, hh.mut hk e1 (fun b o z _ => z) g, q⟩
end
/-- told more weakly -/
def WeakS : SV → SV → Prop
  | .d x, .d y => x = y
  | .o l p, .o l' q => l = l' ∧ ∀ M H a, p.is M H a → q.is M H a
  | _, _ => False
inductive WeakL : List SV → List SV → Prop where
  | nil : WeakL [] []
  | cons {x y : SV} {xs ys : List SV} (h : WeakS x y) (t : WeakL xs ys) : WeakL (x :: xs) (y :: ys)
theorem WeakL.get {xs ys : List SV} (h : WeakL xs ys) : ∀ {j : Nat} {y : SV}, ys[j]? = some y → ∃ x, xs[j]? = some x ∧ WeakS x y := by
  induction h with
  | nil => intro j y e; simp at e
  | cons w t ih =>
    intro j y e
    cases j with
    | zero =>
      cases e
      exact ⟨_, rfl, w⟩
    | succ j =>
      obtain ⟨x, e1, e2⟩ := ih (by simpa using e)
      exact ⟨x, by simpa using e1, e2⟩
theorem WeakL.getB {xs ys : List SV} (h : WeakL xs ys) : ∀ {j : Nat} {x : SV}, xs[j]? = some x → ∃ y, ys[j]? = some y ∧ WeakS x y := by
  induction h with
  | nil => intro j y e; simp at e
  | cons w t ih =>
    intro j y e
    cases j with
    | zero =>
      cases e
      exact ⟨_, rfl, w⟩
    | succ j =>
      obtain ⟨x, e1, e2⟩ := ih (by simpa using e)
      exact ⟨x, by simpa using e1, e2⟩
theorem WeakL.length {xs ys : List SV} (h : WeakL xs ys) : ys.length = xs.length := by
  induction h with
  | nil => rfl
  | cons w t ih => rw [List.length_cons, List.length_cons, ih]
theorem WeakL.sames {xs ys : List SV} (h : WeakL xs ys) : Sames (xs.map some) (ys.map some) := by
  refine ⟨by rw [List.length_map, List.length_map, h.length], fun j x e => ?_, fun j l p e => ?_, fun j l p e => ?_⟩
  · obtain ⟨x', e1, e2⟩ := h.get (map_some_get.mp e)
    cases x' with
    | d z =>
      have : z = x := e2
      rw [this] at e1
      exact map_some_get.mpr e1
    | o l p => exact e2.elim
  · obtain ⟨x', e1, e2⟩ := h.get (map_some_get.mp e)
    cases x' with
    | d z => exact e2.elim
    | o l' q =>
      have : l' = l := e2.1
      rw [this] at e1
      exact ⟨q, map_some_get.mpr e1⟩
  · obtain ⟨x', e1, e2⟩ := h.getB (map_some_get.mp e)
    cases x' with
    | d z => exact e2.elim
    | o l' q =>
      have : l = l' := e2.1
      rw [← this] at e1
      exact ⟨q, map_some_get.mpr e1⟩
theorem Holds.weakL {C : Cn} {xs ys : List SV} {σ : L2.St} {H : Hp} (h : Holds C (xs.map some) σ H) (w : WeakL xs ys) : Holds C (ys.map some) σ H := by
  refine h.muts w.sames (A := Own (xs.map some) σ) (fun a m => m) (fun b o e _ => e) (fun b m => h.allIn m.all) fun j l p a e1 e2 => ⟨fun _ => ?_, fun n => ?_⟩
  · obtain ⟨x', f1, f2⟩ := w.get (map_some_get.mp e1)
    cases x' with
    | d z => exact f2.elim
    | o l' q =>
      obtain ⟨b, k1, k2, _⟩ := h.own j l' q (map_some_get.mpr f1)
      rw [e2] at k1
      cases k1
      exact f2.2 _ _ _ k2
  · obtain ⟨q, e⟩ := w.sames.own j l p e1
    exact absurd ⟨j, l, q, e, e2⟩ n
theorem Cal.weak {P : Program} {w : World} {K : PySem.W.Frag} {mg : Str → Option Value} {base : Heap} {k : Nat} {x : Str} {ps : List Str} {ι : Type} {args : ι → List SV} {pre : ι → Prop} {res res' : ι → PyData → List SV → Prop} (G : Cal P w K mg base k x ps (spO args pre res))
    (h : ∀ i y sv, pre i → res i y sv → ∃ sv', WeakL sv sv' ∧ res' i y sv') : Cal P w K mg base k x ps (spO args pre res') := by
  obtain ⟨f, fd, hm, F, a, b⟩ := G.ex
  refine ⟨f, fd, hm, F.imp fun vs H Q E hs => ?_, a, b⟩
  obtain ⟨M, Pp, i, hh, hp, q⟩ := hs
  refine ⟨M, Pp, i, hh, hp, fun y v sv H' r S hs g => ?_⟩
  obtain ⟨sv', wl, r'⟩ := h i y sv hp r
  exact q y v sv' H' r' (S.trans wl.sames) (hs.weakL wl) g
theorem Cal.mono {P : Program} {w : World} {K : PySem.W.Frag} {mg : Str → Option Value} {base : Heap} {j k : Nat} {x : Str} {ps : List Str} {sp : Sp} (G : Cal P w K mg base j x ps sp) (h : j ≤ k) : Cal P w K mg base k x ps sp := by
  obtain ⟨f, fd, hm, F, a, b⟩ := G.ex
  exact ⟨f, fd, hm, F.mono h, a, b⟩
theorem weak_refl : ∀ xs : List SV, WeakL xs xs
  | [] => .nil
  | .d _ :: xs => .cons rfl (weak_refl xs)
  | .o _ _ :: xs => .cons ⟨rfl, fun _ _ _ h => h⟩ (weak_refl xs)
/-! ### the drawing state -/
def rD (c : List Int × Nat × Int × Int × Int) : List PyData := [.list (c.1.map .int), .int (c.2.1 : Int), .int c.2.2.1, .int c.2.2.2.1, .int c.2.2.2.2]
def oR : OP := oX fun c : List Int × Nat × Int × Int × Int => oL (rD c)
end Bf
set_option Elab.async false
set_option linter.all false
set_option maxRecDepth 100000
set_option maxHeartbeats 4000000
namespace Bf
open PySem PySem.Spec PyProof.Rows L2
section
variable {P : Program} {w : World} {K : PySem.W.Frag} {mg : Str → Option Value} {base : Heap}
/-! ### first_reg, first_and -/
abbrev spFreg : Sp := spP (ι := Net) (fun n => [netD n]) (fun _ => True) (fun n y => y = nD n.freg)
theorem ok_first_reg (F : Has K mg "first_reg" S_first_reg) (B : Blt mg) : Cal P w K mg base 1 "first_reg" P_first_reg spFreg :=
  fnP F sc_first_reg (fun _ => rfl) (fun _ _ _ _ _ _ us hl => match us, hl with | [_], _ => rfl) fun f cdv A outer s H E hr n _ =>
    sd_retD (px_eq (pn_add pn_1 (pn_lenT rfl B.len b_len (px_ixT (px_v 0) px_int rfl))) (congrArg nD (congrArg (1 + ·) (List.length_map _)))) rfl
abbrev spFand : Sp := spP (ι := Net) (fun n => [netD n]) (fun _ => True) (fun n y => y = nD n.fand)
theorem ok_first_and (F : Has K mg "first_and" S_first_and) (B : Blt mg) : Cal P w K mg base 1 "first_and" P_first_and spFand :=
  fnP F sc_first_and (fun _ => rfl) (fun _ _ _ _ _ _ us hl => match us, hl with | [_], _ => rfl) fun f cdv A outer s H E hr n _ =>
    sd_retD (px_eq (pn_add (pn_add pn_1 (pn_lenT rfl B.len b_len (px_ixT (px_v 0) px_int rfl))) (pn_lenT rfl B.len b_len (px_ixT (px_v 0) px_int rfl))) (by rw [List.length_map, List.length_map]; rfl)) rfl
/-! ### the law's lit -/
abbrev spLit : Sp := spP (ι := List Nat × Nat) (fun i => [.list (i.1.map nD), nD i.2]) (fun i => i.2 / 2 < i.1.length) (fun i y => y = nD (litN i.1 i.2))
theorem ok_lit (F : Has K mg "_law_lit" S_law_lit) : Cal P w K mg base 1 "_law_lit" P_law_lit spLit :=
  fnP F sc_law_lit (fun _ => rfl) (fun _ _ _ _ _ _ us hl => match us, hl with | [_, _], _ => rfl) fun f cdv A outer s H E hr i hp =>
    sd_retD (px_eq (pn_xor (px_ixL (px_v 0) (pn_shr (px_v 1) pn_1) (x := nD (i.1.getD (i.2 / 2) 0)) (atI_n (by
      show (i.1.map nD)[i.2 / 2 ^ 1]? = _
      rw [Nat.pow_one, List.getElem?_map, List.getElem?_eq_getElem hp, List.getD_eq_getElem?_getD, List.getElem?_eq_getElem hp]
      rfl))) (pn_and (px_v 1) pn_1)) (by
        show nD _ = nD _
        unfold litN
        rw [Nat.and_one_is_mod])) rfl
/-! ### table_of -/
abbrev spTab : Sp := spP (ι := Net) (fun n => [netD n]) (fun n => n.size ≤ 1000) (fun n y => y = .list (((List.range n.size).map (2 * ·)).map nD))
theorem ok_table_of (F : Has K mg "_law_table_of" S_law_table_of) (B : Blt mg) : Cal P w K mg base 1 "_law_table_of" P_law_table_of spTab :=
  fnP F sc_law_table_of (fun _ => rfl) (fun _ _ _ _ _ _ us hl => match us, hl with | [_], _ => rfl) fun f cdv A outer s H E hr n hp =>
    sd_retD (px_F (pf_lc (own := [("_law_node", 1)]) (f := fun i => nD (2 * i)) rfl sc_law_table_of.nd (blkOk_by (N := N_law_table_of) (sc := defScope S_law_table_of) (by decide +kernel))
      (pw_r (n := n.size) rfl B.range (pn_add (pn_add (pn_add pn_1 (pn_lenT rfl B.len b_len (px_ixT (px_v 0) px_int rfl))) (pn_lenT rfl B.len b_len (px_ixT (px_v 0) px_int rfl))) (pn_lenT rfl B.len b_len (px_ixT (px_v 0) px_int rfl))) (by rw [List.length_map, List.length_map, List.length_map]; rfl) (by omega))
      (by rw [List.length_range]; omega)
      (fun a _ s H C cl fp => gd_n 1 sc_law_table_of.nd)
      (fun a _ s H C cl fp => pn_mul2 (px_v 1)))) (by
        show PyData.list _ = PyData.list _
        rw [List.map_map]
        rfl)
end
end Bf
set_option Elab.async false
set_option linter.all false
set_option maxRecDepth 100000
set_option maxHeartbeats 4000000
namespace Bf
open PySem PySem.Spec PyProof.Rows L2
theorem mod_nat (x : Int) {m : Nat} (h : 0 < m) : ∃ r : Nat, r < m ∧ PyData.int (x % (m : Int)) = nD r := by
  refine ⟨(x % (m : Int)).toNat, ?_, ?_⟩
  · have := Int.emod_lt_of_pos x (show (0 : Int) < m by omega)
    have := Int.emod_nonneg x (show (m : Int) ≠ 0 by omega)
    omega
  · show PyData.int _ = PyData.int _
    have := Int.emod_nonneg x (show (m : Int) ≠ 0 by omega)
    rw [Int.toNat_of_nonneg this]
abbrev drawArgs (m : Nat) : List SV := [.o false oR, .d (nD m)]
abbrev drawPre (m : Nat) : Prop := 0 < m ∧ m < 1073741824
def drawRes (m : Nat) (y : PyData) (sv : List SV) : Prop := ∃ r : Nat, r < m ∧ y = nD r ∧ sv = [.o false oR, .d (nD m)]
abbrev spDraw : Sp := spO drawArgs drawPre drawRes
section
variable {P : Program} {w : World} {K : PySem.W.Frag} {mg : Str → Option Value} {base : Heap}
abbrev bn2 {x : Str} {st : Stmt} : Prop := True
theorem ok_draw (F : Has K mg "_law_draw" S_law_draw) (B : Blt mg) : Cal P w K mg base 1 "_law_draw" P_law_draw spDraw := by
  have G : Cal P w K mg base 1 "_law_draw" P_law_draw (spO drawArgs drawPre fun m y sv => ∃ (r : Nat) (c : List Int × Nat × Int × Int × Int), r < m ∧ y = nD r ∧ sv = [.o false (oL (rD c)), .d (nD m)]) :=
    fnO F sc_law_draw (fun _ => rfl) (fun _ _ _ _ _ _ us hl => match us, hl with | [_, _], _ => rfl) fun f cdv A outer s H E hr m hp => by
      have nd := sc_law_draw.nd
      have cd : ∀ i : Int, CDiv i (m : Int) := fun i => ⟨by omega, by omega⟩
      have hm : (0 : Int) < (m : Int) := by omega
      refine sd_open 0 rfl fun c => ?_
      refine sd_ifr (pt_gt (px_ixO 0 rfl px_int rfl) px_int) (fun h => ?_) fun h => ?_
      · refine sd_set 2 nd (px_ixO 0 rfl px_int rfl) (sd_seti 0 rfl (px_fdiv (px_v 2) (px_v 1) (cd _)) px_int rfl (sd_retD (px_mod (px_int1 rfl B.int (px_v 2)) (px_v 1) hm) ?_))
        obtain ⟨r, h1, h2⟩ := mod_nat c.2.2.1 hp.1
        exact ⟨r, (c.1, c.2.1, c.2.2.1 / (m : Int), c.2.2.2.1, c.2.2.2.2), h1, h2, rfl⟩
      · refine sd_set 3 nd px_int (sd_if (fun ρ' => ∃ (z : Int) (o : Option SV), ρ' = [some (.o false (oL (rD c))), some (.d (nD m)), none, some (.d (.int z)), o]) (pt_lt (px_ixO 0 rfl px_int rfl) (px_lenL rfl B.len b_len (px_ixO 0 rfl px_int rfl))) (fun h => ?_) (fun h => sd_nil ⟨0, none, rfl⟩) ?_)
        · have lt : c.2.1 < c.1.length := by
            have := of_decide_eq_true h
            rw [List.length_map] at this
            omega
          refine sd_set 4 nd (px_ixL (px_ixO 0 rfl px_int rfl) (px_ixO 0 rfl px_int rfl) (x := .int c.1[c.2.1]) (atI_nat (by rw [List.getElem?_map, List.getElem?_eq_getElem lt]; rfl))) ?_
          exact sd_set 3 nd (px_add (px_mul2 (px_abs rfl B.abs (px_v 4))) (px_intB rfl B.int (px_lt (px_v 4) px_int))) (sd_nil ⟨_, _, rfl⟩)
        · rintro ρ' ⟨z, o, rfl⟩
          refine sd_augI 0 (m := 1) rfl pn_1 rfl px_int ?_
          refine sd_ifr (pt_ge (px_v 3) (px_mul2 (px_pow px_int px_int ⟨by decide, by decide, by decide⟩))) (fun h => ?_) fun h => ?_
          · refine sd_set 2 nd (px_mod (px_int1 rfl B.int (px_fdiv (px_v 3) px_int ⟨by decide, by decide⟩)) (px_shl px_int px_int ⟨by decide, by decide, by decide⟩) (by show (0 : Int) < 1 * 2 ^ 6000; exact Int.mul_pos (by decide) (Int.pow_pos (by decide)))) ?_
            refine sd_seti 0 rfl (px_fdiv (px_v 2) (px_v 1) (cd _)) px_int rfl (sd_retD (px_mod (px_int1 rfl B.int (px_v 2)) (px_v 1) hm) ?_)
            obtain ⟨r, h1, h2⟩ := mod_nat (z / 2 % (1 * 2 ^ (6000 : Int).toNat)) hp.1
            exact ⟨r, (c.1, c.2.1 + 1, z / 2 % (1 * 2 ^ (6000 : Int).toNat) / (m : Int), c.2.2.2.1, c.2.2.2.2), h1, h2, rfl⟩
          · refine sd_seti 0 rfl (px_mod (px_int1 rfl B.int (px_add (px_add (px_add (px_mul (px_ixO 0 rfl px_int rfl) px_int (.inr ⟨by decide, by decide⟩)) (px_mul (px_mod (px_int1 rfl B.int (px_v 3)) px_int (by decide)) px_int (.inr ⟨by decide, by decide⟩))) (px_mul (px_ixO 0 rfl px_int rfl) px_int (.inr ⟨by decide, by decide⟩))) px_int)) px_int (by decide)) px_int rfl ?_
            refine sd_retD (px_mod (px_int1 rfl B.int (px_fdiv (px_ixO 0 rfl px_int rfl) px_int ⟨by decide, by decide⟩)) (px_v 1) hm) ?_
            obtain ⟨r, h1, h2⟩ := mod_nat _ hp.1
            exact ⟨r, (c.1, c.2.1 + 1, c.2.2.1, (c.2.2.2.1 * 48271 + z % 2147483629 * 16807 + ((c.2.1 : Int) + 1) * 69621 + 11) % 2147483647, c.2.2.2.2), h1, h2, rfl⟩
  exact G.weak fun m y sv _ ⟨r, c, h1, h2, h3⟩ => ⟨[.o false oR, .d (nD m)], by
    subst h3
    exact .cons ⟨rfl, fun M H a z => ⟨c, z⟩⟩ (.cons rfl .nil), r, h1, h2, rfl⟩
end
end Bf
set_option Elab.async false
set_option linter.all false
set_option maxRecDepth 100000
set_option maxHeartbeats 4000000
namespace Bf
open PySem PySem.Spec PyProof.Rows L2
theorem set_id {α : Type} {l : List α} {k : Nat} {x : α} (h : l[k]? = some x) : l.set k x = l := by
  apply List.ext_getElem?
  intro i
  rw [List.getElem?_set]
  by_cases e : k = i
  · subst e
    rw [if_pos rfl, h, if_pos (List.getElem?_eq_some_iff.mp h).1]
  · rw [if_neg e]
theorem sd_weak {X : Cx} {ρ : Rho} {R : Po} {sts : List Stmt} {l : Bool} {P Q : OP} (k : Nat) (hk : ρ[k]? = some (some (.o l P))) (w : ∀ M H a, P.is M H a → Q.is M H a) (h : PSD X (ρ.set k (some (.o l Q))) sts R) : PSD X ρ sts R :=
  PSsimp h fun D σ H ⟨C, hh, q⟩ => ⟨C, hh.reown hk fun a g => w _ _ a g, q⟩
/-! ### defs that draw -/
abbrev rArgs (xs : List PyData) : List SV := .o false oR :: xs.map .d
abbrev spR {ι : Type} (xs : ι → List PyData) (pre : ι → Prop) (res : ι → PyData → Prop) : Sp := spO (fun i => rArgs (xs i)) pre (fun i y sv => res i y ∧ sv = rArgs (xs i))
theorem slots_x : ∀ ds : List PyData, slotsA (ds.map .x) = []
  | [] => rfl
  | _ :: ds => slots_x ds
theorem pass_x {ρ : Rho} : ∀ ds : List PyData, Pass ρ (ds.map .x) (ds.map .d)
  | [] => True.intro
  | d :: ds => ⟨rfl, pass_x ds⟩
theorem upd_x {ρ : Rho} : ∀ ds : List PyData, updR ρ (ds.map .x) (ds.map .d) = ρ
  | [] => rfl
  | _ :: ds => upd_x ds
section
variable {X : Cx} {ρ : Rho} {es : List Expr} {a b e : Expr} {k n : Nat} {x : Str} {ps : List Str} {pos p p1 : Pos} {ι : Type} {xs : ι → List PyData} {pre : ι → Prop} {res : ι → PyData → Prop} {P : PyData → Rho → Prop} {l : Bool} {ds : List PyData}
theorem pm_callR (G : Cal X.prog X.w X.K X.mg X.base n x ps (spR xs pre res)) (k : Nat) {nm : Str} (hk : ρ[k]? = some (some (.o l oR))) (ha : PMs X ρ es (fun ys ρ1 => ρ1[k]? = some (some (.o l oR)) ∧ ∃ i, ys = (xs i).map .x ∧ pre i ∧ ∀ y, res i y → P y ρ1))
    (hr : Room n X.A := by first | assumption | exact Room.mono (by assumption) (by decide)) (hg : Gl X x := by rfl) (hN : X.N[k]? = some nm := by rfl) (hv : Vis X.env.scope nm := by first | exact Or.inl rfl | exact Or.inr (Or.inl rfl) | exact Or.inr (Or.inr rfl)) (hd : (nm == ("__debug__" : Str)) = false := by decide)
    (hcd : (nm == ("__classdict__" : Str)) = false := by decide) (hs : starEach (.Name nm p1 :: es) X.env = (false, eval (.Name nm p1) X.env) :: starEach es X.env := by rfl)
    (hdb : (x == ("__debug__" : Str)) = false := by decide) (hpl : (backTo pos (starEach es X.env)).any (·.1) = false := by rfl) : PM X ρ (.Call (.Name x p) (.Name nm p1 :: es) [] pos) P :=
  pm_call G (pms_s k hk (PAimp ha fun σ H Q ⟨C, hh, q⟩ => ⟨C, hh, fun ys vs ρ1 H1 ⟨k1, i, ey, hp, w⟩ S h1 f g => q ys vs ρ1 H1 (by
    subst ey
    refine ⟨i, ⟨rfl, ⟨l, k1⟩, (by rw [slots_x]; exact List.not_mem_nil), pass_x _⟩, hp, fun y sv ⟨r, es⟩ => ?_⟩
    subst es
    have : updR ρ1 (.s k :: (xs i).map .x) (rArgs (xs i)) = ρ1 := by
      show (match ρ1[k]? with
        | some (some (.o l _)) => (updR ρ1 ((xs i).map .x) ((xs i).map .d)).set k (some (.o l oR))
        | _ => updR ρ1 ((xs i).map .x) ((xs i).map .d)) = ρ1
      rw [k1, upd_x]
      exact set_id k1
    rw [this]
    exact w y r) S h1 f g⟩) hN hv hd hcd hs) hr hg hdb hs hpl
theorem ok_draw' {P : Program} {w : World} {K : PySem.W.Frag} {mg : Str → Option Value} {base : Heap} (G : Cal P w K mg base 1 "_law_draw" P_law_draw spDraw) : Cal P w K mg base 1 "_law_draw" P_law_draw (spR (ι := Nat) (fun m => [nD m]) drawPre (fun m y => ∃ r : Nat, r < m ∧ y = nD r)) :=
  G.weak fun m y sv _ ⟨r, h1, h2, h3⟩ => ⟨sv, weak_refl sv, ⟨r, h1, h2⟩, h3⟩
abbrev Draws (P : Program) (w : World) (K : PySem.W.Frag) (mg : Str → Option Value) (base : Heap) : Prop := Cal P w K mg base 1 "_law_draw" P_law_draw (spR (ι := Nat) (fun m => [nD m]) drawPre (fun m y => ∃ r : Nat, r < m ∧ y = nD r))
theorem pm_draw (G : Draws X.prog X.w X.K X.mg X.base) (k : Nat) {nm : Str} {m : Nat} (he : PX X ρ true e (nD m)) (hp : drawPre m) (w : ∀ r : Nat, r < m → P (nD r) ρ)
    (hk : ρ[k]? = some (some (.o l oR)) := by rfl) (hr : Room 1 X.A := by first | assumption | exact Room.mono (by assumption) (by decide)) (hg : Gl X "_law_draw" := by rfl) (hN : X.N[k]? = some nm := by rfl) (hv : Vis X.env.scope nm := by first | exact Or.inl rfl | exact Or.inr (Or.inl rfl) | exact Or.inr (Or.inr rfl)) (hd : (nm == ("__debug__" : Str)) = false := by decide)
    (hcd : (nm == ("__classdict__" : Str)) = false := by decide) (hs : starEach [.Name nm p1, e] X.env = (false, eval (.Name nm p1) X.env) :: starEach [e] X.env := by rfl) (hs2 : starEach [e] X.env = (false, eval e X.env) :: starEach [] X.env := by rfl)
    (hpl : (backTo pos (starEach [e] X.env)).any (·.1) = false := by rfl) : PM X ρ (.Call (.Name "_law_draw" p) [.Name nm p1, e] [] pos) P :=
  pm_callR G k hk (pms_cons (pm_x he (pms_nil ⟨hk, m, rfl, hp, fun y ⟨r, h1, h2⟩ => by rw [h2]; exact w r h1⟩)) hs2) hr hg hN hv hd hcd hs (by decide) hpl
theorem pm_ixL (ha : PX X ρ true a (.list ds)) (hb : PM X ρ b (fun y ρ1 => ∃ (n : Nat) (z : PyData), y = nD n ∧ ds[n]? = some z ∧ P z ρ1)) (hs : PlainIx b := by exact fun _ _ => rfl) : PM X ρ (.Subscript a b pos) P := by
  have k := pe_ex (X := X) (e := b) (ι := Unit) (P := fun _ => True) (t := fun _ => tM ρ (fun y ρ1 => ∃ (n : Nat) (z : PyData), y = nD n ∧ ds[n]? = some z ∧ P z ρ1)) fun _ _ => hb
  refine PEimp (pe_ix ix_list ha k hs) fun σ H Q ⟨C, hh, q⟩ => ⟨C, hh, fun v H1 e1 g1 => ⟨(), True.intro, C, hh.ex e1, fun y w ρ2 H2 ⟨n, z, ey, hz, pz⟩ S2 h2 f2 g2 => ?_⟩⟩
  subst ey
  obtain ⟨pp, vs, rfl, n1, g3, g4⟩ := Is.fr f2.all g1.ofT
  obtain ⟨u, u1, u2⟩ := g4.get hz
  exact ⟨pp, vs, n, u, rfl, g2, SqL.of g3, atI_nat u1, q z u ρ2 H2 pz S2 h2 (e1.fr.trans f2) u2⟩
end
section
variable {P : Program} {w : World} {K : PySem.W.Frag} {mg : Str → Option Value} {base : Heap}
/-- a def that draws: hb its body -/
theorem fnR {x : Str} {st : Stmt} {N ps : List Str} {k : Nat} {ι : Type} {xs : ι → List PyData} {pre : ι → Prop} {res : ι → PyData → Prop} (F : Has K mg x st) (S : FnScope N ps (defScope st)) (hl : ∀ i, (xs i).length + 1 = ps.length)
    (bn : ∀ (kV doc pm : Value) (an : Option Addr) (cdv ct : Value) (us : List Value), us.length = ps.length → bindArgs (PySem.W.fnOf x x (defArgs st) (defBody st) (defScope st) .none kV doc pm an cdv ct) ⟨us, []⟩ = pure (ps.zip us))
    (hb : ∀ (f : Addr) (cdv : Value) (A : Around) (outer : List Env) (s : Shared) (H : Hp) (E : XK), Room k (A.deeper (envOfC x (defScope st) s.heap.objs.size f cdv)) → ∀ i, pre i →
      PSD (cxOf CX0 P w K mg base N x (defScope st) f cdv A outer s H E).nox (rho0 N (rArgs (xs i))) (defBody st) { nx := fun _ => False, rt := fun y ρ => res i y ∧ aft (rArgs (xs i)) ρ = rArgs (xs i) }) :
    Cal P w K mg base (k + 1) x ps (spR xs pre res) :=
  fnO F S (fun i => by show (xs i |>.map SV.d).length + 1 = _; rw [List.length_map, hl]) bn fun f cdv A outer s H E hr i hp => PSsimp (hb f cdv A outer s H E hr i hp) fun D σ H ⟨C, hh, q⟩ => ⟨C, hh, fun _ _ _ z => z.elim, q.rt, fun _ _ _ z => z.elim, fun _ _ _ z => z.elim, fun _ _ _ _ _ _ z => z.elim⟩
end
end Bf
set_option Elab.async false
set_option linter.all false
set_option maxRecDepth 100000
set_option maxHeartbeats 4000000
namespace Bf
open PySem PySem.Spec PyProof.Rows L2
theorem half_ok (m : Nat) : CDiv (m : Int) 2 := ⟨by decide, by decide⟩
section
variable {X : Cx} {ρ : Rho} {a b e : Expr} {pos apos : Pos} {t u : Str}
/-- x.split(y) -/
theorem pf_split (ha : PX X ρ false a (.str t)) (hb : PX X ρ false b (.str u)) (h1 : (u.length == 0) = false) (h2 : t.length ≤ 1000) (hs : starEach [b] X.env = [(false, eval b X.env)] := by rfl) (hbase : attributeBase a "split" X.env (eval a X.env) = eval a X.env := by rfl) (hline : (apos.endLine == pos.line) = true := by rfl) :
    PXF X ρ (.Call (.Attribute a "split" apos) [b] [] pos) ((Txt.split t u).map .str) := PEimp (pe_split ha hb hs hbase hline) fun σ H Q ⟨C, hh, q⟩ =>
  ⟨C, hh, fun v H1 e1 g1 => ⟨⟨t, g1⟩, C, hh.ex e1, fun w H2 e2 g2 => ⟨t, u, g1, by rw [show w = .str u from g2], h1, sz_of (by omega), fun p hp => q p _ _ (e1.back (e2.back hp)) ((e1.trans e2).trans (Ex.new hp)) upd_same (by
    have : ∀ {M : Ad} {H : Hp} (zs : List Str), IsAll M H (zs.map .str) (zs.map V.str) := fun {M H} zs => by
      induction zs with
      | nil => exact True.intro
      | cons z zs ih => exact ⟨rfl, ih⟩
    exact this _)⟩⟩⟩
end
section
variable {P : Program} {w : World} {K : PySem.W.Frag} {mg : Str → Option Value} {base : Heap}
/-! ### begin -/
abbrev spBegin : Sp := spF (ι := List Int) (fun c => [.list (c.map .int)]) (fun c => c.length ≤ 1000) (fun c ds => ds = rD (c, 0, 0, 7, 3))
theorem ok_begin (F : Has K mg "_law_begin" S_law_begin) (B : Blt mg) : Cal P w K mg base 1 "_law_begin" P_law_begin spBegin :=
  fnF F sc_law_begin (fun _ => rfl) (fun _ _ _ _ _ _ us hl => match us, hl with | [_], _ => rfl) fun f cdv A outer s H E hr c hp => by
    have nd := sc_law_begin.nd
    refine sd_retF (pf_lst (pxs_cons (px_F (pf_lc (own := [("_law_cell", 1)]) (l := c) (g := PyData.int) (f := PyData.int) rfl nd (blkOk_by (N := N_law_begin) (sc := defScope S_law_begin) (by decide +kernel)) (piw_L (px_v 0)) (by omega) (fun a _ s H C cl fp => gd_n 1 nd) (fun a _ s H C cl fp => px_int1 rfl B.int (px_v 1)))) (pxs_cons px_int (pxs_cons px_int (pxs_cons px_int (pxs_cons px_int pxs_nil))))) (show 5 ≤ 1000000 by decide)) ?_
    rfl
/-! ### pool -/
abbrev spPool : Sp := spF (ι := Unit) (fun _ => []) (fun _ => True) (fun _ ds => ∃ zs : List Str, ds = zs.map .str ∧ 20 ≤ zs.length ∧ zs.length ≤ 1000 ∧ ∀ z ∈ zs, z.length ≤ 8)
theorem ok_pool (F : Has K mg "_law_pool" S_law_pool) (B : Blt mg) : Cal P w K mg base 1 "_law_pool" P_law_pool spPool :=
  fnF F sc_law_pool (fun _ => rfl) (fun _ _ _ _ _ _ us hl => match us, hl with | [], _ => rfl) fun f cdv A outer s H E hr c hp => by
    have nd := sc_law_pool.nd
    refine sd_set 0 nd px_str (sd_set 0 nd (px_adds (px_v 0) px_str (by decide +kernel)) (sd_retF (pf_split (px_adds (px_v 0) px_str (by decide +kernel)) px_str (by decide +kernel) (by decide +kernel)) ⟨_, rfl, ?_, ?_, ?_⟩))
    · decide +kernel
    · decide +kernel
    · decide +kernel
/-! ### pick, rare, a drawn literal -/
abbrev spPick : Sp := spR (ι := List PyData) (fun ds => [.list ds]) (fun ds => drawPre ds.length) (fun ds y => y ∈ ds)
theorem ok_pick (F : Has K mg "_law_pick" S_law_pick) (B : Blt mg) (D : Draws P w K mg base) : Cal P w K mg base 2 "_law_pick" P_law_pick spPick :=
  fnR F sc_law_pick (fun _ => rfl) (fun _ _ _ _ _ _ us hl => match us, hl with | [_, _], _ => rfl) fun f cdv A outer s H E hr ds hp => by
    refine sd_retM (pm_ixL (px_v 1) (pm_draw D 0 (px_lenL rfl B.len b_len (px_v 1)) hp fun r hr => ⟨r, ds[r], rfl, List.getElem?_eq_getElem hr, List.getElem_mem hr, rfl⟩))
abbrev spRare : Sp := spR (ι := Nat) (fun m => [nD m]) drawPre (fun m y => ∃ b, y = .bool b)
theorem ok_rare (F : Has K mg "_law_rare" S_law_rare) (B : Blt mg) (D : Draws P w K mg base) : Cal P w K mg base 2 "_law_rare" P_law_rare spRare :=
  fnR F sc_law_rare (fun _ => rfl) (fun _ _ _ _ _ _ us hl => match us, hl with | [_, _], _ => rfl) fun f cdv A outer s H E hr m hp => by
    refine sd_retM (pm_eqI (pm_draw D 0 (px_v 1) hp fun r _ => ⟨r, rfl, pm_x (px_fdiv (px_v 1) px_int (half_ok m)) ⟨_, rfl, ⟨_, rfl⟩, rfl⟩⟩))
abbrev spDlit : Sp := spR (ι := Nat) (fun m => [nD m]) drawPre (fun m y => ∃ r : Nat, r < 2 * m ∧ y = nD r)
theorem ok_dlit (F : Has K mg "_law_drawn_literal" S_law_drawn_literal) (B : Blt mg) (D : Draws P w K mg base) : Cal P w K mg base 2 "_law_drawn_literal" P_law_drawn_literal spDlit :=
  fnR F sc_law_drawn_literal (fun _ => rfl) (fun _ _ _ _ _ _ us hl => match us, hl with | [_, _], _ => rfl) fun f cdv A outer s H E hr m hp => by
    have nd := sc_law_drawn_literal.nd
    have hr1 := hr.mono (show 1 ≤ 1 by decide)
    refine sd_setM 2 nd (pm_max rfl rfl B.max (pms_cons (pm_draw D 0 (px_v 1) hp fun r h1 => pms_cons (pm_draw D 0 (px_v 1) hp fun r2 h2 => pms_nil ⟨r, r2, rfl, ?_⟩))))
    have e : (if (r2 : Int) > (r : Int) then (r2 : Int) else (r : Int)) = ((max r r2 : Nat) : Int) := by
      split <;> omega
    rw [e]
    refine sd_retM (pm_add (pm_x (pn_mul2 (px_v 2)) ⟨_, rfl, pm_draw D 0 pn_2 ⟨by decide, by decide⟩ fun r3 h3 => ⟨_, rfl, ⟨2 * max r r2 + r3, by omega, ?_⟩, rfl⟩⟩))
    show PyData.int _ = PyData.int _
    rw [Int.natCast_add]
/-! ### pop, shuffled -/
abbrev spPop : Sp := spO (ι := List PyData) (fun ds => [.o false oR, .o false (oL ds)]) (fun ds => drawPre ds.length) (fun ds y sv => ∃ n : Nat, ds[n]? = some y ∧ sv = [.o false oR, .o false (oL (ds.eraseIdx n))])
theorem seqIx {n m : Nat} (h : n < m) : seqIndex? (n : Int) m = some n := by
  rw [seqIndex_of (by omega) (by omega), Int.toNat_natCast]
theorem ok_pop (F : Has K mg "_law_pop" S_law_pop) (B : Blt mg) (D : Draws P w K mg base) : Cal P w K mg base 2 "_law_pop" P_law_pop spPop :=
  fnO F sc_law_pop (fun _ => rfl) (fun _ _ _ _ _ _ us hl => match us, hl with | [_, _], _ => rfl) fun f cdv A outer s H E hr ds hp => by
    have := hp.2
    refine sd_retM (pm_pop 1 rfl (pm_draw D 0 (px_lenL rfl B.len b_len (px_b 1)) hp fun r h => ⟨ds, r, r, ds[r], rfl, rfl, ⟨by omega, by omega⟩, seqIx h, List.getElem?_eq_getElem h, r, List.getElem?_eq_getElem h, rfl⟩))
abbrev spShuf : Sp := spR (ι := List PyData) (fun ds => [.list ds]) (fun ds => ds.length ≤ 1000) (fun ds y => ∃ es, y = .list es ∧ es.length = ds.length ∧ ∀ e ∈ es, e ∈ ds)
theorem ok_shuffled (F : Has K mg "_law_shuffled" S_law_shuffled) (B : Blt mg) (D : Draws P w K mg base) : Cal P w K mg base 2 "_law_shuffled" P_law_shuffled spShuf :=
  fnR F sc_law_shuffled (fun _ => rfl) (fun _ _ _ _ _ _ us hl => match us, hl with | [_, _], _ => rfl) fun f cdv A outer s H E hr ds hp => by
    have nd := sc_law_shuffled.nd
    have hr1 := hr.mono (show 1 ≤ 1 by decide)
    refine sd_new 2 nd (pf_lstL rfl B.list b_list (px_v 1)) (sd_new 3 nd (pf_lst pxs_nil) ?_)
    refine sd_for (l := List.range ds.length) (g := nD) (fun i ρ => ∃ (left found : List PyData) (o : Option SV), ρ = [some (.o false oR), some (.d (.list ds)), some (.o true (oL left)), some (.o true (oL found)), o] ∧ isO (some o) = false ∧ left.length + i = ds.length ∧ found.length = i ∧ (∀ e ∈ left, e ∈ ds) ∧ ∀ e ∈ found, e ∈ ds) (fun _ _ => False)
      rfl PassesOwn.never (pw_r rfl B.range (px_lenL rfl B.len b_len (px_b 2)) rfl (by omega)) ⟨ds, [], none, rfl, rfl, rfl, rfl, fun _ h => h, fun e h => by cases h⟩ (fun i a ρ' ha ⟨left, found, o, e, ho, h1, h2, h3, h4⟩ => ?_) (fun ρ' ⟨left, found, o, e, ho, h1, h2, h3, h4⟩ => ?_) (fun _ _ z => z.elim)
    · subst e
      have li : i < ds.length := by
        have := (List.getElem?_eq_some_iff.mp ha).1
        rwa [List.length_range] at this
      refine ⟨[4], _, gd_n 4 nd ho, ?_⟩
      refine sd_appM 3 rfl (pm_pop 2 rfl (pm_draw D 0 (px_lenL rfl B.len b_len (px_b 2)) ⟨by omega, by omega⟩ fun r h => ⟨left, r, r, left[r], rfl, rfl, ⟨by omega, by omega⟩, seqIx h, List.getElem?_eq_getElem h, found, rfl, by omega, sd_nil ⟨left.eraseIdx r, found ++ [left[r]], some (.d (nD a)), rfl, rfl, ?_, ?_, ?_, ?_⟩⟩))
      · rw [List.length_eraseIdx, if_pos h]
        omega
      · rw [List.length_append, h2]
        rfl
      · exact fun e he => h3 e (List.mem_of_mem_eraseIdx he)
      · intro e he
        rcases List.mem_append.mp he with he | he
        · exact h4 e he
        · rw [List.mem_singleton.mp he]
          exact h3 _ (List.getElem_mem h)
    · subst e
      rw [List.length_range] at h1 h2
      exact sd_retO 3 rfl ⟨⟨found, rfl, h2, h4⟩, rfl⟩
end
end Bf
set_option Elab.async false
set_option linter.all false
set_option maxRecDepth 100000
set_option maxHeartbeats 4000000
namespace Bf
open PySem PySem.Spec PyProof.Rows L2
/-! ### nets that are right, their sizes bounded -/
structure Net.Ok (n : Net) (t : Nat) : Prop where
  ins : n.ins.length ≤ 8
  regs : n.regs.length ≤ 50 + t
  rnm : ∀ r ∈ n.regs, r.nm.length ≤ 50 + t
  ands : n.ands.length ≤ 12 + t
  outs : 1 ≤ n.outs.length ∧ n.outs.length ≤ 2 + t
  onm : ∀ o ∈ n.outs, o.nm.length ≤ 50 + t
  clms : n.clms.length ≤ 2 + t
  cnm : ∀ o ∈ n.clms, o.nm.length ≤ 50 + t
  rl : ∀ r ∈ n.regs, r.st < 2 ∧ r.nx < 2 * n.size
  al : ∀ (i : Nat) (p : Nat × Nat), n.ands[i]? = some p → p.1 < 2 * (n.fand + i) ∧ p.2 < 2 * (n.fand + i)
  ol : ∀ o ∈ n.outs, o.li < 2 * n.size
  cl : ∀ o ∈ n.clms, o.li < 2 * n.size
theorem Net.Ok.mono {n : Net} {t u : Nat} (h : n.Ok t) (e : t ≤ u) : n.Ok u :=
  ⟨h.ins, Nat.le_trans h.regs (by omega), fun r m => Nat.le_trans (h.rnm r m) (by omega), Nat.le_trans h.ands (by omega), ⟨h.outs.1, Nat.le_trans h.outs.2 (by omega)⟩, fun r m => Nat.le_trans (h.onm r m) (by omega), Nat.le_trans h.clms (by omega), fun r m => Nat.le_trans (h.cnm r m) (by omega), h.rl, h.al, h.ol, h.cl⟩
theorem Net.Ok.sz {n : Net} {t : Nat} (h : n.Ok t) : n.size ≤ 100 + 2 * t := by
  have := h.ins
  have := h.regs
  have := h.ands
  unfold Net.size Net.fand
  omega
theorem Net.fand_le (n : Net) : n.fand ≤ n.size := Nat.le_add_right _ _
theorem xor1_lt {x b S : Nat} (h : x < 2 * S) (hb : b < 2) : x ^^^ b < 2 * S := by
  have e : (x ^^^ b) / 2 = x / 2 := by
    have e1 := Nat.xor_div_two (a := x) (b := b)
    rw [e1, show b / 2 = 0 by omega, Nat.xor_zero]
  omega
theorem litN_lt {bs : List Nat} {l S : Nat} (h : ∀ v, bs[l / 2]? = some v → v < 2 * S) (hl : l / 2 < bs.length) : litN bs l < 2 * S := by
  unfold litN
  have e := List.getElem?_eq_getElem hl
  rw [List.getD_eq_getElem?_getD, e]
  exact xor1_lt (h _ e) (Nat.mod_lt _ (by decide))
/-- a table from the nodes of n to the literals of a net whose ands begin at f -/
structure Good (n : Net) (f : Nat) (t : List Nat) : Prop where
  len : t.length = n.size
  lt : ∀ (j v : Nat), t[j]? = some v → v < 2 * (f + (j + 1 - n.fand))
theorem Good.and {n : Net} {f : Nat} {t : List Nat} (h : Good n f t) {i l : Nat} (hi : i ≤ n.ands.length) (hl : l < 2 * (n.fand + i)) : l / 2 < t.length ∧ litN t l < 2 * (f + i) := by
  have lt : l / 2 < t.length := by
    rw [h.len]
    unfold Net.size
    omega
  refine ⟨lt, litN_lt (fun v e => ?_) lt⟩
  have := h.lt _ v e
  omega
theorem Good.lit {n : Net} {f : Nat} {t : List Nat} (h : Good n f t) {l : Nat} (hl : l < 2 * n.size) : l / 2 < t.length ∧ litN t l < 2 * (f + n.ands.length) := h.and (Nat.le_refl _) hl
def idT (n : Net) : List Nat := (List.range n.size).map (2 * ·)
theorem idT_get {n : Net} {j v : Nat} (h : (idT n)[j]? = some v) : v = 2 * j ∧ j < n.size := by
  unfold idT at h
  rw [List.getElem?_map] at h
  cases e : (List.range n.size)[j]? with
  | none =>
    rw [e] at h
    cases h
  | some k =>
    rw [e] at h
    obtain ⟨h1, h2⟩ := List.getElem?_eq_some_iff.mp e
    rw [List.length_range] at h1
    rw [List.getElem_range] at h2
    have : 2 * k = v := Option.some.inj h
    omega
theorem idT_len (n : Net) : (idT n).length = n.size := by
  unfold idT
  rw [List.length_map, List.length_range]
theorem idT_good (n : Net) : Good n n.fand (idT n) := ⟨idT_len n, fun j v e => by
  obtain ⟨h1, h2⟩ := idT_get e
  omega⟩
theorem Good.set {n : Net} {f : Nat} {t : List Nat} (h : Good n f t) {j v : Nat} (hv : v < 2 * f) : Good n f (t.set j v) := ⟨by rw [List.length_set]; exact h.len, fun k u e => by
  rcases set_get e with ⟨_, rfl, _⟩ | ⟨_, e⟩
  · omega
  · exact h.lt k u e⟩
/-! ### renewed -/
def renN (n : Net) (t o : List Nat) (regs : List Reg) : Net :=
  ⟨n.ins, regs, n.ands.map fun p => (litN t p.1, litN o p.2), n.outs.map fun r => ⟨r.nm ++ "z", litN o r.li⟩, n.clms.map fun r => ⟨r.nm ++ "z", litN t r.li⟩⟩
theorem str_len (a b : Str) : (a ++ b).length = a.length + b.length := by
  show (a.cps ++ b.cps).size = a.cps.size + b.cps.size
  exact Array.size_append
theorem renN_ok {n : Net} {t o : List Nat} {regs : List Reg} {u : Nat} (h : n.Ok u) (ht : Good n (1 + n.ins.length + regs.length) t) (ho : Good n (1 + n.ins.length + regs.length) o) (hr : regs.length ≤ 50 + (u + 1)) (hn : ∀ r ∈ regs, r.nm.length ≤ 50 + (u + 1))
    (hl : ∀ r ∈ regs, r.st < 2 ∧ r.nx < 2 * (1 + n.ins.length + regs.length + n.ands.length)) : (renN n t o regs).Ok (u + 1) := by
  have sz : (renN n t o regs).size = 1 + n.ins.length + regs.length + n.ands.length := by
    unfold Net.size Net.fand renN
    simp
  have fa : (renN n t o regs).fand = 1 + n.ins.length + regs.length := rfl
  have z1 : (("z" : Str)).length = 1 := by decide
  refine ⟨h.ins, hr, hn, ?_, ?_, ?_, ?_, ?_, ?_, ?_, ?_, ?_⟩
  · have := h.ands
    show (n.ands.map _).length ≤ _
    rw [List.length_map]
    omega
  · have := h.outs
    show 1 ≤ (n.outs.map _).length ∧ (n.outs.map _).length ≤ _
    rw [List.length_map]
    omega
  · intro r m
    obtain ⟨x, hx, rfl⟩ := List.mem_map.mp m
    have := h.onm x hx
    rw [str_len, z1]
    omega
  · have := h.clms
    show (n.clms.map _).length ≤ _
    rw [List.length_map]
    omega
  · intro r m
    obtain ⟨x, hx, rfl⟩ := List.mem_map.mp m
    have := h.cnm x hx
    rw [str_len, z1]
    omega
  · rw [sz]
    exact hl
  · intro i p e
    rw [fa]
    have e' : (n.ands.map fun p => (litN t p.1, litN o p.2))[i]? = some p := e
    rw [List.getElem?_map] at e'
    cases q : n.ands[i]? with
    | none =>
      rw [q] at e'
      cases e'
    | some a =>
      rw [q] at e'
      have : (litN t a.1, litN o a.2) = p := Option.some.inj e'
      subst this
      have lt := (List.getElem?_eq_some_iff.mp q).1
      have := h.al i a q
      exact ⟨(ht.and (Nat.le_of_lt lt) this.1).2, (ho.and (Nat.le_of_lt lt) this.2).2⟩
  · rw [sz]
    intro r m
    obtain ⟨x, hx, rfl⟩ := List.mem_map.mp m
    exact (ho.lit (h.ol x hx)).2
  · rw [sz]
    intro r m
    obtain ⟨x, hx, rfl⟩ := List.mem_map.mp m
    exact (ht.lit (h.cl x hx)).2
end Bf
set_option Elab.async false
set_option linter.all false
set_option maxRecDepth 100000
set_option maxHeartbeats 4000000
namespace Bf
open PySem PySem.Spec PyProof.Rows L2
abbrev Lits (P : Program) (w : World) (K : PySem.W.Frag) (mg : Str → Option Value) (base : Heap) : Prop := Cal P w K mg base 1 "_law_lit" P_law_lit spLit
section
variable {X : Cx} {ρ : Rho} {s : Bool} {a b : Expr} {pos p : Pos} {bs : List Nat} {l : Nat}
theorem px_lit (G : Lits X.prog X.w X.K X.mg X.base) (ha : PX X ρ false a (.list (bs.map nD))) (hb : PX X ρ false b (nD l)) (h : l / 2 < bs.length) (hr : Room 1 X.A := by first | assumption | exact Room.mono (by assumption) (by decide)) (hg : Gl X "_law_lit" := by rfl)
    (he : starEach [a, b] X.env = (false, eval a X.env) :: starEach [b] X.env := by rfl) (he2 : starEach [b] X.env = (false, eval b X.env) :: starEach [] X.env := by rfl)
    (hpl : (backTo pos (starEach [b] X.env)).any (·.1) = false := by rfl) : PX X ρ s (.Call (.Name "_law_lit" p) [a, b] [] pos) (nD (litN bs l)) :=
  px_i (px_call G (bs, l) h (pxs_cons ha (pxs_cons hb pxs_nil he2) he) (fun y e => e) hr hg (by decide) he hpl)
end
section
variable {P : Program} {w : World} {K : PySem.W.Frag} {mg : Str → Option Value} {base : Heap}
/-! ### table_of, a new list -/
abbrev spTabF : Sp := spF (ι := Net) (fun n => [netD n]) (fun n => n.size ≤ 1000) (fun n ds => ds = (idT n).map nD)
abbrev Tabs (P : Program) (w : World) (K : PySem.W.Frag) (mg : Str → Option Value) (base : Heap) : Prop := Cal P w K mg base 1 "_law_table_of" P_law_table_of spTabF
theorem ok_tab (F : Has K mg "_law_table_of" S_law_table_of) (B : Blt mg) : Tabs P w K mg base :=
  fnF F sc_law_table_of (fun _ => rfl) (fun _ _ _ _ _ _ us hl => match us, hl with | [_], _ => rfl) fun f cdv A outer s H E hr n hp => by
    refine sd_retF (pf_lc (own := [("_law_node", 1)]) (f := fun i => nD (2 * i)) rfl sc_law_table_of.nd (blkOk_by (N := N_law_table_of) (sc := defScope S_law_table_of) (by decide +kernel))
      (pw_r (n := n.size) rfl B.range (pn_add (pn_add (pn_add pn_1 (pn_lenT rfl B.len b_len (px_ixT (px_v 0) px_int rfl))) (pn_lenT rfl B.len b_len (px_ixT (px_v 0) px_int rfl))) (pn_lenT rfl B.len b_len (px_ixT (px_v 0) px_int rfl))) (by rw [List.length_map, List.length_map, List.length_map]; rfl) (by omega))
      (by rw [List.length_range]; omega)
      (fun a _ s H C cl fp => gd_n 1 sc_law_table_of.nd)
      (fun a _ s H C cl fp => pn_mul2 (px_v 1))) ?_
    show _ = (idT n).map nD
    unfold idT
    rw [List.map_map]
    rfl
/-! ### renewed -/
structure RenA where
  n : Net
  t : List Nat
  o : List Nat
  r : List Reg
def RenA.pre (a : RenA) : Prop := ∃ u f, a.n.Ok u ∧ u ≤ 100 ∧ Good a.n f a.t ∧ Good a.n f a.o ∧ a.r.length ≤ 1000
abbrev spRen : Sp := spP (ι := RenA) (fun a => [netD a.n, .list (a.t.map nD), .list (a.o.map nD), .list (a.r.map regD)]) RenA.pre (fun a y => y = netD (renN a.n a.t a.o a.r))
theorem ok_renewed (F : Has K mg "_law_renewed" S_law_renewed) (B : Blt mg) (L : Lits P w K mg base) : Cal P w K mg base 2 "_law_renewed" P_law_renewed spRen :=
  fnP F sc_law_renewed (fun _ => rfl) (fun _ _ _ _ _ _ us hl => match us, hl with | [_, _, _, _], _ => rfl) fun f cdv A outer s H E hr a hp => by
    have nd := sc_law_renewed.nd
    obtain ⟨u, g, ok, hu, gt, go, hrl⟩ := hp
    have b1 := ok.ands
    have b2 := ok.outs
    have b3 := ok.clms
    have bz : ∀ {z : Str}, z.length ≤ 50 + u → z.length + (("z" : Str)).length ≤ 1000000 := fun {z} h => by
      have z1 : (("z" : Str)).length = 1 := by decide
      omega
    refine sd_setLc 6 (own := [("_law_left", 4), ("_law_right_here", 5)]) (l := a.n.ands) (g := andD) (f := fun p => andD (litN a.t p.1, litN a.o p.2)) rfl nd rfl rfl (blkOk_by (N := N_law_renewed) (sc := defScope S_law_renewed) (by decide +kernel))
      (piw_T (px_ixT (px_v 0) px_int rfl)) (by omega) (fun x _ s H C cl fp => gd_t rfl (gds_cons (gd_n 4 nd) (gds_cons (gd_n 5 nd) gds_nil)))
      (fun x m s H C cl fp => by
        obtain ⟨i, hi⟩ := List.getElem?_of_mem m
        have lt := (List.getElem?_eq_some_iff.mp hi).1
        exact px_tup (pxs_cons (px_lit L (px_v 1) (px_v 4) (gt.and (Nat.le_of_lt lt) (ok.al i x hi).1).1) (pxs_cons (px_lit L (px_v 2) (px_v 5) (go.and (Nat.le_of_lt lt) (ok.al i x hi).2).1) pxs_nil))) ?_
    refine sd_setLc 8 (own := [("_law_row", 7)]) (l := a.n.outs) (g := outD) (f := fun r => outD ⟨r.nm ++ "z", litN a.o r.li⟩) rfl nd rfl rfl (blkOk_by (N := N_law_renewed) (sc := defScope S_law_renewed) (by decide +kernel))
      (piw_T (px_ixT (px_v 0) px_int rfl)) (by omega) (fun x _ s H C cl fp => gd_n 7 nd)
      (fun x m s H C cl fp => px_tup (pxs_cons (px_adds (px_ixT (px_v 7) px_int rfl) px_str (bz (ok.onm x m))) (pxs_cons (px_lit L (px_v 2) (px_ixT (px_v 7) px_int rfl) (go.lit (ok.ol x m)).1) pxs_nil))) ?_
    refine sd_setLc 9 (own := [("_law_row", 7)]) (l := a.n.clms) (g := outD) (f := fun r => outD ⟨r.nm ++ "z", litN a.t r.li⟩) rfl nd rfl rfl (blkOk_by (N := N_law_renewed) (sc := defScope S_law_renewed) (by decide +kernel))
      (piw_T (px_ixT (px_v 0) px_int rfl)) (by omega) (fun x _ s H C cl fp => gd_n 7 nd)
      (fun x m s H C cl fp => px_tup (pxs_cons (px_adds (px_ixT (px_v 7) px_int rfl) px_str (bz (ok.cnm x m))) (pxs_cons (px_lit L (px_v 1) (px_ixT (px_v 7) px_int rfl) (gt.lit (ok.cl x m)).1) pxs_nil))) ?_
    refine sd_retD (px_eq (px_tup (pxs_cons px_str (pxs_cons (px_ixT (px_v 0) px_int rfl) (pxs_cons (px_tupL rfl B.tuple b_tuple (px_v 3)) (pxs_cons (px_tupL rfl B.tuple b_tuple (px_v 6)) (pxs_cons (px_tupL rfl B.tuple b_tuple (px_v 8)) (pxs_cons (px_tupL rfl B.tuple b_tuple (px_v 9)) pxs_nil))))))) ?_) rfl
    unfold netD renN
    simp only [List.map_map]
    rfl
end
end Bf
set_option Elab.async false
set_option linter.all false
set_option maxRecDepth 100000
set_option maxHeartbeats 4000000
namespace Bf
open PySem PySem.Spec PyProof.Rows L2
/-- what is told of a slot is forgotten -/
theorem Holds.drop1 {C : Cn} {ρ : Rho} {σ : L2.St} {H : Hp} {i : Nat} (h : Holds C ρ σ H) (hi : ∀ l p, ρ[i]? ≠ some (some (SV.o l p))) : Holds C (ρ.set i none) σ H := by
  have eq : ∀ a, All C (ρ.set i none) σ a ↔ All C ρ σ a := fun a => by
    constructor
    · rintro (m | m | ⟨j, l, p, e1, e2⟩)
      · exact .inl m
      · exact .inr (.inl m)
      · rcases set_get e1 with ⟨_, z, _⟩ | ⟨n, e1⟩
        · cases z
        · exact .inr (.inr ⟨j, l, p, e1, e2⟩)
    · rintro (m | m | ⟨j, l, p, e1, e2⟩)
      · exact .inl m
      · exact .inr (.inl m)
      · have n : i ≠ j := fun z => hi l p (by rw [z]; exact e1)
        exact .inr (.inr ⟨j, l, p, by rw [set_other n]; exact e1, e2⟩)
  refine ⟨by rw [List.length_set, h.len], fun j y z => ?_, fun j l p z => ?_, fun j k l l' p q b z1 z2 z3 z4 => ?_, h.fr, h.m0, fun j b m => ⟨(h.a0 j b m).1, ?_⟩, h.th, fun W Hs z => ⟨(h.sn W Hs z).1, fun a m k => (h.sn W Hs z).2 a ((eq a).mp m) k⟩⟩
  · rcases set_get z with ⟨_, z, _⟩ | ⟨n, z⟩
    · cases z
    · obtain ⟨u, h1, h2⟩ := h.dat j y z
      exact ⟨u, h1, Is.weak (fun b m _ => (eq b).mp m) h2⟩
  · rcases set_get z with ⟨_, z, _⟩ | ⟨n, z⟩
    · cases z
    · obtain ⟨b, h1, h2, h3⟩ := h.own j l p z
      exact ⟨b, h1, p.weak h2 fun c m _ => (eq c).mp m, h3⟩
  · rcases set_get z1 with ⟨_, z, _⟩ | ⟨n1, z1⟩
    · cases z
    · rcases set_get z2 with ⟨_, z, _⟩ | ⟨n2, z2⟩
      · cases z
      · exact h.sep j k l l' p q b z1 z2 z3 z4
  · obtain ⟨q, z1, z2⟩ := (h.a0 j b m).2
    have n : i ≠ j := fun z => hi false q (by rw [z]; exact z1)
    exact ⟨q, by rw [set_other n]; exact z1, z2⟩
theorem Holds.drop {C : Cn} {ρ : Rho} {σ : L2.St} {H : Hp} (h : Holds C ρ σ H) : ∀ {vs : List Nat}, (∀ i ∈ vs, ∀ l p, ρ[i]? ≠ some (some (SV.o l p))) → Holds C (wipeR ρ vs) σ H
  | [], _ => h
  | v :: vs, hi => (Holds.drop h (vs := vs) fun i m => hi i (List.mem_cons_of_mem _ m)).drop1 fun l p z => hi v List.mem_cons_self l p (wipeR_get z)
section
variable {X : Cx} {ρ : Rho} {R : Po} {sts : List Stmt}
theorem sd_drop (vs : List Nat) (h : PSD X (wipeR ρ vs) sts R) (hw : noOwn ρ vs = true := by rfl) : PSD X ρ sts R :=
  PSsimp h fun D σ H ⟨C, hh, q⟩ => ⟨C, hh.drop fun i m => isO_no (noOwn_ok hw i m), q⟩
theorem sd_end (vs : List Nat) (h : R.nx (wipeR ρ vs)) (hw : noOwn ρ vs = true := by rfl) : PSD X ρ [] R := sd_drop vs (sd_nil h) hw
end
end Bf
set_option Elab.async false
set_option linter.all false
set_option maxRecDepth 100000
set_option maxHeartbeats 4000000
namespace Bf
open PySem PySem.Spec PyProof.Rows L2
theorem boot_enumOk : True := True.intro
section
variable {X : Cx} {ρ : Rho} {s : Bool} {tg a b e e2 : Expr} {pos p p1 p2 tpos : Pos} {n m : Nat} {ds xs ys : List PyData} {es : List Expr} {kk : Nat}
theorem IsAll.nats {M : Ad} {H : Hp} : ∀ ns : List Nat, IsAll M H (ns.map nD) (ns.map fun i : Nat => V.int (i : Int))
  | [] => True.intro
  | _ :: ns => ⟨rfl, IsAll.nats ns⟩
theorem pf_listRange (hg : Gl X "list") (hm : X.mg "list" = none) (hg2 : Gl X "range") (hm2 : X.mg "range" = none) (hc : X.calm = true) (ha : PX X ρ false a (nD n)) (hn : n ≤ 1000000) (na : starEach [a] X.env = (false, eval a X.env) :: starEach [] X.env := by rfl)
    (nb : starEach [.Call (.Name "range" p1) [a] [] p2] X.env = (false, eval (.Call (.Name "range" p1) [a] [] p2) X.env) :: starEach [] X.env := by rfl) :
    PXF X ρ (.Call (.Name "list" p) [.Call (.Name "range" p1) [a] [] p2] [] pos) ((List.range n).map nD) :=
  PEimp (pe_listRg hc hg hm (prg_1 hg2 hm2 ha na) nb) fun σ H Q ⟨C, hh, q⟩ => ⟨C, hh, fun v H1 e1 g => ⟨n, g, RgOk.of_le (by decide) (by omega) (by decide) (by omega), fun l hl => by
    have e : rgV 0 (n : Int) = (List.range n).map fun i : Nat => V.int (i : Int) := by
      unfold rgV
      rw [Int.sub_zero, Int.toNat_natCast]
      apply List.map_congr_left
      intro i _
      rw [Int.zero_add]
    rw [e]
    exact q l _ _ (e1.back hl) (e1.trans (Ex.new hl)) upd_same (IsAll.nats _)⟩⟩
theorem pw_r2 {y : PyData} (hg : Gl X "range") (hm : X.mg "range" = none) (ha : PX X ρ false a (nD m)) (hb : PX X ρ false b y) (ey : y = nD n) (hn : m ≤ 1000000 ∧ n ≤ 1000000)
    (he : starEach [a, b] X.env = (false, eval a X.env) :: starEach [b] X.env := by rfl) (he2 : starEach [b] X.env = (false, eval b X.env) :: starEach [] X.env := by rfl) (hs : starEach [a, b] X.env = [(false, eval a X.env), (false, eval b X.env)] := by rfl) (hs2 : starEach [b] X.env = [(false, eval b X.env)] := by rfl) :
    PIW X tg (.Call (.Name "range" p) [a, b] [] pos) ρ ((List.range (n - m)).map fun i => nD (m + i)) := by
  subst ey
  have h := piw_r2 (tg := tg) (pos := pos) (p := p) hg hm ha hb (by omega) he he2 hs hs2
  have e : rngD (m : Int) ((n : Int) - (m : Int)).toNat = (List.range (n - m)).map fun i => nD (m + i) := by
    unfold rngD
    rw [show ((n : Int) - (m : Int)).toNat = n - m by omega]
    apply List.map_congr_left
    intro i _
    show PyData.int _ = PyData.int _
    rw [Int.natCast_add]
  rw [e] at h
  exact h
/-- list(x), x a list that the slot holds -/
theorem pf_lstO (k : Nat) {nm : Str} {l : Bool} (hk : ρ[k]? = some (some (.o l (oL ds)))) (hg : Gl X "list") (hm : X.mg "list" = none) (hN : X.N[k]? = some nm := by rfl) (hv : Vis X.env.scope nm := by first | exact Or.inl rfl | exact Or.inr (Or.inl rfl) | exact Or.inr (Or.inr rfl)) (hd : (nm == ("__debug__" : Str)) = false := by decide)
    (hcd : (nm == ("__classdict__" : Str)) = false := by decide) (he : starEach [.Name nm p1] X.env = (false, eval (.Name nm p1) X.env) :: starEach [] X.env := by rfl) (hpl : (backTo pos (starEach [] X.env)).any (·.1) = false := by rfl) :
    PXF X ρ (.Call (.Name "list" p) [.Name nm p1] [] pos) ds := PEimp (pe_callTy call_list_of hg hm b_list (pa_cons (pe_var hN hv hd hcd) pa_nil he) (by decide) (by decide) he hpl) fun σ H Q ⟨C, hh, q⟩ => by
  obtain ⟨a, e1, ⟨vs, g1, g2⟩, _⟩ := hh.own k l _ hk
  exact ⟨.ref a, e1, a, vs, rfl, .inl (SqL.of g1), fun l hl => q l vs _ hl (Ex.new hl) upd_same (IsAll.ex (Ex.new hl) (g2.plus hl))⟩
/-! ### walks -/
theorem piw_rev (hg : Gl X "reversed") (hm : X.mg "reversed" = none) (h : PX X ρ true e (.list ds)) (hs : starEach [e] X.env = (false, eval e X.env) :: starEach [] X.env := by rfl) : PIW X tg (.Call (.Name "reversed" p) [e] [] pos) ρ ds.reverse := PIimp (RT.pi_revA hg hm h hs) fun σ H R ⟨C, hh, q⟩ =>
  ⟨C, hh, fun v H1 e1 ⟨p, vs, g1, g2, g3, g4⟩ => ⟨p, vs, g1, .inl ⟨SqL.of g3, q _ H1 e1 fun H2 W' _ ww fr => by
    have st : H2 p = some (.lst vs) := fr p _ g3 fun m => g2 ⟨rfl, ww p m (ne_none g3)⟩
    have len := g4.length
    refine ⟨fun i d hd => ?_, by show vs.length ≤ _; rw [List.length_reverse, len]; exact Nat.le_refl _⟩
    have lt : i < vs.length := by
      have := (List.getElem?_eq_some_iff.mp hd).1
      rw [List.length_reverse, len] at this
      exact this
    rw [List.getElem?_reverse (by rw [len]; exact lt), len] at hd
    obtain ⟨v', h1, h2⟩ := (IsAll.ofT g4).get hd
    refine ⟨⟨lt, vs, v', SqL.of st, h1⟩, fun x H3 ⟨ee, y⟩ => ?_⟩
    subst ee
    have z := y vs (SqL.of st)
    rw [h1] at z
    cases z
    exact ⟨Ex.refl _, Is.fr fr (Is.weak ww h2)⟩⟩⟩⟩
theorem pw_rev {ns : List Nat} (hg : Gl X "reversed") (hm : X.mg "reversed" = none) (h : PX X ρ true e (.list (ns.map nD))) (hs : starEach [e] X.env = (false, eval e X.env) :: starEach [] X.env := by rfl) : PIW X tg (.Call (.Name "reversed" p) [e] [] pos) ρ (ns.reverse.map nD) := by
  rw [List.map_reverse]
  exact piw_rev hg hm h hs
theorem is_pair {M : Ad} {H : Hp} {T : Addr} {x y : PyData} {v w : V} (hT : H T = none) (hM : ¬ M T) (h1 : Is M H x v) (h2 : Is M H y w) : Is M (upd H T (.tup [v, w])) (.tuple [x, y]) (.ref T) :=
  ⟨T, [v, w], rfl, hM, upd_same, Is.ex (Ex.new hT) h1, Is.ex (Ex.new hT) h2, True.intro⟩
def zipD (xs ys : List PyData) : List PyData := (xs.zip ys).map fun p => .tuple [p.1, p.2]
theorem zipD_get {xs ys : List PyData} {i : Nat} {d : PyData} (h : (zipD xs ys)[i]? = some d) : ∃ x y, xs[i]? = some x ∧ ys[i]? = some y ∧ d = .tuple [x, y] := by
  unfold zipD at h
  rw [List.getElem?_map] at h
  cases e : (xs.zip ys)[i]? with
  | none =>
    rw [e] at h
    cases h
  | some p =>
    rw [e] at h
    obtain ⟨h1, h2⟩ := List.getElem?_zip_eq_some.mp e
    exact ⟨p.1, p.2, h1, h2, (Option.some.inj h).symm⟩
end
end Bf
set_option Elab.async false
set_option linter.all false
set_option maxRecDepth 100000
set_option maxHeartbeats 4000000
namespace Bf
open PySem PySem.Spec PyProof.Rows L2
/-! ### dicts that a slot holds -/
def oT (kvs : List (List Key × V)) : OP where
  is := fun _ H a => H a = some (.dT kvs)
  there := fun h => ne_none h
  fr := fun h k => k _ _ h (.inl rfl)
  weak := fun h _ => h
def oK (kvs : List (Key × V)) : OP where
  is := fun _ H a => H a = some (.dK kvs)
  there := fun h => ne_none h
  fr := fun h k => k _ _ h (.inl rfl)
  weak := fun h _ => h
abbrev key2 (l h : Nat) : List Key := [Sum.inl (l : Int), Sum.inl (h : Int)]
section
variable {X : Cx} {ρ : Rho} {R : Po} {sts : List Stmt} {s : Bool} {a b e : Expr} {pos p apos p1 : Pos} {kvs : List (List Key × V)} {kvd : List (Key × V)} {l h n : Nat} {lc : Bool} {i j : Int} {ds : List PyData} {x y : PyData}
theorem sd_dictT (k : Nat) {nm : Str} (nd : X.N.Nodup) (hrest : PSD X (ρ.set k (some (.o true (oT [])))) sts R) (hp : isP ρ[k]? = false := by rfl) (hi : X.N[k]? = some nm := by rfl) (hx : Loc X.env.scope nm := by first | exact Or.inl rfl | exact Or.inr rfl)
    (hs : swapsWith (.Dict [] [] p1) (some (.Name nm p)) pos.line X.env = pure false := by rfl) (hf : X.fn nm = true ∨ X.env.scope.names.lookup nm = some .local := by first | exact .inl rfl | exact .inr rfl) :
    PSD X ρ (.Assign [.Name nm p] (.Dict [] [] p1) pos :: sts) R := PSsimp (pss_cons (ps_set nd hi hx pe_dnewT hs hf) hrest) fun D σ H ⟨C, hh, q⟩ =>
  fun p hp' => ⟨C, hh.setO hp' (Ex.new hp') upd_same (isP_no hp), q⟩
theorem sd_dictK (k : Nat) {nm : Str} (nd : X.N.Nodup) (hrest : PSD X (ρ.set k (some (.o true (oK [])))) sts R) (hp : isP ρ[k]? = false := by rfl) (hi : X.N[k]? = some nm := by rfl) (hx : Loc X.env.scope nm := by first | exact Or.inl rfl | exact Or.inr rfl)
    (hs : swapsWith (.Dict [] [] p1) (some (.Name nm p)) pos.line X.env = pure false := by rfl) (hf : X.fn nm = true ∨ X.env.scope.names.lookup nm = some .local := by first | exact .inl rfl | exact .inr rfl) :
    PSD X ρ (.Assign [.Name nm p] (.Dict [] [] p1) pos :: sts) R := PSsimp (pss_cons (ps_set nd hi hx pe_dnewK hs hf) hrest) fun D σ H ⟨C, hh, q⟩ =>
  fun p hp' => ⟨C, hh.setO hp' (Ex.new hp') upd_same (isP_no hp), q⟩
theorem is_key2 {M : Ad} {H : Hp} {v : V} (g : Is M H (.tuple [nD l, nD h]) v) : ∃ b, v = .ref b ∧ H b = some (.tup ((key2 l h).map kV)) := by
  obtain ⟨b, vs, e, _, g3, g4⟩ := g
  match vs, g4 with
  | [v1, v2], g4 =>
    have h1 : v1 = .int l := g4.1
    have h2 : v2 = .int h := g4.2.1
    subst h1 h2
    exact ⟨b, e, g3⟩
theorem pt_notinT (k : Nat) {nm : Str} (hu : X.A.units + 64 < cLine) (hk : ρ[k]? = some (some (.o lc (oT kvs)))) (ha : PX X ρ false a (.tuple [nD l, nD h])) (hN : X.N[k]? = some nm := by rfl) (hv : Vis X.env.scope nm := by first | exact Or.inl rfl | exact Or.inr (Or.inl rfl) | exact Or.inr (Or.inr rfl))
    (hd : (nm == ("__debug__" : Str)) = false := by decide) (hcd : (nm == ("__classdict__" : Str)) = false := by decide) (h1 : behindInMarks .NotIn (.Name nm p1) = false := by rfl) : PXt X ρ (.Compare a [.NotIn] [.Name nm p1] pos) (!(valV kvs (key2 l h)).isSome) :=
  PTimp (pt_cmp (pc_dnotin (by omega) ha (pe_var hN hv hd hcd)) h1) fun σ H Q ⟨C, hh, q⟩ => ⟨C, hh, fun v H1 e1 g => by
    obtain ⟨a, f1, f2, _⟩ := hh.own k lc _ hk
    obtain ⟨b, rfl, hb⟩ := is_key2 g
    exact ⟨.ref a, f1, a, _, rfl, DGet.t (e1 _ _ f2) hb, _, rfl, q H1 e1⟩⟩
theorem px_getT (k : Nat) {nm : Str} (hu : X.A.units + 64 < cLine) (hk : ρ[k]? = some (some (.o lc (oT kvs)))) (hb : PX X ρ false b (.tuple [nD l, nD h])) (hn : valV kvs (key2 l h) = some (.int (n : Int))) (hN : X.N[k]? = some nm := by rfl) (hv : Vis X.env.scope nm := by first | exact Or.inl rfl | exact Or.inr (Or.inl rfl) | exact Or.inr (Or.inr rfl))
    (hd : (nm == ("__debug__" : Str)) = false := by decide) (hcd : (nm == ("__classdict__" : Str)) = false := by decide) (hs : NoSl b := by intro _ _; rfl) : PX X ρ s (.Subscript (.Name nm p1) b pos) (nD n) :=
  PEimp (pe_dget (by omega) (pe_var hN hv hd hcd) hb hs) fun σ H Q ⟨C, hh, q⟩ => by
    obtain ⟨a, f1, f2, _⟩ := hh.own k lc _ hk
    refine ⟨.ref a, f1, C, hh, fun v H1 e1 g => ?_⟩
    obtain ⟨b, rfl, hb⟩ := is_key2 g
    exact ⟨a, .int (n : Int), rfl, by rw [← hn]; exact DGet.t (e1 _ _ f2) hb, q _ H1 e1 rfl⟩
theorem sd_putT (k : Nat) {nm : Str} (hu : X.A.units + 64 < cLine) (hk : ρ[k]? = some (some (.o lc (oT kvs)))) (he : PX X ρ false e (nD n)) (hb : PX X ρ false b (.tuple [nD l, nD h])) (hl : kvs.length < 1000000) (hrest : PSD X (ρ.set k (some (.o lc (oT (putK kvs (key2 l h) (.int (n : Int))))))) sts R)
    (hN : X.N[k]? = some nm := by rfl) (hv : Vis X.env.scope nm := by first | exact Or.inl rfl | exact Or.inr (Or.inl rfl) | exact Or.inr (Or.inr rfl)) (hd : (nm == ("__debug__" : Str)) = false := by decide) (hcd : (nm == ("__classdict__" : Str)) = false := by decide)
    (hs : swapsWith e (some (.Subscript (.Name nm p1) b apos)) pos.line X.env = pure false := by rfl) : PSD X ρ (.Assign [.Subscript (.Name nm p1) b apos] e pos :: sts) R :=
  PSsimp (pss_cons (ps_dput (by omega) (pe_var hN hv hd hcd) hb he hs) hrest) fun D σ H ⟨C, hh, q⟩ => ⟨C, hh, fun v H1 e1 g => by
    obtain ⟨a, f1, f2, _⟩ := hh.own k lc _ hk
    refine ⟨.ref a, f1, C, hh.ex e1, fun w H2 e2 gw => ?_⟩
    obtain ⟨b, rfl, hb⟩ := is_key2 gw
    have g' : v = .int (n : Int) := g
    subst g'
    have hH : H2 a = some (.dT kvs) := e2 _ _ (e1 _ _ f2)
    exact ⟨a, _, rfl, DPut.t hH hb (sz_lt hl), C, ((hh.ex e1).ex e2).mut hk f1 (fun b o z n => by rw [upd_ne n]; exact z) upd_same, q⟩⟩
/-- d[k] = e, ints -/
theorem sd_putK (k : Nat) {nm : Str} (hu : X.A.units + 64 < cLine) (hk : ρ[k]? = some (some (.o lc (oK kvd)))) (he : PX X ρ false e (.int j)) (hb : PX X ρ false b (.int i)) (hl : kvd.length < 1000000) (hrest : PSD X (ρ.set k (some (.o lc (oK (putK kvd (Sum.inl i) (.int j)))))) sts R)
    (hN : X.N[k]? = some nm := by rfl) (hv : Vis X.env.scope nm := by first | exact Or.inl rfl | exact Or.inr (Or.inl rfl) | exact Or.inr (Or.inr rfl)) (hd : (nm == ("__debug__" : Str)) = false := by decide) (hcd : (nm == ("__classdict__" : Str)) = false := by decide)
    (hs : swapsWith e (some (.Subscript (.Name nm p1) b apos)) pos.line X.env = pure false := by rfl) : PSD X ρ (.Assign [.Subscript (.Name nm p1) b apos] e pos :: sts) R :=
  PSsimp (pss_cons (ps_dput (by omega) (pe_var hN hv hd hcd) hb he hs) hrest) fun D σ H ⟨C, hh, q⟩ => ⟨C, hh, fun v H1 e1 g => by
    obtain ⟨a, f1, f2, _⟩ := hh.own k lc _ hk
    refine ⟨.ref a, f1, C, hh.ex e1, fun w H2 e2 gw => ?_⟩
    have g' : v = .int j := g
    have gw' : w = .int i := gw
    subst g' gw'
    have hH : H2 a = some (.dK kvd) := e2 _ _ (e1 _ _ f2)
    exact ⟨a, _, rfl, DPut.k (k := Sum.inl i) hH (sz_lt hl), C, ((hh.ex e1).ex e2).mut hk f1 (fun b o z n => by rw [upd_ne n]; exact z) upd_same, q⟩⟩
theorem min_max {i j : Int} {ns : List Int} (h : ns.Perm [i, j]) (s : ns.Pairwise (· ≤ ·)) : ns = [min i j, max i j] := by
  match ns, h.length_eq, s with
  | [x, y], _, s =>
    have le : x ≤ y := by
      have := List.pairwise_cons.mp s
      exact this.1 y (by simp)
    have mx : x ∈ [i, j] := h.mem_iff.mp (by simp)
    have both : (x = i ∧ y = j) ∨ (x = j ∧ y = i) := by
      rcases List.mem_cons.mp mx with e | e
      · subst e
        exact .inl ⟨rfl, by simpa using h.cons_inv⟩
      · have e : x = j := by simpa using e
        subst e
        exact .inr ⟨rfl, by simpa using (h.trans (List.Perm.swap x i [])).cons_inv⟩
    have : x = min i j ∧ y = max i j := by omega
    rw [this.1, this.2]
theorem px_sorted2 (hg : Gl X "sorted") (hm : X.mg "sorted" = none) (ha : PX X ρ false a (.list [.int i, .int j])) (he : starEach [a] X.env = (false, eval a X.env) :: starEach [] X.env := by rfl) (hpl : (backTo pos (starEach [] X.env)).any (·.1) = false := by rfl) : PX X ρ s (.Call (.Name "sorted" p) [a] [] pos) (.list [.int (min i j), .int (max i j)]) :=
  PEimp (pe_callB cr_sortedI hg hm b_sorted (pa_cons ha pa_nil he) (by decide) (by decide) he hpl) fun σ H Q ⟨C, hh, q⟩ => ⟨C, hh, fun v H1 e1 ⟨pp, vs, g1, g2, g3, g4⟩ => by
    have ev : vs = [i, j].map V.int := IsAll.ints (ns := [i, j]) g4
    subst ev
    refine ⟨pp, [i, j], by rw [g1], SqL.of g3, fun ns q' hp hs hn => ?_⟩
    rw [min_max hp hs]
    exact q _ _ (e1.trans (Ex.new hn)) ⟨q', _, rfl, wk_fresh hh (e1.back hn), upd_same, rfl, rfl, True.intro⟩⟩
end
end Bf
set_option Elab.async false
set_option linter.all false
set_option maxRecDepth 100000
set_option maxHeartbeats 4000000
namespace Bf
open PySem PySem.Spec PyProof.Rows L2 HT
section
variable {prog : Program} {w : World} {A : Around} {E : Value → Shared → Prop} {s : Shared}
theorem rev_applied {c : Addr} {m : Value} {k : Nat} {Q : Int × Int × Nat → Shared → Prop} (hc : s.heap.IsSliceOf c .none .none m) (pm : IsPart m (some (-1))) (h : Q ((k : Int) - 1, -1, k) s) : wpAny (model prog w) A (Builtin.Slice.sliceApplied (.ref c) (pure (k : Int))) Q E s := by
  obtain ⟨b, h1, h2, h3⟩ := id hc
  unfold Builtin.Slice.sliceApplied Builtin.Slice.sliceFields
  refine wpAny_bind (wpAny_bind (wpAny_field h1 h3 (x := .none) rfl (wpAny_bind (wpAny_field h1 h3 (x := .none) rfl (wpAny_bind (wpAny_field h1 h3 (x := m) rfl (wpAny_pure ?_)))))))
  refine wpAny_bind (slicePart_ pm ?_)
  show wpAny _ _ (if ((-1 : Int) == 0) = true then _ else _) _ _ s
  rw [if_neg (show ¬ ((-1 : Int) == 0) = true by decide)]
  refine wpAny_bind (slicePart_none (wpAny_bind (slicePart_none (wpAny_bind (wpAny_pure ?_)))))
  show wpAny _ _ (pure ((k : Int) - 1, (-1 : Int), Builtin.Slice.slicePlaces ((k : Int) - 1) (-1) (-1))) _ _ s
  have e : Builtin.Slice.slicePlaces ((k : Int) - 1) (-1) (-1) = k := by
    unfold Builtin.Slice.slicePlaces
    rw [if_neg (show ¬ ((-1 : Int) > 0) by decide)]
    by_cases z : (k : Int) - 1 > -1
    · rw [if_pos z, show (- -1 : Int) = 1 by decide, Int.ediv_one]
      omega
    · rw [if_neg z]
      omega
  rw [e]
  exact wpAny_pure h
theorem fm_congr {α β : Type} {f g : α → Option β} : ∀ {l : List α}, (∀ x ∈ l, f x = g x) → l.filterMap f = l.filterMap g
  | [], _ => rfl
  | x :: l, h => by
    rw [List.filterMap_cons, List.filterMap_cons, h x List.mem_cons_self, fm_congr fun y m => h y (List.mem_cons_of_mem _ m)]
theorem rev_pick (xs : Array Value) : ((List.range xs.size).filterMap fun (m : Nat) => xs[(((xs.size : Int) - 1) + (m : Int) * -1).toNat]?).toArray = xs.toList.reverse.toArray := by
  congr 1
  have e : (List.range xs.size).filterMap (fun (m : Nat) => xs[(((xs.size : Int) - 1) + (m : Int) * -1).toNat]?) = ((List.range xs.size).map fun k => xs.size - 1 - k).filterMap (xs[·]?) := by
    rw [List.filterMap_map]
    apply fm_congr
    intro m hm
    have := List.mem_range.mp hm
    show xs[_]? = xs[xs.size - 1 - m]?
    rw [show (((xs.size : Int) - 1) + (m : Int) * -1).toNat = xs.size - 1 - m by omega]
  rw [e, PySem.W.krv_range, List.filterMap_reverse, PySem.W.krv_all]
theorem item_tuple_rev {t c : Addr} {xs : Array Value} {m : Value} {Q : Value → Shared → Prop} (ht : IsTup s.heap t xs) (hc : s.heap.IsSliceOf c .none .none m) (pm : IsPart m (some (-1)))
    (h : Q (.ref s.heap.objs.size) { s with heap := s.heap.push { cls := .type "tuple", data := .seq xs.toList.reverse.toArray } }) (hz : xs.size ≤ sizeLine) : wpAny (model prog w) A (getItem (.ref t) (.ref c)) Q E s := by
  have sz : sizeOk (.seq xs.toList.reverse.toArray) := by
    show xs.toList.reverse.toArray.size ≤ sizeLine
    rw [List.size_toArray, List.length_reverse, Array.length_toList]
    exact hz
  obtain ⟨b, h1, h2, h3⟩ := id hc
  have hT : s.TypeIs (.ref c) "slice" := ⟨b, h1, h2⟩
  unfold getItem
  try with_reducible refine wpAny_holding ?_
  first | (refine wpAny_bind (wpAny_pure ?_)) | skip
  refine wpAny_bind (wpAny_sequenceKey ht.typeIs (by decide) ?_)
  refine wpAny_bind (wpAny_callSpecial?_slot (name := Str.ofString "__getitem__") ht.typeIs PyProof.Rows.slot_tuple_getitem (wpAny_call_entry PyProof.Rows.slot_tuple_getitem ht.typeIs PyProof.Rows.entry_tuple_getitem ?_ (PyProof.Rows.args_tuple_getitem _ _)))
  show wpAny _ _ (Builtin.Tuple.tupleItemsOf (.ref t) >>= _) _ _ s
  refine wpAny_bind (tupleItemsOf_ ht (wpAny_bind (wpAny_typeOf hT ?_)))
  rw [if_pos (show (Value.type "slice" == Value.type "slice") = true by decide)]
  refine wpAny_bind (rev_applied hc pm ?_)
  have no : ¬ ((((xs.size : Int) - 1 == 0) && ((-1 : Int) == 1) && (xs.size == xs.size)) = true) := by
    rw [show ((-1 : Int) == 1) = false by decide, Bool.and_false, Bool.false_and]
    exact Bool.false_ne_true
  show wpAny _ _ (if (((xs.size : Int) - 1 == 0) && ((-1 : Int) == 1) && (xs.size == xs.size)) = true then _ else _) _ _ s
  rw [if_neg no, rev_pick]
  first
    | exact wpAny_bind (m := Builtin.Tuple.tupleExact _) (wpAny_newObj_type (wpAny_pure ⟨_, rfl, wpAny_pure h⟩) sz)
    | exact wpAny_bind (m := Builtin.Tuple.tupleExact _) (wpAny_newObj_type (wpAny_bind (wpAny_pure (wpAny_pure ⟨_, rfl, wpAny_pure h⟩))) sz)
    | exact wpAny_bind (wpAny_bind (m := Builtin.Tuple.tupleExact _) (wpAny_newObj_type (wpAny_pure (wpAny_pure ⟨_, rfl, wpAny_pure h⟩)) sz))
    | exact wpAny_bind (wpAny_bind (m := Builtin.Tuple.tupleExact _) (wpAny_newObj_type (wpAny_pure ⟨_, rfl, wpAny_pure h⟩) sz))
end
/-- t[::-1], t a tuple -/
def tRevT (te : TE) : TE := fun σ H Q => te σ H fun x H1 => ∃ a xs, x = .ref a ∧ H1 a = some (.tup xs) ∧ ∀ p, H1 p = none → Q (.ref p) (upd H1 p (.tup xs.reverse))
theorem pe_revT {X : Cx} {e : Expr} {te : TE} {k : Nat} {p1 p2 p3 pos : Pos} (he : PE X e te) : PE X (.Subscript e (.Slice none none (some (.UnaryOp .USub (.Constant (.int 1) k p1) p2)) p3) pos) (tRevT te) := by
  refine ⟨fun pins s σ H Q I h => Subscript_ (thn (he.run pins s σ H _ I h) fun v s1 ⟨x, H1, I1, r1, q1⟩ => ?_)⟩
  obtain ⟨a, xs, ex, hx, q⟩ := q1
  subst ex
  cases r1
  have st : PO X (some (.UnaryOp .USub (.Constant (.int 1) k p1) p2)) (tPart (tUn (rU fun i => .int (-i)) (tC (.int 1)))) := po_some (pe_un un_neg pe_int)
  refine wpAny_Slice ?_
  rw [evalPart_none]
  refine wpAny_pure (wpAny_pure (thn (st.run pins s1 σ H1 (fun o H4 => o = some (-1) ∧ H4 = H1) I1 ⟨1, rfl, -1, rfl, rfl, rfl⟩) fun vs s4 ⟨o, H4, I4, ps, eo, e4⟩ => ?_))
  subst eo e4
  have I5 : Inv X pins σ H4 { s4 with heap := s4.heap.push { cls := .type "slice", data := .fields #[.none, .none, vs] } } := I4.kept (t' := s4.toks) fun b ob q => Heap.get?_push_of_some _ q
  obtain ⟨its, r, ht, hz⟩ := I5.tuple (SqT.of hx)
  have hlen := r.length
  show wpAny (model X.prog X.w) X.A (subscriptTail e (.Slice none none (some (.UnaryOp .USub (.Constant (.int 1) k p1) p2)) p3) (.ref a) (.ref s4.heap.objs.size)) (EP X pins σ Q) X.xe { s4 with heap := s4.heap.push { cls := .type "slice", data := .fields #[.none, .none, vs] } }
  refine tail_any (ops := [.ref a, .ref s4.heap.objs.size]) ht.typeIs PyProof.Rows.slot_tuple_getitem.lookup ?_ (by with_unfolding_all rfl)
  refine item_tuple_rev ht (Heap.IsSliceOf.new _ .none .none vs) ps ?_ (by rw [List.size_toArray]; omega)
  exact ⟨.ref _, _, I5.laid (t' := s4.toks) (o := .tup xs.reverse) (fun b ob q => Heap.get?_push_of_some _ q) (Nat.le_refl _) ⟨by rw [List.length_reverse]; exact hz, its.reverse, r.reverse, IsTup.new _ _⟩, rfl, q _ (I5.hok.fresh (Nat.le_refl _))⟩
section
variable {X : Cx} {ρ : Rho} {s : Bool} {a b e : Expr} {pos p apos p1 p2 p3 : Pos} {ds : List PyData} {x y : PyData} {R : Po} {sts : List Stmt}
theorem px_revT {k : Nat} (ha : PX X ρ s a (.tuple ds)) : PX X ρ s (.Subscript a (.Slice none none (some (.UnaryOp .USub (.Constant (.int 1) k p1) p2)) p3) pos) (.tuple ds.reverse) := PEimp (pe_revT ha) fun σ H Q ⟨C, hh, q⟩ =>
  ⟨C, hh, fun v H1 e1 ⟨p, vs, g1, g2, g3, g4⟩ => ⟨p, vs, g1, g3, fun p' hp => q _ _ (e1.trans (Ex.new hp)) ⟨p', _, rfl, wk_fresh hh (e1.back hp), upd_same, IsAll.ex (Ex.new hp) (IsAll.reverse g4)⟩⟩⟩
/-- a, b = x, y -/
theorem sd_par (i j : Nat) {nm nm2 : Str} {px py pt pt2 : Pos} {kt k2 : Nat} (nd : X.N.Nodup) (hc : X.calm = true) (ha : PXs X ρ true [a, b] [x, y]) (hrest : PSD X ((ρ.set i (some (.d x))).set j (some (.d y))) sts R) (hij : i ≠ j := by decide) (hpi : isO ρ[i]? = false := by rfl) (hpj : isO ρ[j]? = false := by rfl) (hi : X.N[i]? = some nm := by rfl) (hj : X.N[j]? = some nm2 := by rfl)
    (hx : X.env.scope.names.lookup nm = some .local := by rfl) (hy : X.env.scope.names.lookup nm2 = some .local := by rfl)
    (hw : swappedStores [.Tuple [.Name nm px, .Name nm2 py] kt pt] (.Tuple [a, b] k2 pt2) X.env = pure (some [nm, nm2]) := by rfl)
    (hs : swapsWithSole [.Tuple [.Name nm px, .Name nm2 py] kt pt] (.Tuple [a, b] k2 pt2) pos.line X.env = pure false := by rfl) :
    PSD X ρ (.Assign [.Tuple [.Name nm px, .Name nm2 py] kt pt] (.Tuple [a, b] k2 pt2) pos :: sts) R :=
  PSsimp (pss_cons (ps_par hc nd hi hj hij hx hy ha hw hs) hrest) fun D σ H ⟨C, hh, q⟩ => ⟨C, hh, fun vs H1 e1 g => by
    match vs, g with
    | [v, w], g =>
      have h1 := (hh.ex e1).setD (i := i) g.1.ofT fun p => isO_no hpi false p
      have g2 : Is (All C (ρ.set i (some (.d x))) (σ.set i (some v))) H1 y w := Is.weak (fun a m _ => (all_set (isO_no hpi) a).mp m) g.2.1.ofT
      exact ⟨v, w, rfl, C, h1.setD (i := j) g2 fun p z => isO_no hpj false p (by rw [set_other hij] at z; exact z), q⟩⟩
end
end Bf
set_option Elab.async false
set_option linter.all false
set_option maxRecDepth 100000
set_option maxHeartbeats 4000000
namespace Bf
open PySem PySem.Spec PyProof.Rows L2
/-! ### sorted lists of tuples of ints, of pairs of these -/
def ITup (h : Heap) (v : Value) (ns : List Int) : Prop := ∃ t o xs n, v = .ref t ∧ h.get? t = some o ∧ o.cls = .type "tuple" ∧ o.data = .seq xs n ∧ IntsAre xs.toList ns
def PTup (h : Heap) (v : Value) (p : List Int × List Int) : Prop := ∃ t o u1 u2 n, v = .ref t ∧ h.get? t = some o ∧ o.cls = .type "tuple" ∧ o.data = .seq #[u1, u2] n ∧ ITup h u1 p.1 ∧ ITup h u2 p.2
theorem ITup.keeps {h h' : Heap} {v : Value} {ns : List Int} (x : ITup h v ns) (k : ∀ b o, o.cls = .type "tuple" → h.get? b = some o → h'.get? b = some o) : ITup h' v ns := by
  obtain ⟨t, o, xs, n, e, ho, hc, hd, hi⟩ := x
  exact ⟨t, o, xs, n, e, k t o hc ho, hc, hd, hi⟩
theorem PTup.keeps {h h' : Heap} {v : Value} {p : List Int × List Int} (x : PTup h v p) (k : ∀ b o, o.cls = .type "tuple" → h.get? b = some o → h'.get? b = some o) : PTup h' v p := by
  obtain ⟨t, o, u1, u2, n, e, ho, hc, hd, i1, i2⟩ := x
  exact ⟨t, o, u1, u2, n, e, k t o hc ho, hc, hd, i1.keeps k, i2.keeps k⟩
theorem lexLt_total : ∀ {x y : List Int}, HT.lexLt x y = false → HT.lexLt y x = false → x = y
  | [], [], _, _ => rfl
  | [], _ :: _, h, _ => by rw [HT.lexLt_nil_cons] at h; cases h
  | _ :: _, [], _, h => by rw [HT.lexLt_nil_cons] at h; cases h
  | a :: x, b :: y, h, g => by
    rw [HT.lexLt_cons] at h g
    by_cases e : a = b
    · rw [if_pos e] at h
      rw [if_pos e.symm] at g
      rw [e, lexLt_total h g]
    · rw [if_neg e] at h
      rw [if_neg (Ne.symm e)] at g
      have := of_decide_eq_false h
      have := of_decide_eq_false g
      omega
theorem lexLt_irr : ∀ x : List Int, HT.lexLt x x = false
  | [] => rfl
  | a :: x => by rw [HT.lexLt_cons, if_pos rfl, lexLt_irr x]
def ltPP (p q : List Int × List Int) : Bool := if p.1 = q.1 then HT.lexLt p.2 q.2 else HT.lexLt p.1 q.1
theorem lexI : SrtO.Swo HT.lexLt := NtL.swo_lexL id
theorem ltPP_swo : SrtO.Swo ltPP := by
  refine ⟨fun x y h => ?_, fun x y z h1 h2 => ?_⟩
  · unfold ltPP at h ⊢
    by_cases e : x.1 = y.1
    · rw [if_pos e] at h
      rw [if_pos e.symm]
      exact lexI.asym _ _ h
    · rw [if_neg e] at h
      rw [if_neg (Ne.symm e)]
      exact lexI.asym _ _ h
  · unfold ltPP at h1 h2 ⊢
    by_cases e1 : y.1 = x.1
    · rw [if_pos e1] at h1
      by_cases e2 : z.1 = y.1
      · rw [if_pos e2] at h2
        rw [if_pos (e2.trans e1)]
        exact lexI.tr _ _ _ h1 h2
      · rw [if_neg e2] at h2
        rw [e1] at h2 e2
        rw [if_neg e2]
        exact h2
    · rw [if_neg e1] at h1
      by_cases e2 : z.1 = y.1
      · rw [if_pos e2] at h2
        rw [e2, if_neg e1]
        exact h1
      · rw [if_neg e2] at h2
        have h3 := lexI.tr _ _ _ h1 h2
        by_cases e3 : z.1 = x.1
        · exfalso
          rw [e3] at h2
          exact e1 (lexLt_total h1 h2)
        · rw [if_neg e3]
          exact h3
def lexF (fin : Bool) : List Int → List Int → Bool
  | n :: ns, m :: ms => if n = m then lexF fin ns ms else decide (n < m)
  | _, _ => fin
theorem lexF_lt : ∀ {ns ms : List Int}, lexF (decide (ns.length < ms.length)) ns ms = HT.lexLt ns ms
  | [], [] => rfl
  | [], m :: ms => by
    show decide (0 < (m :: ms).length) = true
    simp
  | n :: ns, [] => by
    show decide ((n :: ns).length < 0) = false
    simp
  | n :: ns, m :: ms => by
    have e : decide ((n :: ns).length < (m :: ms).length) = decide (ns.length < ms.length) := by simp
    rw [e, HT.lexLt_cons, ← lexF_lt (ns := ns) (ms := ms)]
    rfl
section
variable {prog : Program} {w : World} {A : Around} {s : Shared}
theorem kat_ints {Q : Bool → Shared → Prop} {fin b : Bool} : ∀ {xs ys : List Value} {ns ms : List Int} {i : Nat}, IntsAre xs ns → IntsAre ys ms → Q (lexF fin ns ms) s → PySem.W.KatLex prog w A b fin Q (xs.zip ys) i s
  | _, _, _, _, i, .cons n t r, .cons m u r', h => by
    refine PySem.W.kat_cons (SeqAt.EqAt.int_int n t m u prog w _ _ ?_)
    refine PySem.W.kat_go (fun e1 => ?_) (fun e1 => ?_)
    · have e : n = m := by simpa using e1
      refine PySem.W.kat_yes (kat_ints r r' ?_)
      have h' : Q (if n = m then lexF fin _ _ else decide (n < m)) s := h
      rw [if_pos e] at h'
      exact h'
    · have e : ¬ n = m := by simpa using e1
      refine PySem.W.kat_no (TS.oneLt_ints _ ?_)
      have h' : Q (if n = m then lexF fin _ _ else decide (n < m)) s := h
      rw [if_neg e] at h'
      exact h'
  | _, _, _, _, i, .nil, .nil, h => PySem.W.kat_nil h
  | _, _, _, _, i, .nil, .cons _ _ _, h => PySem.W.kat_nil h
  | _, _, _, _, i, .cons _ _ _, .nil, h => PySem.W.kat_nil h
theorem it_cmp {vs : List Value} {k : Value → List Int} (hp : ∀ v ∈ vs, ITup s.heap v (k v)) : SrtO.Cmp prog w A s (tuples' true) (fun p => p.1 ∈ vs) (SrtO.lt2 fun v u => HT.lexLt (k v) (k u)) := by
  intro p q hm hm'
  have h1 := hp _ hm
  have h2 := hp _ hm'
  show wpAny (model prog w) A (keyLt' (tuples' true) p.1 q.1) (fun r s' => s' = s ∧ r = HT.lexLt (k p.1) (k q.1)) (fun _ _ => False) s
  obtain ⟨t, o, xs, n, e, ho, hc, hd, hi⟩ := h1
  obtain ⟨t', o', xs', n', e', ho', hc', hd', hi'⟩ := h2
  rw [← lexF_lt]
  generalize k p.1 = ns at *
  generalize k q.1 = ms at *
  rw [e, e']
  refine PySem.W.kat_lt ho hd ho' hd' (kat_ints hi hi' ⟨rfl, ?_⟩)
  rw [show xs.size = ns.length by rw [← Array.length_toList]; exact hi.length, show xs'.size = ms.length by rw [← Array.length_toList]; exact hi'.length]
theorem ITup.reads {h : Heap} {v : Value} {ns : List Int} (x : ITup h v ns) : ∃ as, Reads h v (.tuple (ns.map .int)) as := by
  obtain ⟨t, o, xs, n, e, ho, hc, hd, hi⟩ := x
  subst e
  have : ∀ {vs : List Value} {ns : List Int}, IntsAre vs ns → ReadsAll h vs (ns.map .int) [] := by
    intro vs ns hi
    induction hi with
    | nil => exact .nil
    | cons n t r ih => exact .cons (.int n t) ih
  exact ⟨_, .tuple ho hc hd (this hi)⟩
theorem lay_ints : ∀ ns : List Int, PyData.canLayAll0 (ns.map .int) = true
  | [] => rfl
  | _ :: ns => lay_ints ns
theorem depth_ints : ∀ ns : List Int, PyData.depthAll (ns.map .int) = 0
  | [] => rfl
  | _ :: ns => by
    show max 0 (PyData.depthAll (ns.map .int)) = 0
    rw [depth_ints ns]
    rfl
theorem eqv_ints : ∀ ns ms : List Int, PyData.eqv (.tuple (ns.map .int)) (.tuple (ms.map .int)) = decide (ns = ms)
  | [], [] => rfl
  | [], _ :: _ => rfl
  | _ :: _, [] => rfl
  | n :: ns, m :: ms => by
    have ih := eqv_ints ns ms
    show ((n == m) && PyData.eqv (.tuple (ns.map .int)) (.tuple (ms.map .int))) = _
    rw [ih]
    by_cases e : n = m
    · subst e
      by_cases e2 : ns = ms
      · subst e2
        simp
      · simp [e2]
    · simp [e]
theorem ITup.eq {v u : Value} {ns ms : List Int} (hu : A.units + 10 < cLine) (h1 : ITup s.heap v ns) (h2 : ITup s.heap u ms) : SeqAt.EqAt A s v u (decide (ns = ms)) := by
  obtain ⟨as, r1⟩ := h1.reads
  obtain ⟨bs, r2⟩ := h2.reads
  have h := SeqAt.eqAt_reads _ _ A s v u as bs r1 r2 (lay_ints ns) (lay_ints ms) (by
    have : PyData.depth (.tuple (ns.map .int)) = 1 := by
      show PyData.depthAll (ns.map .int) + 1 = 1
      rw [depth_ints]
    rw [this]
    omega)
  rw [eqv_ints] at h
  exact h
theorem ITup.lt {v u : Value} {ns ms : List Int} (hu : A.units + 10 < cLine) (h1 : ITup s.heap v ns) (h2 : ITup s.heap u ms) {Q : Bool → Shared → Prop} {E : Value → Shared → Prop} (h : Q (HT.lexLt ns ms) s) : wpAny (model prog w) A (oneLt' false v u) Q E s := by
  obtain ⟨t, o, xs, n, e, ho, hc, hd, hi⟩ := h1
  obtain ⟨t', o', xs', n', e', ho', hc', hd', hi'⟩ := h2
  subst e e'
  exact PySem.W.kat_one _ _ (HT.lt_tupInts ⟨o, ho, hc, n, hd⟩ ⟨o', ho', hc', n', hd'⟩ hi hi' (by omega) h)
theorem pt_cmp' {vs : List Value} {k : Value → List Int × List Int} (hu : A.units + 10 < cLine) (hp : ∀ v ∈ vs, PTup s.heap v (k v)) : SrtO.Cmp prog w A s (tuples' false) (fun p => p.1 ∈ vs) (SrtO.lt2 fun v u => ltPP (k v) (k u)) := by
  intro p q hm hm'
  have h1 := hp _ hm
  have h2 := hp _ hm'
  show wpAny (model prog w) A (keyLt' (tuples' false) p.1 q.1) (fun r s' => s' = s ∧ r = ltPP (k p.1) (k q.1)) (fun _ _ => False) s
  obtain ⟨t, o, u1, u2, n, e, ho, hc, hd, i1, i2⟩ := h1
  obtain ⟨t', o', v1, v2, n', e', ho', hc', hd', j1, j2⟩ := h2
  unfold ltPP
  generalize k p.1 = x at *
  generalize k q.1 = y at *
  rw [e, e']
  refine PySem.W.kat_lt ho hd ho' hd' ?_
  show PySem.W.KatLex prog w A false false _ [(u1, v1), (u2, v2)] 0 s
  refine PySem.W.kat_cons (ITup.eq hu i1 j1 prog w _ _ ?_)
  refine PySem.W.kat_go (fun e1 => ?_) (fun e1 => ?_)
  · have ee := of_decide_eq_true e1
    rw [if_pos ee]
    refine PySem.W.kat_yes (PySem.W.kat_cons (ITup.eq hu i2 j2 prog w _ _ ?_))
    refine PySem.W.kat_go (fun e2 => ?_) (fun e2 => ?_)
    · refine PySem.W.kat_yes (PySem.W.kat_nil ⟨rfl, ?_⟩)
      rw [of_decide_eq_true e2, lexLt_irr]
    · exact PySem.W.kat_no (ITup.lt hu i2 j2 ⟨rfl, rfl⟩)
  · rw [if_neg (of_decide_eq_false e1)]
    exact PySem.W.kat_no (ITup.lt hu i1 j1 ⟨rfl, rfl⟩)
end
mutual
theorem Is.inj {M : Ad} {H : Hp} : ∀ {d d' : PyData} {v : V}, flatD d = true → flatD d' = true → Is M H d v → Is M H d' v → d = d'
  | .none, d', v, _, f, h, g => by
    have h' : v = .non := h
    subst h'
    cases d' <;> first | rfl | (obtain ⟨_, _, z, _⟩ := g; cases z) | (cases f; done) | (have z : V.non = _ := g; cases z)
  | .bool b, d', v, _, f, h, g => by
    have h' : v = .bl b := h
    subst h'
    cases d' <;> first | (obtain ⟨_, _, z, _⟩ := g; cases z; done) | (cases f; done) | (have z : V.bl b = _ := g; cases z; rfl) | (have z : V.bl b = _ := g; cases z)
  | .int i, d', v, _, f, h, g => by
    have h' : v = .int i := h
    subst h'
    cases d' <;> first | (obtain ⟨_, _, z, _⟩ := g; cases z; done) | (cases f; done) | (have z : V.int i = _ := g; cases z; rfl) | (have z : V.int i = _ := g; cases z)
  | .str i, d', v, _, f, h, g => by
    have h' : v = .str i := h
    subst h'
    cases d' <;> first | (obtain ⟨_, _, z, _⟩ := g; cases z; done) | (cases f; done) | (have z : V.str i = _ := g; cases z; rfl) | (have z : V.str i = _ := g; cases z)
  | .list ds, d', v, f1, f, h, g => by
    obtain ⟨a, vs, rfl, _, h3, h4⟩ := h
    cases d' with
    | none => cases g
    | bool b => cases g
    | int b => cases g
    | str b => cases g
    | dict b => cases f
    | list es =>
      obtain ⟨b, ws, z, _, g3, g4⟩ := g
      cases z
      rw [h3] at g3
      cases g3
      rw [IsAll.inj f1 f h4 g4]
    | tuple es =>
      obtain ⟨b, ws, z, _, g3, g4⟩ := g
      cases z
      rw [h3] at g3
      cases g3
  | .tuple ds, d', v, f1, f, h, g => by
    obtain ⟨a, vs, rfl, _, h3, h4⟩ := h
    cases d' with
    | none => cases g
    | bool b => cases g
    | int b => cases g
    | str b => cases g
    | dict b => cases f
    | list es =>
      obtain ⟨b, ws, z, _, g3, g4⟩ := g
      cases z
      rw [h3] at g3
      cases g3
    | tuple es =>
      obtain ⟨b, ws, z, _, g3, g4⟩ := g
      cases z
      rw [h3] at g3
      cases g3
      rw [IsAll.inj f1 f h4 g4]
  | .dict _, _, _, f, _, _, _ => by cases f
theorem IsAll.inj {M : Ad} {H : Hp} : ∀ {ds es : List PyData} {vs : List V}, flatAll ds = true → flatAll es = true → IsAll M H ds vs → IsAll M H es vs → ds = es
  | [], [], [], _, _, _, _ => rfl
  | d :: ds, e :: es, v :: vs, f, f', h, g => by
    have f1 : flatD d = true ∧ flatAll ds = true := Bool.and_eq_true_iff.mp f
    have f2 : flatD e = true ∧ flatAll es = true := Bool.and_eq_true_iff.mp f'
    rw [Is.inj f1.1 f2.1 h.1 g.1, IsAll.inj f1.2 f2.2 h.2 g.2]
  | [], _ :: _, [], _, _, _, g => g.elim
  | [], _, _ :: _, _, _, h, _ => h.elim
  | _ :: _, _, [], _, _, h, _ => h.elim
  | _ :: _, [], _ :: _, _, _, _, g => g.elim
end
/-- how a sort of these is asked -/
structure SKind (α : Type) (X : Cx) where
  kt : α → PyData
  dflt : α
  lt : α → α → Bool
  raw : Heap → Value → α → Prop
  swo : SrtO.Swo lt
  ref : ∀ {M : Ad} {H : Hp} {a : α} {v : V}, Is M H (kt a) v → ∃ t, v = .ref t
  inj : ∀ {M : Ad} {H : Hp} {a b : α} {v : V}, Is M H (kt a) v → Is M H (kt b) v → a = b
  of : ∀ {M : Ad} {H : Hp} {h : Heap} {a : α} {t : Addr}, HOk X.prog X.w H h → Is M H (kt a) (.ref t) → raw h (.ref t) a
  keeps : ∀ {h h' : Heap} {v : Value} {a : α}, raw h v a → (∀ b o, o.cls = .type "tuple" → h.get? b = some o → h'.get? b = some o) → raw h' v a
  ok : α → Prop
  sortable : ∀ {s : Shared} {l : Addr} {vs : List Value} {k : Value → α}, X.A.units + 64 < cLine → 2 ≤ vs.length → (∀ v ∈ vs, raw s.heap v (k v) ∧ ok (k v)) → (∀ o, s.heap.get? l = some o → o.cls ≠ .type "tuple") → SrtO.SortableO X.prog X.w X.A.in1.in1 s l vs (fun v u => lt (k v) (k u))
def rSortG {α : Type} {X : Cx} (S : SKind α X) (K : PySem.W.Frag) : List V → Hp → VK → Prop := fun vs H Q => ∃ (a : Addr) (M : Ad) (as : List α) (ws : List V), vs = [.ref a] ∧ SqL K H a ws ∧ IsAll M H (as.map S.kt) ws ∧ (2 ≤ as.length → ∀ x ∈ as, S.ok x) ∧
  ∀ (bs : List α) (p : Addr) (us : List V), bs.Perm as → SrtO.Srtd S.lt bs → H p = none → IsAll M H (bs.map S.kt) us → Q (.ref p) (upd H p (.lst us))
open Classical in
theorem cr_sortG {α : Type} {X : Cx} (S : SKind α X) (hu : X.A.units + 64 < cLine) : CallR X (.builtin "sorted") (rSortG S X.K) := by
  intro pins s σ H vs us Q I r h
  obtain ⟨a, M, as, ws, rfl, hs, ia, ho, q⟩ := h
  obtain ⟨its, rv, hl, hz⟩ := I.list hs
  obtain ⟨u, rfl, ru⟩ := vals1 r
  obtain rfl : u = Value.ref a := ru
  have wsr : ∀ x ∈ ws, ∃ t, x = V.ref t := fun x m => by
    obtain ⟨i, hi⟩ := List.getElem?_of_mem m
    obtain ⟨d, hd, hx⟩ := ia.getV hi
    rw [List.getElem?_map] at hd
    cases e : as[i]? with
    | none =>
      rw [e] at hd
      cases hd
    | some y =>
      rw [e] at hd
      have : S.kt y = d := Option.some.inj hd
      subst this
      exact S.ref hx
  obtain ⟨e1, e2⟩ := refs_back rv wsr
  let k : Value → α := fun v => if h : ∃ x, x ∈ as ∧ Is M H (S.kt x) (backV v) then h.choose else S.dflt
  have hk : ∀ v ∈ its, k v ∈ as ∧ Is M H (S.kt (k v)) (backV v) := fun v m => by
    have mm : backV v ∈ ws := by rw [e1]; exact List.mem_map.mpr ⟨v, m, rfl⟩
    obtain ⟨i, hi⟩ := List.getElem?_of_mem mm
    obtain ⟨d, hd, hx⟩ := ia.getV hi
    rw [List.getElem?_map] at hd
    cases e : as[i]? with
    | none =>
      rw [e] at hd
      cases hd
    | some y =>
      rw [e] at hd
      have : S.kt y = d := Option.some.inj hd
      subst this
      have ex : ∃ x, x ∈ as ∧ Is M H (S.kt x) (backV v) := ⟨y, List.mem_of_getElem? e, hx⟩
      have ek : k v = ex.choose := dif_pos ex
      rw [ek]
      exact ex.choose_spec
  have lens : as.length = ws.length := by
    have := ia.length
    rw [List.length_map] at this
    exact this
  have lw : ws.length = its.length := rv.length
  have mk : its.map k = as := by
    apply List.ext_getElem?
    intro i
    rw [List.getElem?_map]
    cases e : its[i]? with
    | none =>
      rw [List.getElem?_eq_none_iff] at e
      rw [List.getElem?_eq_none (by omega)]
      rfl
    | some v =>
      have lt := (List.getElem?_eq_some_iff.mp e).1
      have ea : as[i]? = some as[i] := List.getElem?_eq_getElem (by omega)
      have ew : ws[i]? = some (backV v) := by rw [e1, List.getElem?_map, e]; rfl
      obtain ⟨w, hw, iw⟩ := ia.get (i := i) (d := S.kt as[i]) (by rw [List.getElem?_map, ea]; rfl)
      rw [ew] at hw
      cases hw
      rw [ea]
      exact congrArg some (S.inj (hk v (List.mem_of_getElem? e)).2 iw)
  have raws : ∀ v ∈ its, S.raw s.heap v (k v) := fun v m => by
    obtain ⟨t, rfl⟩ := e2 v m
    exact S.of I.hok (hk _ m).2
  refine SrtO.sorted_ord (ltv := fun v u => S.lt (k v) (k u)) ⟨fun x y => S.swo.asym _ _, fun x y z => S.swo.tr _ _ _⟩ hl.isList (by rw [← lw]; exact (rv.length ▸ hz)) (fun h2 h₁ b hb kk => S.sortable hu h2 (fun v m => ⟨S.keeps (raws v m) fun c o _ e => (kk c o e).2, ho (by omega) _ (hk v m).1⟩) fun o e => ?_) fun out h1 h2 => ?_
  · have e' : some o = some (seqObj "list" its.toArray 0) := e.symm.trans hb
    cases e'
    intro c
    exact absurd (Value.type.inj c) (by decide)
  · have mo : ∀ v ∈ out, v ∈ its := fun v m => h2.perm.mem_iff.mp m
    obtain ⟨ep, he'⟩ := PyProof.Rows.sortedAll_at s.heap its out.toArray
    have lo : out.length = its.length := h2.perm.length_eq
    have h3 : ∀ u ∈ out, ∃ a, u = Value.ref a := fun u hu => e2 u (mo u hu)
    refine ⟨.ref _, upd H (s.heap.objs.size + 1) (.lst (out.map backV)), I.laid (t' := s.toks) (fun _ _ => PyProof.Rows.sortedAll_old) (Nat.le_succ _) ⟨by rw [List.length_map, lo, ← lw]; exact hz, out, ep, vals_back h3, he'⟩, rfl, q (out.map k) _ (out.map backV) ?_ (SrtO.srtd_map h1) (I.hok.fresh (Nat.le_succ _)) ?_⟩
    · rw [← mk]
      exact h2.perm.map k
    · have : ∀ l : List Value, (∀ v ∈ l, v ∈ its) → IsAll M H ((l.map k).map S.kt) (l.map backV) := fun l => by
        induction l with
        | nil => intro _; exact True.intro
        | cons v l ih =>
          intro hm
          exact ⟨(hk v (hm v List.mem_cons_self)).2, ih fun x m => hm x (List.mem_cons_of_mem _ m)⟩
      exact this out mo
end Bf
set_option Elab.async false
set_option linter.all false
set_option maxRecDepth 100000
set_option maxHeartbeats 4000000
namespace Bf
open PySem PySem.Spec PyProof.Rows L2
/-! ### inverted -/
def invReg (t : List Nat) (at' : Nat) (k : Nat) (r : Reg) : Reg := ⟨r.nm, r.st ^^^ (if k = at' then 1 else 0), litN t r.nx ^^^ (if k = at' then 1 else 0)⟩
def invT (n : Net) (at' : Nat) : List Nat := (idT n).set (1 + n.ins.length + at') (2 * (1 + n.ins.length + at') + 1)
def invN (n : Net) (at' : Nat) : Net := renN n (invT n at') (invT n at') (n.regs.mapIdx (invReg (invT n at') at'))
theorem invT_good {n : Net} {at' : Nat} (h : at' < n.regs.length) : Good n n.fand (invT n at') := (idT_good n).set (by unfold Net.fand; omega)
theorem if01 {k a : Nat} : (if k = a then 1 else 0) < 2 := by split <;> decide
theorem mem_mapIdx {α β : Type} {f : Nat → α → β} {l : List α} {y : β} (h : y ∈ l.mapIdx f) : ∃ i x, l[i]? = some x ∧ y = f i x := by
  obtain ⟨i, hi⟩ := List.getElem?_of_mem h
  rw [List.getElem?_mapIdx] at hi
  cases q : l[i]? with
  | none =>
    rw [q] at hi
    cases hi
  | some x =>
    rw [q] at hi
    exact ⟨i, x, q, (Option.some.inj hi).symm⟩
theorem invN_ok {n : Net} {u at' : Nat} (h : n.Ok u) (ha : at' < n.regs.length) : (invN n at').Ok (u + 1) ∧ (invN n at').ins = n.ins ∧ (invN n at').regs.length = n.regs.length := by
  have g := invT_good ha
  have len : (n.regs.mapIdx (invReg (invT n at') at')).length = n.regs.length := List.length_mapIdx
  have gf : Good n (1 + n.ins.length + (n.regs.mapIdx (invReg (invT n at') at')).length) (invT n at') := by
    rw [len]
    exact g
  refine ⟨renN_ok h gf gf (by rw [len]; have := h.regs; omega) (fun r m => ?_) fun r m => ?_, rfl, len⟩
  · obtain ⟨i, x, hx, rfl⟩ := mem_mapIdx m
    have := h.rnm x (List.mem_of_getElem? hx)
    show x.nm.length ≤ _
    omega
  · obtain ⟨i, x, hx, rfl⟩ := mem_mapIdx m
    have hl := h.rl x (List.mem_of_getElem? hx)
    rw [len]
    refine ⟨?_, xor1_lt (g.lit hl.2).2 if01⟩
    exact (show x.st ^^^ _ < 2 * 1 from xor1_lt (by omega) if01)
structure NatA where
  n : Net
  u : Nat
  k : Nat
theorem take_succ {α : Type} {l : List α} {i : Nat} {x : α} (h : l[i]? = some x) : l.take (i + 1) = l.take i ++ [x] := by
  rw [List.take_add_one, h]
  rfl
theorem range_at {n i a : Nat} (h : (List.range n)[i]? = some a) : a = i ∧ i < n := by
  obtain ⟨h1, h2⟩ := List.getElem?_eq_some_iff.mp h
  rw [List.length_range] at h1
  rw [List.getElem_range] at h2
  exact ⟨h2.symm, h1⟩
theorem map_at {α β : Type} {f : α → β} {l : List α} {i : Nat} {x : α} (h : l[i]? = some x) : (l.map f)[i]? = some (f x) := by
  rw [List.getElem?_map, h]
  rfl
section
variable {P : Program} {w : World} {K : PySem.W.Frag} {mg : Str → Option Value} {base : Heap}
abbrev Rens (P : Program) (w : World) (K : PySem.W.Frag) (mg : Str → Option Value) (base : Heap) : Prop := Cal P w K mg base 2 "_law_renewed" P_law_renewed spRen
abbrev spInv : Sp := spP (ι := NatA) (fun a => [netD a.n, nD a.k]) (fun a => a.n.Ok a.u ∧ a.u ≤ 100 ∧ a.k < a.n.regs.length) (fun a y => y = netD (invN a.n a.k))
theorem ok_inverted (F : Has K mg "_law_inverted" S_law_inverted) (B : Blt mg) (L : Lits P w K mg base) (T : Tabs P w K mg base) (Rn : Rens P w K mg base) : Cal P w K mg base 3 "_law_inverted" P_law_inverted spInv :=
  fnP F sc_law_inverted (fun _ => rfl) (fun _ _ _ _ _ _ us hl => match us, hl with | [_, _], _ => rfl) fun f cdv A outer s H E hr a hp => by
    have nd := sc_law_inverted.nd
    obtain ⟨ok, hu, hk⟩ := hp
    have sz := ok.sz
    have g := invT_good hk
    have rl := ok.regs
    refine sd_new 2 nd (pf_call T a.n (by omega) (pxs_cons (px_v 0) pxs_nil) (fun y e => e)) ?_
    have lt : 1 + a.n.ins.length + a.k < a.n.size := by
      unfold Net.size Net.fand
      omega
    refine sd_augI 2 (m := 1 + a.n.ins.length + a.k) (i := ((2 * (1 + a.n.ins.length + a.k) : Nat) : Int)) (j := 1) rfl (px_eq (pn_add (pn_add pn_1 (pn_lenT rfl B.len b_len (px_ixT (px_v 0) px_int rfl))) (px_v 1)) (by rw [List.length_map])) ?_ px_int ?_
    · unfold idT
      rw [List.getElem?_map, List.getElem?_map, List.getElem?_eq_getElem (by rw [List.length_range]; exact lt), List.getElem_range]
      rfl
    have te : ((idT a.n).map nD).set (1 + a.n.ins.length + a.k) (.int (((2 * (1 + a.n.ins.length + a.k) : Nat) : Int) + 1)) = (invT a.n a.k).map nD := by
      unfold invT
      rw [List.map_set]
      rfl
    rw [te]
    refine sd_new 3 nd (pf_lst pxs_nil) ?_
    refine sd_for (l := List.range a.n.regs.length) (g := nD) (fun i ρ => ρ = [some (.d (netD a.n)), some (.d (nD a.k)), some (.o true (oL ((invT a.n a.k).map nD))), some (.o true (oL (((a.n.regs.mapIdx (invReg (invT a.n a.k) a.k)).take i).map regD))), none, none, none, none, none]) (fun _ _ => False)
      rfl PassesOwn.never (pw_r rfl B.range (pn_lenT rfl B.len b_len (px_ixT (px_v 0) px_int rfl)) (by rw [List.length_map]) (by omega)) rfl (fun i b ρ' hb e => ?_) (fun ρ' e => ?_) (fun _ _ z => z.elim)
    · subst e
      obtain ⟨rfl, hi⟩ := range_at hb
      have gi := List.getElem?_eq_getElem hi
      generalize hrr : a.n.regs[b] = r at gi
      have hl := ok.rl r (List.mem_of_getElem? gi)
      refine ⟨[4], _, gd_n 4 nd, ?_⟩
      refine sd_asg (px_ixT (px_ixT (px_v 0) px_int rfl) (px_v 4) (x := regD r) (atI_n (map_at gi))) (gd_t rfl (gds_cons (gd_n 5 nd) (gds_cons (gd_n 6 nd) (gds_cons (gd_n 7 nd) gds_nil)))) ?_
      refine sd_set 8 nd (x := nD (if b = a.k then 1 else 0)) (px_eq (px_intB rfl B.int (px_eqI (px_v 4) (px_v 1))) ?_) ?_
      · by_cases z : b = a.k
        · rw [if_pos z, if_pos (decide_eq_true (by rw [z]))]
          rfl
        · rw [if_neg z, if_neg (by
            intro w
            exact z (by have := of_decide_eq_true w; omega))]
          rfl
      refine sd_app 3 (x := regD (invReg (invT a.n a.k) a.k b r)) rfl (px_tup (pxs_cons (px_v 5) (pxs_cons (pn_xor (px_v 6) (px_v 8)) (pxs_cons (pn_xor (px_lit L (px_b 2) (px_v 7) (g.lit hl.2).1) (px_v 8)) pxs_nil)))) (by rw [List.length_map, List.length_take]; omega) ?_
      refine sd_end [4, 5, 6, 7, 8] ?_
      have : (a.n.regs.mapIdx (invReg (invT a.n a.k) a.k)).take (b + 1) = (a.n.regs.mapIdx (invReg (invT a.n a.k) a.k)).take b ++ [invReg (invT a.n a.k) a.k b r] := take_succ (by rw [List.getElem?_mapIdx, gi]; rfl)
      show _ = _
      rw [this, List.map_append]
      rfl
    · subst e
      rw [List.length_range, List.take_of_length_le (by rw [List.length_mapIdx]; exact Nat.le_refl _)]
      exact sd_keep 2 rfl (sd_keep 3 rfl (sd_retD (px_call Rn ⟨a.n, invT a.n a.k, invT a.n a.k, a.n.regs.mapIdx (invReg (invT a.n a.k) a.k)⟩ ⟨a.u, a.n.fand, ok, hu, g, g, by rw [List.length_mapIdx]; omega⟩ (pxs_cons (px_v 0) (pxs_cons (px_v 2) (pxs_cons (px_v 2) (pxs_cons (px_v 3) pxs_nil)))) (fun y e => e)) rfl))
end
end Bf
set_option Elab.async false
set_option linter.all false
set_option maxRecDepth 100000
set_option maxHeartbeats 4000000
namespace Bf
open PySem PySem.Spec PyProof.Rows L2
/-! ### the ands' literals moved by c -/
def shT (n : Net) (c i : Nat) : List Nat := (List.range n.size).map fun j => if n.fand ≤ j ∧ j < n.fand + i then 2 * j + c else 2 * j
theorem shT_len (n : Net) (c i : Nat) : (shT n c i).length = n.size := by
  unfold shT
  rw [List.length_map, List.length_range]
theorem shT_get {n : Net} {c i j : Nat} (h : j < n.size) : (shT n c i)[j]? = some (if n.fand ≤ j ∧ j < n.fand + i then 2 * j + c else 2 * j) := by
  unfold shT
  rw [List.getElem?_map, List.getElem?_eq_getElem (by rw [List.length_range]; exact h), List.getElem_range]
  rfl
theorem shT_zero (n : Net) (c : Nat) : shT n c 0 = idT n := by
  unfold shT idT
  apply List.map_congr_left
  intro j _
  rw [if_neg (by omega)]
theorem shT_step {n : Net} {c i : Nat} (h : n.fand + i < n.size) : (shT n c i).set (n.fand + i) (2 * (n.fand + i) + c) = shT n c (i + 1) := by
  apply List.ext_getElem?
  intro j
  by_cases lt : j < n.size
  · rw [shT_get lt, List.getElem?_set, shT_len]
    by_cases e : n.fand + i = j
    · rw [if_pos e, if_pos (by omega), if_pos (by omega)]
      subst e
      rfl
    · rw [if_neg e, shT_get lt]
      by_cases k : n.fand ≤ j ∧ j < n.fand + i
      · rw [if_pos k, if_pos (by omega)]
      · rw [if_neg k, if_neg (by omega)]
  · rw [List.getElem?_eq_none (by rw [List.length_set, shT_len]; omega), List.getElem?_eq_none (by rw [shT_len]; omega)]
theorem shT_good (n : Net) (c : Nat) : Good n (n.fand + c) (shT n (2 * c) n.ands.length) := ⟨shT_len _ _ _, fun j v e => by
  have lt : j < n.size := by
    have := (List.getElem?_eq_some_iff.mp e).1
    rwa [shT_len] at this
  rw [shT_get lt] at e
  have : n.size = n.fand + n.ands.length := rfl
  have e' := Option.some.inj e
  split at e' <;> omega⟩
def dblN (n : Net) (at' : Nat) (nm : Str) : Net :=
  let t := shT n 2 n.ands.length
  let o := t.set (1 + n.ins.length + at') (2 * n.fand)
  renN n t o (n.regs.map (fun r : Reg => (⟨r.nm, r.st, litN o r.nx⟩ : Reg)) ++ [(⟨nm, (n.regs.getD at' ⟨nm, 0, 0⟩).st, litN t (n.regs.getD at' ⟨nm, 0, 0⟩).nx⟩ : Reg)])
theorem dblN_ok {n : Net} {u at' : Nat} {nm : Str} (h : n.Ok u) (ha : at' < n.regs.length) (hn : nm.length ≤ 50) : (dblN n at' nm).Ok (u + 1) ∧ (dblN n at' nm).ins = n.ins ∧ (dblN n at' nm).regs.length = n.regs.length + 1 := by
  have g := shT_good n 1
  have go := g.set (j := 1 + n.ins.length + at') (v := 2 * n.fand) (by omega)
  have len : (n.regs.map (fun r : Reg => (⟨r.nm, r.st, litN ((shT n 2 n.ands.length).set (1 + n.ins.length + at') (2 * n.fand)) r.nx⟩ : Reg)) ++ [(⟨nm, (n.regs.getD at' ⟨nm, 0, 0⟩).st, litN (shT n 2 n.ands.length) (n.regs.getD at' ⟨nm, 0, 0⟩).nx⟩ : Reg)]).length = n.regs.length + 1 := by
    rw [List.length_append, List.length_map]
    rfl
  have ef : 1 + n.ins.length + (n.regs.length + 1) = n.fand + 1 := by
    unfold Net.fand
    omega
  have es : 1 + n.ins.length + (n.regs.length + 1) + n.ands.length = n.fand + 1 + n.ands.length := by rw [ef]
  refine ⟨renN_ok h (by rw [len, ef]; exact g) (by rw [len, ef]; exact go) (by rw [len]; have := h.regs; omega) (fun r m => ?_) fun r m => ?_, rfl, len⟩
  · rcases List.mem_append.mp m with m | m
    · obtain ⟨x, hx, rfl⟩ := List.mem_map.mp m
      have := h.rnm x hx
      show x.nm.length ≤ _
      omega
    · rw [List.mem_singleton.mp m]
      show nm.length ≤ _
      omega
  · rw [len, es]
    rcases List.mem_append.mp m with m | m
    · obtain ⟨x, hx, rfl⟩ := List.mem_map.mp m
      have hl := h.rl x hx
      exact ⟨hl.1, (go.lit hl.2).2⟩
    · rw [List.mem_singleton.mp m]
      have hx : n.regs.getD at' ⟨nm, 0, 0⟩ ∈ n.regs := by
        rw [List.getD_eq_getElem?_getD, List.getElem?_eq_getElem ha]
        exact List.getElem_mem ha
      have hl := h.rl _ hx
      exact ⟨hl.1, (g.lit hl.2).2⟩
structure DblA where
  n : Net
  u : Nat
  k : Nat
  nm : Str
section
variable {P : Program} {w : World} {K : PySem.W.Frag} {mg : Str → Option Value} {base : Heap}
abbrev spDbl : Sp := spP (ι := DblA) (fun a => [netD a.n, nD a.k, .str a.nm]) (fun a => a.n.Ok a.u ∧ a.u ≤ 100 ∧ a.k < a.n.regs.length ∧ a.nm.length ≤ 50) (fun a y => y = netD (dblN a.n a.k a.nm))
theorem ok_doubled (F : Has K mg "_law_doubled" S_law_doubled) (B : Blt mg) (L : Lits P w K mg base) (T : Tabs P w K mg base) (Rn : Rens P w K mg base) : Cal P w K mg base 3 "_law_doubled" P_law_doubled spDbl :=
  fnP F sc_law_doubled (fun _ => rfl) (fun _ _ _ _ _ _ us hl => match us, hl with | [_, _, _], _ => rfl) fun f cdv A outer s H E hr a hp => by
    have nd := sc_law_doubled.nd
    obtain ⟨ok, hu, hk, hnm⟩ := hp
    have sz := ok.sz
    have fl := Net.fand_le a.n
    have sd : a.n.size = a.n.fand + a.n.ands.length := rfl
    have b1 := ok.regs
    have g := shT_good a.n 1
    have go := g.set (j := 1 + a.n.ins.length + a.k) (v := 2 * a.n.fand) (by omega)
    refine sd_set 3 nd (px_eq (pn_add (pn_add pn_1 (pn_lenT rfl B.len b_len (px_ixT (px_v 0) px_int rfl))) (pn_lenT rfl B.len b_len (px_ixT (px_v 0) px_int rfl))) (y := nD a.n.fand) (by rw [List.length_map, List.length_map]; rfl)) ?_
    refine sd_new 4 nd (pf_call T a.n (by omega) (pxs_cons (px_v 0) pxs_nil) (fun y e => e)) ?_
    refine sd_for (l := List.range (a.n.size - a.n.fand)) (g := fun i => nD (a.n.fand + i)) (fun i ρ => ρ = [some (.d (netD a.n)), some (.d (nD a.k)), some (.d (.str a.nm)), some (.d (nD a.n.fand)), some (.o true (oL ((shT a.n 2 i).map nD))), none, none, none, none]) (fun _ _ => False)
      rfl PassesOwn.never (pw_r2 rfl B.range (px_v 3) (px_lenL rfl B.len b_len (px_b 4)) (by rw [List.length_map, idT_len]) ⟨by omega, by omega⟩) (by rw [shT_zero]; rfl) (fun i b ρ' hb e => ?_) (fun ρ' e => ?_) (fun _ _ z => z.elim)
    · subst e
      obtain ⟨rfl, hi⟩ := range_at hb
      refine ⟨[5], _, gd_n 5 nd, ?_⟩
      refine sd_augI 4 (m := a.n.fand + b) (i := ((2 * (a.n.fand + b) : Nat) : Int)) (j := 2) rfl (px_v 5) ?_ px_int ?_
      · rw [List.getElem?_map, shT_get (by omega), if_neg (by omega)]
        rfl
      refine sd_end [5] ?_
      have te : ((shT a.n 2 b).map nD).set (a.n.fand + b) (.int (((2 * (a.n.fand + b) : Nat) : Int) + 2)) = (shT a.n 2 (b + 1)).map nD := by
        rw [← shT_step (by omega), List.map_set]
        rfl
      show _ = _
      rw [te]
      rfl
    · subst e
      rw [List.length_range, show a.n.size - a.n.fand = a.n.ands.length by omega]
      refine sd_new 6 nd (pf_lstO 4 rfl rfl B.list) ?_
      have lt : 1 + a.n.ins.length + a.k < a.n.size := by
        unfold Net.size Net.fand
        omega
      refine sd_seti 6 (j := ((1 + a.n.ins.length + a.k : Nat) : Int)) (n := 1 + a.n.ins.length + a.k) rfl (pn_mul2 (px_v 3)) (px_eq (pn_add (pn_add pn_1 (pn_lenT rfl B.len b_len (px_ixT (px_v 0) px_int rfl))) (px_v 1)) (by rw [List.length_map])) (ixN_n (by rw [List.length_map, shT_len]; exact lt)) ?_
      rw [show ((shT a.n 2 a.n.ands.length).map nD).set (1 + a.n.ins.length + a.k) (nD (2 * a.n.fand)) = (((shT a.n 2 a.n.ands.length).set (1 + a.n.ins.length + a.k) (2 * a.n.fand)).map nD) from (List.map_set ..).symm]
      refine sd_keep 4 rfl (sd_keep 6 rfl ?_)
      refine sd_newLc 8 (own := [("_law_row", 7)]) (l := a.n.regs) (g := regD) (f := fun r : Reg => regD ⟨r.nm, r.st, litN ((shT a.n 2 a.n.ands.length).set (1 + a.n.ins.length + a.k) (2 * a.n.fand)) r.nx⟩) rfl nd rfl rfl (blkOk_by (N := N_law_doubled) (sc := defScope S_law_doubled) (by decide +kernel))
        (piw_T (px_ixT (px_v 0) px_int rfl)) (by omega) (fun x _ s H C cl fp => gd_n 7 nd)
        (fun x m s H C cl fp => px_tup (pxs_cons (px_ixT (px_v 7) px_int rfl) (pxs_cons (px_ixT (px_v 7) px_int rfl) (pxs_cons (px_lit L (px_v 6) (px_ixT (px_v 7) px_int rfl) (go.lit (ok.rl x m).2).1) pxs_nil)))) ?_
      have gk := List.getElem?_eq_getElem hk
      generalize hrr : a.n.regs[a.k] = r at gk
      have hl := ok.rl r (List.mem_of_getElem? gk)
      refine sd_app 8 (x := regD ⟨a.nm, r.st, litN (shT a.n 2 a.n.ands.length) r.nx⟩) rfl (px_tup (pxs_cons (px_v 2) (pxs_cons (px_ixT (px_ixT (px_ixT (px_v 0) px_int rfl) (px_v 1) (x := regD r) (atI_n (map_at gk))) px_int rfl)
        (pxs_cons (px_lit L (px_v 4) (px_ixT (px_ixT (px_ixT (px_v 0) px_int rfl) (px_v 1) (x := regD r) (atI_n (map_at gk))) px_int rfl) (g.lit hl.2).1) pxs_nil)))) (by rw [List.length_map]; omega) ?_
      have er : (a.n.regs.map fun r : Reg => regD ⟨r.nm, r.st, litN ((shT a.n 2 a.n.ands.length).set (1 + a.n.ins.length + a.k) (2 * a.n.fand)) r.nx⟩) ++ [regD ⟨a.nm, r.st, litN (shT a.n 2 a.n.ands.length) r.nx⟩] =
          ((a.n.regs.map (fun r : Reg => (⟨r.nm, r.st, litN ((shT a.n 2 a.n.ands.length).set (1 + a.n.ins.length + a.k) (2 * a.n.fand)) r.nx⟩ : Reg)) ++ [(⟨a.nm, (a.n.regs.getD a.k ⟨a.nm, 0, 0⟩).st, litN (shT a.n 2 a.n.ands.length) (a.n.regs.getD a.k ⟨a.nm, 0, 0⟩).nx⟩ : Reg)]).map regD) := by
        rw [List.map_append, List.map_map, List.getD_eq_getElem?_getD, gk]
        rfl
      rw [er]
      refine sd_keep 8 rfl (sd_retD (px_call Rn ⟨a.n, shT a.n 2 a.n.ands.length, (shT a.n 2 a.n.ands.length).set (1 + a.n.ins.length + a.k) (2 * a.n.fand), _⟩ ⟨a.u, a.n.fand + 1, ok, hu, g, go, ?_⟩ (pxs_cons (px_v 0) (pxs_cons (px_v 4) (pxs_cons (px_v 6) (pxs_cons (px_v 8) pxs_nil)))) (fun y e => e)) rfl)
      rw [List.length_append, List.length_map]
      show _ + 1 ≤ _
      omega
end
end Bf
set_option Elab.async false
set_option linter.all false
set_option maxRecDepth 100000
set_option maxHeartbeats 4000000
namespace Bf
open PySem PySem.Spec PyProof.Rows L2
structure NetA where
  n : Net
  u : Nat
/-- what a variant keeps of n -/
structure Var (n : Net) (u k : Nat) (m : Net) : Prop where
  ok : m.Ok u
  ins : m.ins = n.ins
  regs : m.regs.length = k
theorem all_nats {es : List PyData} {n : Nat} (h : ∀ e ∈ es, e ∈ (List.range n).map nD) : ∃ ks : List Nat, es = ks.map nD ∧ ∀ k ∈ ks, k < n := by
  induction es with
  | nil => exact ⟨[], rfl, fun _ h => by cases h⟩
  | cons e es ih =>
    obtain ⟨ks, h1, h2⟩ := ih fun e m => h e (List.mem_cons_of_mem _ m)
    obtain ⟨k, hk, rfl⟩ := List.mem_map.mp (h e List.mem_cons_self)
    refine ⟨k :: ks, by rw [h1]; rfl, fun j m => ?_⟩
    rcases List.mem_cons.mp m with m | m
    · rw [m]
      exact List.mem_range.mp hk
    · exact h2 j m
section
variable {P : Program} {w : World} {K : PySem.W.Frag} {mg : Str → Option Value} {base : Heap}
abbrev spExc : Sp := spR (ι := NetA) (fun a => [netD a.n]) (fun a => a.n.Ok a.u ∧ a.u ≤ 100) (fun a y => ∃ (m : Net) (ks : List Nat), Var a.n (a.u + 1) a.n.regs.length m ∧ ks.length = a.n.regs.length ∧ (∀ k ∈ ks, k < a.n.regs.length) ∧ y = .tuple [netD m, .list (ks.map nD)])
theorem ok_exchanged (F : Has K mg "_law_exchanged" S_law_exchanged) (B : Blt mg) (L : Lits P w K mg base) (T : Tabs P w K mg base) (Rn : Rens P w K mg base) (Sh : Cal P w K mg base 2 "_law_shuffled" P_law_shuffled spShuf) : Cal P w K mg base 3 "_law_exchanged" P_law_exchanged spExc :=
  fnR F sc_law_exchanged (fun _ => rfl) (fun _ _ _ _ _ _ us hl => match us, hl with | [_, _], _ => rfl) fun f cdv A outer s H E hr a hp => by
    have nd := sc_law_exchanged.nd
    obtain ⟨ok, hu⟩ := hp
    have sz := ok.sz
    have b1 := ok.regs
    refine sd_set 2 nd (px_eq (pn_add pn_1 (pn_lenT rfl B.len b_len (px_ixT (px_v 1) px_int rfl))) (y := nD (1 + a.n.ins.length)) (by rw [List.length_map])) ?_
    refine sd_new 3 nd (pf_call T a.n (by omega) (pxs_cons (px_v 1) pxs_nil) (fun y e => e)) ?_
    refine sd_setM 4 nd (pm_callR Sh 0 rfl (pms_cons (pm_x (px_F (pf_listRange (n := a.n.regs.length) rfl B.list rfl B.range rfl (px_eq (pn_lenT rfl B.len b_len (px_ixT (px_v 1) px_int rfl)) (by rw [List.length_map])) (by omega))) (pms_nil ⟨rfl, (List.range a.n.regs.length).map nD, rfl, by rw [List.length_map, List.length_range]; omega, fun y ⟨es, e1, e2, e3⟩ => ?_⟩)))) 
    obtain ⟨ks, rfl, kl⟩ := all_nats e3
    subst e1
    have lk : ks.length = a.n.regs.length := by
      rw [List.length_map, List.length_map, List.length_range] at e2
      exact e2
    refine sd_for (l := List.range ks.length) (g := nD) (fun i ρ => ∃ t, Good a.n a.n.fand t ∧ ρ = [some (.o false oR), some (.d (netD a.n)), some (.d (nD (1 + a.n.ins.length))), some (.o true (oL (t.map nD))), some (.d (.list (ks.map nD))), none, none, none]) (fun _ _ => False)
      rfl PassesOwn.never (pw_r rfl B.range (px_lenL rfl B.len b_len (px_v 4)) (by rw [List.length_map]) (by omega)) ⟨_, idT_good a.n, rfl⟩ (fun i b ρ' hb ⟨t, gt, e⟩ => ?_) (fun ρ' ⟨t, gt, e⟩ => ?_) (fun _ _ z => z.elim)
    · subst e
      obtain ⟨rfl, hi⟩ := range_at hb
      have gi := List.getElem?_eq_getElem hi
      generalize hrr : ks[b] = q at gi
      have hq := kl q (List.mem_of_getElem? gi)
      have lt : 1 + a.n.ins.length + q < a.n.size := by
        unfold Net.size Net.fand
        omega
      refine ⟨[5], _, gd_n 5 nd, ?_⟩
      refine sd_seti 3 (j := ((1 + a.n.ins.length + q : Nat) : Int)) (n := 1 + a.n.ins.length + q) rfl (pn_mul2 (pn_add (px_v 2) (px_v 5))) (pn_add (px_v 2) (px_ixL (px_v 4) (px_v 5) (atI_n (map_at gi)))) (ixN_n (by rw [List.length_map, gt.len]; exact lt)) ?_
      refine sd_end [5] ⟨t.set (1 + a.n.ins.length + q) (2 * (1 + a.n.ins.length + b)), gt.set (by unfold Net.fand; omega), ?_⟩
      rw [List.map_set]
      rfl
    · subst e
      refine sd_keep 3 rfl ?_
      refine sd_setLc 7 (own := [("_law_k", 6)]) (l := ks) (g := nD) (f := fun k => regD ⟨(a.n.regs.getD k ⟨"", 0, 0⟩).nm, (a.n.regs.getD k ⟨"", 0, 0⟩).st, litN t (a.n.regs.getD k ⟨"", 0, 0⟩).nx⟩) rfl nd rfl rfl (blkOk_by (N := N_law_exchanged) (sc := defScope S_law_exchanged) (by decide +kernel))
        (piw_L (px_v 4)) (by omega) (fun x _ s H C cl fp => gd_n 6 nd)
        (fun x m s H C cl fp => by
          have lx := kl x m
          have gx : a.n.regs[x]? = some (a.n.regs.getD x ⟨"", 0, 0⟩) := by rw [List.getD_eq_getElem?_getD, List.getElem?_eq_getElem lx]; rfl
          generalize a.n.regs.getD x ⟨"", 0, 0⟩ = r at gx
          have hl := ok.rl r (List.mem_of_getElem? gx)
          exact px_tup (pxs_cons (px_ixT (px_ixT (px_ixT (px_v 1) px_int rfl) (px_v 6) (x := regD r) (atI_n (map_at gx))) px_int rfl) (pxs_cons (px_ixT (px_ixT (px_ixT (px_v 1) px_int rfl) (px_v 6) (x := regD r) (atI_n (map_at gx))) px_int rfl)
            (pxs_cons (px_lit L (px_v 3) (px_ixT (px_ixT (px_ixT (px_v 1) px_int rfl) (px_v 6) (x := regD r) (atI_n (map_at gx))) px_int rfl) (gt.lit hl.2).1) pxs_nil)))) ?_
      have er : (ks.map fun k => regD ⟨(a.n.regs.getD k ⟨"", 0, 0⟩).nm, (a.n.regs.getD k ⟨"", 0, 0⟩).st, litN t (a.n.regs.getD k ⟨"", 0, 0⟩).nx⟩) = (ks.map fun k => (⟨(a.n.regs.getD k ⟨"", 0, 0⟩).nm, (a.n.regs.getD k ⟨"", 0, 0⟩).st, litN t (a.n.regs.getD k ⟨"", 0, 0⟩).nx⟩ : Reg)).map regD := by
        rw [List.map_map]
        rfl
      rw [er]
      generalize hrs : (ks.map fun k => (⟨(a.n.regs.getD k ⟨"", 0, 0⟩).nm, (a.n.regs.getD k ⟨"", 0, 0⟩).st, litN t (a.n.regs.getD k ⟨"", 0, 0⟩).nx⟩ : Reg)) = rs
      have lrs : rs.length = a.n.regs.length := by rw [← hrs, List.length_map, lk]
      have ef : 1 + a.n.ins.length + rs.length = a.n.fand := by
        rw [lrs]
        rfl
      refine sd_retD (px_tup (pxs_cons (px_call Rn ⟨a.n, t, t, rs⟩ ⟨a.u, a.n.fand, ok, hu, gt, gt, by show rs.length ≤ 1000; omega⟩ (pxs_cons (px_v 1) (pxs_cons (px_v 3) (pxs_cons (px_v 3) (pxs_cons (px_v 7) pxs_nil)))) (fun y e => e)) (pxs_cons (px_v 4) pxs_nil))) ⟨⟨renN a.n t t rs, ks, ⟨renN_ok ok (by rw [ef]; exact gt) (by rw [ef]; exact gt) (by omega) (fun r m => ?_) (fun r m => ?_), rfl, lrs⟩, lk, kl, rfl⟩, rfl⟩
      · rw [← hrs] at m
        obtain ⟨x, hx, rfl⟩ := List.mem_map.mp m
        have lx := kl x hx
        have gx : a.n.regs[x]? = some (a.n.regs.getD x ⟨"", 0, 0⟩) := by rw [List.getD_eq_getElem?_getD, List.getElem?_eq_getElem lx]; rfl
        have := ok.rnm _ (List.mem_of_getElem? gx)
        show (a.n.regs.getD x ⟨"", 0, 0⟩).nm.length ≤ _
        omega
      · rw [ef]
        rw [← hrs] at m
        obtain ⟨x, hx, rfl⟩ := List.mem_map.mp m
        have lx := kl x hx
        have gx : a.n.regs[x]? = some (a.n.regs.getD x ⟨"", 0, 0⟩) := by rw [List.getD_eq_getElem?_getD, List.getElem?_eq_getElem lx]; rfl
        have hl := ok.rl _ (List.mem_of_getElem? gx)
        exact ⟨hl.1, (gt.lit hl.2).2⟩
end
end Bf
set_option Elab.async false
set_option linter.all false
set_option maxRecDepth 100000
set_option maxHeartbeats 4000000
namespace Bf
open PySem PySem.Spec PyProof.Rows L2
/-! ### closed up: what is needed -/
abbrev One (nd : List Nat) (j : Nat) : Prop := nd[j]? = some 1
theorem One.set {nd : List Nat} {j k : Nat} (h : One nd j) : One (nd.set k 1) j := by
  show (nd.set k 1)[j]? = some 1
  rw [List.getElem?_set]
  by_cases e : k = j
  · rw [if_pos e, if_pos]
    rw [e]
    exact (List.getElem?_eq_some_iff.mp h).1
  · rw [if_neg e]
    exact h
theorem One.self {nd : List Nat} {j : Nat} (h : j < nd.length) : One (nd.set j 1) j := set_same h
def cnt (nd : List Nat) (f : Nat) : Nat → Nat
  | 0 => 0
  | k + 1 => cnt nd f k + (if nd[f + k]? = some 1 then 1 else 0)
theorem cnt_le {nd : List Nat} {f : Nat} : ∀ {j k : Nat}, j ≤ k → cnt nd f j ≤ cnt nd f k
  | j, 0, h => by
    have : j = 0 := by omega
    subst this
    exact Nat.le_refl _
  | j, k + 1, h => by
    by_cases e : j = k + 1
    · subst e
      exact Nat.le_refl _
    · exact Nat.le_trans (cnt_le (show j ≤ k by omega)) (Nat.le_add_right _ _)
theorem cnt_lt {nd : List Nat} {f j k : Nat} (h : One nd (f + j)) (l : j < k) : cnt nd f j < cnt nd f k := by
  have e : cnt nd f (j + 1) = cnt nd f j + 1 := by
    show cnt nd f j + _ = _
    rw [if_pos h]
  have := cnt_le (nd := nd) (f := f) (show j + 1 ≤ k by omega)
  omega
theorem cnt_bd {nd : List Nat} {f : Nat} : ∀ k : Nat, cnt nd f k ≤ k
  | 0 => Nat.le_refl _
  | k + 1 => by
    have := cnt_bd (nd := nd) (f := f) k
    show cnt nd f k + _ ≤ _
    split <;> omega
def newT (nd : List Nat) (f i : Nat) : List Nat := (List.range f).map (2 * ·) ++ (List.range i).map fun k => 2 * (f + cnt nd f k)
theorem newT_len (nd : List Nat) (f i : Nat) : (newT nd f i).length = f + i := by
  unfold newT
  rw [List.length_append, List.length_map, List.length_map, List.length_range, List.length_range]
theorem newT_succ (nd : List Nat) (f i : Nat) : newT nd f (i + 1) = newT nd f i ++ [2 * (f + cnt nd f i)] := by
  unfold newT
  rw [List.range_succ, List.map_append, ← List.append_assoc]
  rfl
theorem newT_lit {nd : List Nat} {f i l c : Nat} (h : l / 2 < f + i) (hc : f ≤ l / 2 → cnt nd f (l / 2 - f) < c) : litN (newT nd f i) l < 2 * (f + c) := by
  refine litN_lt (fun v e => ?_) (by rw [newT_len]; exact h)
  unfold newT at e
  by_cases lt : l / 2 < f
  · rw [List.getElem?_append_left (by rw [List.length_map, List.length_range]; exact lt), List.getElem?_map, List.getElem?_eq_getElem (by rw [List.length_range]; exact lt), List.getElem_range] at e
    have : 2 * (l / 2) = v := Option.some.inj e
    omega
  · rw [List.getElem?_append_right (by rw [List.length_map, List.length_range]; omega), List.length_map, List.length_range, List.getElem?_map, List.getElem?_eq_getElem (by rw [List.length_range]; omega), List.getElem_range] at e
    have : 2 * (f + cnt nd f (l / 2 - f)) = v := Option.some.inj e
    have := hc (by omega)
    omega
/-- all that is used is needed -/
structure Needs (n : Net) (nd : List Nat) : Prop where
  len : nd.length = n.size
  r : ∀ r ∈ n.regs, One nd (r.nx / 2)
  o : ∀ r ∈ n.outs, One nd (r.li / 2)
  c : ∀ r ∈ n.clms, One nd (r.li / 2)
theorem Needs.set {n : Net} {nd : List Nat} {k : Nat} (h : Needs n nd) : Needs n (nd.set k 1) := ⟨by rw [List.length_set]; exact h.len, fun r m => (h.r r m).set, fun r m => (h.o r m).set, fun r m => (h.c r m).set⟩
def Deep (n : Net) (nd : List Nat) (k0 : Nat) : Prop := ∀ k p, k0 ≤ k → n.ands[k]? = some p → One nd (n.fand + k) → One nd (p.1 / 2) ∧ One nd (p.2 / 2)
def cloN (n : Net) (nd : List Nat) (kept : List (Nat × Nat)) : Net :=
  ⟨n.ins, n.regs.map fun r => ⟨r.nm, r.st, litN (newT nd n.fand n.ands.length) r.nx⟩, kept, n.outs.map fun r => ⟨r.nm, litN (newT nd n.fand n.ands.length) r.li⟩, n.clms.map fun r => ⟨r.nm, litN (newT nd n.fand n.ands.length) r.li⟩⟩
theorem cloN_var {n : Net} {u : Nat} {nd : List Nat} {kept : List (Nat × Nat)} (h : n.Ok u) (hn : Needs n nd) (lk : kept.length = cnt nd n.fand n.ands.length)
    (ka : ∀ (j : Nat) (p : Nat × Nat), kept[j]? = some p → p.1 < 2 * (n.fand + j) ∧ p.2 < 2 * (n.fand + j)) : Var n u n.regs.length (cloN n nd kept) := by
  have fa : (cloN n nd kept).fand = n.fand := by
    unfold Net.fand cloN
    rw [List.length_map]
  have sz : (cloN n nd kept).size = n.fand + cnt nd n.fand n.ands.length := by
    unfold Net.size
    rw [fa]
    show _ + kept.length = _
    rw [lk]
  have lit : ∀ l, l < 2 * n.size → One nd (l / 2) → litN (newT nd n.fand n.ands.length) l < 2 * (n.fand + cnt nd n.fand n.ands.length) := fun l hl o => by
    have lt : l / 2 < n.fand + n.ands.length := by
      have : n.size = n.fand + n.ands.length := rfl
      omega
    refine newT_lit lt fun ge => cnt_lt (by rw [show n.fand + (l / 2 - n.fand) = l / 2 by omega]; exact o) (by omega)
  have bd := cnt_bd (nd := nd) (f := n.fand) n.ands.length
  have ha := h.ands
  refine ⟨⟨h.ins, ?_, fun r m => ?_, ?_, ?_, fun r m => ?_, ?_, fun r m => ?_, fun r m => ?_, fun i p e => ?_, fun r m => ?_, fun r m => ?_⟩, rfl, List.length_map _⟩
  · show (n.regs.map _).length ≤ _
    rw [List.length_map]
    exact h.regs
  · obtain ⟨x, hx, rfl⟩ := List.mem_map.mp m
    exact h.rnm x hx
  · show kept.length ≤ _
    omega
  · show 1 ≤ (n.outs.map _).length ∧ (n.outs.map _).length ≤ _
    rw [List.length_map]
    exact h.outs
  · obtain ⟨x, hx, rfl⟩ := List.mem_map.mp m
    exact h.onm x hx
  · show (n.clms.map _).length ≤ _
    rw [List.length_map]
    exact h.clms
  · obtain ⟨x, hx, rfl⟩ := List.mem_map.mp m
    exact h.cnm x hx
  · obtain ⟨x, hx, rfl⟩ := List.mem_map.mp m
    rw [sz]
    exact ⟨(h.rl x hx).1, lit _ (h.rl x hx).2 (hn.r x hx)⟩
  · rw [fa]
    exact ka i p e
  · obtain ⟨x, hx, rfl⟩ := List.mem_map.mp m
    rw [sz]
    exact lit _ (h.ol x hx) (hn.o x hx)
  · obtain ⟨x, hx, rfl⟩ := List.mem_map.mp m
    rw [sz]
    exact lit _ (h.cl x hx) (hn.c x hx)
/-- the literals that are looked at first -/
def litsN (n : Net) : List Nat := n.regs.map Reg.nx ++ (n.outs.map Out.li ++ n.clms.map Out.li)
theorem litsN_lt {n : Net} {u : Nat} (h : n.Ok u) : ∀ l ∈ litsN n, l < 2 * n.size := fun l m => by
  rcases List.mem_append.mp m with m | m
  · obtain ⟨x, hx, rfl⟩ := List.mem_map.mp m
    exact (h.rl x hx).2
  · rcases List.mem_append.mp m with m | m
    · obtain ⟨x, hx, rfl⟩ := List.mem_map.mp m
      exact h.ol x hx
    · obtain ⟨x, hx, rfl⟩ := List.mem_map.mp m
      exact h.cl x hx
theorem needs_of {n : Net} {nd : List Nat} (hl : nd.length = n.size) (h : ∀ l ∈ litsN n, One nd (l / 2)) : Needs n nd :=
  ⟨hl, fun r m => h _ (List.mem_append_left _ (List.mem_map.mpr ⟨r, m, rfl⟩)), fun r m => h _ (List.mem_append_right _ (List.mem_append_left _ (List.mem_map.mpr ⟨r, m, rfl⟩))), fun r m => h _ (List.mem_append_right _ (List.mem_append_right _ (List.mem_map.mpr ⟨r, m, rfl⟩)))⟩
end Bf
set_option Elab.async false
set_option linter.all false
set_option maxRecDepth 100000
set_option maxHeartbeats 4000000
namespace Bf
open PySem PySem.Spec PyProof.Rows L2
section
variable {P : Program} {w : World} {K : PySem.W.Frag} {mg : Str → Option Value} {base : Heap}
abbrev spClo : Sp := spP (ι := NetA) (fun a => [.tuple (a.n.ins.map .str), .list (a.n.regs.map regD), .list (a.n.ands.map andD), .list (a.n.outs.map outD), .list (a.n.clms.map outD)]) (fun a => a.n.Ok a.u ∧ a.u ≤ 100) (fun a y => ∃ m, Var a.n a.u a.n.regs.length m ∧ y = netD m)
set_option maxHeartbeats 40000000 in
theorem ok_closed_up (F : Has K mg "_law_closed_up" S_law_closed_up) (B : Blt mg) (L : Lits P w K mg base) : Cal P w K mg base 2 "_law_closed_up" P_law_closed_up spClo :=
  fnP F sc_law_closed_up (fun _ => rfl) (fun _ _ _ _ _ _ us hl => match us, hl with | [_, _, _, _, _], _ => rfl) fun f cdv A outer s H E hr a hp => by
    have nd := sc_law_closed_up.nd
    obtain ⟨ok, hu⟩ := hp
    have sz := ok.sz
    have b1 := ok.regs
    have b2 := ok.ands
    have b3 := ok.outs
    have b4 := ok.clms
    have fl := Net.fand_le a.n
    have sd : a.n.size = a.n.fand + a.n.ands.length := rfl
    have lls := litsN_lt ok
    have lll : (litsN a.n).length ≤ 1000 := by
      unfold litsN
      rw [List.length_append, List.length_append, List.length_map, List.length_map, List.length_map]
      omega
    refine sd_set 5 nd (px_eq (pn_add (pn_add pn_1 (pn_lenT rfl B.len b_len (px_v 0))) (px_lenL rfl B.len b_len (px_v 1))) (y := nD a.n.fand) (by rw [List.length_map, List.length_map]; rfl)) ?_
    refine sd_new 6 nd (pf_eq (ys := (List.replicate a.n.size 0).map nD) (pf_rep (n := (a.n.size : Int)) (px_lst (pxs_cons px_int pxs_nil)) (px_eq (pn_add (px_v 5) (px_lenL rfl B.len b_len (px_v 2))) (by rw [List.length_map, sd])) (by omega)) (by rw [Int.toNat_natCast, List.map_replicate]; rfl)) ?_
    -- what is used
    refine sd_for (l := litsN a.n) (g := nD) (fun i ρ => ∃ nl : List Nat, nl.length = a.n.size ∧ (∀ j l, j < i → (litsN a.n)[j]? = some l → One nl (l / 2)) ∧ ρ = [some (.d (.tuple (a.n.ins.map .str))), some (.d (.list (a.n.regs.map regD))), some (.d (.list (a.n.ands.map andD))), some (.d (.list (a.n.outs.map outD))), some (.d (.list (a.n.clms.map outD))), some (.d (nD a.n.fand)), some (.o true (oL (nl.map nD))), none, none, none, none, none, none]) (fun _ _ => False)
      rfl PassesOwn.never (piw_L (px_eq (px_F (pf_cat (px_F (pf_cat (px_lc (own := [("_law_row", 7)]) (l := a.n.regs) (g := regD) (f := fun r => nD r.nx) rfl nd (blkOk_by (N := N_law_closed_up) (sc := defScope S_law_closed_up) (by decide +kernel)) (piw_L (px_v 1)) (by omega) (fun x _ s H C cl fp => gd_n 7 nd) (fun x _ s H C cl fp => px_ixT (px_v 7) px_int rfl))
          (px_lc (own := [("_law_row", 7)]) (l := a.n.outs) (g := outD) (f := fun r => nD r.li) rfl nd (blkOk_by (N := N_law_closed_up) (sc := defScope S_law_closed_up) (by decide +kernel)) (piw_L (px_v 3)) (by omega) (fun x _ s H C cl fp => gd_n 7 nd) (fun x _ s H C cl fp => px_ixT (px_v 7) px_int rfl)) (by rw [List.length_map, List.length_map]; omega)))
          (px_lc (own := [("_law_row", 7)]) (l := a.n.clms) (g := outD) (f := fun r => nD r.li) rfl nd (blkOk_by (N := N_law_closed_up) (sc := defScope S_law_closed_up) (by decide +kernel)) (piw_L (px_v 4)) (by omega) (fun x _ s H C cl fp => gd_n 7 nd) (fun x _ s H C cl fp => px_ixT (px_v 7) px_int rfl)) (by rw [List.length_append, List.length_map, List.length_map, List.length_map]; omega)))
          (by unfold litsN; rw [List.map_append, List.map_append, List.map_map, List.map_map, List.map_map, List.append_assoc]; rfl)))
      ⟨List.replicate a.n.size 0, by rw [List.length_replicate], fun j l h => by omega, rfl⟩ (fun i b ρ' hb ⟨nl, len, on, e⟩ => ?_) (fun ρ' ⟨nl, len, on, e⟩ => ?_) (fun _ _ z => z.elim)
    · subst e
      have lb := lls b (List.mem_of_getElem? hb)
      refine ⟨[8], _, gd_n 8 nd, ?_⟩
      refine sd_seti 6 (j := ((b / 2 ^ 1 : Nat) : Int)) (n := b / 2) rfl px_int (pn_shr (px_v 8) pn_1) (by rw [Nat.pow_one]; exact ixN_n (by rw [List.length_map, len]; omega)) ?_
      refine sd_end [8] ⟨nl.set (b / 2) 1, by rw [List.length_set]; exact len, fun j l hj hl => ?_, ?_⟩
      · by_cases e : j = i
        · subst e
          rw [hb] at hl
          cases hl
          exact One.self (by rw [len]; omega)
        · exact (on j l (by omega) hl).set
      · rw [List.map_set]
        rfl
    · subst e
      have ne : Needs a.n nl := needs_of len fun l m => by
        obtain ⟨j, hj⟩ := List.getElem?_of_mem m
        exact on j l (List.getElem?_eq_some_iff.mp hj).1 hj
      clear on len
      -- downwards
      refine sd_for (l := (List.range a.n.ands.length).reverse) (g := nD) (fun i ρ => ∃ nl : List Nat, Needs a.n nl ∧ Deep a.n nl (a.n.ands.length - i) ∧ ρ = [some (.d (.tuple (a.n.ins.map .str))), some (.d (.list (a.n.regs.map regD))), some (.d (.list (a.n.ands.map andD))), some (.d (.list (a.n.outs.map outD))), some (.d (.list (a.n.clms.map outD))), some (.d (nD a.n.fand)), some (.o true (oL (nl.map nD))), none, none, none, none, none, none]) (fun _ _ => False)
        rfl PassesOwn.never (pw_rev rfl B.reversed (px_F (pf_listRange (n := a.n.ands.length) rfl B.list rfl B.range rfl (px_eq (px_lenL rfl B.len b_len (px_v 2)) (by rw [List.length_map])) (by omega)))) ⟨nl, ne, fun k p hk hp => by have := (List.getElem?_eq_some_iff.mp hp).1; omega, rfl⟩ (fun i b ρ' hb ⟨nl, ne, dp, e⟩ => ?_) (fun ρ' ⟨nl, ne, dp, e⟩ => ?_) (fun _ _ z => z.elim)
      · subst e
        have hi : i < a.n.ands.length := by
          have := (List.getElem?_eq_some_iff.mp hb).1
          rw [List.length_reverse, List.length_range] at this
          exact this
        have eb : b = a.n.ands.length - 1 - i := by
          rw [List.getElem?_reverse (by rw [List.length_range]; exact hi), List.length_range] at hb
          exact (range_at hb).1
        have hbl : b < a.n.ands.length := by omega
        have gp := List.getElem?_eq_getElem hbl
        generalize hpp : a.n.ands[b] = q at gp
        have al := ok.al b q gp
        have fb : a.n.fand + b < nl.length := by
          rw [ne.len]
          omega
        have gx : nl[a.n.fand + b]? = some nl[a.n.fand + b] := List.getElem?_eq_getElem fb
        generalize nl[a.n.fand + b] = x at gx
        have keepd : ∀ {j : Nat}, j < a.n.fand + b → Deep a.n nl (a.n.ands.length - i) → Deep a.n (nl.set j 1) (a.n.ands.length - i) := fun {j} hj dp k p hk hp h1 => by
          have h0 : One nl (a.n.fand + k) := by
            have h1' : (nl.set j 1)[a.n.fand + k]? = some 1 := h1
            rw [set_other (by omega)] at h1'
            exact h1'
          have := dp k p hk hp h0
          exact ⟨this.1.set, this.2.set⟩
        refine ⟨[9], _, gd_n 9 nd, ?_⟩
        refine sd_if (fun ρ' => ∃ nl' : List Nat, Needs a.n nl' ∧ Deep a.n nl' (a.n.ands.length - (i + 1)) ∧ ρ' = [some (.d (.tuple (a.n.ins.map .str))), some (.d (.list (a.n.regs.map regD))), some (.d (.list (a.n.ands.map andD))), some (.d (.list (a.n.outs.map outD))), some (.d (.list (a.n.clms.map outD))), some (.d (nD a.n.fand)), some (.o true (oL (nl'.map nD))), none, none, some (.d (nD b)), none, none, none])
          (pt_eqI (i := (x : Int)) (px_ixO 6 rfl (pn_add (px_v 5) (px_v 9)) (atI_n (map_at gx))) px_int) (fun h => ?_) (fun h => ?_) (fun ρ' ⟨nl', ne', dp', e⟩ => by subst e; exact sd_end [9] ⟨nl', ne', dp', rfl⟩)
        · have x1 : x = 1 := by
            have := of_decide_eq_true h
            omega
          subst x1
          have q1 : q.1 / 2 < a.n.fand + b := by omega
          have q2 : q.2 / 2 < a.n.fand + b := by omega
          refine sd_seti 6 (j := ((q.1 / 2 ^ 1 : Nat) : Int)) (n := q.1 / 2) rfl px_int (pn_shr (px_ixT (px_ixL (px_v 2) (px_v 9) (x := andD q) (atI_n (map_at gp))) px_int rfl) pn_1) (by rw [Nat.pow_one]; exact ixN_n (by rw [List.length_map]; omega)) ?_
          refine sd_seti 6 (j := ((q.2 / 2 ^ 1 : Nat) : Int)) (n := q.2 / 2) rfl px_int (pn_shr (px_ixT (px_ixL (px_v 2) (px_v 9) (x := andD q) (atI_n (map_at gp))) px_int rfl) pn_1) (by rw [Nat.pow_one]; exact ixN_n (by rw [List.length_set, List.length_map]; omega)) ?_
          refine sd_nil ⟨(nl.set (q.1 / 2) 1).set (q.2 / 2) 1, ne.set.set, fun k p hk hp h1 => ?_, ?_⟩
          · by_cases ek : k = b
            · subst ek
              rw [gp] at hp
              cases hp
              exact ⟨(One.self (by omega)).set, One.self (by rw [List.length_set]; omega)⟩
            · have h0 : One nl (a.n.fand + k) := by
                have h1' : ((nl.set (q.1 / 2) 1).set (q.2 / 2) 1)[a.n.fand + k]? = some 1 := h1
                rw [set_other (by omega), set_other (by omega)] at h1'
                exact h1'
              have := dp k p (by omega) hp h0
              exact ⟨this.1.set.set, this.2.set.set⟩
          · rw [List.map_set, List.map_set]
            rfl
        · refine sd_nil ⟨nl, ne, fun k p hk hp h1 => ?_, rfl⟩
          by_cases ek : k = b
          · subst ek
            have x1 : x = 1 := by
              have h1' : nl[a.n.fand + k]? = some 1 := h1
              rw [gx] at h1'
              exact Option.some.inj h1'
            subst x1
            simp at h
          · exact dp k p (by omega) hp h1
      · subst e
        rw [List.length_reverse, List.length_range, Nat.sub_self] at dp
        refine sd_new 11 nd (pf_eq (ys := (newT nl a.n.fand 0).map nD) (pf_lc (own := [("_law_node", 10)]) (l := List.range a.n.fand) (g := nD) (f := fun i => nD (2 * i)) rfl nd (blkOk_by (N := N_law_closed_up) (sc := defScope S_law_closed_up) (by decide +kernel)) (pw_r rfl B.range (px_v 5) rfl (by omega)) (by rw [List.length_range]; omega) (fun x _ s H C cl fp => gd_n 10 nd) (fun x _ s H C cl fp => pn_mul2 (px_v 10))) (by
          unfold newT
          rw [List.range_zero, List.map_nil, List.append_nil, List.map_map]
          rfl)) ?_
        refine sd_new 12 nd (pf_lst pxs_nil) ?_
        refine sd_keep 6 rfl ?_
        refine sd_for (l := List.range a.n.ands.length) (g := nD) (fun i ρ => ∃ kept : List (Nat × Nat), kept.length = cnt nl a.n.fand i ∧ (∀ (j : Nat) (p : Nat × Nat), kept[j]? = some p → p.1 < 2 * (a.n.fand + j) ∧ p.2 < 2 * (a.n.fand + j)) ∧ ρ = [some (.d (.tuple (a.n.ins.map .str))), some (.d (.list (a.n.regs.map regD))), some (.d (.list (a.n.ands.map andD))), some (.d (.list (a.n.outs.map outD))), some (.d (.list (a.n.clms.map outD))), some (.d (nD a.n.fand)), some (.d (.list (nl.map nD))), none, none, none, none, some (.o true (oL ((newT nl a.n.fand i).map nD))), some (.o true (oL (kept.map andD)))]) (fun _ _ => False)
          rfl PassesOwn.never (pw_r rfl B.range (px_lenL rfl B.len b_len (px_v 2)) (by rw [List.length_map]) (by omega)) ⟨[], rfl, fun j p e => by simp at e, rfl⟩ (fun i b ρ' hb ⟨kept, lk, ka, e⟩ => ?_) (fun ρ' ⟨kept, lk, ka, e⟩ => ?_) (fun _ _ z => z.elim)
        · subst e
          obtain ⟨rfl, hbl⟩ := range_at hb
          have gp := List.getElem?_eq_getElem hbl
          generalize hpp : a.n.ands[b] = q at gp
          have al := ok.al b q gp
          have fb : a.n.fand + b < nl.length := by
            rw [ne.len]
            omega
          have gx : nl[a.n.fand + b]? = some nl[a.n.fand + b] := List.getElem?_eq_getElem fb
          generalize nl[a.n.fand + b] = x at gx
          have cb := cnt_bd (nd := nl) (f := a.n.fand) b
          refine ⟨[9], _, gd_n 9 nd, ?_⟩
          refine sd_app 11 (x := nD (2 * (a.n.fand + cnt nl a.n.fand b))) rfl (pn_mul2 (px_eq (pn_add (px_v 5) (px_lenL rfl B.len b_len (px_b 12))) (by rw [List.length_map, lk]))) (by rw [List.length_map, newT_len]; omega) ?_
          rw [show (newT nl a.n.fand b).map nD ++ [nD (2 * (a.n.fand + cnt nl a.n.fand b))] = (newT nl a.n.fand (b + 1)).map nD by rw [newT_succ, List.map_append]; rfl]
          refine sd_if (fun ρ' => ∃ kept' : List (Nat × Nat), kept'.length = cnt nl a.n.fand (b + 1) ∧ (∀ (j : Nat) (p : Nat × Nat), kept'[j]? = some p → p.1 < 2 * (a.n.fand + j) ∧ p.2 < 2 * (a.n.fand + j)) ∧ ρ' = [some (.d (.tuple (a.n.ins.map .str))), some (.d (.list (a.n.regs.map regD))), some (.d (.list (a.n.ands.map andD))), some (.d (.list (a.n.outs.map outD))), some (.d (.list (a.n.clms.map outD))), some (.d (nD a.n.fand)), some (.d (.list (nl.map nD))), none, none, some (.d (nD b)), none, some (.o true (oL ((newT nl a.n.fand (b + 1)).map nD))), some (.o true (oL (kept'.map andD)))])
            (pt_eqI (i := (x : Int)) (px_ixL (px_v 6) (pn_add (px_v 5) (px_v 9)) (x := nD x) (atI_n (map_at gx))) px_int) (fun h => ?_) (fun h => ?_) (fun ρ' ⟨kept', lk', ka', e⟩ => by subst e; exact sd_end [9] ⟨kept', lk', ka', rfl⟩)
          · have x1 : x = 1 := by
              have := of_decide_eq_true h
              omega
            subst x1
            have on := dp b q (Nat.zero_le _) gp gx
            have bd : ∀ l, l < 2 * (a.n.fand + b) → One nl (l / 2) → l / 2 < (newT nl a.n.fand (b + 1)).length ∧ litN (newT nl a.n.fand (b + 1)) l < 2 * (a.n.fand + kept.length) := fun l hl o => by
              refine ⟨by rw [newT_len]; omega, ?_⟩
              rw [lk]
              exact newT_lit (by omega) fun ge => cnt_lt (by rw [show a.n.fand + (l / 2 - a.n.fand) = l / 2 by omega]; exact o) (by omega)
            refine sd_app 12 (x := andD (litN (newT nl a.n.fand (b + 1)) q.1, litN (newT nl a.n.fand (b + 1)) q.2)) rfl (px_tup (pxs_cons (px_lit L (px_b 11) (px_ixT (px_ixL (px_v 2) (px_v 9) (x := andD q) (atI_n (map_at gp))) px_int rfl) (bd _ al.1 on.1).1) (pxs_cons (px_lit L (px_b 11) (px_ixT (px_ixL (px_v 2) (px_v 9) (x := andD q) (atI_n (map_at gp))) px_int rfl) (bd _ al.2 on.2).1) pxs_nil))) (by rw [List.length_map]; omega) ?_
            refine sd_nil ⟨kept ++ [(litN (newT nl a.n.fand (b + 1)) q.1, litN (newT nl a.n.fand (b + 1)) q.2)], ?_, fun j p e => ?_, ?_⟩
            · rw [List.length_append, lk]
              show _ = cnt nl a.n.fand b + _
              rw [if_pos gx]
              rfl
            · by_cases lt : j < kept.length
              · rw [List.getElem?_append_left lt] at e
                exact ka j p e
              · rw [List.getElem?_append_right (by omega)] at e
                have ej : j = kept.length := by
                  have := (List.getElem?_eq_some_iff.mp e).1
                  rw [List.length_singleton] at this
                  omega
                subst ej
                rw [Nat.sub_self] at e
                have : (litN (newT nl a.n.fand (b + 1)) q.1, litN (newT nl a.n.fand (b + 1)) q.2) = p := Option.some.inj e
                subst this
                exact ⟨(bd _ al.1 on.1).2, (bd _ al.2 on.2).2⟩
            · rw [List.map_append]
              rfl
          · refine sd_nil ⟨kept, ?_, ka, rfl⟩
            rw [lk]
            show _ = cnt nl a.n.fand b + _
            rw [if_neg fun z => by
              rw [gx] at z
              have := Option.some.inj z
              subst this
              simp at h]
            rfl
        · subst e
          rw [List.length_range] at lk ⊢
          have bd : ∀ l, l < 2 * a.n.size → l / 2 < (newT nl a.n.fand a.n.ands.length).length := fun l hl => by
            rw [newT_len]
            omega
          refine sd_keep 11 rfl (sd_keep 12 rfl ?_)
          refine sd_setLc 1 (own := [("_law_row", 7)]) (l := a.n.regs) (g := regD) (f := fun r : Reg => regD ⟨r.nm, r.st, litN (newT nl a.n.fand a.n.ands.length) r.nx⟩) rfl nd rfl rfl (blkOk_by (N := N_law_closed_up) (sc := defScope S_law_closed_up) (by decide +kernel)) (piw_L (px_v 1)) (by omega) (fun x _ s H C cl fp => gd_n 7 nd)
            (fun x m s H C cl fp => px_tup (pxs_cons (px_ixT (px_v 7) px_int rfl) (pxs_cons (px_ixT (px_v 7) px_int rfl) (pxs_cons (px_lit L (px_v 11) (px_ixT (px_v 7) px_int rfl) (bd _ (ok.rl x m).2)) pxs_nil)))) ?_
          refine sd_setLc 3 (own := [("_law_row", 7)]) (l := a.n.outs) (g := outD) (f := fun r : Out => outD ⟨r.nm, litN (newT nl a.n.fand a.n.ands.length) r.li⟩) rfl nd rfl rfl (blkOk_by (N := N_law_closed_up) (sc := defScope S_law_closed_up) (by decide +kernel)) (piw_L (px_v 3)) (by omega) (fun x _ s H C cl fp => gd_n 7 nd)
            (fun x m s H C cl fp => px_tup (pxs_cons (px_ixT (px_v 7) px_int rfl) (pxs_cons (px_lit L (px_v 11) (px_ixT (px_v 7) px_int rfl) (bd _ (ok.ol x m))) pxs_nil))) ?_
          refine sd_setLc 4 (own := [("_law_row", 7)]) (l := a.n.clms) (g := outD) (f := fun r : Out => outD ⟨r.nm, litN (newT nl a.n.fand a.n.ands.length) r.li⟩) rfl nd rfl rfl (blkOk_by (N := N_law_closed_up) (sc := defScope S_law_closed_up) (by decide +kernel)) (piw_L (px_v 4)) (by omega) (fun x _ s H C cl fp => gd_n 7 nd)
            (fun x m s H C cl fp => px_tup (pxs_cons (px_ixT (px_v 7) px_int rfl) (pxs_cons (px_lit L (px_v 11) (px_ixT (px_v 7) px_int rfl) (bd _ (ok.cl x m))) pxs_nil))) ?_
          refine sd_retD (px_tup (pxs_cons px_str (pxs_cons (px_tupT rfl B.tuple b_tuple (px_v 0)) (pxs_cons (px_tupL rfl B.tuple b_tuple (px_v 1)) (pxs_cons (px_tupL rfl B.tuple b_tuple (px_v 12)) (pxs_cons (px_tupL rfl B.tuple b_tuple (px_v 3)) (pxs_cons (px_tupL rfl B.tuple b_tuple (px_v 4)) pxs_nil))))))) ⟨cloN a.n nl kept, cloN_var ok ne lk ka, ?_⟩
          unfold netD cloN
          simp only [List.map_map]
          rfl
end
end Bf
set_option Elab.async false
set_option linter.all false
set_option maxRecDepth 100000
set_option maxHeartbeats 4000000
namespace Bf
open PySem PySem.Spec PyProof.Rows L2
/-- what stands while a net is tidied -/
structure TiI (f i : Nat) (news : List Nat) (ps : List (Nat × Nat)) (kvs : List (List Key × V)) : Prop where
  len : news.length = f + i
  nv : ∀ v ∈ news, v < 2 * (f + ps.length)
  pl : ps.length ≤ i
  pa : ∀ (j : Nat) (p : Nat × Nat), ps[j]? = some p → p.1 < 2 * (f + j) ∧ p.2 < 2 * (f + j)
  kl : kvs.length ≤ i
  kv : ∀ k v, valV kvs k = some v → ∃ x : Nat, v = .int (x : Int) ∧ x < 2 * (f + ps.length)
theorem TiI.lit {f i : Nat} {news : List Nat} {ps : List (Nat × Nat)} {kvs : List (List Key × V)} (h : TiI f i news ps kvs) {l : Nat} (hl : l < 2 * (f + i)) : l / 2 < news.length ∧ litN news l < 2 * (f + ps.length) := by
  have lt : l / 2 < news.length := by
    rw [h.len]
    omega
  exact ⟨lt, litN_lt (fun v e => h.nv v (List.mem_of_getElem? e)) lt⟩
theorem TiI.push {f i v : Nat} {news : List Nat} {ps : List (Nat × Nat)} {kvs : List (List Key × V)} (h : TiI f i news ps kvs) (hv : v < 2 * (f + ps.length)) : TiI f (i + 1) (news ++ [v]) ps kvs :=
  ⟨by rw [List.length_append, h.len]; rfl, fun x m => (List.mem_append.mp m).elim (h.nv x) fun m => by rw [List.mem_singleton.mp m]; exact hv, Nat.le_succ_of_le h.pl, h.pa, Nat.le_succ_of_le h.kl, h.kv⟩
theorem TiI.new {f i : Nat} {news : List Nat} {ps : List (Nat × Nat)} {kvs : List (List Key × V)} {p : Nat × Nat} (h : TiI f i news ps kvs) (hp : p.1 < 2 * (f + ps.length) ∧ p.2 < 2 * (f + ps.length)) (k : List Key) :
    TiI f (i + 1) (news ++ [2 * (f + ps.length)]) (ps ++ [p]) (putK kvs k (.int ((2 * (f + ps.length) : Nat) : Int))) := by
  have l1 : (ps ++ [p]).length = ps.length + 1 := by rw [List.length_append]; rfl
  refine ⟨by rw [List.length_append, h.len]; rfl, fun x m => ?_, by rw [l1]; have := h.pl; omega, fun j q e => ?_, ?_, fun k' v e => ?_⟩
  · rw [l1]
    rcases List.mem_append.mp m with m | m
    · have := h.nv x m
      omega
    · rw [List.mem_singleton.mp m]
      omega
  · by_cases lt : j < ps.length
    · rw [List.getElem?_append_left lt] at e
      exact h.pa j q e
    · rw [List.getElem?_append_right (by omega)] at e
      have ej : j = ps.length := by
        have := (List.getElem?_eq_some_iff.mp e).1
        rw [List.length_singleton] at this
        omega
      subst ej
      rw [Nat.sub_self] at e
      have : p = q := Option.some.inj e
      subst this
      exact hp
  · have := length_putK kvs k (.int ((2 * (f + ps.length) : Nat) : Int))
    have := h.kl
    omega
  · rw [l1]
    rw [valV_put] at e
    split at e
    · exact ⟨_, (Option.some.inj e).symm, by omega⟩
    · obtain ⟨x, h1, h2⟩ := h.kv k' v e
      exact ⟨x, h1, by omega⟩
def tidN (n : Net) (news : List Nat) (ps : List (Nat × Nat)) : Net :=
  ⟨n.ins, n.regs.map fun r => ⟨r.nm, r.st, litN news r.nx⟩, ps, n.outs.map fun r => ⟨r.nm, litN news r.li⟩, n.clms.map fun r => ⟨r.nm, litN news r.li⟩⟩
theorem tidN_ok {n : Net} {u : Nat} {news : List Nat} {ps : List (Nat × Nat)} {kvs : List (List Key × V)} (h : n.Ok u) (t : TiI n.fand n.ands.length news ps kvs) : (tidN n news ps).Ok u := by
  have fa : (tidN n news ps).fand = n.fand := by
    unfold Net.fand tidN
    rw [List.length_map]
  have sz : (tidN n news ps).size = n.fand + ps.length := by
    unfold Net.size
    rw [fa]
    rfl
  have lit : ∀ l, l < 2 * n.size → litN news l < 2 * (n.fand + ps.length) := fun l hl => (t.lit hl).2
  have ha := h.ands
  have pl := t.pl
  refine ⟨h.ins, ?_, fun r m => ?_, ?_, ?_, fun r m => ?_, ?_, fun r m => ?_, fun r m => ?_, fun i p e => ?_, fun r m => ?_, fun r m => ?_⟩
  · show (n.regs.map _).length ≤ _
    rw [List.length_map]
    exact h.regs
  · obtain ⟨x, hx, rfl⟩ := List.mem_map.mp m
    exact h.rnm x hx
  · show ps.length ≤ _
    omega
  · show 1 ≤ (n.outs.map _).length ∧ (n.outs.map _).length ≤ _
    rw [List.length_map]
    exact h.outs
  · obtain ⟨x, hx, rfl⟩ := List.mem_map.mp m
    exact h.onm x hx
  · show (n.clms.map _).length ≤ _
    rw [List.length_map]
    exact h.clms
  · obtain ⟨x, hx, rfl⟩ := List.mem_map.mp m
    exact h.cnm x hx
  · obtain ⟨x, hx, rfl⟩ := List.mem_map.mp m
    rw [sz]
    exact ⟨(h.rl x hx).1, lit _ (h.rl x hx).2⟩
  · rw [fa]
    exact t.pa i p e
  · obtain ⟨x, hx, rfl⟩ := List.mem_map.mp m
    rw [sz]
    exact lit _ (h.ol x hx)
  · obtain ⟨x, hx, rfl⟩ := List.mem_map.mp m
    rw [sz]
    exact lit _ (h.cl x hx)
section
variable {P : Program} {w : World} {K : PySem.W.Frag} {mg : Str → Option Value} {base : Heap}
abbrev spTid : Sp := spP (ι := NetA) (fun a => [netD a.n]) (fun a => a.n.Ok a.u ∧ a.u ≤ 100) (fun a y => ∃ m, Var a.n a.u a.n.regs.length m ∧ y = netD m)
set_option maxHeartbeats 40000000 in
theorem ok_tidied (F : Has K mg "_law_tidied" S_law_tidied) (B : Blt mg) (L : Lits P w K mg base) (Cl : Cal P w K mg base 2 "_law_closed_up" P_law_closed_up spClo) : Cal P w K mg base 3 "_law_tidied" P_law_tidied spTid :=
  fnP F sc_law_tidied (fun _ => rfl) (fun _ _ _ _ _ _ us hl => match us, hl with | [_], _ => rfl) fun f cdv A outer s H E hr a hp => by
    have nd := sc_law_tidied.nd
    obtain ⟨ok, hu⟩ := hp
    have sz := ok.sz
    have b1 := ok.regs
    have b2 := ok.ands
    have b3 := ok.outs
    have b4 := ok.clms
    have fl := Net.fand_le a.n
    have sd : a.n.size = a.n.fand + a.n.ands.length := rfl
    have hun : (cxOf CX0 P w K mg base N_law_tidied "_law_tidied" (defScope S_law_tidied) f cdv A outer s H E).nox.A.units + 64 < cLine := hr.units
    refine sd_set 1 nd (px_eq (pn_add (pn_add pn_1 (pn_lenT rfl B.len b_len (px_ixT (px_v 0) px_int rfl))) (pn_lenT rfl B.len b_len (px_ixT (px_v 0) px_int rfl))) (y := nD a.n.fand) (by rw [List.length_map, List.length_map]; rfl)) ?_
    refine sd_new 3 nd (pf_lc (own := [("_law_node", 2)]) (l := List.range a.n.fand) (g := nD) (f := fun i => nD (2 * i)) rfl nd (blkOk_by (N := N_law_tidied) (sc := defScope S_law_tidied) (by decide +kernel)) (pw_r rfl B.range (px_v 1) rfl (by omega)) (by rw [List.length_range]; omega) (fun x _ s H C cl fp => gd_n 2 nd) (fun x _ s H C cl fp => pn_mul2 (px_v 2))) ?_
    rw [show (List.range a.n.fand).map (fun i => nD (2 * i)) = ((List.range a.n.fand).map (2 * ·)).map nD by rw [List.map_map]; rfl]
    refine sd_new 4 nd (pf_lst pxs_nil) (sd_dictT 5 nd ?_)
    refine sd_for (l := a.n.ands) (g := andD) (fun i ρ => ∃ news ps kvs, TiI a.n.fand i news ps kvs ∧ ρ = [some (.d (netD a.n)), some (.d (nD a.n.fand)), none, some (.o true (oL (news.map nD))), some (.o true (oL (ps.map andD))), some (.o true (oT kvs)), none, none, none, none, none, none, none, none]) (fun _ _ => False)
      rfl PassesOwn.never (piw_T (px_ixT (px_v 0) px_int rfl)) ⟨(List.range a.n.fand).map (2 * ·), [], [], ⟨by rw [List.length_map, List.length_range]; rfl, fun v m => by
        obtain ⟨j, hj, rfl⟩ := List.mem_map.mp m
        have := List.mem_range.mp hj
        show 2 * j < 2 * (a.n.fand + 0)
        omega, Nat.le_refl _, fun j p e => by simp at e, Nat.le_refl _, fun k v e => by rw [valV_nil] at e; cases e⟩, rfl⟩ (fun i q ρ' hb ⟨news, ps, kvs, t, e⟩ => ?_) (fun ρ' ⟨news, ps, kvs, t, e⟩ => ?_) (fun _ _ z => z.elim)
    · subst e
      have hi := (List.getElem?_eq_some_iff.mp hb).1
      have al := ok.al i q hb
      have l1 := t.lit al.1
      have l2 := t.lit al.2
      have pl := t.pl
      refine ⟨[6, 7], _, gd_t rfl (gds_cons (gd_n 6 nd) (gds_cons (gd_n 7 nd) gds_nil)), ?_⟩
      generalize hx : litN news q.1 = x at l1
      generalize hy : litN news q.2 = y at l2
      refine sd_asg (px_eq (px_sorted2 (i := (x : Int)) (j := (y : Int)) rfl B.sorted (px_lst (pxs_cons (px_eq (px_lit L (px_b 3) (px_v 6) l1.1) (by rw [hx])) (pxs_cons (px_eq (px_lit L (px_b 3) (px_v 7) l2.1) (by rw [hy])) pxs_nil)))) (y := .list [nD (min x y), nD (max x y)]) (by show PyData.list _ = PyData.list _; rw [show min (x : Int) (y : Int) = ((min x y : Nat) : Int) by omega, show max (x : Int) (y : Int) = ((max x y : Nat) : Int) by omega])) (gd_l rfl (gds_cons (gd_n 8 nd) (gds_cons (gd_n 9 nd) gds_nil))) ?_
      generalize hlo : min x y = lo
      generalize hhi : max x y = hi'
      have blo : lo < 2 * (a.n.fand + ps.length) := by omega
      have bhi : hi' < 2 * (a.n.fand + ps.length) := by omega
      have fin : ∀ v ps' kvs' (o : List (Option SV)), TiI a.n.fand (i + 1) (news ++ [v]) ps' kvs' → True := fun _ _ _ _ _ => True.intro
      refine sd_if (fun ρ' => ∃ news ps kvs, TiI a.n.fand (i + 1) news ps kvs ∧ ρ' = [some (.d (netD a.n)), some (.d (nD a.n.fand)), none, some (.o true (oL (news.map nD))), some (.o true (oL (ps.map andD))), some (.o true (oT kvs)), some (.d (nD q.1)), some (.d (nD q.2)), some (.d (nD lo)), some (.d (nD hi')), none, none, none, none])
        (pt_w (pw_o (pt_eqI (px_v 8) px_int) (fun _ => pw_o1 (pt_eqI (i := ((lo ^^^ 1 : Nat) : Int)) (pn_xor (px_v 8) pn_1) (px_v 9))))) (fun h => ?_) (fun h => ?_) (fun ρ' ⟨news, ps, kvs, t, e⟩ => by subst e; exact sd_end [6, 7, 8, 9] ⟨news, ps, kvs, t, rfl⟩)
      · refine sd_app 3 (x := nD 0) rfl px_int (by rw [List.length_map, t.len]; omega) (sd_nil ⟨news ++ [0], ps, kvs, t.push (by unfold Net.fand; omega), ?_⟩)
        rw [List.map_append]
        rfl
      · refine sd_if (fun ρ' => ∃ news ps kvs, TiI a.n.fand (i + 1) news ps kvs ∧ ρ' = [some (.d (netD a.n)), some (.d (nD a.n.fand)), none, some (.o true (oL (news.map nD))), some (.o true (oL (ps.map andD))), some (.o true (oT kvs)), some (.d (nD q.1)), some (.d (nD q.2)), some (.d (nD lo)), some (.d (nD hi')), none, none, none, none])
          (pt_w (pw_o (pt_eqI (px_v 8) px_int) (fun _ => pw_o1 (pt_eqI (px_v 8) (px_v 9))))) (fun h => ?_) (fun h => ?_) (fun ρ' h => sd_nil h)
        · refine sd_app 3 (x := nD hi') rfl (px_v 9) (by rw [List.length_map, t.len]; omega) (sd_nil ⟨news ++ [hi'], ps, kvs, t.push bhi, ?_⟩)
          rw [List.map_append]
          rfl
        · refine sd_if (fun ρ' => ∃ (v : Nat) (ps' : List (Nat × Nat)) (kvs' : List (List Key × V)), TiI a.n.fand (i + 1) (news ++ [v]) ps' kvs' ∧ valV kvs' (key2 lo hi') = some (.int (v : Int)) ∧ ρ' = [some (.d (netD a.n)), some (.d (nD a.n.fand)), none, some (.o true (oL (news.map nD))), some (.o true (oL (ps'.map andD))), some (.o true (oT kvs')), some (.d (nD q.1)), some (.d (nD q.2)), some (.d (nD lo)), some (.d (nD hi')), none, none, none, none])
            (pt_notinT 5 hun rfl (px_tup (pxs_cons (px_v 8) (pxs_cons (px_v 9) pxs_nil)))) (fun h => ?_) (fun h => ?_) (fun ρ' ⟨v, ps', kvs', t', hv, e⟩ => ?_)
          · refine sd_putT 5 (n := 2 * (a.n.fand + ps.length)) hun rfl (pn_mul2 (px_eq (pn_add (px_v 1) (px_lenL rfl B.len b_len (px_b 4))) (by rw [List.length_map]))) (px_tup (pxs_cons (px_v 8) (pxs_cons (px_v 9) pxs_nil))) (by have := t.kl; omega) ?_
            refine sd_app 4 (x := andD (lo, hi')) rfl (px_tup (pxs_cons (px_v 8) (pxs_cons (px_v 9) pxs_nil))) (by rw [List.length_map]; omega) (sd_nil ⟨2 * (a.n.fand + ps.length), ps ++ [(lo, hi')], _, t.new (p := (lo, hi')) ⟨blo, bhi⟩ (key2 lo hi'), ?_, ?_⟩)
            · rw [valV_put, if_pos rfl]
            · rw [List.map_append]
              rfl
          · cases hvv : valV kvs (key2 lo hi') with
            | none =>
              rw [hvv] at h
              cases h
            | some v =>
              obtain ⟨x', rfl, hx'⟩ := t.kv _ _ hvv
              exact sd_nil ⟨x', ps, kvs, t.push hx', hvv, rfl⟩
          · subst e
            refine sd_app 3 (x := nD v) rfl (px_getT 5 hun rfl (px_tup (pxs_cons (px_v 8) (pxs_cons (px_v 9) pxs_nil))) hv) (by rw [List.length_map, t.len]; omega) (sd_nil ⟨news ++ [v], ps', kvs', t', ?_⟩)
            rw [List.map_append]
            rfl
    · subst e
      have lt : ∀ l, l < 2 * a.n.size → l / 2 < news.length := fun l hl => (t.lit hl).1
      refine sd_keep 3 rfl (sd_keep 4 rfl ?_)
      refine sd_setLc 11 (own := [("_law_row", 10)]) (l := a.n.regs) (g := regD) (f := fun r : Reg => regD ⟨r.nm, r.st, litN news r.nx⟩) rfl nd rfl rfl (blkOk_by (N := N_law_tidied) (sc := defScope S_law_tidied) (by decide +kernel)) (piw_T (px_ixT (px_v 0) px_int rfl)) (by omega) (fun x _ s H C cl fp => gd_n 10 nd)
        (fun x m s H C cl fp => px_tup (pxs_cons (px_ixT (px_v 10) px_int rfl) (pxs_cons (px_ixT (px_v 10) px_int rfl) (pxs_cons (px_lit L (px_v 3) (px_ixT (px_v 10) px_int rfl) (lt _ (ok.rl x m).2)) pxs_nil)))) ?_
      refine sd_setLc 12 (own := [("_law_row", 10)]) (l := a.n.outs) (g := outD) (f := fun r : Out => outD ⟨r.nm, litN news r.li⟩) rfl nd rfl rfl (blkOk_by (N := N_law_tidied) (sc := defScope S_law_tidied) (by decide +kernel)) (piw_T (px_ixT (px_v 0) px_int rfl)) (by omega) (fun x _ s H C cl fp => gd_n 10 nd)
        (fun x m s H C cl fp => px_tup (pxs_cons (px_ixT (px_v 10) px_int rfl) (pxs_cons (px_lit L (px_v 3) (px_ixT (px_v 10) px_int rfl) (lt _ (ok.ol x m))) pxs_nil))) ?_
      refine sd_setLc 13 (own := [("_law_row", 10)]) (l := a.n.clms) (g := outD) (f := fun r : Out => outD ⟨r.nm, litN news r.li⟩) rfl nd rfl rfl (blkOk_by (N := N_law_tidied) (sc := defScope S_law_tidied) (by decide +kernel)) (piw_T (px_ixT (px_v 0) px_int rfl)) (by omega) (fun x _ s H C cl fp => gd_n 10 nd)
        (fun x m s H C cl fp => px_tup (pxs_cons (px_ixT (px_v 10) px_int rfl) (pxs_cons (px_lit L (px_v 3) (px_ixT (px_v 10) px_int rfl) (lt _ (ok.cl x m))) pxs_nil))) ?_
      refine sd_ret (px_callN Cl ⟨tidN a.n news ps, a.u⟩ ⟨tidN_ok ok t, hu⟩ (pxs_eq (pxs_cons (px_ixT (px_v 0) px_int rfl) (pxs_cons (px_v 11) (pxs_cons (px_v 4) (pxs_cons (px_v 12) (pxs_cons (px_v 13) pxs_nil))))) ?_)) fun y ⟨m, v, e⟩ => ⟨m, ⟨v.ok, v.ins, by rw [v.regs]; exact List.length_map _⟩, e⟩
      unfold tidN
      simp only [List.map_map]
      rfl
end
end Bf
set_option Elab.async false
set_option linter.all false
set_option maxRecDepth 100000
set_option maxHeartbeats 4000000
namespace Bf
open PySem PySem.Spec PyProof.Rows L2
theorem erase_map {α β : Type} (f : α → β) : ∀ (l : List α) (i : Nat), (l.map f).eraseIdx i = (l.eraseIdx i).map f
  | [], _ => rfl
  | _ :: _, 0 => rfl
  | x :: l, i + 1 => by
    show f x :: (l.map f).eraseIdx i = _
    rw [erase_map f l i]
    rfl
theorem le2 : 2 ≤ 1000000 := by decide
theorem le3 : 3 ≤ 1000000 := by decide
theorem off1 {ρ : Rho} {k : Nat} {x : Option SV} : ∀ j, j ∉ [k] → (ρ.set k x)[j]? = ρ[j]? := fun j n => set_other fun z => n (by rw [z]; exact List.mem_singleton.mpr rfl)
abbrev Dlits (P : Program) (w : World) (K : PySem.W.Frag) (mg : Str → Option Value) (base : Heap) : Prop := Cal P w K mg base 2 "_law_drawn_literal" P_law_drawn_literal spDlit
abbrev Pops (P : Program) (w : World) (K : PySem.W.Frag) (mg : Str → Option Value) (base : Heap) : Prop := Cal P w K mg base 2 "_law_pop" P_law_pop spPop
section
variable {X : Cx} {ρ : Rho} {es : List Expr} {a b e : Expr} {k n : Nat} {x : Str} {ps : List Str} {pos p p1 p2 : Pos} {P : PyData → Rho → Prop} {l l1 : Bool} {ds : List PyData}
theorem pm_dlit (G : Dlits X.prog X.w X.K X.mg X.base) (k : Nat) {nm : Str} {m : Nat} (he : PX X ρ true e (nD m)) (hp : drawPre m) (w : ∀ r : Nat, r < 2 * m → P (nD r) ρ) (hk : ρ[k]? = some (some (.o l oR)) := by rfl)
    (hr : Room 2 X.A := by first | assumption | exact Room.mono (by assumption) (by decide)) (hg : Gl X "_law_drawn_literal" := by rfl) (hN : X.N[k]? = some nm := by rfl) (hv : Vis X.env.scope nm := by first | exact Or.inl rfl | exact Or.inr (Or.inl rfl) | exact Or.inr (Or.inr rfl)) (hd : (nm == ("__debug__" : Str)) = false := by decide)
    (hcd : (nm == ("__classdict__" : Str)) = false := by decide) (hs : starEach [.Name nm p1, e] X.env = (false, eval (.Name nm p1) X.env) :: starEach [e] X.env := by rfl) (hs2 : starEach [e] X.env = (false, eval e X.env) :: starEach [] X.env := by rfl)
    (hpl : (backTo pos (starEach [e] X.env)).any (·.1) = false := by rfl) : PM X ρ (.Call (.Name "_law_drawn_literal" p) [.Name nm p1, e] [] pos) P :=
  pm_callR G k hk (pms_cons (pm_x he (pms_nil ⟨hk, m, rfl, hp, fun y ⟨r, h1, h2⟩ => by rw [h2]; exact w r h1⟩)) hs2) hr hg hN hv hd hcd hs (by decide) hpl
theorem upd_2 {ρ : Rho} {k1 k2 : Nat} {l1 l : Bool} {p q : OP} (h1 : ρ[k1]? = some (some (.o l1 oR))) (h2 : ρ[k2]? = some (some (.o l p))) (n : k1 ≠ k2) : updR ρ [.s k1, .s k2] [.o false oR, .o false q] = ρ.set k2 (some (.o l q)) := by
  show (match ρ[k1]? with
    | some (some (.o l _)) => (updR ρ [.s k2] [.o false q]).set k1 (some (.o l oR))
    | _ => updR ρ [.s k2] [.o false q]) = _
  rw [h1]
  show (updR ρ [.s k2] [.o false q]).set k1 (some (.o l1 oR)) = _
  have e : updR ρ [.s k2] [.o false q] = ρ.set k2 (some (.o l q)) := by
    show (match ρ[k2]? with
      | some (some (.o l _)) => (updR ρ [] []).set k2 (some (.o l q))
      | _ => updR ρ [] []) = _
    rw [h2]
    rfl
  rw [e]
  exact set_id (by rw [set_other n.symm]; exact h1)
theorem pm_popN (G : Pops X.prog X.w X.K X.mg X.base) (k1 k2 : Nat) {nm nm2 : Str} {zs : List Str} (hp : drawPre zs.length) (w : ∀ (z : Str) (zs' : List Str), z ∈ zs → zs'.length + 1 = zs.length → (∀ x ∈ zs', x ∈ zs) → P (.str z) (ρ.set k2 (some (.o l (oL (zs'.map .str)))))) (hk1 : ρ[k1]? = some (some (.o l1 oR)) := by rfl) (hk2 : ρ[k2]? = some (some (.o l (oL (zs.map .str)))) := by rfl) (n : k1 ≠ k2 := by decide)
    (hr : Room 2 X.A := by first | assumption | exact Room.mono (by assumption) (by decide)) (hg : Gl X "_law_pop" := by rfl) (hN : X.N[k1]? = some nm := by rfl) (hv : Vis X.env.scope nm := by first | exact Or.inl rfl | exact Or.inr (Or.inl rfl) | exact Or.inr (Or.inr rfl)) (hd : (nm == ("__debug__" : Str)) = false := by decide)
    (hcd : (nm == ("__classdict__" : Str)) = false := by decide) (hN2 : X.N[k2]? = some nm2 := by rfl) (hv2 : Vis X.env.scope nm2 := by first | exact Or.inl rfl | exact Or.inr (Or.inl rfl) | exact Or.inr (Or.inr rfl)) (hd2 : (nm2 == ("__debug__" : Str)) = false := by decide)
    (hcd2 : (nm2 == ("__classdict__" : Str)) = false := by decide) (hs : starEach [.Name nm p1, .Name nm2 p2] X.env = (false, eval (.Name nm p1) X.env) :: starEach [.Name nm2 p2] X.env := by rfl) (hs2 : starEach [.Name nm2 p2] X.env = (false, eval (.Name nm2 p2) X.env) :: starEach [] X.env := by rfl)
    (hpl : (backTo pos (starEach [.Name nm2 p2] X.env)).any (·.1) = false := by rfl) : PM X ρ (.Call (.Name "_law_pop" p) [.Name nm p1, .Name nm2 p2] [] pos) P :=
  pm_call G (pms_s k1 hk1 (pms_s k2 hk2 (pms_nil ⟨zs.map .str, ⟨rfl, ⟨l1, hk1⟩, (fun m => n (List.mem_singleton.mp m)), rfl, ⟨l, hk2⟩, List.not_mem_nil, True.intro⟩, by rw [List.length_map]; exact hp, fun y sv ⟨i, h1, h2⟩ => by
    subst h2
    rw [upd_2 hk1 hk2 n, erase_map]
    rw [List.getElem?_map] at h1
    cases e : zs[i]? with
    | none =>
      rw [e] at h1
      cases h1
    | some z =>
      rw [e] at h1
      have ey : PyData.str z = y := Option.some.inj h1
      subst ey
      have lt := (List.getElem?_eq_some_iff.mp e).1
      exact w z _ (List.mem_of_getElem? e) (by rw [List.length_eraseIdx, if_pos lt]; omega) fun x m => List.mem_of_mem_eraseIdx m⟩) hN2 hv2 hd2 hcd2 hs2) hN hv hd hcd hs) hr hg (by decide) hs hpl
/-- tuple(e), e a list -/
theorem pm_tupL (hg : Gl X "tuple") (hm : X.mg "tuple" = none) (ha : PM X ρ a (fun y ρ1 => ∃ ds, y = .list ds ∧ P (.tuple ds) ρ1)) (he : starEach [a] X.env = (false, eval a X.env) :: starEach [] X.env := by rfl) (hpl : (backTo pos (starEach [] X.env)).any (·.1) = false := by rfl) :
    PM X ρ (.Call (.Name "tuple" p) [a] [] pos) P := PEimp (pe_callTy call_tuple_of hg hm b_tuple (pa_cons ha pa_nil he) (by decide) (by decide) he hpl) fun σ H Q ⟨C, hh, q⟩ =>
  ⟨C, hh, fun y v ρ1 H1 ⟨ds, ey, w⟩ S h1 f1 g => by
    subst ey
    obtain ⟨pp, vs, rfl, g2, g3, g4⟩ := g
    exact ⟨pp, vs, rfl, .inl ⟨SqL.of g3, fun l hl => q _ _ ρ1 _ w S (h1.ex (Ex.new hl)) (f1.trans (Ex.new hl).fr) ⟨l, vs, rfl, fun m => h1.fresh hl ((S.all _).mpr m), upd_same, IsAll.ex (Ex.new hl) g4⟩⟩⟩⟩
/-- x = f(), a new list -/
theorem pf_call0 {ι : Type} {args : ι → List PyData} {pre : ι → Prop} {res : ι → List PyData → Prop} (G : Cal X.prog X.w X.K X.mg X.base k x ps (spF args pre res)) (i : ι) (hp : pre i) (ha : args i = []) (F : List PyData → Rho → Prop) (w : ∀ ds, res i ds → F ds ρ)
    (hr : Room k X.A := by first | assumption | exact Room.mono (by assumption) (by decide)) (hg : Gl X x := by rfl) (hdb : (x == ("__debug__" : Str)) = false := by decide) : PMF X ρ (.Call (.Name x p) [] [] pos) F := by
  obtain ⟨f, fd, hm, G, hk, hb⟩ := G.ex
  refine PEimp (pe_call0 G hr hg hm hk hb .nil pass0 hdb) fun σ H Q ⟨C, hh, q⟩ => ?_
  show spF args pre res [] H Q E0
  refine ⟨All C ρ σ, i, fun a m => hh.allIn m, by rw [ha]; exact True.intro, hp, fun ds' p us H2 r n e2 hv iv => ?_⟩
  exact q ds' p us ρ H2 (w ds' r) (Sames.refl ρ) (hh.addM n e2 (ne_none hv)) n e2.fr hv iv
end
structure NetP where
  i : Nat
  r : Nat
  a : Nat
  o : Nat
  c : Nat
def NetP.pre (p : NetP) : Prop := p.i ≤ 8 ∧ p.r ≤ 8 ∧ p.a ≤ 12 ∧ 1 ≤ p.o ∧ p.o ≤ 2 ∧ p.c ≤ 2
/-- a net of these sizes -/
structure NetS (p : NetP) (m : Net) : Prop where
  ok : m.Ok 0
  i : m.ins.length = p.i
  r : m.regs.length = p.r
  o : m.outs.length = p.o
  c : m.clms.length = p.c
abbrev Short (zs : List Str) : Prop := ∀ z ∈ zs, z.length ≤ 8
abbrev spNet : Sp := spR (ι := NetP) (fun p => [nD p.i, nD p.r, nD p.a, nD p.o, nD p.c]) NetP.pre (fun p y => ∃ m, NetS p m ∧ y = netD m)
section
variable {P : Program} {w : World} {K : PySem.W.Frag} {mg : Str → Option Value} {base : Heap}
set_option maxHeartbeats 40000000 in
theorem ok_net (F : Has K mg "_law_net" S_law_net) (B : Blt mg) (D : Draws P w K mg base) (Dl : Dlits P w K mg base) (Po : Pops P w K mg base) (Pl : Cal P w K mg base 1 "_law_pool" P_law_pool spPool) : Cal P w K mg base 3 "_law_net" P_law_net spNet :=
  fnR F sc_law_net (fun _ => rfl) (fun _ _ _ _ _ _ us hl => match us, hl with | [_, _, _, _, _, _], _ => rfl) fun f cdv A outer s H E hr q hp => by
    have nd := sc_law_net.nd
    obtain ⟨p1, p2, p3, p4, p5, p6⟩ := hp
    refine sd_newM 6 nd (pf_call0 Pl () True.intro rfl _ fun ds ⟨zs, e, z1, z2, z3⟩ => ?_)
    subst e
    refine sd_set 7 nd (px_eq (pn_add (pn_add pn_1 (px_v 1)) (px_v 2)) (y := nD (1 + q.i + q.r)) rfl) ?_
    refine sd_newLcM 9 (own := [("_law_k", 8)]) (l := List.range q.a) (g := nD) rfl nd rfl rfl (blkOk_by (N := N_law_net) (sc := defScope S_law_net) (by decide +kernel))
      (fun i ys ρ => ∃ ps : List (Nat × Nat), ys = ps.map andD ∧ (∀ (j : Nat) (p : Nat × Nat), ps[j]? = some p → p.1 < 2 * (1 + q.i + q.r + j) ∧ p.2 < 2 * (1 + q.i + q.r + j)) ∧
        ρ = [some (.o false oR), some (.d (nD q.i)), some (.d (nD q.r)), some (.d (nD q.a)), some (.d (nD q.o)), some (.d (nD q.c)), some (.o true (oL (zs.map .str))), some (.d (nD (1 + q.i + q.r))), none, none, none, none, none, none, none])
      (pw_r rfl B.range (px_v 3) rfl (by omega)) (by rw [List.length_range]; omega) ⟨[], rfl, fun j p e => by simp at e, rfl⟩ (fun i b ys ρ' hb ly ⟨ps, ey, hps, e⟩ => ?_) (fun ys ρ' ly ⟨ps, ey, hps, e⟩ => ?_)
    · subst e ey
      obtain ⟨rfl, hi⟩ := range_at hb
      refine ⟨[8], _, rfl, off1, fun s H C cl fp => gd_n 8 nd, fun s H C cl fp => ?_⟩
      refine pm_tup (pms_cons (pm_dlit Dl 0 (pn_add (px_v 7) (px_v 8)) ⟨by omega, by omega⟩ fun r h1 => pms_cons (pm_dlit Dl 0 (pn_add (px_v 7) (px_v 8)) ⟨by omega, by omega⟩ fun r2 h2 => pms_nil ⟨[nD r, nD r2], rfl, le2, ps ++ [(r, r2)], by rw [List.map_append]; rfl, fun j p e => ?_, rfl⟩)))
      rw [List.length_map] at ly
      by_cases lt : j < ps.length
      · rw [List.getElem?_append_left lt] at e
        exact hps j p e
      · rw [List.getElem?_append_right (by omega)] at e
        have ej : j = ps.length := by
          have := (List.getElem?_eq_some_iff.mp e).1
          rw [List.length_singleton] at this
          omega
        rw [ej, Nat.sub_self] at e
        have : (r, r2) = p := Option.some.inj e
        subst this
        rw [ej, ly]
        exact ⟨h1, h2⟩
    subst e ey
    rw [List.length_map, List.length_range] at ly
    have lpair := ly
    clear ly
    refine sd_keep 9 rfl ?_
    refine sd_set 10 nd (px_eq (pn_add (px_v 7) (px_v 3)) (y := nD (1 + q.i + q.r + q.a)) rfl) ?_
    -- the inputs' names
    refine sd_setM 11 nd (pm_tupL rfl B.tuple (pm_F (P := fun y ρ1 => ∃ ds, y = .list ds ∧ _) (pmf_lc (own := [("_law_k", 8)]) (l := List.range q.i) (g := nD) rfl nd (blkOk_by (N := N_law_net) (sc := defScope S_law_net) (by decide +kernel))
      (fun i ys ρ => ∃ ns zs : List Str, ys = ns.map .str ∧ 20 ≤ zs.length + i ∧ zs.length ≤ 1000 ∧ Short zs ∧
        ρ = [some (.o false oR), some (.d (nD q.i)), some (.d (nD q.r)), some (.d (nD q.a)), some (.d (nD q.o)), some (.d (nD q.c)), some (.o true (oL (zs.map .str))), some (.d (nD (1 + q.i + q.r))), none, some (.d (.list (ps.map andD))), some (.d (nD (1 + q.i + q.r + q.a))), none, none, none, none])
      (pw_r rfl B.range (px_v 1) rfl (by omega)) (by rw [List.length_range]; omega) ⟨[], zs, rfl, by omega, z2, z3, rfl⟩ (fun i b ys ρ' hb ly ⟨ns, zs, ey, g1, g2, g3, e⟩ => ?_) (F := fun ys ρ' => ∃ ns zs : List Str, ys = ns.map .str ∧ ns.length = q.i ∧ 20 ≤ zs.length + q.i ∧ zs.length ≤ 1000 ∧ Short zs ∧
        ρ' = [some (.o false oR), some (.d (nD q.i)), some (.d (nD q.r)), some (.d (nD q.a)), some (.d (nD q.o)), some (.d (nD q.c)), some (.o true (oL (zs.map .str))), some (.d (nD (1 + q.i + q.r))), none, some (.d (.list (ps.map andD))), some (.d (nD (1 + q.i + q.r + q.a))), none, none, none, none])
      (fun ys ρ' ly ⟨ns, zs, ey, g1, g2, g3, e⟩ => by subst ey; rw [List.length_map, List.length_range] at ly; rw [List.length_range] at g1; exact ⟨ns, zs, rfl, ly, g1, g2, g3, e⟩)) (fun ys ρ' ⟨ns, zs, ey, ln, g1, g2, g3, e⟩ => ⟨ys, rfl, ?_⟩)))
    · subst e ey
      obtain ⟨rfl, hi⟩ := range_at hb
      refine ⟨[8], _, rfl, off1, fun s H C cl fp => gd_n 8 nd, fun s H C cl fp => ?_⟩
      exact pm_popN Po 0 6 ⟨by omega, by omega⟩ fun z zs' h1 h2 h3 => ⟨ns ++ [z], zs', by rw [List.map_append]; rfl, by omega, by omega, fun x m => g3 x (h3 x m), rfl⟩
    · subst e ey
      refine sd_newLcM 12 (own := [("_law_k", 8)]) (l := List.range q.r) (g := nD) rfl nd rfl rfl (blkOk_by (N := N_law_net) (sc := defScope S_law_net) (by decide +kernel))
        (fun i ys ρ => ∃ (rs : List Reg) (zs : List Str), ys = rs.map regD ∧ (∀ r ∈ rs, r.nm.length ≤ 8 ∧ r.st < 2 ∧ r.nx < 2 * (1 + q.i + q.r + q.a)) ∧ 12 ≤ zs.length + i ∧ zs.length ≤ 1000 ∧ Short zs ∧
          ρ = [some (.o false oR), some (.d (nD q.i)), some (.d (nD q.r)), some (.d (nD q.a)), some (.d (nD q.o)), some (.d (nD q.c)), some (.o true (oL (zs.map .str))), some (.d (nD (1 + q.i + q.r))), none, some (.d (.list (ps.map andD))), some (.d (nD (1 + q.i + q.r + q.a))), some (.d (.tuple (ns.map .str))), none, none, none])
        (pw_r rfl B.range (px_v 2) rfl (by omega)) (by rw [List.length_range]; omega) ⟨[], zs, rfl, fun r m => by (cases m), by omega, g2, g3, rfl⟩ (fun i b ys ρ' hb ly ⟨rs, zs, ey, hrs, g1, g2, g3, e⟩ => ?_) (fun ys ρ' ly ⟨rs, zs, ey, hrs, g1, g2, g3, e⟩ => ?_)
      · subst e ey
        obtain ⟨rfl, hi⟩ := range_at hb
        refine ⟨[8], _, rfl, off1, fun s H C cl fp => gd_n 8 nd, fun s H C cl fp => ?_⟩
        exact pm_tup (pms_cons (pm_popN Po 0 6 ⟨by omega, by omega⟩ fun z zs' h1 h2 h3 => pms_cons (pm_draw D 0 pn_2 ⟨by decide, by decide⟩ fun r k1 => pms_cons (pm_dlit Dl 0 (px_v 10) ⟨by omega, by omega⟩ fun r2 k2 => pms_nil ⟨[.str z, nD r, nD r2], rfl, le3, rs ++ [⟨z, r, r2⟩], zs', by rw [List.map_append]; rfl, fun x m => (List.mem_append.mp m).elim (hrs x) fun m => by
          rw [List.mem_singleton.mp m]
          exact ⟨g3 z h1, k1, k2⟩, by omega, by omega, fun x m => g3 x (h3 x m), rfl⟩))))
      subst e ey
      rw [List.length_map, List.length_range] at ly
      rw [List.length_range] at g1
      refine sd_keep 12 rfl ?_
      refine sd_newLcM 13 (own := [("_law_k", 8)]) (l := List.range q.o) (g := nD) rfl nd rfl rfl (blkOk_by (N := N_law_net) (sc := defScope S_law_net) (by decide +kernel))
        (fun i ys ρ => ∃ (os : List Out) (zs : List Str), ys = os.map outD ∧ (∀ r ∈ os, r.nm.length ≤ 8 ∧ r.li < 2 * (1 + q.i + q.r + q.a)) ∧ 4 ≤ zs.length + i ∧ zs.length ≤ 1000 ∧ Short zs ∧
          ρ = [some (.o false oR), some (.d (nD q.i)), some (.d (nD q.r)), some (.d (nD q.a)), some (.d (nD q.o)), some (.d (nD q.c)), some (.o true (oL (zs.map .str))), some (.d (nD (1 + q.i + q.r))), none, some (.d (.list (ps.map andD))), some (.d (nD (1 + q.i + q.r + q.a))), some (.d (.tuple (ns.map .str))), some (.d (.list (rs.map regD))), none, none])
        (pw_r rfl B.range (px_v 4) rfl (by omega)) (by rw [List.length_range]; omega) ⟨[], zs, rfl, fun r m => by (cases m), by omega, g2, g3, rfl⟩ (fun i b ys ρ' hb ly2 ⟨os, zs, ey, hos, g1, g2, g3, e⟩ => ?_) (fun ys ρ' ly2 ⟨os, zs, ey, hos, g1, g2, g3, e⟩ => ?_)
      · subst e ey
        obtain ⟨rfl, hi⟩ := range_at hb
        refine ⟨[8], _, rfl, off1, fun s H C cl fp => gd_n 8 nd, fun s H C cl fp => ?_⟩
        exact pm_tup (pms_cons (pm_popN Po 0 6 ⟨by omega, by omega⟩ fun z zs' h1 h2 h3 => pms_cons (pm_dlit Dl 0 (px_v 10) ⟨by omega, by omega⟩ fun r2 k2 => pms_nil ⟨[.str z, nD r2], rfl, le2, os ++ [⟨z, r2⟩], zs', by rw [List.map_append]; rfl, fun x m => (List.mem_append.mp m).elim (hos x) fun m => by
          rw [List.mem_singleton.mp m]
          exact ⟨g3 z h1, k2⟩, by omega, by omega, fun x m => g3 x (h3 x m), rfl⟩)))
      subst e ey
      rw [List.length_map, List.length_range] at ly2
      rw [List.length_range] at g1
      refine sd_keep 13 rfl ?_
      refine sd_newLcM 14 (own := [("_law_k", 8)]) (l := List.range q.c) (g := nD) rfl nd rfl rfl (blkOk_by (N := N_law_net) (sc := defScope S_law_net) (by decide +kernel))
        (fun i ys ρ => ∃ (cs : List Out) (zs : List Str), ys = cs.map outD ∧ (∀ r ∈ cs, r.nm.length ≤ 8 ∧ r.li < 2 * (1 + q.i + q.r + q.a)) ∧ 2 ≤ zs.length + i ∧ zs.length ≤ 1000 ∧ Short zs ∧
          ρ = [some (.o false oR), some (.d (nD q.i)), some (.d (nD q.r)), some (.d (nD q.a)), some (.d (nD q.o)), some (.d (nD q.c)), some (.o true (oL (zs.map .str))), some (.d (nD (1 + q.i + q.r))), none, some (.d (.list (ps.map andD))), some (.d (nD (1 + q.i + q.r + q.a))), some (.d (.tuple (ns.map .str))), some (.d (.list (rs.map regD))), some (.d (.list (os.map outD))), none])
        (pw_r rfl B.range (px_v 5) rfl (by omega)) (by rw [List.length_range]; omega) ⟨[], zs, rfl, fun r m => by (cases m), by omega, g2, g3, rfl⟩ (fun i b ys ρ' hb ly3 ⟨cs, zs, ey, hcs, g1, g2, g3, e⟩ => ?_) (fun ys ρ' ly3 ⟨cs, zs, ey, hcs, g1, g2, g3, e⟩ => ?_)
      · subst e ey
        obtain ⟨rfl, hi⟩ := range_at hb
        refine ⟨[8], _, rfl, off1, fun s H C cl fp => gd_n 8 nd, fun s H C cl fp => ?_⟩
        exact pm_tup (pms_cons (pm_popN Po 0 6 ⟨by omega, by omega⟩ fun z zs' h1 h2 h3 => pms_cons (pm_dlit Dl 0 (px_v 10) ⟨by omega, by omega⟩ fun r2 k2 => pms_nil ⟨[.str z, nD r2], rfl, le2, cs ++ [⟨z, r2⟩], zs', by rw [List.map_append]; rfl, fun x m => (List.mem_append.mp m).elim (hcs x) fun m => by
          rw [List.mem_singleton.mp m]
          exact ⟨g3 z h1, k2⟩, by omega, by omega, fun x m => g3 x (h3 x m), rfl⟩)))
      subst e ey
      rw [List.length_map, List.length_range] at ly3
      refine sd_keep 14 rfl ?_
      have fa : (⟨ns, rs, ps, os, cs⟩ : Net).fand = 1 + q.i + q.r := by
        show 1 + ns.length + rs.length = _
        rw [ln, ly]
      have sz : (⟨ns, rs, ps, os, cs⟩ : Net).size = 1 + q.i + q.r + q.a := by
        unfold Net.size
        rw [fa]
        show _ + ps.length = _
        rw [lpair]
      refine sd_retD (px_tup (pxs_cons px_str (pxs_cons (px_v 11) (pxs_cons (px_tupL rfl B.tuple b_tuple (px_v 12)) (pxs_cons (px_tupL rfl B.tuple b_tuple (px_v 9)) (pxs_cons (px_tupL rfl B.tuple b_tuple (px_v 13)) (pxs_cons (px_tupL rfl B.tuple b_tuple (px_v 14)) pxs_nil))))))) ⟨⟨⟨ns, rs, ps, os, cs⟩, ⟨⟨?_, ?_, fun r m => ?_, ?_, ?_, fun r m => ?_, ?_, fun r m => ?_, fun r m => ?_, fun i p e => ?_, fun r m => ?_, fun r m => ?_⟩, ln, ly, ly2, ly3⟩, rfl⟩, rfl⟩
      · show ns.length ≤ 8
        omega
      · show rs.length ≤ _
        omega
      · have := (hrs r m).1
        omega
      · show ps.length ≤ _
        omega
      · show 1 ≤ os.length ∧ os.length ≤ _
        omega
      · have := (hos r m).1
        omega
      · show cs.length ≤ _
        omega
      · have := (hcs r m).1
        omega
      · rw [sz]
        exact (hrs r m).2
      · rw [fa]
        exact hps i p e
      · rw [sz]
        exact (hos r m).2
      · rw [sz]
        exact (hcs r m).2
end
end Bf
set_option Elab.async false
set_option linter.all false
set_option maxRecDepth 100000
set_option maxHeartbeats 4000000
namespace Bf
open PySem PySem.Spec PyProof.Rows L2
def tieD (t : Nat × Nat) : PyData := .tuple [nD t.1, nD t.2]
structure VarA where
  n : Net
  u : Nat
  s : Nat
theorem copy_len : ∀ k : Nat, k < 20 → ((("copy" : Str)) ++ ((toString ((k : Nat) : Int) : String) : Str)).length ≤ 50 := by decide +kernel
theorem str_small : ∀ k : Nat, k < 64 → (((toString ((k : Nat) : Int) : String) : Str)).length ≤ 40 := by decide +kernel
theorem log_small {k : Nat} (h : k < 1000000) : ((k : Int)).natAbs.log2 < 1920 := by
  rw [Int.natAbs_natCast]
  exact PySem.Flt.log2_lt_of (by decide) (Nat.lt_of_lt_of_le h (Nat.le_trans (by decide : 1000000 ≤ 2 ^ 20) (Nat.pow_le_pow_right (by decide) (by decide))))
section
variable {P : Program} {w : World} {K : PySem.W.Frag} {mg : Str → Option Value} {base : Heap}
abbrev spVar : Sp := spR (ι := VarA) (fun a => [netD a.n, nD a.s]) (fun a => a.n.Ok a.u ∧ a.u + a.s ≤ 20) (fun a y => ∃ m x, m.Ok (a.u + a.s) ∧ m.ins = a.n.ins ∧ y = .tuple [netD m, x])
set_option maxHeartbeats 40000000 in
theorem ok_variant (F : Has K mg "_law_variant" S_law_variant) (B : Blt mg) (D : Draws P w K mg base) (In : Cal P w K mg base 3 "_law_inverted" P_law_inverted spInv) (Ex : Cal P w K mg base 3 "_law_exchanged" P_law_exchanged spExc)
    (Db : Cal P w K mg base 3 "_law_doubled" P_law_doubled spDbl) (Ti : Cal P w K mg base 3 "_law_tidied" P_law_tidied spTid) : Cal P w K mg base 4 "_law_variant" P_law_variant spVar :=
  fnR F sc_law_variant (fun _ => rfl) (fun _ _ _ _ _ _ us hl => match us, hl with | [_, _, _], _ => rfl) fun f cdv A outer s H E hr a hp => by
    have nd := sc_law_variant.nd
    obtain ⟨ok, hu⟩ := hp
    have b1 := ok.regs
    refine sd_new 4 nd (pf_lc (own := [("_law_k", 3)]) (l := List.range a.n.regs.length) (g := nD) (f := fun k => tieD (k, 0)) rfl nd (blkOk_by (N := N_law_variant) (sc := defScope S_law_variant) (by decide +kernel)) (pw_r rfl B.range (pn_lenT rfl B.len b_len (px_ixT (px_v 1) px_int rfl)) (by rw [List.length_map]) (by omega)) (by rw [List.length_range]; omega)
      (fun x _ s H C cl fp => gd_n 3 nd) (fun x _ s H C cl fp => px_tup (pxs_cons (px_v 3) (pxs_cons px_int pxs_nil)))) ?_
    refine sd_for (l := List.range a.s) (g := nD) (fun i ρ => ∃ (m : Net) (ts : List (Nat × Nat)), m.Ok (a.u + i) ∧ m.ins = a.n.ins ∧ ts.length = m.regs.length ∧ ρ = [some (.o false oR), some (.d (netD m)), some (.d (nD a.s)), none, some (.o true (oL (ts.map tieD))), none, none, none, none]) (fun _ _ => False)
      rfl PassesOwn.never (pw_r rfl B.range (px_v 2) rfl (by omega)) ⟨a.n, (List.range a.n.regs.length).map fun k => (k, 0), ok, rfl, by rw [List.length_map, List.length_range], by rw [List.map_map]; rfl⟩ (fun i b ρ' hb ⟨m, ts, mo, mi, lt, e⟩ => ?_) (fun ρ' ⟨m, ts, mo, mi, lt, e⟩ => ?_) (fun _ _ z => z.elim)
    · subst e
      obtain ⟨rfl, hi⟩ := range_at hb
      have mr := mo.regs
      refine ⟨[5], _, gd_n 5 nd, ?_⟩
      refine sd_setM 6 nd (pm_draw D 0 (pn_c (k := 4)) ⟨by decide, by decide⟩ fun turn ht => ?_)
      refine sd_if (fun ρ' => ∃ (m : Net) (ts : List (Nat × Nat)), m.Ok (a.u + (b + 1)) ∧ m.ins = a.n.ins ∧ ts.length = m.regs.length ∧ ρ' = [some (.o false oR), some (.d (netD m)), some (.d (nD a.s)), none, some (.o true (oL (ts.map tieD))), none, none, none, none])
        (pt_w (pw_an (pt_gt (px_lenL rfl B.len b_len (px_b 4)) px_int) (fun _ => pw_an1 (pt_lt (px_v 6) px_int)))) (fun h => ?_) (fun h => ?_) (fun ρ' h => sd_nil h)
      · have pos : 0 < ts.length := by
          have := (Bool.and_eq_true_iff.mp h).1
          have := of_decide_eq_true this
          rw [List.length_map] at this
          omega
        refine sd_setM 7 nd (pm_draw D 0 (px_eq (px_lenL rfl B.len b_len (px_b 4)) (by rw [List.length_map])) ⟨pos, by omega⟩ fun at' ha => ?_)
        have hat : at' < m.regs.length := by omega
        have gt := List.getElem?_eq_getElem ha
        generalize ts[at'] = t at gt
        refine sd_if (fun ρ' => ∃ (m : Net) (ts : List (Nat × Nat)), m.Ok (a.u + (b + 1)) ∧ m.ins = a.n.ins ∧ ts.length = m.regs.length ∧ ρ' = [some (.o false oR), some (.d (netD m)), some (.d (nD a.s)), none, some (.o true (oL (ts.map tieD))), none, none, none, none])
          (pt_eqI (px_v 6) px_int) (fun h0 => ?_) (fun h0 => ?_) (fun ρ' h => sd_nil h)
        · obtain ⟨k1, k2, k3⟩ := invN_ok mo hat
          refine sd_set 1 nd (px_call In ⟨m, a.u + b, at'⟩ ⟨mo, by show a.u + b ≤ 100; omega, hat⟩ (pxs_cons (px_v 1) (pxs_cons (px_v 7) pxs_nil)) (fun y e => e)) ?_
          refine sd_seti 4 (j := (at' : Int)) (n := at') rfl (px_tup (pxs_cons (px_ixT (px_ixO 4 rfl (px_v 7) (x := tieD t) (atI_n (map_at gt))) px_int rfl) (pxs_cons (pn_xor (px_ixT (px_ixO 4 rfl (px_v 7) (x := tieD t) (atI_n (map_at gt))) px_int rfl) pn_1) pxs_nil))) (px_v 7) (ixN_n (by rw [List.length_map]; exact ha)) ?_
          refine sd_end [5, 6, 7] ⟨invN m at', ts.set at' (t.1, t.2 ^^^ 1), k1, k2.trans mi, by rw [List.length_set, k3, lt], ?_⟩
          rw [List.map_set]
          rfl
        · refine sd_if (fun ρ' => ∃ (m : Net) (ts : List (Nat × Nat)), m.Ok (a.u + (b + 1)) ∧ m.ins = a.n.ins ∧ ts.length = m.regs.length ∧ ρ' = [some (.o false oR), some (.d (netD m)), some (.d (nD a.s)), none, some (.o true (oL (ts.map tieD))), none, none, none, none])
            (pt_eqI (px_v 6) px_int) (fun h1 => ?_) (fun h1 => ?_) (fun ρ' h => sd_nil h)
          · refine sd_asgM (pm_callR Ex 0 rfl (pms_cons (pm_x (px_v 1) (pms_nil ⟨rfl, ⟨m, a.u + b⟩, rfl, ⟨mo, by show a.u + b ≤ 100; omega⟩, fun y ⟨m', ks, v, lk, kl, e⟩ => ?_⟩))))
            subst e
            refine ⟨[1, 8], _, gd_t rfl (gds_cons (gd_n 1 nd) (gds_cons (gd_n 8 nd) gds_nil)), ?_⟩
            have kl' : ∀ k ∈ ks, k < ts.length := fun k m => by
              have hk := kl k m
              have hk' : k < _ := hk
              rw [lt]
              exact hk
            refine sd_new 4 nd (pf_lc (own := [("_law_k", 3)]) (l := ks) (g := nD) (f := fun k => tieD (ts.getD k (0, 0))) rfl nd (blkOk_by (N := N_law_variant) (sc := defScope S_law_variant) (by decide +kernel)) (piw_L (px_v 8)) (by show ks.length ≤ _; rw [lk]; show m.regs.length ≤ _; omega)
              (fun x _ s H C cl fp => gd_n 3 nd) (fun x mx s H C cl fp => px_ixO 4 rfl (px_v 3) (atI_n (map_at (by rw [List.getD_eq_getElem?_getD, List.getElem?_eq_getElem (kl' x mx)]; rfl))))) ?_
            refine sd_end [5, 6, 7, 8] ⟨m', ks.map fun k => ts.getD k (0, 0), v.ok, v.ins.trans mi, by rw [List.length_map, lk, v.regs], ?_⟩
            rw [List.map_map]
            rfl
          · have hn := copy_len b (by omega)
            obtain ⟨k1, k2, k3⟩ := dblN_ok (nm := _) mo hat hn
            refine sd_set 1 nd (px_call Db ⟨m, a.u + b, at', _⟩ ⟨mo, by show a.u + b ≤ 100; omega, hat, hn⟩ (pxs_cons (px_v 1) (pxs_cons (px_v 7) (pxs_cons (px_adds px_str (px_strI rfl B.str (px_v 5) (log_small (by omega))) (by have := hn; rw [str_len] at this; omega)) pxs_nil))) (fun y e => e)) ?_
            refine sd_new 4 nd (pf_catO 4 (ys := [tieD t]) rfl (px_lst (pxs_cons (px_ixO 4 rfl (px_v 7) (x := tieD t) (atI_n (map_at gt))) pxs_nil)) (by rw [List.length_map]; show _ + 1 ≤ _; omega)) ?_
            refine sd_end [5, 6, 7] ⟨_, ts ++ [t], k1, k2.trans mi, by rw [List.length_append, k3, lt]; rfl, ?_⟩
            rw [List.map_append]
            rfl
      · refine sd_setN 1 nd (px_callN (ι := NetA) Ti (⟨m, a.u + b⟩ : NetA) ⟨mo, by show a.u + b ≤ 100; omega⟩ (pxs_cons (px_v 1) pxs_nil)) fun y ⟨m', v, e⟩ => ?_
        subst e
        exact sd_end [5, 6] ⟨m', ts, v.ok.mono (by show a.u + b ≤ _; omega), v.ins.trans mi, by rw [v.regs, lt], rfl⟩
    · subst e
      rw [List.length_range] at mo
      exact sd_keep 4 rfl (sd_retD (px_tup (pxs_cons (px_v 1) (pxs_cons (px_v 4) pxs_nil))) ⟨⟨m, _, mo, mi, rfl⟩, rfl⟩)
end
end Bf
set_option Elab.async false
set_option linter.all false
set_option maxRecDepth 100000
set_option maxHeartbeats 4000000
namespace Bf
open PySem PySem.Spec PyProof.Rows L2
theorem trap_len : ∀ k : Nat, k < 20 → ((("trap" : Str)) ++ ((toString ((k : Nat) : Int) : String) : Str)).length ≤ 50 := by decide +kernel
theorem pn_sub {X : Cx} {ρ : Rho} {s : Bool} {a b : Expr} {pos : Pos} {m n : Nat} (ha : PX X ρ false a (nD m)) (hb : PX X ρ false b (nD n)) (h : n ≤ m) : PX X ρ s (.BinOp a .Sub b pos) (nD (m - n)) := px_eq (px_sub ha hb) (by show PyData.int _ = PyData.int _; rw [Int.natCast_sub h])
/-- a list grown by one at its end -/
theorem snoc_at {α : Type} {l : List α} {x y : α} {j : Nat} (h : (l ++ [x])[j]? = some y) : (j < l.length ∧ l[j]? = some y) ∨ (j = l.length ∧ x = y) := by
  by_cases lt : j < l.length
  · rw [List.getElem?_append_left lt] at h
    exact .inl ⟨lt, h⟩
  · rw [List.getElem?_append_right (by omega)] at h
    have ej : j = l.length := by
      have := (List.getElem?_eq_some_iff.mp h).1
      rw [List.length_singleton] at this
      omega
    rw [ej, Nat.sub_self] at h
    exact .inr ⟨ej, Option.some.inj h⟩
/-- pairs as ands, above f -/
abbrev Pos2 (f : Nat) (ps : List (Nat × Nat)) : Prop := ∀ (j : Nat) (p : Nat × Nat), ps[j]? = some p → p.1 < 2 * (f + j) ∧ p.2 < 2 * (f + j)
theorem Pos2.snoc {f : Nat} {ps : List (Nat × Nat)} (h : Pos2 f ps) {p : Nat × Nat} (hp : p.1 < 2 * (f + ps.length) ∧ p.2 < 2 * (f + ps.length)) : Pos2 f (ps ++ [p]) := fun j q e => by
  rcases snoc_at e with ⟨_, e⟩ | ⟨rfl, rfl⟩
  · exact h j q e
  · exact hp
structure TrI (n : Net) (f u i : Nat) (ps : List (Nat × Nat)) (rs : List Reg) : Prop where
  pl : ps.length = n.ands.length + (i - 1)
  pa : Pos2 f ps
  rl : rs.length = n.regs.length + i
  rn : ∀ r ∈ rs, r.nm.length ≤ 50 + u ∧ r.st < 2 ∧ r.nx < 2 * (f + ps.length)
theorem trap_ok {n : Net} {u k : Nat} {ps : List (Nat × Nat)} {rs : List Reg} {os : List Out} {e : Nat} (h : n.Ok u) (hk : 1 ≤ k ∧ k ≤ 4) (t : TrI n (n.fand + k) u k ps rs) (lo : os.length = n.outs.length + n.clms.length)
    (ho : ∀ o ∈ os, o.nm.length ≤ 50 + u ∧ o.li < 2 * (n.fand + k + n.ands.length)) {x : Out} (hx : os[e]? = some x) {la : Nat} (hla : la = 2 * (n.fand + k - 1)) {at' : Nat} (hat : at' = 2 * (n.fand + k + ps.length)) :
    Net.Ok ⟨n.ins, rs, ps ++ [(x.li, la), (x.li ^^^ 1, la ^^^ 1), (at' + 1, at' + 3)], (os.set e ⟨x.nm, at' + 4⟩).take n.outs.length, (os.set e ⟨x.nm, at' + 4⟩).drop n.outs.length⟩ (u + 8) := by
  have hxo := ho x (List.mem_of_getElem? hx)
  have pl := t.pl
  have rl := t.rl
  have b1 := h.regs
  have b2 := h.ands
  have b3 := h.outs
  have b4 := h.clms
  have fp : 0 < n.fand := by unfold Net.fand; omega
  have fa : (⟨n.ins, rs, ps ++ [(x.li, la), (x.li ^^^ 1, la ^^^ 1), (at' + 1, at' + 3)], (os.set e ⟨x.nm, at' + 4⟩).take n.outs.length, (os.set e ⟨x.nm, at' + 4⟩).drop n.outs.length⟩ : Net).fand = n.fand + k := by
    show 1 + n.ins.length + rs.length = _
    rw [rl]
    unfold Net.fand
    omega
  have l3 : (ps ++ [(x.li, la), (x.li ^^^ 1, la ^^^ 1), (at' + 1, at' + 3)]).length = ps.length + 3 := by rw [List.length_append]; rfl
  have sz : (⟨n.ins, rs, ps ++ [(x.li, la), (x.li ^^^ 1, la ^^^ 1), (at' + 1, at' + 3)], (os.set e ⟨x.nm, at' + 4⟩).take n.outs.length, (os.set e ⟨x.nm, at' + 4⟩).drop n.outs.length⟩ : Net).size = n.fand + k + (ps.length + 3) := by
    unfold Net.size
    rw [fa]
    show _ + (ps ++ _).length = _
    rw [l3]
  have mem : ∀ o ∈ os.set e ⟨x.nm, at' + 4⟩, o.nm.length ≤ 50 + (u + 8) ∧ o.li < 2 * (n.fand + k + (ps.length + 3)) := fun o m => by
    rcases List.mem_or_eq_of_mem_set m with m | rfl
    · have := ho o m
      exact ⟨by omega, by omega⟩
    · exact ⟨by show x.nm.length ≤ _; omega, by show at' + 4 < _; omega⟩
  have x1 : x.li ^^^ 1 < 2 * (n.fand + k + n.ands.length) := xor1_lt hxo.2 (by decide)
  have x2 : la ^^^ 1 < 2 * (n.fand + k) := xor1_lt (by omega) (by decide)
  refine ⟨h.ins, by show rs.length ≤ _; omega, fun r m => ?_, by show (ps ++ _).length ≤ _; rw [l3]; omega, ?_, fun o m => (mem o (List.mem_of_mem_take m)).1, ?_, fun o m => (mem o (List.mem_of_mem_drop m)).1, fun r m => ?_, fun j p e' => ?_, fun o m => ?_, fun o m => ?_⟩
  · have := (t.rn r m).1
    omega
  · show 1 ≤ (List.take _ _).length ∧ (List.take _ _).length ≤ _
    rw [List.length_take, List.length_set]
    omega
  · show (List.drop _ _).length ≤ _
    rw [List.length_drop, List.length_set]
    omega
  · rw [sz]
    have := (t.rn r m).2
    exact ⟨this.1, by omega⟩
  · rw [fa]
    have p3 : Pos2 (n.fand + k) (((ps ++ [(x.li, la)]) ++ [(x.li ^^^ 1, la ^^^ 1)]) ++ [(at' + 1, at' + 3)]) := by
      refine Pos2.snoc (Pos2.snoc (Pos2.snoc t.pa ⟨?_, ?_⟩) ⟨?_, ?_⟩) ⟨?_, ?_⟩
      all_goals simp only [List.length_append, List.length_singleton]
      all_goals omega
    refine p3 j p ?_
    rw [← e', List.append_assoc, List.append_assoc]
    rfl
  · rw [sz]
    exact (mem o (List.mem_of_mem_take m)).2
  · rw [sz]
    exact (mem o (List.mem_of_mem_drop m)).2
section
variable {P : Program} {w : World} {K : PySem.W.Frag} {mg : Str → Option Value} {base : Heap}
abbrev spTrap : Sp := spR (ι := NatA) (fun a => [netD a.n, nD a.k]) (fun a => a.n.Ok a.u ∧ a.u ≤ 30 ∧ 1 ≤ a.k ∧ a.k ≤ 4) (fun a y => ∃ m, m.Ok (a.u + 8) ∧ m.ins = a.n.ins ∧ y = netD m)
set_option maxHeartbeats 40000000 in
theorem ok_trapped (F : Has K mg "_law_trapped" S_law_trapped) (B : Blt mg) (D : Draws P w K mg base) (L : Lits P w K mg base) (T : Tabs P w K mg base) : Cal P w K mg base 2 "_law_trapped" P_law_trapped spTrap :=
  fnR F sc_law_trapped (fun _ => rfl) (fun _ _ _ _ _ _ us hl => match us, hl with | [_, _, _], _ => rfl) fun f cdv A outer s H E hr a hp => by
    have nd := sc_law_trapped.nd
    obtain ⟨ok, hu, hk1, hk2⟩ := hp
    have sz := ok.sz
    have fl := Net.fand_le a.n
    have sd : a.n.size = a.n.fand + a.n.ands.length := rfl
    have b1 := ok.regs
    have b2 := ok.ands
    have b3 := ok.outs
    have b4 := ok.clms
    have fp : 0 < a.n.fand := by unfold Net.fand; omega
    have g := shT_good a.n a.k
    refine sd_set 3 nd (px_eq (pn_add (pn_add pn_1 (pn_lenT rfl B.len b_len (px_ixT (px_v 1) px_int rfl))) (pn_lenT rfl B.len b_len (px_ixT (px_v 1) px_int rfl))) (y := nD a.n.fand) (by rw [List.length_map, List.length_map]; rfl)) ?_
    refine sd_new 4 nd (pf_call T a.n (by omega) (pxs_cons (px_v 1) pxs_nil) (fun y e => e)) ?_
    refine sd_for (l := List.range (a.n.size - a.n.fand)) (g := fun i => nD (a.n.fand + i)) (fun i ρ => ρ = [some (.o false oR), some (.d (netD a.n)), some (.d (nD a.k)), some (.d (nD a.n.fand)), some (.o true (oL ((shT a.n (2 * a.k) i).map nD))), none, none, none, none, none, none, none, none, none, none, none, none, none]) (fun _ _ => False)
      rfl PassesOwn.never (pw_r2 rfl B.range (px_v 3) (px_lenL rfl B.len b_len (px_b 4)) (by rw [List.length_map, idT_len]) ⟨by omega, by omega⟩) (by rw [shT_zero]; rfl) (fun i b ρ' hb e => ?_) (fun ρ' e => ?_) (fun _ _ z => z.elim)
    · subst e
      obtain ⟨rfl, hi⟩ := range_at hb
      refine ⟨[5], _, gd_n 5 nd, ?_⟩
      refine sd_augI 4 (m := a.n.fand + b) (i := ((2 * (a.n.fand + b) : Nat) : Int)) (j := ((2 * a.k : Nat) : Int)) rfl (px_v 5) ?_ (pn_mul2 (px_v 2)) ?_
      · rw [List.getElem?_map, shT_get (by omega), if_neg (by omega)]
        rfl
      refine sd_end [5] ?_
      have te : ((shT a.n (2 * a.k) b).map nD).set (a.n.fand + b) (.int (((2 * (a.n.fand + b) : Nat) : Int) + ((2 * a.k : Nat) : Int))) = (shT a.n (2 * a.k) (b + 1)).map nD := by
        rw [← shT_step (by omega), List.map_set]
        congr 1
      show _ = _
      rw [te]
      rfl
    subst e
    rw [List.length_range, show a.n.size - a.n.fand = a.n.ands.length by omega]
    refine sd_keep 4 rfl ?_
    refine sd_newLc 8 (own := [("_law_left", 6), ("_law_right_here", 7)]) (l := a.n.ands) (g := andD) (f := fun p => andD (litN (shT a.n (2 * a.k) a.n.ands.length) p.1, litN (shT a.n (2 * a.k) a.n.ands.length) p.2)) rfl nd rfl rfl (blkOk_by (N := N_law_trapped) (sc := defScope S_law_trapped) (by decide +kernel))
      (piw_T (px_ixT (px_v 1) px_int rfl)) (by omega) (fun x _ s H C cl fp => gd_t rfl (gds_cons (gd_n 6 nd) (gds_cons (gd_n 7 nd) gds_nil)))
      (fun x m s H C cl fp => by
        obtain ⟨i, hi⟩ := List.getElem?_of_mem m
        have lt := (List.getElem?_eq_some_iff.mp hi).1
        exact px_tup (pxs_cons (px_lit L (px_v 4) (px_v 6) (g.and (Nat.le_of_lt lt) (ok.al i x hi).1).1) (pxs_cons (px_lit L (px_v 4) (px_v 7) (g.and (Nat.le_of_lt lt) (ok.al i x hi).2).1) pxs_nil))) ?_
    refine sd_newLc 10 (own := [("_law_row", 9)]) (l := a.n.regs) (g := regD) (f := fun r : Reg => regD ⟨r.nm, r.st, litN (shT a.n (2 * a.k) a.n.ands.length) r.nx⟩) rfl nd rfl rfl (blkOk_by (N := N_law_trapped) (sc := defScope S_law_trapped) (by decide +kernel)) (piw_T (px_ixT (px_v 1) px_int rfl)) (by omega) (fun x _ s H C cl fp => gd_n 9 nd)
      (fun x m s H C cl fp => px_tup (pxs_cons (px_ixT (px_v 9) px_int rfl) (pxs_cons (px_ixT (px_v 9) px_int rfl) (pxs_cons (px_lit L (px_v 4) (px_ixT (px_v 9) px_int rfl) (g.lit (ok.rl x m).2).1) pxs_nil)))) ?_
    generalize htt : shT a.n (2 * a.k) a.n.ands.length = tt at g
    refine sd_for (l := List.range a.k) (g := nD) (fun i ρ => ∃ ps rs, TrI a.n (a.n.fand + a.k) a.u i ps rs ∧ ρ = [some (.o false oR), some (.d (netD a.n)), some (.d (nD a.k)), some (.d (nD a.n.fand)), some (.d (.list (tt.map nD))), none, none, none, some (.o true (oL (ps.map andD))), none, some (.o true (oL (rs.map regD))), none, none, none, none, none, none, none]) (fun _ _ => False)
      rfl PassesOwn.never (pw_r rfl B.range (px_v 2) rfl (by omega)) ⟨a.n.ands.map fun p => (litN tt p.1, litN tt p.2), a.n.regs.map fun r : Reg => ⟨r.nm, r.st, litN tt r.nx⟩, ⟨by rw [List.length_map]; rfl, fun j p e => ?_, by rw [List.length_map]; rfl, fun r m => ?_⟩, by rw [List.map_map, List.map_map]; rfl⟩ (fun i b ρ' hb ⟨ps, rs, t, e⟩ => ?_) (fun ρ' ⟨ps, rs, t, e⟩ => ?_) (fun _ _ z => z.elim)
    · rw [List.getElem?_map] at e
      cases q : a.n.ands[j]? with
      | none =>
        rw [q] at e
        cases e
      | some x =>
        rw [q] at e
        have : (litN tt x.1, litN tt x.2) = p := Option.some.inj e
        subst this
        have lt := (List.getElem?_eq_some_iff.mp q).1
        have := ok.al j x q
        exact ⟨(g.and (Nat.le_of_lt lt) this.1).2, (g.and (Nat.le_of_lt lt) this.2).2⟩
    · obtain ⟨x, hx, rfl⟩ := List.mem_map.mp m
      rw [List.length_map]
      exact ⟨ok.rnm x hx, (ok.rl x hx).1, (g.lit (ok.rl x hx).2).2⟩
    · subst e
      obtain ⟨rfl, hi⟩ := range_at hb
      have pl := t.pl
      have rl := t.rl
      have hn := trap_len b (by omega)
      refine ⟨[11], _, gd_n 11 nd, ?_⟩
      refine sd_setM 12 nd (pm_draw D 0 (pn_mul2 (px_v 3)) ⟨by omega, by omega⟩ fun af haf => ?_)
      refine sd_if (fun ρ' => ∃ (ps : List (Nat × Nat)) (af : Nat), ps.length = a.n.ands.length + (b + 1 - 1) ∧ Pos2 (a.n.fand + a.k) ps ∧ (∀ r ∈ rs, r.nm.length ≤ 50 + a.u ∧ r.st < 2 ∧ r.nx < 2 * (a.n.fand + a.k + ps.length)) ∧ af < 2 * (a.n.fand + a.k + ps.length) ∧
          ρ' = [some (.o false oR), some (.d (netD a.n)), some (.d (nD a.k)), some (.d (nD a.n.fand)), some (.d (.list (tt.map nD))), none, none, none, some (.o true (oL (ps.map andD))), none, some (.o true (oL (rs.map regD))), some (.d (nD b)), some (.d (nD af)), none, none, none, none, none])
        (pt_gt (px_v 11) px_int) (fun h => ?_) (fun h => ?_) (fun ρ' ⟨ps, af, q1, q2, q3, q4, e⟩ => ?_)
      · have hb0 : 0 < b := by
          have := of_decide_eq_true h
          omega
        refine sd_app 8 (x := andD (2 * (a.n.fand + b - 1), af)) rfl (px_tup (pxs_cons (pn_mul2 (pn_sub (pn_add (px_v 3) (px_v 11)) pn_1 (by omega))) (pxs_cons (px_v 12) pxs_nil))) (by rw [List.length_map]; omega) ?_
        rw [show ps.map andD ++ [andD (2 * (a.n.fand + b - 1), af)] = (ps ++ [(2 * (a.n.fand + b - 1), af)]).map andD by rw [List.map_append]; rfl]
        have l1 : (ps ++ [(2 * (a.n.fand + b - 1), af)]).length = ps.length + 1 := by rw [List.length_append]; rfl
        refine sd_set 12 nd (pn_mul2 (pn_sub (pn_add (pn_add (px_v 3) (px_v 2)) (px_lenL rfl B.len b_len (px_b 8))) pn_1 (by rw [List.length_map, l1]; omega))) ?_
        refine sd_nil ⟨ps ++ [(2 * (a.n.fand + b - 1), af)], 2 * (a.n.fand + a.k + ps.length), by rw [l1]; omega, t.pa.snoc ⟨by show 2 * _ < _; omega, by show af < _; omega⟩, fun r m => ?_, by rw [l1]; omega, ?_⟩
        · have := t.rn r m
          rw [l1]
          exact ⟨this.1, this.2.1, by omega⟩
        · rw [List.length_map, l1, show a.n.fand + a.k + (ps.length + 1) - 1 = a.n.fand + a.k + ps.length by omega]
          rfl
      · have hb0 : b = 0 := by
          have := of_decide_eq_false h
          omega
        exact sd_nil ⟨ps, af, by omega, t.pa, t.rn, by omega, rfl⟩
      · subst e
        refine sd_app 10 (x := regD ⟨("trap" : Str) ++ ((toString ((b : Nat) : Int) : String) : Str), 0, af⟩) rfl (px_tup (pxs_cons (px_adds px_str (px_strI rfl B.str (px_v 11) (log_small (by omega))) (by have := hn; rw [str_len] at this; omega)) (pxs_cons px_int (pxs_cons (px_v 12) pxs_nil)))) (by rw [List.length_map]; omega) ?_
        refine sd_end [11, 12] ⟨ps, rs ++ [⟨("trap" : Str) ++ ((toString ((b : Nat) : Int) : String) : Str), 0, af⟩], ⟨q1, q2, by rw [List.length_append, rl]; rfl, fun r m => ?_⟩, ?_⟩
        · rcases List.mem_append.mp m with m | m
          · exact q3 r m
          · rw [List.mem_singleton.mp m]
            exact ⟨Nat.le_trans hn (by omega), Nat.zero_lt_two, q4⟩
        · rw [List.map_append]
          rfl
    subst e
    rw [List.length_range] at t
    have pl := t.pl
    refine sd_set 13 nd (pn_mul2 (pn_sub (pn_add (px_v 3) (px_v 2)) pn_1 (by omega))) ?_
    refine sd_newLc 14 (own := [("_law_row", 9)]) (l := a.n.outs ++ a.n.clms) (g := outD) (f := fun r : Out => outD ⟨r.nm, litN tt r.li⟩) rfl nd rfl rfl (blkOk_by (N := N_law_trapped) (sc := defScope S_law_trapped) (by decide +kernel))
      (piw_L (px_eq (px_F (pf_cat (px_F (pf_lstT rfl B.list b_list (px_ixT (px_v 1) px_int rfl))) (px_F (pf_lstT rfl B.list b_list (px_ixT (px_v 1) px_int rfl))) (by rw [List.length_map, List.length_map]; omega))) (by rw [List.map_append]))) (by rw [List.length_append]; omega) (fun x _ s H C cl fp => gd_n 9 nd)
      (fun x m s H C cl fp => px_tup (pxs_cons (px_ixT (px_v 9) px_int rfl) (pxs_cons (px_lit L (px_v 4) (px_ixT (px_v 9) px_int rfl) ((g.lit ((List.mem_append.mp m).elim (ok.ol x) (ok.cl x))).1)) pxs_nil))) ?_
    rw [show ((a.n.outs ++ a.n.clms).map fun r : Out => outD ⟨r.nm, litN tt r.li⟩) = ((a.n.outs ++ a.n.clms).map fun r : Out => (⟨r.nm, litN tt r.li⟩ : Out)).map outD by rw [List.map_map]; rfl]
    have lo : ((a.n.outs ++ a.n.clms).map fun r : Out => (⟨r.nm, litN tt r.li⟩ : Out)).length = a.n.outs.length + a.n.clms.length := by rw [List.length_map, List.length_append]
    have ho : ∀ o ∈ ((a.n.outs ++ a.n.clms).map fun r : Out => (⟨r.nm, litN tt r.li⟩ : Out)), o.nm.length ≤ 50 + a.u ∧ o.li < 2 * (a.n.fand + a.k + a.n.ands.length) := fun o m => by
      obtain ⟨x, hx, rfl⟩ := List.mem_map.mp m
      rcases List.mem_append.mp hx with hx | hx
      · exact ⟨ok.onm x hx, (g.lit (ok.ol x hx)).2⟩
      · exact ⟨ok.cnm x hx, (g.lit (ok.cl x hx)).2⟩
    generalize ((a.n.outs ++ a.n.clms).map fun r : Out => (⟨r.nm, litN tt r.li⟩ : Out)) = os at lo ho
    refine sd_setM 15 nd (pm_draw D 0 (px_eq (px_lenL rfl B.len b_len (px_b 14)) (by rw [List.length_map])) ⟨by omega, by omega⟩ fun en hen => ?_)
    have gx := List.getElem?_eq_getElem hen
    generalize os[en] = x at gx
    refine sd_set 16 nd (px_eq (pn_mul2 (pn_add (pn_add (px_v 3) (px_v 2)) (px_lenL rfl B.len b_len (px_b 8)))) (y := nD (2 * (a.n.fand + a.k + ps.length))) (by rw [List.length_map])) ?_
    refine sd_new 8 nd (pf_catO 8 (ys := [(x.li, 2 * (a.n.fand + a.k - 1)), (x.li ^^^ 1, 2 * (a.n.fand + a.k - 1) ^^^ 1), (2 * (a.n.fand + a.k + ps.length) + 1, 2 * (a.n.fand + a.k + ps.length) + 3)].map andD) rfl
      (px_lst (pxs_cons (px_tup (pxs_cons (px_ixT (px_ixO 14 rfl (px_v 15) (x := outD x) (atI_n (map_at gx))) px_int rfl) (pxs_cons (px_v 13) pxs_nil)))
        (pxs_cons (px_tup (pxs_cons (pn_xor (px_ixT (px_ixO 14 rfl (px_v 15) (x := outD x) (atI_n (map_at gx))) px_int rfl) pn_1) (pxs_cons (pn_xor (px_v 13) pn_1) pxs_nil)))
          (pxs_cons (px_tup (pxs_cons (pn_add (px_v 16) pn_1) (pxs_cons (pn_add (px_v 16) (pn_c (k := 3))) pxs_nil))) pxs_nil)))) (by rw [List.length_map]; show _ + 3 ≤ _; omega)) ?_
    rw [← List.map_append]
    refine sd_seti 14 (x := outD ⟨x.nm, 2 * (a.n.fand + a.k + ps.length) + 4⟩) (j := (en : Int)) (n := en) rfl (px_tup (pxs_cons (px_ixT (px_ixO 14 rfl (px_v 15) (x := outD x) (atI_n (map_at gx))) px_int rfl) (pxs_cons (pn_add (px_v 16) (pn_c (k := 4))) pxs_nil))) (px_v 15) (ixN_n (by rw [List.length_map]; exact hen)) ?_
    rw [← List.map_set]
    refine sd_set 17 nd (px_eq (pn_lenT rfl B.len b_len (px_ixT (px_v 1) px_int rfl)) (y := nD a.n.outs.length) (by rw [List.length_map])) ?_
    refine sd_keep 8 rfl (sd_keep 10 rfl (sd_keep 14 rfl ?_))
    refine sd_retD (px_tup (pxs_cons px_str (pxs_cons (px_ixT (px_v 1) px_int rfl) (pxs_cons (px_tupL rfl B.tuple b_tuple (px_v 10)) (pxs_cons (px_tupL rfl B.tuple b_tuple (px_v 8)) (pxs_cons (px_tupL rfl B.tuple b_tuple (px_toL (px_v 14) (px_v 17))) (pxs_cons (px_tupL rfl B.tuple b_tuple (px_fromL (px_v 14) (px_v 17))) pxs_nil))))))) ⟨⟨_, trap_ok ok ⟨hk1, hk2⟩ t lo ho gx rfl rfl, rfl, ?_⟩, rfl⟩
    unfold netD
    simp only [List.map_take, List.map_drop]
end
end Bf
set_option Elab.async false
set_option linter.all false
set_option maxRecDepth 100000
set_option maxHeartbeats 4000000
namespace Bf
open PySem PySem.Spec PyProof.Rows L2
theorem set_cut {α : Type} {l : List α} {i : Nat} {x : α} (h : i < l.length) : l.take i ++ [x] ++ l.drop (i + 1) = l.set i x := by
  rw [List.set_eq_take_append_cons_drop, if_pos h, List.append_assoc]
  rfl
theorem Net.Ok.setReg {n : Net} {u i : Nat} {r : Reg} (h : n.Ok u) (hr : r.nm.length ≤ 50 + u ∧ r.st < 2 ∧ r.nx < 2 * n.size) : Net.Ok ⟨n.ins, n.regs.set i r, n.ands, n.outs, n.clms⟩ u := by
  have fa : (⟨n.ins, n.regs.set i r, n.ands, n.outs, n.clms⟩ : Net).fand = n.fand := by
    unfold Net.fand
    rw [List.length_set]
  have sz : (⟨n.ins, n.regs.set i r, n.ands, n.outs, n.clms⟩ : Net).size = n.size := by
    unfold Net.size
    rw [fa]
  refine ⟨h.ins, by show (n.regs.set i r).length ≤ _; rw [List.length_set]; exact h.regs, fun x m => ?_, h.ands, h.outs, h.onm, h.clms, h.cnm, fun x m => ?_, by rw [fa]; exact h.al, by rw [sz]; exact h.ol, by rw [sz]; exact h.cl⟩
  · rcases List.mem_or_eq_of_mem_set m with m | rfl
    · exact h.rnm x m
    · exact hr.1
  · rw [sz]
    rcases List.mem_or_eq_of_mem_set m with m | rfl
    · exact h.rl x m
    · exact hr.2
theorem Net.Ok.setAnd {n : Net} {u i : Nat} {p : Nat × Nat} (h : n.Ok u) (hp : p.1 < 2 * (n.fand + i) ∧ p.2 < 2 * (n.fand + i)) : Net.Ok ⟨n.ins, n.regs, n.ands.set i p, n.outs, n.clms⟩ u := by
  have sz : (⟨n.ins, n.regs, n.ands.set i p, n.outs, n.clms⟩ : Net).size = n.size := by
    unfold Net.size
    show n.fand + (n.ands.set i p).length = _
    rw [List.length_set]
  refine ⟨h.ins, h.regs, h.rnm, by show (n.ands.set i p).length ≤ _; rw [List.length_set]; exact h.ands, h.outs, h.onm, h.clms, h.cnm, by rw [sz]; exact h.rl, fun j q e => ?_, by rw [sz]; exact h.ol, by rw [sz]; exact h.cl⟩
  rcases set_get e with ⟨rfl, rfl, _⟩ | ⟨_, e⟩
  · exact hp
  · exact h.al j q e
theorem Net.Ok.shown {n : Net} {u : Nat} {os cs : List Out} (h : n.Ok u) (lo : 1 ≤ os.length ∧ os.length ≤ 2 + u) (lc : cs.length ≤ 2 + u) (ho : ∀ o ∈ os, o.nm.length ≤ 50 + u ∧ o.li < 2 * n.size) (hc : ∀ o ∈ cs, o.nm.length ≤ 50 + u ∧ o.li < 2 * n.size) : Net.Ok ⟨n.ins, n.regs, n.ands, os, cs⟩ u :=
  ⟨h.ins, h.regs, h.rnm, h.ands, lo, fun o m => (ho o m).1, lc, fun o m => (hc o m).1, h.rl, h.al, fun o m => (ho o m).2, fun o m => (hc o m).2⟩
theorem le1M {n : Nat} (h : n ≤ 1000) : n ≤ 1000000 := Nat.le_trans h (by decide)
section
variable {P : Program} {w : World} {K : PySem.W.Frag} {mg : Str → Option Value} {base : Heap}
abbrev spSpoil : Sp := spR (ι := NetA) (fun a => [netD a.n]) (fun a => a.n.Ok a.u ∧ a.u ≤ 30) (fun a y => ∃ m, m.Ok a.u ∧ m.ins = a.n.ins ∧ y = netD m)
set_option maxHeartbeats 40000000 in
theorem ok_spoilt (F : Has K mg "_law_spoilt" S_law_spoilt) (B : Blt mg) (D : Draws P w K mg base) : Cal P w K mg base 2 "_law_spoilt" P_law_spoilt spSpoil :=
  fnR F sc_law_spoilt (fun _ => rfl) (fun _ _ _ _ _ _ us hl => match us, hl with | [_, _], _ => rfl) fun f cdv A outer s H E hr a hp => by
    have nd := sc_law_spoilt.nd
    obtain ⟨ok, hu⟩ := hp
    have sz := ok.sz
    have fl := Net.fand_le a.n
    have sd : a.n.size = a.n.fand + a.n.ands.length := rfl
    have b1 := ok.regs
    have b2 := ok.ands
    have b3 := ok.outs
    have b4 := ok.clms
    have fp : 0 < a.n.fand := by unfold Net.fand; omega
    have dz : drawPre (2 * a.n.size) := ⟨by omega, by omega⟩
    refine sd_set 2 nd (px_eq (pn_add (pn_add pn_1 (pn_lenT rfl B.len b_len (px_ixT (px_v 1) px_int rfl))) (pn_lenT rfl B.len b_len (px_ixT (px_v 1) px_int rfl))) (y := nD a.n.fand) (by rw [List.length_map, List.length_map]; rfl)) ?_
    refine sd_set 3 nd (px_eq (pn_add (px_v 2) (pn_lenT rfl B.len b_len (px_ixT (px_v 1) px_int rfl))) (y := nD a.n.size) (by rw [List.length_map, sd])) ?_
    refine sd_setM 4 nd (pm_draw D 0 (pn_c (k := 4)) ⟨by decide, by decide⟩ fun turn ht => ?_)
    refine sd_ifr (pt_w (pw_an (pt_lt (px_v 4) px_int) (fun _ => pw_an1 (pt_gt (px_lenT rfl B.len b_len (px_ixT (px_v 1) px_int rfl)) px_int)))) (fun h => ?_) fun h => ?_
    · have pos : 0 < a.n.regs.length := by
        have := of_decide_eq_true (Bool.and_eq_true_iff.mp h).2
        rw [List.length_map] at this
        omega
      refine sd_setM 5 nd (pm_draw D 0 (px_eq (pn_lenT rfl B.len b_len (px_ixT (px_v 1) px_int rfl)) (by rw [List.length_map])) ⟨pos, by omega⟩ fun at' ha => ?_)
      have gr := List.getElem?_eq_getElem ha
      generalize a.n.regs[at'] = r at gr
      have hr := ok.rl r (List.mem_of_getElem? gr)
      have hn := ok.rnm r (List.mem_of_getElem? gr)
      refine sd_asg (px_ixT (px_ixT (px_v 1) px_int rfl) (px_v 5) (x := regD r) (atI_n (map_at gr))) (gd_t rfl (gds_cons (gd_n 6 nd) (gds_cons (gd_n 7 nd) (gds_cons (gd_n 8 nd) gds_nil)))) ?_
      refine sd_setM 9 nd (pm_imp (P := fun y ρ' => ρ' = [some (.o false oR), some (.d (netD a.n)), some (.d (nD a.n.fand)), some (.d (nD a.n.size)), some (.d (nD turn)), some (.d (nD at')), some (.d (.str r.nm)), some (.d (nD r.st)), some (.d (nD r.nx)), none, none] ∧ ∃ q : Reg, y = regD q ∧ q.nm.length ≤ 50 + a.u ∧ q.st < 2 ∧ q.nx < 2 * a.n.size)
        (pm_if (mt_x (pt_eqI (px_v 4) px_int) ⟨fun _ => pm_x (x := regD ⟨r.nm, r.st ^^^ 1, r.nx⟩) (px_tup (pxs_cons (px_v 6) (pxs_cons (pn_xor (px_v 7) pn_1) (pxs_cons (px_v 8) pxs_nil)))) ⟨rfl, _, rfl, hn, (show r.st ^^^ 1 < 2 * 1 from xor1_lt (by omega) (by decide)), hr.2⟩,
          fun _ => pm_tup (pms_cons (pm_x (px_v 6) (pms_cons (pm_x (px_v 7) (pms_cons (pm_draw D 0 (pn_mul2 (px_v 3)) dz fun x hx => pms_nil ⟨[.str r.nm, nD r.st, nD x], rfl, le3, rfl, ⟨r.nm, r.st, x⟩, rfl, hn, hr.1, hx⟩))))))⟩)) fun y ρ' _ ⟨e, q, ey, q1, q2, q3⟩ => ?_)
      subst e ey
      refine sd_retD (px_eq (px_catT (px_catT (px_to (px_v 1) pn_2) (px_tup (pxs_cons (px_catT (px_catT (px_to (px_ixT (px_v 1) px_int rfl) (px_v 5)) (px_tup (pxs_cons (px_v 9) pxs_nil)) (le1M ?_)) (px_from (px_ixT (px_v 1) px_int rfl) (pn_add (px_v 5) pn_1)) (le1M ?_)) pxs_nil)) (Nat.le_of_ble_eq_true rfl)) (px_from (px_v 1) (pn_c (k := 3))) (Nat.le_of_ble_eq_true rfl)) (y := netD ⟨a.n.ins, a.n.regs.set at' q, a.n.ands, a.n.outs, a.n.clms⟩) ?_) ⟨⟨_, ok.setReg ⟨q1, q2, q3⟩, rfl, rfl⟩, rfl⟩
      · rw [List.length_take, List.length_map]
        show _ + 1 ≤ _
        omega
      · rw [List.length_append, List.length_take, List.length_drop, List.length_map]
        show _ + 1 + _ ≤ _
        omega
      · rw [show (a.n.regs.map regD).take at' ++ [regD q] ++ (a.n.regs.map regD).drop (at' + 1) = (a.n.regs.map regD).set at' (regD q) from set_cut (by rw [List.length_map]; exact ha)]
        unfold netD
        rw [List.map_set]
        rfl
    refine sd_ifr (pt_w (pw_an (pt_eqI (px_v 4) px_int) (fun _ => pw_an1 (pt_gt (px_lenT rfl B.len b_len (px_ixT (px_v 1) px_int rfl)) px_int)))) (fun h => ?_) fun h => ?_
    · have pos : 0 < a.n.ands.length := by
        have := of_decide_eq_true (Bool.and_eq_true_iff.mp h).2
        rw [List.length_map] at this
        omega
      refine sd_setM 5 nd (pm_draw D 0 (px_eq (pn_lenT rfl B.len b_len (px_ixT (px_v 1) px_int rfl)) (by rw [List.length_map])) ⟨pos, by omega⟩ fun at' ha => ?_)
      have gr := List.getElem?_eq_getElem ha
      generalize a.n.ands[at'] = r at gr
      have hr := ok.al at' r gr
      refine sd_setM 10 nd (pm_tup (pms_cons (pm_x (px_ixT (px_ixT (px_ixT (px_v 1) px_int rfl) (px_v 5) (x := andD r) (atI_n (map_at gr))) px_int rfl) (pms_cons (pm_draw D 0 (pn_mul2 (pn_add (px_v 2) (px_v 5))) ⟨by omega, by omega⟩ fun x hx => pms_nil ⟨[nD r.1, nD x], rfl, le2, ?_⟩)))))
      refine sd_retD (px_eq (px_catT (px_catT (px_to (px_v 1) (pn_c (k := 3))) (px_tup (pxs_cons (px_catT (px_catT (px_to (px_ixT (px_v 1) px_int rfl) (px_v 5)) (px_tup (pxs_cons (px_v 10) pxs_nil)) (le1M ?_)) (px_from (px_ixT (px_v 1) px_int rfl) (pn_add (px_v 5) pn_1)) (le1M ?_)) pxs_nil)) (Nat.le_of_ble_eq_true rfl)) (px_from (px_v 1) (pn_c (k := 4))) (Nat.le_of_ble_eq_true rfl)) (y := netD ⟨a.n.ins, a.n.regs, a.n.ands.set at' (r.1, x), a.n.outs, a.n.clms⟩) ?_) ⟨⟨_, ok.setAnd (i := at') (p := (r.1, x)) ⟨hr.1, hx⟩, rfl, rfl⟩, rfl⟩
      · rw [List.length_take, List.length_map]
        show _ + 1 ≤ _
        omega
      · rw [List.length_append, List.length_take, List.length_drop, List.length_map]
        show _ + 1 + _ ≤ _
        omega
      · rw [show (a.n.ands.map andD).take at' ++ [.tuple [nD r.1, nD x]] ++ (a.n.ands.map andD).drop (at' + 1) = (a.n.ands.map andD).set at' (.tuple [nD r.1, nD x]) from set_cut (by rw [List.length_map]; exact ha)]
        unfold netD
        rw [List.map_set]
        rfl
    obtain ⟨o0, os, ho⟩ : ∃ o0 os, a.n.outs = o0 :: os := by
      match h : a.n.outs, b3.1 with
      | o0 :: os, _ => exact ⟨o0, os, rfl⟩
    have go : (a.n.outs.map outD)[0]? = some (outD o0) := by rw [ho]; rfl
    refine sd_ifrM (mt_and (pt_gt (px_lenT rfl B.len b_len (px_ixT (px_v 1) px_int rfl)) px_int) (fun h => mt_eqI (pm_draw D 0 pn_2 ⟨by decide, by decide⟩ fun r _ => ⟨(r : Int), rfl, pm_x px_int ⟨1, rfl, ⟨fun e => ?_, fun e => ?_⟩⟩⟩)) (fun h => ⟨fun e => (by cases e), fun _ => ?_⟩))
    · obtain ⟨c0, cs, hc⟩ : ∃ c0 cs, a.n.clms = c0 :: cs := by
        have := of_decide_eq_true h
        rw [List.length_map] at this
        match hh : a.n.clms, this with
        | c0 :: cs, _ => exact ⟨c0, cs, rfl⟩
        | [], h => simp at h
      have gc : (a.n.clms.map outD)[0]? = some (outD c0) := by rw [hc]; rfl
      have lc : (a.n.clms.map outD).length ≤ 1000 := by rw [List.length_map]; omega
      refine sd_retM (pm_catT (pm_x (px_to (px_v 1) (pn_c (k := 5))) ⟨_, rfl, pm_tup (pms_cons (pm_catT (pm_tup (pms_cons (pm_tup (pms_cons (pm_x (px_ixT (px_ixT (px_ixT (px_v 1) px_int rfl) px_int (x := outD c0) (atI_n (j := 0) gc)) px_int rfl) (pms_cons (pm_draw D 0 (pn_mul2 (px_v 3)) dz fun x hx => pms_nil ⟨[.str c0.nm, nD x], rfl, le2, pms_nil ⟨[outD ⟨c0.nm, x⟩], rfl, le1M (by show 1 ≤ 1000; decide), [outD ⟨c0.nm, x⟩], rfl, pm_x (px_from (px_ixT (px_v 1) px_int rfl) pn_1) ⟨_, rfl, le1M (by rw [List.length_drop]; show 1 + _ ≤ _; omega), pms_nil ⟨[.tuple ([outD ⟨c0.nm, x⟩] ++ (a.n.clms.map outD).drop 1)], rfl, le1M (by show 1 ≤ 1000; decide), _, rfl, Nat.le_of_ble_eq_true rfl, ?_⟩⟩⟩⟩)))))))))⟩))
      refine ⟨⟨⟨a.n.ins, a.n.regs, a.n.ands, a.n.outs, ⟨c0.nm, x⟩ :: cs⟩, ok.shown b3 (by rw [hc] at b4; exact b4) (fun o m => ⟨ok.onm o m, ok.ol o m⟩) (fun o m => ?_), rfl, ?_⟩, rfl⟩
      · rcases List.mem_cons.mp m with rfl | m
        · exact ⟨ok.cnm c0 (by rw [hc]; exact List.mem_cons_self), hx⟩
        · have mm : o ∈ a.n.clms := by rw [hc]; exact List.mem_cons_of_mem _ m
          exact ⟨ok.cnm o mm, ok.cl o mm⟩
      · rw [hc]
        rfl
    all_goals
      have lc : (a.n.outs.map outD).length ≤ 1000 := by rw [List.length_map]; omega
      refine sd_retM (pm_catT (pm_x (px_to (px_v 1) (pn_c (k := 4))) ⟨_, rfl, pm_tup (pms_cons (pm_catT (pm_tup (pms_cons (pm_tup (pms_cons (pm_x (px_ixT (px_ixT (px_ixT (px_v 1) px_int rfl) px_int (x := outD o0) (atI_n (j := 0) go)) px_int rfl) (pms_cons (pm_draw D 0 (pn_mul2 (px_v 3)) dz fun x hx => pms_nil ⟨[.str o0.nm, nD x], rfl, le2, pms_nil ⟨[outD ⟨o0.nm, x⟩], rfl, le1M (by show 1 ≤ 1000; decide), [outD ⟨o0.nm, x⟩], rfl, pm_x (px_from (px_ixT (px_v 1) px_int rfl) pn_1) ⟨_, rfl, le1M (by rw [List.length_drop]; show 1 + _ ≤ _; omega), pms_cons (pm_x (px_ixT (px_v 1) px_int rfl) (pms_nil ⟨[.tuple ([outD ⟨o0.nm, x⟩] ++ (a.n.outs.map outD).drop 1), .tuple (a.n.clms.map outD)], rfl, le2, _, rfl, Nat.le_of_ble_eq_true rfl, ?_⟩))⟩⟩⟩)))))))))⟩))
      refine ⟨⟨⟨a.n.ins, a.n.regs, a.n.ands, ⟨o0.nm, x⟩ :: os, a.n.clms⟩, ok.shown (by rw [ho] at b3; exact b3) b4 (fun o m => ?_) (fun o m => ⟨ok.cnm o m, ok.cl o m⟩), rfl, ?_⟩, rfl⟩
      · rcases List.mem_cons.mp m with rfl | m
        · exact ⟨ok.onm o0 (by rw [ho]; exact List.mem_cons_self), hx⟩
        · have mm : o ∈ a.n.outs := by rw [ho]; exact List.mem_cons_of_mem _ m
          exact ⟨ok.onm o mm, ok.ol o mm⟩
      · rw [ho]
        rfl
end
end Bf
set_option Elab.async false
set_option linter.all false
set_option maxRecDepth 100000
set_option maxHeartbeats 4000000
namespace Bf
open PySem PySem.Spec PyProof.Rows L2
section
variable {X : Cx} {ρ : Rho} {e : Expr} {es : List Expr} {k : Nat} {x : Str} {ps : List Str} {pos p : Pos} {ι : Type} {args : ι → List PyData} {pre : ι → Prop} {res : ι → PyData → Prop} {P : PyData → Rho → Prop}
/-- a call of a def that changes nothing, its arguments drawn -/
theorem pm_callP (G : Cal X.prog X.w X.K X.mg X.base k x ps (spP args pre res)) (ha : PMs X ρ (e :: es) (fun ys ρ1 => ∃ i, ys = (args i).map .x ∧ pre i ∧ ∀ y, res i y → P y ρ1)) (hr : Room k X.A := by first | assumption | exact Room.mono (by assumption) (by decide)) (hg : Gl X x := by rfl) (hdb : (x == ("__debug__" : Str)) = false := by decide)
    (he : starEach (e :: es) X.env = (false, eval e X.env) :: starEach es X.env := by rfl) (hpl : (backTo pos (starEach es X.env)).any (·.1) = false := by rfl) : PM X ρ (.Call (.Name x p) (e :: es) [] pos) P := by
  obtain ⟨f, fd, hm, F, hk, hb⟩ := G.ex
  refine PEimp (pe_call F hr hg hm hk hb .nil pass0 ha hdb he hpl) fun σ H Q ⟨C, hh, q⟩ => ⟨C, hh, fun ys vs ρ1 H1 ⟨i, ey, hp, w⟩ S h1 f1 g => ?_⟩
  subst ey
  show spP args pre res (vs ++ []) H1 Q E0
  rw [List.append_nil]
  exact ⟨All C ρ σ, i, fun a m => h1.allIn ((S.all a).mpr m), IsArgs.all g, hp, fun y v H2 r e2 iy => q y v ρ1 H2 (w y r) S (h1.ex e2) (f1.trans e2.fr) iy⟩
end
theorem pn_mod {X : Cx} {ρ : Rho} {s : Bool} {a b : Expr} {pos : Pos} {m n : Nat} (ha : PX X ρ false a (nD m)) (hb : PX X ρ false b (nD n)) (h : 0 < n) : PX X ρ s (.BinOp a .Mod b pos) (nD (m % n)) := px_eq (px_mod ha hb (by omega)) (by show PyData.int _ = PyData.int _; rw [Int.natCast_emod])
theorem t_len : ∀ k : Nat, k < 64 → ((("t" : Str)) ++ ((toString ((k : Nat) : Int) : String) : Str)).length ≤ 50 := by decide +kernel
theorem s_len : ∀ k : Nat, k < 64 → ((("s" : Str)) ++ ((toString ((k : Nat) : Int) : String) : Str)).length ≤ 50 := by decide +kernel
structure RingA where
  g : List Str
  s0 : Nat
  s1 : Nat
  w : Nat
def RingA.pre (a : RingA) : Prop := a.g.length ≤ 1 ∧ 0 < a.s0 ∧ 0 < a.s1 ∧ a.s0 + a.s1 ≤ 50
def ringSum (a : RingA) (i : Nat) : Nat := ([a.s0, a.s1].take i).foldr (· + ·) 0
structure RiI (a : RingA) (b : Nat) (rs : List Reg) (ms : List Nat) : Prop where
  bd : b = 1 + a.g.length + rs.length
  rn : ∀ r ∈ rs, r.nm.length ≤ 50 ∧ r.st < 2 ∧ r.nx < 2 * b
  mv : ∀ m ∈ ms, m < 2 * b
section
variable {P : Program} {w : World} {K : PySem.W.Frag} {mg : Str → Option Value} {base : Heap}
abbrev spRing : Sp := spP (ι := RingA) (fun a => [.tuple (a.g.map .str), .tuple [nD a.s0, nD a.s1], nD a.w]) RingA.pre (fun a y => ∃ m, m.Ok 0 ∧ y = netD m)
set_option maxHeartbeats 40000000 in
theorem ok_ringed (F : Has K mg "_law_ringed" S_law_ringed) (B : Blt mg) : Cal P w K mg base 1 "_law_ringed" P_law_ringed spRing :=
  fnP F sc_law_ringed (fun _ => rfl) (fun _ _ _ _ _ _ us hl => match us, hl with | [_, _, _], _ => rfl) fun f cdv A outer s H E hr a hp => by
    have nd := sc_law_ringed.nd
    obtain ⟨p1, p2, p3, p4⟩ := hp
    refine sd_set 3 nd (px_eq (pn_add pn_1 (pn_lenT rfl B.len b_len (px_v 0))) (y := nD (1 + a.g.length)) (by rw [List.length_map])) ?_
    refine sd_new 4 nd (pf_lst pxs_nil) (sd_new 5 nd (pf_lst pxs_nil) ?_)
    refine sd_for (l := [a.s0, a.s1]) (g := nD) (fun i ρ => ∃ b rs ms, RiI a b rs ms ∧ rs.length = ringSum a i ∧ ms.length = i ∧ ρ = [some (.d (.tuple (a.g.map .str))), some (.d (.tuple [nD a.s0, nD a.s1])), some (.d (nD a.w)), some (.d (nD b)), some (.o true (oL (rs.map regD))), some (.o true (oL (ms.map nD))), none, none]) (fun _ _ => False)
      rfl PassesOwn.never (piw_T (px_v 1)) ⟨_, [], [], ⟨rfl, fun r m => by (cases m), fun r m => by (cases m)⟩, rfl, rfl, rfl⟩ (fun i z ρ' hb ⟨b, rs, ms, t, lr, lm, e⟩ => ?_) (fun ρ' ⟨b, rs, ms, t, lr, lm, e⟩ => ?_) (fun _ _ z => z.elim)
    · subst e
      have hz : 0 < z ∧ ringSum a (i + 1) = ringSum a i + z ∧ ringSum a i + z ≤ 50 := by
        have hi := (List.getElem?_eq_some_iff.mp hb).1
        match i, hi, hb with
        | 0, _, hb =>
          have : a.s0 = z := Option.some.inj hb
          subst this
          unfold ringSum
          simp
          omega
        | 1, _, hb =>
          have : a.s1 = z := Option.some.inj hb
          subst this
          unfold ringSum
          simp
          omega
        | n + 2, h, _ =>
          have h' : n + 2 < 2 := h
          omega
      obtain ⟨z0, z1, z2⟩ := hz
      have tb := t.bd
      refine ⟨[6], _, gd_n 6 nd, ?_⟩
      have mz : a.w % z < z := Nat.mod_lt _ z0
      refine sd_app 5 (x := nD (2 * (b + a.w % z))) rfl (pn_mul2 (pn_add (px_v 3) (pn_mod (px_int1 rfl B.int (px_v 2)) (px_v 6) z0))) (by rw [List.length_map]; have hi := (List.getElem?_eq_some_iff.mp hb).1; rw [lm]; show i < _; simp at hi; omega) ?_
      rw [show ms.map nD ++ [nD (2 * (b + a.w % z))] = (ms ++ [2 * (b + a.w % z)]).map nD by rw [List.map_append]; rfl]
      generalize hms : ms ++ [2 * (b + a.w % z)] = ms1
      refine sd_for (l := List.range z) (g := nD) (fun j ρ => ∃ rs' : List Reg, rs'.length = rs.length + j ∧ (∀ r ∈ rs', r.nm.length ≤ 50 ∧ r.st < 2 ∧ r.nx < 2 * (b + z)) ∧ ρ = [some (.d (.tuple (a.g.map .str))), some (.d (.tuple [nD a.s0, nD a.s1])), some (.d (nD a.w)), some (.d (nD b)), some (.o true (oL (rs'.map regD))), some (.o true (oL (ms1.map nD))), some (.d (nD z)), none]) (fun _ _ => False)
        rfl PassesOwn.never (pw_r rfl B.range (px_v 6) rfl (by omega)) ⟨rs, rfl, fun r m => by have := t.rn r m; exact ⟨this.1, this.2.1, by omega⟩, rfl⟩ (fun j q ρ' hj ⟨rs', l', hr', e⟩ => ?_) (fun ρ' ⟨rs', l', hr', e⟩ => ?_) (fun _ _ z => z.elim)
      · subst e
        obtain ⟨rfl, hq⟩ := range_at hj
        have hn := t_len (b + q) (by omega)
        have mq : (q + z - 1) % z < z := Nat.mod_lt _ z0
        refine ⟨[7], _, gd_n 7 nd, ?_⟩
        refine sd_app 4 (x := regD ⟨("t" : Str) ++ ((toString ((b + q : Nat) : Int) : String) : Str), if q = 0 then 1 else 0, 2 * (b + (q + z - 1) % z)⟩) rfl
          (px_tup (pxs_cons (px_adds px_str (px_strI rfl B.str (pn_add (px_v 3) (px_v 7)) (log_small (by omega))) (by have := hn; rw [str_len] at this; omega)) (pxs_cons (px_eq (px_intB rfl B.int (px_eqI (px_v 7) px_int)) (by
            by_cases h : q = 0
            · subst h
              rfl
            · show PyData.int _ = PyData.int _
              rw [if_neg h, if_neg (by intro w; have := of_decide_eq_true w; omega)]
              rfl)) (pxs_cons (pn_mul2 (pn_add (px_v 3) (pn_mod (px_int1 rfl B.int (pn_sub (pn_add (px_v 7) (px_v 6)) pn_1 (by omega))) (px_v 6) z0))) pxs_nil)))) (by rw [List.length_map, l', lr]; omega) ?_
        refine sd_end [7] ⟨rs' ++ [⟨("t" : Str) ++ ((toString ((b + q : Nat) : Int) : String) : Str), if q = 0 then 1 else 0, 2 * (b + (q + z - 1) % z)⟩], by rw [List.length_append, l']; rfl, fun r m => ?_, by rw [List.map_append]; rfl⟩
        rcases List.mem_append.mp m with m | m
        · exact hr' r m
        · rw [List.mem_singleton.mp m]
          exact ⟨hn, if01, by show 2 * _ < _; omega⟩
      · subst e
        rw [List.length_range] at l'
        refine sd_augA 3 (i := (b : Int)) (j := (z : Int)) nd rfl (px_v 6) ?_
        refine sd_end [6, 7] ⟨b + z, rs', ms1, ⟨by omega, hr', fun m hm => ?_⟩, by rw [l', lr, z1], by rw [← hms, List.length_append, lm]; rfl, rfl⟩
        rw [← hms] at hm
        rcases List.mem_append.mp hm with hm | hm
        · have := t.mv m hm
          omega
        · rw [List.mem_singleton.mp hm]
          omega
    · subst e
      obtain ⟨m0, m1, em⟩ : ∃ m0 m1, ms = [m0, m1] := by
        match ms, lm with
        | [m0, m1], _ => exact ⟨m0, m1, rfl⟩
      subst em
      have lr' : rs.length = a.s0 + a.s1 := by
        rw [lr]
        unfold ringSum
        simp
      have tb := t.bd
      refine sd_keep 4 rfl (sd_keep 5 rfl (sd_retD (px_tup (pxs_cons px_str (pxs_cons (px_v 0) (pxs_cons (px_tupL rfl B.tuple b_tuple (px_v 4)) (pxs_cons (px_tup (pxs_cons (px_tupL rfl B.tuple b_tuple (px_v 5)) pxs_nil)) (pxs_cons (px_tup (pxs_cons (px_tup (pxs_cons px_str (pxs_cons (pn_mul2 (px_v 3)) pxs_nil))) pxs_nil)) (pxs_cons (px_tup pxs_nil) pxs_nil))))))) ⟨⟨a.g, rs, [(m0, m1)], [⟨_, 2 * b⟩], []⟩, ?_, rfl⟩))
      have fa : ∀ os, (⟨a.g, rs, [(m0, m1)], os, []⟩ : Net).fand = b := fun os => tb.symm
      have sz : ∀ os, (⟨a.g, rs, [(m0, m1)], os, []⟩ : Net).size = b + 1 := fun os => by
        unfold Net.size
        rw [fa]
        rfl
      refine ⟨by show a.g.length ≤ 8; omega, by show rs.length ≤ 50; omega, fun r m => (t.rn r m).1, by show 1 ≤ 12; decide, ⟨Nat.le_refl _, by show 1 ≤ 2; decide⟩, fun o m => ?_, by show 0 ≤ 2; decide, fun o m => by (cases m), fun r m => ?_, fun i p e => ?_, fun o m => ?_, fun o m => by (cases m)⟩
      · rw [List.mem_singleton.mp m]
        show (("met" : Str)).length ≤ 50
        decide
      · rw [sz]
        have := t.rn r m
        exact ⟨this.2.1, by omega⟩
      · rw [fa]
        match i, e with
        | 0, e =>
          have : (m0, m1) = p := Option.some.inj e
          subst this
          exact ⟨t.mv m0 (by simp), t.mv m1 (by simp)⟩
      · rw [sz, List.mem_singleton.mp m]
        show 2 * b < _
        omega
abbrev spShift : Sp := spP (ι := List Str × Nat) (fun a => [.tuple (a.1.map .str), nD a.2]) (fun a => a.1.length = 1 ∧ a.2 ≤ 20) (fun a y => ∃ m, m.Ok 0 ∧ y = netD m)
theorem ok_shifted (F : Has K mg "_law_shifted" S_law_shifted) (B : Blt mg) : Cal P w K mg base 1 "_law_shifted" P_law_shifted spShift :=
  fnP F sc_law_shifted (fun _ => rfl) (fun _ _ _ _ _ _ us hl => match us, hl with | [_, _], _ => rfl) fun f cdv A outer s H E hr a hp => by
    have nd := sc_law_shifted.nd
    obtain ⟨p1, p2⟩ := hp
    refine sd_newLc 3 (own := [("_law_k", 2)]) (l := List.range a.2) (g := nD) (f := fun k => regD ⟨("s" : Str) ++ ((toString ((k : Nat) : Int) : String) : Str), 0, 2 * (1 + k)⟩) rfl nd rfl rfl (blkOk_by (N := N_law_shifted) (sc := defScope S_law_shifted) (by decide +kernel)) (pw_r rfl B.range (px_v 1) rfl (by omega)) (by rw [List.length_range]; omega)
      (fun x _ s H C cl fp => gd_n 2 nd) (fun x m s H C cl fp => px_tup (pxs_cons (px_adds px_str (px_strI rfl B.str (px_v 2) (log_small (by have := List.mem_range.mp m; omega))) (by have := List.mem_range.mp m; have := s_len x (by omega); rw [str_len] at this; omega)) (pxs_cons px_int (pxs_cons (pn_mul2 (pn_add pn_1 (px_v 2))) pxs_nil)))) ?_
    rw [show (List.range a.2).map (fun k => regD ⟨("s" : Str) ++ ((toString ((k : Nat) : Int) : String) : Str), 0, 2 * (1 + k)⟩) = ((List.range a.2).map fun k => (⟨("s" : Str) ++ ((toString ((k : Nat) : Int) : String) : Str), 0, 2 * (1 + k)⟩ : Reg)).map regD by rw [List.map_map]; rfl]
    refine sd_keep 3 rfl (sd_retD (px_tup (pxs_cons px_str (pxs_cons (px_v 0) (pxs_cons (px_tupL rfl B.tuple b_tuple (px_v 3)) (pxs_cons (px_tup pxs_nil) (pxs_cons (px_tup (pxs_cons (px_tup (pxs_cons px_str (pxs_cons (pn_mul2 (pn_add pn_1 (px_v 1))) pxs_nil))) pxs_nil)) (pxs_cons (px_tup pxs_nil) pxs_nil))))))) ⟨⟨a.1, _, [], [⟨_, 2 * (1 + a.2)⟩], []⟩, ?_, rfl⟩)
    have sz : ∀ os, (⟨a.1, (List.range a.2).map fun k => (⟨("s" : Str) ++ ((toString ((k : Nat) : Int) : String) : Str), 0, 2 * (1 + k)⟩ : Reg), [], os, []⟩ : Net).size = 2 + a.2 := fun os => by
      unfold Net.size Net.fand
      rw [List.length_map, List.length_range]
      show 1 + a.1.length + a.2 + 0 = _
      omega
    refine ⟨by show a.1.length ≤ 8; omega, by show (List.map _ _).length ≤ 50; rw [List.length_map, List.length_range]; omega, fun r m => ?_, Nat.zero_le _, ⟨Nat.le_refl _, by show 1 ≤ 2; decide⟩, fun o m => ?_, Nat.zero_le _, fun o m => by (cases m), fun r m => ?_, fun i p e => ?_, fun o m => ?_, fun o m => by (cases m)⟩
    · obtain ⟨x, hx, rfl⟩ := List.mem_map.mp m
      have := List.mem_range.mp hx
      exact s_len x (by omega)
    · rw [List.mem_singleton.mp m]
      show (("met" : Str)).length ≤ 50
      decide
    · obtain ⟨x, hx, rfl⟩ := List.mem_map.mp m
      have := List.mem_range.mp hx
      rw [sz]
      exact ⟨Nat.zero_lt_two, by show 2 * (1 + x) < _; omega⟩
    · have e' : ([] : List (Nat × Nat))[i]? = some p := e
      simp at e'
    · rw [sz, List.mem_singleton.mp m]
      show 2 * (1 + a.2) < _
      omega
abbrev Picks (P : Program) (w : World) (K : PySem.W.Frag) (mg : Str → Option Value) (base : Heap) : Prop := Cal P w K mg base 2 "_law_pick" P_law_pick spPick
abbrev spDear : Sp := spR (ι := Unit) (fun _ => []) (fun _ => True) (fun _ y => ∃ m, m.Ok 0 ∧ y = netD m)
theorem ok_dear (F : Has K mg "_law_dear" S_law_dear) (B : Blt mg) (D : Draws P w K mg base) (Pk : Picks P w K mg base) (Ri : Cal P w K mg base 1 "_law_ringed" P_law_ringed spRing) (Sh : Cal P w K mg base 1 "_law_shifted" P_law_shifted spShift) : Cal P w K mg base 3 "_law_dear" P_law_dear spDear :=
  fnR F sc_law_dear (fun _ => rfl) (fun _ _ _ _ _ _ us hl => match us, hl with | [_], _ => rfl) fun f cdv A outer s H E hr a hp => by
    have nd := sc_law_dear.nd
    refine sd_setM 1 nd (pm_draw D 0 (pn_c (k := 3)) ⟨by decide, by decide⟩ fun turn ht => ?_)
    refine sd_ifr (pt_eqI (px_v 1) px_int) (fun h => ?_) fun h => ?_
    · refine sd_retM (pm_callP Sh (pms_cons (pm_x (px_tup (pxs_cons px_str pxs_nil)) (pms_cons (pm_add (pm_x px_int ⟨7, rfl, pm_draw D 0 (pn_c (k := 3)) ⟨by decide, by decide⟩ fun r hr => ⟨(r : Int), rfl, pms_nil ⟨([("i" : Str)], 7 + r), ?_, ⟨rfl, by show 7 + r ≤ 20; omega⟩, fun y h => ⟨h, rfl⟩⟩⟩⟩))))))
      show _ = [Arg.x _, Arg.x (nD (7 + r))]
      rw [show nD (7 + r) = PyData.int (7 + (r : Int)) by show PyData.int _ = PyData.int _; rw [Int.natCast_add]; rfl]
      rfl
    · refine sd_setM 2 nd (pm_callR Pk 0 rfl (pms_cons (pm_x (px_lst (pxs_cons (px_tup (pxs_cons px_int (pxs_cons px_int pxs_nil))) (pxs_cons (px_tup (pxs_cons px_int (pxs_cons px_int pxs_nil))) (pxs_cons (px_tup (pxs_cons px_int (pxs_cons px_int pxs_nil))) (pxs_cons (px_tup (pxs_cons px_int (pxs_cons px_int pxs_nil))) (pxs_cons (px_tup (pxs_cons px_int (pxs_cons px_int pxs_nil))) (pxs_cons (px_tup (pxs_cons px_int (pxs_cons px_int pxs_nil))) pxs_nil))))))) (pms_nil ⟨rfl, _, rfl, ⟨by decide, by decide⟩, fun y hy => ?_⟩))))
      obtain ⟨s0, s1, rfl, q0, q1, q2⟩ : ∃ s0 s1 : Nat, y = .tuple [nD s0, nD s1] ∧ 0 < s0 ∧ 0 < s1 ∧ s0 + s1 ≤ 50 := by
        simp only [List.mem_cons, List.not_mem_nil, or_false] at hy
        rcases hy with rfl | rfl | rfl | rfl | rfl | rfl
        · exact ⟨3, 4, rfl, by decide, by decide, by decide⟩
        · exact ⟨5, 7, rfl, by decide, by decide, by decide⟩
        · exact ⟨12, 25, rfl, by decide, by decide, by decide⟩
        · exact ⟨7, 43, rfl, by decide, by decide, by decide⟩
        · exact ⟨13, 23, rfl, by decide, by decide, by decide⟩
        · exact ⟨16, 19, rfl, by decide, by decide, by decide⟩
      have sp : 0 < s0 * s1 := Nat.mul_pos q0 q1
      have sl : s0 * s1 ≤ 50 * 50 := Nat.mul_le_mul (by omega) (by omega)
      refine sd_set 3 nd (px_eq (px_mul (px_ixT (px_v 2) px_int rfl) (px_ixT (px_v 2) px_int rfl) (.inl ⟨by omega, by omega⟩)) (y := nD (s0 * s1)) (by show PyData.int _ = PyData.int _; rw [Int.natCast_mul])) ?_
      refine sd_setM 4 nd (pm_callR Pk 0 rfl (pms_cons (pm_F ?_ fun ys ρ' h => h)))
      refine pmf_lst (pms_cons (pm_x (pn_sub (px_v 3) pn_1 (by omega)) ?_))
      refine pms_cons (pm_x (pn_c (k := 299)) (pms_cons (pm_x (pn_c (k := 300)) (pms_cons (pm_x (pn_c (k := 301)) ?_)))))
      refine pms_cons (pm_draw D 0 (px_v 3) ⟨sp, by omega⟩ fun r hr => pms_nil ⟨[nD (s0 * s1 - 1), nD 299, nD 300, nD 301, nD r], rfl, le1M (by show 5 ≤ 1000; decide), ?_⟩)
      refine pms_nil ⟨rfl, [nD (s0 * s1 - 1), nD 299, nD 300, nD 301, nD r], rfl, ⟨(by show 0 < 5; decide), (by show 5 < 1073741824; decide)⟩, fun y hy => ?_⟩
      obtain ⟨wh, rfl⟩ : ∃ wh : Nat, y = nD wh := by
        simp only [List.mem_cons, List.not_mem_nil, or_false] at hy
        rcases hy with rfl | rfl | rfl | rfl | rfl <;> exact ⟨_, rfl⟩
      refine sd_retM (pm_callP Ri (pms_cons ?_))
      refine pm_imp (P := fun y ρ' => ρ' = [some (.o false oR), some (.d (nD turn)), some (.d (.tuple [nD s0, nD s1])), some (.d (nD (s0 * s1))), some (.d (nD wh))] ∧ ∃ g : List Str, y = .tuple (g.map .str) ∧ g.length ≤ 1) ?_ fun y ρ' _ ⟨e, g, ey, hg⟩ => ?_
      · exact pm_if (mt_x (pt_eqI (px_v 1) px_int) ⟨fun _ => pm_x (px_tup (pxs_cons px_str pxs_nil)) ⟨rfl, [("i" : Str)], rfl, Nat.le_refl _⟩, fun _ => pm_x (px_tup pxs_nil) ⟨rfl, [], rfl, Nat.zero_le _⟩⟩)
      subst e ey
      exact pms_x (pxs_cons (px_v 2) (pxs_cons (px_v 4) pxs_nil)) ⟨⟨g, s0, s1, wh⟩, rfl, ⟨hg, q0, q1, q2⟩, fun y h => ⟨h, rfl⟩⟩
end
end Bf
set_option Elab.async false
set_option linter.all false
set_option maxRecDepth 100000
set_option maxHeartbeats 4000000
namespace Bf
open PySem PySem.Spec PyProof.Rows L2
/-- what is asked of a net that is compared -/
structure Net.Fine (n : Net) : Prop where
  ins : n.ins.length ≤ 10
  regs : n.regs.length ≤ 100
  ands : n.ands.length ≤ 100
  outs : n.outs.length ≤ 100
  clms : n.clms.length ≤ 100
  rl : ∀ r ∈ n.regs, r.st < 2 ∧ r.nx < 2 * n.size
  al : ∀ (i : Nat) (p : Nat × Nat), n.ands[i]? = some p → p.1 < 2 * (n.fand + i) ∧ p.2 < 2 * (n.fand + i)
  ol : ∀ o ∈ n.outs, o.li < 2 * n.size
  cl : ∀ o ∈ n.clms, o.li < 2 * n.size
theorem Net.Ok.fine {n : Net} {u : Nat} (h : n.Ok u) (hu : u ≤ 50) : n.Fine :=
  ⟨Nat.le_trans h.ins (by decide), Nat.le_trans h.regs (by omega), Nat.le_trans h.ands (by omega), Nat.le_trans h.outs.2 (by omega), Nat.le_trans h.clms (by omega), h.rl, h.al, h.ol, h.cl⟩
theorem Net.Fine.other {n : Net} (h : n.Fine) {is : List Str} {os cs : List Out} (e : is.length = n.ins.length) (lo : os.length ≤ 100) (lc : cs.length ≤ 100) (ho : ∀ o ∈ os, o.li < 2 * n.size) (hc : ∀ o ∈ cs, o.li < 2 * n.size) : Net.Fine ⟨is, n.regs, n.ands, os, cs⟩ := by
  have fa : (⟨is, n.regs, n.ands, os, cs⟩ : Net).fand = n.fand := by
    unfold Net.fand
    rw [e]
  have sz : (⟨is, n.regs, n.ands, os, cs⟩ : Net).size = n.size := by
    unfold Net.size
    rw [fa]
  exact ⟨by show is.length ≤ _; rw [e]; exact h.ins, h.regs, h.ands, lo, lc, by rw [sz]; exact h.rl, by rw [fa]; exact h.al, by rw [sz]; exact ho, by rw [sz]; exact hc⟩
theorem bare_fine {is : List Str} {nm : Str} {l : Nat} (h1 : is.length ≤ 10) (h2 : l < 2 * (1 + is.length)) : Net.Fine ⟨is, [], [], [⟨nm, l⟩], []⟩ :=
  ⟨h1, Nat.zero_le _, Nat.zero_le _, by show 1 ≤ 100; decide, Nat.zero_le _, fun r m => by (cases m), fun i p e => by
    have e' : ([] : List (Nat × Nat))[i]? = some p := e
    simp at e', fun o m => by rw [List.mem_singleton.mp m]; exact h2, fun o m => by (cases m)⟩
structure UnA where
  n : Net
  o : Net
  u : Nat
/-- what the parts may be at the end -/
structure UnI (n o : Net) (is : List Str) (os cs : List Out) : Prop where
  il : is.length = o.ins.length ∨ (is.length = o.ins.length + 1 ∧ 0 < os.length)
  ol : os.length ≤ 100
  cl : cs.length ≤ 100
  om : ∀ x ∈ os, x.li < 2 * o.size
  cm : ∀ x ∈ cs, x.li < 2 * o.size
section
variable {P : Program} {w : World} {K : PySem.W.Frag} {mg : Str → Option Value} {base : Heap}
abbrev spUnl : Sp := spR (ι := UnA) (fun a => [netD a.n, netD a.o]) (fun a => a.o.Ok a.u ∧ a.u ≤ 40 ∧ a.o.ins = a.n.ins) (fun a y => ∃ m, m.Fine ∧ y = netD m)
abbrev unlR (a : UnA) (turn : Nat) (is : List Str) (os cs : List Out) (rg pr : List PyData) (o9 : Option SV) : Rho := [some (.o false oR), some (.d (netD a.n)), some (.d (netD a.o)), some (.d (nD turn)), some (.d (.tuple (is.map .str))), some (.d (.tuple rg)), some (.d (.tuple pr)), some (.d (.tuple (os.map outD))), some (.d (.tuple (cs.map outD))), o9]
set_option maxHeartbeats 40000000 in
theorem ok_unlike (F : Has K mg "_law_unlike" S_law_unlike) (B : Blt mg) (D : Draws P w K mg base) : Cal P w K mg base 2 "_law_unlike" P_law_unlike spUnl :=
  fnR F sc_law_unlike (fun _ => rfl) (fun _ _ _ _ _ _ us hl => match us, hl with | [_, _, _], _ => rfl) fun f cdv A outer s H E hr a hp => by
    have nd := sc_law_unlike.nd
    obtain ⟨ok, hu, hi⟩ := hp
    have fn := ok.fine (by omega)
    have b0 := ok.ins
    have b1 := ok.regs
    have b2 := ok.ands
    have b3 := ok.outs
    have b4 := ok.clms
    have fp : 0 < a.o.size := by unfold Net.size Net.fand; omega
    refine sd_setM 3 nd (pm_draw D 0 (pn_c (k := 5)) ⟨by decide, by decide⟩ fun turn ht => ?_)
    refine sd_asg (px_eq (px_from (px_v 2) pn_1) (y := .tuple [.tuple (a.o.ins.map .str), .tuple (a.o.regs.map regD), .tuple (a.o.ands.map andD), .tuple (a.o.outs.map outD), .tuple (a.o.clms.map outD)]) rfl) (gd_t rfl (gds_cons (gd_n 4 nd) (gds_cons (gd_n 5 nd) (gds_cons (gd_n 6 nd) (gds_cons (gd_n 7 nd) (gds_cons (gd_n 8 nd) gds_nil)))))) ?_
    refine sd_if (fun ρ' => ∃ is os cs, UnI a.n a.o is os cs ∧ ρ' = unlR a turn is os cs (a.o.regs.map regD) (a.o.ands.map andD) none) (pt_eqI (px_v 3) px_int) (fun h0 => ?_) (fun h0 => ?_) (fun ρ' ⟨is, os, cs, t, e⟩ => ?_)
    · -- the inputs back to front, or one more
      by_cases l1 : 1 < a.o.ins.length
      · refine sd_set 4 nd (px_if (x := .tuple (a.o.ins.reverse.map .str)) (pt_gt (px_lenT rfl B.len b_len (px_v 4)) px_int) (fun _ => px_eq (px_revT (px_v 4)) (by rw [← List.map_reverse])) (fun h => ?_)) (sd_nil ⟨a.o.ins.reverse, a.o.outs, a.o.clms, ⟨.inl List.length_reverse, fn.outs, fn.clms, fn.ol, fn.cl⟩, rfl⟩)
        exfalso
        have := of_decide_eq_false h
        rw [List.length_map] at this
        omega
      · refine sd_set 4 nd (px_if (x := .tuple ((a.o.ins ++ [_]).map .str)) (pt_gt (px_lenT rfl B.len b_len (px_v 4)) px_int) (fun h => ?_) (fun _ => px_eq (px_catT (px_v 4) (px_tup (pxs_cons px_str pxs_nil)) (le1M (by rw [List.length_map]; show _ + 1 ≤ _; omega))) (by rw [List.map_append]; rfl))) (sd_nil ⟨a.o.ins ++ [_], a.o.outs, a.o.clms, ⟨.inr ⟨by rw [List.length_append]; rfl, by omega⟩, fn.outs, fn.clms, fn.ol, fn.cl⟩, rfl⟩)
        exfalso
        have := of_decide_eq_true h
        rw [List.length_map] at this
        omega
    refine sd_if (fun ρ' => ∃ is os cs, UnI a.n a.o is os cs ∧ ρ' = unlR a turn is os cs (a.o.regs.map regD) (a.o.ands.map andD) none) (pt_eqI (px_v 3) px_int) (fun h1 => ?_) (fun h1 => ?_) (fun ρ' h => sd_nil h)
    · refine sd_set 4 nd (x := .tuple (((("zz9z" : Str)) :: a.o.ins.drop 1).map .str)) (px_eq (px_catT (px_tup (pxs_cons px_str pxs_nil)) (px_from (px_v 4) pn_1) (le1M (by rw [List.length_drop, List.length_map]; show 1 + _ ≤ _; omega))) (by rw [List.map_cons, List.map_drop]; rfl)) (sd_nil ⟨_, a.o.outs, a.o.clms, ⟨?_, fn.outs, fn.clms, fn.ol, fn.cl⟩, rfl⟩)
      rw [List.length_cons, List.length_drop]
      omega
    refine sd_if (fun ρ' => ∃ is os cs, UnI a.n a.o is os cs ∧ ρ' = unlR a turn is os cs (a.o.regs.map regD) (a.o.ands.map andD) none) (pt_eqI (px_v 3) px_int) (fun h2 => ?_) (fun h2 => ?_) (fun ρ' h => sd_nil h)
    · refine sd_set 7 nd (x := .tuple ((a.o.outs ++ [(⟨("zz9z" : Str), 0⟩ : Out)]).map outD)) (px_eq (px_catT (px_v 7) (px_tup (pxs_cons (px_tup (pxs_cons px_str (pxs_cons px_int pxs_nil))) pxs_nil)) (le1M (by rw [List.length_map]; show _ + 1 ≤ _; omega))) (by rw [List.map_append]; rfl)) (sd_nil ⟨a.o.ins, _, a.o.clms, ⟨.inl rfl, by rw [List.length_append]; show _ + 1 ≤ _; omega, fn.clms, fun x m => ?_, fn.cl⟩, rfl⟩)
      rcases List.mem_append.mp m with m | m
      · exact fn.ol x m
      · rw [List.mem_singleton.mp m]
        show 0 < _
        omega
    obtain ⟨o0, os0, ho⟩ : ∃ o0 os, a.o.outs = o0 :: os := by
      match h : a.o.outs, b3.1 with
      | o0 :: os, _ => exact ⟨o0, os, rfl⟩
    have go : (a.o.outs.map outD)[0]? = some (outD o0) := by rw [ho]; rfl
    refine sd_if (fun ρ' => ∃ is os cs, UnI a.n a.o is os cs ∧ ρ' = unlR a turn is os cs (a.o.regs.map regD) (a.o.ands.map andD) none) (pt_eqI (px_v 3) px_int) (fun h3 => ?_) (fun h3 => ?_) (fun ρ' h => sd_nil h)
    · refine sd_par 7 8 (x := .tuple ((a.o.outs.drop 1).map outD)) (y := .tuple ((a.o.clms ++ [(⟨("zz9z" : Str), o0.li⟩ : Out)]).map outD)) nd rfl (pxs_cons (px_eq (px_from (px_v 7) pn_1) (by rw [List.map_drop])) (pxs_cons (px_eq (px_catT (px_v 8) (px_tup (pxs_cons (px_tup (pxs_cons px_str (pxs_cons (px_ixT (px_ixT (px_v 7) px_int (x := outD o0) (atI_n (j := 0) go)) px_int rfl) pxs_nil))) pxs_nil)) (le1M (by rw [List.length_map]; show _ + 1 ≤ _; omega))) (by rw [List.map_append]; rfl)) pxs_nil)) (sd_nil ⟨a.o.ins, _, _, ⟨.inl rfl, by rw [List.length_drop]; omega, by rw [List.length_append]; show _ + 1 ≤ _; omega, fun x m => fn.ol x (List.mem_of_mem_drop m), fun x m => ?_⟩, rfl⟩)
      rcases List.mem_append.mp m with m | m
      · exact fn.cl x m
      · rw [List.mem_singleton.mp m]
        exact fn.ol o0 (by rw [ho]; exact List.mem_cons_self)
    · by_cases l1 : 0 < a.o.clms.length
      · refine sd_set 8 nd (x := .tuple ((a.o.clms.drop 1).map outD)) (px_if (pt_gt (px_lenT rfl B.len b_len (px_v 8)) px_int) (fun _ => px_eq (px_from (px_v 8) pn_1) (by rw [List.map_drop])) (fun h => ?_)) (sd_nil ⟨a.o.ins, a.o.outs, _, ⟨.inl rfl, fn.outs, by rw [List.length_drop]; omega, fn.ol, fun x m => fn.cl x (List.mem_of_mem_drop m)⟩, rfl⟩)
        exfalso
        have := of_decide_eq_false h
        rw [List.length_map] at this
        omega
      · refine sd_set 8 nd (x := .tuple ([(⟨("zz9z" : Str), 1⟩ : Out)].map outD)) (px_if (pt_gt (px_lenT rfl B.len b_len (px_v 8)) px_int) (fun h => ?_) (fun _ => px_tup (pxs_cons (px_tup (pxs_cons px_str (pxs_cons px_int pxs_nil))) pxs_nil))) (sd_nil ⟨a.o.ins, a.o.outs, _, ⟨.inl rfl, fn.outs, by show 1 ≤ 100; decide, fn.ol, fun x m => by rw [List.mem_singleton.mp m]; show 1 < _; omega⟩, rfl⟩)
        exfalso
        have := of_decide_eq_true h
        rw [List.length_map] at this
        omega
    · subst e
      refine sd_set 9 nd (px_eq (pn_add pn_1 (pn_lenT rfl B.len b_len (px_ixT (px_v 1) px_int rfl))) (y := nD (1 + a.n.ins.length)) (by rw [List.length_map])) ?_
      have hil : a.o.ins.length = a.n.ins.length := by rw [hi]
      refine sd_if (fun ρ' => ∃ (m : Net) (rg pr : List PyData), m.Fine ∧ rg = m.regs.map regD ∧ pr = m.ands.map andD ∧ ρ' = unlR a turn m.ins m.outs m.clms rg pr (some (.d (nD (1 + a.n.ins.length))))) (pt_neI (px_lenT rfl B.len b_len (px_v 4)) (px_lenT rfl B.len b_len (px_ixT (px_v 1) px_int rfl))) (fun h => ?_) (fun h => ?_) (fun ρ' ⟨m, rg, pr, mf, e1, e2, e⟩ => ?_)
      · have ne : is.length ≠ a.n.ins.length := by
          intro z
          rw [List.length_map, List.length_map, z] at h
          simp at h
        have more : is.length = a.o.ins.length + 1 ∧ 0 < os.length := t.il.resolve_left fun z => ne (by omega)
        obtain ⟨x0, xs, hx⟩ : ∃ x0 xs, os = x0 :: xs := by
          match hh : os, more.2 with
          | x0 :: xs, _ => exact ⟨x0, xs, rfl⟩
          | [], h => simp at h
        subst hx
        refine sd_asg (px_tup (pxs_cons (px_tup pxs_nil) (pxs_cons (px_tup pxs_nil) (pxs_cons (px_eq (px_to (px_v 7) pn_1) (y := .tuple [outD x0]) rfl) (pxs_cons (px_tup pxs_nil) pxs_nil))))) (gd_t rfl (gds_cons (gd_n 5 nd) (gds_cons (gd_n 6 nd) (gds_cons (gd_n 7 nd) (gds_cons (gd_n 8 nd) gds_nil))))) ?_
        refine sd_set 7 nd (px_tup (pxs_cons (px_tup (pxs_cons (px_ixT (px_ixT (px_v 7) px_int (x := outD x0) rfl) px_int rfl) (pxs_cons (px_v 9) pxs_nil))) pxs_nil)) (sd_nil ⟨⟨is, [], [], [⟨x0.nm, 1 + a.n.ins.length⟩], []⟩, [], [], bare_fine (by omega) (by omega), rfl, rfl, rfl⟩)
      · have eq : is.length = a.o.ins.length := by
          rw [List.length_map, List.length_map] at h
          have h' : decide ((is.length : Int) = a.n.ins.length) = true := by
            cases hd : decide ((is.length : Int) = a.n.ins.length) with
            | true => rfl
            | false =>
              rw [hd] at h
              cases h
          have := of_decide_eq_true h'
          omega
        exact sd_nil ⟨⟨is, a.o.regs, a.o.ands, os, cs⟩, _, _, fn.other eq t.ol t.cl t.om t.cm, rfl, rfl, rfl⟩
      · subst e e1 e2
        exact sd_retD (px_tup (pxs_cons px_str (pxs_cons (px_v 4) (pxs_cons (px_v 5) (pxs_cons (px_v 6) (pxs_cons (px_v 7) (pxs_cons (px_v 8) pxs_nil))))))) ⟨⟨m, mf, rfl⟩, rfl⟩
end
end Bf
set_option Elab.async false
set_option linter.all false
set_option maxRecDepth 100000
set_option maxHeartbeats 4000000
namespace Bf
open PySem PySem.Spec PyProof.Rows L2
theorem pm_addN {X : Cx} {ρ : Rho} {a b : Expr} {pos : Pos} {P : PyData → Rho → Prop} (h : PM X ρ a (fun y ρ1 => ∃ m : Nat, y = nD m ∧ PM X ρ1 b (fun z ρ2 => ∃ n : Nat, z = nD n ∧ P (nD (m + n)) ρ2))) : PM X ρ (.BinOp a .Add b pos) P :=
  pm_add (pm_imp h fun y ρ1 _ ⟨m, e, h2⟩ => ⟨(m : Int), e, pm_imp h2 fun z ρ2 _ ⟨n, e2, p⟩ => ⟨(n : Int), e2, by
    have : nD (m + n) = PyData.int ((m : Int) + (n : Int)) := by
      show PyData.int _ = PyData.int _
      rw [Int.natCast_add]
    rw [← this]
    exact p⟩⟩)
section
variable {P : Program} {w : World} {K : PySem.W.Frag} {mg : Str → Option Value} {base : Heap}
abbrev spSmall : Sp := spR (ι := Unit) (fun _ => []) (fun _ => True) (fun _ y => ∃ n o, n.Ok 0 ∧ o.Fine ∧ y = .tuple [netD n, netD o])
set_option maxHeartbeats 40000000 in
theorem ok_small (F : Has K mg "_law_small" S_law_small) (B : Blt mg) (D : Draws P w K mg base) (Ra : Cal P w K mg base 2 "_law_rare" P_law_rare spRare) (Ne : Cal P w K mg base 3 "_law_net" P_law_net spNet) (Va : Cal P w K mg base 4 "_law_variant" P_law_variant spVar)
    (Tr : Cal P w K mg base 2 "_law_trapped" P_law_trapped spTrap) (Sp : Cal P w K mg base 2 "_law_spoilt" P_law_spoilt spSpoil) (Un : Cal P w K mg base 2 "_law_unlike" P_law_unlike spUnl) : Cal P w K mg base 5 "_law_small" P_law_small spSmall :=
  fnR F sc_law_small (fun _ => rfl) (fun _ _ _ _ _ _ us hl => match us, hl with | [_], _ => rfl) fun f cdv A outer s H E hr a hp => by
    have nd := sc_law_small.nd
    refine sd_setM 1 nd (pm_imp (P := fun y ρ' => ρ' = rho0 N_law_small (rArgs []) ∧ ∃ i : Nat, y = nD i ∧ i ≤ 7) ?_ fun y ρ' _ ⟨e, i, ey, hi⟩ => ?_)
    · refine pm_if (mt_m (pm_callR Ra 0 rfl (pms_cons (pm_x (pn_c (k := 15)) (pms_nil ⟨rfl, 15, rfl, ⟨by decide, by decide⟩, fun y ⟨b, hb⟩ => ⟨b, hb, fun _ => ?_, fun _ => ?_⟩⟩)))))
      · exact pm_addN (pm_x (pn_c (k := 6)) ⟨6, rfl, pm_draw D 0 pn_2 ⟨by decide, by decide⟩ fun r hr => ⟨r, rfl, rfl, 6 + r, rfl, by omega⟩⟩)
      · exact pm_draw D 0 (pn_c (k := 3)) ⟨by decide, by decide⟩ fun r hr => ⟨rfl, r, rfl, by omega⟩
    subst e ey
    refine sd_setM 2 nd (pm_imp (P := fun y ρ' => ρ' = [some (.o false oR), some (.d (nD i)), none, none, none, none, none, none, none, none] ∧ ∃ r : Nat, y = nD r ∧ r ≤ 4) ?_ fun y ρ' _ ⟨e, r, ey, hr'⟩ => ?_)
    · exact pm_if (mt_x (pt_gt (px_v 1) px_int) ⟨fun _ => pm_draw D 0 pn_2 ⟨by decide, by decide⟩ fun r hr => ⟨rfl, r, rfl, by omega⟩, fun _ => pm_draw D 0 (pn_c (k := 5)) ⟨by decide, by decide⟩ fun r hr => ⟨rfl, r, rfl, by omega⟩⟩)
    subst e ey
    refine sd_setM 3 nd (pm_callR Ne 0 rfl (pms_cons (pm_x (px_v 1) (pms_cons (pm_x (px_v 2) (pms_cons (pm_draw D 0 (pn_c (k := 11)) ⟨by decide, by decide⟩ fun na hna => ?_)))))))
    refine pms_cons (pm_addN (pm_x pn_1 ⟨1, rfl, pm_draw D 0 pn_2 ⟨by decide, by decide⟩ fun no hno => ⟨no, rfl, pms_cons (pm_draw D 0 pn_2 ⟨by decide, by decide⟩ fun nc hnc => pms_nil ⟨rfl, ⟨i, r, na, 1 + no, nc⟩, rfl, ⟨by show i ≤ 8; omega, by show r ≤ 8; omega, by show na ≤ 12; omega, by show 1 ≤ 1 + no; omega, by show 1 + no ≤ 2; omega, by show nc ≤ 2; omega⟩, fun y ⟨m, ms, ey⟩ => ?_⟩)⟩⟩))
    subst ey
    have mo := ms.ok
    have m4 := ms.o
    have m5 := ms.c
    have m1 := ms.i
    refine sd_setM 4 nd (pm_draw D 0 (pn_c (k := 8)) ⟨by decide, by decide⟩ fun turn ht => ?_)
    refine sd_ifr (pt_w (pw_an (pt_eqI (px_v 4) px_int) (fun _ => pw_an1 (pt_lt (px_v 1) px_int)))) (fun h => ?_) fun h => ?_
    · refine sd_setM 5 nd (pm_callR Ne 0 rfl (pms_cons (pm_x (px_v 1) (pms_cons (pm_draw D 0 (pn_c (k := 4)) ⟨by decide, by decide⟩ fun nr hnr => pms_cons (pm_draw D 0 (pn_c (k := 8)) ⟨by decide, by decide⟩ fun nb hnb => ?_))))))
      refine pms_x (pxs_cons (px_eq (pn_lenT rfl B.len b_len (px_ixT (px_v 3) px_int rfl)) (y := nD (1 + no)) (by rw [List.length_map, m4])) (pxs_cons (px_eq (pn_lenT rfl B.len b_len (px_ixT (px_v 3) px_int rfl)) (y := nD nc) (by rw [List.length_map, m5])) pxs_nil)) ⟨rfl, ⟨i, nr, nb, 1 + no, nc⟩, rfl, ⟨by show i ≤ 8; omega, by show nr ≤ 8; omega, by show nb ≤ 12; omega, by show 1 ≤ 1 + no; omega, by show 1 + no ≤ 2; omega, by show nc ≤ 2; omega⟩, fun y ⟨q, qs, ey⟩ => ?_⟩
      subst ey
      have qo := qs.ok
      have q2 : q.regs.length = nr := qs.r
      refine sd_newLc 7 (own := [("_law_k", 6)]) (l := List.range q.regs.length) (g := nD) (f := fun k => regD ⟨("copy" : Str) ++ ((toString ((k : Nat) : Int) : String) : Str), (q.regs.getD k ⟨"", 0, 0⟩).st, (q.regs.getD k ⟨"", 0, 0⟩).nx⟩) rfl nd rfl rfl (blkOk_by (N := N_law_small) (sc := defScope S_law_small) (by decide +kernel)) (pw_r rfl B.range (pn_lenT rfl B.len b_len (px_ixT (px_v 5) px_int rfl)) (by rw [List.length_map]) (by omega)) (by rw [List.length_range]; omega)
        (fun x _ s H C cl fp => gd_n 6 nd) (fun x mx s H C cl fp => by
          have lx := List.mem_range.mp mx
          have gx : q.regs[x]? = some (q.regs.getD x ⟨"", 0, 0⟩) := by rw [List.getD_eq_getElem?_getD, List.getElem?_eq_getElem lx]; rfl
          generalize q.regs.getD x ⟨"", 0, 0⟩ = rx at gx
          have hl := copy_len x (by omega)
          exact px_tup (pxs_cons (px_adds px_str (px_strI rfl B.str (px_v 6) (log_small (by omega))) (by have := hl; rw [str_len] at this; omega)) (pxs_cons (px_ixT (px_ixT (px_ixT (px_v 5) px_int rfl) (px_v 6) (x := regD rx) (atI_n (map_at gx))) px_int rfl) (pxs_cons (px_ixT (px_ixT (px_ixT (px_v 5) px_int rfl) (px_v 6) (x := regD rx) (atI_n (map_at gx))) px_int rfl) pxs_nil)))) ?_
      rw [show ((List.range q.regs.length).map fun k => regD ⟨("copy" : Str) ++ ((toString ((k : Nat) : Int) : String) : Str), (q.regs.getD k ⟨"", 0, 0⟩).st, (q.regs.getD k ⟨"", 0, 0⟩).nx⟩) = ((List.range q.regs.length).map fun k => (⟨("copy" : Str) ++ ((toString ((k : Nat) : Int) : String) : Str), (q.regs.getD k ⟨"", 0, 0⟩).st, (q.regs.getD k ⟨"", 0, 0⟩).nx⟩ : Reg)).map regD by rw [List.map_map]; rfl]
      refine sd_keep 7 rfl (sd_retD (px_tup (pxs_cons (px_v 3) (pxs_cons (px_eq (px_catT (px_tup (pxs_cons px_str (pxs_cons (px_ixT (px_v 3) px_int rfl) (pxs_cons (px_tupL rfl B.tuple b_tuple (px_v 7)) pxs_nil)))) (px_from (px_v 5) (pn_c (k := 3))) (Nat.le_of_ble_eq_true rfl)) (y := netD ⟨m.ins, _, q.ands, q.outs, q.clms⟩) rfl) pxs_nil))) ⟨⟨m, _, mo, ?_, rfl⟩, rfl⟩)
      have fa : ∀ rs : List Reg, rs.length = q.regs.length → (⟨m.ins, rs, q.ands, q.outs, q.clms⟩ : Net).fand = q.fand := fun rs hl => by
        show 1 + m.ins.length + rs.length = 1 + q.ins.length + q.regs.length
        rw [hl, m1, qs.i]
      have sz : ∀ rs : List Reg, rs.length = q.regs.length → (⟨m.ins, rs, q.ands, q.outs, q.clms⟩ : Net).size = q.size := fun rs hl => by
        unfold Net.size
        rw [fa rs hl]
      have ll : ((List.range q.regs.length).map fun k => (⟨("copy" : Str) ++ ((toString ((k : Nat) : Int) : String) : Str), (q.regs.getD k ⟨"", 0, 0⟩).st, (q.regs.getD k ⟨"", 0, 0⟩).nx⟩ : Reg)).length = q.regs.length := by rw [List.length_map, List.length_range]
      have qf := qo.fine (by decide)
      refine ⟨by show m.ins.length ≤ 10; have := mo.ins; omega, by rw [ll]; exact qf.regs, qf.ands, qf.outs, qf.clms, fun r m' => ?_, by rw [fa _ ll]; exact qf.al, by rw [sz _ ll]; exact qf.ol, by rw [sz _ ll]; exact qf.cl⟩
      obtain ⟨x, hx, rfl⟩ := List.mem_map.mp m'
      have lx := List.mem_range.mp hx
      rw [sz _ ll]
      have mem : q.regs.getD x ⟨"", 0, 0⟩ ∈ q.regs := by rw [List.getD_eq_getElem?_getD, List.getElem?_eq_getElem lx]; exact List.getElem_mem lx
      have hq := qf.rl _ mem
      exact hq
    refine sd_asgM (pm_callR Va 0 rfl (pms_cons (pm_x (px_v 3) (pms_cons (pm_draw D 0 (pn_c (k := 4)) ⟨by decide, by decide⟩ fun st hst => pms_nil ⟨rfl, ⟨m, 0, st⟩, rfl, ⟨mo, by show 0 + st ≤ 20; omega⟩, fun y ⟨o, x, oo, oi, ey⟩ => ?_⟩)))))
    subst ey
    have oo' : o.Ok 3 := oo.mono (by show 0 + st ≤ 3; omega)
    refine ⟨[8, 9], _, gd_t rfl (gds_cons (gd_n 8 nd) (gds_cons (gd_n 9 nd) gds_nil)), ?_⟩
    refine sd_ifr (pt_lt (px_v 4) px_int) (fun h => sd_retD (px_tup (pxs_cons (px_v 3) (pxs_cons (px_v 8) pxs_nil))) ⟨⟨m, o, mo, oo'.fine (by decide), rfl⟩, rfl⟩) fun h => ?_
    refine sd_ifr (pt_lt (px_v 4) px_int) (fun h => ?_) fun h => ?_
    · refine sd_retM (pm_tup (pms_cons (pm_x (px_v 3) (pms_cons (pm_callR Tr 0 rfl (pms_cons (pm_x (px_v 8) (pms_cons (pm_imp (P := fun y ρ' => ρ' = [some (.o false oR), some (.d (nD i)), some (.d (nD r)), some (.d (netD m)), some (.d (nD turn)), none, none, none, some (.d (netD o)), some (.d x)] ∧ ∃ k : Nat, y = nD k ∧ 1 ≤ k ∧ k ≤ 4) ?_ fun y ρ' _ ⟨e, k, ey, k1, k2⟩ => ?_)))))))))
      · exact pm_if (mt_x (pt_gt (px_v 1) px_int) ⟨fun _ => pm_x pn_1 ⟨rfl, 1, rfl, by decide, by decide⟩, fun _ => pm_addN (pm_x pn_1 ⟨1, rfl, pm_draw D 0 (pn_c (k := 4)) ⟨by decide, by decide⟩ fun r hr => ⟨r, rfl, rfl, 1 + r, rfl, by omega, by omega⟩⟩)⟩)
      · subst e ey
        refine pms_nil ⟨rfl, ⟨o, 3, k⟩, rfl, ⟨oo', by show 3 ≤ 30; decide, k1, k2⟩, fun y ⟨q, qo, qi, ey⟩ => ?_⟩
        subst ey
        exact pms_nil ⟨[netD m, netD q], rfl, le2, ⟨m, q, mo, qo.fine (Nat.le_of_ble_eq_true rfl), rfl⟩, rfl⟩
    refine sd_ifr (pt_eqI (px_v 4) px_int) (fun h => ?_) fun h => ?_
    · refine sd_retM (pm_tup (pms_cons (pm_x (px_v 3) (pms_cons (pm_callR Sp 0 rfl (pms_cons (pm_x (px_v 8) (pms_nil ⟨rfl, ⟨o, 3⟩, rfl, ⟨oo', by show 3 ≤ 30; decide⟩, fun y ⟨q, qo, qi, ey⟩ => ?_⟩))))))))
      subst ey
      exact pms_nil ⟨[netD m, netD q], rfl, le2, ⟨m, q, mo, qo.fine (Nat.le_of_ble_eq_true rfl), rfl⟩, rfl⟩
    · refine sd_retM (pm_tup (pms_cons (pm_x (px_v 3) (pms_cons (pm_callR Un 0 rfl (pms_cons (pm_x (px_v 3) (pms_cons (pm_x (px_v 8) (pms_nil ⟨rfl, ⟨m, o, 3⟩, rfl, ⟨oo', by show 3 ≤ 40; decide, oi⟩, fun y ⟨q, qo, ey⟩ => ?_⟩))))))))))
      subst ey
      exact pms_nil ⟨[netD m, netD q], rfl, le2, ⟨m, q, mo, qo, rfl⟩, rfl⟩
end
end Bf
set_option Elab.async false
set_option linter.all false
set_option maxRecDepth 100000
set_option maxHeartbeats 4000000
namespace Bf
open PySem PySem.Spec PyProof.Rows L2
/-! ### the law's runs -/
def stepB (bs : List Nat) (p : Nat × Nat) : List Nat := bs ++ [litN bs p.1 &&& litN bs p.2]
def bitsU (n : Net) (g s : List Nat) (i : Nat) : List Nat := (n.ands.take i).foldl stepB (0 :: (g ++ s))
def bitsN (n : Net) (g s : List Nat) : List Nat := bitsU n g s n.ands.length
theorem bitsU_succ {n : Net} {g s : List Nat} {i : Nat} {p : Nat × Nat} (h : n.ands[i]? = some p) : bitsU n g s (i + 1) = stepB (bitsU n g s i) p := by
  unfold bitsU
  rw [take_succ h, List.foldl_append]
  rfl
theorem bitsU_len {n : Net} {g s : List Nat} : ∀ {i : Nat}, i ≤ n.ands.length → (bitsU n g s i).length = 1 + g.length + s.length + i
  | 0, _ => by
    unfold bitsU
    simp
    omega
  | i + 1, h => by
    have gi : n.ands[i]? = some n.ands[i] := List.getElem?_eq_getElem (by omega)
    rw [bitsU_succ gi]
    unfold stepB
    rw [List.length_append, bitsU_len (by omega)]
    rfl
def shownN (n : Net) (bs : List Nat) : List Nat := n.outs.map (fun o => litN bs o.li) ++ n.clms.map fun o => litN bs o.li
def nextN (n : Net) (bs : List Nat) : List Nat := n.regs.map fun r => litN bs r.nx
def startN (n : Net) : List Nat := n.regs.map Reg.st
abbrev tupD (l : List Nat) : PyData := .tuple (l.map nD)
structure BeatA where
  n : Net
  g : List Nat
  s : List Nat
def BeatA.pre (a : BeatA) : Prop := a.n.Fine ∧ a.g.length = a.n.ins.length ∧ a.s.length = a.n.regs.length
def rowD (k b : Nat) : List Nat := (List.range k).map fun j => b / 2 ^ j % 2
section
variable {P : Program} {w : World} {K : PySem.W.Frag} {mg : Str → Option Value} {base : Heap}
abbrev spBits : Sp := spP (ι := BeatA) (fun a => [netD a.n, tupD a.g, tupD a.s]) BeatA.pre (fun a y => y = .list ((bitsN a.n a.g a.s).map nD))
theorem ok_net_bits (F : Has K mg "_law_net_bits" S_law_net_bits) (B : Blt mg) (L : Lits P w K mg base) : Cal P w K mg base 2 "_law_net_bits" P_law_net_bits spBits :=
  fnP F sc_law_net_bits (fun _ => rfl) (fun _ _ _ _ _ _ us hl => match us, hl with | [_, _, _], _ => rfl) fun f cdv A outer s H E hr a hp => by
    have nd := sc_law_net_bits.nd
    obtain ⟨fn, hg, hs⟩ := hp
    have b1 := fn.ins
    have b2 := fn.regs
    have b3 := fn.ands
    refine sd_new 3 nd (pf_eq (ys := (bitsU a.n a.g a.s 0).map nD) (pf_cat (px_F (pf_cat (px_lst (pxs_cons px_int pxs_nil)) (px_F (pf_lstT rfl B.list b_list (px_v 1))) (le1M (by rw [List.length_map]; show 1 + _ ≤ _; omega)))) (px_F (pf_lstT rfl B.list b_list (px_v 2))) (le1M (by rw [List.length_append, List.length_map, List.length_map]; show 1 + _ + _ ≤ _; omega))) (by
      show _ = ((0 :: (a.g ++ a.s)).map nD)
      rw [List.map_cons, List.map_append]
      rfl)) ?_
    refine sd_for (l := a.n.ands) (g := andD) (fun i ρ => ρ = [some (.d (netD a.n)), some (.d (tupD a.g)), some (.d (tupD a.s)), some (.o true (oL ((bitsU a.n a.g a.s i).map nD))), none, none]) (fun _ _ => False)
      rfl PassesOwn.never (piw_T (px_ixT (px_v 0) px_int rfl)) rfl (fun i q ρ' hb e => ?_) (fun ρ' e => ?_) (fun _ _ z => z.elim)
    · subst e
      have hi := (List.getElem?_eq_some_iff.mp hb).1
      have al := fn.al i q hb
      have len := bitsU_len (n := a.n) (g := a.g) (s := a.s) (Nat.le_of_lt hi)
      have ef : a.n.fand = 1 + a.g.length + a.s.length := by rw [hg, hs]; rfl
      refine ⟨[4, 5], _, gd_t rfl (gds_cons (gd_n 4 nd) (gds_cons (gd_n 5 nd) gds_nil)), ?_⟩
      refine sd_app 3 rfl (pn_and (px_lit L (px_b 3) (px_v 4) (by omega)) (px_lit L (px_b 3) (px_v 5) (by omega))) (by rw [List.length_map, len]; omega) (sd_end [4, 5] ?_)
      show _ = _
      rw [bitsU_succ hb]
      unfold stepB
      rw [List.map_append]
      rfl
    · subst e
      exact sd_retO 3 rfl rfl
abbrev spStart : Sp := spP (ι := Net) (fun n => [netD n]) Net.Fine (fun n y => y = tupD (startN n))
theorem ok_net_start (F : Has K mg "_law_net_start" S_law_net_start) (B : Blt mg) : Cal P w K mg base 1 "_law_net_start" P_law_net_start spStart :=
  fnP F sc_law_net_start (fun _ => rfl) (fun _ _ _ _ _ _ us hl => match us, hl with | [_], _ => rfl) fun f cdv A outer s H E hr a hp => by
    have nd := sc_law_net_start.nd
    have b2 := hp.regs
    refine sd_retD (px_eq (px_tupL rfl B.tuple b_tuple (px_lc (own := [("_law_row", 1)]) (l := a.regs) (g := regD) (f := fun r => nD r.st) rfl nd (blkOk_by (N := N_law_net_start) (sc := defScope S_law_net_start) (by decide +kernel)) (piw_T (px_ixT (px_v 0) px_int rfl)) (by omega) (fun x _ s H C cl fp => gd_n 1 nd) (fun x _ s H C cl fp => px_ixT (px_v 1) px_int rfl))) (y := tupD (startN a)) (by
      unfold startN tupD
      rw [List.map_map]
      rfl)) rfl
abbrev spBeat : Sp := spP (ι := BeatA) (fun a => [netD a.n, tupD a.g, tupD a.s]) BeatA.pre (fun a y => y = .tuple [tupD (shownN a.n (bitsN a.n a.g a.s)), tupD (nextN a.n (bitsN a.n a.g a.s))])
theorem ok_net_beat (F : Has K mg "_law_net_beat" S_law_net_beat) (B : Blt mg) (L : Lits P w K mg base) (Nb : Cal P w K mg base 2 "_law_net_bits" P_law_net_bits spBits) : Cal P w K mg base 3 "_law_net_beat" P_law_net_beat spBeat :=
  fnP F sc_law_net_beat (fun _ => rfl) (fun _ _ _ _ _ _ us hl => match us, hl with | [_, _, _], _ => rfl) fun f cdv A outer s H E hr a hp => by
    have nd := sc_law_net_beat.nd
    have fn := hp.1
    have b3 := fn.outs
    have b4 := fn.clms
    have b5 := fn.regs
    have len : (bitsN a.n a.g a.s).length = a.n.size := by
      unfold bitsN
      rw [bitsU_len (Nat.le_refl _), hp.2.1, hp.2.2]
      rfl
    refine sd_set 3 nd (px_call Nb a hp (pxs_cons (px_v 0) (pxs_cons (px_v 1) (pxs_cons (px_v 2) pxs_nil))) (fun y e => e)) ?_
    generalize bitsN a.n a.g a.s = bs at len
    have lt : ∀ l, l < 2 * a.n.size → l / 2 < bs.length := fun l h => by
      rw [len]
      omega
    refine sd_set 5 nd (px_eq (px_F (pf_cat (px_lc (own := [("_law_row", 4)]) (l := a.n.outs) (g := outD) (f := fun r => nD (litN bs r.li)) rfl nd (blkOk_by (N := N_law_net_beat) (sc := defScope S_law_net_beat) (by decide +kernel)) (piw_T (px_ixT (px_v 0) px_int rfl)) (by omega) (fun x _ s H C cl fp => gd_n 4 nd) (fun x m s H C cl fp => px_lit L (px_v 3) (px_ixT (px_v 4) px_int rfl) (lt _ (fn.ol x m))))
        (px_lc (own := [("_law_row", 4)]) (l := a.n.clms) (g := outD) (f := fun r => nD (litN bs r.li)) rfl nd (blkOk_by (N := N_law_net_beat) (sc := defScope S_law_net_beat) (by decide +kernel)) (piw_T (px_ixT (px_v 0) px_int rfl)) (by omega) (fun x _ s H C cl fp => gd_n 4 nd) (fun x m s H C cl fp => px_lit L (px_v 3) (px_ixT (px_v 4) px_int rfl) (lt _ (fn.cl x m)))) (le1M (by rw [List.length_map, List.length_map]; omega)))) (y := .list ((shownN a.n bs).map nD)) (by
      unfold shownN
      rw [List.map_append, List.map_map, List.map_map]
      rfl)) ?_
    refine sd_retD (px_tup (pxs_cons (px_tupL rfl B.tuple b_tuple (px_v 5)) (pxs_cons (px_eq (px_tupL rfl B.tuple b_tuple (px_lc (own := [("_law_row", 4)]) (l := a.n.regs) (g := regD) (f := fun r => nD (litN bs r.nx)) rfl nd (blkOk_by (N := N_law_net_beat) (sc := defScope S_law_net_beat) (by decide +kernel)) (piw_T (px_ixT (px_v 0) px_int rfl)) (by omega) (fun x _ s H C cl fp => gd_n 4 nd) (fun x m s H C cl fp => px_lit L (px_v 3) (px_ixT (px_v 4) px_int rfl) (lt _ (fn.rl x m).2)))) (y := tupD (nextN a.n bs)) (by
      unfold nextN tupD
      rw [List.map_map]
      rfl)) pxs_nil))) rfl
abbrev spAll : Sp := spP (ι := Nat) (fun k => [nD k]) (fun k => k ≤ 6) (fun k y => y = .list ((List.range (2 ^ k)).map fun b => tupD (rowD k b)))
theorem ok_all_bits (F : Has K mg "_law_all_bits" S_law_all_bits) (B : Blt mg) : Cal P w K mg base 1 "_law_all_bits" P_law_all_bits spAll :=
  fnP F sc_law_all_bits (fun _ => rfl) (fun _ _ _ _ _ _ us hl => match us, hl with | [_], _ => rfl) fun f cdv A outer s H E hr k hp => by
    have nd := sc_law_all_bits.nd
    have pk : 2 ^ k ≤ 2 ^ 6 := Nat.pow_le_pow_right (by decide) hp
    refine sd_retD (px_lc (own := [("_law_b", 1)]) (l := List.range (2 ^ k)) (g := nD) (f := fun b => tupD (rowD k b)) rfl nd (blkOk_by (N := N_law_all_bits) (sc := defScope S_law_all_bits) (by decide +kernel)) (pw_r rfl B.range (pn_shl pn_1 (px_v 0) (by decide) (by omega)) (by rw [Nat.one_mul]) (by omega)) (by rw [List.length_range]; omega) (fun x _ s H C cl fp => gd_n 1 nd)
      (fun x _ s H C cl fp => px_eq (px_tupL rfl B.tuple b_tuple (px_lc (own := [("_law_k", 2)]) (l := List.range k) (g := nD) (f := fun j => nD (x / 2 ^ j % 2)) rfl nd (blkOk_by (N := N_law_all_bits) (by rfl)) (pw_r rfl B.range (px_v 0) rfl (by omega)) (by rw [List.length_range]; omega) (fun y _ s H C cl fp => gd_n 2 nd) (fun y _ s H C cl fp => px_eq (pn_and (pn_shr (px_v 1) (px_v 2)) pn_1) (by rw [Nat.and_one_is_mod])))) (by
        unfold rowD tupD
        rw [List.map_map]
        rfl))) rfl
end
end Bf
set_option Elab.async false
set_option linter.all false
set_option maxRecDepth 100000
set_option maxHeartbeats 4000000
namespace Bf
open PySem PySem.Spec PyProof.Rows L2
abbrev zs (l : List Nat) : List Int := l.map fun n : Nat => (n : Int)
theorem zs_inj {a b : List Nat} (h : zs a = zs b) : a = b := by
  induction a generalizing b with
  | nil =>
    cases b with
    | nil => rfl
    | cons y b => cases h
  | cons x a ih =>
    cases b with
    | nil => cases h
    | cons y b =>
      have h1 : (x : Int) = y := (List.cons.inj h).1
      rw [ih (List.cons.inj h).2, Int.ofNat.inj h1]
theorem tupD_zs (l : List Nat) : tupD l = .tuple ((zs l).map .int) := by
  unfold tupD zs
  rw [List.map_map]
  rfl
theorem tupD_inj {a b : List Nat} (h : tupD a = tupD b) : a = b := by
  induction a generalizing b with
  | nil =>
    cases b with
    | nil => rfl
    | cons y b => cases h
  | cons x a ih =>
    cases b with
    | nil => cases h
    | cons y b =>
      have h' : nD x :: a.map nD = nD y :: b.map nD := PyData.tuple.inj h
      have h1 : (x : Int) = y := PyData.int.inj (List.cons.inj h').1
      have h2 : tupD a = tupD b := congrArg PyData.tuple (List.cons.inj h').2
      rw [ih h2, Int.ofNat.inj h1]
theorem flat_nats : ∀ l : List Nat, flatAll (l.map nD) = true
  | [] => rfl
  | _ :: l => flat_nats l
theorem flat_tupD (l : List Nat) : flatD (tupD l) = true := flat_nats l
theorem IsAll.zints {M : Ad} {H : Hp} : ∀ {l : List Nat} {vs : List V}, IsAll M H (l.map nD) vs → vs = (zs l).map V.int
  | [], [], _ => rfl
  | n :: l, v :: vs, h => by
    have h1 : v = .int (n : Int) := h.1
    rw [h1, IsAll.zints h.2]
    rfl
  | [], _ :: _, h => h.elim
  | _ :: _, [], h => h.elim
theorem itup_of {P : Program} {w : World} {M : Ad} {H : Hp} {h : Heap} {l : List Nat} {t : Addr} (ok : HOk P w H h) (g : Is M H (tupD l) (.ref t)) : ITup h (.ref t) (zs l) := by
  obtain ⟨a, vs, e, _, g3, g4⟩ := g
  cases e
  obtain ⟨_, its, rv, o, ho, hc, n, hd⟩ := ok _ _ g3
  rw [IsAll.zints g4] at rv
  exact ⟨t, o, its.toArray, n, rfl, ho, hc, hd, Vals.ints rv⟩
theorem kat_first {h : Heap} : ∀ {vs : List Value}, (∀ v ∈ vs, ∃ a o xs n f, v = .ref a ∧ h.get? a = some o ∧ o.cls = .type "tuple" ∧ o.data = .seq xs n ∧ xs[0]? = some f ∧ True) → ∃ fs, PySem.W.KatTups h vs fs ∧ fs.length = vs.length ∧ ∀ f ∈ fs, ∃ v ∈ vs, ∃ a o xs n, v = .ref a ∧ h.get? a = some o ∧ o.data = .seq xs n ∧ xs[0]? = some f
  | [], _ => ⟨[], PySem.W.KatTups.nil, rfl, fun f m => by cases m⟩
  | v :: vs, hv => by
    obtain ⟨a, o, xs, n, f, rfl, ho, hc, hd, hf, _⟩ := hv v List.mem_cons_self
    obtain ⟨fs, k1, k2, k3⟩ := kat_first fun v m => hv v (List.mem_cons_of_mem _ m)
    refine ⟨f :: fs, PySem.W.KatTups.cons ho hc hd hf k1, by rw [List.length_cons, List.length_cons, k2], fun g m => ?_⟩
    rcases List.mem_cons.mp m with rfl | m
    · exact ⟨_, List.mem_cons_self, a, o, xs, n, rfl, ho, hd, hf⟩
    · obtain ⟨v, mv, r⟩ := k3 g m
      exact ⟨v, List.mem_cons_of_mem _ mv, r⟩
def SI (X : Cx) : SKind (List Nat) X where
  kt := tupD
  dflt := []
  lt := fun a b => HT.lexLt (zs a) (zs b)
  raw := fun h v l => ITup h v (zs l)
  swo := NtL.swo_lexL zs
  ref := fun ⟨a, _, e, _⟩ => ⟨a, e⟩
  inj := fun h g => tupD_inj (Is.inj (flat_tupD _) (flat_tupD _) h g)
  of := fun ok g => itup_of ok g
  keeps := fun h k => h.keeps k
  ok := fun l => l ≠ []
  sortable := fun {s l vs k} hu h2 hv hl => by
    intro h' keep
    have kp : ∀ b o, o.cls = .type "tuple" → s.heap.get? b = some o → h'.get? b = some o := fun b o c e => keep b o (fun z => by subst z; exact hl o e c) e
    have hv' : ∀ v ∈ vs, ITup h' v (zs (k v)) := fun v m => (hv v m).1.keeps kp
    obtain ⟨fs, k1, k2, k3⟩ := kat_first (h := h') (vs := vs) fun v m => by
      obtain ⟨t, o, xs, n, e, ho, hc, hd, hi⟩ := hv' v m
      have ne := (hv v m).2
      cases hk : k v with
      | nil => exact absurd hk ne
      | cons x r =>
        rw [hk] at hi
        match hx : xs.toList, hi with
        | y :: ys, hi => exact ⟨t, o, xs, n, y, e, ho, hc, hd, by rw [← Array.getElem?_toList, hx]; rfl, True.intro⟩
    refine ⟨tuples' true, fun Q E hq => ?_, it_cmp hv'⟩
    refine PySem.W.kat_kind (T := .type "int") k1 (by omega) (fun f hm => ?_) (by rfl) ?_
    · obtain ⟨v, mv, a, o, xs, n, e, ho, hd, hf⟩ := k3 f hm
      obtain ⟨t, o', xs', n', e', ho', hc', hd', hi⟩ := hv' v mv
      rw [e] at e'
      cases e'
      rw [ho] at ho'
      cases ho'
      rw [hd] at hd'
      cases hd'
      rw [← Array.getElem?_toList] at hf
      obtain ⟨i, t, rfl⟩ := SrtO.ints_mem hi f (List.mem_of_getElem? hf)
      exact PySem.W.Looks.now
    · have e : (Value.type "int" != Value.type "tuple") = true := by first | decide +kernel | rfl | decide
      rw [e]
      exact hq
abbrev pairD (p : List Nat × List Nat) : PyData := .tuple [tupD p.1, tupD p.2]
theorem pairD_inj {p q : List Nat × List Nat} (h : pairD p = pairD q) : p = q := by
  have h' : [tupD p.1, tupD p.2] = [tupD q.1, tupD q.2] := PyData.tuple.inj h
  have h1 := (List.cons.inj h').1
  have h2 := (List.cons.inj (List.cons.inj h').2).1
  exact Prod.ext (tupD_inj h1) (tupD_inj h2)
theorem flat_pairD (p : List Nat × List Nat) : flatD (pairD p) = true := by
  show (flatD (tupD p.1) && (flatD (tupD p.2) && true)) = true
  rw [flat_tupD, flat_tupD]
  rfl
theorem tup_ref {M : Ad} {H : Hp} {d : List PyData} {v : V} (h : Is M H (.tuple d) v) : ∃ t, v = .ref t := let ⟨a, _, e, _⟩ := h; ⟨a, e⟩
theorem ptup_of {P : Program} {w : World} {M : Ad} {H : Hp} {h : Heap} {p : List Nat × List Nat} {t : Addr} (ok : HOk P w H h) (g : Is M H (pairD p) (.ref t)) : PTup h (.ref t) (zs p.1, zs p.2) := by
  obtain ⟨a, vs, e, _, g3, g4⟩ := g
  cases e
  obtain ⟨_, its, rv, o, ho, hc, n, hd⟩ := ok _ _ g3
  match vs, g4 with
  | [v1, v2], g4 =>
    obtain ⟨u1, u2, rfl, r1, r2⟩ := vals2 rv
    have i1 : Is M H (tupD p.1) v1 := g4.1
    have i2 : Is M H (tupD p.2) v2 := g4.2.1
    obtain ⟨t1, rfl⟩ := tup_ref i1
    obtain ⟨t2, rfl⟩ := tup_ref i2
    obtain rfl : u1 = Value.ref t1 := r1
    obtain rfl : u2 = Value.ref t2 := r2
    exact ⟨t, o, .ref t1, .ref t2, n, rfl, ho, hc, hd, itup_of ok i1, itup_of ok i2⟩
theorem ITup.type {M : Model} {h : Heap} {v : Value} {ns : List Int} (x : ITup h v ns) : PySem.W.Looks M h (typeOf v) (.type "tuple") := by
  obtain ⟨t, o, xs, n, rfl, ho, hc, hd, hi⟩ := x
  rw [← hc]
  exact (PySem.W.Looks.ld ho).andThen .now
def SP (X : Cx) : SKind (List Nat × List Nat) X where
  kt := pairD
  dflt := ([], [])
  lt := fun a b => ltPP (zs a.1, zs a.2) (zs b.1, zs b.2)
  raw := fun h v p => PTup h v (zs p.1, zs p.2)
  swo := ⟨fun x y => ltPP_swo.asym _ _, fun x y z => ltPP_swo.tr _ _ _⟩
  ref := fun h => tup_ref h
  inj := fun h g => pairD_inj (Is.inj (flat_pairD _) (flat_pairD _) h g)
  of := fun ok g => ptup_of ok g
  keeps := fun h k => h.keeps k
  ok := fun _ => True
  sortable := fun {s l vs k} hu h2 hv hl => by
    intro h' keep
    have kp : ∀ b o, o.cls = .type "tuple" → s.heap.get? b = some o → h'.get? b = some o := fun b o c e => keep b o (fun z => by subst z; exact hl o e c) e
    have hv' : ∀ v ∈ vs, PTup h' v (zs (k v).1, zs (k v).2) := fun v m => (hv v m).1.keeps kp
    obtain ⟨fs, k1, k2, k3⟩ := kat_first (h := h') (vs := vs) fun v m => by
      obtain ⟨t, o, u1, u2, n, e, ho, hc, hd, i1, i2⟩ := hv' v m
      exact ⟨t, o, _, n, u1, e, ho, hc, hd, rfl, True.intro⟩
    refine ⟨tuples' false, fun Q E hq => ?_, pt_cmp' (k := fun v => (zs (k v).1, zs (k v).2)) (by show X.A.units + 1 + 1 + 10 < cLine; omega) hv'⟩
    refine PySem.W.kat_kind (T := .type "tuple") k1 (by omega) (fun f hm => ?_) (by rfl) ?_
    · obtain ⟨v, mv, a, o, xs, n, e, ho, hd, hf⟩ := k3 f hm
      obtain ⟨t, o', u1, u2, n', e', ho', hc', hd', i1, i2⟩ := hv' v mv
      rw [e] at e'
      cases e'
      rw [ho] at ho'
      cases ho'
      rw [hd] at hd'
      cases hd'
      have : u1 = f := Option.some.inj hf
      subst this
      exact i1.type
    · have e : (Value.type "tuple" != Value.type "tuple") = false := by first | decide +kernel | rfl | decide
      rw [e]
      exact hq
/-- there is one sorted list -/
theorem srt_uniq {α : Type} {lt : α → α → Bool} (O : SrtO.Swo lt) (anti : ∀ x y, lt x y = false → lt y x = false → x = y) : ∀ {l m : List α}, SrtO.Srtd lt l → SrtO.Srtd lt m → l.Perm m → l = m
  | [], m, _, _, h => (List.Perm.eq_nil h.symm).symm
  | x :: l, [], _, _, h => absurd h.length_eq (by simp)
  | x :: l, y :: m, hl, hm, h => by
    have h1 : lt x y = false := by
      rcases List.mem_cons.mp (h.mem_iff.mp (List.mem_cons_self (a := x) (l := l))) with e | hx
      · rw [e]
        exact O.refl y
      · exact SrtO.srtd_head hm x hx
    have h2 : lt y x = false := by
      rcases List.mem_cons.mp (h.mem_iff.mpr (List.mem_cons_self (a := y) (l := m))) with e | hy
      · rw [e]
        exact O.refl x
      · exact SrtO.srtd_head hl y hy
    have e := anti x y h1 h2
    subst e
    rw [srt_uniq O anti (List.pairwise_cons.mp hl).2 (List.pairwise_cons.mp hm).2 h.cons_inv]
theorem SI_anti {X : Cx} (x y : List Nat) (h : (SI X).lt x y = false) (g : (SI X).lt y x = false) : x = y := zs_inj (lexLt_total h g)
theorem SP_anti {X : Cx} (x y : List Nat × List Nat) (h : (SP X).lt x y = false) (g : (SP X).lt y x = false) : x = y := by
  have h' : ltPP (zs x.1, zs x.2) (zs y.1, zs y.2) = false := h
  have g' : ltPP (zs y.1, zs y.2) (zs x.1, zs x.2) = false := g
  unfold ltPP at h' g'
  by_cases e : zs x.1 = zs y.1
  · rw [if_pos e] at h'
    rw [if_pos e.symm] at g'
    exact Prod.ext (zs_inj e) (zs_inj (lexLt_total h' g'))
  · rw [if_neg e] at h'
    rw [if_neg (Ne.symm e)] at g'
    exact absurd (lexLt_total h' g') e
section
variable {X : Cx} {ρ : Rho} {s : Bool} {a : Expr} {pos p : Pos} {α : Type}
theorem px_sortG (S : SKind α X) (anti : ∀ x y, S.lt x y = false → S.lt y x = false → x = y) (hu : X.A.units + 64 < cLine) {as bs : List α} (hg : Gl X "sorted") (hm : X.mg "sorted" = none) (ha : PX X ρ s a (.list (as.map S.kt))) (ho : 2 ≤ as.length → ∀ x ∈ as, S.ok x) (hp : bs.Perm as) (hs : SrtO.Srtd S.lt bs)
    (he : starEach [a] X.env = (false, eval a X.env) :: starEach [] X.env := by rfl) (hpl : (backTo pos (starEach [] X.env)).any (·.1) = false := by rfl) : PX X ρ s (.Call (.Name "sorted" p) [a] [] pos) (.list (bs.map S.kt)) :=
  PEimp (pe_callB (cr_sortG S hu) hg hm b_sorted (pa_cons ha pa_nil he) (by decide) (by decide) he hpl) fun σ H Q ⟨C, hh, q⟩ => ⟨C, hh, fun v H1 e1 ⟨pp, vs, g1, g2, g3, g4⟩ => by
    refine ⟨pp, Wk C ρ σ s, as, vs, by rw [g1], SqL.of g3, g4, ho, fun bs' q' us hp' hs' hn iu => ?_⟩
    have : bs' = bs := srt_uniq S.swo anti hs' hs (hp'.trans hp.symm)
    subst this
    exact q _ _ (e1.trans (Ex.new hn)) ⟨q', us, rfl, wk_fresh hh (e1.back hn), upd_same, IsAll.ex (Ex.new hn) iu⟩⟩
end
end Bf
set_option Elab.async false
set_option linter.all false
set_option maxRecDepth 100000
set_option maxHeartbeats 4000000
namespace Bf
open PySem PySem.Spec PyProof.Rows L2
/-! ### a dict whose keys are pairs of tuples of ints -/
abbrev Pr : Type := List Nat × List Nat
def nums (l : List Nat) : NestedKey := .tup (l.map fun n : Nat => .num (n : Int))
def nkey (p : Pr) : NestedKey := .tup [nums p.1, nums p.2]
theorem nums_inj {a b : List Nat} (h : nums a = nums b) : a = b := by
  induction a generalizing b with
  | nil =>
    cases b with
    | nil => rfl
    | cons y b => cases NestedKey.tup.inj h
  | cons x a ih =>
    cases b with
    | nil => cases NestedKey.tup.inj h
    | cons y b =>
      have h' := NestedKey.tup.inj h
      have h1 : (x : Int) = y := NestedKey.num.inj (List.cons.inj h').1
      have h2 : nums a = nums b := congrArg NestedKey.tup (List.cons.inj h').2
      rw [ih h2, Int.ofNat.inj h1]
theorem nkey_inj {p q : Pr} (h : nkey p = nkey q) : p = q := by
  have h' := NestedKey.tup.inj h
  exact Prod.ext (nums_inj (List.cons.inj h').1) (nums_inj (List.cons.inj (List.cons.inj h').2).1)
theorem nums_depth : ∀ l : List Nat, NestedKey.depthAll (l.map fun n : Nat => .num (n : Int)) = 0
  | [] => rfl
  | _ :: l => by
    show max 0 (NestedKey.depthAll (l.map fun n : Nat => .num (n : Int))) = 0
    rw [nums_depth l]
    rfl
theorem nkey_depth (p : Pr) : (nkey p).depth ≤ 8 := by
  show max (NestedKey.depthAll (p.1.map fun n : Nat => .num (n : Int)) + 1) (max (NestedKey.depthAll (p.2.map fun n : Nat => .num (n : Int)) + 1) 0) + 1 ≤ 8
  rw [nums_depth, nums_depth]
  decide
theorem nested_ints {h : Heap} {v : Value} {l : List Nat} (x : ITup h v (zs l)) : NestedIs h (nums l) v := by
  obtain ⟨t, o, xs, n, rfl, ho, hc, hd, hi⟩ := x
  have : ∀ {vs : List Value} {l : List Nat}, IntsAre vs (zs l) → NestedAll h (l.map fun n : Nat => .num (n : Int)) vs := by
    intro vs l hi
    induction l generalizing vs with
    | nil =>
      cases hi
      exact .nil
    | cons x l ih =>
      cases hi with
      | cons n t r => exact .cons (.int _ t) (ih r)
  exact .tup ho hc hd (this hi)
theorem nested_pair {h : Heap} {v : Value} {p : Pr} (x : PTup h v (zs p.1, zs p.2)) : NestedIs h (nkey p) v := by
  obtain ⟨t, o, u1, u2, n, rfl, ho, hc, hd, i1, i2⟩ := x
  exact .tup ho hc hd (.cons (nested_ints i1) (.cons (nested_ints i2) .nil))
def pinO (d : Addr) (o : Obj) : HO := .ext fun h => h.get? d = some o
section
variable (P : Program) (w : World)
structure NDict (o : Obj) (xs : List (NestedKey × Addr × Value)) : Prop where
  ex : o.ExactDict
  dat : ∃ es ep, o.data = .dict es ep ∧ es.toList = xs.map (entryOfKey (nestedKind P w))
  nd : (xs.map (·.1)).Nodup
end
def KP (M : Ad) (H : Hp) : List Pr → List (NestedKey × Addr × Value) → Prop
  | [], [] => True
  | p :: ps, x :: xs => (x.1 = nkey p ∧ Is M H (pairD p) (.ref x.2.1)) ∧ KP M H ps xs
  | [], _ :: _ => False
  | _ :: _, [] => False
theorem KP.fr {M : Ad} {H H' : Hp} (e : Fr M H H') : ∀ {ps : List Pr} {xs : List (NestedKey × Addr × Value)}, KP M H ps xs → KP M H' ps xs
  | [], [], _ => True.intro
  | _ :: _, _ :: _, h => ⟨⟨h.1.1, Is.fr e h.1.2⟩, KP.fr e h.2⟩
  | [], _ :: _, h => h.elim
  | _ :: _, [], h => h.elim
theorem KP.weak {M M' : Ad} {H : Hp} (w : ∀ a, M' a → H a ≠ none → M a) : ∀ {ps : List Pr} {xs : List (NestedKey × Addr × Value)}, KP M H ps xs → KP M' H ps xs
  | [], [], _ => True.intro
  | _ :: _, _ :: _, h => ⟨⟨h.1.1, Is.weak w h.1.2⟩, KP.weak w h.2⟩
  | [], _ :: _, h => h.elim
  | _ :: _, [], h => h.elim
theorem KP.len {M : Ad} {H : Hp} : ∀ {ps : List Pr} {xs : List (NestedKey × Addr × Value)}, KP M H ps xs → ps.length = xs.length
  | [], [], _ => rfl
  | _ :: _, _ :: _, h => by rw [List.length_cons, List.length_cons, KP.len h.2]
  | [], _ :: _, h => h.elim
  | _ :: _, [], h => h.elim
theorem KP.snoc {M : Ad} {H : Hp} {p : Pr} {x : NestedKey × Addr × Value} (g : x.1 = nkey p ∧ Is M H (pairD p) (.ref x.2.1)) : ∀ {ps : List Pr} {xs : List (NestedKey × Addr × Value)}, KP M H ps xs → KP M H (ps ++ [p]) (xs ++ [x])
  | [], [], _ => ⟨g, True.intro⟩
  | _ :: _, _ :: _, h => ⟨h.1, KP.snoc g h.2⟩
  | [], _ :: _, h => h.elim
  | _ :: _, [], h => h.elim
theorem KP.get {M : Ad} {H : Hp} : ∀ {ps : List Pr} {xs : List (NestedKey × Addr × Value)} {x : NestedKey × Addr × Value}, KP M H ps xs → x ∈ xs → ∃ p ∈ ps, x.1 = nkey p ∧ Is M H (pairD p) (.ref x.2.1)
  | [], [], _, _, m => by cases m
  | p :: ps, y :: xs, x, h, m => by
    rcases List.mem_cons.mp m with rfl | m
    · exact ⟨p, List.mem_cons_self, h.1⟩
    · obtain ⟨q, hq, r⟩ := KP.get h.2 m
      exact ⟨q, List.mem_cons_of_mem _ hq, r⟩
  | [], _ :: _, _, h, _ => h.elim
  | _ :: _, [], _, h, _ => h.elim
theorem KP.at {M : Ad} {H : Hp} : ∀ {ps : List Pr} {xs : List (NestedKey × Addr × Value)} {i : Nat} {p : Pr}, KP M H ps xs → ps[i]? = some p → ∃ x, xs[i]? = some x ∧ x.1 = nkey p ∧ Is M H (pairD p) (.ref x.2.1)
  | [], [], _, _, _, e => by simp at e
  | q :: ps, y :: xs, 0, p, h, e => by
    have : q = p := Option.some.inj e
    subst this
    exact ⟨y, rfl, h.1⟩
  | q :: ps, y :: xs, i + 1, p, h, e => by
    obtain ⟨x, h1, h2⟩ := KP.at (i := i) (p := p) h.2 (by simpa using e)
    exact ⟨x, by simpa using h1, h2⟩
  | [], _ :: _, _, _, h, _ => h.elim
  | _ :: _, [], _, _, h, _ => h.elim
theorem KP.find {M : Ad} {H : Hp} {p : Pr} : ∀ {ps : List Pr} {xs : List (NestedKey × Addr × Value)}, KP M H ps xs → (atKey xs (nkey p)).isSome = decide (p ∈ ps)
  | [], [], _ => by simp [atKey]
  | q :: ps, y :: xs, h => by
    have ih := KP.find (p := p) h.2
    unfold atKey at ih ⊢
    rw [List.find?_cons]
    by_cases e : q = p
    · subst e
      rw [h.1.1, decide_eq_true rfl]
      simp
    · have ne : ¬ y.1 = nkey p := fun z => e (nkey_inj (h.1.1.symm.trans z))
      rw [decide_eq_false ne]
      rw [ih]
      have ne' : ¬ p = q := fun z => e z.symm
      simp [ne']
  | [], _ :: _, h => h.elim
  | _ :: _, [], h => h.elim
theorem KP.nodup {M : Ad} {H : Hp} {ps : List Pr} {xs : List (NestedKey × Addr × Value)} (h : KP M H ps xs) : xs.map (·.1) = ps.map nkey := by
  induction ps generalizing xs with
  | nil =>
    cases xs with
    | nil => rfl
    | cons => exact h.elim
  | cons p ps ih =>
    cases xs with
    | nil => exact h.elim
    | cons x xs =>
      rw [List.map_cons, List.map_cons, h.1.1, ih h.2]
/-- such a dict, held by a slot -/
def oN (P : Program) (w : World) (ps : List Pr) : OP where
  is := fun M H a => (a == sysModules) = false ∧ ps.length ≤ 100000 ∧ ∃ o xs, H a = some (pinO a o) ∧ NDict P w o xs ∧ KP M H ps xs
  there := fun ⟨_, _, _, _, h, _⟩ => ne_none h
  fr := fun ⟨z, l, o, xs, h, n, g⟩ k => ⟨z, l, o, xs, k _ _ h (.inl rfl), n, KP.fr (fun b o e n => k b o e (.inr n)) g⟩
  weak := fun ⟨z, l, o, xs, h, n, g⟩ w => ⟨z, l, o, xs, h, n, KP.weak w g⟩
section
variable {P : Program} {w : World} {H : Hp} {h : Heap} {M : Ad} {a : Addr} {ps : List Pr} {o : Obj} {xs : List (NestedKey × Addr × Value)}
theorem pin_get (ok : HOk P w H h) (e : H a = some (pinO a o)) : h.get? a = some o := (ok a _ e).1
theorem key_is {b : Addr} {p : Pr} (ok : HOk P w H h) (g : Is M H (pairD p) (.ref b)) : (nestedKind P w).is h (nkey p) b := ⟨nested_pair (ptup_of ok g), nkey_depth p⟩
theorem dictH (ok : HOk P w H h) (e : H a = some (pinO a o)) (n : NDict P w o xs) (g : KP M H ps xs) : h.DictOfH (nestedKind P w) a xs := by
  obtain ⟨es, ep, h1, h2⟩ := n.dat
  refine ⟨o, es, ep, pin_get ok e, n.ex, h1, h2, fun x m => ?_, n.nd⟩
  obtain ⟨p, _, e1, e2⟩ := g.get m
  rw [e1]
  exact key_is ok e2
theorem pin_ok {h' : Heap} (e : h'.get? a = some o) : ObjOk P w H h' a (pinO a o) := ⟨e, ⟨o, e⟩, fun h1 h2 g k => k o g⟩
theorem nd_of (x : h.DictOfH (nestedKind P w) a xs) : ∃ o, h.get? a = some o ∧ NDict P w o xs := by
  obtain ⟨o, es, ep, h1, h2, h3, h4, h5, h6⟩ := x
  exact ⟨o, h1, h2, ⟨es, ep, h3, h4⟩, h6⟩
end
end Bf
set_option Elab.async false
set_option linter.all false
set_option maxRecDepth 100000
set_option maxHeartbeats 4000000
namespace Bf
open PySem PySem.Spec PyProof.Rows L2
section
variable {X : Cx} {i o e : Expr} {ti to te : TE} {pos pos' : Pos}
def tNotN (X : Cx) (ti to : TE) : TE := fun σ H Q => ti σ H fun y H1 => to σ H1 fun x H2 => ∃ a b M M' p ps, x = .ref a ∧ y = .ref b ∧ Is M H2 (pairD p) (.ref b) ∧ (oN X.prog X.w ps).is M' H2 a ∧ Q (.bl (!decide (p ∈ ps))) H2
theorem pc_notN (hu : X.A.units + 64 < cLine) (hi : PE X i ti) (ho : PE X o to) : PC X .NotIn i o (tNotN X ti to) := by
  refine ⟨fun pins s σ H Q I h => ?_⟩
  refine thn (hi.run pins s σ H _ I h) fun iv s1 ⟨y, H1, I1, ry, q1⟩ => thn (ho.run pins s1 σ H1 _ I1 q1) fun u s2 ⟨x, H2, I2, rx, q2⟩ => ?_
  obtain ⟨a, b, M, M', p, ps, ex, ey, ip, ⟨hd, hl, od, xs, hH, nd, kp⟩, q⟩ := q2
  subst ex ey
  obtain rfl : u = Value.ref a := rx
  obtain rfl : iv = Value.ref b := ry
  refine notIn_keyed (knd := nestedKind X.prog X.w) (k := nkey p) (by show X.A.units + 1 + 8 < cLine; omega) (key_is I2.hok ip) hd ⟨xs, dictH I2.hok hH nd kp, rfl⟩ ?_
  have e : (valueAt (pairsH xs) (nkey p)).isSome = decide (p ∈ ps) := by
    rw [valueAt_pairsH, Option.isSome_map, kp.find]
  rw [e]
  exact ⟨.bl _, H2, I2.tok _, rfl, q⟩
def sPutN (X : Cx) (td ty tv : TE) : TS := fun D σ H => tv σ H fun v H1 => td σ H1 fun x H2 => ty σ H2 fun y H3 => ∃ a b M M' p ps od xs, x = .ref a ∧ y = .ref b ∧ Is M H3 (pairD p) (.ref b) ∧ ((a == sysModules) = false ∧ ps.length < 100000 ∧ H3 a = some (pinO a od) ∧ NDict X.prog X.w od xs ∧ KP M' H3 ps xs) ∧ p ∉ ps ∧
  ∀ od' u, NDict X.prog X.w od' (xs ++ [(nkey p, b, u)]) → D.nx σ (upd H3 a (pinO a od'))
theorem ps_putN {value : Expr} {td ty tv : TE} (hu : X.A.units + 64 < cLine) (ho : PE X o td) (hi : PE X i ty) (hv : PE X value tv) (hs : swapsWith value (some (.Subscript o i pos')) pos.line X.env = pure false) : PS X (.Assign [.Subscript o i pos'] value pos) (sPutN X td ty tv) := by
  refine ⟨fun pins s σ H D I h => ?_⟩
  refine wpAny_Assign_Subscript (thn (hv.run pins s σ H _ I h) fun r s1 ⟨v, H1, I1, rv, q1⟩ => thn (ho.run pins s1 σ H1 _ I1 q1) fun u s2 ⟨x, H2, I2, rx, q2⟩ => thn (hi.run pins s2 σ H2 _ I2 q2) fun iv s3 ⟨y, H3, I3, ry, q3⟩ => ?_) hs
  obtain ⟨a, b, M, M', p, ps, od, xs, ex, ey, ip, ⟨hd, hl, hH, nd, kp⟩, np, q⟩ := q3
  subst ex ey
  obtain rfl : u = Value.ref a := rx
  obtain rfl : iv = Value.ref b := ry
  have no : atKey xs (nkey p) = none := by
    have := kp.find (p := p)
    rw [decide_eq_false np] at this
    cases h : atKey xs (nkey p) with
    | none => rfl
    | some z =>
      rw [h] at this
      cases this
  refine wpAny_setItem_heap (knd := nestedKind X.prog X.w) (k := nkey p) (hsz := by rw [← kp.len]; exact sz_of (by omega)) (by show X.A.units + 1 + 8 < cLine; omega) (key_is I3.hok ip) (dictH I3.hok hH nd kp) fun h' dd sb => ?_
  rw [storedH_new no] at dd
  obtain ⟨od', g1, g2⟩ := nd_of dd
  exact ⟨σ, upd H3 a (pinO a od'), d_write I3 (by rw [hH]; exact True.intro) sb ⟨od', g1⟩ (pin_ok g1), q od' r g2⟩
theorem call_lenN : CallR X (.builtin "len") (fun xs H Q => ∃ a M ps, xs = [.ref a] ∧ (oN X.prog X.w ps).is M H a ∧ Q (.int (ps.length : Int)) H) := by
  intro pins s σ H xs us Q I r h
  obtain ⟨a, M, ps, rfl, ⟨hd, hl, od, ys, hH, nd, kp⟩, q⟩ := h
  rw [Vals.ref1 r]
  refine call_len_dictH (knd := nestedKind X.prog X.w) hd (dictH I.hok hH nd kp) (by rw [← kp.len]; omega) ?_
  rw [← kp.len]
  exact ⟨.int (ps.length : Int), H, I.tok _, ⟨_, rfl⟩, q⟩
/-! ### its keys, one by one -/
def Itn (d : Addr) (od : Obj) (xs : List (NestedKey × Addr × Value)) : It :=
  ⟨fun i H => H d = some (pinO d od) ∧ i < xs.length, fun i H v H' => H' = H ∧ ∃ x, xs[i]? = some x ∧ v = .ref x.2.1, fun i H => H d = some (pinO d od) ∧ xs.length ≤ i⟩
theorem ent_at {P : Program} {w : World} {es : Array DictEntry} {xs : List (NestedKey × Addr × Value)} (h : es.toList = xs.map (entryOfKey (nestedKind P w))) {i : Nat} {x : NestedKey × Addr × Value} (hx : xs[i]? = some x) : es[i]? = some (entryOfKey (nestedKind P w) x) := by
  rw [← Array.getElem?_toList, h, List.getElem?_map, hx]
  rfl
theorem turn_N {P : Program} {w : World} {K : PySem.W.Frag} {tg : Expr} {d : Addr} {od : Obj} {xs : List (NestedKey × Addr × Value)} {es : Array DictEntry} {ep : Nat} (it : Addr) (hod : od.data = .dict es ep) (he : es.toList = xs.map (entryOfKey (nestedKind P w))) :
    Turn P w K tg (Itn d od xs) [it] it (fun i h => h.IsKeyIter it d i xs.length ep) where
  mem := by simp
  obj := fun i h st b hb => by
    have e : b = it := by simpa using hb
    subst e
    obtain ⟨oi, e, c, dd⟩ := st
    exact ⟨oi, e, fun v z => by rw [dd] at z; cases z⟩
  keep := fun i h h' st k => st.at fun oi e => k it (by simp) oi e
  item := by
    intro X hP hw hK hc i pins s σ H E I hf st hg
    subst hP hw hK
    obtain ⟨hd, hi⟩ := hg
    obtain ⟨f0, f1, f2, f3, f4, f5⟩ := hf it (by simp)
    have hx : xs[i]? = some xs[i] := List.getElem?_eq_getElem hi
    have hsz : es.size = xs.length := by rw [← Array.length_toList, he, List.length_map]
    refine next_key_item st (pin_get I.hok hd) hod hsz (ent_at he hx) fun h' st' sb => ?_
    have I1 : Inv X pins σ H { s with heap := h' } := I.turned (t' := s.toks) (fun b ob hb e => (sb.2 b hb).trans e) f0 f1 f3 f4 f5
    obtain ⟨oi, e, c, dd⟩ := id st'
    exact ⟨_, rfl, go_of (s := { s with heap := h' }) e c dd (by decide) ⟨.ref xs[i].2.1, H, I1, rfl, ⟨rfl, xs[i], hx, rfl⟩, st', fun b hb => (hf b hb).1⟩⟩
  done := by
    intro X hP hw hK hc i pins s σ H E I hf st hg
    subst hP hw hK
    obtain ⟨hd, hi⟩ := hg
    obtain ⟨f0, f1, f2, f3, f4, f5⟩ := hf it (by simp)
    have hsz : es.size = xs.length := by rw [← Array.length_toList, he, List.length_map]
    exact next_key_end (I.ok.hd hc) st (pin_get I.hok hd) hod hsz hi fun h' eb => ⟨rfl, I.turned (t' := s.toks) (fun b ob hb e => eb b ob hb e) f0 f1 f3 f4 f5⟩
  self := fun A i s Q E st h => wpAny_pyIter_keyiter st h
def iN (X : Cx) (td : TE) : TI := fun σ H R => td σ H fun x H1 => ∃ d od xs, x = .ref d ∧ (d == sysModules) = false ∧ H1 d = some (pinO d od) ∧ NDict X.prog X.w od xs ∧ R (Itn d od xs) H1
theorem pi_N {tg : Expr} (he : PE X e te) : PI X tg e (iN X te) := by
  refine ⟨fun pins s σ H R I h => ?_⟩
  refine thn (he.run pins s σ H _ I h) fun u s1 ⟨x, H1, I1, rx, d, od, xs, ex, hs, hd, nd, q⟩ => ?_
  subst ex
  obtain rfl : u = Value.ref d := rx
  obtain ⟨es, ep, h1, h2⟩ := nd.dat
  have hsz : es.size = xs.length := by rw [← Array.length_toList, h2, List.length_map]
  refine iter_keys hs (pin_get I1.hok hd) nd.ex h1 (pi_one (tk := s1.toks) I1 _ (turn_N _ h1 h2) ⟨_, Heap.get?_push_size _ rfl, rfl, ?_⟩ q)
  rw [hsz] <;> rfl
end
end Bf
set_option Elab.async false
set_option linter.all false
set_option maxRecDepth 100000
set_option maxHeartbeats 4000000
namespace Bf
open PySem PySem.Spec PyProof.Rows L2
open Classical in
theorem decode {α : Type} {X : Cx} (S : SKind α X) {M : Ad} {H : Hp} {as : List α} {ws : List V} {its : List Value} (rv : Vals ws its) (ia : IsAll M H (as.map S.kt) ws) :
    ∃ k : Value → α, (∀ v ∈ its, (∃ t, v = .ref t) ∧ k v ∈ as ∧ Is M H (S.kt (k v)) (backV v)) ∧ its.map k = as := by
  have wsr : ∀ x ∈ ws, ∃ t, x = V.ref t := fun x m => by
    obtain ⟨i, hi⟩ := List.getElem?_of_mem m
    obtain ⟨d, hd, hx⟩ := ia.getV hi
    rw [List.getElem?_map] at hd
    cases e : as[i]? with
    | none =>
      rw [e] at hd
      cases hd
    | some y =>
      rw [e] at hd
      have : S.kt y = d := Option.some.inj hd
      subst this
      exact S.ref hx
  obtain ⟨e1, e2⟩ := refs_back rv wsr
  let k : Value → α := fun v => if h : ∃ x, x ∈ as ∧ Is M H (S.kt x) (backV v) then h.choose else S.dflt
  have hk : ∀ v ∈ its, k v ∈ as ∧ Is M H (S.kt (k v)) (backV v) := fun v m => by
    have mm : backV v ∈ ws := by rw [e1]; exact List.mem_map.mpr ⟨v, m, rfl⟩
    obtain ⟨i, hi⟩ := List.getElem?_of_mem mm
    obtain ⟨d, hd, hx⟩ := ia.getV hi
    rw [List.getElem?_map] at hd
    cases e : as[i]? with
    | none =>
      rw [e] at hd
      cases hd
    | some y =>
      rw [e] at hd
      have : S.kt y = d := Option.some.inj hd
      subst this
      have ex : ∃ x, x ∈ as ∧ Is M H (S.kt x) (backV v) := ⟨y, List.mem_of_getElem? e, hx⟩
      have ek : k v = ex.choose := dif_pos ex
      rw [ek]
      exact ex.choose_spec
  have lens : as.length = ws.length := by
    have := ia.length
    rw [List.length_map] at this
    exact this
  have lw : ws.length = its.length := rv.length
  refine ⟨k, fun v m => ⟨e2 v m, hk v m⟩, ?_⟩
  apply List.ext_getElem?
  intro i
  rw [List.getElem?_map]
  cases e : its[i]? with
  | none =>
    rw [List.getElem?_eq_none_iff] at e
    rw [List.getElem?_eq_none (by omega)]
    rfl
  | some v =>
    have lt := (List.getElem?_eq_some_iff.mp e).1
    have ea : as[i]? = some as[i] := List.getElem?_eq_getElem (by omega)
    have ew : ws[i]? = some (backV v) := by rw [e1, List.getElem?_map, e]; rfl
    obtain ⟨w, hw, iw⟩ := ia.get (i := i) (d := S.kt as[i]) (by rw [List.getElem?_map, ea]; rfl)
    rw [ew] at hw
    cases hw
    rw [ea]
    exact congrArg some (S.inj (hk v (List.mem_of_getElem? e)).2 iw)
theorem KP.vals {M : Ad} {H : Hp} : ∀ {ps : List Pr} {xs : List (NestedKey × Addr × Value)}, KP M H ps xs → IsAll M H (ps.map pairD) (xs.map fun x => V.ref x.2.1)
  | [], [], _ => True.intro
  | _ :: _, _ :: _, h => ⟨h.1.2, KP.vals h.2⟩
  | [], _ :: _, h => h.elim
  | _ :: _, [], h => h.elim
theorem refs_vals : ∀ xs : List (NestedKey × Addr × Value), Vals (xs.map fun x => V.ref x.2.1) (xs.map fun x => Value.ref x.2.1)
  | [] => .nil
  | _ :: xs => .cons rfl (refs_vals xs)
section
variable {X : Cx}
/-- sorted(d) -/
theorem cr_sortedN (hc : X.calm = true) (hu : X.A.units + 64 < cLine) : CallR X (.builtin "sorted") (fun vs H Q => ∃ a M ps, vs = [.ref a] ∧ (oN X.prog X.w ps).is M H a ∧
    ∀ (bs : List Pr) (p : Addr) (us : List V), bs.Perm ps → SrtO.Srtd (SP X).lt bs → H p = none → IsAll M H (bs.map pairD) us → Q (.ref p) (upd H p (.lst us))) := by
  intro pins s σ H vs us Q I r h
  obtain ⟨a, M, ps, rfl, ⟨hd, hl, od, xs, hH, nd, kp⟩, q⟩ := h
  rw [Vals.ref1 r]
  obtain ⟨es, ep, h1, h2⟩ := nd.dat
  have hsz : es.size = xs.length := by rw [← Array.length_toList, h2, List.length_map]
  have lx : xs.length ≤ 100000 := by rw [← kp.len]; exact hl
  refine Calls.call_function_entry PyProof.Rows.kind_sorted PyProof.Rows.plain_sorted PyProof.Rows.entry_sorted (PyProof.Rows.args_sorted1 _) ?_
  unfold Builtin.«sorted»
  refine wpAny_bind (m := checkCount "sorted" 1 1 _) (wpAny_pure ?_)
  refine wpAny_bind (PySem.W.kdu_collect (A := X.A.in1) (kdl_raw hd nd.ex h1) (I.ok.hd hc) (pin_get I.hok hH) (sz_of (by omega)) fun h' tk acc hk hacc => ?_)
  have ea : acc.toList = xs.map fun x => Value.ref x.2.1 := by
    have la : acc.toList.length = xs.length := by rw [Array.length_toList, hacc.1]; exact hsz
    apply List.ext_getElem?
    intro j
    rw [List.getElem?_map]
    cases hj : acc.toList[j]? with
    | none =>
      have := List.getElem?_eq_none_iff.mp hj
      rw [List.getElem?_eq_none (by omega)]
      rfl
    | some v =>
      obtain ⟨en, hen, hv⟩ := hacc.2 j v (by rw [← Array.getElem?_toList]; exact hj)
      have lj : j < xs.length := by
        have := (List.getElem?_eq_some_iff.mp hj).1
        omega
      have hx : xs[j]? = some xs[j] := List.getElem?_eq_getElem lj
      rw [ent_at h2 hx] at hen
      cases hen
      rw [hx, hv]
      rfl
  have I1 : Inv X pins σ H { s with heap := h', toks := tk } := I.kept hk
  obtain ⟨k, hk1, hk2⟩ := decode (SP X) (refs_vals xs) kp.vals
  rw [← ea] at hk1 hk2
  have la : acc.toList.length = xs.length := by rw [ea, List.length_map]
  refine wpAny_bind (wpAny_newList ?_ (by rw [la]; exact sz_of (by omega)))
  have hoL : (h'.push (seqObj "list" acc.toList.toArray 0)).get? h'.objs.size = some (seqObj "list" acc.toList.toArray 0) := Heap.get?_push_size _ rfl
  show wpAny _ _ _ _ _ { s with heap := h'.push (seqObj "list" acc.toList.toArray 0), toks := tk }
  have raws : ∀ v ∈ acc.toList, (SP X).raw (h'.push (seqObj "list" acc.toList.toArray 0)) v (k v) := fun v m => by
    obtain ⟨⟨t, rfl⟩, _, iv⟩ := hk1 v m
    exact (SP X).keeps ((SP X).of I1.hok iv) fun b o _ e => Heap.get?_push_of_some _ e
  refine wpAny_bind (wpAny_holding (wpAny_call_entry PyProof.Rows.slot_list_sort ⟨_, hoL, rfl⟩ PyProof.Rows.entry_list_sort
    (SrtO.list_sort_ord (s := { s with heap := h'.push (seqObj "list" acc.toList.toArray 0), toks := tk }) (ltv := fun v u => (SP X).lt (k v) (k u)) ⟨fun x y => (SP X).swo.asym _ _, fun x y z => (SP X).swo.tr _ _ _⟩ hoL (by rw [la]; exact sz_of (by omega))
      (fun h2 => (SP X).sortable hu h2 (fun v m => ⟨raws v m, True.intro⟩) fun o e => ?_) fun out g1 g2 => ⟨_, rfl, ?_⟩) (PyProof.Rows.args_list_sort _)))
  · have e' : some o = some (seqObj "list" acc.toList.toArray 0) := e.symm.trans hoL
    cases e'
    intro c
    exact absurd (Value.type.inj c) (by decide)
  obtain ⟨e', he'⟩ := PyProof.Rows.sortedHeap_at (vs := acc.toList) (out := out.toArray) hoL
  have mo : ∀ v ∈ out, v ∈ acc.toList := fun v m => g2.perm.mem_iff.mp m
  have lo : out.length = acc.toList.length := g2.perm.length_eq
  have h3 : ∀ u ∈ out, ∃ a, u = Value.ref a := fun u hu => (hk1 u (mo u hu)).1
  refine wpAny_pure ⟨_, rfl, .ref h'.objs.size, upd H h'.objs.size (.lst (out.map backV)), I1.laid (t' := tk) (fun b u e => ?_) (Nat.le_refl _)
    (show ObjOk X.prog X.w _ _ _ (.lst (out.map backV)) from ⟨by rw [List.length_map, lo, la]; exact sz_of (by omega), out, e', vals_back h3, he'⟩), rfl, q (out.map k) _ (out.map backV) ?_ (SrtO.srtd_map g1) (I1.hok.fresh (Nat.le_refl _)) ?_⟩
  · have hb : b < h'.objs.size := Heap.lt_size e
    rw [PyProof.Rows.sortedHeap_old (Nat.ne_of_lt hb) (by rw [size_push']; exact Nat.lt_succ_of_lt hb)]
    exact Heap.get?_push_of_some _ e
  · rw [← hk2]
    exact g2.perm.map k
  · have : ∀ l : List Value, (∀ v ∈ l, v ∈ acc.toList) → IsAll M H ((l.map k).map pairD) (l.map backV) := fun l => by
      induction l with
      | nil => intro _; exact True.intro
      | cons v l ih =>
        intro hm
        exact ⟨(hk1 v (hm v List.mem_cons_self)).2.2, ih fun x m => hm x (List.mem_cons_of_mem _ m)⟩
    exact this out mo
end
/-! ### {p: v} -/
def mtObj : Obj := { cls := .type "dict", data := .dict #[] }
theorem mt_nd {P : Program} {w : World} : NDict P w mtObj [] := ⟨⟨rfl, rfl, rfl⟩, ⟨#[], 0, rfl, rfl⟩, List.Pairwise.nil⟩
def tDispN (X : Cx) (tk tv : TE) : TE := fun σ H Q => ∀ d, H d = none → tk σ (upd H d (pinO d mtObj)) fun y H1 => tv σ H1 fun v H2 => ∃ b M p, y = .ref b ∧ Is M H2 (pairD p) (.ref b) ∧ H2 d = some (pinO d mtObj) ∧
  ∀ od u, (d == sysModules) = false → NDict X.prog X.w od [(nkey p, b, u)] → Q (.ref d) (upd H2 d (pinO d od))
set_option maxHeartbeats 400000 in
theorem pe_dispN {X : Cx} {k v : Expr} {tk tv : TE} {pos : Pos} (hu : X.A.units + 64 < cLine) (hk : PE X k tk) (hv : PE X v tv) : PE X (.Dict [some k] [v] pos) (tDispN X tk tv) := by
  refine ⟨fun pins s σ H Q I h => ?_⟩
  have hn := I.hok.fresh (Nat.le_refl s.heap.objs.size)
  have hm : (s.heap.objs.size == sysModules) = false := beq_eq_false_iff_ne.mpr (Nat.ne_of_gt I.big)
  have g0 : (s.heap.push mtObj).get? s.heap.objs.size = some mtObj := Heap.get?_push_size _ rfl
  have I1 := I.laid (a := s.heap.objs.size) (o := pinO s.heap.objs.size mtObj) (h' := s.heap.push mtObj) (t' := s.toks) (fun _ _ q => Heap.get?_push_of_some _ q) (Nat.le_refl _) (pin_ok g0)
  have ps := pps_cons (pos := pos) hk hv (pps_nil (X := X) (pos := pos))
  have hrun := ps.run pins { s with heap := s.heap.push mtObj } σ _ (fun qs H2 => match qs with
    | [(y, v)] => ∃ b M p, y = .ref b ∧ Is M H2 (pairD p) (.ref b) ∧ H2 s.heap.objs.size = some (pinO s.heap.objs.size mtObj) ∧ ∀ od u, (s.heap.objs.size == sysModules) = false → NDict X.prog X.w od [(nkey p, b, u)] → Q (.ref s.heap.objs.size) (upd H2 s.heap.objs.size (pinO s.heap.objs.size od))
    | _ => False) I1 (h _ hn)
  refine wpAny_Dict_any rfl rfl (by simp) (Nat.le_of_ble_eq_true rfl) (thn hrun fun ws s2 ⟨qs, H2, I2, rel, q2⟩ => ?_)
  cases rel with
  | nil => exact q2.elim
  | @cons c d cs ds hr t =>
    cases t with
    | cons _ _ => exact q2.elim
    | nil =>
      obtain ⟨y, v⟩ := c
      obtain ⟨u1, u2⟩ := d
      obtain ⟨b, M, p, ey, ip, hd, q2⟩ := q2
      subst ey
      obtain ⟨r1, r2⟩ := hr
      obtain rfl : u1 = Value.ref b := r1
      have dd := dictH (ps := []) (M := M) I2.hok hd mt_nd True.intro
      have hkey := key_is I2.hok ip
      have hu8 : (nestedKind X.prog X.w).room X.A := by show X.A.units + 8 < cLine; omega
      unfold storeAll
      rw [List.forIn_cons]
      have fin : ∀ h' : Heap, h'.DictOfH (nestedKind X.prog X.w) s.heap.objs.size (storedH [] (nkey p) b u2) → Heap.SameBut s.heap.objs.size s2.heap h' → EP X pins σ Q (.ref s.heap.objs.size) { s2 with heap := h', toks := s2.toks + (nestedKind X.prog X.w).draws (nkey p) } := fun h' dd' sb => by
        rw [storedH_new (show atKey ([] : List (NestedKey × Addr × Value)) (nkey p) = none from rfl), List.nil_append] at dd'
        obtain ⟨od, g1, g2⟩ := nd_of dd'
        exact ⟨.ref s.heap.objs.size, _, d_write I2 (by rw [hd]; exact True.intro) sb ⟨od, g1⟩ (pin_ok g1), rfl, q2 od u2 hm g2⟩
      refine wpAny_bind (wpAny_bind ?_)
      refine wpAny_dictSet_heap (knd := nestedKind X.prog X.w) (k := nkey p) (xs := []) (hsz := Nat.zero_le _) hu8 hkey dd fun h' dd' sb => ?_
      refine wpAny_pure ?_
      dsimp only
      rw [List.forIn_nil]
      exact wpAny_pure (fin h' dd' sb)
end Bf
set_option Elab.async false
set_option linter.all false
set_option maxRecDepth 100000
set_option maxHeartbeats 1000000
namespace Bf
open PySem PySem.Spec PyProof.Rows L2
mutual
/-- data never lies where a pinned thing lies -/
theorem Is.off {M : Ad} {H : Hp} {d : Addr} {φ : Heap → Prop} (hd : H d = some (.ext φ)) : ∀ {x : PyData} {v : V}, Is M H x v → Is (fun a => M a ∨ a = d) H x v
  | .none, _, h => h
  | .bool _, _, h => h
  | .int _, _, h => h
  | .str _, _, h => h
  | .list _, _, h => by
    obtain ⟨a, vs, h1, h2, h3, h4⟩ := h
    exact ⟨a, vs, h1, (fun m => m.elim h2 fun e => (by rw [e, hd] at h3; cases h3)), h3, IsAll.off hd h4⟩
  | .tuple _, _, h => by
    obtain ⟨a, vs, h1, h2, h3, h4⟩ := h
    exact ⟨a, vs, h1, (fun m => m.elim h2 fun e => (by rw [e, hd] at h3; cases h3)), h3, IsAll.off hd h4⟩
  | .dict _, _, h => by
    obtain ⟨a, h1, h2, h3⟩ := h
    exact ⟨a, h1, (fun m => m.elim h2 fun e => (by rw [e, hd] at h3; cases h3)), h3⟩
theorem IsAll.off {M : Ad} {H : Hp} {d : Addr} {φ : Heap → Prop} (hd : H d = some (.ext φ)) : ∀ {xs : List PyData} {vs : List V}, IsAll M H xs vs → IsAll (fun a => M a ∨ a = d) H xs vs
  | [], [], _ => True.intro
  | _ :: _, _ :: _, h => ⟨Is.off hd h.1, IsAll.off hd h.2⟩
  | [], _ :: _, h => h
  | _ :: _, [], h => h
end
theorem IsAll.plus1 {W : Ad} {H : Hp} {p : Addr} {d : PyData} {v : V} (n : H p = none) (h : Is W H d v) : Is (fun a => W a ∨ a = p) H d v := Is.weak (fun a m k => m.resolve_right fun z => k (by rw [z]; exact n)) h
theorem pair_ref {M : Ad} {H : Hp} {p : Pr} {v : V} (h : Is M H (pairD p) v) : ∃ b, v = .ref b := tup_ref h
/-- what is walked, while nothing is changed -/
def WalkEx (J : It) (W : Ad) (ds : List PyData) (H : Hp) : Prop := ∀ H1 : Hp, Ex H H1 → (∀ (i : Nat) d, ds[i]? = some d → J.go i H1 ∧ ∀ x H2, J.yld i H1 x H2 → Ex H1 H2 ∧ ∀ D, H D = none → Is (fun a => W a ∨ a = D) H2 d x) ∧ J.stop ds.length H1
def wE (ρ : Rho) (ds : List PyData) : TI := fun σ H R => ∃ C, Holds C ρ σ H ∧ ∀ J H', Ex H H' → WalkEx J (All C ρ σ) ds H' → R J H'
section
variable {X : Cx} {ρ : Rho} {s : Bool} {a b e elt tg it : Expr} {scope : Scope} {own : List (Str × Nat)} {pos p1 : Pos} {α : Type} {l : List α} {g f : α → PyData} {ts : List Nat} {ρt : α → Rho} {R : Po} {sts : List Stmt}
theorem lc_readE (hl : l.length ≤ 1000000) (hw : ∀ i ∈ own.map (·.2), isO ρ[i]? = false) (hts : ∀ i ∈ ts, i ∈ own.map (·.2)) {σ : L2.St} {H : Hp} {Q : VK} {C : Cn} (hh : Holds C ρ σ H) (q : ∀ D H' vs, H D = none → Ex H H' → H' D = some (.lst vs) → IsAll (fun a => All C ρ σ a ∨ a = D) H' (l.map f) vs → Q (.ref D) H') :
    tLc (wE ρ (l.map g)) (fun v σ H Q => ∃ a, a ∈ l ∧ gD ts (wipeR ρ (own.map (·.2))) (g a) (ρt a) v σ H Q) tYes (fun σ H Q => ∃ a, a ∈ l ∧ tD (ρt a) true (f a) σ H Q) (own.map (·.2)) σ H Q := by
  refine ⟨C, hh, fun J H1 e1 wk D nD => ?_⟩
  have hw' : ∀ i ∈ own.map (·.2), ∀ l p, ρ[i]? ≠ some (some (SV.o l p)) := fun i m => isO_no (hw i m)
  refine ⟨fun i m H' => m = l.length - i ∧ i ≤ l.length ∧ LcI (All C ρ σ) H1 D (l.map f) i H', ⟨l.length, by simp, Nat.zero_le _, nD, Ex.new nD, ⟨[], upd_same, by rw [List.take_zero]; exact True.intro⟩⟩, ?_⟩
  rintro i m H' ⟨rfl, hi, I⟩
  obtain ⟨k1, k2⟩ := wk H' I.e
  by_cases lt : i < l.length
  · have ga : l[i]? = some l[i] := List.getElem?_eq_getElem lt
    have gd : (l.map g)[i]? = some (g l[i]) := by rw [List.getElem?_map, ga, Option.map_some]
    have gf : (l.map f)[i]? = some (f l[i]) := by rw [List.getElem?_map, ga, Option.map_some]
    obtain ⟨go, yl⟩ := k1 i _ gd
    refine .inr ⟨go, fun H2 => LcI (All C ρ σ) H1 D (l.map f) (i + 1) H2, fun H2 I2 => ⟨l.length - (i + 1), by omega, rfl, lt, I2⟩, fun x H2 y => ?_⟩
    obtain ⟨e2, isx⟩ := yl x H2 y
    have nH : H D = none := e1.back nD
    have exH : Ex H H2 := (e1.trans I.e).trans e2
    obtain ⟨vs, hv, iv⟩ := I.l
    have hv2 : H2 D = some (.lst vs) := e2 _ _ hv
    have hA : Holds (C.add D) ρ σ H2 := hh.addM nH exH (ne_none hv2)
    obtain ⟨hB, eB⟩ := hA.wipe (vs := own.map (·.2)) hw'
    have eAll : ∀ a, All (C.add D) (wipeR ρ (own.map (·.2))) (L2.wipe σ (own.map (·.2))) a ↔ All C ρ σ a ∨ a = D := fun a => (eB a).trans all_add
    refine ⟨l[i], mem_at ga, C.add D, hB, ?_, fun σ2 h2 eq2 l2 o2 => ⟨?_, ?_⟩⟩
    · exact Is.weak (fun a m _ => (eAll a).mp m) (isx D nD)
    · refine wipe_eq (by rw [l2, L2.wipe_length]) fun j n => ?_
      rw [o2 j fun z => n (hts j z)]
      exact wipe_out' n
    · show ∃ a, a ∈ l ∧ tD (ρt a) true (f a) σ2 H2 (fun y H4 => ∃ acc, H4 D = some (HO.lst acc) ∧ acc.length < sizeLine ∧ LcI (All C ρ σ) H1 D (l.map f) (i + 1) (upd H4 D (.lst (acc ++ [y]))))
      refine ⟨l[i], mem_at ga, C.add D, h2, fun y' H4 e4 iy => ⟨vs, e4 _ _ hv2, ?_, nD, exD nD ((I.e.trans e2).trans e4), vs ++ [y'], upd_same, ?_⟩⟩
      · rw [← iv.length, List.length_take, List.length_map]
        exact sz_lt (by omega)
      · have fu : Fr (fun a => All C ρ σ a ∨ a = D) H4 (upd H4 D (.lst (vs ++ [y']))) := Fr.upd (.inr rfl)
        rw [List.take_add_one, gf]
        refine IsAll.append (IsAll.fr fu (IsAll.ex (e2.trans e4) iv)) (IsAll.one (Is.fr fu (Is.weak (fun a m _ => ?_) iy)))
        exact ⟨rfl, (eq2 a).mpr ((eAll a).mpr m)⟩
  · have e : i = l.length := by omega
    subst e
    rw [List.length_map] at k2
    obtain ⟨vs, hv, iv⟩ := I.l
    rw [List.take_of_length_le (by rw [List.length_map]; exact Nat.le_refl _)] at iv
    exact .inl ⟨k2, q D H' vs (e1.back nD) (e1.trans I.e) hv iv⟩
theorem px_lcE (hc : X.calm = true) (nd : X.N.Nodup) (ok : BlkOk X.N X.env.scope scope own) (hi : PI X tg it (wE ρ (l.map g))) (hl : l.length ≤ 1000000)
    (ht : ∀ a, a ∈ l → ∀ (s : Shared) (H : Hp) (C : Addr) (cl : List (Str × Addr)) (fp : List Addr), PGD (X.blk s H scope (compEnvC scope cl C X.env) fp) tg ts (wipeR ρ (own.map (·.2))) (g a) (ρt a))
    (he : ∀ a, a ∈ l → ∀ (s : Shared) (H : Hp) (C : Addr) (cl : List (Str × Addr)) (fp : List Addr), PX (X.blk s H scope (compEnvC scope cl C X.env) fp) (ρt a) true elt (f a)) (hw : noOwn ρ (own.map (·.2)) = true := by rfl) (hts : within ts (own.map (·.2)) = true := by rfl) (hs : ∀ x, foldedSetIterable it X.env x = pure x := by intro _; rfl) :
    PX X ρ s (.ListComp elt [⟨tg, it, [], 0⟩] scope pos) (.list (l.map f)) :=
  PEimp (pe_lc hc nd hi ok (fun s H C cl fp => pg_ex fun a m => ht a m s H C cl fp) (fun _ _ _ _ _ => pts_nil) (fun s H C cl fp => pe_ex fun a m => he a m s H C cl fp) hs) fun σ H Q ⟨C, hh, q⟩ =>
    lc_readE hl (noOwn_ok hw) (within_ok hts) hh fun D H' vs n e hv iv => q _ H' e ⟨D, vs, rfl, wk_fresh hh n, hv, IsAll.weak (fun a m _ => .inl m.2) iv⟩
/-! ### the dict that a slot holds -/
variable {ps : List Pr} {p : Pr} {lc : Bool} {pos2 apos : Pos}
theorem sd_dictN (k : Nat) {nm : Str} {kx vx : Expr} {x : PyData} (nd : X.N.Nodup) (hu : X.A.units + 64 < cLine) (hk : PX X ρ true kx (pairD p)) (hv : PX X ρ true vx x) (hrest : PSD X (ρ.set k (some (.o true (oN X.prog X.w [p])))) sts R) (hp : isP ρ[k]? = false := by rfl) (hi : X.N[k]? = some nm := by rfl) (hx : Loc X.env.scope nm := by first | exact Or.inl rfl | exact Or.inr rfl)
    (hs : swapsWith (.Dict [some kx] [vx] pos2) (some (.Name nm p1)) pos.line X.env = pure false := by rfl) (hf : X.fn nm = true ∨ X.env.scope.names.lookup nm = some .local := by first | exact .inl rfl | exact .inr rfl) :
    PSD X ρ (.Assign [.Name nm p1] (.Dict [some kx] [vx] pos2) pos :: sts) R := PSsimp (pss_cons (ps_set nd hi hx (pe_dispN hu hk hv) hs hf) hrest) fun D σ H ⟨C, hh, q⟩ => fun d hd =>
  ⟨C, hh.ex (Ex.new hd), fun y H1 e1 g1 => ⟨C, (hh.ex (Ex.new hd)).ex e1, fun v H2 e2 g2 => by
    obtain ⟨b, rfl⟩ := pair_ref g1
    have hd2 : H2 d = some (pinO d mtObj) := e2 _ _ (e1 _ _ upd_same)
    refine ⟨b, _, p, rfl, (Is.ex e2 g1).ofT, hd2, fun od u hm nd' => ⟨C, hh.setO hd ?_ ⟨hm, by show 1 ≤ 100000; decide, od, _, upd_same, nd', ⟨rfl, ?_⟩, True.intro⟩ (isP_no hp), q⟩⟩
    · intro c o hc
      have nc : c ≠ d := fun z => by rw [z, hd] at hc; cases hc
      rw [upd_ne nc]
      exact e2 _ _ (e1 _ _ (by rw [upd_ne nc]; exact hc))
    · exact Is.fr (Fr.upd (.inr rfl)) (Is.off hd2 (Is.ex e2 g1).ofT)⟩⟩
theorem pt_notinN (k : Nat) {nm : Str} (hu : X.A.units + 64 < cLine) (hk : ρ[k]? = some (some (.o lc (oN X.prog X.w ps)))) (ha : PX X ρ false a (pairD p)) (hN : X.N[k]? = some nm := by rfl) (hv : Vis X.env.scope nm := by first | exact Or.inl rfl | exact Or.inr (Or.inl rfl) | exact Or.inr (Or.inr rfl))
    (hd : (nm == ("__debug__" : Str)) = false := by decide) (hcd : (nm == ("__classdict__" : Str)) = false := by decide) (h1 : behindInMarks .NotIn (.Name nm p1) = false := by rfl) : PXt X ρ (.Compare a [.NotIn] [.Name nm p1] pos) (!decide (p ∈ ps)) :=
  PTimp (pt_cmp (Bf.pc_notN hu ha (pe_var hN hv hd hcd)) h1) fun σ H Q ⟨C, hh, q⟩ => ⟨C, hh, fun v H1 e1 g => by
    obtain ⟨a, f1, f2, _⟩ := hh.own k lc _ hk
    obtain ⟨b, rfl⟩ := pair_ref g
    exact ⟨.ref a, f1, a, b, _, _, p, ps, rfl, rfl, g, (oN X.prog X.w ps).fr f2 fun c o z _ => e1 c o z, _, rfl, q H1 e1⟩⟩
theorem sd_putN (k : Nat) {nm : Str} {x : PyData} (hu : X.A.units + 64 < cLine) (hk : ρ[k]? = some (some (.o lc (oN X.prog X.w ps)))) (he : PX X ρ false e x) (hb : PX X ρ true b (pairD p)) (np : p ∉ ps) (hl : ps.length < 100000) (hrest : PSD X (ρ.set k (some (.o lc (oN X.prog X.w (ps ++ [p]))))) sts R)
    (hN : X.N[k]? = some nm := by rfl) (hv : Vis X.env.scope nm := by first | exact Or.inl rfl | exact Or.inr (Or.inl rfl) | exact Or.inr (Or.inr rfl)) (hd : (nm == ("__debug__" : Str)) = false := by decide) (hcd : (nm == ("__classdict__" : Str)) = false := by decide)
    (hs : swapsWith e (some (.Subscript (.Name nm p1) b apos)) pos.line X.env = pure false := by rfl) : PSD X ρ (.Assign [.Subscript (.Name nm p1) b apos] e pos :: sts) R :=
  PSsimp (pss_cons (ps_putN hu (pe_var hN hv hd hcd) hb he hs) hrest) fun D σ H ⟨C, hh, q⟩ => ⟨C, hh, fun v H1 e1 g => by
    obtain ⟨a, f1, f2, _⟩ := hh.own k lc _ hk
    refine ⟨.ref a, f1, C, hh.ex e1, fun w H2 e2 gw => ?_⟩
    obtain ⟨b, rfl⟩ := pair_ref gw
    have hh2 := (hh.ex e1).ex e2
    obtain ⟨hm, _, od, xs, hH, nd, kp⟩ := (oN X.prog X.w ps).fr f2 fun c o z _ => e2 c o (e1 c o z)
    refine ⟨a, b, _, _, p, ps, od, xs, rfl, rfl, gw, ⟨hm, hl, hH, nd, kp⟩, np, fun od' u nd' => ⟨C, ?_, q⟩⟩
    have inA : All C ρ σ a := .inr (.inr ⟨k, lc, _, hk, f1⟩)
    refine hh2.mut hk f1 (fun b o z n => by rw [upd_ne n]; exact z) ⟨hm, by rw [List.length_append]; show ps.length + 1 ≤ _; omega, od', _, upd_same, nd', ?_⟩
    exact KP.snoc ⟨rfl, Is.fr (Fr.upd inA) gw.ofT⟩ (KP.fr (Fr.upd inA) kp)⟩
theorem pn_lenN (k : Nat) {nm : Str} (hk : ρ[k]? = some (some (.o lc (oN X.prog X.w ps)))) (hg : Gl X "len") (hm : X.mg "len" = none) (hN : X.N[k]? = some nm := by rfl) (hv : Vis X.env.scope nm := by first | exact Or.inl rfl | exact Or.inr (Or.inl rfl) | exact Or.inr (Or.inr rfl)) (hd : (nm == ("__debug__" : Str)) = false := by decide)
    (hcd : (nm == ("__classdict__" : Str)) = false := by decide) (he : starEach [.Name nm p1] X.env = (false, eval (.Name nm p1) X.env) :: starEach [] X.env := by rfl) (hpl : (backTo pos (starEach [] X.env)).any (·.1) = false := by rfl) :
    PX X ρ s (.Call (.Name "len" pos2) [.Name nm p1] [] pos) (nD ps.length) := PEimp (pe_callB call_lenN hg hm b_len (pa_cons (pe_var hN hv hd hcd) pa_nil he) (by decide) (by decide) he hpl) fun σ H Q ⟨C, hh, q⟩ => by
  obtain ⟨a, f1, f2, _⟩ := hh.own k lc _ hk
  exact ⟨.ref a, f1, a, _, ps, rfl, f2, q _ H (Ex.refl H) rfl⟩
theorem px_sortN (k : Nat) {nm : Str} {bs : List Pr} (hu : X.A.units + 64 < cLine) (hc : X.calm = true) (hk : ρ[k]? = some (some (.o lc (oN X.prog X.w ps)))) (hg : Gl X "sorted") (hm : X.mg "sorted" = none) (hp : bs.Perm ps) (hs : SrtO.Srtd (SP X).lt bs) (hN : X.N[k]? = some nm := by rfl) (hv : Vis X.env.scope nm := by first | exact Or.inl rfl | exact Or.inr (Or.inl rfl) | exact Or.inr (Or.inr rfl)) (hd : (nm == ("__debug__" : Str)) = false := by decide)
    (hcd : (nm == ("__classdict__" : Str)) = false := by decide) (he : starEach [.Name nm p1] X.env = (false, eval (.Name nm p1) X.env) :: starEach [] X.env := by rfl) (hpl : (backTo pos (starEach [] X.env)).any (·.1) = false := by rfl) :
    PX X ρ s (.Call (.Name "sorted" pos2) [.Name nm p1] [] pos) (.list (bs.map pairD)) := PEimp (pe_callB (cr_sortedN hc hu) hg hm b_sorted (pa_cons (pe_var hN hv hd hcd) pa_nil he) (by decide) (by decide) he hpl) fun σ H Q ⟨C, hh, q⟩ => by
  obtain ⟨a, f1, f2, _⟩ := hh.own k lc _ hk
  refine ⟨.ref a, f1, a, _, ps, rfl, f2, fun bs' q' us hp' hs' hn iu => ?_⟩
  have : bs' = bs := srt_uniq (SP X).swo SP_anti hs' hs (hp'.trans hp.symm)
  subst this
  exact q _ _ (Ex.new hn) ⟨q', us, rfl, wk_fresh hh hn, upd_same, (IsAll.ex (Ex.new hn) iu).wk⟩
theorem piE_N (k : Nat) {nm : Str} (hk : ρ[k]? = some (some (.o lc (oN X.prog X.w ps)))) (hN : X.N[k]? = some nm := by rfl) (hv : Vis X.env.scope nm := by first | exact Or.inl rfl | exact Or.inr (Or.inl rfl) | exact Or.inr (Or.inr rfl)) (hd : (nm == ("__debug__" : Str)) = false := by decide)
    (hcd : (nm == ("__classdict__" : Str)) = false := by decide) : PI X tg (.Name nm p1) (wE ρ (ps.map pairD)) := PIimp (pi_N (pe_var hN hv hd hcd)) fun σ H R ⟨C, hh, q⟩ => by
  obtain ⟨a, f1, ⟨hm, hl, od, xs, hH, nd, kp⟩, _⟩ := hh.own k lc _ hk
  refine ⟨.ref a, f1, a, od, xs, rfl, hm, hH, nd, q _ H (Ex.refl H) fun H1 e1 => ⟨fun i d hd => ?_, ?_⟩⟩
  · rw [List.getElem?_map] at hd
    cases e : ps[i]? with
    | none =>
      rw [e] at hd
      cases hd
    | some p =>
      rw [e] at hd
      have : pairD p = d := Option.some.inj hd
      subst this
      obtain ⟨x, hx, _, ix⟩ := kp.at e
      refine ⟨⟨e1 _ _ hH, (List.getElem?_eq_some_iff.mp hx).1⟩, fun v H2 ⟨ee, x', hx', ev⟩ => ?_⟩
      subst ee ev
      rw [hx] at hx'
      cases hx'
      exact ⟨Ex.refl _, fun D nD => Is.ex e1 (IsAll.plus1 nD ix)⟩
  · refine ⟨e1 _ _ hH, ?_⟩
    rw [List.length_map, kp.len]
    exact Nat.le_refl _
end
end Bf
set_option Elab.async false
set_option linter.all false
set_option maxRecDepth 100000
set_option maxHeartbeats 1000000
namespace Bf
open PySem PySem.Spec PyProof.Rows L2
/-! ### the search, as plain lists -/
/-- the row of inputs number b -/
def inW (k b : Nat) : List Nat := (List.range k).map fun j => b / 2 ^ (k - 1 - j) % 2
def rowsW (k : Nat) : List (List Nat) := (List.range (2 ^ k)).map (inW k)
def dif (n o : Net) (g : List Nat) (p : Pr) : Bool := !decide (shownN n (bitsN n g p.1) = shownN o (bitsN o g p.2))
def nxt (n o : Net) (g : List Nat) (p : Pr) : Pr := (nextN n (bitsN n g p.1), nextN o (bitsN o g p.2))
abbrev Way : Type := List (List Nat)
abbrev Lv : Type := List (Pr × Way)
def stepG (n o : Net) (p : Pr) (row : Way) (g : List Nat) (acc : List Pr × Lv) : List Pr × Lv := if nxt n o g p ∈ acc.1 then acc else (acc.1 ++ [nxt n o g p], acc.2 ++ [(nxt n o g p, row ++ [g])])
def goG (n o : Net) (p : Pr) (row : Way) : List (List Nat) → List Pr × Lv → Way ⊕ (List Pr × Lv)
  | [], acc => .inr acc
  | g :: gs, acc => if dif n o g p = true then .inl (row ++ [g]) else goG n o p row gs (stepG n o p row g acc)
def goL (n o : Net) (G : List (List Nat)) : Lv → List Pr × Lv → Way ⊕ (List Pr × Lv)
  | [], acc => .inr acc
  | x :: lv, acc => match goG n o x.1 x.2 G acc with
    | .inl r => .inl r
    | .inr acc' => goL n o G lv acc'
inductive Res where
  | part (r : Way)
  | states
  | alike (met : List Pr)
def srch (n o : Net) (G : List (List Nat)) : Nat → List Pr → Lv → Res
  | 0, met, _ => .alike met
  | f + 1, met, lv => match goL n o G lv (met, []) with
    | .inl r => .part r
    | .inr (met', af) => if 300 < met'.length then .states else if af = [] then .alike met' else srch n o G f met' af
/-- the sorted list of these pairs -/
def lePr (a b : Pr) : Bool := !ltPP (zs b.1, zs b.2) (zs a.1, zs a.2)
def srtP (l : List Pr) : List Pr := l.mergeSort lePr
theorem srtP_perm (l : List Pr) : (srtP l).Perm l := List.mergeSort_perm l lePr
theorem srtP_srt {X : Cx} (l : List Pr) : SrtO.Srtd (SP X).lt (srtP l) := by
  have h := List.pairwise_mergeSort (le := lePr) (fun a b c h1 h2 => by
    unfold lePr at *
    have e1 : ltPP (zs b.1, zs b.2) (zs a.1, zs a.2) = false := by simpa using h1
    have e2 : ltPP (zs c.1, zs c.2) (zs b.1, zs b.2) = false := by simpa using h2
    rw [ltPP_swo.tr _ _ _ e1 e2]
    rfl) (fun a b => by
    unfold lePr
    cases h : ltPP (zs b.1, zs b.2) (zs a.1, zs a.2) with
    | false => rfl
    | true =>
      rw [ltPP_swo.asym _ _ h]
      rfl) l
  exact h.imp fun {a b} h => by
    have h' : lePr a b = true := h
    unfold lePr at h'
    have : ltPP (zs b.1, zs b.2) (zs a.1, zs a.2) = false := by simpa using h'
    exact this
abbrev wayD (r : Way) : PyData := .tuple (r.map tupD)
def lvD (x : Pr × Way) : PyData := .tuple [pairD x.1, wayD x.2]
def resD : Res → PyData
  | .part r => .tuple [.str "part", wayD r]
  | .states => .list [.str "states"]
  | .alike m => .tuple [.str "alike", .tuple ((srtP m).map pairD)]
/-- the sizes of the states -/
def Sz (n o : Net) (p : Pr) : Prop := p.1.length = n.regs.length ∧ p.2.length = o.regs.length
theorem nxt_sz (n o : Net) (g : List Nat) (p : Pr) : Sz n o (nxt n o g p) := ⟨List.length_map _, List.length_map _⟩
/-- what holds of what was met, and of the next level -/
structure AccOk (n o : Net) (b w : Nat) (acc : List Pr × Lv) : Prop where
  ml : acc.1.length ≤ b
  al : acc.2.length ≤ acc.1.length
  ms : ∀ p ∈ acc.1, Sz n o p
  as : ∀ x ∈ acc.2, Sz n o x.1 ∧ x.2.length ≤ w
theorem AccOk.step {n o : Net} {b w : Nat} {acc : List Pr × Lv} (h : AccOk n o b w acc) {p : Pr} {row : Way} {g : List Nat} (hr : row.length < w) : AccOk n o (b + 1) w (stepG n o p row g acc) := by
  unfold stepG
  split
  · exact ⟨Nat.le_succ_of_le h.ml, h.al, h.ms, h.as⟩
  · have := h.ml
    have := h.al
    refine ⟨by rw [List.length_append]; show _ + 1 ≤ _; omega, by rw [List.length_append, List.length_append]; show _ + 1 ≤ _ + 1; omega, fun q m => ?_, fun x m => ?_⟩
    · rcases List.mem_append.mp m with m | m
      · exact h.ms q m
      · rw [List.mem_singleton.mp m]
        exact nxt_sz _ _ _ _
    · rcases List.mem_append.mp m with m | m
      · exact h.as x m
      · rw [List.mem_singleton.mp m]
        refine ⟨nxt_sz _ _ _ _, ?_⟩
        show (row ++ [g]).length ≤ w
        rw [List.length_append]
        show _ + 1 ≤ _
        omega
theorem rows_ok : ∀ k : Nat, k ≤ 6 → List.isPerm (rowsW k) ((List.range (2 ^ k)).map fun b => rowD k b) = true := by decide +kernel
theorem rows_srt0 : ∀ k : Nat, k ≤ 6 → (rowsW k).Pairwise (fun x y => HT.lexLt (zs y) (zs x) = false) := by decide +kernel
end Bf
set_option Elab.async false
set_option linter.all false
set_option maxRecDepth 100000
set_option maxHeartbeats 4000000
namespace Bf
open PySem PySem.Spec PyProof.Rows L2
theorem cl_zs : ∀ ns : List Int, PyData.canLayAll0 (ns.map PyData.int) = true
  | [] => rfl
  | _ :: r => by simp [PyData.canLayAll0, PyData.canLay0, cl_zs r]
theorem dp_zs : ∀ ns : List Int, PyData.depthAll (ns.map PyData.int) = 0
  | [] => rfl
  | _ :: r => by simp [PyData.depthAll, PyData.depth, dp_zs r]
theorem okD_tup (l : List Nat) : okD (tupD l) = true := by
  unfold okD
  rw [flat_tupD, tupD_zs]
  generalize zs l = ns
  simp only [SeqAt.shaped, PyData.canLay0, PyData.depth, cl_zs, dp_zs]
  rfl
theorem goL_inl {n o : Net} {G : List (List Nat)} {x : Pr × Way} {lv : Lv} {acc : List Pr × Lv} {r : Way} (h : goG n o x.1 x.2 G acc = .inl r) : goL n o G (x :: lv) acc = .inl r := by
  rw [goL, h]
theorem goL_inr {n o : Net} {G : List (List Nat)} {x : Pr × Way} {lv : Lv} {acc acc' : List Pr × Lv} (h : goG n o x.1 x.2 G acc = .inr acc') : goL n o G (x :: lv) acc = goL n o G lv acc' := by
  rw [goL, h]
theorem eqv_nats (a b : List Nat) : PyData.eqv (tupD a) (tupD b) = decide (a = b) := by
  rw [tupD_zs, tupD_zs, eqv_ints]
  by_cases h : a = b
  · rw [decide_eq_true h, h, decide_eq_true rfl]
  · rw [decide_eq_false h, decide_eq_false fun z => h (zs_inj z)]
theorem pt_neT {X : Cx} {ρ : Rho} {a b : Expr} {x y : List Nat} {pos : Pos} (hu : X.A.units + 64 < cLine) (ha : PX X ρ false a (tupD x)) (hb : PX X ρ false b (tupD y)) : PXt X ρ (.Compare a [.NotEq] [b] pos) (!decide (x = y)) := by
  rw [← eqv_nats]
  exact pt_neD hu ha hb (okD_tup _) (okD_tup _)
structure TwoN where
  n : Net
  o : Net
def TwoN.pre (a : TwoN) : Prop := a.n.Fine ∧ a.o.Fine ∧ a.n.ins.length = a.o.ins.length ∧ a.n.ins.length ≤ 6
def startP (n o : Net) : Pr := (startN n, startN o)
def lawRes (n o : Net) : Res := srch n o (rowsW n.ins.length) 302 [startP n o] [(startP n o, [])]
theorem rowsW_mem {k : Nat} {g : List Nat} (h : g ∈ rowsW k) : g.length = k := by
  obtain ⟨b, _, rfl⟩ := List.mem_map.mp h
  unfold inW
  rw [List.length_map, List.length_range]
theorem rowsW_len (k : Nat) : (rowsW k).length = 2 ^ k := by
  unfold rowsW
  rw [List.length_map, List.length_range]
section
variable {P : Program} {w : World} {K : PySem.W.Frag} {mg : Str → Option Value} {base : Heap}
abbrev seaR (P : Program) (w : World) (a : TwoN) (met : List Pr) (lv : Lv) (o6 o7 o8 o9 o10 o11 o12 o13 o14 : Option SV) : Rho :=
  [some (.d (netD a.n)), some (.d (netD a.o)), some (.d (.list ((rowsW a.n.ins.length).map tupD))), some (.d (pairD (startP a.n a.o))), some (.o true (oN P w met)), some (.d (.list (lv.map lvD))), o6, o7, o8, o9, o10, o11, o12, o13, o14]
abbrev spSearch : Sp := spP (ι := TwoN) (fun a => [netD a.n, netD a.o]) TwoN.pre (fun a y => y = resD (lawRes a.n a.o))
set_option maxHeartbeats 40000000 in
theorem ok_search (F : Has K mg "_law_search" S_law_search) (B : Blt mg) (Ab : Cal P w K mg base 1 "_law_all_bits" P_law_all_bits spAll) (Ns : Cal P w K mg base 1 "_law_net_start" P_law_net_start spStart) (Nb : Cal P w K mg base 3 "_law_net_beat" P_law_net_beat spBeat) : Cal P w K mg base 4 "_law_search" P_law_search spSearch :=
  fnP F sc_law_search (fun _ => rfl) (fun _ _ _ _ _ _ us hl => match us, hl with | [_, _], _ => rfl) fun f cdv A outer s H E hr a hp => by
    have nd := sc_law_search.nd
    obtain ⟨fn, fo, hk, k6⟩ := hp
    have hun : (cxOf CX0 P w K mg base N_law_search "_law_search" (defScope S_law_search) f cdv A outer s H E).nox.A.units + 64 < cLine := hr.units
    have kl : (rowsW a.n.ins.length).length ≤ 64 := by
      rw [rowsW_len]
      exact Nat.pow_le_pow_right (n := 2) (by decide) k6
    refine sd_set 2 nd (x := .list ((rowsW a.n.ins.length).map tupD)) (px_sortG (SI _) SI_anti hun (as := (List.range (2 ^ a.n.ins.length)).map fun b => rowD a.n.ins.length b) rfl B.sorted (px_eq (px_call Ab a.n.ins.length k6 (pxs_cons (px_eq (pn_lenT rfl B.len b_len (px_ixT (px_v 0) px_int rfl)) (by rw [List.length_map])) pxs_nil) (fun y e => e)) (by rw [List.map_map]; rfl)) (fun h2 x m => ?_) (List.isPerm_iff.mp (rows_ok _ k6)) (rows_srt0 _ k6)) ?_
    · rw [List.length_map, List.length_range] at h2
      obtain ⟨b, _, rfl⟩ := List.mem_map.mp m
      intro z
      have hl := congrArg List.length z
      unfold rowD at hl
      rw [List.length_map, List.length_range] at hl
      have : a.n.ins.length = 0 := hl
      rw [this] at h2
      simp at h2
    refine sd_set 3 nd (x := pairD (startP a.n a.o)) (px_tup (pxs_cons (px_call Ns a.n fn (pxs_cons (px_v 0) pxs_nil) (fun y e => e)) (pxs_cons (px_call Ns a.o fo (pxs_cons (px_v 1) pxs_nil) (fun y e => e)) pxs_nil))) ?_
    refine sd_dictN 4 (p := startP a.n a.o) nd hun (px_v 3) px_bl ?_
    refine sd_set 5 nd (x := .list ([(startP a.n a.o, [])].map lvD)) (px_lst (pxs_cons (px_tup (pxs_cons (px_v 3) (pxs_cons (px_tup pxs_nil) pxs_nil))) pxs_nil)) ?_
    have sst : Sz a.n a.o (startP a.n a.o) := ⟨List.length_map _, List.length_map _⟩
    refine sd_for (l := List.range 302) (g := nD)
      (fun i ρ => ∃ (met : List Pr) (lv : Lv), lawRes a.n a.o = srch a.n a.o (rowsW a.n.ins.length) (302 - i) met lv ∧ met.length ≤ 300 ∧ lv.length ≤ 300 ∧ (∀ p ∈ met, Sz a.n a.o p) ∧ (∀ x ∈ lv, Sz a.n a.o x.1 ∧ x.2.length ≤ i) ∧ ρ = seaR P w a met lv none none none none none none none none none)
      (fun i ρ => ∃ (met : List Pr) (lv : Lv), lawRes a.n a.o = .alike met ∧ met.length ≤ 1000000 ∧ ρ = seaR P w a met lv none none none none none none none none none)
      rfl PassesOwn.never (pw_r rfl B.range (pn_c (k := 302)) rfl (by decide)) ⟨[startP a.n a.o], [(startP a.n a.o, [])], rfl, by show 1 ≤ 300; decide, by show 1 ≤ 300; decide, fun p m => by rw [List.mem_singleton.mp m]; exact sst, fun x m => by rw [List.mem_singleton.mp m]; exact ⟨sst, Nat.le_refl _⟩, rfl⟩
      (fun i b ρ' hb ⟨met, lv, hres, hm, hl, ms, ls, e⟩ => ?_) (fun ρ' ⟨met, lv, hres, hm, hl, ms, ls, e⟩ => ?_) (fun i ρ' ⟨met, lv, hres, hm, e⟩ => ?_)
    · subst e
      have hi : i < 302 := by
        have := (List.getElem?_eq_some_iff.mp hb).1
        rw [List.length_range] at this
        exact this
      have hres' : lawRes a.n a.o = match goL a.n a.o (rowsW a.n.ins.length) lv (met, []) with
          | .inl r => .part r
          | .inr (met', af) => if 300 < met'.length then .states else if af = [] then .alike met' else srch a.n a.o (rowsW a.n.ins.length) (302 - (i + 1)) met' af := by
        rw [hres, show 302 - i = (302 - (i + 1)) + 1 by omega]
        rfl
      clear hres
      refine ⟨[6], _, gd_n 6 nd, ?_⟩
      refine sd_new 7 nd (pf_lst pxs_nil) ?_
      -- the pairs of this level
      refine sd_for (l := lv) (g := lvD)
        (fun j ρ => ∃ acc : List Pr × Lv, goL a.n a.o (rowsW a.n.ins.length) lv (met, []) = goL a.n a.o (rowsW a.n.ins.length) (lv.drop j) acc ∧ AccOk a.n a.o (300 + j * 64) (i + 1) acc ∧ ρ = seaR P w a acc.1 lv (some (.d (nD b))) (some (.o true (oL (acc.2.map lvD)))) none none none none none none none)
        (fun _ _ => False) rfl PassesOwn.never (piw_L (px_v 5)) ⟨(met, []), rfl, ⟨by show met.length ≤ _; omega, Nat.zero_le _, ms, fun x m => by (cases m)⟩, rfl⟩ (fun j x ρ' hx ⟨acc, hg, ok, e⟩ => ?_) (fun ρ' ⟨acc, hg, ok, e⟩ => ?_) (fun _ _ z => z.elim)
      · subst e
        have hj := (List.getElem?_eq_some_iff.mp hx).1
        have lx := ls x (List.mem_of_getElem? hx)
        have hd : lv.drop j = x :: lv.drop (j + 1) := by
          rw [List.drop_eq_getElem_cons hj]
          congr 1
          exact (List.getElem?_eq_some_iff.mp hx).2
        rw [hd] at hg
        refine ⟨[8, 9], _, gd_t rfl (gds_cons (gd_n 8 nd) (gds_cons (gd_n 9 nd) gds_nil)), ?_⟩
        -- the rows of inputs
        refine sd_for (l := rowsW a.n.ins.length) (g := tupD)
          (fun m ρ => ∃ acc' : List Pr × Lv, goG a.n a.o x.1 x.2 (rowsW a.n.ins.length) acc = goG a.n a.o x.1 x.2 ((rowsW a.n.ins.length).drop m) acc' ∧ AccOk a.n a.o (300 + j * 64 + m) (i + 1) acc' ∧ ρ = seaR P w a acc'.1 lv (some (.d (nD b))) (some (.o true (oL (acc'.2.map lvD)))) (some (.d (pairD x.1))) (some (.d (wayD x.2))) none none none none none)
          (fun _ _ => False) rfl PassesOwn.never (piw_L (px_v 2)) ⟨acc, rfl, ok, rfl⟩ (fun m g ρ' hgm ⟨acc', hg', ok', e⟩ => ?_) (fun ρ' ⟨acc', hg', ok', e⟩ => ?_) (fun _ _ z => z.elim)
        · subst e
          have hm' := (List.getElem?_eq_some_iff.mp hgm).1
          have gl := rowsW_mem (List.mem_of_getElem? hgm)
          have hdm : (rowsW a.n.ins.length).drop m = g :: (rowsW a.n.ins.length).drop (m + 1) := by
            rw [List.drop_eq_getElem_cons hm']
            congr 1
            exact (List.getElem?_eq_some_iff.mp hgm).2
          rw [hdm] at hg'
          have ml := ok'.ml
          have al := ok'.al
          refine ⟨[10], _, gd_n 10 nd, ?_⟩
          refine sd_asg (px_call Nb ⟨a.n, g, x.1.1⟩ ⟨fn, gl, lx.1.1⟩ (pxs_cons (px_v 0) (pxs_cons (px_v 10) (pxs_cons (px_ixT (px_v 8) px_int rfl) pxs_nil))) (fun y e => e)) (gd_t rfl (gds_cons (gd_n 11 nd) (gds_cons (gd_n 12 nd) gds_nil))) ?_
          refine sd_asg (px_call Nb ⟨a.o, g, x.1.2⟩ ⟨fo, gl.trans hk, lx.1.2⟩ (pxs_cons (px_v 1) (pxs_cons (px_v 10) (pxs_cons (px_ixT (px_v 8) px_int rfl) pxs_nil))) (fun y e => e)) (gd_t rfl (gds_cons (gd_n 13 nd) (gds_cons (gd_n 14 nd) gds_nil))) ?_
          refine sd_ifr (d := dif a.n a.o g x.1) (pt_neT hun (px_v 11) (px_v 13)) (fun hdif => ?_) (fun hdif => ?_)
          · refine sd_retD (px_tup (pxs_cons px_str (pxs_cons (px_eq (px_catT (px_v 9) (px_tup (pxs_cons (px_v 10) pxs_nil)) (le1M (by rw [List.length_map]; show _ + 1 ≤ _; omega))) (y := wayD (x.2 ++ [g])) (by show PyData.tuple _ = PyData.tuple _; rw [List.map_append]; rfl)) pxs_nil))) ?_
            have e1 : goG a.n a.o x.1 x.2 (rowsW a.n.ins.length) acc = .inl (x.2 ++ [g]) := by
              rw [hg']
              show (if dif a.n a.o g x.1 = true then _ else _) = _
              rw [if_pos hdif]
            have e2 := goL_inl (lv := lv.drop (j + 1)) e1
            show _ = resD (lawRes a.n a.o)
            rw [hres', hg, e2]
            rfl
          · have eg : goG a.n a.o x.1 x.2 (rowsW a.n.ins.length) acc = goG a.n a.o x.1 x.2 ((rowsW a.n.ins.length).drop (m + 1)) (stepG a.n a.o x.1 x.2 g acc') := by
              rw [hg']
              show (if dif a.n a.o g x.1 = true then _ else _) = _
              rw [if_neg (by rw [hdif]; decide)]
            have okS := ok'.step (p := x.1) (row := x.2) (g := g) (by omega)
            refine sd_if (fun ρ' => ρ' = seaR P w a (stepG a.n a.o x.1 x.2 g acc').1 lv (some (.d (nD b))) (some (.o true (oL ((stepG a.n a.o x.1 x.2 g acc').2.map lvD)))) (some (.d (pairD x.1))) (some (.d (wayD x.2))) none none none none none)
              (pt_notinN 4 (p := nxt a.n a.o g x.1) hun rfl (px_tup (pxs_cons (px_v 12) (pxs_cons (px_v 14) pxs_nil)))) (fun h => ?_) (fun h => ?_) (fun ρ' e => by subst e; exact sd_nil ⟨_, eg, okS, rfl⟩)
            · have np : nxt a.n a.o g x.1 ∉ acc'.1 := by simpa using h
              refine sd_putN 4 (p := nxt a.n a.o g x.1) hun rfl px_bl (px_tup (pxs_cons (px_v 12) (pxs_cons (px_v 14) pxs_nil))) np (by omega) ?_
              refine sd_app 7 (x := lvD (nxt a.n a.o g x.1, x.2 ++ [g])) rfl (px_tup (pxs_cons (px_tup (pxs_cons (px_v 12) (pxs_cons (px_v 14) pxs_nil))) (pxs_cons (px_eq (px_catT (px_v 9) (px_tup (pxs_cons (px_v 10) pxs_nil)) (le1M (by rw [List.length_map]; show _ + 1 ≤ _; omega))) (y := wayD (x.2 ++ [g])) (by show PyData.tuple _ = PyData.tuple _; rw [List.map_append]; rfl)) pxs_nil))) (by rw [List.length_map]; omega) ?_
              refine sd_end [10, 11, 12, 13, 14] ?_
              show _ = _
              have es : stepG a.n a.o x.1 x.2 g acc' = (acc'.1 ++ [nxt a.n a.o g x.1], acc'.2 ++ [(nxt a.n a.o g x.1, x.2 ++ [g])]) := if_neg np
              rw [es, List.map_append]
              rfl
            · have ip : nxt a.n a.o g x.1 ∈ acc'.1 := by simpa using h
              refine sd_end [10, 11, 12, 13, 14] ?_
              have es : stepG a.n a.o x.1 x.2 g acc' = acc' := if_pos ip
              rw [es]
              rfl
        · subst e
          rw [List.drop_length] at hg'
          have e1 : goG a.n a.o x.1 x.2 (rowsW a.n.ins.length) acc = .inr acc' := hg'
          have e2 := goL_inr (lv := lv.drop (j + 1)) e1
          refine sd_end [8, 9] ⟨acc', hg.trans e2, ⟨by have := ok'.ml; omega, ok'.al, ok'.ms, ok'.as⟩, rfl⟩
      · subst e
        rw [List.drop_length] at hg
        rw [hg] at hres'
        have hres2 : lawRes a.n a.o = if 300 < acc.1.length then .states else if acc.2 = [] then .alike acc.1 else srch a.n a.o (rowsW a.n.ins.length) (302 - (i + 1)) acc.1 acc.2 := hres'
        refine sd_ifr (pt_gt (pn_lenN 4 rfl rfl B.len) px_int) (fun h => ?_) (fun h => ?_)
        · refine sd_retD (px_lst (pxs_cons px_str pxs_nil)) ?_
          have : 300 < acc.1.length := by
            have := of_decide_eq_true h
            omega
          show _ = resD (lawRes a.n a.o)
          rw [hres2, if_pos this]
          rfl
        · have hle : ¬ 300 < acc.1.length := by
            have := of_decide_eq_false h
            omega
          rw [if_neg hle] at hres2
          refine sd_ifr (pt_eqI (px_lenL rfl B.len b_len (px_b 7)) px_int) (fun h => ?_) (fun h => ?_)
          · have z : acc.2 = [] := by
              have := of_decide_eq_true h
              rw [List.length_map] at this
              exact List.length_eq_zero_iff.mp (by omega)
            rw [if_pos z] at hres2
            refine sd_keep 7 rfl (sd_drop [6, 7] (sd_brk ⟨acc.1, lv, hres2, by omega, rfl⟩))
          · have z : acc.2 ≠ [] := by
              intro z
              rw [z] at h
              simp at h
            rw [if_neg z] at hres2
            refine sd_keep 7 rfl (sd_set 5 nd (px_v 7) (sd_end [6, 7] ⟨acc.1, acc.2, hres2, by omega, by have := ok.al; omega, ok.ms, ok.as, rfl⟩))
    · subst e
      rw [List.length_range, Nat.sub_self] at hres
      have hr0 : lawRes a.n a.o = .alike met := hres
      refine sd_retD (px_tup (pxs_cons px_str (pxs_cons (px_tupL rfl B.tuple b_tuple (px_sortG (SP _) SP_anti hun (as := met) rfl B.sorted (px_lcE (own := [("_law_pair", 8)]) rfl nd (blkOk_by (N := N_law_search) (sc := defScope S_law_search) (by decide +kernel)) (piE_N 4 rfl) (by omega) (fun p m s' H' C' cl' fp' => gd_n 8 nd) (fun p m s' H' C' cl' fp' => px_v 8)) (fun h2 x m => trivial) (srtP_perm met) (srtP_srt met))) pxs_nil))) ?_
      show _ = resD (lawRes a.n a.o)
      rw [hr0]
      rfl
    · subst e
      refine sd_retD (px_tup (pxs_cons px_str (pxs_cons (px_tupL rfl B.tuple b_tuple (px_sortG (SP _) SP_anti hun (as := met) rfl B.sorted (px_lcE (own := [("_law_pair", 8)]) rfl nd (blkOk_by (N := N_law_search) (sc := defScope S_law_search) (by decide +kernel)) (piE_N 4 rfl) hm (fun p m s' H' C' cl' fp' => gd_n 8 nd) (fun p m s' H' C' cl' fp' => px_v 8)) (fun h2 x m => trivial) (srtP_perm met) (srtP_srt met))) pxs_nil))) ?_
      show _ = resD (lawRes a.n a.o)
      rw [hres]
      rfl
end
end Bf
set_option Elab.async false
set_option linter.all false
set_option maxRecDepth 100000
set_option maxHeartbeats 4000000
namespace Bf
open PySem PySem.Spec PyProof.Rows L2
theorem eqv_strs : ∀ ns ms : List Str, PyData.eqv (.tuple (ns.map .str)) (.tuple (ms.map .str)) = decide (ns = ms)
  | [], [] => rfl
  | [], _ :: _ => rfl
  | _ :: _, [] => rfl
  | n :: ns, m :: ms => by
    have ih := eqv_strs ns ms
    show ((n == m) && PyData.eqv (.tuple (ns.map .str)) (.tuple (ms.map .str))) = _
    rw [ih]
    by_cases e : n = m
    · subst e
      by_cases e2 : ns = ms
      · subst e2
        simp
      · simp [e2]
    · simp [e]
theorem flat_strs : ∀ ns : List Str, flatAll (ns.map PyData.str) = true
  | [] => rfl
  | _ :: l => flat_strs l
theorem reads_strs {h : Heap} : ∀ {ns : List Str} {vs : List Value} {as : List Addr}, ReadsAll h vs (ns.map .str) as → ns.length = vs.length ∧ ∀ j (h1 : j < vs.length), ∃ t, vs[j] = .str (ns.getD j default) t
  | [], _, _, r => by
    cases r
    exact ⟨rfl, fun j h1 => absurd h1 (Nat.not_lt_zero _)⟩
  | n :: ns, _, _, r => by
    cases r with
    | cons r1 r2 =>
      cases r1
      have ih := reads_strs r2
      refine ⟨by simp [ih.1], fun j h1 => ?_⟩
      cases j with
      | zero => exact ⟨_, rfl⟩
      | succ j =>
        have := ih.2 j (by simpa using h1)
        simpa using this
theorem strs_all : ∀ ns ms : List Str, ((List.range (min ns.length ms.length)).all (fun j => ns.getD j default == ms.getD j default) && ns.length == ms.length) = decide (ns = ms)
  | [], [] => rfl
  | [], _ :: _ => by simp
  | _ :: _, [] => by simp
  | x :: xs, y :: ys => by
    have ih := strs_all xs ys
    have e1 : min (x :: xs).length (y :: ys).length = min xs.length ys.length + 1 := by simp only [List.length_cons]; omega
    have e2 : ((x :: xs).length == (y :: ys).length) = (xs.length == ys.length) := by simp
    rw [e1, e2, List.range_succ_eq_map, List.all_cons, List.all_map]
    have e3 : (fun j => (x :: xs).getD j default == (y :: ys).getD j default) ∘ Nat.succ = fun j => xs.getD j default == ys.getD j default := rfl
    rw [e3, Bool.and_assoc, ih]
    by_cases e : x = y
    · subst e
      by_cases e2 : xs = ys
      · subst e2
        simp
      · simp [e2]
    · simp [e]
theorem ne_strs {ns ms : List Str} {A : Around} {s : Shared} {a b : Value} {as bs : List Addr} (ra : Reads s.heap a (.tuple (ns.map .str)) as) (rb : Reads s.heap b (.tuple (ms.map .str)) bs) (hu : A.units + 64 < cLine) : SeqAt.RcNeAt A s a b (!decide (ns = ms)) := by
  cases ra with
  | @tuple l o vs n _ as₁ h1 h2 h3 h4 =>
    cases rb with
    | @tuple l' o' vs' n' _ bs₁ k1 k2 k3 k4 =>
      have hl : s.heap.IsTuple l vs := ⟨_, h1, h2, _, h3⟩
      have hl' : s.heap.IsTuple l' vs' := ⟨_, k1, k2, _, k3⟩
      have r1 := reads_strs h4
      have r2 := reads_strs k4
      rw [← strs_all ns ms, r1.1, r2.1]
      refine SeqAt.RcNeAt.tuples (items := vs) (items2 := vs') hl hl' (by omega) fun j j1 j2 => ?_
      obtain ⟨t, e⟩ := r1.2 j (by simpa using j1)
      obtain ⟨t', e'⟩ := r2.2 j (by simpa using j2)
      have e0 : vs[j] = .str (ns.getD j default) t := by simpa using e
      have e0' : vs'[j] = .str (ms.getD j default) t' := by simpa using e'
      rw [e0, e0']
      exact SeqAt.EqAt.str_str _ _ _ _
section
variable {X : Cx} {ρ : Rho} {a b : Expr} {pos : Pos} {ns ms : List Str}
def rNeS (K : PySem.W.Frag) : R2 := fun x y H Q => ∃ ns ms : List Str, Dp K H x (.tuple (ns.map .str)) ∧ Dp K H y (.tuple (ms.map .str)) ∧ Q (.bl (!decide (ns = ms))) H
theorem op_neS (hu : X.A.units + 64 < cLine) : OpR X (compareOp .NotEq) (rNeS X.K) := by
  intro pins s σ H x y v u Q I rx ry h
  obtain ⟨ns, ms, hd, he, q⟩ := h
  obtain ⟨as, r1⟩ := Dp.reads I _ x v hd rx
  obtain ⟨bs, r2⟩ := Dp.reads I _ y u he ry
  exact ne_strs r1 r2 hu _ _ _ _ ⟨.bl _, H, I, rfl, q⟩
theorem pt_neTs (hu : X.A.units + 64 < cLine) (ha : PX X ρ false a (.tuple (ns.map .str))) (hb : PX X ρ false b (.tuple (ms.map .str))) : PXt X ρ (.Compare a [.NotEq] [b] pos) (!decide (ns = ms)) := PTimp (pt_cmpR (op_neS hu) ha hb (nomark _)) fun σ H Q ⟨C, hh, q⟩ =>
  ⟨C, hh, fun v H1 e1 g1 => ⟨C, hh.ex e1, fun w H2 e2 g2 => ⟨_, _, Is.dp (d := .tuple (ns.map .str)) (flat_strs _) (Is.ex e2 g1), Is.dp (d := .tuple (ms.map .str)) (flat_strs _) g2, _, rfl, q H2 (e1.trans e2)⟩⟩⟩
end
/-- what the law says is due -/
def unlikeN (n o : Net) : Bool := !decide (n.ins = o.ins) || (!decide ((n.outs.length : Int) = o.outs.length) || !decide ((n.clms.length : Int) = o.clms.length))
def dueD (n o : Net) : PyData := if unlikeN n o = true then .list [.str "unlike"] else if 6 < n.ins.length then .list [.str "inputs"] else resD (lawRes n o)
section
variable {P : Program} {w : World} {K : PySem.W.Frag} {mg : Str → Option Value} {base : Heap}
abbrev spDue : Sp := spP (ι := TwoN) (fun a => [netD a.n, netD a.o]) (fun a => a.n.Fine ∧ a.o.Fine) (fun a y => y = dueD a.n a.o)
theorem ok_due (F : Has K mg "_law_due" S_law_due) (B : Blt mg) (Se : Cal P w K mg base 4 "_law_search" P_law_search spSearch) : Cal P w K mg base 5 "_law_due" P_law_due spDue :=
  fnP F sc_law_due (fun _ => rfl) (fun _ _ _ _ _ _ us hl => match us, hl with | [_, _], _ => rfl) fun f cdv A outer s H E hr a hp => by
    have nd := sc_law_due.nd
    obtain ⟨fn, fo⟩ := hp
    have hun : (cxOf CX0 P w K mg base N_law_due "_law_due" (defScope S_law_due) f cdv A outer s H E).nox.A.units + 64 < cLine := hr.units
    refine sd_ifr (d := unlikeN a.n a.o) (pt_w (pw_o (pt_neTs (ns := a.n.ins) (ms := a.o.ins) hun (px_ixT (px_v 0) px_int rfl) (px_ixT (px_v 1) px_int rfl)) fun _ => pw_o
      (pt_neI (i := (a.n.outs.length : Int)) (j := (a.o.outs.length : Int)) (px_eq (px_lenT rfl B.len b_len (px_ixT (px_v 0) px_int rfl)) (by rw [List.length_map])) (px_eq (px_lenT rfl B.len b_len (px_ixT (px_v 1) px_int rfl)) (by rw [List.length_map]))) fun _ => pw_o1
      (pt_neI (i := (a.n.clms.length : Int)) (j := (a.o.clms.length : Int)) (px_eq (px_lenT rfl B.len b_len (px_ixT (px_v 0) px_int rfl)) (by rw [List.length_map])) (px_eq (px_lenT rfl B.len b_len (px_ixT (px_v 1) px_int rfl)) (by rw [List.length_map]))))) (fun h => ?_) (fun h => ?_)
    · refine sd_retD (px_lst (pxs_cons px_str pxs_nil)) ?_
      show _ = dueD a.n a.o
      rw [dueD, if_pos h]
    · have hk : a.n.ins = a.o.ins := by
        unfold unlikeN at h
        simp at h
        exact h.1
      refine sd_ifr (pt_gt (px_eq (px_lenT rfl B.len b_len (px_ixT (px_v 0) px_int rfl)) (by rw [List.length_map])) px_int) (fun h6 => ?_) (fun h6 => ?_)
      · refine sd_retD (px_lst (pxs_cons px_str pxs_nil)) ?_
        have : 6 < a.n.ins.length := by
          have := of_decide_eq_true h6
          omega
        show _ = dueD a.n a.o
        rw [dueD, if_neg (by rw [h]; decide), if_pos this]
      · have h6' : a.n.ins.length ≤ 6 := by
          have := of_decide_eq_false h6
          omega
        refine sd_retD (px_call Se a ⟨fn, fo, congrArg List.length hk, h6'⟩ (pxs_cons (px_v 0) (pxs_cons (px_v 1) pxs_nil)) (fun y e => e)) ?_
        show _ = dueD a.n a.o
        rw [dueD, if_neg (by rw [h]; decide), if_neg (by omega)]
end
end Bf
set_option Elab.async false
set_option linter.all false
set_option maxRecDepth 100000
set_option maxHeartbeats 4000000
namespace Bf
open PySem PySem.Spec PyProof.Rows L2
/-- an answer: refused by a word, parted, alike -/
inductive Due where
  | word (w : Str)
  | part (r : Way)
  | alike (ps : List Pr)
def Due.d : Due → PyData
  | .word t => .list [.str t]
  | .part r => .tuple [.str "part", wayD r]
  | .alike ps => .tuple [.str "alike", .tuple (ps.map pairD)]
def Due.turn : Due → Due
  | .alike ps => .alike (srtP (ps.map fun p => (p.2, p.1)))
  | x => x
def Due.pre : Due → Prop
  | .word t => t ≠ "alike"
  | .part _ => True
  | .alike ps => ps.length ≤ 1000000
def Res.due : Res → Due
  | .part r => .part r
  | .states => .word "states"
  | .alike m => .alike (srtP m)
def lawDue (n o : Net) : Due := if unlikeN n o = true then .word "unlike" else if 6 < n.ins.length then .word "inputs" else (lawRes n o).due
theorem due_d (r : Res) : r.due.d = resD r := by
  cases r <;> rfl
theorem lawDue_d (n o : Net) : (lawDue n o).d = dueD n o := by
  unfold lawDue dueD
  by_cases h : unlikeN n o = true
  · rw [if_pos h, if_pos h]
    rfl
  · rw [if_neg h, if_neg h]
    by_cases h6 : 6 < n.ins.length
    · rw [if_pos h6, if_pos h6]
      rfl
    · rw [if_neg h6, if_neg h6, due_d]
section
variable {P : Program} {w : World} {K : PySem.W.Frag} {mg : Str → Option Value} {base : Heap}
abbrev spTurned : Sp := spP (ι := Due) (fun a => [a.d]) Due.pre (fun a y => y = a.turn.d)
theorem ok_turned (F : Has K mg "_law_turned" S_law_turned) (B : Blt mg) : Cal P w K mg base 1 "_law_turned" P_law_turned spTurned :=
  fnP F sc_law_turned (fun _ => rfl) (fun _ _ _ _ _ _ us hl => match us, hl with | [_], _ => rfl) fun f cdv A outer s H E hr a hp => by
    have nd := sc_law_turned.nd
    have hun : (cxOf CX0 P w K mg base N_law_turned "_law_turned" (defScope S_law_turned) f cdv A outer s H E).nox.A.units + 64 < cLine := hr.units
    cases a with
    | word t =>
      refine sd_ifr (pt_neS (t := t) (px_ixL (px_v 0) px_int rfl) px_str) (fun h => ?_) (fun h => ?_)
      · exact sd_retD (px_v 0) rfl
      · exact absurd (show t = "alike" by simpa using h) hp
    | part r =>
      refine sd_ifr (pt_neS (t := "part") (px_ixT (px_v 0) px_int rfl) px_str) (fun h => ?_) (fun h => ?_)
      · exact sd_retD (px_v 0) rfl
      · exact absurd h (by decide)
    | alike ps =>
      have hl : ps.length ≤ 1000000 := hp
      refine sd_ifr (pt_neS (t := "alike") (px_ixT (px_v 0) px_int rfl) px_str) (fun h => absurd h (by decide)) (fun h => ?_)
      refine sd_retD (px_tup (pxs_cons px_str (pxs_cons (px_tupL rfl B.tuple b_tuple (px_sortG (SP _) SP_anti hun (as := ps.map fun p => (p.2, p.1)) rfl B.sorted (px_eq (px_lc (own := [("_law_pair", 1)]) (l := ps) (g := pairD) (f := fun p => pairD (p.2, p.1)) rfl nd (blkOk_by (N := N_law_turned) (sc := defScope S_law_turned) (by decide +kernel)) (piw_T (px_ixT (px_v 0) px_int rfl)) hl (fun p m s' H' C' cl' fp' => gd_n 1 nd) (fun p m s' H' C' cl' fp' => px_tup (pxs_cons (px_ixT (px_v 1) px_int rfl) (pxs_cons (px_ixT (px_v 1) px_int rfl) pxs_nil)))) (by rw [List.map_map]; rfl)) (fun h2 x m => trivial) (srtP_perm _) (srtP_srt _))) pxs_nil))) rfl
end
end Bf
set_option Elab.async false
set_option linter.all false
set_option maxRecDepth 100000
set_option maxHeartbeats 4000000
namespace Bf
open PySem PySem.Spec PyProof.Rows L2
/-! ### isinstance of plain data -/
def tyD : PyData → String
  | .none => "NoneType"
  | .bool _ => "bool"
  | .int _ => "int"
  | .str _ => "str"
  | .list _ => "list"
  | .tuple _ => "tuple"
  | .dict _ => "dict"
theorem Is.ty {K : PySem.W.Frag} {M : Ad} {H : Hp} : ∀ {d : PyData} {v : V}, tyD d ≠ "dict" → Is M H d v → TyX K H v (.type (tyD d))
  | .none, _, _, h => by
    have h' : _ = V.non := h
    subst h'
    exact .base .non
  | .bool b, _, f, h => by
    have h' : _ = V.bl b := h
    subst h'
    exact .base (.bl b)
  | .int i, _, f, h => by
    have h' : _ = V.int i := h
    subst h'
    exact .base (.int i)
  | .str x, _, f, h => by
    have h' : _ = V.str x := h
    subst h'
    exact .base (.str x)
  | .list _, _, f, h => by
    obtain ⟨a, vs, h1, _, h3, h4⟩ := h
    subst h1
    exact .base (.lst h3)
  | .tuple _, _, f, h => by
    obtain ⟨a, vs, h1, _, h3, h4⟩ := h
    subst h1
    exact .base (.tup h3)
  | .dict _, _, f, _ => absurd rfl f
section
variable {X : Cx} {ρ : Rho} {s : Bool} {a : Expr} {x : PyData} {pos p p2 : Pos} {nm : Str} {T : String} {c : Bool}
theorem px_isi (hg : Gl X "isinstance") (hm : X.mg "isinstance" = none) (hg2 : Gl X nm) (hm2 : X.mg nm = none) (hv : bootBuiltins nm = some (.type T)) (ha : PX X ρ false a x) (hf : tyD x ≠ "dict") (hk : kitB (tyD x) T = some c)
    (hn : nm ≠ "__name__" := by decide) (hd : (nm == ("__debug__" : Str)) = false := by decide) (he : starEach [a, .Name nm p2] X.env = (false, eval a X.env) :: starEach [.Name nm p2] X.env := by rfl) (he2 : starEach [.Name nm p2] X.env = (false, eval (.Name nm p2) X.env) :: starEach [] X.env := by rfl) (hpl : (backTo pos (starEach [.Name nm p2] X.env)).any (·.1) = false := by rfl) :
    PX X ρ s (.Call (.Name "isinstance" p) [a, .Name nm p2] [] pos) (.bool c) :=
  PEimp (pe_callB call_isi hg hm b_isinstance (pa_cons ha (pa_cons (pe_bltn (v := .ty T) hg2 hm2 hv rfl hn hd) pa_nil he2) he) (by decide) (by decide) he hpl) fun σ H Q ⟨C, hh, q⟩ =>
    ⟨C, hh, fun v H1 e1 g => ⟨v, .ty T, _, _, c, rfl, .ty T, Is.ty hf g, kit_ty hk, q _ H1 e1 rfl⟩⟩
variable {b : Expr} {rest : List Expr} {d : Bool}
theorem px_one {op : BoolOp} (h : PX X ρ s a x) : PX X ρ s (.BoolOp op [a] pos) x := pe_one h
theorem px_notB (h : PX X ρ false a (.bool c)) : PX X ρ s (.UnaryOp .Not a pos) (.bool (!c)) := PEimp (pe_not h) fun σ H Q ⟨C, hh, q⟩ => ⟨C, hh, fun v H1 e1 g => ⟨c, g, q _ H1 e1 rfl⟩⟩
theorem px_anB (h : PX X ρ false a (.bool c)) (g : c = true → PX X ρ s (.BoolOp .And (b :: rest) pos) (.bool d)) : PX X ρ s (.BoolOp .And (a :: b :: rest) pos) (.bool (c && d)) := by
  cases c with
  | true =>
    refine PEimp (pe_and h (g rfl)) fun σ H Q ⟨C, hh, q⟩ => ⟨C, hh, fun v H1 e1 g1 => ⟨true, g1, ?_⟩⟩
    rw [if_pos rfl]
    exact ⟨C, hh.ex e1, fun v2 H2 e2 g2 => q v2 H2 (e1.trans e2) g2⟩
  | false =>
    have nv : PE X (.BoolOp .And (b :: rest) pos) (fun _ _ _ => False) := ⟨fun _ _ _ _ _ _ z => z.elim⟩
    refine PEimp (pe_and h nv) fun σ H Q ⟨C, hh, q⟩ => ⟨C, hh, fun v H1 e1 g1 => ⟨false, g1, ?_⟩⟩
    rw [if_neg Bool.false_ne_true]
    exact q _ H1 e1 rfl
theorem px_orB (h : PX X ρ false a (.bool c)) (g : c = false → PX X ρ s (.BoolOp .Or (b :: rest) pos) (.bool d)) : PX X ρ s (.BoolOp .Or (a :: b :: rest) pos) (.bool (c || d)) := by
  cases c with
  | false =>
    refine PEimp (pe_or h (g rfl)) fun σ H Q ⟨C, hh, q⟩ => ⟨C, hh, fun v H1 e1 g1 => ⟨false, g1, ?_⟩⟩
    rw [if_neg Bool.false_ne_true]
    exact ⟨C, hh.ex e1, fun v2 H2 e2 g2 => q v2 H2 (e1.trans e2) g2⟩
  | true =>
    have nv : PE X (.BoolOp .Or (b :: rest) pos) (fun _ _ _ => False) := ⟨fun _ _ _ _ _ _ z => z.elim⟩
    refine PEimp (pe_or h nv) fun σ H Q ⟨C, hh, q⟩ => ⟨C, hh, fun v H1 e1 g1 => ⟨true, g1, ?_⟩⟩
    rw [if_pos rfl]
    exact q _ H1 e1 rfl
end
/-! ### is_int, plain -/
section
variable {P : Program} {w : World} {K : PySem.W.Frag} {mg : Str → Option Value} {base : Heap}
def isIntD : PyData → Bool
  | .int _ => true
  | _ => false
theorem b_bool : bootBuiltins ("bool" : Str) = some (.type "bool") := by decide +kernel
abbrev spIsInt : Sp := spP (ι := PyData) (fun x => [x]) (fun x => tyD x ≠ "dict") (fun x y => y = .bool (isIntD x))
theorem ok_isint (F : Has K mg "_law_is_int" S_law_is_int) (B : Blt mg) : Cal P w K mg base 1 "_law_is_int" P_law_is_int spIsInt :=
  fnP F sc_law_is_int (fun _ => rfl) (fun _ _ _ _ _ _ us hl => match us, hl with | [_], _ => rfl) fun f cdv A outer s H E hr a hp => by
    have nd := sc_law_is_int.nd
    obtain ⟨c, d, h1, h2, h3⟩ : ∃ c d : Bool, kitB (tyD a) "int" = some c ∧ kitB (tyD a) "bool" = some d ∧ (c && !d) = isIntD a := by
      cases a with
      | none => exact ⟨false, false, (show kitB "NoneType" "int" = some false by decide +kernel), (show kitB "NoneType" "bool" = some false by decide +kernel), rfl⟩
      | bool b => exact ⟨true, true, (show kitB "bool" "int" = some true by decide +kernel), (show kitB "bool" "bool" = some true by decide +kernel), rfl⟩
      | int i => exact ⟨true, false, (show kitB "int" "int" = some true by decide +kernel), (show kitB "int" "bool" = some false by decide +kernel), rfl⟩
      | str t => exact ⟨false, false, (show kitB "str" "int" = some false by decide +kernel), (show kitB "str" "bool" = some false by decide +kernel), rfl⟩
      | list l => exact ⟨false, false, (show kitB "list" "int" = some false by decide +kernel), (show kitB "list" "bool" = some false by decide +kernel), rfl⟩
      | tuple l => exact ⟨false, false, (show kitB "tuple" "int" = some false by decide +kernel), (show kitB "tuple" "bool" = some false by decide +kernel), rfl⟩
      | dict l => exact absurd rfl hp
    exact sd_retD (px_anB (px_isi rfl B.isinstance rfl B.int b_int (px_v 0) hp h1) fun _ => px_one (px_notB (px_isi rfl B.isinstance rfl B.bool b_bool (px_v 0) hp h2))) (congrArg PyData.bool h3)
/-- tuples of tuples of .. of strings and ints, so deep at most -/
def plD : Nat → PyData → Prop
  | _, .str _ => True
  | _, .int _ => True
  | k + 1, .tuple ds => ds.length ≤ 1000000 ∧ ∀ d ∈ ds, plD k d
  | _, _ => False
abbrev spPlain (k : Nat) : Sp := spP (ι := PyData) (fun x => [x]) (plD k) (fun _ y => y = .bool true)
theorem kb_str : kitB "str" "tuple" = some false := by decide +kernel
theorem kb_int : kitB "int" "tuple" = some false := by decide +kernel
theorem kb_tup : kitB "tuple" "tuple" = some true := by decide +kernel
theorem kb_str2 : kitB "str" "str" = some true := by decide +kernel
theorem kb_int2 : kitB "int" "str" = some false := by decide +kernel
theorem ok_plain_step (F : Has K mg "_law_plain" S_law_plain) (B : Blt mg) (I1 : Cal P w K mg base 1 "_law_is_int" P_law_is_int spIsInt) (k : Nat) (ihk : ∀ j, j + 1 = k → Cal P w K mg base (j + 2) "_law_plain" P_law_plain (spPlain j)) : Cal P w K mg base (k + 2) "_law_plain" P_law_plain (spPlain k) :=
  fnP F sc_law_plain (fun _ => rfl) (fun _ _ _ _ _ _ us hl => match us, hl with | [_], _ => rfl) fun f cdv A outer s H E hr a hp => by
    have nd := sc_law_plain.nd
    cases a with
    | str t =>
      refine sd_ifr (d := false) (pt_px (s := false) (px_isi (x := .str t) rfl B.isinstance rfl B.tuple b_tuple (px_v 0) (by simp [tyD]) kb_str)) (fun h => absurd h (by decide)) (fun _ => ?_)
      exact sd_retD (px_orB (c := true) (px_isi (x := .str t) rfl B.isinstance rfl B.str b_str (px_v 0) (by simp [tyD]) kb_str2) (d := true) (fun h => absurd h (by decide))) rfl
    | int t =>
      refine sd_ifr (d := false) (pt_px (s := false) (px_isi (x := .int t) rfl B.isinstance rfl B.tuple b_tuple (px_v 0) (by simp [tyD]) kb_int)) (fun h => absurd h (by decide)) (fun _ => ?_)
      exact sd_retD (px_orB (c := false) (px_isi (x := .int t) rfl B.isinstance rfl B.str b_str (px_v 0) (by simp [tyD]) kb_int2) (d := true) (fun h => px_one (px_call I1 (.int t) (by simp [tyD]) (pxs_cons (px_v 0) pxs_nil) (fun y e => e) (hr := Room.mono (by assumption) (by omega))))) rfl
    | tuple ds =>
      cases k with
      | zero => simp [plD] at hp
      | succ k =>
        have ih := ihk k rfl
        have hp' : ds.length ≤ 1000000 ∧ ∀ d ∈ ds, plD k d := by simpa [plD] using hp
        refine sd_ifr (d := true) (pt_px (s := false) (px_isi (x := .tuple ds) rfl B.isinstance rfl B.tuple b_tuple (px_v 0) (by simp [tyD]) kb_tup)) (fun _ => ?_) (fun h => absurd h (by decide))
        refine sd_retD (px_all (bs := ds.map fun _ => true) rfl rfl B.all (px_eq (px_lc (own := [("_law_part", 1)]) (l := ds) (g := id) (f := fun _ => .bool true) rfl nd (blkOk_by (N := N_law_plain) (sc := defScope S_law_plain) (by decide +kernel)) (piw_T (px_eq (px_v 0) (by rw [List.map_id]))) hp'.1 (fun p m s' H' C' cl' fp' => gd_n 1 nd) (fun p m s' H' C' cl' fp' => px_call ih p (hp'.2 p m) (pxs_cons (px_v 1) pxs_nil) (fun y e => e) (hr := Room.mono (by assumption) (by omega)))) (by rw [List.map_map]; rfl))) ?_
        show PyData.bool _ = PyData.bool true
        rw [List.all_map]
        simp
    | none => cases k <;> simp [plD] at hp
    | bool b => cases k <;> simp [plD] at hp
    | list b => cases k <;> simp [plD] at hp
    | dict b => cases k <;> simp [plD] at hp
theorem ok_plain (F : Has K mg "_law_plain" S_law_plain) (B : Blt mg) (I1 : Cal P w K mg base 1 "_law_is_int" P_law_is_int spIsInt) : ∀ k, Cal P w K mg base (k + 2) "_law_plain" P_law_plain (spPlain k)
  | 0 => ok_plain_step F B I1 0 fun j h => absurd h (Nat.succ_ne_zero j)
  | k + 1 => ok_plain_step F B I1 (k + 1) fun j h => by
    have : j = k := Nat.succ.inj h
    subst this
    exact ok_plain F B I1 j
end
end Bf
set_option Elab.async false
set_option linter.all false
set_option maxRecDepth 100000
set_option maxHeartbeats 4000000
namespace Bf
open PySem PySem.Spec PyProof.Rows L2
theorem kb_list : kitB "list" "list" = some true := by decide +kernel
theorem kb_tuplist : kitB "tuple" "list" = some false := by decide +kernel
section
variable {P : Program} {w : World} {K : PySem.W.Frag} {mg : Str → Option Value} {base : Heap}
def Due.Good : Due → Prop
  | .word t => okD (.list [.str t]) = true
  | x => okD x.d = true ∧ plD 5 x.d
abbrev spRight : Sp := spP (ι := Due) (fun a => [a.d, a.d]) Due.Good (fun _ y => y = .bool true)
theorem eqv_self {d : PyData} (h : okD d = true) : PyData.eqv d d = true := SeqAt.eqv_refl d (SeqAt.canLay_of_shaped (okD_s h))
theorem ok_right (F : Has K mg "_law_right" S_law_right) (B : Blt mg) (Pl : Cal P w K mg base 7 "_law_plain" P_law_plain (spPlain 5)) : Cal P w K mg base 8 "_law_right" P_law_right spRight :=
  fnP F sc_law_right (fun _ => rfl) (fun _ _ _ _ _ _ us hl => match us, hl with | [_, _], _ => rfl) fun f cdv A outer s H E hr a hp => by
    have nd := sc_law_right.nd
    have hun : (cxOf CX0 P w K mg base N_law_right "_law_right" (defScope S_law_right) f cdv A outer s H E).nox.A.units + 64 < cLine := hr.units
    cases a with
    | word t =>
      have ok : okD (.list [.str t]) = true := hp
      refine sd_ifr (d := true) (pt_px (s := false) (px_isi (x := .list [.str t]) rfl B.isinstance rfl B.list b_list (px_v 1) (by simp [tyD]) kb_list)) (fun _ => ?_) (fun h => absurd h (by decide))
      refine sd_retD (px_anB (c := true) (d := true) (px_isi (x := .list [.str t]) rfl B.isinstance rfl B.list b_list (px_v 0) (by simp [tyD]) kb_list) fun _ => px_one (px_eq (px_eqD hun (px_v 0) (px_v 1) ok ok) (by rw [eqv_self ok]))) rfl
    | part r =>
      obtain ⟨ok, pl⟩ := (show okD (Due.part r).d = true ∧ plD 5 (Due.part r).d from hp)
      refine sd_ifr (d := false) (pt_px (s := false) (px_isi (x := (Due.part r).d) rfl B.isinstance rfl B.list b_list (px_v 1) (by simp [tyD, Due.d]) kb_tuplist)) (fun h => absurd h (by decide)) (fun _ => ?_)
      refine sd_retD (px_anB (c := true) (d := true) (px_isi (x := (Due.part r).d) rfl B.isinstance rfl B.tuple b_tuple (px_v 0) (by simp [tyD, Due.d]) kb_tup) fun _ => px_anB (c := true) (d := true) (px_call Pl (Due.part r).d pl (pxs_cons (px_v 0) pxs_nil) (fun y e => e)) fun _ => px_one (px_eq (px_eqD hun (px_v 0) (px_v 1) ok ok) (by rw [eqv_self ok]))) rfl
    | alike r =>
      obtain ⟨ok, pl⟩ := (show okD (Due.alike r).d = true ∧ plD 5 (Due.alike r).d from hp)
      refine sd_ifr (d := false) (pt_px (s := false) (px_isi (x := (Due.alike r).d) rfl B.isinstance rfl B.list b_list (px_v 1) (by simp [tyD, Due.d]) kb_tuplist)) (fun h => absurd h (by decide)) (fun _ => ?_)
      refine sd_retD (px_anB (c := true) (d := true) (px_isi (x := (Due.alike r).d) rfl B.isinstance rfl B.tuple b_tuple (px_v 0) (by simp [tyD, Due.d]) kb_tup) fun _ => px_anB (c := true) (d := true) (px_call Pl (Due.alike r).d pl (pxs_cons (px_v 0) pxs_nil) (fun y e => e)) fun _ => px_one (px_eq (px_eqD hun (px_v 0) (px_v 1) ok ok) (by rw [eqv_self ok]))) rfl
end
end Bf
set_option Elab.async false
set_option linter.all false
set_option maxRecDepth 100000
set_option maxHeartbeats 4000000
namespace Bf
open PySem PySem.Spec PyProof.Rows L2
theorem pt_int {X : Cx} {ρ : Rho} {s : Bool} {e : Expr} {i : Int} (h : PX X ρ s e (.int i)) (he : ∀ whole, isTrue e X.env whole = (do let v ← whole; standAt e.pos; holding [v] (truthy v)) := by intro _; rfl) : PXt X ρ e (i != 0) := PTimp (pt_truth h he) fun σ H Q ⟨C, hh, q⟩ =>
  ⟨C, hh, fun v H1 e1 g1 => ⟨i != 0, by rw [show v = .int i from g1]; exact (rfl : (i != 0) = (i != 0)), q H1 e1⟩⟩
section
variable {P : Program} {w : World} {K : PySem.W.Frag} {mg : Str → Option Value} {base : Heap}
def fullN (k : Nat) : Nat := 2 ^ 2 ^ k - 1
abbrev spFull : Sp := spP (ι := Nat) (fun k => [nD k]) (fun k => k ≤ 6) (fun k y => y = nD (fullN k))
theorem ok_full (F : Has K mg "full" S_full) : Cal P w K mg base 1 "full" P_full spFull :=
  fnP F sc_full (fun _ => rfl) (fun _ _ _ _ _ _ us hl => match us, hl with | [_], _ => rfl) fun f cdv A outer s H E hr k hp => by
    have h64 : 2 ^ k ≤ 2 ^ 6 := Nat.pow_le_pow_right (by decide) hp
    refine sd_retD (px_eq (pn_sub (pn_shl pn_1 (pn_shl pn_1 (px_v 0) (by decide) (by omega)) (by decide) (by omega)) pn_1 (by rw [Nat.one_mul, Nat.one_mul]; exact Nat.pos_of_ne_zero (by simp))) (by rw [Nat.one_mul, Nat.one_mul]; rfl)) rfl
def maskN (ms : List Nat) (l wh : Nat) : Nat := if l % 2 = 1 then ms.getD (l / 2) 0 ^^^ wh else ms.getD (l / 2) 0
structure MkA where
  ms : List Nat
  l : Nat
  wh : Nat
abbrev spMask : Sp := spP (ι := MkA) (fun a => [.list (a.ms.map nD), nD a.l, nD a.wh]) (fun a => a.l / 2 < a.ms.length) (fun a y => y = nD (maskN a.ms a.l a.wh))
theorem ok_mask_of (F : Has K mg "mask_of" S_mask_of) : Cal P w K mg base 1 "mask_of" P_mask_of spMask :=
  fnP F sc_mask_of (fun _ => rfl) (fun _ _ _ _ _ _ us hl => match us, hl with | [_, _, _], _ => rfl) fun f cdv A outer s H E hr a hp => by
    have ix : atI (a.ms.map nD) ((a.l / 2 ^ 1 : Nat) : Int) = some (nD (a.ms.getD (a.l / 2) 0)) := atI_n (by
      rw [Nat.pow_one, List.getElem?_map, List.getElem?_eq_getElem hp, List.getD_eq_getElem?_getD, List.getElem?_eq_getElem hp]
      rfl)
    refine sd_ifr (pt_int (s := false) (pn_and (px_v 1) pn_1)) (fun h => ?_) (fun h => ?_)
    · refine sd_retD (pn_xor (px_ixL (px_v 0) (pn_shr (px_v 1) pn_1) ix) (px_v 2)) ?_
      rw [Nat.and_one_is_mod] at h
      have : a.l % 2 = 1 := by
        have h' : ((a.l % 2 : Nat) : Int) ≠ 0 := by simpa using h
        omega
      show _ = nD (maskN a.ms a.l a.wh)
      unfold maskN
      rw [if_pos this]
    · refine sd_retD (px_ixL (px_v 0) (pn_shr (px_v 1) pn_1) ix) ?_
      rw [Nat.and_one_is_mod] at h
      have : ¬ a.l % 2 = 1 := by
        have h' : ((a.l % 2 : Nat) : Int) = 0 := by simpa using h
        omega
      show _ = nD (maskN a.ms a.l a.wh)
      unfold maskN
      rw [if_neg this]
abbrev spFst : Sp := spP (ι := Net) (fun n => [netD n]) Net.Fine (fun n y => y = tupD (startN n))
theorem ok_first_state (F : Has K mg "first_state" S_first_state) (B : Blt mg) : Cal P w K mg base 1 "first_state" P_first_state spFst :=
  fnP F sc_first_state (fun _ => rfl) (fun _ _ _ _ _ _ us hl => match us, hl with | [_], _ => rfl) fun f cdv A outer s H E hr a hp => by
    have nd := sc_first_state.nd
    have b2 := hp.regs
    refine sd_retD (px_eq (px_tupL rfl B.tuple b_tuple (px_lc (own := [("row", 1)]) (l := a.regs) (g := regD) (f := fun r => nD r.st) rfl nd (blkOk_by (N := N_first_state) (sc := defScope S_first_state) (by decide +kernel)) (piw_T (px_ixT (px_v 0) px_int rfl)) (by omega) (fun x _ s H C cl fp => gd_n 1 nd) (fun x _ s H C cl fp => px_ixT (px_v 1) px_int rfl))) (y := tupD (startN a)) ?_) rfl
    unfold startN tupD
    rw [List.map_map]
    rfl
abbrev spInW : Sp := spP (ι := Nat × Nat) (fun a => [nD a.1, nD a.2]) (fun a => a.2 ≤ 6) (fun a y => y = tupD (inW a.2 a.1))
theorem ok_inputs_with (F : Has K mg "inputs_with" S_inputs_with) (B : Blt mg) : Cal P w K mg base 1 "inputs_with" P_inputs_with spInW :=
  fnP F sc_inputs_with (fun _ => rfl) (fun _ _ _ _ _ _ us hl => match us, hl with | [_, _], _ => rfl) fun f cdv A outer s H E hr a hp => by
    have nd := sc_inputs_with.nd
    refine sd_retD (px_eq (px_tupL rfl B.tuple b_tuple (px_lc (own := [("k", 2)]) (l := List.range a.2) (g := nD) (f := fun j => nD (a.1 / 2 ^ (a.2 - 1 - j) % 2)) rfl nd (blkOk_by (N := N_inputs_with) (sc := defScope S_inputs_with) (by decide +kernel)) (pw_r rfl B.range (px_v 1) rfl (by omega)) (by rw [List.length_range]; omega) (fun x _ s H C cl fp => gd_n 2 nd) (fun x m s H C cl fp => px_eq (pn_and (pn_shr (px_v 0) (pn_sub (pn_sub (px_v 1) pn_1 (by have := List.mem_range.mp m; omega)) (px_v 2) (by have := List.mem_range.mp m; omega))) pn_1) (by rw [Nat.and_one_is_mod])))) (y := tupD (inW a.2 a.1)) ?_) rfl
    unfold inW tupD
    rw [List.map_map]
    rfl
abbrev spShown : Sp := spP (ι := Net) (fun n => [netD n]) Net.Fine (fun n y => y = .list (n.shown.map nD))
theorem ok_shown_of (F : Has K mg "shown_of" S_shown_of) (B : Blt mg) : Cal P w K mg base 1 "shown_of" P_shown_of spShown :=
  fnP F sc_shown_of (fun _ => rfl) (fun _ _ _ _ _ _ us hl => match us, hl with | [_], _ => rfl) fun f cdv A outer s H E hr a hp => by
    have nd := sc_shown_of.nd
    have b4 := hp.outs
    have b5 := hp.clms
    refine sd_retD (px_eq (px_F (pf_cat (px_lc (own := [("row", 1)]) (l := a.outs) (g := outD) (f := fun r => nD r.li) rfl nd (blkOk_by (N := N_shown_of) (sc := defScope S_shown_of) (by decide +kernel)) (piw_T (px_ixT (px_v 0) px_int rfl)) (by omega) (fun x _ s H C cl fp => gd_n 1 nd) (fun x m s H C cl fp => px_ixT (px_v 1) px_int rfl))
      (px_lc (own := [("row", 1)]) (l := a.clms) (g := outD) (f := fun r => nD r.li) rfl nd (blkOk_by (N := N_shown_of) (sc := defScope S_shown_of) (by decide +kernel)) (piw_T (px_ixT (px_v 0) px_int rfl)) (by omega) (fun x _ s H C cl fp => gd_n 1 nd) (fun x m s H C cl fp => px_ixT (px_v 1) px_int rfl)) (by rw [List.length_map, List.length_map]; omega))) (y := .list (a.shown.map nD)) ?_) rfl
    unfold Net.shown
    rw [List.map_append, List.map_map, List.map_map]
    rfl
end
end Bf
set_option Elab.async false
set_option linter.all false
set_option maxRecDepth 100000
set_option maxHeartbeats 4000000
namespace Bf
open PySem PySem.Spec PyProof.Rows L2
theorem pn_fdiv {X : Cx} {ρ : Rho} {s : Bool} {a b : Expr} {pos : Pos} {m n : Nat} (ha : PX X ρ false a (nD m)) (hb : PX X ρ false b (nD n)) (h : 0 < n) (h2 : n < 2 ^ 65) : PX X ρ s (.BinOp a .FloorDiv b pos) (nD (m / n)) :=
  px_eq (px_oC (g := fun i j => i / j) op_fdivW ha hb (wide_div (b := 65) (by omega) (by rw [Int.natAbs_natCast]; exact h2) (by decide) (by decide))) (by show PyData.int _ = PyData.int _; rw [Int.natCast_ediv])
theorem pn_mul {X : Cx} {ρ : Rho} {s : Bool} {a b : Expr} {pos : Pos} {m n : Nat} (ha : PX X ρ false a (nD m)) (hb : PX X ρ false b (nD n)) (h : m < 2 ^ 64) : PX X ρ s (.BinOp a .Mult b pos) (nD (m * n)) :=
  px_eq (px_mul ha hb (.inl ⟨by omega, by omega⟩)) (by show PyData.int _ = PyData.int _; rw [Int.natCast_mul])
def patN (k j : Nat) : Nat := fullN k / (2 ^ (2 * 2 ^ j) - 1) * ((2 ^ 2 ^ j - 1) * 2 ^ 2 ^ j)
def patsN (k : Nat) : List Nat := (List.range k).map (patN k)
section
variable {P : Program} {w : World} {K : PySem.W.Frag} {mg : Str → Option Value} {base : Heap}
abbrev spPats : Sp := spP (ι := Nat) (fun k => [nD k]) (fun k => k ≤ 6) (fun k y => y = .list ((patsN k).map nD))
theorem ok_patterns (F : Has K mg "patterns" S_patterns) (B : Blt mg) (Fu : Cal P w K mg base 1 "full" P_full spFull) : Cal P w K mg base 2 "patterns" P_patterns spPats :=
  fnP F sc_patterns (fun _ => rfl) (fun _ _ _ _ _ _ us hl => match us, hl with | [_], _ => rfl) fun f cdv A outer s H E hr k hp => by
    have nd := sc_patterns.nd
    have hf : fullN k < 2 ^ 64 := by
      have : 2 ^ 2 ^ k ≤ 2 ^ 2 ^ 6 := Nat.pow_le_pow_right (by decide) (Nat.pow_le_pow_right (by decide) hp)
      have h1 : 0 < 2 ^ 2 ^ k := Nat.pow_pos (by decide)
      unfold fullN
      have : (2 : Nat) ^ 2 ^ 6 = 2 ^ 64 := rfl
      omega
    refine sd_set 1 nd (px_call Fu k hp (pxs_cons (px_v 0) pxs_nil) (fun y e => e)) ?_
    refine sd_new 2 nd (pf_lst pxs_nil) ?_
    refine sd_for (l := List.range k) (g := nD)
      (fun i ρ => ρ = [some (.d (nD k)), some (.d (nD (fullN k))), some (.o true (oL (((List.range k).take i).map fun j => nD (patN k j)))), none, none, none])
      (fun _ _ => False) rfl PassesOwn.never (pw_r rfl B.range (px_v 0) rfl (by omega)) rfl (fun i b ρ' hb e => ?_) (fun ρ' e => ?_) (fun _ _ z => z.elim)
    · subst e
      have hi : i < k := by
        have := (List.getElem?_eq_some_iff.mp hb).1
        rwa [List.length_range] at this
      have hbi : b = i := by
        have := (List.getElem?_eq_some_iff.mp hb).2
        simpa using this.symm
      subst hbi
      have h5 : 2 ^ b ≤ 2 ^ 5 := Nat.pow_le_pow_right (by decide) (by omega)
      have hb1 : 0 < 2 ^ 2 ^ b := Nat.pow_pos (by decide)
      have hb2 : 2 ^ 2 ^ b ≤ 2 ^ 2 ^ 5 := Nat.pow_le_pow_right (by decide) h5
      have e32 : (2 : Nat) ^ 2 ^ 5 = 2 ^ 32 := rfl
      have hd1 : 2 ^ (2 * 2 ^ b) ≤ 2 ^ 64 := Nat.pow_le_pow_right (by decide) (by omega)
      have hs : 1 ≤ 2 ^ b := Nat.one_le_two_pow
      have hd0 : 2 ^ 2 ≤ 2 ^ (2 * 2 ^ b) := Nat.pow_le_pow_right (by decide) (by omega)
      refine ⟨[3], _, gd_n 3 nd, ?_⟩
      refine sd_set 4 nd (px_eq (pn_shl pn_1 (px_v 3) (by decide) (by omega)) (y := nD (2 ^ b)) (by rw [Nat.one_mul])) ?_
      refine sd_set 5 nd (px_eq (pn_sub (pn_shl pn_1 (px_v 4) (by decide) (by omega)) pn_1 (by omega)) (y := nD (2 ^ 2 ^ b - 1)) (by rw [Nat.one_mul])) ?_
      refine sd_app 2 rfl (px_eq (pn_mul (pn_fdiv (px_v 1) (pn_sub (pn_shl pn_1 (pn_mul2 (px_v 4)) (by decide) (by omega)) pn_1 (by omega)) (by omega) (by omega)) (pn_shl (px_v 5) (px_v 4) (by omega) (by omega)) (Nat.lt_of_le_of_lt (Nat.div_le_self _ _) hf)) (y := nD (patN k b)) (by rw [Nat.one_mul]; rfl)) (by rw [List.length_map, List.length_take, List.length_range]; omega) ?_
      refine sd_end [3, 4, 5] ?_
      show _ = _
      rw [List.take_succ, List.map_append, List.getElem?_range hi]
      rfl
    · subst e
      refine sd_keep 2 rfl (sd_retD (px_v 2) ?_)
      show PyData.list _ = PyData.list _
      rw [List.take_of_length_le (by rw [List.length_range]; exact Nat.le_refl _)]
      unfold patsN
      rw [List.map_map]
      rfl
end
end Bf
set_option Elab.async false
set_option linter.all false
set_option maxRecDepth 100000
set_option maxHeartbeats 4000000
namespace Bf
open PySem PySem.Spec PyProof.Rows L2
theorem px_bits {X : Cx} {ρ : Rho} {s : Bool} {o : Expr} {i : Int} {apos pos : Pos} (ho : PX X ρ false o (.int i)) (hbase : attributeBase o "bit_length" X.env (eval o X.env) = eval o X.env := by rfl) (hline : (apos.endLine == pos.line) = true := by rfl) : PX X ρ s (.Call (.Attribute o "bit_length" apos) [] [] pos) (.int (Builtin.Int.intBits i : Nat)) :=
  PEimp (pe_bits ho hbase hline) fun σ H Q ⟨C, hh, q⟩ => ⟨C, hh, fun v H1 e1 g => ⟨i, g, q _ H1 e1 rfl⟩⟩
/-- the number of the lowest one, as the program tells it -/
def lowD (m : Nat) : PyData := if m = 0 then .none else .int ((Builtin.Int.intBits (Builtin.bitAnd (m : Int) (-(m : Int))) : Nat) - 1)
section
variable {P : Program} {w : World} {K : PySem.W.Frag} {mg : Str → Option Value} {base : Heap}
abbrev spLow : Sp := spP (ι := Nat) (fun m => [nD m]) (fun _ => True) (fun m y => y = lowD m)
theorem ok_least_one (F : Has K mg "least_one" S_least_one) : Cal P w K mg base 1 "least_one" P_least_one spLow :=
  fnP F sc_least_one (fun _ => rfl) (fun _ _ _ _ _ _ us hl => match us, hl with | [_], _ => rfl) fun f cdv A outer s H E hr m hp => by
    refine sd_ifr (pt_eqI (px_v 0) px_int) (fun h => ?_) (fun h => ?_)
    · refine sd_retD px_non ?_
      have : m = 0 := by
        have := of_decide_eq_true h
        omega
      show _ = lowD m
      rw [lowD, if_pos this]
    · refine sd_retD (px_sub (px_bits (px_and (px_v 0) (px_neg (px_v 0)))) px_int) ?_
      have : ¬ m = 0 := by
        have := of_decide_eq_false h
        omega
      show _ = lowD m
      rw [lowD, if_neg this]
end
end Bf
set_option Elab.async false
set_option linter.all false
set_option maxRecDepth 100000
set_option maxHeartbeats 1000000
namespace Bf
open PySem PySem.Spec PyProof.Rows L2
theorem px_dget {X : Cx} {ρ : Rho} {s : Bool} {o e f : Expr} {kvs : List (PyData × PyData)} {i d r : Int} {apos cpos : Pos} (hu : X.A.units + 64 < cLine) (ho : PX X ρ false o (.dict kvs)) (he : PX X ρ false e (.int i)) (hf : PX X ρ false f (.int d)) (hv : (valV (kvs.map kvI) (Sum.inl i)).getD (V.int d) = V.int r)
    (h1 : attributeBase o "get" X.env (eval o X.env) = eval o X.env := by rfl) (h2 : ((backTo cpos (starEach [e, f] X.env)).all (fun x => !x.1) && (backToKw cpos (keywordEach [] X.env)).all (fun x => x.1.isSome) && decide (([e, f] : List Expr).length + ([] : List Keyword).length + (if ([] : List Keyword).isEmpty then 0 else 1) < 30)) = true := by rfl) (h3 : (apos.endLine == cpos.line) = true := by rfl) (h4 : backTo cpos (starEach [e, f] X.env) = [(false, eval e X.env), (false, eval f X.env)] := by rfl) :
    PX X ρ s (.Call (.Attribute o "get" apos) [e, f] [] cpos) (.int r) :=
  PEimp (pe_dget2 (by omega) ho he hf ⟨h1, h2, h3, h4⟩) fun σ H Q ⟨C, hh, q⟩ => ⟨C, hh, fun v H1 e1 ⟨a, g1, g2, g3⟩ => ⟨a, g1, .inl ⟨_, Rd.of g3⟩, C, hh.ex e1, fun y H2 e2 gy => ⟨C, hh.ex (e1.trans e2), fun z H3 e3 gz => by
    have hy : y = V.int i := gy
    have hz : z = V.int d := gz
    subst hy hz
    refine ⟨_, DGet.k (k := Sum.inl i) ((e2.trans e3) _ _ g3), ?_⟩
    rw [hv]
    exact q _ H3 (e1.trans (e2.trans e3)) rfl⟩⟩⟩
end Bf
set_option Elab.async false
set_option linter.all false
set_option maxRecDepth 100000
set_option maxHeartbeats 4000000
namespace Bf
open PySem PySem.Spec PyProof.Rows L2
def stepM (wh : Nat) (ms : List Nat) (p : Nat × Nat) : List Nat := ms ++ [maskN ms p.1 wh &&& maskN ms p.2 wh]
def masksU (n : Net) (gv : Nat → Nat) (wh i : Nat) : List Nat := (n.ands.take i).foldl (stepM wh) (0 :: (List.range (n.fand - 1)).map fun j => gv (1 + j))
theorem masksU_succ {n : Net} {gv : Nat → Nat} {wh i : Nat} {p : Nat × Nat} (h : n.ands[i]? = some p) : masksU n gv wh (i + 1) = stepM wh (masksU n gv wh i) p := by
  unfold masksU
  rw [take_succ h, List.foldl_append]
  rfl
theorem masksU_len {n : Net} {gv : Nat → Nat} {wh : Nat} : ∀ {i : Nat}, i ≤ n.ands.length → (masksU n gv wh i).length = n.fand + i
  | 0, _ => by
    unfold masksU
    have : 1 ≤ n.fand := by unfold Net.fand; omega
    simp
    omega
  | i + 1, h => by
    have gi : n.ands[i]? = some n.ands[i] := List.getElem?_eq_getElem (by omega)
    rw [masksU_succ gi]
    unfold stepM
    rw [List.length_append, masksU_len (by omega)]
    rfl
structure NmA where
  n : Net
  kvs : List (PyData × PyData)
  gv : Nat → Nat
  wh : Nat
def NmA.pre (a : NmA) : Prop := a.n.Fine ∧ ∀ i : Nat, (valV (a.kvs.map kvI) (Sum.inl (i : Int))).getD (V.int 0) = V.int (a.gv i : Nat)
section
variable {P : Program} {w : World} {K : PySem.W.Frag} {mg : Str → Option Value} {base : Heap}
abbrev spNm : Sp := spP (ι := NmA) (fun a => [netD a.n, .dict a.kvs, nD a.wh]) NmA.pre (fun a y => y = .list ((masksU a.n a.gv a.wh a.n.ands.length).map nD))
theorem ok_node_masks (F : Has K mg "node_masks" S_node_masks) (B : Blt mg) (Fa : Cal P w K mg base 1 "first_and" P_first_and spFand) (Mk : Cal P w K mg base 1 "mask_of" P_mask_of spMask) : Cal P w K mg base 2 "node_masks" P_node_masks spNm :=
  fnP F sc_node_masks (fun _ => rfl) (fun _ _ _ _ _ _ us hl => match us, hl with | [_, _, _], _ => rfl) fun f cdv A outer s H E hr a hp => by
    have nd := sc_node_masks.nd
    have hun : (cxOf CX0 P w K mg base N_node_masks "node_masks" (defScope S_node_masks) f cdv A outer s H E).nox.A.units + 64 < cLine := hr.units
    obtain ⟨fn, hgv⟩ := hp
    have b1 := fn.ins
    have b2 := fn.regs
    have b3 := fn.ands
    have bf : a.n.fand ≤ 200 := by unfold Net.fand; omega
    refine sd_new 3 nd (pf_lst (pxs_cons px_int pxs_nil)) ?_
    refine sd_for (l := (List.range (a.n.fand - 1)).map (1 + ·)) (g := nD) (fun i ρ => ρ = [some (.d (netD a.n)), some (.d (.dict a.kvs)), some (.d (nD a.wh)), some (.o true (oL ((0 :: ((List.range (a.n.fand - 1)).take i).map fun j => a.gv (1 + j)).map nD))), none, none, none]) (fun _ _ => False)
      rfl PassesOwn.never (by rw [List.map_map]; exact pw_r2 (n := a.n.fand) rfl B.range pn_1 (px_call Fa a.n True.intro (pxs_cons (px_v 0) pxs_nil) (fun y e => e)) rfl ⟨by decide, by omega⟩) rfl (fun i q ρ' hb e => ?_) (fun ρ' e => ?_) (fun _ _ z => z.elim)
    · subst e
      have hi : i < a.n.fand - 1 := by
        have := (List.getElem?_eq_some_iff.mp hb).1
        rwa [List.length_map, List.length_range] at this
      have hq : q = 1 + i := by
        have := (List.getElem?_eq_some_iff.mp hb).2
        simpa using this.symm
      subst hq
      refine ⟨[4], _, gd_n 4 nd, ?_⟩
      refine sd_app 3 rfl (x := nD (a.gv (1 + i))) (px_dget hun (px_v 1) (px_v 4) px_int (hgv (1 + i))) (by simp; omega) (sd_end [4] ?_)
      show _ = _
      rw [List.take_succ, List.getElem?_range hi, List.map_append, List.map_cons, List.map_cons, List.map_append]
      rfl
    · subst e
      have e0 : ((0 :: ((List.range (a.n.fand - 1)).take ((List.range (a.n.fand - 1)).map (1 + ·)).length).map fun j => a.gv (1 + j)).map nD) = (masksU a.n a.gv a.wh 0).map nD := by
        rw [List.length_map, List.take_length]
        rfl
      rw [e0]
      refine sd_for (l := a.n.ands) (g := andD) (fun i ρ => ρ = [some (.d (netD a.n)), some (.d (.dict a.kvs)), some (.d (nD a.wh)), some (.o true (oL ((masksU a.n a.gv a.wh i).map nD))), none, none, none]) (fun _ _ => False)
        rfl PassesOwn.never (piw_T (px_ixT (px_v 0) px_int rfl)) rfl (fun i q ρ' hb e => ?_) (fun ρ' e => ?_) (fun _ _ z => z.elim)
      · subst e
        have hi := (List.getElem?_eq_some_iff.mp hb).1
        have al := fn.al i q hb
        have len := masksU_len (n := a.n) (gv := a.gv) (wh := a.wh) (Nat.le_of_lt hi)
        refine ⟨[5, 6], _, gd_t rfl (gds_cons (gd_n 5 nd) (gds_cons (gd_n 6 nd) gds_nil)), ?_⟩
        refine sd_app 3 rfl (pn_and (px_call Mk ⟨masksU a.n a.gv a.wh i, q.1, a.wh⟩ (by show q.1 / 2 < (masksU a.n a.gv a.wh i).length; omega) (pxs_cons (px_b 3) (pxs_cons (px_v 5) (pxs_cons (px_v 2) pxs_nil))) (fun y e => e)) (px_call Mk ⟨masksU a.n a.gv a.wh i, q.2, a.wh⟩ (by show q.2 / 2 < (masksU a.n a.gv a.wh i).length; omega) (pxs_cons (px_b 3) (pxs_cons (px_v 6) (pxs_cons (px_v 2) pxs_nil))) (fun y e => e))) (by rw [List.length_map, len]; omega) (sd_end [5, 6] ?_)
        show _ = _
        rw [masksU_succ hb]
        unfold stepM
        rw [List.map_append]
        rfl
      · subst e
        exact sd_retO 3 rfl rfl
end
end Bf
set_option Elab.async false
set_option linter.all false
set_option maxRecDepth 100000
set_option maxHeartbeats 1000000
namespace Bf
open PySem PySem.Spec PyProof.Rows L2
section
variable {C : Cn} {ρ : Rho} {σ : L2.St} {H : Hp}
theorem Holds.keepK {i : Nat} {kvs : List (PyData × PyData)} (h : Holds C ρ σ H) (e : ρ[i]? = some (some (.o true (oK (kvs.map kvI))))) : Holds C (ρ.set i (some (.d (.dict kvs)))) σ H := by
  obtain ⟨a, f1, g1, f3, f4⟩ := h.own i true _ e
  rw [if_pos rfl] at f4
  have lt : i < ρ.length := (List.getElem?_eq_some_iff.mp e).1
  have sub : ∀ b, All C (ρ.set i (some (.d (.dict kvs)))) σ b → All C ρ σ b := fun b m => by
    rcases m with m | m | ⟨j, l, p, e1, e2⟩
    · exact .inl m
    · exact .inr (.inl m)
    · rcases set_get e1 with ⟨_, z, _⟩ | ⟨n, e1⟩
      · cases z
      · exact .inr (.inr ⟨j, l, p, e1, e2⟩)
  refine ⟨by rw [List.length_set, h.len], fun j y z => ?_, fun j l p z => ?_, fun j k l l' p q b z1 z2 z3 z4 => ?_, h.fr, h.m0, fun j b m => ⟨(h.a0 j b m).1, ?_⟩, h.th, fun W Hs z => ⟨(h.sn W Hs z).1, fun a m k => (h.sn W Hs z).2 a (sub a m) k⟩⟩
  · rcases set_get z with ⟨zz, w, _⟩ | ⟨n, z⟩
    · cases w
      subst zz
      refine ⟨.ref a, f1, a, rfl, ?_, g1⟩
      rintro (m | m | ⟨j, l, p, e1, e2⟩)
      · exact f3 m
      · exact h.aH m f4
      · rcases set_get e1 with ⟨_, z, _⟩ | ⟨n, e1⟩
        · cases z
        · exact n (h.sep i j _ _ _ _ a e e1 f1 e2)
    · obtain ⟨u, h1, h2⟩ := h.dat j y z
      exact ⟨u, h1, Is.weak (fun b m _ => sub b m) h2⟩
  · rcases set_get z with ⟨_, z, _⟩ | ⟨n, z⟩
    · cases z
    · obtain ⟨b, h1, h2, h3⟩ := h.own j l p z
      exact ⟨b, h1, p.weak h2 fun c m _ => sub c m, h3⟩
  · rcases set_get z1 with ⟨_, z, _⟩ | ⟨_, z1⟩
    · cases z
    · rcases set_get z2 with ⟨_, z, _⟩ | ⟨_, z2⟩
      · cases z
      · exact h.sep j k l l' p q b z1 z2 z3 z4
  · obtain ⟨q, z1, z2⟩ := (h.a0 j b m).2
    have n : i ≠ j := fun z => by
      subst z
      rw [e] at z1
      cases z1
    exact ⟨q, by rw [set_other n]; exact z1, z2⟩
end
section
variable {X : Cx} {ρ : Rho} {R : Po} {sts : List Stmt}
/-- a dict of ints that is only read from here on -/
theorem sd_keepK (i : Nat) {kvs : List (PyData × PyData)} (hx : ρ[i]? = some (some (.o true (oK (kvs.map kvI))))) (h : PSD X (ρ.set i (some (.d (.dict kvs)))) sts R) : PSD X ρ sts R := PSsimp h fun D σ H ⟨C, hh, q⟩ => ⟨C, hh.keepK hx, q⟩
end
end Bf
set_option Elab.async false
set_option linter.all false
set_option maxRecDepth 100000
set_option maxHeartbeats 1000000
namespace Bf
open PySem PySem.Spec PyProof.Rows L2
/-! ### masks, bit by bit -/
def bitN (m b : Nat) : Nat := m / 2 ^ b % 2
theorem bitN_tb (m b : Nat) : bitN m b = (m.testBit b).toNat := (Nat.toNat_testBit m b).symm
theorem bitN_lt (m b : Nat) : bitN m b < 2 := Nat.mod_lt _ (by decide)
theorem bitN_0 (b : Nat) : bitN 0 b = 0 := by
  unfold bitN
  rw [Nat.zero_div]
theorem bitN_and (x y b : Nat) : bitN (x &&& y) b = bitN x b &&& bitN y b := by
  rw [bitN_tb, bitN_tb, bitN_tb, Nat.testBit_and]
  cases x.testBit b <;> cases y.testBit b <;> rfl
theorem bitN_xor (x y b : Nat) : bitN (x ^^^ y) b = bitN x b ^^^ bitN y b := by
  rw [bitN_tb, bitN_tb, bitN_tb, Nat.testBit_xor]
  cases x.testBit b <;> cases y.testBit b <;> rfl
theorem getD_map0 {f : Nat → Nat} (h : f 0 = 0) (l : List Nat) (i : Nat) : (l.map f).getD i 0 = f (l.getD i 0) := by
  rw [List.getD_eq_getElem?_getD, List.getD_eq_getElem?_getD, List.getElem?_map]
  cases l[i]? with
  | none => exact h.symm
  | some x => rfl
theorem bit_mask {ms : List Nat} {b wh : Nat} (hw : bitN wh b = 1) (l : Nat) : bitN (maskN ms l wh) b = litN (ms.map fun m => bitN m b) l := by
  unfold maskN litN
  rw [getD_map0 (bitN_0 b)]
  by_cases e : l % 2 = 1
  · rw [if_pos e, bitN_xor, hw, e]
  · rw [if_neg e]
    have : l % 2 = 0 := by omega
    rw [this, Nat.xor_zero]
theorem bit_step {ms : List Nat} {b wh : Nat} (hw : bitN wh b = 1) (p : Nat × Nat) : (stepM wh ms p).map (fun m => bitN m b) = stepB (ms.map fun m => bitN m b) p := by
  unfold stepM stepB
  rw [List.map_append, List.map_cons, List.map_nil, bitN_and, bit_mask hw, bit_mask hw]
theorem bit_fold {b wh : Nat} (hw : bitN wh b = 1) : ∀ (l : List (Nat × Nat)) (ms : List Nat), (l.foldl (stepM wh) ms).map (fun m => bitN m b) = l.foldl stepB (ms.map fun m => bitN m b)
  | [], _ => rfl
  | p :: l, ms => by rw [List.foldl_cons, List.foldl_cons, bit_fold hw l, bit_step hw]
theorem full_bit {k b : Nat} (h : b < 2 ^ k) : bitN (fullN k) b = 1 := by
  rw [bitN_tb]
  unfold fullN
  rw [Nat.testBit_two_pow_sub_one, decide_eq_true h]
  rfl
theorem pat_bits : ∀ k : Nat, k < 7 → ∀ j : Nat, j < k → ∀ b : Nat, b < 2 ^ k → bitN (patN k j) b = b / 2 ^ j % 2 := by decide +kernel
theorem pat_lt : ∀ k : Nat, k < 7 → ∀ j : Nat, j < k → patN k j < 2 ^ 2 ^ k := by decide +kernel
/-- the masks that are given for inputs and registers -/
def gvN (k : Nat) (s : List Nat) (wh : Nat) (i : Nat) : Nat := if i = 0 then 0 else if i ≤ k then patN k (k - i) else if s.getD (i - 1 - k) 0 = 1 then wh else 0
theorem gv_bits {k b : Nat} {s : List Nat} (hk : k ≤ 6) (hb : b < 2 ^ k) (h01 : ∀ x ∈ s, x < 2) : ((List.range (k + s.length)).map fun j => bitN (gvN k s (fullN k) (1 + j)) b) = inW k b ++ s := by
  rw [List.range_add, List.map_append, List.map_map]
  congr 1
  · unfold inW
    apply List.map_congr_left
    intro j m
    have hj := List.mem_range.mp m
    unfold gvN
    rw [if_neg (by omega), if_pos (by omega), pat_bits k (by omega) _ (by omega) b hb]
    rw [show k - (1 + j) = k - 1 - j by omega]
  · apply List.ext_getElem (by rw [List.length_map, List.length_range])
    intro i h1 h2
    rw [List.getElem_map, List.getElem_range]
    show bitN (gvN k s (fullN k) (1 + (k + i))) b = s[i]
    unfold gvN
    rw [if_neg (by omega), if_neg (by omega), show 1 + (k + i) - 1 - k = i by omega, List.getD_eq_getElem?_getD, List.getElem?_eq_getElem h2]
    show bitN (if s[i] = 1 then _ else _) b = _
    have := h01 s[i] (List.getElem_mem h2)
    by_cases e : s[i] = 1
    · rw [if_pos e, full_bit hb, e]
    · rw [if_neg e, bitN_0]
      omega
def masksN (n : Net) (s : List Nat) : List Nat := masksU n (gvN n.ins.length s (fullN n.ins.length)) (fullN n.ins.length) n.ands.length
theorem masks_bits {n : Net} {s : List Nat} {b : Nat} (hs : s.length = n.regs.length) (h01 : ∀ x ∈ s, x < 2) (hk : n.ins.length ≤ 6) (hb : b < 2 ^ n.ins.length) : (masksN n s).map (fun m => bitN m b) = bitsN n (inW n.ins.length b) s := by
  unfold masksN masksU bitsN bitsU
  rw [bit_fold (full_bit hb), List.map_cons, List.map_map, bitN_0]
  have e : n.fand - 1 = n.ins.length + s.length := by
    unfold Net.fand
    omega
  rw [e]
  have h := gv_bits (s := s) hk hb h01
  congr 2
def shownM (n : Net) (s : List Nat) : List Nat := n.shown.map fun l => maskN (masksN n s) l (fullN n.ins.length)
def nextM (n : Net) (s : List Nat) : List Nat := n.regs.map fun r => maskN (masksN n s) r.nx (fullN n.ins.length)
theorem shown_bits {n : Net} {s : List Nat} {b : Nat} (hs : s.length = n.regs.length) (h01 : ∀ x ∈ s, x < 2) (hk : n.ins.length ≤ 6) (hb : b < 2 ^ n.ins.length) : (shownM n s).map (fun m => bitN m b) = shownN n (bitsN n (inW n.ins.length b) s) := by
  rw [← masks_bits hs h01 hk hb]
  unfold shownM shownN Net.shown
  rw [List.map_map, List.map_append, List.map_map, List.map_map]
  congr 1 <;> (apply List.map_congr_left; intro x _; exact bit_mask (full_bit hb) _)
theorem next_bits {n : Net} {s : List Nat} {b : Nat} (hs : s.length = n.regs.length) (h01 : ∀ x ∈ s, x < 2) (hk : n.ins.length ≤ 6) (hb : b < 2 ^ n.ins.length) : (nextM n s).map (fun m => bitN m b) = nextN n (bitsN n (inW n.ins.length b) s) := by
  rw [← masks_bits hs h01 hk hb]
  unfold nextM nextN
  rw [List.map_map]
  apply List.map_congr_left
  intro x _
  exact bit_mask (full_bit hb) _
theorem next_01 {n : Net} {s : List Nat} {b : Nat} (hs : s.length = n.regs.length) (h01 : ∀ x ∈ s, x < 2) (hk : n.ins.length ≤ 6) (hb : b < 2 ^ n.ins.length) : ∀ x ∈ nextN n (bitsN n (inW n.ins.length b) s), x < 2 := by
  rw [← next_bits hs h01 hk hb]
  intro x m
  obtain ⟨y, _, rfl⟩ := List.mem_map.mp m
  exact bitN_lt _ _
/-! bounds -/
theorem full_lt (k : Nat) : fullN k < 2 ^ 2 ^ k := by
  unfold fullN
  have : 0 < 2 ^ 2 ^ k := Nat.pow_pos (by decide)
  omega
theorem getD_lt {l : List Nat} {c : Nat} (h : ∀ x ∈ l, x < c) (hc : 0 < c) (i : Nat) : l.getD i 0 < c := by
  rw [List.getD_eq_getElem?_getD]
  cases e : l[i]? with
  | none => exact hc
  | some x => exact h x (List.mem_of_getElem? e)
theorem mask_lt {ms : List Nat} {e wh l : Nat} (h : ∀ x ∈ ms, x < 2 ^ e) (hw : wh < 2 ^ e) : maskN ms l wh < 2 ^ e := by
  have g := getD_lt h (Nat.pow_pos (by decide)) (l / 2)
  unfold maskN
  split
  · exact Nat.xor_lt_two_pow g hw
  · exact g
theorem fold_lt {e wh : Nat} (hw : wh < 2 ^ e) : ∀ (l : List (Nat × Nat)) (ms : List Nat), (∀ x ∈ ms, x < 2 ^ e) → ∀ x ∈ l.foldl (stepM wh) ms, x < 2 ^ e
  | [], _, h => h
  | p :: l, ms, h => by
    rw [List.foldl_cons]
    refine fold_lt hw l _ fun x m => ?_
    rcases List.mem_append.mp m with m | m
    · exact h x m
    · rw [List.mem_singleton.mp m]
      exact Nat.and_lt_two_pow _ (mask_lt h hw)
theorem gv_lt {k : Nat} {s : List Nat} (hk : k ≤ 6) (i : Nat) : gvN k s (fullN k) i < 2 ^ 2 ^ k := by
  have : 0 < 2 ^ 2 ^ k := Nat.pow_pos (by decide)
  unfold gvN
  split
  · exact this
  · split
    · exact pat_lt k (by omega) _ (by omega)
    · split
      · exact full_lt k
      · exact this
theorem masks_lt {n : Net} {s : List Nat} (hk : n.ins.length ≤ 6) : ∀ x ∈ masksN n s, x < 2 ^ 2 ^ n.ins.length := by
  refine fold_lt (full_lt _) _ _ fun x m => ?_
  rcases List.mem_cons.mp m with rfl | m
  · exact Nat.pow_pos (by decide)
  · obtain ⟨j, _, rfl⟩ := List.mem_map.mp m
    exact gv_lt hk _
theorem shown_lt {n : Net} {s : List Nat} (hk : n.ins.length ≤ 6) : ∀ x ∈ shownM n s, x < 2 ^ 2 ^ n.ins.length := fun x m => by
  obtain ⟨l, _, rfl⟩ := List.mem_map.mp m
  exact mask_lt (masks_lt hk) (full_lt _)
/-! ### the lowest one -/
theorem low_ex : ∀ (m : Nat), 0 < m → ∃ j q, m = 2 ^ (j + 1) * q + 2 ^ j := by
  intro m
  induction m using Nat.strongRecOn with
  | _ m ih =>
    intro h
    by_cases e : m % 2 = 1
    · exact ⟨0, m / 2, by simp; omega⟩
    · obtain ⟨j, q, hq⟩ := ih (m / 2) (by omega) (by omega)
      refine ⟨j + 1, q, ?_⟩
      have : m = 2 * (m / 2) := by omega
      rw [this, hq, Nat.pow_succ 2 (j + 1), Nat.pow_succ 2 j, Nat.mul_add]
      rw [Nat.mul_comm (2 ^ j * 2) 2, Nat.mul_assoc 2 (2 ^ j * 2) q, Nat.mul_comm (2 ^ j) 2]
theorem low_tb {j q t : Nat} : (2 ^ (j + 1) * q + 2 ^ j).testBit t = if t < j + 1 then decide (j = t) else q.testBit (t - (j + 1)) := by
  rw [Nat.testBit_two_pow_mul_add _ (Nat.pow_lt_pow_right (by decide) (by omega)), Nat.testBit_two_pow]
theorem low_and {j q : Nat} : (2 ^ (j + 1) * q + 2 ^ j) &&& (2 ^ (j + 1) * q + 2 ^ j - 1) = 2 ^ (j + 1) * q := by
  have hp : 0 < 2 ^ j := Nat.pow_pos (by decide)
  have e : 2 ^ (j + 1) * q + 2 ^ j - 1 = 2 ^ (j + 1) * q + (2 ^ j - 1) := by omega
  have h1 : 2 ^ j - 1 < 2 ^ (j + 1) := by
    rw [Nat.pow_succ]
    omega
  apply Nat.eq_of_testBit_eq
  intro t
  rw [Nat.testBit_and, low_tb, e, Nat.testBit_two_pow_mul_add _ h1, Nat.testBit_two_pow_sub_one]
  have e2 := Nat.testBit_two_pow_mul_add (i := j + 1) q (b := 0) (Nat.pow_pos (by decide)) t
  rw [Nat.add_zero] at e2
  rw [e2]
  by_cases h : t < j + 1
  · rw [if_pos h, if_pos h, if_pos h, Nat.zero_testBit]
    by_cases h2 : j = t
    · rw [decide_eq_true h2, decide_eq_false (by omega)]
      rfl
    · rw [decide_eq_false h2]
      rfl
  · rw [if_neg h, if_neg h, if_neg h, Bool.and_self]
theorem low_is {m : Nat} (h : m ≠ 0) : ∃ j : Nat, lowD m = nD j ∧ m.testBit j = true ∧ ∀ i, i < j → m.testBit i = false := by
  obtain ⟨j, q, e⟩ := low_ex m (Nat.pos_of_ne_zero h)
  have hp : 0 < 2 ^ j := Nat.pow_pos (by decide)
  refine ⟨j, ?_, by rw [e, low_tb, if_pos (by omega), decide_eq_true rfl], fun i hi => by rw [e, low_tb, if_pos (by omega), decide_eq_false (by omega)]⟩
  unfold lowD
  rw [if_neg h]
  have ea : Builtin.bitAnd (m : Int) (-(m : Int)) = ((2 ^ j : Nat) : Int) := by
    unfold Builtin.bitAnd
    rw [decide_eq_true (Int.natCast_nonneg m), decide_eq_false (show ¬ (0 : Int) ≤ -(m : Int) by omega)]
    show (m : Int) - (((m : Int).toNat &&& (Builtin.bitNot (-(m : Int))).toNat : Nat) : Int) = _
    have eb : (Builtin.bitNot (-(m : Int))).toNat = m - 1 := by
      unfold Builtin.bitNot
      omega
    rw [eb, Int.toNat_natCast]
    have := low_and (j := j) (q := q)
    rw [← e] at this
    rw [this]
    omega
  rw [ea]
  have ei : Builtin.Int.intBits ((2 ^ j : Nat) : Int) = j + 1 := by
    unfold Builtin.Int.intBits
    have hne : ¬ ((((2 ^ j : Nat) : Int) == 0) = true) := by
      intro z
      have z' : ((2 ^ j : Nat) : Int) = 0 := by simpa using z
      omega
    rw [if_neg hne, Int.natAbs_natCast, Nat.log2_two_pow]
  rw [ei]
  show PyData.int _ = PyData.int _
  congr 1
  omega
end Bf
set_option Elab.async false
set_option linter.all false
set_option maxRecDepth 100000
set_option maxHeartbeats 4000000
namespace Bf
open PySem
open PySem.Sem (wp)
open AutoSeq1 (wpAny_loadPart')
theorem draws_tuple {prog : Program} {w : World} {A : Around} (hh : A.handled = none) (it l : Addr) (hne : l ≠ it) (items : Array Value) :
    PySem.Draws prog w A it [it, l] items.size (fun i v => items[i]? = some v) (fun i h => h.IsTupleIter it l i ∧ h.IsTuple l items) where
  live := fun _ _ st => let ⟨o, ho, _⟩ := st.1; ⟨o, ho⟩
  frame := fun _ _ _ st hk => ⟨st.1.at fun o e => hk it (by simp) o e, st.2.at fun o e => hk l (by simp) o e⟩
  item := fun i s Q E hi st hQ => by
    refine RZ.nextOf_tuple_item st.1 st.2 (x := items[i]) (by simp [hi]) fun h' hit' hs' => ?_
    exact hQ _ h' s.toks (by simp [hi]) ⟨hit', st.2.extBut hs'.extBut hne⟩ hs'
  done := fun s Q E st hE => RZ.nextOf_tuple_end hh st.1 st.2 (by simp) hE
theorem meets_enumT (l : Addr) (items : Array Value) (n : Nat) (dct : Option Addr) (sl : Array (Option Value)) :
    Meets (Builtin.«enumerate.__new__» ⟨[.type "enumerate", .ref l], []⟩) (fun _ R s => s.heap.get? l = some { cls := .type "tuple", dict := dct, data := .seq items n, slots := sl } ∧
      R (.ok (.ret (.ref (s.heap.push { cls := .type "tuple_iterator", data := .fields #[.ref l, .int 0 0] }).objs.size)))
        { s with heap := (s.heap.push { cls := .type "tuple_iterator", data := .fields #[.ref l, .int 0 0] }).push { cls := .type "enumerate", data := .fields #[.none, .bool false, .ref s.heap.objs.size, rawInt 0, .none, .none] } }) :=
  .of_wp fun prog w A R s h => by
    obtain ⟨hp, g, d, tk, os⟩ := s; obtain ⟨hl, h⟩ := h
    have hsub := sub_enumerate
    have hL : Heap.IsTuple (Shared.heap ⟨hp, g, d, tk, os⟩) l items := ⟨_, hl, rfl, n, rfl⟩
    wp_walk using wpAny_loadPart' hl
    refine wpAny_stack_any fun st => wpAny_pure ?_
    split
    · rename_i c _ _ _ _ _
      cases (c == Value.type "enumerate")
      · wp_walk using wpAny_loadPart' hl, wpAny_pyIter_tuple hL
        exact ⟨_, rfl, h⟩
      · wp_walk using wpAny_loadPart' hl, wpAny_pyIter_tuple hL
        exact ⟨_, rfl, h⟩
    · wp_walk using wpAny_loadPart' hl, wpAny_pyIter_tuple hL
      exact ⟨_, rfl, h⟩
end Bf
set_option Elab.async false
set_option linter.all false
set_option maxRecDepth 100000
set_option maxHeartbeats 4000000
namespace Bf
open PySem
section
variable {prog : Program} {w : World} {A : Around} {E : Value → Shared → Prop} {s : Shared}
theorem call_enumT {l : Addr} {items : Array Value} {Q : Value → Shared → Prop} (hL : s.heap.IsTuple l items)
    (h : ∀ h', IsEnum h' (s.heap.objs.size + 1) s.heap.objs.size 0 .none → h'.IsTupleIter s.heap.objs.size l 0 → h'.objs.size = s.heap.objs.size + 2 →
      (∀ b o, s.heap.get? b = some o → h'.get? b = some o) → Q (.ref (s.heap.objs.size + 1)) { s with heap := h' }) :
    wpAny (model prog w) A (call (.type "enumerate") [.ref l]) Q E s := by
  obtain ⟨⟨c, dct, dt, sl⟩, hl, hc, n, hd⟩ := hL
  replace hc : c = .type "tuple" := hc
  replace hd : dt = .seq items n := hd
  subst hc hd
  refine callType_new F.called_enumerate (by decide) (F.typeCall_enumerate_1 _) (F.newCall_enumerate_1 _) (fun obj => F.args_object_init_2 obj _) F.entry_enumerate_new
    (meets_enumT l items n dct sl) ⟨hl, ?_⟩
  have hz : (s.heap.push { cls := .type "tuple_iterator", data := .fields #[.ref l, .int 0 0] }).objs.size = s.heap.objs.size + 1 := Heap.size_push ..
  show _ ∧ _
  rw [hz]
  have he : IsEnum ((s.heap.push { cls := .type "tuple_iterator", data := .fields #[.ref l, .int 0 0] }).push
      { cls := .type "enumerate", data := .fields #[.none, .bool false, .ref s.heap.objs.size, rawInt 0, .none, .none] }) (s.heap.objs.size + 1) s.heap.objs.size 0 .none := by
    have := Heap.get?_push_size (s.heap.push { cls := .type "tuple_iterator", data := .fields #[.ref l, .int 0 0] })
      (o := { cls := .type "enumerate", data := .fields #[.none, .bool false, .ref s.heap.objs.size, rawInt 0, .none, .none] }) rfl
    rw [hz] at this; exact this
  refine ⟨⟨_, he, rfl⟩, h _ he ⟨_, Heap.get?_push_of_some _ (Heap.get?_push_size _ rfl), rfl, rfl⟩ (by rw [Heap.size_push, hz]) fun b o x => Heap.get?_push_of_some _ (Heap.get?_push_of_some _ x)⟩
end
end Bf
set_option Elab.async false
set_option linter.all false
set_option maxRecDepth 100000
set_option maxHeartbeats 1000000
namespace Bf
open PySem PySem.Spec PyProof.Rows L2
section
variable {X : Cx} {e e2 : Expr} {ρ : Rho} {ds xs ys : List PyData} {p pos tpos : Pos} {elts : List Expr} {kk : Nat}
def enumD (ds : List PyData) : List PyData := zipD ((List.range ds.length).map nD) ds
theorem zipD_len : (zipD xs ys).length = min xs.length ys.length := by
  unfold zipD
  rw [List.length_map, List.length_zip]
theorem piw_enumL (hg : Gl X "enumerate") (hm : X.mg "enumerate" = none) (h : PX X ρ true e (.list ds)) (he : starEach [e] X.env = (false, eval e X.env) :: starEach [] X.env := by rfl) (hs : starEach [e] X.env = [(false, eval e X.env)] := by rfl) : PIW X (.Tuple elts kk tpos) (.Call (.Name "enumerate" p) [e] [] pos) ρ (enumD ds) :=
  PIimp (pi_enum hg hm (pa_cons h pa_nil he) hs) fun σ H R ⟨C, hh, q⟩ => ⟨C, hh, fun v H1 e1 ⟨p, vs, g1, g2, g3, g4⟩ => ⟨p, vs, by rw [g1], SqL.of g3, q _ H1 e1 fun H2 W' tr ww fr => by
    have st : H2 p = some (.lst vs) := fr p _ g3 fun m => g2 ⟨rfl, ww p m (ne_none g3)⟩
    refine ⟨fun i d hd => ?_, ⟨vs, SqL.of st, by unfold enumD; rw [zipD_len, List.length_map, List.length_range, Nat.min_self, g4.length]; exact Nat.le_refl _⟩⟩
    obtain ⟨x, y, hx, hy, rfl⟩ := zipD_get hd
    obtain ⟨v', h1, h2⟩ := (IsAll.ofT g4).get hy
    have ex : x = nD i := by
      rw [List.getElem?_map] at hx
      have hi : i < ds.length := (List.getElem?_eq_some_iff.mp hy).1
      rw [List.getElem?_range hi] at hx
      exact (Option.some.inj hx).symm
    subst ex
    refine ⟨⟨vs, v', SqL.of st, h1⟩, fun u H3 ⟨T, w, eu, hT, e3, hy2⟩ => ?_⟩
    subst eu e3
    have z := hy2 vs (SqL.of st)
    rw [h1] at z
    cases z
    exact ⟨Ex.new hT, is_pair hT (fun m => tr T m hT) rfl (Is.fr fr (Is.weak ww h2))⟩⟩⟩
end
end Bf
set_option Elab.async false
set_option linter.all false
set_option maxRecDepth 100000
set_option maxHeartbeats 1000000
namespace Bf
open PySem PySem.Spec PyProof.Rows L2
section
variable {X : Cx} {e e2 : Expr} {ρ : Rho} {ds xs ys : List PyData} {p pos tpos : Pos} {elts : List Expr} {kk : Nat}
theorem piw_zipL (hg : Gl X "zip") (hm : X.mg "zip" = none) (h : PX X ρ true e (.list xs)) (h' : PX X ρ true e2 (.list ys)) (he : starEach [e, e2] X.env = (false, eval e X.env) :: starEach [e2] X.env := by rfl) (he2 : starEach [e2] X.env = (false, eval e2 X.env) :: starEach [] X.env := by rfl) (hpl : (backTo pos (starEach [e2] X.env)).any (·.1) = false := by rfl) : PIW X (.Tuple elts kk tpos) (.Call (.Name "zip" p) [e, e2] [] pos) ρ (zipD xs ys) :=
  PIimp (pi_zip hg hm (pa_cons h (pa_cons h' pa_nil he2) he) he hpl) fun σ H R ⟨C, hh, q⟩ => ⟨C, hh, fun v H1 e1 ⟨p, vs, g1, g2, g3, g4⟩ => ⟨C, hh.ex e1, fun v' H1' e1' ⟨p', vs', k1, k2, k3, k4⟩ => ⟨p, p', vs, vs', by rw [g1, k1], SqL.of (e1' _ _ g3), SqL.of k3, q _ H1' (e1.trans e1') fun H2 W' tr ww fr => by
    have g3' := e1' _ _ g3
    have st : H2 p = some (.lst vs) := fr p _ g3' fun m => g2 ⟨rfl, ww p m (ne_none g3')⟩
    have st' : H2 p' = some (.lst vs') := fr p' _ k3 fun m => k2 ⟨rfl, ww p' m (ne_none k3)⟩
    refine ⟨fun i d hd => ?_, ⟨vs, vs', SqL.of st, SqL.of st', by rw [zipD_len, ← g4.length, ← k4.length]; omega⟩⟩
    obtain ⟨x, y, hx, hy, rfl⟩ := zipD_get hd
    obtain ⟨a1, a2, a3⟩ := (IsAll.ofT (IsAll.ex e1' g4)).get hx
    obtain ⟨b1, b2, b3⟩ := (IsAll.ofT k4).get hy
    refine ⟨⟨vs, vs', a1, b1, SqL.of st, SqL.of st', a2, b2⟩, fun u H3 ⟨T, w, w2, eu, hT, e3, z1, z2⟩ => ?_⟩
    subst eu e3
    have y1 := z1 vs (SqL.of st)
    rw [a2] at y1
    cases y1
    have y2 := z2 vs' (SqL.of st')
    rw [b2] at y2
    cases y2
    exact ⟨Ex.new hT, is_pair hT (fun m => tr T m hT) (Is.fr fr (Is.weak ww a3)) (Is.fr fr (Is.weak ww b3))⟩⟩⟩⟩
end
end Bf
set_option Elab.async false
set_option linter.all false
set_option maxRecDepth 100000
set_option maxHeartbeats 4000000
namespace Bf
open PySem PySem.Spec PyProof.Rows L2
/-- the tuple at a, each item in a new pair with its number -/
def IteT (K : PySem.W.Frag) (a : Addr) : It :=
  ⟨fun i H => ∃ (xs : List V) (x : V), SqT K H a xs ∧ xs[i]? = some x, fun i H v H' => ∃ T x, v = .ref T ∧ H T = none ∧ H' = upd H T (.tup [.int (i : Nat), x]) ∧ ∀ xs, SqT K H a xs → xs[i]? = some x, fun i H => ∃ xs : List V, SqT K H a xs ∧ xs.length ≤ i⟩
theorem enumT_end {prog : Program} {w : World} {A : Around} {E : Value → Shared → Prop} {s : Shared} {e it l : Addr} {i : Nat} {items : Array Value} {old : Value} {Q : Option Value → Shared → Prop} (hh : A.handled = none)
    (he : IsEnum s.heap e it i old) (hit : s.heap.IsTupleIter it l i) (hl : s.heap.IsTuple l items) (hx : items[i]? = none)
    (hQ : ∀ h', Heap.ExtBut it s.heap h' → Q none { s with heap := h' }) : wpAny (model prog w) A (pyNext (.ref e)) Q E s := by
  have hT : s.TypeIs (.ref e) "enumerate" := ⟨_, he, rfl⟩
  unfold pyNext
  refine wpAny_bind (wpAny_attempt (wpAny_callSpecial?_slot (name := Str.ofString "__next__") hT F.slot_enumerate_next
    (wpAny_call_entry F.slot_enumerate_next hT F.entry_enumerate_next ?_ (F.args_enumerate_next_1 _))))
  show wpAny _ _ (field (.ref e) 2 >>= _) _ _ _
  refine wpAny_bind (wpAny_field he rfl (x := .ref it) rfl ?_)
  refine wpAny_bind (RZ.nextOf_tuple_end hh hit hl hx fun h' x he' hx' => ?_)
  obtain ⟨o, ho, hc⟩ := hx'
  refine wpAny_bind (wpAny_isInstance (T := "StopIteration") (b := true) ⟨o, ho, hc⟩ isSubtype_stop ?_)
  exact wpAny_pure (hQ _ he')
theorem turn_enumT {P : Program} {w : World} {K : PySem.W.Frag} {elts : List Expr} {kk : Nat} {tpos : Pos} (a e it : Addr) (hae : a ≠ e) (hai : a ≠ it) :
    Turn P w K (.Tuple elts kk tpos) (IteT K a) [e, it] e (fun i h => (∃ old, IsEnum h e it ((i : Nat) : Int) old) ∧ h.IsTupleIter it a i ∧ e ≠ it) where
  mem := by simp
  obj := fun i h st b hb => by
    obtain ⟨⟨old, he⟩, ⟨o, ho, hc, hd⟩, _⟩ := st
    have e' : b = e ∨ b = it := by simpa using hb
    rcases e' with z | z
    · rw [z]; exact ⟨_, he, fun v q => nomatch q⟩
    · rw [z]; exact ⟨o, ho, fun v q => by rw [hd] at q; cases q⟩
  keep := fun i h h' st k => let ⟨⟨old, he⟩, hi, hne⟩ := st; ⟨⟨old, k e (by simp) _ he⟩, hi.at fun o q => k it (by simp) o q, hne⟩
  item := by
    intro X hP hw hK hc i pins s σ H E I hf st hg
    subst hP hw hK
    obtain ⟨⟨old, he⟩, hit, hne⟩ := st
    obtain ⟨xs, x, hq, hx⟩ := hg
    obtain ⟨its, rv, p, hz⟩ := I.tuple hq
    obtain ⟨u, hu, ru⟩ := rv.get hx
    have hel : e < s.heap.objs.size := Heap.lt_size he
    have hil : it < s.heap.objs.size := by obtain ⟨_, q, _⟩ := hit; exact Heap.lt_size q
    have hlt : i < its.toArray.size := by
      have := (List.getElem?_eq_some_iff.mp hu).1
      simpa using this
    refine wpAny_pyNext_enum_itemD (draws_tuple (prog := X.prog) (w := X.w) (A := X.A.in1) (I.ok.hd hc) it a hai its.toArray) he ⟨hit, p⟩ hlt hne (by simp [hne, Ne.symm hae]) fun x' h' tk px ho hst' hT hsz hk => ?_
    have ex : x' = u := by
      have h1 : its.toArray[i]? = some u := by simpa using hu
      rw [h1] at px
      exact (Option.some.inj px).symm
    subst ex
    refine ⟨_, rfl, wpAny_letOwnedTupleGo_enum (s := { s with heap := h', toks := tk + 1 }) ho fun h'' he' sb => ?_⟩
    have hT2 : h''.get? s.heap.objs.size = some { cls := .type "tuple", data := .seq #[.int i tk, x'] } := (sb.2 _ (Nat.ne_of_gt hel)).trans hT
    have new : ObjOk X.prog X.w (upd H s.heap.objs.size (.tup [.int (i : Nat), x])) h'' s.heap.objs.size (.tup [.int (i : Nat), x]) :=
      ⟨by show 2 ≤ sizeLine; decide, [.int i tk, x'], .cons ⟨_, rfl⟩ (.cons ru .nil), ⟨_, hT2, rfl, _, rfl⟩⟩
    have I1 : Inv X pins σ (upd H s.heap.objs.size (.tup [.int (i : Nat), x])) { s with heap := h'', toks := tk + 1 } :=
      I.turnedNew (ch := [e, it]) (fun b ob hb q => (sb.2 b (fun z => hb (by simp [z]))).trans (hk b ob (fun z => hb (by simp [z])) (fun z => hb (by simp [z])) q)) hf (Nat.le_refl _) new
    refine ⟨.ref s.heap.objs.size, _, I1, rfl, ⟨_, x, rfl, I.hok.fresh (Nat.le_refl _), rfl, fun ys hy => by rw [I.tuple_inj hy hq]; exact hx⟩, ⟨⟨x', ?_⟩, hst'.1.at fun o q => (sb.2 it (Ne.symm hne)).trans q, hne⟩, fun b hb => ?_⟩
    · have e1 : ((i + 1 : Nat) : Int) = (i : Int) + 1 := by omega
      rw [e1]; exact he'
    · have hb' : b < s.heap.objs.size := by
        have e' : b = e ∨ b = it := by simpa using hb
        rcases e' with z | z
        · rw [z]; exact hel
        · rw [z]; exact hil
      rw [upd_ne (Nat.ne_of_lt hb')]
      exact (hf b hb).1
  done := by
    intro X hP hw hK hc i pins s σ H E I hf st hg
    subst hP hw hK
    obtain ⟨⟨old, he⟩, hit, hne⟩ := st
    obtain ⟨xs, hq, hx⟩ := hg
    obtain ⟨its, rv, p, hz⟩ := I.tuple hq
    obtain ⟨f0, f1, f2, f3, f4, f5⟩ := hf it (by simp)
    have hl := rv.length
    exact enumT_end (I.ok.hd hc) he hit p (by simp; omega) fun h' eb => ⟨rfl, I.turned (t' := s.toks) (fun b o hb q => eb b o hb q) f0 f1 f3 f4 f5⟩
  self := fun A i s Q E st h => let ⟨⟨_, he⟩, _⟩ := st; wpAny_pyIter_enum he h
end Bf
set_option Elab.async false
set_option linter.all false
set_option maxRecDepth 100000
set_option maxHeartbeats 4000000
namespace Bf
open PySem PySem.Spec PyProof.Rows L2
def iEnumT (K : PySem.W.Frag) (ta : TA) : TI := fun σ H R => ta σ H fun vs H1 => ∃ a xs, vs = [.ref a] ∧ SqT K H1 a xs ∧ R (IteT K a) H1
theorem pi_enumT {X : Cx} {e : Expr} {ta : TA} {p pos tpos : Pos} {elts : List Expr} {kk : Nat} (hg : Gl X "enumerate") (hm : X.mg "enumerate" = none) (ha : PA X [e] ta) (hs : starEach [e] X.env = [(false, eval e X.env)] := by rfl) :
    PI X (.Tuple elts kk tpos) (.Call (.Name "enumerate" p) [e] [] pos) (iEnumT X.K ta) := by
  refine ⟨fun pins s σ H R I h => ?_⟩
  refine Call_ (ld_blt I hg hm boot_enumerate (PyProof.Rows.callWith_type1 (thn (ha.run pos pins s σ H _ I h) fun us s1 ⟨vs, H1, I1, r1, q1⟩ => ?_) hs rfl))
  obtain ⟨a, xs, ex, hq, q⟩ := q1
  subst ex
  cases r1 with
  | cons r rr =>
    cases rr
    cases r
    obtain ⟨its, rv, p', hz⟩ := I1.tuple hq
    have ha : a < s1.heap.objs.size := by
      obtain ⟨o, e, _⟩ := p'
      exact Heap.lt_size e
    refine call_enumT p' fun h' he hit hsz hk => wpAny_pyIter_enum he ?_
    have I2 : Inv X pins σ H1 { s1 with heap := h' } := I1.kept (t' := s1.toks) hk
    refine ⟨s1.heap.objs.size + 1, [s1.heap.objs.size + 1, s1.heap.objs.size], _, _, H1, rfl, I2, turn_enumT a (s1.heap.objs.size + 1) s1.heap.objs.size (Nat.ne_of_lt (Nat.lt_succ_of_lt ha)) (Nat.ne_of_lt ha), ⟨⟨.none, he⟩, hit, Nat.succ_ne_self _⟩, fun b hb => ?_, q⟩
    have e' : b = s1.heap.objs.size + 1 ∨ b = s1.heap.objs.size := by simpa using hb
    have hle : s1.heap.objs.size ≤ b := by
      rcases e' with z | z
      · rw [z]; exact Nat.le_add_right _ _
      · rw [z]; exact Nat.le_refl _
    exact I1.fpOk hle (I1.hok.fresh hle)
section
variable {X : Cx} {e e2 : Expr} {ρ : Rho} {ds xs ys : List PyData} {p pos tpos : Pos} {elts : List Expr} {kk : Nat}
theorem piw_enumT (hg : Gl X "enumerate") (hm : X.mg "enumerate" = none) (h : PX X ρ true e (.tuple ds)) (he : starEach [e] X.env = (false, eval e X.env) :: starEach [] X.env := by rfl) (hs : starEach [e] X.env = [(false, eval e X.env)] := by rfl) : PIW X (.Tuple elts kk tpos) (.Call (.Name "enumerate" p) [e] [] pos) ρ (enumD ds) :=
  PIimp (pi_enumT hg hm (pa_cons h pa_nil he) hs) fun σ H R ⟨C, hh, q⟩ => ⟨C, hh, fun v H1 e1 ⟨p, vs, g1, g2, g3, g4⟩ => ⟨p, vs, by rw [g1], SqT.of g3, q _ H1 e1 fun H2 W' tr ww fr => by
    have st : H2 p = some (.tup vs) := fr p _ g3 fun m => g2 ⟨rfl, ww p m (ne_none g3)⟩
    refine ⟨fun i d hd => ?_, ⟨vs, SqT.of st, by unfold enumD; rw [zipD_len, List.length_map, List.length_range, Nat.min_self, g4.length]; exact Nat.le_refl _⟩⟩
    obtain ⟨x, y, hx, hy, rfl⟩ := zipD_get hd
    obtain ⟨v', h1, h2⟩ := (IsAll.ofT g4).get hy
    have ex : x = nD i := by
      rw [List.getElem?_map] at hx
      have hi : i < ds.length := (List.getElem?_eq_some_iff.mp hy).1
      rw [List.getElem?_range hi] at hx
      exact (Option.some.inj hx).symm
    subst ex
    refine ⟨⟨vs, v', SqT.of st, h1⟩, fun u H3 ⟨T, w, eu, hT, e3, hy2⟩ => ?_⟩
    subst eu e3
    have z := hy2 vs (SqT.of st)
    rw [h1] at z
    cases z
    exact ⟨Ex.new hT, is_pair hT (fun m => tr T m hT) rfl (Is.fr fr (Is.weak ww h2))⟩⟩⟩
end
end Bf
set_option Elab.async false
set_option linter.all false
set_option maxRecDepth 100000
set_option maxHeartbeats 4000000
namespace Bf
open PySem PySem.Spec PyProof.Rows L2
/-- the dict of the masks given, so many of them -/
structure KvOk (g : Nat → Nat) (kvs : List (PyData × PyData)) (t : Nat) : Prop where
  len : kvs.length = t
  val : ∀ i : Nat, valV (kvs.map kvI) (Sum.inl (i : Int)) = if 1 ≤ i ∧ i ≤ t then some (V.int (g i : Nat)) else none
theorem KvOk.nil (g : Nat → Nat) : KvOk g [] 0 := ⟨rfl, fun i => by
  rw [if_neg (by omega)]
  rfl⟩
theorem KvOk.put {g : Nat → Nat} {kvs : List (PyData × PyData)} {t : Nat} (h : KvOk g kvs t) : putK (kvs.map kvI) (Sum.inl ((1 + t : Nat) : Int)) (V.int (g (1 + t) : Nat)) = (kvs ++ [(nD (1 + t), nD (g (1 + t)))]).map kvI ∧ KvOk g (kvs ++ [(nD (1 + t), nD (g (1 + t)))]) (t + 1) := by
  have hn : valV (kvs.map kvI) (Sum.inl ((1 + t : Nat) : Int)) = none := by rw [h.val, if_neg (by omega)]
  have e : putK (kvs.map kvI) (Sum.inl ((1 + t : Nat) : Int)) (V.int (g (1 + t) : Nat)) = (kvs ++ [(nD (1 + t), nD (g (1 + t)))]).map kvI := by
    rw [putK_new _ hn, List.map_append]
    rfl
  refine ⟨e, by rw [List.length_append, h.len]; rfl, fun i => ?_⟩
  rw [← e, valV_put, h.val]
  by_cases z : i = 1 + t
  · subst z
    rw [if_pos rfl, if_pos (by omega)]
  · rw [if_neg (fun w => z (by have := Sum.inl.inj w; omega))]
    by_cases z2 : 1 ≤ i ∧ i ≤ t
    · rw [if_pos z2, if_pos (by omega)]
    · rw [if_neg z2, if_neg (by omega)]
theorem enumD_nats (l : List Nat) : enumD (l.map nD) = ((List.range l.length).zip l).map fun p => .tuple [nD p.1, nD p.2] := by
  unfold enumD zipD
  rw [List.length_map, List.zip_map, List.map_map]
  rfl
theorem piw_enumTN {X : Cx} {e : Expr} {ρ : Rho} {l : List Nat} {p pos tpos : Pos} {elts : List Expr} {kk : Nat} (hg : Gl X "enumerate") (hm : X.mg "enumerate" = none) (h : PX X ρ true e (tupD l)) (he : starEach [e] X.env = (false, eval e X.env) :: starEach [] X.env := by rfl) (hs : starEach [e] X.env = [(false, eval e X.env)] := by rfl) : PIW X (.Tuple elts kk tpos) (.Call (.Name "enumerate" p) [e] [] pos) ρ (((List.range l.length).zip l).map fun p => .tuple [nD p.1, nD p.2]) := by
  rw [← enumD_nats]
  exact piw_enumT hg hm h he hs
theorem pt_eqN {X : Cx} {ρ : Rho} {a b : Expr} {pos : Pos} {m n : Nat} (ha : PX X ρ false a (nD m)) (hb : PX X ρ false b (nD n)) : PXt X ρ (.Compare a [.Eq] [b] pos) (decide (m = n)) := by
  have e : decide ((m : Int) = (n : Int)) = decide (m = n) := by
    by_cases z : m = n
    · rw [decide_eq_true z, decide_eq_true (by omega)]
    · rw [decide_eq_false z, decide_eq_false (by omega)]
  rw [← e]
  exact pt_eqI ha hb
structure MfA where
  n : Net
  s : List Nat
def MfA.pre (a : MfA) : Prop := a.n.Fine ∧ a.s.length = a.n.regs.length ∧ a.n.ins.length ≤ 6
section
variable {P : Program} {w : World} {K : PySem.W.Frag} {mg : Str → Option Value} {base : Heap}
abbrev spMf : Sp := spP (ι := MfA) (fun a => [netD a.n, tupD a.s, nD (fullN a.n.ins.length)]) MfA.pre (fun a y => y = .list ((masksN a.n a.s).map nD))
theorem ok_masks_from (F : Has K mg "masks_from" S_masks_from) (B : Blt mg) (Pa : Cal P w K mg base 2 "patterns" P_patterns spPats) (Fr : Cal P w K mg base 1 "first_reg" P_first_reg spFreg) (Nm : Cal P w K mg base 2 "node_masks" P_node_masks spNm) : Cal P w K mg base 3 "masks_from" P_masks_from spMf :=
  fnP F sc_masks_from (fun _ => rfl) (fun _ _ _ _ _ _ us hl => match us, hl with | [_, _, _], _ => rfl) fun f cdv A outer s H E hr a hp => by
    have nd := sc_masks_from.nd
    have hun : (cxOf CX0 P w K mg base N_masks_from "masks_from" (defScope S_masks_from) f cdv A outer s H E).nox.A.units + 64 < cLine := hr.units
    obtain ⟨fn, hs, hk⟩ := hp
    have b2 := fn.regs
    generalize hgv : gvN a.n.ins.length a.s (fullN a.n.ins.length) = gv
    refine sd_set 3 nd (x := nD a.n.ins.length) (px_eq (pn_lenT rfl B.len b_len (px_ixT (px_v 0) px_int rfl)) (by rw [List.length_map])) ?_
    refine sd_set 4 nd (px_call Pa a.n.ins.length hk (pxs_cons (px_v 3) pxs_nil) (fun y e => e)) ?_
    refine sd_dictK 5 nd ?_
    refine sd_for (l := List.range a.n.ins.length) (g := nD)
      (fun i ρ => ∃ kvs, KvOk gv kvs i ∧ ρ = [some (.d (netD a.n)), some (.d (tupD a.s)), some (.d (nD (fullN a.n.ins.length))), some (.d (nD a.n.ins.length)), some (.d (.list ((patsN a.n.ins.length).map nD))), some (.o true (oK (kvs.map kvI))), none, none])
      (fun _ _ => False) rfl PassesOwn.never (pw_r rfl B.range (px_v 3) rfl (by omega)) ⟨[], KvOk.nil gv, rfl⟩ (fun i b ρ' hb ⟨kvs, ok, e⟩ => ?_) (fun ρ' ⟨kvs, ok, e⟩ => ?_) (fun _ _ z => z.elim)
    · subst e
      have hi : i < a.n.ins.length := by
        have := (List.getElem?_eq_some_iff.mp hb).1
        rwa [List.length_range] at this
      have hbi : b = i := by
        have := (List.getElem?_eq_some_iff.mp hb).2
        simpa using this.symm
      subst hbi
      refine ⟨[6], _, gd_n 6 nd, ?_⟩
      have ev : gv (1 + b) = patN a.n.ins.length (a.n.ins.length - 1 - b) := by
        rw [← hgv]
        unfold gvN
        rw [if_neg (by omega), if_pos (by omega), show a.n.ins.length - (1 + b) = a.n.ins.length - 1 - b by omega]
      obtain ⟨e1, ok1⟩ := ok.put
      refine sd_putK 5 (kvd := kvs.map kvI) (i := ((1 + b : Nat) : Int)) (j := (gv (1 + b) : Nat)) hun rfl (px_ixL (i := ((a.n.ins.length - 1 - b : Nat) : Int)) (px_v 4) (pn_sub (pn_sub (px_v 3) pn_1 (by omega)) (px_v 6) (by omega)) (atI_n ?_)) (pn_add pn_1 (px_v 6)) (by rw [List.length_map, ok.len]; omega) ?_
      · rw [List.getElem?_map]
        unfold patsN
        rw [List.getElem?_map, List.getElem?_range (by omega), ev]
        rfl
      · refine sd_end [6] ⟨_, ok1, ?_⟩
        rw [← e1]
        rfl
    · subst e
      rw [List.length_range] at ok
      refine sd_for (l := (List.range a.s.length).zip a.s) (g := fun p => .tuple [nD p.1, nD p.2])
        (fun i ρ => ∃ kvs, KvOk gv kvs (a.n.ins.length + i) ∧ ρ = [some (.d (netD a.n)), some (.d (tupD a.s)), some (.d (nD (fullN a.n.ins.length))), some (.d (nD a.n.ins.length)), some (.d (.list ((patsN a.n.ins.length).map nD))), some (.o true (oK (kvs.map kvI))), none, none])
        (fun _ _ => False) rfl PassesOwn.never ?_ ⟨kvs, ok, rfl⟩ (fun i b ρ' hb ⟨kvs, ok, e⟩ => ?_) (fun ρ' ⟨kvs, ok, e⟩ => ?_) (fun _ _ z => z.elim)
      · exact piw_enumTN rfl B.enumerate (px_v 1)
      · subst e
        have hi : i < a.s.length := by
          have := (List.getElem?_eq_some_iff.mp hb).1
          rw [List.length_zip, List.length_range, Nat.min_self] at this
          exact this
        obtain ⟨h1, h2⟩ := List.getElem?_zip_eq_some.mp hb
        rw [List.getElem?_range hi] at h1
        have eb1 : b.1 = i := (Option.some.inj h1).symm
        have ev : gv (1 + (a.n.ins.length + i)) = if b.2 = 1 then fullN a.n.ins.length else 0 := by
          rw [← hgv]
          unfold gvN
          rw [if_neg (by omega), if_neg (by omega), show 1 + (a.n.ins.length + i) - 1 - a.n.ins.length = i by omega, List.getD_eq_getElem?_getD, h2]
          rfl
        refine ⟨[6, 7], _, gd_t rfl (gds_cons (gd_n 6 nd) (gds_cons (gd_n 7 nd) gds_nil)), ?_⟩
        obtain ⟨e1, ok1⟩ := ok.put
        refine sd_putK 5 (kvd := kvs.map kvI) (i := ((1 + (a.n.ins.length + i) : Nat) : Int)) (j := (gv (1 + (a.n.ins.length + i)) : Nat)) hun rfl (px_if (d := decide (b.2 = 1)) ?_ (fun h => ?_) (fun h => ?_)) ?_ (by rw [List.length_map, ok.len]; omega) ?_
        · exact pt_eqN (px_v 7) pn_1
        · refine px_eq (px_v 2) ?_
          rw [ev, if_pos (of_decide_eq_true h)]
        · refine px_eq pn_0 ?_
          rw [ev, if_neg (of_decide_eq_false h)]
        · refine px_eq (pn_add (px_call Fr a.n True.intro (pxs_cons (px_v 0) pxs_nil) (fun y e => e)) (px_v 6)) ?_
          rw [eb1]
          show nD _ = nD _
          congr 1
          unfold Net.freg
          omega
        · refine sd_end [6, 7] ⟨_, ok1, ?_⟩
          rw [← e1]
          rfl
      · subst e
        have hlen : ((List.range a.s.length).zip a.s).length = a.s.length := by rw [List.length_zip, List.length_range, Nat.min_self]
        rw [hlen] at ok
        refine sd_keepK 5 (kvs := kvs) rfl ?_
        refine sd_retD (px_call Nm ⟨a.n, kvs, gv, fullN a.n.ins.length⟩ ⟨fn, fun i => ?_⟩ (pxs_cons (px_v 0) (pxs_cons (px_v 5) (pxs_cons (px_v 2) pxs_nil))) (fun y e => e)) ?_
        · show (valV (kvs.map kvI) (Sum.inl (i : Int))).getD (V.int 0) = V.int (gv i : Nat)
          rw [ok.val]
          by_cases z : 1 ≤ i ∧ i ≤ a.n.ins.length + a.s.length
          · rw [if_pos z]
            rfl
          · rw [if_neg z, ← hgv]
            unfold gvN
            by_cases z0 : i = 0
            · rw [if_pos z0]
              rfl
            · rw [if_neg z0, if_neg (by omega), List.getD_eq_getElem?_getD, List.getElem?_eq_none (by omega)]
              rfl
        · show _ = PyData.list _
          unfold masksN
          rw [hgv]
end
end Bf
set_option Elab.async false
set_option linter.all false
set_option maxRecDepth 100000
set_option maxHeartbeats 4000000
namespace Bf
open PySem PySem.Spec PyProof.Rows L2
def behM (n : Net) (s : List Nat) : List (List Nat) := (List.range (2 ^ n.ins.length)).map fun b => (nextM n s).map fun m => bitN m b
theorem masksN_len (n : Net) (s : List Nat) : (masksN n s).length = n.size := masksU_len (Nat.le_refl _)
structure BmA where
  n : Net
  s : List Nat
section
variable {P : Program} {w : World} {K : PySem.W.Frag} {mg : Str → Option Value} {base : Heap}
abbrev spBm : Sp := spP (ι := MfA) (fun a => [netD a.n, tupD a.s]) MfA.pre (fun a y => y = .tuple [.list ((shownM a.n a.s).map nD), .list ((behM a.n a.s).map tupD)])
theorem ok_all_beats (F : Has K mg "all_beats" S_all_beats) (B : Blt mg) (Fu : Cal P w K mg base 1 "full" P_full spFull) (Mf : Cal P w K mg base 3 "masks_from" P_masks_from spMf) (Mk : Cal P w K mg base 1 "mask_of" P_mask_of spMask) (Sh : Cal P w K mg base 1 "shown_of" P_shown_of spShown) : Cal P w K mg base 4 "all_beats" P_all_beats spBm :=
  fnP F sc_all_beats (fun _ => rfl) (fun _ _ _ _ _ _ us hl => match us, hl with | [_, _], _ => rfl) fun f cdv A outer s H E hr a hp => by
    have nd := sc_all_beats.nd
    have hp' := hp
    obtain ⟨fn, hs, hk⟩ := hp
    have b2 := fn.regs
    have b3 := fn.outs
    have b4 := fn.clms
    have p64 : 2 ^ a.n.ins.length ≤ 64 := Nat.pow_le_pow_right (n := 2) (by decide) hk
    have ml := masksN_len a.n a.s
    refine sd_set 2 nd (px_call Fu a.n.ins.length hk (pxs_cons (px_eq (pn_lenT rfl B.len b_len (px_ixT (px_v 0) px_int rfl)) (by rw [List.length_map])) pxs_nil) (fun y e => e)) ?_
    refine sd_set 3 nd (px_call Mf a hp' (pxs_cons (px_v 0) (pxs_cons (px_v 1) (pxs_cons (px_v 2) pxs_nil))) (fun y e => e)) ?_
    have lt : ∀ l ∈ a.n.shown, l / 2 < (masksN a.n a.s).length := fun l m => by
      rw [ml]
      unfold Net.shown at m
      rcases List.mem_append.mp m with m | m
      · obtain ⟨o, mo, rfl⟩ := List.mem_map.mp m
        have := fn.ol o mo
        omega
      · obtain ⟨o, mo, rfl⟩ := List.mem_map.mp m
        have := fn.cl o mo
        omega
    refine sd_setLc 5 (own := [("literal", 4)]) (l := a.n.shown) (g := nD) (f := fun l => nD (maskN (masksN a.n a.s) l (fullN a.n.ins.length))) rfl nd rfl rfl (blkOk_by (N := N_all_beats) (sc := defScope S_all_beats) (by decide +kernel)) (piw_L (px_call Sh a.n fn (pxs_cons (px_v 0) pxs_nil) (fun y e => e)))
      (by unfold Net.shown; rw [List.length_append, List.length_map, List.length_map]; omega) (fun x _ s H C cl fp => gd_n 4 nd)
      (fun x m s H C cl fp => px_call Mk ⟨masksN a.n a.s, x, fullN a.n.ins.length⟩ (lt x m) (pxs_cons (px_v 3) (pxs_cons (px_v 4) (pxs_cons (px_v 2) pxs_nil))) (fun y e => e)) ?_
    refine sd_setLc 7 (own := [("row", 6)]) (l := a.n.regs) (g := regD) (f := fun r => nD (maskN (masksN a.n a.s) r.nx (fullN a.n.ins.length))) rfl nd rfl rfl (blkOk_by (N := N_all_beats) (sc := defScope S_all_beats) (by decide +kernel)) (piw_T (px_ixT (px_v 0) px_int rfl))
      (by omega) (fun x _ s H C cl fp => gd_n 6 nd)
      (fun x m s H C cl fp => px_call Mk ⟨masksN a.n a.s, x.nx, fullN a.n.ins.length⟩ (by show x.nx / 2 < (masksN a.n a.s).length; have := (fn.rl x m).2; omega) (pxs_cons (px_v 3) (pxs_cons (px_ixT (px_v 6) px_int rfl) (pxs_cons (px_v 2) pxs_nil))) (fun y e => e)) ?_
    have e5 : (a.n.shown.map fun l => nD (maskN (masksN a.n a.s) l (fullN a.n.ins.length))) = (shownM a.n a.s).map nD := by
      unfold shownM
      rw [List.map_map]
      rfl
    have e7 : (a.n.regs.map fun r => nD (maskN (masksN a.n a.s) r.nx (fullN a.n.ins.length))) = (nextM a.n a.s).map nD := by
      unfold nextM
      rw [List.map_map]
      rfl
    rw [e5, e7]
    have nl : (nextM a.n a.s).length ≤ 100 := by
      unfold nextM
      rw [List.length_map]
      exact b2
    refine sd_new 8 nd (pf_lst pxs_nil) ?_
    refine sd_for (l := List.range (2 ^ a.n.ins.length)) (g := nD)
      (fun i ρ => ρ = [some (.d (netD a.n)), some (.d (tupD a.s)), some (.d (nD (fullN a.n.ins.length))), some (.d (.list ((masksN a.n a.s).map nD))), none, some (.d (.list ((shownM a.n a.s).map nD))), none, some (.d (.list ((nextM a.n a.s).map nD))), some (.o true (oL (((List.range (2 ^ a.n.ins.length)).take i).map fun b => tupD ((nextM a.n a.s).map fun m => bitN m b)))), none, none])
      (fun _ _ => False) rfl PassesOwn.never (pw_r rfl B.range (pn_shl pn_1 (pn_lenT rfl B.len b_len (px_ixT (px_v 0) px_int rfl)) (by decide) (by rw [List.length_map]; omega)) (by rw [Nat.one_mul, List.length_map]) (by omega)) rfl (fun i b ρ' hb e => ?_) (fun ρ' e => ?_) (fun _ _ z => z.elim)
    · subst e
      have hi : i < 2 ^ a.n.ins.length := by
        have := (List.getElem?_eq_some_iff.mp hb).1
        rwa [List.length_range] at this
      refine ⟨[9], _, gd_n 9 nd, ?_⟩
      refine sd_app 8 rfl (px_eq (px_tupL rfl B.tuple b_tuple (px_lc (own := [("mask", 10)]) (l := nextM a.n a.s) (g := nD) (f := fun m => nD (bitN m b)) rfl nd (blkOk_by (N := N_all_beats) (sc := defScope S_all_beats) (by decide +kernel)) (piw_L (px_v 7)) (by omega) (fun x _ s H C cl fp => gd_n 10 nd)
        (fun x _ s H C cl fp => px_eq (pn_and (pn_shr (px_v 10) (px_v 9)) pn_1) (by rw [Nat.and_one_is_mod]; rfl)))) (y := tupD ((nextM a.n a.s).map fun m => bitN m b)) (by
          unfold tupD
          rw [List.map_map]
          rfl)) (by rw [List.length_map, List.length_take, List.length_range]; omega) (sd_end [9] ?_)
      show _ = _
      have hbi : b = i := by
        have := (List.getElem?_eq_some_iff.mp hb).2
        simpa using this.symm
      subst hbi
      rw [List.take_succ, List.map_append, List.getElem?_range hi]
      rfl
    · subst e
      refine sd_keep 8 rfl (sd_retD (px_tup (pxs_cons (px_v 5) (pxs_cons (px_v 8) pxs_nil))) ?_)
      show _ = PyData.tuple _
      rw [List.length_range, List.take_of_length_le (by rw [List.length_range]; exact Nat.le_refl _)]
      unfold behM
      rw [List.map_map]
      rfl
end
end Bf
set_option Elab.async false
set_option linter.all false
set_option maxRecDepth 100000
set_option maxHeartbeats 4000000
namespace Bf
open PySem
theorem zip_no_len : typeLookup (.type "zip") "__len__" = pure none := by rw [typeLookup_type, builtinLookup_eq_fast]; kernel_rfl
theorem zip_no_hint : typeLookup (.type "zip") "__length_hint__" = pure none := by rw [typeLookup_type, builtinLookup_eq_fast]; kernel_rfl
theorem ad {a b : Nat} (h : a < b ∨ b < a) : a ≠ b := by omega
/-- list(zip(..)) under way: so many new pairs at Ts are in the list at S; B: the heap ahead -/
structure LZ (B h : Heap) (N l1 l2 : Nat) (xs ys : Array Value) (Ts : List Nat) : Prop where
  zs : (Ts = [] ∧ IsZip h (N + 4) (N + 2) (N + 3) .none ∧ ∃ a b, IsPair h (N + 3) a b) ∨ ∃ T f, T ∈ Ts ∧ IsZipHeld h (N + 4) (N + 2) (N + 3) T f
  ti : IsPair h (N + 2) (.ref N) (.ref (N + 1))
  i1 : h.IsListIter N l1 Ts.length
  i2 : h.IsListIter (N + 1) l2 Ts.length
  a1 : h.IsList l1 xs
  a2 : h.IsList l2 ys
  so : ∃ c, h.get? (N + 5) = some { cls := .type "list", dict := none, data := .seq (Ts.map Value.ref).toArray c, slots := #[] }
  pr : ∀ (j : Nat) (T : Nat), Ts[j]? = some T → ∃ x y, xs[j]? = some x ∧ ys[j]? = some y ∧ IsPair h T x y
  rg : ∀ T ∈ Ts, N + 6 ≤ T ∧ T < h.objs.size
  nd : Ts.Nodup
  kp : ∀ (b : Nat) o, B.get? b = some o → h.get? b = some o
  sz : N + 6 ≤ h.objs.size
theorem mem_rg {h : Heap} {T : Nat} {x y : Value} (e : IsPair h T x y) : T < h.objs.size := Heap.lt_size e
theorem apart {N l1 l2 : Nat} (h1 : l1 < N) (h2 : l2 < N) : ZipApart (N + 4) (N + 2) (N + 3) N (N + 1) l1 l2 := PySem.W.ktu_apart N l1 l2 h1 h2
section
variable {prog : Program} {w : World} {A : Around} {E : Value → Shared → Prop}
/-- one more pair -/
theorem LZ.more {B h h' : Heap} {N l1 l2 : Nat} {xs ys : Array Value} {Ts : List Nat} {x y : Value} {f : Bool} {T0 : Nat} (hT0 : T0 ∈ Ts ++ [h.objs.size]) (hB : B.objs.size ≤ N) (b1 : l1 < N) (b2 : l2 < N) (L : LZ B h N l1 l2 xs ys Ts) (hx : xs[Ts.length]? = some x) (hy : ys[Ts.length]? = some y)
    (z : IsZipHeld h' (N + 4) (N + 2) (N + 3) T0 f) (h1 : h'.IsListIter N l1 (Ts.length + 1)) (h2 : h'.IsListIter (N + 1) l2 (Ts.length + 1)) (hT : IsPair h' h.objs.size x y) (hs : h'.objs.size = h.objs.size + 1)
    (hk : ∀ (c : Nat) o, c ≠ N + 4 → c ≠ N + 3 → c ≠ N → c ≠ N + 1 → h.get? c = some o → h'.get? c = some o) :
    ∃ c, h'.get? (N + 5) = some { cls := .type "list", dict := none, data := .seq (Ts.map Value.ref).toArray c, slots := #[] } ∧
      LZ B (h'.update (N + 5) (Obj.mapSeq (·.push (.ref h.objs.size)))) N l1 l2 xs ys (Ts ++ [h.objs.size]) := by
  obtain ⟨c, hS⟩ := L.so
  have sz := L.sz
  have hS' : h'.get? (N + 5) = some { cls := .type "list", dict := none, data := .seq (Ts.map Value.ref).toArray c, slots := #[] } := hk _ _ (ad (by omega)) (ad (by omega)) (ad (by omega)) (ad (by omega)) hS
  have oth : ∀ (b : Nat) o, b ≠ N + 5 → h'.get? b = some o → (h'.update (N + 5) (Obj.mapSeq (·.push (.ref h.objs.size)))).get? b = some o := fun b o hb e => (Heap.get?_update_other _ _ (Ne.symm hb)).trans e
  have hS2 := Heap.get?_update_self (Obj.mapSeq (·.push (Value.ref h.objs.size))) hS' rfl
  have hz : (h'.update (N + 5) (Obj.mapSeq (·.push (.ref h.objs.size)))).get? (N + 4) = _ := oth (N + 4) _ (ad (by omega)) z
  have hti : (h'.update (N + 5) (Obj.mapSeq (·.push (.ref h.objs.size)))).get? (N + 2) = _ := oth (N + 2) _ (ad (by omega)) (hk (N + 2) _ (ad (by omega)) (ad (by omega)) (ad (by omega)) (ad (by omega)) L.ti)
  refine ⟨c, hS', ⟨.inr ⟨T0, f, hT0, hz⟩, hti, ?_, ?_, ?_, ?_, ?_, fun j T e => ?_, fun T m => ?_, ?_, fun b o e => ?_, ?_⟩⟩
  · rw [List.length_append]
    exact h1.at fun o e => oth _ o (ad (by omega)) e
  · rw [List.length_append]
    exact h2.at fun o e => oth _ o (ad (by omega)) e
  · exact L.a1.at fun o e => oth _ o (ad (by omega)) (hk _ o (ad (by omega)) (ad (by omega)) (ad (by omega)) (ad (by omega)) e)
  · exact L.a2.at fun o e => oth _ o (ad (by omega)) (hk _ o (ad (by omega)) (ad (by omega)) (ad (by omega)) (ad (by omega)) e)
  · have e : (Ts ++ [h.objs.size]).map Value.ref = Ts.map Value.ref ++ [Value.ref h.objs.size] := List.map_append ..
    rw [e, ← List.push_toArray]
    exact ⟨_, hS2⟩
  · by_cases lt : j < Ts.length
    · rw [List.getElem?_append_left lt] at e
      obtain ⟨x', y', e1, e2, e3⟩ := L.pr j T e
      have m := List.mem_of_getElem? e
      have := L.rg T m
      exact ⟨x', y', e1, e2, oth _ _ (ad (by omega)) (hk _ _ (ad (by omega)) (ad (by omega)) (ad (by omega)) (ad (by omega)) e3)⟩
    · rw [List.getElem?_append_right (by omega)] at e
      have ej : j - Ts.length = 0 := by
        cases q : j - Ts.length with
        | zero => rfl
        | succ n =>
          rw [q] at e
          simp at e
      rw [ej] at e
      have eT : h.objs.size = T := Option.some.inj e
      have ej' : j = Ts.length := by omega
      subst eT
      rw [ej']
      exact ⟨x, y, hx, hy, oth _ _ (ad (by omega)) hT⟩
  · rw [Heap.size_update, hs]
    rcases List.mem_append.mp m with m | m
    · have := L.rg T m
      omega
    · rw [List.mem_singleton.mp m]
      omega
  · refine List.nodup_append.mpr ⟨L.nd, by simp, fun a ma b mb z => ?_⟩
    have e := List.mem_singleton.mp mb
    have := L.rg a ma
    omega
  · have q : ∀ m : Nat, N ≤ m → b ≠ m := fun m hm z => by
      have h1 : (show Nat from b) < B.objs.size := Heap.lt_size e
      have h2 : (show Nat from b) = m := z
      omega
    exact oth b o (q _ (Nat.le_add_right _ _)) (hk b o (q _ (Nat.le_add_right _ _)) (q _ (Nat.le_add_right _ _)) (q _ (Nat.le_refl _)) (q _ (Nat.le_add_right _ _)) (L.kp b o e))
  · rw [Heap.size_update, hs]
    omega
/-- the end of it -/
structure LE (B h : Heap) (N : Nat) (xs ys : Array Value) (Ts : List Nat) : Prop where
  so : ∃ c, h.get? (N + 5) = some { cls := .type "list", dict := none, data := .seq (Ts.map Value.ref).toArray c, slots := #[] }
  pr : ∀ (j : Nat) (T : Nat), Ts[j]? = some T → ∃ x y, xs[j]? = some x ∧ ys[j]? = some y ∧ IsPair h T x y
  rg : ∀ T ∈ Ts, N + 6 ≤ T
  nd : Ts.Nodup
  kp : ∀ (b : Nat) o, B.get? b = some o → h.get? b = some o
  ln : Ts.length = min xs.size ys.size
theorem LZ.fin {B h h' : Heap} {N l1 l2 : Nat} {xs ys : Array Value} {Ts : List Nat} (hB : B.objs.size ≤ N) (L : LZ B h N l1 l2 xs ys Ts) (e : Ts.length = min xs.size ys.size) (hk : ∀ (c : Nat) o, c ≠ N + 4 → c ≠ N + 3 → c ≠ N → c ≠ N + 1 → h.get? c = some o → h'.get? c = some o) : LE B h' N xs ys Ts := by
  refine ⟨?_, fun j T q => ?_, fun T m => (L.rg T m).1, L.nd, fun b o q => ?_, e⟩
  · obtain ⟨c, hc⟩ := L.so
    exact ⟨c, hk _ _ (ad (by omega)) (ad (by omega)) (ad (by omega)) (ad (by omega)) hc⟩
  · obtain ⟨x', y', e1, e2, e3⟩ := L.pr j T q
    have := L.rg T (List.mem_of_getElem? q)
    exact ⟨x', y', e1, e2, hk _ _ (ad (by omega)) (ad (by omega)) (ad (by omega)) (ad (by omega)) e3⟩
  · have w : ∀ m : Nat, N ≤ m → b ≠ m := fun m hm z => by
      have h1 : (show Nat from b) < B.objs.size := Heap.lt_size q
      have h2 : (show Nat from b) = m := z
      omega
    exact hk b o (w _ (Nat.le_add_right _ _)) (w _ (Nat.le_add_right _ _)) (w _ (Nat.le_refl _)) (w _ (Nat.le_add_right _ _)) (L.kp b o q)
theorem ext_zip {R : Result → Shared → Prop} {B : Heap} {N l1 l2 : Nat} {xs ys : Array Value} {res : Value} (hh : A.handled = none) (hB : B.objs.size ≤ N) (b1 : l1 < N) (b2 : l2 < N) (hn : min xs.size ys.size ≤ sizeLine) :
    ∀ (k : Nat) (s : Shared) (Ts : List Nat), min xs.size ys.size - Ts.length = k → Ts.length ≤ min xs.size ys.size → LZ B s.heap N l1 l2 xs ys Ts →
      (∀ h' Ts', LE B h' N xs ys Ts' → R (.ok (.ret res)) { s with heap := h' }) →
      codeAny (model prog w) A (.builtin "list.extend.loop" ⟨[.ref (N + 5), .ref (N + 4), res], []⟩) R s := by
  have D := apart b1 b2
  intro k
  induction k with
  | zero =>
    intro s Ts hk hle L hR
    have hend : xs[Ts.length]? = none ∨ ys[Ts.length]? = none := by
      rcases Nat.le_total xs.size ys.size with h | h
      · exact .inl (Array.getElem?_eq_none (by omega))
      · exact .inr (Array.getElem?_eq_none (by omega))
    have fin : ∀ h', (∀ (c : Nat) o, c ≠ N + 4 → c ≠ N + 3 → c ≠ N → c ≠ N + 1 → s.heap.get? c = some o → h'.get? c = some o) → R (.ok (.ret res)) { s with heap := h' } := fun h' hk' =>
      hR h' Ts (L.fin hB (by omega) hk')
    refine codeAny_builtin F.entry_extend_loop ?_
    rw [Around.under_plainId F.plain_extend_loop _]
    show wpAny _ A.in1 (pyNext (.ref (N + 4)) >>= _) _ _ s
    refine wpAny_bind ?_
    rcases L.zs with ⟨e, z, a, b, to⟩ | ⟨T, f, m, z⟩
    · exact wpAny_pyNext_zip_end hh D z L.ti to L.i1 L.i2 L.a1 L.a2 hend fun h' hk' => wpAny_pure (fin h' hk')
    · obtain ⟨j, hj⟩ := List.getElem?_of_mem m
      obtain ⟨x, y, _, _, hT⟩ := L.pr j T hj
      exact wpAny_pyNext_zip_end_held hh D z hT L.ti L.i1 L.i2 L.a1 L.a2 hend fun h' hk' => wpAny_pure (fin h' fun c o c1 c2 c3 c4 e => hk' c o c1 c3 c4 e)
  | succ k ih =>
    intro s Ts hk hle L hR
    have lx : Ts.length < xs.size := by omega
    have ly : Ts.length < ys.size := by omega
    have hx : xs[Ts.length]? = some xs[Ts.length] := Array.getElem?_eq_getElem lx
    have hy : ys[Ts.length]? = some ys[Ts.length] := Array.getElem?_eq_getElem ly
    refine codeAny_builtin F.entry_extend_loop ?_
    rw [Around.under_plainId F.plain_extend_loop _]
    show wpAny _ A.in1 (pyNext (.ref (N + 4)) >>= _) _ _ s
    have step : ∀ (h' : Heap) (f : Bool) (T0 : Nat), T0 ∈ Ts ++ [s.heap.objs.size] → IsZipHeld h' (N + 4) (N + 2) (N + 3) T0 f → h'.IsListIter N l1 (Ts.length + 1) → h'.IsListIter (N + 1) l2 (Ts.length + 1) → IsPair h' s.heap.objs.size xs[Ts.length] ys[Ts.length] → h'.objs.size = s.heap.objs.size + 1 →
        (∀ (c : Nat) o, c ≠ N + 4 → c ≠ N + 3 → c ≠ N → c ≠ N + 1 → s.heap.get? c = some o → h'.get? c = some o) →
        wpAny (model prog w) A.in1 (updateSeq (N + 5) (·.push (.ref s.heap.objs.size)) >>= fun _ => again (.builtin "list.extend.loop" ⟨[.ref (N + 5), .ref (N + 4), res], []⟩))
          (fun fin s' => match fin with | .done f => R (.ok f) s' | .again c' => c'.quiet = true ∧ codeAny (model prog w) A c' R s') (fun e s' => R (.error e) s') { s with heap := h' } := fun h' f T0 mT z g1 g2 hT hs hk' => by
      obtain ⟨c, hS', L'⟩ := L.more mT hB b1 b2 hx hy z g1 g2 hT hs hk'
      refine wpAny_bind ?_
      refine wpAny_updateSeq hS' rfl (wpAny_pure ⟨plainId_quiet F.plain_extend_loop _, ih _ (Ts ++ [s.heap.objs.size]) (by rw [List.length_append]; show _ - (_ + 1) = _; omega) (by rw [List.length_append]; show _ + 1 ≤ _; omega) L' fun h'' Ts' q => ?_⟩)
        (by show (Ts.map Value.ref).toArray.size ≤ _; rw [List.size_toArray, List.length_map]; omega) (by show ((Ts.map Value.ref).toArray.push _).size ≤ sizeLine + 1; rw [Array.size_push, List.size_toArray, List.length_map]; omega)
      exact hR h'' Ts' q
    refine wpAny_bind ?_
    rcases L.zs with ⟨e, z, a, b, to⟩ | ⟨T, f, m, z⟩
    · exact wpAny_pyNext_zip_item D z L.ti to L.i1 L.i2 L.a1 L.a2 hx hy fun h' q1 q2 q3 q4 q5 q6 hk' => step h' false _ (List.mem_append_right _ List.mem_cons_self) q1 q3 q4 q5 q6 hk'
    · obtain ⟨j, hj⟩ := List.getElem?_of_mem m
      obtain ⟨x, y, _, _, hT⟩ := L.pr j T hj
      exact wpAny_pyNext_zip_item_held D z hT L.ti L.i1 L.i2 L.a1 L.a2 hx hy fun h' q1 q3 q4 q5 q6 hk' => step h' true T (List.mem_append_left _ m) q1 q3 q4 q5 q6 fun c o c1 c2 c3 c4 e => hk' c o c1 c3 c4 e
theorem list_init_zip {R : Result → Shared → Prop} {B : Heap} {N l1 l2 : Nat} {xs ys : Array Value} {s : Shared} (hh : A.handled = none) (hB : B.objs.size ≤ N) (b1 : l1 < N) (b2 : l2 < N) (hn : min xs.size ys.size ≤ sizeLine) (L : LZ B s.heap N l1 l2 xs ys [])
    (hR : ∀ h' Ts', LE B h' N xs ys Ts' → R (.ok (.ret .none)) { s with heap := h' }) :
    wpAny (model prog w) A.in1 (Builtin.«list.__init__» ⟨[.ref (N + 5), .ref (N + 4)], []⟩)
      (fun fin s' => match fin with | .done f => R (.ok f) s' | .again c' => c'.quiet = true ∧ codeAny (model prog w) A c' R s') (fun e s' => R (.error e) s') s := by
  obtain ⟨c, hS⟩ := L.so
  have hS0 : s.heap.get? (N + 5) = some { cls := .type "list", dict := none, data := .seq #[] c, slots := #[] } := hS
  obtain ⟨z, tb⟩ : IsZip s.heap (N + 4) (N + 2) (N + 3) .none ∧ ∃ a b, IsPair s.heap (N + 3) a b := by
    rcases L.zs with ⟨_, z, t⟩ | ⟨T, f, m, _⟩
    · exact ⟨z, t⟩
    · cases m
  have hT : ∀ h', (∀ (b : Nat) o, b ≠ N + 5 → s.heap.get? b = some o → h'.get? b = some o) → IsZip h' (N + 4) (N + 2) (N + 3) .none := fun h' k => k (N + 4) _ (ad (by omega)) z
  show wpAny _ A.in1 (do let old ← Builtin.List.listItems (.ref (N + 5)); Builtin.List.listUpdate (.ref (N + 5)) (fun _ => #[]); letGo old.toList.reverse; Builtin.List.listExtendWith (.ref (N + 5)) (.ref (N + 4)) .none) _ _ s
  refine wpAny_bind ?_
  unfold Builtin.List.listItems
  refine wpAny_bind (wpAny_seqItems hS0 rfl (wpAny_pure ?_))
  show wpAny _ A.in1 (updateSeq (N + 5) (fun _ => #[]) >>= fun _ => letGo (#[] : Array Value).toList.reverse >>= fun _ => Builtin.List.listExtendWith (.ref (N + 5)) (.ref (N + 4)) .none) _ _ s
  refine wpAny_bind (wpAny_updateSeq hS0 rfl ?_)
  have hS₂ := Heap.get?_update_self (Obj.mapSeq (fun _ => (#[] : Array Value))) hS0 rfl
  refine wpAny_bind (wpAny_letGo ?_)
  have oth : ∀ (b : Nat) o, b ≠ N + 5 → s.heap.get? b = some o → (s.heap.update (N + 5) (Obj.mapSeq (fun _ => (#[] : Array Value)))).get? b = some o := fun b o hb e => (Heap.get?_update_other _ _ (Ne.symm hb)).trans e
  generalize hh1 : s.heap.update (N + 5) (Obj.mapSeq (fun _ => (#[] : Array Value))) = h1 at hS₂ oth
  have sz1 : h1.objs.size = s.heap.objs.size := by rw [← hh1, Heap.size_update]
  have z1 := hT h1 oth
  unfold Builtin.List.listExtendWith
  refine wpAny_bind (wpAny_typeOf (s := { s with heap := h1 }) ⟨_, z1, rfl⟩ ?_)
  have q1 : Builtin.List.listSameRef (.ref (N + 5)) (.ref (N + 4)) = false := by simp [Builtin.List.listSameRef]
  have q2 : (Value.type "zip" == Value.type "list") = false := by decide
  have q3 : (Value.type "zip" == Value.type "tuple") = false := by decide
  simp only [q1, q2, q3, Bool.or_false, Bool.false_eq_true, if_false]
  refine wpAny_bind (wpAny_pyIter_zip (s := { s with heap := h1 }) z1 ?_)
  refine wpAny_bind (wpAny_holding ?_)
  unfold Builtin.List.listLengthHint
  refine wpAny_bind (wpAny_specialOf (s := { s with heap := h1 }) ⟨_, z1, rfl⟩ zip_no_len ?_)
  show wpAny _ A.in1 (specialOf (Value.ref (N + 4)) (Str.ofString "__length_hint__") >>= _) _ _ _
  refine wpAny_bind (wpAny_specialOf (s := { s with heap := h1 }) ⟨_, z1, rfl⟩ zip_no_hint ?_)
  refine wpAny_pure ?_
  show wpAny _ A.in1 (rule "list.extend.makes-room" >>= fun _ => Builtin.List.listTouch (.ref (N + 5)) >>= fun _ =>
    again (.builtin "list.extend.loop" ⟨[.ref (N + 5), .ref (N + 4), .none], []⟩)) _ _ _
  refine wpAny_bind (wpAny_rule ?_)
  refine wpAny_bind ?_
  show wpAny _ A.in1 (updateSeq (N + 5) (·.push .none) >>= fun _ => updateSeq (N + 5) (·.pop)) _ _ _
  refine wpAny_bind (wpAny_updateSeq hS₂ rfl ?_)
  have hS₃ := Heap.get?_update_self (Obj.mapSeq (·.push Value.none)) hS₂ rfl
  refine wpAny_updateSeq (hz := by seq_fits) hS₃ rfl ?_
  have hS₄ := Heap.get?_update_self (Obj.mapSeq (·.pop)) hS₃ rfl
  have oth2 : ∀ (b : Nat) o, b ≠ N + 5 → s.heap.get? b = some o → ((h1.update (N + 5) (Obj.mapSeq (·.push Value.none))).update (N + 5) (Obj.mapSeq (·.pop))).get? b = some o :=
    fun b o hb e => (Heap.get?_update_other _ _ (Ne.symm hb)).trans ((Heap.get?_update_other _ _ (Ne.symm hb)).trans (oth b o hb e))
  have sz2 : ((h1.update (N + 5) (Obj.mapSeq (·.push Value.none))).update (N + 5) (Obj.mapSeq (·.pop))).objs.size = s.heap.objs.size := by rw [Heap.size_update, Heap.size_update, sz1]
  generalize (h1.update (N + 5) (Obj.mapSeq (·.push Value.none))).update (N + 5) (Obj.mapSeq (·.pop)) = h2 at hS₄ oth2 sz2
  refine wpAny_pure ⟨plainId_quiet F.plain_extend_loop _, ext_zip hh hB b1 b2 hn _ { s with heap := h2 } [] rfl (Nat.zero_le _) ?_ fun h' Ts' q => hR h' Ts' q⟩
  obtain ⟨a, b, tb⟩ := tb
  refine ⟨.inl ⟨rfl, oth2 _ _ (ad (by omega)) z, a, b, oth2 _ _ (ad (by omega)) tb⟩, oth2 _ _ (ad (by omega)) L.ti, L.i1.at fun o e => oth2 _ o (ad (by omega)) e, L.i2.at fun o e => oth2 _ o (ad (by omega)) e, L.a1.at fun o e => oth2 _ o (ad (by omega)) e, L.a2.at fun o e => oth2 _ o (ad (by omega)) e, ⟨_, hS₄⟩, fun j T e => by simp at e, fun T m => (nomatch m), List.nodup_nil, fun b o e => ?_, ?_⟩
  · have w : b ≠ N + 5 := fun z => by
      have h1 : (show Nat from b) < B.objs.size := Heap.lt_size e
      have h2 : (show Nat from b) = N + 5 := z
      omega
    exact oth2 b o w (L.kp b o e)
  · show N + 6 ≤ h2.objs.size
    rw [sz2]
    exact L.sz
/-- list(zip(a, b)), the zip just made -/
theorem call_list_zip {B h : Heap} {g : Array GenState} {dr : Drawn} {tk : Nat} {os : OsState} {l1 l2 : Nat} {xs ys : Array Value} {Q : Value → Shared → Prop} (hh : A.handled = none) (b1 : l1 < B.objs.size) (b2 : l2 < B.objs.size) (hn : min xs.size ys.size ≤ sizeLine)
    (z : IsZip h (B.objs.size + 4) (B.objs.size + 2) (B.objs.size + 3) .none) (ti : IsPair h (B.objs.size + 2) (.ref B.objs.size) (.ref (B.objs.size + 1))) (to : IsPair h (B.objs.size + 3) .none .none) (i1 : h.IsListIter B.objs.size l1 0) (i2 : h.IsListIter (B.objs.size + 1) l2 0)
    (hs : h.objs.size = B.objs.size + 5) (hk : ∀ (c : Nat) o, B.get? c = some o → h.get? c = some o) (a1 : B.IsList l1 xs) (a2 : B.IsList l2 ys)
    (hQ : ∀ h' Ts', LE B h' B.objs.size xs ys Ts' → Q (.ref (B.objs.size + 5)) ⟨h', g, dr, tk, os⟩) :
    wpAny (model prog w) A (call (.type "list") [.ref (B.objs.size + 4)]) Q E ⟨h, g, dr, tk, os⟩ := by
  refine callType_codes (Q₁ := fun obj s₁ => obj = .ref (B.objs.size + 5) ∧ s₁ = ⟨h.push { cls := .type "list", data := .seq #[] }, g, dr, tk, os⟩) F.called_list (F.typeCall_list_1 _) F.entry_list_init
    (code_list_new _ ⟨by show Value.ref h.objs.size = _; rw [hs], rfl⟩) fun obj s₁ h₁ => ?_
  obtain ⟨rfl, rfl⟩ := h₁
  have hS : (h.push { cls := .type "list", data := .seq #[] }).get? (B.objs.size + 5) = some { cls := .type "list", data := .seq #[] } := by
    rw [← hs]
    exact Heap.get?_push_size _ rfl
  have k : ∀ (b : Nat) o, h.get? b = some o → (h.push { cls := .type "list", data := .seq #[] }).get? b = some o := fun b o e => Heap.get?_push_of_some _ e
  refine ⟨⟨_, hS, rfl⟩, F.args_list_init_2 _ _, list_init_zip hh (Nat.le_refl _) b1 b2 hn ?_ fun h' Ts' q => ⟨rfl, hQ h' Ts' q⟩⟩
  exact ⟨.inl ⟨rfl, k _ _ z, .none, .none, k _ _ to⟩, k _ _ ti, i1.at fun o e => k _ o e, i2.at fun o e => k _ o e, (a1.at fun o e => k _ o (hk _ o e)), (a2.at fun o e => k _ o (hk _ o e)), ⟨_, hS⟩, fun j T e => by simp at e, fun T m => (nomatch m), List.nodup_nil, fun b o e => k b o (hk b o e), by rw [Heap.size_push, hs]; exact Nat.le_refl _⟩
end
end Bf
set_option Elab.async false
set_option linter.all false
set_option maxRecDepth 100000
set_option maxHeartbeats 4000000
namespace Bf
open PySem PySem.Spec PyProof.Rows L2
section
variable {X : Cx} {pins : List (Addr × Obj)} {σ : L2.St} {H : Hp} {s : Shared}
/-- an object of ours that nobody knew is known from now on -/
theorem Inv.track {a : Addr} {o : HO} (I : Inv X pins σ H s) (hf : FpOk X pins H a) (new : ObjOk X.prog X.w (upd H a o) s.heap a o) : Inv X pins σ (upd H a o) s := by
  have hn := hf.1
  have nn : ∀ b u, H b = some u → b ≠ a := fun b u e => ne_of_none e hn
  have hok : HOk X.prog X.w (upd H a o) s.heap := fun b u e => by
    by_cases hb : b = a
    · subst hb
      rw [upd_same] at e
      cases e
      exact new
    · rw [upd_ne hb] at e
      exact (I.hok b u e).stay (fun c v _ q => q) (fun c q => by rw [upd_ne (nn _ _ q)]; exact q) fun c xs q => by rw [upd_ne (nn _ _ q)]; exact q
  obtain ⟨hp, g, d, t, os⟩ := s
  refine I.step (g' := g) (t' := t) (d' := d) (h' := hp) (ch := [a]) (fun b hb => ?_) (fun b o _ _ _ e _ => e) (fun b o _ _ _ e _ => ⟨o.slots, e⟩) (fun b o hc _ n => ?_) (fun b o _ e => ⟨o, e⟩) (fun b xs e => by rw [upd_ne (nn _ _ e)]; exact e) (fun b o u e => by rw [upd_ne (nn _ _ e)]; exact e) (fun b ps e => ⟨#[], by rw [upd_ne (nn _ _ e), e]; simp⟩) (fun m hm => hm) hok I.bare
  · have e := List.mem_singleton.mp hb
    subst e
    exact ⟨hf.2.2.2.1, hf.2.1, hf.2.2.2.2.1, hf.2.2.2.2.2⟩
  · rw [upd_ne (fun z => hc (by rw [z]; exact List.mem_singleton.mpr rfl))]
    exact n
theorem track_pairs : ∀ (l : List (Nat × V × V)) (H : Hp), Inv X pins σ H s → (∀ p ∈ l, FpOk X pins H p.1) → (l.map (·.1)).Nodup → (∀ p ∈ l, ∃ u1 u2, RelV p.2.1 u1 ∧ RelV p.2.2 u2 ∧ IsPair s.heap p.1 u1 u2) →
    ∃ H', Inv X pins σ H' s ∧ Ex H H' ∧ (∀ p ∈ l, H' p.1 = some (.tup [p.2.1, p.2.2])) ∧ ∀ b, H b = none → b ∉ l.map (·.1) → H' b = none
  | [], H, I, _, _, _ => ⟨H, I, Ex.refl H, fun p m => (nomatch m), fun b n _ => n⟩
  | p :: l, H, I, hf, nd, hp => by
    rw [List.map_cons] at nd
    obtain ⟨n1, n2⟩ := List.nodup_cons.mp nd
    obtain ⟨u1, u2, r1, r2, e⟩ := hp p List.mem_cons_self
    have f1 := hf p List.mem_cons_self
    have I1 : Inv X pins σ (upd H p.1 (.tup [p.2.1, p.2.2])) s := Inv.track I f1 ⟨by show 2 ≤ sizeLine; decide, [u1, u2], .cons r1 (.cons r2 .nil), ⟨_, e, rfl, _, rfl⟩⟩
    have e1 : Ex H (upd H p.1 (.tup [p.2.1, p.2.2])) := Ex.new f1.1
    obtain ⟨H', I', ex, h1, h2⟩ := track_pairs l _ I1 (fun q m => by
      have f := hf q (List.mem_cons_of_mem _ m)
      refine ⟨?_, f.2⟩
      rw [upd_ne (fun z => n1 (by rw [← z]; exact List.mem_map.mpr ⟨q, m, rfl⟩))]
      exact f.1) n2 fun q m => hp q (List.mem_cons_of_mem _ m)
    refine ⟨H', I', e1.trans ex, fun q m => ?_, fun b n nb => ?_⟩
    · rcases List.mem_cons.mp m with rfl | m
      · exact ex _ _ upd_same
      · exact h1 q m
    · rw [List.map_cons] at nb
      refine h2 b ?_ fun z => nb (List.mem_cons_of_mem _ z)
      rw [upd_ne (fun z => nb (by rw [z]; exact List.mem_cons_self))]
      exact n
theorem vals_refs : ∀ Ts : List Nat, Vals (Ts.map V.ref) (Ts.map Value.ref)
  | [] => .nil
  | _ :: Ts => .cons rfl (vals_refs Ts)
end
section
variable {X : Cx} {e e2 : Expr} {ρ : Rho} {xs ys : List PyData} {p p2 pos pos2 : Pos}
theorem pf_listZip (hc : X.calm = true) (hgl : Gl X "list") (hml : X.mg "list" = none) (hg : Gl X "zip") (hm : X.mg "zip" = none) (h : PX X ρ true e (.list xs)) (h' : PX X ρ true e2 (.list ys))
    (he : starEach [e, e2] X.env = (false, eval e X.env) :: starEach [e2] X.env := by rfl) (he2 : starEach [e2] X.env = (false, eval e2 X.env) :: starEach [] X.env := by rfl) (hpl : (backTo pos2 (starEach [e2] X.env)).any (·.1) = false := by rfl)
    (nz : starEach [.Call (.Name "zip" p2) [e, e2] [] pos2] X.env = (false, eval (.Call (.Name "zip" p2) [e, e2] [] pos2) X.env) :: starEach [] X.env := by rfl) :
    PXF X ρ (.Call (.Name "list" p) [.Call (.Name "zip" p2) [e, e2] [] pos2] [] pos) (zipD xs ys) := by
  refine ⟨fun pins s σ H Q I h0 => ?_⟩
  obtain ⟨C, hh, q⟩ := h0
  have hA : PA X [e, e2] _ := pa_cons h (pa_cons h' pa_nil he2) he
  refine Call_ (ld_blt I hgl hml boot_list (PyProof.Rows.callWith_type1 (args_cons (Call_ (ld_blt I hg hm PyProof.Rows.boot_zip (PyProof.Rows.callWith_type1 (thn (hA.run pos2 pins s σ H
    (fun vl H1 => ∃ (a b : Addr) (vs ws : List V), vl = [.ref a, .ref b] ∧ H1 a = some (.lst vs) ∧ H1 b = some (.lst ws) ∧ IsAll (All C ρ σ) H1 xs vs ∧ IsAll (All C ρ σ) H1 ys ws ∧ Ex H H1) I
    ⟨C, hh, fun v H1 e1 ⟨a, vs, g1, g2, g3, g4⟩ => ⟨C, hh.ex e1, fun v' H1' e1' ⟨b, ws, k1, k2, k3, k4⟩ => ⟨a, b, vs, ws, by rw [g1, k1], e1' _ _ g3, k3, IsAll.ex e1' g4.ofT, k4.ofT, e1.trans e1'⟩⟩⟩) fun us s1 ⟨vl, H1, I1, r1, a, b, vs, ws, ev, ga, gb, ia, ib, ex⟩ => ?_) he hpl))) nz) nz))
  subst ev
  cases r1 with
  | cons r rr =>
    cases rr with
    | cons r' rr =>
      cases rr
      cases r
      cases r'
      obtain ⟨its, rv, p1, z1⟩ := I1.list (SqL.of (K := X.K) ga)
      obtain ⟨its2, rv2, p2, z2⟩ := I1.list (SqL.of (K := X.K) gb)
      obtain ⟨hp, g, dr, tk, os⟩ := s1
      have la : a < hp.objs.size := p1.lt
      have lb : b < hp.objs.size := p2.lt
      refine call_zip_2 p1.isList p2.isList fun hz z ti to i1 i2 hs hk => args_nil ?_
      have lv := rv.length
      have lw := rv2.length
      refine call_list_zip (B := hp) (I1.ok.hd hc) la lb (by rw [List.size_toArray, List.size_toArray]; omega) z ti to i1 i2 hs hk p1.isList p2.isList fun hf Ts L => ?_
      have I2 : L2.Inv X pins σ H1 ⟨hf, g, dr, tk, os⟩ := I1.kept (t' := tk) L.kp
      have lts : Ts.length = min vs.length ws.length := by
        rw [L.ln, List.size_toArray, List.size_toArray, lv, lw]
      have fp : ∀ c : Nat, hp.objs.size ≤ c → FpOk X pins H1 c := fun c hc => I1.fpOk hc (I1.hok.fresh hc)
      -- the pairs
      have hpr : ∀ t ∈ Ts.zip (vs.zip ws), ∃ u1 u2, RelV t.2.1 u1 ∧ RelV t.2.2 u2 ∧ IsPair hf t.1 u1 u2 := fun t m => by
        obtain ⟨j, hj⟩ := List.getElem?_of_mem m
        obtain ⟨j1, j2⟩ := List.getElem?_zip_eq_some.mp hj
        obtain ⟨j3, j4⟩ := List.getElem?_zip_eq_some.mp j2
        obtain ⟨x, y, e1, e2, e3⟩ := L.pr j t.1 j1
        obtain ⟨u, hu, ru⟩ := rv.get j3
        obtain ⟨u2, hu2, ru2⟩ := rv2.get j4
        have ex : x = u := by
          have : its.toArray[j]? = some u := by simpa using hu
          rw [this] at e1
          exact (Option.some.inj e1).symm
        have ey : y = u2 := by
          have : its2.toArray[j]? = some u2 := by simpa using hu2
          rw [this] at e2
          exact (Option.some.inj e2).symm
        subst ex ey
        exact ⟨x, y, ru, ru2, e3⟩
      have hmap : (Ts.zip (vs.zip ws)).map (·.1) = Ts := by
        rw [List.map_fst_zip]
        rw [List.length_zip, lts]
        exact Nat.le_refl _
      have memT : ∀ t ∈ Ts.zip (vs.zip ws), t.1 ∈ Ts := fun t m => by
        rw [← hmap]
        exact List.mem_map.mpr ⟨t, m, rfl⟩
      obtain ⟨H2, I3, ex2, ht, hnew⟩ := track_pairs (Ts.zip (vs.zip ws)) H1 I2 (fun t m => fp t.1 (by have := L.rg t.1 (memT t m); omega)) (by rw [hmap]; exact L.nd) hpr
      have nS : H2 (hp.objs.size + 5) = none := hnew _ (fp _ (Nat.le_add_right _ _)).1 (fun m => by
        rw [hmap] at m
        have := L.rg _ m
        omega)
      obtain ⟨c, hS⟩ := L.so
      have fS := fp (hp.objs.size + 5) (Nat.le_add_right _ _)
      have I4 := Inv.track (o := .lst (Ts.map V.ref)) I3 ⟨nS, fS.2⟩ ⟨by rw [List.length_map, lts]; omega, Ts.map Value.ref, c, vals_refs Ts, hS⟩
      refine ⟨.ref (hp.objs.size + 5), _, I4, rfl, q _ (Ts.map V.ref) _ (ex.back fS.1) ((ex.trans ex2).trans (Ex.new nS)) upd_same ?_⟩
      have eF : Ex H2 (upd H2 (hp.objs.size + 5) (.lst (Ts.map V.ref))) := Ex.new nS
      have ln1 := ia.length
      have ln2 := ib.length
      refine IsAll.of (by unfold zipD; rw [List.length_map, List.length_zip, List.length_map, lts, ln1, ln2]) fun i d v hd hv => ?_
      obtain ⟨x, y, hx, hy, rfl⟩ := zipD_get hd
      obtain ⟨v1, k1, k2⟩ := ia.get hx
      obtain ⟨w1, l1, l2⟩ := ib.get hy
      rw [List.getElem?_map] at hv
      cases hT : Ts[i]? with
      | none =>
        rw [hT] at hv
        cases hv
      | some T =>
        rw [hT] at hv
        have ev : V.ref T = v := Option.some.inj hv
        subst ev
        have mz : (T, v1, w1) ∈ Ts.zip (vs.zip ws) := List.mem_of_getElem? (i := i) (List.getElem?_zip_eq_some.mpr ⟨hT, List.getElem?_zip_eq_some.mpr ⟨k1, l1⟩⟩)
        have gT := ht _ mz
        have rT := L.rg T (List.mem_of_getElem? hT)
        have nT : H1 T = none := (fp T (by omega)).1
        have sub : ∀ {dd : PyData} {u : V}, Is (All C ρ σ) H1 dd u → Is (fun c => All C ρ σ c ∨ c = hp.objs.size + 5) (upd H2 (hp.objs.size + 5) (.lst (Ts.map V.ref))) dd u := fun {dd u} g => Is.ex eF (Is.ex ex2 (Is.weak (fun c m k => m.resolve_right fun z => k (by rw [z]; exact fS.1)) g))
        refine ⟨T, [v1, w1], rfl, ?_, eF _ _ gT, sub k2, sub l2, True.intro⟩
        rintro (m | m)
        · exact hh.allIn m (ex.back nT)
        · have m' : T = hp.objs.size + 5 := m
          omega
end
end Bf
set_option Elab.async false
set_option linter.all false
set_option maxRecDepth 100000
set_option maxHeartbeats 4000000
namespace Bf
open PySem PySem.Spec PyProof.Rows L2
def difU (l : List (Nat × Nat)) : Nat := l.foldl (fun d t => d ||| (t.1 ^^^ t.2)) 0
def difM (n o : Net) (p : Pr) : Nat := difU ((shownM n p.1).zip (shownM o p.2))
def behP (n o : Net) (p : Pr) : List Pr := (behM n p.1).zip (behM o p.2)
theorem zipD_map {α β : Type} (f : α → PyData) (g : β → PyData) (xs : List α) (ys : List β) : zipD (xs.map f) (ys.map g) = (xs.zip ys).map fun t => .tuple [f t.1, g t.2] := by
  unfold zipD
  rw [List.zip_map, List.map_map]
  rfl
theorem pw_zipL {α β : Type} {f : α → PyData} {g : β → PyData} {l : List α} {m : List β} {X : Cx} {e e2 : Expr} {ρ : Rho} {p pos tpos : Pos} {elts : List Expr} {kk : Nat} (hg : Gl X "zip") (hm : X.mg "zip" = none) (h : PX X ρ true e (.list (l.map f))) (h' : PX X ρ true e2 (.list (m.map g))) (he : starEach [e, e2] X.env = (false, eval e X.env) :: starEach [e2] X.env := by rfl) (he2 : starEach [e2] X.env = (false, eval e2 X.env) :: starEach [] X.env := by rfl) (hpl : (backTo pos (starEach [e2] X.env)).any (·.1) = false := by rfl) : PIW X (.Tuple elts kk tpos) (.Call (.Name "zip" p) [e, e2] [] pos) ρ ((l.zip m).map fun t => .tuple [f t.1, g t.2]) := by
  rw [← zipD_map]
  exact piw_zipL hg hm h h' he he2 hpl
structure LpA where
  n : Net
  o : Net
  p : Pr
def LpA.pre (a : LpA) : Prop := a.n.Fine ∧ a.o.Fine ∧ a.n.ins.length = a.o.ins.length ∧ a.n.ins.length ≤ 6 ∧ Sz a.n a.o a.p
def lookD (n o : Net) (p : Pr) : PyData := .tuple [lowD (difM n o p), .list ((behP n o p).map pairD)]
section
variable {P : Program} {w : World} {K : PySem.W.Frag} {mg : Str → Option Value} {base : Heap}
abbrev spLook : Sp := spP (ι := LpA) (fun a => [netD a.n, netD a.o, pairD a.p]) LpA.pre (fun a y => y = lookD a.n a.o a.p)
theorem ok_look_at_pair (F : Has K mg "look_at_pair" S_look_at_pair) (B : Blt mg) (Ab : Cal P w K mg base 4 "all_beats" P_all_beats spBm) (Lo : Cal P w K mg base 1 "least_one" P_least_one spLow) : Cal P w K mg base 5 "look_at_pair" P_look_at_pair spLook :=
  fnP F sc_look_at_pair (fun _ => rfl) (fun _ _ _ _ _ _ us hl => match us, hl with | [_, _, _], _ => rfl) fun f cdv A outer s H E hr a hp => by
    have nd := sc_look_at_pair.nd
    obtain ⟨fn, fo, hk, k6, sz⟩ := hp
    refine sd_asg (px_call Ab ⟨a.n, a.p.1⟩ ⟨fn, sz.1, k6⟩ (pxs_cons (px_v 0) (pxs_cons (px_ixT (px_v 2) px_int rfl) pxs_nil)) (fun y e => e)) (gd_t rfl (gds_cons (gd_n 3 nd) (gds_cons (gd_n 4 nd) gds_nil))) ?_
    refine sd_asg (px_call Ab ⟨a.o, a.p.2⟩ ⟨fo, sz.2, by rw [← hk]; exact k6⟩ (pxs_cons (px_v 1) (pxs_cons (px_ixT (px_v 2) px_int rfl) pxs_nil)) (fun y e => e)) (gd_t rfl (gds_cons (gd_n 5 nd) (gds_cons (gd_n 6 nd) gds_nil))) ?_
    refine sd_set 7 nd (pn_0 (s := true)) ?_
    refine sd_for (l := (shownM a.n a.p.1).zip (shownM a.o a.p.2)) (g := fun t => .tuple [nD t.1, nD t.2])
      (fun i ρ => ρ = [some (.d (netD a.n)), some (.d (netD a.o)), some (.d (pairD a.p)), some (.d (.list ((shownM a.n a.p.1).map nD))), some (.d (.list ((behM a.n a.p.1).map tupD))), some (.d (.list ((shownM a.o a.p.2).map nD))), some (.d (.list ((behM a.o a.p.2).map tupD))), some (.d (nD (difU (((shownM a.n a.p.1).zip (shownM a.o a.p.2)).take i)))), none, none])
      (fun _ _ => False) rfl PassesOwn.never (pw_zipL rfl B.zip (px_v 3) (px_v 5)) rfl (fun i t ρ' hb e => ?_) (fun ρ' e => ?_) (fun _ _ z => z.elim)
    · subst e
      refine ⟨[8, 9], _, gd_t rfl (gds_cons (gd_n 8 nd) (gds_cons (gd_n 9 nd) gds_nil)), ?_⟩
      refine sd_set 7 nd (pn_or (s := true) (px_v 7) (pn_xor (px_v 8) (px_v 9))) (sd_end [8, 9] ?_)
      show _ = _
      rw [take_succ hb]
      unfold difU
      rw [List.foldl_append]
      rfl
    · subst e
      rw [List.take_length]
      refine sd_retD (px_tup (pxs_cons (px_call Lo (difM a.n a.o a.p) True.intro (pxs_cons (px_v 7) pxs_nil) (fun y e => e)) (pxs_cons (px_F (pf_listZip rfl rfl B.list rfl B.zip (px_v 4) (px_v 6))) pxs_nil))) ?_
      show _ = lookD a.n a.o a.p
      unfold lookD behP
      rw [zipD_map]
end
end Bf
set_option Elab.async false
set_option linter.all false
set_option maxRecDepth 100000
set_option maxHeartbeats 4000000
namespace Bf
open PySem PySem.Spec PyProof.Rows L2
abbrev PLv : Type := List (Pr × List Nat)
def plvD (x : Pr × List Nat) : PyData := .tuple [pairD x.1, tupD x.2]
def stepP (row : List Nat) (acc : List Pr × PLv) (t : Nat × Pr) : List Pr × PLv := if t.2 ∈ acc.1 then acc else (acc.1 ++ [t.2], acc.2 ++ [(t.2, row ++ [t.1])])
def enP (n o : Net) (p : Pr) : List (Nat × Pr) := (List.range (behP n o p).length).zip (behP n o p)
def goP (n o : Net) (x : Pr × List Nat) (acc : List Pr × PLv) : List Pr × PLv := (enP n o x.1).foldl (stepP x.2) acc
def nextP (n o : Net) (lv : PLv) (acc : List Pr × PLv) : List Pr × PLv := lv.foldl (fun acc x => goP n o x acc) acc
structure PaOk (b : Nat) (acc : List Pr × PLv) : Prop where
  ml : acc.1.length ≤ b
  al : acc.2.length ≤ b
theorem PaOk.step {b : Nat} {acc : List Pr × PLv} (h : PaOk b acc) (row : List Nat) (t : Nat × Pr) : PaOk (b + 1) (stepP row acc t) := by
  unfold stepP
  have := h.ml
  have := h.al
  split
  · exact ⟨by omega, by omega⟩
  · exact ⟨by rw [List.length_append]; show _ + 1 ≤ _; omega, by rw [List.length_append]; show _ + 1 ≤ _; omega⟩
theorem enumD_map {α : Type} (f : α → PyData) (l : List α) : enumD (l.map f) = ((List.range l.length).zip l).map fun t => .tuple [nD t.1, f t.2] := by
  unfold enumD
  rw [List.length_map, zipD_map]
theorem pw_enumL {α : Type} {f : α → PyData} {l : List α} {X : Cx} {e : Expr} {ρ : Rho} {p pos tpos : Pos} {elts : List Expr} {kk : Nat} (hg : Gl X "enumerate") (hm : X.mg "enumerate" = none) (h : PX X ρ true e (.list (l.map f))) (he : starEach [e] X.env = (false, eval e X.env) :: starEach [] X.env := by rfl) (hs : starEach [e] X.env = [(false, eval e X.env)] := by rfl) : PIW X (.Tuple elts kk tpos) (.Call (.Name "enumerate" p) [e] [] pos) ρ (((List.range l.length).zip l).map fun t => .tuple [nD t.1, f t.2]) := by
  rw [← enumD_map]
  exact piw_enumL hg hm h he hs
structure NxA where
  n : Net
  o : Net
  met : List Pr
  lv : PLv
def NxA.pre (a : NxA) : Prop := a.met.length ≤ 300 ∧ a.lv.length ≤ 300 ∧ (∀ x ∈ a.lv, x.2.length ≤ 900) ∧ ∀ p, (behP a.n a.o p).length ≤ 64
abbrev nxArgs (P : Program) (w : World) (a : NxA) (met : List Pr) : List SV := [.o false (oN P w met), .d (.list (a.lv.map plvD)), .d (.list (a.lv.map fun x => lookD a.n a.o x.1))]
section
variable {P : Program} {w : World} {K : PySem.W.Frag} {mg : Str → Option Value} {base : Heap}
abbrev nxR (P : Program) (w : World) (a : NxA) (met : List Pr) (af : PLv) (o4 o5 o6 o7 o8 o9 : Option SV) : Rho :=
  [some (.o false (oN P w met)), some (.d (.list (a.lv.map plvD))), some (.d (.list (a.lv.map fun x => lookD a.n a.o x.1))), some (.o true (oL (af.map plvD))), o4, o5, o6, o7, o8, o9]
abbrev spNext (P : Program) (w : World) : Sp := spO (ι := NxA) (fun a => nxArgs P w a a.met) NxA.pre (fun a y sv => y = .list ((nextP a.n a.o a.lv (a.met, [])).2.map plvD) ∧ sv = nxArgs P w a (nextP a.n a.o a.lv (a.met, [])).1)
theorem ok_next_level (F : Has K mg "next_level" S_next_level) (B : Blt mg) : Cal P w K mg base 1 "next_level" P_next_level (spNext P w) :=
  fnO F sc_next_level (fun _ => rfl) (fun _ _ _ _ _ _ us hl => match us, hl with | [_, _, _], _ => rfl) fun f cdv A outer s H E hr a hp => by
    have nd := sc_next_level.nd
    have hun : (cxOf CX0 P w K mg base N_next_level "next_level" (defScope S_next_level) f cdv A outer s H E).nox.A.units + 64 < cLine := hr.units
    obtain ⟨hm, hl, hr1, hb64⟩ := hp
    refine sd_new 3 nd (pf_lst pxs_nil) ?_
    refine sd_for (l := a.lv.zip (a.lv.map fun x => lookD a.n a.o x.1)) (g := fun t => .tuple [plvD t.1, id t.2])
      (fun i ρ => PaOk (300 + i * 64) (nextP a.n a.o (a.lv.take i) (a.met, [])) ∧ ρ = nxR P w a (nextP a.n a.o (a.lv.take i) (a.met, [])).1 (nextP a.n a.o (a.lv.take i) (a.met, [])).2 none none none none none none)
      (fun _ _ => False) rfl PassesOwn.never (pw_zipL rfl B.zip (px_v 1) (px_eq (px_v 2) (by rw [List.map_id]))) ⟨⟨by show a.met.length ≤ _; omega, Nat.zero_le _⟩, rfl⟩ (fun i t ρ' ht ⟨ok, e⟩ => ?_) (fun ρ' ⟨ok, e⟩ => ?_) (fun _ _ z => z.elim)
    · subst e
      obtain ⟨h1, h2⟩ := List.getElem?_zip_eq_some.mp ht
      have hi := (List.getElem?_eq_some_iff.mp h1).1
      have rl := hr1 t.1 (List.mem_of_getElem? h1)
      have et : t.2 = lookD a.n a.o t.1.1 := by
        rw [List.getElem?_map, h1] at h2
        exact (Option.some.inj h2).symm
      have bl := hb64 t.1.1
      refine ⟨[4, 5, 6, 7], nxR P w a (nextP a.n a.o (a.lv.take i) (a.met, [])).1 (nextP a.n a.o (a.lv.take i) (a.met, [])).2 (some (.d (pairD t.1.1))) (some (.d (tupD t.1.2))) (some (.d (lowD (difM a.n a.o t.1.1)))) (some (.d (.list ((behP a.n a.o t.1.1).map pairD)))) none none, ?_, ?_⟩
      · rw [et]
        exact gd_t rfl (gds_cons (gd_t rfl (gds_cons (gd_n 4 nd) (gds_cons (gd_n 5 nd) gds_nil))) (gds_cons (gd_t rfl (gds_cons (gd_n 6 nd) (gds_cons (gd_n 7 nd) gds_nil))) gds_nil))
      · have hs : nextP a.n a.o (a.lv.take (i + 1)) (a.met, []) = goP a.n a.o t.1 (nextP a.n a.o (a.lv.take i) (a.met, [])) := by
          unfold nextP
          rw [take_succ h1, List.foldl_append]
          rfl
        generalize nextP a.n a.o (a.lv.take i) (a.met, []) = acc at hs ok
        refine sd_for (l := enP a.n a.o t.1.1) (g := fun t => .tuple [nD t.1, pairD t.2])
          (fun j ρ => PaOk (300 + i * 64 + j) (((enP a.n a.o t.1.1).take j).foldl (stepP t.1.2) acc) ∧ ρ = nxR P w a (((enP a.n a.o t.1.1).take j).foldl (stepP t.1.2) acc).1 (((enP a.n a.o t.1.1).take j).foldl (stepP t.1.2) acc).2 (some (.d (pairD t.1.1))) (some (.d (tupD t.1.2))) (some (.d (lowD (difM a.n a.o t.1.1)))) (some (.d (.list ((behP a.n a.o t.1.1).map pairD)))) none none)
          (fun _ _ => False) rfl PassesOwn.never (pw_enumL rfl B.enumerate (px_v 7)) ⟨ok, rfl⟩ (fun j u ρ' hu ⟨ok, e⟩ => ?_) (fun ρ' ⟨ok, e⟩ => ?_) (fun _ _ z => z.elim)
        · subst e
          have hj : j < 64 := by
            have := (List.getElem?_eq_some_iff.mp hu).1
            unfold enP at this
            rw [List.length_zip, List.length_range, Nat.min_self] at this
            omega
          have hs2 : ((enP a.n a.o t.1.1).take (j + 1)).foldl (stepP t.1.2) acc = stepP t.1.2 (((enP a.n a.o t.1.1).take j).foldl (stepP t.1.2) acc) u := by
            rw [take_succ hu, List.foldl_append]
            rfl
          rw [hs2]
          generalize ((enP a.n a.o t.1.1).take j).foldl (stepP t.1.2) acc = ac at ok
          have ok2 := ok.step t.1.2 u
          have m1 := ok.ml
          have m2 := ok.al
          refine ⟨[8, 9], _, gd_t rfl (gds_cons (gd_n 8 nd) (gds_cons (gd_n 9 nd) gds_nil)), ?_⟩
          refine sd_if (fun ρ' => ρ' = nxR P w a (stepP t.1.2 ac u).1 (stepP t.1.2 ac u).2 (some (.d (pairD t.1.1))) (some (.d (tupD t.1.2))) (some (.d (lowD (difM a.n a.o t.1.1)))) (some (.d (.list ((behP a.n a.o t.1.1).map pairD)))) none none)
            (pt_notinN 0 (p := u.2) hun rfl (px_v 9)) (fun h => ?_) (fun h => ?_) (fun ρ' e => by subst e; exact sd_nil ⟨ok2, rfl⟩)
          · have np : u.2 ∉ ac.1 := by simpa using h
            refine sd_putN 0 (p := u.2) hun rfl px_bl (px_v 9) np (by omega) ?_
            refine sd_app 3 (x := plvD (u.2, t.1.2 ++ [u.1])) rfl (px_tup (pxs_cons (px_v 9) (pxs_cons (px_eq (px_catT (px_v 5) (px_tup (pxs_cons (px_v 8) pxs_nil)) (le1M (by rw [List.length_map]; show _ + 1 ≤ _; omega))) (y := tupD (t.1.2 ++ [u.1])) (by show PyData.tuple _ = PyData.tuple _; rw [List.map_append]; rfl)) pxs_nil))) (by rw [List.length_map]; omega) ?_
            refine sd_end [8, 9] ?_
            show _ = _
            have es : stepP t.1.2 ac u = (ac.1 ++ [u.2], ac.2 ++ [(u.2, t.1.2 ++ [u.1])]) := if_neg np
            rw [es]
            unfold nxR
            dsimp only
            rw [List.map_append]
            rfl
          · have ip : u.2 ∈ ac.1 := by simpa using h
            refine sd_end [8, 9] ?_
            show _ = _
            have es : stepP t.1.2 ac u = ac := if_pos ip
            rw [es]
            rfl
        · subst e
          rw [List.take_length] at ok ⊢
          have ln : (enP a.n a.o t.1.1).length ≤ 64 := by
            unfold enP
            rw [List.length_zip, List.length_range, Nat.min_self]
            exact bl
          refine sd_end [4, 5, 6, 7] ?_
          show PaOk _ _ ∧ _
          rw [hs]
          exact ⟨⟨by have := ok.ml; unfold goP; omega, by have := ok.al; unfold goP; omega⟩, rfl⟩
    · subst e
      have ll : (a.lv.zip (a.lv.map fun x => lookD a.n a.o x.1)).length = a.lv.length := by rw [List.length_zip, List.length_map, Nat.min_self]
      rw [ll, List.take_length]
      exact sd_retO 3 rfl ⟨rfl, rfl⟩
end
end Bf
set_option Elab.async false
set_option linter.all false
set_option maxRecDepth 100000
set_option maxHeartbeats 4000000
namespace Bf
open PySem PySem.Spec PyProof.Rows L2
open PySem.W PySem.Calls PySem.HandSPX
/-! ### TooMany(part): __init__ says super().__init__('too many'), then self.part = part -/
abbrev S_TmI : Stmt := inClass (topS 4) 0
/-- what the written part says of TooMany, at C, and of its __init__, at fI; cc: the cell of __class__, cda: the code object -/
structure TmTxt (P : Program) (K : Frag) (mg : Str → Option Value) (C fI cc cda : Addr) : Prop where
  gC : mg "TooMany" = some (.ref C)
  cls : ∃ nm q N bs bm sn sub ab col dd k0 k1 k2 k3 k5, K.lookup C = some (excClassObj nm q C N bs bm true sn sub ab col dd k0 k1 k2 k3 k5 "ValueError.__new__") ∧ refsVE bm = true
  sa : findIn K (.ref C) "__setattr__" = some (some (.builtin "object.__setattr__"))
  noN : findIn K (.ref C) "part" = some none
  iC : findIn K (.ref C) "__init__" = some (some (.ref fI))
  tI : typeIn K (.ref fI) = some (.type "function")
  kC : keepIn K (.ref C) = true
  exC : subIn K (.ref C) (.type "BaseException") = some true
  exV : subIn K (.ref C) (.type "ValueError") = some true
  tyC : typeIn K (.ref C) = some (.type "type")
  hdC : hasDictIn K C = true
  mC : mroIn K C (.ref C) = some true
  sup : mg "super" = none
  opq : nsIn K cStatics "thirdparty.any" = some none
  si : ks_superIn K C C "__init__" = some (some (.builtin "ValueError.__init__"))
  fn : ∃ (oc kV doc pm : Value) (od : Option Addr) (an : Option Addr) (ct : Value) (osl : Array (Option Value)),
    K.lookup fI = some ⟨oc, od, .func (ksFn "__init__" "TooMany.__init__" (defArgs S_TmI) (defBody S_TmI) (defScope S_TmI) .none kV doc pm an (.ref cda) ct cc), osl⟩ ∧ codeIn K (.ref cda) "TooMany.__init__" = true
  code : ∃ (ccl : Value) (cdd : Option Addr) (vs : Array Value) (ccs : Array (Option Value)) (file : Str) (tf : Tok), K.lookup cda = some ⟨ccl, cdd, .fields vs, ccs⟩ ∧ vs[2]? = some (.str file tf) ∧ ((P.main.file : Str) == file) = true
  cell : ∃ (cl : Value) (cld : Option Addr) (csl : Array (Option Value)), K.lookup cc = some ⟨cl, cld, .cell (some (.ref C)), csl⟩
  top : (P.main.scope.names.lookup ("super" : Str)).isSome = false
theorem tm_scope : (defScope S_TmI).names.lookup ("super" : Str) = some .globalImplicit ∧ (defScope S_TmI).names.lookup ("__class__" : Str) = some .free ∧ (defScope S_TmI).names.lookup ("self" : Str) = some .local ∧ (defScope S_TmI).names.lookup ("part" : Str) = some .local ∧ (defScope S_TmI).kind = .function := by decide +kernel
end Bf
set_option Elab.async false
set_option linter.all false
set_option maxRecDepth 100000
set_option maxHeartbeats 4000000
namespace Bf
open PySem PySem.Spec PyProof.Rows L2
open PySem.W PySem.Calls PySem.HandSPX
theorem tm_nocell : ∀ y ∈ (defScope S_TmI).names, y.2 ≠ NameKind.cell := by decide +kernel
theorem tm_flags : (defScope S_TmI).isCoroutine = false ∧ (defScope S_TmI).isGenerator = false := by decide +kernel
theorem tm_head : ((defArgs S_TmI).posonlyargs ++ (defArgs S_TmI).args).head?.map (·.arg) = some "self" := by decide +kernel
/-- what __init__ leaves of a fresh exception at x -/
structure InitEnd (h h' : Heap) (x C dx : Addr) (v : Value) : Prop where
  keep : ∀ b o, b ≠ x → h.get? b = some o → h'.get? b = some o
  obj : ∃ t1, h'.get? x = some { cls := .ref C, dict := some dx, data := .fields #[.ref t1, .none, .none, .none, .bool false, .none] }
  dbig : h.objs.size ≤ dx
  dne : dx ≠ x
  ns : h'.Ns1 dx (fun y => if y = "part" then some v else none)
section
variable {P : Program} {w : World} {A : Around} {E : Value → Shared → Prop} {R : Result → Shared → Prop} {s : Shared} {K : Frag} {mg mb : Str → Option Value} {C fI cc cda : Addr}
/-- super().__init__(..) called, whatever the words -/
theorem call_mw {u x t0 : Addr} {rest : List Value} {h : Heap} {g : Array GenState} {d : Drawn} {t : Nat} {os : OsState} {Q : Value → Shared → Prop} {nm q : Str} {N : Addr} {bs bm : List Value} {hdct : Bool} {sn : List Str} {sub : List Value} {ab : Bool} {col : Option Bool} {dd : Option Addr} {k0 k1 k2 k3 k5 : Option Value}
    (hC : h.get? C = some (excClassObj nm q C N bs bm hdct sn sub ab col dd k0 k1 k2 k3 k5 "ValueError.__new__")) (hu : h.get? u = some (kxs_mw "ValueError.__init__" x)) (he : h.get? x = some (excO C t0)) (hz : rest.length ≤ sizeLine)
    (hq : ∀ h' t1, (∀ b o, b ≠ x → h.get? b = some o → h'.get? b = some o) → h'.get? x = some (excO C t1) → Q .none ⟨h', g, d, t, os⟩) :
    wpAny (model P w) A (call (.ref u) rest) Q E ⟨h, g, d, t, os⟩ := by
  refine wpAny_call (codeAny_of_tree ?_)
  show wpAny _ A.in1 (callAny (.ref u) ⟨rest, []⟩) _ _ _
  simp only [callAny]
  refine wpAny_bind (wpAny_load hu ?_)
  simp only [kxs_mw, show (Value.type "method-wrapper" == Value.type "method" || Value.type "method-wrapper" == Value.type "builtin_function_or_method" || Value.type "method-wrapper" == Value.type "method-wrapper") = true by decide, if_true]
  refine KFB.if_so (by decide) ?_
  refine wpAny_bind (check_bound_init PySem.F.excBase_ValueError.toExcCallFacts hC he rfl ?_)
  refine wpAny_bind (wpAny_pure (wpAny_pure ?_))
  refine ⟨plainId_quiet PySem.F.excBase_ValueError.init.plain _, codeAny_builtin PySem.F.excBase_ValueError.initEntry ?_⟩
  exact exc_init_tree (cls := .ref C) (t0 := t0) (dv := none) (c2 := .none) (c3 := .none) (b4 := .bool false) he hz fun h' k e' _ => hq h' _ k e'
theorem tm_init (T : TmTxt P K mg C fI cc cda) {x t0 : Addr} {v : Value} (X : K.In s.heap) (hg : s.heap.Ns mainGlobals mg) (hb : s.heap.Ns builtinsNs mb) (hbb : ∀ x : Str, x ≠ "__name__" → mb x = bootBuiltins x) (hlim : s.heap.NoLimit)
    (hx : s.heap.get? x = some (excO C t0)) (hnx : K.lookup x = none) (hroom : A.depth < recursionLimit)
    (hq : ∀ h' tk dx, InitEnd s.heap h' x C dx v → R (.ok (.ret .none)) { s with heap := h', toks := tk }) :
    codeAny (model P w) A (.call (.ref fI) ⟨[.ref x, v], []⟩) R s := by
  obtain ⟨oc, kV, doc, pm, od, an, ct, osl, ho, hcd⟩ := T.fn
  obtain ⟨ccl, cdd, vs, ccs, file, tf, hcode, hvs, hfile⟩ := T.code
  obtain ⟨cl, cld, csl, hcell⟩ := T.cell
  obtain ⟨nm, q, N, bs, bm, sn, sub, ab, col, dd, k0, k1, k2, k3, k5, hC, hbm⟩ := T.cls
  obtain ⟨s1, s2, s3, s4, s5⟩ := tm_scope
  have hcl : clsIn K C = some { name := nm, bases := bs, mro := .ref C :: bm, ns := N, qualname := q, hasDict := true, slotNames := sn, subclasses := sub, abstract := ab, collection := col, hasDel := false } := by unfold clsIn; rw [hC] <;> rfl
  refine ks_codeAny_call_defAt (fd := ksFn "__init__" "TooMany.__init__" (defArgs S_TmI) (defBody S_TmI) (defScope S_TmI) .none kV doc pm an (.ref cda) ct cc) (body := defBody S_TmI) (binds := [(("self" : Str), Value.ref x), (("part" : Str), v)]) hroom (X _ _ ho) rfl hlim (codeRec_of X hcd) rfl (BindsTo.of_eq (by first | rfl | with_unfolding_all rfl)) tm_nocell (fun y hy => ?_) (fun h₁ hns hk₁ => ?_)
    tm_flags.1 tm_flags.2 s5
  · have : y = (("self" : Str), Value.ref x) ∨ y = (("part" : Str), v) := by simpa using hy
    rcases this with e | e
    · rw [e]; exact s3
    · rw [e]; exact s4
  · have X₁ : K.In h₁ := X.keeps hk₁
    have hx₁ := hk₁ _ _ hx
    obtain ⟨ar, har, harn⟩ : ∃ ar, ((defArgs S_TmI).posonlyargs ++ (defArgs S_TmI).args).head? = some ar ∧ ar.arg = "self" := by
      have := tm_head
      cases e : ((defArgs S_TmI).posonlyargs ++ (defArgs S_TmI).args).head? with
      | none =>
        rw [e] at this
        cases this
      | some ar =>
        rw [e] at this
        exact ⟨ar, rfl, Option.some.inj this⟩
    have cX := X₁ _ _ hC
    have Ix : InstAt h₁ x (excO C t0) C none := ⟨hx₁, rfl, rfl, trivial⟩
    have hnC : x ≠ C := ks_ne X₁ Ix hcl
    have nsG : h₁.Ns mainGlobals mg := hg.keeps hk₁
    have nsB : h₁.Ns builtinsNs mb := hb.keeps hk₁
    refine ks_wpAt_execs_cons (ks_wpAt_Expr_any (ks_wpAt_MethodCall ?_))
    refine ks_wpAt_super_base (ar := ar) s1 s2 rfl rfl (X₁ _ _ ho) rfl har rfl (X₁ _ _ hcode) rfl hvs hfile T.top ?_
    refine ks_loadName_global s5 s1 (loadGlobal_builtin nsG T.sup nsB ((hbb _ (by decide)).trans (by decide +kernel)) ⟨rfl, ?_⟩)
    refine wpAny_loadName_free s5 s2 rfl ⟨_, X₁ _ _ hcell, rfl⟩ ?_
    rw [harn]
    refine wpAny_loadName_local s5 s3 hns (v := .ref x) rfl ?_
    refine ks_wpAny_isType_cls cX rfl ⟨rfl, ?_⟩
    refine ks_wpAny_call_super cX rfl hx₁ rfl (fun c e => by cases e) (looks_mroIn X₁ T.mC) (fun h2 e2 k2 => ?_)
    have X2 : K.In h2 := X₁.keeps k2
    have hx2 := k2 _ _ hx₁
    have I2 : InstAt h2 x (excO C t0) C none := ⟨hx2, rfl, rfl, trivial⟩
    have hI2 : Looks (model P w) h2 (isInstance (.ref x) (.type "ValueError")) true := I2.type.andThen (looks_subIn X2 T.exV)
    have hsi := T.si
    unfold ks_superIn at hsi
    rw [hcl] at hsi
    refine kxs_getMethod kxs_ValueError e2 (looks_opaque X2 T.opq) (l₀ := .ref C :: bm) (fun A Q E s k q => wpAny_bind ((looks_clsIn X2 hcl) A _ E s k (wpAny_pure q))) rfl X2 hsi hI2 hnC rfl ?_
    have k3 : ∀ b o, h2.get? b = some o → (h2.push (kxs_mw "ValueError.__init__" x)).get? b = some o := fun b o e => Heap.get?_push_of_some _ e
    have hm3 : (h2.push (kxs_mw "ValueError.__init__" x)).get? h2.objs.size = some (kxs_mw "ValueError.__init__" x) := Heap.get?_push_size _ rfl
    generalize h2.push (kxs_mw "ValueError.__init__" x) = h3 at k3 hm3
    refine kxs_callWith (i := "ValueError.__init__") (x := x) (u := h2.objs.size) rfl (evalArgs_plain (Calls.spliced_cons ?_))
    refine wpAny_Constant_str (k := 0) (pos := ⟨14, 25, 14, 35⟩) ?_
    refine Calls.spliced_nil ⟨hm3, ?_⟩
    refine call_mw (X2.keeps k3 _ _ hC) hm3 (k3 _ _ hx2) (by show 1 ≤ sizeLine; decide) (fun h4 t1 k4 hx4 => ?_)
    have nL : ∀ b o, s.heap.get? b = some o → s.heap.objs.size ≠ b := fun b o e => Nat.ne_of_gt (Heap.lt_size e)
    have hkA : ∀ b o, b ≠ x → s.heap.get? b = some o → h4.get? b = some o := fun b o ne e => k4 b o ne (k3 b o (k2 b o (hk₁ b o e)))
    obtain ⟨oL, es, ep, hL, hr⟩ := hns
    have hL4 : h4.get? s.heap.objs.size = some oL := k4 _ _ (nL _ _ hx) (k3 _ _ (k2 _ _ hL))
    have ns4 : h4.Ns s.heap.objs.size (fun y => ([(("self" : Str), Value.ref x), (("part" : Str), v)].reverse).lookup y) := ⟨oL, es, ep, hL4, hr⟩
    have X4 : K.In h4 := fun a o e => k4 a o (fun z => by rw [z, hnx] at e; cases e) (k3 _ _ (X2 a o e))
    show PySem.wpAt _ _ _ (execs _ _) _ _ _
    refine ks_wpAt_execs_cons (PySem.wpAt_of_wpAny (plainObj_wpAny_Assign_Attribute ?_))
    refine ESX.ldL ns4 (v := v) rfl ?_ s5 s4 (by decide)
    refine ESX.ldL ns4 (v := .ref x) rfl ?_ s5 s3 (by decide)
    refine set_plain X4 (ox := excO C t1) (od := none) ⟨hx4, rfl, rfl, trivial⟩ T.sa ?_
    refine exc_osa X4 hx4 hcl (show refsVE (.ref C :: bm) = true from hbm) rfl T.noN (fun h5 tk5 dx k5 dn dne hx5 hn5 => ?_)
    show PySem.wpAt _ _ _ (execs [] _) _ _ _
    refine PySem.wpAt_of_wpAny (wpAny_execs_nil (hq h5 tk5 dx ⟨fun b o ne e => k5 b o ne (hkA b o ne e), ⟨t1, hx5⟩, Nat.le_trans (Nat.le_of_lt (Heap.lt_size hL4)) dn, dne, hn5⟩))
end
end Bf
set_option Elab.async false
set_option linter.all false
set_option maxRecDepth 100000
set_option maxHeartbeats 4000000
namespace Bf
open PySem PySem.Spec PyProof.Rows L2
/-- a made TooMany -/
structure OwnMade (h h' : Heap) (e C d : Addr) (v : Value) : Prop where
  keep : ∀ b o, h.get? b = some o → h'.get? b = some o
  new : h.objs.size ≤ e
  obj : ∃ oe vs, h'.get? e = some oe ∧ oe.cls = .ref C ∧ oe.dict = some d ∧ oe.data = .fields vs ∧ vs[1]? = some .none
  dbig : h.objs.size ≤ d
  dne : d ≠ e
  ns : h'.Ns1 d (fun y => if y = "part" then some v else none)
section
variable {P : Program} {w : World} {A : Around} {E : Value → Shared → Prop} {R : Result → Shared → Prop} {s : Shared} {K : PySem.W.Frag} {mg mb : Str → Option Value} {C fI cc cda : Addr}
theorem tm_made (T : TmTxt P K mg C fI cc cda) {v : Value} (X : K.In s.heap) (hg : s.heap.Ns mainGlobals mg) (hb : s.heap.Ns builtinsNs mb) (hbb : ∀ x : Str, x ≠ "__name__" → mb x = bootBuiltins x) (hlim : s.heap.NoLimit) (hroom : A.depth + 1 < recursionLimit)
    (hq : ∀ h' tk e d, OwnMade s.heap h' e C d v → R (.ok (.ret (.ref e))) { s with heap := h', toks := tk }) :
    codeAny (model P w) A (.call (.ref C) ⟨[v], []⟩) R s := by
  obtain ⟨nm, q, N, bs, bm, sn, sub, ab, col, dd, k0, k1, k2, k3, k5, hC, hbm⟩ := T.cls
  obtain ⟨hp, g, dr, tk, os⟩ := s
  have k : ∀ b o, hp.get? b = some o → ((hp.push (PySem.W.kdv_tup [v])).push (PySem.HandSPX.excO C hp.objs.size)).get? b = some o := fun b o e => Heap.get?_push_of_some _ (Heap.get?_push_of_some _ e)
  have hget : ((hp.push (PySem.W.kdv_tup [v])).push (PySem.HandSPX.excO C hp.objs.size)).get? (hp.objs.size + 1) = some (PySem.HandSPX.excO C hp.objs.size) := by heap_get
  have hnx : K.lookup (hp.objs.size + 1) = none := by
    cases e : K.lookup (hp.objs.size + 1) with
    | none => rfl
    | some o =>
      have z : hp.get? (hp.objs.size + 1) = some o := X _ _ e
      exact absurd (Nat.lt_of_succ_lt (Heap.lt_size z)) (Nat.lt_irrefl _)
  refine PySem.HandSPX.call_own PySem.F.excBase_ValueError (fun X => PySem.HandSPX.refsVE_contains X bm hbm) (X _ _ hC) (PySem.W.looks_findIn X T.iC) (fun self => PySem.W.bind_fn X self T.tI) (by show 1 ≤ sizeLine; decide) ?_
  refine tm_init (s := ⟨(hp.push (PySem.W.kdv_tup [v])).push (PySem.HandSPX.excO C hp.objs.size), g, dr, tk, os⟩) T (X.keeps k) (hg.keeps k) (hb.keeps k) hbb (hlim.keeps k) hget hnx ?_ fun h' tk' dx ⟨k', hx, dn, dne, hns⟩ => ?_
  · show A.depth + 1 < recursionLimit
    exact hroom
  · have old : ∀ b o, hp.get? b = some o → h'.get? b = some o := fun b o e => k' b o (Nat.ne_of_lt (Nat.lt_succ_of_lt (Heap.lt_size e))) (k b o e)
    have z : hp.objs.size + 1 + 1 ≤ dx := by
      first
        | (simpa only [Heap.size_push] using dn)
        | exact dn
        | (have q := dn; rw [Heap.size_push, Heap.size_push] at q; exact q)
    obtain ⟨t1, hx⟩ := hx
    exact ⟨rfl, hq h' tk' (hp.objs.size + 1) dx ⟨old, Nat.le_succ _, ⟨_, _, hx, rfl, rfl, rfl, rfl⟩, Nat.le_trans (Nat.le_trans (Nat.le_succ _) (Nat.le_succ _)) z, dne, hns⟩⟩
end
theorem relO_part {v : V} {v' : Value} (r : RelV v v') (f : Str) : RelO (List.lookup f [(("part" : Str), v)]) (if f = "part" then some v' else none) := by
  by_cases hw : f = "part"
  · subst hw
    rw [if_pos rfl]
    have q : List.lookup ("part" : Str) [(("part" : Str), v)] = some v := by simp [List.lookup]
    rw [q]
    exact r
  · rw [if_neg hw]
    have qw : (f == ("part" : Str)) = false := by simpa using hw
    have q2 : List.lookup f [(("part" : Str), v)] = none := by simp [List.lookup, qw]
    rw [q2]
    trivial
section
variable {X : Cx} {C fI cc cda : Addr}
/-- TooMany('..') -/
theorem pmk_tm {t : Str} {p p2 pos : Pos} {k j : Nat} (T : TmTxt X.prog X.K X.mg C fI cc cda) (hr : Room k X.A) (hg : Gl X "TooMany" := by rfl) :
    PMk X (.Call (.Name "TooMany" p) [.Constant (.str t) j p2] [] pos) (fun _ H Q => ∀ d, H d = none → Q (.ref C) (some d) (upd H d (.xd [(("part" : Str), V.str t)]))) := by
  intro pins s σ H Q I h
  refine wpAny_Call_Name_kw (ld_glob I hg T.gC ?_ (by decide))
  have ha : PA X [.Constant (.str t) j p2] (tCons (tC (.str t)) tNil) := pa_cons pe_str pa_nil
  refine PySem.W.callWith_K (h₀ := X.base) I.ok.mod.kin T.kC (thn (ha.run pos pins s σ H (fun vs H1 => vs = [V.str t] ∧ H = H1) I ⟨rfl, rfl⟩) fun us s1 hh => ?_)
  obtain ⟨vs, H1, I1, r1, ev, eH⟩ := hh
  subst ev
  rw [← eH] at I1
  refine ⟨I1.kIn, ?_⟩
  cases r1 with
  | cons rv rn =>
    rename_i v' us'
    cases rn
    show wpAny _ _ (call (.ref C) [v']) _ _ _
    have hlim := I1.nolimit
    obtain ⟨mb, hB, hbb⟩ := I1.ok.mod.blt
    have hG := I1.ok.mod.glob.keeps I1.bk
    have hB' := hB.keeps I1.bk
    obtain ⟨hp, g, dr, tk, os⟩ := s1
    refine wpAny_call (tm_made T I1.kIn hG hB' hbb hlim (by have := hr.dp; omega) fun h' tk' e d M => ?_)
    show MkP X pins σ Q (.ref e) ⟨h', g, dr, tk', os⟩
    obtain ⟨oe, fv, hoe, hc, hd, hdat, h1⟩ := M.obj
    have hns := M.ns
    obtain ⟨G', g1, g2⟩ := restrict h' fun b => decide (b ≠ e)
    have gk : ∀ b, b ≠ e → G'.get? b = h'.get? b := fun b hb => g1 b (decide_eq_true hb)
    have ge : G'.get? e = none := g2 e (by simp)
    have old : ∀ b o, hp.get? b = some o → G'.get? b = some o := fun b o q => (gk b (Nat.ne_of_lt (Nat.lt_of_lt_of_le (Heap.lt_size q) M.new))).trans (M.keep b o q)
    have ob : ObjOk X.prog X.w (upd H d (.xd [(("part" : Str), V.str t)])) G' d (.xd [(("part" : Str), V.str t)]) :=
      ⟨_, hns.at (fun o q => (gk d M.dne).trans q), fun f => relO_part rv f⟩
    have J : Inv X pins σ (upd H d (.xd [(("part" : Str), V.str t)])) ⟨G', g, dr, tk', os⟩ := I1.laid (t' := tk') old M.dbig ob
    refine ⟨e, oe, fv, ⟨G', g, dr, tk', os⟩, _, .ref C, some d, rfl, J, fun b o q => ?_, ge, hoe, ⟨hc, hd⟩, hdat, h1, ?_, rfl, I1.bare, raises_own T.exC T.tyC, h d (I1.hok.fresh M.dbig)⟩
    · by_cases hb : b = e
      · have q' : G'.get? b = some o := q
        rw [hb, ge] at q'; cases q'
      · exact (gk b hb).symm.trans q
    · rw [upd_ne (Ne.symm M.dne)]
      exact I1.hok.fresh M.new
/-! ### Unlike() : no __init__ of its own -/
theorem pmk_own0 {bmB : List Value} {B newId initId : String} {x : Str} {p pos : Pos} (F : ExcBaseFacts B newId initId bmB) (q : PySem.W.excIn X.K C bmB newId = true) (gC : X.mg x = some (.ref C)) (kC : PySem.W.keepIn X.K (.ref C) = true) (r : Raises X (.ref C)) (hg : Gl X x)
    (hdb : (x == ("__debug__" : Str)) = false := by decide) : PMk X (.Call (.Name x p) [] [] pos) (fun _ H Q => Q (.ref C) none H) := by
  intro pins s σ H Q I h
  refine wpAny_Call_Name_kw (ld_glob I hg gC ?_ hdb)
  refine PySem.W.callWith_K0 I.kIn kC ?_
  show wpAny _ _ (call (.ref C) []) _ _ _
  obtain ⟨bm, N, nm, qn, bs, hdct, sn, sub, ab, col, dd, k0, k1, k2, k3, k5, mN, hC, hN, hni, T⟩ := exc_obj I.kIn q
  refine wpAny_call_exc_subT F T hC hN hni (fun h' e hm => ?_) (by show 0 ≤ sizeLine; exact Nat.zero_le _)
  exact mk_of I hm r h (I.hok.gone hm.new)
end
end Bf
set_option Elab.async false
set_option linter.all false
set_option maxRecDepth 100000
set_option maxHeartbeats 4000000
namespace Bf
open PySem PySem.Spec PyProof.Rows L2
/-! ### objects that are known to stay as they are -/
abbrev pinT : HO := .ext fun _ => True
abbrev Pins : Type := List (Addr × Obj)
def addL (L : Pins) (H : Hp) : Hp := fun b => match L.lookup b with
  | some o => some (.frz o pinT)
  | none => H b
def dropL (L : Pins) (H : Hp) : Hp := fun b => match L.lookup b with
  | some _ => none
  | none => H b
section
variable {L : Pins} {H H' : Hp} {b : Addr} {o : Obj}
theorem addL_in (h : L.lookup b = some o) : addL L H b = some (.frz o pinT) := by
  unfold addL
  rw [h]
theorem addL_out (h : L.lookup b = none) : addL L H b = H b := by
  unfold addL
  rw [h]
theorem dropL_in (h : L.lookup b = some o) : dropL L H b = none := by
  unfold dropL
  rw [h]
theorem dropL_out (h : L.lookup b = none) : dropL L H b = H b := by
  unfold dropL
  rw [h]
theorem dropL_none (h : H b = none) : dropL L H b = none := by
  cases e : L.lookup b with
  | none => rw [dropL_out e, h]
  | some o => exact dropL_in e
theorem dropL_some {u : HO} (h : dropL L H b = some u) : L.lookup b = none ∧ H b = some u := by
  cases e : L.lookup b with
  | none =>
    rw [dropL_out e] at h
    exact ⟨rfl, h⟩
  | some o =>
    rw [dropL_in e] at h
    cases h
end
section
variable {P : Program} {w : World} {L : Pins} {H H' : Hp} {h h' : Heap} {fs : List Addr}
theorem hok_add (hok : HOk P w H h) (hn : ∀ b o, L.lookup b = some o → H b = none) (hg : ∀ b o, L.lookup b = some o → h.get? b = some o) : HOk P w (addL L H) h := fun b u e => by
  have keep : ∀ (c : Addr) (x : HO), H c = some x → addL L H c = some x := fun c x q => by
    cases z : L.lookup c with
    | none => rw [addL_out z]; exact q
    | some o => rw [hn c o z] at q; cases q
  cases z : L.lookup b with
  | none =>
    rw [addL_out z] at e
    exact (hok b u e).stay (fun c v _ q => q) (fun c q => keep _ _ q) fun c xs q => keep _ _ q
  | some o =>
    rw [addL_in z] at e
    cases e
    exact ⟨hg b o z, True.intro, ⟨o, hg b o z⟩, fun _ _ _ _ => True.intro⟩
theorem hok_drop (hok : HOk P w H h) (hf : ∀ b o, L.lookup b = some o → ∀ u, H b = some u → ∃ o' u', u = .frz o' u') : HOk P w (dropL L H) h := fun b u e => by
  obtain ⟨z, e⟩ := dropL_some e
  have keep : ∀ (c : Addr) (x : HO), H c = some x → (∀ o u, x ≠ .frz o u) → dropL L H c = some x := fun c x q n => by
    cases z : L.lookup c with
    | none => rw [dropL_out z]; exact q
    | some o =>
      obtain ⟨o', u', e'⟩ := hf c o z x q
      exact absurd e' (n o' u')
  exact (hok b u e).stay (fun c v _ q => q) (fun c q => keep _ _ q (fun _ _ z => by cases z)) fun c xs q => keep _ _ q (fun _ _ z => by cases z)
theorem frz_get {b : Addr} {o : Obj} (hok : HOk P w H h) (e : H b = some (.frz o pinT)) : h.get? b = some o := (hok b _ e).1
/-- with the pins for a while, then without -/
theorem un_drop (u : Un fs [] (addL L H) H' h h') (hok' : HOk P w H' h') (hn : ∀ b o, L.lookup b = some o → H b = none) (hg : ∀ b o, L.lookup b = some o → h.get? b = some o) (hfs : ∀ b o, L.lookup b = some o → b ∉ fs) : Un fs [] H (dropL L H') h h' ∧ HOk P w (dropL L H') h' := by
  have hz : ∀ b o, L.lookup b = some o → H' b = some (.frz o pinT) := fun b o z => u.frzs b o _ (addL_in z)
  refine ⟨⟨fun b o e n nf nx => ?_, fun b o e n nf nx => ?_, fun b o e n nx => ?_, u.there, fun b xs e => ?_, fun b o x e => ?_, fun b ps e => ?_⟩, hok_drop hok' fun b o z x e => by
    rw [hz b o z] at e
    cases e
    exact ⟨_, _, rfl⟩⟩
  · cases z : L.lookup b with
    | none => exact u.keep b o e (by rw [addL_out z]; exact n) nf nx
    | some o' =>
      rw [hg b o' z] at e
      cases e
      exact frz_get hok' (hz _ _ z)
  · cases z : L.lookup b with
    | none => exact u.slot b o e (by rw [addL_out z]; exact n) nf nx
    | some o' => exact absurd nf (hfs b o' z)
  · cases z : L.lookup b with
    | none =>
      rw [dropL_out z]
      exact u.free b o e (by rw [addL_out z]; exact n) nx
    | some o' => exact dropL_in z
  · cases z : L.lookup b with
    | none =>
      rw [dropL_out z]
      exact u.tups b xs (by rw [addL_out z]; exact e)
    | some o' => rw [hn b o' z] at e; cases e
  · cases z : L.lookup b with
    | none =>
      rw [dropL_out z]
      exact u.frzs b o x (by rw [addL_out z]; exact e)
    | some o' => rw [hn b o' z] at e; cases e
  · cases z : L.lookup b with
    | none =>
      rw [dropL_out z]
      exact u.tbls b ps (by rw [addL_out z]; exact e)
    | some o' => rw [hn b o' z] at e; cases e
/-- without the pins for a while, then with them again -/
theorem un_add (u : Un fs [] (dropL L H) H' h h') (hok : HOk P w H h) (hok' : HOk P w H' h') (hp : ∀ b o, L.lookup b = some o → H b = some (.frz o pinT)) (hfs : ∀ b o, L.lookup b = some o → b ∉ fs) : Un fs [] H (addL L H') h h' ∧ HOk P w (addL L H') h' ∧ ∀ b o, L.lookup b = some o → H' b = none := by
  have hg : ∀ b o, L.lookup b = some o → h.get? b = some o := fun b o z => frz_get hok (hp b o z)
  have hn : ∀ b o, L.lookup b = some o → H' b = none := fun b o z => u.free b o (hg b o z) (dropL_in z) (by simp)
  have hg' : ∀ b o, L.lookup b = some o → h'.get? b = some o := fun b o z => u.keep b o (hg b o z) (dropL_in z) (hfs b o z) (by simp)
  refine ⟨⟨fun b o e n nf nx => u.keep b o e (dropL_none n) nf nx, fun b o e n nf nx => u.slot b o e (dropL_none n) nf nx, fun b o e n nx => ?_, u.there, fun b xs e => ?_, fun b o x e => ?_, fun b ps e => ?_⟩, hok_add hok' hn hg', hn⟩
  · cases z : L.lookup b with
    | none => rw [addL_out z]; exact u.free b o e (dropL_none n) nx
    | some o' => rw [hp b o' z] at n; cases n
  · cases z : L.lookup b with
    | none => rw [addL_out z]; exact u.tups b xs (by rw [dropL_out z]; exact e)
    | some o' => rw [hp b o' z] at e; cases e
  · cases z : L.lookup b with
    | none => rw [addL_out z]; exact u.frzs b o x (by rw [dropL_out z]; exact e)
    | some o' =>
      rw [hp b o' z] at e
      cases e
      exact addL_in z
  · cases z : L.lookup b with
    | none => rw [addL_out z]; exact u.tbls b ps (by rw [dropL_out z]; exact e)
    | some o' => rw [hp b o' z] at e; cases e
end
/-! data do not lean on pins -/
mutual
theorem Is.offL {M : Ad} {L : Pins} {H : Hp} (hf : ∀ b o, L.lookup b = some o → ∀ u, H b = some u → ∃ o' u', u = .frz o' u') : ∀ {d : PyData} {v : V}, Is M H d v → Is M (dropL L H) d v
  | .none, _, h => h
  | .bool _, _, h => h
  | .int _, _, h => h
  | .str _, _, h => h
  | .list _, _, h => by
    obtain ⟨a, vs, h1, h2, h3, h4⟩ := h
    refine ⟨a, vs, h1, h2, ?_, IsAll.offL hf h4⟩
    cases z : L.lookup a with
    | none => rw [dropL_out z]; exact h3
    | some o => obtain ⟨_, _, e⟩ := hf a o z _ h3; cases e
  | .tuple _, _, h => by
    obtain ⟨a, vs, h1, h2, h3, h4⟩ := h
    refine ⟨a, vs, h1, h2, ?_, IsAll.offL hf h4⟩
    cases z : L.lookup a with
    | none => rw [dropL_out z]; exact h3
    | some o => obtain ⟨_, _, e⟩ := hf a o z _ h3; cases e
  | .dict _, _, h => by
    obtain ⟨a, h1, h2, h3⟩ := h
    refine ⟨a, h1, h2, ?_⟩
    cases z : L.lookup a with
    | none => rw [dropL_out z]; exact h3
    | some o => obtain ⟨_, _, e⟩ := hf a o z _ h3; cases e
theorem IsAll.offL {M : Ad} {L : Pins} {H : Hp} (hf : ∀ b o, L.lookup b = some o → ∀ u, H b = some u → ∃ o' u', u = .frz o' u') : ∀ {ds : List PyData} {vs : List V}, IsAll M H ds vs → IsAll M (dropL L H) ds vs
  | [], [], _ => True.intro
  | _ :: _, _ :: _, h => ⟨Is.offL hf h.1, IsAll.offL hf h.2⟩
  | [], _ :: _, h => h
  | _ :: _, [], h => h
end
theorem ex_add {L : Pins} {H : Hp} (hn : ∀ b o, L.lookup b = some o → H b = none) : Ex H (addL L H) := fun b u e => by
  cases z : L.lookup b with
  | none => rw [addL_out z]; exact e
  | some o => rw [hn b o z] at e; cases e
end Bf
set_option Elab.async false
set_option linter.all false
set_option maxRecDepth 100000
set_option maxHeartbeats 4000000
namespace Bf
open PySem PySem.Spec PyProof.Rows L2 NdefX LamX
theorem look_mem {a : Addr} {o : Obj} : ∀ {l : Pins}, l.lookup a = some o → (a, o) ∈ l
  | [], h => by cases h
  | (b, u) :: r, h => by
    have h2 : (match a == b with | true => some u | false => r.lookup a) = some o := h
    cases q : (a == b) with
    | true =>
      rw [q] at h2
      have e : u = o := Option.some.inj h2
      rw [beq_iff_eq.mp q, e]
      exact List.mem_cons_self
    | false =>
      rw [q] at h2
      exact List.mem_cons_of_mem _ (look_mem h2)
/-! ### compared's lambda -/
def lamA : Arguments := match (defBody S_compared).getD 3 (.Pass ⟨0, 0, 0, 0⟩) with
  | .Assign _ (.Call _ [_, .Lambda ps _ _ _, _] _ _) _ => ps
  | _ => defArgs S_compared
def lamB : Expr := match (defBody S_compared).getD 3 (.Pass ⟨0, 0, 0, 0⟩) with
  | .Assign _ (.Call _ [_, .Lambda _ b _ _, _] _ _) _ => b
  | _ => .Constant .none 0 ⟨0, 0, 0, 0⟩
def lamC : Scope := match (defBody S_compared).getD 3 (.Pass ⟨0, 0, 0, 0⟩) with
  | .Assign _ (.Call _ [_, .Lambda _ _ s _, _] _ _) _ => s
  | _ => defScope S_compared
abbrev N_lam : List Str := ["pair", "net", "other"]
theorem sc_lam : NScope N_lam ["pair"] ["net", "other"] lamC := nscope_by (by decide +kernel)
/-- a lambda's object, its cells and what they hold -/
structure LamF where
  f : Addr
  c1 : Addr
  c2 : Addr
  cc : Addr
  of : Obj
  o1 : Obj
  o2 : Obj
  q : Str
  vn : V
  vo : V
  n : Net
  o : Net
abbrev LamF.L2 (F : LamF) : Pins := [(F.c1, F.o1), (F.c2, F.o2)]
structure LamF.At (F : LamF) (H : Hp) : Prop where
  f : H F.f = some (.frz F.of pinT)
  c1 : H F.c1 = some (.frz F.o1 pinT)
  c2 : H F.c2 = some (.frz F.o2 pinT)
  cc : H F.cc = some (CodeO F.cc F.q)
def spLk (F : LamF) (v : V) (H : Hp) (Q : VK) : Prop := ∃ (M : Ad) (p : Pr), (∀ a, M a → H a ≠ none) ∧ ¬ M F.c1 ∧ ¬ M F.c2 ∧ Is M H (netD F.n) F.vn ∧ Is M H (netD F.o) F.vo ∧ Is M H (pairD p) v ∧ Sz F.n F.o p ∧ ∀ y H', Ex H H' → Is M H' (lookD F.n F.o p) y → Q y H'
/-- it runs -/
def LkRuns (P : Program) (w : World) (K : PySem.W.Frag) (mg : Str → Option Value) (base : Heap) (k : Nat) (F : LamF) : Prop :=
  ∀ (A : Around) (outer : List Env) (s : Shared) (H : Hp) (u : Value) (v : V) (Q : VK), Room k A → Env0 P w K mg base A outer s H → F.At H → L2.RelV v u → spLk F v H Q → codeAny (model P w) A (.call (.ref F.f) ⟨[u], []⟩) (CR CX0 outer P w H s Q E0) s
structure LamOk (F : LamF) : Prop where
  obj : ∃ (cl : List (Str × Addr)) (pm ctv : Value), F.of = PySem.W.kla_obj "<lambda>" F.q lamA lamB lamC cl pm F.cc ctv ∧ cl.lookup ("net" : Str) = some F.c1 ∧ cl.lookup ("other" : Str) = some F.c2 ∧ ∀ (y : Str) c, cl.lookup y = some c → y = "net" ∨ y = "other"
  ne : F.c1 ≠ F.c2
  h1 : ∃ u, F.o1.data = .cell (some u) ∧ L2.RelV F.vn u
  h2 : ∃ u, F.o2.data = .cell (some u) ∧ L2.RelV F.vo u
  pre : F.n.Fine ∧ F.o.Fine ∧ F.n.ins.length = F.o.ins.length ∧ F.n.ins.length ≤ 6
theorem lam_bind (q : Str) (cl : List (Str × Addr)) (pm cv ctv u : Value) : bindArgs (PySem.W.kla_fn "<lambda>" q lamA lamB lamC cl pm cv ctv) ⟨[u], []⟩ = pure ((["pair"] : List Str).zip [u]) := by rfl
section
variable {P : Program} {w : World} {K : PySem.W.Frag} {mg : Str → Option Value} {base : Heap}
theorem lk_runs (F : LamF) (O : LamOk F) (Lk : Cal P w K mg base 5 "look_at_pair" P_look_at_pair spLook) : LkRuns P w K mg base 6 F := by
  intro A outer s H u v Q hr e0 at_ rv hsp
  obtain ⟨M, p, hM, m1, m2, i1, i2, i3, sz, q⟩ := hsp
  obtain ⟨cl, pm, ctv, hof, hc1, hc2, hcl⟩ := O.obj
  obtain ⟨u1, d1, r1⟩ := O.h1
  obtain ⟨u2, d2, r2⟩ := O.h2
  have lk1 : F.L2.lookup F.c1 = some F.o1 := by simp [List.lookup]
  have lk2 : F.L2.lookup F.c2 = some F.o2 := by
    have : (F.c2 == F.c1) = false := by simpa using O.ne.symm
    simp [List.lookup, this]
  have lkA : ∀ b o, F.L2.lookup b = some o → (b = F.c1 ∧ o = F.o1) ∨ (b = F.c2 ∧ o = F.o2) := fun b o z => by
    have m := look_mem z
    rcases List.mem_cons.mp m with e | m
    · cases e; exact .inl ⟨rfl, rfl⟩
    · have e := List.mem_singleton.mp m
      cases e; exact .inr ⟨rfl, rfl⟩
  have hp : ∀ b o, F.L2.lookup b = some o → H b = some (.frz o pinT) := fun b o z => by
    rcases lkA b o z with ⟨rfl, rfl⟩ | ⟨rfl, rfl⟩
    · exact at_.c1
    · exact at_.c2
  have hfz : ∀ b o, F.L2.lookup b = some o → ∀ x, H b = some x → ∃ o' u', x = .frz o' u' := fun b o z x e => by
    rw [hp b o z] at e
    cases e
    exact ⟨_, _, rfl⟩
  have hfs : ∀ b o, F.L2.lookup b = some o → b ∉ frs outer := fun b o z m => by
    have := e0.frf b m
    rw [hp b o z] at this
    cases this
  have g1 : s.heap.get? F.c1 = some F.o1 := frz_get e0.hok at_.c1
  have g2 : s.heap.get? F.c2 = some F.o2 := frz_get e0.hok at_.c2
  have e0' : Env0 P w K mg base A outer s (dropL F.L2 H) := ⟨e0.frames, e0.mod, fun b o e => ⟨(e0.bs b o e).1, dropL_none (e0.bs b o e).2⟩, e0.bsz, e0.funs, fun b hb => dropL_none (e0.frf b hb), hok_drop e0.hok hfz, e0.bare⟩
  have lim : s.heap.NoLimit := e0.mod.nolimit.keeps fun b o e => (e0.bs b o e).1
  have ho : s.heap.get? F.f = some (PySem.W.kla_obj "<lambda>" F.q lamA lamB lamC cl pm F.cc ctv) := by
    rw [← hof]
    exact frz_get e0.hok at_.f
  have nf : H F.c1 = some (.frz F.o1 pinT) := at_.c1
  refine PySem.W.kla_callFunE hr.depth ho rfl sc_lam.co sc_lam.gen rfl (codeO_at e0.hok at_.cc) ?_
  rw [lam_bind]
  have Cs : CellsAt cl ["net", "other"] [some F.vn, some F.vo] s.heap (dropL F.L2 H) := by
    refine ⟨rfl, fun y c e => ?_, fun x y c e1 e2 => ?_, fun i y e => ?_⟩
    · rcases hcl y c e with z | z
      · rw [z, hc1] at e
        cases e
        exact ⟨dropL_in lk1, some u1, F.o1, g1, d1⟩
      · rw [z, hc2] at e
        cases e
        exact ⟨dropL_in lk2, some u2, F.o2, g2, d2⟩
    · rcases hcl x c e1 with z | z <;> rcases hcl y c e2 with z' | z'
      · rw [z, z']
      · rw [z, hc1] at e1
        rw [z', hc2] at e2
        exact absurd (Option.some.inj (e1.trans e2.symm)) O.ne
      · rw [z, hc2] at e1
        rw [z', hc1] at e2
        exact absurd (Option.some.inj (e2.trans e1.symm)) O.ne
      · rw [z, z']
    · match i, e with
      | 0, e =>
        have e' : ("net" : Str) = y := Option.some.inj e
        subst e'
        exact ⟨F.c1, hc1, fun v' ev => by
          have ev' : F.vn = v' := Option.some.inj (Option.some.inj ev)
          subst ev'
          exact ⟨u1, r1, F.o1, g1, d1⟩⟩
      | 1, e =>
        have e' : ("other" : Str) = y := Option.some.inj e
        subst e'
        exact ⟨F.c2, hc2, fun v' ev => by
          have ev' : F.vo = v' := Option.some.inj (Option.some.inj ev)
          subst ev'
          exact ⟨u2, r2, F.o2, g2, d2⟩⟩
  refine wpAny_pure (wpAny_newFunctionEnv sc_lam.nocell (fun ⟨n, _⟩ hy => sc_lam.par n (List.of_mem_zip hy).1) (fun h₁ hns hsb => ⟨lim.fresh _ hsb, ?_⟩) sc_lam.kind)
  let NFx : NF := ⟨"<lambda>", F.q, lamA, [], lamC, cl, F.cc⟩
  show codeAny _ _ (.expr lamB (envF NFx F.f s.heap.objs.size)) _ _
  have kp : ∀ b o, s.heap.get? b = some o → h₁.get? b = some o := fun b o e => hsb.extBut b o (Nat.ne_of_lt (Heap.lt_size e)) (Heap.get?_push_of_some _ e)
  have I : Inv (ncx CX0 P w K mg base N_lam NFx F.f A outer s (dropL F.L2 H) E0) [] (startF N_lam [v] [some F.vn, some F.vo]) (dropL F.L2 H) { s with heap := h₁, toks := s.toks + ((["pair"] : List Str).zip [u]).length } :=
    inv_startN sc_lam hr.hd e0' rfl (.cons rv .nil) Cs hns kp
  have hr' : Room 5 (ncx CX0 P w K mg base N_lam NFx F.f A outer s (dropL F.L2 H) E0).A := hr.deeper _
  have hbody : PX (ncx CX0 P w K mg base N_lam NFx F.f A outer s (dropL F.L2 H) E0) [some (.d (pairD p)), some (.d (netD F.n)), some (.d (netD F.o))] true lamB (lookD F.n F.o p) :=
    px_call Lk ⟨F.n, F.o, p⟩ ⟨O.pre.1, O.pre.2.1, O.pre.2.2.1, O.pre.2.2.2, sz⟩ (pxs_cons (px_v 1) (pxs_cons (px_v 2) (pxs_cons (px_v 0) pxs_nil))) (fun y e => e)
  have hM0 : ∀ a, M a → dropL F.L2 H a ≠ none := fun a m => by
    cases z : F.L2.lookup a with
    | none => rw [dropL_out z]; exact hM a m
    | some o =>
      rcases lkA a o z with ⟨rfl, _⟩ | ⟨rfl, _⟩
      · exact absurd m m1
      · exact absurd m m2
  have hold : Holds ⟨M, fun _ _ => False, dropL F.L2 H, fun _ _ => False, fun _ => False⟩ [some (.d (pairD p)), some (.d (netD F.n)), some (.d (netD F.o))] (startF N_lam [v] [some F.vn, some F.vo]) (dropL F.L2 H) :=
    holds_start (N := N_lam) (xs := [pairD p, netD F.n, netD F.o]) (vs := [v, F.vn, F.vo]) hM0 ⟨Is.offL hfz i3, Is.offL hfz i1, Is.offL hfz i2, True.intro⟩ (Nat.le_refl 3)
  refine PySem.W.kla_codeExpr (wpAny_mono (hbody.run [] _ _ _ (fun y H0' => Ex (dropL F.L2 H) H0' ∧ Is M H0' (lookD F.n F.o p) y) I ⟨_, hold, fun y H0' ex iy => ⟨ex, Is.weak (fun a m _ => ⟨rfl, .inl m⟩) iy⟩⟩) (fun y s' hq => ?_) fun e s' hq => hq)
  obtain ⟨y', H0', J, ry, ex, iy⟩ := hq
  obtain ⟨un, hk, hn⟩ := un_add (P := P) (w := w) J.base e0.hok J.hok hp hfs
  refine ⟨y', addL F.L2 H0', J.os, J.bare, un, hk, ry, q y' _ (fun a x e => ?_) (Is.ex (ex_add hn) iy)⟩
  cases z : F.L2.lookup a with
  | none => rw [addL_out z]; exact ex a x (by rw [dropL_out z]; exact e)
  | some o =>
    rw [hp a o z] at e
    cases e
    exact addL_in z
end
end Bf
set_option Elab.async false
set_option linter.all false
set_option maxRecDepth 100000
set_option maxHeartbeats 4000000
namespace Bf
open PySem PySem.Spec PyProof.Rows L2 NdefX LamX
theorem LamF.At.mono {F : LamF} {H H' : Hp} (h : F.At H) (k : ∀ b o, (b = F.f ∨ b = F.c1 ∨ b = F.c2 ∨ b = F.cc) → H b = some o → H' b = some o) : F.At H' := ⟨k _ _ (.inl rfl) h.f, k _ _ (.inr (.inl rfl)) h.c1, k _ _ (.inr (.inr (.inl rfl))) h.c2, k _ _ (.inr (.inr (.inr rfl))) h.cc⟩
/-- the lambda that a slot holds -/
def oFn (F : LamF) : OP where
  is := fun M H a => a = F.f ∧ ¬ M F.c1 ∧ ¬ M F.c2 ∧ ¬ M F.cc ∧ F.At H ∧ Is M H (netD F.n) F.vn ∧ Is M H (netD F.o) F.vo
  there := fun ⟨e, _, _, _, at_, _⟩ => by rw [e]; exact ne_none at_.f
  fr := fun ⟨e, m1, m2, m3, at_, i1, i2⟩ k => ⟨e, m1, m2, m3, at_.mono fun b o hb q => k b o q (by
    rcases hb with z | z | z | z
    · exact .inl (z.trans e.symm)
    · exact .inr (by rw [z]; exact m1)
    · exact .inr (by rw [z]; exact m2)
    · exact .inr (by rw [z]; exact m3)), Is.fr (fun b o q n => k b o q (.inr n)) i1, Is.fr (fun b o q n => k b o q (.inr n)) i2⟩
  weak := fun ⟨e, m1, m2, m3, at_, i1, i2⟩ w => ⟨e, fun m => m1 (w _ m (ne_none at_.c1)), fun m => m2 (w _ m (ne_none at_.c2)), fun m => m3 (w _ m (ne_none at_.cc)), at_, Is.weak w i1, Is.weak w i2⟩
section
variable {X : Cx} {ρ : Rho} {s : Bool} {e : Expr} {p1 pos : Pos} {l : Bool} {F : LamF} {p : Pr} {kk : Nat}
theorem px_callFn (k : Nat) {nm : Str} (O : LamOk F) (hF : LkRuns X.prog X.w X.K X.mg X.base kk F) (hk : ρ[k]? = some (some (.o l (oFn F)))) (ha : PX X ρ true e (pairD p)) (sz : Sz F.n F.o p) (hr : Room kk X.A := by first | assumption | exact Room.mono (by assumption) (by decide)) (hN : X.N[k]? = some nm := by rfl)
    (hv : Vis X.env.scope nm := by first | exact Or.inl rfl | exact Or.inr (Or.inl rfl) | exact Or.inr (Or.inr rfl)) (hd : (nm == ("__debug__" : Str)) = false := by decide) (hcd : (nm == ("__classdict__" : Str)) = false := by decide)
    (he : starEach [e] X.env = (false, eval e X.env) :: starEach [] X.env := by rfl) (hpl : (backTo pos (starEach [] X.env)).any (·.1) = false := by rfl) : PX X ρ s (.Call (.Name nm p1) [e] [] pos) (lookD F.n F.o p) := by
  refine ⟨fun pins st σ H Q I ⟨C, hh, q⟩ => ?_⟩
  obtain ⟨a, e1, ⟨ea, m1, m2, m3, at_, in_, io⟩, _⟩ := hh.own k l _ hk
  rw [ea] at e1
  have fnAt : ∀ {H1 : Hp} {s1 : Shared}, HOk X.prog X.w H1 s1.heap → F.At H1 → PySem.W.FnAt F.f s1.heap := fun {H1 s1} ok a1 => by
    obtain ⟨cl, pm, ctv, hof, _⟩ := O.obj
    have h := frz_get ok a1.f
    rw [hof] at h
    exact ⟨_, _, _, _, h⟩
  refine wpAny_Call_Name_kw (thn ((pe_var (pos := p1) hN hv hd hcd).run pins st σ H (fun v H1 => v = .ref F.f ∧ H1 = H) I ⟨.ref F.f, e1, rfl, rfl⟩) fun u s1 ⟨v, H1, I1, r1, q1⟩ => ?_)
  obtain ⟨ev, eH⟩ := q1
  subst ev
  rw [eH] at I1
  obtain rfl : u = Value.ref F.f := r1
  have hA : PA X [e] _ := pa_cons ha pa_nil he
  refine PySem.W.callWith_F (first := []) (fnAt I1.hok at_) (thn (hA.run pos pins s1 σ H (fun vl H2 => ∃ v, vl = [v] ∧ Ex H H2 ∧ Is (All C ρ σ) H2 (pairD p) v) I1 ⟨C, hh, fun v H2 e2 g => ⟨v, rfl, e2, g.ofT⟩⟩) fun us s2 ⟨vl, H2, I2, r, v, ev, ex, iv⟩ => ⟨?_, ?_⟩) he hpl
  · exact fnAt I2.hok (at_.mono fun b o _ z => ex b o z)
  · subst ev
    cases r with
    | cons rv rn =>
      cases rn
      rename_i u' _
      show wpAny _ _ (call (.ref F.f) [u']) _ _ _
      refine wpAny_call (codeAny_mono (hF X.A X.stack s2 H2 u' v (fun y H' => Ex H2 H' ∧ Is (All C ρ σ) H' (lookD F.n F.o p) y) hr I2.env0 (at_.mono fun b o _ z => ex b o z) rv ⟨All C ρ σ, p, fun a m => (hh.ex ex).allIn m, m1, m2, Is.ex ex in_, Is.ex ex io, iv, sz, fun y H' e3 iy => ⟨e3, iy⟩⟩) fun r s' hq => ?_)
      cases r with
      | error e => exact (show False from hq).elim
      | ok fl =>
        cases fl with
        | ret u2 =>
          obtain ⟨y, H', J, ry, e3, iy⟩ := I2.after hq
          exact ⟨y, H', J, ry, q y H' (ex.trans e3) iy.wk⟩
        | next => exact False.elim hq
        | brk => exact False.elim hq
        | cont => exact False.elim hq
end
end Bf
set_option Elab.async false
set_option linter.all false
set_option maxRecDepth 100000
set_option maxHeartbeats 1000000
namespace Bf
open PySem PySem.Spec PyProof.Rows L2
/-! ### the program's search is the law's -/
structure Like (n o : Net) : Prop where
  fn : n.Fine
  fo : o.Fine
  ins : n.ins.length = o.ins.length
  k6 : n.ins.length ≤ 6
  outs : n.outs.length = o.outs.length
  clms : n.clms.length = o.clms.length
/-- a pair of states: so long, of bits -/
def S01 (n o : Net) (p : Pr) : Prop := Sz n o p ∧ (∀ x ∈ p.1, x < 2) ∧ ∀ x ∈ p.2, x < 2
theorem bitN_test {m m' b : Nat} : bitN m b = bitN m' b ↔ m.testBit b = m'.testBit b := by
  rw [bitN_tb, bitN_tb]
  cases m.testBit b <;> cases m'.testBit b <;> simp
theorem difU_tb (b : Nat) : ∀ (l : List (Nat × Nat)) (d : Nat), (l.foldl (fun d t => d ||| (t.1 ^^^ t.2)) d).testBit b = (d.testBit b || l.any fun t => t.1.testBit b != t.2.testBit b)
  | [], d => by simp
  | t :: l, d => by
    rw [List.foldl_cons, difU_tb b l, Nat.testBit_or, Nat.testBit_xor, List.any_cons, Bool.or_assoc]
theorem any_ne (b : Nat) : ∀ (xs ys : List Nat), xs.length = ys.length → (((xs.zip ys).any fun t => t.1.testBit b != t.2.testBit b) = !decide (xs.map (fun m => bitN m b) = ys.map fun m => bitN m b))
  | [], [], _ => rfl
  | x :: xs, y :: ys, h => by
    have ih := any_ne b xs ys (by simpa using h)
    rw [List.zip_cons_cons, List.any_cons, ih, List.map_cons, List.map_cons]
    by_cases e : bitN x b = bitN y b
    · rw [e]
      have := bitN_test.mp e
      simp [this]
    · have ne : x.testBit b ≠ y.testBit b := fun z => e (bitN_test.mpr z)
      have : (x.testBit b != y.testBit b) = true := by simpa using ne
      simp [this, e]
  | [], _ :: _, h => by simp at h
  | _ :: _, [], h => by simp at h
theorem fold_or_lt {e : Nat} : ∀ (l : List (Nat × Nat)) (d : Nat), d < 2 ^ e → (∀ t ∈ l, t.1 < 2 ^ e ∧ t.2 < 2 ^ e) → l.foldl (fun d t => d ||| (t.1 ^^^ t.2)) d < 2 ^ e
  | [], _, h, _ => h
  | t :: l, d, h, g => by
    rw [List.foldl_cons]
    have := g t List.mem_cons_self
    exact fold_or_lt l _ (Nat.or_lt_two_pow h (Nat.xor_lt_two_pow this.1 this.2)) fun u m => g u (List.mem_cons_of_mem _ m)
section
variable {n o : Net} {p : Pr}
theorem dif_bit (L : Like n o) (s : S01 n o p) {b : Nat} (hb : b < 2 ^ n.ins.length) : (difM n o p).testBit b = dif n o (inW n.ins.length b) p := by
  unfold difM difU
  rw [difU_tb, Nat.zero_testBit, Bool.false_or, any_ne]
  · rw [shown_bits s.1.1 s.2.1 L.k6 hb, shown_bits (n := o) s.1.2 s.2.2 (by rw [← L.ins]; exact L.k6) (by rw [← L.ins]; exact hb), ← L.ins]
    rfl
  · unfold shownM Net.shown
    rw [List.length_map, List.length_map, List.length_append, List.length_append, List.length_map, List.length_map, List.length_map, List.length_map, L.outs, L.clms]
theorem difM_lt (L : Like n o) : difM n o p < 2 ^ 2 ^ n.ins.length := by
  refine fold_or_lt _ _ (Nat.pow_pos (by decide)) fun t m => ?_
  obtain ⟨h1, h2⟩ := List.of_mem_zip (a := t.1) (b := t.2) m
  refine ⟨shown_lt L.k6 _ h1, ?_⟩
  have := shown_lt (n := o) (by rw [← L.ins]; exact L.k6) _ h2
  rwa [← L.ins] at this
theorem low_dif (L : Like n o) (s : S01 n o p) : (lowD (difM n o p) = .none ∧ ∀ b, b < 2 ^ n.ins.length → dif n o (inW n.ins.length b) p = false) ∨
    ∃ b : Nat, b < 2 ^ n.ins.length ∧ lowD (difM n o p) = nD b ∧ dif n o (inW n.ins.length b) p = true ∧ ∀ i, i < b → dif n o (inW n.ins.length i) p = false := by
  by_cases z : difM n o p = 0
  · refine .inl ⟨by unfold lowD; rw [if_pos z], fun b hb => ?_⟩
    rw [← dif_bit L s hb, z, Nat.zero_testBit]
  · obtain ⟨j, h1, h2, h3⟩ := low_is z
    have hj : j < 2 ^ n.ins.length := by
      rcases Nat.lt_or_ge j (2 ^ n.ins.length) with h | h
      · exact h
      · have : difM n o p < 2 ^ j := Nat.lt_of_lt_of_le (difM_lt L) (Nat.pow_le_pow_right (by decide) h)
        rw [Nat.testBit_lt_two_pow this] at h2
        cases h2
    refine .inr ⟨j, hj, h1, by rw [← dif_bit L s hj]; exact h2, fun i hi => ?_⟩
    rw [← dif_bit L s (by omega)]
    exact h3 i hi
theorem beh_is (L : Like n o) (s : S01 n o p) : behP n o p = (List.range (2 ^ n.ins.length)).map fun b => nxt n o (inW n.ins.length b) p := by
  unfold behP behM
  rw [← L.ins, List.zip_map', ]
  apply List.map_congr_left
  intro b m
  have hb := List.mem_range.mp m
  rw [next_bits s.1.1 s.2.1 L.k6 hb, next_bits (n := o) s.1.2 s.2.2 (by rw [← L.ins]; exact L.k6) (by rw [← L.ins]; exact hb), ← L.ins]
  rfl
theorem beh_len (L : Like n o) (p : Pr) : (behP n o p).length ≤ 64 := by
  unfold behP behM
  rw [List.length_zip, List.length_map, List.length_map, List.length_range, List.length_range, ← L.ins, Nat.min_self]
  exact Nat.pow_le_pow_right (n := 2) (by decide) L.k6
theorem nxt_01 (L : Like n o) (s : S01 n o p) {b : Nat} (hb : b < 2 ^ n.ins.length) : S01 n o (nxt n o (inW n.ins.length b) p) := by
  refine ⟨nxt_sz _ _ _ _, next_01 s.1.1 s.2.1 L.k6 hb, ?_⟩
  have := next_01 (n := o) (b := b) s.1.2 s.2.2 (by rw [← L.ins]; exact L.k6) (by rw [← L.ins]; exact hb)
  rwa [← L.ins] at this
theorem zip_range {α : Type} (f : Nat → α) (m : Nat) : (List.range m).zip ((List.range m).map f) = (List.range m).map fun b => (b, f b) := by
  have h := List.zip_map' (f := fun b : Nat => b) (g := f) (l := List.range m)
  rw [List.map_id'] at h
  exact h
theorem en_is (L : Like n o) (s : S01 n o p) : enP n o p = (List.range (2 ^ n.ins.length)).map fun b => (b, nxt n o (inW n.ins.length b) p) := by
  unfold enP
  rw [beh_is L s, List.length_map, List.length_range, zip_range]
end
abbrev convW (k : Nat) (r : List Nat) : Way := r.map (inW k)
def convL (k : Nat) (lv : PLv) : Lv := lv.map fun x => (x.1, convW k x.2)
def convA (k : Nat) (acc : List Pr × PLv) : List Pr × Lv := (acc.1, convL k acc.2)
section
variable {n o : Net} {k : Nat}
theorem step_conv (p : Pr) (row : List Nat) (acc : List Pr × PLv) (b : Nat) : convA k (stepP row acc (b, nxt n o (inW k b) p)) = stepG n o p (convW k row) (inW k b) (convA k acc) := by
  unfold stepP stepG
  by_cases h : nxt n o (inW k b) p ∈ acc.1
  · rw [if_pos h, if_pos (show _ ∈ (convA k acc).1 from h)]
  · rw [if_neg h, if_neg (show ¬ _ ∈ (convA k acc).1 from h)]
    unfold convA convL convW
    simp
theorem goG_no (p : Pr) (row : List Nat) : ∀ (bs : List Nat) (acc : List Pr × PLv), (∀ b ∈ bs, dif n o (inW k b) p = false) → goG n o p (convW k row) (bs.map (inW k)) (convA k acc) = .inr (convA k ((bs.map fun b => (b, nxt n o (inW k b) p)).foldl (stepP row) acc))
  | [], _, _ => rfl
  | b :: bs, acc, h => by
    rw [List.map_cons, List.map_cons, List.foldl_cons, goG, if_neg (by rw [h b List.mem_cons_self]; decide), ← step_conv]
    exact goG_no p row bs _ fun c m => h c (List.mem_cons_of_mem _ m)
theorem goG_yes (p : Pr) (row : Way) {b : Nat} (hb : dif n o (inW k b) p = true) (post : List Nat) : ∀ (pre : List Nat) (acc : List Pr × Lv), (∀ c ∈ pre, dif n o (inW k c) p = false) → goG n o p row ((pre ++ b :: post).map (inW k)) acc = .inl (row ++ [inW k b])
  | [], acc, _ => by
    rw [List.nil_append, List.map_cons, goG, if_pos hb]
  | c :: pre, acc, h => by
    rw [List.cons_append, List.map_cons, goG, if_neg (by rw [h c List.mem_cons_self]; decide)]
    exact goG_yes p row hb post pre _ fun d m => h d (List.mem_cons_of_mem _ m)
end
section
variable {n o : Net}
/-- no input parts this pair -/
def Quiet (n o : Net) (p : Pr) : Prop := ∀ b, b < 2 ^ n.ins.length → dif n o (inW n.ins.length b) p = false
theorem goL_no (L : Like n o) : ∀ (lv : PLv) (acc : List Pr × PLv), (∀ x ∈ lv, S01 n o x.1 ∧ Quiet n o x.1) → goL n o (rowsW n.ins.length) (convL n.ins.length lv) (convA n.ins.length acc) = .inr (convA n.ins.length (nextP n o lv acc))
  | [], _, _ => rfl
  | x :: lv, acc, h => by
    obtain ⟨s, q⟩ := h x List.mem_cons_self
    have e := goG_no (n := n) (o := o) (k := n.ins.length) x.1 x.2 (List.range (2 ^ n.ins.length)) acc fun b m => q b (List.mem_range.mp m)
    rw [← en_is L s] at e
    show goL n o (rowsW n.ins.length) ((x.1, convW n.ins.length x.2) :: convL n.ins.length lv) _ = _
    rw [goL_inr (G := rowsW n.ins.length) (x := (x.1, convW n.ins.length x.2)) e]
    exact goL_no L lv _ fun y m => h y (List.mem_cons_of_mem _ m)
theorem goL_yes (L : Like n o) {x : Pr × List Nat} {b : Nat} (hb : b < 2 ^ n.ins.length) (d : dif n o (inW n.ins.length b) x.1 = true) (ds : ∀ i, i < b → dif n o (inW n.ins.length i) x.1 = false) (post : PLv) :
    ∀ (pre : PLv) (acc : List Pr × PLv), (∀ y ∈ pre, S01 n o y.1 ∧ Quiet n o y.1) → goL n o (rowsW n.ins.length) (convL n.ins.length (pre ++ x :: post)) (convA n.ins.length acc) = .inl (convW n.ins.length (x.2 ++ [b]))
  | [], acc, _ => by
    have sp : List.range (2 ^ n.ins.length) = List.range b ++ b :: (List.range (2 ^ n.ins.length - (b + 1))).map fun i => b + 1 + i := by
      have h1 : 2 ^ n.ins.length = (b + 1) + (2 ^ n.ins.length - (b + 1)) := by omega
      have h2 : List.range ((b + 1) + (2 ^ n.ins.length - (b + 1))) = _ := List.range_add
      rw [← h1] at h2
      rw [h2, List.range_succ, List.append_assoc]
      rfl
    have e := goG_yes (n := n) (o := o) (k := n.ins.length) x.1 (convW n.ins.length x.2) d ((List.range (2 ^ n.ins.length - (b + 1))).map fun i => b + 1 + i) (List.range b) (convA n.ins.length acc) fun c m => ds c (List.mem_range.mp m)
    rw [← sp] at e
    show goL n o (rowsW n.ins.length) ((x.1, convW n.ins.length x.2) :: convL n.ins.length post) _ = _
    rw [goL_inl (G := rowsW n.ins.length) (x := (x.1, convW n.ins.length x.2)) e]
    unfold convW
    rw [List.map_append]
    rfl
  | y :: pre, acc, h => by
    obtain ⟨s, q⟩ := h y List.mem_cons_self
    have e := goG_no (n := n) (o := o) (k := n.ins.length) y.1 y.2 (List.range (2 ^ n.ins.length)) acc fun b m => q b (List.mem_range.mp m)
    rw [← en_is L s] at e
    show goL n o (rowsW n.ins.length) ((y.1, convW n.ins.length y.2) :: convL n.ins.length (pre ++ x :: post)) _ = _
    rw [goL_inr (G := rowsW n.ins.length) (x := (y.1, convW n.ins.length y.2)) e]
    exact goL_yes L hb d ds post pre _ fun z m => h z (List.mem_cons_of_mem _ m)
end
end Bf
set_option Elab.async false
set_option linter.all false
set_option maxRecDepth 100000
set_option maxHeartbeats 4000000
namespace Bf
open PySem PySem.Spec PyProof.Rows L2
/-! ### statements that may raise -/
theorem ps_of1 {X : Cx} {st : Stmt} {t : TS} (h : PSs X [st] t) : PS X st t := ⟨fun pins s σ H D I ht Γ p hΓ => by
  have h1 := h.run pins s σ H D I ht Γ p hΓ
  rw [execs_cons, Sem.wp_bind'] at h1
  refine Sem.wp_mono _ Γ _ (fun f p' s' h' => ?_) (fun _ _ _ h' => h') _ _ h1
  cases f <;> exact h'⟩
theorem pt_exI {X : Cx} {e : Expr} {ι : Type} {P : ι → Prop} {t : ι → TT} (h : ∀ i, P i → PT X e (t i)) : PT X e (fun σ H Q => ∃ i, P i ∧ t i σ H Q) := ⟨fun pins s σ H Q I ⟨i, p, q⟩ => (h i p).run pins s σ H Q I q⟩
/-- tS, and what is wished where an error leaves -/
def tX (WT : L2.St → Hp → Prop) (Rx : Rho → Prop) (ρ : Rho) (R : Po) : TS := fun D σ H => ∃ C, Holds C ρ σ H ∧ PoOk C R D ∧ ∀ ρ' σ' H', Rx ρ' → Holds C ρ' σ' H' → WT σ' H'
abbrev PXX (X : Cx) (WT : L2.St → Hp → Prop) (Rx : Rho → Prop) (ρ : Rho) (sts : List Stmt) (R : Po) : Prop := PSs X sts (tX WT Rx ρ R)
section
variable {X : Cx} {WT : L2.St → Hp → Prop} {Rx : Rho → Prop} {ρ : Rho} {R : Po} {sts : List Stmt} {st : Stmt} {c : Expr} {pos p : Pos}
theorem xx_of (h : PSD X ρ sts R) : PXX X WT Rx ρ sts R := PSsimp h fun D σ H ⟨C, hh, q, _⟩ => ⟨C, hh, q⟩
theorem xx_nil (h : R.nx ρ) : PXX X WT Rx ρ [] R := xx_of (sd_nil h)
theorem xx_cons (Mid : Rho → Prop) (h : PSD X ρ [st] { R with nx := Mid }) (hr : ∀ ρ', Mid ρ' → PXX X WT Rx ρ' sts R) : PXX X WT Rx ρ (st :: sts) R :=
  PSsimp (pss_cons (ps_of1 h) (pss_ex (ι := Rho) (P := fun ρ' => PXX X WT Rx ρ' sts R) (t := fun ρ' => tX WT Rx ρ' R) fun i h => h)) fun D σ H ⟨C, hh, q, w⟩ =>
    ⟨C, hh, ⟨fun ρ' σ' H' m h' => ⟨ρ', hr ρ' m, C, h', q, w⟩, q.rt, q.bk, q.ct, q.rf⟩⟩
/-- while -/
theorem xx_while {body : List Stmt} (Iv : Nat → Rho → Prop) (m0 : Nat) (h0 : Iv m0 ρ) (hp : PassesOwn (model X.prog X.w) X.A X.env X.xe)
    (hs : ∀ m ρ, Iv m ρ → ∃ d, PXt X ρ c d ∧ (d = true → PXX X WT Rx ρ body { R with nx := fun ρ' => ∃ m', m' < m ∧ Iv m' ρ', ct := fun _ => False, bk := fun _ => False }) ∧ (d = false → PXX X WT Rx ρ sts R)) :
    PXX X WT Rx ρ (.While c body [] pos :: sts) R := by
  refine PSsimp (pss_cons (ps_while hp (pt_exI (ι := Rho × Bool) (P := fun i => PXt X i.1 c i.2) (t := fun i => tDt i.1 i.2) fun i h => h)
      (pss_ex (ι := Rho × Nat) (P := fun i => PXX X WT Rx i.1 body { R with nx := fun ρ' => ∃ m', m' < i.2 ∧ Iv m' ρ', ct := fun _ => False, bk := fun _ => False }) (t := fun i => tX WT Rx i.1 { R with nx := fun ρ' => ∃ m', m' < i.2 ∧ Iv m' ρ', ct := fun _ => False, bk := fun _ => False }) fun i h => h))
      (pss_ex (ι := Rho) (P := fun ρ' => PXX X WT Rx ρ' sts R) (t := fun ρ' => tX WT Rx ρ' R) fun i h => h)) fun D σ H ⟨C, hh, q, w⟩ => ?_
  refine ⟨fun m σ' H' => ∃ ρ', Iv m ρ' ∧ Holds C ρ' σ' H', ⟨m0, ρ, h0, hh⟩, ?_⟩
  rintro m σ1 H1 ⟨ρ1, iv, h1⟩
  obtain ⟨d, hc, ht, hf⟩ := hs m ρ1 iv
  refine ⟨(ρ1, d), hc, C, h1, fun H2 e2 => ?_⟩
  cases d with
  | true =>
    rw [if_pos rfl]
    refine ⟨fun σ' H' => ∃ ρ', (∃ m', m' < m ∧ Iv m' ρ') ∧ Holds C ρ' σ' H', fun σ' H' ⟨ρ', ⟨m', l, iv'⟩, h'⟩ => ⟨m', l, ρ', iv', h'⟩, (ρ1, m), ht rfl, C, h1.ex e2, ⟨?_, q.rt, ?_, ?_, q.rf⟩, w⟩
    · exact fun ρ4 σ4 H4 i4 h4 => ⟨ρ4, i4, h4⟩
    · exact fun _ _ _ z => z.elim
    · exact fun _ _ _ z => z.elim
  | false =>
    rw [if_neg Bool.false_ne_true]
    exact ⟨ρ1, hf rfl, C, h1.ex e2, q, w⟩
/-- if c: raise .. (no more) -/
theorem xx_if {A : List Stmt} {d : Bool} (hc : PXt X ρ c d) (ht : d = true → PXX X WT Rx ρ A { R with nx := fun _ => False }) (hr : d = false → PXX X WT Rx ρ sts R) : PXX X WT Rx ρ (.If c A [] pos :: sts) R := by
  have k1 : PSs X A (fun D σ H => d = true ∧ tX WT Rx ρ { R with nx := fun _ => False } D σ H) := ⟨fun pins s σ H D I ⟨z, q⟩ => (ht z).run pins s σ H D I q⟩
  have k2 : PSs X sts (fun D σ H => d = false ∧ tX WT Rx ρ R D σ H) := ⟨fun pins s σ H D I ⟨z, q⟩ => (hr z).run pins s σ H D I q⟩
  refine PSsimp (pss_cons (ps_if hc k1 pss_nil) k2) fun D σ H ⟨C, hh, q, w⟩ => ⟨C, hh, fun H' e1 => ?_⟩
  cases d with
  | true =>
    rw [if_pos rfl]
    exact ⟨rfl, C, hh.ex e1, ⟨fun _ _ _ z => z.elim, q.rt, q.bk, q.ct, q.rf⟩, w⟩
  | false =>
    rw [if_neg Bool.false_ne_true]
    exact ⟨rfl, C, hh.ex e1, q, w⟩
theorem xx_raise {W : WX} {e : Expr} (hc : X.calm = true) (tk : Takes X W) {t : L2.St → Hp → XK → Prop} (he : PMk X e t) (hw : ∀ σ H, WT σ H → t σ H fun cls d H' => W cls d σ H') (h : Rx ρ) : PXX X WT Rx ρ (.Raise (some e) none pos :: sts) R :=
  PSsimp (pss_cons (ps_raise hc tk he) pss_never) fun D σ H ⟨C, hh, q, w⟩ => hw σ H (w ρ σ H h hh)
end
end Bf
set_option Elab.async false
set_option linter.all false
set_option maxRecDepth 100000
set_option maxHeartbeats 1000000
namespace Bf
open PySem PySem.Spec PyProof.Rows L2
/-- what a turn adds: m0 pairs were met ahead of it -/
structure NI (n o : Net) (m0 r : Nat) (acc : List Pr × PLv) : Prop where
  len : acc.1.length = m0 + acc.2.length
  s : ∀ y ∈ acc.2, S01 n o y.1 ∧ y.2.length ≤ r
theorem NI.step {n o : Net} {m0 r : Nat} {acc : List Pr × PLv} (h : NI n o m0 r acc) {row : List Nat} {t : Nat × Pr} (ht : S01 n o t.2) (hr : row.length + 1 ≤ r) : NI n o m0 r (stepP row acc t) := by
  unfold stepP
  split
  · exact h
  · refine ⟨by rw [List.length_append, List.length_append, h.len]; show _ + 1 = _ + (_ + 1); omega, fun y m => ?_⟩
    rcases List.mem_append.mp m with m | m
    · exact h.s y m
    · rw [List.mem_singleton.mp m]
      exact ⟨ht, by rw [List.length_append]; exact hr⟩
theorem NI.fold {n o : Net} {m0 r : Nat} {row : List Nat} (hr : row.length + 1 ≤ r) : ∀ (l : List (Nat × Pr)) (acc : List Pr × PLv), (∀ t ∈ l, S01 n o t.2) → NI n o m0 r acc → NI n o m0 r (l.foldl (stepP row) acc)
  | [], _, _, h => h
  | t :: l, acc, ht, h => by
    rw [List.foldl_cons]
    exact NI.fold hr l _ (fun u m => ht u (List.mem_cons_of_mem _ m)) (h.step (ht t List.mem_cons_self) hr)
theorem NI.next {n o : Net} (L : Like n o) {m0 r : Nat} : ∀ (lv : PLv) (acc : List Pr × PLv), (∀ x ∈ lv, S01 n o x.1 ∧ x.2.length + 1 ≤ r) → NI n o m0 r acc → NI n o m0 r (nextP n o lv acc)
  | [], _, _, h => h
  | x :: lv, acc, hx, h => by
    obtain ⟨s, hr⟩ := hx x List.mem_cons_self
    show NI n o m0 r (nextP n o lv (goP n o x acc))
    refine NI.next L lv _ (fun y m => hx y (List.mem_cons_of_mem _ m)) ?_
    unfold goP
    refine NI.fold hr _ _ (fun t m => ?_) h
    rw [en_is L s] at m
    obtain ⟨b, mb, rfl⟩ := List.mem_map.mp m
    exact nxt_01 L s (List.mem_range.mp mb)
structure LvOk (n o : Net) (met : List Pr) (lv : PLv) : Prop where
  ml : met.length ≤ 300
  ll : lv.length ≤ met.length
  s : ∀ x ∈ lv, S01 n o x.1
  rl : ∀ x ∈ lv, x.2.length < met.length
  eq : (lv = [] ∧ lawRes n o = .alike met) ∨ (lv ≠ [] ∧ ∃ f, lawRes n o = srch n o (rowsW n.ins.length) f met (convL n.ins.length lv) ∧ 303 ≤ f + met.length)
section
variable {n o : Net} {met : List Pr} {lv : PLv}
theorem start_01 (L : Like n o) : S01 n o (startP n o) := by
  refine ⟨⟨List.length_map _, List.length_map _⟩, fun x m => ?_, fun x m => ?_⟩
  · obtain ⟨r, mr, rfl⟩ := List.mem_map.mp m
    exact (L.fn.rl r mr).1
  · obtain ⟨r, mr, rfl⟩ := List.mem_map.mp m
    exact (L.fo.rl r mr).1
theorem LvOk.start (L : Like n o) : LvOk n o [startP n o] [(startP n o, [])] :=
  ⟨by show 1 ≤ 300; decide, Nat.le_refl _, fun x m => by rw [List.mem_singleton.mp m]; exact start_01 L, fun x m => by rw [List.mem_singleton.mp m]; exact Nat.one_pos, .inr ⟨by simp, 302, rfl, Nat.le_refl _⟩⟩
theorem LvOk.bad (L : Like n o) (h : LvOk n o met lv) {pre post : PLv} {x : Pr × List Nat} {b : Nat} (e : lv = pre ++ x :: post) (hb : b < 2 ^ n.ins.length) (d : dif n o (inW n.ins.length b) x.1 = true) (ds : ∀ i, i < b → dif n o (inW n.ins.length i) x.1 = false)
    (hq : ∀ y ∈ pre, Quiet n o y.1) : lawRes n o = .part (convW n.ins.length (x.2 ++ [b])) := by
  rcases h.eq with ⟨z, _⟩ | ⟨_, f, e1, hf⟩
  · rw [z] at e
    exact absurd e.symm (by simp)
  · have hm := h.ml
    obtain ⟨g, rfl⟩ : ∃ g, f = g + 1 := ⟨f - 1, by omega⟩
    have hs := h.s
    rw [e] at hs
    have k := goL_yes L hb d ds post pre (met, []) fun y m => ⟨hs y (List.mem_append_left _ m), hq y m⟩
    rw [e1, srch, e]
    have k' : goL n o (rowsW n.ins.length) (convL n.ins.length (pre ++ x :: post)) (met, []) = .inl (convW n.ins.length (x.2 ++ [b])) := k
    rw [k']
theorem LvOk.next (L : Like n o) (h : LvOk n o met lv) (ne : lv ≠ []) (hq : ∀ y ∈ lv, Quiet n o y.1) :
    (300 < (nextP n o lv (met, [])).1.length → lawRes n o = .states) ∧ ((nextP n o lv (met, [])).1.length ≤ 300 → LvOk n o (nextP n o lv (met, [])).1 (nextP n o lv (met, [])).2 ∧
      (((nextP n o lv (met, [])).2 = [] ∧ (nextP n o lv (met, [])).1.length = met.length) ∨ met.length < (nextP n o lv (met, [])).1.length)) := by
  rcases h.eq with ⟨z, _⟩ | ⟨_, f, e1, hf⟩
  · exact absurd z ne
  · have hm := h.ml
    obtain ⟨g, rfl⟩ : ∃ g, f = g + 1 := ⟨f - 1, by omega⟩
    have k := goL_no L lv (met, []) fun y m => ⟨h.s y m, hq y m⟩
    have ni : NI n o met.length met.length (nextP n o lv (met, [])) := NI.next L lv _ (fun x m => ⟨h.s x m, h.rl x m⟩) ⟨rfl, fun y m => nomatch m⟩
    have k' : goL n o (rowsW n.ins.length) (convL n.ins.length lv) (met, []) = .inr (convA n.ins.length (nextP n o lv (met, []))) := k
    rw [srch, k'] at e1
    generalize nextP n o lv (met, []) = acc at *
    have e2 : lawRes n o = if 300 < acc.1.length then .states else if convL n.ins.length acc.2 = [] then .alike acc.1 else srch n o (rowsW n.ins.length) g acc.1 (convL n.ins.length acc.2) := e1
    refine ⟨fun hz => by rw [e2, if_pos hz], fun hz => ?_⟩
    rw [if_neg (by omega)] at e2
    have len := ni.len
    have lz : acc.2 = [] ∨ met.length < acc.1.length := by
      cases q : acc.2 with
      | nil => exact .inl rfl
      | cons a l =>
        rw [q] at len
        have : (a :: l).length = l.length + 1 := rfl
        exact .inr (by omega)
    refine ⟨⟨hz, by omega, fun x m => (ni.s x m).1, fun x m => ?_, ?_⟩, ?_⟩
    · have := (ni.s x m).2
      rcases lz with q | q
      · rw [q] at m
        cases m
      · omega
    · by_cases q : acc.2 = []
      · refine .inl ⟨q, ?_⟩
        rw [if_pos (by rw [q]; rfl)] at e2
        exact e2
      · refine .inr ⟨q, g, ?_, ?_⟩
        · rw [if_neg (by unfold convL; simpa using q)] at e2
          exact e2
        · rcases lz with q' | q'
          · exact absurd q' q
          · omega
    · rcases lz with q | q
      · refine .inl ⟨q, ?_⟩
        rw [q] at len
        exact len
      · exact .inr q
end
end Bf
set_option Elab.async false
set_option linter.all false
set_option maxRecDepth 100000
set_option maxHeartbeats 4000000
namespace Bf
open PySem PySem.Spec PyProof.Rows L2
/-! ### the truth of a list; is not None -/
theorem pt_list {X : Cx} {ρ : Rho} {s : Bool} {e : Expr} {l : List PyData} (h : PX X ρ s e (.list l)) (he : ∀ whole, isTrue e X.env whole = (do let v ← whole; standAt e.pos; holding [v] (truthy v)) := by intro _; rfl) : PXt X ρ e (!l.isEmpty) := PTimp (pt_truth h he) fun σ H Q ⟨C, hh, q⟩ =>
  ⟨C, hh, fun v H1 e1 g1 => by
    obtain ⟨a, vs, rfl, _, h1, h2⟩ := g1
    refine ⟨!l.isEmpty, .inl ⟨vs, .inl (.inl h1), ?_⟩, q H1 e1⟩
    have := h2.length
    cases l <;> cases vs <;> simp_all⟩
def isNo : PyData → Bool
  | .none => true
  | _ => false
theorem Is.non {M : Ad} {H : Hp} : ∀ {x : PyData} {v : V}, Is M H x v → decide (v = .non) = isNo x
  | .none, v, h => by rw [show v = .non from h]; rfl
  | .bool _, v, h => by rw [show v = .bl _ from h]; rfl
  | .int _, v, h => by rw [show v = .int _ from h]; rfl
  | .str _, v, h => by rw [show v = .str _ from h]; rfl
  | .list _, v, h => by obtain ⟨a, vs, h1, _⟩ := h; rw [h1]; rfl
  | .tuple _, v, h => by obtain ⟨a, vs, h1, _⟩ := h; rw [h1]; rfl
  | .dict _, v, h => by obtain ⟨a, h1, _⟩ := h; rw [h1]; rfl
theorem pt_isnt {X : Cx} {ρ : Rho} {e : Expr} {x : PyData} {j : Nat} {pos pos' : Pos} (h : PX X ρ false e x) : PXt X ρ (.Compare e [.IsNot] [.Constant .none j pos'] pos) (!isNo x) := PTimp (pt_cmp (L2.pc_notN h) (nomark _)) fun σ H Q ⟨C, hh, q⟩ => ⟨C, hh, fun v H1 e1 g => by
  refine ⟨_, rfl, ?_⟩
  rw [g.non]
  exact q H1 e1⟩
/-! ### data do not lie where a function lies -/
mutual
theorem Is.offF {M : Ad} {H : Hp} {d : Addr} {o : Obj} (hd : H d = some (.frz o pinT)) : ∀ {x : PyData} {v : V}, Is M H x v → Is (fun a => M a ∨ a = d) H x v
  | .none, _, h => h
  | .bool _, _, h => h
  | .int _, _, h => h
  | .str _, _, h => h
  | .list _, _, h => by
    obtain ⟨a, vs, h1, h2, h3, h4⟩ := h
    exact ⟨a, vs, h1, (fun m => m.elim h2 fun e => (by rw [e, hd] at h3; cases h3)), h3, IsAll.offF hd h4⟩
  | .tuple _, _, h => by
    obtain ⟨a, vs, h1, h2, h3, h4⟩ := h
    exact ⟨a, vs, h1, (fun m => m.elim h2 fun e => (by rw [e, hd] at h3; cases h3)), h3, IsAll.offF hd h4⟩
  | .dict _, _, h => by
    obtain ⟨a, h1, h2, h3⟩ := h
    exact ⟨a, h1, (fun m => m.elim h2 fun e => (by rw [e, hd] at h3; cases h3)), h3⟩
theorem IsAll.offF {M : Ad} {H : Hp} {d : Addr} {o : Obj} (hd : H d = some (.frz o pinT)) : ∀ {xs : List PyData} {vs : List V}, IsAll M H xs vs → IsAll (fun a => M a ∨ a = d) H xs vs
  | [], [], _ => True.intro
  | _ :: _, _ :: _, h => ⟨Is.offF hd h.1, IsAll.offF hd h.2⟩
  | [], _ :: _, h => h
  | _ :: _, [], h => h
end
abbrev no0 : Ad := fun _ => False
/-- what search_levels answers -/
def slD : Res → PyData
  | .part r => .tuple [.str "bad", wayD r]
  | .alike m => .tuple [.str "closed", .tuple ((srtP m).map pairD)]
  | .states => .none
abbrev SlRes (F : LamF) (CT : Addr) (H : Hp) (Q : VK) (E : XK) : Prop :=
  (lawRes F.n F.o ≠ .states → ∀ v H', Ex H H' → Is no0 H' (slD (lawRes F.n F.o)) v → Q v H') ∧ (lawRes F.n F.o = .states → ∀ d H', Ex H H' → H' d = none → E (.ref CT) (some d) (upd H' d (.xd [(("part" : Str), V.str "states")])))
structure SlPre (P : Program) (w : World) (K : PySem.W.Frag) (mg : Str → Option Value) (base : Heap) (F : LamF) (vs : List V) (H : Hp) : Prop where
  vs : ∃ v0, vs = [v0, .ref F.f, .int (F.n.ins.length : Nat)] ∧ Is no0 H (pairD (startP F.n F.o)) v0
  fn : (oFn F).is no0 H F.f
  ok : LamOk F
  runs : LkRuns P w K mg base 6 F
  like : Like F.n F.o
def spSl (P : Program) (w : World) (K : PySem.W.Frag) (mg : Str → Option Value) (base : Heap) (CT : Addr) : Sp := fun vs H Q E => ∃ F, SlPre P w K mg base F vs H ∧ SlRes F CT H Q E
/-- a def that may raise -/
structure CalX (P : Program) (w : World) (K : PySem.W.Frag) (mg : Str → Option Value) (base : Heap) (k : Nat) (x : Str) (ps : List Str) (sp : Sp) : Prop where
  ex : ∃ f fd, mg x = some (.ref f) ∧ FnOk P w K mg base (L2.CX P w) k f fd ps sp ∧ PySem.W.keepIn K (.ref f) = true ∧ L2.Binds K fd ps []
section
variable {P : Program} {w : World} {K : PySem.W.Frag} {mg : Str → Option Value} {base : Heap} {CT fI cc cda : Addr}
theorem LamOk.pin {F : LamF} (O : LamOk F) {H : Hp} (a : F.At H) : F.f ≠ F.c1 ∧ F.f ≠ F.c2 ∧ F.f ≠ F.cc := by
  obtain ⟨cl, pm, ctv, hof, _⟩ := O.obj
  obtain ⟨u1, d1, _⟩ := O.h1
  obtain ⟨u2, d2, _⟩ := O.h2
  have f := a.f
  refine ⟨fun z => ?_, fun z => ?_, fun z => ?_⟩
  · rw [z, a.c1] at f
    have e : F.o1 = F.of := (HO.frz.inj (Option.some.inj f)).1
    rw [e, hof] at d1
    cases d1
  · rw [z, a.c2] at f
    have e : F.o2 = F.of := (HO.frz.inj (Option.some.inj f)).1
    rw [e, hof] at d2
    cases d2
  · rw [z, a.cc] at f
    cases f
theorem sl_start {F : LamF} {vs : List V} {H : Hp} (h : SlPre P w K mg base F vs H) : Holds (callC no0 (fun j a => j = 1 ∧ a = F.f) H) ([SV.d (pairD (startP F.n F.o)), .o false (oFn F), .d (nD F.n.ins.length)].map some) (vs.map some) H := by
  obtain ⟨v0, rfl, i0⟩ := h.vs
  obtain ⟨_, _, _, _, at_, i1, i2⟩ := h.fn
  obtain ⟨n1, n2, n3⟩ := h.ok.pin at_
  let ρ : Rho := [SV.d (pairD (startP F.n F.o)), .o false (oFn F), .d (nD F.n.ins.length)].map some
  have al : ∀ a, All (callC no0 (fun j a => j = 1 ∧ a = F.f) H) ([SV.d (pairD (startP F.n F.o)), .o false (oFn F), .d (nD F.n.ins.length)].map some) ([v0, V.ref F.f, .int (F.n.ins.length : Nat)].map some) a → a = F.f := fun a m => by
    rcases m with m | m | ⟨i, l, p, e1, e2⟩
    · exact m.elim
    · obtain ⟨j, m⟩ := m
      exact m.2
    · match i, e1, e2 with
      | 0, e1, _ => cases e1
      | 1, _, e2 => cases e2; rfl
      | 2, e1, _ => cases e1
      | i + 3, e1, _ => cases e1
  have wk : ∀ {x v}, Is no0 H x v → Is (All (callC no0 (fun j a => j = 1 ∧ a = F.f) H) ([SV.d (pairD (startP F.n F.o)), .o false (oFn F), .d (nD F.n.ins.length)].map some) ([v0, V.ref F.f, .int (F.n.ins.length : Nat)].map some)) H x v := fun h => Is.weak (fun a m _ => .inr (al a m)) (Is.offF at_.f h)
  refine ⟨rfl, fun i x e => ?_, fun i l p e => ?_, fun i j l l' p q a e1 e2 _ _ => ?_, fun a o e _ => e, fun a m => m.elim, fun j a m => ?_, fun a m => m.elim id fun z => z.elim, fun W Hs z => z.elim⟩
  · match i, e with
    | 0, e => cases e; exact ⟨v0, rfl, wk i0⟩
    | 1, e => cases e
    | 2, e => cases e; exact ⟨_, rfl, rfl⟩
    | i + 3, e => cases e
  · match i, e with
    | 0, e => cases e
    | 1, e =>
      cases e
      exact ⟨F.f, rfl, ⟨rfl, fun m => n1 (al _ m).symm, fun m => n2 (al _ m).symm, fun m => n3 (al _ m).symm, at_, wk i1, wk i2⟩, fun z => z, (if_neg Bool.false_ne_true).mpr ⟨rfl, rfl⟩⟩
    | 2, e => cases e
    | i + 3, e => cases e
  · have one : ∀ {i : Nat} {l : Bool} {p : OP}, ([SV.d (pairD (startP F.n F.o)), .o false (oFn F), .d (nD F.n.ins.length)].map some)[i]? = some (some (.o l p)) → i = 1 := fun {i l p} e => by
      match i, e with
      | 0, e => cases e
      | 1, e => rfl
      | 2, e => cases e
      | i + 3, e => cases e
    rw [one e1, one e2]
  · obtain ⟨rfl, rfl⟩ := m
    exact ⟨ne_none at_.f, _, rfl, rfl⟩
theorem sl_ex {F : LamF} {H H' : Hp} {ρ : Rho} {σ : L2.St} (a0 : F.At H) (h : Holds (callC no0 (fun j a => j = 1 ∧ a = F.f) H) ρ σ H') (h1 : ρ[1]? = some (some (.o false (oFn F)))) : Ex H H' := fun a o e => by
  by_cases z : a = F.f
  · obtain ⟨b, _, ⟨_, _, _, _, at_, _⟩, _⟩ := h.own 1 false _ h1
    rw [z, a0.f] at e
    cases e
    rw [z]
    exact at_.f
  · exact h.fr a o e fun ⟨j, m⟩ => z m.2
end
end Bf
set_option Elab.async false
set_option linter.all false
set_option maxRecDepth 100000
set_option maxHeartbeats 8000000
namespace Bf
open PySem PySem.Spec PyProof.Rows L2
section
variable {P : Program} {w : World} {K : PySem.W.Frag} {mg : Str → Option Value} {base : Heap} {CT fI cc cda : Addr}
abbrev slR (P : Program) (w : World) (F : LamF) (met : List Pr) (lv : PLv) (o5 o6 o7 o8 o9 : Option SV) : Rho :=
  [some (.d (pairD (startP F.n F.o))), some (.o false (oFn F)), some (.d (nD F.n.ins.length)), some (.o true (oN P w met)), some (.d (.list (lv.map plvD))), o5, o6, o7, o8, o9, none]
theorem ok_search_levels (F0 : Has K mg "search_levels" S_search_levels) (B : Blt mg) (T : TmTxt P K mg CT fI cc cda) (hM : ∃ t, mg "MOST_STATES" = some (.int 300 t)) (Iw : Cal P w K mg base 1 "inputs_with" P_inputs_with spInW) (Nl : Cal P w K mg base 1 "next_level" P_next_level (spNext P w)) :
    CalX P w K mg base 8 "search_levels" P_search_levels (spSl P w K mg base CT) := by
  obtain ⟨f, fd, hm, F1⟩ := F0.ex
  refine ⟨f, fd, hm, F1.ok (CX := L2.CX P w) sc_search_levels (fun vs H Q E h => ?_) (fun cdv A outer s H vs Q E hr h => ?_), F1.kp, FunD.bindsN F1 (fun _ _ _ _ _ _ us hl => match us, hl with | [_, _, _], _ => rfl)⟩
  · obtain ⟨F, h, _⟩ := h
    obtain ⟨v0, rfl, _⟩ := h.vs
    rfl
  obtain ⟨F, h, r1, r2⟩ := h
  have nd := sc_search_levels.nd
  have hun : (cxOf (L2.CX P w) P w K mg base N_search_levels "search_levels" (defScope S_search_levels) f cdv A outer s H E).A.units + 64 < cLine := hr.units
  have O := h.ok
  have L := h.like
  have hF : LkRuns P w K mg base 6 F := h.runs
  have hk6 := L.k6
  have at0 : F.At H := h.fn.2.2.2.2.1
  have st := sl_start h
  have st1 := st.pad (N_search_levels.length - 3) (N_search_levels.length - 3) rfl
  obtain ⟨v0, ev, _⟩ := h.vs
  subst ev
  let R : Po := { nx := fun _ => False, rt := fun y ρ => ρ[1]? = some (some (.o false (oFn F))) ∧ lawRes F.n F.o ≠ .states ∧ y = slD (lawRes F.n F.o) }
  let Rx : Rho → Prop := fun ρ => ρ[1]? = some (some (.o false (oFn F))) ∧ lawRes F.n F.o = .states
  let WT : L2.St → Hp → Prop := fun _ H' => Ex H H' ∧ lawRes F.n F.o = .states
  suffices hb : PXX (cxOf (L2.CX P w) P w K mg base N_search_levels "search_levels" (defScope S_search_levels) f cdv A outer s H E) WT Rx (rho0 N_search_levels [SV.d (pairD (startP F.n F.o)), .o false (oFn F), .d (nD F.n.ins.length)]) (defBody S_search_levels) R by
    refine ⟨_, hb, _, st1, ⟨fun _ _ _ z => z.elim, fun y v ρ σ H' ⟨q1, q2, q3⟩ hh g => ?_, fun _ _ _ z => z.elim, fun _ _ _ z => z.elim, fun _ _ _ _ _ _ z => z.elim⟩, fun ρ σ H' ⟨q1, q2⟩ hh => ⟨sl_ex at0 hh q1, q2⟩⟩
    refine r1 q2 v H' (sl_ex at0 hh q1) ?_
    rw [← q3]
    exact Is.weak (fun a m _ => m.elim) g
  refine xx_cons (fun ρ => ρ = [some (.d (pairD (startP F.n F.o))), some (.o false (oFn F)), some (.d (nD F.n.ins.length)), some (.o true (oN P w [startP F.n F.o])), none, none, none, none, none, none, none]) (sd_dictN 3 (p := startP F.n F.o) nd hun (px_v 0) px_bl (sd_nil rfl)) fun ρ1 e1 => ?_
  subst e1
  refine xx_cons (fun ρ => ρ = slR P w F [startP F.n F.o] [(startP F.n F.o, [])] none none none none none) (sd_set 4 nd (x := .list ([(startP F.n F.o, [])].map plvD)) (px_lst (pxs_cons (px_tup (pxs_cons (px_v 0) (pxs_cons (px_tup pxs_nil) pxs_nil))) pxs_nil)) (sd_nil rfl)) fun ρ1 e1 => ?_
  subst e1
  refine xx_while (fun m ρ => ∃ (met : List Pr) (lv : PLv), LvOk F.n F.o met lv ∧ m = 2 * (301 - met.length) + (if lv = [] then 0 else 1) ∧ ρ = slR P w F met lv none none none none none) _ ⟨_, _, LvOk.start L, rfl, rfl⟩ (passes_of rfl) fun m ρ ⟨met, lv, hL, em, e⟩ => ?_
  subst e
  refine ⟨_, pt_list (s := true) (px_v 4), fun ht => ?_, fun hf => ?_⟩
  · have ne : lv ≠ [] := by
      intro z
      rw [z] at ht
      simp at ht
    have hml := hL.ml
    have hll := hL.ll
    refine xx_cons (fun ρ => ρ = slR P w F met lv none none (some (.d (.list (lv.map fun x => lookD F.n F.o x.1)))) none none)
      (sd_setLc 7 (own := [("state", 5), ("row", 6)]) (l := lv) (g := plvD) (f := fun x => lookD F.n F.o x.1) rfl nd rfl rfl (blkOk_by (N := N_search_levels) (sc := defScope S_search_levels) (by decide +kernel)) (piw_L (px_v 4)) (by omega)
        (fun x mx s' H' C' cl' fp' => gd_t rfl (gds_cons (gd_n 5 nd) (gds_cons (gd_n 6 nd) gds_nil)))
        (fun x mx s' H' C' cl' fp' => px_callFn 1 O hF rfl (px_v 5) (hL.s x mx).1) (sd_nil rfl)) fun ρ1 e1 => ?_
    subst e1
    refine xx_cons (fun ρ => (∀ y ∈ lv, Quiet F.n F.o y.1) ∧ ρ = slR P w F met lv none none (some (.d (.list (lv.map fun x => lookD F.n F.o x.1)))) none none) ?_ fun ρ1 ⟨hq, e1⟩ => ?_
    · refine sd_for (l := lv.zip (lv.map fun x => lookD F.n F.o x.1)) (g := fun t => .tuple [plvD t.1, id t.2])
        (fun i ρ => (∀ y ∈ lv.take i, Quiet F.n F.o y.1) ∧ ρ = slR P w F met lv none none (some (.d (.list (lv.map fun x => lookD F.n F.o x.1)))) none none) (fun _ _ => False) rfl (passes_of rfl)
        (pw_zipL rfl B.zip (px_v 4) (px_eq (px_v 7) (by rw [List.map_id]))) ⟨(fun y m => nomatch m), rfl⟩ (fun i t ρ' hti ⟨hq, e⟩ => ?_) (fun ρ' ⟨hq, e⟩ => ?_) (fun _ _ z => z.elim)
      · subst e
        obtain ⟨h1, h2⟩ := List.getElem?_zip_eq_some.mp hti
        have hi := (List.getElem?_eq_some_iff.mp h1).1
        have tm := List.mem_of_getElem? h1
        have et : t.2 = lookD F.n F.o t.1.1 := by
          rw [List.getElem?_map, h1] at h2
          exact (Option.some.inj h2).symm
        have s01 := hL.s t.1 tm
        refine ⟨[5, 6, 8, 9], slR P w F met lv (some (.d (pairD t.1.1))) (some (.d (tupD t.1.2))) (some (.d (.list (lv.map fun x => lookD F.n F.o x.1)))) (some (.d (lowD (difM F.n F.o t.1.1)))) (some (.d (.list ((behP F.n F.o t.1.1).map pairD)))), ?_, ?_⟩
        · rw [et]
          exact gd_t rfl (gds_cons (gd_t rfl (gds_cons (gd_n 5 nd) (gds_cons (gd_n 6 nd) gds_nil))) (gds_cons (gd_t rfl (gds_cons (gd_n 8 nd) (gds_cons (gd_n 9 nd) gds_nil))) gds_nil))
        · refine sd_ifr (pt_isnt (px_v 8)) (fun hb => ?_) (fun hb => ?_)
          · rcases low_dif L s01 with ⟨lo, _⟩ | ⟨b, hb2, lo, d1, d2⟩
            · rw [lo] at hb
              exact absurd hb (by decide)
            · have hl2 := hL.rl t.1 tm
              have res := hL.bad L (pre := lv.take i) (post := lv.drop (i + 1)) (x := t.1) (by
                have := List.take_append_drop i lv
                rw [List.drop_eq_getElem_cons hi] at this
                rw [← (List.getElem?_eq_some_iff.mp h1).2]
                exact this.symm) hb2 d1 d2 hq
              rw [lo]
              refine sd_retD (px_tup (pxs_cons px_str (pxs_cons (px_tupL rfl B.tuple b_tuple (px_lc (own := [("number", 10)]) (l := t.1.2 ++ [b]) (g := nD) (f := fun j => tupD (inW F.n.ins.length j)) rfl nd (blkOk_by (N := N_search_levels) (sc := defScope S_search_levels) (by decide +kernel))
                (piw_T (px_eq (px_catT (px_v 6) (px_tup (pxs_cons (px_v 8) pxs_nil)) (le1M (by rw [List.length_map]; show _ + 1 ≤ _; omega))) (y := tupD (t.1.2 ++ [b])) (by show PyData.tuple _ = PyData.tuple _; rw [List.map_append]; rfl))) (by rw [List.length_append]; show _ + 1 ≤ _; omega)
                (fun j mj s' H' C' cl' fp' => gd_n 10 nd) (fun j mj s' H' C' cl' fp' => px_call Iw (j, F.n.ins.length) hk6 (pxs_cons (px_v 10) (pxs_cons (px_v 2) pxs_nil)) (fun y e => e)))) pxs_nil))) ?_
              refine ⟨rfl, (by rw [res]; exact fun z => by cases z), ?_⟩
              rw [res]
              show _ = PyData.tuple [.str "bad", wayD (convW F.n.ins.length (t.1.2 ++ [b]))]
              unfold wayD convW
              rw [List.map_map]
              rfl
          · have qt : Quiet F.n F.o t.1.1 := by
              rcases low_dif L s01 with ⟨_, lo⟩ | ⟨b, hb2, lo, _⟩
              · exact lo
              · rw [lo] at hb
                exact absurd (show true = false from hb) (by decide)
            refine sd_end [5, 6, 8, 9] ⟨fun y my => ?_, rfl⟩
            rw [take_succ h1] at my
            rcases List.mem_append.mp my with my | my
            · exact hq y my
            · rw [List.mem_singleton.mp my]
              exact qt
      · subst e
        refine sd_nil ⟨fun y my => hq y ?_, rfl⟩
        have ll : (lv.zip (lv.map fun x => lookD F.n F.o x.1)).length = lv.length := by rw [List.length_zip, List.length_map, Nat.min_self]
        rw [ll, List.take_length]
        exact my
    · subst e1
      have hnx := hL.next L ne hq
      have hrl := hL.rl
      refine xx_cons (fun ρ => ρ = slR P w F (nextP F.n F.o lv (met, [])).1 (nextP F.n F.o lv (met, [])).2 none none (some (.d (.list (lv.map fun x => lookD F.n F.o x.1)))) none none) ?_ fun ρ1 e1 => ?_
      · refine sd_setM 4 nd (pm_call Nl (pms_s 3 rfl (pms_x (pxs_cons (px_v 4) (pxs_cons (px_v 7) pxs_nil)) ⟨⟨F.n, F.o, met, lv⟩, ?_, ⟨hml, by show lv.length ≤ _; omega, fun x mx => ?_, beh_len L⟩, fun y sv ⟨e1, e2⟩ => ?_⟩)))
        · exact ⟨rfl, ⟨_, rfl⟩, (by intro z; cases z), rfl, rfl, True.intro⟩
        · have := hrl x mx
          omega
        · subst e1 e2
          exact sd_nil rfl
      · subst e1
        generalize nextP F.n F.o lv (met, []) = acc at hnx
        refine xx_if (pt_gt (pn_lenN 3 rfl rfl B.len) (px_glob rfl hM)) (fun hg => ?_) (fun hg => ?_)
        · have h3 : 300 < acc.1.length := by
            have := of_decide_eq_true hg
            omega
          exact xx_raise rfl (takes_of rfl rfl rfl rfl) (pmk_tm T hr) (fun σ H' ⟨ex, hs⟩ d hd => r2 hs d H' ex hd) ⟨rfl, hnx.1 h3⟩
        · have h3 : acc.1.length ≤ 300 := by
            have := of_decide_eq_false hg
            omega
          obtain ⟨ok2, hd⟩ := hnx.2 h3
          refine xx_of (sd_end [7] ⟨_, ?_, _, _, ok2, rfl, rfl⟩)
          rw [em, if_neg ne]
          rcases hd with ⟨z, zl⟩ | zl
          · rw [if_pos z, zl]
            omega
          · split <;> omega
  · have z : lv = [] := by
      cases lv with
      | nil => rfl
      | cons _ _ => simp at hf
    subst z
    have hres : lawRes F.n F.o = .alike met := by
      rcases hL.eq with ⟨_, q⟩ | ⟨q, _⟩
      · exact q
      · exact absurd rfl q
    refine xx_of (sd_retD (px_tup (pxs_cons px_str (pxs_cons (px_tupL rfl B.tuple b_tuple (px_sortN 3 hun rfl rfl rfl B.sorted (srtP_perm met) (srtP_srt met))) pxs_nil))) ⟨rfl, (by rw [hres]; exact fun z => by cases z), ?_⟩)
    rw [hres]
    rfl
end
end Bf
set_option Elab.async false
set_option linter.all false
set_option maxRecDepth 100000
set_option maxHeartbeats 1000000
namespace Bf
open PySem PySem.Spec PyProof.Rows L2
def plS : Nat → PyData → Prop
  | _, .str t => PyData.canLay0 (.str t) = true
  | _, .int _ => True
  | k + 1, .tuple ds => ds.length ≤ 1000000 ∧ ∀ d ∈ ds, plS k d
  | _, _ => False
theorem all_ok {k : Nat} : ∀ {ds : List PyData}, (∀ d ∈ ds, flatD d = true ∧ d.canLay0 = true ∧ d.depth ≤ k ∧ plD k d) → flatAll ds = true ∧ PyData.canLayAll0 ds = true ∧ PyData.depthAll ds ≤ k ∧ ∀ d ∈ ds, plD k d
  | [], _ => ⟨rfl, rfl, Nat.zero_le _, fun d m => nomatch m⟩
  | d :: ds, h => by
    obtain ⟨a1, a2, a3, a4⟩ := h d List.mem_cons_self
    obtain ⟨b1, b2, b3, b4⟩ := all_ok fun e m => h e (List.mem_cons_of_mem _ m)
    refine ⟨by simp [flatAll, a1, b1], by simp [PyData.canLayAll0, a2, b2], ?_, fun e m => ?_⟩
    · simp only [PyData.depthAll]
      omega
    · rcases List.mem_cons.mp m with rfl | m
      · exact a4
      · exact b4 e m
theorem plS_ok : ∀ (k : Nat) (d : PyData), plS k d → flatD d = true ∧ d.canLay0 = true ∧ d.depth ≤ k ∧ plD k d
  | k, .str t, h => ⟨rfl, by cases k <;> simpa [plS] using h, by simp [PyData.depth], by cases k <;> simp [plD]⟩
  | k, .int t, _ => ⟨rfl, rfl, by simp [PyData.depth], by cases k <;> simp [plD]⟩
  | k + 1, .tuple ds, h => by
    have h' : ds.length ≤ 1000000 ∧ ∀ d ∈ ds, plS k d := by simpa [plS] using h
    obtain ⟨a1, a2, a3, a4⟩ := all_ok fun d m => plS_ok k d (h'.2 d m)
    refine ⟨a1, ?_, ?_, ?_⟩
    · simpa [PyData.canLay0] using a2
    · simp only [PyData.depth]
      omega
    · simp only [plD]
      exact ⟨h'.1, a4⟩
  | 0, .tuple ds, h => by simp [plS] at h
  | k, .none, h => by cases k <;> simp [plS] at h
  | k, .bool _, h => by cases k <;> simp [plS] at h
  | k, .list _, h => by cases k <;> simp [plS] at h
  | k, .dict _, h => by cases k <;> simp [plS] at h
theorem plS_good {d : PyData} (h : plS 5 d) : okD d = true ∧ plD 5 d := by
  obtain ⟨a1, a2, a3, a4⟩ := plS_ok 5 d h
  refine ⟨?_, a4⟩
  unfold okD SeqAt.shaped
  rw [a1, a2, Bool.true_and, Bool.true_and]
  exact decide_eq_true (by omega)
theorem plS_tup {k : Nat} {l : List Nat} (h : l.length ≤ 1000000) : plS (k + 1) (tupD l) := by
  simp only [tupD, plS]
  refine ⟨by rw [List.length_map]; exact h, fun d m => ?_⟩
  obtain ⟨n, _, rfl⟩ := List.mem_map.mp m
  cases k <;> simp [plS]
/-- an answer of bounded size is a good one -/
def Due.Small : Due → Prop
  | .word t => t = "unlike" ∨ t = "inputs" ∨ t = "states"
  | .part r => r.length ≤ 1000000 ∧ ∀ g ∈ r, g.length ≤ 1000000
  | .alike ps => ps.length ≤ 1000000 ∧ ∀ p ∈ ps, p.1.length ≤ 1000000 ∧ p.2.length ≤ 1000000
theorem Due.Small.good : ∀ {x : Due}, x.Small → x.Good
  | .word t, h => by
    rcases h with rfl | rfl | rfl
    · exact (show okD (.list [.str "unlike"]) = true by decide +kernel)
    · exact (show okD (.list [.str "inputs"]) = true by decide +kernel)
    · exact (show okD (.list [.str "states"]) = true by decide +kernel)
  | .part r, h => plS_good (by
    simp only [Due.d, plS]
    refine ⟨by simp, fun d m => ?_⟩
    rcases List.mem_cons.mp m with rfl | m
    · simp only [plS]
      decide +kernel
    · rw [List.mem_singleton.mp m]
      simp only [plS]
      refine ⟨by rw [List.length_map]; exact h.1, fun d m => ?_⟩
      obtain ⟨g, mg, rfl⟩ := List.mem_map.mp m
      exact plS_tup (h.2 g mg))
  | .alike ps, h => plS_good (by
    simp only [Due.d, plS]
    refine ⟨by simp, fun d m => ?_⟩
    rcases List.mem_cons.mp m with rfl | m
    · simp only [plS]
      decide +kernel
    · rw [List.mem_singleton.mp m]
      simp only [plS]
      refine ⟨by rw [List.length_map]; exact h.1, fun d m => ?_⟩
      obtain ⟨p, mp, rfl⟩ := List.mem_map.mp m
      simp only [pairD, plS]
      refine ⟨by simp, fun d m => ?_⟩
      rcases List.mem_cons.mp m with rfl | m
      · exact plS_tup (h.2 p mp).1
      · rw [List.mem_singleton.mp m]
        exact plS_tup (h.2 p mp).2)
end Bf
set_option Elab.async false
set_option linter.all false
set_option maxRecDepth 100000
set_option maxHeartbeats 1000000
namespace Bf
open PySem PySem.Spec PyProof.Rows L2
def WayOk (k t : Nat) (r : Way) : Prop := r.length ≤ t ∧ ∀ g ∈ r, g.length ≤ k
structure SI2 (n o : Net) (k t : Nat) (acc : List Pr × Lv) : Prop where
  ms : ∀ p ∈ acc.1, Sz n o p
  as : ∀ x ∈ acc.2, Sz n o x.1 ∧ WayOk k (t + 1) x.2
theorem WayOk.snoc {k t : Nat} {r : Way} {g : List Nat} (h : WayOk k t r) (hg : g.length ≤ k) : WayOk k (t + 1) (r ++ [g]) :=
  ⟨by rw [List.length_append]; have := h.1; simp; omega, fun x m => by
    rcases List.mem_append.mp m with m | m
    · exact h.2 x m
    · rw [List.mem_singleton.mp m]
      exact hg⟩
theorem goG_inv {n o : Net} {k t : Nat} {p : Pr} {row : Way} (hr : WayOk k t row) : ∀ {G : List (List Nat)} {acc : List Pr × Lv}, (∀ g ∈ G, g.length ≤ k) → SI2 n o k t acc →
    (∀ r, goG n o p row G acc = .inl r → WayOk k (t + 1) r) ∧ ∀ acc', goG n o p row G acc = .inr acc' → SI2 n o k t acc'
  | [], acc, _, h => ⟨fun r e => (nomatch e), fun acc' e => by cases e; exact h⟩
  | g :: G, acc, hG, h => by
    by_cases d : dif n o g p = true
    · refine ⟨fun r e => ?_, fun acc' e => ?_⟩
      · rw [goG, if_pos d] at e
        cases e
        exact hr.snoc (hG g List.mem_cons_self)
      · rw [goG, if_pos d] at e
        cases e
    · have hs : SI2 n o k t (stepG n o p row g acc) := by
        unfold stepG
        by_cases m : nxt n o g p ∈ acc.1
        · rw [if_pos m]
          exact h
        · rw [if_neg m]
          refine ⟨fun q mq => ?_, fun x mx => ?_⟩
          · rcases List.mem_append.mp mq with mq | mq
            · exact h.ms q mq
            · rw [List.mem_singleton.mp mq]
              exact nxt_sz _ _ _ _
          · rcases List.mem_append.mp mx with mx | mx
            · exact h.as x mx
            · rw [List.mem_singleton.mp mx]
              exact ⟨nxt_sz _ _ _ _, hr.snoc (hG g List.mem_cons_self)⟩
      have ih := goG_inv (n := n) (o := o) (p := p) hr (fun x m => hG x (List.mem_cons_of_mem _ m)) hs
      rw [goG, if_neg d]
      exact ih
theorem goL_inv {n o : Net} {k t : Nat} {G : List (List Nat)} (hG : ∀ g ∈ G, g.length ≤ k) : ∀ {lv : Lv} {acc : List Pr × Lv}, (∀ x ∈ lv, WayOk k t x.2) → SI2 n o k t acc →
    (∀ r, goL n o G lv acc = .inl r → WayOk k (t + 1) r) ∧ ∀ acc', goL n o G lv acc = .inr acc' → SI2 n o k t acc'
  | [], acc, _, h => ⟨fun r e => (nomatch e), fun acc' e => by cases e; exact h⟩
  | x :: lv, acc, hl, h => by
    have hx := goG_inv (n := n) (o := o) (p := x.1) (hl x List.mem_cons_self) hG h
    cases e : goG n o x.1 x.2 G acc with
    | inl r =>
      rw [goL_inl e]
      exact ⟨fun r' e' => by cases e'; exact hx.1 r e, fun acc' e' => (nomatch e')⟩
    | inr acc1 =>
      rw [goL_inr e]
      exact goL_inv hG (fun y m => hl y (List.mem_cons_of_mem _ m)) (hx.2 acc1 e)
theorem srch_small {n o : Net} {k : Nat} {G : List (List Nat)} (hk : k ≤ 1000) (hn : n.regs.length ≤ 1000) (ho : o.regs.length ≤ 1000) (hG : ∀ g ∈ G, g.length ≤ k) : ∀ (f t : Nat) (met : List Pr) (lv : Lv), f + t ≤ 1000 → met.length ≤ 300 → (∀ p ∈ met, Sz n o p) → (∀ x ∈ lv, WayOk k t x.2) → (srch n o G f met lv).due.Small
  | 0, t, met, lv, _, hm, hs, _ => by
    show (srtP met).length ≤ 1000000 ∧ ∀ p ∈ srtP met, p.1.length ≤ 1000000 ∧ p.2.length ≤ 1000000
    refine ⟨by rw [(srtP_perm met).length_eq]; omega, fun p m => ?_⟩
    have := hs p ((srtP_perm met).mem_iff.mp m)
    exact ⟨by rw [this.1]; omega, by rw [this.2]; omega⟩
  | f + 1, t, met, lv, hf, hm, hs, hl => by
    have iv := goL_inv (n := n) (o := o) (k := k) (t := t) hG (acc := (met, [])) hl ⟨hs, fun x m => nomatch m⟩
    rw [srch]
    cases e : goL n o G lv (met, []) with
    | inl r =>
      have h := iv.1 r e
      exact ⟨by have := h.1; omega, fun g m => by have := h.2 g m; omega⟩
    | inr acc =>
      obtain ⟨m', af⟩ := acc
      have h := iv.2 (m', af) e
      show Due.Small (Res.due (if 300 < m'.length then .states else if af = [] then .alike m' else srch n o G f m' af))
      by_cases h3 : 300 < m'.length
      · rw [if_pos h3]
        exact .inr (.inr rfl)
      · rw [if_neg h3]
        by_cases ha : af = []
        · rw [if_pos ha]
          show (srtP m').length ≤ 1000000 ∧ ∀ p ∈ srtP m', p.1.length ≤ 1000000 ∧ p.2.length ≤ 1000000
          refine ⟨by rw [(srtP_perm m').length_eq]; omega, fun p m => ?_⟩
          have := h.ms p ((srtP_perm m').mem_iff.mp m)
          exact ⟨by rw [this.1]; omega, by rw [this.2]; omega⟩
        · rw [if_neg ha]
          exact srch_small hk hn ho hG f (t + 1) m' af (by omega) (by omega) h.ms fun x m => (h.as x m).2
theorem lawDue_small {n o : Net} (fn : n.Fine) (fo : o.Fine) : (lawDue n o).Small := by
  unfold lawDue
  by_cases h : unlikeN n o = true
  · rw [if_pos h]
    exact .inl rfl
  · rw [if_neg h]
    by_cases h6 : 6 < n.ins.length
    · rw [if_pos h6]
      exact .inr (.inl rfl)
    · rw [if_neg h6]
      have hn := fn.regs
      have ho := fo.regs
      exact srch_small (k := n.ins.length) (by omega) (by omega) (by omega) (fun g m => Nat.le_of_eq (rowsW_mem m)) 302 0 _ _ (by decide) (by show 1 ≤ 300; decide) (fun p m => by
        rw [List.mem_singleton.mp m]
        exact ⟨List.length_map _, List.length_map _⟩) fun x m => by
        rw [List.mem_singleton.mp m]
        exact ⟨Nat.le_refl _, fun g mg => nomatch mg⟩
theorem Due.Small.turn : ∀ {x : Due}, x.Small → x.turn.Small
  | .word _, h => h
  | .part _, h => h
  | .alike ps, h => ⟨by rw [(srtP_perm _).length_eq, List.length_map]; exact h.1, fun p m => by
    obtain ⟨q, mq, rfl⟩ := List.mem_map.mp ((srtP_perm _).mem_iff.mp m)
    exact ⟨(h.2 q mq).2, (h.2 q mq).1⟩⟩
theorem Due.Small.pre : ∀ {x : Due}, x.Small → x.pre
  | .word t, h => by
    rcases h with rfl | rfl | rfl
    · exact (show ("unlike" : Str) ≠ "alike" by decide)
    · exact (show ("inputs" : Str) ≠ "alike" by decide)
    · exact (show ("states" : Str) ≠ "alike" by decide)
  | .part _, _ => True.intro
  | .alike _, h => h.1
end Bf
set_option Elab.async false
set_option linter.all false
set_option maxRecDepth 100000
set_option maxHeartbeats 4000000
namespace Bf
open PySem PySem.Spec PyProof.Rows L2 LamX
/-! ### data stand while tables grow -/
mutual
theorem Is.extN {M : Ad} {H H' : Hp} (e : ExtN H H') : ∀ {d : PyData} {v : V}, Is M H d v → Is M H' d v
  | .none, _, h => h
  | .bool _, _, h => h
  | .int _, _, h => h
  | .str _, _, h => h
  | .list _, _, h => by
    obtain ⟨a, vs, h1, h2, h3, h4⟩ := h
    exact ⟨a, vs, h1, h2, e _ _ h3 (fun _ z => by cases z), IsAll.extN e h4⟩
  | .tuple _, _, h => by
    obtain ⟨a, vs, h1, h2, h3, h4⟩ := h
    exact ⟨a, vs, h1, h2, e _ _ h3 (fun _ z => by cases z), IsAll.extN e h4⟩
  | .dict _, _, h => by
    obtain ⟨a, h1, h2, h3⟩ := h
    exact ⟨a, h1, h2, e _ _ h3 (fun _ z => by cases z)⟩
theorem IsAll.extN {M : Ad} {H H' : Hp} (e : ExtN H H') : ∀ {xs : List PyData} {vs : List V}, IsAll M H xs vs → IsAll M H' xs vs
  | [], [], _ => True.intro
  | _ :: _, _ :: _, h => ⟨Is.extN e h.1, IsAll.extN e h.2⟩
  | [], _ :: _, h => h
  | _ :: _, [], h => h
end
def dOnly : Rho → Bool
  | [] => true
  | some (.o _ _) :: _ => false
  | _ :: r => dOnly r
theorem dOnly_no : ∀ {ρ : Rho} {i : Nat} {l : Bool} {p : OP}, dOnly ρ = true → ρ[i]? ≠ some (some (.o l p))
  | [], i, l, p, _, z => by simp at z
  | some (.o _ _) :: _, _, _, _, h, _ => by cases h
  | none :: r, 0, _, _, _, z => by cases z
  | some (.d _) :: r, 0, _, _, _, z => by cases z
  | none :: r, i + 1, _, _, h, z => dOnly_no (ρ := r) (i := i) h z
  | some (.d _) :: r, i + 1, _, _, h, z => dOnly_no (ρ := r) (i := i) h z
abbrev nop : Nat → Addr → Prop := fun _ _ => False
theorem holds_dat {ρ : Rho} {σ : L2.St} {H : Hp} (hl : σ.length = ρ.length) (hd : dOnly ρ = true) (h : ∀ (i : Nat) (x : PyData), ρ[i]? = some (some (SV.d x)) → ∃ v : V, σ[i]? = some (some v) ∧ Is no0 H x v) : Holds (callC no0 nop H) ρ σ H :=
  ⟨hl, fun i x e => let ⟨v, h1, h2⟩ := h i x e; ⟨v, h1, Is.weak (fun a m _ => by
    rcases m with m | ⟨j, m⟩ | ⟨j, l, p, e1, _⟩
    · exact m
    · exact m
    · exact absurd e1 (dOnly_no hd)) h2⟩, fun i l p e => absurd e (dOnly_no hd), fun i j l l' p q a e => absurd e (dOnly_no hd), fun a o e _ => e, fun a m => m.elim, fun j a m => m.elim, fun a m => m.elim id fun z => z.elim, fun W Hs z => z.elim⟩
theorem Holds.dat0 {C : Cn} {ρ : Rho} {σ : L2.St} {H H' : Hp} (h : Holds C ρ σ H) (hd : dOnly ρ = true) (e : ExtN H H') : Holds (callC no0 nop H') ρ σ H' :=
  holds_dat h.len hd fun i x q => let ⟨v, h1, h2⟩ := h.dat i x q; ⟨v, h1, Is.extN e (Is.weak (fun a m _ => m.elim) h2)⟩
theorem ex_of {M : Ad} {ρ : Rho} {σ : L2.St} {H H' : Hp} (h : Holds (callC M nop H) ρ σ H') : Ex H H' := fun a o e => h.fr a o e fun ⟨_, m⟩ => m
/-- data alone, tables that grow since H0 -/
def tE (T : List (Addr × Str)) (H0 : Hp) (rt : VK) (ρ : Rho) : TS := fun D σ H => D.rt = rt ∧ dOnly ρ = true ∧ Holds (callC no0 nop H) ρ σ H ∧ ExtN H0 H ∧ LamX.Tabs T H
abbrev PSE (X : Cx) (T : List (Addr × Str)) (H0 : Hp) (rt : VK) (ρ : Rho) (sts : List Stmt) : Prop := PSs X sts (tE T H0 rt ρ)
section
variable {X : Cx} {T : List (Addr × Str)} {H0 : Hp} {rt : VK} {ρ : Rho} {sts : List Stmt} {st : Stmt} {pos p : Pos}
theorem pse_pre (Mid : Rho → Prop) (h : PSD X ρ [st] { nx := Mid, rt := fun _ _ => False }) (hr : ∀ ρ', Mid ρ' → dOnly ρ' = true ∧ PSE X T H0 rt ρ' sts) : PSE X T H0 rt ρ (st :: sts) :=
  PSsimp (pss_cons (ps_of1 h) (pss_ex (ι := Rho) (P := fun ρ' => dOnly ρ' = true ∧ PSE X T H0 rt ρ' sts) (t := fun ρ' => tE T H0 rt ρ') fun i h => h.2)) fun D σ H ⟨eD, hd, hh, ex, tb⟩ =>
    ⟨callC no0 nop H, hh, ⟨fun ρ' σ' H' m h' => ⟨ρ', hr ρ' m, eD, (hr ρ' m).1, h'.dat0 (hr ρ' m).1 (ExtN.refl _), ex.trans (ExtN.of (ex_of h')), tb.ext (ex_of h')⟩, fun _ _ _ _ _ z => z.elim, fun _ _ _ z => z.elim, fun _ _ _ z => z.elim, fun _ _ _ _ _ _ z => z.elim⟩⟩
/-- the last of it -/
theorem pse_end {good : PyData → Prop} (h : PSD X ρ sts { nx := fun _ => False, rt := fun y _ => good y }) (hq : ∀ y v H', good y → ExtN H0 H' → LamX.Tabs T H' → Is no0 H' y v → rt v H') : PSE X T H0 rt ρ sts :=
  PSsimp h fun D σ H ⟨eD, hd, hh, ex, tb⟩ => ⟨callC no0 nop H, hh, ⟨fun _ _ _ z => z.elim, fun y v ρ' σ' H' g h' i => by
    rw [eD]
    exact hq y v H' g (ex.trans (ExtN.of (ex_of h'))) (tb.ext (ex_of h')) (Is.weak (fun a m _ => m.elim) i), fun _ _ _ z => z.elim, fun _ _ _ z => z.elim, fun _ _ _ _ _ _ z => z.elim⟩⟩
/-- if c: .. (no more) -/
theorem pse_if {c : Expr} {A : List Stmt} {d : Bool} (hc : PXt X ρ c d) (ht : d = true → PSE X T H0 rt ρ A) (hf : d = false → PSE X T H0 rt ρ sts) : PSE X T H0 rt ρ (.If c A [] pos :: sts) := by
  have k1 : PSs X A (fun D σ H => d = true ∧ tE T H0 rt ρ D σ H) := ⟨fun pins s σ H D I ⟨z, q⟩ => (ht z).run pins s σ H D I q⟩
  have k2 : PSs X sts (fun D σ H => d = false ∧ tE T H0 rt ρ D σ H) := ⟨fun pins s σ H D I ⟨z, q⟩ => (hf z).run pins s σ H D I q⟩
  refine PSsimp (pss_cons (ps_if hc k1 pss_nil) k2) fun D σ H ⟨eD, hd, hh, ex, tb⟩ => ⟨_, hh, fun H' e1 => ?_⟩
  have r' : tE T H0 rt ρ D σ H' := ⟨eD, hd, hh.dat0 hd (ExtN.of e1), ex.trans (ExtN.of e1), tb.ext e1⟩
  cases d with
  | true =>
    exact And.intro rfl r'
  | false =>
    exact And.intro rfl r'
theorem pse_raise {W : WX} {e : Expr} (hc : X.calm = true) (tk : L2.Takes X W) {t : L2.St → Hp → XK → Prop} (he : PMk X e t) (hw : ∀ σ H, ExtN H0 H → LamX.Tabs T H → t σ H fun cls d H' => W cls d σ H') : PSE X T H0 rt ρ (.Raise (some e) none pos :: sts) :=
  PSsimp (pss_cons (ps_raise hc tk he) pss_never) fun D σ H ⟨eD, hd, hh, ex, tb⟩ => hw σ H ex tb
end
end Bf
set_option Elab.async false
set_option linter.all false
set_option maxRecDepth 100000
set_option maxHeartbeats 4000000
namespace Bf
open PySem PySem.Spec PyProof.Rows L2
structure UnTxt (K : PySem.W.Frag) (mg : Str → Option Value) (C : Addr) : Prop where
  gC : mg "Unlike" = some (.ref C)
  kC : PySem.W.keepIn K (.ref C) = true
  exc : PySem.W.excIn K C [Value.type "ValueError", .type "Exception", .type "BaseException", .type "object"] "ValueError.__new__" = true
  exC : PySem.W.subIn K (.ref C) (.type "BaseException") = some true
  tyC : PySem.W.typeIn K (.ref C) = some (.type "type")
/-- Unlike() -/
theorem pmk_un {X : Cx} {C : Addr} {p pos : Pos} (U : UnTxt X.K X.mg C) (hg : Gl X "Unlike" := by rfl) : PMk X (.Call (.Name "Unlike" p) [] [] pos) (fun _ H Q => Q (.ref C) none H) :=
  pmk_own0 PySem.F.excBase_ValueError U.exc U.gC U.kC (raises_own U.exC U.tyC) hg (by decide)
def spLa (CU : Addr) : Sp := fun vs H Q E => ∃ (n o : Net), IsAll no0 H [netD n, netD o] vs ∧ (unlikeN n o = false → ∀ H', Ex H H' → Q .non H') ∧ (unlikeN n o = true → ∀ H', Ex H H' → E (.ref CU) none H')
section
variable {P : Program} {w : World} {K : PySem.W.Frag} {mg : Str → Option Value} {base : Heap} {CU : Addr}
theorem ok_look_alike (F0 : Has K mg "look_alike" S_look_alike) (B : Blt mg) (U : UnTxt K mg CU) : CalX P w K mg base 1 "look_alike" P_look_alike (spLa CU) := by
  obtain ⟨f, fd, hm, F1⟩ := F0.ex
  refine ⟨f, fd, hm, F1.ok (CX := L2.CX P w) sc_look_alike (fun vs H Q E h => ?_) (fun cdv A outer s H vs Q E hr h => ?_), F1.kp, FunD.bindsN F1 (fun _ _ _ _ _ _ us hl => match us, hl with | [_, _], _ => rfl)⟩
  · obtain ⟨n, o, h, _⟩ := h
    exact h.length.symm
  obtain ⟨n, o, h, q1, q2⟩ := h
  have hun : (cxOf (L2.CX P w) P w K mg base N_look_alike "look_alike" (defScope S_look_alike) f cdv A outer s H E).A.units + 64 < cLine := hr.units
  have st : Holds (callC no0 nop H) (rho0 N_look_alike ([netD n, netD o].map SV.d)) (L2.start N_look_alike vs) H := holds_start (fun a m => m.elim) h (Nat.le_refl 2)
  let R : Po := { nx := fun _ => unlikeN n o = false, rt := fun _ _ => False }
  suffices hb : PXX (cxOf (L2.CX P w) P w K mg base N_look_alike "look_alike" (defScope S_look_alike) f cdv A outer s H E) (fun _ H' => Ex H H' ∧ unlikeN n o = true) (fun _ => unlikeN n o = true) [some (.d (netD n)), some (.d (netD o))] (defBody S_look_alike) R by
    refine ⟨_, hb, _, st, ⟨fun ρ σ H' z hh => q1 z H' (ex_of hh), fun _ _ _ _ _ z => z.elim, fun _ _ _ z => z.elim, fun _ _ _ z => z.elim, fun _ _ _ _ _ _ z => z.elim⟩, fun ρ σ H' z hh => ⟨ex_of hh, z⟩⟩
  refine xx_if (d := unlikeN n o) (pt_w (pw_o (pt_neTs (ns := n.ins) (ms := o.ins) hun (px_ixT (px_v 0) px_int rfl) (px_ixT (px_v 1) px_int rfl)) fun _ => pw_o
      (pt_neI (i := (n.outs.length : Int)) (j := (o.outs.length : Int)) (px_eq (px_lenT rfl B.len b_len (px_ixT (px_v 0) px_int rfl)) (by rw [List.length_map])) (px_eq (px_lenT rfl B.len b_len (px_ixT (px_v 1) px_int rfl)) (by rw [List.length_map]))) fun _ => pw_o1
      (pt_neI (i := (n.clms.length : Int)) (j := (o.clms.length : Int)) (px_eq (px_lenT rfl B.len b_len (px_ixT (px_v 0) px_int rfl)) (by rw [List.length_map])) (px_eq (px_lenT rfl B.len b_len (px_ixT (px_v 1) px_int rfl)) (by rw [List.length_map]))))) (fun h => ?_) (fun h => ?_)
  · exact xx_raise rfl (takes_of rfl rfl rfl rfl) (pmk_un U) (fun σ H' ⟨ex, hs⟩ => q2 hs H' ex) h
  · exact xx_nil h
end
section
variable {X : Cx} {T : List (Addr × Str)} {H0 : Hp} {rt : VK} {ρ : Rho} {sts : List Stmt} {st : Stmt} {pos p cpos : Pos} {E : XK} {CU : Addr}
theorem pse_la {k : Nat} {n o : Net} {a b : Expr} (G : CalX X.prog X.w X.K X.mg X.base k "look_alike" P_look_alike (spLa CU)) (tk : L2.Takes X (fun cls d _ H => E cls d H)) (ha : PX X ρ true a (netD n)) (hb : PX X ρ true b (netD o)) (hn : unlikeN n o = false → PSE X T H0 rt ρ sts) (hx : unlikeN n o = true → ∀ H', LamX.ExtN H0 H' → LamX.Tabs T H' → E (.ref CU) none H')
    (hr : Room k X.A := by first | assumption | exact Room.mono (by assumption) (by decide)) (hg : Gl X "look_alike" := by rfl) (he : starEach [a, b] X.env = (false, eval a X.env) :: starEach [b] X.env := by rfl) (he2 : starEach [b] X.env = (false, eval b X.env) :: starEach [] X.env := by rfl)
    (hpl : (backTo cpos (starEach [b] X.env)).any (·.1) = false := by rfl) (hs : swapsWith (.Call (.Name "look_alike" p) [a, b] [] cpos) none pos.line X.env = pure false := by rfl) : PSE X T H0 rt ρ (.Expr (.Call (.Name "look_alike" p) [a, b] [] cpos) pos :: sts) := by
  obtain ⟨f, fd, hm, F, hk, hbd⟩ := G.ex
  have hsts : PSs X sts (fun D σ H => unlikeN n o = false ∧ tE T H0 rt ρ D σ H) := ⟨fun pins s σ H D I ⟨z, q⟩ => (hn z).run pins s σ H D I q⟩
  refine PSsimp (pss_cons (ps_expr (L2.pe_call F hr hg hm hk hbd .nil (passes_call tk (E := E) fun _ _ _ _ h => h) (pxs_cons ha (pxs_cons hb pxs_nil he2) he) (by decide) he hpl) hs) hsts) fun D σ H ⟨eD, hd, hh, ex, tb⟩ => ?_
  refine ⟨callC no0 nop H, hh, fun vs H1 e1 g => ?_⟩
  show spLa CU (vs ++ []) H1 _ E
  rw [List.append_nil]
  have g0 : IsAll no0 H1 [netD n, netD o] vs := IsAll.weak (fun a m _ => m.elim) g
  refine ⟨n, o, g0, fun z H' e2 => ⟨z, eD, hd, hh.dat0 hd (LamX.ExtN.of (e1.trans e2)), ex.trans (LamX.ExtN.of (e1.trans e2)), tb.ext (e1.trans e2)⟩, fun z H' e2 => hx z H' (ex.trans (LamX.ExtN.of (e1.trans e2))) (tb.ext (e1.trans e2))⟩
end
end Bf
set_option Elab.async false
set_option linter.all false
set_option maxRecDepth 100000
set_option maxHeartbeats 4000000
namespace Bf
open PySem PySem.Spec PyProof.Rows L2 NdefX LamX
section
variable {X : Cx} {pins : List (Addr × Obj)} {σ : L2.St} {H : Hp} {s : Shared}
/-- as LamX.lam_make2, and the function is new -/
theorem lam_new {T : List (Addr × Str)} {c P : Addr} {params : Arguments} {body : Expr} {scope : Scope} {pos : Pos} {E : Value → Shared → Prop} {Q : Value → Shared → Prop} (I : Inv X pins σ H s) (TB : TabB X.base X.mg c P) (hcode : X.env.code = .ref c)
    (hT : LamX.Tabs T H) (hm : (P, X.env.qual ++ "<lambda>") ∈ T) (hu : ∀ p ∈ T, p.1 = P → p.2 = X.env.qual ++ "<lambda>") (hdef : defaultsOf params X.env = ([], [])) (hfree : ∀ y ∈ scope.names, y.2 = .free → ∃ c, X.env.cells.lookup y.1 = some c)
    (h : ∀ (f c' : Addr) (pm ctv : Value) (H1 : Hp) (s' : Shared), Inv X pins σ H1 s' → ExtN H H1 → LamX.Tabs T H1 → H1 c' = some (CodeO c' (X.env.qual ++ "<lambda>")) → s.heap.objs.size ≤ f → H1 f = none →
      s'.heap.get? f = some (PySem.W.kla_obj "<lambda>" (X.env.qual ++ "<lambda>") params body scope (cloFrom X.env.cells scope.names []) pm c' ctv) → Q (.ref f) s') :
    wpAny (model X.prog X.w) X.A (eval (.Lambda params body scope pos) X.env) Q E s := by
  obtain ⟨ps, hP, ht, ha⟩ := hT _ hm
  have hP' : s.heap.get? P = some { cls := .none, data := .fields ps } := I.hok P _ hP
  have bP := TB.bm.keeps I.bk
  refine PySem.W.kla_eval hdef ?_
  cases hc : codeAmong pos ps.toList with
  | some cv =>
    obtain ⟨c', e, hco⟩ := ha pos cv hc
    rw [e] at hc
    refine PySem.W.kla_makeFunctionHit (mg := X.mg) (c := c) (P := P) (ps := ps) (closure_ok hfree) I.ok.glob (I.mod.glob.keeps I.bk) hcode (TB.code.keeps I.bk) hP' ht hc bP fun ctv h' tk hx hsz => ?_
    exact h h'.objs.size c' _ ctv H _ (I.kept fun b o e => Heap.get?_push_of_some _ (hx b o e)) (ExtN.refl H) hT hco hsz (I.hok.fresh hsz) (Heap.get?_push_size _ rfl)
  | none =>
    refine PySem.W.kla_makeFunction (mg := X.mg) (c := c) (P := P) (ps := ps) (closure_ok hfree) I.ok.glob (I.mod.glob.keeps I.bk) hcode (TB.code.keeps I.bk) hP' ht hc TB.gP bP fun c' ctv h' tk hx hge hlt hrec htb => ?_
    obtain ⟨c2, oc, vs, t, e2, hoc, hd, hv⟩ := hrec
    cases e2
    have hsz : s.heap.objs.size ≤ h'.objs.size := Nat.le_trans hge (Nat.le_of_lt hlt)
    have nC : H c' = none := I.hok.fresh hge
    have hE : ExtN H (upd (upd H P (.tbl (ps ++ #[rawInt pos.line, rawInt pos.col, .ref c']))) c' (CodeO c' (X.env.qual ++ "<lambda>"))) := fun b o e n => by
      have h1 : b ≠ c' := ne_of_none e nC
      have h2 : b ≠ P := fun z => n ps (Option.some.inj (e.symm.trans (by rw [z]; exact hP)))
      rw [upd_ne h1, upd_ne h2, e]
    have eL : (ps ++ #[rawInt pos.line, rawInt pos.col, .ref c']).toList = ps.toList ++ [rawInt pos.line, rawInt pos.col, .ref c'] := by simp
    refine h h'.objs.size c' _ ctv _ _ (inv_table (more := #[rawInt pos.line, rawInt pos.col, .ref c']) (c := c') (q := X.env.qual ++ "<lambda>") I hP (fun b o hb e => Heap.get?_push_of_some _ (hx b o hb e)) (Heap.get?_push_of_some _ htb) hge ⟨oc, vs, t, Heap.get?_push_of_some _ hoc, hd, hv⟩) hE (fun p hp => ?_) upd_same hsz ?_ (Heap.get?_push_size _ rfl)
    · by_cases hb : p.1 = P
      · refine ⟨_, by rw [hb, upd_ne (ne_of_none hP nC), upd_same], by rw [eL]; exact PySem.TriplesOk_snoc _ _ _ _ ht, fun p' cv hcv => ?_⟩
        rw [hu p hp hb]
        rw [eL] at hcv
        rcases among_app _ ht hcv with z | z
        · obtain ⟨c0, e1, e2⟩ := ha p' cv z
          exact ⟨c0, e1, hE _ _ e2 codeO_ne⟩
        · exact ⟨c', z, upd_same⟩
      · obtain ⟨ps', a1, a2, a3⟩ := hT p hp
        refine ⟨ps', by rw [upd_ne (ne_of_none a1 nC), upd_ne hb, a1], a2, fun p' cv hcv => ?_⟩
        obtain ⟨c0, e1, e2⟩ := a3 p' cv hcv
        exact ⟨c0, e1, hE _ _ e2 codeO_ne⟩
    · have n1 : h'.objs.size ≠ c' := Nat.ne_of_gt hlt
      have n2 : h'.objs.size ≠ P := Nat.ne_of_gt (Nat.lt_of_lt_of_le (Heap.lt_size hP') hsz)
      rw [upd_ne n1, upd_ne n2]
      exact I.hok.fresh hsz
end
/-- with the pins for a while, then without, behind an exception -/
theorem ub_drop {P : Program} {w : World} {L : Pins} {H H' : Hp} {h h' B : Heap} {fs : List Addr} (u : UB fs (addL L H) H' h B h') (hok' : HOk P w H' B) (hn : ∀ b o, L.lookup b = some o → H b = none) (hg : ∀ b o, L.lookup b = some o → h.get? b = some o) : UB fs H (dropL L H') h B h' ∧ HOk P w (dropL L H') B := by
  have hz : ∀ b o, L.lookup b = some o → H' b = some (.frz o pinT) := fun b o z => u.frzs b o _ (addL_in z)
  refine ⟨⟨fun b o e n nf => ?_, fun b o e nf => u.slot b o e nf, fun b o e n => ?_, u.there, fun b xs e => ?_, fun b o x e => ?_, fun b ps e => ?_⟩, hok_drop hok' fun b o z x e => by
    rw [hz b o z] at e
    cases e
    exact ⟨_, _, rfl⟩⟩
  · cases z : L.lookup b with
    | none => exact u.keep b o e (by rw [addL_out z]; exact n) nf
    | some o' =>
      rw [hg b o' z] at e
      cases e
      exact frz_get hok' (hz _ _ z)
  · cases z : L.lookup b with
    | none =>
      rw [dropL_out z]
      exact u.free b o e (by rw [addL_out z]; exact n)
    | some o' => exact dropL_in z
  · cases z : L.lookup b with
    | none =>
      rw [dropL_out z]
      exact u.tups b xs (by rw [addL_out z]; exact e)
    | some o' => rw [hn b o' z] at e; cases e
  · cases z : L.lookup b with
    | none =>
      rw [dropL_out z]
      exact u.frzs b o x (by rw [addL_out z]; exact e)
    | some o' => rw [hn b o' z] at e; cases e
  · cases z : L.lookup b with
    | none =>
      rw [dropL_out z]
      exact u.tbls b ps (by rw [addL_out z]; exact e)
    | some o' => rw [hn b o' z] at e; cases e
end Bf
set_option Elab.async false
set_option linter.all false
set_option maxRecDepth 100000
set_option maxHeartbeats 4000000
namespace Bf
open PySem PySem.Spec PyProof.Rows L2 NdefX LamX
theorem lam_free : ∀ y ∈ lamC.names, y.2 = NameKind.free → y.1 = ("net" : Str) ∨ y.1 = ("other" : Str) := by decide +kernel
theorem lam_fr1 : lamC.names.lookup ("net" : Str) = some .free ∧ lamC.names.lookup ("other" : Str) = some .free := by decide +kernel
theorem Inv.unpin {X : Cx} {pins more : List (Addr × Obj)} {σ : L2.St} {H : Hp} {s : Shared} (I : Inv X (pins ++ more) σ H s) : Inv X pins σ H s :=
  ⟨I.ok, I.os, I.bare, I.base, I.loc, I.cell, I.free, I.freeC, fun p hp => I.pin p (by
    rcases List.mem_append.mp hp with z | z
    · exact List.mem_append_left _ z
    · exact List.mem_append_right _ (List.mem_append_left _ z)), I.hok, I.len⟩
section
variable {X : Cx} {T : List (Addr × Str)} {ρ : Rho} {n o : Net} {CT c Pt : Addr} {E : XK}
/-- what the call of search_levels with the lambda asks and gives -/
def tSl (T : List (Addr × Str)) (ρ : Rho) (n o : Net) (CT : Addr) (E : XK) : TE := fun σ H Q => Holds (callC no0 nop H) ρ σ H ∧ LamX.Tabs T H ∧
  (lawRes n o ≠ .states → ∀ v H', ExtN H H' → LamX.Tabs T H' → Is no0 H' (slD (lawRes n o)) v → Q v H') ∧
  (lawRes n o = .states → ∀ d H', ExtN H H' → LamX.Tabs T H' → H' d = some (.xd [(("part" : Str), V.str "states")]) → E (.ref CT) (some d) H')
theorem pe_srch {k : Nat} {e1 e3 : Expr} {p lpos cpos : Pos} (G : CalX X.prog X.w X.K X.mg X.base k "search_levels" P_search_levels (spSl X.prog X.w X.K X.mg X.base CT)) (Lk : Cal X.prog X.w X.K X.mg X.base 5 "look_at_pair" P_look_at_pair spLook) (L : Like n o) (tk : L2.Takes X (fun cls d _ H => E cls d H))
    (TB : TabB X.base X.mg c Pt) (hcode : X.env.code = .ref c) (hm : (Pt, X.env.qual ++ "<lambda>") ∈ T) (hu : ∀ p ∈ T, p.1 = Pt → p.2 = X.env.qual ++ "<lambda>") (hd : dOnly ρ = true)
    (hN0 : X.N[0]? = some ("net" : Str)) (hN1 : X.N[1]? = some ("other" : Str)) (hk1 : X.env.scope.names.lookup ("net" : Str) = some .cell) (hk2 : X.env.scope.names.lookup ("other" : Str) = some .cell) (hρ0 : ρ[0]? = some (some (.d (netD n)))) (hρ1 : ρ[1]? = some (some (.d (netD o)))) (hfn : ∀ x, X.fn x = true)
    (h1 : PX X ρ true e1 (pairD (startP n o))) (h3 : PX X ρ true e3 (nD n.ins.length)) (hr : Room k X.A) (hg : Gl X "search_levels") (hdef : defaultsOf lamA X.env = ([], []))
    (he : starEach [e1, .Lambda lamA lamB lamC lpos, e3] X.env = (false, eval e1 X.env) :: starEach [.Lambda lamA lamB lamC lpos, e3] X.env) (he2 : starEach [.Lambda lamA lamB lamC lpos, e3] X.env = [(false, eval (.Lambda lamA lamB lamC lpos) X.env), (false, eval e3 X.env)]) :
    PE X (.Call (.Name "search_levels" p) [e1, .Lambda lamA lamB lamC lpos, e3] [] cpos) (tSl T ρ n o CT E) := by
  obtain ⟨g, fd, hmg, F, hk, hbd⟩ := G.ex
  refine ⟨fun pins s σ H Q I ⟨hh, hT, q1, q2⟩ => ?_⟩
  have hvis1 : Vis X.env.scope ("net" : Str) := .inr (.inl hk1)
  have hvis2 : Vis X.env.scope ("other" : Str) := .inr (.inl hk2)
  refine wpAny_Call_Name_kw (ld_glob I hg hmg ?_ (by decide))
  refine PySem.W.callWith_K (h₀ := X.base) I.ok.mod.kin hk ?_ he (by rw [he2]; rfl)
  rw [he, he2]
  show wpAny _ _ (spliced [(false, eval e1 X.env), (false, eval (.Lambda lamA lamB lamC lpos) X.env), (false, eval e3 X.env)]) _ _ s
  -- the start
  refine Calls.spliced_cons (thn (h1.run pins s σ H (fun v H1 => Ex H H1 ∧ Is no0 H1 (pairD (startP n o)) v) I ⟨_, hh, fun v H1 ex iv => ⟨ex, Is.weak (fun a m _ => m.elim) iv⟩⟩) fun u1 s1 ⟨v1, H1, I1, r1, ex1, iv1⟩ => ?_)
  -- the lambda
  refine Calls.spliced_cons (lam_new I1 TB hcode (hT.ext ex1) hm hu hdef (fun y hy e => ?_) fun f c' pm ctv H2 s2 I2 eN2 T2 hc' hfs hfn2 hof => ?_)
  · rcases lam_free y hy e with z | z
    · rw [z]; exact I1.ok.has _ (.inl hk1)
    · rw [z]; exact I1.ok.has _ (.inl hk2)
  have hN2 : ExtN H H2 := (ExtN.of ex1).trans eN2
  have hh2 : Holds (callC no0 nop H2) ρ σ H2 := hh.dat0 hd hN2
  -- the function is pinned
  have f0 : X.s_0.heap.objs.size ≤ f := Nat.le_trans I1.sz hfs
  have ffs : f ∉ X.fs := I1.nofs hfs
  have floc : f ≠ X.env.locals := fun z => by
    have := I1.lt
    rw [← z] at this
    exact Nat.lt_irrefl _ (Nat.lt_of_lt_of_le this hfs)
  have I2' : Inv X (pins ++ [(f, PySem.W.kla_obj "<lambda>" (X.env.qual ++ "<lambda>") lamA lamB lamC (cloFrom X.env.cells lamC.names []) pm c' ctv)]) σ H2 s2 :=
    ⟨I2.ok, I2.os, I2.bare, I2.base, I2.loc, I2.cell, I2.free, I2.freeC, fun q hq => by
      rw [← List.append_assoc] at hq
      rcases List.mem_append.mp hq with hq | hq
      · exact I2.pin q hq
      · rw [List.mem_singleton.mp hq]
        exact ⟨hof, hfn2, floc, ffs, fun v z => by cases z⟩, I2.hok, I2.len⟩
  -- how many inputs
  refine Calls.spliced_cons (thn (h3.run _ s2 σ H2 (fun v H3 => Ex H2 H3 ∧ v = .int (n.ins.length : Nat)) I2' ⟨_, hh2, fun v H3 ex iv => ⟨ex, iv⟩⟩) fun u3 s3 ⟨v3, H3, I3, r3, ex3, ev3⟩ => ?_)
  subst ev3
  refine Calls.spliced_nil ⟨I3.kIn, ?_⟩
  -- what is pinned for the callee
  obtain ⟨hf3, hfn3, _, _, _⟩ := I3.pin (f, _) (List.mem_append_right _ (List.mem_append_right _ List.mem_cons_self))
  have hh3 : Holds (callC no0 nop H3) ρ σ H3 := hh2.dat0 hd (ExtN.of ex3)
  obtain ⟨vn, evn, ivn⟩ := hh3.dat 0 _ hρ0
  obtain ⟨vo, evo, ivo⟩ := hh3.dat 1 _ hρ1
  obtain ⟨m, hns, hloc⟩ := I3.loc
  obtain ⟨un, rn, lkn⟩ := hloc 0 _ _ hN0 evn hvis1
  obtain ⟨uo, ro, lko⟩ := hloc 1 _ _ hN1 evo hvis2
  have isC : ∀ {x u}, X.env.scope.names.lookup x = some .cell → Look X.env s3.heap m x u → ∃ c o, X.env.cells.lookup x = some c ∧ s3.heap.get? c = some o ∧ o.data = .cell (some u) := fun {x u} hx h => by
    rcases h with ⟨z, _⟩ | ⟨_, c, hc, o, ho, hd⟩
    · have z' : X.env.scope.names.lookup x = some .local := z
      rw [hx] at z'
      cases z'
    · exact ⟨c, o, hc, ho, hd⟩
  obtain ⟨c1, o1, hc1, g1, d1⟩ := isC hk1 lkn
  obtain ⟨c2, o2, hc2, g2, d2⟩ := isC hk2 lko
  have hne : c1 ≠ c2 := fun z => by
    have := I3.ok.inj _ _ _ hc1 (by rw [z]; exact hc2)
    exact absurd this (by decide)
  have cm : ∀ {y c}, (cloFrom X.env.cells lamC.names []).lookup y = some c → X.env.cells.lookup y = some c ∧ (y = ("net" : Str) ∨ y = ("other" : Str)) := fun {y c} e => by
    rcases cloFrom_mem (PySem.mem_of_lookup e) with hm | ⟨a1, a2⟩
    · cases hm
    · have yy := lam_free _ a1 rfl
      refine ⟨?_, yy⟩
      rcases yy with z | z
      · have z' : y = ("net" : Str) := z
        rw [a2, z', hc1]
        rfl
      · have z' : y = ("other" : Str) := z
        rw [a2, z', hc2]
        rfl
  have lookC : ∀ {y}, lamC.names.lookup y = some .free → ∀ c, X.env.cells.lookup y = some c → (cloFrom X.env.cells lamC.names []).lookup y = some c := fun {y} hl c hc => by
    have hy : (y, NameKind.free) ∈ lamC.names := PySem.mem_of_lookup hl
    obtain ⟨c', h'⟩ := mem_lookup (cloFrom_has (cells := X.env.cells) (acc := []) hy)
    have := (cm h').1
    rw [hc] at this
    cases this
    exact h'
  let LF : LamF := ⟨f, c1, c2, c', PySem.W.kla_obj "<lambda>" (X.env.qual ++ "<lambda>") lamA lamB lamC (cloFrom X.env.cells lamC.names []) pm c' ctv, o1, o2, X.env.qual ++ "<lambda>", vn, vo, n, o⟩
  have O : LamOk LF := ⟨⟨_, pm, ctv, rfl, lookC lam_fr1.1 _ hc1, lookC lam_fr1.2 _ hc2, fun y c e => (cm e).2⟩, hne, ⟨un, d1, rn⟩, ⟨uo, d2, ro⟩, L.fn, L.fo, L.ins, L.k6⟩
  have ff : f ≠ c1 ∧ f ≠ c2 := ⟨(fun z => by rw [← z, hf3] at g1; cases g1; cases d1), (fun z => by rw [← z, hf3] at g2; cases g2; cases d2)⟩
  let PL : Pins := [(f, LF.of), (c1, o1), (c2, o2)]
  have lkF : PL.lookup f = some LF.of := by simp [PL, List.lookup]
  have lk1 : PL.lookup c1 = some o1 := by
    have : (c1 == f) = false := by simpa using ff.1.symm
    simp [PL, List.lookup, this]
  have lk2 : PL.lookup c2 = some o2 := by
    have : (c2 == f) = false := by simpa using ff.2.symm
    have k2 : (c2 == c1) = false := by simpa using hne.symm
    simp [PL, List.lookup, this, k2]
  have lkA : ∀ b o, PL.lookup b = some o → (b = f ∧ o = LF.of) ∨ (b = c1 ∧ o = o1) ∨ (b = c2 ∧ o = o2) := fun b o z => by
    have m := look_mem z
    rcases List.mem_cons.mp m with e | m
    · cases e; exact .inl ⟨rfl, rfl⟩
    · rcases List.mem_cons.mp m with e | m
      · cases e; exact .inr (.inl ⟨rfl, rfl⟩)
      · have e := List.mem_singleton.mp m
        cases e; exact .inr (.inr ⟨rfl, rfl⟩)
  have hn : ∀ b o, PL.lookup b = some o → H3 b = none := fun b o z => by
    rcases lkA b o z with ⟨rfl, _⟩ | ⟨rfl, _⟩ | ⟨rfl, _⟩
    · exact hfn3
    · exact I3.freeC _ _ hc1
    · exact I3.freeC _ _ hc2
  have hgt : ∀ b o, PL.lookup b = some o → s3.heap.get? b = some o := fun b o z => by
    rcases lkA b o z with ⟨rfl, rfl⟩ | ⟨rfl, rfl⟩ | ⟨rfl, rfl⟩
    · exact hf3
    · exact g1
    · exact g2
  have h0 : ∀ b o, PL.lookup b = some o → X.s_0.heap.objs.size ≤ b ∧ b ≠ X.env.locals := fun b o z => by
    rcases lkA b o z with ⟨rfl, _⟩ | ⟨rfl, _⟩ | ⟨rfl, _⟩
    · exact ⟨f0, floc⟩
    · exact ⟨I3.ok.cab _ _ (hfn _) hc1, I3.cne _ _ hc1⟩
    · exact ⟨I3.ok.cab _ _ (hfn _) hc2, I3.cne _ _ hc2⟩
  have hfrs : ∀ b o, PL.lookup b = some o → b ∉ frs X.stack := fun b o z hb => by
    obtain ⟨k1, k2⟩ := h0 b o z
    rcases List.mem_cons.mp (I3.stkSub b hb) with e | e
    · exact k2 e
    · obtain ⟨_, oo, ho, _⟩ := I3.ok.funs.mem e
      exact Nat.lt_irrefl _ (Nat.lt_of_lt_of_le (Heap.lt_size ho) k1)
  have exA : Ex H3 (addL PL H3) := ex_add hn
  have e0 : Env0 X.prog X.w X.K X.mg X.base X.A X.stack s3 (addL PL H3) := by
    have k := I3.env0
    refine ⟨k.frames, k.mod, fun b oo e => ⟨(k.bs b oo e).1, ?_⟩, k.bsz, k.funs, fun b hb => ?_, hok_add I3.hok hn hgt, k.bare⟩
    · cases z : PL.lookup b with
      | none => rw [addL_out z]; exact (k.bs b oo e).2
      | some o' => exact absurd (Nat.lt_of_lt_of_le (Heap.lt_size (I3.ok.bs b oo e).1) (h0 b o' z).1) (Nat.lt_irrefl _)
    · cases z : PL.lookup b with
      | none => rw [addL_out z]; exact I3.stkFree b hb
      | some o' => exact absurd hb (hfrs b o' z)
  have hN3 : ExtN H H3 := hN2.trans (ExtN.of ex3)
  have exD : ∀ {H'}, Ex (addL PL H3) H' → Ex H3 (dropL PL H') := fun {H'} ee b oo e => by
    have z : PL.lookup b = none := by
      cases z : PL.lookup b with
      | none => rfl
      | some o' => rw [hn b o' z] at e; cases e
    rw [dropL_out z]
    exact ee b oo (by rw [addL_out z]; exact e)
  have hfz : ∀ {H'}, Ex (addL PL H3) H' → ∀ b oo, PL.lookup b = some oo → ∀ u, H' b = some u → ∃ o' u', u = .frz o' u' := fun {H'} ee b oo z u e => by
    rw [ee b _ (addL_in z)] at e
    cases e
    exact ⟨_, _, rfl⟩
  have hsp : spSl X.prog X.w X.K X.mg X.base CT [v1, .ref f, .int (n.ins.length : Nat)] (addL PL H3) (fun v H' => Q v (dropL PL H')) (fun cls d H' => E cls d (dropL PL H')) := by
    refine ⟨LF, ⟨⟨v1, rfl, Is.ex exA (Is.ex ex3 (Is.extN eN2 iv1))⟩, ⟨rfl, fun z => z, fun z => z, fun z => z, ⟨addL_in lkF, addL_in lk1, addL_in lk2, exA _ _ (ex3 _ _ hc')⟩, Is.ex exA (Is.weak (fun a m _ => m.elim) ivn), Is.ex exA (Is.weak (fun a m _ => m.elim) ivo)⟩, O, lk_runs LF O Lk, L⟩, fun hs v H' ee iv => ?_, fun hs d H' ee hdn => ?_⟩
    · exact q1 hs v _ (hN3.trans (ExtN.of (exD ee))) ((T2.ext ex3).ext (exD ee)) (Is.offL (hfz ee) iv)
    · have ee2 : Ex (addL PL H3) (upd H' d (.xd [(("part" : Str), V.str "states")])) := ee.trans (Ex.new hdn)
      refine q2 hs d _ (hN3.trans (ExtN.of (exD ee2))) ((T2.ext ex3).ext (exD ee2)) ?_
      have z : PL.lookup d = none := by
        cases z : PL.lookup d with
        | none => rfl
        | some o' => rw [ee d _ (addL_in z)] at hdn; cases hdn
      rw [dropL_out z]
      exact upd_same
  refine wpAny_call (codeAny_mono (F.run X.A X.stack s3 (addL PL H3) ⟨[u1, .ref f, u3], []⟩ [u1, .ref f, u3] [v1, .ref f, .int (n.ins.length : Nat)] _ _ hr e0 ?_ (.cons r1 (.cons rfl (.cons r3 .nil))) hsp) fun r s' hq => ?_)
  · have := hbd s3 [u1, .ref f, u3] I3.kIn rfl
    rwa [List.append_nil] at this
  cases r with
  | error e =>
    obtain ⟨a, B, H', cls, d, ee, fl, hok, ub, na, os, ag, hE⟩ := hq
    obtain ⟨ub', hok'⟩ := ub_drop (P := X.prog) (w := X.w) ub hok hn hgt
    have cx : L2.CX X.prog X.w X.stack H3 s3 E e s' := ⟨a, B, dropL PL H', cls, d, ee, fl, hok', ub', dropL_none na, os, ag, hE⟩
    exact passes_call tk (E := E) (fun _ _ _ _ h => h) _ σ H3 s3 e s' I3 cx
  | ok fl =>
    cases fl with
    | ret u =>
      obtain ⟨v, H', os, bare, un', hok, rv, hQ⟩ := hq
      obtain ⟨un2, hok2⟩ := un_drop (P := X.prog) (w := X.w) un' hok hn hgt hfrs
      obtain ⟨v2, H4, I4, r4, q4⟩ := I3.after (Q := Q) ⟨v, dropL PL H', os, bare, un2, hok2, rv, hQ⟩
      exact ⟨v2, H4, Bf.Inv.unpin I4, r4, q4⟩
    | next => exact False.elim hq
    | brk => exact False.elim hq
    | cont => exact False.elim hq
end
end Bf
set_option Elab.async false
set_option linter.all false
set_option maxRecDepth 100000
set_option maxHeartbeats 4000000
namespace Bf
open PySem PySem.Spec PyProof.Rows L2 NdefX LamX
section
variable {X : Cx} {T : List (Addr × Str)} {H0 : Hp} {rt : VK} {ρ : Rho} {n o : Net} {CT c Pt : Addr} {E : XK}
theorem pse_srch {k : Nat} {e1 e3 tg : Expr} {sts : List Stmt} {p lpos cpos pos : Pos} (G : CalX X.prog X.w X.K X.mg X.base k "search_levels" P_search_levels (spSl X.prog X.w X.K X.mg X.base CT)) (Lk : Cal X.prog X.w X.K X.mg X.base 5 "look_at_pair" P_look_at_pair spLook) (L : Like n o) (tk : L2.Takes X (fun cls d _ H => E cls d H))
    (TB : TabB X.base X.mg c Pt) (hcode : X.env.code = .ref c) (hm : (Pt, X.env.qual ++ "<lambda>") ∈ T) (hu : ∀ p ∈ T, p.1 = Pt → p.2 = X.env.qual ++ "<lambda>")
    (hN0 : X.N[0]? = some ("net" : Str)) (hN1 : X.N[1]? = some ("other" : Str)) (hk1 : X.env.scope.names.lookup ("net" : Str) = some .cell) (hk2 : X.env.scope.names.lookup ("other" : Str) = some .cell) (hρ0 : ρ[0]? = some (some (.d (netD n)))) (hρ1 : ρ[1]? = some (some (.d (netD o)))) (hfn : ∀ x, X.fn x = true)
    (h1 : PX X ρ true e1 (pairD (startP n o))) (h3 : PX X ρ true e3 (nD n.ins.length)) (hr : Room k X.A) (hg : Gl X "search_levels") (hdef : defaultsOf lamA X.env = ([], []))
    (he : starEach [e1, .Lambda lamA lamB lamC lpos, e3] X.env = (false, eval e1 X.env) :: starEach [.Lambda lamA lamB lamC lpos, e3] X.env) (he2 : starEach [.Lambda lamA lamB lamC lpos, e3] X.env = [(false, eval (.Lambda lamA lamB lamC lpos) X.env), (false, eval e3 X.env)])
    (hx : lawRes n o = .states → ∀ d H', ExtN H0 H' → LamX.Tabs T H' → H' d = some (.xd [(("part" : Str), V.str "states")]) → E (.ref CT) (some d) H')
    (hrest : lawRes n o ≠ .states → ∃ ts ρ', PGD X tg ts ρ (slD (lawRes n o)) ρ' ∧ dOnly ρ' = true ∧ PSE X T H0 rt ρ' sts)
    (hs : swapsWithSole [tg] (.Call (.Name "search_levels" p) [e1, .Lambda lamA lamB lamC lpos, e3] [] cpos) pos.line X.env = pure false := by rfl) (hw : swappedStores [tg] (.Call (.Name "search_levels" p) [e1, .Lambda lamA lamB lamC lpos, e3] [] cpos) X.env = pure none := by rfl)
    (hz : (assignEach [tg] X.env).map (·.2) = [assign tg X.env] := by rfl) (hdo : dOnly ρ = true := by rfl) : PSE X T H0 rt ρ (.Assign [tg] (.Call (.Name "search_levels" p) [e1, .Lambda lamA lamB lamC lpos, e3] [] cpos) pos :: sts) :=
  PSsimp (pss_cons (ps_asg (pe_srch (ρ := ρ) (T := T) G Lk L tk TB hcode hm hu hdo hN0 hN1 hk1 hk2 hρ0 hρ1 hfn h1 h3 hr hg hdef he he2)
      (pg_ex (ι := List Nat × Rho) (P := fun i => PGD X tg i.1 ρ (slD (lawRes n o)) i.2) (t := fun i => gD i.1 ρ (slD (lawRes n o)) i.2) fun i h => h) hs hw hz) (pss_ex (ι := Rho) (P := fun ρ' => dOnly ρ' = true ∧ PSE X T H0 rt ρ' sts) (t := fun ρ' => tE T H0 rt ρ') fun i h => h.2)) fun D σ H ⟨eD, hd, hh, ex, tb⟩ =>
    ⟨hh, tb, fun hne v H' e2 t2 iv => by
      obtain ⟨ts, ρ', k1, k2, k3⟩ := hrest hne
      refine ⟨(ts, ρ'), k1, callC no0 nop H', hh.dat0 hd e2, Is.weak (fun a m _ => ?_) iv, fun σ' h' _ _ _ => ⟨ρ', ⟨k2, k3⟩, eD, k2, h', ex.trans e2, t2⟩⟩
      rcases m with m | ⟨j, m⟩ | ⟨j, l, p, e1, _⟩
      · exact m
      · exact m
      · exact absurd e1 (dOnly_no hd), fun hs d H' e2 t2 hd2 => hx hs d H' (ex.trans e2) t2 hd2⟩
end
end Bf
set_option Elab.async false
set_option linter.all false
set_option maxRecDepth 100000
set_option maxHeartbeats 4000000
namespace Bf
open PySem PySem.Spec PyProof.Rows L2 NdefX LamX
abbrev cmpQ : Str := ("compared" : Str) ++ ".<locals>." ++ "<lambda>"
abbrev cmpT (Pt : Addr) : List (Addr × Str) := [(Pt, cmpQ)]
structure CmpW (T : List (Addr × Str)) (CU CT : Addr) (n o : Net) (H : Hp) (Q : VK) (E : XK) : Prop where
  un : unlikeN n o = true → ∀ H', ExtN H H' → LamX.Tabs T H' → E (.ref CU) none H'
  ins : unlikeN n o = false → 6 < n.ins.length → ∀ d H', ExtN H H' → LamX.Tabs T H' → H' d = some (.xd [(("part" : Str), V.str "inputs")]) → E (.ref CT) (some d) H'
  sta : unlikeN n o = false → n.ins.length ≤ 6 → lawRes n o = .states → ∀ d H', ExtN H H' → LamX.Tabs T H' → H' d = some (.xd [(("part" : Str), V.str "states")]) → E (.ref CT) (some d) H'
  ok : unlikeN n o = false → n.ins.length ≤ 6 → lawRes n o ≠ .states → ∀ v H', ExtN H H' → LamX.Tabs T H' → Is no0 H' (resD (lawRes n o)) v → Q v H'
def spCmp (T : List (Addr × Str)) (CU CT : Addr) : Sp := fun vs H Q E => ∃ n o : Net, IsAll no0 H [netD n, netD o] vs ∧ n.Fine ∧ o.Fine ∧ LamX.Tabs T H ∧ CmpW T CU CT n o H Q E
theorem unlike_no {n o : Net} (h : unlikeN n o = false) : n.ins = o.ins ∧ n.outs.length = o.outs.length ∧ n.clms.length = o.clms.length := by
  unfold unlikeN at h
  simp at h
  exact ⟨h.1, by omega, by omega⟩
theorem sc_cmp_cell : (defScope S_compared).names.lookup ("net" : Str) = some .cell ∧ (defScope S_compared).names.lookup ("other" : Str) = some .cell := by decide +kernel
section
variable {P : Program} {w : World} {K : PySem.W.Frag} {mg : Str → Option Value} {base : Heap} {CU CT fI cc cda c Pt : Addr}
theorem ok_compared {f : Addr} {fd : FuncData} (hmg : mg "compared" = some (.ref f)) (F1 : FunD K "compared" "compared" (defArgs S_compared) (defBody S_compared) (defScope S_compared) [] [] f fd) (hcode : fd.code = .ref c) (TB : TabB base mg c Pt)
    (B : Blt mg) (U : UnTxt K mg CU) (Tm : TmTxt P K mg CT fI cc cda) (hM : ∃ t, mg "MOST_INPUTS" = some (.int 6 t)) (La : CalX P w K mg base 1 "look_alike" P_look_alike (spLa CU)) (Fs : Cal P w K mg base 1 "first_state" P_first_state spFst)
    (Sl : CalX P w K mg base 8 "search_levels" P_search_levels (spSl P w K mg base CT)) (Lk : Cal P w K mg base 5 "look_at_pair" P_look_at_pair spLook) :
    CalX P w K mg base 9 "compared" P_compared (spCmp (cmpT Pt) CU CT) := by
  obtain ⟨oc, od, dV, kV, doc, pm, an, cdv, ct, osl, e, lk, hcd, hdv, _⟩ := F1.ex
  refine ⟨f, fd, hmg, ?_, F1.kp, FunD.bindsN F1 (fun _ _ _ _ _ _ us hl => match us, hl with | [_, _], _ => rfl)⟩
  subst e
  have ec : cdv = .ref c := hcode
  subst ec
  refine fn_of (CX := L2.CX P w) lk hcd sc_compared (fun vs H Q E h => ?_) fun A outer s H vs Q E hr h => ?_
  · obtain ⟨n, o, h, _⟩ := h
    exact h.length.symm
  obtain ⟨n, o, h, fn, fo, hT, W⟩ := h
  have nd := sc_compared.nd
  have st : Holds (callC no0 nop H) (rho0 N_compared ([netD n, netD o].map SV.d)) (L2.start N_compared vs) H := holds_start (fun a m => m.elim) h (by show 2 ≤ 5; decide)
  suffices hb : PSE (cxOf (L2.CX P w) P w K mg base N_compared "compared" (defScope S_compared) f (.ref c) A outer s H E) (cmpT Pt) H Q [some (.d (netD n)), some (.d (netD o)), none, none, none] (defBody S_compared) from
    ⟨_, hb, rfl, rfl, st, ExtN.refl H, hT⟩
  have tk : L2.Takes (cxOf (L2.CX P w) P w K mg base N_compared "compared" (defScope S_compared) f (.ref c) A outer s H E) (fun cls d _ H => E cls d H) := takes_of rfl rfl rfl rfl
  refine pse_la La tk (px_v 0) (px_v 1) (fun hu => ?_) (fun hu => W.un hu)
  obtain ⟨u1, u2, u3⟩ := unlike_no hu
  refine pse_if (pt_gt (px_eq (px_lenT rfl B.len b_len (px_ixT (px_v 0) px_int rfl)) (by rw [List.length_map])) (px_glob rfl hM)) (fun h6 => ?_) (fun h6 => ?_)
  · have h6' : 6 < n.ins.length := by
      have := of_decide_eq_true h6
      omega
    exact pse_raise rfl tk (pmk_tm Tm hr) fun σ H1 ex tb d hd => W.ins hu h6' d _ (ex.trans (ExtN.of (Ex.new hd))) (tb.ext (Ex.new hd)) upd_same
  have h6' : n.ins.length ≤ 6 := by
    have := of_decide_eq_false h6
    omega
  have L : Like n o := ⟨fn, fo, congrArg List.length u1, h6', u2, u3⟩
  refine pse_pre (fun ρ => ρ = [some (.d (netD n)), some (.d (netD o)), some (.d (pairD (startP n o))), none, none]) (sd_set 2 nd (px_tup (pxs_cons (px_call Fs n fn (pxs_cons (px_v 0) pxs_nil) (fun y e => e)) (pxs_cons (px_call Fs o fo (pxs_cons (px_v 1) pxs_nil) (fun y e => e)) pxs_nil))) (sd_nil rfl)) fun ρ' e => ?_
  subst e
  refine ⟨rfl, ?_⟩
  refine pse_srch (n := n) (o := o) (Pt := Pt) (c := c) Sl Lk L tk TB rfl (List.mem_singleton.mpr rfl) (fun p hp _ => ?_) rfl rfl sc_cmp_cell.1 sc_cmp_cell.2 rfl rfl (fun _ => rfl) (px_v 2) (px_eq (px_lenT rfl B.len b_len (px_ixT (px_v 0) px_int rfl)) (by rw [List.length_map])) hr rfl rfl rfl rfl (fun hs d H' ex tb hd => W.sta hu h6' hs d H' ex tb hd) (fun hne => ?_)
  · rw [List.mem_singleton.mp hp]
    rfl
  have hok := W.ok hu h6' hne
  cases hres : lawRes n o with
  | states => exact absurd hres hne
  | part r =>
    rw [hres] at hok
    refine ⟨[3, 4], [some (.d (netD n)), some (.d (netD o)), some (.d (pairD (startP n o))), some (.d (.str "bad")), some (.d (wayD r))], gd_t rfl (gds_cons (gd_n 3 nd) (gds_cons (gd_n 4 nd) gds_nil)), rfl, ?_⟩
    refine pse_if (pt_eqS (t := "bad") (u := "bad") (px_v 3) px_str) (fun _ => ?_) (fun z => absurd z (by decide))
    exact pse_end (good := fun y => y = resD (.part r)) (sd_retD (px_tup (pxs_cons px_str (pxs_cons (px_v 4) pxs_nil))) rfl) fun y v H' g ex tb i => by
      subst g
      exact hok v H' ex tb i
  | alike m =>
    rw [hres] at hok
    refine ⟨[3, 4], [some (.d (netD n)), some (.d (netD o)), some (.d (pairD (startP n o))), some (.d (.str "closed")), some (.d (.tuple ((srtP m).map pairD)))], gd_t rfl (gds_cons (gd_n 3 nd) (gds_cons (gd_n 4 nd) gds_nil)), rfl, ?_⟩
    refine pse_if (pt_eqS (t := "closed") (u := "bad") (px_v 3) px_str) (fun z => absurd z (by decide)) (fun _ => ?_)
    exact pse_end (good := fun y => y = resD (.alike m)) (sd_retD (px_tup (pxs_cons px_str (pxs_cons (px_v 4) pxs_nil))) rfl) fun y v H' g ex tb i => by
      subst g
      exact hok v H' ex tb i
end
end Bf
set_option Elab.async false
set_option linter.all false
set_option maxRecDepth 100000
set_option maxHeartbeats 4000000
namespace Bf
open PySem PySem.Spec PyProof.Rows L2
/-! ### isinstance of a caught error, with fields or without -/
def DctOk (d : Option Addr) (H : Hp) : Prop := ∀ dd, d = some dd → ∃ fs, H dd = some (.xd fs)
theorem DctOk.ex {d : Option Addr} {H H' : Hp} (h : DctOk d H) (e : Ex H H') : DctOk d H' := fun dd z => let ⟨fs, q⟩ := h dd z; ⟨fs, e _ _ q⟩
section
variable {X : Cx} {a D : Addr} {oe : Obj} {d : Option Addr} {pn : List (Addr × Obj)}
theorem inst_at {pins : List (Addr × Obj)} {s : Shared} {σ : L2.St} {H : Hp} (I : Inv (X.suite a ((a, oe) :: pn)) pins σ H s) (hz : Zc (.ref D) d oe) (hf : ∃ vs, oe.data = .fields vs) (hd : DctOk d H) : ∃ od, PySem.W.InstAt s.heap a oe D od := by
  obtain ⟨ha, _⟩ := I.pin (a, oe) (List.mem_append_left _ List.mem_cons_self)
  obtain ⟨vs, hv⟩ := hf
  cases d with
  | none =>
    refine ⟨none, ?_⟩
    obtain ⟨oc, od, oda, osl⟩ := oe
    obtain ⟨h1, h2⟩ := hz
    dsimp only at h1 h2 hv
    subst h1 h2 hv
    exact ⟨ha, rfl, rfl, trivial⟩
  | some dd =>
    obtain ⟨fs, q⟩ := hd dd rfl
    have hx : ObjOk X.prog X.w H s.heap dd (.xd fs) := I.hok dd _ q
    obtain ⟨mA, hns, hr⟩ := hx
    obtain ⟨od, ho, hl⟩ := lookIn_ns hns
    exact ⟨some od, ha, hz.1, by unfold PySem.W.notCls; rw [hv] <;> rfl, by rw [hz.2]; exact ho⟩
theorem kitx {K : PySem.W.Frag} {ox : Obj} {od : Option Obj} (C : ExcC K D) : PySem.W.KitX K (.ref a) (.ref D) (fun h => PySem.W.InstAt h a ox D od) :=
  PySem.W.kitx_exc (by obtain ⟨cd, hc, _⟩ := PySem.W.any_some C.hd; rw [hc]; rfl) C.hg C.hk C.hs C.ha C.hn C.ht C.hm
/-- isinstance(e, C) -/
def rIs1 (K : PySem.W.Frag) (D a : Addr) (d : Option Addr) (cv : Addr) (b : Bool) : List V → Hp → VK → Prop := fun xs H Q => xs = [.ref a, .ref cv] ∧ DctOk d H ∧ Q (.bl b) H
theorem call_is1 {cv : Addr} {b : Bool} (C : ExcC X.K D) (hz : Zc (.ref D) d oe) (hf : ∃ vs, oe.data = .fields vs) (hk : PySem.W.kitOne X.K (.ref D) (.ref cv) = some b) : CallR (X.suite a ((a, oe) :: pn)) (.builtin "isinstance") (rIs1 X.K D a d cv b) := by
  intro pins s σ H xs us Q I r h
  obtain ⟨rfl, hd, q⟩ := h
  cases r with
  | cons rx rr =>
    cases rr with
    | cons rt rr =>
      cases rr
      cases rx
      cases rt
      obtain ⟨od, J⟩ := inst_at I hz hf hd
      exact PySem.W.kia_one (kitx C) I.kIn J hk (fun z => nomatch z) fun tk => ⟨.bl b, H, I.kept (t' := tk) fun _ _ z => z, rfl, q⟩
/-- isinstance(e, (C1, C2)) -/
def rIs2 (K : PySem.W.Frag) (D a : Addr) (d : Option Addr) (c1 c2 : Addr) (b : Bool) : List V → Hp → VK → Prop := fun xs H Q => ∃ tp, xs = [.ref a, .ref tp] ∧ H tp = some (.tup [.ref c1, .ref c2]) ∧ DctOk d H ∧ Q (.bl b) H
theorem call_is2 {c1 c2 : Addr} {b : Bool} (C : ExcC X.K D) (hz : Zc (.ref D) d oe) (hf : ∃ vs, oe.data = .fields vs) (hk : PySem.W.kitAny X.K (.ref D) [.ref c1, .ref c2] = some b) : CallR (X.suite a ((a, oe) :: pn)) (.builtin "isinstance") (rIs2 X.K D a d c1 c2 b) := by
  intro pins s σ H xs us Q I r h
  obtain ⟨tp, rfl, ht, hd, q⟩ := h
  cases r with
  | cons rx rr =>
    cases rr with
    | cons rt rr =>
      cases rr
      cases rx
      cases rt
      obtain ⟨od, J⟩ := inst_at I hz hf hd
      obtain ⟨its, rv, ⟨o, ho, hc, n, hdt⟩, _⟩ := I.tuple (a := tp) (xs := [.ref c1, .ref c2]) (.inl (.inl ht))
      have e : its = [.ref c1, .ref c2] := by
        cases rv with
        | cons r1 r2 =>
          cases r2 with
          | cons r3 r4 =>
            cases r4
            cases r1
            cases r3
            rfl
      subst e
      obtain ⟨oc, odd, odt, osl⟩ := o
      dsimp only at hc hdt
      subst hc hdt
      exact PySem.W.kia_tup (kitx C) I.kIn J ho hk (fun z => nomatch z) fun tk => ⟨.bl b, H, I.kept (t' := tk) fun _ _ z => z, rfl, q⟩
end
/-- what the package's error classes are -/
structure ErrTxt (K : PySem.W.Frag) (mg : Str → Option Value) (CF CL CG CU CT : Addr) : Prop where
  gF : mg "FabricError" = some (.ref CF)
  gL : mg "LimitError" = some (.ref CL)
  gG : mg "TooLarge" = some (.ref CG)
  gU : mg "Unlike" = some (.ref CU)
  gT : mg "TooMany" = some (.ref CT)
  eU : ExcC K CU
  eT : ExcC K CT
  fU : PySem.W.exmOne K (.ref CU) (.ref CF) = some true
  fT : PySem.W.exmOne K (.ref CT) (.ref CF) = some true
  tt : PySem.W.kitOne K (.ref CT) (.ref CT) = some true
  tl : PySem.W.kitOne K (.ref CT) (.ref CL) = some true
  tu : PySem.W.kitAny K (.ref CT) [.ref CU, .ref CG] = some false
  ut : PySem.W.kitOne K (.ref CU) (.ref CT) = some false
  uu : PySem.W.kitOne K (.ref CU) (.ref CU) = some true
  ul : PySem.W.kitOne K (.ref CU) (.ref CL) = some false
  xf : XfC K CT
  np : PySem.W.findIn K (.ref CT) "part" = some none
end Bf
set_option Elab.async false
set_option linter.all false
set_option maxRecDepth 100000
set_option maxHeartbeats 4000000
namespace Bf
open PySem PySem.Spec PyProof.Rows L2
section
variable {X : Cx} {a D : Addr} {oe : Obj} {d : Option Addr} {pn : List (Addr × Obj)} {i : Nat} {p p1 p2 p3 p3' pos : Pos} {xn nm nm2 : Str} {j : Nat}
def tI (i : Nat) (a : Addr) (d : Option Addr) (b : Bool) : TT := fun σ H Q => σ[i]? = some (some (.ref a)) ∧ DctOk d H ∧ ∀ H', Ex H H' → Q b H'
theorem pt_is1x {cv : Addr} {b : Bool} (i : Nat) (C : ExcC X.K D) (hz : Zc (.ref D) d oe) (hf : ∃ vs, oe.data = .fields vs) (hk : PySem.W.kitOne X.K (.ref D) (.ref cv) = some b) (hm : X.mg "isinstance" = none) (hm2 : X.mg nm = some (.ref cv)) (hg : Gl (X.suite a ((a, oe) :: pn)) "isinstance" := by rfl) (hg2 : Gl (X.suite a ((a, oe) :: pn)) nm := by rfl) (hN : (X.suite a ((a, oe) :: pn)).N[i]? = some xn := by rfl)
    (hv : Vis (X.suite a ((a, oe) :: pn)).env.scope xn := by first | exact Or.inl rfl | exact Or.inr (Or.inl rfl)) (hd : (xn == ("__debug__" : Str)) = false := by decide) (hcd : (xn == ("__classdict__" : Str)) = false := by decide) (hd2 : (nm == ("__debug__" : Str)) = false := by decide)
    (he : starEach [.Name xn p1, .Name nm p2] (X.suite a ((a, oe) :: pn)).env = (false, eval (.Name xn p1) (X.suite a ((a, oe) :: pn)).env) :: starEach [.Name nm p2] (X.suite a ((a, oe) :: pn)).env := by rfl) (he2 : starEach [.Name nm p2] (X.suite a ((a, oe) :: pn)).env = (false, eval (.Name nm p2) (X.suite a ((a, oe) :: pn)).env) :: starEach [] (X.suite a ((a, oe) :: pn)).env := by rfl)
    (hpl : (backTo pos (starEach [.Name nm p2] (X.suite a ((a, oe) :: pn)).env)).any (·.1) = false := by rfl) : PT (X.suite a ((a, oe) :: pn)) (.Call (.Name "isinstance" p) [.Name xn p1, .Name nm p2] [] pos) (tI i a d b) :=
  PTimp (pt_val (pe_callB (call_is1 C hz hf hk) hg hm b_isinstance (pa_cons (pe_var hN hv hd hcd) (pa_cons (pe_glob (v := .ref cv) hg2 hm2 rfl hd2) pa_nil he2) he) (by decide) (by decide) he hpl)) fun σ H Q ⟨e, hd, q⟩ => ⟨_, e, rfl, hd, b, rfl, q H (Ex.refl H)⟩
theorem pt_is2x {c1 c2 : Addr} {b : Bool} (i : Nat) (C : ExcC X.K D) (hz : Zc (.ref D) d oe) (hf : ∃ vs, oe.data = .fields vs) (hk : PySem.W.kitAny X.K (.ref D) [.ref c1, .ref c2] = some b) (hm : X.mg "isinstance" = none) (hm2 : X.mg nm = some (.ref c1)) (hm3 : X.mg nm2 = some (.ref c2)) (hg : Gl (X.suite a ((a, oe) :: pn)) "isinstance" := by rfl) (hg2 : Gl (X.suite a ((a, oe) :: pn)) nm := by rfl) (hg3 : Gl (X.suite a ((a, oe) :: pn)) nm2 := by rfl) (hN : (X.suite a ((a, oe) :: pn)).N[i]? = some xn := by rfl)
    (hv : Vis (X.suite a ((a, oe) :: pn)).env.scope xn := by first | exact Or.inl rfl | exact Or.inr (Or.inl rfl)) (hd : (xn == ("__debug__" : Str)) = false := by decide) (hcd : (xn == ("__classdict__" : Str)) = false := by decide) (hd2 : (nm == ("__debug__" : Str)) = false := by decide) (hd3 : (nm2 == ("__debug__" : Str)) = false := by decide)
    (he : starEach [.Name xn p1, .Tuple [.Name nm p2, .Name nm2 p3] j p3'] (X.suite a ((a, oe) :: pn)).env = (false, eval (.Name xn p1) (X.suite a ((a, oe) :: pn)).env) :: starEach [.Tuple [.Name nm p2, .Name nm2 p3] j p3'] (X.suite a ((a, oe) :: pn)).env := by rfl)
    (he2 : starEach [.Tuple [.Name nm p2, .Name nm2 p3] j p3'] (X.suite a ((a, oe) :: pn)).env = (false, eval (.Tuple [.Name nm p2, .Name nm2 p3] j p3') (X.suite a ((a, oe) :: pn)).env) :: starEach [] (X.suite a ((a, oe) :: pn)).env := by rfl)
    (he3 : starEach [.Name nm p2, .Name nm2 p3] (X.suite a ((a, oe) :: pn)).env = (false, eval (.Name nm p2) (X.suite a ((a, oe) :: pn)).env) :: starEach [.Name nm2 p3] (X.suite a ((a, oe) :: pn)).env := by rfl) (he4 : starEach [.Name nm2 p3] (X.suite a ((a, oe) :: pn)).env = (false, eval (.Name nm2 p3) (X.suite a ((a, oe) :: pn)).env) :: starEach [] (X.suite a ((a, oe) :: pn)).env := by rfl)
    (hpl : (backTo pos (starEach [.Tuple [.Name nm p2, .Name nm2 p3] j p3'] (X.suite a ((a, oe) :: pn)).env)).any (·.1) = false := by rfl) : PT (X.suite a ((a, oe) :: pn)) (.Call (.Name "isinstance" p) [.Name xn p1, .Tuple [.Name nm p2, .Name nm2 p3] j p3'] [] pos) (tI i a d b) :=
  PTimp (pt_val (pe_callB (call_is2 C hz hf hk) hg hm b_isinstance (pa_cons (pe_var hN hv hd hcd) (pa_cons (pe_tup (pa_cons (pe_glob (v := .ref c1) hg2 hm2 rfl hd2) (pa_cons (pe_glob (v := .ref c2) hg3 hm3 rfl hd3) pa_nil he4) he3)) pa_nil he2) he) (by decide) (by decide) he hpl)) fun σ H Q ⟨e, hd, q⟩ =>
    ⟨_, e, (by rw [sizeLine_eq]; exact Nat.le_of_ble_eq_true rfl), fun tp hn => ⟨tp, rfl, upd_same, hd.ex (Ex.new hn), b, rfl, q _ (Ex.new hn)⟩⟩
end
section
variable {X : Cx} {a : Addr} {oe : Obj} {d : Option Addr} {pn : List (Addr × Obj)} {i : Nat}
/-- what told's suite asks: Unlike -/
def tSuU (i : Nat) (a : Addr) : TS := fun D σ H => σ[i]? = some (some (.ref a)) ∧ ∀ v H', Ex H H' → Is no0 H' (.list [.str "unlike"]) v → D.rt v H'
def tSuT (i : Nat) (a : Addr) (d : Option Addr) : TS := fun D σ H => σ[i]? = some (some (.ref a)) ∧ ∃ dd t, d = some dd ∧ H dd = some (.xd [(("part" : Str), V.str t)]) ∧ ∀ v H', Ex H H' → Is no0 H' (.list [.str t]) v → D.rt v H'
theorem is_str1 {H : Hp} {t : Str} {p : Addr} : Is no0 (upd H p (.lst [V.str t])) (.list [.str t]) (.ref p) := ⟨p, [V.str t], rfl, fun z => z, upd_same, rfl, True.intro⟩
end
end Bf
set_option Elab.async false
set_option linter.all false
set_option maxRecDepth 100000
set_option maxHeartbeats 8000000
namespace Bf
open PySem PySem.Spec PyProof.Rows L2 LamX
def spTold (T : List (Addr × Str)) : Sp := fun vs H Q E => ∃ n o : Net, IsAll no0 H [netD n, netD o] vs ∧ n.Fine ∧ o.Fine ∧ LamX.Tabs T H ∧ ∀ v H', ExtN H H' → LamX.Tabs T H' → Is no0 H' (lawDue n o).d v → Q v H'
structure CalT (P : Program) (w : World) (K : PySem.W.Frag) (mg : Str → Option Value) (base : Heap) (k : Nat) (x : Str) (ps : List Str) (sp : Sp) : Prop where
  ex : ∃ f fd, mg x = some (.ref f) ∧ FnOk P w K mg base CX0 k f fd ps sp ∧ PySem.W.keepIn K (.ref f) = true ∧ L2.Binds K fd ps []
theorem takes0 {X : Cx} : L2.Takes X (fun _ _ _ _ => False) := fun _ _ x => by
  obtain ⟨_, _, _, _, _, _, _, _, _, _, _, _, _, _, _, _, z⟩ := x
  exact z.elim
section
variable {P : Program} {w : World} {K : PySem.W.Frag} {mg : Str → Option Value} {base : Heap} {CF CL CG CU CT Pt : Addr}
theorem ok_told (F0 : Has K mg "_law_told" S_law_told) (B : Blt mg) (Er : ErrTxt K mg CF CL CG CU CT) (Cm : CalX P w K mg base 9 "compared" P_compared (spCmp (cmpT Pt) CU CT)) : CalT P w K mg base 10 "_law_told" P_law_told (spTold (cmpT Pt)) := by
  obtain ⟨f, fd, hm, F1⟩ := F0.ex
  refine ⟨f, fd, hm, F1.ok sc_law_told (fun vs H Q E h => ?_) (fun cdv A outer s H vs Q E hr h => ?_), F1.kp, FunD.bindsN F1 (fun _ _ _ _ _ _ us hl => match us, hl with | [_, _], _ => rfl)⟩
  · obtain ⟨n, o, h, _⟩ := h
    exact h.length.symm
  obtain ⟨n, o, h, fn, fo, hT, hQ⟩ := h
  obtain ⟨g, fdg, hmg, Fg, hk, hbd⟩ := Cm.ex
  have nd := sc_law_told.nd
  have st : Holds (callC no0 nop H) (rho0 N_law_told ([netD n, netD o].map SV.d)) (L2.start N_law_told vs) H := holds_start (fun a m => m.elim) h (by show 2 ≤ 4; decide)
  suffices hb : PSE (cxOf CX0 P w K mg base N_law_told "_law_told" (defScope S_law_told) f cdv A outer s H E).nox (cmpT Pt) H Q [some (.d (netD n)), some (.d (netD o)), none, none] (defBody S_law_told) from
    ⟨_, hb.nox, rfl, rfl, st, ExtN.refl H, hT⟩
  -- behind the try
  have hrest : ∀ x, tyD x = "tuple" → x = (lawDue n o).d → PSE (cxOf CX0 P w K mg base N_law_told "_law_told" (defScope S_law_told) f cdv A outer s H E).nox (cmpT Pt) H Q [some (.d (netD n)), some (.d (netD o)), some (.d x), none] ((defBody S_law_told).drop 1) := fun x hx ex => by
    refine pse_end (good := fun y => y = x) (sd_retD (px_if (d := true) (pt_px (s := false) (px_isi (x := x) rfl B.isinstance rfl B.tuple b_tuple (px_v 2) (by rw [hx]; decide) (by rw [hx]; exact kb_tup))) (fun _ => px_v 2) (fun z => absurd z (by decide))) rfl) fun y v H' g e2 t2 i => ?_
    subst g
    rw [ex] at i
    exact hQ v H' e2 t2 i
  refine PSsimp (pss_cons (L2.ps_try_as (Wout := fun _ _ _ _ => False) (c := .ref CF) (i := 3) (tb := fun W D σ H1 => Holds (callC no0 nop H1) [some (.d (netD n)), some (.d (netD o)), none, none] σ H1 ∧ LamX.Tabs (cmpT Pt) H1 ∧ CmpW (cmpT Pt) CU CT n o H1 (fun v H' => D.nx (σ.set 2 (some v)) H') (fun cls d H' => W cls d σ H'))
      (ts := fun a cls d D σ H1 => (cls = .ref CU ∧ d = none ∧ tSuU 3 a D σ H1) ∨ (cls = .ref CT ∧ tSuT 3 a d D σ H1)) rfl rfl nd rfl rfl ⟨rfl, by decide, .inl Er.gF⟩ takes0 (fun W pn xe tk _ => ?_) (fun a oe cls d pn hz hf => ?_))
    (pss_ex (ι := PyData) (P := fun x => tyD x = "tuple" ∧ x = (lawDue n o).d) (t := fun x => tE (cmpT Pt) H Q [some (.d (netD n)), some (.d (netD o)), some (.d x), none]) fun x h => hrest x h.1 h.2)) fun D σ H1 ⟨eD, hd, hh, ex, tb⟩ => ?_
  · -- the body
    refine PSsimp (pss_one (ps_set (i := 2) nd rfl (.inl rfl) (pe_callS Fg (by first | exact hr | exact Room.mono hr (by decide)) rfl hmg hk hbd (passAt tk) (pxs_cons (s := true) (px_v (ρ := [some (.d (netD n)), some (.d (netD o)), none, none]) 0) (pxs_cons (px_v 1) pxs_nil)) (by decide)))) fun D σ H1 ⟨hh, tb, W1⟩ => ?_
    refine ⟨_, hh, fun vs1 H2 e2 g => ?_⟩
    have e2N := ExtN.of e2
    refine ⟨n, o, IsAll.weak (fun a m _ => m.elim) g, fn, fo, tb.ext e2, ⟨fun h1 H' k1 k2 => W1.un h1 H' (e2N.trans k1) k2, fun h1 h2 d H' k1 k2 k3 => W1.ins h1 h2 d H' (e2N.trans k1) k2 k3, fun h1 h2 h3 d H' k1 k2 k3 => W1.sta h1 h2 h3 d H' (e2N.trans k1) k2 k3, fun h1 h2 h3 v H' k1 k2 k3 => W1.ok h1 h2 h3 v H' (e2N.trans k1) k2 k3⟩⟩
  · -- the suite
    refine ⟨fun pins s1 σ H1 D I h => ?_⟩
    rcases h with ⟨rfl, rfl, h⟩ | ⟨rfl, h⟩
    · refine (pss_cons (ps_if (PW.pt (pw_and (pt_is1x 3 Er.eU hz hf Er.ut B.isinstance Er.gT) (pw_and1 (pt_is1x 3 Er.eU hz hf Er.ul B.isinstance Er.gL)))) pss_never pss_nil)
        (pss_cons (ps_if (PW.pt (pw_and (pt_is1x 3 Er.eU hz hf Er.uu B.isinstance Er.gU) (pw_and1 (L2.pt_not (pt_is1x 3 Er.eU hz hf Er.ul B.isinstance Er.gL))))) (pss_cons (ps_ret (pe_lst (pa_cons pe_str pa_nil))) pss_never) pss_nil) pss_never)).run pins s1 σ H1 D I ?_
      obtain ⟨e3, q⟩ := h
      have dn : ∀ H', DctOk none H' := fun H' dd z => by cases z
      refine ⟨e3, dn _, fun H2 x2 => ?_⟩
      refine ⟨e3, dn _, fun H3 x3 => ⟨e3, dn _, fun H4 x4 => ⟨by rw [sizeLine_eq]; exact Nat.le_of_ble_eq_true rfl, fun p hp => q _ _ (((x2.trans x3).trans x4).trans (Ex.new hp)) is_str1⟩⟩⟩
    · refine (pss_cons (ps_if (PW.pt (pw_and (pt_is1x 3 Er.eT hz hf Er.tt B.isinstance Er.gT) (pw_and1 (pt_is1x 3 Er.eT hz hf Er.tl B.isinstance Er.gL))))
          (pss_cons (ps_ret (pe_ifExp (pt_is2x 3 Er.eT hz hf Er.tu B.isinstance Er.gU Er.gG) pe_never (pe_lst (pa_cons (pe_xf Er.xf Er.np hz hf (pe_var (i := 3) rfl (.inl rfl))) pa_nil)))) pss_never) pss_nil) pss_never).run pins s1 σ H1 D I ?_
      obtain ⟨e3, dd, t, ed, hdd, q⟩ := h
      have dk : DctOk d H1 := fun d' z => by
        rw [ed] at z
        cases z
        exact ⟨_, hdd⟩
      refine ⟨e3, dk, fun H2 x2 => ⟨e3, dk.ex x2, fun H3 x3 => ⟨e3, dk.ex (x2.trans x3), fun H4 x4 => ?_⟩⟩⟩
      refine ⟨_, e3, rfl, rfl, dd, _, V.str t, ed, ((x2.trans x3).trans x4) _ _ hdd, rfl, by rw [sizeLine_eq]; exact Nat.le_of_ble_eq_true rfl, fun p hp => q _ _ (((x2.trans x3).trans x4).trans (Ex.new hp)) is_str1⟩
  · -- its wishes
    refine ⟨hh, tb, ⟨fun h1 H' k1 k2 => ⟨true, Er.fU, fun _ a na => .inl ⟨rfl, rfl, ?_, fun v H2 x2 iv => ?_⟩, fun z => by cases z⟩, fun h1 h2 d H' k1 k2 k3 => ⟨true, Er.fT, fun _ a na => .inr ⟨rfl, ?_, d, "inputs", rfl, k3, fun v H2 x2 iv => ?_⟩, fun z => by cases z⟩,
      fun h1 h2 h3 d H' k1 k2 k3 => ⟨true, Er.fT, fun _ a na => .inr ⟨rfl, ?_, d, "states", rfl, k3, fun v H2 x2 iv => ?_⟩, fun z => by cases z⟩, fun h1 h2 h3 v H' k1 k2 iv => ⟨resD (lawRes n o), ⟨?_, ?_⟩, eD, rfl, ?_, ex.trans k1, k2⟩⟩⟩
    · exact set_same (by rw [hh.len]; exact Nat.lt_succ_self 3)
    · rw [show (D : Ends).rt = Q from eD] <;> exact hQ v H2 ((ex.trans k1).trans (ExtN.of x2)) (k2.ext x2) (by unfold lawDue; rw [if_pos h1]; exact iv)
    · exact set_same (by rw [hh.len]; exact Nat.lt_succ_self 3)
    · rw [show (D : Ends).rt = Q from eD] <;> exact hQ v H2 ((ex.trans k1).trans (ExtN.of x2)) (k2.ext x2) (by unfold lawDue; rw [if_neg (by rw [h1]; decide), if_pos h2]; exact iv)
    · exact set_same (by rw [hh.len]; exact Nat.lt_succ_self 3)
    · rw [show (D : Ends).rt = Q from eD] <;> exact hQ v H2 ((ex.trans k1).trans (ExtN.of x2)) (k2.ext x2) (by unfold lawDue; rw [if_neg (by rw [h1]; decide), if_neg (by omega), h3]; exact iv)
    · cases z : lawRes n o with
      | states => exact absurd z h3
      | part r => rfl
      | alike m => rfl
    · unfold lawDue
      rw [if_neg (by rw [h1]; decide), if_neg (by omega), due_d]
    · refine Holds.setD (i := 2) (ρ := [some (.d (netD n)), some (.d (netD o)), none, none]) (hh.dat0 rfl k1) (Is.weak (fun a m _ => ?_) iv) (isP_no rfl)
      rcases m with m | ⟨j, m⟩ | ⟨j, l, p, e1, _⟩
      · exact m
      · exact m
      · exact absurd e1 (dOnly_no rfl)
end
end Bf
set_option Elab.async false
set_option linter.all false
set_option maxRecDepth 100000
set_option maxHeartbeats 1000000
namespace Bf
open PySem PySem.Spec PyProof.Rows L2
/-! ### both nets exchanged -/
def swp (p : Pr) : Pr := (p.2, p.1)
theorem swp_swp (p : Pr) : swp (swp p) = p := rfl
theorem mem_swp {p : Pr} {l : List Pr} : swp p ∈ l.map swp ↔ p ∈ l := by
  constructor
  · intro h
    obtain ⟨q, m, e⟩ := List.mem_map.mp h
    have : q = p := by rw [← swp_swp q, e, swp_swp]
    rw [← this]
    exact m
  · exact fun h => List.mem_map.mpr ⟨p, h, rfl⟩
def swL (lv : Lv) : Lv := lv.map fun x => (swp x.1, x.2)
def swA (acc : List Pr × Lv) : List Pr × Lv := (acc.1.map swp, swL acc.2)
def swS : Way ⊕ (List Pr × Lv) → Way ⊕ (List Pr × Lv)
  | .inl r => .inl r
  | .inr a => .inr (swA a)
def swR : Res → Res
  | .alike m => .alike (m.map swp)
  | r => r
section
variable {n o : Net}
theorem dif_sw (g : List Nat) (p : Pr) : dif o n g (swp p) = dif n o g p := by
  unfold dif swp
  by_cases h : shownN n (bitsN n g p.1) = shownN o (bitsN o g p.2)
  · rw [decide_eq_true h, decide_eq_true h.symm]
  · rw [decide_eq_false h, decide_eq_false fun z => h z.symm]
theorem step_sw (p : Pr) (row : Way) (g : List Nat) (acc : List Pr × Lv) : stepG o n (swp p) row g (swA acc) = swA (stepG n o p row g acc) := by
  have e : nxt o n g (swp p) = swp (nxt n o g p) := rfl
  unfold stepG
  rw [e]
  by_cases h : nxt n o g p ∈ acc.1
  · rw [if_pos h, if_pos (show swp (nxt n o g p) ∈ (swA acc).1 from mem_swp.mpr h)]
  · rw [if_neg h, if_neg (show ¬ swp (nxt n o g p) ∈ (swA acc).1 from fun z => h (mem_swp.mp z))]
    unfold swA swL
    simp
theorem goG_sw (p : Pr) (row : Way) : ∀ (G : List (List Nat)) (acc : List Pr × Lv), goG o n (swp p) row G (swA acc) = swS (goG n o p row G acc)
  | [], _ => rfl
  | g :: G, acc => by
    rw [goG, goG, dif_sw]
    by_cases d : dif n o g p = true
    · rw [if_pos d, if_pos d]
      rfl
    · rw [if_neg d, if_neg d, step_sw]
      exact goG_sw p row G _
theorem goL_sw (G : List (List Nat)) : ∀ (lv : Lv) (acc : List Pr × Lv), goL o n G (swL lv) (swA acc) = swS (goL n o G lv acc)
  | [], _ => rfl
  | x :: lv, acc => by
    have h := goG_sw (n := n) (o := o) x.1 x.2 G acc
    show goL o n G ((swp x.1, x.2) :: swL lv) (swA acc) = _
    cases e : goG n o x.1 x.2 G acc with
    | inl r =>
      rw [e] at h
      rw [goL_inl (x := (swp x.1, x.2)) (r := r) h, goL_inl e]
      rfl
    | inr a =>
      rw [e] at h
      rw [goL_inr (x := (swp x.1, x.2)) (acc' := swA a) h, goL_inr e]
      exact goL_sw G lv a
theorem srch_sw (G : List (List Nat)) : ∀ (f : Nat) (met : List Pr) (lv : Lv), srch o n G f (met.map swp) (swL lv) = swR (srch n o G f met lv)
  | 0, _, _ => rfl
  | f + 1, met, lv => by
    have h := goL_sw (n := n) (o := o) G lv (met, [])
    have h' : goL o n G (swL lv) (met.map swp, []) = swS (goL n o G lv (met, [])) := h
    rw [srch, srch, h']
    cases e : goL n o G lv (met, []) with
    | inl r => rfl
    | inr a =>
      show (if 300 < (a.1.map swp).length then Res.states else if swL a.2 = [] then Res.alike (a.1.map swp) else srch o n G f (a.1.map swp) (swL a.2)) = swR (if 300 < a.1.length then .states else if a.2 = [] then .alike a.1 else srch n o G f a.1 a.2)
      rw [List.length_map]
      by_cases h3 : 300 < a.1.length
      · rw [if_pos h3, if_pos h3]
        rfl
      · rw [if_neg h3, if_neg h3]
        by_cases h0 : a.2 = []
        · rw [if_pos h0, if_pos (by rw [h0]; rfl)]
          rfl
        · rw [if_neg h0, if_neg (by unfold swL; simpa using h0)]
          exact srch_sw G f a.1 a.2
theorem unlike_sw : unlikeN o n = unlikeN n o := by
  unfold unlikeN
  have e1 : decide (o.ins = n.ins) = decide (n.ins = o.ins) := decide_eq_decide.mpr ⟨Eq.symm, Eq.symm⟩
  have e2 : decide ((o.outs.length : Int) = n.outs.length) = decide ((n.outs.length : Int) = o.outs.length) := decide_eq_decide.mpr ⟨Eq.symm, Eq.symm⟩
  have e3 : decide ((o.clms.length : Int) = n.clms.length) = decide ((n.clms.length : Int) = o.clms.length) := decide_eq_decide.mpr ⟨Eq.symm, Eq.symm⟩
  rw [e1, e2, e3]
theorem srtP_map (X : Cx) (m : List Pr) : srtP (m.map swp) = srtP ((srtP m).map swp) :=
  srt_uniq (SP X).swo SP_anti (srtP_srt _) (srtP_srt _) ((srtP_perm _).trans (((srtP_perm m).map swp).symm.trans (srtP_perm _).symm))
theorem due_sw (X : Cx) : ∀ r : Res, (swR r).due = r.due.turn
  | .part _ => rfl
  | .states => rfl
  | .alike m => by
    show Due.alike (srtP (m.map swp)) = Due.alike (srtP ((srtP m).map fun p => (p.2, p.1)))
    rw [srtP_map X]
    rfl
theorem lawDue_sw (X : Cx) : lawDue o n = (lawDue n o).turn := by
  unfold lawDue
  rw [unlike_sw]
  by_cases h : unlikeN n o = true
  · rw [if_pos h, if_pos h]
    rfl
  · have hf : unlikeN n o = false := by simpa using h
    have hi : n.ins = o.ins := by
      unfold unlikeN at hf
      simp at hf
      exact hf.1
    rw [if_neg h, if_neg h, hi]
    by_cases h6 : 6 < o.ins.length
    · rw [if_pos h6, if_pos h6]
      rfl
    · rw [if_neg h6, if_neg h6]
      have e : lawRes o n = swR (lawRes n o) := by
        unfold lawRes
        rw [← srch_sw, hi]
        rfl
      rw [e, due_sw X]
end
end Bf
set_option Elab.async false
set_option linter.all false
set_option maxRecDepth 100000
set_option maxHeartbeats 4000000
namespace Bf
open PySem PySem.Spec PyProof.Rows L2
/-- begin, given the script itself -/
def spBeg (K : PySem.W.Frag) : Sp := fun vs H Q _ => ∃ (a : Addr) (c : List Int), vs = [.ref a] ∧ SqL K H a (c.map V.int) ∧ c.length ≤ 1000 ∧ ∀ p us H', H p = none → Ex H H' → H' p = some (.lst us) → IsAll (fun b => b = p) H' (rD (c, 0, 0, 7, 3)) us → Q (.ref p) H'
theorem SqL.same {K : PySem.W.Frag} {H H' : Hp} {a D : Addr} {xs : List V} (h : SqL K H a xs) (n : H D = none) (k : ∀ b, b ≠ D → H' b = H b) : SqL K H' a xs := by
  rcases h with h | h
  · have e : H' a = H a := k a fun z => by
      rcases h with h | ⟨o, h⟩
      · rw [z, n] at h; cases h
      · rw [z, n] at h; cases h
    refine .inl ?_
    rcases h with h | ⟨o, h⟩
    · exact .inl (e.trans h)
    · exact .inr ⟨o, e.trans h⟩
  · exact .inr h
section
variable {P : Program} {w : World} {K : PySem.W.Frag} {mg : Str → Option Value} {base : Heap}
theorem ok_beg (F0 : Has K mg "_law_begin" S_law_begin) (B : Blt mg) : CalT P w K mg base 1 "_law_begin" P_law_begin (spBeg K) := by
  obtain ⟨f, fd, hm, F1⟩ := F0.ex
  refine ⟨f, fd, hm, F1.ok sc_law_begin (fun vs H Q E h => ?_) (fun cdv A outer s H vs Q E hr h => ?_), F1.kp, FunD.bindsN F1 (fun _ _ _ _ _ _ us hl => match us, hl with | [_], _ => rfl)⟩
  · obtain ⟨a, c, rfl, _⟩ := h
    rfl
  obtain ⟨a, c, rfl, hS, hc, q⟩ := h
  have nd := sc_law_begin.nd
  refine ⟨_, (PSs.nox (X := cxOf CX0 P w K mg base N_law_begin "_law_begin" (defScope S_law_begin) f cdv A outer s H E) (pss_cons (ps_ret (pe_lst (pa_cons (pe_lc (own := [("_law_cell", 1)]) rfl nd (pi_list (pe_var (i := 0) rfl (.inl rfl))) (blkOk_by (N := N_law_begin) (sc := defScope S_law_begin) (by decide +kernel)) (fun s H C cl fp => pg_name (i := 1) nd rfl (.inl rfl)) (fun s H C cl fp => pts_nil) (fun s H C cl fp => pe_callTy call_int1 rfl B.int b_int (pa_cons (pe_var (i := 1) rfl (.inl rfl)) pa_nil) (by decide) (by decide)))
    (pa_cons pe_int (pa_cons pe_int (pa_cons pe_int (pa_cons pe_int pa_nil))))))) pss_never)), ?_⟩
  refine ⟨.ref a, rfl, a, rfl, ⟨_, hS⟩, fun D hD => ?_⟩
  refine ⟨fun i m H' => m = c.length - i ∧ i ≤ c.length ∧ H' D = some (.lst ((c.take i).map V.int)) ∧ ∀ b, b ≠ D → H' b = H b, ⟨c.length, rfl, Nat.zero_le _, upd_same, fun b hb => upd_ne hb⟩, ?_⟩
  rintro i m H' ⟨rfl, hi, hL, hk⟩
  have hS' := SqL.same hS hD hk
  by_cases lt : i < c.length
  · have ci : (c.map V.int)[i]? = some (V.int c[i]) := by rw [List.getElem?_map, List.getElem?_eq_getElem lt]; rfl
    refine .inr ⟨⟨_, _, hS', ci⟩, fun H2 => H2 D = some (.lst ((c.take (i + 1)).map V.int)) ∧ ∀ b, b ≠ D → H2 b = H b, fun H2 ⟨k1, k2⟩ => ⟨c.length - (i + 1), by omega, rfl, lt, k1, k2⟩, fun x H2 ⟨ee, y⟩ => ?_⟩
    subst ee
    have z := y _ hS'
    rw [ci] at z
    cases z
    refine ⟨rfl, ?_⟩
    refine ⟨.int c[i], rfl, .inl ⟨c[i], rfl, _, hL, ?_, ?_, fun b hb => ?_⟩⟩
    · rw [List.length_map, List.length_take]
      exact sz_lt (by omega)
    · rw [upd_same, take_succ (List.getElem?_eq_getElem lt), List.map_append]
      rfl
    · rw [upd_ne hb]
      exact hk b hb
  · have e : i = c.length := by omega
    subst e
    rw [List.take_length] at hL
    refine .inl ⟨⟨_, hS', by rw [List.length_map]; exact Nat.le_refl _⟩, ?_⟩
    have exH : Ex H H' := fun b o e => by
      rw [hk b fun z => by rw [z, hD] at e; cases e]
      exact e
    refine ⟨by rw [sizeLine_eq]; exact Nat.le_of_ble_eq_true rfl, fun p hp => ?_⟩
    have nD : D ≠ p := fun z => by rw [z, hp] at hL; cases hL
    refine q p _ _ (exH.back hp) (exH.trans (Ex.new hp)) upd_same ⟨⟨D, _, rfl, fun z => nD z, by rw [upd_ne nD]; exact hL, ?_⟩, rfl, rfl, rfl, rfl, True.intro⟩
    have : ∀ {M : Ad} {H : Hp} (zs : List Int), IsAll M H (zs.map PyData.int) (zs.map V.int) := fun {M H} zs => by
      induction zs with
      | nil => exact True.intro
      | cons z zs ih => exact ⟨rfl, ih⟩
    exact this _
end
end Bf
set_option Elab.async false
set_option linter.all false
set_option maxRecDepth 100000
set_option maxHeartbeats 4000000
namespace Bf
open PySem PySem.Spec PyProof.Rows L2 LamX
/-- ahead of the first told: all stands since H0 -/
def tP (T : List (Addr × Str)) (H0 : Hp) (rt : VK) (ρ : Rho) : TS := fun D σ H => D.rt = rt ∧ Holds (callC no0 nop H0) ρ σ H ∧ LamX.Tabs T H0
abbrev PSP (X : Cx) (T : List (Addr × Str)) (H0 : Hp) (rt : VK) (ρ : Rho) (sts : List Stmt) : Prop := PSs X sts (tP T H0 rt ρ)
section
variable {X : Cx} {T : List (Addr × Str)} {H0 : Hp} {rt : VK} {ρ ρ0 : Rho} {sts : List Stmt} {st : Stmt} {pos pos' p : Pos}
theorem psp_pre (Mid : Rho → Prop) (h : PSD X ρ [st] { nx := Mid, rt := fun _ _ => False }) (hr : ∀ ρ', Mid ρ' → PSP X T H0 rt ρ' sts) : PSP X T H0 rt ρ (st :: sts) :=
  PSsimp (pss_cons (ps_of1 h) (pss_ex (ι := Rho) (P := fun ρ' => PSP X T H0 rt ρ' sts) (t := fun ρ' => tP T H0 rt ρ') fun i h => h)) fun D σ H ⟨eD, hh, tb⟩ =>
    ⟨callC no0 nop H0, hh, ⟨fun ρ' σ' H' m h' => ⟨ρ', hr ρ' m, eD, h', tb⟩, fun _ _ _ _ _ z => z.elim, fun _ _ _ z => z.elim, fun _ _ _ z => z.elim, fun _ _ _ _ _ _ z => z.elim⟩⟩
theorem psp_out (hs : ∀ (i : Nat) (x : PyData), ρ0[i]? = some (some (.d x)) → ρ[i]? = some (some (.d x))) (hl : ρ0.length = ρ.length) (hd : dOnly ρ0 = true) (h : PSE X T H0 rt ρ0 sts) : PSP X T H0 rt ρ sts :=
  PSsimp h fun D σ H ⟨eD, hh, tb⟩ => ⟨eD, hd, holds_dat (by rw [hl]; exact hh.len) hd fun i x e => let ⟨v, h1, h2⟩ := hh.dat i x (hs i x e); ⟨v, h1, Is.weak (fun a m _ => m.elim) h2⟩, ExtN.of (ex_of hh), tb.ext (ex_of hh)⟩
/-- _law_d = _law_begin(_law_script) -/
theorem psp_beg {a : Addr} {c : List Int} {k : Nat} {cpos p1 : Pos} {i j : Nat} {nm nm2 : Str} (G : CalT X.prog X.w X.K X.mg X.base k "_law_begin" P_law_begin (spBeg X.K)) (hS : SqL X.K H0 a (c.map V.int)) (hc : c.length ≤ 1000) (nd : X.N.Nodup) (hd : dOnly ρ = true) (hr : Room k X.A) (hrest : PSP X T H0 rt (ρ.set i (some (.o true oR))) sts)
    (hg : Gl X "_law_begin" := by rfl) (hNi : X.N[i]? = some nm := by rfl) (hNj : X.N[j]? = some nm2 := by rfl) (hx : Loc X.env.scope nm := by first | exact Or.inl rfl | exact Or.inr rfl) (hv : Vis X.env.scope nm2 := by first | exact Or.inl rfl | exact Or.inr (Or.inl rfl)) (hdb : (nm2 == ("__debug__" : Str)) = false := by decide) (hcd : (nm2 == ("__classdict__" : Str)) = false := by decide)
    (he : starEach [.Name nm2 p1] X.env = (false, eval (.Name nm2 p1) X.env) :: starEach [] X.env := by rfl) (hpl : (backTo cpos (starEach [] X.env)).any (·.1) = false := by rfl)
    (hsw : swapsWith (.Call (.Name "_law_begin" p) [.Name nm2 p1] [] cpos) (some (.Name nm pos)) pos'.line X.env = pure false := by rfl) (hf : X.fn nm = true ∨ X.env.scope.names.lookup nm = some .local := by first | exact .inl rfl | exact .inr rfl) :
    PSs X (.Assign [.Name nm pos] (.Call (.Name "_law_begin" p) [.Name nm2 p1] [] cpos) pos' :: sts) (fun D σ H => σ[j]? = some (some (.ref a)) ∧ H = H0 ∧ tP T H0 rt ρ D σ H) := by
  obtain ⟨f, fd, hm, F, hk, hbd⟩ := G.ex
  refine PSsimp (pss_cons (ps_set nd hNi hx (L2.pe_call F hr hg hm hk hbd .nil pass0 (pa_cons (pe_var hNj hv hdb hcd) pa_nil he) (by decide) he hpl) hsw hf) hrest) fun D σ H ⟨es, eH, eD, hh, tb⟩ => ?_
  subst eH
  refine ⟨_, es, ⟨a, c, rfl, hS, hc, fun q us H' n ex hq iu => ⟨eD, hh.setO n ex ⟨(c, 0, 0, 7, 3), us, hq, IsAll.weak (fun b m k => ?_) iu⟩ (fun p => dOnly_no hd), tb⟩⟩⟩
  rcases m with m | m
  · rcases m with m | ⟨j, m⟩ | ⟨j, l, p, e1, _⟩
    · exact m.elim
    · exact m.elim
    · exact absurd e1 (dOnly_no hd)
  · exact m
end
end Bf
set_option Elab.async false
set_option linter.all false
set_option maxRecDepth 100000
set_option maxHeartbeats 8000000
namespace Bf
open PySem PySem.Spec PyProof.Rows L2 LamX
def tR (T : List (Addr × Str)) (ρ : Rho) : TE := fun σ H Q => dOnly ρ = true ∧ Holds (callC no0 nop H) ρ σ H ∧ LamX.Tabs T H ∧ ∀ H', ExtN H H' → LamX.Tabs T H' → Q (.bl true) H'
section
variable {X : Cx} {T : List (Addr × Str)} {H0 : Hp} {rt : VK} {ρ : Rho} {sts : List Stmt} {a b e : Expr} {n o : Net} {p p1 p2 pos : Pos}
theorem pe_right {k k2 : Nat} (Td : CalT X.prog X.w X.K X.mg X.base k "_law_told" P_law_told (spTold T)) (Ri : Cal X.prog X.w X.K X.mg X.base k2 "_law_right" P_law_right spRight) (fn : n.Fine) (fo : o.Fine) (ha : PX X ρ true a (netD n)) (hb : PX X ρ true b (netD o)) (hd : PX X ρ true e (lawDue n o).d)
    (hr : Room k X.A := by first | assumption | exact Room.mono (by assumption) (by decide)) (hr2 : Room k2 X.A := by first | assumption | exact Room.mono (by assumption) (by decide)) (hg : Gl X "_law_told" := by rfl) (hg2 : Gl X "_law_right" := by rfl)
    (he1 : starEach [.Call (.Name "_law_told" p1) [a, b] [] p2, e] X.env = (false, eval (.Call (.Name "_law_told" p1) [a, b] [] p2) X.env) :: starEach [e] X.env := by rfl) (he2 : starEach [e] X.env = (false, eval e X.env) :: starEach [] X.env := by rfl) (he3 : starEach [a, b] X.env = (false, eval a X.env) :: starEach [b] X.env := by rfl) (he4 : starEach [b] X.env = (false, eval b X.env) :: starEach [] X.env := by rfl)
    (hp1 : (backTo pos (starEach [e] X.env)).any (·.1) = false := by rfl) (hp2 : (backTo p2 (starEach [b] X.env)).any (·.1) = false := by rfl) : PE X (.Call (.Name "_law_right" p) [.Call (.Name "_law_told" p1) [a, b] [] p2, e] [] pos) (tR T ρ) := by
  obtain ⟨f1, fd1, hm1, F1, hk1, hb1⟩ := Td.ex
  obtain ⟨f2, fd2, hm2, F2, hk2, hb2⟩ := Ri.ex
  refine PEimp (L2.pe_call F2 hr2 hg2 hm2 hk2 hb2 .nil pass0 (pa_cons (L2.pe_call F1 hr hg hm1 hk1 hb1 .nil pass0 (pxs_cons ha (pxs_cons hb pxs_nil he4) he3) (by decide) he3 hp2) (pa_cons hd pa_nil he2) he1) (by decide) he1 hp1) fun σ H Q ⟨dn, hh, tb, q⟩ => ?_
  refine ⟨_, hh, fun vs H1 e1 g => ?_⟩
  show spTold T (vs ++ []) H1 _ E0
  rw [List.append_nil]
  refine ⟨n, o, IsAll.weak (fun a m _ => m.elim) g, fn, fo, tb.ext e1, fun v H2 eN t2 iv => ?_⟩
  have e2 : ExtN H H2 := (ExtN.of e1).trans eN
  refine ⟨_, hh.dat0 dn e2, fun u H3 e3 iu => ?_⟩
  refine ⟨no0, lawDue n o, fun a m => m.elim, ⟨Is.ex e3 iv, Is.weak (fun a m _ => m.elim) iu, True.intro⟩, (lawDue_small fn fo).good, fun y v2 H4 ey e4 iy => ?_⟩
  rw [ey] at iy
  rw [show v2 = .bl true from iy]
  exact q H4 ((e2.trans (ExtN.of e3)).trans (ExtN.of e4)) ((t2.ext e3).ext e4)
/-- if not right(..): return False -/
theorem pse_not {A : List Stmt} {c : Expr} (h : PT X c (fun σ H Q => dOnly ρ = true ∧ Holds (callC no0 nop H) ρ σ H ∧ LamX.Tabs T H ∧ ∀ H', ExtN H H' → LamX.Tabs T H' → Q false H')) (hr : PSE X T H0 rt ρ sts) : PSE X T H0 rt ρ (.If c A [] pos :: sts) :=
  PSsimp (pss_cons (ps_if h (pss_never (X := X) (sts := A)) pss_nil) hr) fun D σ H ⟨eD, hd, hh, ex, tb⟩ => ⟨hd, hh, tb, fun H' e1 t1 => ⟨eD, hd, hh.dat0 hd e1, ex.trans e1, t1⟩⟩
theorem pt_nright {c : Expr} (h : PE X c (tR T ρ)) (he : ∀ whole, isTrue c X.env whole = (do let v ← whole; standAt c.pos; holding [v] (truthy v)) := by intro _; rfl) : PT X (.UnaryOp .Not c pos) (fun σ H Q => dOnly ρ = true ∧ Holds (callC no0 nop H) ρ σ H ∧ LamX.Tabs T H ∧ ∀ H', ExtN H H' → LamX.Tabs T H' → Q false H') :=
  PTimp (L2.pt_not (pt_val h he)) fun σ H Q ⟨hd, hh, tb, q⟩ => ⟨hd, hh, tb, fun H' e1 t1 => ⟨true, rfl, q H' e1 t1⟩⟩
end
end Bf
set_option Elab.async false
set_option linter.all false
set_option maxRecDepth 100000
set_option maxHeartbeats 40000000
namespace Bf
open PySem PySem.Spec PyProof.Rows L2 LamX
def spLaw (K : PySem.W.Frag) (T : List (Addr × Str)) : Sp := fun vs H Q _ => ∃ (a : Addr) (c : List Int), vs = [.ref a] ∧ SqL K H a (c.map V.int) ∧ c.length ≤ 1000 ∧ LamX.Tabs T H ∧ ∀ H', Q (.bl true) H'
abbrev lawR (n o : Net) (x4 x5 : Option SV) : Rho := [none, some (.o true oR), some (.d (netD n)), some (.d (netD o)), x4, x5]
section
variable {P : Program} {w : World} {K : PySem.W.Frag} {mg : Str → Option Value} {base : Heap} {fa : Addr} {fd : FuncData} {T : List (Addr × Str)}
theorem ok_law (F1 : FunD K "law" "law" (defArgs S_law) (defBody S_law) (defScope S_law) [] [] fa fd) (B : Blt mg) (D : Draws P w K mg base) (Be : CalT P w K mg base 1 "_law_begin" P_law_begin (spBeg K)) (Ra : Cal P w K mg base 2 "_law_rare" P_law_rare spRare) (De : Cal P w K mg base 3 "_law_dear" P_law_dear spDear) (Va : Cal P w K mg base 4 "_law_variant" P_law_variant spVar)
    (Sm : Cal P w K mg base 5 "_law_small" P_law_small spSmall) (Du : Cal P w K mg base 5 "_law_due" P_law_due spDue) (Tu : Cal P w K mg base 1 "_law_turned" P_law_turned spTurned) (Td : CalT P w K mg base 10 "_law_told" P_law_told (spTold T)) (Ri : Cal P w K mg base 8 "_law_right" P_law_right spRight) : FnOk P w K mg base CX0 11 fa fd P_law (spLaw K T) := by
  refine F1.ok sc_law (fun vs H Q E h => ?_) (fun cdv A outer s H vs Q E hr h => ?_)
  · obtain ⟨a, c, rfl, _⟩ := h
    rfl
  obtain ⟨a, c, rfl, hS, hc, hT, hQ⟩ := h
  have nd := sc_law.nd
  suffices hb : PSs (cxOf CX0 P w K mg base N_law "law" (defScope S_law) fa cdv A outer s H E).nox (defBody S_law) (fun D σ H1 => σ[0]? = some (some (.ref a)) ∧ H1 = H ∧ tP T H Q [none, none, none, none, none, none] D σ H1) from
    ⟨_, hb.nox, rfl, rfl, rfl, holds_dat rfl rfl (fun i x e => by
      match i, e with
      | 0, e => cases e
      | 1, e => cases e
      | 2, e => cases e
      | 3, e => cases e
      | 4, e => cases e
      | 5, e => cases e
      | i + 6, e => cases e), hT⟩
  refine psp_beg (i := 1) (j := 0) Be hS hc nd rfl (by first | exact hr | exact Room.mono hr (by decide)) ?_
  refine psp_pre (fun ρ => ∃ n o x4, n.Fine ∧ o.Fine ∧ ρ = lawR n o x4 none) ?_ fun ρ' ⟨n, o, x4, fn, fo, e⟩ => ?_
  · refine sd_ifM (fun ρ => ∃ n o x4, n.Fine ∧ o.Fine ∧ ρ = lawR n o x4 none) (mt_m (pm_callR Ra 1 rfl (pms_cons (pm_x (pn_c (k := 21)) (pms_nil ⟨rfl, 21, rfl, ⟨by decide, by decide⟩, fun y ⟨b, hb⟩ => ⟨b, hb, fun _ => ?_, fun _ => ?_⟩⟩))))) fun ρ' h => sd_nil h
    · refine sd_setM 2 nd (pm_callR De 1 rfl (pms_nil ⟨rfl, (), rfl, True.intro, fun y ⟨m, mo, ey⟩ => ?_⟩))
      subst ey
      have fm := mo.fine (by decide)
      have i10 : m.ins.length ≤ 10 := by have := mo.ins; omega
      refine sd_set 3 nd (x := netD ⟨m.ins, [], [], [⟨"none", 0⟩], []⟩) (px_tup (pxs_cons px_str (pxs_cons (px_ixT (px_v 2) px_int rfl) (pxs_cons (px_tup pxs_nil) (pxs_cons (px_tup pxs_nil) (pxs_cons (px_tup (pxs_cons (px_tup (pxs_cons px_str (pxs_cons px_int pxs_nil))) pxs_nil)) (pxs_cons (px_tup pxs_nil) pxs_nil))))))) ?_
      have fb : Net.Fine ⟨m.ins, [], [], [⟨"none", 0⟩], []⟩ := bare_fine i10 (by omega)
      refine sd_ifM (fun ρ => ∃ n o x4, n.Fine ∧ o.Fine ∧ ρ = lawR n o x4 none) (mt_eqI (pm_draw D 1 (pn_c (k := 3)) ⟨by decide, by decide⟩ fun r hr => ⟨(r : Int), rfl, pm_x px_int ⟨1, rfl, fun e => ?_, fun e => ?_⟩⟩)) fun ρ' h => sd_nil h
      · refine sd_asgM (pm_callR Va 1 rfl (pms_cons (pm_x (px_v 2) (pms_cons (pm_addN (pm_x pn_1 ⟨1, rfl, pm_draw D 1 pn_2 ⟨by decide, by decide⟩ fun r2 hr2 => ⟨r2, rfl, pms_nil ⟨rfl, ⟨m, 0, 1 + r2⟩, rfl, ⟨mo, by show 0 + (1 + r2) ≤ 20; omega⟩, fun y ⟨q, x, qo, qi, ey⟩ => ?_⟩⟩⟩))))))
        subst ey
        refine ⟨[3, 4], _, gd_t rfl (gds_cons (gd_n 3 nd) (gds_cons (gd_n 4 nd) gds_nil)), sd_nil ⟨m, q, _, fm, qo.fine (by show 0 + (1 + r2) ≤ 50; omega), rfl⟩⟩
      · exact sd_nil ⟨m, _, _, fm, fb, rfl⟩
    · refine sd_asgM (pm_callR Sm 1 rfl (pms_nil ⟨rfl, (), rfl, True.intro, fun y ⟨n, o, no, fo, ey⟩ => ?_⟩))
      subst ey
      exact ⟨[2, 3], _, gd_t rfl (gds_cons (gd_n 2 nd) (gds_cons (gd_n 3 nd) gds_nil)), sd_nil ⟨n, o, _, no.fine (by decide), fo, rfl⟩⟩
  subst e
  refine psp_pre (fun ρ => ρ = lawR n o x4 (some (.d (dueD n o)))) (sd_set 5 nd (px_call Du ⟨n, o⟩ ⟨fn, fo⟩ (pxs_cons (px_v 2) (pxs_cons (px_v 3) pxs_nil)) (fun y e => e)) (sd_nil rfl)) fun ρ' e => ?_
  subst e
  refine psp_out (ρ0 := [none, none, some (.d (netD n)), some (.d (netD o)), none, some (.d (dueD n o))]) (fun i x e => by
      match i, e with
      | 0, e => cases e
      | 1, e => cases e
      | 2, e => exact e
      | 3, e => exact e
      | 4, e => cases e
      | 5, e => exact e
      | i + 6, e => cases e) rfl rfl ?_
  have hsm := lawDue_small fn fo
  refine pse_not (pt_nright (pe_right Td Ri fn fo (px_v 2) (px_v 3) (px_eq (px_v 5) (lawDue_d n o).symm))) ?_
  refine pse_not (PTimp (PW.pt (pw_and (pt_lt (px_lenT rfl B.len b_len (px_ixT (px_v 2) px_int rfl)) px_int) (pw_and1 (pt_nright (pe_right (ρ := [none, none, some (.d (netD n)), some (.d (netD o)), none, some (.d (dueD n o))]) (n := n) (o := n) Td Ri fn fn (px_v 2) (px_v 2) (px_eq (px_call Du ⟨n, n⟩ ⟨fn, fn⟩ (pxs_cons (px_v 2) (pxs_cons (px_v 2) pxs_nil)) (fun y e => e)) (lawDue_d n n).symm)))))) fun σ H1 Q1 ⟨hd, hh, tb, q⟩ => ⟨_, hh, fun H2 e2 => ?_⟩) ?_
  · dsimp only
    split
    · exact ⟨hd, hh.dat0 hd (ExtN.of e2), tb.ext e2, fun H' e1 t1 => q H' ((ExtN.of e2).trans e1) t1⟩
    · exact q H2 (ExtN.of e2) (tb.ext e2)
  refine PSsimp (pss_cons (ps_ret (pe_right (ρ := [none, none, some (.d (netD n)), some (.d (netD o)), none, some (.d (dueD n o))]) (n := o) (o := n) Td Ri fo fn (px_v 3) (px_v 2) (px_call Tu (lawDue n o) hsm.pre (pxs_cons (px_eq (px_v 5) (lawDue_d n o).symm) pxs_nil) (fun y e => e.trans (congrArg Due.d (lawDue_sw (n := n) (o := o) (cxOf CX0 P w K mg base N_law "law" (defScope S_law) fa cdv A outer s H E)).symm))))) pss_never) fun D σ H1 ⟨eD, hd, hh, ex, tb⟩ => ⟨hd, hh, tb, fun H' e1 t1 => ?_⟩
  rw [eD]
  exact hQ H'
end
end Bf
set_option Elab.async false
set_option linter.all false
set_option maxRecDepth 100000
set_option maxHeartbeats 4000000
namespace Bf
open PySem PySem.Spec PyProof.Rows L2
/-! ### what the head is asked beyond names and defs -/
abbrev TmV : Type := Option (Str × Str × Arguments × FuncBody × Scope × Addr × List Str × Addr)
abbrev tmF (K : PySem.W.Frag) : Addr := He.fAd K ("TooMany", some "__init__")
def tmV (K : PySem.W.Frag) : TmV := match K.lookup (tmF K) with
  | some ⟨_, _, .func fd, _⟩ => some (fd.name, fd.qualname, fd.params, fd.body, fd.scope, fd.globals, fd.closure.map (·.1), fd.builtins)
  | _ => none
/-- the class's own object -/
def tmC (K : PySem.W.Frag) (C : Addr) : Bool := match K.lookup C with
  | some ⟨.type t, _, .cls cd, sl⟩ => decide (t = "type") && (match cd.mro, sl.toList with
    | .ref C' :: bm, [_, _, _, _, some (.builtin n), _] => decide (C' = C) && (decide (n = "ValueError.__new__") && (!cd.hasDel && (cd.hasDict && PySem.HandSPX.refsVE bm)))
    | _, _ => false)
  | _ => false
def tmCode (K : PySem.W.Frag) (file : Str) (c : Addr) : Bool := PySem.W.codeIn K (.ref c) "TooMany.__init__" && (match K.lookup c with
  | some ⟨_, _, .fields vs, _⟩ => (match (vs[2]? : Option Value) with
    | some (Value.str f _) => file == f
    | _ => false)
  | _ => false)
def tmCell (K : PySem.W.Frag) (C cc : Addr) : Bool := match K.lookup cc with
  | some ⟨_, _, .cell (some (.ref c)), _⟩ => decide (c = C)
  | _ => false
/-- its __init__ : no defaults, its code object, its one cell -/
def tmI (K : PySem.W.Frag) (file : Str) (C : Addr) : Bool := match K.lookup (tmF K) with
  | some ⟨_, _, .func fd, _⟩ => (match fd.defaults, fd.code, fd.closure with
    | .none, .ref c, [(_, cc)] => tmCode K file c && tmCell K C cc
    | _, _, _ => false)
  | _ => false
def eqB {α : Type} [DecidableEq α] (a b : α) : Bool := decide (a = b)
def excCB (K : PySem.W.Frag) (D : Addr) : Bool := decide (PySem.W.findIn K (.ref D) "__getattribute__" = some (some (.builtin "BaseException.__getattribute__"))) && (decide (PySem.W.findIn K (.ref D) "__getattr__" = some none) && (decide (PySem.W.subIn K (.ref D) (.type "BaseException") = some true) && (PySem.W.hasDictIn K D &&
  (decide (PySem.W.findIn K (.ref D) "__class__" = some (some (.builtin "object.__class__"))) && (decide (PySem.W.specialIn K (.builtin "object.__class__") "__get__" = some (some (.builtin "getset_descriptor.__get__"))) && (decide (PySem.W.takesIn K (.builtin "object.__class__") = some true) && decide (PySem.W.mroIn K D (.type "object") = some true)))))))
theorem excCB_ok {K : PySem.W.Frag} {D : Addr} (h : excCB K D = true) : ExcC K D := by
  unfold excCB at h
  simp only [Bool.and_eq_true, decide_eq_true_eq] at h
  obtain ⟨h1, h2, h3, h4, h5, h6, h7, h8⟩ := h
  exact ⟨h1, h2, h3, h4, h5, h6, h7, h8⟩
def tmB (K : PySem.W.Frag) (file : Str) (C : Addr) : Bool := tmC K C && (decide (PySem.W.findIn K (.ref C) "__setattr__" = some (some (.builtin "object.__setattr__"))) && (decide (PySem.W.findIn K (.ref C) "part" = some none) && (decide (PySem.W.findIn K (.ref C) "__init__" = some (some (.ref (tmF K)))) && (decide (PySem.W.typeIn K (.ref (tmF K)) = some (.type "function")) &&
  (PySem.W.keepIn K (.ref C) && (decide (PySem.W.subIn K (.ref C) (.type "BaseException") = some true) && (decide (PySem.W.subIn K (.ref C) (.type "ValueError") = some true) && (decide (PySem.W.typeIn K (.ref C) = some (.type "type")) && (PySem.W.hasDictIn K C && (decide (PySem.W.mroIn K C (.ref C) = some true) &&
  (decide (PySem.W.nsIn K cStatics "thirdparty.any" = some none) && (decide (PySem.W.ks_superIn K C C "__init__" = some (some (.builtin "ValueError.__init__"))) && tmI K file C))))))))))))
def kitB2 (K : PySem.W.Frag) (CL CG CU CT : Addr) : Bool := decide (PySem.W.kitOne K (.ref CT) (.ref CT) = some true) && (decide (PySem.W.kitOne K (.ref CT) (.ref CL) = some true) && (decide (PySem.W.kitAny K (.ref CT) [.ref CU, .ref CG] = some false) && (decide (PySem.W.kitOne K (.ref CU) (.ref CT) = some false) &&
  (decide (PySem.W.kitOne K (.ref CU) (.ref CU) = some true) && decide (PySem.W.kitOne K (.ref CU) (.ref CL) = some false)))))
def tmFile : Str := (PySem.Challenge.rw_beatfabric_k86_whole_compared).prog.main.file
def exY (K : PySem.W.Frag) : Bool := tmB K tmFile (He.ga K "TooMany") && (excCB K (He.ga K "Unlike") && (excCB K (He.ga K "TooMany") && (xfB K (He.ga K "TooMany") && kitB2 K (He.ga K "LimitError") (He.ga K "TooLarge") (He.ga K "Unlike") (He.ga K "TooMany"))))
/-! ### the Hook -/
abbrev asY (g : Addr → Option Obj) : List Addr := He.asD g 5 ++ [cStatics]
abbrev AlY : Type := He.AlX × TmV
def valTm : TmV := some ("__init__", "TooMany.__init__", defArgs S_TmI, .stmts (defBody S_TmI), defScope S_TmI, mainGlobals, ["__class__"], builtinsNs)
section
variable (fa : List He.Fa) (fn : List He.DefD) (tf : List He.Defn)
def obY (g : Addr → Option Obj) : AlY := ((He.obsT fa fn [] (He.frT g (asY g)), exY (He.frT g (asY g)) && He.tabsB g tf (He.frT g (asY g))), tmV (He.frT g (asY g)))
structure SaysY (w : World) (h : Heap) (K : PySem.W.Frag) : Prop where
  x : He.SaysX fa fn [] tf exY w h K
  t : tmV K = valTm
theorem saysY_of {w : World} {h : Heap} (e : obY fa fn tf h.get? = (He.valX fn [] w, valTm)) : SaysY fa fn tf w h (He.frT h.get? (asY h.get?)) := by
  have e0 := congrArg (fun z : AlY => z.1) e
  have e1 : He.obsT fa fn [] (He.frT h.get? (asY h.get?)) = He.valT fn [] w := congrArg (fun z : He.AlX => z.1) e0
  have e2 : (exY (He.frT h.get? (asY h.get?)) && He.tabsB h.get? tf (He.frT h.get? (asY h.get?))) = true := congrArg (fun z : He.AlX => z.2) e0
  obtain ⟨h1, h2⟩ := He.ba e2
  refine ⟨⟨e1, h1, fun p hp => (He.ba (List.all_eq_true.mp h2 p hp)).1, fun p hp => ?_, fun p hp => ?_⟩, congrArg (fun z : AlY => z.2) e⟩
  · have h4 := (He.ba (List.all_eq_true.mp h2 p hp)).2
    cases q : h.get? (He.cT (He.frT h.get? (asY h.get?)) p).2 with
    | none => rw [q] at h4; cases h4
    | some o => rw [q] at h4; exact He.frT_none q h4
  · have h4 := (He.ba (List.all_eq_true.mp h2 p hp)).2
    cases q : h.get? (He.cT (He.frT h.get? (asY h.get?)) p).2 with
    | none => rw [q] at h4; cases h4
    | some o => rw [q] at h4; rw [He.emptyTab_eq h4]
def hookY : PySem.W.Hook where
  α := AlY
  obs := fun s => obY fa fn tf s.heap.get?
  val := fun w => (He.valX fn [] w, valTm)
  says := fun w h => ∃ K : PySem.W.Frag, K.In h ∧ SaysY fa fn tf w h K
  of := fun _ _ e => ⟨_, He.frT_in, saysY_of fa fn tf e⟩
  keeps := fun _ _ _ ⟨K, hK, c⟩ k => ⟨K, PySem.W.Frag.In.keeps hK k, ⟨⟨c.x.t, c.x.more, c.x.hd, c.x.out, fun p hp => k _ _ (c.x.empty p hp)⟩, c.t⟩⟩
theorem obY_eq {g : Addr → Option Obj} {s : Shared} (h : ∀ a, g a = s.heap.get? a) : obY fa fn tf g = (hookY fa fn tf).obs s := by
  rw [show g = s.heap.get? from funext h]
  rfl
end
end Bf
set_option Elab.async false
set_option linter.all false
set_option maxRecDepth 100000
set_option maxHeartbeats 0
namespace Bf
open PySem PySem.Spec PyProof.Rows L2
abbrev R : PySem.W.OpenRow := PySem.W.OpenLaw.row PySem.Challenge.rw_beatfabric_k86_whole_compared
def D_first_reg : He.DefD := ⟨("first_reg", none), "first_reg", "first_reg", defArgs S_first_reg, defBody S_first_reg, defScope S_first_reg, [], []⟩
def D_first_and : He.DefD := ⟨("first_and", none), "first_and", "first_and", defArgs S_first_and, defBody S_first_and, defScope S_first_and, [], []⟩
def D_shown_of : He.DefD := ⟨("shown_of", none), "shown_of", "shown_of", defArgs S_shown_of, defBody S_shown_of, defScope S_shown_of, [], []⟩
def D_full : He.DefD := ⟨("full", none), "full", "full", defArgs S_full, defBody S_full, defScope S_full, [], []⟩
def D_patterns : He.DefD := ⟨("patterns", none), "patterns", "patterns", defArgs S_patterns, defBody S_patterns, defScope S_patterns, [], []⟩
def D_node_masks : He.DefD := ⟨("node_masks", none), "node_masks", "node_masks", defArgs S_node_masks, defBody S_node_masks, defScope S_node_masks, [], []⟩
def D_mask_of : He.DefD := ⟨("mask_of", none), "mask_of", "mask_of", defArgs S_mask_of, defBody S_mask_of, defScope S_mask_of, [], []⟩
def D_first_state : He.DefD := ⟨("first_state", none), "first_state", "first_state", defArgs S_first_state, defBody S_first_state, defScope S_first_state, [], []⟩
def D_inputs_with : He.DefD := ⟨("inputs_with", none), "inputs_with", "inputs_with", defArgs S_inputs_with, defBody S_inputs_with, defScope S_inputs_with, [], []⟩
def D_masks_from : He.DefD := ⟨("masks_from", none), "masks_from", "masks_from", defArgs S_masks_from, defBody S_masks_from, defScope S_masks_from, [], []⟩
def D_all_beats : He.DefD := ⟨("all_beats", none), "all_beats", "all_beats", defArgs S_all_beats, defBody S_all_beats, defScope S_all_beats, [], []⟩
def D_least_one : He.DefD := ⟨("least_one", none), "least_one", "least_one", defArgs S_least_one, defBody S_least_one, defScope S_least_one, [], []⟩
def D_search_levels : He.DefD := ⟨("search_levels", none), "search_levels", "search_levels", defArgs S_search_levels, defBody S_search_levels, defScope S_search_levels, [], []⟩
def D_next_level : He.DefD := ⟨("next_level", none), "next_level", "next_level", defArgs S_next_level, defBody S_next_level, defScope S_next_level, [], []⟩
def D_look_alike : He.DefD := ⟨("look_alike", none), "look_alike", "look_alike", defArgs S_look_alike, defBody S_look_alike, defScope S_look_alike, [], []⟩
def D_look_at_pair : He.DefD := ⟨("look_at_pair", none), "look_at_pair", "look_at_pair", defArgs S_look_at_pair, defBody S_look_at_pair, defScope S_look_at_pair, [], []⟩
def D_compared : He.DefD := ⟨("compared", none), "compared", "compared", defArgs S_compared, defBody S_compared, defScope S_compared, [], []⟩
def D_law_begin : He.DefD := ⟨("_law_begin", none), "_law_begin", "_law_begin", defArgs S_law_begin, defBody S_law_begin, defScope S_law_begin, [], []⟩
def D_law_draw : He.DefD := ⟨("_law_draw", none), "_law_draw", "_law_draw", defArgs S_law_draw, defBody S_law_draw, defScope S_law_draw, [], []⟩
def D_law_pick : He.DefD := ⟨("_law_pick", none), "_law_pick", "_law_pick", defArgs S_law_pick, defBody S_law_pick, defScope S_law_pick, [], []⟩
def D_law_pop : He.DefD := ⟨("_law_pop", none), "_law_pop", "_law_pop", defArgs S_law_pop, defBody S_law_pop, defScope S_law_pop, [], []⟩
def D_law_rare : He.DefD := ⟨("_law_rare", none), "_law_rare", "_law_rare", defArgs S_law_rare, defBody S_law_rare, defScope S_law_rare, [], []⟩
def D_law_shuffled : He.DefD := ⟨("_law_shuffled", none), "_law_shuffled", "_law_shuffled", defArgs S_law_shuffled, defBody S_law_shuffled, defScope S_law_shuffled, [], []⟩
def D_law_pool : He.DefD := ⟨("_law_pool", none), "_law_pool", "_law_pool", defArgs S_law_pool, defBody S_law_pool, defScope S_law_pool, [], []⟩
def D_law_is_int : He.DefD := ⟨("_law_is_int", none), "_law_is_int", "_law_is_int", defArgs S_law_is_int, defBody S_law_is_int, defScope S_law_is_int, [], []⟩
def D_law_lit : He.DefD := ⟨("_law_lit", none), "_law_lit", "_law_lit", defArgs S_law_lit, defBody S_law_lit, defScope S_law_lit, [], []⟩
def D_law_drawn_literal : He.DefD := ⟨("_law_drawn_literal", none), "_law_drawn_literal", "_law_drawn_literal", defArgs S_law_drawn_literal, defBody S_law_drawn_literal, defScope S_law_drawn_literal, [], []⟩
def D_law_net : He.DefD := ⟨("_law_net", none), "_law_net", "_law_net", defArgs S_law_net, defBody S_law_net, defScope S_law_net, [], []⟩
def D_law_net_bits : He.DefD := ⟨("_law_net_bits", none), "_law_net_bits", "_law_net_bits", defArgs S_law_net_bits, defBody S_law_net_bits, defScope S_law_net_bits, [], []⟩
def D_law_net_start : He.DefD := ⟨("_law_net_start", none), "_law_net_start", "_law_net_start", defArgs S_law_net_start, defBody S_law_net_start, defScope S_law_net_start, [], []⟩
def D_law_net_beat : He.DefD := ⟨("_law_net_beat", none), "_law_net_beat", "_law_net_beat", defArgs S_law_net_beat, defBody S_law_net_beat, defScope S_law_net_beat, [], []⟩
def D_law_all_bits : He.DefD := ⟨("_law_all_bits", none), "_law_all_bits", "_law_all_bits", defArgs S_law_all_bits, defBody S_law_all_bits, defScope S_law_all_bits, [], []⟩
def D_law_tidied : He.DefD := ⟨("_law_tidied", none), "_law_tidied", "_law_tidied", defArgs S_law_tidied, defBody S_law_tidied, defScope S_law_tidied, [], []⟩
def D_law_closed_up : He.DefD := ⟨("_law_closed_up", none), "_law_closed_up", "_law_closed_up", defArgs S_law_closed_up, defBody S_law_closed_up, defScope S_law_closed_up, [], []⟩
def D_law_table_of : He.DefD := ⟨("_law_table_of", none), "_law_table_of", "_law_table_of", defArgs S_law_table_of, defBody S_law_table_of, defScope S_law_table_of, [], []⟩
def D_law_renewed : He.DefD := ⟨("_law_renewed", none), "_law_renewed", "_law_renewed", defArgs S_law_renewed, defBody S_law_renewed, defScope S_law_renewed, [], []⟩
def D_law_inverted : He.DefD := ⟨("_law_inverted", none), "_law_inverted", "_law_inverted", defArgs S_law_inverted, defBody S_law_inverted, defScope S_law_inverted, [], []⟩
def D_law_exchanged : He.DefD := ⟨("_law_exchanged", none), "_law_exchanged", "_law_exchanged", defArgs S_law_exchanged, defBody S_law_exchanged, defScope S_law_exchanged, [], []⟩
def D_law_doubled : He.DefD := ⟨("_law_doubled", none), "_law_doubled", "_law_doubled", defArgs S_law_doubled, defBody S_law_doubled, defScope S_law_doubled, [], []⟩
def D_law_variant : He.DefD := ⟨("_law_variant", none), "_law_variant", "_law_variant", defArgs S_law_variant, defBody S_law_variant, defScope S_law_variant, [], []⟩
def D_law_trapped : He.DefD := ⟨("_law_trapped", none), "_law_trapped", "_law_trapped", defArgs S_law_trapped, defBody S_law_trapped, defScope S_law_trapped, [], []⟩
def D_law_spoilt : He.DefD := ⟨("_law_spoilt", none), "_law_spoilt", "_law_spoilt", defArgs S_law_spoilt, defBody S_law_spoilt, defScope S_law_spoilt, [], []⟩
def D_law_ringed : He.DefD := ⟨("_law_ringed", none), "_law_ringed", "_law_ringed", defArgs S_law_ringed, defBody S_law_ringed, defScope S_law_ringed, [], []⟩
def D_law_shifted : He.DefD := ⟨("_law_shifted", none), "_law_shifted", "_law_shifted", defArgs S_law_shifted, defBody S_law_shifted, defScope S_law_shifted, [], []⟩
def D_law_dear : He.DefD := ⟨("_law_dear", none), "_law_dear", "_law_dear", defArgs S_law_dear, defBody S_law_dear, defScope S_law_dear, [], []⟩
def D_law_plain : He.DefD := ⟨("_law_plain", none), "_law_plain", "_law_plain", defArgs S_law_plain, defBody S_law_plain, defScope S_law_plain, [], []⟩
def D_law_search : He.DefD := ⟨("_law_search", none), "_law_search", "_law_search", defArgs S_law_search, defBody S_law_search, defScope S_law_search, [], []⟩
def D_law_due : He.DefD := ⟨("_law_due", none), "_law_due", "_law_due", defArgs S_law_due, defBody S_law_due, defScope S_law_due, [], []⟩
def D_law_turned : He.DefD := ⟨("_law_turned", none), "_law_turned", "_law_turned", defArgs S_law_turned, defBody S_law_turned, defScope S_law_turned, [], []⟩
def D_law_told : He.DefD := ⟨("_law_told", none), "_law_told", "_law_told", defArgs S_law_told, defBody S_law_told, defScope S_law_told, [], []⟩
def D_law_right : He.DefD := ⟨("_law_right", none), "_law_right", "_law_right", defArgs S_law_right, defBody S_law_right, defScope S_law_right, [], []⟩
def D_law_unlike : He.DefD := ⟨("_law_unlike", none), "_law_unlike", "_law_unlike", defArgs S_law_unlike, defBody S_law_unlike, defScope S_law_unlike, [], []⟩
def D_law_small : He.DefD := ⟨("_law_small", none), "_law_small", "_law_small", defArgs S_law_small, defBody S_law_small, defScope S_law_small, [], []⟩
def D_law : He.DefD := ⟨("law", none), "law", "law", defArgs S_law, defBody S_law, defScope S_law, [], []⟩
def fnL : List He.DefD := [D_first_reg, D_first_and, D_shown_of, D_full, D_patterns, D_node_masks, D_mask_of, D_first_state, D_inputs_with, D_masks_from, D_all_beats, D_least_one, D_search_levels, D_next_level, D_look_alike, D_look_at_pair, D_compared, D_law_begin, D_law_draw, D_law_pick, D_law_pop, D_law_rare, D_law_shuffled, D_law_pool, D_law_is_int, D_law_lit, D_law_drawn_literal, D_law_net, D_law_net_bits, D_law_net_start, D_law_net_beat, D_law_all_bits, D_law_tidied, D_law_closed_up, D_law_table_of, D_law_renewed, D_law_inverted, D_law_exchanged, D_law_doubled, D_law_variant, D_law_trapped, D_law_spoilt, D_law_ringed, D_law_shifted, D_law_dear, D_law_plain, D_law_search, D_law_due, D_law_turned, D_law_told, D_law_right, D_law_unlike, D_law_small, D_law]
def faL : List He.Fa := [.glo "first_reg", .glo "first_and", .glo "shown_of", .glo "full", .glo "patterns", .glo "node_masks", .glo "mask_of", .glo "first_state", .glo "inputs_with", .glo "masks_from", .glo "all_beats", .glo "least_one", .glo "search_levels", .glo "next_level", .glo "look_alike", .glo "look_at_pair", .glo "compared", .glo "_law_begin", .glo "_law_draw", .glo "_law_pick", .glo "_law_pop", .glo "_law_rare", .glo "_law_shuffled", .glo "_law_pool", .glo "_law_is_int", .glo "_law_lit", .glo "_law_drawn_literal", .glo "_law_net", .glo "_law_net_bits", .glo "_law_net_start", .glo "_law_net_beat", .glo "_law_all_bits", .glo "_law_tidied", .glo "_law_closed_up", .glo "_law_table_of", .glo "_law_renewed", .glo "_law_inverted", .glo "_law_exchanged", .glo "_law_doubled", .glo "_law_variant", .glo "_law_trapped", .glo "_law_spoilt", .glo "_law_ringed", .glo "_law_shifted", .glo "_law_dear", .glo "_law_plain", .glo "_law_search", .glo "_law_due", .glo "_law_turned", .glo "_law_told", .glo "_law_right", .glo "_law_unlike", .glo "_law_small", .glo "law", .free "ValueError", .free "abs", .free "all", .free "bool", .free "enumerate", .free "int", .free "isinstance", .free "len", .free "list", .free "max", .free "range", .free "reversed", .free "sorted", .free "str", .free "super", .free "tuple", .free "zip", .int "MOST_INPUTS" 6, .int "MOST_STATES" 300, .exc "Unlike", .exm "Unlike" "FabricError" true, .exm "TooMany" "FabricError" true, .glo "FabricError", .glo "LimitError", .glo "TooLarge", .glo "TooMany", .glo "Unlike"]
def tfL : List He.Defn := [("compared", none)]
abbrev hk : PySem.W.Hook := hookY faL fnL tfL
def ob (s : PySem.W.SharedT) : AlY := obY faL fnL tfL (HandSHeadRun.getT s)
theorem ob_eq (s : PySem.W.SharedT) : ob s = hk.obs s.abs := obY_eq faL fnL tfL (HandSHeadRun.getT_eq s)
def names : List PySem.Str := (["FabricError", "LimitError", "TooLarge", "TooMany", "Unlike", "first_reg", "first_and", "shown_of", "full", "patterns", "node_masks", "mask_of", "first_state", "inputs_with", "masks_from", "all_beats", "least_one", "search_levels", "next_level", "look_alike", "look_at_pair", "compared", "_law_begin", "_law_draw", "_law_pick", "_law_pop", "_law_rare", "_law_shuffled", "_law_pool", "_law_is_int"] : List PySem.Str) ++ (["_law_lit", "_law_drawn_literal", "_law_net", "_law_net_bits", "_law_net_start", "_law_net_beat", "_law_all_bits", "_law_tidied", "_law_closed_up", "_law_table_of", "_law_renewed", "_law_inverted", "_law_exchanged", "_law_doubled", "_law_variant", "_law_trapped", "_law_spoilt", "_law_ringed", "_law_shifted", "_law_dear", "_law_plain", "_law_search", "_law_due", "_law_turned", "_law_told", "_law_right", "_law_unlike", "_law_small", "MOST_INPUTS", "MOST_STATES"] : List PySem.Str)
theorem run (w : World) : HandSHeadRun.RunEq R (PySem.W.view R.prog [66]) hk ob 4000 names w := by
  intro os
  kernel_rfl
end Bf
set_option Elab.async false
set_option linter.all false
set_option maxRecDepth 100000
set_option maxHeartbeats 4000000
namespace Bf
open PySem PySem.Spec PyProof.Rows L2
theorem tmC_ok {K : PySem.W.Frag} {C : Addr} (h : tmC K C = true) : ∃ nm q N bs bm sn sub ab col dd k0 k1 k2 k3 k5, K.lookup C = some (excClassObj nm q C N bs bm true sn sub ab col dd k0 k1 k2 k3 k5 "ValueError.__new__") ∧ PySem.HandSPX.refsVE bm = true := by
  unfold tmC at h
  split at h
  · rename_i t dd cd sl ho
    obtain ⟨ht, h⟩ := He.ba h
    have ht := of_decide_eq_true ht
    subst ht
    split at h
    · rename_i C' bm k0 k1 k2 k3 n k5 hm hs
      simp only [Bool.and_eq_true, decide_eq_true_eq, Bool.not_eq_true'] at h
      obtain ⟨_, e1, e2, hdel, hdict, hbm⟩ := h
      subst e1 e2
      obtain ⟨nm, bs, mro, ns, qn, hd, sn, sub, ab, col, del⟩ := cd
      dsimp only at hm hdel hdict
      subst hm hdel hdict
      have hsl : sl = #[k0, k1, k2, k3, some (.builtin "ValueError.__new__"), k5] := by
        obtain ⟨l⟩ := sl
        simp only at hs
        rw [hs]
      subst hsl
      exact ⟨nm, qn, ns, bs, bm, sn, sub, ab, col, dd, k0, k1, k2, k3, k5, ho, hbm⟩
    · cases h
  · cases h
theorem tmCode_ok {K : PySem.W.Frag} {file : Str} {c : Addr} (h : tmCode K file c = true) : PySem.W.codeIn K (.ref c) "TooMany.__init__" = true ∧ ∃ (ccl : Value) (cdd : Option Addr) (vs : Array Value) (ccs : Array (Option Value)) (f : Str) (tf : Tok), K.lookup c = some ⟨ccl, cdd, .fields vs, ccs⟩ ∧ vs[2]? = some (.str f tf) ∧ (file == f) = true := by
  obtain ⟨h1, h2⟩ := He.ba h
  refine ⟨h1, ?_⟩
  split at h2
  · rename_i ccl cdd vs ccs ho
    split at h2
    · rename_i f tf hv
      exact ⟨ccl, cdd, vs, ccs, f, tf, ho, hv, h2⟩
    · cases h2
  · cases h2
theorem tmCell_ok {K : PySem.W.Frag} {C cc : Addr} (h : tmCell K C cc = true) : ∃ (cl : Value) (cld : Option Addr) (csl : Array (Option Value)), K.lookup cc = some ⟨cl, cld, .cell (some (.ref C)), csl⟩ := by
  unfold tmCell at h
  split at h
  · rename_i cl cld c csl ho
    rw [of_decide_eq_true h] at ho
    exact ⟨cl, cld, csl, ho⟩
  · cases h
def tmI3 (K : PySem.W.Frag) (file : Str) (C : Addr) (d c : Value) (cl : List (Str × Addr)) : Bool := match d, c, cl with
  | .none, .ref c, [(_, cc)] => tmCode K file c && tmCell K C cc
  | _, _, _ => false
theorem tmI3_ok {K : PySem.W.Frag} {file : Str} {C : Addr} {d c : Value} {cl : List (Str × Addr)} (h : tmI3 K file C d c cl = true) : ∃ cda x cc, d = .none ∧ c = .ref cda ∧ cl = [(x, cc)] ∧ tmCode K file cda = true ∧ tmCell K C cc = true := by
  unfold tmI3 at h
  split at h
  · rename_i cda x cc
    obtain ⟨k1, k2⟩ := He.ba h
    exact ⟨cda, x, cc, rfl, rfl, rfl, k1, k2⟩
  · cases h
theorem tmI_ok {K : PySem.W.Frag} {file : Str} {C : Addr} (h : tmI K file C = true) (t : tmV K = valTm) : ∃ cc cda, (∃ (oc kV doc pm : Value) (od : Option Addr) (an : Option Addr) (ct : Value) (osl : Array (Option Value)),
    K.lookup (tmF K) = some ⟨oc, od, .func (PySem.W.ksFn "__init__" "TooMany.__init__" (defArgs S_TmI) (defBody S_TmI) (defScope S_TmI) .none kV doc pm an (.ref cda) ct cc), osl⟩) ∧ tmCode K file cda = true ∧ tmCell K C cc = true := by
  unfold tmI at h
  unfold tmV at t
  cases q : K.lookup (tmF K) with
  | none =>
    rw [q] at h
    cases h
  | some o =>
    obtain ⟨oc, od, dt, osl⟩ := o
    rw [q] at h t
    cases dt with
    | func fd =>
      obtain ⟨n1, n2, n3, n4, n5, n6, n7, n8, n9, n10, n11, n12, n13, n14, n15⟩ := fd
      have e2 : (some (n1, n2, n3, n4, n5, n6, n7.map (·.1), n15) : TmV) = (some (("__init__" : Str), ("TooMany.__init__" : Str), defArgs S_TmI, .stmts (defBody S_TmI), defScope S_TmI, mainGlobals, (["__class__"] : List Str), builtinsNs) : TmV) := t
      simp only [Option.some.injEq, Prod.mk.injEq] at e2
      obtain ⟨h1, h2, h3, h4, h5, h6, h7, h8⟩ := e2
      subst h1 h2 h3 h4 h5 h6 h8
      obtain ⟨cda, x, cc, z1, z2, z3, k1, k2⟩ := tmI3_ok (show tmI3 K file C n8 n13 n7 = true from h)
      subst z1 z2 z3
      have hx : x = ("__class__" : Str) := by simpa using h7
      subst hx
      exact ⟨cc, cda, ⟨oc, n9, n10, n11, od, n12, n14, osl, rfl⟩, k1, k2⟩
    | _ => cases h
theorem tmTxt_of {P : Program} {K : PySem.W.Frag} {mg : Str → Option Value} {C : Addr} (hb : tmB K P.main.file C = true) (t : tmV K = valTm) (gC : mg "TooMany" = some (.ref C)) (sup : mg "super" = none) (top : (P.main.scope.names.lookup ("super" : Str)).isSome = false) : ∃ cc cda, TmTxt P K mg C (tmF K) cc cda := by
  unfold tmB at hb
  simp only [Bool.and_eq_true, decide_eq_true_eq] at hb
  obtain ⟨b1, b2, b3, b4, b5, b6, b7, b8, b9, b10, b11, b12, b13, b14⟩ := hb
  obtain ⟨cc, cda, ⟨oc, kV, doc, pm, od, an, ct, osl, ho⟩, k1, k2⟩ := tmI_ok b14 t
  obtain ⟨k3, k4⟩ := tmCode_ok k1
  exact ⟨cc, cda, ⟨gC, tmC_ok b1, b2, b3, b4, b5, b6, b7, b8, b9, b10, b11, sup, b12, b13, ⟨oc, kV, doc, pm, od, an, ct, osl, ho, k3⟩, k4, tmCell_ok k2, top⟩⟩
theorem errTxt_of {K : PySem.W.Frag} {mg : Str → Option Value} {CF CL CG CU CT : Addr} (gF : mg "FabricError" = some (.ref CF)) (gL : mg "LimitError" = some (.ref CL)) (gG : mg "TooLarge" = some (.ref CG)) (gU : mg "Unlike" = some (.ref CU)) (gT : mg "TooMany" = some (.ref CT)) (eU : excCB K CU = true) (eT : excCB K CT = true)
    (fU : PySem.W.exmOne K (.ref CU) (.ref CF) = some true) (fT : PySem.W.exmOne K (.ref CT) (.ref CF) = some true) (hk : kitB2 K CL CG CU CT = true) (xf : xfB K CT = true) (np : PySem.W.findIn K (.ref CT) "part" = some none) : ErrTxt K mg CF CL CG CU CT := by
  unfold kitB2 at hk
  simp only [Bool.and_eq_true, decide_eq_true_eq] at hk
  obtain ⟨h1, h2, h3, h4, h5, h6⟩ := hk
  exact ⟨gF, gL, gG, gU, gT, excCB_ok eU, excCB_ok eT, fU, fT, h1, h2, h3, h4, h5, h6, xfB_ok xf, np⟩
end Bf
set_option Elab.async false
set_option linter.all false
set_option maxRecDepth 100000
set_option maxHeartbeats 4000000
namespace Bf
open PySem PySem.Spec PyProof.Rows L2 LamX
abbrev lawP : Program := (PySem.Challenge.rw_beatfabric_k86_whole_compared).prog
theorem top_super : (lawP.main.scope.names.lookup ("super" : Str)).isSome = false := by kernel_rfl
section
variable {w : World} {K : PySem.W.Frag} {mg : Str → Option Value} {h : Heap}
theorem says_d (c : SaysY faL fnL tfL w h K) : He.SaysD faL fnL K := congrArg (fun z : He.AlT => z.1) c.x.t
theorem blt_of (X : K.In h) (G : h.Ns mainGlobals mg) (c : SaysY faL fnL tfL w h K) : Blt mg :=
  ⟨He.free_ok X G ((says_d c).fact 61 (f := .free "len") rfl), He.free_ok X G ((says_d c).fact 64 (f := .free "range") rfl), He.free_ok X G ((says_d c).fact 69 (f := .free "tuple") rfl), He.free_ok X G ((says_d c).fact 62 (f := .free "list") rfl), He.free_ok X G ((says_d c).fact 59 (f := .free "int") rfl), He.free_ok X G ((says_d c).fact 55 (f := .free "abs") rfl), He.free_ok X G ((says_d c).fact 63 (f := .free "max") rfl), He.free_ok X G ((says_d c).fact 67 (f := .free "str") rfl), He.free_ok X G ((says_d c).fact 66 (f := .free "sorted") rfl), He.free_ok X G ((says_d c).fact 70 (f := .free "zip") rfl), He.free_ok X G ((says_d c).fact 58 (f := .free "enumerate") rfl), He.free_ok X G ((says_d c).fact 65 (f := .free "reversed") rfl), He.free_ok X G ((says_d c).fact 60 (f := .free "isinstance") rfl), He.free_ok X G ((says_d c).fact 56 (f := .free "all") rfl), He.free_ok X G ((says_d c).fact 57 (f := .free "bool") rfl)⟩
theorem has_first_reg (X : K.In h) (G : h.Ns mainGlobals mg) (c : SaysY faL fnL tfL w h K) : Has K mg "first_reg" S_first_reg := by
  obtain ⟨fd, F⟩ := (says_d c).def_ 0 (d := D_first_reg) rfl
  exact ⟨_, fd, He.glo_ok X G ((says_d c).fact 0 (f := .glo "first_reg") rfl), F⟩
theorem has_first_and (X : K.In h) (G : h.Ns mainGlobals mg) (c : SaysY faL fnL tfL w h K) : Has K mg "first_and" S_first_and := by
  obtain ⟨fd, F⟩ := (says_d c).def_ 1 (d := D_first_and) rfl
  exact ⟨_, fd, He.glo_ok X G ((says_d c).fact 1 (f := .glo "first_and") rfl), F⟩
theorem has_shown_of (X : K.In h) (G : h.Ns mainGlobals mg) (c : SaysY faL fnL tfL w h K) : Has K mg "shown_of" S_shown_of := by
  obtain ⟨fd, F⟩ := (says_d c).def_ 2 (d := D_shown_of) rfl
  exact ⟨_, fd, He.glo_ok X G ((says_d c).fact 2 (f := .glo "shown_of") rfl), F⟩
theorem has_full (X : K.In h) (G : h.Ns mainGlobals mg) (c : SaysY faL fnL tfL w h K) : Has K mg "full" S_full := by
  obtain ⟨fd, F⟩ := (says_d c).def_ 3 (d := D_full) rfl
  exact ⟨_, fd, He.glo_ok X G ((says_d c).fact 3 (f := .glo "full") rfl), F⟩
theorem has_patterns (X : K.In h) (G : h.Ns mainGlobals mg) (c : SaysY faL fnL tfL w h K) : Has K mg "patterns" S_patterns := by
  obtain ⟨fd, F⟩ := (says_d c).def_ 4 (d := D_patterns) rfl
  exact ⟨_, fd, He.glo_ok X G ((says_d c).fact 4 (f := .glo "patterns") rfl), F⟩
theorem has_node_masks (X : K.In h) (G : h.Ns mainGlobals mg) (c : SaysY faL fnL tfL w h K) : Has K mg "node_masks" S_node_masks := by
  obtain ⟨fd, F⟩ := (says_d c).def_ 5 (d := D_node_masks) rfl
  exact ⟨_, fd, He.glo_ok X G ((says_d c).fact 5 (f := .glo "node_masks") rfl), F⟩
theorem has_mask_of (X : K.In h) (G : h.Ns mainGlobals mg) (c : SaysY faL fnL tfL w h K) : Has K mg "mask_of" S_mask_of := by
  obtain ⟨fd, F⟩ := (says_d c).def_ 6 (d := D_mask_of) rfl
  exact ⟨_, fd, He.glo_ok X G ((says_d c).fact 6 (f := .glo "mask_of") rfl), F⟩
theorem has_first_state (X : K.In h) (G : h.Ns mainGlobals mg) (c : SaysY faL fnL tfL w h K) : Has K mg "first_state" S_first_state := by
  obtain ⟨fd, F⟩ := (says_d c).def_ 7 (d := D_first_state) rfl
  exact ⟨_, fd, He.glo_ok X G ((says_d c).fact 7 (f := .glo "first_state") rfl), F⟩
theorem has_inputs_with (X : K.In h) (G : h.Ns mainGlobals mg) (c : SaysY faL fnL tfL w h K) : Has K mg "inputs_with" S_inputs_with := by
  obtain ⟨fd, F⟩ := (says_d c).def_ 8 (d := D_inputs_with) rfl
  exact ⟨_, fd, He.glo_ok X G ((says_d c).fact 8 (f := .glo "inputs_with") rfl), F⟩
theorem has_masks_from (X : K.In h) (G : h.Ns mainGlobals mg) (c : SaysY faL fnL tfL w h K) : Has K mg "masks_from" S_masks_from := by
  obtain ⟨fd, F⟩ := (says_d c).def_ 9 (d := D_masks_from) rfl
  exact ⟨_, fd, He.glo_ok X G ((says_d c).fact 9 (f := .glo "masks_from") rfl), F⟩
theorem has_all_beats (X : K.In h) (G : h.Ns mainGlobals mg) (c : SaysY faL fnL tfL w h K) : Has K mg "all_beats" S_all_beats := by
  obtain ⟨fd, F⟩ := (says_d c).def_ 10 (d := D_all_beats) rfl
  exact ⟨_, fd, He.glo_ok X G ((says_d c).fact 10 (f := .glo "all_beats") rfl), F⟩
theorem has_least_one (X : K.In h) (G : h.Ns mainGlobals mg) (c : SaysY faL fnL tfL w h K) : Has K mg "least_one" S_least_one := by
  obtain ⟨fd, F⟩ := (says_d c).def_ 11 (d := D_least_one) rfl
  exact ⟨_, fd, He.glo_ok X G ((says_d c).fact 11 (f := .glo "least_one") rfl), F⟩
theorem has_search_levels (X : K.In h) (G : h.Ns mainGlobals mg) (c : SaysY faL fnL tfL w h K) : Has K mg "search_levels" S_search_levels := by
  obtain ⟨fd, F⟩ := (says_d c).def_ 12 (d := D_search_levels) rfl
  exact ⟨_, fd, He.glo_ok X G ((says_d c).fact 12 (f := .glo "search_levels") rfl), F⟩
theorem has_next_level (X : K.In h) (G : h.Ns mainGlobals mg) (c : SaysY faL fnL tfL w h K) : Has K mg "next_level" S_next_level := by
  obtain ⟨fd, F⟩ := (says_d c).def_ 13 (d := D_next_level) rfl
  exact ⟨_, fd, He.glo_ok X G ((says_d c).fact 13 (f := .glo "next_level") rfl), F⟩
theorem has_look_alike (X : K.In h) (G : h.Ns mainGlobals mg) (c : SaysY faL fnL tfL w h K) : Has K mg "look_alike" S_look_alike := by
  obtain ⟨fd, F⟩ := (says_d c).def_ 14 (d := D_look_alike) rfl
  exact ⟨_, fd, He.glo_ok X G ((says_d c).fact 14 (f := .glo "look_alike") rfl), F⟩
theorem has_look_at_pair (X : K.In h) (G : h.Ns mainGlobals mg) (c : SaysY faL fnL tfL w h K) : Has K mg "look_at_pair" S_look_at_pair := by
  obtain ⟨fd, F⟩ := (says_d c).def_ 15 (d := D_look_at_pair) rfl
  exact ⟨_, fd, He.glo_ok X G ((says_d c).fact 15 (f := .glo "look_at_pair") rfl), F⟩
theorem has_law_begin (X : K.In h) (G : h.Ns mainGlobals mg) (c : SaysY faL fnL tfL w h K) : Has K mg "_law_begin" S_law_begin := by
  obtain ⟨fd, F⟩ := (says_d c).def_ 17 (d := D_law_begin) rfl
  exact ⟨_, fd, He.glo_ok X G ((says_d c).fact 17 (f := .glo "_law_begin") rfl), F⟩
theorem has_law_draw (X : K.In h) (G : h.Ns mainGlobals mg) (c : SaysY faL fnL tfL w h K) : Has K mg "_law_draw" S_law_draw := by
  obtain ⟨fd, F⟩ := (says_d c).def_ 18 (d := D_law_draw) rfl
  exact ⟨_, fd, He.glo_ok X G ((says_d c).fact 18 (f := .glo "_law_draw") rfl), F⟩
theorem has_law_pick (X : K.In h) (G : h.Ns mainGlobals mg) (c : SaysY faL fnL tfL w h K) : Has K mg "_law_pick" S_law_pick := by
  obtain ⟨fd, F⟩ := (says_d c).def_ 19 (d := D_law_pick) rfl
  exact ⟨_, fd, He.glo_ok X G ((says_d c).fact 19 (f := .glo "_law_pick") rfl), F⟩
theorem has_law_pop (X : K.In h) (G : h.Ns mainGlobals mg) (c : SaysY faL fnL tfL w h K) : Has K mg "_law_pop" S_law_pop := by
  obtain ⟨fd, F⟩ := (says_d c).def_ 20 (d := D_law_pop) rfl
  exact ⟨_, fd, He.glo_ok X G ((says_d c).fact 20 (f := .glo "_law_pop") rfl), F⟩
theorem has_law_rare (X : K.In h) (G : h.Ns mainGlobals mg) (c : SaysY faL fnL tfL w h K) : Has K mg "_law_rare" S_law_rare := by
  obtain ⟨fd, F⟩ := (says_d c).def_ 21 (d := D_law_rare) rfl
  exact ⟨_, fd, He.glo_ok X G ((says_d c).fact 21 (f := .glo "_law_rare") rfl), F⟩
theorem has_law_shuffled (X : K.In h) (G : h.Ns mainGlobals mg) (c : SaysY faL fnL tfL w h K) : Has K mg "_law_shuffled" S_law_shuffled := by
  obtain ⟨fd, F⟩ := (says_d c).def_ 22 (d := D_law_shuffled) rfl
  exact ⟨_, fd, He.glo_ok X G ((says_d c).fact 22 (f := .glo "_law_shuffled") rfl), F⟩
theorem has_law_pool (X : K.In h) (G : h.Ns mainGlobals mg) (c : SaysY faL fnL tfL w h K) : Has K mg "_law_pool" S_law_pool := by
  obtain ⟨fd, F⟩ := (says_d c).def_ 23 (d := D_law_pool) rfl
  exact ⟨_, fd, He.glo_ok X G ((says_d c).fact 23 (f := .glo "_law_pool") rfl), F⟩
theorem has_law_is_int (X : K.In h) (G : h.Ns mainGlobals mg) (c : SaysY faL fnL tfL w h K) : Has K mg "_law_is_int" S_law_is_int := by
  obtain ⟨fd, F⟩ := (says_d c).def_ 24 (d := D_law_is_int) rfl
  exact ⟨_, fd, He.glo_ok X G ((says_d c).fact 24 (f := .glo "_law_is_int") rfl), F⟩
theorem has_law_lit (X : K.In h) (G : h.Ns mainGlobals mg) (c : SaysY faL fnL tfL w h K) : Has K mg "_law_lit" S_law_lit := by
  obtain ⟨fd, F⟩ := (says_d c).def_ 25 (d := D_law_lit) rfl
  exact ⟨_, fd, He.glo_ok X G ((says_d c).fact 25 (f := .glo "_law_lit") rfl), F⟩
theorem has_law_drawn_literal (X : K.In h) (G : h.Ns mainGlobals mg) (c : SaysY faL fnL tfL w h K) : Has K mg "_law_drawn_literal" S_law_drawn_literal := by
  obtain ⟨fd, F⟩ := (says_d c).def_ 26 (d := D_law_drawn_literal) rfl
  exact ⟨_, fd, He.glo_ok X G ((says_d c).fact 26 (f := .glo "_law_drawn_literal") rfl), F⟩
theorem has_law_net (X : K.In h) (G : h.Ns mainGlobals mg) (c : SaysY faL fnL tfL w h K) : Has K mg "_law_net" S_law_net := by
  obtain ⟨fd, F⟩ := (says_d c).def_ 27 (d := D_law_net) rfl
  exact ⟨_, fd, He.glo_ok X G ((says_d c).fact 27 (f := .glo "_law_net") rfl), F⟩
theorem has_law_net_bits (X : K.In h) (G : h.Ns mainGlobals mg) (c : SaysY faL fnL tfL w h K) : Has K mg "_law_net_bits" S_law_net_bits := by
  obtain ⟨fd, F⟩ := (says_d c).def_ 28 (d := D_law_net_bits) rfl
  exact ⟨_, fd, He.glo_ok X G ((says_d c).fact 28 (f := .glo "_law_net_bits") rfl), F⟩
theorem has_law_net_start (X : K.In h) (G : h.Ns mainGlobals mg) (c : SaysY faL fnL tfL w h K) : Has K mg "_law_net_start" S_law_net_start := by
  obtain ⟨fd, F⟩ := (says_d c).def_ 29 (d := D_law_net_start) rfl
  exact ⟨_, fd, He.glo_ok X G ((says_d c).fact 29 (f := .glo "_law_net_start") rfl), F⟩
theorem has_law_net_beat (X : K.In h) (G : h.Ns mainGlobals mg) (c : SaysY faL fnL tfL w h K) : Has K mg "_law_net_beat" S_law_net_beat := by
  obtain ⟨fd, F⟩ := (says_d c).def_ 30 (d := D_law_net_beat) rfl
  exact ⟨_, fd, He.glo_ok X G ((says_d c).fact 30 (f := .glo "_law_net_beat") rfl), F⟩
theorem has_law_all_bits (X : K.In h) (G : h.Ns mainGlobals mg) (c : SaysY faL fnL tfL w h K) : Has K mg "_law_all_bits" S_law_all_bits := by
  obtain ⟨fd, F⟩ := (says_d c).def_ 31 (d := D_law_all_bits) rfl
  exact ⟨_, fd, He.glo_ok X G ((says_d c).fact 31 (f := .glo "_law_all_bits") rfl), F⟩
theorem has_law_tidied (X : K.In h) (G : h.Ns mainGlobals mg) (c : SaysY faL fnL tfL w h K) : Has K mg "_law_tidied" S_law_tidied := by
  obtain ⟨fd, F⟩ := (says_d c).def_ 32 (d := D_law_tidied) rfl
  exact ⟨_, fd, He.glo_ok X G ((says_d c).fact 32 (f := .glo "_law_tidied") rfl), F⟩
theorem has_law_closed_up (X : K.In h) (G : h.Ns mainGlobals mg) (c : SaysY faL fnL tfL w h K) : Has K mg "_law_closed_up" S_law_closed_up := by
  obtain ⟨fd, F⟩ := (says_d c).def_ 33 (d := D_law_closed_up) rfl
  exact ⟨_, fd, He.glo_ok X G ((says_d c).fact 33 (f := .glo "_law_closed_up") rfl), F⟩
theorem has_law_table_of (X : K.In h) (G : h.Ns mainGlobals mg) (c : SaysY faL fnL tfL w h K) : Has K mg "_law_table_of" S_law_table_of := by
  obtain ⟨fd, F⟩ := (says_d c).def_ 34 (d := D_law_table_of) rfl
  exact ⟨_, fd, He.glo_ok X G ((says_d c).fact 34 (f := .glo "_law_table_of") rfl), F⟩
theorem has_law_renewed (X : K.In h) (G : h.Ns mainGlobals mg) (c : SaysY faL fnL tfL w h K) : Has K mg "_law_renewed" S_law_renewed := by
  obtain ⟨fd, F⟩ := (says_d c).def_ 35 (d := D_law_renewed) rfl
  exact ⟨_, fd, He.glo_ok X G ((says_d c).fact 35 (f := .glo "_law_renewed") rfl), F⟩
theorem has_law_inverted (X : K.In h) (G : h.Ns mainGlobals mg) (c : SaysY faL fnL tfL w h K) : Has K mg "_law_inverted" S_law_inverted := by
  obtain ⟨fd, F⟩ := (says_d c).def_ 36 (d := D_law_inverted) rfl
  exact ⟨_, fd, He.glo_ok X G ((says_d c).fact 36 (f := .glo "_law_inverted") rfl), F⟩
theorem has_law_exchanged (X : K.In h) (G : h.Ns mainGlobals mg) (c : SaysY faL fnL tfL w h K) : Has K mg "_law_exchanged" S_law_exchanged := by
  obtain ⟨fd, F⟩ := (says_d c).def_ 37 (d := D_law_exchanged) rfl
  exact ⟨_, fd, He.glo_ok X G ((says_d c).fact 37 (f := .glo "_law_exchanged") rfl), F⟩
theorem has_law_doubled (X : K.In h) (G : h.Ns mainGlobals mg) (c : SaysY faL fnL tfL w h K) : Has K mg "_law_doubled" S_law_doubled := by
  obtain ⟨fd, F⟩ := (says_d c).def_ 38 (d := D_law_doubled) rfl
  exact ⟨_, fd, He.glo_ok X G ((says_d c).fact 38 (f := .glo "_law_doubled") rfl), F⟩
theorem has_law_variant (X : K.In h) (G : h.Ns mainGlobals mg) (c : SaysY faL fnL tfL w h K) : Has K mg "_law_variant" S_law_variant := by
  obtain ⟨fd, F⟩ := (says_d c).def_ 39 (d := D_law_variant) rfl
  exact ⟨_, fd, He.glo_ok X G ((says_d c).fact 39 (f := .glo "_law_variant") rfl), F⟩
theorem has_law_trapped (X : K.In h) (G : h.Ns mainGlobals mg) (c : SaysY faL fnL tfL w h K) : Has K mg "_law_trapped" S_law_trapped := by
  obtain ⟨fd, F⟩ := (says_d c).def_ 40 (d := D_law_trapped) rfl
  exact ⟨_, fd, He.glo_ok X G ((says_d c).fact 40 (f := .glo "_law_trapped") rfl), F⟩
theorem has_law_spoilt (X : K.In h) (G : h.Ns mainGlobals mg) (c : SaysY faL fnL tfL w h K) : Has K mg "_law_spoilt" S_law_spoilt := by
  obtain ⟨fd, F⟩ := (says_d c).def_ 41 (d := D_law_spoilt) rfl
  exact ⟨_, fd, He.glo_ok X G ((says_d c).fact 41 (f := .glo "_law_spoilt") rfl), F⟩
theorem has_law_ringed (X : K.In h) (G : h.Ns mainGlobals mg) (c : SaysY faL fnL tfL w h K) : Has K mg "_law_ringed" S_law_ringed := by
  obtain ⟨fd, F⟩ := (says_d c).def_ 42 (d := D_law_ringed) rfl
  exact ⟨_, fd, He.glo_ok X G ((says_d c).fact 42 (f := .glo "_law_ringed") rfl), F⟩
theorem has_law_shifted (X : K.In h) (G : h.Ns mainGlobals mg) (c : SaysY faL fnL tfL w h K) : Has K mg "_law_shifted" S_law_shifted := by
  obtain ⟨fd, F⟩ := (says_d c).def_ 43 (d := D_law_shifted) rfl
  exact ⟨_, fd, He.glo_ok X G ((says_d c).fact 43 (f := .glo "_law_shifted") rfl), F⟩
theorem has_law_dear (X : K.In h) (G : h.Ns mainGlobals mg) (c : SaysY faL fnL tfL w h K) : Has K mg "_law_dear" S_law_dear := by
  obtain ⟨fd, F⟩ := (says_d c).def_ 44 (d := D_law_dear) rfl
  exact ⟨_, fd, He.glo_ok X G ((says_d c).fact 44 (f := .glo "_law_dear") rfl), F⟩
theorem has_law_plain (X : K.In h) (G : h.Ns mainGlobals mg) (c : SaysY faL fnL tfL w h K) : Has K mg "_law_plain" S_law_plain := by
  obtain ⟨fd, F⟩ := (says_d c).def_ 45 (d := D_law_plain) rfl
  exact ⟨_, fd, He.glo_ok X G ((says_d c).fact 45 (f := .glo "_law_plain") rfl), F⟩
theorem has_law_search (X : K.In h) (G : h.Ns mainGlobals mg) (c : SaysY faL fnL tfL w h K) : Has K mg "_law_search" S_law_search := by
  obtain ⟨fd, F⟩ := (says_d c).def_ 46 (d := D_law_search) rfl
  exact ⟨_, fd, He.glo_ok X G ((says_d c).fact 46 (f := .glo "_law_search") rfl), F⟩
theorem has_law_due (X : K.In h) (G : h.Ns mainGlobals mg) (c : SaysY faL fnL tfL w h K) : Has K mg "_law_due" S_law_due := by
  obtain ⟨fd, F⟩ := (says_d c).def_ 47 (d := D_law_due) rfl
  exact ⟨_, fd, He.glo_ok X G ((says_d c).fact 47 (f := .glo "_law_due") rfl), F⟩
theorem has_law_turned (X : K.In h) (G : h.Ns mainGlobals mg) (c : SaysY faL fnL tfL w h K) : Has K mg "_law_turned" S_law_turned := by
  obtain ⟨fd, F⟩ := (says_d c).def_ 48 (d := D_law_turned) rfl
  exact ⟨_, fd, He.glo_ok X G ((says_d c).fact 48 (f := .glo "_law_turned") rfl), F⟩
theorem has_law_told (X : K.In h) (G : h.Ns mainGlobals mg) (c : SaysY faL fnL tfL w h K) : Has K mg "_law_told" S_law_told := by
  obtain ⟨fd, F⟩ := (says_d c).def_ 49 (d := D_law_told) rfl
  exact ⟨_, fd, He.glo_ok X G ((says_d c).fact 49 (f := .glo "_law_told") rfl), F⟩
theorem has_law_right (X : K.In h) (G : h.Ns mainGlobals mg) (c : SaysY faL fnL tfL w h K) : Has K mg "_law_right" S_law_right := by
  obtain ⟨fd, F⟩ := (says_d c).def_ 50 (d := D_law_right) rfl
  exact ⟨_, fd, He.glo_ok X G ((says_d c).fact 50 (f := .glo "_law_right") rfl), F⟩
theorem has_law_unlike (X : K.In h) (G : h.Ns mainGlobals mg) (c : SaysY faL fnL tfL w h K) : Has K mg "_law_unlike" S_law_unlike := by
  obtain ⟨fd, F⟩ := (says_d c).def_ 51 (d := D_law_unlike) rfl
  exact ⟨_, fd, He.glo_ok X G ((says_d c).fact 51 (f := .glo "_law_unlike") rfl), F⟩
theorem has_law_small (X : K.In h) (G : h.Ns mainGlobals mg) (c : SaysY faL fnL tfL w h K) : Has K mg "_law_small" S_law_small := by
  obtain ⟨fd, F⟩ := (says_d c).def_ 52 (d := D_law_small) rfl
  exact ⟨_, fd, He.glo_ok X G ((says_d c).fact 52 (f := .glo "_law_small") rfl), F⟩
end
end Bf
set_option Elab.async false
set_option linter.all false
set_option maxRecDepth 100000
set_option maxHeartbeats 4000000
namespace Bf
open PySem PySem.Spec PyProof.Rows L2 LamX
section
variable {w : World} {K : PySem.W.Frag} {mg : Str → Option Value} {h : Heap}
abbrev cmpCT (K : PySem.W.Frag) : Addr × Addr := He.cT K ("compared", none)
theorem law_fn (X : K.In h) (G : h.Ns mainGlobals mg) (c : SaysY faL fnL tfL w h K) {fa : Addr} (hfa : mg "law" = some (.ref fa)) : ∃ fd : FuncData, (∀ (s : Shared) (u : Value), BindsTo s fd ⟨[u], []⟩ [(("_law_script" : Str), u)]) ∧
    ∀ base : Heap, K.In base → base.Ns mainGlobals mg → TabB base mg (cmpCT K).1 (cmpCT K).2 → FnOk lawP w K mg base CX0 11 fa fd P_law (spLaw K (cmpT (cmpCT K).2)) := by
  obtain ⟨fd, F⟩ := (says_d c).def_ 53 (d := D_law) rfl
  have e := hfa.symm.trans (He.glo_ok X G ((says_d c).fact 53 (f := .glo "law") rfl))
  cases e
  have bn := FunD.bindsA (ps := ["_law_script"]) F fun _ _ _ _ _ _ us hl => match us, hl with | [_], _ => rfl
  refine ⟨fd, fun s u => bn s [u] rfl, fun base _ _ TB => ?_⟩
  obtain ⟨fc, Fc⟩ := (says_d c).def_ 16 (d := D_compared) rfl
  have hcode : fc.code = .ref (cmpCT K).1 := by
    obtain ⟨oc, od, dV, kV, doc, pm, an, cdv, ct, osl, e, lk, hcd, _, _⟩ := Fc.ex
    obtain ⟨c0, ec⟩ := He.codeIn_ref hcd
    have e1 : fc.code = .ref c0 := by
      rw [e]
      exact ec
    have e2 : He.codeOf K ("compared", none) = c0 := He.codeOf_eq (K := K) (p := ("compared", none)) lk e1
    rw [e1]
    exact congrArg Value.ref e2.symm
  have B := blt_of X G c
  -- the errors
  have more := c.x.more
  unfold exY at more
  simp only [Bool.and_eq_true] at more
  obtain ⟨m1, m2, m3, m4, m5⟩ := more
  have gU := He.glo_ok X G ((says_d c).fact 80 (f := .glo "Unlike") rfl)
  have gT := He.glo_ok X G ((says_d c).fact 79 (f := .glo "TooMany") rfl)
  have sup := He.free_ok X G ((says_d c).fact 68 (f := .free "super") rfl)
  obtain ⟨cc, cda, Tm⟩ := tmTxt_of (P := lawP) m1 c.t gT sup top_super
  obtain ⟨u1, u2, u3, u4⟩ := He.exc_ok ((says_d c).fact 73 (f := .exc "Unlike") rfl)
  have U : UnTxt K mg (He.ga K "Unlike") := ⟨gU, u2, u1, u3, u4⟩
  have Er : ErrTxt K mg (He.ga K "FabricError") (He.ga K "LimitError") (He.ga K "TooLarge") (He.ga K "Unlike") (He.ga K "TooMany") := errTxt_of (He.glo_ok X G ((says_d c).fact 76 (f := .glo "FabricError") rfl)) (He.glo_ok X G ((says_d c).fact 77 (f := .glo "LimitError") rfl)) (He.glo_ok X G ((says_d c).fact 78 (f := .glo "TooLarge") rfl)) gU gT m2 m3
    (He.exm_ok ((says_d c).fact 74 (f := .exm "Unlike" "FabricError" true) rfl)) (He.exm_ok ((says_d c).fact 75 (f := .exm "TooMany" "FabricError" true) rfl)) m5 m4 Tm.noN
  have hMI := He.int_ok X G ((says_d c).fact 71 (f := .int "MOST_INPUTS" 6) rfl)
  have hMS := He.int_ok X G ((says_d c).fact 72 (f := .int "MOST_STATES" 300) rfl)
  -- the law's defs
  have D : Draws lawP w K mg base := ok_draw' (ok_draw (has_law_draw X G c) B)
  have Lt := ok_lit (P := lawP) (w := w) (base := base) (has_law_lit X G c)
  have Tb := ok_tab (P := lawP) (w := w) (base := base) (has_law_table_of X G c) B
  have Po := ok_pool (P := lawP) (w := w) (base := base) (has_law_pool X G c) B
  have Pk := ok_pick (has_law_pick X G c) B D
  have Ra := ok_rare (has_law_rare X G c) B D
  have Dl := ok_dlit (has_law_drawn_literal X G c) B D
  have Pp := ok_pop (has_law_pop X G c) B D
  have Sf := ok_shuffled (has_law_shuffled X G c) B D
  have Rn := ok_renewed (has_law_renewed X G c) B Lt
  have In := ok_inverted (has_law_inverted X G c) B Lt Tb Rn
  have Db := ok_doubled (has_law_doubled X G c) B Lt Tb Rn
  have Ec := ok_exchanged (has_law_exchanged X G c) B Lt Tb Rn Sf
  have Cl := ok_closed_up (has_law_closed_up X G c) B Lt
  have Ti := ok_tidied (has_law_tidied X G c) B Lt Cl
  have Ne := ok_net (has_law_net X G c) B D Dl Pp Po
  have Va := ok_variant (has_law_variant X G c) B D In Ec Db Ti
  have Tr := ok_trapped (has_law_trapped X G c) B D Lt Tb
  have So := ok_spoilt (has_law_spoilt X G c) B D
  have Rg := ok_ringed (P := lawP) (w := w) (base := base) (has_law_ringed X G c) B
  have Sh := ok_shifted (P := lawP) (w := w) (base := base) (has_law_shifted X G c) B
  have De := ok_dear (has_law_dear X G c) B D Pk Rg Sh
  have Un := ok_unlike (has_law_unlike X G c) B D
  have Sm := ok_small (has_law_small X G c) B D Ra Ne Va Tr So Un
  have Nb := ok_net_bits (has_law_net_bits X G c) B Lt
  have Ns := ok_net_start (P := lawP) (w := w) (base := base) (has_law_net_start X G c) B
  have Nt := ok_net_beat (has_law_net_beat X G c) B Lt Nb
  have Al := ok_all_bits (P := lawP) (w := w) (base := base) (has_law_all_bits X G c) B
  have Se := ok_search (has_law_search X G c) B Al Ns Nt
  have Du := ok_due (has_law_due X G c) B Se
  have Tu := ok_turned (P := lawP) (w := w) (base := base) (has_law_turned X G c) B
  have Ii := ok_isint (P := lawP) (w := w) (base := base) (has_law_is_int X G c) B
  have Pl := ok_plain (has_law_plain X G c) B Ii 5
  have Ri := ok_right (has_law_right X G c) B Pl
  -- the program's
  have Fr := ok_first_reg (P := lawP) (w := w) (base := base) (has_first_reg X G c) B
  have Fa := ok_first_and (P := lawP) (w := w) (base := base) (has_first_and X G c) B
  have Fu := ok_full (P := lawP) (w := w) (base := base) (has_full X G c)
  have Mk := ok_mask_of (P := lawP) (w := w) (base := base) (has_mask_of X G c)
  have Fs := ok_first_state (P := lawP) (w := w) (base := base) (has_first_state X G c) B
  have Iw := ok_inputs_with (P := lawP) (w := w) (base := base) (has_inputs_with X G c) B
  have So2 := ok_shown_of (P := lawP) (w := w) (base := base) (has_shown_of X G c) B
  have Pa := ok_patterns (has_patterns X G c) B Fu
  have Lo := ok_least_one (P := lawP) (w := w) (base := base) (has_least_one X G c)
  have Nm := ok_node_masks (has_node_masks X G c) B Fa Mk
  have Mf := ok_masks_from (has_masks_from X G c) B Pa Fr Nm
  have Ab := ok_all_beats (has_all_beats X G c) B Fu Mf Mk So2
  have Lk := ok_look_at_pair (has_look_at_pair X G c) B Ab Lo
  have Nl := ok_next_level (P := lawP) (w := w) (base := base) (has_next_level X G c) B
  have Sl := ok_search_levels (has_search_levels X G c) B Tm hMS Iw Nl
  have La := ok_look_alike (P := lawP) (w := w) (base := base) (has_look_alike X G c) B U
  have Cm := ok_compared (P := lawP) (w := w) (He.glo_ok X G ((says_d c).fact 16 (f := .glo "compared") rfl)) Fc hcode TB B U Tm hMI La Fs Sl Lk
  have Td := ok_told (has_law_told X G c) B Er Cm
  have Be := ok_beg (P := lawP) (w := w) (base := base) (has_law_begin X G c) B
  exact ok_law F B D Be Ra De Va Sm Du Tu Td Ri
end
end Bf
set_option Elab.async false
set_option linter.all false
set_option maxRecDepth 100000
set_option maxHeartbeats 0
namespace Bf
open PySem PySem.Spec PyProof.Rows L2 LamX
theorem law_at (w : World) (mg : Str → Option Value) (fa : Addr) (h : Heap) (Y : hk.says w h) (G : h.Ns mainGlobals mg) (hfa : mg "law" = some (.ref fa)) : ∃ K : PySem.W.Frag, K.In h ∧ LamX.LawAtS PySem.Challenge.rw_beatfabric_k86_whole_compared w K CX0 11 63 "_law_script" mg fa h := by
  obtain ⟨K, X, c⟩ := Y
  obtain ⟨fd, bn, F⟩ := law_fn X G c hfa
  have m : (("compared", none) : He.Defn) ∈ tfL := List.mem_singleton.mpr rfl
  have one : ∀ p ∈ [cmpCT K], p = cmpCT K := fun p hp => List.mem_singleton.mp hp
  refine ⟨K, X, fd, [cmpCT K], spLaw K (cmpT (cmpCT K).2), fun p hp => ?_, fun p hp => ?_, fun p hp => ?_, bn, fun H a ns hl _ hT hS => ⟨a, ns, rfl, hS, by omega, fun p hp => ?_, fun _ => rfl⟩, fun base hb hg hTB => F base hb hg (hTB _ (List.mem_singleton.mpr rfl))⟩
  · rw [one p hp]
    exact c.x.empty _ m
  · rw [one p hp]
    exact c.x.out _ m
  · rw [one p hp]
    exact PySem.W.codeHd_of_K X (c.x.hd _ m)
  · rw [List.mem_singleton.mp hp]
    exact LamX.TabS.nil (hT _ (List.mem_singleton.mpr rfl))
end Bf
open PySem PySem.W PySem.Calls PyProof.Rows
theorem PySem.Challenge.cw_beatfabric_k86_whole_compared_holds : PySem.Challenge.rw_beatfabric_k86_whole_compared.Holds := by
  w_on; o_law
  refine HandSHeadRun.head_any (r := OpenLaw.row PySem.Challenge.rw_beatfabric_k86_whole_compared) (q := view (OpenLaw.row PySem.Challenge.rw_beatfabric_k86_whole_compared).prog [66]) (H := Bf.hk) (ob := Bf.ob) (M := 4000) (loose := Bf.names) (d := HandSHeadRun.topDef (OpenLaw.row PySem.Challenge.rw_beatfabric_k86_whole_compared).prog 66) (kwd := []) Bf.ob_eq
    (by kernel_rfl) (fun s => by kernel_rfl) Bf.run (by kernel_rfl) (by kernel_rfl) (by kernel_rfl) (by rfl) (by first | assumption | decide +kernel) (by decide +kernel) ⟨rfl, rfl, rfl, rfl, rfl, by decide +kernel⟩ ?hw ?hc
  case hw => w_witness2
  case hc =>
    refine LamX.walk_ofTsE (l := PySem.Challenge.rw_beatfabric_k86_whole_compared) (n := 63) (k := 11) (x := "_law_script") (CX := fun _ => L2.CX0) rfl (by decide) (by kernel_rfl) ⟨rfl, by decide, by decide⟩ ?F (fun _ _ _ _ _ z => z)
    intro w mg fa h Y G hmg0
    have hmg : mg ("law" : PySem.Str) = some (.ref fa) := by
      have e : (HandSHeadRun.topDef (OpenLaw.row PySem.Challenge.rw_beatfabric_k86_whole_compared).prog 66).name = ("law" : PySem.Str) := by kernel_rfl
      rw [← e]
      exact hmg0
    exact Bf.law_at w mg fa h Y G hmg
