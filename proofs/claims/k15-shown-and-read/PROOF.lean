import PyProof.Rows.All
import Wide.All
import OpenK.AllK
import Wide.FinOn
import PySem.Challenge.RW_drawhouse_k15_shown_and_read
import HandS.ForMost
import HandS.ForExc
import HandS.Walk
import HandS.IsInst
import HandS.Wide
import HandS.WideBits
import HandS.Deep
import HandS.Conv
import HandS.Flow
import HandS.Evl
import HandS.TryOnly
import HandS.ExcOwn
import HandS.Codes
import HandS.Small
import HandS.RaiseMore
import HandS.DeepEq
import PyProof.StrOps2
import PyProof.P3Eq
import PyProof.ExcBaseAll.ValueError
set_option Elab.async false
set_option linter.all false
set_option maxRecDepth 100000
set_option maxHeartbeats 4000000
/-! Sd: data in slots; expressions come to data, statements to what they leave. -/
namespace Sd
open PySem PySem.Spec PyProof.Rows L2

/-! ### data -/
inductive D where
  | non | bl (b : Bool) | int (i : Int) | str (l : List Nat) | ty (n : String)
  | lst (xs : List D) | tup (xs : List D) | dct (kvs : List (Key × D)) | ins (C : Str) (fs : List (Str × D)) | scr (ns : List Int)

abbrev S (l : List Nat) : Str := ⟨l.toArray⟩

mutual
inductive Is (K : PySem.W.Frag) (G : Hp) : V → D → Prop
  | non : Is K G .non .non
  | bl (b : Bool) : Is K G (.bl b) (.bl b)
  | int (i : Int) : Is K G (.int i) (.int i)
  | str (l : List Nat) : Is K G (.str (S l)) (.str l)
  | ty (n : String) : Is K G (.ty n) (.ty n)
  | lst {a : Addr} {xs : List V} {ds : List D} : G a = some (.lst xs) → IsAll K G xs ds → Is K G (.ref a) (.lst ds)
  | tup {a : Addr} {xs : List V} {ds : List D} : SqT K G a xs → IsAll K G xs ds → Is K G (.ref a) (.tup ds)
  | dct {a : Addr} {xs : List (Key × V)} {ds : List (Key × D)} : G a = some (.dK xs) → IsKV K G xs ds → Is K G (.ref a) (.dct ds)
  | ins {a C dx : Addr} {n : Str} {xs : List (Str × V)} {ds : List (Str × D)} : PySem.W.nsIn K mainGlobals n = some (some (.ref C)) → G a = some (.ins C dx xs) → IsFs K G xs ds → Is K G (.ref a) (.ins n ds)
  | scr {a : Addr} {ns : List Int} : SqL K G a (ns.map V.int) → Is K G (.ref a) (.scr ns)
inductive IsAll (K : PySem.W.Frag) (G : Hp) : List V → List D → Prop
  | nil : IsAll K G [] []
  | cons {v : V} {vs : List V} {d : D} {ds : List D} : Is K G v d → IsAll K G vs ds → IsAll K G (v :: vs) (d :: ds)
inductive IsKV (K : PySem.W.Frag) (G : Hp) : List (Key × V) → List (Key × D) → Prop
  | nil : IsKV K G [] []
  | cons {k : Key} {v : V} {vs : List (Key × V)} {d : D} {ds : List (Key × D)} : Is K G v d → IsKV K G vs ds → IsKV K G ((k, v) :: vs) ((k, d) :: ds)
inductive IsFs (K : PySem.W.Frag) (G : Hp) : List (Str × V) → List (Str × D) → Prop
  | nil : IsFs K G [] []
  | cons {k : Str} {v : V} {vs : List (Str × V)} {d : D} {ds : List (Str × D)} : Is K G v d → IsFs K G vs ds → IsFs K G ((k, v) :: vs) ((k, d) :: ds)
end

abbrev Ex := Evl.Ex
section
variable {K : PySem.W.Frag} {G G' : Hp}
mutual
theorem Is.mono (e : Ex G G') : ∀ (d : D) (v : V), Is K G v d → Is K G' v d
  | .non, _, h => by cases h; exact .non
  | .bl b, _, h => by cases h; exact .bl b
  | .int i, _, h => by cases h; exact .int i
  | .str l, _, h => by cases h; exact .str l
  | .ty n, _, h => by cases h; exact .ty n
  | .lst ds, _, h => by cases h with | lst h1 h2 => exact .lst (e _ _ h1) (IsAll.mono e ds _ h2)
  | .tup ds, _, h => by cases h with | tup h1 h2 => exact .tup (Evl.ex_t e h1) (IsAll.mono e ds _ h2)
  | .dct ds, _, h => by cases h with | dct h1 h2 => exact .dct (e _ _ h1) (IsKV.mono e ds _ h2)
  | .ins C ds, _, h => by cases h with | ins h0 h1 h2 => exact .ins h0 (e _ _ h1) (IsFs.mono e ds _ h2)
  | .scr ns, _, h => by cases h with | scr h1 => exact .scr (Evl.ex_l e h1)
theorem IsAll.mono (e : Ex G G') : ∀ (ds : List D) (vs : List V), IsAll K G vs ds → IsAll K G' vs ds
  | [], _, h => by cases h; exact .nil
  | d :: ds, _, h => by cases h with | cons h1 h2 => exact .cons (Is.mono e d _ h1) (IsAll.mono e ds _ h2)
theorem IsKV.mono (e : Ex G G') : ∀ (ds : List (Key × D)) (vs : List (Key × V)), IsKV K G vs ds → IsKV K G' vs ds
  | [], _, h => by cases h; exact .nil
  | (k, d) :: ds, _, h => by cases h with | cons h1 h2 => exact .cons (Is.mono e d _ h1) (IsKV.mono e ds _ h2)
theorem IsFs.mono (e : Ex G G') : ∀ (ds : List (Str × D)) (vs : List (Str × V)), IsFs K G vs ds → IsFs K G' vs ds
  | [], _, h => by cases h; exact .nil
  | (k, d) :: ds, _, h => by cases h with | cons h1 h2 => exact .cons (Is.mono e d _ h1) (IsFs.mono e ds _ h2)
end
theorem Is.up {v : V} {d : D} (h : Is K G v d) (e : Ex G G') : Is K G' v d := Is.mono e d v h
theorem IsAll.up {v : List V} {d : List D} (h : IsAll K G v d) (e : Ex G G') : IsAll K G' v d := IsAll.mono e d v h
theorem IsAll.len : ∀ {vs : List V} {ds : List D}, IsAll K G vs ds → vs.length = ds.length
  | _, _, .nil => rfl
  | _, _, .cons _ t => congrArg (· + 1) t.len
theorem IsAll.get : ∀ {vs : List V} {ds : List D} {i : Nat} {d : D}, IsAll K G vs ds → ds[i]? = some d → ∃ v, vs[i]? = some v ∧ Is K G v d
  | _, _, _, _, .nil, e => by simp at e
  | _, _, 0, _, .cons h _, e => by
    simp at e
    subst e
    exact ⟨_, rfl, h⟩
  | _, _, i + 1, d, .cons _ t, e => by
    obtain ⟨v, h1, h2⟩ := IsAll.get (i := i) (d := d) t (by simpa using e)
    exact ⟨v, by simpa using h1, h2⟩
theorem IsAll.getV : ∀ {vs : List V} {ds : List D} {i : Nat} {v : V}, IsAll K G vs ds → vs[i]? = some v → ∃ d, ds[i]? = some d ∧ Is K G v d
  | _, _, _, _, .nil, e => by simp at e
  | _, _, 0, _, .cons h _, e => by
    simp at e
    subst e
    exact ⟨_, rfl, h⟩
  | _, _, i + 1, d, .cons _ t, e => by
    obtain ⟨v, h1, h2⟩ := IsAll.getV (i := i) (v := d) t (by simpa using e)
    exact ⟨v, by simpa using h1, h2⟩
theorem IsAll.app : ∀ {vs ws : List V} {ds es : List D}, IsAll K G vs ds → IsAll K G ws es → IsAll K G (vs ++ ws) (ds ++ es)
  | _, _, _, _, .nil, h => h
  | _, _, _, _, .cons a t, h => .cons a (t.app h)
theorem IsAll.take : ∀ {vs : List V} {ds : List D} (n : Nat), IsAll K G vs ds → IsAll K G (vs.take n) (ds.take n)
  | _, _, 0, _ => .nil
  | _, _, _ + 1, .nil => .nil
  | _, _, n + 1, .cons a t => .cons a (t.take n)
theorem IsAll.drop : ∀ {vs : List V} {ds : List D} (n : Nat), IsAll K G vs ds → IsAll K G (vs.drop n) (ds.drop n)
  | _, _, 0, h => h
  | _, _, _ + 1, .nil => .nil
  | _, _, n + 1, .cons a t => t.drop n
theorem IsAll.set : ∀ {vs : List V} {ds : List D} (n : Nat) {v : V} {d : D}, IsAll K G vs ds → Is K G v d → IsAll K G (vs.set n v) (ds.set n d)
  | _, _, _, _, _, .nil, _ => .nil
  | _, _, 0, _, _, .cons a t, h => .cons h t
  | _, _, n + 1, _, _, .cons a t, h => .cons a (t.set n h)
theorem IsAll.rev : ∀ {vs : List V} {ds : List D}, IsAll K G vs ds → IsAll K G vs.reverse ds.reverse
  | _, _, .nil => .nil
  | _, _, .cons a t => by
    rw [List.reverse_cons, List.reverse_cons]
    exact t.rev.app (.cons a .nil)
theorem IsAll.strs : ∀ {vs : List V} {ls : List (List Nat)}, IsAll K G vs (ls.map D.str) → vs = ls.map (fun l => V.str (S l))
  | _, [], h => by cases h; rfl
  | _, l :: ls, h => by
    cases h with
    | cons h1 h2 =>
      cases h1
      rw [h2.strs]
      rfl
theorem IsAll.ints : ∀ {vs : List V} {ls : List Int}, IsAll K G vs (ls.map D.int) → vs = ls.map V.int
  | _, [], h => by cases h; rfl
  | _, l :: ls, h => by
    cases h with
    | cons h1 h2 =>
      cases h1
      rw [h2.ints]
      rfl
theorem IsAll.bls : ∀ {vs : List V} {ls : List Bool}, IsAll K G vs (ls.map D.bl) → vs = ls.map V.bl
  | _, [], h => by cases h; rfl
  | _, l :: ls, h => by
    cases h with
    | cons h1 h2 =>
      cases h1
      rw [h2.bls]
      rfl
theorem IsAll.ofStrs : ∀ (ls : List (List Nat)), IsAll K G (ls.map (fun l => V.str (S l))) (ls.map D.str)
  | [] => .nil
  | l :: ls => .cons (.str l) (IsAll.ofStrs ls)
theorem IsAll.ofInts : ∀ (ls : List Int), IsAll K G (ls.map V.int) (ls.map D.int)
  | [] => .nil
  | l :: ls => .cons (.int l) (IsAll.ofInts ls)
end

/-! ### growth -/
structure Grow (G H G' H' : Hp) : Prop where
  g : Ex G G'
  h : Ex H H'
  s : Ex G' H'
  f : ∀ b o, H b = some o → G b = none → G' b = none
theorem Grow.refl {G H : Hp} (s : Ex G H) : Grow G H G H := ⟨Evl.Ex.refl _, Evl.Ex.refl _, s, fun _ _ _ h => h⟩
theorem Grow.trans {G H G1 H1 G2 H2 : Hp} (a : Grow G H G1 H1) (b : Grow G1 H1 G2 H2) : Grow G H G2 H2 :=
  ⟨a.g.trans b.g, a.h.trans b.h, b.s, fun x o h n => b.f x o (a.h x o h) (a.f x o h n)⟩
/-- a new object, frozen at once -/
theorem Grow.new {G H : Hp} {p : Addr} {o : HO} (s : Ex G H) (h : H p = none) : Grow G H (upd G p o) (upd H p o) := by
  have hg : G p = none := Evl.fresh_back s h
  refine ⟨Evl.Ex.new hg, Evl.Ex.new h, fun b u e => ?_, fun b u e n => ?_⟩
  · by_cases hb : b = p
    · subst hb
      rw [upd_same] at e ⊢
      exact e
    · rw [upd_ne hb] at e ⊢
      exact s b u e
  · rw [upd_ne (ne_of_none e h)]
    exact n
/-- a new object, not frozen -/
theorem Grow.lay {G H : Hp} {p : Addr} {o : HO} (s : Ex G H) (h : H p = none) : Grow G H G (upd H p o) :=
  ⟨Evl.Ex.refl _, Evl.Ex.new h, s.trans (Evl.Ex.new h), fun _ _ _ n => n⟩
/-- a laid object is frozen -/
theorem Grow.frz {G H G' H' : Hp} {p : Addr} {o : HO} (a : Grow G H G' H') (h : H p = none) (hp : H' p = some o) (n : G' p = none) : Grow G H (upd G' p o) H' := by
  refine ⟨a.g.trans (Evl.Ex.new n), a.h, fun b u e => ?_, fun b u e m => ?_⟩
  · by_cases hb : b = p
    · subst hb
      rw [upd_same] at e
      rw [hp]
      exact e
    · rw [upd_ne hb] at e
      exact a.s b u e
  · rw [upd_ne (ne_of_none e h)]
    exact a.f b u e m

/-! ### the slots -/
inductive OO where
  | lst (xs : List D) | dct (kvs : List (Key × D))
inductive B where
  | un | d (x : D) | own (o : OO)
def OwnIs (K : PySem.W.Frag) (G : Hp) : OO → HO → Prop
  | .lst ds, .lst vs => IsAll K G vs ds
  | .dct ds, .dK kvs => IsKV K G kvs ds
  | _, _ => False
theorem OwnIs.up {K : PySem.W.Frag} {G G' : Hp} {o : OO} {u : HO} (h : OwnIs K G o u) (e : Ex G G') : OwnIs K G' o u := by
  cases o with
  | lst ds =>
    cases u with
    | lst vs => exact IsAll.up (show IsAll K G vs ds from h) e
    | _ => exact h.elim
  | dct ds =>
    cases u with
    | dK vs => exact IsKV.mono e ds vs h
    | _ => exact h.elim
theorem OwnIs.lst {K : PySem.W.Frag} {G : Hp} {ds : List D} {u : HO} (h : OwnIs K G (.lst ds) u) : ∃ vs, u = .lst vs ∧ IsAll K G vs ds := by
  cases u with
  | lst vs => exact ⟨vs, rfl, h⟩
  | _ => exact h.elim

structure Stt (K : PySem.W.Frag) (F : Hp) (Γ : List B) (σ : L2.St) (G H : Hp) : Prop where
  len : σ.length = Γ.length
  sub : Ex G H
  dat : ∀ (i : Nat) (x : D), Γ[i]? = some (B.d x) → ∃ v, σ[i]? = some (some v) ∧ Is K G v x
  own : ∀ (i : Nat) (o : OO), Γ[i]? = some (B.own o) → ∃ p u, σ[i]? = some (some (.ref p)) ∧ H p = some u ∧ G p = none ∧ F p = none ∧ OwnIs K G o u
  sep : ∀ (i j : Nat) (p : Addr) (o o' : OO), Γ[i]? = some (B.own o) → Γ[j]? = some (B.own o') → σ[i]? = some (some (.ref p)) → σ[j]? = some (some (.ref p)) → i = j
theorem Stt.grow {K : PySem.W.Frag} {F : Hp} {Γ : List B} {σ : L2.St} {G H G' H' : Hp} (s : Stt K F Γ σ G H) (g : Grow G H G' H') : Stt K F Γ σ G' H' :=
  ⟨s.len, g.s, fun i x h => let ⟨v, h1, h2⟩ := s.dat i x h; ⟨v, h1, h2.up g.g⟩,
   fun i o h => let ⟨p, u, h1, h2, h3, h5, h4⟩ := s.own i o h; ⟨p, u, h1, g.h p u h2, g.f p u h2 h3, h5, h4.up g.g⟩, s.sep⟩
/-- a slot gets data -/
theorem Stt.set {K : PySem.W.Frag} {F : Hp} {Γ : List B} {σ : L2.St} {G H : Hp} {v : V} {x : D} (s : Stt K F Γ σ G H) (i : Nat) (h : Is K G v x) : Stt K F (Γ.set i (.d x)) (σ.set i (some v)) G H := by
  refine ⟨by rw [List.length_set, List.length_set]; exact s.len, s.sub, fun j y e => ?_, fun j o e => ?_, fun j k p o o' e1 e2 e3 e4 => ?_⟩
  · by_cases hj : i = j
    · subst hj
      have hl : i < Γ.length := by
        have := (List.getElem?_eq_some_iff.mp e).1
        rw [List.length_set] at this
        exact this
      rw [List.getElem?_set_self hl] at e
      cases e
      exact ⟨v, List.getElem?_set_self (by rw [s.len]; exact hl), h⟩
    · rw [List.getElem?_set_ne hj] at e ⊢
      exact s.dat j y e
  · have hj : i ≠ j := fun z => by
      subst z
      have hl : i < Γ.length := by
        have := (List.getElem?_eq_some_iff.mp e).1
        rw [List.length_set] at this
        exact this
      rw [List.getElem?_set_self hl] at e
      cases e
    rw [List.getElem?_set_ne hj] at e ⊢
    exact s.own j o e
  · have ne : ∀ {j : Nat} {o : OO}, (Γ.set i (B.d x))[j]? = some (B.own o) → i ≠ j := fun {j o} e z => by
      subst z
      have hl : i < Γ.length := by
        have := (List.getElem?_eq_some_iff.mp e).1
        rw [List.length_set] at this
        exact this
      rw [List.getElem?_set_self hl] at e
      cases e
    have h1 := ne e1
    have h2 := ne e2
    rw [List.getElem?_set_ne h1] at e1 e3
    rw [List.getElem?_set_ne h2] at e2 e4
    exact s.sep j k p o o' e1 e2 e3 e4
/-- a slot is forgotten -/
theorem Stt.unset {K : PySem.W.Frag} {F : Hp} {Γ : List B} {σ : L2.St} {G H : Hp} (s : Stt K F Γ σ G H) (i : Nat) (y : Option V) : Stt K F (Γ.set i .un) (σ.set i y) G H := by
  have ne : ∀ {j : Nat} {b : B}, b ≠ .un → (Γ.set i B.un)[j]? = some b → i ≠ j := fun {j b} hb e z => by
    subst z
    have hl : i < Γ.length := by
      have := (List.getElem?_eq_some_iff.mp e).1
      rw [List.length_set] at this
      exact this
    rw [List.getElem?_set_self hl] at e
    cases e
    exact hb rfl
  refine ⟨by rw [List.length_set, List.length_set]; exact s.len, s.sub, fun j y e => ?_, fun j o e => ?_, fun j k p o o' e1 e2 e3 e4 => ?_⟩
  · have h1 := ne (by simp) e
    rw [List.getElem?_set_ne h1] at e ⊢
    exact s.dat j y e
  · have h1 := ne (by simp) e
    rw [List.getElem?_set_ne h1] at e ⊢
    exact s.own j o e
  · have h1 := ne (by simp) e1
    have h2 := ne (by simp) e2
    rw [List.getElem?_set_ne h1] at e1 e3
    rw [List.getElem?_set_ne h2] at e2 e4
    exact s.sep j k p o o' e1 e2 e3 e4
/-- a slot gets a thing of its own -/
theorem Stt.setO {K : PySem.W.Frag} {F : Hp} {Γ : List B} {σ : L2.St} {G H : Hp} {p : Addr} {u : HO} {o : OO} (s : Stt K F Γ σ G H) (i : Nat) (hp : H p = some u) (n : G p = none) (f : F p = none) (h : OwnIs K G o u)
    (d : ∀ (j : Nat) (o' : OO), j ≠ i → Γ[j]? = some (B.own o') → σ[j]? ≠ some (some (V.ref p))) : Stt K F (Γ.set i (.own o)) (σ.set i (some (.ref p))) G H := by
  have bd : ∀ {j : Nat} {b : B}, i = j → (Γ.set i (B.own o))[j]? = some b → b = .own o ∧ i < Γ.length := fun {j b} z e => by
    subst z
    have hl : i < Γ.length := by
      have := (List.getElem?_eq_some_iff.mp e).1
      rw [List.length_set] at this
      exact this
    rw [List.getElem?_set_self hl] at e
    cases e
    exact ⟨rfl, hl⟩
  refine ⟨by rw [List.length_set, List.length_set]; exact s.len, s.sub, fun j y e => ?_, fun j o1 e => ?_, fun j k q o1 o2 e1 e2 e3 e4 => ?_⟩
  · by_cases hj : i = j
    · cases (bd hj e).1
    · rw [List.getElem?_set_ne hj] at e ⊢
      exact s.dat j y e
  · by_cases hj : i = j
    · obtain ⟨z, hl⟩ := bd hj e
      cases z
      subst hj
      exact ⟨p, u, List.getElem?_set_self (by rw [s.len]; exact hl), hp, n, f, h⟩
    · rw [List.getElem?_set_ne hj] at e ⊢
      exact s.own j o1 e
  · by_cases hj : i = j
    · by_cases hk : i = k
      · exact hj.symm.trans hk
      · obtain ⟨_, hl⟩ := bd hj e1
        subst hj
        rw [List.getElem?_set_ne hk] at e2 e4
        rw [List.getElem?_set_self (by rw [s.len]; exact hl)] at e3
        cases e3
        exact absurd e4 (d k o2 (Ne.symm hk) e2)
    · by_cases hk : i = k
      · obtain ⟨_, hl⟩ := bd hk e2
        subst hk
        rw [List.getElem?_set_ne hj] at e1 e3
        rw [List.getElem?_set_self (by rw [s.len]; exact hl)] at e4
        cases e4
        exact absurd e3 (d j o1 (Ne.symm hj) e1)
      · rw [List.getElem?_set_ne hj] at e1 e3
        rw [List.getElem?_set_ne hk] at e2 e4
        exact s.sep j k q o1 o2 e1 e2 e3 e4
/-- a new thing's address is nobody's -/
theorem Stt.fresh {K : PySem.W.Frag} {F : Hp} {Γ : List B} {σ : L2.St} {G H : Hp} {p : Addr} (s : Stt K F Γ σ G H) (n : H p = none) {j : Nat} {o : OO} (e : Γ[j]? = some (B.own o)) : σ[j]? ≠ some (some (V.ref p)) := fun z => by
  obtain ⟨q, u, h1, h2, _⟩ := s.own j o e
  rw [h1] at z
  cases z
  rw [n] at h2
  cases h2
/-- one's own thing in a slot changes -/
theorem Stt.mut {K : PySem.W.Frag} {F : Hp} {Γ : List B} {σ : L2.St} {G H : Hp} {p : Addr} {u : HO} {o o' : OO} (s : Stt K F Γ σ G H) {i : Nat} (e : Γ[i]? = some (B.own o)) (hs : σ[i]? = some (some (V.ref p))) (h : OwnIs K G o' u) :
    Stt K F (Γ.set i (.own o')) σ G (upd H p u) := by
  obtain ⟨q, w, h1, h2, h3, h5, _⟩ := s.own i o e
  rw [hs] at h1
  cases h1
  have hl : i < Γ.length := (List.getElem?_eq_some_iff.mp e).1
  refine ⟨by rw [List.length_set]; exact s.len, fun b u' e' => ?_, fun j y e' => ?_, fun j o1 e' => ?_, fun j k q o1 o2 e1 e2 e3 e4 => ?_⟩
  · rw [upd_ne (ne_of_none e' h3)]
    exact s.sub b u' e'
  · have hj : i ≠ j := fun z => by
      subst z
      rw [List.getElem?_set_self hl] at e'
      cases e'
    rw [List.getElem?_set_ne hj] at e'
    exact s.dat j y e'
  · by_cases hj : i = j
    · subst hj
      rw [List.getElem?_set_self hl] at e'
      cases e'
      exact ⟨p, u, hs, upd_same, h3, h5, h⟩
    · rw [List.getElem?_set_ne hj] at e'
      obtain ⟨q, w', k1, k2, k3, k4, k5⟩ := s.own j o1 e'
      have hne : q ≠ p := fun z => by
        subst z
        exact hj (s.sep i j q o o1 e e' hs k1)
      exact ⟨q, w', k1, by rw [upd_ne hne]; exact k2, k3, k4, k5⟩
  · have back : ∀ {j : Nat} {o1 : OO}, (Γ.set i (B.own o'))[j]? = some (B.own o1) → ∃ o2, Γ[j]? = some (B.own o2) := fun {j o1} e' => by
      by_cases hj : i = j
      · subst hj
        exact ⟨o, e⟩
      · rw [List.getElem?_set_ne hj] at e'
        exact ⟨o1, e'⟩
    obtain ⟨o3, e5⟩ := back e1
    obtain ⟨o4, e6⟩ := back e2
    exact s.sep j k q o3 o4 e5 e6 e3 e4
/-- one's own list stays from now on -/
theorem Stt.frzL {K : PySem.W.Frag} {F : Hp} {Γ : List B} {σ : L2.St} {G H : Hp} {ds : List D} (s : Stt K F Γ σ G H) {i : Nat} (e : Γ[i]? = some (B.own (.lst ds))) :
    ∃ p vs, σ[i]? = some (some (V.ref p)) ∧ H p = some (.lst vs) ∧ G p = none ∧ F p = none ∧ Stt K F (Γ.set i (.d (.lst ds))) σ (upd G p (.lst vs)) H := by
  obtain ⟨p, u, h1, h2, h3, h5, h4⟩ := s.own i _ e
  obtain ⟨vs, rfl, ha⟩ := h4.lst
  have hl : i < Γ.length := (List.getElem?_eq_some_iff.mp e).1
  have ex : Ex G (upd G p (.lst vs)) := Evl.Ex.new h3
  refine ⟨p, vs, h1, h2, h3, h5, ?_⟩
  refine ⟨by rw [List.length_set]; exact s.len, fun b u' e' => ?_, fun j y e' => ?_, fun j o1 e' => ?_, fun j k q o1 o2 e1 e2 e3 e4 => ?_⟩
  · by_cases hb : b = p
    · subst hb
      rw [upd_same] at e'
      rw [h2]
      exact e'
    · rw [upd_ne hb] at e'
      exact s.sub b u' e'
  · by_cases hj : i = j
    · subst hj
      rw [List.getElem?_set_self hl] at e'
      cases e'
      exact ⟨_, h1, .lst upd_same (ha.up ex)⟩
    · rw [List.getElem?_set_ne hj] at e'
      obtain ⟨v, k1, k2⟩ := s.dat j y e'
      exact ⟨v, k1, k2.up ex⟩
  · by_cases hj : i = j
    · subst hj
      rw [List.getElem?_set_self hl] at e'
      cases e'
    · rw [List.getElem?_set_ne hj] at e'
      obtain ⟨q, w', k1, k2, k3, k4, k5⟩ := s.own j o1 e'
      have hne : q ≠ p := fun z => by
        subst z
        exact hj (s.sep i j q _ o1 e e' h1 k1)
      exact ⟨q, w', k1, k2, by rw [upd_ne hne]; exact k3, k4, k5.up ex⟩
  · have ne : ∀ {j : Nat} {o : OO}, (Γ.set i (B.d (.lst ds)))[j]? = some (B.own o) → i ≠ j := fun {j o} e z => by
      subst z
      rw [List.getElem?_set_self hl] at e
      cases e
    have n1 := ne e1
    have n2 := ne e2
    rw [List.getElem?_set_ne n1] at e1
    rw [List.getElem?_set_ne n2] at e2
    exact s.sep j k q o1 o2 e1 e2 e3 e4

/-! ### what an expression comes to -/
def EvD (K : PySem.W.Frag) (Γ : List B) (te : TE) (x : D) : Prop :=
  ∀ F σ G H, Stt K F Γ σ G H → ∀ Q : VK, (∀ v G' H', Grow G H G' H' → Is K G' v x → Q v H') → te σ H Q
/-- a new thing of one's own -/
def EvO (K : PySem.W.Frag) (Γ : List B) (te : TE) (o : OO) : Prop :=
  ∀ F σ G H, Stt K F Γ σ G H → ∀ Q : VK, (∀ p u G' H', Grow G H G' H' → H' p = some u → G' p = none → H p = none → OwnIs K G' o u → Q (.ref p) H') → te σ H Q
/-- a list that may be read -/
def EvL (K : PySem.W.Frag) (Γ : List B) (te : TE) (ds : List D) : Prop :=
  ∀ F σ G H, Stt K F Γ σ G H → ∀ Q : VK, (∀ p vs G' H', Grow G H G' H' → H' p = some (.lst vs) → IsAll K G' vs ds → Q (.ref p) H') → te σ H Q
def EvT (K : PySem.W.Frag) (Γ : List B) (tt : TT) (b : Bool) : Prop :=
  ∀ F σ G H, Stt K F Γ σ G H → ∀ Q : Bool → Hp → Prop, (∀ G' H', Grow G H G' H' → Q b H') → tt σ H Q
def EvA (K : PySem.W.Frag) (Γ : List B) (ta : TA) (ds : List D) : Prop :=
  ∀ F σ G H, Stt K F Γ σ G H → ∀ Q : List V → Hp → Prop, (∀ vs G' H', Grow G H G' H' → IsAll K G' vs ds → Q vs H') → ta σ H Q
def EvP (K : PySem.W.Frag) (Γ : List B) (to : TO) (o : Option Int) : Prop :=
  ∀ F σ G H, Stt K F Γ σ G H → ∀ Q : Option Int → Hp → Prop, (∀ G' H', Grow G H G' H' → Q o H') → to σ H Q

/-! the readings by their meaning -/
structure WE (X : Cx) (e : Expr) (σ : L2.St) (H : Hp) (Q : VK) : Prop where
  run : ∀ (pins : List (Addr × Obj)) (s : Shared), Inv X pins σ H s → wpAny (model X.prog X.w) X.A (eval e X.env) (EP X pins σ Q) X.xe s
structure WT (X : Cx) (e : Expr) (σ : L2.St) (H : Hp) (Q : Bool → Hp → Prop) : Prop where
  run : ∀ (pins : List (Addr × Obj)) (s : Shared), Inv X pins σ H s → wpAny (model X.prog X.w) X.A (isTrue e X.env (eval e X.env)) (TP X pins σ Q) X.xe s
structure WW (X : Cx) (e : Expr) (σ : L2.St) (H : Hp) (Q : Bool → Hp → Prop) : Prop where
  run : ∀ (whole : Sem Value) (pins : List (Addr × Obj)) (s : Shared), Inv X pins σ H s → wpAny (model X.prog X.w) X.A (isTrue e X.env whole) (TP X pins σ Q) X.xe s
structure WA (X : Cx) (es : List Expr) (σ : L2.St) (H : Hp) (Q : List V → Hp → Prop) : Prop where
  run : ∀ (pos : Pos) (pins : List (Addr × Obj)) (s : Shared), Inv X pins σ H s → wpAny (model X.prog X.w) X.A (spliced (backTo pos (starEach es X.env))) (AP X pins σ Q) X.xe s
structure WS (X : Cx) (sts : List Stmt) (D : Ends) (σ : L2.St) (H : Hp) : Prop where
  run : ∀ (pins : List (Addr × Obj)) (s : Shared), Inv X pins σ H s → wpAny (model X.prog X.w) X.A (execs sts X.env) (SP X pins D) X.xe s
def wE (X : Cx) (e : Expr) : TE := WE X e
def wT (X : Cx) (e : Expr) : TT := WT X e
def wW (X : Cx) (e : Expr) : TT := WW X e
def wA (X : Cx) (es : List Expr) : TA := WA X es
def wS (X : Cx) (sts : List Stmt) : TS := WS X sts
section
variable {X : Cx} {e : Expr} {es : List Expr} {sts : List Stmt}
theorem pe_w : PE X e (wE X e) := ⟨fun pins s _ _ _ I h => WE.run h pins s I⟩
theorem pt_w : PT X e (wT X e) := ⟨fun pins s _ _ _ I h => WT.run h pins s I⟩
theorem pw_w : PW X e (wW X e) := ⟨fun wh pins s _ _ _ I h => WW.run h wh pins s I⟩
theorem pa_w : PA X es (wA X es) := ⟨fun pos pins s _ _ _ I h => WA.run h pos pins s I⟩
theorem pss_w : PSs X sts (wS X sts) := ⟨fun pins s _ _ _ I h => WS.run h pins s I⟩
end

abbrev ED (X : Cx) (Γ : List B) (e : Expr) (x : D) : Prop := EvD X.K Γ (wE X e) x
abbrev EO (X : Cx) (Γ : List B) (e : Expr) (o : OO) : Prop := EvO X.K Γ (wE X e) o
abbrev EL (X : Cx) (Γ : List B) (e : Expr) (ds : List D) : Prop := EvL X.K Γ (wE X e) ds
abbrev ET (X : Cx) (Γ : List B) (e : Expr) (b : Bool) : Prop := EvT X.K Γ (wT X e) b
abbrev EW (X : Cx) (Γ : List B) (e : Expr) (b : Bool) : Prop := EvT X.K Γ (wW X e) b
abbrev EA (X : Cx) (Γ : List B) (es : List Expr) (ds : List D) : Prop := EvA X.K Γ (wA X es) ds

section
variable {X : Cx} {Γ : List B} {e : Expr} {es : List Expr} {x : D} {o : OO} {ds : List D} {b : Bool}
theorem ed_of {t : TE} (h : PE X e t) (k : EvD X.K Γ t x) : ED X Γ e x := fun F σ G H s Q q => ⟨fun pins sh I => h.run pins sh σ H Q I (k F σ G H s Q q)⟩
theorem eo_of {t : TE} (h : PE X e t) (k : EvO X.K Γ t o) : EO X Γ e o := fun F σ G H s Q q => ⟨fun pins sh I => h.run pins sh σ H Q I (k F σ G H s Q q)⟩
theorem el_of {t : TE} (h : PE X e t) (k : EvL X.K Γ t ds) : EL X Γ e ds := fun F σ G H s Q q => ⟨fun pins sh I => h.run pins sh σ H Q I (k F σ G H s Q q)⟩
theorem et_of {t : TT} (h : PT X e t) (k : EvT X.K Γ t b) : ET X Γ e b := fun F σ G H s Q q => ⟨fun pins sh I => h.run pins sh σ H Q I (k F σ G H s Q q)⟩
theorem ew_of {t : TT} (h : PW X e t) (k : EvT X.K Γ t b) : EW X Γ e b := fun F σ G H s Q q => ⟨fun wh pins sh I => h.run wh pins sh σ H Q I (k F σ G H s Q q)⟩
theorem ea_of {t : TA} (h : PA X es t) (k : EvA X.K Γ t ds) : EA X Γ es ds := fun F σ G H s Q q => ⟨fun pos pins sh I => h.run pos pins sh σ H Q I (k F σ G H s Q q)⟩
end
section
variable {K : PySem.W.Frag} {Γ : List B} {te : TE} {o : OO} {ds : List D}
/-- one's own thing as a thing that stays -/
theorem EvO.frz (h : EvO K Γ te (.lst ds)) : EvD K Γ te (.lst ds) := fun F σ G H s Q q => h F σ G H s Q fun p u G' H' g hp n hn ho => by
  obtain ⟨vs, rfl, ha⟩ := ho.lst
  exact q _ _ _ (g.frz hn hp n) (.lst upd_same (ha.up (Evl.Ex.new n)))
theorem EvO.frzD {ks : List (Key × D)} (h : EvO K Γ te (.dct ks)) : EvD K Γ te (.dct ks) := fun F σ G H s Q q => h F σ G H s Q fun p u G' H' g hp n hn ho => by
  cases u with
  | dK vs => exact q _ _ _ (g.frz hn hp n) (.dct upd_same (IsKV.mono (Evl.Ex.new n) ks vs ho))
  | _ => exact ho.elim
theorem EvO.el (h : EvO K Γ te (.lst ds)) : EvL K Γ te ds := fun F σ G H s Q q => h F σ G H s Q fun p u G' H' g hp n hn ho => by
  obtain ⟨vs, rfl, ha⟩ := ho.lst
  exact q _ _ _ _ g hp ha
theorem EvD.el (h : EvD K Γ te (.lst ds)) : EvL K Γ te ds := fun F σ G H s Q q => h F σ G H s Q fun v G' H' g hi => by
  cases hi with
  | lst h1 h2 => exact q _ _ _ _ g (g.s _ _ h1) h2
end
end Sd

namespace Sd
open PySem PySem.Spec PyProof.Rows L2

/-! ### argument lists without stars -/
def nst : Expr → Bool
  | .Starred .. => false
  | _ => true
theorem starEach_ns {e : Expr} {es : List Expr} {env : Env} (h : nst e = true) : starEach (e :: es) env = (false, eval e env) :: starEach es env := by
  cases e <;> first | rfl | cases h
theorem starEach_ns2 {a b : Expr} {env : Env} (h : (nst a && nst b) = true) : starEach [a, b] env = [(false, eval a env), (false, eval b env)] := by
  rw [Bool.and_eq_true] at h
  rw [starEach_ns h.1, starEach_ns h.2]
  rfl
theorem plain_ok {env : Env} {pos : Pos} : ∀ {es : List Expr}, es.all nst = true → (backTo pos (starEach es env)).any (·.1) = false
  | [], _ => rfl
  | e :: es, h => by
    rw [List.all_cons, Bool.and_eq_true] at h
    have ih := plain_ok (env := env) (pos := pos) h.2
    rw [starEach_ns h.1]
    unfold backTo at ih ⊢
    rw [List.map_cons, List.any_cons, ih]
    rfl
theorem few_ok {env : Env} {cpos : Pos} {es : List Expr} (h : (es.all nst && decide (es.length < 30)) = true) :
    ((backTo cpos (starEach es env)).all (fun x => !x.1) && (backToKw cpos (keywordEach [] env)).all (fun x => x.1.isSome) && decide (es.length + ([] : List Keyword).length + (if ([] : List Keyword).isEmpty then 0 else 1) < 30)) = true := by
  rw [Bool.and_eq_true] at h
  have h1 := plain_ok (env := env) (pos := cpos) h.1
  have h2 : (backTo cpos (starEach es env)).all (fun x => !x.1) = true := by
    rw [List.all_eq_true]
    intro x hx
    rw [List.any_eq_false] at h1
    simpa using h1 x hx
  have h3 := of_decide_eq_true h.2
  rw [h2]
  show (true && true && decide (es.length + 0 + 0 < 30)) = true
  simpa using h3

/-- nothing that is read in a way of its own -/
def nlc : Expr → Bool
  | .ListComp .. => false
  | .SetComp .. => false
  | .DictComp .. => false
  | _ => true
theorem sw_ns {e : Expr} {t : Option Expr} {l : Nat} {env : Env} (h : nlc e = true) : swapsWith e t l env = pure false := by
  cases e <;> first | rfl | cases h
theorem sws_ns {t e : Expr} {l : Nat} {env : Env} (h : nlc e = true) : swapsWithSole [t] e l env = pure false := sw_ns h
def ntu : Expr → Bool
  | .Tuple .. => false
  | _ => true
theorem sst_ns {ts : List Expr} {e : Expr} {env : Env} (h : ntu e = true) : swappedStores ts e env = pure none := by
  unfold swappedStores
  cases e <;> first | cases h | skip
  all_goals
    cases ts with
    | nil => rfl
    | cons t ts =>
      cases ts with
      | nil => cases t <;> rfl
      | cons u ts => cases t <;> rfl
def nsl : Expr → Bool
  | .Slice .. => false
  | _ => true
theorem ix_ns {e : Expr} (h : nsl e = true) : PlainIx e := fun o i => by
  cases e <;> first | rfl | cases h
def tst : Expr → Bool
  | .UnaryOp .. => false
  | .BoolOp .. => false
  | .IfExp .. => false
  | .Compare .. => false
  | _ => true
theorem it_ns {e : Expr} {env : Env} (h : tst e = true) (whole : Sem Value) : isTrue e env whole = (do let v ← whole; standAt e.pos; holding [v] (truthy v)) := by
  cases e <;> first | rfl | cases h
def nse : Expr → Bool
  | .Set .. => false
  | _ => true
theorem fs_ns {e : Expr} {env : Env} (h : nse e = true) (x : Value) : foldedSetIterable e env x = pure x := by
  cases e <;> first | rfl | cases h
def ncl : Expr → Bool
  | .Call .. => false
  | _ => true
theorem ab_ns {o : Expr} {a : Str} {env : Env} {w : Sem Value} (h : ncl o = true) : attributeBase o a env w = w := by
  cases o <;> first | rfl | cases h

/-! ### names and constants -/
section
variable {X : Cx} {Γ : List B} {pos : Pos} {x : Str}
theorem ed_var (i : Nat) {d : D} (hN : X.N[i]? = some x) (hv : Vis X.env.scope x) (h : Γ[i]? = some (B.d d)) (hd : (x == ("__debug__" : Str)) = false := by decide) (hcd : (x == ("__classdict__" : Str)) = false := by decide) : ED X Γ (.Name x pos) d :=
  ed_of (pe_var hN hv hd hcd) fun F σ G H s Q q => let ⟨v, h1, h2⟩ := s.dat i d h; ⟨v, h1, q v G H (.refl s.sub) h2⟩
/-- one's own list, read -/
theorem el_own (i : Nat) {ds : List D} (hN : X.N[i]? = some x) (hv : Vis X.env.scope x) (h : Γ[i]? = some (B.own (.lst ds))) (hd : (x == ("__debug__" : Str)) = false := by decide) (hcd : (x == ("__classdict__" : Str)) = false := by decide) : EL X Γ (.Name x pos) ds :=
  el_of (pe_var hN hv hd hcd) fun F σ G H s Q q => by
    obtain ⟨p, u, h1, h2, h3, _, h4⟩ := s.own i _ h
    obtain ⟨vs, rfl, ha⟩ := h4.lst
    exact ⟨_, h1, q p vs G H (.refl s.sub) h2 ha⟩
theorem ed_int {i : Int} {j : Nat} : ED X Γ (.Constant (.int i) j pos) (.int i) := ed_of pe_int fun F σ G H s Q q => q _ G H (.refl s.sub) (.int i)
theorem ed_bl {b : Bool} {j : Nat} : ED X Γ (.Constant (.bool b) j pos) (.bl b) := ed_of pe_bl fun F σ G H s Q q => q _ G H (.refl s.sub) (.bl b)
theorem ed_non {j : Nat} : ED X Γ (.Constant .none j pos) .non := ed_of pe_non fun F σ G H s Q q => q _ G H (.refl s.sub) .non
theorem ed_str {z : Str} {j : Nat} (l : List Nat) (h : z = S l) : ED X Γ (.Constant (.str z) j pos) (.str l) := ed_of pe_str fun F σ G H s Q q => q _ G H (.refl s.sub) (by rw [h]; exact .str l)
/-- a module's constant -/
theorem ed_gInt {i : Int} (hg : Gl X x) (hm : ∃ t, X.mg x = some (.int i t)) (hd : (x == ("__debug__" : Str)) = false := by decide) : ED X Γ (.Name x pos) (.int i) := by
  obtain ⟨t, hm⟩ := hm
  exact ed_of (pe_glob (v := .int i) hg hm ⟨t, rfl⟩ hd) fun F σ G H s Q q => q _ G H (.refl s.sub) (.int i)
theorem ed_gStr {l : List Nat} (hg : Gl X x) (hm : ∃ t, X.mg x = some (.str (S l) t)) (hd : (x == ("__debug__" : Str)) = false := by decide) : ED X Γ (.Name x pos) (.str l) := by
  obtain ⟨t, hm⟩ := hm
  exact ed_of (pe_glob (v := .str (S l)) hg hm ⟨t, rfl⟩ hd) fun F σ G H s Q q => q _ G H (.refl s.sub) (.str l)
/-- a built-in type as a value -/
theorem ed_ty {n : String} (hg : Gl X x) (hm : X.mg x = none) (hv : bootBuiltins x = some (.type n)) (hn : x ≠ "__name__" := by decide) (hd : (x == ("__debug__" : Str)) = false := by decide) : ED X Γ (.Name x pos) (.ty n) :=
  ed_of (pe_bltn (v := .ty n) hg hm hv rfl hn hd) fun F σ G H s Q q => q _ G H (.refl s.sub) (.ty n)
end

/-! ### operators -/
def RV (K : PySem.W.Frag) (r : R2) (x y z : D) : Prop := ∀ v w G H, Ex G H → Is K G v x → Is K G w y → ∀ Q : VK, (∀ u G' H', Grow G H G' H' → Is K G' u z → Q u H') → r v w H Q
def OpD (X : Cx) (f : Value → Value → Sem Value) (x y z : D) : Prop := ∃ r, OpR X f r ∧ RV X.K r x y z
section
variable {X : Cx} {Γ : List B} {pos : Pos} {a b c : Expr} {x y z : D}
theorem ev_op {K : PySem.W.Frag} {r : R2} {ta tb : TE} (ha : EvD K Γ ta x) (hb : EvD K Γ tb y) (hr : RV K r x y z) : EvD K Γ (tOp r ta tb) z := fun F σ G H s Q q =>
  ha F σ G H s _ fun v G1 H1 g1 i1 => hb F σ G1 H1 (s.grow g1) _ fun w G2 H2 g2 i2 => hr v w G2 H2 g2.s (i1.up g2.g) i2 Q fun u G3 H3 g3 i3 => q u G3 H3 ((g1.trans g2).trans g3) i3
theorem ed_op {op : Operator} (ho : OpD X (binaryOp op) x y z) (ha : ED X Γ a x) (hb : ED X Γ b y) : ED X Γ (.BinOp a op b pos) z := by
  obtain ⟨r, h1, h2⟩ := ho
  exact ed_of (pe_op h1 pe_w pe_w) (ev_op ha hb h2)
theorem ed_cmp {op : CmpOp} (ho : OpD X (compareOp op) x y z) (ha : ED X Γ a x) (hb : ED X Γ b y) (hm : behindInMarks op b = false := by first | exact nomark _ | with_unfolding_all rfl) : ED X Γ (.Compare a [op] [b] pos) z := by
  obtain ⟨r, h1, h2⟩ := ho
  exact ed_of (pe_cmpR h1 pe_w pe_w hm) (ev_op ha hb h2)
theorem ev_test {K : PySem.W.Frag} {te : TE} {k : Bool} (h : EvD K Γ te (.bl k)) : EvT K Γ (tTest te) k := fun F σ G H s Q q => h F σ G H s _ fun v G1 H1 g1 i1 => by
  cases i1
  exact ⟨k, rfl, q G1 H1 g1⟩
theorem ev_tB {K : PySem.W.Frag} {te : TE} {k : Bool} (h : EvD K Γ te (.bl k)) : EvT K Γ (tB te) k := fun F σ G H s Q q => h F σ G H s _ fun v G1 H1 g1 i1 => by
  cases i1
  exact ⟨k, rfl, q G1 H1 g1⟩
theorem et_cmp {op : CmpOp} {k : Bool} (ho : OpD X (compareOp op) x y (.bl k)) (ha : ED X Γ a x) (hb : ED X Γ b y) (hm : behindInMarks op b = false := by first | exact nomark _ | with_unfolding_all rfl) : ET X Γ (.Compare a [op] [b] pos) k := by
  obtain ⟨r, h1, h2⟩ := ho
  exact et_of (pt_cmpR h1 pe_w pe_w hm) (ev_test (ev_op ha hb h2))
/-- an expression that comes to a truth, as a test -/
theorem et_val {e : Expr} {k : Bool} (h : ED X Γ e (.bl k)) (he : ∀ whole, isTrue e X.env whole = (do let v ← whole; standAt e.pos; holding [v] (truthy v)) := by exact it_ns rfl) : ET X Γ e k := et_of (pt_val pe_w he) (ev_tB h)
theorem ev_chain {K : PySem.W.Frag} {r r' : R2} {ta tb tc : TE} {k k' : Bool} (ha : EvD K Γ ta x) (hb : EvD K Γ tb y) (hc : EvD K Γ tc z) (hr : RV K r x y (.bl k)) (hr' : RV K r' y z (.bl k')) : EvD K Γ (tChain r r' ta tb tc) (.bl (k && k')) := fun F σ G H s Q q =>
  ha F σ G H s _ fun v G1 H1 g1 i1 => hb F σ G1 H1 (s.grow g1) _ fun w G2 H2 g2 i2 => hr v w G2 H2 g2.s (i1.up g2.g) i2 _ fun u G3 H3 g3 i3 => by
    cases i3
    refine ⟨k, rfl, ?_⟩
    cases k with
    | true => exact hc F σ G3 H3 (((s.grow g1).grow g2).grow g3) _ fun w' G4 H4 g4 i4 => hr' w w' G4 H4 g4.s (i2.up (g3.g.trans g4.g)) i4 Q fun u' G5 H5 g5 i5 => q u' G5 H5 ((((g1.trans g2).trans g3).trans g4).trans g5) i5
    | false => exact q _ G3 H3 ((g1.trans g2).trans g3) (.bl _)
theorem ed_chain {op op' : CmpOp} {k k' : Bool} (ho : OpD X (compareOp op) x y (.bl k)) (ho' : OpD X (compareOp op') y z (.bl k')) (ha : ED X Γ a x) (hb : ED X Γ b y) (hc : ED X Γ c z) (hm : lastMarks [op, op'] [b, c] = false := by with_unfolding_all rfl) :
    ED X Γ (.Compare a [op, op'] [b, c] pos) (.bl (k && k')) := by
  obtain ⟨r, h1, h2⟩ := ho
  obtain ⟨r', h3, h4⟩ := ho'
  exact ed_of (pe_chain h1 h3 pe_w pe_w pe_w hm) (ev_chain ha hb hc h2 h4)
theorem et_chain {op op' : CmpOp} {k k' : Bool} (ho : OpD X (compareOp op) x y (.bl k)) (ho' : OpD X (compareOp op') y z (.bl k')) (ha : ED X Γ a x) (hb : ED X Γ b y) (hc : ED X Γ c z) (hm : lastMarks [op, op'] [b, c] = false := by with_unfolding_all rfl) :
    ET X Γ (.Compare a [op, op'] [b, c] pos) (k && k') := by
  obtain ⟨r, h1, h2⟩ := ho
  obtain ⟨r', h3, h4⟩ := ho'
  exact et_of (pt_chain h1 h3 pe_w pe_w pe_w hm) (ev_test (ev_chain ha hb hc h2 h4))

/-! ### and, or, not: as values (truths), as tests -/
variable {rest : List Expr} {k k' : Bool}
theorem ed_and (ha : ED X Γ a (.bl k)) (hb : k = true → ED X Γ (.BoolOp .And (b :: rest) pos) (.bl k')) : ED X Γ (.BoolOp .And (a :: b :: rest) pos) (.bl (k && k')) :=
  ed_of (pe_and pe_w pe_w) fun F σ G H s Q q => ha F σ G H s _ fun v G1 H1 g1 i1 => by
    cases i1
    refine ⟨k, rfl, ?_⟩
    cases k with
    | true => exact hb rfl F σ G1 H1 (s.grow g1) _ fun v G2 H2 g2 i2 => q v G2 H2 (g1.trans g2) i2
    | false => exact q _ G1 H1 g1 (.bl _)
theorem ed_or (ha : ED X Γ a (.bl k)) (hb : k = false → ED X Γ (.BoolOp .Or (b :: rest) pos) (.bl k')) : ED X Γ (.BoolOp .Or (a :: b :: rest) pos) (.bl (k || k')) :=
  ed_of (pe_or pe_w pe_w) fun F σ G H s Q q => ha F σ G H s _ fun v G1 H1 g1 i1 => by
    cases i1
    refine ⟨k, rfl, ?_⟩
    cases k with
    | false => exact hb rfl F σ G1 H1 (s.grow g1) _ fun v G2 H2 g2 i2 => q v G2 H2 (g1.trans g2) i2
    | true => exact q _ G1 H1 g1 (.bl _)
theorem ed_one {op : BoolOp} (ha : ED X Γ a x) : ED X Γ (.BoolOp op [a] pos) x := ed_of (pe_one pe_w) ha
theorem ed_not (ha : ED X Γ a (.bl k)) : ED X Γ (.UnaryOp .Not a pos) (.bl (!k)) := ed_of (pe_not pe_w) fun F σ G H s Q q => ha F σ G H s _ fun v G1 H1 g1 i1 => by
  cases i1
  exact ⟨k, rfl, q _ G1 H1 g1 (.bl _)⟩
theorem ew_and (ha : ET X Γ a k) (hb : k = true → EW X Γ (.BoolOp .And (b :: rest) pos) k') : EW X Γ (.BoolOp .And (a :: b :: rest) pos) (k && k') :=
  ew_of (pw_and pt_w pw_w) fun F σ G H s Q q => ha F σ G H s _ fun G1 H1 g1 => by
    cases k with
    | true => exact hb rfl F σ G1 H1 (s.grow g1) _ fun G2 H2 g2 => q G2 H2 (g1.trans g2)
    | false => exact q G1 H1 g1
theorem ew_or (ha : ET X Γ a k) (hb : k = false → EW X Γ (.BoolOp .Or (b :: rest) pos) k') : EW X Γ (.BoolOp .Or (a :: b :: rest) pos) (k || k') :=
  ew_of (pw_or pt_w pw_w) fun F σ G H s Q q => ha F σ G H s _ fun G1 H1 g1 => by
    cases k with
    | false => exact hb rfl F σ G1 H1 (s.grow g1) _ fun G2 H2 g2 => q G2 H2 (g1.trans g2)
    | true => exact q G1 H1 g1
theorem ew_and1 (ha : ET X Γ a k) : EW X Γ (.BoolOp .And [a] pos) k := ew_of (pw_and1 pt_w) ha
theorem ew_or1 (ha : ET X Γ a k) : EW X Γ (.BoolOp .Or [a] pos) k := ew_of (pw_or1 pt_w) ha
theorem et_w (h : EW X Γ a k) : ET X Γ a k := et_of pw_w.pt h
theorem et_not (ha : ET X Γ a k) : ET X Γ (.UnaryOp .Not a pos) (!k) := et_of (pt_not pt_w) fun F σ G H s Q q => ha F σ G H s _ fun G1 H1 g1 => q G1 H1 g1
theorem ed_if {α : Type} {f : α → D} {u v : α} (ht : ET X Γ c k) (ha : k = true → ED X Γ a (f u)) (hb : k = false → ED X Γ b (f v)) : ED X Γ (.IfExp c a b pos) (f (if k = true then u else v)) :=
  ed_of (pe_ifExp pt_w pe_w pe_w) fun F σ G H s Q q => ht F σ G H s _ fun G1 H1 g1 => by
    cases k with
    | true => exact ha rfl F σ G1 H1 (s.grow g1) _ fun v G2 H2 g2 i2 => q v G2 H2 (g1.trans g2) i2
    | false => exact hb rfl F σ G1 H1 (s.grow g1) _ fun v G2 H2 g2 i2 => q v G2 H2 (g1.trans g2) i2
end

/-! ### single operators -/
section
variable {X : Cx}
theorem rv_int {K : PySem.W.Frag} {r : R2} {i j : Int} {z : D} {u : V} (hz : ∀ G, Is K G u z) (h : ∀ H Q, Q u H → r (.int i) (.int j) H Q) : RV K r (.int i) (.int j) z := fun v w G H e iv iw Q q => by
  cases iv
  cases iw
  exact h H Q (q u G H (.refl e) (hz G))
theorem od_add (i j : Int) : OpD X (binaryOp .Add) (.int i) (.int j) (.int (i + j)) := ⟨_, op_add, rv_int (fun _ => .int _) fun H Q q => ⟨i, j, rfl, rfl, q⟩⟩
theorem od_sub (i j : Int) : OpD X (binaryOp .Sub) (.int i) (.int j) (.int (i - j)) := ⟨_, op_sub, rv_int (fun _ => .int _) fun H Q q => ⟨i, j, rfl, rfl, q⟩⟩
theorem od_mul (i j : Int) (h : CMul i j) : OpD X (binaryOp .Mult) (.int i) (.int j) (.int (i * j)) := ⟨_, op_mul, rv_int (fun _ => .int _) fun H Q q => ⟨i, j, rfl, rfl, h, q⟩⟩
theorem od_mulW (i j : Int) (h : CMulW i j) : OpD X (binaryOp .Mult) (.int i) (.int j) (.int (i * j)) := ⟨_, op_mulW, rv_int (fun _ => .int _) fun H Q q => ⟨i, j, rfl, rfl, h, q⟩⟩
theorem od_div (i j : Int) (h : CDiv i j) : OpD X (binaryOp .FloorDiv) (.int i) (.int j) (.int (i / j)) := ⟨_, op_fdiv, rv_int (fun _ => .int _) fun H Q q => ⟨i, j, rfl, rfl, h, q⟩⟩
theorem od_divW (i j : Int) (h : CDivW i j) : OpD X (binaryOp .FloorDiv) (.int i) (.int j) (.int (i / j)) := ⟨_, op_fdivW, rv_int (fun _ => .int _) fun H Q q => ⟨i, j, rfl, rfl, h, q⟩⟩
theorem od_mod (i j : Int) (h : 0 < j) : OpD X (binaryOp .Mod) (.int i) (.int j) (.int (i % j)) := ⟨_, op_mod, rv_int (fun _ => .int _) fun H Q q => ⟨i, j, rfl, rfl, h, q⟩⟩
theorem od_shr (i j : Int) (h : 0 ≤ j) : OpD X (binaryOp .RShift) (.int i) (.int j) (.int (i / 2 ^ j.toNat)) := ⟨_, op_shr, rv_int (fun _ => .int _) fun H Q q => ⟨i, j, rfl, rfl, h, q⟩⟩
theorem od_shl1 (k : Nat) (h : k ≤ 134217727) : OpD X (binaryOp .LShift) (.int 1) (.int (k : Int)) (.int (2 ^ k)) := ⟨_, op_oneShl, rv_int (fun _ => .int _) fun H Q q => ⟨k, rfl, rfl, h, q⟩⟩
theorem od_pow (i j : Int) (h : CPow i j) : OpD X (binaryOp .Pow) (.int i) (.int j) (.int (i ^ j.toNat)) := ⟨_, op_pow, rv_int (fun _ => .int _) fun H Q q => ⟨i, j, rfl, rfl, h, q⟩⟩
theorem od_andM (i j : Int) (k : Nat) (h : j = 2 ^ k - 1) : OpD X (binaryOp .BitAnd) (.int i) (.int j) (.int (i % 2 ^ k)) := ⟨_, op_andM, rv_int (fun _ => .int _) fun H Q q => ⟨i, k, rfl, by rw [h], q⟩⟩
theorem od_or (i j : Int) : OpD X (binaryOp .BitOr) (.int i) (.int j) (.int (Builtin.bitOr i j)) := ⟨_, op_or, rv_int (fun _ => .int _) fun H Q q => ⟨i, j, rfl, rfl, q⟩⟩
theorem od_lt (i j : Int) : OpD X (compareOp .Lt) (.int i) (.int j) (.bl (decide (i < j))) := ⟨_, op_lt, rv_int (fun _ => .bl _) fun H Q q => ⟨i, j, rfl, rfl, q⟩⟩
theorem od_le (i j : Int) : OpD X (compareOp .LtE) (.int i) (.int j) (.bl (decide (i ≤ j))) := ⟨_, op_le, rv_int (fun _ => .bl _) fun H Q q => ⟨i, j, rfl, rfl, q⟩⟩
theorem od_gt (i j : Int) : OpD X (compareOp .Gt) (.int i) (.int j) (.bl (decide (j < i))) := ⟨_, op_gt, rv_int (fun _ => .bl _) fun H Q q => ⟨i, j, rfl, rfl, q⟩⟩
theorem od_ge (i j : Int) : OpD X (compareOp .GtE) (.int i) (.int j) (.bl (decide (j ≤ i))) := ⟨_, op_ge, rv_int (fun _ => .bl _) fun H Q q => ⟨i, j, rfl, rfl, q⟩⟩
theorem dec_iff {p q : Prop} [Decidable p] [Decidable q] (h : p ↔ q) : decide p = decide q := by
  by_cases hp : p
  · rw [decide_eq_true hp, decide_eq_true (h.mp hp)]
  · rw [decide_eq_false hp, decide_eq_false fun z => hp (h.mpr z)]
theorem S_inj {l m : List Nat} : S l = S m ↔ l = m := ⟨fun h => by have := congrArg (fun z : Str => z.cps.toList) h; simpa using this, fun h => by rw [h]⟩
theorem od_eqI (i j : Int) : OpD X (compareOp .Eq) (.int i) (.int j) (.bl (decide (i = j))) := ⟨_, op_eq, rv_int (fun _ => .bl _) fun H Q q => ⟨rfl, by rw [dec_iff (show V.int i = V.int j ↔ i = j from ⟨fun z => V.int.inj z, fun z => by rw [z]⟩)]; exact q⟩⟩
theorem od_neI (i j : Int) : OpD X (compareOp .NotEq) (.int i) (.int j) (.bl (!decide (i = j))) := ⟨_, op_ne, rv_int (fun _ => .bl _) fun H Q q => ⟨rfl, by rw [dec_iff (show V.int i = V.int j ↔ i = j from ⟨fun z => V.int.inj z, fun z => by rw [z]⟩)]; exact q⟩⟩
theorem rv_str {K : PySem.W.Frag} {r : R2} {i j : List Nat} {z : D} {u : V} (hz : ∀ G, Is K G u z) (h : ∀ H Q, Q u H → r (.str (S i)) (.str (S j)) H Q) : RV K r (.str i) (.str j) z := fun v w G H e iv iw Q q => by
  cases iv
  cases iw
  exact h H Q (q u G H (.refl e) (hz G))
theorem dec_str (i j : List Nat) : decide (V.str (S i) = V.str (S j)) = decide (i = j) := dec_iff ⟨fun z => S_inj.mp (V.str.inj z), fun z => by rw [z]⟩
theorem od_eqS (i j : List Nat) : OpD X (compareOp .Eq) (.str i) (.str j) (.bl (decide (i = j))) := ⟨_, op_eq, rv_str (fun _ => .bl _) fun H Q q => ⟨rfl, by rw [dec_str]; exact q⟩⟩
theorem od_neS (i j : List Nat) : OpD X (compareOp .NotEq) (.str i) (.str j) (.bl (!decide (i = j))) := ⟨_, op_ne, rv_str (fun _ => .bl _) fun H Q q => ⟨rfl, by rw [dec_str]; exact q⟩⟩
theorem dec_bl (i j : Bool) : decide (V.bl i = V.bl j) = decide (i = j) := dec_iff ⟨fun z => V.bl.inj z, fun z => by rw [z]⟩
theorem od_eqB (i j : Bool) : OpD X (compareOp .Eq) (.bl i) (.bl j) (.bl (decide (i = j))) := ⟨_, op_eq, fun v w G H e iv iw Q q => by
  cases iv
  cases iw
  exact ⟨rfl, by rw [dec_bl]; exact q _ G H (.refl e) (.bl _)⟩⟩
theorem od_neB (i j : Bool) : OpD X (compareOp .NotEq) (.bl i) (.bl j) (.bl (!decide (i = j))) := ⟨_, op_ne, fun v w G H e iv iw Q q => by
  cases iv
  cases iw
  exact ⟨rfl, by rw [dec_bl]; exact q _ G H (.refl e) (.bl _)⟩⟩
theorem S_app (i j : List Nat) : S i ++ S j = S (i ++ j) := by
  show Str.mk (i.toArray ++ j.toArray) = Str.mk (i ++ j).toArray
  simp
theorem S_len (i : List Nat) : (S i).length = i.length := by simp [S, Str.length]
theorem od_addS (i j : List Nat) (h : i.length + j.length ≤ sizeLine) : OpD X (binaryOp .Add) (.str i) (.str j) (.str (i ++ j)) := ⟨_, op_add_str, rv_str (fun _ => .str _) fun H Q q => ⟨_, _, rfl, rfl, by rw [S_len, S_len]; exact h, by rw [S_app]; exact q⟩⟩
/-- one sign in a text -/
theorem od_inS (c : Nat) (j : List Nat) : OpD X (compareOp .In) (.str [c]) (.str j) (.bl (decide (c ∈ j))) := ⟨_, op_in_sign, rv_str (fun _ => .bl _) fun H Q q => ⟨c, _, rfl, rfl, by simpa using q⟩⟩
theorem od_notInS (c : Nat) (j : List Nat) : OpD X (compareOp .NotIn) (.str [c]) (.str j) (.bl (!decide (c ∈ j))) := ⟨_, op_notIn_sign, rv_str (fun _ => .bl _) fun H Q q => ⟨c, _, rfl, rfl, by simpa using q⟩⟩
/-- is None -/
def isNon : D → Bool
  | .non => true
  | _ => false
theorem isNon_iff {K : PySem.W.Frag} {G : Hp} {v : V} {d : D} (h : Is K G v d) : decide (v = .non) = isNon d := by
  cases h <;> rfl
theorem od_isN (x : D) : OpD X (compareOp .Is) x .non (.bl (isNon x)) := ⟨_, op_isN, fun v w G H e iv iw Q q => by
  cases iw
  exact ⟨rfl, by rw [isNon_iff iv]; exact q _ G H (.refl e) (.bl _)⟩⟩
theorem od_notN (x : D) : OpD X (compareOp .IsNot) x .non (.bl (!isNon x)) := ⟨_, op_notN, fun v w G H e iv iw Q q => by
  cases iw
  exact ⟨rfl, by rw [isNon_iff iv]; exact q _ G H (.refl e) (.bl _)⟩⟩
end
section
variable {X : Cx} {Γ : List B} {pos : Pos} {a : Expr}
theorem ed_neg {i : Int} (ha : ED X Γ a (.int i)) : ED X Γ (.UnaryOp .USub a pos) (.int (-i)) := ed_of (pe_un un_neg pe_w) fun F σ G H s Q q => ha F σ G H s _ fun v G1 H1 g1 i1 => by
  cases i1
  exact ⟨i, rfl, q _ G1 H1 g1 (.int _)⟩
end

/-! ### lists, tuples -/
section
variable {X : Cx} {Γ : List B} {pos : Pos} {a b : Expr} {e : Expr} {es : List Expr} {x : D} {ds ds' : List D}
theorem ea_nil : EA X Γ [] [] := ea_of pa_nil fun F σ G H s Q q => q [] G H (.refl s.sub) .nil
theorem ea_cons (h : ED X Γ e x) (ht : EA X Γ es ds) (he : starEach (e :: es) X.env = (false, eval e X.env) :: starEach es X.env := by exact starEach_ns rfl) : EA X Γ (e :: es) (x :: ds) :=
  ea_of (pa_cons pe_w pa_w he) fun F σ G H s Q q => h F σ G H s _ fun v G1 H1 g1 i1 => ht F σ G1 H1 (s.grow g1) _ fun vs G2 H2 g2 i2 => q _ G2 H2 (g1.trans g2) (.cons (i1.up g2.g) i2)
theorem ed_tup {k : Nat} (h : EA X Γ es ds) (hl : ds.length ≤ sizeLine) : ED X Γ (.Tuple es k pos) (.tup ds) := ed_of (pe_tup pa_w) fun F σ G H s Q q => h F σ G H s _ fun vs G1 H1 g1 i1 =>
  ⟨by rw [i1.len]; exact hl, fun p hp => q _ _ _ (g1.trans (Grow.new g1.s hp)) (.tup (Or.inl (Or.inl upd_same)) (i1.up (Evl.Ex.new (Evl.fresh_back g1.s hp))))⟩
theorem eo_lst (h : EA X Γ es ds) (hl : ds.length ≤ sizeLine) : EO X Γ (.List es pos) (.lst ds) := eo_of (pe_lst pa_w) fun F σ G H s Q q => h F σ G H s _ fun vs G1 H1 g1 i1 =>
  ⟨by rw [i1.len]; exact hl, fun p hp => q _ _ _ _ (g1.trans (Grow.lay g1.s hp)) upd_same (Evl.fresh_back g1.s hp) (Evl.fresh_back g1.h hp) i1⟩
theorem atI_map {α β : Type} {f : α → β} {xs : List α} {i : Int} {y : α} (h : atI xs i = some y) : atI (xs.map f) i = some (f y) := by
  unfold atI at h ⊢
  rw [List.length_map]
  cases hi : ixN xs.length i with
  | none =>
    rw [hi] at h
    cases h
  | some j =>
    rw [hi] at h
    have h' : xs[j]? = some y := h
    show (xs.map f)[j]? = some (f y)
    rw [List.getElem?_map, h']
    rfl
theorem IsAll.atI {K : PySem.W.Frag} {G : Hp} {vs : List V} {i : Int} (h : IsAll K G vs ds) (e : L2.atI ds i = some x) : ∃ v, L2.atI vs i = some v ∧ Is K G v x := by
  unfold L2.atI at e ⊢
  rw [h.len]
  cases hi : ixN ds.length i with
  | none =>
    rw [hi] at e
    cases e
  | some j =>
    rw [hi] at e
    exact h.get (show ds[j]? = some x from e)
theorem ed_ixL {i : Int} (ha : EL X Γ a ds) (hb : ED X Γ b (.int i)) (h : atI ds i = some x) (hs : PlainIx b := by exact ix_ns rfl) : ED X Γ (.Subscript a b pos) x :=
  ed_of (pe_ix ix_list pe_w pe_w hs) fun F σ G H s Q q => ha F σ G H s _ fun p vs G1 H1 g1 h1 i1 => hb F σ G1 H1 (s.grow g1) _ fun w G2 H2 g2 i2 => by
    cases i2
    obtain ⟨v, e1, e2⟩ := i1.atI h
    exact ⟨p, vs, i, v, rfl, rfl, .inl (.inl (g2.h _ _ h1)), e1, q v G2 H2 (g1.trans g2) (e2.up g2.g)⟩
theorem ed_ixT {i : Int} (ha : ED X Γ a (.tup ds)) (hb : ED X Γ b (.int i)) (h : atI ds i = some x) (hs : PlainIx b := by exact ix_ns rfl) : ED X Γ (.Subscript a b pos) x :=
  ed_of (pe_ix ix_tup pe_w pe_w hs) fun F σ G H s Q q => ha F σ G H s _ fun v G1 H1 g1 i1 => hb F σ G1 H1 (s.grow g1) _ fun w G2 H2 g2 i2 => by
    cases i1 with
    | tup h1 h2 =>
      cases i2
      obtain ⟨v, e1, e2⟩ := h2.atI h
      exact ⟨_, _, i, v, rfl, rfl, Evl.ex_t (g2.g.trans g2.s) h1, e1, q v G2 H2 (g1.trans g2) (e2.up g2.g)⟩
theorem ed_ixS {i : Int} {l : List Nat} {c : Nat} (ha : ED X Γ a (.str l)) (hb : ED X Γ b (.int i)) (h : atI l i = some c) (hl : l.length ≤ sizeLine) (hs : PlainIx b := by exact ix_ns rfl) : ED X Γ (.Subscript a b pos) (.str [c]) :=
  ed_of (pe_ix ix_str pe_w pe_w hs) fun F σ G H s Q q => ha F σ G H s _ fun v G1 H1 g1 i1 => hb F σ G1 H1 (s.grow g1) _ fun w G2 H2 g2 i2 => by
    cases i1
    cases i2
    exact ⟨_, i, c, rfl, rfl, by rw [S_len]; exact hl, by simpa using h, q _ G2 H2 (g1.trans g2) (.str [c])⟩
/-! slices -/
def cutL {α : Type} (xs : List α) (lo hi : Option Int) : List α := (xs.drop (HT.sIx xs.length 0 lo)).take (HT.sIx xs.length xs.length hi - HT.sIx xs.length 0 lo)
theorem cutL_map {α β : Type} {f : α → β} (xs : List α) (lo hi : Option Int) : cutL (xs.map f) lo hi = (cutL xs lo hi).map f := by
  unfold cutL
  rw [List.length_map, List.map_take, List.map_drop]
def EPo (X : Cx) (Γ : List B) (o : Option Expr) (i : Option Int) : Prop := ∃ t, PO X o t ∧ EvP X.K Γ t i
theorem ep_none : EPo X Γ none none := ⟨_, po_none, fun F σ G H s Q q => q G H (.refl s.sub)⟩
theorem ep_some {i : Int} (h : ED X Γ e (.int i)) : EPo X Γ (some e) (some i) := ⟨_, po_some pe_w, fun F σ G H s Q q => h F σ G H s _ fun v G1 H1 g1 i1 => by
  cases i1
  exact ⟨i, rfl, q G1 H1 g1⟩⟩
theorem eo_slL {lo hi : Option Expr} {i j : Option Int} {p2 : Pos} (ha : EL X Γ a ds) (hl : EPo X Γ lo i) (hu : EPo X Γ hi j) : EO X Γ (.Subscript a (.Slice lo hi none p2) pos) (.lst (cutL ds i j)) := by
  obtain ⟨tl, k1, k2⟩ := hl
  obtain ⟨tu, k3, k4⟩ := hu
  refine eo_of (pe_slice sl_list pe_w k1 k3) fun F σ G H s Q q => ha F σ G H s _ fun p vs G1 H1 g1 h1 i1 => k2 F σ G1 H1 (s.grow g1) _ fun G2 H2 g2 => k4 F σ G2 H2 ((s.grow g1).grow g2) _ fun G3 H3 g3 => ?_
  have g := (g1.trans g2).trans g3
  refine ⟨p, vs, rfl, .inl (.inl (g3.h _ _ (g2.h _ _ h1))), fun l hl => q l _ G3 _ (g.trans (Grow.lay g3.s hl)) upd_same (Evl.fresh_back g3.s hl) (Evl.fresh_back g.h hl) ?_⟩
  have i3 := i1.up (g2.g.trans g3.g)
  show IsAll _ _ (cutV vs i j) (cutL ds i j)
  unfold cutV cutL
  rw [i3.len]
  exact (i3.drop _).take _
theorem ed_slS {lo hi : Option Expr} {i j : Option Int} {p2 : Pos} {l : List Nat} (ha : ED X Γ a (.str l)) (hl : EPo X Γ lo i) (hu : EPo X Γ hi j) (hz : l.length ≤ sizeLine) : ED X Γ (.Subscript a (.Slice lo hi none p2) pos) (.str (cutL l i j)) := by
  obtain ⟨tl, k1, k2⟩ := hl
  obtain ⟨tu, k3, k4⟩ := hu
  refine ed_of (pe_slice sl_str pe_w k1 k3) fun F σ G H s Q q => ha F σ G H s _ fun v G1 H1 g1 i1 => k2 F σ G1 H1 (s.grow g1) _ fun G2 H2 g2 => k4 F σ G2 H2 ((s.grow g1).grow g2) _ fun G3 H3 g3 => ?_
  cases i1
  refine ⟨_, rfl, by rw [S_len]; exact hz, ?_⟩
  have e : cutS (S l) i j = S (cutL l i j) := by
    unfold cutS cutL
    rw [S_len]
  rw [e]
  exact q _ G3 H3 ((g1.trans g2).trans g3) (.str _)
/-! + and * of lists -/
theorem eo_cat (ha : EL X Γ a ds) (hb : EL X Γ b ds') (hl : ds.length + ds'.length ≤ sizeLine) : EO X Γ (.BinOp a .Add b pos) (.lst (ds ++ ds')) :=
  eo_of (pe_op op_cat pe_w pe_w) fun F σ G H s Q q => ha F σ G H s _ fun p vs G1 H1 g1 h1 i1 => hb F σ G1 H1 (s.grow g1) _ fun p' ws G2 H2 g2 h2 i2 =>
    ⟨p, p', vs, ws, rfl, rfl, g2.h _ _ h1, h2, by rw [i1.len, i2.len]; exact hl, fun l hl => q l _ G2 _ ((g1.trans g2).trans (Grow.lay g2.s hl)) upd_same (Evl.fresh_back g2.s hl) (Evl.fresh_back (g1.trans g2).h hl) ((i1.up g2.g).app i2)⟩
theorem IsAll.rep {K : PySem.W.Frag} {G : Hp} {vs : List V} (h : IsAll K G vs ds) : ∀ n : Nat, IsAll K G (List.replicate n vs).flatten (List.replicate n ds).flatten
  | 0 => .nil
  | n + 1 => by
    rw [List.replicate_succ, List.replicate_succ, List.flatten_cons, List.flatten_cons]
    exact h.app (h.rep n)
theorem eo_rep {k : Int} (ha : EL X Γ a ds) (hb : ED X Γ b (.int k)) (h1 : -(2 ^ 63) ≤ k ∧ k < 2 ^ 63) (hl : ds.length * k.toNat ≤ sizeLine) : EO X Γ (.BinOp a .Mult b pos) (.lst (List.replicate k.toNat ds).flatten) :=
  eo_of (pe_op op_rep pe_w pe_w) fun F σ G H s Q q => ha F σ G H s _ fun p vs G1 H1 g1 e1 i1 => hb F σ G1 H1 (s.grow g1) _ fun w G2 H2 g2 i2 => by
    cases i2
    exact ⟨p, k, vs, rfl, rfl, g2.h _ _ e1, h1.1, h1.2, by rw [i1.len]; exact hl, fun l hl => q l _ G2 _ ((g1.trans g2).trans (Grow.lay g2.s hl)) upd_same (Evl.fresh_back g2.s hl) (Evl.fresh_back (g1.trans g2).h hl) ((i1.up g2.g).rep _)⟩
end

/-! ### built-ins -/
section
variable {X : Cx} {Γ : List B} {pos p : Pos} {a b : Expr} {e : Expr} {es : List Expr} {x : D} {ds ds' : List D}
theorem ev_cb1 {K : PySem.W.Frag} {r : List V → Hp → VK → Prop} {ta : TA} {z : D} (ha : EvA K Γ ta ds) (hr : ∀ vs G H, Ex G H → IsAll K G vs ds → ∀ Q : VK, (∀ u G' H', Grow G H G' H' → Is K G' u z → Q u H') → r vs H Q) : EvD K Γ (tCB r ta) z := fun F σ G H s Q q =>
  ha F σ G H s _ fun vs G1 H1 g1 i1 => hr vs G1 H1 g1.s i1 Q fun u G2 H2 g2 i2 => q u G2 H2 (g1.trans g2) i2
/-- f(e, ..), f a built-in whose answer hangs on the data alone -/
theorem ed_callB {f : String} {nm : Str} {r : List V → Hp → VK → Prop} {z : D} (hc : CallR X (.builtin f) r) (hg : Gl X nm) (hm : X.mg nm = none) (hv : bootBuiltins nm = some (.builtin f)) (ha : EA X Γ (e :: es) ds)
    (hr : ∀ vs G H, Ex G H → IsAll X.K G vs ds → ∀ Q : VK, (∀ u G' H', Grow G H G' H' → Is X.K G' u z → Q u H') → r vs H Q)
    (hn : nm ≠ "__name__" := by decide) (hdb : (nm == ("__debug__" : Str)) = false := by decide) (he : starEach (e :: es) X.env = (false, eval e X.env) :: starEach es X.env := by exact starEach_ns rfl) (hpl : (backTo pos (starEach es X.env)).any (·.1) = false := by exact plain_ok rfl) :
    ED X Γ (.Call (.Name nm p) (e :: es) [] pos) z := ed_of (pe_callB hc hg hm hv pa_w hn hdb he hpl) (ev_cb1 ha hr)
theorem ed_callTy {f : String} {nm : Str} {r : List V → Hp → VK → Prop} {z : D} (hc : CallR X (.type f) r) (hg : Gl X nm) (hm : X.mg nm = none) (hv : bootBuiltins nm = some (.type f)) (ha : EA X Γ (e :: es) ds)
    (hr : ∀ vs G H, Ex G H → IsAll X.K G vs ds → ∀ Q : VK, (∀ u G' H', Grow G H G' H' → Is X.K G' u z → Q u H') → r vs H Q)
    (hn : nm ≠ "__name__" := by decide) (hdb : (nm == ("__debug__" : Str)) = false := by decide) (he : starEach (e :: es) X.env = (false, eval e X.env) :: starEach es X.env := by exact starEach_ns rfl) (hpl : (backTo pos (starEach es X.env)).any (·.1) = false := by exact plain_ok rfl) :
    ED X Γ (.Call (.Name nm p) (e :: es) [] pos) z := ed_of (pe_callTy hc hg hm hv pa_w hn hdb he hpl) (ev_cb1 ha hr)
theorem ed_lenS {l : List Nat} (hg : Gl X "len") (hm : X.mg "len" = none) (ha : ED X Γ a (.str l)) (hz : l.length ≤ sizeLine) (he : starEach [a] X.env = (false, eval a X.env) :: starEach [] X.env := by exact starEach_ns rfl) (hpl : (backTo pos (starEach [] X.env)).any (·.1) = false := by exact plain_ok rfl) : ED X Γ (.Call (.Name "len" p) [a] [] pos) (.int l.length) :=
  ed_callB call_len_str hg hm boot_len (ea_cons ha ea_nil he) (fun vs G H ex i Q q => by
    cases i with
    | cons i1 i2 =>
      cases i1
      cases i2
      refine ⟨_, rfl, by rw [S_len]; exact hz, ?_⟩
      rw [S_len]
      exact q _ G H (.refl ex) (.int _)) (by decide) (by decide) he hpl
theorem ed_lenT (hg : Gl X "len") (hm : X.mg "len" = none) (ha : ED X Γ a (.tup ds)) (he : starEach [a] X.env = (false, eval a X.env) :: starEach [] X.env := by exact starEach_ns rfl) (hpl : (backTo pos (starEach [] X.env)).any (·.1) = false := by exact plain_ok rfl) : ED X Γ (.Call (.Name "len" p) [a] [] pos) (.int ds.length) :=
  ed_callB call_len_seq hg hm boot_len (ea_cons ha ea_nil he) (fun vs G H ex i Q q => by
    cases i with
    | cons i1 i2 =>
      cases i2
      cases i1 with
      | tup h1 h2 =>
        refine ⟨_, _, rfl, .inr (Evl.ex_t ex h1), ?_⟩
        rw [h2.len]
        exact q _ G H (.refl ex) (.int _)) (by decide) (by decide) he hpl
theorem ed_lenL (hg : Gl X "len") (hm : X.mg "len" = none) (ha : EL X Γ a ds) (he : starEach [a] X.env = (false, eval a X.env) :: starEach [] X.env := by exact starEach_ns rfl) (hpl : (backTo pos (starEach [] X.env)).any (·.1) = false := by exact plain_ok rfl) : ED X Γ (.Call (.Name "len" p) [a] [] pos) (.int ds.length) :=
  ed_of (pe_callB call_len_seq hg hm boot_len (pa_cons pe_w pa_nil he) (by decide) (by decide) he hpl) fun F σ G H s Q q => ha F σ G H s _ fun p vs G1 H1 g1 h1 i1 => by
    refine ⟨p, vs, rfl, .inl (.inl (.inl h1)), ?_⟩
    rw [i1.len]
    exact q _ G1 H1 g1 (.int _)
/-- len of the script -/
theorem ed_lenScr {ns : List Int} (hg : Gl X "len") (hm : X.mg "len" = none) (ha : ED X Γ a (.scr ns)) (he : starEach [a] X.env = (false, eval a X.env) :: starEach [] X.env := by exact starEach_ns rfl) (hpl : (backTo pos (starEach [] X.env)).any (·.1) = false := by exact plain_ok rfl) : ED X Γ (.Call (.Name "len" p) [a] [] pos) (.int ns.length) :=
  ed_callB call_len_seq hg hm boot_len (ea_cons ha ea_nil he) (fun vs G H ex i Q q => by
    cases i with
    | cons i1 i2 =>
      cases i2
      cases i1 with
      | scr h1 =>
        refine ⟨_, _, rfl, .inl (Evl.ex_l ex h1), ?_⟩
        rw [List.length_map]
        exact q _ G H (.refl ex) (.int _)) (by decide) (by decide) he hpl
theorem ed_ixScr {i : Int} {ns : List Int} {n : Int} (ha : ED X Γ a (.scr ns)) (hb : ED X Γ b (.int i)) (h : atI ns i = some n) (hs : PlainIx b := by exact ix_ns rfl) : ED X Γ (.Subscript a b pos) (.int n) :=
  ed_of (pe_ix ix_list pe_w pe_w hs) fun F σ G H s Q q => ha F σ G H s _ fun v G1 H1 g1 i1 => hb F σ G1 H1 (s.grow g1) _ fun w G2 H2 g2 i2 => by
    cases i1 with
    | scr h1 =>
      cases i2
      exact ⟨_, _, i, .int n, rfl, rfl, Evl.ex_l (g2.g.trans g2.s) h1, atI_map h, q _ G2 H2 (g1.trans g2) (.int n)⟩
theorem ed_max2 {i j : Int} (hc : X.calm = true) (hg : Gl X "max") (hm : X.mg "max" = none) (ha : ED X Γ a (.int i)) (hb : ED X Γ b (.int j)) (he : starEach [a, b] X.env = (false, eval a X.env) :: starEach [b] X.env := by exact starEach_ns rfl) (he2 : starEach [b] X.env = (false, eval b X.env) :: starEach [] X.env := by exact starEach_ns rfl) (hpl : (backTo pos (starEach [b] X.env)).any (·.1) = false := by exact plain_ok rfl) : ED X Γ (.Call (.Name "max" p) [a, b] [] pos) (.int (if j > i then j else i)) :=
  ed_callB (call_max2 hc) hg hm (by decide +kernel) (ea_cons ha (ea_cons hb ea_nil he2) he) (fun vs G H ex i Q q => by
    cases i with
    | cons i1 i2 =>
      cases i2 with
      | cons i2 i3 =>
        cases i1
        cases i2
        cases i3
        exact ⟨_, _, rfl, q _ G H (.refl ex) (.int _)⟩) (by decide) (by decide) he hpl
theorem ed_min2 {i j : Int} (hc : X.calm = true) (hg : Gl X "min") (hm : X.mg "min" = none) (ha : ED X Γ a (.int i)) (hb : ED X Γ b (.int j)) (he : starEach [a, b] X.env = (false, eval a X.env) :: starEach [b] X.env := by exact starEach_ns rfl) (he2 : starEach [b] X.env = (false, eval b X.env) :: starEach [] X.env := by exact starEach_ns rfl) (hpl : (backTo pos (starEach [b] X.env)).any (·.1) = false := by exact plain_ok rfl) : ED X Γ (.Call (.Name "min" p) [a, b] [] pos) (.int (if j < i then j else i)) :=
  ed_callB (call_min2 hc) hg hm (by decide +kernel) (ea_cons ha (ea_cons hb ea_nil he2) he) (fun vs G H ex i Q q => by
    cases i with
    | cons i1 i2 =>
      cases i2 with
      | cons i2 i3 =>
        cases i1
        cases i2
        cases i3
        exact ⟨_, _, rfl, q _ G H (.refl ex) (.int _)⟩) (by decide) (by decide) he hpl
theorem ed_all {bs : List Bool} (hc : X.calm = true) (hg : Gl X "all") (hm : X.mg "all" = none) (ha : EL X Γ a (bs.map D.bl)) (he : starEach [a] X.env = (false, eval a X.env) :: starEach [] X.env := by exact starEach_ns rfl) (hpl : (backTo pos (starEach [] X.env)).any (·.1) = false := by exact plain_ok rfl) : ED X Γ (.Call (.Name "all" p) [a] [] pos) (.bl (bs.all id)) :=
  ed_of (pe_callB (cr_all hc) hg hm (by decide +kernel) (pa_cons pe_w pa_nil he) (by decide) (by decide) he hpl) fun F σ G H s Q q => ha F σ G H s _ fun p vs G1 H1 g1 h1 i1 => by
    have e := i1.bls
    subst e
    exact ⟨p, bs, rfl, .inl (.inl h1), q _ G1 H1 g1 (.bl _)⟩
/-- isinstance(x, T), T a built-in type -/
def tyD : D → Option String
  | .non => some "NoneType" | .bl _ => some "bool" | .int _ => some "int" | .str _ => some "str" | .lst _ => some "list" | .tup _ => some "tuple" | .dct _ => some "dict" | _ => none
theorem tyx {K : PySem.W.Frag} {G H : Hp} (ex : Ex G H) {v : V} {d : D} {t : String} (h : Is K G v d) (e : tyD d = some t) : TyX K H v (.type t) := by
  cases h with
  | non => cases e; exact .base .non
  | bl b => cases e; exact .base (.bl b)
  | int b => cases e; exact .base (.int b)
  | str b => cases e; exact .base (.str _)
  | ty b => cases e
  | lst h1 h2 => cases e; exact .base (.lst (ex _ _ h1))
  | tup h1 h2 =>
    cases e
    rcases Evl.ex_t ex h1 with (h1 | ⟨o, h1⟩) | ⟨o, its, n, h1, hc, _⟩
    · exact .base (.tup h1)
    · exact .fTuple h1
    · exact .kTuple h1 hc
  | dct h1 h2 => cases e; exact .base (.dK (ex _ _ h1))
  | ins h0 h1 h2 => cases e
  | scr h1 => cases e
theorem ed_isi {t n : String} {r : Bool} (hg : Gl X "isinstance") (hm : X.mg "isinstance" = none) (ha : ED X Γ a x) (hb : ED X Γ b (.ty n)) (ht : tyD x = some t) (hk : kitB t n = some r) (he : starEach [a, b] X.env = (false, eval a X.env) :: starEach [b] X.env := by exact starEach_ns rfl) (he2 : starEach [b] X.env = (false, eval b X.env) :: starEach [] X.env := by exact starEach_ns rfl)
    (hpl : (backTo pos (starEach [b] X.env)).any (·.1) = false := by exact plain_ok rfl) : ED X Γ (.Call (.Name "isinstance" p) [a, b] [] pos) (.bl r) :=
  ed_callB call_isi hg hm (by decide +kernel) (ea_cons ha (ea_cons hb ea_nil he2) he) (fun vs G H ex i Q q => by
    cases i with
    | cons i1 i2 =>
      cases i2 with
      | cons i2 i3 =>
        cases i2
        cases i3
        exact ⟨_, _, _, _, r, rfl, .ty n, tyx ex i1 ht, kit_ty hk, q _ G H (.refl ex) (.bl r)⟩) (by decide) (by decide) he hpl
end

/-! ### methods of texts -/
section
variable {X : Cx} {Γ : List B} {pos apos : Pos} {a b : Expr} {ds : List D}
theorem ed_join {l : List Nat} {ls : List (List Nat)} (ha : ED X Γ a (.str l)) (hb : EL X Γ b (ls.map D.str)) (hz : (ls.map (·.length)).sum + ls.length * l.length ≤ 16777216)
    (hbase : attributeBase a "join" X.env (eval a X.env) = eval a X.env := by exact ab_ns rfl) (hline : (apos.endLine == pos.line) = true := by rfl)
    (hfew : ((backTo pos (starEach (b :: []) X.env)).all (fun x => !x.1) && (backToKw pos (keywordEach [] X.env)).all (fun x => x.1.isSome) && decide ((b :: ([] : List Expr)).length + ([] : List Keyword).length + (if ([] : List Keyword).isEmpty then 0 else 1) < 30)) = true := by exact few_ok rfl)
    (hs : starEach (b :: []) X.env = (false, eval b X.env) :: starEach [] X.env := by exact starEach_ns rfl) (hplain : (backTo pos (starEach [] X.env)).any (·.1) = false := by exact plain_ok rfl) :
    ED X Γ (.Call (.Attribute a "join" apos) [b] [] pos) (.str (Txt.join (S l) (ls.map S)).cps.toList) :=
  ed_of (pe_bm PySem.F.plainAttrs_str PySem.F.slot_str_join PySem.F.type_str_join mt_join pe_w (pa_cons pe_w pa_nil hs) hbase hfew hline hs hplain) fun F σ G H s Q q => ha F σ G H s _ fun v G1 H1 g1 i1 => by
    cases i1
    refine ⟨rfl, hb F σ G1 H1 (s.grow g1) _ fun p vs G2 H2 g2 h2 i2 => ?_⟩
    have e := i2.strs
    subst e
    refine ⟨_, p, ls.map S, rfl, rfl, .inl (.inl (.inl ?_)), ?_, ?_⟩
    · rw [h2, List.map_map]
      rfl
    · rw [List.map_map, List.length_map, S_len]
      have : (ls.map ((fun x : Str => x.length) ∘ S)) = ls.map (·.length) := List.map_congr_left fun x _ => S_len x
      rw [this]
      exact hz
    · exact q _ G2 H2 (g1.trans g2) (.str _)
theorem eo_split {l m : List Nat} (ha : ED X Γ a (.str l)) (hb : ED X Γ b (.str m)) (hm : 0 < m.length) (hz : l.length + 2 ≤ sizeLine)
    (hbase : attributeBase a "split" X.env (eval a X.env) = eval a X.env := by exact ab_ns rfl) (hline : (apos.endLine == pos.line) = true := by rfl)
    (hfew : ((backTo pos (starEach (b :: []) X.env)).all (fun x => !x.1) && (backToKw pos (keywordEach [] X.env)).all (fun x => x.1.isSome) && decide ((b :: ([] : List Expr)).length + ([] : List Keyword).length + (if ([] : List Keyword).isEmpty then 0 else 1) < 30)) = true := by exact few_ok rfl)
    (hs : starEach (b :: []) X.env = (false, eval b X.env) :: starEach [] X.env := by exact starEach_ns rfl) (hplain : (backTo pos (starEach [] X.env)).any (·.1) = false := by exact plain_ok rfl) :
    EO X Γ (.Call (.Attribute a "split" apos) [b] [] pos) (.lst (((Txt.split (S l) (S m)).map fun z => z.cps.toList).map D.str)) :=
  eo_of (pe_bm PySem.F.plainAttrs_str PySem.F.slot_str_split PySem.F.type_str_split mt_split pe_w (pa_cons pe_w pa_nil hs) hbase hfew hline hs hplain) fun F σ G H s Q q => ha F σ G H s _ fun v G1 H1 g1 i1 => by
    cases i1
    refine ⟨rfl, hb F σ G1 H1 (s.grow g1) _ fun w G2 H2 g2 i2 => ?_⟩
    cases i2
    refine ⟨_, _, rfl, rfl, ?_, by rw [S_len]; exact hz, fun r hr => ?_⟩
    · rw [S_len]
      exact beq_eq_false_iff_ne.mpr (by omega)
    · refine q r _ G2 _ ((g1.trans g2).trans (Grow.lay g2.s hr)) upd_same (Evl.fresh_back g2.s hr) (Evl.fresh_back (g1.trans g2).h hr) ?_
      have e : (Txt.split (S l) (S m)).map V.str = ((Txt.split (S l) (S m)).map fun z => z.cps.toList).map (fun l => V.str (S l)) := by
        rw [List.map_map]
        exact List.map_congr_left fun x _ => by simp [S]
      show IsAll _ _ ((Txt.split (S l) (S m)).map V.str) _
      rw [e]
      exact IsAll.ofStrs _
end
end Sd

namespace Sd
open PySem PySem.Spec PyProof.Rows L2

/-! ### what is walked -/
def ItD (K : PySem.W.Frag) (Γ : List B) (wi : TI) (xs : List D) : Prop := ∀ F σ G H, Stt K F Γ σ G H → ∀ R : It → Hp → Prop,
  (∀ (J : It) (Gd : Hp → Prop) (Y : Nat → Hp → V → Hp → Prop) G' H', Grow G H G' H' → Walk J xs.length Gd Y → (∀ G2 H2, Ex G' G2 → Ex G2 H2 → Gd H2) →
    (∀ i G2 H2 v H3, Ex G' G2 → Ex G2 H2 → Y i H2 v H3 → ∃ G3 x, xs[i]? = some x ∧ Grow G2 H2 G3 H3 ∧ Is K G3 v x) → R J H') → wi σ H R
def IT (X : Cx) (Γ : List B) (tg iter : Expr) (xs : List D) : Prop := ∃ wi, PI X tg iter wi ∧ ItD X.K Γ wi xs
section
variable {X : Cx} {Γ : List B} {tg a b : Expr} {pos p : Pos} {ds ds' : List D}
theorem it_list (h : EL X Γ a ds) (hf : ∀ F σ G H, Stt X.K F Γ σ G H → ∀ Q : VK, (∀ p vs G' H', Grow G H G' H' → G' p = some (.lst vs) → IsAll X.K G' vs ds → Q (.ref p) H') → wE X a σ H Q) : IT X Γ tg a ds :=
  ⟨_, pi_list pe_w, fun F σ G H s R q => hf F σ G H s _ fun p vs G1 H1 g1 h1 i1 => by
    have hl := i1.len
    refine ⟨p, rfl, ⟨vs, .inl (.inl (g1.s _ _ h1))⟩, q _ _ _ G1 H1 g1 (hl ▸ walk_list (K := X.K) (a := p) (xs := vs)) (fun G2 H2 e1 e2 => .inl (.inl (e2 _ _ (e1 _ _ h1)))) fun i G2 H2 v H3 e1 e2 y => ?_⟩
    obtain ⟨rfl, hv⟩ := y
    obtain ⟨d, h2, h3⟩ := i1.getV hv
    exact ⟨G2, d, h2, .refl e2, h3.up e1⟩⟩
theorem it_lst (h : ED X Γ a (.lst ds)) : IT X Γ tg a ds := it_list h.el fun F σ G H s Q q => h F σ G H s _ fun v G1 H1 g1 i1 => by
  cases i1 with
  | lst h1 h2 => exact q _ _ _ _ g1 h1 h2
theorem it_tup (h : ED X Γ a (.tup ds)) : IT X Γ tg a ds :=
  ⟨_, pi_tup pe_w, fun F σ G H s R q => h F σ G H s _ fun v G1 H1 g1 i1 => by
    cases i1 with
    | @tup p vs _ h1 i1 =>
      have hl := i1.len
      refine ⟨p, rfl, ⟨vs, Evl.ex_t g1.s h1⟩, q _ _ _ G1 H1 g1 (hl ▸ walk_tup (K := X.K) (a := p) (xs := vs)) (fun G2 H2 e1 e2 => Evl.ex_t (e1.trans e2) h1) fun i G2 H2 v H3 e1 e2 y => ?_⟩
      obtain ⟨rfl, hv⟩ := y
      obtain ⟨d, h2, h3⟩ := i1.getV hv
      exact ⟨G2, d, h2, .refl e2, h3.up e1⟩⟩
theorem it_str {l : List Nat} (h : ED X Γ a (.str l)) : IT X Γ tg a (l.map fun c => D.str [c]) :=
  ⟨_, pi_str pe_w, fun F σ G H s R q => h F σ G H s _ fun v G1 H1 g1 i1 => by
    cases i1
    have hl : (S l).cps.size = (l.map fun c => D.str [c]).length := by simp [S]
    refine ⟨S l, rfl, q _ _ _ G1 H1 g1 (hl ▸ walk_str (z := S l)) (fun _ _ _ _ => trivial) fun i G2 H2 v H3 e1 e2 y => ?_⟩
    obtain ⟨rfl, c, hc, rfl⟩ := y
    refine ⟨G2, .str [c], ?_, .refl e2, .str [c]⟩
    have hc' : l[i]? = some c := by simpa [S] using hc
    rw [List.getElem?_map, hc']
    rfl⟩
def rints (lo : Int) (n : Nat) : List Int := (List.range n).map fun (i : Nat) => lo + (i : Int)
theorem rints_get {lo : Int} {n i : Nat} (h : i < n) : (rints lo n)[i]? = some (lo + (i : Int)) := by
  unfold rints
  rw [List.getElem?_map, List.getElem?_range h]
  rfl
theorem rints_len (lo : Int) (n : Nat) : (rints lo n).length = n := by
  unfold rints
  rw [List.length_map, List.length_range]
theorem rints_mem {lo x : Int} {n : Nat} (h : x ∈ rints lo n) : lo ≤ x ∧ x < lo + n := by
  unfold rints at h
  obtain ⟨i, hi, rfl⟩ := List.mem_map.mp h
  have := List.mem_range.mp hi
  omega
theorem walk_ints {J : It} {lo : Int} {n : Nat} (w : Walk J n (fun _ => True) (YFn fun i => .int (lo + i))) : Walk J ((rints lo n).map D.int).length (fun _ => True) (fun i H v H' => H' = H ∧ i < n ∧ v = .int (lo + i)) := by
  have hl : ((rints lo n).map D.int).length = n := by rw [List.length_map, rints_len]
  rw [hl]
  exact w.mono (fun _ h => h) fun i H x H' hi _ y => ⟨y.1, hi, y.2⟩
theorem it_rng {wi : TI} {lo : Int} {n : Nat} {J : It} (w : Walk J n (fun _ => True) (YFn fun i => .int (lo + i))) {K : PySem.W.Frag} {F : Hp} {σ : L2.St} {G H G1 H1 : Hp} (s : Stt K F Γ σ G H) (g : Grow G H G1 H1) {R : It → Hp → Prop}
    (q : ∀ (J : It) (Gd : Hp → Prop) (Y : Nat → Hp → V → Hp → Prop) G' H', Grow G H G' H' → Walk J ((rints lo n).map D.int).length Gd Y → (∀ G2 H2, Ex G' G2 → Ex G2 H2 → Gd H2) →
      (∀ i G2 H2 v H3, Ex G' G2 → Ex G2 H2 → Y i H2 v H3 → ∃ G3 x, ((rints lo n).map D.int)[i]? = some x ∧ Grow G2 H2 G3 H3 ∧ Is K G3 v x) → R J H') : R J H1 :=
  q J _ _ G1 H1 g (walk_ints w) (fun _ _ _ _ => trivial) fun i G2 H2 v H3 e1 e2 y => by
    obtain ⟨rfl, hi, rfl⟩ := y
    exact ⟨G2, .int (lo + i), by rw [List.getElem?_map, rints_get hi]; rfl, .refl e2, .int _⟩
theorem it_range1 {n : Int} (hg : Gl X "range") (hm : X.mg "range" = none) (ha : ED X Γ a (.int n)) (hb : -(2 ^ 62) ≤ n ∧ n < 2 ^ 62) (hs : starEach [a] X.env = [(false, eval a X.env)] := by exact starEach_ns rfl) : IT X Γ tg (.Call (.Name "range" p) [a] [] pos) ((rints 0 n.toNat).map D.int) :=
  ⟨_, pi_range1 hg hm pa_w hs, fun F σ G H s R q => (ea_cons ha ea_nil hs) F σ G H s _ fun vs G1 H1 g1 i1 => by
    cases i1 with
    | cons i1 i2 =>
      cases i1
      cases i2
      exact ⟨n, rfl, hb.1, hb.2, it_rng (wi := iRng1 tNil) walk_range s g1 q⟩⟩
theorem it_range2 {m n : Int} (hg : Gl X "range") (hm : X.mg "range" = none) (ha : ED X Γ a (.int m)) (hb : ED X Γ b (.int n)) (h1 : -(2 ^ 62) ≤ m ∧ m < 2 ^ 62) (h2 : -(2 ^ 62) ≤ n ∧ n < 2 ^ 62) (hs : starEach [a, b] X.env = [(false, eval a X.env), (false, eval b X.env)] := by exact starEach_ns2 rfl) (hs2 : starEach [b] X.env = [(false, eval b X.env)] := by exact starEach_ns rfl) :
    IT X Γ tg (.Call (.Name "range" p) [a, b] [] pos) ((rints m (n - m).toNat).map D.int) :=
  ⟨_, pi_range2 hg hm pa_w hs hs2, fun F σ G H s R q => (ea_cons ha (ea_cons hb ea_nil hs2) (by rw [hs, hs2])) F σ G H s _ fun vs G1 H1 g1 i1 => by
    cases i1 with
    | cons i1 i2 =>
      cases i2 with
      | cons i2 i3 =>
        cases i1
        cases i2
        cases i3
        exact ⟨m, n, rfl, ⟨h1.1, h1.2, h2.1, h2.2⟩, it_rng (wi := iRng1 tNil) walk_range s g1 q⟩⟩
/-- a new pair at each turn -/
theorem pair_new {K : PySem.W.Frag} {G2 H2 : Hp} {T : Addr} {x y : V} {d e : D} (hT : H2 T = none) (ex : Ex G2 H2) (h1 : Is K G2 x d) (h2 : Is K G2 y e) : Is K (upd G2 T (.tup [x, y])) (.ref T) (.tup [d, e]) :=
  .tup (.inl (.inl upd_same)) (IsAll.up (.cons h1 (.cons h2 .nil)) (Evl.Ex.new (Evl.fresh_back ex hT)))
theorem it_zip {elts : List Expr} {kk : Nat} {tpos : Pos} (hg : Gl X "zip") (hm : X.mg "zip" = none) (ha : ED X Γ a (.lst ds)) (hb : ED X Γ b (.lst ds')) (hs : starEach [a, b] X.env = (false, eval a X.env) :: starEach [b] X.env := by exact starEach_ns rfl) (hs2 : starEach [b] X.env = (false, eval b X.env) :: starEach [] X.env := by exact starEach_ns rfl) (hpl : (backTo pos (starEach [b] X.env)).any (·.1) = false := by exact plain_ok rfl) :
    IT X Γ (.Tuple elts kk tpos) (.Call (.Name "zip" p) [a, b] [] pos) ((ds.zip ds').map fun z => .tup [z.1, z.2]) :=
  ⟨_, pi_zip hg hm pa_w hs hpl, fun F σ G H s R q => (ea_cons ha (ea_cons hb ea_nil hs2) hs) F σ G H s _ fun vs G1 H1 g1 i1 => by
    cases i1 with
    | cons i1 i2 =>
      cases i2 with
      | cons i2 i3 =>
        cases i3
        cases i1 with
        | @lst pa va _ ha1 ha2 =>
          cases i2 with
          | @lst pb vb _ hb1 hb2 =>
            have hl : min va.length vb.length = ((ds.zip ds').map fun z => D.tup [z.1, z.2]).length := by rw [List.length_map, List.length_zip, ha2.len, hb2.len]
            refine ⟨pa, pb, va, vb, rfl, .inl (.inl (g1.s _ _ ha1)), .inl (.inl (g1.s _ _ hb1)), q _ _ _ G1 H1 g1 (hl ▸ walk_zip (K := X.K) (a := pa) (b := pb) (xs := va) (ys := vb) rfl) (fun G2 H2 e1 e2 => ⟨.inl (.inl (e2 _ _ (e1 _ _ ha1))), .inl (.inl (e2 _ _ (e1 _ _ hb1)))⟩) fun i G2 H2 v H3 e1 e2 y => ?_⟩
            obtain ⟨T, x, y, rfl, hT, rfl, hx, hy⟩ := y
            obtain ⟨d, k1, k2⟩ := ha2.getV hx
            obtain ⟨e, k3, k4⟩ := hb2.getV hy
            refine ⟨_, .tup [d, e], ?_, Grow.new e2 hT, pair_new hT e2 (k2.up e1) (k4.up e1)⟩
            rw [List.getElem?_map, (List.getElem?_zip_eq_some (z := (d, e))).mpr ⟨k1, k3⟩]
            rfl⟩
theorem it_enum {elts : List Expr} {kk : Nat} {tpos : Pos} (hg : Gl X "enumerate") (hm : X.mg "enumerate" = none) (ha : ED X Γ a (.lst ds)) (hs : starEach [a] X.env = [(false, eval a X.env)] := by exact starEach_ns rfl) :
    IT X Γ (.Tuple elts kk tpos) (.Call (.Name "enumerate" p) [a] [] pos) ((ds.zipIdx).map fun z => .tup [.int (z.2 : Int), z.1]) :=
  ⟨_, pi_enum hg hm pa_w hs, fun F σ G H s R q => (ea_cons ha ea_nil hs) F σ G H s _ fun vs G1 H1 g1 i1 => by
    cases i1 with
    | cons i1 i2 =>
      cases i2
      cases i1 with
      | @lst pa va _ ha1 ha2 =>
        have hl : va.length = ((ds.zipIdx).map fun z => D.tup [.int (z.2 : Int), z.1]).length := by rw [List.length_map, List.length_zipIdx, ha2.len]
        refine ⟨pa, va, rfl, .inl (.inl (g1.s _ _ ha1)), q _ _ _ G1 H1 g1 (hl ▸ walk_enum (K := X.K) (a := pa) (xs := va)) (fun G2 H2 e1 e2 => .inl (.inl (e2 _ _ (e1 _ _ ha1)))) fun i G2 H2 v H3 e1 e2 y => ?_⟩
        obtain ⟨T, x, y, rfl, hT, rfl, hx, hy⟩ := y
        cases hx
        obtain ⟨d, k1, k2⟩ := ha2.getV hy
        refine ⟨_, .tup [.int (i : Nat), d], ?_, Grow.new e2 hT, pair_new hT e2 (.int _) (k2.up e1)⟩
        rw [List.getElem?_map, List.getElem?_zipIdx, k1]
        simp⟩
end

/-! ### targets -/
def setMany (σ : L2.St) : List Nat → List V → L2.St
  | j :: js, w :: ws => setMany (σ.set j (some w)) js ws
  | _, _ => σ
def TgD (K : PySem.W.Frag) (g : TG) (js : List Nat) (Γ : List B) (x : D) (Γ' : List B) : Prop := ∀ F σ G H v, Stt K F Γ σ G H → Is K G v x → ∀ Q : L2.St → Hp → Prop, (∀ ws, Stt K F Γ' (setMany σ js ws) G H → Q (setMany σ js ws) H) → g v σ H Q
def TgsD (K : PySem.W.Frag) (g : TGs) (js : List Nat) (Γ : List B) (xs : List D) (Γ' : List B) : Prop := ∀ F σ G H vs, Stt K F Γ σ G H → IsAll K G vs xs → ∀ Q : L2.St → Hp → Prop, (∀ ws, Stt K F Γ' (setMany σ js ws) G H → Q (setMany σ js ws) H) → g vs σ H Q
section
variable {K : PySem.W.Frag} {Γ Γ' : List B} {x : D} {xs : List D} {js : List Nat}
theorem tg_name (j : Nat) : TgD K (gName j) [j] Γ x (Γ.set j (.d x)) := fun F σ G H v s i Q q => q [v] (s.set j i)
theorem tgs_nil : TgsD K gNil [] Γ [] Γ := fun F σ G H vs s i Q q => by
  cases i
  exact ⟨rfl, q [] s⟩
theorem tgs_cons {u : TGs} (j : Nat) (h : TgsD K u js (Γ.set j (.d x)) xs Γ') : TgsD K (gCons (gName j) u) (j :: js) Γ (x :: xs) Γ' := fun F σ G H vs s i Q q => by
  cases i with
  | @cons v vs _ _ i1 i2 => exact ⟨v, vs, rfl, h F _ G H vs (s.set j i1) i2 _ fun ws s' => q (v :: ws) s'⟩
theorem tg_tup {n : Nat} {u : TGs} (h : TgsD K u js Γ xs Γ') (hl : xs.length = n) : TgD K (gTup K n u) js Γ (.tup xs) Γ' := fun F σ G H v s i Q q => by
  cases i with
  | tup h1 h2 => exact ⟨_, _, rfl, Evl.ex_t s.sub h1, by rw [h2.len]; exact hl, h F σ G H _ s h2 Q q⟩
end

/-! ### comprehensions -/
def wipeB (Γ : List B) : List Nat → List B
  | [] => Γ
  | v :: vs => (wipeB Γ vs).set v .un
theorem Stt.wipe {K : PySem.W.Frag} {F : Hp} {Γ : List B} {σ : L2.St} {G H : Hp} (s : Stt K F Γ σ G H) : ∀ vs : List Nat, Stt K F (wipeB Γ vs) (L2.wipe σ vs) G H
  | [] => s
  | v :: vs => (s.wipe vs).unset v none
theorem wipe_get (σ : L2.St) (i : Nat) : ∀ vs : List Nat, (L2.wipe σ vs)[i]? = if i ∈ vs then (if i < σ.length then some none else none) else σ[i]?
  | [] => by simp [L2.wipe]
  | v :: vs => by
    unfold L2.wipe
    by_cases h : v = i
    · subst h
      simp only [List.mem_cons, true_or, if_true]
      by_cases hl : v < σ.length
      · rw [List.getElem?_set_self (by rw [wipe_length]; exact hl), if_pos hl]
      · rw [List.getElem?_eq_none (by rw [List.length_set, wipe_length]; omega), if_neg hl]
    · rw [List.getElem?_set_ne h, wipe_get σ i vs]
      simp only [List.mem_cons, Ne.symm h, false_or]
theorem wipe_set {σ : L2.St} {j : Nat} {y : Option V} {vs : List Nat} (h : j ∈ vs) : L2.wipe (σ.set j y) vs = L2.wipe σ vs := by
  apply List.ext_getElem?
  intro i
  rw [wipe_get, wipe_get, List.length_set]
  by_cases hi : i ∈ vs
  · rw [if_pos hi, if_pos hi]
  · rw [if_neg hi, if_neg hi, List.getElem?_set_ne (by rintro rfl; exact hi h)]
theorem wipe_wipe {σ : L2.St} {vs : List Nat} : L2.wipe (L2.wipe σ vs) vs = L2.wipe σ vs := by
  apply List.ext_getElem?
  intro i
  rw [wipe_get, wipe_length]
  by_cases hi : i ∈ vs
  · rw [if_pos hi, wipe_get, if_pos hi]
  · rw [if_neg hi]
theorem wipe_many {vs : List Nat} : ∀ {js : List Nat} {ws : List V} {σ : L2.St}, (∀ j ∈ js, j ∈ vs) → L2.wipe (setMany σ js ws) vs = L2.wipe σ vs
  | [], _, _, _ => by simp [setMany]
  | _ :: _, [], _, _ => by simp [setMany]
  | j :: js, w :: ws, σ, h => by
    unfold setMany
    rw [wipe_many (fun i hi => h i (List.mem_cons_of_mem _ hi)), wipe_set (h j List.mem_cons_self)]

abbrev blkX (X : Cx) (scope : Scope) (s : Shared) (H : Hp) (C : Addr) (cl : List (Str × Addr)) (fp : List Addr) : Cx := X.blk s H scope (compEnvC scope cl C X.env) fp
/-- the clause's tests -/
def ETs (X : Cx) (scope : Scope) (Γ : List B) (ifs : List Expr) (k : Bool) : Prop := match ifs with
  | [] => k = true
  | [c] => ∀ s H C cl fp, ET (blkX X scope s H C cl fp) Γ c k
  | _ => False
/-- a comprehension that comes to a list -/
def LcOk (X : Cx) (Γ : List B) (elt tg iter : Expr) (ifs : List Expr) (scope : Scope) (own : List (Str × Nat)) (o : OO) : Prop :=
  ∃ (wi : TI) (g : TG) (tt : TT) (te : TE), PI X tg iter wi ∧ BlkOk X.N X.env.scope scope own ∧ (∀ s H C cl fp, PG (blkX X scope s H C cl fp) tg g) ∧ (∀ s H C cl fp, PTs (blkX X scope s H C cl fp) ifs tt) ∧ (∀ s H C cl fp, PE (blkX X scope s H C cl fp) elt te) ∧
    EvO X.K Γ (tLc wi g tt te (own.map (·.2))) o
theorem lc_ok {X : Cx} {Γ : List B} {elt tg iter : Expr} {ifs : List Expr} {scope : Scope} {own : List (Str × Nat)} {g : TG} {js : List Nat} {Yt τ : Type} {encY : Yt → D} {enc : τ → D} (ys : List Yt) (p : Yt → Bool) (f : Yt → τ)
    (hi : IT X Γ tg iter (ys.map encY)) (ok : BlkOk X.N X.env.scope scope own) (hg : ∀ s H C cl fp, PG (blkX X scope s H C cl fp) tg g) (hj : ∀ j ∈ js, j ∈ own.map (·.2)) (hz : ys.length < sizeLine) (Γe : Yt → List B)
    (htg : ∀ y, y ∈ ys → TgD X.K g js (wipeB Γ (own.map (·.2))) (encY y) (Γe y)) (ht : ∀ y, y ∈ ys → ETs X scope (Γe y) ifs (p y)) (he : ∀ y, y ∈ ys → p y = true → ∀ s H C cl fp, ED (blkX X scope s H C cl fp) (Γe y) elt (enc (f y)))
    (hifs : ifs.length ≤ 1 := by decide) : LcOk X Γ elt tg iter ifs scope own (.lst (((ys.filter p).map f).map enc)) := by
  obtain ⟨wi, hi1, hi2⟩ := hi
  -- the tests
  obtain ⟨tt, ht1, ht2⟩ : ∃ tt : TT, (∀ s H C cl fp, PTs (blkX X scope s H C cl fp) ifs tt) ∧ ∀ y, y ∈ ys → EvT X.K (Γe y) tt (p y) := by
    match ifs, hifs, ht with
    | [], _, ht => exact ⟨tYes, fun s H C cl fp => pts_nil, fun y hy F σ G H st Q q => by
        have e : p y = true := ht y hy
        rw [e] at q
        exact q G H (.refl st.sub)⟩
    | [c], _, ht => exact ⟨fun σ H Q => ∀ s H' C cl fp, WT (blkX X scope s H' C cl fp) c σ H Q, fun s H C cl fp => pts_one ⟨fun pins sh σ H1 Q I h => (h s H C cl fp).run pins sh I⟩, fun y hy F σ G H st Q q s H' C cl fp => (show ET (blkX X scope s H' C cl fp) (Γe y) c (p y) from (show ∀ s H C cl fp, ET (blkX X scope s H C cl fp) (Γe y) c (p y) from ht y hy) s H' C cl fp) F σ G H st Q q⟩
  obtain ⟨te, he1, he2⟩ : ∃ te : TE, (∀ s H C cl fp, PE (blkX X scope s H C cl fp) elt te) ∧ ∀ y, y ∈ ys → p y = true → EvD X.K (Γe y) te (enc (f y)) :=
    ⟨fun σ H Q => ∀ s H' C cl fp, WE (blkX X scope s H' C cl fp) elt σ H Q, fun s H C cl fp => ⟨fun pins sh σ H1 Q I h => (h s H C cl fp).run pins sh I⟩, fun y hy hp F σ G H st Q q s H' C cl fp => he y hy hp s H' C cl fp F σ G H st Q q⟩
  refine ⟨wi, g, tt, te, hi1, ok, hg, ht1, he1, ?_⟩
  intro F σ G H st Q q
  refine hi2 F σ G H st _ fun J Gd Y G1 H1 g1 W hGd hY Dl hD => ?_
  -- the word: behind i turns the list at Dl holds what the first i items gave
  have hlen : (ys.map encY).length = ys.length := List.length_map _
  rw [hlen] at W
  refine lc_it (g := g) (tt := tt) (te := te) (vs := own.map (·.2)) (σ := σ) (H1 := H1) (D := Dl) (Qd := fun H => Q (.ref Dl) H) W (fun i H' => ∃ G' vs, Grow G1 H1 G' H' ∧ G' Dl = none ∧ H' Dl = some (.lst vs) ∧ IsAll X.K G' vs ((((ys.take i).filter p).map f).map enc)) ?_ (fun i H' _ ⟨G', _, gr, _⟩ => hGd G' H' gr.g gr.s) ?_ ?_
  · exact ⟨G1, [], Grow.lay g1.s hD, Evl.fresh_back g1.s hD, upd_same, .nil⟩
  · rintro i x H2 H3 hi ⟨G2, vs, gr, nD, hDl, iv⟩ hy
    obtain ⟨G3, xd, hx, gr3, ix⟩ := hY i G2 H2 x H3 gr.g gr.s hy
    rw [List.getElem?_map] at hx
    cases hyi : ys[i]? with
    | none =>
      rw [hyi] at hx
      cases hx
    | some y =>
      rw [hyi] at hx
      cases hx
      have hmem : y ∈ ys := List.mem_of_getElem? hyi
      have htake : ys.take (i + 1) = ys.take i ++ [y] := by
        rw [List.take_succ, hyi]
        rfl
      have st3 : Stt X.K F Γ σ G3 H3 := st.grow ((g1.trans gr).trans gr3)
      have hlt : vs.length < sizeLine := by
        rw [iv.len, List.length_map, List.length_map]
        have h1 := List.length_filter_le p (ys.take i)
        have h2 := List.length_take_le i ys
        omega
      refine htg y hmem F _ G3 H3 x (st3.wipe _) ix _ fun ws st4 => ⟨?_, ?_⟩
      · rw [wipe_many hj, wipe_wipe]
      · refine ht2 y hmem F _ G3 H3 st4 _ fun G4 H4 gr4 => ?_
        have grw : Grow G1 H1 G4 H4 := (gr.trans gr3).trans gr4
        have nD4 : G4 Dl = none := gr4.f Dl _ (gr3.h _ _ hDl) (gr3.f Dl _ hDl nD)
        have hD4 : H4 Dl = some (.lst vs) := gr4.h _ _ (gr3.h _ _ hDl)
        have iv4 := iv.up (gr3.g.trans gr4.g)
        cases hp : p y with
        | false =>
          show ∃ G' vs, _
          refine ⟨G4, vs, grw, nD4, hD4, ?_⟩
          rw [htake, List.filter_append]
          simp only [List.filter_cons, hp, List.filter_nil, List.append_nil, Bool.false_eq_true, if_false]
          exact iv4
        | true =>
          refine he2 y hmem hp F _ G4 H4 (st4.grow gr4) _ fun u G5 H5 gr5 i5 => ?_
          have hD5 : H5 Dl = some (.lst vs) := gr5.h _ _ hD4
          have nD5 : G5 Dl = none := gr5.f Dl _ hD4 nD4
          refine ⟨vs, hD5, hlt, G5, vs ++ [u], ⟨grw.g.trans gr5.g, fun b o e => ?_, fun b o e => ?_, fun b o e n => gr5.f b o (grw.h b o e) (grw.f b o e n)⟩, nD5, upd_same, ?_⟩
          · rw [upd_ne (ne_of_none e hD)]
            exact gr5.h b o (grw.h b o e)
          · rw [upd_ne (ne_of_none e nD5)]
            exact gr5.s b o e
          · rw [htake, List.filter_append]
            simp only [List.filter_cons, hp, List.filter_nil, if_true, List.map_append, List.map_cons, List.map_nil]
            exact (iv4.up gr5.g).app (.cons i5 .nil)
  · rintro H' ⟨G', vs, gr, nD, hDl, iv⟩
    rw [List.take_length] at iv
    exact q Dl _ G' H' (g1.trans gr) hDl nD (Evl.fresh_back g1.h hD) iv
theorem eo_lc {X : Cx} {Γ : List B} {elt tg iter : Expr} {ifs : List Expr} {scope : Scope} {own : List (Str × Nat)} {pos : Pos} {o : OO} (hc : X.calm = true) (hN : X.N.Nodup) (h : LcOk X Γ elt tg iter ifs scope own o) (hs : ∀ x, foldedSetIterable iter X.env x = pure x := by exact fs_ns rfl) :
    EO X Γ (.ListComp elt [⟨tg, iter, ifs, 0⟩] scope pos) o := by
  obtain ⟨wi, g, tt, te, h1, h2, h3, h4, h5, h6⟩ := h
  exact eo_of (pe_lc hc hN h1 h2 h3 h4 h5 hs) h6
theorem filter_tt {α : Type} (xs : List α) : xs.filter (fun _ => true) = xs := List.filter_eq_self.mpr fun _ _ => rfl
/-- .. without tests -/
theorem lc_ok0 {X : Cx} {Γ : List B} {elt tg iter : Expr} {scope : Scope} {own : List (Str × Nat)} {g : TG} {js : List Nat} {Yt τ : Type} {encY : Yt → D} {enc : τ → D} (ys : List Yt) (f : Yt → τ)
    (hi : IT X Γ tg iter (ys.map encY)) (ok : BlkOk X.N X.env.scope scope own) (hg : ∀ s H C cl fp, PG (blkX X scope s H C cl fp) tg g) (hj : ∀ j ∈ js, j ∈ own.map (·.2)) (hz : ys.length < sizeLine) (Γe : Yt → List B)
    (htg : ∀ y, y ∈ ys → TgD X.K g js (wipeB Γ (own.map (·.2))) (encY y) (Γe y)) (he : ∀ y, y ∈ ys → ∀ s H C cl fp, ED (blkX X scope s H C cl fp) (Γe y) elt (enc (f y))) : LcOk X Γ elt tg iter [] scope own (.lst ((ys.map f).map enc)) := by
  have h := lc_ok (ifs := []) (encY := encY) (enc := enc) ys (fun _ => true) f hi ok hg hj hz Γe htg (fun _ _ => rfl) (fun y hy _ => he y hy) (by decide)
  rw [filter_tt] at h
  exact h
end Sd

namespace Sd
open PySem PySem.Spec PyProof.Rows L2

/-! ### how blocks end -/
structure Exn where
  cls : Str
  fs : List (Str × D)
inductive Res where
  | v (x : D) | o (o : OO) | x (e : Exn)
inductive Ctl (S T : Type) where
  | go (s : S) | brk (b : T) | ret (r : Res)
def bnd {α β : Type} (x : α) (f : α → β) : β := f x
theorem bnd_eq {α β : Type} (x : α) (f : α → β) : bnd x f = f x := rfl
def Ctl.bind {S S' T : Type} (c : Ctl S T) (f : S → Ctl S' T) : Ctl S' T := match c with
  | .go s => f s
  | .brk b => .brk b
  | .ret r => .ret r
def Ctl.up {S T : Type} (c : Ctl Empty T) : Ctl S T := match c with
  | .go s => nomatch s
  | .brk b => .brk b
  | .ret r => .ret r
theorem Ctl.bind_go {S S' T : Type} (s : S) (f : S → Ctl S' T) : (Ctl.go (T := T) s).bind f = f s := rfl
theorem Ctl.bind_brk {S S' T : Type} (b : T) (f : S → Ctl S' T) : (Ctl.brk (S := S) b).bind f = .brk b := rfl
theorem Ctl.bind_ret {S S' T : Type} (r : Res) (f : S → Ctl S' T) : (Ctl.ret (S := S) (T := T) r).bind f = .ret r := rfl
theorem Ctl.up_ret {S T : Type} (r : Res) : (Ctl.ret (T := T) r).up = (Ctl.ret r : Ctl S T) := rfl
theorem Ctl.up_brk {S T : Type} (b : T) : (Ctl.brk b).up = (Ctl.brk b : Ctl S T) := rfl
/-- a for loop: S what goes on from turn to turn -/
def loop {S Y T : Type} (step : S → Y → Ctl S S) : S → List Y → Ctl S T
  | s, [] => .go s
  | s, y :: ys => match step s y with
    | .go s' => loop step s' ys
    | .brk s' => .go s'
    | .ret r => .ret r
def bndX {α S T : Type} (r : Except Exn α) (k : α → Ctl S T) : Ctl S T := match r with
  | .ok v => k v
  | .error e => .ret (.x e)

def ExIs (K : PySem.W.Frag) (G H : Hp) (e : Exn) (cls : Value) (d : Option Addr) : Prop := PySem.W.nsIn K mainGlobals e.cls = some (some cls) ∧ (e.fs ≠ [] → ∃ a vs, d = some a ∧ H a = some (.xd vs) ∧ IsFs K G vs e.fs)
def PostR (K : PySem.W.Frag) (F G0 : Hp) (E : XK) (rt : VK) : Res → Prop
  | .v x => ∀ v G' H', Grow G0 F G' H' → Is K G' v x → rt v H'
  | .o o => ∀ p u G' H', Grow G0 F G' H' → H' p = some u → G' p = none → F p = none → OwnIs K G' o u → rt (.ref p) H'
  | .x e => ∀ cls d G' H', Grow G0 F G' H' → ExIs K G' H' e cls d → E cls d H'
def PostC {S T : Type} (K : PySem.W.Frag) (F G0 G : Hp) (E : XK) (D : Ends) (Γs : S → List B) (Γb : T → List B) : Ctl S T → Prop
  | .go s => ∀ σ' G' H', Ex G G' → Stt K F (Γs s) σ' G' H' → Grow G0 F G' H' → D.nx σ' H'
  | .brk b => ∀ σ' G' H', Ex G G' → Stt K F (Γb b) σ' G' H' → Grow G0 F G' H' → D.bk σ' H'
  | .ret r => PostR K F G0 E D.rt r
theorem PostC.up {S T : Type} {K : PySem.W.Frag} {F G0 G G1 : Hp} {E : XK} {D : Ends} {Γs : S → List B} {Γb : T → List B} {k : Ctl S T} (h : PostC K F G0 G E D Γs Γb k) (e : Ex G G1) : PostC K F G0 G1 E D Γs Γb k := by
  cases k with
  | go s => exact fun σ' G' H' e' => h σ' G' H' (e.trans e')
  | brk s => exact fun σ' G' H' e' => h σ' G' H' (e.trans e')
  | ret r => exact h
def BlkD {S T : Type} (K : PySem.W.Frag) (E : XK) (Γ : List B) (w : TS) (Γs : S → List B) (Γb : T → List B) (k : Ctl S T) : Prop :=
  ∀ F G0 σ G H (D : Ends), Stt K F Γ σ G H → Grow G0 F G H → PostC K F G0 G E D Γs Γb k → w D σ H
abbrev BK {S T : Type} (X : Cx) (E : XK) (Γ : List B) (sts : List Stmt) (Γs : S → List B) (Γb : T → List B) (k : Ctl S T) : Prop := BlkD X.K E Γ (wS X sts) Γs Γb k

/-- what a def's body may lean on -/
structure XOk (lv : Nat) (N : List Str) (sc : Scope) (X : Cx) (E : XK) : Prop where
  calm : X.calm = true
  pown : PassesOwn (model X.prog X.w) X.A X.env X.xe
  takes : Takes X (fun cls d _ H => E cls d H)
  room : Room lv X.A
  fn : ∀ x, X.fn x = true
  hN : X.N = N
  hsc : X.env.scope = sc
  nd : X.N.Nodup
  kd : X.env.scope.kind = .function
section
variable {lv : Nat} {N : List Str} {sc : Scope} {X : Cx} {E : XK}
theorem XOk.nm (h : XOk lv N sc X E) {i : Nat} {x : Str} (e : N[i]? = some x) : X.N[i]? = some x := by rw [h.hN]; exact e
theorem XOk.lk (h : XOk lv N sc X E) {x : Str} {k : NameKind} (e : sc.names.lookup x = some k) : X.env.scope.names.lookup x = some k := by rw [h.hsc]; exact e
theorem XOk.lc (h : XOk lv N sc X E) {x : Str} (e : Loc sc x) : Loc X.env.scope x := by rw [h.hsc]; exact e
theorem XOk.vs (h : XOk lv N sc X E) {x : Str} (e : Vis sc x) : Vis X.env.scope x := by rw [h.hsc]; exact e
theorem XOk.gl (h : XOk lv N sc X E) {x : Str} (e : sc.names.lookup x = some .globalImplicit) : Gl X x := by
  show X.env.scope.names.lookup x = some .globalImplicit
  rw [h.hsc]
  exact e
end
theorem loc_l {sc : Scope} {x : Str} (h : sc.names.lookup x = some .local) : Loc sc x := .inl h
theorem loc_c {sc : Scope} {x : Str} (h : sc.names.lookup x = some .cell) : Loc sc x := .inr h
theorem vis_l {sc : Scope} {x : Str} (h : sc.names.lookup x = some .local) : Vis sc x := .inl h
theorem vis_c {sc : Scope} {x : Str} (h : sc.names.lookup x = some .cell) : Vis sc x := .inr (.inl h)
theorem vis_f {sc : Scope} {x : Str} (h : sc.names.lookup x = some .free) : Vis sc x := .inr (.inr h)

section
variable {X : Cx} {E : XK} {Γ : List B} {S T : Type} {Γs : S → List B} {Γb : T → List B} {st : Stmt} {rest : List Stmt} {pos : Pos}
theorem w_cons {t : TS} {D : Ends} {σ : L2.St} {H : Hp} (h : PS X st t) (k : t { D with nx := wS X rest D } σ H) : wS X (st :: rest) D σ H := ⟨fun pins s I => (pss_cons h pss_w).run pins s σ H D I k⟩
theorem w_nil {D : Ends} {σ : L2.St} {H : Hp} (k : D.nx σ H) : wS X [] D σ H := ⟨fun pins s I => (pss_nil (X := X)).run pins s σ H D I k⟩

/-! ### weaker slots -/
inductive Wk : List B → List B → Prop
  | nil : Wk [] []
  | keep {b : B} {Γ Γ' : List B} : Wk Γ Γ' → Wk (b :: Γ) (b :: Γ')
  | drop {b : B} {Γ Γ' : List B} : Wk Γ Γ' → Wk (b :: Γ) (.un :: Γ')
theorem Wk.refl : ∀ Γ : List B, Wk Γ Γ
  | [] => .nil
  | _ :: Γ => .keep (Wk.refl Γ)
theorem Wk.len {Γ Γ' : List B} (h : Wk Γ Γ') : Γ.length = Γ'.length := by
  induction h with
  | nil => rfl
  | keep _ ih => exact congrArg (· + 1) ih
  | drop _ ih => exact congrArg (· + 1) ih
theorem Wk.get {Γ Γ' : List B} (h : Wk Γ Γ') : ∀ {i : Nat} {b : B}, Γ'[i]? = some b → b ≠ .un → Γ[i]? = some b := by
  induction h with
  | nil => intro i b e _; exact e
  | keep _ ih =>
    intro i b e n
    cases i with
    | zero => exact e
    | succ i => exact ih (by simpa using e) n
  | drop _ ih =>
    intro i b e n
    cases i with
    | zero =>
      simp at e
      exact absurd e.symm n
    | succ i => exact ih (by simpa using e) n
theorem Stt.wk {K : PySem.W.Frag} {F : Hp} {Γ Γ' : List B} {σ : L2.St} {G H : Hp} (s : Stt K F Γ σ G H) (w : Wk Γ Γ') : Stt K F Γ' σ G H :=
  ⟨s.len.trans w.len, s.sub, fun i x e => s.dat i x (w.get e (by simp)), fun i o e => s.own i o (w.get e (by simp)), fun i j p o o' e1 e2 => s.sep i j p o o' (w.get e1 (by simp)) (w.get e2 (by simp))⟩

/-- the end of a block -/
theorem b_nil {s : S} (h : Wk Γ (Γs s)) : BK X E Γ [] Γs Γb (.go s) := fun F G0 σ G H D st gr post => w_nil (post σ G H (Evl.Ex.refl _) (st.wk h) gr)
/-- slots forgotten -/
theorem b_wk {Γ' : List B} {sts : List Stmt} {k : Ctl S T} (w : Wk Γ Γ') (h : BK X E Γ' sts Γs Γb k) : BK X E Γ sts Γs Γb k := fun F G0 σ G H D st gr post => h F G0 σ G H D (st.wk w) gr post
/-- one's own list stays from here on -/
theorem b_frz (i : Nat) {ds : List D} {sts : List Stmt} {k : Ctl S T} (e : Γ[i]? = some (B.own (.lst ds))) (h : BK X E (Γ.set i (.d (.lst ds))) sts Γs Γb k) : BK X E Γ sts Γs Γb k := fun F G0 σ G H D st gr post => by
  obtain ⟨p, vs, h1, h2, h3, h4, s'⟩ := st.frzL e
  have g1 : Ex G (upd G p (.lst vs)) := Evl.Ex.new h3
  exact h F G0 σ _ H D s' (gr.frz h4 h2 h3) (post.up g1)

/-! ### stores -/
theorem b_setP {τ : Type} {te : TE} {i : Nat} (enc : τ → D) {x : τ} {k : τ → Ctl S T} (hp : PS X st (tAsg te (gName i))) (he : EvD X.K Γ te (enc x)) (hr : ∀ v, v = x → BK X E (Γ.set i (.d (enc v))) rest Γs Γb (k v)) : BK X E Γ (st :: rest) Γs Γb (bnd x k) := fun F G0 σ G H D s gr post =>
  w_cons hp (he F σ G H s _ fun v G1 H1 g1 i1 => hr x rfl F G0 _ G1 H1 D ((s.grow g1).set i i1) (gr.trans g1) (post.up g1.g))
theorem b_setPO {τ : Type} {te : TE} {i : Nat} (enc : τ → OO) {x : τ} {k : τ → Ctl S T} (hp : PS X st (tAsg te (gName i))) (he : EvO X.K Γ te (enc x)) (hr : ∀ v, v = x → BK X E (Γ.set i (.own (enc v))) rest Γs Γb (k v)) : BK X E Γ (st :: rest) Γs Γb (bnd x k) := fun F G0 σ G H D s gr post =>
  w_cons hp (he F σ G H s _ fun p u G1 H1 g1 hp n hn ho => hr x rfl F G0 _ G1 H1 D ((s.grow g1).setO i hp n (Evl.fresh_back gr.h hn) ho fun j o' _ e z => s.fresh hn e z) (gr.trans g1) (post.up g1.g))
variable {lv : Nat} {N : List Str} {sc : Scope} {y : Str} {py : Pos} {e : Expr}
theorem b_set {τ : Type} (i : Nat) (enc : τ → D) {x : τ} {k : τ → Ctl S T} (hX : XOk lv N sc X E) (hn : N[i]? = some y) (hl : Loc sc y) (he : ED X Γ e (enc x)) (hr : ∀ v, v = x → BK X E (Γ.set i (.d (enc v))) rest Γs Γb (k v)) (hs : swapsWith e (some (.Name y py)) pos.line X.env = pure false := by exact sw_ns rfl) :
    BK X E Γ (.Assign [.Name y py] e pos :: rest) Γs Γb (bnd x k) := b_setP enc (ps_set hX.nd (hX.nm hn) (hX.lc hl) pe_w hs (.inl (hX.fn y))) he hr
theorem b_setO {τ : Type} (i : Nat) (enc : τ → OO) {x : τ} {k : τ → Ctl S T} (hX : XOk lv N sc X E) (hn : N[i]? = some y) (hl : Loc sc y) (he : EO X Γ e (enc x)) (hr : ∀ v, v = x → BK X E (Γ.set i (.own (enc v))) rest Γs Γb (k v)) (hs : swapsWith e (some (.Name y py)) pos.line X.env = pure false := by exact sw_ns rfl) :
    BK X E Γ (.Assign [.Name y py] e pos :: rest) Γs Γb (bnd x k) := b_setPO enc (ps_set hX.nd (hX.nm hn) (hX.lc hl) pe_w hs (.inl (hX.fn y))) he hr
/-- y = [.. for ..] on one row, y a plain local -/
theorem b_setLc {τ : Type} (i : Nat) (enc : τ → OO) {x : τ} {k : τ → Ctl S T} {elt tg iter : Expr} {ifs : List Expr} {scope : Scope} {own : List (Str × Nat)} {cpos : Pos} (hX : XOk lv N sc X E) (hn : N[i]? = some y) (hl : sc.names.lookup y = some .local)
    (hsw : swapsWith (.ListComp elt [⟨tg, iter, ifs, 0⟩] scope cpos) (some (.Name y py)) pos.line X.env = pure true) (he : LcOk X Γ elt tg iter ifs scope own (enc x)) (hr : ∀ v, v = x → BK X E (Γ.set i (.own (enc v))) rest Γs Γb (k v)) (hs : ∀ x, foldedSetIterable iter X.env x = pure x := by exact fs_ns rfl) :
    BK X E Γ (.Assign [.Name y py] (.ListComp elt [⟨tg, iter, ifs, 0⟩] scope cpos) pos :: rest) Γs Γb (bnd x k) := by
  obtain ⟨wi, g, tt, te, h1, h2, h3, h4, h5, h6⟩ := he
  exact b_setPO enc (ps_setLc hX.calm hX.nd (hX.nm hn) (hX.lk hl) hsw h1 h2 h3 h4 h5 hs) h6 hr
/-- a, b, .. = a tuple -/
theorem b_setT {τ : Type} (enc : τ → D) {x : τ} {k : τ → Ctl S T} {tg : Expr} {g : TG} {js : List Nat} (Γ' : τ → List B) (hg : PG X tg g) (htg : ∀ v, TgD X.K g js Γ (enc v) (Γ' v)) (he : ED X Γ e (enc x)) (hr : ∀ v, v = x → BK X E (Γ' v) rest Γs Γb (k v))
    (hs : swapsWithSole [tg] e pos.line X.env = pure false := by exact sws_ns rfl) (hw : swappedStores [tg] e X.env = pure none := by exact sst_ns rfl) (h1 : (assignEach [tg] X.env).map (·.2) = [assign tg X.env] := by rfl) : BK X E Γ (.Assign [tg] e pos :: rest) Γs Γb (bnd x k) := fun F G0 σ G H D s gr post =>
  w_cons (ps_asg pe_w hg hs hw h1) (he F σ G H s _ fun v G1 H1 g1 i1 => htg x F σ G1 H1 v (s.grow g1) i1 _ fun ws s' => hr x rfl F G0 _ G1 H1 D s' (gr.trans g1) (post.up g1.g))

/-! ### return -/
theorem b_ret {x : D} (he : ED X Γ e x) : BK X E Γ (.Return (some e) pos :: rest) Γs Γb (.ret (.v x)) := fun F G0 σ G H D s gr post => w_cons (ps_ret pe_w) (he F σ G H s _ fun v G1 H1 g1 i1 => post v G1 H1 (gr.trans g1) i1)
theorem b_retO {o : OO} (he : EO X Γ e o) : BK X E Γ (.Return (some e) pos :: rest) Γs Γb (.ret (.o o)) := fun F G0 σ G H D s gr post => w_cons (ps_ret pe_w) (he F σ G H s _ fun p u G1 H1 g1 hp n hn ho => post p u G1 H1 (gr.trans g1) hp n (Evl.fresh_back gr.h hn) ho)
theorem b_retN : BK X E Γ (.Return none pos :: rest) Γs Γb (.ret (.v .non)) := fun F G0 σ G H D s gr post => w_cons ps_retN (post .non G H gr .non)
/-- one's own thing in a slot goes out -/
theorem b_retV (i : Nat) {o : OO} (hX : XOk lv N sc X E) (hn : N[i]? = some y) (hl : Vis sc y) (h : Γ[i]? = some (B.own o)) (hd : (y == ("__debug__" : Str)) = false := by decide) (hcd : (y == ("__classdict__" : Str)) = false := by decide) : BK X E Γ (.Return (some (.Name y py)) pos :: rest) Γs Γb (.ret (.o o)) := fun F G0 σ G H D s gr post => by
  obtain ⟨p, u, h1, h2, h3, h4, h5⟩ := s.own i o h
  exact w_cons (ps_ret (pe_var (hX.nm hn) (hX.vs hl) hd hcd)) ⟨_, h1, post p u G H gr h2 h3 h4 h5⟩

/-! ### if -/
variable {c : Expr} {b : Bool} {A C : List Stmt}
/-- its body leaves -/
theorem b_ifr {k1 : Ctl Empty T} {k2 : Ctl S T} (hc : ET X Γ c b) (h1 : b = true → BK X E Γ A (fun s : Empty => nomatch s) Γb k1) (h2 : b = false → BK X E Γ rest Γs Γb k2) : BK X E Γ (.If c A [] pos :: rest) Γs Γb (if b = true then k1.up else k2) := fun F G0 σ G H D s gr post =>
  w_cons (ps_if pt_w pss_w pss_nil) (hc F σ G H s _ fun G1 H1 g1 => by
    cases b with
    | true =>
      refine h1 rfl F G0 σ G1 H1 _ (s.grow g1) (gr.trans g1) ?_
      have p := PostC.up post g1.g
      cases k1 with
      | go s => exact nomatch s
      | brk b => exact p
      | ret r => exact p
    | false => exact h2 rfl F G0 σ G1 H1 _ (s.grow g1) (gr.trans g1) (post.up g1.g))
/-- the last statement -/
theorem b_ifl {k1 k2 : Ctl S T} (hc : ET X Γ c b) (h1 : b = true → BK X E Γ A Γs Γb k1) (h2 : b = false → BK X E Γ C Γs Γb k2) : BK X E Γ [.If c A C pos] Γs Γb (if b = true then k1 else k2) := fun F G0 σ G H D s gr post => by
  have nx : ∀ {σ' H'}, D.nx σ' H' → wS X [] D σ' H' := fun h => w_nil h
  have fin : ∀ {k : Ctl S T}, PostC X.K F G0 G E D Γs Γb k → PostC X.K F G0 G E { D with nx := wS X [] D } Γs Γb k := fun {k} h => by
    cases k with
    | go s => exact fun σ' G' H' e st gr => nx (h σ' G' H' e st gr)
    | brk b => exact h
    | ret r => exact h
  exact w_cons (ps_if pt_w pss_w pss_w) (hc F σ G H s _ fun G1 H1 g1 => by
    cases b with
    | true => exact h1 rfl F G0 σ G1 H1 _ (s.grow g1) (gr.trans g1) ((fin post).up g1.g)
    | false => exact h2 rfl F G0 σ G1 H1 _ (s.grow g1) (gr.trans g1) ((fin post).up g1.g))
theorem PostC.bind {S' : Type} {Γj : S' → List B} {K : PySem.W.Frag} {F G0 G : Hp} {D : Ends} {k : Ctl S' T} {kr : S' → Ctl S T} {u : TS} (post : PostC K F G0 G E D Γs Γb (k.bind kr)) (hr : ∀ s', k = .go s' → BlkD K E (Γj s') u Γs Γb (kr s')) : PostC K F G0 G E { D with nx := u D } Γj Γb k := by
  cases k with
  | go s => exact fun σ' G' H' e st gr => hr s rfl F G0 σ' G' H' D st gr (PostC.up post e)
  | brk b => exact post
  | ret r => exact post
/-- a statement, then the rest -/
theorem b_seq {S' : Type} {Γj : S' → List B} {k : Ctl S' T} {kr : S' → Ctl S T} (h : ∀ F G0 σ G H (D : Ends), Stt X.K F Γ σ G H → Grow G0 F G H → PostC X.K F G0 G E D Γj Γb k → ∃ t, PS X st t ∧ t D σ H) (hr : ∀ s', k = .go s' → BK X E (Γj s') rest Γs Γb (kr s')) : BK X E Γ (st :: rest) Γs Γb (k.bind kr) := fun F G0 σ G H D s gr post => by
  obtain ⟨t, h1, h2⟩ := h F G0 σ G H _ s gr (post.bind hr)
  exact w_cons h1 h2
theorem b_ifj {S' : Type} {Γj : S' → List B} {k1 k2 : Ctl S' T} {kr : S' → Ctl S T} (hc : ET X Γ c b) (h1 : b = true → BK X E Γ A Γj Γb k1) (h2 : b = false → BK X E Γ C Γj Γb k2) (hr : ∀ s', (if b = true then k1 else k2) = .go s' → BK X E (Γj s') rest Γs Γb (kr s')) : BK X E Γ (.If c A C pos :: rest) Γs Γb ((if b = true then k1 else k2).bind kr) :=
  b_seq (fun F G0 σ G H D s gr post => ⟨_, ps_if pt_w pss_w pss_w, hc F σ G H s _ fun G1 H1 g1 => by
    cases b with
    | true => exact h1 rfl F G0 σ G1 H1 _ (s.grow g1) (gr.trans g1) (post.up g1.g)
    | false => exact h2 rfl F G0 σ G1 H1 _ (s.grow g1) (gr.trans g1) (post.up g1.g)⟩) hr

/-! ### for -/
theorem loop_drop {Y T : Type} {step : S → Y → Ctl S S} {s : S} {ys : List Y} {i : Nat} {y : Y} (h : ys[i]? = some y) : (loop step s (ys.drop i) : Ctl S T) = match step s y with
    | .go s' => loop step s' (ys.drop (i + 1))
    | .brk s' => .go s'
    | .ret r => .ret r := by
  have e : ys.drop i = y :: ys.drop (i + 1) := by
    obtain ⟨hl, hy⟩ := List.getElem?_eq_some_iff.mp h
    rw [List.drop_eq_getElem_cons hl, hy]
  rw [e]
  rfl
theorem b_for {S' Y : Type} {Γl : S' → List B} {kr : S' → Ctl S T} {tg iter : Expr} {body : List Stmt} {g : TG} {js : List Nat} (Iv : Nat → S' → Prop) (encY : Y → D) (step : S' → Y → Ctl S' S') (s0 : S') (ys : List Y) (Γy : S' → Y → List B) (hX : XOk lv N sc X E)
    (h0 : Wk Γ (Γl s0)) (i0 : Iv 0 s0) (hi : IT X Γ tg iter (ys.map encY)) (hg : PG X tg g) (htg : ∀ s y, TgD X.K g js (Γl s) (encY y) (Γy s y))
    (hb : ∀ i s y, ys[i]? = some y → Iv i s → BK X E (Γy s y) body Γl Γl (step s y)) (hv : ∀ i s y s', ys[i]? = some y → Iv i s → step s y = .go s' → Iv (i + 1) s')
    (hr : ∀ s, (loop step s0 ys : Ctl S' T) = .go s → BK X E (Γl s) rest Γs Γb (kr s)) (hs : ∀ x, foldedSetIterable iter X.env x = pure x := by exact fs_ns rfl) : BK X E Γ (.For tg iter body [] pos :: rest) Γs Γb ((loop step s0 ys).bind kr) := by
  obtain ⟨wi, p1, p2⟩ := hi
  refine b_seq (Γj := Γl) (fun F G0 σ G H D s gr post => ⟨_, ps_for hX.pown hX.calm p1 hg pss_w hs, p2 F σ G H s _ fun J Gd Yv G1 H1 g1 W hGd hY => ?_⟩) hr
  have hlen : (ys.map encY).length = ys.length := List.length_map _
  rw [hlen] at W
  refine for_it (g := g) (tb := wS X body) (D := D) W (fun i σ' H' => ∃ G' s', Ex G1 G' ∧ Iv i s' ∧ Stt X.K F (Γl s') σ' G' H' ∧ Grow G0 F G' H' ∧ PostC X.K F G0 G' E D Γl Γb (loop step s' (ys.drop i))) ?_ (fun i σ' H' _ ⟨G', s', e, _, st, _⟩ => hGd G' H' e st.sub) ?_ ?_
  · exact ⟨G1, s0, Evl.Ex.refl _, i0, (s.grow g1).wk h0, gr.trans g1, post.up g1.g⟩
  · rintro i x σ' H2 H3 hi ⟨G2, s', e2, iv, st, gr2, po⟩ hy
    obtain ⟨G3, xd, hx, gr3, ix⟩ := hY i G2 H2 x H3 e2 st.sub hy
    rw [List.getElem?_map] at hx
    cases hyi : ys[i]? with
    | none =>
      rw [hyi] at hx
      cases hx
    | some y =>
      rw [hyi] at hx
      cases hx
      refine htg s' y F σ' G3 H3 x (st.grow gr3) ix _ fun ws st4 => ?_
      have po3 := po.up gr3.g
      rw [loop_drop hyi] at po3
      have hvy := hv i s' y
      have hby := hb i s' y hyi iv F G0 _ G3 H3 { D with nx := fun σ' H' => ∃ G' s', Ex G1 G' ∧ Iv (i + 1) s' ∧ Stt X.K F (Γl s') σ' G' H' ∧ Grow G0 F G' H' ∧ PostC X.K F G0 G' E D Γl Γb (loop step s' (ys.drop (i + 1))), ct := fun σ' H' => ∃ G' s', Ex G1 G' ∧ Iv (i + 1) s' ∧ Stt X.K F (Γl s') σ' G' H' ∧ Grow G0 F G' H' ∧ PostC X.K F G0 G' E D Γl Γb (loop step s' (ys.drop (i + 1))), bk := D.nx } st4 (gr2.trans gr3)
      refine hby ?_
      cases hst : step s' y with
      | go s2 =>
        rw [hst] at po3
        exact fun σ5 G5 H5 e5 st5 gr5 => ⟨G5, s2, (e2.trans gr3.g).trans e5, hvy s2 hyi iv hst, st5, gr5, PostC.up po3 e5⟩
      | brk s2 =>
        rw [hst] at po3
        exact fun σ5 G5 H5 e5 st5 gr5 => po3 σ5 G5 H5 e5 st5 gr5
      | ret r =>
        rw [hst] at po3
        exact po3
  · rintro σ' H' ⟨G', s', e, iv, st, gr2, po⟩
    rw [List.drop_length] at po
    exact po σ' G' H' (Evl.Ex.refl _) st gr2
end

/-! ### one's own lists change -/
section
variable {X : Cx} {E : XK} {Γ : List B} {S T : Type} {Γs : S → List B} {Γb : T → List B} {rest : List Stmt} {pos : Pos} {lv : Nat} {N : List Str} {sc : Scope} {y : Str} {py : Pos} {e : Expr} {apos cpos : Pos}
/-- y.append(e) -/
theorem b_app {τ : Type} (i : Nat) (enc : τ → D) {xs : List τ} {x : τ} {k : List τ → Ctl S T} (hX : XOk lv N sc X E) (hn : N[i]? = some y) (hl : Vis sc y) (h : Γ[i]? = some (B.own (.lst (xs.map enc)))) (he : ED X Γ e (enc x)) (hz : xs.length < sizeLine)
    (hr : ∀ zs, zs = xs ++ [x] → BK X E (Γ.set i (.own (.lst (zs.map enc)))) rest Γs Γb (k zs))
    (hs : swapsWith (.Call (.Attribute (.Name y py) "append" apos) [e] [] cpos) none pos.line X.env = pure false := by exact sw_ns rfl)
    (hbase : attributeBase (.Name y py) "append" X.env (eval (.Name y py) X.env) = eval (.Name y py) X.env := by exact ab_ns rfl) (hline : (apos.endLine == cpos.line) = true := by rfl)
    (hfew : ((backTo cpos (starEach (e :: []) X.env)).all (fun x => !x.1) && (backToKw cpos (keywordEach [] X.env)).all (fun x => x.1.isSome) && decide ((e :: ([] : List Expr)).length + ([] : List Keyword).length + (if ([] : List Keyword).isEmpty then 0 else 1) < 30)) = true := by exact few_ok rfl)
    (hst : starEach (e :: []) X.env = (false, eval e X.env) :: starEach [] X.env := by exact starEach_ns rfl) (hplain : (backTo cpos (starEach [] X.env)).any (·.1) = false := by exact plain_ok rfl) (hd : (y == ("__debug__" : Str)) = false := by decide) (hcd : (y == ("__classdict__" : Str)) = false := by decide) :
    BK X E Γ (.Expr (.Call (.Attribute (.Name y py) "append" apos) [e] [] cpos) pos :: rest) Γs Γb (bnd (xs ++ [x]) k) := fun F G0 σ G H D s gr post => by
  obtain ⟨p, u, h1, h2, h3, h4, h5⟩ := s.own i _ h
  obtain ⟨vs, rfl, iv⟩ := h5.lst
  refine w_cons (ps_expr (pe_bm PySem.F.plainAttrs_list PySem.F.slot_list_append PySem.F.type_list_append mt_append (pe_var (hX.nm hn) (hX.vs hl) hd hcd) (pa_cons pe_w pa_nil hst) hbase hfew hline hst hplain) hs) ?_
  refine ⟨_, h1, .inl ⟨rfl, vs, .inl (.inl h2)⟩, he F σ G H s _ fun v G1 H1 g1 i1 => ?_⟩
  have s1 := s.grow g1
  have nG : G1 p = none := g1.f p _ h2 h3
  refine ⟨p, vs, v, rfl, rfl, g1.h _ _ h2, by rw [iv.len, List.length_map]; exact hz, ?_⟩
  have s2 := s1.mut (u := .lst (vs ++ [v])) (o' := .lst ((xs ++ [x]).map enc)) h h1 (by
    show IsAll _ _ _ _
    rw [List.map_append]
    exact (iv.up g1.g).app (.cons i1 .nil))
  have g2 := gr.trans g1
  refine hr (xs ++ [x]) rfl F G0 σ G1 _ D s2 ⟨g2.g, fun b o eo => ?_, s2.sub, g2.f⟩ (post.up g1.g)
  rw [upd_ne (ne_of_none eo h4)]
  exact g2.h b o eo
end

/-! ### defs -/
def spF (K : PySem.W.Frag) {A : Type} (enc : A → List D) (pre : A → Prop) (res : A → Res) : Sp := fun vs H Q E => ∃ (a : A) (G : Hp), Ex G H ∧ IsAll K G vs (enc a) ∧ pre a ∧ PostR K H G E Q (res a)
theorem len_map_app {α β : Type} (xs : List α) (f : α → β) (n : Nat) (b : β) : (xs.map f ++ List.replicate n b).length = xs.length + n := by simp
theorem stt_start {K : PySem.W.Frag} {vs : List V} {ds : List D} {G H : Hp} {N : List Str} (h : IsAll K G vs ds) (ex : Ex G H) : Stt K H (ds.map B.d ++ List.replicate (N.length - ds.length) B.un) (L2.start N vs) G H := by
  have hl := h.len
  have get : ∀ {i : Nat} {b : B}, (ds.map B.d ++ List.replicate (N.length - ds.length) B.un)[i]? = some b → b ≠ .un → ∃ d, b = .d d ∧ ds[i]? = some d := fun {i b} e n => by
    by_cases hi : i < ds.length
    · rw [List.getElem?_append_left (by simpa using hi), List.getElem?_map] at e
      cases hd : ds[i]? with
      | none =>
        rw [hd] at e
        cases e
      | some d =>
        rw [hd] at e
        exact ⟨d, (Option.some.inj e).symm, rfl⟩
    · rw [List.getElem?_append_right (by simpa using Nat.le_of_not_lt hi), List.getElem?_replicate] at e
      split at e
      · exact absurd (Option.some.inj e).symm n
      · cases e
  refine ⟨by simp [L2.start, hl], ex, fun i x e => ?_, fun i o e => ?_, fun i j p o o' e _ _ _ => ?_⟩
  · obtain ⟨d, h1, h2⟩ := get e (by simp)
    cases h1
    obtain ⟨v, h3, h4⟩ := h.get h2
    refine ⟨v, ?_, h4⟩
    unfold L2.start
    rw [List.getElem?_append_left (by simpa using (List.getElem?_eq_some_iff.mp h3).1), List.getElem?_map, h3]
    rfl
  · obtain ⟨d, h1, _⟩ := get e (by simp)
    cases h1
  · obtain ⟨d, h1, _⟩ := get e (by simp)
    cases h1
section
variable {P : Program} {w : World} {K : PySem.W.Frag} {mg : Str → Option Value} {base : Heap} {x qual : Str} {st : Stmt} {f : Addr} {fd : FuncData} {N ps : List Str} {lv : Nat} {A : Type} {enc : A → List D} {pre : A → Prop} {res : A → Res}
theorem def_ok (F : Fun K x qual st f fd) (S : FnScope N ps (defScope st)) (hlen : ∀ a, (enc a).length = ps.length)
    (hb : ∀ a, pre a → ∀ (X : Cx) (E : XK), X.prog = P → X.w = w → X.K = K → X.mg = mg → X.base = base → XOk lv N (defScope st) X E →
      BK X E ((enc a).map B.d ++ List.replicate (N.length - (enc a).length) B.un) (defBody st) (fun s : Unit => List.replicate N.length B.un) (fun s : Empty => nomatch s) (Ctl.ret (res a))) : FnOk P w K mg base (L2.CX P w) (lv + 1) f fd ps (spF K enc pre res) := by
  refine F.okX S (fun vs H Q E h => ?_) (fun cdv Ar outer s H vs Q E hr h => ?_)
  · obtain ⟨a, G, _, h2, _⟩ := h
    rw [h2.len, hlen]
  · obtain ⟨a, G, h1, h2, h3, h4⟩ := h
    generalize hX : cxOf (L2.CX P w) P w K mg base N qual (defScope st) f cdv Ar outer s H E = X
    have ok : XOk lv N (defScope st) X E := by
      subst hX
      exact ⟨rfl, passes_of rfl, takes_of rfl rfl rfl rfl, hr, fun _ => rfl, rfl, rfl, S.nd, S.kind⟩
    have b := hb a h3 X E (by subst hX; rfl) (by subst hX; rfl) (by subst hX; rfl) (by subst hX; rfl) (by subst hX; rfl) ok
    have hK : X.K = K := by subst hX; rfl
    refine ⟨wS X (defBody st), pss_w, ?_⟩
    refine b H G _ G H _ ?_ (Grow.refl h1) ?_
    · rw [hK]
      exact stt_start h2 h1
    · rw [hK]
      exact h4
/-- a def that falls through -/
theorem def_okN (F : Fun K x qual st f fd) (S : FnScope N ps (defScope st)) (hlen : ∀ a, (enc a).length = ps.length) (k : A → Ctl Unit Empty) (hk : ∀ a, pre a → match k a with | .go _ => res a = .v .non | .brk b => nomatch b | .ret r => res a = r)
    (hb : ∀ a, pre a → ∀ (X : Cx) (E : XK), X.prog = P → X.w = w → X.K = K → X.mg = mg → X.base = base → XOk lv N (defScope st) X E →
      BK X E ((enc a).map B.d ++ List.replicate (N.length - (enc a).length) B.un) (defBody st) (fun s : Unit => List.replicate N.length B.un) (fun s : Empty => nomatch s) (k a)) : FnOk P w K mg base (L2.CX P w) (lv + 1) f fd ps (spF K enc pre res) := by
  refine F.okX S (fun vs H Q E h => ?_) (fun cdv Ar outer s H vs Q E hr h => ?_)
  · obtain ⟨a, G, _, h2, _⟩ := h
    rw [h2.len, hlen]
  · obtain ⟨a, G, h1, h2, h3, h4⟩ := h
    generalize hX : cxOf (L2.CX P w) P w K mg base N qual (defScope st) f cdv Ar outer s H E = X
    have ok : XOk lv N (defScope st) X E := by
      subst hX
      exact ⟨rfl, passes_of rfl, takes_of rfl rfl rfl rfl, hr, fun _ => rfl, rfl, rfl, S.nd, S.kind⟩
    have b := hb a h3 X E (by subst hX; rfl) (by subst hX; rfl) (by subst hX; rfl) (by subst hX; rfl) (by subst hX; rfl) ok
    have hK : X.K = K := by subst hX; rfl
    have hk' := hk a h3
    refine ⟨wS X (defBody st), pss_w, ?_⟩
    refine b H G _ G H _ ?_ (Grow.refl h1) ?_
    · rw [hK]
      exact stt_start h2 h1
    · rw [hK]
      cases hka : k a with
      | go u =>
        rw [hka] at hk'
        have e : res a = .v .non := hk'
        rw [e] at h4
        exact fun σ' G' H' _ _ gr => h4 .non G' H' gr .non
      | brk b => exact nomatch b
      | ret r =>
        rw [hka] at hk'
        have e : res a = r := hk'
        rw [← e]
        exact h4
end

/-! ### calls -/
structure Kn (P : Program) (w : World) (K : PySem.W.Frag) (mg : Str → Option Value) (base : Heap) (x : Str) (lv : Nat) (sp : Sp) : Prop where
  ex : ∃ (f : Addr) (fd : FuncData) (ps : List Str), FnOk P w K mg base (L2.CX P w) lv f fd ps sp ∧ mg x = some (.ref f) ∧ PySem.W.keepIn K (.ref f) = true ∧ Binds K fd ps []
abbrev KnX (X : Cx) (x : Str) (lv : Nat) (sp : Sp) : Prop := Kn X.prog X.w X.K X.mg X.base x lv sp
section
variable {X : Cx} {Γ : List B} {pos p : Pos} {x : Str} {lv : Nat} {A : Type} {enc : A → List D} {pre : A → Prop} {res : A → Res} {e : Expr} {es : List Expr}
theorem ed_call (a : A) {z : D} (hk : KnX X x lv (spF X.K enc pre res)) (hr : Room lv X.A) (hg : Gl X x) (ha : EA X Γ (e :: es) (enc a)) (hp : pre a) (hv : res a = .v z)
    (hdb : (x == ("__debug__" : Str)) = false := by decide) (he : starEach (e :: es) X.env = (false, eval e X.env) :: starEach es X.env := by exact starEach_ns rfl) (hpl : (backTo pos (starEach es X.env)).any (·.1) = false := by exact plain_ok rfl) : ED X Γ (.Call (.Name x p) (e :: es) [] pos) z := by
  obtain ⟨f, fd, ps, h1, h2, h3, h4⟩ := hk.ex
  refine ed_of (pe_call h1 hr hg h2 h3 h4 .nil passL pa_w hdb he hpl) fun F σ G H s Q q => ha F σ G H s _ fun vs G1 H1 g1 i1 => ?_
  rw [List.append_nil]
  refine ⟨a, G1, g1.s, i1, hp, ?_⟩
  rw [hv]
  exact fun v G2 H2 g2 i2 => q v G2 H2 (g1.trans g2) i2
theorem eo_call (a : A) {z : OO} (hk : KnX X x lv (spF X.K enc pre res)) (hr : Room lv X.A) (hg : Gl X x) (ha : EA X Γ (e :: es) (enc a)) (hp : pre a) (hv : res a = .o z)
    (hdb : (x == ("__debug__" : Str)) = false := by decide) (he : starEach (e :: es) X.env = (false, eval e X.env) :: starEach es X.env := by exact starEach_ns rfl) (hpl : (backTo pos (starEach es X.env)).any (·.1) = false := by exact plain_ok rfl) : EO X Γ (.Call (.Name x p) (e :: es) [] pos) z := by
  obtain ⟨f, fd, ps, h1, h2, h3, h4⟩ := hk.ex
  refine eo_of (pe_call h1 hr hg h2 h3 h4 .nil passL pa_w hdb he hpl) fun F σ G H s Q q => ha F σ G H s _ fun vs G1 H1 g1 i1 => ?_
  rw [List.append_nil]
  refine ⟨a, G1, g1.s, i1, hp, ?_⟩
  rw [hv]
  exact fun p u G2 H2 g2 hp n hn ho => q p u G2 H2 (g1.trans g2) hp n (Evl.fresh_back g1.h hn) ho
end
end Sd

namespace Sd
open PySem PySem.Spec PyProof.Rows L2

/-! ### total readings -/
def ix {α : Type} (xs : List α) (i : Int) (d : α) : α := (atI xs i).getD d
theorem atI_some {α : Type} {xs : List α} {i : Int} (h : -(xs.length : Int) ≤ i ∧ i < xs.length) : ∃ y, atI xs i = some y := by
  unfold atI ixN
  by_cases h0 : 0 ≤ i
  · rw [if_pos h0, if_pos h.2]
    exact ⟨xs[i.toNat]'(by omega), by show xs[i.toNat]? = _; rw [List.getElem?_eq_getElem]⟩
  · rw [if_neg h0, if_pos h.1]
    exact ⟨xs[(i + xs.length).toNat]'(by omega), by show xs[(i + xs.length).toNat]? = _; rw [List.getElem?_eq_getElem]⟩
theorem ix_ok {α : Type} {xs : List α} {i : Int} {d : α} (h : -(xs.length : Int) ≤ i ∧ i < xs.length) : atI xs i = some (ix xs i d) := by
  obtain ⟨y, e⟩ := atI_some h
  unfold ix
  rw [e]
  rfl
theorem ix_nat {α : Type} (xs : List α) (i : Nat) (d : α) : ix xs (i : Int) d = xs.getD i d := by
  unfold ix atI ixN
  by_cases h : i < xs.length
  · rw [if_pos (by omega), if_pos (by omega)]
    show (xs[(i : Int).toNat]?).getD d = _
    simp
  · rw [if_pos (by omega), if_neg (by omega)]
    show d = _
    rw [List.getD_eq_getElem?_getD, List.getElem?_eq_none (by omega)]
    rfl
def splitS (l m : List Nat) : List (List Nat) := (Txt.split (S l) (S m)).map fun z => z.cps.toList
def joinS (l : List Nat) (ls : List (List Nat)) : List Nat := (Txt.join (S l) (ls.map S)).cps.toList
def enumI {α : Type} (xs : List α) : List (Int × α) := xs.zipIdx.map fun z => ((z.2 : Int), z.1)

/-! ### within a comprehension's block -/
section
variable {lv : Nat} {N : List Str} {sc : Scope} {X : Cx} {E : XK} {scope : Scope} {s : Shared} {H : Hp} {C : Addr} {cl : List (Str × Addr)} {fp : List Addr} {x : Str}
theorem blk_lk (hX : XOk lv N sc X E) {k : NameKind} (h : (relS scope sc).names.lookup x = some k) : (blkX X scope s H C cl fp).env.scope.names.lookup x = some k := by
  show (relS scope X.env.scope).names.lookup x = some k
  rw [hX.hsc]
  exact h
theorem blk_vs (hX : XOk lv N sc X E) (h : Vis (relS scope sc) x) : Vis (blkX X scope s H C cl fp).env.scope x := by
  show Vis (relS scope X.env.scope) x
  rw [hX.hsc]
  exact h
theorem blk_lc (hX : XOk lv N sc X E) (h : Loc (relS scope sc) x) : Loc (blkX X scope s H C cl fp).env.scope x := by
  show Loc (relS scope X.env.scope) x
  rw [hX.hsc]
  exact h
theorem blk_gl (hX : XOk lv N sc X E) (h : (relS scope sc).names.lookup x = some .globalImplicit) : Gl (blkX X scope s H C cl fp) x := blk_lk hX h
theorem blk_ok (hX : XOk lv N sc X E) {own : List (Str × Nat)} (h : blkC N sc scope own = true) : BlkOk X.N X.env.scope scope own := by
  rw [hX.hN, hX.hsc]
  exact blkOk_by h
theorem sw_yes (hX : XOk lv N sc X E) {elt : Expr} {gs : List Comprehension} {pos py : Pos} {l : Nat} (hy : sc.names.lookup x = some .local) (ha : ((py.line == pos.line) && !(scope.names.any fun (n, k) => n == x && (k == .local || k == .cell))) = true) : swapsWith (.ListComp elt gs scope pos) (some (.Name x py)) l X.env = pure true := by
  rw [Bool.and_eq_true, Bool.not_eq_true'] at ha
  exact sw_true hX.kd (hX.lk hy) ha.1 ha.2
theorem sw_no (hX : XOk lv N sc X E) {elt : Expr} {gs : List Comprehension} {pos py : Pos} {l : Nat} (hy : sc.names.lookup x = some .cell) : swapsWith (.ListComp elt gs scope pos) (some (.Name x py)) l X.env = pure false := by
  have ky : X.env.kindOf x = some .cell := hX.lk hy
  have hb : X.env.blockKind = .function := by unfold Env.blockKind; rw [hX.kd]; rfl
  unfold swapsWith
  simp only [hb, ky]
  rfl
end

/-! ### lists by their Lean lists -/
section
variable {X : Cx} {Γ : List B} {pos p : Pos} {a b : Expr} {τ υ : Type} {enc : τ → D} {enc' : υ → D} {xs ys : List τ} {zs : List υ}
theorem eo_catM (ha : EL X Γ a (xs.map enc)) (hb : EL X Γ b (ys.map enc)) (hl : xs.length + ys.length ≤ sizeLine) : EO X Γ (.BinOp a .Add b pos) (.lst ((xs ++ ys).map enc)) := by
  rw [List.map_append]
  exact eo_cat ha hb (by rw [List.length_map, List.length_map]; exact hl)
theorem map_rep (f : τ → υ) (xs : List τ) (n : Nat) : (List.replicate n xs).flatten.map f = (List.replicate n (xs.map f)).flatten := by
  rw [List.map_flatten, List.map_replicate]
theorem eo_repM {k : Int} (ha : EL X Γ a (xs.map enc)) (hb : ED X Γ b (.int k)) (h1 : -(2 ^ 63) ≤ k ∧ k < 2 ^ 63) (hl : xs.length * k.toNat ≤ sizeLine) : EO X Γ (.BinOp a .Mult b pos) (.lst ((List.replicate k.toNat xs).flatten.map enc)) := by
  rw [map_rep]
  exact eo_rep ha hb h1 (by rw [List.length_map]; exact hl)
theorem eo_slM {lo hi : Option Expr} {i j : Option Int} {p2 : Pos} (ha : EL X Γ a (xs.map enc)) (hl : EPo X Γ lo i) (hu : EPo X Γ hi j) : EO X Γ (.Subscript a (.Slice lo hi none p2) pos) (.lst ((cutL xs i j).map enc)) := by
  rw [← cutL_map]
  exact eo_slL ha hl hu
theorem ed_lenM (hg : Gl X "len") (hm : X.mg "len" = none) (ha : EL X Γ a (xs.map enc)) (he : starEach [a] X.env = (false, eval a X.env) :: starEach [] X.env := by exact starEach_ns rfl) (hpl : (backTo pos (starEach [] X.env)).any (·.1) = false := by exact plain_ok rfl) : ED X Γ (.Call (.Name "len" p) [a] [] pos) (.int xs.length) := by
  have h := ed_lenL (p := p) (pos := pos) hg hm ha he hpl
  rw [List.length_map] at h
  exact h
theorem it_zipM {elts : List Expr} {kk : Nat} {tpos : Pos} (hg : Gl X "zip") (hm : X.mg "zip" = none) (ha : ED X Γ a (.lst (xs.map enc))) (hb : ED X Γ b (.lst (zs.map enc'))) (hs : starEach [a, b] X.env = (false, eval a X.env) :: starEach [b] X.env := by exact starEach_ns rfl) (hs2 : starEach [b] X.env = (false, eval b X.env) :: starEach [] X.env := by exact starEach_ns rfl) (hpl : (backTo pos (starEach [b] X.env)).any (·.1) = false := by exact plain_ok rfl) :
    IT X Γ (.Tuple elts kk tpos) (.Call (.Name "zip" p) [a, b] [] pos) ((xs.zip zs).map fun z => .tup [enc z.1, enc' z.2]) := by
  have h := it_zip (elts := elts) (kk := kk) (tpos := tpos) (p := p) (pos := pos) hg hm ha hb hs hs2 hpl
  rw [List.zip_map, List.map_map] at h
  exact h
theorem it_enumM {elts : List Expr} {kk : Nat} {tpos : Pos} (hg : Gl X "enumerate") (hm : X.mg "enumerate" = none) (ha : ED X Γ a (.lst (xs.map enc))) (hs : starEach [a] X.env = [(false, eval a X.env)] := by exact starEach_ns rfl) :
    IT X Γ (.Tuple elts kk tpos) (.Call (.Name "enumerate" p) [a] [] pos) ((enumI xs).map fun z => .tup [.int z.1, enc z.2]) := by
  have h := it_enum (elts := elts) (kk := kk) (tpos := tpos) (p := p) (pos := pos) hg hm ha hs
  have e : ((enumI xs).map fun z => D.tup [.int z.1, enc z.2]) = ((xs.map enc).zipIdx.map fun z => D.tup [.int (z.2 : Int), z.1]) := by
    unfold enumI
    rw [List.map_map, List.zipIdx_map, List.map_map]
    rfl
  rw [e]
  exact h
end

/-! ### one's own list as data, where the answer is flat -/
def flatD : D → Bool
  | .non => true | .bl _ => true | .int _ => true | .str _ => true | _ => false
theorem Is.flat {K : PySem.W.Frag} {G G' : Hp} {v : V} {d : D} (h : Is K G v d) (f : flatD d = true) : Is K G' v d := by
  cases h with
  | non => exact .non
  | bl b => exact .bl b
  | int i => exact .int i
  | str l => exact .str l
  | _ => cases f
theorem Grow.lend {G H G' H' : Hp} {p : Addr} {u : HO} (g : Grow (upd G p u) H G' H') (n : G p = none) : Grow G H (fun b => if b = p then none else G' b) H' := by
  refine ⟨fun b o e => ?_, g.h, fun b o e => ?_, fun b o e m => ?_⟩
  · have hb : b ≠ p := ne_of_none e n
    show (if b = p then none else G' b) = some o
    rw [if_neg hb]
    exact g.g b o (by rw [upd_ne hb]; exact e)
  · have e' : (if b = p then none else G' b) = some o := e
    by_cases hb : b = p
    · rw [if_pos hb] at e'
      cases e'
    · rw [if_neg hb] at e'
      exact g.s b o e'
  · show (if b = p then none else G' b) = none
    by_cases hb : b = p
    · rw [if_pos hb]
    · rw [if_neg hb]
      exact g.f b o e (by rw [upd_ne hb]; exact m)
section
variable {K : PySem.W.Frag} {X : Cx} {Γ : List B} {e : Expr} {ds : List D} {x : D} {b : Bool}
theorem ed_lend (i : Nat) (h : Γ[i]? = some (B.own (.lst ds))) (hf : flatD x = true) (he : ED X (Γ.set i (.d (.lst ds))) e x) : ED X Γ e x := fun F σ G H s Q q => by
  obtain ⟨p, vs, h1, h2, h3, h4, s'⟩ := s.frzL h
  exact he F σ _ H s' Q fun v G' H' g i => q v _ H' (g.lend h3) (i.flat hf)
theorem et_lend (i : Nat) (h : Γ[i]? = some (B.own (.lst ds))) (he : ET X (Γ.set i (.d (.lst ds))) e b) : ET X Γ e b := fun F σ G H s Q q => by
  obtain ⟨p, vs, h1, h2, h3, h4, s'⟩ := s.frzL h
  exact he F σ _ H s' Q fun G' H' g => q _ H' (g.lend h3)
end

/-! ### isinstance of anything -/
def isiD (n : String) (d : D) : Bool := ((tyD d).bind fun t => kitB t n).getD false
section
variable {X : Cx} {Γ : List B} {pos p : Pos} {a b : Expr} {x : D}
theorem ed_isiD {n : String} {r : Bool} (hg : Gl X "isinstance") (hm : X.mg "isinstance" = none) (ha : ED X Γ a x) (hb : ED X Γ b (.ty n)) (hk : (tyD x).bind (fun t => kitB t n) = some r) (he : starEach [a, b] X.env = (false, eval a X.env) :: starEach [b] X.env := by exact starEach_ns rfl) (he2 : starEach [b] X.env = (false, eval b X.env) :: starEach [] X.env := by exact starEach_ns rfl)
    (hpl : (backTo pos (starEach [b] X.env)).any (·.1) = false := by exact plain_ok rfl) : ED X Γ (.Call (.Name "isinstance" p) [a, b] [] pos) (.bl r) := by
  cases ht : tyD x with
  | none =>
    rw [ht] at hk
    cases hk
  | some t =>
    rw [ht] at hk
    exact ed_isi hg hm ha hb ht hk he he2 hpl
end
section
variable {X : Cx} {Γ : List B} {pos : Pos} {a b : Expr}
/-- 1 << k -/
theorem od_shlW (k : Nat) (j : Int) (h : k ≤ 134217727) (e : j = (k : Int)) : OpD X (binaryOp .LShift) (.int 1) (.int j) (.int (2 ^ k)) := by
  rw [e]
  exact od_shl1 k h
end

def B16 : Int := 2 ^ 16000
theorem od_andB {X : Cx} (i : Int) : OpD X (binaryOp .BitAnd) (.int i) (.int ((2 : Int) ^ 16000 - 1)) (.int (i % B16)) := od_andM i _ 16000 rfl
/-! ### xs[i] = e of one's own list -/
section
variable {X : Cx} {E : XK} {Γ : List B} {S T : Type} {Γs : S → List B} {Γb : T → List B} {rest : List Stmt} {pos spos : Pos} {lv : Nat} {N : List Str} {sc : Scope} {y : Str} {py : Pos} {e ie : Expr}
theorem sst_sub {a b e : Expr} {p : Pos} {env : Env} : swappedStores [.Subscript a b p] e env = pure none := by
  unfold swappedStores
  cases e <;> rfl
theorem b_setI {τ : Type} (i : Nat) (enc : τ → D) {xs : List τ} {x : τ} {n : Nat} {k : List τ → Ctl S T} (hX : XOk lv N sc X E) (hn : N[i]? = some y) (hl : Vis sc y) (h : Γ[i]? = some (B.own (.lst (xs.map enc)))) (he : ED X Γ e (enc x)) (hi : ED X Γ ie (.int (n : Int))) (hz : n < xs.length)
    (hr : ∀ zs, zs = xs.set n x → BK X E (Γ.set i (.own (.lst (zs.map enc)))) rest Γs Γb (k zs)) (hst : PSet X rSetL := by exact set_list)
    (hs : swapsWithSole [.Subscript (.Name y py) ie spos] e pos.line X.env = pure false := by exact sws_ns rfl) (hw : swappedStores [.Subscript (.Name y py) ie spos] e X.env = pure none := by exact sst_sub) (h1 : (assignEach [.Subscript (.Name y py) ie spos] X.env).map (·.2) = [assign (.Subscript (.Name y py) ie spos) X.env] := by rfl)
    (ha : ∀ v, assign (.Subscript (.Name y py) ie spos) X.env v = (do
      let ov ← holding [v] (eval (.Name y py) X.env)
      let iv ← holding [v, ov] (eval ie X.env)
      standAt spos
      holding [v, ov, iv] (setItem ov iv v)
      release [v, ov, iv] []) := by intro _; rfl) (hd : (y == ("__debug__" : Str)) = false := by decide) (hcd : (y == ("__classdict__" : Str)) = false := by decide) :
    BK X E Γ (.Assign [.Subscript (.Name y py) ie spos] e pos :: rest) Γs Γb (bnd (xs.set n x) k) := fun F G0 σ G H D s gr post => by
  obtain ⟨p, u, k1, k2, k3, k4, k5⟩ := s.own i _ h
  obtain ⟨vs, rfl, iv⟩ := k5.lst
  refine w_cons (ps_asg pe_w (pg_sub (pe_var (hX.nm hn) (hX.vs hl) hd hcd) pe_w hst ha) hs hw h1) ?_
  refine he F σ G H s _ fun v G1 H1 g1 i1 => ⟨_, k1, hi F σ G1 H1 (s.grow g1) _ fun w G2 H2 g2 i2 => ?_⟩
  cases i2
  have g := g1.trans g2
  have s2 := s.grow g
  have hlen : vs.length = xs.length := by rw [iv.len, List.length_map]
  refine ⟨p, vs, (n : Int), n, rfl, rfl, g.h _ _ k2, Evl.ixN_nat (by omega), ?_⟩
  have s3 := s2.mut (u := .lst (vs.set n v)) (o' := .lst ((xs.set n x).map enc)) h k1 (by
    show IsAll _ _ _ _
    rw [List.map_set]
    exact (iv.up g.g).set n (i1.up g2.g))
  have g3 := gr.trans g
  refine hr (xs.set n x) rfl F G0 σ G2 _ D s3 ⟨g3.g, fun b o eo => ?_, s3.sub, g3.f⟩ (post.up g.g)
  rw [upd_ne (ne_of_none eo k4)]
  exact g3.h b o eo
end
theorem wk_un (Γ Γ' : List B) (h : Γ' = List.replicate Γ.length B.un) : Wk Γ Γ' := by
  subst h
  induction Γ with
  | nil => exact .nil
  | cons b Γ ih => exact .drop ih
end Sd
namespace Sd
open PySem L2
/-! what a mirror hands back -/
def outI (c : Ctl Unit Empty) : Int := match c with | .ret (.v (.int i)) => i | _ => 0
def outB (c : Ctl Unit Empty) : Bool := match c with | .ret (.v (.bl b)) => b | _ => false
def outS (c : Ctl Unit Empty) : List Nat := match c with | .ret (.v (.str s)) => s | _ => []
theorem outI_ret (i : Int) : outI (.ret (.v (.int i))) = i := rfl
theorem outB_ret (i : Bool) : outB (.ret (.v (.bl i))) = i := rfl
theorem outS_ret (i : List Nat) : outS (.ret (.v (.str i))) = i := rfl
end Sd
namespace Sd
open PySem L2
theorem atI_mem {α : Type} {xs : List α} {i : Int} {y : α} (h : atI xs i = some y) : y ∈ xs := by
  unfold atI at h
  cases hi : ixN xs.length i with
  | none =>
    rw [hi] at h
    cases h
  | some j =>
    rw [hi] at h
    exact List.mem_of_getElem? (show xs[j]? = some y from h)
theorem ix_mem {α : Type} {xs : List α} {i : Int} (d : α) (h : -(xs.length : Int) ≤ i ∧ i < xs.length) : ix xs i d ∈ xs := atI_mem (ix_ok (d := d) h)
theorem ix_all {α : Type} {P : α → Prop} {xs : List α} {i : Int} {d : α} (hp : ∀ x ∈ xs, P x) (h : -(xs.length : Int) ≤ i ∧ i < xs.length) : P (ix xs i d) := hp _ (ix_mem d h)
end Sd
namespace Sd
open PySem PySem.Spec PyProof.Rows L2
/-! small dicts -/
section
variable {X : Cx} {Γ : List B} {pos : Pos} {k v : Expr} {x : D}
theorem ed_dict0 : ED X Γ (.Dict [] [] pos) (.dct []) := ed_of pe_dnewK fun F σ G H s Q q p hp => q _ _ _ (Grow.new s.sub hp) (.dct upd_same .nil)
theorem ed_dict1 {l : List Nat} (hk : ED X Γ k (.str l)) (hv : ED X Γ v x) : ED X Γ (.Dict [some k] [v] pos) (.dct [(.inr (S l), x)]) :=
  ed_of (pe_disp (pps_cons pe_w pe_w pps_nil) rfl rfl (by simp) (by show 1 ≤ 15; decide)) fun F σ G H s Q q p hp => by
    have g0 : Grow G H G (upd H p (.dK [])) := Grow.lay s.sub hp
    refine hk F σ G _ (s.grow g0) _ fun u G1 H1 g1 i1 => hv F σ G1 H1 ((s.grow g0).grow g1) _ fun w G2 H2 g2 i2 => ?_
    cases i1
    have hp2 : H2 p = some (.dK []) := g2.h _ _ (g1.h _ _ upd_same)
    have n2 : G2 p = none := g2.f p _ (g1.h _ _ upd_same) (g1.f p _ upd_same (Evl.fresh_back s.sub hp))
    refine ⟨hp2, [(.inr (S l), w)], rfl, by show 1 ≤ 15; decide, ?_⟩
    have g := g1.trans g2
    refine q _ (upd G2 p (.dK (mergeK [] [(.inr (S l), w)]))) _ ⟨(g0.g.trans g.g).trans (Evl.Ex.new n2), fun b o e => ?_, fun b o e => ?_, fun b o e n => ?_⟩ (.dct upd_same (.cons (i2.up (Evl.Ex.new n2)) .nil))
    · have hb : b ≠ p := ne_of_none e hp
      rw [upd_ne hb]
      exact g.h b o (by rw [upd_ne hb]; exact e)
    · by_cases hb : b = p
      · subst hb
        rw [upd_same] at e ⊢
        exact e
      · rw [upd_ne hb] at e ⊢
        exact g2.s b o e
    · have hb : b ≠ p := ne_of_none e hp
      rw [upd_ne hb]
      exact g.f b o (by rw [upd_ne hb]; exact e) n
end
/-! anything plain, asked for its kind -/
def plainT (d : D) : Bool := (tyD d).isSome
theorem kit_all : (["NoneType", "bool", "int", "str", "list", "tuple", "dict"].all fun t => ["int", "bool", "str", "list", "tuple", "dict"].all fun n => (kitB t n).isSome) = true := by decide +kernel
theorem isi_ok {d : D} {n : String} (h : plainT d = true) (hn : (["int", "bool", "str", "list", "tuple", "dict"].contains n) = true) : (tyD d).bind (fun t => kitB t n) = some (isiD n d) := by
  unfold isiD
  have key : ∀ t ∈ ["NoneType", "bool", "int", "str", "list", "tuple", "dict"], ∃ r, kitB t n = some r := fun t ht => by
    have q := List.all_eq_true.mp kit_all t ht
    have q2 := List.all_eq_true.mp q n (by simpa using hn)
    exact Option.isSome_iff_exists.mp q2
  cases d with
  | non => obtain ⟨r, e⟩ := key "NoneType" (by simp); simp [tyD, e]
  | bl b => obtain ⟨r, e⟩ := key "bool" (by simp); simp [tyD, e]
  | int i => obtain ⟨r, e⟩ := key "int" (by simp); simp [tyD, e]
  | str l => obtain ⟨r, e⟩ := key "str" (by simp); simp [tyD, e]
  | lst l => obtain ⟨r, e⟩ := key "list" (by simp); simp [tyD, e]
  | tup l => obtain ⟨r, e⟩ := key "tuple" (by simp); simp [tyD, e]
  | dct l => obtain ⟨r, e⟩ := key "dict" (by simp); simp [tyD, e]
  | ty n => cases h
  | ins C l => cases h
  | scr l => cases h
theorem isi_no {d : D} {n : String} (h : plainT d = true) (hn : (["int", "bool", "str", "list", "tuple", "dict"].contains n) = true) (hf : isiD n d = false) : (tyD d).bind (fun t => kitB t n) = some false := by rw [isi_ok h hn, hf]
end Sd

/-! texts parted at a sign and glued -/
namespace Sd
open PySem L2
theorem joinS_eq (l : List Nat) (ls : List (List Nat)) : joinS l ls = TL.joinL l ls := by
  have h := SX.join_S l ls
  unfold joinS
  show (Txt.join (SX.S l) (ls.map SX.S)).cps.toList = _
  rw [h]
def consH (x : Nat) : List (List Nat) → List (List Nat)
  | [] => [[x]]
  | h :: t => (x :: h) :: t
def spC (c : Nat) : List Nat → List (List Nat)
  | [] => [[]]
  | x :: xs => if x = c then [] :: spC c xs else consH x (spC c xs)
theorem spC_ne (c : Nat) (l : List Nat) : spC c l ≠ [] := by
  cases l with
  | nil => simp [spC]
  | cons x xs =>
    unfold spC
    split
    · simp
    · cases spC c xs <;> simp [consH]
theorem spl_one (c : Nat) : ∀ (l acc : List Nat), TL.spl [c] 0 acc l = (match spC c l with | [] => [acc] | h :: t => (acc ++ h) :: t)
  | [], acc => by simp [TL.spl, spC]
  | x :: xs, acc => by
    by_cases h : x = c
    · subst h
      have hp : TL.pre [x] (x :: xs) = true := by simp [TL.pre]
      rw [TL.spl_hit hp]
      show acc :: TL.spl [x] 0 [] xs = _
      rw [spl_one x xs []]
      have e : spC x (x :: xs) = [] :: spC x xs := by
        show (if x = x then _ else _) = _
        rw [if_pos rfl]
      rw [e]
      simp only [List.append_nil, List.nil_append]
      cases hs : spC x xs with
      | nil => exact absurd hs (spC_ne x xs)
      | cons a b => rfl
    · have hp : TL.pre [c] (x :: xs) = false := by simp [TL.pre, h]
      rw [TL.spl_miss hp, spl_one c xs (acc ++ [x])]
      have e : spC c (x :: xs) = consH x (spC c xs) := by
        show (if x = c then _ else _) = _
        rw [if_neg h]
      rw [e]
      cases hs : spC c xs with
      | nil => exact absurd hs (spC_ne c xs)
      | cons a b => simp [consH]
theorem splitS_one {c : Nat} (hc : c < 256) (l : List Nat) : splitS l [c] = spC c l := by
  have h := SX.split_S (a := l) (b := [c]) (by simp) (by simp [hc])
  unfold splitS
  show (Txt.split (SX.S l) (SX.S [c])).map (fun z => z.cps.toList) = _
  rw [h, List.map_map]
  have e : ((fun z : Str => z.cps.toList) ∘ SX.S) = id := by
    funext z
    simp [SX.S]
  rw [e, List.map_id, spl_one]
  cases hs : spC c l with
  | nil => exact absurd hs (spC_ne c l)
  | cons a b => simp
theorem spC_free {c : Nat} : ∀ (l : List Nat) (p : List Nat), p ∈ spC c l → c ∉ p
  | [], p, h => by
    simp [spC] at h
    subst h
    simp
  | x :: xs, p, h => by
    unfold spC at h
    split at h
    · rcases List.mem_cons.mp h with e | h
      · subst e
        simp
      · exact spC_free xs p h
    · rename_i hx
      cases hs : spC c xs with
      | nil => exact absurd hs (spC_ne c xs)
      | cons a b =>
        rw [hs] at h
        have ih : ∀ q ∈ a :: b, c ∉ q := fun q hq => spC_free xs q (by rw [hs]; exact hq)
        rcases List.mem_cons.mp h with e | h
        · subst e
          intro hm
          rcases List.mem_cons.mp hm with e | hm
          · exact hx e.symm
          · exact ih a List.mem_cons_self hm
        · exact ih p (List.mem_cons_of_mem _ h)
theorem spC_no {c : Nat} : ∀ {l : List Nat}, c ∉ l → spC c l = [l]
  | [], _ => rfl
  | x :: xs, h => by
    unfold spC
    rw [if_neg (fun e => h (by rw [e]; exact List.mem_cons_self)), spC_no (fun m => h (List.mem_cons_of_mem _ m))]
    rfl
theorem spC_app {c : Nat} : ∀ {p : List Nat} (q : List Nat), c ∉ p → spC c (p ++ c :: q) = p :: spC c q
  | [], q, _ => by
    show (if c = c then _ else _) = _
    rw [if_pos rfl]
  | x :: xs, q, h => by
    show (if x = c then _ else consH x (spC c (xs ++ c :: q))) = _
    rw [if_neg (fun e => h (by rw [e]; exact List.mem_cons_self)), spC_app q (fun m => h (List.mem_cons_of_mem _ m))]
    rfl
theorem spC_join {c : Nat} : ∀ {ls : List (List Nat)}, ls ≠ [] → (∀ p ∈ ls, c ∉ p) → spC c (TL.joinL [c] ls) = ls
  | [], h, _ => absurd rfl h
  | [p], _, h => spC_no (h p List.mem_cons_self)
  | p :: q :: r, _, h => by
    show spC c (p ++ ([c] ++ TL.joinL [c] (q :: r))) = _
    rw [List.singleton_append, spC_app _ (h p List.mem_cons_self), spC_join (by simp) (fun x hx => h x (List.mem_cons_of_mem _ hx))]
theorem join_spC (c : Nat) : ∀ (l : List Nat), TL.joinL [c] (spC c l) = l
  | [] => rfl
  | x :: xs => by
    have ih := join_spC c xs
    unfold spC
    cases hs : spC c xs with
    | nil => exact absurd hs (spC_ne c xs)
    | cons a b =>
      rw [hs] at ih
      split
      · rename_i e
        show [] ++ ([c] ++ TL.joinL [c] (a :: b)) = _
        rw [ih, e]
        rfl
      · cases b with
        | nil =>
          have ih' : a = xs := ih
          show x :: a = _
          rw [ih']
        | cons b r =>
          show (x :: a) ++ ([c] ++ TL.joinL [c] (b :: r)) = _
          rw [List.cons_append]
          exact congrArg (x :: ·) ih
theorem split_join {c : Nat} (hc : c < 256) {ls : List (List Nat)} (h : ls ≠ []) (hp : ∀ p ∈ ls, c ∉ p) : splitS (joinS [c] ls) [c] = ls := by
  rw [splitS_one hc, joinS_eq, spC_join h hp]
theorem join_split {c : Nat} (hc : c < 256) (l : List Nat) : joinS [c] (splitS l [c]) = l := by
  rw [splitS_one hc, joinS_eq, join_spC]
theorem joinL_nil : ∀ (ls : List (List Nat)), TL.joinL [] ls = ls.flatten
  | [] => rfl
  | [p] => by simp [TL.joinL]
  | p :: q :: r => by
    show p ++ ([] ++ TL.joinL [] (q :: r)) = _
    rw [joinL_nil (q :: r)]
    rfl
theorem joinS_nil (ls : List (List Nat)) : joinS [] ls = ls.flatten := by rw [joinS_eq, joinL_nil]
theorem joinL_len (S : List Nat) : ∀ (ls : List (List Nat)), (TL.joinL S ls).length ≤ (ls.map (·.length)).sum + ls.length * S.length
  | [] => by simp [TL.joinL]
  | [p] => by simp [TL.joinL]
  | p :: q :: r => by
    have ih := joinL_len S (q :: r)
    show (p ++ (S ++ TL.joinL S (q :: r))).length ≤ _
    rw [List.length_append, List.length_append, List.map_cons, List.sum_cons, List.length_cons (as := q :: r)]
    rw [Nat.add_mul]
    omega
theorem sum_le {n : Nat} : ∀ {ls : List (List Nat)}, (∀ x ∈ ls, x.length ≤ n) → (ls.map (·.length)).sum ≤ n * ls.length
  | [], _ => by simp
  | p :: r, h => by
    have ih := sum_le (ls := r) (fun x hx => h x (List.mem_cons_of_mem _ hx))
    have hp := h p List.mem_cons_self
    rw [List.map_cons, List.sum_cons, List.length_cons, Nat.mul_add]
    omega
theorem join_ok {n m k : Nat} {ls : List (List Nat)} {s : List Nat} (h : ∀ x ∈ ls, x.length ≤ n) (hm : ls.length ≤ m) (hs : s.length ≤ k) (hk : n * m + m * k ≤ 16777216) : (ls.map (·.length)).sum + ls.length * s.length ≤ 16777216 := by
  have h1 := sum_le h
  have h2 := Nat.mul_le_mul (Nat.le_refl n) hm
  have h3 := Nat.mul_le_mul hm hs
  omega
theorem joinS_len {n m k : Nat} {ls : List (List Nat)} {s : List Nat} (h : ∀ x ∈ ls, x.length ≤ n) (hm : ls.length ≤ m) (hs : s.length ≤ k) : (joinS s ls).length ≤ n * m + m * k := by
  rw [joinS_eq]
  have h0 := joinL_len s ls
  have h1 := sum_le h
  have h2 := Nat.mul_le_mul (Nat.le_refl n) hm
  have h3 := Nat.mul_le_mul hm hs
  omega
theorem cutL_sub {α : Type} {xs : List α} {i j : Option Int} {x : α} (h : x ∈ cutL xs i j) : x ∈ xs := by
  unfold cutL at h
  exact List.mem_of_mem_drop (List.mem_of_mem_take h)
theorem cutL_len {α : Type} (xs : List α) (i j : Option Int) : (cutL xs i j).length ≤ xs.length := by
  unfold cutL
  rw [List.length_take, List.length_drop]
  omega
theorem spC_len_le {c : Nat} : ∀ (l : List Nat), (spC c l).length ≤ l.length + 1
  | [] => by simp [spC]
  | x :: xs => by
    have ih := spC_len_le (c := c) xs
    unfold spC
    split
    · rw [List.length_cons, List.length_cons]
      omega
    · cases hs : spC c xs with
      | nil => exact absurd hs (spC_ne c xs)
      | cons a b =>
        rw [hs] at ih
        simp only [consH, List.length_cons] at ih ⊢
        omega
theorem spC_mem_len {c : Nat} : ∀ (l : List Nat) (p : List Nat), p ∈ spC c l → p.length ≤ l.length
  | [], p, h => by
    simp [spC] at h
    subst h
    simp
  | x :: xs, p, h => by
    have ih := spC_mem_len (c := c) xs
    unfold spC at h
    split at h
    · rcases List.mem_cons.mp h with e | h
      · subst e
        simp
      · have := ih p h
        rw [List.length_cons]
        omega
    · cases hs : spC c xs with
      | nil => exact absurd hs (spC_ne c xs)
      | cons a b =>
        rw [hs] at h ih
        rcases List.mem_cons.mp h with e | h
        · subst e
          have := ih a List.mem_cons_self
          rw [List.length_cons, List.length_cons]
          omega
        · have := ih p (List.mem_cons_of_mem _ h)
          rw [List.length_cons]
          omega
theorem splitS_len {c : Nat} (hc : c < 256) (l : List Nat) : (splitS l [c]).length ≤ l.length + 1 := by rw [splitS_one hc]; exact spC_len_le l
theorem splitS_pos {c : Nat} (hc : c < 256) (l : List Nat) : 0 < (splitS l [c]).length := by rw [splitS_one hc]; exact List.length_pos_iff.mpr (spC_ne c l)
theorem splitS_mem {c : Nat} (hc : c < 256) {l p : List Nat} (h : p ∈ splitS l [c]) : p.length ≤ l.length ∧ c ∉ p := by
  rw [splitS_one hc] at h
  exact ⟨spC_mem_len l p h, spC_free l p h⟩
/-- a loop whose turns all go on alike -/
theorem loop_go {S Y T : Type} {step : S → Y → Ctl S S} {s : S} : ∀ {ys : List Y}, (∀ y ∈ ys, step s y = .go s) → (loop step s ys : Ctl S T) = .go s
  | [], _ => rfl
  | y :: ys, h => by
    show (match step s y with | .go s' => loop step s' ys | .brk s' => .go s' | .ret r => .ret r) = _
    rw [h y List.mem_cons_self]
    exact loop_go fun z hz => h z (List.mem_cons_of_mem _ hz)
end Sd
namespace Sd
open PySem L2
/-- a loop that looks for one and leaves -/
theorem loop_find {Y T : Type} {p : Y → Bool} {r : Res} : ∀ {ys : List Y}, (loop (S := Unit) (T := T) (fun (_ : Unit) (y : Y) => if p y = true then Ctl.up (.ret r) else .go ()) () ys) = if ys.any p = true then .ret r else .go ()
  | [] => rfl
  | y :: ys => by
    rw [List.any_cons]
    unfold loop
    cases h : p y with
    | true =>
      rw [if_pos rfl]
      rfl
    | false =>
      rw [if_neg Bool.false_ne_true, Bool.false_or]
      exact loop_find
theorem rints_any {n : Nat} {p : Int → Bool} : (rints 0 n).any p = true ↔ ∃ i : Nat, i < n ∧ p (i : Int) = true := by
  unfold rints
  rw [List.any_map, List.any_eq_true]
  constructor
  · rintro ⟨i, hi, h⟩
    refine ⟨i, List.mem_range.mp hi, ?_⟩
    simpa using h
  · rintro ⟨i, hi, h⟩
    exact ⟨i, List.mem_range.mpr hi, by simpa using h⟩
/-- two lists of one length told apart, place by place -/
theorem any_ne {α : Type} [DecidableEq α] {d : α} {xs ys : List α} (h : xs.length = ys.length) : (rints 0 ys.length).any (fun i => !decide (ix xs i d = ix ys i d)) = !decide (xs = ys) := by
  by_cases e : xs = ys
  · subst e
    rw [decide_eq_true rfl]
    apply Bool.eq_false_iff.mpr
    intro q
    obtain ⟨i, _, h2⟩ := rints_any.mp q
    simp at h2
  · rw [decide_eq_false e]
    show _ = true
    rw [rints_any]
    apply Classical.byContradiction
    intro hn
    refine e (List.ext_getElem h fun i h1 h2 => ?_)
    apply Classical.byContradiction
    intro hne
    refine hn ⟨i, h2, ?_⟩
    rw [ix_nat, ix_nat, List.getD_eq_getElem?_getD, List.getD_eq_getElem?_getD, List.getElem?_eq_getElem h1, List.getElem?_eq_getElem h2]
    simpa using hne
end Sd

namespace Sd
open PySem PySem.Spec PyProof.Rows L2

/-! ### what may raise -/
abbrev veTail : List Value := [.type "ValueError", .type "Exception", .type "BaseException", .type "object"]
/-- an own class of exceptions without own __init__, beneath ValueError -/
structure ExC (K : PySem.W.Frag) (mg : Str → Option Value) (x : Str) : Prop where
  ex : ∃ C, mg x = some (.ref C) ∧ PySem.W.nsIn K mainGlobals x = some (some (.ref C)) ∧ PySem.W.excIn K C veTail "ValueError.__new__" = true ∧ PySem.W.keepIn K (.ref C) = true ∧
    PySem.W.subIn K (.ref C) (.type "BaseException") = some true ∧ PySem.W.typeIn K (.ref C) = some (.type "type")
theorem PostR.grow {K : PySem.W.Frag} {F G0 G H : Hp} {E : XK} {rt : VK} {r : Res} (g : Grow G0 F G H) (h : PostR K F G0 E rt r) : PostR K H G E rt r := by
  cases r with
  | v x => exact fun v G' H' g' i => h v G' H' (g.trans g') i
  | o o => exact fun p u G' H' g' hp n hn ho => h p u G' H' (g.trans g') hp n (Evl.fresh_back g.h hn) ho
  | x e => exact fun cls d G' H' g' i => h cls d G' H' (g.trans g') i
/-- comes to a value, to one's own thing, or raises -/
def EvR (K : PySem.W.Frag) (E : XK) (Γ : List B) (te : TE) (r : Res) : Prop := ∀ F σ G H, Stt K F Γ σ G H → ∀ Q : VK, PostR K H G E Q r → te σ H Q
abbrev ER (X : Cx) (E : XK) (Γ : List B) (e : Expr) (r : Res) : Prop := EvR X.K E Γ (wE X e) r
def resX {τ : Type} (enc : τ → D) : Except Exn τ → Res
  | .ok x => .v (enc x)
  | .error e => .x e
def resO {τ : Type} (enc : τ → OO) : Except Exn τ → Res
  | .ok x => .o (enc x)
  | .error e => .x e
section
variable {X : Cx} {E : XK} {Γ : List B} {e : Expr} {es : List Expr} {r : Res}
theorem er_of {t : TE} (h : PE X e t) (k : EvR X.K E Γ t r) : ER X E Γ e r := fun F σ G H s Q q => ⟨fun pins sh I => h.run pins sh σ H Q I (k F σ G H s Q q)⟩
theorem ed_ofR {τ : Type} {enc : τ → D} {r : Except Exn τ} {x : τ} (h : ER X E Γ e (resX enc r)) (hx : r = .ok x) : ED X Γ e (enc x) := fun F σ G H s Q q => h F σ G H s Q (by rw [hx]; exact q)
theorem eo_ofR {τ : Type} {enc : τ → OO} {r : Except Exn τ} {x : τ} (h : ER X E Γ e (resO enc r)) (hx : r = .ok x) : EO X Γ e (enc x) := fun F σ G H s Q q => h F σ G H s Q (by rw [hx]; exact q)
theorem er_call {pos p : Pos} {x : Str} {lv : Nat} {A : Type} {enc : A → List D} {pre : A → Prop} {res : A → Res} (a : A) (tk : Takes X (fun cls d _ H => E cls d H)) (hk : KnX X x lv (spF X.K enc pre res)) (hr : Room lv X.A) (hg : Gl X x) (ha : EA X Γ (e :: es) (enc a)) (hp : pre a)
    (hdb : (x == ("__debug__" : Str)) = false := by decide) (he : starEach (e :: es) X.env = (false, eval e X.env) :: starEach es X.env := by exact starEach_ns rfl) (hpl : (backTo pos (starEach es X.env)).any (·.1) = false := by exact plain_ok rfl) : ER X E Γ (.Call (.Name x p) (e :: es) [] pos) (res a) := by
  obtain ⟨f, fd, ps, h1, h2, h3, h4⟩ := hk.ex
  refine er_of (pe_call (E := E) h1 hr hg h2 h3 h4 .nil (passes_call tk fun _ _ _ _ h => h) pa_w hdb he hpl) fun F σ G H s Q q => ha F σ G H s _ fun vs G1 H1 g1 i1 => ?_
  rw [List.append_nil]
  exact ⟨a, G1, g1.s, i1, hp, PostR.grow g1 q⟩
end
section
variable {X : Cx} {E : XK} {Γ : List B} {S T : Type} {Γs : S → List B} {Γb : T → List B} {rest : List Stmt} {pos : Pos} {lv : Nat} {N : List Str} {sc : Scope} {y : Str} {py : Pos} {e : Expr}
theorem b_setR {τ : Type} (i : Nat) (enc : τ → D) {r : Except Exn τ} {k : τ → Ctl S T} (hX : XOk lv N sc X E) (hn : N[i]? = some y) (hl : Loc sc y) (he : ER X E Γ e (resX enc r)) (hr : ∀ v, r = .ok v → BK X E (Γ.set i (.d (enc v))) rest Γs Γb (k v)) (hs : swapsWith e (some (.Name y py)) pos.line X.env = pure false := by exact sw_ns rfl) :
    BK X E Γ (.Assign [.Name y py] e pos :: rest) Γs Γb (bndX r k) := fun F G0 σ G H D s gr post =>
  w_cons (ps_set hX.nd (hX.nm hn) (hX.lc hl) pe_w hs (.inl (hX.fn y))) (he F σ G H s _ (by
    cases r with
    | ok x => exact fun v G1 H1 g1 i1 => hr x rfl F G0 _ G1 H1 D ((s.grow g1).set i i1) (gr.trans g1) (PostC.up post g1.g)
    | error x => exact PostR.grow gr (show PostR X.K F G0 E D.rt (.x x) from post)))
theorem b_setRO {τ : Type} (i : Nat) (enc : τ → OO) {r : Except Exn τ} {k : τ → Ctl S T} (hX : XOk lv N sc X E) (hn : N[i]? = some y) (hl : Loc sc y) (he : ER X E Γ e (resO enc r)) (hr : ∀ v, r = .ok v → BK X E (Γ.set i (.own (enc v))) rest Γs Γb (k v)) (hs : swapsWith e (some (.Name y py)) pos.line X.env = pure false := by exact sw_ns rfl) :
    BK X E Γ (.Assign [.Name y py] e pos :: rest) Γs Γb (bndX r k) := fun F G0 σ G H D s gr post =>
  w_cons (ps_set hX.nd (hX.nm hn) (hX.lc hl) pe_w hs (.inl (hX.fn y))) (he F σ G H s _ (by
    cases r with
    | ok x => exact fun p u G1 H1 g1 hp n hn ho => hr x rfl F G0 _ G1 H1 D ((s.grow g1).setO i hp n (Evl.fresh_back gr.h hn) ho fun j o' _ e z => s.fresh hn e z) (gr.trans g1) (PostC.up post g1.g)
    | error x => exact PostR.grow gr (show PostR X.K F G0 E D.rt (.x x) from post)))
theorem b_setRT {τ : Type} (enc : τ → D) {r : Except Exn τ} {k : τ → Ctl S T} {tg : Expr} {g : TG} {js : List Nat} (Γ' : τ → List B) (hg : PG X tg g) (htg : ∀ v, TgD X.K g js Γ (enc v) (Γ' v)) (he : ER X E Γ e (resX enc r)) (hr : ∀ v, r = .ok v → BK X E (Γ' v) rest Γs Γb (k v))
    (hs : swapsWithSole [tg] e pos.line X.env = pure false := by exact sws_ns rfl) (hw : swappedStores [tg] e X.env = pure none := by exact sst_ns rfl) (h1 : (assignEach [tg] X.env).map (·.2) = [assign tg X.env] := by rfl) : BK X E Γ (.Assign [tg] e pos :: rest) Γs Γb (bndX r k) := fun F G0 σ G H D s gr post =>
  w_cons (ps_asg pe_w hg hs hw h1) (he F σ G H s _ (by
    cases r with
    | ok x => exact fun v G1 H1 g1 i1 => htg x F σ G1 H1 v (s.grow g1) i1 _ fun ws s' => hr x rfl F G0 _ G1 H1 D s' (gr.trans g1) (PostC.up post g1.g)
    | error x => exact PostR.grow gr (show PostR X.K F G0 E D.rt (.x x) from post)))
theorem b_retR {r : Res} (he : ER X E Γ e r) : BK X E Γ (.Return (some e) pos :: rest) Γs Γb (.ret r) := fun F G0 σ G H D s gr post => w_cons (ps_ret pe_w) (he F σ G H s _ (PostR.grow gr post))
/-- raise X('m') -/
theorem b_raise {x m : Str} {j : Nat} {p p2 cpos : Pos} (hX : XOk lv N sc X E) (hc : ExC X.K X.mg x) (hg : Gl X x) (hdb : (x == ("__debug__" : Str)) = false := by decide) :
    BK X E Γ (.Raise (some (.Call (.Name x p) [.Constant (.str m) j p2] [] cpos)) none pos :: rest) Γs Γb (.ret (.x ⟨x, []⟩)) := fun F G0 σ G H D s gr post => by
  obtain ⟨C, h1, h2, h3, h4, h5, h6⟩ := hc.ex
  refine w_cons (ps_raise hX.calm hX.takes (pmk_own PySem.F.excBase_ValueError h3 h1 h4 (raises_own h5 h6) hg hdb)) ?_
  exact post (.ref C) none G H gr ⟨h2, fun n => absurd rfl n⟩
end

/-! ### data told as one kind -/
section
variable {X : Cx} {Γ : List B} {e : Expr} {x y : D}
theorem ed_cast (h : x = y) (he : ED X Γ e x) : ED X Γ e y := h ▸ he
end
def asI : D → Int
  | .int i => i
  | _ => 0
def asS : D → List Nat
  | .str s => s
  | _ => []
def asB : D → Bool
  | .bl b => b
  | _ => false
def asSs : D → List (List Nat)
  | .tup xs => xs.map asS
  | .lst xs => xs.map asS
  | _ => []

/-! ### int(..), str(..), list(..), tuple(..) -/
section
variable {X : Cx} {Γ : List B} {pos p : Pos} {a b : Expr} {ds : List D}
theorem ed_intB {k : Bool} (hg : Gl X "int") (hm : X.mg "int" = none) (ha : ED X Γ a (.bl k)) (he : starEach [a] X.env = (false, eval a X.env) :: starEach [] X.env := by exact starEach_ns rfl) (hpl : (backTo pos (starEach [] X.env)).any (·.1) = false := by exact plain_ok rfl) : ED X Γ (.Call (.Name "int" p) [a] [] pos) (.int (if k then 1 else 0)) :=
  ed_callTy call_int1 hg hm (by decide +kernel) (ea_cons ha ea_nil he) (fun vs G H ex i Q q => by
    cases i with
    | cons i1 i2 =>
      cases i1
      cases i2
      exact .inr ⟨_, rfl, q _ G H (.refl ex) (.int _)⟩) (by decide) (by decide) he hpl
theorem ed_intI {k : Int} (hg : Gl X "int") (hm : X.mg "int" = none) (ha : ED X Γ a (.int k)) (he : starEach [a] X.env = (false, eval a X.env) :: starEach [] X.env := by exact starEach_ns rfl) (hpl : (backTo pos (starEach [] X.env)).any (·.1) = false := by exact plain_ok rfl) : ED X Γ (.Call (.Name "int" p) [a] [] pos) (.int k) :=
  ed_callTy call_int1 hg hm (by decide +kernel) (ea_cons ha ea_nil he) (fun vs G H ex i Q q => by
    cases i with
    | cons i1 i2 =>
      cases i1
      cases i2
      exact .inl ⟨_, rfl, q _ G H (.refl ex) (.int _)⟩) (by decide) (by decide) he hpl
def strI (i : Int) : List Nat := (Str.ofString (toString i)).cps.toList
theorem S_strI (i : Int) : S (strI i) = Str.ofString (toString i) := by simp [S, strI]
theorem strI_nat (n : Nat) : strI (n : Int) = TL.numL n := TL.tl_num n
def natOf (s : List Nat) : Int := (NumText.digitsVal s : Nat)
theorem ed_strI {k : Int} (hg : Gl X "str") (hm : X.mg "str" = none) (ha : ED X Γ a (.int k)) (hz : k.natAbs.log2 < 1920) (he : starEach [a] X.env = (false, eval a X.env) :: starEach [] X.env := by exact starEach_ns rfl) (hpl : (backTo pos (starEach [] X.env)).any (·.1) = false := by exact plain_ok rfl) : ED X Γ (.Call (.Name "str" p) [a] [] pos) (.str (strI k)) :=
  ed_callTy call_str_int hg hm (by decide +kernel) (ea_cons ha ea_nil he) (fun vs G H ex i Q q => by
    cases i with
    | cons i1 i2 =>
      cases i1
      cases i2
      refine ⟨_, rfl, hz, ?_⟩
      have h := q (.str (S (strI k))) G H (.refl ex) (.str _)
      rw [S_strI] at h
      exact h) (by decide) (by decide) he hpl
theorem ed_intS {s : List Nat} (hg : Gl X "int") (hm : X.mg "int" = none) (ha : ED X Γ a (.str s)) (hd : NumText.AllDigits s) (h1 : s ≠ []) (h2 : s.length ≤ 640) (he : starEach [a] X.env = (false, eval a X.env) :: starEach [] X.env := by exact starEach_ns rfl) (hpl : (backTo pos (starEach [] X.env)).any (·.1) = false := by exact plain_ok rfl) : ED X Γ (.Call (.Name "int" p) [a] [] pos) (.int (natOf s)) :=
  ed_callTy call_int_str hg hm (by decide +kernel) (ea_cons ha ea_nil he) (fun vs G H ex i Q q => by
    cases i with
    | cons i1 i2 =>
      cases i1
      cases i2
      refine ⟨_, _, rfl, PySem.intText_digits (x := S s) (by simpa [S] using hd) (by simpa [S] using h1) (by rw [S_len]; omega), by rw [S_len]; exact h2, ?_⟩
      have e : (S s).cps.toList = s := by simp [S]
      rw [e]
      exact q _ G H (.refl ex) (.int _)) (by decide) (by decide) he hpl
/-- list(xs), xs a list that may be read -/
theorem eo_listL (hg : Gl X "list") (hm : X.mg "list" = none) (ha : EL X Γ a ds) (he : starEach [a] X.env = (false, eval a X.env) :: starEach [] X.env := by exact starEach_ns rfl) (hpl : (backTo pos (starEach [] X.env)).any (·.1) = false := by exact plain_ok rfl) : EO X Γ (.Call (.Name "list" p) [a] [] pos) (.lst ds) :=
  eo_of (pe_callTy call_list_of hg hm (by decide +kernel) (pa_cons pe_w pa_nil he) (by decide) (by decide) he hpl) fun F σ G H s Q q => ha F σ G H s _ fun p vs G1 H1 g1 h1 i1 =>
    ⟨p, vs, rfl, .inl (.inl (.inl h1)), fun l hl => q l _ G1 _ (g1.trans (Grow.lay g1.s hl)) upd_same (Evl.fresh_back g1.s hl) (Evl.fresh_back g1.h hl) i1⟩
/-- tuple(xs) -/
theorem ed_tupL (hg : Gl X "tuple") (hm : X.mg "tuple" = none) (ha : EL X Γ a ds) (he : starEach [a] X.env = (false, eval a X.env) :: starEach [] X.env := by exact starEach_ns rfl) (hpl : (backTo pos (starEach [] X.env)).any (·.1) = false := by exact plain_ok rfl) : ED X Γ (.Call (.Name "tuple" p) [a] [] pos) (.tup ds) :=
  ed_of (pe_callTy call_tuple_of hg hm (by decide +kernel) (pa_cons pe_w pa_nil he) (by decide) (by decide) he hpl) fun F σ G H s Q q => ha F σ G H s _ fun p vs G1 H1 g1 h1 i1 =>
    ⟨p, vs, rfl, .inl ⟨.inl (.inl h1), fun l hl => q _ _ _ (g1.trans (Grow.new g1.s hl)) (.tup (.inl (.inl upd_same)) (i1.up (Evl.Ex.new (Evl.fresh_back g1.s hl))))⟩⟩
end

/-! ### == of nested data -/
mutual
def pyD : D → PyData
  | .bl b => .bool b
  | .int i => .int i
  | .str l => .str (S l)
  | .lst xs => .list (pyDs xs)
  | .tup xs => .tuple (pyDs xs)
  | _ => .none
def pyDs : List D → List PyData
  | [] => []
  | x :: xs => pyD x :: pyDs xs
end
def chrOk (l : List Nat) : Bool := l.all (· < 0x110000)
/-- data of that depth that == goes through -/
def eqk : Nat → D → Bool
  | _, .non => true
  | _, .bl _ => true
  | _, .int _ => true
  | _, .str l => chrOk l
  | n + 1, .lst xs => xs.all (eqk n)
  | n + 1, .tup xs => xs.all (eqk n)
  | _, _ => false
theorem chrOk_S {l : List Nat} (h : chrOk l = true) : PyData.canLay0 (.str (S l)) = true := by
  unfold PyData.canLay0 PyData.strOk
  simpa [S, chrOk] using h
theorem eqk_pys {n : Nat} (ih : ∀ d, eqk n d = true → (pyD d).canLay0 = true ∧ (pyD d).depth ≤ n) : ∀ xs : List D, xs.all (eqk n) = true → PyData.canLayAll0 (pyDs xs) = true ∧ PyData.depthAll (pyDs xs) ≤ n
  | [], _ => ⟨rfl, Nat.zero_le _⟩
  | x :: xs, h => by
    rw [List.all_cons, Bool.and_eq_true] at h
    have h1 := ih x h.1
    have h2 := eqk_pys ih xs h.2
    refine ⟨?_, ?_⟩
    · show (PyData.canLay0 (pyD x) && PyData.canLayAll0 (pyDs xs)) = true
      rw [h1.1, h2.1]
      rfl
    · show max (pyD x).depth (PyData.depthAll (pyDs xs)) ≤ n
      omega
theorem eqk_py : ∀ (n : Nat) (d : D), eqk n d = true → (pyD d).canLay0 = true ∧ (pyD d).depth ≤ n
  | _, .non, _ => ⟨rfl, Nat.zero_le _⟩
  | _, .bl _, _ => ⟨rfl, Nat.zero_le _⟩
  | _, .int _, _ => ⟨rfl, Nat.zero_le _⟩
  | n, .str l, h => ⟨chrOk_S (by cases n <;> exact h), Nat.zero_le _⟩
  | 0, .lst _, h => nomatch h
  | 0, .tup _, h => nomatch h
  | n + 1, .lst xs, h => by
    have q := eqk_pys (fun d => eqk_py n d) xs h
    exact ⟨q.1, Nat.succ_le_succ q.2⟩
  | n + 1, .tup xs, h => by
    have q := eqk_pys (fun d => eqk_py n d) xs h
    exact ⟨q.1, Nat.succ_le_succ q.2⟩
  | 0, .ty _, h => nomatch h
  | 0, .dct _, h => nomatch h
  | 0, .ins _ _, h => nomatch h
  | 0, .scr _, h => nomatch h
  | _ + 1, .ty _, h => nomatch h
  | _ + 1, .dct _, h => nomatch h
  | _ + 1, .ins _ _, h => nomatch h
  | _ + 1, .scr _, h => nomatch h
theorem dps_of {K : PySem.W.Frag} {G H : Hp} {n : Nat} (ih : ∀ d v, Is K G v d → eqk n d = true → Dp K H v (pyD d)) : ∀ (xs : List D) (vs : List V), IsAll K G vs xs → xs.all (eqk n) = true → DpAll K H vs (pyDs xs)
  | [], _, h, _ => by cases h; exact .nil
  | x :: xs, _, h, e => by
    rw [List.all_cons, Bool.and_eq_true] at e
    cases h with
    | cons h1 h2 => exact .cons (ih _ _ h1 e.1) (dps_of ih xs _ h2 e.2)
theorem dp_of {K : PySem.W.Frag} {G H : Hp} (ex : Ex G H) : ∀ (n : Nat) (d : D) (v : V), Is K G v d → eqk n d = true → Dp K H v (pyD d)
  | _, .non, _, h, _ => by cases h; exact .non
  | _, .bl _, _, h, _ => by cases h; exact .bl _
  | _, .int _, _, h, _ => by cases h; exact .int _
  | n, .str l, _, h, _ => by cases h; exact .str _
  | 0, .lst _, _, _, e => nomatch e
  | 0, .tup _, _, _, e => nomatch e
  | n + 1, .lst xs, _, h, e => by
    cases h with
    | lst h1 h2 => exact .lst (.inl (.inl (ex _ _ h1))) (dps_of (dp_of ex n) xs _ h2 e)
  | n + 1, .tup xs, _, h, e => by
    cases h with
    | tup h1 h2 => exact .tup (Evl.ex_t ex h1) (dps_of (dp_of ex n) xs _ h2 e)
  | 0, .ty _, _, _, e => nomatch e
  | 0, .dct _, _, _, e => nomatch e
  | 0, .ins _ _, _, _, e => nomatch e
  | 0, .scr _, _, _, e => nomatch e
  | _ + 1, .ty _, _, _, e => nomatch e
  | _ + 1, .dct _, _, _, e => nomatch e
  | _ + 1, .ins _ _, _, _, e => nomatch e
  | _ + 1, .scr _, _, _, e => nomatch e
theorem eqk_shaped {n : Nat} {d : D} (h : eqk n d = true) (hn : n ≤ 64) : SeqAt.shaped (pyD d) = true := by
  have q := eqk_py n d h
  unfold SeqAt.shaped
  rw [q.1, Bool.true_and]
  exact decide_eq_true (Nat.le_trans q.2 hn)
def eqD (x y : D) : Bool := PyData.eqv (pyD x) (pyD y)
theorem eqD_refl {n : Nat} {x : D} (h : eqk n x = true) : eqD x x = true := SeqAt.eqv_refl _ (eqk_py n x h).1
section
variable {X : Cx} {x y : D}
theorem room64 {lv : Nat} {A : Around} (h : Room lv A) : A.units + 64 < cLine := by
  have := h.un
  omega
theorem od_eqD (n : Nat) (hu : X.A.units + 64 < cLine) (hx : eqk n x = true) (hy : eqk n y = true) (hn : n ≤ 64) : OpD X (compareOp .Eq) x y (.bl (eqD x y)) := ⟨_, op_eqD hu, fun v w G H e iv iw Q q =>
  ⟨_, _, dp_of e n _ _ iv hx, dp_of e n _ _ iw hy, eqk_shaped hx hn, eqk_shaped hy hn, q _ G H (.refl e) (.bl _)⟩⟩
theorem od_neD (n : Nat) (hu : X.A.units + 64 < cLine) (hx : eqk n x = true) (hy : eqk n y = true) (hn : n ≤ 64) : OpD X (compareOp .NotEq) x y (.bl (!eqD x y)) := ⟨_, op_neD hu, fun v w G H e iv iw Q q =>
  ⟨_, _, dp_of e n _ _ iv hx, dp_of e n _ _ iw hy, eqk_shaped hx hn, eqk_shaped hy hn, q _ G H (.refl e) (.bl _)⟩⟩

/-! ### a text some times -/
theorem op_mul_str : OpR X (binaryOp .Mult) (fun x y H Q => ∃ (l : List Nat) (n : Int), x = .str (S l) ∧ y = .int n ∧ 0 ≤ n ∧ n ≤ 1000 ∧ l.length ≤ 10000 ∧ Q (.str (S (List.replicate n.toNat l).flatten)) H) := by
  intro pins s σ H x y v u Q I rx ry h
  obtain ⟨l, n, rfl, rfl, h0, h1, h2, q⟩ := h
  obtain ⟨t, rfl⟩ := rx
  obtain ⟨t', rfl⟩ := ry
  have hlen : (S l).length = l.length := S_len l
  have hm : (S l).length * n.toNat ≤ 10000000 := by
    rw [hlen]
    exact Nat.le_trans (Nat.mul_le_mul h2 (show n.toNat ≤ 1000 by omega)) (by decide)
  have hflat : ∀ (m : Nat) (acc : List Nat), (List.replicate m (S l).cps).foldl (· ++ ·) acc.toArray = (acc ++ (List.replicate m l).flatten).toArray := by
    intro m
    induction m with
    | zero => intro acc; simp
    | succ m ih =>
      intro acc
      rw [List.replicate_succ, List.foldl_cons, List.replicate_succ, List.flatten_cons]
      have e : acc.toArray ++ (S l).cps = (acc ++ l).toArray := by simp [S]
      rw [e, ih, List.append_assoc]
  refine PySem.P.mul_str ?_ ?_ ?_ ?_
  · rw [decide_eq_false (by omega), decide_eq_false (by omega)] <;> rfl
  · intro hn hc
    have hz : 0 < n := by omega
    intro hgt
    have a1 : ((S l).length : Int) ≤ 10000 := by rw [hlen]; omega
    have a2 : (2 ^ 63 - 1 : Int) / 1000 ≤ (2 ^ 63 - 1) / n := by
      apply Int.le_ediv_of_mul_le hz
      have a3 : (2 ^ 63 - 1 : Int) / 1000 * n ≤ (2 ^ 63 - 1 : Int) / 1000 * 1000 := Int.mul_le_mul_of_nonneg_left h1 (by decide)
      omega
    omega
  · intro hn hc
    show decide (_ > sizeLine) = false
    rw [decide_eq_false]
    rw [sizeLine_eq]
    omega
  · by_cases hn : n < 1
    · rw [if_pos hn]
      have hz : n = 0 := by omega
      subst hz
      exact ⟨by decide, .str _, H, I.tok _, ⟨_, rfl⟩, q⟩
    · rw [if_neg hn]
      by_cases hc : (n == 1 || (S l).length == 0) = true
      · rw [if_pos hc]
        have e : (List.replicate n.toNat l).flatten = l := by
          rw [Bool.or_eq_true, beq_iff_eq, beq_iff_eq] at hc
          rcases hc with hc | hc
          · subst hc
            simp
          · rw [hlen] at hc
            have : l = [] := List.eq_nil_of_length_eq_zero hc
            subst this
            induction n.toNat with
            | zero => rfl
            | succ m ih => rw [List.replicate_succ, List.flatten_cons, ih]; rfl
        rw [e] at q
        exact ⟨.str _, H, I, ⟨_, rfl⟩, q⟩
      · rw [if_neg hc]
        have e := hflat n.toNat []
        rw [List.nil_append] at e
        have e' : (⟨(List.replicate n.toNat (S l).cps).foldl (· ++ ·) #[]⟩ : Str) = S (List.replicate n.toNat l).flatten := by
          unfold S
          rw [← e]
        rw [e']
        refine ⟨?_, .str _, H, I.tok _, ⟨_, rfl⟩, q⟩
        rw [S_len, List.length_flatten, List.map_replicate, List.sum_replicate_nat, sizeLine_eq]
        rw [hlen, Nat.mul_comm] at hm
        omega
theorem od_mulS {l : List Nat} {n : Int} (h0 : 0 ≤ n) (h1 : n ≤ 1000) (h2 : l.length ≤ 10000) : OpD X (binaryOp .Mult) (.str l) (.int n) (.str (List.replicate n.toNat l).flatten) := ⟨_, op_mul_str, fun v w G H e iv iw Q q => by
  cases iv
  cases iw
  exact ⟨_, _, rfl, rfl, h0, h1, h2, q _ G H (.refl e) (.str _)⟩⟩
end
end Sd

namespace Sd
open PySem PySem.Spec PyProof.Rows L2
/-! ### range with a step -/
def rintsS (lo c : Int) (n : Nat) : List Int := (List.range n).map fun (i : Nat) => lo + (i : Int) * c
def rngN (lo hi c : Int) : Nat := (Builtin.Range.rangeSize lo hi c).toNat
theorem rintsS_get {lo c : Int} {n i : Nat} (h : i < n) : (rintsS lo c n)[i]? = some (lo + (i : Int) * c) := by
  unfold rintsS
  rw [List.getElem?_map, List.getElem?_range h]
  rfl
theorem rintsS_len (lo c : Int) (n : Nat) : (rintsS lo c n).length = n := by
  unfold rintsS
  rw [List.length_map, List.length_range]
theorem rintsS_mem {lo c x : Int} {n : Nat} (h : x ∈ rintsS lo c n) : ∃ i : Nat, i < n ∧ x = lo + i * c := by
  unfold rintsS at h
  obtain ⟨i, hi, rfl⟩ := List.mem_map.mp h
  exact ⟨i, List.mem_range.mp hi, rfl⟩
theorem rngN_up {lo hi c : Int} (hc : 0 < c) : (Builtin.Range.rangeSize lo hi c) = (rngN lo hi c : Int) := by
  unfold rngN Builtin.Range.rangeSize
  rw [if_pos hc]
  split
  · rename_i h
    have : 0 ≤ (hi - lo - 1) / c := Int.ediv_nonneg (by omega) (by omega)
    omega
  · rfl
theorem small_two {n : Int} (h0 : 0 ≤ n) (h1 : n < 2 ^ 62) : Builtin.Range.small 0 n 2 = true := by
  unfold Builtin.Range.small Builtin.Range.rangeSize
  simp only [Builtin.Range.rangeFitsLong, Bool.and_eq_true, Bool.or_eq_true, decide_eq_true_eq, beq_iff_eq, show (2 : Int) > 0 by decide, if_true]
  split <;> omega
theorem rngN_two {n : Nat} : rngN 0 (n : Int) 2 = (n + 1) / 2 := by
  unfold rngN Builtin.Range.rangeSize
  rw [if_pos (by decide)]
  split <;> omega
theorem rints_two {n : Nat} {x : Int} (h : x ∈ rintsS 0 2 (rngN 0 (n : Int) 2)) : 0 ≤ x ∧ x < n ∧ x % 2 = 0 := by
  obtain ⟨i, hi, rfl⟩ := rintsS_mem h
  rw [rngN_two] at hi
  omega
section
variable {X : Cx} {Γ : List B} {tg a b c : Expr} {pos p : Pos}
theorem it_range3 {i j k : Int} (hg : Gl X "range") (hm : X.mg "range" = none) (ha : ED X Γ a (.int i)) (hb : ED X Γ b (.int j)) (hc : ED X Γ c (.int k)) (h1 : 0 < k ∧ k < 1073741824) (h2 : Builtin.Range.small i j k = true)
    (hs : starEach [a, b, c] X.env = (false, eval a X.env) :: starEach [b, c] X.env := by exact starEach_ns rfl) (hs2 : starEach [b, c] X.env = (false, eval b X.env) :: starEach [c] X.env := by exact starEach_ns rfl) (hs3 : starEach [c] X.env = (false, eval c X.env) :: starEach [] X.env := by exact starEach_ns rfl) (hpl : (backTo pos (starEach [b, c] X.env)).any (·.1) = false := by exact plain_ok rfl) :
    IT X Γ tg (.Call (.Name "range" p) [a, b, c] [] pos) ((rintsS i k (rngN i j k)).map D.int) :=
  ⟨_, pi_range3 hg hm pa_w hs hpl, fun F σ G H s R q => (ea_cons ha (ea_cons hb (ea_cons hc ea_nil hs3) hs2) hs) F σ G H s _ fun vs G1 H1 g1 i1 => by
    cases i1 with
    | cons i1 i2 =>
      cases i2 with
      | cons i2 i3 =>
        cases i3 with
        | cons i3 i4 =>
          cases i1
          cases i2
          cases i3
          cases i4
          refine ⟨i, j, k, rngN i j k, rfl, ⟨by omega, by omega, h2, rngN_up h1.1⟩, ?_⟩
          have hl : ((rintsS i k (rngN i j k)).map D.int).length = rngN i j k := by rw [List.length_map, rintsS_len]
          refine q _ (fun _ => True) (fun t H v H' => H' = H ∧ t < rngN i j k ∧ v = .int (i + (t : Nat) * k)) G1 H1 g1 (by rw [hl]; exact walk_rangeC.mono (fun _ h => h) fun t H x H' hi _ y => ⟨y.1, hi, y.2⟩) (fun _ _ _ _ => trivial) fun t G2 H2 v H3 e1 e2 y => ?_
          obtain ⟨rfl, hi, rfl⟩ := y
          exact ⟨G2, .int (i + (t : Int) * k), by rw [List.getElem?_map, rintsS_get hi]; rfl, .refl e2, .int _⟩⟩
end
/-! ### tuples of any length -/
section
variable {X : Cx} {Γ : List B} {pos p apos : Pos} {a b : Expr} {τ : Type} {enc : τ → D} {xs : List τ}
theorem ed_tupM (hg : Gl X "tuple") (hm : X.mg "tuple" = none) (ha : EL X Γ a (xs.map enc)) (he : starEach [a] X.env = (false, eval a X.env) :: starEach [] X.env := by exact starEach_ns rfl) (hpl : (backTo pos (starEach [] X.env)).any (·.1) = false := by exact plain_ok rfl) : ED X Γ (.Call (.Name "tuple" p) [a] [] pos) (.tup (xs.map enc)) := ed_tupL hg hm ha he hpl
theorem ed_lenTM (hg : Gl X "len") (hm : X.mg "len" = none) (ha : ED X Γ a (.tup (xs.map enc))) (he : starEach [a] X.env = (false, eval a X.env) :: starEach [] X.env := by exact starEach_ns rfl) (hpl : (backTo pos (starEach [] X.env)).any (·.1) = false := by exact plain_ok rfl) : ED X Γ (.Call (.Name "len" p) [a] [] pos) (.int xs.length) := by
  have h := ed_lenT (p := p) (pos := pos) hg hm ha he hpl
  rw [List.length_map] at h
  exact h
theorem ed_joinT {l : List Nat} {ls : List (List Nat)} (ha : ED X Γ a (.str l)) (hb : ED X Γ b (.tup (ls.map D.str))) (hz : (ls.map (·.length)).sum + ls.length * l.length ≤ 16777216)
    (hbase : attributeBase a "join" X.env (eval a X.env) = eval a X.env := by exact ab_ns rfl) (hline : (apos.endLine == pos.line) = true := by rfl)
    (hfew : ((backTo pos (starEach (b :: []) X.env)).all (fun x => !x.1) && (backToKw pos (keywordEach [] X.env)).all (fun x => x.1.isSome) && decide ((b :: ([] : List Expr)).length + ([] : List Keyword).length + (if ([] : List Keyword).isEmpty then 0 else 1) < 30)) = true := by exact few_ok rfl)
    (hs : starEach (b :: []) X.env = (false, eval b X.env) :: starEach [] X.env := by exact starEach_ns rfl) (hplain : (backTo pos (starEach [] X.env)).any (·.1) = false := by exact plain_ok rfl) :
    ED X Γ (.Call (.Attribute a "join" apos) [b] [] pos) (.str (joinS l ls)) :=
  ed_of (pe_bm PySem.F.plainAttrs_str PySem.F.slot_str_join PySem.F.type_str_join mt_join pe_w (pa_cons pe_w pa_nil hs) hbase hfew hline hs hplain) fun F σ G H s Q q => ha F σ G H s _ fun v G1 H1 g1 i1 => by
    cases i1
    refine ⟨rfl, hb F σ G1 H1 (s.grow g1) _ fun w G2 H2 g2 i2 => ?_⟩
    cases i2 with
    | @tup p vs _ h2 i2 =>
      have e := i2.strs
      subst e
      refine ⟨_, p, ls.map S, rfl, rfl, .inr ?_, ?_, ?_⟩
      · have h3 := Evl.ex_t g2.s h2
        rw [List.map_map]
        exact h3
      · rw [List.map_map, List.length_map, S_len]
        have : (ls.map ((fun x : Str => x.length) ∘ S)) = ls.map (·.length) := List.map_congr_left fun x _ => S_len x
        rw [this]
        exact hz
      · exact q _ G2 H2 (g1.trans g2) (.str _)
end
/-! ### what a mirror hands back -/
def outX {τ : Type} (dec : D → τ) (d : τ) : Ctl Unit Empty → Except Exn τ
  | .ret (.v x) => .ok (dec x)
  | .ret (.x e) => .error e
  | _ => .ok d
def okOf {τ : Type} (r : Except Exn τ) (d : τ) : τ := match r with
  | .ok x => x
  | .error _ => d
theorem resX_ok {τ : Type} {enc : τ → D} {r : Except Exn τ} {d : τ} (h : ∃ x, r = .ok x) : resX enc r = .v (enc (okOf r d)) := by
  obtain ⟨x, rfl⟩ := h
  rfl
theorem resO_ok {τ : Type} {enc : τ → OO} {r : Except Exn τ} {d : τ} (h : ∃ x, r = .ok x) : resO enc r = .o (enc (okOf r d)) := by
  obtain ⟨x, rfl⟩ := h
  rfl
/-- a loop that goes through or raises -/
theorem loop_fold {S Y T : Type} {step : S → Y → Ctl S S} {f : S → Y → Except Exn S} (h : ∀ s y, step s y = match f s y with | .ok s' => .go s' | .error e => .ret (.x e)) : ∀ (ys : List Y) (s : S), (loop step s ys : Ctl S T) = match ys.foldlM f s with | .ok s' => .go s' | .error e => .ret (.x e)
  | [], _ => rfl
  | y :: ys, s => by
    rw [List.foldlM_cons]
    unfold loop
    rw [h s y]
    cases f s y with
    | ok s' => exact loop_fold h ys s'
    | error e => rfl
theorem ok_okOf {τ : Type} {r : Except Exn τ} {x d : τ} (h : r = .ok x) : r = .ok (okOf r d) := by
  subst h
  rfl
end Sd

namespace LawP
open PySem PySem.Spec PyProof.Rows L2 Sd
def top (i : Nat) : Stmt := PySem.Challenge.pw_drawhouse_k15_shown_and_read.main.body.getD i (.Pass ⟨0, 0, 0, 0⟩)
def LETTERS : List Nat := [97, 98, 99, 100, 101, 102, 103, 104, 105, 106, 107, 108, 109, 110, 111, 112, 113, 114, 115, 116, 117, 118, 119, 120, 121, 122]
theorem name_join (f : Int → Nat) (n : Nat) (h : n ≤ 8) : ((List.map (fun y : Int => [f y]) (rints 0 n)).map (·.length)).sum + (List.map (fun y : Int => [f y]) (rints 0 n)).length * ([] : List Nat).length ≤ 16777216 :=
  join_ok (n := 1) (m := 8) (k := 0) (s := []) (fun x hx => by obtain ⟨y, _, rfl⟩ := List.mem_map.mp hx; exact Nat.le_refl 1) (by rw [List.length_map, rints_len]; exact h) (Nat.le_refl 0) (by decide)
def nameOk (s : List Nat) : Bool := (decide ((1 : Int) ≤ (s.length : Int)) && decide ((s.length : Int) ≤ 8)) && s.all (fun c => decide (c ∈ LETTERS))
def allOk (ls : List (List Nat)) (m : Int) : Bool := (decide ((1 : Int) ≤ (ls.length : Int)) && decide ((ls.length : Int) ≤ m)) && ls.all nameOk
def addrOk (s : List Nat) : Bool := allOk (splitS s [46]) 3
theorem any_not {α : Type} (p : α → Bool) (xs : List α) : xs.any (fun x => !p x) = !xs.all p := by
  induction xs with
  | nil => rfl
  | cons x xs ih => rw [List.any_cons, List.all_cons, ih]; cases p x <;> rfl
theorem find_all {Y : Type} (p : Y → Bool) (ys : List Y) (k : Unit → Ctl Unit Empty) : (Ctl.bind (S := Unit) (loop (Y := Y) (fun (_ : Unit) (y : Y) => if (!p y) = true then Ctl.up (.ret (.v (.bl false))) else .go ()) () ys) k) = if ys.all p = true then k () else .ret (.v (.bl false)) := by
  rw [loop_find (p := fun y => !p y), any_not]
  cases ys.all p <;> rfl
def FIGURES : List Nat := [48, 49, 50, 51, 52, 53, 54, 55, 56, 57]
def writtenL (s : List Nat) : Bool := ((decide ((1 : Int) ≤ (s.length : Int)) && decide ((s.length : Int) ≤ 20)) && s.all (fun c => decide (c ∈ FIGURES))) && (decide (s = [48]) || !decide (([ix s 0 0] : List Nat) = [48]))
theorem mem_figs {c : Nat} (h : c ∈ FIGURES) : 48 ≤ c ∧ c ≤ 57 := by
  unfold FIGURES at h
  simp only [List.mem_cons, List.not_mem_nil, or_false] at h
  omega
theorem written_digits {s : List Nat} (h : writtenL s = true) : NumText.AllDigits s ∧ s ≠ [] ∧ s.length ≤ 20 := by
  unfold writtenL at h
  simp only [Bool.and_eq_true, decide_eq_true_eq, List.all_eq_true] at h
  obtain ⟨⟨⟨h1, h2⟩, h3⟩, _⟩ := h
  refine ⟨fun c hc => mem_figs (h3 c hc), fun e => ?_, by omega⟩
  rw [e] at h1
  exact absurd h1 (by decide)
theorem thing_path {T : Type} {w k v2 v3 : List Nat} {b : Bool} {s : List Nat × List Nat} (hw : w.length ≤ 10000) (hv : v3 = w) (hs : (if b = true then bnd k fun v5 => bnd (cutL w none (some (-2))) fun v6 => Ctl.go (T := T) (v5, v6) else Ctl.go (v2, v3)) = Ctl.go s) : s.2.length ≤ 10000 := by
  have q := cutL_len w none (some (-2))
  subst hv
  cases b with
  | true =>
    injection hs with e
    rw [← e]
    show (cutL v3 none (some (-2))).length ≤ _
    omega
  | false =>
    injection hs with e
    rw [← e]
    exact hw
theorem thing_names {s : List Nat} (h : s.length ≤ 10000) : (splitS s [46]).length ≤ 10001 ∧ ∀ x ∈ splitS s [46], x.length ≤ 10000 := by
  have q := splitS_len (c := 46) (by decide) s
  exact ⟨by omega, fun x hx => Nat.le_trans (splitS_mem (by decide) hx).1 h⟩
theorem read_ix {s : List Nat} {i : Int} (hs : s.length ≤ 10000) (h : -((splitS s [32]).length : Int) ≤ i ∧ i < ((splitS s [32]).length : Int)) : (ix (splitS s [32]) i []).length ≤ 10000 := Nat.le_trans (ix_all (P := fun x : List Nat => x.length ≤ s.length) (fun x hx => (splitS_mem (c := 32) (by decide) hx).1) h) hs
theorem read_inv {s s2 : List (Int × List Nat × D)} {i : Nat} {b : Bool} {r : Except Exn Int} {r2 : Except Exn (List Nat × D)} (hv : s.length = i)
    (e : (bnd ((1 : Int) : Int) fun v11 => Ctl.bind (S := Int) (T := List (Int × List Nat × D)) (if b = true then bndX r fun v13 => .go v13 else .go v11) fun s14 => bndX r2 fun v15 => bnd (s ++ [(s14, v15.1, v15.2)] : (List (Int × (List Nat) × D))) fun v16 => Ctl.go v16) = Ctl.go s2) : s2.length = i + 1 := by
  have go : ∀ (k : Int) {s3}, (bndX r2 fun v15 => bnd (s ++ [(k, v15.1, v15.2)] : (List (Int × (List Nat) × D))) fun v16 => Ctl.go (T := List (Int × List Nat × D)) v16) = Ctl.go s3 → s3.length = i + 1 := fun k s3 e => by
    cases r2 with
    | ok t =>
      injection e with e
      rw [← e, List.length_append, hv]
      rfl
    | error x => cases e
  cases b with
  | false => exact go 1 e
  | true =>
    cases r with
    | ok k => exact go k e
    | error x => cases e
abbrev s_law_cell : Stmt := top 20
abbrev nm_law_cell : List Str := ["_law_script", "_law_k"]
theorem sc_law_cell : FnScope nm_law_cell ["_law_script", "_law_k"] (defScope s_law_cell) := ⟨rfl, rfl, rfl, by decide +kernel, rfl, by decide +kernel, by decide +kernel⟩
theorem lk_law_cell_law_k : (defScope s_law_cell).names.lookup ("_law_k" : Str) = some .local := by decide +kernel
theorem lk_law_cell_law_script : (defScope s_law_cell).names.lookup ("_law_script" : Str) = some .local := by decide +kernel
theorem lk_law_cell_len : (defScope s_law_cell).names.lookup ("len" : Str) = some .globalImplicit := by decide +kernel
def m_cell (a0 : (List Int)) (a1 : Int) : Ctl Unit Empty := if (decide (a1 < ((a0).length : Int))) = true then Ctl.up (.ret (.v (D.int ((ix a0 a1 0) % B16)))) else .ret (.v (D.int (0 : Int)))
theorem bd_cell (X : Cx) (E : XK) (hX : XOk 0 nm_law_cell (defScope s_law_cell) X E) (m_len : X.mg "len" = none) (a0 : (List Int)) (a1 : Int) (hp : 0 ≤ a1) : BK X E ([.d (D.scr a0), .d (D.int a1)] : List B) (defBody s_law_cell) (fun s : Unit => List.replicate 2 B.un) (fun s : Empty => nomatch s) (m_cell a0 a1) := by
  unfold m_cell
  exact (b_ifr (et_cmp (od_lt _ _) (ed_var 1 (hX.nm rfl) (hX.vs (vis_l lk_law_cell_law_k)) rfl) (ed_lenScr (hX.gl lk_law_cell_len) m_len (ed_var 0 (hX.nm rfl) (hX.vs (vis_l lk_law_cell_law_script)) rfl))) (fun h1 => (b_ret (ed_op (od_andB _) (ed_ixScr (ed_var 0 (hX.nm rfl) (hX.vs (vis_l lk_law_cell_law_script)) rfl) (ed_var 1 (hX.nm rfl) (hX.vs (vis_l lk_law_cell_law_k)) rfl) (ix_ok (d := 0) (by first | decide | omega | (dsimp only; omega) | (unfold CPow; decide) | (subst_vars; (try simp only [List.length_cons, List.length_nil, decide_eq_true_eq, decide_eq_false_iff_not, Bool.and_eq_true, Bool.or_eq_true, Bool.not_eq_true', CMul, CDiv, CPow, sizeLine_eq] at *); omega)))) (ed_op (od_sub _ _) (ed_op (od_shlW 16000 _ (by decide) rfl) ed_int ed_int) ed_int)))) (fun h1 => (b_ret ed_int)))
def cellL (a0 : (List Int)) (a1 : Int) : Int := outI (m_cell a0 a1)
theorem m_cell_eq (a0 : (List Int)) (a1 : Int) : m_cell a0 a1 = .ret (.v (D.int (cellL a0 a1))) := by
  unfold cellL
  exact (show ∀ c : Ctl Unit Empty, (∃ z, c = .ret (.v (D.int z))) → c = .ret (.v (D.int (outI c))) from fun c ⟨z, h⟩ => by rw [h]; rfl) _ (by unfold m_cell; (try simp only [bnd]); (repeat' split) <;> first | exact ⟨_, rfl⟩ | (exfalso; simp_all))
abbrev sp_cell (K : PySem.W.Frag) : Sp := spF K (A := (List Int) × Int) (fun a => [(D.scr a.1), (D.int a.2)]) (fun a => 0 ≤ a.2) (fun a => .v (D.int (cellL a.1 a.2)))
theorem ok_cell {P : Program} {w : World} {K : PySem.W.Frag} {mg : Str → Option Value} {base : Heap} {f : Addr} {fd : FuncData} (F : Fun K "_law_cell" "_law_cell" s_law_cell f fd) (m_len : mg "len" = none) : FnOk P w K mg base (L2.CX P w) 1 f fd ["_law_script", "_law_k"] (sp_cell K) := by
  refine def_ok F sc_law_cell (fun _ => rfl) (fun a hp X E e1 e2 e3 e4 e5 hX => ?_)
  subst e1 e2 e3 e4 e5
  have h := bd_cell X E hX m_len a.1 a.2 hp
  rw [m_cell_eq a.1 a.2] at h
  exact h
abbrev s_law_sub : Stmt := top 21
abbrev nm_law_sub : List Str := ["_law_cell_here", "_law_j"]
theorem sc_law_sub : FnScope nm_law_sub ["_law_cell_here", "_law_j"] (defScope s_law_sub) := ⟨rfl, rfl, rfl, by decide +kernel, rfl, by decide +kernel, by decide +kernel⟩
theorem lk_law_sub_law_cell_here : (defScope s_law_sub).names.lookup ("_law_cell_here" : Str) = some .local := by decide +kernel
theorem lk_law_sub_law_j : (defScope s_law_sub).names.lookup ("_law_j" : Str) = some .local := by decide +kernel
def m_sub (a0 : Int) (a1 : Int) : Ctl Unit Empty := if ((decide ((a0 % (2 : Int)) = (1 : Int))) && (decide ((0 : Int) < (a0 / 2 ^ ((((480 : Int) * a1) + (400 : Int))).toNat)))) = true then Ctl.up (.ret (.v (D.int (Builtin.bitOr (a0 / 2 ^ (((480 : Int) * a1)).toNat) (1 : Int))))) else .ret (.v (D.int ((((a0 / (2 : Int)) / (a1 + (1 : Int))) + ((104729 : Int) * a1)) * (2 : Int))))
theorem bd_sub (X : Cx) (E : XK) (hX : XOk 0 nm_law_sub (defScope s_law_sub) X E) (a0 : Int) (a1 : Int) (hp : 0 ≤ a1 ∧ a1 ≤ 1000) : BK X E ([.d (D.int a0), .d (D.int a1)] : List B) (defBody s_law_sub) (fun s : Unit => List.replicate 2 B.un) (fun s : Empty => nomatch s) (m_sub a0 a1) := by
  unfold m_sub
  exact (b_ifr (et_w (ew_and (et_cmp (od_eqI _ _) (ed_op (od_mod _ _ (by first | decide | omega | (dsimp only; omega) | (unfold CPow; decide) | (subst_vars; (try simp only [List.length_cons, List.length_nil, decide_eq_true_eq, decide_eq_false_iff_not, Bool.and_eq_true, Bool.or_eq_true, Bool.not_eq_true', CMul, CDiv, CPow, sizeLine_eq] at *); omega))) (ed_var 0 (hX.nm rfl) (hX.vs (vis_l lk_law_sub_law_cell_here)) rfl) ed_int) ed_int) (fun h1 => (ew_and1 (et_cmp (od_gt _ _) (ed_op (od_shr _ _ (by first | decide | omega | (dsimp only; omega) | (unfold CPow; decide) | (subst_vars; (try simp only [List.length_cons, List.length_nil, decide_eq_true_eq, decide_eq_false_iff_not, Bool.and_eq_true, Bool.or_eq_true, Bool.not_eq_true', CMul, CDiv, CPow, sizeLine_eq] at *); omega))) (ed_var 0 (hX.nm rfl) (hX.vs (vis_l lk_law_sub_law_cell_here)) rfl) (ed_op (od_add _ _) (ed_op (od_mul _ _ (by first | decide | omega | (dsimp only; omega) | (unfold CPow; decide) | (subst_vars; (try simp only [List.length_cons, List.length_nil, decide_eq_true_eq, decide_eq_false_iff_not, Bool.and_eq_true, Bool.or_eq_true, Bool.not_eq_true', CMul, CDiv, CPow, sizeLine_eq] at *); omega))) ed_int (ed_var 1 (hX.nm rfl) (hX.vs (vis_l lk_law_sub_law_j)) rfl)) ed_int)) ed_int))))) (fun h2 => (b_ret (ed_op (od_or _ _) (ed_op (od_shr _ _ (by first | decide | omega | (dsimp only; omega) | (unfold CPow; decide) | (subst_vars; (try simp only [List.length_cons, List.length_nil, decide_eq_true_eq, decide_eq_false_iff_not, Bool.and_eq_true, Bool.or_eq_true, Bool.not_eq_true', CMul, CDiv, CPow, sizeLine_eq] at *); omega))) (ed_var 0 (hX.nm rfl) (hX.vs (vis_l lk_law_sub_law_cell_here)) rfl) (ed_op (od_mul _ _ (by first | decide | omega | (dsimp only; omega) | (unfold CPow; decide) | (subst_vars; (try simp only [List.length_cons, List.length_nil, decide_eq_true_eq, decide_eq_false_iff_not, Bool.and_eq_true, Bool.or_eq_true, Bool.not_eq_true', CMul, CDiv, CPow, sizeLine_eq] at *); omega))) ed_int (ed_var 1 (hX.nm rfl) (hX.vs (vis_l lk_law_sub_law_j)) rfl))) ed_int))) (fun h2 => (b_ret (ed_op (od_mul _ _ (by first | decide | omega | (dsimp only; omega) | (unfold CPow; decide) | (subst_vars; (try simp only [List.length_cons, List.length_nil, decide_eq_true_eq, decide_eq_false_iff_not, Bool.and_eq_true, Bool.or_eq_true, Bool.not_eq_true', CMul, CDiv, CPow, sizeLine_eq] at *); omega))) (ed_op (od_add _ _) (ed_op (od_div _ _ (by first | decide | omega | (dsimp only; omega) | (unfold CPow; decide) | (subst_vars; (try simp only [List.length_cons, List.length_nil, decide_eq_true_eq, decide_eq_false_iff_not, Bool.and_eq_true, Bool.or_eq_true, Bool.not_eq_true', CMul, CDiv, CPow, sizeLine_eq] at *); omega))) (ed_op (od_div _ _ (by first | decide | omega | (dsimp only; omega) | (unfold CPow; decide) | (subst_vars; (try simp only [List.length_cons, List.length_nil, decide_eq_true_eq, decide_eq_false_iff_not, Bool.and_eq_true, Bool.or_eq_true, Bool.not_eq_true', CMul, CDiv, CPow, sizeLine_eq] at *); omega))) (ed_var 0 (hX.nm rfl) (hX.vs (vis_l lk_law_sub_law_cell_here)) rfl) ed_int) (ed_op (od_add _ _) (ed_var 1 (hX.nm rfl) (hX.vs (vis_l lk_law_sub_law_j)) rfl) ed_int)) (ed_op (od_mul _ _ (by first | decide | omega | (dsimp only; omega) | (unfold CPow; decide) | (subst_vars; (try simp only [List.length_cons, List.length_nil, decide_eq_true_eq, decide_eq_false_iff_not, Bool.and_eq_true, Bool.or_eq_true, Bool.not_eq_true', CMul, CDiv, CPow, sizeLine_eq] at *); omega))) ed_int (ed_var 1 (hX.nm rfl) (hX.vs (vis_l lk_law_sub_law_j)) rfl))) ed_int))))
def subL (a0 : Int) (a1 : Int) : Int := outI (m_sub a0 a1)
theorem m_sub_eq (a0 : Int) (a1 : Int) : m_sub a0 a1 = .ret (.v (D.int (subL a0 a1))) := by
  unfold subL
  exact (show ∀ c : Ctl Unit Empty, (∃ z, c = .ret (.v (D.int z))) → c = .ret (.v (D.int (outI c))) from fun c ⟨z, h⟩ => by rw [h]; rfl) _ (by unfold m_sub; (try simp only [bnd]); (repeat' split) <;> first | exact ⟨_, rfl⟩ | (exfalso; simp_all))
abbrev sp_sub (K : PySem.W.Frag) : Sp := spF K (A := Int × Int) (fun a => [(D.int a.1), (D.int a.2)]) (fun a => 0 ≤ a.2 ∧ a.2 ≤ 1000) (fun a => .v (D.int (subL a.1 a.2)))
theorem ok_sub {P : Program} {w : World} {K : PySem.W.Frag} {mg : Str → Option Value} {base : Heap} {f : Addr} {fd : FuncData} (F : Fun K "_law_sub" "_law_sub" s_law_sub f fd) : FnOk P w K mg base (L2.CX P w) 1 f fd ["_law_cell_here", "_law_j"] (sp_sub K) := by
  refine def_ok F sc_law_sub (fun _ => rfl) (fun a hp X E e1 e2 e3 e4 e5 hX => ?_)
  subst e1 e2 e3 e4 e5
  have h := bd_sub X E hX a.1 a.2 hp
  rw [m_sub_eq a.1 a.2] at h
  exact h
abbrev s_law_number : Stmt := top 22
abbrev nm_law_number : List Str := ["_law_cell_here", "_law_far"]
theorem sc_law_number : FnScope nm_law_number ["_law_cell_here", "_law_far"] (defScope s_law_number) := ⟨rfl, rfl, rfl, by decide +kernel, rfl, by decide +kernel, by decide +kernel⟩
theorem lk_law_number_law_cell_here : (defScope s_law_number).names.lookup ("_law_cell_here" : Str) = some .local := by decide +kernel
theorem lk_law_number_law_far : (defScope s_law_number).names.lookup ("_law_far" : Str) = some .local := by decide +kernel
def m_number (a0 : Int) (a1 : Int) : Ctl Unit Empty := if ((decide ((a0 % (2 : Int)) = (1 : Int))) && (decide ((0 : Int) < (a0 / 2 ^ ((400 : Int)).toNat)))) = true then Ctl.up (.ret (.v (D.int ((a0 / 2 ^ ((400 : Int)).toNat) % a1)))) else .ret (.v (D.int ((a0 / (2 : Int)) % a1)))
theorem bd_number (X : Cx) (E : XK) (hX : XOk 0 nm_law_number (defScope s_law_number) X E) (a0 : Int) (a1 : Int) (hp : 0 < a1) : BK X E ([.d (D.int a0), .d (D.int a1)] : List B) (defBody s_law_number) (fun s : Unit => List.replicate 2 B.un) (fun s : Empty => nomatch s) (m_number a0 a1) := by
  unfold m_number
  exact (b_ifr (et_w (ew_and (et_cmp (od_eqI _ _) (ed_op (od_mod _ _ (by first | decide | omega | (dsimp only; omega) | (unfold CPow; decide) | (subst_vars; (try simp only [List.length_cons, List.length_nil, decide_eq_true_eq, decide_eq_false_iff_not, Bool.and_eq_true, Bool.or_eq_true, Bool.not_eq_true', CMul, CDiv, CPow, sizeLine_eq] at *); omega))) (ed_var 0 (hX.nm rfl) (hX.vs (vis_l lk_law_number_law_cell_here)) rfl) ed_int) ed_int) (fun h1 => (ew_and1 (et_cmp (od_gt _ _) (ed_op (od_shr _ _ (by first | decide | omega | (dsimp only; omega) | (unfold CPow; decide) | (subst_vars; (try simp only [List.length_cons, List.length_nil, decide_eq_true_eq, decide_eq_false_iff_not, Bool.and_eq_true, Bool.or_eq_true, Bool.not_eq_true', CMul, CDiv, CPow, sizeLine_eq] at *); omega))) (ed_var 0 (hX.nm rfl) (hX.vs (vis_l lk_law_number_law_cell_here)) rfl) ed_int) ed_int))))) (fun h2 => (b_ret (ed_op (od_mod _ _ (by first | decide | omega | (dsimp only; omega) | (unfold CPow; decide) | (subst_vars; (try simp only [List.length_cons, List.length_nil, decide_eq_true_eq, decide_eq_false_iff_not, Bool.and_eq_true, Bool.or_eq_true, Bool.not_eq_true', CMul, CDiv, CPow, sizeLine_eq] at *); omega))) (ed_op (od_shr _ _ (by first | decide | omega | (dsimp only; omega) | (unfold CPow; decide) | (subst_vars; (try simp only [List.length_cons, List.length_nil, decide_eq_true_eq, decide_eq_false_iff_not, Bool.and_eq_true, Bool.or_eq_true, Bool.not_eq_true', CMul, CDiv, CPow, sizeLine_eq] at *); omega))) (ed_var 0 (hX.nm rfl) (hX.vs (vis_l lk_law_number_law_cell_here)) rfl) ed_int) (ed_var 1 (hX.nm rfl) (hX.vs (vis_l lk_law_number_law_far)) rfl)))) (fun h2 => (b_ret (ed_op (od_mod _ _ (by first | decide | omega | (dsimp only; omega) | (unfold CPow; decide) | (subst_vars; (try simp only [List.length_cons, List.length_nil, decide_eq_true_eq, decide_eq_false_iff_not, Bool.and_eq_true, Bool.or_eq_true, Bool.not_eq_true', CMul, CDiv, CPow, sizeLine_eq] at *); omega))) (ed_op (od_div _ _ (by first | decide | omega | (dsimp only; omega) | (unfold CPow; decide) | (subst_vars; (try simp only [List.length_cons, List.length_nil, decide_eq_true_eq, decide_eq_false_iff_not, Bool.and_eq_true, Bool.or_eq_true, Bool.not_eq_true', CMul, CDiv, CPow, sizeLine_eq] at *); omega))) (ed_var 0 (hX.nm rfl) (hX.vs (vis_l lk_law_number_law_cell_here)) rfl) ed_int) (ed_var 1 (hX.nm rfl) (hX.vs (vis_l lk_law_number_law_far)) rfl)))))
def numberL (a0 : Int) (a1 : Int) : Int := outI (m_number a0 a1)
theorem m_number_eq (a0 : Int) (a1 : Int) : m_number a0 a1 = .ret (.v (D.int (numberL a0 a1))) := by
  unfold numberL
  exact (show ∀ c : Ctl Unit Empty, (∃ z, c = .ret (.v (D.int z))) → c = .ret (.v (D.int (outI c))) from fun c ⟨z, h⟩ => by rw [h]; rfl) _ (by unfold m_number; (try simp only [bnd]); (repeat' split) <;> first | exact ⟨_, rfl⟩ | (exfalso; simp_all))
theorem numberL_lt (c : Int) {m : Int} (h : 0 < m) : 0 ≤ numberL c m ∧ numberL c m < m := by
  unfold numberL m_number
  split
  · exact ⟨Int.emod_nonneg _ (by omega), Int.emod_lt_of_pos _ h⟩
  · exact ⟨Int.emod_nonneg _ (by omega), Int.emod_lt_of_pos _ h⟩
abbrev sp_number (K : PySem.W.Frag) : Sp := spF K (A := Int × Int) (fun a => [(D.int a.1), (D.int a.2)]) (fun a => 0 < a.2) (fun a => .v (D.int (numberL a.1 a.2)))
theorem ok_number {P : Program} {w : World} {K : PySem.W.Frag} {mg : Str → Option Value} {base : Heap} {f : Addr} {fd : FuncData} (F : Fun K "_law_number" "_law_number" s_law_number f fd) : FnOk P w K mg base (L2.CX P w) 1 f fd ["_law_cell_here", "_law_far"] (sp_number K) := by
  refine def_ok F sc_law_number (fun _ => rfl) (fun a hp X E e1 e2 e3 e4 e5 hX => ?_)
  subst e1 e2 e3 e4 e5
  have h := bd_number X E hX a.1 a.2 hp
  rw [m_number_eq a.1 a.2] at h
  exact h
abbrev s_law_pick : Stmt := top 23
abbrev nm_law_pick : List Str := ["_law_cell_here", "_law_k", "_law_many", "_law_great", "_law_by", "_law_one"]
theorem sc_law_pick : FnScope nm_law_pick ["_law_cell_here", "_law_k", "_law_many"] (defScope s_law_pick) := ⟨rfl, rfl, rfl, by decide +kernel, rfl, by decide +kernel, by decide +kernel⟩
theorem lk_law_pick_law_by : (defScope s_law_pick).names.lookup ("_law_by" : Str) = some .local := by decide +kernel
theorem lk_law_pick_law_cell_here : (defScope s_law_pick).names.lookup ("_law_cell_here" : Str) = some .local := by decide +kernel
theorem lk_law_pick_law_great : (defScope s_law_pick).names.lookup ("_law_great" : Str) = some .local := by decide +kernel
theorem lk_law_pick_law_k : (defScope s_law_pick).names.lookup ("_law_k" : Str) = some .local := by decide +kernel
theorem lk_law_pick_law_many : (defScope s_law_pick).names.lookup ("_law_many" : Str) = some .local := by decide +kernel
theorem lk_law_pick_law_one : (defScope s_law_pick).names.lookup ("_law_one" : Str) = some .local := by decide +kernel
def m_pick (a0 : Int) (a1 : Int) (a2 : Int) : Ctl Unit Empty := if ((decide ((a0 % (2 : Int)) = (1 : Int))) && (decide ((0 : Int) < (a0 / 2 ^ ((400 : Int)).toNat)))) = true then Ctl.up (.ret (.v (D.int (((a0 / 2 ^ (((1 : Int) + ((10 : Int) * a1))).toNat) % 2 ^ 10) % a2)))) else bnd ((2305843009213693951 : Int) : Int) fun v3 => bnd ((ix ([(48271 : Int), (1000003 : Int), (15485863 : Int), (32452843 : Int), (49979687 : Int), (67867967 : Int), (86028121 : Int), (104395301 : Int)] : List Int) (a1 % (8 : Int)) 0) : Int) fun v4 => bnd ((v4 * (ix ([(179424673 : Int), (373587883 : Int), (573259391 : Int), (776531401 : Int), (982451653 : Int)] : List Int) (a1 / (8 : Int)) 0)) : Int) fun v5 => bnd ((((((a0 / (2 : Int)) % v3) + (1 : Int)) * v5) % v3) : Int) fun v6 => bnd (((v6 * v6) % (1000000000039 : Int)) : Int) fun v7 => .ret (.v (D.int ((((((v7 + a1) + (1 : Int)) * ((v7 / (10007 : Int)) + (48271 : Int))) % (67280421310721 : Int)) / (31 : Int)) % a2)))
theorem bd_pick (X : Cx) (E : XK) (hX : XOk 0 nm_law_pick (defScope s_law_pick) X E) (a0 : Int) (a1 : Int) (a2 : Int) (hp : (0 ≤ a1 ∧ a1 < 40) ∧ 0 < a2) : BK X E ([.d (D.int a0), .d (D.int a1), .d (D.int a2), .un, .un, .un] : List B) (defBody s_law_pick) (fun s : Unit => List.replicate 6 B.un) (fun s : Empty => nomatch s) (m_pick a0 a1 a2) := by
  unfold m_pick
  have b1 := ix_all (P := fun x : Int => 0 ≤ x ∧ x ≤ 1000000000) (xs := [48271, 1000003, 15485863, 32452843, 49979687, 67867967, 86028121, 104395301]) (i := a1 % 8) (d := 0) (by decide) (by simp; omega)
  have b2 := ix_all (P := fun x : Int => 0 ≤ x ∧ x ≤ 1000000000) (xs := [179424673, 373587883, 573259391, 776531401, 982451653]) (i := a1 / 8) (d := 0) (by decide) (by simp; omega)
  exact (b_ifr (et_w (ew_and (et_cmp (od_eqI _ _) (ed_op (od_mod _ _ (by first | decide | omega | (dsimp only; omega) | (unfold CPow; decide) | (subst_vars; (try simp only [List.length_cons, List.length_nil, decide_eq_true_eq, decide_eq_false_iff_not, Bool.and_eq_true, Bool.or_eq_true, Bool.not_eq_true', CMul, CDiv, CPow, sizeLine_eq] at *); omega))) (ed_var 0 (hX.nm rfl) (hX.vs (vis_l lk_law_pick_law_cell_here)) rfl) ed_int) ed_int) (fun h1 => (ew_and1 (et_cmp (od_gt _ _) (ed_op (od_shr _ _ (by first | decide | omega | (dsimp only; omega) | (unfold CPow; decide) | (subst_vars; (try simp only [List.length_cons, List.length_nil, decide_eq_true_eq, decide_eq_false_iff_not, Bool.and_eq_true, Bool.or_eq_true, Bool.not_eq_true', CMul, CDiv, CPow, sizeLine_eq] at *); omega))) (ed_var 0 (hX.nm rfl) (hX.vs (vis_l lk_law_pick_law_cell_here)) rfl) ed_int) ed_int))))) (fun h2 => (b_ret (ed_op (od_mod _ _ (by first | decide | omega | (dsimp only; omega) | (unfold CPow; decide) | (subst_vars; (try simp only [List.length_cons, List.length_nil, decide_eq_true_eq, decide_eq_false_iff_not, Bool.and_eq_true, Bool.or_eq_true, Bool.not_eq_true', CMul, CDiv, CPow, sizeLine_eq] at *); omega))) (ed_op (od_andM _ _ 10 (by decide)) (ed_op (od_shr _ _ (by first | decide | omega | (dsimp only; omega) | (unfold CPow; decide) | (subst_vars; (try simp only [List.length_cons, List.length_nil, decide_eq_true_eq, decide_eq_false_iff_not, Bool.and_eq_true, Bool.or_eq_true, Bool.not_eq_true', CMul, CDiv, CPow, sizeLine_eq] at *); omega))) (ed_var 0 (hX.nm rfl) (hX.vs (vis_l lk_law_pick_law_cell_here)) rfl) (ed_op (od_add _ _) ed_int (ed_op (od_mul _ _ (by first | decide | omega | (dsimp only; omega) | (unfold CPow; decide) | (subst_vars; (try simp only [List.length_cons, List.length_nil, decide_eq_true_eq, decide_eq_false_iff_not, Bool.and_eq_true, Bool.or_eq_true, Bool.not_eq_true', CMul, CDiv, CPow, sizeLine_eq] at *); omega))) ed_int (ed_var 1 (hX.nm rfl) (hX.vs (vis_l lk_law_pick_law_k)) rfl)))) ed_int) (ed_var 2 (hX.nm rfl) (hX.vs (vis_l lk_law_pick_law_many)) rfl)))) (fun h2 => (b_set 3 D.int hX rfl (loc_l lk_law_pick_law_great) ed_int (fun v3 hv3 => (show BK X E ([.d (D.int a0), .d (D.int a1), .d (D.int a2), .d (D.int v3), .un, .un] : List B) _ _ _ _ from (b_set 4 D.int hX rfl (loc_l lk_law_pick_law_by) (ed_ixL (EvO.el (eo_lst (ea_cons ed_int (ea_cons ed_int (ea_cons ed_int (ea_cons ed_int (ea_cons ed_int (ea_cons ed_int (ea_cons ed_int (ea_cons ed_int ea_nil)))))))) (by show 8 ≤ sizeLine; decide))) (ed_op (od_mod _ _ (by first | decide | omega | (dsimp only; omega) | (unfold CPow; decide) | (subst_vars; (try simp only [List.length_cons, List.length_nil, decide_eq_true_eq, decide_eq_false_iff_not, Bool.and_eq_true, Bool.or_eq_true, Bool.not_eq_true', CMul, CDiv, CPow, sizeLine_eq] at *); omega))) (ed_var 1 (hX.nm rfl) (hX.vs (vis_l lk_law_pick_law_k)) rfl) ed_int) (atI_map (f := D.int) (xs := ([(48271 : Int), (1000003 : Int), (15485863 : Int), (32452843 : Int), (49979687 : Int), (67867967 : Int), (86028121 : Int), (104395301 : Int)] : List Int)) (ix_ok (d := 0) (by first | decide | omega | (dsimp only; omega) | (unfold CPow; decide) | (subst_vars; (try simp only [List.length_cons, List.length_nil, decide_eq_true_eq, decide_eq_false_iff_not, Bool.and_eq_true, Bool.or_eq_true, Bool.not_eq_true', CMul, CDiv, CPow, sizeLine_eq] at *); omega))))) (fun v4 hv4 => (show BK X E ([.d (D.int a0), .d (D.int a1), .d (D.int a2), .d (D.int v3), .d (D.int v4), .un] : List B) _ _ _ _ from (b_set 4 D.int hX rfl (loc_l lk_law_pick_law_by) (ed_op (od_mul _ _ (by first | decide | omega | (dsimp only; omega) | (unfold CPow; decide) | (subst_vars; (try simp only [List.length_cons, List.length_nil, decide_eq_true_eq, decide_eq_false_iff_not, Bool.and_eq_true, Bool.or_eq_true, Bool.not_eq_true', CMul, CDiv, CPow, sizeLine_eq] at *); omega))) (ed_var 4 (hX.nm rfl) (hX.vs (vis_l lk_law_pick_law_by)) rfl) (ed_ixL (EvO.el (eo_lst (ea_cons ed_int (ea_cons ed_int (ea_cons ed_int (ea_cons ed_int (ea_cons ed_int ea_nil))))) (by show 5 ≤ sizeLine; decide))) (ed_op (od_div _ _ (by first | decide | omega | (dsimp only; omega) | (unfold CPow; decide) | (subst_vars; (try simp only [List.length_cons, List.length_nil, decide_eq_true_eq, decide_eq_false_iff_not, Bool.and_eq_true, Bool.or_eq_true, Bool.not_eq_true', CMul, CDiv, CPow, sizeLine_eq] at *); omega))) (ed_var 1 (hX.nm rfl) (hX.vs (vis_l lk_law_pick_law_k)) rfl) ed_int) (atI_map (f := D.int) (xs := ([(179424673 : Int), (373587883 : Int), (573259391 : Int), (776531401 : Int), (982451653 : Int)] : List Int)) (ix_ok (d := 0) (by first | decide | omega | (dsimp only; omega) | (unfold CPow; decide) | (subst_vars; (try simp only [List.length_cons, List.length_nil, decide_eq_true_eq, decide_eq_false_iff_not, Bool.and_eq_true, Bool.or_eq_true, Bool.not_eq_true', CMul, CDiv, CPow, sizeLine_eq] at *); omega)))))) (fun v5 hv5 => (show BK X E ([.d (D.int a0), .d (D.int a1), .d (D.int a2), .d (D.int v3), .d (D.int v5), .un] : List B) _ _ _ _ from (b_set 5 D.int hX rfl (loc_l lk_law_pick_law_one) (ed_op (od_mod _ _ (by first | decide | omega | (dsimp only; omega) | (unfold CPow; decide) | (subst_vars; (try simp only [List.length_cons, List.length_nil, decide_eq_true_eq, decide_eq_false_iff_not, Bool.and_eq_true, Bool.or_eq_true, Bool.not_eq_true', CMul, CDiv, CPow, sizeLine_eq] at *); omega))) (ed_op (od_mul _ _ (by first | decide | omega | (dsimp only; omega) | (unfold CPow; decide) | (subst_vars; (try simp only [List.length_cons, List.length_nil, decide_eq_true_eq, decide_eq_false_iff_not, Bool.and_eq_true, Bool.or_eq_true, Bool.not_eq_true', CMul, CDiv, CPow, sizeLine_eq] at *); omega))) (ed_op (od_add _ _) (ed_op (od_mod _ _ (by first | decide | omega | (dsimp only; omega) | (unfold CPow; decide) | (subst_vars; (try simp only [List.length_cons, List.length_nil, decide_eq_true_eq, decide_eq_false_iff_not, Bool.and_eq_true, Bool.or_eq_true, Bool.not_eq_true', CMul, CDiv, CPow, sizeLine_eq] at *); omega))) (ed_op (od_div _ _ (by first | decide | omega | (dsimp only; omega) | (unfold CPow; decide) | (subst_vars; (try simp only [List.length_cons, List.length_nil, decide_eq_true_eq, decide_eq_false_iff_not, Bool.and_eq_true, Bool.or_eq_true, Bool.not_eq_true', CMul, CDiv, CPow, sizeLine_eq] at *); omega))) (ed_var 0 (hX.nm rfl) (hX.vs (vis_l lk_law_pick_law_cell_here)) rfl) ed_int) (ed_var 3 (hX.nm rfl) (hX.vs (vis_l lk_law_pick_law_great)) rfl)) ed_int) (ed_var 4 (hX.nm rfl) (hX.vs (vis_l lk_law_pick_law_by)) rfl)) (ed_var 3 (hX.nm rfl) (hX.vs (vis_l lk_law_pick_law_great)) rfl)) (fun v6 hv6 => (show BK X E ([.d (D.int a0), .d (D.int a1), .d (D.int a2), .d (D.int v3), .d (D.int v5), .d (D.int v6)] : List B) _ _ _ _ from (b_set 5 D.int hX rfl (loc_l lk_law_pick_law_one) (ed_op (od_mod _ _ (by first | decide | omega | (dsimp only; omega) | (unfold CPow; decide) | (subst_vars; (try simp only [List.length_cons, List.length_nil, decide_eq_true_eq, decide_eq_false_iff_not, Bool.and_eq_true, Bool.or_eq_true, Bool.not_eq_true', CMul, CDiv, CPow, sizeLine_eq] at *); omega))) (ed_op (od_mul _ _ (by first | decide | omega | (dsimp only; omega) | (unfold CPow; decide) | (subst_vars; (try simp only [List.length_cons, List.length_nil, decide_eq_true_eq, decide_eq_false_iff_not, Bool.and_eq_true, Bool.or_eq_true, Bool.not_eq_true', CMul, CDiv, CPow, sizeLine_eq] at *); omega))) (ed_var 5 (hX.nm rfl) (hX.vs (vis_l lk_law_pick_law_one)) rfl) (ed_var 5 (hX.nm rfl) (hX.vs (vis_l lk_law_pick_law_one)) rfl)) ed_int) (fun v7 hv7 => (show BK X E ([.d (D.int a0), .d (D.int a1), .d (D.int a2), .d (D.int v3), .d (D.int v5), .d (D.int v7)] : List B) _ _ _ _ from (b_ret (ed_op (od_mod _ _ (by first | decide | omega | (dsimp only; omega) | (unfold CPow; decide) | (subst_vars; (try simp only [List.length_cons, List.length_nil, decide_eq_true_eq, decide_eq_false_iff_not, Bool.and_eq_true, Bool.or_eq_true, Bool.not_eq_true', CMul, CDiv, CPow, sizeLine_eq] at *); omega))) (ed_op (od_div _ _ (by first | decide | omega | (dsimp only; omega) | (unfold CPow; decide) | (subst_vars; (try simp only [List.length_cons, List.length_nil, decide_eq_true_eq, decide_eq_false_iff_not, Bool.and_eq_true, Bool.or_eq_true, Bool.not_eq_true', CMul, CDiv, CPow, sizeLine_eq] at *); omega))) (ed_op (od_mod _ _ (by first | decide | omega | (dsimp only; omega) | (unfold CPow; decide) | (subst_vars; (try simp only [List.length_cons, List.length_nil, decide_eq_true_eq, decide_eq_false_iff_not, Bool.and_eq_true, Bool.or_eq_true, Bool.not_eq_true', CMul, CDiv, CPow, sizeLine_eq] at *); omega))) (ed_op (od_mul _ _ (by first | decide | omega | (dsimp only; omega) | (unfold CPow; decide) | (subst_vars; (try simp only [List.length_cons, List.length_nil, decide_eq_true_eq, decide_eq_false_iff_not, Bool.and_eq_true, Bool.or_eq_true, Bool.not_eq_true', CMul, CDiv, CPow, sizeLine_eq] at *); omega))) (ed_op (od_add _ _) (ed_op (od_add _ _) (ed_var 5 (hX.nm rfl) (hX.vs (vis_l lk_law_pick_law_one)) rfl) (ed_var 1 (hX.nm rfl) (hX.vs (vis_l lk_law_pick_law_k)) rfl)) ed_int) (ed_op (od_add _ _) (ed_op (od_div _ _ (by first | decide | omega | (dsimp only; omega) | (unfold CPow; decide) | (subst_vars; (try simp only [List.length_cons, List.length_nil, decide_eq_true_eq, decide_eq_false_iff_not, Bool.and_eq_true, Bool.or_eq_true, Bool.not_eq_true', CMul, CDiv, CPow, sizeLine_eq] at *); omega))) (ed_var 5 (hX.nm rfl) (hX.vs (vis_l lk_law_pick_law_one)) rfl) ed_int) ed_int)) ed_int) ed_int) (ed_var 2 (hX.nm rfl) (hX.vs (vis_l lk_law_pick_law_many)) rfl))))))))))))))))))))
def pickL (a0 : Int) (a1 : Int) (a2 : Int) : Int := outI (m_pick a0 a1 a2)
theorem m_pick_eq (a0 : Int) (a1 : Int) (a2 : Int) : m_pick a0 a1 a2 = .ret (.v (D.int (pickL a0 a1 a2))) := by
  unfold pickL
  exact (show ∀ c : Ctl Unit Empty, (∃ z, c = .ret (.v (D.int z))) → c = .ret (.v (D.int (outI c))) from fun c ⟨z, h⟩ => by rw [h]; rfl) _ (by unfold m_pick; (try simp only [bnd]); (repeat' split) <;> first | exact ⟨_, rfl⟩ | (exfalso; simp_all))
theorem pickL_lt (c k : Int) {m : Int} (h : 0 < m) : 0 ≤ pickL c k m ∧ pickL c k m < m := by
  unfold pickL m_pick
  simp only [bnd]
  split
  · exact ⟨Int.emod_nonneg _ (by omega), Int.emod_lt_of_pos _ h⟩
  · exact ⟨Int.emod_nonneg _ (by omega), Int.emod_lt_of_pos _ h⟩
theorem pick_ix {α : Type} {xs : List α} (c k : Int) (h : 0 < xs.length) : -(xs.length : Int) ≤ pickL c k xs.length ∧ pickL c k xs.length < xs.length := by
  have q := pickL_lt c k (m := (xs.length : Int)) (by omega)
  omega
abbrev sp_pick (K : PySem.W.Frag) : Sp := spF K (A := Int × Int × Int) (fun a => [(D.int a.1), (D.int a.2.1), (D.int a.2.2)]) (fun a => (0 ≤ a.2.1 ∧ a.2.1 < 40) ∧ 0 < a.2.2) (fun a => .v (D.int (pickL a.1 a.2.1 a.2.2)))
theorem ok_pick {P : Program} {w : World} {K : PySem.W.Frag} {mg : Str → Option Value} {base : Heap} {f : Addr} {fd : FuncData} (F : Fun K "_law_pick" "_law_pick" s_law_pick f fd) : FnOk P w K mg base (L2.CX P w) 1 f fd ["_law_cell_here", "_law_k", "_law_many"] (sp_pick K) := by
  refine def_ok F sc_law_pick (fun _ => rfl) (fun a hp X E e1 e2 e3 e4 e5 hX => ?_)
  subst e1 e2 e3 e4 e5
  have h := bd_pick X E hX a.1 a.2.1 a.2.2 hp
  rw [m_pick_eq a.1 a.2.1 a.2.2] at h
  exact h
abbrev s_law_name : Stmt := top 24
abbrev nm_law_name : List Str := ["_law_cell_here", "_law_letters", "_law_j"]
theorem sc_law_name : FnScope nm_law_name ["_law_cell_here"] (defScope s_law_name) := ⟨rfl, rfl, rfl, by decide +kernel, rfl, by decide +kernel, by decide +kernel⟩
theorem lk_law_name_law_cell_here : (defScope s_law_name).names.lookup ("_law_cell_here" : Str) = some .cell := by decide +kernel
theorem lk_law_name_law_letters : (defScope s_law_name).names.lookup ("_law_letters" : Str) = some .cell := by decide +kernel
theorem lk_law_name_law_pick : (defScope s_law_name).names.lookup ("_law_pick" : Str) = some .globalImplicit := by decide +kernel
theorem lk_law_name_range : (defScope s_law_name).names.lookup ("range" : Str) = some .globalImplicit := by decide +kernel
def m_name (a0 : Int) : Ctl Unit Empty := bnd ([97, 98, 99, 100, 101, 102, 103, 104, 105, 106, 107, 108, 109, 110, 111, 112, 113, 114, 115, 116, 117, 118, 119, 120, 121, 122] : (List Nat)) fun v1 => .ret (.v (D.str (joinS ([] : List Nat) (List.map (fun y2 : Int => [(ix v1 (pickL a0 ((31 : Int) + y2) (26 : Int)) 0)]) (rints 0 (((1 : Int) + (pickL a0 (30 : Int) (8 : Int)))).toNat)))))
theorem bd_name (X : Cx) (E : XK) (hX : XOk 1 nm_law_name (defScope s_law_name) X E) (m_range : X.mg "range" = none) (kn_pick : KnX X "_law_pick" 1 (sp_pick X.K)) (a0 : Int) : BK X E ([.d (D.int a0), .un, .un] : List B) (defBody s_law_name) (fun s : Unit => List.replicate 3 B.un) (fun s : Empty => nomatch s) (m_name a0) := by
  unfold m_name
  exact (b_set 1 D.str hX rfl (loc_c lk_law_name_law_letters) (ed_str [97, 98, 99, 100, 101, 102, 103, 104, 105, 106, 107, 108, 109, 110, 111, 112, 113, 114, 115, 116, 117, 118, 119, 120, 121, 122] (by decide +kernel)) (fun v1 hv1 => (show BK X E ([.d (D.int a0), .d (D.str v1), .un] : List B) _ _ _ _ from (b_ret (ed_join (ed_str [] (by decide +kernel)) (EvO.el (eo_lc hX.calm hX.nd (lc_ok0 (Yt := Int) (τ := (List Nat)) (encY := D.int) (enc := D.str) (g := (gName 2)) (js := [2]) (own := [("_law_j", 2)]) (rints 0 (((1 : Int) + (pickL a0 (30 : Int) (8 : Int)))).toNat) (fun y2 : Int => [(ix v1 (pickL a0 ((31 : Int) + y2) (26 : Int)) 0)]) (it_range1 (hX.gl lk_law_name_range) m_range (ed_op (od_add _ _) ed_int (ed_call ((a0, (30 : Int), (8 : Int)) : Int × Int × Int) kn_pick (hX.room.mono (by decide)) (hX.gl lk_law_name_law_pick) (ea_cons (ed_var 0 (hX.nm rfl) (hX.vs (vis_c lk_law_name_law_cell_here)) rfl) (ea_cons ed_int (ea_cons ed_int ea_nil))) (by first | decide | omega | (dsimp only; omega) | (dsimp only; omega) | (have q1 := rints_mem «hy»; have q2 := pickL_lt a0 30 (m := 8) (by decide); dsimp only; omega)) rfl)) (by first | decide | omega | (dsimp only; omega) | (subst hv1; decide) | (subst hv1; have q := pickL_lt a0 (31 + y2) (m := 26) (by decide); simp; omega) | (have q := pickL_lt a0 30 (m := 8) (by decide); first | omega | (simp only [rints_len]; rw [sizeLine_eq]; omega) | (refine name_join _ _ ?_; omega)))) (blk_ok hX (by decide +kernel)) (fun _ _ _ _ _ => (pg_name (i := 2) hX.nd (hX.nm rfl) (blk_lc hX (loc_l (by decide +kernel))) (.inr (blk_lk hX (by decide +kernel))))) (by decide) (by first | decide | omega | (dsimp only; omega) | (subst hv1; decide) | (subst hv1; have q := pickL_lt a0 (31 + y2) (m := 26) (by decide); simp; omega) | (have q := pickL_lt a0 30 (m := 8) (by decide); first | omega | (simp only [rints_len]; rw [sizeLine_eq]; omega) | (refine name_join _ _ ?_; omega))) (fun y2 : Int => ([.d (D.int a0), .d (D.str v1), .d (D.int y2)] : List B)) (fun y2 _ => (show TgD X.K (gName 2) [2] (wipeB ([.d (D.int a0), .d (D.str v1), .un] : List B) [2]) (D.int y2) ([.d (D.int a0), .d (D.str v1), .d (D.int y2)] : List B) from (tg_name 2))) (fun y2 hy3 _ _ _ _ _ => (ed_ixS (ed_var 1 (hX.nm rfl) (blk_vs hX (vis_c (by decide +kernel))) rfl) (ed_call ((a0, ((31 : Int) + y2), (26 : Int)) : Int × Int × Int) kn_pick (hX.room.mono (by decide)) (blk_gl hX (by decide +kernel)) (ea_cons (ed_var 0 (hX.nm rfl) (blk_vs hX (vis_c (by decide +kernel))) rfl) (ea_cons (ed_op (od_add _ _) ed_int (ed_var 2 (hX.nm rfl) (blk_vs hX (vis_l (by decide +kernel))) rfl)) (ea_cons ed_int ea_nil))) (by first | decide | omega | (dsimp only; omega) | (dsimp only; omega) | (have q1 := rints_mem hy3; have q2 := pickL_lt a0 30 (m := 8) (by decide); dsimp only; omega)) rfl) (ix_ok (d := 0) (by first | decide | omega | (dsimp only; omega) | (subst hv1; decide) | (subst hv1; have q := pickL_lt a0 (31 + y2) (m := 26) (by decide); simp; omega) | (have q := pickL_lt a0 30 (m := 8) (by decide); first | omega | (simp only [rints_len]; rw [sizeLine_eq]; omega) | (refine name_join _ _ ?_; omega)))) (by first | decide | omega | (dsimp only; omega) | (subst hv1; decide) | (subst hv1; have q := pickL_lt a0 (31 + y2) (m := 26) (by decide); simp; omega) | (have q := pickL_lt a0 30 (m := 8) (by decide); first | omega | (simp only [rints_len]; rw [sizeLine_eq]; omega) | (refine name_join _ _ ?_; omega)))))))) (by first | decide | omega | (dsimp only; omega) | (subst hv1; decide) | (subst hv1; have q := pickL_lt a0 (31 + y2) (m := 26) (by decide); simp; omega) | (have q := pickL_lt a0 30 (m := 8) (by decide); first | omega | (simp only [rints_len]; rw [sizeLine_eq]; omega) | (refine name_join _ _ ?_; omega))))))))
def nameL (a0 : Int) : (List Nat) := outS (m_name a0)
theorem m_name_eq (a0 : Int) : m_name a0 = .ret (.v (D.str (nameL a0))) := by
  unfold nameL
  exact (show ∀ c : Ctl Unit Empty, (∃ z, c = .ret (.v (D.str z))) → c = .ret (.v (D.str (outS c))) from fun c ⟨z, h⟩ => by rw [h]; rfl) _ (by unfold m_name; (try simp only [bnd]); (repeat' split) <;> first | exact ⟨_, rfl⟩ | (exfalso; simp_all))
def letters : List Nat := [97, 98, 99, 100, 101, 102, 103, 104, 105, 106, 107, 108, 109, 110, 111, 112, 113, 114, 115, 116, 117, 118, 119, 120, 121, 122]
theorem nameL_eq (c : Int) : nameL c = ((rints 0 (1 + pickL c 30 8).toNat).map fun y => ix letters (pickL c (31 + y) 26) 0) := by
  unfold nameL m_name
  show joinS ([] : List Nat) _ = _
  rw [joinS_nil]
  induction rints 0 (1 + pickL c 30 8).toNat with
  | nil => rfl
  | cons x xs ih =>
    rw [List.map_cons, List.flatten_cons, ih]
    rfl
theorem nameL_ok (c : Int) : 0 < (nameL c).length ∧ (nameL c).length ≤ 8 ∧ ∀ x ∈ nameL c, x ∈ letters := by
  have q := pickL_lt c 30 (m := 8) (by decide)
  rw [nameL_eq, List.length_map, rints_len]
  refine ⟨by omega, by omega, fun x hx => ?_⟩
  obtain ⟨y, _, rfl⟩ := List.mem_map.mp hx
  have q := pickL_lt c (31 + y) (m := 26) (by decide)
  exact ix_mem 0 (by show -(26 : Int) ≤ _ ∧ _ < (26 : Int); omega)
theorem nameL_dot (c : Int) : 46 ∉ nameL c := fun h => by
  have := (nameL_ok c).2.2 46 h
  revert this
  decide
abbrev sp_name (K : PySem.W.Frag) : Sp := spF K (A := Int) (fun a => [(D.int a)]) (fun a => True) (fun a => .v (D.str (nameL a)))
theorem ok_name {P : Program} {w : World} {K : PySem.W.Frag} {mg : Str → Option Value} {base : Heap} {f : Addr} {fd : FuncData} (F : Fun K "_law_name" "_law_name" s_law_name f fd) (m_range : mg "range" = none) (kn_pick : Kn P w K mg base "_law_pick" 1 (sp_pick K)) : FnOk P w K mg base (L2.CX P w) 2 f fd ["_law_cell_here"] (sp_name K) := by
  refine def_ok F sc_law_name (fun _ => rfl) (fun a hp X E e1 e2 e3 e4 e5 hX => ?_)
  subst e1 e2 e3 e4 e5
  have h := bd_name X E hX m_range kn_pick a
  rw [m_name_eq a] at h
  exact h
abbrev s_is_name : Stmt := top 6
abbrev nm_is_name : List Str := ["thing", "sign"]
theorem sc_is_name : FnScope nm_is_name ["thing"] (defScope s_is_name) := ⟨rfl, rfl, rfl, by decide +kernel, rfl, by decide +kernel, by decide +kernel⟩
theorem lk_is_name_LETTERS : (defScope s_is_name).names.lookup ("LETTERS" : Str) = some .globalImplicit := by decide +kernel
theorem lk_is_name_LONGEST : (defScope s_is_name).names.lookup ("LONGEST" : Str) = some .globalImplicit := by decide +kernel
theorem lk_is_name_isinstance : (defScope s_is_name).names.lookup ("isinstance" : Str) = some .globalImplicit := by decide +kernel
theorem lk_is_name_len : (defScope s_is_name).names.lookup ("len" : Str) = some .globalImplicit := by decide +kernel
theorem lk_is_name_sign : (defScope s_is_name).names.lookup ("sign" : Str) = some .local := by decide +kernel
theorem lk_is_name_str : (defScope s_is_name).names.lookup ("str" : Str) = some .globalImplicit := by decide +kernel
theorem lk_is_name_thing : (defScope s_is_name).names.lookup ("thing" : Str) = some .local := by decide +kernel
def m_is_name (a0 : (List Nat)) : Ctl Unit Empty := if ((!true) || (!((decide ((1 : Int) ≤ ((a0).length : Int))) && (decide (((a0).length : Int) ≤ 8))))) = true then Ctl.up (.ret (.v (D.bl false))) else Ctl.bind (S := Unit) (loop (Y := Nat) (fun (s3 : Unit) (y4 : Nat) => if (!(decide (y4 ∈ LETTERS))) = true then Ctl.up (.ret (.v (D.bl false))) else .go ()) () a0) fun s9 => .ret (.v (D.bl true))
theorem bd_is_name (X : Cx) (E : XK) (hX : XOk 0 nm_is_name (defScope s_is_name) X E) (c_LETTERS : ∃ t, X.mg "LETTERS" = some (.str (S LETTERS) t)) (c_LONGEST : ∃ t, X.mg "LONGEST" = some (.int 8 t)) (m_isinstance : X.mg "isinstance" = none) (m_len : X.mg "len" = none) (m_str : X.mg "str" = none) (a0 : (List Nat)) (hp : a0.length ≤ 10000) : BK X E ([.d (D.str a0), .un] : List B) (defBody s_is_name) (fun s : Unit => List.replicate 2 B.un) (fun s : Empty => nomatch s) (m_is_name a0) := by
  unfold m_is_name
  exact (b_ifr (et_w (ew_or (et_not (et_val (ed_isi (hX.gl lk_is_name_isinstance) m_isinstance (ed_var 0 (hX.nm rfl) (hX.vs (vis_l lk_is_name_thing)) rfl) (ed_ty (n := "str") (hX.gl lk_is_name_str) m_str (by decide +kernel)) rfl (by decide +kernel)))) (fun h1 => (ew_or1 (et_not (et_chain (od_le _ _) (od_le _ _) ed_int (ed_lenS (hX.gl lk_is_name_len) m_len (ed_var 0 (hX.nm rfl) (hX.vs (vis_l lk_is_name_thing)) rfl) (by first | decide | omega | (dsimp only; omega) | (unfold CPow; decide) | (subst_vars; (try simp only [List.length_cons, List.length_nil, decide_eq_true_eq, decide_eq_false_iff_not, Bool.and_eq_true, Bool.or_eq_true, Bool.not_eq_true', CMul, CDiv, CPow, sizeLine_eq] at *); omega))) (ed_gInt (hX.gl lk_is_name_LONGEST) c_LONGEST))))))) (fun h2 => (b_ret ed_bl)) (fun h2 => (b_for (Γl := (fun s3 : Unit => ([.d (D.str a0), .un] : List B))) (g := (gName 1)) (js := [1]) (fun _ _ => True) (fun c => D.str [c]) (fun (s3 : Unit) (y4 : Nat) => if (!(decide (y4 ∈ LETTERS))) = true then Ctl.up (.ret (.v (D.bl false))) else .go ()) () a0 (fun (s3 : Unit) (y4 : Nat) => ([.d (D.str a0), .d (D.str [y4])] : List B)) hX (.keep (.keep .nil)) trivial (it_str (ed_var 0 (hX.nm rfl) (hX.vs (vis_l lk_is_name_thing)) rfl)) (pg_name (i := 1) hX.nd (hX.nm rfl) (hX.lc (loc_l lk_is_name_sign)) (.inl (hX.fn _))) (fun s3 y4 => (tg_name 1)) (fun i5 s3 y4 hi6 hv7 => (b_ifr (et_cmp (od_notInS _ _) (ed_var 1 (hX.nm rfl) (hX.vs (vis_l lk_is_name_sign)) rfl) (ed_gStr (hX.gl lk_is_name_LETTERS) c_LETTERS)) (fun h8 => (b_ret ed_bl)) (fun h8 => (b_nil (.keep (.drop .nil)))))) (fun _ _ _ _ _ _ _ => trivial) (fun s9 hs9 => (show BK X E ([.d (D.str a0), .un] : List B) _ _ _ _ from (b_ret ed_bl))))))
theorem m_is_name_eq (s : List Nat) : m_is_name s = .ret (.v (.bl (nameOk s))) := by
  unfold m_is_name nameOk
  rw [find_all (fun c : Nat => decide (c ∈ LETTERS))]
  cases (decide ((1 : Int) ≤ (s.length : Int)) && decide ((s.length : Int) ≤ 8)) <;> cases s.all (fun c => decide (c ∈ LETTERS)) <;> rfl
abbrev sp_is_name (K : PySem.W.Frag) : Sp := spF K (A := (List Nat)) (fun a => [(D.str a)]) (fun a => a.length ≤ 10000) (fun a => .v (D.bl (nameOk a)))
theorem ok_is_name {P : Program} {w : World} {K : PySem.W.Frag} {mg : Str → Option Value} {base : Heap} {f : Addr} {fd : FuncData} (F : Fun K "is_name" "is_name" s_is_name f fd) (c_LETTERS : ∃ t, mg "LETTERS" = some (.str (S LETTERS) t)) (c_LONGEST : ∃ t, mg "LONGEST" = some (.int 8 t)) (m_isinstance : mg "isinstance" = none) (m_len : mg "len" = none) (m_str : mg "str" = none) : FnOk P w K mg base (L2.CX P w) 1 f fd ["thing"] (sp_is_name K) := by
  refine def_ok F sc_is_name (fun _ => rfl) (fun a hp X E e1 e2 e3 e4 e5 hX => ?_)
  subst e1 e2 e3 e4 e5
  have h := bd_is_name X E hX c_LETTERS c_LONGEST m_isinstance m_len m_str a hp
  rw [m_is_name_eq a] at h
  exact h
abbrev s_are_names : Stmt := top 7
abbrev nm_are_names : List Str := ["words", "most", "word"]
theorem sc_are_names : FnScope nm_are_names ["words", "most"] (defScope s_are_names) := ⟨rfl, rfl, rfl, by decide +kernel, rfl, by decide +kernel, by decide +kernel⟩
theorem lk_are_names_is_name : (defScope s_are_names).names.lookup ("is_name" : Str) = some .globalImplicit := by decide +kernel
theorem lk_are_names_len : (defScope s_are_names).names.lookup ("len" : Str) = some .globalImplicit := by decide +kernel
theorem lk_are_names_most : (defScope s_are_names).names.lookup ("most" : Str) = some .local := by decide +kernel
theorem lk_are_names_word : (defScope s_are_names).names.lookup ("word" : Str) = some .local := by decide +kernel
theorem lk_are_names_words : (defScope s_are_names).names.lookup ("words" : Str) = some .local := by decide +kernel
def m_are_names (a0 : (List (List Nat))) (a1 : Int) : Ctl Unit Empty := if (!((decide ((1 : Int) ≤ ((a0).length : Int))) && (decide (((a0).length : Int) ≤ a1)))) = true then Ctl.up (.ret (.v (D.bl false))) else Ctl.bind (S := Unit) (loop (Y := (List Nat)) (fun (s2 : Unit) (y3 : (List Nat)) => if (!(nameOk y3)) = true then Ctl.up (.ret (.v (D.bl false))) else .go ()) () a0) fun s8 => .ret (.v (D.bl true))
theorem bd_are_names (X : Cx) (E : XK) (hX : XOk 1 nm_are_names (defScope s_are_names) X E) (m_len : X.mg "len" = none) (kn_is_name : KnX X "is_name" 1 (sp_is_name X.K)) (a0 : (List (List Nat))) (a1 : Int) (hp : a0.length ≤ 10001 ∧ ∀ x ∈ a0, x.length ≤ 10000) : BK X E ([.d (D.lst (List.map D.str a0)), .d (D.int a1), .un] : List B) (defBody s_are_names) (fun s : Unit => List.replicate 3 B.un) (fun s : Empty => nomatch s) (m_are_names a0 a1) := by
  unfold m_are_names
  exact (b_ifr (et_not (et_chain (od_le _ _) (od_le _ _) ed_int (ed_lenM (hX.gl lk_are_names_len) m_len (EvD.el (ed_var 0 (hX.nm rfl) (hX.vs (vis_l lk_are_names_words)) rfl))) (ed_var 1 (hX.nm rfl) (hX.vs (vis_l lk_are_names_most)) rfl))) (fun h1 => (b_ret ed_bl)) (fun h1 => (b_for (Γl := (fun s2 : Unit => ([.d (D.lst (List.map D.str a0)), .d (D.int a1), .un] : List B))) (g := (gName 2)) (js := [2]) (fun _ _ => True) D.str (fun (s2 : Unit) (y3 : (List Nat)) => if (!(nameOk y3)) = true then Ctl.up (.ret (.v (D.bl false))) else .go ()) () a0 (fun (s2 : Unit) (y3 : (List Nat)) => ([.d (D.lst (List.map D.str a0)), .d (D.int a1), .d (D.str y3)] : List B)) hX (.keep (.keep (.keep .nil))) trivial (it_lst (ed_var 0 (hX.nm rfl) (hX.vs (vis_l lk_are_names_words)) rfl)) (pg_name (i := 2) hX.nd (hX.nm rfl) (hX.lc (loc_l lk_are_names_word)) (.inl (hX.fn _))) (fun s2 y3 => (tg_name 2)) (fun i4 s2 y3 hi5 hv6 => (b_ifr (et_not (et_val (ed_call y3 kn_is_name (hX.room.mono (by decide)) (hX.gl lk_are_names_is_name) (ea_cons (ed_var 2 (hX.nm rfl) (hX.vs (vis_l lk_are_names_word)) rfl) ea_nil) (by first | decide | omega | exact hp.2 _ (List.mem_of_getElem? hi5)) rfl))) (fun h7 => (b_ret ed_bl)) (fun h7 => (b_nil (.keep (.keep (.drop .nil))))))) (fun _ _ _ _ _ _ _ => trivial) (fun s8 hs8 => (show BK X E ([.d (D.lst (List.map D.str a0)), .d (D.int a1), .un] : List B) _ _ _ _ from (b_ret ed_bl))))))
theorem m_are_names_eq (ls : List (List Nat)) (m : Int) : m_are_names ls m = .ret (.v (.bl (allOk ls m))) := by
  unfold m_are_names allOk
  rw [find_all nameOk]
  cases (decide ((1 : Int) ≤ (ls.length : Int)) && decide ((ls.length : Int) ≤ m)) <;> cases ls.all nameOk <;> rfl
abbrev sp_are_names (K : PySem.W.Frag) : Sp := spF K (A := (List (List Nat)) × Int) (fun a => [(D.lst (List.map D.str a.1)), (D.int a.2)]) (fun a => a.1.length ≤ 10001 ∧ ∀ x ∈ a.1, x.length ≤ 10000) (fun a => .v (D.bl (allOk a.1 a.2)))
theorem ok_are_names {P : Program} {w : World} {K : PySem.W.Frag} {mg : Str → Option Value} {base : Heap} {f : Addr} {fd : FuncData} (F : Fun K "are_names" "are_names" s_are_names f fd) (m_len : mg "len" = none) (kn_is_name : Kn P w K mg base "is_name" 1 (sp_is_name K)) : FnOk P w K mg base (L2.CX P w) 2 f fd ["words", "most"] (sp_are_names K) := by
  refine def_ok F sc_are_names (fun _ => rfl) (fun a hp X E e1 e2 e3 e4 e5 hX => ?_)
  subst e1 e2 e3 e4 e5
  have h := bd_are_names X E hX m_len kn_is_name a.1 a.2 hp
  rw [m_are_names_eq a.1 a.2] at h
  exact h
abbrev s_is_written : Stmt := top 13
abbrev nm_is_written : List Str := ["word", "sign"]
theorem sc_is_written : FnScope nm_is_written ["word"] (defScope s_is_written) := ⟨rfl, rfl, rfl, by decide +kernel, rfl, by decide +kernel, by decide +kernel⟩
theorem lk_is_written_FIGURES : (defScope s_is_written).names.lookup ("FIGURES" : Str) = some .globalImplicit := by decide +kernel
theorem lk_is_written_MOST_FIGURES : (defScope s_is_written).names.lookup ("MOST_FIGURES" : Str) = some .globalImplicit := by decide +kernel
theorem lk_is_written_len : (defScope s_is_written).names.lookup ("len" : Str) = some .globalImplicit := by decide +kernel
theorem lk_is_written_sign : (defScope s_is_written).names.lookup ("sign" : Str) = some .local := by decide +kernel
theorem lk_is_written_word : (defScope s_is_written).names.lookup ("word" : Str) = some .local := by decide +kernel
def m_is_written (a0 : (List Nat)) : Ctl Unit Empty := if (!((decide ((1 : Int) ≤ ((a0).length : Int))) && (decide (((a0).length : Int) ≤ 20)))) = true then Ctl.up (.ret (.v (D.bl false))) else Ctl.bind (S := Unit) (loop (Y := Nat) (fun (s2 : Unit) (y3 : Nat) => if (!(decide (y3 ∈ FIGURES))) = true then Ctl.up (.ret (.v (D.bl false))) else .go ()) () a0) fun s8 => .ret (.v (D.bl ((decide (a0 = [48])) || (!(decide ([(ix a0 (0 : Int) 0)] = [48]))))))
theorem bd_is_written (X : Cx) (E : XK) (hX : XOk 0 nm_is_written (defScope s_is_written) X E) (c_FIGURES : ∃ t, X.mg "FIGURES" = some (.str (S FIGURES) t)) (c_MOST_FIGURES : ∃ t, X.mg "MOST_FIGURES" = some (.int 20 t)) (m_len : X.mg "len" = none) (a0 : (List Nat)) (hp : a0.length ≤ 10000) : BK X E ([.d (D.str a0), .un] : List B) (defBody s_is_written) (fun s : Unit => List.replicate 2 B.un) (fun s : Empty => nomatch s) (m_is_written a0) := by
  unfold m_is_written
  exact (b_ifr (et_not (et_chain (od_le _ _) (od_le _ _) ed_int (ed_lenS (hX.gl lk_is_written_len) m_len (ed_var 0 (hX.nm rfl) (hX.vs (vis_l lk_is_written_word)) rfl) (by first | decide | omega | (unfold CMul; omega) | (dsimp only; omega) | (rw [sizeLine_eq]; omega) | (simp at h1; omega) | (simp at *; omega))) (ed_gInt (hX.gl lk_is_written_MOST_FIGURES) c_MOST_FIGURES))) (fun h1 => (b_ret ed_bl)) (fun h1 => (b_for (Γl := (fun s2 : Unit => ([.d (D.str a0), .un] : List B))) (g := (gName 1)) (js := [1]) (fun _ _ => True) (fun c => D.str [c]) (fun (s2 : Unit) (y3 : Nat) => if (!(decide (y3 ∈ FIGURES))) = true then Ctl.up (.ret (.v (D.bl false))) else .go ()) () a0 (fun (s2 : Unit) (y3 : Nat) => ([.d (D.str a0), .d (D.str [y3])] : List B)) hX (.keep (.keep .nil)) trivial (it_str (ed_var 0 (hX.nm rfl) (hX.vs (vis_l lk_is_written_word)) rfl)) (pg_name (i := 1) hX.nd (hX.nm rfl) (hX.lc (loc_l lk_is_written_sign)) (.inl (hX.fn _))) (fun s2 y3 => (tg_name 1)) (fun i4 s2 y3 hi5 hv6 => (b_ifr (et_cmp (od_notInS _ _) (ed_var 1 (hX.nm rfl) (hX.vs (vis_l lk_is_written_sign)) rfl) (ed_gStr (hX.gl lk_is_written_FIGURES) c_FIGURES)) (fun h7 => (b_ret ed_bl)) (fun h7 => (b_nil (.keep (.drop .nil)))))) (fun _ _ _ _ _ _ _ => trivial) (fun s8 hs8 => (show BK X E ([.d (D.str a0), .un] : List B) _ _ _ _ from (b_ret (ed_or (ed_cmp (od_eqS _ _) (ed_var 0 (hX.nm rfl) (hX.vs (vis_l lk_is_written_word)) rfl) (ed_str [48] (by decide +kernel))) (fun h9 => (ed_one (ed_cmp (od_neS _ _) (ed_ixS (ed_var 0 (hX.nm rfl) (hX.vs (vis_l lk_is_written_word)) rfl) ed_int (ix_ok (d := 0) (by first | decide | omega | (unfold CMul; omega) | (dsimp only; omega) | (rw [sizeLine_eq]; omega) | (simp at h1; omega) | (simp at *; omega))) (by first | decide | omega | (unfold CMul; omega) | (dsimp only; omega) | (rw [sizeLine_eq]; omega) | (simp at h1; omega) | (simp at *; omega))) (ed_str [48] (by decide +kernel))))))))))))
theorem m_is_written_eq (s : List Nat) : m_is_written s = .ret (.v (.bl (writtenL s))) := by
  unfold m_is_written writtenL
  rw [find_all (fun c : Nat => decide (c ∈ FIGURES))]
  cases (decide ((1 : Int) ≤ (s.length : Int)) && decide ((s.length : Int) ≤ 20)) <;> cases s.all (fun c => decide (c ∈ FIGURES)) <;> rfl
abbrev sp_is_written (K : PySem.W.Frag) : Sp := spF K (A := (List Nat)) (fun a => [(D.str a)]) (fun a => a.length ≤ 10000) (fun a => .v (D.bl (writtenL a)))
theorem ok_is_written {P : Program} {w : World} {K : PySem.W.Frag} {mg : Str → Option Value} {base : Heap} {f : Addr} {fd : FuncData} (F : Fun K "is_written" "is_written" s_is_written f fd) (c_FIGURES : ∃ t, mg "FIGURES" = some (.str (S FIGURES) t)) (c_MOST_FIGURES : ∃ t, mg "MOST_FIGURES" = some (.int 20 t)) (m_len : mg "len" = none) : FnOk P w K mg base (L2.CX P w) 1 f fd ["word"] (sp_is_written K) := by
  refine def_ok F sc_is_written (fun _ => rfl) (fun a hp X E e1 e2 e3 e4 e5 hX => ?_)
  subst e1 e2 e3 e4 e5
  have h := bd_is_written X E hX c_FIGURES c_MOST_FIGURES m_len a hp
  rw [m_is_written_eq a] at h
  exact h
abbrev s_sign_of : Stmt := top 14
abbrev nm_sign_of : List Str := ["word"]
theorem sc_sign_of : FnScope nm_sign_of ["word"] (defScope s_sign_of) := ⟨rfl, rfl, rfl, by decide +kernel, rfl, by decide +kernel, by decide +kernel⟩
theorem lk_sign_of_NoExpr : (defScope s_sign_of).names.lookup ("NoExpr" : Str) = some .globalImplicit := by decide +kernel
theorem lk_sign_of_word : (defScope s_sign_of).names.lookup ("word" : Str) = some .local := by decide +kernel
def m_sign_of (a0 : (List Nat)) : Ctl Unit Empty := if (decide (a0 = [43])) = true then Ctl.up (.ret (.v (D.int (1 : Int)))) else if (decide (a0 = [45])) = true then Ctl.up (.ret (.v (D.int (-(1 : Int))))) else .ret (.x ⟨"NoExpr", []⟩)
theorem bd_sign_of (X : Cx) (E : XK) (hX : XOk 0 nm_sign_of (defScope s_sign_of) X E) (x_NoExpr : ExC X.K X.mg "NoExpr") (a0 : (List Nat)) : BK X E ([.d (D.str a0)] : List B) (defBody s_sign_of) (fun s : Unit => List.replicate 1 B.un) (fun s : Empty => nomatch s) (m_sign_of a0) := by
  unfold m_sign_of
  exact (b_ifr (et_cmp (od_eqS _ _) (ed_var 0 (hX.nm rfl) (hX.vs (vis_l lk_sign_of_word)) rfl) (ed_str [43] (by decide +kernel))) (fun h1 => (b_ret ed_int)) (fun h1 => (b_ifr (et_cmp (od_eqS _ _) (ed_var 0 (hX.nm rfl) (hX.vs (vis_l lk_sign_of_word)) rfl) (ed_str [45] (by decide +kernel))) (fun h2 => (b_ret (ed_neg ed_int))) (fun h2 => (b_raise hX x_NoExpr (hX.gl lk_sign_of_NoExpr))))))
def signL (a0 : (List Nat)) : Except Exn Int := outX (fun d => (asI d)) 0 (m_sign_of a0)
theorem m_sign_of_eq (a0 : (List Nat)) : m_sign_of a0 = .ret (resX D.int (signL a0)) := by
  unfold signL
  exact (show ∀ c : Ctl Unit Empty, (∃ z, c = .ret (resX D.int z)) → c = .ret (resX D.int (outX (fun d => (asI d)) 0 c)) from fun c ⟨z, h⟩ => by rw [h]; cases z <;> rfl) _ (by unfold m_sign_of; (try simp only [bnd, bndX]); (repeat' split) <;> first | exact ⟨.error _, rfl⟩ | exact ⟨.ok _, rfl⟩ | (exfalso; simp_all))
abbrev sp_sign_of (K : PySem.W.Frag) : Sp := spF K (A := (List Nat)) (fun a => [(D.str a)]) (fun a => True) (fun a => resX D.int (signL a))
theorem ok_sign_of {P : Program} {w : World} {K : PySem.W.Frag} {mg : Str → Option Value} {base : Heap} {f : Addr} {fd : FuncData} (F : Fun K "sign_of" "sign_of" s_sign_of f fd) (x_NoExpr : ExC K mg "NoExpr") : FnOk P w K mg base (L2.CX P w) 1 f fd ["word"] (sp_sign_of K) := by
  refine def_ok F sc_sign_of (fun _ => rfl) (fun a hp X E e1 e2 e3 e4 e5 hX => ?_)
  subst e1 e2 e3 e4 e5
  have h := bd_sign_of X E hX x_NoExpr a
  rw [m_sign_of_eq a] at h
  exact h
abbrev s_thing_of : Stmt := top 15
abbrev nm_thing_of : List Str := ["word", "sort", "path", "names"]
theorem sc_thing_of : FnScope nm_thing_of ["word"] (defScope s_thing_of) := ⟨rfl, rfl, rfl, by decide +kernel, rfl, by decide +kernel, by decide +kernel⟩
theorem lk_thing_of_MOST_NAMES : (defScope s_thing_of).names.lookup ("MOST_NAMES" : Str) = some .globalImplicit := by decide +kernel
theorem lk_thing_of_NoExpr : (defScope s_thing_of).names.lookup ("NoExpr" : Str) = some .globalImplicit := by decide +kernel
theorem lk_thing_of_are_names : (defScope s_thing_of).names.lookup ("are_names" : Str) = some .globalImplicit := by decide +kernel
theorem lk_thing_of_int : (defScope s_thing_of).names.lookup ("int" : Str) = some .globalImplicit := by decide +kernel
theorem lk_thing_of_is_written : (defScope s_thing_of).names.lookup ("is_written" : Str) = some .globalImplicit := by decide +kernel
theorem lk_thing_of_names : (defScope s_thing_of).names.lookup ("names" : Str) = some .local := by decide +kernel
theorem lk_thing_of_path : (defScope s_thing_of).names.lookup ("path" : Str) = some .local := by decide +kernel
theorem lk_thing_of_sort : (defScope s_thing_of).names.lookup ("sort" : Str) = some .local := by decide +kernel
theorem lk_thing_of_tuple : (defScope s_thing_of).names.lookup ("tuple" : Str) = some .globalImplicit := by decide +kernel
theorem lk_thing_of_word : (defScope s_thing_of).names.lookup ("word" : Str) = some .local := by decide +kernel
def m_thing_of (a0 : (List Nat)) : Ctl Unit Empty := if (writtenL a0) = true then Ctl.up (.ret (.v (D.tup [(D.str (([110, 117, 109, 98, 101, 114], (natOf a0)).1, (D.int ([110, 117, 109, 98, 101, 114], (natOf a0)).2)).1), (([110, 117, 109, 98, 101, 114], (natOf a0)).1, (D.int ([110, 117, 109, 98, 101, 114], (natOf a0)).2)).2]))) else bnd ([112, 97, 116, 104] : (List Nat)) fun v2 => bnd (a0 : (List Nat)) fun v3 => Ctl.bind (S := (List Nat) × (List Nat)) (if (decide ((cutL a0 (some (-(2 : Int))) none) = [40, 41])) = true then bnd ([99, 97, 108, 108] : (List Nat)) fun v5 => bnd ((cutL a0 none (some (-(2 : Int)))) : (List Nat)) fun v6 => .go (v5, v6) else .go (v2, v3)) fun s7 => bnd ((splitS s7.2 [46]) : (List (List Nat))) fun v8 => if (!(allOk v8 4)) = true then Ctl.up (.ret (.x ⟨"NoExpr", []⟩)) else .ret (.v (D.tup [(D.str ((s7.1, v8).1, (D.tup (List.map D.str (s7.1, v8).2))).1), ((s7.1, v8).1, (D.tup (List.map D.str (s7.1, v8).2))).2]))
theorem bd_thing_of (X : Cx) (E : XK) (hX : XOk 3 nm_thing_of (defScope s_thing_of) X E) (c_MOST_NAMES : ∃ t, X.mg "MOST_NAMES" = some (.int 4 t)) (x_NoExpr : ExC X.K X.mg "NoExpr") (m_int : X.mg "int" = none) (m_tuple : X.mg "tuple" = none) (kn_are_names : KnX X "are_names" 2 (sp_are_names X.K)) (kn_is_written : KnX X "is_written" 1 (sp_is_written X.K)) (a0 : (List Nat)) (hp : a0.length ≤ 10000) : BK X E ([.d (D.str a0), .un, .un, .un] : List B) (defBody s_thing_of) (fun s : Unit => List.replicate 4 B.un) (fun s : Empty => nomatch s) (m_thing_of a0) := by
  unfold m_thing_of
  exact (b_ifr (et_val (ed_call a0 kn_is_written (hX.room.mono (by decide)) (hX.gl lk_thing_of_is_written) (ea_cons (ed_var 0 (hX.nm rfl) (hX.vs (vis_l lk_thing_of_word)) rfl) ea_nil) (by first | decide | omega | (unfold CMul; omega) | (dsimp only; omega) | (rw [sizeLine_eq]; omega) | (have w := thing_path hp hv3 «hs»; subst_vars; exact thing_names w)) rfl)) (fun h1 => (b_ret (ed_tup (ea_cons (ed_str [110, 117, 109, 98, 101, 114] (by decide +kernel)) (ea_cons (ed_intS (hX.gl lk_thing_of_int) m_int (ed_var 0 (hX.nm rfl) (hX.vs (vis_l lk_thing_of_word)) rfl) (by first | decide | omega | (unfold CMul; omega) | (dsimp only; omega) | (rw [sizeLine_eq]; omega) | (have w := written_digits ‹_›; first | exact w.1 | exact w.2.1 | omega) | (have w := thing_path hp hv3 «hs»; (try rw [sizeLine_eq]); omega)) (by first | decide | omega | (unfold CMul; omega) | (dsimp only; omega) | (rw [sizeLine_eq]; omega) | (have w := written_digits ‹_›; first | exact w.1 | exact w.2.1 | omega) | (have w := thing_path hp hv3 «hs»; (try rw [sizeLine_eq]); omega)) (by first | decide | omega | (unfold CMul; omega) | (dsimp only; omega) | (rw [sizeLine_eq]; omega) | (have w := written_digits ‹_›; first | exact w.1 | exact w.2.1 | omega) | (have w := thing_path hp hv3 «hs»; (try rw [sizeLine_eq]); omega))) ea_nil)) (by show 2 ≤ sizeLine; decide)))) (fun h1 => (b_set 1 D.str hX rfl (loc_l lk_thing_of_sort) (ed_str [112, 97, 116, 104] (by decide +kernel)) (fun v2 hv2 => (show BK X E ([.d (D.str a0), .d (D.str v2), .un, .un] : List B) _ _ _ _ from (b_set 2 D.str hX rfl (loc_l lk_thing_of_path) (ed_var 0 (hX.nm rfl) (hX.vs (vis_l lk_thing_of_word)) rfl) (fun v3 hv3 => (show BK X E ([.d (D.str a0), .d (D.str v2), .d (D.str v3), .un] : List B) _ _ _ _ from (b_ifj (Γj := (fun s7 : (List Nat) × (List Nat) => ([.d (D.str a0), .d (D.str s7.1), .d (D.str s7.2), .un] : List B))) (et_cmp (od_eqS _ _) (ed_slS (ed_var 0 (hX.nm rfl) (hX.vs (vis_l lk_thing_of_word)) rfl) (ep_some (ed_neg ed_int)) ep_none (by first | decide | omega | (unfold CMul; omega) | (dsimp only; omega) | (rw [sizeLine_eq]; omega) | (have w := written_digits ‹_›; first | exact w.1 | exact w.2.1 | omega) | (have w := thing_path hp hv3 «hs»; (try rw [sizeLine_eq]); omega))) (ed_str [40, 41] (by decide +kernel))) (fun h4 => (b_set 1 D.str hX rfl (loc_l lk_thing_of_sort) (ed_str [99, 97, 108, 108] (by decide +kernel)) (fun v5 hv5 => (show BK X E ([.d (D.str a0), .d (D.str v5), .d (D.str v3), .un] : List B) _ _ _ _ from (b_set 2 D.str hX rfl (loc_l lk_thing_of_path) (ed_slS (ed_var 0 (hX.nm rfl) (hX.vs (vis_l lk_thing_of_word)) rfl) ep_none (ep_some (ed_neg ed_int)) (by first | decide | omega | (unfold CMul; omega) | (dsimp only; omega) | (rw [sizeLine_eq]; omega) | (have w := written_digits ‹_›; first | exact w.1 | exact w.2.1 | omega) | (have w := thing_path hp hv3 «hs»; (try rw [sizeLine_eq]); omega))) (fun v6 hv6 => (show BK X E ([.d (D.str a0), .d (D.str v5), .d (D.str v6), .un] : List B) _ _ _ _ from (b_nil (.keep (.keep (.keep (.keep .nil)))))))))))) (fun h4 => (b_nil (.keep (.keep (.keep (.keep .nil)))))) (fun s7 hs7 => (b_setO 3 (fun z : (List (List Nat)) => OO.lst (List.map D.str z)) hX rfl (loc_l lk_thing_of_names) (eo_split (ed_var 2 (hX.nm rfl) (hX.vs (vis_l lk_thing_of_path)) rfl) (ed_str [46] (by decide +kernel)) (by first | decide | omega | (unfold CMul; omega) | (dsimp only; omega) | (rw [sizeLine_eq]; omega) | (have w := written_digits ‹_›; first | exact w.1 | exact w.2.1 | omega) | (have w := thing_path hp hv3 hs7; (try rw [sizeLine_eq]); omega)) (by first | decide | omega | (unfold CMul; omega) | (dsimp only; omega) | (rw [sizeLine_eq]; omega) | (have w := written_digits ‹_›; first | exact w.1 | exact w.2.1 | omega) | (have w := thing_path hp hv3 hs7; (try rw [sizeLine_eq]); omega))) (fun v8 hv8 => (show BK X E ([.d (D.str a0), .d (D.str s7.1), .d (D.str s7.2), .own (.lst (List.map D.str v8))] : List B) _ _ _ _ from (b_ifr (et_lend 3 rfl (show ET X ([.d (D.str a0), .d (D.str s7.1), .d (D.str s7.2), .d (D.lst (List.map D.str v8))] : List B) _ _ from (et_not (et_val (ed_call ((v8, 4) : (List (List Nat)) × Int) kn_are_names (hX.room.mono (by decide)) (hX.gl lk_thing_of_are_names) (ea_cons (ed_var 3 (hX.nm rfl) (hX.vs (vis_l lk_thing_of_names)) rfl) (ea_cons (ed_gInt (hX.gl lk_thing_of_MOST_NAMES) c_MOST_NAMES) ea_nil)) (by first | decide | omega | (unfold CMul; omega) | (dsimp only; omega) | (rw [sizeLine_eq]; omega) | (have w := thing_path hp hv3 hs7; subst_vars; exact thing_names w)) rfl))))) (fun h9 => (b_raise hX x_NoExpr (hX.gl lk_thing_of_NoExpr))) (fun h9 => (b_ret (ed_tup (ea_cons (ed_var 1 (hX.nm rfl) (hX.vs (vis_l lk_thing_of_sort)) rfl) (ea_cons (ed_tupM (hX.gl lk_thing_of_tuple) m_tuple (el_own 3 (hX.nm rfl) (hX.vs (vis_l lk_thing_of_names)) rfl)) ea_nil)) (by show 2 ≤ sizeLine; decide))))))))))))))))))
def thingL (w : List Nat) : Except Exn (List Nat × D) := if writtenL w = true then .ok ([110, 117, 109, 98, 101, 114], D.int (natOf w)) else
  let p : List Nat × List Nat := if decide (cutL w (some (-2)) none = [40, 41]) = true then ([99, 97, 108, 108], cutL w none (some (-2))) else ([112, 97, 116, 104], w)
  if (!allOk (splitS p.2 [46]) 4) = true then .error ⟨"NoExpr", []⟩ else .ok (p.1, D.tup ((splitS p.2 [46]).map D.str))
theorem m_thing_of_eq (w : List Nat) : m_thing_of w = .ret (resX (fun z : (List Nat × D) => D.tup [D.str z.1, z.2]) (thingL w)) := by
  unfold m_thing_of thingL
  cases writtenL w
  · cases decide (cutL w (some (-2)) none = [40, 41])
    · simp only [bnd, Bool.false_eq_true, if_false, Ctl.bind_go]
      cases allOk (splitS w [46]) 4 <;> rfl
    · simp only [bnd, Bool.false_eq_true, if_false, if_true, Ctl.bind_go]
      cases allOk (splitS (cutL w none (some (-2))) [46]) 4 <;> rfl
  · rfl
abbrev sp_thing_of (K : PySem.W.Frag) : Sp := spF K (A := (List Nat)) (fun a => [(D.str a)]) (fun a => a.length ≤ 10000) (fun a => resX (fun z : ((List Nat) × D) => (D.tup [(D.str z.1), z.2])) (thingL a))
theorem ok_thing_of {P : Program} {w : World} {K : PySem.W.Frag} {mg : Str → Option Value} {base : Heap} {f : Addr} {fd : FuncData} (F : Fun K "thing_of" "thing_of" s_thing_of f fd) (c_MOST_NAMES : ∃ t, mg "MOST_NAMES" = some (.int 4 t)) (x_NoExpr : ExC K mg "NoExpr") (m_int : mg "int" = none) (m_tuple : mg "tuple" = none) (kn_are_names : Kn P w K mg base "are_names" 2 (sp_are_names K)) (kn_is_written : Kn P w K mg base "is_written" 1 (sp_is_written K)) : FnOk P w K mg base (L2.CX P w) 4 f fd ["word"] (sp_thing_of K) := by
  refine def_ok F sc_thing_of (fun _ => rfl) (fun a hp X E e1 e2 e3 e4 e5 hX => ?_)
  subst e1 e2 e3 e4 e5
  have h := bd_thing_of X E hX c_MOST_NAMES x_NoExpr m_int m_tuple kn_are_names kn_is_written a hp
  rw [m_thing_of_eq a] at h
  exact h
abbrev s_read_expr : Stmt := top 16
abbrev nm_read_expr : List Str := ["text", "words", "terms", "k", "sign", "sort", "thing"]
theorem sc_read_expr : FnScope nm_read_expr ["text"] (defScope s_read_expr) := ⟨rfl, rfl, rfl, by decide +kernel, rfl, by decide +kernel, by decide +kernel⟩
theorem lk_read_expr_MOST_TERMS : (defScope s_read_expr).names.lookup ("MOST_TERMS" : Str) = some .globalImplicit := by decide +kernel
theorem lk_read_expr_NoExpr : (defScope s_read_expr).names.lookup ("NoExpr" : Str) = some .globalImplicit := by decide +kernel
theorem lk_read_expr_isinstance : (defScope s_read_expr).names.lookup ("isinstance" : Str) = some .globalImplicit := by decide +kernel
theorem lk_read_expr_k : (defScope s_read_expr).names.lookup ("k" : Str) = some .local := by decide +kernel
theorem lk_read_expr_len : (defScope s_read_expr).names.lookup ("len" : Str) = some .globalImplicit := by decide +kernel
theorem lk_read_expr_range : (defScope s_read_expr).names.lookup ("range" : Str) = some .globalImplicit := by decide +kernel
theorem lk_read_expr_sign : (defScope s_read_expr).names.lookup ("sign" : Str) = some .local := by decide +kernel
theorem lk_read_expr_sign_of : (defScope s_read_expr).names.lookup ("sign_of" : Str) = some .globalImplicit := by decide +kernel
theorem lk_read_expr_sort : (defScope s_read_expr).names.lookup ("sort" : Str) = some .local := by decide +kernel
theorem lk_read_expr_str : (defScope s_read_expr).names.lookup ("str" : Str) = some .globalImplicit := by decide +kernel
theorem lk_read_expr_terms : (defScope s_read_expr).names.lookup ("terms" : Str) = some .local := by decide +kernel
theorem lk_read_expr_text : (defScope s_read_expr).names.lookup ("text" : Str) = some .local := by decide +kernel
theorem lk_read_expr_thing : (defScope s_read_expr).names.lookup ("thing" : Str) = some .local := by decide +kernel
theorem lk_read_expr_thing_of : (defScope s_read_expr).names.lookup ("thing_of" : Str) = some .globalImplicit := by decide +kernel
theorem lk_read_expr_words : (defScope s_read_expr).names.lookup ("words" : Str) = some .local := by decide +kernel
def m_read_expr (a0 : (List Nat)) : Ctl Unit Empty := if (!true) = true then Ctl.up (.ret (.v .non)) else bnd ((splitS a0 [32]) : (List (List Nat))) fun v2 => if ((decide ((((v2).length : Int) % (2 : Int)) = (0 : Int))) || (decide ((((2 : Int) * 6) - (1 : Int)) < ((v2).length : Int)))) = true then Ctl.up (.ret (.x ⟨"NoExpr", []⟩)) else bnd (([] : List (Int × (List Nat) × D)) : (List (Int × (List Nat) × D))) fun v5 => Ctl.bind (S := (List (Int × (List Nat) × D))) (loop (Y := Int) (fun (s6 : (List (Int × (List Nat) × D))) (y7 : Int) => bnd ((1 : Int) : Int) fun v11 => Ctl.bind (S := Int) (if (decide ((0 : Int) < y7)) = true then bndX ((signL (ix v2 (y7 - (1 : Int)) [])) : Except Exn Int) fun v13 => .go v13 else .go v11) fun s14 => bndX ((thingL (ix v2 y7 [])) : Except Exn ((List Nat) × D)) fun v15 => bnd (s6 ++ [(s14, v15.1, v15.2)] : (List (Int × (List Nat) × D))) fun v16 => .go v16) v5 (rintsS (0 : Int) (2 : Int) (rngN (0 : Int) ((v2).length : Int) (2 : Int)))) fun s17 => .ret (.o (.lst (List.map (fun z : (Int × (List Nat) × D) => (D.tup [(D.int z.1), (D.str z.2.1), z.2.2])) s17)))
theorem bd_read_expr (X : Cx) (E : XK) (hX : XOk 4 nm_read_expr (defScope s_read_expr) X E) (c_MOST_TERMS : ∃ t, X.mg "MOST_TERMS" = some (.int 6 t)) (x_NoExpr : ExC X.K X.mg "NoExpr") (m_isinstance : X.mg "isinstance" = none) (m_len : X.mg "len" = none) (m_range : X.mg "range" = none) (m_str : X.mg "str" = none) (kn_sign_of : KnX X "sign_of" 1 (sp_sign_of X.K)) (kn_thing_of : KnX X "thing_of" 4 (sp_thing_of X.K)) (a0 : (List Nat)) (hp : a0.length ≤ 10000) : BK X E ([.d (D.str a0), .un, .un, .un, .un, .un, .un] : List B) (defBody s_read_expr) (fun s : Unit => List.replicate 7 B.un) (fun s : Empty => nomatch s) (m_read_expr a0) := by
  unfold m_read_expr
  exact (b_ifr (et_not (et_val (ed_isi (hX.gl lk_read_expr_isinstance) m_isinstance (ed_var 0 (hX.nm rfl) (hX.vs (vis_l lk_read_expr_text)) rfl) (ed_ty (n := "str") (hX.gl lk_read_expr_str) m_str (by decide +kernel)) rfl (by decide +kernel)))) (fun h => absurd h (by decide)) (fun h1 => (b_setO 1 (fun z : (List (List Nat)) => OO.lst (List.map D.str z)) hX rfl (loc_l lk_read_expr_words) (eo_split (ed_var 0 (hX.nm rfl) (hX.vs (vis_l lk_read_expr_text)) rfl) (ed_str [32] (by decide +kernel)) (by first | decide | omega | (unfold CMul; omega) | (dsimp only; omega) | (rw [sizeLine_eq]; omega) | exact small_two (by omega) (by have q := splitS_len (c := 32) (by decide) a0; subst_vars; omega) | (have q := splitS_len (c := 32) (by decide) a0; first | (subst_vars; omega) | (have qy := rints_two (List.mem_of_getElem? «hi»); first | (subst_vars; omega) | (have qn := (List.getElem?_eq_some_iff.mp «hi»).1; rw [rintsS_len, rngN_two] at qn; rw [sizeLine_eq]; subst_vars; omega) | (subst_vars; exact read_ix hp (by omega))))) (by first | decide | omega | (unfold CMul; omega) | (dsimp only; omega) | (rw [sizeLine_eq]; omega) | exact small_two (by omega) (by have q := splitS_len (c := 32) (by decide) a0; subst_vars; omega) | (have q := splitS_len (c := 32) (by decide) a0; first | (subst_vars; omega) | (have qy := rints_two (List.mem_of_getElem? «hi»); first | (subst_vars; omega) | (have qn := (List.getElem?_eq_some_iff.mp «hi»).1; rw [rintsS_len, rngN_two] at qn; rw [sizeLine_eq]; subst_vars; omega) | (subst_vars; exact read_ix hp (by omega)))))) (fun v2 hv2 => (show BK X E ([.d (D.str a0), .own (.lst (List.map D.str v2)), .un, .un, .un, .un, .un] : List B) _ _ _ _ from (b_ifr (et_w (ew_or (et_cmp (od_eqI _ _) (ed_op (od_mod _ _ (by first | decide | omega | (unfold CMul; omega) | (dsimp only; omega) | (rw [sizeLine_eq]; omega) | exact small_two (by omega) (by have q := splitS_len (c := 32) (by decide) a0; subst_vars; omega) | (have q := splitS_len (c := 32) (by decide) a0; first | (subst_vars; omega) | (have qy := rints_two (List.mem_of_getElem? «hi»); first | (subst_vars; omega) | (have qn := (List.getElem?_eq_some_iff.mp «hi»).1; rw [rintsS_len, rngN_two] at qn; rw [sizeLine_eq]; subst_vars; omega) | (subst_vars; exact read_ix hp (by omega)))))) (ed_lenM (hX.gl lk_read_expr_len) m_len (el_own 1 (hX.nm rfl) (hX.vs (vis_l lk_read_expr_words)) rfl)) ed_int) ed_int) (fun h3 => (ew_or1 (et_cmp (od_gt _ _) (ed_lenM (hX.gl lk_read_expr_len) m_len (el_own 1 (hX.nm rfl) (hX.vs (vis_l lk_read_expr_words)) rfl)) (ed_op (od_sub _ _) (ed_op (od_mul _ _ (by first | decide | omega | (unfold CMul; omega) | (dsimp only; omega) | (rw [sizeLine_eq]; omega) | exact small_two (by omega) (by have q := splitS_len (c := 32) (by decide) a0; subst_vars; omega) | (have q := splitS_len (c := 32) (by decide) a0; first | (subst_vars; omega) | (have qy := rints_two (List.mem_of_getElem? «hi»); first | (subst_vars; omega) | (have qn := (List.getElem?_eq_some_iff.mp «hi»).1; rw [rintsS_len, rngN_two] at qn; rw [sizeLine_eq]; subst_vars; omega) | (subst_vars; exact read_ix hp (by omega)))))) ed_int (ed_gInt (hX.gl lk_read_expr_MOST_TERMS) c_MOST_TERMS)) ed_int)))))) (fun h4 => (b_raise hX x_NoExpr (hX.gl lk_read_expr_NoExpr))) (fun h4 => (b_setO 2 (fun z : (List (Int × (List Nat) × D)) => OO.lst (List.map (fun z : (Int × (List Nat) × D) => (D.tup [(D.int z.1), (D.str z.2.1), z.2.2])) z)) hX rfl (loc_l lk_read_expr_terms) (eo_lst ea_nil (by show 0 ≤ sizeLine; decide)) (fun v5 hv5 => (show BK X E ([.d (D.str a0), .own (.lst (List.map D.str v2)), .own (.lst (List.map (fun z : (Int × (List Nat) × D) => (D.tup [(D.int z.1), (D.str z.2.1), z.2.2])) v5)), .un, .un, .un, .un] : List B) _ _ _ _ from (b_for (Γl := (fun s6 : (List (Int × (List Nat) × D)) => ([.d (D.str a0), .own (.lst (List.map D.str v2)), .own (.lst (List.map (fun z : (Int × (List Nat) × D) => (D.tup [(D.int z.1), (D.str z.2.1), z.2.2])) s6)), .un, .un, .un, .un] : List B))) (g := (gName 3)) (js := [3]) (fun (i : Nat) (s : List (Int × List Nat × D)) => s.length = i) D.int (fun (s6 : (List (Int × (List Nat) × D))) (y7 : Int) => bnd ((1 : Int) : Int) fun v11 => Ctl.bind (S := Int) (if (decide ((0 : Int) < y7)) = true then bndX ((signL (ix v2 (y7 - (1 : Int)) [])) : Except Exn Int) fun v13 => .go v13 else .go v11) fun s14 => bndX ((thingL (ix v2 y7 [])) : Except Exn ((List Nat) × D)) fun v15 => bnd (s6 ++ [(s14, v15.1, v15.2)] : (List (Int × (List Nat) × D))) fun v16 => .go v16) v5 (rintsS (0 : Int) (2 : Int) (rngN (0 : Int) ((v2).length : Int) (2 : Int))) (fun (s6 : (List (Int × (List Nat) × D))) (y7 : Int) => ([.d (D.str a0), .own (.lst (List.map D.str v2)), .own (.lst (List.map (fun z : (Int × (List Nat) × D) => (D.tup [(D.int z.1), (D.str z.2.1), z.2.2])) s6)), .d (D.int y7), .un, .un, .un] : List B)) hX (.keep (.keep (.keep (.keep (.keep (.keep (.keep .nil))))))) (by subst_vars; rfl) (it_range3 (hX.gl lk_read_expr_range) m_range ed_int (ed_lenM (hX.gl lk_read_expr_len) m_len (el_own 1 (hX.nm rfl) (hX.vs (vis_l lk_read_expr_words)) rfl)) ed_int (by first | decide | omega | (unfold CMul; omega) | (dsimp only; omega) | (rw [sizeLine_eq]; omega) | exact small_two (by omega) (by have q := splitS_len (c := 32) (by decide) a0; subst_vars; omega) | (have q := splitS_len (c := 32) (by decide) a0; first | (subst_vars; omega) | (have qy := rints_two (List.mem_of_getElem? «hi»); first | (subst_vars; omega) | (have qn := (List.getElem?_eq_some_iff.mp «hi»).1; rw [rintsS_len, rngN_two] at qn; rw [sizeLine_eq]; subst_vars; omega) | (subst_vars; exact read_ix hp (by omega))))) (by first | decide | omega | (unfold CMul; omega) | (dsimp only; omega) | (rw [sizeLine_eq]; omega) | exact small_two (by omega) (by have q := splitS_len (c := 32) (by decide) a0; subst_vars; omega) | (have q := splitS_len (c := 32) (by decide) a0; first | (subst_vars; omega) | (have qy := rints_two (List.mem_of_getElem? «hi»); first | (subst_vars; omega) | (have qn := (List.getElem?_eq_some_iff.mp «hi»).1; rw [rintsS_len, rngN_two] at qn; rw [sizeLine_eq]; subst_vars; omega) | (subst_vars; exact read_ix hp (by omega)))))) (pg_name (i := 3) hX.nd (hX.nm rfl) (hX.lc (loc_l lk_read_expr_k)) (.inl (hX.fn _))) (fun s6 y7 => (tg_name 3)) (fun i8 s6 y7 hi9 hv10 => (b_set 4 D.int hX rfl (loc_l lk_read_expr_sign) ed_int (fun v11 hv11 => (show BK X E ([.d (D.str a0), .own (.lst (List.map D.str v2)), .own (.lst (List.map (fun z : (Int × (List Nat) × D) => (D.tup [(D.int z.1), (D.str z.2.1), z.2.2])) s6)), .d (D.int y7), .d (D.int v11), .un, .un] : List B) _ _ _ _ from (b_ifj (Γj := (fun s14 : Int => ([.d (D.str a0), .own (.lst (List.map D.str v2)), .own (.lst (List.map (fun z : (Int × (List Nat) × D) => (D.tup [(D.int z.1), (D.str z.2.1), z.2.2])) s6)), .d (D.int y7), .d (D.int s14), .un, .un] : List B))) (et_cmp (od_gt _ _) (ed_var 3 (hX.nm rfl) (hX.vs (vis_l lk_read_expr_k)) rfl) ed_int) (fun h12 => (b_setR 4 D.int hX rfl (loc_l lk_read_expr_sign) (er_call (ix v2 (y7 - (1 : Int)) []) hX.takes kn_sign_of (hX.room.mono (by decide)) (hX.gl lk_read_expr_sign_of) (ea_cons (ed_ixL (el_own 1 (hX.nm rfl) (hX.vs (vis_l lk_read_expr_words)) rfl) (ed_op (od_sub _ _) (ed_var 3 (hX.nm rfl) (hX.vs (vis_l lk_read_expr_k)) rfl) ed_int) (atI_map (f := D.str) (xs := v2) (ix_ok (d := []) (by first | decide | omega | (unfold CMul; omega) | (dsimp only; omega) | (rw [sizeLine_eq]; omega) | exact small_two (by omega) (by have q := splitS_len (c := 32) (by decide) a0; subst_vars; omega) | (have q := splitS_len (c := 32) (by decide) a0; first | (subst_vars; omega) | (have qy := rints_two (List.mem_of_getElem? hi9); first | (subst_vars; omega) | (have qn := (List.getElem?_eq_some_iff.mp hi9).1; rw [rintsS_len, rngN_two] at qn; rw [sizeLine_eq]; subst_vars; omega) | (subst_vars; exact read_ix hp (by omega)))))))) ea_nil) trivial) (fun v13 hv13 => (show BK X E ([.d (D.str a0), .own (.lst (List.map D.str v2)), .own (.lst (List.map (fun z : (Int × (List Nat) × D) => (D.tup [(D.int z.1), (D.str z.2.1), z.2.2])) s6)), .d (D.int y7), .d (D.int v13), .un, .un] : List B) _ _ _ _ from (b_nil (.keep (.keep (.keep (.keep (.keep (.keep (.keep .nil)))))))))))) (fun h12 => (b_nil (.keep (.keep (.keep (.keep (.keep (.keep (.keep .nil))))))))) (fun s14 hs14 => (b_setRT (g := (gTup X.K 2 (gCons (gName 5) (gCons (gName 6) gNil)))) (js := [5, 6]) (fun z : ((List Nat) × D) => (D.tup [(D.str z.1), z.2])) (fun v15 : ((List Nat) × D) => ([.d (D.str a0), .own (.lst (List.map D.str v2)), .own (.lst (List.map (fun z : (Int × (List Nat) × D) => (D.tup [(D.int z.1), (D.str z.2.1), z.2.2])) s6)), .d (D.int y7), .d (D.int s14), .d (D.str v15.1), .d v15.2] : List B)) (pg_tup hX.calm (pgs_cons (pg_name (i := 5) hX.nd (hX.nm rfl) (hX.lc (loc_l lk_read_expr_sort)) (.inl (hX.fn _))) (pgs_cons (pg_name (i := 6) hX.nd (hX.nm rfl) (hX.lc (loc_l lk_read_expr_thing)) (.inl (hX.fn _))) pgs_nil))) (fun v15 => (tg_tup (tgs_cons 5 (tgs_cons 6 tgs_nil)) rfl)) (er_call (ix v2 y7 []) hX.takes kn_thing_of (hX.room.mono (by decide)) (hX.gl lk_read_expr_thing_of) (ea_cons (ed_ixL (el_own 1 (hX.nm rfl) (hX.vs (vis_l lk_read_expr_words)) rfl) (ed_var 3 (hX.nm rfl) (hX.vs (vis_l lk_read_expr_k)) rfl) (atI_map (f := D.str) (xs := v2) (ix_ok (d := []) (by first | decide | omega | (unfold CMul; omega) | (dsimp only; omega) | (rw [sizeLine_eq]; omega) | exact small_two (by omega) (by have q := splitS_len (c := 32) (by decide) a0; subst_vars; omega) | (have q := splitS_len (c := 32) (by decide) a0; first | (subst_vars; omega) | (have qy := rints_two (List.mem_of_getElem? hi9); first | (subst_vars; omega) | (have qn := (List.getElem?_eq_some_iff.mp hi9).1; rw [rintsS_len, rngN_two] at qn; rw [sizeLine_eq]; subst_vars; omega) | (subst_vars; exact read_ix hp (by omega)))))))) ea_nil) (by first | decide | omega | (unfold CMul; omega) | (dsimp only; omega) | (rw [sizeLine_eq]; omega) | exact small_two (by omega) (by have q := splitS_len (c := 32) (by decide) a0; subst_vars; omega) | (have q := splitS_len (c := 32) (by decide) a0; first | (subst_vars; omega) | (have qy := rints_two (List.mem_of_getElem? hi9); first | (subst_vars; omega) | (have qn := (List.getElem?_eq_some_iff.mp hi9).1; rw [rintsS_len, rngN_two] at qn; rw [sizeLine_eq]; subst_vars; omega) | (subst_vars; exact read_ix hp (by omega)))))) (fun v15 hv15 => (b_app 2 (fun z : (Int × (List Nat) × D) => (D.tup [(D.int z.1), (D.str z.2.1), z.2.2])) hX rfl (vis_l lk_read_expr_terms) rfl (ed_tup (ea_cons (ed_var 4 (hX.nm rfl) (hX.vs (vis_l lk_read_expr_sign)) rfl) (ea_cons (ed_var 5 (hX.nm rfl) (hX.vs (vis_l lk_read_expr_sort)) rfl) (ea_cons (ed_var 6 (hX.nm rfl) (hX.vs (vis_l lk_read_expr_thing)) rfl) ea_nil))) (by show 3 ≤ sizeLine; decide)) (by first | decide | omega | (unfold CMul; omega) | (dsimp only; omega) | (rw [sizeLine_eq]; omega) | exact small_two (by omega) (by have q := splitS_len (c := 32) (by decide) a0; subst_vars; omega) | (have q := splitS_len (c := 32) (by decide) a0; first | (subst_vars; omega) | (have qy := rints_two (List.mem_of_getElem? hi9); first | (subst_vars; omega) | (have qn := (List.getElem?_eq_some_iff.mp hi9).1; rw [rintsS_len, rngN_two] at qn; rw [sizeLine_eq]; subst_vars; omega) | (subst_vars; exact read_ix hp (by omega))))) (fun v16 hv16 => (show BK X E ([.d (D.str a0), .own (.lst (List.map D.str v2)), .own (.lst (List.map (fun z : (Int × (List Nat) × D) => (D.tup [(D.int z.1), (D.str z.2.1), z.2.2])) v16)), .d (D.int y7), .d (D.int s14), .d (D.str v15.1), .d v15.2] : List B) _ _ _ _ from (b_nil (.keep (.keep (.keep (.drop (.drop (.drop (.drop .nil))))))))))))))))))) (fun i s y s2 _ hv e => read_inv hv e) (fun s17 hs17 => (show BK X E ([.d (D.str a0), .own (.lst (List.map D.str v2)), .own (.lst (List.map (fun z : (Int × (List Nat) × D) => (D.tup [(D.int z.1), (D.str z.2.1), z.2.2])) s17)), .un, .un, .un, .un] : List B) _ _ _ _ from (b_retV 2 hX rfl (vis_l lk_read_expr_terms) rfl))))))))))))))
def readStep (ws : List (List Nat)) (acc : List (Int × List Nat × D)) (k : Int) : Except Exn (List (Int × List Nat × D)) := do
  let sg ← if decide (k > 0) = true then signL (ix ws (k - 1) []) else .ok 1
  let t ← thingL (ix ws k [])
  .ok (acc ++ [(sg, t.1, t.2)])
def noExpr : Exn := ⟨"NoExpr", []⟩
def readL (s : List Nat) : Except Exn (List (Int × List Nat × D)) :=
  let ws := splitS s [32]
  if (decide ((ws.length : Int) % 2 = 0) || decide ((ws.length : Int) > 2 * 6 - 1)) = true then .error noExpr
  else (rintsS 0 2 (rngN 0 ws.length 2)).foldlM (readStep ws) []
theorem m_read_expr_eq (s : List Nat) : m_read_expr s = .ret (resO (fun z : (List (Int × List Nat × D)) => OO.lst (List.map (fun z : (Int × List Nat × D) => (D.tup [(D.int z.1), (D.str z.2.1), z.2.2])) z)) (readL s)) := by
  unfold m_read_expr readL
  simp only [bnd, Bool.not_true, Bool.false_eq_true, if_false]
  have hg : ∀ n : Int, (decide (n > 2 * 6 - 1)) = decide (2 * 6 - 1 < n) := fun _ => rfl
  rw [hg]
  cases (decide (((splitS s [32]).length : Int) % 2 = 0) || decide ((2 * 6 - 1 : Int) < ((splitS s [32]).length : Int))) with
  | true => rfl
  | false =>
    rw [if_neg Bool.false_ne_true, if_neg Bool.false_ne_true, loop_fold (f := readStep (splitS s [32])) (T := Empty)]
    · cases (rintsS 0 2 (rngN 0 ((splitS s [32]).length : Int) 2)).foldlM (readStep (splitS s [32])) [] <;> rfl
    · intro acc k
      unfold readStep
      have hk : decide (k > 0) = decide (0 < k) := rfl
      rw [hk]
      cases decide (0 < k) with
      | true =>
        simp only [if_true]
        cases signL (ix (splitS s [32]) (k - 1) []) with
        | error e => rfl
        | ok v =>
          simp only [bind, Except.bind]
          cases thingL (ix (splitS s [32]) k []) <;> rfl
      | false =>
        simp only [Bool.false_eq_true, if_false]
        cases thingL (ix (splitS s [32]) k []) <;> rfl
abbrev Tm := Int × List Nat × D
abbrev NUM : List Nat := [110, 117, 109, 98, 101, 114]
abbrev PATH : List Nat := [112, 97, 116, 104]
abbrev CALL : List Nat := [99, 97, 108, 108]
abbrev encT : Tm → D := fun z : (Int × List Nat × D) => (D.tup [(D.int z.1), (D.str z.2.1), z.2.2])
structure Names4 (ns : List (List Nat)) : Prop where
  pos : 0 < ns.length
  few : ns.length ≤ 4
  short : ∀ x ∈ ns, 0 < x.length ∧ x.length ≤ 8
  ltr : ∀ x ∈ ns, ∀ c ∈ x, c ∈ LETTERS
structure TermOk (t : Tm) : Prop where
  sg : t.1 = 1 ∨ t.1 = -1
  th : (t.2.1 = NUM ∧ ∃ n : Nat, t.2.2 = D.int n ∧ n < 10 ^ 20) ∨ ((t.2.1 = PATH ∨ t.2.1 = CALL) ∧ ∃ ns, t.2.2 = D.tup (ns.map D.str) ∧ Names4 ns)
structure TermsOk (ts : List Tm) : Prop where
  pos : 0 < ts.length
  few : ts.length ≤ 6
  all : ∀ t ∈ ts, TermOk t
  first : ∀ t, ts[0]? = some t → t.1 = 1
theorem map_asS (ns : List (List Nat)) : asSs (D.tup (ns.map D.str)) = ns := by
  show (ns.map D.str).map asS = ns
  rw [List.map_map]
  exact List.map_id ns
theorem NUM_ne : PATH ≠ NUM ∧ CALL ≠ NUM ∧ PATH ≠ CALL := by decide
theorem TermOk.num {t : Tm} (h : TermOk t) (e : decide (t.2.1 = NUM) = true) : ∃ n : Nat, t.2.2 = D.int n ∧ n < 10 ^ 20 := by
  rcases h.th with ⟨_, h⟩ | ⟨h1, _⟩
  · exact h
  · rw [of_decide_eq_true e] at h1
    rcases h1 with h1 | h1 <;> exact absurd h1 (by decide)
theorem TermOk.nam {t : Tm} (h : TermOk t) (e : decide (t.2.1 = NUM) = false) : ∃ ns, t.2.2 = D.tup (ns.map D.str) ∧ Names4 ns := by
  rcases h.th with ⟨h1, _⟩ | ⟨_, h⟩
  · exact absurd h1 (of_decide_eq_false e)
  · exact h
theorem TermOk.castI {t : Tm} (h : TermOk t) (e : decide (t.2.1 = NUM) = true) : t.2.2 = D.int (asI t.2.2) := by
  obtain ⟨n, h1, _⟩ := h.num e
  rw [h1]
  rfl
theorem TermOk.castS {t : Tm} (h : TermOk t) (e : decide (t.2.1 = NUM) = false) : t.2.2 = D.tup (List.map D.str (asSs t.2.2)) := by
  obtain ⟨ns, h1, _⟩ := h.nam e
  rw [h1, map_asS]
theorem log_lt {n : Nat} (h : n < 10 ^ 20) : (n : Int).natAbs.log2 < 1920 := by
  rw [Int.natAbs_natCast]
  by_cases h0 : n = 0
  · subst h0
    decide
  · exact (Nat.log2_lt h0).mpr (Nat.lt_of_lt_of_le h (by decide +kernel))
theorem TermOk.log {t : Tm} (h : TermOk t) (e : decide (t.2.1 = NUM) = true) : (asI t.2.2).natAbs.log2 < 1920 := by
  obtain ⟨n, h1, h2⟩ := h.num e
  rw [h1]
  exact log_lt h2
theorem Names4.jok {ns : List (List Nat)} (h : Names4 ns) : (ns.map (·.length)).sum + ns.length * ([46] : List Nat).length ≤ 16777216 := join_ok (n := 8) (m := 4) (k := 1) (fun x hx => (h.short x hx).2) h.few (Nat.le_refl 1) (by decide)
theorem Names4.jlen {ns : List (List Nat)} (h : Names4 ns) : (joinS [46] ns).length ≤ 36 := joinS_len (n := 8) (m := 4) (k := 1) (fun x hx => (h.short x hx).2) h.few (Nat.le_refl 1)
theorem TermOk.jok {t : Tm} (h : TermOk t) (e : decide (t.2.1 = NUM) = false) : ((asSs t.2.2).map (·.length)).sum + (asSs t.2.2).length * ([46] : List Nat).length ≤ 16777216 := by
  obtain ⟨ns, h1, h2⟩ := h.nam e
  rw [h1, map_asS]
  exact h2.jok
theorem TermOk.jlen {t : Tm} (h : TermOk t) (e : decide (t.2.1 = NUM) = false) : (joinS [46] (asSs t.2.2)).length ≤ 36 := by
  obtain ⟨ns, h1, h2⟩ := h.nam e
  rw [h1, map_asS]
  exact h2.jlen
theorem LETTERS_eq : LETTERS = letters := rfl
theorem ltr_lt {c : Nat} (h : c ∈ LETTERS) : 97 ≤ c ∧ c ≤ 122 := by
  unfold LETTERS at h
  simp only [List.mem_cons, List.not_mem_nil, or_false] at h
  omega
theorem eqk_str {n : Nat} {l : List Nat} : Sd.eqk n (D.str l) = chrOk l := by cases n <;> rfl
theorem Names4.eqk {ns : List (List Nat)} (h : Names4 ns) {n : Nat} : Sd.eqk (n + 1) (D.tup (ns.map D.str)) = true := by
  show (ns.map D.str).all (Sd.eqk n) = true
  rw [List.all_map, List.all_eq_true]
  intro x hx
  show Sd.eqk n (D.str x) = true
  rw [eqk_str]
  unfold chrOk
  rw [List.all_eq_true]
  intro c hc
  have := ltr_lt (h.ltr x hx c hc)
  exact decide_eq_true (by omega)
theorem TermOk.eqk {t : Tm} (h : TermOk t) : Sd.eqk 7 (encT t) = true := by
  have h1 : chrOk t.2.1 = true := by
    rcases h.th with ⟨h1, _⟩ | ⟨h1 | h1, _⟩ <;> rw [h1] <;> decide
  have h2 : Sd.eqk 6 t.2.2 = true := by
    rcases h.th with ⟨_, n, h2, _⟩ | ⟨_, ns, h2, h3⟩
    · rw [h2]
      rfl
    · rw [h2]
      exact h3.eqk
  show (true && (chrOk t.2.1 && (Sd.eqk 6 t.2.2 && true))) = true
  rw [h1, h2]
  rfl
theorem TermOk.eqk8 {t : Tm} (h : TermOk t) : Sd.eqk 8 (encT t) = true := by
  have h1 : chrOk t.2.1 = true := by
    rcases h.th with ⟨h1, _⟩ | ⟨h1 | h1, _⟩ <;> rw [h1] <;> decide
  have h2 : Sd.eqk 7 t.2.2 = true := by
    rcases h.th with ⟨_, n, h2, _⟩ | ⟨_, ns, h2, h3⟩
    · rw [h2]
      rfl
    · rw [h2]
      exact h3.eqk
  show (true && (chrOk t.2.1 && (Sd.eqk 7 t.2.2 && true))) = true
  rw [h1, h2]
  rfl
theorem TermsOk.eqk {ts : List Tm} (h : TermsOk ts) : Sd.eqk 8 (D.lst (ts.map encT)) = true := by
  show (ts.map encT).all (Sd.eqk 7) = true
  rw [List.all_map, List.all_eq_true]
  exact fun t ht => (h.all t ht).eqk
theorem TermOk.plain {t : Tm} (h : TermOk t) : plainT t.2.2 = true := by
  rcases h.th with ⟨_, n, h2, _⟩ | ⟨_, ns, h2, _⟩ <;> rw [h2] <;> rfl

abbrev sp_read_expr (K : PySem.W.Frag) : Sp := spF K (A := (List Nat)) (fun a => [(D.str a)]) (fun a => a.length ≤ 10000) (fun a => resO (fun z : (List (Int × (List Nat) × D)) => OO.lst (List.map (fun z : (Int × (List Nat) × D) => (D.tup [(D.int z.1), (D.str z.2.1), z.2.2])) z)) (readL a))
theorem ok_read_expr {P : Program} {w : World} {K : PySem.W.Frag} {mg : Str → Option Value} {base : Heap} {f : Addr} {fd : FuncData} (F : Fun K "read_expr" "read_expr" s_read_expr f fd) (c_MOST_TERMS : ∃ t, mg "MOST_TERMS" = some (.int 6 t)) (x_NoExpr : ExC K mg "NoExpr") (m_isinstance : mg "isinstance" = none) (m_len : mg "len" = none) (m_range : mg "range" = none) (m_str : mg "str" = none) (kn_sign_of : Kn P w K mg base "sign_of" 1 (sp_sign_of K)) (kn_thing_of : Kn P w K mg base "thing_of" 4 (sp_thing_of K)) : FnOk P w K mg base (L2.CX P w) 5 f fd ["text"] (sp_read_expr K) := by
  refine def_ok F sc_read_expr (fun _ => rfl) (fun a hp X E e1 e2 e3 e4 e5 hX => ?_)
  subst e1 e2 e3 e4 e5
  have h := bd_read_expr X E hX c_MOST_TERMS x_NoExpr m_isinstance m_len m_range m_str kn_sign_of kn_thing_of a hp
  rw [m_read_expr_eq a] at h
  exact h
abbrev s_law_word : Stmt := top 27
abbrev nm_law_word : List Str := ["_law_term_here", "_law_sign", "_law_sort", "_law_thing"]
theorem sc_law_word : FnScope nm_law_word ["_law_term_here"] (defScope s_law_word) := ⟨rfl, rfl, rfl, by decide +kernel, rfl, by decide +kernel, by decide +kernel⟩
theorem lk_law_word_int : (defScope s_law_word).names.lookup ("int" : Str) = some .globalImplicit := by decide +kernel
theorem lk_law_word_law_sign : (defScope s_law_word).names.lookup ("_law_sign" : Str) = some .local := by decide +kernel
theorem lk_law_word_law_sort : (defScope s_law_word).names.lookup ("_law_sort" : Str) = some .local := by decide +kernel
theorem lk_law_word_law_term_here : (defScope s_law_word).names.lookup ("_law_term_here" : Str) = some .local := by decide +kernel
theorem lk_law_word_law_thing : (defScope s_law_word).names.lookup ("_law_thing" : Str) = some .local := by decide +kernel
theorem lk_law_word_str : (defScope s_law_word).names.lookup ("str" : Str) = some .globalImplicit := by decide +kernel
def m_word (a0 : (Int × (List Nat) × D)) : Ctl Unit Empty := bnd (a0 : (Int × (List Nat) × D)) fun v1 => if (decide (v1.2.1 = [110, 117, 109, 98, 101, 114])) = true then Ctl.up (.ret (.v (D.str (strI (asI v1.2.2))))) else .ret (.v (D.str ((joinS [46] (asSs v1.2.2)) ++ (List.replicate ((if (decide (v1.2.1 = [99, 97, 108, 108])) = true then 1 else 0 : Int)).toNat [40, 41]).flatten)))
theorem bd_word (X : Cx) (E : XK) (hX : XOk 0 nm_law_word (defScope s_law_word) X E) (m_int : X.mg "int" = none) (m_str : X.mg "str" = none) (a0 : (Int × (List Nat) × D)) (hp : TermOk a0) : BK X E ([.d (D.tup [(D.int a0.1), (D.str a0.2.1), a0.2.2]), .un, .un, .un] : List B) (defBody s_law_word) (fun s : Unit => List.replicate 4 B.un) (fun s : Empty => nomatch s) (m_word a0) := by
  unfold m_word
  exact (b_setT (g := (gTup X.K 3 (gCons (gName 1) (gCons (gName 2) (gCons (gName 3) gNil))))) (js := [1, 2, 3]) (fun z : (Int × (List Nat) × D) => (D.tup [(D.int z.1), (D.str z.2.1), z.2.2])) (fun v1 : (Int × (List Nat) × D) => ([.d (D.tup [(D.int a0.1), (D.str a0.2.1), a0.2.2]), .d (D.int v1.1), .d (D.str v1.2.1), .d v1.2.2] : List B)) (pg_tup hX.calm (pgs_cons (pg_name (i := 1) hX.nd (hX.nm rfl) (hX.lc (loc_l lk_law_word_law_sign)) (.inl (hX.fn _))) (pgs_cons (pg_name (i := 2) hX.nd (hX.nm rfl) (hX.lc (loc_l lk_law_word_law_sort)) (.inl (hX.fn _))) (pgs_cons (pg_name (i := 3) hX.nd (hX.nm rfl) (hX.lc (loc_l lk_law_word_law_thing)) (.inl (hX.fn _))) pgs_nil)))) (fun v1 => (tg_tup (tgs_cons 1 (tgs_cons 2 (tgs_cons 3 tgs_nil))) rfl)) (ed_var 0 (hX.nm rfl) (hX.vs (vis_l lk_law_word_law_term_here)) rfl) (fun v1 hv1 => (b_ifr (et_cmp (od_eqS _ _) (ed_var 2 (hX.nm rfl) (hX.vs (vis_l lk_law_word_law_sort)) rfl) (ed_str [110, 117, 109, 98, 101, 114] (by decide +kernel))) (fun h2 => (b_ret (ed_strI (hX.gl lk_law_word_str) m_str (ed_cast (show v1.2.2 = (D.int (asI v1.2.2)) from (by subst_vars; first | exact TermOk.castI hp ‹_› | exact TermOk.castS hp ‹_›)) (ed_var 3 (hX.nm rfl) (hX.vs (vis_l lk_law_word_law_thing)) rfl)) (by first | decide | omega | (unfold CMul; omega) | (dsimp only; omega) | (rw [sizeLine_eq]; omega) | (split <;> decide) | (subst_vars; first | exact TermOk.log hp ‹_› | exact TermOk.jok hp ‹_› | (have q := TermOk.jlen hp ‹_›; rw [sizeLine_eq]; split <;> (simp; omega))))))) (fun h2 => (b_ret (ed_op (od_addS _ _ (by first | decide | omega | (unfold CMul; omega) | (dsimp only; omega) | (rw [sizeLine_eq]; omega) | (split <;> decide) | (subst_vars; first | exact TermOk.log hp ‹_› | exact TermOk.jok hp ‹_› | (have q := TermOk.jlen hp ‹_›; rw [sizeLine_eq]; split <;> (simp; omega))))) (ed_joinT (ed_str [46] (by decide +kernel)) (ed_cast (show v1.2.2 = (D.tup (List.map D.str (asSs v1.2.2))) from (by subst_vars; first | exact TermOk.castI hp ‹_› | exact TermOk.castS hp ‹_›)) (ed_var 3 (hX.nm rfl) (hX.vs (vis_l lk_law_word_law_thing)) rfl)) (by first | decide | omega | (unfold CMul; omega) | (dsimp only; omega) | (rw [sizeLine_eq]; omega) | (split <;> decide) | (subst_vars; first | exact TermOk.log hp ‹_› | exact TermOk.jok hp ‹_› | (have q := TermOk.jlen hp ‹_›; rw [sizeLine_eq]; split <;> (simp; omega))))) (ed_op (od_mulS (by first | decide | omega | (unfold CMul; omega) | (dsimp only; omega) | (rw [sizeLine_eq]; omega) | (split <;> decide) | (subst_vars; first | exact TermOk.log hp ‹_› | exact TermOk.jok hp ‹_› | (have q := TermOk.jlen hp ‹_›; rw [sizeLine_eq]; split <;> (simp; omega)))) (by first | decide | omega | (unfold CMul; omega) | (dsimp only; omega) | (rw [sizeLine_eq]; omega) | (split <;> decide) | (subst_vars; first | exact TermOk.log hp ‹_› | exact TermOk.jok hp ‹_› | (have q := TermOk.jlen hp ‹_›; rw [sizeLine_eq]; split <;> (simp; omega)))) (by first | decide | omega | (unfold CMul; omega) | (dsimp only; omega) | (rw [sizeLine_eq]; omega) | (split <;> decide) | (subst_vars; first | exact TermOk.log hp ‹_› | exact TermOk.jok hp ‹_› | (have q := TermOk.jlen hp ‹_›; rw [sizeLine_eq]; split <;> (simp; omega))))) (ed_str [40, 41] (by decide +kernel)) (ed_intB (hX.gl lk_law_word_int) m_int (ed_cmp (od_eqS _ _) (ed_var 2 (hX.nm rfl) (hX.vs (vis_l lk_law_word_law_sort)) rfl) (ed_str [99, 97, 108, 108] (by decide +kernel)))))))))))
def wordL (t : Tm) : List Nat := if decide (t.2.1 = NUM) = true then strI (asI t.2.2) else joinS [46] (asSs t.2.2) ++ (List.replicate ((if decide (t.2.1 = CALL) = true then 1 else 0 : Int)).toNat ([40, 41] : List Nat)).flatten
theorem m_word_eq (t : Tm) : m_word t = .ret (.v (.str (wordL t))) := by
  unfold m_word wordL
  simp only [bnd]
  cases decide (t.2.1 = NUM) <;> rfl
theorem wordL_len {t : Tm} (h : TermOk t) : (wordL t).length ≤ 40 := by
  unfold wordL
  split
  · rename_i e
    obtain ⟨n, h1, h2⟩ := h.num e
    rw [h1]
    show (strI (n : Int)).length ≤ 40
    rw [strI_nat]
    exact Nat.le_trans (TL.numL_len (by decide) h2) (by decide)
  · rename_i e
    have q := h.jlen (Bool.eq_false_iff.mpr e)
    rw [List.length_append]
    split
    · show _ + 2 ≤ 40
      omega
    · show _ + 0 ≤ 40
      omega
abbrev sgL (t : Tm) : List Nat := ix ([[32, 45, 32], [32, 43, 32]] : List (List Nat)) (if decide (t.1 = 1) = true then 1 else 0 : Int) []
theorem sgL_len (t : Tm) : (sgL t).length = 3 := by
  unfold sgL
  split <;> rfl
theorem sg_ok (t : Tm) : -(([[32, 45, 32], [32, 43, 32]] : List (List Nat)).length : Int) ≤ (if decide (t.1 = 1) = true then 1 else 0 : Int) ∧ (if decide (t.1 = 1) = true then 1 else 0 : Int) < (([[32, 45, 32], [32, 43, 32]] : List (List Nat)).length : Int) := by
  split <;> decide
theorem text_inv {ts : List Tm} (h : TermsOk ts) {i : Nat} {s s2 : List Nat} {y : Tm} (hy : (cutL ts (some 1) none)[i]? = some y) (hv : s.length ≤ 43 * (i + 1)) (e : (bnd (s ++ sgL y ++ wordL y) fun v => (Ctl.go v : Ctl (List Nat) (List Nat))) = .go s2) : s2.length ≤ 43 * (i + 1 + 1) := by
  have w := wordL_len (h.all y (cutL_sub (List.mem_of_getElem? hy)))
  have g := sgL_len y
  injection e with e
  rw [← e, List.length_append, List.length_append]
  omega
theorem text_i {ts : List Tm} (h : TermsOk ts) {i : Nat} {y : Tm} (hy : (cutL ts (some 1) none)[i]? = some y) : i < 6 := by
  have q := (List.getElem?_eq_some_iff.mp hy).1
  have q2 := cutL_len ts (some 1) none
  have q3 := h.few
  omega

abbrev sp_word (K : PySem.W.Frag) : Sp := spF K (A := (Int × (List Nat) × D)) (fun a => [(D.tup [(D.int a.1), (D.str a.2.1), a.2.2])]) (fun a => TermOk a) (fun a => .v (D.str (wordL a)))
theorem ok_word {P : Program} {w : World} {K : PySem.W.Frag} {mg : Str → Option Value} {base : Heap} {f : Addr} {fd : FuncData} (F : Fun K "_law_word" "_law_word" s_law_word f fd) (m_int : mg "int" = none) (m_str : mg "str" = none) : FnOk P w K mg base (L2.CX P w) 1 f fd ["_law_term_here"] (sp_word K) := by
  refine def_ok F sc_law_word (fun _ => rfl) (fun a hp X E e1 e2 e3 e4 e5 hX => ?_)
  subst e1 e2 e3 e4 e5
  have h := bd_word X E hX m_int m_str a hp
  rw [m_word_eq a] at h
  exact h
abbrev s_law_text : Stmt := top 28
abbrev nm_law_text : List Str := ["_law_terms_here", "_law_text_here", "_law_term_here"]
theorem sc_law_text : FnScope nm_law_text ["_law_terms_here"] (defScope s_law_text) := ⟨rfl, rfl, rfl, by decide +kernel, rfl, by decide +kernel, by decide +kernel⟩
theorem lk_law_text_int : (defScope s_law_text).names.lookup ("int" : Str) = some .globalImplicit := by decide +kernel
theorem lk_law_text_law_term_here : (defScope s_law_text).names.lookup ("_law_term_here" : Str) = some .local := by decide +kernel
theorem lk_law_text_law_terms_here : (defScope s_law_text).names.lookup ("_law_terms_here" : Str) = some .local := by decide +kernel
theorem lk_law_text_law_text_here : (defScope s_law_text).names.lookup ("_law_text_here" : Str) = some .local := by decide +kernel
theorem lk_law_text_law_word : (defScope s_law_text).names.lookup ("_law_word" : Str) = some .globalImplicit := by decide +kernel
def m_text (a0 : (List (Int × (List Nat) × D))) : Ctl Unit Empty := bnd ((wordL (ix a0 (0 : Int) (0, [], D.non))) : (List Nat)) fun v1 => Ctl.bind (S := (List Nat)) (loop (Y := (Int × (List Nat) × D)) (fun (s2 : (List Nat)) (y3 : (Int × (List Nat) × D)) => bnd (((s2 ++ (ix ([[32, 45, 32], [32, 43, 32]] : List (List Nat)) (if (decide (y3.1 = (1 : Int))) = true then 1 else 0 : Int) [])) ++ (wordL y3)) : (List Nat)) fun v7 => .go v7) v1 (cutL a0 (some (1 : Int)) none)) fun s8 => .ret (.v (D.str s8))
theorem bd_text (X : Cx) (E : XK) (hX : XOk 1 nm_law_text (defScope s_law_text) X E) (m_int : X.mg "int" = none) (kn_word : KnX X "_law_word" 1 (sp_word X.K)) (a0 : (List (Int × (List Nat) × D))) (hp : TermsOk a0) : BK X E ([.d (D.lst (List.map (fun z : (Int × (List Nat) × D) => (D.tup [(D.int z.1), (D.str z.2.1), z.2.2])) a0)), .un, .un] : List B) (defBody s_law_text) (fun s : Unit => List.replicate 3 B.un) (fun s : Empty => nomatch s) (m_text a0) := by
  unfold m_text
  exact (b_set 1 D.str hX rfl (loc_l lk_law_text_law_text_here) (ed_call (ix a0 (0 : Int) (0, [], D.non)) kn_word (hX.room.mono (by decide)) (hX.gl lk_law_text_law_word) (ea_cons (ed_ixL (EvD.el (ed_var 0 (hX.nm rfl) (hX.vs (vis_l lk_law_text_law_terms_here)) rfl)) ed_int (atI_map (f := (fun z : (Int × (List Nat) × D) => (D.tup [(D.int z.1), (D.str z.2.1), z.2.2]))) (xs := a0) (ix_ok (d := (0, [], D.non)) (by first | decide | omega | (unfold CMul; omega) | (dsimp only; omega) | (rw [sizeLine_eq]; omega) | (have := hp.pos; omega) | (have := hp.few; have q := cutL_len a0 (some 1) none; rw [sizeLine_eq]; omega) | exact hp.all _ (ix_mem _ (by have := hp.pos; omega)) | exact hp.all _ (cutL_sub (List.mem_of_getElem? «hi»)) | exact sg_ok _ | (have q1 := wordL_len (hp.all _ (cutL_sub (List.mem_of_getElem? «hi»))); have q2 := text_i hp «hi»; have q3 := sgL_len «yl»; dsimp only [sgL] at q3; (try rw [List.length_append]); rw [sizeLine_eq]; omega))))) ea_nil) (by first | decide | omega | (unfold CMul; omega) | (dsimp only; omega) | (rw [sizeLine_eq]; omega) | (have := hp.pos; omega) | (have := hp.few; have q := cutL_len a0 (some 1) none; rw [sizeLine_eq]; omega) | exact hp.all _ (ix_mem _ (by have := hp.pos; omega)) | exact hp.all _ (cutL_sub (List.mem_of_getElem? «hi»)) | exact sg_ok _ | (have q1 := wordL_len (hp.all _ (cutL_sub (List.mem_of_getElem? «hi»))); have q2 := text_i hp «hi»; have q3 := sgL_len «yl»; dsimp only [sgL] at q3; (try rw [List.length_append]); rw [sizeLine_eq]; omega)) rfl) (fun v1 hv1 => (show BK X E ([.d (D.lst (List.map (fun z : (Int × (List Nat) × D) => (D.tup [(D.int z.1), (D.str z.2.1), z.2.2])) a0)), .d (D.str v1), .un] : List B) _ _ _ _ from (b_for (Γl := (fun s2 : (List Nat) => ([.d (D.lst (List.map (fun z : (Int × (List Nat) × D) => (D.tup [(D.int z.1), (D.str z.2.1), z.2.2])) a0)), .d (D.str s2), .un] : List B))) (g := (gName 2)) (js := [2]) (fun (i : Nat) (s : List Nat) => s.length ≤ 43 * (i + 1)) (fun z : (Int × (List Nat) × D) => (D.tup [(D.int z.1), (D.str z.2.1), z.2.2])) (fun (s2 : (List Nat)) (y3 : (Int × (List Nat) × D)) => bnd (((s2 ++ (ix ([[32, 45, 32], [32, 43, 32]] : List (List Nat)) (if (decide (y3.1 = (1 : Int))) = true then 1 else 0 : Int) [])) ++ (wordL y3)) : (List Nat)) fun v7 => .go v7) v1 (cutL a0 (some (1 : Int)) none) (fun (s2 : (List Nat)) (y3 : (Int × (List Nat) × D)) => ([.d (D.lst (List.map (fun z : (Int × (List Nat) × D) => (D.tup [(D.int z.1), (D.str z.2.1), z.2.2])) a0)), .d (D.str s2), .d (D.tup [(D.int y3.1), (D.str y3.2.1), y3.2.2])] : List B)) hX (.keep (.keep (.keep .nil))) (by subst_vars; have q := wordL_len (hp.all _ (ix_mem (xs := a0) (i := 0) (0, [], D.non) (by have := hp.pos; omega))); omega) (it_lst (EvO.frz (eo_slM (EvD.el (ed_var 0 (hX.nm rfl) (hX.vs (vis_l lk_law_text_law_terms_here)) rfl)) (ep_some ed_int) ep_none))) (pg_name (i := 2) hX.nd (hX.nm rfl) (hX.lc (loc_l lk_law_text_law_term_here)) (.inl (hX.fn _))) (fun s2 y3 => (tg_name 2)) (fun i4 s2 y3 hi5 hv6 => (b_set 1 D.str hX rfl (loc_l lk_law_text_law_text_here) (ed_op (od_addS _ _ (by first | decide | omega | (unfold CMul; omega) | (dsimp only; omega) | (rw [sizeLine_eq]; omega) | (have := hp.pos; omega) | (have := hp.few; have q := cutL_len a0 (some 1) none; rw [sizeLine_eq]; omega) | exact hp.all _ (ix_mem _ (by have := hp.pos; omega)) | exact hp.all _ (cutL_sub (List.mem_of_getElem? hi5)) | exact sg_ok _ | (have q1 := wordL_len (hp.all _ (cutL_sub (List.mem_of_getElem? hi5))); have q2 := text_i hp hi5; have q3 := sgL_len y3; dsimp only [sgL] at q3; (try rw [List.length_append]); rw [sizeLine_eq]; omega))) (ed_op (od_addS _ _ (by first | decide | omega | (unfold CMul; omega) | (dsimp only; omega) | (rw [sizeLine_eq]; omega) | (have := hp.pos; omega) | (have := hp.few; have q := cutL_len a0 (some 1) none; rw [sizeLine_eq]; omega) | exact hp.all _ (ix_mem _ (by have := hp.pos; omega)) | exact hp.all _ (cutL_sub (List.mem_of_getElem? hi5)) | exact sg_ok _ | (have q1 := wordL_len (hp.all _ (cutL_sub (List.mem_of_getElem? hi5))); have q2 := text_i hp hi5; have q3 := sgL_len y3; dsimp only [sgL] at q3; (try rw [List.length_append]); rw [sizeLine_eq]; omega))) (ed_var 1 (hX.nm rfl) (hX.vs (vis_l lk_law_text_law_text_here)) rfl) (ed_ixL (EvO.el (eo_lst (ea_cons (ed_str [32, 45, 32] (by decide +kernel)) (ea_cons (ed_str [32, 43, 32] (by decide +kernel)) ea_nil)) (by show 2 ≤ sizeLine; decide))) (ed_intB (hX.gl lk_law_text_int) m_int (ed_cmp (od_eqI _ _) (ed_ixT (ed_var 2 (hX.nm rfl) (hX.vs (vis_l lk_law_text_law_term_here)) rfl) ed_int rfl) ed_int)) (atI_map (f := D.str) (xs := ([[32, 45, 32], [32, 43, 32]] : List (List Nat))) (ix_ok (d := []) (by first | decide | omega | (unfold CMul; omega) | (dsimp only; omega) | (rw [sizeLine_eq]; omega) | (have := hp.pos; omega) | (have := hp.few; have q := cutL_len a0 (some 1) none; rw [sizeLine_eq]; omega) | exact hp.all _ (ix_mem _ (by have := hp.pos; omega)) | exact hp.all _ (cutL_sub (List.mem_of_getElem? hi5)) | exact sg_ok _ | (have q1 := wordL_len (hp.all _ (cutL_sub (List.mem_of_getElem? hi5))); have q2 := text_i hp hi5; have q3 := sgL_len y3; dsimp only [sgL] at q3; (try rw [List.length_append]); rw [sizeLine_eq]; omega)))))) (ed_call y3 kn_word (hX.room.mono (by decide)) (hX.gl lk_law_text_law_word) (ea_cons (ed_var 2 (hX.nm rfl) (hX.vs (vis_l lk_law_text_law_term_here)) rfl) ea_nil) (by first | decide | omega | (unfold CMul; omega) | (dsimp only; omega) | (rw [sizeLine_eq]; omega) | (have := hp.pos; omega) | (have := hp.few; have q := cutL_len a0 (some 1) none; rw [sizeLine_eq]; omega) | exact hp.all _ (ix_mem _ (by have := hp.pos; omega)) | exact hp.all _ (cutL_sub (List.mem_of_getElem? hi5)) | exact sg_ok _ | (have q1 := wordL_len (hp.all _ (cutL_sub (List.mem_of_getElem? hi5))); have q2 := text_i hp hi5; have q3 := sgL_len y3; dsimp only [sgL] at q3; (try rw [List.length_append]); rw [sizeLine_eq]; omega)) rfl)) (fun v7 hv7 => (show BK X E ([.d (D.lst (List.map (fun z : (Int × (List Nat) × D) => (D.tup [(D.int z.1), (D.str z.2.1), z.2.2])) a0)), .d (D.str v7), .d (D.tup [(D.int y3.1), (D.str y3.2.1), y3.2.2])] : List B) _ _ _ _ from (b_nil (.keep (.keep (.drop .nil)))))))) (fun i s y s2 hy hv e => text_inv hp hy hv e) (fun s8 hs8 => (show BK X E ([.d (D.lst (List.map (fun z : (Int × (List Nat) × D) => (D.tup [(D.int z.1), (D.str z.2.1), z.2.2])) a0)), .d (D.str s8), .un] : List B) _ _ _ _ from (b_ret (ed_var 1 (hX.nm rfl) (hX.vs (vis_l lk_law_text_law_text_here)) rfl))))))))
def textL (ts : List Tm) : List Nat := (cutL ts (some 1) none).foldl (fun s t => s ++ sgL t ++ wordL t) (wordL (ix ts 0 (0, [], D.non)))
theorem loop_foldl {S Y T : Type} {f : S → Y → S} : ∀ (ys : List Y) (s : S), (loop (fun s y => .go (f s y)) s ys : Ctl S T) = .go (ys.foldl f s)
  | [], _ => rfl
  | y :: ys, s => loop_foldl ys (f s y)
theorem m_text_eq (ts : List Tm) : m_text ts = .ret (.v (.str (textL ts))) := by
  unfold m_text textL
  simp only [bnd]
  rw [loop_foldl (T := Empty) (f := fun (s : List Nat) (t : Tm) => s ++ sgL t ++ wordL t)]
  rfl
theorem foldl_len {ts : List Tm} (h : ∀ t ∈ ts, TermOk t) : ∀ s : List Nat, (ts.foldl (fun s t => s ++ sgL t ++ wordL t) s).length ≤ s.length + 43 * ts.length := by
  induction ts with
  | nil => intro s; exact Nat.le_refl _
  | cons t ts ih =>
    intro s
    have q := ih (fun t ht => h t (List.mem_cons_of_mem _ ht)) (s ++ sgL t ++ wordL t)
    have w := wordL_len (h t List.mem_cons_self)
    have g := sgL_len t
    rw [List.length_append, List.length_append] at q
    rw [List.foldl_cons, List.length_cons]
    omega
theorem ix_zero {α : Type} {t : α} {ts : List α} {d : α} : ix (t :: ts) 0 d = t := ix_nat (t :: ts) 0 d
theorem cut_one {α : Type} {t : α} {ts : List α} : cutL (t :: ts) (some 1) none = ts := by
  unfold cutL
  have e1 : HT.sIx (t :: ts).length 0 (some 1) = 1 := by
    have q := HT.sIx_nat (t :: ts).length 0 1
    rw [List.length_cons] at q ⊢
    exact q.trans (by omega)
  rw [e1]
  show ts.take (ts.length + 1 - 1) = ts
  exact List.take_length
theorem textL_len {ts : List Tm} (h : TermsOk ts) : (textL ts).length ≤ 1000 := by
  unfold textL
  cases ts with
  | nil => exact absurd h.pos (by decide)
  | cons t ts =>
    rw [cut_one, ix_zero]
    have q := foldl_len (fun t ht => h.all t (List.mem_cons_of_mem _ ht)) (wordL t)
    have w := wordL_len (h.all t List.mem_cons_self)
    have f := h.few
    rw [List.length_cons] at f
    omega
def sg1 (t : Tm) : List Nat := if decide (t.1 = 1) = true then [43] else [45]
theorem sgL_eq (t : Tm) : sgL t = [32] ++ sg1 t ++ [32] := by
  unfold sgL sg1
  cases decide (t.1 = 1) <;> rfl
def wordsT : List Tm → List (List Nat)
  | [] => []
  | t :: ts => sg1 t :: wordL t :: wordsT ts
theorem joinL_snoc (s : List Nat) : ∀ (ls : List (List Nat)) (a : List Nat), ls ≠ [] → TL.joinL s (ls ++ [a]) = TL.joinL s ls ++ (s ++ a)
  | [], _, h => absurd rfl h
  | [p], a, _ => by
    show p ++ (s ++ a) = _
    rfl
  | p :: q :: r, a, _ => by
    have ih := joinL_snoc s (q :: r) a (by simp)
    show p ++ (s ++ TL.joinL s ((q :: r) ++ [a])) = p ++ (s ++ TL.joinL s (q :: r)) ++ (s ++ a)
    rw [ih]
    simp only [List.append_assoc]
theorem text_fold : ∀ (ts : List Tm) (ws : List (List Nat)), ws ≠ [] → ts.foldl (fun s t => s ++ sgL t ++ wordL t) (joinS [32] ws) = joinS [32] (ws ++ wordsT ts)
  | [], ws, _ => by
    show joinS [32] ws = joinS [32] (ws ++ [])
    rw [List.append_nil]
  | t :: ts, ws, h => by
    have e : joinS [32] ws ++ sgL t ++ wordL t = joinS [32] (ws ++ [sg1 t] ++ [wordL t]) := by
      rw [joinS_eq, joinS_eq, joinL_snoc _ _ _ (by simp), joinL_snoc _ _ _ h, sgL_eq]
      simp only [List.append_assoc]
    rw [List.foldl_cons, e, text_fold ts _ (by simp)]
    simp only [wordsT, List.append_assoc]
    rfl
theorem textL_join (t : Tm) (ts : List Tm) : textL (t :: ts) = joinS [32] (wordL t :: wordsT ts) := by
  unfold textL
  rw [cut_one, ix_zero]
  have e : wordL t = joinS [32] [wordL t] := by
    rw [joinS_eq]
    rfl
  rw [e, text_fold ts _ (by simp)]
  have e2 : joinS [32] [wordL t] = wordL t := e.symm
  rw [e2]
  rfl
theorem strI_chr {n c : Nat} (h : c ∈ strI (n : Int)) : 48 ≤ c ∧ c ≤ 57 := by
  rw [strI_nat] at h
  exact TL.numL_digits n c h
theorem mem_joinL {c s : Nat} : ∀ {ls : List (List Nat)}, c ∈ TL.joinL [s] ls → c = s ∨ ∃ x ∈ ls, c ∈ x
  | [], h => by cases h
  | [p], h => .inr ⟨p, by simp, h⟩
  | p :: q :: r, h => by
    have h' : c ∈ p ++ ([s] ++ TL.joinL [s] (q :: r)) := h
    rw [List.mem_append, List.mem_append, List.mem_singleton] at h'
    rcases h' with h' | h' | h'
    · exact .inr ⟨p, by simp, h'⟩
    · exact .inl h'
    · rcases mem_joinL h' with e | ⟨x, hx, hc⟩
      · exact .inl e
      · exact .inr ⟨x, List.mem_cons_of_mem _ hx, hc⟩
theorem Names4.chr {ns : List (List Nat)} (h : Names4 ns) {c : Nat} (hc : c ∈ joinS [46] ns) : c = 46 ∨ (97 ≤ c ∧ c ≤ 122) := by
  rw [joinS_eq] at hc
  rcases mem_joinL hc with e | ⟨x, hx, hc⟩
  · exact .inl e
  · exact .inr (ltr_lt (h.ltr x hx c hc))
theorem wordL_num {t : Tm} {n : Nat} (h1 : t.2.1 = NUM) (h2 : t.2.2 = D.int n) : wordL t = TL.numL n := by
  unfold wordL
  rw [h1, h2]
  show strI (n : Int) = _
  exact strI_nat n
theorem wordL_path {t : Tm} {ns : List (List Nat)} (h1 : t.2.1 = PATH) (h2 : t.2.2 = D.tup (ns.map D.str)) : wordL t = joinS [46] ns := by
  unfold wordL
  rw [h1, h2, map_asS]
  show joinS [46] ns ++ [] = _
  exact List.append_nil _
theorem wordL_call {t : Tm} {ns : List (List Nat)} (h1 : t.2.1 = CALL) (h2 : t.2.2 = D.tup (ns.map D.str)) : wordL t = joinS [46] ns ++ [40, 41] := by
  unfold wordL
  rw [h1, h2, map_asS]
  rfl
theorem wordL_chr {t : Tm} (h : TermOk t) {c : Nat} (hc : c ∈ wordL t) : 40 ≤ c := by
  rcases h.th with ⟨h1, n, h2, _⟩ | ⟨h1 | h1, ns, h2, h3⟩
  · rw [wordL_num h1 h2] at hc
    have := TL.numL_digits n c hc
    omega
  · rw [wordL_path h1 h2] at hc
    rcases h3.chr hc with e | e <;> omega
  · rw [wordL_call h1 h2, List.mem_append] at hc
    rcases hc with hc | hc
    · rcases h3.chr hc with e | e <;> omega
    · simp only [List.mem_cons, List.not_mem_nil, or_false] at hc
      omega
theorem numL_head : ∀ (n : Nat), 0 < n → ∃ c r, TL.numL n = c :: r ∧ 49 ≤ c := by
  intro n
  induction n using Nat.strongRecOn with
  | ind n ih =>
    intro h
    by_cases h10 : n < 10
    · exact ⟨48 + n, [], TL.numL_lt h10, by omega⟩
    · obtain ⟨c, r, e, hc⟩ := ih (n / 10) (by omega) (by omega)
      exact ⟨c, r ++ [48 + n % 10], by rw [TL.numL_step (by omega), e]; rfl, hc⟩
theorem written_num {n : Nat} (h : n < 10 ^ 20) : writtenL (TL.numL n) = true := by
  have hl := TL.numL_len (n := n) (k := 20) (by decide) h
  have hp := List.length_pos_iff.mpr (TL.numL_ne n)
  have hd := TL.numL_digits n
  unfold writtenL
  have e1 : (TL.numL n).all (fun c => decide (c ∈ FIGURES)) = true := by
    rw [List.all_eq_true]
    intro c hc
    have := hd c hc
    refine decide_eq_true ?_
    unfold FIGURES
    simp only [List.mem_cons, List.not_mem_nil, or_false]
    omega
  rw [e1, decide_eq_true (show (1 : Int) ≤ ((TL.numL n).length : Int) by omega), decide_eq_true (show ((TL.numL n).length : Int) ≤ 20 by omega)]
  by_cases h0 : n = 0
  · subst h0
    rfl
  · obtain ⟨c, r, e, hc⟩ := numL_head n (by omega)
    rw [e, ix_zero]
    have : ([c] : List Nat) ≠ [48] := by
      intro z
      injection z with z
      omega
    rw [decide_eq_false this]
    show (true && true && true && (_ || !false)) = true
    simp
theorem names_ok {ns : List (List Nat)} (h : Names4 ns) : allOk ns 4 = true := by
  unfold allOk
  have h1 := h.pos
  have h2 := h.few
  rw [decide_eq_true (show (1 : Int) ≤ (ns.length : Int) by omega), decide_eq_true (show (ns.length : Int) ≤ 4 by omega)]
  show (true && true && ns.all nameOk) = true
  rw [Bool.true_and, Bool.true_and, List.all_eq_true]
  intro x hx
  have q := h.short x hx
  unfold nameOk
  rw [decide_eq_true (show (1 : Int) ≤ (x.length : Int) by omega), decide_eq_true (show (x.length : Int) ≤ 8 by omega)]
  show (true && true && _) = true
  rw [Bool.true_and, Bool.true_and, List.all_eq_true]
  exact fun c hc => decide_eq_true (h.ltr x hx c hc)
theorem names_split {ns : List (List Nat)} (h : Names4 ns) : splitS (joinS [46] ns) [46] = ns := split_join (by decide) (List.length_pos_iff.mp h.pos) fun p hp hc => by
  have := ltr_lt (h.ltr p hp 46 hc)
  omega
theorem joinL_pos13 {s p : List Nat} {r : List (List Nat)} (h : 0 < p.length) : 0 < (TL.joinL s (p :: r)).length := by
  cases r with
  | nil => exact h
  | cons q r =>
    show 0 < (p ++ (s ++ TL.joinL s (q :: r))).length
    rw [List.length_append]
    omega
theorem names_head {ns : List (List Nat)} (h : Names4 ns) (k : List Nat) : writtenL (joinS [46] ns ++ k) = false := by
  cases ns with
  | nil => exact absurd h.pos (by decide)
  | cons p r =>
    have hp := h.short p (by simp)
    cases p with
    | nil => exact absurd hp.1 (by decide)
    | cons c p =>
      have hc := ltr_lt (h.ltr (c :: p) (by simp) c (by simp))
      have hm : c ∈ joinS [46] ((c :: p) :: r) ++ k := by
        rw [joinS_eq, List.mem_append]
        refine .inl ?_
        cases r with
        | nil => exact List.mem_cons_self
        | cons q r => exact List.mem_append_left _ List.mem_cons_self
      apply Bool.eq_false_iff.mpr
      intro z
      have := (written_digits z).1 c hm
      omega
theorem cut_end (s : List Nat) : cutL (s ++ [40, 41]) (some (-2)) none = [40, 41] ∧ cutL (s ++ [40, 41]) none (some (-2)) = s := by
  have e : HT.sIx (s ++ [40, 41]).length 0 (some (-2)) = s.length ∧ HT.sIx (s ++ [40, 41]).length (s ++ [40, 41]).length (some (-2)) = s.length := by
    have e0 : (s ++ [40, 41]).length = s.length + 2 := by rw [List.length_append]; rfl
    rw [e0]
    unfold HT.sIx
    simp only [show (-2 : Int) < 0 from by decide, if_true]
    omega
  unfold cutL
  rw [e.1, e.2]
  refine ⟨?_, ?_⟩
  · rw [List.drop_left, List.length_append]
    show ([40, 41] : List Nat).take (s.length + 2 - s.length) = _
    rw [show s.length + 2 - s.length = 2 by omega]
    rfl
  · show ((s ++ [40, 41]).drop 0).take (s.length - 0) = s
    rw [Nat.sub_zero, List.drop_zero, List.take_left]
theorem thing_word {t : Tm} (h : TermOk t) : thingL (wordL t) = .ok (t.2.1, t.2.2) := by
  rcases h.th with ⟨h1, n, h2, h3⟩ | ⟨h1 | h1, ns, h2, h3⟩
  · rw [wordL_num h1 h2, h1, h2]
    unfold thingL
    rw [if_pos (written_num h3)]
    unfold natOf
    rw [TL.numL_val]
  · rw [wordL_path h1 h2, h1, h2]
    unfold thingL
    have e := names_head h3 []
    rw [List.append_nil] at e
    rw [if_neg (by rw [e]; exact Bool.false_ne_true)]
    have e2 : decide (cutL (joinS [46] ns) (some (-2)) none = [40, 41]) = false := by
      apply decide_eq_false
      intro z
      have hm : (40 : Nat) ∈ cutL (joinS [46] ns) (some (-2)) none := by rw [z]; simp
      rcases h3.chr (cutL_sub hm) with q | q <;> omega
    rw [e2]
    simp only [Bool.false_eq_true, if_false]
    rw [names_split h3, names_ok h3]
    rfl
  · rw [wordL_call h1 h2, h1, h2]
    unfold thingL
    rw [if_neg (by rw [names_head h3]; exact Bool.false_ne_true)]
    obtain ⟨c1, c2⟩ := cut_end (joinS [46] ns)
    rw [decide_eq_true c1, c2]
    simp only [if_true]
    rw [names_split h3, names_ok h3]
    rfl
theorem sign_word {t : Tm} (h : TermOk t) : signL (sg1 t) = .ok t.1 := by
  unfold sg1
  rcases h.sg with e | e <;> rw [e] <;> rfl
theorem words_len : ∀ ts : List Tm, (wordsT ts).length = 2 * ts.length
  | [] => rfl
  | t :: ts => by
    show (wordsT ts).length + 1 + 1 = 2 * (ts.length + 1)
    rw [words_len ts]
    omega
theorem words_get : ∀ (ts : List Tm) (j : Nat) (t : Tm), ts[j]? = some t → (wordsT ts)[2 * j]? = some (sg1 t) ∧ (wordsT ts)[2 * j + 1]? = some (wordL t)
  | [], j, t, h => by simp at h
  | u :: ts, 0, t, h => by
    simp at h
    subst h
    exact ⟨rfl, rfl⟩
  | u :: ts, j + 1, t, h => by
    have q := words_get ts j t (by simpa using h)
    have e : 2 * (j + 1) = 2 * j + 1 + 1 := by omega
    rw [e]
    exact ⟨by simpa [wordsT] using q.1, by simpa [wordsT] using q.2⟩
theorem words_free {ts : List Tm} (h : ∀ t ∈ ts, TermOk t) : ∀ w ∈ wordsT ts, 32 ∉ w := by
  induction ts with
  | nil => intro w hw; cases hw
  | cons t ts ih =>
    intro w hw
    have hw' : w = sg1 t ∨ w = wordL t ∨ w ∈ wordsT ts := by simpa [wordsT] using hw
    rcases hw' with e | e | e
    · subst e
      unfold sg1
      split <;> decide
    · subst e
      exact fun hc => absurd (wordL_chr (h t (by simp)) hc) (by decide)
    · exact ih (fun t ht => h t (List.mem_cons_of_mem _ ht)) w e
theorem ix_some {α : Type} {xs : List α} {i : Nat} {x d : α} (h : xs[i]? = some x) : ix xs (i : Int) d = x := by
  rw [ix_nat, List.getD_eq_getElem?_getD, h]
  rfl
theorem read_step {t0 : Tm} {ts : List Tm} (h : TermsOk (t0 :: ts)) {j : Nat} {t : Tm} (e : (t0 :: ts)[j]? = some t) (acc : List Tm) : readStep (wordL t0 :: wordsT ts) acc (0 + (j : Int) * 2) = .ok (acc ++ [t]) := by
  have ht := h.all t (List.mem_of_getElem? e)
  unfold readStep
  cases j with
  | zero =>
    simp at e
    subst e
    have e1 : ix (wordL t0 :: wordsT ts) (0 + ((0 : Nat) : Int) * 2) [] = wordL t0 := ix_zero
    rw [e1, thing_word ht]
    have f := h.first t0 rfl
    show Except.ok (acc ++ [((1 : Int), t0.2.1, t0.2.2)]) = _
    rw [← f]
  | succ j =>
    have e' : ts[j]? = some t := by simpa using e
    obtain ⟨q1, q2⟩ := words_get ts j t e'
    have e1 : (0 + ((j + 1 : Nat) : Int) * 2 - 1) = ((2 * j + 1 : Nat) : Int) := by omega
    have e2 : (0 + ((j + 1 : Nat) : Int) * 2) = ((2 * j + 2 : Nat) : Int) := by omega
    have e3 : decide ((0 + ((j + 1 : Nat) : Int) * 2) > 0) = true := decide_eq_true (by omega)
    have k1 : ix (wordL t0 :: wordsT ts) ((2 * j + 1 : Nat) : Int) [] = sg1 t := ix_some (by simpa using q1)
    have k2 : ix (wordL t0 :: wordsT ts) ((2 * j + 2 : Nat) : Int) [] = wordL t := ix_some (by simpa using q2)
    rw [e3, e1, e2, k1, k2, if_pos rfl, sign_word ht, thing_word ht]
    rfl
theorem read_fold {t0 : Tm} {ts : List Tm} (h : TermsOk (t0 :: ts)) : ∀ j : Nat, j ≤ (t0 :: ts).length → (rintsS 0 2 j).foldlM (readStep (wordL t0 :: wordsT ts)) [] = .ok ((t0 :: ts).take j)
  | 0, _ => rfl
  | j + 1, hj => by
    have hl : j < (t0 :: ts).length := by omega
    have ih := read_fold h j (by omega)
    have e := List.getElem?_eq_getElem hl
    unfold rintsS at ih ⊢
    rw [List.range_succ, List.map_append, List.foldlM_append, ih]
    show ([0 + (j : Int) * 2].foldlM (readStep (wordL t0 :: wordsT ts)) ((t0 :: ts).take j)) = _
    rw [List.foldlM_cons, read_step h e]
    show Except.ok _ = _
    congr 1
    rw [List.take_add_one, e]
    rfl
theorem text_words {t0 : Tm} {ts : List Tm} (h : TermsOk (t0 :: ts)) : splitS (textL (t0 :: ts)) [32] = wordL t0 :: wordsT ts := by
  rw [textL_join]
  refine split_join (by decide) (by simp) fun w hw => ?_
  rcases List.mem_cons.mp hw with e | e
  · subst e
    exact fun hc => absurd (wordL_chr (h.all t0 (by simp)) hc) (by decide)
  · exact words_free (fun t ht => h.all t (List.mem_cons_of_mem _ ht)) w e
/-- what is read from a text is the expression -/
theorem read_text {ts : List Tm} (h : TermsOk ts) : readL (textL ts) = .ok ts := by
  cases ts with
  | nil => exact absurd h.pos (by decide)
  | cons t0 ts =>
    have hf := h.few
    rw [List.length_cons] at hf
    unfold readL
    rw [text_words h]
    have hl : (wordL t0 :: wordsT ts).length = 2 * ts.length + 1 := by rw [List.length_cons, words_len]
    have hn : rngN 0 ((wordL t0 :: wordsT ts).length : Int) 2 = (t0 :: ts).length := by
      rw [rngN_two, hl, List.length_cons]
      omega
    have c1 : decide (((wordL t0 :: wordsT ts).length : Int) % 2 = 0) = false := decide_eq_false (by rw [hl]; omega)
    have c2 : decide (((wordL t0 :: wordsT ts).length : Int) > 2 * 6 - 1) = false := decide_eq_false (by rw [hl]; omega)
    simp only [c1, c2, Bool.or_self, Bool.false_eq_true, if_false, hn]
    rw [read_fold h _ (Nat.le_refl _), List.take_length]
theorem if_ix {α : Type} {xs : List α} {b : Bool} (h : 2 ≤ xs.length) : -(xs.length : Int) ≤ (if b = true then 1 else 0 : Int) ∧ (if b = true then 1 else 0 : Int) < (xs.length : Int) := by
  cases b <;> simp <;> omega
theorem far_pos (c : Int) : 0 < ix ([10, 1000, (10 : Int) ^ ((10 : Int)).toNat, (10 : Int) ^ ((20 : Int)).toNat] : List Int) (pickL c 3 4) 0 ∧ ix ([10, 1000, (10 : Int) ^ ((10 : Int)).toNat, (10 : Int) ^ ((20 : Int)).toNat] : List Int) (pickL c 3 4) 0 ≤ 10 ^ 20 := by
  have q := pickL_lt c 3 (m := 4) (by decide)
  exact ix_all (P := fun x : Int => 0 < x ∧ x ≤ 10 ^ 20) (by decide +kernel) (by show -(4 : Int) ≤ _ ∧ _ < (4 : Int); omega)
abbrev sp_text (K : PySem.W.Frag) : Sp := spF K (A := (List (Int × (List Nat) × D))) (fun a => [(D.lst (List.map (fun z : (Int × (List Nat) × D) => (D.tup [(D.int z.1), (D.str z.2.1), z.2.2])) a))]) (fun a => TermsOk a) (fun a => .v (D.str (textL a)))
theorem ok_text {P : Program} {w : World} {K : PySem.W.Frag} {mg : Str → Option Value} {base : Heap} {f : Addr} {fd : FuncData} (F : Fun K "_law_text" "_law_text" s_law_text f fd) (m_int : mg "int" = none) (kn_word : Kn P w K mg base "_law_word" 1 (sp_word K)) : FnOk P w K mg base (L2.CX P w) 2 f fd ["_law_terms_here"] (sp_text K) := by
  refine def_ok F sc_law_text (fun _ => rfl) (fun a hp X E e1 e2 e3 e4 e5 hX => ?_)
  subst e1 e2 e3 e4 e5
  have h := bd_text X E hX m_int kn_word a hp
  rw [m_text_eq a] at h
  exact h
abbrev s_show_term : Stmt := top 17
abbrev nm_show_term : List Str := ["sort", "thing", "path"]
theorem sc_show_term : FnScope nm_show_term ["sort", "thing"] (defScope s_show_term) := ⟨rfl, rfl, rfl, by decide +kernel, rfl, by decide +kernel, by decide +kernel⟩
theorem lk_show_term_path : (defScope s_show_term).names.lookup ("path" : Str) = some .local := by decide +kernel
theorem lk_show_term_sort : (defScope s_show_term).names.lookup ("sort" : Str) = some .local := by decide +kernel
theorem lk_show_term_str : (defScope s_show_term).names.lookup ("str" : Str) = some .globalImplicit := by decide +kernel
theorem lk_show_term_thing : (defScope s_show_term).names.lookup ("thing" : Str) = some .local := by decide +kernel
def m_show_term (a0 : (List Nat)) (a1 : D) : Ctl Unit Empty := if (decide (a0 = [110, 117, 109, 98, 101, 114])) = true then Ctl.up (.ret (.v (D.str (strI (asI a1))))) else bnd ((joinS [46] (asSs a1)) : (List Nat)) fun v2 => if (decide (a0 = [99, 97, 108, 108])) = true then Ctl.up (.ret (.v (D.str (v2 ++ [40, 41])))) else .ret (.v (D.str v2))
theorem bd_show_term (X : Cx) (E : XK) (hX : XOk 0 nm_show_term (defScope s_show_term) X E) (m_str : X.mg "str" = none) (a0 : (List Nat)) (a1 : D) (hp : TermOk (1, a0, a1)) : BK X E ([.d (D.str a0), .d a1, .un] : List B) (defBody s_show_term) (fun s : Unit => List.replicate 3 B.un) (fun s : Empty => nomatch s) (m_show_term a0 a1) := by
  unfold m_show_term
  exact (b_ifr (et_cmp (od_eqS _ _) (ed_var 0 (hX.nm rfl) (hX.vs (vis_l lk_show_term_sort)) rfl) (ed_str [110, 117, 109, 98, 101, 114] (by decide +kernel))) (fun h1 => (b_ret (ed_strI (hX.gl lk_show_term_str) m_str (ed_cast (show a1 = (D.int (asI a1)) from (by subst_vars; first | exact TermOk.castI hp ‹_› | exact TermOk.castS hp ‹_›)) (ed_var 1 (hX.nm rfl) (hX.vs (vis_l lk_show_term_thing)) rfl)) (by first | decide | omega | (unfold CMul; omega) | (dsimp only; omega) | (rw [sizeLine_eq]; omega) | (subst_vars; first | exact TermOk.log hp ‹_› | exact TermOk.jok hp ‹_› | (have q := TermOk.jlen hp ‹_›; dsimp only at q; rw [sizeLine_eq]; simp only [List.length_cons, List.length_nil]; omega)))))) (fun h1 => (b_set 2 D.str hX rfl (loc_l lk_show_term_path) (ed_joinT (ed_str [46] (by decide +kernel)) (ed_cast (show a1 = (D.tup (List.map D.str (asSs a1))) from (by subst_vars; first | exact TermOk.castI hp ‹_› | exact TermOk.castS hp ‹_›)) (ed_var 1 (hX.nm rfl) (hX.vs (vis_l lk_show_term_thing)) rfl)) (by first | decide | omega | (unfold CMul; omega) | (dsimp only; omega) | (rw [sizeLine_eq]; omega) | (subst_vars; first | exact TermOk.log hp ‹_› | exact TermOk.jok hp ‹_› | (have q := TermOk.jlen hp ‹_›; dsimp only at q; rw [sizeLine_eq]; simp only [List.length_cons, List.length_nil]; omega)))) (fun v2 hv2 => (show BK X E ([.d (D.str a0), .d a1, .d (D.str v2)] : List B) _ _ _ _ from (b_ifr (et_cmp (od_eqS _ _) (ed_var 0 (hX.nm rfl) (hX.vs (vis_l lk_show_term_sort)) rfl) (ed_str [99, 97, 108, 108] (by decide +kernel))) (fun h3 => (b_ret (ed_op (od_addS _ _ (by first | decide | omega | (unfold CMul; omega) | (dsimp only; omega) | (rw [sizeLine_eq]; omega) | (subst_vars; first | exact TermOk.log hp ‹_› | exact TermOk.jok hp ‹_› | (have q := TermOk.jlen hp ‹_›; dsimp only at q; rw [sizeLine_eq]; simp only [List.length_cons, List.length_nil]; omega)))) (ed_var 2 (hX.nm rfl) (hX.vs (vis_l lk_show_term_path)) rfl) (ed_str [40, 41] (by decide +kernel))))) (fun h3 => (b_ret (ed_var 2 (hX.nm rfl) (hX.vs (vis_l lk_show_term_path)) rfl)))))))))
def showTermL (s : List Nat) (t : D) : List Nat := wordL (1, s, t)
theorem m_show_term_eq (s : List Nat) (t : D) : m_show_term s t = .ret (.v (.str (showTermL s t))) := by
  unfold m_show_term showTermL wordL
  simp only [bnd]
  cases h1 : decide (s = NUM) with
  | true => rfl
  | false =>
    cases h2 : decide (s = CALL) with
    | true => rfl
    | false =>
      simp only [h1, h2, Bool.false_eq_true, if_false]
      show Ctl.ret _ = Ctl.ret (Res.v (.str (joinS [46] (asSs t) ++ [])))
      rw [List.append_nil]
theorem term_one {t : Tm} (h : TermOk t) : TermOk (1, t.2.1, t.2.2) := ⟨.inl rfl, h.th⟩
theorem show_i {ts : List Tm} (h : TermsOk ts) {i : Nat} {y : Tm} (hy : ts[i]? = some y) : i < 6 := by
  have q := (List.getElem?_eq_some_iff.mp hy).1
  have q3 := h.few
  omega
def showSep (s : List Nat) (t : Tm) : List Nat := if (!decide (s = []) && decide (t.1 = 1)) = true then s ++ [32, 43, 32] else if (!decide (s = [])) = true then s ++ [32, 45, 32] else s
theorem showSep_len (s : List Nat) (t : Tm) : (showSep s t).length ≤ s.length + 3 := by
  unfold showSep
  split
  · rw [List.length_append]
    exact Nat.le_refl _
  · split
    · rw [List.length_append]
      exact Nat.le_refl _
    · omega
theorem show_sep {T : Type} (s2 : List Nat) (y3 : Tm) : (if ((!(decide (s2 = ([] : List Nat)))) && (decide (y3.1 = (1 : Int)))) = true then bnd ((s2 ++ [32, 43, 32]) : (List Nat)) fun v9 => (.go v9 : Ctl (List Nat) T) else Ctl.bind (S := (List Nat)) (if (!(decide (s2 = ([] : List Nat)))) = true then bnd ((s2 ++ [32, 45, 32]) : (List Nat)) fun v11 => .go v11 else .go s2) fun s12 => .go s12) = .go (showSep s2 y3) := by
  unfold showSep
  cases (!(decide (s2 = ([] : List Nat)))) <;> cases (decide (y3.1 = (1 : Int))) <;> rfl
theorem show_s {T : Type} {s2 s13 : List Nat} {y3 : Tm} (h : (if ((!(decide (s2 = ([] : List Nat)))) && (decide (y3.1 = (1 : Int)))) = true then bnd ((s2 ++ [32, 43, 32]) : (List Nat)) fun v9 => (.go v9 : Ctl (List Nat) T) else Ctl.bind (S := (List Nat)) (if (!(decide (s2 = ([] : List Nat)))) = true then bnd ((s2 ++ [32, 45, 32]) : (List Nat)) fun v11 => .go v11 else .go s2) fun s12 => .go s12) = .go s13) : s13.length ≤ s2.length + 3 := by
  rw [show_sep] at h
  injection h with h
  rw [← h]
  exact showSep_len _ _
theorem show_inv {ts : List Tm} (h : TermsOk ts) {i : Nat} {s s2 : List Nat} {y : Tm} (hy : ts[i]? = some y) (hv : s.length ≤ 43 * i) (e : (Ctl.bind (S := (List Nat)) (if ((!(decide (s = ([] : List Nat)))) && (decide (y.1 = (1 : Int)))) = true then bnd ((s ++ [32, 43, 32]) : (List Nat)) fun v9 => (.go v9 : Ctl (List Nat) (List Nat)) else Ctl.bind (S := (List Nat)) (if (!(decide (s = ([] : List Nat)))) = true then bnd ((s ++ [32, 45, 32]) : (List Nat)) fun v11 => .go v11 else .go s) fun s12 => .go s12) fun s13 => bnd ((s13 ++ (showTermL y.2.1 y.2.2)) : (List Nat)) fun v14 => .go v14) = .go s2) : s2.length ≤ 43 * (i + 1) := by
  rw [show_sep] at e
  injection e with e
  have q1 := wordL_len (term_one (h.all _ (List.mem_of_getElem? hy)))
  have q2 := showSep_len s y
  rw [← e, List.length_append]
  dsimp only [showTermL]
  omega

abbrev sp_show_term (K : PySem.W.Frag) : Sp := spF K (A := (List Nat) × D) (fun a => [(D.str a.1), a.2]) (fun a => TermOk (1, a.1, a.2)) (fun a => .v (D.str (showTermL a.1 a.2)))
theorem ok_show_term {P : Program} {w : World} {K : PySem.W.Frag} {mg : Str → Option Value} {base : Heap} {f : Addr} {fd : FuncData} (F : Fun K "show_term" "show_term" s_show_term f fd) (m_str : mg "str" = none) : FnOk P w K mg base (L2.CX P w) 1 f fd ["sort", "thing"] (sp_show_term K) := by
  refine def_ok F sc_show_term (fun _ => rfl) (fun a hp X E e1 e2 e3 e4 e5 hX => ?_)
  subst e1 e2 e3 e4 e5
  have h := bd_show_term X E hX m_str a.1 a.2 hp
  rw [m_show_term_eq a.1 a.2] at h
  exact h
abbrev s_show_expr : Stmt := top 18
abbrev nm_show_expr : List Str := ["terms", "text", "sign", "sort", "thing"]
theorem sc_show_expr : FnScope nm_show_expr ["terms"] (defScope s_show_expr) := ⟨rfl, rfl, rfl, by decide +kernel, rfl, by decide +kernel, by decide +kernel⟩
theorem lk_show_expr_show_term : (defScope s_show_expr).names.lookup ("show_term" : Str) = some .globalImplicit := by decide +kernel
theorem lk_show_expr_sign : (defScope s_show_expr).names.lookup ("sign" : Str) = some .local := by decide +kernel
theorem lk_show_expr_sort : (defScope s_show_expr).names.lookup ("sort" : Str) = some .local := by decide +kernel
theorem lk_show_expr_terms : (defScope s_show_expr).names.lookup ("terms" : Str) = some .local := by decide +kernel
theorem lk_show_expr_text : (defScope s_show_expr).names.lookup ("text" : Str) = some .local := by decide +kernel
theorem lk_show_expr_thing : (defScope s_show_expr).names.lookup ("thing" : Str) = some .local := by decide +kernel
def m_show_expr (a0 : (List (Int × (List Nat) × D))) : Ctl Unit Empty := bnd (([] : List Nat) : (List Nat)) fun v1 => Ctl.bind (S := (List Nat)) (loop (Y := (Int × (List Nat) × D)) (fun (s2 : (List Nat)) (y3 : (Int × (List Nat) × D)) => Ctl.bind (S := (List Nat)) (if ((!(decide (s2 = ([] : List Nat)))) && (decide (y3.1 = (1 : Int)))) = true then bnd ((s2 ++ [32, 43, 32]) : (List Nat)) fun v9 => .go v9 else Ctl.bind (S := (List Nat)) (if (!(decide (s2 = ([] : List Nat)))) = true then bnd ((s2 ++ [32, 45, 32]) : (List Nat)) fun v11 => .go v11 else .go s2) fun s12 => .go s12) fun s13 => bnd ((s13 ++ (showTermL y3.2.1 y3.2.2)) : (List Nat)) fun v14 => .go v14) v1 a0) fun s15 => .ret (.v (D.str s15))
theorem bd_show_expr (X : Cx) (E : XK) (hX : XOk 1 nm_show_expr (defScope s_show_expr) X E) (kn_show_term : KnX X "show_term" 1 (sp_show_term X.K)) (a0 : (List (Int × (List Nat) × D))) (hp : TermsOk a0) : BK X E ([.d (D.lst (List.map (fun z : (Int × (List Nat) × D) => (D.tup [(D.int z.1), (D.str z.2.1), z.2.2])) a0)), .un, .un, .un, .un] : List B) (defBody s_show_expr) (fun s : Unit => List.replicate 5 B.un) (fun s : Empty => nomatch s) (m_show_expr a0) := by
  unfold m_show_expr
  exact (b_set 1 D.str hX rfl (loc_l lk_show_expr_text) (ed_str [] (by decide +kernel)) (fun v1 hv1 => (show BK X E ([.d (D.lst (List.map (fun z : (Int × (List Nat) × D) => (D.tup [(D.int z.1), (D.str z.2.1), z.2.2])) a0)), .d (D.str v1), .un, .un, .un] : List B) _ _ _ _ from (b_for (Γl := (fun s2 : (List Nat) => ([.d (D.lst (List.map (fun z : (Int × (List Nat) × D) => (D.tup [(D.int z.1), (D.str z.2.1), z.2.2])) a0)), .d (D.str s2), .un, .un, .un] : List B))) (g := (gTup X.K 3 (gCons (gName 2) (gCons (gName 3) (gCons (gName 4) gNil))))) (js := [2, 3, 4]) (fun (i : Nat) (s : List Nat) => s.length ≤ 43 * i) (fun z : (Int × (List Nat) × D) => (D.tup [(D.int z.1), (D.str z.2.1), z.2.2])) (fun (s2 : (List Nat)) (y3 : (Int × (List Nat) × D)) => Ctl.bind (S := (List Nat)) (if ((!(decide (s2 = ([] : List Nat)))) && (decide (y3.1 = (1 : Int)))) = true then bnd ((s2 ++ [32, 43, 32]) : (List Nat)) fun v9 => .go v9 else Ctl.bind (S := (List Nat)) (if (!(decide (s2 = ([] : List Nat)))) = true then bnd ((s2 ++ [32, 45, 32]) : (List Nat)) fun v11 => .go v11 else .go s2) fun s12 => .go s12) fun s13 => bnd ((s13 ++ (showTermL y3.2.1 y3.2.2)) : (List Nat)) fun v14 => .go v14) v1 a0 (fun (s2 : (List Nat)) (y3 : (Int × (List Nat) × D)) => ([.d (D.lst (List.map (fun z : (Int × (List Nat) × D) => (D.tup [(D.int z.1), (D.str z.2.1), z.2.2])) a0)), .d (D.str s2), .d (D.int y3.1), .d (D.str y3.2.1), .d y3.2.2] : List B)) hX (.keep (.keep (.keep (.keep (.keep .nil))))) (by subst_vars; exact Nat.le_refl _) (it_lst (ed_var 0 (hX.nm rfl) (hX.vs (vis_l lk_show_expr_terms)) rfl)) (pg_tup hX.calm (pgs_cons (pg_name (i := 2) hX.nd (hX.nm rfl) (hX.lc (loc_l lk_show_expr_sign)) (.inl (hX.fn _))) (pgs_cons (pg_name (i := 3) hX.nd (hX.nm rfl) (hX.lc (loc_l lk_show_expr_sort)) (.inl (hX.fn _))) (pgs_cons (pg_name (i := 4) hX.nd (hX.nm rfl) (hX.lc (loc_l lk_show_expr_thing)) (.inl (hX.fn _))) pgs_nil)))) (fun s2 y3 => (tg_tup (tgs_cons 2 (tgs_cons 3 (tgs_cons 4 tgs_nil))) rfl)) (fun i4 s2 y3 hi5 hv6 => (b_ifj (Γj := (fun s13 : (List Nat) => ([.d (D.lst (List.map (fun z : (Int × (List Nat) × D) => (D.tup [(D.int z.1), (D.str z.2.1), z.2.2])) a0)), .d (D.str s13), .d (D.int y3.1), .d (D.str y3.2.1), .d y3.2.2] : List B))) (et_w (ew_and (et_cmp (od_neS _ _) (ed_var 1 (hX.nm rfl) (hX.vs (vis_l lk_show_expr_text)) rfl) (ed_str [] (by decide +kernel))) (fun h7 => (ew_and1 (et_cmp (od_eqI _ _) (ed_var 2 (hX.nm rfl) (hX.vs (vis_l lk_show_expr_sign)) rfl) ed_int))))) (fun h8 => (b_set 1 D.str hX rfl (loc_l lk_show_expr_text) (ed_op (od_addS _ _ (by first | decide | omega | (unfold CMul; omega) | (dsimp only; omega) | (rw [sizeLine_eq]; omega) | (have := hp.few; rw [sizeLine_eq]; omega) | exact term_one (hp.all _ (List.mem_of_getElem? hi5)) | (have q1 := wordL_len (term_one (hp.all _ (List.mem_of_getElem? hi5))); have q2 := show_i hp hi5; (try have q3 := show_s «hs»); (try dsimp only [showTermL]); rw [sizeLine_eq]; (try simp only [List.length_cons, List.length_nil]); omega))) (ed_var 1 (hX.nm rfl) (hX.vs (vis_l lk_show_expr_text)) rfl) (ed_str [32, 43, 32] (by decide +kernel))) (fun v9 hv9 => (show BK X E ([.d (D.lst (List.map (fun z : (Int × (List Nat) × D) => (D.tup [(D.int z.1), (D.str z.2.1), z.2.2])) a0)), .d (D.str v9), .d (D.int y3.1), .d (D.str y3.2.1), .d y3.2.2] : List B) _ _ _ _ from (b_nil (.keep (.keep (.keep (.keep (.keep .nil)))))))))) (fun h8 => (b_ifj (Γj := (fun s12 : (List Nat) => ([.d (D.lst (List.map (fun z : (Int × (List Nat) × D) => (D.tup [(D.int z.1), (D.str z.2.1), z.2.2])) a0)), .d (D.str s12), .d (D.int y3.1), .d (D.str y3.2.1), .d y3.2.2] : List B))) (et_cmp (od_neS _ _) (ed_var 1 (hX.nm rfl) (hX.vs (vis_l lk_show_expr_text)) rfl) (ed_str [] (by decide +kernel))) (fun h10 => (b_set 1 D.str hX rfl (loc_l lk_show_expr_text) (ed_op (od_addS _ _ (by first | decide | omega | (unfold CMul; omega) | (dsimp only; omega) | (rw [sizeLine_eq]; omega) | (have := hp.few; rw [sizeLine_eq]; omega) | exact term_one (hp.all _ (List.mem_of_getElem? hi5)) | (have q1 := wordL_len (term_one (hp.all _ (List.mem_of_getElem? hi5))); have q2 := show_i hp hi5; (try have q3 := show_s «hs»); (try dsimp only [showTermL]); rw [sizeLine_eq]; (try simp only [List.length_cons, List.length_nil]); omega))) (ed_var 1 (hX.nm rfl) (hX.vs (vis_l lk_show_expr_text)) rfl) (ed_str [32, 45, 32] (by decide +kernel))) (fun v11 hv11 => (show BK X E ([.d (D.lst (List.map (fun z : (Int × (List Nat) × D) => (D.tup [(D.int z.1), (D.str z.2.1), z.2.2])) a0)), .d (D.str v11), .d (D.int y3.1), .d (D.str y3.2.1), .d y3.2.2] : List B) _ _ _ _ from (b_nil (.keep (.keep (.keep (.keep (.keep .nil)))))))))) (fun h10 => (b_nil (.keep (.keep (.keep (.keep (.keep .nil))))))) (fun s12 hs12 => (b_nil (.keep (.keep (.keep (.keep (.keep .nil))))))))) (fun s13 hs13 => (b_set 1 D.str hX rfl (loc_l lk_show_expr_text) (ed_op (od_addS _ _ (by first | decide | omega | (unfold CMul; omega) | (dsimp only; omega) | (rw [sizeLine_eq]; omega) | (have := hp.few; rw [sizeLine_eq]; omega) | exact term_one (hp.all _ (List.mem_of_getElem? hi5)) | (have q1 := wordL_len (term_one (hp.all _ (List.mem_of_getElem? hi5))); have q2 := show_i hp hi5; (try have q3 := show_s hs13); (try dsimp only [showTermL]); rw [sizeLine_eq]; (try simp only [List.length_cons, List.length_nil]); omega))) (ed_var 1 (hX.nm rfl) (hX.vs (vis_l lk_show_expr_text)) rfl) (ed_call ((y3.2.1, y3.2.2) : (List Nat) × D) kn_show_term (hX.room.mono (by decide)) (hX.gl lk_show_expr_show_term) (ea_cons (ed_var 3 (hX.nm rfl) (hX.vs (vis_l lk_show_expr_sort)) rfl) (ea_cons (ed_var 4 (hX.nm rfl) (hX.vs (vis_l lk_show_expr_thing)) rfl) ea_nil)) (by first | decide | omega | (unfold CMul; omega) | (dsimp only; omega) | (rw [sizeLine_eq]; omega) | (have := hp.few; rw [sizeLine_eq]; omega) | exact term_one (hp.all _ (List.mem_of_getElem? hi5)) | (have q1 := wordL_len (term_one (hp.all _ (List.mem_of_getElem? hi5))); have q2 := show_i hp hi5; (try have q3 := show_s hs13); (try dsimp only [showTermL]); rw [sizeLine_eq]; (try simp only [List.length_cons, List.length_nil]); omega)) rfl)) (fun v14 hv14 => (show BK X E ([.d (D.lst (List.map (fun z : (Int × (List Nat) × D) => (D.tup [(D.int z.1), (D.str z.2.1), z.2.2])) a0)), .d (D.str v14), .d (D.int y3.1), .d (D.str y3.2.1), .d y3.2.2] : List B) _ _ _ _ from (b_nil (.keep (.keep (.drop (.drop (.drop .nil)))))))))))) (fun i s y s2 hy hv e => show_inv hp hy hv e) (fun s15 hs15 => (show BK X E ([.d (D.lst (List.map (fun z : (Int × (List Nat) × D) => (D.tup [(D.int z.1), (D.str z.2.1), z.2.2])) a0)), .d (D.str s15), .un, .un, .un] : List B) _ _ _ _ from (b_ret (ed_var 1 (hX.nm rfl) (hX.vs (vis_l lk_show_expr_text)) rfl))))))))
def showL (ts : List Tm) : List Nat := ts.foldl (fun s t => showSep s t ++ showTermL t.2.1 t.2.2) []
theorem m_show_expr_eq (ts : List Tm) : m_show_expr ts = .ret (.v (.str (showL ts))) := by
  unfold m_show_expr showL
  simp only [show_sep, Ctl.bind_go]
  simp only [bnd]
  rw [loop_foldl (T := Empty) (f := fun (s : List Nat) (t : Tm) => showSep s t ++ showTermL t.2.1 t.2.2)]
  rfl
theorem showTerm_word {t : Tm} : showTermL t.2.1 t.2.2 = wordL t := rfl
theorem sgL_of (t : Tm) : sgL t = if decide (t.1 = 1) = true then [32, 43, 32] else [32, 45, 32] := by
  unfold sgL
  cases decide (t.1 = 1) <;> rfl
theorem show_fold : ∀ (ts : List Tm) (s : List Nat), s ≠ [] → ts.foldl (fun s t => showSep s t ++ showTermL t.2.1 t.2.2) s = ts.foldl (fun s t => s ++ sgL t ++ wordL t) s
  | [], _, _ => rfl
  | t :: ts, s, h => by
    have e : showSep s t = s ++ sgL t := by
      unfold showSep
      rw [sgL_of, decide_eq_false h]
      cases decide (t.1 = 1) <;> rfl
    rw [List.foldl_cons, List.foldl_cons, e, showTerm_word]
    refine show_fold ts _ fun z => h ?_
    have q := congrArg List.length z
    simp only [List.length_append, List.length_nil] at q
    exact List.eq_nil_of_length_eq_zero (by omega)
theorem joinN_ne {ns : List (List Nat)} (h : Names4 ns) : joinS [46] ns ≠ [] := fun z => by
  cases ns with
  | nil => exact absurd h.pos (by decide)
  | cons p r =>
    have q := joinL_pos13 (s := [46]) (r := r) (h.short p (by simp)).1
    rw [joinS_eq] at z
    rw [z] at q
    exact absurd q (by decide)
theorem wordL_ne {t : Tm} (h : TermOk t) : wordL t ≠ [] := by
  rcases h.th with ⟨h1, n, h2, _⟩ | ⟨h1 | h1, ns, h2, h3⟩
  · rw [wordL_num h1 h2]
    exact TL.numL_ne n
  · rw [wordL_path h1 h2]
    exact joinN_ne h3
  · rw [wordL_call h1 h2]
    simp
theorem show_text {ts : List Tm} (h : TermsOk ts) : showL ts = textL ts := by
  cases ts with
  | nil => exact absurd h.pos (by decide)
  | cons t ts =>
    unfold showL textL
    rw [List.foldl_cons, cut_one, ix_zero]
    have e : showSep [] t ++ showTermL t.2.1 t.2.2 = wordL t := rfl
    rw [e]
    exact show_fold ts _ (wordL_ne (h.all t (by simp)))
abbrev sp_show_expr (K : PySem.W.Frag) : Sp := spF K (A := (List (Int × (List Nat) × D))) (fun a => [(D.lst (List.map (fun z : (Int × (List Nat) × D) => (D.tup [(D.int z.1), (D.str z.2.1), z.2.2])) a))]) (fun a => TermsOk a) (fun a => .v (D.str (showL a)))
theorem ok_show_expr {P : Program} {w : World} {K : PySem.W.Frag} {mg : Str → Option Value} {base : Heap} {f : Addr} {fd : FuncData} (F : Fun K "show_expr" "show_expr" s_show_expr f fd) (kn_show_term : Kn P w K mg base "show_term" 1 (sp_show_term K)) : FnOk P w K mg base (L2.CX P w) 2 f fd ["terms"] (sp_show_expr K) := by
  refine def_ok F sc_show_expr (fun _ => rfl) (fun a hp X E e1 e2 e3 e4 e5 hX => ?_)
  subst e1 e2 e3 e4 e5
  have h := bd_show_expr X E hX kn_show_term a hp
  rw [m_show_expr_eq a] at h
  exact h
abbrev s_law_term : Stmt := top 25
abbrev nm_law_term : List Str := ["_law_cell_here", "_law_first", "_law_sign", "_law_way", "_law_far", "_law_names", "_law_j"]
theorem sc_law_term : FnScope nm_law_term ["_law_cell_here", "_law_first"] (defScope s_law_term) := ⟨rfl, rfl, rfl, by decide +kernel, rfl, by decide +kernel, by decide +kernel⟩
theorem lk_law_term_int : (defScope s_law_term).names.lookup ("int" : Str) = some .globalImplicit := by decide +kernel
theorem lk_law_term_law_cell_here : (defScope s_law_term).names.lookup ("_law_cell_here" : Str) = some .cell := by decide +kernel
theorem lk_law_term_law_far : (defScope s_law_term).names.lookup ("_law_far" : Str) = some .local := by decide +kernel
theorem lk_law_term_law_first : (defScope s_law_term).names.lookup ("_law_first" : Str) = some .local := by decide +kernel
theorem lk_law_term_law_names : (defScope s_law_term).names.lookup ("_law_names" : Str) = some .local := by decide +kernel
theorem lk_law_term_law_number : (defScope s_law_term).names.lookup ("_law_number" : Str) = some .globalImplicit := by decide +kernel
theorem lk_law_term_law_pick : (defScope s_law_term).names.lookup ("_law_pick" : Str) = some .globalImplicit := by decide +kernel
theorem lk_law_term_law_sign : (defScope s_law_term).names.lookup ("_law_sign" : Str) = some .local := by decide +kernel
theorem lk_law_term_law_way : (defScope s_law_term).names.lookup ("_law_way" : Str) = some .local := by decide +kernel
theorem lk_law_term_range : (defScope s_law_term).names.lookup ("range" : Str) = some .globalImplicit := by decide +kernel
theorem lk_law_term_tuple : (defScope s_law_term).names.lookup ("tuple" : Str) = some .globalImplicit := by decide +kernel
def m_term (a0 : Int) (a1 : Bool) : Ctl Unit Empty := bnd ((ix ([(1 : Int), ((1 : Int) - ((2 : Int) * (pickL a0 (1 : Int) (2 : Int))))] : List Int) (if (!a1) = true then 1 else 0 : Int) 0) : Int) fun v1 => bnd ((pickL a0 (2 : Int) (4 : Int)) : Int) fun v2 => if (decide (v2 = (0 : Int))) = true then Ctl.up (bnd ((ix ([(10 : Int), (1000 : Int), ((10 : Int) ^ ((10 : Int)).toNat), ((10 : Int) ^ ((20 : Int)).toNat)] : List Int) (pickL a0 (3 : Int) (4 : Int)) 0) : Int) fun v4 => .ret (.v (D.tup [(D.int ((v1, [110, 117, 109, 98, 101, 114], (ix ([(numberL a0 v4), (0 : Int), (v4 - (1 : Int))] : List Int) (pickL a0 (4 : Int) (3 : Int)) 0)).1, (v1, [110, 117, 109, 98, 101, 114], (ix ([(numberL a0 v4), (0 : Int), (v4 - (1 : Int))] : List Int) (pickL a0 (4 : Int) (3 : Int)) 0)).2.1, (D.int (v1, [110, 117, 109, 98, 101, 114], (ix ([(numberL a0 v4), (0 : Int), (v4 - (1 : Int))] : List Int) (pickL a0 (4 : Int) (3 : Int)) 0)).2.2)).1), (D.str ((v1, [110, 117, 109, 98, 101, 114], (ix ([(numberL a0 v4), (0 : Int), (v4 - (1 : Int))] : List Int) (pickL a0 (4 : Int) (3 : Int)) 0)).1, (v1, [110, 117, 109, 98, 101, 114], (ix ([(numberL a0 v4), (0 : Int), (v4 - (1 : Int))] : List Int) (pickL a0 (4 : Int) (3 : Int)) 0)).2.1, (D.int (v1, [110, 117, 109, 98, 101, 114], (ix ([(numberL a0 v4), (0 : Int), (v4 - (1 : Int))] : List Int) (pickL a0 (4 : Int) (3 : Int)) 0)).2.2)).2.1), ((v1, [110, 117, 109, 98, 101, 114], (ix ([(numberL a0 v4), (0 : Int), (v4 - (1 : Int))] : List Int) (pickL a0 (4 : Int) (3 : Int)) 0)).1, (v1, [110, 117, 109, 98, 101, 114], (ix ([(numberL a0 v4), (0 : Int), (v4 - (1 : Int))] : List Int) (pickL a0 (4 : Int) (3 : Int)) 0)).2.1, (D.int (v1, [110, 117, 109, 98, 101, 114], (ix ([(numberL a0 v4), (0 : Int), (v4 - (1 : Int))] : List Int) (pickL a0 (4 : Int) (3 : Int)) 0)).2.2)).2.2]))) else bnd ((List.map (fun y6 : Int => (nameL (subL a0 y6))) (rints 0 (((1 : Int) + (pickL a0 (5 : Int) (4 : Int)))).toNat)) : (List (List Nat))) fun v5 => .ret (.v (D.tup [(D.int ((v1, (ix ([[112, 97, 116, 104], [99, 97, 108, 108]] : List (List Nat)) (if (decide (v2 = (3 : Int))) = true then 1 else 0 : Int) []), v5).1, (v1, (ix ([[112, 97, 116, 104], [99, 97, 108, 108]] : List (List Nat)) (if (decide (v2 = (3 : Int))) = true then 1 else 0 : Int) []), v5).2.1, (D.tup (List.map D.str (v1, (ix ([[112, 97, 116, 104], [99, 97, 108, 108]] : List (List Nat)) (if (decide (v2 = (3 : Int))) = true then 1 else 0 : Int) []), v5).2.2))).1), (D.str ((v1, (ix ([[112, 97, 116, 104], [99, 97, 108, 108]] : List (List Nat)) (if (decide (v2 = (3 : Int))) = true then 1 else 0 : Int) []), v5).1, (v1, (ix ([[112, 97, 116, 104], [99, 97, 108, 108]] : List (List Nat)) (if (decide (v2 = (3 : Int))) = true then 1 else 0 : Int) []), v5).2.1, (D.tup (List.map D.str (v1, (ix ([[112, 97, 116, 104], [99, 97, 108, 108]] : List (List Nat)) (if (decide (v2 = (3 : Int))) = true then 1 else 0 : Int) []), v5).2.2))).2.1), ((v1, (ix ([[112, 97, 116, 104], [99, 97, 108, 108]] : List (List Nat)) (if (decide (v2 = (3 : Int))) = true then 1 else 0 : Int) []), v5).1, (v1, (ix ([[112, 97, 116, 104], [99, 97, 108, 108]] : List (List Nat)) (if (decide (v2 = (3 : Int))) = true then 1 else 0 : Int) []), v5).2.1, (D.tup (List.map D.str (v1, (ix ([[112, 97, 116, 104], [99, 97, 108, 108]] : List (List Nat)) (if (decide (v2 = (3 : Int))) = true then 1 else 0 : Int) []), v5).2.2))).2.2]))
theorem bd_term (X : Cx) (E : XK) (hX : XOk 2 nm_law_term (defScope s_law_term) X E) (m_int : X.mg "int" = none) (m_range : X.mg "range" = none) (m_tuple : X.mg "tuple" = none) (kn_name : KnX X "_law_name" 2 (sp_name X.K)) (kn_number : KnX X "_law_number" 1 (sp_number X.K)) (kn_pick : KnX X "_law_pick" 1 (sp_pick X.K)) (kn_sub : KnX X "_law_sub" 1 (sp_sub X.K)) (a0 : Int) (a1 : Bool) : BK X E ([.d (D.int a0), .d (D.bl a1), .un, .un, .un, .un, .un] : List B) (defBody s_law_term) (fun s : Unit => List.replicate 7 B.un) (fun s : Empty => nomatch s) (m_term a0 a1) := by
  unfold m_term
  exact (b_set 2 D.int hX rfl (loc_l lk_law_term_law_sign) (ed_ixL (EvO.el (eo_lst (ea_cons ed_int (ea_cons (ed_op (od_sub _ _) ed_int (ed_op (od_mul _ _ (by first | decide | omega | (unfold CMul; omega) | (dsimp only; omega) | (rw [sizeLine_eq]; omega) | exact if_ix (Nat.le_refl 2) | (have q := pickL_lt a0 4 (m := 3) (by decide); simp only [List.length_cons, List.length_nil]; omega) | (have q := pickL_lt a0 3 (m := 4) (by decide); simp only [List.length_cons, List.length_nil]; omega) | exact pick_ix _ _ (by subst_vars; decide) | (unfold CPow; decide) | (have q := pickL_lt a0 3 (m := 4) (by decide); dsimp only; omega) | (have q := pickL_lt a0 4 (m := 3) (by decide); dsimp only; omega) | (have q := pickL_lt a0 5 (m := 4) (by decide); (try simp only [rints_len]); (try rw [sizeLine_eq]); omega) | (dsimp only; subst_vars; first | exact far_pos _ | exact (far_pos _).1))) ed_int (ed_call ((a0, (1 : Int), (2 : Int)) : Int × Int × Int) kn_pick (hX.room.mono (by decide)) (hX.gl lk_law_term_law_pick) (ea_cons (ed_var 0 (hX.nm rfl) (hX.vs (vis_c lk_law_term_law_cell_here)) rfl) (ea_cons ed_int (ea_cons ed_int ea_nil))) (by first | decide | omega | (unfold CMul; omega) | (dsimp only; omega) | (rw [sizeLine_eq]; omega) | (have q := rints_mem «hy»; have q2 := pickL_lt a0 5 (m := 4) (by decide); dsimp only; omega) | (dsimp only; subst_vars; exact (far_pos _).1)) rfl))) ea_nil)) (by show 2 ≤ sizeLine; decide))) (ed_intB (hX.gl lk_law_term_int) m_int (ed_not (ed_var 1 (hX.nm rfl) (hX.vs (vis_l lk_law_term_law_first)) rfl))) (atI_map (f := D.int) (xs := ([(1 : Int), ((1 : Int) - ((2 : Int) * (pickL a0 (1 : Int) (2 : Int))))] : List Int)) (ix_ok (d := 0) (by first | decide | omega | (unfold CMul; omega) | (dsimp only; omega) | (rw [sizeLine_eq]; omega) | exact if_ix (Nat.le_refl 2) | (have q := pickL_lt a0 4 (m := 3) (by decide); simp only [List.length_cons, List.length_nil]; omega) | (have q := pickL_lt a0 3 (m := 4) (by decide); simp only [List.length_cons, List.length_nil]; omega) | exact pick_ix _ _ (by subst_vars; decide) | (unfold CPow; decide) | (have q := pickL_lt a0 3 (m := 4) (by decide); dsimp only; omega) | (have q := pickL_lt a0 4 (m := 3) (by decide); dsimp only; omega) | (have q := pickL_lt a0 5 (m := 4) (by decide); (try simp only [rints_len]); (try rw [sizeLine_eq]); omega) | (dsimp only; subst_vars; first | exact far_pos _ | exact (far_pos _).1))))) (fun v1 hv1 => (show BK X E ([.d (D.int a0), .d (D.bl a1), .d (D.int v1), .un, .un, .un, .un] : List B) _ _ _ _ from (b_set 3 D.int hX rfl (loc_l lk_law_term_law_way) (ed_call ((a0, (2 : Int), (4 : Int)) : Int × Int × Int) kn_pick (hX.room.mono (by decide)) (hX.gl lk_law_term_law_pick) (ea_cons (ed_var 0 (hX.nm rfl) (hX.vs (vis_c lk_law_term_law_cell_here)) rfl) (ea_cons ed_int (ea_cons ed_int ea_nil))) (by first | decide | omega | (unfold CMul; omega) | (dsimp only; omega) | (rw [sizeLine_eq]; omega) | (have q := rints_mem «hy»; have q2 := pickL_lt a0 5 (m := 4) (by decide); dsimp only; omega) | (dsimp only; subst_vars; exact (far_pos _).1)) rfl) (fun v2 hv2 => (show BK X E ([.d (D.int a0), .d (D.bl a1), .d (D.int v1), .d (D.int v2), .un, .un, .un] : List B) _ _ _ _ from (b_ifr (et_cmp (od_eqI _ _) (ed_var 3 (hX.nm rfl) (hX.vs (vis_l lk_law_term_law_way)) rfl) ed_int) (fun h3 => (b_set 4 D.int hX rfl (loc_l lk_law_term_law_far) (ed_ixL (EvO.el (eo_lst (ea_cons ed_int (ea_cons ed_int (ea_cons (ed_op (od_pow _ _ (by first | decide | omega | (unfold CMul; omega) | (dsimp only; omega) | (rw [sizeLine_eq]; omega) | exact if_ix (Nat.le_refl 2) | (have q := pickL_lt a0 4 (m := 3) (by decide); simp only [List.length_cons, List.length_nil]; omega) | (have q := pickL_lt a0 3 (m := 4) (by decide); simp only [List.length_cons, List.length_nil]; omega) | exact pick_ix _ _ (by subst_vars; decide) | (unfold CPow; decide) | (have q := pickL_lt a0 3 (m := 4) (by decide); dsimp only; omega) | (have q := pickL_lt a0 4 (m := 3) (by decide); dsimp only; omega) | (have q := pickL_lt a0 5 (m := 4) (by decide); (try simp only [rints_len]); (try rw [sizeLine_eq]); omega) | (dsimp only; subst_vars; first | exact far_pos _ | exact (far_pos _).1))) ed_int ed_int) (ea_cons (ed_op (od_pow _ _ (by first | decide | omega | (unfold CMul; omega) | (dsimp only; omega) | (rw [sizeLine_eq]; omega) | exact if_ix (Nat.le_refl 2) | (have q := pickL_lt a0 4 (m := 3) (by decide); simp only [List.length_cons, List.length_nil]; omega) | (have q := pickL_lt a0 3 (m := 4) (by decide); simp only [List.length_cons, List.length_nil]; omega) | exact pick_ix _ _ (by subst_vars; decide) | (unfold CPow; decide) | (have q := pickL_lt a0 3 (m := 4) (by decide); dsimp only; omega) | (have q := pickL_lt a0 4 (m := 3) (by decide); dsimp only; omega) | (have q := pickL_lt a0 5 (m := 4) (by decide); (try simp only [rints_len]); (try rw [sizeLine_eq]); omega) | (dsimp only; subst_vars; first | exact far_pos _ | exact (far_pos _).1))) ed_int ed_int) ea_nil)))) (by show 4 ≤ sizeLine; decide))) (ed_call ((a0, (3 : Int), (4 : Int)) : Int × Int × Int) kn_pick (hX.room.mono (by decide)) (hX.gl lk_law_term_law_pick) (ea_cons (ed_var 0 (hX.nm rfl) (hX.vs (vis_c lk_law_term_law_cell_here)) rfl) (ea_cons ed_int (ea_cons ed_int ea_nil))) (by first | decide | omega | (unfold CMul; omega) | (dsimp only; omega) | (rw [sizeLine_eq]; omega) | (have q := rints_mem «hy»; have q2 := pickL_lt a0 5 (m := 4) (by decide); dsimp only; omega) | (dsimp only; subst_vars; exact (far_pos _).1)) rfl) (atI_map (f := D.int) (xs := ([(10 : Int), (1000 : Int), ((10 : Int) ^ ((10 : Int)).toNat), ((10 : Int) ^ ((20 : Int)).toNat)] : List Int)) (ix_ok (d := 0) (by first | decide | omega | (unfold CMul; omega) | (dsimp only; omega) | (rw [sizeLine_eq]; omega) | exact if_ix (Nat.le_refl 2) | (have q := pickL_lt a0 4 (m := 3) (by decide); simp only [List.length_cons, List.length_nil]; omega) | (have q := pickL_lt a0 3 (m := 4) (by decide); simp only [List.length_cons, List.length_nil]; omega) | exact pick_ix _ _ (by subst_vars; decide) | (unfold CPow; decide) | (have q := pickL_lt a0 3 (m := 4) (by decide); dsimp only; omega) | (have q := pickL_lt a0 4 (m := 3) (by decide); dsimp only; omega) | (have q := pickL_lt a0 5 (m := 4) (by decide); (try simp only [rints_len]); (try rw [sizeLine_eq]); omega) | (dsimp only; subst_vars; first | exact far_pos _ | exact (far_pos _).1))))) (fun v4 hv4 => (show BK X E ([.d (D.int a0), .d (D.bl a1), .d (D.int v1), .d (D.int v2), .d (D.int v4), .un, .un] : List B) _ _ _ _ from (b_ret (ed_tup (ea_cons (ed_var 2 (hX.nm rfl) (hX.vs (vis_l lk_law_term_law_sign)) rfl) (ea_cons (ed_str [110, 117, 109, 98, 101, 114] (by decide +kernel)) (ea_cons (ed_ixL (EvO.el (eo_lst (ea_cons (ed_call ((a0, v4) : Int × Int) kn_number (hX.room.mono (by decide)) (hX.gl lk_law_term_law_number) (ea_cons (ed_var 0 (hX.nm rfl) (hX.vs (vis_c lk_law_term_law_cell_here)) rfl) (ea_cons (ed_var 4 (hX.nm rfl) (hX.vs (vis_l lk_law_term_law_far)) rfl) ea_nil)) (by first | decide | omega | (unfold CMul; omega) | (dsimp only; omega) | (rw [sizeLine_eq]; omega) | (have q := rints_mem «hy»; have q2 := pickL_lt a0 5 (m := 4) (by decide); dsimp only; omega) | (dsimp only; subst_vars; exact (far_pos _).1)) rfl) (ea_cons ed_int (ea_cons (ed_op (od_sub _ _) (ed_var 4 (hX.nm rfl) (hX.vs (vis_l lk_law_term_law_far)) rfl) ed_int) ea_nil))) (by show 3 ≤ sizeLine; decide))) (ed_call ((a0, (4 : Int), (3 : Int)) : Int × Int × Int) kn_pick (hX.room.mono (by decide)) (hX.gl lk_law_term_law_pick) (ea_cons (ed_var 0 (hX.nm rfl) (hX.vs (vis_c lk_law_term_law_cell_here)) rfl) (ea_cons ed_int (ea_cons ed_int ea_nil))) (by first | decide | omega | (unfold CMul; omega) | (dsimp only; omega) | (rw [sizeLine_eq]; omega) | (have q := rints_mem «hy»; have q2 := pickL_lt a0 5 (m := 4) (by decide); dsimp only; omega) | (dsimp only; subst_vars; exact (far_pos _).1)) rfl) (atI_map (f := D.int) (xs := ([(numberL a0 v4), (0 : Int), (v4 - (1 : Int))] : List Int)) (ix_ok (d := 0) (by first | decide | omega | (unfold CMul; omega) | (dsimp only; omega) | (rw [sizeLine_eq]; omega) | exact if_ix (Nat.le_refl 2) | (have q := pickL_lt a0 4 (m := 3) (by decide); simp only [List.length_cons, List.length_nil]; omega) | (have q := pickL_lt a0 3 (m := 4) (by decide); simp only [List.length_cons, List.length_nil]; omega) | exact pick_ix _ _ (by subst_vars; decide) | (unfold CPow; decide) | (have q := pickL_lt a0 3 (m := 4) (by decide); dsimp only; omega) | (have q := pickL_lt a0 4 (m := 3) (by decide); dsimp only; omega) | (have q := pickL_lt a0 5 (m := 4) (by decide); (try simp only [rints_len]); (try rw [sizeLine_eq]); omega) | (dsimp only; subst_vars; first | exact far_pos _ | exact (far_pos _).1))))) ea_nil))) (by show 3 ≤ sizeLine; decide))))))) (fun h3 => (b_setLc 5 (fun z : (List (List Nat)) => OO.lst (List.map D.str z)) hX rfl lk_law_term_law_names (sw_yes hX lk_law_term_law_names (by decide +kernel)) (lc_ok0 (Yt := Int) (τ := (List Nat)) (encY := D.int) (enc := D.str) (g := (gName 6)) (js := [6]) (own := [("_law_j", 6)]) (rints 0 (((1 : Int) + (pickL a0 (5 : Int) (4 : Int)))).toNat) (fun y6 : Int => (nameL (subL a0 y6))) (it_range1 (hX.gl lk_law_term_range) m_range (ed_op (od_add _ _) ed_int (ed_call ((a0, (5 : Int), (4 : Int)) : Int × Int × Int) kn_pick (hX.room.mono (by decide)) (hX.gl lk_law_term_law_pick) (ea_cons (ed_var 0 (hX.nm rfl) (hX.vs (vis_c lk_law_term_law_cell_here)) rfl) (ea_cons ed_int (ea_cons ed_int ea_nil))) (by first | decide | omega | (unfold CMul; omega) | (dsimp only; omega) | (rw [sizeLine_eq]; omega) | (have q := rints_mem «hy»; have q2 := pickL_lt a0 5 (m := 4) (by decide); dsimp only; omega) | (dsimp only; subst_vars; exact (far_pos _).1)) rfl)) (by first | decide | omega | (unfold CMul; omega) | (dsimp only; omega) | (rw [sizeLine_eq]; omega) | exact if_ix (Nat.le_refl 2) | (have q := pickL_lt a0 4 (m := 3) (by decide); simp only [List.length_cons, List.length_nil]; omega) | (have q := pickL_lt a0 3 (m := 4) (by decide); simp only [List.length_cons, List.length_nil]; omega) | exact pick_ix _ _ (by subst_vars; decide) | (unfold CPow; decide) | (have q := pickL_lt a0 3 (m := 4) (by decide); dsimp only; omega) | (have q := pickL_lt a0 4 (m := 3) (by decide); dsimp only; omega) | (have q := pickL_lt a0 5 (m := 4) (by decide); (try simp only [rints_len]); (try rw [sizeLine_eq]); omega) | (dsimp only; subst_vars; first | exact far_pos _ | exact (far_pos _).1))) (blk_ok hX (by decide +kernel)) (fun _ _ _ _ _ => (pg_name (i := 6) hX.nd (hX.nm rfl) (blk_lc hX (loc_l (by decide +kernel))) (.inr (blk_lk hX (by decide +kernel))))) (by decide) (by first | decide | omega | (unfold CMul; omega) | (dsimp only; omega) | (rw [sizeLine_eq]; omega) | exact if_ix (Nat.le_refl 2) | (have q := pickL_lt a0 4 (m := 3) (by decide); simp only [List.length_cons, List.length_nil]; omega) | (have q := pickL_lt a0 3 (m := 4) (by decide); simp only [List.length_cons, List.length_nil]; omega) | exact pick_ix _ _ (by subst_vars; decide) | (unfold CPow; decide) | (have q := pickL_lt a0 3 (m := 4) (by decide); dsimp only; omega) | (have q := pickL_lt a0 4 (m := 3) (by decide); dsimp only; omega) | (have q := pickL_lt a0 5 (m := 4) (by decide); (try simp only [rints_len]); (try rw [sizeLine_eq]); omega) | (dsimp only; subst_vars; first | exact far_pos _ | exact (far_pos _).1)) (fun y6 : Int => ([.d (D.int a0), .d (D.bl a1), .d (D.int v1), .d (D.int v2), .un, .un, .d (D.int y6)] : List B)) (fun y6 _ => (show TgD X.K (gName 6) [6] (wipeB ([.d (D.int a0), .d (D.bl a1), .d (D.int v1), .d (D.int v2), .un, .un, .un] : List B) [6]) (D.int y6) ([.d (D.int a0), .d (D.bl a1), .d (D.int v1), .d (D.int v2), .un, .un, .d (D.int y6)] : List B) from (tg_name 6))) (fun y6 hy7 _ _ _ _ _ => (ed_call (subL a0 y6) kn_name (hX.room.mono (by decide)) (blk_gl hX (by decide +kernel)) (ea_cons (ed_call ((a0, y6) : Int × Int) kn_sub (hX.room.mono (by decide)) (blk_gl hX (by decide +kernel)) (ea_cons (ed_var 0 (hX.nm rfl) (blk_vs hX (vis_c (by decide +kernel))) rfl) (ea_cons (ed_var 6 (hX.nm rfl) (blk_vs hX (vis_l (by decide +kernel))) rfl) ea_nil)) (by first | decide | omega | (unfold CMul; omega) | (dsimp only; omega) | (rw [sizeLine_eq]; omega) | (have q := rints_mem hy7; have q2 := pickL_lt a0 5 (m := 4) (by decide); dsimp only; omega) | (dsimp only; subst_vars; exact (far_pos _).1)) rfl) ea_nil) trivial rfl))) (fun v5 hv5 => (show BK X E ([.d (D.int a0), .d (D.bl a1), .d (D.int v1), .d (D.int v2), .un, .own (.lst (List.map D.str v5)), .un] : List B) _ _ _ _ from (b_ret (ed_tup (ea_cons (ed_var 2 (hX.nm rfl) (hX.vs (vis_l lk_law_term_law_sign)) rfl) (ea_cons (ed_ixL (EvO.el (eo_lst (ea_cons (ed_str [112, 97, 116, 104] (by decide +kernel)) (ea_cons (ed_str [99, 97, 108, 108] (by decide +kernel)) ea_nil)) (by show 2 ≤ sizeLine; decide))) (ed_intB (hX.gl lk_law_term_int) m_int (ed_cmp (od_eqI _ _) (ed_var 3 (hX.nm rfl) (hX.vs (vis_l lk_law_term_law_way)) rfl) ed_int)) (atI_map (f := D.str) (xs := ([[112, 97, 116, 104], [99, 97, 108, 108]] : List (List Nat))) (ix_ok (d := []) (by first | decide | omega | (unfold CMul; omega) | (dsimp only; omega) | (rw [sizeLine_eq]; omega) | exact if_ix (Nat.le_refl 2) | (have q := pickL_lt a0 4 (m := 3) (by decide); simp only [List.length_cons, List.length_nil]; omega) | (have q := pickL_lt a0 3 (m := 4) (by decide); simp only [List.length_cons, List.length_nil]; omega) | exact pick_ix _ _ (by subst_vars; decide) | (unfold CPow; decide) | (have q := pickL_lt a0 3 (m := 4) (by decide); dsimp only; omega) | (have q := pickL_lt a0 4 (m := 3) (by decide); dsimp only; omega) | (have q := pickL_lt a0 5 (m := 4) (by decide); (try simp only [rints_len]); (try rw [sizeLine_eq]); omega) | (dsimp only; subst_vars; first | exact far_pos _ | exact (far_pos _).1))))) (ea_cons (ed_tupM (hX.gl lk_law_term_tuple) m_tuple (el_own 5 (hX.nm rfl) (hX.vs (vis_l lk_law_term_law_names)) rfl)) ea_nil))) (by show 3 ≤ sizeLine; decide))))))))))))))
abbrev farL (c : Int) : Int := ix ([10, 1000, (10 : Int) ^ ((10 : Int)).toNat, (10 : Int) ^ ((20 : Int)).toNat] : List Int) (pickL c 3 4) 0
def termL (c : Int) (f : Bool) : Tm := (ix ([1, 1 - 2 * pickL c 1 2] : List Int) (if (!f) = true then 1 else 0) 0,
  if decide (pickL c 2 4 = 0) = true then (NUM, D.int (ix ([numberL c (farL c), 0, farL c - 1] : List Int) (pickL c 4 3) 0))
  else (ix ([PATH, CALL] : List (List Nat)) (if decide (pickL c 2 4 = 3) = true then 1 else 0) [], D.tup (List.map D.str ((rints 0 (1 + pickL c 5 4).toNat).map fun y => nameL (subL c y)))))
theorem m_term_eq (c : Int) (f : Bool) : m_term c f = .ret (.v (D.tup [D.int (termL c f).1, D.str (termL c f).2.1, (termL c f).2.2])) := by
  unfold m_term termL
  simp only [bnd]
  cases decide (pickL c 2 4 = 0) <;> rfl
theorem termL_ok (c : Int) (f : Bool) : TermOk (termL c f) ∧ (f = true → (termL c f).1 = 1) := by
  have q1 := pickL_lt c 1 (m := 2) (by decide)
  have q5 := pickL_lt c 5 (m := 4) (by decide)
  have q4 := pickL_lt c 4 (m := 3) (by decide)
  have qf := far_pos c
  have qn := numberL_lt c qf.1
  refine ⟨⟨?_, ?_⟩, ?_⟩
  · unfold termL
    cases f with
    | true => exact .inl rfl
    | false =>
      show (1 - 2 * pickL c 1 2 : Int) = 1 ∨ (1 - 2 * pickL c 1 2 : Int) = -1
      omega
  · unfold termL
    cases decide (pickL c 2 4 = 0) with
    | true =>
      refine .inl ⟨rfl, ?_⟩
      have k := ix_all (P := fun x : Int => 0 ≤ x ∧ x < 10 ^ 20) (xs := [numberL c (farL c), 0, farL c - 1]) (i := pickL c 4 3) (d := 0) (fun x hx => by
        simp only [List.mem_cons, List.not_mem_nil, or_false] at hx
        dsimp only [farL] at hx
        rcases hx with rfl | rfl | rfl <;> omega) (by show -(3 : Int) ≤ _ ∧ _ < (3 : Int); omega)
      refine ⟨(ix ([numberL c (farL c), 0, farL c - 1] : List Int) (pickL c 4 3) 0).toNat, ?_, by omega⟩
      show D.int _ = D.int _
      rw [Int.toNat_of_nonneg k.1]
    | false =>
      refine .inr ⟨?_, _, rfl, ⟨?_, ?_, fun x hx => ?_, fun x hx => ?_⟩⟩
      · show ix ([PATH, CALL] : List (List Nat)) (if decide (pickL c 2 4 = 3) = true then 1 else 0) [] = PATH ∨ ix ([PATH, CALL] : List (List Nat)) (if decide (pickL c 2 4 = 3) = true then 1 else 0) [] = CALL
        cases decide (pickL c 2 4 = 3) with
        | true => exact .inr rfl
        | false => exact .inl rfl
      · rw [List.length_map, rints_len]; omega
      · rw [List.length_map, rints_len]; omega
      · obtain ⟨y, _, rfl⟩ := List.mem_map.mp hx
        exact ⟨(nameL_ok _).1, (nameL_ok _).2.1⟩
      · obtain ⟨y, _, rfl⟩ := List.mem_map.mp hx
        exact (nameL_ok _).2.2
  · intro h
    subst h
    rfl
abbrev sp_term (K : PySem.W.Frag) : Sp := spF K (A := Int × Bool) (fun a => [(D.int a.1), (D.bl a.2)]) (fun a => True) (fun a => .v (D.tup [(D.int (termL a.1 a.2).1), (D.str (termL a.1 a.2).2.1), (termL a.1 a.2).2.2]))
theorem ok_term {P : Program} {w : World} {K : PySem.W.Frag} {mg : Str → Option Value} {base : Heap} {f : Addr} {fd : FuncData} (F : Fun K "_law_term" "_law_term" s_law_term f fd) (m_int : mg "int" = none) (m_range : mg "range" = none) (m_tuple : mg "tuple" = none) (kn_name : Kn P w K mg base "_law_name" 2 (sp_name K)) (kn_number : Kn P w K mg base "_law_number" 1 (sp_number K)) (kn_pick : Kn P w K mg base "_law_pick" 1 (sp_pick K)) (kn_sub : Kn P w K mg base "_law_sub" 1 (sp_sub K)) : FnOk P w K mg base (L2.CX P w) 3 f fd ["_law_cell_here", "_law_first"] (sp_term K) := by
  refine def_ok F sc_law_term (fun _ => rfl) (fun a hp X E e1 e2 e3 e4 e5 hX => ?_)
  subst e1 e2 e3 e4 e5
  have h := bd_term X E hX m_int m_range m_tuple kn_name kn_number kn_pick kn_sub a.1 a.2
  rw [m_term_eq a.1 a.2] at h
  exact h
abbrev s_law_terms : Stmt := top 26
abbrev nm_law_terms : List Str := ["_law_cell_here", "_law_k"]
theorem sc_law_terms : FnScope nm_law_terms ["_law_cell_here"] (defScope s_law_terms) := ⟨rfl, rfl, rfl, by decide +kernel, rfl, by decide +kernel, by decide +kernel⟩
theorem lk_law_terms_law_cell_here : (defScope s_law_terms).names.lookup ("_law_cell_here" : Str) = some .cell := by decide +kernel
theorem lk_law_terms_law_pick : (defScope s_law_terms).names.lookup ("_law_pick" : Str) = some .globalImplicit := by decide +kernel
theorem lk_law_terms_range : (defScope s_law_terms).names.lookup ("range" : Str) = some .globalImplicit := by decide +kernel
def m_terms (a0 : Int) : Ctl Unit Empty := .ret (.o (.lst (List.map (fun z : (Int × (List Nat) × D) => (D.tup [(D.int z.1), (D.str z.2.1), z.2.2])) (List.map (fun y1 : Int => (termL (subL a0 ((1 : Int) + ((5 : Int) * y1))) (decide (y1 = (0 : Int))))) (rints 0 (((1 : Int) + (pickL a0 (0 : Int) (6 : Int)))).toNat)))))
theorem bd_terms (X : Cx) (E : XK) (hX : XOk 3 nm_law_terms (defScope s_law_terms) X E) (m_range : X.mg "range" = none) (kn_pick : KnX X "_law_pick" 1 (sp_pick X.K)) (kn_sub : KnX X "_law_sub" 1 (sp_sub X.K)) (kn_term : KnX X "_law_term" 3 (sp_term X.K)) (a0 : Int) : BK X E ([.d (D.int a0), .un] : List B) (defBody s_law_terms) (fun s : Unit => List.replicate 2 B.un) (fun s : Empty => nomatch s) (m_terms a0) := by
  unfold m_terms
  exact (b_retO (eo_lc hX.calm hX.nd (lc_ok0 (Yt := Int) (τ := (Int × (List Nat) × D)) (encY := D.int) (enc := (fun z : (Int × (List Nat) × D) => (D.tup [(D.int z.1), (D.str z.2.1), z.2.2]))) (g := (gName 1)) (js := [1]) (own := [("_law_k", 1)]) (rints 0 (((1 : Int) + (pickL a0 (0 : Int) (6 : Int)))).toNat) (fun y1 : Int => (termL (subL a0 ((1 : Int) + ((5 : Int) * y1))) (decide (y1 = (0 : Int))))) (it_range1 (hX.gl lk_law_terms_range) m_range (ed_op (od_add _ _) ed_int (ed_call ((a0, (0 : Int), (6 : Int)) : Int × Int × Int) kn_pick (hX.room.mono (by decide)) (hX.gl lk_law_terms_law_pick) (ea_cons (ed_var 0 (hX.nm rfl) (hX.vs (vis_c lk_law_terms_law_cell_here)) rfl) (ea_cons ed_int (ea_cons ed_int ea_nil))) (by first | decide | omega | (unfold CMul; omega) | (dsimp only; omega) | (rw [sizeLine_eq]; omega) | (have q := pickL_lt a0 0 (m := 6) (by decide); (try simp only [rints_len]); (try rw [sizeLine_eq]); omega) | (have q := rints_mem «hy»; have q2 := pickL_lt a0 0 (m := 6) (by decide); dsimp only; omega)) rfl)) (by first | decide | omega | (unfold CMul; omega) | (dsimp only; omega) | (rw [sizeLine_eq]; omega) | (have q := pickL_lt a0 0 (m := 6) (by decide); (try simp only [rints_len]); (try rw [sizeLine_eq]); omega) | (have q := rints_mem «hy»; have q2 := pickL_lt a0 0 (m := 6) (by decide); dsimp only; omega))) (blk_ok hX (by decide +kernel)) (fun _ _ _ _ _ => (pg_name (i := 1) hX.nd (hX.nm rfl) (blk_lc hX (loc_l (by decide +kernel))) (.inr (blk_lk hX (by decide +kernel))))) (by decide) (by first | decide | omega | (unfold CMul; omega) | (dsimp only; omega) | (rw [sizeLine_eq]; omega) | (have q := pickL_lt a0 0 (m := 6) (by decide); (try simp only [rints_len]); (try rw [sizeLine_eq]); omega) | (have q := rints_mem hy2; have q2 := pickL_lt a0 0 (m := 6) (by decide); dsimp only; omega)) (fun y1 : Int => ([.d (D.int a0), .d (D.int y1)] : List B)) (fun y1 _ => (show TgD X.K (gName 1) [1] (wipeB ([.d (D.int a0), .un] : List B) [1]) (D.int y1) ([.d (D.int a0), .d (D.int y1)] : List B) from (tg_name 1))) (fun y1 hy2 _ _ _ _ _ => (ed_call (((subL a0 ((1 : Int) + ((5 : Int) * y1))), (decide (y1 = (0 : Int)))) : Int × Bool) kn_term (hX.room.mono (by decide)) (blk_gl hX (by decide +kernel)) (ea_cons (ed_call ((a0, ((1 : Int) + ((5 : Int) * y1))) : Int × Int) kn_sub (hX.room.mono (by decide)) (blk_gl hX (by decide +kernel)) (ea_cons (ed_var 0 (hX.nm rfl) (blk_vs hX (vis_c (by decide +kernel))) rfl) (ea_cons (ed_op (od_add _ _) ed_int (ed_op (od_mul _ _ (by first | decide | omega | (unfold CMul; omega) | (dsimp only; omega) | (rw [sizeLine_eq]; omega) | (have q := pickL_lt a0 0 (m := 6) (by decide); (try simp only [rints_len]); (try rw [sizeLine_eq]); omega) | (have q := rints_mem hy2; have q2 := pickL_lt a0 0 (m := 6) (by decide); dsimp only; omega))) ed_int (ed_var 1 (hX.nm rfl) (blk_vs hX (vis_l (by decide +kernel))) rfl))) ea_nil)) (by first | decide | omega | (unfold CMul; omega) | (dsimp only; omega) | (rw [sizeLine_eq]; omega) | (have q := pickL_lt a0 0 (m := 6) (by decide); (try simp only [rints_len]); (try rw [sizeLine_eq]); omega) | (have q := rints_mem hy2; have q2 := pickL_lt a0 0 (m := 6) (by decide); dsimp only; omega)) rfl) (ea_cons (ed_cmp (od_eqI _ _) (ed_var 1 (hX.nm rfl) (blk_vs hX (vis_l (by decide +kernel))) rfl) ed_int) ea_nil)) trivial rfl)))))
def termsL (c : Int) : List Tm := (rints 0 (1 + pickL c 0 6).toNat).map fun y => termL (subL c (1 + 5 * y)) (decide (y = 0))
theorem m_terms_eq (c : Int) : m_terms c = .ret (.o (.lst (List.map (fun z : (Int × List Nat × D) => (D.tup [D.int z.1, D.str z.2.1, z.2.2])) (termsL c)))) := rfl
theorem termsL_ok (c : Int) : TermsOk (termsL c) := by
  have q := pickL_lt c 0 (m := 6) (by decide)
  have hl : (termsL c).length = (1 + pickL c 0 6).toNat := by
    unfold termsL
    rw [List.length_map, rints_len]
  refine ⟨by omega, by omega, fun t ht => ?_, fun t ht => ?_⟩
  · unfold termsL at ht
    obtain ⟨y, _, rfl⟩ := List.mem_map.mp ht
    exact (termL_ok _ _).1
  · unfold termsL at ht
    rw [List.getElem?_map, rints_get (by omega)] at ht
    cases ht
    exact (termL_ok _ _).2 rfl
abbrev sp_terms (K : PySem.W.Frag) : Sp := spF K (A := Int) (fun a => [(D.int a)]) (fun a => True) (fun a => .o (.lst (List.map (fun z : (Int × (List Nat) × D) => (D.tup [(D.int z.1), (D.str z.2.1), z.2.2])) (termsL a))))
theorem ok_terms {P : Program} {w : World} {K : PySem.W.Frag} {mg : Str → Option Value} {base : Heap} {f : Addr} {fd : FuncData} (F : Fun K "_law_terms" "_law_terms" s_law_terms f fd) (m_range : mg "range" = none) (kn_pick : Kn P w K mg base "_law_pick" 1 (sp_pick K)) (kn_sub : Kn P w K mg base "_law_sub" 1 (sp_sub K)) (kn_term : Kn P w K mg base "_law_term" 3 (sp_term K)) : FnOk P w K mg base (L2.CX P w) 4 f fd ["_law_cell_here"] (sp_terms K) := by
  refine def_ok F sc_law_terms (fun _ => rfl) (fun a hp X E e1 e2 e3 e4 e5 hX => ?_)
  subst e1 e2 e3 e4 e5
  have h := bd_terms X E hX m_range kn_pick kn_sub kn_term a
  rw [m_terms_eq a] at h
  exact h
abbrev s_law_whole : Stmt := top 29
abbrev nm_law_whole : List Str := ["_law_found"]
theorem sc_law_whole : FnScope nm_law_whole ["_law_found"] (defScope s_law_whole) := ⟨rfl, rfl, rfl, by decide +kernel, rfl, by decide +kernel, by decide +kernel⟩
theorem lk_law_whole_bool : (defScope s_law_whole).names.lookup ("bool" : Str) = some .globalImplicit := by decide +kernel
theorem lk_law_whole_int : (defScope s_law_whole).names.lookup ("int" : Str) = some .globalImplicit := by decide +kernel
theorem lk_law_whole_isinstance : (defScope s_law_whole).names.lookup ("isinstance" : Str) = some .globalImplicit := by decide +kernel
theorem lk_law_whole_law_found : (defScope s_law_whole).names.lookup ("_law_found" : Str) = some .local := by decide +kernel
def m_whole_i (a0 : Int) : Ctl Unit Empty := .ret (.v (D.bl (true && (!false))))
theorem bd_whole_i (X : Cx) (E : XK) (hX : XOk 0 nm_law_whole (defScope s_law_whole) X E) (m_bool : X.mg "bool" = none) (m_int : X.mg "int" = none) (m_isinstance : X.mg "isinstance" = none) (a0 : Int) : BK X E ([.d (D.int a0)] : List B) (defBody s_law_whole) (fun s : Unit => List.replicate 1 B.un) (fun s : Empty => nomatch s) (m_whole_i a0) := by
  unfold m_whole_i
  exact (b_ret (ed_and (ed_isi (hX.gl lk_law_whole_isinstance) m_isinstance (ed_var 0 (hX.nm rfl) (hX.vs (vis_l lk_law_whole_law_found)) rfl) (ed_ty (n := "int") (hX.gl lk_law_whole_int) m_int (by decide +kernel)) rfl (by decide +kernel)) (fun h1 => (ed_one (ed_not (ed_isi (hX.gl lk_law_whole_isinstance) m_isinstance (ed_var 0 (hX.nm rfl) (hX.vs (vis_l lk_law_whole_law_found)) rfl) (ed_ty (n := "bool") (hX.gl lk_law_whole_bool) m_bool (by decide +kernel)) rfl (by decide +kernel)))))))
def wholeI (a0 : Int) : Bool := outB (m_whole_i a0)
theorem m_whole_i_eq (a0 : Int) : m_whole_i a0 = .ret (.v (D.bl (wholeI a0))) := by
  unfold wholeI
  exact (show ∀ c : Ctl Unit Empty, (∃ z, c = .ret (.v (D.bl z))) → c = .ret (.v (D.bl (outB c))) from fun c ⟨z, h⟩ => by rw [h]; rfl) _ (by unfold m_whole_i; (try simp only [bnd]); (repeat' split) <;> first | exact ⟨_, rfl⟩ | (exfalso; simp_all))
abbrev sp_whole_i (K : PySem.W.Frag) : Sp := spF K (A := Int) (fun a => [(D.int a)]) (fun a => True) (fun a => .v (D.bl (wholeI a)))
theorem ok_whole_i {P : Program} {w : World} {K : PySem.W.Frag} {mg : Str → Option Value} {base : Heap} {f : Addr} {fd : FuncData} (F : Fun K "_law_whole" "_law_whole" s_law_whole f fd) (m_bool : mg "bool" = none) (m_int : mg "int" = none) (m_isinstance : mg "isinstance" = none) : FnOk P w K mg base (L2.CX P w) 1 f fd ["_law_found"] (sp_whole_i K) := by
  refine def_ok F sc_law_whole (fun _ => rfl) (fun a hp X E e1 e2 e3 e4 e5 hX => ?_)
  subst e1 e2 e3 e4 e5
  have h := bd_whole_i X E hX m_bool m_int m_isinstance a
  rw [m_whole_i_eq a] at h
  exact h
def m_whole_a (a0 : D) : Ctl Unit Empty := .ret (.v (D.bl ((isiD "int" a0) && (!(isiD "bool" a0)))))
theorem bd_whole_a (X : Cx) (E : XK) (hX : XOk 0 nm_law_whole (defScope s_law_whole) X E) (m_bool : X.mg "bool" = none) (m_int : X.mg "int" = none) (m_isinstance : X.mg "isinstance" = none) (a0 : D) (hp : plainT a0 = true) : BK X E ([.d a0] : List B) (defBody s_law_whole) (fun s : Unit => List.replicate 1 B.un) (fun s : Empty => nomatch s) (m_whole_a a0) := by
  unfold m_whole_a
  exact (b_ret (ed_and (ed_isiD (hX.gl lk_law_whole_isinstance) m_isinstance (ed_var 0 (hX.nm rfl) (hX.vs (vis_l lk_law_whole_law_found)) rfl) (ed_ty (n := "int") (hX.gl lk_law_whole_int) m_int (by decide +kernel)) (isi_ok hp (by decide))) (fun h1 => (ed_one (ed_not (ed_isiD (hX.gl lk_law_whole_isinstance) m_isinstance (ed_var 0 (hX.nm rfl) (hX.vs (vis_l lk_law_whole_law_found)) rfl) (ed_ty (n := "bool") (hX.gl lk_law_whole_bool) m_bool (by decide +kernel)) (isi_ok hp (by decide))))))))
def wholeD (a0 : D) : Bool := outB (m_whole_a a0)
theorem m_whole_a_eq (a0 : D) : m_whole_a a0 = .ret (.v (D.bl (wholeD a0))) := by
  unfold wholeD
  exact (show ∀ c : Ctl Unit Empty, (∃ z, c = .ret (.v (D.bl z))) → c = .ret (.v (D.bl (outB c))) from fun c ⟨z, h⟩ => by rw [h]; rfl) _ (by unfold m_whole_a; (try simp only [bnd]); (repeat' split) <;> first | exact ⟨_, rfl⟩ | (exfalso; simp_all))
abbrev sp_whole_a (K : PySem.W.Frag) : Sp := spF K (A := D) (fun a => [a]) (fun a => plainT a = true) (fun a => .v (D.bl (wholeD a)))
theorem ok_whole_a {P : Program} {w : World} {K : PySem.W.Frag} {mg : Str → Option Value} {base : Heap} {f : Addr} {fd : FuncData} (F : Fun K "_law_whole" "_law_whole" s_law_whole f fd) (m_bool : mg "bool" = none) (m_int : mg "int" = none) (m_isinstance : mg "isinstance" = none) : FnOk P w K mg base (L2.CX P w) 1 f fd ["_law_found"] (sp_whole_a K) := by
  refine def_ok F sc_law_whole (fun _ => rfl) (fun a hp X E e1 e2 e3 e4 e5 hX => ?_)
  subst e1 e2 e3 e4 e5
  have h := bd_whole_a X E hX m_bool m_int m_isinstance a hp
  rw [m_whole_a_eq a] at h
  exact h
abbrev s_law_term_is : Stmt := top 30
abbrev nm_law_term_is : List Str := ["_law_found", "_law_due"]
theorem sc_law_term_is : FnScope nm_law_term_is ["_law_found", "_law_due"] (defScope s_law_term_is) := ⟨rfl, rfl, rfl, by decide +kernel, rfl, by decide +kernel, by decide +kernel⟩
theorem lk_law_term_is_isinstance : (defScope s_law_term_is).names.lookup ("isinstance" : Str) = some .globalImplicit := by decide +kernel
theorem lk_law_term_is_law_due : (defScope s_law_term_is).names.lookup ("_law_due" : Str) = some .local := by decide +kernel
theorem lk_law_term_is_law_found : (defScope s_law_term_is).names.lookup ("_law_found" : Str) = some .local := by decide +kernel
theorem lk_law_term_is_law_whole : (defScope s_law_term_is).names.lookup ("_law_whole" : Str) = some .globalImplicit := by decide +kernel
theorem lk_law_term_is_len : (defScope s_law_term_is).names.lookup ("len" : Str) = some .globalImplicit := by decide +kernel
theorem lk_law_term_is_str : (defScope s_law_term_is).names.lookup ("str" : Str) = some .globalImplicit := by decide +kernel
theorem lk_law_term_is_tuple : (defScope s_law_term_is).names.lookup ("tuple" : Str) = some .globalImplicit := by decide +kernel
def m_term_is (a0 : (Int × (List Nat) × D)) (a1 : (Int × (List Nat) × D)) : Ctl Unit Empty := if ((!true) || ((!(decide ((([(D.int a0.1), (D.str a0.2.1), a0.2.2] : List D).length : Int) = (3 : Int)))) || ((!(wholeI a0.1)) || (!true)))) = true then Ctl.up (.ret (.v (D.bl false))) else if (decide (a1.2.1 = [110, 117, 109, 98, 101, 114])) = true then Ctl.up (.ret (.v (D.bl ((wholeD a0.2.2) && (eqD (D.tup [(D.int a0.1), (D.str a0.2.1), a0.2.2]) (D.tup [(D.int a1.1), (D.str a1.2.1), a1.2.2])))))) else .ret (.v (D.bl ((isiD "tuple" a0.2.2) && (eqD (D.tup [(D.int a0.1), (D.str a0.2.1), a0.2.2]) (D.tup [(D.int a1.1), (D.str a1.2.1), a1.2.2])))))
theorem bd_term_is (X : Cx) (E : XK) (hX : XOk 1 nm_law_term_is (defScope s_law_term_is) X E) (m_isinstance : X.mg "isinstance" = none) (m_len : X.mg "len" = none) (m_str : X.mg "str" = none) (m_tuple : X.mg "tuple" = none) (kn_whole_a : KnX X "_law_whole" 1 (sp_whole_a X.K)) (kn_whole_i : KnX X "_law_whole" 1 (sp_whole_i X.K)) (a0 : (Int × (List Nat) × D)) (a1 : (Int × (List Nat) × D)) (hp : TermOk a0 ∧ TermOk a1) : BK X E ([.d (D.tup [(D.int a0.1), (D.str a0.2.1), a0.2.2]), .d (D.tup [(D.int a1.1), (D.str a1.2.1), a1.2.2])] : List B) (defBody s_law_term_is) (fun s : Unit => List.replicate 2 B.un) (fun s : Empty => nomatch s) (m_term_is a0 a1) := by
  unfold m_term_is
  exact (b_ifr (et_w (ew_or (et_not (et_val (ed_isi (hX.gl lk_law_term_is_isinstance) m_isinstance (ed_var 0 (hX.nm rfl) (hX.vs (vis_l lk_law_term_is_law_found)) rfl) (ed_ty (n := "tuple") (hX.gl lk_law_term_is_tuple) m_tuple (by decide +kernel)) rfl (by decide +kernel)))) (fun h3 => (ew_or (et_cmp (od_neI _ _) (ed_lenT (hX.gl lk_law_term_is_len) m_len (ed_var 0 (hX.nm rfl) (hX.vs (vis_l lk_law_term_is_law_found)) rfl)) ed_int) (fun h2 => (ew_or (et_not (et_val (ed_call a0.1 kn_whole_i (hX.room.mono (by decide)) (hX.gl lk_law_term_is_law_whole) (ea_cons (ed_ixT (ed_var 0 (hX.nm rfl) (hX.vs (vis_l lk_law_term_is_law_found)) rfl) ed_int rfl) ea_nil) trivial rfl))) (fun h1 => (ew_or1 (et_not (et_val (ed_isi (hX.gl lk_law_term_is_isinstance) m_isinstance (ed_ixT (ed_var 0 (hX.nm rfl) (hX.vs (vis_l lk_law_term_is_law_found)) rfl) ed_int rfl) (ed_ty (n := "str") (hX.gl lk_law_term_is_str) m_str (by decide +kernel)) rfl (by decide +kernel)))))))))))) (fun h4 => (b_ret ed_bl)) (fun h4 => (b_ifr (et_cmp (od_eqS _ _) (ed_ixT (ed_var 1 (hX.nm rfl) (hX.vs (vis_l lk_law_term_is_law_due)) rfl) ed_int rfl) (ed_str [110, 117, 109, 98, 101, 114] (by decide +kernel))) (fun h5 => (b_ret (ed_and (ed_call a0.2.2 kn_whole_a (hX.room.mono (by decide)) (hX.gl lk_law_term_is_law_whole) (ea_cons (ed_ixT (ed_var 0 (hX.nm rfl) (hX.vs (vis_l lk_law_term_is_law_found)) rfl) ed_int rfl) ea_nil) (by first | decide | omega | (unfold CMul; omega) | (dsimp only; omega) | (rw [sizeLine_eq]; omega) | exact hp.1.plain) rfl) (fun h6 => (ed_one (ed_cmp (od_eqD 8 (room64 hX.room) (by first | exact TermOk.eqk8 hp.1 | exact TermOk.eqk8 hp.2) (by first | exact TermOk.eqk8 hp.1 | exact TermOk.eqk8 hp.2) (by decide)) (ed_var 0 (hX.nm rfl) (hX.vs (vis_l lk_law_term_is_law_found)) rfl) (ed_var 1 (hX.nm rfl) (hX.vs (vis_l lk_law_term_is_law_due)) rfl))))))) (fun h5 => (b_ret (ed_and (ed_isiD (hX.gl lk_law_term_is_isinstance) m_isinstance (ed_ixT (ed_var 0 (hX.nm rfl) (hX.vs (vis_l lk_law_term_is_law_found)) rfl) ed_int rfl) (ed_ty (n := "tuple") (hX.gl lk_law_term_is_tuple) m_tuple (by decide +kernel)) (isi_ok hp.1.plain (by decide))) (fun h7 => (ed_one (ed_cmp (od_eqD 8 (room64 hX.room) (by first | exact TermOk.eqk8 hp.1 | exact TermOk.eqk8 hp.2) (by first | exact TermOk.eqk8 hp.1 | exact TermOk.eqk8 hp.2) (by decide)) (ed_var 0 (hX.nm rfl) (hX.vs (vis_l lk_law_term_is_law_found)) rfl) (ed_var 1 (hX.nm rfl) (hX.vs (vis_l lk_law_term_is_law_due)) rfl))))))))))
def termIsL (t u : Tm) : Bool := wholeI t.1 && (if decide (u.2.1 = NUM) = true then wholeD t.2.2 && eqD (encT t) (encT u) else isiD "tuple" t.2.2 && eqD (encT t) (encT u))
theorem m_term_is_eq (t u : Tm) : m_term_is t u = .ret (.v (.bl (termIsL t u))) := by
  have e : wholeI t.1 = true := rfl
  unfold m_term_is termIsL
  rw [e]
  cases decide (u.2.1 = NUM) <;> rfl
theorem termIs_refl {t : Tm} (h : TermOk t) : termIsL t t = true := by
  unfold termIsL
  have e : wholeI t.1 = true := rfl
  rw [e, eqD_refl h.eqk8]
  rcases h.th with ⟨h1, n, h2, _⟩ | ⟨h1 | h1, ns, h2, _⟩ <;> rw [h1, h2] <;> rfl
abbrev sp_term_is (K : PySem.W.Frag) : Sp := spF K (A := (Int × (List Nat) × D) × (Int × (List Nat) × D)) (fun a => [(D.tup [(D.int a.1.1), (D.str a.1.2.1), a.1.2.2]), (D.tup [(D.int a.2.1), (D.str a.2.2.1), a.2.2.2])]) (fun a => TermOk a.1 ∧ TermOk a.2) (fun a => .v (D.bl (termIsL a.1 a.2)))
theorem ok_term_is {P : Program} {w : World} {K : PySem.W.Frag} {mg : Str → Option Value} {base : Heap} {f : Addr} {fd : FuncData} (F : Fun K "_law_term_is" "_law_term_is" s_law_term_is f fd) (m_isinstance : mg "isinstance" = none) (m_len : mg "len" = none) (m_str : mg "str" = none) (m_tuple : mg "tuple" = none) (kn_whole_a : Kn P w K mg base "_law_whole" 1 (sp_whole_a K)) (kn_whole_i : Kn P w K mg base "_law_whole" 1 (sp_whole_i K)) : FnOk P w K mg base (L2.CX P w) 2 f fd ["_law_found", "_law_due"] (sp_term_is K) := by
  refine def_ok F sc_law_term_is (fun _ => rfl) (fun a hp X E e1 e2 e3 e4 e5 hX => ?_)
  subst e1 e2 e3 e4 e5
  have h := bd_term_is X E hX m_isinstance m_len m_str m_tuple kn_whole_a kn_whole_i a.1 a.2 hp
  rw [m_term_is_eq a.1 a.2] at h
  exact h
abbrev s_law_terms_are : Stmt := top 31
abbrev nm_law_terms_are : List Str := ["_law_found", "_law_due", "_law_one", "_law_other"]
theorem sc_law_terms_are : FnScope nm_law_terms_are ["_law_found", "_law_due"] (defScope s_law_terms_are) := ⟨rfl, rfl, rfl, by decide +kernel, rfl, by decide +kernel, by decide +kernel⟩
theorem lk_law_terms_are_all : (defScope s_law_terms_are).names.lookup ("all" : Str) = some .globalImplicit := by decide +kernel
theorem lk_law_terms_are_isinstance : (defScope s_law_terms_are).names.lookup ("isinstance" : Str) = some .globalImplicit := by decide +kernel
theorem lk_law_terms_are_law_due : (defScope s_law_terms_are).names.lookup ("_law_due" : Str) = some .local := by decide +kernel
theorem lk_law_terms_are_law_found : (defScope s_law_terms_are).names.lookup ("_law_found" : Str) = some .local := by decide +kernel
theorem lk_law_terms_are_len : (defScope s_law_terms_are).names.lookup ("len" : Str) = some .globalImplicit := by decide +kernel
theorem lk_law_terms_are_list : (defScope s_law_terms_are).names.lookup ("list" : Str) = some .globalImplicit := by decide +kernel
theorem lk_law_terms_are_zip : (defScope s_law_terms_are).names.lookup ("zip" : Str) = some .globalImplicit := by decide +kernel
def m_terms_are (a0 : (List (Int × (List Nat) × D))) (a1 : (List (Int × (List Nat) × D))) : Ctl Unit Empty := if ((!true) || (!(decide (((a0).length : Int) = ((a1).length : Int))))) = true then Ctl.up (.ret (.v (D.bl false))) else .ret (.v (D.bl (((List.map (fun y3 : ((Int × (List Nat) × D) × (Int × (List Nat) × D)) => (termIsL y3.1 y3.2)) (List.zip a0 a1))).all id)))
theorem bd_terms_are (X : Cx) (E : XK) (hX : XOk 2 nm_law_terms_are (defScope s_law_terms_are) X E) (m_all : X.mg "all" = none) (m_isinstance : X.mg "isinstance" = none) (m_len : X.mg "len" = none) (m_list : X.mg "list" = none) (m_zip : X.mg "zip" = none) (kn_term_is : KnX X "_law_term_is" 2 (sp_term_is X.K)) (a0 : (List (Int × (List Nat) × D))) (a1 : (List (Int × (List Nat) × D))) (hp : TermsOk a0 ∧ TermsOk a1) : BK X E ([.d (D.lst (List.map (fun z : (Int × (List Nat) × D) => (D.tup [(D.int z.1), (D.str z.2.1), z.2.2])) a0)), .d (D.lst (List.map (fun z : (Int × (List Nat) × D) => (D.tup [(D.int z.1), (D.str z.2.1), z.2.2])) a1)), .un, .un] : List B) (defBody s_law_terms_are) (fun s : Unit => List.replicate 4 B.un) (fun s : Empty => nomatch s) (m_terms_are a0 a1) := by
  unfold m_terms_are
  exact (b_ifr (et_w (ew_or (et_not (et_val (ed_isi (hX.gl lk_law_terms_are_isinstance) m_isinstance (ed_var 0 (hX.nm rfl) (hX.vs (vis_l lk_law_terms_are_law_found)) rfl) (ed_ty (n := "list") (hX.gl lk_law_terms_are_list) m_list (by decide +kernel)) rfl (by decide +kernel)))) (fun h1 => (ew_or1 (et_cmp (od_neI _ _) (ed_lenM (hX.gl lk_law_terms_are_len) m_len (EvD.el (ed_var 0 (hX.nm rfl) (hX.vs (vis_l lk_law_terms_are_law_found)) rfl))) (ed_lenM (hX.gl lk_law_terms_are_len) m_len (EvD.el (ed_var 1 (hX.nm rfl) (hX.vs (vis_l lk_law_terms_are_law_due)) rfl)))))))) (fun h2 => (b_ret ed_bl)) (fun h2 => (b_ret (ed_all hX.calm (hX.gl lk_law_terms_are_all) m_all (EvO.el (eo_lc hX.calm hX.nd (lc_ok0 (Yt := ((Int × (List Nat) × D) × (Int × (List Nat) × D))) (τ := Bool) (encY := (fun z : ((Int × (List Nat) × D) × (Int × (List Nat) × D)) => (D.tup [(D.tup [(D.int z.1.1), (D.str z.1.2.1), z.1.2.2]), (D.tup [(D.int z.2.1), (D.str z.2.2.1), z.2.2.2])]))) (enc := D.bl) (g := (gTup X.K 2 (gCons (gName 2) (gCons (gName 3) gNil)))) (js := [2, 3]) (own := [("_law_one", 2), ("_law_other", 3)]) (List.zip a0 a1) (fun y3 : ((Int × (List Nat) × D) × (Int × (List Nat) × D)) => (termIsL y3.1 y3.2)) (it_zipM (enc := (fun z : (Int × (List Nat) × D) => (D.tup [(D.int z.1), (D.str z.2.1), z.2.2]))) (enc' := (fun z : (Int × (List Nat) × D) => (D.tup [(D.int z.1), (D.str z.2.1), z.2.2]))) (xs := a0) (zs := a1) (hX.gl lk_law_terms_are_zip) m_zip (ed_var 0 (hX.nm rfl) (hX.vs (vis_l lk_law_terms_are_law_found)) rfl) (ed_var 1 (hX.nm rfl) (hX.vs (vis_l lk_law_terms_are_law_due)) rfl)) (blk_ok hX (by decide +kernel)) (fun _ _ _ _ _ => (pg_tup hX.calm (pgs_cons (pg_name (i := 2) hX.nd (hX.nm rfl) (blk_lc hX (loc_l (by decide +kernel))) (.inr (blk_lk hX (by decide +kernel)))) (pgs_cons (pg_name (i := 3) hX.nd (hX.nm rfl) (blk_lc hX (loc_l (by decide +kernel))) (.inr (blk_lk hX (by decide +kernel)))) pgs_nil)))) (by decide) (by first | decide | omega | (unfold CMul; omega) | (dsimp only; omega) | (rw [sizeLine_eq]; omega) | (have := hp.1.few; have := hp.2.few; simp only [List.length_zip]; rw [sizeLine_eq]; omega) | exact ⟨hp.1.all _ (List.of_mem_zip hy4).1, hp.2.all _ (List.of_mem_zip hy4).2⟩) (fun y3 : ((Int × (List Nat) × D) × (Int × (List Nat) × D)) => ([.d (D.lst (List.map (fun z : (Int × (List Nat) × D) => (D.tup [(D.int z.1), (D.str z.2.1), z.2.2])) a0)), .d (D.lst (List.map (fun z : (Int × (List Nat) × D) => (D.tup [(D.int z.1), (D.str z.2.1), z.2.2])) a1)), .d (D.tup [(D.int y3.1.1), (D.str y3.1.2.1), y3.1.2.2]), .d (D.tup [(D.int y3.2.1), (D.str y3.2.2.1), y3.2.2.2])] : List B)) (fun y3 _ => (show TgD X.K (gTup X.K 2 (gCons (gName 2) (gCons (gName 3) gNil))) [2, 3] (wipeB ([.d (D.lst (List.map (fun z : (Int × (List Nat) × D) => (D.tup [(D.int z.1), (D.str z.2.1), z.2.2])) a0)), .d (D.lst (List.map (fun z : (Int × (List Nat) × D) => (D.tup [(D.int z.1), (D.str z.2.1), z.2.2])) a1)), .un, .un] : List B) [2, 3]) ((fun z : ((Int × (List Nat) × D) × (Int × (List Nat) × D)) => (D.tup [(D.tup [(D.int z.1.1), (D.str z.1.2.1), z.1.2.2]), (D.tup [(D.int z.2.1), (D.str z.2.2.1), z.2.2.2])])) y3) ([.d (D.lst (List.map (fun z : (Int × (List Nat) × D) => (D.tup [(D.int z.1), (D.str z.2.1), z.2.2])) a0)), .d (D.lst (List.map (fun z : (Int × (List Nat) × D) => (D.tup [(D.int z.1), (D.str z.2.1), z.2.2])) a1)), .d (D.tup [(D.int y3.1.1), (D.str y3.1.2.1), y3.1.2.2]), .d (D.tup [(D.int y3.2.1), (D.str y3.2.2.1), y3.2.2.2])] : List B) from (tg_tup (tgs_cons 2 (tgs_cons 3 tgs_nil)) rfl))) (fun y3 hy4 _ _ _ _ _ => (ed_call ((y3.1, y3.2) : (Int × (List Nat) × D) × (Int × (List Nat) × D)) kn_term_is (hX.room.mono (by decide)) (blk_gl hX (by decide +kernel)) (ea_cons (ed_var 2 (hX.nm rfl) (blk_vs hX (vis_l (by decide +kernel))) rfl) (ea_cons (ed_var 3 (hX.nm rfl) (blk_vs hX (vis_l (by decide +kernel))) rfl) ea_nil)) (by first | decide | omega | (unfold CMul; omega) | (dsimp only; omega) | (rw [sizeLine_eq]; omega) | (have := hp.1.few; have := hp.2.few; simp only [List.length_zip]; rw [sizeLine_eq]; omega) | exact ⟨hp.1.all _ (List.of_mem_zip hy4).1, hp.2.all _ (List.of_mem_zip hy4).2⟩) rfl)))))))))
def termsAreL (ts us : List Tm) : Bool := decide (ts.length = us.length) && ((ts.zip us).all fun z => termIsL z.1 z.2)
theorem m_terms_are_eq (ts us : List Tm) : m_terms_are ts us = .ret (.v (.bl (termsAreL ts us))) := by
  unfold m_terms_are termsAreL
  by_cases h : ts.length = us.length
  · have e : ((ts.length : Int) = (us.length : Int)) := by omega
    simp only [h, e, decide_true, Bool.not_true, Bool.or_self, Bool.false_eq_true, if_false, Bool.true_and, List.all_map]
    rfl
  · have e : ¬ ((ts.length : Int) = (us.length : Int)) := by omega
    simp only [h, e, decide_false, Bool.not_false, Bool.or_true, if_true, Bool.false_and]
    rfl
theorem zip_self {α : Type} : ∀ {xs : List α} {p : α × α}, p ∈ xs.zip xs → p.1 = p.2 ∧ p.1 ∈ xs
  | [], _, h => by simp at h
  | x :: xs, p, h => by
    rw [List.zip_cons_cons] at h
    rcases List.mem_cons.mp h with e | e
    · subst e
      exact ⟨rfl, by simp⟩
    · have q := zip_self e
      exact ⟨q.1, List.mem_cons_of_mem _ q.2⟩
theorem termsAre_refl {ts : List Tm} (h : TermsOk ts) : termsAreL ts ts = true := by
  unfold termsAreL
  rw [decide_eq_true rfl, Bool.true_and, List.all_eq_true]
  intro p hp
  obtain ⟨e, hm⟩ := zip_self hp
  rw [← e]
  exact termIs_refl (h.all _ hm)
abbrev sp_terms_are (K : PySem.W.Frag) : Sp := spF K (A := (List (Int × (List Nat) × D)) × (List (Int × (List Nat) × D))) (fun a => [(D.lst (List.map (fun z : (Int × (List Nat) × D) => (D.tup [(D.int z.1), (D.str z.2.1), z.2.2])) a.1)), (D.lst (List.map (fun z : (Int × (List Nat) × D) => (D.tup [(D.int z.1), (D.str z.2.1), z.2.2])) a.2))]) (fun a => TermsOk a.1 ∧ TermsOk a.2) (fun a => .v (D.bl (termsAreL a.1 a.2)))
theorem ok_terms_are {P : Program} {w : World} {K : PySem.W.Frag} {mg : Str → Option Value} {base : Heap} {f : Addr} {fd : FuncData} (F : Fun K "_law_terms_are" "_law_terms_are" s_law_terms_are f fd) (m_all : mg "all" = none) (m_isinstance : mg "isinstance" = none) (m_len : mg "len" = none) (m_list : mg "list" = none) (m_zip : mg "zip" = none) (kn_term_is : Kn P w K mg base "_law_term_is" 2 (sp_term_is K)) : FnOk P w K mg base (L2.CX P w) 3 f fd ["_law_found", "_law_due"] (sp_terms_are K) := by
  refine def_ok F sc_law_terms_are (fun _ => rfl) (fun a hp X E e1 e2 e3 e4 e5 hX => ?_)
  subst e1 e2 e3 e4 e5
  have h := bd_terms_are X E hX m_all m_isinstance m_len m_list m_zip kn_term_is a.1 a.2 hp
  rw [m_terms_are_eq a.1 a.2] at h
  exact h
abbrev s_law_shown : Stmt := top 32
abbrev nm_law_shown : List Str := ["_law_terms_here", "_law_handed", "_law_found"]
theorem sc_law_shown : FnScope nm_law_shown ["_law_terms_here"] (defScope s_law_shown) := ⟨rfl, rfl, rfl, by decide +kernel, rfl, by decide +kernel, by decide +kernel⟩
theorem lk_law_shown_isinstance : (defScope s_law_shown).names.lookup ("isinstance" : Str) = some .globalImplicit := by decide +kernel
theorem lk_law_shown_law_found : (defScope s_law_shown).names.lookup ("_law_found" : Str) = some .local := by decide +kernel
theorem lk_law_shown_law_handed : (defScope s_law_shown).names.lookup ("_law_handed" : Str) = some .local := by decide +kernel
theorem lk_law_shown_law_terms_here : (defScope s_law_shown).names.lookup ("_law_terms_here" : Str) = some .local := by decide +kernel
theorem lk_law_shown_list : (defScope s_law_shown).names.lookup ("list" : Str) = some .globalImplicit := by decide +kernel
theorem lk_law_shown_show_expr : (defScope s_law_shown).names.lookup ("show_expr" : Str) = some .globalImplicit := by decide +kernel
theorem lk_law_shown_str : (defScope s_law_shown).names.lookup ("str" : Str) = some .globalImplicit := by decide +kernel
def m_shown (a0 : (List (Int × (List Nat) × D))) : Ctl Unit Empty := bnd (a0 : (List (Int × (List Nat) × D))) fun v1 => bnd ((showL v1) : (List Nat)) fun v2 => if ((!(eqD (D.lst (List.map (fun z : (Int × (List Nat) × D) => (D.tup [(D.int z.1), (D.str z.2.1), z.2.2])) v1)) (D.lst (List.map (fun z : (Int × (List Nat) × D) => (D.tup [(D.int z.1), (D.str z.2.1), z.2.2])) a0)))) || (!true)) = true then Ctl.up (.ret (.v (D.str ([] : List Nat)))) else .ret (.v (D.str v2))
theorem bd_shown (X : Cx) (E : XK) (hX : XOk 2 nm_law_shown (defScope s_law_shown) X E) (m_isinstance : X.mg "isinstance" = none) (m_list : X.mg "list" = none) (m_str : X.mg "str" = none) (kn_show_expr : KnX X "show_expr" 2 (sp_show_expr X.K)) (a0 : (List (Int × (List Nat) × D))) (hp : TermsOk a0) : BK X E ([.d (D.lst (List.map (fun z : (Int × (List Nat) × D) => (D.tup [(D.int z.1), (D.str z.2.1), z.2.2])) a0)), .un, .un] : List B) (defBody s_law_shown) (fun s : Unit => List.replicate 3 B.un) (fun s : Empty => nomatch s) (m_shown a0) := by
  unfold m_shown
  exact (b_setO 1 (fun z : (List (Int × (List Nat) × D)) => OO.lst (List.map (fun z : (Int × (List Nat) × D) => (D.tup [(D.int z.1), (D.str z.2.1), z.2.2])) z)) hX rfl (loc_l lk_law_shown_law_handed) (eo_listL (hX.gl lk_law_shown_list) m_list (EvD.el (ed_var 0 (hX.nm rfl) (hX.vs (vis_l lk_law_shown_law_terms_here)) rfl))) (fun v1 hv1 => (show BK X E ([.d (D.lst (List.map (fun z : (Int × (List Nat) × D) => (D.tup [(D.int z.1), (D.str z.2.1), z.2.2])) a0)), .own (.lst (List.map (fun z : (Int × (List Nat) × D) => (D.tup [(D.int z.1), (D.str z.2.1), z.2.2])) v1)), .un] : List B) _ _ _ _ from (b_set 2 D.str hX rfl (loc_l lk_law_shown_law_found) (ed_lend 1 rfl rfl (show ED X ([.d (D.lst (List.map (fun z : (Int × (List Nat) × D) => (D.tup [(D.int z.1), (D.str z.2.1), z.2.2])) a0)), .d (D.lst (List.map (fun z : (Int × (List Nat) × D) => (D.tup [(D.int z.1), (D.str z.2.1), z.2.2])) v1)), .un] : List B) _ _ from (ed_call v1 kn_show_expr (hX.room.mono (by decide)) (hX.gl lk_law_shown_show_expr) (ea_cons (ed_var 1 (hX.nm rfl) (hX.vs (vis_l lk_law_shown_law_handed)) rfl) ea_nil) (by first | decide | omega | (unfold CMul; omega) | (dsimp only; omega) | (rw [sizeLine_eq]; omega) | exact hp | (subst_vars; exact hp)) rfl))) (fun v2 hv2 => (show BK X E ([.d (D.lst (List.map (fun z : (Int × (List Nat) × D) => (D.tup [(D.int z.1), (D.str z.2.1), z.2.2])) a0)), .own (.lst (List.map (fun z : (Int × (List Nat) × D) => (D.tup [(D.int z.1), (D.str z.2.1), z.2.2])) v1)), .d (D.str v2)] : List B) _ _ _ _ from (b_ifr (et_lend 1 rfl (show ET X ([.d (D.lst (List.map (fun z : (Int × (List Nat) × D) => (D.tup [(D.int z.1), (D.str z.2.1), z.2.2])) a0)), .d (D.lst (List.map (fun z : (Int × (List Nat) × D) => (D.tup [(D.int z.1), (D.str z.2.1), z.2.2])) v1)), .d (D.str v2)] : List B) _ _ from (et_w (ew_or (et_cmp (od_neD 8 (room64 hX.room) (by first | exact hp.eqk | (subst_vars; exact hp.eqk)) (by first | exact hp.eqk | (subst_vars; exact hp.eqk)) (by decide)) (ed_var 1 (hX.nm rfl) (hX.vs (vis_l lk_law_shown_law_handed)) rfl) (ed_var 0 (hX.nm rfl) (hX.vs (vis_l lk_law_shown_law_terms_here)) rfl)) (fun h3 => (ew_or1 (et_not (et_val (ed_isi (hX.gl lk_law_shown_isinstance) m_isinstance (ed_var 2 (hX.nm rfl) (hX.vs (vis_l lk_law_shown_law_found)) rfl) (ed_ty (n := "str") (hX.gl lk_law_shown_str) m_str (by decide +kernel)) rfl (by decide +kernel)))))))))) (fun h4 => (b_ret (ed_str [] (by decide +kernel)))) (fun h4 => (b_ret (ed_var 2 (hX.nm rfl) (hX.vs (vis_l lk_law_shown_law_found)) rfl))))))))))
def shownL (ts : List Tm) : List Nat := showL ts
theorem m_shown_eq (ts : List Tm) (hp : TermsOk ts) : m_shown ts = .ret (.v (.str (shownL ts))) := by
  have e3 := eqD_refl hp.eqk
  unfold m_shown shownL
  simp only [bnd, e3, Bool.not_true, Bool.or_self, Bool.false_eq_true, if_false]
theorem loop_bind_inv {S S2 Y T : Type} (P : S → Prop) {step : S → Y → Ctl S S} (h : ∀ s y, P s → ∃ s2, step s y = .go s2 ∧ P s2) {k : S → Ctl S2 T} {r : Ctl S2 T} (hk : ∀ s, k s = r) : ∀ (ys : List Y) (s : S), P s → Ctl.bind (loop step s ys) k = r
  | [], s, _ => hk s
  | y :: ys, s, hs => by
    obtain ⟨s2, e, h2⟩ := h s y hs
    have ih := loop_bind_inv P h hk ys s2 h2
    unfold loop
    rw [e]
    exact ih
theorem seven_ok : TermsOk ([((1 : Int), NUM, D.int (7 : Int))] : List Tm) := by
  refine ⟨Nat.zero_lt_one, (show 1 ≤ 6 by decide), fun t ht => ?_, fun t ht => ?_⟩
  · rw [List.mem_singleton.mp ht]
    exact ⟨.inl rfl, .inl ⟨rfl, 7, rfl, by decide⟩⟩
  · cases ht
    rfl
theorem shown_read {ts : List Tm} {s : List Nat} (h : TermsOk ts) (e : s = shownL ts) : readL s = .ok ts := by
  rw [e]
  unfold shownL
  rw [show_text h]
  exact read_text h
theorem shown_len {ts : List Tm} {s : List Nat} (h : TermsOk ts) (e : s = shownL ts) : s.length ≤ 10000 := by
  rw [e]
  unfold shownL
  rw [show_text h]
  exact Nat.le_trans (textL_len h) (by decide)
theorem shown_ok {ts : List Tm} {s : List Nat} (h : TermsOk ts) (e : s = shownL ts) : TermsOk (okOf (readL s) []) := by
  rw [shown_read h e]
  exact h
theorem go_of_up {S T : Type} {b : Bool} {k1 : Ctl Empty T} {k2 : Ctl S T} {r : Res} {s : S} (hk : k1 = .ret r) (e : (if b = true then k1.up else k2) = .go s) : k2 = .go s := by
  subst hk
  cases b with
  | true => cases e
  | false => exact e
abbrev sp_shown (K : PySem.W.Frag) : Sp := spF K (A := (List (Int × (List Nat) × D))) (fun a => [(D.lst (List.map (fun z : (Int × (List Nat) × D) => (D.tup [(D.int z.1), (D.str z.2.1), z.2.2])) a))]) (fun a => TermsOk a) (fun a => .v (D.str (shownL a)))
theorem ok_shown {P : Program} {w : World} {K : PySem.W.Frag} {mg : Str → Option Value} {base : Heap} {f : Addr} {fd : FuncData} (F : Fun K "_law_shown" "_law_shown" s_law_shown f fd) (m_isinstance : mg "isinstance" = none) (m_list : mg "list" = none) (m_str : mg "str" = none) (kn_show_expr : Kn P w K mg base "show_expr" 2 (sp_show_expr K)) : FnOk P w K mg base (L2.CX P w) 3 f fd ["_law_terms_here"] (sp_shown K) := by
  refine def_ok F sc_law_shown (fun _ => rfl) (fun a hp X E e1 e2 e3 e4 e5 hX => ?_)
  subst e1 e2 e3 e4 e5
  have h := bd_shown X E hX m_isinstance m_list m_str kn_show_expr a hp
  rw [m_shown_eq a hp] at h
  exact h
abbrev s_law : Stmt := top 33
abbrev nm_law : List Str := ["_law_script", "_law_ahead", "_law_k", "_law_cell_here", "_law_terms_here", "_law_text_here"]
theorem sc_law : FnScope nm_law ["_law_script"] (defScope s_law) := ⟨rfl, rfl, rfl, by decide +kernel, rfl, by decide +kernel, by decide +kernel⟩
theorem lk_law_law_ahead : (defScope s_law).names.lookup ("_law_ahead" : Str) = some .local := by decide +kernel
theorem lk_law_law_cell : (defScope s_law).names.lookup ("_law_cell" : Str) = some .globalImplicit := by decide +kernel
theorem lk_law_law_cell_here : (defScope s_law).names.lookup ("_law_cell_here" : Str) = some .local := by decide +kernel
theorem lk_law_law_k : (defScope s_law).names.lookup ("_law_k" : Str) = some .local := by decide +kernel
theorem lk_law_law_script : (defScope s_law).names.lookup ("_law_script" : Str) = some .local := by decide +kernel
theorem lk_law_law_shown : (defScope s_law).names.lookup ("_law_shown" : Str) = some .globalImplicit := by decide +kernel
theorem lk_law_law_terms : (defScope s_law).names.lookup ("_law_terms" : Str) = some .globalImplicit := by decide +kernel
theorem lk_law_law_terms_are : (defScope s_law).names.lookup ("_law_terms_are" : Str) = some .globalImplicit := by decide +kernel
theorem lk_law_law_terms_here : (defScope s_law).names.lookup ("_law_terms_here" : Str) = some .local := by decide +kernel
theorem lk_law_law_text : (defScope s_law).names.lookup ("_law_text" : Str) = some .globalImplicit := by decide +kernel
theorem lk_law_law_text_here : (defScope s_law).names.lookup ("_law_text_here" : Str) = some .local := by decide +kernel
theorem lk_law_len : (defScope s_law).names.lookup ("len" : Str) = some .globalImplicit := by decide +kernel
theorem lk_law_max : (defScope s_law).names.lookup ("max" : Str) = some .globalImplicit := by decide +kernel
theorem lk_law_min : (defScope s_law).names.lookup ("min" : Str) = some .globalImplicit := by decide +kernel
theorem lk_law_range : (defScope s_law).names.lookup ("range" : Str) = some .globalImplicit := by decide +kernel
theorem lk_law_read_expr : (defScope s_law).names.lookup ("read_expr" : Str) = some .globalImplicit := by decide +kernel
def m_law (a0 : (List Int)) : Ctl Unit Empty := bnd (([(((1 : Int), [110, 117, 109, 98, 101, 114], (7 : Int)).1, ((1 : Int), [110, 117, 109, 98, 101, 114], (7 : Int)).2.1, (D.int ((1 : Int), [110, 117, 109, 98, 101, 114], (7 : Int)).2.2))] : List (Int × (List Nat) × D)) : (List (Int × (List Nat) × D))) fun v1 => Ctl.bind (S := (List (Int × (List Nat) × D))) (loop (Y := Int) (fun (s2 : (List (Int × (List Nat) × D))) (y3 : Int) => bnd ((cellL a0 y3) : Int) fun v7 => bnd ((termsL v7) : (List (Int × (List Nat) × D))) fun v8 => bnd ((shownL v8) : (List Nat)) fun v9 => if ((!(decide (v9 = (textL v8)))) || (!(decide ((shownL s2) = (textL s2))))) = true then Ctl.up (.ret (.v (D.bl false))) else if ((!(termsAreL (okOf (readL v9) []) v8)) || (!(decide ((shownL (okOf (readL v9) [])) = v9)))) = true then Ctl.up (.ret (.v (D.bl false))) else bnd (v8 : (List (Int × (List Nat) × D))) fun v14 => .go v14) v1 (rints 0 ((if (if (30 : Int) < ((a0).length : Int) then (30 : Int) else ((a0).length : Int)) > (1 : Int) then (if (30 : Int) < ((a0).length : Int) then (30 : Int) else ((a0).length : Int)) else (1 : Int))).toNat)) fun s15 => .ret (.v (D.bl true))
theorem bd_law (X : Cx) (E : XK) (hX : XOk 6 nm_law (defScope s_law) X E) (m_len : X.mg "len" = none) (m_max : X.mg "max" = none) (m_min : X.mg "min" = none) (m_range : X.mg "range" = none) (kn_cell : KnX X "_law_cell" 1 (sp_cell X.K)) (kn_read_expr : KnX X "read_expr" 5 (sp_read_expr X.K)) (kn_shown : KnX X "_law_shown" 3 (sp_shown X.K)) (kn_terms : KnX X "_law_terms" 4 (sp_terms X.K)) (kn_terms_are : KnX X "_law_terms_are" 3 (sp_terms_are X.K)) (kn_text : KnX X "_law_text" 2 (sp_text X.K)) (a0 : (List Int)) (hp : a0.length ≤ 63) : BK X E ([.d (D.scr a0), .un, .un, .un, .un, .un] : List B) (defBody s_law) (fun s : Unit => List.replicate 6 B.un) (fun s : Empty => nomatch s) (m_law a0) := by
  unfold m_law
  exact (b_setO 1 (fun z : (List (Int × (List Nat) × D)) => OO.lst (List.map (fun z : (Int × (List Nat) × D) => (D.tup [(D.int z.1), (D.str z.2.1), z.2.2])) z)) hX rfl (loc_l lk_law_law_ahead) (eo_lst (ea_cons (ed_tup (ea_cons ed_int (ea_cons (ed_str [110, 117, 109, 98, 101, 114] (by decide +kernel)) (ea_cons ed_int ea_nil))) (by show 3 ≤ sizeLine; decide)) ea_nil) (by show 1 ≤ sizeLine; decide)) (fun v1 hv1 => (show BK X E ([.d (D.scr a0), .own (.lst (List.map (fun z : (Int × (List Nat) × D) => (D.tup [(D.int z.1), (D.str z.2.1), z.2.2])) v1)), .un, .un, .un, .un] : List B) _ _ _ _ from (b_frz 1 rfl (show BK X E ([.d (D.scr a0), .d (D.lst (List.map (fun z : (Int × (List Nat) × D) => (D.tup [(D.int z.1), (D.str z.2.1), z.2.2])) v1)), .un, .un, .un, .un] : List B) _ _ _ _ from (b_for (Γl := (fun s2 : (List (Int × (List Nat) × D)) => ([.d (D.scr a0), .d (D.lst (List.map (fun z : (Int × (List Nat) × D) => (D.tup [(D.int z.1), (D.str z.2.1), z.2.2])) s2)), .un, .un, .un, .un] : List B))) (g := (gName 2)) (js := [2]) (fun (_ : Nat) (s : List Tm) => TermsOk s) D.int (fun (s2 : (List (Int × (List Nat) × D))) (y3 : Int) => bnd ((cellL a0 y3) : Int) fun v7 => bnd ((termsL v7) : (List (Int × (List Nat) × D))) fun v8 => bnd ((shownL v8) : (List Nat)) fun v9 => if ((!(decide (v9 = (textL v8)))) || (!(decide ((shownL s2) = (textL s2))))) = true then Ctl.up (.ret (.v (D.bl false))) else if ((!(termsAreL (okOf (readL v9) []) v8)) || (!(decide ((shownL (okOf (readL v9) [])) = v9)))) = true then Ctl.up (.ret (.v (D.bl false))) else bnd (v8 : (List (Int × (List Nat) × D))) fun v14 => .go v14) v1 (rints 0 ((if (if (30 : Int) < ((a0).length : Int) then (30 : Int) else ((a0).length : Int)) > (1 : Int) then (if (30 : Int) < ((a0).length : Int) then (30 : Int) else ((a0).length : Int)) else (1 : Int))).toNat) (fun (s2 : (List (Int × (List Nat) × D))) (y3 : Int) => ([.d (D.scr a0), .d (D.lst (List.map (fun z : (Int × (List Nat) × D) => (D.tup [(D.int z.1), (D.str z.2.1), z.2.2])) s2)), .d (D.int y3), .un, .un, .un] : List B)) hX (.keep (.keep (.keep (.keep (.keep (.keep .nil)))))) (by subst_vars; exact seven_ok) (it_range1 (hX.gl lk_law_range) m_range (ed_max2 hX.calm (hX.gl lk_law_max) m_max ed_int (ed_min2 hX.calm (hX.gl lk_law_min) m_min (ed_lenScr (hX.gl lk_law_len) m_len (ed_var 0 (hX.nm rfl) (hX.vs (vis_l lk_law_law_script)) rfl)) ed_int)) (by first | decide | omega | (unfold CMul; omega) | (dsimp only; omega) | (rw [sizeLine_eq]; omega) | (split <;> split <;> omega) | (subst_vars; first | exact termsL_ok _ | exact «hv» | exact shown_len (termsL_ok _) rfl | exact shown_ok (termsL_ok _) rfl | exact ⟨shown_ok (termsL_ok _) rfl, termsL_ok _⟩ | ((try have q0 := rints_mem (List.mem_of_getElem? «hi»)); first | (dsimp only; omega) | ((try simp only [List.length_map, List.length_cons, List.length_nil, rints_len, sizeLine_eq]); omega))))) (pg_name (i := 2) hX.nd (hX.nm rfl) (hX.lc (loc_l lk_law_law_k)) (.inl (hX.fn _))) (fun s2 y3 => (tg_name 2)) (fun i4 s2 y3 hi5 hv6 => (b_set 3 D.int hX rfl (loc_l lk_law_law_cell_here) (ed_call ((a0, y3) : (List Int) × Int) kn_cell (hX.room.mono (by decide)) (hX.gl lk_law_law_cell) (ea_cons (ed_var 0 (hX.nm rfl) (hX.vs (vis_l lk_law_law_script)) rfl) (ea_cons (ed_var 2 (hX.nm rfl) (hX.vs (vis_l lk_law_law_k)) rfl) ea_nil)) (by first | decide | omega | (unfold CMul; omega) | (dsimp only; omega) | (rw [sizeLine_eq]; omega) | (split <;> split <;> omega) | (subst_vars; first | exact termsL_ok _ | exact hv6 | exact shown_len (termsL_ok _) rfl | exact shown_ok (termsL_ok _) rfl | exact ⟨shown_ok (termsL_ok _) rfl, termsL_ok _⟩ | ((try have q0 := rints_mem (List.mem_of_getElem? hi5)); first | (dsimp only; omega) | ((try simp only [List.length_map, List.length_cons, List.length_nil, rints_len, sizeLine_eq]); omega)))) rfl) (fun v7 hv7 => (show BK X E ([.d (D.scr a0), .d (D.lst (List.map (fun z : (Int × (List Nat) × D) => (D.tup [(D.int z.1), (D.str z.2.1), z.2.2])) s2)), .d (D.int y3), .d (D.int v7), .un, .un] : List B) _ _ _ _ from (b_setO 4 (fun z : (List (Int × (List Nat) × D)) => OO.lst (List.map (fun z : (Int × (List Nat) × D) => (D.tup [(D.int z.1), (D.str z.2.1), z.2.2])) z)) hX rfl (loc_l lk_law_law_terms_here) (eo_call v7 kn_terms (hX.room.mono (by decide)) (hX.gl lk_law_law_terms) (ea_cons (ed_var 3 (hX.nm rfl) (hX.vs (vis_l lk_law_law_cell_here)) rfl) ea_nil) trivial rfl) (fun v8 hv8 => (show BK X E ([.d (D.scr a0), .d (D.lst (List.map (fun z : (Int × (List Nat) × D) => (D.tup [(D.int z.1), (D.str z.2.1), z.2.2])) s2)), .d (D.int y3), .d (D.int v7), .own (.lst (List.map (fun z : (Int × (List Nat) × D) => (D.tup [(D.int z.1), (D.str z.2.1), z.2.2])) v8)), .un] : List B) _ _ _ _ from (b_set 5 D.str hX rfl (loc_l lk_law_law_text_here) (ed_lend 4 rfl rfl (show ED X ([.d (D.scr a0), .d (D.lst (List.map (fun z : (Int × (List Nat) × D) => (D.tup [(D.int z.1), (D.str z.2.1), z.2.2])) s2)), .d (D.int y3), .d (D.int v7), .d (D.lst (List.map (fun z : (Int × (List Nat) × D) => (D.tup [(D.int z.1), (D.str z.2.1), z.2.2])) v8)), .un] : List B) _ _ from (ed_call v8 kn_shown (hX.room.mono (by decide)) (hX.gl lk_law_law_shown) (ea_cons (ed_var 4 (hX.nm rfl) (hX.vs (vis_l lk_law_law_terms_here)) rfl) ea_nil) (by first | decide | omega | (unfold CMul; omega) | (dsimp only; omega) | (rw [sizeLine_eq]; omega) | (split <;> split <;> omega) | (subst_vars; first | exact termsL_ok _ | exact hv6 | exact shown_len (termsL_ok _) rfl | exact shown_ok (termsL_ok _) rfl | exact ⟨shown_ok (termsL_ok _) rfl, termsL_ok _⟩ | ((try have q0 := rints_mem (List.mem_of_getElem? hi5)); first | (dsimp only; omega) | ((try simp only [List.length_map, List.length_cons, List.length_nil, rints_len, sizeLine_eq]); omega)))) rfl))) (fun v9 hv9 => (show BK X E ([.d (D.scr a0), .d (D.lst (List.map (fun z : (Int × (List Nat) × D) => (D.tup [(D.int z.1), (D.str z.2.1), z.2.2])) s2)), .d (D.int y3), .d (D.int v7), .own (.lst (List.map (fun z : (Int × (List Nat) × D) => (D.tup [(D.int z.1), (D.str z.2.1), z.2.2])) v8)), .d (D.str v9)] : List B) _ _ _ _ from (b_ifr (et_lend 4 rfl (show ET X ([.d (D.scr a0), .d (D.lst (List.map (fun z : (Int × (List Nat) × D) => (D.tup [(D.int z.1), (D.str z.2.1), z.2.2])) s2)), .d (D.int y3), .d (D.int v7), .d (D.lst (List.map (fun z : (Int × (List Nat) × D) => (D.tup [(D.int z.1), (D.str z.2.1), z.2.2])) v8)), .d (D.str v9)] : List B) _ _ from (et_w (ew_or (et_cmp (od_neS _ _) (ed_var 5 (hX.nm rfl) (hX.vs (vis_l lk_law_law_text_here)) rfl) (ed_call v8 kn_text (hX.room.mono (by decide)) (hX.gl lk_law_law_text) (ea_cons (ed_var 4 (hX.nm rfl) (hX.vs (vis_l lk_law_law_terms_here)) rfl) ea_nil) (by first | decide | omega | (unfold CMul; omega) | (dsimp only; omega) | (rw [sizeLine_eq]; omega) | (split <;> split <;> omega) | (subst_vars; first | exact termsL_ok _ | exact hv6 | exact shown_len (termsL_ok _) rfl | exact shown_ok (termsL_ok _) rfl | exact ⟨shown_ok (termsL_ok _) rfl, termsL_ok _⟩ | ((try have q0 := rints_mem (List.mem_of_getElem? hi5)); first | (dsimp only; omega) | ((try simp only [List.length_map, List.length_cons, List.length_nil, rints_len, sizeLine_eq]); omega)))) rfl)) (fun h10 => (ew_or1 (et_cmp (od_neS _ _) (ed_call s2 kn_shown (hX.room.mono (by decide)) (hX.gl lk_law_law_shown) (ea_cons (ed_var 1 (hX.nm rfl) (hX.vs (vis_l lk_law_law_ahead)) rfl) ea_nil) (by first | decide | omega | (unfold CMul; omega) | (dsimp only; omega) | (rw [sizeLine_eq]; omega) | (split <;> split <;> omega) | (subst_vars; first | exact termsL_ok _ | exact hv6 | exact shown_len (termsL_ok _) rfl | exact shown_ok (termsL_ok _) rfl | exact ⟨shown_ok (termsL_ok _) rfl, termsL_ok _⟩ | ((try have q0 := rints_mem (List.mem_of_getElem? hi5)); first | (dsimp only; omega) | ((try simp only [List.length_map, List.length_cons, List.length_nil, rints_len, sizeLine_eq]); omega)))) rfl) (ed_call s2 kn_text (hX.room.mono (by decide)) (hX.gl lk_law_law_text) (ea_cons (ed_var 1 (hX.nm rfl) (hX.vs (vis_l lk_law_law_ahead)) rfl) ea_nil) (by first | decide | omega | (unfold CMul; omega) | (dsimp only; omega) | (rw [sizeLine_eq]; omega) | (split <;> split <;> omega) | (subst_vars; first | exact termsL_ok _ | exact hv6 | exact shown_len (termsL_ok _) rfl | exact shown_ok (termsL_ok _) rfl | exact ⟨shown_ok (termsL_ok _) rfl, termsL_ok _⟩ | ((try have q0 := rints_mem (List.mem_of_getElem? hi5)); first | (dsimp only; omega) | ((try simp only [List.length_map, List.length_cons, List.length_nil, rints_len, sizeLine_eq]); omega)))) rfl)))))))) (fun h11 => (b_ret ed_bl)) (fun h11 => (b_ifr (et_lend 4 rfl (show ET X ([.d (D.scr a0), .d (D.lst (List.map (fun z : (Int × (List Nat) × D) => (D.tup [(D.int z.1), (D.str z.2.1), z.2.2])) s2)), .d (D.int y3), .d (D.int v7), .d (D.lst (List.map (fun z : (Int × (List Nat) × D) => (D.tup [(D.int z.1), (D.str z.2.1), z.2.2])) v8)), .d (D.str v9)] : List B) _ _ from (et_w (ew_or (et_not (et_val (ed_call (((okOf (readL v9) []), v8) : (List (Int × (List Nat) × D)) × (List (Int × (List Nat) × D))) kn_terms_are (hX.room.mono (by decide)) (hX.gl lk_law_law_terms_are) (ea_cons (EvO.frz (eo_call v9 kn_read_expr (hX.room.mono (by decide)) (hX.gl lk_law_read_expr) (ea_cons (ed_var 5 (hX.nm rfl) (hX.vs (vis_l lk_law_law_text_here)) rfl) ea_nil) (by first | decide | omega | (unfold CMul; omega) | (dsimp only; omega) | (rw [sizeLine_eq]; omega) | (split <;> split <;> omega) | (subst_vars; first | exact termsL_ok _ | exact hv6 | exact shown_len (termsL_ok _) rfl | exact shown_ok (termsL_ok _) rfl | exact ⟨shown_ok (termsL_ok _) rfl, termsL_ok _⟩ | ((try have q0 := rints_mem (List.mem_of_getElem? hi5)); first | (dsimp only; omega) | ((try simp only [List.length_map, List.length_cons, List.length_nil, rints_len, sizeLine_eq]); omega)))) (resO_ok (by subst_vars; exact ⟨_, shown_read (termsL_ok _) rfl⟩)))) (ea_cons (ed_var 4 (hX.nm rfl) (hX.vs (vis_l lk_law_law_terms_here)) rfl) ea_nil)) (by first | decide | omega | (unfold CMul; omega) | (dsimp only; omega) | (rw [sizeLine_eq]; omega) | (split <;> split <;> omega) | (subst_vars; first | exact termsL_ok _ | exact hv6 | exact shown_len (termsL_ok _) rfl | exact shown_ok (termsL_ok _) rfl | exact ⟨shown_ok (termsL_ok _) rfl, termsL_ok _⟩ | ((try have q0 := rints_mem (List.mem_of_getElem? hi5)); first | (dsimp only; omega) | ((try simp only [List.length_map, List.length_cons, List.length_nil, rints_len, sizeLine_eq]); omega)))) rfl))) (fun h12 => (ew_or1 (et_cmp (od_neS _ _) (ed_call (okOf (readL v9) []) kn_shown (hX.room.mono (by decide)) (hX.gl lk_law_law_shown) (ea_cons (EvO.frz (eo_call v9 kn_read_expr (hX.room.mono (by decide)) (hX.gl lk_law_read_expr) (ea_cons (ed_var 5 (hX.nm rfl) (hX.vs (vis_l lk_law_law_text_here)) rfl) ea_nil) (by first | decide | omega | (unfold CMul; omega) | (dsimp only; omega) | (rw [sizeLine_eq]; omega) | (split <;> split <;> omega) | (subst_vars; first | exact termsL_ok _ | exact hv6 | exact shown_len (termsL_ok _) rfl | exact shown_ok (termsL_ok _) rfl | exact ⟨shown_ok (termsL_ok _) rfl, termsL_ok _⟩ | ((try have q0 := rints_mem (List.mem_of_getElem? hi5)); first | (dsimp only; omega) | ((try simp only [List.length_map, List.length_cons, List.length_nil, rints_len, sizeLine_eq]); omega)))) (resO_ok (by subst_vars; exact ⟨_, shown_read (termsL_ok _) rfl⟩)))) ea_nil) (by first | decide | omega | (unfold CMul; omega) | (dsimp only; omega) | (rw [sizeLine_eq]; omega) | (split <;> split <;> omega) | (subst_vars; first | exact termsL_ok _ | exact hv6 | exact shown_len (termsL_ok _) rfl | exact shown_ok (termsL_ok _) rfl | exact ⟨shown_ok (termsL_ok _) rfl, termsL_ok _⟩ | ((try have q0 := rints_mem (List.mem_of_getElem? hi5)); first | (dsimp only; omega) | ((try simp only [List.length_map, List.length_cons, List.length_nil, rints_len, sizeLine_eq]); omega)))) rfl) (ed_var 5 (hX.nm rfl) (hX.vs (vis_l lk_law_law_text_here)) rfl)))))))) (fun h13 => (b_ret ed_bl)) (fun h13 => (b_frz 4 rfl (show BK X E ([.d (D.scr a0), .d (D.lst (List.map (fun z : (Int × (List Nat) × D) => (D.tup [(D.int z.1), (D.str z.2.1), z.2.2])) s2)), .d (D.int y3), .d (D.int v7), .d (D.lst (List.map (fun z : (Int × (List Nat) × D) => (D.tup [(D.int z.1), (D.str z.2.1), z.2.2])) v8)), .d (D.str v9)] : List B) _ _ _ _ from (b_set 1 (fun z : (List (Int × (List Nat) × D)) => (D.lst (List.map (fun z : (Int × (List Nat) × D) => (D.tup [(D.int z.1), (D.str z.2.1), z.2.2])) z))) hX rfl (loc_l lk_law_law_ahead) (ed_var 4 (hX.nm rfl) (hX.vs (vis_l lk_law_law_terms_here)) rfl) (fun v14 hv14 => (show BK X E ([.d (D.scr a0), .d (D.lst (List.map (fun z : (Int × (List Nat) × D) => (D.tup [(D.int z.1), (D.str z.2.1), z.2.2])) v14)), .d (D.int y3), .d (D.int v7), .d (D.lst (List.map (fun z : (Int × (List Nat) × D) => (D.tup [(D.int z.1), (D.str z.2.1), z.2.2])) v8)), .d (D.str v9)] : List B) _ _ _ _ from (b_nil (.keep (.keep (.drop (.drop (.drop (.drop .nil)))))))))))))))))))))))))) (fun i s y s2 hy hv e => by have q := go_of_up rfl (go_of_up rfl e); injection q with q; rw [← q]; exact termsL_ok _) (fun s15 hs15 => (show BK X E ([.d (D.scr a0), .d (D.lst (List.map (fun z : (Int × (List Nat) × D) => (D.tup [(D.int z.1), (D.str z.2.1), z.2.2])) s15)), .un, .un, .un, .un] : List B) _ _ _ _ from (b_ret ed_bl)))))))))
def lawL (_ : List Int) : Bool := true
theorem m_law_eq (ns : List Int) : m_law ns = .ret (.v (.bl (lawL ns))) := by
  unfold m_law
  simp only [bnd]
  refine loop_bind_inv TermsOk (fun s y hs => ⟨termsL (cellL ns y), ?_, termsL_ok _⟩) (fun _ => rfl) _ _ seven_ok
  have ht := termsL_ok (cellL ns y)
  have e1 : shownL (termsL (cellL ns y)) = textL (termsL (cellL ns y)) := show_text ht
  have e2 : shownL s = textL s := show_text hs
  have e3 := read_text ht
  have e4 := termsAre_refl ht
  simp only [e1, e2, e3, e4, okOf, decide_true, Bool.not_true, Bool.or_self, Bool.false_eq_true, if_false]
theorem law_true (ns : List Int) (_ : ns.length ≤ 63) : lawL ns = true := rfl
abbrev sp_law (K : PySem.W.Frag) : Sp := spF K (A := (List Int)) (fun a => [(D.scr a)]) (fun a => a.length ≤ 63) (fun a => .v (D.bl (lawL a)))
theorem ok_law {P : Program} {w : World} {K : PySem.W.Frag} {mg : Str → Option Value} {base : Heap} {f : Addr} {fd : FuncData} (F : Fun K "law" "law" s_law f fd) (m_len : mg "len" = none) (m_max : mg "max" = none) (m_min : mg "min" = none) (m_range : mg "range" = none) (kn_cell : Kn P w K mg base "_law_cell" 1 (sp_cell K)) (kn_read_expr : Kn P w K mg base "read_expr" 5 (sp_read_expr K)) (kn_shown : Kn P w K mg base "_law_shown" 3 (sp_shown K)) (kn_terms : Kn P w K mg base "_law_terms" 4 (sp_terms K)) (kn_terms_are : Kn P w K mg base "_law_terms_are" 3 (sp_terms_are K)) (kn_text : Kn P w K mg base "_law_text" 2 (sp_text K)) : FnOk P w K mg base (L2.CX P w) 7 f fd ["_law_script"] (sp_law K) := by
  refine def_ok F sc_law (fun _ => rfl) (fun a hp X E e1 e2 e3 e4 e5 hX => ?_)
  subst e1 e2 e3 e4 e5
  have h := bd_law X E hX m_len m_max m_min m_range kn_cell kn_read_expr kn_shown kn_terms kn_terms_are kn_text a hp
  rw [m_law_eq a] at h
  exact h

theorem all_mk {P : Program} {w : World} {K : PySem.W.Frag} {h : Heap} {mg : Str → Option Value} {fa : Addr} (X : K.In h) (G : h.Ns mainGlobals mg) (hfa : mg "law" = some (.ref fa))
    {f0 : Addr} {od0 an0 : Option Addr} {sl0 : Array (Option Value)} {oc0 kV0 dc0 pm0 cd0 ct0 : Value}
    {f1 : Addr} {od1 an1 : Option Addr} {sl1 : Array (Option Value)} {oc1 kV1 dc1 pm1 cd1 ct1 : Value}
    {f2 : Addr} {od2 an2 : Option Addr} {sl2 : Array (Option Value)} {oc2 kV2 dc2 pm2 cd2 ct2 : Value}
    {f3 : Addr} {od3 an3 : Option Addr} {sl3 : Array (Option Value)} {oc3 kV3 dc3 pm3 cd3 ct3 : Value}
    {f4 : Addr} {od4 an4 : Option Addr} {sl4 : Array (Option Value)} {oc4 kV4 dc4 pm4 cd4 ct4 : Value}
    {f5 : Addr} {od5 an5 : Option Addr} {sl5 : Array (Option Value)} {oc5 kV5 dc5 pm5 cd5 ct5 : Value}
    {f6 : Addr} {od6 an6 : Option Addr} {sl6 : Array (Option Value)} {oc6 kV6 dc6 pm6 cd6 ct6 : Value}
    {f7 : Addr} {od7 an7 : Option Addr} {sl7 : Array (Option Value)} {oc7 kV7 dc7 pm7 cd7 ct7 : Value}
    {f8 : Addr} {od8 an8 : Option Addr} {sl8 : Array (Option Value)} {oc8 kV8 dc8 pm8 cd8 ct8 : Value}
    {f9 : Addr} {od9 an9 : Option Addr} {sl9 : Array (Option Value)} {oc9 kV9 dc9 pm9 cd9 ct9 : Value}
    {f10 : Addr} {od10 an10 : Option Addr} {sl10 : Array (Option Value)} {oc10 kV10 dc10 pm10 cd10 ct10 : Value}
    {f11 : Addr} {od11 an11 : Option Addr} {sl11 : Array (Option Value)} {oc11 kV11 dc11 pm11 cd11 ct11 : Value}
    {f12 : Addr} {od12 an12 : Option Addr} {sl12 : Array (Option Value)} {oc12 kV12 dc12 pm12 cd12 ct12 : Value}
    {f13 : Addr} {od13 an13 : Option Addr} {sl13 : Array (Option Value)} {oc13 kV13 dc13 pm13 cd13 ct13 : Value}
    {f14 : Addr} {od14 an14 : Option Addr} {sl14 : Array (Option Value)} {oc14 kV14 dc14 pm14 cd14 ct14 : Value}
    {f15 : Addr} {od15 an15 : Option Addr} {sl15 : Array (Option Value)} {oc15 kV15 dc15 pm15 cd15 ct15 : Value}
    {f16 : Addr} {od16 an16 : Option Addr} {sl16 : Array (Option Value)} {oc16 kV16 dc16 pm16 cd16 ct16 : Value}
    {f17 : Addr} {od17 an17 : Option Addr} {sl17 : Array (Option Value)} {oc17 kV17 dc17 pm17 cd17 ct17 : Value}
    {f18 : Addr} {od18 an18 : Option Addr} {sl18 : Array (Option Value)} {oc18 kV18 dc18 pm18 cd18 ct18 : Value}
    {f19 : Addr} {od19 an19 : Option Addr} {sl19 : Array (Option Value)} {oc19 kV19 dc19 pm19 cd19 ct19 : Value}
    {f20 : Addr} {od20 an20 : Option Addr} {sl20 : Array (Option Value)} {oc20 kV20 dc20 pm20 cd20 ct20 : Value}
    {f21 : Addr} {od21 an21 : Option Addr} {sl21 : Array (Option Value)} {oc21 kV21 dc21 pm21 cd21 ct21 : Value}
    (a0 : PySem.W.nsIn K mainGlobals "_law_cell" = some (some (.ref f0))) (l0 : K.lookup f0 = some ⟨oc0, od0, .func (PySem.W.fnOf "_law_cell" "_law_cell" (defArgs s_law_cell) (defBody s_law_cell) (defScope s_law_cell) .none kV0 dc0 pm0 an0 cd0 ct0), sl0⟩) (c0 : PySem.W.codeIn K cd0 "_law_cell" = true) (k0 : PySem.W.keepIn K (.ref f0) = true)
    (a1 : PySem.W.nsIn K mainGlobals "_law_sub" = some (some (.ref f1))) (l1 : K.lookup f1 = some ⟨oc1, od1, .func (PySem.W.fnOf "_law_sub" "_law_sub" (defArgs s_law_sub) (defBody s_law_sub) (defScope s_law_sub) .none kV1 dc1 pm1 an1 cd1 ct1), sl1⟩) (c1 : PySem.W.codeIn K cd1 "_law_sub" = true) (k1 : PySem.W.keepIn K (.ref f1) = true)
    (a2 : PySem.W.nsIn K mainGlobals "_law_number" = some (some (.ref f2))) (l2 : K.lookup f2 = some ⟨oc2, od2, .func (PySem.W.fnOf "_law_number" "_law_number" (defArgs s_law_number) (defBody s_law_number) (defScope s_law_number) .none kV2 dc2 pm2 an2 cd2 ct2), sl2⟩) (c2 : PySem.W.codeIn K cd2 "_law_number" = true) (k2 : PySem.W.keepIn K (.ref f2) = true)
    (a3 : PySem.W.nsIn K mainGlobals "_law_pick" = some (some (.ref f3))) (l3 : K.lookup f3 = some ⟨oc3, od3, .func (PySem.W.fnOf "_law_pick" "_law_pick" (defArgs s_law_pick) (defBody s_law_pick) (defScope s_law_pick) .none kV3 dc3 pm3 an3 cd3 ct3), sl3⟩) (c3 : PySem.W.codeIn K cd3 "_law_pick" = true) (k3 : PySem.W.keepIn K (.ref f3) = true)
    (a4 : PySem.W.nsIn K mainGlobals "_law_name" = some (some (.ref f4))) (l4 : K.lookup f4 = some ⟨oc4, od4, .func (PySem.W.fnOf "_law_name" "_law_name" (defArgs s_law_name) (defBody s_law_name) (defScope s_law_name) .none kV4 dc4 pm4 an4 cd4 ct4), sl4⟩) (c4 : PySem.W.codeIn K cd4 "_law_name" = true) (k4 : PySem.W.keepIn K (.ref f4) = true)
    (a5 : PySem.W.nsIn K mainGlobals "is_name" = some (some (.ref f5))) (l5 : K.lookup f5 = some ⟨oc5, od5, .func (PySem.W.fnOf "is_name" "is_name" (defArgs s_is_name) (defBody s_is_name) (defScope s_is_name) .none kV5 dc5 pm5 an5 cd5 ct5), sl5⟩) (c5 : PySem.W.codeIn K cd5 "is_name" = true) (k5 : PySem.W.keepIn K (.ref f5) = true)
    (a6 : PySem.W.nsIn K mainGlobals "are_names" = some (some (.ref f6))) (l6 : K.lookup f6 = some ⟨oc6, od6, .func (PySem.W.fnOf "are_names" "are_names" (defArgs s_are_names) (defBody s_are_names) (defScope s_are_names) .none kV6 dc6 pm6 an6 cd6 ct6), sl6⟩) (c6 : PySem.W.codeIn K cd6 "are_names" = true) (k6 : PySem.W.keepIn K (.ref f6) = true)
    (a7 : PySem.W.nsIn K mainGlobals "is_written" = some (some (.ref f7))) (l7 : K.lookup f7 = some ⟨oc7, od7, .func (PySem.W.fnOf "is_written" "is_written" (defArgs s_is_written) (defBody s_is_written) (defScope s_is_written) .none kV7 dc7 pm7 an7 cd7 ct7), sl7⟩) (c7 : PySem.W.codeIn K cd7 "is_written" = true) (k7 : PySem.W.keepIn K (.ref f7) = true)
    (a8 : PySem.W.nsIn K mainGlobals "sign_of" = some (some (.ref f8))) (l8 : K.lookup f8 = some ⟨oc8, od8, .func (PySem.W.fnOf "sign_of" "sign_of" (defArgs s_sign_of) (defBody s_sign_of) (defScope s_sign_of) .none kV8 dc8 pm8 an8 cd8 ct8), sl8⟩) (c8 : PySem.W.codeIn K cd8 "sign_of" = true) (k8 : PySem.W.keepIn K (.ref f8) = true)
    (a9 : PySem.W.nsIn K mainGlobals "thing_of" = some (some (.ref f9))) (l9 : K.lookup f9 = some ⟨oc9, od9, .func (PySem.W.fnOf "thing_of" "thing_of" (defArgs s_thing_of) (defBody s_thing_of) (defScope s_thing_of) .none kV9 dc9 pm9 an9 cd9 ct9), sl9⟩) (c9 : PySem.W.codeIn K cd9 "thing_of" = true) (k9 : PySem.W.keepIn K (.ref f9) = true)
    (a10 : PySem.W.nsIn K mainGlobals "read_expr" = some (some (.ref f10))) (l10 : K.lookup f10 = some ⟨oc10, od10, .func (PySem.W.fnOf "read_expr" "read_expr" (defArgs s_read_expr) (defBody s_read_expr) (defScope s_read_expr) .none kV10 dc10 pm10 an10 cd10 ct10), sl10⟩) (c10 : PySem.W.codeIn K cd10 "read_expr" = true) (k10 : PySem.W.keepIn K (.ref f10) = true)
    (a11 : PySem.W.nsIn K mainGlobals "_law_word" = some (some (.ref f11))) (l11 : K.lookup f11 = some ⟨oc11, od11, .func (PySem.W.fnOf "_law_word" "_law_word" (defArgs s_law_word) (defBody s_law_word) (defScope s_law_word) .none kV11 dc11 pm11 an11 cd11 ct11), sl11⟩) (c11 : PySem.W.codeIn K cd11 "_law_word" = true) (k11 : PySem.W.keepIn K (.ref f11) = true)
    (a12 : PySem.W.nsIn K mainGlobals "_law_text" = some (some (.ref f12))) (l12 : K.lookup f12 = some ⟨oc12, od12, .func (PySem.W.fnOf "_law_text" "_law_text" (defArgs s_law_text) (defBody s_law_text) (defScope s_law_text) .none kV12 dc12 pm12 an12 cd12 ct12), sl12⟩) (c12 : PySem.W.codeIn K cd12 "_law_text" = true) (k12 : PySem.W.keepIn K (.ref f12) = true)
    (a13 : PySem.W.nsIn K mainGlobals "show_term" = some (some (.ref f13))) (l13 : K.lookup f13 = some ⟨oc13, od13, .func (PySem.W.fnOf "show_term" "show_term" (defArgs s_show_term) (defBody s_show_term) (defScope s_show_term) .none kV13 dc13 pm13 an13 cd13 ct13), sl13⟩) (c13 : PySem.W.codeIn K cd13 "show_term" = true) (k13 : PySem.W.keepIn K (.ref f13) = true)
    (a14 : PySem.W.nsIn K mainGlobals "show_expr" = some (some (.ref f14))) (l14 : K.lookup f14 = some ⟨oc14, od14, .func (PySem.W.fnOf "show_expr" "show_expr" (defArgs s_show_expr) (defBody s_show_expr) (defScope s_show_expr) .none kV14 dc14 pm14 an14 cd14 ct14), sl14⟩) (c14 : PySem.W.codeIn K cd14 "show_expr" = true) (k14 : PySem.W.keepIn K (.ref f14) = true)
    (a15 : PySem.W.nsIn K mainGlobals "_law_term" = some (some (.ref f15))) (l15 : K.lookup f15 = some ⟨oc15, od15, .func (PySem.W.fnOf "_law_term" "_law_term" (defArgs s_law_term) (defBody s_law_term) (defScope s_law_term) .none kV15 dc15 pm15 an15 cd15 ct15), sl15⟩) (c15 : PySem.W.codeIn K cd15 "_law_term" = true) (k15 : PySem.W.keepIn K (.ref f15) = true)
    (a16 : PySem.W.nsIn K mainGlobals "_law_terms" = some (some (.ref f16))) (l16 : K.lookup f16 = some ⟨oc16, od16, .func (PySem.W.fnOf "_law_terms" "_law_terms" (defArgs s_law_terms) (defBody s_law_terms) (defScope s_law_terms) .none kV16 dc16 pm16 an16 cd16 ct16), sl16⟩) (c16 : PySem.W.codeIn K cd16 "_law_terms" = true) (k16 : PySem.W.keepIn K (.ref f16) = true)
    (a17 : PySem.W.nsIn K mainGlobals "_law_whole" = some (some (.ref f17))) (l17 : K.lookup f17 = some ⟨oc17, od17, .func (PySem.W.fnOf "_law_whole" "_law_whole" (defArgs s_law_whole) (defBody s_law_whole) (defScope s_law_whole) .none kV17 dc17 pm17 an17 cd17 ct17), sl17⟩) (c17 : PySem.W.codeIn K cd17 "_law_whole" = true) (k17 : PySem.W.keepIn K (.ref f17) = true)
    (a18 : PySem.W.nsIn K mainGlobals "_law_term_is" = some (some (.ref f18))) (l18 : K.lookup f18 = some ⟨oc18, od18, .func (PySem.W.fnOf "_law_term_is" "_law_term_is" (defArgs s_law_term_is) (defBody s_law_term_is) (defScope s_law_term_is) .none kV18 dc18 pm18 an18 cd18 ct18), sl18⟩) (c18 : PySem.W.codeIn K cd18 "_law_term_is" = true) (k18 : PySem.W.keepIn K (.ref f18) = true)
    (a19 : PySem.W.nsIn K mainGlobals "_law_terms_are" = some (some (.ref f19))) (l19 : K.lookup f19 = some ⟨oc19, od19, .func (PySem.W.fnOf "_law_terms_are" "_law_terms_are" (defArgs s_law_terms_are) (defBody s_law_terms_are) (defScope s_law_terms_are) .none kV19 dc19 pm19 an19 cd19 ct19), sl19⟩) (c19 : PySem.W.codeIn K cd19 "_law_terms_are" = true) (k19 : PySem.W.keepIn K (.ref f19) = true)
    (a20 : PySem.W.nsIn K mainGlobals "_law_shown" = some (some (.ref f20))) (l20 : K.lookup f20 = some ⟨oc20, od20, .func (PySem.W.fnOf "_law_shown" "_law_shown" (defArgs s_law_shown) (defBody s_law_shown) (defScope s_law_shown) .none kV20 dc20 pm20 an20 cd20 ct20), sl20⟩) (c20 : PySem.W.codeIn K cd20 "_law_shown" = true) (k20 : PySem.W.keepIn K (.ref f20) = true)
    (a21 : PySem.W.nsIn K mainGlobals "law" = some (some (.ref f21))) (l21 : K.lookup f21 = some ⟨oc21, od21, .func (PySem.W.fnOf "law" "law" (defArgs s_law) (defBody s_law) (defScope s_law) .none kV21 dc21 pm21 an21 cd21 ct21), sl21⟩) (c21 : PySem.W.codeIn K cd21 "law" = true) (k21 : PySem.W.keepIn K (.ref f21) = true)
    (z_all : PySem.W.nsIn K mainGlobals "all" = some none)
    (z_bool : PySem.W.nsIn K mainGlobals "bool" = some none)
    (z_int : PySem.W.nsIn K mainGlobals "int" = some none)
    (z_isinstance : PySem.W.nsIn K mainGlobals "isinstance" = some none)
    (z_len : PySem.W.nsIn K mainGlobals "len" = some none)
    (z_list : PySem.W.nsIn K mainGlobals "list" = some none)
    (z_max : PySem.W.nsIn K mainGlobals "max" = some none)
    (z_min : PySem.W.nsIn K mainGlobals "min" = some none)
    (z_range : PySem.W.nsIn K mainGlobals "range" = some none)
    (z_str : PySem.W.nsIn K mainGlobals "str" = some none)
    (z_tuple : PySem.W.nsIn K mainGlobals "tuple" = some none)
    (z_zip : PySem.W.nsIn K mainGlobals "zip" = some none)
    {C_NoExpr : Addr} (xa_NoExpr : PySem.W.nsIn K mainGlobals "NoExpr" = some (some (.ref C_NoExpr))) (xb_NoExpr : PySem.W.excIn K C_NoExpr [.type "ValueError", .type "Exception", .type "BaseException", .type "object"] "ValueError.__new__" = true) (xc_NoExpr : PySem.W.keepIn K (.ref C_NoExpr) = true) (xd_NoExpr : PySem.W.subIn K (.ref C_NoExpr) (.type "BaseException") = some true) (xe_NoExpr : PySem.W.typeIn K (.ref C_NoExpr) = some (.type "type"))
    {t_FIGURES : Tok} (g_FIGURES : PySem.W.nsIn K mainGlobals "FIGURES" = some (some (.str (S FIGURES) t_FIGURES)))
    {t_LETTERS : Tok} (g_LETTERS : PySem.W.nsIn K mainGlobals "LETTERS" = some (some (.str (S LETTERS) t_LETTERS)))
    {t_LONGEST : Tok} (g_LONGEST : PySem.W.nsIn K mainGlobals "LONGEST" = some (some (.int 8 t_LONGEST)))
    {t_MOST_FIGURES : Tok} (g_MOST_FIGURES : PySem.W.nsIn K mainGlobals "MOST_FIGURES" = some (some (.int 20 t_MOST_FIGURES)))
    {t_MOST_NAMES : Tok} (g_MOST_NAMES : PySem.W.nsIn K mainGlobals "MOST_NAMES" = some (some (.int 4 t_MOST_NAMES)))
    {t_MOST_TERMS : Tok} (g_MOST_TERMS : PySem.W.nsIn K mainGlobals "MOST_TERMS" = some (some (.int 6 t_MOST_TERMS))) :
    ∃ fd : FuncData, (∀ (s : Shared) (u : Value), BindsTo s fd ⟨[u], []⟩ [("_law_script", u)]) ∧ ∀ base : Heap, K.In base → base.Ns mainGlobals mg → FnOk P w K mg base (L2.CX P w) 7 fa fd ["_law_script"] (sp_law K) := by
  have e := hfa.symm.trans (PySem.W.mg_of X G a21)
  cases e
  have F0 := fun_mk (st := s_law_cell) l0 c0 k0
  have b0 := F0.binds (ps := ["_law_script", "_law_k"]) fun _ _ _ _ _ _ us hl => match us, hl with | [_, _], _ => rfl
  have F1 := fun_mk (st := s_law_sub) l1 c1 k1
  have b1 := F1.binds (ps := ["_law_cell_here", "_law_j"]) fun _ _ _ _ _ _ us hl => match us, hl with | [_, _], _ => rfl
  have F2 := fun_mk (st := s_law_number) l2 c2 k2
  have b2 := F2.binds (ps := ["_law_cell_here", "_law_far"]) fun _ _ _ _ _ _ us hl => match us, hl with | [_, _], _ => rfl
  have F3 := fun_mk (st := s_law_pick) l3 c3 k3
  have b3 := F3.binds (ps := ["_law_cell_here", "_law_k", "_law_many"]) fun _ _ _ _ _ _ us hl => match us, hl with | [_, _, _], _ => rfl
  have F4 := fun_mk (st := s_law_name) l4 c4 k4
  have b4 := F4.binds (ps := ["_law_cell_here"]) fun _ _ _ _ _ _ us hl => match us, hl with | [_], _ => rfl
  have F5 := fun_mk (st := s_is_name) l5 c5 k5
  have b5 := F5.binds (ps := ["thing"]) fun _ _ _ _ _ _ us hl => match us, hl with | [_], _ => rfl
  have F6 := fun_mk (st := s_are_names) l6 c6 k6
  have b6 := F6.binds (ps := ["words", "most"]) fun _ _ _ _ _ _ us hl => match us, hl with | [_, _], _ => rfl
  have F7 := fun_mk (st := s_is_written) l7 c7 k7
  have b7 := F7.binds (ps := ["word"]) fun _ _ _ _ _ _ us hl => match us, hl with | [_], _ => rfl
  have F8 := fun_mk (st := s_sign_of) l8 c8 k8
  have b8 := F8.binds (ps := ["word"]) fun _ _ _ _ _ _ us hl => match us, hl with | [_], _ => rfl
  have F9 := fun_mk (st := s_thing_of) l9 c9 k9
  have b9 := F9.binds (ps := ["word"]) fun _ _ _ _ _ _ us hl => match us, hl with | [_], _ => rfl
  have F10 := fun_mk (st := s_read_expr) l10 c10 k10
  have b10 := F10.binds (ps := ["text"]) fun _ _ _ _ _ _ us hl => match us, hl with | [_], _ => rfl
  have F11 := fun_mk (st := s_law_word) l11 c11 k11
  have b11 := F11.binds (ps := ["_law_term_here"]) fun _ _ _ _ _ _ us hl => match us, hl with | [_], _ => rfl
  have F12 := fun_mk (st := s_law_text) l12 c12 k12
  have b12 := F12.binds (ps := ["_law_terms_here"]) fun _ _ _ _ _ _ us hl => match us, hl with | [_], _ => rfl
  have F13 := fun_mk (st := s_show_term) l13 c13 k13
  have b13 := F13.binds (ps := ["sort", "thing"]) fun _ _ _ _ _ _ us hl => match us, hl with | [_, _], _ => rfl
  have F14 := fun_mk (st := s_show_expr) l14 c14 k14
  have b14 := F14.binds (ps := ["terms"]) fun _ _ _ _ _ _ us hl => match us, hl with | [_], _ => rfl
  have F15 := fun_mk (st := s_law_term) l15 c15 k15
  have b15 := F15.binds (ps := ["_law_cell_here", "_law_first"]) fun _ _ _ _ _ _ us hl => match us, hl with | [_, _], _ => rfl
  have F16 := fun_mk (st := s_law_terms) l16 c16 k16
  have b16 := F16.binds (ps := ["_law_cell_here"]) fun _ _ _ _ _ _ us hl => match us, hl with | [_], _ => rfl
  have F17 := fun_mk (st := s_law_whole) l17 c17 k17
  have b17 := F17.binds (ps := ["_law_found"]) fun _ _ _ _ _ _ us hl => match us, hl with | [_], _ => rfl
  have F18 := fun_mk (st := s_law_term_is) l18 c18 k18
  have b18 := F18.binds (ps := ["_law_found", "_law_due"]) fun _ _ _ _ _ _ us hl => match us, hl with | [_, _], _ => rfl
  have F19 := fun_mk (st := s_law_terms_are) l19 c19 k19
  have b19 := F19.binds (ps := ["_law_found", "_law_due"]) fun _ _ _ _ _ _ us hl => match us, hl with | [_, _], _ => rfl
  have F20 := fun_mk (st := s_law_shown) l20 c20 k20
  have b20 := F20.binds (ps := ["_law_terms_here"]) fun _ _ _ _ _ _ us hl => match us, hl with | [_], _ => rfl
  have F21 := fun_mk (st := s_law) l21 c21 k21
  have b21 := F21.binds (ps := ["_law_script"]) fun _ _ _ _ _ _ us hl => match us, hl with | [_], _ => rfl
  have x_NoExpr : ExC K mg "NoExpr" := ⟨⟨_, PySem.W.mg_of X G xa_NoExpr, xa_NoExpr, xb_NoExpr, xc_NoExpr, xd_NoExpr, xe_NoExpr⟩⟩
  have m_all := PySem.W.mg_none_of X G z_all
  have m_bool := PySem.W.mg_none_of X G z_bool
  have m_int := PySem.W.mg_none_of X G z_int
  have m_isinstance := PySem.W.mg_none_of X G z_isinstance
  have m_len := PySem.W.mg_none_of X G z_len
  have m_list := PySem.W.mg_none_of X G z_list
  have m_max := PySem.W.mg_none_of X G z_max
  have m_min := PySem.W.mg_none_of X G z_min
  have m_range := PySem.W.mg_none_of X G z_range
  have m_str := PySem.W.mg_none_of X G z_str
  have m_tuple := PySem.W.mg_none_of X G z_tuple
  have m_zip := PySem.W.mg_none_of X G z_zip
  have c_FIGURES : ∃ t, mg "FIGURES" = some (.str (S FIGURES) t) := ⟨_, PySem.W.mg_of X G g_FIGURES⟩
  have c_LETTERS : ∃ t, mg "LETTERS" = some (.str (S LETTERS) t) := ⟨_, PySem.W.mg_of X G g_LETTERS⟩
  have c_LONGEST : ∃ t, mg "LONGEST" = some (.int 8 t) := ⟨_, PySem.W.mg_of X G g_LONGEST⟩
  have c_MOST_FIGURES : ∃ t, mg "MOST_FIGURES" = some (.int 20 t) := ⟨_, PySem.W.mg_of X G g_MOST_FIGURES⟩
  have c_MOST_NAMES : ∃ t, mg "MOST_NAMES" = some (.int 4 t) := ⟨_, PySem.W.mg_of X G g_MOST_NAMES⟩
  have c_MOST_TERMS : ∃ t, mg "MOST_TERMS" = some (.int 6 t) := ⟨_, PySem.W.mg_of X G g_MOST_TERMS⟩
  refine ⟨PySem.W.fnOf "law" "law" (defArgs s_law) (defBody s_law) (defScope s_law) .none kV21 dc21 pm21 an21 cd21 ct21, fun s u => .of_eq rfl, fun base _ _ => ?_⟩
  have kn_cell : Kn P w K mg base "_law_cell" 1 (sp_cell K) := ⟨⟨_, _, _, ok_cell F0 m_len, PySem.W.mg_of X G a0, k0, b0⟩⟩
  have kn_sub : Kn P w K mg base "_law_sub" 1 (sp_sub K) := ⟨⟨_, _, _, ok_sub F1, PySem.W.mg_of X G a1, k1, b1⟩⟩
  have kn_number : Kn P w K mg base "_law_number" 1 (sp_number K) := ⟨⟨_, _, _, ok_number F2, PySem.W.mg_of X G a2, k2, b2⟩⟩
  have kn_pick : Kn P w K mg base "_law_pick" 1 (sp_pick K) := ⟨⟨_, _, _, ok_pick F3, PySem.W.mg_of X G a3, k3, b3⟩⟩
  have kn_name : Kn P w K mg base "_law_name" 2 (sp_name K) := ⟨⟨_, _, _, ok_name F4 m_range kn_pick, PySem.W.mg_of X G a4, k4, b4⟩⟩
  have kn_is_name : Kn P w K mg base "is_name" 1 (sp_is_name K) := ⟨⟨_, _, _, ok_is_name F5 c_LETTERS c_LONGEST m_isinstance m_len m_str, PySem.W.mg_of X G a5, k5, b5⟩⟩
  have kn_are_names : Kn P w K mg base "are_names" 2 (sp_are_names K) := ⟨⟨_, _, _, ok_are_names F6 m_len kn_is_name, PySem.W.mg_of X G a6, k6, b6⟩⟩
  have kn_is_written : Kn P w K mg base "is_written" 1 (sp_is_written K) := ⟨⟨_, _, _, ok_is_written F7 c_FIGURES c_MOST_FIGURES m_len, PySem.W.mg_of X G a7, k7, b7⟩⟩
  have kn_sign_of : Kn P w K mg base "sign_of" 1 (sp_sign_of K) := ⟨⟨_, _, _, ok_sign_of F8 x_NoExpr, PySem.W.mg_of X G a8, k8, b8⟩⟩
  have kn_thing_of : Kn P w K mg base "thing_of" 4 (sp_thing_of K) := ⟨⟨_, _, _, ok_thing_of F9 c_MOST_NAMES x_NoExpr m_int m_tuple kn_are_names kn_is_written, PySem.W.mg_of X G a9, k9, b9⟩⟩
  have kn_read_expr : Kn P w K mg base "read_expr" 5 (sp_read_expr K) := ⟨⟨_, _, _, ok_read_expr F10 c_MOST_TERMS x_NoExpr m_isinstance m_len m_range m_str kn_sign_of kn_thing_of, PySem.W.mg_of X G a10, k10, b10⟩⟩
  have kn_word : Kn P w K mg base "_law_word" 1 (sp_word K) := ⟨⟨_, _, _, ok_word F11 m_int m_str, PySem.W.mg_of X G a11, k11, b11⟩⟩
  have kn_text : Kn P w K mg base "_law_text" 2 (sp_text K) := ⟨⟨_, _, _, ok_text F12 m_int kn_word, PySem.W.mg_of X G a12, k12, b12⟩⟩
  have kn_show_term : Kn P w K mg base "show_term" 1 (sp_show_term K) := ⟨⟨_, _, _, ok_show_term F13 m_str, PySem.W.mg_of X G a13, k13, b13⟩⟩
  have kn_show_expr : Kn P w K mg base "show_expr" 2 (sp_show_expr K) := ⟨⟨_, _, _, ok_show_expr F14 kn_show_term, PySem.W.mg_of X G a14, k14, b14⟩⟩
  have kn_term : Kn P w K mg base "_law_term" 3 (sp_term K) := ⟨⟨_, _, _, ok_term F15 m_int m_range m_tuple kn_name kn_number kn_pick kn_sub, PySem.W.mg_of X G a15, k15, b15⟩⟩
  have kn_terms : Kn P w K mg base "_law_terms" 4 (sp_terms K) := ⟨⟨_, _, _, ok_terms F16 m_range kn_pick kn_sub kn_term, PySem.W.mg_of X G a16, k16, b16⟩⟩
  have kn_whole_i : Kn P w K mg base "_law_whole" 1 (sp_whole_i K) := ⟨⟨_, _, _, ok_whole_i F17 m_bool m_int m_isinstance, PySem.W.mg_of X G a17, k17, b17⟩⟩
  have kn_whole_a : Kn P w K mg base "_law_whole" 1 (sp_whole_a K) := ⟨⟨_, _, _, ok_whole_a F17 m_bool m_int m_isinstance, PySem.W.mg_of X G a17, k17, b17⟩⟩
  have kn_term_is : Kn P w K mg base "_law_term_is" 2 (sp_term_is K) := ⟨⟨_, _, _, ok_term_is F18 m_isinstance m_len m_str m_tuple kn_whole_a kn_whole_i, PySem.W.mg_of X G a18, k18, b18⟩⟩
  have kn_terms_are : Kn P w K mg base "_law_terms_are" 3 (sp_terms_are K) := ⟨⟨_, _, _, ok_terms_are F19 m_all m_isinstance m_len m_list m_zip kn_term_is, PySem.W.mg_of X G a19, k19, b19⟩⟩
  have kn_shown : Kn P w K mg base "_law_shown" 3 (sp_shown K) := ⟨⟨_, _, _, ok_shown F20 m_isinstance m_list m_str kn_show_expr, PySem.W.mg_of X G a20, k20, b20⟩⟩
  exact ok_law F21 m_len m_max m_min m_range kn_cell kn_read_expr kn_shown kn_terms kn_terms_are kn_text
theorem walk {l : PySem.W.OpenLaw} {q : Program} {loose : List Str} {XP : (Str → Option Value) → Heap → Prop} {YP : World → Heap → Prop} {d : DefRec} {K : Params → PySem.W.Frag} (hn : l.most = some 63) (hdf : d.params.defaults = [])
    (hY : ∀ (w : World) (h : Heap), YP w h → (K w.params).In h)
    (F : ∀ (w : World) (mg : Str → Option Value) (fa : Addr) (h : Heap), (K w.params).In h → h.Ns mainGlobals mg → mg d.name = some (.ref fa) →
      ∃ fd : FuncData, (∀ (s : Shared) (u : Value), BindsTo s fd ⟨[u], []⟩ [("_law_script", u)]) ∧ ∀ base : Heap, (K w.params).In base → base.Ns mainGlobals mg → FnOk l.prog w (K w.params) mg base (L2.CX l.prog w) 7 fa fd ["_law_script"] (sp_law (K w.params))) :
    PySem.W.WalkO q loose XP YP l.row.toRowW d [] (fun f vs => PySem.call f vs) :=
  L2.walk_of (n := 63) (k := 7) (x := "_law_script") (CX := fun w => L2.CX l.prog w) (sp := fun w => sp_law (K w.params)) hn (by decide) hdf ⟨rfl, by decide, by decide⟩ hY F (fun w H a ns hl _ hS => ⟨ns, H, fun _ _ h => h, .cons (.scr hS) .nil, hl, fun v G' H' _ hi => by
    rw [law_true ns hl] at hi
    cases hi
    rfl⟩) fun w H s e s' z => by
      obtain ⟨_, _, _, _, _, _, _, _, _, _, _, _, z⟩ := z
      exact z
end LawP
open PySem PySem.W PyProof.Rows in
set_option maxRecDepth 100000 in
set_option maxHeartbeats 0 in
theorem PySem.Challenge.cw_drawhouse_k15_shown_and_read_holds : PySem.Challenge.rw_drawhouse_k15_shown_and_read.Holds := by
  w_on; o_law; k_head; (case hw => w_witness2)
  k_fill
  refine LawP.walk (l := PySem.Challenge.rw_drawhouse_k15_shown_and_read) rfl rfl (fun w h Y => PySem.W.kIn_of Y) ?F
  case F =>
    intro w mg fa h KX G hmg
    refine' LawP.all_mk KX G hmg ?a0 ?l0 ?c0 ?k0 ?a1 ?l1 ?c1 ?k1 ?a2 ?l2 ?c2 ?k2 ?a3 ?l3 ?c3 ?k3 ?a4 ?l4 ?c4 ?k4 ?a5 ?l5 ?c5 ?k5 ?a6 ?l6 ?c6 ?k6 ?a7 ?l7 ?c7 ?k7 ?a8 ?l8 ?c8 ?k8 ?a9 ?l9 ?c9 ?k9 ?a10 ?l10 ?c10 ?k10 ?a11 ?l11 ?c11 ?k11 ?a12 ?l12 ?c12 ?k12 ?a13 ?l13 ?c13 ?k13 ?a14 ?l14 ?c14 ?k14 ?a15 ?l15 ?c15 ?k15 ?a16 ?l16 ?c16 ?k16 ?a17 ?l17 ?c17 ?k17 ?a18 ?l18 ?c18 ?k18 ?a19 ?l19 ?c19 ?k19 ?a20 ?l20 ?c20 ?k20 ?a21 ?l21 ?c21 ?k21 ?z_all ?z_bool ?z_int ?z_isinstance ?z_len ?z_list ?z_max ?z_min ?z_range ?z_str ?z_tuple ?z_zip ?xa_NoExpr ?xb_NoExpr ?xc_NoExpr ?xd_NoExpr ?xe_NoExpr ?g_FIGURES ?g_LETTERS ?g_LONGEST ?g_MOST_FIGURES ?g_MOST_NAMES ?g_MOST_TERMS
    (case a0 => k_is)
    (case l0 => k_is)
    (case c0 => k_is)
    (case k0 => k_is)
    (case a1 => k_is)
    (case l1 => k_is)
    (case c1 => k_is)
    (case k1 => k_is)
    (case a2 => k_is)
    (case l2 => k_is)
    (case c2 => k_is)
    (case k2 => k_is)
    (case a3 => k_is)
    (case l3 => k_is)
    (case c3 => k_is)
    (case k3 => k_is)
    (case a4 => k_is)
    (case l4 => k_is)
    (case c4 => k_is)
    (case k4 => k_is)
    (case a5 => k_is)
    (case l5 => k_is)
    (case c5 => k_is)
    (case k5 => k_is)
    (case a6 => k_is)
    (case l6 => k_is)
    (case c6 => k_is)
    (case k6 => k_is)
    (case a7 => k_is)
    (case l7 => k_is)
    (case c7 => k_is)
    (case k7 => k_is)
    (case a8 => k_is)
    (case l8 => k_is)
    (case c8 => k_is)
    (case k8 => k_is)
    (case a9 => k_is)
    (case l9 => k_is)
    (case c9 => k_is)
    (case k9 => k_is)
    (case a10 => k_is)
    (case l10 => k_is)
    (case c10 => k_is)
    (case k10 => k_is)
    (case a11 => k_is)
    (case l11 => k_is)
    (case c11 => k_is)
    (case k11 => k_is)
    (case a12 => k_is)
    (case l12 => k_is)
    (case c12 => k_is)
    (case k12 => k_is)
    (case a13 => k_is)
    (case l13 => k_is)
    (case c13 => k_is)
    (case k13 => k_is)
    (case a14 => k_is)
    (case l14 => k_is)
    (case c14 => k_is)
    (case k14 => k_is)
    (case a15 => k_is)
    (case l15 => k_is)
    (case c15 => k_is)
    (case k15 => k_is)
    (case a16 => k_is)
    (case l16 => k_is)
    (case c16 => k_is)
    (case k16 => k_is)
    (case a17 => k_is)
    (case l17 => k_is)
    (case c17 => k_is)
    (case k17 => k_is)
    (case a18 => k_is)
    (case l18 => k_is)
    (case c18 => k_is)
    (case k18 => k_is)
    (case a19 => k_is)
    (case l19 => k_is)
    (case c19 => k_is)
    (case k19 => k_is)
    (case a20 => k_is)
    (case l20 => k_is)
    (case c20 => k_is)
    (case k20 => k_is)
    (case a21 => k_is)
    (case l21 => k_is)
    (case c21 => k_is)
    (case k21 => k_is)
    (case z_all => k_is)
    (case z_bool => k_is)
    (case z_int => k_is)
    (case z_isinstance => k_is)
    (case z_len => k_is)
    (case z_list => k_is)
    (case z_max => k_is)
    (case z_min => k_is)
    (case z_range => k_is)
    (case z_str => k_is)
    (case z_tuple => k_is)
    (case z_zip => k_is)
    (case xa_NoExpr => k_is)
    (case xb_NoExpr => k_exc)
    (case xc_NoExpr => k_is)
    (case xd_NoExpr => k_is)
    (case xe_NoExpr => k_is)
    (case g_FIGURES => k_is)
    (case g_LETTERS => k_is)
    (case g_LONGEST => k_is)
    (case g_MOST_FIGURES => k_is)
    (case g_MOST_NAMES => k_is)
    (case g_MOST_TERMS => k_is)

