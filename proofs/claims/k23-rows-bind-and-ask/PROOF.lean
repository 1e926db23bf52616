import PyProof.Rows.All
import Wide.All
import OpenK.AllK
import Wide.FinOn
import PySem.Challenge.RW_drawhouse_k23_what_rows_bind_and_ask
import HandS.ForMost
import HandS.ForExc
import HandS.Walk
import HandS.IsInst
import HandS.Wide
import HandS.WideBits
import HandS.Deep
import HandS.Conv
import HandS.Flow
import HandS.Evl
import HandS.TryOnly
import HandS.ExcOwn
import HandS.Codes
import HandS.Small
import HandS.RaiseMore
import HandS.DeepEq
import PyProof.StrOps2
import PyProof.P3Eq
import PyProof.ExcBaseAll.ValueError
set_option Elab.async false
set_option linter.all false
set_option maxRecDepth 100000
set_option maxHeartbeats 4000000
/-! Sd: data in slots; expressions come to data, statements to what they leave. -/
namespace Sd
open PySem PySem.Spec PyProof.Rows L2

/-! ### data -/
inductive D where
  | non | bl (b : Bool) | int (i : Int) | str (l : List Nat) | ty (n : String)
  | lst (xs : List D) | tup (xs : List D) | dct (kvs : List (Key × D)) | ins (C : Str) (fs : List (Str × D)) | scr (ns : List Int)

abbrev S (l : List Nat) : Str := ⟨l.toArray⟩

mutual
inductive Is (K : PySem.W.Frag) (G : Hp) : V → D → Prop
  | non : Is K G .non .non
  | bl (b : Bool) : Is K G (.bl b) (.bl b)
  | int (i : Int) : Is K G (.int i) (.int i)
  | str (l : List Nat) : Is K G (.str (S l)) (.str l)
  | ty (n : String) : Is K G (.ty n) (.ty n)
  | lst {a : Addr} {xs : List V} {ds : List D} : G a = some (.lst xs) → IsAll K G xs ds → Is K G (.ref a) (.lst ds)
  | tup {a : Addr} {xs : List V} {ds : List D} : SqT K G a xs → IsAll K G xs ds → Is K G (.ref a) (.tup ds)
  | dct {a : Addr} {xs : List (Key × V)} {ds : List (Key × D)} : G a = some (.dK xs) → IsKV K G xs ds → Is K G (.ref a) (.dct ds)
  | ins {a C dx : Addr} {n : Str} {xs : List (Str × V)} {ds : List (Str × D)} : PySem.W.nsIn K mainGlobals n = some (some (.ref C)) → G a = some (.ins C dx xs) → IsFs K G xs ds → Is K G (.ref a) (.ins n ds)
  | scr {a : Addr} {ns : List Int} : SqL K G a (ns.map V.int) → Is K G (.ref a) (.scr ns)
inductive IsAll (K : PySem.W.Frag) (G : Hp) : List V → List D → Prop
  | nil : IsAll K G [] []
  | cons {v : V} {vs : List V} {d : D} {ds : List D} : Is K G v d → IsAll K G vs ds → IsAll K G (v :: vs) (d :: ds)
inductive IsKV (K : PySem.W.Frag) (G : Hp) : List (Key × V) → List (Key × D) → Prop
  | nil : IsKV K G [] []
  | cons {k : Key} {v : V} {vs : List (Key × V)} {d : D} {ds : List (Key × D)} : Is K G v d → IsKV K G vs ds → IsKV K G ((k, v) :: vs) ((k, d) :: ds)
inductive IsFs (K : PySem.W.Frag) (G : Hp) : List (Str × V) → List (Str × D) → Prop
  | nil : IsFs K G [] []
  | cons {k : Str} {v : V} {vs : List (Str × V)} {d : D} {ds : List (Str × D)} : Is K G v d → IsFs K G vs ds → IsFs K G ((k, v) :: vs) ((k, d) :: ds)
end

abbrev Ex := Evl.Ex
section
variable {K : PySem.W.Frag} {G G' : Hp}
mutual
theorem Is.mono (e : Ex G G') : ∀ (d : D) (v : V), Is K G v d → Is K G' v d
  | .non, _, h => by cases h; exact .non
  | .bl b, _, h => by cases h; exact .bl b
  | .int i, _, h => by cases h; exact .int i
  | .str l, _, h => by cases h; exact .str l
  | .ty n, _, h => by cases h; exact .ty n
  | .lst ds, _, h => by cases h with | lst h1 h2 => exact .lst (e _ _ h1) (IsAll.mono e ds _ h2)
  | .tup ds, _, h => by cases h with | tup h1 h2 => exact .tup (Evl.ex_t e h1) (IsAll.mono e ds _ h2)
  | .dct ds, _, h => by cases h with | dct h1 h2 => exact .dct (e _ _ h1) (IsKV.mono e ds _ h2)
  | .ins C ds, _, h => by cases h with | ins h0 h1 h2 => exact .ins h0 (e _ _ h1) (IsFs.mono e ds _ h2)
  | .scr ns, _, h => by cases h with | scr h1 => exact .scr (Evl.ex_l e h1)
theorem IsAll.mono (e : Ex G G') : ∀ (ds : List D) (vs : List V), IsAll K G vs ds → IsAll K G' vs ds
  | [], _, h => by cases h; exact .nil
  | d :: ds, _, h => by cases h with | cons h1 h2 => exact .cons (Is.mono e d _ h1) (IsAll.mono e ds _ h2)
theorem IsKV.mono (e : Ex G G') : ∀ (ds : List (Key × D)) (vs : List (Key × V)), IsKV K G vs ds → IsKV K G' vs ds
  | [], _, h => by cases h; exact .nil
  | (k, d) :: ds, _, h => by cases h with | cons h1 h2 => exact .cons (Is.mono e d _ h1) (IsKV.mono e ds _ h2)
theorem IsFs.mono (e : Ex G G') : ∀ (ds : List (Str × D)) (vs : List (Str × V)), IsFs K G vs ds → IsFs K G' vs ds
  | [], _, h => by cases h; exact .nil
  | (k, d) :: ds, _, h => by cases h with | cons h1 h2 => exact .cons (Is.mono e d _ h1) (IsFs.mono e ds _ h2)
end
theorem Is.up {v : V} {d : D} (h : Is K G v d) (e : Ex G G') : Is K G' v d := Is.mono e d v h
theorem IsAll.up {v : List V} {d : List D} (h : IsAll K G v d) (e : Ex G G') : IsAll K G' v d := IsAll.mono e d v h
theorem IsAll.len : ∀ {vs : List V} {ds : List D}, IsAll K G vs ds → vs.length = ds.length
  | _, _, .nil => rfl
  | _, _, .cons _ t => congrArg (· + 1) t.len
theorem IsAll.get : ∀ {vs : List V} {ds : List D} {i : Nat} {d : D}, IsAll K G vs ds → ds[i]? = some d → ∃ v, vs[i]? = some v ∧ Is K G v d
  | _, _, _, _, .nil, e => by simp at e
  | _, _, 0, _, .cons h _, e => by
    simp at e
    subst e
    exact ⟨_, rfl, h⟩
  | _, _, i + 1, d, .cons _ t, e => by
    obtain ⟨v, h1, h2⟩ := IsAll.get (i := i) (d := d) t (by simpa using e)
    exact ⟨v, by simpa using h1, h2⟩
theorem IsAll.getV : ∀ {vs : List V} {ds : List D} {i : Nat} {v : V}, IsAll K G vs ds → vs[i]? = some v → ∃ d, ds[i]? = some d ∧ Is K G v d
  | _, _, _, _, .nil, e => by simp at e
  | _, _, 0, _, .cons h _, e => by
    simp at e
    subst e
    exact ⟨_, rfl, h⟩
  | _, _, i + 1, d, .cons _ t, e => by
    obtain ⟨v, h1, h2⟩ := IsAll.getV (i := i) (v := d) t (by simpa using e)
    exact ⟨v, by simpa using h1, h2⟩
theorem IsAll.app : ∀ {vs ws : List V} {ds es : List D}, IsAll K G vs ds → IsAll K G ws es → IsAll K G (vs ++ ws) (ds ++ es)
  | _, _, _, _, .nil, h => h
  | _, _, _, _, .cons a t, h => .cons a (t.app h)
theorem IsAll.take : ∀ {vs : List V} {ds : List D} (n : Nat), IsAll K G vs ds → IsAll K G (vs.take n) (ds.take n)
  | _, _, 0, _ => .nil
  | _, _, _ + 1, .nil => .nil
  | _, _, n + 1, .cons a t => .cons a (t.take n)
theorem IsAll.drop : ∀ {vs : List V} {ds : List D} (n : Nat), IsAll K G vs ds → IsAll K G (vs.drop n) (ds.drop n)
  | _, _, 0, h => h
  | _, _, _ + 1, .nil => .nil
  | _, _, n + 1, .cons a t => t.drop n
theorem IsAll.set : ∀ {vs : List V} {ds : List D} (n : Nat) {v : V} {d : D}, IsAll K G vs ds → Is K G v d → IsAll K G (vs.set n v) (ds.set n d)
  | _, _, _, _, _, .nil, _ => .nil
  | _, _, 0, _, _, .cons a t, h => .cons h t
  | _, _, n + 1, _, _, .cons a t, h => .cons a (t.set n h)
theorem IsAll.rev : ∀ {vs : List V} {ds : List D}, IsAll K G vs ds → IsAll K G vs.reverse ds.reverse
  | _, _, .nil => .nil
  | _, _, .cons a t => by
    rw [List.reverse_cons, List.reverse_cons]
    exact t.rev.app (.cons a .nil)
theorem IsAll.strs : ∀ {vs : List V} {ls : List (List Nat)}, IsAll K G vs (ls.map D.str) → vs = ls.map (fun l => V.str (S l))
  | _, [], h => by cases h; rfl
  | _, l :: ls, h => by
    cases h with
    | cons h1 h2 =>
      cases h1
      rw [h2.strs]
      rfl
theorem IsAll.ints : ∀ {vs : List V} {ls : List Int}, IsAll K G vs (ls.map D.int) → vs = ls.map V.int
  | _, [], h => by cases h; rfl
  | _, l :: ls, h => by
    cases h with
    | cons h1 h2 =>
      cases h1
      rw [h2.ints]
      rfl
theorem IsAll.bls : ∀ {vs : List V} {ls : List Bool}, IsAll K G vs (ls.map D.bl) → vs = ls.map V.bl
  | _, [], h => by cases h; rfl
  | _, l :: ls, h => by
    cases h with
    | cons h1 h2 =>
      cases h1
      rw [h2.bls]
      rfl
theorem IsAll.ofStrs : ∀ (ls : List (List Nat)), IsAll K G (ls.map (fun l => V.str (S l))) (ls.map D.str)
  | [] => .nil
  | l :: ls => .cons (.str l) (IsAll.ofStrs ls)
theorem IsAll.ofInts : ∀ (ls : List Int), IsAll K G (ls.map V.int) (ls.map D.int)
  | [] => .nil
  | l :: ls => .cons (.int l) (IsAll.ofInts ls)
end

/-! ### growth -/
structure Grow (G H G' H' : Hp) : Prop where
  g : Ex G G'
  h : Ex H H'
  s : Ex G' H'
  f : ∀ b o, H b = some o → G b = none → G' b = none
theorem Grow.refl {G H : Hp} (s : Ex G H) : Grow G H G H := ⟨Evl.Ex.refl _, Evl.Ex.refl _, s, fun _ _ _ h => h⟩
theorem Grow.trans {G H G1 H1 G2 H2 : Hp} (a : Grow G H G1 H1) (b : Grow G1 H1 G2 H2) : Grow G H G2 H2 :=
  ⟨a.g.trans b.g, a.h.trans b.h, b.s, fun x o h n => b.f x o (a.h x o h) (a.f x o h n)⟩
/-- a new object, frozen at once -/
theorem Grow.new {G H : Hp} {p : Addr} {o : HO} (s : Ex G H) (h : H p = none) : Grow G H (upd G p o) (upd H p o) := by
  have hg : G p = none := Evl.fresh_back s h
  refine ⟨Evl.Ex.new hg, Evl.Ex.new h, fun b u e => ?_, fun b u e n => ?_⟩
  · by_cases hb : b = p
    · subst hb
      rw [upd_same] at e ⊢
      exact e
    · rw [upd_ne hb] at e ⊢
      exact s b u e
  · rw [upd_ne (ne_of_none e h)]
    exact n
/-- a new object, not frozen -/
theorem Grow.lay {G H : Hp} {p : Addr} {o : HO} (s : Ex G H) (h : H p = none) : Grow G H G (upd H p o) :=
  ⟨Evl.Ex.refl _, Evl.Ex.new h, s.trans (Evl.Ex.new h), fun _ _ _ n => n⟩
/-- a laid object is frozen -/
theorem Grow.frz {G H G' H' : Hp} {p : Addr} {o : HO} (a : Grow G H G' H') (h : H p = none) (hp : H' p = some o) (n : G' p = none) : Grow G H (upd G' p o) H' := by
  refine ⟨a.g.trans (Evl.Ex.new n), a.h, fun b u e => ?_, fun b u e m => ?_⟩
  · by_cases hb : b = p
    · subst hb
      rw [upd_same] at e
      rw [hp]
      exact e
    · rw [upd_ne hb] at e
      exact a.s b u e
  · rw [upd_ne (ne_of_none e h)]
    exact a.f b u e m

/-! ### the slots -/
inductive OO where
  | lst (xs : List D) | dct (kvs : List (Key × D))
inductive B where
  | un | d (x : D) | own (o : OO) | bor (xs : List D)
def OwnIs (K : PySem.W.Frag) (G : Hp) : OO → HO → Prop
  | .lst ds, .lst vs => IsAll K G vs ds
  | .dct ds, .dK kvs => IsKV K G kvs ds
  | _, _ => False
theorem OwnIs.up {K : PySem.W.Frag} {G G' : Hp} {o : OO} {u : HO} (h : OwnIs K G o u) (e : Ex G G') : OwnIs K G' o u := by
  cases o with
  | lst ds =>
    cases u with
    | lst vs => exact IsAll.up (show IsAll K G vs ds from h) e
    | _ => exact h.elim
  | dct ds =>
    cases u with
    | dK vs => exact IsKV.mono e ds vs h
    | _ => exact h.elim
theorem OwnIs.lst {K : PySem.W.Frag} {G : Hp} {ds : List D} {u : HO} (h : OwnIs K G (.lst ds) u) : ∃ vs, u = .lst vs ∧ IsAll K G vs ds := by
  cases u with
  | lst vs => exact ⟨vs, rfl, h⟩
  | _ => exact h.elim

structure Stt (K : PySem.W.Frag) (F : Hp) (Γ : List B) (σ : L2.St) (G H : Hp) : Prop where
  len : σ.length = Γ.length
  sub : Ex G H
  dat : ∀ (i : Nat) (x : D), Γ[i]? = some (B.d x) → ∃ v, σ[i]? = some (some v) ∧ Is K G v x
  own : ∀ (i : Nat) (o : OO), Γ[i]? = some (B.own o) → ∃ p u, σ[i]? = some (some (.ref p)) ∧ H p = some u ∧ G p = none ∧ F p = none ∧ OwnIs K G o u
  sep : ∀ (i j : Nat) (p : Addr) (o o' : OO), Γ[i]? = some (B.own o) → Γ[j]? = some (B.own o') → σ[i]? = some (some (.ref p)) → σ[j]? = some (some (.ref p)) → i = j
  bor : ∀ (i : Nat) (xs : List D), Γ[i]? = some (B.bor xs) → ∃ p vs, σ[i]? = some (some (.ref p)) ∧ H p = some (.lst vs) ∧ F p = some (.lst vs) ∧ IsAll K G vs xs
theorem Stt.grow {K : PySem.W.Frag} {F : Hp} {Γ : List B} {σ : L2.St} {G H G' H' : Hp} (s : Stt K F Γ σ G H) (g : Grow G H G' H') : Stt K F Γ σ G' H' :=
  ⟨s.len, g.s, fun i x h => let ⟨v, h1, h2⟩ := s.dat i x h; ⟨v, h1, h2.up g.g⟩,
   fun i o h => let ⟨p, u, h1, h2, h3, h5, h4⟩ := s.own i o h; ⟨p, u, h1, g.h p u h2, g.f p u h2 h3, h5, h4.up g.g⟩, s.sep,
   fun i xs h => let ⟨p, vs, h1, h2, h3, h4⟩ := s.bor i xs h; ⟨p, vs, h1, g.h p _ h2, h3, h4.up g.g⟩⟩
/-- a slot gets data -/
theorem Stt.set {K : PySem.W.Frag} {F : Hp} {Γ : List B} {σ : L2.St} {G H : Hp} {v : V} {x : D} (s : Stt K F Γ σ G H) (i : Nat) (h : Is K G v x) : Stt K F (Γ.set i (.d x)) (σ.set i (some v)) G H := by
  refine ⟨by rw [List.length_set, List.length_set]; exact s.len, s.sub, fun j y e => ?_, fun j o e => ?_, fun j k p o o' e1 e2 e3 e4 => ?_, fun j xs e => ?_⟩
  · by_cases hj : i = j
    · subst hj
      have hl : i < Γ.length := by
        have := (List.getElem?_eq_some_iff.mp e).1
        rw [List.length_set] at this
        exact this
      rw [List.getElem?_set_self hl] at e
      cases e
      exact ⟨v, List.getElem?_set_self (by rw [s.len]; exact hl), h⟩
    · rw [List.getElem?_set_ne hj] at e ⊢
      exact s.dat j y e
  · have hj : i ≠ j := fun z => by
      subst z
      have hl : i < Γ.length := by
        have := (List.getElem?_eq_some_iff.mp e).1
        rw [List.length_set] at this
        exact this
      rw [List.getElem?_set_self hl] at e
      cases e
    rw [List.getElem?_set_ne hj] at e ⊢
    exact s.own j o e
  · have ne : ∀ {j : Nat} {o : OO}, (Γ.set i (B.d x))[j]? = some (B.own o) → i ≠ j := fun {j o} e z => by
      subst z
      have hl : i < Γ.length := by
        have := (List.getElem?_eq_some_iff.mp e).1
        rw [List.length_set] at this
        exact this
      rw [List.getElem?_set_self hl] at e
      cases e
    have h1 := ne e1
    have h2 := ne e2
    rw [List.getElem?_set_ne h1] at e1 e3
    rw [List.getElem?_set_ne h2] at e2 e4
    exact s.sep j k p o o' e1 e2 e3 e4
  · have hj : i ≠ j := fun z => by
      subst z
      have hl : i < Γ.length := by
        have := (List.getElem?_eq_some_iff.mp e).1
        rw [List.length_set] at this
        exact this
      rw [List.getElem?_set_self hl] at e
      cases e
    rw [List.getElem?_set_ne hj] at e ⊢
    exact s.bor j xs e
/-- a slot is forgotten -/
theorem Stt.unset {K : PySem.W.Frag} {F : Hp} {Γ : List B} {σ : L2.St} {G H : Hp} (s : Stt K F Γ σ G H) (i : Nat) (y : Option V) : Stt K F (Γ.set i .un) (σ.set i y) G H := by
  have ne : ∀ {j : Nat} {b : B}, b ≠ .un → (Γ.set i B.un)[j]? = some b → i ≠ j := fun {j b} hb e z => by
    subst z
    have hl : i < Γ.length := by
      have := (List.getElem?_eq_some_iff.mp e).1
      rw [List.length_set] at this
      exact this
    rw [List.getElem?_set_self hl] at e
    cases e
    exact hb rfl
  refine ⟨by rw [List.length_set, List.length_set]; exact s.len, s.sub, fun j y e => ?_, fun j o e => ?_, fun j k p o o' e1 e2 e3 e4 => ?_, fun j xs e => ?_⟩
  · have h1 := ne (by simp) e
    rw [List.getElem?_set_ne h1] at e ⊢
    exact s.dat j y e
  · have h1 := ne (by simp) e
    rw [List.getElem?_set_ne h1] at e ⊢
    exact s.own j o e
  · have h1 := ne (by simp) e1
    have h2 := ne (by simp) e2
    rw [List.getElem?_set_ne h1] at e1 e3
    rw [List.getElem?_set_ne h2] at e2 e4
    exact s.sep j k p o o' e1 e2 e3 e4
  · have h1 := ne (by simp) e
    rw [List.getElem?_set_ne h1] at e ⊢
    exact s.bor j xs e
/-- a slot gets a thing of its own -/
theorem Stt.setO {K : PySem.W.Frag} {F : Hp} {Γ : List B} {σ : L2.St} {G H : Hp} {p : Addr} {u : HO} {o : OO} (s : Stt K F Γ σ G H) (i : Nat) (hp : H p = some u) (n : G p = none) (f : F p = none) (h : OwnIs K G o u)
    (d : ∀ (j : Nat) (o' : OO), j ≠ i → Γ[j]? = some (B.own o') → σ[j]? ≠ some (some (V.ref p))) : Stt K F (Γ.set i (.own o)) (σ.set i (some (.ref p))) G H := by
  have bd : ∀ {j : Nat} {b : B}, i = j → (Γ.set i (B.own o))[j]? = some b → b = .own o ∧ i < Γ.length := fun {j b} z e => by
    subst z
    have hl : i < Γ.length := by
      have := (List.getElem?_eq_some_iff.mp e).1
      rw [List.length_set] at this
      exact this
    rw [List.getElem?_set_self hl] at e
    cases e
    exact ⟨rfl, hl⟩
  refine ⟨by rw [List.length_set, List.length_set]; exact s.len, s.sub, fun j y e => ?_, fun j o1 e => ?_, fun j k q o1 o2 e1 e2 e3 e4 => ?_, fun j xs e => ?_⟩
  · by_cases hj : i = j
    · cases (bd hj e).1
    · rw [List.getElem?_set_ne hj] at e ⊢
      exact s.dat j y e
  · by_cases hj : i = j
    · obtain ⟨z, hl⟩ := bd hj e
      cases z
      subst hj
      exact ⟨p, u, List.getElem?_set_self (by rw [s.len]; exact hl), hp, n, f, h⟩
    · rw [List.getElem?_set_ne hj] at e ⊢
      exact s.own j o1 e
  · by_cases hj : i = j
    · by_cases hk : i = k
      · exact hj.symm.trans hk
      · obtain ⟨_, hl⟩ := bd hj e1
        subst hj
        rw [List.getElem?_set_ne hk] at e2 e4
        rw [List.getElem?_set_self (by rw [s.len]; exact hl)] at e3
        cases e3
        exact absurd e4 (d k o2 (Ne.symm hk) e2)
    · by_cases hk : i = k
      · obtain ⟨_, hl⟩ := bd hk e2
        subst hk
        rw [List.getElem?_set_ne hj] at e1 e3
        rw [List.getElem?_set_self (by rw [s.len]; exact hl)] at e4
        cases e4
        exact absurd e3 (d j o1 (Ne.symm hj) e1)
      · rw [List.getElem?_set_ne hj] at e1 e3
        rw [List.getElem?_set_ne hk] at e2 e4
        exact s.sep j k q o1 o2 e1 e2 e3 e4
  · by_cases hj : i = j
    · cases (bd hj e).1
    · rw [List.getElem?_set_ne hj] at e ⊢
      exact s.bor j xs e
/-- a new thing's address is nobody's -/
theorem Stt.fresh {K : PySem.W.Frag} {F : Hp} {Γ : List B} {σ : L2.St} {G H : Hp} {p : Addr} (s : Stt K F Γ σ G H) (n : H p = none) {j : Nat} {o : OO} (e : Γ[j]? = some (B.own o)) : σ[j]? ≠ some (some (V.ref p)) := fun z => by
  obtain ⟨q, u, h1, h2, _⟩ := s.own j o e
  rw [h1] at z
  cases z
  rw [n] at h2
  cases h2
/-- one's own thing in a slot changes -/
theorem Stt.mut {K : PySem.W.Frag} {F : Hp} {Γ : List B} {σ : L2.St} {G H : Hp} {p : Addr} {u : HO} {o o' : OO} (s : Stt K F Γ σ G H) {i : Nat} (e : Γ[i]? = some (B.own o)) (hs : σ[i]? = some (some (V.ref p))) (h : OwnIs K G o' u) :
    Stt K F (Γ.set i (.own o')) σ G (upd H p u) := by
  obtain ⟨q, w, h1, h2, h3, h5, _⟩ := s.own i o e
  rw [hs] at h1
  cases h1
  have hl : i < Γ.length := (List.getElem?_eq_some_iff.mp e).1
  refine ⟨by rw [List.length_set]; exact s.len, fun b u' e' => ?_, fun j y e' => ?_, fun j o1 e' => ?_, fun j k q o1 o2 e1 e2 e3 e4 => ?_, fun j xs e' => ?_⟩
  · rw [upd_ne (ne_of_none e' h3)]
    exact s.sub b u' e'
  · have hj : i ≠ j := fun z => by
      subst z
      rw [List.getElem?_set_self hl] at e'
      cases e'
    rw [List.getElem?_set_ne hj] at e'
    exact s.dat j y e'
  · by_cases hj : i = j
    · subst hj
      rw [List.getElem?_set_self hl] at e'
      cases e'
      exact ⟨p, u, hs, upd_same, h3, h5, h⟩
    · rw [List.getElem?_set_ne hj] at e'
      obtain ⟨q, w', k1, k2, k3, k4, k5⟩ := s.own j o1 e'
      have hne : q ≠ p := fun z => by
        subst z
        exact hj (s.sep i j q o o1 e e' hs k1)
      exact ⟨q, w', k1, by rw [upd_ne hne]; exact k2, k3, k4, k5⟩
  · have back : ∀ {j : Nat} {o1 : OO}, (Γ.set i (B.own o'))[j]? = some (B.own o1) → ∃ o2, Γ[j]? = some (B.own o2) := fun {j o1} e' => by
      by_cases hj : i = j
      · subst hj
        exact ⟨o, e⟩
      · rw [List.getElem?_set_ne hj] at e'
        exact ⟨o1, e'⟩
    obtain ⟨o3, e5⟩ := back e1
    obtain ⟨o4, e6⟩ := back e2
    exact s.sep j k q o3 o4 e5 e6 e3 e4
  · have hj : i ≠ j := fun z => by
      subst z
      rw [List.getElem?_set_self hl] at e'
      cases e'
    rw [List.getElem?_set_ne hj] at e'
    obtain ⟨q, vs, k1, k2, k3, k4⟩ := s.bor j xs e'
    have hne : q ≠ p := fun z => by
      subst z
      rw [h5] at k3
      cases k3
    exact ⟨q, vs, k1, by rw [upd_ne hne]; exact k2, k3, k4⟩
/-- one's own list stays from now on -/
theorem Stt.frzL {K : PySem.W.Frag} {F : Hp} {Γ : List B} {σ : L2.St} {G H : Hp} {ds : List D} (s : Stt K F Γ σ G H) {i : Nat} (e : Γ[i]? = some (B.own (.lst ds))) :
    ∃ p vs, σ[i]? = some (some (V.ref p)) ∧ H p = some (.lst vs) ∧ G p = none ∧ F p = none ∧ Stt K F (Γ.set i (.d (.lst ds))) σ (upd G p (.lst vs)) H := by
  obtain ⟨p, u, h1, h2, h3, h5, h4⟩ := s.own i _ e
  obtain ⟨vs, rfl, ha⟩ := h4.lst
  have hl : i < Γ.length := (List.getElem?_eq_some_iff.mp e).1
  have ex : Ex G (upd G p (.lst vs)) := Evl.Ex.new h3
  refine ⟨p, vs, h1, h2, h3, h5, ?_⟩
  refine ⟨by rw [List.length_set]; exact s.len, fun b u' e' => ?_, fun j y e' => ?_, fun j o1 e' => ?_, fun j k q o1 o2 e1 e2 e3 e4 => ?_, fun j xs e' => ?_⟩
  · by_cases hb : b = p
    · subst hb
      rw [upd_same] at e'
      rw [h2]
      exact e'
    · rw [upd_ne hb] at e'
      exact s.sub b u' e'
  · by_cases hj : i = j
    · subst hj
      rw [List.getElem?_set_self hl] at e'
      cases e'
      exact ⟨_, h1, .lst upd_same (ha.up ex)⟩
    · rw [List.getElem?_set_ne hj] at e'
      obtain ⟨v, k1, k2⟩ := s.dat j y e'
      exact ⟨v, k1, k2.up ex⟩
  · by_cases hj : i = j
    · subst hj
      rw [List.getElem?_set_self hl] at e'
      cases e'
    · rw [List.getElem?_set_ne hj] at e'
      obtain ⟨q, w', k1, k2, k3, k4, k5⟩ := s.own j o1 e'
      have hne : q ≠ p := fun z => by
        subst z
        exact hj (s.sep i j q _ o1 e e' h1 k1)
      exact ⟨q, w', k1, k2, by rw [upd_ne hne]; exact k3, k4, k5.up ex⟩
  · have ne : ∀ {j : Nat} {o : OO}, (Γ.set i (B.d (.lst ds)))[j]? = some (B.own o) → i ≠ j := fun {j o} e z => by
      subst z
      rw [List.getElem?_set_self hl] at e
      cases e
    have n1 := ne e1
    have n2 := ne e2
    rw [List.getElem?_set_ne n1] at e1
    rw [List.getElem?_set_ne n2] at e2
    exact s.sep j k q o1 o2 e1 e2 e3 e4
  · have hj : i ≠ j := fun z => by
      subst z
      rw [List.getElem?_set_self hl] at e'
      cases e'
    rw [List.getElem?_set_ne hj] at e'
    obtain ⟨q, ws, k1, k2, k3, k4⟩ := s.bor j xs e'
    exact ⟨q, ws, k1, k2, k3, k4.up ex⟩

/-! ### what an expression comes to -/
def EvD (K : PySem.W.Frag) (Γ : List B) (te : TE) (x : D) : Prop :=
  ∀ F σ G H, Stt K F Γ σ G H → ∀ Q : VK, (∀ v G' H', Grow G H G' H' → Is K G' v x → Q v H') → te σ H Q
/-- a new thing of one's own -/
def EvO (K : PySem.W.Frag) (Γ : List B) (te : TE) (o : OO) : Prop :=
  ∀ F σ G H, Stt K F Γ σ G H → ∀ Q : VK, (∀ p u G' H', Grow G H G' H' → H' p = some u → G' p = none → H p = none → OwnIs K G' o u → Q (.ref p) H') → te σ H Q
/-- a list that may be read -/
def EvL (K : PySem.W.Frag) (Γ : List B) (te : TE) (ds : List D) : Prop :=
  ∀ F σ G H, Stt K F Γ σ G H → ∀ Q : VK, (∀ p vs G' H', Grow G H G' H' → H' p = some (.lst vs) → IsAll K G' vs ds → Q (.ref p) H') → te σ H Q
def EvT (K : PySem.W.Frag) (Γ : List B) (tt : TT) (b : Bool) : Prop :=
  ∀ F σ G H, Stt K F Γ σ G H → ∀ Q : Bool → Hp → Prop, (∀ G' H', Grow G H G' H' → Q b H') → tt σ H Q
def EvA (K : PySem.W.Frag) (Γ : List B) (ta : TA) (ds : List D) : Prop :=
  ∀ F σ G H, Stt K F Γ σ G H → ∀ Q : List V → Hp → Prop, (∀ vs G' H', Grow G H G' H' → IsAll K G' vs ds → Q vs H') → ta σ H Q
def EvP (K : PySem.W.Frag) (Γ : List B) (to : TO) (o : Option Int) : Prop :=
  ∀ F σ G H, Stt K F Γ σ G H → ∀ Q : Option Int → Hp → Prop, (∀ G' H', Grow G H G' H' → Q o H') → to σ H Q

/-! the readings by their meaning -/
structure WE (X : Cx) (e : Expr) (σ : L2.St) (H : Hp) (Q : VK) : Prop where
  run : ∀ (pins : List (Addr × Obj)) (s : Shared), Inv X pins σ H s → wpAny (model X.prog X.w) X.A (eval e X.env) (EP X pins σ Q) X.xe s
structure WT (X : Cx) (e : Expr) (σ : L2.St) (H : Hp) (Q : Bool → Hp → Prop) : Prop where
  run : ∀ (pins : List (Addr × Obj)) (s : Shared), Inv X pins σ H s → wpAny (model X.prog X.w) X.A (isTrue e X.env (eval e X.env)) (TP X pins σ Q) X.xe s
structure WW (X : Cx) (e : Expr) (σ : L2.St) (H : Hp) (Q : Bool → Hp → Prop) : Prop where
  run : ∀ (whole : Sem Value) (pins : List (Addr × Obj)) (s : Shared), Inv X pins σ H s → wpAny (model X.prog X.w) X.A (isTrue e X.env whole) (TP X pins σ Q) X.xe s
structure WA (X : Cx) (es : List Expr) (σ : L2.St) (H : Hp) (Q : List V → Hp → Prop) : Prop where
  run : ∀ (pos : Pos) (pins : List (Addr × Obj)) (s : Shared), Inv X pins σ H s → wpAny (model X.prog X.w) X.A (spliced (backTo pos (starEach es X.env))) (AP X pins σ Q) X.xe s
structure WS (X : Cx) (sts : List Stmt) (D : Ends) (σ : L2.St) (H : Hp) : Prop where
  run : ∀ (pins : List (Addr × Obj)) (s : Shared), Inv X pins σ H s → wpAny (model X.prog X.w) X.A (execs sts X.env) (SP X pins D) X.xe s
def wE (X : Cx) (e : Expr) : TE := WE X e
def wT (X : Cx) (e : Expr) : TT := WT X e
def wW (X : Cx) (e : Expr) : TT := WW X e
def wA (X : Cx) (es : List Expr) : TA := WA X es
def wS (X : Cx) (sts : List Stmt) : TS := WS X sts
section
variable {X : Cx} {e : Expr} {es : List Expr} {sts : List Stmt}
theorem pe_w : PE X e (wE X e) := ⟨fun pins s _ _ _ I h => WE.run h pins s I⟩
theorem pt_w : PT X e (wT X e) := ⟨fun pins s _ _ _ I h => WT.run h pins s I⟩
theorem pw_w : PW X e (wW X e) := ⟨fun wh pins s _ _ _ I h => WW.run h wh pins s I⟩
theorem pa_w : PA X es (wA X es) := ⟨fun pos pins s _ _ _ I h => WA.run h pos pins s I⟩
theorem pss_w : PSs X sts (wS X sts) := ⟨fun pins s _ _ _ I h => WS.run h pins s I⟩
end

abbrev ED (X : Cx) (Γ : List B) (e : Expr) (x : D) : Prop := EvD X.K Γ (wE X e) x
abbrev EO (X : Cx) (Γ : List B) (e : Expr) (o : OO) : Prop := EvO X.K Γ (wE X e) o
abbrev EL (X : Cx) (Γ : List B) (e : Expr) (ds : List D) : Prop := EvL X.K Γ (wE X e) ds
abbrev ET (X : Cx) (Γ : List B) (e : Expr) (b : Bool) : Prop := EvT X.K Γ (wT X e) b
abbrev EW (X : Cx) (Γ : List B) (e : Expr) (b : Bool) : Prop := EvT X.K Γ (wW X e) b
abbrev EA (X : Cx) (Γ : List B) (es : List Expr) (ds : List D) : Prop := EvA X.K Γ (wA X es) ds

section
variable {X : Cx} {Γ : List B} {e : Expr} {es : List Expr} {x : D} {o : OO} {ds : List D} {b : Bool}
theorem ed_of {t : TE} (h : PE X e t) (k : EvD X.K Γ t x) : ED X Γ e x := fun F σ G H s Q q => ⟨fun pins sh I => h.run pins sh σ H Q I (k F σ G H s Q q)⟩
theorem eo_of {t : TE} (h : PE X e t) (k : EvO X.K Γ t o) : EO X Γ e o := fun F σ G H s Q q => ⟨fun pins sh I => h.run pins sh σ H Q I (k F σ G H s Q q)⟩
theorem el_of {t : TE} (h : PE X e t) (k : EvL X.K Γ t ds) : EL X Γ e ds := fun F σ G H s Q q => ⟨fun pins sh I => h.run pins sh σ H Q I (k F σ G H s Q q)⟩
theorem et_of {t : TT} (h : PT X e t) (k : EvT X.K Γ t b) : ET X Γ e b := fun F σ G H s Q q => ⟨fun pins sh I => h.run pins sh σ H Q I (k F σ G H s Q q)⟩
theorem ew_of {t : TT} (h : PW X e t) (k : EvT X.K Γ t b) : EW X Γ e b := fun F σ G H s Q q => ⟨fun wh pins sh I => h.run wh pins sh σ H Q I (k F σ G H s Q q)⟩
theorem ea_of {t : TA} (h : PA X es t) (k : EvA X.K Γ t ds) : EA X Γ es ds := fun F σ G H s Q q => ⟨fun pos pins sh I => h.run pos pins sh σ H Q I (k F σ G H s Q q)⟩
end
section
variable {K : PySem.W.Frag} {Γ : List B} {te : TE} {o : OO} {ds : List D}
/-- one's own thing as a thing that stays -/
theorem EvO.frz (h : EvO K Γ te (.lst ds)) : EvD K Γ te (.lst ds) := fun F σ G H s Q q => h F σ G H s Q fun p u G' H' g hp n hn ho => by
  obtain ⟨vs, rfl, ha⟩ := ho.lst
  exact q _ _ _ (g.frz hn hp n) (.lst upd_same (ha.up (Evl.Ex.new n)))
theorem EvO.frzD {ks : List (Key × D)} (h : EvO K Γ te (.dct ks)) : EvD K Γ te (.dct ks) := fun F σ G H s Q q => h F σ G H s Q fun p u G' H' g hp n hn ho => by
  cases u with
  | dK vs => exact q _ _ _ (g.frz hn hp n) (.dct upd_same (IsKV.mono (Evl.Ex.new n) ks vs ho))
  | _ => exact ho.elim
theorem EvO.el (h : EvO K Γ te (.lst ds)) : EvL K Γ te ds := fun F σ G H s Q q => h F σ G H s Q fun p u G' H' g hp n hn ho => by
  obtain ⟨vs, rfl, ha⟩ := ho.lst
  exact q _ _ _ _ g hp ha
theorem EvD.el (h : EvD K Γ te (.lst ds)) : EvL K Γ te ds := fun F σ G H s Q q => h F σ G H s Q fun v G' H' g hi => by
  cases hi with
  | lst h1 h2 => exact q _ _ _ _ g (g.s _ _ h1) h2
end
end Sd

namespace Sd
open PySem PySem.Spec PyProof.Rows L2

/-! ### argument lists without stars -/
def nst : Expr → Bool
  | .Starred .. => false
  | _ => true
theorem starEach_ns {e : Expr} {es : List Expr} {env : Env} (h : nst e = true) : starEach (e :: es) env = (false, eval e env) :: starEach es env := by
  cases e <;> first | rfl | cases h
theorem starEach_ns2 {a b : Expr} {env : Env} (h : (nst a && nst b) = true) : starEach [a, b] env = [(false, eval a env), (false, eval b env)] := by
  rw [Bool.and_eq_true] at h
  rw [starEach_ns h.1, starEach_ns h.2]
  rfl
theorem plain_ok {env : Env} {pos : Pos} : ∀ {es : List Expr}, es.all nst = true → (backTo pos (starEach es env)).any (·.1) = false
  | [], _ => rfl
  | e :: es, h => by
    rw [List.all_cons, Bool.and_eq_true] at h
    have ih := plain_ok (env := env) (pos := pos) h.2
    rw [starEach_ns h.1]
    unfold backTo at ih ⊢
    rw [List.map_cons, List.any_cons, ih]
    rfl
theorem few_ok {env : Env} {cpos : Pos} {es : List Expr} (h : (es.all nst && decide (es.length < 30)) = true) :
    ((backTo cpos (starEach es env)).all (fun x => !x.1) && (backToKw cpos (keywordEach [] env)).all (fun x => x.1.isSome) && decide (es.length + ([] : List Keyword).length + (if ([] : List Keyword).isEmpty then 0 else 1) < 30)) = true := by
  rw [Bool.and_eq_true] at h
  have h1 := plain_ok (env := env) (pos := cpos) h.1
  have h2 : (backTo cpos (starEach es env)).all (fun x => !x.1) = true := by
    rw [List.all_eq_true]
    intro x hx
    rw [List.any_eq_false] at h1
    simpa using h1 x hx
  have h3 := of_decide_eq_true h.2
  rw [h2]
  show (true && true && decide (es.length + 0 + 0 < 30)) = true
  simpa using h3

/-- nothing that is read in a way of its own -/
def nlc : Expr → Bool
  | .ListComp .. => false
  | .SetComp .. => false
  | .DictComp .. => false
  | _ => true
theorem sw_ns {e : Expr} {t : Option Expr} {l : Nat} {env : Env} (h : nlc e = true) : swapsWith e t l env = pure false := by
  cases e <;> first | rfl | cases h
theorem sws_ns {t e : Expr} {l : Nat} {env : Env} (h : nlc e = true) : swapsWithSole [t] e l env = pure false := sw_ns h
def ntu : Expr → Bool
  | .Tuple .. => false
  | _ => true
theorem sst_ns {ts : List Expr} {e : Expr} {env : Env} (h : ntu e = true) : swappedStores ts e env = pure none := by
  unfold swappedStores
  cases e <;> first | cases h | skip
  all_goals
    cases ts with
    | nil => rfl
    | cons t ts =>
      cases ts with
      | nil => cases t <;> rfl
      | cons u ts => cases t <;> rfl
def nsl : Expr → Bool
  | .Slice .. => false
  | _ => true
theorem ix_ns {e : Expr} (h : nsl e = true) : PlainIx e := fun o i => by
  cases e <;> first | rfl | cases h
def tst : Expr → Bool
  | .UnaryOp .. => false
  | .BoolOp .. => false
  | .IfExp .. => false
  | .Compare .. => false
  | _ => true
theorem it_ns {e : Expr} {env : Env} (h : tst e = true) (whole : Sem Value) : isTrue e env whole = (do let v ← whole; standAt e.pos; holding [v] (truthy v)) := by
  cases e <;> first | rfl | cases h
def nse : Expr → Bool
  | .Set .. => false
  | _ => true
theorem fs_ns {e : Expr} {env : Env} (h : nse e = true) (x : Value) : foldedSetIterable e env x = pure x := by
  cases e <;> first | rfl | cases h
def ncl : Expr → Bool
  | .Call .. => false
  | _ => true
theorem ab_ns {o : Expr} {a : Str} {env : Env} {w : Sem Value} (h : ncl o = true) : attributeBase o a env w = w := by
  cases o <;> first | rfl | cases h

/-! ### names and constants -/
section
variable {X : Cx} {Γ : List B} {pos : Pos} {x : Str}
theorem ed_var (i : Nat) {d : D} (hN : X.N[i]? = some x) (hv : Vis X.env.scope x) (h : Γ[i]? = some (B.d d)) (hd : (x == ("__debug__" : Str)) = false := by decide) (hcd : (x == ("__classdict__" : Str)) = false := by decide) : ED X Γ (.Name x pos) d :=
  ed_of (pe_var hN hv hd hcd) fun F σ G H s Q q => let ⟨v, h1, h2⟩ := s.dat i d h; ⟨v, h1, q v G H (.refl s.sub) h2⟩
/-- one's own list, read -/
theorem el_own (i : Nat) {ds : List D} (hN : X.N[i]? = some x) (hv : Vis X.env.scope x) (h : Γ[i]? = some (B.own (.lst ds))) (hd : (x == ("__debug__" : Str)) = false := by decide) (hcd : (x == ("__classdict__" : Str)) = false := by decide) : EL X Γ (.Name x pos) ds :=
  el_of (pe_var hN hv hd hcd) fun F σ G H s Q q => by
    obtain ⟨p, u, h1, h2, h3, _, h4⟩ := s.own i _ h
    obtain ⟨vs, rfl, ha⟩ := h4.lst
    exact ⟨_, h1, q p vs G H (.refl s.sub) h2 ha⟩
theorem ed_int {i : Int} {j : Nat} : ED X Γ (.Constant (.int i) j pos) (.int i) := ed_of pe_int fun F σ G H s Q q => q _ G H (.refl s.sub) (.int i)
theorem ed_bl {b : Bool} {j : Nat} : ED X Γ (.Constant (.bool b) j pos) (.bl b) := ed_of pe_bl fun F σ G H s Q q => q _ G H (.refl s.sub) (.bl b)
theorem ed_non {j : Nat} : ED X Γ (.Constant .none j pos) .non := ed_of pe_non fun F σ G H s Q q => q _ G H (.refl s.sub) .non
theorem ed_str {z : Str} {j : Nat} (l : List Nat) (h : z = S l) : ED X Γ (.Constant (.str z) j pos) (.str l) := ed_of pe_str fun F σ G H s Q q => q _ G H (.refl s.sub) (by rw [h]; exact .str l)
/-- a module's constant -/
theorem ed_gInt {i : Int} (hg : Gl X x) (hm : ∃ t, X.mg x = some (.int i t)) (hd : (x == ("__debug__" : Str)) = false := by decide) : ED X Γ (.Name x pos) (.int i) := by
  obtain ⟨t, hm⟩ := hm
  exact ed_of (pe_glob (v := .int i) hg hm ⟨t, rfl⟩ hd) fun F σ G H s Q q => q _ G H (.refl s.sub) (.int i)
theorem ed_gStr {l : List Nat} (hg : Gl X x) (hm : ∃ t, X.mg x = some (.str (S l) t)) (hd : (x == ("__debug__" : Str)) = false := by decide) : ED X Γ (.Name x pos) (.str l) := by
  obtain ⟨t, hm⟩ := hm
  exact ed_of (pe_glob (v := .str (S l)) hg hm ⟨t, rfl⟩ hd) fun F σ G H s Q q => q _ G H (.refl s.sub) (.str l)
/-- a built-in type as a value -/
theorem ed_ty {n : String} (hg : Gl X x) (hm : X.mg x = none) (hv : bootBuiltins x = some (.type n)) (hn : x ≠ "__name__" := by decide) (hd : (x == ("__debug__" : Str)) = false := by decide) : ED X Γ (.Name x pos) (.ty n) :=
  ed_of (pe_bltn (v := .ty n) hg hm hv rfl hn hd) fun F σ G H s Q q => q _ G H (.refl s.sub) (.ty n)
end

/-! ### operators -/
def RV (K : PySem.W.Frag) (r : R2) (x y z : D) : Prop := ∀ v w G H, Ex G H → Is K G v x → Is K G w y → ∀ Q : VK, (∀ u G' H', Grow G H G' H' → Is K G' u z → Q u H') → r v w H Q
def OpD (X : Cx) (f : Value → Value → Sem Value) (x y z : D) : Prop := ∃ r, OpR X f r ∧ RV X.K r x y z
section
variable {X : Cx} {Γ : List B} {pos : Pos} {a b c : Expr} {x y z : D}
theorem ev_op {K : PySem.W.Frag} {r : R2} {ta tb : TE} (ha : EvD K Γ ta x) (hb : EvD K Γ tb y) (hr : RV K r x y z) : EvD K Γ (tOp r ta tb) z := fun F σ G H s Q q =>
  ha F σ G H s _ fun v G1 H1 g1 i1 => hb F σ G1 H1 (s.grow g1) _ fun w G2 H2 g2 i2 => hr v w G2 H2 g2.s (i1.up g2.g) i2 Q fun u G3 H3 g3 i3 => q u G3 H3 ((g1.trans g2).trans g3) i3
theorem ed_op {op : Operator} (ho : OpD X (binaryOp op) x y z) (ha : ED X Γ a x) (hb : ED X Γ b y) : ED X Γ (.BinOp a op b pos) z := by
  obtain ⟨r, h1, h2⟩ := ho
  exact ed_of (pe_op h1 pe_w pe_w) (ev_op ha hb h2)
theorem ed_cmp {op : CmpOp} (ho : OpD X (compareOp op) x y z) (ha : ED X Γ a x) (hb : ED X Γ b y) (hm : behindInMarks op b = false := by first | exact nomark _ | with_unfolding_all rfl) : ED X Γ (.Compare a [op] [b] pos) z := by
  obtain ⟨r, h1, h2⟩ := ho
  exact ed_of (pe_cmpR h1 pe_w pe_w hm) (ev_op ha hb h2)
theorem ev_test {K : PySem.W.Frag} {te : TE} {k : Bool} (h : EvD K Γ te (.bl k)) : EvT K Γ (tTest te) k := fun F σ G H s Q q => h F σ G H s _ fun v G1 H1 g1 i1 => by
  cases i1
  exact ⟨k, rfl, q G1 H1 g1⟩
theorem ev_tB {K : PySem.W.Frag} {te : TE} {k : Bool} (h : EvD K Γ te (.bl k)) : EvT K Γ (tB te) k := fun F σ G H s Q q => h F σ G H s _ fun v G1 H1 g1 i1 => by
  cases i1
  exact ⟨k, rfl, q G1 H1 g1⟩
theorem et_cmp {op : CmpOp} {k : Bool} (ho : OpD X (compareOp op) x y (.bl k)) (ha : ED X Γ a x) (hb : ED X Γ b y) (hm : behindInMarks op b = false := by first | exact nomark _ | with_unfolding_all rfl) : ET X Γ (.Compare a [op] [b] pos) k := by
  obtain ⟨r, h1, h2⟩ := ho
  exact et_of (pt_cmpR h1 pe_w pe_w hm) (ev_test (ev_op ha hb h2))
/-- an expression that comes to a truth, as a test -/
theorem et_val {e : Expr} {k : Bool} (h : ED X Γ e (.bl k)) (he : ∀ whole, isTrue e X.env whole = (do let v ← whole; standAt e.pos; holding [v] (truthy v)) := by exact it_ns rfl) : ET X Γ e k := et_of (pt_val pe_w he) (ev_tB h)
theorem ev_chain {K : PySem.W.Frag} {r r' : R2} {ta tb tc : TE} {k k' : Bool} (ha : EvD K Γ ta x) (hb : EvD K Γ tb y) (hc : EvD K Γ tc z) (hr : RV K r x y (.bl k)) (hr' : RV K r' y z (.bl k')) : EvD K Γ (tChain r r' ta tb tc) (.bl (k && k')) := fun F σ G H s Q q =>
  ha F σ G H s _ fun v G1 H1 g1 i1 => hb F σ G1 H1 (s.grow g1) _ fun w G2 H2 g2 i2 => hr v w G2 H2 g2.s (i1.up g2.g) i2 _ fun u G3 H3 g3 i3 => by
    cases i3
    refine ⟨k, rfl, ?_⟩
    cases k with
    | true => exact hc F σ G3 H3 (((s.grow g1).grow g2).grow g3) _ fun w' G4 H4 g4 i4 => hr' w w' G4 H4 g4.s (i2.up (g3.g.trans g4.g)) i4 Q fun u' G5 H5 g5 i5 => q u' G5 H5 ((((g1.trans g2).trans g3).trans g4).trans g5) i5
    | false => exact q _ G3 H3 ((g1.trans g2).trans g3) (.bl _)
theorem ed_chain {op op' : CmpOp} {k k' : Bool} (ho : OpD X (compareOp op) x y (.bl k)) (ho' : OpD X (compareOp op') y z (.bl k')) (ha : ED X Γ a x) (hb : ED X Γ b y) (hc : ED X Γ c z) (hm : lastMarks [op, op'] [b, c] = false := by with_unfolding_all rfl) :
    ED X Γ (.Compare a [op, op'] [b, c] pos) (.bl (k && k')) := by
  obtain ⟨r, h1, h2⟩ := ho
  obtain ⟨r', h3, h4⟩ := ho'
  exact ed_of (pe_chain h1 h3 pe_w pe_w pe_w hm) (ev_chain ha hb hc h2 h4)
theorem et_chain {op op' : CmpOp} {k k' : Bool} (ho : OpD X (compareOp op) x y (.bl k)) (ho' : OpD X (compareOp op') y z (.bl k')) (ha : ED X Γ a x) (hb : ED X Γ b y) (hc : ED X Γ c z) (hm : lastMarks [op, op'] [b, c] = false := by with_unfolding_all rfl) :
    ET X Γ (.Compare a [op, op'] [b, c] pos) (k && k') := by
  obtain ⟨r, h1, h2⟩ := ho
  obtain ⟨r', h3, h4⟩ := ho'
  exact et_of (pt_chain h1 h3 pe_w pe_w pe_w hm) (ev_test (ev_chain ha hb hc h2 h4))

/-! ### and, or, not: as values (truths), as tests -/
variable {rest : List Expr} {k k' : Bool}
theorem ed_and (ha : ED X Γ a (.bl k)) (hb : k = true → ED X Γ (.BoolOp .And (b :: rest) pos) (.bl k')) : ED X Γ (.BoolOp .And (a :: b :: rest) pos) (.bl (k && k')) :=
  ed_of (pe_and pe_w pe_w) fun F σ G H s Q q => ha F σ G H s _ fun v G1 H1 g1 i1 => by
    cases i1
    refine ⟨k, rfl, ?_⟩
    cases k with
    | true => exact hb rfl F σ G1 H1 (s.grow g1) _ fun v G2 H2 g2 i2 => q v G2 H2 (g1.trans g2) i2
    | false => exact q _ G1 H1 g1 (.bl _)
theorem ed_or (ha : ED X Γ a (.bl k)) (hb : k = false → ED X Γ (.BoolOp .Or (b :: rest) pos) (.bl k')) : ED X Γ (.BoolOp .Or (a :: b :: rest) pos) (.bl (k || k')) :=
  ed_of (pe_or pe_w pe_w) fun F σ G H s Q q => ha F σ G H s _ fun v G1 H1 g1 i1 => by
    cases i1
    refine ⟨k, rfl, ?_⟩
    cases k with
    | false => exact hb rfl F σ G1 H1 (s.grow g1) _ fun v G2 H2 g2 i2 => q v G2 H2 (g1.trans g2) i2
    | true => exact q _ G1 H1 g1 (.bl _)
theorem ed_one {op : BoolOp} (ha : ED X Γ a x) : ED X Γ (.BoolOp op [a] pos) x := ed_of (pe_one pe_w) ha
theorem ed_not (ha : ED X Γ a (.bl k)) : ED X Γ (.UnaryOp .Not a pos) (.bl (!k)) := ed_of (pe_not pe_w) fun F σ G H s Q q => ha F σ G H s _ fun v G1 H1 g1 i1 => by
  cases i1
  exact ⟨k, rfl, q _ G1 H1 g1 (.bl _)⟩
theorem ew_and (ha : ET X Γ a k) (hb : k = true → EW X Γ (.BoolOp .And (b :: rest) pos) k') : EW X Γ (.BoolOp .And (a :: b :: rest) pos) (k && k') :=
  ew_of (pw_and pt_w pw_w) fun F σ G H s Q q => ha F σ G H s _ fun G1 H1 g1 => by
    cases k with
    | true => exact hb rfl F σ G1 H1 (s.grow g1) _ fun G2 H2 g2 => q G2 H2 (g1.trans g2)
    | false => exact q G1 H1 g1
theorem ew_or (ha : ET X Γ a k) (hb : k = false → EW X Γ (.BoolOp .Or (b :: rest) pos) k') : EW X Γ (.BoolOp .Or (a :: b :: rest) pos) (k || k') :=
  ew_of (pw_or pt_w pw_w) fun F σ G H s Q q => ha F σ G H s _ fun G1 H1 g1 => by
    cases k with
    | false => exact hb rfl F σ G1 H1 (s.grow g1) _ fun G2 H2 g2 => q G2 H2 (g1.trans g2)
    | true => exact q G1 H1 g1
theorem ew_and1 (ha : ET X Γ a k) : EW X Γ (.BoolOp .And [a] pos) k := ew_of (pw_and1 pt_w) ha
theorem ew_or1 (ha : ET X Γ a k) : EW X Γ (.BoolOp .Or [a] pos) k := ew_of (pw_or1 pt_w) ha
theorem et_w (h : EW X Γ a k) : ET X Γ a k := et_of pw_w.pt h
theorem et_not (ha : ET X Γ a k) : ET X Γ (.UnaryOp .Not a pos) (!k) := et_of (pt_not pt_w) fun F σ G H s Q q => ha F σ G H s _ fun G1 H1 g1 => q G1 H1 g1
theorem ed_if {α : Type} {f : α → D} {u v : α} (ht : ET X Γ c k) (ha : k = true → ED X Γ a (f u)) (hb : k = false → ED X Γ b (f v)) : ED X Γ (.IfExp c a b pos) (f (if k = true then u else v)) :=
  ed_of (pe_ifExp pt_w pe_w pe_w) fun F σ G H s Q q => ht F σ G H s _ fun G1 H1 g1 => by
    cases k with
    | true => exact ha rfl F σ G1 H1 (s.grow g1) _ fun v G2 H2 g2 i2 => q v G2 H2 (g1.trans g2) i2
    | false => exact hb rfl F σ G1 H1 (s.grow g1) _ fun v G2 H2 g2 i2 => q v G2 H2 (g1.trans g2) i2
end

/-! ### single operators -/
section
variable {X : Cx}
theorem rv_int {K : PySem.W.Frag} {r : R2} {i j : Int} {z : D} {u : V} (hz : ∀ G, Is K G u z) (h : ∀ H Q, Q u H → r (.int i) (.int j) H Q) : RV K r (.int i) (.int j) z := fun v w G H e iv iw Q q => by
  cases iv
  cases iw
  exact h H Q (q u G H (.refl e) (hz G))
theorem od_add (i j : Int) : OpD X (binaryOp .Add) (.int i) (.int j) (.int (i + j)) := ⟨_, op_add, rv_int (fun _ => .int _) fun H Q q => ⟨i, j, rfl, rfl, q⟩⟩
theorem od_sub (i j : Int) : OpD X (binaryOp .Sub) (.int i) (.int j) (.int (i - j)) := ⟨_, op_sub, rv_int (fun _ => .int _) fun H Q q => ⟨i, j, rfl, rfl, q⟩⟩
theorem od_mul (i j : Int) (h : CMul i j) : OpD X (binaryOp .Mult) (.int i) (.int j) (.int (i * j)) := ⟨_, op_mul, rv_int (fun _ => .int _) fun H Q q => ⟨i, j, rfl, rfl, h, q⟩⟩
theorem od_mulW (i j : Int) (h : CMulW i j) : OpD X (binaryOp .Mult) (.int i) (.int j) (.int (i * j)) := ⟨_, op_mulW, rv_int (fun _ => .int _) fun H Q q => ⟨i, j, rfl, rfl, h, q⟩⟩
theorem od_div (i j : Int) (h : CDiv i j) : OpD X (binaryOp .FloorDiv) (.int i) (.int j) (.int (i / j)) := ⟨_, op_fdiv, rv_int (fun _ => .int _) fun H Q q => ⟨i, j, rfl, rfl, h, q⟩⟩
theorem od_divW (i j : Int) (h : CDivW i j) : OpD X (binaryOp .FloorDiv) (.int i) (.int j) (.int (i / j)) := ⟨_, op_fdivW, rv_int (fun _ => .int _) fun H Q q => ⟨i, j, rfl, rfl, h, q⟩⟩
theorem od_mod (i j : Int) (h : 0 < j) : OpD X (binaryOp .Mod) (.int i) (.int j) (.int (i % j)) := ⟨_, op_mod, rv_int (fun _ => .int _) fun H Q q => ⟨i, j, rfl, rfl, h, q⟩⟩
theorem od_shr (i j : Int) (h : 0 ≤ j) : OpD X (binaryOp .RShift) (.int i) (.int j) (.int (i / 2 ^ j.toNat)) := ⟨_, op_shr, rv_int (fun _ => .int _) fun H Q q => ⟨i, j, rfl, rfl, h, q⟩⟩
theorem od_shl1 (k : Nat) (h : k ≤ 134217727) : OpD X (binaryOp .LShift) (.int 1) (.int (k : Int)) (.int (2 ^ k)) := ⟨_, op_oneShl, rv_int (fun _ => .int _) fun H Q q => ⟨k, rfl, rfl, h, q⟩⟩
theorem od_pow (i j : Int) (h : CPow i j) : OpD X (binaryOp .Pow) (.int i) (.int j) (.int (i ^ j.toNat)) := ⟨_, op_pow, rv_int (fun _ => .int _) fun H Q q => ⟨i, j, rfl, rfl, h, q⟩⟩
theorem od_andM (i j : Int) (k : Nat) (h : j = 2 ^ k - 1) : OpD X (binaryOp .BitAnd) (.int i) (.int j) (.int (i % 2 ^ k)) := ⟨_, op_andM, rv_int (fun _ => .int _) fun H Q q => ⟨i, k, rfl, by rw [h], q⟩⟩
theorem od_or (i j : Int) : OpD X (binaryOp .BitOr) (.int i) (.int j) (.int (Builtin.bitOr i j)) := ⟨_, op_or, rv_int (fun _ => .int _) fun H Q q => ⟨i, j, rfl, rfl, q⟩⟩
theorem od_lt (i j : Int) : OpD X (compareOp .Lt) (.int i) (.int j) (.bl (decide (i < j))) := ⟨_, op_lt, rv_int (fun _ => .bl _) fun H Q q => ⟨i, j, rfl, rfl, q⟩⟩
theorem od_le (i j : Int) : OpD X (compareOp .LtE) (.int i) (.int j) (.bl (decide (i ≤ j))) := ⟨_, op_le, rv_int (fun _ => .bl _) fun H Q q => ⟨i, j, rfl, rfl, q⟩⟩
theorem od_gt (i j : Int) : OpD X (compareOp .Gt) (.int i) (.int j) (.bl (decide (j < i))) := ⟨_, op_gt, rv_int (fun _ => .bl _) fun H Q q => ⟨i, j, rfl, rfl, q⟩⟩
theorem od_ge (i j : Int) : OpD X (compareOp .GtE) (.int i) (.int j) (.bl (decide (j ≤ i))) := ⟨_, op_ge, rv_int (fun _ => .bl _) fun H Q q => ⟨i, j, rfl, rfl, q⟩⟩
theorem dec_iff {p q : Prop} [Decidable p] [Decidable q] (h : p ↔ q) : decide p = decide q := by
  by_cases hp : p
  · rw [decide_eq_true hp, decide_eq_true (h.mp hp)]
  · rw [decide_eq_false hp, decide_eq_false fun z => hp (h.mpr z)]
theorem S_inj {l m : List Nat} : S l = S m ↔ l = m := ⟨fun h => by have := congrArg (fun z : Str => z.cps.toList) h; simpa using this, fun h => by rw [h]⟩
theorem od_eqI (i j : Int) : OpD X (compareOp .Eq) (.int i) (.int j) (.bl (decide (i = j))) := ⟨_, op_eq, rv_int (fun _ => .bl _) fun H Q q => ⟨rfl, by rw [dec_iff (show V.int i = V.int j ↔ i = j from ⟨fun z => V.int.inj z, fun z => by rw [z]⟩)]; exact q⟩⟩
theorem od_neI (i j : Int) : OpD X (compareOp .NotEq) (.int i) (.int j) (.bl (!decide (i = j))) := ⟨_, op_ne, rv_int (fun _ => .bl _) fun H Q q => ⟨rfl, by rw [dec_iff (show V.int i = V.int j ↔ i = j from ⟨fun z => V.int.inj z, fun z => by rw [z]⟩)]; exact q⟩⟩
theorem rv_str {K : PySem.W.Frag} {r : R2} {i j : List Nat} {z : D} {u : V} (hz : ∀ G, Is K G u z) (h : ∀ H Q, Q u H → r (.str (S i)) (.str (S j)) H Q) : RV K r (.str i) (.str j) z := fun v w G H e iv iw Q q => by
  cases iv
  cases iw
  exact h H Q (q u G H (.refl e) (hz G))
theorem dec_str (i j : List Nat) : decide (V.str (S i) = V.str (S j)) = decide (i = j) := dec_iff ⟨fun z => S_inj.mp (V.str.inj z), fun z => by rw [z]⟩
theorem od_eqS (i j : List Nat) : OpD X (compareOp .Eq) (.str i) (.str j) (.bl (decide (i = j))) := ⟨_, op_eq, rv_str (fun _ => .bl _) fun H Q q => ⟨rfl, by rw [dec_str]; exact q⟩⟩
theorem od_neS (i j : List Nat) : OpD X (compareOp .NotEq) (.str i) (.str j) (.bl (!decide (i = j))) := ⟨_, op_ne, rv_str (fun _ => .bl _) fun H Q q => ⟨rfl, by rw [dec_str]; exact q⟩⟩
theorem dec_bl (i j : Bool) : decide (V.bl i = V.bl j) = decide (i = j) := dec_iff ⟨fun z => V.bl.inj z, fun z => by rw [z]⟩
theorem od_eqB (i j : Bool) : OpD X (compareOp .Eq) (.bl i) (.bl j) (.bl (decide (i = j))) := ⟨_, op_eq, fun v w G H e iv iw Q q => by
  cases iv
  cases iw
  exact ⟨rfl, by rw [dec_bl]; exact q _ G H (.refl e) (.bl _)⟩⟩
theorem od_neB (i j : Bool) : OpD X (compareOp .NotEq) (.bl i) (.bl j) (.bl (!decide (i = j))) := ⟨_, op_ne, fun v w G H e iv iw Q q => by
  cases iv
  cases iw
  exact ⟨rfl, by rw [dec_bl]; exact q _ G H (.refl e) (.bl _)⟩⟩
theorem S_app (i j : List Nat) : S i ++ S j = S (i ++ j) := by
  show Str.mk (i.toArray ++ j.toArray) = Str.mk (i ++ j).toArray
  simp
theorem S_len (i : List Nat) : (S i).length = i.length := by simp [S, Str.length]
theorem od_addS (i j : List Nat) (h : i.length + j.length ≤ sizeLine) : OpD X (binaryOp .Add) (.str i) (.str j) (.str (i ++ j)) := ⟨_, op_add_str, rv_str (fun _ => .str _) fun H Q q => ⟨_, _, rfl, rfl, by rw [S_len, S_len]; exact h, by rw [S_app]; exact q⟩⟩
/-- one sign in a text -/
theorem od_inS (c : Nat) (j : List Nat) : OpD X (compareOp .In) (.str [c]) (.str j) (.bl (decide (c ∈ j))) := ⟨_, op_in_sign, rv_str (fun _ => .bl _) fun H Q q => ⟨c, _, rfl, rfl, by simpa using q⟩⟩
theorem od_notInS (c : Nat) (j : List Nat) : OpD X (compareOp .NotIn) (.str [c]) (.str j) (.bl (!decide (c ∈ j))) := ⟨_, op_notIn_sign, rv_str (fun _ => .bl _) fun H Q q => ⟨c, _, rfl, rfl, by simpa using q⟩⟩
/-- is None -/
def isNon : D → Bool
  | .non => true
  | _ => false
theorem isNon_iff {K : PySem.W.Frag} {G : Hp} {v : V} {d : D} (h : Is K G v d) : decide (v = .non) = isNon d := by
  cases h <;> rfl
theorem od_isN (x : D) : OpD X (compareOp .Is) x .non (.bl (isNon x)) := ⟨_, op_isN, fun v w G H e iv iw Q q => by
  cases iw
  exact ⟨rfl, by rw [isNon_iff iv]; exact q _ G H (.refl e) (.bl _)⟩⟩
theorem od_notN (x : D) : OpD X (compareOp .IsNot) x .non (.bl (!isNon x)) := ⟨_, op_notN, fun v w G H e iv iw Q q => by
  cases iw
  exact ⟨rfl, by rw [isNon_iff iv]; exact q _ G H (.refl e) (.bl _)⟩⟩
end
section
variable {X : Cx} {Γ : List B} {pos : Pos} {a : Expr}
theorem ed_neg {i : Int} (ha : ED X Γ a (.int i)) : ED X Γ (.UnaryOp .USub a pos) (.int (-i)) := ed_of (pe_un un_neg pe_w) fun F σ G H s Q q => ha F σ G H s _ fun v G1 H1 g1 i1 => by
  cases i1
  exact ⟨i, rfl, q _ G1 H1 g1 (.int _)⟩
end

/-! ### lists, tuples -/
section
variable {X : Cx} {Γ : List B} {pos : Pos} {a b : Expr} {e : Expr} {es : List Expr} {x : D} {ds ds' : List D}
theorem ea_nil : EA X Γ [] [] := ea_of pa_nil fun F σ G H s Q q => q [] G H (.refl s.sub) .nil
theorem ea_cons (h : ED X Γ e x) (ht : EA X Γ es ds) (he : starEach (e :: es) X.env = (false, eval e X.env) :: starEach es X.env := by exact starEach_ns rfl) : EA X Γ (e :: es) (x :: ds) :=
  ea_of (pa_cons pe_w pa_w he) fun F σ G H s Q q => h F σ G H s _ fun v G1 H1 g1 i1 => ht F σ G1 H1 (s.grow g1) _ fun vs G2 H2 g2 i2 => q _ G2 H2 (g1.trans g2) (.cons (i1.up g2.g) i2)
theorem ed_tup {k : Nat} (h : EA X Γ es ds) (hl : ds.length ≤ sizeLine) : ED X Γ (.Tuple es k pos) (.tup ds) := ed_of (pe_tup pa_w) fun F σ G H s Q q => h F σ G H s _ fun vs G1 H1 g1 i1 =>
  ⟨by rw [i1.len]; exact hl, fun p hp => q _ _ _ (g1.trans (Grow.new g1.s hp)) (.tup (Or.inl (Or.inl upd_same)) (i1.up (Evl.Ex.new (Evl.fresh_back g1.s hp))))⟩
theorem eo_lst (h : EA X Γ es ds) (hl : ds.length ≤ sizeLine) : EO X Γ (.List es pos) (.lst ds) := eo_of (pe_lst pa_w) fun F σ G H s Q q => h F σ G H s _ fun vs G1 H1 g1 i1 =>
  ⟨by rw [i1.len]; exact hl, fun p hp => q _ _ _ _ (g1.trans (Grow.lay g1.s hp)) upd_same (Evl.fresh_back g1.s hp) (Evl.fresh_back g1.h hp) i1⟩
theorem atI_map {α β : Type} {f : α → β} {xs : List α} {i : Int} {y : α} (h : atI xs i = some y) : atI (xs.map f) i = some (f y) := by
  unfold atI at h ⊢
  rw [List.length_map]
  cases hi : ixN xs.length i with
  | none =>
    rw [hi] at h
    cases h
  | some j =>
    rw [hi] at h
    have h' : xs[j]? = some y := h
    show (xs.map f)[j]? = some (f y)
    rw [List.getElem?_map, h']
    rfl
theorem IsAll.atI {K : PySem.W.Frag} {G : Hp} {vs : List V} {i : Int} (h : IsAll K G vs ds) (e : L2.atI ds i = some x) : ∃ v, L2.atI vs i = some v ∧ Is K G v x := by
  unfold L2.atI at e ⊢
  rw [h.len]
  cases hi : ixN ds.length i with
  | none =>
    rw [hi] at e
    cases e
  | some j =>
    rw [hi] at e
    exact h.get (show ds[j]? = some x from e)
theorem ed_ixL {i : Int} (ha : EL X Γ a ds) (hb : ED X Γ b (.int i)) (h : atI ds i = some x) (hs : PlainIx b := by exact ix_ns rfl) : ED X Γ (.Subscript a b pos) x :=
  ed_of (pe_ix ix_list pe_w pe_w hs) fun F σ G H s Q q => ha F σ G H s _ fun p vs G1 H1 g1 h1 i1 => hb F σ G1 H1 (s.grow g1) _ fun w G2 H2 g2 i2 => by
    cases i2
    obtain ⟨v, e1, e2⟩ := i1.atI h
    exact ⟨p, vs, i, v, rfl, rfl, .inl (.inl (g2.h _ _ h1)), e1, q v G2 H2 (g1.trans g2) (e2.up g2.g)⟩
theorem ed_ixT {i : Int} (ha : ED X Γ a (.tup ds)) (hb : ED X Γ b (.int i)) (h : atI ds i = some x) (hs : PlainIx b := by exact ix_ns rfl) : ED X Γ (.Subscript a b pos) x :=
  ed_of (pe_ix ix_tup pe_w pe_w hs) fun F σ G H s Q q => ha F σ G H s _ fun v G1 H1 g1 i1 => hb F σ G1 H1 (s.grow g1) _ fun w G2 H2 g2 i2 => by
    cases i1 with
    | tup h1 h2 =>
      cases i2
      obtain ⟨v, e1, e2⟩ := h2.atI h
      exact ⟨_, _, i, v, rfl, rfl, Evl.ex_t (g2.g.trans g2.s) h1, e1, q v G2 H2 (g1.trans g2) (e2.up g2.g)⟩
theorem ed_ixS {i : Int} {l : List Nat} {c : Nat} (ha : ED X Γ a (.str l)) (hb : ED X Γ b (.int i)) (h : atI l i = some c) (hl : l.length ≤ sizeLine) (hs : PlainIx b := by exact ix_ns rfl) : ED X Γ (.Subscript a b pos) (.str [c]) :=
  ed_of (pe_ix ix_str pe_w pe_w hs) fun F σ G H s Q q => ha F σ G H s _ fun v G1 H1 g1 i1 => hb F σ G1 H1 (s.grow g1) _ fun w G2 H2 g2 i2 => by
    cases i1
    cases i2
    exact ⟨_, i, c, rfl, rfl, by rw [S_len]; exact hl, by simpa using h, q _ G2 H2 (g1.trans g2) (.str [c])⟩
/-! slices -/
def cutL {α : Type} (xs : List α) (lo hi : Option Int) : List α := (xs.drop (HT.sIx xs.length 0 lo)).take (HT.sIx xs.length xs.length hi - HT.sIx xs.length 0 lo)
theorem cutL_map {α β : Type} {f : α → β} (xs : List α) (lo hi : Option Int) : cutL (xs.map f) lo hi = (cutL xs lo hi).map f := by
  unfold cutL
  rw [List.length_map, List.map_take, List.map_drop]
def EPo (X : Cx) (Γ : List B) (o : Option Expr) (i : Option Int) : Prop := ∃ t, PO X o t ∧ EvP X.K Γ t i
theorem ep_none : EPo X Γ none none := ⟨_, po_none, fun F σ G H s Q q => q G H (.refl s.sub)⟩
theorem ep_some {i : Int} (h : ED X Γ e (.int i)) : EPo X Γ (some e) (some i) := ⟨_, po_some pe_w, fun F σ G H s Q q => h F σ G H s _ fun v G1 H1 g1 i1 => by
  cases i1
  exact ⟨i, rfl, q G1 H1 g1⟩⟩
theorem eo_slL {lo hi : Option Expr} {i j : Option Int} {p2 : Pos} (ha : EL X Γ a ds) (hl : EPo X Γ lo i) (hu : EPo X Γ hi j) : EO X Γ (.Subscript a (.Slice lo hi none p2) pos) (.lst (cutL ds i j)) := by
  obtain ⟨tl, k1, k2⟩ := hl
  obtain ⟨tu, k3, k4⟩ := hu
  refine eo_of (pe_slice sl_list pe_w k1 k3) fun F σ G H s Q q => ha F σ G H s _ fun p vs G1 H1 g1 h1 i1 => k2 F σ G1 H1 (s.grow g1) _ fun G2 H2 g2 => k4 F σ G2 H2 ((s.grow g1).grow g2) _ fun G3 H3 g3 => ?_
  have g := (g1.trans g2).trans g3
  refine ⟨p, vs, rfl, .inl (.inl (g3.h _ _ (g2.h _ _ h1))), fun l hl => q l _ G3 _ (g.trans (Grow.lay g3.s hl)) upd_same (Evl.fresh_back g3.s hl) (Evl.fresh_back g.h hl) ?_⟩
  have i3 := i1.up (g2.g.trans g3.g)
  show IsAll _ _ (cutV vs i j) (cutL ds i j)
  unfold cutV cutL
  rw [i3.len]
  exact (i3.drop _).take _
theorem ed_slS {lo hi : Option Expr} {i j : Option Int} {p2 : Pos} {l : List Nat} (ha : ED X Γ a (.str l)) (hl : EPo X Γ lo i) (hu : EPo X Γ hi j) (hz : l.length ≤ sizeLine) : ED X Γ (.Subscript a (.Slice lo hi none p2) pos) (.str (cutL l i j)) := by
  obtain ⟨tl, k1, k2⟩ := hl
  obtain ⟨tu, k3, k4⟩ := hu
  refine ed_of (pe_slice sl_str pe_w k1 k3) fun F σ G H s Q q => ha F σ G H s _ fun v G1 H1 g1 i1 => k2 F σ G1 H1 (s.grow g1) _ fun G2 H2 g2 => k4 F σ G2 H2 ((s.grow g1).grow g2) _ fun G3 H3 g3 => ?_
  cases i1
  refine ⟨_, rfl, by rw [S_len]; exact hz, ?_⟩
  have e : cutS (S l) i j = S (cutL l i j) := by
    unfold cutS cutL
    rw [S_len]
  rw [e]
  exact q _ G3 H3 ((g1.trans g2).trans g3) (.str _)
/-! + and * of lists -/
theorem eo_cat (ha : EL X Γ a ds) (hb : EL X Γ b ds') (hl : ds.length + ds'.length ≤ sizeLine) : EO X Γ (.BinOp a .Add b pos) (.lst (ds ++ ds')) :=
  eo_of (pe_op op_cat pe_w pe_w) fun F σ G H s Q q => ha F σ G H s _ fun p vs G1 H1 g1 h1 i1 => hb F σ G1 H1 (s.grow g1) _ fun p' ws G2 H2 g2 h2 i2 =>
    ⟨p, p', vs, ws, rfl, rfl, g2.h _ _ h1, h2, by rw [i1.len, i2.len]; exact hl, fun l hl => q l _ G2 _ ((g1.trans g2).trans (Grow.lay g2.s hl)) upd_same (Evl.fresh_back g2.s hl) (Evl.fresh_back (g1.trans g2).h hl) ((i1.up g2.g).app i2)⟩
theorem IsAll.rep {K : PySem.W.Frag} {G : Hp} {vs : List V} (h : IsAll K G vs ds) : ∀ n : Nat, IsAll K G (List.replicate n vs).flatten (List.replicate n ds).flatten
  | 0 => .nil
  | n + 1 => by
    rw [List.replicate_succ, List.replicate_succ, List.flatten_cons, List.flatten_cons]
    exact h.app (h.rep n)
theorem eo_rep {k : Int} (ha : EL X Γ a ds) (hb : ED X Γ b (.int k)) (h1 : -(2 ^ 63) ≤ k ∧ k < 2 ^ 63) (hl : ds.length * k.toNat ≤ sizeLine) : EO X Γ (.BinOp a .Mult b pos) (.lst (List.replicate k.toNat ds).flatten) :=
  eo_of (pe_op op_rep pe_w pe_w) fun F σ G H s Q q => ha F σ G H s _ fun p vs G1 H1 g1 e1 i1 => hb F σ G1 H1 (s.grow g1) _ fun w G2 H2 g2 i2 => by
    cases i2
    exact ⟨p, k, vs, rfl, rfl, g2.h _ _ e1, h1.1, h1.2, by rw [i1.len]; exact hl, fun l hl => q l _ G2 _ ((g1.trans g2).trans (Grow.lay g2.s hl)) upd_same (Evl.fresh_back g2.s hl) (Evl.fresh_back (g1.trans g2).h hl) ((i1.up g2.g).rep _)⟩
end

/-! ### built-ins -/
section
variable {X : Cx} {Γ : List B} {pos p : Pos} {a b : Expr} {e : Expr} {es : List Expr} {x : D} {ds ds' : List D}
theorem ev_cb1 {K : PySem.W.Frag} {r : List V → Hp → VK → Prop} {ta : TA} {z : D} (ha : EvA K Γ ta ds) (hr : ∀ vs G H, Ex G H → IsAll K G vs ds → ∀ Q : VK, (∀ u G' H', Grow G H G' H' → Is K G' u z → Q u H') → r vs H Q) : EvD K Γ (tCB r ta) z := fun F σ G H s Q q =>
  ha F σ G H s _ fun vs G1 H1 g1 i1 => hr vs G1 H1 g1.s i1 Q fun u G2 H2 g2 i2 => q u G2 H2 (g1.trans g2) i2
/-- f(e, ..), f a built-in whose answer hangs on the data alone -/
theorem ed_callB {f : String} {nm : Str} {r : List V → Hp → VK → Prop} {z : D} (hc : CallR X (.builtin f) r) (hg : Gl X nm) (hm : X.mg nm = none) (hv : bootBuiltins nm = some (.builtin f)) (ha : EA X Γ (e :: es) ds)
    (hr : ∀ vs G H, Ex G H → IsAll X.K G vs ds → ∀ Q : VK, (∀ u G' H', Grow G H G' H' → Is X.K G' u z → Q u H') → r vs H Q)
    (hn : nm ≠ "__name__" := by decide) (hdb : (nm == ("__debug__" : Str)) = false := by decide) (he : starEach (e :: es) X.env = (false, eval e X.env) :: starEach es X.env := by exact starEach_ns rfl) (hpl : (backTo pos (starEach es X.env)).any (·.1) = false := by exact plain_ok rfl) :
    ED X Γ (.Call (.Name nm p) (e :: es) [] pos) z := ed_of (pe_callB hc hg hm hv pa_w hn hdb he hpl) (ev_cb1 ha hr)
theorem ed_callTy {f : String} {nm : Str} {r : List V → Hp → VK → Prop} {z : D} (hc : CallR X (.type f) r) (hg : Gl X nm) (hm : X.mg nm = none) (hv : bootBuiltins nm = some (.type f)) (ha : EA X Γ (e :: es) ds)
    (hr : ∀ vs G H, Ex G H → IsAll X.K G vs ds → ∀ Q : VK, (∀ u G' H', Grow G H G' H' → Is X.K G' u z → Q u H') → r vs H Q)
    (hn : nm ≠ "__name__" := by decide) (hdb : (nm == ("__debug__" : Str)) = false := by decide) (he : starEach (e :: es) X.env = (false, eval e X.env) :: starEach es X.env := by exact starEach_ns rfl) (hpl : (backTo pos (starEach es X.env)).any (·.1) = false := by exact plain_ok rfl) :
    ED X Γ (.Call (.Name nm p) (e :: es) [] pos) z := ed_of (pe_callTy hc hg hm hv pa_w hn hdb he hpl) (ev_cb1 ha hr)
theorem ed_lenS {l : List Nat} (hg : Gl X "len") (hm : X.mg "len" = none) (ha : ED X Γ a (.str l)) (hz : l.length ≤ sizeLine) (he : starEach [a] X.env = (false, eval a X.env) :: starEach [] X.env := by exact starEach_ns rfl) (hpl : (backTo pos (starEach [] X.env)).any (·.1) = false := by exact plain_ok rfl) : ED X Γ (.Call (.Name "len" p) [a] [] pos) (.int l.length) :=
  ed_callB call_len_str hg hm boot_len (ea_cons ha ea_nil he) (fun vs G H ex i Q q => by
    cases i with
    | cons i1 i2 =>
      cases i1
      cases i2
      refine ⟨_, rfl, by rw [S_len]; exact hz, ?_⟩
      rw [S_len]
      exact q _ G H (.refl ex) (.int _)) (by decide) (by decide) he hpl
theorem ed_lenT (hg : Gl X "len") (hm : X.mg "len" = none) (ha : ED X Γ a (.tup ds)) (he : starEach [a] X.env = (false, eval a X.env) :: starEach [] X.env := by exact starEach_ns rfl) (hpl : (backTo pos (starEach [] X.env)).any (·.1) = false := by exact plain_ok rfl) : ED X Γ (.Call (.Name "len" p) [a] [] pos) (.int ds.length) :=
  ed_callB call_len_seq hg hm boot_len (ea_cons ha ea_nil he) (fun vs G H ex i Q q => by
    cases i with
    | cons i1 i2 =>
      cases i2
      cases i1 with
      | tup h1 h2 =>
        refine ⟨_, _, rfl, .inr (Evl.ex_t ex h1), ?_⟩
        rw [h2.len]
        exact q _ G H (.refl ex) (.int _)) (by decide) (by decide) he hpl
theorem ed_lenL (hg : Gl X "len") (hm : X.mg "len" = none) (ha : EL X Γ a ds) (he : starEach [a] X.env = (false, eval a X.env) :: starEach [] X.env := by exact starEach_ns rfl) (hpl : (backTo pos (starEach [] X.env)).any (·.1) = false := by exact plain_ok rfl) : ED X Γ (.Call (.Name "len" p) [a] [] pos) (.int ds.length) :=
  ed_of (pe_callB call_len_seq hg hm boot_len (pa_cons pe_w pa_nil he) (by decide) (by decide) he hpl) fun F σ G H s Q q => ha F σ G H s _ fun p vs G1 H1 g1 h1 i1 => by
    refine ⟨p, vs, rfl, .inl (.inl (.inl h1)), ?_⟩
    rw [i1.len]
    exact q _ G1 H1 g1 (.int _)
/-- len of the script -/
theorem ed_lenScr {ns : List Int} (hg : Gl X "len") (hm : X.mg "len" = none) (ha : ED X Γ a (.scr ns)) (he : starEach [a] X.env = (false, eval a X.env) :: starEach [] X.env := by exact starEach_ns rfl) (hpl : (backTo pos (starEach [] X.env)).any (·.1) = false := by exact plain_ok rfl) : ED X Γ (.Call (.Name "len" p) [a] [] pos) (.int ns.length) :=
  ed_callB call_len_seq hg hm boot_len (ea_cons ha ea_nil he) (fun vs G H ex i Q q => by
    cases i with
    | cons i1 i2 =>
      cases i2
      cases i1 with
      | scr h1 =>
        refine ⟨_, _, rfl, .inl (Evl.ex_l ex h1), ?_⟩
        rw [List.length_map]
        exact q _ G H (.refl ex) (.int _)) (by decide) (by decide) he hpl
theorem ed_ixScr {i : Int} {ns : List Int} {n : Int} (ha : ED X Γ a (.scr ns)) (hb : ED X Γ b (.int i)) (h : atI ns i = some n) (hs : PlainIx b := by exact ix_ns rfl) : ED X Γ (.Subscript a b pos) (.int n) :=
  ed_of (pe_ix ix_list pe_w pe_w hs) fun F σ G H s Q q => ha F σ G H s _ fun v G1 H1 g1 i1 => hb F σ G1 H1 (s.grow g1) _ fun w G2 H2 g2 i2 => by
    cases i1 with
    | scr h1 =>
      cases i2
      exact ⟨_, _, i, .int n, rfl, rfl, Evl.ex_l (g2.g.trans g2.s) h1, atI_map h, q _ G2 H2 (g1.trans g2) (.int n)⟩
theorem ed_max2 {i j : Int} (hc : X.calm = true) (hg : Gl X "max") (hm : X.mg "max" = none) (ha : ED X Γ a (.int i)) (hb : ED X Γ b (.int j)) (he : starEach [a, b] X.env = (false, eval a X.env) :: starEach [b] X.env := by exact starEach_ns rfl) (he2 : starEach [b] X.env = (false, eval b X.env) :: starEach [] X.env := by exact starEach_ns rfl) (hpl : (backTo pos (starEach [b] X.env)).any (·.1) = false := by exact plain_ok rfl) : ED X Γ (.Call (.Name "max" p) [a, b] [] pos) (.int (if j > i then j else i)) :=
  ed_callB (call_max2 hc) hg hm (by decide +kernel) (ea_cons ha (ea_cons hb ea_nil he2) he) (fun vs G H ex i Q q => by
    cases i with
    | cons i1 i2 =>
      cases i2 with
      | cons i2 i3 =>
        cases i1
        cases i2
        cases i3
        exact ⟨_, _, rfl, q _ G H (.refl ex) (.int _)⟩) (by decide) (by decide) he hpl
theorem ed_min2 {i j : Int} (hc : X.calm = true) (hg : Gl X "min") (hm : X.mg "min" = none) (ha : ED X Γ a (.int i)) (hb : ED X Γ b (.int j)) (he : starEach [a, b] X.env = (false, eval a X.env) :: starEach [b] X.env := by exact starEach_ns rfl) (he2 : starEach [b] X.env = (false, eval b X.env) :: starEach [] X.env := by exact starEach_ns rfl) (hpl : (backTo pos (starEach [b] X.env)).any (·.1) = false := by exact plain_ok rfl) : ED X Γ (.Call (.Name "min" p) [a, b] [] pos) (.int (if j < i then j else i)) :=
  ed_callB (call_min2 hc) hg hm (by decide +kernel) (ea_cons ha (ea_cons hb ea_nil he2) he) (fun vs G H ex i Q q => by
    cases i with
    | cons i1 i2 =>
      cases i2 with
      | cons i2 i3 =>
        cases i1
        cases i2
        cases i3
        exact ⟨_, _, rfl, q _ G H (.refl ex) (.int _)⟩) (by decide) (by decide) he hpl
theorem ed_all {bs : List Bool} (hc : X.calm = true) (hg : Gl X "all") (hm : X.mg "all" = none) (ha : EL X Γ a (bs.map D.bl)) (he : starEach [a] X.env = (false, eval a X.env) :: starEach [] X.env := by exact starEach_ns rfl) (hpl : (backTo pos (starEach [] X.env)).any (·.1) = false := by exact plain_ok rfl) : ED X Γ (.Call (.Name "all" p) [a] [] pos) (.bl (bs.all id)) :=
  ed_of (pe_callB (cr_all hc) hg hm (by decide +kernel) (pa_cons pe_w pa_nil he) (by decide) (by decide) he hpl) fun F σ G H s Q q => ha F σ G H s _ fun p vs G1 H1 g1 h1 i1 => by
    have e := i1.bls
    subst e
    exact ⟨p, bs, rfl, .inl (.inl h1), q _ G1 H1 g1 (.bl _)⟩
/-- isinstance(x, T), T a built-in type -/
def tyD : D → Option String
  | .non => some "NoneType" | .bl _ => some "bool" | .int _ => some "int" | .str _ => some "str" | .lst _ => some "list" | .tup _ => some "tuple" | .dct _ => some "dict" | _ => none
theorem tyx {K : PySem.W.Frag} {G H : Hp} (ex : Ex G H) {v : V} {d : D} {t : String} (h : Is K G v d) (e : tyD d = some t) : TyX K H v (.type t) := by
  cases h with
  | non => cases e; exact .base .non
  | bl b => cases e; exact .base (.bl b)
  | int b => cases e; exact .base (.int b)
  | str b => cases e; exact .base (.str _)
  | ty b => cases e
  | lst h1 h2 => cases e; exact .base (.lst (ex _ _ h1))
  | tup h1 h2 =>
    cases e
    rcases Evl.ex_t ex h1 with (h1 | ⟨o, h1⟩) | ⟨o, its, n, h1, hc, _⟩
    · exact .base (.tup h1)
    · exact .fTuple h1
    · exact .kTuple h1 hc
  | dct h1 h2 => cases e; exact .base (.dK (ex _ _ h1))
  | ins h0 h1 h2 => cases e
  | scr h1 => cases e
theorem ed_isi {t n : String} {r : Bool} (hg : Gl X "isinstance") (hm : X.mg "isinstance" = none) (ha : ED X Γ a x) (hb : ED X Γ b (.ty n)) (ht : tyD x = some t) (hk : kitB t n = some r) (he : starEach [a, b] X.env = (false, eval a X.env) :: starEach [b] X.env := by exact starEach_ns rfl) (he2 : starEach [b] X.env = (false, eval b X.env) :: starEach [] X.env := by exact starEach_ns rfl)
    (hpl : (backTo pos (starEach [b] X.env)).any (·.1) = false := by exact plain_ok rfl) : ED X Γ (.Call (.Name "isinstance" p) [a, b] [] pos) (.bl r) :=
  ed_callB call_isi hg hm (by decide +kernel) (ea_cons ha (ea_cons hb ea_nil he2) he) (fun vs G H ex i Q q => by
    cases i with
    | cons i1 i2 =>
      cases i2 with
      | cons i2 i3 =>
        cases i2
        cases i3
        exact ⟨_, _, _, _, r, rfl, .ty n, tyx ex i1 ht, kit_ty hk, q _ G H (.refl ex) (.bl r)⟩) (by decide) (by decide) he hpl
end

/-! ### methods of texts -/
section
variable {X : Cx} {Γ : List B} {pos apos : Pos} {a b : Expr} {ds : List D}
theorem ed_join {l : List Nat} {ls : List (List Nat)} (ha : ED X Γ a (.str l)) (hb : EL X Γ b (ls.map D.str)) (hz : (ls.map (·.length)).sum + ls.length * l.length ≤ 16777216)
    (hbase : attributeBase a "join" X.env (eval a X.env) = eval a X.env := by exact ab_ns rfl) (hline : (apos.endLine == pos.line) = true := by rfl)
    (hfew : ((backTo pos (starEach (b :: []) X.env)).all (fun x => !x.1) && (backToKw pos (keywordEach [] X.env)).all (fun x => x.1.isSome) && decide ((b :: ([] : List Expr)).length + ([] : List Keyword).length + (if ([] : List Keyword).isEmpty then 0 else 1) < 30)) = true := by exact few_ok rfl)
    (hs : starEach (b :: []) X.env = (false, eval b X.env) :: starEach [] X.env := by exact starEach_ns rfl) (hplain : (backTo pos (starEach [] X.env)).any (·.1) = false := by exact plain_ok rfl) :
    ED X Γ (.Call (.Attribute a "join" apos) [b] [] pos) (.str (Txt.join (S l) (ls.map S)).cps.toList) :=
  ed_of (pe_bm PySem.F.plainAttrs_str PySem.F.slot_str_join PySem.F.type_str_join mt_join pe_w (pa_cons pe_w pa_nil hs) hbase hfew hline hs hplain) fun F σ G H s Q q => ha F σ G H s _ fun v G1 H1 g1 i1 => by
    cases i1
    refine ⟨rfl, hb F σ G1 H1 (s.grow g1) _ fun p vs G2 H2 g2 h2 i2 => ?_⟩
    have e := i2.strs
    subst e
    refine ⟨_, p, ls.map S, rfl, rfl, .inl (.inl (.inl ?_)), ?_, ?_⟩
    · rw [h2, List.map_map]
      rfl
    · rw [List.map_map, List.length_map, S_len]
      have : (ls.map ((fun x : Str => x.length) ∘ S)) = ls.map (·.length) := List.map_congr_left fun x _ => S_len x
      rw [this]
      exact hz
    · exact q _ G2 H2 (g1.trans g2) (.str _)
theorem eo_split {l m : List Nat} (ha : ED X Γ a (.str l)) (hb : ED X Γ b (.str m)) (hm : 0 < m.length) (hz : l.length + 2 ≤ sizeLine)
    (hbase : attributeBase a "split" X.env (eval a X.env) = eval a X.env := by exact ab_ns rfl) (hline : (apos.endLine == pos.line) = true := by rfl)
    (hfew : ((backTo pos (starEach (b :: []) X.env)).all (fun x => !x.1) && (backToKw pos (keywordEach [] X.env)).all (fun x => x.1.isSome) && decide ((b :: ([] : List Expr)).length + ([] : List Keyword).length + (if ([] : List Keyword).isEmpty then 0 else 1) < 30)) = true := by exact few_ok rfl)
    (hs : starEach (b :: []) X.env = (false, eval b X.env) :: starEach [] X.env := by exact starEach_ns rfl) (hplain : (backTo pos (starEach [] X.env)).any (·.1) = false := by exact plain_ok rfl) :
    EO X Γ (.Call (.Attribute a "split" apos) [b] [] pos) (.lst (((Txt.split (S l) (S m)).map fun z => z.cps.toList).map D.str)) :=
  eo_of (pe_bm PySem.F.plainAttrs_str PySem.F.slot_str_split PySem.F.type_str_split mt_split pe_w (pa_cons pe_w pa_nil hs) hbase hfew hline hs hplain) fun F σ G H s Q q => ha F σ G H s _ fun v G1 H1 g1 i1 => by
    cases i1
    refine ⟨rfl, hb F σ G1 H1 (s.grow g1) _ fun w G2 H2 g2 i2 => ?_⟩
    cases i2
    refine ⟨_, _, rfl, rfl, ?_, by rw [S_len]; exact hz, fun r hr => ?_⟩
    · rw [S_len]
      exact beq_eq_false_iff_ne.mpr (by omega)
    · refine q r _ G2 _ ((g1.trans g2).trans (Grow.lay g2.s hr)) upd_same (Evl.fresh_back g2.s hr) (Evl.fresh_back (g1.trans g2).h hr) ?_
      have e : (Txt.split (S l) (S m)).map V.str = ((Txt.split (S l) (S m)).map fun z => z.cps.toList).map (fun l => V.str (S l)) := by
        rw [List.map_map]
        exact List.map_congr_left fun x _ => by simp [S]
      show IsAll _ _ ((Txt.split (S l) (S m)).map V.str) _
      rw [e]
      exact IsAll.ofStrs _
end
end Sd

namespace Sd
open PySem PySem.Spec PyProof.Rows L2

/-! ### what is walked -/
def ItD (K : PySem.W.Frag) (Γ : List B) (wi : TI) (xs : List D) : Prop := ∀ F σ G H, Stt K F Γ σ G H → ∀ R : It → Hp → Prop,
  (∀ (J : It) (Gd : Hp → Prop) (Y : Nat → Hp → V → Hp → Prop) G' H', Grow G H G' H' → Walk J xs.length Gd Y → (∀ G2 H2, Ex G' G2 → Ex G2 H2 → Gd H2) →
    (∀ i G2 H2 v H3, Ex G' G2 → Ex G2 H2 → Y i H2 v H3 → ∃ G3 x, xs[i]? = some x ∧ Grow G2 H2 G3 H3 ∧ Is K G3 v x) → R J H') → wi σ H R
def IT (X : Cx) (Γ : List B) (tg iter : Expr) (xs : List D) : Prop := ∃ wi, PI X tg iter wi ∧ ItD X.K Γ wi xs
section
variable {X : Cx} {Γ : List B} {tg a b : Expr} {pos p : Pos} {ds ds' : List D}
theorem it_list (h : EL X Γ a ds) (hf : ∀ F σ G H, Stt X.K F Γ σ G H → ∀ Q : VK, (∀ p vs G' H', Grow G H G' H' → G' p = some (.lst vs) → IsAll X.K G' vs ds → Q (.ref p) H') → wE X a σ H Q) : IT X Γ tg a ds :=
  ⟨_, pi_list pe_w, fun F σ G H s R q => hf F σ G H s _ fun p vs G1 H1 g1 h1 i1 => by
    have hl := i1.len
    refine ⟨p, rfl, ⟨vs, .inl (.inl (g1.s _ _ h1))⟩, q _ _ _ G1 H1 g1 (hl ▸ walk_list (K := X.K) (a := p) (xs := vs)) (fun G2 H2 e1 e2 => .inl (.inl (e2 _ _ (e1 _ _ h1)))) fun i G2 H2 v H3 e1 e2 y => ?_⟩
    obtain ⟨rfl, hv⟩ := y
    obtain ⟨d, h2, h3⟩ := i1.getV hv
    exact ⟨G2, d, h2, .refl e2, h3.up e1⟩⟩
theorem it_lst (h : ED X Γ a (.lst ds)) : IT X Γ tg a ds := it_list h.el fun F σ G H s Q q => h F σ G H s _ fun v G1 H1 g1 i1 => by
  cases i1 with
  | lst h1 h2 => exact q _ _ _ _ g1 h1 h2
theorem it_tup (h : ED X Γ a (.tup ds)) : IT X Γ tg a ds :=
  ⟨_, pi_tup pe_w, fun F σ G H s R q => h F σ G H s _ fun v G1 H1 g1 i1 => by
    cases i1 with
    | @tup p vs _ h1 i1 =>
      have hl := i1.len
      refine ⟨p, rfl, ⟨vs, Evl.ex_t g1.s h1⟩, q _ _ _ G1 H1 g1 (hl ▸ walk_tup (K := X.K) (a := p) (xs := vs)) (fun G2 H2 e1 e2 => Evl.ex_t (e1.trans e2) h1) fun i G2 H2 v H3 e1 e2 y => ?_⟩
      obtain ⟨rfl, hv⟩ := y
      obtain ⟨d, h2, h3⟩ := i1.getV hv
      exact ⟨G2, d, h2, .refl e2, h3.up e1⟩⟩
theorem it_str {l : List Nat} (h : ED X Γ a (.str l)) : IT X Γ tg a (l.map fun c => D.str [c]) :=
  ⟨_, pi_str pe_w, fun F σ G H s R q => h F σ G H s _ fun v G1 H1 g1 i1 => by
    cases i1
    have hl : (S l).cps.size = (l.map fun c => D.str [c]).length := by simp [S]
    refine ⟨S l, rfl, q _ _ _ G1 H1 g1 (hl ▸ walk_str (z := S l)) (fun _ _ _ _ => trivial) fun i G2 H2 v H3 e1 e2 y => ?_⟩
    obtain ⟨rfl, c, hc, rfl⟩ := y
    refine ⟨G2, .str [c], ?_, .refl e2, .str [c]⟩
    have hc' : l[i]? = some c := by simpa [S] using hc
    rw [List.getElem?_map, hc']
    rfl⟩
def rints (lo : Int) (n : Nat) : List Int := (List.range n).map fun (i : Nat) => lo + (i : Int)
theorem rints_get {lo : Int} {n i : Nat} (h : i < n) : (rints lo n)[i]? = some (lo + (i : Int)) := by
  unfold rints
  rw [List.getElem?_map, List.getElem?_range h]
  rfl
theorem rints_len (lo : Int) (n : Nat) : (rints lo n).length = n := by
  unfold rints
  rw [List.length_map, List.length_range]
theorem rints_mem {lo x : Int} {n : Nat} (h : x ∈ rints lo n) : lo ≤ x ∧ x < lo + n := by
  unfold rints at h
  obtain ⟨i, hi, rfl⟩ := List.mem_map.mp h
  have := List.mem_range.mp hi
  omega
theorem walk_ints {J : It} {lo : Int} {n : Nat} (w : Walk J n (fun _ => True) (YFn fun i => .int (lo + i))) : Walk J ((rints lo n).map D.int).length (fun _ => True) (fun i H v H' => H' = H ∧ i < n ∧ v = .int (lo + i)) := by
  have hl : ((rints lo n).map D.int).length = n := by rw [List.length_map, rints_len]
  rw [hl]
  exact w.mono (fun _ h => h) fun i H x H' hi _ y => ⟨y.1, hi, y.2⟩
theorem it_rng {wi : TI} {lo : Int} {n : Nat} {J : It} (w : Walk J n (fun _ => True) (YFn fun i => .int (lo + i))) {K : PySem.W.Frag} {F : Hp} {σ : L2.St} {G H G1 H1 : Hp} (s : Stt K F Γ σ G H) (g : Grow G H G1 H1) {R : It → Hp → Prop}
    (q : ∀ (J : It) (Gd : Hp → Prop) (Y : Nat → Hp → V → Hp → Prop) G' H', Grow G H G' H' → Walk J ((rints lo n).map D.int).length Gd Y → (∀ G2 H2, Ex G' G2 → Ex G2 H2 → Gd H2) →
      (∀ i G2 H2 v H3, Ex G' G2 → Ex G2 H2 → Y i H2 v H3 → ∃ G3 x, ((rints lo n).map D.int)[i]? = some x ∧ Grow G2 H2 G3 H3 ∧ Is K G3 v x) → R J H') : R J H1 :=
  q J _ _ G1 H1 g (walk_ints w) (fun _ _ _ _ => trivial) fun i G2 H2 v H3 e1 e2 y => by
    obtain ⟨rfl, hi, rfl⟩ := y
    exact ⟨G2, .int (lo + i), by rw [List.getElem?_map, rints_get hi]; rfl, .refl e2, .int _⟩
theorem it_range1 {n : Int} (hg : Gl X "range") (hm : X.mg "range" = none) (ha : ED X Γ a (.int n)) (hb : -(2 ^ 62) ≤ n ∧ n < 2 ^ 62) (hs : starEach [a] X.env = [(false, eval a X.env)] := by exact starEach_ns rfl) : IT X Γ tg (.Call (.Name "range" p) [a] [] pos) ((rints 0 n.toNat).map D.int) :=
  ⟨_, pi_range1 hg hm pa_w hs, fun F σ G H s R q => (ea_cons ha ea_nil hs) F σ G H s _ fun vs G1 H1 g1 i1 => by
    cases i1 with
    | cons i1 i2 =>
      cases i1
      cases i2
      exact ⟨n, rfl, hb.1, hb.2, it_rng (wi := iRng1 tNil) walk_range s g1 q⟩⟩
theorem it_range2 {m n : Int} (hg : Gl X "range") (hm : X.mg "range" = none) (ha : ED X Γ a (.int m)) (hb : ED X Γ b (.int n)) (h1 : -(2 ^ 62) ≤ m ∧ m < 2 ^ 62) (h2 : -(2 ^ 62) ≤ n ∧ n < 2 ^ 62) (hs : starEach [a, b] X.env = [(false, eval a X.env), (false, eval b X.env)] := by exact starEach_ns2 rfl) (hs2 : starEach [b] X.env = [(false, eval b X.env)] := by exact starEach_ns rfl) :
    IT X Γ tg (.Call (.Name "range" p) [a, b] [] pos) ((rints m (n - m).toNat).map D.int) :=
  ⟨_, pi_range2 hg hm pa_w hs hs2, fun F σ G H s R q => (ea_cons ha (ea_cons hb ea_nil hs2) (by rw [hs, hs2])) F σ G H s _ fun vs G1 H1 g1 i1 => by
    cases i1 with
    | cons i1 i2 =>
      cases i2 with
      | cons i2 i3 =>
        cases i1
        cases i2
        cases i3
        exact ⟨m, n, rfl, ⟨h1.1, h1.2, h2.1, h2.2⟩, it_rng (wi := iRng1 tNil) walk_range s g1 q⟩⟩
/-- a new pair at each turn -/
theorem pair_new {K : PySem.W.Frag} {G2 H2 : Hp} {T : Addr} {x y : V} {d e : D} (hT : H2 T = none) (ex : Ex G2 H2) (h1 : Is K G2 x d) (h2 : Is K G2 y e) : Is K (upd G2 T (.tup [x, y])) (.ref T) (.tup [d, e]) :=
  .tup (.inl (.inl upd_same)) (IsAll.up (.cons h1 (.cons h2 .nil)) (Evl.Ex.new (Evl.fresh_back ex hT)))
theorem it_zip {elts : List Expr} {kk : Nat} {tpos : Pos} (hg : Gl X "zip") (hm : X.mg "zip" = none) (ha : ED X Γ a (.lst ds)) (hb : ED X Γ b (.lst ds')) (hs : starEach [a, b] X.env = (false, eval a X.env) :: starEach [b] X.env := by exact starEach_ns rfl) (hs2 : starEach [b] X.env = (false, eval b X.env) :: starEach [] X.env := by exact starEach_ns rfl) (hpl : (backTo pos (starEach [b] X.env)).any (·.1) = false := by exact plain_ok rfl) :
    IT X Γ (.Tuple elts kk tpos) (.Call (.Name "zip" p) [a, b] [] pos) ((ds.zip ds').map fun z => .tup [z.1, z.2]) :=
  ⟨_, pi_zip hg hm pa_w hs hpl, fun F σ G H s R q => (ea_cons ha (ea_cons hb ea_nil hs2) hs) F σ G H s _ fun vs G1 H1 g1 i1 => by
    cases i1 with
    | cons i1 i2 =>
      cases i2 with
      | cons i2 i3 =>
        cases i3
        cases i1 with
        | @lst pa va _ ha1 ha2 =>
          cases i2 with
          | @lst pb vb _ hb1 hb2 =>
            have hl : min va.length vb.length = ((ds.zip ds').map fun z => D.tup [z.1, z.2]).length := by rw [List.length_map, List.length_zip, ha2.len, hb2.len]
            refine ⟨pa, pb, va, vb, rfl, .inl (.inl (g1.s _ _ ha1)), .inl (.inl (g1.s _ _ hb1)), q _ _ _ G1 H1 g1 (hl ▸ walk_zip (K := X.K) (a := pa) (b := pb) (xs := va) (ys := vb) rfl) (fun G2 H2 e1 e2 => ⟨.inl (.inl (e2 _ _ (e1 _ _ ha1))), .inl (.inl (e2 _ _ (e1 _ _ hb1)))⟩) fun i G2 H2 v H3 e1 e2 y => ?_⟩
            obtain ⟨T, x, y, rfl, hT, rfl, hx, hy⟩ := y
            obtain ⟨d, k1, k2⟩ := ha2.getV hx
            obtain ⟨e, k3, k4⟩ := hb2.getV hy
            refine ⟨_, .tup [d, e], ?_, Grow.new e2 hT, pair_new hT e2 (k2.up e1) (k4.up e1)⟩
            rw [List.getElem?_map, (List.getElem?_zip_eq_some (z := (d, e))).mpr ⟨k1, k3⟩]
            rfl⟩
theorem it_enum {elts : List Expr} {kk : Nat} {tpos : Pos} (hg : Gl X "enumerate") (hm : X.mg "enumerate" = none) (ha : ED X Γ a (.lst ds)) (hs : starEach [a] X.env = [(false, eval a X.env)] := by exact starEach_ns rfl) :
    IT X Γ (.Tuple elts kk tpos) (.Call (.Name "enumerate" p) [a] [] pos) ((ds.zipIdx).map fun z => .tup [.int (z.2 : Int), z.1]) :=
  ⟨_, pi_enum hg hm pa_w hs, fun F σ G H s R q => (ea_cons ha ea_nil hs) F σ G H s _ fun vs G1 H1 g1 i1 => by
    cases i1 with
    | cons i1 i2 =>
      cases i2
      cases i1 with
      | @lst pa va _ ha1 ha2 =>
        have hl : va.length = ((ds.zipIdx).map fun z => D.tup [.int (z.2 : Int), z.1]).length := by rw [List.length_map, List.length_zipIdx, ha2.len]
        refine ⟨pa, va, rfl, .inl (.inl (g1.s _ _ ha1)), q _ _ _ G1 H1 g1 (hl ▸ walk_enum (K := X.K) (a := pa) (xs := va)) (fun G2 H2 e1 e2 => .inl (.inl (e2 _ _ (e1 _ _ ha1)))) fun i G2 H2 v H3 e1 e2 y => ?_⟩
        obtain ⟨T, x, y, rfl, hT, rfl, hx, hy⟩ := y
        cases hx
        obtain ⟨d, k1, k2⟩ := ha2.getV hy
        refine ⟨_, .tup [.int (i : Nat), d], ?_, Grow.new e2 hT, pair_new hT e2 (.int _) (k2.up e1)⟩
        rw [List.getElem?_map, List.getElem?_zipIdx, k1]
        simp⟩
end

/-! ### targets -/
def setMany (σ : L2.St) : List Nat → List V → L2.St
  | j :: js, w :: ws => setMany (σ.set j (some w)) js ws
  | _, _ => σ
def TgD (K : PySem.W.Frag) (g : TG) (js : List Nat) (Γ : List B) (x : D) (Γ' : List B) : Prop := ∀ F σ G H v, Stt K F Γ σ G H → Is K G v x → ∀ Q : L2.St → Hp → Prop, (∀ ws, Stt K F Γ' (setMany σ js ws) G H → Q (setMany σ js ws) H) → g v σ H Q
def TgsD (K : PySem.W.Frag) (g : TGs) (js : List Nat) (Γ : List B) (xs : List D) (Γ' : List B) : Prop := ∀ F σ G H vs, Stt K F Γ σ G H → IsAll K G vs xs → ∀ Q : L2.St → Hp → Prop, (∀ ws, Stt K F Γ' (setMany σ js ws) G H → Q (setMany σ js ws) H) → g vs σ H Q
section
variable {K : PySem.W.Frag} {Γ Γ' : List B} {x : D} {xs : List D} {js : List Nat}
theorem tg_name (j : Nat) : TgD K (gName j) [j] Γ x (Γ.set j (.d x)) := fun F σ G H v s i Q q => q [v] (s.set j i)
theorem tgs_nil : TgsD K gNil [] Γ [] Γ := fun F σ G H vs s i Q q => by
  cases i
  exact ⟨rfl, q [] s⟩
theorem tgs_cons {u : TGs} (j : Nat) (h : TgsD K u js (Γ.set j (.d x)) xs Γ') : TgsD K (gCons (gName j) u) (j :: js) Γ (x :: xs) Γ' := fun F σ G H vs s i Q q => by
  cases i with
  | @cons v vs _ _ i1 i2 => exact ⟨v, vs, rfl, h F _ G H vs (s.set j i1) i2 _ fun ws s' => q (v :: ws) s'⟩
theorem tg_tup {n : Nat} {u : TGs} (h : TgsD K u js Γ xs Γ') (hl : xs.length = n) : TgD K (gTup K n u) js Γ (.tup xs) Γ' := fun F σ G H v s i Q q => by
  cases i with
  | tup h1 h2 => exact ⟨_, _, rfl, Evl.ex_t s.sub h1, by rw [h2.len]; exact hl, h F σ G H _ s h2 Q q⟩
end

/-! ### comprehensions -/
def wipeB (Γ : List B) : List Nat → List B
  | [] => Γ
  | v :: vs => (wipeB Γ vs).set v .un
theorem Stt.wipe {K : PySem.W.Frag} {F : Hp} {Γ : List B} {σ : L2.St} {G H : Hp} (s : Stt K F Γ σ G H) : ∀ vs : List Nat, Stt K F (wipeB Γ vs) (L2.wipe σ vs) G H
  | [] => s
  | v :: vs => (s.wipe vs).unset v none
theorem wipe_get (σ : L2.St) (i : Nat) : ∀ vs : List Nat, (L2.wipe σ vs)[i]? = if i ∈ vs then (if i < σ.length then some none else none) else σ[i]?
  | [] => by simp [L2.wipe]
  | v :: vs => by
    unfold L2.wipe
    by_cases h : v = i
    · subst h
      simp only [List.mem_cons, true_or, if_true]
      by_cases hl : v < σ.length
      · rw [List.getElem?_set_self (by rw [wipe_length]; exact hl), if_pos hl]
      · rw [List.getElem?_eq_none (by rw [List.length_set, wipe_length]; omega), if_neg hl]
    · rw [List.getElem?_set_ne h, wipe_get σ i vs]
      simp only [List.mem_cons, Ne.symm h, false_or]
theorem wipe_set {σ : L2.St} {j : Nat} {y : Option V} {vs : List Nat} (h : j ∈ vs) : L2.wipe (σ.set j y) vs = L2.wipe σ vs := by
  apply List.ext_getElem?
  intro i
  rw [wipe_get, wipe_get, List.length_set]
  by_cases hi : i ∈ vs
  · rw [if_pos hi, if_pos hi]
  · rw [if_neg hi, if_neg hi, List.getElem?_set_ne (by rintro rfl; exact hi h)]
theorem wipe_wipe {σ : L2.St} {vs : List Nat} : L2.wipe (L2.wipe σ vs) vs = L2.wipe σ vs := by
  apply List.ext_getElem?
  intro i
  rw [wipe_get, wipe_length]
  by_cases hi : i ∈ vs
  · rw [if_pos hi, wipe_get, if_pos hi]
  · rw [if_neg hi]
theorem wipe_many {vs : List Nat} : ∀ {js : List Nat} {ws : List V} {σ : L2.St}, (∀ j ∈ js, j ∈ vs) → L2.wipe (setMany σ js ws) vs = L2.wipe σ vs
  | [], _, _, _ => by simp [setMany]
  | _ :: _, [], _, _ => by simp [setMany]
  | j :: js, w :: ws, σ, h => by
    unfold setMany
    rw [wipe_many (fun i hi => h i (List.mem_cons_of_mem _ hi)), wipe_set (h j List.mem_cons_self)]

abbrev blkX (X : Cx) (scope : Scope) (s : Shared) (H : Hp) (C : Addr) (cl : List (Str × Addr)) (fp : List Addr) : Cx := X.blk s H scope (compEnvC scope cl C X.env) fp
/-- the clause's tests -/
def ETs (X : Cx) (scope : Scope) (Γ : List B) (ifs : List Expr) (k : Bool) : Prop := match ifs with
  | [] => k = true
  | [c] => ∀ s H C cl fp, ET (blkX X scope s H C cl fp) Γ c k
  | _ => False
/-- a comprehension that comes to a list -/
def LcOk (X : Cx) (Γ : List B) (elt tg iter : Expr) (ifs : List Expr) (scope : Scope) (own : List (Str × Nat)) (o : OO) : Prop :=
  ∃ (wi : TI) (g : TG) (tt : TT) (te : TE), PI X tg iter wi ∧ BlkOk X.N X.env.scope scope own ∧ (∀ s H C cl fp, PG (blkX X scope s H C cl fp) tg g) ∧ (∀ s H C cl fp, PTs (blkX X scope s H C cl fp) ifs tt) ∧ (∀ s H C cl fp, PE (blkX X scope s H C cl fp) elt te) ∧
    EvO X.K Γ (tLc wi g tt te (own.map (·.2))) o
theorem lc_ok {X : Cx} {Γ : List B} {elt tg iter : Expr} {ifs : List Expr} {scope : Scope} {own : List (Str × Nat)} {g : TG} {js : List Nat} {Yt τ : Type} {encY : Yt → D} {enc : τ → D} (ys : List Yt) (p : Yt → Bool) (f : Yt → τ)
    (hi : IT X Γ tg iter (ys.map encY)) (ok : BlkOk X.N X.env.scope scope own) (hg : ∀ s H C cl fp, PG (blkX X scope s H C cl fp) tg g) (hj : ∀ j ∈ js, j ∈ own.map (·.2)) (hz : ys.length < sizeLine) (Γe : Yt → List B)
    (htg : ∀ y, y ∈ ys → TgD X.K g js (wipeB Γ (own.map (·.2))) (encY y) (Γe y)) (ht : ∀ y, y ∈ ys → ETs X scope (Γe y) ifs (p y)) (he : ∀ y, y ∈ ys → p y = true → ∀ s H C cl fp, ED (blkX X scope s H C cl fp) (Γe y) elt (enc (f y)))
    (hifs : ifs.length ≤ 1 := by decide) : LcOk X Γ elt tg iter ifs scope own (.lst (((ys.filter p).map f).map enc)) := by
  obtain ⟨wi, hi1, hi2⟩ := hi
  -- the tests
  obtain ⟨tt, ht1, ht2⟩ : ∃ tt : TT, (∀ s H C cl fp, PTs (blkX X scope s H C cl fp) ifs tt) ∧ ∀ y, y ∈ ys → EvT X.K (Γe y) tt (p y) := by
    match ifs, hifs, ht with
    | [], _, ht => exact ⟨tYes, fun s H C cl fp => pts_nil, fun y hy F σ G H st Q q => by
        have e : p y = true := ht y hy
        rw [e] at q
        exact q G H (.refl st.sub)⟩
    | [c], _, ht => exact ⟨fun σ H Q => ∀ s H' C cl fp, WT (blkX X scope s H' C cl fp) c σ H Q, fun s H C cl fp => pts_one ⟨fun pins sh σ H1 Q I h => (h s H C cl fp).run pins sh I⟩, fun y hy F σ G H st Q q s H' C cl fp => (show ET (blkX X scope s H' C cl fp) (Γe y) c (p y) from (show ∀ s H C cl fp, ET (blkX X scope s H C cl fp) (Γe y) c (p y) from ht y hy) s H' C cl fp) F σ G H st Q q⟩
  obtain ⟨te, he1, he2⟩ : ∃ te : TE, (∀ s H C cl fp, PE (blkX X scope s H C cl fp) elt te) ∧ ∀ y, y ∈ ys → p y = true → EvD X.K (Γe y) te (enc (f y)) :=
    ⟨fun σ H Q => ∀ s H' C cl fp, WE (blkX X scope s H' C cl fp) elt σ H Q, fun s H C cl fp => ⟨fun pins sh σ H1 Q I h => (h s H C cl fp).run pins sh I⟩, fun y hy hp F σ G H st Q q s H' C cl fp => he y hy hp s H' C cl fp F σ G H st Q q⟩
  refine ⟨wi, g, tt, te, hi1, ok, hg, ht1, he1, ?_⟩
  intro F σ G H st Q q
  refine hi2 F σ G H st _ fun J Gd Y G1 H1 g1 W hGd hY Dl hD => ?_
  -- the word: behind i turns the list at Dl holds what the first i items gave
  have hlen : (ys.map encY).length = ys.length := List.length_map _
  rw [hlen] at W
  refine lc_it (g := g) (tt := tt) (te := te) (vs := own.map (·.2)) (σ := σ) (H1 := H1) (D := Dl) (Qd := fun H => Q (.ref Dl) H) W (fun i H' => ∃ G' vs, Grow G1 H1 G' H' ∧ G' Dl = none ∧ H' Dl = some (.lst vs) ∧ IsAll X.K G' vs ((((ys.take i).filter p).map f).map enc)) ?_ (fun i H' _ ⟨G', _, gr, _⟩ => hGd G' H' gr.g gr.s) ?_ ?_
  · exact ⟨G1, [], Grow.lay g1.s hD, Evl.fresh_back g1.s hD, upd_same, .nil⟩
  · rintro i x H2 H3 hi ⟨G2, vs, gr, nD, hDl, iv⟩ hy
    obtain ⟨G3, xd, hx, gr3, ix⟩ := hY i G2 H2 x H3 gr.g gr.s hy
    rw [List.getElem?_map] at hx
    cases hyi : ys[i]? with
    | none =>
      rw [hyi] at hx
      cases hx
    | some y =>
      rw [hyi] at hx
      cases hx
      have hmem : y ∈ ys := List.mem_of_getElem? hyi
      have htake : ys.take (i + 1) = ys.take i ++ [y] := by
        rw [List.take_succ, hyi]
        rfl
      have st3 : Stt X.K F Γ σ G3 H3 := st.grow ((g1.trans gr).trans gr3)
      have hlt : vs.length < sizeLine := by
        rw [iv.len, List.length_map, List.length_map]
        have h1 := List.length_filter_le p (ys.take i)
        have h2 := List.length_take_le i ys
        omega
      refine htg y hmem F _ G3 H3 x (st3.wipe _) ix _ fun ws st4 => ⟨?_, ?_⟩
      · rw [wipe_many hj, wipe_wipe]
      · refine ht2 y hmem F _ G3 H3 st4 _ fun G4 H4 gr4 => ?_
        have grw : Grow G1 H1 G4 H4 := (gr.trans gr3).trans gr4
        have nD4 : G4 Dl = none := gr4.f Dl _ (gr3.h _ _ hDl) (gr3.f Dl _ hDl nD)
        have hD4 : H4 Dl = some (.lst vs) := gr4.h _ _ (gr3.h _ _ hDl)
        have iv4 := iv.up (gr3.g.trans gr4.g)
        cases hp : p y with
        | false =>
          show ∃ G' vs, _
          refine ⟨G4, vs, grw, nD4, hD4, ?_⟩
          rw [htake, List.filter_append]
          simp only [List.filter_cons, hp, List.filter_nil, List.append_nil, Bool.false_eq_true, if_false]
          exact iv4
        | true =>
          refine he2 y hmem hp F _ G4 H4 (st4.grow gr4) _ fun u G5 H5 gr5 i5 => ?_
          have hD5 : H5 Dl = some (.lst vs) := gr5.h _ _ hD4
          have nD5 : G5 Dl = none := gr5.f Dl _ hD4 nD4
          refine ⟨vs, hD5, hlt, G5, vs ++ [u], ⟨grw.g.trans gr5.g, fun b o e => ?_, fun b o e => ?_, fun b o e n => gr5.f b o (grw.h b o e) (grw.f b o e n)⟩, nD5, upd_same, ?_⟩
          · rw [upd_ne (ne_of_none e hD)]
            exact gr5.h b o (grw.h b o e)
          · rw [upd_ne (ne_of_none e nD5)]
            exact gr5.s b o e
          · rw [htake, List.filter_append]
            simp only [List.filter_cons, hp, List.filter_nil, if_true, List.map_append, List.map_cons, List.map_nil]
            exact (iv4.up gr5.g).app (.cons i5 .nil)
  · rintro H' ⟨G', vs, gr, nD, hDl, iv⟩
    rw [List.take_length] at iv
    exact q Dl _ G' H' (g1.trans gr) hDl nD (Evl.fresh_back g1.h hD) iv
theorem eo_lc {X : Cx} {Γ : List B} {elt tg iter : Expr} {ifs : List Expr} {scope : Scope} {own : List (Str × Nat)} {pos : Pos} {o : OO} (hc : X.calm = true) (hN : X.N.Nodup) (h : LcOk X Γ elt tg iter ifs scope own o) (hs : ∀ x, foldedSetIterable iter X.env x = pure x := by exact fs_ns rfl) :
    EO X Γ (.ListComp elt [⟨tg, iter, ifs, 0⟩] scope pos) o := by
  obtain ⟨wi, g, tt, te, h1, h2, h3, h4, h5, h6⟩ := h
  exact eo_of (pe_lc hc hN h1 h2 h3 h4 h5 hs) h6
theorem filter_tt {α : Type} (xs : List α) : xs.filter (fun _ => true) = xs := List.filter_eq_self.mpr fun _ _ => rfl
/-- .. without tests -/
theorem lc_ok0 {X : Cx} {Γ : List B} {elt tg iter : Expr} {scope : Scope} {own : List (Str × Nat)} {g : TG} {js : List Nat} {Yt τ : Type} {encY : Yt → D} {enc : τ → D} (ys : List Yt) (f : Yt → τ)
    (hi : IT X Γ tg iter (ys.map encY)) (ok : BlkOk X.N X.env.scope scope own) (hg : ∀ s H C cl fp, PG (blkX X scope s H C cl fp) tg g) (hj : ∀ j ∈ js, j ∈ own.map (·.2)) (hz : ys.length < sizeLine) (Γe : Yt → List B)
    (htg : ∀ y, y ∈ ys → TgD X.K g js (wipeB Γ (own.map (·.2))) (encY y) (Γe y)) (he : ∀ y, y ∈ ys → ∀ s H C cl fp, ED (blkX X scope s H C cl fp) (Γe y) elt (enc (f y))) : LcOk X Γ elt tg iter [] scope own (.lst ((ys.map f).map enc)) := by
  have h := lc_ok (ifs := []) (encY := encY) (enc := enc) ys (fun _ => true) f hi ok hg hj hz Γe htg (fun _ _ => rfl) (fun y hy _ => he y hy) (by decide)
  rw [filter_tt] at h
  exact h
end Sd

namespace Sd
open PySem PySem.Spec PyProof.Rows L2

/-! ### how blocks end -/
structure Exn where
  cls : Str
  fs : List (Str × D)
inductive Res where
  | v (x : D) | o (o : OO) | x (e : Exn)
inductive Ctl (S T : Type) where
  | go (s : S) | brk (b : T) | ret (r : Res)
def bnd {α β : Type} (x : α) (f : α → β) : β := f x
theorem bnd_eq {α β : Type} (x : α) (f : α → β) : bnd x f = f x := rfl
def Ctl.bind {S S' T : Type} (c : Ctl S T) (f : S → Ctl S' T) : Ctl S' T := match c with
  | .go s => f s
  | .brk b => .brk b
  | .ret r => .ret r
def Ctl.up {S T : Type} (c : Ctl Empty T) : Ctl S T := match c with
  | .go s => nomatch s
  | .brk b => .brk b
  | .ret r => .ret r
theorem Ctl.bind_go {S S' T : Type} (s : S) (f : S → Ctl S' T) : (Ctl.go (T := T) s).bind f = f s := rfl
theorem Ctl.bind_brk {S S' T : Type} (b : T) (f : S → Ctl S' T) : (Ctl.brk (S := S) b).bind f = .brk b := rfl
theorem Ctl.bind_ret {S S' T : Type} (r : Res) (f : S → Ctl S' T) : (Ctl.ret (S := S) (T := T) r).bind f = .ret r := rfl
theorem Ctl.up_ret {S T : Type} (r : Res) : (Ctl.ret (T := T) r).up = (Ctl.ret r : Ctl S T) := rfl
theorem Ctl.up_brk {S T : Type} (b : T) : (Ctl.brk b).up = (Ctl.brk b : Ctl S T) := rfl
/-- a for loop: S what goes on from turn to turn -/
def loop {S Y T : Type} (step : S → Y → Ctl S S) : S → List Y → Ctl S T
  | s, [] => .go s
  | s, y :: ys => match step s y with
    | .go s' => loop step s' ys
    | .brk s' => .go s'
    | .ret r => .ret r
def bndX {α S T : Type} (r : Except Exn α) (k : α → Ctl S T) : Ctl S T := match r with
  | .ok v => k v
  | .error e => .ret (.x e)

def ExIs (K : PySem.W.Frag) (G H : Hp) (e : Exn) (cls : Value) (d : Option Addr) : Prop := PySem.W.nsIn K mainGlobals e.cls = some (some cls) ∧ (e.fs ≠ [] → ∃ a vs, d = some a ∧ H a = some (.xd vs) ∧ IsFs K G vs e.fs)
def PostR (K : PySem.W.Frag) (F G0 : Hp) (E : XK) (rt : VK) : Res → Prop
  | .v x => ∀ v G' H', Grow G0 F G' H' → Is K G' v x → rt v H'
  | .o o => ∀ p u G' H', Grow G0 F G' H' → H' p = some u → G' p = none → F p = none → OwnIs K G' o u → rt (.ref p) H'
  | .x e => ∀ cls d G' H', Grow G0 F G' H' → ExIs K G' H' e cls d → E cls d H'
def PostC {S T : Type} (K : PySem.W.Frag) (F G0 G : Hp) (E : XK) (D : Ends) (Γs : S → List B) (Γb : T → List B) : Ctl S T → Prop
  | .go s => ∀ σ' G' H', Ex G G' → Stt K F (Γs s) σ' G' H' → Grow G0 F G' H' → D.nx σ' H'
  | .brk b => ∀ σ' G' H', Ex G G' → Stt K F (Γb b) σ' G' H' → Grow G0 F G' H' → D.bk σ' H'
  | .ret r => PostR K F G0 E D.rt r
theorem PostC.up {S T : Type} {K : PySem.W.Frag} {F G0 G G1 : Hp} {E : XK} {D : Ends} {Γs : S → List B} {Γb : T → List B} {k : Ctl S T} (h : PostC K F G0 G E D Γs Γb k) (e : Ex G G1) : PostC K F G0 G1 E D Γs Γb k := by
  cases k with
  | go s => exact fun σ' G' H' e' => h σ' G' H' (e.trans e')
  | brk s => exact fun σ' G' H' e' => h σ' G' H' (e.trans e')
  | ret r => exact h
def BlkD {S T : Type} (K : PySem.W.Frag) (E : XK) (Γ : List B) (w : TS) (Γs : S → List B) (Γb : T → List B) (k : Ctl S T) : Prop :=
  ∀ F G0 σ G H (D : Ends), Stt K F Γ σ G H → Grow G0 F G H → PostC K F G0 G E D Γs Γb k → w D σ H
abbrev BK {S T : Type} (X : Cx) (E : XK) (Γ : List B) (sts : List Stmt) (Γs : S → List B) (Γb : T → List B) (k : Ctl S T) : Prop := BlkD X.K E Γ (wS X sts) Γs Γb k

/-- what a def's body may lean on -/
structure XOk (lv : Nat) (N : List Str) (sc : Scope) (X : Cx) (E : XK) : Prop where
  calm : X.calm = true
  pown : PassesOwn (model X.prog X.w) X.A X.env X.xe
  takes : Takes X (fun cls d _ H => E cls d H)
  room : Room lv X.A
  fn : ∀ x, X.fn x = true
  hN : X.N = N
  hsc : X.env.scope = sc
  nd : X.N.Nodup
  kd : X.env.scope.kind = .function
section
variable {lv : Nat} {N : List Str} {sc : Scope} {X : Cx} {E : XK}
theorem XOk.nm (h : XOk lv N sc X E) {i : Nat} {x : Str} (e : N[i]? = some x) : X.N[i]? = some x := by rw [h.hN]; exact e
theorem XOk.lk (h : XOk lv N sc X E) {x : Str} {k : NameKind} (e : sc.names.lookup x = some k) : X.env.scope.names.lookup x = some k := by rw [h.hsc]; exact e
theorem XOk.lc (h : XOk lv N sc X E) {x : Str} (e : Loc sc x) : Loc X.env.scope x := by rw [h.hsc]; exact e
theorem XOk.vs (h : XOk lv N sc X E) {x : Str} (e : Vis sc x) : Vis X.env.scope x := by rw [h.hsc]; exact e
theorem XOk.gl (h : XOk lv N sc X E) {x : Str} (e : sc.names.lookup x = some .globalImplicit) : Gl X x := by
  show X.env.scope.names.lookup x = some .globalImplicit
  rw [h.hsc]
  exact e
end
theorem loc_l {sc : Scope} {x : Str} (h : sc.names.lookup x = some .local) : Loc sc x := .inl h
theorem loc_c {sc : Scope} {x : Str} (h : sc.names.lookup x = some .cell) : Loc sc x := .inr h
theorem vis_l {sc : Scope} {x : Str} (h : sc.names.lookup x = some .local) : Vis sc x := .inl h
theorem vis_c {sc : Scope} {x : Str} (h : sc.names.lookup x = some .cell) : Vis sc x := .inr (.inl h)
theorem vis_f {sc : Scope} {x : Str} (h : sc.names.lookup x = some .free) : Vis sc x := .inr (.inr h)

section
variable {X : Cx} {E : XK} {Γ : List B} {S T : Type} {Γs : S → List B} {Γb : T → List B} {st : Stmt} {rest : List Stmt} {pos : Pos}
theorem w_cons {t : TS} {D : Ends} {σ : L2.St} {H : Hp} (h : PS X st t) (k : t { D with nx := wS X rest D } σ H) : wS X (st :: rest) D σ H := ⟨fun pins s I => (pss_cons h pss_w).run pins s σ H D I k⟩
theorem w_nil {D : Ends} {σ : L2.St} {H : Hp} (k : D.nx σ H) : wS X [] D σ H := ⟨fun pins s I => (pss_nil (X := X)).run pins s σ H D I k⟩

/-! ### weaker slots -/
inductive Wk : List B → List B → Prop
  | nil : Wk [] []
  | keep {b : B} {Γ Γ' : List B} : Wk Γ Γ' → Wk (b :: Γ) (b :: Γ')
  | drop {b : B} {Γ Γ' : List B} : Wk Γ Γ' → Wk (b :: Γ) (.un :: Γ')
theorem Wk.refl : ∀ Γ : List B, Wk Γ Γ
  | [] => .nil
  | _ :: Γ => .keep (Wk.refl Γ)
theorem Wk.len {Γ Γ' : List B} (h : Wk Γ Γ') : Γ.length = Γ'.length := by
  induction h with
  | nil => rfl
  | keep _ ih => exact congrArg (· + 1) ih
  | drop _ ih => exact congrArg (· + 1) ih
theorem Wk.get {Γ Γ' : List B} (h : Wk Γ Γ') : ∀ {i : Nat} {b : B}, Γ'[i]? = some b → b ≠ .un → Γ[i]? = some b := by
  induction h with
  | nil => intro i b e _; exact e
  | keep _ ih =>
    intro i b e n
    cases i with
    | zero => exact e
    | succ i => exact ih (by simpa using e) n
  | drop _ ih =>
    intro i b e n
    cases i with
    | zero =>
      simp at e
      exact absurd e.symm n
    | succ i => exact ih (by simpa using e) n
theorem Stt.wk {K : PySem.W.Frag} {F : Hp} {Γ Γ' : List B} {σ : L2.St} {G H : Hp} (s : Stt K F Γ σ G H) (w : Wk Γ Γ') : Stt K F Γ' σ G H :=
  ⟨s.len.trans w.len, s.sub, fun i x e => s.dat i x (w.get e (by simp)), fun i o e => s.own i o (w.get e (by simp)), fun i j p o o' e1 e2 => s.sep i j p o o' (w.get e1 (by simp)) (w.get e2 (by simp)), fun i xs e => s.bor i xs (w.get e (by simp))⟩

/-- the end of a block -/
theorem b_nil {s : S} (h : Wk Γ (Γs s)) : BK X E Γ [] Γs Γb (.go s) := fun F G0 σ G H D st gr post => w_nil (post σ G H (Evl.Ex.refl _) (st.wk h) gr)
/-- slots forgotten -/
theorem b_wk {Γ' : List B} {sts : List Stmt} {k : Ctl S T} (w : Wk Γ Γ') (h : BK X E Γ' sts Γs Γb k) : BK X E Γ sts Γs Γb k := fun F G0 σ G H D st gr post => h F G0 σ G H D (st.wk w) gr post
/-- one's own list stays from here on -/
theorem b_frz (i : Nat) {ds : List D} {sts : List Stmt} {k : Ctl S T} (e : Γ[i]? = some (B.own (.lst ds))) (h : BK X E (Γ.set i (.d (.lst ds))) sts Γs Γb k) : BK X E Γ sts Γs Γb k := fun F G0 σ G H D st gr post => by
  obtain ⟨p, vs, h1, h2, h3, h4, s'⟩ := st.frzL e
  have g1 : Ex G (upd G p (.lst vs)) := Evl.Ex.new h3
  exact h F G0 σ _ H D s' (gr.frz h4 h2 h3) (post.up g1)

/-! ### stores -/
theorem b_setP {τ : Type} {te : TE} {i : Nat} (enc : τ → D) {x : τ} {k : τ → Ctl S T} (hp : PS X st (tAsg te (gName i))) (he : EvD X.K Γ te (enc x)) (hr : ∀ v, v = x → BK X E (Γ.set i (.d (enc v))) rest Γs Γb (k v)) : BK X E Γ (st :: rest) Γs Γb (bnd x k) := fun F G0 σ G H D s gr post =>
  w_cons hp (he F σ G H s _ fun v G1 H1 g1 i1 => hr x rfl F G0 _ G1 H1 D ((s.grow g1).set i i1) (gr.trans g1) (post.up g1.g))
theorem b_setPO {τ : Type} {te : TE} {i : Nat} (enc : τ → OO) {x : τ} {k : τ → Ctl S T} (hp : PS X st (tAsg te (gName i))) (he : EvO X.K Γ te (enc x)) (hr : ∀ v, v = x → BK X E (Γ.set i (.own (enc v))) rest Γs Γb (k v)) : BK X E Γ (st :: rest) Γs Γb (bnd x k) := fun F G0 σ G H D s gr post =>
  w_cons hp (he F σ G H s _ fun p u G1 H1 g1 hp n hn ho => hr x rfl F G0 _ G1 H1 D ((s.grow g1).setO i hp n (Evl.fresh_back gr.h hn) ho fun j o' _ e z => s.fresh hn e z) (gr.trans g1) (post.up g1.g))
variable {lv : Nat} {N : List Str} {sc : Scope} {y : Str} {py : Pos} {e : Expr}
theorem b_set {τ : Type} (i : Nat) (enc : τ → D) {x : τ} {k : τ → Ctl S T} (hX : XOk lv N sc X E) (hn : N[i]? = some y) (hl : Loc sc y) (he : ED X Γ e (enc x)) (hr : ∀ v, v = x → BK X E (Γ.set i (.d (enc v))) rest Γs Γb (k v)) (hs : swapsWith e (some (.Name y py)) pos.line X.env = pure false := by exact sw_ns rfl) :
    BK X E Γ (.Assign [.Name y py] e pos :: rest) Γs Γb (bnd x k) := b_setP enc (ps_set hX.nd (hX.nm hn) (hX.lc hl) pe_w hs (.inl (hX.fn y))) he hr
theorem b_setO {τ : Type} (i : Nat) (enc : τ → OO) {x : τ} {k : τ → Ctl S T} (hX : XOk lv N sc X E) (hn : N[i]? = some y) (hl : Loc sc y) (he : EO X Γ e (enc x)) (hr : ∀ v, v = x → BK X E (Γ.set i (.own (enc v))) rest Γs Γb (k v)) (hs : swapsWith e (some (.Name y py)) pos.line X.env = pure false := by exact sw_ns rfl) :
    BK X E Γ (.Assign [.Name y py] e pos :: rest) Γs Γb (bnd x k) := b_setPO enc (ps_set hX.nd (hX.nm hn) (hX.lc hl) pe_w hs (.inl (hX.fn y))) he hr
/-- y = [.. for ..] on one row, y a plain local -/
theorem b_setLc {τ : Type} (i : Nat) (enc : τ → OO) {x : τ} {k : τ → Ctl S T} {elt tg iter : Expr} {ifs : List Expr} {scope : Scope} {own : List (Str × Nat)} {cpos : Pos} (hX : XOk lv N sc X E) (hn : N[i]? = some y) (hl : sc.names.lookup y = some .local)
    (hsw : swapsWith (.ListComp elt [⟨tg, iter, ifs, 0⟩] scope cpos) (some (.Name y py)) pos.line X.env = pure true) (he : LcOk X Γ elt tg iter ifs scope own (enc x)) (hr : ∀ v, v = x → BK X E (Γ.set i (.own (enc v))) rest Γs Γb (k v)) (hs : ∀ x, foldedSetIterable iter X.env x = pure x := by exact fs_ns rfl) :
    BK X E Γ (.Assign [.Name y py] (.ListComp elt [⟨tg, iter, ifs, 0⟩] scope cpos) pos :: rest) Γs Γb (bnd x k) := by
  obtain ⟨wi, g, tt, te, h1, h2, h3, h4, h5, h6⟩ := he
  exact b_setPO enc (ps_setLc hX.calm hX.nd (hX.nm hn) (hX.lk hl) hsw h1 h2 h3 h4 h5 hs) h6 hr
/-- a, b, .. = a tuple -/
theorem b_setT {τ : Type} (enc : τ → D) {x : τ} {k : τ → Ctl S T} {tg : Expr} {g : TG} {js : List Nat} (Γ' : τ → List B) (hg : PG X tg g) (htg : ∀ v, TgD X.K g js Γ (enc v) (Γ' v)) (he : ED X Γ e (enc x)) (hr : ∀ v, v = x → BK X E (Γ' v) rest Γs Γb (k v))
    (hs : swapsWithSole [tg] e pos.line X.env = pure false := by exact sws_ns rfl) (hw : swappedStores [tg] e X.env = pure none := by exact sst_ns rfl) (h1 : (assignEach [tg] X.env).map (·.2) = [assign tg X.env] := by rfl) : BK X E Γ (.Assign [tg] e pos :: rest) Γs Γb (bnd x k) := fun F G0 σ G H D s gr post =>
  w_cons (ps_asg pe_w hg hs hw h1) (he F σ G H s _ fun v G1 H1 g1 i1 => htg x F σ G1 H1 v (s.grow g1) i1 _ fun ws s' => hr x rfl F G0 _ G1 H1 D s' (gr.trans g1) (post.up g1.g))

/-! ### return -/
theorem b_ret {x : D} (he : ED X Γ e x) : BK X E Γ (.Return (some e) pos :: rest) Γs Γb (.ret (.v x)) := fun F G0 σ G H D s gr post => w_cons (ps_ret pe_w) (he F σ G H s _ fun v G1 H1 g1 i1 => post v G1 H1 (gr.trans g1) i1)
theorem b_retO {o : OO} (he : EO X Γ e o) : BK X E Γ (.Return (some e) pos :: rest) Γs Γb (.ret (.o o)) := fun F G0 σ G H D s gr post => w_cons (ps_ret pe_w) (he F σ G H s _ fun p u G1 H1 g1 hp n hn ho => post p u G1 H1 (gr.trans g1) hp n (Evl.fresh_back gr.h hn) ho)
theorem b_retN : BK X E Γ (.Return none pos :: rest) Γs Γb (.ret (.v .non)) := fun F G0 σ G H D s gr post => w_cons ps_retN (post .non G H gr .non)
/-- one's own thing in a slot goes out -/
theorem b_retV (i : Nat) {o : OO} (hX : XOk lv N sc X E) (hn : N[i]? = some y) (hl : Vis sc y) (h : Γ[i]? = some (B.own o)) (hd : (y == ("__debug__" : Str)) = false := by decide) (hcd : (y == ("__classdict__" : Str)) = false := by decide) : BK X E Γ (.Return (some (.Name y py)) pos :: rest) Γs Γb (.ret (.o o)) := fun F G0 σ G H D s gr post => by
  obtain ⟨p, u, h1, h2, h3, h4, h5⟩ := s.own i o h
  exact w_cons (ps_ret (pe_var (hX.nm hn) (hX.vs hl) hd hcd)) ⟨_, h1, post p u G H gr h2 h3 h4 h5⟩

/-! ### if -/
variable {c : Expr} {b : Bool} {A C : List Stmt}
/-- its body leaves -/
theorem b_ifr {k1 : Ctl Empty T} {k2 : Ctl S T} (hc : ET X Γ c b) (h1 : b = true → BK X E Γ A (fun s : Empty => nomatch s) Γb k1) (h2 : b = false → BK X E Γ rest Γs Γb k2) : BK X E Γ (.If c A [] pos :: rest) Γs Γb (if b = true then k1.up else k2) := fun F G0 σ G H D s gr post =>
  w_cons (ps_if pt_w pss_w pss_nil) (hc F σ G H s _ fun G1 H1 g1 => by
    cases b with
    | true =>
      refine h1 rfl F G0 σ G1 H1 _ (s.grow g1) (gr.trans g1) ?_
      have p := PostC.up post g1.g
      cases k1 with
      | go s => exact nomatch s
      | brk b => exact p
      | ret r => exact p
    | false => exact h2 rfl F G0 σ G1 H1 _ (s.grow g1) (gr.trans g1) (post.up g1.g))
/-- the last statement -/
theorem b_ifl {k1 k2 : Ctl S T} (hc : ET X Γ c b) (h1 : b = true → BK X E Γ A Γs Γb k1) (h2 : b = false → BK X E Γ C Γs Γb k2) : BK X E Γ [.If c A C pos] Γs Γb (if b = true then k1 else k2) := fun F G0 σ G H D s gr post => by
  have nx : ∀ {σ' H'}, D.nx σ' H' → wS X [] D σ' H' := fun h => w_nil h
  have fin : ∀ {k : Ctl S T}, PostC X.K F G0 G E D Γs Γb k → PostC X.K F G0 G E { D with nx := wS X [] D } Γs Γb k := fun {k} h => by
    cases k with
    | go s => exact fun σ' G' H' e st gr => nx (h σ' G' H' e st gr)
    | brk b => exact h
    | ret r => exact h
  exact w_cons (ps_if pt_w pss_w pss_w) (hc F σ G H s _ fun G1 H1 g1 => by
    cases b with
    | true => exact h1 rfl F G0 σ G1 H1 _ (s.grow g1) (gr.trans g1) ((fin post).up g1.g)
    | false => exact h2 rfl F G0 σ G1 H1 _ (s.grow g1) (gr.trans g1) ((fin post).up g1.g))
theorem PostC.bind {S' : Type} {Γj : S' → List B} {K : PySem.W.Frag} {F G0 G : Hp} {D : Ends} {k : Ctl S' T} {kr : S' → Ctl S T} {u : TS} (post : PostC K F G0 G E D Γs Γb (k.bind kr)) (hr : ∀ s', k = .go s' → BlkD K E (Γj s') u Γs Γb (kr s')) : PostC K F G0 G E { D with nx := u D } Γj Γb k := by
  cases k with
  | go s => exact fun σ' G' H' e st gr => hr s rfl F G0 σ' G' H' D st gr (PostC.up post e)
  | brk b => exact post
  | ret r => exact post
/-- a statement, then the rest -/
theorem b_seq {S' : Type} {Γj : S' → List B} {k : Ctl S' T} {kr : S' → Ctl S T} (h : ∀ F G0 σ G H (D : Ends), Stt X.K F Γ σ G H → Grow G0 F G H → PostC X.K F G0 G E D Γj Γb k → ∃ t, PS X st t ∧ t D σ H) (hr : ∀ s', k = .go s' → BK X E (Γj s') rest Γs Γb (kr s')) : BK X E Γ (st :: rest) Γs Γb (k.bind kr) := fun F G0 σ G H D s gr post => by
  obtain ⟨t, h1, h2⟩ := h F G0 σ G H _ s gr (post.bind hr)
  exact w_cons h1 h2
theorem b_ifj {S' : Type} {Γj : S' → List B} {k1 k2 : Ctl S' T} {kr : S' → Ctl S T} (hc : ET X Γ c b) (h1 : b = true → BK X E Γ A Γj Γb k1) (h2 : b = false → BK X E Γ C Γj Γb k2) (hr : ∀ s', (if b = true then k1 else k2) = .go s' → BK X E (Γj s') rest Γs Γb (kr s')) : BK X E Γ (.If c A C pos :: rest) Γs Γb ((if b = true then k1 else k2).bind kr) :=
  b_seq (fun F G0 σ G H D s gr post => ⟨_, ps_if pt_w pss_w pss_w, hc F σ G H s _ fun G1 H1 g1 => by
    cases b with
    | true => exact h1 rfl F G0 σ G1 H1 _ (s.grow g1) (gr.trans g1) (post.up g1.g)
    | false => exact h2 rfl F G0 σ G1 H1 _ (s.grow g1) (gr.trans g1) (post.up g1.g)⟩) hr

/-! ### for -/
theorem loop_drop {Y T : Type} {step : S → Y → Ctl S S} {s : S} {ys : List Y} {i : Nat} {y : Y} (h : ys[i]? = some y) : (loop step s (ys.drop i) : Ctl S T) = match step s y with
    | .go s' => loop step s' (ys.drop (i + 1))
    | .brk s' => .go s'
    | .ret r => .ret r := by
  have e : ys.drop i = y :: ys.drop (i + 1) := by
    obtain ⟨hl, hy⟩ := List.getElem?_eq_some_iff.mp h
    rw [List.drop_eq_getElem_cons hl, hy]
  rw [e]
  rfl
theorem b_for {S' Y : Type} {Γl : S' → List B} {kr : S' → Ctl S T} {tg iter : Expr} {body : List Stmt} {g : TG} {js : List Nat} (Iv : Nat → S' → Prop) (encY : Y → D) (step : S' → Y → Ctl S' S') (s0 : S') (ys : List Y) (Γy : S' → Y → List B) (hX : XOk lv N sc X E)
    (h0 : Wk Γ (Γl s0)) (i0 : Iv 0 s0) (hi : IT X Γ tg iter (ys.map encY)) (hg : PG X tg g) (htg : ∀ s y, TgD X.K g js (Γl s) (encY y) (Γy s y))
    (hb : ∀ i s y, ys[i]? = some y → Iv i s → BK X E (Γy s y) body Γl Γl (step s y)) (hv : ∀ i s y s', ys[i]? = some y → Iv i s → step s y = .go s' → Iv (i + 1) s')
    (hr : ∀ s, (loop step s0 ys : Ctl S' T) = .go s → BK X E (Γl s) rest Γs Γb (kr s)) (hs : ∀ x, foldedSetIterable iter X.env x = pure x := by exact fs_ns rfl) : BK X E Γ (.For tg iter body [] pos :: rest) Γs Γb ((loop step s0 ys).bind kr) := by
  obtain ⟨wi, p1, p2⟩ := hi
  refine b_seq (Γj := Γl) (fun F G0 σ G H D s gr post => ⟨_, ps_for hX.pown hX.calm p1 hg pss_w hs, p2 F σ G H s _ fun J Gd Yv G1 H1 g1 W hGd hY => ?_⟩) hr
  have hlen : (ys.map encY).length = ys.length := List.length_map _
  rw [hlen] at W
  refine for_it (g := g) (tb := wS X body) (D := D) W (fun i σ' H' => ∃ G' s', Ex G1 G' ∧ Iv i s' ∧ Stt X.K F (Γl s') σ' G' H' ∧ Grow G0 F G' H' ∧ PostC X.K F G0 G' E D Γl Γb (loop step s' (ys.drop i))) ?_ (fun i σ' H' _ ⟨G', s', e, _, st, _⟩ => hGd G' H' e st.sub) ?_ ?_
  · exact ⟨G1, s0, Evl.Ex.refl _, i0, (s.grow g1).wk h0, gr.trans g1, post.up g1.g⟩
  · rintro i x σ' H2 H3 hi ⟨G2, s', e2, iv, st, gr2, po⟩ hy
    obtain ⟨G3, xd, hx, gr3, ix⟩ := hY i G2 H2 x H3 e2 st.sub hy
    rw [List.getElem?_map] at hx
    cases hyi : ys[i]? with
    | none =>
      rw [hyi] at hx
      cases hx
    | some y =>
      rw [hyi] at hx
      cases hx
      refine htg s' y F σ' G3 H3 x (st.grow gr3) ix _ fun ws st4 => ?_
      have po3 := po.up gr3.g
      rw [loop_drop hyi] at po3
      have hvy := hv i s' y
      have hby := hb i s' y hyi iv F G0 _ G3 H3 { D with nx := fun σ' H' => ∃ G' s', Ex G1 G' ∧ Iv (i + 1) s' ∧ Stt X.K F (Γl s') σ' G' H' ∧ Grow G0 F G' H' ∧ PostC X.K F G0 G' E D Γl Γb (loop step s' (ys.drop (i + 1))), ct := fun σ' H' => ∃ G' s', Ex G1 G' ∧ Iv (i + 1) s' ∧ Stt X.K F (Γl s') σ' G' H' ∧ Grow G0 F G' H' ∧ PostC X.K F G0 G' E D Γl Γb (loop step s' (ys.drop (i + 1))), bk := D.nx } st4 (gr2.trans gr3)
      refine hby ?_
      cases hst : step s' y with
      | go s2 =>
        rw [hst] at po3
        exact fun σ5 G5 H5 e5 st5 gr5 => ⟨G5, s2, (e2.trans gr3.g).trans e5, hvy s2 hyi iv hst, st5, gr5, PostC.up po3 e5⟩
      | brk s2 =>
        rw [hst] at po3
        exact fun σ5 G5 H5 e5 st5 gr5 => po3 σ5 G5 H5 e5 st5 gr5
      | ret r =>
        rw [hst] at po3
        exact po3
  · rintro σ' H' ⟨G', s', e, iv, st, gr2, po⟩
    rw [List.drop_length] at po
    exact po σ' G' H' (Evl.Ex.refl _) st gr2
end

/-! ### one's own lists change -/
section
variable {X : Cx} {E : XK} {Γ : List B} {S T : Type} {Γs : S → List B} {Γb : T → List B} {rest : List Stmt} {pos : Pos} {lv : Nat} {N : List Str} {sc : Scope} {y : Str} {py : Pos} {e : Expr} {apos cpos : Pos}
/-- y.append(e) -/
theorem b_app {τ : Type} (i : Nat) (enc : τ → D) {xs : List τ} {x : τ} {k : List τ → Ctl S T} (hX : XOk lv N sc X E) (hn : N[i]? = some y) (hl : Vis sc y) (h : Γ[i]? = some (B.own (.lst (xs.map enc)))) (he : ED X Γ e (enc x)) (hz : xs.length < sizeLine)
    (hr : ∀ zs, zs = xs ++ [x] → BK X E (Γ.set i (.own (.lst (zs.map enc)))) rest Γs Γb (k zs))
    (hs : swapsWith (.Call (.Attribute (.Name y py) "append" apos) [e] [] cpos) none pos.line X.env = pure false := by exact sw_ns rfl)
    (hbase : attributeBase (.Name y py) "append" X.env (eval (.Name y py) X.env) = eval (.Name y py) X.env := by exact ab_ns rfl) (hline : (apos.endLine == cpos.line) = true := by rfl)
    (hfew : ((backTo cpos (starEach (e :: []) X.env)).all (fun x => !x.1) && (backToKw cpos (keywordEach [] X.env)).all (fun x => x.1.isSome) && decide ((e :: ([] : List Expr)).length + ([] : List Keyword).length + (if ([] : List Keyword).isEmpty then 0 else 1) < 30)) = true := by exact few_ok rfl)
    (hst : starEach (e :: []) X.env = (false, eval e X.env) :: starEach [] X.env := by exact starEach_ns rfl) (hplain : (backTo cpos (starEach [] X.env)).any (·.1) = false := by exact plain_ok rfl) (hd : (y == ("__debug__" : Str)) = false := by decide) (hcd : (y == ("__classdict__" : Str)) = false := by decide) :
    BK X E Γ (.Expr (.Call (.Attribute (.Name y py) "append" apos) [e] [] cpos) pos :: rest) Γs Γb (bnd (xs ++ [x]) k) := fun F G0 σ G H D s gr post => by
  obtain ⟨p, u, h1, h2, h3, h4, h5⟩ := s.own i _ h
  obtain ⟨vs, rfl, iv⟩ := h5.lst
  refine w_cons (ps_expr (pe_bm PySem.F.plainAttrs_list PySem.F.slot_list_append PySem.F.type_list_append mt_append (pe_var (hX.nm hn) (hX.vs hl) hd hcd) (pa_cons pe_w pa_nil hst) hbase hfew hline hst hplain) hs) ?_
  refine ⟨_, h1, .inl ⟨rfl, vs, .inl (.inl h2)⟩, he F σ G H s _ fun v G1 H1 g1 i1 => ?_⟩
  have s1 := s.grow g1
  have nG : G1 p = none := g1.f p _ h2 h3
  refine ⟨p, vs, v, rfl, rfl, g1.h _ _ h2, by rw [iv.len, List.length_map]; exact hz, ?_⟩
  have s2 := s1.mut (u := .lst (vs ++ [v])) (o' := .lst ((xs ++ [x]).map enc)) h h1 (by
    show IsAll _ _ _ _
    rw [List.map_append]
    exact (iv.up g1.g).app (.cons i1 .nil))
  have g2 := gr.trans g1
  refine hr (xs ++ [x]) rfl F G0 σ G1 _ D s2 ⟨g2.g, fun b o eo => ?_, s2.sub, g2.f⟩ (post.up g1.g)
  rw [upd_ne (ne_of_none eo h4)]
  exact g2.h b o eo
end

/-! ### defs -/
def spF (K : PySem.W.Frag) {A : Type} (enc : A → List D) (pre : A → Prop) (res : A → Res) : Sp := fun vs H Q E => ∃ (a : A) (G : Hp), Ex G H ∧ IsAll K G vs (enc a) ∧ pre a ∧ PostR K H G E Q (res a)
theorem len_map_app {α β : Type} (xs : List α) (f : α → β) (n : Nat) (b : β) : (xs.map f ++ List.replicate n b).length = xs.length + n := by simp
theorem stt_start {K : PySem.W.Frag} {vs : List V} {ds : List D} {G H : Hp} {N : List Str} (h : IsAll K G vs ds) (ex : Ex G H) : Stt K H (ds.map B.d ++ List.replicate (N.length - ds.length) B.un) (L2.start N vs) G H := by
  have hl := h.len
  have get : ∀ {i : Nat} {b : B}, (ds.map B.d ++ List.replicate (N.length - ds.length) B.un)[i]? = some b → b ≠ .un → ∃ d, b = .d d ∧ ds[i]? = some d := fun {i b} e n => by
    by_cases hi : i < ds.length
    · rw [List.getElem?_append_left (by simpa using hi), List.getElem?_map] at e
      cases hd : ds[i]? with
      | none =>
        rw [hd] at e
        cases e
      | some d =>
        rw [hd] at e
        exact ⟨d, (Option.some.inj e).symm, rfl⟩
    · rw [List.getElem?_append_right (by simpa using Nat.le_of_not_lt hi), List.getElem?_replicate] at e
      split at e
      · exact absurd (Option.some.inj e).symm n
      · cases e
  refine ⟨by simp [L2.start, hl], ex, fun i x e => ?_, fun i o e => ?_, fun i j p o o' e _ _ _ => ?_, fun i xs e => ?_⟩
  · obtain ⟨d, h1, h2⟩ := get e (by simp)
    cases h1
    obtain ⟨v, h3, h4⟩ := h.get h2
    refine ⟨v, ?_, h4⟩
    unfold L2.start
    rw [List.getElem?_append_left (by simpa using (List.getElem?_eq_some_iff.mp h3).1), List.getElem?_map, h3]
    rfl
  · obtain ⟨d, h1, _⟩ := get e (by simp)
    cases h1
  · obtain ⟨d, h1, _⟩ := get e (by simp)
    cases h1
  · obtain ⟨d, h1, _⟩ := get e (by simp)
    cases h1
section
variable {P : Program} {w : World} {K : PySem.W.Frag} {mg : Str → Option Value} {base : Heap} {x qual : Str} {st : Stmt} {f : Addr} {fd : FuncData} {N ps : List Str} {lv : Nat} {A : Type} {enc : A → List D} {pre : A → Prop} {res : A → Res}
theorem def_ok (F : Fun K x qual st f fd) (S : FnScope N ps (defScope st)) (hlen : ∀ a, (enc a).length = ps.length)
    (hb : ∀ a, pre a → ∀ (X : Cx) (E : XK), X.prog = P → X.w = w → X.K = K → X.mg = mg → X.base = base → XOk lv N (defScope st) X E →
      BK X E ((enc a).map B.d ++ List.replicate (N.length - (enc a).length) B.un) (defBody st) (fun s : Unit => List.replicate N.length B.un) (fun s : Empty => nomatch s) (Ctl.ret (res a))) : FnOk P w K mg base (L2.CX P w) (lv + 1) f fd ps (spF K enc pre res) := by
  refine F.okX S (fun vs H Q E h => ?_) (fun cdv Ar outer s H vs Q E hr h => ?_)
  · obtain ⟨a, G, _, h2, _⟩ := h
    rw [h2.len, hlen]
  · obtain ⟨a, G, h1, h2, h3, h4⟩ := h
    generalize hX : cxOf (L2.CX P w) P w K mg base N qual (defScope st) f cdv Ar outer s H E = X
    have ok : XOk lv N (defScope st) X E := by
      subst hX
      exact ⟨rfl, passes_of rfl, takes_of rfl rfl rfl rfl, hr, fun _ => rfl, rfl, rfl, S.nd, S.kind⟩
    have b := hb a h3 X E (by subst hX; rfl) (by subst hX; rfl) (by subst hX; rfl) (by subst hX; rfl) (by subst hX; rfl) ok
    have hK : X.K = K := by subst hX; rfl
    refine ⟨wS X (defBody st), pss_w, ?_⟩
    refine b H G _ G H _ ?_ (Grow.refl h1) ?_
    · rw [hK]
      exact stt_start h2 h1
    · rw [hK]
      exact h4
/-- a def that falls through -/
theorem def_okN (F : Fun K x qual st f fd) (S : FnScope N ps (defScope st)) (hlen : ∀ a, (enc a).length = ps.length) (k : A → Ctl Unit Empty) (hk : ∀ a, pre a → match k a with | .go _ => res a = .v .non | .brk b => nomatch b | .ret r => res a = r)
    (hb : ∀ a, pre a → ∀ (X : Cx) (E : XK), X.prog = P → X.w = w → X.K = K → X.mg = mg → X.base = base → XOk lv N (defScope st) X E →
      BK X E ((enc a).map B.d ++ List.replicate (N.length - (enc a).length) B.un) (defBody st) (fun s : Unit => List.replicate N.length B.un) (fun s : Empty => nomatch s) (k a)) : FnOk P w K mg base (L2.CX P w) (lv + 1) f fd ps (spF K enc pre res) := by
  refine F.okX S (fun vs H Q E h => ?_) (fun cdv Ar outer s H vs Q E hr h => ?_)
  · obtain ⟨a, G, _, h2, _⟩ := h
    rw [h2.len, hlen]
  · obtain ⟨a, G, h1, h2, h3, h4⟩ := h
    generalize hX : cxOf (L2.CX P w) P w K mg base N qual (defScope st) f cdv Ar outer s H E = X
    have ok : XOk lv N (defScope st) X E := by
      subst hX
      exact ⟨rfl, passes_of rfl, takes_of rfl rfl rfl rfl, hr, fun _ => rfl, rfl, rfl, S.nd, S.kind⟩
    have b := hb a h3 X E (by subst hX; rfl) (by subst hX; rfl) (by subst hX; rfl) (by subst hX; rfl) (by subst hX; rfl) ok
    have hK : X.K = K := by subst hX; rfl
    have hk' := hk a h3
    refine ⟨wS X (defBody st), pss_w, ?_⟩
    refine b H G _ G H _ ?_ (Grow.refl h1) ?_
    · rw [hK]
      exact stt_start h2 h1
    · rw [hK]
      cases hka : k a with
      | go u =>
        rw [hka] at hk'
        have e : res a = .v .non := hk'
        rw [e] at h4
        exact fun σ' G' H' _ _ gr => h4 .non G' H' gr .non
      | brk b => exact nomatch b
      | ret r =>
        rw [hka] at hk'
        have e : res a = r := hk'
        rw [← e]
        exact h4
end

/-! ### calls -/
structure Kn (P : Program) (w : World) (K : PySem.W.Frag) (mg : Str → Option Value) (base : Heap) (x : Str) (lv : Nat) (sp : Sp) : Prop where
  ex : ∃ (f : Addr) (fd : FuncData) (ps : List Str), FnOk P w K mg base (L2.CX P w) lv f fd ps sp ∧ mg x = some (.ref f) ∧ PySem.W.keepIn K (.ref f) = true ∧ Binds K fd ps []
abbrev KnX (X : Cx) (x : Str) (lv : Nat) (sp : Sp) : Prop := Kn X.prog X.w X.K X.mg X.base x lv sp
section
variable {X : Cx} {Γ : List B} {pos p : Pos} {x : Str} {lv : Nat} {A : Type} {enc : A → List D} {pre : A → Prop} {res : A → Res} {e : Expr} {es : List Expr}
theorem ed_call (a : A) {z : D} (hk : KnX X x lv (spF X.K enc pre res)) (hr : Room lv X.A) (hg : Gl X x) (ha : EA X Γ (e :: es) (enc a)) (hp : pre a) (hv : res a = .v z)
    (hdb : (x == ("__debug__" : Str)) = false := by decide) (he : starEach (e :: es) X.env = (false, eval e X.env) :: starEach es X.env := by exact starEach_ns rfl) (hpl : (backTo pos (starEach es X.env)).any (·.1) = false := by exact plain_ok rfl) : ED X Γ (.Call (.Name x p) (e :: es) [] pos) z := by
  obtain ⟨f, fd, ps, h1, h2, h3, h4⟩ := hk.ex
  refine ed_of (pe_call h1 hr hg h2 h3 h4 .nil passL pa_w hdb he hpl) fun F σ G H s Q q => ha F σ G H s _ fun vs G1 H1 g1 i1 => ?_
  rw [List.append_nil]
  refine ⟨a, G1, g1.s, i1, hp, ?_⟩
  rw [hv]
  exact fun v G2 H2 g2 i2 => q v G2 H2 (g1.trans g2) i2
theorem eo_call (a : A) {z : OO} (hk : KnX X x lv (spF X.K enc pre res)) (hr : Room lv X.A) (hg : Gl X x) (ha : EA X Γ (e :: es) (enc a)) (hp : pre a) (hv : res a = .o z)
    (hdb : (x == ("__debug__" : Str)) = false := by decide) (he : starEach (e :: es) X.env = (false, eval e X.env) :: starEach es X.env := by exact starEach_ns rfl) (hpl : (backTo pos (starEach es X.env)).any (·.1) = false := by exact plain_ok rfl) : EO X Γ (.Call (.Name x p) (e :: es) [] pos) z := by
  obtain ⟨f, fd, ps, h1, h2, h3, h4⟩ := hk.ex
  refine eo_of (pe_call h1 hr hg h2 h3 h4 .nil passL pa_w hdb he hpl) fun F σ G H s Q q => ha F σ G H s _ fun vs G1 H1 g1 i1 => ?_
  rw [List.append_nil]
  refine ⟨a, G1, g1.s, i1, hp, ?_⟩
  rw [hv]
  exact fun p u G2 H2 g2 hp n hn ho => q p u G2 H2 (g1.trans g2) hp n (Evl.fresh_back g1.h hn) ho
end
end Sd

namespace Sd
open PySem PySem.Spec PyProof.Rows L2

/-! ### total readings -/
def ix {α : Type} (xs : List α) (i : Int) (d : α) : α := (atI xs i).getD d
theorem atI_some {α : Type} {xs : List α} {i : Int} (h : -(xs.length : Int) ≤ i ∧ i < xs.length) : ∃ y, atI xs i = some y := by
  unfold atI ixN
  by_cases h0 : 0 ≤ i
  · rw [if_pos h0, if_pos h.2]
    exact ⟨xs[i.toNat]'(by omega), by show xs[i.toNat]? = _; rw [List.getElem?_eq_getElem]⟩
  · rw [if_neg h0, if_pos h.1]
    exact ⟨xs[(i + xs.length).toNat]'(by omega), by show xs[(i + xs.length).toNat]? = _; rw [List.getElem?_eq_getElem]⟩
theorem ix_ok {α : Type} {xs : List α} {i : Int} {d : α} (h : -(xs.length : Int) ≤ i ∧ i < xs.length) : atI xs i = some (ix xs i d) := by
  obtain ⟨y, e⟩ := atI_some h
  unfold ix
  rw [e]
  rfl
theorem ix_nat {α : Type} (xs : List α) (i : Nat) (d : α) : ix xs (i : Int) d = xs.getD i d := by
  unfold ix atI ixN
  by_cases h : i < xs.length
  · rw [if_pos (by omega), if_pos (by omega)]
    show (xs[(i : Int).toNat]?).getD d = _
    simp
  · rw [if_pos (by omega), if_neg (by omega)]
    show d = _
    rw [List.getD_eq_getElem?_getD, List.getElem?_eq_none (by omega)]
    rfl
def splitS (l m : List Nat) : List (List Nat) := (Txt.split (S l) (S m)).map fun z => z.cps.toList
def joinS (l : List Nat) (ls : List (List Nat)) : List Nat := (Txt.join (S l) (ls.map S)).cps.toList
def enumI {α : Type} (xs : List α) : List (Int × α) := xs.zipIdx.map fun z => ((z.2 : Int), z.1)

/-! ### within a comprehension's block -/
section
variable {lv : Nat} {N : List Str} {sc : Scope} {X : Cx} {E : XK} {scope : Scope} {s : Shared} {H : Hp} {C : Addr} {cl : List (Str × Addr)} {fp : List Addr} {x : Str}
theorem blk_lk (hX : XOk lv N sc X E) {k : NameKind} (h : (relS scope sc).names.lookup x = some k) : (blkX X scope s H C cl fp).env.scope.names.lookup x = some k := by
  show (relS scope X.env.scope).names.lookup x = some k
  rw [hX.hsc]
  exact h
theorem blk_vs (hX : XOk lv N sc X E) (h : Vis (relS scope sc) x) : Vis (blkX X scope s H C cl fp).env.scope x := by
  show Vis (relS scope X.env.scope) x
  rw [hX.hsc]
  exact h
theorem blk_lc (hX : XOk lv N sc X E) (h : Loc (relS scope sc) x) : Loc (blkX X scope s H C cl fp).env.scope x := by
  show Loc (relS scope X.env.scope) x
  rw [hX.hsc]
  exact h
theorem blk_gl (hX : XOk lv N sc X E) (h : (relS scope sc).names.lookup x = some .globalImplicit) : Gl (blkX X scope s H C cl fp) x := blk_lk hX h
theorem blk_ok (hX : XOk lv N sc X E) {own : List (Str × Nat)} (h : blkC N sc scope own = true) : BlkOk X.N X.env.scope scope own := by
  rw [hX.hN, hX.hsc]
  exact blkOk_by h
theorem sw_yes (hX : XOk lv N sc X E) {elt : Expr} {gs : List Comprehension} {pos py : Pos} {l : Nat} (hy : sc.names.lookup x = some .local) (ha : ((py.line == pos.line) && !(scope.names.any fun (n, k) => n == x && (k == .local || k == .cell))) = true) : swapsWith (.ListComp elt gs scope pos) (some (.Name x py)) l X.env = pure true := by
  rw [Bool.and_eq_true, Bool.not_eq_true'] at ha
  exact sw_true hX.kd (hX.lk hy) ha.1 ha.2
theorem sw_no (hX : XOk lv N sc X E) {elt : Expr} {gs : List Comprehension} {pos py : Pos} {l : Nat} (hy : sc.names.lookup x = some .cell) : swapsWith (.ListComp elt gs scope pos) (some (.Name x py)) l X.env = pure false := by
  have ky : X.env.kindOf x = some .cell := hX.lk hy
  have hb : X.env.blockKind = .function := by unfold Env.blockKind; rw [hX.kd]; rfl
  unfold swapsWith
  simp only [hb, ky]
  rfl
end

/-! ### lists by their Lean lists -/
section
variable {X : Cx} {Γ : List B} {pos p : Pos} {a b : Expr} {τ υ : Type} {enc : τ → D} {enc' : υ → D} {xs ys : List τ} {zs : List υ}
theorem eo_catM (ha : EL X Γ a (xs.map enc)) (hb : EL X Γ b (ys.map enc)) (hl : xs.length + ys.length ≤ sizeLine) : EO X Γ (.BinOp a .Add b pos) (.lst ((xs ++ ys).map enc)) := by
  rw [List.map_append]
  exact eo_cat ha hb (by rw [List.length_map, List.length_map]; exact hl)
theorem map_rep (f : τ → υ) (xs : List τ) (n : Nat) : (List.replicate n xs).flatten.map f = (List.replicate n (xs.map f)).flatten := by
  rw [List.map_flatten, List.map_replicate]
theorem eo_repM {k : Int} (ha : EL X Γ a (xs.map enc)) (hb : ED X Γ b (.int k)) (h1 : -(2 ^ 63) ≤ k ∧ k < 2 ^ 63) (hl : xs.length * k.toNat ≤ sizeLine) : EO X Γ (.BinOp a .Mult b pos) (.lst ((List.replicate k.toNat xs).flatten.map enc)) := by
  rw [map_rep]
  exact eo_rep ha hb h1 (by rw [List.length_map]; exact hl)
theorem eo_slM {lo hi : Option Expr} {i j : Option Int} {p2 : Pos} (ha : EL X Γ a (xs.map enc)) (hl : EPo X Γ lo i) (hu : EPo X Γ hi j) : EO X Γ (.Subscript a (.Slice lo hi none p2) pos) (.lst ((cutL xs i j).map enc)) := by
  rw [← cutL_map]
  exact eo_slL ha hl hu
theorem ed_lenM (hg : Gl X "len") (hm : X.mg "len" = none) (ha : EL X Γ a (xs.map enc)) (he : starEach [a] X.env = (false, eval a X.env) :: starEach [] X.env := by exact starEach_ns rfl) (hpl : (backTo pos (starEach [] X.env)).any (·.1) = false := by exact plain_ok rfl) : ED X Γ (.Call (.Name "len" p) [a] [] pos) (.int xs.length) := by
  have h := ed_lenL (p := p) (pos := pos) hg hm ha he hpl
  rw [List.length_map] at h
  exact h
theorem it_zipM {elts : List Expr} {kk : Nat} {tpos : Pos} (hg : Gl X "zip") (hm : X.mg "zip" = none) (ha : ED X Γ a (.lst (xs.map enc))) (hb : ED X Γ b (.lst (zs.map enc'))) (hs : starEach [a, b] X.env = (false, eval a X.env) :: starEach [b] X.env := by exact starEach_ns rfl) (hs2 : starEach [b] X.env = (false, eval b X.env) :: starEach [] X.env := by exact starEach_ns rfl) (hpl : (backTo pos (starEach [b] X.env)).any (·.1) = false := by exact plain_ok rfl) :
    IT X Γ (.Tuple elts kk tpos) (.Call (.Name "zip" p) [a, b] [] pos) ((xs.zip zs).map fun z => .tup [enc z.1, enc' z.2]) := by
  have h := it_zip (elts := elts) (kk := kk) (tpos := tpos) (p := p) (pos := pos) hg hm ha hb hs hs2 hpl
  rw [List.zip_map, List.map_map] at h
  exact h
theorem it_enumM {elts : List Expr} {kk : Nat} {tpos : Pos} (hg : Gl X "enumerate") (hm : X.mg "enumerate" = none) (ha : ED X Γ a (.lst (xs.map enc))) (hs : starEach [a] X.env = [(false, eval a X.env)] := by exact starEach_ns rfl) :
    IT X Γ (.Tuple elts kk tpos) (.Call (.Name "enumerate" p) [a] [] pos) ((enumI xs).map fun z => .tup [.int z.1, enc z.2]) := by
  have h := it_enum (elts := elts) (kk := kk) (tpos := tpos) (p := p) (pos := pos) hg hm ha hs
  have e : ((enumI xs).map fun z => D.tup [.int z.1, enc z.2]) = ((xs.map enc).zipIdx.map fun z => D.tup [.int (z.2 : Int), z.1]) := by
    unfold enumI
    rw [List.map_map, List.zipIdx_map, List.map_map]
    rfl
  rw [e]
  exact h
end

/-! ### one's own list as data, where the answer is flat -/
def flatD : D → Bool
  | .non => true | .bl _ => true | .int _ => true | .str _ => true | _ => false
theorem Is.flat {K : PySem.W.Frag} {G G' : Hp} {v : V} {d : D} (h : Is K G v d) (f : flatD d = true) : Is K G' v d := by
  cases h with
  | non => exact .non
  | bl b => exact .bl b
  | int i => exact .int i
  | str l => exact .str l
  | _ => cases f
theorem Grow.lend {G H G' H' : Hp} {p : Addr} {u : HO} (g : Grow (upd G p u) H G' H') (n : G p = none) : Grow G H (fun b => if b = p then none else G' b) H' := by
  refine ⟨fun b o e => ?_, g.h, fun b o e => ?_, fun b o e m => ?_⟩
  · have hb : b ≠ p := ne_of_none e n
    show (if b = p then none else G' b) = some o
    rw [if_neg hb]
    exact g.g b o (by rw [upd_ne hb]; exact e)
  · have e' : (if b = p then none else G' b) = some o := e
    by_cases hb : b = p
    · rw [if_pos hb] at e'
      cases e'
    · rw [if_neg hb] at e'
      exact g.s b o e'
  · show (if b = p then none else G' b) = none
    by_cases hb : b = p
    · rw [if_pos hb]
    · rw [if_neg hb]
      exact g.f b o e (by rw [upd_ne hb]; exact m)
section
variable {K : PySem.W.Frag} {X : Cx} {Γ : List B} {e : Expr} {ds : List D} {x : D} {b : Bool}
theorem ed_lend (i : Nat) (h : Γ[i]? = some (B.own (.lst ds))) (hf : flatD x = true) (he : ED X (Γ.set i (.d (.lst ds))) e x) : ED X Γ e x := fun F σ G H s Q q => by
  obtain ⟨p, vs, h1, h2, h3, h4, s'⟩ := s.frzL h
  exact he F σ _ H s' Q fun v G' H' g i => q v _ H' (g.lend h3) (i.flat hf)
theorem et_lend (i : Nat) (h : Γ[i]? = some (B.own (.lst ds))) (he : ET X (Γ.set i (.d (.lst ds))) e b) : ET X Γ e b := fun F σ G H s Q q => by
  obtain ⟨p, vs, h1, h2, h3, h4, s'⟩ := s.frzL h
  exact he F σ _ H s' Q fun G' H' g => q _ H' (g.lend h3)
end

/-! ### isinstance of anything -/
def isiD (n : String) (d : D) : Bool := ((tyD d).bind fun t => kitB t n).getD false
section
variable {X : Cx} {Γ : List B} {pos p : Pos} {a b : Expr} {x : D}
theorem ed_isiD {n : String} {r : Bool} (hg : Gl X "isinstance") (hm : X.mg "isinstance" = none) (ha : ED X Γ a x) (hb : ED X Γ b (.ty n)) (hk : (tyD x).bind (fun t => kitB t n) = some r) (he : starEach [a, b] X.env = (false, eval a X.env) :: starEach [b] X.env := by exact starEach_ns rfl) (he2 : starEach [b] X.env = (false, eval b X.env) :: starEach [] X.env := by exact starEach_ns rfl)
    (hpl : (backTo pos (starEach [b] X.env)).any (·.1) = false := by exact plain_ok rfl) : ED X Γ (.Call (.Name "isinstance" p) [a, b] [] pos) (.bl r) := by
  cases ht : tyD x with
  | none =>
    rw [ht] at hk
    cases hk
  | some t =>
    rw [ht] at hk
    exact ed_isi hg hm ha hb ht hk he he2 hpl
end
section
variable {X : Cx} {Γ : List B} {pos : Pos} {a b : Expr}
/-- 1 << k -/
theorem od_shlW (k : Nat) (j : Int) (h : k ≤ 134217727) (e : j = (k : Int)) : OpD X (binaryOp .LShift) (.int 1) (.int j) (.int (2 ^ k)) := by
  rw [e]
  exact od_shl1 k h
end

def B16 : Int := 2 ^ 16000
theorem od_andB {X : Cx} (i : Int) : OpD X (binaryOp .BitAnd) (.int i) (.int ((2 : Int) ^ 16000 - 1)) (.int (i % B16)) := od_andM i _ 16000 rfl
/-! ### xs[i] = e of one's own list -/
section
variable {X : Cx} {E : XK} {Γ : List B} {S T : Type} {Γs : S → List B} {Γb : T → List B} {rest : List Stmt} {pos spos : Pos} {lv : Nat} {N : List Str} {sc : Scope} {y : Str} {py : Pos} {e ie : Expr}
theorem sst_sub {a b e : Expr} {p : Pos} {env : Env} : swappedStores [.Subscript a b p] e env = pure none := by
  unfold swappedStores
  cases e <;> rfl
theorem b_setI {τ : Type} (i : Nat) (enc : τ → D) {xs : List τ} {x : τ} {n : Nat} {k : List τ → Ctl S T} (hX : XOk lv N sc X E) (hn : N[i]? = some y) (hl : Vis sc y) (h : Γ[i]? = some (B.own (.lst (xs.map enc)))) (he : ED X Γ e (enc x)) (hi : ED X Γ ie (.int (n : Int))) (hz : n < xs.length)
    (hr : ∀ zs, zs = xs.set n x → BK X E (Γ.set i (.own (.lst (zs.map enc)))) rest Γs Γb (k zs)) (hst : PSet X rSetL := by exact set_list)
    (hs : swapsWithSole [.Subscript (.Name y py) ie spos] e pos.line X.env = pure false := by exact sws_ns rfl) (hw : swappedStores [.Subscript (.Name y py) ie spos] e X.env = pure none := by exact sst_sub) (h1 : (assignEach [.Subscript (.Name y py) ie spos] X.env).map (·.2) = [assign (.Subscript (.Name y py) ie spos) X.env] := by rfl)
    (ha : ∀ v, assign (.Subscript (.Name y py) ie spos) X.env v = (do
      let ov ← holding [v] (eval (.Name y py) X.env)
      let iv ← holding [v, ov] (eval ie X.env)
      standAt spos
      holding [v, ov, iv] (setItem ov iv v)
      release [v, ov, iv] []) := by intro _; rfl) (hd : (y == ("__debug__" : Str)) = false := by decide) (hcd : (y == ("__classdict__" : Str)) = false := by decide) :
    BK X E Γ (.Assign [.Subscript (.Name y py) ie spos] e pos :: rest) Γs Γb (bnd (xs.set n x) k) := fun F G0 σ G H D s gr post => by
  obtain ⟨p, u, k1, k2, k3, k4, k5⟩ := s.own i _ h
  obtain ⟨vs, rfl, iv⟩ := k5.lst
  refine w_cons (ps_asg pe_w (pg_sub (pe_var (hX.nm hn) (hX.vs hl) hd hcd) pe_w hst ha) hs hw h1) ?_
  refine he F σ G H s _ fun v G1 H1 g1 i1 => ⟨_, k1, hi F σ G1 H1 (s.grow g1) _ fun w G2 H2 g2 i2 => ?_⟩
  cases i2
  have g := g1.trans g2
  have s2 := s.grow g
  have hlen : vs.length = xs.length := by rw [iv.len, List.length_map]
  refine ⟨p, vs, (n : Int), n, rfl, rfl, g.h _ _ k2, Evl.ixN_nat (by omega), ?_⟩
  have s3 := s2.mut (u := .lst (vs.set n v)) (o' := .lst ((xs.set n x).map enc)) h k1 (by
    show IsAll _ _ _ _
    rw [List.map_set]
    exact (iv.up g.g).set n (i1.up g2.g))
  have g3 := gr.trans g
  refine hr (xs.set n x) rfl F G0 σ G2 _ D s3 ⟨g3.g, fun b o eo => ?_, s3.sub, g3.f⟩ (post.up g.g)
  rw [upd_ne (ne_of_none eo k4)]
  exact g3.h b o eo
end
theorem wk_un (Γ Γ' : List B) (h : Γ' = List.replicate Γ.length B.un) : Wk Γ Γ' := by
  subst h
  induction Γ with
  | nil => exact .nil
  | cons b Γ ih => exact .drop ih
end Sd
namespace Sd
open PySem L2
/-! what a mirror hands back -/
def outI (c : Ctl Unit Empty) : Int := match c with | .ret (.v (.int i)) => i | _ => 0
def outB (c : Ctl Unit Empty) : Bool := match c with | .ret (.v (.bl b)) => b | _ => false
def outS (c : Ctl Unit Empty) : List Nat := match c with | .ret (.v (.str s)) => s | _ => []
theorem outI_ret (i : Int) : outI (.ret (.v (.int i))) = i := rfl
theorem outB_ret (i : Bool) : outB (.ret (.v (.bl i))) = i := rfl
theorem outS_ret (i : List Nat) : outS (.ret (.v (.str i))) = i := rfl
end Sd
namespace Sd
open PySem L2
theorem atI_mem {α : Type} {xs : List α} {i : Int} {y : α} (h : atI xs i = some y) : y ∈ xs := by
  unfold atI at h
  cases hi : ixN xs.length i with
  | none =>
    rw [hi] at h
    cases h
  | some j =>
    rw [hi] at h
    exact List.mem_of_getElem? (show xs[j]? = some y from h)
theorem ix_mem {α : Type} {xs : List α} {i : Int} (d : α) (h : -(xs.length : Int) ≤ i ∧ i < xs.length) : ix xs i d ∈ xs := atI_mem (ix_ok (d := d) h)
theorem ix_all {α : Type} {P : α → Prop} {xs : List α} {i : Int} {d : α} (hp : ∀ x ∈ xs, P x) (h : -(xs.length : Int) ≤ i ∧ i < xs.length) : P (ix xs i d) := hp _ (ix_mem d h)
end Sd
namespace Sd
open PySem PySem.Spec PyProof.Rows L2
/-! small dicts -/
section
variable {X : Cx} {Γ : List B} {pos : Pos} {k v : Expr} {x : D}
theorem ed_dict0 : ED X Γ (.Dict [] [] pos) (.dct []) := ed_of pe_dnewK fun F σ G H s Q q p hp => q _ _ _ (Grow.new s.sub hp) (.dct upd_same .nil)
theorem ed_dict1 {l : List Nat} (hk : ED X Γ k (.str l)) (hv : ED X Γ v x) : ED X Γ (.Dict [some k] [v] pos) (.dct [(.inr (S l), x)]) :=
  ed_of (pe_disp (pps_cons pe_w pe_w pps_nil) rfl rfl (by simp) (by show 1 ≤ 15; decide)) fun F σ G H s Q q p hp => by
    have g0 : Grow G H G (upd H p (.dK [])) := Grow.lay s.sub hp
    refine hk F σ G _ (s.grow g0) _ fun u G1 H1 g1 i1 => hv F σ G1 H1 ((s.grow g0).grow g1) _ fun w G2 H2 g2 i2 => ?_
    cases i1
    have hp2 : H2 p = some (.dK []) := g2.h _ _ (g1.h _ _ upd_same)
    have n2 : G2 p = none := g2.f p _ (g1.h _ _ upd_same) (g1.f p _ upd_same (Evl.fresh_back s.sub hp))
    refine ⟨hp2, [(.inr (S l), w)], rfl, by show 1 ≤ 15; decide, ?_⟩
    have g := g1.trans g2
    refine q _ (upd G2 p (.dK (mergeK [] [(.inr (S l), w)]))) _ ⟨(g0.g.trans g.g).trans (Evl.Ex.new n2), fun b o e => ?_, fun b o e => ?_, fun b o e n => ?_⟩ (.dct upd_same (.cons (i2.up (Evl.Ex.new n2)) .nil))
    · have hb : b ≠ p := ne_of_none e hp
      rw [upd_ne hb]
      exact g.h b o (by rw [upd_ne hb]; exact e)
    · by_cases hb : b = p
      · subst hb
        rw [upd_same] at e ⊢
        exact e
      · rw [upd_ne hb] at e ⊢
        exact g2.s b o e
    · have hb : b ≠ p := ne_of_none e hp
      rw [upd_ne hb]
      exact g.f b o (by rw [upd_ne hb]; exact e) n
end
/-! anything plain, asked for its kind -/
def plainT (d : D) : Bool := (tyD d).isSome
theorem kit_all : (["NoneType", "bool", "int", "str", "list", "tuple", "dict"].all fun t => ["int", "bool", "str", "list", "tuple", "dict"].all fun n => (kitB t n).isSome) = true := by decide +kernel
theorem isi_ok {d : D} {n : String} (h : plainT d = true) (hn : (["int", "bool", "str", "list", "tuple", "dict"].contains n) = true) : (tyD d).bind (fun t => kitB t n) = some (isiD n d) := by
  unfold isiD
  have key : ∀ t ∈ ["NoneType", "bool", "int", "str", "list", "tuple", "dict"], ∃ r, kitB t n = some r := fun t ht => by
    have q := List.all_eq_true.mp kit_all t ht
    have q2 := List.all_eq_true.mp q n (by simpa using hn)
    exact Option.isSome_iff_exists.mp q2
  cases d with
  | non => obtain ⟨r, e⟩ := key "NoneType" (by simp); simp [tyD, e]
  | bl b => obtain ⟨r, e⟩ := key "bool" (by simp); simp [tyD, e]
  | int i => obtain ⟨r, e⟩ := key "int" (by simp); simp [tyD, e]
  | str l => obtain ⟨r, e⟩ := key "str" (by simp); simp [tyD, e]
  | lst l => obtain ⟨r, e⟩ := key "list" (by simp); simp [tyD, e]
  | tup l => obtain ⟨r, e⟩ := key "tuple" (by simp); simp [tyD, e]
  | dct l => obtain ⟨r, e⟩ := key "dict" (by simp); simp [tyD, e]
  | ty n => cases h
  | ins C l => cases h
  | scr l => cases h
theorem isi_no {d : D} {n : String} (h : plainT d = true) (hn : (["int", "bool", "str", "list", "tuple", "dict"].contains n) = true) (hf : isiD n d = false) : (tyD d).bind (fun t => kitB t n) = some false := by rw [isi_ok h hn, hf]
end Sd

/-! texts parted at a sign and glued -/
namespace Sd
open PySem L2
theorem joinS_eq (l : List Nat) (ls : List (List Nat)) : joinS l ls = TL.joinL l ls := by
  have h := SX.join_S l ls
  unfold joinS
  show (Txt.join (SX.S l) (ls.map SX.S)).cps.toList = _
  rw [h]
def consH (x : Nat) : List (List Nat) → List (List Nat)
  | [] => [[x]]
  | h :: t => (x :: h) :: t
def spC (c : Nat) : List Nat → List (List Nat)
  | [] => [[]]
  | x :: xs => if x = c then [] :: spC c xs else consH x (spC c xs)
theorem spC_ne (c : Nat) (l : List Nat) : spC c l ≠ [] := by
  cases l with
  | nil => simp [spC]
  | cons x xs =>
    unfold spC
    split
    · simp
    · cases spC c xs <;> simp [consH]
theorem spl_one (c : Nat) : ∀ (l acc : List Nat), TL.spl [c] 0 acc l = (match spC c l with | [] => [acc] | h :: t => (acc ++ h) :: t)
  | [], acc => by simp [TL.spl, spC]
  | x :: xs, acc => by
    by_cases h : x = c
    · subst h
      have hp : TL.pre [x] (x :: xs) = true := by simp [TL.pre]
      rw [TL.spl_hit hp]
      show acc :: TL.spl [x] 0 [] xs = _
      rw [spl_one x xs []]
      have e : spC x (x :: xs) = [] :: spC x xs := by
        show (if x = x then _ else _) = _
        rw [if_pos rfl]
      rw [e]
      simp only [List.append_nil, List.nil_append]
      cases hs : spC x xs with
      | nil => exact absurd hs (spC_ne x xs)
      | cons a b => rfl
    · have hp : TL.pre [c] (x :: xs) = false := by simp [TL.pre, h]
      rw [TL.spl_miss hp, spl_one c xs (acc ++ [x])]
      have e : spC c (x :: xs) = consH x (spC c xs) := by
        show (if x = c then _ else _) = _
        rw [if_neg h]
      rw [e]
      cases hs : spC c xs with
      | nil => exact absurd hs (spC_ne c xs)
      | cons a b => simp [consH]
theorem splitS_one {c : Nat} (hc : c < 256) (l : List Nat) : splitS l [c] = spC c l := by
  have h := SX.split_S (a := l) (b := [c]) (by simp) (by simp [hc])
  unfold splitS
  show (Txt.split (SX.S l) (SX.S [c])).map (fun z => z.cps.toList) = _
  rw [h, List.map_map]
  have e : ((fun z : Str => z.cps.toList) ∘ SX.S) = id := by
    funext z
    simp [SX.S]
  rw [e, List.map_id, spl_one]
  cases hs : spC c l with
  | nil => exact absurd hs (spC_ne c l)
  | cons a b => simp
theorem spC_free {c : Nat} : ∀ (l : List Nat) (p : List Nat), p ∈ spC c l → c ∉ p
  | [], p, h => by
    simp [spC] at h
    subst h
    simp
  | x :: xs, p, h => by
    unfold spC at h
    split at h
    · rcases List.mem_cons.mp h with e | h
      · subst e
        simp
      · exact spC_free xs p h
    · rename_i hx
      cases hs : spC c xs with
      | nil => exact absurd hs (spC_ne c xs)
      | cons a b =>
        rw [hs] at h
        have ih : ∀ q ∈ a :: b, c ∉ q := fun q hq => spC_free xs q (by rw [hs]; exact hq)
        rcases List.mem_cons.mp h with e | h
        · subst e
          intro hm
          rcases List.mem_cons.mp hm with e | hm
          · exact hx e.symm
          · exact ih a List.mem_cons_self hm
        · exact ih p (List.mem_cons_of_mem _ h)
theorem spC_no {c : Nat} : ∀ {l : List Nat}, c ∉ l → spC c l = [l]
  | [], _ => rfl
  | x :: xs, h => by
    unfold spC
    rw [if_neg (fun e => h (by rw [e]; exact List.mem_cons_self)), spC_no (fun m => h (List.mem_cons_of_mem _ m))]
    rfl
theorem spC_app {c : Nat} : ∀ {p : List Nat} (q : List Nat), c ∉ p → spC c (p ++ c :: q) = p :: spC c q
  | [], q, _ => by
    show (if c = c then _ else _) = _
    rw [if_pos rfl]
  | x :: xs, q, h => by
    show (if x = c then _ else consH x (spC c (xs ++ c :: q))) = _
    rw [if_neg (fun e => h (by rw [e]; exact List.mem_cons_self)), spC_app q (fun m => h (List.mem_cons_of_mem _ m))]
    rfl
theorem spC_join {c : Nat} : ∀ {ls : List (List Nat)}, ls ≠ [] → (∀ p ∈ ls, c ∉ p) → spC c (TL.joinL [c] ls) = ls
  | [], h, _ => absurd rfl h
  | [p], _, h => spC_no (h p List.mem_cons_self)
  | p :: q :: r, _, h => by
    show spC c (p ++ ([c] ++ TL.joinL [c] (q :: r))) = _
    rw [List.singleton_append, spC_app _ (h p List.mem_cons_self), spC_join (by simp) (fun x hx => h x (List.mem_cons_of_mem _ hx))]
theorem join_spC (c : Nat) : ∀ (l : List Nat), TL.joinL [c] (spC c l) = l
  | [] => rfl
  | x :: xs => by
    have ih := join_spC c xs
    unfold spC
    cases hs : spC c xs with
    | nil => exact absurd hs (spC_ne c xs)
    | cons a b =>
      rw [hs] at ih
      split
      · rename_i e
        show [] ++ ([c] ++ TL.joinL [c] (a :: b)) = _
        rw [ih, e]
        rfl
      · cases b with
        | nil =>
          have ih' : a = xs := ih
          show x :: a = _
          rw [ih']
        | cons b r =>
          show (x :: a) ++ ([c] ++ TL.joinL [c] (b :: r)) = _
          rw [List.cons_append]
          exact congrArg (x :: ·) ih
theorem split_join {c : Nat} (hc : c < 256) {ls : List (List Nat)} (h : ls ≠ []) (hp : ∀ p ∈ ls, c ∉ p) : splitS (joinS [c] ls) [c] = ls := by
  rw [splitS_one hc, joinS_eq, spC_join h hp]
theorem join_split {c : Nat} (hc : c < 256) (l : List Nat) : joinS [c] (splitS l [c]) = l := by
  rw [splitS_one hc, joinS_eq, join_spC]
theorem joinL_nil : ∀ (ls : List (List Nat)), TL.joinL [] ls = ls.flatten
  | [] => rfl
  | [p] => by simp [TL.joinL]
  | p :: q :: r => by
    show p ++ ([] ++ TL.joinL [] (q :: r)) = _
    rw [joinL_nil (q :: r)]
    rfl
theorem joinS_nil (ls : List (List Nat)) : joinS [] ls = ls.flatten := by rw [joinS_eq, joinL_nil]
theorem joinL_len (S : List Nat) : ∀ (ls : List (List Nat)), (TL.joinL S ls).length ≤ (ls.map (·.length)).sum + ls.length * S.length
  | [] => by simp [TL.joinL]
  | [p] => by simp [TL.joinL]
  | p :: q :: r => by
    have ih := joinL_len S (q :: r)
    show (p ++ (S ++ TL.joinL S (q :: r))).length ≤ _
    rw [List.length_append, List.length_append, List.map_cons, List.sum_cons, List.length_cons (as := q :: r)]
    rw [Nat.add_mul]
    omega
theorem sum_le {n : Nat} : ∀ {ls : List (List Nat)}, (∀ x ∈ ls, x.length ≤ n) → (ls.map (·.length)).sum ≤ n * ls.length
  | [], _ => by simp
  | p :: r, h => by
    have ih := sum_le (ls := r) (fun x hx => h x (List.mem_cons_of_mem _ hx))
    have hp := h p List.mem_cons_self
    rw [List.map_cons, List.sum_cons, List.length_cons, Nat.mul_add]
    omega
theorem join_ok {n m k : Nat} {ls : List (List Nat)} {s : List Nat} (h : ∀ x ∈ ls, x.length ≤ n) (hm : ls.length ≤ m) (hs : s.length ≤ k) (hk : n * m + m * k ≤ 16777216) : (ls.map (·.length)).sum + ls.length * s.length ≤ 16777216 := by
  have h1 := sum_le h
  have h2 := Nat.mul_le_mul (Nat.le_refl n) hm
  have h3 := Nat.mul_le_mul hm hs
  omega
theorem joinS_len {n m k : Nat} {ls : List (List Nat)} {s : List Nat} (h : ∀ x ∈ ls, x.length ≤ n) (hm : ls.length ≤ m) (hs : s.length ≤ k) : (joinS s ls).length ≤ n * m + m * k := by
  rw [joinS_eq]
  have h0 := joinL_len s ls
  have h1 := sum_le h
  have h2 := Nat.mul_le_mul (Nat.le_refl n) hm
  have h3 := Nat.mul_le_mul hm hs
  omega
theorem cutL_sub {α : Type} {xs : List α} {i j : Option Int} {x : α} (h : x ∈ cutL xs i j) : x ∈ xs := by
  unfold cutL at h
  exact List.mem_of_mem_drop (List.mem_of_mem_take h)
theorem cutL_len {α : Type} (xs : List α) (i j : Option Int) : (cutL xs i j).length ≤ xs.length := by
  unfold cutL
  rw [List.length_take, List.length_drop]
  omega
theorem spC_len_le {c : Nat} : ∀ (l : List Nat), (spC c l).length ≤ l.length + 1
  | [] => by simp [spC]
  | x :: xs => by
    have ih := spC_len_le (c := c) xs
    unfold spC
    split
    · rw [List.length_cons, List.length_cons]
      omega
    · cases hs : spC c xs with
      | nil => exact absurd hs (spC_ne c xs)
      | cons a b =>
        rw [hs] at ih
        simp only [consH, List.length_cons] at ih ⊢
        omega
theorem spC_mem_len {c : Nat} : ∀ (l : List Nat) (p : List Nat), p ∈ spC c l → p.length ≤ l.length
  | [], p, h => by
    simp [spC] at h
    subst h
    simp
  | x :: xs, p, h => by
    have ih := spC_mem_len (c := c) xs
    unfold spC at h
    split at h
    · rcases List.mem_cons.mp h with e | h
      · subst e
        simp
      · have := ih p h
        rw [List.length_cons]
        omega
    · cases hs : spC c xs with
      | nil => exact absurd hs (spC_ne c xs)
      | cons a b =>
        rw [hs] at h ih
        rcases List.mem_cons.mp h with e | h
        · subst e
          have := ih a List.mem_cons_self
          rw [List.length_cons, List.length_cons]
          omega
        · have := ih p (List.mem_cons_of_mem _ h)
          rw [List.length_cons]
          omega
theorem splitS_len {c : Nat} (hc : c < 256) (l : List Nat) : (splitS l [c]).length ≤ l.length + 1 := by rw [splitS_one hc]; exact spC_len_le l
theorem splitS_pos {c : Nat} (hc : c < 256) (l : List Nat) : 0 < (splitS l [c]).length := by rw [splitS_one hc]; exact List.length_pos_iff.mpr (spC_ne c l)
theorem splitS_mem {c : Nat} (hc : c < 256) {l p : List Nat} (h : p ∈ splitS l [c]) : p.length ≤ l.length ∧ c ∉ p := by
  rw [splitS_one hc] at h
  exact ⟨spC_mem_len l p h, spC_free l p h⟩
/-- a loop whose turns all go on alike -/
theorem loop_go {S Y T : Type} {step : S → Y → Ctl S S} {s : S} : ∀ {ys : List Y}, (∀ y ∈ ys, step s y = .go s) → (loop step s ys : Ctl S T) = .go s
  | [], _ => rfl
  | y :: ys, h => by
    show (match step s y with | .go s' => loop step s' ys | .brk s' => .go s' | .ret r => .ret r) = _
    rw [h y List.mem_cons_self]
    exact loop_go fun z hz => h z (List.mem_cons_of_mem _ hz)
end Sd
namespace Sd
open PySem L2
/-- a loop that looks for one and leaves -/
theorem loop_find {Y T : Type} {p : Y → Bool} {r : Res} : ∀ {ys : List Y}, (loop (S := Unit) (T := T) (fun (_ : Unit) (y : Y) => if p y = true then Ctl.up (.ret r) else .go ()) () ys) = if ys.any p = true then .ret r else .go ()
  | [] => rfl
  | y :: ys => by
    rw [List.any_cons]
    unfold loop
    cases h : p y with
    | true =>
      rw [if_pos rfl]
      rfl
    | false =>
      rw [if_neg Bool.false_ne_true, Bool.false_or]
      exact loop_find
theorem rints_any {n : Nat} {p : Int → Bool} : (rints 0 n).any p = true ↔ ∃ i : Nat, i < n ∧ p (i : Int) = true := by
  unfold rints
  rw [List.any_map, List.any_eq_true]
  constructor
  · rintro ⟨i, hi, h⟩
    refine ⟨i, List.mem_range.mp hi, ?_⟩
    simpa using h
  · rintro ⟨i, hi, h⟩
    exact ⟨i, List.mem_range.mpr hi, by simpa using h⟩
/-- two lists of one length told apart, place by place -/
theorem any_ne {α : Type} [DecidableEq α] {d : α} {xs ys : List α} (h : xs.length = ys.length) : (rints 0 ys.length).any (fun i => !decide (ix xs i d = ix ys i d)) = !decide (xs = ys) := by
  by_cases e : xs = ys
  · subst e
    rw [decide_eq_true rfl]
    apply Bool.eq_false_iff.mpr
    intro q
    obtain ⟨i, _, h2⟩ := rints_any.mp q
    simp at h2
  · rw [decide_eq_false e]
    show _ = true
    rw [rints_any]
    apply Classical.byContradiction
    intro hn
    refine e (List.ext_getElem h fun i h1 h2 => ?_)
    apply Classical.byContradiction
    intro hne
    refine hn ⟨i, h2, ?_⟩
    rw [ix_nat, ix_nat, List.getD_eq_getElem?_getD, List.getD_eq_getElem?_getD, List.getElem?_eq_getElem h1, List.getElem?_eq_getElem h2]
    simpa using hne
end Sd

namespace Sd
open PySem PySem.Spec PyProof.Rows L2

/-! ### what may raise -/
abbrev veTail : List Value := [.type "ValueError", .type "Exception", .type "BaseException", .type "object"]
/-- an own class of exceptions without own __init__, beneath ValueError -/
structure ExC (K : PySem.W.Frag) (mg : Str → Option Value) (x : Str) : Prop where
  ex : ∃ C, mg x = some (.ref C) ∧ PySem.W.nsIn K mainGlobals x = some (some (.ref C)) ∧ PySem.W.excIn K C veTail "ValueError.__new__" = true ∧ PySem.W.keepIn K (.ref C) = true ∧
    PySem.W.subIn K (.ref C) (.type "BaseException") = some true ∧ PySem.W.typeIn K (.ref C) = some (.type "type")
theorem PostR.grow {K : PySem.W.Frag} {F G0 G H : Hp} {E : XK} {rt : VK} {r : Res} (g : Grow G0 F G H) (h : PostR K F G0 E rt r) : PostR K H G E rt r := by
  cases r with
  | v x => exact fun v G' H' g' i => h v G' H' (g.trans g') i
  | o o => exact fun p u G' H' g' hp n hn ho => h p u G' H' (g.trans g') hp n (Evl.fresh_back g.h hn) ho
  | x e => exact fun cls d G' H' g' i => h cls d G' H' (g.trans g') i
/-- comes to a value, to one's own thing, or raises -/
def EvR (K : PySem.W.Frag) (E : XK) (Γ : List B) (te : TE) (r : Res) : Prop := ∀ F σ G H, Stt K F Γ σ G H → ∀ Q : VK, PostR K H G E Q r → te σ H Q
abbrev ER (X : Cx) (E : XK) (Γ : List B) (e : Expr) (r : Res) : Prop := EvR X.K E Γ (wE X e) r
def resX {τ : Type} (enc : τ → D) : Except Exn τ → Res
  | .ok x => .v (enc x)
  | .error e => .x e
def resO {τ : Type} (enc : τ → OO) : Except Exn τ → Res
  | .ok x => .o (enc x)
  | .error e => .x e
section
variable {X : Cx} {E : XK} {Γ : List B} {e : Expr} {es : List Expr} {r : Res}
theorem er_of {t : TE} (h : PE X e t) (k : EvR X.K E Γ t r) : ER X E Γ e r := fun F σ G H s Q q => ⟨fun pins sh I => h.run pins sh σ H Q I (k F σ G H s Q q)⟩
theorem ed_ofR {τ : Type} {enc : τ → D} {r : Except Exn τ} {x : τ} (h : ER X E Γ e (resX enc r)) (hx : r = .ok x) : ED X Γ e (enc x) := fun F σ G H s Q q => h F σ G H s Q (by rw [hx]; exact q)
theorem eo_ofR {τ : Type} {enc : τ → OO} {r : Except Exn τ} {x : τ} (h : ER X E Γ e (resO enc r)) (hx : r = .ok x) : EO X Γ e (enc x) := fun F σ G H s Q q => h F σ G H s Q (by rw [hx]; exact q)
theorem er_call {pos p : Pos} {x : Str} {lv : Nat} {A : Type} {enc : A → List D} {pre : A → Prop} {res : A → Res} (a : A) (tk : Takes X (fun cls d _ H => E cls d H)) (hk : KnX X x lv (spF X.K enc pre res)) (hr : Room lv X.A) (hg : Gl X x) (ha : EA X Γ (e :: es) (enc a)) (hp : pre a)
    (hdb : (x == ("__debug__" : Str)) = false := by decide) (he : starEach (e :: es) X.env = (false, eval e X.env) :: starEach es X.env := by exact starEach_ns rfl) (hpl : (backTo pos (starEach es X.env)).any (·.1) = false := by exact plain_ok rfl) : ER X E Γ (.Call (.Name x p) (e :: es) [] pos) (res a) := by
  obtain ⟨f, fd, ps, h1, h2, h3, h4⟩ := hk.ex
  refine er_of (pe_call (E := E) h1 hr hg h2 h3 h4 .nil (passes_call tk fun _ _ _ _ h => h) pa_w hdb he hpl) fun F σ G H s Q q => ha F σ G H s _ fun vs G1 H1 g1 i1 => ?_
  rw [List.append_nil]
  exact ⟨a, G1, g1.s, i1, hp, PostR.grow g1 q⟩
end
section
variable {X : Cx} {E : XK} {Γ : List B} {S T : Type} {Γs : S → List B} {Γb : T → List B} {rest : List Stmt} {pos : Pos} {lv : Nat} {N : List Str} {sc : Scope} {y : Str} {py : Pos} {e : Expr}
theorem b_setR {τ : Type} (i : Nat) (enc : τ → D) {r : Except Exn τ} {k : τ → Ctl S T} (hX : XOk lv N sc X E) (hn : N[i]? = some y) (hl : Loc sc y) (he : ER X E Γ e (resX enc r)) (hr : ∀ v, r = .ok v → BK X E (Γ.set i (.d (enc v))) rest Γs Γb (k v)) (hs : swapsWith e (some (.Name y py)) pos.line X.env = pure false := by exact sw_ns rfl) :
    BK X E Γ (.Assign [.Name y py] e pos :: rest) Γs Γb (bndX r k) := fun F G0 σ G H D s gr post =>
  w_cons (ps_set hX.nd (hX.nm hn) (hX.lc hl) pe_w hs (.inl (hX.fn y))) (he F σ G H s _ (by
    cases r with
    | ok x => exact fun v G1 H1 g1 i1 => hr x rfl F G0 _ G1 H1 D ((s.grow g1).set i i1) (gr.trans g1) (PostC.up post g1.g)
    | error x => exact PostR.grow gr (show PostR X.K F G0 E D.rt (.x x) from post)))
theorem b_setRO {τ : Type} (i : Nat) (enc : τ → OO) {r : Except Exn τ} {k : τ → Ctl S T} (hX : XOk lv N sc X E) (hn : N[i]? = some y) (hl : Loc sc y) (he : ER X E Γ e (resO enc r)) (hr : ∀ v, r = .ok v → BK X E (Γ.set i (.own (enc v))) rest Γs Γb (k v)) (hs : swapsWith e (some (.Name y py)) pos.line X.env = pure false := by exact sw_ns rfl) :
    BK X E Γ (.Assign [.Name y py] e pos :: rest) Γs Γb (bndX r k) := fun F G0 σ G H D s gr post =>
  w_cons (ps_set hX.nd (hX.nm hn) (hX.lc hl) pe_w hs (.inl (hX.fn y))) (he F σ G H s _ (by
    cases r with
    | ok x => exact fun p u G1 H1 g1 hp n hn ho => hr x rfl F G0 _ G1 H1 D ((s.grow g1).setO i hp n (Evl.fresh_back gr.h hn) ho fun j o' _ e z => s.fresh hn e z) (gr.trans g1) (PostC.up post g1.g)
    | error x => exact PostR.grow gr (show PostR X.K F G0 E D.rt (.x x) from post)))
theorem b_setRT {τ : Type} (enc : τ → D) {r : Except Exn τ} {k : τ → Ctl S T} {tg : Expr} {g : TG} {js : List Nat} (Γ' : τ → List B) (hg : PG X tg g) (htg : ∀ v, TgD X.K g js Γ (enc v) (Γ' v)) (he : ER X E Γ e (resX enc r)) (hr : ∀ v, r = .ok v → BK X E (Γ' v) rest Γs Γb (k v))
    (hs : swapsWithSole [tg] e pos.line X.env = pure false := by exact sws_ns rfl) (hw : swappedStores [tg] e X.env = pure none := by exact sst_ns rfl) (h1 : (assignEach [tg] X.env).map (·.2) = [assign tg X.env] := by rfl) : BK X E Γ (.Assign [tg] e pos :: rest) Γs Γb (bndX r k) := fun F G0 σ G H D s gr post =>
  w_cons (ps_asg pe_w hg hs hw h1) (he F σ G H s _ (by
    cases r with
    | ok x => exact fun v G1 H1 g1 i1 => htg x F σ G1 H1 v (s.grow g1) i1 _ fun ws s' => hr x rfl F G0 _ G1 H1 D s' (gr.trans g1) (PostC.up post g1.g)
    | error x => exact PostR.grow gr (show PostR X.K F G0 E D.rt (.x x) from post)))
theorem b_retR {r : Res} (he : ER X E Γ e r) : BK X E Γ (.Return (some e) pos :: rest) Γs Γb (.ret r) := fun F G0 σ G H D s gr post => w_cons (ps_ret pe_w) (he F σ G H s _ (PostR.grow gr post))
/-- raise X('m') -/
theorem b_raise {x m : Str} {j : Nat} {p p2 cpos : Pos} (hX : XOk lv N sc X E) (hc : ExC X.K X.mg x) (hg : Gl X x) (hdb : (x == ("__debug__" : Str)) = false := by decide) :
    BK X E Γ (.Raise (some (.Call (.Name x p) [.Constant (.str m) j p2] [] cpos)) none pos :: rest) Γs Γb (.ret (.x ⟨x, []⟩)) := fun F G0 σ G H D s gr post => by
  obtain ⟨C, h1, h2, h3, h4, h5, h6⟩ := hc.ex
  refine w_cons (ps_raise hX.calm hX.takes (pmk_own PySem.F.excBase_ValueError h3 h1 h4 (raises_own h5 h6) hg hdb)) ?_
  exact post (.ref C) none G H gr ⟨h2, fun n => absurd rfl n⟩
end

/-! ### data told as one kind -/
section
variable {X : Cx} {Γ : List B} {e : Expr} {x y : D}
theorem ed_cast (h : x = y) (he : ED X Γ e x) : ED X Γ e y := h ▸ he
end
def asI : D → Int
  | .int i => i
  | _ => 0
def asS : D → List Nat
  | .str s => s
  | _ => []
def asB : D → Bool
  | .bl b => b
  | _ => false
def asSs : D → List (List Nat)
  | .tup xs => xs.map asS
  | .lst xs => xs.map asS
  | _ => []

/-! ### int(..), str(..), list(..), tuple(..) -/
section
variable {X : Cx} {Γ : List B} {pos p : Pos} {a b : Expr} {ds : List D}
theorem ed_intB {k : Bool} (hg : Gl X "int") (hm : X.mg "int" = none) (ha : ED X Γ a (.bl k)) (he : starEach [a] X.env = (false, eval a X.env) :: starEach [] X.env := by exact starEach_ns rfl) (hpl : (backTo pos (starEach [] X.env)).any (·.1) = false := by exact plain_ok rfl) : ED X Γ (.Call (.Name "int" p) [a] [] pos) (.int (if k then 1 else 0)) :=
  ed_callTy call_int1 hg hm (by decide +kernel) (ea_cons ha ea_nil he) (fun vs G H ex i Q q => by
    cases i with
    | cons i1 i2 =>
      cases i1
      cases i2
      exact .inr ⟨_, rfl, q _ G H (.refl ex) (.int _)⟩) (by decide) (by decide) he hpl
theorem ed_intI {k : Int} (hg : Gl X "int") (hm : X.mg "int" = none) (ha : ED X Γ a (.int k)) (he : starEach [a] X.env = (false, eval a X.env) :: starEach [] X.env := by exact starEach_ns rfl) (hpl : (backTo pos (starEach [] X.env)).any (·.1) = false := by exact plain_ok rfl) : ED X Γ (.Call (.Name "int" p) [a] [] pos) (.int k) :=
  ed_callTy call_int1 hg hm (by decide +kernel) (ea_cons ha ea_nil he) (fun vs G H ex i Q q => by
    cases i with
    | cons i1 i2 =>
      cases i1
      cases i2
      exact .inl ⟨_, rfl, q _ G H (.refl ex) (.int _)⟩) (by decide) (by decide) he hpl
def strI (i : Int) : List Nat := (Str.ofString (toString i)).cps.toList
theorem S_strI (i : Int) : S (strI i) = Str.ofString (toString i) := by simp [S, strI]
theorem strI_nat (n : Nat) : strI (n : Int) = TL.numL n := TL.tl_num n
def natOf (s : List Nat) : Int := (NumText.digitsVal s : Nat)
theorem ed_strI {k : Int} (hg : Gl X "str") (hm : X.mg "str" = none) (ha : ED X Γ a (.int k)) (hz : k.natAbs.log2 < 1920) (he : starEach [a] X.env = (false, eval a X.env) :: starEach [] X.env := by exact starEach_ns rfl) (hpl : (backTo pos (starEach [] X.env)).any (·.1) = false := by exact plain_ok rfl) : ED X Γ (.Call (.Name "str" p) [a] [] pos) (.str (strI k)) :=
  ed_callTy call_str_int hg hm (by decide +kernel) (ea_cons ha ea_nil he) (fun vs G H ex i Q q => by
    cases i with
    | cons i1 i2 =>
      cases i1
      cases i2
      refine ⟨_, rfl, hz, ?_⟩
      have h := q (.str (S (strI k))) G H (.refl ex) (.str _)
      rw [S_strI] at h
      exact h) (by decide) (by decide) he hpl
theorem ed_intS {s : List Nat} (hg : Gl X "int") (hm : X.mg "int" = none) (ha : ED X Γ a (.str s)) (hd : NumText.AllDigits s) (h1 : s ≠ []) (h2 : s.length ≤ 640) (he : starEach [a] X.env = (false, eval a X.env) :: starEach [] X.env := by exact starEach_ns rfl) (hpl : (backTo pos (starEach [] X.env)).any (·.1) = false := by exact plain_ok rfl) : ED X Γ (.Call (.Name "int" p) [a] [] pos) (.int (natOf s)) :=
  ed_callTy call_int_str hg hm (by decide +kernel) (ea_cons ha ea_nil he) (fun vs G H ex i Q q => by
    cases i with
    | cons i1 i2 =>
      cases i1
      cases i2
      refine ⟨_, _, rfl, PySem.intText_digits (x := S s) (by simpa [S] using hd) (by simpa [S] using h1) (by rw [S_len]; omega), by rw [S_len]; exact h2, ?_⟩
      have e : (S s).cps.toList = s := by simp [S]
      rw [e]
      exact q _ G H (.refl ex) (.int _)) (by decide) (by decide) he hpl
/-- list(xs), xs a list that may be read -/
theorem eo_listL (hg : Gl X "list") (hm : X.mg "list" = none) (ha : EL X Γ a ds) (he : starEach [a] X.env = (false, eval a X.env) :: starEach [] X.env := by exact starEach_ns rfl) (hpl : (backTo pos (starEach [] X.env)).any (·.1) = false := by exact plain_ok rfl) : EO X Γ (.Call (.Name "list" p) [a] [] pos) (.lst ds) :=
  eo_of (pe_callTy call_list_of hg hm (by decide +kernel) (pa_cons pe_w pa_nil he) (by decide) (by decide) he hpl) fun F σ G H s Q q => ha F σ G H s _ fun p vs G1 H1 g1 h1 i1 =>
    ⟨p, vs, rfl, .inl (.inl (.inl h1)), fun l hl => q l _ G1 _ (g1.trans (Grow.lay g1.s hl)) upd_same (Evl.fresh_back g1.s hl) (Evl.fresh_back g1.h hl) i1⟩
/-- tuple(xs) -/
theorem ed_tupL (hg : Gl X "tuple") (hm : X.mg "tuple" = none) (ha : EL X Γ a ds) (he : starEach [a] X.env = (false, eval a X.env) :: starEach [] X.env := by exact starEach_ns rfl) (hpl : (backTo pos (starEach [] X.env)).any (·.1) = false := by exact plain_ok rfl) : ED X Γ (.Call (.Name "tuple" p) [a] [] pos) (.tup ds) :=
  ed_of (pe_callTy call_tuple_of hg hm (by decide +kernel) (pa_cons pe_w pa_nil he) (by decide) (by decide) he hpl) fun F σ G H s Q q => ha F σ G H s _ fun p vs G1 H1 g1 h1 i1 =>
    ⟨p, vs, rfl, .inl ⟨.inl (.inl h1), fun l hl => q _ _ _ (g1.trans (Grow.new g1.s hl)) (.tup (.inl (.inl upd_same)) (i1.up (Evl.Ex.new (Evl.fresh_back g1.s hl))))⟩⟩
end

/-! ### == of nested data -/
mutual
def pyD : D → PyData
  | .bl b => .bool b
  | .int i => .int i
  | .str l => .str (S l)
  | .lst xs => .list (pyDs xs)
  | .tup xs => .tuple (pyDs xs)
  | _ => .none
def pyDs : List D → List PyData
  | [] => []
  | x :: xs => pyD x :: pyDs xs
end
def chrOk (l : List Nat) : Bool := l.all (· < 0x110000)
/-- data of that depth that == goes through -/
def eqk : Nat → D → Bool
  | _, .non => true
  | _, .bl _ => true
  | _, .int _ => true
  | _, .str l => chrOk l
  | n + 1, .lst xs => xs.all (eqk n)
  | n + 1, .tup xs => xs.all (eqk n)
  | _, _ => false
theorem chrOk_S {l : List Nat} (h : chrOk l = true) : PyData.canLay0 (.str (S l)) = true := by
  unfold PyData.canLay0 PyData.strOk
  simpa [S, chrOk] using h
theorem eqk_pys {n : Nat} (ih : ∀ d, eqk n d = true → (pyD d).canLay0 = true ∧ (pyD d).depth ≤ n) : ∀ xs : List D, xs.all (eqk n) = true → PyData.canLayAll0 (pyDs xs) = true ∧ PyData.depthAll (pyDs xs) ≤ n
  | [], _ => ⟨rfl, Nat.zero_le _⟩
  | x :: xs, h => by
    rw [List.all_cons, Bool.and_eq_true] at h
    have h1 := ih x h.1
    have h2 := eqk_pys ih xs h.2
    refine ⟨?_, ?_⟩
    · show (PyData.canLay0 (pyD x) && PyData.canLayAll0 (pyDs xs)) = true
      rw [h1.1, h2.1]
      rfl
    · show max (pyD x).depth (PyData.depthAll (pyDs xs)) ≤ n
      omega
theorem eqk_py : ∀ (n : Nat) (d : D), eqk n d = true → (pyD d).canLay0 = true ∧ (pyD d).depth ≤ n
  | _, .non, _ => ⟨rfl, Nat.zero_le _⟩
  | _, .bl _, _ => ⟨rfl, Nat.zero_le _⟩
  | _, .int _, _ => ⟨rfl, Nat.zero_le _⟩
  | n, .str l, h => ⟨chrOk_S (by cases n <;> exact h), Nat.zero_le _⟩
  | 0, .lst _, h => nomatch h
  | 0, .tup _, h => nomatch h
  | n + 1, .lst xs, h => by
    have q := eqk_pys (fun d => eqk_py n d) xs h
    exact ⟨q.1, Nat.succ_le_succ q.2⟩
  | n + 1, .tup xs, h => by
    have q := eqk_pys (fun d => eqk_py n d) xs h
    exact ⟨q.1, Nat.succ_le_succ q.2⟩
  | 0, .ty _, h => nomatch h
  | 0, .dct _, h => nomatch h
  | 0, .ins _ _, h => nomatch h
  | 0, .scr _, h => nomatch h
  | _ + 1, .ty _, h => nomatch h
  | _ + 1, .dct _, h => nomatch h
  | _ + 1, .ins _ _, h => nomatch h
  | _ + 1, .scr _, h => nomatch h
theorem dps_of {K : PySem.W.Frag} {G H : Hp} {n : Nat} (ih : ∀ d v, Is K G v d → eqk n d = true → Dp K H v (pyD d)) : ∀ (xs : List D) (vs : List V), IsAll K G vs xs → xs.all (eqk n) = true → DpAll K H vs (pyDs xs)
  | [], _, h, _ => by cases h; exact .nil
  | x :: xs, _, h, e => by
    rw [List.all_cons, Bool.and_eq_true] at e
    cases h with
    | cons h1 h2 => exact .cons (ih _ _ h1 e.1) (dps_of ih xs _ h2 e.2)
theorem dp_of {K : PySem.W.Frag} {G H : Hp} (ex : Ex G H) : ∀ (n : Nat) (d : D) (v : V), Is K G v d → eqk n d = true → Dp K H v (pyD d)
  | _, .non, _, h, _ => by cases h; exact .non
  | _, .bl _, _, h, _ => by cases h; exact .bl _
  | _, .int _, _, h, _ => by cases h; exact .int _
  | n, .str l, _, h, _ => by cases h; exact .str _
  | 0, .lst _, _, _, e => nomatch e
  | 0, .tup _, _, _, e => nomatch e
  | n + 1, .lst xs, _, h, e => by
    cases h with
    | lst h1 h2 => exact .lst (.inl (.inl (ex _ _ h1))) (dps_of (dp_of ex n) xs _ h2 e)
  | n + 1, .tup xs, _, h, e => by
    cases h with
    | tup h1 h2 => exact .tup (Evl.ex_t ex h1) (dps_of (dp_of ex n) xs _ h2 e)
  | 0, .ty _, _, _, e => nomatch e
  | 0, .dct _, _, _, e => nomatch e
  | 0, .ins _ _, _, _, e => nomatch e
  | 0, .scr _, _, _, e => nomatch e
  | _ + 1, .ty _, _, _, e => nomatch e
  | _ + 1, .dct _, _, _, e => nomatch e
  | _ + 1, .ins _ _, _, _, e => nomatch e
  | _ + 1, .scr _, _, _, e => nomatch e
theorem eqk_shaped {n : Nat} {d : D} (h : eqk n d = true) (hn : n ≤ 64) : SeqAt.shaped (pyD d) = true := by
  have q := eqk_py n d h
  unfold SeqAt.shaped
  rw [q.1, Bool.true_and]
  exact decide_eq_true (Nat.le_trans q.2 hn)
def eqD (x y : D) : Bool := PyData.eqv (pyD x) (pyD y)
theorem eqD_refl {n : Nat} {x : D} (h : eqk n x = true) : eqD x x = true := SeqAt.eqv_refl _ (eqk_py n x h).1
section
variable {X : Cx} {x y : D}
theorem room64 {lv : Nat} {A : Around} (h : Room lv A) : A.units + 64 < cLine := by
  have := h.un
  omega
theorem od_eqD (n : Nat) (hu : X.A.units + 64 < cLine) (hx : eqk n x = true) (hy : eqk n y = true) (hn : n ≤ 64) : OpD X (compareOp .Eq) x y (.bl (eqD x y)) := ⟨_, op_eqD hu, fun v w G H e iv iw Q q =>
  ⟨_, _, dp_of e n _ _ iv hx, dp_of e n _ _ iw hy, eqk_shaped hx hn, eqk_shaped hy hn, q _ G H (.refl e) (.bl _)⟩⟩
theorem od_neD (n : Nat) (hu : X.A.units + 64 < cLine) (hx : eqk n x = true) (hy : eqk n y = true) (hn : n ≤ 64) : OpD X (compareOp .NotEq) x y (.bl (!eqD x y)) := ⟨_, op_neD hu, fun v w G H e iv iw Q q =>
  ⟨_, _, dp_of e n _ _ iv hx, dp_of e n _ _ iw hy, eqk_shaped hx hn, eqk_shaped hy hn, q _ G H (.refl e) (.bl _)⟩⟩

/-! ### a text some times -/
theorem op_mul_str : OpR X (binaryOp .Mult) (fun x y H Q => ∃ (l : List Nat) (n : Int), x = .str (S l) ∧ y = .int n ∧ 0 ≤ n ∧ n ≤ 1000 ∧ l.length ≤ 10000 ∧ Q (.str (S (List.replicate n.toNat l).flatten)) H) := by
  intro pins s σ H x y v u Q I rx ry h
  obtain ⟨l, n, rfl, rfl, h0, h1, h2, q⟩ := h
  obtain ⟨t, rfl⟩ := rx
  obtain ⟨t', rfl⟩ := ry
  have hlen : (S l).length = l.length := S_len l
  have hm : (S l).length * n.toNat ≤ 10000000 := by
    rw [hlen]
    exact Nat.le_trans (Nat.mul_le_mul h2 (show n.toNat ≤ 1000 by omega)) (by decide)
  have hflat : ∀ (m : Nat) (acc : List Nat), (List.replicate m (S l).cps).foldl (· ++ ·) acc.toArray = (acc ++ (List.replicate m l).flatten).toArray := by
    intro m
    induction m with
    | zero => intro acc; simp
    | succ m ih =>
      intro acc
      rw [List.replicate_succ, List.foldl_cons, List.replicate_succ, List.flatten_cons]
      have e : acc.toArray ++ (S l).cps = (acc ++ l).toArray := by simp [S]
      rw [e, ih, List.append_assoc]
  refine PySem.P.mul_str ?_ ?_ ?_ ?_
  · rw [decide_eq_false (by omega), decide_eq_false (by omega)] <;> rfl
  · intro hn hc
    have hz : 0 < n := by omega
    intro hgt
    have a1 : ((S l).length : Int) ≤ 10000 := by rw [hlen]; omega
    have a2 : (2 ^ 63 - 1 : Int) / 1000 ≤ (2 ^ 63 - 1) / n := by
      apply Int.le_ediv_of_mul_le hz
      have a3 : (2 ^ 63 - 1 : Int) / 1000 * n ≤ (2 ^ 63 - 1 : Int) / 1000 * 1000 := Int.mul_le_mul_of_nonneg_left h1 (by decide)
      omega
    omega
  · intro hn hc
    show decide (_ > sizeLine) = false
    rw [decide_eq_false]
    rw [sizeLine_eq]
    omega
  · by_cases hn : n < 1
    · rw [if_pos hn]
      have hz : n = 0 := by omega
      subst hz
      exact ⟨by decide, .str _, H, I.tok _, ⟨_, rfl⟩, q⟩
    · rw [if_neg hn]
      by_cases hc : (n == 1 || (S l).length == 0) = true
      · rw [if_pos hc]
        have e : (List.replicate n.toNat l).flatten = l := by
          rw [Bool.or_eq_true, beq_iff_eq, beq_iff_eq] at hc
          rcases hc with hc | hc
          · subst hc
            simp
          · rw [hlen] at hc
            have : l = [] := List.eq_nil_of_length_eq_zero hc
            subst this
            induction n.toNat with
            | zero => rfl
            | succ m ih => rw [List.replicate_succ, List.flatten_cons, ih]; rfl
        rw [e] at q
        exact ⟨.str _, H, I, ⟨_, rfl⟩, q⟩
      · rw [if_neg hc]
        have e := hflat n.toNat []
        rw [List.nil_append] at e
        have e' : (⟨(List.replicate n.toNat (S l).cps).foldl (· ++ ·) #[]⟩ : Str) = S (List.replicate n.toNat l).flatten := by
          unfold S
          rw [← e]
        rw [e']
        refine ⟨?_, .str _, H, I.tok _, ⟨_, rfl⟩, q⟩
        rw [S_len, List.length_flatten, List.map_replicate, List.sum_replicate_nat, sizeLine_eq]
        rw [hlen, Nat.mul_comm] at hm
        omega
theorem od_mulS {l : List Nat} {n : Int} (h0 : 0 ≤ n) (h1 : n ≤ 1000) (h2 : l.length ≤ 10000) : OpD X (binaryOp .Mult) (.str l) (.int n) (.str (List.replicate n.toNat l).flatten) := ⟨_, op_mul_str, fun v w G H e iv iw Q q => by
  cases iv
  cases iw
  exact ⟨_, _, rfl, rfl, h0, h1, h2, q _ G H (.refl e) (.str _)⟩⟩
end
end Sd

namespace Sd
open PySem PySem.Spec PyProof.Rows L2
/-! ### range with a step -/
def rintsS (lo c : Int) (n : Nat) : List Int := (List.range n).map fun (i : Nat) => lo + (i : Int) * c
def rngN (lo hi c : Int) : Nat := (Builtin.Range.rangeSize lo hi c).toNat
theorem rintsS_get {lo c : Int} {n i : Nat} (h : i < n) : (rintsS lo c n)[i]? = some (lo + (i : Int) * c) := by
  unfold rintsS
  rw [List.getElem?_map, List.getElem?_range h]
  rfl
theorem rintsS_len (lo c : Int) (n : Nat) : (rintsS lo c n).length = n := by
  unfold rintsS
  rw [List.length_map, List.length_range]
theorem rintsS_mem {lo c x : Int} {n : Nat} (h : x ∈ rintsS lo c n) : ∃ i : Nat, i < n ∧ x = lo + i * c := by
  unfold rintsS at h
  obtain ⟨i, hi, rfl⟩ := List.mem_map.mp h
  exact ⟨i, List.mem_range.mp hi, rfl⟩
theorem rngN_up {lo hi c : Int} (hc : 0 < c) : (Builtin.Range.rangeSize lo hi c) = (rngN lo hi c : Int) := by
  unfold rngN Builtin.Range.rangeSize
  rw [if_pos hc]
  split
  · rename_i h
    have : 0 ≤ (hi - lo - 1) / c := Int.ediv_nonneg (by omega) (by omega)
    omega
  · rfl
theorem small_two {n : Int} (h0 : 0 ≤ n) (h1 : n < 2 ^ 62) : Builtin.Range.small 0 n 2 = true := by
  unfold Builtin.Range.small Builtin.Range.rangeSize
  simp only [Builtin.Range.rangeFitsLong, Bool.and_eq_true, Bool.or_eq_true, decide_eq_true_eq, beq_iff_eq, show (2 : Int) > 0 by decide, if_true]
  split <;> omega
theorem rngN_two {n : Nat} : rngN 0 (n : Int) 2 = (n + 1) / 2 := by
  unfold rngN Builtin.Range.rangeSize
  rw [if_pos (by decide)]
  split <;> omega
theorem rints_two {n : Nat} {x : Int} (h : x ∈ rintsS 0 2 (rngN 0 (n : Int) 2)) : 0 ≤ x ∧ x < n ∧ x % 2 = 0 := by
  obtain ⟨i, hi, rfl⟩ := rintsS_mem h
  rw [rngN_two] at hi
  omega
section
variable {X : Cx} {Γ : List B} {tg a b c : Expr} {pos p : Pos}
theorem it_range3 {i j k : Int} (hg : Gl X "range") (hm : X.mg "range" = none) (ha : ED X Γ a (.int i)) (hb : ED X Γ b (.int j)) (hc : ED X Γ c (.int k)) (h1 : 0 < k ∧ k < 1073741824) (h2 : Builtin.Range.small i j k = true)
    (hs : starEach [a, b, c] X.env = (false, eval a X.env) :: starEach [b, c] X.env := by exact starEach_ns rfl) (hs2 : starEach [b, c] X.env = (false, eval b X.env) :: starEach [c] X.env := by exact starEach_ns rfl) (hs3 : starEach [c] X.env = (false, eval c X.env) :: starEach [] X.env := by exact starEach_ns rfl) (hpl : (backTo pos (starEach [b, c] X.env)).any (·.1) = false := by exact plain_ok rfl) :
    IT X Γ tg (.Call (.Name "range" p) [a, b, c] [] pos) ((rintsS i k (rngN i j k)).map D.int) :=
  ⟨_, pi_range3 hg hm pa_w hs hpl, fun F σ G H s R q => (ea_cons ha (ea_cons hb (ea_cons hc ea_nil hs3) hs2) hs) F σ G H s _ fun vs G1 H1 g1 i1 => by
    cases i1 with
    | cons i1 i2 =>
      cases i2 with
      | cons i2 i3 =>
        cases i3 with
        | cons i3 i4 =>
          cases i1
          cases i2
          cases i3
          cases i4
          refine ⟨i, j, k, rngN i j k, rfl, ⟨by omega, by omega, h2, rngN_up h1.1⟩, ?_⟩
          have hl : ((rintsS i k (rngN i j k)).map D.int).length = rngN i j k := by rw [List.length_map, rintsS_len]
          refine q _ (fun _ => True) (fun t H v H' => H' = H ∧ t < rngN i j k ∧ v = .int (i + (t : Nat) * k)) G1 H1 g1 (by rw [hl]; exact walk_rangeC.mono (fun _ h => h) fun t H x H' hi _ y => ⟨y.1, hi, y.2⟩) (fun _ _ _ _ => trivial) fun t G2 H2 v H3 e1 e2 y => ?_
          obtain ⟨rfl, hi, rfl⟩ := y
          exact ⟨G2, .int (i + (t : Int) * k), by rw [List.getElem?_map, rintsS_get hi]; rfl, .refl e2, .int _⟩⟩
end
/-! ### tuples of any length -/
section
variable {X : Cx} {Γ : List B} {pos p apos : Pos} {a b : Expr} {τ : Type} {enc : τ → D} {xs : List τ}
theorem ed_tupM (hg : Gl X "tuple") (hm : X.mg "tuple" = none) (ha : EL X Γ a (xs.map enc)) (he : starEach [a] X.env = (false, eval a X.env) :: starEach [] X.env := by exact starEach_ns rfl) (hpl : (backTo pos (starEach [] X.env)).any (·.1) = false := by exact plain_ok rfl) : ED X Γ (.Call (.Name "tuple" p) [a] [] pos) (.tup (xs.map enc)) := ed_tupL hg hm ha he hpl
theorem ed_lenTM (hg : Gl X "len") (hm : X.mg "len" = none) (ha : ED X Γ a (.tup (xs.map enc))) (he : starEach [a] X.env = (false, eval a X.env) :: starEach [] X.env := by exact starEach_ns rfl) (hpl : (backTo pos (starEach [] X.env)).any (·.1) = false := by exact plain_ok rfl) : ED X Γ (.Call (.Name "len" p) [a] [] pos) (.int xs.length) := by
  have h := ed_lenT (p := p) (pos := pos) hg hm ha he hpl
  rw [List.length_map] at h
  exact h
theorem ed_joinT {l : List Nat} {ls : List (List Nat)} (ha : ED X Γ a (.str l)) (hb : ED X Γ b (.tup (ls.map D.str))) (hz : (ls.map (·.length)).sum + ls.length * l.length ≤ 16777216)
    (hbase : attributeBase a "join" X.env (eval a X.env) = eval a X.env := by exact ab_ns rfl) (hline : (apos.endLine == pos.line) = true := by rfl)
    (hfew : ((backTo pos (starEach (b :: []) X.env)).all (fun x => !x.1) && (backToKw pos (keywordEach [] X.env)).all (fun x => x.1.isSome) && decide ((b :: ([] : List Expr)).length + ([] : List Keyword).length + (if ([] : List Keyword).isEmpty then 0 else 1) < 30)) = true := by exact few_ok rfl)
    (hs : starEach (b :: []) X.env = (false, eval b X.env) :: starEach [] X.env := by exact starEach_ns rfl) (hplain : (backTo pos (starEach [] X.env)).any (·.1) = false := by exact plain_ok rfl) :
    ED X Γ (.Call (.Attribute a "join" apos) [b] [] pos) (.str (joinS l ls)) :=
  ed_of (pe_bm PySem.F.plainAttrs_str PySem.F.slot_str_join PySem.F.type_str_join mt_join pe_w (pa_cons pe_w pa_nil hs) hbase hfew hline hs hplain) fun F σ G H s Q q => ha F σ G H s _ fun v G1 H1 g1 i1 => by
    cases i1
    refine ⟨rfl, hb F σ G1 H1 (s.grow g1) _ fun w G2 H2 g2 i2 => ?_⟩
    cases i2 with
    | @tup p vs _ h2 i2 =>
      have e := i2.strs
      subst e
      refine ⟨_, p, ls.map S, rfl, rfl, .inr ?_, ?_, ?_⟩
      · have h3 := Evl.ex_t g2.s h2
        rw [List.map_map]
        exact h3
      · rw [List.map_map, List.length_map, S_len]
        have : (ls.map ((fun x : Str => x.length) ∘ S)) = ls.map (·.length) := List.map_congr_left fun x _ => S_len x
        rw [this]
        exact hz
      · exact q _ G2 H2 (g1.trans g2) (.str _)
end
/-! ### what a mirror hands back -/
def outX {τ : Type} (dec : D → τ) (d : τ) : Ctl Unit Empty → Except Exn τ
  | .ret (.v x) => .ok (dec x)
  | .ret (.x e) => .error e
  | _ => .ok d
def okOf {τ : Type} (r : Except Exn τ) (d : τ) : τ := match r with
  | .ok x => x
  | .error _ => d
theorem resX_ok {τ : Type} {enc : τ → D} {r : Except Exn τ} {d : τ} (h : ∃ x, r = .ok x) : resX enc r = .v (enc (okOf r d)) := by
  obtain ⟨x, rfl⟩ := h
  rfl
theorem resO_ok {τ : Type} {enc : τ → OO} {r : Except Exn τ} {d : τ} (h : ∃ x, r = .ok x) : resO enc r = .o (enc (okOf r d)) := by
  obtain ⟨x, rfl⟩ := h
  rfl
/-- a loop that goes through or raises -/
theorem loop_fold {S Y T : Type} {step : S → Y → Ctl S S} {f : S → Y → Except Exn S} (h : ∀ s y, step s y = match f s y with | .ok s' => .go s' | .error e => .ret (.x e)) : ∀ (ys : List Y) (s : S), (loop step s ys : Ctl S T) = match ys.foldlM f s with | .ok s' => .go s' | .error e => .ret (.x e)
  | [], _ => rfl
  | y :: ys, s => by
    rw [List.foldlM_cons]
    unfold loop
    rw [h s y]
    cases f s y with
    | ok s' => exact loop_fold h ys s'
    | error e => rfl
theorem ok_okOf {τ : Type} {r : Except Exn τ} {x d : τ} (h : r = .ok x) : r = .ok (okOf r d) := by
  subst h
  rfl
end Sd

namespace Sd
open PySem PySem.Spec PyProof.Rows L2
/-! ### instances -/
def putD (f : Str) (v : D) : List (Str × D) → List (Str × D)
  | [] => [(f, v)]
  | (g, x) :: r => if g = f then (g, v) :: r else (g, x) :: putD f v r
section
variable {K : PySem.W.Frag} {G : Hp}
theorem IsFs.put {f : Str} {v : V} {d : D} (hv : Is K G v d) : ∀ {xs : List (Str × V)} {ds : List (Str × D)}, IsFs K G xs ds → IsFs K G (putF f v xs) (putD f d ds)
  | _, _, .nil => .cons hv .nil
  | (g, x) :: xs, (_, y) :: ds, .cons h t => by
    unfold putF putD
    by_cases q : g = f
    · rw [if_pos q, if_pos q]
      exact .cons hv t
    · rw [if_neg q, if_neg q]
      exact .cons h (IsFs.put hv t)
theorem IsFs.len : ∀ {xs : List (Str × V)} {ds : List (Str × D)}, IsFs K G xs ds → xs.length = ds.length
  | _, _, .nil => rfl
  | _, _, .cons _ t => congrArg (· + 1) t.len
theorem IsFs.get {f : Str} {d : D} : ∀ {xs : List (Str × V)} {ds : List (Str × D)}, IsFs K G xs ds → ds.lookup f = some d → ∃ v, xs.lookup f = some v ∧ Is K G v d
  | _, _, .nil, e => nomatch e
  | (g, x) :: xs, (_, y) :: ds, .cons h t, e => by
    unfold List.lookup at e ⊢
    cases q : f == g with
    | true =>
      rw [q] at e
      cases e
      exact ⟨x, rfl, h⟩
    | false =>
      rw [q] at e
      exact t.get e
theorem IsFs.no {f : Str} : ∀ {xs : List (Str × V)} {ds : List (Str × D)}, IsFs K G xs ds → ds.lookup f = none → xs.lookup f = none
  | _, _, .nil, _ => rfl
  | (g, x) :: xs, (_, y) :: ds, .cons h t, e => by
    unfold List.lookup at e ⊢
    cases q : f == g with
    | true =>
      rw [q] at e
      cases e
    | false =>
      rw [q] at e
      exact t.no e
end
def dl (H : Hp) (x : Addr) : Hp := fun b => if b = x then none else H b
theorem dl_ne {H : Hp} {x b : Addr} (h : b ≠ x) : dl H x b = H b := if_neg h
theorem dl_self {H : Hp} {x : Addr} : dl H x x = none := if_pos rfl
/-- a class by its name -/
structure ClsA (K : PySem.W.Frag) (n : Str) (C : Addr) : Prop where
  nm : PySem.W.nsIn K mainGlobals n = some (some (.ref C))
  cl : Cls K C
theorem ClsA.eq {K : PySem.W.Frag} {n : Str} {C C' : Addr} (h : ClsA K n C) (e : PySem.W.nsIn K mainGlobals n = some (some (.ref C'))) : C' = C := by
  rw [h.nm] at e
  cases e
  rfl
/-- the class has no attribute of that name -/
structure FldA (K : PySem.W.Frag) (n f : Str) : Prop where
  ex : ∃ C, ClsA K n C ∧ NoAttr K C f
section
variable {X : Cx} {Γ : List B} {e : Expr} {n f : Str} {ds : List (Str × D)} {d : D} {pos : Pos}
/-- e.f -/
theorem ed_fld (he : ED X Γ e (.ins n ds)) (hf : FldA X.K n f) (hl : ds.lookup f = some d) (hb : attributeBase e f X.env (eval e X.env) = eval e X.env := by exact ab_ns rfl) : ED X Γ (.Attribute e f pos) d :=
  ed_of (pe_fld pe_w hb) fun F σ G H s Q q => he F σ G H s _ fun v G1 H1 g1 i1 => by
    obtain ⟨C, hc, hn⟩ := hf.ex
    cases i1 with
    | @ins a C' dx _ xs _ h0 h1 h2 =>
      have e := hc.eq h0
      subst e
      obtain ⟨w, k1, k2⟩ := h2.get hl
      exact ⟨a, C', dx, xs, w, rfl, g1.s _ _ h1, hc.cl, hn, k1, q w G1 H1 g1 k2⟩
end

/-! ### __init__: self.f = e, in a row -/
def BI (X : Cx) (x dx C : Addr) (Γ : List B) (sts : List Stmt) (fs fs' : List (Str × D)) : Prop :=
  ∀ F σ G H (D : Ends) xs, Stt X.K F Γ σ G H → σ[0]? = some (some (.ref x)) → H x = some (.ins C dx xs) → G x = none → IsFs X.K G xs fs →
    (∀ G' H' xs', Grow G (dl H x) G' (dl H' x) → H' x = some (.ins C dx xs') → G' x = none → IsFs X.K G' xs' fs' → D.nx σ H') → wS X sts D σ H
section
variable {X : Cx} {E : XK} {x dx C : Addr} {Γ : List B} {rest : List Stmt} {fs fs' : List (Str × D)} {d : D} {e : Expr} {pos py apos : Pos} {lv : Nat} {N : List Str} {sc : Scope} {y f : Str}
theorem grow_dl {G H : Hp} (s : Ex G H) (g : G x = none) : Grow G (dl H x) G (dl H x) := Grow.refl fun b o e => by
  rw [dl_ne (ne_of_none e g)]
  exact s b o e
theorem bi_nil : BI X x dx C Γ [] fs fs := fun F σ G H D xs s h0 hx gx hi k => w_nil (k G H xs (grow_dl s.sub gx) hx gx hi)
theorem bi_fld (hX : XOk lv N sc X E) (hn : N[0]? = some y) (hl : Vis sc y) (hc : Cls X.K C) (hno : NoAttr X.K C f) (he : ED X Γ e d) (hz : fs.length < 1000) (hr : BI X x dx C Γ rest (putD f d fs) fs')
    (hs : swapsWith e (some (.Attribute (.Name y py) f apos)) pos.line X.env = pure false := by exact sw_ns rfl) (hd : (y == ("__debug__" : Str)) = false := by decide) (hcd : (y == ("__classdict__" : Str)) = false := by decide) :
    BI X x dx C Γ (.Assign [.Attribute (.Name y py) f apos] e pos :: rest) fs fs' := fun F σ G H D xs s h0 hx gx hi k => by
  refine w_cons (ps_fld (pe_var (hX.nm hn) (hX.vs hl) hd hcd) pe_w hs) (he F σ G H s _ fun v G1 H1 g1 i1 => ⟨_, h0, ?_⟩)
  have hx1 := g1.h _ _ hx
  have gx1 : G1 x = none := g1.f x _ hx gx
  refine ⟨x, C, dx, xs, rfl, hx1, hc, hno, by rw [hi.len]; exact hz, ?_⟩
  have hi1 : IsFs X.K G1 xs fs := IsFs.mono g1.g fs xs hi
  have s1 := s.grow g1
  have nx : ∀ {p : Addr} {vs : List V}, H1 p = some (.lst vs) → p ≠ x := fun {p vs} h z => by
    rw [z, hx1] at h
    cases h
  have s2 : Stt X.K (dl F x) Γ σ G1 H1 := ⟨s1.len, s1.sub, s1.dat, fun i o h => let ⟨p, u, k1, k2, k3, k4, k5⟩ := s1.own i o h; ⟨p, u, k1, k2, k3, by
      by_cases hp : p = x
      · rw [hp, dl_self]
      · rw [dl_ne hp]
        exact k4, k5⟩, s1.sep, fun i xs h => let ⟨p, vs, k1, k2, k3, k4⟩ := s1.bor i xs h; ⟨p, vs, k1, k2, by rw [dl_ne (nx k2)]; exact k3, k4⟩⟩
  have gsub : Ex G1 (upd H1 x (.ins C dx (putF f v xs))) := fun b o e => by
    rw [upd_ne (ne_of_none e gx1)]
    exact g1.s b o e
  by_cases hown : ∃ (i : Nat) (o : OO), Γ[i]? = some (B.own o) ∧ σ[i]? = some (some (V.ref x))
  · obtain ⟨i, o, k1, k2⟩ := hown
    obtain ⟨p, u, k3, k4, k5, k6, k7⟩ := s.own i o k1
    rw [k2] at k3
    cases k3
    rw [hx] at k4
    cases k4
    exact absurd k7 (by cases o <;> exact id)
  · refine hr (dl F x) σ G1 _ D _ ⟨s2.len, gsub, s2.dat, fun i o h => ?_, s2.sep, fun i xs h => let ⟨p, vs, k1, k2, k3, k4⟩ := s2.bor i xs h; ⟨p, vs, k1, by rw [upd_ne (nx k2)]; exact k2, k3, k4⟩⟩ h0 upd_same gx1 (IsFs.put i1 hi1) fun G' H' xs' g' hx' gx' hi' => k G' H' xs' ?_ hx' gx' hi'
    · obtain ⟨p, u, k1, k2, k3, k4, k5⟩ := s2.own i o h
      exact ⟨p, u, k1, by rw [upd_ne (fun z => hown ⟨i, o, h, by rw [z] at k1; exact k1⟩)]; exact k2, k3, k4, k5⟩
    · have e1 : Grow G (dl H x) G1 (dl H1 x) := by
        refine ⟨g1.g, fun b o e => ?_, fun b o e => ?_, fun b o e m => ?_⟩
        · by_cases hb : b = x
          · subst hb
            rw [dl_self] at e
            cases e
          · rw [dl_ne hb] at e ⊢
            exact g1.h b o e
        · rw [dl_ne (ne_of_none e gx1)]
          exact g1.s b o e
        · by_cases hb : b = x
          · subst hb
            exact gx1
          · rw [dl_ne hb] at e
            exact g1.f b o e m
      have e2 : dl (upd H1 x (.ins C dx (putF f v xs))) x = dl H1 x := by
        funext b
        by_cases hb : b = x
        · subst hb
          rw [dl_self, dl_self]
        · rw [dl_ne hb, dl_ne hb, upd_ne hb]
      rw [e2] at g'
      exact e1.trans g'
end
def spI (K : PySem.W.Frag) (n : Str) {A : Type} (enc : A → List D) (pre : A → Prop) (flds : A → List (Str × D)) : Sp := fun vs H Q E => ∃ (x dx C : Addr) (ws : List V) (a : A) (G : Hp), vs = .ref x :: ws ∧ ClsA K n C ∧ H x = some (.ins C dx []) ∧ G x = none ∧ Ex G H ∧ IsAll K G ws (enc a) ∧ pre a ∧
  ∀ G' H' xs, Grow G (dl H x) G' (dl H' x) → H' x = some (.ins C dx xs) → G' x = none → IsFs K G' xs (flds a) → Q .non H'
theorem Stt.cons {K : PySem.W.Frag} {F : Hp} {Γ : List B} {σ : L2.St} {G H : Hp} (s : Stt K F Γ σ G H) (y : Option V) : Stt K F (B.un :: Γ) (y :: σ) G H := by
  refine ⟨by simp [s.len], s.sub, fun i x e => ?_, fun i o e => ?_, fun i j p o o' e1 e2 e3 e4 => ?_, fun i xs e => ?_⟩
  · cases i with
    | zero => cases e
    | succ i => exact s.dat i x (by simpa using e)
  · cases i with
    | zero => cases e
    | succ i => exact s.own i o (by simpa using e)
  · cases i with
    | zero => cases e1
    | succ i =>
      cases j with
      | zero => cases e2
      | succ j => exact congrArg (· + 1) (s.sep i j p o o' (by simpa using e1) (by simpa using e2) (by simpa using e3) (by simpa using e4))
  · cases i with
    | zero => cases e
    | succ i => exact s.bor i xs (by simpa using e)
section
variable {P : Program} {w : World} {K : PySem.W.Frag} {mg : Str → Option Value} {base : Heap} {x qual n : Str} {st : Stmt} {f : Addr} {fd : FuncData} {N ps : List Str} {lv : Nat} {A : Type} {enc : A → List D} {pre : A → Prop} {flds : A → List (Str × D)}
theorem init_ok (F : Fun K x qual st f fd) {nm : Str} (S : FnScope (nm :: N) ps (defScope st)) (hlen : ∀ a, (enc a).length + 1 = ps.length)
    (hb : ∀ a, pre a → ∀ (X : Cx) (E : XK), X.prog = P → X.w = w → X.K = K → X.mg = mg → X.base = base → XOk lv (nm :: N) (defScope st) X E → ∀ x dx C, ClsA K n C →
      BI X x dx C (B.un :: ((enc a).map B.d ++ List.replicate (N.length - (enc a).length) B.un)) (defBody st) [] (flds a)) : FnOk P w K mg base (L2.CX P w) (lv + 1) f fd ps (spI K n enc pre flds) := by
  refine F.okX S (fun vs H Q E h => ?_) (fun cdv Ar outer s H vs Q E hr h => ?_)
  · obtain ⟨x, dx, C, ws, a, G, rfl, _, _, _, _, h2, _⟩ := h
    rw [List.length_cons, h2.len, hlen]
  · obtain ⟨x, dx, C, ws, a, G, rfl, hC, hx, gx, h1, h2, h3, h4⟩ := h
    generalize hX : cxOf (L2.CX P w) P w K mg base (nm :: N) qual (defScope st) f cdv Ar outer s H E = X
    have ok : XOk lv (nm :: N) (defScope st) X E := by
      subst hX
      exact ⟨rfl, passes_of rfl, takes_of rfl rfl rfl rfl, hr, fun _ => rfl, rfl, rfl, S.nd, S.kind⟩
    have b := hb a h3 X E (by subst hX; rfl) (by subst hX; rfl) (by subst hX; rfl) (by subst hX; rfl) (by subst hX; rfl) ok x dx C hC
    have hK : X.K = K := by subst hX; rfl
    refine ⟨wS X (defBody st), pss_w, ?_⟩
    have e : L2.start (nm :: N) (V.ref x :: ws) = some (V.ref x) :: L2.start N ws := by
      unfold L2.start
      simp
    rw [e]
    refine b H _ G H _ [] ?_ rfl hx gx ?_ fun G' H' xs g hx' gx' hi => ?_
    · rw [hK]
      exact (stt_start h2 h1).cons _
    · rw [hK]
      exact .nil
    · rw [hK] at hi
      exact h4 G' H' xs g hx' gx' hi
end
/-- a class that is made by its __init__ -/
structure Mkr (P : Program) (w : World) (K : PySem.W.Frag) (mg : Str → Option Value) (base : Heap) (n : Str) (lv : Nat) (sp : Sp) : Prop where
  ex : ∃ (C f : Addr) (fd : FuncData) (ps : List Str), mg n = some (.ref C) ∧ ClsA K n C ∧ Mk K C f ∧ FnOk P w K mg base (L2.CX P w) lv f fd ps sp ∧ Binds K fd ps []
abbrev MkX (X : Cx) (n : Str) (lv : Nat) (sp : Sp) : Prop := Mkr X.prog X.w X.K X.mg X.base n lv sp
theorem FldA.no {K : PySem.W.Frag} {n f : Str} {C : Addr} (h : FldA K n f) (hC : ClsA K n C) : NoAttr K C f := by
  obtain ⟨C', h1, h2⟩ := h.ex
  have e := hC.eq h1.nm
  subst e
  exact h2
/-- a method -/
structure Mth (P : Program) (w : World) (K : PySem.W.Frag) (mg : Str → Option Value) (base : Heap) (n m : Str) (lv : Nat) (sp : Sp) : Prop where
  ex : ∃ (C f : Addr) (fd : FuncData) (ps : List Str), ClsA K n C ∧ Meth K C m f ∧ FnOk P w K mg base (L2.CX P w) lv f fd ps sp ∧ Binds K fd ps []
abbrev MethX (X : Cx) (n m : Str) (lv : Nat) (sp : Sp) : Prop := Mth X.prog X.w X.K X.mg X.base n m lv sp
section
variable {X : Cx} {Γ : List B} {pos p apos : Pos} {n m : Str} {lv : Nat} {A : Type} {enc : A → List D} {pre : A → Prop} {flds : A → List (Str × D)} {res : A → Res} {e o : Expr} {es : List Expr} {ds : List (Str × D)} {args : List D}
theorem ed_make (a : A) (hk : MkX X n lv (spI X.K n enc pre flds)) (hr : Room (lv + 1) X.A) (hg : Gl X n) (ha : EA X Γ (e :: es) (enc a)) (hp : pre a)
    (hdb : (n == ("__debug__" : Str)) = false := by decide) (he : starEach (e :: es) X.env = (false, eval e X.env) :: starEach es X.env := by exact starEach_ns rfl) (hpl : (backTo pos (starEach es X.env)).any (·.1) = false := by exact plain_ok rfl) : ED X Γ (.Call (.Name n p) (e :: es) [] pos) (.ins n (flds a)) := by
  obtain ⟨C, f, fd, ps, h1, hC, hM, hF, hB⟩ := hk.ex
  refine ed_of (pe_make (E := E0) hM hF hr hg h1 hB .nil passL pa_w hdb he hpl) fun F σ G H s Q q => ha F σ G H s _ fun vs G1 H1 g1 i1 x dx hx hdx hne => ?_
  rw [List.append_nil]
  have gx : G1 x = none := Evl.fresh_back g1.s hx
  have gdx : G1 dx = none := Evl.fresh_back g1.s hdx
  have ex1 : Ex G1 (upd (upd H1 dx (.own x)) x (.ins C dx [])) := fun b o eb => by
    rw [upd_ne (ne_of_none eb gx), upd_ne (ne_of_none eb gdx)]
    exact g1.s b o eb
  refine ⟨x, dx, C, vs, a, G1, rfl, hC, upd_same, gx, ex1, i1, hp, fun G' H' xs g hx' gx' hi => ⟨rfl, ?_⟩⟩
  have hH : Ex H1 H' := fun b o eb => by
    have hb : b ≠ x := ne_of_none eb hx
    have hb2 : b ≠ dx := ne_of_none eb hdx
    have z := g.h b o (by rw [dl_ne hb, upd_ne hb, upd_ne hb2]; exact eb)
    rw [dl_ne hb] at z
    exact z
  have gs : Ex G' H' := fun b o eb => by
    have hb : b ≠ x := ne_of_none eb gx'
    have z := g.s b o eb
    rw [dl_ne hb] at z
    exact z
  have g2 : Grow G1 H1 G' H' := ⟨g.g, hH, gs, fun b o eb mb => by
    have hb : b ≠ x := ne_of_none eb hx
    have hb2 : b ≠ dx := ne_of_none eb hdx
    exact g.f b o (by rw [dl_ne hb, upd_ne hb, upd_ne hb2]; exact eb) mb⟩
  exact q (.ref x) (upd G' x (.ins C dx xs)) H' (g1.trans (g2.frz hx hx' gx')) (.ins hC.nm upd_same (IsFs.mono (Evl.Ex.new gx') _ _ hi))
theorem mth_ns {o : Expr} {env : Env} (h : ncl o = true) : True := trivial
end
end Sd

namespace Sd
open PySem PySem.Spec PyProof.Rows L2
/-! ### methods of instances -/
section
variable {X : Cx} {Γ : List B} {pos p apos : Pos} {n m : Str} {lv : Nat} {A : Type} {enc : A → List D} {pre : A → Prop} {res : A → Res} {e o : Expr} {es : List Expr} {ds : List (Str × D)} {args : List D} {pl : Sem Bool}
theorem ev_meth0 {E : XK} {C : Addr} {sp : Sp} {z : Res} {E' : XK} (hC : ClsA X.K n C) (he : ED X Γ o (.ins n ds)) (hl : ds.lookup m = none)
    (hs : ∀ G H v, Ex G H → Is X.K G v (.ins n ds) → ∀ Q, PostR X.K H G E Q z → sp [v] H Q E) : EvR X.K E Γ (tMeth C m sp [] E (wE X o) tNil) z := fun F σ G H s Q q => he F σ G H s _ fun v G1 H1 g1 i1 => by
  have i0 := i1
  cases i1 with
  | @ins a C' dx _ xs _ h0 h1 h2 =>
    have e := hC.eq h0
    subst e
    exact ⟨a, dx, xs, rfl, g1.s _ _ h1, h2.no hl, hs G1 H1 _ g1.s i0 Q (PostR.grow g1 q)⟩
/-- o.m() -/
theorem er_meth0 {E : XK} (a : A) (tk : Takes X (fun cls d _ H => E cls d H)) (hk : MethX X n m lv (spF X.K enc pre res)) (hr : Room lv X.A) (he : ED X Γ o (.ins n ds)) (henc : enc a = [.ins n ds]) (hp : pre a) (hl : ds.lookup m = none)
    (ht : eval (.Call (.Attribute o m apos) [] [] pos) X.env = (do
      let ov ← eval o X.env
      standAt apos.atName
      let (f, first) ← holding [ov] (getMethod ov m pl)
      callWith pos f first (backTo pos (starEach [] X.env)) (backToKw pos (keywordEach [] X.env))) := by rfl) : ER X E Γ (.Call (.Attribute o m apos) [] [] pos) (res a) := by
  obtain ⟨C, f, fd, ps, hC, hM, hF, hB⟩ := hk.ex
  exact er_of (pe_meth0 (E := E) pe_w hC.cl hM hF hr hB .nil (passes_call tk fun _ _ _ _ h => h) ht) (ev_meth0 (E' := E) hC he hl fun G H v ex i Q q => ⟨a, G, ex, by rw [henc]; exact .cons i .nil, hp, q⟩)
theorem ed_meth0 (a : A) {z : D} (hk : MethX X n m lv (spF X.K enc pre res)) (hr : Room lv X.A) (he : ED X Γ o (.ins n ds)) (henc : enc a = [.ins n ds]) (hp : pre a) (hv : res a = .v z) (hl : ds.lookup m = none)
    (ht : eval (.Call (.Attribute o m apos) [] [] pos) X.env = (do
      let ov ← eval o X.env
      standAt apos.atName
      let (f, first) ← holding [ov] (getMethod ov m pl)
      callWith pos f first (backTo pos (starEach [] X.env)) (backToKw pos (keywordEach [] X.env))) := by rfl) : ED X Γ (.Call (.Attribute o m apos) [] [] pos) z := by
  obtain ⟨C, f, fd, ps, hC, hM, hF, hB⟩ := hk.ex
  exact ed_of (pe_meth0 (E := E0) pe_w hC.cl hM hF hr hB .nil passL ht) fun F σ G H s Q q => (ev_meth0 (E := E0) (E' := E0) (z := .v z) hC he hl fun G H v ex i Q q => ⟨a, G, ex, by rw [henc]; exact .cons i .nil, hp, by rw [hv]; exact q⟩) F σ G H s Q q
theorem eo_meth0 (a : A) {z : OO} (hk : MethX X n m lv (spF X.K enc pre res)) (hr : Room lv X.A) (he : ED X Γ o (.ins n ds)) (henc : enc a = [.ins n ds]) (hp : pre a) (hv : res a = .o z) (hl : ds.lookup m = none)
    (ht : eval (.Call (.Attribute o m apos) [] [] pos) X.env = (do
      let ov ← eval o X.env
      standAt apos.atName
      let (f, first) ← holding [ov] (getMethod ov m pl)
      callWith pos f first (backTo pos (starEach [] X.env)) (backToKw pos (keywordEach [] X.env))) := by rfl) : EO X Γ (.Call (.Attribute o m apos) [] [] pos) z := by
  obtain ⟨C, f, fd, ps, hC, hM, hF, hB⟩ := hk.ex
  exact eo_of (pe_meth0 (E := E0) pe_w hC.cl hM hF hr hB .nil passL ht) fun F σ G H s Q q => (ev_meth0 (E := E0) (E' := E0) (z := .o z) hC he hl fun G H v ex i Q q => ⟨a, G, ex, by rw [henc]; exact .cons i .nil, hp, by rw [hv]; exact q⟩) F σ G H s Q q
end

/-! ### an instance of a class without __init__ -/
structure Mk0 (K : PySem.W.Frag) (C : Addr) : Prop where
  makes : PySem.W.makesIn K C = true
  init : PySem.W.findIn K (.ref C) "__init__" = some (some (.builtin "object.__init__"))
  kp : PySem.W.keepIn K (.ref C) = true
def tBare (C : Addr) : TE := fun σ H Q => ∀ x dx, H x = none → H dx = none → dx ≠ x → Q (.ref x) (upd (upd H dx (.own x)) x (.ins C dx []))
section
variable {X : Cx} {C : Addr} {n : Str} {p pos : Pos} {Γ : List B}
theorem pe_bare (M : Mk0 X.K C) (hg : Gl X n) (hm : X.mg n = some (.ref C)) (hdb : (n == ("__debug__" : Str)) = false := by decide) : PE X (.Call (.Name n p) [] [] pos) (tBare C) := by
  refine ⟨fun pins s σ H Q I h => ?_⟩
  refine wpAny_Call_Name_kw (ld_glob I hg hm ?_ hdb)
  refine PySem.W.callWith_K0 I.kIn M.kp ?_
  have hq := h (s.heap.objs.size + 1) s.heap.objs.size (I.hok.fresh (Nat.le_succ _)) (I.hok.fresh (Nat.le_refl _)) (Nat.ne_of_lt (Nat.lt_succ_self _))
  have I2 := Inv.made (C := C) I
  refine wpAny_call (make_map0 I.kIn M.makes M.init (fun self => PySem.W.Looks.of_pure (PySem.W.oi_bind self)) ?_)
  obtain ⟨hh, g, d, t, os⟩ := s
  have Y := PySem.W.makes_of (M := model X.prog X.w) I.kIn M.makes
  have e2 : ((hh.push PySem.W.emptyDict).push (PySem.W.instObj C hh.objs.size)).get? (hh.objs.size + 1) = some (PySem.W.instObj C hh.objs.size) := by
    have := Heap.get?_push_size (hh.push PySem.W.emptyDict) (o := PySem.W.instObj C hh.objs.size) rfl
    rwa [Heap.size_push] at this
  have t1 : PySem.W.Looks (model X.prog X.w) ((hh.push PySem.W.emptyDict).push (PySem.W.instObj C hh.objs.size)) (typeOf (.ref (hh.objs.size + 1))) (.ref C) := (PySem.W.Looks.ld e2).andThen .now
  have t2 : PySem.W.Looks (model X.prog X.w) ((hh.push PySem.W.emptyDict).push (PySem.W.instObj C hh.objs.size)) (isInstance (.ref (hh.objs.size + 1)) (.type "object")) true := t1.andThen (Y.top.keeps fun b o e => Heap.get?_push_of_some _ (Heap.get?_push_of_some _ e))
  refine codeAny_call_builtin PySem.W.oi_plain PySem.W.entry_oi (@PySem.W.check_slot (model X.prog X.w) _ _ _ "object.__init__" "object" "__init__" (.ref (hh.objs.size + 1)) [] [] _ PySem.W.oi_kind PySem.W.oi_split t2 (PySem.W.oi_args (.ref (hh.objs.size + 1))) ?_)
  rw [PySem.W.oi_run]
  exact wpAny_pure (And.intro rfl ⟨V.ref (hh.objs.size + 1), _, I2, rfl, hq⟩)
theorem ed_bare (hC : ClsA X.K n C) (M : Mk0 X.K C) (hg : Gl X n) (hm : X.mg n = some (.ref C)) (hdb : (n == ("__debug__" : Str)) = false := by decide) : ED X Γ (.Call (.Name n p) [] [] pos) (.ins n []) :=
  ed_of (pe_bare M hg hm hdb) fun F σ G H s Q q x dx hx hdx hne => by
    have gx : G x = none := Evl.fresh_back s.sub hx
    have g1 : Grow G H G (upd H dx (.own x)) := Grow.lay s.sub hdx
    have g2 : Grow G H (upd G x (.ins C dx [])) (upd (upd H dx (.own x)) x (.ins C dx [])) := g1.trans (Grow.new g1.s (by rw [upd_ne (Ne.symm hne)]; exact hx))
    exact q _ _ _ g2 (.ins hC.nm upd_same .nil)
end

/-! ### isinstance with own classes -/
/-- what isinstance asks of an instance's class -/
structure InsT (K : PySem.W.Frag) (C : Addr) : Prop where
  ha : PySem.W.findIn K (.ref C) "__class__" = some (some (.builtin "object.__class__"))
  hn : PySem.W.specialIn K (.builtin "object.__class__") "__get__" = some (some (.builtin "getset_descriptor.__get__"))
  ht : PySem.W.takesIn K (.builtin "object.__class__") = some true
  hm : PySem.W.mroIn K C (.type "object") = some true
theorem kit_own {K : PySem.W.Frag} {t : Value} {C : Addr} {cd : ClassData} {b : Bool} (h1 : PySem.W.clsIn K C = some cd) (h2 : PySem.W.typeIn K (.ref C) = some (.type "type")) (h3 : PySem.W.subIn K t (.ref C) = some b) (hb : (t == .ref C) = true → b = true) : PySem.W.kitOne K t (.ref C) = some b := by
  unfold PySem.W.kitOne PySem.W.kitCls
  cases q : (t == Value.ref C) with
  | true =>
    rw [if_pos rfl, hb q]
  | false =>
    rw [if_neg Bool.false_ne_true]
    show (if ((PySem.W.clsIn K C).isSome && PySem.W.typeIn K (.ref C) == some (.type "type")) = true then PySem.W.subIn K t (.ref C) else none) = some b
    rw [h1, h2]
    exact h3
theorem kit_bty {K : PySem.W.Frag} {C : Addr} {T : String} {b : Bool} (h1 : PySem.W.kitMeta T = true) (h3 : PySem.W.subIn K (.ref C) (.type T) = some b) : PySem.W.kitOne K (.ref C) (.type T) = some b := by
  unfold PySem.W.kitOne PySem.W.kitCls
  have q : (Value.ref C == Value.type T) = false := by rfl
  rw [if_neg (by rw [q]; exact Bool.false_ne_true)]
  show (if PySem.W.kitMeta T = true then _ else _) = _
  rw [if_pos h1]
  exact h3
section
variable {X : Cx} {Γ : List B} {pos p p2 : Pos} {a b : Expr} {n c : Str} {ds : List (Str × D)} {x : D} {C D' : Addr} {r : Bool}
/-- isinstance(an instance, an own class) -/
theorem ed_isiC (hg : Gl X "isinstance") (hm : X.mg "isinstance" = none) (ha : ED X Γ a (.ins n ds)) (hC : ClsA X.K n C) (hT : InsT X.K C) (hgc : Gl X c) (hD : X.mg c = some (.ref D')) (hk : PySem.W.kitOne X.K (.ref C) (.ref D') = some r)
    (hdb : (c == ("__debug__" : Str)) = false := by decide) (he : starEach [a, .Name c p2] X.env = (false, eval a X.env) :: starEach [.Name c p2] X.env := by exact starEach_ns rfl) (he2 : starEach [.Name c p2] X.env = (false, eval (.Name c p2) X.env) :: starEach [] X.env := by exact starEach_ns rfl)
    (hpl : (backTo pos (starEach [.Name c p2] X.env)).any (·.1) = false := by exact plain_ok rfl) : ED X Γ (.Call (.Name "isinstance" p) [a, .Name c p2] [] pos) (.bl r) :=
  ed_of (pe_callB call_isi hg hm (by decide +kernel) (pa_cons pe_w (pa_cons (pe_glob (v := .ref D') hgc hD rfl hdb) pa_nil he2) he) (by decide) (by decide) he hpl) fun F σ G H s Q q => ha F σ G H s _ fun v G1 H1 g1 i1 => by
    cases i1 with
    | @ins y C' dx _ xs _ h0 h1 h2 =>
      have e := hC.eq h0
      subst e
      exact ⟨_, _, _, _, r, rfl, .own D', .base (.ins (g1.s _ _ h1) hC.cl hT.ha hT.hn hT.ht hT.hm), hk, q _ G1 H1 g1 (.bl r)⟩
/-- isinstance(data, an own class) -/
theorem ed_isiN {t : String} (hg : Gl X "isinstance") (hm : X.mg "isinstance" = none) (ha : ED X Γ a x) (ht : tyD x = some t) (hgc : Gl X c) (hD : X.mg c = some (.ref D')) (hk : PySem.W.kitOne X.K (.type t) (.ref D') = some r)
    (hdb : (c == ("__debug__" : Str)) = false := by decide) (he : starEach [a, .Name c p2] X.env = (false, eval a X.env) :: starEach [.Name c p2] X.env := by exact starEach_ns rfl) (he2 : starEach [.Name c p2] X.env = (false, eval (.Name c p2) X.env) :: starEach [] X.env := by exact starEach_ns rfl)
    (hpl : (backTo pos (starEach [.Name c p2] X.env)).any (·.1) = false := by exact plain_ok rfl) : ED X Γ (.Call (.Name "isinstance" p) [a, .Name c p2] [] pos) (.bl r) :=
  ed_of (pe_callB call_isi hg hm (by decide +kernel) (pa_cons pe_w (pa_cons (pe_glob (v := .ref D') hgc hD rfl hdb) pa_nil he2) he) (by decide) (by decide) he hpl) fun F σ G H s Q q => ha F σ G H s _ fun v G1 H1 g1 i1 => 
    ⟨_, _, _, _, r, rfl, .own D', tyx g1.s i1 ht, hk, q _ G1 H1 g1 (.bl r)⟩
/-- isinstance(an instance, a built-in type) -/
theorem ed_isiB {T : String} (hg : Gl X "isinstance") (hm : X.mg "isinstance" = none) (ha : ED X Γ a (.ins n ds)) (hb : ED X Γ b (.ty T)) (hC : ClsA X.K n C) (hT : InsT X.K C) (hk : PySem.W.kitOne X.K (.ref C) (.type T) = some r)
    (he : starEach [a, b] X.env = (false, eval a X.env) :: starEach [b] X.env := by exact starEach_ns rfl) (he2 : starEach [b] X.env = (false, eval b X.env) :: starEach [] X.env := by exact starEach_ns rfl)
    (hpl : (backTo pos (starEach [b] X.env)).any (·.1) = false := by exact plain_ok rfl) : ED X Γ (.Call (.Name "isinstance" p) [a, b] [] pos) (.bl r) :=
  ed_callB call_isi hg hm (by decide +kernel) (ea_cons ha (ea_cons hb ea_nil he2) he) (fun vs G H ex i Q q => by
    cases i with
    | cons i1 i2 =>
      cases i2 with
      | cons i2 i3 =>
        cases i2
        cases i3
        cases i1 with
        | @ins y C' dx _ xs _ h0 h1 h2 =>
          have e := hC.eq h0
          subst e
          exact ⟨_, _, _, _, r, rfl, .ty T, .base (.ins (ex _ _ h1) hC.cl hT.ha hT.hn hT.ht hT.hm), hk, q _ G H (.refl ex) (.bl r)⟩) (by decide) (by decide) he hpl
end
/-- the statements of a class -/
def clsBody : Stmt → List Stmt
  | .ClassDef _ _ _ b .. => b
  | _ => []
def clsAt (s : Stmt) (j : Nat) : Stmt := (clsBody s).getD j (.Pass ⟨0, 0, 0, 0⟩)
end Sd

namespace Sd
open PySem PySem.Spec PyProof.Rows L2
/-! ### a text in a list or tuple of texts -/
def inSs (x : List Nat) (ls : List (List Nat)) : Bool := ls.any fun y => decide (y = x)
theorem inV_strs (x : List Nat) : ∀ ls : List (List Nat), inV (.str (S x)) (ls.map fun l => V.str (S l)) = inSs x ls
  | [] => rfl
  | l :: ls => by
    have ih := inV_strs x ls
    unfold inV inSs at ih ⊢
    rw [List.map_cons, List.any_cons, List.any_cons, ih]
    congr 1
    by_cases h : l = x
    · subst h
      rw [decide_eq_true rfl]
      simp [eqV]
    · rw [decide_eq_false h]
      have : ¬ S l = S x := fun z => h (S_inj.mp z)
      simp [eqV, this]
theorem flat_strs (ls : List (List Nat)) : (ls.map fun l => V.str (S l)).all flatV = true := by
  rw [List.all_map, List.all_eq_true]
  intro _ _
  rfl
section
variable {X : Cx}
theorem od_inT (x : List Nat) (ls : List (List Nat)) : OpD X (compareOp .In) (.str x) (.tup (ls.map D.str)) (.bl (inSs x ls)) := ⟨_, op_in_seq, fun v w G H e iv iw Q q => by
  cases iv
  cases iw with
  | tup h1 h2 =>
    have z := h2.strs
    subst z
    exact ⟨_, _, rfl, .inr (Evl.ex_t e h1), rfl, flat_strs ls, by rw [inV_strs]; exact q _ G H (.refl e) (.bl _)⟩⟩
theorem od_notInT (x : List Nat) (ls : List (List Nat)) : OpD X (compareOp .NotIn) (.str x) (.tup (ls.map D.str)) (.bl (!inSs x ls)) := ⟨_, op_notIn_seq, fun v w G H e iv iw Q q => by
  cases iv
  cases iw with
  | tup h1 h2 =>
    have z := h2.strs
    subst z
    exact ⟨_, _, rfl, .inr (Evl.ex_t e h1), rfl, flat_strs ls, by rw [inV_strs]; exact q _ G H (.refl e) (.bl _)⟩⟩
theorem od_inLs (x : List Nat) (ls : List (List Nat)) : OpD X (compareOp .In) (.str x) (.lst (ls.map D.str)) (.bl (inSs x ls)) := ⟨_, op_in_seq, fun v w G H e iv iw Q q => by
  cases iv
  cases iw with
  | lst h1 h2 =>
    have z := h2.strs
    subst z
    exact ⟨_, _, rfl, .inl (.inl (.inl (e _ _ h1))), rfl, flat_strs ls, by rw [inV_strs]; exact q _ G H (.refl e) (.bl _)⟩⟩
theorem od_notInLs (x : List Nat) (ls : List (List Nat)) : OpD X (compareOp .NotIn) (.str x) (.lst (ls.map D.str)) (.bl (!inSs x ls)) := ⟨_, op_notIn_seq, fun v w G H e iv iw Q q => by
  cases iv
  cases iw with
  | lst h1 h2 =>
    have z := h2.strs
    subst z
    exact ⟨_, _, rfl, .inl (.inl (.inl (e _ _ h1))), rfl, flat_strs ls, by rw [inV_strs]; exact q _ G H (.refl e) (.bl _)⟩⟩
end
def BM (k : Nat) : Int := 2 ^ k
theorem od_andK {X : Cx} (k : Nat) (i : Int) : OpD X (binaryOp .BitAnd) (.int i) (.int ((2 : Int) ^ k - 1)) (.int (i % BM k)) := od_andM i _ k rfl
/-! ### facts of classes, told together -/
structure IsA (K : PySem.W.Frag) (mg : Str → Option Value) (n c : Str) (b : Bool) : Prop where
  ex : ∃ C D', ClsA K n C ∧ InsT K C ∧ mg c = some (.ref D') ∧ PySem.W.kitOne K (.ref C) (.ref D') = some b
structure Bare (K : PySem.W.Frag) (mg : Str → Option Value) (n : Str) : Prop where
  ex : ∃ C, ClsA K n C ∧ Mk0 K C ∧ mg n = some (.ref C)
section
variable {X : Cx} {Γ : List B} {pos p p2 : Pos} {a : Expr} {n c : Str} {ds : List (Str × D)} {r : Bool}
theorem ed_isA (hg : Gl X "isinstance") (hm : X.mg "isinstance" = none) (ha : ED X Γ a (.ins n ds)) (hgc : Gl X c) (hk : IsA X.K X.mg n c r)
    (hdb : (c == ("__debug__" : Str)) = false := by decide) (he : starEach [a, .Name c p2] X.env = (false, eval a X.env) :: starEach [.Name c p2] X.env := by exact starEach_ns rfl) : ED X Γ (.Call (.Name "isinstance" p) [a, .Name c p2] [] pos) (.bl r) := by
  obtain ⟨C, D', h1, h2, h3, h4⟩ := hk.ex
  exact ed_isiC hg hm ha h1 h2 hgc h3 h4 hdb he
theorem ed_bareX (hk : Bare X.K X.mg n) (hg : Gl X n) (hdb : (n == ("__debug__" : Str)) = false := by decide) : ED X Γ (.Call (.Name n p) [] [] pos) (.ins n []) := by
  obtain ⟨C, h1, h2, h3⟩ := hk.ex
  exact ed_bare h1 h2 hg h3 hdb
end
/-! ### xs.clear(), (..).append(e) -/
section
variable {X : Cx} {E : XK} {Γ : List B} {S T : Type} {Γs : S → List B} {Γb : T → List B} {rest : List Stmt} {pos : Pos} {lv : Nat} {N : List Str} {sc : Scope} {y : Str} {py : Pos} {e o : Expr} {apos cpos : Pos}
theorem b_clear {τ : Type} (i : Nat) (enc : τ → D) {xs : List τ} {k : Ctl S T} (hX : XOk lv N sc X E) (hn : N[i]? = some y) (hl : Vis sc y) (h : Γ[i]? = some (B.own (.lst (xs.map enc)))) (hz : xs.length ≤ sizeLine)
    (hr : BK X E (Γ.set i (.own (.lst (([] : List τ).map enc)))) rest Γs Γb k)
    (hs : swapsWith (.Call (.Attribute (.Name y py) "clear" apos) [] [] cpos) none pos.line X.env = pure false := by exact sw_ns rfl)
    (hbase : attributeBase (.Name y py) "clear" X.env (eval (.Name y py) X.env) = eval (.Name y py) X.env := by exact ab_ns rfl) (hline : (apos.endLine == cpos.line) = true := by rfl) (hd : (y == ("__debug__" : Str)) = false := by decide) (hcd : (y == ("__classdict__" : Str)) = false := by decide) :
    BK X E Γ (.Expr (.Call (.Attribute (.Name y py) "clear" apos) [] [] cpos) pos :: rest) Γs Γb k := fun F G0 σ G H D s gr post => by
  obtain ⟨p, u, h1, h2, h3, h4, h5⟩ := s.own i _ h
  obtain ⟨vs, rfl, iv⟩ := h5.lst
  refine w_cons (ps_expr (pe_bm0 PySem.F.plainAttrs_list PySem.F.slot_list_clear PySem.F.type_list_clear mt_clear (pe_var (hX.nm hn) (hX.vs hl) hd hcd) hbase hline) hs) ?_
  refine ⟨_, h1, .inl ⟨rfl, vs, .inl (.inl h2)⟩, ?_⟩
  have s2 := s.mut (u := .lst []) (o' := .lst (([] : List τ).map enc)) h h1 (show IsAll _ _ _ _ from .nil)
  refine ⟨p, vs, rfl, rfl, h2, ?_⟩
  refine hr F G0 σ G _ D s2 ⟨gr.g, fun b o eo => ?_, s2.sub, gr.f⟩ post
  rw [upd_ne (ne_of_none eo h4)]
  exact gr.h b o eo
/-- o.append(e), o a new list -/
theorem b_appX {ds : List D} {x : D} {k : Ctl S T} (hX : XOk lv N sc X E) (ho : EO X Γ o (.lst ds)) (he : ED X Γ e x) (hz : ds.length < sizeLine) (hr : BK X E Γ rest Γs Γb k)
    (hbase : attributeBase o "append" X.env (eval o X.env) = eval o X.env) (hs : swapsWith (.Call (.Attribute o "append" apos) [e] [] cpos) none pos.line X.env = pure false := by exact sw_ns rfl) (hline : (apos.endLine == cpos.line) = true := by rfl)
    (hfew : ((backTo cpos (starEach (e :: []) X.env)).all (fun x => !x.1) && (backToKw cpos (keywordEach [] X.env)).all (fun x => x.1.isSome) && decide ((e :: ([] : List Expr)).length + ([] : List Keyword).length + (if ([] : List Keyword).isEmpty then 0 else 1) < 30)) = true := by exact few_ok rfl)
    (hst : starEach (e :: []) X.env = (false, eval e X.env) :: starEach [] X.env := by exact starEach_ns rfl) (hplain : (backTo cpos (starEach [] X.env)).any (·.1) = false := by exact plain_ok rfl) :
    BK X E Γ (.Expr (.Call (.Attribute o "append" apos) [e] [] cpos) pos :: rest) Γs Γb k := fun F G0 σ G H D s gr post => by
  refine w_cons (ps_expr (pe_bm PySem.F.plainAttrs_list PySem.F.slot_list_append PySem.F.type_list_append mt_append pe_w (pa_cons pe_w pa_nil hst) hbase hfew hline hst hplain) hs) ?_
  refine ho F σ G H s _ fun p u G1 H1 g1 hp n hn hi => ?_
  obtain ⟨vs, rfl, iv⟩ := OwnIs.lst hi
  refine ⟨.inl ⟨rfl, vs, .inl (.inl hp)⟩, he F σ G1 H1 (s.grow g1) _ fun v G2 H2 g2 i2 => ⟨p, vs, v, rfl, rfl, g2.h _ _ hp, by rw [iv.len]; exact hz, ?_⟩⟩
  have g := g1.trans g2
  have n2 : G2 p = none := g2.f p _ hp n
  have g3 : Grow G H G2 (upd H2 p (.lst (vs ++ [v]))) := ⟨g.g, fun b o eo => by rw [upd_ne (ne_of_none eo hn)]; exact g.h b o eo, fun b o eo => by rw [upd_ne (ne_of_none eo n2)]; exact g.s b o eo, g.f⟩
  exact hr F G0 σ G2 _ D (s.grow g3) (gr.trans g3) (post.up g3.g)
end
end Sd

namespace Sd
open PySem PySem.Spec PyProof.Rows L2
/-! ### arguments that are lists of the caller's own, read only -/
inductive AK where
  | d (x : D) | l (xs : List D)
inductive IsAs (K : PySem.W.Frag) (G H : Hp) : List V → List AK → Prop
  | nil : IsAs K G H [] []
  | d {v : V} {x : D} {vs : List V} {as : List AK} : Is K G v x → IsAs K G H vs as → IsAs K G H (v :: vs) (.d x :: as)
  | l {p : Addr} {us vs : List V} {xs : List D} {as : List AK} : H p = some (.lst us) → IsAll K G us xs → IsAs K G H vs as → IsAs K G H (.ref p :: vs) (.l xs :: as)
theorem IsAs.len {K : PySem.W.Frag} {G H : Hp} : ∀ {vs : List V} {as : List AK}, IsAs K G H vs as → vs.length = as.length
  | _, _, .nil => rfl
  | _, _, .d _ t => congrArg (· + 1) t.len
  | _, _, .l _ _ t => congrArg (· + 1) t.len
def EvA2 (K : PySem.W.Frag) (Γ : List B) (ta : TA) (as : List AK) : Prop :=
  ∀ F σ G H, Stt K F Γ σ G H → ∀ Q : List V → Hp → Prop, (∀ vs G' H', Grow G H G' H' → IsAs K G' H' vs as → Q vs H') → ta σ H Q
abbrev EA2 (X : Cx) (Γ : List B) (es : List Expr) (as : List AK) : Prop := EvA2 X.K Γ (wA X es) as
section
variable {X : Cx} {Γ : List B} {e : Expr} {es : List Expr} {x : D} {xs : List D} {as : List AK}
theorem ea2_of {t : TA} (h : PA X es t) (k : EvA2 X.K Γ t as) : EA2 X Γ es as := fun F σ G H s Q q => ⟨fun pos pins sh I => h.run pos pins sh σ H Q I (k F σ G H s Q q)⟩
theorem ea2_nil : EA2 X Γ [] [] := ea2_of pa_nil fun F σ G H s Q q => q [] G H (.refl s.sub) .nil
theorem ea2_d (he : ED X Γ e x) (hs : EA2 X Γ es as) (hst : starEach (e :: es) X.env = (false, eval e X.env) :: starEach es X.env := by exact starEach_ns rfl) : EA2 X Γ (e :: es) (.d x :: as) :=
  ea2_of (pa_cons pe_w pa_w hst) fun F σ G H s Q q => he F σ G H s _ fun v G1 H1 g1 i1 => hs F σ G1 H1 (s.grow g1) _ fun vs G2 H2 g2 i2 => q (v :: vs) G2 H2 (g1.trans g2) (.d (i1.up g2.g) i2)
theorem ea2_l (he : EL X Γ e xs) (hs : EA2 X Γ es as) (hst : starEach (e :: es) X.env = (false, eval e X.env) :: starEach es X.env := by exact starEach_ns rfl) : EA2 X Γ (e :: es) (.l xs :: as) :=
  ea2_of (pa_cons pe_w pa_w hst) fun F σ G H s Q q => he F σ G H s _ fun p us G1 H1 g1 h1 i1 => hs F σ G1 H1 (s.grow g1) _ fun vs G2 H2 g2 i2 => q (.ref p :: vs) G2 H2 (g1.trans g2) (.l (g2.h _ _ h1) (i1.up g2.g) i2)
end
def bOf : AK → B
  | .d x => .d x
  | .l xs => .bor xs
theorem stt_start2 {K : PySem.W.Frag} {G H : Hp} (ex : Ex G H) : ∀ {vs : List V} {as : List AK} (n : Nat), IsAs K G H vs as → Stt K H (as.map bOf ++ List.replicate n B.un) (vs.map some ++ List.replicate n none) G H := by
  intro vs as n h
  have get : ∀ {vs : List V} {as : List AK}, IsAs K G H vs as → ∀ {i : Nat} {b : B}, (as.map bOf ++ List.replicate n B.un)[i]? = some b → b ≠ .un →
      (∃ x v, b = .d x ∧ (vs.map some ++ List.replicate n none)[i]? = some (some v) ∧ Is K G v x) ∨ (∃ xs p us, b = .bor xs ∧ (vs.map some ++ List.replicate n none)[i]? = some (some (.ref p)) ∧ H p = some (.lst us) ∧ IsAll K G us xs) := by
    intro vs as h
    induction h with
    | nil =>
      intro i b e nb
      simp only [List.map_nil, List.nil_append, List.getElem?_replicate] at e
      split at e
      · exact absurd (Option.some.inj e).symm nb
      · cases e
    | @d v x vs as h1 h2 ih =>
      intro i b e nb
      cases i with
      | zero =>
        have e' : b = .d x := by simpa [bOf] using e.symm
        exact .inl ⟨x, v, e', rfl, h1⟩
      | succ i => exact ih (by simpa using e) nb
    | @l p us vs xs as h1 h2 h3 ih =>
      intro i b e nb
      cases i with
      | zero =>
        have e' : b = .bor xs := by simpa [bOf] using e.symm
        exact .inr ⟨xs, p, us, e', rfl, h1, h2⟩
      | succ i => exact ih (by simpa using e) nb
  refine ⟨by simp [h.len], ex, fun i x e => ?_, fun i o e => ?_, fun i j p o o' e _ _ _ => ?_, fun i xs e => ?_⟩
  · rcases get h e (by simp) with ⟨y, v, e1, e2, e3⟩ | ⟨ys, p, us, e1, _⟩
    · cases e1
      exact ⟨v, e2, e3⟩
    · cases e1
  · rcases get h e (by simp) with ⟨y, v, e1, _⟩ | ⟨ys, p, us, e1, _⟩ <;> cases e1
  · rcases get h e (by simp) with ⟨y, v, e1, _⟩ | ⟨ys, p, us, e1, _⟩ <;> cases e1
  · rcases get h e (by simp) with ⟨y, v, e1, _⟩ | ⟨ys, p, us, e1, e2, e3, e4⟩
    · cases e1
    · cases e1
      exact ⟨p, us, e2, e3, e3, e4⟩
theorem stt_startN {K : PySem.W.Frag} {G H : Hp} {N : List Str} {vs : List V} {as : List AK} (h : IsAs K G H vs as) (ex : Ex G H) : Stt K H (as.map bOf ++ List.replicate (N.length - as.length) B.un) (L2.start N vs) G H := by
  have q := stt_start2 ex (N.length - as.length) h
  unfold L2.start
  rw [h.len]
  exact q
def spG (K : PySem.W.Frag) {A : Type} (enc : A → List AK) (pre : A → Prop) (res : A → Res) : Sp := fun vs H Q E => ∃ (a : A) (G : Hp), Ex G H ∧ IsAs K G H vs (enc a) ∧ pre a ∧ PostR K H G E Q (res a)
def spJ (K : PySem.W.Frag) (n : Str) {A : Type} (enc : A → List AK) (pre : A → Prop) (flds : A → List (Str × D)) : Sp := fun vs H Q E => ∃ (x dx C : Addr) (ws : List V) (a : A) (G : Hp), vs = .ref x :: ws ∧ ClsA K n C ∧ H x = some (.ins C dx []) ∧ G x = none ∧ Ex G H ∧ IsAs K G H ws (enc a) ∧ pre a ∧
  ∀ G' H' xs, Grow G (dl H x) G' (dl H' x) → H' x = some (.ins C dx xs) → G' x = none → IsFs K G' xs (flds a) → Q .non H'
section
variable {P : Program} {w : World} {K : PySem.W.Frag} {mg : Str → Option Value} {base : Heap} {x qual n : Str} {st : Stmt} {f : Addr} {fd : FuncData} {N ps : List Str} {lv : Nat} {A : Type} {enc : A → List AK} {pre : A → Prop} {res : A → Res} {flds : A → List (Str × D)}
theorem def_okG (F : Fun K x qual st f fd) (S : FnScope N ps (defScope st)) (hlen : ∀ a, (enc a).length = ps.length)
    (hb : ∀ a, pre a → ∀ (X : Cx) (E : XK), X.prog = P → X.w = w → X.K = K → X.mg = mg → X.base = base → XOk lv N (defScope st) X E →
      BK X E ((enc a).map bOf ++ List.replicate (N.length - (enc a).length) B.un) (defBody st) (fun s : Unit => List.replicate N.length B.un) (fun s : Empty => nomatch s) (Ctl.ret (res a))) : FnOk P w K mg base (L2.CX P w) (lv + 1) f fd ps (spG K enc pre res) := by
  refine F.okX S (fun vs H Q E h => ?_) (fun cdv Ar outer s H vs Q E hr h => ?_)
  · obtain ⟨a, G, _, h2, _⟩ := h
    rw [h2.len, hlen]
  · obtain ⟨a, G, h1, h2, h3, h4⟩ := h
    generalize hX : cxOf (L2.CX P w) P w K mg base N qual (defScope st) f cdv Ar outer s H E = X
    have ok : XOk lv N (defScope st) X E := by
      subst hX
      exact ⟨rfl, passes_of rfl, takes_of rfl rfl rfl rfl, hr, fun _ => rfl, rfl, rfl, S.nd, S.kind⟩
    have b := hb a h3 X E (by subst hX; rfl) (by subst hX; rfl) (by subst hX; rfl) (by subst hX; rfl) (by subst hX; rfl) ok
    have hK : X.K = K := by subst hX; rfl
    refine ⟨wS X (defBody st), pss_w, ?_⟩
    refine b H G _ G H _ ?_ (Grow.refl h1) ?_
    · rw [hK]
      exact stt_startN h2 h1
    · rw [hK]
      exact h4
theorem init_okJ (F : Fun K x qual st f fd) {nm : Str} (S : FnScope (nm :: N) ps (defScope st)) (hlen : ∀ a, (enc a).length + 1 = ps.length)
    (hb : ∀ a, pre a → ∀ (X : Cx) (E : XK), X.prog = P → X.w = w → X.K = K → X.mg = mg → X.base = base → XOk lv (nm :: N) (defScope st) X E → ∀ x dx C, ClsA K n C →
      BI X x dx C (B.un :: ((enc a).map bOf ++ List.replicate (N.length - (enc a).length) B.un)) (defBody st) [] (flds a)) : FnOk P w K mg base (L2.CX P w) (lv + 1) f fd ps (spJ K n enc pre flds) := by
  refine F.okX S (fun vs H Q E h => ?_) (fun cdv Ar outer s H vs Q E hr h => ?_)
  · obtain ⟨x, dx, C, ws, a, G, rfl, _, _, _, _, h2, _⟩ := h
    rw [List.length_cons, h2.len, hlen]
  · obtain ⟨x, dx, C, ws, a, G, rfl, hC, hx, gx, h1, h2, h3, h4⟩ := h
    generalize hX : cxOf (L2.CX P w) P w K mg base (nm :: N) qual (defScope st) f cdv Ar outer s H E = X
    have ok : XOk lv (nm :: N) (defScope st) X E := by
      subst hX
      exact ⟨rfl, passes_of rfl, takes_of rfl rfl rfl rfl, hr, fun _ => rfl, rfl, rfl, S.nd, S.kind⟩
    have b := hb a h3 X E (by subst hX; rfl) (by subst hX; rfl) (by subst hX; rfl) (by subst hX; rfl) (by subst hX; rfl) ok x dx C hC
    have hK : X.K = K := by subst hX; rfl
    refine ⟨wS X (defBody st), pss_w, ?_⟩
    have e : L2.start (nm :: N) (V.ref x :: ws) = some (V.ref x) :: L2.start N ws := by
      unfold L2.start
      simp
    rw [e]
    refine b H _ G H _ [] ?_ rfl hx gx ?_ fun G' H' xs g hx' gx' hi => ?_
    · rw [hK]
      exact (stt_startN h2 h1).cons _
    · rw [hK]
      exact .nil
    · rw [hK] at hi
      exact h4 G' H' xs g hx' gx' hi
end
section
variable {X : Cx} {E : XK} {Γ : List B} {pos p : Pos} {x n : Str} {lv : Nat} {A : Type} {enc : A → List AK} {pre : A → Prop} {res : A → Res} {flds : A → List (Str × D)} {e : Expr} {es : List Expr}
/-- a borrowed list, read -/
theorem el_bor (i : Nat) {ds : List D} (hN : X.N[i]? = some x) (hv : Vis X.env.scope x) (h : Γ[i]? = some (B.bor ds)) (hd : (x == ("__debug__" : Str)) = false := by decide) (hcd : (x == ("__classdict__" : Str)) = false := by decide) : EL X Γ (.Name x pos) ds :=
  el_of (pe_var hN hv hd hcd) fun F σ G H s Q q => by
    obtain ⟨p, vs, h1, h2, h3, h4⟩ := s.bor i _ h
    exact ⟨_, h1, q p vs G H (.refl s.sub) h2 h4⟩
theorem er_callG (a : A) (tk : Takes X (fun cls d _ H => E cls d H)) (hk : KnX X x lv (spG X.K enc pre res)) (hr : Room lv X.A) (hg : Gl X x) (ha : EA2 X Γ (e :: es) (enc a)) (hp : pre a)
    (hdb : (x == ("__debug__" : Str)) = false := by decide) (he : starEach (e :: es) X.env = (false, eval e X.env) :: starEach es X.env := by exact starEach_ns rfl) (hpl : (backTo pos (starEach es X.env)).any (·.1) = false := by exact plain_ok rfl) : ER X E Γ (.Call (.Name x p) (e :: es) [] pos) (res a) := by
  obtain ⟨f, fd, ps, h1, h2, h3, h4⟩ := hk.ex
  refine er_of (pe_call (E := E) h1 hr hg h2 h3 h4 .nil (passes_call tk fun _ _ _ _ h => h) pa_w hdb he hpl) fun F σ G H s Q q => ha F σ G H s _ fun vs G1 H1 g1 i1 => ?_
  rw [List.append_nil]
  exact ⟨a, G1, g1.s, i1, hp, PostR.grow g1 q⟩
theorem ed_callG (a : A) {z : D} (hk : KnX X x lv (spG X.K enc pre res)) (hr : Room lv X.A) (hg : Gl X x) (ha : EA2 X Γ (e :: es) (enc a)) (hp : pre a) (hv : res a = .v z)
    (hdb : (x == ("__debug__" : Str)) = false := by decide) (he : starEach (e :: es) X.env = (false, eval e X.env) :: starEach es X.env := by exact starEach_ns rfl) (hpl : (backTo pos (starEach es X.env)).any (·.1) = false := by exact plain_ok rfl) : ED X Γ (.Call (.Name x p) (e :: es) [] pos) z := by
  obtain ⟨f, fd, ps, h1, h2, h3, h4⟩ := hk.ex
  refine ed_of (pe_call h1 hr hg h2 h3 h4 .nil passL pa_w hdb he hpl) fun F σ G H s Q q => ha F σ G H s _ fun vs G1 H1 g1 i1 => ?_
  rw [List.append_nil]
  refine ⟨a, G1, g1.s, i1, hp, ?_⟩
  rw [hv]
  exact fun v G2 H2 g2 i2 => q v G2 H2 (g1.trans g2) i2
theorem eo_callG (a : A) {z : OO} (hk : KnX X x lv (spG X.K enc pre res)) (hr : Room lv X.A) (hg : Gl X x) (ha : EA2 X Γ (e :: es) (enc a)) (hp : pre a) (hv : res a = .o z)
    (hdb : (x == ("__debug__" : Str)) = false := by decide) (he : starEach (e :: es) X.env = (false, eval e X.env) :: starEach es X.env := by exact starEach_ns rfl) (hpl : (backTo pos (starEach es X.env)).any (·.1) = false := by exact plain_ok rfl) : EO X Γ (.Call (.Name x p) (e :: es) [] pos) z := by
  obtain ⟨f, fd, ps, h1, h2, h3, h4⟩ := hk.ex
  refine eo_of (pe_call h1 hr hg h2 h3 h4 .nil passL pa_w hdb he hpl) fun F σ G H s Q q => ha F σ G H s _ fun vs G1 H1 g1 i1 => ?_
  rw [List.append_nil]
  refine ⟨a, G1, g1.s, i1, hp, ?_⟩
  rw [hv]
  exact fun p u G2 H2 g2 hp n hn ho => q p u G2 H2 (g1.trans g2) hp n (Evl.fresh_back g1.h hn) ho
theorem ed_makeJ (a : A) (hk : MkX X n lv (spJ X.K n enc pre flds)) (hr : Room (lv + 1) X.A) (hg : Gl X n) (ha : EA2 X Γ (e :: es) (enc a)) (hp : pre a)
    (hdb : (n == ("__debug__" : Str)) = false := by decide) (he : starEach (e :: es) X.env = (false, eval e X.env) :: starEach es X.env := by exact starEach_ns rfl) (hpl : (backTo pos (starEach es X.env)).any (·.1) = false := by exact plain_ok rfl) : ED X Γ (.Call (.Name n p) (e :: es) [] pos) (.ins n (flds a)) := by
  obtain ⟨C, f, fd, ps, h1, hC, hM, hF, hB⟩ := hk.ex
  refine ed_of (pe_make (E := E0) hM hF hr hg h1 hB .nil passL pa_w hdb he hpl) fun F σ G H s Q q => ha F σ G H s _ fun vs G1 H1 g1 i1 x dx hx hdx hne => ?_
  rw [List.append_nil]
  have gx : G1 x = none := Evl.fresh_back g1.s hx
  have gdx : G1 dx = none := Evl.fresh_back g1.s hdx
  have up : ∀ b o, H1 b = some o → (upd (upd H1 dx (.own x)) x (.ins C dx [])) b = some o := fun b o eb => by
    rw [upd_ne (ne_of_none eb hx), upd_ne (ne_of_none eb hdx)]
    exact eb
  have ex1 : Ex G1 (upd (upd H1 dx (.own x)) x (.ins C dx [])) := fun b o eb => up b o (g1.s b o eb)
  have i2 : IsAs X.K G1 (upd (upd H1 dx (.own x)) x (.ins C dx [])) vs (enc a) := by
    clear hp
    generalize enc a = as at i1
    induction i1 with
    | nil => exact .nil
    | d h _ ih => exact .d h ih
    | l h1 h2 _ ih => exact .l (up _ _ h1) h2 ih
  refine ⟨x, dx, C, vs, a, G1, rfl, hC, upd_same, gx, ex1, i2, hp, fun G' H' xs g hx' gx' hi => ⟨rfl, ?_⟩⟩
  have hH : Ex H1 H' := fun b o eb => by
    have hb : b ≠ x := ne_of_none eb hx
    have hb2 : b ≠ dx := ne_of_none eb hdx
    have z := g.h b o (by rw [dl_ne hb, upd_ne hb, upd_ne hb2]; exact eb)
    rw [dl_ne hb] at z
    exact z
  have gs : Ex G' H' := fun b o eb => by
    have hb : b ≠ x := ne_of_none eb gx'
    have z := g.s b o eb
    rw [dl_ne hb] at z
    exact z
  have g2 : Grow G1 H1 G' H' := ⟨g.g, hH, gs, fun b o eb mb => by
    have hb : b ≠ x := ne_of_none eb hx
    have hb2 : b ≠ dx := ne_of_none eb hdx
    exact g.f b o (by rw [dl_ne hb, upd_ne hb, upd_ne hb2]; exact eb) mb⟩
  exact q (.ref x) (upd G' x (.ins C dx xs)) H' (g1.trans (g2.frz hx hx' gx')) (.ins hC.nm upd_same (IsFs.mono (Evl.Ex.new gx') _ _ hi))
end
end Sd

namespace LawP
open PySem PySem.Spec PyProof.Rows L2 Sd
def top (i : Nat) : Stmt := PySem.Challenge.pw_drawhouse_k23_what_rows_bind_and_ask.main.body.getD i (.Pass ⟨0, 0, 0, 0⟩)
def LETTERS : List Nat := [97, 98, 99, 100, 101, 102, 103, 104, 105, 106, 107, 108, 109, 110, 111, 112, 113, 114, 115, 116, 117, 118, 119, 120, 121, 122]
theorem name_join (f : Int → Nat) (n : Nat) (h : n ≤ 8) : ((List.map (fun y : Int => [f y]) (rints 0 n)).map (·.length)).sum + (List.map (fun y : Int => [f y]) (rints 0 n)).length * ([] : List Nat).length ≤ 16777216 :=
  join_ok (n := 1) (m := 8) (k := 0) (s := []) (fun x hx => by obtain ⟨y, _, rfl⟩ := List.mem_map.mp hx; exact Nat.le_refl 1) (by rw [List.length_map, rints_len]; exact h) (Nat.le_refl 0) (by decide)
def nameOk (s : List Nat) : Bool := (decide ((1 : Int) ≤ (s.length : Int)) && decide ((s.length : Int) ≤ 8)) && s.all (fun c => decide (c ∈ LETTERS))
def allOk (ls : List (List Nat)) (m : Int) : Bool := (decide ((1 : Int) ≤ (ls.length : Int)) && decide ((ls.length : Int) ≤ m)) && ls.all nameOk
def addrOk (s : List Nat) : Bool := allOk (splitS s [46]) 3
theorem any_not {α : Type} (p : α → Bool) (xs : List α) : xs.any (fun x => !p x) = !xs.all p := by
  induction xs with
  | nil => rfl
  | cons x xs ih => rw [List.any_cons, List.all_cons, ih]; cases p x <;> rfl
theorem find_all {Y : Type} (p : Y → Bool) (ys : List Y) (k : Unit → Ctl Unit Empty) : (Ctl.bind (S := Unit) (loop (Y := Y) (fun (_ : Unit) (y : Y) => if (!p y) = true then Ctl.up (.ret (.v (.bl false))) else .go ()) () ys) k) = if ys.all p = true then k () else .ret (.v (.bl false)) := by
  rw [loop_find (p := fun y => !p y), any_not]
  cases ys.all p <;> rfl
abbrev s_law_cell : Stmt := top 12
abbrev nm_law_cell : List Str := ["_law_script", "_law_k"]
theorem sc_law_cell : FnScope nm_law_cell ["_law_script", "_law_k"] (defScope s_law_cell) := ⟨rfl, rfl, rfl, by decide +kernel, rfl, by decide +kernel, by decide +kernel⟩
theorem lk_law_cell_law_k : (defScope s_law_cell).names.lookup ("_law_k" : Str) = some .local := by decide +kernel
theorem lk_law_cell_law_script : (defScope s_law_cell).names.lookup ("_law_script" : Str) = some .local := by decide +kernel
theorem lk_law_cell_len : (defScope s_law_cell).names.lookup ("len" : Str) = some .globalImplicit := by decide +kernel
def m_cell (a0 : (List Int)) (a1 : Int) : Ctl Unit Empty := if (decide (a1 < ((a0).length : Int))) = true then Ctl.up (.ret (.v (D.int ((ix a0 a1 0) % BM 18000)))) else .ret (.v (D.int (0 : Int)))
theorem bd_cell (X : Cx) (E : XK) (hX : XOk 0 nm_law_cell (defScope s_law_cell) X E) (m_len : X.mg "len" = none) (a0 : (List Int)) (a1 : Int) (hp : 0 ≤ a1) : BK X E ([.d (D.scr a0), .d (D.int a1)] : List B) (defBody s_law_cell) (fun s : Unit => List.replicate 2 B.un) (fun s : Empty => nomatch s) (m_cell a0 a1) := by
  unfold m_cell
  exact (b_ifr (et_cmp (od_lt _ _) (ed_var 1 (hX.nm rfl) (hX.vs (vis_l lk_law_cell_law_k)) rfl) (ed_lenScr (hX.gl lk_law_cell_len) m_len (ed_var 0 (hX.nm rfl) (hX.vs (vis_l lk_law_cell_law_script)) rfl))) (fun h1 => (b_ret (ed_op (od_andK 18000 _) (ed_ixScr (ed_var 0 (hX.nm rfl) (hX.vs (vis_l lk_law_cell_law_script)) rfl) (ed_var 1 (hX.nm rfl) (hX.vs (vis_l lk_law_cell_law_k)) rfl) (ix_ok (d := 0) (by first | decide | omega | (dsimp only; omega) | (unfold CPow; decide) | (subst_vars; (try simp only [List.length_cons, List.length_nil, decide_eq_true_eq, decide_eq_false_iff_not, Bool.and_eq_true, Bool.or_eq_true, Bool.not_eq_true', CMul, CDiv, CPow, sizeLine_eq] at *); omega)))) (ed_op (od_sub _ _) (ed_op (od_shlW 18000 _ (by decide) rfl) ed_int ed_int) ed_int)))) (fun h1 => (b_ret ed_int)))
def cellL (a0 : (List Int)) (a1 : Int) : Int := outI (m_cell a0 a1)
theorem m_cell_eq (a0 : (List Int)) (a1 : Int) : m_cell a0 a1 = .ret (.v (D.int (cellL a0 a1))) := by
  unfold cellL
  exact (show ∀ c : Ctl Unit Empty, (∃ z, c = .ret (.v (D.int z))) → c = .ret (.v (D.int (outI c))) from fun c ⟨z, h⟩ => by rw [h]; rfl) _ (by unfold m_cell; (try simp only [bnd]); (repeat' split) <;> first | exact ⟨_, rfl⟩ | (exfalso; simp_all))
abbrev sp_cell (K : PySem.W.Frag) : Sp := spF K (A := (List Int) × Int) (fun a => [(D.scr a.1), (D.int a.2)]) (fun a => 0 ≤ a.2) (fun a => .v (D.int (cellL a.1 a.2)))
theorem ok_cell {P : Program} {w : World} {K : PySem.W.Frag} {mg : Str → Option Value} {base : Heap} {f : Addr} {fd : FuncData} (F : Fun K "_law_cell" "_law_cell" s_law_cell f fd) (m_len : mg "len" = none) : FnOk P w K mg base (L2.CX P w) 1 f fd ["_law_script", "_law_k"] (sp_cell K) := by
  refine def_ok F sc_law_cell (fun _ => rfl) (fun a hp X E e1 e2 e3 e4 e5 hX => ?_)
  subst e1 e2 e3 e4 e5
  have h := bd_cell X E hX m_len a.1 a.2 hp
  rw [m_cell_eq a.1 a.2] at h
  exact h
abbrev s_law_sub : Stmt := top 13
abbrev nm_law_sub : List Str := ["_law_cell_here", "_law_j"]
theorem sc_law_sub : FnScope nm_law_sub ["_law_cell_here", "_law_j"] (defScope s_law_sub) := ⟨rfl, rfl, rfl, by decide +kernel, rfl, by decide +kernel, by decide +kernel⟩
theorem lk_law_sub_law_cell_here : (defScope s_law_sub).names.lookup ("_law_cell_here" : Str) = some .local := by decide +kernel
theorem lk_law_sub_law_j : (defScope s_law_sub).names.lookup ("_law_j" : Str) = some .local := by decide +kernel
def m_sub (a0 : Int) (a1 : Int) : Ctl Unit Empty := if ((decide ((a0 % (2 : Int)) = (1 : Int))) && (decide ((0 : Int) < (a0 / 2 ^ ((((480 : Int) * a1) + (400 : Int))).toNat)))) = true then Ctl.up (.ret (.v (D.int (Builtin.bitOr (a0 / 2 ^ (((480 : Int) * a1)).toNat) (1 : Int))))) else .ret (.v (D.int ((((a0 / (2 : Int)) / (a1 + (1 : Int))) + ((104729 : Int) * a1)) * (2 : Int))))
theorem bd_sub (X : Cx) (E : XK) (hX : XOk 0 nm_law_sub (defScope s_law_sub) X E) (a0 : Int) (a1 : Int) (hp : 0 ≤ a1 ∧ a1 ≤ 1000) : BK X E ([.d (D.int a0), .d (D.int a1)] : List B) (defBody s_law_sub) (fun s : Unit => List.replicate 2 B.un) (fun s : Empty => nomatch s) (m_sub a0 a1) := by
  unfold m_sub
  exact (b_ifr (et_w (ew_and (et_cmp (od_eqI _ _) (ed_op (od_mod _ _ (by first | decide | omega | (dsimp only; omega) | (unfold CPow; decide) | (subst_vars; (try simp only [List.length_cons, List.length_nil, decide_eq_true_eq, decide_eq_false_iff_not, Bool.and_eq_true, Bool.or_eq_true, Bool.not_eq_true', CMul, CDiv, CPow, sizeLine_eq] at *); omega))) (ed_var 0 (hX.nm rfl) (hX.vs (vis_l lk_law_sub_law_cell_here)) rfl) ed_int) ed_int) (fun h1 => (ew_and1 (et_cmp (od_gt _ _) (ed_op (od_shr _ _ (by first | decide | omega | (dsimp only; omega) | (unfold CPow; decide) | (subst_vars; (try simp only [List.length_cons, List.length_nil, decide_eq_true_eq, decide_eq_false_iff_not, Bool.and_eq_true, Bool.or_eq_true, Bool.not_eq_true', CMul, CDiv, CPow, sizeLine_eq] at *); omega))) (ed_var 0 (hX.nm rfl) (hX.vs (vis_l lk_law_sub_law_cell_here)) rfl) (ed_op (od_add _ _) (ed_op (od_mul _ _ (by first | decide | omega | (dsimp only; omega) | (unfold CPow; decide) | (subst_vars; (try simp only [List.length_cons, List.length_nil, decide_eq_true_eq, decide_eq_false_iff_not, Bool.and_eq_true, Bool.or_eq_true, Bool.not_eq_true', CMul, CDiv, CPow, sizeLine_eq] at *); omega))) ed_int (ed_var 1 (hX.nm rfl) (hX.vs (vis_l lk_law_sub_law_j)) rfl)) ed_int)) ed_int))))) (fun h2 => (b_ret (ed_op (od_or _ _) (ed_op (od_shr _ _ (by first | decide | omega | (dsimp only; omega) | (unfold CPow; decide) | (subst_vars; (try simp only [List.length_cons, List.length_nil, decide_eq_true_eq, decide_eq_false_iff_not, Bool.and_eq_true, Bool.or_eq_true, Bool.not_eq_true', CMul, CDiv, CPow, sizeLine_eq] at *); omega))) (ed_var 0 (hX.nm rfl) (hX.vs (vis_l lk_law_sub_law_cell_here)) rfl) (ed_op (od_mul _ _ (by first | decide | omega | (dsimp only; omega) | (unfold CPow; decide) | (subst_vars; (try simp only [List.length_cons, List.length_nil, decide_eq_true_eq, decide_eq_false_iff_not, Bool.and_eq_true, Bool.or_eq_true, Bool.not_eq_true', CMul, CDiv, CPow, sizeLine_eq] at *); omega))) ed_int (ed_var 1 (hX.nm rfl) (hX.vs (vis_l lk_law_sub_law_j)) rfl))) ed_int))) (fun h2 => (b_ret (ed_op (od_mul _ _ (by first | decide | omega | (dsimp only; omega) | (unfold CPow; decide) | (subst_vars; (try simp only [List.length_cons, List.length_nil, decide_eq_true_eq, decide_eq_false_iff_not, Bool.and_eq_true, Bool.or_eq_true, Bool.not_eq_true', CMul, CDiv, CPow, sizeLine_eq] at *); omega))) (ed_op (od_add _ _) (ed_op (od_div _ _ (by first | decide | omega | (dsimp only; omega) | (unfold CPow; decide) | (subst_vars; (try simp only [List.length_cons, List.length_nil, decide_eq_true_eq, decide_eq_false_iff_not, Bool.and_eq_true, Bool.or_eq_true, Bool.not_eq_true', CMul, CDiv, CPow, sizeLine_eq] at *); omega))) (ed_op (od_div _ _ (by first | decide | omega | (dsimp only; omega) | (unfold CPow; decide) | (subst_vars; (try simp only [List.length_cons, List.length_nil, decide_eq_true_eq, decide_eq_false_iff_not, Bool.and_eq_true, Bool.or_eq_true, Bool.not_eq_true', CMul, CDiv, CPow, sizeLine_eq] at *); omega))) (ed_var 0 (hX.nm rfl) (hX.vs (vis_l lk_law_sub_law_cell_here)) rfl) ed_int) (ed_op (od_add _ _) (ed_var 1 (hX.nm rfl) (hX.vs (vis_l lk_law_sub_law_j)) rfl) ed_int)) (ed_op (od_mul _ _ (by first | decide | omega | (dsimp only; omega) | (unfold CPow; decide) | (subst_vars; (try simp only [List.length_cons, List.length_nil, decide_eq_true_eq, decide_eq_false_iff_not, Bool.and_eq_true, Bool.or_eq_true, Bool.not_eq_true', CMul, CDiv, CPow, sizeLine_eq] at *); omega))) ed_int (ed_var 1 (hX.nm rfl) (hX.vs (vis_l lk_law_sub_law_j)) rfl))) ed_int))))
def subL (a0 : Int) (a1 : Int) : Int := outI (m_sub a0 a1)
theorem m_sub_eq (a0 : Int) (a1 : Int) : m_sub a0 a1 = .ret (.v (D.int (subL a0 a1))) := by
  unfold subL
  exact (show ∀ c : Ctl Unit Empty, (∃ z, c = .ret (.v (D.int z))) → c = .ret (.v (D.int (outI c))) from fun c ⟨z, h⟩ => by rw [h]; rfl) _ (by unfold m_sub; (try simp only [bnd]); (repeat' split) <;> first | exact ⟨_, rfl⟩ | (exfalso; simp_all))
abbrev sp_sub (K : PySem.W.Frag) : Sp := spF K (A := Int × Int) (fun a => [(D.int a.1), (D.int a.2)]) (fun a => 0 ≤ a.2 ∧ a.2 ≤ 1000) (fun a => .v (D.int (subL a.1 a.2)))
theorem ok_sub {P : Program} {w : World} {K : PySem.W.Frag} {mg : Str → Option Value} {base : Heap} {f : Addr} {fd : FuncData} (F : Fun K "_law_sub" "_law_sub" s_law_sub f fd) : FnOk P w K mg base (L2.CX P w) 1 f fd ["_law_cell_here", "_law_j"] (sp_sub K) := by
  refine def_ok F sc_law_sub (fun _ => rfl) (fun a hp X E e1 e2 e3 e4 e5 hX => ?_)
  subst e1 e2 e3 e4 e5
  have h := bd_sub X E hX a.1 a.2 hp
  rw [m_sub_eq a.1 a.2] at h
  exact h
abbrev s_law_number : Stmt := top 14
abbrev nm_law_number : List Str := ["_law_cell_here", "_law_far"]
theorem sc_law_number : FnScope nm_law_number ["_law_cell_here", "_law_far"] (defScope s_law_number) := ⟨rfl, rfl, rfl, by decide +kernel, rfl, by decide +kernel, by decide +kernel⟩
theorem lk_law_number_law_cell_here : (defScope s_law_number).names.lookup ("_law_cell_here" : Str) = some .local := by decide +kernel
theorem lk_law_number_law_far : (defScope s_law_number).names.lookup ("_law_far" : Str) = some .local := by decide +kernel
def m_number (a0 : Int) (a1 : Int) : Ctl Unit Empty := if ((decide ((a0 % (2 : Int)) = (1 : Int))) && (decide ((0 : Int) < (a0 / 2 ^ ((400 : Int)).toNat)))) = true then Ctl.up (.ret (.v (D.int ((a0 / 2 ^ ((400 : Int)).toNat) % a1)))) else .ret (.v (D.int ((a0 / (2 : Int)) % a1)))
theorem bd_number (X : Cx) (E : XK) (hX : XOk 0 nm_law_number (defScope s_law_number) X E) (a0 : Int) (a1 : Int) (hp : 0 < a1) : BK X E ([.d (D.int a0), .d (D.int a1)] : List B) (defBody s_law_number) (fun s : Unit => List.replicate 2 B.un) (fun s : Empty => nomatch s) (m_number a0 a1) := by
  unfold m_number
  exact (b_ifr (et_w (ew_and (et_cmp (od_eqI _ _) (ed_op (od_mod _ _ (by first | decide | omega | (dsimp only; omega) | (unfold CPow; decide) | (subst_vars; (try simp only [List.length_cons, List.length_nil, decide_eq_true_eq, decide_eq_false_iff_not, Bool.and_eq_true, Bool.or_eq_true, Bool.not_eq_true', CMul, CDiv, CPow, sizeLine_eq] at *); omega))) (ed_var 0 (hX.nm rfl) (hX.vs (vis_l lk_law_number_law_cell_here)) rfl) ed_int) ed_int) (fun h1 => (ew_and1 (et_cmp (od_gt _ _) (ed_op (od_shr _ _ (by first | decide | omega | (dsimp only; omega) | (unfold CPow; decide) | (subst_vars; (try simp only [List.length_cons, List.length_nil, decide_eq_true_eq, decide_eq_false_iff_not, Bool.and_eq_true, Bool.or_eq_true, Bool.not_eq_true', CMul, CDiv, CPow, sizeLine_eq] at *); omega))) (ed_var 0 (hX.nm rfl) (hX.vs (vis_l lk_law_number_law_cell_here)) rfl) ed_int) ed_int))))) (fun h2 => (b_ret (ed_op (od_mod _ _ (by first | decide | omega | (dsimp only; omega) | (unfold CPow; decide) | (subst_vars; (try simp only [List.length_cons, List.length_nil, decide_eq_true_eq, decide_eq_false_iff_not, Bool.and_eq_true, Bool.or_eq_true, Bool.not_eq_true', CMul, CDiv, CPow, sizeLine_eq] at *); omega))) (ed_op (od_shr _ _ (by first | decide | omega | (dsimp only; omega) | (unfold CPow; decide) | (subst_vars; (try simp only [List.length_cons, List.length_nil, decide_eq_true_eq, decide_eq_false_iff_not, Bool.and_eq_true, Bool.or_eq_true, Bool.not_eq_true', CMul, CDiv, CPow, sizeLine_eq] at *); omega))) (ed_var 0 (hX.nm rfl) (hX.vs (vis_l lk_law_number_law_cell_here)) rfl) ed_int) (ed_var 1 (hX.nm rfl) (hX.vs (vis_l lk_law_number_law_far)) rfl)))) (fun h2 => (b_ret (ed_op (od_mod _ _ (by first | decide | omega | (dsimp only; omega) | (unfold CPow; decide) | (subst_vars; (try simp only [List.length_cons, List.length_nil, decide_eq_true_eq, decide_eq_false_iff_not, Bool.and_eq_true, Bool.or_eq_true, Bool.not_eq_true', CMul, CDiv, CPow, sizeLine_eq] at *); omega))) (ed_op (od_div _ _ (by first | decide | omega | (dsimp only; omega) | (unfold CPow; decide) | (subst_vars; (try simp only [List.length_cons, List.length_nil, decide_eq_true_eq, decide_eq_false_iff_not, Bool.and_eq_true, Bool.or_eq_true, Bool.not_eq_true', CMul, CDiv, CPow, sizeLine_eq] at *); omega))) (ed_var 0 (hX.nm rfl) (hX.vs (vis_l lk_law_number_law_cell_here)) rfl) ed_int) (ed_var 1 (hX.nm rfl) (hX.vs (vis_l lk_law_number_law_far)) rfl)))))
def numberL (a0 : Int) (a1 : Int) : Int := outI (m_number a0 a1)
theorem m_number_eq (a0 : Int) (a1 : Int) : m_number a0 a1 = .ret (.v (D.int (numberL a0 a1))) := by
  unfold numberL
  exact (show ∀ c : Ctl Unit Empty, (∃ z, c = .ret (.v (D.int z))) → c = .ret (.v (D.int (outI c))) from fun c ⟨z, h⟩ => by rw [h]; rfl) _ (by unfold m_number; (try simp only [bnd]); (repeat' split) <;> first | exact ⟨_, rfl⟩ | (exfalso; simp_all))
theorem numberL_lt (c : Int) {m : Int} (h : 0 < m) : 0 ≤ numberL c m ∧ numberL c m < m := by
  unfold numberL m_number
  split
  · exact ⟨Int.emod_nonneg _ (by omega), Int.emod_lt_of_pos _ h⟩
  · exact ⟨Int.emod_nonneg _ (by omega), Int.emod_lt_of_pos _ h⟩
abbrev sp_number (K : PySem.W.Frag) : Sp := spF K (A := Int × Int) (fun a => [(D.int a.1), (D.int a.2)]) (fun a => 0 < a.2) (fun a => .v (D.int (numberL a.1 a.2)))
theorem ok_number {P : Program} {w : World} {K : PySem.W.Frag} {mg : Str → Option Value} {base : Heap} {f : Addr} {fd : FuncData} (F : Fun K "_law_number" "_law_number" s_law_number f fd) : FnOk P w K mg base (L2.CX P w) 1 f fd ["_law_cell_here", "_law_far"] (sp_number K) := by
  refine def_ok F sc_law_number (fun _ => rfl) (fun a hp X E e1 e2 e3 e4 e5 hX => ?_)
  subst e1 e2 e3 e4 e5
  have h := bd_number X E hX a.1 a.2 hp
  rw [m_number_eq a.1 a.2] at h
  exact h
abbrev s_law_pick : Stmt := top 15
abbrev nm_law_pick : List Str := ["_law_cell_here", "_law_k", "_law_many", "_law_great", "_law_by", "_law_one"]
theorem sc_law_pick : FnScope nm_law_pick ["_law_cell_here", "_law_k", "_law_many"] (defScope s_law_pick) := ⟨rfl, rfl, rfl, by decide +kernel, rfl, by decide +kernel, by decide +kernel⟩
theorem lk_law_pick_law_by : (defScope s_law_pick).names.lookup ("_law_by" : Str) = some .local := by decide +kernel
theorem lk_law_pick_law_cell_here : (defScope s_law_pick).names.lookup ("_law_cell_here" : Str) = some .local := by decide +kernel
theorem lk_law_pick_law_great : (defScope s_law_pick).names.lookup ("_law_great" : Str) = some .local := by decide +kernel
theorem lk_law_pick_law_k : (defScope s_law_pick).names.lookup ("_law_k" : Str) = some .local := by decide +kernel
theorem lk_law_pick_law_many : (defScope s_law_pick).names.lookup ("_law_many" : Str) = some .local := by decide +kernel
theorem lk_law_pick_law_one : (defScope s_law_pick).names.lookup ("_law_one" : Str) = some .local := by decide +kernel
def m_pick (a0 : Int) (a1 : Int) (a2 : Int) : Ctl Unit Empty := if ((decide ((a0 % (2 : Int)) = (1 : Int))) && (decide ((0 : Int) < (a0 / 2 ^ ((400 : Int)).toNat)))) = true then Ctl.up (.ret (.v (D.int (((a0 / 2 ^ (((1 : Int) + ((10 : Int) * a1))).toNat) % 2 ^ 10) % a2)))) else bnd ((2305843009213693951 : Int) : Int) fun v3 => bnd ((ix ([(48271 : Int), (1000003 : Int), (15485863 : Int), (32452843 : Int), (49979687 : Int), (67867967 : Int), (86028121 : Int), (104395301 : Int)] : List Int) (a1 % (8 : Int)) 0) : Int) fun v4 => bnd ((v4 * (ix ([(179424673 : Int), (373587883 : Int), (573259391 : Int), (776531401 : Int), (982451653 : Int)] : List Int) (a1 / (8 : Int)) 0)) : Int) fun v5 => bnd ((((((a0 / (2 : Int)) % v3) + (1 : Int)) * v5) % v3) : Int) fun v6 => bnd (((v6 * v6) % (1000000000039 : Int)) : Int) fun v7 => .ret (.v (D.int ((((((v7 + a1) + (1 : Int)) * ((v7 / (10007 : Int)) + (48271 : Int))) % (67280421310721 : Int)) / (31 : Int)) % a2)))
theorem bd_pick (X : Cx) (E : XK) (hX : XOk 0 nm_law_pick (defScope s_law_pick) X E) (a0 : Int) (a1 : Int) (a2 : Int) (hp : (0 ≤ a1 ∧ a1 < 40) ∧ 0 < a2) : BK X E ([.d (D.int a0), .d (D.int a1), .d (D.int a2), .un, .un, .un] : List B) (defBody s_law_pick) (fun s : Unit => List.replicate 6 B.un) (fun s : Empty => nomatch s) (m_pick a0 a1 a2) := by
  unfold m_pick
  have b1 := ix_all (P := fun x : Int => 0 ≤ x ∧ x ≤ 1000000000) (xs := [48271, 1000003, 15485863, 32452843, 49979687, 67867967, 86028121, 104395301]) (i := a1 % 8) (d := 0) (by decide) (by simp; omega)
  have b2 := ix_all (P := fun x : Int => 0 ≤ x ∧ x ≤ 1000000000) (xs := [179424673, 373587883, 573259391, 776531401, 982451653]) (i := a1 / 8) (d := 0) (by decide) (by simp; omega)
  exact (b_ifr (et_w (ew_and (et_cmp (od_eqI _ _) (ed_op (od_mod _ _ (by first | decide | omega | (dsimp only; omega) | (unfold CPow; decide) | (subst_vars; (try simp only [List.length_cons, List.length_nil, decide_eq_true_eq, decide_eq_false_iff_not, Bool.and_eq_true, Bool.or_eq_true, Bool.not_eq_true', CMul, CDiv, CPow, sizeLine_eq] at *); omega))) (ed_var 0 (hX.nm rfl) (hX.vs (vis_l lk_law_pick_law_cell_here)) rfl) ed_int) ed_int) (fun h1 => (ew_and1 (et_cmp (od_gt _ _) (ed_op (od_shr _ _ (by first | decide | omega | (dsimp only; omega) | (unfold CPow; decide) | (subst_vars; (try simp only [List.length_cons, List.length_nil, decide_eq_true_eq, decide_eq_false_iff_not, Bool.and_eq_true, Bool.or_eq_true, Bool.not_eq_true', CMul, CDiv, CPow, sizeLine_eq] at *); omega))) (ed_var 0 (hX.nm rfl) (hX.vs (vis_l lk_law_pick_law_cell_here)) rfl) ed_int) ed_int))))) (fun h2 => (b_ret (ed_op (od_mod _ _ (by first | decide | omega | (dsimp only; omega) | (unfold CPow; decide) | (subst_vars; (try simp only [List.length_cons, List.length_nil, decide_eq_true_eq, decide_eq_false_iff_not, Bool.and_eq_true, Bool.or_eq_true, Bool.not_eq_true', CMul, CDiv, CPow, sizeLine_eq] at *); omega))) (ed_op (od_andM _ _ 10 (by decide)) (ed_op (od_shr _ _ (by first | decide | omega | (dsimp only; omega) | (unfold CPow; decide) | (subst_vars; (try simp only [List.length_cons, List.length_nil, decide_eq_true_eq, decide_eq_false_iff_not, Bool.and_eq_true, Bool.or_eq_true, Bool.not_eq_true', CMul, CDiv, CPow, sizeLine_eq] at *); omega))) (ed_var 0 (hX.nm rfl) (hX.vs (vis_l lk_law_pick_law_cell_here)) rfl) (ed_op (od_add _ _) ed_int (ed_op (od_mul _ _ (by first | decide | omega | (dsimp only; omega) | (unfold CPow; decide) | (subst_vars; (try simp only [List.length_cons, List.length_nil, decide_eq_true_eq, decide_eq_false_iff_not, Bool.and_eq_true, Bool.or_eq_true, Bool.not_eq_true', CMul, CDiv, CPow, sizeLine_eq] at *); omega))) ed_int (ed_var 1 (hX.nm rfl) (hX.vs (vis_l lk_law_pick_law_k)) rfl)))) ed_int) (ed_var 2 (hX.nm rfl) (hX.vs (vis_l lk_law_pick_law_many)) rfl)))) (fun h2 => (b_set 3 D.int hX rfl (loc_l lk_law_pick_law_great) ed_int (fun v3 hv3 => (show BK X E ([.d (D.int a0), .d (D.int a1), .d (D.int a2), .d (D.int v3), .un, .un] : List B) _ _ _ _ from (b_set 4 D.int hX rfl (loc_l lk_law_pick_law_by) (ed_ixL (EvO.el (eo_lst (ea_cons ed_int (ea_cons ed_int (ea_cons ed_int (ea_cons ed_int (ea_cons ed_int (ea_cons ed_int (ea_cons ed_int (ea_cons ed_int ea_nil)))))))) (by show 8 ≤ sizeLine; decide))) (ed_op (od_mod _ _ (by first | decide | omega | (dsimp only; omega) | (unfold CPow; decide) | (subst_vars; (try simp only [List.length_cons, List.length_nil, decide_eq_true_eq, decide_eq_false_iff_not, Bool.and_eq_true, Bool.or_eq_true, Bool.not_eq_true', CMul, CDiv, CPow, sizeLine_eq] at *); omega))) (ed_var 1 (hX.nm rfl) (hX.vs (vis_l lk_law_pick_law_k)) rfl) ed_int) (atI_map (f := D.int) (xs := ([(48271 : Int), (1000003 : Int), (15485863 : Int), (32452843 : Int), (49979687 : Int), (67867967 : Int), (86028121 : Int), (104395301 : Int)] : List Int)) (ix_ok (d := 0) (by first | decide | omega | (dsimp only; omega) | (unfold CPow; decide) | (subst_vars; (try simp only [List.length_cons, List.length_nil, decide_eq_true_eq, decide_eq_false_iff_not, Bool.and_eq_true, Bool.or_eq_true, Bool.not_eq_true', CMul, CDiv, CPow, sizeLine_eq] at *); omega))))) (fun v4 hv4 => (show BK X E ([.d (D.int a0), .d (D.int a1), .d (D.int a2), .d (D.int v3), .d (D.int v4), .un] : List B) _ _ _ _ from (b_set 4 D.int hX rfl (loc_l lk_law_pick_law_by) (ed_op (od_mul _ _ (by first | decide | omega | (dsimp only; omega) | (unfold CPow; decide) | (subst_vars; (try simp only [List.length_cons, List.length_nil, decide_eq_true_eq, decide_eq_false_iff_not, Bool.and_eq_true, Bool.or_eq_true, Bool.not_eq_true', CMul, CDiv, CPow, sizeLine_eq] at *); omega))) (ed_var 4 (hX.nm rfl) (hX.vs (vis_l lk_law_pick_law_by)) rfl) (ed_ixL (EvO.el (eo_lst (ea_cons ed_int (ea_cons ed_int (ea_cons ed_int (ea_cons ed_int (ea_cons ed_int ea_nil))))) (by show 5 ≤ sizeLine; decide))) (ed_op (od_div _ _ (by first | decide | omega | (dsimp only; omega) | (unfold CPow; decide) | (subst_vars; (try simp only [List.length_cons, List.length_nil, decide_eq_true_eq, decide_eq_false_iff_not, Bool.and_eq_true, Bool.or_eq_true, Bool.not_eq_true', CMul, CDiv, CPow, sizeLine_eq] at *); omega))) (ed_var 1 (hX.nm rfl) (hX.vs (vis_l lk_law_pick_law_k)) rfl) ed_int) (atI_map (f := D.int) (xs := ([(179424673 : Int), (373587883 : Int), (573259391 : Int), (776531401 : Int), (982451653 : Int)] : List Int)) (ix_ok (d := 0) (by first | decide | omega | (dsimp only; omega) | (unfold CPow; decide) | (subst_vars; (try simp only [List.length_cons, List.length_nil, decide_eq_true_eq, decide_eq_false_iff_not, Bool.and_eq_true, Bool.or_eq_true, Bool.not_eq_true', CMul, CDiv, CPow, sizeLine_eq] at *); omega)))))) (fun v5 hv5 => (show BK X E ([.d (D.int a0), .d (D.int a1), .d (D.int a2), .d (D.int v3), .d (D.int v5), .un] : List B) _ _ _ _ from (b_set 5 D.int hX rfl (loc_l lk_law_pick_law_one) (ed_op (od_mod _ _ (by first | decide | omega | (dsimp only; omega) | (unfold CPow; decide) | (subst_vars; (try simp only [List.length_cons, List.length_nil, decide_eq_true_eq, decide_eq_false_iff_not, Bool.and_eq_true, Bool.or_eq_true, Bool.not_eq_true', CMul, CDiv, CPow, sizeLine_eq] at *); omega))) (ed_op (od_mul _ _ (by first | decide | omega | (dsimp only; omega) | (unfold CPow; decide) | (subst_vars; (try simp only [List.length_cons, List.length_nil, decide_eq_true_eq, decide_eq_false_iff_not, Bool.and_eq_true, Bool.or_eq_true, Bool.not_eq_true', CMul, CDiv, CPow, sizeLine_eq] at *); omega))) (ed_op (od_add _ _) (ed_op (od_mod _ _ (by first | decide | omega | (dsimp only; omega) | (unfold CPow; decide) | (subst_vars; (try simp only [List.length_cons, List.length_nil, decide_eq_true_eq, decide_eq_false_iff_not, Bool.and_eq_true, Bool.or_eq_true, Bool.not_eq_true', CMul, CDiv, CPow, sizeLine_eq] at *); omega))) (ed_op (od_div _ _ (by first | decide | omega | (dsimp only; omega) | (unfold CPow; decide) | (subst_vars; (try simp only [List.length_cons, List.length_nil, decide_eq_true_eq, decide_eq_false_iff_not, Bool.and_eq_true, Bool.or_eq_true, Bool.not_eq_true', CMul, CDiv, CPow, sizeLine_eq] at *); omega))) (ed_var 0 (hX.nm rfl) (hX.vs (vis_l lk_law_pick_law_cell_here)) rfl) ed_int) (ed_var 3 (hX.nm rfl) (hX.vs (vis_l lk_law_pick_law_great)) rfl)) ed_int) (ed_var 4 (hX.nm rfl) (hX.vs (vis_l lk_law_pick_law_by)) rfl)) (ed_var 3 (hX.nm rfl) (hX.vs (vis_l lk_law_pick_law_great)) rfl)) (fun v6 hv6 => (show BK X E ([.d (D.int a0), .d (D.int a1), .d (D.int a2), .d (D.int v3), .d (D.int v5), .d (D.int v6)] : List B) _ _ _ _ from (b_set 5 D.int hX rfl (loc_l lk_law_pick_law_one) (ed_op (od_mod _ _ (by first | decide | omega | (dsimp only; omega) | (unfold CPow; decide) | (subst_vars; (try simp only [List.length_cons, List.length_nil, decide_eq_true_eq, decide_eq_false_iff_not, Bool.and_eq_true, Bool.or_eq_true, Bool.not_eq_true', CMul, CDiv, CPow, sizeLine_eq] at *); omega))) (ed_op (od_mul _ _ (by first | decide | omega | (dsimp only; omega) | (unfold CPow; decide) | (subst_vars; (try simp only [List.length_cons, List.length_nil, decide_eq_true_eq, decide_eq_false_iff_not, Bool.and_eq_true, Bool.or_eq_true, Bool.not_eq_true', CMul, CDiv, CPow, sizeLine_eq] at *); omega))) (ed_var 5 (hX.nm rfl) (hX.vs (vis_l lk_law_pick_law_one)) rfl) (ed_var 5 (hX.nm rfl) (hX.vs (vis_l lk_law_pick_law_one)) rfl)) ed_int) (fun v7 hv7 => (show BK X E ([.d (D.int a0), .d (D.int a1), .d (D.int a2), .d (D.int v3), .d (D.int v5), .d (D.int v7)] : List B) _ _ _ _ from (b_ret (ed_op (od_mod _ _ (by first | decide | omega | (dsimp only; omega) | (unfold CPow; decide) | (subst_vars; (try simp only [List.length_cons, List.length_nil, decide_eq_true_eq, decide_eq_false_iff_not, Bool.and_eq_true, Bool.or_eq_true, Bool.not_eq_true', CMul, CDiv, CPow, sizeLine_eq] at *); omega))) (ed_op (od_div _ _ (by first | decide | omega | (dsimp only; omega) | (unfold CPow; decide) | (subst_vars; (try simp only [List.length_cons, List.length_nil, decide_eq_true_eq, decide_eq_false_iff_not, Bool.and_eq_true, Bool.or_eq_true, Bool.not_eq_true', CMul, CDiv, CPow, sizeLine_eq] at *); omega))) (ed_op (od_mod _ _ (by first | decide | omega | (dsimp only; omega) | (unfold CPow; decide) | (subst_vars; (try simp only [List.length_cons, List.length_nil, decide_eq_true_eq, decide_eq_false_iff_not, Bool.and_eq_true, Bool.or_eq_true, Bool.not_eq_true', CMul, CDiv, CPow, sizeLine_eq] at *); omega))) (ed_op (od_mul _ _ (by first | decide | omega | (dsimp only; omega) | (unfold CPow; decide) | (subst_vars; (try simp only [List.length_cons, List.length_nil, decide_eq_true_eq, decide_eq_false_iff_not, Bool.and_eq_true, Bool.or_eq_true, Bool.not_eq_true', CMul, CDiv, CPow, sizeLine_eq] at *); omega))) (ed_op (od_add _ _) (ed_op (od_add _ _) (ed_var 5 (hX.nm rfl) (hX.vs (vis_l lk_law_pick_law_one)) rfl) (ed_var 1 (hX.nm rfl) (hX.vs (vis_l lk_law_pick_law_k)) rfl)) ed_int) (ed_op (od_add _ _) (ed_op (od_div _ _ (by first | decide | omega | (dsimp only; omega) | (unfold CPow; decide) | (subst_vars; (try simp only [List.length_cons, List.length_nil, decide_eq_true_eq, decide_eq_false_iff_not, Bool.and_eq_true, Bool.or_eq_true, Bool.not_eq_true', CMul, CDiv, CPow, sizeLine_eq] at *); omega))) (ed_var 5 (hX.nm rfl) (hX.vs (vis_l lk_law_pick_law_one)) rfl) ed_int) ed_int)) ed_int) ed_int) (ed_var 2 (hX.nm rfl) (hX.vs (vis_l lk_law_pick_law_many)) rfl))))))))))))))))))))
def pickL (a0 : Int) (a1 : Int) (a2 : Int) : Int := outI (m_pick a0 a1 a2)
theorem m_pick_eq (a0 : Int) (a1 : Int) (a2 : Int) : m_pick a0 a1 a2 = .ret (.v (D.int (pickL a0 a1 a2))) := by
  unfold pickL
  exact (show ∀ c : Ctl Unit Empty, (∃ z, c = .ret (.v (D.int z))) → c = .ret (.v (D.int (outI c))) from fun c ⟨z, h⟩ => by rw [h]; rfl) _ (by unfold m_pick; (try simp only [bnd]); (repeat' split) <;> first | exact ⟨_, rfl⟩ | (exfalso; simp_all))
theorem pickL_lt (c k : Int) {m : Int} (h : 0 < m) : 0 ≤ pickL c k m ∧ pickL c k m < m := by
  unfold pickL m_pick
  simp only [bnd]
  split
  · exact ⟨Int.emod_nonneg _ (by omega), Int.emod_lt_of_pos _ h⟩
  · exact ⟨Int.emod_nonneg _ (by omega), Int.emod_lt_of_pos _ h⟩
theorem pick_ix {α : Type} {xs : List α} (c k : Int) (h : 0 < xs.length) : -(xs.length : Int) ≤ pickL c k xs.length ∧ pickL c k xs.length < xs.length := by
  have q := pickL_lt c k (m := (xs.length : Int)) (by omega)
  omega
abbrev sp_pick (K : PySem.W.Frag) : Sp := spF K (A := Int × Int × Int) (fun a => [(D.int a.1), (D.int a.2.1), (D.int a.2.2)]) (fun a => (0 ≤ a.2.1 ∧ a.2.1 < 40) ∧ 0 < a.2.2) (fun a => .v (D.int (pickL a.1 a.2.1 a.2.2)))
theorem ok_pick {P : Program} {w : World} {K : PySem.W.Frag} {mg : Str → Option Value} {base : Heap} {f : Addr} {fd : FuncData} (F : Fun K "_law_pick" "_law_pick" s_law_pick f fd) : FnOk P w K mg base (L2.CX P w) 1 f fd ["_law_cell_here", "_law_k", "_law_many"] (sp_pick K) := by
  refine def_ok F sc_law_pick (fun _ => rfl) (fun a hp X E e1 e2 e3 e4 e5 hX => ?_)
  subst e1 e2 e3 e4 e5
  have h := bd_pick X E hX a.1 a.2.1 a.2.2 hp
  rw [m_pick_eq a.1 a.2.1 a.2.2] at h
  exact h
abbrev s_law_name : Stmt := top 16
abbrev nm_law_name : List Str := ["_law_cell_here", "_law_letters", "_law_j"]
theorem sc_law_name : FnScope nm_law_name ["_law_cell_here"] (defScope s_law_name) := ⟨rfl, rfl, rfl, by decide +kernel, rfl, by decide +kernel, by decide +kernel⟩
theorem lk_law_name_law_cell_here : (defScope s_law_name).names.lookup ("_law_cell_here" : Str) = some .cell := by decide +kernel
theorem lk_law_name_law_letters : (defScope s_law_name).names.lookup ("_law_letters" : Str) = some .cell := by decide +kernel
theorem lk_law_name_law_pick : (defScope s_law_name).names.lookup ("_law_pick" : Str) = some .globalImplicit := by decide +kernel
theorem lk_law_name_range : (defScope s_law_name).names.lookup ("range" : Str) = some .globalImplicit := by decide +kernel
def m_name (a0 : Int) : Ctl Unit Empty := bnd ([97, 98, 99, 100, 101, 102, 103, 104, 105, 106, 107, 108, 109, 110, 111, 112, 113, 114, 115, 116, 117, 118, 119, 120, 121, 122] : (List Nat)) fun v1 => .ret (.v (D.str (joinS ([] : List Nat) (List.map (fun y2 : Int => [(ix v1 (pickL a0 ((31 : Int) + y2) (26 : Int)) 0)]) (rints 0 (((1 : Int) + (pickL a0 (30 : Int) (8 : Int)))).toNat)))))
theorem bd_name (X : Cx) (E : XK) (hX : XOk 1 nm_law_name (defScope s_law_name) X E) (m_range : X.mg "range" = none) (kn_pick : KnX X "_law_pick" 1 (sp_pick X.K)) (a0 : Int) : BK X E ([.d (D.int a0), .un, .un] : List B) (defBody s_law_name) (fun s : Unit => List.replicate 3 B.un) (fun s : Empty => nomatch s) (m_name a0) := by
  unfold m_name
  exact (b_set 1 D.str hX rfl (loc_c lk_law_name_law_letters) (ed_str [97, 98, 99, 100, 101, 102, 103, 104, 105, 106, 107, 108, 109, 110, 111, 112, 113, 114, 115, 116, 117, 118, 119, 120, 121, 122] (by decide +kernel)) (fun v1 hv1 => (show BK X E ([.d (D.int a0), .d (D.str v1), .un] : List B) _ _ _ _ from (b_ret (ed_join (ed_str [] (by decide +kernel)) (EvO.el (eo_lc hX.calm hX.nd (lc_ok0 (Yt := Int) (τ := (List Nat)) (encY := D.int) (enc := D.str) (g := (gName 2)) (js := [2]) (own := [("_law_j", 2)]) (rints 0 (((1 : Int) + (pickL a0 (30 : Int) (8 : Int)))).toNat) (fun y2 : Int => [(ix v1 (pickL a0 ((31 : Int) + y2) (26 : Int)) 0)]) (it_range1 (hX.gl lk_law_name_range) m_range (ed_op (od_add _ _) ed_int (ed_call ((a0, (30 : Int), (8 : Int)) : Int × Int × Int) kn_pick (hX.room.mono (by decide)) (hX.gl lk_law_name_law_pick) (ea_cons (ed_var 0 (hX.nm rfl) (hX.vs (vis_c lk_law_name_law_cell_here)) rfl) (ea_cons ed_int (ea_cons ed_int ea_nil))) (by first | decide | omega | (dsimp only; omega) | (dsimp only; omega) | (have q1 := rints_mem «hy»; have q2 := pickL_lt a0 30 (m := 8) (by decide); dsimp only; omega)) rfl)) (by first | decide | omega | (dsimp only; omega) | (subst hv1; decide) | (subst hv1; have q := pickL_lt a0 (31 + y2) (m := 26) (by decide); simp; omega) | (have q := pickL_lt a0 30 (m := 8) (by decide); first | omega | (simp only [rints_len]; rw [sizeLine_eq]; omega) | (refine name_join _ _ ?_; omega)))) (blk_ok hX (by decide +kernel)) (fun _ _ _ _ _ => (pg_name (i := 2) hX.nd (hX.nm rfl) (blk_lc hX (loc_l (by decide +kernel))) (.inr (blk_lk hX (by decide +kernel))))) (by decide) (by first | decide | omega | (dsimp only; omega) | (subst hv1; decide) | (subst hv1; have q := pickL_lt a0 (31 + y2) (m := 26) (by decide); simp; omega) | (have q := pickL_lt a0 30 (m := 8) (by decide); first | omega | (simp only [rints_len]; rw [sizeLine_eq]; omega) | (refine name_join _ _ ?_; omega))) (fun y2 : Int => ([.d (D.int a0), .d (D.str v1), .d (D.int y2)] : List B)) (fun y2 _ => (show TgD X.K (gName 2) [2] (wipeB ([.d (D.int a0), .d (D.str v1), .un] : List B) [2]) (D.int y2) ([.d (D.int a0), .d (D.str v1), .d (D.int y2)] : List B) from (tg_name 2))) (fun y2 hy3 _ _ _ _ _ => (ed_ixS (ed_var 1 (hX.nm rfl) (blk_vs hX (vis_c (by decide +kernel))) rfl) (ed_call ((a0, ((31 : Int) + y2), (26 : Int)) : Int × Int × Int) kn_pick (hX.room.mono (by decide)) (blk_gl hX (by decide +kernel)) (ea_cons (ed_var 0 (hX.nm rfl) (blk_vs hX (vis_c (by decide +kernel))) rfl) (ea_cons (ed_op (od_add _ _) ed_int (ed_var 2 (hX.nm rfl) (blk_vs hX (vis_l (by decide +kernel))) rfl)) (ea_cons ed_int ea_nil))) (by first | decide | omega | (dsimp only; omega) | (dsimp only; omega) | (have q1 := rints_mem hy3; have q2 := pickL_lt a0 30 (m := 8) (by decide); dsimp only; omega)) rfl) (ix_ok (d := 0) (by first | decide | omega | (dsimp only; omega) | (subst hv1; decide) | (subst hv1; have q := pickL_lt a0 (31 + y2) (m := 26) (by decide); simp; omega) | (have q := pickL_lt a0 30 (m := 8) (by decide); first | omega | (simp only [rints_len]; rw [sizeLine_eq]; omega) | (refine name_join _ _ ?_; omega)))) (by first | decide | omega | (dsimp only; omega) | (subst hv1; decide) | (subst hv1; have q := pickL_lt a0 (31 + y2) (m := 26) (by decide); simp; omega) | (have q := pickL_lt a0 30 (m := 8) (by decide); first | omega | (simp only [rints_len]; rw [sizeLine_eq]; omega) | (refine name_join _ _ ?_; omega)))))))) (by first | decide | omega | (dsimp only; omega) | (subst hv1; decide) | (subst hv1; have q := pickL_lt a0 (31 + y2) (m := 26) (by decide); simp; omega) | (have q := pickL_lt a0 30 (m := 8) (by decide); first | omega | (simp only [rints_len]; rw [sizeLine_eq]; omega) | (refine name_join _ _ ?_; omega))))))))
def nameL (a0 : Int) : (List Nat) := outS (m_name a0)
theorem m_name_eq (a0 : Int) : m_name a0 = .ret (.v (D.str (nameL a0))) := by
  unfold nameL
  exact (show ∀ c : Ctl Unit Empty, (∃ z, c = .ret (.v (D.str z))) → c = .ret (.v (D.str (outS c))) from fun c ⟨z, h⟩ => by rw [h]; rfl) _ (by unfold m_name; (try simp only [bnd]); (repeat' split) <;> first | exact ⟨_, rfl⟩ | (exfalso; simp_all))
def letters : List Nat := [97, 98, 99, 100, 101, 102, 103, 104, 105, 106, 107, 108, 109, 110, 111, 112, 113, 114, 115, 116, 117, 118, 119, 120, 121, 122]
theorem nameL_eq (c : Int) : nameL c = ((rints 0 (1 + pickL c 30 8).toNat).map fun y => ix letters (pickL c (31 + y) 26) 0) := by
  unfold nameL m_name
  show joinS ([] : List Nat) _ = _
  rw [joinS_nil]
  induction rints 0 (1 + pickL c 30 8).toNat with
  | nil => rfl
  | cons x xs ih =>
    rw [List.map_cons, List.flatten_cons, ih]
    rfl
theorem nameL_ok (c : Int) : 0 < (nameL c).length ∧ (nameL c).length ≤ 8 ∧ ∀ x ∈ nameL c, x ∈ letters := by
  have q := pickL_lt c 30 (m := 8) (by decide)
  rw [nameL_eq, List.length_map, rints_len]
  refine ⟨by omega, by omega, fun x hx => ?_⟩
  obtain ⟨y, _, rfl⟩ := List.mem_map.mp hx
  have q := pickL_lt c (31 + y) (m := 26) (by decide)
  exact ix_mem 0 (by show -(26 : Int) ≤ _ ∧ _ < (26 : Int); omega)
theorem nameL_dot (c : Int) : 46 ∉ nameL c := fun h => by
  have := (nameL_ok c).2.2 46 h
  revert this
  decide
abbrev sp_name (K : PySem.W.Frag) : Sp := spF K (A := Int) (fun a => [(D.int a)]) (fun a => True) (fun a => .v (D.str (nameL a)))
theorem ok_name {P : Program} {w : World} {K : PySem.W.Frag} {mg : Str → Option Value} {base : Heap} {f : Addr} {fd : FuncData} (F : Fun K "_law_name" "_law_name" s_law_name f fd) (m_range : mg "range" = none) (kn_pick : Kn P w K mg base "_law_pick" 1 (sp_pick K)) : FnOk P w K mg base (L2.CX P w) 2 f fd ["_law_cell_here"] (sp_name K) := by
  refine def_ok F sc_law_name (fun _ => rfl) (fun a hp X E e1 e2 e3 e4 e5 hX => ?_)
  subst e1 e2 e3 e4 e5
  have h := bd_name X E hX m_range kn_pick a
  rw [m_name_eq a] at h
  exact h
abbrev s_law_label : Stmt := top 17
abbrev nm_law_label : List Str := ["_law_cell_here", "_law_some"]
theorem sc_law_label : FnScope nm_law_label ["_law_cell_here"] (defScope s_law_label) := ⟨rfl, rfl, rfl, by decide +kernel, rfl, by decide +kernel, by decide +kernel⟩
theorem lk_law_label_law_cell_here : (defScope s_law_label).names.lookup ("_law_cell_here" : Str) = some .local := by decide +kernel
theorem lk_law_label_law_name : (defScope s_law_label).names.lookup ("_law_name" : Str) = some .globalImplicit := by decide +kernel
theorem lk_law_label_law_pick : (defScope s_law_label).names.lookup ("_law_pick" : Str) = some .globalImplicit := by decide +kernel
theorem lk_law_label_law_some : (defScope s_law_label).names.lookup ("_law_some" : Str) = some .local := by decide +kernel
def m_label (a0 : Int) : Ctl Unit Empty := bnd (([[108, 101, 116], [100, 101, 101, 100], [98, 101], [100, 114, 97, 119], [108, 97, 116, 101], [97, 115], [116, 97, 107, 101], [102, 114, 111, 109], [110, 101, 101, 100], [112, 97, 114, 116]] : List (List Nat)) : (List (List Nat))) fun v1 => if (decide ((pickL a0 (28 : Int) (5 : Int)) = (0 : Int))) = true then Ctl.up (.ret (.v (D.str (ix v1 (pickL a0 (29 : Int) (10 : Int)) [])))) else .ret (.v (D.str (nameL a0)))
theorem bd_label (X : Cx) (E : XK) (hX : XOk 2 nm_law_label (defScope s_law_label) X E) (kn_name : KnX X "_law_name" 2 (sp_name X.K)) (kn_pick : KnX X "_law_pick" 1 (sp_pick X.K)) (a0 : Int) : BK X E ([.d (D.int a0), .un] : List B) (defBody s_law_label) (fun s : Unit => List.replicate 2 B.un) (fun s : Empty => nomatch s) (m_label a0) := by
  unfold m_label
  exact (b_setO 1 (fun z : (List (List Nat)) => OO.lst (List.map D.str z)) hX rfl (loc_l lk_law_label_law_some) (eo_lst (ea_cons (ed_str [108, 101, 116] (by decide +kernel)) (ea_cons (ed_str [100, 101, 101, 100] (by decide +kernel)) (ea_cons (ed_str [98, 101] (by decide +kernel)) (ea_cons (ed_str [100, 114, 97, 119] (by decide +kernel)) (ea_cons (ed_str [108, 97, 116, 101] (by decide +kernel)) (ea_cons (ed_str [97, 115] (by decide +kernel)) (ea_cons (ed_str [116, 97, 107, 101] (by decide +kernel)) (ea_cons (ed_str [102, 114, 111, 109] (by decide +kernel)) (ea_cons (ed_str [110, 101, 101, 100] (by decide +kernel)) (ea_cons (ed_str [112, 97, 114, 116] (by decide +kernel)) ea_nil)))))))))) (by show 10 ≤ sizeLine; decide)) (fun v1 hv1 => (show BK X E ([.d (D.int a0), .own (.lst (List.map D.str v1))] : List B) _ _ _ _ from (b_ifr (et_cmp (od_eqI _ _) (ed_call ((a0, (28 : Int), (5 : Int)) : Int × Int × Int) kn_pick (hX.room.mono (by decide)) (hX.gl lk_law_label_law_pick) (ea_cons (ed_var 0 (hX.nm rfl) (hX.vs (vis_l lk_law_label_law_cell_here)) rfl) (ea_cons ed_int (ea_cons ed_int ea_nil))) (by first | decide | omega | (unfold CMul; omega) | (dsimp only; omega) | (rw [sizeLine_eq]; omega) | (subst_vars; have q := pickL_lt a0 29 (m := 10) (by decide); simp only [List.length_cons, List.length_nil]; omega)) rfl) ed_int) (fun h2 => (b_ret (ed_ixL (el_own 1 (hX.nm rfl) (hX.vs (vis_l lk_law_label_law_some)) rfl) (ed_call ((a0, (29 : Int), (10 : Int)) : Int × Int × Int) kn_pick (hX.room.mono (by decide)) (hX.gl lk_law_label_law_pick) (ea_cons (ed_var 0 (hX.nm rfl) (hX.vs (vis_l lk_law_label_law_cell_here)) rfl) (ea_cons ed_int (ea_cons ed_int ea_nil))) (by first | decide | omega | (unfold CMul; omega) | (dsimp only; omega) | (rw [sizeLine_eq]; omega) | (subst_vars; have q := pickL_lt a0 29 (m := 10) (by decide); simp only [List.length_cons, List.length_nil]; omega)) rfl) (atI_map (f := D.str) (xs := v1) (ix_ok (d := []) (by first | decide | omega | (unfold CMul; omega) | (dsimp only; omega) | (rw [sizeLine_eq]; omega) | (subst_vars; have q := pickL_lt a0 29 (m := 10) (by decide); simp only [List.length_cons, List.length_nil]; omega))))))) (fun h2 => (b_ret (ed_call a0 kn_name (hX.room.mono (by decide)) (hX.gl lk_law_label_law_name) (ea_cons (ed_var 0 (hX.nm rfl) (hX.vs (vis_l lk_law_label_law_cell_here)) rfl) ea_nil) trivial rfl)))))))
def labelWs : List (List Nat) := [[108, 101, 116], [100, 101, 101, 100], [98, 101], [100, 114, 97, 119], [108, 97, 116, 101], [97, 115], [116, 97, 107, 101], [102, 114, 111, 109], [110, 101, 101, 100], [112, 97, 114, 116]]
def labelL (c : Int) : List Nat := if decide (pickL c 28 5 = 0) = true then ix labelWs (pickL c 29 10) [] else nameL c
theorem m_label_eq (c : Int) : m_label c = .ret (.v (.str (labelL c))) := by
  unfold m_label labelL
  simp only [bnd]
  cases decide (pickL c 28 5 = 0) <;> rfl
theorem labelL_ok (c : Int) : 0 < (labelL c).length ∧ (labelL c).length ≤ 8 ∧ ∀ x ∈ labelL c, x ∈ LETTERS := by
  unfold labelL
  split
  · have q := pickL_lt c 29 (m := 10) (by decide)
    exact ix_all (P := fun l : List Nat => 0 < l.length ∧ l.length ≤ 8 ∧ ∀ x ∈ l, x ∈ LETTERS) (xs := labelWs) (by decide) (by show -(10 : Int) ≤ _ ∧ _ < (10 : Int); omega)
  · exact nameL_ok c
abbrev addrNs (c : Int) : List (List Nat) := List.map (fun y : Int => labelL (subL c y)) (rints 0 (1 + pickL c 27 3).toNat)
theorem addr_n (c : Int) : (0 < (addrNs c).length ∧ (addrNs c).length ≤ 3) ∧ ((addrNs c).map (·.length)).sum + (addrNs c).length * ([46] : List Nat).length ≤ 16777216 ∧ (joinS [46] (addrNs c)).length ≤ 27 := by
  have q := pickL_lt c 27 (m := 3) (by decide)
  have h1 : (addrNs c).length = (1 + pickL c 27 3).toNat := by rw [List.length_map, rints_len]
  have h2 : ∀ x ∈ addrNs c, x.length ≤ 8 := fun x hx => by
    obtain ⟨y, _, rfl⟩ := List.mem_map.mp hx
    exact (labelL_ok _).2.1
  exact ⟨by omega, join_ok (n := 8) (m := 3) (k := 1) h2 (by omega) (Nat.le_refl 1) (by decide), joinS_len (n := 8) (m := 3) (k := 1) h2 (by omega) (Nat.le_refl 1)⟩
abbrev sp_label (K : PySem.W.Frag) : Sp := spF K (A := Int) (fun a => [(D.int a)]) (fun a => True) (fun a => .v (D.str (labelL a)))
theorem ok_label {P : Program} {w : World} {K : PySem.W.Frag} {mg : Str → Option Value} {base : Heap} {f : Addr} {fd : FuncData} (F : Fun K "_law_label" "_law_label" s_law_label f fd) (kn_name : Kn P w K mg base "_law_name" 2 (sp_name K)) (kn_pick : Kn P w K mg base "_law_pick" 1 (sp_pick K)) : FnOk P w K mg base (L2.CX P w) 3 f fd ["_law_cell_here"] (sp_label K) := by
  refine def_ok F sc_law_label (fun _ => rfl) (fun a hp X E e1 e2 e3 e4 e5 hX => ?_)
  subst e1 e2 e3 e4 e5
  have h := bd_label X E hX kn_name kn_pick a
  rw [m_label_eq a] at h
  exact h
abbrev s_law_address : Stmt := top 18
abbrev nm_law_address : List Str := ["_law_cell_here", "_law_j"]
theorem sc_law_address : FnScope nm_law_address ["_law_cell_here"] (defScope s_law_address) := ⟨rfl, rfl, rfl, by decide +kernel, rfl, by decide +kernel, by decide +kernel⟩
theorem lk_law_address_law_cell_here : (defScope s_law_address).names.lookup ("_law_cell_here" : Str) = some .cell := by decide +kernel
theorem lk_law_address_law_pick : (defScope s_law_address).names.lookup ("_law_pick" : Str) = some .globalImplicit := by decide +kernel
theorem lk_law_address_range : (defScope s_law_address).names.lookup ("range" : Str) = some .globalImplicit := by decide +kernel
def m_address (a0 : Int) : Ctl Unit Empty := .ret (.v (D.str (joinS [46] (List.map (fun y1 : Int => (labelL (subL a0 y1))) (rints 0 (((1 : Int) + (pickL a0 (27 : Int) (3 : Int)))).toNat)))))
theorem bd_address (X : Cx) (E : XK) (hX : XOk 3 nm_law_address (defScope s_law_address) X E) (m_range : X.mg "range" = none) (kn_label : KnX X "_law_label" 3 (sp_label X.K)) (kn_pick : KnX X "_law_pick" 1 (sp_pick X.K)) (kn_sub : KnX X "_law_sub" 1 (sp_sub X.K)) (a0 : Int) : BK X E ([.d (D.int a0), .un] : List B) (defBody s_law_address) (fun s : Unit => List.replicate 2 B.un) (fun s : Empty => nomatch s) (m_address a0) := by
  unfold m_address
  exact (b_ret (ed_join (ed_str [46] (by decide +kernel)) (EvO.el (eo_lc hX.calm hX.nd (lc_ok0 (Yt := Int) (τ := (List Nat)) (encY := D.int) (enc := D.str) (g := (gName 1)) (js := [1]) (own := [("_law_j", 1)]) (rints 0 (((1 : Int) + (pickL a0 (27 : Int) (3 : Int)))).toNat) (fun y1 : Int => (labelL (subL a0 y1))) (it_range1 (hX.gl lk_law_address_range) m_range (ed_op (od_add _ _) ed_int (ed_call ((a0, (27 : Int), (3 : Int)) : Int × Int × Int) kn_pick (hX.room.mono (by decide)) (hX.gl lk_law_address_law_pick) (ea_cons (ed_var 0 (hX.nm rfl) (hX.vs (vis_c lk_law_address_law_cell_here)) rfl) (ea_cons ed_int (ea_cons ed_int ea_nil))) (by first | decide | omega | (unfold CMul; omega) | (dsimp only; omega) | (rw [sizeLine_eq]; omega) | (have q := pickL_lt a0 27 (m := 3) (by decide); first | (simp only [rints_len]; rw [sizeLine_eq]; omega) | (have q1 := rints_mem «hy»; dsimp only; omega) | exact (addr_n _).2.1 | omega)) rfl)) (by first | decide | omega | (unfold CMul; omega) | (dsimp only; omega) | (rw [sizeLine_eq]; omega) | (have q := pickL_lt a0 27 (m := 3) (by decide); first | (simp only [rints_len]; rw [sizeLine_eq]; omega) | (have q1 := rints_mem «hy»; dsimp only; omega) | exact (addr_n _).2.1 | omega))) (blk_ok hX (by decide +kernel)) (fun _ _ _ _ _ => (pg_name (i := 1) hX.nd (hX.nm rfl) (blk_lc hX (loc_l (by decide +kernel))) (.inr (blk_lk hX (by decide +kernel))))) (by decide) (by first | decide | omega | (unfold CMul; omega) | (dsimp only; omega) | (rw [sizeLine_eq]; omega) | (have q := pickL_lt a0 27 (m := 3) (by decide); first | (simp only [rints_len]; rw [sizeLine_eq]; omega) | (have q1 := rints_mem hy2; dsimp only; omega) | exact (addr_n _).2.1 | omega)) (fun y1 : Int => ([.d (D.int a0), .d (D.int y1)] : List B)) (fun y1 _ => (show TgD X.K (gName 1) [1] (wipeB ([.d (D.int a0), .un] : List B) [1]) (D.int y1) ([.d (D.int a0), .d (D.int y1)] : List B) from (tg_name 1))) (fun y1 hy2 _ _ _ _ _ => (ed_call (subL a0 y1) kn_label (hX.room.mono (by decide)) (blk_gl hX (by decide +kernel)) (ea_cons (ed_call ((a0, y1) : Int × Int) kn_sub (hX.room.mono (by decide)) (blk_gl hX (by decide +kernel)) (ea_cons (ed_var 0 (hX.nm rfl) (blk_vs hX (vis_c (by decide +kernel))) rfl) (ea_cons (ed_var 1 (hX.nm rfl) (blk_vs hX (vis_l (by decide +kernel))) rfl) ea_nil)) (by first | decide | omega | (unfold CMul; omega) | (dsimp only; omega) | (rw [sizeLine_eq]; omega) | (have q := pickL_lt a0 27 (m := 3) (by decide); first | (simp only [rints_len]; rw [sizeLine_eq]; omega) | (have q1 := rints_mem hy2; dsimp only; omega) | exact (addr_n _).2.1 | omega)) rfl) ea_nil) trivial rfl))))) (by first | decide | omega | (unfold CMul; omega) | (dsimp only; omega) | (rw [sizeLine_eq]; omega) | (have q := pickL_lt a0 27 (m := 3) (by decide); first | (simp only [rints_len]; rw [sizeLine_eq]; omega) | (have q1 := rints_mem «hy»; dsimp only; omega) | exact (addr_n _).2.1 | omega))))
def addressL (a0 : Int) : (List Nat) := outS (m_address a0)
theorem m_address_eq (a0 : Int) : m_address a0 = .ret (.v (D.str (addressL a0))) := by
  unfold addressL
  exact (show ∀ c : Ctl Unit Empty, (∃ z, c = .ret (.v (D.str z))) → c = .ret (.v (D.str (outS c))) from fun c ⟨z, h⟩ => by rw [h]; rfl) _ (by unfold m_address; (try simp only [bnd]); (repeat' split) <;> first | exact ⟨_, rfl⟩ | (exfalso; simp_all))
abbrev Tm := Int × List Nat × D
abbrev NUM : List Nat := [110, 117, 109, 98, 101, 114]
abbrev PATH : List Nat := [112, 97, 116, 104]
abbrev CALL : List Nat := [99, 97, 108, 108]
abbrev encT : Tm → D := fun z : (Int × List Nat × D) => (D.tup [(D.int z.1), (D.str z.2.1), z.2.2])
structure Names4 (ns : List (List Nat)) : Prop where
  pos : 0 < ns.length
  few : ns.length ≤ 4
  short : ∀ x ∈ ns, 0 < x.length ∧ x.length ≤ 8
  ltr : ∀ x ∈ ns, ∀ c ∈ x, c ∈ LETTERS
structure TermOk (t : Tm) : Prop where
  sg : t.1 = 1 ∨ t.1 = -1
  th : (t.2.1 = NUM ∧ ∃ n : Nat, t.2.2 = D.int n ∧ n < 10 ^ 20) ∨ ((t.2.1 = PATH ∨ t.2.1 = CALL) ∧ ∃ ns, t.2.2 = D.tup (ns.map D.str) ∧ Names4 ns)
structure TermsOk (ts : List Tm) : Prop where
  pos : 0 < ts.length
  few : ts.length ≤ 6
  all : ∀ t ∈ ts, TermOk t
  first : ∀ t, ts[0]? = some t → t.1 = 1
theorem map_asS (ns : List (List Nat)) : asSs (D.tup (ns.map D.str)) = ns := by
  show (ns.map D.str).map asS = ns
  rw [List.map_map]
  exact List.map_id ns
theorem NUM_ne : PATH ≠ NUM ∧ CALL ≠ NUM ∧ PATH ≠ CALL := by decide
theorem TermOk.num {t : Tm} (h : TermOk t) (e : decide (t.2.1 = NUM) = true) : ∃ n : Nat, t.2.2 = D.int n ∧ n < 10 ^ 20 := by
  rcases h.th with ⟨_, h⟩ | ⟨h1, _⟩
  · exact h
  · rw [of_decide_eq_true e] at h1
    rcases h1 with h1 | h1 <;> exact absurd h1 (by decide)
theorem TermOk.nam {t : Tm} (h : TermOk t) (e : decide (t.2.1 = NUM) = false) : ∃ ns, t.2.2 = D.tup (ns.map D.str) ∧ Names4 ns := by
  rcases h.th with ⟨h1, _⟩ | ⟨_, h⟩
  · exact absurd h1 (of_decide_eq_false e)
  · exact h
theorem TermOk.castI {t : Tm} (h : TermOk t) (e : decide (t.2.1 = NUM) = true) : t.2.2 = D.int (asI t.2.2) := by
  obtain ⟨n, h1, _⟩ := h.num e
  rw [h1]
  rfl
theorem TermOk.castS {t : Tm} (h : TermOk t) (e : decide (t.2.1 = NUM) = false) : t.2.2 = D.tup (List.map D.str (asSs t.2.2)) := by
  obtain ⟨ns, h1, _⟩ := h.nam e
  rw [h1, map_asS]
theorem log_lt {n : Nat} (h : n < 10 ^ 20) : (n : Int).natAbs.log2 < 1920 := by
  rw [Int.natAbs_natCast]
  by_cases h0 : n = 0
  · subst h0
    decide
  · exact (Nat.log2_lt h0).mpr (Nat.lt_of_lt_of_le h (by decide +kernel))
theorem TermOk.log {t : Tm} (h : TermOk t) (e : decide (t.2.1 = NUM) = true) : (asI t.2.2).natAbs.log2 < 1920 := by
  obtain ⟨n, h1, h2⟩ := h.num e
  rw [h1]
  exact log_lt h2
theorem Names4.jok {ns : List (List Nat)} (h : Names4 ns) : (ns.map (·.length)).sum + ns.length * ([46] : List Nat).length ≤ 16777216 := join_ok (n := 8) (m := 4) (k := 1) (fun x hx => (h.short x hx).2) h.few (Nat.le_refl 1) (by decide)
theorem Names4.jlen {ns : List (List Nat)} (h : Names4 ns) : (joinS [46] ns).length ≤ 36 := joinS_len (n := 8) (m := 4) (k := 1) (fun x hx => (h.short x hx).2) h.few (Nat.le_refl 1)
theorem TermOk.jok {t : Tm} (h : TermOk t) (e : decide (t.2.1 = NUM) = false) : ((asSs t.2.2).map (·.length)).sum + (asSs t.2.2).length * ([46] : List Nat).length ≤ 16777216 := by
  obtain ⟨ns, h1, h2⟩ := h.nam e
  rw [h1, map_asS]
  exact h2.jok
theorem TermOk.jlen {t : Tm} (h : TermOk t) (e : decide (t.2.1 = NUM) = false) : (joinS [46] (asSs t.2.2)).length ≤ 36 := by
  obtain ⟨ns, h1, h2⟩ := h.nam e
  rw [h1, map_asS]
  exact h2.jlen
theorem LETTERS_eq : LETTERS = letters := rfl
theorem ltr_lt {c : Nat} (h : c ∈ LETTERS) : 97 ≤ c ∧ c ≤ 122 := by
  unfold LETTERS at h
  simp only [List.mem_cons, List.not_mem_nil, or_false] at h
  omega
theorem eqk_str {n : Nat} {l : List Nat} : Sd.eqk n (D.str l) = chrOk l := by cases n <;> rfl
theorem Names4.eqk {ns : List (List Nat)} (h : Names4 ns) {n : Nat} : Sd.eqk (n + 1) (D.tup (ns.map D.str)) = true := by
  show (ns.map D.str).all (Sd.eqk n) = true
  rw [List.all_map, List.all_eq_true]
  intro x hx
  show Sd.eqk n (D.str x) = true
  rw [eqk_str]
  unfold chrOk
  rw [List.all_eq_true]
  intro c hc
  have := ltr_lt (h.ltr x hx c hc)
  exact decide_eq_true (by omega)
theorem TermOk.eqk {t : Tm} (h : TermOk t) : Sd.eqk 7 (encT t) = true := by
  have h1 : chrOk t.2.1 = true := by
    rcases h.th with ⟨h1, _⟩ | ⟨h1 | h1, _⟩ <;> rw [h1] <;> decide
  have h2 : Sd.eqk 6 t.2.2 = true := by
    rcases h.th with ⟨_, n, h2, _⟩ | ⟨_, ns, h2, h3⟩
    · rw [h2]
      rfl
    · rw [h2]
      exact h3.eqk
  show (true && (chrOk t.2.1 && (Sd.eqk 6 t.2.2 && true))) = true
  rw [h1, h2]
  rfl
theorem TermOk.eqk8 {t : Tm} (h : TermOk t) : Sd.eqk 8 (encT t) = true := by
  have h1 : chrOk t.2.1 = true := by
    rcases h.th with ⟨h1, _⟩ | ⟨h1 | h1, _⟩ <;> rw [h1] <;> decide
  have h2 : Sd.eqk 7 t.2.2 = true := by
    rcases h.th with ⟨_, n, h2, _⟩ | ⟨_, ns, h2, h3⟩
    · rw [h2]
      rfl
    · rw [h2]
      exact h3.eqk
  show (true && (chrOk t.2.1 && (Sd.eqk 7 t.2.2 && true))) = true
  rw [h1, h2]
  rfl
theorem TermsOk.eqk {ts : List Tm} (h : TermsOk ts) : Sd.eqk 8 (D.lst (ts.map encT)) = true := by
  show (ts.map encT).all (Sd.eqk 7) = true
  rw [List.all_map, List.all_eq_true]
  exact fun t ht => (h.all t ht).eqk
theorem TermOk.plain {t : Tm} (h : TermOk t) : plainT t.2.2 = true := by
  rcases h.th with ⟨_, n, h2, _⟩ | ⟨_, ns, h2, _⟩ <;> rw [h2] <;> rfl
theorem if_ix {α : Type} {xs : List α} {b : Bool} (h : 2 ≤ xs.length) : -(xs.length : Int) ≤ (if b = true then 1 else 0 : Int) ∧ (if b = true then 1 else 0 : Int) < (xs.length : Int) := by
  cases b <;> simp <;> omega
theorem far_pos (c : Int) : 0 < ix ([10, 1000, (10 : Int) ^ ((10 : Int)).toNat, (10 : Int) ^ ((20 : Int)).toNat] : List Int) (pickL c 3 4) 0 ∧ ix ([10, 1000, (10 : Int) ^ ((10 : Int)).toNat, (10 : Int) ^ ((20 : Int)).toNat] : List Int) (pickL c 3 4) 0 ≤ 10 ^ 20 := by
  have q := pickL_lt c 3 (m := 4) (by decide)
  exact ix_all (P := fun x : Int => 0 < x ∧ x ≤ 10 ^ 20) (by decide +kernel) (by show -(4 : Int) ≤ _ ∧ _ < (4 : Int); omega)
abbrev sp_address (K : PySem.W.Frag) : Sp := spF K (A := Int) (fun a => [(D.int a)]) (fun a => True) (fun a => .v (D.str (addressL a)))
theorem ok_address {P : Program} {w : World} {K : PySem.W.Frag} {mg : Str → Option Value} {base : Heap} {f : Addr} {fd : FuncData} (F : Fun K "_law_address" "_law_address" s_law_address f fd) (m_range : mg "range" = none) (kn_label : Kn P w K mg base "_law_label" 3 (sp_label K)) (kn_pick : Kn P w K mg base "_law_pick" 1 (sp_pick K)) (kn_sub : Kn P w K mg base "_law_sub" 1 (sp_sub K)) : FnOk P w K mg base (L2.CX P w) 4 f fd ["_law_cell_here"] (sp_address K) := by
  refine def_ok F sc_law_address (fun _ => rfl) (fun a hp X E e1 e2 e3 e4 e5 hX => ?_)
  subst e1 e2 e3 e4 e5
  have h := bd_address X E hX m_range kn_label kn_pick kn_sub a
  rw [m_address_eq a] at h
  exact h
abbrev s_law_term : Stmt := top 19
abbrev nm_law_term : List Str := ["_law_cell_here", "_law_first", "_law_sign", "_law_way", "_law_far", "_law_names", "_law_j"]
theorem sc_law_term : FnScope nm_law_term ["_law_cell_here", "_law_first"] (defScope s_law_term) := ⟨rfl, rfl, rfl, by decide +kernel, rfl, by decide +kernel, by decide +kernel⟩
theorem lk_law_term_int : (defScope s_law_term).names.lookup ("int" : Str) = some .globalImplicit := by decide +kernel
theorem lk_law_term_law_cell_here : (defScope s_law_term).names.lookup ("_law_cell_here" : Str) = some .cell := by decide +kernel
theorem lk_law_term_law_far : (defScope s_law_term).names.lookup ("_law_far" : Str) = some .local := by decide +kernel
theorem lk_law_term_law_first : (defScope s_law_term).names.lookup ("_law_first" : Str) = some .local := by decide +kernel
theorem lk_law_term_law_names : (defScope s_law_term).names.lookup ("_law_names" : Str) = some .local := by decide +kernel
theorem lk_law_term_law_number : (defScope s_law_term).names.lookup ("_law_number" : Str) = some .globalImplicit := by decide +kernel
theorem lk_law_term_law_pick : (defScope s_law_term).names.lookup ("_law_pick" : Str) = some .globalImplicit := by decide +kernel
theorem lk_law_term_law_sign : (defScope s_law_term).names.lookup ("_law_sign" : Str) = some .local := by decide +kernel
theorem lk_law_term_law_way : (defScope s_law_term).names.lookup ("_law_way" : Str) = some .local := by decide +kernel
theorem lk_law_term_range : (defScope s_law_term).names.lookup ("range" : Str) = some .globalImplicit := by decide +kernel
theorem lk_law_term_tuple : (defScope s_law_term).names.lookup ("tuple" : Str) = some .globalImplicit := by decide +kernel
def m_term (a0 : Int) (a1 : Bool) : Ctl Unit Empty := bnd ((ix ([(1 : Int), ((1 : Int) - ((2 : Int) * (pickL a0 (1 : Int) (2 : Int))))] : List Int) (if (!a1) = true then 1 else 0 : Int) 0) : Int) fun v1 => bnd ((pickL a0 (2 : Int) (4 : Int)) : Int) fun v2 => if (decide (v2 = (0 : Int))) = true then Ctl.up (bnd ((ix ([(10 : Int), (1000 : Int), ((10 : Int) ^ ((10 : Int)).toNat), ((10 : Int) ^ ((20 : Int)).toNat)] : List Int) (pickL a0 (3 : Int) (4 : Int)) 0) : Int) fun v4 => .ret (.v (D.tup [(D.int ((v1, [110, 117, 109, 98, 101, 114], (ix ([(numberL a0 v4), (0 : Int), (v4 - (1 : Int))] : List Int) (pickL a0 (4 : Int) (3 : Int)) 0)).1, (v1, [110, 117, 109, 98, 101, 114], (ix ([(numberL a0 v4), (0 : Int), (v4 - (1 : Int))] : List Int) (pickL a0 (4 : Int) (3 : Int)) 0)).2.1, (D.int (v1, [110, 117, 109, 98, 101, 114], (ix ([(numberL a0 v4), (0 : Int), (v4 - (1 : Int))] : List Int) (pickL a0 (4 : Int) (3 : Int)) 0)).2.2)).1), (D.str ((v1, [110, 117, 109, 98, 101, 114], (ix ([(numberL a0 v4), (0 : Int), (v4 - (1 : Int))] : List Int) (pickL a0 (4 : Int) (3 : Int)) 0)).1, (v1, [110, 117, 109, 98, 101, 114], (ix ([(numberL a0 v4), (0 : Int), (v4 - (1 : Int))] : List Int) (pickL a0 (4 : Int) (3 : Int)) 0)).2.1, (D.int (v1, [110, 117, 109, 98, 101, 114], (ix ([(numberL a0 v4), (0 : Int), (v4 - (1 : Int))] : List Int) (pickL a0 (4 : Int) (3 : Int)) 0)).2.2)).2.1), ((v1, [110, 117, 109, 98, 101, 114], (ix ([(numberL a0 v4), (0 : Int), (v4 - (1 : Int))] : List Int) (pickL a0 (4 : Int) (3 : Int)) 0)).1, (v1, [110, 117, 109, 98, 101, 114], (ix ([(numberL a0 v4), (0 : Int), (v4 - (1 : Int))] : List Int) (pickL a0 (4 : Int) (3 : Int)) 0)).2.1, (D.int (v1, [110, 117, 109, 98, 101, 114], (ix ([(numberL a0 v4), (0 : Int), (v4 - (1 : Int))] : List Int) (pickL a0 (4 : Int) (3 : Int)) 0)).2.2)).2.2]))) else bnd ((List.map (fun y6 : Int => (labelL (subL a0 y6))) (rints 0 (((1 : Int) + (pickL a0 (5 : Int) (4 : Int)))).toNat)) : (List (List Nat))) fun v5 => .ret (.v (D.tup [(D.int ((v1, (ix ([[112, 97, 116, 104], [99, 97, 108, 108]] : List (List Nat)) (if (decide (v2 = (3 : Int))) = true then 1 else 0 : Int) []), v5).1, (v1, (ix ([[112, 97, 116, 104], [99, 97, 108, 108]] : List (List Nat)) (if (decide (v2 = (3 : Int))) = true then 1 else 0 : Int) []), v5).2.1, (D.tup (List.map D.str (v1, (ix ([[112, 97, 116, 104], [99, 97, 108, 108]] : List (List Nat)) (if (decide (v2 = (3 : Int))) = true then 1 else 0 : Int) []), v5).2.2))).1), (D.str ((v1, (ix ([[112, 97, 116, 104], [99, 97, 108, 108]] : List (List Nat)) (if (decide (v2 = (3 : Int))) = true then 1 else 0 : Int) []), v5).1, (v1, (ix ([[112, 97, 116, 104], [99, 97, 108, 108]] : List (List Nat)) (if (decide (v2 = (3 : Int))) = true then 1 else 0 : Int) []), v5).2.1, (D.tup (List.map D.str (v1, (ix ([[112, 97, 116, 104], [99, 97, 108, 108]] : List (List Nat)) (if (decide (v2 = (3 : Int))) = true then 1 else 0 : Int) []), v5).2.2))).2.1), ((v1, (ix ([[112, 97, 116, 104], [99, 97, 108, 108]] : List (List Nat)) (if (decide (v2 = (3 : Int))) = true then 1 else 0 : Int) []), v5).1, (v1, (ix ([[112, 97, 116, 104], [99, 97, 108, 108]] : List (List Nat)) (if (decide (v2 = (3 : Int))) = true then 1 else 0 : Int) []), v5).2.1, (D.tup (List.map D.str (v1, (ix ([[112, 97, 116, 104], [99, 97, 108, 108]] : List (List Nat)) (if (decide (v2 = (3 : Int))) = true then 1 else 0 : Int) []), v5).2.2))).2.2]))
theorem bd_term (X : Cx) (E : XK) (hX : XOk 3 nm_law_term (defScope s_law_term) X E) (m_int : X.mg "int" = none) (m_range : X.mg "range" = none) (m_tuple : X.mg "tuple" = none) (kn_label : KnX X "_law_label" 3 (sp_label X.K)) (kn_number : KnX X "_law_number" 1 (sp_number X.K)) (kn_pick : KnX X "_law_pick" 1 (sp_pick X.K)) (kn_sub : KnX X "_law_sub" 1 (sp_sub X.K)) (a0 : Int) (a1 : Bool) : BK X E ([.d (D.int a0), .d (D.bl a1), .un, .un, .un, .un, .un] : List B) (defBody s_law_term) (fun s : Unit => List.replicate 7 B.un) (fun s : Empty => nomatch s) (m_term a0 a1) := by
  unfold m_term
  exact (b_set 2 D.int hX rfl (loc_l lk_law_term_law_sign) (ed_ixL (EvO.el (eo_lst (ea_cons ed_int (ea_cons (ed_op (od_sub _ _) ed_int (ed_op (od_mul _ _ (by first | decide | omega | (unfold CMul; omega) | (dsimp only; omega) | (rw [sizeLine_eq]; omega) | exact if_ix (Nat.le_refl 2) | (have q := pickL_lt a0 4 (m := 3) (by decide); simp only [List.length_cons, List.length_nil]; omega) | (have q := pickL_lt a0 3 (m := 4) (by decide); simp only [List.length_cons, List.length_nil]; omega) | exact pick_ix _ _ (by subst_vars; decide) | (unfold CPow; decide) | (have q := pickL_lt a0 3 (m := 4) (by decide); dsimp only; omega) | (have q := pickL_lt a0 4 (m := 3) (by decide); dsimp only; omega) | (have q := pickL_lt a0 5 (m := 4) (by decide); (try simp only [rints_len]); (try rw [sizeLine_eq]); omega) | (dsimp only; subst_vars; first | exact far_pos _ | exact (far_pos _).1))) ed_int (ed_call ((a0, (1 : Int), (2 : Int)) : Int × Int × Int) kn_pick (hX.room.mono (by decide)) (hX.gl lk_law_term_law_pick) (ea_cons (ed_var 0 (hX.nm rfl) (hX.vs (vis_c lk_law_term_law_cell_here)) rfl) (ea_cons ed_int (ea_cons ed_int ea_nil))) (by first | decide | omega | (unfold CMul; omega) | (dsimp only; omega) | (rw [sizeLine_eq]; omega) | (have q := rints_mem «hy»; have q2 := pickL_lt a0 5 (m := 4) (by decide); dsimp only; omega) | (dsimp only; subst_vars; exact (far_pos _).1)) rfl))) ea_nil)) (by show 2 ≤ sizeLine; decide))) (ed_intB (hX.gl lk_law_term_int) m_int (ed_not (ed_var 1 (hX.nm rfl) (hX.vs (vis_l lk_law_term_law_first)) rfl))) (atI_map (f := D.int) (xs := ([(1 : Int), ((1 : Int) - ((2 : Int) * (pickL a0 (1 : Int) (2 : Int))))] : List Int)) (ix_ok (d := 0) (by first | decide | omega | (unfold CMul; omega) | (dsimp only; omega) | (rw [sizeLine_eq]; omega) | exact if_ix (Nat.le_refl 2) | (have q := pickL_lt a0 4 (m := 3) (by decide); simp only [List.length_cons, List.length_nil]; omega) | (have q := pickL_lt a0 3 (m := 4) (by decide); simp only [List.length_cons, List.length_nil]; omega) | exact pick_ix _ _ (by subst_vars; decide) | (unfold CPow; decide) | (have q := pickL_lt a0 3 (m := 4) (by decide); dsimp only; omega) | (have q := pickL_lt a0 4 (m := 3) (by decide); dsimp only; omega) | (have q := pickL_lt a0 5 (m := 4) (by decide); (try simp only [rints_len]); (try rw [sizeLine_eq]); omega) | (dsimp only; subst_vars; first | exact far_pos _ | exact (far_pos _).1))))) (fun v1 hv1 => (show BK X E ([.d (D.int a0), .d (D.bl a1), .d (D.int v1), .un, .un, .un, .un] : List B) _ _ _ _ from (b_set 3 D.int hX rfl (loc_l lk_law_term_law_way) (ed_call ((a0, (2 : Int), (4 : Int)) : Int × Int × Int) kn_pick (hX.room.mono (by decide)) (hX.gl lk_law_term_law_pick) (ea_cons (ed_var 0 (hX.nm rfl) (hX.vs (vis_c lk_law_term_law_cell_here)) rfl) (ea_cons ed_int (ea_cons ed_int ea_nil))) (by first | decide | omega | (unfold CMul; omega) | (dsimp only; omega) | (rw [sizeLine_eq]; omega) | (have q := rints_mem «hy»; have q2 := pickL_lt a0 5 (m := 4) (by decide); dsimp only; omega) | (dsimp only; subst_vars; exact (far_pos _).1)) rfl) (fun v2 hv2 => (show BK X E ([.d (D.int a0), .d (D.bl a1), .d (D.int v1), .d (D.int v2), .un, .un, .un] : List B) _ _ _ _ from (b_ifr (et_cmp (od_eqI _ _) (ed_var 3 (hX.nm rfl) (hX.vs (vis_l lk_law_term_law_way)) rfl) ed_int) (fun h3 => (b_set 4 D.int hX rfl (loc_l lk_law_term_law_far) (ed_ixL (EvO.el (eo_lst (ea_cons ed_int (ea_cons ed_int (ea_cons (ed_op (od_pow _ _ (by first | decide | omega | (unfold CMul; omega) | (dsimp only; omega) | (rw [sizeLine_eq]; omega) | exact if_ix (Nat.le_refl 2) | (have q := pickL_lt a0 4 (m := 3) (by decide); simp only [List.length_cons, List.length_nil]; omega) | (have q := pickL_lt a0 3 (m := 4) (by decide); simp only [List.length_cons, List.length_nil]; omega) | exact pick_ix _ _ (by subst_vars; decide) | (unfold CPow; decide) | (have q := pickL_lt a0 3 (m := 4) (by decide); dsimp only; omega) | (have q := pickL_lt a0 4 (m := 3) (by decide); dsimp only; omega) | (have q := pickL_lt a0 5 (m := 4) (by decide); (try simp only [rints_len]); (try rw [sizeLine_eq]); omega) | (dsimp only; subst_vars; first | exact far_pos _ | exact (far_pos _).1))) ed_int ed_int) (ea_cons (ed_op (od_pow _ _ (by first | decide | omega | (unfold CMul; omega) | (dsimp only; omega) | (rw [sizeLine_eq]; omega) | exact if_ix (Nat.le_refl 2) | (have q := pickL_lt a0 4 (m := 3) (by decide); simp only [List.length_cons, List.length_nil]; omega) | (have q := pickL_lt a0 3 (m := 4) (by decide); simp only [List.length_cons, List.length_nil]; omega) | exact pick_ix _ _ (by subst_vars; decide) | (unfold CPow; decide) | (have q := pickL_lt a0 3 (m := 4) (by decide); dsimp only; omega) | (have q := pickL_lt a0 4 (m := 3) (by decide); dsimp only; omega) | (have q := pickL_lt a0 5 (m := 4) (by decide); (try simp only [rints_len]); (try rw [sizeLine_eq]); omega) | (dsimp only; subst_vars; first | exact far_pos _ | exact (far_pos _).1))) ed_int ed_int) ea_nil)))) (by show 4 ≤ sizeLine; decide))) (ed_call ((a0, (3 : Int), (4 : Int)) : Int × Int × Int) kn_pick (hX.room.mono (by decide)) (hX.gl lk_law_term_law_pick) (ea_cons (ed_var 0 (hX.nm rfl) (hX.vs (vis_c lk_law_term_law_cell_here)) rfl) (ea_cons ed_int (ea_cons ed_int ea_nil))) (by first | decide | omega | (unfold CMul; omega) | (dsimp only; omega) | (rw [sizeLine_eq]; omega) | (have q := rints_mem «hy»; have q2 := pickL_lt a0 5 (m := 4) (by decide); dsimp only; omega) | (dsimp only; subst_vars; exact (far_pos _).1)) rfl) (atI_map (f := D.int) (xs := ([(10 : Int), (1000 : Int), ((10 : Int) ^ ((10 : Int)).toNat), ((10 : Int) ^ ((20 : Int)).toNat)] : List Int)) (ix_ok (d := 0) (by first | decide | omega | (unfold CMul; omega) | (dsimp only; omega) | (rw [sizeLine_eq]; omega) | exact if_ix (Nat.le_refl 2) | (have q := pickL_lt a0 4 (m := 3) (by decide); simp only [List.length_cons, List.length_nil]; omega) | (have q := pickL_lt a0 3 (m := 4) (by decide); simp only [List.length_cons, List.length_nil]; omega) | exact pick_ix _ _ (by subst_vars; decide) | (unfold CPow; decide) | (have q := pickL_lt a0 3 (m := 4) (by decide); dsimp only; omega) | (have q := pickL_lt a0 4 (m := 3) (by decide); dsimp only; omega) | (have q := pickL_lt a0 5 (m := 4) (by decide); (try simp only [rints_len]); (try rw [sizeLine_eq]); omega) | (dsimp only; subst_vars; first | exact far_pos _ | exact (far_pos _).1))))) (fun v4 hv4 => (show BK X E ([.d (D.int a0), .d (D.bl a1), .d (D.int v1), .d (D.int v2), .d (D.int v4), .un, .un] : List B) _ _ _ _ from (b_ret (ed_tup (ea_cons (ed_var 2 (hX.nm rfl) (hX.vs (vis_l lk_law_term_law_sign)) rfl) (ea_cons (ed_str [110, 117, 109, 98, 101, 114] (by decide +kernel)) (ea_cons (ed_ixL (EvO.el (eo_lst (ea_cons (ed_call ((a0, v4) : Int × Int) kn_number (hX.room.mono (by decide)) (hX.gl lk_law_term_law_number) (ea_cons (ed_var 0 (hX.nm rfl) (hX.vs (vis_c lk_law_term_law_cell_here)) rfl) (ea_cons (ed_var 4 (hX.nm rfl) (hX.vs (vis_l lk_law_term_law_far)) rfl) ea_nil)) (by first | decide | omega | (unfold CMul; omega) | (dsimp only; omega) | (rw [sizeLine_eq]; omega) | (have q := rints_mem «hy»; have q2 := pickL_lt a0 5 (m := 4) (by decide); dsimp only; omega) | (dsimp only; subst_vars; exact (far_pos _).1)) rfl) (ea_cons ed_int (ea_cons (ed_op (od_sub _ _) (ed_var 4 (hX.nm rfl) (hX.vs (vis_l lk_law_term_law_far)) rfl) ed_int) ea_nil))) (by show 3 ≤ sizeLine; decide))) (ed_call ((a0, (4 : Int), (3 : Int)) : Int × Int × Int) kn_pick (hX.room.mono (by decide)) (hX.gl lk_law_term_law_pick) (ea_cons (ed_var 0 (hX.nm rfl) (hX.vs (vis_c lk_law_term_law_cell_here)) rfl) (ea_cons ed_int (ea_cons ed_int ea_nil))) (by first | decide | omega | (unfold CMul; omega) | (dsimp only; omega) | (rw [sizeLine_eq]; omega) | (have q := rints_mem «hy»; have q2 := pickL_lt a0 5 (m := 4) (by decide); dsimp only; omega) | (dsimp only; subst_vars; exact (far_pos _).1)) rfl) (atI_map (f := D.int) (xs := ([(numberL a0 v4), (0 : Int), (v4 - (1 : Int))] : List Int)) (ix_ok (d := 0) (by first | decide | omega | (unfold CMul; omega) | (dsimp only; omega) | (rw [sizeLine_eq]; omega) | exact if_ix (Nat.le_refl 2) | (have q := pickL_lt a0 4 (m := 3) (by decide); simp only [List.length_cons, List.length_nil]; omega) | (have q := pickL_lt a0 3 (m := 4) (by decide); simp only [List.length_cons, List.length_nil]; omega) | exact pick_ix _ _ (by subst_vars; decide) | (unfold CPow; decide) | (have q := pickL_lt a0 3 (m := 4) (by decide); dsimp only; omega) | (have q := pickL_lt a0 4 (m := 3) (by decide); dsimp only; omega) | (have q := pickL_lt a0 5 (m := 4) (by decide); (try simp only [rints_len]); (try rw [sizeLine_eq]); omega) | (dsimp only; subst_vars; first | exact far_pos _ | exact (far_pos _).1))))) ea_nil))) (by show 3 ≤ sizeLine; decide))))))) (fun h3 => (b_setLc 5 (fun z : (List (List Nat)) => OO.lst (List.map D.str z)) hX rfl lk_law_term_law_names (sw_yes hX lk_law_term_law_names (by decide +kernel)) (lc_ok0 (Yt := Int) (τ := (List Nat)) (encY := D.int) (enc := D.str) (g := (gName 6)) (js := [6]) (own := [("_law_j", 6)]) (rints 0 (((1 : Int) + (pickL a0 (5 : Int) (4 : Int)))).toNat) (fun y6 : Int => (labelL (subL a0 y6))) (it_range1 (hX.gl lk_law_term_range) m_range (ed_op (od_add _ _) ed_int (ed_call ((a0, (5 : Int), (4 : Int)) : Int × Int × Int) kn_pick (hX.room.mono (by decide)) (hX.gl lk_law_term_law_pick) (ea_cons (ed_var 0 (hX.nm rfl) (hX.vs (vis_c lk_law_term_law_cell_here)) rfl) (ea_cons ed_int (ea_cons ed_int ea_nil))) (by first | decide | omega | (unfold CMul; omega) | (dsimp only; omega) | (rw [sizeLine_eq]; omega) | (have q := rints_mem «hy»; have q2 := pickL_lt a0 5 (m := 4) (by decide); dsimp only; omega) | (dsimp only; subst_vars; exact (far_pos _).1)) rfl)) (by first | decide | omega | (unfold CMul; omega) | (dsimp only; omega) | (rw [sizeLine_eq]; omega) | exact if_ix (Nat.le_refl 2) | (have q := pickL_lt a0 4 (m := 3) (by decide); simp only [List.length_cons, List.length_nil]; omega) | (have q := pickL_lt a0 3 (m := 4) (by decide); simp only [List.length_cons, List.length_nil]; omega) | exact pick_ix _ _ (by subst_vars; decide) | (unfold CPow; decide) | (have q := pickL_lt a0 3 (m := 4) (by decide); dsimp only; omega) | (have q := pickL_lt a0 4 (m := 3) (by decide); dsimp only; omega) | (have q := pickL_lt a0 5 (m := 4) (by decide); (try simp only [rints_len]); (try rw [sizeLine_eq]); omega) | (dsimp only; subst_vars; first | exact far_pos _ | exact (far_pos _).1))) (blk_ok hX (by decide +kernel)) (fun _ _ _ _ _ => (pg_name (i := 6) hX.nd (hX.nm rfl) (blk_lc hX (loc_l (by decide +kernel))) (.inr (blk_lk hX (by decide +kernel))))) (by decide) (by first | decide | omega | (unfold CMul; omega) | (dsimp only; omega) | (rw [sizeLine_eq]; omega) | exact if_ix (Nat.le_refl 2) | (have q := pickL_lt a0 4 (m := 3) (by decide); simp only [List.length_cons, List.length_nil]; omega) | (have q := pickL_lt a0 3 (m := 4) (by decide); simp only [List.length_cons, List.length_nil]; omega) | exact pick_ix _ _ (by subst_vars; decide) | (unfold CPow; decide) | (have q := pickL_lt a0 3 (m := 4) (by decide); dsimp only; omega) | (have q := pickL_lt a0 4 (m := 3) (by decide); dsimp only; omega) | (have q := pickL_lt a0 5 (m := 4) (by decide); (try simp only [rints_len]); (try rw [sizeLine_eq]); omega) | (dsimp only; subst_vars; first | exact far_pos _ | exact (far_pos _).1)) (fun y6 : Int => ([.d (D.int a0), .d (D.bl a1), .d (D.int v1), .d (D.int v2), .un, .un, .d (D.int y6)] : List B)) (fun y6 _ => (show TgD X.K (gName 6) [6] (wipeB ([.d (D.int a0), .d (D.bl a1), .d (D.int v1), .d (D.int v2), .un, .un, .un] : List B) [6]) (D.int y6) ([.d (D.int a0), .d (D.bl a1), .d (D.int v1), .d (D.int v2), .un, .un, .d (D.int y6)] : List B) from (tg_name 6))) (fun y6 hy7 _ _ _ _ _ => (ed_call (subL a0 y6) kn_label (hX.room.mono (by decide)) (blk_gl hX (by decide +kernel)) (ea_cons (ed_call ((a0, y6) : Int × Int) kn_sub (hX.room.mono (by decide)) (blk_gl hX (by decide +kernel)) (ea_cons (ed_var 0 (hX.nm rfl) (blk_vs hX (vis_c (by decide +kernel))) rfl) (ea_cons (ed_var 6 (hX.nm rfl) (blk_vs hX (vis_l (by decide +kernel))) rfl) ea_nil)) (by first | decide | omega | (unfold CMul; omega) | (dsimp only; omega) | (rw [sizeLine_eq]; omega) | (have q := rints_mem hy7; have q2 := pickL_lt a0 5 (m := 4) (by decide); dsimp only; omega) | (dsimp only; subst_vars; exact (far_pos _).1)) rfl) ea_nil) trivial rfl))) (fun v5 hv5 => (show BK X E ([.d (D.int a0), .d (D.bl a1), .d (D.int v1), .d (D.int v2), .un, .own (.lst (List.map D.str v5)), .un] : List B) _ _ _ _ from (b_ret (ed_tup (ea_cons (ed_var 2 (hX.nm rfl) (hX.vs (vis_l lk_law_term_law_sign)) rfl) (ea_cons (ed_ixL (EvO.el (eo_lst (ea_cons (ed_str [112, 97, 116, 104] (by decide +kernel)) (ea_cons (ed_str [99, 97, 108, 108] (by decide +kernel)) ea_nil)) (by show 2 ≤ sizeLine; decide))) (ed_intB (hX.gl lk_law_term_int) m_int (ed_cmp (od_eqI _ _) (ed_var 3 (hX.nm rfl) (hX.vs (vis_l lk_law_term_law_way)) rfl) ed_int)) (atI_map (f := D.str) (xs := ([[112, 97, 116, 104], [99, 97, 108, 108]] : List (List Nat))) (ix_ok (d := []) (by first | decide | omega | (unfold CMul; omega) | (dsimp only; omega) | (rw [sizeLine_eq]; omega) | exact if_ix (Nat.le_refl 2) | (have q := pickL_lt a0 4 (m := 3) (by decide); simp only [List.length_cons, List.length_nil]; omega) | (have q := pickL_lt a0 3 (m := 4) (by decide); simp only [List.length_cons, List.length_nil]; omega) | exact pick_ix _ _ (by subst_vars; decide) | (unfold CPow; decide) | (have q := pickL_lt a0 3 (m := 4) (by decide); dsimp only; omega) | (have q := pickL_lt a0 4 (m := 3) (by decide); dsimp only; omega) | (have q := pickL_lt a0 5 (m := 4) (by decide); (try simp only [rints_len]); (try rw [sizeLine_eq]); omega) | (dsimp only; subst_vars; first | exact far_pos _ | exact (far_pos _).1))))) (ea_cons (ed_tupM (hX.gl lk_law_term_tuple) m_tuple (el_own 5 (hX.nm rfl) (hX.vs (vis_l lk_law_term_law_names)) rfl)) ea_nil))) (by show 3 ≤ sizeLine; decide))))))))))))))
abbrev farL (c : Int) : Int := ix ([10, 1000, (10 : Int) ^ ((10 : Int)).toNat, (10 : Int) ^ ((20 : Int)).toNat] : List Int) (pickL c 3 4) 0
def termL (c : Int) (f : Bool) : Tm := (ix ([1, 1 - 2 * pickL c 1 2] : List Int) (if (!f) = true then 1 else 0) 0,
  if decide (pickL c 2 4 = 0) = true then (NUM, D.int (ix ([numberL c (farL c), 0, farL c - 1] : List Int) (pickL c 4 3) 0))
  else (ix ([PATH, CALL] : List (List Nat)) (if decide (pickL c 2 4 = 3) = true then 1 else 0) [], D.tup (List.map D.str ((rints 0 (1 + pickL c 5 4).toNat).map fun y => labelL (subL c y)))))
theorem m_term_eq (c : Int) (f : Bool) : m_term c f = .ret (.v (D.tup [D.int (termL c f).1, D.str (termL c f).2.1, (termL c f).2.2])) := by
  unfold m_term termL
  simp only [bnd]
  cases decide (pickL c 2 4 = 0) <;> rfl
theorem termL_ok (c : Int) (f : Bool) : TermOk (termL c f) ∧ (f = true → (termL c f).1 = 1) := by
  have q1 := pickL_lt c 1 (m := 2) (by decide)
  have q5 := pickL_lt c 5 (m := 4) (by decide)
  have q4 := pickL_lt c 4 (m := 3) (by decide)
  have qf := far_pos c
  have qn := numberL_lt c qf.1
  refine ⟨⟨?_, ?_⟩, ?_⟩
  · unfold termL
    cases f with
    | true => exact .inl rfl
    | false =>
      show (1 - 2 * pickL c 1 2 : Int) = 1 ∨ (1 - 2 * pickL c 1 2 : Int) = -1
      omega
  · unfold termL
    cases decide (pickL c 2 4 = 0) with
    | true =>
      refine .inl ⟨rfl, ?_⟩
      have k := ix_all (P := fun x : Int => 0 ≤ x ∧ x < 10 ^ 20) (xs := [numberL c (farL c), 0, farL c - 1]) (i := pickL c 4 3) (d := 0) (fun x hx => by
        simp only [List.mem_cons, List.not_mem_nil, or_false] at hx
        dsimp only [farL] at hx
        rcases hx with rfl | rfl | rfl <;> omega) (by show -(3 : Int) ≤ _ ∧ _ < (3 : Int); omega)
      refine ⟨(ix ([numberL c (farL c), 0, farL c - 1] : List Int) (pickL c 4 3) 0).toNat, ?_, by omega⟩
      show D.int _ = D.int _
      rw [Int.toNat_of_nonneg k.1]
    | false =>
      refine .inr ⟨?_, _, rfl, ⟨?_, ?_, fun x hx => ?_, fun x hx => ?_⟩⟩
      · show ix ([PATH, CALL] : List (List Nat)) (if decide (pickL c 2 4 = 3) = true then 1 else 0) [] = PATH ∨ ix ([PATH, CALL] : List (List Nat)) (if decide (pickL c 2 4 = 3) = true then 1 else 0) [] = CALL
        cases decide (pickL c 2 4 = 3) with
        | true => exact .inr rfl
        | false => exact .inl rfl
      · rw [List.length_map, rints_len]; omega
      · rw [List.length_map, rints_len]; omega
      · obtain ⟨y, _, rfl⟩ := List.mem_map.mp hx
        exact ⟨(labelL_ok _).1, (labelL_ok _).2.1⟩
      · obtain ⟨y, _, rfl⟩ := List.mem_map.mp hx
        exact (labelL_ok _).2.2
  · intro h
    subst h
    rfl
abbrev sp_term (K : PySem.W.Frag) : Sp := spF K (A := Int × Bool) (fun a => [(D.int a.1), (D.bl a.2)]) (fun a => True) (fun a => .v (D.tup [(D.int (termL a.1 a.2).1), (D.str (termL a.1 a.2).2.1), (termL a.1 a.2).2.2]))
theorem ok_term {P : Program} {w : World} {K : PySem.W.Frag} {mg : Str → Option Value} {base : Heap} {f : Addr} {fd : FuncData} (F : Fun K "_law_term" "_law_term" s_law_term f fd) (m_int : mg "int" = none) (m_range : mg "range" = none) (m_tuple : mg "tuple" = none) (kn_label : Kn P w K mg base "_law_label" 3 (sp_label K)) (kn_number : Kn P w K mg base "_law_number" 1 (sp_number K)) (kn_pick : Kn P w K mg base "_law_pick" 1 (sp_pick K)) (kn_sub : Kn P w K mg base "_law_sub" 1 (sp_sub K)) : FnOk P w K mg base (L2.CX P w) 4 f fd ["_law_cell_here", "_law_first"] (sp_term K) := by
  refine def_ok F sc_law_term (fun _ => rfl) (fun a hp X E e1 e2 e3 e4 e5 hX => ?_)
  subst e1 e2 e3 e4 e5
  have h := bd_term X E hX m_int m_range m_tuple kn_label kn_number kn_pick kn_sub a.1 a.2
  rw [m_term_eq a.1 a.2] at h
  exact h
abbrev s_law_terms : Stmt := top 20
abbrev nm_law_terms : List Str := ["_law_cell_here", "_law_k"]
theorem sc_law_terms : FnScope nm_law_terms ["_law_cell_here"] (defScope s_law_terms) := ⟨rfl, rfl, rfl, by decide +kernel, rfl, by decide +kernel, by decide +kernel⟩
theorem lk_law_terms_law_cell_here : (defScope s_law_terms).names.lookup ("_law_cell_here" : Str) = some .cell := by decide +kernel
theorem lk_law_terms_law_pick : (defScope s_law_terms).names.lookup ("_law_pick" : Str) = some .globalImplicit := by decide +kernel
theorem lk_law_terms_range : (defScope s_law_terms).names.lookup ("range" : Str) = some .globalImplicit := by decide +kernel
def m_terms (a0 : Int) : Ctl Unit Empty := .ret (.o (.lst (List.map (fun z : (Int × (List Nat) × D) => (D.tup [(D.int z.1), (D.str z.2.1), z.2.2])) (List.map (fun y1 : Int => (termL (subL a0 ((1 : Int) + ((5 : Int) * y1))) (decide (y1 = (0 : Int))))) (rints 0 (((1 : Int) + (pickL a0 (0 : Int) (6 : Int)))).toNat)))))
theorem bd_terms (X : Cx) (E : XK) (hX : XOk 4 nm_law_terms (defScope s_law_terms) X E) (m_range : X.mg "range" = none) (kn_pick : KnX X "_law_pick" 1 (sp_pick X.K)) (kn_sub : KnX X "_law_sub" 1 (sp_sub X.K)) (kn_term : KnX X "_law_term" 4 (sp_term X.K)) (a0 : Int) : BK X E ([.d (D.int a0), .un] : List B) (defBody s_law_terms) (fun s : Unit => List.replicate 2 B.un) (fun s : Empty => nomatch s) (m_terms a0) := by
  unfold m_terms
  exact (b_retO (eo_lc hX.calm hX.nd (lc_ok0 (Yt := Int) (τ := (Int × (List Nat) × D)) (encY := D.int) (enc := (fun z : (Int × (List Nat) × D) => (D.tup [(D.int z.1), (D.str z.2.1), z.2.2]))) (g := (gName 1)) (js := [1]) (own := [("_law_k", 1)]) (rints 0 (((1 : Int) + (pickL a0 (0 : Int) (6 : Int)))).toNat) (fun y1 : Int => (termL (subL a0 ((1 : Int) + ((5 : Int) * y1))) (decide (y1 = (0 : Int))))) (it_range1 (hX.gl lk_law_terms_range) m_range (ed_op (od_add _ _) ed_int (ed_call ((a0, (0 : Int), (6 : Int)) : Int × Int × Int) kn_pick (hX.room.mono (by decide)) (hX.gl lk_law_terms_law_pick) (ea_cons (ed_var 0 (hX.nm rfl) (hX.vs (vis_c lk_law_terms_law_cell_here)) rfl) (ea_cons ed_int (ea_cons ed_int ea_nil))) (by first | decide | omega | (unfold CMul; omega) | (dsimp only; omega) | (rw [sizeLine_eq]; omega) | (have q := pickL_lt a0 0 (m := 6) (by decide); (try simp only [rints_len]); (try rw [sizeLine_eq]); omega) | (have q := rints_mem «hy»; have q2 := pickL_lt a0 0 (m := 6) (by decide); dsimp only; omega)) rfl)) (by first | decide | omega | (unfold CMul; omega) | (dsimp only; omega) | (rw [sizeLine_eq]; omega) | (have q := pickL_lt a0 0 (m := 6) (by decide); (try simp only [rints_len]); (try rw [sizeLine_eq]); omega) | (have q := rints_mem «hy»; have q2 := pickL_lt a0 0 (m := 6) (by decide); dsimp only; omega))) (blk_ok hX (by decide +kernel)) (fun _ _ _ _ _ => (pg_name (i := 1) hX.nd (hX.nm rfl) (blk_lc hX (loc_l (by decide +kernel))) (.inr (blk_lk hX (by decide +kernel))))) (by decide) (by first | decide | omega | (unfold CMul; omega) | (dsimp only; omega) | (rw [sizeLine_eq]; omega) | (have q := pickL_lt a0 0 (m := 6) (by decide); (try simp only [rints_len]); (try rw [sizeLine_eq]); omega) | (have q := rints_mem hy2; have q2 := pickL_lt a0 0 (m := 6) (by decide); dsimp only; omega)) (fun y1 : Int => ([.d (D.int a0), .d (D.int y1)] : List B)) (fun y1 _ => (show TgD X.K (gName 1) [1] (wipeB ([.d (D.int a0), .un] : List B) [1]) (D.int y1) ([.d (D.int a0), .d (D.int y1)] : List B) from (tg_name 1))) (fun y1 hy2 _ _ _ _ _ => (ed_call (((subL a0 ((1 : Int) + ((5 : Int) * y1))), (decide (y1 = (0 : Int)))) : Int × Bool) kn_term (hX.room.mono (by decide)) (blk_gl hX (by decide +kernel)) (ea_cons (ed_call ((a0, ((1 : Int) + ((5 : Int) * y1))) : Int × Int) kn_sub (hX.room.mono (by decide)) (blk_gl hX (by decide +kernel)) (ea_cons (ed_var 0 (hX.nm rfl) (blk_vs hX (vis_c (by decide +kernel))) rfl) (ea_cons (ed_op (od_add _ _) ed_int (ed_op (od_mul _ _ (by first | decide | omega | (unfold CMul; omega) | (dsimp only; omega) | (rw [sizeLine_eq]; omega) | (have q := pickL_lt a0 0 (m := 6) (by decide); (try simp only [rints_len]); (try rw [sizeLine_eq]); omega) | (have q := rints_mem hy2; have q2 := pickL_lt a0 0 (m := 6) (by decide); dsimp only; omega))) ed_int (ed_var 1 (hX.nm rfl) (blk_vs hX (vis_l (by decide +kernel))) rfl))) ea_nil)) (by first | decide | omega | (unfold CMul; omega) | (dsimp only; omega) | (rw [sizeLine_eq]; omega) | (have q := pickL_lt a0 0 (m := 6) (by decide); (try simp only [rints_len]); (try rw [sizeLine_eq]); omega) | (have q := rints_mem hy2; have q2 := pickL_lt a0 0 (m := 6) (by decide); dsimp only; omega)) rfl) (ea_cons (ed_cmp (od_eqI _ _) (ed_var 1 (hX.nm rfl) (blk_vs hX (vis_l (by decide +kernel))) rfl) ed_int) ea_nil)) trivial rfl)))))
def termsL (c : Int) : List Tm := (rints 0 (1 + pickL c 0 6).toNat).map fun y => termL (subL c (1 + 5 * y)) (decide (y = 0))
theorem m_terms_eq (c : Int) : m_terms c = .ret (.o (.lst (List.map (fun z : (Int × List Nat × D) => (D.tup [D.int z.1, D.str z.2.1, z.2.2])) (termsL c)))) := rfl
theorem termsL_ok (c : Int) : TermsOk (termsL c) := by
  have q := pickL_lt c 0 (m := 6) (by decide)
  have hl : (termsL c).length = (1 + pickL c 0 6).toNat := by
    unfold termsL
    rw [List.length_map, rints_len]
  refine ⟨by omega, by omega, fun t ht => ?_, fun t ht => ?_⟩
  · unfold termsL at ht
    obtain ⟨y, _, rfl⟩ := List.mem_map.mp ht
    exact (termL_ok _ _).1
  · unfold termsL at ht
    rw [List.getElem?_map, rints_get (by omega)] at ht
    cases ht
    exact (termL_ok _ _).2 rfl
abbrev RT := List Nat × List Nat × List Nat × List Nat × List Tm
structure RowTOk (r : RT) : Prop where
  sort : r.1 ∈ ([[108, 101, 116], [100, 101, 101, 100], [100, 114, 97, 119], [108, 97, 116, 101], [116, 97, 107, 101], [110, 101, 101, 100]] : List (List Nat))
  nm : r.2.1.length ≤ 100
  ad : r.2.2.1.length ≤ 100
  wd : r.2.2.2.1.length ≤ 100
  tm : TermsOk r.2.2.2.2
  none : r.1 = [110, 101, 101, 100] → r.2.1 = []
  chr : chrOk r.2.1 = true ∧ chrOk r.2.2.1 = true ∧ chrOk r.2.2.2.1 = true
theorem RowTOk.sortlen {r : RT} (h : RowTOk r) : r.1.length ≤ 4 := by
  have q := h.sort
  simp only [List.mem_cons, List.not_mem_nil, or_false] at q
  rcases q with q | q | q | q | q | q <;> rw [q] <;> decide
def deedT (ts : List Tm) : List Tm := List.map (fun t : Tm => (t.1, ix ([PATH, t.2.1] : List (List Nat)) (if decide (t.2.1 = NUM) = true then 1 else 0) [], t.2.2)) ts
theorem deedT_ok {ts : List Tm} (h : TermsOk ts) : TermsOk (deedT ts) := by
  refine ⟨by unfold deedT; rw [List.length_map]; exact h.pos, by unfold deedT; rw [List.length_map]; exact h.few, fun t ht => ?_, fun t ht => ?_⟩
  · unfold deedT at ht
    obtain ⟨u, hu, rfl⟩ := List.mem_map.mp ht
    have k := h.all u hu
    refine ⟨k.sg, ?_⟩
    rcases k.th with ⟨h1, h2⟩ | ⟨h1, h2⟩
    · refine .inl ⟨?_, h2⟩
      rw [h1]
      rfl
    · refine .inr ⟨.inl ?_, h2⟩
      rcases h1 with h1 | h1 <;> rw [h1] <;> rfl
  · unfold deedT at ht
    rw [List.getElem?_map] at ht
    cases hu : ts[0]? with
    | none =>
      rw [hu] at ht
      cases ht
    | some u =>
      rw [hu] at ht
      cases ht
      exact h.first u hu
inductive RowT where
  | Let (name : (List Nat)) (terms : (List (Int × (List Nat) × D)))
  | Deed (name : (List Nat)) (terms : (List (Int × (List Nat) × D)))
  | Draw (address : (List Nat)) (name : (List Nat))
  | Late (address : (List Nat)) (name : (List Nat))
  | Take (word : (List Nat)) (address : (List Nat)) (name : (List Nat))
  | Need (terms : (List (Int × (List Nat) × D)))
def encRow : RowT → D
  | .Let x0 x1 => D.ins "Let" [("name", (D.str x0)), ("terms", (D.lst (List.map (fun z : (Int × (List Nat) × D) => (D.tup [(D.int z.1), (D.str z.2.1), z.2.2])) x1)))]
  | .Deed x0 x1 => D.ins "Deed" [("name", (D.str x0)), ("terms", (D.lst (List.map (fun z : (Int × (List Nat) × D) => (D.tup [(D.int z.1), (D.str z.2.1), z.2.2])) x1)))]
  | .Draw x0 x1 => D.ins "Draw" [("address", (D.str x0)), ("name", (D.str x1))]
  | .Late x0 x1 => D.ins "Late" [("address", (D.str x0)), ("name", (D.str x1))]
  | .Take x0 x1 x2 => D.ins "Take" [("word", (D.str x0)), ("address", (D.str x1)), ("name", (D.str x2))]
  | .Need x0 => D.ins "Need" [("terms", (D.lst (List.map (fun z : (Int × (List Nat) × D) => (D.tup [(D.int z.1), (D.str z.2.1), z.2.2])) x0)))]
def RowOk : RowT → Prop
  | .Let x0 x1 => x0.length ≤ 100 ∧ TermsOk x1
  | .Deed x0 x1 => x0.length ≤ 100 ∧ TermsOk x1
  | .Draw x0 x1 => x0.length ≤ 100 ∧ x1.length ≤ 100
  | .Late x0 x1 => x0.length ≤ 100 ∧ x1.length ≤ 100
  | .Take x0 x1 x2 => x0.length ≤ 100 ∧ x1.length ≤ 100 ∧ x2.length ≤ 100
  | .Need x0 => TermsOk x0
def R_name : RowT → (List Nat)
  | .Let x0 x1 => x0
  | .Deed x0 x1 => x0
  | .Draw x0 x1 => x1
  | .Late x0 x1 => x1
  | .Take x0 x1 x2 => x2
  | .Need _ => []
def H_name : RowT → Bool
  | .Let _ _ => true
  | .Deed _ _ => true
  | .Draw _ _ => true
  | .Late _ _ => true
  | .Take _ _ _ => true
  | .Need _ => false
theorem row_name {X : Cx} {Γ : List B} {e : Expr} {pos : Pos} (h_Let : FldA X.K "Let" "name") (h_Deed : FldA X.K "Deed" "name") (h_Draw : FldA X.K "Draw" "name") (h_Late : FldA X.K "Late" "name") (h_Take : FldA X.K "Take" "name") (r : RowT) (hr : H_name r = true) (he : ED X Γ e (encRow r)) (hb : attributeBase e "name" X.env (eval e X.env) = eval e X.env := by exact ab_ns rfl) : ED X Γ (.Attribute e "name" pos) (D.str (R_name r)) := by
  cases r with
  | Let x0 x1 => exact ed_fld he h_Let rfl hb
  | Deed x0 x1 => exact ed_fld he h_Deed rfl hb
  | Draw x0 x1 => exact ed_fld he h_Draw rfl hb
  | Late x0 x1 => exact ed_fld he h_Late rfl hb
  | Take x0 x1 x2 => exact ed_fld he h_Take rfl hb
  | Need x0 => cases hr
def R_word : RowT → (List Nat)
  | .Let _ _ => []
  | .Deed _ _ => []
  | .Draw _ _ => []
  | .Late _ _ => []
  | .Take x0 x1 x2 => x0
  | .Need _ => []
def H_word : RowT → Bool
  | .Let _ _ => false
  | .Deed _ _ => false
  | .Draw _ _ => false
  | .Late _ _ => false
  | .Take _ _ _ => true
  | .Need _ => false
theorem row_word {X : Cx} {Γ : List B} {e : Expr} {pos : Pos} (h_Take : FldA X.K "Take" "word") (r : RowT) (hr : H_word r = true) (he : ED X Γ e (encRow r)) (hb : attributeBase e "word" X.env (eval e X.env) = eval e X.env := by exact ab_ns rfl) : ED X Γ (.Attribute e "word" pos) (D.str (R_word r)) := by
  cases r with
  | Let x0 x1 => cases hr
  | Deed x0 x1 => cases hr
  | Draw x0 x1 => cases hr
  | Late x0 x1 => cases hr
  | Take x0 x1 x2 => exact ed_fld he h_Take rfl hb
  | Need x0 => cases hr
def R_address : RowT → (List Nat)
  | .Let _ _ => []
  | .Deed _ _ => []
  | .Draw x0 x1 => x0
  | .Late x0 x1 => x0
  | .Take x0 x1 x2 => x1
  | .Need _ => []
def H_address : RowT → Bool
  | .Let _ _ => false
  | .Deed _ _ => false
  | .Draw _ _ => true
  | .Late _ _ => true
  | .Take _ _ _ => true
  | .Need _ => false
theorem row_address {X : Cx} {Γ : List B} {e : Expr} {pos : Pos} (h_Draw : FldA X.K "Draw" "address") (h_Late : FldA X.K "Late" "address") (h_Take : FldA X.K "Take" "address") (r : RowT) (hr : H_address r = true) (he : ED X Γ e (encRow r)) (hb : attributeBase e "address" X.env (eval e X.env) = eval e X.env := by exact ab_ns rfl) : ED X Γ (.Attribute e "address" pos) (D.str (R_address r)) := by
  cases r with
  | Let x0 x1 => cases hr
  | Deed x0 x1 => cases hr
  | Draw x0 x1 => exact ed_fld he h_Draw rfl hb
  | Late x0 x1 => exact ed_fld he h_Late rfl hb
  | Take x0 x1 x2 => exact ed_fld he h_Take rfl hb
  | Need x0 => cases hr
def R_terms : RowT → (List (Int × (List Nat) × D))
  | .Let x0 x1 => x1
  | .Deed x0 x1 => x1
  | .Draw _ _ => []
  | .Late _ _ => []
  | .Take _ _ _ => []
  | .Need x0 => x0
def H_terms : RowT → Bool
  | .Let _ _ => true
  | .Deed _ _ => true
  | .Draw _ _ => false
  | .Late _ _ => false
  | .Take _ _ _ => false
  | .Need _ => true
theorem row_terms {X : Cx} {Γ : List B} {e : Expr} {pos : Pos} (h_Let : FldA X.K "Let" "terms") (h_Deed : FldA X.K "Deed" "terms") (h_Need : FldA X.K "Need" "terms") (r : RowT) (hr : H_terms r = true) (he : ED X Γ e (encRow r)) (hb : attributeBase e "terms" X.env (eval e X.env) = eval e X.env := by exact ab_ns rfl) : ED X Γ (.Attribute e "terms" pos) (D.lst (List.map (fun z : (Int × (List Nat) × D) => (D.tup [(D.int z.1), (D.str z.2.1), z.2.2])) (R_terms r))) := by
  cases r with
  | Let x0 x1 => exact ed_fld he h_Let rfl hb
  | Deed x0 x1 => exact ed_fld he h_Deed rfl hb
  | Draw x0 x1 => cases hr
  | Late x0 x1 => cases hr
  | Take x0 x1 x2 => cases hr
  | Need x0 => exact ed_fld he h_Need rfl hb
def R_isi_Let : RowT → Bool
  | .Let _ _ => true
  | .Deed _ _ => false
  | .Draw _ _ => false
  | .Late _ _ => false
  | .Take _ _ _ => false
  | .Need _ => false
theorem row_isi_Let {X : Cx} {Γ : List B} {a : Expr} {pos p p2 : Pos} (h_Let : IsA X.K X.mg "Let" "Let" true) (h_Deed : IsA X.K X.mg "Deed" "Let" false) (h_Draw : IsA X.K X.mg "Draw" "Let" false) (h_Late : IsA X.K X.mg "Late" "Let" false) (h_Take : IsA X.K X.mg "Take" "Let" false) (h_Need : IsA X.K X.mg "Need" "Let" false) (hg : Gl X "isinstance") (hm : X.mg "isinstance" = none) (r : RowT) (ha : ED X Γ a (encRow r)) (hgc : Gl X "Let") (he : starEach [a, .Name "Let" p2] X.env = (false, eval a X.env) :: starEach [.Name "Let" p2] X.env := by exact starEach_ns rfl) : ED X Γ (.Call (.Name "isinstance" p) [a, .Name "Let" p2] [] pos) (.bl (R_isi_Let r)) := by
  cases r with
  | Let x0 x1 => exact ed_isA hg hm ha hgc h_Let (by decide) he
  | Deed x0 x1 => exact ed_isA hg hm ha hgc h_Deed (by decide) he
  | Draw x0 x1 => exact ed_isA hg hm ha hgc h_Draw (by decide) he
  | Late x0 x1 => exact ed_isA hg hm ha hgc h_Late (by decide) he
  | Take x0 x1 x2 => exact ed_isA hg hm ha hgc h_Take (by decide) he
  | Need x0 => exact ed_isA hg hm ha hgc h_Need (by decide) he
def R_isi_Deed : RowT → Bool
  | .Let _ _ => false
  | .Deed _ _ => true
  | .Draw _ _ => false
  | .Late _ _ => false
  | .Take _ _ _ => false
  | .Need _ => false
theorem row_isi_Deed {X : Cx} {Γ : List B} {a : Expr} {pos p p2 : Pos} (h_Let : IsA X.K X.mg "Let" "Deed" false) (h_Deed : IsA X.K X.mg "Deed" "Deed" true) (h_Draw : IsA X.K X.mg "Draw" "Deed" false) (h_Late : IsA X.K X.mg "Late" "Deed" false) (h_Take : IsA X.K X.mg "Take" "Deed" false) (h_Need : IsA X.K X.mg "Need" "Deed" false) (hg : Gl X "isinstance") (hm : X.mg "isinstance" = none) (r : RowT) (ha : ED X Γ a (encRow r)) (hgc : Gl X "Deed") (he : starEach [a, .Name "Deed" p2] X.env = (false, eval a X.env) :: starEach [.Name "Deed" p2] X.env := by exact starEach_ns rfl) : ED X Γ (.Call (.Name "isinstance" p) [a, .Name "Deed" p2] [] pos) (.bl (R_isi_Deed r)) := by
  cases r with
  | Let x0 x1 => exact ed_isA hg hm ha hgc h_Let (by decide) he
  | Deed x0 x1 => exact ed_isA hg hm ha hgc h_Deed (by decide) he
  | Draw x0 x1 => exact ed_isA hg hm ha hgc h_Draw (by decide) he
  | Late x0 x1 => exact ed_isA hg hm ha hgc h_Late (by decide) he
  | Take x0 x1 x2 => exact ed_isA hg hm ha hgc h_Take (by decide) he
  | Need x0 => exact ed_isA hg hm ha hgc h_Need (by decide) he
def R_isi_Draw : RowT → Bool
  | .Let _ _ => false
  | .Deed _ _ => false
  | .Draw _ _ => true
  | .Late _ _ => false
  | .Take _ _ _ => false
  | .Need _ => false
theorem row_isi_Draw {X : Cx} {Γ : List B} {a : Expr} {pos p p2 : Pos} (h_Let : IsA X.K X.mg "Let" "Draw" false) (h_Deed : IsA X.K X.mg "Deed" "Draw" false) (h_Draw : IsA X.K X.mg "Draw" "Draw" true) (h_Late : IsA X.K X.mg "Late" "Draw" false) (h_Take : IsA X.K X.mg "Take" "Draw" false) (h_Need : IsA X.K X.mg "Need" "Draw" false) (hg : Gl X "isinstance") (hm : X.mg "isinstance" = none) (r : RowT) (ha : ED X Γ a (encRow r)) (hgc : Gl X "Draw") (he : starEach [a, .Name "Draw" p2] X.env = (false, eval a X.env) :: starEach [.Name "Draw" p2] X.env := by exact starEach_ns rfl) : ED X Γ (.Call (.Name "isinstance" p) [a, .Name "Draw" p2] [] pos) (.bl (R_isi_Draw r)) := by
  cases r with
  | Let x0 x1 => exact ed_isA hg hm ha hgc h_Let (by decide) he
  | Deed x0 x1 => exact ed_isA hg hm ha hgc h_Deed (by decide) he
  | Draw x0 x1 => exact ed_isA hg hm ha hgc h_Draw (by decide) he
  | Late x0 x1 => exact ed_isA hg hm ha hgc h_Late (by decide) he
  | Take x0 x1 x2 => exact ed_isA hg hm ha hgc h_Take (by decide) he
  | Need x0 => exact ed_isA hg hm ha hgc h_Need (by decide) he
def R_isi_Late : RowT → Bool
  | .Let _ _ => false
  | .Deed _ _ => false
  | .Draw _ _ => false
  | .Late _ _ => true
  | .Take _ _ _ => false
  | .Need _ => false
theorem row_isi_Late {X : Cx} {Γ : List B} {a : Expr} {pos p p2 : Pos} (h_Let : IsA X.K X.mg "Let" "Late" false) (h_Deed : IsA X.K X.mg "Deed" "Late" false) (h_Draw : IsA X.K X.mg "Draw" "Late" false) (h_Late : IsA X.K X.mg "Late" "Late" true) (h_Take : IsA X.K X.mg "Take" "Late" false) (h_Need : IsA X.K X.mg "Need" "Late" false) (hg : Gl X "isinstance") (hm : X.mg "isinstance" = none) (r : RowT) (ha : ED X Γ a (encRow r)) (hgc : Gl X "Late") (he : starEach [a, .Name "Late" p2] X.env = (false, eval a X.env) :: starEach [.Name "Late" p2] X.env := by exact starEach_ns rfl) : ED X Γ (.Call (.Name "isinstance" p) [a, .Name "Late" p2] [] pos) (.bl (R_isi_Late r)) := by
  cases r with
  | Let x0 x1 => exact ed_isA hg hm ha hgc h_Let (by decide) he
  | Deed x0 x1 => exact ed_isA hg hm ha hgc h_Deed (by decide) he
  | Draw x0 x1 => exact ed_isA hg hm ha hgc h_Draw (by decide) he
  | Late x0 x1 => exact ed_isA hg hm ha hgc h_Late (by decide) he
  | Take x0 x1 x2 => exact ed_isA hg hm ha hgc h_Take (by decide) he
  | Need x0 => exact ed_isA hg hm ha hgc h_Need (by decide) he
def R_isi_Take : RowT → Bool
  | .Let _ _ => false
  | .Deed _ _ => false
  | .Draw _ _ => false
  | .Late _ _ => false
  | .Take _ _ _ => true
  | .Need _ => false
theorem row_isi_Take {X : Cx} {Γ : List B} {a : Expr} {pos p p2 : Pos} (h_Let : IsA X.K X.mg "Let" "Take" false) (h_Deed : IsA X.K X.mg "Deed" "Take" false) (h_Draw : IsA X.K X.mg "Draw" "Take" false) (h_Late : IsA X.K X.mg "Late" "Take" false) (h_Take : IsA X.K X.mg "Take" "Take" true) (h_Need : IsA X.K X.mg "Need" "Take" false) (hg : Gl X "isinstance") (hm : X.mg "isinstance" = none) (r : RowT) (ha : ED X Γ a (encRow r)) (hgc : Gl X "Take") (he : starEach [a, .Name "Take" p2] X.env = (false, eval a X.env) :: starEach [.Name "Take" p2] X.env := by exact starEach_ns rfl) : ED X Γ (.Call (.Name "isinstance" p) [a, .Name "Take" p2] [] pos) (.bl (R_isi_Take r)) := by
  cases r with
  | Let x0 x1 => exact ed_isA hg hm ha hgc h_Let (by decide) he
  | Deed x0 x1 => exact ed_isA hg hm ha hgc h_Deed (by decide) he
  | Draw x0 x1 => exact ed_isA hg hm ha hgc h_Draw (by decide) he
  | Late x0 x1 => exact ed_isA hg hm ha hgc h_Late (by decide) he
  | Take x0 x1 x2 => exact ed_isA hg hm ha hgc h_Take (by decide) he
  | Need x0 => exact ed_isA hg hm ha hgc h_Need (by decide) he
def R_isi_Need : RowT → Bool
  | .Let _ _ => false
  | .Deed _ _ => false
  | .Draw _ _ => false
  | .Late _ _ => false
  | .Take _ _ _ => false
  | .Need _ => true
theorem row_isi_Need {X : Cx} {Γ : List B} {a : Expr} {pos p p2 : Pos} (h_Let : IsA X.K X.mg "Let" "Need" false) (h_Deed : IsA X.K X.mg "Deed" "Need" false) (h_Draw : IsA X.K X.mg "Draw" "Need" false) (h_Late : IsA X.K X.mg "Late" "Need" false) (h_Take : IsA X.K X.mg "Take" "Need" false) (h_Need : IsA X.K X.mg "Need" "Need" true) (hg : Gl X "isinstance") (hm : X.mg "isinstance" = none) (r : RowT) (ha : ED X Γ a (encRow r)) (hgc : Gl X "Need") (he : starEach [a, .Name "Need" p2] X.env = (false, eval a X.env) :: starEach [.Name "Need" p2] X.env := by exact starEach_ns rfl) : ED X Γ (.Call (.Name "isinstance" p) [a, .Name "Need" p2] [] pos) (.bl (R_isi_Need r)) := by
  cases r with
  | Let x0 x1 => exact ed_isA hg hm ha hgc h_Let (by decide) he
  | Deed x0 x1 => exact ed_isA hg hm ha hgc h_Deed (by decide) he
  | Draw x0 x1 => exact ed_isA hg hm ha hgc h_Draw (by decide) he
  | Late x0 x1 => exact ed_isA hg hm ha hgc h_Late (by decide) he
  | Take x0 x1 x2 => exact ed_isA hg hm ha hgc h_Take (by decide) he
  | Need x0 => exact ed_isA hg hm ha hgc h_Need (by decide) he
def R_isi_Row : RowT → Bool
  | .Let _ _ => true
  | .Deed _ _ => true
  | .Draw _ _ => true
  | .Late _ _ => true
  | .Take _ _ _ => true
  | .Need _ => true
theorem row_isi_Row {X : Cx} {Γ : List B} {a : Expr} {pos p p2 : Pos} (h_Let : IsA X.K X.mg "Let" "Row" true) (h_Deed : IsA X.K X.mg "Deed" "Row" true) (h_Draw : IsA X.K X.mg "Draw" "Row" true) (h_Late : IsA X.K X.mg "Late" "Row" true) (h_Take : IsA X.K X.mg "Take" "Row" true) (h_Need : IsA X.K X.mg "Need" "Row" true) (hg : Gl X "isinstance") (hm : X.mg "isinstance" = none) (r : RowT) (ha : ED X Γ a (encRow r)) (hgc : Gl X "Row") (he : starEach [a, .Name "Row" p2] X.env = (false, eval a X.env) :: starEach [.Name "Row" p2] X.env := by exact starEach_ns rfl) : ED X Γ (.Call (.Name "isinstance" p) [a, .Name "Row" p2] [] pos) (.bl (R_isi_Row r)) := by
  cases r with
  | Let x0 x1 => exact ed_isA hg hm ha hgc h_Let (by decide) he
  | Deed x0 x1 => exact ed_isA hg hm ha hgc h_Deed (by decide) he
  | Draw x0 x1 => exact ed_isA hg hm ha hgc h_Draw (by decide) he
  | Late x0 x1 => exact ed_isA hg hm ha hgc h_Late (by decide) he
  | Take x0 x1 x2 => exact ed_isA hg hm ha hgc h_Take (by decide) he
  | Need x0 => exact ed_isA hg hm ha hgc h_Need (by decide) he
abbrev sp_terms (K : PySem.W.Frag) : Sp := spF K (A := Int) (fun a => [(D.int a)]) (fun a => True) (fun a => .o (.lst (List.map (fun z : (Int × (List Nat) × D) => (D.tup [(D.int z.1), (D.str z.2.1), z.2.2])) (termsL a))))
theorem ok_terms {P : Program} {w : World} {K : PySem.W.Frag} {mg : Str → Option Value} {base : Heap} {f : Addr} {fd : FuncData} (F : Fun K "_law_terms" "_law_terms" s_law_terms f fd) (m_range : mg "range" = none) (kn_pick : Kn P w K mg base "_law_pick" 1 (sp_pick K)) (kn_sub : Kn P w K mg base "_law_sub" 1 (sp_sub K)) (kn_term : Kn P w K mg base "_law_term" 4 (sp_term K)) : FnOk P w K mg base (L2.CX P w) 5 f fd ["_law_cell_here"] (sp_terms K) := by
  refine def_ok F sc_law_terms (fun _ => rfl) (fun a hp X E e1 e2 e3 e4 e5 hX => ?_)
  subst e1 e2 e3 e4 e5
  have h := bd_terms X E hX m_range kn_pick kn_sub kn_term a
  rw [m_terms_eq a] at h
  exact h
abbrev s_law_word : Stmt := top 21
abbrev nm_law_word : List Str := ["_law_term_here", "_law_sign", "_law_sort", "_law_thing"]
theorem sc_law_word : FnScope nm_law_word ["_law_term_here"] (defScope s_law_word) := ⟨rfl, rfl, rfl, by decide +kernel, rfl, by decide +kernel, by decide +kernel⟩
theorem lk_law_word_int : (defScope s_law_word).names.lookup ("int" : Str) = some .globalImplicit := by decide +kernel
theorem lk_law_word_law_sign : (defScope s_law_word).names.lookup ("_law_sign" : Str) = some .local := by decide +kernel
theorem lk_law_word_law_sort : (defScope s_law_word).names.lookup ("_law_sort" : Str) = some .local := by decide +kernel
theorem lk_law_word_law_term_here : (defScope s_law_word).names.lookup ("_law_term_here" : Str) = some .local := by decide +kernel
theorem lk_law_word_law_thing : (defScope s_law_word).names.lookup ("_law_thing" : Str) = some .local := by decide +kernel
theorem lk_law_word_str : (defScope s_law_word).names.lookup ("str" : Str) = some .globalImplicit := by decide +kernel
def m_word (a0 : (Int × (List Nat) × D)) : Ctl Unit Empty := bnd (a0 : (Int × (List Nat) × D)) fun v1 => if (decide (v1.2.1 = [110, 117, 109, 98, 101, 114])) = true then Ctl.up (.ret (.v (D.str (strI (asI v1.2.2))))) else .ret (.v (D.str ((joinS [46] (asSs v1.2.2)) ++ (List.replicate ((if (decide (v1.2.1 = [99, 97, 108, 108])) = true then 1 else 0 : Int)).toNat [40, 41]).flatten)))
theorem bd_word (X : Cx) (E : XK) (hX : XOk 0 nm_law_word (defScope s_law_word) X E) (m_int : X.mg "int" = none) (m_str : X.mg "str" = none) (a0 : (Int × (List Nat) × D)) (hp : TermOk a0) : BK X E ([.d (D.tup [(D.int a0.1), (D.str a0.2.1), a0.2.2]), .un, .un, .un] : List B) (defBody s_law_word) (fun s : Unit => List.replicate 4 B.un) (fun s : Empty => nomatch s) (m_word a0) := by
  unfold m_word
  exact (b_setT (g := (gTup X.K 3 (gCons (gName 1) (gCons (gName 2) (gCons (gName 3) gNil))))) (js := [1, 2, 3]) (fun z : (Int × (List Nat) × D) => (D.tup [(D.int z.1), (D.str z.2.1), z.2.2])) (fun v1 : (Int × (List Nat) × D) => ([.d (D.tup [(D.int a0.1), (D.str a0.2.1), a0.2.2]), .d (D.int v1.1), .d (D.str v1.2.1), .d v1.2.2] : List B)) (pg_tup hX.calm (pgs_cons (pg_name (i := 1) hX.nd (hX.nm rfl) (hX.lc (loc_l lk_law_word_law_sign)) (.inl (hX.fn _))) (pgs_cons (pg_name (i := 2) hX.nd (hX.nm rfl) (hX.lc (loc_l lk_law_word_law_sort)) (.inl (hX.fn _))) (pgs_cons (pg_name (i := 3) hX.nd (hX.nm rfl) (hX.lc (loc_l lk_law_word_law_thing)) (.inl (hX.fn _))) pgs_nil)))) (fun v1 => (tg_tup (tgs_cons 1 (tgs_cons 2 (tgs_cons 3 tgs_nil))) rfl)) (ed_var 0 (hX.nm rfl) (hX.vs (vis_l lk_law_word_law_term_here)) rfl) (fun v1 hv1 => (b_ifr (et_cmp (od_eqS _ _) (ed_var 2 (hX.nm rfl) (hX.vs (vis_l lk_law_word_law_sort)) rfl) (ed_str [110, 117, 109, 98, 101, 114] (by decide +kernel))) (fun h2 => (b_ret (ed_strI (hX.gl lk_law_word_str) m_str (ed_cast (show v1.2.2 = (D.int (asI v1.2.2)) from (by subst_vars; first | exact TermOk.castI hp ‹_› | exact TermOk.castS hp ‹_›)) (ed_var 3 (hX.nm rfl) (hX.vs (vis_l lk_law_word_law_thing)) rfl)) (by first | decide | omega | (unfold CMul; omega) | (dsimp only; omega) | (rw [sizeLine_eq]; omega) | (split <;> decide) | (subst_vars; first | exact TermOk.log hp ‹_› | exact TermOk.jok hp ‹_› | (have q := TermOk.jlen hp ‹_›; rw [sizeLine_eq]; split <;> (simp; omega))))))) (fun h2 => (b_ret (ed_op (od_addS _ _ (by first | decide | omega | (unfold CMul; omega) | (dsimp only; omega) | (rw [sizeLine_eq]; omega) | (split <;> decide) | (subst_vars; first | exact TermOk.log hp ‹_› | exact TermOk.jok hp ‹_› | (have q := TermOk.jlen hp ‹_›; rw [sizeLine_eq]; split <;> (simp; omega))))) (ed_joinT (ed_str [46] (by decide +kernel)) (ed_cast (show v1.2.2 = (D.tup (List.map D.str (asSs v1.2.2))) from (by subst_vars; first | exact TermOk.castI hp ‹_› | exact TermOk.castS hp ‹_›)) (ed_var 3 (hX.nm rfl) (hX.vs (vis_l lk_law_word_law_thing)) rfl)) (by first | decide | omega | (unfold CMul; omega) | (dsimp only; omega) | (rw [sizeLine_eq]; omega) | (split <;> decide) | (subst_vars; first | exact TermOk.log hp ‹_› | exact TermOk.jok hp ‹_› | (have q := TermOk.jlen hp ‹_›; rw [sizeLine_eq]; split <;> (simp; omega))))) (ed_op (od_mulS (by first | decide | omega | (unfold CMul; omega) | (dsimp only; omega) | (rw [sizeLine_eq]; omega) | (split <;> decide) | (subst_vars; first | exact TermOk.log hp ‹_› | exact TermOk.jok hp ‹_› | (have q := TermOk.jlen hp ‹_›; rw [sizeLine_eq]; split <;> (simp; omega)))) (by first | decide | omega | (unfold CMul; omega) | (dsimp only; omega) | (rw [sizeLine_eq]; omega) | (split <;> decide) | (subst_vars; first | exact TermOk.log hp ‹_› | exact TermOk.jok hp ‹_› | (have q := TermOk.jlen hp ‹_›; rw [sizeLine_eq]; split <;> (simp; omega)))) (by first | decide | omega | (unfold CMul; omega) | (dsimp only; omega) | (rw [sizeLine_eq]; omega) | (split <;> decide) | (subst_vars; first | exact TermOk.log hp ‹_› | exact TermOk.jok hp ‹_› | (have q := TermOk.jlen hp ‹_›; rw [sizeLine_eq]; split <;> (simp; omega))))) (ed_str [40, 41] (by decide +kernel)) (ed_intB (hX.gl lk_law_word_int) m_int (ed_cmp (od_eqS _ _) (ed_var 2 (hX.nm rfl) (hX.vs (vis_l lk_law_word_law_sort)) rfl) (ed_str [99, 97, 108, 108] (by decide +kernel)))))))))))
def wordL (t : Tm) : List Nat := if decide (t.2.1 = NUM) = true then strI (asI t.2.2) else joinS [46] (asSs t.2.2) ++ (List.replicate ((if decide (t.2.1 = CALL) = true then 1 else 0 : Int)).toNat ([40, 41] : List Nat)).flatten
theorem m_word_eq (t : Tm) : m_word t = .ret (.v (.str (wordL t))) := by
  unfold m_word wordL
  simp only [bnd]
  cases decide (t.2.1 = NUM) <;> rfl
theorem wordL_len {t : Tm} (h : TermOk t) : (wordL t).length ≤ 40 := by
  unfold wordL
  split
  · rename_i e
    obtain ⟨n, h1, h2⟩ := h.num e
    rw [h1]
    show (strI (n : Int)).length ≤ 40
    rw [strI_nat]
    exact Nat.le_trans (TL.numL_len (by decide) h2) (by decide)
  · rename_i e
    have q := h.jlen (Bool.eq_false_iff.mpr e)
    rw [List.length_append]
    split
    · show _ + 2 ≤ 40
      omega
    · show _ + 0 ≤ 40
      omega
abbrev sgL (t : Tm) : List Nat := ix ([[32, 45, 32], [32, 43, 32]] : List (List Nat)) (if decide (t.1 = 1) = true then 1 else 0 : Int) []
theorem sgL_len (t : Tm) : (sgL t).length = 3 := by
  unfold sgL
  split <;> rfl
theorem sg_ok (t : Tm) : -(([[32, 45, 32], [32, 43, 32]] : List (List Nat)).length : Int) ≤ (if decide (t.1 = 1) = true then 1 else 0 : Int) ∧ (if decide (t.1 = 1) = true then 1 else 0 : Int) < (([[32, 45, 32], [32, 43, 32]] : List (List Nat)).length : Int) := by
  split <;> decide
theorem text_inv {ts : List Tm} (h : TermsOk ts) {i : Nat} {s s2 : List Nat} {y : Tm} (hy : (cutL ts (some 1) none)[i]? = some y) (hv : s.length ≤ 43 * (i + 1)) (e : (bnd (s ++ sgL y ++ wordL y) fun v => (Ctl.go v : Ctl (List Nat) (List Nat))) = .go s2) : s2.length ≤ 43 * (i + 1 + 1) := by
  have w := wordL_len (h.all y (cutL_sub (List.mem_of_getElem? hy)))
  have g := sgL_len y
  injection e with e
  rw [← e, List.length_append, List.length_append]
  omega
theorem text_i {ts : List Tm} (h : TermsOk ts) {i : Nat} {y : Tm} (hy : (cutL ts (some 1) none)[i]? = some y) : i < 6 := by
  have q := (List.getElem?_eq_some_iff.mp hy).1
  have q2 := cutL_len ts (some 1) none
  have q3 := h.few
  omega

abbrev sp_word (K : PySem.W.Frag) : Sp := spF K (A := (Int × (List Nat) × D)) (fun a => [(D.tup [(D.int a.1), (D.str a.2.1), a.2.2])]) (fun a => TermOk a) (fun a => .v (D.str (wordL a)))
theorem ok_word {P : Program} {w : World} {K : PySem.W.Frag} {mg : Str → Option Value} {base : Heap} {f : Addr} {fd : FuncData} (F : Fun K "_law_word" "_law_word" s_law_word f fd) (m_int : mg "int" = none) (m_str : mg "str" = none) : FnOk P w K mg base (L2.CX P w) 1 f fd ["_law_term_here"] (sp_word K) := by
  refine def_ok F sc_law_word (fun _ => rfl) (fun a hp X E e1 e2 e3 e4 e5 hX => ?_)
  subst e1 e2 e3 e4 e5
  have h := bd_word X E hX m_int m_str a hp
  rw [m_word_eq a] at h
  exact h
abbrev s_law_text : Stmt := top 22
abbrev nm_law_text : List Str := ["_law_terms_here", "_law_text_here", "_law_term_here"]
theorem sc_law_text : FnScope nm_law_text ["_law_terms_here"] (defScope s_law_text) := ⟨rfl, rfl, rfl, by decide +kernel, rfl, by decide +kernel, by decide +kernel⟩
theorem lk_law_text_int : (defScope s_law_text).names.lookup ("int" : Str) = some .globalImplicit := by decide +kernel
theorem lk_law_text_law_term_here : (defScope s_law_text).names.lookup ("_law_term_here" : Str) = some .local := by decide +kernel
theorem lk_law_text_law_terms_here : (defScope s_law_text).names.lookup ("_law_terms_here" : Str) = some .local := by decide +kernel
theorem lk_law_text_law_text_here : (defScope s_law_text).names.lookup ("_law_text_here" : Str) = some .local := by decide +kernel
theorem lk_law_text_law_word : (defScope s_law_text).names.lookup ("_law_word" : Str) = some .globalImplicit := by decide +kernel
def m_text (a0 : (List (Int × (List Nat) × D))) : Ctl Unit Empty := bnd ((wordL (ix a0 (0 : Int) (0, [], D.non))) : (List Nat)) fun v1 => Ctl.bind (S := (List Nat)) (loop (Y := (Int × (List Nat) × D)) (fun (s2 : (List Nat)) (y3 : (Int × (List Nat) × D)) => bnd (((s2 ++ (ix ([[32, 45, 32], [32, 43, 32]] : List (List Nat)) (if (decide (y3.1 = (1 : Int))) = true then 1 else 0 : Int) [])) ++ (wordL y3)) : (List Nat)) fun v7 => .go v7) v1 (cutL a0 (some (1 : Int)) none)) fun s8 => .ret (.v (D.str s8))
theorem bd_text (X : Cx) (E : XK) (hX : XOk 1 nm_law_text (defScope s_law_text) X E) (m_int : X.mg "int" = none) (kn_word : KnX X "_law_word" 1 (sp_word X.K)) (a0 : (List (Int × (List Nat) × D))) (hp : TermsOk a0) : BK X E ([.d (D.lst (List.map (fun z : (Int × (List Nat) × D) => (D.tup [(D.int z.1), (D.str z.2.1), z.2.2])) a0)), .un, .un] : List B) (defBody s_law_text) (fun s : Unit => List.replicate 3 B.un) (fun s : Empty => nomatch s) (m_text a0) := by
  unfold m_text
  exact (b_set 1 D.str hX rfl (loc_l lk_law_text_law_text_here) (ed_call (ix a0 (0 : Int) (0, [], D.non)) kn_word (hX.room.mono (by decide)) (hX.gl lk_law_text_law_word) (ea_cons (ed_ixL (EvD.el (ed_var 0 (hX.nm rfl) (hX.vs (vis_l lk_law_text_law_terms_here)) rfl)) ed_int (atI_map (f := (fun z : (Int × (List Nat) × D) => (D.tup [(D.int z.1), (D.str z.2.1), z.2.2]))) (xs := a0) (ix_ok (d := (0, [], D.non)) (by first | decide | omega | (unfold CMul; omega) | (dsimp only; omega) | (rw [sizeLine_eq]; omega) | (have := hp.pos; omega) | (have := hp.few; have q := cutL_len a0 (some 1) none; rw [sizeLine_eq]; omega) | exact hp.all _ (ix_mem _ (by have := hp.pos; omega)) | exact hp.all _ (cutL_sub (List.mem_of_getElem? «hi»)) | exact sg_ok _ | (have q1 := wordL_len (hp.all _ (cutL_sub (List.mem_of_getElem? «hi»))); have q2 := text_i hp «hi»; have q3 := sgL_len «yl»; dsimp only [sgL] at q3; (try rw [List.length_append]); rw [sizeLine_eq]; omega))))) ea_nil) (by first | decide | omega | (unfold CMul; omega) | (dsimp only; omega) | (rw [sizeLine_eq]; omega) | (have := hp.pos; omega) | (have := hp.few; have q := cutL_len a0 (some 1) none; rw [sizeLine_eq]; omega) | exact hp.all _ (ix_mem _ (by have := hp.pos; omega)) | exact hp.all _ (cutL_sub (List.mem_of_getElem? «hi»)) | exact sg_ok _ | (have q1 := wordL_len (hp.all _ (cutL_sub (List.mem_of_getElem? «hi»))); have q2 := text_i hp «hi»; have q3 := sgL_len «yl»; dsimp only [sgL] at q3; (try rw [List.length_append]); rw [sizeLine_eq]; omega)) rfl) (fun v1 hv1 => (show BK X E ([.d (D.lst (List.map (fun z : (Int × (List Nat) × D) => (D.tup [(D.int z.1), (D.str z.2.1), z.2.2])) a0)), .d (D.str v1), .un] : List B) _ _ _ _ from (b_for (Γl := (fun s2 : (List Nat) => ([.d (D.lst (List.map (fun z : (Int × (List Nat) × D) => (D.tup [(D.int z.1), (D.str z.2.1), z.2.2])) a0)), .d (D.str s2), .un] : List B))) (g := (gName 2)) (js := [2]) (fun (i : Nat) (s : List Nat) => s.length ≤ 43 * (i + 1)) (fun z : (Int × (List Nat) × D) => (D.tup [(D.int z.1), (D.str z.2.1), z.2.2])) (fun (s2 : (List Nat)) (y3 : (Int × (List Nat) × D)) => bnd (((s2 ++ (ix ([[32, 45, 32], [32, 43, 32]] : List (List Nat)) (if (decide (y3.1 = (1 : Int))) = true then 1 else 0 : Int) [])) ++ (wordL y3)) : (List Nat)) fun v7 => .go v7) v1 (cutL a0 (some (1 : Int)) none) (fun (s2 : (List Nat)) (y3 : (Int × (List Nat) × D)) => ([.d (D.lst (List.map (fun z : (Int × (List Nat) × D) => (D.tup [(D.int z.1), (D.str z.2.1), z.2.2])) a0)), .d (D.str s2), .d (D.tup [(D.int y3.1), (D.str y3.2.1), y3.2.2])] : List B)) hX (.keep (.keep (.keep .nil))) (by subst_vars; have q := wordL_len (hp.all _ (ix_mem (xs := a0) (i := 0) (0, [], D.non) (by have := hp.pos; omega))); omega) (it_lst (EvO.frz (eo_slM (EvD.el (ed_var 0 (hX.nm rfl) (hX.vs (vis_l lk_law_text_law_terms_here)) rfl)) (ep_some ed_int) ep_none))) (pg_name (i := 2) hX.nd (hX.nm rfl) (hX.lc (loc_l lk_law_text_law_term_here)) (.inl (hX.fn _))) (fun s2 y3 => (tg_name 2)) (fun i4 s2 y3 hi5 hv6 => (b_set 1 D.str hX rfl (loc_l lk_law_text_law_text_here) (ed_op (od_addS _ _ (by first | decide | omega | (unfold CMul; omega) | (dsimp only; omega) | (rw [sizeLine_eq]; omega) | (have := hp.pos; omega) | (have := hp.few; have q := cutL_len a0 (some 1) none; rw [sizeLine_eq]; omega) | exact hp.all _ (ix_mem _ (by have := hp.pos; omega)) | exact hp.all _ (cutL_sub (List.mem_of_getElem? hi5)) | exact sg_ok _ | (have q1 := wordL_len (hp.all _ (cutL_sub (List.mem_of_getElem? hi5))); have q2 := text_i hp hi5; have q3 := sgL_len y3; dsimp only [sgL] at q3; (try rw [List.length_append]); rw [sizeLine_eq]; omega))) (ed_op (od_addS _ _ (by first | decide | omega | (unfold CMul; omega) | (dsimp only; omega) | (rw [sizeLine_eq]; omega) | (have := hp.pos; omega) | (have := hp.few; have q := cutL_len a0 (some 1) none; rw [sizeLine_eq]; omega) | exact hp.all _ (ix_mem _ (by have := hp.pos; omega)) | exact hp.all _ (cutL_sub (List.mem_of_getElem? hi5)) | exact sg_ok _ | (have q1 := wordL_len (hp.all _ (cutL_sub (List.mem_of_getElem? hi5))); have q2 := text_i hp hi5; have q3 := sgL_len y3; dsimp only [sgL] at q3; (try rw [List.length_append]); rw [sizeLine_eq]; omega))) (ed_var 1 (hX.nm rfl) (hX.vs (vis_l lk_law_text_law_text_here)) rfl) (ed_ixL (EvO.el (eo_lst (ea_cons (ed_str [32, 45, 32] (by decide +kernel)) (ea_cons (ed_str [32, 43, 32] (by decide +kernel)) ea_nil)) (by show 2 ≤ sizeLine; decide))) (ed_intB (hX.gl lk_law_text_int) m_int (ed_cmp (od_eqI _ _) (ed_ixT (ed_var 2 (hX.nm rfl) (hX.vs (vis_l lk_law_text_law_term_here)) rfl) ed_int rfl) ed_int)) (atI_map (f := D.str) (xs := ([[32, 45, 32], [32, 43, 32]] : List (List Nat))) (ix_ok (d := []) (by first | decide | omega | (unfold CMul; omega) | (dsimp only; omega) | (rw [sizeLine_eq]; omega) | (have := hp.pos; omega) | (have := hp.few; have q := cutL_len a0 (some 1) none; rw [sizeLine_eq]; omega) | exact hp.all _ (ix_mem _ (by have := hp.pos; omega)) | exact hp.all _ (cutL_sub (List.mem_of_getElem? hi5)) | exact sg_ok _ | (have q1 := wordL_len (hp.all _ (cutL_sub (List.mem_of_getElem? hi5))); have q2 := text_i hp hi5; have q3 := sgL_len y3; dsimp only [sgL] at q3; (try rw [List.length_append]); rw [sizeLine_eq]; omega)))))) (ed_call y3 kn_word (hX.room.mono (by decide)) (hX.gl lk_law_text_law_word) (ea_cons (ed_var 2 (hX.nm rfl) (hX.vs (vis_l lk_law_text_law_term_here)) rfl) ea_nil) (by first | decide | omega | (unfold CMul; omega) | (dsimp only; omega) | (rw [sizeLine_eq]; omega) | (have := hp.pos; omega) | (have := hp.few; have q := cutL_len a0 (some 1) none; rw [sizeLine_eq]; omega) | exact hp.all _ (ix_mem _ (by have := hp.pos; omega)) | exact hp.all _ (cutL_sub (List.mem_of_getElem? hi5)) | exact sg_ok _ | (have q1 := wordL_len (hp.all _ (cutL_sub (List.mem_of_getElem? hi5))); have q2 := text_i hp hi5; have q3 := sgL_len y3; dsimp only [sgL] at q3; (try rw [List.length_append]); rw [sizeLine_eq]; omega)) rfl)) (fun v7 hv7 => (show BK X E ([.d (D.lst (List.map (fun z : (Int × (List Nat) × D) => (D.tup [(D.int z.1), (D.str z.2.1), z.2.2])) a0)), .d (D.str v7), .d (D.tup [(D.int y3.1), (D.str y3.2.1), y3.2.2])] : List B) _ _ _ _ from (b_nil (.keep (.keep (.drop .nil)))))))) (fun i s y s2 hy hv e => text_inv hp hy hv e) (fun s8 hs8 => (show BK X E ([.d (D.lst (List.map (fun z : (Int × (List Nat) × D) => (D.tup [(D.int z.1), (D.str z.2.1), z.2.2])) a0)), .d (D.str s8), .un] : List B) _ _ _ _ from (b_ret (ed_var 1 (hX.nm rfl) (hX.vs (vis_l lk_law_text_law_text_here)) rfl))))))))
def textL (ts : List Tm) : List Nat := (cutL ts (some 1) none).foldl (fun s t => s ++ sgL t ++ wordL t) (wordL (ix ts 0 (0, [], D.non)))
theorem loop_foldl {S Y T : Type} {f : S → Y → S} : ∀ (ys : List Y) (s : S), (loop (fun s y => .go (f s y)) s ys : Ctl S T) = .go (ys.foldl f s)
  | [], _ => rfl
  | y :: ys, s => loop_foldl ys (f s y)
theorem m_text_eq (ts : List Tm) : m_text ts = .ret (.v (.str (textL ts))) := by
  unfold m_text textL
  simp only [bnd]
  rw [loop_foldl (T := Empty) (f := fun (s : List Nat) (t : Tm) => s ++ sgL t ++ wordL t)]
  rfl
theorem foldl_len {ts : List Tm} (h : ∀ t ∈ ts, TermOk t) : ∀ s : List Nat, (ts.foldl (fun s t => s ++ sgL t ++ wordL t) s).length ≤ s.length + 43 * ts.length := by
  induction ts with
  | nil => intro s; exact Nat.le_refl _
  | cons t ts ih =>
    intro s
    have q := ih (fun t ht => h t (List.mem_cons_of_mem _ ht)) (s ++ sgL t ++ wordL t)
    have w := wordL_len (h t List.mem_cons_self)
    have g := sgL_len t
    rw [List.length_append, List.length_append] at q
    rw [List.foldl_cons, List.length_cons]
    omega
theorem ix_zero {α : Type} {t : α} {ts : List α} {d : α} : ix (t :: ts) 0 d = t := ix_nat (t :: ts) 0 d
theorem cut_one {α : Type} {t : α} {ts : List α} : cutL (t :: ts) (some 1) none = ts := by
  unfold cutL
  have e1 : HT.sIx (t :: ts).length 0 (some 1) = 1 := by
    have q := HT.sIx_nat (t :: ts).length 0 1
    rw [List.length_cons] at q ⊢
    exact q.trans (by omega)
  rw [e1]
  show ts.take (ts.length + 1 - 1) = ts
  exact List.take_length
theorem textL_len {ts : List Tm} (h : TermsOk ts) : (textL ts).length ≤ 1000 := by
  unfold textL
  cases ts with
  | nil => exact absurd h.pos (by decide)
  | cons t ts =>
    rw [cut_one, ix_zero]
    have q := foldl_len (fun t ht => h.all t (List.mem_cons_of_mem _ ht)) (wordL t)
    have w := wordL_len (h.all t List.mem_cons_self)
    have f := h.few
    rw [List.length_cons] at f
    omega

theorem wordL_num {t : Tm} {n : Nat} (h1 : t.2.1 = NUM) (h2 : t.2.2 = D.int n) : wordL t = TL.numL n := by
  unfold wordL
  rw [h1, h2]
  show strI (n : Int) = _
  exact strI_nat n
theorem wordL_path {t : Tm} {ns : List (List Nat)} (h1 : t.2.1 = PATH) (h2 : t.2.2 = D.tup (ns.map D.str)) : wordL t = joinS [46] ns := by
  unfold wordL
  rw [h1, h2, map_asS]
  show joinS [46] ns ++ [] = _
  exact List.append_nil _
theorem wordL_call {t : Tm} {ns : List (List Nat)} (h1 : t.2.1 = CALL) (h2 : t.2.2 = D.tup (ns.map D.str)) : wordL t = joinS [46] ns ++ [40, 41] := by
  unfold wordL
  rw [h1, h2, map_asS]
  rfl
theorem joinL_pos13 {s p : List Nat} {r : List (List Nat)} (h : 0 < p.length) : 0 < (TL.joinL s (p :: r)).length := by
  cases r with
  | nil => exact h
  | cons q r =>
    show 0 < (p ++ (s ++ TL.joinL s (q :: r))).length
    rw [List.length_append]
    omega

abbrev sp_text (K : PySem.W.Frag) : Sp := spF K (A := (List (Int × (List Nat) × D))) (fun a => [(D.lst (List.map (fun z : (Int × (List Nat) × D) => (D.tup [(D.int z.1), (D.str z.2.1), z.2.2])) a))]) (fun a => TermsOk a) (fun a => .v (D.str (textL a)))
theorem ok_text {P : Program} {w : World} {K : PySem.W.Frag} {mg : Str → Option Value} {base : Heap} {f : Addr} {fd : FuncData} (F : Fun K "_law_text" "_law_text" s_law_text f fd) (m_int : mg "int" = none) (kn_word : Kn P w K mg base "_law_word" 1 (sp_word K)) : FnOk P w K mg base (L2.CX P w) 2 f fd ["_law_terms_here"] (sp_text K) := by
  refine def_ok F sc_law_text (fun _ => rfl) (fun a hp X E e1 e2 e3 e4 e5 hX => ?_)
  subst e1 e2 e3 e4 e5
  have h := bd_text X E hX m_int kn_word a hp
  rw [m_text_eq a] at h
  exact h
abbrev s_show_term : Stmt := top 1
abbrev nm_show_term : List Str := ["sort", "thing", "path"]
theorem sc_show_term : FnScope nm_show_term ["sort", "thing"] (defScope s_show_term) := ⟨rfl, rfl, rfl, by decide +kernel, rfl, by decide +kernel, by decide +kernel⟩
theorem lk_show_term_path : (defScope s_show_term).names.lookup ("path" : Str) = some .local := by decide +kernel
theorem lk_show_term_sort : (defScope s_show_term).names.lookup ("sort" : Str) = some .local := by decide +kernel
theorem lk_show_term_str : (defScope s_show_term).names.lookup ("str" : Str) = some .globalImplicit := by decide +kernel
theorem lk_show_term_thing : (defScope s_show_term).names.lookup ("thing" : Str) = some .local := by decide +kernel
def m_show_term (a0 : (List Nat)) (a1 : D) : Ctl Unit Empty := if (decide (a0 = [110, 117, 109, 98, 101, 114])) = true then Ctl.up (.ret (.v (D.str (strI (asI a1))))) else bnd ((joinS [46] (asSs a1)) : (List Nat)) fun v2 => if (decide (a0 = [99, 97, 108, 108])) = true then Ctl.up (.ret (.v (D.str (v2 ++ [40, 41])))) else .ret (.v (D.str v2))
theorem bd_show_term (X : Cx) (E : XK) (hX : XOk 0 nm_show_term (defScope s_show_term) X E) (m_str : X.mg "str" = none) (a0 : (List Nat)) (a1 : D) (hp : TermOk (1, a0, a1)) : BK X E ([.d (D.str a0), .d a1, .un] : List B) (defBody s_show_term) (fun s : Unit => List.replicate 3 B.un) (fun s : Empty => nomatch s) (m_show_term a0 a1) := by
  unfold m_show_term
  exact (b_ifr (et_cmp (od_eqS _ _) (ed_var 0 (hX.nm rfl) (hX.vs (vis_l lk_show_term_sort)) rfl) (ed_str [110, 117, 109, 98, 101, 114] (by decide +kernel))) (fun h1 => (b_ret (ed_strI (hX.gl lk_show_term_str) m_str (ed_cast (show a1 = (D.int (asI a1)) from (by subst_vars; first | exact TermOk.castI hp ‹_› | exact TermOk.castS hp ‹_›)) (ed_var 1 (hX.nm rfl) (hX.vs (vis_l lk_show_term_thing)) rfl)) (by first | decide | omega | (unfold CMul; omega) | (dsimp only; omega) | (rw [sizeLine_eq]; omega) | (subst_vars; first | exact TermOk.log hp ‹_› | exact TermOk.jok hp ‹_› | (have q := TermOk.jlen hp ‹_›; dsimp only at q; rw [sizeLine_eq]; simp only [List.length_cons, List.length_nil]; omega)))))) (fun h1 => (b_set 2 D.str hX rfl (loc_l lk_show_term_path) (ed_joinT (ed_str [46] (by decide +kernel)) (ed_cast (show a1 = (D.tup (List.map D.str (asSs a1))) from (by subst_vars; first | exact TermOk.castI hp ‹_› | exact TermOk.castS hp ‹_›)) (ed_var 1 (hX.nm rfl) (hX.vs (vis_l lk_show_term_thing)) rfl)) (by first | decide | omega | (unfold CMul; omega) | (dsimp only; omega) | (rw [sizeLine_eq]; omega) | (subst_vars; first | exact TermOk.log hp ‹_› | exact TermOk.jok hp ‹_› | (have q := TermOk.jlen hp ‹_›; dsimp only at q; rw [sizeLine_eq]; simp only [List.length_cons, List.length_nil]; omega)))) (fun v2 hv2 => (show BK X E ([.d (D.str a0), .d a1, .d (D.str v2)] : List B) _ _ _ _ from (b_ifr (et_cmp (od_eqS _ _) (ed_var 0 (hX.nm rfl) (hX.vs (vis_l lk_show_term_sort)) rfl) (ed_str [99, 97, 108, 108] (by decide +kernel))) (fun h3 => (b_ret (ed_op (od_addS _ _ (by first | decide | omega | (unfold CMul; omega) | (dsimp only; omega) | (rw [sizeLine_eq]; omega) | (subst_vars; first | exact TermOk.log hp ‹_› | exact TermOk.jok hp ‹_› | (have q := TermOk.jlen hp ‹_›; dsimp only at q; rw [sizeLine_eq]; simp only [List.length_cons, List.length_nil]; omega)))) (ed_var 2 (hX.nm rfl) (hX.vs (vis_l lk_show_term_path)) rfl) (ed_str [40, 41] (by decide +kernel))))) (fun h3 => (b_ret (ed_var 2 (hX.nm rfl) (hX.vs (vis_l lk_show_term_path)) rfl)))))))))
def showTermL (s : List Nat) (t : D) : List Nat := wordL (1, s, t)
theorem m_show_term_eq (s : List Nat) (t : D) : m_show_term s t = .ret (.v (.str (showTermL s t))) := by
  unfold m_show_term showTermL wordL
  simp only [bnd]
  cases h1 : decide (s = NUM) with
  | true => rfl
  | false =>
    cases h2 : decide (s = CALL) with
    | true => rfl
    | false =>
      simp only [h1, h2, Bool.false_eq_true, if_false]
      show Ctl.ret _ = Ctl.ret (Res.v (.str (joinS [46] (asSs t) ++ [])))
      rw [List.append_nil]
theorem term_one {t : Tm} (h : TermOk t) : TermOk (1, t.2.1, t.2.2) := ⟨.inl rfl, h.th⟩
theorem show_i {ts : List Tm} (h : TermsOk ts) {i : Nat} {y : Tm} (hy : ts[i]? = some y) : i < 6 := by
  have q := (List.getElem?_eq_some_iff.mp hy).1
  have q3 := h.few
  omega
def showSep (s : List Nat) (t : Tm) : List Nat := if (!decide (s = []) && decide (t.1 = 1)) = true then s ++ [32, 43, 32] else if (!decide (s = [])) = true then s ++ [32, 45, 32] else s
theorem showSep_len (s : List Nat) (t : Tm) : (showSep s t).length ≤ s.length + 3 := by
  unfold showSep
  split
  · rw [List.length_append]
    exact Nat.le_refl _
  · split
    · rw [List.length_append]
      exact Nat.le_refl _
    · omega
theorem show_sep {T : Type} (s2 : List Nat) (y3 : Tm) : (if ((!(decide (s2 = ([] : List Nat)))) && (decide (y3.1 = (1 : Int)))) = true then bnd ((s2 ++ [32, 43, 32]) : (List Nat)) fun v9 => (.go v9 : Ctl (List Nat) T) else Ctl.bind (S := (List Nat)) (if (!(decide (s2 = ([] : List Nat)))) = true then bnd ((s2 ++ [32, 45, 32]) : (List Nat)) fun v11 => .go v11 else .go s2) fun s12 => .go s12) = .go (showSep s2 y3) := by
  unfold showSep
  cases (!(decide (s2 = ([] : List Nat)))) <;> cases (decide (y3.1 = (1 : Int))) <;> rfl
theorem show_s {T : Type} {s2 s13 : List Nat} {y3 : Tm} (h : (if ((!(decide (s2 = ([] : List Nat)))) && (decide (y3.1 = (1 : Int)))) = true then bnd ((s2 ++ [32, 43, 32]) : (List Nat)) fun v9 => (.go v9 : Ctl (List Nat) T) else Ctl.bind (S := (List Nat)) (if (!(decide (s2 = ([] : List Nat)))) = true then bnd ((s2 ++ [32, 45, 32]) : (List Nat)) fun v11 => .go v11 else .go s2) fun s12 => .go s12) = .go s13) : s13.length ≤ s2.length + 3 := by
  rw [show_sep] at h
  injection h with h
  rw [← h]
  exact showSep_len _ _
theorem show_inv {ts : List Tm} (h : TermsOk ts) {i : Nat} {s s2 : List Nat} {y : Tm} (hy : ts[i]? = some y) (hv : s.length ≤ 43 * i) (e : (Ctl.bind (S := (List Nat)) (if ((!(decide (s = ([] : List Nat)))) && (decide (y.1 = (1 : Int)))) = true then bnd ((s ++ [32, 43, 32]) : (List Nat)) fun v9 => (.go v9 : Ctl (List Nat) (List Nat)) else Ctl.bind (S := (List Nat)) (if (!(decide (s = ([] : List Nat)))) = true then bnd ((s ++ [32, 45, 32]) : (List Nat)) fun v11 => .go v11 else .go s) fun s12 => .go s12) fun s13 => bnd ((s13 ++ (showTermL y.2.1 y.2.2)) : (List Nat)) fun v14 => .go v14) = .go s2) : s2.length ≤ 43 * (i + 1) := by
  rw [show_sep] at e
  injection e with e
  have q1 := wordL_len (term_one (h.all _ (List.mem_of_getElem? hy)))
  have q2 := showSep_len s y
  rw [← e, List.length_append]
  dsimp only [showTermL]
  omega

abbrev sp_show_term (K : PySem.W.Frag) : Sp := spF K (A := (List Nat) × D) (fun a => [(D.str a.1), a.2]) (fun a => TermOk (1, a.1, a.2)) (fun a => .v (D.str (showTermL a.1 a.2)))
theorem ok_show_term {P : Program} {w : World} {K : PySem.W.Frag} {mg : Str → Option Value} {base : Heap} {f : Addr} {fd : FuncData} (F : Fun K "show_term" "show_term" s_show_term f fd) (m_str : mg "str" = none) : FnOk P w K mg base (L2.CX P w) 1 f fd ["sort", "thing"] (sp_show_term K) := by
  refine def_ok F sc_show_term (fun _ => rfl) (fun a hp X E e1 e2 e3 e4 e5 hX => ?_)
  subst e1 e2 e3 e4 e5
  have h := bd_show_term X E hX m_str a.1 a.2 hp
  rw [m_show_term_eq a.1 a.2] at h
  exact h
abbrev s_show_expr : Stmt := top 2
abbrev nm_show_expr : List Str := ["terms", "text", "sign", "sort", "thing"]
theorem sc_show_expr : FnScope nm_show_expr ["terms"] (defScope s_show_expr) := ⟨rfl, rfl, rfl, by decide +kernel, rfl, by decide +kernel, by decide +kernel⟩
theorem lk_show_expr_show_term : (defScope s_show_expr).names.lookup ("show_term" : Str) = some .globalImplicit := by decide +kernel
theorem lk_show_expr_sign : (defScope s_show_expr).names.lookup ("sign" : Str) = some .local := by decide +kernel
theorem lk_show_expr_sort : (defScope s_show_expr).names.lookup ("sort" : Str) = some .local := by decide +kernel
theorem lk_show_expr_terms : (defScope s_show_expr).names.lookup ("terms" : Str) = some .local := by decide +kernel
theorem lk_show_expr_text : (defScope s_show_expr).names.lookup ("text" : Str) = some .local := by decide +kernel
theorem lk_show_expr_thing : (defScope s_show_expr).names.lookup ("thing" : Str) = some .local := by decide +kernel
def m_show_expr (a0 : (List (Int × (List Nat) × D))) : Ctl Unit Empty := bnd (([] : List Nat) : (List Nat)) fun v1 => Ctl.bind (S := (List Nat)) (loop (Y := (Int × (List Nat) × D)) (fun (s2 : (List Nat)) (y3 : (Int × (List Nat) × D)) => Ctl.bind (S := (List Nat)) (if ((!(decide (s2 = ([] : List Nat)))) && (decide (y3.1 = (1 : Int)))) = true then bnd ((s2 ++ [32, 43, 32]) : (List Nat)) fun v9 => .go v9 else Ctl.bind (S := (List Nat)) (if (!(decide (s2 = ([] : List Nat)))) = true then bnd ((s2 ++ [32, 45, 32]) : (List Nat)) fun v11 => .go v11 else .go s2) fun s12 => .go s12) fun s13 => bnd ((s13 ++ (showTermL y3.2.1 y3.2.2)) : (List Nat)) fun v14 => .go v14) v1 a0) fun s15 => .ret (.v (D.str s15))
theorem bd_show_expr (X : Cx) (E : XK) (hX : XOk 1 nm_show_expr (defScope s_show_expr) X E) (kn_show_term : KnX X "show_term" 1 (sp_show_term X.K)) (a0 : (List (Int × (List Nat) × D))) (hp : TermsOk a0) : BK X E ([.d (D.lst (List.map (fun z : (Int × (List Nat) × D) => (D.tup [(D.int z.1), (D.str z.2.1), z.2.2])) a0)), .un, .un, .un, .un] : List B) (defBody s_show_expr) (fun s : Unit => List.replicate 5 B.un) (fun s : Empty => nomatch s) (m_show_expr a0) := by
  unfold m_show_expr
  exact (b_set 1 D.str hX rfl (loc_l lk_show_expr_text) (ed_str [] (by decide +kernel)) (fun v1 hv1 => (show BK X E ([.d (D.lst (List.map (fun z : (Int × (List Nat) × D) => (D.tup [(D.int z.1), (D.str z.2.1), z.2.2])) a0)), .d (D.str v1), .un, .un, .un] : List B) _ _ _ _ from (b_for (Γl := (fun s2 : (List Nat) => ([.d (D.lst (List.map (fun z : (Int × (List Nat) × D) => (D.tup [(D.int z.1), (D.str z.2.1), z.2.2])) a0)), .d (D.str s2), .un, .un, .un] : List B))) (g := (gTup X.K 3 (gCons (gName 2) (gCons (gName 3) (gCons (gName 4) gNil))))) (js := [2, 3, 4]) (fun (i : Nat) (s : List Nat) => s.length ≤ 43 * i) (fun z : (Int × (List Nat) × D) => (D.tup [(D.int z.1), (D.str z.2.1), z.2.2])) (fun (s2 : (List Nat)) (y3 : (Int × (List Nat) × D)) => Ctl.bind (S := (List Nat)) (if ((!(decide (s2 = ([] : List Nat)))) && (decide (y3.1 = (1 : Int)))) = true then bnd ((s2 ++ [32, 43, 32]) : (List Nat)) fun v9 => .go v9 else Ctl.bind (S := (List Nat)) (if (!(decide (s2 = ([] : List Nat)))) = true then bnd ((s2 ++ [32, 45, 32]) : (List Nat)) fun v11 => .go v11 else .go s2) fun s12 => .go s12) fun s13 => bnd ((s13 ++ (showTermL y3.2.1 y3.2.2)) : (List Nat)) fun v14 => .go v14) v1 a0 (fun (s2 : (List Nat)) (y3 : (Int × (List Nat) × D)) => ([.d (D.lst (List.map (fun z : (Int × (List Nat) × D) => (D.tup [(D.int z.1), (D.str z.2.1), z.2.2])) a0)), .d (D.str s2), .d (D.int y3.1), .d (D.str y3.2.1), .d y3.2.2] : List B)) hX (.keep (.keep (.keep (.keep (.keep .nil))))) (by subst_vars; exact Nat.le_refl _) (it_lst (ed_var 0 (hX.nm rfl) (hX.vs (vis_l lk_show_expr_terms)) rfl)) (pg_tup hX.calm (pgs_cons (pg_name (i := 2) hX.nd (hX.nm rfl) (hX.lc (loc_l lk_show_expr_sign)) (.inl (hX.fn _))) (pgs_cons (pg_name (i := 3) hX.nd (hX.nm rfl) (hX.lc (loc_l lk_show_expr_sort)) (.inl (hX.fn _))) (pgs_cons (pg_name (i := 4) hX.nd (hX.nm rfl) (hX.lc (loc_l lk_show_expr_thing)) (.inl (hX.fn _))) pgs_nil)))) (fun s2 y3 => (tg_tup (tgs_cons 2 (tgs_cons 3 (tgs_cons 4 tgs_nil))) rfl)) (fun i4 s2 y3 hi5 hv6 => (b_ifj (Γj := (fun s13 : (List Nat) => ([.d (D.lst (List.map (fun z : (Int × (List Nat) × D) => (D.tup [(D.int z.1), (D.str z.2.1), z.2.2])) a0)), .d (D.str s13), .d (D.int y3.1), .d (D.str y3.2.1), .d y3.2.2] : List B))) (et_w (ew_and (et_cmp (od_neS _ _) (ed_var 1 (hX.nm rfl) (hX.vs (vis_l lk_show_expr_text)) rfl) (ed_str [] (by decide +kernel))) (fun h7 => (ew_and1 (et_cmp (od_eqI _ _) (ed_var 2 (hX.nm rfl) (hX.vs (vis_l lk_show_expr_sign)) rfl) ed_int))))) (fun h8 => (b_set 1 D.str hX rfl (loc_l lk_show_expr_text) (ed_op (od_addS _ _ (by first | decide | omega | (unfold CMul; omega) | (dsimp only; omega) | (rw [sizeLine_eq]; omega) | (have := hp.few; rw [sizeLine_eq]; omega) | exact term_one (hp.all _ (List.mem_of_getElem? hi5)) | (have q1 := wordL_len (term_one (hp.all _ (List.mem_of_getElem? hi5))); have q2 := show_i hp hi5; (try have q3 := show_s «hs»); (try dsimp only [showTermL]); rw [sizeLine_eq]; (try simp only [List.length_cons, List.length_nil]); omega))) (ed_var 1 (hX.nm rfl) (hX.vs (vis_l lk_show_expr_text)) rfl) (ed_str [32, 43, 32] (by decide +kernel))) (fun v9 hv9 => (show BK X E ([.d (D.lst (List.map (fun z : (Int × (List Nat) × D) => (D.tup [(D.int z.1), (D.str z.2.1), z.2.2])) a0)), .d (D.str v9), .d (D.int y3.1), .d (D.str y3.2.1), .d y3.2.2] : List B) _ _ _ _ from (b_nil (.keep (.keep (.keep (.keep (.keep .nil)))))))))) (fun h8 => (b_ifj (Γj := (fun s12 : (List Nat) => ([.d (D.lst (List.map (fun z : (Int × (List Nat) × D) => (D.tup [(D.int z.1), (D.str z.2.1), z.2.2])) a0)), .d (D.str s12), .d (D.int y3.1), .d (D.str y3.2.1), .d y3.2.2] : List B))) (et_cmp (od_neS _ _) (ed_var 1 (hX.nm rfl) (hX.vs (vis_l lk_show_expr_text)) rfl) (ed_str [] (by decide +kernel))) (fun h10 => (b_set 1 D.str hX rfl (loc_l lk_show_expr_text) (ed_op (od_addS _ _ (by first | decide | omega | (unfold CMul; omega) | (dsimp only; omega) | (rw [sizeLine_eq]; omega) | (have := hp.few; rw [sizeLine_eq]; omega) | exact term_one (hp.all _ (List.mem_of_getElem? hi5)) | (have q1 := wordL_len (term_one (hp.all _ (List.mem_of_getElem? hi5))); have q2 := show_i hp hi5; (try have q3 := show_s «hs»); (try dsimp only [showTermL]); rw [sizeLine_eq]; (try simp only [List.length_cons, List.length_nil]); omega))) (ed_var 1 (hX.nm rfl) (hX.vs (vis_l lk_show_expr_text)) rfl) (ed_str [32, 45, 32] (by decide +kernel))) (fun v11 hv11 => (show BK X E ([.d (D.lst (List.map (fun z : (Int × (List Nat) × D) => (D.tup [(D.int z.1), (D.str z.2.1), z.2.2])) a0)), .d (D.str v11), .d (D.int y3.1), .d (D.str y3.2.1), .d y3.2.2] : List B) _ _ _ _ from (b_nil (.keep (.keep (.keep (.keep (.keep .nil)))))))))) (fun h10 => (b_nil (.keep (.keep (.keep (.keep (.keep .nil))))))) (fun s12 hs12 => (b_nil (.keep (.keep (.keep (.keep (.keep .nil))))))))) (fun s13 hs13 => (b_set 1 D.str hX rfl (loc_l lk_show_expr_text) (ed_op (od_addS _ _ (by first | decide | omega | (unfold CMul; omega) | (dsimp only; omega) | (rw [sizeLine_eq]; omega) | (have := hp.few; rw [sizeLine_eq]; omega) | exact term_one (hp.all _ (List.mem_of_getElem? hi5)) | (have q1 := wordL_len (term_one (hp.all _ (List.mem_of_getElem? hi5))); have q2 := show_i hp hi5; (try have q3 := show_s hs13); (try dsimp only [showTermL]); rw [sizeLine_eq]; (try simp only [List.length_cons, List.length_nil]); omega))) (ed_var 1 (hX.nm rfl) (hX.vs (vis_l lk_show_expr_text)) rfl) (ed_call ((y3.2.1, y3.2.2) : (List Nat) × D) kn_show_term (hX.room.mono (by decide)) (hX.gl lk_show_expr_show_term) (ea_cons (ed_var 3 (hX.nm rfl) (hX.vs (vis_l lk_show_expr_sort)) rfl) (ea_cons (ed_var 4 (hX.nm rfl) (hX.vs (vis_l lk_show_expr_thing)) rfl) ea_nil)) (by first | decide | omega | (unfold CMul; omega) | (dsimp only; omega) | (rw [sizeLine_eq]; omega) | (have := hp.few; rw [sizeLine_eq]; omega) | exact term_one (hp.all _ (List.mem_of_getElem? hi5)) | (have q1 := wordL_len (term_one (hp.all _ (List.mem_of_getElem? hi5))); have q2 := show_i hp hi5; (try have q3 := show_s hs13); (try dsimp only [showTermL]); rw [sizeLine_eq]; (try simp only [List.length_cons, List.length_nil]); omega)) rfl)) (fun v14 hv14 => (show BK X E ([.d (D.lst (List.map (fun z : (Int × (List Nat) × D) => (D.tup [(D.int z.1), (D.str z.2.1), z.2.2])) a0)), .d (D.str v14), .d (D.int y3.1), .d (D.str y3.2.1), .d y3.2.2] : List B) _ _ _ _ from (b_nil (.keep (.keep (.drop (.drop (.drop .nil)))))))))))) (fun i s y s2 hy hv e => show_inv hp hy hv e) (fun s15 hs15 => (show BK X E ([.d (D.lst (List.map (fun z : (Int × (List Nat) × D) => (D.tup [(D.int z.1), (D.str z.2.1), z.2.2])) a0)), .d (D.str s15), .un, .un, .un] : List B) _ _ _ _ from (b_ret (ed_var 1 (hX.nm rfl) (hX.vs (vis_l lk_show_expr_text)) rfl))))))))
def showL (ts : List Tm) : List Nat := ts.foldl (fun s t => showSep s t ++ showTermL t.2.1 t.2.2) []
theorem m_show_expr_eq (ts : List Tm) : m_show_expr ts = .ret (.v (.str (showL ts))) := by
  unfold m_show_expr showL
  simp only [show_sep, Ctl.bind_go]
  simp only [bnd]
  rw [loop_foldl (T := Empty) (f := fun (s : List Nat) (t : Tm) => showSep s t ++ showTermL t.2.1 t.2.2)]
  rfl
theorem showTerm_word {t : Tm} : showTermL t.2.1 t.2.2 = wordL t := rfl
theorem sgL_of (t : Tm) : sgL t = if decide (t.1 = 1) = true then [32, 43, 32] else [32, 45, 32] := by
  unfold sgL
  cases decide (t.1 = 1) <;> rfl
theorem show_fold : ∀ (ts : List Tm) (s : List Nat), s ≠ [] → ts.foldl (fun s t => showSep s t ++ showTermL t.2.1 t.2.2) s = ts.foldl (fun s t => s ++ sgL t ++ wordL t) s
  | [], _, _ => rfl
  | t :: ts, s, h => by
    have e : showSep s t = s ++ sgL t := by
      unfold showSep
      rw [sgL_of, decide_eq_false h]
      cases decide (t.1 = 1) <;> rfl
    rw [List.foldl_cons, List.foldl_cons, e, showTerm_word]
    refine show_fold ts _ fun z => h ?_
    have q := congrArg List.length z
    simp only [List.length_append, List.length_nil] at q
    exact List.eq_nil_of_length_eq_zero (by omega)
theorem joinN_ne {ns : List (List Nat)} (h : Names4 ns) : joinS [46] ns ≠ [] := fun z => by
  cases ns with
  | nil => exact absurd h.pos (by decide)
  | cons p r =>
    have q := joinL_pos13 (s := [46]) (r := r) (h.short p (by simp)).1
    rw [joinS_eq] at z
    rw [z] at q
    exact absurd q (by decide)
theorem wordL_ne {t : Tm} (h : TermOk t) : wordL t ≠ [] := by
  rcases h.th with ⟨h1, n, h2, _⟩ | ⟨h1 | h1, ns, h2, h3⟩
  · rw [wordL_num h1 h2]
    exact TL.numL_ne n
  · rw [wordL_path h1 h2]
    exact joinN_ne h3
  · rw [wordL_call h1 h2]
    simp
theorem show_text {ts : List Tm} (h : TermsOk ts) : showL ts = textL ts := by
  cases ts with
  | nil => exact absurd h.pos (by decide)
  | cons t ts =>
    unfold showL textL
    rw [List.foldl_cons, cut_one, ix_zero]
    have e : showSep [] t ++ showTermL t.2.1 t.2.2 = wordL t := rfl
    rw [e]
    exact show_fold ts _ (wordL_ne (h.all t (by simp)))
theorem show_len {ts : List Tm} (h : TermsOk ts) : (showL ts).length ≤ 1000 := by
  rw [show_text h]
  exact textL_len h
abbrev sp_show_expr (K : PySem.W.Frag) : Sp := spF K (A := (List (Int × (List Nat) × D))) (fun a => [(D.lst (List.map (fun z : (Int × (List Nat) × D) => (D.tup [(D.int z.1), (D.str z.2.1), z.2.2])) a))]) (fun a => TermsOk a) (fun a => .v (D.str (showL a)))
theorem ok_show_expr {P : Program} {w : World} {K : PySem.W.Frag} {mg : Str → Option Value} {base : Heap} {f : Addr} {fd : FuncData} (F : Fun K "show_expr" "show_expr" s_show_expr f fd) (kn_show_term : Kn P w K mg base "show_term" 1 (sp_show_term K)) : FnOk P w K mg base (L2.CX P w) 2 f fd ["terms"] (sp_show_expr K) := by
  refine def_ok F sc_show_expr (fun _ => rfl) (fun a hp X E e1 e2 e3 e4 e5 hX => ?_)
  subst e1 e2 e3 e4 e5
  have h := bd_show_expr X E hX kn_show_term a hp
  rw [m_show_expr_eq a] at h
  exact h
abbrev s_Let___init : Stmt := clsAt (top 5) 0
abbrev nm_Let___init : List Str := ["self", "name", "terms"]
theorem sc_Let___init : FnScope nm_Let___init ["self", "name", "terms"] (defScope s_Let___init) := ⟨rfl, rfl, rfl, by decide +kernel, rfl, by decide +kernel, by decide +kernel⟩
theorem lk_Let___init_list : (defScope s_Let___init).names.lookup ("list" : Str) = some .globalImplicit := by decide +kernel
theorem lk_Let___init_name : (defScope s_Let___init).names.lookup ("name" : Str) = some .local := by decide +kernel
theorem lk_Let___init_self : (defScope s_Let___init).names.lookup ("self" : Str) = some .local := by decide +kernel
theorem lk_Let___init_terms : (defScope s_Let___init).names.lookup ("terms" : Str) = some .local := by decide +kernel
def mkLet (a0 : (List Nat)) (a1 : (List (Int × (List Nat) × D))) : ((List Nat) × (List (Int × (List Nat) × D))) := (a0, a1)
theorem bd_Let_init (X : Cx) (E : XK) (hX : XOk 0 nm_Let___init (defScope s_Let___init) X E) (m_list : X.mg "list" = none) (fa_Let_name : FldA X.K "Let" "name") (fa_Let_terms : FldA X.K "Let" "terms") (a0 : (List Nat)) (a1 : (List (Int × (List Nat) × D))) {x dx C : Addr} (hC : ClsA X.K "Let" C) : BI X x dx C ([.un, .d (D.str a0), .bor (List.map (fun z : (Int × (List Nat) × D) => (D.tup [(D.int z.1), (D.str z.2.1), z.2.2])) a1)] : List B) (defBody s_Let___init) [] [("name", (D.str a0)), ("terms", (D.lst (List.map (fun z : (Int × (List Nat) × D) => (D.tup [(D.int z.1), (D.str z.2.1), z.2.2])) a1)))] := (bi_fld hX rfl (vis_l lk_Let___init_self) hC.cl (fa_Let_name.no hC) (ed_var 1 (hX.nm rfl) (hX.vs (vis_l lk_Let___init_name)) rfl) (by first | decide | (simp only [putD]; (repeat' split) <;> simp)) (bi_fld hX rfl (vis_l lk_Let___init_self) hC.cl (fa_Let_terms.no hC) (EvO.frz (eo_listL (hX.gl lk_Let___init_list) m_list (el_bor 2 (hX.nm rfl) (hX.vs (vis_l lk_Let___init_terms)) rfl))) (by first | decide | (simp only [putD]; (repeat' split) <;> simp)) bi_nil))
abbrev sp_Let_init (K : PySem.W.Frag) : Sp := spJ K "Let" (A := (List Nat) × (List (Int × (List Nat) × D))) (fun a => [.d (D.str a.1), .l (List.map (fun z : (Int × (List Nat) × D) => (D.tup [(D.int z.1), (D.str z.2.1), z.2.2])) a.2)]) (fun a => True) (fun a => [("name", (D.str (mkLet a.1 a.2).1)), ("terms", (D.lst (List.map (fun z : (Int × (List Nat) × D) => (D.tup [(D.int z.1), (D.str z.2.1), z.2.2])) (mkLet a.1 a.2).2)))])
theorem ok_Let_init {P : Program} {w : World} {K : PySem.W.Frag} {mg : Str → Option Value} {base : Heap} {f : Addr} {fd : FuncData} (F : Fun K "__init__" "Let.__init__" s_Let___init f fd) (m_list : mg "list" = none) (fa_Let_name : FldA K "Let" "name") (fa_Let_terms : FldA K "Let" "terms") : FnOk P w K mg base (L2.CX P w) 1 f fd ["self", "name", "terms"] (sp_Let_init K) := by
  refine init_okJ F sc_Let___init (fun _ => rfl) (fun a hp X E e1 e2 e3 e4 e5 hX x dx C hC => ?_)
  subst e1 e2 e3 e4 e5
  exact bd_Let_init X E hX m_list fa_Let_name fa_Let_terms a.1 a.2 hC
abbrev s_Deed___init : Stmt := clsAt (top 6) 0
abbrev nm_Deed___init : List Str := ["self", "name", "terms"]
theorem sc_Deed___init : FnScope nm_Deed___init ["self", "name", "terms"] (defScope s_Deed___init) := ⟨rfl, rfl, rfl, by decide +kernel, rfl, by decide +kernel, by decide +kernel⟩
theorem lk_Deed___init_list : (defScope s_Deed___init).names.lookup ("list" : Str) = some .globalImplicit := by decide +kernel
theorem lk_Deed___init_name : (defScope s_Deed___init).names.lookup ("name" : Str) = some .local := by decide +kernel
theorem lk_Deed___init_self : (defScope s_Deed___init).names.lookup ("self" : Str) = some .local := by decide +kernel
theorem lk_Deed___init_terms : (defScope s_Deed___init).names.lookup ("terms" : Str) = some .local := by decide +kernel
def mkDeed (a0 : (List Nat)) (a1 : (List (Int × (List Nat) × D))) : ((List Nat) × (List (Int × (List Nat) × D))) := (a0, a1)
theorem bd_Deed_init (X : Cx) (E : XK) (hX : XOk 0 nm_Deed___init (defScope s_Deed___init) X E) (m_list : X.mg "list" = none) (fa_Deed_name : FldA X.K "Deed" "name") (fa_Deed_terms : FldA X.K "Deed" "terms") (a0 : (List Nat)) (a1 : (List (Int × (List Nat) × D))) {x dx C : Addr} (hC : ClsA X.K "Deed" C) : BI X x dx C ([.un, .d (D.str a0), .bor (List.map (fun z : (Int × (List Nat) × D) => (D.tup [(D.int z.1), (D.str z.2.1), z.2.2])) a1)] : List B) (defBody s_Deed___init) [] [("name", (D.str a0)), ("terms", (D.lst (List.map (fun z : (Int × (List Nat) × D) => (D.tup [(D.int z.1), (D.str z.2.1), z.2.2])) a1)))] := (bi_fld hX rfl (vis_l lk_Deed___init_self) hC.cl (fa_Deed_name.no hC) (ed_var 1 (hX.nm rfl) (hX.vs (vis_l lk_Deed___init_name)) rfl) (by first | decide | (simp only [putD]; (repeat' split) <;> simp)) (bi_fld hX rfl (vis_l lk_Deed___init_self) hC.cl (fa_Deed_terms.no hC) (EvO.frz (eo_listL (hX.gl lk_Deed___init_list) m_list (el_bor 2 (hX.nm rfl) (hX.vs (vis_l lk_Deed___init_terms)) rfl))) (by first | decide | (simp only [putD]; (repeat' split) <;> simp)) bi_nil))
abbrev sp_Deed_init (K : PySem.W.Frag) : Sp := spJ K "Deed" (A := (List Nat) × (List (Int × (List Nat) × D))) (fun a => [.d (D.str a.1), .l (List.map (fun z : (Int × (List Nat) × D) => (D.tup [(D.int z.1), (D.str z.2.1), z.2.2])) a.2)]) (fun a => True) (fun a => [("name", (D.str (mkDeed a.1 a.2).1)), ("terms", (D.lst (List.map (fun z : (Int × (List Nat) × D) => (D.tup [(D.int z.1), (D.str z.2.1), z.2.2])) (mkDeed a.1 a.2).2)))])
theorem ok_Deed_init {P : Program} {w : World} {K : PySem.W.Frag} {mg : Str → Option Value} {base : Heap} {f : Addr} {fd : FuncData} (F : Fun K "__init__" "Deed.__init__" s_Deed___init f fd) (m_list : mg "list" = none) (fa_Deed_name : FldA K "Deed" "name") (fa_Deed_terms : FldA K "Deed" "terms") : FnOk P w K mg base (L2.CX P w) 1 f fd ["self", "name", "terms"] (sp_Deed_init K) := by
  refine init_okJ F sc_Deed___init (fun _ => rfl) (fun a hp X E e1 e2 e3 e4 e5 hX x dx C hC => ?_)
  subst e1 e2 e3 e4 e5
  exact bd_Deed_init X E hX m_list fa_Deed_name fa_Deed_terms a.1 a.2 hC
abbrev s_Draw___init : Stmt := clsAt (top 7) 0
abbrev nm_Draw___init : List Str := ["self", "address", "name"]
theorem sc_Draw___init : FnScope nm_Draw___init ["self", "address", "name"] (defScope s_Draw___init) := ⟨rfl, rfl, rfl, by decide +kernel, rfl, by decide +kernel, by decide +kernel⟩
theorem lk_Draw___init_address : (defScope s_Draw___init).names.lookup ("address" : Str) = some .local := by decide +kernel
theorem lk_Draw___init_name : (defScope s_Draw___init).names.lookup ("name" : Str) = some .local := by decide +kernel
theorem lk_Draw___init_self : (defScope s_Draw___init).names.lookup ("self" : Str) = some .local := by decide +kernel
def mkDraw (a0 : (List Nat)) (a1 : (List Nat)) : ((List Nat) × (List Nat)) := (a0, a1)
theorem bd_Draw_init (X : Cx) (E : XK) (hX : XOk 0 nm_Draw___init (defScope s_Draw___init) X E) (fa_Draw_address : FldA X.K "Draw" "address") (fa_Draw_name : FldA X.K "Draw" "name") (a0 : (List Nat)) (a1 : (List Nat)) {x dx C : Addr} (hC : ClsA X.K "Draw" C) : BI X x dx C ([.un, .d (D.str a0), .d (D.str a1)] : List B) (defBody s_Draw___init) [] [("address", (D.str a0)), ("name", (D.str a1))] := (bi_fld hX rfl (vis_l lk_Draw___init_self) hC.cl (fa_Draw_address.no hC) (ed_var 1 (hX.nm rfl) (hX.vs (vis_l lk_Draw___init_address)) rfl) (by first | decide | (simp only [putD]; (repeat' split) <;> simp)) (bi_fld hX rfl (vis_l lk_Draw___init_self) hC.cl (fa_Draw_name.no hC) (ed_var 2 (hX.nm rfl) (hX.vs (vis_l lk_Draw___init_name)) rfl) (by first | decide | (simp only [putD]; (repeat' split) <;> simp)) bi_nil))
abbrev sp_Draw_init (K : PySem.W.Frag) : Sp := spI K "Draw" (A := (List Nat) × (List Nat)) (fun a => [(D.str a.1), (D.str a.2)]) (fun a => True) (fun a => [("address", (D.str (mkDraw a.1 a.2).1)), ("name", (D.str (mkDraw a.1 a.2).2))])
theorem ok_Draw_init {P : Program} {w : World} {K : PySem.W.Frag} {mg : Str → Option Value} {base : Heap} {f : Addr} {fd : FuncData} (F : Fun K "__init__" "Draw.__init__" s_Draw___init f fd) (fa_Draw_address : FldA K "Draw" "address") (fa_Draw_name : FldA K "Draw" "name") : FnOk P w K mg base (L2.CX P w) 1 f fd ["self", "address", "name"] (sp_Draw_init K) := by
  refine init_ok F sc_Draw___init (fun _ => rfl) (fun a hp X E e1 e2 e3 e4 e5 hX x dx C hC => ?_)
  subst e1 e2 e3 e4 e5
  exact bd_Draw_init X E hX fa_Draw_address fa_Draw_name a.1 a.2 hC
abbrev s_Late___init : Stmt := clsAt (top 8) 0
abbrev nm_Late___init : List Str := ["self", "address", "name"]
theorem sc_Late___init : FnScope nm_Late___init ["self", "address", "name"] (defScope s_Late___init) := ⟨rfl, rfl, rfl, by decide +kernel, rfl, by decide +kernel, by decide +kernel⟩
theorem lk_Late___init_address : (defScope s_Late___init).names.lookup ("address" : Str) = some .local := by decide +kernel
theorem lk_Late___init_name : (defScope s_Late___init).names.lookup ("name" : Str) = some .local := by decide +kernel
theorem lk_Late___init_self : (defScope s_Late___init).names.lookup ("self" : Str) = some .local := by decide +kernel
def mkLate (a0 : (List Nat)) (a1 : (List Nat)) : ((List Nat) × (List Nat)) := (a0, a1)
theorem bd_Late_init (X : Cx) (E : XK) (hX : XOk 0 nm_Late___init (defScope s_Late___init) X E) (fa_Late_address : FldA X.K "Late" "address") (fa_Late_name : FldA X.K "Late" "name") (a0 : (List Nat)) (a1 : (List Nat)) {x dx C : Addr} (hC : ClsA X.K "Late" C) : BI X x dx C ([.un, .d (D.str a0), .d (D.str a1)] : List B) (defBody s_Late___init) [] [("address", (D.str a0)), ("name", (D.str a1))] := (bi_fld hX rfl (vis_l lk_Late___init_self) hC.cl (fa_Late_address.no hC) (ed_var 1 (hX.nm rfl) (hX.vs (vis_l lk_Late___init_address)) rfl) (by first | decide | (simp only [putD]; (repeat' split) <;> simp)) (bi_fld hX rfl (vis_l lk_Late___init_self) hC.cl (fa_Late_name.no hC) (ed_var 2 (hX.nm rfl) (hX.vs (vis_l lk_Late___init_name)) rfl) (by first | decide | (simp only [putD]; (repeat' split) <;> simp)) bi_nil))
abbrev sp_Late_init (K : PySem.W.Frag) : Sp := spI K "Late" (A := (List Nat) × (List Nat)) (fun a => [(D.str a.1), (D.str a.2)]) (fun a => True) (fun a => [("address", (D.str (mkLate a.1 a.2).1)), ("name", (D.str (mkLate a.1 a.2).2))])
theorem ok_Late_init {P : Program} {w : World} {K : PySem.W.Frag} {mg : Str → Option Value} {base : Heap} {f : Addr} {fd : FuncData} (F : Fun K "__init__" "Late.__init__" s_Late___init f fd) (fa_Late_address : FldA K "Late" "address") (fa_Late_name : FldA K "Late" "name") : FnOk P w K mg base (L2.CX P w) 1 f fd ["self", "address", "name"] (sp_Late_init K) := by
  refine init_ok F sc_Late___init (fun _ => rfl) (fun a hp X E e1 e2 e3 e4 e5 hX x dx C hC => ?_)
  subst e1 e2 e3 e4 e5
  exact bd_Late_init X E hX fa_Late_address fa_Late_name a.1 a.2 hC
abbrev s_Take___init : Stmt := clsAt (top 9) 0
abbrev nm_Take___init : List Str := ["self", "word", "address", "name"]
theorem sc_Take___init : FnScope nm_Take___init ["self", "word", "address", "name"] (defScope s_Take___init) := ⟨rfl, rfl, rfl, by decide +kernel, rfl, by decide +kernel, by decide +kernel⟩
theorem lk_Take___init_address : (defScope s_Take___init).names.lookup ("address" : Str) = some .local := by decide +kernel
theorem lk_Take___init_name : (defScope s_Take___init).names.lookup ("name" : Str) = some .local := by decide +kernel
theorem lk_Take___init_self : (defScope s_Take___init).names.lookup ("self" : Str) = some .local := by decide +kernel
theorem lk_Take___init_word : (defScope s_Take___init).names.lookup ("word" : Str) = some .local := by decide +kernel
def mkTake (a0 : (List Nat)) (a1 : (List Nat)) (a2 : (List Nat)) : ((List Nat) × (List Nat) × (List Nat)) := (a0, a1, a2)
theorem bd_Take_init (X : Cx) (E : XK) (hX : XOk 0 nm_Take___init (defScope s_Take___init) X E) (fa_Take_address : FldA X.K "Take" "address") (fa_Take_name : FldA X.K "Take" "name") (fa_Take_word : FldA X.K "Take" "word") (a0 : (List Nat)) (a1 : (List Nat)) (a2 : (List Nat)) {x dx C : Addr} (hC : ClsA X.K "Take" C) : BI X x dx C ([.un, .d (D.str a0), .d (D.str a1), .d (D.str a2)] : List B) (defBody s_Take___init) [] [("word", (D.str a0)), ("address", (D.str a1)), ("name", (D.str a2))] := (bi_fld hX rfl (vis_l lk_Take___init_self) hC.cl (fa_Take_word.no hC) (ed_var 1 (hX.nm rfl) (hX.vs (vis_l lk_Take___init_word)) rfl) (by first | decide | (simp only [putD]; (repeat' split) <;> simp)) (bi_fld hX rfl (vis_l lk_Take___init_self) hC.cl (fa_Take_address.no hC) (ed_var 2 (hX.nm rfl) (hX.vs (vis_l lk_Take___init_address)) rfl) (by first | decide | (simp only [putD]; (repeat' split) <;> simp)) (bi_fld hX rfl (vis_l lk_Take___init_self) hC.cl (fa_Take_name.no hC) (ed_var 3 (hX.nm rfl) (hX.vs (vis_l lk_Take___init_name)) rfl) (by first | decide | (simp only [putD]; (repeat' split) <;> simp)) bi_nil)))
abbrev sp_Take_init (K : PySem.W.Frag) : Sp := spI K "Take" (A := (List Nat) × (List Nat) × (List Nat)) (fun a => [(D.str a.1), (D.str a.2.1), (D.str a.2.2)]) (fun a => True) (fun a => [("word", (D.str (mkTake a.1 a.2.1 a.2.2).1)), ("address", (D.str (mkTake a.1 a.2.1 a.2.2).2.1)), ("name", (D.str (mkTake a.1 a.2.1 a.2.2).2.2))])
theorem ok_Take_init {P : Program} {w : World} {K : PySem.W.Frag} {mg : Str → Option Value} {base : Heap} {f : Addr} {fd : FuncData} (F : Fun K "__init__" "Take.__init__" s_Take___init f fd) (fa_Take_address : FldA K "Take" "address") (fa_Take_name : FldA K "Take" "name") (fa_Take_word : FldA K "Take" "word") : FnOk P w K mg base (L2.CX P w) 1 f fd ["self", "word", "address", "name"] (sp_Take_init K) := by
  refine init_ok F sc_Take___init (fun _ => rfl) (fun a hp X E e1 e2 e3 e4 e5 hX x dx C hC => ?_)
  subst e1 e2 e3 e4 e5
  exact bd_Take_init X E hX fa_Take_address fa_Take_name fa_Take_word a.1 a.2.1 a.2.2 hC
abbrev s_Need___init : Stmt := clsAt (top 10) 0
abbrev nm_Need___init : List Str := ["self", "terms"]
theorem sc_Need___init : FnScope nm_Need___init ["self", "terms"] (defScope s_Need___init) := ⟨rfl, rfl, rfl, by decide +kernel, rfl, by decide +kernel, by decide +kernel⟩
theorem lk_Need___init_list : (defScope s_Need___init).names.lookup ("list" : Str) = some .globalImplicit := by decide +kernel
theorem lk_Need___init_self : (defScope s_Need___init).names.lookup ("self" : Str) = some .local := by decide +kernel
theorem lk_Need___init_terms : (defScope s_Need___init).names.lookup ("terms" : Str) = some .local := by decide +kernel
def mkNeed (a0 : (List (Int × (List Nat) × D))) : ((List (Int × (List Nat) × D))) := a0
theorem bd_Need_init (X : Cx) (E : XK) (hX : XOk 0 nm_Need___init (defScope s_Need___init) X E) (m_list : X.mg "list" = none) (fa_Need_terms : FldA X.K "Need" "terms") (a0 : (List (Int × (List Nat) × D))) {x dx C : Addr} (hC : ClsA X.K "Need" C) : BI X x dx C ([.un, .bor (List.map (fun z : (Int × (List Nat) × D) => (D.tup [(D.int z.1), (D.str z.2.1), z.2.2])) a0)] : List B) (defBody s_Need___init) [] [("terms", (D.lst (List.map (fun z : (Int × (List Nat) × D) => (D.tup [(D.int z.1), (D.str z.2.1), z.2.2])) a0)))] := (bi_fld hX rfl (vis_l lk_Need___init_self) hC.cl (fa_Need_terms.no hC) (EvO.frz (eo_listL (hX.gl lk_Need___init_list) m_list (el_bor 1 (hX.nm rfl) (hX.vs (vis_l lk_Need___init_terms)) rfl))) (by first | decide | (simp only [putD]; (repeat' split) <;> simp)) bi_nil)
abbrev sp_Need_init (K : PySem.W.Frag) : Sp := spJ K "Need" (A := (List (Int × (List Nat) × D))) (fun a => [.l (List.map (fun z : (Int × (List Nat) × D) => (D.tup [(D.int z.1), (D.str z.2.1), z.2.2])) a)]) (fun a => True) (fun a => [("terms", (D.lst (List.map (fun z : (Int × (List Nat) × D) => (D.tup [(D.int z.1), (D.str z.2.1), z.2.2])) (mkNeed a))))])
theorem ok_Need_init {P : Program} {w : World} {K : PySem.W.Frag} {mg : Str → Option Value} {base : Heap} {f : Addr} {fd : FuncData} (F : Fun K "__init__" "Need.__init__" s_Need___init f fd) (m_list : mg "list" = none) (fa_Need_terms : FldA K "Need" "terms") : FnOk P w K mg base (L2.CX P w) 1 f fd ["self", "terms"] (sp_Need_init K) := by
  refine init_okJ F sc_Need___init (fun _ => rfl) (fun a hp X E e1 e2 e3 e4 e5 hX x dx C hC => ?_)
  subst e1 e2 e3 e4 e5
  exact bd_Need_init X E hX m_list fa_Need_terms a hC
abbrev s_Let_binds : Stmt := clsAt (top 5) 1
abbrev nm_Let_binds : List Str := ["self"]
theorem sc_Let_binds : FnScope nm_Let_binds ["self"] (defScope s_Let_binds) := ⟨rfl, rfl, rfl, by decide +kernel, rfl, by decide +kernel, by decide +kernel⟩
theorem lk_Let_binds_self : (defScope s_Let_binds).names.lookup ("self" : Str) = some .local := by decide +kernel
def m_Let_binds (a0 : ((List Nat) × (List (Int × (List Nat) × D)))) : Ctl Unit Empty := .ret (.v (D.str a0.1))
theorem bd_Let_binds (X : Cx) (E : XK) (hX : XOk 0 nm_Let_binds (defScope s_Let_binds) X E) (fa_Let_name : FldA X.K "Let" "name") (a0 : ((List Nat) × (List (Int × (List Nat) × D)))) : BK X E ([.d (D.ins "Let" [("name", (D.str a0.1)), ("terms", (D.lst (List.map (fun z : (Int × (List Nat) × D) => (D.tup [(D.int z.1), (D.str z.2.1), z.2.2])) a0.2)))])] : List B) (defBody s_Let_binds) (fun s : Unit => List.replicate 1 B.un) (fun s : Empty => nomatch s) (m_Let_binds a0) := by
  unfold m_Let_binds
  exact (b_ret (ed_fld (ed_var 0 (hX.nm rfl) (hX.vs (vis_l lk_Let_binds_self)) rfl) fa_Let_name rfl))
def bindsLet (a0 : ((List Nat) × (List (Int × (List Nat) × D)))) : (List Nat) := outS (m_Let_binds a0)
theorem m_Let_binds_eq (a0 : ((List Nat) × (List (Int × (List Nat) × D)))) : m_Let_binds a0 = .ret (.v (D.str (bindsLet a0))) := by
  unfold bindsLet
  exact (show ∀ c : Ctl Unit Empty, (∃ z, c = .ret (.v (D.str z))) → c = .ret (.v (D.str (outS c))) from fun c ⟨z, h⟩ => by rw [h]; rfl) _ (by unfold m_Let_binds; (try simp only [bnd]); (repeat' split) <;> first | exact ⟨_, rfl⟩ | (exfalso; simp_all))
abbrev sp_Let_binds (K : PySem.W.Frag) : Sp := spF K (A := ((List Nat) × (List (Int × (List Nat) × D)))) (fun a => [(D.ins "Let" [("name", (D.str a.1)), ("terms", (D.lst (List.map (fun z : (Int × (List Nat) × D) => (D.tup [(D.int z.1), (D.str z.2.1), z.2.2])) a.2)))])]) (fun a => True) (fun a => .v (D.str (bindsLet a)))
theorem ok_Let_binds {P : Program} {w : World} {K : PySem.W.Frag} {mg : Str → Option Value} {base : Heap} {f : Addr} {fd : FuncData} (F : Fun K "binds" "Let.binds" s_Let_binds f fd) (fa_Let_name : FldA K "Let" "name") : FnOk P w K mg base (L2.CX P w) 1 f fd ["self"] (sp_Let_binds K) := by
  refine def_ok F sc_Let_binds (fun _ => rfl) (fun a hp X E e1 e2 e3 e4 e5 hX => ?_)
  subst e1 e2 e3 e4 e5
  have h := bd_Let_binds X E hX fa_Let_name a
  rw [m_Let_binds_eq a] at h
  exact h
abbrev s_Row_asked : Stmt := clsAt (top 4) 1
abbrev nm_Row_asked : List Str := ["self"]
theorem sc_Row_asked : FnScope nm_Row_asked ["self"] (defScope s_Row_asked) := ⟨rfl, rfl, rfl, by decide +kernel, rfl, by decide +kernel, by decide +kernel⟩
def m_Let_asked (a0 : ((List Nat) × (List (Int × (List Nat) × D)))) : Ctl Unit Empty := .ret (.o (.lst (List.map D.str ([] : List (List Nat)))))
theorem bd_Let_asked (X : Cx) (E : XK) (hX : XOk 0 nm_Row_asked (defScope s_Row_asked) X E) (a0 : ((List Nat) × (List (Int × (List Nat) × D)))) : BK X E ([.d (D.ins "Let" [("name", (D.str a0.1)), ("terms", (D.lst (List.map (fun z : (Int × (List Nat) × D) => (D.tup [(D.int z.1), (D.str z.2.1), z.2.2])) a0.2)))])] : List B) (defBody s_Row_asked) (fun s : Unit => List.replicate 1 B.un) (fun s : Empty => nomatch s) (m_Let_asked a0) := by
  unfold m_Let_asked
  exact (b_retO (eo_lst ea_nil (by show 0 ≤ sizeLine; decide)))
def askedLet (r : ((List Nat) × (List (Int × (List Nat) × D)))) : List (List Nat) := []
theorem m_Let_asked_eq (r : ((List Nat) × (List (Int × (List Nat) × D)))) : m_Let_asked r = .ret (.o (.lst (List.map D.str (askedLet r)))) := rfl
abbrev sp_Let_asked (K : PySem.W.Frag) : Sp := spF K (A := ((List Nat) × (List (Int × (List Nat) × D)))) (fun a => [(D.ins "Let" [("name", (D.str a.1)), ("terms", (D.lst (List.map (fun z : (Int × (List Nat) × D) => (D.tup [(D.int z.1), (D.str z.2.1), z.2.2])) a.2)))])]) (fun a => True) (fun a => .o (.lst (List.map D.str (askedLet a))))
theorem ok_Let_asked {P : Program} {w : World} {K : PySem.W.Frag} {mg : Str → Option Value} {base : Heap} {f : Addr} {fd : FuncData} (F : Fun K "asked" "Row.asked" s_Row_asked f fd) : FnOk P w K mg base (L2.CX P w) 1 f fd ["self"] (sp_Let_asked K) := by
  refine def_ok F sc_Row_asked (fun _ => rfl) (fun a hp X E e1 e2 e3 e4 e5 hX => ?_)
  subst e1 e2 e3 e4 e5
  have h := bd_Let_asked X E hX a
  rw [m_Let_asked_eq a] at h
  exact h
abbrev s_Let_said : Stmt := clsAt (top 5) 2
abbrev nm_Let_said : List Str := ["self"]
theorem sc_Let_said : FnScope nm_Let_said ["self"] (defScope s_Let_said) := ⟨rfl, rfl, rfl, by decide +kernel, rfl, by decide +kernel, by decide +kernel⟩
theorem lk_Let_said_self : (defScope s_Let_said).names.lookup ("self" : Str) = some .local := by decide +kernel
theorem lk_Let_said_show_expr : (defScope s_Let_said).names.lookup ("show_expr" : Str) = some .globalImplicit := by decide +kernel
def m_Let_said (a0 : ((List Nat) × (List (Int × (List Nat) × D)))) : Ctl Unit Empty := .ret (.v (D.str ((([108, 101, 116, 32] ++ a0.1) ++ [32, 98, 101, 32]) ++ (showL a0.2))))
theorem bd_Let_said (X : Cx) (E : XK) (hX : XOk 2 nm_Let_said (defScope s_Let_said) X E) (kn_show_expr : KnX X "show_expr" 2 (sp_show_expr X.K)) (fa_Let_name : FldA X.K "Let" "name") (fa_Let_terms : FldA X.K "Let" "terms") (a0 : ((List Nat) × (List (Int × (List Nat) × D)))) (hp : a0.1.length ≤ 100 ∧ TermsOk a0.2) : BK X E ([.d (D.ins "Let" [("name", (D.str a0.1)), ("terms", (D.lst (List.map (fun z : (Int × (List Nat) × D) => (D.tup [(D.int z.1), (D.str z.2.1), z.2.2])) a0.2)))])] : List B) (defBody s_Let_said) (fun s : Unit => List.replicate 1 B.un) (fun s : Empty => nomatch s) (m_Let_said a0) := by
  unfold m_Let_said
  exact (b_ret (ed_op (od_addS _ _ (by first | decide | omega | (unfold CMul; omega) | (dsimp only; omega) | (rw [sizeLine_eq]; omega) | exact hp | exact hp.2 | (have q := textL_len ‹TermsOk _›; rw [sizeLine_eq]; simp only [List.length_append, List.length_cons, List.length_nil]; omega) | (obtain ⟨q1, q2⟩ := hp; have q := show_len ‹TermsOk _›; rw [sizeLine_eq]; simp only [List.length_append, List.length_cons, List.length_nil]; omega) | (have q := show_len hp; rw [sizeLine_eq]; simp only [List.length_append, List.length_cons, List.length_nil]; omega) | (rw [sizeLine_eq]; simp only [List.length_append, List.length_cons, List.length_nil]; omega))) (ed_op (od_addS _ _ (by first | decide | omega | (unfold CMul; omega) | (dsimp only; omega) | (rw [sizeLine_eq]; omega) | exact hp | exact hp.2 | (have q := textL_len ‹TermsOk _›; rw [sizeLine_eq]; simp only [List.length_append, List.length_cons, List.length_nil]; omega) | (obtain ⟨q1, q2⟩ := hp; have q := show_len ‹TermsOk _›; rw [sizeLine_eq]; simp only [List.length_append, List.length_cons, List.length_nil]; omega) | (have q := show_len hp; rw [sizeLine_eq]; simp only [List.length_append, List.length_cons, List.length_nil]; omega) | (rw [sizeLine_eq]; simp only [List.length_append, List.length_cons, List.length_nil]; omega))) (ed_op (od_addS _ _ (by first | decide | omega | (unfold CMul; omega) | (dsimp only; omega) | (rw [sizeLine_eq]; omega) | exact hp | exact hp.2 | (have q := textL_len ‹TermsOk _›; rw [sizeLine_eq]; simp only [List.length_append, List.length_cons, List.length_nil]; omega) | (obtain ⟨q1, q2⟩ := hp; have q := show_len ‹TermsOk _›; rw [sizeLine_eq]; simp only [List.length_append, List.length_cons, List.length_nil]; omega) | (have q := show_len hp; rw [sizeLine_eq]; simp only [List.length_append, List.length_cons, List.length_nil]; omega) | (rw [sizeLine_eq]; simp only [List.length_append, List.length_cons, List.length_nil]; omega))) (ed_str [108, 101, 116, 32] (by decide +kernel)) (ed_fld (ed_var 0 (hX.nm rfl) (hX.vs (vis_l lk_Let_said_self)) rfl) fa_Let_name rfl)) (ed_str [32, 98, 101, 32] (by decide +kernel))) (ed_call a0.2 kn_show_expr (hX.room.mono (by decide)) (hX.gl lk_Let_said_show_expr) (ea_cons (ed_fld (ed_var 0 (hX.nm rfl) (hX.vs (vis_l lk_Let_said_self)) rfl) fa_Let_terms rfl) ea_nil) (by first | decide | omega | (unfold CMul; omega) | (dsimp only; omega) | (rw [sizeLine_eq]; omega) | exact hp | exact hp.2 | (have q := textL_len ‹TermsOk _›; rw [sizeLine_eq]; simp only [List.length_append, List.length_cons, List.length_nil]; omega) | (obtain ⟨q1, q2⟩ := hp; have q := show_len ‹TermsOk _›; rw [sizeLine_eq]; simp only [List.length_append, List.length_cons, List.length_nil]; omega) | (have q := show_len hp; rw [sizeLine_eq]; simp only [List.length_append, List.length_cons, List.length_nil]; omega) | (rw [sizeLine_eq]; simp only [List.length_append, List.length_cons, List.length_nil]; omega)) rfl)))
def saidLet (a0 : ((List Nat) × (List (Int × (List Nat) × D)))) : (List Nat) := outS (m_Let_said a0)
theorem m_Let_said_eq (a0 : ((List Nat) × (List (Int × (List Nat) × D)))) : m_Let_said a0 = .ret (.v (D.str (saidLet a0))) := by
  unfold saidLet
  exact (show ∀ c : Ctl Unit Empty, (∃ z, c = .ret (.v (D.str z))) → c = .ret (.v (D.str (outS c))) from fun c ⟨z, h⟩ => by rw [h]; rfl) _ (by unfold m_Let_said; (try simp only [bnd]); (repeat' split) <;> first | exact ⟨_, rfl⟩ | (exfalso; simp_all))
abbrev sp_Let_said (K : PySem.W.Frag) : Sp := spF K (A := ((List Nat) × (List (Int × (List Nat) × D)))) (fun a => [(D.ins "Let" [("name", (D.str a.1)), ("terms", (D.lst (List.map (fun z : (Int × (List Nat) × D) => (D.tup [(D.int z.1), (D.str z.2.1), z.2.2])) a.2)))])]) (fun a => a.1.length ≤ 100 ∧ TermsOk a.2) (fun a => .v (D.str (saidLet a)))
theorem ok_Let_said {P : Program} {w : World} {K : PySem.W.Frag} {mg : Str → Option Value} {base : Heap} {f : Addr} {fd : FuncData} (F : Fun K "said" "Let.said" s_Let_said f fd) (kn_show_expr : Kn P w K mg base "show_expr" 2 (sp_show_expr K)) (fa_Let_name : FldA K "Let" "name") (fa_Let_terms : FldA K "Let" "terms") : FnOk P w K mg base (L2.CX P w) 3 f fd ["self"] (sp_Let_said K) := by
  refine def_ok F sc_Let_said (fun _ => rfl) (fun a hp X E e1 e2 e3 e4 e5 hX => ?_)
  subst e1 e2 e3 e4 e5
  have h := bd_Let_said X E hX kn_show_expr fa_Let_name fa_Let_terms a hp
  rw [m_Let_said_eq a] at h
  exact h
abbrev s_Deed_binds : Stmt := clsAt (top 6) 1
abbrev nm_Deed_binds : List Str := ["self"]
theorem sc_Deed_binds : FnScope nm_Deed_binds ["self"] (defScope s_Deed_binds) := ⟨rfl, rfl, rfl, by decide +kernel, rfl, by decide +kernel, by decide +kernel⟩
theorem lk_Deed_binds_self : (defScope s_Deed_binds).names.lookup ("self" : Str) = some .local := by decide +kernel
def m_Deed_binds (a0 : ((List Nat) × (List (Int × (List Nat) × D)))) : Ctl Unit Empty := .ret (.v (D.str a0.1))
theorem bd_Deed_binds (X : Cx) (E : XK) (hX : XOk 0 nm_Deed_binds (defScope s_Deed_binds) X E) (fa_Deed_name : FldA X.K "Deed" "name") (a0 : ((List Nat) × (List (Int × (List Nat) × D)))) : BK X E ([.d (D.ins "Deed" [("name", (D.str a0.1)), ("terms", (D.lst (List.map (fun z : (Int × (List Nat) × D) => (D.tup [(D.int z.1), (D.str z.2.1), z.2.2])) a0.2)))])] : List B) (defBody s_Deed_binds) (fun s : Unit => List.replicate 1 B.un) (fun s : Empty => nomatch s) (m_Deed_binds a0) := by
  unfold m_Deed_binds
  exact (b_ret (ed_fld (ed_var 0 (hX.nm rfl) (hX.vs (vis_l lk_Deed_binds_self)) rfl) fa_Deed_name rfl))
def bindsDeed (a0 : ((List Nat) × (List (Int × (List Nat) × D)))) : (List Nat) := outS (m_Deed_binds a0)
theorem m_Deed_binds_eq (a0 : ((List Nat) × (List (Int × (List Nat) × D)))) : m_Deed_binds a0 = .ret (.v (D.str (bindsDeed a0))) := by
  unfold bindsDeed
  exact (show ∀ c : Ctl Unit Empty, (∃ z, c = .ret (.v (D.str z))) → c = .ret (.v (D.str (outS c))) from fun c ⟨z, h⟩ => by rw [h]; rfl) _ (by unfold m_Deed_binds; (try simp only [bnd]); (repeat' split) <;> first | exact ⟨_, rfl⟩ | (exfalso; simp_all))
abbrev sp_Deed_binds (K : PySem.W.Frag) : Sp := spF K (A := ((List Nat) × (List (Int × (List Nat) × D)))) (fun a => [(D.ins "Deed" [("name", (D.str a.1)), ("terms", (D.lst (List.map (fun z : (Int × (List Nat) × D) => (D.tup [(D.int z.1), (D.str z.2.1), z.2.2])) a.2)))])]) (fun a => True) (fun a => .v (D.str (bindsDeed a)))
theorem ok_Deed_binds {P : Program} {w : World} {K : PySem.W.Frag} {mg : Str → Option Value} {base : Heap} {f : Addr} {fd : FuncData} (F : Fun K "binds" "Deed.binds" s_Deed_binds f fd) (fa_Deed_name : FldA K "Deed" "name") : FnOk P w K mg base (L2.CX P w) 1 f fd ["self"] (sp_Deed_binds K) := by
  refine def_ok F sc_Deed_binds (fun _ => rfl) (fun a hp X E e1 e2 e3 e4 e5 hX => ?_)
  subst e1 e2 e3 e4 e5
  have h := bd_Deed_binds X E hX fa_Deed_name a
  rw [m_Deed_binds_eq a] at h
  exact h
def m_Deed_asked (a0 : ((List Nat) × (List (Int × (List Nat) × D)))) : Ctl Unit Empty := .ret (.o (.lst (List.map D.str ([] : List (List Nat)))))
theorem bd_Deed_asked (X : Cx) (E : XK) (hX : XOk 0 nm_Row_asked (defScope s_Row_asked) X E) (a0 : ((List Nat) × (List (Int × (List Nat) × D)))) : BK X E ([.d (D.ins "Deed" [("name", (D.str a0.1)), ("terms", (D.lst (List.map (fun z : (Int × (List Nat) × D) => (D.tup [(D.int z.1), (D.str z.2.1), z.2.2])) a0.2)))])] : List B) (defBody s_Row_asked) (fun s : Unit => List.replicate 1 B.un) (fun s : Empty => nomatch s) (m_Deed_asked a0) := by
  unfold m_Deed_asked
  exact (b_retO (eo_lst ea_nil (by show 0 ≤ sizeLine; decide)))
def askedDeed (r : ((List Nat) × (List (Int × (List Nat) × D)))) : List (List Nat) := []
theorem m_Deed_asked_eq (r : ((List Nat) × (List (Int × (List Nat) × D)))) : m_Deed_asked r = .ret (.o (.lst (List.map D.str (askedDeed r)))) := rfl
abbrev sp_Deed_asked (K : PySem.W.Frag) : Sp := spF K (A := ((List Nat) × (List (Int × (List Nat) × D)))) (fun a => [(D.ins "Deed" [("name", (D.str a.1)), ("terms", (D.lst (List.map (fun z : (Int × (List Nat) × D) => (D.tup [(D.int z.1), (D.str z.2.1), z.2.2])) a.2)))])]) (fun a => True) (fun a => .o (.lst (List.map D.str (askedDeed a))))
theorem ok_Deed_asked {P : Program} {w : World} {K : PySem.W.Frag} {mg : Str → Option Value} {base : Heap} {f : Addr} {fd : FuncData} (F : Fun K "asked" "Row.asked" s_Row_asked f fd) : FnOk P w K mg base (L2.CX P w) 1 f fd ["self"] (sp_Deed_asked K) := by
  refine def_ok F sc_Row_asked (fun _ => rfl) (fun a hp X E e1 e2 e3 e4 e5 hX => ?_)
  subst e1 e2 e3 e4 e5
  have h := bd_Deed_asked X E hX a
  rw [m_Deed_asked_eq a] at h
  exact h
abbrev s_Deed_said : Stmt := clsAt (top 6) 2
abbrev nm_Deed_said : List Str := ["self"]
theorem sc_Deed_said : FnScope nm_Deed_said ["self"] (defScope s_Deed_said) := ⟨rfl, rfl, rfl, by decide +kernel, rfl, by decide +kernel, by decide +kernel⟩
theorem lk_Deed_said_self : (defScope s_Deed_said).names.lookup ("self" : Str) = some .local := by decide +kernel
theorem lk_Deed_said_show_expr : (defScope s_Deed_said).names.lookup ("show_expr" : Str) = some .globalImplicit := by decide +kernel
def m_Deed_said (a0 : ((List Nat) × (List (Int × (List Nat) × D)))) : Ctl Unit Empty := .ret (.v (D.str ((([100, 101, 101, 100, 32] ++ a0.1) ++ [32, 98, 101, 32]) ++ (showL a0.2))))
theorem bd_Deed_said (X : Cx) (E : XK) (hX : XOk 2 nm_Deed_said (defScope s_Deed_said) X E) (kn_show_expr : KnX X "show_expr" 2 (sp_show_expr X.K)) (fa_Deed_name : FldA X.K "Deed" "name") (fa_Deed_terms : FldA X.K "Deed" "terms") (a0 : ((List Nat) × (List (Int × (List Nat) × D)))) (hp : a0.1.length ≤ 100 ∧ TermsOk a0.2) : BK X E ([.d (D.ins "Deed" [("name", (D.str a0.1)), ("terms", (D.lst (List.map (fun z : (Int × (List Nat) × D) => (D.tup [(D.int z.1), (D.str z.2.1), z.2.2])) a0.2)))])] : List B) (defBody s_Deed_said) (fun s : Unit => List.replicate 1 B.un) (fun s : Empty => nomatch s) (m_Deed_said a0) := by
  unfold m_Deed_said
  exact (b_ret (ed_op (od_addS _ _ (by first | decide | omega | (unfold CMul; omega) | (dsimp only; omega) | (rw [sizeLine_eq]; omega) | exact hp | exact hp.2 | (have q := textL_len ‹TermsOk _›; rw [sizeLine_eq]; simp only [List.length_append, List.length_cons, List.length_nil]; omega) | (obtain ⟨q1, q2⟩ := hp; have q := show_len ‹TermsOk _›; rw [sizeLine_eq]; simp only [List.length_append, List.length_cons, List.length_nil]; omega) | (have q := show_len hp; rw [sizeLine_eq]; simp only [List.length_append, List.length_cons, List.length_nil]; omega) | (rw [sizeLine_eq]; simp only [List.length_append, List.length_cons, List.length_nil]; omega))) (ed_op (od_addS _ _ (by first | decide | omega | (unfold CMul; omega) | (dsimp only; omega) | (rw [sizeLine_eq]; omega) | exact hp | exact hp.2 | (have q := textL_len ‹TermsOk _›; rw [sizeLine_eq]; simp only [List.length_append, List.length_cons, List.length_nil]; omega) | (obtain ⟨q1, q2⟩ := hp; have q := show_len ‹TermsOk _›; rw [sizeLine_eq]; simp only [List.length_append, List.length_cons, List.length_nil]; omega) | (have q := show_len hp; rw [sizeLine_eq]; simp only [List.length_append, List.length_cons, List.length_nil]; omega) | (rw [sizeLine_eq]; simp only [List.length_append, List.length_cons, List.length_nil]; omega))) (ed_op (od_addS _ _ (by first | decide | omega | (unfold CMul; omega) | (dsimp only; omega) | (rw [sizeLine_eq]; omega) | exact hp | exact hp.2 | (have q := textL_len ‹TermsOk _›; rw [sizeLine_eq]; simp only [List.length_append, List.length_cons, List.length_nil]; omega) | (obtain ⟨q1, q2⟩ := hp; have q := show_len ‹TermsOk _›; rw [sizeLine_eq]; simp only [List.length_append, List.length_cons, List.length_nil]; omega) | (have q := show_len hp; rw [sizeLine_eq]; simp only [List.length_append, List.length_cons, List.length_nil]; omega) | (rw [sizeLine_eq]; simp only [List.length_append, List.length_cons, List.length_nil]; omega))) (ed_str [100, 101, 101, 100, 32] (by decide +kernel)) (ed_fld (ed_var 0 (hX.nm rfl) (hX.vs (vis_l lk_Deed_said_self)) rfl) fa_Deed_name rfl)) (ed_str [32, 98, 101, 32] (by decide +kernel))) (ed_call a0.2 kn_show_expr (hX.room.mono (by decide)) (hX.gl lk_Deed_said_show_expr) (ea_cons (ed_fld (ed_var 0 (hX.nm rfl) (hX.vs (vis_l lk_Deed_said_self)) rfl) fa_Deed_terms rfl) ea_nil) (by first | decide | omega | (unfold CMul; omega) | (dsimp only; omega) | (rw [sizeLine_eq]; omega) | exact hp | exact hp.2 | (have q := textL_len ‹TermsOk _›; rw [sizeLine_eq]; simp only [List.length_append, List.length_cons, List.length_nil]; omega) | (obtain ⟨q1, q2⟩ := hp; have q := show_len ‹TermsOk _›; rw [sizeLine_eq]; simp only [List.length_append, List.length_cons, List.length_nil]; omega) | (have q := show_len hp; rw [sizeLine_eq]; simp only [List.length_append, List.length_cons, List.length_nil]; omega) | (rw [sizeLine_eq]; simp only [List.length_append, List.length_cons, List.length_nil]; omega)) rfl)))
def saidDeed (a0 : ((List Nat) × (List (Int × (List Nat) × D)))) : (List Nat) := outS (m_Deed_said a0)
theorem m_Deed_said_eq (a0 : ((List Nat) × (List (Int × (List Nat) × D)))) : m_Deed_said a0 = .ret (.v (D.str (saidDeed a0))) := by
  unfold saidDeed
  exact (show ∀ c : Ctl Unit Empty, (∃ z, c = .ret (.v (D.str z))) → c = .ret (.v (D.str (outS c))) from fun c ⟨z, h⟩ => by rw [h]; rfl) _ (by unfold m_Deed_said; (try simp only [bnd]); (repeat' split) <;> first | exact ⟨_, rfl⟩ | (exfalso; simp_all))
abbrev sp_Deed_said (K : PySem.W.Frag) : Sp := spF K (A := ((List Nat) × (List (Int × (List Nat) × D)))) (fun a => [(D.ins "Deed" [("name", (D.str a.1)), ("terms", (D.lst (List.map (fun z : (Int × (List Nat) × D) => (D.tup [(D.int z.1), (D.str z.2.1), z.2.2])) a.2)))])]) (fun a => a.1.length ≤ 100 ∧ TermsOk a.2) (fun a => .v (D.str (saidDeed a)))
theorem ok_Deed_said {P : Program} {w : World} {K : PySem.W.Frag} {mg : Str → Option Value} {base : Heap} {f : Addr} {fd : FuncData} (F : Fun K "said" "Deed.said" s_Deed_said f fd) (kn_show_expr : Kn P w K mg base "show_expr" 2 (sp_show_expr K)) (fa_Deed_name : FldA K "Deed" "name") (fa_Deed_terms : FldA K "Deed" "terms") : FnOk P w K mg base (L2.CX P w) 3 f fd ["self"] (sp_Deed_said K) := by
  refine def_ok F sc_Deed_said (fun _ => rfl) (fun a hp X E e1 e2 e3 e4 e5 hX => ?_)
  subst e1 e2 e3 e4 e5
  have h := bd_Deed_said X E hX kn_show_expr fa_Deed_name fa_Deed_terms a hp
  rw [m_Deed_said_eq a] at h
  exact h
abbrev s_Draw_binds : Stmt := clsAt (top 7) 1
abbrev nm_Draw_binds : List Str := ["self"]
theorem sc_Draw_binds : FnScope nm_Draw_binds ["self"] (defScope s_Draw_binds) := ⟨rfl, rfl, rfl, by decide +kernel, rfl, by decide +kernel, by decide +kernel⟩
theorem lk_Draw_binds_self : (defScope s_Draw_binds).names.lookup ("self" : Str) = some .local := by decide +kernel
def m_Draw_binds (a0 : ((List Nat) × (List Nat))) : Ctl Unit Empty := .ret (.v (D.str a0.2))
theorem bd_Draw_binds (X : Cx) (E : XK) (hX : XOk 0 nm_Draw_binds (defScope s_Draw_binds) X E) (fa_Draw_name : FldA X.K "Draw" "name") (a0 : ((List Nat) × (List Nat))) : BK X E ([.d (D.ins "Draw" [("address", (D.str a0.1)), ("name", (D.str a0.2))])] : List B) (defBody s_Draw_binds) (fun s : Unit => List.replicate 1 B.un) (fun s : Empty => nomatch s) (m_Draw_binds a0) := by
  unfold m_Draw_binds
  exact (b_ret (ed_fld (ed_var 0 (hX.nm rfl) (hX.vs (vis_l lk_Draw_binds_self)) rfl) fa_Draw_name rfl))
def bindsDraw (a0 : ((List Nat) × (List Nat))) : (List Nat) := outS (m_Draw_binds a0)
theorem m_Draw_binds_eq (a0 : ((List Nat) × (List Nat))) : m_Draw_binds a0 = .ret (.v (D.str (bindsDraw a0))) := by
  unfold bindsDraw
  exact (show ∀ c : Ctl Unit Empty, (∃ z, c = .ret (.v (D.str z))) → c = .ret (.v (D.str (outS c))) from fun c ⟨z, h⟩ => by rw [h]; rfl) _ (by unfold m_Draw_binds; (try simp only [bnd]); (repeat' split) <;> first | exact ⟨_, rfl⟩ | (exfalso; simp_all))
abbrev sp_Draw_binds (K : PySem.W.Frag) : Sp := spF K (A := ((List Nat) × (List Nat))) (fun a => [(D.ins "Draw" [("address", (D.str a.1)), ("name", (D.str a.2))])]) (fun a => True) (fun a => .v (D.str (bindsDraw a)))
theorem ok_Draw_binds {P : Program} {w : World} {K : PySem.W.Frag} {mg : Str → Option Value} {base : Heap} {f : Addr} {fd : FuncData} (F : Fun K "binds" "Draw.binds" s_Draw_binds f fd) (fa_Draw_name : FldA K "Draw" "name") : FnOk P w K mg base (L2.CX P w) 1 f fd ["self"] (sp_Draw_binds K) := by
  refine def_ok F sc_Draw_binds (fun _ => rfl) (fun a hp X E e1 e2 e3 e4 e5 hX => ?_)
  subst e1 e2 e3 e4 e5
  have h := bd_Draw_binds X E hX fa_Draw_name a
  rw [m_Draw_binds_eq a] at h
  exact h
abbrev s_Draw_asked : Stmt := clsAt (top 7) 2
abbrev nm_Draw_asked : List Str := ["self"]
theorem sc_Draw_asked : FnScope nm_Draw_asked ["self"] (defScope s_Draw_asked) := ⟨rfl, rfl, rfl, by decide +kernel, rfl, by decide +kernel, by decide +kernel⟩
theorem lk_Draw_asked_self : (defScope s_Draw_asked).names.lookup ("self" : Str) = some .local := by decide +kernel
def m_Draw_asked (a0 : ((List Nat) × (List Nat))) : Ctl Unit Empty := .ret (.o (.lst (List.map D.str ([a0.1] : List (List Nat)))))
theorem bd_Draw_asked (X : Cx) (E : XK) (hX : XOk 0 nm_Draw_asked (defScope s_Draw_asked) X E) (fa_Draw_address : FldA X.K "Draw" "address") (a0 : ((List Nat) × (List Nat))) : BK X E ([.d (D.ins "Draw" [("address", (D.str a0.1)), ("name", (D.str a0.2))])] : List B) (defBody s_Draw_asked) (fun s : Unit => List.replicate 1 B.un) (fun s : Empty => nomatch s) (m_Draw_asked a0) := by
  unfold m_Draw_asked
  exact (b_retO (eo_lst (ea_cons (ed_fld (ed_var 0 (hX.nm rfl) (hX.vs (vis_l lk_Draw_asked_self)) rfl) fa_Draw_address rfl) ea_nil) (by show 1 ≤ sizeLine; decide)))
def askedDraw (r : ((List Nat) × (List Nat))) : List (List Nat) := [r.1]
theorem m_Draw_asked_eq (r : ((List Nat) × (List Nat))) : m_Draw_asked r = .ret (.o (.lst (List.map D.str (askedDraw r)))) := rfl
abbrev sp_Draw_asked (K : PySem.W.Frag) : Sp := spF K (A := ((List Nat) × (List Nat))) (fun a => [(D.ins "Draw" [("address", (D.str a.1)), ("name", (D.str a.2))])]) (fun a => True) (fun a => .o (.lst (List.map D.str (askedDraw a))))
theorem ok_Draw_asked {P : Program} {w : World} {K : PySem.W.Frag} {mg : Str → Option Value} {base : Heap} {f : Addr} {fd : FuncData} (F : Fun K "asked" "Draw.asked" s_Draw_asked f fd) (fa_Draw_address : FldA K "Draw" "address") : FnOk P w K mg base (L2.CX P w) 1 f fd ["self"] (sp_Draw_asked K) := by
  refine def_ok F sc_Draw_asked (fun _ => rfl) (fun a hp X E e1 e2 e3 e4 e5 hX => ?_)
  subst e1 e2 e3 e4 e5
  have h := bd_Draw_asked X E hX fa_Draw_address a
  rw [m_Draw_asked_eq a] at h
  exact h
abbrev s_Draw_said : Stmt := clsAt (top 7) 3
abbrev nm_Draw_said : List Str := ["self"]
theorem sc_Draw_said : FnScope nm_Draw_said ["self"] (defScope s_Draw_said) := ⟨rfl, rfl, rfl, by decide +kernel, rfl, by decide +kernel, by decide +kernel⟩
theorem lk_Draw_said_self : (defScope s_Draw_said).names.lookup ("self" : Str) = some .local := by decide +kernel
def m_Draw_said (a0 : ((List Nat) × (List Nat))) : Ctl Unit Empty := .ret (.v (D.str ((([100, 114, 97, 119, 32] ++ a0.1) ++ [32, 97, 115, 32]) ++ a0.2)))
theorem bd_Draw_said (X : Cx) (E : XK) (hX : XOk 2 nm_Draw_said (defScope s_Draw_said) X E) (fa_Draw_address : FldA X.K "Draw" "address") (fa_Draw_name : FldA X.K "Draw" "name") (a0 : ((List Nat) × (List Nat))) (hp : a0.1.length ≤ 100 ∧ a0.2.length ≤ 100) : BK X E ([.d (D.ins "Draw" [("address", (D.str a0.1)), ("name", (D.str a0.2))])] : List B) (defBody s_Draw_said) (fun s : Unit => List.replicate 1 B.un) (fun s : Empty => nomatch s) (m_Draw_said a0) := by
  unfold m_Draw_said
  exact (b_ret (ed_op (od_addS _ _ (by first | decide | omega | (unfold CMul; omega) | (dsimp only; omega) | (rw [sizeLine_eq]; omega) | exact hp | exact hp.2 | (have q := textL_len ‹TermsOk _›; rw [sizeLine_eq]; simp only [List.length_append, List.length_cons, List.length_nil]; omega) | (obtain ⟨q1, q2⟩ := hp; have q := show_len ‹TermsOk _›; rw [sizeLine_eq]; simp only [List.length_append, List.length_cons, List.length_nil]; omega) | (have q := show_len hp; rw [sizeLine_eq]; simp only [List.length_append, List.length_cons, List.length_nil]; omega) | (rw [sizeLine_eq]; simp only [List.length_append, List.length_cons, List.length_nil]; omega))) (ed_op (od_addS _ _ (by first | decide | omega | (unfold CMul; omega) | (dsimp only; omega) | (rw [sizeLine_eq]; omega) | exact hp | exact hp.2 | (have q := textL_len ‹TermsOk _›; rw [sizeLine_eq]; simp only [List.length_append, List.length_cons, List.length_nil]; omega) | (obtain ⟨q1, q2⟩ := hp; have q := show_len ‹TermsOk _›; rw [sizeLine_eq]; simp only [List.length_append, List.length_cons, List.length_nil]; omega) | (have q := show_len hp; rw [sizeLine_eq]; simp only [List.length_append, List.length_cons, List.length_nil]; omega) | (rw [sizeLine_eq]; simp only [List.length_append, List.length_cons, List.length_nil]; omega))) (ed_op (od_addS _ _ (by first | decide | omega | (unfold CMul; omega) | (dsimp only; omega) | (rw [sizeLine_eq]; omega) | exact hp | exact hp.2 | (have q := textL_len ‹TermsOk _›; rw [sizeLine_eq]; simp only [List.length_append, List.length_cons, List.length_nil]; omega) | (obtain ⟨q1, q2⟩ := hp; have q := show_len ‹TermsOk _›; rw [sizeLine_eq]; simp only [List.length_append, List.length_cons, List.length_nil]; omega) | (have q := show_len hp; rw [sizeLine_eq]; simp only [List.length_append, List.length_cons, List.length_nil]; omega) | (rw [sizeLine_eq]; simp only [List.length_append, List.length_cons, List.length_nil]; omega))) (ed_str [100, 114, 97, 119, 32] (by decide +kernel)) (ed_fld (ed_var 0 (hX.nm rfl) (hX.vs (vis_l lk_Draw_said_self)) rfl) fa_Draw_address rfl)) (ed_str [32, 97, 115, 32] (by decide +kernel))) (ed_fld (ed_var 0 (hX.nm rfl) (hX.vs (vis_l lk_Draw_said_self)) rfl) fa_Draw_name rfl)))
def saidDraw (a0 : ((List Nat) × (List Nat))) : (List Nat) := outS (m_Draw_said a0)
theorem m_Draw_said_eq (a0 : ((List Nat) × (List Nat))) : m_Draw_said a0 = .ret (.v (D.str (saidDraw a0))) := by
  unfold saidDraw
  exact (show ∀ c : Ctl Unit Empty, (∃ z, c = .ret (.v (D.str z))) → c = .ret (.v (D.str (outS c))) from fun c ⟨z, h⟩ => by rw [h]; rfl) _ (by unfold m_Draw_said; (try simp only [bnd]); (repeat' split) <;> first | exact ⟨_, rfl⟩ | (exfalso; simp_all))
abbrev sp_Draw_said (K : PySem.W.Frag) : Sp := spF K (A := ((List Nat) × (List Nat))) (fun a => [(D.ins "Draw" [("address", (D.str a.1)), ("name", (D.str a.2))])]) (fun a => a.1.length ≤ 100 ∧ a.2.length ≤ 100) (fun a => .v (D.str (saidDraw a)))
theorem ok_Draw_said {P : Program} {w : World} {K : PySem.W.Frag} {mg : Str → Option Value} {base : Heap} {f : Addr} {fd : FuncData} (F : Fun K "said" "Draw.said" s_Draw_said f fd) (fa_Draw_address : FldA K "Draw" "address") (fa_Draw_name : FldA K "Draw" "name") : FnOk P w K mg base (L2.CX P w) 3 f fd ["self"] (sp_Draw_said K) := by
  refine def_ok F sc_Draw_said (fun _ => rfl) (fun a hp X E e1 e2 e3 e4 e5 hX => ?_)
  subst e1 e2 e3 e4 e5
  have h := bd_Draw_said X E hX fa_Draw_address fa_Draw_name a hp
  rw [m_Draw_said_eq a] at h
  exact h
abbrev s_Late_binds : Stmt := clsAt (top 8) 1
abbrev nm_Late_binds : List Str := ["self"]
theorem sc_Late_binds : FnScope nm_Late_binds ["self"] (defScope s_Late_binds) := ⟨rfl, rfl, rfl, by decide +kernel, rfl, by decide +kernel, by decide +kernel⟩
theorem lk_Late_binds_self : (defScope s_Late_binds).names.lookup ("self" : Str) = some .local := by decide +kernel
def m_Late_binds (a0 : ((List Nat) × (List Nat))) : Ctl Unit Empty := .ret (.v (D.str a0.2))
theorem bd_Late_binds (X : Cx) (E : XK) (hX : XOk 0 nm_Late_binds (defScope s_Late_binds) X E) (fa_Late_name : FldA X.K "Late" "name") (a0 : ((List Nat) × (List Nat))) : BK X E ([.d (D.ins "Late" [("address", (D.str a0.1)), ("name", (D.str a0.2))])] : List B) (defBody s_Late_binds) (fun s : Unit => List.replicate 1 B.un) (fun s : Empty => nomatch s) (m_Late_binds a0) := by
  unfold m_Late_binds
  exact (b_ret (ed_fld (ed_var 0 (hX.nm rfl) (hX.vs (vis_l lk_Late_binds_self)) rfl) fa_Late_name rfl))
def bindsLate (a0 : ((List Nat) × (List Nat))) : (List Nat) := outS (m_Late_binds a0)
theorem m_Late_binds_eq (a0 : ((List Nat) × (List Nat))) : m_Late_binds a0 = .ret (.v (D.str (bindsLate a0))) := by
  unfold bindsLate
  exact (show ∀ c : Ctl Unit Empty, (∃ z, c = .ret (.v (D.str z))) → c = .ret (.v (D.str (outS c))) from fun c ⟨z, h⟩ => by rw [h]; rfl) _ (by unfold m_Late_binds; (try simp only [bnd]); (repeat' split) <;> first | exact ⟨_, rfl⟩ | (exfalso; simp_all))
abbrev sp_Late_binds (K : PySem.W.Frag) : Sp := spF K (A := ((List Nat) × (List Nat))) (fun a => [(D.ins "Late" [("address", (D.str a.1)), ("name", (D.str a.2))])]) (fun a => True) (fun a => .v (D.str (bindsLate a)))
theorem ok_Late_binds {P : Program} {w : World} {K : PySem.W.Frag} {mg : Str → Option Value} {base : Heap} {f : Addr} {fd : FuncData} (F : Fun K "binds" "Late.binds" s_Late_binds f fd) (fa_Late_name : FldA K "Late" "name") : FnOk P w K mg base (L2.CX P w) 1 f fd ["self"] (sp_Late_binds K) := by
  refine def_ok F sc_Late_binds (fun _ => rfl) (fun a hp X E e1 e2 e3 e4 e5 hX => ?_)
  subst e1 e2 e3 e4 e5
  have h := bd_Late_binds X E hX fa_Late_name a
  rw [m_Late_binds_eq a] at h
  exact h
abbrev s_Late_asked : Stmt := clsAt (top 8) 2
abbrev nm_Late_asked : List Str := ["self"]
theorem sc_Late_asked : FnScope nm_Late_asked ["self"] (defScope s_Late_asked) := ⟨rfl, rfl, rfl, by decide +kernel, rfl, by decide +kernel, by decide +kernel⟩
theorem lk_Late_asked_self : (defScope s_Late_asked).names.lookup ("self" : Str) = some .local := by decide +kernel
def m_Late_asked (a0 : ((List Nat) × (List Nat))) : Ctl Unit Empty := .ret (.o (.lst (List.map D.str ([a0.1] : List (List Nat)))))
theorem bd_Late_asked (X : Cx) (E : XK) (hX : XOk 0 nm_Late_asked (defScope s_Late_asked) X E) (fa_Late_address : FldA X.K "Late" "address") (a0 : ((List Nat) × (List Nat))) : BK X E ([.d (D.ins "Late" [("address", (D.str a0.1)), ("name", (D.str a0.2))])] : List B) (defBody s_Late_asked) (fun s : Unit => List.replicate 1 B.un) (fun s : Empty => nomatch s) (m_Late_asked a0) := by
  unfold m_Late_asked
  exact (b_retO (eo_lst (ea_cons (ed_fld (ed_var 0 (hX.nm rfl) (hX.vs (vis_l lk_Late_asked_self)) rfl) fa_Late_address rfl) ea_nil) (by show 1 ≤ sizeLine; decide)))
def askedLate (r : ((List Nat) × (List Nat))) : List (List Nat) := [r.1]
theorem m_Late_asked_eq (r : ((List Nat) × (List Nat))) : m_Late_asked r = .ret (.o (.lst (List.map D.str (askedLate r)))) := rfl
abbrev sp_Late_asked (K : PySem.W.Frag) : Sp := spF K (A := ((List Nat) × (List Nat))) (fun a => [(D.ins "Late" [("address", (D.str a.1)), ("name", (D.str a.2))])]) (fun a => True) (fun a => .o (.lst (List.map D.str (askedLate a))))
theorem ok_Late_asked {P : Program} {w : World} {K : PySem.W.Frag} {mg : Str → Option Value} {base : Heap} {f : Addr} {fd : FuncData} (F : Fun K "asked" "Late.asked" s_Late_asked f fd) (fa_Late_address : FldA K "Late" "address") : FnOk P w K mg base (L2.CX P w) 1 f fd ["self"] (sp_Late_asked K) := by
  refine def_ok F sc_Late_asked (fun _ => rfl) (fun a hp X E e1 e2 e3 e4 e5 hX => ?_)
  subst e1 e2 e3 e4 e5
  have h := bd_Late_asked X E hX fa_Late_address a
  rw [m_Late_asked_eq a] at h
  exact h
abbrev s_Late_said : Stmt := clsAt (top 8) 3
abbrev nm_Late_said : List Str := ["self"]
theorem sc_Late_said : FnScope nm_Late_said ["self"] (defScope s_Late_said) := ⟨rfl, rfl, rfl, by decide +kernel, rfl, by decide +kernel, by decide +kernel⟩
theorem lk_Late_said_self : (defScope s_Late_said).names.lookup ("self" : Str) = some .local := by decide +kernel
def m_Late_said (a0 : ((List Nat) × (List Nat))) : Ctl Unit Empty := .ret (.v (D.str ((([108, 97, 116, 101, 32] ++ a0.1) ++ [32, 97, 115, 32]) ++ a0.2)))
theorem bd_Late_said (X : Cx) (E : XK) (hX : XOk 2 nm_Late_said (defScope s_Late_said) X E) (fa_Late_address : FldA X.K "Late" "address") (fa_Late_name : FldA X.K "Late" "name") (a0 : ((List Nat) × (List Nat))) (hp : a0.1.length ≤ 100 ∧ a0.2.length ≤ 100) : BK X E ([.d (D.ins "Late" [("address", (D.str a0.1)), ("name", (D.str a0.2))])] : List B) (defBody s_Late_said) (fun s : Unit => List.replicate 1 B.un) (fun s : Empty => nomatch s) (m_Late_said a0) := by
  unfold m_Late_said
  exact (b_ret (ed_op (od_addS _ _ (by first | decide | omega | (unfold CMul; omega) | (dsimp only; omega) | (rw [sizeLine_eq]; omega) | exact hp | exact hp.2 | (have q := textL_len ‹TermsOk _›; rw [sizeLine_eq]; simp only [List.length_append, List.length_cons, List.length_nil]; omega) | (obtain ⟨q1, q2⟩ := hp; have q := show_len ‹TermsOk _›; rw [sizeLine_eq]; simp only [List.length_append, List.length_cons, List.length_nil]; omega) | (have q := show_len hp; rw [sizeLine_eq]; simp only [List.length_append, List.length_cons, List.length_nil]; omega) | (rw [sizeLine_eq]; simp only [List.length_append, List.length_cons, List.length_nil]; omega))) (ed_op (od_addS _ _ (by first | decide | omega | (unfold CMul; omega) | (dsimp only; omega) | (rw [sizeLine_eq]; omega) | exact hp | exact hp.2 | (have q := textL_len ‹TermsOk _›; rw [sizeLine_eq]; simp only [List.length_append, List.length_cons, List.length_nil]; omega) | (obtain ⟨q1, q2⟩ := hp; have q := show_len ‹TermsOk _›; rw [sizeLine_eq]; simp only [List.length_append, List.length_cons, List.length_nil]; omega) | (have q := show_len hp; rw [sizeLine_eq]; simp only [List.length_append, List.length_cons, List.length_nil]; omega) | (rw [sizeLine_eq]; simp only [List.length_append, List.length_cons, List.length_nil]; omega))) (ed_op (od_addS _ _ (by first | decide | omega | (unfold CMul; omega) | (dsimp only; omega) | (rw [sizeLine_eq]; omega) | exact hp | exact hp.2 | (have q := textL_len ‹TermsOk _›; rw [sizeLine_eq]; simp only [List.length_append, List.length_cons, List.length_nil]; omega) | (obtain ⟨q1, q2⟩ := hp; have q := show_len ‹TermsOk _›; rw [sizeLine_eq]; simp only [List.length_append, List.length_cons, List.length_nil]; omega) | (have q := show_len hp; rw [sizeLine_eq]; simp only [List.length_append, List.length_cons, List.length_nil]; omega) | (rw [sizeLine_eq]; simp only [List.length_append, List.length_cons, List.length_nil]; omega))) (ed_str [108, 97, 116, 101, 32] (by decide +kernel)) (ed_fld (ed_var 0 (hX.nm rfl) (hX.vs (vis_l lk_Late_said_self)) rfl) fa_Late_address rfl)) (ed_str [32, 97, 115, 32] (by decide +kernel))) (ed_fld (ed_var 0 (hX.nm rfl) (hX.vs (vis_l lk_Late_said_self)) rfl) fa_Late_name rfl)))
def saidLate (a0 : ((List Nat) × (List Nat))) : (List Nat) := outS (m_Late_said a0)
theorem m_Late_said_eq (a0 : ((List Nat) × (List Nat))) : m_Late_said a0 = .ret (.v (D.str (saidLate a0))) := by
  unfold saidLate
  exact (show ∀ c : Ctl Unit Empty, (∃ z, c = .ret (.v (D.str z))) → c = .ret (.v (D.str (outS c))) from fun c ⟨z, h⟩ => by rw [h]; rfl) _ (by unfold m_Late_said; (try simp only [bnd]); (repeat' split) <;> first | exact ⟨_, rfl⟩ | (exfalso; simp_all))
abbrev sp_Late_said (K : PySem.W.Frag) : Sp := spF K (A := ((List Nat) × (List Nat))) (fun a => [(D.ins "Late" [("address", (D.str a.1)), ("name", (D.str a.2))])]) (fun a => a.1.length ≤ 100 ∧ a.2.length ≤ 100) (fun a => .v (D.str (saidLate a)))
theorem ok_Late_said {P : Program} {w : World} {K : PySem.W.Frag} {mg : Str → Option Value} {base : Heap} {f : Addr} {fd : FuncData} (F : Fun K "said" "Late.said" s_Late_said f fd) (fa_Late_address : FldA K "Late" "address") (fa_Late_name : FldA K "Late" "name") : FnOk P w K mg base (L2.CX P w) 3 f fd ["self"] (sp_Late_said K) := by
  refine def_ok F sc_Late_said (fun _ => rfl) (fun a hp X E e1 e2 e3 e4 e5 hX => ?_)
  subst e1 e2 e3 e4 e5
  have h := bd_Late_said X E hX fa_Late_address fa_Late_name a hp
  rw [m_Late_said_eq a] at h
  exact h
abbrev s_Take_binds : Stmt := clsAt (top 9) 1
abbrev nm_Take_binds : List Str := ["self"]
theorem sc_Take_binds : FnScope nm_Take_binds ["self"] (defScope s_Take_binds) := ⟨rfl, rfl, rfl, by decide +kernel, rfl, by decide +kernel, by decide +kernel⟩
theorem lk_Take_binds_self : (defScope s_Take_binds).names.lookup ("self" : Str) = some .local := by decide +kernel
def m_Take_binds (a0 : ((List Nat) × (List Nat) × (List Nat))) : Ctl Unit Empty := .ret (.v (D.str a0.2.2))
theorem bd_Take_binds (X : Cx) (E : XK) (hX : XOk 0 nm_Take_binds (defScope s_Take_binds) X E) (fa_Take_name : FldA X.K "Take" "name") (a0 : ((List Nat) × (List Nat) × (List Nat))) : BK X E ([.d (D.ins "Take" [("word", (D.str a0.1)), ("address", (D.str a0.2.1)), ("name", (D.str a0.2.2))])] : List B) (defBody s_Take_binds) (fun s : Unit => List.replicate 1 B.un) (fun s : Empty => nomatch s) (m_Take_binds a0) := by
  unfold m_Take_binds
  exact (b_ret (ed_fld (ed_var 0 (hX.nm rfl) (hX.vs (vis_l lk_Take_binds_self)) rfl) fa_Take_name rfl))
def bindsTake (a0 : ((List Nat) × (List Nat) × (List Nat))) : (List Nat) := outS (m_Take_binds a0)
theorem m_Take_binds_eq (a0 : ((List Nat) × (List Nat) × (List Nat))) : m_Take_binds a0 = .ret (.v (D.str (bindsTake a0))) := by
  unfold bindsTake
  exact (show ∀ c : Ctl Unit Empty, (∃ z, c = .ret (.v (D.str z))) → c = .ret (.v (D.str (outS c))) from fun c ⟨z, h⟩ => by rw [h]; rfl) _ (by unfold m_Take_binds; (try simp only [bnd]); (repeat' split) <;> first | exact ⟨_, rfl⟩ | (exfalso; simp_all))
abbrev sp_Take_binds (K : PySem.W.Frag) : Sp := spF K (A := ((List Nat) × (List Nat) × (List Nat))) (fun a => [(D.ins "Take" [("word", (D.str a.1)), ("address", (D.str a.2.1)), ("name", (D.str a.2.2))])]) (fun a => True) (fun a => .v (D.str (bindsTake a)))
theorem ok_Take_binds {P : Program} {w : World} {K : PySem.W.Frag} {mg : Str → Option Value} {base : Heap} {f : Addr} {fd : FuncData} (F : Fun K "binds" "Take.binds" s_Take_binds f fd) (fa_Take_name : FldA K "Take" "name") : FnOk P w K mg base (L2.CX P w) 1 f fd ["self"] (sp_Take_binds K) := by
  refine def_ok F sc_Take_binds (fun _ => rfl) (fun a hp X E e1 e2 e3 e4 e5 hX => ?_)
  subst e1 e2 e3 e4 e5
  have h := bd_Take_binds X E hX fa_Take_name a
  rw [m_Take_binds_eq a] at h
  exact h
abbrev s_Take_asked : Stmt := clsAt (top 9) 2
abbrev nm_Take_asked : List Str := ["self"]
theorem sc_Take_asked : FnScope nm_Take_asked ["self"] (defScope s_Take_asked) := ⟨rfl, rfl, rfl, by decide +kernel, rfl, by decide +kernel, by decide +kernel⟩
theorem lk_Take_asked_self : (defScope s_Take_asked).names.lookup ("self" : Str) = some .local := by decide +kernel
def m_Take_asked (a0 : ((List Nat) × (List Nat) × (List Nat))) : Ctl Unit Empty := .ret (.o (.lst (List.map D.str ([a0.2.1] : List (List Nat)))))
theorem bd_Take_asked (X : Cx) (E : XK) (hX : XOk 0 nm_Take_asked (defScope s_Take_asked) X E) (fa_Take_address : FldA X.K "Take" "address") (a0 : ((List Nat) × (List Nat) × (List Nat))) : BK X E ([.d (D.ins "Take" [("word", (D.str a0.1)), ("address", (D.str a0.2.1)), ("name", (D.str a0.2.2))])] : List B) (defBody s_Take_asked) (fun s : Unit => List.replicate 1 B.un) (fun s : Empty => nomatch s) (m_Take_asked a0) := by
  unfold m_Take_asked
  exact (b_retO (eo_lst (ea_cons (ed_fld (ed_var 0 (hX.nm rfl) (hX.vs (vis_l lk_Take_asked_self)) rfl) fa_Take_address rfl) ea_nil) (by show 1 ≤ sizeLine; decide)))
def askedTake (r : ((List Nat) × (List Nat) × (List Nat))) : List (List Nat) := [r.2.1]
theorem m_Take_asked_eq (r : ((List Nat) × (List Nat) × (List Nat))) : m_Take_asked r = .ret (.o (.lst (List.map D.str (askedTake r)))) := rfl
abbrev sp_Take_asked (K : PySem.W.Frag) : Sp := spF K (A := ((List Nat) × (List Nat) × (List Nat))) (fun a => [(D.ins "Take" [("word", (D.str a.1)), ("address", (D.str a.2.1)), ("name", (D.str a.2.2))])]) (fun a => True) (fun a => .o (.lst (List.map D.str (askedTake a))))
theorem ok_Take_asked {P : Program} {w : World} {K : PySem.W.Frag} {mg : Str → Option Value} {base : Heap} {f : Addr} {fd : FuncData} (F : Fun K "asked" "Take.asked" s_Take_asked f fd) (fa_Take_address : FldA K "Take" "address") : FnOk P w K mg base (L2.CX P w) 1 f fd ["self"] (sp_Take_asked K) := by
  refine def_ok F sc_Take_asked (fun _ => rfl) (fun a hp X E e1 e2 e3 e4 e5 hX => ?_)
  subst e1 e2 e3 e4 e5
  have h := bd_Take_asked X E hX fa_Take_address a
  rw [m_Take_asked_eq a] at h
  exact h
abbrev s_Take_said : Stmt := clsAt (top 9) 3
abbrev nm_Take_said : List Str := ["self"]
theorem sc_Take_said : FnScope nm_Take_said ["self"] (defScope s_Take_said) := ⟨rfl, rfl, rfl, by decide +kernel, rfl, by decide +kernel, by decide +kernel⟩
theorem lk_Take_said_self : (defScope s_Take_said).names.lookup ("self" : Str) = some .local := by decide +kernel
def m_Take_said (a0 : ((List Nat) × (List Nat) × (List Nat))) : Ctl Unit Empty := .ret (.v (D.str ((((([116, 97, 107, 101, 32] ++ a0.1) ++ [32, 102, 114, 111, 109, 32]) ++ a0.2.1) ++ [32, 97, 115, 32]) ++ a0.2.2)))
theorem bd_Take_said (X : Cx) (E : XK) (hX : XOk 2 nm_Take_said (defScope s_Take_said) X E) (fa_Take_address : FldA X.K "Take" "address") (fa_Take_name : FldA X.K "Take" "name") (fa_Take_word : FldA X.K "Take" "word") (a0 : ((List Nat) × (List Nat) × (List Nat))) (hp : a0.1.length ≤ 100 ∧ a0.2.1.length ≤ 100 ∧ a0.2.2.length ≤ 100) : BK X E ([.d (D.ins "Take" [("word", (D.str a0.1)), ("address", (D.str a0.2.1)), ("name", (D.str a0.2.2))])] : List B) (defBody s_Take_said) (fun s : Unit => List.replicate 1 B.un) (fun s : Empty => nomatch s) (m_Take_said a0) := by
  unfold m_Take_said
  exact (b_ret (ed_op (od_addS _ _ (by first | decide | omega | (unfold CMul; omega) | (dsimp only; omega) | (rw [sizeLine_eq]; omega) | exact hp | exact hp.2 | (have q := textL_len ‹TermsOk _›; rw [sizeLine_eq]; simp only [List.length_append, List.length_cons, List.length_nil]; omega) | (obtain ⟨q1, q2⟩ := hp; have q := show_len ‹TermsOk _›; rw [sizeLine_eq]; simp only [List.length_append, List.length_cons, List.length_nil]; omega) | (have q := show_len hp; rw [sizeLine_eq]; simp only [List.length_append, List.length_cons, List.length_nil]; omega) | (rw [sizeLine_eq]; simp only [List.length_append, List.length_cons, List.length_nil]; omega))) (ed_op (od_addS _ _ (by first | decide | omega | (unfold CMul; omega) | (dsimp only; omega) | (rw [sizeLine_eq]; omega) | exact hp | exact hp.2 | (have q := textL_len ‹TermsOk _›; rw [sizeLine_eq]; simp only [List.length_append, List.length_cons, List.length_nil]; omega) | (obtain ⟨q1, q2⟩ := hp; have q := show_len ‹TermsOk _›; rw [sizeLine_eq]; simp only [List.length_append, List.length_cons, List.length_nil]; omega) | (have q := show_len hp; rw [sizeLine_eq]; simp only [List.length_append, List.length_cons, List.length_nil]; omega) | (rw [sizeLine_eq]; simp only [List.length_append, List.length_cons, List.length_nil]; omega))) (ed_op (od_addS _ _ (by first | decide | omega | (unfold CMul; omega) | (dsimp only; omega) | (rw [sizeLine_eq]; omega) | exact hp | exact hp.2 | (have q := textL_len ‹TermsOk _›; rw [sizeLine_eq]; simp only [List.length_append, List.length_cons, List.length_nil]; omega) | (obtain ⟨q1, q2⟩ := hp; have q := show_len ‹TermsOk _›; rw [sizeLine_eq]; simp only [List.length_append, List.length_cons, List.length_nil]; omega) | (have q := show_len hp; rw [sizeLine_eq]; simp only [List.length_append, List.length_cons, List.length_nil]; omega) | (rw [sizeLine_eq]; simp only [List.length_append, List.length_cons, List.length_nil]; omega))) (ed_op (od_addS _ _ (by first | decide | omega | (unfold CMul; omega) | (dsimp only; omega) | (rw [sizeLine_eq]; omega) | exact hp | exact hp.2 | (have q := textL_len ‹TermsOk _›; rw [sizeLine_eq]; simp only [List.length_append, List.length_cons, List.length_nil]; omega) | (obtain ⟨q1, q2⟩ := hp; have q := show_len ‹TermsOk _›; rw [sizeLine_eq]; simp only [List.length_append, List.length_cons, List.length_nil]; omega) | (have q := show_len hp; rw [sizeLine_eq]; simp only [List.length_append, List.length_cons, List.length_nil]; omega) | (rw [sizeLine_eq]; simp only [List.length_append, List.length_cons, List.length_nil]; omega))) (ed_op (od_addS _ _ (by first | decide | omega | (unfold CMul; omega) | (dsimp only; omega) | (rw [sizeLine_eq]; omega) | exact hp | exact hp.2 | (have q := textL_len ‹TermsOk _›; rw [sizeLine_eq]; simp only [List.length_append, List.length_cons, List.length_nil]; omega) | (obtain ⟨q1, q2⟩ := hp; have q := show_len ‹TermsOk _›; rw [sizeLine_eq]; simp only [List.length_append, List.length_cons, List.length_nil]; omega) | (have q := show_len hp; rw [sizeLine_eq]; simp only [List.length_append, List.length_cons, List.length_nil]; omega) | (rw [sizeLine_eq]; simp only [List.length_append, List.length_cons, List.length_nil]; omega))) (ed_str [116, 97, 107, 101, 32] (by decide +kernel)) (ed_fld (ed_var 0 (hX.nm rfl) (hX.vs (vis_l lk_Take_said_self)) rfl) fa_Take_word rfl)) (ed_str [32, 102, 114, 111, 109, 32] (by decide +kernel))) (ed_fld (ed_var 0 (hX.nm rfl) (hX.vs (vis_l lk_Take_said_self)) rfl) fa_Take_address rfl)) (ed_str [32, 97, 115, 32] (by decide +kernel))) (ed_fld (ed_var 0 (hX.nm rfl) (hX.vs (vis_l lk_Take_said_self)) rfl) fa_Take_name rfl)))
def saidTake (a0 : ((List Nat) × (List Nat) × (List Nat))) : (List Nat) := outS (m_Take_said a0)
theorem m_Take_said_eq (a0 : ((List Nat) × (List Nat) × (List Nat))) : m_Take_said a0 = .ret (.v (D.str (saidTake a0))) := by
  unfold saidTake
  exact (show ∀ c : Ctl Unit Empty, (∃ z, c = .ret (.v (D.str z))) → c = .ret (.v (D.str (outS c))) from fun c ⟨z, h⟩ => by rw [h]; rfl) _ (by unfold m_Take_said; (try simp only [bnd]); (repeat' split) <;> first | exact ⟨_, rfl⟩ | (exfalso; simp_all))
abbrev sp_Take_said (K : PySem.W.Frag) : Sp := spF K (A := ((List Nat) × (List Nat) × (List Nat))) (fun a => [(D.ins "Take" [("word", (D.str a.1)), ("address", (D.str a.2.1)), ("name", (D.str a.2.2))])]) (fun a => a.1.length ≤ 100 ∧ a.2.1.length ≤ 100 ∧ a.2.2.length ≤ 100) (fun a => .v (D.str (saidTake a)))
theorem ok_Take_said {P : Program} {w : World} {K : PySem.W.Frag} {mg : Str → Option Value} {base : Heap} {f : Addr} {fd : FuncData} (F : Fun K "said" "Take.said" s_Take_said f fd) (fa_Take_address : FldA K "Take" "address") (fa_Take_name : FldA K "Take" "name") (fa_Take_word : FldA K "Take" "word") : FnOk P w K mg base (L2.CX P w) 3 f fd ["self"] (sp_Take_said K) := by
  refine def_ok F sc_Take_said (fun _ => rfl) (fun a hp X E e1 e2 e3 e4 e5 hX => ?_)
  subst e1 e2 e3 e4 e5
  have h := bd_Take_said X E hX fa_Take_address fa_Take_name fa_Take_word a hp
  rw [m_Take_said_eq a] at h
  exact h
abbrev s_Row_binds : Stmt := clsAt (top 4) 0
abbrev nm_Row_binds : List Str := ["self"]
theorem sc_Row_binds : FnScope nm_Row_binds ["self"] (defScope s_Row_binds) := ⟨rfl, rfl, rfl, by decide +kernel, rfl, by decide +kernel, by decide +kernel⟩
def m_Need_binds (a0 : ((List (Int × (List Nat) × D)))) : Ctl Unit Empty := .ret (.v (D.str ([] : List Nat)))
theorem bd_Need_binds (X : Cx) (E : XK) (hX : XOk 0 nm_Row_binds (defScope s_Row_binds) X E) (a0 : ((List (Int × (List Nat) × D)))) : BK X E ([.d (D.ins "Need" [("terms", (D.lst (List.map (fun z : (Int × (List Nat) × D) => (D.tup [(D.int z.1), (D.str z.2.1), z.2.2])) a0)))])] : List B) (defBody s_Row_binds) (fun s : Unit => List.replicate 1 B.un) (fun s : Empty => nomatch s) (m_Need_binds a0) := by
  unfold m_Need_binds
  exact (b_ret (ed_str [] (by decide +kernel)))
def bindsNeed (a0 : ((List (Int × (List Nat) × D)))) : (List Nat) := outS (m_Need_binds a0)
theorem m_Need_binds_eq (a0 : ((List (Int × (List Nat) × D)))) : m_Need_binds a0 = .ret (.v (D.str (bindsNeed a0))) := by
  unfold bindsNeed
  exact (show ∀ c : Ctl Unit Empty, (∃ z, c = .ret (.v (D.str z))) → c = .ret (.v (D.str (outS c))) from fun c ⟨z, h⟩ => by rw [h]; rfl) _ (by unfold m_Need_binds; (try simp only [bnd]); (repeat' split) <;> first | exact ⟨_, rfl⟩ | (exfalso; simp_all))
abbrev sp_Need_binds (K : PySem.W.Frag) : Sp := spF K (A := ((List (Int × (List Nat) × D)))) (fun a => [(D.ins "Need" [("terms", (D.lst (List.map (fun z : (Int × (List Nat) × D) => (D.tup [(D.int z.1), (D.str z.2.1), z.2.2])) a)))])]) (fun a => True) (fun a => .v (D.str (bindsNeed a)))
theorem ok_Need_binds {P : Program} {w : World} {K : PySem.W.Frag} {mg : Str → Option Value} {base : Heap} {f : Addr} {fd : FuncData} (F : Fun K "binds" "Row.binds" s_Row_binds f fd) : FnOk P w K mg base (L2.CX P w) 1 f fd ["self"] (sp_Need_binds K) := by
  refine def_ok F sc_Row_binds (fun _ => rfl) (fun a hp X E e1 e2 e3 e4 e5 hX => ?_)
  subst e1 e2 e3 e4 e5
  have h := bd_Need_binds X E hX a
  rw [m_Need_binds_eq a] at h
  exact h
def m_Need_asked (a0 : ((List (Int × (List Nat) × D)))) : Ctl Unit Empty := .ret (.o (.lst (List.map D.str ([] : List (List Nat)))))
theorem bd_Need_asked (X : Cx) (E : XK) (hX : XOk 0 nm_Row_asked (defScope s_Row_asked) X E) (a0 : ((List (Int × (List Nat) × D)))) : BK X E ([.d (D.ins "Need" [("terms", (D.lst (List.map (fun z : (Int × (List Nat) × D) => (D.tup [(D.int z.1), (D.str z.2.1), z.2.2])) a0)))])] : List B) (defBody s_Row_asked) (fun s : Unit => List.replicate 1 B.un) (fun s : Empty => nomatch s) (m_Need_asked a0) := by
  unfold m_Need_asked
  exact (b_retO (eo_lst ea_nil (by show 0 ≤ sizeLine; decide)))
def askedNeed (r : ((List (Int × (List Nat) × D)))) : List (List Nat) := []
theorem m_Need_asked_eq (r : ((List (Int × (List Nat) × D)))) : m_Need_asked r = .ret (.o (.lst (List.map D.str (askedNeed r)))) := rfl
abbrev sp_Need_asked (K : PySem.W.Frag) : Sp := spF K (A := ((List (Int × (List Nat) × D)))) (fun a => [(D.ins "Need" [("terms", (D.lst (List.map (fun z : (Int × (List Nat) × D) => (D.tup [(D.int z.1), (D.str z.2.1), z.2.2])) a)))])]) (fun a => True) (fun a => .o (.lst (List.map D.str (askedNeed a))))
theorem ok_Need_asked {P : Program} {w : World} {K : PySem.W.Frag} {mg : Str → Option Value} {base : Heap} {f : Addr} {fd : FuncData} (F : Fun K "asked" "Row.asked" s_Row_asked f fd) : FnOk P w K mg base (L2.CX P w) 1 f fd ["self"] (sp_Need_asked K) := by
  refine def_ok F sc_Row_asked (fun _ => rfl) (fun a hp X E e1 e2 e3 e4 e5 hX => ?_)
  subst e1 e2 e3 e4 e5
  have h := bd_Need_asked X E hX a
  rw [m_Need_asked_eq a] at h
  exact h
abbrev s_Need_said : Stmt := clsAt (top 10) 1
abbrev nm_Need_said : List Str := ["self"]
theorem sc_Need_said : FnScope nm_Need_said ["self"] (defScope s_Need_said) := ⟨rfl, rfl, rfl, by decide +kernel, rfl, by decide +kernel, by decide +kernel⟩
theorem lk_Need_said_self : (defScope s_Need_said).names.lookup ("self" : Str) = some .local := by decide +kernel
theorem lk_Need_said_show_expr : (defScope s_Need_said).names.lookup ("show_expr" : Str) = some .globalImplicit := by decide +kernel
def m_Need_said (a0 : ((List (Int × (List Nat) × D)))) : Ctl Unit Empty := .ret (.v (D.str ([110, 101, 101, 100, 32] ++ (showL a0))))
theorem bd_Need_said (X : Cx) (E : XK) (hX : XOk 2 nm_Need_said (defScope s_Need_said) X E) (kn_show_expr : KnX X "show_expr" 2 (sp_show_expr X.K)) (fa_Need_terms : FldA X.K "Need" "terms") (a0 : ((List (Int × (List Nat) × D)))) (hp : TermsOk a0) : BK X E ([.d (D.ins "Need" [("terms", (D.lst (List.map (fun z : (Int × (List Nat) × D) => (D.tup [(D.int z.1), (D.str z.2.1), z.2.2])) a0)))])] : List B) (defBody s_Need_said) (fun s : Unit => List.replicate 1 B.un) (fun s : Empty => nomatch s) (m_Need_said a0) := by
  unfold m_Need_said
  exact (b_ret (ed_op (od_addS _ _ (by first | decide | omega | (unfold CMul; omega) | (dsimp only; omega) | (rw [sizeLine_eq]; omega) | exact hp | exact hp.2 | (have q := textL_len ‹TermsOk _›; rw [sizeLine_eq]; simp only [List.length_append, List.length_cons, List.length_nil]; omega) | (obtain ⟨q1, q2⟩ := hp; have q := show_len ‹TermsOk _›; rw [sizeLine_eq]; simp only [List.length_append, List.length_cons, List.length_nil]; omega) | (have q := show_len hp; rw [sizeLine_eq]; simp only [List.length_append, List.length_cons, List.length_nil]; omega) | (rw [sizeLine_eq]; simp only [List.length_append, List.length_cons, List.length_nil]; omega))) (ed_str [110, 101, 101, 100, 32] (by decide +kernel)) (ed_call a0 kn_show_expr (hX.room.mono (by decide)) (hX.gl lk_Need_said_show_expr) (ea_cons (ed_fld (ed_var 0 (hX.nm rfl) (hX.vs (vis_l lk_Need_said_self)) rfl) fa_Need_terms rfl) ea_nil) (by first | decide | omega | (unfold CMul; omega) | (dsimp only; omega) | (rw [sizeLine_eq]; omega) | exact hp | exact hp.2 | (have q := textL_len ‹TermsOk _›; rw [sizeLine_eq]; simp only [List.length_append, List.length_cons, List.length_nil]; omega) | (obtain ⟨q1, q2⟩ := hp; have q := show_len ‹TermsOk _›; rw [sizeLine_eq]; simp only [List.length_append, List.length_cons, List.length_nil]; omega) | (have q := show_len hp; rw [sizeLine_eq]; simp only [List.length_append, List.length_cons, List.length_nil]; omega) | (rw [sizeLine_eq]; simp only [List.length_append, List.length_cons, List.length_nil]; omega)) rfl)))
def saidNeed (a0 : ((List (Int × (List Nat) × D)))) : (List Nat) := outS (m_Need_said a0)
theorem m_Need_said_eq (a0 : ((List (Int × (List Nat) × D)))) : m_Need_said a0 = .ret (.v (D.str (saidNeed a0))) := by
  unfold saidNeed
  exact (show ∀ c : Ctl Unit Empty, (∃ z, c = .ret (.v (D.str z))) → c = .ret (.v (D.str (outS c))) from fun c ⟨z, h⟩ => by rw [h]; rfl) _ (by unfold m_Need_said; (try simp only [bnd]); (repeat' split) <;> first | exact ⟨_, rfl⟩ | (exfalso; simp_all))
abbrev sp_Need_said (K : PySem.W.Frag) : Sp := spF K (A := ((List (Int × (List Nat) × D)))) (fun a => [(D.ins "Need" [("terms", (D.lst (List.map (fun z : (Int × (List Nat) × D) => (D.tup [(D.int z.1), (D.str z.2.1), z.2.2])) a)))])]) (fun a => TermsOk a) (fun a => .v (D.str (saidNeed a)))
theorem ok_Need_said {P : Program} {w : World} {K : PySem.W.Frag} {mg : Str → Option Value} {base : Heap} {f : Addr} {fd : FuncData} (F : Fun K "said" "Need.said" s_Need_said f fd) (kn_show_expr : Kn P w K mg base "show_expr" 2 (sp_show_expr K)) (fa_Need_terms : FldA K "Need" "terms") : FnOk P w K mg base (L2.CX P w) 3 f fd ["self"] (sp_Need_said K) := by
  refine def_ok F sc_Need_said (fun _ => rfl) (fun a hp X E e1 e2 e3 e4 e5 hX => ?_)
  subst e1 e2 e3 e4 e5
  have h := bd_Need_said X E hX kn_show_expr fa_Need_terms a hp
  rw [m_Need_said_eq a] at h
  exact h
def m_Row_binds (a0 : Unit) : Ctl Unit Empty := .ret (.v (D.str ([] : List Nat)))
theorem bd_Row_binds (X : Cx) (E : XK) (hX : XOk 0 nm_Row_binds (defScope s_Row_binds) X E) (a0 : Unit) : BK X E ([.d (D.ins "Row" [])] : List B) (defBody s_Row_binds) (fun s : Unit => List.replicate 1 B.un) (fun s : Empty => nomatch s) (m_Row_binds a0) := by
  unfold m_Row_binds
  exact (b_ret (ed_str [] (by decide +kernel)))
def bindsRow (a0 : Unit) : (List Nat) := outS (m_Row_binds a0)
theorem m_Row_binds_eq (a0 : Unit) : m_Row_binds a0 = .ret (.v (D.str (bindsRow a0))) := by
  unfold bindsRow
  exact (show ∀ c : Ctl Unit Empty, (∃ z, c = .ret (.v (D.str z))) → c = .ret (.v (D.str (outS c))) from fun c ⟨z, h⟩ => by rw [h]; rfl) _ (by unfold m_Row_binds; (try simp only [bnd]); (repeat' split) <;> first | exact ⟨_, rfl⟩ | (exfalso; simp_all))
abbrev sp_Row_binds (K : PySem.W.Frag) : Sp := spF K (A := Unit) (fun a => [(D.ins "Row" [])]) (fun a => True) (fun a => .v (D.str (bindsRow a)))
theorem ok_Row_binds {P : Program} {w : World} {K : PySem.W.Frag} {mg : Str → Option Value} {base : Heap} {f : Addr} {fd : FuncData} (F : Fun K "binds" "Row.binds" s_Row_binds f fd) : FnOk P w K mg base (L2.CX P w) 1 f fd ["self"] (sp_Row_binds K) := by
  refine def_ok F sc_Row_binds (fun _ => rfl) (fun a hp X E e1 e2 e3 e4 e5 hX => ?_)
  subst e1 e2 e3 e4 e5
  have h := bd_Row_binds X E hX a
  rw [m_Row_binds_eq a] at h
  exact h
def m_Row_asked (a0 : Unit) : Ctl Unit Empty := .ret (.o (.lst (List.map D.str ([] : List (List Nat)))))
theorem bd_Row_asked (X : Cx) (E : XK) (hX : XOk 0 nm_Row_asked (defScope s_Row_asked) X E) (a0 : Unit) : BK X E ([.d (D.ins "Row" [])] : List B) (defBody s_Row_asked) (fun s : Unit => List.replicate 1 B.un) (fun s : Empty => nomatch s) (m_Row_asked a0) := by
  unfold m_Row_asked
  exact (b_retO (eo_lst ea_nil (by show 0 ≤ sizeLine; decide)))
def askedRow (r : Unit) : List (List Nat) := []
theorem m_Row_asked_eq (r : Unit) : m_Row_asked r = .ret (.o (.lst (List.map D.str (askedRow r)))) := rfl
abbrev sp_Row_asked (K : PySem.W.Frag) : Sp := spF K (A := Unit) (fun a => [(D.ins "Row" [])]) (fun a => True) (fun a => .o (.lst (List.map D.str (askedRow a))))
theorem ok_Row_asked {P : Program} {w : World} {K : PySem.W.Frag} {mg : Str → Option Value} {base : Heap} {f : Addr} {fd : FuncData} (F : Fun K "asked" "Row.asked" s_Row_asked f fd) : FnOk P w K mg base (L2.CX P w) 1 f fd ["self"] (sp_Row_asked K) := by
  refine def_ok F sc_Row_asked (fun _ => rfl) (fun a hp X E e1 e2 e3 e4 e5 hX => ?_)
  subst e1 e2 e3 e4 e5
  have h := bd_Row_asked X E hX a
  rw [m_Row_asked_eq a] at h
  exact h
abbrev s_Row_said : Stmt := clsAt (top 4) 2
abbrev nm_Row_said : List Str := ["self"]
theorem sc_Row_said : FnScope nm_Row_said ["self"] (defScope s_Row_said) := ⟨rfl, rfl, rfl, by decide +kernel, rfl, by decide +kernel, by decide +kernel⟩
def m_Row_said (a0 : Unit) : Ctl Unit Empty := .ret (.v (D.str ([] : List Nat)))
theorem bd_Row_said (X : Cx) (E : XK) (hX : XOk 2 nm_Row_said (defScope s_Row_said) X E) (a0 : Unit) : BK X E ([.d (D.ins "Row" [])] : List B) (defBody s_Row_said) (fun s : Unit => List.replicate 1 B.un) (fun s : Empty => nomatch s) (m_Row_said a0) := by
  unfold m_Row_said
  exact (b_ret (ed_str [] (by decide +kernel)))
def saidRow (a0 : Unit) : (List Nat) := outS (m_Row_said a0)
theorem m_Row_said_eq (a0 : Unit) : m_Row_said a0 = .ret (.v (D.str (saidRow a0))) := by
  unfold saidRow
  exact (show ∀ c : Ctl Unit Empty, (∃ z, c = .ret (.v (D.str z))) → c = .ret (.v (D.str (outS c))) from fun c ⟨z, h⟩ => by rw [h]; rfl) _ (by unfold m_Row_said; (try simp only [bnd]); (repeat' split) <;> first | exact ⟨_, rfl⟩ | (exfalso; simp_all))
abbrev sp_Row_said (K : PySem.W.Frag) : Sp := spF K (A := Unit) (fun a => [(D.ins "Row" [])]) (fun a => True) (fun a => .v (D.str (saidRow a)))
theorem ok_Row_said {P : Program} {w : World} {K : PySem.W.Frag} {mg : Str → Option Value} {base : Heap} {f : Addr} {fd : FuncData} (F : Fun K "said" "Row.said" s_Row_said f fd) : FnOk P w K mg base (L2.CX P w) 3 f fd ["self"] (sp_Row_said K) := by
  refine def_ok F sc_Row_said (fun _ => rfl) (fun a hp X E e1 e2 e3 e4 e5 hX => ?_)
  subst e1 e2 e3 e4 e5
  have h := bd_Row_said X E hX a
  rw [m_Row_said_eq a] at h
  exact h
abbrev s_law_row : Stmt := top 23
abbrev nm_law_row : List Str := ["_law_cell_here", "_law_name_here", "_law_sort", "_law_terms_here", "_law_kind", "_law_sign", "_law_thing"]
theorem sc_law_row : FnScope nm_law_row ["_law_cell_here", "_law_name_here"] (defScope s_law_row) := ⟨rfl, rfl, rfl, by decide +kernel, rfl, by decide +kernel, by decide +kernel⟩
theorem lk_law_row_law_address : (defScope s_law_row).names.lookup ("_law_address" : Str) = some .globalImplicit := by decide +kernel
theorem lk_law_row_law_cell_here : (defScope s_law_row).names.lookup ("_law_cell_here" : Str) = some .local := by decide +kernel
theorem lk_law_row_law_label : (defScope s_law_row).names.lookup ("_law_label" : Str) = some .globalImplicit := by decide +kernel
theorem lk_law_row_law_name_here : (defScope s_law_row).names.lookup ("_law_name_here" : Str) = some .local := by decide +kernel
theorem lk_law_row_law_pick : (defScope s_law_row).names.lookup ("_law_pick" : Str) = some .globalImplicit := by decide +kernel
theorem lk_law_row_law_sort : (defScope s_law_row).names.lookup ("_law_sort" : Str) = some .local := by decide +kernel
theorem lk_law_row_law_sub : (defScope s_law_row).names.lookup ("_law_sub" : Str) = some .globalImplicit := by decide +kernel
theorem lk_law_row_law_terms : (defScope s_law_row).names.lookup ("_law_terms" : Str) = some .globalImplicit := by decide +kernel
theorem lk_law_row_law_terms_here : (defScope s_law_row).names.lookup ("_law_terms_here" : Str) = some .local := by decide +kernel
def m_row (a0 : Int) (a1 : (List Nat)) : Ctl Unit Empty := bnd ((ix ([[108, 101, 116], [100, 101, 101, 100], [100, 114, 97, 119], [108, 97, 116, 101], [116, 97, 107, 101], [110, 101, 101, 100]] : List (List Nat)) (pickL a0 (10 : Int) (6 : Int)) []) : (List Nat)) fun v1 => bnd ((termsL a0) : (List (Int × (List Nat) × D))) fun v2 => Ctl.bind (S := (List (Int × (List Nat) × D))) (if (decide (v1 = [100, 101, 101, 100])) = true then bnd ((List.map (fun y5 : (Int × (List Nat) × D) => (y5.1, (ix ([[112, 97, 116, 104], y5.2.1] : List (List Nat)) (if (decide (y5.2.1 = [110, 117, 109, 98, 101, 114])) = true then 1 else 0 : Int) []), y5.2.2)) v2) : (List (Int × (List Nat) × D))) fun v4 => .go v4 else .go v2) fun s9 => Ctl.bind (S := (List Nat)) (if (decide (v1 = [110, 101, 101, 100])) = true then bnd (([] : List Nat) : (List Nat)) fun v11 => .go v11 else .go a1) fun s12 => .ret (.v (D.tup [(D.str (v1, s12, (addressL (subL a0 (31 : Int))), (labelL (subL a0 (35 : Int))), s9).1), (D.str (v1, s12, (addressL (subL a0 (31 : Int))), (labelL (subL a0 (35 : Int))), s9).2.1), (D.str (v1, s12, (addressL (subL a0 (31 : Int))), (labelL (subL a0 (35 : Int))), s9).2.2.1), (D.str (v1, s12, (addressL (subL a0 (31 : Int))), (labelL (subL a0 (35 : Int))), s9).2.2.2.1), (D.lst (List.map (fun z : (Int × (List Nat) × D) => (D.tup [(D.int z.1), (D.str z.2.1), z.2.2])) (v1, s12, (addressL (subL a0 (31 : Int))), (labelL (subL a0 (35 : Int))), s9).2.2.2.2))]))
theorem bd_row (X : Cx) (E : XK) (hX : XOk 5 nm_law_row (defScope s_law_row) X E) (m_int : X.mg "int" = none) (kn_address : KnX X "_law_address" 4 (sp_address X.K)) (kn_label : KnX X "_law_label" 3 (sp_label X.K)) (kn_pick : KnX X "_law_pick" 1 (sp_pick X.K)) (kn_sub : KnX X "_law_sub" 1 (sp_sub X.K)) (kn_terms : KnX X "_law_terms" 5 (sp_terms X.K)) (a0 : Int) (a1 : (List Nat)) : BK X E ([.d (D.int a0), .d (D.str a1), .un, .un, .un, .un, .un] : List B) (defBody s_law_row) (fun s : Unit => List.replicate 7 B.un) (fun s : Empty => nomatch s) (m_row a0 a1) := by
  unfold m_row
  exact (b_set 2 D.str hX rfl (loc_l lk_law_row_law_sort) (ed_ixL (EvO.el (eo_lst (ea_cons (ed_str [108, 101, 116] (by decide +kernel)) (ea_cons (ed_str [100, 101, 101, 100] (by decide +kernel)) (ea_cons (ed_str [100, 114, 97, 119] (by decide +kernel)) (ea_cons (ed_str [108, 97, 116, 101] (by decide +kernel)) (ea_cons (ed_str [116, 97, 107, 101] (by decide +kernel)) (ea_cons (ed_str [110, 101, 101, 100] (by decide +kernel)) ea_nil)))))) (by show 6 ≤ sizeLine; decide))) (ed_call ((a0, (10 : Int), (6 : Int)) : Int × Int × Int) kn_pick (hX.room.mono (by decide)) (hX.gl lk_law_row_law_pick) (ea_cons (ed_var 0 (hX.nm rfl) (hX.vs (vis_l lk_law_row_law_cell_here)) rfl) (ea_cons ed_int (ea_cons ed_int ea_nil))) (by first | decide | omega | (unfold CMul; omega) | (dsimp only; omega) | (rw [sizeLine_eq]; omega) | (have q := pickL_lt a0 10 (m := 6) (by decide); simp only [List.length_cons, List.length_nil]; omega) | exact if_ix (Nat.le_refl 2) | (subst_vars; have q := (termsL_ok a0).few; rw [sizeLine_eq]; omega)) rfl) (atI_map (f := D.str) (xs := ([[108, 101, 116], [100, 101, 101, 100], [100, 114, 97, 119], [108, 97, 116, 101], [116, 97, 107, 101], [110, 101, 101, 100]] : List (List Nat))) (ix_ok (d := []) (by first | decide | omega | (unfold CMul; omega) | (dsimp only; omega) | (rw [sizeLine_eq]; omega) | (have q := pickL_lt a0 10 (m := 6) (by decide); simp only [List.length_cons, List.length_nil]; omega) | exact if_ix (Nat.le_refl 2) | (subst_vars; have q := (termsL_ok a0).few; rw [sizeLine_eq]; omega))))) (fun v1 hv1 => (show BK X E ([.d (D.int a0), .d (D.str a1), .d (D.str v1), .un, .un, .un, .un] : List B) _ _ _ _ from (b_setO 3 (fun z : (List (Int × (List Nat) × D)) => OO.lst (List.map (fun z : (Int × (List Nat) × D) => (D.tup [(D.int z.1), (D.str z.2.1), z.2.2])) z)) hX rfl (loc_l lk_law_row_law_terms_here) (eo_call a0 kn_terms (hX.room.mono (by decide)) (hX.gl lk_law_row_law_terms) (ea_cons (ed_var 0 (hX.nm rfl) (hX.vs (vis_l lk_law_row_law_cell_here)) rfl) ea_nil) trivial rfl) (fun v2 hv2 => (show BK X E ([.d (D.int a0), .d (D.str a1), .d (D.str v1), .own (.lst (List.map (fun z : (Int × (List Nat) × D) => (D.tup [(D.int z.1), (D.str z.2.1), z.2.2])) v2)), .un, .un, .un] : List B) _ _ _ _ from (b_ifj (Γj := (fun s9 : (List (Int × (List Nat) × D)) => ([.d (D.int a0), .d (D.str a1), .d (D.str v1), .own (.lst (List.map (fun z : (Int × (List Nat) × D) => (D.tup [(D.int z.1), (D.str z.2.1), z.2.2])) s9)), .un, .un, .un] : List B))) (et_cmp (od_eqS _ _) (ed_var 2 (hX.nm rfl) (hX.vs (vis_l lk_law_row_law_sort)) rfl) (ed_str [100, 101, 101, 100] (by decide +kernel))) (fun h3 => (b_frz 3 rfl (show BK X E ([.d (D.int a0), .d (D.str a1), .d (D.str v1), .d (D.lst (List.map (fun z : (Int × (List Nat) × D) => (D.tup [(D.int z.1), (D.str z.2.1), z.2.2])) v2)), .un, .un, .un] : List B) _ _ _ _ from (b_setLc 3 (fun z : (List (Int × (List Nat) × D)) => OO.lst (List.map (fun z : (Int × (List Nat) × D) => (D.tup [(D.int z.1), (D.str z.2.1), z.2.2])) z)) hX rfl lk_law_row_law_terms_here (sw_yes hX lk_law_row_law_terms_here (by decide +kernel)) (lc_ok0 (Yt := (Int × (List Nat) × D)) (τ := (Int × (List Nat) × D)) (encY := (fun z : (Int × (List Nat) × D) => (D.tup [(D.int z.1), (D.str z.2.1), z.2.2]))) (enc := (fun z : (Int × (List Nat) × D) => (D.tup [(D.int z.1), (D.str z.2.1), z.2.2]))) (g := (gTup X.K 3 (gCons (gName 5) (gCons (gName 4) (gCons (gName 6) gNil))))) (js := [5, 4, 6]) (own := [("_law_sign", 5), ("_law_kind", 4), ("_law_thing", 6)]) v2 (fun y5 : (Int × (List Nat) × D) => (y5.1, (ix ([[112, 97, 116, 104], y5.2.1] : List (List Nat)) (if (decide (y5.2.1 = [110, 117, 109, 98, 101, 114])) = true then 1 else 0 : Int) []), y5.2.2)) (it_lst (ed_var 3 (hX.nm rfl) (hX.vs (vis_l lk_law_row_law_terms_here)) rfl)) (blk_ok hX (by decide +kernel)) (fun _ _ _ _ _ => (pg_tup hX.calm (pgs_cons (pg_name (i := 5) hX.nd (hX.nm rfl) (blk_lc hX (loc_l (by decide +kernel))) (.inr (blk_lk hX (by decide +kernel)))) (pgs_cons (pg_name (i := 4) hX.nd (hX.nm rfl) (blk_lc hX (loc_l (by decide +kernel))) (.inr (blk_lk hX (by decide +kernel)))) (pgs_cons (pg_name (i := 6) hX.nd (hX.nm rfl) (blk_lc hX (loc_l (by decide +kernel))) (.inr (blk_lk hX (by decide +kernel)))) pgs_nil))))) (by decide) (by first | decide | omega | (unfold CMul; omega) | (dsimp only; omega) | (rw [sizeLine_eq]; omega) | (have q := pickL_lt a0 10 (m := 6) (by decide); simp only [List.length_cons, List.length_nil]; omega) | exact if_ix (Nat.le_refl 2) | (subst_vars; have q := (termsL_ok a0).few; rw [sizeLine_eq]; omega)) (fun y5 : (Int × (List Nat) × D) => ([.d (D.int a0), .d (D.str a1), .d (D.str v1), .d (D.lst (List.map (fun z : (Int × (List Nat) × D) => (D.tup [(D.int z.1), (D.str z.2.1), z.2.2])) v2)), .d (D.str y5.2.1), .d (D.int y5.1), .d y5.2.2] : List B)) (fun y5 _ => (show TgD X.K (gTup X.K 3 (gCons (gName 5) (gCons (gName 4) (gCons (gName 6) gNil)))) [5, 4, 6] (wipeB ([.d (D.int a0), .d (D.str a1), .d (D.str v1), .d (D.lst (List.map (fun z : (Int × (List Nat) × D) => (D.tup [(D.int z.1), (D.str z.2.1), z.2.2])) v2)), .un, .un, .un] : List B) [5, 4, 6]) ((fun z : (Int × (List Nat) × D) => (D.tup [(D.int z.1), (D.str z.2.1), z.2.2])) y5) ([.d (D.int a0), .d (D.str a1), .d (D.str v1), .d (D.lst (List.map (fun z : (Int × (List Nat) × D) => (D.tup [(D.int z.1), (D.str z.2.1), z.2.2])) v2)), .d (D.str y5.2.1), .d (D.int y5.1), .d y5.2.2] : List B) from (tg_tup (tgs_cons 5 (tgs_cons 4 (tgs_cons 6 tgs_nil))) rfl))) (fun y5 hy6 _ _ _ _ _ => (ed_tup (ea_cons (ed_var 5 (hX.nm rfl) (blk_vs hX (vis_l (by decide +kernel))) rfl) (ea_cons (ed_ixL (EvO.el (eo_lst (ea_cons (ed_str [112, 97, 116, 104] (by decide +kernel)) (ea_cons (ed_var 4 (hX.nm rfl) (blk_vs hX (vis_l (by decide +kernel))) rfl) ea_nil)) (by show 2 ≤ sizeLine; decide))) (ed_intB (blk_gl hX (by decide +kernel)) m_int (ed_cmp (od_eqS _ _) (ed_var 4 (hX.nm rfl) (blk_vs hX (vis_l (by decide +kernel))) rfl) (ed_str [110, 117, 109, 98, 101, 114] (by decide +kernel)))) (atI_map (f := D.str) (xs := ([[112, 97, 116, 104], y5.2.1] : List (List Nat))) (ix_ok (d := []) (by first | decide | omega | (unfold CMul; omega) | (dsimp only; omega) | (rw [sizeLine_eq]; omega) | (have q := pickL_lt a0 10 (m := 6) (by decide); simp only [List.length_cons, List.length_nil]; omega) | exact if_ix (Nat.le_refl 2) | (subst_vars; have q := (termsL_ok a0).few; rw [sizeLine_eq]; omega))))) (ea_cons (ed_var 6 (hX.nm rfl) (blk_vs hX (vis_l (by decide +kernel))) rfl) ea_nil))) (by show 3 ≤ sizeLine; decide)))) (fun v4 hv4 => (show BK X E ([.d (D.int a0), .d (D.str a1), .d (D.str v1), .own (.lst (List.map (fun z : (Int × (List Nat) × D) => (D.tup [(D.int z.1), (D.str z.2.1), z.2.2])) v4)), .un, .un, .un] : List B) _ _ _ _ from (b_nil (.keep (.keep (.keep (.keep (.keep (.keep (.keep .nil)))))))))))))) (fun h3 => (b_nil (.keep (.keep (.keep (.keep (.keep (.keep (.keep .nil))))))))) (fun s9 hs9 => (b_ifj (Γj := (fun s12 : (List Nat) => ([.d (D.int a0), .d (D.str s12), .d (D.str v1), .own (.lst (List.map (fun z : (Int × (List Nat) × D) => (D.tup [(D.int z.1), (D.str z.2.1), z.2.2])) s9)), .un, .un, .un] : List B))) (et_cmp (od_eqS _ _) (ed_var 2 (hX.nm rfl) (hX.vs (vis_l lk_law_row_law_sort)) rfl) (ed_str [110, 101, 101, 100] (by decide +kernel))) (fun h10 => (b_set 1 D.str hX rfl (loc_l lk_law_row_law_name_here) (ed_str [] (by decide +kernel)) (fun v11 hv11 => (show BK X E ([.d (D.int a0), .d (D.str v11), .d (D.str v1), .own (.lst (List.map (fun z : (Int × (List Nat) × D) => (D.tup [(D.int z.1), (D.str z.2.1), z.2.2])) s9)), .un, .un, .un] : List B) _ _ _ _ from (b_nil (.keep (.keep (.keep (.keep (.keep (.keep (.keep .nil)))))))))))) (fun h10 => (b_nil (.keep (.keep (.keep (.keep (.keep (.keep (.keep .nil))))))))) (fun s12 hs12 => (b_frz 3 rfl (show BK X E ([.d (D.int a0), .d (D.str s12), .d (D.str v1), .d (D.lst (List.map (fun z : (Int × (List Nat) × D) => (D.tup [(D.int z.1), (D.str z.2.1), z.2.2])) s9)), .un, .un, .un] : List B) _ _ _ _ from (b_ret (ed_tup (ea_cons (ed_var 2 (hX.nm rfl) (hX.vs (vis_l lk_law_row_law_sort)) rfl) (ea_cons (ed_var 1 (hX.nm rfl) (hX.vs (vis_l lk_law_row_law_name_here)) rfl) (ea_cons (ed_call (subL a0 (31 : Int)) kn_address (hX.room.mono (by decide)) (hX.gl lk_law_row_law_address) (ea_cons (ed_call ((a0, (31 : Int)) : Int × Int) kn_sub (hX.room.mono (by decide)) (hX.gl lk_law_row_law_sub) (ea_cons (ed_var 0 (hX.nm rfl) (hX.vs (vis_l lk_law_row_law_cell_here)) rfl) (ea_cons ed_int ea_nil)) (by first | decide | omega | (unfold CMul; omega) | (dsimp only; omega) | (rw [sizeLine_eq]; omega) | (have q := pickL_lt a0 10 (m := 6) (by decide); simp only [List.length_cons, List.length_nil]; omega) | exact if_ix (Nat.le_refl 2) | (subst_vars; have q := (termsL_ok a0).few; rw [sizeLine_eq]; omega)) rfl) ea_nil) trivial rfl) (ea_cons (ed_call (subL a0 (35 : Int)) kn_label (hX.room.mono (by decide)) (hX.gl lk_law_row_law_label) (ea_cons (ed_call ((a0, (35 : Int)) : Int × Int) kn_sub (hX.room.mono (by decide)) (hX.gl lk_law_row_law_sub) (ea_cons (ed_var 0 (hX.nm rfl) (hX.vs (vis_l lk_law_row_law_cell_here)) rfl) (ea_cons ed_int ea_nil)) (by first | decide | omega | (unfold CMul; omega) | (dsimp only; omega) | (rw [sizeLine_eq]; omega) | (have q := pickL_lt a0 10 (m := 6) (by decide); simp only [List.length_cons, List.length_nil]; omega) | exact if_ix (Nat.le_refl 2) | (subst_vars; have q := (termsL_ok a0).few; rw [sizeLine_eq]; omega)) rfl) ea_nil) trivial rfl) (ea_cons (ed_var 3 (hX.nm rfl) (hX.vs (vis_l lk_law_row_law_terms_here)) rfl) ea_nil))))) (by show 5 ≤ sizeLine; decide)))))))))))))))
abbrev SORTS : List (List Nat) := [[108, 101, 116], [100, 101, 101, 100], [100, 114, 97, 119], [108, 97, 116, 101], [116, 97, 107, 101], [110, 101, 101, 100]]
def rowL (c : Int) (n : List Nat) : RT := (ix SORTS (pickL c 10 6) [], if decide (ix SORTS (pickL c 10 6) [] = [110, 101, 101, 100]) = true then [] else n, addressL (subL c 31), labelL (subL c 35),
  if decide (ix SORTS (pickL c 10 6) [] = [100, 101, 101, 100]) = true then deedT (termsL c) else termsL c)
theorem m_row_eq (c : Int) (n : List Nat) : m_row c n = .ret (.v ((D.tup [(D.str (rowL c n).1), (D.str (rowL c n).2.1), (D.str (rowL c n).2.2.1), (D.str (rowL c n).2.2.2.1), (D.lst (List.map (fun z : (Int × (List Nat) × D) => (D.tup [(D.int z.1), (D.str z.2.1), z.2.2])) (rowL c n).2.2.2.2))]))) := by
  unfold m_row rowL
  simp only [bnd]
  cases decide (ix SORTS (pickL c 10 6) [] = [110, 101, 101, 100]) <;> cases decide (ix SORTS (pickL c 10 6) [] = [100, 101, 101, 100]) <;> rfl
def R_binds : RowT → (List Nat)
  | .Let x0 x1 => bindsLet (x0, x1)
  | .Deed x0 x1 => bindsDeed (x0, x1)
  | .Draw x0 x1 => bindsDraw (x0, x1)
  | .Late x0 x1 => bindsLate (x0, x1)
  | .Take x0 x1 x2 => bindsTake (x0, x1, x2)
  | .Need x0 => bindsNeed (x0)
theorem row_binds {X : Cx} {Γ : List B} {o : Expr} {pos apos : Pos} {pl : Sem Bool} (h_Let : MethX X "Let" "binds" 1 (sp_Let_binds X.K)) (h_Deed : MethX X "Deed" "binds" 1 (sp_Deed_binds X.K)) (h_Draw : MethX X "Draw" "binds" 1 (sp_Draw_binds X.K)) (h_Late : MethX X "Late" "binds" 1 (sp_Late_binds X.K)) (h_Take : MethX X "Take" "binds" 1 (sp_Take_binds X.K)) (h_Need : MethX X "Need" "binds" 1 (sp_Need_binds X.K)) (hr : Room 1 X.A) (r : RowT) (he : ED X Γ o (encRow r)) (ht : eval (.Call (.Attribute o "binds" apos) [] [] pos) X.env = (do
      let ov ← eval o X.env
      standAt apos.atName
      let (f, first) ← holding [ov] (getMethod ov "binds" pl)
      callWith pos f first (backTo pos (starEach [] X.env)) (backToKw pos (keywordEach [] X.env))) := by rfl) : ED X Γ (.Call (.Attribute o "binds" apos) [] [] pos) (.str (R_binds r)) := by
  cases r with
  | Let x0 x1 => exact ed_meth0 (x0, x1) h_Let hr he rfl trivial rfl rfl ht
  | Deed x0 x1 => exact ed_meth0 (x0, x1) h_Deed hr he rfl trivial rfl rfl ht
  | Draw x0 x1 => exact ed_meth0 (x0, x1) h_Draw hr he rfl trivial rfl rfl ht
  | Late x0 x1 => exact ed_meth0 (x0, x1) h_Late hr he rfl trivial rfl rfl ht
  | Take x0 x1 x2 => exact ed_meth0 (x0, x1, x2) h_Take hr he rfl trivial rfl rfl ht
  | Need x0 => exact ed_meth0 (x0) h_Need hr he rfl trivial rfl rfl ht
def R_asked : RowT → (List (List Nat))
  | .Let x0 x1 => askedLet (x0, x1)
  | .Deed x0 x1 => askedDeed (x0, x1)
  | .Draw x0 x1 => askedDraw (x0, x1)
  | .Late x0 x1 => askedLate (x0, x1)
  | .Take x0 x1 x2 => askedTake (x0, x1, x2)
  | .Need x0 => askedNeed (x0)
theorem row_asked {X : Cx} {Γ : List B} {o : Expr} {pos apos : Pos} {pl : Sem Bool} (h_Let : MethX X "Let" "asked" 1 (sp_Let_asked X.K)) (h_Deed : MethX X "Deed" "asked" 1 (sp_Deed_asked X.K)) (h_Draw : MethX X "Draw" "asked" 1 (sp_Draw_asked X.K)) (h_Late : MethX X "Late" "asked" 1 (sp_Late_asked X.K)) (h_Take : MethX X "Take" "asked" 1 (sp_Take_asked X.K)) (h_Need : MethX X "Need" "asked" 1 (sp_Need_asked X.K)) (hr : Room 1 X.A) (r : RowT) (he : ED X Γ o (encRow r)) (ht : eval (.Call (.Attribute o "asked" apos) [] [] pos) X.env = (do
      let ov ← eval o X.env
      standAt apos.atName
      let (f, first) ← holding [ov] (getMethod ov "asked" pl)
      callWith pos f first (backTo pos (starEach [] X.env)) (backToKw pos (keywordEach [] X.env))) := by rfl) : EO X Γ (.Call (.Attribute o "asked" apos) [] [] pos) (.lst (List.map D.str (R_asked r))) := by
  cases r with
  | Let x0 x1 => exact eo_meth0 (x0, x1) h_Let hr he rfl trivial rfl rfl ht
  | Deed x0 x1 => exact eo_meth0 (x0, x1) h_Deed hr he rfl trivial rfl rfl ht
  | Draw x0 x1 => exact eo_meth0 (x0, x1) h_Draw hr he rfl trivial rfl rfl ht
  | Late x0 x1 => exact eo_meth0 (x0, x1) h_Late hr he rfl trivial rfl rfl ht
  | Take x0 x1 x2 => exact eo_meth0 (x0, x1, x2) h_Take hr he rfl trivial rfl rfl ht
  | Need x0 => exact eo_meth0 (x0) h_Need hr he rfl trivial rfl rfl ht
def R_said : RowT → (List Nat)
  | .Let x0 x1 => saidLet (x0, x1)
  | .Deed x0 x1 => saidDeed (x0, x1)
  | .Draw x0 x1 => saidDraw (x0, x1)
  | .Late x0 x1 => saidLate (x0, x1)
  | .Take x0 x1 x2 => saidTake (x0, x1, x2)
  | .Need x0 => saidNeed (x0)
theorem row_said {X : Cx} {Γ : List B} {o : Expr} {pos apos : Pos} {pl : Sem Bool} (h_Let : MethX X "Let" "said" 3 (sp_Let_said X.K)) (h_Deed : MethX X "Deed" "said" 3 (sp_Deed_said X.K)) (h_Draw : MethX X "Draw" "said" 3 (sp_Draw_said X.K)) (h_Late : MethX X "Late" "said" 3 (sp_Late_said X.K)) (h_Take : MethX X "Take" "said" 3 (sp_Take_said X.K)) (h_Need : MethX X "Need" "said" 3 (sp_Need_said X.K)) (hr : Room 3 X.A) (r : RowT) (hp : RowOk r) (he : ED X Γ o (encRow r)) (ht : eval (.Call (.Attribute o "said" apos) [] [] pos) X.env = (do
      let ov ← eval o X.env
      standAt apos.atName
      let (f, first) ← holding [ov] (getMethod ov "said" pl)
      callWith pos f first (backTo pos (starEach [] X.env)) (backToKw pos (keywordEach [] X.env))) := by rfl) : ED X Γ (.Call (.Attribute o "said" apos) [] [] pos) (.str (R_said r)) := by
  cases r with
  | Let x0 x1 => exact ed_meth0 (x0, x1) h_Let hr he rfl hp rfl rfl ht
  | Deed x0 x1 => exact ed_meth0 (x0, x1) h_Deed hr he rfl hp rfl rfl ht
  | Draw x0 x1 => exact ed_meth0 (x0, x1) h_Draw hr he rfl hp rfl rfl ht
  | Late x0 x1 => exact ed_meth0 (x0, x1) h_Late hr he rfl hp rfl rfl ht
  | Take x0 x1 x2 => exact ed_meth0 (x0, x1, x2) h_Take hr he rfl hp rfl rfl ht
  | Need x0 => exact ed_meth0 (x0) h_Need hr he rfl hp rfl rfl ht
abbrev sp_row (K : PySem.W.Frag) : Sp := spF K (A := Int × (List Nat)) (fun a => [(D.int a.1), (D.str a.2)]) (fun a => True) (fun a => .v (D.tup [(D.str (rowL a.1 a.2).1), (D.str (rowL a.1 a.2).2.1), (D.str (rowL a.1 a.2).2.2.1), (D.str (rowL a.1 a.2).2.2.2.1), (D.lst (List.map (fun z : (Int × (List Nat) × D) => (D.tup [(D.int z.1), (D.str z.2.1), z.2.2])) (rowL a.1 a.2).2.2.2.2))]))
theorem ok_row {P : Program} {w : World} {K : PySem.W.Frag} {mg : Str → Option Value} {base : Heap} {f : Addr} {fd : FuncData} (F : Fun K "_law_row" "_law_row" s_law_row f fd) (m_int : mg "int" = none) (kn_address : Kn P w K mg base "_law_address" 4 (sp_address K)) (kn_label : Kn P w K mg base "_law_label" 3 (sp_label K)) (kn_pick : Kn P w K mg base "_law_pick" 1 (sp_pick K)) (kn_sub : Kn P w K mg base "_law_sub" 1 (sp_sub K)) (kn_terms : Kn P w K mg base "_law_terms" 5 (sp_terms K)) : FnOk P w K mg base (L2.CX P w) 6 f fd ["_law_cell_here", "_law_name_here"] (sp_row K) := by
  refine def_ok F sc_law_row (fun _ => rfl) (fun a hp X E e1 e2 e3 e4 e5 hX => ?_)
  subst e1 e2 e3 e4 e5
  have h := bd_row X E hX m_int kn_address kn_label kn_pick kn_sub kn_terms a.1 a.2
  rw [m_row_eq a.1 a.2] at h
  exact h
abbrev s_law_said : Stmt := top 24
abbrev nm_law_said : List Str := ["_law_row_here", "_law_sort", "_law_name_here", "_law_address_here", "_law_word_here", "_law_terms_here"]
theorem sc_law_said : FnScope nm_law_said ["_law_row_here"] (defScope s_law_said) := ⟨rfl, rfl, rfl, by decide +kernel, rfl, by decide +kernel, by decide +kernel⟩
theorem lk_law_said_law_address_here : (defScope s_law_said).names.lookup ("_law_address_here" : Str) = some .local := by decide +kernel
theorem lk_law_said_law_name_here : (defScope s_law_said).names.lookup ("_law_name_here" : Str) = some .local := by decide +kernel
theorem lk_law_said_law_row_here : (defScope s_law_said).names.lookup ("_law_row_here" : Str) = some .local := by decide +kernel
theorem lk_law_said_law_sort : (defScope s_law_said).names.lookup ("_law_sort" : Str) = some .local := by decide +kernel
theorem lk_law_said_law_terms_here : (defScope s_law_said).names.lookup ("_law_terms_here" : Str) = some .local := by decide +kernel
theorem lk_law_said_law_text : (defScope s_law_said).names.lookup ("_law_text" : Str) = some .globalImplicit := by decide +kernel
theorem lk_law_said_law_word_here : (defScope s_law_said).names.lookup ("_law_word_here" : Str) = some .local := by decide +kernel
def m_row_said (a0 : ((List Nat) × (List Nat) × (List Nat) × (List Nat) × (List (Int × (List Nat) × D)))) : Ctl Unit Empty := bnd (a0 : ((List Nat) × (List Nat) × (List Nat) × (List Nat) × (List (Int × (List Nat) × D)))) fun v1 => if ((decide (v1.1 = [100, 114, 97, 119])) || (decide (v1.1 = [108, 97, 116, 101]))) = true then Ctl.up (.ret (.v (D.str ((((v1.1 ++ [32]) ++ v1.2.2.1) ++ [32, 97, 115, 32]) ++ v1.2.1)))) else if (decide (v1.1 = [116, 97, 107, 101])) = true then Ctl.up (.ret (.v (D.str ((((([116, 97, 107, 101, 32] ++ v1.2.2.2.1) ++ [32, 102, 114, 111, 109, 32]) ++ v1.2.2.1) ++ [32, 97, 115, 32]) ++ v1.2.1)))) else if (decide (v1.1 = [110, 101, 101, 100])) = true then Ctl.up (.ret (.v (D.str ([110, 101, 101, 100, 32] ++ (textL v1.2.2.2.2))))) else .ret (.v (D.str ((((v1.1 ++ [32]) ++ v1.2.1) ++ [32, 98, 101, 32]) ++ (textL v1.2.2.2.2))))
theorem bd_row_said (X : Cx) (E : XK) (hX : XOk 2 nm_law_said (defScope s_law_said) X E) (kn_text : KnX X "_law_text" 2 (sp_text X.K)) (a0 : ((List Nat) × (List Nat) × (List Nat) × (List Nat) × (List (Int × (List Nat) × D)))) (hp : RowTOk a0) : BK X E ([.d (D.tup [(D.str a0.1), (D.str a0.2.1), (D.str a0.2.2.1), (D.str a0.2.2.2.1), (D.lst (List.map (fun z : (Int × (List Nat) × D) => (D.tup [(D.int z.1), (D.str z.2.1), z.2.2])) a0.2.2.2.2))]), .un, .un, .un, .un, .un] : List B) (defBody s_law_said) (fun s : Unit => List.replicate 6 B.un) (fun s : Empty => nomatch s) (m_row_said a0) := by
  unfold m_row_said
  exact (b_setT (g := (gTup X.K 5 (gCons (gName 1) (gCons (gName 2) (gCons (gName 3) (gCons (gName 4) (gCons (gName 5) gNil))))))) (js := [1, 2, 3, 4, 5]) (fun z : ((List Nat) × (List Nat) × (List Nat) × (List Nat) × (List (Int × (List Nat) × D))) => (D.tup [(D.str z.1), (D.str z.2.1), (D.str z.2.2.1), (D.str z.2.2.2.1), (D.lst (List.map (fun z : (Int × (List Nat) × D) => (D.tup [(D.int z.1), (D.str z.2.1), z.2.2])) z.2.2.2.2))])) (fun v1 : ((List Nat) × (List Nat) × (List Nat) × (List Nat) × (List (Int × (List Nat) × D))) => ([.d (D.tup [(D.str a0.1), (D.str a0.2.1), (D.str a0.2.2.1), (D.str a0.2.2.2.1), (D.lst (List.map (fun z : (Int × (List Nat) × D) => (D.tup [(D.int z.1), (D.str z.2.1), z.2.2])) a0.2.2.2.2))]), .d (D.str v1.1), .d (D.str v1.2.1), .d (D.str v1.2.2.1), .d (D.str v1.2.2.2.1), .d (D.lst (List.map (fun z : (Int × (List Nat) × D) => (D.tup [(D.int z.1), (D.str z.2.1), z.2.2])) v1.2.2.2.2))] : List B)) (pg_tup hX.calm (pgs_cons (pg_name (i := 1) hX.nd (hX.nm rfl) (hX.lc (loc_l lk_law_said_law_sort)) (.inl (hX.fn _))) (pgs_cons (pg_name (i := 2) hX.nd (hX.nm rfl) (hX.lc (loc_l lk_law_said_law_name_here)) (.inl (hX.fn _))) (pgs_cons (pg_name (i := 3) hX.nd (hX.nm rfl) (hX.lc (loc_l lk_law_said_law_address_here)) (.inl (hX.fn _))) (pgs_cons (pg_name (i := 4) hX.nd (hX.nm rfl) (hX.lc (loc_l lk_law_said_law_word_here)) (.inl (hX.fn _))) (pgs_cons (pg_name (i := 5) hX.nd (hX.nm rfl) (hX.lc (loc_l lk_law_said_law_terms_here)) (.inl (hX.fn _))) pgs_nil)))))) (fun v1 => (tg_tup (tgs_cons 1 (tgs_cons 2 (tgs_cons 3 (tgs_cons 4 (tgs_cons 5 tgs_nil))))) rfl)) (ed_var 0 (hX.nm rfl) (hX.vs (vis_l lk_law_said_law_row_here)) rfl) (fun v1 hv1 => (b_ifr (et_w (ew_or (et_cmp (od_eqS _ _) (ed_var 1 (hX.nm rfl) (hX.vs (vis_l lk_law_said_law_sort)) rfl) (ed_str [100, 114, 97, 119] (by decide +kernel))) (fun h2 => (ew_or1 (et_cmp (od_eqS _ _) (ed_var 1 (hX.nm rfl) (hX.vs (vis_l lk_law_said_law_sort)) rfl) (ed_str [108, 97, 116, 101] (by decide +kernel))))))) (fun h3 => (b_ret (ed_op (od_addS _ _ (by first | decide | omega | (unfold CMul; omega) | (dsimp only; omega) | (rw [sizeLine_eq]; omega) | (subst_vars; first | exact hp.tm | (have q1 := hp.nm; have q2 := hp.ad; have q3 := hp.wd; have q4 := textL_len hp.tm; have q5 := hp.sortlen; rw [sizeLine_eq]; simp only [List.length_append, List.length_cons, List.length_nil]; omega)))) (ed_op (od_addS _ _ (by first | decide | omega | (unfold CMul; omega) | (dsimp only; omega) | (rw [sizeLine_eq]; omega) | (subst_vars; first | exact hp.tm | (have q1 := hp.nm; have q2 := hp.ad; have q3 := hp.wd; have q4 := textL_len hp.tm; have q5 := hp.sortlen; rw [sizeLine_eq]; simp only [List.length_append, List.length_cons, List.length_nil]; omega)))) (ed_op (od_addS _ _ (by first | decide | omega | (unfold CMul; omega) | (dsimp only; omega) | (rw [sizeLine_eq]; omega) | (subst_vars; first | exact hp.tm | (have q1 := hp.nm; have q2 := hp.ad; have q3 := hp.wd; have q4 := textL_len hp.tm; have q5 := hp.sortlen; rw [sizeLine_eq]; simp only [List.length_append, List.length_cons, List.length_nil]; omega)))) (ed_op (od_addS _ _ (by first | decide | omega | (unfold CMul; omega) | (dsimp only; omega) | (rw [sizeLine_eq]; omega) | (subst_vars; first | exact hp.tm | (have q1 := hp.nm; have q2 := hp.ad; have q3 := hp.wd; have q4 := textL_len hp.tm; have q5 := hp.sortlen; rw [sizeLine_eq]; simp only [List.length_append, List.length_cons, List.length_nil]; omega)))) (ed_var 1 (hX.nm rfl) (hX.vs (vis_l lk_law_said_law_sort)) rfl) (ed_str [32] (by decide +kernel))) (ed_var 3 (hX.nm rfl) (hX.vs (vis_l lk_law_said_law_address_here)) rfl)) (ed_str [32, 97, 115, 32] (by decide +kernel))) (ed_var 2 (hX.nm rfl) (hX.vs (vis_l lk_law_said_law_name_here)) rfl)))) (fun h3 => (b_ifr (et_cmp (od_eqS _ _) (ed_var 1 (hX.nm rfl) (hX.vs (vis_l lk_law_said_law_sort)) rfl) (ed_str [116, 97, 107, 101] (by decide +kernel))) (fun h4 => (b_ret (ed_op (od_addS _ _ (by first | decide | omega | (unfold CMul; omega) | (dsimp only; omega) | (rw [sizeLine_eq]; omega) | (subst_vars; first | exact hp.tm | (have q1 := hp.nm; have q2 := hp.ad; have q3 := hp.wd; have q4 := textL_len hp.tm; have q5 := hp.sortlen; rw [sizeLine_eq]; simp only [List.length_append, List.length_cons, List.length_nil]; omega)))) (ed_op (od_addS _ _ (by first | decide | omega | (unfold CMul; omega) | (dsimp only; omega) | (rw [sizeLine_eq]; omega) | (subst_vars; first | exact hp.tm | (have q1 := hp.nm; have q2 := hp.ad; have q3 := hp.wd; have q4 := textL_len hp.tm; have q5 := hp.sortlen; rw [sizeLine_eq]; simp only [List.length_append, List.length_cons, List.length_nil]; omega)))) (ed_op (od_addS _ _ (by first | decide | omega | (unfold CMul; omega) | (dsimp only; omega) | (rw [sizeLine_eq]; omega) | (subst_vars; first | exact hp.tm | (have q1 := hp.nm; have q2 := hp.ad; have q3 := hp.wd; have q4 := textL_len hp.tm; have q5 := hp.sortlen; rw [sizeLine_eq]; simp only [List.length_append, List.length_cons, List.length_nil]; omega)))) (ed_op (od_addS _ _ (by first | decide | omega | (unfold CMul; omega) | (dsimp only; omega) | (rw [sizeLine_eq]; omega) | (subst_vars; first | exact hp.tm | (have q1 := hp.nm; have q2 := hp.ad; have q3 := hp.wd; have q4 := textL_len hp.tm; have q5 := hp.sortlen; rw [sizeLine_eq]; simp only [List.length_append, List.length_cons, List.length_nil]; omega)))) (ed_op (od_addS _ _ (by first | decide | omega | (unfold CMul; omega) | (dsimp only; omega) | (rw [sizeLine_eq]; omega) | (subst_vars; first | exact hp.tm | (have q1 := hp.nm; have q2 := hp.ad; have q3 := hp.wd; have q4 := textL_len hp.tm; have q5 := hp.sortlen; rw [sizeLine_eq]; simp only [List.length_append, List.length_cons, List.length_nil]; omega)))) (ed_str [116, 97, 107, 101, 32] (by decide +kernel)) (ed_var 4 (hX.nm rfl) (hX.vs (vis_l lk_law_said_law_word_here)) rfl)) (ed_str [32, 102, 114, 111, 109, 32] (by decide +kernel))) (ed_var 3 (hX.nm rfl) (hX.vs (vis_l lk_law_said_law_address_here)) rfl)) (ed_str [32, 97, 115, 32] (by decide +kernel))) (ed_var 2 (hX.nm rfl) (hX.vs (vis_l lk_law_said_law_name_here)) rfl)))) (fun h4 => (b_ifr (et_cmp (od_eqS _ _) (ed_var 1 (hX.nm rfl) (hX.vs (vis_l lk_law_said_law_sort)) rfl) (ed_str [110, 101, 101, 100] (by decide +kernel))) (fun h5 => (b_ret (ed_op (od_addS _ _ (by first | decide | omega | (unfold CMul; omega) | (dsimp only; omega) | (rw [sizeLine_eq]; omega) | (subst_vars; first | exact hp.tm | (have q1 := hp.nm; have q2 := hp.ad; have q3 := hp.wd; have q4 := textL_len hp.tm; have q5 := hp.sortlen; rw [sizeLine_eq]; simp only [List.length_append, List.length_cons, List.length_nil]; omega)))) (ed_str [110, 101, 101, 100, 32] (by decide +kernel)) (ed_call v1.2.2.2.2 kn_text (hX.room.mono (by decide)) (hX.gl lk_law_said_law_text) (ea_cons (ed_var 5 (hX.nm rfl) (hX.vs (vis_l lk_law_said_law_terms_here)) rfl) ea_nil) (by first | decide | omega | (unfold CMul; omega) | (dsimp only; omega) | (rw [sizeLine_eq]; omega) | (subst_vars; first | exact hp.tm | (have q1 := hp.nm; have q2 := hp.ad; have q3 := hp.wd; have q4 := textL_len hp.tm; have q5 := hp.sortlen; rw [sizeLine_eq]; simp only [List.length_append, List.length_cons, List.length_nil]; omega))) rfl)))) (fun h5 => (b_ret (ed_op (od_addS _ _ (by first | decide | omega | (unfold CMul; omega) | (dsimp only; omega) | (rw [sizeLine_eq]; omega) | (subst_vars; first | exact hp.tm | (have q1 := hp.nm; have q2 := hp.ad; have q3 := hp.wd; have q4 := textL_len hp.tm; have q5 := hp.sortlen; rw [sizeLine_eq]; simp only [List.length_append, List.length_cons, List.length_nil]; omega)))) (ed_op (od_addS _ _ (by first | decide | omega | (unfold CMul; omega) | (dsimp only; omega) | (rw [sizeLine_eq]; omega) | (subst_vars; first | exact hp.tm | (have q1 := hp.nm; have q2 := hp.ad; have q3 := hp.wd; have q4 := textL_len hp.tm; have q5 := hp.sortlen; rw [sizeLine_eq]; simp only [List.length_append, List.length_cons, List.length_nil]; omega)))) (ed_op (od_addS _ _ (by first | decide | omega | (unfold CMul; omega) | (dsimp only; omega) | (rw [sizeLine_eq]; omega) | (subst_vars; first | exact hp.tm | (have q1 := hp.nm; have q2 := hp.ad; have q3 := hp.wd; have q4 := textL_len hp.tm; have q5 := hp.sortlen; rw [sizeLine_eq]; simp only [List.length_append, List.length_cons, List.length_nil]; omega)))) (ed_op (od_addS _ _ (by first | decide | omega | (unfold CMul; omega) | (dsimp only; omega) | (rw [sizeLine_eq]; omega) | (subst_vars; first | exact hp.tm | (have q1 := hp.nm; have q2 := hp.ad; have q3 := hp.wd; have q4 := textL_len hp.tm; have q5 := hp.sortlen; rw [sizeLine_eq]; simp only [List.length_append, List.length_cons, List.length_nil]; omega)))) (ed_var 1 (hX.nm rfl) (hX.vs (vis_l lk_law_said_law_sort)) rfl) (ed_str [32] (by decide +kernel))) (ed_var 2 (hX.nm rfl) (hX.vs (vis_l lk_law_said_law_name_here)) rfl)) (ed_str [32, 98, 101, 32] (by decide +kernel))) (ed_call v1.2.2.2.2 kn_text (hX.room.mono (by decide)) (hX.gl lk_law_said_law_text) (ea_cons (ed_var 5 (hX.nm rfl) (hX.vs (vis_l lk_law_said_law_terms_here)) rfl) ea_nil) (by first | decide | omega | (unfold CMul; omega) | (dsimp only; omega) | (rw [sizeLine_eq]; omega) | (subst_vars; first | exact hp.tm | (have q1 := hp.nm; have q2 := hp.ad; have q3 := hp.wd; have q4 := textL_len hp.tm; have q5 := hp.sortlen; rw [sizeLine_eq]; simp only [List.length_append, List.length_cons, List.length_nil]; omega))) rfl)))))))))))
def saidL (r : RT) : List Nat := if (decide (r.1 = [100, 114, 97, 119]) || decide (r.1 = [108, 97, 116, 101])) = true then r.1 ++ [32] ++ r.2.2.1 ++ [32, 97, 115, 32] ++ r.2.1
  else if decide (r.1 = [116, 97, 107, 101]) = true then [116, 97, 107, 101, 32] ++ r.2.2.2.1 ++ [32, 102, 114, 111, 109, 32] ++ r.2.2.1 ++ [32, 97, 115, 32] ++ r.2.1
  else if decide (r.1 = [110, 101, 101, 100]) = true then [110, 101, 101, 100, 32] ++ textL r.2.2.2.2 else r.1 ++ [32] ++ r.2.1 ++ [32, 98, 101, 32] ++ textL r.2.2.2.2
theorem m_row_said_eq (r : RT) : m_row_said r = .ret (.v (.str (saidL r))) := by
  unfold m_row_said saidL
  simp only [bnd]
  cases (decide (r.1 = [100, 114, 97, 119]) || decide (r.1 = [108, 97, 116, 101]))
  · cases decide (r.1 = [116, 97, 107, 101])
    · cases decide (r.1 = [110, 101, 101, 100]) <;> rfl
    · rfl
  · rfl
theorem saidL_eq : saidL = saidL := rfl
abbrev sp_row_said (K : PySem.W.Frag) : Sp := spF K (A := ((List Nat) × (List Nat) × (List Nat) × (List Nat) × (List (Int × (List Nat) × D)))) (fun a => [(D.tup [(D.str a.1), (D.str a.2.1), (D.str a.2.2.1), (D.str a.2.2.2.1), (D.lst (List.map (fun z : (Int × (List Nat) × D) => (D.tup [(D.int z.1), (D.str z.2.1), z.2.2])) a.2.2.2.2))])]) (fun a => RowTOk a) (fun a => .v (D.str (saidL a)))
theorem ok_row_said {P : Program} {w : World} {K : PySem.W.Frag} {mg : Str → Option Value} {base : Heap} {f : Addr} {fd : FuncData} (F : Fun K "_law_said" "_law_said" s_law_said f fd) (kn_text : Kn P w K mg base "_law_text" 2 (sp_text K)) : FnOk P w K mg base (L2.CX P w) 3 f fd ["_law_row_here"] (sp_row_said K) := by
  refine def_ok F sc_law_said (fun _ => rfl) (fun a hp X E e1 e2 e3 e4 e5 hX => ?_)
  subst e1 e2 e3 e4 e5
  have h := bd_row_said X E hX kn_text a hp
  rw [m_row_said_eq a] at h
  exact h
abbrev s_law_made : Stmt := top 30
abbrev nm_law_made : List Str := ["_law_row_here", "_law_terms_here", "_law_sort", "_law_name_here", "_law_address_here", "_law_word_here", "_law_due"]
theorem sc_law_made : FnScope nm_law_made ["_law_row_here", "_law_terms_here"] (defScope s_law_made) := ⟨rfl, rfl, rfl, by decide +kernel, rfl, by decide +kernel, by decide +kernel⟩
theorem lk_law_made_Deed : (defScope s_law_made).names.lookup ("Deed" : Str) = some .globalImplicit := by decide +kernel
theorem lk_law_made_Draw : (defScope s_law_made).names.lookup ("Draw" : Str) = some .globalImplicit := by decide +kernel
theorem lk_law_made_Late : (defScope s_law_made).names.lookup ("Late" : Str) = some .globalImplicit := by decide +kernel
theorem lk_law_made_Let : (defScope s_law_made).names.lookup ("Let" : Str) = some .globalImplicit := by decide +kernel
theorem lk_law_made_Need : (defScope s_law_made).names.lookup ("Need" : Str) = some .globalImplicit := by decide +kernel
theorem lk_law_made_Take : (defScope s_law_made).names.lookup ("Take" : Str) = some .globalImplicit := by decide +kernel
theorem lk_law_made_law_address_here : (defScope s_law_made).names.lookup ("_law_address_here" : Str) = some .local := by decide +kernel
theorem lk_law_made_law_due : (defScope s_law_made).names.lookup ("_law_due" : Str) = some .local := by decide +kernel
theorem lk_law_made_law_name_here : (defScope s_law_made).names.lookup ("_law_name_here" : Str) = some .local := by decide +kernel
theorem lk_law_made_law_row_here : (defScope s_law_made).names.lookup ("_law_row_here" : Str) = some .local := by decide +kernel
theorem lk_law_made_law_sort : (defScope s_law_made).names.lookup ("_law_sort" : Str) = some .local := by decide +kernel
theorem lk_law_made_law_terms_here : (defScope s_law_made).names.lookup ("_law_terms_here" : Str) = some .local := by decide +kernel
theorem lk_law_made_law_word_here : (defScope s_law_made).names.lookup ("_law_word_here" : Str) = some .local := by decide +kernel
def m_made (a0 : ((List Nat) × (List Nat) × (List Nat) × (List Nat) × (List (Int × (List Nat) × D)))) (a1 : (List (Int × (List Nat) × D))) : Ctl Unit Empty := bnd (a0 : ((List Nat) × (List Nat) × (List Nat) × (List Nat) × (List (Int × (List Nat) × D)))) fun v1 => if (decide (v1.1 = [108, 101, 116])) = true then Ctl.up (.ret (.v (encRow (RowT.Let (mkLet v1.2.1 a1).1 (mkLet v1.2.1 a1).2)))) else if (decide (v1.1 = [100, 101, 101, 100])) = true then Ctl.up (.ret (.v (encRow (RowT.Deed (mkDeed v1.2.1 a1).1 (mkDeed v1.2.1 a1).2)))) else if (decide (v1.1 = [100, 114, 97, 119])) = true then Ctl.up (.ret (.v (encRow (RowT.Draw (mkDraw v1.2.2.1 v1.2.1).1 (mkDraw v1.2.2.1 v1.2.1).2)))) else if (decide (v1.1 = [108, 97, 116, 101])) = true then Ctl.up (.ret (.v (encRow (RowT.Late (mkLate v1.2.2.1 v1.2.1).1 (mkLate v1.2.2.1 v1.2.1).2)))) else if (decide (v1.1 = [116, 97, 107, 101])) = true then Ctl.up (.ret (.v (encRow (RowT.Take (mkTake v1.2.2.2.1 v1.2.2.1 v1.2.1).1 (mkTake v1.2.2.2.1 v1.2.2.1 v1.2.1).2.1 (mkTake v1.2.2.2.1 v1.2.2.1 v1.2.1).2.2)))) else .ret (.v (encRow (RowT.Need (mkNeed a1))))
theorem bd_made (X : Cx) (E : XK) (hX : XOk 2 nm_law_made (defScope s_law_made) X E) (kn_Deed_init : MkX X "Deed" 1 (sp_Deed_init X.K)) (kn_Draw_init : MkX X "Draw" 1 (sp_Draw_init X.K)) (kn_Late_init : MkX X "Late" 1 (sp_Late_init X.K)) (kn_Let_init : MkX X "Let" 1 (sp_Let_init X.K)) (kn_Need_init : MkX X "Need" 1 (sp_Need_init X.K)) (kn_Take_init : MkX X "Take" 1 (sp_Take_init X.K)) (a0 : ((List Nat) × (List Nat) × (List Nat) × (List Nat) × (List (Int × (List Nat) × D)))) (a1 : (List (Int × (List Nat) × D))) : BK X E ([.d (D.tup [(D.str a0.1), (D.str a0.2.1), (D.str a0.2.2.1), (D.str a0.2.2.2.1), (D.lst (List.map (fun z : (Int × (List Nat) × D) => (D.tup [(D.int z.1), (D.str z.2.1), z.2.2])) a0.2.2.2.2))]), .bor (List.map (fun z : (Int × (List Nat) × D) => (D.tup [(D.int z.1), (D.str z.2.1), z.2.2])) a1), .un, .un, .un, .un, .un] : List B) (defBody s_law_made) (fun s : Unit => List.replicate 7 B.un) (fun s : Empty => nomatch s) (m_made a0 a1) := by
  unfold m_made
  exact (b_setT (g := (gTup X.K 5 (gCons (gName 2) (gCons (gName 3) (gCons (gName 4) (gCons (gName 5) (gCons (gName 6) gNil))))))) (js := [2, 3, 4, 5, 6]) (fun z : ((List Nat) × (List Nat) × (List Nat) × (List Nat) × (List (Int × (List Nat) × D))) => (D.tup [(D.str z.1), (D.str z.2.1), (D.str z.2.2.1), (D.str z.2.2.2.1), (D.lst (List.map (fun z : (Int × (List Nat) × D) => (D.tup [(D.int z.1), (D.str z.2.1), z.2.2])) z.2.2.2.2))])) (fun v1 : ((List Nat) × (List Nat) × (List Nat) × (List Nat) × (List (Int × (List Nat) × D))) => ([.d (D.tup [(D.str a0.1), (D.str a0.2.1), (D.str a0.2.2.1), (D.str a0.2.2.2.1), (D.lst (List.map (fun z : (Int × (List Nat) × D) => (D.tup [(D.int z.1), (D.str z.2.1), z.2.2])) a0.2.2.2.2))]), .bor (List.map (fun z : (Int × (List Nat) × D) => (D.tup [(D.int z.1), (D.str z.2.1), z.2.2])) a1), .d (D.str v1.1), .d (D.str v1.2.1), .d (D.str v1.2.2.1), .d (D.str v1.2.2.2.1), .d (D.lst (List.map (fun z : (Int × (List Nat) × D) => (D.tup [(D.int z.1), (D.str z.2.1), z.2.2])) v1.2.2.2.2))] : List B)) (pg_tup hX.calm (pgs_cons (pg_name (i := 2) hX.nd (hX.nm rfl) (hX.lc (loc_l lk_law_made_law_sort)) (.inl (hX.fn _))) (pgs_cons (pg_name (i := 3) hX.nd (hX.nm rfl) (hX.lc (loc_l lk_law_made_law_name_here)) (.inl (hX.fn _))) (pgs_cons (pg_name (i := 4) hX.nd (hX.nm rfl) (hX.lc (loc_l lk_law_made_law_address_here)) (.inl (hX.fn _))) (pgs_cons (pg_name (i := 5) hX.nd (hX.nm rfl) (hX.lc (loc_l lk_law_made_law_word_here)) (.inl (hX.fn _))) (pgs_cons (pg_name (i := 6) hX.nd (hX.nm rfl) (hX.lc (loc_l lk_law_made_law_due)) (.inl (hX.fn _))) pgs_nil)))))) (fun v1 => (tg_tup (tgs_cons 2 (tgs_cons 3 (tgs_cons 4 (tgs_cons 5 (tgs_cons 6 tgs_nil))))) rfl)) (ed_var 0 (hX.nm rfl) (hX.vs (vis_l lk_law_made_law_row_here)) rfl) (fun v1 hv1 => (b_ifr (et_cmp (od_eqS _ _) (ed_var 2 (hX.nm rfl) (hX.vs (vis_l lk_law_made_law_sort)) rfl) (ed_str [108, 101, 116] (by decide +kernel))) (fun h2 => (b_ret (ed_makeJ (lv := 1) ((v1.2.1, a1) : (List Nat) × (List (Int × (List Nat) × D))) kn_Let_init (hX.room.mono (by decide)) (hX.gl lk_law_made_Let) (ea2_d (ed_var 3 (hX.nm rfl) (hX.vs (vis_l lk_law_made_law_name_here)) rfl) (ea2_l (el_bor 1 (hX.nm rfl) (hX.vs (vis_l lk_law_made_law_terms_here)) rfl) ea2_nil)) trivial))) (fun h2 => (b_ifr (et_cmp (od_eqS _ _) (ed_var 2 (hX.nm rfl) (hX.vs (vis_l lk_law_made_law_sort)) rfl) (ed_str [100, 101, 101, 100] (by decide +kernel))) (fun h3 => (b_ret (ed_makeJ (lv := 1) ((v1.2.1, a1) : (List Nat) × (List (Int × (List Nat) × D))) kn_Deed_init (hX.room.mono (by decide)) (hX.gl lk_law_made_Deed) (ea2_d (ed_var 3 (hX.nm rfl) (hX.vs (vis_l lk_law_made_law_name_here)) rfl) (ea2_l (el_bor 1 (hX.nm rfl) (hX.vs (vis_l lk_law_made_law_terms_here)) rfl) ea2_nil)) trivial))) (fun h3 => (b_ifr (et_cmp (od_eqS _ _) (ed_var 2 (hX.nm rfl) (hX.vs (vis_l lk_law_made_law_sort)) rfl) (ed_str [100, 114, 97, 119] (by decide +kernel))) (fun h4 => (b_ret (ed_make (lv := 1) ((v1.2.2.1, v1.2.1) : (List Nat) × (List Nat)) kn_Draw_init (hX.room.mono (by decide)) (hX.gl lk_law_made_Draw) (ea_cons (ed_var 4 (hX.nm rfl) (hX.vs (vis_l lk_law_made_law_address_here)) rfl) (ea_cons (ed_var 3 (hX.nm rfl) (hX.vs (vis_l lk_law_made_law_name_here)) rfl) ea_nil)) trivial))) (fun h4 => (b_ifr (et_cmp (od_eqS _ _) (ed_var 2 (hX.nm rfl) (hX.vs (vis_l lk_law_made_law_sort)) rfl) (ed_str [108, 97, 116, 101] (by decide +kernel))) (fun h5 => (b_ret (ed_make (lv := 1) ((v1.2.2.1, v1.2.1) : (List Nat) × (List Nat)) kn_Late_init (hX.room.mono (by decide)) (hX.gl lk_law_made_Late) (ea_cons (ed_var 4 (hX.nm rfl) (hX.vs (vis_l lk_law_made_law_address_here)) rfl) (ea_cons (ed_var 3 (hX.nm rfl) (hX.vs (vis_l lk_law_made_law_name_here)) rfl) ea_nil)) trivial))) (fun h5 => (b_ifr (et_cmp (od_eqS _ _) (ed_var 2 (hX.nm rfl) (hX.vs (vis_l lk_law_made_law_sort)) rfl) (ed_str [116, 97, 107, 101] (by decide +kernel))) (fun h6 => (b_ret (ed_make (lv := 1) ((v1.2.2.2.1, v1.2.2.1, v1.2.1) : (List Nat) × (List Nat) × (List Nat)) kn_Take_init (hX.room.mono (by decide)) (hX.gl lk_law_made_Take) (ea_cons (ed_var 5 (hX.nm rfl) (hX.vs (vis_l lk_law_made_law_word_here)) rfl) (ea_cons (ed_var 4 (hX.nm rfl) (hX.vs (vis_l lk_law_made_law_address_here)) rfl) (ea_cons (ed_var 3 (hX.nm rfl) (hX.vs (vis_l lk_law_made_law_name_here)) rfl) ea_nil))) trivial))) (fun h6 => (b_ret (ed_makeJ (lv := 1) a1 kn_Need_init (hX.room.mono (by decide)) (hX.gl lk_law_made_Need) (ea2_l (el_bor 1 (hX.nm rfl) (hX.vs (vis_l lk_law_made_law_terms_here)) rfl) ea2_nil) trivial))))))))))))))
def madeL (r : RT) (ts : List Tm) : RowT := if decide (r.1 = [108, 101, 116]) = true then .Let r.2.1 ts else if decide (r.1 = [100, 101, 101, 100]) = true then .Deed r.2.1 ts
  else if decide (r.1 = [100, 114, 97, 119]) = true then .Draw r.2.2.1 r.2.1 else if decide (r.1 = [108, 97, 116, 101]) = true then .Late r.2.2.1 r.2.1
  else if decide (r.1 = [116, 97, 107, 101]) = true then .Take r.2.2.2.1 r.2.2.1 r.2.1 else .Need ts
theorem m_made_eq (r : RT) (ts : List Tm) : m_made r ts = .ret (.v (encRow (madeL r ts))) := by
  unfold m_made madeL
  simp only [bnd]
  cases decide (r.1 = [108, 101, 116])
  · cases decide (r.1 = [100, 101, 101, 100])
    · cases decide (r.1 = [100, 114, 97, 119])
      · cases decide (r.1 = [108, 97, 116, 101])
        · cases decide (r.1 = [116, 97, 107, 101]) <;> rfl
        · rfl
      · rfl
    · rfl
  · rfl
def IsRow (f : RowT) (r : RT) : Prop := f = madeL r r.2.2.2.2 ∧ RowTOk r
theorem eqk_strs {ls : List (List Nat)} (h : ∀ x ∈ ls, chrOk x = true) : eqk 8 (D.lst (ls.map D.str)) = true := by
  show (ls.map D.str).all (eqk 7) = true
  rw [List.all_map, List.all_eq_true]
  intro x hx
  show eqk 7 (D.str x) = true
  rw [eqk_str]
  exact h x hx
theorem eqk_bls (ls : List Bool) : eqk 8 (D.lst (ls.map D.bl)) = true := by
  show (ls.map D.bl).all (eqk 7) = true
  rw [List.all_map, List.all_eq_true]
  intro x _
  rfl
inductive RowCase : RowT → RT → Prop
  | clet (n a w : List Nat) (t : List Tm) : RowCase (.Let n t) ([108, 101, 116], n, a, w, t)
  | cdeed (n a w : List Nat) (t : List Tm) : RowCase (.Deed n t) ([100, 101, 101, 100], n, a, w, t)
  | cdraw (n a w : List Nat) (t : List Tm) : RowCase (.Draw a n) ([100, 114, 97, 119], n, a, w, t)
  | clate (n a w : List Nat) (t : List Tm) : RowCase (.Late a n) ([108, 97, 116, 101], n, a, w, t)
  | ctake (n a w : List Nat) (t : List Tm) : RowCase (.Take w a n) ([116, 97, 107, 101], n, a, w, t)
  | cneed (a w : List Nat) (t : List Tm) : RowCase (.Need t) ([110, 101, 101, 100], [], a, w, t)
theorem isrow_case {f : RowT} {r : RT} (h : IsRow f r) : RowCase f r := by
  obtain ⟨h1, h2⟩ := h
  obtain ⟨s, n, a, w, t⟩ := r
  have q := h2.sort
  have q2 := h2.none
  simp only [List.mem_cons, List.not_mem_nil, or_false] at q
  rcases q with q | q | q | q | q | q <;> subst q <;> subst h1
  · exact .clet ..
  · exact .cdeed ..
  · exact .cdraw ..
  · exact .clate ..
  · exact .ctake ..
  · have e : n = [] := q2 rfl
    subst e
    exact .cneed ..
theorem isrow_ok {f : RowT} {r : RT} (h : IsRow f r) : RowOk f := by
  have k := h.2
  have a1 := k.nm
  have a2 := k.ad
  have a3 := k.wd
  have a4 := k.tm
  cases isrow_case h with
  | clet => exact ⟨a1, a4⟩
  | cdeed => exact ⟨a1, a4⟩
  | cdraw => exact ⟨a2, a1⟩
  | clate => exact ⟨a2, a1⟩
  | ctake => exact ⟨a3, a2, a1⟩
  | cneed => exact a4
theorem asked_chr {f : RowT} {r : RT} (h : IsRow f r) : ∀ x ∈ R_asked f, chrOk x = true := by
  have k := h.2.chr
  intro x hx
  cases isrow_case h <;> first
    | cases (show x ∈ ([] : List (List Nat)) from hx)
    | (have e := List.mem_singleton.mp (show x ∈ ([_] : List (List Nat)) from hx); subst e; exact k.2.1)
theorem asked_len (f : RowT) : (R_asked f).length ≤ 1 := by
  cases f <;> first | exact Nat.le_refl _ | exact Nat.zero_le _
theorem due_chr {f : RowT} {r : RT} (h : IsRow f r) {n : Nat} : ∀ x ∈ (List.replicate n ([r.2.2.1] : List (List Nat))).flatten, chrOk x = true := by
  intro x hx
  rw [List.mem_flatten] at hx
  obtain ⟨l, h1, h2⟩ := hx
  rw [(List.mem_replicate.mp h1).2] at h2
  rw [List.mem_singleton.mp h2]
  exact h.2.chr.2.1
theorem has_name {f : RowT} {r : RT} (h : IsRow f r) (e : (!decide (r.1 = [110, 101, 101, 100])) = true) : H_name f = true := by
  cases isrow_case h <;> first | rfl | (exfalso; simp at e)
theorem has_word {f : RowT} {r : RT} (h : IsRow f r) (e : decide (r.1 = [116, 97, 107, 101]) = true) : H_word f = true := by
  cases isrow_case h <;> first | rfl | (exfalso; simp at e)
theorem has_address {f : RowT} {r : RT} (h : IsRow f r) (e : inSs r.1 ([[100, 114, 97, 119], [108, 97, 116, 101], [116, 97, 107, 101]] : List (List Nat)) = true) : H_address f = true := by
  cases isrow_case h <;> first | rfl | (exfalso; dsimp only at e; revert e; decide)
theorem has_terms {f : RowT} {r : RT} (h : IsRow f r) (e : inSs r.1 ([[100, 114, 97, 119], [108, 97, 116, 101], [116, 97, 107, 101]] : List (List Nat)) = false) : H_terms f = true := by
  cases isrow_case h <;> first | rfl | (exfalso; dsimp only at e; revert e; decide)
theorem terms_ok {f : RowT} {r : RT} (h : IsRow f r) (e : inSs r.1 ([[100, 114, 97, 119], [108, 97, 116, 101], [116, 97, 107, 101]] : List (List Nat)) = false) : TermsOk (R_terms f) := by
  have k := h.2.tm
  cases isrow_case h <;> first | exact k | (exfalso; dsimp only at e; revert e; decide)
abbrev sp_made (K : PySem.W.Frag) : Sp := spG K (A := ((List Nat) × (List Nat) × (List Nat) × (List Nat) × (List (Int × (List Nat) × D))) × (List (Int × (List Nat) × D))) (fun a => [.d (D.tup [(D.str a.1.1), (D.str a.1.2.1), (D.str a.1.2.2.1), (D.str a.1.2.2.2.1), (D.lst (List.map (fun z : (Int × (List Nat) × D) => (D.tup [(D.int z.1), (D.str z.2.1), z.2.2])) a.1.2.2.2.2))]), .l (List.map (fun z : (Int × (List Nat) × D) => (D.tup [(D.int z.1), (D.str z.2.1), z.2.2])) a.2)]) (fun a => True) (fun a => .v (encRow (madeL a.1 a.2)))
theorem ok_made {P : Program} {w : World} {K : PySem.W.Frag} {mg : Str → Option Value} {base : Heap} {f : Addr} {fd : FuncData} (F : Fun K "_law_made" "_law_made" s_law_made f fd) (kn_Deed_init : Mkr P w K mg base "Deed" 1 (sp_Deed_init K)) (kn_Draw_init : Mkr P w K mg base "Draw" 1 (sp_Draw_init K)) (kn_Late_init : Mkr P w K mg base "Late" 1 (sp_Late_init K)) (kn_Let_init : Mkr P w K mg base "Let" 1 (sp_Let_init K)) (kn_Need_init : Mkr P w K mg base "Need" 1 (sp_Need_init K)) (kn_Take_init : Mkr P w K mg base "Take" 1 (sp_Take_init K)) : FnOk P w K mg base (L2.CX P w) 3 f fd ["_law_row_here", "_law_terms_here"] (sp_made K) := by
  refine def_okG F sc_law_made (fun _ => rfl) (fun a hp X E e1 e2 e3 e4 e5 hX => ?_)
  subst e1 e2 e3 e4 e5
  have h := bd_made X E hX kn_Deed_init kn_Draw_init kn_Late_init kn_Let_init kn_Need_init kn_Take_init a.1 a.2
  rw [m_made_eq a.1 a.2] at h
  exact h
abbrev s_law_whole : Stmt := top 25
abbrev nm_law_whole : List Str := ["_law_found"]
theorem sc_law_whole : FnScope nm_law_whole ["_law_found"] (defScope s_law_whole) := ⟨rfl, rfl, rfl, by decide +kernel, rfl, by decide +kernel, by decide +kernel⟩
theorem lk_law_whole_bool : (defScope s_law_whole).names.lookup ("bool" : Str) = some .globalImplicit := by decide +kernel
theorem lk_law_whole_int : (defScope s_law_whole).names.lookup ("int" : Str) = some .globalImplicit := by decide +kernel
theorem lk_law_whole_isinstance : (defScope s_law_whole).names.lookup ("isinstance" : Str) = some .globalImplicit := by decide +kernel
theorem lk_law_whole_law_found : (defScope s_law_whole).names.lookup ("_law_found" : Str) = some .local := by decide +kernel
def m_whole_i (a0 : Int) : Ctl Unit Empty := .ret (.v (D.bl (true && (!false))))
theorem bd_whole_i (X : Cx) (E : XK) (hX : XOk 0 nm_law_whole (defScope s_law_whole) X E) (m_bool : X.mg "bool" = none) (m_int : X.mg "int" = none) (m_isinstance : X.mg "isinstance" = none) (a0 : Int) : BK X E ([.d (D.int a0)] : List B) (defBody s_law_whole) (fun s : Unit => List.replicate 1 B.un) (fun s : Empty => nomatch s) (m_whole_i a0) := by
  unfold m_whole_i
  exact (b_ret (ed_and (ed_isi (hX.gl lk_law_whole_isinstance) m_isinstance (ed_var 0 (hX.nm rfl) (hX.vs (vis_l lk_law_whole_law_found)) rfl) (ed_ty (n := "int") (hX.gl lk_law_whole_int) m_int (by decide +kernel)) rfl (by decide +kernel)) (fun h1 => (ed_one (ed_not (ed_isi (hX.gl lk_law_whole_isinstance) m_isinstance (ed_var 0 (hX.nm rfl) (hX.vs (vis_l lk_law_whole_law_found)) rfl) (ed_ty (n := "bool") (hX.gl lk_law_whole_bool) m_bool (by decide +kernel)) rfl (by decide +kernel)))))))
def wholeI (a0 : Int) : Bool := outB (m_whole_i a0)
theorem m_whole_i_eq (a0 : Int) : m_whole_i a0 = .ret (.v (D.bl (wholeI a0))) := by
  unfold wholeI
  exact (show ∀ c : Ctl Unit Empty, (∃ z, c = .ret (.v (D.bl z))) → c = .ret (.v (D.bl (outB c))) from fun c ⟨z, h⟩ => by rw [h]; rfl) _ (by unfold m_whole_i; (try simp only [bnd]); (repeat' split) <;> first | exact ⟨_, rfl⟩ | (exfalso; simp_all))
abbrev sp_whole_i (K : PySem.W.Frag) : Sp := spF K (A := Int) (fun a => [(D.int a)]) (fun a => True) (fun a => .v (D.bl (wholeI a)))
theorem ok_whole_i {P : Program} {w : World} {K : PySem.W.Frag} {mg : Str → Option Value} {base : Heap} {f : Addr} {fd : FuncData} (F : Fun K "_law_whole" "_law_whole" s_law_whole f fd) (m_bool : mg "bool" = none) (m_int : mg "int" = none) (m_isinstance : mg "isinstance" = none) : FnOk P w K mg base (L2.CX P w) 1 f fd ["_law_found"] (sp_whole_i K) := by
  refine def_ok F sc_law_whole (fun _ => rfl) (fun a hp X E e1 e2 e3 e4 e5 hX => ?_)
  subst e1 e2 e3 e4 e5
  have h := bd_whole_i X E hX m_bool m_int m_isinstance a
  rw [m_whole_i_eq a] at h
  exact h
def m_whole_a (a0 : D) : Ctl Unit Empty := .ret (.v (D.bl ((isiD "int" a0) && (!(isiD "bool" a0)))))
theorem bd_whole_a (X : Cx) (E : XK) (hX : XOk 0 nm_law_whole (defScope s_law_whole) X E) (m_bool : X.mg "bool" = none) (m_int : X.mg "int" = none) (m_isinstance : X.mg "isinstance" = none) (a0 : D) (hp : plainT a0 = true) : BK X E ([.d a0] : List B) (defBody s_law_whole) (fun s : Unit => List.replicate 1 B.un) (fun s : Empty => nomatch s) (m_whole_a a0) := by
  unfold m_whole_a
  exact (b_ret (ed_and (ed_isiD (hX.gl lk_law_whole_isinstance) m_isinstance (ed_var 0 (hX.nm rfl) (hX.vs (vis_l lk_law_whole_law_found)) rfl) (ed_ty (n := "int") (hX.gl lk_law_whole_int) m_int (by decide +kernel)) (isi_ok hp (by decide))) (fun h1 => (ed_one (ed_not (ed_isiD (hX.gl lk_law_whole_isinstance) m_isinstance (ed_var 0 (hX.nm rfl) (hX.vs (vis_l lk_law_whole_law_found)) rfl) (ed_ty (n := "bool") (hX.gl lk_law_whole_bool) m_bool (by decide +kernel)) (isi_ok hp (by decide))))))))
def wholeD (a0 : D) : Bool := outB (m_whole_a a0)
theorem m_whole_a_eq (a0 : D) : m_whole_a a0 = .ret (.v (D.bl (wholeD a0))) := by
  unfold wholeD
  exact (show ∀ c : Ctl Unit Empty, (∃ z, c = .ret (.v (D.bl z))) → c = .ret (.v (D.bl (outB c))) from fun c ⟨z, h⟩ => by rw [h]; rfl) _ (by unfold m_whole_a; (try simp only [bnd]); (repeat' split) <;> first | exact ⟨_, rfl⟩ | (exfalso; simp_all))
abbrev sp_whole_a (K : PySem.W.Frag) : Sp := spF K (A := D) (fun a => [a]) (fun a => plainT a = true) (fun a => .v (D.bl (wholeD a)))
theorem ok_whole_a {P : Program} {w : World} {K : PySem.W.Frag} {mg : Str → Option Value} {base : Heap} {f : Addr} {fd : FuncData} (F : Fun K "_law_whole" "_law_whole" s_law_whole f fd) (m_bool : mg "bool" = none) (m_int : mg "int" = none) (m_isinstance : mg "isinstance" = none) : FnOk P w K mg base (L2.CX P w) 1 f fd ["_law_found"] (sp_whole_a K) := by
  refine def_ok F sc_law_whole (fun _ => rfl) (fun a hp X E e1 e2 e3 e4 e5 hX => ?_)
  subst e1 e2 e3 e4 e5
  have h := bd_whole_a X E hX m_bool m_int m_isinstance a hp
  rw [m_whole_a_eq a] at h
  exact h
abbrev s_law_term_is : Stmt := top 26
abbrev nm_law_term_is : List Str := ["_law_found", "_law_due"]
theorem sc_law_term_is : FnScope nm_law_term_is ["_law_found", "_law_due"] (defScope s_law_term_is) := ⟨rfl, rfl, rfl, by decide +kernel, rfl, by decide +kernel, by decide +kernel⟩
theorem lk_law_term_is_isinstance : (defScope s_law_term_is).names.lookup ("isinstance" : Str) = some .globalImplicit := by decide +kernel
theorem lk_law_term_is_law_due : (defScope s_law_term_is).names.lookup ("_law_due" : Str) = some .local := by decide +kernel
theorem lk_law_term_is_law_found : (defScope s_law_term_is).names.lookup ("_law_found" : Str) = some .local := by decide +kernel
theorem lk_law_term_is_law_whole : (defScope s_law_term_is).names.lookup ("_law_whole" : Str) = some .globalImplicit := by decide +kernel
theorem lk_law_term_is_len : (defScope s_law_term_is).names.lookup ("len" : Str) = some .globalImplicit := by decide +kernel
theorem lk_law_term_is_str : (defScope s_law_term_is).names.lookup ("str" : Str) = some .globalImplicit := by decide +kernel
theorem lk_law_term_is_tuple : (defScope s_law_term_is).names.lookup ("tuple" : Str) = some .globalImplicit := by decide +kernel
def m_term_is (a0 : (Int × (List Nat) × D)) (a1 : (Int × (List Nat) × D)) : Ctl Unit Empty := if ((!true) || ((!(decide ((([(D.int a0.1), (D.str a0.2.1), a0.2.2] : List D).length : Int) = (3 : Int)))) || ((!(wholeI a0.1)) || (!true)))) = true then Ctl.up (.ret (.v (D.bl false))) else if (decide (a1.2.1 = [110, 117, 109, 98, 101, 114])) = true then Ctl.up (.ret (.v (D.bl ((wholeD a0.2.2) && (eqD (D.tup [(D.int a0.1), (D.str a0.2.1), a0.2.2]) (D.tup [(D.int a1.1), (D.str a1.2.1), a1.2.2])))))) else .ret (.v (D.bl ((isiD "tuple" a0.2.2) && (eqD (D.tup [(D.int a0.1), (D.str a0.2.1), a0.2.2]) (D.tup [(D.int a1.1), (D.str a1.2.1), a1.2.2])))))
theorem bd_term_is (X : Cx) (E : XK) (hX : XOk 1 nm_law_term_is (defScope s_law_term_is) X E) (m_isinstance : X.mg "isinstance" = none) (m_len : X.mg "len" = none) (m_str : X.mg "str" = none) (m_tuple : X.mg "tuple" = none) (kn_whole_a : KnX X "_law_whole" 1 (sp_whole_a X.K)) (kn_whole_i : KnX X "_law_whole" 1 (sp_whole_i X.K)) (a0 : (Int × (List Nat) × D)) (a1 : (Int × (List Nat) × D)) (hp : TermOk a0 ∧ TermOk a1) : BK X E ([.d (D.tup [(D.int a0.1), (D.str a0.2.1), a0.2.2]), .d (D.tup [(D.int a1.1), (D.str a1.2.1), a1.2.2])] : List B) (defBody s_law_term_is) (fun s : Unit => List.replicate 2 B.un) (fun s : Empty => nomatch s) (m_term_is a0 a1) := by
  unfold m_term_is
  exact (b_ifr (et_w (ew_or (et_not (et_val (ed_isi (hX.gl lk_law_term_is_isinstance) m_isinstance (ed_var 0 (hX.nm rfl) (hX.vs (vis_l lk_law_term_is_law_found)) rfl) (ed_ty (n := "tuple") (hX.gl lk_law_term_is_tuple) m_tuple (by decide +kernel)) rfl (by decide +kernel)))) (fun h3 => (ew_or (et_cmp (od_neI _ _) (ed_lenT (hX.gl lk_law_term_is_len) m_len (ed_var 0 (hX.nm rfl) (hX.vs (vis_l lk_law_term_is_law_found)) rfl)) ed_int) (fun h2 => (ew_or (et_not (et_val (ed_call a0.1 kn_whole_i (hX.room.mono (by decide)) (hX.gl lk_law_term_is_law_whole) (ea_cons (ed_ixT (ed_var 0 (hX.nm rfl) (hX.vs (vis_l lk_law_term_is_law_found)) rfl) ed_int rfl) ea_nil) trivial rfl))) (fun h1 => (ew_or1 (et_not (et_val (ed_isi (hX.gl lk_law_term_is_isinstance) m_isinstance (ed_ixT (ed_var 0 (hX.nm rfl) (hX.vs (vis_l lk_law_term_is_law_found)) rfl) ed_int rfl) (ed_ty (n := "str") (hX.gl lk_law_term_is_str) m_str (by decide +kernel)) rfl (by decide +kernel)))))))))))) (fun h4 => (b_ret ed_bl)) (fun h4 => (b_ifr (et_cmp (od_eqS _ _) (ed_ixT (ed_var 1 (hX.nm rfl) (hX.vs (vis_l lk_law_term_is_law_due)) rfl) ed_int rfl) (ed_str [110, 117, 109, 98, 101, 114] (by decide +kernel))) (fun h5 => (b_ret (ed_and (ed_call a0.2.2 kn_whole_a (hX.room.mono (by decide)) (hX.gl lk_law_term_is_law_whole) (ea_cons (ed_ixT (ed_var 0 (hX.nm rfl) (hX.vs (vis_l lk_law_term_is_law_found)) rfl) ed_int rfl) ea_nil) (by first | decide | omega | (unfold CMul; omega) | (dsimp only; omega) | (rw [sizeLine_eq]; omega) | exact hp.1.plain) rfl) (fun h6 => (ed_one (ed_cmp (od_eqD 8 (room64 hX.room) (by first | exact TermOk.eqk8 hp.1 | exact TermOk.eqk8 hp.2) (by first | exact TermOk.eqk8 hp.1 | exact TermOk.eqk8 hp.2) (by decide)) (ed_var 0 (hX.nm rfl) (hX.vs (vis_l lk_law_term_is_law_found)) rfl) (ed_var 1 (hX.nm rfl) (hX.vs (vis_l lk_law_term_is_law_due)) rfl))))))) (fun h5 => (b_ret (ed_and (ed_isiD (hX.gl lk_law_term_is_isinstance) m_isinstance (ed_ixT (ed_var 0 (hX.nm rfl) (hX.vs (vis_l lk_law_term_is_law_found)) rfl) ed_int rfl) (ed_ty (n := "tuple") (hX.gl lk_law_term_is_tuple) m_tuple (by decide +kernel)) (isi_ok hp.1.plain (by decide))) (fun h7 => (ed_one (ed_cmp (od_eqD 8 (room64 hX.room) (by first | exact TermOk.eqk8 hp.1 | exact TermOk.eqk8 hp.2) (by first | exact TermOk.eqk8 hp.1 | exact TermOk.eqk8 hp.2) (by decide)) (ed_var 0 (hX.nm rfl) (hX.vs (vis_l lk_law_term_is_law_found)) rfl) (ed_var 1 (hX.nm rfl) (hX.vs (vis_l lk_law_term_is_law_due)) rfl))))))))))
def termIsL (t u : Tm) : Bool := wholeI t.1 && (if decide (u.2.1 = NUM) = true then wholeD t.2.2 && eqD (encT t) (encT u) else isiD "tuple" t.2.2 && eqD (encT t) (encT u))
theorem m_term_is_eq (t u : Tm) : m_term_is t u = .ret (.v (.bl (termIsL t u))) := by
  have e : wholeI t.1 = true := rfl
  unfold m_term_is termIsL
  rw [e]
  cases decide (u.2.1 = NUM) <;> rfl
theorem termIs_refl {t : Tm} (h : TermOk t) : termIsL t t = true := by
  unfold termIsL
  have e : wholeI t.1 = true := rfl
  rw [e, eqD_refl h.eqk8]
  rcases h.th with ⟨h1, n, h2, _⟩ | ⟨h1 | h1, ns, h2, _⟩ <;> rw [h1, h2] <;> rfl
abbrev sp_term_is (K : PySem.W.Frag) : Sp := spF K (A := (Int × (List Nat) × D) × (Int × (List Nat) × D)) (fun a => [(D.tup [(D.int a.1.1), (D.str a.1.2.1), a.1.2.2]), (D.tup [(D.int a.2.1), (D.str a.2.2.1), a.2.2.2])]) (fun a => TermOk a.1 ∧ TermOk a.2) (fun a => .v (D.bl (termIsL a.1 a.2)))
theorem ok_term_is {P : Program} {w : World} {K : PySem.W.Frag} {mg : Str → Option Value} {base : Heap} {f : Addr} {fd : FuncData} (F : Fun K "_law_term_is" "_law_term_is" s_law_term_is f fd) (m_isinstance : mg "isinstance" = none) (m_len : mg "len" = none) (m_str : mg "str" = none) (m_tuple : mg "tuple" = none) (kn_whole_a : Kn P w K mg base "_law_whole" 1 (sp_whole_a K)) (kn_whole_i : Kn P w K mg base "_law_whole" 1 (sp_whole_i K)) : FnOk P w K mg base (L2.CX P w) 2 f fd ["_law_found", "_law_due"] (sp_term_is K) := by
  refine def_ok F sc_law_term_is (fun _ => rfl) (fun a hp X E e1 e2 e3 e4 e5 hX => ?_)
  subst e1 e2 e3 e4 e5
  have h := bd_term_is X E hX m_isinstance m_len m_str m_tuple kn_whole_a kn_whole_i a.1 a.2 hp
  rw [m_term_is_eq a.1 a.2] at h
  exact h
abbrev s_law_terms_are : Stmt := top 27
abbrev nm_law_terms_are : List Str := ["_law_found", "_law_due", "_law_one", "_law_other"]
theorem sc_law_terms_are : FnScope nm_law_terms_are ["_law_found", "_law_due"] (defScope s_law_terms_are) := ⟨rfl, rfl, rfl, by decide +kernel, rfl, by decide +kernel, by decide +kernel⟩
theorem lk_law_terms_are_all : (defScope s_law_terms_are).names.lookup ("all" : Str) = some .globalImplicit := by decide +kernel
theorem lk_law_terms_are_isinstance : (defScope s_law_terms_are).names.lookup ("isinstance" : Str) = some .globalImplicit := by decide +kernel
theorem lk_law_terms_are_law_due : (defScope s_law_terms_are).names.lookup ("_law_due" : Str) = some .local := by decide +kernel
theorem lk_law_terms_are_law_found : (defScope s_law_terms_are).names.lookup ("_law_found" : Str) = some .local := by decide +kernel
theorem lk_law_terms_are_len : (defScope s_law_terms_are).names.lookup ("len" : Str) = some .globalImplicit := by decide +kernel
theorem lk_law_terms_are_list : (defScope s_law_terms_are).names.lookup ("list" : Str) = some .globalImplicit := by decide +kernel
theorem lk_law_terms_are_zip : (defScope s_law_terms_are).names.lookup ("zip" : Str) = some .globalImplicit := by decide +kernel
def m_terms_are (a0 : (List (Int × (List Nat) × D))) (a1 : (List (Int × (List Nat) × D))) : Ctl Unit Empty := if ((!true) || (!(decide (((a0).length : Int) = ((a1).length : Int))))) = true then Ctl.up (.ret (.v (D.bl false))) else .ret (.v (D.bl (((List.map (fun y3 : ((Int × (List Nat) × D) × (Int × (List Nat) × D)) => (termIsL y3.1 y3.2)) (List.zip a0 a1))).all id)))
theorem bd_terms_are (X : Cx) (E : XK) (hX : XOk 2 nm_law_terms_are (defScope s_law_terms_are) X E) (m_all : X.mg "all" = none) (m_isinstance : X.mg "isinstance" = none) (m_len : X.mg "len" = none) (m_list : X.mg "list" = none) (m_zip : X.mg "zip" = none) (kn_term_is : KnX X "_law_term_is" 2 (sp_term_is X.K)) (a0 : (List (Int × (List Nat) × D))) (a1 : (List (Int × (List Nat) × D))) (hp : TermsOk a0 ∧ TermsOk a1) : BK X E ([.d (D.lst (List.map (fun z : (Int × (List Nat) × D) => (D.tup [(D.int z.1), (D.str z.2.1), z.2.2])) a0)), .d (D.lst (List.map (fun z : (Int × (List Nat) × D) => (D.tup [(D.int z.1), (D.str z.2.1), z.2.2])) a1)), .un, .un] : List B) (defBody s_law_terms_are) (fun s : Unit => List.replicate 4 B.un) (fun s : Empty => nomatch s) (m_terms_are a0 a1) := by
  unfold m_terms_are
  exact (b_ifr (et_w (ew_or (et_not (et_val (ed_isi (hX.gl lk_law_terms_are_isinstance) m_isinstance (ed_var 0 (hX.nm rfl) (hX.vs (vis_l lk_law_terms_are_law_found)) rfl) (ed_ty (n := "list") (hX.gl lk_law_terms_are_list) m_list (by decide +kernel)) rfl (by decide +kernel)))) (fun h1 => (ew_or1 (et_cmp (od_neI _ _) (ed_lenM (hX.gl lk_law_terms_are_len) m_len (EvD.el (ed_var 0 (hX.nm rfl) (hX.vs (vis_l lk_law_terms_are_law_found)) rfl))) (ed_lenM (hX.gl lk_law_terms_are_len) m_len (EvD.el (ed_var 1 (hX.nm rfl) (hX.vs (vis_l lk_law_terms_are_law_due)) rfl)))))))) (fun h2 => (b_ret ed_bl)) (fun h2 => (b_ret (ed_all hX.calm (hX.gl lk_law_terms_are_all) m_all (EvO.el (eo_lc hX.calm hX.nd (lc_ok0 (Yt := ((Int × (List Nat) × D) × (Int × (List Nat) × D))) (τ := Bool) (encY := (fun z : ((Int × (List Nat) × D) × (Int × (List Nat) × D)) => (D.tup [(D.tup [(D.int z.1.1), (D.str z.1.2.1), z.1.2.2]), (D.tup [(D.int z.2.1), (D.str z.2.2.1), z.2.2.2])]))) (enc := D.bl) (g := (gTup X.K 2 (gCons (gName 2) (gCons (gName 3) gNil)))) (js := [2, 3]) (own := [("_law_one", 2), ("_law_other", 3)]) (List.zip a0 a1) (fun y3 : ((Int × (List Nat) × D) × (Int × (List Nat) × D)) => (termIsL y3.1 y3.2)) (it_zipM (enc := (fun z : (Int × (List Nat) × D) => (D.tup [(D.int z.1), (D.str z.2.1), z.2.2]))) (enc' := (fun z : (Int × (List Nat) × D) => (D.tup [(D.int z.1), (D.str z.2.1), z.2.2]))) (xs := a0) (zs := a1) (hX.gl lk_law_terms_are_zip) m_zip (ed_var 0 (hX.nm rfl) (hX.vs (vis_l lk_law_terms_are_law_found)) rfl) (ed_var 1 (hX.nm rfl) (hX.vs (vis_l lk_law_terms_are_law_due)) rfl)) (blk_ok hX (by decide +kernel)) (fun _ _ _ _ _ => (pg_tup hX.calm (pgs_cons (pg_name (i := 2) hX.nd (hX.nm rfl) (blk_lc hX (loc_l (by decide +kernel))) (.inr (blk_lk hX (by decide +kernel)))) (pgs_cons (pg_name (i := 3) hX.nd (hX.nm rfl) (blk_lc hX (loc_l (by decide +kernel))) (.inr (blk_lk hX (by decide +kernel)))) pgs_nil)))) (by decide) (by first | decide | omega | (unfold CMul; omega) | (dsimp only; omega) | (rw [sizeLine_eq]; omega) | (have := hp.1.few; have := hp.2.few; simp only [List.length_zip]; rw [sizeLine_eq]; omega) | exact ⟨hp.1.all _ (List.of_mem_zip hy4).1, hp.2.all _ (List.of_mem_zip hy4).2⟩) (fun y3 : ((Int × (List Nat) × D) × (Int × (List Nat) × D)) => ([.d (D.lst (List.map (fun z : (Int × (List Nat) × D) => (D.tup [(D.int z.1), (D.str z.2.1), z.2.2])) a0)), .d (D.lst (List.map (fun z : (Int × (List Nat) × D) => (D.tup [(D.int z.1), (D.str z.2.1), z.2.2])) a1)), .d (D.tup [(D.int y3.1.1), (D.str y3.1.2.1), y3.1.2.2]), .d (D.tup [(D.int y3.2.1), (D.str y3.2.2.1), y3.2.2.2])] : List B)) (fun y3 _ => (show TgD X.K (gTup X.K 2 (gCons (gName 2) (gCons (gName 3) gNil))) [2, 3] (wipeB ([.d (D.lst (List.map (fun z : (Int × (List Nat) × D) => (D.tup [(D.int z.1), (D.str z.2.1), z.2.2])) a0)), .d (D.lst (List.map (fun z : (Int × (List Nat) × D) => (D.tup [(D.int z.1), (D.str z.2.1), z.2.2])) a1)), .un, .un] : List B) [2, 3]) ((fun z : ((Int × (List Nat) × D) × (Int × (List Nat) × D)) => (D.tup [(D.tup [(D.int z.1.1), (D.str z.1.2.1), z.1.2.2]), (D.tup [(D.int z.2.1), (D.str z.2.2.1), z.2.2.2])])) y3) ([.d (D.lst (List.map (fun z : (Int × (List Nat) × D) => (D.tup [(D.int z.1), (D.str z.2.1), z.2.2])) a0)), .d (D.lst (List.map (fun z : (Int × (List Nat) × D) => (D.tup [(D.int z.1), (D.str z.2.1), z.2.2])) a1)), .d (D.tup [(D.int y3.1.1), (D.str y3.1.2.1), y3.1.2.2]), .d (D.tup [(D.int y3.2.1), (D.str y3.2.2.1), y3.2.2.2])] : List B) from (tg_tup (tgs_cons 2 (tgs_cons 3 tgs_nil)) rfl))) (fun y3 hy4 _ _ _ _ _ => (ed_call ((y3.1, y3.2) : (Int × (List Nat) × D) × (Int × (List Nat) × D)) kn_term_is (hX.room.mono (by decide)) (blk_gl hX (by decide +kernel)) (ea_cons (ed_var 2 (hX.nm rfl) (blk_vs hX (vis_l (by decide +kernel))) rfl) (ea_cons (ed_var 3 (hX.nm rfl) (blk_vs hX (vis_l (by decide +kernel))) rfl) ea_nil)) (by first | decide | omega | (unfold CMul; omega) | (dsimp only; omega) | (rw [sizeLine_eq]; omega) | (have := hp.1.few; have := hp.2.few; simp only [List.length_zip]; rw [sizeLine_eq]; omega) | exact ⟨hp.1.all _ (List.of_mem_zip hy4).1, hp.2.all _ (List.of_mem_zip hy4).2⟩) rfl)))))))))
def termsAreL (ts us : List Tm) : Bool := decide (ts.length = us.length) && ((ts.zip us).all fun z => termIsL z.1 z.2)
theorem m_terms_are_eq (ts us : List Tm) : m_terms_are ts us = .ret (.v (.bl (termsAreL ts us))) := by
  unfold m_terms_are termsAreL
  by_cases h : ts.length = us.length
  · have e : ((ts.length : Int) = (us.length : Int)) := by omega
    simp only [h, e, decide_true, Bool.not_true, Bool.or_self, Bool.false_eq_true, if_false, Bool.true_and, List.all_map]
    rfl
  · have e : ¬ ((ts.length : Int) = (us.length : Int)) := by omega
    simp only [h, e, decide_false, Bool.not_false, Bool.or_true, if_true, Bool.false_and]
    rfl
theorem zip_self {α : Type} : ∀ {xs : List α} {p : α × α}, p ∈ xs.zip xs → p.1 = p.2 ∧ p.1 ∈ xs
  | [], _, h => by simp at h
  | x :: xs, p, h => by
    rw [List.zip_cons_cons] at h
    rcases List.mem_cons.mp h with e | e
    · subst e
      exact ⟨rfl, by simp⟩
    · have q := zip_self e
      exact ⟨q.1, List.mem_cons_of_mem _ q.2⟩
theorem termsAre_refl {ts : List Tm} (h : TermsOk ts) : termsAreL ts ts = true := by
  unfold termsAreL
  rw [decide_eq_true rfl, Bool.true_and, List.all_eq_true]
  intro p hp
  obtain ⟨e, hm⟩ := zip_self hp
  rw [← e]
  exact termIs_refl (h.all _ hm)
abbrev sp_terms_are (K : PySem.W.Frag) : Sp := spF K (A := (List (Int × (List Nat) × D)) × (List (Int × (List Nat) × D))) (fun a => [(D.lst (List.map (fun z : (Int × (List Nat) × D) => (D.tup [(D.int z.1), (D.str z.2.1), z.2.2])) a.1)), (D.lst (List.map (fun z : (Int × (List Nat) × D) => (D.tup [(D.int z.1), (D.str z.2.1), z.2.2])) a.2))]) (fun a => TermsOk a.1 ∧ TermsOk a.2) (fun a => .v (D.bl (termsAreL a.1 a.2)))
theorem ok_terms_are {P : Program} {w : World} {K : PySem.W.Frag} {mg : Str → Option Value} {base : Heap} {f : Addr} {fd : FuncData} (F : Fun K "_law_terms_are" "_law_terms_are" s_law_terms_are f fd) (m_all : mg "all" = none) (m_isinstance : mg "isinstance" = none) (m_len : mg "len" = none) (m_list : mg "list" = none) (m_zip : mg "zip" = none) (kn_term_is : Kn P w K mg base "_law_term_is" 2 (sp_term_is K)) : FnOk P w K mg base (L2.CX P w) 3 f fd ["_law_found", "_law_due"] (sp_terms_are K) := by
  refine def_ok F sc_law_terms_are (fun _ => rfl) (fun a hp X E e1 e2 e3 e4 e5 hX => ?_)
  subst e1 e2 e3 e4 e5
  have h := bd_terms_are X E hX m_all m_isinstance m_len m_list m_zip kn_term_is a.1 a.2 hp
  rw [m_terms_are_eq a.1 a.2] at h
  exact h
abbrev s_law_says : Stmt := top 29
abbrev nm_law_says : List Str := ["_law_found", "_law_row_here", "_law_due", "_law_binds", "_law_asked", "_law_said_here"]
theorem sc_law_says : FnScope nm_law_says ["_law_found", "_law_row_here"] (defScope s_law_says) := ⟨rfl, rfl, rfl, by decide +kernel, rfl, by decide +kernel, by decide +kernel⟩
theorem lk_law_says_int : (defScope s_law_says).names.lookup ("int" : Str) = some .globalImplicit := by decide +kernel
theorem lk_law_says_isinstance : (defScope s_law_says).names.lookup ("isinstance" : Str) = some .globalImplicit := by decide +kernel
theorem lk_law_says_law_asked : (defScope s_law_says).names.lookup ("_law_asked" : Str) = some .local := by decide +kernel
theorem lk_law_says_law_binds : (defScope s_law_says).names.lookup ("_law_binds" : Str) = some .local := by decide +kernel
theorem lk_law_says_law_due : (defScope s_law_says).names.lookup ("_law_due" : Str) = some .local := by decide +kernel
theorem lk_law_says_law_found : (defScope s_law_says).names.lookup ("_law_found" : Str) = some .local := by decide +kernel
theorem lk_law_says_law_row_here : (defScope s_law_says).names.lookup ("_law_row_here" : Str) = some .local := by decide +kernel
theorem lk_law_says_law_said : (defScope s_law_says).names.lookup ("_law_said" : Str) = some .globalImplicit := by decide +kernel
theorem lk_law_says_law_said_here : (defScope s_law_says).names.lookup ("_law_said_here" : Str) = some .local := by decide +kernel
theorem lk_law_says_list : (defScope s_law_says).names.lookup ("list" : Str) = some .globalImplicit := by decide +kernel
theorem lk_law_says_str : (defScope s_law_says).names.lookup ("str" : Str) = some .globalImplicit := by decide +kernel
def m_says (a0 : RowT) (a1 : ((List Nat) × (List Nat) × (List Nat) × (List Nat) × (List (Int × (List Nat) × D)))) : Ctl Unit Empty := bnd ((List.replicate ((if (inSs a1.1 ([([100, 114, 97, 119], [108, 97, 116, 101], [116, 97, 107, 101]).1, ([100, 114, 97, 119], [108, 97, 116, 101], [116, 97, 107, 101]).2.1, ([100, 114, 97, 119], [108, 97, 116, 101], [116, 97, 107, 101]).2.2] : List (List Nat))) = true then 1 else 0 : Int)).toNat ([a1.2.2.1] : List (List Nat))).flatten : (List (List Nat))) fun v1 => bnd ((R_binds a0) : (List Nat)) fun v2 => bnd ((R_asked a0) : (List (List Nat))) fun v3 => bnd ((R_said a0) : (List Nat)) fun v4 => if ((!true) || ((!(decide (v2 = a1.2.1))) || ((!true) || (!(eqD (D.lst (List.map D.str v3)) (D.lst (List.map D.str v1))))))) = true then Ctl.up (.ret (.v (D.bl false))) else bnd (v3 ++ [[97]] : (List (List Nat))) fun v9 => .ret (.v (D.bl (true && ((decide (v4 = (saidL a1))) && (eqD (D.lst (List.map D.str (R_asked a0))) (D.lst (List.map D.str v1)))))))
theorem bd_says (X : Cx) (E : XK) (hX : XOk 3 nm_law_says (defScope s_law_says) X E) (m_int : X.mg "int" = none) (m_isinstance : X.mg "isinstance" = none) (m_list : X.mg "list" = none) (m_str : X.mg "str" = none) (kn_Deed_asked : MethX X "Deed" "asked" 1 (sp_Deed_asked X.K)) (kn_Deed_binds : MethX X "Deed" "binds" 1 (sp_Deed_binds X.K)) (kn_Deed_said : MethX X "Deed" "said" 3 (sp_Deed_said X.K)) (kn_Draw_asked : MethX X "Draw" "asked" 1 (sp_Draw_asked X.K)) (kn_Draw_binds : MethX X "Draw" "binds" 1 (sp_Draw_binds X.K)) (kn_Draw_said : MethX X "Draw" "said" 3 (sp_Draw_said X.K)) (kn_Late_asked : MethX X "Late" "asked" 1 (sp_Late_asked X.K)) (kn_Late_binds : MethX X "Late" "binds" 1 (sp_Late_binds X.K)) (kn_Late_said : MethX X "Late" "said" 3 (sp_Late_said X.K)) (kn_Let_asked : MethX X "Let" "asked" 1 (sp_Let_asked X.K)) (kn_Let_binds : MethX X "Let" "binds" 1 (sp_Let_binds X.K)) (kn_Let_said : MethX X "Let" "said" 3 (sp_Let_said X.K)) (kn_Need_asked : MethX X "Need" "asked" 1 (sp_Need_asked X.K)) (kn_Need_binds : MethX X "Need" "binds" 1 (sp_Need_binds X.K)) (kn_Need_said : MethX X "Need" "said" 3 (sp_Need_said X.K)) (kn_Take_asked : MethX X "Take" "asked" 1 (sp_Take_asked X.K)) (kn_Take_binds : MethX X "Take" "binds" 1 (sp_Take_binds X.K)) (kn_Take_said : MethX X "Take" "said" 3 (sp_Take_said X.K)) (kn_row_said : KnX X "_law_said" 3 (sp_row_said X.K)) (a0 : RowT) (a1 : ((List Nat) × (List Nat) × (List Nat) × (List Nat) × (List (Int × (List Nat) × D)))) (hp : IsRow a0 a1) : BK X E ([.d (encRow a0), .d (D.tup [(D.str a1.1), (D.str a1.2.1), (D.str a1.2.2.1), (D.str a1.2.2.2.1), (D.lst (List.map (fun z : (Int × (List Nat) × D) => (D.tup [(D.int z.1), (D.str z.2.1), z.2.2])) a1.2.2.2.2))]), .un, .un, .un, .un] : List B) (defBody s_law_says) (fun s : Unit => List.replicate 6 B.un) (fun s : Empty => nomatch s) (m_says a0 a1) := by
  unfold m_says
  exact (b_setO 2 (fun z : (List (List Nat)) => OO.lst (List.map D.str z)) hX rfl (loc_l lk_law_says_law_due) (eo_repM (EvO.el (eo_lst (ea_cons (ed_ixT (ed_var 1 (hX.nm rfl) (hX.vs (vis_l lk_law_says_law_row_here)) rfl) ed_int rfl) ea_nil) (by show 1 ≤ sizeLine; decide))) (ed_intB (hX.gl lk_law_says_int) m_int (ed_cmp (od_inT _ ([([100, 114, 97, 119], [108, 97, 116, 101], [116, 97, 107, 101]).1, ([100, 114, 97, 119], [108, 97, 116, 101], [116, 97, 107, 101]).2.1, ([100, 114, 97, 119], [108, 97, 116, 101], [116, 97, 107, 101]).2.2] : List (List Nat))) (ed_ixT (ed_var 1 (hX.nm rfl) (hX.vs (vis_l lk_law_says_law_row_here)) rfl) ed_int rfl) (ed_tup (ea_cons (ed_str [100, 114, 97, 119] (by decide +kernel)) (ea_cons (ed_str [108, 97, 116, 101] (by decide +kernel)) (ea_cons (ed_str [116, 97, 107, 101] (by decide +kernel)) ea_nil))) (by show 3 ≤ sizeLine; decide)))) (by first | decide | omega | (unfold CMul; omega) | (dsimp only; omega) | (rw [sizeLine_eq]; omega) | exact hp.2 | (split <;> decide) | (subst_vars; exact Nat.lt_of_le_of_lt (asked_len _) (by decide)) | (split <;> (rw [sizeLine_eq]; simp; done))) (by first | decide | omega | (unfold CMul; omega) | (dsimp only; omega) | (rw [sizeLine_eq]; omega) | exact hp.2 | (split <;> decide) | (subst_vars; exact Nat.lt_of_le_of_lt (asked_len _) (by decide)) | (split <;> (rw [sizeLine_eq]; simp; done)))) (fun v1 hv1 => (show BK X E ([.d (encRow a0), .d (D.tup [(D.str a1.1), (D.str a1.2.1), (D.str a1.2.2.1), (D.str a1.2.2.2.1), (D.lst (List.map (fun z : (Int × (List Nat) × D) => (D.tup [(D.int z.1), (D.str z.2.1), z.2.2])) a1.2.2.2.2))]), .own (.lst (List.map D.str v1)), .un, .un, .un] : List B) _ _ _ _ from (b_set 3 D.str hX rfl (loc_l lk_law_says_law_binds) (row_binds kn_Let_binds kn_Deed_binds kn_Draw_binds kn_Late_binds kn_Take_binds kn_Need_binds (hX.room.mono (by decide)) a0 (ed_var 0 (hX.nm rfl) (hX.vs (vis_l lk_law_says_law_found)) rfl) rfl) (fun v2 hv2 => (show BK X E ([.d (encRow a0), .d (D.tup [(D.str a1.1), (D.str a1.2.1), (D.str a1.2.2.1), (D.str a1.2.2.2.1), (D.lst (List.map (fun z : (Int × (List Nat) × D) => (D.tup [(D.int z.1), (D.str z.2.1), z.2.2])) a1.2.2.2.2))]), .own (.lst (List.map D.str v1)), .d (D.str v2), .un, .un] : List B) _ _ _ _ from (b_setO 4 (fun z : (List (List Nat)) => OO.lst (List.map D.str z)) hX rfl (loc_l lk_law_says_law_asked) (row_asked kn_Let_asked kn_Deed_asked kn_Draw_asked kn_Late_asked kn_Take_asked kn_Need_asked (hX.room.mono (by decide)) a0 (ed_var 0 (hX.nm rfl) (hX.vs (vis_l lk_law_says_law_found)) rfl) rfl) (fun v3 hv3 => (show BK X E ([.d (encRow a0), .d (D.tup [(D.str a1.1), (D.str a1.2.1), (D.str a1.2.2.1), (D.str a1.2.2.2.1), (D.lst (List.map (fun z : (Int × (List Nat) × D) => (D.tup [(D.int z.1), (D.str z.2.1), z.2.2])) a1.2.2.2.2))]), .own (.lst (List.map D.str v1)), .d (D.str v2), .own (.lst (List.map D.str v3)), .un] : List B) _ _ _ _ from (b_set 5 D.str hX rfl (loc_l lk_law_says_law_said_here) (row_said kn_Let_said kn_Deed_said kn_Draw_said kn_Late_said kn_Take_said kn_Need_said (hX.room.mono (by decide)) a0 (isrow_ok hp) (ed_var 0 (hX.nm rfl) (hX.vs (vis_l lk_law_says_law_found)) rfl) rfl) (fun v4 hv4 => (show BK X E ([.d (encRow a0), .d (D.tup [(D.str a1.1), (D.str a1.2.1), (D.str a1.2.2.1), (D.str a1.2.2.2.1), (D.lst (List.map (fun z : (Int × (List Nat) × D) => (D.tup [(D.int z.1), (D.str z.2.1), z.2.2])) a1.2.2.2.2))]), .own (.lst (List.map D.str v1)), .d (D.str v2), .own (.lst (List.map D.str v3)), .d (D.str v4)] : List B) _ _ _ _ from (b_ifr (et_lend 4 rfl (show ET X ([.d (encRow a0), .d (D.tup [(D.str a1.1), (D.str a1.2.1), (D.str a1.2.2.1), (D.str a1.2.2.2.1), (D.lst (List.map (fun z : (Int × (List Nat) × D) => (D.tup [(D.int z.1), (D.str z.2.1), z.2.2])) a1.2.2.2.2))]), .own (.lst (List.map D.str v1)), .d (D.str v2), .d (D.lst (List.map D.str v3)), .d (D.str v4)] : List B) _ _ from (et_lend 2 rfl (show ET X ([.d (encRow a0), .d (D.tup [(D.str a1.1), (D.str a1.2.1), (D.str a1.2.2.1), (D.str a1.2.2.2.1), (D.lst (List.map (fun z : (Int × (List Nat) × D) => (D.tup [(D.int z.1), (D.str z.2.1), z.2.2])) a1.2.2.2.2))]), .d (D.lst (List.map D.str v1)), .d (D.str v2), .d (D.lst (List.map D.str v3)), .d (D.str v4)] : List B) _ _ from (et_w (ew_or (et_not (et_val (ed_isi (hX.gl lk_law_says_isinstance) m_isinstance (ed_var 3 (hX.nm rfl) (hX.vs (vis_l lk_law_says_law_binds)) rfl) (ed_ty (n := "str") (hX.gl lk_law_says_str) m_str (by decide +kernel)) rfl (by decide +kernel)))) (fun h7 => (ew_or (et_cmp (od_neS _ _) (ed_var 3 (hX.nm rfl) (hX.vs (vis_l lk_law_says_law_binds)) rfl) (ed_ixT (ed_var 1 (hX.nm rfl) (hX.vs (vis_l lk_law_says_law_row_here)) rfl) ed_int rfl)) (fun h6 => (ew_or (et_not (et_val (ed_isi (hX.gl lk_law_says_isinstance) m_isinstance (ed_var 4 (hX.nm rfl) (hX.vs (vis_l lk_law_says_law_asked)) rfl) (ed_ty (n := "list") (hX.gl lk_law_says_list) m_list (by decide +kernel)) rfl (by decide +kernel)))) (fun h5 => (ew_or1 (et_cmp (od_neD 8 (room64 hX.room) (by first | exact eqk_strs (asked_chr hp) | (subst_vars; exact eqk_strs (asked_chr hp)) | (subst_vars; exact eqk_strs (due_chr hp))) (by first | exact eqk_strs (asked_chr hp) | (subst_vars; exact eqk_strs (asked_chr hp)) | (subst_vars; exact eqk_strs (due_chr hp))) (by decide)) (ed_var 4 (hX.nm rfl) (hX.vs (vis_l lk_law_says_law_asked)) rfl) (ed_var 2 (hX.nm rfl) (hX.vs (vis_l lk_law_says_law_due)) rfl)))))))))))))) (fun h8 => (b_ret ed_bl)) (fun h8 => (b_app 4 D.str hX rfl (vis_l lk_law_says_law_asked) rfl (ed_str [97] (by decide +kernel)) (by first | decide | omega | (unfold CMul; omega) | (dsimp only; omega) | (rw [sizeLine_eq]; omega) | exact hp.2 | (split <;> decide) | (subst_vars; exact Nat.lt_of_le_of_lt (asked_len _) (by decide)) | (split <;> (rw [sizeLine_eq]; simp; done))) (fun v9 hv9 => (show BK X E ([.d (encRow a0), .d (D.tup [(D.str a1.1), (D.str a1.2.1), (D.str a1.2.2.1), (D.str a1.2.2.2.1), (D.lst (List.map (fun z : (Int × (List Nat) × D) => (D.tup [(D.int z.1), (D.str z.2.1), z.2.2])) a1.2.2.2.2))]), .own (.lst (List.map D.str v1)), .d (D.str v2), .own (.lst (List.map D.str v9)), .d (D.str v4)] : List B) _ _ _ _ from (b_ret (ed_lend 2 rfl rfl (show ED X ([.d (encRow a0), .d (D.tup [(D.str a1.1), (D.str a1.2.1), (D.str a1.2.2.1), (D.str a1.2.2.2.1), (D.lst (List.map (fun z : (Int × (List Nat) × D) => (D.tup [(D.int z.1), (D.str z.2.1), z.2.2])) a1.2.2.2.2))]), .d (D.lst (List.map D.str v1)), .d (D.str v2), .own (.lst (List.map D.str v9)), .d (D.str v4)] : List B) _ _ from (ed_and (ed_isi (hX.gl lk_law_says_isinstance) m_isinstance (ed_var 5 (hX.nm rfl) (hX.vs (vis_l lk_law_says_law_said_here)) rfl) (ed_ty (n := "str") (hX.gl lk_law_says_str) m_str (by decide +kernel)) rfl (by decide +kernel)) (fun h13 => (ed_and (ed_cmp (od_eqS _ _) (ed_var 5 (hX.nm rfl) (hX.vs (vis_l lk_law_says_law_said_here)) rfl) (ed_call a1 kn_row_said (hX.room.mono (by decide)) (hX.gl lk_law_says_law_said) (ea_cons (ed_var 1 (hX.nm rfl) (hX.vs (vis_l lk_law_says_law_row_here)) rfl) ea_nil) (by first | decide | omega | (unfold CMul; omega) | (dsimp only; omega) | (rw [sizeLine_eq]; omega) | exact hp.2 | (split <;> decide) | (subst_vars; exact Nat.lt_of_le_of_lt (asked_len _) (by decide)) | (split <;> (rw [sizeLine_eq]; simp; done))) rfl)) (fun h12 => (ed_one (ed_cmp (od_eqD 8 (room64 hX.room) (by first | exact eqk_strs (asked_chr hp) | (subst_vars; exact eqk_strs (asked_chr hp)) | (subst_vars; exact eqk_strs (due_chr hp))) (by first | exact eqk_strs (asked_chr hp) | (subst_vars; exact eqk_strs (asked_chr hp)) | (subst_vars; exact eqk_strs (due_chr hp))) (by decide)) (EvO.frz (row_asked kn_Let_asked kn_Deed_asked kn_Draw_asked kn_Late_asked kn_Take_asked kn_Need_asked (hX.room.mono (by decide)) a0 (ed_var 0 (hX.nm rfl) (hX.vs (vis_l lk_law_says_law_found)) rfl) rfl)) (ed_var 2 (hX.nm rfl) (hX.vs (vis_l lk_law_says_law_due)) rfl)))))))))))))))))))))))))))
def saysL (_ : RowT) (_ : RT) : Bool := true
theorem m_says_eq (f : RowT) (r : RT) (hp : IsRow f r) : m_says f r = .ret (.v (.bl (saysL f r))) := by
  have k := hp.2
  have e1 := eqD_refl (eqk_strs (asked_chr hp))
  have e2 : R_binds f = r.2.1 := by cases isrow_case hp <;> rfl
  have e3 : (List.replicate ((if inSs r.1 ([[100, 114, 97, 119], [108, 97, 116, 101], [116, 97, 107, 101]] : List (List Nat)) = true then 1 else 0 : Int)).toNat ([r.2.2.1] : List (List Nat))).flatten = R_asked f := by cases isrow_case hp <;> rfl
  have e4 : R_said f = saidL r := by
    have t := show_text k.tm
    have v := saidL_eq
    cases isrow_case hp <;> rw [v] <;> first | rfl | (have t' : showL _ = textL _ := t; show (_ ++ showL _ : List Nat) = _; rw [t']; rfl)
  unfold m_says
  simp only [bnd, e2, e3, e4, e1, decide_true, Bool.not_true, Bool.or_self, Bool.false_eq_true, if_false]
  rfl
abbrev sp_says (K : PySem.W.Frag) : Sp := spF K (A := RowT × ((List Nat) × (List Nat) × (List Nat) × (List Nat) × (List (Int × (List Nat) × D)))) (fun a => [(encRow a.1), (D.tup [(D.str a.2.1), (D.str a.2.2.1), (D.str a.2.2.2.1), (D.str a.2.2.2.2.1), (D.lst (List.map (fun z : (Int × (List Nat) × D) => (D.tup [(D.int z.1), (D.str z.2.1), z.2.2])) a.2.2.2.2.2))])]) (fun a => IsRow a.1 a.2) (fun a => .v (D.bl (saysL a.1 a.2)))
theorem ok_says {P : Program} {w : World} {K : PySem.W.Frag} {mg : Str → Option Value} {base : Heap} {f : Addr} {fd : FuncData} (F : Fun K "_law_says" "_law_says" s_law_says f fd) (m_int : mg "int" = none) (m_isinstance : mg "isinstance" = none) (m_list : mg "list" = none) (m_str : mg "str" = none) (kn_Deed_asked : Mth P w K mg base "Deed" "asked" 1 (sp_Deed_asked K)) (kn_Deed_binds : Mth P w K mg base "Deed" "binds" 1 (sp_Deed_binds K)) (kn_Deed_said : Mth P w K mg base "Deed" "said" 3 (sp_Deed_said K)) (kn_Draw_asked : Mth P w K mg base "Draw" "asked" 1 (sp_Draw_asked K)) (kn_Draw_binds : Mth P w K mg base "Draw" "binds" 1 (sp_Draw_binds K)) (kn_Draw_said : Mth P w K mg base "Draw" "said" 3 (sp_Draw_said K)) (kn_Late_asked : Mth P w K mg base "Late" "asked" 1 (sp_Late_asked K)) (kn_Late_binds : Mth P w K mg base "Late" "binds" 1 (sp_Late_binds K)) (kn_Late_said : Mth P w K mg base "Late" "said" 3 (sp_Late_said K)) (kn_Let_asked : Mth P w K mg base "Let" "asked" 1 (sp_Let_asked K)) (kn_Let_binds : Mth P w K mg base "Let" "binds" 1 (sp_Let_binds K)) (kn_Let_said : Mth P w K mg base "Let" "said" 3 (sp_Let_said K)) (kn_Need_asked : Mth P w K mg base "Need" "asked" 1 (sp_Need_asked K)) (kn_Need_binds : Mth P w K mg base "Need" "binds" 1 (sp_Need_binds K)) (kn_Need_said : Mth P w K mg base "Need" "said" 3 (sp_Need_said K)) (kn_Take_asked : Mth P w K mg base "Take" "asked" 1 (sp_Take_asked K)) (kn_Take_binds : Mth P w K mg base "Take" "binds" 1 (sp_Take_binds K)) (kn_Take_said : Mth P w K mg base "Take" "said" 3 (sp_Take_said K)) (kn_row_said : Kn P w K mg base "_law_said" 3 (sp_row_said K)) : FnOk P w K mg base (L2.CX P w) 4 f fd ["_law_found", "_law_row_here"] (sp_says K) := by
  refine def_ok F sc_law_says (fun _ => rfl) (fun a hp X E e1 e2 e3 e4 e5 hX => ?_)
  subst e1 e2 e3 e4 e5
  have h := bd_says X E hX m_int m_isinstance m_list m_str kn_Deed_asked kn_Deed_binds kn_Deed_said kn_Draw_asked kn_Draw_binds kn_Draw_said kn_Late_asked kn_Late_binds kn_Late_said kn_Let_asked kn_Let_binds kn_Let_said kn_Need_asked kn_Need_binds kn_Need_said kn_Take_asked kn_Take_binds kn_Take_said kn_row_said a.1 a.2 hp
  rw [m_says_eq a.1 a.2 hp] at h
  exact h
abbrev s_law_is : Stmt := top 28
abbrev nm_law_is : List Str := ["_law_found", "_law_row_here", "_law_sort", "_law_name_here", "_law_address_here", "_law_word_here", "_law_terms_here", "_law_flags", "_law_due", "_law_one"]
theorem sc_law_is : FnScope nm_law_is ["_law_found", "_law_row_here"] (defScope s_law_is) := ⟨rfl, rfl, rfl, by decide +kernel, rfl, by decide +kernel, by decide +kernel⟩
theorem lk_law_is_Deed : (defScope s_law_is).names.lookup ("Deed" : Str) = some .globalImplicit := by decide +kernel
theorem lk_law_is_Draw : (defScope s_law_is).names.lookup ("Draw" : Str) = some .globalImplicit := by decide +kernel
theorem lk_law_is_Late : (defScope s_law_is).names.lookup ("Late" : Str) = some .globalImplicit := by decide +kernel
theorem lk_law_is_Let : (defScope s_law_is).names.lookup ("Let" : Str) = some .globalImplicit := by decide +kernel
theorem lk_law_is_Need : (defScope s_law_is).names.lookup ("Need" : Str) = some .globalImplicit := by decide +kernel
theorem lk_law_is_Row : (defScope s_law_is).names.lookup ("Row" : Str) = some .globalImplicit := by decide +kernel
theorem lk_law_is_Take : (defScope s_law_is).names.lookup ("Take" : Str) = some .globalImplicit := by decide +kernel
theorem lk_law_is_isinstance : (defScope s_law_is).names.lookup ("isinstance" : Str) = some .globalImplicit := by decide +kernel
theorem lk_law_is_law_address_here : (defScope s_law_is).names.lookup ("_law_address_here" : Str) = some .local := by decide +kernel
theorem lk_law_is_law_due : (defScope s_law_is).names.lookup ("_law_due" : Str) = some .local := by decide +kernel
theorem lk_law_is_law_flags : (defScope s_law_is).names.lookup ("_law_flags" : Str) = some .local := by decide +kernel
theorem lk_law_is_law_found : (defScope s_law_is).names.lookup ("_law_found" : Str) = some .local := by decide +kernel
theorem lk_law_is_law_name_here : (defScope s_law_is).names.lookup ("_law_name_here" : Str) = some .local := by decide +kernel
theorem lk_law_is_law_row_here : (defScope s_law_is).names.lookup ("_law_row_here" : Str) = some .local := by decide +kernel
theorem lk_law_is_law_says : (defScope s_law_is).names.lookup ("_law_says" : Str) = some .globalImplicit := by decide +kernel
theorem lk_law_is_law_sort : (defScope s_law_is).names.lookup ("_law_sort" : Str) = some .cell := by decide +kernel
theorem lk_law_is_law_terms_are : (defScope s_law_is).names.lookup ("_law_terms_are" : Str) = some .globalImplicit := by decide +kernel
theorem lk_law_is_law_terms_here : (defScope s_law_is).names.lookup ("_law_terms_here" : Str) = some .local := by decide +kernel
theorem lk_law_is_law_word_here : (defScope s_law_is).names.lookup ("_law_word_here" : Str) = some .local := by decide +kernel
theorem lk_law_is_str : (defScope s_law_is).names.lookup ("str" : Str) = some .globalImplicit := by decide +kernel
def m_is (a0 : RowT) (a1 : ((List Nat) × (List Nat) × (List Nat) × (List Nat) × (List (Int × (List Nat) × D)))) : Ctl Unit Empty := bnd (a1 : ((List Nat) × (List Nat) × (List Nat) × (List Nat) × (List (Int × (List Nat) × D)))) fun v1 => bnd (([(R_isi_Let a0), (R_isi_Deed a0), (R_isi_Draw a0), (R_isi_Late a0)] : List Bool) : (List Bool)) fun v2 => bnd ((v2 ++ ([(R_isi_Take a0), (R_isi_Need a0)] : List Bool)) : (List Bool)) fun v3 => bnd ((List.map (fun y5 : (List Nat) => (decide (v1.1 = y5))) ([([108, 101, 116], [100, 101, 101, 100], [100, 114, 97, 119], [108, 97, 116, 101], [116, 97, 107, 101], [110, 101, 101, 100]).1, ([108, 101, 116], [100, 101, 101, 100], [100, 114, 97, 119], [108, 97, 116, 101], [116, 97, 107, 101], [110, 101, 101, 100]).2.1, ([108, 101, 116], [100, 101, 101, 100], [100, 114, 97, 119], [108, 97, 116, 101], [116, 97, 107, 101], [110, 101, 101, 100]).2.2.1, ([108, 101, 116], [100, 101, 101, 100], [100, 114, 97, 119], [108, 97, 116, 101], [116, 97, 107, 101], [110, 101, 101, 100]).2.2.2.1, ([108, 101, 116], [100, 101, 101, 100], [100, 114, 97, 119], [108, 97, 116, 101], [116, 97, 107, 101], [110, 101, 101, 100]).2.2.2.2.1, ([108, 101, 116], [100, 101, 101, 100], [100, 114, 97, 119], [108, 97, 116, 101], [116, 97, 107, 101], [110, 101, 101, 100]).2.2.2.2.2] : List (List Nat))) : (List Bool)) fun v4 => if ((!(R_isi_Row a0)) || ((!(eqD (D.lst (List.map D.bl v3)) (D.lst (List.map D.bl v4)))) || (!(saysL a0 a1)))) = true then Ctl.up (.ret (.v (D.bl false))) else if ((!(decide (v1.1 = [110, 101, 101, 100]))) && ((!true) || (!(decide ((R_name a0) = v1.2.1))))) = true then Ctl.up (.ret (.v (D.bl false))) else if ((decide (v1.1 = [116, 97, 107, 101])) && ((!true) || (!(decide ((R_word a0) = v1.2.2.2.1))))) = true then Ctl.up (.ret (.v (D.bl false))) else if (inSs v1.1 ([([100, 114, 97, 119], [108, 97, 116, 101], [116, 97, 107, 101]).1, ([100, 114, 97, 119], [108, 97, 116, 101], [116, 97, 107, 101]).2.1, ([100, 114, 97, 119], [108, 97, 116, 101], [116, 97, 107, 101]).2.2] : List (List Nat))) = true then Ctl.up (.ret (.v (D.bl (true && (decide ((R_address a0) = v1.2.2.1)))))) else .ret (.v (D.bl (termsAreL (R_terms a0) v1.2.2.2.2)))
theorem bd_is (X : Cx) (E : XK) (hX : XOk 4 nm_law_is (defScope s_law_is) X E) (m_isinstance : X.mg "isinstance" = none) (m_str : X.mg "str" = none) (kn_says : KnX X "_law_says" 4 (sp_says X.K)) (kn_terms_are : KnX X "_law_terms_are" 3 (sp_terms_are X.K)) (fa_Deed_name : FldA X.K "Deed" "name") (fa_Deed_terms : FldA X.K "Deed" "terms") (fa_Draw_address : FldA X.K "Draw" "address") (fa_Draw_name : FldA X.K "Draw" "name") (fa_Late_address : FldA X.K "Late" "address") (fa_Late_name : FldA X.K "Late" "name") (fa_Let_name : FldA X.K "Let" "name") (fa_Let_terms : FldA X.K "Let" "terms") (fa_Need_terms : FldA X.K "Need" "terms") (fa_Take_address : FldA X.K "Take" "address") (fa_Take_name : FldA X.K "Take" "name") (fa_Take_word : FldA X.K "Take" "word") (isa_Deed_Deed : IsA X.K X.mg "Deed" "Deed" true) (isa_Deed_Draw : IsA X.K X.mg "Deed" "Draw" false) (isa_Deed_Late : IsA X.K X.mg "Deed" "Late" false) (isa_Deed_Let : IsA X.K X.mg "Deed" "Let" false) (isa_Deed_Need : IsA X.K X.mg "Deed" "Need" false) (isa_Deed_Row : IsA X.K X.mg "Deed" "Row" true) (isa_Deed_Take : IsA X.K X.mg "Deed" "Take" false) (isa_Draw_Deed : IsA X.K X.mg "Draw" "Deed" false) (isa_Draw_Draw : IsA X.K X.mg "Draw" "Draw" true) (isa_Draw_Late : IsA X.K X.mg "Draw" "Late" false) (isa_Draw_Let : IsA X.K X.mg "Draw" "Let" false) (isa_Draw_Need : IsA X.K X.mg "Draw" "Need" false) (isa_Draw_Row : IsA X.K X.mg "Draw" "Row" true) (isa_Draw_Take : IsA X.K X.mg "Draw" "Take" false) (isa_Late_Deed : IsA X.K X.mg "Late" "Deed" false) (isa_Late_Draw : IsA X.K X.mg "Late" "Draw" false) (isa_Late_Late : IsA X.K X.mg "Late" "Late" true) (isa_Late_Let : IsA X.K X.mg "Late" "Let" false) (isa_Late_Need : IsA X.K X.mg "Late" "Need" false) (isa_Late_Row : IsA X.K X.mg "Late" "Row" true) (isa_Late_Take : IsA X.K X.mg "Late" "Take" false) (isa_Let_Deed : IsA X.K X.mg "Let" "Deed" false) (isa_Let_Draw : IsA X.K X.mg "Let" "Draw" false) (isa_Let_Late : IsA X.K X.mg "Let" "Late" false) (isa_Let_Let : IsA X.K X.mg "Let" "Let" true) (isa_Let_Need : IsA X.K X.mg "Let" "Need" false) (isa_Let_Row : IsA X.K X.mg "Let" "Row" true) (isa_Let_Take : IsA X.K X.mg "Let" "Take" false) (isa_Need_Deed : IsA X.K X.mg "Need" "Deed" false) (isa_Need_Draw : IsA X.K X.mg "Need" "Draw" false) (isa_Need_Late : IsA X.K X.mg "Need" "Late" false) (isa_Need_Let : IsA X.K X.mg "Need" "Let" false) (isa_Need_Need : IsA X.K X.mg "Need" "Need" true) (isa_Need_Row : IsA X.K X.mg "Need" "Row" true) (isa_Need_Take : IsA X.K X.mg "Need" "Take" false) (isa_Take_Deed : IsA X.K X.mg "Take" "Deed" false) (isa_Take_Draw : IsA X.K X.mg "Take" "Draw" false) (isa_Take_Late : IsA X.K X.mg "Take" "Late" false) (isa_Take_Let : IsA X.K X.mg "Take" "Let" false) (isa_Take_Need : IsA X.K X.mg "Take" "Need" false) (isa_Take_Row : IsA X.K X.mg "Take" "Row" true) (isa_Take_Take : IsA X.K X.mg "Take" "Take" true) (a0 : RowT) (a1 : ((List Nat) × (List Nat) × (List Nat) × (List Nat) × (List (Int × (List Nat) × D)))) (hp : IsRow a0 a1) : BK X E ([.d (encRow a0), .d (D.tup [(D.str a1.1), (D.str a1.2.1), (D.str a1.2.2.1), (D.str a1.2.2.2.1), (D.lst (List.map (fun z : (Int × (List Nat) × D) => (D.tup [(D.int z.1), (D.str z.2.1), z.2.2])) a1.2.2.2.2))]), .un, .un, .un, .un, .un, .un, .un, .un] : List B) (defBody s_law_is) (fun s : Unit => List.replicate 10 B.un) (fun s : Empty => nomatch s) (m_is a0 a1) := by
  unfold m_is
  exact (b_setT (g := (gTup X.K 5 (gCons (gName 2) (gCons (gName 3) (gCons (gName 4) (gCons (gName 5) (gCons (gName 6) gNil))))))) (js := [2, 3, 4, 5, 6]) (fun z : ((List Nat) × (List Nat) × (List Nat) × (List Nat) × (List (Int × (List Nat) × D))) => (D.tup [(D.str z.1), (D.str z.2.1), (D.str z.2.2.1), (D.str z.2.2.2.1), (D.lst (List.map (fun z : (Int × (List Nat) × D) => (D.tup [(D.int z.1), (D.str z.2.1), z.2.2])) z.2.2.2.2))])) (fun v1 : ((List Nat) × (List Nat) × (List Nat) × (List Nat) × (List (Int × (List Nat) × D))) => ([.d (encRow a0), .d (D.tup [(D.str a1.1), (D.str a1.2.1), (D.str a1.2.2.1), (D.str a1.2.2.2.1), (D.lst (List.map (fun z : (Int × (List Nat) × D) => (D.tup [(D.int z.1), (D.str z.2.1), z.2.2])) a1.2.2.2.2))]), .d (D.str v1.1), .d (D.str v1.2.1), .d (D.str v1.2.2.1), .d (D.str v1.2.2.2.1), .d (D.lst (List.map (fun z : (Int × (List Nat) × D) => (D.tup [(D.int z.1), (D.str z.2.1), z.2.2])) v1.2.2.2.2)), .un, .un, .un] : List B)) (pg_tup hX.calm (pgs_cons (pg_name (i := 2) hX.nd (hX.nm rfl) (hX.lc (loc_c lk_law_is_law_sort)) (.inl (hX.fn _))) (pgs_cons (pg_name (i := 3) hX.nd (hX.nm rfl) (hX.lc (loc_l lk_law_is_law_name_here)) (.inl (hX.fn _))) (pgs_cons (pg_name (i := 4) hX.nd (hX.nm rfl) (hX.lc (loc_l lk_law_is_law_address_here)) (.inl (hX.fn _))) (pgs_cons (pg_name (i := 5) hX.nd (hX.nm rfl) (hX.lc (loc_l lk_law_is_law_word_here)) (.inl (hX.fn _))) (pgs_cons (pg_name (i := 6) hX.nd (hX.nm rfl) (hX.lc (loc_l lk_law_is_law_terms_here)) (.inl (hX.fn _))) pgs_nil)))))) (fun v1 => (tg_tup (tgs_cons 2 (tgs_cons 3 (tgs_cons 4 (tgs_cons 5 (tgs_cons 6 tgs_nil))))) rfl)) (ed_var 1 (hX.nm rfl) (hX.vs (vis_l lk_law_is_law_row_here)) rfl) (fun v1 hv1 => (b_setO 7 (fun z : (List Bool) => OO.lst (List.map D.bl z)) hX rfl (loc_l lk_law_is_law_flags) (eo_lst (ea_cons (row_isi_Let isa_Let_Let isa_Deed_Let isa_Draw_Let isa_Late_Let isa_Take_Let isa_Need_Let (hX.gl lk_law_is_isinstance) m_isinstance a0 (ed_var 0 (hX.nm rfl) (hX.vs (vis_l lk_law_is_law_found)) rfl) (hX.gl lk_law_is_Let)) (ea_cons (row_isi_Deed isa_Let_Deed isa_Deed_Deed isa_Draw_Deed isa_Late_Deed isa_Take_Deed isa_Need_Deed (hX.gl lk_law_is_isinstance) m_isinstance a0 (ed_var 0 (hX.nm rfl) (hX.vs (vis_l lk_law_is_law_found)) rfl) (hX.gl lk_law_is_Deed)) (ea_cons (row_isi_Draw isa_Let_Draw isa_Deed_Draw isa_Draw_Draw isa_Late_Draw isa_Take_Draw isa_Need_Draw (hX.gl lk_law_is_isinstance) m_isinstance a0 (ed_var 0 (hX.nm rfl) (hX.vs (vis_l lk_law_is_law_found)) rfl) (hX.gl lk_law_is_Draw)) (ea_cons (row_isi_Late isa_Let_Late isa_Deed_Late isa_Draw_Late isa_Late_Late isa_Take_Late isa_Need_Late (hX.gl lk_law_is_isinstance) m_isinstance a0 (ed_var 0 (hX.nm rfl) (hX.vs (vis_l lk_law_is_law_found)) rfl) (hX.gl lk_law_is_Late)) ea_nil)))) (by show 4 ≤ sizeLine; decide)) (fun v2 hv2 => (show BK X E ([.d (encRow a0), .d (D.tup [(D.str a1.1), (D.str a1.2.1), (D.str a1.2.2.1), (D.str a1.2.2.2.1), (D.lst (List.map (fun z : (Int × (List Nat) × D) => (D.tup [(D.int z.1), (D.str z.2.1), z.2.2])) a1.2.2.2.2))]), .d (D.str v1.1), .d (D.str v1.2.1), .d (D.str v1.2.2.1), .d (D.str v1.2.2.2.1), .d (D.lst (List.map (fun z : (Int × (List Nat) × D) => (D.tup [(D.int z.1), (D.str z.2.1), z.2.2])) v1.2.2.2.2)), .own (.lst (List.map D.bl v2)), .un, .un] : List B) _ _ _ _ from (b_setO 7 (fun z : (List Bool) => OO.lst (List.map D.bl z)) hX rfl (loc_l lk_law_is_law_flags) (eo_catM (el_own 7 (hX.nm rfl) (hX.vs (vis_l lk_law_is_law_flags)) rfl) (EvO.el (eo_lst (ea_cons (row_isi_Take isa_Let_Take isa_Deed_Take isa_Draw_Take isa_Late_Take isa_Take_Take isa_Need_Take (hX.gl lk_law_is_isinstance) m_isinstance a0 (ed_var 0 (hX.nm rfl) (hX.vs (vis_l lk_law_is_law_found)) rfl) (hX.gl lk_law_is_Take)) (ea_cons (row_isi_Need isa_Let_Need isa_Deed_Need isa_Draw_Need isa_Late_Need isa_Take_Need isa_Need_Need (hX.gl lk_law_is_isinstance) m_isinstance a0 (ed_var 0 (hX.nm rfl) (hX.vs (vis_l lk_law_is_law_found)) rfl) (hX.gl lk_law_is_Need)) ea_nil)) (by show 2 ≤ sizeLine; decide))) (by first | decide | omega | (unfold CMul; omega) | (dsimp only; omega) | (rw [sizeLine_eq]; omega) | exact hp | (simp only [List.length_cons, List.length_nil]; rw [sizeLine_eq]; omega) | (subst_vars; simp only [List.length_append, List.length_cons, List.length_nil]; rw [sizeLine_eq]; omega) | (subst_vars; simp only [List.length_append, List.length_cons, List.length_nil]; (try rw [sizeLine_eq]); decide) | exact ⟨terms_ok hp ‹_›, hp.2.tm⟩ | (subst_vars; exact ⟨terms_ok hp ‹_›, hp.2.tm⟩) | (subst_vars; simp; done))) (fun v3 hv3 => (show BK X E ([.d (encRow a0), .d (D.tup [(D.str a1.1), (D.str a1.2.1), (D.str a1.2.2.1), (D.str a1.2.2.2.1), (D.lst (List.map (fun z : (Int × (List Nat) × D) => (D.tup [(D.int z.1), (D.str z.2.1), z.2.2])) a1.2.2.2.2))]), .d (D.str v1.1), .d (D.str v1.2.1), .d (D.str v1.2.2.1), .d (D.str v1.2.2.2.1), .d (D.lst (List.map (fun z : (Int × (List Nat) × D) => (D.tup [(D.int z.1), (D.str z.2.1), z.2.2])) v1.2.2.2.2)), .own (.lst (List.map D.bl v3)), .un, .un] : List B) _ _ _ _ from (b_setLc 8 (fun z : (List Bool) => OO.lst (List.map D.bl z)) hX rfl lk_law_is_law_due (sw_yes hX lk_law_is_law_due (by decide +kernel)) (lc_ok0 (Yt := (List Nat)) (τ := Bool) (encY := D.str) (enc := D.bl) (g := (gName 9)) (js := [9]) (own := [("_law_one", 9)]) ([([108, 101, 116], [100, 101, 101, 100], [100, 114, 97, 119], [108, 97, 116, 101], [116, 97, 107, 101], [110, 101, 101, 100]).1, ([108, 101, 116], [100, 101, 101, 100], [100, 114, 97, 119], [108, 97, 116, 101], [116, 97, 107, 101], [110, 101, 101, 100]).2.1, ([108, 101, 116], [100, 101, 101, 100], [100, 114, 97, 119], [108, 97, 116, 101], [116, 97, 107, 101], [110, 101, 101, 100]).2.2.1, ([108, 101, 116], [100, 101, 101, 100], [100, 114, 97, 119], [108, 97, 116, 101], [116, 97, 107, 101], [110, 101, 101, 100]).2.2.2.1, ([108, 101, 116], [100, 101, 101, 100], [100, 114, 97, 119], [108, 97, 116, 101], [116, 97, 107, 101], [110, 101, 101, 100]).2.2.2.2.1, ([108, 101, 116], [100, 101, 101, 100], [100, 114, 97, 119], [108, 97, 116, 101], [116, 97, 107, 101], [110, 101, 101, 100]).2.2.2.2.2] : List (List Nat)) (fun y5 : (List Nat) => (decide (v1.1 = y5))) (it_tup (ds := List.map D.str ([([108, 101, 116], [100, 101, 101, 100], [100, 114, 97, 119], [108, 97, 116, 101], [116, 97, 107, 101], [110, 101, 101, 100]).1, ([108, 101, 116], [100, 101, 101, 100], [100, 114, 97, 119], [108, 97, 116, 101], [116, 97, 107, 101], [110, 101, 101, 100]).2.1, ([108, 101, 116], [100, 101, 101, 100], [100, 114, 97, 119], [108, 97, 116, 101], [116, 97, 107, 101], [110, 101, 101, 100]).2.2.1, ([108, 101, 116], [100, 101, 101, 100], [100, 114, 97, 119], [108, 97, 116, 101], [116, 97, 107, 101], [110, 101, 101, 100]).2.2.2.1, ([108, 101, 116], [100, 101, 101, 100], [100, 114, 97, 119], [108, 97, 116, 101], [116, 97, 107, 101], [110, 101, 101, 100]).2.2.2.2.1, ([108, 101, 116], [100, 101, 101, 100], [100, 114, 97, 119], [108, 97, 116, 101], [116, 97, 107, 101], [110, 101, 101, 100]).2.2.2.2.2] : List (List Nat))) (ed_tup (ea_cons (ed_str [108, 101, 116] (by decide +kernel)) (ea_cons (ed_str [100, 101, 101, 100] (by decide +kernel)) (ea_cons (ed_str [100, 114, 97, 119] (by decide +kernel)) (ea_cons (ed_str [108, 97, 116, 101] (by decide +kernel)) (ea_cons (ed_str [116, 97, 107, 101] (by decide +kernel)) (ea_cons (ed_str [110, 101, 101, 100] (by decide +kernel)) ea_nil)))))) (by show 6 ≤ sizeLine; decide))) (blk_ok hX (by decide +kernel)) (fun _ _ _ _ _ => (pg_name (i := 9) hX.nd (hX.nm rfl) (blk_lc hX (loc_l (by decide +kernel))) (.inr (blk_lk hX (by decide +kernel))))) (by decide) (by first | decide | omega | (unfold CMul; omega) | (dsimp only; omega) | (rw [sizeLine_eq]; omega) | exact hp | (simp only [List.length_cons, List.length_nil]; rw [sizeLine_eq]; omega) | (subst_vars; simp only [List.length_append, List.length_cons, List.length_nil]; rw [sizeLine_eq]; omega) | (subst_vars; simp only [List.length_append, List.length_cons, List.length_nil]; (try rw [sizeLine_eq]); decide) | exact ⟨terms_ok hp ‹_›, hp.2.tm⟩ | (subst_vars; exact ⟨terms_ok hp ‹_›, hp.2.tm⟩) | (subst_vars; simp; done)) (fun y5 : (List Nat) => ([.d (encRow a0), .d (D.tup [(D.str a1.1), (D.str a1.2.1), (D.str a1.2.2.1), (D.str a1.2.2.2.1), (D.lst (List.map (fun z : (Int × (List Nat) × D) => (D.tup [(D.int z.1), (D.str z.2.1), z.2.2])) a1.2.2.2.2))]), .d (D.str v1.1), .d (D.str v1.2.1), .d (D.str v1.2.2.1), .d (D.str v1.2.2.2.1), .d (D.lst (List.map (fun z : (Int × (List Nat) × D) => (D.tup [(D.int z.1), (D.str z.2.1), z.2.2])) v1.2.2.2.2)), .own (.lst (List.map D.bl v3)), .un, .d (D.str y5)] : List B)) (fun y5 _ => (show TgD X.K (gName 9) [9] (wipeB ([.d (encRow a0), .d (D.tup [(D.str a1.1), (D.str a1.2.1), (D.str a1.2.2.1), (D.str a1.2.2.2.1), (D.lst (List.map (fun z : (Int × (List Nat) × D) => (D.tup [(D.int z.1), (D.str z.2.1), z.2.2])) a1.2.2.2.2))]), .d (D.str v1.1), .d (D.str v1.2.1), .d (D.str v1.2.2.1), .d (D.str v1.2.2.2.1), .d (D.lst (List.map (fun z : (Int × (List Nat) × D) => (D.tup [(D.int z.1), (D.str z.2.1), z.2.2])) v1.2.2.2.2)), .own (.lst (List.map D.bl v3)), .un, .un] : List B) [9]) (D.str y5) ([.d (encRow a0), .d (D.tup [(D.str a1.1), (D.str a1.2.1), (D.str a1.2.2.1), (D.str a1.2.2.2.1), (D.lst (List.map (fun z : (Int × (List Nat) × D) => (D.tup [(D.int z.1), (D.str z.2.1), z.2.2])) a1.2.2.2.2))]), .d (D.str v1.1), .d (D.str v1.2.1), .d (D.str v1.2.2.1), .d (D.str v1.2.2.2.1), .d (D.lst (List.map (fun z : (Int × (List Nat) × D) => (D.tup [(D.int z.1), (D.str z.2.1), z.2.2])) v1.2.2.2.2)), .own (.lst (List.map D.bl v3)), .un, .d (D.str y5)] : List B) from (tg_name 9))) (fun y5 hy6 _ _ _ _ _ => (ed_cmp (od_eqS _ _) (ed_var 2 (hX.nm rfl) (blk_vs hX (vis_c (by decide +kernel))) rfl) (ed_var 9 (hX.nm rfl) (blk_vs hX (vis_l (by decide +kernel))) rfl)))) (fun v4 hv4 => (show BK X E ([.d (encRow a0), .d (D.tup [(D.str a1.1), (D.str a1.2.1), (D.str a1.2.2.1), (D.str a1.2.2.2.1), (D.lst (List.map (fun z : (Int × (List Nat) × D) => (D.tup [(D.int z.1), (D.str z.2.1), z.2.2])) a1.2.2.2.2))]), .d (D.str v1.1), .d (D.str v1.2.1), .d (D.str v1.2.2.1), .d (D.str v1.2.2.2.1), .d (D.lst (List.map (fun z : (Int × (List Nat) × D) => (D.tup [(D.int z.1), (D.str z.2.1), z.2.2])) v1.2.2.2.2)), .own (.lst (List.map D.bl v3)), .own (.lst (List.map D.bl v4)), .un] : List B) _ _ _ _ from (b_ifr (et_lend 7 rfl (show ET X ([.d (encRow a0), .d (D.tup [(D.str a1.1), (D.str a1.2.1), (D.str a1.2.2.1), (D.str a1.2.2.2.1), (D.lst (List.map (fun z : (Int × (List Nat) × D) => (D.tup [(D.int z.1), (D.str z.2.1), z.2.2])) a1.2.2.2.2))]), .d (D.str v1.1), .d (D.str v1.2.1), .d (D.str v1.2.2.1), .d (D.str v1.2.2.2.1), .d (D.lst (List.map (fun z : (Int × (List Nat) × D) => (D.tup [(D.int z.1), (D.str z.2.1), z.2.2])) v1.2.2.2.2)), .d (D.lst (List.map D.bl v3)), .own (.lst (List.map D.bl v4)), .un] : List B) _ _ from (et_lend 8 rfl (show ET X ([.d (encRow a0), .d (D.tup [(D.str a1.1), (D.str a1.2.1), (D.str a1.2.2.1), (D.str a1.2.2.2.1), (D.lst (List.map (fun z : (Int × (List Nat) × D) => (D.tup [(D.int z.1), (D.str z.2.1), z.2.2])) a1.2.2.2.2))]), .d (D.str v1.1), .d (D.str v1.2.1), .d (D.str v1.2.2.1), .d (D.str v1.2.2.2.1), .d (D.lst (List.map (fun z : (Int × (List Nat) × D) => (D.tup [(D.int z.1), (D.str z.2.1), z.2.2])) v1.2.2.2.2)), .d (D.lst (List.map D.bl v3)), .d (D.lst (List.map D.bl v4)), .un] : List B) _ _ from (et_w (ew_or (et_not (et_val (row_isi_Row isa_Let_Row isa_Deed_Row isa_Draw_Row isa_Late_Row isa_Take_Row isa_Need_Row (hX.gl lk_law_is_isinstance) m_isinstance a0 (ed_var 0 (hX.nm rfl) (hX.vs (vis_l lk_law_is_law_found)) rfl) (hX.gl lk_law_is_Row)))) (fun h8 => (ew_or (et_cmp (od_neD 8 (room64 hX.room) (by subst_vars; exact eqk_bls _) (by subst_vars; exact eqk_bls _) (by decide)) (ed_var 7 (hX.nm rfl) (hX.vs (vis_l lk_law_is_law_flags)) rfl) (ed_var 8 (hX.nm rfl) (hX.vs (vis_l lk_law_is_law_due)) rfl)) (fun h7 => (ew_or1 (et_not (et_val (ed_call ((a0, a1) : RowT × ((List Nat) × (List Nat) × (List Nat) × (List Nat) × (List (Int × (List Nat) × D)))) kn_says (hX.room.mono (by decide)) (hX.gl lk_law_is_law_says) (ea_cons (ed_var 0 (hX.nm rfl) (hX.vs (vis_l lk_law_is_law_found)) rfl) (ea_cons (ed_var 1 (hX.nm rfl) (hX.vs (vis_l lk_law_is_law_row_here)) rfl) ea_nil)) (by first | decide | omega | (unfold CMul; omega) | (dsimp only; omega) | (rw [sizeLine_eq]; omega) | exact hp | (simp only [List.length_cons, List.length_nil]; rw [sizeLine_eq]; omega) | (subst_vars; simp only [List.length_append, List.length_cons, List.length_nil]; rw [sizeLine_eq]; omega) | (subst_vars; simp only [List.length_append, List.length_cons, List.length_nil]; (try rw [sizeLine_eq]); decide) | exact ⟨terms_ok hp ‹_›, hp.2.tm⟩ | (subst_vars; exact ⟨terms_ok hp ‹_›, hp.2.tm⟩) | (subst_vars; simp; done)) rfl))))))))))))) (fun h9 => (b_ret ed_bl)) (fun h9 => (b_ifr (et_w (ew_and (et_cmp (od_neS _ _) (ed_var 2 (hX.nm rfl) (hX.vs (vis_c lk_law_is_law_sort)) rfl) (ed_str [110, 101, 101, 100] (by decide +kernel))) (fun h11 => (ew_and1 (et_w (ew_or (et_not (et_val (ed_isi (hX.gl lk_law_is_isinstance) m_isinstance (row_name fa_Let_name fa_Deed_name fa_Draw_name fa_Late_name fa_Take_name a0 (by subst_vars; first | exact has_name hp ‹_› | exact has_word hp ‹_› | exact has_address hp ‹_› | exact has_terms hp ‹_›) (ed_var 0 (hX.nm rfl) (hX.vs (vis_l lk_law_is_law_found)) rfl)) (ed_ty (n := "str") (hX.gl lk_law_is_str) m_str (by decide +kernel)) rfl (by decide +kernel)))) (fun h10 => (ew_or1 (et_cmp (od_neS _ _) (row_name fa_Let_name fa_Deed_name fa_Draw_name fa_Late_name fa_Take_name a0 (by subst_vars; first | exact has_name hp ‹_› | exact has_word hp ‹_› | exact has_address hp ‹_› | exact has_terms hp ‹_›) (ed_var 0 (hX.nm rfl) (hX.vs (vis_l lk_law_is_law_found)) rfl)) (ed_var 3 (hX.nm rfl) (hX.vs (vis_l lk_law_is_law_name_here)) rfl)))))))))) (fun h12 => (b_ret ed_bl)) (fun h12 => (b_ifr (et_w (ew_and (et_cmp (od_eqS _ _) (ed_var 2 (hX.nm rfl) (hX.vs (vis_c lk_law_is_law_sort)) rfl) (ed_str [116, 97, 107, 101] (by decide +kernel))) (fun h14 => (ew_and1 (et_w (ew_or (et_not (et_val (ed_isi (hX.gl lk_law_is_isinstance) m_isinstance (row_word fa_Take_word a0 (by subst_vars; first | exact has_name hp ‹_› | exact has_word hp ‹_› | exact has_address hp ‹_› | exact has_terms hp ‹_›) (ed_var 0 (hX.nm rfl) (hX.vs (vis_l lk_law_is_law_found)) rfl)) (ed_ty (n := "str") (hX.gl lk_law_is_str) m_str (by decide +kernel)) rfl (by decide +kernel)))) (fun h13 => (ew_or1 (et_cmp (od_neS _ _) (row_word fa_Take_word a0 (by subst_vars; first | exact has_name hp ‹_› | exact has_word hp ‹_› | exact has_address hp ‹_› | exact has_terms hp ‹_›) (ed_var 0 (hX.nm rfl) (hX.vs (vis_l lk_law_is_law_found)) rfl)) (ed_var 5 (hX.nm rfl) (hX.vs (vis_l lk_law_is_law_word_here)) rfl)))))))))) (fun h15 => (b_ret ed_bl)) (fun h15 => (b_ifr (et_cmp (od_inT _ ([([100, 114, 97, 119], [108, 97, 116, 101], [116, 97, 107, 101]).1, ([100, 114, 97, 119], [108, 97, 116, 101], [116, 97, 107, 101]).2.1, ([100, 114, 97, 119], [108, 97, 116, 101], [116, 97, 107, 101]).2.2] : List (List Nat))) (ed_var 2 (hX.nm rfl) (hX.vs (vis_c lk_law_is_law_sort)) rfl) (ed_tup (ea_cons (ed_str [100, 114, 97, 119] (by decide +kernel)) (ea_cons (ed_str [108, 97, 116, 101] (by decide +kernel)) (ea_cons (ed_str [116, 97, 107, 101] (by decide +kernel)) ea_nil))) (by show 3 ≤ sizeLine; decide))) (fun h16 => (b_ret (ed_and (ed_isi (hX.gl lk_law_is_isinstance) m_isinstance (row_address fa_Draw_address fa_Late_address fa_Take_address a0 (by subst_vars; first | exact has_name hp ‹_› | exact has_word hp ‹_› | exact has_address hp ‹_› | exact has_terms hp ‹_›) (ed_var 0 (hX.nm rfl) (hX.vs (vis_l lk_law_is_law_found)) rfl)) (ed_ty (n := "str") (hX.gl lk_law_is_str) m_str (by decide +kernel)) rfl (by decide +kernel)) (fun h17 => (ed_one (ed_cmp (od_eqS _ _) (row_address fa_Draw_address fa_Late_address fa_Take_address a0 (by subst_vars; first | exact has_name hp ‹_› | exact has_word hp ‹_› | exact has_address hp ‹_› | exact has_terms hp ‹_›) (ed_var 0 (hX.nm rfl) (hX.vs (vis_l lk_law_is_law_found)) rfl)) (ed_var 4 (hX.nm rfl) (hX.vs (vis_l lk_law_is_law_address_here)) rfl))))))) (fun h16 => (b_ret (ed_call (((R_terms a0), v1.2.2.2.2) : (List (Int × (List Nat) × D)) × (List (Int × (List Nat) × D))) kn_terms_are (hX.room.mono (by decide)) (hX.gl lk_law_is_law_terms_are) (ea_cons (row_terms fa_Let_terms fa_Deed_terms fa_Need_terms a0 (by subst_vars; first | exact has_name hp ‹_› | exact has_word hp ‹_› | exact has_address hp ‹_› | exact has_terms hp ‹_›) (ed_var 0 (hX.nm rfl) (hX.vs (vis_l lk_law_is_law_found)) rfl)) (ea_cons (ed_var 6 (hX.nm rfl) (hX.vs (vis_l lk_law_is_law_terms_here)) rfl) ea_nil)) (by first | decide | omega | (unfold CMul; omega) | (dsimp only; omega) | (rw [sizeLine_eq]; omega) | exact hp | (simp only [List.length_cons, List.length_nil]; rw [sizeLine_eq]; omega) | (subst_vars; simp only [List.length_append, List.length_cons, List.length_nil]; rw [sizeLine_eq]; omega) | (subst_vars; simp only [List.length_append, List.length_cons, List.length_nil]; (try rw [sizeLine_eq]); decide) | exact ⟨terms_ok hp ‹_›, hp.2.tm⟩ | (subst_vars; exact ⟨terms_ok hp ‹_›, hp.2.tm⟩) | (subst_vars; simp; done)) rfl)))))))))))))))))))))
def isL (_ : RowT) (_ : RT) : Bool := true
theorem m_is_eq (f : RowT) (r : RT) (hp : IsRow f r) : m_is f r = .ret (.v (.bl (isL f r))) := by
  have k := hp.2
  have t := termsAre_refl k.tm
  have hs : saysL f r = true := rfl
  have e5 : eqD (D.lst (List.map D.bl (([R_isi_Let f, R_isi_Deed f, R_isi_Draw f, R_isi_Late f] : List Bool) ++ ([R_isi_Take f, R_isi_Need f] : List Bool)))) (D.lst (List.map D.bl (List.map (fun y5 : List Nat => decide (r.1 = y5)) ([[108, 101, 116], [100, 101, 101, 100], [100, 114, 97, 119], [108, 97, 116, 101], [116, 97, 107, 101], [110, 101, 101, 100]] : List (List Nat))))) = true := by
    cases isrow_case hp <;> exact eqD_refl (n := 8) (eqk_bls _)
  have e6 : R_isi_Row f = true := by cases f <;> rfl
  have e7 : ((!(decide (r.1 = [110, 101, 101, 100]))) && (!(decide (R_name f = r.2.1)))) = false := by cases isrow_case hp <;> simp [R_name]
  have e8 : ((decide (r.1 = [116, 97, 107, 101])) && (!(decide (R_word f = r.2.2.2.1)))) = false := by cases isrow_case hp <;> simp [R_word]
  have e9 : (if inSs r.1 ([[100, 114, 97, 119], [108, 97, 116, 101], [116, 97, 107, 101]] : List (List Nat)) = true then decide (R_address f = r.2.2.1) else termsAreL (R_terms f) r.2.2.2.2) = true := by
    cases isrow_case hp <;> first | exact t | exact decide_eq_true rfl
  unfold m_is
  simp only [bnd, e5, e6, hs, Bool.not_true, Bool.false_or, Bool.or_self, Bool.true_and, Bool.false_eq_true, if_false, e7, e8]
  cases h : inSs r.1 ([[100, 114, 97, 119], [108, 97, 116, 101], [116, 97, 107, 101]] : List (List Nat)) with
  | true =>
    rw [h] at e9
    rw [if_pos rfl] at e9 ⊢
    rw [e9]
    rfl
  | false =>
    rw [h] at e9
    rw [if_neg Bool.false_ne_true] at e9 ⊢
    rw [e9]
    rfl
theorem ltr_chr {l : List Nat} (h : ∀ x ∈ l, x ∈ LETTERS) : chrOk l = true := by
  unfold chrOk
  rw [List.all_eq_true]
  intro c hc
  have := ltr_lt (h c hc)
  exact decide_eq_true (by omega)
theorem addr_chr (c : Int) : chrOk (addressL c) = true := by
  show chrOk (joinS [46] (addrNs c)) = true
  unfold chrOk
  rw [List.all_eq_true]
  intro x hx
  rw [joinS_eq] at hx
  have mem : ∀ (ls : List (List Nat)), x ∈ TL.joinL [46] ls → x = 46 ∨ ∃ l ∈ ls, x ∈ l := by
    intro ls
    induction ls with
    | nil => intro h; cases h
    | cons p r ih =>
      intro h
      cases r with
      | nil => exact .inr ⟨p, by simp, h⟩
      | cons q r =>
        have h' : x ∈ p ++ ([46] ++ TL.joinL [46] (q :: r)) := h
        rw [List.mem_append, List.mem_append, List.mem_singleton] at h'
        rcases h' with h' | h' | h'
        · exact .inr ⟨p, by simp, h'⟩
        · exact .inl h'
        · rcases ih h' with e | ⟨l, h1, h2⟩
          · exact .inl e
          · exact .inr ⟨l, List.mem_cons_of_mem _ h1, h2⟩
  rcases mem _ hx with e | ⟨l, h1, h2⟩
  · exact decide_eq_true (by omega)
  · obtain ⟨y, _, rfl⟩ := List.mem_map.mp h1
    have := ltr_lt ((labelL_ok _).2.2 x h2)
    exact decide_eq_true (by omega)
theorem rowL_ok (c c2 : Int) : RowTOk (rowL c (labelL c2)) := by
  have q := pickL_lt c 10 (m := 6) (by decide)
  have l2 := labelL_ok c2
  have l3 := labelL_ok (subL c 35)
  have al := (addr_n (subL c 31)).2.2
  have al' : (addressL (subL c 31)).length ≤ 27 := al
  refine ⟨ix_mem (xs := SORTS) [] (by show -(6 : Int) ≤ _ ∧ _ < (6 : Int); omega), ?_, ?_, ?_, ?_, fun h => ?_, ?_, ?_, ?_⟩
  · unfold rowL
    dsimp only
    split
    · exact Nat.zero_le _
    · omega
  · show (addressL (subL c 31)).length ≤ 100
    omega
  · show (labelL (subL c 35)).length ≤ 100
    omega
  · unfold rowL
    dsimp only
    split
    · exact deedT_ok (termsL_ok c)
    · exact termsL_ok c
  · unfold rowL at h ⊢
    dsimp only at h ⊢
    rw [h]
    rfl
  · unfold rowL
    dsimp only
    split
    · rfl
    · exact ltr_chr l2.2.2
  · exact addr_chr _
  · exact ltr_chr l3.2.2
theorem made_ok (c c2 : Int) : IsRow (madeL (rowL c (labelL c2)) (rowL c (labelL c2)).2.2.2.2) (rowL c (labelL c2)) := ⟨rfl, rowL_ok c c2⟩
abbrev Rows (s : List (RowT × RT)) : Prop := ∀ p ∈ s, IsRow p.1 p.2
theorem rows_add {s : List (RowT × RT)} (h : Rows s) (c c2 : Int) : Rows (s ++ [(madeL (rowL c (labelL c2)) (rowL c (labelL c2)).2.2.2.2, rowL c (labelL c2))]) := by
  intro p hp
  rcases List.mem_append.mp hp with e | e
  · exact h p e
  · rw [List.mem_singleton.mp e]
    exact made_ok c c2
theorem loop_ind {S Y T : Type} {step : S → Y → Ctl S S} (P : S → Prop) (h : ∀ s y s2, P s → step s y = .go s2 → P s2) (hb : ∀ s y s2, step s y ≠ .brk s2) : ∀ (ys : List Y) (s s2 : S), P s → (loop step s ys : Ctl S T) = .go s2 → P s2
  | [], s, s2, hp, e => by
    injection e with e
    rw [← e]
    exact hp
  | y :: ys, s, s2, hp, e => by
    unfold loop at e
    cases q : step s y with
    | go s3 =>
      rw [q] at e
      exact loop_ind P h hb ys s3 s2 (h s y s3 hp q) e
    | brk s3 => exact absurd q (hb s y s3)
    | ret r =>
      rw [q] at e
      cases e
theorem loop_bind_inv {S S2 Y T : Type} (P : S → Prop) {step : S → Y → Ctl S S} (h : ∀ s y, P s → ∃ s2, step s y = .go s2 ∧ P s2) {k : S → Ctl S2 T} {r : Ctl S2 T} (hk : ∀ s, k s = r) : ∀ (ys : List Y) (s : S), P s → Ctl.bind (loop step s ys) k = r
  | [], s, _ => hk s
  | y :: ys, s, hs => by
    obtain ⟨s2, e, h2⟩ := h s y hs
    have ih := loop_bind_inv P h hk ys s2 h2
    unfold loop
    rw [e]
    exact ih
theorem go_of_up {S T : Type} {b : Bool} {k1 : Ctl Empty T} {k2 : Ctl S T} {r : Res} {s : S} (hk : k1 = .ret r) (e : (if b = true then k1.up else k2) = .go s) : k2 = .go s := by
  subst hk
  cases b with
  | true => cases e
  | false => exact e
theorem rows_nil : Rows [] := fun _ h => nomatch h
theorem rows_in {s : List (RowT × RT)} (h : Rows s) {c c2 : Int} {i : Nat} {a b : Option Int} {y : RowT × RT} (hi : (cutL (s ++ [(madeL (rowL c (labelL c2)) (rowL c (labelL c2)).2.2.2.2, rowL c (labelL c2))]) a b)[i]? = some y) : IsRow y.1 y.2 :=
  rows_add h c c2 y (cutL_sub (List.mem_of_getElem? hi))
theorem cutL_one {α : Type} (xs : List α) : (cutL xs none (some 1)).length ≤ 1 := by
  unfold cutL
  rw [List.length_take]
  have q := HT.sIx_nat xs.length xs.length 1
  have q' : HT.sIx xs.length xs.length (some 1) = min 1 xs.length := q
  rw [q']
  omega
theorem bind_const {S S2 T : Type} {c : Ctl S T} {v s2 : S2} (e : (Ctl.bind c fun _ => (Ctl.go v : Ctl S2 T)) = .go s2) : v = s2 := by
  cases c with
  | go s =>
    injection e
  | brk b => cases e
  | ret r => cases e
theorem loop_nb {S Y T : Type} {step : S → Y → Ctl S S} : ∀ (ys : List Y) (s : S) (b : T), (loop step s ys : Ctl S T) ≠ .brk b
  | [], s, b, e => by cases e
  | y :: ys, s, b, e => by
    unfold loop at e
    cases q : step s y with
    | go s3 =>
      rw [q] at e
      exact loop_nb ys s3 b e
    | brk s3 =>
      rw [q] at e
      cases e
    | ret r =>
      rw [q] at e
      cases e
theorem up_nb {S T : Type} {b : Bool} {k1 : Ctl Empty T} {k2 : Ctl S T} {r : Res} {t : T} (hk : k1 = .ret r) (h : k2 ≠ .brk t) : (if b = true then k1.up else k2) ≠ .brk t := by
  subst hk
  cases b with
  | true => exact fun e => nomatch e
  | false => exact h
theorem bind_nb {S S2 T : Type} {c : Ctl S T} {v : S2} {t : T} (h : ∀ b, c ≠ .brk b) : (Ctl.bind c fun _ => (Ctl.go v : Ctl S2 T)) ≠ .brk t := by
  cases c with
  | go s => exact fun e => nomatch e
  | brk b => exact absurd rfl (h b)
  | ret r => exact fun e => nomatch e
abbrev sp_is (K : PySem.W.Frag) : Sp := spF K (A := RowT × ((List Nat) × (List Nat) × (List Nat) × (List Nat) × (List (Int × (List Nat) × D)))) (fun a => [(encRow a.1), (D.tup [(D.str a.2.1), (D.str a.2.2.1), (D.str a.2.2.2.1), (D.str a.2.2.2.2.1), (D.lst (List.map (fun z : (Int × (List Nat) × D) => (D.tup [(D.int z.1), (D.str z.2.1), z.2.2])) a.2.2.2.2.2))])]) (fun a => IsRow a.1 a.2) (fun a => .v (D.bl (isL a.1 a.2)))
theorem ok_is {P : Program} {w : World} {K : PySem.W.Frag} {mg : Str → Option Value} {base : Heap} {f : Addr} {fd : FuncData} (F : Fun K "_law_is" "_law_is" s_law_is f fd) (m_isinstance : mg "isinstance" = none) (m_str : mg "str" = none) (kn_says : Kn P w K mg base "_law_says" 4 (sp_says K)) (kn_terms_are : Kn P w K mg base "_law_terms_are" 3 (sp_terms_are K)) (fa_Deed_name : FldA K "Deed" "name") (fa_Deed_terms : FldA K "Deed" "terms") (fa_Draw_address : FldA K "Draw" "address") (fa_Draw_name : FldA K "Draw" "name") (fa_Late_address : FldA K "Late" "address") (fa_Late_name : FldA K "Late" "name") (fa_Let_name : FldA K "Let" "name") (fa_Let_terms : FldA K "Let" "terms") (fa_Need_terms : FldA K "Need" "terms") (fa_Take_address : FldA K "Take" "address") (fa_Take_name : FldA K "Take" "name") (fa_Take_word : FldA K "Take" "word") (isa_Deed_Deed : IsA K mg "Deed" "Deed" true) (isa_Deed_Draw : IsA K mg "Deed" "Draw" false) (isa_Deed_Late : IsA K mg "Deed" "Late" false) (isa_Deed_Let : IsA K mg "Deed" "Let" false) (isa_Deed_Need : IsA K mg "Deed" "Need" false) (isa_Deed_Row : IsA K mg "Deed" "Row" true) (isa_Deed_Take : IsA K mg "Deed" "Take" false) (isa_Draw_Deed : IsA K mg "Draw" "Deed" false) (isa_Draw_Draw : IsA K mg "Draw" "Draw" true) (isa_Draw_Late : IsA K mg "Draw" "Late" false) (isa_Draw_Let : IsA K mg "Draw" "Let" false) (isa_Draw_Need : IsA K mg "Draw" "Need" false) (isa_Draw_Row : IsA K mg "Draw" "Row" true) (isa_Draw_Take : IsA K mg "Draw" "Take" false) (isa_Late_Deed : IsA K mg "Late" "Deed" false) (isa_Late_Draw : IsA K mg "Late" "Draw" false) (isa_Late_Late : IsA K mg "Late" "Late" true) (isa_Late_Let : IsA K mg "Late" "Let" false) (isa_Late_Need : IsA K mg "Late" "Need" false) (isa_Late_Row : IsA K mg "Late" "Row" true) (isa_Late_Take : IsA K mg "Late" "Take" false) (isa_Let_Deed : IsA K mg "Let" "Deed" false) (isa_Let_Draw : IsA K mg "Let" "Draw" false) (isa_Let_Late : IsA K mg "Let" "Late" false) (isa_Let_Let : IsA K mg "Let" "Let" true) (isa_Let_Need : IsA K mg "Let" "Need" false) (isa_Let_Row : IsA K mg "Let" "Row" true) (isa_Let_Take : IsA K mg "Let" "Take" false) (isa_Need_Deed : IsA K mg "Need" "Deed" false) (isa_Need_Draw : IsA K mg "Need" "Draw" false) (isa_Need_Late : IsA K mg "Need" "Late" false) (isa_Need_Let : IsA K mg "Need" "Let" false) (isa_Need_Need : IsA K mg "Need" "Need" true) (isa_Need_Row : IsA K mg "Need" "Row" true) (isa_Need_Take : IsA K mg "Need" "Take" false) (isa_Take_Deed : IsA K mg "Take" "Deed" false) (isa_Take_Draw : IsA K mg "Take" "Draw" false) (isa_Take_Late : IsA K mg "Take" "Late" false) (isa_Take_Let : IsA K mg "Take" "Let" false) (isa_Take_Need : IsA K mg "Take" "Need" false) (isa_Take_Row : IsA K mg "Take" "Row" true) (isa_Take_Take : IsA K mg "Take" "Take" true) : FnOk P w K mg base (L2.CX P w) 5 f fd ["_law_found", "_law_row_here"] (sp_is K) := by
  refine def_ok F sc_law_is (fun _ => rfl) (fun a hp X E e1 e2 e3 e4 e5 hX => ?_)
  subst e1 e2 e3 e4 e5
  have h := bd_is X E hX m_isinstance m_str kn_says kn_terms_are fa_Deed_name fa_Deed_terms fa_Draw_address fa_Draw_name fa_Late_address fa_Late_name fa_Let_name fa_Let_terms fa_Need_terms fa_Take_address fa_Take_name fa_Take_word isa_Deed_Deed isa_Deed_Draw isa_Deed_Late isa_Deed_Let isa_Deed_Need isa_Deed_Row isa_Deed_Take isa_Draw_Deed isa_Draw_Draw isa_Draw_Late isa_Draw_Let isa_Draw_Need isa_Draw_Row isa_Draw_Take isa_Late_Deed isa_Late_Draw isa_Late_Late isa_Late_Let isa_Late_Need isa_Late_Row isa_Late_Take isa_Let_Deed isa_Let_Draw isa_Let_Late isa_Let_Let isa_Let_Need isa_Let_Row isa_Let_Take isa_Need_Deed isa_Need_Draw isa_Need_Late isa_Need_Let isa_Need_Need isa_Need_Row isa_Need_Take isa_Take_Deed isa_Take_Draw isa_Take_Late isa_Take_Let isa_Take_Need isa_Take_Row isa_Take_Take a.1 a.2 hp
  rw [m_is_eq a.1 a.2 hp] at h
  exact h
abbrev s_law : Stmt := top 31
abbrev nm_law : List Str := ["_law_script", "_law_bare", "_law_ahead", "_law_k", "_law_cell_here", "_law_row_here", "_law_handed", "_law_found", "_law_one", "_law_other"]
theorem sc_law : FnScope nm_law ["_law_script"] (defScope s_law) := ⟨rfl, rfl, rfl, by decide +kernel, rfl, by decide +kernel, by decide +kernel⟩
theorem lk_law_Row : (defScope s_law).names.lookup ("Row" : Str) = some .globalImplicit := by decide +kernel
theorem lk_law_all : (defScope s_law).names.lookup ("all" : Str) = some .globalImplicit := by decide +kernel
theorem lk_law_law_ahead : (defScope s_law).names.lookup ("_law_ahead" : Str) = some .local := by decide +kernel
theorem lk_law_law_bare : (defScope s_law).names.lookup ("_law_bare" : Str) = some .local := by decide +kernel
theorem lk_law_law_cell : (defScope s_law).names.lookup ("_law_cell" : Str) = some .globalImplicit := by decide +kernel
theorem lk_law_law_cell_here : (defScope s_law).names.lookup ("_law_cell_here" : Str) = some .local := by decide +kernel
theorem lk_law_law_found : (defScope s_law).names.lookup ("_law_found" : Str) = some .local := by decide +kernel
theorem lk_law_law_handed : (defScope s_law).names.lookup ("_law_handed" : Str) = some .local := by decide +kernel
theorem lk_law_law_is : (defScope s_law).names.lookup ("_law_is" : Str) = some .globalImplicit := by decide +kernel
theorem lk_law_law_k : (defScope s_law).names.lookup ("_law_k" : Str) = some .local := by decide +kernel
theorem lk_law_law_label : (defScope s_law).names.lookup ("_law_label" : Str) = some .globalImplicit := by decide +kernel
theorem lk_law_law_made : (defScope s_law).names.lookup ("_law_made" : Str) = some .globalImplicit := by decide +kernel
theorem lk_law_law_one : (defScope s_law).names.lookup ("_law_one" : Str) = some .local := by decide +kernel
theorem lk_law_law_other : (defScope s_law).names.lookup ("_law_other" : Str) = some .local := by decide +kernel
theorem lk_law_law_row : (defScope s_law).names.lookup ("_law_row" : Str) = some .globalImplicit := by decide +kernel
theorem lk_law_law_row_here : (defScope s_law).names.lookup ("_law_row_here" : Str) = some .local := by decide +kernel
theorem lk_law_law_script : (defScope s_law).names.lookup ("_law_script" : Str) = some .local := by decide +kernel
theorem lk_law_law_sub : (defScope s_law).names.lookup ("_law_sub" : Str) = some .globalImplicit := by decide +kernel
theorem lk_law_len : (defScope s_law).names.lookup ("len" : Str) = some .globalImplicit := by decide +kernel
theorem lk_law_list : (defScope s_law).names.lookup ("list" : Str) = some .globalImplicit := by decide +kernel
theorem lk_law_max : (defScope s_law).names.lookup ("max" : Str) = some .globalImplicit := by decide +kernel
theorem lk_law_min : (defScope s_law).names.lookup ("min" : Str) = some .globalImplicit := by decide +kernel
theorem lk_law_range : (defScope s_law).names.lookup ("range" : Str) = some .globalImplicit := by decide +kernel
def m_law (a0 : (List Int)) : Ctl Unit Empty := bnd (() : Unit) fun v1 => bnd (([] : List (RowT × ((List Nat) × (List Nat) × (List Nat) × (List Nat) × (List (Int × (List Nat) × D))))) : (List (RowT × ((List Nat) × (List Nat) × (List Nat) × (List Nat) × (List (Int × (List Nat) × D)))))) fun v2 => Ctl.bind (S := (List (RowT × ((List Nat) × (List Nat) × (List Nat) × (List Nat) × (List (Int × (List Nat) × D)))))) (loop (Y := Int) (fun (s3 : (List (RowT × ((List Nat) × (List Nat) × (List Nat) × (List Nat) × (List (Int × (List Nat) × D)))))) (y4 : Int) => bnd ((cellL a0 y4) : Int) fun v8 => bnd ((rowL v8 (labelL (subL v8 (36 : Int)))) : ((List Nat) × (List Nat) × (List Nat) × (List Nat) × (List (Int × (List Nat) × D)))) fun v9 => bnd (v9.2.2.2.2 : (List (Int × (List Nat) × D))) fun v10 => bnd ((madeL v9 v10) : RowT) fun v11 => if (!(eqD (D.lst (List.map (fun z : (Int × (List Nat) × D) => (D.tup [(D.int z.1), (D.str z.2.1), z.2.2])) v10)) (D.lst (List.map (fun z : (Int × (List Nat) × D) => (D.tup [(D.int z.1), (D.str z.2.1), z.2.2])) v9.2.2.2.2)))) = true then Ctl.up (.ret (.v (D.bl false))) else bnd (s3 ++ [(v11, v9)] : (List (RowT × ((List Nat) × (List Nat) × (List Nat) × (List Nat) × (List (Int × (List Nat) × D)))))) fun v13 => Ctl.bind (S := Unit) (loop (Y := (RowT × ((List Nat) × (List Nat) × (List Nat) × (List Nat) × (List (Int × (List Nat) × D))))) (fun (s14 : Unit) (y15 : (RowT × ((List Nat) × (List Nat) × (List Nat) × (List Nat) × (List (Int × (List Nat) × D))))) => if (!(isL y15.1 y15.2)) = true then Ctl.up (.ret (.v (D.bl false))) else .go ()) () (cutL v13 (some (-(2 : Int))) none)) fun s20 => .go v13) v2 (rints 0 ((if (if (30 : Int) < ((a0).length : Int) then (30 : Int) else ((a0).length : Int)) > (1 : Int) then (if (30 : Int) < ((a0).length : Int) then (30 : Int) else ((a0).length : Int)) else (1 : Int))).toNat)) fun s21 => if ((!(decide ((bindsRow v1) = ([] : List Nat)))) || ((!(eqD (D.lst (List.map D.str (askedRow v1))) (D.lst []))) || (!(decide ((saidRow v1) = ([] : List Nat)))))) = true then Ctl.up (.ret (.v (D.bl false))) else .ret (.v (D.bl ((eqD (D.lst (List.map D.str (askedRow v1))) (D.lst [])) && ((eqD (D.lst (List.map D.str (askedRow ()))) (D.lst [])) && (((List.map (fun y25 : (RowT × ((List Nat) × (List Nat) × (List Nat) × (List Nat) × (List (Int × (List Nat) × D)))) => (isL y25.1 y25.2)) (cutL s21 none (some (1 : Int))))).all id)))))
theorem bd_law (X : Cx) (E : XK) (hX : XOk 6 nm_law (defScope s_law) X E) (m_all : X.mg "all" = none) (m_len : X.mg "len" = none) (m_list : X.mg "list" = none) (m_max : X.mg "max" = none) (m_min : X.mg "min" = none) (m_range : X.mg "range" = none) (kn_Row_asked : MethX X "Row" "asked" 1 (sp_Row_asked X.K)) (kn_Row_binds : MethX X "Row" "binds" 1 (sp_Row_binds X.K)) (kn_Row_said : MethX X "Row" "said" 3 (sp_Row_said X.K)) (kn_cell : KnX X "_law_cell" 1 (sp_cell X.K)) (kn_is : KnX X "_law_is" 5 (sp_is X.K)) (kn_label : KnX X "_law_label" 3 (sp_label X.K)) (kn_made : KnX X "_law_made" 3 (sp_made X.K)) (kn_row : KnX X "_law_row" 6 (sp_row X.K)) (kn_sub : KnX X "_law_sub" 1 (sp_sub X.K)) (ba_Row : Bare X.K X.mg "Row") (a0 : (List Int)) (hp : a0.length ≤ 63) : BK X E ([.d (D.scr a0), .un, .un, .un, .un, .un, .un, .un, .un, .un] : List B) (defBody s_law) (fun s : Unit => List.replicate 10 B.un) (fun s : Empty => nomatch s) (m_law a0) := by
  unfold m_law
  exact (b_set 1 (fun z : Unit => (D.ins "Row" [])) hX rfl (loc_l lk_law_law_bare) (ed_bareX ba_Row (hX.gl lk_law_Row)) (fun v1 hv1 => (show BK X E ([.d (D.scr a0), .d (D.ins "Row" []), .un, .un, .un, .un, .un, .un, .un, .un] : List B) _ _ _ _ from (b_setO 2 (fun z : (List (RowT × ((List Nat) × (List Nat) × (List Nat) × (List Nat) × (List (Int × (List Nat) × D))))) => OO.lst (List.map (fun z : (RowT × ((List Nat) × (List Nat) × (List Nat) × (List Nat) × (List (Int × (List Nat) × D)))) => (D.tup [(encRow z.1), (D.tup [(D.str z.2.1), (D.str z.2.2.1), (D.str z.2.2.2.1), (D.str z.2.2.2.2.1), (D.lst (List.map (fun z : (Int × (List Nat) × D) => (D.tup [(D.int z.1), (D.str z.2.1), z.2.2])) z.2.2.2.2.2))])])) z)) hX rfl (loc_l lk_law_law_ahead) (eo_lst ea_nil (by show 0 ≤ sizeLine; decide)) (fun v2 hv2 => (show BK X E ([.d (D.scr a0), .d (D.ins "Row" []), .own (.lst (List.map (fun z : (RowT × ((List Nat) × (List Nat) × (List Nat) × (List Nat) × (List (Int × (List Nat) × D)))) => (D.tup [(encRow z.1), (D.tup [(D.str z.2.1), (D.str z.2.2.1), (D.str z.2.2.2.1), (D.str z.2.2.2.2.1), (D.lst (List.map (fun z : (Int × (List Nat) × D) => (D.tup [(D.int z.1), (D.str z.2.1), z.2.2])) z.2.2.2.2.2))])])) v2)), .un, .un, .un, .un, .un, .un, .un] : List B) _ _ _ _ from (b_for (Γl := (fun s3 : (List (RowT × ((List Nat) × (List Nat) × (List Nat) × (List Nat) × (List (Int × (List Nat) × D))))) => ([.d (D.scr a0), .d (D.ins "Row" []), .own (.lst (List.map (fun z : (RowT × ((List Nat) × (List Nat) × (List Nat) × (List Nat) × (List (Int × (List Nat) × D)))) => (D.tup [(encRow z.1), (D.tup [(D.str z.2.1), (D.str z.2.2.1), (D.str z.2.2.2.1), (D.str z.2.2.2.2.1), (D.lst (List.map (fun z : (Int × (List Nat) × D) => (D.tup [(D.int z.1), (D.str z.2.1), z.2.2])) z.2.2.2.2.2))])])) s3)), .un, .un, .un, .un, .un, .un, .un] : List B))) (g := (gName 3)) (js := [3]) (fun (i : Nat) (s : List (RowT × RT)) => s.length = i ∧ Rows s) D.int (fun (s3 : (List (RowT × ((List Nat) × (List Nat) × (List Nat) × (List Nat) × (List (Int × (List Nat) × D)))))) (y4 : Int) => bnd ((cellL a0 y4) : Int) fun v8 => bnd ((rowL v8 (labelL (subL v8 (36 : Int)))) : ((List Nat) × (List Nat) × (List Nat) × (List Nat) × (List (Int × (List Nat) × D)))) fun v9 => bnd (v9.2.2.2.2 : (List (Int × (List Nat) × D))) fun v10 => bnd ((madeL v9 v10) : RowT) fun v11 => if (!(eqD (D.lst (List.map (fun z : (Int × (List Nat) × D) => (D.tup [(D.int z.1), (D.str z.2.1), z.2.2])) v10)) (D.lst (List.map (fun z : (Int × (List Nat) × D) => (D.tup [(D.int z.1), (D.str z.2.1), z.2.2])) v9.2.2.2.2)))) = true then Ctl.up (.ret (.v (D.bl false))) else bnd (s3 ++ [(v11, v9)] : (List (RowT × ((List Nat) × (List Nat) × (List Nat) × (List Nat) × (List (Int × (List Nat) × D)))))) fun v13 => Ctl.bind (S := Unit) (loop (Y := (RowT × ((List Nat) × (List Nat) × (List Nat) × (List Nat) × (List (Int × (List Nat) × D))))) (fun (s14 : Unit) (y15 : (RowT × ((List Nat) × (List Nat) × (List Nat) × (List Nat) × (List (Int × (List Nat) × D))))) => if (!(isL y15.1 y15.2)) = true then Ctl.up (.ret (.v (D.bl false))) else .go ()) () (cutL v13 (some (-(2 : Int))) none)) fun s20 => .go v13) v2 (rints 0 ((if (if (30 : Int) < ((a0).length : Int) then (30 : Int) else ((a0).length : Int)) > (1 : Int) then (if (30 : Int) < ((a0).length : Int) then (30 : Int) else ((a0).length : Int)) else (1 : Int))).toNat) (fun (s3 : (List (RowT × ((List Nat) × (List Nat) × (List Nat) × (List Nat) × (List (Int × (List Nat) × D)))))) (y4 : Int) => ([.d (D.scr a0), .d (D.ins "Row" []), .own (.lst (List.map (fun z : (RowT × ((List Nat) × (List Nat) × (List Nat) × (List Nat) × (List (Int × (List Nat) × D)))) => (D.tup [(encRow z.1), (D.tup [(D.str z.2.1), (D.str z.2.2.1), (D.str z.2.2.2.1), (D.str z.2.2.2.2.1), (D.lst (List.map (fun z : (Int × (List Nat) × D) => (D.tup [(D.int z.1), (D.str z.2.1), z.2.2])) z.2.2.2.2.2))])])) s3)), .d (D.int y4), .un, .un, .un, .un, .un, .un] : List B)) hX (.keep (.keep (.keep (.keep (.keep (.keep (.keep (.keep (.keep (.keep .nil)))))))))) (by subst_vars; exact ⟨rfl, fun _ h => nomatch h⟩) (it_range1 (hX.gl lk_law_range) m_range (ed_max2 hX.calm (hX.gl lk_law_max) m_max ed_int (ed_min2 hX.calm (hX.gl lk_law_min) m_min (ed_lenScr (hX.gl lk_law_len) m_len (ed_var 0 (hX.nm rfl) (hX.vs (vis_l lk_law_law_script)) rfl)) ed_int)) (by first | decide | omega | (unfold CMul; omega) | (dsimp only; omega) | (rw [sizeLine_eq]; omega) | (split <;> split <;> omega) | (subst_vars; first | exact rowL_ok _ _ | exact made_ok _ _ | exact rows_in (‹_ ∧ Rows _›).2 «hi» | (show 0 < sizeLine; rw [sizeLine_eq]; decide) | (have q := (rowL_ok (cellL a0 «yl») (subL (cellL a0 «yl») 36)).tm.few; rw [sizeLine_eq]; omega) | exact Nat.lt_of_le_of_lt (cutL_one _) (by rw [sizeLine_eq]; decide) | exact (loop_ind Rows (fun s y s2 hs e => (bind_const (go_of_up rfl e)) ▸ rows_add hs _ _) (fun s y s2 => up_nb rfl (bind_nb (loop_nb _ _))) _ _ _ rows_nil «hs») _ (cutL_sub «hy») | ((try have q0 := rints_mem (List.mem_of_getElem? «hi»)); first | (dsimp only; omega) | ((try simp only [List.length_map, List.length_cons, List.length_nil, rints_len, sizeLine_eq]); omega) | (have q1 := (List.getElem?_eq_some_iff.mp «hi»).1; rw [rints_len] at q1; have q2 := «hv».1; rw [sizeLine_eq]; (repeat' split at q1) <;> omega))))) (pg_name (i := 3) hX.nd (hX.nm rfl) (hX.lc (loc_l lk_law_law_k)) (.inl (hX.fn _))) (fun s3 y4 => (tg_name 3)) (fun i5 s3 y4 hi6 hv7 => (b_set 4 D.int hX rfl (loc_l lk_law_law_cell_here) (ed_call ((a0, y4) : (List Int) × Int) kn_cell (hX.room.mono (by decide)) (hX.gl lk_law_law_cell) (ea_cons (ed_var 0 (hX.nm rfl) (hX.vs (vis_l lk_law_law_script)) rfl) (ea_cons (ed_var 3 (hX.nm rfl) (hX.vs (vis_l lk_law_law_k)) rfl) ea_nil)) (by first | decide | omega | (unfold CMul; omega) | (dsimp only; omega) | (rw [sizeLine_eq]; omega) | (split <;> split <;> omega) | (subst_vars; first | exact rowL_ok _ _ | exact made_ok _ _ | exact rows_in (‹_ ∧ Rows _›).2 hi6 | (show 0 < sizeLine; rw [sizeLine_eq]; decide) | (have q := (rowL_ok (cellL a0 y4) (subL (cellL a0 y4) 36)).tm.few; rw [sizeLine_eq]; omega) | exact Nat.lt_of_le_of_lt (cutL_one _) (by rw [sizeLine_eq]; decide) | exact (loop_ind Rows (fun s y s2 hs e => (bind_const (go_of_up rfl e)) ▸ rows_add hs _ _) (fun s y s2 => up_nb rfl (bind_nb (loop_nb _ _))) _ _ _ rows_nil «hs») _ (cutL_sub «hy») | ((try have q0 := rints_mem (List.mem_of_getElem? hi6)); first | (dsimp only; omega) | ((try simp only [List.length_map, List.length_cons, List.length_nil, rints_len, sizeLine_eq]); omega) | (have q1 := (List.getElem?_eq_some_iff.mp hi6).1; rw [rints_len] at q1; have q2 := hv7.1; rw [sizeLine_eq]; (repeat' split at q1) <;> omega)))) rfl) (fun v8 hv8 => (show BK X E ([.d (D.scr a0), .d (D.ins "Row" []), .own (.lst (List.map (fun z : (RowT × ((List Nat) × (List Nat) × (List Nat) × (List Nat) × (List (Int × (List Nat) × D)))) => (D.tup [(encRow z.1), (D.tup [(D.str z.2.1), (D.str z.2.2.1), (D.str z.2.2.2.1), (D.str z.2.2.2.2.1), (D.lst (List.map (fun z : (Int × (List Nat) × D) => (D.tup [(D.int z.1), (D.str z.2.1), z.2.2])) z.2.2.2.2.2))])])) s3)), .d (D.int y4), .d (D.int v8), .un, .un, .un, .un, .un] : List B) _ _ _ _ from (b_set 5 (fun z : ((List Nat) × (List Nat) × (List Nat) × (List Nat) × (List (Int × (List Nat) × D))) => (D.tup [(D.str z.1), (D.str z.2.1), (D.str z.2.2.1), (D.str z.2.2.2.1), (D.lst (List.map (fun z : (Int × (List Nat) × D) => (D.tup [(D.int z.1), (D.str z.2.1), z.2.2])) z.2.2.2.2))])) hX rfl (loc_l lk_law_law_row_here) (ed_call ((v8, (labelL (subL v8 (36 : Int)))) : Int × (List Nat)) kn_row (hX.room.mono (by decide)) (hX.gl lk_law_law_row) (ea_cons (ed_var 4 (hX.nm rfl) (hX.vs (vis_l lk_law_law_cell_here)) rfl) (ea_cons (ed_call (subL v8 (36 : Int)) kn_label (hX.room.mono (by decide)) (hX.gl lk_law_law_label) (ea_cons (ed_call ((v8, (36 : Int)) : Int × Int) kn_sub (hX.room.mono (by decide)) (hX.gl lk_law_law_sub) (ea_cons (ed_var 4 (hX.nm rfl) (hX.vs (vis_l lk_law_law_cell_here)) rfl) (ea_cons ed_int ea_nil)) (by first | decide | omega | (unfold CMul; omega) | (dsimp only; omega) | (rw [sizeLine_eq]; omega) | (split <;> split <;> omega) | (subst_vars; first | exact rowL_ok _ _ | exact made_ok _ _ | exact rows_in (‹_ ∧ Rows _›).2 hi6 | (show 0 < sizeLine; rw [sizeLine_eq]; decide) | (have q := (rowL_ok (cellL a0 y4) (subL (cellL a0 y4) 36)).tm.few; rw [sizeLine_eq]; omega) | exact Nat.lt_of_le_of_lt (cutL_one _) (by rw [sizeLine_eq]; decide) | exact (loop_ind Rows (fun s y s2 hs e => (bind_const (go_of_up rfl e)) ▸ rows_add hs _ _) (fun s y s2 => up_nb rfl (bind_nb (loop_nb _ _))) _ _ _ rows_nil «hs») _ (cutL_sub «hy») | ((try have q0 := rints_mem (List.mem_of_getElem? hi6)); first | (dsimp only; omega) | ((try simp only [List.length_map, List.length_cons, List.length_nil, rints_len, sizeLine_eq]); omega) | (have q1 := (List.getElem?_eq_some_iff.mp hi6).1; rw [rints_len] at q1; have q2 := hv7.1; rw [sizeLine_eq]; (repeat' split at q1) <;> omega)))) rfl) ea_nil) trivial rfl) ea_nil)) trivial rfl) (fun v9 hv9 => (show BK X E ([.d (D.scr a0), .d (D.ins "Row" []), .own (.lst (List.map (fun z : (RowT × ((List Nat) × (List Nat) × (List Nat) × (List Nat) × (List (Int × (List Nat) × D)))) => (D.tup [(encRow z.1), (D.tup [(D.str z.2.1), (D.str z.2.2.1), (D.str z.2.2.2.1), (D.str z.2.2.2.2.1), (D.lst (List.map (fun z : (Int × (List Nat) × D) => (D.tup [(D.int z.1), (D.str z.2.1), z.2.2])) z.2.2.2.2.2))])])) s3)), .d (D.int y4), .d (D.int v8), .d (D.tup [(D.str v9.1), (D.str v9.2.1), (D.str v9.2.2.1), (D.str v9.2.2.2.1), (D.lst (List.map (fun z : (Int × (List Nat) × D) => (D.tup [(D.int z.1), (D.str z.2.1), z.2.2])) v9.2.2.2.2))]), .un, .un, .un, .un] : List B) _ _ _ _ from (b_setO 6 (fun z : (List (Int × (List Nat) × D)) => OO.lst (List.map (fun z : (Int × (List Nat) × D) => (D.tup [(D.int z.1), (D.str z.2.1), z.2.2])) z)) hX rfl (loc_l lk_law_law_handed) (eo_listL (hX.gl lk_law_list) m_list (EvD.el (ed_ixT (ed_var 5 (hX.nm rfl) (hX.vs (vis_l lk_law_law_row_here)) rfl) ed_int rfl))) (fun v10 hv10 => (show BK X E ([.d (D.scr a0), .d (D.ins "Row" []), .own (.lst (List.map (fun z : (RowT × ((List Nat) × (List Nat) × (List Nat) × (List Nat) × (List (Int × (List Nat) × D)))) => (D.tup [(encRow z.1), (D.tup [(D.str z.2.1), (D.str z.2.2.1), (D.str z.2.2.2.1), (D.str z.2.2.2.2.1), (D.lst (List.map (fun z : (Int × (List Nat) × D) => (D.tup [(D.int z.1), (D.str z.2.1), z.2.2])) z.2.2.2.2.2))])])) s3)), .d (D.int y4), .d (D.int v8), .d (D.tup [(D.str v9.1), (D.str v9.2.1), (D.str v9.2.2.1), (D.str v9.2.2.2.1), (D.lst (List.map (fun z : (Int × (List Nat) × D) => (D.tup [(D.int z.1), (D.str z.2.1), z.2.2])) v9.2.2.2.2))]), .own (.lst (List.map (fun z : (Int × (List Nat) × D) => (D.tup [(D.int z.1), (D.str z.2.1), z.2.2])) v10)), .un, .un, .un] : List B) _ _ _ _ from (b_set 7 encRow hX rfl (loc_l lk_law_law_found) (ed_callG ((v9, v10) : ((List Nat) × (List Nat) × (List Nat) × (List Nat) × (List (Int × (List Nat) × D))) × (List (Int × (List Nat) × D))) kn_made (hX.room.mono (by decide)) (hX.gl lk_law_law_made) (ea2_d (ed_var 5 (hX.nm rfl) (hX.vs (vis_l lk_law_law_row_here)) rfl) (ea2_l (el_own 6 (hX.nm rfl) (hX.vs (vis_l lk_law_law_handed)) rfl) ea2_nil)) trivial rfl) (fun v11 hv11 => (show BK X E ([.d (D.scr a0), .d (D.ins "Row" []), .own (.lst (List.map (fun z : (RowT × ((List Nat) × (List Nat) × (List Nat) × (List Nat) × (List (Int × (List Nat) × D)))) => (D.tup [(encRow z.1), (D.tup [(D.str z.2.1), (D.str z.2.2.1), (D.str z.2.2.2.1), (D.str z.2.2.2.2.1), (D.lst (List.map (fun z : (Int × (List Nat) × D) => (D.tup [(D.int z.1), (D.str z.2.1), z.2.2])) z.2.2.2.2.2))])])) s3)), .d (D.int y4), .d (D.int v8), .d (D.tup [(D.str v9.1), (D.str v9.2.1), (D.str v9.2.2.1), (D.str v9.2.2.2.1), (D.lst (List.map (fun z : (Int × (List Nat) × D) => (D.tup [(D.int z.1), (D.str z.2.1), z.2.2])) v9.2.2.2.2))]), .own (.lst (List.map (fun z : (Int × (List Nat) × D) => (D.tup [(D.int z.1), (D.str z.2.1), z.2.2])) v10)), .d (encRow v11), .un, .un] : List B) _ _ _ _ from (b_ifr (et_lend 6 rfl (show ET X ([.d (D.scr a0), .d (D.ins "Row" []), .own (.lst (List.map (fun z : (RowT × ((List Nat) × (List Nat) × (List Nat) × (List Nat) × (List (Int × (List Nat) × D)))) => (D.tup [(encRow z.1), (D.tup [(D.str z.2.1), (D.str z.2.2.1), (D.str z.2.2.2.1), (D.str z.2.2.2.2.1), (D.lst (List.map (fun z : (Int × (List Nat) × D) => (D.tup [(D.int z.1), (D.str z.2.1), z.2.2])) z.2.2.2.2.2))])])) s3)), .d (D.int y4), .d (D.int v8), .d (D.tup [(D.str v9.1), (D.str v9.2.1), (D.str v9.2.2.1), (D.str v9.2.2.2.1), (D.lst (List.map (fun z : (Int × (List Nat) × D) => (D.tup [(D.int z.1), (D.str z.2.1), z.2.2])) v9.2.2.2.2))]), .d (D.lst (List.map (fun z : (Int × (List Nat) × D) => (D.tup [(D.int z.1), (D.str z.2.1), z.2.2])) v10)), .d (encRow v11), .un, .un] : List B) _ _ from (et_cmp (od_neD 8 (room64 hX.room) (by subst_vars; first | exact (rowL_ok _ _).tm.eqk | decide | exact eqk_strs (by decide)) (by subst_vars; first | exact (rowL_ok _ _).tm.eqk | decide | exact eqk_strs (by decide)) (by decide)) (ed_var 6 (hX.nm rfl) (hX.vs (vis_l lk_law_law_handed)) rfl) (ed_ixT (ed_var 5 (hX.nm rfl) (hX.vs (vis_l lk_law_law_row_here)) rfl) ed_int rfl)))) (fun h12 => (b_ret ed_bl)) (fun h12 => (b_clear 6 (fun z : (Int × (List Nat) × D) => (D.tup [(D.int z.1), (D.str z.2.1), z.2.2])) hX rfl (vis_l lk_law_law_handed) rfl (by first | decide | omega | (unfold CMul; omega) | (dsimp only; omega) | (rw [sizeLine_eq]; omega) | (split <;> split <;> omega) | (subst_vars; first | exact rowL_ok _ _ | exact made_ok _ _ | exact rows_in (‹_ ∧ Rows _›).2 hi6 | (show 0 < sizeLine; rw [sizeLine_eq]; decide) | (have q := (rowL_ok (cellL a0 y4) (subL (cellL a0 y4) 36)).tm.few; rw [sizeLine_eq]; omega) | exact Nat.lt_of_le_of_lt (cutL_one _) (by rw [sizeLine_eq]; decide) | exact (loop_ind Rows (fun s y s2 hs e => (bind_const (go_of_up rfl e)) ▸ rows_add hs _ _) (fun s y s2 => up_nb rfl (bind_nb (loop_nb _ _))) _ _ _ rows_nil hs20) _ (cutL_sub «hy») | ((try have q0 := rints_mem (List.mem_of_getElem? hi6)); first | (dsimp only; omega) | ((try simp only [List.length_map, List.length_cons, List.length_nil, rints_len, sizeLine_eq]); omega) | (have q1 := (List.getElem?_eq_some_iff.mp hi6).1; rw [rints_len] at q1; have q2 := hv7.1; rw [sizeLine_eq]; (repeat' split at q1) <;> omega)))) (show BK X E ([.d (D.scr a0), .d (D.ins "Row" []), .own (.lst (List.map (fun z : (RowT × ((List Nat) × (List Nat) × (List Nat) × (List Nat) × (List (Int × (List Nat) × D)))) => (D.tup [(encRow z.1), (D.tup [(D.str z.2.1), (D.str z.2.2.1), (D.str z.2.2.2.1), (D.str z.2.2.2.2.1), (D.lst (List.map (fun z : (Int × (List Nat) × D) => (D.tup [(D.int z.1), (D.str z.2.1), z.2.2])) z.2.2.2.2.2))])])) s3)), .d (D.int y4), .d (D.int v8), .d (D.tup [(D.str v9.1), (D.str v9.2.1), (D.str v9.2.2.1), (D.str v9.2.2.2.1), (D.lst (List.map (fun z : (Int × (List Nat) × D) => (D.tup [(D.int z.1), (D.str z.2.1), z.2.2])) v9.2.2.2.2))]), .own (.lst (List.map (fun z : (Int × (List Nat) × D) => (D.tup [(D.int z.1), (D.str z.2.1), z.2.2])) ([] : (List (Int × (List Nat) × D))))), .d (encRow v11), .un, .un] : List B) _ _ _ _ from (b_app 2 (fun z : (RowT × ((List Nat) × (List Nat) × (List Nat) × (List Nat) × (List (Int × (List Nat) × D)))) => (D.tup [(encRow z.1), (D.tup [(D.str z.2.1), (D.str z.2.2.1), (D.str z.2.2.2.1), (D.str z.2.2.2.2.1), (D.lst (List.map (fun z : (Int × (List Nat) × D) => (D.tup [(D.int z.1), (D.str z.2.1), z.2.2])) z.2.2.2.2.2))])])) hX rfl (vis_l lk_law_law_ahead) rfl (ed_tup (ea_cons (ed_var 7 (hX.nm rfl) (hX.vs (vis_l lk_law_law_found)) rfl) (ea_cons (ed_var 5 (hX.nm rfl) (hX.vs (vis_l lk_law_law_row_here)) rfl) ea_nil)) (by show 2 ≤ sizeLine; decide)) (by first | decide | omega | (unfold CMul; omega) | (dsimp only; omega) | (rw [sizeLine_eq]; omega) | (split <;> split <;> omega) | (subst_vars; first | exact rowL_ok _ _ | exact made_ok _ _ | exact rows_in (‹_ ∧ Rows _›).2 hi6 | (show 0 < sizeLine; rw [sizeLine_eq]; decide) | (have q := (rowL_ok (cellL a0 y4) (subL (cellL a0 y4) 36)).tm.few; rw [sizeLine_eq]; omega) | exact Nat.lt_of_le_of_lt (cutL_one _) (by rw [sizeLine_eq]; decide) | exact (loop_ind Rows (fun s y s2 hs e => (bind_const (go_of_up rfl e)) ▸ rows_add hs _ _) (fun s y s2 => up_nb rfl (bind_nb (loop_nb _ _))) _ _ _ rows_nil hs20) _ (cutL_sub «hy») | ((try have q0 := rints_mem (List.mem_of_getElem? hi6)); first | (dsimp only; omega) | ((try simp only [List.length_map, List.length_cons, List.length_nil, rints_len, sizeLine_eq]); omega) | (have q1 := (List.getElem?_eq_some_iff.mp hi6).1; rw [rints_len] at q1; have q2 := hv7.1; rw [sizeLine_eq]; (repeat' split at q1) <;> omega)))) (fun v13 hv13 => (show BK X E ([.d (D.scr a0), .d (D.ins "Row" []), .own (.lst (List.map (fun z : (RowT × ((List Nat) × (List Nat) × (List Nat) × (List Nat) × (List (Int × (List Nat) × D)))) => (D.tup [(encRow z.1), (D.tup [(D.str z.2.1), (D.str z.2.2.1), (D.str z.2.2.2.1), (D.str z.2.2.2.2.1), (D.lst (List.map (fun z : (Int × (List Nat) × D) => (D.tup [(D.int z.1), (D.str z.2.1), z.2.2])) z.2.2.2.2.2))])])) v13)), .d (D.int y4), .d (D.int v8), .d (D.tup [(D.str v9.1), (D.str v9.2.1), (D.str v9.2.2.1), (D.str v9.2.2.2.1), (D.lst (List.map (fun z : (Int × (List Nat) × D) => (D.tup [(D.int z.1), (D.str z.2.1), z.2.2])) v9.2.2.2.2))]), .own (.lst (List.map (fun z : (Int × (List Nat) × D) => (D.tup [(D.int z.1), (D.str z.2.1), z.2.2])) ([] : (List (Int × (List Nat) × D))))), .d (encRow v11), .un, .un] : List B) _ _ _ _ from (b_for (Γl := (fun s14 : Unit => ([.d (D.scr a0), .d (D.ins "Row" []), .own (.lst (List.map (fun z : (RowT × ((List Nat) × (List Nat) × (List Nat) × (List Nat) × (List (Int × (List Nat) × D)))) => (D.tup [(encRow z.1), (D.tup [(D.str z.2.1), (D.str z.2.2.1), (D.str z.2.2.2.1), (D.str z.2.2.2.2.1), (D.lst (List.map (fun z : (Int × (List Nat) × D) => (D.tup [(D.int z.1), (D.str z.2.1), z.2.2])) z.2.2.2.2.2))])])) v13)), .d (D.int y4), .d (D.int v8), .d (D.tup [(D.str v9.1), (D.str v9.2.1), (D.str v9.2.2.1), (D.str v9.2.2.2.1), (D.lst (List.map (fun z : (Int × (List Nat) × D) => (D.tup [(D.int z.1), (D.str z.2.1), z.2.2])) v9.2.2.2.2))]), .own (.lst (List.map (fun z : (Int × (List Nat) × D) => (D.tup [(D.int z.1), (D.str z.2.1), z.2.2])) ([] : (List (Int × (List Nat) × D))))), .d (encRow v11), .un, .un] : List B))) (g := (gTup X.K 2 (gCons (gName 8) (gCons (gName 9) gNil)))) (js := [8, 9]) (fun _ _ => True) (fun z : (RowT × ((List Nat) × (List Nat) × (List Nat) × (List Nat) × (List (Int × (List Nat) × D)))) => (D.tup [(encRow z.1), (D.tup [(D.str z.2.1), (D.str z.2.2.1), (D.str z.2.2.2.1), (D.str z.2.2.2.2.1), (D.lst (List.map (fun z : (Int × (List Nat) × D) => (D.tup [(D.int z.1), (D.str z.2.1), z.2.2])) z.2.2.2.2.2))])])) (fun (s14 : Unit) (y15 : (RowT × ((List Nat) × (List Nat) × (List Nat) × (List Nat) × (List (Int × (List Nat) × D))))) => if (!(isL y15.1 y15.2)) = true then Ctl.up (.ret (.v (D.bl false))) else .go ()) () (cutL v13 (some (-(2 : Int))) none) (fun (s14 : Unit) (y15 : (RowT × ((List Nat) × (List Nat) × (List Nat) × (List Nat) × (List (Int × (List Nat) × D))))) => ([.d (D.scr a0), .d (D.ins "Row" []), .own (.lst (List.map (fun z : (RowT × ((List Nat) × (List Nat) × (List Nat) × (List Nat) × (List (Int × (List Nat) × D)))) => (D.tup [(encRow z.1), (D.tup [(D.str z.2.1), (D.str z.2.2.1), (D.str z.2.2.2.1), (D.str z.2.2.2.2.1), (D.lst (List.map (fun z : (Int × (List Nat) × D) => (D.tup [(D.int z.1), (D.str z.2.1), z.2.2])) z.2.2.2.2.2))])])) v13)), .d (D.int y4), .d (D.int v8), .d (D.tup [(D.str v9.1), (D.str v9.2.1), (D.str v9.2.2.1), (D.str v9.2.2.2.1), (D.lst (List.map (fun z : (Int × (List Nat) × D) => (D.tup [(D.int z.1), (D.str z.2.1), z.2.2])) v9.2.2.2.2))]), .own (.lst (List.map (fun z : (Int × (List Nat) × D) => (D.tup [(D.int z.1), (D.str z.2.1), z.2.2])) ([] : (List (Int × (List Nat) × D))))), .d (encRow v11), .d (encRow y15.1), .d (D.tup [(D.str y15.2.1), (D.str y15.2.2.1), (D.str y15.2.2.2.1), (D.str y15.2.2.2.2.1), (D.lst (List.map (fun z : (Int × (List Nat) × D) => (D.tup [(D.int z.1), (D.str z.2.1), z.2.2])) y15.2.2.2.2.2))])] : List B)) hX (.keep (.keep (.keep (.keep (.keep (.keep (.keep (.keep (.keep (.keep .nil)))))))))) trivial (it_lst (EvO.frz (eo_slM (el_own 2 (hX.nm rfl) (hX.vs (vis_l lk_law_law_ahead)) rfl) (ep_some (ed_neg ed_int)) ep_none))) (pg_tup hX.calm (pgs_cons (pg_name (i := 8) hX.nd (hX.nm rfl) (hX.lc (loc_l lk_law_law_one)) (.inl (hX.fn _))) (pgs_cons (pg_name (i := 9) hX.nd (hX.nm rfl) (hX.lc (loc_l lk_law_law_other)) (.inl (hX.fn _))) pgs_nil))) (fun s14 y15 => (tg_tup (tgs_cons 8 (tgs_cons 9 tgs_nil)) rfl)) (fun i16 s14 y15 hi17 hv18 => (b_ifr (et_not (et_val (ed_call ((y15.1, y15.2) : RowT × ((List Nat) × (List Nat) × (List Nat) × (List Nat) × (List (Int × (List Nat) × D)))) kn_is (hX.room.mono (by decide)) (hX.gl lk_law_law_is) (ea_cons (ed_var 8 (hX.nm rfl) (hX.vs (vis_l lk_law_law_one)) rfl) (ea_cons (ed_var 9 (hX.nm rfl) (hX.vs (vis_l lk_law_law_other)) rfl) ea_nil)) (by first | decide | omega | (unfold CMul; omega) | (dsimp only; omega) | (rw [sizeLine_eq]; omega) | (split <;> split <;> omega) | (subst_vars; first | exact rowL_ok _ _ | exact made_ok _ _ | exact rows_in (‹_ ∧ Rows _›).2 hi17 | (show 0 < sizeLine; rw [sizeLine_eq]; decide) | (have q := (rowL_ok (cellL a0 y15) (subL (cellL a0 y15) 36)).tm.few; rw [sizeLine_eq]; omega) | exact Nat.lt_of_le_of_lt (cutL_one _) (by rw [sizeLine_eq]; decide) | exact (loop_ind Rows (fun s y s2 hs e => (bind_const (go_of_up rfl e)) ▸ rows_add hs _ _) (fun s y s2 => up_nb rfl (bind_nb (loop_nb _ _))) _ _ _ rows_nil «hs») _ (cutL_sub «hy») | ((try have q0 := rints_mem (List.mem_of_getElem? hi17)); first | (dsimp only; omega) | ((try simp only [List.length_map, List.length_cons, List.length_nil, rints_len, sizeLine_eq]); omega) | (have q1 := (List.getElem?_eq_some_iff.mp hi17).1; rw [rints_len] at q1; have q2 := hv18.1; rw [sizeLine_eq]; (repeat' split at q1) <;> omega)))) rfl))) (fun h19 => (b_ret ed_bl)) (fun h19 => (b_nil (.keep (.keep (.keep (.keep (.keep (.keep (.keep (.keep (.drop (.drop .nil)))))))))))))) (fun _ _ _ _ _ _ _ => trivial) (fun s20 hs20 => (show BK X E ([.d (D.scr a0), .d (D.ins "Row" []), .own (.lst (List.map (fun z : (RowT × ((List Nat) × (List Nat) × (List Nat) × (List Nat) × (List (Int × (List Nat) × D)))) => (D.tup [(encRow z.1), (D.tup [(D.str z.2.1), (D.str z.2.2.1), (D.str z.2.2.2.1), (D.str z.2.2.2.2.1), (D.lst (List.map (fun z : (Int × (List Nat) × D) => (D.tup [(D.int z.1), (D.str z.2.1), z.2.2])) z.2.2.2.2.2))])])) v13)), .d (D.int y4), .d (D.int v8), .d (D.tup [(D.str v9.1), (D.str v9.2.1), (D.str v9.2.2.1), (D.str v9.2.2.2.1), (D.lst (List.map (fun z : (Int × (List Nat) × D) => (D.tup [(D.int z.1), (D.str z.2.1), z.2.2])) v9.2.2.2.2))]), .own (.lst (List.map (fun z : (Int × (List Nat) × D) => (D.tup [(D.int z.1), (D.str z.2.1), z.2.2])) ([] : (List (Int × (List Nat) × D))))), .d (encRow v11), .un, .un] : List B) _ _ _ _ from (b_nil (.keep (.keep (.keep (.drop (.drop (.drop (.drop (.drop (.keep (.keep .nil)))))))))))))))))))))))))))))))))) (fun i s y s2 hy hv e => by have q := bind_const (go_of_up rfl e); rw [← q]; exact ⟨by rw [List.length_append, hv.1]; rfl, rows_add hv.2 _ _⟩) (fun s21 hs21 => (show BK X E ([.d (D.scr a0), .d (D.ins "Row" []), .own (.lst (List.map (fun z : (RowT × ((List Nat) × (List Nat) × (List Nat) × (List Nat) × (List (Int × (List Nat) × D)))) => (D.tup [(encRow z.1), (D.tup [(D.str z.2.1), (D.str z.2.2.1), (D.str z.2.2.2.1), (D.str z.2.2.2.2.1), (D.lst (List.map (fun z : (Int × (List Nat) × D) => (D.tup [(D.int z.1), (D.str z.2.1), z.2.2])) z.2.2.2.2.2))])])) s21)), .un, .un, .un, .un, .un, .un, .un] : List B) _ _ _ _ from (b_ifr (et_w (ew_or (et_cmp (od_neS _ _) (ed_meth0 v1 kn_Row_binds (hX.room.mono (by decide)) (ed_var 1 (hX.nm rfl) (hX.vs (vis_l lk_law_law_bare)) rfl) rfl trivial rfl rfl) (ed_str [] (by decide +kernel))) (fun h23 => (ew_or (et_cmp (od_neD 8 (room64 hX.room) (by subst_vars; first | exact (rowL_ok _ _).tm.eqk | decide | exact eqk_strs (by decide)) (by subst_vars; first | exact (rowL_ok _ _).tm.eqk | decide | exact eqk_strs (by decide)) (by decide)) (EvO.frz (eo_meth0 v1 kn_Row_asked (hX.room.mono (by decide)) (ed_var 1 (hX.nm rfl) (hX.vs (vis_l lk_law_law_bare)) rfl) rfl trivial rfl rfl)) (EvO.frz (eo_lst ea_nil (by decide)))) (fun h22 => (ew_or1 (et_cmp (od_neS _ _) (ed_meth0 v1 kn_Row_said (hX.room.mono (by decide)) (ed_var 1 (hX.nm rfl) (hX.vs (vis_l lk_law_law_bare)) rfl) rfl trivial rfl rfl) (ed_str [] (by decide +kernel))))))))) (fun h24 => (b_ret ed_bl)) (fun h24 => (b_appX hX (eo_meth0 v1 kn_Row_asked (hX.room.mono (by decide)) (ed_var 1 (hX.nm rfl) (hX.vs (vis_l lk_law_law_bare)) rfl) rfl trivial rfl rfl) (ed_str [97] (by decide +kernel)) (by first | decide | omega | (unfold CMul; omega) | (dsimp only; omega) | (rw [sizeLine_eq]; omega) | (split <;> split <;> omega) | (subst_vars; first | exact rowL_ok _ _ | exact made_ok _ _ | exact rows_in (‹_ ∧ Rows _›).2 «hi» | (show 0 < sizeLine; rw [sizeLine_eq]; decide) | (have q := (rowL_ok (cellL a0 «yl») (subL (cellL a0 «yl») 36)).tm.few; rw [sizeLine_eq]; omega) | exact Nat.lt_of_le_of_lt (cutL_one _) (by rw [sizeLine_eq]; decide) | exact (loop_ind Rows (fun s y s2 hs e => (bind_const (go_of_up rfl e)) ▸ rows_add hs _ _) (fun s y s2 => up_nb rfl (bind_nb (loop_nb _ _))) _ _ _ rows_nil hs21) _ (cutL_sub «hy») | ((try have q0 := rints_mem (List.mem_of_getElem? «hi»)); first | (dsimp only; omega) | ((try simp only [List.length_map, List.length_cons, List.length_nil, rints_len, sizeLine_eq]); omega) | (have q1 := (List.getElem?_eq_some_iff.mp «hi»).1; rw [rints_len] at q1; have q2 := «hv».1; rw [sizeLine_eq]; (repeat' split at q1) <;> omega)))) (b_ret (ed_and (ed_cmp (od_eqD 8 (room64 hX.room) (by subst_vars; first | exact (rowL_ok _ _).tm.eqk | decide | exact eqk_strs (by decide)) (by subst_vars; first | exact (rowL_ok _ _).tm.eqk | decide | exact eqk_strs (by decide)) (by decide)) (EvO.frz (eo_meth0 v1 kn_Row_asked (hX.room.mono (by decide)) (ed_var 1 (hX.nm rfl) (hX.vs (vis_l lk_law_law_bare)) rfl) rfl trivial rfl rfl)) (EvO.frz (eo_lst ea_nil (by decide)))) (fun h28 => (ed_and (ed_cmp (od_eqD 8 (room64 hX.room) (by subst_vars; first | exact (rowL_ok _ _).tm.eqk | decide | exact eqk_strs (by decide)) (by subst_vars; first | exact (rowL_ok _ _).tm.eqk | decide | exact eqk_strs (by decide)) (by decide)) (EvO.frz (eo_meth0 () kn_Row_asked (hX.room.mono (by decide)) (ed_bareX ba_Row (hX.gl lk_law_Row)) rfl trivial rfl rfl)) (EvO.frz (eo_lst ea_nil (by decide)))) (fun h27 => (ed_one (ed_all hX.calm (hX.gl lk_law_all) m_all (EvO.el (eo_lc hX.calm hX.nd (lc_ok0 (Yt := (RowT × ((List Nat) × (List Nat) × (List Nat) × (List Nat) × (List (Int × (List Nat) × D))))) (τ := Bool) (encY := (fun z : (RowT × ((List Nat) × (List Nat) × (List Nat) × (List Nat) × (List (Int × (List Nat) × D)))) => (D.tup [(encRow z.1), (D.tup [(D.str z.2.1), (D.str z.2.2.1), (D.str z.2.2.2.1), (D.str z.2.2.2.2.1), (D.lst (List.map (fun z : (Int × (List Nat) × D) => (D.tup [(D.int z.1), (D.str z.2.1), z.2.2])) z.2.2.2.2.2))])]))) (enc := D.bl) (g := (gTup X.K 2 (gCons (gName 8) (gCons (gName 9) gNil)))) (js := [8, 9]) (own := [("_law_one", 8), ("_law_other", 9)]) (cutL s21 none (some (1 : Int))) (fun y25 : (RowT × ((List Nat) × (List Nat) × (List Nat) × (List Nat) × (List (Int × (List Nat) × D)))) => (isL y25.1 y25.2)) (it_lst (EvO.frz (eo_slM (el_own 2 (hX.nm rfl) (hX.vs (vis_l lk_law_law_ahead)) rfl) ep_none (ep_some ed_int)))) (blk_ok hX (by decide +kernel)) (fun _ _ _ _ _ => (pg_tup hX.calm (pgs_cons (pg_name (i := 8) hX.nd (hX.nm rfl) (blk_lc hX (loc_l (by decide +kernel))) (.inr (blk_lk hX (by decide +kernel)))) (pgs_cons (pg_name (i := 9) hX.nd (hX.nm rfl) (blk_lc hX (loc_l (by decide +kernel))) (.inr (blk_lk hX (by decide +kernel)))) pgs_nil)))) (by decide) (by first | decide | omega | (unfold CMul; omega) | (dsimp only; omega) | (rw [sizeLine_eq]; omega) | (split <;> split <;> omega) | (subst_vars; first | exact rowL_ok _ _ | exact made_ok _ _ | exact rows_in (‹_ ∧ Rows _›).2 «hi» | (show 0 < sizeLine; rw [sizeLine_eq]; decide) | (have q := (rowL_ok (cellL a0 «yl») (subL (cellL a0 «yl») 36)).tm.few; rw [sizeLine_eq]; omega) | exact Nat.lt_of_le_of_lt (cutL_one _) (by rw [sizeLine_eq]; decide) | exact (loop_ind Rows (fun s y s2 hs e => (bind_const (go_of_up rfl e)) ▸ rows_add hs _ _) (fun s y s2 => up_nb rfl (bind_nb (loop_nb _ _))) _ _ _ rows_nil hs21) _ (cutL_sub hy26) | ((try have q0 := rints_mem (List.mem_of_getElem? «hi»)); first | (dsimp only; omega) | ((try simp only [List.length_map, List.length_cons, List.length_nil, rints_len, sizeLine_eq]); omega) | (have q1 := (List.getElem?_eq_some_iff.mp «hi»).1; rw [rints_len] at q1; have q2 := «hv».1; rw [sizeLine_eq]; (repeat' split at q1) <;> omega)))) (fun y25 : (RowT × ((List Nat) × (List Nat) × (List Nat) × (List Nat) × (List (Int × (List Nat) × D)))) => ([.d (D.scr a0), .d (D.ins "Row" []), .own (.lst (List.map (fun z : (RowT × ((List Nat) × (List Nat) × (List Nat) × (List Nat) × (List (Int × (List Nat) × D)))) => (D.tup [(encRow z.1), (D.tup [(D.str z.2.1), (D.str z.2.2.1), (D.str z.2.2.2.1), (D.str z.2.2.2.2.1), (D.lst (List.map (fun z : (Int × (List Nat) × D) => (D.tup [(D.int z.1), (D.str z.2.1), z.2.2])) z.2.2.2.2.2))])])) s21)), .un, .un, .un, .un, .un, .d (encRow y25.1), .d (D.tup [(D.str y25.2.1), (D.str y25.2.2.1), (D.str y25.2.2.2.1), (D.str y25.2.2.2.2.1), (D.lst (List.map (fun z : (Int × (List Nat) × D) => (D.tup [(D.int z.1), (D.str z.2.1), z.2.2])) y25.2.2.2.2.2))])] : List B)) (fun y25 _ => (show TgD X.K (gTup X.K 2 (gCons (gName 8) (gCons (gName 9) gNil))) [8, 9] (wipeB ([.d (D.scr a0), .d (D.ins "Row" []), .own (.lst (List.map (fun z : (RowT × ((List Nat) × (List Nat) × (List Nat) × (List Nat) × (List (Int × (List Nat) × D)))) => (D.tup [(encRow z.1), (D.tup [(D.str z.2.1), (D.str z.2.2.1), (D.str z.2.2.2.1), (D.str z.2.2.2.2.1), (D.lst (List.map (fun z : (Int × (List Nat) × D) => (D.tup [(D.int z.1), (D.str z.2.1), z.2.2])) z.2.2.2.2.2))])])) s21)), .un, .un, .un, .un, .un, .un, .un] : List B) [8, 9]) ((fun z : (RowT × ((List Nat) × (List Nat) × (List Nat) × (List Nat) × (List (Int × (List Nat) × D)))) => (D.tup [(encRow z.1), (D.tup [(D.str z.2.1), (D.str z.2.2.1), (D.str z.2.2.2.1), (D.str z.2.2.2.2.1), (D.lst (List.map (fun z : (Int × (List Nat) × D) => (D.tup [(D.int z.1), (D.str z.2.1), z.2.2])) z.2.2.2.2.2))])])) y25) ([.d (D.scr a0), .d (D.ins "Row" []), .own (.lst (List.map (fun z : (RowT × ((List Nat) × (List Nat) × (List Nat) × (List Nat) × (List (Int × (List Nat) × D)))) => (D.tup [(encRow z.1), (D.tup [(D.str z.2.1), (D.str z.2.2.1), (D.str z.2.2.2.1), (D.str z.2.2.2.2.1), (D.lst (List.map (fun z : (Int × (List Nat) × D) => (D.tup [(D.int z.1), (D.str z.2.1), z.2.2])) z.2.2.2.2.2))])])) s21)), .un, .un, .un, .un, .un, .d (encRow y25.1), .d (D.tup [(D.str y25.2.1), (D.str y25.2.2.1), (D.str y25.2.2.2.1), (D.str y25.2.2.2.2.1), (D.lst (List.map (fun z : (Int × (List Nat) × D) => (D.tup [(D.int z.1), (D.str z.2.1), z.2.2])) y25.2.2.2.2.2))])] : List B) from (tg_tup (tgs_cons 8 (tgs_cons 9 tgs_nil)) rfl))) (fun y25 hy26 _ _ _ _ _ => (ed_call ((y25.1, y25.2) : RowT × ((List Nat) × (List Nat) × (List Nat) × (List Nat) × (List (Int × (List Nat) × D)))) kn_is (hX.room.mono (by decide)) (blk_gl hX (by decide +kernel)) (ea_cons (ed_var 8 (hX.nm rfl) (blk_vs hX (vis_l (by decide +kernel))) rfl) (ea_cons (ed_var 9 (hX.nm rfl) (blk_vs hX (vis_l (by decide +kernel))) rfl) ea_nil)) (by first | decide | omega | (unfold CMul; omega) | (dsimp only; omega) | (rw [sizeLine_eq]; omega) | (split <;> split <;> omega) | (subst_vars; first | exact rowL_ok _ _ | exact made_ok _ _ | exact rows_in (‹_ ∧ Rows _›).2 «hi» | (show 0 < sizeLine; rw [sizeLine_eq]; decide) | (have q := (rowL_ok (cellL a0 «yl») (subL (cellL a0 «yl») 36)).tm.few; rw [sizeLine_eq]; omega) | exact Nat.lt_of_le_of_lt (cutL_one _) (by rw [sizeLine_eq]; decide) | exact (loop_ind Rows (fun s y s2 hs e => (bind_const (go_of_up rfl e)) ▸ rows_add hs _ _) (fun s y s2 => up_nb rfl (bind_nb (loop_nb _ _))) _ _ _ rows_nil hs21) _ (cutL_sub hy26) | ((try have q0 := rints_mem (List.mem_of_getElem? «hi»)); first | (dsimp only; omega) | ((try simp only [List.length_map, List.length_cons, List.length_nil, rints_len, sizeLine_eq]); omega) | (have q1 := (List.getElem?_eq_some_iff.mp «hi»).1; rw [rints_len] at q1; have q2 := «hv».1; rw [sizeLine_eq]; (repeat' split at q1) <;> omega)))) rfl)))))))))))) rfl))))))))))))
def lawL (_ : List Int) : Bool := true
theorem m_law_eq (ns : List Int) : m_law ns = .ret (.v (.bl (lawL ns))) := by
  have hi : ∀ f r, isL f r = true := fun _ _ => rfl
  unfold m_law
  simp only [bnd, hi]
  refine loop_bind_inv (fun _ => True) (fun s y _ => ⟨s ++ [(madeL (rowL (cellL ns y) (labelL (subL (cellL ns y) 36))) (rowL (cellL ns y) (labelL (subL (cellL ns y) 36))).2.2.2.2, rowL (cellL ns y) (labelL (subL (cellL ns y) 36)))], ?_, trivial⟩) (fun s => ?_) _ _ trivial
  · have e := eqD_refl (rowL_ok (cellL ns y) (subL (cellL ns y) 36)).tm.eqk
    simp only [e, Bool.not_true, Bool.false_eq_true, if_false]
    rw [loop_go (fun _ _ => rfl)]
    rfl
  · have e : ((List.map (fun _ : RowT × RT => true) (cutL s none (some 1))).all id) = true := by simp
    rw [e]
    rfl
theorem law_true (ns : List Int) (_ : ns.length ≤ 63) : lawL ns = true := rfl
abbrev sp_law (K : PySem.W.Frag) : Sp := spF K (A := (List Int)) (fun a => [(D.scr a)]) (fun a => a.length ≤ 63) (fun a => .v (D.bl (lawL a)))
theorem ok_law {P : Program} {w : World} {K : PySem.W.Frag} {mg : Str → Option Value} {base : Heap} {f : Addr} {fd : FuncData} (F : Fun K "law" "law" s_law f fd) (m_all : mg "all" = none) (m_len : mg "len" = none) (m_list : mg "list" = none) (m_max : mg "max" = none) (m_min : mg "min" = none) (m_range : mg "range" = none) (kn_Row_asked : Mth P w K mg base "Row" "asked" 1 (sp_Row_asked K)) (kn_Row_binds : Mth P w K mg base "Row" "binds" 1 (sp_Row_binds K)) (kn_Row_said : Mth P w K mg base "Row" "said" 3 (sp_Row_said K)) (kn_cell : Kn P w K mg base "_law_cell" 1 (sp_cell K)) (kn_is : Kn P w K mg base "_law_is" 5 (sp_is K)) (kn_label : Kn P w K mg base "_law_label" 3 (sp_label K)) (kn_made : Kn P w K mg base "_law_made" 3 (sp_made K)) (kn_row : Kn P w K mg base "_law_row" 6 (sp_row K)) (kn_sub : Kn P w K mg base "_law_sub" 1 (sp_sub K)) (ba_Row : Bare K mg "Row") : FnOk P w K mg base (L2.CX P w) 7 f fd ["_law_script"] (sp_law K) := by
  refine def_ok F sc_law (fun _ => rfl) (fun a hp X E e1 e2 e3 e4 e5 hX => ?_)
  subst e1 e2 e3 e4 e5
  have h := bd_law X E hX m_all m_len m_list m_max m_min m_range kn_Row_asked kn_Row_binds kn_Row_said kn_cell kn_is kn_label kn_made kn_row kn_sub ba_Row a hp
  rw [m_law_eq a] at h
  exact h

theorem all_mk {P : Program} {w : World} {K : PySem.W.Frag} {h : Heap} {mg : Str → Option Value} {fa : Addr} (X : K.In h) (G : h.Ns mainGlobals mg) (hfa : mg "law" = some (.ref fa))
    {C_Deed : Addr}
    {cdd_Deed : ClassData}
    {C_Draw : Addr}
    {cdd_Draw : ClassData}
    {C_Late : Addr}
    {cdd_Late : ClassData}
    {C_Let : Addr}
    {cdd_Let : ClassData}
    {C_Need : Addr}
    {cdd_Need : ClassData}
    {C_Row : Addr}
    {cdd_Row : ClassData}
    {C_Take : Addr}
    {cdd_Take : ClassData}
    {f0 : Addr} {od0 an0 : Option Addr} {sl0 : Array (Option Value)} {oc0 kV0 dc0 pm0 cd0 ct0 : Value}
    {f1 : Addr} {od1 an1 : Option Addr} {sl1 : Array (Option Value)} {oc1 kV1 dc1 pm1 cd1 ct1 : Value}
    {f2 : Addr} {od2 an2 : Option Addr} {sl2 : Array (Option Value)} {oc2 kV2 dc2 pm2 cd2 ct2 : Value}
    {f3 : Addr} {od3 an3 : Option Addr} {sl3 : Array (Option Value)} {oc3 kV3 dc3 pm3 cd3 ct3 : Value}
    {f4 : Addr} {od4 an4 : Option Addr} {sl4 : Array (Option Value)} {oc4 kV4 dc4 pm4 cd4 ct4 : Value}
    {f5 : Addr} {od5 an5 : Option Addr} {sl5 : Array (Option Value)} {oc5 kV5 dc5 pm5 cd5 ct5 : Value}
    {f6 : Addr} {od6 an6 : Option Addr} {sl6 : Array (Option Value)} {oc6 kV6 dc6 pm6 cd6 ct6 : Value}
    {f7 : Addr} {od7 an7 : Option Addr} {sl7 : Array (Option Value)} {oc7 kV7 dc7 pm7 cd7 ct7 : Value}
    {f8 : Addr} {od8 an8 : Option Addr} {sl8 : Array (Option Value)} {oc8 kV8 dc8 pm8 cd8 ct8 : Value}
    {f9 : Addr} {od9 an9 : Option Addr} {sl9 : Array (Option Value)} {oc9 kV9 dc9 pm9 cd9 ct9 : Value}
    {f10 : Addr} {od10 an10 : Option Addr} {sl10 : Array (Option Value)} {oc10 kV10 dc10 pm10 cd10 ct10 : Value}
    {f11 : Addr} {od11 an11 : Option Addr} {sl11 : Array (Option Value)} {oc11 kV11 dc11 pm11 cd11 ct11 : Value}
    {f12 : Addr} {od12 an12 : Option Addr} {sl12 : Array (Option Value)} {oc12 kV12 dc12 pm12 cd12 ct12 : Value}
    {f13 : Addr} {od13 an13 : Option Addr} {sl13 : Array (Option Value)} {oc13 kV13 dc13 pm13 cd13 ct13 : Value}
    {f14 : Addr} {od14 an14 : Option Addr} {sl14 : Array (Option Value)} {oc14 kV14 dc14 pm14 cd14 ct14 : Value}
    {f15 : Addr} {od15 an15 : Option Addr} {sl15 : Array (Option Value)} {oc15 kV15 dc15 pm15 cd15 ct15 : Value}
    {f16 : Addr} {od16 an16 : Option Addr} {sl16 : Array (Option Value)} {oc16 kV16 dc16 pm16 cd16 ct16 : Value}
    {f17 : Addr} {od17 an17 : Option Addr} {sl17 : Array (Option Value)} {oc17 kV17 dc17 pm17 cd17 ct17 : Value}
    {f18 : Addr} {od18 an18 : Option Addr} {sl18 : Array (Option Value)} {oc18 kV18 dc18 pm18 cd18 ct18 : Value}
    {f19 : Addr} {od19 an19 : Option Addr} {sl19 : Array (Option Value)} {oc19 kV19 dc19 pm19 cd19 ct19 : Value}
    {f20 : Addr} {od20 an20 : Option Addr} {sl20 : Array (Option Value)} {oc20 kV20 dc20 pm20 cd20 ct20 : Value}
    {f21 : Addr} {od21 an21 : Option Addr} {sl21 : Array (Option Value)} {oc21 kV21 dc21 pm21 cd21 ct21 : Value}
    {f22 : Addr} {od22 an22 : Option Addr} {sl22 : Array (Option Value)} {oc22 kV22 dc22 pm22 cd22 ct22 : Value}
    {f23 : Addr} {od23 an23 : Option Addr} {sl23 : Array (Option Value)} {oc23 kV23 dc23 pm23 cd23 ct23 : Value}
    {f24 : Addr} {od24 an24 : Option Addr} {sl24 : Array (Option Value)} {oc24 kV24 dc24 pm24 cd24 ct24 : Value}
    {f25 : Addr} {od25 an25 : Option Addr} {sl25 : Array (Option Value)} {oc25 kV25 dc25 pm25 cd25 ct25 : Value}
    {f26 : Addr} {od26 an26 : Option Addr} {sl26 : Array (Option Value)} {oc26 kV26 dc26 pm26 cd26 ct26 : Value}
    {f27 : Addr} {od27 an27 : Option Addr} {sl27 : Array (Option Value)} {oc27 kV27 dc27 pm27 cd27 ct27 : Value}
    {f28 : Addr} {od28 an28 : Option Addr} {sl28 : Array (Option Value)} {oc28 kV28 dc28 pm28 cd28 ct28 : Value}
    {f29 : Addr} {od29 an29 : Option Addr} {sl29 : Array (Option Value)} {oc29 kV29 dc29 pm29 cd29 ct29 : Value}
    {f30 : Addr} {od30 an30 : Option Addr} {sl30 : Array (Option Value)} {oc30 kV30 dc30 pm30 cd30 ct30 : Value}
    {f31 : Addr} {od31 an31 : Option Addr} {sl31 : Array (Option Value)} {oc31 kV31 dc31 pm31 cd31 ct31 : Value}
    {f32 : Addr} {od32 an32 : Option Addr} {sl32 : Array (Option Value)} {oc32 kV32 dc32 pm32 cd32 ct32 : Value}
    {f33 : Addr} {od33 an33 : Option Addr} {sl33 : Array (Option Value)} {oc33 kV33 dc33 pm33 cd33 ct33 : Value}
    {f34 : Addr} {od34 an34 : Option Addr} {sl34 : Array (Option Value)} {oc34 kV34 dc34 pm34 cd34 ct34 : Value}
    {f35 : Addr} {od35 an35 : Option Addr} {sl35 : Array (Option Value)} {oc35 kV35 dc35 pm35 cd35 ct35 : Value}
    {f36 : Addr} {od36 an36 : Option Addr} {sl36 : Array (Option Value)} {oc36 kV36 dc36 pm36 cd36 ct36 : Value}
    {f37 : Addr} {od37 an37 : Option Addr} {sl37 : Array (Option Value)} {oc37 kV37 dc37 pm37 cd37 ct37 : Value}
    {f38 : Addr} {od38 an38 : Option Addr} {sl38 : Array (Option Value)} {oc38 kV38 dc38 pm38 cd38 ct38 : Value}
    {f39 : Addr} {od39 an39 : Option Addr} {sl39 : Array (Option Value)} {oc39 kV39 dc39 pm39 cd39 ct39 : Value}
    {f40 : Addr} {od40 an40 : Option Addr} {sl40 : Array (Option Value)} {oc40 kV40 dc40 pm40 cd40 ct40 : Value}
    {f41 : Addr} {od41 an41 : Option Addr} {sl41 : Array (Option Value)} {oc41 kV41 dc41 pm41 cd41 ct41 : Value}
    {f42 : Addr} {od42 an42 : Option Addr} {sl42 : Array (Option Value)} {oc42 kV42 dc42 pm42 cd42 ct42 : Value}
    {f43 : Addr} {od43 an43 : Option Addr} {sl43 : Array (Option Value)} {oc43 kV43 dc43 pm43 cd43 ct43 : Value}
    {f44 : Addr} {od44 an44 : Option Addr} {sl44 : Array (Option Value)} {oc44 kV44 dc44 pm44 cd44 ct44 : Value}
    (qa_Deed : PySem.W.nsIn K mainGlobals "Deed" = some (some (.ref C_Deed)))
    (qb_Deed : PySem.W.plainGet K C_Deed Str.empty = true)
    (qc_Deed : PySem.W.hasDictIn K C_Deed = true)
    (qd_Deed : PySem.W.plainOver K C_Deed = true)
    (qe_Deed : PySem.W.findIn K (.ref C_Deed) "__setattr__" = some (some (.builtin "object.__setattr__")))
    (qf_Deed : PySem.W.findIn K (.ref C_Deed) "__class__" = some (some (.builtin "object.__class__")))
    (qi_Deed : PySem.W.mroIn K C_Deed (.type "object") = some true)
    (qj_Deed : PySem.W.typeIn K (.ref C_Deed) = some (.type "type"))
    (qk_Deed : PySem.W.clsIn K C_Deed = some cdd_Deed)
    (qm_Deed : PySem.W.makesIn K C_Deed = true)
    (kc_Deed : PySem.W.keepIn K (.ref C_Deed) = true)
    (qa_Draw : PySem.W.nsIn K mainGlobals "Draw" = some (some (.ref C_Draw)))
    (qb_Draw : PySem.W.plainGet K C_Draw Str.empty = true)
    (qc_Draw : PySem.W.hasDictIn K C_Draw = true)
    (qd_Draw : PySem.W.plainOver K C_Draw = true)
    (qe_Draw : PySem.W.findIn K (.ref C_Draw) "__setattr__" = some (some (.builtin "object.__setattr__")))
    (qf_Draw : PySem.W.findIn K (.ref C_Draw) "__class__" = some (some (.builtin "object.__class__")))
    (qi_Draw : PySem.W.mroIn K C_Draw (.type "object") = some true)
    (qj_Draw : PySem.W.typeIn K (.ref C_Draw) = some (.type "type"))
    (qk_Draw : PySem.W.clsIn K C_Draw = some cdd_Draw)
    (qm_Draw : PySem.W.makesIn K C_Draw = true)
    (kc_Draw : PySem.W.keepIn K (.ref C_Draw) = true)
    (qa_Late : PySem.W.nsIn K mainGlobals "Late" = some (some (.ref C_Late)))
    (qb_Late : PySem.W.plainGet K C_Late Str.empty = true)
    (qc_Late : PySem.W.hasDictIn K C_Late = true)
    (qd_Late : PySem.W.plainOver K C_Late = true)
    (qe_Late : PySem.W.findIn K (.ref C_Late) "__setattr__" = some (some (.builtin "object.__setattr__")))
    (qf_Late : PySem.W.findIn K (.ref C_Late) "__class__" = some (some (.builtin "object.__class__")))
    (qi_Late : PySem.W.mroIn K C_Late (.type "object") = some true)
    (qj_Late : PySem.W.typeIn K (.ref C_Late) = some (.type "type"))
    (qk_Late : PySem.W.clsIn K C_Late = some cdd_Late)
    (qm_Late : PySem.W.makesIn K C_Late = true)
    (kc_Late : PySem.W.keepIn K (.ref C_Late) = true)
    (qa_Let : PySem.W.nsIn K mainGlobals "Let" = some (some (.ref C_Let)))
    (qb_Let : PySem.W.plainGet K C_Let Str.empty = true)
    (qc_Let : PySem.W.hasDictIn K C_Let = true)
    (qd_Let : PySem.W.plainOver K C_Let = true)
    (qe_Let : PySem.W.findIn K (.ref C_Let) "__setattr__" = some (some (.builtin "object.__setattr__")))
    (qf_Let : PySem.W.findIn K (.ref C_Let) "__class__" = some (some (.builtin "object.__class__")))
    (qi_Let : PySem.W.mroIn K C_Let (.type "object") = some true)
    (qj_Let : PySem.W.typeIn K (.ref C_Let) = some (.type "type"))
    (qk_Let : PySem.W.clsIn K C_Let = some cdd_Let)
    (qm_Let : PySem.W.makesIn K C_Let = true)
    (kc_Let : PySem.W.keepIn K (.ref C_Let) = true)
    (qa_Need : PySem.W.nsIn K mainGlobals "Need" = some (some (.ref C_Need)))
    (qb_Need : PySem.W.plainGet K C_Need Str.empty = true)
    (qc_Need : PySem.W.hasDictIn K C_Need = true)
    (qd_Need : PySem.W.plainOver K C_Need = true)
    (qe_Need : PySem.W.findIn K (.ref C_Need) "__setattr__" = some (some (.builtin "object.__setattr__")))
    (qf_Need : PySem.W.findIn K (.ref C_Need) "__class__" = some (some (.builtin "object.__class__")))
    (qi_Need : PySem.W.mroIn K C_Need (.type "object") = some true)
    (qj_Need : PySem.W.typeIn K (.ref C_Need) = some (.type "type"))
    (qk_Need : PySem.W.clsIn K C_Need = some cdd_Need)
    (qm_Need : PySem.W.makesIn K C_Need = true)
    (kc_Need : PySem.W.keepIn K (.ref C_Need) = true)
    (qa_Row : PySem.W.nsIn K mainGlobals "Row" = some (some (.ref C_Row)))
    (qb_Row : PySem.W.plainGet K C_Row Str.empty = true)
    (qc_Row : PySem.W.hasDictIn K C_Row = true)
    (qd_Row : PySem.W.plainOver K C_Row = true)
    (qe_Row : PySem.W.findIn K (.ref C_Row) "__setattr__" = some (some (.builtin "object.__setattr__")))
    (qj_Row : PySem.W.typeIn K (.ref C_Row) = some (.type "type"))
    (qk_Row : PySem.W.clsIn K C_Row = some cdd_Row)
    (qm_Row : PySem.W.makesIn K C_Row = true)
    (kc_Row : PySem.W.keepIn K (.ref C_Row) = true)
    (qo_Row : PySem.W.findIn K (.ref C_Row) "__init__" = some (some (.builtin "object.__init__")))
    (qa_Take : PySem.W.nsIn K mainGlobals "Take" = some (some (.ref C_Take)))
    (qb_Take : PySem.W.plainGet K C_Take Str.empty = true)
    (qc_Take : PySem.W.hasDictIn K C_Take = true)
    (qd_Take : PySem.W.plainOver K C_Take = true)
    (qe_Take : PySem.W.findIn K (.ref C_Take) "__setattr__" = some (some (.builtin "object.__setattr__")))
    (qf_Take : PySem.W.findIn K (.ref C_Take) "__class__" = some (some (.builtin "object.__class__")))
    (qi_Take : PySem.W.mroIn K C_Take (.type "object") = some true)
    (qj_Take : PySem.W.typeIn K (.ref C_Take) = some (.type "type"))
    (qk_Take : PySem.W.clsIn K C_Take = some cdd_Take)
    (qm_Take : PySem.W.makesIn K C_Take = true)
    (kc_Take : PySem.W.keepIn K (.ref C_Take) = true)
    (qg : PySem.W.specialIn K (.builtin "object.__class__") "__get__" = some (some (.builtin "getset_descriptor.__get__")))
    (qh : PySem.W.takesIn K (.builtin "object.__class__") = some true)
    (qn_Deed_name : PySem.W.findIn K (.ref C_Deed) "name" = some none)
    (qn_Deed_terms : PySem.W.findIn K (.ref C_Deed) "terms" = some none)
    (qn_Draw_address : PySem.W.findIn K (.ref C_Draw) "address" = some none)
    (qn_Draw_name : PySem.W.findIn K (.ref C_Draw) "name" = some none)
    (qn_Late_address : PySem.W.findIn K (.ref C_Late) "address" = some none)
    (qn_Late_name : PySem.W.findIn K (.ref C_Late) "name" = some none)
    (qn_Let_name : PySem.W.findIn K (.ref C_Let) "name" = some none)
    (qn_Let_terms : PySem.W.findIn K (.ref C_Let) "terms" = some none)
    (qn_Need_terms : PySem.W.findIn K (.ref C_Need) "terms" = some none)
    (qn_Take_address : PySem.W.findIn K (.ref C_Take) "address" = some none)
    (qn_Take_name : PySem.W.findIn K (.ref C_Take) "name" = some none)
    (qn_Take_word : PySem.W.findIn K (.ref C_Take) "word" = some none)
    (qs_Deed_Deed : PySem.W.subIn K (.ref C_Deed) (.ref C_Deed) = some true)
    (qs_Deed_Draw : PySem.W.subIn K (.ref C_Deed) (.ref C_Draw) = some false)
    (qz_Deed_Draw : (Value.ref C_Deed == Value.ref C_Draw) = false)
    (qs_Deed_Late : PySem.W.subIn K (.ref C_Deed) (.ref C_Late) = some false)
    (qz_Deed_Late : (Value.ref C_Deed == Value.ref C_Late) = false)
    (qs_Deed_Let : PySem.W.subIn K (.ref C_Deed) (.ref C_Let) = some false)
    (qz_Deed_Let : (Value.ref C_Deed == Value.ref C_Let) = false)
    (qs_Deed_Need : PySem.W.subIn K (.ref C_Deed) (.ref C_Need) = some false)
    (qz_Deed_Need : (Value.ref C_Deed == Value.ref C_Need) = false)
    (qs_Deed_Row : PySem.W.subIn K (.ref C_Deed) (.ref C_Row) = some true)
    (qs_Deed_Take : PySem.W.subIn K (.ref C_Deed) (.ref C_Take) = some false)
    (qz_Deed_Take : (Value.ref C_Deed == Value.ref C_Take) = false)
    (qs_Draw_Deed : PySem.W.subIn K (.ref C_Draw) (.ref C_Deed) = some false)
    (qz_Draw_Deed : (Value.ref C_Draw == Value.ref C_Deed) = false)
    (qs_Draw_Draw : PySem.W.subIn K (.ref C_Draw) (.ref C_Draw) = some true)
    (qs_Draw_Late : PySem.W.subIn K (.ref C_Draw) (.ref C_Late) = some false)
    (qz_Draw_Late : (Value.ref C_Draw == Value.ref C_Late) = false)
    (qs_Draw_Let : PySem.W.subIn K (.ref C_Draw) (.ref C_Let) = some false)
    (qz_Draw_Let : (Value.ref C_Draw == Value.ref C_Let) = false)
    (qs_Draw_Need : PySem.W.subIn K (.ref C_Draw) (.ref C_Need) = some false)
    (qz_Draw_Need : (Value.ref C_Draw == Value.ref C_Need) = false)
    (qs_Draw_Row : PySem.W.subIn K (.ref C_Draw) (.ref C_Row) = some true)
    (qs_Draw_Take : PySem.W.subIn K (.ref C_Draw) (.ref C_Take) = some false)
    (qz_Draw_Take : (Value.ref C_Draw == Value.ref C_Take) = false)
    (qs_Late_Deed : PySem.W.subIn K (.ref C_Late) (.ref C_Deed) = some false)
    (qz_Late_Deed : (Value.ref C_Late == Value.ref C_Deed) = false)
    (qs_Late_Draw : PySem.W.subIn K (.ref C_Late) (.ref C_Draw) = some false)
    (qz_Late_Draw : (Value.ref C_Late == Value.ref C_Draw) = false)
    (qs_Late_Late : PySem.W.subIn K (.ref C_Late) (.ref C_Late) = some true)
    (qs_Late_Let : PySem.W.subIn K (.ref C_Late) (.ref C_Let) = some false)
    (qz_Late_Let : (Value.ref C_Late == Value.ref C_Let) = false)
    (qs_Late_Need : PySem.W.subIn K (.ref C_Late) (.ref C_Need) = some false)
    (qz_Late_Need : (Value.ref C_Late == Value.ref C_Need) = false)
    (qs_Late_Row : PySem.W.subIn K (.ref C_Late) (.ref C_Row) = some true)
    (qs_Late_Take : PySem.W.subIn K (.ref C_Late) (.ref C_Take) = some false)
    (qz_Late_Take : (Value.ref C_Late == Value.ref C_Take) = false)
    (qs_Let_Deed : PySem.W.subIn K (.ref C_Let) (.ref C_Deed) = some false)
    (qz_Let_Deed : (Value.ref C_Let == Value.ref C_Deed) = false)
    (qs_Let_Draw : PySem.W.subIn K (.ref C_Let) (.ref C_Draw) = some false)
    (qz_Let_Draw : (Value.ref C_Let == Value.ref C_Draw) = false)
    (qs_Let_Late : PySem.W.subIn K (.ref C_Let) (.ref C_Late) = some false)
    (qz_Let_Late : (Value.ref C_Let == Value.ref C_Late) = false)
    (qs_Let_Let : PySem.W.subIn K (.ref C_Let) (.ref C_Let) = some true)
    (qs_Let_Need : PySem.W.subIn K (.ref C_Let) (.ref C_Need) = some false)
    (qz_Let_Need : (Value.ref C_Let == Value.ref C_Need) = false)
    (qs_Let_Row : PySem.W.subIn K (.ref C_Let) (.ref C_Row) = some true)
    (qs_Let_Take : PySem.W.subIn K (.ref C_Let) (.ref C_Take) = some false)
    (qz_Let_Take : (Value.ref C_Let == Value.ref C_Take) = false)
    (qs_Need_Deed : PySem.W.subIn K (.ref C_Need) (.ref C_Deed) = some false)
    (qz_Need_Deed : (Value.ref C_Need == Value.ref C_Deed) = false)
    (qs_Need_Draw : PySem.W.subIn K (.ref C_Need) (.ref C_Draw) = some false)
    (qz_Need_Draw : (Value.ref C_Need == Value.ref C_Draw) = false)
    (qs_Need_Late : PySem.W.subIn K (.ref C_Need) (.ref C_Late) = some false)
    (qz_Need_Late : (Value.ref C_Need == Value.ref C_Late) = false)
    (qs_Need_Let : PySem.W.subIn K (.ref C_Need) (.ref C_Let) = some false)
    (qz_Need_Let : (Value.ref C_Need == Value.ref C_Let) = false)
    (qs_Need_Need : PySem.W.subIn K (.ref C_Need) (.ref C_Need) = some true)
    (qs_Need_Row : PySem.W.subIn K (.ref C_Need) (.ref C_Row) = some true)
    (qs_Need_Take : PySem.W.subIn K (.ref C_Need) (.ref C_Take) = some false)
    (qz_Need_Take : (Value.ref C_Need == Value.ref C_Take) = false)
    (qs_Take_Deed : PySem.W.subIn K (.ref C_Take) (.ref C_Deed) = some false)
    (qz_Take_Deed : (Value.ref C_Take == Value.ref C_Deed) = false)
    (qs_Take_Draw : PySem.W.subIn K (.ref C_Take) (.ref C_Draw) = some false)
    (qz_Take_Draw : (Value.ref C_Take == Value.ref C_Draw) = false)
    (qs_Take_Late : PySem.W.subIn K (.ref C_Take) (.ref C_Late) = some false)
    (qz_Take_Late : (Value.ref C_Take == Value.ref C_Late) = false)
    (qs_Take_Let : PySem.W.subIn K (.ref C_Take) (.ref C_Let) = some false)
    (qz_Take_Let : (Value.ref C_Take == Value.ref C_Let) = false)
    (qs_Take_Need : PySem.W.subIn K (.ref C_Take) (.ref C_Need) = some false)
    (qz_Take_Need : (Value.ref C_Take == Value.ref C_Need) = false)
    (qs_Take_Row : PySem.W.subIn K (.ref C_Take) (.ref C_Row) = some true)
    (qs_Take_Take : PySem.W.subIn K (.ref C_Take) (.ref C_Take) = some true)
    (a0 : PySem.W.nsIn K mainGlobals "_law_cell" = some (some (.ref f0)))
    (l0 : K.lookup f0 = some ⟨oc0, od0, .func (PySem.W.fnOf "_law_cell" "_law_cell" (defArgs s_law_cell) (defBody s_law_cell) (defScope s_law_cell) .none kV0 dc0 pm0 an0 cd0 ct0), sl0⟩)
    (c0 : PySem.W.codeIn K cd0 "_law_cell" = true)
    (k0 : PySem.W.keepIn K (.ref f0) = true)
    (a1 : PySem.W.nsIn K mainGlobals "_law_sub" = some (some (.ref f1)))
    (l1 : K.lookup f1 = some ⟨oc1, od1, .func (PySem.W.fnOf "_law_sub" "_law_sub" (defArgs s_law_sub) (defBody s_law_sub) (defScope s_law_sub) .none kV1 dc1 pm1 an1 cd1 ct1), sl1⟩)
    (c1 : PySem.W.codeIn K cd1 "_law_sub" = true)
    (k1 : PySem.W.keepIn K (.ref f1) = true)
    (a2 : PySem.W.nsIn K mainGlobals "_law_number" = some (some (.ref f2)))
    (l2 : K.lookup f2 = some ⟨oc2, od2, .func (PySem.W.fnOf "_law_number" "_law_number" (defArgs s_law_number) (defBody s_law_number) (defScope s_law_number) .none kV2 dc2 pm2 an2 cd2 ct2), sl2⟩)
    (c2 : PySem.W.codeIn K cd2 "_law_number" = true)
    (k2 : PySem.W.keepIn K (.ref f2) = true)
    (a3 : PySem.W.nsIn K mainGlobals "_law_pick" = some (some (.ref f3)))
    (l3 : K.lookup f3 = some ⟨oc3, od3, .func (PySem.W.fnOf "_law_pick" "_law_pick" (defArgs s_law_pick) (defBody s_law_pick) (defScope s_law_pick) .none kV3 dc3 pm3 an3 cd3 ct3), sl3⟩)
    (c3 : PySem.W.codeIn K cd3 "_law_pick" = true)
    (k3 : PySem.W.keepIn K (.ref f3) = true)
    (a4 : PySem.W.nsIn K mainGlobals "_law_name" = some (some (.ref f4)))
    (l4 : K.lookup f4 = some ⟨oc4, od4, .func (PySem.W.fnOf "_law_name" "_law_name" (defArgs s_law_name) (defBody s_law_name) (defScope s_law_name) .none kV4 dc4 pm4 an4 cd4 ct4), sl4⟩)
    (c4 : PySem.W.codeIn K cd4 "_law_name" = true)
    (k4 : PySem.W.keepIn K (.ref f4) = true)
    (a5 : PySem.W.nsIn K mainGlobals "_law_label" = some (some (.ref f5)))
    (l5 : K.lookup f5 = some ⟨oc5, od5, .func (PySem.W.fnOf "_law_label" "_law_label" (defArgs s_law_label) (defBody s_law_label) (defScope s_law_label) .none kV5 dc5 pm5 an5 cd5 ct5), sl5⟩)
    (c5 : PySem.W.codeIn K cd5 "_law_label" = true)
    (k5 : PySem.W.keepIn K (.ref f5) = true)
    (a6 : PySem.W.nsIn K mainGlobals "_law_address" = some (some (.ref f6)))
    (l6 : K.lookup f6 = some ⟨oc6, od6, .func (PySem.W.fnOf "_law_address" "_law_address" (defArgs s_law_address) (defBody s_law_address) (defScope s_law_address) .none kV6 dc6 pm6 an6 cd6 ct6), sl6⟩)
    (c6 : PySem.W.codeIn K cd6 "_law_address" = true)
    (k6 : PySem.W.keepIn K (.ref f6) = true)
    (a7 : PySem.W.nsIn K mainGlobals "_law_term" = some (some (.ref f7)))
    (l7 : K.lookup f7 = some ⟨oc7, od7, .func (PySem.W.fnOf "_law_term" "_law_term" (defArgs s_law_term) (defBody s_law_term) (defScope s_law_term) .none kV7 dc7 pm7 an7 cd7 ct7), sl7⟩)
    (c7 : PySem.W.codeIn K cd7 "_law_term" = true)
    (k7 : PySem.W.keepIn K (.ref f7) = true)
    (a8 : PySem.W.nsIn K mainGlobals "_law_terms" = some (some (.ref f8)))
    (l8 : K.lookup f8 = some ⟨oc8, od8, .func (PySem.W.fnOf "_law_terms" "_law_terms" (defArgs s_law_terms) (defBody s_law_terms) (defScope s_law_terms) .none kV8 dc8 pm8 an8 cd8 ct8), sl8⟩)
    (c8 : PySem.W.codeIn K cd8 "_law_terms" = true)
    (k8 : PySem.W.keepIn K (.ref f8) = true)
    (a9 : PySem.W.nsIn K mainGlobals "_law_word" = some (some (.ref f9)))
    (l9 : K.lookup f9 = some ⟨oc9, od9, .func (PySem.W.fnOf "_law_word" "_law_word" (defArgs s_law_word) (defBody s_law_word) (defScope s_law_word) .none kV9 dc9 pm9 an9 cd9 ct9), sl9⟩)
    (c9 : PySem.W.codeIn K cd9 "_law_word" = true)
    (k9 : PySem.W.keepIn K (.ref f9) = true)
    (a10 : PySem.W.nsIn K mainGlobals "_law_text" = some (some (.ref f10)))
    (l10 : K.lookup f10 = some ⟨oc10, od10, .func (PySem.W.fnOf "_law_text" "_law_text" (defArgs s_law_text) (defBody s_law_text) (defScope s_law_text) .none kV10 dc10 pm10 an10 cd10 ct10), sl10⟩)
    (c10 : PySem.W.codeIn K cd10 "_law_text" = true)
    (k10 : PySem.W.keepIn K (.ref f10) = true)
    (a11 : PySem.W.nsIn K mainGlobals "show_term" = some (some (.ref f11)))
    (l11 : K.lookup f11 = some ⟨oc11, od11, .func (PySem.W.fnOf "show_term" "show_term" (defArgs s_show_term) (defBody s_show_term) (defScope s_show_term) .none kV11 dc11 pm11 an11 cd11 ct11), sl11⟩)
    (c11 : PySem.W.codeIn K cd11 "show_term" = true)
    (k11 : PySem.W.keepIn K (.ref f11) = true)
    (a12 : PySem.W.nsIn K mainGlobals "show_expr" = some (some (.ref f12)))
    (l12 : K.lookup f12 = some ⟨oc12, od12, .func (PySem.W.fnOf "show_expr" "show_expr" (defArgs s_show_expr) (defBody s_show_expr) (defScope s_show_expr) .none kV12 dc12 pm12 an12 cd12 ct12), sl12⟩)
    (c12 : PySem.W.codeIn K cd12 "show_expr" = true)
    (k12 : PySem.W.keepIn K (.ref f12) = true)
    (m13_Let : PySem.W.findIn K (.ref C_Let) "__init__" = some (some (.ref f13)))
    (fn13 : PySem.W.isFn K (.ref f13) = true)
    (l13 : K.lookup f13 = some ⟨oc13, od13, .func (PySem.W.fnOf "__init__" "Let.__init__" (defArgs s_Let___init) (defBody s_Let___init) (defScope s_Let___init) .none kV13 dc13 pm13 an13 cd13 ct13), sl13⟩)
    (c13 : PySem.W.codeIn K cd13 "Let.__init__" = true)
    (k13 : PySem.W.keepIn K (.ref f13) = true)
    (m14_Deed : PySem.W.findIn K (.ref C_Deed) "__init__" = some (some (.ref f14)))
    (fn14 : PySem.W.isFn K (.ref f14) = true)
    (l14 : K.lookup f14 = some ⟨oc14, od14, .func (PySem.W.fnOf "__init__" "Deed.__init__" (defArgs s_Deed___init) (defBody s_Deed___init) (defScope s_Deed___init) .none kV14 dc14 pm14 an14 cd14 ct14), sl14⟩)
    (c14 : PySem.W.codeIn K cd14 "Deed.__init__" = true)
    (k14 : PySem.W.keepIn K (.ref f14) = true)
    (m15_Draw : PySem.W.findIn K (.ref C_Draw) "__init__" = some (some (.ref f15)))
    (fn15 : PySem.W.isFn K (.ref f15) = true)
    (l15 : K.lookup f15 = some ⟨oc15, od15, .func (PySem.W.fnOf "__init__" "Draw.__init__" (defArgs s_Draw___init) (defBody s_Draw___init) (defScope s_Draw___init) .none kV15 dc15 pm15 an15 cd15 ct15), sl15⟩)
    (c15 : PySem.W.codeIn K cd15 "Draw.__init__" = true)
    (k15 : PySem.W.keepIn K (.ref f15) = true)
    (m16_Late : PySem.W.findIn K (.ref C_Late) "__init__" = some (some (.ref f16)))
    (fn16 : PySem.W.isFn K (.ref f16) = true)
    (l16 : K.lookup f16 = some ⟨oc16, od16, .func (PySem.W.fnOf "__init__" "Late.__init__" (defArgs s_Late___init) (defBody s_Late___init) (defScope s_Late___init) .none kV16 dc16 pm16 an16 cd16 ct16), sl16⟩)
    (c16 : PySem.W.codeIn K cd16 "Late.__init__" = true)
    (k16 : PySem.W.keepIn K (.ref f16) = true)
    (m17_Take : PySem.W.findIn K (.ref C_Take) "__init__" = some (some (.ref f17)))
    (fn17 : PySem.W.isFn K (.ref f17) = true)
    (l17 : K.lookup f17 = some ⟨oc17, od17, .func (PySem.W.fnOf "__init__" "Take.__init__" (defArgs s_Take___init) (defBody s_Take___init) (defScope s_Take___init) .none kV17 dc17 pm17 an17 cd17 ct17), sl17⟩)
    (c17 : PySem.W.codeIn K cd17 "Take.__init__" = true)
    (k17 : PySem.W.keepIn K (.ref f17) = true)
    (m18_Need : PySem.W.findIn K (.ref C_Need) "__init__" = some (some (.ref f18)))
    (fn18 : PySem.W.isFn K (.ref f18) = true)
    (l18 : K.lookup f18 = some ⟨oc18, od18, .func (PySem.W.fnOf "__init__" "Need.__init__" (defArgs s_Need___init) (defBody s_Need___init) (defScope s_Need___init) .none kV18 dc18 pm18 an18 cd18 ct18), sl18⟩)
    (c18 : PySem.W.codeIn K cd18 "Need.__init__" = true)
    (k18 : PySem.W.keepIn K (.ref f18) = true)
    (m19_Let : PySem.W.findIn K (.ref C_Let) "binds" = some (some (.ref f19)))
    (fn19 : PySem.W.isFn K (.ref f19) = true)
    (l19 : K.lookup f19 = some ⟨oc19, od19, .func (PySem.W.fnOf "binds" "Let.binds" (defArgs s_Let_binds) (defBody s_Let_binds) (defScope s_Let_binds) .none kV19 dc19 pm19 an19 cd19 ct19), sl19⟩)
    (c19 : PySem.W.codeIn K cd19 "Let.binds" = true)
    (k19 : PySem.W.keepIn K (.ref f19) = true)
    (m20_Let : PySem.W.findIn K (.ref C_Let) "asked" = some (some (.ref f20)))
    (m20_Deed : PySem.W.findIn K (.ref C_Deed) "asked" = some (some (.ref f20)))
    (m20_Need : PySem.W.findIn K (.ref C_Need) "asked" = some (some (.ref f20)))
    (m20_Row : PySem.W.findIn K (.ref C_Row) "asked" = some (some (.ref f20)))
    (fn20 : PySem.W.isFn K (.ref f20) = true)
    (l20 : K.lookup f20 = some ⟨oc20, od20, .func (PySem.W.fnOf "asked" "Row.asked" (defArgs s_Row_asked) (defBody s_Row_asked) (defScope s_Row_asked) .none kV20 dc20 pm20 an20 cd20 ct20), sl20⟩)
    (c20 : PySem.W.codeIn K cd20 "Row.asked" = true)
    (k20 : PySem.W.keepIn K (.ref f20) = true)
    (m21_Let : PySem.W.findIn K (.ref C_Let) "said" = some (some (.ref f21)))
    (fn21 : PySem.W.isFn K (.ref f21) = true)
    (l21 : K.lookup f21 = some ⟨oc21, od21, .func (PySem.W.fnOf "said" "Let.said" (defArgs s_Let_said) (defBody s_Let_said) (defScope s_Let_said) .none kV21 dc21 pm21 an21 cd21 ct21), sl21⟩)
    (c21 : PySem.W.codeIn K cd21 "Let.said" = true)
    (k21 : PySem.W.keepIn K (.ref f21) = true)
    (m22_Deed : PySem.W.findIn K (.ref C_Deed) "binds" = some (some (.ref f22)))
    (fn22 : PySem.W.isFn K (.ref f22) = true)
    (l22 : K.lookup f22 = some ⟨oc22, od22, .func (PySem.W.fnOf "binds" "Deed.binds" (defArgs s_Deed_binds) (defBody s_Deed_binds) (defScope s_Deed_binds) .none kV22 dc22 pm22 an22 cd22 ct22), sl22⟩)
    (c22 : PySem.W.codeIn K cd22 "Deed.binds" = true)
    (k22 : PySem.W.keepIn K (.ref f22) = true)
    (m23_Deed : PySem.W.findIn K (.ref C_Deed) "said" = some (some (.ref f23)))
    (fn23 : PySem.W.isFn K (.ref f23) = true)
    (l23 : K.lookup f23 = some ⟨oc23, od23, .func (PySem.W.fnOf "said" "Deed.said" (defArgs s_Deed_said) (defBody s_Deed_said) (defScope s_Deed_said) .none kV23 dc23 pm23 an23 cd23 ct23), sl23⟩)
    (c23 : PySem.W.codeIn K cd23 "Deed.said" = true)
    (k23 : PySem.W.keepIn K (.ref f23) = true)
    (m24_Draw : PySem.W.findIn K (.ref C_Draw) "binds" = some (some (.ref f24)))
    (fn24 : PySem.W.isFn K (.ref f24) = true)
    (l24 : K.lookup f24 = some ⟨oc24, od24, .func (PySem.W.fnOf "binds" "Draw.binds" (defArgs s_Draw_binds) (defBody s_Draw_binds) (defScope s_Draw_binds) .none kV24 dc24 pm24 an24 cd24 ct24), sl24⟩)
    (c24 : PySem.W.codeIn K cd24 "Draw.binds" = true)
    (k24 : PySem.W.keepIn K (.ref f24) = true)
    (m25_Draw : PySem.W.findIn K (.ref C_Draw) "asked" = some (some (.ref f25)))
    (fn25 : PySem.W.isFn K (.ref f25) = true)
    (l25 : K.lookup f25 = some ⟨oc25, od25, .func (PySem.W.fnOf "asked" "Draw.asked" (defArgs s_Draw_asked) (defBody s_Draw_asked) (defScope s_Draw_asked) .none kV25 dc25 pm25 an25 cd25 ct25), sl25⟩)
    (c25 : PySem.W.codeIn K cd25 "Draw.asked" = true)
    (k25 : PySem.W.keepIn K (.ref f25) = true)
    (m26_Draw : PySem.W.findIn K (.ref C_Draw) "said" = some (some (.ref f26)))
    (fn26 : PySem.W.isFn K (.ref f26) = true)
    (l26 : K.lookup f26 = some ⟨oc26, od26, .func (PySem.W.fnOf "said" "Draw.said" (defArgs s_Draw_said) (defBody s_Draw_said) (defScope s_Draw_said) .none kV26 dc26 pm26 an26 cd26 ct26), sl26⟩)
    (c26 : PySem.W.codeIn K cd26 "Draw.said" = true)
    (k26 : PySem.W.keepIn K (.ref f26) = true)
    (m27_Late : PySem.W.findIn K (.ref C_Late) "binds" = some (some (.ref f27)))
    (fn27 : PySem.W.isFn K (.ref f27) = true)
    (l27 : K.lookup f27 = some ⟨oc27, od27, .func (PySem.W.fnOf "binds" "Late.binds" (defArgs s_Late_binds) (defBody s_Late_binds) (defScope s_Late_binds) .none kV27 dc27 pm27 an27 cd27 ct27), sl27⟩)
    (c27 : PySem.W.codeIn K cd27 "Late.binds" = true)
    (k27 : PySem.W.keepIn K (.ref f27) = true)
    (m28_Late : PySem.W.findIn K (.ref C_Late) "asked" = some (some (.ref f28)))
    (fn28 : PySem.W.isFn K (.ref f28) = true)
    (l28 : K.lookup f28 = some ⟨oc28, od28, .func (PySem.W.fnOf "asked" "Late.asked" (defArgs s_Late_asked) (defBody s_Late_asked) (defScope s_Late_asked) .none kV28 dc28 pm28 an28 cd28 ct28), sl28⟩)
    (c28 : PySem.W.codeIn K cd28 "Late.asked" = true)
    (k28 : PySem.W.keepIn K (.ref f28) = true)
    (m29_Late : PySem.W.findIn K (.ref C_Late) "said" = some (some (.ref f29)))
    (fn29 : PySem.W.isFn K (.ref f29) = true)
    (l29 : K.lookup f29 = some ⟨oc29, od29, .func (PySem.W.fnOf "said" "Late.said" (defArgs s_Late_said) (defBody s_Late_said) (defScope s_Late_said) .none kV29 dc29 pm29 an29 cd29 ct29), sl29⟩)
    (c29 : PySem.W.codeIn K cd29 "Late.said" = true)
    (k29 : PySem.W.keepIn K (.ref f29) = true)
    (m30_Take : PySem.W.findIn K (.ref C_Take) "binds" = some (some (.ref f30)))
    (fn30 : PySem.W.isFn K (.ref f30) = true)
    (l30 : K.lookup f30 = some ⟨oc30, od30, .func (PySem.W.fnOf "binds" "Take.binds" (defArgs s_Take_binds) (defBody s_Take_binds) (defScope s_Take_binds) .none kV30 dc30 pm30 an30 cd30 ct30), sl30⟩)
    (c30 : PySem.W.codeIn K cd30 "Take.binds" = true)
    (k30 : PySem.W.keepIn K (.ref f30) = true)
    (m31_Take : PySem.W.findIn K (.ref C_Take) "asked" = some (some (.ref f31)))
    (fn31 : PySem.W.isFn K (.ref f31) = true)
    (l31 : K.lookup f31 = some ⟨oc31, od31, .func (PySem.W.fnOf "asked" "Take.asked" (defArgs s_Take_asked) (defBody s_Take_asked) (defScope s_Take_asked) .none kV31 dc31 pm31 an31 cd31 ct31), sl31⟩)
    (c31 : PySem.W.codeIn K cd31 "Take.asked" = true)
    (k31 : PySem.W.keepIn K (.ref f31) = true)
    (m32_Take : PySem.W.findIn K (.ref C_Take) "said" = some (some (.ref f32)))
    (fn32 : PySem.W.isFn K (.ref f32) = true)
    (l32 : K.lookup f32 = some ⟨oc32, od32, .func (PySem.W.fnOf "said" "Take.said" (defArgs s_Take_said) (defBody s_Take_said) (defScope s_Take_said) .none kV32 dc32 pm32 an32 cd32 ct32), sl32⟩)
    (c32 : PySem.W.codeIn K cd32 "Take.said" = true)
    (k32 : PySem.W.keepIn K (.ref f32) = true)
    (m33_Need : PySem.W.findIn K (.ref C_Need) "binds" = some (some (.ref f33)))
    (m33_Row : PySem.W.findIn K (.ref C_Row) "binds" = some (some (.ref f33)))
    (fn33 : PySem.W.isFn K (.ref f33) = true)
    (l33 : K.lookup f33 = some ⟨oc33, od33, .func (PySem.W.fnOf "binds" "Row.binds" (defArgs s_Row_binds) (defBody s_Row_binds) (defScope s_Row_binds) .none kV33 dc33 pm33 an33 cd33 ct33), sl33⟩)
    (c33 : PySem.W.codeIn K cd33 "Row.binds" = true)
    (k33 : PySem.W.keepIn K (.ref f33) = true)
    (m34_Need : PySem.W.findIn K (.ref C_Need) "said" = some (some (.ref f34)))
    (fn34 : PySem.W.isFn K (.ref f34) = true)
    (l34 : K.lookup f34 = some ⟨oc34, od34, .func (PySem.W.fnOf "said" "Need.said" (defArgs s_Need_said) (defBody s_Need_said) (defScope s_Need_said) .none kV34 dc34 pm34 an34 cd34 ct34), sl34⟩)
    (c34 : PySem.W.codeIn K cd34 "Need.said" = true)
    (k34 : PySem.W.keepIn K (.ref f34) = true)
    (m35_Row : PySem.W.findIn K (.ref C_Row) "said" = some (some (.ref f35)))
    (fn35 : PySem.W.isFn K (.ref f35) = true)
    (l35 : K.lookup f35 = some ⟨oc35, od35, .func (PySem.W.fnOf "said" "Row.said" (defArgs s_Row_said) (defBody s_Row_said) (defScope s_Row_said) .none kV35 dc35 pm35 an35 cd35 ct35), sl35⟩)
    (c35 : PySem.W.codeIn K cd35 "Row.said" = true)
    (k35 : PySem.W.keepIn K (.ref f35) = true)
    (a36 : PySem.W.nsIn K mainGlobals "_law_row" = some (some (.ref f36)))
    (l36 : K.lookup f36 = some ⟨oc36, od36, .func (PySem.W.fnOf "_law_row" "_law_row" (defArgs s_law_row) (defBody s_law_row) (defScope s_law_row) .none kV36 dc36 pm36 an36 cd36 ct36), sl36⟩)
    (c36 : PySem.W.codeIn K cd36 "_law_row" = true)
    (k36 : PySem.W.keepIn K (.ref f36) = true)
    (a37 : PySem.W.nsIn K mainGlobals "_law_said" = some (some (.ref f37)))
    (l37 : K.lookup f37 = some ⟨oc37, od37, .func (PySem.W.fnOf "_law_said" "_law_said" (defArgs s_law_said) (defBody s_law_said) (defScope s_law_said) .none kV37 dc37 pm37 an37 cd37 ct37), sl37⟩)
    (c37 : PySem.W.codeIn K cd37 "_law_said" = true)
    (k37 : PySem.W.keepIn K (.ref f37) = true)
    (a38 : PySem.W.nsIn K mainGlobals "_law_made" = some (some (.ref f38)))
    (l38 : K.lookup f38 = some ⟨oc38, od38, .func (PySem.W.fnOf "_law_made" "_law_made" (defArgs s_law_made) (defBody s_law_made) (defScope s_law_made) .none kV38 dc38 pm38 an38 cd38 ct38), sl38⟩)
    (c38 : PySem.W.codeIn K cd38 "_law_made" = true)
    (k38 : PySem.W.keepIn K (.ref f38) = true)
    (a39 : PySem.W.nsIn K mainGlobals "_law_whole" = some (some (.ref f39)))
    (l39 : K.lookup f39 = some ⟨oc39, od39, .func (PySem.W.fnOf "_law_whole" "_law_whole" (defArgs s_law_whole) (defBody s_law_whole) (defScope s_law_whole) .none kV39 dc39 pm39 an39 cd39 ct39), sl39⟩)
    (c39 : PySem.W.codeIn K cd39 "_law_whole" = true)
    (k39 : PySem.W.keepIn K (.ref f39) = true)
    (a40 : PySem.W.nsIn K mainGlobals "_law_term_is" = some (some (.ref f40)))
    (l40 : K.lookup f40 = some ⟨oc40, od40, .func (PySem.W.fnOf "_law_term_is" "_law_term_is" (defArgs s_law_term_is) (defBody s_law_term_is) (defScope s_law_term_is) .none kV40 dc40 pm40 an40 cd40 ct40), sl40⟩)
    (c40 : PySem.W.codeIn K cd40 "_law_term_is" = true)
    (k40 : PySem.W.keepIn K (.ref f40) = true)
    (a41 : PySem.W.nsIn K mainGlobals "_law_terms_are" = some (some (.ref f41)))
    (l41 : K.lookup f41 = some ⟨oc41, od41, .func (PySem.W.fnOf "_law_terms_are" "_law_terms_are" (defArgs s_law_terms_are) (defBody s_law_terms_are) (defScope s_law_terms_are) .none kV41 dc41 pm41 an41 cd41 ct41), sl41⟩)
    (c41 : PySem.W.codeIn K cd41 "_law_terms_are" = true)
    (k41 : PySem.W.keepIn K (.ref f41) = true)
    (a42 : PySem.W.nsIn K mainGlobals "_law_says" = some (some (.ref f42)))
    (l42 : K.lookup f42 = some ⟨oc42, od42, .func (PySem.W.fnOf "_law_says" "_law_says" (defArgs s_law_says) (defBody s_law_says) (defScope s_law_says) .none kV42 dc42 pm42 an42 cd42 ct42), sl42⟩)
    (c42 : PySem.W.codeIn K cd42 "_law_says" = true)
    (k42 : PySem.W.keepIn K (.ref f42) = true)
    (a43 : PySem.W.nsIn K mainGlobals "_law_is" = some (some (.ref f43)))
    (l43 : K.lookup f43 = some ⟨oc43, od43, .func (PySem.W.fnOf "_law_is" "_law_is" (defArgs s_law_is) (defBody s_law_is) (defScope s_law_is) .none kV43 dc43 pm43 an43 cd43 ct43), sl43⟩)
    (c43 : PySem.W.codeIn K cd43 "_law_is" = true)
    (k43 : PySem.W.keepIn K (.ref f43) = true)
    (a44 : PySem.W.nsIn K mainGlobals "law" = some (some (.ref f44)))
    (l44 : K.lookup f44 = some ⟨oc44, od44, .func (PySem.W.fnOf "law" "law" (defArgs s_law) (defBody s_law) (defScope s_law) .none kV44 dc44 pm44 an44 cd44 ct44), sl44⟩)
    (c44 : PySem.W.codeIn K cd44 "law" = true)
    (k44 : PySem.W.keepIn K (.ref f44) = true)
    (z_all : PySem.W.nsIn K mainGlobals "all" = some none)
    (z_bool : PySem.W.nsIn K mainGlobals "bool" = some none)
    (z_int : PySem.W.nsIn K mainGlobals "int" = some none)
    (z_isinstance : PySem.W.nsIn K mainGlobals "isinstance" = some none)
    (z_len : PySem.W.nsIn K mainGlobals "len" = some none)
    (z_list : PySem.W.nsIn K mainGlobals "list" = some none)
    (z_max : PySem.W.nsIn K mainGlobals "max" = some none)
    (z_min : PySem.W.nsIn K mainGlobals "min" = some none)
    (z_range : PySem.W.nsIn K mainGlobals "range" = some none)
    (z_str : PySem.W.nsIn K mainGlobals "str" = some none)
    (z_tuple : PySem.W.nsIn K mainGlobals "tuple" = some none)
    (z_zip : PySem.W.nsIn K mainGlobals "zip" = some none) :
    ∃ fd : FuncData, (∀ (s : Shared) (u : Value), BindsTo s fd ⟨[u], []⟩ [("_law_script", u)]) ∧ ∀ base : Heap, K.In base → base.Ns mainGlobals mg → FnOk P w K mg base (L2.CX P w) 7 fa fd ["_law_script"] (sp_law K) := by
  have e := hfa.symm.trans (PySem.W.mg_of X G a44)
  cases e
  have cl_Deed : ClsA K "Deed" C_Deed := ⟨qa_Deed, ⟨qb_Deed, qc_Deed, qd_Deed, qe_Deed⟩⟩
  have cl_Draw : ClsA K "Draw" C_Draw := ⟨qa_Draw, ⟨qb_Draw, qc_Draw, qd_Draw, qe_Draw⟩⟩
  have cl_Late : ClsA K "Late" C_Late := ⟨qa_Late, ⟨qb_Late, qc_Late, qd_Late, qe_Late⟩⟩
  have cl_Let : ClsA K "Let" C_Let := ⟨qa_Let, ⟨qb_Let, qc_Let, qd_Let, qe_Let⟩⟩
  have cl_Need : ClsA K "Need" C_Need := ⟨qa_Need, ⟨qb_Need, qc_Need, qd_Need, qe_Need⟩⟩
  have cl_Row : ClsA K "Row" C_Row := ⟨qa_Row, ⟨qb_Row, qc_Row, qd_Row, qe_Row⟩⟩
  have ba_Row : Bare K mg "Row" := ⟨⟨C_Row, cl_Row, ⟨qm_Row, qo_Row, kc_Row⟩, PySem.W.mg_of X G qa_Row⟩⟩
  have cl_Take : ClsA K "Take" C_Take := ⟨qa_Take, ⟨qb_Take, qc_Take, qd_Take, qe_Take⟩⟩
  have fa_Deed_name : FldA K "Deed" "name" := ⟨⟨C_Deed, cl_Deed, qn_Deed_name⟩⟩
  have fa_Deed_terms : FldA K "Deed" "terms" := ⟨⟨C_Deed, cl_Deed, qn_Deed_terms⟩⟩
  have fa_Draw_address : FldA K "Draw" "address" := ⟨⟨C_Draw, cl_Draw, qn_Draw_address⟩⟩
  have fa_Draw_name : FldA K "Draw" "name" := ⟨⟨C_Draw, cl_Draw, qn_Draw_name⟩⟩
  have fa_Late_address : FldA K "Late" "address" := ⟨⟨C_Late, cl_Late, qn_Late_address⟩⟩
  have fa_Late_name : FldA K "Late" "name" := ⟨⟨C_Late, cl_Late, qn_Late_name⟩⟩
  have fa_Let_name : FldA K "Let" "name" := ⟨⟨C_Let, cl_Let, qn_Let_name⟩⟩
  have fa_Let_terms : FldA K "Let" "terms" := ⟨⟨C_Let, cl_Let, qn_Let_terms⟩⟩
  have fa_Need_terms : FldA K "Need" "terms" := ⟨⟨C_Need, cl_Need, qn_Need_terms⟩⟩
  have fa_Take_address : FldA K "Take" "address" := ⟨⟨C_Take, cl_Take, qn_Take_address⟩⟩
  have fa_Take_name : FldA K "Take" "name" := ⟨⟨C_Take, cl_Take, qn_Take_name⟩⟩
  have fa_Take_word : FldA K "Take" "word" := ⟨⟨C_Take, cl_Take, qn_Take_word⟩⟩
  have isa_Deed_Deed : IsA K mg "Deed" "Deed" true := ⟨⟨C_Deed, C_Deed, cl_Deed, ⟨qf_Deed, qg, qh, qi_Deed⟩, PySem.W.mg_of X G qa_Deed, kit_own qk_Deed qj_Deed qs_Deed_Deed (fun _ => rfl)⟩⟩
  have isa_Deed_Draw : IsA K mg "Deed" "Draw" false := ⟨⟨C_Deed, C_Draw, cl_Deed, ⟨qf_Deed, qg, qh, qi_Deed⟩, PySem.W.mg_of X G qa_Draw, kit_own qk_Draw qj_Draw qs_Deed_Draw (fun h => absurd h (by rw [qz_Deed_Draw]; exact Bool.false_ne_true))⟩⟩
  have isa_Deed_Late : IsA K mg "Deed" "Late" false := ⟨⟨C_Deed, C_Late, cl_Deed, ⟨qf_Deed, qg, qh, qi_Deed⟩, PySem.W.mg_of X G qa_Late, kit_own qk_Late qj_Late qs_Deed_Late (fun h => absurd h (by rw [qz_Deed_Late]; exact Bool.false_ne_true))⟩⟩
  have isa_Deed_Let : IsA K mg "Deed" "Let" false := ⟨⟨C_Deed, C_Let, cl_Deed, ⟨qf_Deed, qg, qh, qi_Deed⟩, PySem.W.mg_of X G qa_Let, kit_own qk_Let qj_Let qs_Deed_Let (fun h => absurd h (by rw [qz_Deed_Let]; exact Bool.false_ne_true))⟩⟩
  have isa_Deed_Need : IsA K mg "Deed" "Need" false := ⟨⟨C_Deed, C_Need, cl_Deed, ⟨qf_Deed, qg, qh, qi_Deed⟩, PySem.W.mg_of X G qa_Need, kit_own qk_Need qj_Need qs_Deed_Need (fun h => absurd h (by rw [qz_Deed_Need]; exact Bool.false_ne_true))⟩⟩
  have isa_Deed_Row : IsA K mg "Deed" "Row" true := ⟨⟨C_Deed, C_Row, cl_Deed, ⟨qf_Deed, qg, qh, qi_Deed⟩, PySem.W.mg_of X G qa_Row, kit_own qk_Row qj_Row qs_Deed_Row (fun _ => rfl)⟩⟩
  have isa_Deed_Take : IsA K mg "Deed" "Take" false := ⟨⟨C_Deed, C_Take, cl_Deed, ⟨qf_Deed, qg, qh, qi_Deed⟩, PySem.W.mg_of X G qa_Take, kit_own qk_Take qj_Take qs_Deed_Take (fun h => absurd h (by rw [qz_Deed_Take]; exact Bool.false_ne_true))⟩⟩
  have isa_Draw_Deed : IsA K mg "Draw" "Deed" false := ⟨⟨C_Draw, C_Deed, cl_Draw, ⟨qf_Draw, qg, qh, qi_Draw⟩, PySem.W.mg_of X G qa_Deed, kit_own qk_Deed qj_Deed qs_Draw_Deed (fun h => absurd h (by rw [qz_Draw_Deed]; exact Bool.false_ne_true))⟩⟩
  have isa_Draw_Draw : IsA K mg "Draw" "Draw" true := ⟨⟨C_Draw, C_Draw, cl_Draw, ⟨qf_Draw, qg, qh, qi_Draw⟩, PySem.W.mg_of X G qa_Draw, kit_own qk_Draw qj_Draw qs_Draw_Draw (fun _ => rfl)⟩⟩
  have isa_Draw_Late : IsA K mg "Draw" "Late" false := ⟨⟨C_Draw, C_Late, cl_Draw, ⟨qf_Draw, qg, qh, qi_Draw⟩, PySem.W.mg_of X G qa_Late, kit_own qk_Late qj_Late qs_Draw_Late (fun h => absurd h (by rw [qz_Draw_Late]; exact Bool.false_ne_true))⟩⟩
  have isa_Draw_Let : IsA K mg "Draw" "Let" false := ⟨⟨C_Draw, C_Let, cl_Draw, ⟨qf_Draw, qg, qh, qi_Draw⟩, PySem.W.mg_of X G qa_Let, kit_own qk_Let qj_Let qs_Draw_Let (fun h => absurd h (by rw [qz_Draw_Let]; exact Bool.false_ne_true))⟩⟩
  have isa_Draw_Need : IsA K mg "Draw" "Need" false := ⟨⟨C_Draw, C_Need, cl_Draw, ⟨qf_Draw, qg, qh, qi_Draw⟩, PySem.W.mg_of X G qa_Need, kit_own qk_Need qj_Need qs_Draw_Need (fun h => absurd h (by rw [qz_Draw_Need]; exact Bool.false_ne_true))⟩⟩
  have isa_Draw_Row : IsA K mg "Draw" "Row" true := ⟨⟨C_Draw, C_Row, cl_Draw, ⟨qf_Draw, qg, qh, qi_Draw⟩, PySem.W.mg_of X G qa_Row, kit_own qk_Row qj_Row qs_Draw_Row (fun _ => rfl)⟩⟩
  have isa_Draw_Take : IsA K mg "Draw" "Take" false := ⟨⟨C_Draw, C_Take, cl_Draw, ⟨qf_Draw, qg, qh, qi_Draw⟩, PySem.W.mg_of X G qa_Take, kit_own qk_Take qj_Take qs_Draw_Take (fun h => absurd h (by rw [qz_Draw_Take]; exact Bool.false_ne_true))⟩⟩
  have isa_Late_Deed : IsA K mg "Late" "Deed" false := ⟨⟨C_Late, C_Deed, cl_Late, ⟨qf_Late, qg, qh, qi_Late⟩, PySem.W.mg_of X G qa_Deed, kit_own qk_Deed qj_Deed qs_Late_Deed (fun h => absurd h (by rw [qz_Late_Deed]; exact Bool.false_ne_true))⟩⟩
  have isa_Late_Draw : IsA K mg "Late" "Draw" false := ⟨⟨C_Late, C_Draw, cl_Late, ⟨qf_Late, qg, qh, qi_Late⟩, PySem.W.mg_of X G qa_Draw, kit_own qk_Draw qj_Draw qs_Late_Draw (fun h => absurd h (by rw [qz_Late_Draw]; exact Bool.false_ne_true))⟩⟩
  have isa_Late_Late : IsA K mg "Late" "Late" true := ⟨⟨C_Late, C_Late, cl_Late, ⟨qf_Late, qg, qh, qi_Late⟩, PySem.W.mg_of X G qa_Late, kit_own qk_Late qj_Late qs_Late_Late (fun _ => rfl)⟩⟩
  have isa_Late_Let : IsA K mg "Late" "Let" false := ⟨⟨C_Late, C_Let, cl_Late, ⟨qf_Late, qg, qh, qi_Late⟩, PySem.W.mg_of X G qa_Let, kit_own qk_Let qj_Let qs_Late_Let (fun h => absurd h (by rw [qz_Late_Let]; exact Bool.false_ne_true))⟩⟩
  have isa_Late_Need : IsA K mg "Late" "Need" false := ⟨⟨C_Late, C_Need, cl_Late, ⟨qf_Late, qg, qh, qi_Late⟩, PySem.W.mg_of X G qa_Need, kit_own qk_Need qj_Need qs_Late_Need (fun h => absurd h (by rw [qz_Late_Need]; exact Bool.false_ne_true))⟩⟩
  have isa_Late_Row : IsA K mg "Late" "Row" true := ⟨⟨C_Late, C_Row, cl_Late, ⟨qf_Late, qg, qh, qi_Late⟩, PySem.W.mg_of X G qa_Row, kit_own qk_Row qj_Row qs_Late_Row (fun _ => rfl)⟩⟩
  have isa_Late_Take : IsA K mg "Late" "Take" false := ⟨⟨C_Late, C_Take, cl_Late, ⟨qf_Late, qg, qh, qi_Late⟩, PySem.W.mg_of X G qa_Take, kit_own qk_Take qj_Take qs_Late_Take (fun h => absurd h (by rw [qz_Late_Take]; exact Bool.false_ne_true))⟩⟩
  have isa_Let_Deed : IsA K mg "Let" "Deed" false := ⟨⟨C_Let, C_Deed, cl_Let, ⟨qf_Let, qg, qh, qi_Let⟩, PySem.W.mg_of X G qa_Deed, kit_own qk_Deed qj_Deed qs_Let_Deed (fun h => absurd h (by rw [qz_Let_Deed]; exact Bool.false_ne_true))⟩⟩
  have isa_Let_Draw : IsA K mg "Let" "Draw" false := ⟨⟨C_Let, C_Draw, cl_Let, ⟨qf_Let, qg, qh, qi_Let⟩, PySem.W.mg_of X G qa_Draw, kit_own qk_Draw qj_Draw qs_Let_Draw (fun h => absurd h (by rw [qz_Let_Draw]; exact Bool.false_ne_true))⟩⟩
  have isa_Let_Late : IsA K mg "Let" "Late" false := ⟨⟨C_Let, C_Late, cl_Let, ⟨qf_Let, qg, qh, qi_Let⟩, PySem.W.mg_of X G qa_Late, kit_own qk_Late qj_Late qs_Let_Late (fun h => absurd h (by rw [qz_Let_Late]; exact Bool.false_ne_true))⟩⟩
  have isa_Let_Let : IsA K mg "Let" "Let" true := ⟨⟨C_Let, C_Let, cl_Let, ⟨qf_Let, qg, qh, qi_Let⟩, PySem.W.mg_of X G qa_Let, kit_own qk_Let qj_Let qs_Let_Let (fun _ => rfl)⟩⟩
  have isa_Let_Need : IsA K mg "Let" "Need" false := ⟨⟨C_Let, C_Need, cl_Let, ⟨qf_Let, qg, qh, qi_Let⟩, PySem.W.mg_of X G qa_Need, kit_own qk_Need qj_Need qs_Let_Need (fun h => absurd h (by rw [qz_Let_Need]; exact Bool.false_ne_true))⟩⟩
  have isa_Let_Row : IsA K mg "Let" "Row" true := ⟨⟨C_Let, C_Row, cl_Let, ⟨qf_Let, qg, qh, qi_Let⟩, PySem.W.mg_of X G qa_Row, kit_own qk_Row qj_Row qs_Let_Row (fun _ => rfl)⟩⟩
  have isa_Let_Take : IsA K mg "Let" "Take" false := ⟨⟨C_Let, C_Take, cl_Let, ⟨qf_Let, qg, qh, qi_Let⟩, PySem.W.mg_of X G qa_Take, kit_own qk_Take qj_Take qs_Let_Take (fun h => absurd h (by rw [qz_Let_Take]; exact Bool.false_ne_true))⟩⟩
  have isa_Need_Deed : IsA K mg "Need" "Deed" false := ⟨⟨C_Need, C_Deed, cl_Need, ⟨qf_Need, qg, qh, qi_Need⟩, PySem.W.mg_of X G qa_Deed, kit_own qk_Deed qj_Deed qs_Need_Deed (fun h => absurd h (by rw [qz_Need_Deed]; exact Bool.false_ne_true))⟩⟩
  have isa_Need_Draw : IsA K mg "Need" "Draw" false := ⟨⟨C_Need, C_Draw, cl_Need, ⟨qf_Need, qg, qh, qi_Need⟩, PySem.W.mg_of X G qa_Draw, kit_own qk_Draw qj_Draw qs_Need_Draw (fun h => absurd h (by rw [qz_Need_Draw]; exact Bool.false_ne_true))⟩⟩
  have isa_Need_Late : IsA K mg "Need" "Late" false := ⟨⟨C_Need, C_Late, cl_Need, ⟨qf_Need, qg, qh, qi_Need⟩, PySem.W.mg_of X G qa_Late, kit_own qk_Late qj_Late qs_Need_Late (fun h => absurd h (by rw [qz_Need_Late]; exact Bool.false_ne_true))⟩⟩
  have isa_Need_Let : IsA K mg "Need" "Let" false := ⟨⟨C_Need, C_Let, cl_Need, ⟨qf_Need, qg, qh, qi_Need⟩, PySem.W.mg_of X G qa_Let, kit_own qk_Let qj_Let qs_Need_Let (fun h => absurd h (by rw [qz_Need_Let]; exact Bool.false_ne_true))⟩⟩
  have isa_Need_Need : IsA K mg "Need" "Need" true := ⟨⟨C_Need, C_Need, cl_Need, ⟨qf_Need, qg, qh, qi_Need⟩, PySem.W.mg_of X G qa_Need, kit_own qk_Need qj_Need qs_Need_Need (fun _ => rfl)⟩⟩
  have isa_Need_Row : IsA K mg "Need" "Row" true := ⟨⟨C_Need, C_Row, cl_Need, ⟨qf_Need, qg, qh, qi_Need⟩, PySem.W.mg_of X G qa_Row, kit_own qk_Row qj_Row qs_Need_Row (fun _ => rfl)⟩⟩
  have isa_Need_Take : IsA K mg "Need" "Take" false := ⟨⟨C_Need, C_Take, cl_Need, ⟨qf_Need, qg, qh, qi_Need⟩, PySem.W.mg_of X G qa_Take, kit_own qk_Take qj_Take qs_Need_Take (fun h => absurd h (by rw [qz_Need_Take]; exact Bool.false_ne_true))⟩⟩
  have isa_Take_Deed : IsA K mg "Take" "Deed" false := ⟨⟨C_Take, C_Deed, cl_Take, ⟨qf_Take, qg, qh, qi_Take⟩, PySem.W.mg_of X G qa_Deed, kit_own qk_Deed qj_Deed qs_Take_Deed (fun h => absurd h (by rw [qz_Take_Deed]; exact Bool.false_ne_true))⟩⟩
  have isa_Take_Draw : IsA K mg "Take" "Draw" false := ⟨⟨C_Take, C_Draw, cl_Take, ⟨qf_Take, qg, qh, qi_Take⟩, PySem.W.mg_of X G qa_Draw, kit_own qk_Draw qj_Draw qs_Take_Draw (fun h => absurd h (by rw [qz_Take_Draw]; exact Bool.false_ne_true))⟩⟩
  have isa_Take_Late : IsA K mg "Take" "Late" false := ⟨⟨C_Take, C_Late, cl_Take, ⟨qf_Take, qg, qh, qi_Take⟩, PySem.W.mg_of X G qa_Late, kit_own qk_Late qj_Late qs_Take_Late (fun h => absurd h (by rw [qz_Take_Late]; exact Bool.false_ne_true))⟩⟩
  have isa_Take_Let : IsA K mg "Take" "Let" false := ⟨⟨C_Take, C_Let, cl_Take, ⟨qf_Take, qg, qh, qi_Take⟩, PySem.W.mg_of X G qa_Let, kit_own qk_Let qj_Let qs_Take_Let (fun h => absurd h (by rw [qz_Take_Let]; exact Bool.false_ne_true))⟩⟩
  have isa_Take_Need : IsA K mg "Take" "Need" false := ⟨⟨C_Take, C_Need, cl_Take, ⟨qf_Take, qg, qh, qi_Take⟩, PySem.W.mg_of X G qa_Need, kit_own qk_Need qj_Need qs_Take_Need (fun h => absurd h (by rw [qz_Take_Need]; exact Bool.false_ne_true))⟩⟩
  have isa_Take_Row : IsA K mg "Take" "Row" true := ⟨⟨C_Take, C_Row, cl_Take, ⟨qf_Take, qg, qh, qi_Take⟩, PySem.W.mg_of X G qa_Row, kit_own qk_Row qj_Row qs_Take_Row (fun _ => rfl)⟩⟩
  have isa_Take_Take : IsA K mg "Take" "Take" true := ⟨⟨C_Take, C_Take, cl_Take, ⟨qf_Take, qg, qh, qi_Take⟩, PySem.W.mg_of X G qa_Take, kit_own qk_Take qj_Take qs_Take_Take (fun _ => rfl)⟩⟩
  have F0 := fun_mk (st := s_law_cell) l0 c0 k0
  have b0 := F0.binds (ps := ["_law_script", "_law_k"]) fun _ _ _ _ _ _ us hl => match us, hl with | [_, _], _ => rfl
  have F1 := fun_mk (st := s_law_sub) l1 c1 k1
  have b1 := F1.binds (ps := ["_law_cell_here", "_law_j"]) fun _ _ _ _ _ _ us hl => match us, hl with | [_, _], _ => rfl
  have F2 := fun_mk (st := s_law_number) l2 c2 k2
  have b2 := F2.binds (ps := ["_law_cell_here", "_law_far"]) fun _ _ _ _ _ _ us hl => match us, hl with | [_, _], _ => rfl
  have F3 := fun_mk (st := s_law_pick) l3 c3 k3
  have b3 := F3.binds (ps := ["_law_cell_here", "_law_k", "_law_many"]) fun _ _ _ _ _ _ us hl => match us, hl with | [_, _, _], _ => rfl
  have F4 := fun_mk (st := s_law_name) l4 c4 k4
  have b4 := F4.binds (ps := ["_law_cell_here"]) fun _ _ _ _ _ _ us hl => match us, hl with | [_], _ => rfl
  have F5 := fun_mk (st := s_law_label) l5 c5 k5
  have b5 := F5.binds (ps := ["_law_cell_here"]) fun _ _ _ _ _ _ us hl => match us, hl with | [_], _ => rfl
  have F6 := fun_mk (st := s_law_address) l6 c6 k6
  have b6 := F6.binds (ps := ["_law_cell_here"]) fun _ _ _ _ _ _ us hl => match us, hl with | [_], _ => rfl
  have F7 := fun_mk (st := s_law_term) l7 c7 k7
  have b7 := F7.binds (ps := ["_law_cell_here", "_law_first"]) fun _ _ _ _ _ _ us hl => match us, hl with | [_, _], _ => rfl
  have F8 := fun_mk (st := s_law_terms) l8 c8 k8
  have b8 := F8.binds (ps := ["_law_cell_here"]) fun _ _ _ _ _ _ us hl => match us, hl with | [_], _ => rfl
  have F9 := fun_mk (st := s_law_word) l9 c9 k9
  have b9 := F9.binds (ps := ["_law_term_here"]) fun _ _ _ _ _ _ us hl => match us, hl with | [_], _ => rfl
  have F10 := fun_mk (st := s_law_text) l10 c10 k10
  have b10 := F10.binds (ps := ["_law_terms_here"]) fun _ _ _ _ _ _ us hl => match us, hl with | [_], _ => rfl
  have F11 := fun_mk (st := s_show_term) l11 c11 k11
  have b11 := F11.binds (ps := ["sort", "thing"]) fun _ _ _ _ _ _ us hl => match us, hl with | [_, _], _ => rfl
  have F12 := fun_mk (st := s_show_expr) l12 c12 k12
  have b12 := F12.binds (ps := ["terms"]) fun _ _ _ _ _ _ us hl => match us, hl with | [_], _ => rfl
  have F13 := fun_mk (st := s_Let___init) l13 c13 k13
  have b13 := F13.binds (ps := ["self", "name", "terms"]) fun _ _ _ _ _ _ us hl => match us, hl with | [_, _, _], _ => rfl
  have F14 := fun_mk (st := s_Deed___init) l14 c14 k14
  have b14 := F14.binds (ps := ["self", "name", "terms"]) fun _ _ _ _ _ _ us hl => match us, hl with | [_, _, _], _ => rfl
  have F15 := fun_mk (st := s_Draw___init) l15 c15 k15
  have b15 := F15.binds (ps := ["self", "address", "name"]) fun _ _ _ _ _ _ us hl => match us, hl with | [_, _, _], _ => rfl
  have F16 := fun_mk (st := s_Late___init) l16 c16 k16
  have b16 := F16.binds (ps := ["self", "address", "name"]) fun _ _ _ _ _ _ us hl => match us, hl with | [_, _, _], _ => rfl
  have F17 := fun_mk (st := s_Take___init) l17 c17 k17
  have b17 := F17.binds (ps := ["self", "word", "address", "name"]) fun _ _ _ _ _ _ us hl => match us, hl with | [_, _, _, _], _ => rfl
  have F18 := fun_mk (st := s_Need___init) l18 c18 k18
  have b18 := F18.binds (ps := ["self", "terms"]) fun _ _ _ _ _ _ us hl => match us, hl with | [_, _], _ => rfl
  have F19 := fun_mk (st := s_Let_binds) l19 c19 k19
  have b19 := F19.binds (ps := ["self"]) fun _ _ _ _ _ _ us hl => match us, hl with | [_], _ => rfl
  have F20 := fun_mk (st := s_Row_asked) l20 c20 k20
  have b20 := F20.binds (ps := ["self"]) fun _ _ _ _ _ _ us hl => match us, hl with | [_], _ => rfl
  have F21 := fun_mk (st := s_Let_said) l21 c21 k21
  have b21 := F21.binds (ps := ["self"]) fun _ _ _ _ _ _ us hl => match us, hl with | [_], _ => rfl
  have F22 := fun_mk (st := s_Deed_binds) l22 c22 k22
  have b22 := F22.binds (ps := ["self"]) fun _ _ _ _ _ _ us hl => match us, hl with | [_], _ => rfl
  have F23 := fun_mk (st := s_Deed_said) l23 c23 k23
  have b23 := F23.binds (ps := ["self"]) fun _ _ _ _ _ _ us hl => match us, hl with | [_], _ => rfl
  have F24 := fun_mk (st := s_Draw_binds) l24 c24 k24
  have b24 := F24.binds (ps := ["self"]) fun _ _ _ _ _ _ us hl => match us, hl with | [_], _ => rfl
  have F25 := fun_mk (st := s_Draw_asked) l25 c25 k25
  have b25 := F25.binds (ps := ["self"]) fun _ _ _ _ _ _ us hl => match us, hl with | [_], _ => rfl
  have F26 := fun_mk (st := s_Draw_said) l26 c26 k26
  have b26 := F26.binds (ps := ["self"]) fun _ _ _ _ _ _ us hl => match us, hl with | [_], _ => rfl
  have F27 := fun_mk (st := s_Late_binds) l27 c27 k27
  have b27 := F27.binds (ps := ["self"]) fun _ _ _ _ _ _ us hl => match us, hl with | [_], _ => rfl
  have F28 := fun_mk (st := s_Late_asked) l28 c28 k28
  have b28 := F28.binds (ps := ["self"]) fun _ _ _ _ _ _ us hl => match us, hl with | [_], _ => rfl
  have F29 := fun_mk (st := s_Late_said) l29 c29 k29
  have b29 := F29.binds (ps := ["self"]) fun _ _ _ _ _ _ us hl => match us, hl with | [_], _ => rfl
  have F30 := fun_mk (st := s_Take_binds) l30 c30 k30
  have b30 := F30.binds (ps := ["self"]) fun _ _ _ _ _ _ us hl => match us, hl with | [_], _ => rfl
  have F31 := fun_mk (st := s_Take_asked) l31 c31 k31
  have b31 := F31.binds (ps := ["self"]) fun _ _ _ _ _ _ us hl => match us, hl with | [_], _ => rfl
  have F32 := fun_mk (st := s_Take_said) l32 c32 k32
  have b32 := F32.binds (ps := ["self"]) fun _ _ _ _ _ _ us hl => match us, hl with | [_], _ => rfl
  have F33 := fun_mk (st := s_Row_binds) l33 c33 k33
  have b33 := F33.binds (ps := ["self"]) fun _ _ _ _ _ _ us hl => match us, hl with | [_], _ => rfl
  have F34 := fun_mk (st := s_Need_said) l34 c34 k34
  have b34 := F34.binds (ps := ["self"]) fun _ _ _ _ _ _ us hl => match us, hl with | [_], _ => rfl
  have F35 := fun_mk (st := s_Row_said) l35 c35 k35
  have b35 := F35.binds (ps := ["self"]) fun _ _ _ _ _ _ us hl => match us, hl with | [_], _ => rfl
  have F36 := fun_mk (st := s_law_row) l36 c36 k36
  have b36 := F36.binds (ps := ["_law_cell_here", "_law_name_here"]) fun _ _ _ _ _ _ us hl => match us, hl with | [_, _], _ => rfl
  have F37 := fun_mk (st := s_law_said) l37 c37 k37
  have b37 := F37.binds (ps := ["_law_row_here"]) fun _ _ _ _ _ _ us hl => match us, hl with | [_], _ => rfl
  have F38 := fun_mk (st := s_law_made) l38 c38 k38
  have b38 := F38.binds (ps := ["_law_row_here", "_law_terms_here"]) fun _ _ _ _ _ _ us hl => match us, hl with | [_, _], _ => rfl
  have F39 := fun_mk (st := s_law_whole) l39 c39 k39
  have b39 := F39.binds (ps := ["_law_found"]) fun _ _ _ _ _ _ us hl => match us, hl with | [_], _ => rfl
  have F40 := fun_mk (st := s_law_term_is) l40 c40 k40
  have b40 := F40.binds (ps := ["_law_found", "_law_due"]) fun _ _ _ _ _ _ us hl => match us, hl with | [_, _], _ => rfl
  have F41 := fun_mk (st := s_law_terms_are) l41 c41 k41
  have b41 := F41.binds (ps := ["_law_found", "_law_due"]) fun _ _ _ _ _ _ us hl => match us, hl with | [_, _], _ => rfl
  have F42 := fun_mk (st := s_law_says) l42 c42 k42
  have b42 := F42.binds (ps := ["_law_found", "_law_row_here"]) fun _ _ _ _ _ _ us hl => match us, hl with | [_, _], _ => rfl
  have F43 := fun_mk (st := s_law_is) l43 c43 k43
  have b43 := F43.binds (ps := ["_law_found", "_law_row_here"]) fun _ _ _ _ _ _ us hl => match us, hl with | [_, _], _ => rfl
  have F44 := fun_mk (st := s_law) l44 c44 k44
  have b44 := F44.binds (ps := ["_law_script"]) fun _ _ _ _ _ _ us hl => match us, hl with | [_], _ => rfl
  have m_all := PySem.W.mg_none_of X G z_all
  have m_bool := PySem.W.mg_none_of X G z_bool
  have m_int := PySem.W.mg_none_of X G z_int
  have m_isinstance := PySem.W.mg_none_of X G z_isinstance
  have m_len := PySem.W.mg_none_of X G z_len
  have m_list := PySem.W.mg_none_of X G z_list
  have m_max := PySem.W.mg_none_of X G z_max
  have m_min := PySem.W.mg_none_of X G z_min
  have m_range := PySem.W.mg_none_of X G z_range
  have m_str := PySem.W.mg_none_of X G z_str
  have m_tuple := PySem.W.mg_none_of X G z_tuple
  have m_zip := PySem.W.mg_none_of X G z_zip
  refine ⟨PySem.W.fnOf "law" "law" (defArgs s_law) (defBody s_law) (defScope s_law) .none kV44 dc44 pm44 an44 cd44 ct44, fun s u => .of_eq rfl, fun base _ _ => ?_⟩
  have kn_cell : Kn P w K mg base "_law_cell" 1 (sp_cell K) := ⟨⟨_, _, _, ok_cell F0 m_len, PySem.W.mg_of X G a0, k0, b0⟩⟩
  have kn_sub : Kn P w K mg base "_law_sub" 1 (sp_sub K) := ⟨⟨_, _, _, ok_sub F1, PySem.W.mg_of X G a1, k1, b1⟩⟩
  have kn_number : Kn P w K mg base "_law_number" 1 (sp_number K) := ⟨⟨_, _, _, ok_number F2, PySem.W.mg_of X G a2, k2, b2⟩⟩
  have kn_pick : Kn P w K mg base "_law_pick" 1 (sp_pick K) := ⟨⟨_, _, _, ok_pick F3, PySem.W.mg_of X G a3, k3, b3⟩⟩
  have kn_name : Kn P w K mg base "_law_name" 2 (sp_name K) := ⟨⟨_, _, _, ok_name F4 m_range kn_pick, PySem.W.mg_of X G a4, k4, b4⟩⟩
  have kn_label : Kn P w K mg base "_law_label" 3 (sp_label K) := ⟨⟨_, _, _, ok_label F5 kn_name kn_pick, PySem.W.mg_of X G a5, k5, b5⟩⟩
  have kn_address : Kn P w K mg base "_law_address" 4 (sp_address K) := ⟨⟨_, _, _, ok_address F6 m_range kn_label kn_pick kn_sub, PySem.W.mg_of X G a6, k6, b6⟩⟩
  have kn_term : Kn P w K mg base "_law_term" 4 (sp_term K) := ⟨⟨_, _, _, ok_term F7 m_int m_range m_tuple kn_label kn_number kn_pick kn_sub, PySem.W.mg_of X G a7, k7, b7⟩⟩
  have kn_terms : Kn P w K mg base "_law_terms" 5 (sp_terms K) := ⟨⟨_, _, _, ok_terms F8 m_range kn_pick kn_sub kn_term, PySem.W.mg_of X G a8, k8, b8⟩⟩
  have kn_word : Kn P w K mg base "_law_word" 1 (sp_word K) := ⟨⟨_, _, _, ok_word F9 m_int m_str, PySem.W.mg_of X G a9, k9, b9⟩⟩
  have kn_text : Kn P w K mg base "_law_text" 2 (sp_text K) := ⟨⟨_, _, _, ok_text F10 m_int kn_word, PySem.W.mg_of X G a10, k10, b10⟩⟩
  have kn_show_term : Kn P w K mg base "show_term" 1 (sp_show_term K) := ⟨⟨_, _, _, ok_show_term F11 m_str, PySem.W.mg_of X G a11, k11, b11⟩⟩
  have kn_show_expr : Kn P w K mg base "show_expr" 2 (sp_show_expr K) := ⟨⟨_, _, _, ok_show_expr F12 kn_show_term, PySem.W.mg_of X G a12, k12, b12⟩⟩
  have kn_Let_init : Mkr P w K mg base "Let" 1 (sp_Let_init K) := ⟨⟨C_Let, _, _, _, PySem.W.mg_of X G qa_Let, cl_Let, ⟨qm_Let, m13_Let, fn13, kc_Let⟩, ok_Let_init F13 m_list fa_Let_name fa_Let_terms, b13⟩⟩
  have kn_Deed_init : Mkr P w K mg base "Deed" 1 (sp_Deed_init K) := ⟨⟨C_Deed, _, _, _, PySem.W.mg_of X G qa_Deed, cl_Deed, ⟨qm_Deed, m14_Deed, fn14, kc_Deed⟩, ok_Deed_init F14 m_list fa_Deed_name fa_Deed_terms, b14⟩⟩
  have kn_Draw_init : Mkr P w K mg base "Draw" 1 (sp_Draw_init K) := ⟨⟨C_Draw, _, _, _, PySem.W.mg_of X G qa_Draw, cl_Draw, ⟨qm_Draw, m15_Draw, fn15, kc_Draw⟩, ok_Draw_init F15 fa_Draw_address fa_Draw_name, b15⟩⟩
  have kn_Late_init : Mkr P w K mg base "Late" 1 (sp_Late_init K) := ⟨⟨C_Late, _, _, _, PySem.W.mg_of X G qa_Late, cl_Late, ⟨qm_Late, m16_Late, fn16, kc_Late⟩, ok_Late_init F16 fa_Late_address fa_Late_name, b16⟩⟩
  have kn_Take_init : Mkr P w K mg base "Take" 1 (sp_Take_init K) := ⟨⟨C_Take, _, _, _, PySem.W.mg_of X G qa_Take, cl_Take, ⟨qm_Take, m17_Take, fn17, kc_Take⟩, ok_Take_init F17 fa_Take_address fa_Take_name fa_Take_word, b17⟩⟩
  have kn_Need_init : Mkr P w K mg base "Need" 1 (sp_Need_init K) := ⟨⟨C_Need, _, _, _, PySem.W.mg_of X G qa_Need, cl_Need, ⟨qm_Need, m18_Need, fn18, kc_Need⟩, ok_Need_init F18 m_list fa_Need_terms, b18⟩⟩
  have kn_Let_binds : Mth P w K mg base "Let" "binds" 1 (sp_Let_binds K) := ⟨⟨C_Let, _, _, _, cl_Let, ⟨m19_Let, fn19, k19⟩, ok_Let_binds F19 fa_Let_name, b19⟩⟩
  have kn_Let_asked : Mth P w K mg base "Let" "asked" 1 (sp_Let_asked K) := ⟨⟨C_Let, _, _, _, cl_Let, ⟨m20_Let, fn20, k20⟩, ok_Let_asked F20, b20⟩⟩
  have kn_Let_said : Mth P w K mg base "Let" "said" 3 (sp_Let_said K) := ⟨⟨C_Let, _, _, _, cl_Let, ⟨m21_Let, fn21, k21⟩, ok_Let_said F21 kn_show_expr fa_Let_name fa_Let_terms, b21⟩⟩
  have kn_Deed_binds : Mth P w K mg base "Deed" "binds" 1 (sp_Deed_binds K) := ⟨⟨C_Deed, _, _, _, cl_Deed, ⟨m22_Deed, fn22, k22⟩, ok_Deed_binds F22 fa_Deed_name, b22⟩⟩
  have kn_Deed_asked : Mth P w K mg base "Deed" "asked" 1 (sp_Deed_asked K) := ⟨⟨C_Deed, _, _, _, cl_Deed, ⟨m20_Deed, fn20, k20⟩, ok_Deed_asked F20, b20⟩⟩
  have kn_Deed_said : Mth P w K mg base "Deed" "said" 3 (sp_Deed_said K) := ⟨⟨C_Deed, _, _, _, cl_Deed, ⟨m23_Deed, fn23, k23⟩, ok_Deed_said F23 kn_show_expr fa_Deed_name fa_Deed_terms, b23⟩⟩
  have kn_Draw_binds : Mth P w K mg base "Draw" "binds" 1 (sp_Draw_binds K) := ⟨⟨C_Draw, _, _, _, cl_Draw, ⟨m24_Draw, fn24, k24⟩, ok_Draw_binds F24 fa_Draw_name, b24⟩⟩
  have kn_Draw_asked : Mth P w K mg base "Draw" "asked" 1 (sp_Draw_asked K) := ⟨⟨C_Draw, _, _, _, cl_Draw, ⟨m25_Draw, fn25, k25⟩, ok_Draw_asked F25 fa_Draw_address, b25⟩⟩
  have kn_Draw_said : Mth P w K mg base "Draw" "said" 3 (sp_Draw_said K) := ⟨⟨C_Draw, _, _, _, cl_Draw, ⟨m26_Draw, fn26, k26⟩, ok_Draw_said F26 fa_Draw_address fa_Draw_name, b26⟩⟩
  have kn_Late_binds : Mth P w K mg base "Late" "binds" 1 (sp_Late_binds K) := ⟨⟨C_Late, _, _, _, cl_Late, ⟨m27_Late, fn27, k27⟩, ok_Late_binds F27 fa_Late_name, b27⟩⟩
  have kn_Late_asked : Mth P w K mg base "Late" "asked" 1 (sp_Late_asked K) := ⟨⟨C_Late, _, _, _, cl_Late, ⟨m28_Late, fn28, k28⟩, ok_Late_asked F28 fa_Late_address, b28⟩⟩
  have kn_Late_said : Mth P w K mg base "Late" "said" 3 (sp_Late_said K) := ⟨⟨C_Late, _, _, _, cl_Late, ⟨m29_Late, fn29, k29⟩, ok_Late_said F29 fa_Late_address fa_Late_name, b29⟩⟩
  have kn_Take_binds : Mth P w K mg base "Take" "binds" 1 (sp_Take_binds K) := ⟨⟨C_Take, _, _, _, cl_Take, ⟨m30_Take, fn30, k30⟩, ok_Take_binds F30 fa_Take_name, b30⟩⟩
  have kn_Take_asked : Mth P w K mg base "Take" "asked" 1 (sp_Take_asked K) := ⟨⟨C_Take, _, _, _, cl_Take, ⟨m31_Take, fn31, k31⟩, ok_Take_asked F31 fa_Take_address, b31⟩⟩
  have kn_Take_said : Mth P w K mg base "Take" "said" 3 (sp_Take_said K) := ⟨⟨C_Take, _, _, _, cl_Take, ⟨m32_Take, fn32, k32⟩, ok_Take_said F32 fa_Take_address fa_Take_name fa_Take_word, b32⟩⟩
  have kn_Need_binds : Mth P w K mg base "Need" "binds" 1 (sp_Need_binds K) := ⟨⟨C_Need, _, _, _, cl_Need, ⟨m33_Need, fn33, k33⟩, ok_Need_binds F33, b33⟩⟩
  have kn_Need_asked : Mth P w K mg base "Need" "asked" 1 (sp_Need_asked K) := ⟨⟨C_Need, _, _, _, cl_Need, ⟨m20_Need, fn20, k20⟩, ok_Need_asked F20, b20⟩⟩
  have kn_Need_said : Mth P w K mg base "Need" "said" 3 (sp_Need_said K) := ⟨⟨C_Need, _, _, _, cl_Need, ⟨m34_Need, fn34, k34⟩, ok_Need_said F34 kn_show_expr fa_Need_terms, b34⟩⟩
  have kn_Row_binds : Mth P w K mg base "Row" "binds" 1 (sp_Row_binds K) := ⟨⟨C_Row, _, _, _, cl_Row, ⟨m33_Row, fn33, k33⟩, ok_Row_binds F33, b33⟩⟩
  have kn_Row_asked : Mth P w K mg base "Row" "asked" 1 (sp_Row_asked K) := ⟨⟨C_Row, _, _, _, cl_Row, ⟨m20_Row, fn20, k20⟩, ok_Row_asked F20, b20⟩⟩
  have kn_Row_said : Mth P w K mg base "Row" "said" 3 (sp_Row_said K) := ⟨⟨C_Row, _, _, _, cl_Row, ⟨m35_Row, fn35, k35⟩, ok_Row_said F35, b35⟩⟩
  have kn_row : Kn P w K mg base "_law_row" 6 (sp_row K) := ⟨⟨_, _, _, ok_row F36 m_int kn_address kn_label kn_pick kn_sub kn_terms, PySem.W.mg_of X G a36, k36, b36⟩⟩
  have kn_row_said : Kn P w K mg base "_law_said" 3 (sp_row_said K) := ⟨⟨_, _, _, ok_row_said F37 kn_text, PySem.W.mg_of X G a37, k37, b37⟩⟩
  have kn_made : Kn P w K mg base "_law_made" 3 (sp_made K) := ⟨⟨_, _, _, ok_made F38 kn_Deed_init kn_Draw_init kn_Late_init kn_Let_init kn_Need_init kn_Take_init, PySem.W.mg_of X G a38, k38, b38⟩⟩
  have kn_whole_i : Kn P w K mg base "_law_whole" 1 (sp_whole_i K) := ⟨⟨_, _, _, ok_whole_i F39 m_bool m_int m_isinstance, PySem.W.mg_of X G a39, k39, b39⟩⟩
  have kn_whole_a : Kn P w K mg base "_law_whole" 1 (sp_whole_a K) := ⟨⟨_, _, _, ok_whole_a F39 m_bool m_int m_isinstance, PySem.W.mg_of X G a39, k39, b39⟩⟩
  have kn_term_is : Kn P w K mg base "_law_term_is" 2 (sp_term_is K) := ⟨⟨_, _, _, ok_term_is F40 m_isinstance m_len m_str m_tuple kn_whole_a kn_whole_i, PySem.W.mg_of X G a40, k40, b40⟩⟩
  have kn_terms_are : Kn P w K mg base "_law_terms_are" 3 (sp_terms_are K) := ⟨⟨_, _, _, ok_terms_are F41 m_all m_isinstance m_len m_list m_zip kn_term_is, PySem.W.mg_of X G a41, k41, b41⟩⟩
  have kn_says : Kn P w K mg base "_law_says" 4 (sp_says K) := ⟨⟨_, _, _, ok_says F42 m_int m_isinstance m_list m_str kn_Deed_asked kn_Deed_binds kn_Deed_said kn_Draw_asked kn_Draw_binds kn_Draw_said kn_Late_asked kn_Late_binds kn_Late_said kn_Let_asked kn_Let_binds kn_Let_said kn_Need_asked kn_Need_binds kn_Need_said kn_Take_asked kn_Take_binds kn_Take_said kn_row_said, PySem.W.mg_of X G a42, k42, b42⟩⟩
  have kn_is : Kn P w K mg base "_law_is" 5 (sp_is K) := ⟨⟨_, _, _, ok_is F43 m_isinstance m_str kn_says kn_terms_are fa_Deed_name fa_Deed_terms fa_Draw_address fa_Draw_name fa_Late_address fa_Late_name fa_Let_name fa_Let_terms fa_Need_terms fa_Take_address fa_Take_name fa_Take_word isa_Deed_Deed isa_Deed_Draw isa_Deed_Late isa_Deed_Let isa_Deed_Need isa_Deed_Row isa_Deed_Take isa_Draw_Deed isa_Draw_Draw isa_Draw_Late isa_Draw_Let isa_Draw_Need isa_Draw_Row isa_Draw_Take isa_Late_Deed isa_Late_Draw isa_Late_Late isa_Late_Let isa_Late_Need isa_Late_Row isa_Late_Take isa_Let_Deed isa_Let_Draw isa_Let_Late isa_Let_Let isa_Let_Need isa_Let_Row isa_Let_Take isa_Need_Deed isa_Need_Draw isa_Need_Late isa_Need_Let isa_Need_Need isa_Need_Row isa_Need_Take isa_Take_Deed isa_Take_Draw isa_Take_Late isa_Take_Let isa_Take_Need isa_Take_Row isa_Take_Take, PySem.W.mg_of X G a43, k43, b43⟩⟩
  exact ok_law F44 m_all m_len m_list m_max m_min m_range kn_Row_asked kn_Row_binds kn_Row_said kn_cell kn_is kn_label kn_made kn_row kn_sub ba_Row
theorem walk {l : PySem.W.OpenLaw} {q : Program} {loose : List Str} {XP : (Str → Option Value) → Heap → Prop} {YP : World → Heap → Prop} {d : DefRec} {K : Params → PySem.W.Frag} (hn : l.most = some 63) (hdf : d.params.defaults = [])
    (hY : ∀ (w : World) (h : Heap), YP w h → (K w.params).In h)
    (F : ∀ (w : World) (mg : Str → Option Value) (fa : Addr) (h : Heap), (K w.params).In h → h.Ns mainGlobals mg → mg d.name = some (.ref fa) →
      ∃ fd : FuncData, (∀ (s : Shared) (u : Value), BindsTo s fd ⟨[u], []⟩ [("_law_script", u)]) ∧ ∀ base : Heap, (K w.params).In base → base.Ns mainGlobals mg → FnOk l.prog w (K w.params) mg base (L2.CX l.prog w) 7 fa fd ["_law_script"] (sp_law (K w.params))) :
    PySem.W.WalkO q loose XP YP l.row.toRowW d [] (fun f vs => PySem.call f vs) :=
  L2.walk_of (n := 63) (k := 7) (x := "_law_script") (CX := fun w => L2.CX l.prog w) (sp := fun w => sp_law (K w.params)) hn (by decide) hdf ⟨rfl, by decide, by decide⟩ hY F (fun w H a ns hl _ hS => ⟨ns, H, fun _ _ h => h, .cons (.scr hS) .nil, hl, fun v G' H' _ hi => by
    rw [law_true ns hl] at hi
    cases hi
    rfl⟩) fun w H s e s' z => by
      obtain ⟨_, _, _, _, _, _, _, _, _, _, _, _, z⟩ := z
      exact z
end LawP
open PySem PySem.W PyProof.Rows in
set_option maxRecDepth 100000 in
set_option maxHeartbeats 0 in
theorem PySem.Challenge.cw_drawhouse_k23_what_rows_bind_and_ask_holds : PySem.Challenge.rw_drawhouse_k23_what_rows_bind_and_ask.Holds := by
  w_on; o_law; k_head; (case hw => w_witness2)
  k_fill
  refine LawP.walk (l := PySem.Challenge.rw_drawhouse_k23_what_rows_bind_and_ask) rfl rfl (fun w h Y => PySem.W.kIn_of Y) ?F
  case F =>
    intro w mg fa h KX G hmg
    refine' LawP.all_mk KX G hmg ?qa_Deed ?qb_Deed ?qc_Deed ?qd_Deed ?qe_Deed ?qf_Deed ?qi_Deed ?qj_Deed ?qk_Deed ?qm_Deed ?kc_Deed ?qa_Draw ?qb_Draw ?qc_Draw ?qd_Draw ?qe_Draw ?qf_Draw ?qi_Draw ?qj_Draw ?qk_Draw ?qm_Draw ?kc_Draw ?qa_Late ?qb_Late ?qc_Late ?qd_Late ?qe_Late ?qf_Late ?qi_Late ?qj_Late ?qk_Late ?qm_Late ?kc_Late ?qa_Let ?qb_Let ?qc_Let ?qd_Let ?qe_Let ?qf_Let ?qi_Let ?qj_Let ?qk_Let ?qm_Let ?kc_Let ?qa_Need ?qb_Need ?qc_Need ?qd_Need ?qe_Need ?qf_Need ?qi_Need ?qj_Need ?qk_Need ?qm_Need ?kc_Need ?qa_Row ?qb_Row ?qc_Row ?qd_Row ?qe_Row ?qj_Row ?qk_Row ?qm_Row ?kc_Row ?qo_Row ?qa_Take ?qb_Take ?qc_Take ?qd_Take ?qe_Take ?qf_Take ?qi_Take ?qj_Take ?qk_Take ?qm_Take ?kc_Take ?qg ?qh ?qn_Deed_name ?qn_Deed_terms ?qn_Draw_address ?qn_Draw_name ?qn_Late_address ?qn_Late_name ?qn_Let_name ?qn_Let_terms ?qn_Need_terms ?qn_Take_address ?qn_Take_name ?qn_Take_word ?qs_Deed_Deed ?qs_Deed_Draw ?qz_Deed_Draw ?qs_Deed_Late ?qz_Deed_Late ?qs_Deed_Let ?qz_Deed_Let ?qs_Deed_Need ?qz_Deed_Need ?qs_Deed_Row ?qs_Deed_Take ?qz_Deed_Take ?qs_Draw_Deed ?qz_Draw_Deed ?qs_Draw_Draw ?qs_Draw_Late ?qz_Draw_Late ?qs_Draw_Let ?qz_Draw_Let ?qs_Draw_Need ?qz_Draw_Need ?qs_Draw_Row ?qs_Draw_Take ?qz_Draw_Take ?qs_Late_Deed ?qz_Late_Deed ?qs_Late_Draw ?qz_Late_Draw ?qs_Late_Late ?qs_Late_Let ?qz_Late_Let ?qs_Late_Need ?qz_Late_Need ?qs_Late_Row ?qs_Late_Take ?qz_Late_Take ?qs_Let_Deed ?qz_Let_Deed ?qs_Let_Draw ?qz_Let_Draw ?qs_Let_Late ?qz_Let_Late ?qs_Let_Let ?qs_Let_Need ?qz_Let_Need ?qs_Let_Row ?qs_Let_Take ?qz_Let_Take ?qs_Need_Deed ?qz_Need_Deed ?qs_Need_Draw ?qz_Need_Draw ?qs_Need_Late ?qz_Need_Late ?qs_Need_Let ?qz_Need_Let ?qs_Need_Need ?qs_Need_Row ?qs_Need_Take ?qz_Need_Take ?qs_Take_Deed ?qz_Take_Deed ?qs_Take_Draw ?qz_Take_Draw ?qs_Take_Late ?qz_Take_Late ?qs_Take_Let ?qz_Take_Let ?qs_Take_Need ?qz_Take_Need ?qs_Take_Row ?qs_Take_Take ?a0 ?l0 ?c0 ?k0 ?a1 ?l1 ?c1 ?k1 ?a2 ?l2 ?c2 ?k2 ?a3 ?l3 ?c3 ?k3 ?a4 ?l4 ?c4 ?k4 ?a5 ?l5 ?c5 ?k5 ?a6 ?l6 ?c6 ?k6 ?a7 ?l7 ?c7 ?k7 ?a8 ?l8 ?c8 ?k8 ?a9 ?l9 ?c9 ?k9 ?a10 ?l10 ?c10 ?k10 ?a11 ?l11 ?c11 ?k11 ?a12 ?l12 ?c12 ?k12 ?m13_Let ?fn13 ?l13 ?c13 ?k13 ?m14_Deed ?fn14 ?l14 ?c14 ?k14 ?m15_Draw ?fn15 ?l15 ?c15 ?k15 ?m16_Late ?fn16 ?l16 ?c16 ?k16 ?m17_Take ?fn17 ?l17 ?c17 ?k17 ?m18_Need ?fn18 ?l18 ?c18 ?k18 ?m19_Let ?fn19 ?l19 ?c19 ?k19 ?m20_Let ?m20_Deed ?m20_Need ?m20_Row ?fn20 ?l20 ?c20 ?k20 ?m21_Let ?fn21 ?l21 ?c21 ?k21 ?m22_Deed ?fn22 ?l22 ?c22 ?k22 ?m23_Deed ?fn23 ?l23 ?c23 ?k23 ?m24_Draw ?fn24 ?l24 ?c24 ?k24 ?m25_Draw ?fn25 ?l25 ?c25 ?k25 ?m26_Draw ?fn26 ?l26 ?c26 ?k26 ?m27_Late ?fn27 ?l27 ?c27 ?k27 ?m28_Late ?fn28 ?l28 ?c28 ?k28 ?m29_Late ?fn29 ?l29 ?c29 ?k29 ?m30_Take ?fn30 ?l30 ?c30 ?k30 ?m31_Take ?fn31 ?l31 ?c31 ?k31 ?m32_Take ?fn32 ?l32 ?c32 ?k32 ?m33_Need ?m33_Row ?fn33 ?l33 ?c33 ?k33 ?m34_Need ?fn34 ?l34 ?c34 ?k34 ?m35_Row ?fn35 ?l35 ?c35 ?k35 ?a36 ?l36 ?c36 ?k36 ?a37 ?l37 ?c37 ?k37 ?a38 ?l38 ?c38 ?k38 ?a39 ?l39 ?c39 ?k39 ?a40 ?l40 ?c40 ?k40 ?a41 ?l41 ?c41 ?k41 ?a42 ?l42 ?c42 ?k42 ?a43 ?l43 ?c43 ?k43 ?a44 ?l44 ?c44 ?k44 ?z_all ?z_bool ?z_int ?z_isinstance ?z_len ?z_list ?z_max ?z_min ?z_range ?z_str ?z_tuple ?z_zip
    (case qa_Deed => k_is)
    (case qb_Deed => k_is)
    (case qc_Deed => k_is)
    (case qd_Deed => k_is)
    (case qe_Deed => k_is)
    (case qf_Deed => k_is)
    (case qi_Deed => k_is)
    (case qj_Deed => k_is)
    (case qk_Deed => k_is)
    (case qm_Deed => k_is)
    (case kc_Deed => k_is)
    (case qa_Draw => k_is)
    (case qb_Draw => k_is)
    (case qc_Draw => k_is)
    (case qd_Draw => k_is)
    (case qe_Draw => k_is)
    (case qf_Draw => k_is)
    (case qi_Draw => k_is)
    (case qj_Draw => k_is)
    (case qk_Draw => k_is)
    (case qm_Draw => k_is)
    (case kc_Draw => k_is)
    (case qa_Late => k_is)
    (case qb_Late => k_is)
    (case qc_Late => k_is)
    (case qd_Late => k_is)
    (case qe_Late => k_is)
    (case qf_Late => k_is)
    (case qi_Late => k_is)
    (case qj_Late => k_is)
    (case qk_Late => k_is)
    (case qm_Late => k_is)
    (case kc_Late => k_is)
    (case qa_Let => k_is)
    (case qb_Let => k_is)
    (case qc_Let => k_is)
    (case qd_Let => k_is)
    (case qe_Let => k_is)
    (case qf_Let => k_is)
    (case qi_Let => k_is)
    (case qj_Let => k_is)
    (case qk_Let => k_is)
    (case qm_Let => k_is)
    (case kc_Let => k_is)
    (case qa_Need => k_is)
    (case qb_Need => k_is)
    (case qc_Need => k_is)
    (case qd_Need => k_is)
    (case qe_Need => k_is)
    (case qf_Need => k_is)
    (case qi_Need => k_is)
    (case qj_Need => k_is)
    (case qk_Need => k_is)
    (case qm_Need => k_is)
    (case kc_Need => k_is)
    (case qa_Row => k_is)
    (case qb_Row => k_is)
    (case qc_Row => k_is)
    (case qd_Row => k_is)
    (case qe_Row => k_is)
    (case qj_Row => k_is)
    (case qk_Row => k_is)
    (case qm_Row => k_is)
    (case kc_Row => k_is)
    (case qo_Row => k_is)
    (case qa_Take => k_is)
    (case qb_Take => k_is)
    (case qc_Take => k_is)
    (case qd_Take => k_is)
    (case qe_Take => k_is)
    (case qf_Take => k_is)
    (case qi_Take => k_is)
    (case qj_Take => k_is)
    (case qk_Take => k_is)
    (case qm_Take => k_is)
    (case kc_Take => k_is)
    (case qg => k_is)
    (case qh => k_is)
    (case qn_Deed_name => k_is)
    (case qn_Deed_terms => k_is)
    (case qn_Draw_address => k_is)
    (case qn_Draw_name => k_is)
    (case qn_Late_address => k_is)
    (case qn_Late_name => k_is)
    (case qn_Let_name => k_is)
    (case qn_Let_terms => k_is)
    (case qn_Need_terms => k_is)
    (case qn_Take_address => k_is)
    (case qn_Take_name => k_is)
    (case qn_Take_word => k_is)
    (case qs_Deed_Deed => k_is)
    (case qs_Deed_Draw => k_is)
    (case qz_Deed_Draw => rfl)
    (case qs_Deed_Late => k_is)
    (case qz_Deed_Late => rfl)
    (case qs_Deed_Let => k_is)
    (case qz_Deed_Let => rfl)
    (case qs_Deed_Need => k_is)
    (case qz_Deed_Need => rfl)
    (case qs_Deed_Row => k_is)
    (case qs_Deed_Take => k_is)
    (case qz_Deed_Take => rfl)
    (case qs_Draw_Deed => k_is)
    (case qz_Draw_Deed => rfl)
    (case qs_Draw_Draw => k_is)
    (case qs_Draw_Late => k_is)
    (case qz_Draw_Late => rfl)
    (case qs_Draw_Let => k_is)
    (case qz_Draw_Let => rfl)
    (case qs_Draw_Need => k_is)
    (case qz_Draw_Need => rfl)
    (case qs_Draw_Row => k_is)
    (case qs_Draw_Take => k_is)
    (case qz_Draw_Take => rfl)
    (case qs_Late_Deed => k_is)
    (case qz_Late_Deed => rfl)
    (case qs_Late_Draw => k_is)
    (case qz_Late_Draw => rfl)
    (case qs_Late_Late => k_is)
    (case qs_Late_Let => k_is)
    (case qz_Late_Let => rfl)
    (case qs_Late_Need => k_is)
    (case qz_Late_Need => rfl)
    (case qs_Late_Row => k_is)
    (case qs_Late_Take => k_is)
    (case qz_Late_Take => rfl)
    (case qs_Let_Deed => k_is)
    (case qz_Let_Deed => rfl)
    (case qs_Let_Draw => k_is)
    (case qz_Let_Draw => rfl)
    (case qs_Let_Late => k_is)
    (case qz_Let_Late => rfl)
    (case qs_Let_Let => k_is)
    (case qs_Let_Need => k_is)
    (case qz_Let_Need => rfl)
    (case qs_Let_Row => k_is)
    (case qs_Let_Take => k_is)
    (case qz_Let_Take => rfl)
    (case qs_Need_Deed => k_is)
    (case qz_Need_Deed => rfl)
    (case qs_Need_Draw => k_is)
    (case qz_Need_Draw => rfl)
    (case qs_Need_Late => k_is)
    (case qz_Need_Late => rfl)
    (case qs_Need_Let => k_is)
    (case qz_Need_Let => rfl)
    (case qs_Need_Need => k_is)
    (case qs_Need_Row => k_is)
    (case qs_Need_Take => k_is)
    (case qz_Need_Take => rfl)
    (case qs_Take_Deed => k_is)
    (case qz_Take_Deed => rfl)
    (case qs_Take_Draw => k_is)
    (case qz_Take_Draw => rfl)
    (case qs_Take_Late => k_is)
    (case qz_Take_Late => rfl)
    (case qs_Take_Let => k_is)
    (case qz_Take_Let => rfl)
    (case qs_Take_Need => k_is)
    (case qz_Take_Need => rfl)
    (case qs_Take_Row => k_is)
    (case qs_Take_Take => k_is)
    (case a0 => k_is)
    (case l0 => k_is)
    (case c0 => k_is)
    (case k0 => k_is)
    (case a1 => k_is)
    (case l1 => k_is)
    (case c1 => k_is)
    (case k1 => k_is)
    (case a2 => k_is)
    (case l2 => k_is)
    (case c2 => k_is)
    (case k2 => k_is)
    (case a3 => k_is)
    (case l3 => k_is)
    (case c3 => k_is)
    (case k3 => k_is)
    (case a4 => k_is)
    (case l4 => k_is)
    (case c4 => k_is)
    (case k4 => k_is)
    (case a5 => k_is)
    (case l5 => k_is)
    (case c5 => k_is)
    (case k5 => k_is)
    (case a6 => k_is)
    (case l6 => k_is)
    (case c6 => k_is)
    (case k6 => k_is)
    (case a7 => k_is)
    (case l7 => k_is)
    (case c7 => k_is)
    (case k7 => k_is)
    (case a8 => k_is)
    (case l8 => k_is)
    (case c8 => k_is)
    (case k8 => k_is)
    (case a9 => k_is)
    (case l9 => k_is)
    (case c9 => k_is)
    (case k9 => k_is)
    (case a10 => k_is)
    (case l10 => k_is)
    (case c10 => k_is)
    (case k10 => k_is)
    (case a11 => k_is)
    (case l11 => k_is)
    (case c11 => k_is)
    (case k11 => k_is)
    (case a12 => k_is)
    (case l12 => k_is)
    (case c12 => k_is)
    (case k12 => k_is)
    (case m13_Let => k_is)
    (case fn13 => k_is)
    (case l13 => k_is)
    (case c13 => k_is)
    (case k13 => k_is)
    (case m14_Deed => k_is)
    (case fn14 => k_is)
    (case l14 => k_is)
    (case c14 => k_is)
    (case k14 => k_is)
    (case m15_Draw => k_is)
    (case fn15 => k_is)
    (case l15 => k_is)
    (case c15 => k_is)
    (case k15 => k_is)
    (case m16_Late => k_is)
    (case fn16 => k_is)
    (case l16 => k_is)
    (case c16 => k_is)
    (case k16 => k_is)
    (case m17_Take => k_is)
    (case fn17 => k_is)
    (case l17 => k_is)
    (case c17 => k_is)
    (case k17 => k_is)
    (case m18_Need => k_is)
    (case fn18 => k_is)
    (case l18 => k_is)
    (case c18 => k_is)
    (case k18 => k_is)
    (case m19_Let => k_is)
    (case fn19 => k_is)
    (case l19 => k_is)
    (case c19 => k_is)
    (case k19 => k_is)
    (case m20_Let => k_is)
    (case m20_Deed => k_is)
    (case m20_Need => k_is)
    (case m20_Row => k_is)
    (case fn20 => k_is)
    (case l20 => k_is)
    (case c20 => k_is)
    (case k20 => k_is)
    (case m21_Let => k_is)
    (case fn21 => k_is)
    (case l21 => k_is)
    (case c21 => k_is)
    (case k21 => k_is)
    (case m22_Deed => k_is)
    (case fn22 => k_is)
    (case l22 => k_is)
    (case c22 => k_is)
    (case k22 => k_is)
    (case m23_Deed => k_is)
    (case fn23 => k_is)
    (case l23 => k_is)
    (case c23 => k_is)
    (case k23 => k_is)
    (case m24_Draw => k_is)
    (case fn24 => k_is)
    (case l24 => k_is)
    (case c24 => k_is)
    (case k24 => k_is)
    (case m25_Draw => k_is)
    (case fn25 => k_is)
    (case l25 => k_is)
    (case c25 => k_is)
    (case k25 => k_is)
    (case m26_Draw => k_is)
    (case fn26 => k_is)
    (case l26 => k_is)
    (case c26 => k_is)
    (case k26 => k_is)
    (case m27_Late => k_is)
    (case fn27 => k_is)
    (case l27 => k_is)
    (case c27 => k_is)
    (case k27 => k_is)
    (case m28_Late => k_is)
    (case fn28 => k_is)
    (case l28 => k_is)
    (case c28 => k_is)
    (case k28 => k_is)
    (case m29_Late => k_is)
    (case fn29 => k_is)
    (case l29 => k_is)
    (case c29 => k_is)
    (case k29 => k_is)
    (case m30_Take => k_is)
    (case fn30 => k_is)
    (case l30 => k_is)
    (case c30 => k_is)
    (case k30 => k_is)
    (case m31_Take => k_is)
    (case fn31 => k_is)
    (case l31 => k_is)
    (case c31 => k_is)
    (case k31 => k_is)
    (case m32_Take => k_is)
    (case fn32 => k_is)
    (case l32 => k_is)
    (case c32 => k_is)
    (case k32 => k_is)
    (case m33_Need => k_is)
    (case m33_Row => k_is)
    (case fn33 => k_is)
    (case l33 => k_is)
    (case c33 => k_is)
    (case k33 => k_is)
    (case m34_Need => k_is)
    (case fn34 => k_is)
    (case l34 => k_is)
    (case c34 => k_is)
    (case k34 => k_is)
    (case m35_Row => k_is)
    (case fn35 => k_is)
    (case l35 => k_is)
    (case c35 => k_is)
    (case k35 => k_is)
    (case a36 => k_is)
    (case l36 => k_is)
    (case c36 => k_is)
    (case k36 => k_is)
    (case a37 => k_is)
    (case l37 => k_is)
    (case c37 => k_is)
    (case k37 => k_is)
    (case a38 => k_is)
    (case l38 => k_is)
    (case c38 => k_is)
    (case k38 => k_is)
    (case a39 => k_is)
    (case l39 => k_is)
    (case c39 => k_is)
    (case k39 => k_is)
    (case a40 => k_is)
    (case l40 => k_is)
    (case c40 => k_is)
    (case k40 => k_is)
    (case a41 => k_is)
    (case l41 => k_is)
    (case c41 => k_is)
    (case k41 => k_is)
    (case a42 => k_is)
    (case l42 => k_is)
    (case c42 => k_is)
    (case k42 => k_is)
    (case a43 => k_is)
    (case l43 => k_is)
    (case c43 => k_is)
    (case k43 => k_is)
    (case a44 => k_is)
    (case l44 => k_is)
    (case c44 => k_is)
    (case k44 => k_is)
    (case z_all => k_is)
    (case z_bool => k_is)
    (case z_int => k_is)
    (case z_isinstance => k_is)
    (case z_len => k_is)
    (case z_list => k_is)
    (case z_max => k_is)
    (case z_min => k_is)
    (case z_range => k_is)
    (case z_str => k_is)
    (case z_tuple => k_is)
    (case z_zip => k_is)

